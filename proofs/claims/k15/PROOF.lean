import PyProof.Rows.All
import Wide.All
import OpenK.AllK
import Wide.FinOn
import HandS.ForMost
import HandS.Walk
import HandS.More
import HandS.DictComp
import HandS.TupLen
import KE.KeyNested
import KE.KDictKeyed
import HandS.ForExc
import HandS.Flow
import HandS.CallSlots
import HandS.IsInst
import HandS.TupAny
import HandS.TupMul
import HandS.TupLe
import HandS.Style
import HandS.Conv
import HandS.Deep
import HandS.Zip
import HandS.ExcInit
import HandS.Strs
import HandS.SetKeys
import HandS.WideBits
import KE.LtData
import KE.SortData
import KE.GoesEnum
import KE.GoesMore
import HandS.Iter
import KE.LtSeq
import KE.SortCalls
import HandS.TryMany
import HandS.Dict
import HandS.Text
import KE.KDictSum
import KE.KDictCopyH
import HandS.ExcOwn
import HandS.ExcValue
import KE.KDictDisplayH
import KE.KDictList
import PyProof.StrBlock2
import HandS.ExcField
import HandS.ExcIs
import PyProof.ReprRoads
import PyProof.CallFns
import PySem.Challenge.RW_untoldgames_k15_aims_judged
set_option Elab.async false
set_option linter.all false
set_option maxRecDepth 100000
set_option maxHeartbeats 4000000
namespace ND
open PySem PySem.Spec PyProof.Rows L2
mutual
def KAt (H : Hp) : NestedKey → V → Prop
  | .none, v => v = .non
  | .num i, v => v = .int i
  | .text x, v => v = .str x ∧ x.length ≤ sizeLine ∧ PyData.strOk x = true
  | .tup ks, v => ∃ a vs, v = .ref a ∧ H a = some (.tup vs) ∧ vs.length ≤ sizeLine ∧ KAtL H ks vs
def KAtL (H : Hp) : List NestedKey → List V → Prop
  | [], vs => vs = []
  | k :: ks, vs => ∃ v r, vs = v :: r ∧ KAt H k v ∧ KAtL H ks r
end
mutual
theorem KAt.mono {H H' : Hp} (h : ∀ b xs, H b = some (.tup xs) → H' b = some (.tup xs)) : ∀ (k : NestedKey) {v : V}, KAt H k v → KAt H' k v
  | .none, _, r => by simpa [KAt] using r
  | .num i, _, r => by simpa [KAt] using r
  | .text x, _, r => by simpa [KAt] using r
  | .tup ks, _, r => by
    simp only [KAt] at r ⊢
    obtain ⟨a, vs, e, ha, l, q⟩ := r
    exact ⟨a, vs, e, h _ _ ha, l, KAtL.mono h ks q⟩
theorem KAtL.mono {H H' : Hp} (h : ∀ b xs, H b = some (.tup xs) → H' b = some (.tup xs)) : ∀ (ks : List NestedKey) {vs : List V}, KAtL H ks vs → KAtL H' ks vs
  | [], _, r => by simpa [KAtL] using r
  | k :: ks, _, r => by
    simp only [KAtL] at r ⊢
    obtain ⟨v, t, e, a, b⟩ := r
    exact ⟨v, t, e, KAt.mono h k a, KAtL.mono h ks b⟩
end
mutual
theorem KAt.is {P : Program} {w : World} {H : Hp} {h : Heap} (ok : HOk P w H h) : ∀ (k : NestedKey) {v : V} {u : Value}, KAt H k v → RelV v u → NestedIs h k u
  | .none, _, _, r, q => by
    simp only [KAt] at r; subst r
    obtain rfl : _ = Value.none := q
    exact .none
  | .num i, _, _, r, q => by
    simp only [KAt] at r; subst r
    obtain ⟨t, rfl⟩ := (show ∃ t, _ = Value.int i t from q)
    exact .int i t
  | .text x, _, _, r, q => by
    simp only [KAt] at r; obtain ⟨rfl, _⟩ := r
    obtain ⟨t, rfl⟩ := (show ∃ t, _ = Value.str x t from q)
    exact .text x t
  | .tup ks, _, _, r, q => by
    simp only [KAt] at r
    obtain ⟨a, vs, rfl, ha, _, l⟩ := r
    obtain rfl : _ = Value.ref a := q
    obtain ⟨_, its, rv, o, h1, h2, n, h3⟩ := (show ObjOk P w H h a (.tup vs) from ok a _ ha)
    exact .tup h1 h2 h3 (by simpa using KAtL.is ok ks l rv)
theorem KAtL.is {P : Program} {w : World} {H : Hp} {h : Heap} (ok : HOk P w H h) : ∀ (ks : List NestedKey) {vs : List V} {us : List Value}, KAtL H ks vs → Vals vs us → NestedAll h ks us
  | [], _, _, r, q => by
    simp only [KAtL] at r; subst r; cases q; exact .nil
  | k :: ks, _, _, r, q => by
    simp only [KAtL] at r
    obtain ⟨v, t, rfl, a, b⟩ := r
    cases q with | cons q1 q2 => exact .cons (KAt.is ok k a q1) (KAtL.is ok ks b q2)
end
abbrev NL := List (List NestedKey × Addr × V)
def NPair : NL → List (NestedKey × Addr × Value) → Prop := Paired fun p q => .tup p.1 = q.1 ∧ p.2.1 = q.2.1 ∧ RelV p.2.2 q.2.2
def dN (P : Program) (w : World) (a : Addr) (l : NL) : HO := .ext fun h => l.length ≤ sizeLine ∧ (a == sysModules) = false ∧ ∃ xs, NPair l xs ∧
  ∃ o es ep, h.get? a = some o ∧ o.ExactDict ∧ o.data = .dict es ep ∧ es.toList = xs.map (entryOfKey (nestedKind P w)) ∧ (xs.map (·.1)).Nodup
def KsAt (H : Hp) (l : NL) : Prop := ∀ p ∈ l, KAt H (.tup p.1) (.ref p.2.1) ∧ (NestedKey.tup p.1).depth ≤ 8
theorem KsAt.mono {H H' : Hp} {l : NL} (h : ∀ b xs, H b = some (.tup xs) → H' b = some (.tup xs)) (k : KsAt H l) : KsAt H' l := fun p hp => ⟨(k p hp).1.mono h _, (k p hp).2⟩
def nkv (l : NL) : List (List NestedKey × V) := l.map fun p => (p.1, p.2.2)
theorem NPair.val {l : NL} {xs : List (NestedKey × Addr × Value)} (r : NPair l xs) (k : List NestedKey) : RelO (valV (nkv l) k) ((atKey xs (.tup k)).map (·.2)) := by
  unfold NPair at r
  induction r with
  | nil => exact True.intro
  | @cons p q ps qs h t ih =>
    obtain ⟨h1, _, h2⟩ := h
    by_cases e : p.1 = k
    · have e' : q.1 = .tup k := h1.symm.trans (by rw [e])
      have b : atKey (q :: qs) (.tup k) = some q.2 := by simp [atKey, List.find?_cons, e']
      show RelO (valV ((p.1, p.2.2) :: nkv ps) k) _
      rw [valV_pos e, b]; exact h2
    · have e' : ¬ q.1 = .tup k := fun z => e (by have := h1.trans z; injection this)
      have b : atKey (q :: qs) (.tup k) = atKey qs (.tup k) := by simp [atKey, List.find?_cons, e']
      show RelO (valV ((p.1, p.2.2) :: nkv ps) k) _
      rw [valV_neg e, b]; exact ih
def putN (l : NL) (k : List NestedKey) (b : Addr) (v : V) : NL := if l.any (fun p => decide (p.1 = k)) = true then l.map fun p => if p.1 = k then (p.1, p.2.1, v) else p else l ++ [(k, b, v)]
theorem putN_ne {l : NL} {k : List NestedKey} {b : Addr} {v : V} : putN l k b v ≠ [] := by
  unfold putN
  split
  · rename_i h
    cases l with
    | nil => cases h
    | cons a b => simp
  · simp
theorem putN_len (l : NL) (k : List NestedKey) (b : Addr) (v : V) : (putN l k b v).length ≤ l.length + 1 := by
  unfold putN
  split
  · rw [List.length_map]; omega
  · rw [List.length_append]; simp
theorem NPair.put {l : NL} {xs : List (NestedKey × Addr × Value)} (r : NPair l xs) (k : List NestedKey) {b : Addr} {y : V} {u : Value} (ry : RelV y u) : NPair (putN l k b y) (storedH xs (.tup k) b u) := by
  have e : l.any (fun p => decide (p.1 = k)) = (atKey xs (.tup k)).isSome := by
    have h := (r.val k).isSome_eq
    rw [Option.isSome_map] at h
    rw [← h, ← valV_any]
    unfold nkv
    rw [List.any_map]; rfl
  unfold putN storedH
  rw [e]
  by_cases q : (atKey xs (.tup k)).isSome = true
  · rw [if_pos q, if_pos q]
    clear e q
    unfold NPair at *
    induction r with
    | nil => exact .nil
    | @cons p q ps qs h t ih =>
      rw [List.map_cons, List.map_cons]
      refine .cons ?_ ih
      obtain ⟨h1, h2, h3⟩ := h
      unfold putAt
      by_cases e : p.1 = k
      · rw [if_pos e, if_pos (h1.symm.trans (by rw [e]))]; exact ⟨h1, h2, ry⟩
      · rw [if_neg e, if_neg (fun z => e (by have := h1.trans z; injection this))]; exact ⟨h1, h2, h3⟩
  · rw [if_neg q, if_neg q]; exact Paired.snoc r ⟨rfl, rfl, ry⟩
theorem KsAt.put {H : Hp} {l : NL} {k : List NestedKey} {b : Addr} {v : V} (h : KsAt H l) (hk : KAt H (.tup k) (.ref b)) (hd : (NestedKey.tup k).depth ≤ 8) : KsAt H (putN l k b v) := by
  unfold putN
  split
  · intro p hp
    obtain ⟨q, hq, rfl⟩ := List.mem_map.mp hp
    have := h q hq
    split <;> exact this
  · intro p hp
    rcases List.mem_append.mp hp with hp | hp
    · exact h p hp
    · rw [List.mem_singleton.mp hp]; exact ⟨hk, hd⟩
section
variable {P : Program} {w : World} {H : Hp} {h : Heap} {a : Addr} {l : NL}
theorem dn_rd (ok : HOk P w H h) (e : Rd H a (dN P w a l)) (hk : KsAt H l) : l.length ≤ sizeLine ∧ (a == sysModules) = false ∧ ∃ xs, NPair l xs ∧ h.DictOfH (nestedKind P w) a xs := by
  obtain ⟨⟨z, y, xs, r, o, es, ep, h1, h2, h3, h4, h5⟩, _⟩ := (show ObjOk P w H h a (dN P w a l) from rd_of ok e)
  refine ⟨z, y, xs, r, o, es, ep, h1, h2, h3, h4, fun x hx => ?_, h5⟩
  have all : ∀ {l : NL} {m : List (NestedKey × Addr × Value)}, NPair l m → KsAt H l → ∀ x ∈ m, (nestedKind P w).is h x.1 x.2.1 := by
    intro l m q
    unfold NPair at q
    induction q with
    | nil => intro _ x hx; exact nomatch hx
    | @cons p q ps qs hq t ih =>
      intro ka x hx
      rcases List.mem_cons.mp hx with e | hx
      · subst e
        obtain ⟨g1, g2⟩ := ka p List.mem_cons_self
        rw [← hq.1, ← hq.2.1]
        exact ⟨g1.is ok _ rfl, g2⟩
      · exact ih (fun p hp => ka p (List.mem_cons_of_mem _ hp)) x hx
  exact all r hk x hx
theorem dn_new {H' : Hp} {h' : Heap} {xs : List (NestedKey × Addr × Value)} (z : l.length ≤ sizeLine) (hd : (a == sysModules) = false) (rel : NPair l xs) (dd : h'.DictOfH (nestedKind P w) a xs) : ObjOk P w H' h' a (dN P w a l) := by
  obtain ⟨o, es, ep, h1, h2, h3, h4, _, h5⟩ := dd
  exact ⟨⟨z, hd, xs, rel, o, es, ep, h1, h2, h3, h4, h5⟩, ⟨o, h1⟩, fun _ _ ⟨z, hd, xs, r, o, es, ep, e, q⟩ k => ⟨z, hd, xs, r, o, es, ep, k _ e, q⟩⟩
theorem dn_empty (ok : HOk P w H h) (e : Rd H a (.dK [])) : (a == sysModules) = false ∧ h.DictOfH (nestedKind P w) a [] := by
  obtain ⟨_, hd, vs, r, o, es, ep, h1, h2, h3, h4, h5, h6⟩ := (show ObjOk P w H h a (.dK []) from rd_of ok e)
  cases r
  have hes : es.toList = [] := by
    have := h5.length
    exact List.length_eq_zero_iff.mp this
  exact ⟨hd, o, es, ep, h1, h2, h3, by rw [hes]; rfl, fun x hx => (List.not_mem_nil hx).elim, List.nodup_nil⟩
end
def NGet (P : Program) (w : World) (H : Hp) (a : Addr) (y : V) (r : Option V) : Prop := ∃ k, KAt H (.tup k) y ∧ (NestedKey.tup k).depth ≤ 8 ∧
  ((∃ l, Rd H a (dN P w a l) ∧ KsAt H l ∧ r = valV (nkv l) k) ∨ (Rd H a (.dK []) ∧ r = none))
section
variable {X : Cx} {pins : List (Addr × Obj)} {σ : L2.St} {H : Hp} {s : Shared} {a : Addr} {y v : V} {u r : Value} {o : Option V} {A : Around} {E : Value → Shared → Prop}
theorem NGet.at (I : Inv X pins σ H s) (g : NGet X.prog X.w H a y o) (ry : RelV y u) : ∃ b k xs, u = .ref b ∧ (nestedKind X.prog X.w).is s.heap (.tup k) b ∧ (a == sysModules) = false ∧ s.heap.DictOfH (nestedKind X.prog X.w) a xs ∧ RelO o ((atKey xs (.tup k)).map (·.2)) := by
  obtain ⟨k, hk, hd, g⟩ := g
  have hk2 := hk
  simp only [KAt] at hk2
  obtain ⟨b, vs, rfl, hb, _⟩ := hk2
  obtain rfl : u = Value.ref b := ry
  have ki : (nestedKind X.prog X.w).is s.heap (.tup k) b := ⟨hk.is I.hok _ rfl, hd⟩
  rcases g with ⟨l, rd, ka, rfl⟩ | ⟨rd, rfl⟩
  · obtain ⟨z, hs, xs, rel, dd⟩ := dn_rd I.hok rd ka
    exact ⟨b, k, xs, rfl, ki, hs, dd, rel.val k⟩
  · obtain ⟨hs, dd⟩ := dn_empty I.hok rd
    exact ⟨b, k, [], rfl, ki, hs, dd, trivial⟩
theorem NGet.type (I : Inv X pins σ H s) (g : NGet X.prog X.w H a y o) (ry : RelV y u) : s.TypeIs (.ref a) "dict" := by
  obtain ⟨b, k, xs, _, _, _, dd, _⟩ := g.at I ry
  exact dd.typeIs
theorem n_getItem {Q : Value → Shared → Prop} (hu : A.units + 9 < cLine) (I : Inv X pins σ H s) (g : NGet X.prog X.w H a y (some v)) (ry : RelV y u) (h : ∀ w' s', Inv X pins σ H s' → RelV v w' → Q w' s') :
    wpAny (model X.prog X.w) A (getItem (.ref a) u) Q E s := by
  obtain ⟨b, k, xs, rfl, ki, hs, dd, rel⟩ := g.at I ry
  obtain ⟨w', hw, rw'⟩ := RelO.some_of (v := v) (o := (atKey xs (.tup k)).map (·.2)) rel
  obtain ⟨p, hp, hp2⟩ := Option.map_eq_some_iff.mp hw
  refine wpAny_getItem_heap (by show A.in1.units + 8 < cLine; rw [Around.in1_units]; omega) ki dd hp ?_
  rw [hp2]
  exact h w' _ (I.tok _) rw'
theorem n_in {Q : Value → Shared → Prop} (hu : A.units + 9 < cLine) (I : Inv X pins σ H s) (g : NGet X.prog X.w H a y o) (ry : RelV y u) (h : ∀ s', Inv X pins σ H s' → Q (.bool o.isSome) s') :
    wpAny (model X.prog X.w) A (compareOp .In u (.ref a)) Q E s := by
  obtain ⟨b, k, xs, rfl, ki, hs, dd, rel⟩ := g.at I ry
  refine wpAny_in_heap (by show A.in1.units + 8 < cLine; rw [Around.in1_units]; omega) ki hs dd ?_
  have q := rel.isSome_eq
  rw [Option.isSome_map] at q
  rw [← q]
  exact h _ (I.tok _)
theorem n_notIn {Q : Value → Shared → Prop} (hu : A.units + 9 < cLine) (I : Inv X pins σ H s) (g : NGet X.prog X.w H a y o) (ry : RelV y u) (h : ∀ s', Inv X pins σ H s' → Q (.bool (!o.isSome)) s') :
    wpAny (model X.prog X.w) A (compareOp .NotIn u (.ref a)) Q E s := by
  obtain ⟨b, k, xs, rfl, ki, hs, dd, rel⟩ := g.at I ry
  show wpAny _ _ (do return .bool (!(← contains (.ref a) (.ref b)))) Q E s
  refine wpAny_bind (wpAny_contains_heap (by show A.in1.units + 8 < cLine; rw [Around.in1_units]; omega) ki hs dd (wpAny_pure ?_))
  have q := rel.isSome_eq
  rw [Option.isSome_map] at q
  rw [← q]
  exact h _ (I.tok _)
def NPut (P : Program) (w : World) (H : Hp) (a : Addr) (y v : V) (H' : Hp) : Prop := ∃ k b l, y = .ref b ∧ KAt H (.tup k) y ∧ (NestedKey.tup k).depth ≤ 8 ∧ l.length < sizeLine ∧
  ((H a = some (dN P w a l) ∧ KsAt H l) ∨ (H a = some (.dK []) ∧ l = [])) ∧ H' = upd H a (dN P w a (putN l k b v))
theorem NPut.at {H' : Hp} (I : Inv X pins σ H s) (g : NPut X.prog X.w H a y v H') (ry : RelV y u) : ∃ b k l xs, u = .ref b ∧ (nestedKind X.prog X.w).is s.heap (.tup k) b ∧ (a == sysModules) = false ∧ s.heap.DictOfH (nestedKind X.prog X.w) a xs ∧ NPair l xs ∧ l.length < sizeLine ∧ Mut (H a) ∧
    H' = upd H a (dN X.prog X.w a (putN l k b v)) := by
  obtain ⟨k, b, l, rfl, hk, hd, hl, g, eH⟩ := g
  obtain rfl : u = Value.ref b := ry
  have ki : (nestedKind X.prog X.w).is s.heap (.tup k) b := ⟨hk.is I.hok _ rfl, hd⟩
  rcases g with ⟨e, ka⟩ | ⟨e, rfl⟩
  · obtain ⟨z, hs, xs, rel, dd⟩ := dn_rd I.hok (.inl e) ka
    exact ⟨b, k, l, xs, rfl, ki, hs, dd, rel, hl, by rw [e]; exact True.intro, eH⟩
  · obtain ⟨hs, dd⟩ := dn_empty I.hok (.inl e)
    exact ⟨b, k, [], [], rfl, ki, hs, dd, .nil, hl, by rw [e]; exact True.intro, eH⟩
end
section
variable {X : Cx} {o i value : Expr} {td ty tv : TE} {pos pos' : Pos}
theorem len_dN : CallR X (.builtin "len") (fun xs H Q => ∃ a l, xs = [V.ref a] ∧ Rd H a (dN X.prog X.w a l) ∧ KsAt H l ∧ Q (.int (l.length : Nat)) H) := by
  intro pins s σ H xs us Q I r h
  obtain ⟨a, l, rfl, ha, ka, q⟩ := h
  obtain ⟨u, rfl, ru⟩ := vals1 r
  cases ru
  obtain ⟨z, hd, xs, rel, dd⟩ := dn_rd I.hok ha ka
  have hl := Paired.length rel
  refine PySem.call_len_dictH hd dd (by rw [← hl]; rw [sizeLine_eq] at z; omega) ?_
  rw [← hl]
  exact ⟨.int ((l.length : Nat) : Int), H, I.tok _, ⟨_, rfl⟩, q⟩
theorem n_dictSet {pins : List (Addr × Obj)} {σ : L2.St} {H H' : Hp} {s : Shared} {E : Value → Shared → Prop} {a : Addr} {y v : V} {u r : Value} {Q : Unit → Shared → Prop} (hu : X.A.units + 8 < cLine) (I : Inv X pins σ H s) (g : NPut X.prog X.w H a y v H') (ry : RelV y u) (rv : RelV v r) (h : ∀ s', Inv X pins σ H' s' → Q () s') :
    wpAny (model X.prog X.w) X.A (dictSet a u r) Q E s := by
  obtain ⟨b, k, l, xs, rfl, ki, hs, dd, rel, hl, mu, rfl⟩ := g.at I ry
  have hz : xs.length ≤ sizeLine := by rw [← Paired.length rel]; omega
  have hl : (putN l k b v).length ≤ sizeLine := by have := putN_len l k b v; omega
  refine wpAny_dictSet_heap (hsz := hz) (by show X.A.units + 8 < cLine; omega) ki dd fun h' dd' hs' => h _ ?_
  have he : ∃ q, h'.get? a = some q := let ⟨q, _, _, hq, _⟩ := dd'; ⟨q, hq⟩
  exact d_write I mu hs' he (dn_new hl hs (rel.put k rv) dd')
end
end ND
namespace DN
open PySem PySem.Spec PyProof.Rows L2 ND
inductive D where
  | non | bl (b : Bool) | int (i : Int) | str (x : Str)
  | tup (xs : List D) | lst (xs : List D) | dct (ks vs : List D)
  | ins (c : Str) (vs : List D) | ref (a : Addr)
structure CTab where
  tab : Str → Option (Addr × List Str)
  P : Program
  w : World
instance : CoeFun CTab (fun _ => Str → Option (Addr × List Str)) := ⟨CTab.tab⟩
def KeyOk1 : Key → Prop
  | .inl _ => True
  | .inr x => x.length ≤ sizeLine ∧ PyData.strOk x = true
abbrev GK := Sum Key (List NestedKey)
def KeyOk : GK → Prop
  | .inl k => KeyOk1 k
  | .inr _ => True
def KNd (kvs : List (GK × V)) : Prop := (kvs.map (·.1)).Nodup ∧ ∀ p ∈ kvs, KeyOk p.1
def keyD1 : Key → D
  | .inl i => .int i
  | .inr x => .str x
mutual
def keyDN : NestedKey → D
  | .none => .non
  | .num i => .int i
  | .text x => .str x
  | .tup ks => .tup (keyDNs ks)
def keyDNs : List NestedKey → List D
  | [] => []
  | k :: ks => keyDN k :: keyDNs ks
end
def keyD : GK → D
  | .inl k => keyD1 k
  | .inr ks => .tup (keyDNs ks)
def DKV (cl : CTab) (Z : Hp) (a : Addr) (o : HO) (kvs : List (GK × V)) : Prop := (∃ l : List (Key × V), o = .dK l ∧ kvs = l.map fun p => (.inl p.1, p.2)) ∨ ∃ l : NL, l ≠ [] ∧ o = dN cl.P cl.w a l ∧ kvs = l.map (fun p => (.inr p.1, p.2.2)) ∧ KsAt Z l
theorem DKV.mono {cl : CTab} {Z Z' : Hp} {a : Addr} {o : HO} {kvs : List (GK × V)} (h : ∀ b xs, Z b = some (.tup xs) → Z' b = some (.tup xs)) (d : DKV cl Z a o kvs) : DKV cl Z' a o kvs := by
  rcases d with d | ⟨l, h1, h2, h3, h4⟩
  · exact .inl d
  · exact .inr ⟨l, h1, h2, h3, h4.mono h⟩
structure Zp where
  h : Hp
  μ : Nat → Option Addr
instance : CoeFun Zp (fun _ => Addr → Option HO) := ⟨Zp.h⟩
instance : Coe Zp Hp := ⟨Zp.h⟩
def upz (Z : Zp) (p : Addr) (o : HO) : Zp := ⟨upd Z.h p o, Z.μ⟩
theorem upz_same {Z : Zp} {a : Addr} {o : HO} : upz Z a o a = some o := upd_same
theorem upz_ne {Z : Zp} {a b : Addr} {o : HO} (h : b ≠ a) : upz Z a o b = Z b := upd_ne h
abbrev RdN (H : Hp) (a : Addr) (o : HO) (_ : List (GK × V)) : Prop := Rd H a o
theorem RdN.rd {H : Hp} {a : Addr} {o : HO} {kvs : List (GK × V)} (h : RdN H a o kvs) : Rd H a o := h
def SqR (K : PySem.W.Frag) (H : Hp) (a : Addr) (xs : List V) : Prop :=
  Rd H a (.lst xs) ∨ ∃ (its : Array Value) (n : Nat), K.lookup a = some { cls := .type "list", data := .seq its n } ∧ its.size ≤ sizeLine ∧ Vals xs its.toList
theorem SqR.of {K : PySem.W.Frag} {H : Hp} {a : Addr} {xs : List V} (h : H a = some (.lst xs)) : SqR K H a xs := .inl (.inl h)
theorem SqR.l {K : PySem.W.Frag} {H : Hp} {a : Addr} {xs : List V} (h : SqR K H a xs) : SqL K H a xs := by
  rcases h with h | ⟨its, n, h1, h2, h3⟩
  · exact .inl h
  · exact .inr ⟨_, its, n, h1, rfl, rfl, rfl, h2, h3⟩
mutual
inductive Rep (K : PySem.W.Frag) (cl : CTab) (Z : Zp) : V → D → Prop
  | non : Rep K cl Z .non .non
  | bl (b : Bool) : Rep K cl Z (.bl b) (.bl b)
  | int (i : Int) : Rep K cl Z (.int i) (.int i)
  | str {x : Str} : x.length ≤ sizeLine → PyData.strOk x = true → Rep K cl Z (.str x) (.str x)
  | tup {a : Addr} {vs : List V} {ds : List D} : Z a = some (.tup vs) → vs.length ≤ sizeLine → RepL K cl Z vs ds → Rep K cl Z (.ref a) (.tup ds)
  | slst {a : Addr} {vs : List V} {ds : List D} : SqR K Z.h a vs → vs.length ≤ sizeLine → RepL K cl Z vs ds → Rep K cl Z (.ref a) (.lst ds)
  | dct {a : Addr} {o : HO} {kvs : List (GK × V)} {ks ds : List D} : RdN Z.h a o kvs → DKV cl Z.h a o kvs → ks = kvs.map (fun p => keyD p.1) → KNd kvs → RepL K cl Z (kvs.map (·.2)) ds → Rep K cl Z (.ref a) (.dct ks ds)
  | ins {a C dx : Addr} {fs : List (Str × V)} {c : Str} {ds : List D} : cl c = some (C, fs.map (·.1)) → Z a = some (.ins C dx fs) → RepL K cl Z (fs.map (·.2)) ds → Rep K cl Z (.ref a) (.ins c ds)
  | ref {n : Nat} {a : Addr} : Z.μ n = some a → Rep K cl Z (.ref a) (.ref n)
inductive RepL (K : PySem.W.Frag) (cl : CTab) (Z : Zp) : List V → List D → Prop
  | nil : RepL K cl Z [] []
  | cons {v : V} {vs : List V} {d : D} {ds : List D} : Rep K cl Z v d → RepL K cl Z vs ds → RepL K cl Z (v :: vs) (d :: ds)
end
def Sub (Z Z' : Hp) : Prop := ∀ a o, Z a = some o → Z' a = some o
theorem Sub.refl (Z : Hp) : Sub Z Z := fun _ _ h => h
theorem Sub.trans {A B C : Hp} (a : Sub A B) (b : Sub B C) : Sub A C := fun x o h => b x o (a x o h)
theorem SqR.sub {K : PySem.W.Frag} {H H' : Hp} {a : Addr} {xs : List V} (s : Sub H H') (h : SqR K H a xs) : SqR K H' a xs := by
  rcases h with (h | ⟨o, h⟩) | h
  · exact .inl (.inl (s _ _ h))
  · exact .inl (.inr ⟨o, s _ _ h⟩)
  · exact .inr h
theorem SqR.at {K : PySem.W.Frag} {H H' : Hp} {a : Addr} {xs : List V} (s : ∀ o, (o = .lst xs ∨ ∃ q, o = .frz q (.lst xs)) → H a = some o → H' a = some o) (h : SqR K H a xs) : SqR K H' a xs := by
  rcases h with (h | ⟨o, h⟩) | h
  · exact .inl (.inl (s _ (.inl rfl) h))
  · exact .inl (.inr ⟨o, s _ (.inr ⟨o, rfl⟩) h⟩)
  · exact .inr h
theorem SqL.sub {K : PySem.W.Frag} {H H' : Hp} {a : Addr} {xs : List V} (s : Sub H H') (h : SqR K H a xs) : SqL K H' a xs := (h.sub s).l
theorem Rep.lst {K : PySem.W.Frag} {cl : CTab} {Z : Zp} {a : Addr} {vs : List V} {ds : List D} (h : Z a = some (.lst vs)) (hl : vs.length ≤ sizeLine) (r : RepL K cl Z vs ds) : Rep K cl Z (.ref a) (.lst ds) := .slst (.of h) hl r
theorem Sub.upd {Z : Hp} {p : Addr} {o : HO} (h : Z p = none) : Sub Z (upd Z p o) := fun a u e => by
  rw [upd_ne (ne_of_none e h)]; exact e
structure SubZ (Z Z' : Zp) : Prop where
  h : Sub Z.h Z'.h
  m : ∀ n a, Z.μ n = some a → Z'.μ n = some a
instance {Z Z' : Zp} : CoeFun (SubZ Z Z') (fun _ => ∀ a o, Z.h a = some o → Z'.h a = some o) := ⟨fun q => q.h⟩
theorem SubZ.refl (Z : Zp) : SubZ Z Z := ⟨.refl _, fun _ _ h => h⟩
theorem SubZ.trans {A B C : Zp} (a : SubZ A B) (b : SubZ B C) : SubZ A C := ⟨a.h.trans b.h, fun n x h => b.m n x (a.m n x h)⟩
theorem SubZ.upd {Z : Zp} {p : Addr} {o : HO} (h : Z p = none) : SubZ Z (upz Z p o) := ⟨Sub.upd h, fun _ _ h => h⟩
theorem SubZ.to {Z Z' : Zp} {H : Hp} (a : SubZ Z Z') (b : Sub Z'.h H) : Sub Z.h H := a.h.trans b
def immO : HO → Bool
  | .tup _ => true
  | .ins _ _ _ => true
  | .own _ => true
  | .xd _ => true
  | .met _ _ => true
  | .rng _ _ => true
  | .tbl _ => true
  | .frz _ u => immO u
  | _ => false
structure SubI (Z Z' : Zp) : Prop where
  h : ∀ a o, immO o = true → Z.h a = some o → Z'.h a = some o
  m : Z'.μ = Z.μ
theorem SubZ.imm {Z Z' : Zp} (h : SubZ Z Z') (m : Z'.μ = Z.μ) : SubI Z Z' := ⟨fun a o _ e => h.h a o e, m⟩
theorem SubI.refl (Z : Zp) : SubI Z Z := ⟨fun _ _ _ e => e, rfl⟩
theorem SubI.trans {A B C : Zp} (a : SubI A B) (b : SubI B C) : SubI A C := ⟨fun x o i h => b.h x o i (a.h x o i h), b.m.trans a.m⟩
mutual
def D.imm : D → Bool
  | .tup xs => D.immL xs
  | .lst _ => false
  | .dct _ _ => false
  | .ins _ xs => D.immL xs
  | _ => true
def D.immL : List D → Bool
  | [] => true
  | d :: ds => d.imm && D.immL ds
end
section
variable {K : PySem.W.Frag} {cl : CTab} {Z Z' : Zp}
theorem sub_rd {Z Z' : Hp} (h : Sub Z Z') {a : Addr} {u : HO} (r : Rd Z a u) : Rd Z' a u := by
  rcases r with r | ⟨o, r⟩
  · exact .inl (h _ _ r)
  · exact .inr ⟨o, h _ _ r⟩
theorem sub_rdn {Z Z' : Hp} (h : Sub Z Z') {a : Addr} {u : HO} {kvs : List (GK × V)} (r : RdN Z a u kvs) : RdN Z' a u kvs := sub_rd h r
theorem sq_t {H : Hp} {a : Addr} {xs : List V} (r : H a = some (.tup xs)) : SqT K H a xs := .inl (.inl r)
mutual
theorem Rep.mono (h : SubZ Z Z') : ∀ (d : D) {v : V}, Rep K cl Z v d → Rep K cl Z' v d
  | .non, _, r => by cases r; exact .non
  | .bl b, _, r => by cases r; exact .bl b
  | .int i, _, r => by cases r; exact .int i
  | .str x, _, r => by cases r with | str e f => exact .str e f
  | .tup ds, _, r => by cases r with | tup a e b => exact .tup (h.h _ _ a) e (RepL.mono h ds b)
  | .lst ds, _, r => by cases r with | slst a e b => exact .slst (a.sub h.h) e (RepL.mono h ds b)
  | .dct ks ds, _, r => by cases r with | dct a o e n b => exact .dct (sub_rdn h.h a) (o.mono fun _ _ q => h.h _ _ q) e n (RepL.mono h ds b)
  | .ins c ds, _, r => by cases r with | ins e a b => exact .ins e (h.h _ _ a) (RepL.mono h ds b)
  | .ref a, _, r => by cases r with | ref e => exact .ref (h.m _ _ e)
theorem RepL.mono (h : SubZ Z Z') : ∀ (ds : List D) {vs : List V}, RepL K cl Z vs ds → RepL K cl Z' vs ds
  | [], _, r => by cases r; exact .nil
  | d :: ds, _, r => by cases r with | cons a b => exact .cons (Rep.mono h d a) (RepL.mono h ds b)
end
mutual
theorem Rep.monoI (h : SubI Z Z') : ∀ (d : D) {v : V}, d.imm = true → Rep K cl Z v d → Rep K cl Z' v d
  | .non, _, _, r => by cases r; exact .non
  | .bl b, _, _, r => by cases r; exact .bl b
  | .int i, _, _, r => by cases r; exact .int i
  | .str x, _, _, r => by cases r with | str e f => exact .str e f
  | .tup ds, _, i, r => by cases r with | tup a e b => exact .tup (h.h _ _ rfl a) e (RepL.monoI h ds (by simpa [D.imm] using i) b)
  | .lst ds, _, i, r => by simp [D.imm] at i
  | .dct ks ds, _, i, r => by simp [D.imm] at i
  | .ins c ds, _, i, r => by cases r with | ins e a b => exact .ins e (h.h _ _ rfl a) (RepL.monoI h ds (by simpa [D.imm] using i) b)
  | .ref a, _, _, r => by cases r with | ref e => exact .ref (by rw [h.m]; exact e)
theorem RepL.monoI (h : SubI Z Z') : ∀ (ds : List D) {vs : List V}, D.immL ds = true → RepL K cl Z vs ds → RepL K cl Z' vs ds
  | [], _, _, r => by cases r; exact .nil
  | d :: ds, _, i, r => by
    cases r with
    | cons a b =>
      have i2 : d.imm = true ∧ D.immL ds = true := by simpa [D.immL] using i
      exact .cons (Rep.monoI h d i2.1 a) (RepL.monoI h ds i2.2 b)
end
theorem RepL.len : ∀ {ds : List D} {vs : List V}, RepL K cl Z vs ds → vs.length = ds.length
  | [], _, r => by cases r; rfl
  | d :: ds, _, r => by cases r with | cons a b => simp [RepL.len b]
theorem RepL.get : ∀ {ds : List D} {vs : List V} {i : Nat} {d : D}, RepL K cl Z vs ds → ds[i]? = some d → ∃ v, vs[i]? = some v ∧ Rep K cl Z v d
  | [], _, _, _, r, e => by simp at e
  | d :: ds, _, 0, _, r, e => by
    cases r with | cons a b => simp at e; subst e; exact ⟨_, rfl, a⟩
  | d :: ds, _, i + 1, _, r, e => by
    cases r with | cons a b =>
      obtain ⟨v, h1, h2⟩ := RepL.get (i := i) b (by simpa using e)
      exact ⟨v, by simpa using h1, h2⟩
theorem RepL.getV : ∀ {ds : List D} {vs : List V} {i : Nat} {v : V}, RepL K cl Z vs ds → vs[i]? = some v → ∃ d, ds[i]? = some d ∧ Rep K cl Z v d
  | [], _, _, _, r, e => by cases r; simp at e
  | d :: ds, _, 0, _, r, e => by
    cases r with | cons a b => simp at e; subst e; exact ⟨_, rfl, a⟩
  | d :: ds, _, i + 1, _, r, e => by
    cases r with | cons a b =>
      obtain ⟨v, h1, h2⟩ := RepL.getV (i := i) b (by simpa using e)
      exact ⟨v, by simpa using h1, h2⟩
theorem RepL.append : ∀ {ds es : List D} {vs ws : List V}, RepL K cl Z vs ds → RepL K cl Z ws es → RepL K cl Z (vs ++ ws) (ds ++ es)
  | [], _, _, _, r, s => by cases r; exact s
  | d :: ds, _, _, _, r, s => by cases r with | cons a b => exact .cons a (RepL.append b s)
theorem RepL.take : ∀ {ds : List D} {vs : List V} (n : Nat), RepL K cl Z vs ds → RepL K cl Z (vs.take n) (ds.take n)
  | [], _, n, r => by cases r; simp; exact .nil
  | d :: ds, _, 0, r => by simp; exact .nil
  | d :: ds, _, n + 1, r => by cases r with | cons a b => simp; exact .cons a (RepL.take n b)
theorem RepL.drop : ∀ {ds : List D} {vs : List V} (n : Nat), RepL K cl Z vs ds → RepL K cl Z (vs.drop n) (ds.drop n)
  | [], _, n, r => by cases r; simp; exact .nil
  | d :: ds, _, 0, r => by simpa using r
  | d :: ds, _, n + 1, r => by cases r with | cons a b => simp; exact RepL.drop n b
theorem RepL.reverse : ∀ {ds : List D} {vs : List V}, RepL K cl Z vs ds → RepL K cl Z vs.reverse ds.reverse
  | [], _, r => by cases r; exact .nil
  | d :: ds, _, r => by cases r with | cons a b => simp; exact (RepL.reverse b).append (.cons a .nil)
theorem RepL.set {v : V} {d : D} (h : Rep K cl Z v d) : ∀ {ds : List D} {vs : List V} (n : Nat), RepL K cl Z vs ds → RepL K cl Z (vs.set n v) (ds.set n d)
  | [], _, n, r => by cases r; simp; exact .nil
  | _ :: ds, _, 0, r => by cases r with | cons a b => exact .cons h b
  | _ :: ds, _, n + 1, r => by cases r with | cons a b => exact .cons a (RepL.set h n b)
end
structure Exn where
  c : Str
  f : Option D
inductive Res (T : Type) (α : Type) where
  | ok (a : α) (s : T) | err (x : Exn) (s : T) | stuck
structure Sto where
  T : Type
  R : T → Zp → Hp → Prop
  mono : ∀ {s : T} {Z Z' : Zp} {C : Hp}, R s Z C → SubI Z Z' → R s Z' C
abbrev M (B : Sto) (α : Type) := B.T → Res B.T α
variable {B : Sto}
@[inline] def M.bind {α β : Type} (m : M B α) (k : α → M B β) : M B β := fun s => match m s with
  | .ok a s' => k a s'
  | .err x s' => .err x s'
  | .stuck => .stuck
@[inline] def M.pure {α : Type} (a : α) : M B α := fun s => .ok a s
instance : Monad (M B) where
  pure := M.pure
  bind := M.bind
def lift {α : Type} : Option α → M B α
  | some a => M.pure a
  | none => fun _ => .stuck
def guardM {α : Type} (b : Bool) (m : M B α) : M B α := if b = true then m else fun _ => .stuck
structure Wd (B : Sto) (md : Bool) (Z : Zp) (C H : Hp) (s : B.T) : Prop where
  zh : Sub Z.h H
  ch : Sub C H
  dj : ∀ a, C a ≠ none → Z.h a = none
  sr : B.R s Z C
structure Nx (Z : Zp) (C H : Hp) (Z' : Zp) (C' H' : Hp) : Prop where
  zz : SubZ Z Z'
  hh : ∀ a o, H a = some o → C a = none → H' a = some o
  zf : ∀ a, Z'.h a ≠ none → Z.h a ≠ none ∨ H a = none
  cf : ∀ a, C' a ≠ none → C a ≠ none ∨ H a = none
  cp : ∀ a, C a ≠ none → C' a ≠ none
  lk : ∀ a od u, C a = some (.frz od u) → C' a = some (.frz od u)
theorem Nx.refl (Z : Zp) (C H : Hp) : Nx Z C H Z C H := ⟨.refl _, fun _ _ h _ => h, fun _ h => .inl h, fun _ h => .inl h, fun _ h => h, fun _ _ _ h => h⟩
theorem ne_some {α : Type} {x : Option α} (h : x ≠ none) : ∃ o, x = some o := by
  cases x with
  | none => exact absurd rfl h
  | some o => exact ⟨o, rfl⟩
theorem some_ne {α : Type} {x : Option α} {o : α} (h : x = some o) : x ≠ none := by rw [h]; exact fun z => nomatch z
theorem Nx.trans {Z Z1 Z2 : Zp} {C H C1 H1 C2 H2 : Hp} (a : Nx Z C H Z1 C1 H1) (w0 : Sub C H) (w1 : Sub C1 H1) (b : Nx Z1 C1 H1 Z2 C2 H2) : Nx Z C H Z2 C2 H2 := by
  have back : ∀ x, H1 x = none → H x = none := fun x e => by
    cases q : H x with
    | none => rfl
    | some o =>
      cases c : C x with
      | none => rw [a.hh x o q c] at e; cases e
      | some u =>
        obtain ⟨u1, e1⟩ := ne_some (a.cp x (some_ne c))
        rw [w1 x u1 e1] at e; cases e
  refine ⟨a.zz.trans b.zz, fun x o e c => ?_, fun x e => ?_, fun x e => ?_, fun x e => b.cp x (a.cp x e), fun x od u e => b.lk x od u (a.lk x od u e)⟩
  · refine b.hh x o (a.hh x o e c) ?_
    cases q : C1 x with
    | none => rfl
    | some u =>
      rcases a.cf x (some_ne q) with z | z
      · exact absurd c z
      · rw [e] at z; cases z
  · rcases b.zf x e with z | z
    · exact a.zf x z
    · exact .inr (back x z)
  · rcases b.cf x e with z | z
    · exact a.cf x z
    · exact .inr (back x z)
end DN
namespace DN
open PySem PySem.Spec PyProof.Rows L2
variable {B : Sto}
abbrev Env := List (Option D)
structure EnvR (K : PySem.W.Frag) (cl : CTab) (Z : Zp) (ρ : Env) (σ : L2.St) : Prop where
  len : ρ.length = σ.length
  get : ∀ (i : Nat) (d : D), ρ[i]? = some (some d) → ∃ v, σ[i]? = some (some v) ∧ Rep K cl Z v d
theorem EnvR.mono {K : PySem.W.Frag} {cl : CTab} {Z Z' : Zp} {ρ : Env} {σ : L2.St} (h : SubZ Z Z') (e : EnvR K cl Z ρ σ) : EnvR K cl Z' ρ σ := ⟨e.len, fun i d q =>
  let ⟨v, a, b⟩ := e.get i d q
  ⟨v, a, b.mono h d⟩⟩
def ExR (K : PySem.W.Frag) (cl : CTab) (Z : Zp) (Cc : Hp) (x : Exn) (c : Value) (dx : Option Addr) (H : Hp) : Prop :=
  ∃ C fs, cl x.c = some (C, fs) ∧ c = .ref C ∧ match x.f with
    | none => dx = none ∧ fs = []
    | some d => ∃ f v a, fs = [f] ∧ dx = some a ∧ H a = some (.xd [(f, v)]) ∧ Cc a = none ∧ d.imm = true ∧ Rep K cl Z v d
section
variable {υ α β : Type}
def Post (K : PySem.W.Frag) (cl : CTab) (md : Bool) (Rp : Zp → υ → α → Prop) (W : WX) (σ : L2.St) (Z : Zp) (C H : Hp) (r : Res B.T α) (Q : υ → Hp → Prop) : Prop :=
  match r with
  | .ok a s => ∀ v Z' C' H', Wd B md Z' C' H' s → Nx Z C H Z' C' H' → Rp Z' v a → Q v H'
  | .err x s => ∀ c dx Z' C' H', Wd B md Z' C' H' s → Nx Z C H Z' C' H' → ExR K cl Z' C' x c dx H' → W c dx σ H'
  | .stuck => False
def tG (K : PySem.W.Frag) (cl : CTab) (B : Sto) (md : Bool) (Rp : Zp → υ → α → Prop) (W : WX) (f : Env → M B α) : L2.St → Hp → (υ → Hp → Prop) → Prop := fun σ H Q =>
  ∃ Z C s ρ, Wd B md Z C H s ∧ EnvR K cl Z ρ σ ∧ Post K cl md Rp W σ Z C H (f ρ s) Q
variable {K : PySem.W.Frag} {cl : CTab} {md : Bool} {Rp : Zp → υ → α → Prop} {W : WX} {σ : L2.St} {Z Z1 : Zp} {C H C1 H1 : Hp}
theorem Post.step {r : Res B.T α} {Q : υ → Hp → Prop} (n : Nx Z C H Z1 C1 H1) (c0 : Sub C H) (c1 : Sub C1 H1) (h : Post K cl md Rp W σ Z C H r Q) : Post K cl md Rp W σ Z1 C1 H1 r Q := by
  cases r with
  | ok a s => exact fun v Z' C' H' w m => h v Z' C' H' w (n.trans c0 c1 m)
  | err x s => exact fun c dx Z' C' H' w m => h c dx Z' C' H' w (n.trans c0 c1 m)
  | stuck => exact h
theorem Post.seq {υ2 β : Type} {Rq : Zp → υ2 → β → Prop} {m : M B α} {k : α → M B β} {s : B.T} {Q : υ2 → Hp → Prop} {Q1 : υ → Hp → Prop} (c0 : Sub C H) (h : Post K cl md Rq W σ Z C H (M.bind m k s) Q)
    (hk : ∀ a s1 v Z1 C1 H1, Wd B md Z1 C1 H1 s1 → Nx Z C H Z1 C1 H1 → Rp Z1 v a → Post K cl md Rq W σ Z1 C1 H1 (k a s1) Q → Q1 v H1) : Post K cl md Rp W σ Z C H (m s) Q1 := by
  unfold M.bind at h
  cases e : m s with
  | ok a s1 =>
    rw [e] at h
    exact fun v Z1 C1 H1 w n r => hk a s1 v Z1 C1 H1 w n r (Post.step n c0 w.ch h)
  | err x s1 =>
    rw [e] at h
    exact h
  | stuck =>
    rw [e] at h
    exact h
theorem Post.imp {r : Res B.T α} {Q Q' : υ → Hp → Prop} (h : Post K cl md Rp W σ Z C H r Q) (q : ∀ v H', Q v H' → Q' v H') : Post K cl md Rp W σ Z C H r Q' := by
  cases r with
  | ok a s => exact fun v Z' C' H' w m p => q _ _ (h v Z' C' H' w m p)
  | err x s => exact h
  | stuck => exact h
end
theorem PE.weak {X : Cx} {e : Expr} {t t' : TE} (h : PE X e t) (w : ∀ σ H Q, t' σ H Q → t σ H Q) : PE X e t' := ⟨fun pins s σ H Q I q => h.run pins s σ H Q I (w σ H Q q)⟩
theorem PT.weak {X : Cx} {e : Expr} {t t' : TT} (h : PT X e t) (w : ∀ σ H Q, t' σ H Q → t σ H Q) : PT X e t' := ⟨fun pins s σ H Q I q => h.run pins s σ H Q I (w σ H Q q)⟩
theorem PA.weak {X : Cx} {e : List Expr} {t t' : TA} (h : PA X e t) (w : ∀ σ H Q, t' σ H Q → t σ H Q) : PA X e t' := ⟨fun p pins s σ H Q I q => h.run p pins s σ H Q I (w σ H Q q)⟩
theorem PO.weak {X : Cx} {e : Option Expr} {t t' : TO} (h : PO X e t) (w : ∀ σ H Q, t' σ H Q → t σ H Q) : PO X e t' := ⟨fun pins s σ H Q I q => h.run pins s σ H Q I (w σ H Q q)⟩
abbrev RpD (K : PySem.W.Frag) (cl : CTab) : Zp → V → D → Prop := fun Z v d => Rep K cl Z v d
abbrev RpA (K : PySem.W.Frag) (cl : CTab) (n : Nat) : Zp → List V → List D → Prop := fun Z v d => RepL K cl Z v d ∧ d.length = n
abbrev RpE {α : Type} : Zp → α → α → Prop := fun _ v d => v = d
section
variable (cl : CTab) (B : Sto) (md : Bool) (W : WX) (X : Cx)
def DE (e : Expr) (f : Env → M B D) : Prop := PE X e (tG X.K cl B md (RpD X.K cl) W f)
def DA (es : List Expr) (f : Env → M B (List D)) : Prop := PA X es (tG X.K cl B md (RpA X.K cl es.length) W f)
def DT (e : Expr) (f : Env → M B Bool) : Prop := PT X e (tG X.K cl B md RpE W f)
def DO (e : Option Expr) (f : Env → M B (Option Int)) : Prop := PO X e (tG X.K cl B md RpE W f)
end
structure Al (Z : Zp) (H : Hp) (Z' : Zp) (H' : Hp) : Prop where
  zz : SubZ Z Z'
  hh : Sub H H'
  zh : Sub Z'.h H'
  zf : ∀ a, Z'.h a ≠ none → Z.h a ≠ none ∨ H a = none
  zm : Z'.μ = Z.μ
section
variable {Z Z' Z2 : Zp} {C H H' H2 : Hp} {md : Bool} {s : B.T}
theorem Al.refl (h : Sub Z.h H) : Al Z H Z H := ⟨.refl _, .refl _, h, fun _ e => .inl e, rfl⟩
theorem Al.wd (w : Wd B md Z C H s) (a : Al Z H Z' H') : Wd B md Z' C H' s := by
  refine ⟨a.zh, w.ch.trans a.hh, fun x e => ?_, B.mono w.sr (a.zz.imm a.zm)⟩
  cases q : Z'.h x with
  | none => rfl
  | some o =>
    rcases a.zf x (some_ne q) with z | z
    · exact absurd (w.dj x e) z
    · obtain ⟨u, hu⟩ := ne_some e
      rw [w.ch x u hu] at z; cases z
theorem Al.nx (a : Al Z H Z' H') : Nx Z C H Z' C H' := ⟨a.zz, fun x o e _ => a.hh x o e, a.zf, fun _ e => .inl e, fun _ e => e, fun _ _ _ e => e⟩
theorem Al.trans (a : Al Z H Z' H') (b : Al Z' H' Z2 H2) : Al Z H Z2 H2 := by
  refine ⟨a.zz.trans b.zz, a.hh.trans b.hh, b.zh, fun x e => ?_, b.zm.trans a.zm⟩
  rcases b.zf x e with z | z
  · exact a.zf x z
  · refine .inr ?_
    cases q : H x with
    | none => rfl
    | some o => rw [a.hh x o q] at z; cases z
theorem none_of_sub {Z H : Hp} {p : Addr} (h : Sub Z H) (e : H p = none) : Z p = none := by
  cases q : Z p with
  | none => rfl
  | some o => rw [h p o q] at e; cases e
theorem Al.new {p : Addr} {o : HO} (h : Sub Z.h H) (e : H p = none) (nd : ∀ kvs, o ≠ .dK kvs) : Al Z H (upz Z p o) (upd H p o) := by
  have zp := none_of_sub h e
  refine ⟨SubZ.upd zp, Sub.upd e, fun x u q => ?_, fun x q => ?_, rfl⟩
  · by_cases hx : x = p
    · subst hx; rw [show (upz Z x o).h x = some o from upd_same] at q; rw [upd_same]; exact q
    · rw [show (upz Z p o).h x = Z.h x from upd_ne hx] at q; rw [upd_ne hx]; exact h x u q
  · by_cases hx : x = p
    · subst hx; exact .inr e
    · rw [show (upz Z p o).h x = Z.h x from upd_ne hx] at q; exact .inl q
end
section
variable (K : PySem.W.Frag) (cl : CTab)
def OpV (r : R2) (g : D → D → Option D) : Prop := ∀ (Z : Zp) (H : Hp) (x y : V) (dx dy d : D) (Q : VK), Sub Z H → Rep K cl Z x dx → Rep K cl Z y dy → g dx dy = some d →
  (∀ v Z' H', Al Z H Z' H' → Rep K cl Z' v d → Q v H') → r x y H Q
def UnV (r : V → Hp → VK → Prop) (g : D → Option D) : Prop := ∀ (Z : Zp) (H : Hp) (x : V) (dx d : D) (Q : VK), Sub Z H → Rep K cl Z x dx → g dx = some d →
  (∀ v Z' H', Al Z H Z' H' → Rep K cl Z' v d → Q v H') → r x H Q
def CallV (r : List V → Hp → VK → Prop) (g : List D → Option D) : Prop := ∀ (Z : Zp) (H : Hp) (xs : List V) (dxs : List D) (d : D) (Q : VK), Sub Z H → RepL K cl Z xs dxs → g dxs = some d →
  (∀ v Z' H', Al Z H Z' H' → Rep K cl Z' v d → Q v H') → r xs H Q
end
section
variable {K : PySem.W.Frag} {cl : CTab} {md : Bool} {W : WX} {X : Cx}
theorem post_lift {σ : L2.St} {Z : Zp} {C H : Hp} {o : Option D} {s : B.T} {Q : VK} (w : Wd B md Z C H s) (h : Post K cl md (RpD K cl) W σ Z C H (lift (B := B) o s) Q) :
    ∃ d, o = some d ∧ ∀ v Z' H', Al Z H Z' H' → Rep K cl Z' v d → Q v H' := by
  cases o with
  | none => exact False.elim h
  | some d => exact ⟨d, rfl, fun v Z' H' a r => h v Z' C H' (a.wd w) a.nx r⟩
theorem de_op {op : Operator} {r : R2} {g : D → D → Option D} {a b : Expr} {f1 f2 : Env → M B D} {pos : Pos} (ho : OpR X (binaryOp op) r) (hr : OpV X.K cl r g) (ha : DE cl B md W X a f1) (hb : DE cl B md W X b f2) :
    DE cl B md W X (.BinOp a op b pos) fun ρ => M.bind (f1 ρ) fun x => M.bind (f2 ρ) fun y => lift (g x y) := by
  refine PE.weak (pe_op ho ha hb) fun σ H Q ⟨Z, C, s, ρ, w, e, p⟩ => ?_
  refine ⟨Z, C, s, ρ, w, e, Post.seq w.ch p fun dx s1 x Z1 C1 H1 w1 n1 r1 p1 => ?_⟩
  refine ⟨Z1, C1, s1, ρ, w1, e.mono n1.zz, Post.seq w1.ch p1 fun dy s2 y Z2 C2 H2 w2 n2 r2 p2 => ?_⟩
  obtain ⟨d, hd, q⟩ := post_lift w2 p2
  exact hr Z2 H2 x y dx dy d Q w2.zh (r1.mono n2.zz) r2 hd q
theorem de_cmp {op : CmpOp} {r : R2} {g : D → D → Option D} {a b : Expr} {f1 f2 : Env → M B D} {pos : Pos} (ho : OpR X (compareOp op) r) (hr : OpV X.K cl r g) (hm : behindInMarks op b = false) (ha : DE cl B md W X a f1) (hb : DE cl B md W X b f2) :
    DE cl B md W X (.Compare a [op] [b] pos) fun ρ => M.bind (f1 ρ) fun x => M.bind (f2 ρ) fun y => lift (g x y) := by
  refine PE.weak (pe_cmpR ho ha hb hm) fun σ H Q ⟨Z, C, s, ρ, w, e, p⟩ => ?_
  refine ⟨Z, C, s, ρ, w, e, Post.seq w.ch p fun dx s1 x Z1 C1 H1 w1 n1 r1 p1 => ?_⟩
  refine ⟨Z1, C1, s1, ρ, w1, e.mono n1.zz, Post.seq w1.ch p1 fun dy s2 y Z2 C2 H2 w2 n2 r2 p2 => ?_⟩
  obtain ⟨d, hd, q⟩ := post_lift w2 p2
  exact hr Z2 H2 x y dx dy d Q w2.zh (r1.mono n2.zz) r2 hd q
theorem de_un {op : UnaryOp} {r : V → Hp → VK → Prop} {g : D → Option D} {a : Expr} {f1 : Env → M B D} {pos : Pos} (ho : UnR X (unaryOp op) r) (hr : UnV X.K cl r g) (ha : DE cl B md W X a f1) :
    DE cl B md W X (.UnaryOp op a pos) fun ρ => M.bind (f1 ρ) fun x => lift (g x) := by
  refine PE.weak (pe_un ho ha) fun σ H Q ⟨Z, C, s, ρ, w, e, p⟩ => ?_
  refine ⟨Z, C, s, ρ, w, e, Post.seq w.ch p fun dx s1 x Z1 C1 H1 w1 n1 r1 p1 => ?_⟩
  obtain ⟨d, hd, q⟩ := post_lift w1 p1
  exact hr Z1 H1 x dx d Q w1.zh r1 hd q
def eVar (i : Nat) : Env → M B D := fun ρ => lift ((ρ[i]?).bind id)
theorem post_pure {σ : L2.St} {Z : Zp} {C H : Hp} {d : D} {s : B.T} {Q : VK} {v : V} (w : Wd B md Z C H s) (h : Post K cl md (RpD K cl) W σ Z C H ((M.pure d : M B D) s) Q) (r : Rep K cl Z v d) : Q v H := h v Z C H w (.refl ..) r
theorem de_var {i : Nat} {x : Str} {pos : Pos} (h : PE X (.Name x pos) (tVar i)) : DE cl B md W X (.Name x pos) (eVar i) := by
  refine PE.weak h fun σ H Q ⟨Z, C, s, ρ, w, e, p⟩ => ?_
  obtain ⟨d, hd, q⟩ := post_lift w p
  obtain ⟨v, h1, h2⟩ := e.get i d (by
    cases q : ρ[i]? with
    | none => rw [q] at hd; cases hd
    | some o =>
      rw [q] at hd
      have : o = some d := hd
      rw [this])
  exact ⟨v, h1, q v Z H (.refl w.zh) h2⟩
def eC (d : D) : Env → M B D := fun _ => M.pure d
theorem de_c {e : Expr} {v : V} {d : D} (h : PE X e (tC v)) (r : ∀ Z, Rep X.K cl Z v d) : DE cl B md W X e (eC d) :=
  PE.weak h fun σ H Q ⟨Z, C, s, ρ, w, e, p⟩ => post_pure w p (r Z)
theorem da_nil : DA cl B md W X [] (fun _ => M.pure []) :=
  PA.weak pa_nil fun σ H Q ⟨Z, C, s, ρ, w, e, p⟩ => p [] Z C H w (.refl ..) ⟨.nil, rfl⟩
theorem da_cons {e : Expr} {es : List Expr} {f : Env → M B D} {g : Env → M B (List D)} (h : DE cl B md W X e f) (t : DA cl B md W X es g) (hs : starEach (e :: es) X.env = (false, eval e X.env) :: starEach es X.env := by rfl) :
    DA cl B md W X (e :: es) fun ρ => M.bind (f ρ) fun x => M.bind (g ρ) fun xs => M.pure (x :: xs) := by
  refine PA.weak (pa_cons h t hs) fun σ H Q ⟨Z, C, s, ρ, w, e, p⟩ => ?_
  refine ⟨Z, C, s, ρ, w, e, Post.seq w.ch p fun dx s1 x Z1 C1 H1 w1 n1 r1 p1 => ?_⟩
  refine ⟨Z1, C1, s1, ρ, w1, e.mono n1.zz, Post.seq w1.ch p1 fun dy s2 y Z2 C2 H2 w2 n2 r2 p2 => ?_⟩
  exact p2 (x :: y) Z2 C2 H2 w2 (.refl ..) ⟨.cons (r1.mono n2.zz) r2.1, by rw [List.length_cons, r2.2]; rfl⟩
theorem de_tup {es : List Expr} {x1} {pos : Pos} {f : Env → M B (List D)} (h : DA cl B md W X es f) (hn : es.length ≤ 1000 := by decide) :
    DE cl B md W X (.Tuple es x1 pos) fun ρ => M.bind (f ρ) fun xs => M.pure (.tup xs) := by
  refine PE.weak (pe_tup h) fun σ H Q ⟨Z, C, s, ρ, w, e, p⟩ => ?_
  refine ⟨Z, C, s, ρ, w, e, Post.seq w.ch p fun ds s1 xs Z1 C1 H1 w1 n1 r1 p1 => ?_⟩
  have hlen : xs.length ≤ sizeLine := by
    rw [r1.1.len, r1.2, sizeLine_eq]; omega
  refine ⟨hlen, fun q hq => ?_⟩
  have al : Al Z1 H1 (upz Z1 q (.tup xs)) (upd H1 q (.tup xs)) := .new w1.zh hq (fun _ z => nomatch z)
  exact p1 (.ref q) _ C1 _ (al.wd w1) al.nx (.tup upd_same hlen (r1.1.mono al.zz))
end
end DN
namespace DN
open PySem PySem.Spec PyProof.Rows L2
mutual
def D.py : D → PyData
  | .non => .none
  | .bl b => .bool b
  | .int i => .int i
  | .str x => .str x
  | .tup xs => .tuple (D.pyL xs)
  | .lst xs => .list (D.pyL xs)
  | _ => .dict []
def D.pyL : List D → List PyData
  | [] => []
  | d :: ds => d.py :: D.pyL ds
end
mutual
def D.plain : D → Bool
  | .tup xs => D.plainL xs
  | .lst xs => D.plainL xs
  | .dct _ _ => false
  | .ins _ _ => false
  | .ref _ => false
  | _ => true
def D.plainL : List D → Bool
  | [] => true
  | d :: ds => d.plain && D.plainL ds
end
section
variable {K : PySem.W.Frag} {cl : CTab} {Z : Zp} {H : Hp}
mutual
theorem Rep.dp (h : Sub Z H) : ∀ (d : D) {v : V}, d.plain = true → Rep K cl Z v d → Dp K H v d.py ∧ d.py.canLay0 = true
  | .non, _, _, r => by cases r; exact ⟨.non, by simp [D.py, PyData.canLay0]⟩
  | .bl b, _, _, r => by cases r; exact ⟨.bl b, by simp [D.py, PyData.canLay0]⟩
  | .int i, _, _, r => by cases r; exact ⟨.int i, by simp [D.py, PyData.canLay0]⟩
  | .str x, _, _, r => by cases r with | str e f => exact ⟨.str x, by simpa [D.py, PyData.canLay0] using f⟩
  | .tup ds, _, p, r => by
    cases r with
    | tup a e b =>
      obtain ⟨h1, h2⟩ := RepL.dp h ds (by simpa [D.plain] using p) b
      exact ⟨.tup (sq_t (h _ _ a)) h1, by simpa [D.py, PyData.canLay0] using h2⟩
  | .lst ds, _, p, r => by
    cases r with
    | slst a e b =>
      obtain ⟨h1, h2⟩ := RepL.dp h ds (by simpa [D.plain] using p) b
      exact ⟨.lst (SqL.sub h a) h1, by simpa [D.py, PyData.canLay0] using h2⟩
  | .dct ks ds, _, p, r => by simp [D.plain] at p
  | .ins c ds, _, p, r => by simp [D.plain] at p
  | .ref a, _, p, r => by simp [D.plain] at p
theorem RepL.dp (h : Sub Z H) : ∀ (ds : List D) {vs : List V}, D.plainL ds = true → RepL K cl Z vs ds → DpAll K H vs (D.pyL ds) ∧ PyData.canLayAll0 (D.pyL ds) = true
  | [], _, _, r => by cases r; exact ⟨.nil, by simp [D.pyL, PyData.canLayAll0]⟩
  | d :: ds, _, p, r => by
    have p2 : d.plain = true ∧ D.plainL ds = true := by simpa [D.plainL] using p
    cases r with
    | cons a b =>
      obtain ⟨h1, h2⟩ := Rep.dp h d p2.1 a
      obtain ⟨h3, h4⟩ := RepL.dp h ds p2.2 b
      exact ⟨.cons h1 h3, by simp [D.pyL, PyData.canLayAll0, h2, h4]⟩
end
end
def D.okc (d : D) : Bool := d.plain && decide (d.py.depth ≤ 60)
theorem okc_shaped {K : PySem.W.Frag} {cl : CTab} {Z : Zp} {H : Hp} {d : D} {v : V} (h : Sub Z H) (o : d.okc = true) (r : Rep K cl Z v d) : Dp K H v d.py ∧ SeqAt.shaped d.py = true ∧ d.py.canLay0 = true ∧ d.py.depth ≤ 60 := by
  unfold D.okc at o
  rw [Bool.and_eq_true] at o
  obtain ⟨h1, h2⟩ := r.dp h d o.1
  have h3 : d.py.depth ≤ 60 := of_decide_eq_true o.2
  refine ⟨h1, ?_, h2, h3⟩
  unfold SeqAt.shaped
  rw [h2, decide_eq_true (by omega)]
  rfl
def addD : D → D → Option D
  | .int i, .int j => some (.int (i + j))
  | .str x, .str y => if x.length + y.length ≤ sizeLine then some (.str (x ++ y)) else none
  | .tup xs, .tup ys => if xs.length + ys.length ≤ sizeLine then some (.tup (xs ++ ys)) else none
  | .lst xs, .lst ys => if xs.length + ys.length ≤ sizeLine then some (.lst (xs ++ ys)) else none
  | _, _ => none
def subD : D → D → Option D
  | .int i, .int j => some (.int (i - j))
  | _, _ => none
def mulI : D → D → Option D
  | .int i, .int j => if (-(2 ^ 64) < i ∧ i < 2 ^ 64) ∨ (-(2 ^ 64) < j ∧ j < 2 ^ 64) then some (.int (i * j)) else none
  | _, _ => none
def modD : D → D → Option D
  | .int i, .int j => if 0 < j then some (.int (i % j)) else none
  | _, _ => none
def fdivD : D → D → Option D
  | .int i, .int j => if 0 < j ∧ j < 1073741824 then some (.int (i / j)) else none
  | _, _ => none
def powD : D → D → Option D
  | .int i, .int j => if 0 ≤ j ∧ j ≤ 1000000 ∧ i.natAbs < 2 ^ 64 then some (.int (i ^ j.toNat)) else none
  | _, _ => none
def shlD : D → D → Option D
  | .int i, .int j => if 0 ≤ j ∧ j ≤ 1000000 ∧ i.natAbs < 2 ^ 64 then some (.int (i * 2 ^ j.toNat)) else none
  | _, _ => none
def shrD : D → D → Option D
  | .int i, .int j => if 0 ≤ j then some (.int (i / 2 ^ j.toNat)) else none
  | _, _ => none
def andD : D → D → Option D
  | .int i, .int j => some (.int (Builtin.bitAnd i j))
  | _, _ => none
def orD : D → D → Option D
  | .int i, .int j => some (.int (Builtin.bitOr i j))
  | _, _ => none
def negD : D → Option D
  | .int i => some (.int (-i))
  | _ => none
def eqD (x y : D) : Option D := if x.okc && y.okc then some (.bl (PyData.eqv x.py y.py)) else none
def neD (x y : D) : Option D := if x.okc && y.okc then some (.bl (!PyData.eqv x.py y.py)) else none
def D.isNon : D → Bool
  | .non => true
  | _ => false
def isN (x y : D) : Option D := if y.isNon = true then some (.bl x.isNon) else none
def isNotN (x y : D) : Option D := if y.isNon = true then some (.bl (!x.isNon)) else none
def isBl (x y : D) : Option D := match x, y with
  | .bl a, .bl b => some (.bl (decide (a = b)))
  | _, _ => none
def isNotBl (x y : D) : Option D := match x, y with
  | .bl a, .bl b => some (.bl (!decide (a = b)))
  | _, _ => none
def ltDT (x y : D) : Option D := if x.okc && y.okc && PySem.W.alike x.py y.py && !x.isNon then some (.bl (PySem.W.dataLt x.py y.py)) else none
def ltI : D → D → Option D
  | .int i, .int j => some (.bl (decide (i < j)))
  | _, _ => none
def leI : D → D → Option D
  | .int i, .int j => some (.bl (decide (i ≤ j)))
  | _, _ => none
def gtI : D → D → Option D
  | .int i, .int j => some (.bl (decide (j < i)))
  | _, _ => none
def geI : D → D → Option D
  | .int i, .int j => some (.bl (decide (j ≤ i)))
  | _, _ => none
def inSeq (x : D) (ys : List D) : Option Bool := if x.okc && (D.lst ys).okc then some ((D.pyL ys).any fun z => PyData.eqv z x.py) else none
def inD : D → D → Option D
  | x, .tup ys => (inSeq x ys).map .bl
  | x, .lst ys => (inSeq x ys).map .bl
  | .str x, .str y => some (.bl (!(Builtin.Str.occurrences y x 0 y.length 1).isEmpty))
  | _, _ => none
def notInD : D → D → Option D
  | x, .tup ys => (inSeq x ys).map fun b => .bl (!b)
  | x, .lst ys => (inSeq x ys).map fun b => .bl (!b)
  | .str x, .str y => some (.bl (!(!(Builtin.Str.occurrences y x 0 y.length 1).isEmpty)))
  | _, _ => none
theorem strOk_app {x y : Str} (h1 : PyData.strOk x = true) (h2 : PyData.strOk y = true) : PyData.strOk (x ++ y) = true := by
  unfold PyData.strOk at *
  show (x.cps ++ y.cps).all _ = true
  rw [Array.all_append, h1, h2]
  rfl
theorem len_app (x y : Str) : (x ++ y).length = x.length + y.length := by
  show (x.cps ++ y.cps).size = x.cps.size + y.cps.size
  exact Array.size_append
section
variable {K : PySem.W.Frag} {cl : CTab} {X : Cx}
theorem OpV.or {r r' : R2} {g : D → D → Option D} (h : ∀ (Z : Zp) (H : Hp) (x y : V) (dx dy d : D) (Q : VK), Sub Z H → Rep K cl Z x dx → Rep K cl Z y dy → g dx dy = some d →
  (∀ v Z' H', Al Z H Z' H' → Rep K cl Z' v d → Q v H') → r x y H Q ∨ r' x y H Q) : OpV K cl (fun x y H Q => r x y H Q ∨ r' x y H Q) g := h
theorem ov_int {C : Int → Int → Prop} {f : Int → Int → Int} {g : D → D → Option D} (hg : ∀ x y d, g x y = some d → ∃ i j, x = .int i ∧ y = .int j ∧ C i j ∧ d = .int (f i j)) : OpV K cl (rI C fun i j => .int (f i j)) g := by
  intro Z H x y dx dy d Q h rx ry e q
  obtain ⟨i, j, rfl, rfl, c, rfl⟩ := hg dx dy d e
  cases rx; cases ry
  exact ⟨i, j, rfl, rfl, c, q _ Z H (.refl h) (.int _)⟩
theorem ov_int0 {f : Int → Int → Int} {g : D → D → Option D} (hg : ∀ x y d, g x y = some d → ∃ i j, x = .int i ∧ y = .int j ∧ d = .int (f i j)) : OpV K cl (rI0 fun i j => .int (f i j)) g := by
  intro Z H x y dx dy d Q h rx ry e q
  obtain ⟨i, j, rfl, rfl, rfl⟩ := hg dx dy d e
  cases rx; cases ry
  exact ⟨i, j, rfl, rfl, q _ Z H (.refl h) (.int _)⟩
theorem ov_bl0 {f : Int → Int → Bool} {g : D → D → Option D} (hg : ∀ x y d, g x y = some d → ∃ i j, x = .int i ∧ y = .int j ∧ d = .bl (f i j)) : OpV K cl (rI0 fun i j => .bl (f i j)) g := by
  intro Z H x y dx dy d Q h rx ry e q
  obtain ⟨i, j, rfl, rfl, rfl⟩ := hg dx dy d e
  cases rx; cases ry
  exact ⟨i, j, rfl, rfl, q _ Z H (.refl h) (.bl _)⟩
theorem v_sub : OpV K cl (rI0 fun i j => .int (i - j)) subD := ov_int0 fun x y d e => by
  unfold subD at e; split at e <;> cases e; exact ⟨_, _, rfl, rfl, rfl⟩
theorem v_mulI : OpV K cl (rI CMul fun i j => .int (i * j)) mulI := ov_int fun x y d e => by
  unfold mulI at e; split at e
  · split at e <;> cases e
    exact ⟨_, _, rfl, rfl, by assumption, rfl⟩
  · cases e
theorem v_mod : OpV K cl (rI (fun _ j => 0 < j) fun i j => .int (i % j)) modD := ov_int fun x y d e => by
  unfold modD at e; split at e
  · split at e <;> cases e
    exact ⟨_, _, rfl, rfl, by assumption, rfl⟩
  · cases e
theorem v_fdiv : OpV K cl (rI CDiv fun i j => .int (i / j)) fdivD := ov_int fun x y d e => by
  unfold fdivD at e; split at e
  · split at e <;> cases e
    exact ⟨_, _, rfl, rfl, by assumption, rfl⟩
  · cases e
theorem v_pow : OpV K cl (rI CPow fun i j => .int (i ^ j.toNat)) powD := ov_int fun x y d e => by
  unfold powD at e; split at e
  · split at e <;> cases e
    exact ⟨_, _, rfl, rfl, by assumption, rfl⟩
  · cases e
theorem v_shl : OpV K cl (rI CPow fun i j => .int (i * 2 ^ j.toNat)) shlD := ov_int fun x y d e => by
  unfold shlD at e; split at e
  · split at e <;> cases e
    exact ⟨_, _, rfl, rfl, by assumption, rfl⟩
  · cases e
theorem v_shr : OpV K cl (rI (fun _ j => 0 ≤ j) fun i j => .int (i / 2 ^ j.toNat)) shrD := ov_int fun x y d e => by
  unfold shrD at e; split at e
  · split at e <;> cases e
    exact ⟨_, _, rfl, rfl, by assumption, rfl⟩
  · cases e
theorem v_and : OpV K cl (rI0 fun i j => .int (Builtin.bitAnd i j)) andD := ov_int0 fun x y d e => by
  unfold andD at e; split at e <;> cases e; exact ⟨_, _, rfl, rfl, rfl⟩
theorem v_or : OpV K cl (rI0 fun i j => .int (Builtin.bitOr i j)) orD := ov_int0 fun x y d e => by
  unfold orD at e; split at e <;> cases e; exact ⟨_, _, rfl, rfl, rfl⟩
theorem v_lt : OpV K cl (rI0 fun i j => .bl (decide (i < j))) ltI := ov_bl0 fun x y d e => by
  unfold ltI at e; split at e <;> cases e; exact ⟨_, _, rfl, rfl, rfl⟩
theorem v_le : OpV K cl (rI0 fun i j => .bl (decide (i ≤ j))) leI := ov_bl0 fun x y d e => by
  unfold leI at e; split at e <;> cases e; exact ⟨_, _, rfl, rfl, rfl⟩
theorem v_gt : OpV K cl (rI0 fun i j => .bl (decide (j < i))) gtI := ov_bl0 fun x y d e => by
  unfold gtI at e; split at e <;> cases e; exact ⟨_, _, rfl, rfl, rfl⟩
theorem v_ge : OpV K cl (rI0 fun i j => .bl (decide (j ≤ i))) geI := ov_bl0 fun x y d e => by
  unfold geI at e; split at e <;> cases e; exact ⟨_, _, rfl, rfl, rfl⟩
theorem v_neg : UnV K cl (rU fun i => .int (-i)) negD := by
  intro Z H x dx d Q h rx e q
  unfold negD at e; split at e <;> cases e
  cases rx
  exact ⟨_, rfl, q _ Z H (.refl h) (.int _)⟩
theorem lstR {X : Cx} {pins : List (Addr × Obj)} {σ : L2.St} {H : Hp} {s : Shared} {l : Addr} {xs : List V} (I : Inv X pins σ H s) (h : SqR X.K H l xs) :
    xs.length ≤ sizeLine ∧ ∃ (its : List Value) (n : Nat), Vals xs its ∧ xs.length = its.length ∧ s.heap.get? l = some { cls := .type "list", data := .seq its.toArray n } := by
  rcases h with h | ⟨its, n, h1, h2, h3⟩
  · obtain ⟨z, its, n, r, e⟩ := h.ok I.hok
    exact ⟨z, its, n, r, r.length, e⟩
  · have e := h3.length
    have e2 := I.kIn l _ h1
    exact ⟨by rw [e, Array.length_toList]; exact h2, its.toList, n, h3, e, by simpa using e2⟩
def rCatR (K : PySem.W.Frag) : R2 := fun x y H Q => ∃ l b xs zs, x = .ref l ∧ y = .ref b ∧ SqR K H l xs ∧ SqR K H b zs ∧ xs.length + zs.length ≤ sizeLine ∧ ∀ p, H p = none → Q (.ref p) (upd H p (.lst (xs ++ zs)))
theorem op_catR {X : Cx} : OpR X (binaryOp .Add) (rCatR X.K) := by
  intro pins s σ H x y v u Q I rx ry ⟨l, b, xs, zs, ex, ey, hl, hb, hz, q⟩
  subst ex ey
  cases rx; cases ry
  obtain ⟨_, us, n, r, h1, e⟩ := lstR I hl
  obtain ⟨_, ws, m, r', h2, e'⟩ := lstR I hb
  refine PySem.P.add_list e e' ?_ (by simp only [List.size_toArray]; omega)
  rw [show us.toArray ++ ws.toArray = (us ++ ws).toArray by simp]
  exact ⟨.ref _, _, I.lnew (t' := s.toks) (r.append r') (by rw [List.length_append]; omega), rfl, q _ I.fresh⟩
abbrev rAddA (K : PySem.W.Frag) : R2 := fun x y H Q => (rI0 (fun i j => .int (i + j)) x y H Q ∨ (∃ i j, x = .str i ∧ y = .str j ∧ i.length + j.length ≤ sizeLine ∧ Q (.str (i ++ j)) H)) ∨ (rCatA K x y H Q ∨ rCatR K x y H Q)
theorem op_addA : OpR X (binaryOp .Add) (rAddA X.K) := (op_add.or op_add_str).or (op_catA.or op_catR)
theorem v_add : OpV K cl (rAddA K) addD := by
  intro Z H x y dx dy d Q h rx ry e q
  unfold addD at e
  split at e
  · cases e; cases rx; cases ry
    exact .inl (.inl ⟨_, _, rfl, rfl, q _ Z H (.refl h) (.int _)⟩)
  · split at e <;> cases e
    rename_i hz
    cases rx with | str a b => cases ry with | str a' b' =>
      exact .inl (.inr ⟨_, _, rfl, rfl, hz, q _ Z H (.refl h) (.str (by rw [len_app]; exact hz) (strOk_app b b'))⟩)
  · split at e <;> cases e
    rename_i hz
    cases rx with | tup a b c => cases ry with | tup a' b' c' =>
      rename_i pa va pb vb
      have l1 := c.len
      have l2 := c'.len
      refine .inr (.inl ⟨_, _, _, _, rfl, rfl, sq_t (h _ _ a), sq_t (h _ _ a'), by omega, fun e => ?_, fun _ e => ?_, fun _ _ p hp => ?_⟩)
      · refine q _ Z H (.refl h) (.tup a' b' ?_)
        subst e; cases c; exact c'
      · refine q _ Z H (.refl h) (.tup a b ?_)
        subst e; cases c'; rw [List.append_nil]; exact c
      · have al : Al Z H (upz Z p (.tup (va ++ vb))) (upd H p (.tup (va ++ vb))) := .new h hp (fun _ z => nomatch z)
        exact q _ _ _ al (.tup upd_same (by rw [List.length_append]; omega) ((c.mono al.zz).append (c'.mono al.zz)))
  · split at e <;> cases e
    rename_i hz
    cases rx with | slst a b c => cases ry with | slst a' b' c' =>
      rename_i pa va pb vb
      have l1 := c.len
      have l2 := c'.len
      refine .inr (.inr ⟨_, _, _, _, rfl, rfl, a.sub h, a'.sub h, by omega, fun p hp => ?_⟩)
      have al : Al Z H (upz Z p (.lst (va ++ vb))) (upd H p (.lst (va ++ vb))) := .new h hp (fun _ z => nomatch z)
      exact q _ _ _ al (.lst upd_same (by rw [List.length_append]; omega) ((c.mono al.zz).append (c'.mono al.zz)))
  · cases e
theorem v_eq : OpV K cl (rEqD K) eqD := by
  intro Z H x y dx dy d Q h rx ry e q
  unfold eqD at e
  split at e <;> cases e
  rename_i o
  rw [Bool.and_eq_true] at o
  obtain ⟨a1, a2, _⟩ := okc_shaped h o.1 rx
  obtain ⟨b1, b2, _⟩ := okc_shaped h o.2 ry
  exact ⟨_, _, a1, b1, a2, b2, q _ Z H (.refl h) (.bl _)⟩
theorem v_ne : OpV K cl (rNeD K) neD := by
  intro Z H x y dx dy d Q h rx ry e q
  unfold neD at e
  split at e <;> cases e
  rename_i o
  rw [Bool.and_eq_true] at o
  obtain ⟨a1, a2, _⟩ := okc_shaped h o.1 rx
  obtain ⟨b1, b2, _⟩ := okc_shaped h o.2 ry
  exact ⟨_, _, a1, b1, a2, b2, q _ Z H (.refl h) (.bl _)⟩
theorem rep_non {Z : Zp} {x : V} {d : D} (r : Rep K cl Z x d) : decide (x = V.non) = d.isNon := by
  cases r <;> simp [D.isNon]
theorem isNon_eq {d : D} (h : d.isNon = true) : d = .non := by
  cases d <;> first | rfl | (simp [D.isNon] at h)
theorem v_isN : OpV K cl (fun x y H Q => y = .non ∧ Q (.bl (decide (x = .non))) H) isN := by
  intro Z H x y dx dy d Q h rx ry e q
  unfold isN at e
  split at e <;> cases e
  rename_i o
  cases isNon_eq o
  cases ry
  rw [rep_non rx]
  exact ⟨rfl, q _ Z H (.refl h) (.bl _)⟩
theorem v_isNotN : OpV K cl (fun x y H Q => y = .non ∧ Q (.bl (!decide (x = .non))) H) isNotN := by
  intro Z H x y dx dy d Q h rx ry e q
  unfold isNotN at e
  split at e <;> cases e
  rename_i o
  cases isNon_eq o
  cases ry
  rw [rep_non rx]
  exact ⟨rfl, q _ Z H (.refl h) (.bl _)⟩
end
def rLtD (K : PySem.W.Frag) : R2 := fun x y H Q => ∃ d e, Dp K H x d ∧ Dp K H y e ∧ PySem.W.alike d e = true ∧ d ≠ .none ∧ d.depth ≤ 60 ∧ Q (.bl (PySem.W.dataLt d e)) H
theorem op_ltD {X : Cx} (hu : X.A.units + 64 < cLine) : OpR X (compareOp .Lt) (rLtD X.K) := by
  intro pins s σ H x y v u Q I rx ry h
  obtain ⟨d, e, hd, he, al, nn, dp, q⟩ := h
  obtain ⟨as, r1⟩ := Dp.reads I d x v hd rx
  obtain ⟨bs, r2⟩ := Dp.reads I e y u he ry
  have hm : min d.depth e.depth ≤ d.depth := Nat.min_le_left _ _
  have := PySem.W.rcLt_alike d e X.A s v u as bs r1 r2 al nn (by omega)
  have q' := this X.prog X.w X.xe (EP X pins σ Q) ⟨.bl _, H, I, rfl, q⟩
  exact q'
theorem v_ltD {K : PySem.W.Frag} {cl : CTab} : OpV K cl (rLtD K) ltDT := by
  intro Z H x y dx dy d Q h rx ry e q
  unfold ltDT at e
  split at e
  case isFalse => cases e
  cases e
  rename_i o
  simp only [Bool.and_eq_true] at o
  obtain ⟨⟨⟨o1, o2⟩, o3⟩, o4⟩ := o
  obtain ⟨a1, a2, a3, a4⟩ := okc_shaped h o1 rx
  obtain ⟨b1, b2, _⟩ := okc_shaped h o2 ry
  refine ⟨_, _, a1, b1, o3, ?_, a4, q _ Z H (.refl h) (.bl _)⟩
  cases dx <;> first | (simp [D.isNon] at o4; done) | (simp [D.py])
def rInDT (K : PySem.W.Frag) (neg : Bool) : R2 := fun x y H Q => ∃ d ds, Dp K H x d ∧ Dp K H y (.tuple ds) ∧ SeqAt.shaped d = true ∧ SeqAt.shaped (.tuple ds) = true ∧ Q (.bl (if neg then !(ds.any fun z => PyData.eqv z d) else ds.any fun z => PyData.eqv z d)) H
theorem op_inDT {X : Cx} (hu : X.A.units + 65 < cLine) : OpR X (compareOp .In) (rInDT X.K false) := by
  intro pins s σ H x y v u Q I rx ry h
  obtain ⟨d, ds, hd, he, sd, se, q⟩ := h
  obtain ⟨as, r1⟩ := Dp.reads I d x v hd rx
  obtain ⟨bs, r2⟩ := Dp.reads I (.tuple ds) y u he ry
  exact SeqAt.in_tuple_reads r2 r1 (SeqAt.canLay_of_shaped se) (SeqAt.canLay_of_shaped sd) (room_in_shaped sd hu) ⟨.bl _, H, I, rfl, q⟩
theorem op_notInDT {X : Cx} (hu : X.A.units + 65 < cLine) : OpR X (compareOp .NotIn) (rInDT X.K true) := by
  intro pins s σ H x y v u Q I rx ry h
  obtain ⟨d, ds, hd, he, sd, se, q⟩ := h
  obtain ⟨as, r1⟩ := Dp.reads I d x v hd rx
  obtain ⟨bs, r2⟩ := Dp.reads I (.tuple ds) y u he ry
  exact SeqAt.notIn_tuple_reads r2 r1 (SeqAt.canLay_of_shaped se) (SeqAt.canLay_of_shaped sd) (room_in_shaped sd hu) ⟨.bl _, H, I, rfl, q⟩
abbrev rInA (K : PySem.W.Frag) : R2 := fun x y H Q => (rInDT K false x y H Q ∨ rInD K x y H Q) ∨ (∃ i j, x = .str i ∧ y = .str j ∧ Q (.bl (!(Builtin.Str.occurrences j i 0 j.length 1).isEmpty)) H)
abbrev rNotInA (K : PySem.W.Frag) : R2 := fun x y H Q => (rInDT K true x y H Q ∨ rNotInD K x y H Q) ∨ (∃ i j, x = .str i ∧ y = .str j ∧ Q (.bl (!(!(Builtin.Str.occurrences j i 0 j.length 1).isEmpty))) H)
theorem op_inA {X : Cx} (hu : X.A.units + 65 < cLine) : OpR X (compareOp .In) (rInA X.K) := ((op_inDT hu).or (op_inD hu)).or op_in_str
theorem op_notInA {X : Cx} (hu : X.A.units + 65 < cLine) : OpR X (compareOp .NotIn) (rNotInA X.K) := ((op_notInDT hu).or (op_notInD hu)).or op_notin_str
section
variable {K : PySem.W.Frag} {cl : CTab} {Z : Zp} {H : Hp}
theorem okc_tup {ys : List D} (h : (D.lst ys).okc = true) : (D.tup ys).okc = true := by
  simpa [D.okc, D.plain, D.py, PyData.depth] using h
theorem v_in : OpV K cl (rInA K) inD := by
  intro Z H x y dx dy d Q h rx ry e q
  unfold inD at e
  split at e
  · unfold inSeq at e
    split at e <;> cases e
    rename_i o
    rw [Bool.and_eq_true] at o
    obtain ⟨a1, a2, _⟩ := okc_shaped h o.1 rx
    obtain ⟨b1, b2, _⟩ := okc_shaped h (okc_tup o.2) ry
    simp only [D.py] at b1 b2
    exact .inl (.inl ⟨_, _, a1, b1, a2, b2, q _ Z H (.refl h) (.bl _)⟩)
  · unfold inSeq at e
    split at e <;> cases e
    rename_i o
    rw [Bool.and_eq_true] at o
    obtain ⟨a1, a2, _⟩ := okc_shaped h o.1 rx
    obtain ⟨b1, b2, _⟩ := okc_shaped h o.2 ry
    simp only [D.py] at b1 b2
    exact .inl (.inr ⟨_, _, a1, b1, a2, b2, q _ Z H (.refl h) (.bl _)⟩)
  · cases e
    cases rx; cases ry
    exact .inr ⟨_, _, rfl, rfl, q _ Z H (.refl h) (.bl _)⟩
  · cases e
theorem v_notIn : OpV K cl (rNotInA K) notInD := by
  intro Z H x y dx dy d Q h rx ry e q
  unfold notInD at e
  split at e
  · unfold inSeq at e
    split at e <;> cases e
    rename_i o
    rw [Bool.and_eq_true] at o
    obtain ⟨a1, a2, _⟩ := okc_shaped h o.1 rx
    obtain ⟨b1, b2, _⟩ := okc_shaped h (okc_tup o.2) ry
    simp only [D.py] at b1 b2
    exact .inl (.inl ⟨_, _, a1, b1, a2, b2, q _ Z H (.refl h) (.bl _)⟩)
  · unfold inSeq at e
    split at e <;> cases e
    rename_i o
    rw [Bool.and_eq_true] at o
    obtain ⟨a1, a2, _⟩ := okc_shaped h o.1 rx
    obtain ⟨b1, b2, _⟩ := okc_shaped h o.2 ry
    simp only [D.py] at b1 b2
    exact .inl (.inr ⟨_, _, a1, b1, a2, b2, q _ Z H (.refl h) (.bl _)⟩)
  · cases e
    cases rx; cases ry
    exact .inr ⟨_, _, rfl, rfl, q _ Z H (.refl h) (.bl _)⟩
  · cases e
end
end DN
namespace DN
open PySem PySem.Spec PyProof.Rows L2
variable {B : Sto}
def truthD : D → Option Bool
  | .non => some false
  | .bl b => some b
  | .int i => some (i != 0)
  | .str x => some ((x.length : Int) != 0)
  | .tup xs => some (!xs.isEmpty)
  | .lst xs => some (!xs.isEmpty)
  | _ => none
theorem RepL.emp {K : PySem.W.Frag} {cl : CTab} {Z : Zp} {vs : List V} {ds : List D} (r : RepL K cl Z vs ds) : vs.isEmpty = ds.isEmpty := by cases r <;> rfl
theorem truth_v {K : PySem.W.Frag} {cl : CTab} {Z : Zp} {H : Hp} {x : V} {d : D} {k : Bool} (h : Sub Z H) (r : Rep K cl Z x d) (e : truthD d = some k) : TruV K x H k := by
  cases r <;> (unfold truthD at e; cases e)
  case non => rfl
  case bl => rfl
  case int => rfl
  case str a b => exact ⟨a, rfl⟩
  case tup a e b => exact .inr (.inl ⟨_, sq_t (h _ _ a), by rw [b.emp]⟩)
  case slst a e b => exact .inl ⟨_, SqL.sub h a, by rw [b.emp]⟩
def D.asB : D → Option Bool
  | .bl b => some b
  | _ => none
section
variable {cl : CTab} {md : Bool} {W : WX} {X : Cx}
theorem post_liftG {υ α : Type} {K : PySem.W.Frag} {Rp : Zp → υ → α → Prop} {σ : L2.St} {Z : Zp} {C H : Hp} {o : Option α} {s : B.T} {Q : υ → Hp → Prop} (w : Wd B md Z C H s) (h : Post K cl md Rp W σ Z C H (lift (B := B) o s) Q) :
    ∃ a, o = some a ∧ ∀ v, Rp Z v a → Q v H := by
  cases o with
  | none => exact False.elim h
  | some a => exact ⟨a, rfl, fun v r => h v Z C H w (.refl ..) r⟩
theorem dt_truth {a : Expr} {f : Env → M B D} (h : DE cl B md W X a f) (he : ∀ whole, isTrue a X.env whole = (do let v ← whole; standAt a.pos; holding [v] (truthy v)) := by intro _; rfl) :
    DT cl B md W X a fun ρ => M.bind (f ρ) fun x => lift (truthD x) := by
  refine PT.weak (pt_truth h he) fun σ H Q ⟨Z, C, s, ρ, w, e, p⟩ => ?_
  refine ⟨Z, C, s, ρ, w, e, Post.seq w.ch p fun dx s1 x Z1 C1 H1 w1 n1 r1 p1 => ?_⟩
  obtain ⟨k, hk, q⟩ := post_liftG w1 p1
  exact ⟨k, truth_v w1.zh r1 hk, q k rfl⟩
theorem dt_cmp {op : CmpOp} {r : R2} {g : D → D → Option D} {a b : Expr} {f1 f2 : Env → M B D} {pos : Pos} (ho : OpR X (compareOp op) r) (hr : OpV X.K cl r g) (hm : behindInMarks op b = false) (ha : DE cl B md W X a f1) (hb : DE cl B md W X b f2) :
    DT cl B md W X (.Compare a [op] [b] pos) fun ρ => M.bind (f1 ρ) fun x => M.bind (f2 ρ) fun y => lift ((g x y).bind D.asB) := by
  refine PT.weak (pt_cmpR ho ha hb hm) fun σ H Q ⟨Z, C, s, ρ, w, e, p⟩ => ?_
  refine ⟨Z, C, s, ρ, w, e, Post.seq w.ch p fun dx s1 x Z1 C1 H1 w1 n1 r1 p1 => ?_⟩
  refine ⟨Z1, C1, s1, ρ, w1, e.mono n1.zz, Post.seq w1.ch p1 fun dy s2 y Z2 C2 H2 w2 n2 r2 p2 => ?_⟩
  cases hg : g dx dy with
  | none => rw [hg] at p2; exact False.elim p2
  | some d =>
    cases hd : D.asB d with
    | none => rw [hg] at p2; simp only [Option.bind_some, hd] at p2; exact False.elim p2
    | some k =>
      rw [hg] at p2
      simp only [Option.bind_some, hd] at p2
      refine hr Z2 H2 x y dx dy d _ w2.zh (r1.mono n2.zz) r2 hg fun v Z3 H3 al rv => ?_
      cases d <;> (unfold D.asB at hd; cases hd)
      cases rv
      exact ⟨k, rfl, p2 k Z3 C2 H3 (al.wd w2) al.nx rfl⟩
theorem dt_not {a : Expr} {f : Env → M B Bool} {pos : Pos} (h : DT cl B md W X a f) : DT cl B md W X (.UnaryOp .Not a pos) fun ρ => M.bind (f ρ) fun b => M.pure (!b) := by
  refine PT.weak (pt_not h) fun σ H Q ⟨Z, C, s, ρ, w, e, p⟩ => ?_
  refine ⟨Z, C, s, ρ, w, e, Post.seq w.ch p fun b s1 x Z1 C1 H1 w1 n1 r1 p1 => ?_⟩
  cases r1
  exact p1 (!b) Z1 C1 H1 w1 (.refl ..) rfl
def DW (cl : CTab) (B : Sto) (md : Bool) (W : WX) (X : Cx) (e : Expr) (f : Env → M B Bool) : Prop := PW X e (tG X.K cl B md RpE W f)
theorem PW.weak {X : Cx} {e : Expr} {t t' : TT} (h : PW X e t) (w : ∀ σ H Q, t' σ H Q → t σ H Q) : PW X e t' := ⟨fun wh pins s σ H Q I q => h.run wh pins s σ H Q I (w σ H Q q)⟩
theorem dw_and1 {a : Expr} {f : Env → M B Bool} {pos : Pos} (h : DT cl B md W X a f) : DW cl B md W X (.BoolOp .And [a] pos) f := pw_and1 h
theorem dw_or1 {a : Expr} {f : Env → M B Bool} {pos : Pos} (h : DT cl B md W X a f) : DW cl B md W X (.BoolOp .Or [a] pos) f := pw_or1 h
theorem dw_and {a b : Expr} {rest : List Expr} {f g : Env → M B Bool} {pos : Pos} (h : DT cl B md W X a f) (t : DW cl B md W X (.BoolOp .And (b :: rest) pos) g) :
    DW cl B md W X (.BoolOp .And (a :: b :: rest) pos) fun ρ => M.bind (f ρ) fun k => if k = true then g ρ else M.pure false := by
  refine PW.weak (pw_and h t) fun σ H Q ⟨Z, C, s, ρ, w, e, p⟩ => ?_
  refine ⟨Z, C, s, ρ, w, e, Post.seq w.ch p fun b s1 x Z1 C1 H1 w1 n1 r1 p1 => ?_⟩
  cases r1
  cases b with
  | true => exact ⟨Z1, C1, s1, ρ, w1, e.mono n1.zz, p1⟩
  | false => exact p1 false Z1 C1 H1 w1 (.refl ..) rfl
theorem dw_or {a b : Expr} {rest : List Expr} {f g : Env → M B Bool} {pos : Pos} (h : DT cl B md W X a f) (t : DW cl B md W X (.BoolOp .Or (b :: rest) pos) g) :
    DW cl B md W X (.BoolOp .Or (a :: b :: rest) pos) fun ρ => M.bind (f ρ) fun k => if k = true then M.pure true else g ρ := by
  refine PW.weak (pw_or h t) fun σ H Q ⟨Z, C, s, ρ, w, e, p⟩ => ?_
  refine ⟨Z, C, s, ρ, w, e, Post.seq w.ch p fun b s1 x Z1 C1 H1 w1 n1 r1 p1 => ?_⟩
  cases r1
  cases b with
  | true => exact p1 true Z1 C1 H1 w1 (.refl ..) rfl
  | false => exact ⟨Z1, C1, s1, ρ, w1, e.mono n1.zz, p1⟩
theorem dt_of_dw {e : Expr} {f : Env → M B Bool} (h : DW cl B md W X e f) : DT cl B md W X e f := PW.pt h
theorem de_one {op : BoolOp} {a : Expr} {f : Env → M B D} {pos : Pos} (h : DE cl B md W X a f) : DE cl B md W X (.BoolOp op [a] pos) f := pe_one h
theorem de_and {a b : Expr} {rest : List Expr} {f g : Env → M B D} {pos : Pos} (h : DE cl B md W X a f) (t : DE cl B md W X (.BoolOp .And (b :: rest) pos) g) :
    DE cl B md W X (.BoolOp .And (a :: b :: rest) pos) fun ρ => M.bind (f ρ) fun x => M.bind (lift (truthD x)) fun k => if k = true then g ρ else M.pure x := by
  refine PE.weak (pe_andT h t) fun σ H Q ⟨Z, C, s, ρ, w, e, p⟩ => ?_
  refine ⟨Z, C, s, ρ, w, e, Post.seq w.ch p fun dx s1 x Z1 C1 H1 w1 n1 r1 p1 => ?_⟩
  cases hk : truthD dx with
  | none => rw [hk] at p1; exact False.elim p1
  | some k =>
    rw [hk] at p1
    refine ⟨k, truth_v w1.zh r1 hk, ?_⟩
    cases k with
    | true => exact ⟨Z1, C1, s1, ρ, w1, e.mono n1.zz, p1⟩
    | false => exact post_pure w1 p1 r1
theorem de_not {a : Expr} {f : Env → M B D} {pos : Pos} (h : DE cl B md W X a f) :
    DE cl B md W X (.UnaryOp .Not a pos) fun ρ => M.bind (f ρ) fun x => M.bind (lift (truthD x)) fun k => M.pure (.bl (!k)) := by
  refine PE.weak (pe_notT h) fun σ H Q ⟨Z, C, s, ρ, w, e, p⟩ => ?_
  refine ⟨Z, C, s, ρ, w, e, Post.seq w.ch p fun dx s1 x Z1 C1 H1 w1 n1 r1 p1 => ?_⟩
  cases hk : truthD dx with
  | none => rw [hk] at p1; exact False.elim p1
  | some k =>
    rw [hk] at p1
    exact ⟨k, truth_v w1.zh r1 hk, post_pure w1 p1 (.bl _)⟩
theorem de_chain {op op' : CmpOp} {r r' : R2} {g g' : D → D → Option D} {a b c : Expr} {f1 f2 f3 : Env → M B D} {pos : Pos} (ho : OpR X (compareOp op) r) (hr : OpV X.K cl r g) (ho' : OpR X (compareOp op') r') (hr' : OpV X.K cl r' g')
    (ha : DE cl B md W X a f1) (hb : DE cl B md W X b f2) (hc : DE cl B md W X c f3) (hm : lastMarks [op, op'] [b, c] = false := by with_unfolding_all rfl) :
    DE cl B md W X (.Compare a [op, op'] [b, c] pos) fun ρ => M.bind (f1 ρ) fun x => M.bind (f2 ρ) fun y => M.bind (lift ((g x y).bind D.asB)) fun k => if k = true then M.bind (f3 ρ) fun z => lift (g' y z) else M.pure (.bl false) := by
  refine PE.weak (pe_chain ho ho' ha hb hc hm) fun σ H Q ⟨Z, C, s, ρ, w, e, p⟩ => ?_
  refine ⟨Z, C, s, ρ, w, e, Post.seq w.ch p fun dx s1 x Z1 C1 H1 w1 n1 r1 p1 => ?_⟩
  refine ⟨Z1, C1, s1, ρ, w1, e.mono n1.zz, Post.seq w1.ch p1 fun dy s2 y Z2 C2 H2 w2 n2 r2 p2 => ?_⟩
  cases hg : g dx dy with
  | none => rw [hg] at p2; exact False.elim p2
  | some d =>
    cases hd : D.asB d with
    | none => rw [hg] at p2; simp only [Option.bind_some, hd] at p2; exact False.elim p2
    | some k =>
      rw [hg] at p2
      simp only [Option.bind_some, hd] at p2
      refine hr Z2 H2 x y dx dy d _ w2.zh (r1.mono n2.zz) r2 hg fun v Z3 H3 al rv => ?_
      cases d <;> (unfold D.asB at hd; cases hd)
      cases rv
      refine ⟨k, rfl, ?_⟩
      have w3 := al.wd w2
      have p3 := Post.step al.nx w2.ch w3.ch p2
      have n13 : SubZ Z Z3 := n1.zz.trans (n2.zz.trans al.zz)
      cases k with
      | false => exact post_pure w3 p3 (.bl false)
      | true =>
        refine ⟨Z3, C2, s2, ρ, w3, e.mono n13, Post.seq w3.ch p3 fun dz s4 z Z4 C4 H4 w4 n4 r4 p4 => ?_⟩
        obtain ⟨d4, hd4, q4⟩ := post_lift w4 p4
        exact hr' Z4 H4 y z dy dz d4 Q w4.zh ((r2.mono al.zz).mono n4.zz) r4 hd4 q4
theorem dt_chain {op op' : CmpOp} {r r' : R2} {g g' : D → D → Option D} {a b c : Expr} {f1 f2 f3 : Env → M B D} {pos : Pos} (ho : OpR X (compareOp op) r) (hr : OpV X.K cl r g) (ho' : OpR X (compareOp op') r') (hr' : OpV X.K cl r' g')
    (ha : DE cl B md W X a f1) (hb : DE cl B md W X b f2) (hc : DE cl B md W X c f3) (hm : lastMarks [op, op'] [b, c] = false := by with_unfolding_all rfl) :
    DT cl B md W X (.Compare a [op, op'] [b, c] pos) fun ρ => M.bind (f1 ρ) fun x => M.bind (f2 ρ) fun y => M.bind (lift ((g x y).bind D.asB)) fun k => if k = true then M.bind (f3 ρ) fun z => lift ((g' y z).bind D.asB) else M.pure false := by
  refine PT.weak (pt_chain ho ho' ha hb hc hm) fun σ H Q ⟨Z, C, s, ρ, w, e, p⟩ => ?_
  refine ⟨Z, C, s, ρ, w, e, Post.seq w.ch p fun dx s1 x Z1 C1 H1 w1 n1 r1 p1 => ?_⟩
  refine ⟨Z1, C1, s1, ρ, w1, e.mono n1.zz, Post.seq w1.ch p1 fun dy s2 y Z2 C2 H2 w2 n2 r2 p2 => ?_⟩
  cases hg : g dx dy with
  | none => rw [hg] at p2; exact False.elim p2
  | some d =>
    cases hd : D.asB d with
    | none => rw [hg] at p2; simp only [Option.bind_some, hd] at p2; exact False.elim p2
    | some k =>
      rw [hg] at p2
      simp only [Option.bind_some, hd] at p2
      refine hr Z2 H2 x y dx dy d _ w2.zh (r1.mono n2.zz) r2 hg fun v Z3 H3 al rv => ?_
      cases d <;> (unfold D.asB at hd; cases hd)
      cases rv
      refine ⟨k, rfl, ?_⟩
      have w3 := al.wd w2
      have p3 := Post.step al.nx w2.ch w3.ch p2
      have n13 : SubZ Z Z3 := n1.zz.trans (n2.zz.trans al.zz)
      cases k with
      | false => exact ⟨false, rfl, p3 false Z3 C2 H3 w3 (.refl ..) rfl⟩
      | true =>
        refine ⟨Z3, C2, s2, ρ, w3, e.mono n13, Post.seq w3.ch p3 fun dz s4 z Z4 C4 H4 w4 n4 r4 p4 => ?_⟩
        cases hg4 : g' dy dz with
        | none => rw [hg4] at p4; exact False.elim p4
        | some d4 =>
          cases hd4 : D.asB d4 with
          | none => rw [hg4] at p4; simp only [Option.bind_some, hd4] at p4; exact False.elim p4
          | some k4 =>
            rw [hg4] at p4
            simp only [Option.bind_some, hd4] at p4
            refine hr' Z4 H4 y z dy dz d4 _ w4.zh ((r2.mono al.zz).mono n4.zz) r4 hg4 fun v5 Z5 H5 al5 rv5 => ?_
            cases d4 <;> (unfold D.asB at hd4; cases hd4)
            cases rv5
            exact ⟨k4, rfl, p4 k4 Z5 C4 H5 (al5.wd w4) al5.nx rfl⟩
end
end DN
namespace DN
open PySem PySem.Spec PyProof.Rows L2 ND
structure ClOk (cl : CTab) (X : Cx) : Prop where
  p : X.prog = cl.P
  w : X.w = cl.w
def DPut2 (cl : CTab) (H : Hp) (a : Addr) (y v : V) (H' : Hp) : Prop := DPut H a y v H' ∨ NPut cl.P cl.w H a y v H'
section
variable {cl : CTab} {X : Cx} {o i value : Expr} {td ty tv : TE} {pos pos' : Pos}
def DGet2 (cl : CTab) (H : Hp) (a : Addr) (y : V) (r : Option V) : Prop := DGet H a y r ∨ NGet cl.P cl.w H a y r
def tDGet2' (cl : CTab) (td ty : TE) : TE := fun σ H Q => td σ H fun x H1 => ty σ H1 fun y H2 => ∃ a v, x = .ref a ∧ DGet2 cl H2 a y (some v) ∧ Q v H2
theorem pe_dget2n (hcl : ClOk cl X) (hu : X.A.units + 9 < cLine) (ho : PE X o td) (hi : PE X i ty) (hs : NoSl i) : PE X (.Subscript o i pos) (tDGet2' cl td ty) := by
  refine ⟨fun pins s σ H Q I h => ?_⟩
  refine subD_of PySem.F.slot_dict_getitem.lookup hs (thn (ho.run pins s σ H _ I h) fun u s1 ⟨x, H1, I1, rx, q1⟩ => thn (hi.run pins s1 σ H1 _ I1 q1) fun iv s2 ⟨y, H2, I2, ry, a, v, ex, g, q2⟩ => ?_)
  subst ex
  obtain rfl : u = Value.ref a := rx
  rcases g with g | g
  · exact ⟨dict_typeIs I2 g, d_getItem (by omega) I2 g ry fun w' s3 I3 rw' => ⟨v, H2, I3, rw', q2⟩⟩
  · rw [← hcl.p, ← hcl.w] at g
    exact ⟨g.type I2 ry, n_getItem hu I2 g ry fun w' s3 I3 rw' => ⟨v, H2, I3, rw', q2⟩⟩
def rInDict (cl : CTab) (neg : Bool) : R2 := fun x y H Q => ∃ a o, y = .ref a ∧ DGet2 cl H a x o ∧ Q (.bl (if neg then !o.isSome else o.isSome)) H
theorem op_inDict (hcl : ClOk cl X) (hu : X.A.units + 9 < cLine) : OpR X (compareOp .In) (rInDict cl false) := by
  intro pins s σ H x y v u Q I rx ry ⟨a, o, ey, g, q⟩
  subst ey
  obtain rfl : u = Value.ref a := ry
  rcases g with g | g
  · exact d_in (by omega) I g rx fun s3 I3 => ⟨.bl o.isSome, H, I3, rfl, q⟩
  · rw [← hcl.p, ← hcl.w] at g
    exact n_in hu I g rx fun s3 I3 => ⟨.bl o.isSome, H, I3, rfl, q⟩
theorem op_notInDict (hcl : ClOk cl X) (hu : X.A.units + 9 < cLine) : OpR X (compareOp .NotIn) (rInDict cl true) := by
  intro pins s σ H x y v u Q I rx ry ⟨a, o, ey, g, q⟩
  subst ey
  obtain rfl : u = Value.ref a := ry
  rcases g with g | g
  · exact d_notIn (by omega) I g rx fun s3 I3 => ⟨.bl (!o.isSome), H, I3, rfl, q⟩
  · rw [← hcl.p, ← hcl.w] at g
    exact n_notIn hu I g rx fun s3 I3 => ⟨.bl (!o.isSome), H, I3, rfl, q⟩
theorem len_dN2 (hcl : ClOk cl X) : CallR X (.builtin "len") (fun xs H Q => ∃ a l, xs = [V.ref a] ∧ Rd H a (dN cl.P cl.w a l) ∧ KsAt H l ∧ Q (.int (l.length : Nat)) H) := by
  rw [← hcl.p, ← hcl.w]; exact len_dN
end
end DN
namespace DN
open PySem PySem.Spec PyProof.Rows L2 ND
variable {B : Sto}
theorem PE.or {X : Cx} {e : Expr} {t t' : TE} (h : PE X e t) (h' : PE X e t') : PE X e (fun σ H Q => t σ H Q ∨ t' σ H Q) :=
  ⟨fun pins s σ H Q I q => q.elim (h.run pins s σ H Q I) (h'.run pins s σ H Q I)⟩
mutual
def D.keyN : D → Option NestedKey
  | .non => some .none
  | .int i => some (.num i)
  | .str x => some (.text x)
  | .tup ds => (D.keyNs ds).map .tup
  | .bl _ => none
  | .lst _ => none
  | .dct _ _ => none
  | .ins _ _ => none
  | .ref _ => none
def D.keyNs : List D → Option (List NestedKey)
  | [] => some []
  | d :: ds => (D.keyN d).bind fun k => (D.keyNs ds).map fun r => k :: r
end
def D.key : D → Option GK
  | .int i => some (.inl (.inl i))
  | .str x => some (.inl (.inr x))
  | .tup ds => (D.keyNs ds).map .inr
  | _ => none
mutual
theorem keyN_keyD : ∀ k : NestedKey, (keyDN k).keyN = some k
  | .none => rfl
  | .num _ => rfl
  | .text _ => rfl
  | .tup ks => by simp only [keyDN, D.keyN, keyNs_keyD ks, Option.map_some]
theorem keyNs_keyD : ∀ ks : List NestedKey, D.keyNs (keyDNs ks) = some ks
  | [] => rfl
  | k :: ks => by simp only [keyDNs, D.keyNs, keyN_keyD k, keyNs_keyD ks, Option.bind_some, Option.map_some]
end
mutual
theorem keyN_eq : ∀ (d : D) {k : NestedKey}, d.keyN = some k → d = keyDN k
  | .non, _, h => by cases h; rfl
  | .int _, _, h => by cases h; rfl
  | .str _, _, h => by cases h; rfl
  | .tup ds, _, h => by
    simp only [D.keyN] at h
    obtain ⟨ks, h1, h2⟩ := Option.map_eq_some_iff.mp h
    subst h2
    rw [keyNs_eq ds h1]; rfl
  | .bl _, _, h => by cases h
  | .lst _, _, h => by cases h
  | .dct _ _, _, h => by cases h
  | .ins _ _, _, h => by cases h
  | .ref _, _, h => by cases h
theorem keyNs_eq : ∀ (ds : List D) {ks : List NestedKey}, D.keyNs ds = some ks → ds = keyDNs ks
  | [], _, h => by cases h; rfl
  | d :: ds, _, h => by
    simp only [D.keyNs] at h
    obtain ⟨k, h1, h2⟩ := Option.bind_eq_some_iff.mp h
    obtain ⟨r, h3, h4⟩ := Option.map_eq_some_iff.mp h2
    subst h4
    rw [keyN_eq d h1, keyNs_eq ds h3]; rfl
end
theorem key_eq {d : D} {k : GK} (h : d.key = some k) : d = keyD k := by
  cases d <;> (unfold D.key at h; try (cases h; done))
  · cases h; rfl
  · cases h; rfl
  · obtain ⟨ks, h1, h2⟩ := Option.map_eq_some_iff.mp h
    subst h2
    rw [keyNs_eq _ h1]; rfl
theorem key_keyD (k : GK) : (keyD k).key = some k := by
  rcases k with (k | k) | ks
  · rfl
  · rfl
  · show (D.keyNs (keyDNs ks)).map _ = _
    rw [keyNs_keyD]; rfl
def GK.isT : GK → Bool
  | .inl _ => false
  | .inr _ => true
def kindT : List D → Bool
  | .tup _ :: _ => true
  | _ => false
def lookD : List D → List D → GK → Option D
  | k :: ks, d :: ds, x => if k.key = some x then some d else lookD ks ds x
  | _, _, _ => none
section
variable {K : PySem.W.Frag} {cl : CTab} {Z : Zp}
theorem look_rep : ∀ {kvs : List (GK × V)} {ds : List D} (k : GK), RepL K cl Z (kvs.map (·.2)) ds →
    (∀ d, lookD (kvs.map fun p => keyD p.1) ds k = some d → ∃ v, valV kvs k = some v ∧ Rep K cl Z v d) ∧ ((lookD (kvs.map fun p => keyD p.1) ds k).isSome = (valV kvs k).isSome)
  | [], ds, k, r => by
    cases r
    exact ⟨fun d e => by simp [lookD] at e, rfl⟩
  | p :: r, ds, k, h => by
    cases h with
    | cons a b =>
      obtain ⟨h1, h2⟩ := look_rep k b
      simp only [List.map_cons, lookD, key_keyD]
      by_cases e : p.1 = k
      · rw [valV_pos e, if_pos (by rw [e])]
        exact ⟨fun d q => ⟨_, rfl, by cases q; exact a⟩, rfl⟩
      · rw [valV_neg e, if_neg (fun q => e (Option.some.inj q))]
        exact ⟨h1, h2⟩
theorem kV_of_rep1 {k : Key} {y : V} (r : Rep K cl Z y (keyD1 k)) : y = kV k := by
  cases k <;> (cases r; rfl)
mutual
theorem kat_of_rep {H : Hp} (h : Sub Z.h H) : ∀ (k : NestedKey) {y : V}, Rep K cl Z y (keyDN k) → KAt H k y
  | .none, _, r => by cases r; simp [KAt]
  | .num _, _, r => by cases r; simp [KAt]
  | .text _, _, r => by cases r with | str a b => simp only [KAt]; exact ⟨trivial, a, b⟩
  | .tup ks, _, r => by
    cases r with
    | tup a b c => simp only [KAt]; exact ⟨_, _, rfl, h _ _ a, b, katL_of_rep h ks c⟩
theorem katL_of_rep {H : Hp} (h : Sub Z.h H) : ∀ (ks : List NestedKey) {ys : List V}, RepL K cl Z ys (keyDNs ks) → KAtL H ks ys
  | [], _, r => by cases r; simp [KAtL]
  | k :: ks, _, r => by
    cases r with
    | cons a b => simp only [KAtL]; exact ⟨_, _, rfl, kat_of_rep h k a, katL_of_rep h ks b⟩
end
def KeyV (H : Hp) : V → GK → Prop
  | y, .inl k => y = kV k
  | y, .inr ks => KAt H (.tup ks) y
theorem keyV_of_rep {k : GK} {y : V} {H : Hp} (r : Rep K cl Z y (keyD k)) (h : Sub Z.h H) : KeyV H y k := by
  rcases k with k | ks
  · exact kV_of_rep1 r
  · exact kat_of_rep h (.tup ks) r
end
theorem valV_inl {l : List (Key × V)} {k : Key} : valV (l.map fun p => ((.inl p.1 : GK), p.2)) (.inl k) = valV l k := by
  induction l with
  | nil => rfl
  | cons p l ih =>
    by_cases e : p.1 = k
    · rw [List.map_cons, valV_pos e, valV_pos (by rw [e])]
    · rw [List.map_cons, valV_neg e, valV_neg (fun q => e (Sum.inl.inj q)), ih]
theorem valV_inr {l : NL} {k : List NestedKey} : valV (l.map fun p => ((.inr p.1 : GK), p.2.2)) (.inr k) = valV (nkv l) k := by
  induction l with
  | nil => rfl
  | cons p l ih =>
    by_cases e : p.1 = k
    · rw [List.map_cons, valV_pos (by rw [e])]
      show _ = valV ((p.1, p.2.2) :: nkv l) k
      rw [valV_pos e]
    · rw [List.map_cons, valV_neg (fun q => e (Sum.inr.inj q)), ih]
      show _ = valV ((p.1, p.2.2) :: nkv l) k
      rw [valV_neg e]
theorem valV_lr {l : List (Key × V)} {k : List NestedKey} : valV (l.map fun p => ((.inl p.1 : GK), p.2)) (.inr k) = none := by
  induction l with
  | nil => rfl
  | cons p l ih => rw [List.map_cons, valV_neg Sum.inl_ne_inr, ih]
theorem valV_rl {l : NL} {k : Key} : valV (l.map fun p => ((.inr p.1 : GK), p.2.2)) (.inl k) = none := by
  induction l with
  | nil => rfl
  | cons p l ih => rw [List.map_cons, valV_neg Sum.inr_ne_inl, ih]
theorem valV_mem {α : Type} [DecidableEq α] {kvs : List (α × V)} {k : α} {v : V} : valV kvs k = some v → (k, v) ∈ kvs := by
  induction kvs with
  | nil => intro h; cases h
  | cons p r ih =>
    intro h
    by_cases e : p.1 = k
    · rw [valV_pos e] at h; cases h; rw [← e]; exact List.mem_cons_self
    · rw [valV_neg e] at h; exact List.mem_cons_of_mem _ (ih h)
theorem dget_some {cl : CTab} {Z H : Hp} {a : Addr} {o : HO} {kvs : List (GK × V)} {k : GK} {y v : V} (rd : Rd H a o) (hz : Sub Z H) (dk : DKV cl Z a o kvs) (ry : KeyV H y k) (e : valV kvs k = some v) : DGet2 cl H a y (some v) := by
  rcases dk with ⟨l, h1, h2⟩ | ⟨l, h0, h1, h2, h3⟩
  · subst h1 h2
    rcases k with k | ks
    · exact .inl (.inl ⟨l, k, rd, ry, by rw [← e, valV_inl]⟩)
    · rw [valV_lr] at e; cases e
  · subst h1 h2
    rcases k with k | ks
    · rw [valV_rl] at e; cases e
    · have m := valV_mem e
      obtain ⟨p, hp, ep⟩ := List.mem_map.mp m
      have e1 : p.1 = ks := Sum.inr.inj (congrArg (·.1) ep)
      refine .inr ⟨ks, ry, ?_, .inl ⟨l, rd, h3.mono fun b xs q => hz _ _ q, by rw [← e, valV_inr]⟩⟩
      rw [← e1]; exact (h3 p hp).2
def ixD : D → D → Option D
  | .tup xs, .int i => atI xs i
  | .lst xs, .int i => atI xs i
  | .str z, .int i => (atI z.cps.toList i).map fun c => .str ⟨#[c]⟩
  | .dct ks ds, x => x.key.bind fun k => lookD ks ds k
  | _, _ => none
theorem atI_rep {K : PySem.W.Frag} {cl : CTab} {Z : Zp} {vs : List V} {ds : List D} {i : Int} {d : D} (r : RepL K cl Z vs ds) (e : atI ds i = some d) : ∃ v, atI vs i = some v ∧ Rep K cl Z v d := by
  unfold atI at e ⊢
  rw [r.len]
  cases q : ixN ds.length i with
  | none => rw [q] at e; cases e
  | some j =>
    rw [q] at e
    exact r.get e
theorem strOk_one {z : Str} {c : Nat} (h : PyData.strOk z = true) (m : c ∈ z.cps.toList) : PyData.strOk ⟨#[c]⟩ = true := by
  unfold PyData.strOk at *
  rw [← Array.all_toList, List.all_eq_true] at h
  rw [← Array.all_toList, List.all_eq_true]
  intro x hx
  have : x = c := by simpa using hx
  rw [this]; exact h c m
theorem atI_mem {α : Type} {xs : List α} {i : Int} {v : α} (h : atI xs i = some v) : v ∈ xs := by
  obtain ⟨j, _, h2, _⟩ := atI_get h
  exact List.mem_of_getElem? h2
section
variable {cl : CTab} {md : Bool} {W : WX} {X : Cx}
theorem hu65 {k : Nat} {A : Around} (hr : Room k A) : A.units + 65 < cLine := by have := hr.un; omega
theorem hu64 {A : Around} (h : A.units + 65 < cLine) : A.units + 64 < cLine := by omega
theorem hu1 {A : Around} (h : A.units + 65 < cLine) : A.units + 9 < cLine := by omega
theorem de_ix {a b : Expr} {f1 f2 : Env → M B D} {pos : Pos} (hcl : ClOk cl X) (hu : X.A.units + 65 < cLine) (ha : DE cl B md W X a f1) (hb : DE cl B md W X b f2) (hs : PlainIx b := by exact fun _ _ => rfl) (hs2 : NoSl b := by exact fun _ _ => rfl) :
    DE cl B md W X (.Subscript a b pos) fun ρ => M.bind (f1 ρ) fun x => M.bind (f2 ρ) fun y => lift (ixD x y) := by
  refine PE.weak (PE.or (pe_ix ix_seq ha hb hs) (pe_dget2n hcl (hu1 hu) ha hb hs2)) fun σ H Q ⟨Z, C, s, ρ, w, e, p⟩ => ?_
  have dic : (∃ ks ds s1, f1 ρ s = .ok (.dct ks ds) s1) ∨ ∀ ks ds s1, f1 ρ s ≠ .ok (.dct ks ds) s1 := by
    by_cases h : ∃ ks ds s1, f1 ρ s = .ok (.dct ks ds) s1
    · exact .inl h
    · exact .inr fun ks ds s1 q => h ⟨ks, ds, s1, q⟩
  rcases dic with ⟨ks, ds, s1, e1⟩ | nd
  · refine .inr ?_
    have p0 := p
    unfold M.bind at p0
    simp only [e1] at p0
    refine ⟨Z, C, s, ρ, w, e, ?_⟩
    rw [e1]
    intro x Z1 C1 H1 w1 n1 r1
    have p1 := Post.step n1 w.ch w1.ch p0
    refine ⟨Z1, C1, s1, ρ, w1, e.mono n1.zz, Post.seq w1.ch p1 fun dy s2 y Z2 C2 H2 w2 n2 r2 p2 => ?_⟩
    obtain ⟨d, hd, q⟩ := post_lift w2 p2
    simp only [ixD] at hd
    cases hk : dy.key with
    | none => rw [hk] at hd; cases hd
    | some k =>
      rw [hk] at hd
      have hd' : lookD ks ds k = some d := hd
      cases key_eq hk
      cases r1 with
      | dct a dkv b c b' =>
        subst b
        obtain ⟨v, h1, h2⟩ := (look_rep k (b'.mono n2.zz)).1 d hd'
        exact ⟨_, v, rfl, dget_some (sub_rd w2.zh (sub_rd n2.zz.h a)) w2.zh (dkv.mono fun _ _ q => n2.zz.h _ _ q) (keyV_of_rep r2 w2.zh) h1, q v Z2 H2 (.refl w2.zh) h2⟩
  · refine .inl ?_
    refine ⟨Z, C, s, ρ, w, e, ?_⟩
    cases e1 : f1 ρ s with
    | stuck => unfold M.bind at p; simp only [e1] at p; exact p
    | err x s1 => unfold M.bind at p; simp only [e1] at p; exact p
    | ok dx s1 =>
      unfold M.bind at p; simp only [e1] at p
      intro x Z1 C1 H1 w1 n1 r1
      have p1 := Post.step n1 w.ch w1.ch p
      refine ⟨Z1, C1, s1, ρ, w1, e.mono n1.zz, Post.seq w1.ch p1 fun dy s2 y Z2 C2 H2 w2 n2 r2 p2 => ?_⟩
      obtain ⟨d, hd, q⟩ := post_lift w2 p2
      cases dx with
      | tup xs =>
        cases dy <;> (simp only [ixD] at hd; try (cases hd; done))
        cases r2
        cases r1 with
        | tup a b c =>
          obtain ⟨v, h1, h2⟩ := atI_rep (c.mono n2.zz) hd
          exact .inr (.inl ⟨_, _, _, v, rfl, rfl, sq_t (w2.zh _ _ (n2.zz _ _ a)), h1, q v Z2 H2 (.refl w2.zh) h2⟩)
      | lst xs =>
        cases dy <;> (simp only [ixD] at hd; try (cases hd; done))
        cases r2
        cases r1 with
        | slst a b c =>
          obtain ⟨v, h1, h2⟩ := atI_rep (c.mono n2.zz) hd
          exact .inl ⟨_, _, _, v, rfl, rfl, SqL.sub w2.zh (a.sub n2.zz.h), h1, q v Z2 H2 (.refl w2.zh) h2⟩
      | str z =>
        cases dy <;> (simp only [ixD] at hd; try (cases hd; done))
        cases r2
        cases r1 with
        | str a b =>
          obtain ⟨c, h1, h2⟩ := Option.map_eq_some_iff.mp hd
          subst h2
          exact .inr (.inr ⟨_, _, c, rfl, rfl, a, h1, q _ Z2 H2 (.refl w2.zh) (.str (by show 1 ≤ sizeLine; decide) (strOk_one b (atI_mem h1)))⟩)
      | dct ks ds => exact absurd e1 (nd ks ds s1)
      | non => simp [ixD] at hd
      | bl => simp [ixD] at hd
      | int => simp [ixD] at hd
      | ins => simp [ixD] at hd
      | ref => simp [ixD] at hd
def D.asI : D → Option Int
  | .int i => some i
  | _ => none
theorem do_none : DO cl B md W X none (fun _ => M.pure none) :=
  PO.weak po_none fun σ H Q ⟨Z, C, s, ρ, w, e, p⟩ => p none Z C H w (.refl ..) rfl
theorem do_some {e : Expr} {f : Env → M B D} (h : DE cl B md W X e f) : DO cl B md W X (some e) fun ρ => M.bind (f ρ) fun x => lift (x.asI.map some) := by
  refine PO.weak (po_some h) fun σ H Q ⟨Z, C, s, ρ, w, e, p⟩ => ?_
  refine ⟨Z, C, s, ρ, w, e, Post.seq w.ch p fun dx s1 x Z1 C1 H1 w1 n1 r1 p1 => ?_⟩
  obtain ⟨a, ha, q⟩ := post_liftG w1 p1
  obtain ⟨i, h1, h2⟩ := Option.map_eq_some_iff.mp ha
  subst h2
  cases dx <;> (unfold D.asI at h1; cases h1)
  cases r1
  exact ⟨_, rfl, q _ rfl⟩
def cutL {α : Type} (xs : List α) (lo hi : Option Int) : List α := (xs.drop (HT.sIx xs.length 0 lo)).take (HT.sIx xs.length xs.length hi - HT.sIx xs.length 0 lo)
def slD : D → Option Int → Option Int → Option D
  | .tup xs, lo, hi => some (.tup (cutL xs lo hi))
  | .lst xs, lo, hi => some (.lst (cutL xs lo hi))
  | .str z, lo, hi => some (.str (cutS z lo hi))
  | _, _, _ => none
theorem cut_rep {K : PySem.W.Frag} {Z : Zp} {vs : List V} {ds : List D} {lo hi : Option Int} (r : RepL K cl Z vs ds) : RepL K cl Z (cutV vs lo hi) (cutL ds lo hi) := by
  unfold cutV cutL
  rw [r.len]
  exact (r.drop _).take _
theorem cut_len {α : Type} (xs : List α) (lo hi : Option Int) : (cutL xs lo hi).length ≤ xs.length := by
  unfold cutL
  rw [List.length_take, List.length_drop]
  omega
theorem cutS_sub {z : Str} {lo hi : Option Int} : ∀ c ∈ (cutS z lo hi).cps.toList, c ∈ z.cps.toList := by
  intro c hc
  unfold cutS at hc
  exact List.mem_of_mem_drop (List.mem_of_mem_take (by simpa using hc))
theorem cutS_len {z : Str} {lo hi : Option Int} : (cutS z lo hi).length ≤ z.length := by
  show (cutS z lo hi).cps.size ≤ z.cps.size
  unfold cutS
  simp only [List.size_toArray, List.length_take, List.length_drop, Array.length_toList]
  omega
theorem strOk_cut {z : Str} {lo hi : Option Int} (h : PyData.strOk z = true) : PyData.strOk (cutS z lo hi) = true := by
  unfold PyData.strOk at *
  rw [← Array.all_toList, List.all_eq_true] at h ⊢
  exact fun x hx => h x (cutS_sub x hx)
theorem de_slice {e : Expr} {lo hi : Option Expr} {f : Env → M B D} {gl gh : Env → M B (Option Int)} {p2 pos : Pos} (h : DE cl B md W X e f) (hl : DO cl B md W X lo gl) (hh : DO cl B md W X hi gh) :
    DE cl B md W X (.Subscript e (.Slice lo hi none p2) pos) fun ρ => M.bind (f ρ) fun x => M.bind (gl ρ) fun l => M.bind (gh ρ) fun u => lift (slD x l u) := by
  refine PE.weak (pe_slice ((sl_tupA.or sl_list).or sl_str) h hl hh) fun σ H Q ⟨Z, C, s, ρ, w, e, p⟩ => ?_
  refine ⟨Z, C, s, ρ, w, e, Post.seq w.ch p fun dx s1 x Z1 C1 H1 w1 n1 r1 p1 => ?_⟩
  refine ⟨Z1, C1, s1, ρ, w1, e.mono n1.zz, Post.seq w1.ch p1 fun l s2 l' Z2 C2 H2 w2 n2 r2 p2 => ?_⟩
  cases r2
  refine ⟨Z2, C2, s2, ρ, w2, e.mono (n1.zz.trans n2.zz), Post.seq w2.ch p2 fun u s3 u' Z3 C3 H3 w3 n3 r3 p3 => ?_⟩
  cases r3
  obtain ⟨d, hd, q⟩ := post_lift w3 p3
  have r1 := (r1.mono n2.zz).mono n3.zz
  cases dx <;> (unfold slD at hd; cases hd)
  · cases r1 with
    | str a b => exact .inr ⟨_, rfl, a, q _ Z3 H3 (.refl w3.zh) (.str (Nat.le_trans cutS_len a) (strOk_cut b))⟩
  · cases r1 with
    | tup a b c =>
      rename_i xs a0 vs
      refine .inl (.inl ⟨_, _, rfl, sq_t (w3.zh _ _ a), fun hc => ?_, fun hc pp hp => ?_⟩)
      · have ev : cutV vs l u = vs := by
          unfold cutV
          rw [hc.1, hc.2, List.drop_zero]
          exact List.take_of_length_le (by omega)
        have cr := cut_rep (lo := l) (hi := u) c
        rw [ev] at cr
        exact q _ Z3 H3 (.refl w3.zh) (.tup a b cr)
      · have al : Al Z3 H3 (upz Z3 pp (.tup (cutV vs l u))) (upd H3 pp (.tup (cutV vs l u))) := .new w3.zh hp (fun _ z => nomatch z)
        have cr := cut_rep (lo := l) (hi := u) c
        refine q _ _ _ al (.tup upd_same ?_ (cr.mono al.zz))
        have := cut_len xs l u
        rw [cr.len]
        have := c.len
        omega
  · cases r1 with
    | slst a b c =>
      rename_i xs a0 vs
      refine .inl (.inr ⟨_, _, rfl, SqL.sub w3.zh a, fun pp hp => ?_⟩)
      have al : Al Z3 H3 (upz Z3 pp (.lst (cutV vs l u))) (upd H3 pp (.lst (cutV vs l u))) := .new w3.zh hp (fun _ z => nomatch z)
      have cr := cut_rep (lo := l) (hi := u) c
      refine q _ _ _ al (.lst upd_same ?_ (cr.mono al.zz))
      have := cut_len xs l u
      rw [cr.len]
      have := c.len
      omega
theorem de_callB {id : String} {x : Str} {r : List V → Hp → VK → Prop} {g : List D → Option D} {e : Expr} {es : List Expr} {f : Env → M B (List D)} {p pos : Pos} (hc : CallR X (.builtin id) r) (hr : CallV X.K cl r g)
    (hg : Gl X x) (hm : X.mg x = none) (hv : bootBuiltins x = some (.builtin id)) (ha : DA cl B md W X (e :: es) f) (hn : x ≠ "__name__" := by decide) (hdb : (x == ("__debug__" : Str)) = false := by decide)
    (he : starEach (e :: es) X.env = (false, eval e X.env) :: starEach es X.env := by rfl) (hpl : (backTo pos (starEach es X.env)).any (·.1) = false := by rfl) :
    DE cl B md W X (.Call (.Name x p) (e :: es) [] pos) fun ρ => M.bind (f ρ) fun xs => lift (g xs) := by
  refine PE.weak (pe_callB hc hg hm hv ha hn hdb he hpl) fun σ H Q ⟨Z, C, s, ρ, w, e, p⟩ => ?_
  refine ⟨Z, C, s, ρ, w, e, Post.seq w.ch p fun dxs s1 xs Z1 C1 H1 w1 n1 r1 p1 => ?_⟩
  obtain ⟨d, hd, q⟩ := post_lift w1 p1
  exact hr Z1 H1 xs dxs d Q w1.zh r1.1 hd q
theorem de_callTy {T : String} {x : Str} {r : List V → Hp → VK → Prop} {g : List D → Option D} {e : Expr} {es : List Expr} {f : Env → M B (List D)} {p pos : Pos} (hc : CallR X (.type T) r) (hr : CallV X.K cl r g)
    (hg : Gl X x) (hm : X.mg x = none) (hv : bootBuiltins x = some (.type T)) (ha : DA cl B md W X (e :: es) f) (hn : x ≠ "__name__" := by decide) (hdb : (x == ("__debug__" : Str)) = false := by decide)
    (he : starEach (e :: es) X.env = (false, eval e X.env) :: starEach es X.env := by rfl) (hpl : (backTo pos (starEach es X.env)).any (·.1) = false := by rfl) :
    DE cl B md W X (.Call (.Name x p) (e :: es) [] pos) fun ρ => M.bind (f ρ) fun xs => lift (g xs) := by
  refine PE.weak (pe_callTy hc hg hm hv ha hn hdb he hpl) fun σ H Q ⟨Z, C, s, ρ, w, e, p⟩ => ?_
  refine ⟨Z, C, s, ρ, w, e, Post.seq w.ch p fun dxs s1 xs Z1 C1 H1 w1 n1 r1 p1 => ?_⟩
  obtain ⟨d, hd, q⟩ := post_lift w1 p1
  exact hr Z1 H1 xs dxs d Q w1.zh r1.1 hd q
end
def lenD : List D → Option D
  | [.str x] => some (.int x.length)
  | [.tup xs] => some (.int xs.length)
  | [.lst xs] => some (.int xs.length)
  | [.dct ks _] => some (.int ks.length)
  | _ => none
def bools : List D → Option (List Bool)
  | [] => some []
  | .bl b :: ds => (bools ds).map fun r => b :: r
  | _ :: _ => none
def allD : List D → Option D
  | [.lst xs] => (bools xs).map fun bs => .bl (bs.all id)
  | _ => none
def anyD : List D → Option D
  | [.lst xs] => (bools xs).map fun bs => .bl (bs.any id)
  | _ => none
def intD : List D → Option D
  | [.int i] => some (.int i)
  | [.bl b] => some (.int (if b then 1 else 0))
  | _ => none
def tupleD : List D → Option D
  | [.tup xs] => some (.tup xs)
  | [.lst xs] => some (.tup xs)
  | _ => none
def listD : List D → Option D
  | [.tup xs] => some (.lst xs)
  | [.lst xs] => some (.lst xs)
  | _ => none
def max2D : List D → Option D
  | [.int i, .int j] => some (.int (if j > i then j else i))
  | _ => none
def intsOf : List D → Option (List Int)
  | [] => some []
  | .int b :: ds => (intsOf ds).map fun r => b :: r
  | _ :: _ => none
def sumD : List D → Option D
  | [.lst xs] => (intsOf xs).map fun bs => .int bs.sum
  | _ => none
theorem len_dK {X : Cx} : CallR X (.builtin "len") (fun xs H Q => ∃ a kvs, xs = [V.ref a] ∧ Rd H a (.dK kvs) ∧ Q (.int (kvs.length : Nat)) H) := by
  intro pins s σ H xs us Q I r h
  obtain ⟨a, kvs, rfl, ha, q⟩ := h
  obtain ⟨u, rfl, ru⟩ := vals1 r
  cases ru
  exact d_len I ha fun t s' I' => ⟨.int kvs.length, H, I', ⟨t, rfl⟩, q⟩
section
variable {K : PySem.W.Frag} {cl : CTab} {X : Cx}
theorem repL1 {Z : Zp} {xs : List V} {d : D} (r : RepL K cl Z xs [d]) : ∃ x, xs = [x] ∧ Rep K cl Z x d := by
  cases r with | cons a b => cases b; exact ⟨_, rfl, a⟩
abbrev rLenA (K : PySem.W.Frag) (cl : CTab) : List V → Hp → VK → Prop := fun xs H Q => (∃ x n, xs = [x] ∧ LenV K x H n ∧ Q (.int n) H) ∨ (∃ a kvs, xs = [V.ref a] ∧ Rd H a (.dK kvs) ∧ Q (.int (kvs.length : Nat)) H) ∨ (∃ a l, xs = [V.ref a] ∧ Rd H a (dN cl.P cl.w a l) ∧ KsAt H l ∧ Q (.int (l.length : Nat)) H)
theorem c_len (hcl : ClOk cl X) : CallR X (.builtin "len") (rLenA X.K cl) := call_len.or (len_dK.or (len_dN2 hcl))
theorem v_len : CallV K cl (rLenA K cl) lenD := by
  intro Z H xs dxs d Q h r e q
  unfold lenD at e
  split at e <;> cases e
  · obtain ⟨x, rfl, r1⟩ := repL1 r
    cases r1 with | str a b => exact .inl ⟨_, _, rfl, ⟨a, rfl⟩, q _ Z H (.refl h) (.int _)⟩
  · obtain ⟨x, rfl, r1⟩ := repL1 r
    cases r1 with | tup a b c => exact .inl ⟨_, _, rfl, .inr ⟨_, sq_t (h _ _ a), c.len.symm⟩, q _ Z H (.refl h) (.int _)⟩
  · obtain ⟨x, rfl, r1⟩ := repL1 r
    cases r1 with | slst a b c => exact .inl ⟨_, _, rfl, .inl ⟨_, SqL.sub h a, c.len.symm⟩, q _ Z H (.refl h) (.int _)⟩
  · obtain ⟨x, rfl, r1⟩ := repL1 r
    cases r1 with
    | dct a dk b n c =>
      subst b
      rcases dk with ⟨l, h1, h2⟩ | ⟨l, _, h1, h2, h3⟩
      · subst h1 h2
        exact .inr (.inl ⟨_, _, rfl, sub_rd h a, by simpa using q (.int _) Z H (.refl h) (.int _)⟩)
      · subst h1 h2
        exact .inr (.inr ⟨_, _, rfl, sub_rd h a, h3.mono fun _ _ q => h _ _ q, by simpa using q (.int _) Z H (.refl h) (.int _)⟩)
theorem bools_rep {Z : Zp} : ∀ {ds : List D} {vs : List V} {bs : List Bool}, RepL K cl Z vs ds → bools ds = some bs → vs = bs.map V.bl
  | [], _, _, r, e => by cases r; cases e; rfl
  | d :: ds, _, bs, r, e => by
    cases r with
    | cons a b =>
      cases d <;> (unfold bools at e; try (cases e; done))
      obtain ⟨t, h1, h2⟩ := Option.map_eq_some_iff.mp e
      subst h2
      cases a
      rw [bools_rep b h1]; rfl
theorem ints_rep {Z : Zp} : ∀ {ds : List D} {vs : List V} {bs : List Int}, RepL K cl Z vs ds → intsOf ds = some bs → vs = bs.map V.int
  | [], _, _, r, e => by cases r; cases e; rfl
  | d :: ds, _, bs, r, e => by
    cases r with
    | cons a b =>
      cases d <;> (unfold intsOf at e; try (cases e; done))
      obtain ⟨t, h1, h2⟩ := Option.map_eq_some_iff.mp e
      subst h2
      cases a
      rw [ints_rep b h1]; rfl
theorem v_all : CallV K cl (rAll K) allD := by
  intro Z H xs dxs d Q h r e q
  unfold allD at e
  split at e
  · obtain ⟨bs, h1, h2⟩ := Option.map_eq_some_iff.mp e
    subst h2
    obtain ⟨x, rfl, r1⟩ := repL1 r
    cases r1 with
    | slst a b c =>
      have := bools_rep c h1
      subst this
      exact ⟨_, bs, rfl, SqL.sub h a, q _ Z H (.refl h) (.bl _)⟩
  · cases e
theorem v_any : CallV K cl (rAny K) anyD := by
  intro Z H xs dxs d Q h r e q
  unfold anyD at e
  split at e
  · obtain ⟨bs, h1, h2⟩ := Option.map_eq_some_iff.mp e
    subst h2
    obtain ⟨x, rfl, r1⟩ := repL1 r
    cases r1 with
    | slst a b c =>
      have := bools_rep c h1
      subst this
      exact ⟨_, bs, rfl, SqL.sub h a, q _ Z H (.refl h) (.bl _)⟩
  · cases e
theorem v_sum : CallV K cl (rSum K) sumD := by
  intro Z H xs dxs d Q h r e q
  unfold sumD at e
  split at e
  · obtain ⟨bs, h1, h2⟩ := Option.map_eq_some_iff.mp e
    subst h2
    obtain ⟨x, rfl, r1⟩ := repL1 r
    cases r1 with
    | slst a b c =>
      have := ints_rep c h1
      subst this
      exact ⟨_, bs, rfl, SqL.sub h a, q _ Z H (.refl h) (.int _)⟩
  · cases e
theorem v_int : CallV K cl (fun xs H Q => (∃ i, xs = [.int i] ∧ Q (.int i) H) ∨ ∃ k, xs = [.bl k] ∧ Q (.int (if k then 1 else 0)) H) intD := by
  intro Z H xs dxs d Q h r e q
  unfold intD at e
  split at e <;> cases e
  · obtain ⟨x, rfl, r1⟩ := repL1 r
    cases r1
    exact .inl ⟨_, rfl, q _ Z H (.refl h) (.int _)⟩
  · obtain ⟨x, rfl, r1⟩ := repL1 r
    cases r1
    exact .inr ⟨_, rfl, q _ Z H (.refl h) (.int _)⟩
theorem v_tuple : CallV K cl (fun xs H Q => ∃ p ys, xs = [.ref p] ∧ ((SqL K H p ys ∧ ∀ l, H l = none → Q (.ref l) (upd H l (.tup ys))) ∨ (SqT K H p ys ∧ Q (.ref p) H))) tupleD := by
  intro Z H xs dxs d Q h r e q
  unfold tupleD at e
  split at e <;> cases e
  · obtain ⟨x, rfl, r1⟩ := repL1 r
    cases r1 with | tup a b c => exact ⟨_, _, rfl, .inr ⟨sq_t (h _ _ a), q _ Z H (.refl h) (.tup a b c)⟩⟩
  · obtain ⟨x, rfl, r1⟩ := repL1 r
    cases r1 with
    | slst a b c =>
      refine ⟨_, _, rfl, .inl ⟨SqL.sub h a, fun p hp => ?_⟩⟩
      rename_i vs
      have al : Al Z H (upz Z p (.tup vs)) (upd H p (.tup vs)) := .new h hp (fun _ z => nomatch z)
      exact q _ _ _ al (.tup upd_same b (c.mono al.zz))
end
end DN
namespace DN
open PySem PySem.Spec PyProof.Rows L2 ND
variable {B : Sto}
def tyN : D → Option String
  | .non => some "NoneType"
  | .bl _ => some "bool"
  | .int _ => some "int"
  | .str _ => some "str"
  | .tup _ => some "tuple"
  | .lst _ => some "list"
  | .dct _ _ => some "dict"
  | _ => none
def TyY (K : PySem.W.Frag) (H : Hp) (x : V) (t : Value) : Prop := TyX K H x t ∨ (t = .type "dict" ∧ ∃ a P w l, x = .ref a ∧ Rd H a (dN P w a l)) ∨ (t = .type "list" ∧ ∃ a xs, x = .ref a ∧ SqR K H a xs)
theorem kit_ofY {X : Cx} {pins : List (Addr × Obj)} {σ : L2.St} {H : Hp} {s : Shared} {x : V} {u t : Value} (I : Inv X pins σ H s) (rx : RelV x u) (ty : TyY X.K H x t) : ∃ P : Heap → Prop, PySem.W.KitX X.K u t P ∧ P s.heap ∧ u ≠ .builtin "__main__.__loader__#opaque" := by
  rcases ty with ty | ⟨rfl, a, P, w, l, rfl, ea⟩ | ⟨rfl, a, xs, rfl, ea⟩
  · exact kit_of I rx ty
  · cases (show u = Value.ref a from rx)
    obtain ⟨⟨_, _, xs, _, o, es, ep, h1, h2, _⟩, _⟩ := (show ObjOk X.prog X.w H s.heap a (dN P w a l) from rd_of I.hok ea)
    exact ⟨_, PySem.W.kitx_dict, ⟨o, h1, h2.1⟩, fun z => nomatch z⟩
  · cases (show u = Value.ref a from rx)
    obtain ⟨_, its, n, _, _, e⟩ := lstR I ea
    exact ⟨_, PySem.W.kitx_list, ⟨_, e, rfl⟩, fun z => nomatch z⟩
def rIsiY (K : PySem.W.Frag) : List V → Hp → VK → Prop := fun xs H Q => ∃ (x c : V) (t u : Value) (b : Bool), xs = [x, c] ∧ ClsV c u ∧ TyY K H x t ∧ PySem.W.kitOne K t u = some b ∧ Q (.bl b) H
theorem call_isiY {X : Cx} : CallR X (.builtin "isinstance") (rIsiY X.K) := by
  intro pins s σ H xs us Q I r h
  obtain ⟨x, c, t, u, b, rfl, k, ty, e, q⟩ := h
  obtain ⟨u1, u2, rfl, r1, r2⟩ := vals2 r
  have e2 := k.eq r2
  subst e2
  obtain ⟨P, Z, p, hx⟩ := kit_ofY I r1 ty
  exact PySem.W.kia_one Z I.kIn p e hx fun tk => ⟨.bl b, H, I.tok tk, rfl, q⟩
theorem ty_rep {K : PySem.W.Frag} {cl : CTab} {Z : Zp} {H : Hp} {v : V} {d : D} {n : String} (h : Sub Z H) (r : Rep K cl Z v d) (e : tyN d = some n) : TyY K H v (.type n) := by
  cases r <;> (unfold tyN at e; cases e)
  case non => exact .inl <| .base .non
  case bl => exact .inl <| .base (.bl _)
  case int => exact .inl <| .base (.int _)
  case str => exact .inl <| .base (.str _)
  case tup a b c =>
    rcases sq_t (h _ _ a) with (q | ⟨o, q⟩) | ⟨o, its, m, h1, h2, _⟩
    · exact .inl <| .base (.tup q)
    · exact .inl (.fTuple q)
    · exact .inl (.kTuple h1 h2)
  case slst a b c => exact .inr (.inr ⟨rfl, _, _, rfl, a.sub h⟩)
  case dct a dk b c n =>
    rcases dk with ⟨l, h1, h2⟩ | ⟨l, _, h1, h2⟩
    · subst h1
      rcases sub_rd h a with q | ⟨od, q⟩
      · exact .inl (.base (.dK q))
      · exact .inl (.fDict q)
    · subst h1
      exact .inr (.inl ⟨rfl, _, _, _, _, rfl, sub_rd h a⟩)
def isD (n : String) (d : D) : Option D := (tyN d).bind fun t => (kitB t n).map .bl
def isD2 (n m : String) (d : D) : Option D := (tyN d).bind fun t => (kitB t n).bind fun a => (kitB t m).map fun b => .bl (a || b)
section
variable {cl : CTab} {md : Bool} {W : WX} {X : Cx}
theorem de_isi {a : Expr} {f : Env → M B D} {n : String} {x : Str} {p p2 pos : Pos} (ha : DE cl B md W X a f) (hg : Gl X "isinstance") (hm : X.mg "isinstance" = none) (hgx : Gl X x) (hmx : X.mg x = none) (hv : bootBuiltins x = some (.type n))
    (hn : x ≠ "__name__" := by decide) (hd : (x == ("__debug__" : Str)) = false := by decide)
    (he : starEach [a, .Name x p2] X.env = (false, eval a X.env) :: starEach [.Name x p2] X.env := by rfl) (hpl : (backTo pos (starEach [.Name x p2] X.env)).any (·.1) = false := by rfl) :
    DE cl B md W X (.Call (.Name "isinstance" p) [a, .Name x p2] [] pos) fun ρ => M.bind (f ρ) fun x => lift (isD n x) := by
  refine PE.weak (pe_callB call_isiY hg hm boot_isinstance (pa_cons ha (pa_cons (pe_bltn (v := .ty n) hgx hmx hv rfl hn hd) pa_nil) he) (by decide) (by decide) he hpl) fun σ H Q ⟨Z, C, s, ρ, w, e, p⟩ => ?_
  refine ⟨Z, C, s, ρ, w, e, Post.seq w.ch p fun dx s1 x Z1 C1 H1 w1 n1 r1 p1 => ?_⟩
  obtain ⟨d, hd, q⟩ := post_lift w1 p1
  unfold isD at hd
  cases ht : tyN dx with
  | none => rw [ht] at hd; cases hd
  | some t =>
    rw [ht] at hd
    obtain ⟨b, h1, h2⟩ := Option.map_eq_some_iff.mp hd
    subst h2
    exact ⟨x, .ty n, .type t, .type n, b, rfl, .ty n, ty_rep w1.zh r1 ht, kit_ty h1, q _ Z1 H1 (.refl w1.zh) (.bl _)⟩
def spD (K : PySem.W.Frag) (cl : CTab) (B : Sto) (n : Nat) (f : List D → M B D) : Sp := fun vs H Q E =>
  ∃ Z C s ds, Wd B true Z C H s ∧ RepL K cl Z vs ds ∧ ds.length = n ∧ Post K cl true (RpD K cl) (fun c dx _ H' => E c dx H') [] Z C H (f ds s) Q
theorem spD_len {K : PySem.W.Frag} {n : Nat} {f : List D → M B D} {ps : List Str} (hn : ps.length = n) : ∀ vs H Q E, spD K cl B n f vs H Q E → vs.length = ps.length := by
  rintro vs H Q E ⟨Z, C, s, ds, _, r, l, _⟩
  rw [r.len, l, hn]
theorem de_call {k n : Nat} {g : Addr} {fd : FuncData} {ps : List Str} {f : List D → M B D} {x : Str} {e : Expr} {es : List Expr} {fa : Env → M B (List D)} {p pos : Pos} (F : FnOk X.prog X.w X.K X.mg X.base (L2.CX X.prog X.w) k g fd ps (spD X.K cl B n f)) (hr : Room k X.A)
    (hg : Gl X x) (hm : X.mg x = some (.ref g)) (hk : PySem.W.keepIn X.K (.ref g) = true) (hb : Binds X.K fd ps []) (tk : Takes X W) (ha : DA cl B true W X (e :: es) fa) (hn : (e :: es).length = n)
    (hdb : (x == ("__debug__" : Str)) = false := by decide) (he : starEach (e :: es) X.env = (false, eval e X.env) :: starEach es X.env := by rfl) (hpl : (backTo pos (starEach es X.env)).any (·.1) = false := by rfl) :
    DE cl B true W X (.Call (.Name x p) (e :: es) [] pos) fun ρ => M.bind (fa ρ) f := by
  refine PE.weak (pe_callS F hr hg hm hk hb (fun σ => passAt tk σ) ha hdb he hpl) fun σ H Q ⟨Z, C, s, ρ, w, e, p⟩ => ?_
  refine ⟨Z, C, s, ρ, w, e, Post.seq w.ch p fun dxs s1 xs Z1 C1 H1 w1 n1 r1 p1 => ?_⟩
  refine ⟨Z1, C1, s1, dxs, w1, r1.1, r1.2.trans hn, ?_⟩
  cases hf : f dxs s1 with
  | ok d s2 => rw [hf] at p1; exact p1
  | err x s2 => rw [hf] at p1; exact p1
  | stuck => rw [hf] at p1; exact p1
end
abbrev Asg := List (Nat × D)
def setsE (ρ : Env) (as : Asg) : Env := as.foldl (fun ρ p => ρ.set p.1 (some p.2)) ρ
def setsV (σ : L2.St) (vs : List (Nat × V)) : L2.St := vs.foldl (fun σ p => σ.set p.1 (some p.2)) σ
def AsgR (K : PySem.W.Frag) (cl : CTab) (Z : Zp) : Asg → List (Nat × V) → Prop
  | [], [] => True
  | (i, d) :: as, (j, v) :: vs => i = j ∧ Rep K cl Z v d ∧ AsgR K cl Z as vs
  | _, _ => False
section
variable {K : PySem.W.Frag} {cl : CTab} {Z : Zp}
theorem AsgR.append : ∀ {as bs : Asg} {vs ws : List (Nat × V)}, AsgR K cl Z as vs → AsgR K cl Z bs ws → AsgR K cl Z (as ++ bs) (vs ++ ws)
  | [], _, [], _, _, h => h
  | (i, d) :: as, _, (j, v) :: vs, _, ⟨a, b, c⟩, h => ⟨a, b, AsgR.append c h⟩
  | [], _, _ :: _, _, h, _ => False.elim h
  | _ :: _, _, [], _, h, _ => False.elim h
end
section
variable (K : PySem.W.Frag) (cl : CTab)
def tDG (a : D → Option Asg) : TG := fun v σ H Q => ∃ (Z : Zp) (d : D) (as : Asg), Sub Z H ∧ Rep K cl Z v d ∧ a d = some as ∧ ∀ vs, AsgR K cl Z as vs → Q (setsV σ vs) H
def tDGs (a : List D → Option Asg) : TGs := fun vs σ H Q => ∃ (Z : Zp) (ds : List D) (as : Asg), Sub Z H ∧ RepL K cl Z vs ds ∧ a ds = some as ∧ ∀ ws, AsgR K cl Z as ws → Q (setsV σ ws) H
end
def DG (cl : CTab) (X : Cx) (tg : Expr) (a : D → Option Asg) : Prop := PG X tg (tDG X.K cl a)
def DGs (cl : CTab) (X : Cx) (tgs : List Expr) (a : List D → Option Asg) : Prop := PGs X tgs (tDGs X.K cl a)
theorem PG.weak {X : Cx} {e : Expr} {t t' : TG} (h : PG X e t) (w : ∀ v σ H Q, t' v σ H Q → t v σ H Q) : PG X e t' := ⟨fun pins s σ H v u Q I r q => h.run pins s σ H v u Q I r (w v σ H Q q)⟩
theorem PGs.weak {X : Cx} {e : List Expr} {t t' : TGs} (h : PGs X e t) (w : ∀ v σ H Q, t' v σ H Q → t v σ H Q) : PGs X e t' := ⟨fun pins s σ H v u Q I r q => h.run pins s σ H v u Q I r (w v σ H Q q)⟩
theorem wipe_set {σ : L2.St} {i : Nat} {o : Option V} : ∀ {own : List Nat}, i ∈ own → wipe (σ.set i o) own = wipe σ own
  | [], h => by simp at h
  | j :: r, h => by
    unfold wipe
    by_cases e : i ∈ r
    · rw [wipe_set e]
    · have e2 : i = j := by
        rcases List.mem_cons.mp h with z | z
        · exact z
        · exact absurd z e
      subst e2
      have c : ∀ (l : List Nat) (τ : L2.St), i ∉ l → wipe (τ.set i o) l = (wipe τ l).set i o := by
        intro l
        induction l with
        | nil => intro τ _; rfl
        | cons a l ih =>
          intro τ hn
          simp only [List.mem_cons, not_or] at hn
          unfold wipe
          rw [ih τ hn.2]
          exact List.set_comm _ _ (fun z => hn.1 z)
      rw [c r σ e, List.set_set]
theorem wipe_sets {own : List Nat} : ∀ (vs : List (Nat × V)) (σ : L2.St), (∀ p ∈ vs, p.1 ∈ own) → wipe (setsV σ vs) own = wipe σ own
  | [], _, _ => rfl
  | p :: vs, σ, h => by
    show wipe (setsV (σ.set p.1 (some p.2)) vs) own = wipe σ own
    rw [wipe_sets vs _ (fun q hq => h q (List.mem_cons_of_mem _ hq)), wipe_set (h p List.mem_cons_self)]
theorem asgR_mem {K : PySem.W.Frag} {cl : CTab} {Z : Zp} {own : List Nat} : ∀ {as : Asg} {vs : List (Nat × V)}, AsgR K cl Z as vs → (∀ p ∈ as, p.1 ∈ own) → ∀ p ∈ vs, p.1 ∈ own
  | [], [], _, _, p, hp => by simp at hp
  | (i, d) :: as, (j, v) :: vs, ⟨a, b, c⟩, h, p, hp => by
    rcases List.mem_cons.mp hp with rfl | hp
    · subst a; exact h _ List.mem_cons_self
    · exact asgR_mem c (fun q hq => h q (List.mem_cons_of_mem _ hq)) p hp
  | [], _ :: _, h, _, _, _ => False.elim h
  | _ :: _, [], h, _, _, _ => False.elim h
def aName (i : Nat) : D → Option Asg := fun d => some [(i, d)]
def aNil : List D → Option Asg
  | [] => some []
  | _ => none
def aCons (a : D → Option Asg) (b : List D → Option Asg) : List D → Option Asg
  | d :: ds => (a d).bind fun x => (b ds).map fun y => x ++ y
  | [] => none
def aTup (b : List D → Option Asg) : D → Option Asg
  | .tup ds => b ds
  | _ => none
theorem EnvR.set {K : PySem.W.Frag} {cl : CTab} {Z : Zp} {ρ : Env} {σ : L2.St} {i : Nat} {v : V} {d : D} (e : EnvR K cl Z ρ σ) (r : Rep K cl Z v d) : EnvR K cl Z (ρ.set i (some d)) (σ.set i (some v)) := by
  refine ⟨by simp [e.len], fun j d' q => ?_⟩
  by_cases hj : i = j
  · subst hj
    by_cases hl : i < ρ.length
    · rw [List.getElem?_set_self hl] at q
      cases q
      exact ⟨v, List.getElem?_set_self (by rw [← e.len]; exact hl), r⟩
    · rw [List.getElem?_eq_none (by simpa using hl)] at q
      cases q
  · rw [List.getElem?_set_ne hj] at q
    obtain ⟨v', h1, h2⟩ := e.get j d' q
    exact ⟨v', by rw [List.getElem?_set_ne hj]; exact h1, h2⟩
theorem EnvR.sets {K : PySem.W.Frag} {cl : CTab} {Z : Zp} : ∀ {as : Asg} {vs : List (Nat × V)} {ρ : Env} {σ : L2.St}, EnvR K cl Z ρ σ → AsgR K cl Z as vs → EnvR K cl Z (setsE ρ as) (setsV σ vs)
  | [], [], _, _, e, _ => e
  | (i, d) :: as, (j, v) :: vs, ρ, σ, e, ⟨a, b, c⟩ => by
    subst a
    show EnvR K cl Z (setsE (ρ.set i (some d)) as) (setsV (σ.set i (some v)) vs)
    exact EnvR.sets (e.set b) c
  | [], _ :: _, _, _, _, h => False.elim h
  | _ :: _, [], _, _, _, h => False.elim h
section
variable {cl : CTab} {X : Cx}
theorem dg_name {i : Nat} {x : Str} {pos : Pos} (hN : X.N.Nodup) (hi : X.N[i]? = some x) (hx : Loc X.env.scope x) (hf : X.fn x = true ∨ X.env.scope.names.lookup x = some .local := by first | exact .inl rfl | exact .inr rfl | assumption) :
    DG cl X (.Name x pos) (aName i) :=
  PG.weak (pg_name hN hi hx hf) fun v σ H Q ⟨Z, d, as, h, r, e, q⟩ => by
    cases e
    exact q [(i, v)] ⟨rfl, r, trivial⟩
theorem dgs_nil : DGs cl X [] aNil :=
  PGs.weak pgs_nil fun vs σ H Q ⟨Z, ds, as, h, r, e, q⟩ => by
    cases ds with
    | nil => cases r; cases e; exact ⟨rfl, q [] trivial⟩
    | cons d ds => cases e
theorem dgs_cons {e : Expr} {es : List Expr} {b : D → Option Asg} {bs : List D → Option Asg} (h : DG cl X e b) (t : DGs cl X es bs) (ha : (assignEach (e :: es) X.env).map (·.2) = assign e X.env :: (assignEach es X.env).map (·.2) := by rfl) : DGs cl X (e :: es) (aCons b bs) :=
  PGs.weak (pgs_cons h t ha) fun vs σ H Q ⟨Z, ds, as, hz, r, e, q⟩ => by
    cases ds with
    | nil => cases e
    | cons d ds =>
      cases r with
      | cons r1 r2 =>
        have e' : (b d).bind (fun x => (bs ds).map fun y => x ++ y) = some as := e
        cases hb : b d with
        | none => rw [hb] at e'; cases e'
        | some x =>
          rw [hb] at e'
          obtain ⟨y, h1, h2⟩ := Option.map_eq_some_iff.mp (show (bs ds).map (fun y => x ++ y) = some as from e')
          subst h2
          refine ⟨_, _, rfl, Z, d, x, hz, r1, hb, fun vs1 a1 => ⟨Z, ds, y, hz, r2, h1, fun vs2 a2 => ?_⟩⟩
          have := q (vs1 ++ vs2) (a1.append a2)
          unfold setsV at this ⊢
          rw [List.foldl_append] at this
          exact this
theorem dg_tup {es : List Expr} {k : Nat} {pos : Pos} {bs : List D → Option Asg} (hc : X.calm = true) (h : DGs cl X es bs) (hb : ∀ ds as, bs ds = some as → ds.length = es.length) (hn : (assignEach es X.env).length = es.length := by rfl)
    (hst : (assignEach es X.env).findIdx? (·.1) = none := by rfl) : DG cl X (.Tuple es k pos) (aTup bs) :=
  PG.weak (pg_tup hc h hn hst) fun v σ H Q ⟨Z, d, as, hz, r, e, q⟩ => by
    cases d <;> (unfold aTup at e; try (cases e; done))
    cases r with
    | tup a b c => exact ⟨_, _, rfl, sq_t (hz _ _ a), by rw [c.len]; exact hb _ _ e, Z, _, as, hz, c, e, q⟩
end
theorem aNil_len : ∀ ds as, aNil ds = some as → ds.length = 0 := by
  intro ds as h
  cases ds with
  | nil => rfl
  | cons => cases h
theorem aCons_len {b : D → Option Asg} {bs : List D → Option Asg} {n : Nat} (h : ∀ ds as, bs ds = some as → ds.length = n) : ∀ ds as, aCons b bs ds = some as → ds.length = n + 1 := by
  intro ds as e
  cases ds with
  | nil => cases e
  | cons d ds =>
    have e' : (b d).bind (fun x => (bs ds).map fun y => x ++ y) = some as := e
    cases hb : b d with
    | none => rw [hb] at e'; cases e'
    | some x =>
      rw [hb] at e'
      obtain ⟨y, h1, _⟩ := Option.map_eq_some_iff.mp (show (bs ds).map (fun y => x ++ y) = some as from e')
      rw [List.length_cons, h ds y h1]
def TgIn (own : List Nat) (a : D → Option Asg) : Prop := ∀ d as, a d = some as → ∀ p ∈ as, p.1 ∈ own
def TgsIn (own : List Nat) (a : List D → Option Asg) : Prop := ∀ ds as, a ds = some as → ∀ p ∈ as, p.1 ∈ own
theorem in_name {own : List Nat} {i : Nat} (h : i ∈ own) : TgIn own (aName i) := fun d as e p hp => by
  cases e
  rw [List.mem_singleton.mp hp]; exact h
theorem in_nil {own : List Nat} : TgsIn own aNil := fun ds as e p hp => by
  cases ds with
  | nil => cases e; simp at hp
  | cons => cases e
theorem in_cons {own : List Nat} {a : D → Option Asg} {b : List D → Option Asg} (h : TgIn own a) (t : TgsIn own b) : TgsIn own (aCons a b) := fun ds as e p hp => by
  cases ds with
  | nil => cases e
  | cons d ds =>
    have e' : (a d).bind (fun x => (b ds).map fun y => x ++ y) = some as := e
    cases hb : a d with
    | none => rw [hb] at e'; cases e'
    | some x =>
      rw [hb] at e'
      obtain ⟨y, h1, h2⟩ := Option.map_eq_some_iff.mp (show (b ds).map (fun y => x ++ y) = some as from e')
      subst h2
      rcases List.mem_append.mp hp with q | q
      · exact h d x hb p q
      · exact t ds y h1 p q
theorem in_tup {own : List Nat} {b : List D → Option Asg} (t : TgsIn own b) : TgIn own (aTup b) := fun d as e p hp => by
  cases d <;> (unfold aTup at e; try (cases e; done))
  exact t _ as e p hp
end DN
namespace DN
open PySem PySem.Spec PyProof.Rows L2
open PySem.AutoSeq1 (wpAny_loadPart')
theorem meets_enumerate_newT (l : Addr) (items : Array Value) (n : Nat) (dct : Option Addr) (sl : Array (Option Value)) :
    Meets (Builtin.«enumerate.__new__» ⟨[.type "enumerate", .ref l], []⟩) (fun _ R s => s.heap.get? l = some { cls := .type "tuple", dict := dct, data := .seq items n, slots := sl } ∧
      R (.ok (.ret (.ref (s.heap.push { cls := .type "tuple_iterator", data := .fields #[.ref l, .int 0 0] }).objs.size)))
        { s with heap := (s.heap.push { cls := .type "tuple_iterator", data := .fields #[.ref l, .int 0 0] }).push { cls := .type "enumerate", data := .fields #[.none, .bool false, .ref s.heap.objs.size, rawInt 0, .none, .none] } }) :=
  .of_wp fun prog w A R s h => by
    obtain ⟨hp, g, d, tk, os⟩ := s; obtain ⟨hl, h⟩ := h
    have hsub := sub_enumerate
    have hL : Heap.IsTuple (Shared.heap ⟨hp, g, d, tk, os⟩) l items := ⟨_, hl, rfl, n, rfl⟩
    wp_walk using wpAny_loadPart' hl
    refine wpAny_stack_any fun st => wpAny_pure ?_
    split
    · rename_i c _ _ _ _ _
      cases (c == Value.type "enumerate")
      · wp_walk using wpAny_loadPart' hl, wpAny_pyIter_tuple hL
        exact ⟨_, rfl, h⟩
      · wp_walk using wpAny_loadPart' hl, wpAny_pyIter_tuple hL
        exact ⟨_, rfl, h⟩
    · wp_walk using wpAny_loadPart' hl, wpAny_pyIter_tuple hL
      exact ⟨_, rfl, h⟩
section
variable {prog : Program} {w : World} {A : Around} {E : Value → Shared → Prop} {s : Shared}
theorem call_enumerate_tuple {l : Addr} {items : Array Value} {Q : Value → Shared → Prop} (hL : s.heap.IsTuple l items)
    (h : ∀ h', IsEnum h' (s.heap.objs.size + 1) s.heap.objs.size 0 .none → h'.IsTupleIter s.heap.objs.size l 0 → h'.objs.size = s.heap.objs.size + 2 →
      (∀ b o, s.heap.get? b = some o → h'.get? b = some o) → Q (.ref (s.heap.objs.size + 1)) { s with heap := h' }) :
    wpAny (model prog w) A (call (.type "enumerate") [.ref l]) Q E s := by
  obtain ⟨⟨c, dct, dt, sl⟩, hl, hc, n, hd⟩ := hL
  replace hc : c = .type "tuple" := hc
  replace hd : dt = .seq items n := hd
  subst hc hd
  refine callType_new F.called_enumerate (by decide) (F.typeCall_enumerate_1 _) (F.newCall_enumerate_1 _) (fun obj => F.args_object_init_2 obj _) F.entry_enumerate_new
    (meets_enumerate_newT l items n dct sl) ⟨hl, ?_⟩
  have hz : (s.heap.push { cls := .type "tuple_iterator", data := .fields #[.ref l, .int 0 0] }).objs.size = s.heap.objs.size + 1 := Heap.size_push ..
  show _ ∧ _
  rw [hz]
  have he : IsEnum ((s.heap.push { cls := .type "tuple_iterator", data := .fields #[.ref l, .int 0 0] }).push
      { cls := .type "enumerate", data := .fields #[.none, .bool false, .ref s.heap.objs.size, rawInt 0, .none, .none] }) (s.heap.objs.size + 1) s.heap.objs.size 0 .none := by
    have := Heap.get?_push_size (s.heap.push { cls := .type "tuple_iterator", data := .fields #[.ref l, .int 0 0] })
      (o := { cls := .type "enumerate", data := .fields #[.none, .bool false, .ref s.heap.objs.size, rawInt 0, .none, .none] }) rfl
    rw [hz] at this; exact this
  refine ⟨⟨_, he, rfl⟩, h _ he ⟨_, Heap.get?_push_of_some _ (Heap.get?_push_size _ rfl), rfl, rfl⟩ (by rw [Heap.size_push, hz]) fun b o x => Heap.get?_push_of_some _ (Heap.get?_push_of_some _ x)⟩
end
def IteT (K : PySem.W.Frag) (a : Addr) : It :=
  ⟨fun i H => ∃ (xs : List V) (x : V), SqT K H a xs ∧ xs[i]? = some x, fun i H v H' => ∃ T x, v = .ref T ∧ H T = none ∧ H' = upd H T (.tup [.int (i : Nat), x]) ∧ ∀ xs, SqT K H a xs → xs[i]? = some x, fun i H => ∃ xs : List V, SqT K H a xs ∧ xs.length = i⟩
theorem turn_enumT {P : Program} {w : World} {K : PySem.W.Frag} {elts : List Expr} {kk : Nat} {tpos : Pos} (a e it : Addr) (hai : a ≠ it) (hae : a ≠ e) :
    Turn P w K (.Tuple elts kk tpos) (IteT K a) [e, it] e (fun i h => (∃ old, IsEnum h e it ((i : Nat) : Int) old) ∧ h.IsTupleIter it a i ∧ e ≠ it) where
  mem := by simp
  obj := fun i h st b hb => by
    obtain ⟨⟨old, he⟩, ⟨o, ho, hc, hd⟩, _⟩ := st
    have e' : b = e ∨ b = it := by simpa using hb
    rcases e' with z | z
    · rw [z]; exact ⟨_, he, fun v q => nomatch q⟩
    · rw [z]; exact ⟨o, ho, fun v q => by rw [hd] at q; cases q⟩
  keep := fun i h h' st k => let ⟨⟨old, he⟩, hi, hne⟩ := st; ⟨⟨old, k e (by simp) _ he⟩, hi.at fun o q => k it (by simp) o q, hne⟩
  item := by
    intro X hP hw hK hc i pins s σ H E I hf st hg
    subst hP hw hK
    obtain ⟨⟨old, he⟩, hit, hne⟩ := st
    obtain ⟨xs, x, hq, hx⟩ := hg
    obtain ⟨its, rv, p, hz⟩ := I.tuple hq
    obtain ⟨u, hu, ru⟩ := rv.get hx
    have hel : e < s.heap.objs.size := Heap.lt_size he
    have hil : it < s.heap.objs.size := by obtain ⟨_, q, _⟩ := hit; exact Heap.lt_size q
    have hlt : i < its.toArray.size := by
      have := (List.getElem?_eq_some_iff.mp hu).1
      simpa using this
    have hh : X.A.in1.handled = none := I.ok.hd hc
    refine wpAny_pyNext_enum_itemC (Draws.tuple hh it a hai its.toArray) he ⟨hit, (show s.heap.IsTuple a its.toArray from p)⟩ hlt hne (by simp; exact ⟨hne, fun z => hae z.symm⟩) fun y h' tk hy ho hst hT hsz hk => ?_
    have hyu : y = u := by
      have hy' : its.toArray[i]? = some y := hy
      have : its.toArray[i]? = some u := by simpa using hu
      rw [this] at hy'
      exact (Option.some.inj hy').symm
    subst hyu
    refine ⟨_, rfl, wpAny_letOwnedTupleGo_enum (s := { s with heap := h', toks := tk + 1 }) ho fun h'' he' sb => ?_⟩
    have hT2 : h''.get? s.heap.objs.size = some { cls := .type "tuple", data := .seq #[.int i tk, y] } := (sb.2 _ (Nat.ne_of_gt hel)).trans hT
    have new : ObjOk X.prog X.w (upd H s.heap.objs.size (.tup [.int (i : Nat), x])) h'' s.heap.objs.size (.tup [.int (i : Nat), x]) :=
      ⟨by show 2 ≤ sizeLine; decide, [.int i tk, y], .cons ⟨_, rfl⟩ (.cons ru .nil), ⟨_, hT2, rfl, _, rfl⟩⟩
    have I1 : Inv X pins σ (upd H s.heap.objs.size (.tup [.int (i : Nat), x])) { s with heap := h'', toks := tk + 1 } :=
      I.turnedNew (ch := [e, it]) (fun b ob hb q => (sb.2 b (fun z => hb (by simp [z]))).trans (hk b ob (fun z => hb (by simp [z])) (fun z => hb (by simp [z])) q)) hf (Nat.le_refl _) new
    refine ⟨.ref s.heap.objs.size, _, I1, rfl, ⟨_, x, rfl, I.hok.fresh (Nat.le_refl _), rfl, fun ys hy => by rw [I.tuple_inj hy hq]; exact hx⟩, ⟨⟨y, ?_⟩, hst.1.at fun o q => (sb.2 it (Ne.symm hne)).trans q, hne⟩, fun b hb => ?_⟩
    · have e1 : ((i + 1 : Nat) : Int) = (i : Int) + 1 := by omega
      rw [e1]; exact he'
    · have hb' : b < s.heap.objs.size := by
        have e' : b = e ∨ b = it := by simpa using hb
        rcases e' with z | z
        · rw [z]; exact hel
        · rw [z]; exact hil
      rw [upd_ne (Nat.ne_of_lt hb')]
      exact (hf b hb).1
  done := by
    intro X hP hw hK hc i pins s σ H E I hf st hg
    subst hP hw hK
    obtain ⟨⟨old, he⟩, hit, hne⟩ := st
    obtain ⟨xs, hq, hx⟩ := hg
    obtain ⟨its, rv, p, hz⟩ := I.tuple hq
    obtain ⟨f0, f1, f2, f3, f4, f5⟩ := hf it (by simp)
    have hl := rv.length
    have hh : X.A.in1.handled = none := I.ok.hd hc
    have hi : i = its.toArray.size := by simp; omega
    subst hi
    exact wpAny_pyNext_enum_endD (Draws.tuple hh it a hai its.toArray) he ⟨hit, (show s.heap.IsTuple a its.toArray from p)⟩ fun h' eb => ⟨rfl, I.turned (t' := s.toks) (fun b o hb q => eb b o hb q) f0 f1 f3 f4 f5⟩
  self := fun A i s Q E st h => let ⟨⟨_, he⟩, _⟩ := st; wpAny_pyIter_enum he h
def iEnumT (K : PySem.W.Frag) (ta : TA) : TI := fun σ H R => ta σ H fun vs H1 => ∃ a xs, vs = [.ref a] ∧ SqT K H1 a xs ∧ R (IteT K a) H1
theorem pi_enumT {X : Cx} {e : Expr} {ta : TA} {p pos tpos : Pos} {elts : List Expr} {kk : Nat} (hg : Gl X "enumerate") (hm : X.mg "enumerate" = none) (ha : PA X [e] ta) (hs : starEach [e] X.env = [(false, eval e X.env)] := by rfl) :
    PI X (.Tuple elts kk tpos) (.Call (.Name "enumerate" p) [e] [] pos) (iEnumT X.K ta) := by
  refine ⟨fun pins s σ H R I h => ?_⟩
  refine Call_ (ld_blt I hg hm boot_enumerate (PyProof.Rows.callWith_type1 (thn (ha.run pos pins s σ H _ I h) fun us s1 ⟨vs, H1, I1, r1, q1⟩ => ?_) hs rfl))
  obtain ⟨a, xs, ex, hq, q⟩ := q1
  subst ex
  cases r1 with
  | cons r rr =>
    cases rr
    cases r
    obtain ⟨its, rv, p', hz⟩ := I1.tuple hq
    have hT : s1.heap.IsTuple a its.toArray := p'
    have hal : a < s1.heap.objs.size := by obtain ⟨_, q, _⟩ := hT; exact Heap.lt_size q
    refine call_enumerate_tuple hT fun h' he hit hsz hk => wpAny_pyIter_enum he ?_
    have I2 : Inv X pins σ H1 { s1 with heap := h' } := I1.kept (t' := s1.toks) hk
    refine ⟨s1.heap.objs.size + 1, [s1.heap.objs.size + 1, s1.heap.objs.size], _, _, H1, rfl, I2, turn_enumT a (s1.heap.objs.size + 1) s1.heap.objs.size (Nat.ne_of_lt hal) (Nat.ne_of_lt (Nat.lt_succ_of_lt hal)), ⟨⟨.none, he⟩, hit, Nat.succ_ne_self _⟩, fun b hb => ?_, q⟩
    have e' : b = s1.heap.objs.size + 1 ∨ b = s1.heap.objs.size := by simpa using hb
    have hle : s1.heap.objs.size ≤ b := by
      rcases e' with z | z
      · rw [z]; exact Nat.le_add_right _ _
      · rw [z]; exact Nat.le_refl _
    exact I1.fpOk hle (I1.hok.fresh hle)
theorem walk_enumT {K : PySem.W.Frag} {a : Addr} {xs : List V} : Walk (IteT K a) xs.length (fun H => SqT K H a xs) (YPair (fun i => some (.int (i : Nat))) (fun i => xs[i]?)) := by
  refine ⟨fun i _ hi q => ⟨xs, xs[i], q, by simp [hi]⟩, fun _ q => ⟨xs, q, rfl⟩, fun i H v H' _ q y => ?_⟩
  obtain ⟨T, x, h1, h2, h3, h4⟩ := y
  exact ⟨T, .int (i : Nat), x, h1, h2, h3, rfl, h4 xs q⟩
end DN
namespace DN
open PySem PySem.Spec PyProof.Rows L2 RZ ND
variable {B : Sto}
def YIt (K : PySem.W.Frag) (cl : CTab) (Z : Zp) (ds : List D) : Nat → Hp → V → Hp → Prop := fun i H x H' => ∃ d, ds[i]? = some d ∧ ∀ Zc, SubZ Z Zc → Sub Zc H → ∃ Zc', Al Zc H Zc' H' ∧ Rep K cl Zc' x d
def ItR (K : PySem.W.Frag) (cl : CTab) (Z : Zp) (J : It) (ds : List D) : Prop := Walk J ds.length (fun H => Sub Z.h H) (YIt K cl Z ds) ∧ ds.length ≤ sizeLine
abbrev RpI (K : PySem.W.Frag) (cl : CTab) : Zp → It → List D → Prop := fun Z J ds => ItR K cl Z J ds
def DI (cl : CTab) (B : Sto) (md : Bool) (W : WX) (X : Cx) (tg e : Expr) (f : Env → M B (List D)) : Prop := PI X tg e (tG X.K cl B md (RpI X.K cl) W f)
theorem PI.weak {X : Cx} {tg e : Expr} {t t' : TI} (h : PI X tg e t) (w : ∀ σ H Q, t' σ H Q → t σ H Q) : PI X tg e t' := ⟨fun pins s σ H Q I q => h.run pins s σ H Q I (w σ H Q q)⟩
theorem PI.or {X : Cx} {tg e : Expr} {t t' : TI} (h : PI X tg e t) (h' : PI X tg e t') : PI X tg e (fun σ H Q => t σ H Q ∨ t' σ H Q) :=
  ⟨fun pins s σ H Q I q => q.elim (h.run pins s σ H Q I) (h'.run pins s σ H Q I)⟩
section
variable {K : PySem.W.Frag} {cl : CTab} {Z : Zp}
theorem it_list {a : Addr} {vs : List V} {ds : List D} (h : SqR K Z.h a vs) (hz : vs.length ≤ sizeLine) (r : RepL K cl Z vs ds) : ItR K cl Z (Itl K a) ds := by
  refine ⟨?_, by rw [← r.len]; exact hz⟩
  rw [← r.len]
  refine walk_list.mono (fun H s => SqL.sub s h) fun i H x H' hi s ⟨e, q⟩ => ?_
  obtain ⟨d, h1, h2⟩ := r.getV q
  refine ⟨d, h1, fun Zc a b => ⟨Zc, by rw [e]; exact .refl b, h2.mono a⟩⟩
theorem it_tup {a : Addr} {vs : List V} {ds : List D} (h : Z a = some (.tup vs)) (hz : vs.length ≤ sizeLine) (r : RepL K cl Z vs ds) : ItR K cl Z (Itt K a) ds := by
  refine ⟨?_, by rw [← r.len]; exact hz⟩
  rw [← r.len]
  refine walk_tup.mono (fun H s => sq_t (K := K) (s _ _ h)) fun i H x H' hi s ⟨e, q⟩ => ?_
  obtain ⟨d, h1, h2⟩ := r.getV q
  refine ⟨d, h1, fun Zc a b => ⟨Zc, by rw [e]; exact .refl b, h2.mono a⟩⟩
theorem it_str {z : Str} (hz : z.length ≤ sizeLine) (ok : PyData.strOk z = true) : ItR K cl Z (Its z) (z.cps.toList.map fun c => .str ⟨#[c]⟩) := by
  refine ⟨?_, by rw [List.length_map, Array.length_toList]; exact hz⟩
  rw [List.length_map, Array.length_toList]
  refine walk_str.mono (fun H s => trivial) fun i H x H' hi s ⟨e, c, q, hx⟩ => ?_
  have q' : z.cps.toList[i]? = some c := by simpa using q
  refine ⟨.str ⟨#[c]⟩, by rw [List.getElem?_map, q']; rfl, fun Zc a b => ⟨Zc, by rw [e]; exact .refl b, ?_⟩⟩
  rw [hx]
  exact .str (by show 1 ≤ sizeLine; decide) (strOk_one ok (List.mem_of_getElem? q'))
theorem it_range {lo : Int} {n : Nat} (hz : n ≤ sizeLine) : ItR K cl Z (Itr lo n) ((List.range n).map fun i : Nat => .int (lo + (i : Int))) := by
  refine ⟨?_, by rw [List.length_map, List.length_range]; exact hz⟩
  rw [List.length_map, List.length_range]
  refine walk_range.mono (fun H s => trivial) fun i H x H' hi s ⟨e, hx⟩ => ?_
  refine ⟨.int (lo + (i : Int)), by rw [List.getElem?_map, List.getElem?_range hi]; rfl, fun Zc a b => ⟨Zc, by rw [e]; exact .refl b, ?_⟩⟩
  rw [hx]; exact .int _
theorem y_pair {xs ys : Nat → Option V} {i : Nat} {H H' : Hp} {v : V} {dx dy : D} {x y : V} {T : Addr} (hv : v = .ref T) (hT : H T = none) (hH : H' = upd H T (.tup [x, y])) (rx : ∀ Zc, SubZ Z Zc → Rep K cl Zc x dx) (ry : ∀ Zc, SubZ Z Zc → Rep K cl Zc y dy) :
    ∀ Zc, SubZ Z Zc → Sub Zc H → ∃ Zc', Al Zc H Zc' H' ∧ Rep K cl Zc' v (.tup [dx, dy]) := by
  subst hv hH
  intro Zc a b
  have al : Al Zc H (upz Zc T (.tup [x, y])) (upd H T (.tup [x, y])) := .new b hT (fun _ z => nomatch z)
  exact ⟨_, al, .tup upd_same (by show 2 ≤ sizeLine; decide) (.cons (rx _ (a.trans al.zz)) (.cons (ry _ (a.trans al.zz)) .nil))⟩
def enumL : Nat → List D → List D
  | _, [] => []
  | i, d :: ds => .tup [.int i, d] :: enumL (i + 1) ds
theorem enumL_len : ∀ (i : Nat) (ds : List D), (enumL i ds).length = ds.length
  | _, [] => rfl
  | i, d :: ds => by simp [enumL, enumL_len (i + 1) ds]
theorem enumL_get : ∀ (j : Nat) (ds : List D) (i : Nat) (d : D), ds[i]? = some d → (enumL j ds)[i]? = some (.tup [.int ((j + i : Nat) : Int), d])
  | _, [], _, _, h => by simp at h
  | j, e :: ds, 0, d, h => by simp at h; subst h; simp [enumL]
  | j, e :: ds, i + 1, d, h => by
    have := enumL_get (j + 1) ds i d (by simpa using h)
    simp only [enumL, List.getElem?_cons_succ, this]
    rw [show j + 1 + i = j + (i + 1) by omega]
theorem it_enum {J : It} {vs : List V} {ds : List D} (hz : vs.length ≤ sizeLine) (r : RepL K cl Z vs ds) (w : Walk J vs.length (fun H => Sub Z H) (YPair (fun i => some (.int (i : Nat))) (fun i => vs[i]?))) : ItR K cl Z J (enumL 0 ds) := by
  refine ⟨?_, by rw [enumL_len, ← r.len]; exact hz⟩
  rw [enumL_len, ← r.len]
  refine w.mono (fun H s => s) fun i H v H' hi s ⟨T, x, y, h1, h2, h3, h4, h5⟩ => ?_
  obtain ⟨d, e1, e2⟩ := r.getV h5
  have ex : x = .int (i : Nat) := (Option.some.inj h4).symm
  subst ex
  refine ⟨_, enumL_get 0 ds i d e1, ?_⟩
  rw [Nat.zero_add]
  exact y_pair (xs := fun _ => none) (ys := fun _ => none) (i := 0) h1 h2 h3 (fun Zc _ => .int _) (fun Zc a => e2.mono a)
def zipL : List D → List D → List D
  | x :: xs, y :: ys => .tup [x, y] :: zipL xs ys
  | _, _ => []
theorem zipL_len : ∀ (xs ys : List D), (zipL xs ys).length = min xs.length ys.length
  | [], _ => by simp [zipL]
  | _ :: _, [] => by simp [zipL]
  | x :: xs, y :: ys => by simp [zipL, zipL_len xs ys]
theorem zipL_get : ∀ (xs ys : List D) (i : Nat) (d e : D), xs[i]? = some d → ys[i]? = some e → (zipL xs ys)[i]? = some (.tup [d, e])
  | [], _, _, _, _, h, _ => by simp at h
  | _ :: _, [], _, _, _, _, h => by simp at h
  | x :: xs, y :: ys, 0, d, e, h, h' => by simp at h h'; subst h h'; simp [zipL]
  | x :: xs, y :: ys, i + 1, d, e, h, h' => by
    simp only [zipL, List.getElem?_cons_succ]
    exact zipL_get xs ys i d e (by simpa using h) (by simpa using h')
theorem it_zip {J : It} {vs ws : List V} {ds es : List D} (hz : vs.length ≤ sizeLine) (r : RepL K cl Z vs ds) (r' : RepL K cl Z ws es) (w : Walk J (min vs.length ws.length) (fun H => Sub Z H) (YPair (fun i => vs[i]?) (fun i => ws[i]?))) : ItR K cl Z J (zipL ds es) := by
  refine ⟨?_, by rw [zipL_len, ← r.len]; omega⟩
  rw [zipL_len, ← r.len, ← r'.len]
  refine w.mono (fun H s => s) fun i H v H' hi s ⟨T, x, y, h1, h2, h3, h4, h5⟩ => ?_
  obtain ⟨d, e1, e2⟩ := r.getV h4
  obtain ⟨d', e1', e2'⟩ := r'.getV h5
  exact ⟨_, zipL_get ds es i d d' e1 e1', y_pair (xs := fun _ => none) (ys := fun _ => none) (i := 0) h1 h2 h3 (fun Zc a => e2.mono a) (fun Zc a => e2'.mono a)⟩
theorem walk_zipT {K : PySem.W.Frag} {a b : Addr} {xs ys : List V} {n : Nat} (hn : n = min xs.length ys.length) : Walk (ItzT K a b) n (fun H => SqT K H a xs ∧ SqT K H b ys) (YPair (fun i => xs[i]?) (fun i => ys[i]?)) := by
  subst hn
  refine ⟨fun i _ hi q => ?_, fun _ q => ⟨xs, ys, q.1, q.2, by omega⟩, fun i H v H' _ q y => ?_⟩
  · have h1 : i < xs.length := by omega
    have h2 : i < ys.length := by omega
    exact ⟨xs, ys, xs[i], ys[i], q.1, q.2, by simp [h1], by simp [h2]⟩
  · obtain ⟨T, x, z, h1, h2, h3, h4, h5⟩ := y
    exact ⟨T, x, z, h1, h2, h3, h4 xs q.1, h5 ys q.2⟩
end
end DN
namespace DN
open PySem PySem.Spec PyProof.Rows L2 RZ ND
variable {B : Sto}
abbrev tupI (x : D) : Option (List D) := match x with
  | .tup xs => some xs
  | _ => none
abbrev listI (x : D) : Option (List D) := match x with
  | .lst xs => some xs
  | _ => none
abbrev strI (x : D) : Option (List D) := match x with
  | .str z => some (z.cps.toList.map fun c => .str ⟨#[c]⟩)
  | _ => none
abbrev anyI (x : D) : Option (List D) := match x with
  | .tup xs => some xs
  | .lst xs => some xs
  | .str z => some (z.cps.toList.map fun c => .str ⟨#[c]⟩)
  | _ => none
abbrev enumTI (x : D) : Option (List D) := match x with
  | .tup xs => some (enumL 0 xs)
  | _ => none
abbrev enumLI (x : D) : Option (List D) := match x with
  | .lst xs => some (enumL 0 xs)
  | _ => none
abbrev enumI (x : D) : Option (List D) := match x with
  | .tup xs => some (enumL 0 xs)
  | .lst xs => some (enumL 0 xs)
  | _ => none
abbrev zipTI (x y : D) : Option (List D) := match x, y with
  | .tup xs, .tup ys => some (zipL xs ys)
  | _, _ => none
abbrev zipLI (x y : D) : Option (List D) := match x, y with
  | .lst xs, .lst ys => some (zipL xs ys)
  | _, _ => none
abbrev zipI (x y : D) : Option (List D) := match x, y with
  | .tup xs, .tup ys => some (zipL xs ys)
  | .lst xs, .lst ys => some (zipL xs ys)
  | _, _ => none
section
variable {cl : CTab} {md : Bool} {W : WX} {X : Cx} {tg : Expr}
theorem di_tup {e : Expr} {f : Env → M B D} (h : DE cl B md W X e f) : DI cl B md W X tg e fun ρ => M.bind (f ρ) fun x => lift (tupI x) := by
  refine PI.weak (pi_tup h) fun σ H Q ⟨Z, C, s, ρ, w, e, p⟩ => ?_
  refine ⟨Z, C, s, ρ, w, e, Post.seq w.ch p fun dx s1 x Z1 C1 H1 w1 n1 r1 p1 => ?_⟩
  obtain ⟨ds, hd, q⟩ := post_liftG w1 p1
  cases dx <;> (try (cases hd; done))
  cases hd
  cases r1 with
  | tup a b c => exact ⟨_, rfl, ⟨_, sq_t (w1.zh _ _ a)⟩, q _ (it_tup a b c)⟩
theorem di_list {e : Expr} {f : Env → M B D} (h : DE cl B md W X e f) : DI cl B md W X tg e fun ρ => M.bind (f ρ) fun x => lift (listI x) := by
  refine PI.weak (pi_list h) fun σ H Q ⟨Z, C, s, ρ, w, e, p⟩ => ?_
  refine ⟨Z, C, s, ρ, w, e, Post.seq w.ch p fun dx s1 x Z1 C1 H1 w1 n1 r1 p1 => ?_⟩
  obtain ⟨ds, hd, q⟩ := post_liftG w1 p1
  cases dx <;> (try (cases hd; done))
  cases hd
  cases r1 with
  | slst a b c => exact ⟨_, rfl, ⟨_, SqL.sub w1.zh a⟩, q _ (it_list a b c)⟩
theorem di_str {e : Expr} {f : Env → M B D} (h : DE cl B md W X e f) : DI cl B md W X tg e fun ρ => M.bind (f ρ) fun x => lift (strI x) := by
  refine PI.weak (pi_str h) fun σ H Q ⟨Z, C, s, ρ, w, e, p⟩ => ?_
  refine ⟨Z, C, s, ρ, w, e, Post.seq w.ch p fun dx s1 x Z1 C1 H1 w1 n1 r1 p1 => ?_⟩
  obtain ⟨ds, hd, q⟩ := post_liftG w1 p1
  cases dx <;> (try (cases hd; done))
  cases hd
  cases r1 with
  | str a b => exact ⟨_, rfl, q _ (it_str a b)⟩
theorem di_any {e : Expr} {f : Env → M B D} (h : DE cl B md W X e f) : DI cl B md W X tg e fun ρ => M.bind (f ρ) fun x => lift (anyI x) := by
  refine PI.weak (PI.or (di_tup (tg := tg) h) (PI.or (di_list (tg := tg) h) (di_str (tg := tg) h))) fun σ H Q ⟨Z, C, s, ρ, w, e, p⟩ => ?_
  cases ef : f ρ s with
  | stuck => refine .inl ⟨Z, C, s, ρ, w, e, ?_⟩; unfold M.bind at p ⊢; simp only [ef] at p ⊢; exact p
  | err x s1 => refine .inl ⟨Z, C, s, ρ, w, e, ?_⟩; unfold M.bind at p ⊢; simp only [ef] at p ⊢; exact p
  | ok d s1 =>
    cases d with
    | lst xs => refine .inr (.inl ⟨Z, C, s, ρ, w, e, ?_⟩); unfold M.bind at p ⊢; simp only [ef] at p ⊢; exact p
    | str xs => refine .inr (.inr ⟨Z, C, s, ρ, w, e, ?_⟩); unfold M.bind at p ⊢; simp only [ef] at p ⊢; exact p
    | tup xs => refine .inl ⟨Z, C, s, ρ, w, e, ?_⟩; unfold M.bind at p ⊢; simp only [ef] at p ⊢; exact p
    | _ => refine .inl ⟨Z, C, s, ρ, w, e, ?_⟩; unfold M.bind at p ⊢; simp only [ef] at p ⊢; exact p
def range1 : D → Option (List D)
  | .int j => if -100000 ≤ j ∧ j ≤ 100000 then some ((List.range j.toNat).map fun i : Nat => .int (i : Int)) else none
  | _ => none
theorem toNat_small {j : Int} (h : j ≤ 200000) : j.toNat ≤ sizeLine := by rw [sizeLine_eq]; omega
theorem di_range1 {a : Expr} {f : Env → M B D} {p pos : Pos} (hg : Gl X "range") (hm : X.mg "range" = none) (ha : DE cl B md W X a f) (hs : starEach [a] X.env = [(false, eval a X.env)] := by rfl) :
    DI cl B md W X tg (.Call (.Name "range" p) [a] [] pos) fun ρ => M.bind (f ρ) fun x => lift (range1 x) := by
  refine PI.weak (pi_range1 hg hm (pa_cons ha pa_nil hs) hs) fun σ H Q ⟨Z, C, s, ρ, w, e, p⟩ => ?_
  refine ⟨Z, C, s, ρ, w, e, Post.seq w.ch p fun dx s1 x Z1 C1 H1 w1 n1 r1 p1 => ?_⟩
  obtain ⟨ds, hd, q⟩ := post_liftG w1 p1
  unfold range1 at hd
  split at hd
  · split at hd <;> cases hd
    rename_i j hj
    cases r1
    refine ⟨j, rfl, by omega, by omega, ?_⟩
    have := it_range (K := X.K) (cl := cl) (Z := Z1) (lo := 0) (n := j.toNat) (toNat_small (by omega))
    have e0 : ((List.range j.toNat).map fun i : Nat => D.int (0 + (i : Int))) = (List.range j.toNat).map fun i : Nat => D.int (i : Int) := List.map_congr_left fun i _ => by rw [Int.zero_add]
    rw [e0] at this
    exact q _ this
  · cases hd
theorem di_enumT {a : Expr} {f : Env → M B D} {elts : List Expr} {kk : Nat} {tpos p pos : Pos} (hg : Gl X "enumerate") (hm : X.mg "enumerate" = none) (ha : DE cl B md W X a f) (hs : starEach [a] X.env = [(false, eval a X.env)] := by rfl) :
    DI cl B md W X (.Tuple elts kk tpos) (.Call (.Name "enumerate" p) [a] [] pos) fun ρ => M.bind (f ρ) fun x => lift (enumTI x) := by
  refine PI.weak (pi_enumT hg hm (pa_cons ha pa_nil hs) hs) fun σ H Q ⟨Z, C, s, ρ, w, e, p⟩ => ?_
  refine ⟨Z, C, s, ρ, w, e, Post.seq w.ch p fun dx s1 x Z1 C1 H1 w1 n1 r1 p1 => ?_⟩
  obtain ⟨ds, hd, q⟩ := post_liftG w1 p1
  cases dx <;> (try (cases hd; done))
  cases hd
  cases r1 with
  | tup a b c =>
    refine ⟨_, _, rfl, sq_t (w1.zh _ _ a), q _ ?_⟩
    exact it_enum b c (walk_enumT.mono (fun H s => sq_t (s _ _ a)) fun _ _ _ _ _ _ y => y)
theorem di_enumL {a : Expr} {f : Env → M B D} {elts : List Expr} {kk : Nat} {tpos p pos : Pos} (hg : Gl X "enumerate") (hm : X.mg "enumerate" = none) (ha : DE cl B md W X a f) (hs : starEach [a] X.env = [(false, eval a X.env)] := by rfl) :
    DI cl B md W X (.Tuple elts kk tpos) (.Call (.Name "enumerate" p) [a] [] pos) fun ρ => M.bind (f ρ) fun x => lift (enumLI x) := by
  refine PI.weak (pi_enum hg hm (pa_cons ha pa_nil hs) hs) fun σ H Q ⟨Z, C, s, ρ, w, e, p⟩ => ?_
  refine ⟨Z, C, s, ρ, w, e, Post.seq w.ch p fun dx s1 x Z1 C1 H1 w1 n1 r1 p1 => ?_⟩
  obtain ⟨ds, hd, q⟩ := post_liftG w1 p1
  cases dx <;> (try (cases hd; done))
  cases hd
  cases r1 with
  | slst a b c =>
    refine ⟨_, _, rfl, SqL.sub w1.zh a, q _ ?_⟩
    exact it_enum b c (walk_enum.mono (fun H s => SqL.sub (show Sub Z1 H from s) a) fun _ _ _ _ _ _ y => y)
theorem di_enum {a : Expr} {f : Env → M B D} {elts : List Expr} {kk : Nat} {tpos p pos : Pos} (hg : Gl X "enumerate") (hm : X.mg "enumerate" = none) (ha : DE cl B md W X a f) (hs : starEach [a] X.env = [(false, eval a X.env)] := by rfl) :
    DI cl B md W X (.Tuple elts kk tpos) (.Call (.Name "enumerate" p) [a] [] pos) fun ρ => M.bind (f ρ) fun x => lift (enumI x) := by
  refine PI.weak (PI.or (di_enumT hg hm ha hs) (di_enumL hg hm ha hs)) fun σ H Q ⟨Z, C, s, ρ, w, e, p⟩ => ?_
  cases ef : f ρ s with
  | stuck => refine .inl ⟨Z, C, s, ρ, w, e, ?_⟩; unfold M.bind at p ⊢; simp only [ef] at p ⊢; exact p
  | err x s1 => refine .inl ⟨Z, C, s, ρ, w, e, ?_⟩; unfold M.bind at p ⊢; simp only [ef] at p ⊢; exact p
  | ok d s1 =>
    cases d with
    | lst xs => refine .inr ⟨Z, C, s, ρ, w, e, ?_⟩; unfold M.bind at p ⊢; simp only [ef] at p ⊢; exact p
    | _ => refine .inl ⟨Z, C, s, ρ, w, e, ?_⟩; unfold M.bind at p ⊢; simp only [ef] at p ⊢; exact p
theorem di_zipT {a b : Expr} {f g : Env → M B D} {elts : List Expr} {kk : Nat} {tpos p pos : Pos} (hg : Gl X "zip") (hm : X.mg "zip" = none) (ha : DE cl B md W X a f) (hb : DE cl B md W X b g)
    (hs : starEach [a, b] X.env = (false, eval a X.env) :: starEach [b] X.env := by rfl) (hs2 : starEach [b] X.env = [(false, eval b X.env)] := by rfl) (hpl : (backTo pos (starEach [b] X.env)).any (·.1) = false := by rfl) :
    DI cl B md W X (.Tuple elts kk tpos) (.Call (.Name "zip" p) [a, b] [] pos) fun ρ => M.bind (f ρ) fun x => M.bind (g ρ) fun y => lift (zipTI x y) := by
  refine PI.weak (pi_zipA hg hm (pa_cons ha (pa_cons hb pa_nil hs2) hs) hs hpl) fun σ H Q ⟨Z, C, s, ρ, w, e, p⟩ => ?_
  refine ⟨Z, C, s, ρ, w, e, Post.seq w.ch p fun dx s1 x Z1 C1 H1 w1 n1 r1 p1 => ?_⟩
  refine ⟨Z1, C1, s1, ρ, w1, e.mono n1.zz, Post.seq w1.ch p1 fun dy s2 y Z2 C2 H2 w2 n2 r2 p2 => ?_⟩
  obtain ⟨ds, hd, q⟩ := post_liftG w2 p2
  cases dx <;> (try (cases hd; done))
  cases dy <;> (try (cases hd; done))
  cases hd
  have r1 := r1.mono n2.zz
  cases r1 with
  | tup a b c =>
    cases r2 with
    | tup a' b' c' =>
      refine ⟨_, _, _, _, rfl, .inr ⟨sq_t (w2.zh _ _ a), sq_t (w2.zh _ _ a'), q _ ?_⟩⟩
      exact it_zip b c c' ((walk_zipT rfl).mono (fun H s => ⟨sq_t (s _ _ a), sq_t (s _ _ a')⟩) fun _ _ _ _ _ _ y => y)
theorem di_zipL {a b : Expr} {f g : Env → M B D} {elts : List Expr} {kk : Nat} {tpos p pos : Pos} (hg : Gl X "zip") (hm : X.mg "zip" = none) (ha : DE cl B md W X a f) (hb : DE cl B md W X b g)
    (hs : starEach [a, b] X.env = (false, eval a X.env) :: starEach [b] X.env := by rfl) (hs2 : starEach [b] X.env = [(false, eval b X.env)] := by rfl) (hpl : (backTo pos (starEach [b] X.env)).any (·.1) = false := by rfl) :
    DI cl B md W X (.Tuple elts kk tpos) (.Call (.Name "zip" p) [a, b] [] pos) fun ρ => M.bind (f ρ) fun x => M.bind (g ρ) fun y => lift (zipLI x y) := by
  refine PI.weak (pi_zipA hg hm (pa_cons ha (pa_cons hb pa_nil hs2) hs) hs hpl) fun σ H Q ⟨Z, C, s, ρ, w, e, p⟩ => ?_
  refine ⟨Z, C, s, ρ, w, e, Post.seq w.ch p fun dx s1 x Z1 C1 H1 w1 n1 r1 p1 => ?_⟩
  refine ⟨Z1, C1, s1, ρ, w1, e.mono n1.zz, Post.seq w1.ch p1 fun dy s2 y Z2 C2 H2 w2 n2 r2 p2 => ?_⟩
  obtain ⟨ds, hd, q⟩ := post_liftG w2 p2
  cases dx <;> (try (cases hd; done))
  cases dy <;> (try (cases hd; done))
  cases hd
  have r1 := r1.mono n2.zz
  cases r1 with
  | slst a b c =>
    cases r2 with
    | slst a' b' c' =>
      refine ⟨_, _, _, _, rfl, .inl ⟨SqL.sub w2.zh a, SqL.sub w2.zh a', q _ ?_⟩⟩
      exact it_zip b c c' ((walk_zip rfl).mono (fun H s => ⟨SqL.sub s a, SqL.sub s a'⟩) fun _ _ _ _ _ _ y => y)
theorem di_zip {a b : Expr} {f g : Env → M B D} {elts : List Expr} {kk : Nat} {tpos p pos : Pos} (hg : Gl X "zip") (hm : X.mg "zip" = none) (ha : DE cl B md W X a f) (hb : DE cl B md W X b g)
    (hs : starEach [a, b] X.env = (false, eval a X.env) :: starEach [b] X.env := by rfl) (hs2 : starEach [b] X.env = [(false, eval b X.env)] := by rfl) (hpl : (backTo pos (starEach [b] X.env)).any (·.1) = false := by rfl) :
    DI cl B md W X (.Tuple elts kk tpos) (.Call (.Name "zip" p) [a, b] [] pos) fun ρ => M.bind (f ρ) fun x => M.bind (g ρ) fun y => lift (zipI x y) := by
  refine PI.weak (PI.or (di_zipT hg hm ha hb hs hs2 hpl) (di_zipL hg hm ha hb hs hs2 hpl)) fun σ H Q ⟨Z, C, s, ρ, w, e, p⟩ => ?_
  cases ef : f ρ s with
  | stuck => refine .inl ⟨Z, C, s, ρ, w, e, ?_⟩; unfold M.bind at p ⊢; simp only [ef] at p ⊢; exact p
  | err x s1 => refine .inl ⟨Z, C, s, ρ, w, e, ?_⟩; unfold M.bind at p ⊢; simp only [ef] at p ⊢; exact p
  | ok d s1 =>
    cases eg : g ρ s1 with
    | stuck => refine .inl ⟨Z, C, s, ρ, w, e, ?_⟩; unfold M.bind at p ⊢; simp only [ef, eg] at p ⊢; exact p
    | err x s1 => refine .inl ⟨Z, C, s, ρ, w, e, ?_⟩; unfold M.bind at p ⊢; simp only [ef, eg] at p ⊢; exact p
    | ok d' s2 =>
      cases d with
      | lst xs => 
        cases d' with
        | lst ys => refine .inr ⟨Z, C, s, ρ, w, e, ?_⟩; unfold M.bind at p ⊢; simp only [ef, eg] at p ⊢; exact p
        | _ => refine .inl ⟨Z, C, s, ρ, w, e, ?_⟩; unfold M.bind at p ⊢; simp only [ef, eg] at p ⊢; exact p
      | tup xs =>
        cases d' with
        | tup ys => refine .inl ⟨Z, C, s, ρ, w, e, ?_⟩; unfold M.bind at p ⊢; simp only [ef, eg] at p ⊢; exact p
        | _ => refine .inl ⟨Z, C, s, ρ, w, e, ?_⟩; unfold M.bind at p ⊢; simp only [ef, eg] at p ⊢; exact p
      | _ => refine .inl ⟨Z, C, s, ρ, w, e, ?_⟩; unfold M.bind at p ⊢; simp only [ef, eg] at p ⊢; exact p
end
end DN
namespace DN
open PySem PySem.Spec PyProof.Rows L2 RZ ND
variable {B : Sto}
def OwnR (K : PySem.W.Frag) (cl : CTab) (Z : Zp) (H : Hp) (a : Addr) : D → Prop
  | .lst ds => ∃ vs, H a = some (.lst vs) ∧ vs.length ≤ sizeLine ∧ RepL K cl Z vs ds
  | .dct ks ds => ∃ (o : HO) (kvs : List (GK × V)), H a = some o ∧ DKV cl Z.h a o kvs ∧ ks = kvs.map (fun p => keyD p.1) ∧ KNd kvs ∧ RepL K cl Z (kvs.map (·.2)) ds
  | .ins c ds => ∃ (C dx : Addr) (fs : List (Str × V)) (names : List Str), cl c = some (C, names) ∧ H a = some (.ins C dx fs) ∧ fs.map (·.1) = names.take ds.length ∧ RepL K cl Z (fs.map (·.2)) ds
  | _ => False
theorem OwnR.move {K : PySem.W.Frag} {cl : CTab} {Z Z' : Zp} {H H' : Hp} {a : Addr} (h : SubZ Z Z') (hh : ∀ o, H a = some o → H' a = some o) : ∀ {d : D}, OwnR K cl Z H a d → OwnR K cl Z' H' a d
  | .lst ds, ⟨vs, a, b, c⟩ => ⟨vs, hh _ a, b, c.mono h⟩
  | .dct ks ds, ⟨o, vs, a, b, c, d, e⟩ => ⟨o, vs, hh _ a, b.mono fun _ _ q => h.h _ _ q, c, d, e.mono h⟩
  | .ins c ds, ⟨C, dx, fs, ns, a, b, c1, e⟩ => ⟨C, dx, fs, ns, a, hh _ b, c1, e.mono h⟩
theorem OwnR.mono {K : PySem.W.Frag} {cl : CTab} {Z Z' : Zp} {H : Hp} {a : Addr} (h : SubZ Z Z') {d : D} (o : OwnR K cl Z H a d) : OwnR K cl Z' H a d := o.move h fun _ e => e
section
variable {K : PySem.W.Frag} {cl : CTab} {md : Bool} {W : WX} {σ : L2.St} {Z Z1 : Zp} {C H C1 H1 : Hp}
def PostO (K : PySem.W.Frag) (cl : CTab) (md : Bool) (W : WX) (σ : L2.St) (Z : Zp) (C H : Hp) (r : Res B.T D) (Q : VK) : Prop :=
  match r with
  | .ok d s => ∀ a Z' C' H', Wd B md Z' C' H' s → Nx Z C H Z' C' H' → H a = none → Z' a = none → C' a = none → OwnR K cl Z' H' a d → Q (.ref a) H'
  | .err x s => ∀ c dx Z' C' H', Wd B md Z' C' H' s → Nx Z C H Z' C' H' → ExR K cl Z' C' x c dx H' → W c dx σ H'
  | .stuck => False
theorem Nx.back (n : Nx Z C H Z1 C1 H1) (c1 : Sub C1 H1) {a : Addr} (h : H1 a = none) : H a = none := by
  cases q : H a with
  | none => rfl
  | some o =>
    cases c : C a with
    | none => rw [n.hh a o q c] at h; cases h
    | some u =>
      obtain ⟨u1, e1⟩ := ne_some (n.cp a (some_ne c))
      rw [c1 a u1 e1] at h; cases h
theorem PostO.step {r : Res B.T D} {Q : VK} (n : Nx Z C H Z1 C1 H1) (c0 : Sub C H) (c1 : Sub C1 H1) (h : PostO K cl md W σ Z C H r Q) : PostO K cl md W σ Z1 C1 H1 r Q := by
  cases r with
  | ok a s => exact fun v Z' C' H' w m f => h v Z' C' H' w (n.trans c0 c1 m) (n.back c1 f)
  | err x s => exact fun c dx Z' C' H' w m => h c dx Z' C' H' w (n.trans c0 c1 m)
  | stuck => exact h
theorem PostO.seq {υ α : Type} {Rp : Zp → υ → α → Prop} {m : M B α} {k : α → M B D} {s : B.T} {Q : VK} {Q1 : υ → Hp → Prop} (c0 : Sub C H) (h : PostO K cl md W σ Z C H (M.bind m k s) Q)
    (hk : ∀ a s1 v Z1 C1 H1, Wd B md Z1 C1 H1 s1 → Nx Z C H Z1 C1 H1 → Rp Z1 v a → PostO K cl md W σ Z1 C1 H1 (k a s1) Q → Q1 v H1) : Post K cl md Rp W σ Z C H (m s) Q1 := by
  unfold M.bind at h
  cases e : m s with
  | ok a s1 =>
    rw [e] at h
    exact fun v Z1 C1 H1 w n r => hk a s1 v Z1 C1 H1 w n r (PostO.step n c0 w.ch h)
  | err x s1 =>
    rw [e] at h
    exact h
  | stuck =>
    rw [e] at h
    exact h
theorem Nx.own (n : Nx Z C H Z1 C1 H1) {a : Addr} {o : HO} (h : H a = some o) (z : Z a = none) (c : C a = none) : H1 a = some o ∧ Z1 a = none ∧ C1 a = none := by
  refine ⟨n.hh a o h c, ?_, ?_⟩
  · cases q : Z1 a with
    | none => rfl
    | some u =>
      rcases n.zf a (some_ne q) with e | e
      · exact absurd z e
      · rw [h] at e; cases e
  · cases q : C1 a with
    | none => rfl
    | some u =>
      rcases n.cf a (some_ne q) with e | e
      · exact absurd c e
      · rw [h] at e; cases e
theorem Wd.mut {s : B.T} (w : Wd B md Z C H s) {a : Addr} {o : HO} (z : Z a = none) (c : C a = none) : Wd B md Z C (upd H a o) s :=
  ⟨fun x u e => by rw [upd_ne (ne_of_none e z)]; exact w.zh x u e, fun x u e => by rw [upd_ne (ne_of_none e c)]; exact w.ch x u e, w.dj, w.sr⟩
theorem Nx.mut (n : Nx Z C H Z1 C1 H1) {a : Addr} {o : HO} (h : H a = none) : Nx Z C H Z1 C1 (upd H1 a o) :=
  ⟨n.zz, fun x u e c => by rw [upd_ne (ne_of_none e h)]; exact n.hh x u e c, n.zf, n.cf, n.cp, n.lk⟩
end
section
variable (cl : CTab) (B : Sto) (md : Bool) (W : WX) (X : Cx)
def tO (f : Env → M B D) : TE := fun σ H Q => ∃ Z C s ρ, Wd B md Z C H s ∧ EnvR X.K cl Z ρ σ ∧ PostO X.K cl md W σ Z C H (f ρ s) Q
def DX (e : Expr) (f : Env → M B D) : Prop := PE X e (tO cl B md W X f)
end
theorem PE.imp {X : Cx} {e : Expr} {t : TE} (h : PE X e t) : PE X e t := h
section
variable {cl : CTab} {md : Bool} {W : WX} {X : Cx}
theorem own_core {f : Env → M B D} (hl : ∀ ρ s d s', f ρ s = .ok d s' → ∃ ds, d = .lst ds) {σ : L2.St} {H : Hp} {Q : VK} (h : tG X.K cl B md (RpD X.K cl) W f σ H Q) : tO cl B md W X f σ H Q := by
  obtain ⟨Z, C, s, ρ, w, e, p⟩ := h
  refine ⟨Z, C, s, ρ, w, e, ?_⟩
  cases ef : f ρ s with
  | ok d s1 =>
    obtain ⟨ds, rfl⟩ := hl ρ s d s1 ef
    rw [ef] at p
    rintro a Z1 C1 H1 w1 n1 ha hz hc ⟨vs, h1, h2, h3⟩
    have z1 : SubZ Z1 (upz Z1 a (.lst vs)) := SubZ.upd hz
    refine p (.ref a) (upz Z1 a (.lst vs)) C1 H1 ⟨fun x u e => ?_, w1.ch, fun x e => ?_, B.mono w1.sr (z1.imm rfl)⟩ ⟨n1.zz.trans z1, n1.hh, fun x e => ?_, n1.cf, n1.cp, n1.lk⟩ (.lst upd_same h2 (h3.mono z1))
    · by_cases hx : x = a
      · subst hx; rw [upz_same] at e; cases e; exact h1
      · rw [upz_ne hx] at e; exact w1.zh x u e
    · by_cases hx : x = a
      · subst hx; exact absurd hc e
      · rw [upz_ne hx]; exact w1.dj x e
    · by_cases hx : x = a
      · subst hx; exact .inr ha
      · rw [upz_ne hx] at e; exact n1.zf x e
  | err x s1 => rw [ef] at p; exact p
  | stuck => rw [ef] at p; exact p
theorem de_of_list {e : Expr} {f : Env → M B D} (h : DX cl B md W X e f) (hl : ∀ ρ s d s', f ρ s = .ok d s' → ∃ ds, d = .lst ds) : DE cl B md W X e f := PE.weak h fun σ H Q q => own_core hl q
theorem dx_lst {es : List Expr} {pos : Pos} {f : Env → M B (List D)} (h : DA cl B md W X es f) (hn : es.length ≤ 1000 := by decide) :
    DX cl B md W X (.List es pos) fun ρ => M.bind (f ρ) fun xs => M.pure (.lst xs) := by
  refine PE.weak (pe_lst h) fun σ H Q ⟨Z, C, s, ρ, w, e, p⟩ => ?_
  refine ⟨Z, C, s, ρ, w, e, PostO.seq w.ch p fun ds s1 xs Z1 C1 H1 w1 n1 r1 p1 => ?_⟩
  have hlen : xs.length ≤ sizeLine := by rw [r1.1.len, r1.2, sizeLine_eq]; omega
  refine ⟨hlen, fun q hq => ?_⟩
  have z := none_of_sub w1.zh hq
  have c := none_of_sub w1.ch hq
  exact p1 q Z1 C1 _ (w1.mut z c) ((Nx.refl ..).mut hq) hq z c ⟨xs, upd_same, hlen, r1.1⟩
theorem de_lst {es : List Expr} {pos : Pos} {f : Env → M B (List D)} (h : DA cl B md W X es f) (hn : es.length ≤ 1000 := by decide) :
    DE cl B md W X (.List es pos) fun ρ => M.bind (f ρ) fun xs => M.pure (.lst xs) :=
  de_of_list (dx_lst h hn) fun ρ s d s' e => by
    unfold M.bind at e
    cases ef : f ρ s with
    | ok a s1 => simp only [ef] at e; cases e; exact ⟨_, rfl⟩
    | err x s1 => simp only [ef] at e; cases e
    | stuck => simp only [ef] at e; cases e
end
def noErr {α : Type} (m : M B α) : M B α := fun s => match m s with
  | .ok a s' => .ok a s'
  | _ => .stuck
def consO {α : Type} : Option α → List α → List α
  | some a, r => a :: r
  | none, r => r
def compL {α β : Type} (f : α → M B (Option β)) : List α → M B (List β)
  | [] => M.pure []
  | d :: ds => M.bind (f d) fun o => M.bind (compL f ds) fun r => M.pure (consO o r)
def compF (a : D → Option Asg) (t : Env → M B Bool) (e : Env → M B D) (ρ : Env) (d : D) : M B (Option D) :=
  noErr (M.bind (lift ((a d).map (setsE ρ))) fun ρ' => M.bind (t ρ') fun k => if k = true then M.bind (e ρ') fun x => M.pure (some x) else M.pure none)
def wipeE (ρ : Env) : List Nat → Env
  | [] => ρ
  | v :: vs => (wipeE ρ vs).set v none
theorem EnvR.wipe {K : PySem.W.Frag} {cl : CTab} {Z : Zp} {ρ : Env} {σ : L2.St} (e : EnvR K cl Z ρ σ) : ∀ own : List Nat, EnvR K cl Z (wipeE ρ own) (L2.wipe σ own)
  | [] => e
  | v :: vs => by
    have ih := EnvR.wipe e vs
    refine ⟨by simp [wipeE, L2.wipe, ih.len], fun i d q => ?_⟩
    by_cases hi : v = i
    · subst hi
      unfold wipeE at q
      by_cases hl : v < (wipeE ρ vs).length
      · rw [List.getElem?_set_self hl] at q; cases q
      · rw [List.getElem?_eq_none (by simpa using hl)] at q; cases q
    · unfold wipeE at q
      rw [List.getElem?_set_ne hi] at q
      obtain ⟨u, h1, h2⟩ := ih.get i d q
      exact ⟨u, by unfold L2.wipe; rw [List.getElem?_set_ne hi]; exact h1, h2⟩
abbrev W0 : WX := fun _ _ _ _ => False
def DTs (cl : CTab) (B : Sto) (md : Bool) (X : Cx) (ifs : List Expr) (t : Env → M B Bool) : Prop := PTs X ifs (tG X.K cl B md RpE W0 t)
theorem PTs.weak {X : Cx} {e : List Expr} {t t' : TT} (h : PTs X e t) (w : ∀ σ H Q, t' σ H Q → t σ H Q) : PTs X e t' := ⟨fun pins s σ H Q I q => h.run pins s σ H Q I (w σ H Q q)⟩
theorem dts_nil {cl : CTab} {md : Bool} {X : Cx} : DTs cl B md X [] (fun _ => M.pure true) := PTs.weak pts_nil fun σ H Q ⟨Z, C, s, ρ, w, e, p⟩ => p true Z C H w (.refl ..) rfl
theorem wipe_none {τ : L2.St} {a : Nat} : ∀ (m : List Nat), a ∈ m → (L2.wipe τ m).set a none = L2.wipe τ m
  | [], h => by simp at h
  | c :: m, h => by
    show ((L2.wipe τ m).set c none).set a none = (L2.wipe τ m).set c none
    by_cases hac : a = c
    · subst hac; rw [List.set_set]
    · rw [List.set_comm _ _ (fun z => hac z.symm), wipe_none m ((List.mem_cons.mp h).resolve_left hac)]
theorem wipe_sub {τ : L2.St} {m : List Nat} : ∀ (l : List Nat), (∀ x ∈ l, x ∈ m) → L2.wipe (L2.wipe τ m) l = L2.wipe τ m
  | [], _ => rfl
  | a :: l, h => by
    show (L2.wipe (L2.wipe τ m) l).set a none = L2.wipe τ m
    rw [wipe_sub l (fun x hx => h x (List.mem_cons_of_mem _ hx))]
    exact wipe_none m (h a List.mem_cons_self)
theorem compL_step {α β γ : Type} {f : α → M B (Option β)} {d : α} {ds : List α} {k : List β → M B γ} {s : B.T} : M.bind (compL f (d :: ds)) k s = (match f d s with
    | .ok o s' => M.bind (compL f ds) (fun r => k (consO o r)) s'
    | .err x s' => .err x s'
    | .stuck => .stuck) := by
  simp only [compL, M.bind]
  cases f d s with
  | ok o s' =>
    simp only
    cases compL f ds s' <;> rfl
  | err x s' => rfl
  | stuck => rfl
section
variable {cl : CTab} {md : Bool} {W : WX} {X : Cx}
theorem comp_rest {own : List (Str × Nat)} {b : D → Option Asg} {t : Env → M B Bool} {fe : Env → M B D} (hin : TgIn (own.map (·.2)) b) {σ : L2.St} {Q : VK} {Z1 : Zp} {C1 H1 : Hp} {s1 : B.T} {ρ : Env} {J : It} {ds : List D}
    (w1 : Wd B md Z1 C1 H1 s1) (e1 : EnvR X.K cl Z1 ρ σ) (r1 : ItR X.K cl Z1 J ds) (p1 : PostO X.K cl md W σ Z1 C1 H1 (M.bind (compL (compF b t fe (wipeE ρ (own.map (·.2)))) ds) (fun r => M.pure (D.lst r)) s1) Q) :
    tLc (fun _ _ R => R J H1) (tDG X.K cl b) (tG X.K cl B md RpE W0 t) (tG X.K cl B md (RpD X.K cl) W0 fe) (own.map (·.2)) σ H1 Q := by
  intro Dd hD
  have zD := none_of_sub w1.zh hD
  have cD := none_of_sub w1.ch hD
  refine lc_it r1.1 (fun i H => ∃ Zi Ci si vacc acc, Wd B md Zi Ci H si ∧ Nx Z1 C1 H1 Zi Ci H ∧ H Dd = some (.lst vacc) ∧ Zi Dd = none ∧ Ci Dd = none ∧ RepL X.K cl Zi vacc acc ∧ vacc.length ≤ i ∧ PostO X.K cl md W σ Z1 C1 H1 (M.bind (compL (compF b t fe (wipeE ρ (own.map (·.2)))) (ds.drop i)) (fun r => M.pure (.lst (acc ++ r))) si) Q)
    ⟨Z1, C1, s1, [], [], w1.mut zD cD, (Nx.refl ..).mut hD, upd_same, zD, cD, .nil, Nat.le_refl _, by simpa using p1⟩ (fun i H hi ⟨Zi, Ci, si, vacc, acc, wi, ni, _⟩ => ni.zz.to wi.zh) ?_ ?_
  · rintro i x H2 H2' hi ⟨Zi, Ci, si, vacc, acc, wi, ni, hDi, zi, ci, ri, li, pi⟩ ⟨d, hd, hy⟩
    obtain ⟨Zc, al, rx⟩ := hy Zi ni.zz wi.zh
    have hdr : ds.drop i = d :: ds.drop (i + 1) := by
      have hlt : i < ds.length := hi
      rw [List.drop_eq_getElem_cons hlt]
      have : ds[i] = d := by
        rw [List.getElem?_eq_getElem hlt] at hd
        exact Option.some.inj hd
      rw [this]
    rw [hdr, compL_step] at pi
    have wc := al.wd wi
    have nc := ni.trans w1.ch wi.ch al.nx
    have hDc : H2' Dd = some (.lst vacc) := al.hh _ _ hDi
    have zc : Zc Dd = none := by
      cases q : Zc Dd with
      | none => rfl
      | some u =>
        rcases al.zf Dd (some_ne q) with z | z
        · exact absurd zi z
        · rw [hDi] at z; cases z
    -- what the turn does
    have ew := (e1.mono (ni.zz.trans al.zz)).wipe (own.map (·.2))
    cases hb : b d with
    | none =>
      exfalso
      have hf : compF b t fe (wipeE ρ (own.map (·.2))) d si = .stuck := by simp only [compF, M.bind, noErr, lift, hb, Option.map_none]
      rw [hf] at pi
      exact pi
    | some as =>
      refine ⟨Zc, d, as, wc.zh, rx, hb, fun vs2 a2 => ?_⟩
      have e2 := ew.sets a2
      generalize hρ' : setsE (wipeE ρ (own.map (·.2))) as = ρ' at e2
      have wσ : L2.wipe (setsV (L2.wipe σ (own.map (·.2))) vs2) (own.map (·.2)) = L2.wipe σ (own.map (·.2)) := by
        rw [wipe_sets vs2 _ (asgR_mem a2 (hin d as hb))]
        exact wipe_sub _ (fun _ h => h)
      refine ⟨wσ, Zc, Ci, si, ρ', wc, e2, ?_⟩
      cases et : t ρ' si with
      | stuck =>
        exfalso
        have hf : compF b t fe (wipeE ρ (own.map (·.2))) d si = .stuck := by simp only [compF, M.bind, noErr, lift, M.pure, hb, Option.map_some, hρ', et]
        rw [hf] at pi
        exact pi
      | err xx s2 =>
        exfalso
        have hf : compF b t fe (wipeE ρ (own.map (·.2))) d si = .stuck := by simp only [compF, M.bind, noErr, lift, M.pure, hb, Option.map_some, hρ', et]
        rw [hf] at pi
        exact pi
      | ok k s2 =>
        rintro k' Z3 C3 H3 w3 n3 rfl
        have n3' := nc.trans w1.ch wc.ch n3
        obtain ⟨hD3, z3, c3⟩ := n3.own hDc zc ci
        cases k' with
        | false =>
          refine ⟨Z3, C3, s2, vacc, acc, w3, n3', hD3, z3, c3, (ri.mono al.zz).mono n3.zz, Nat.le_succ_of_le li, ?_⟩
          have hf : compF b t fe (wipeE ρ (own.map (·.2))) d si = .ok none s2 := by simp [compF, M.bind, noErr, lift, M.pure, hb, hρ', et]
          rw [hf] at pi
          exact pi
        | true =>
          refine ⟨Z3, C3, s2, ρ', w3, e2.mono n3.zz, ?_⟩
          cases ee : fe ρ' s2 with
          | stuck =>
            exfalso
            have hf : compF b t fe (wipeE ρ (own.map (·.2))) d si = .stuck := by simp [compF, M.bind, noErr, lift, M.pure, hb, hρ', et, ee]
            rw [hf] at pi
            exact pi
          | err xx s3 =>
            exfalso
            have hf : compF b t fe (wipeE ρ (own.map (·.2))) d si = .stuck := by simp [compF, M.bind, noErr, lift, M.pure, hb, hρ', et, ee]
            rw [hf] at pi
            exact pi
          | ok y s3 =>
            intro vy Z4 C4 H4 w4 n4 ry
            obtain ⟨hD4, z4, c4⟩ := n4.own hD3 z3 c3
            have n4' := n3'.trans w1.ch w3.ch n4
            have lz : vacc.length < sizeLine := Nat.lt_of_le_of_lt li (Nat.lt_of_lt_of_le hi r1.2)
            refine ⟨vacc, hD4, lz, Z4, C4, s3, vacc ++ [vy], acc ++ [y], w4.mut z4 c4, n4'.mut hD, upd_same, z4, c4, (((ri.mono al.zz).mono n3.zz).mono n4.zz).append (.cons ry .nil), by rw [List.length_append]; simpa using li, ?_⟩
            have hf : compF b t fe (wipeE ρ (own.map (·.2))) d si = .ok (some y) s3 := by simp [compF, M.bind, noErr, lift, M.pure, hb, hρ', et, ee]
            rw [hf] at pi
            simpa [consO] using pi
  · rintro H2 ⟨Zi, Ci, si, vacc, acc, wi, ni, hDi, zi, ci, ri, li, pi⟩
    rw [List.drop_length] at pi
    have pi' : PostO X.K cl md W σ Z1 C1 H1 (.ok (.lst (acc ++ [])) si) Q := pi
    rw [List.append_nil] at pi'
    exact pi' Dd Zi Ci H2 wi ni hD zi ci ⟨vacc, hDi, Nat.le_trans li r1.2, ri⟩
theorem comp_core {own : List (Str × Nat)} {src : Env → M B (List D)} {b : D → Option Asg} {t : Env → M B Bool} {fe : Env → M B D} (hin : TgIn (own.map (·.2)) b) {σ : L2.St} {H : Hp} {Q : VK}
    (h : tO cl B md W X (fun ρ => M.bind (src ρ) fun ds => M.bind (compL (compF b t fe (wipeE ρ (own.map (·.2)))) ds) fun r => M.pure (D.lst r)) σ H Q) :
    tLc (tG X.K cl B md (RpI X.K cl) W src) (tDG X.K cl b) (tG X.K cl B md RpE W0 t) (tG X.K cl B md (RpD X.K cl) W0 fe) (own.map (·.2)) σ H Q := by
  obtain ⟨Z, C, s, ρ, w, e, p⟩ := h
  exact ⟨Z, C, s, ρ, w, e, PostO.seq w.ch p fun ds s1 J Z1 C1 H1 w1 n1 r1 p1 => comp_rest hin w1 (e.mono n1.zz) r1 p1⟩
theorem dx_comp {elt tg iter : Expr} {ifs : List Expr} {scope : Scope} {own : List (Str × Nat)} {pos : Pos} {src : Env → M B (List D)} {b : D → Option Asg} {t : Env → M B Bool} {fe : Env → M B D} (hc : X.calm = true) (hN : X.N.Nodup)
    (hi : DI cl B md W X tg iter src) (ok : BlkOk X.N X.env.scope scope own)
    (hg : ∀ (s : Shared) (H : Hp) (C : Addr) (cs : List (Str × Addr)) (fp : List Addr), DG cl (X.blk s H scope (compEnvC scope cs C X.env) fp) tg b) (hin : TgIn (own.map (·.2)) b)
    (ht : ∀ (s : Shared) (H : Hp) (C : Addr) (cs : List (Str × Addr)) (fp : List Addr), DTs cl B md (X.blk s H scope (compEnvC scope cs C X.env) fp) ifs t)
    (he : ∀ (s : Shared) (H : Hp) (C : Addr) (cs : List (Str × Addr)) (fp : List Addr), DE cl B md W0 (X.blk s H scope (compEnvC scope cs C X.env) fp) elt fe) (hs : ∀ x, foldedSetIterable iter X.env x = pure x := by intro _; rfl) :
    DX cl B md W X (.ListComp elt [⟨tg, iter, ifs, 0⟩] scope pos) fun ρ => M.bind (src ρ) fun ds => M.bind (compL (compF b t fe (wipeE ρ (own.map (·.2)))) ds) fun r => M.pure (.lst r) :=
  PE.weak (pe_lc (g := tDG X.K cl b) (tt := tG X.K cl B md RpE W0 t) (te := tG X.K cl B md (RpD X.K cl) W0 fe) hc hN hi ok hg ht he hs) fun σ H Q q => comp_core hin q
theorem comp_list {own : List (Str × Nat)} {src : Env → M B (List D)} {b : D → Option Asg} {t : Env → M B Bool} {fe : Env → M B D} : ∀ (ρ : Env) (s : B.T) (d : D) (s' : B.T), (fun ρ => M.bind (src ρ) fun ds => M.bind (compL (compF b t fe (wipeE ρ (own.map (·.2)))) ds) fun r => M.pure (D.lst r) : Env → M B D) ρ s = .ok d s' → ∃ ds, d = D.lst ds := fun ρ s d s' e => by
    unfold M.bind at e
    cases ef : src ρ s with
    | ok a s1 =>
      simp only [ef] at e
      cases eg : compL (compF b t fe (wipeE ρ (own.map (·.2)))) a s1 with
      | ok r s2 => simp only [eg] at e; cases e; exact ⟨_, rfl⟩
      | err x s2 => simp only [eg] at e; cases e
      | stuck => simp only [eg] at e; cases e
    | err x s1 => simp only [ef] at e; cases e
    | stuck => simp only [ef] at e; cases e
theorem de_comp {elt tg iter : Expr} {ifs : List Expr} {scope : Scope} {own : List (Str × Nat)} {pos : Pos} {src : Env → M B (List D)} {b : D → Option Asg} {t : Env → M B Bool} {fe : Env → M B D} (hc : X.calm = true) (hN : X.N.Nodup)
    (hi : DI cl B md W X tg iter src) (ok : BlkOk X.N X.env.scope scope own)
    (hg : ∀ (s : Shared) (H : Hp) (C : Addr) (cs : List (Str × Addr)) (fp : List Addr), DG cl (X.blk s H scope (compEnvC scope cs C X.env) fp) tg b) (hin : TgIn (own.map (·.2)) b)
    (ht : ∀ (s : Shared) (H : Hp) (C : Addr) (cs : List (Str × Addr)) (fp : List Addr), DTs cl B md (X.blk s H scope (compEnvC scope cs C X.env) fp) ifs t)
    (he : ∀ (s : Shared) (H : Hp) (C : Addr) (cs : List (Str × Addr)) (fp : List Addr), DE cl B md W0 (X.blk s H scope (compEnvC scope cs C X.env) fp) elt fe) (hs : ∀ x, foldedSetIterable iter X.env x = pure x := by intro _; rfl) :
    DE cl B md W X (.ListComp elt [⟨tg, iter, ifs, 0⟩] scope pos) fun ρ => M.bind (src ρ) fun ds => M.bind (compL (compF b t fe (wipeE ρ (own.map (·.2)))) ds) fun r => M.pure (.lst r) :=
  de_of_list (dx_comp hc hN hi ok hg hin ht he hs) comp_list
end
end DN
namespace DN
open PySem PySem.Spec PyProof.Rows L2 RZ ND
variable {B : Sto}
abbrev D.mt (d : D) : D := .ins "" [d]
def D.isMut : D → Bool
  | .ins c _ => decide (c = "")
  | _ => false
def D.strip : D → D
  | .ins c [.lst ds] => if c = "" then .lst (ds.attach.map fun x => D.strip x.1) else .ins c [.lst ds]
  | .ins c [.dct ks ds] => if c = "" then .dct ks (ds.attach.map fun x => D.strip x.1) else .ins c [.dct ks ds]
  | d => d
termination_by d => sizeOf d
decreasing_by
  all_goals
    have := List.sizeOf_lt_of_mem x.2
    simp
    omega
abbrev D.stripL (ds : List D) : List D := ds.map D.strip
theorem strip_lst {ds : List D} : (D.mt (.lst ds)).strip = .lst (D.stripL ds) := by
  rw [D.strip, if_pos rfl]
  simp
theorem strip_dct {ks ds : List D} : (D.mt (.dct ks ds)).strip = .dct ks (D.stripL ds) := by
  rw [D.strip, if_pos rfl]
  simp
theorem strip_leaf {d : D} (h : d.isMut = false) : d.strip = d := by
  unfold D.strip
  split
  · rename_i c ds
    have : ¬ c = "" := by simpa [D.isMut] using h
    rw [if_neg this]
  · rename_i c ks ds
    have : ¬ c = "" := by simpa [D.isMut] using h
    rw [if_neg this]
  · rfl
mutual
inductive OwnT (K : PySem.W.Frag) (cl : CTab) (Z : Zp) (H : Hp) : (Addr → Prop) → V → D → Prop
  | leaf {F : Addr → Prop} {v : V} {d : D} : d.isMut = false → Rep K cl Z v d → OwnT K cl Z H F v d
  | lst {F : Addr → Prop} {a : Addr} {vs : List V} {ds : List D} : F a → H a = some (.lst vs) → vs.length ≤ sizeLine → OwnTL K cl Z H (fun x => F x ∧ x ≠ a) vs ds → OwnT K cl Z H F (.ref a) (.ins "" [.lst ds])
  | dct {F : Addr → Prop} {a : Addr} {o : HO} {kvs : List (GK × V)} {ks ds : List D} : F a → H a = some o → DKV cl Z.h a o kvs → ks = kvs.map (fun p => keyD p.1) → KNd kvs → OwnTL K cl Z H (fun x => F x ∧ x ≠ a) (kvs.map (·.2)) ds →
      OwnT K cl Z H F (.ref a) (.ins "" [.dct ks ds])
inductive OwnTL (K : PySem.W.Frag) (cl : CTab) (Z : Zp) (H : Hp) : (Addr → Prop) → List V → List D → Prop
  | nil {F : Addr → Prop} : OwnTL K cl Z H F [] []
  | cons {F F1 F2 : Addr → Prop} {v : V} {vs : List V} {d : D} {ds : List D} : (∀ x, F1 x → F x) → (∀ x, F2 x → F x) → (∀ x, F1 x → F2 x → False) → OwnT K cl Z H F1 v d → OwnTL K cl Z H F2 vs ds → OwnTL K cl Z H F (v :: vs) (d :: ds)
end
section
variable {K : PySem.W.Frag} {cl : CTab} {Z Z' : Zp} {H H' : Hp}
theorem own_move (h : SubZ Z Z') :
    (∀ {F : Addr → Prop} {v : V} {d : D}, OwnT K cl Z H F v d → (∀ x o, F x → H x = some o → H' x = some o) → OwnT K cl Z' H' F v d) ∧
    (∀ {F : Addr → Prop} {vs : List V} {ds : List D}, OwnTL K cl Z H F vs ds → (∀ x o, F x → H x = some o → H' x = some o) → OwnTL K cl Z' H' F vs ds) := by
  let m1 : ∀ (F : Addr → Prop) (v : V) (d : D), OwnT K cl Z H F v d → Prop := fun F v d _ => (∀ x o, F x → H x = some o → H' x = some o) → OwnT K cl Z' H' F v d
  let m2 : ∀ (F : Addr → Prop) (vs : List V) (ds : List D), OwnTL K cl Z H F vs ds → Prop := fun F vs ds _ => (∀ x o, F x → H x = some o → H' x = some o) → OwnTL K cl Z' H' F vs ds
  have c1 : ∀ {F : Addr → Prop} {v : V} {d : D} (i : d.isMut = false) (r : Rep K cl Z v d), m1 F v d (.leaf i r) := fun i r _ => .leaf i (r.mono h)
  have c2 : ∀ {F : Addr → Prop} {a : Addr} {vs : List V} {ds : List D} (fa : F a) (ha : H a = some (.lst vs)) (l : vs.length ≤ sizeLine) (t : OwnTL K cl Z H (fun x => F x ∧ x ≠ a) vs ds), m2 _ _ _ t → m1 F (.ref a) (.ins "" [.lst ds]) (.lst fa ha l t) :=
    fun fa ha l t ih hh => .lst fa (hh _ _ fa ha) l (ih fun x o q => hh x o q.1)
  have c3 : ∀ {F : Addr → Prop} {a : Addr} {o : HO} {kvs : List (GK × V)} {ks ds : List D} (fa : F a) (ha : H a = some o) (dk : DKV cl Z.h a o kvs) (e : ks = kvs.map (fun p => keyD p.1)) (n : KNd kvs) (t : OwnTL K cl Z H (fun x => F x ∧ x ≠ a) (kvs.map (·.2)) ds), m2 _ _ _ t → m1 F (.ref a) (.ins "" [.dct ks ds]) (.dct fa ha dk e n t) :=
    fun fa ha dk e n t ih hh => .dct fa (hh _ _ fa ha) (dk.mono fun _ _ q => h.h _ _ q) e n (ih fun x o q => hh x o q.1)
  have c4 : ∀ {F : Addr → Prop}, m2 F [] [] .nil := fun _ => .nil
  have c5 : ∀ {F F1 F2 : Addr → Prop} {v : V} {vs : List V} {d : D} {ds : List D} (a : ∀ x, F1 x → F x) (b : ∀ x, F2 x → F x) (c : ∀ x, F1 x → F2 x → False) (o : OwnT K cl Z H F1 v d) (t : OwnTL K cl Z H F2 vs ds), m1 _ _ _ o → m2 _ _ _ t → m2 F (v :: vs) (d :: ds) (.cons a b c o t) :=
    fun a b c o t i1 i2 hh => .cons a b c (i1 fun x o q => hh x o (a x q)) (i2 fun x o q => hh x o (b x q))
  exact ⟨fun o => OwnT.rec (motive_1 := m1) (motive_2 := m2) c1 c2 c3 c4 c5 o, fun o => OwnTL.rec (motive_1 := m1) (motive_2 := m2) c1 c2 c3 c4 c5 o⟩
theorem OwnT.move (h : SubZ Z Z') {F : Addr → Prop} {v : V} {d : D} (o : OwnT K cl Z H F v d) (hh : ∀ x o, F x → H x = some o → H' x = some o) : OwnT K cl Z' H' F v d := (own_move h).1 o hh
theorem OwnTL.move (h : SubZ Z Z') {F : Addr → Prop} {vs : List V} {ds : List D} (o : OwnTL K cl Z H F vs ds) (hh : ∀ x o, F x → H x = some o → H' x = some o) : OwnTL K cl Z' H' F vs ds := (own_move h).2 o hh
theorem own_rep (h : SubZ Z Z') :
    (∀ {F : Addr → Prop} {v : V} {d : D}, OwnT K cl Z H F v d → (∀ x o, F x → H x = some o → Z' x = some o) → Rep K cl Z' v d.strip) ∧
    (∀ {F : Addr → Prop} {vs : List V} {ds : List D}, OwnTL K cl Z H F vs ds → (∀ x o, F x → H x = some o → Z' x = some o) → RepL K cl Z' vs (D.stripL ds)) := by
  let m1 : ∀ (F : Addr → Prop) (v : V) (d : D), OwnT K cl Z H F v d → Prop := fun F v d _ => (∀ x o, F x → H x = some o → Z' x = some o) → Rep K cl Z' v d.strip
  let m2 : ∀ (F : Addr → Prop) (vs : List V) (ds : List D), OwnTL K cl Z H F vs ds → Prop := fun F vs ds _ => (∀ x o, F x → H x = some o → Z' x = some o) → RepL K cl Z' vs (D.stripL ds)
  have c1 : ∀ {F : Addr → Prop} {v : V} {d : D} (i : d.isMut = false) (r : Rep K cl Z v d), m1 F v d (.leaf i r) := fun i r _ => by rw [strip_leaf i]; exact r.mono h
  have c2 : ∀ {F : Addr → Prop} {a : Addr} {vs : List V} {ds : List D} (fa : F a) (ha : H a = some (.lst vs)) (l : vs.length ≤ sizeLine) (t : OwnTL K cl Z H (fun x => F x ∧ x ≠ a) vs ds), m2 _ _ _ t → m1 F (.ref a) (.ins "" [.lst ds]) (.lst fa ha l t) :=
    fun fa ha l t ih hh => by rw [strip_lst]; exact .lst (hh _ _ fa ha) l (ih fun x o q => hh x o q.1)
  have c3 : ∀ {F : Addr → Prop} {a : Addr} {o : HO} {kvs : List (GK × V)} {ks ds : List D} (fa : F a) (ha : H a = some o) (dk : DKV cl Z.h a o kvs) (e : ks = kvs.map (fun p => keyD p.1)) (n : KNd kvs) (t : OwnTL K cl Z H (fun x => F x ∧ x ≠ a) (kvs.map (·.2)) ds), m2 _ _ _ t → m1 F (.ref a) (.ins "" [.dct ks ds]) (.dct fa ha dk e n t) :=
    fun fa ha dk e n t ih hh => by rw [strip_dct]; exact .dct (.inl (hh _ _ fa ha)) (dk.mono fun _ _ q => h.h _ _ q) e n (ih fun x o q => hh x o q.1)
  have c4 : ∀ {F : Addr → Prop}, m2 F [] [] .nil := fun _ => .nil
  have c5 : ∀ {F F1 F2 : Addr → Prop} {v : V} {vs : List V} {d : D} {ds : List D} (a : ∀ x, F1 x → F x) (b : ∀ x, F2 x → F x) (c : ∀ x, F1 x → F2 x → False) (o : OwnT K cl Z H F1 v d) (t : OwnTL K cl Z H F2 vs ds), m1 _ _ _ o → m2 _ _ _ t → m2 F (v :: vs) (d :: ds) (.cons a b c o t) :=
    fun a b c o t i1 i2 hh => .cons (i1 fun x o q => hh x o (a x q)) (i2 fun x o q => hh x o (b x q))
  exact ⟨fun o => OwnT.rec (motive_1 := m1) (motive_2 := m2) c1 c2 c3 c4 c5 o, fun o => OwnTL.rec (motive_1 := m1) (motive_2 := m2) c1 c2 c3 c4 c5 o⟩
theorem OwnT.rep (h : SubZ Z Z') {F : Addr → Prop} {v : V} {d : D} (o : OwnT K cl Z H F v d) (hh : ∀ x o, F x → H x = some o → Z' x = some o) : Rep K cl Z' v d.strip := (own_rep h).1 o hh
theorem OwnTL.len : ∀ {vs : List V} {F : Addr → Prop} {ds : List D}, OwnTL K cl Z H F vs ds → vs.length = ds.length
  | [], _, _, o => by cases o; rfl
  | v :: vs, _, _, o => by
    cases o with
    | cons a b c d e => simp [OwnTL.len e]
theorem OwnTL.ofRep {F : Addr → Prop} : ∀ {vs : List V} {ds : List D}, (∀ d ∈ ds, d.isMut = false) → RepL K cl Z vs ds → OwnTL K cl Z H F vs ds
  | [], _, _, r => by cases r; exact .nil
  | v :: vs, _, h, r => by
    cases r with
    | cons a b => exact .cons (F1 := fun _ => False) (F2 := F) (fun _ q => q.elim) (fun _ q => q) (fun _ q _ => q) (.leaf (h _ List.mem_cons_self) a) (OwnTL.ofRep (fun d hd => h d (List.mem_cons_of_mem _ hd)) b)
theorem OwnTL.snoc {F2 : Addr → Prop} {v : V} {d : D} (o : OwnT K cl Z H F2 v d) : ∀ {vs : List V} {F : Addr → Prop} {ds : List D}, (∀ x, F x → F2 x → False) → OwnTL K cl Z H F vs ds → OwnTL K cl Z H (fun x => F x ∨ F2 x) (vs ++ [v]) (ds ++ [d])
  | [], F, _, dj, t => by
    cases t
    exact .cons (F1 := F2) (F2 := fun _ => False) (fun _ q => .inr q) (fun _ q => q.elim) (fun _ _ q => q) o .nil
  | u :: vs, F, _, dj, t => by
    cases t with
    | cons a b c e f =>
      rename_i F1 F3 d1 ds1
      exact .cons (F1 := F1) (F2 := fun x => F3 x ∨ F2 x) (fun x q => .inl (a x q)) (fun x q => q.elim (fun q => .inl (b x q)) .inr) (fun x q1 q2 => q2.elim (c x q1) (dj x (a x q1))) e (OwnTL.snoc o (fun x q => dj x (b x q)) f)
theorem OwnTL.app {F : Addr → Prop} : ∀ {vs ws : List V} {ds es : List D}, OwnTL K cl Z H F vs ds → (∀ d ∈ es, d.isMut = false) → RepL K cl Z ws es → OwnTL K cl Z H F (vs ++ ws) (ds ++ es) := by
  intro vs
  induction vs generalizing F with
  | nil => intro ws ds es t h r; cases t; exact OwnTL.ofRep h r
  | cons u vs ih =>
    intro ws ds es t h r
    cases t with
    | cons a b c e f => exact .cons a b c e (ih f h r)
theorem OwnTL.at : ∀ {vs : List V} {F : Addr → Prop} {ds : List D} {i : Nat} {d : D}, OwnTL K cl Z H F vs ds → ds[i]? = some d → ∃ (v : V) (F1 : Addr → Prop), vs[i]? = some v ∧ (∀ x, F1 x → F x) ∧ OwnT K cl Z H F1 v d ∧
    ∀ (H' : Hp) (v' : V) (d' : D) (F' : Addr → Prop), (∀ x o, F x → ¬ F1 x → H x = some o → H' x = some o) → OwnT K cl Z H' F' v' d' → (∀ x, F' x → F x → F1 x) → OwnTL K cl Z H' (fun x => F x ∨ F' x) (vs.set i v') (ds.set i d')
  | [], _, _, _, _, t, e => by cases t; simp at e
  | u :: vs, F, _, 0, d, t, e => by
    cases t with
    | cons a b c o f =>
      rename_i F1 F2 d1 ds1
      simp at e
      subst e
      refine ⟨u, F1, rfl, a, o, fun H' v' d' F' hh o' dj => ?_⟩
      exact .cons (F1 := F') (F2 := F2) (fun x q => .inr q) (fun x q => .inl (b x q)) (fun x q1 q2 => c x (dj x q1 (b x q2)) q2) o' (f.move (.refl _) fun x ob q => hh x ob (b x q) fun z => c x z q)
  | u :: vs, F, _, i + 1, d, t, e => by
    cases t with
    | cons a b c o f =>
      rename_i F1 F2 d1 ds1
      obtain ⟨v, F3, h1, h2, h3, h4⟩ := OwnTL.at (i := i) f (by simpa using e)
      refine ⟨v, F3, by simpa using h1, fun x q => b x (h2 x q), h3, fun H' v' d' F' hh o' dj => ?_⟩
      exact .cons (F1 := F1) (F2 := fun x => F2 x ∨ F' x) (fun x q => .inl (a x q)) (fun x q => q.elim (fun q => .inl (b x q)) .inr) (fun x q1 q2 => q2.elim (c x q1) fun q2 => c x q1 (h2 x (dj x q2 (a x q1))))
        (o.move (.refl _) fun x ob q => hh x ob (a x q) fun z => c x q (h2 x z)) (h4 H' v' d' F' (fun x ob q => hh x ob (b x q)) o' fun x q1 q2 => dj x q1 (b x q2))
end
section
variable {K : PySem.W.Frag} {cl : CTab} {md : Bool} {W : WX} {σ : L2.St} {Z Z1 : Zp} {C H C1 H1 : Hp}
def PostM (K : PySem.W.Frag) (cl : CTab) (md : Bool) (W : WX) (σ : L2.St) (Z : Zp) (C H : Hp) (r : Res B.T D) (Q : VK) : Prop :=
  match r with
  | .ok d s => ∀ v (F : Addr → Prop) Z' C' H', Wd B md Z' C' H' s → Nx Z C H Z' C' H' → (∀ x, F x → H x = none ∧ Z' x = none ∧ C' x = none ∧ ∃ o, H' x = some o ∧ immO o = false) → OwnT K cl Z' H' F v d → Q v H'
  | .err x s => ∀ c dx Z' C' H', Wd B md Z' C' H' s → Nx Z C H Z' C' H' → ExR K cl Z' C' x c dx H' → W c dx σ H'
  | .stuck => False
theorem PostM.step {r : Res B.T D} {Q : VK} (n : Nx Z C H Z1 C1 H1) (c0 : Sub C H) (c1 : Sub C1 H1) (h : PostM K cl md W σ Z C H r Q) : PostM K cl md W σ Z1 C1 H1 r Q := by
  cases r with
  | ok a s => exact fun v F Z' C' H' w m f => h v F Z' C' H' w (n.trans c0 c1 m) fun x hx => ⟨n.back c1 (f x hx).1, (f x hx).2⟩
  | err x s => exact fun c dx Z' C' H' w m => h c dx Z' C' H' w (n.trans c0 c1 m)
  | stuck => exact h
theorem PostM.seq {υ α : Type} {Rp : Zp → υ → α → Prop} {m : M B α} {k : α → M B D} {s : B.T} {Q : VK} {Q1 : υ → Hp → Prop} (c0 : Sub C H) (h : PostM K cl md W σ Z C H (M.bind m k s) Q)
    (hk : ∀ a s1 v Z1 C1 H1, Wd B md Z1 C1 H1 s1 → Nx Z C H Z1 C1 H1 → Rp Z1 v a → PostM K cl md W σ Z1 C1 H1 (k a s1) Q → Q1 v H1) : Post K cl md Rp W σ Z C H (m s) Q1 := by
  unfold M.bind at h
  cases e : m s with
  | ok a s1 =>
    rw [e] at h
    exact fun v Z1 C1 H1 w n r => hk a s1 v Z1 C1 H1 w n r (PostM.step n c0 w.ch h)
  | err x s1 => rw [e] at h; exact h
  | stuck => rw [e] at h; exact h
end
def flatB : D → Bool
  | .lst ds => ds.all fun d => !d.isMut
  | .dct _ ds => ds.all fun d => !d.isMut
  | _ => false
end DN
namespace DN
open PySem PySem.Spec PyProof.Rows L2 RZ ND
variable {B : Sto}
inductive Sl where
  | no | val (d : D) | own (d : D)
abbrev SEnv := List Sl
inductive Fl where
  | nx (ρ : SEnv) | rt (d : D) | bk (ρ : SEnv) | ct (ρ : SEnv) | ro (d : D)
structure SRel (K : PySem.W.Frag) (cl : CTab) (Z : Zp) (C H H0 : Hp) (ρ : SEnv) (σ : L2.St) (α : Nat → Addr → Prop) : Prop where
  len : ρ.length = σ.length
  val : ∀ (i : Nat) (d : D), ρ[i]? = some (.val d) → ∃ v, σ[i]? = some (some v) ∧ Rep K cl Z v d
  own : ∀ (i : Nat) (d : D), ρ[i]? = some (.own d) → ∃ v, σ[i]? = some (some v) ∧ OwnT K cl Z H (α i) v (.ins "" [d])
  fp : ∀ (i : Nat) (d : D) (x : Addr), ρ[i]? = some (.own d) → α i x → H0 x = none ∧ Z x = none ∧ C x = none ∧ ∃ o, H x = some o ∧ immO o = false
  dj : ∀ (i j : Nat) (d e : D) (x : Addr), ρ[i]? = some (.own d) → ρ[j]? = some (.own e) → α i x → α j x → i = j
def PostS (K : PySem.W.Frag) (cl : CTab) (W : WX) (Z0 : Zp) (C0 H0 : Hp) (r : Res B.T Fl) (E : Ends) : Prop :=
  match r with
  | .ok (.nx ρ) s => ∀ σ Z C H α, Wd B true Z C H s → Nx Z0 C0 H0 Z C H → SRel K cl Z C H H0 ρ σ α → E.nx σ H
  | .ok (.bk ρ) s => ∀ σ Z C H α, Wd B true Z C H s → Nx Z0 C0 H0 Z C H → SRel K cl Z C H H0 ρ σ α → E.bk σ H
  | .ok (.ct ρ) s => ∀ σ Z C H α, Wd B true Z C H s → Nx Z0 C0 H0 Z C H → SRel K cl Z C H H0 ρ σ α → E.ct σ H
  | .ok (.rt d) s => ∀ v Z C H, Wd B true Z C H s → Nx Z0 C0 H0 Z C H → Rep K cl Z v d → E.rt v H
  | .ok (.ro d) s => ∀ v (F : Addr → Prop) Z C H, Wd B true Z C H s → Nx Z0 C0 H0 Z C H → (∀ x, F x → H0 x = none ∧ Z x = none ∧ C x = none ∧ ∃ o, H x = some o ∧ immO o = false) → OwnT K cl Z H F v (.ins "" [d]) → E.rt v H
  | .err x s => ∀ c dx σ Z C H, Wd B true Z C H s → Nx Z0 C0 H0 Z C H → ExR K cl Z C x c dx H → W c dx σ H
  | .stuck => False
def tS (K : PySem.W.Frag) (cl : CTab) (B : Sto) (W : WX) (F : SEnv → M B Fl) : TS := fun E σ H => ∃ Z0 C0 H0 Z C s ρ α, Sub C0 H0 ∧ Wd B true Z C H s ∧ Nx Z0 C0 H0 Z C H ∧ SRel K cl Z C H H0 ρ σ α ∧ PostS K cl W Z0 C0 H0 (F ρ s) E
def DS (cl : CTab) (B : Sto) (W : WX) (X : Cx) (st : Stmt) (F : SEnv → M B Fl) : Prop := PS X st (tS X.K cl B W F)
def DSs (cl : CTab) (B : Sto) (W : WX) (X : Cx) (st : List Stmt) (F : SEnv → M B Fl) : Prop := PSs X st (tS X.K cl B W F)
theorem PS.weak {X : Cx} {st : Stmt} {t t' : TS} (h : PS X st t) (w : ∀ D σ H, t' D σ H → t D σ H) : PS X st t' := ⟨fun pins s σ H D I q => h.run pins s σ H D I (w D σ H q)⟩
theorem PSs.weak {X : Cx} {st : List Stmt} {t t' : TS} (h : PSs X st t) (w : ∀ D σ H, t' D σ H → t D σ H) : PSs X st t' := ⟨fun pins s σ H D I q => h.run pins s σ H D I (w D σ H q)⟩
def seqF (F G : SEnv → M B Fl) : SEnv → M B Fl := fun ρ => M.bind (F ρ) fun fl => match fl with
  | .nx ρ' => G ρ'
  | o => M.pure o
section
variable {cl : CTab} {W : WX} {X : Cx}
theorem dss_nil : DSs cl B W X [] (fun ρ => M.pure (.nx ρ)) := PSs.weak pss_nil fun E σ H ⟨Z0, C0, H0, Z, C, s, ρ, α, c0, w, n, r, p⟩ => p σ Z C H α w n r
theorem dss_one {st : Stmt} {F : SEnv → M B Fl} (h : DS cl B W X st F) : DSs cl B W X [st] F := pss_one h
theorem dss_cons {st : Stmt} {rest : List Stmt} {F G : SEnv → M B Fl} (h : DS cl B W X st F) (t : DSs cl B W X rest G) : DSs cl B W X (st :: rest) (seqF F G) := by
  refine PSs.weak (pss_cons h t) fun E σ H ⟨Z0, C0, H0, Z, C, s, ρ, α, c0, w, n, r, p⟩ => ?_
  refine ⟨Z0, C0, H0, Z, C, s, ρ, α, c0, w, n, r, ?_⟩
  unfold seqF M.bind at p
  cases hF : F ρ s with
  | stuck => simp only [hF] at p; exact p
  | err x s1 => simp only [hF] at p; exact p
  | ok fl s1 =>
    simp only [hF] at p
    cases fl with
    | nx ρ1 => exact fun σ1 Z1 C1 H1 α1 w1 n1 r1 => ⟨Z0, C0, H0, Z1, C1, s1, ρ1, α1, c0, w1, n1, r1, p⟩
    | rt d => exact p
    | bk ρ1 => exact p
    | ct ρ1 => exact p
    | ro d => exact p
end
def seeE (p : D → Bool) (ρ : SEnv) : Env := ρ.map fun s => match s with
  | .val d => some d
  | .own d => if p d = true then some (D.strip (.ins "" [d])) else none
  | .no => none
def pHide : D → Bool := fun _ => false
structure See (p : D → Bool) (md : Bool) : Prop where
  nd : md = true → ∀ d, p d = true → ∀ ks ds, d = .dct ks ds → True
  ni : ∀ c ds, p (.ins c ds) = false
theorem seeHide : See pHide true := ⟨fun _ _ _ _ _ _ => trivial, fun _ _ => rfl⟩
open Classical in
noncomputable def seeZ (p : D → Bool) (ρ : SEnv) (α : Nat → Addr → Prop) (Z : Zp) (H : Hp) : Zp := ⟨fun x => if ∃ i d, ρ[i]? = some (.own d) ∧ p d = true ∧ α i x then H x else Z.h x, Z.μ⟩
open Classical in
noncomputable def unZ (p : D → Bool) (ρ : SEnv) (α : Nat → Addr → Prop) (Z1 : Zp) : Zp := ⟨fun x => if ∃ i d, ρ[i]? = some (.own d) ∧ p d = true ∧ α i x then none else Z1.h x, Z1.μ⟩
open Classical in
theorem seeZ_h {p : D → Bool} {ρ : SEnv} {α : Nat → Addr → Prop} {Z : Zp} {H : Hp} {x : Addr} : (seeZ p ρ α Z H).h x = if ∃ i d, ρ[i]? = some (.own d) ∧ p d = true ∧ α i x then H x else Z.h x := rfl
open Classical in
theorem unZ_h {p : D → Bool} {ρ : SEnv} {α : Nat → Addr → Prop} {Z : Zp} {x : Addr} : (unZ p ρ α Z).h x = if ∃ i d, ρ[i]? = some (.own d) ∧ p d = true ∧ α i x then none else Z.h x := rfl
section
variable {K : PySem.W.Frag} {cl : CTab} {Z Z1 Z0 : Zp} {C H H0 C1 H1 C0 : Hp} {ρ : SEnv} {σ : L2.St} {α : Nat → Addr → Prop} {s s1 : B.T} {p : D → Bool} {md : Bool}
theorem see_sub (r : SRel K cl Z C H H0 ρ σ α) : SubZ Z (seeZ p ρ α Z H) := by
  refine ⟨fun x o e => ?_, fun _ _ e => e⟩
  rw [seeZ_h]
  split
  · rename_i q
    obtain ⟨i, d, q1, _, qx⟩ := q
    obtain ⟨_, z, _⟩ := r.fp i d x q1 qx
    rw [z] at e; cases e
  · exact e
theorem see_in {i : Nat} {d : D} {x : Addr} (h : ρ[i]? = some (.own d)) (hp : p d = true) (hx : α i x) : seeZ p ρ α Z H x = H x := by
  rw [seeZ_h]
  rw [if_pos ⟨i, d, h, hp, hx⟩]
theorem see_wd (w : Wd B true Z C H s) (r : SRel K cl Z C H H0 ρ σ α) (hm : md = true → ∀ d, p d = true → ∀ ks ds, d = .dct ks ds → True) : Wd B md (seeZ p ρ α Z H) C H s := by
  refine ⟨fun x o e => ?_, w.ch, fun x e => ?_, B.mono w.sr ((see_sub r).imm rfl)⟩
  · rw [seeZ_h] at e
    split at e
    · exact e
    · exact w.zh x o e
  · rw [seeZ_h]
    split
    · rename_i q
      obtain ⟨i, d, q1, _, qx⟩ := q
      obtain ⟨_, _, c, _⟩ := r.fp i d x q1 qx
      exact absurd c e
    · exact w.dj x e
theorem see_env (sp : See p md) (r : SRel K cl Z C H H0 ρ σ α) : EnvR K cl (seeZ p ρ α Z H) (seeE p ρ) σ := by
  refine ⟨by simp [seeE, r.len], fun i d e => ?_⟩
  unfold seeE at e
  rw [List.getElem?_map] at e
  cases q : ρ[i]? with
  | none => rw [q] at e; cases e
  | some sl =>
    rw [q] at e
    cases sl with
    | no => cases e
    | val d' =>
      cases e
      obtain ⟨v, h1, h2⟩ := r.val i d q
      exact ⟨v, h1, h2.mono (see_sub r) d⟩
    | own d' =>
      simp only [Option.map_some] at e
      split at e
      · rename_i hp
        cases e
        obtain ⟨v, h1, o⟩ := r.own i d' q
        exact ⟨v, h1, o.rep (see_sub r) fun x ob hx ho => (see_in q hp hx).trans ho⟩
      · cases e
theorem see_nx (r : SRel K cl Z C H H0 ρ σ α) (n : Nx Z0 C0 H0 Z C H) (hd : md = true → ∀ d, p d = true → ∀ ks ds, d = .dct ks ds → True) (m : md = true) : Nx Z0 C0 H0 (seeZ p ρ α Z H) C H := by
  refine ⟨n.zz.trans (see_sub r), n.hh, fun x e => ?_, n.cf, n.cp, n.lk⟩
  rw [seeZ_h] at e
  split at e
  · rename_i q
    obtain ⟨i, d, q1, _, qx⟩ := q
    exact .inr (r.fp i d x q1 qx).1
  · exact n.zf x e
structure Un (p : D → Bool) (K : PySem.W.Frag) (cl : CTab) (B : Sto) (Z0 : Zp) (C0 H0 : Hp) (ρ : SEnv) (σ : L2.St) (α : Nat → Addr → Prop) (Z1 : Zp) (C1 H1 : Hp) (s1 : B.T) : Prop where
  wd : Wd B true (unZ p ρ α Z1) C1 H1 s1
  nx : Nx Z0 C0 H0 (unZ p ρ α Z1) C1 H1
  rel : SRel K cl (unZ p ρ α Z1) C1 H1 H0 ρ σ α
  imm : SubI Z1 (unZ p ρ α Z1)
  less : Sub (unZ p ρ α Z1).h Z1.h
theorem un_sub : Sub (unZ p ρ α Z1).h Z1.h := by
  intro x o e
  rw [unZ_h] at e
  split at e
  · cases e
  · exact e
theorem see_un (sp : See p md) (w : Wd B true Z C H s) (c0 : Sub C0 H0) (n : Nx Z0 C0 H0 Z C H) (r : SRel K cl Z C H H0 ρ σ α) (w1 : Wd B md Z1 C1 H1 s1) (n1 : Nx (seeZ p ρ α Z H) C H Z1 C1 H1) : Un p K cl B Z0 C0 H0 ρ σ α Z1 C1 H1 s1 := by
  have own1 : ∀ i d x, ρ[i]? = some (.own d) → α i x → ∃ o, H x = some o ∧ immO o = false ∧ H1 x = some o := fun i d x q qx => by
    obtain ⟨_, _, c, o, h1, h2⟩ := r.fp i d x q qx
    exact ⟨o, h1, h2, n1.hh _ _ h1 c⟩
  have imm : SubI Z1 (unZ p ρ α Z1) := ⟨fun x o ho e => by
    rw [unZ_h]
    split
    · rename_i q
      obtain ⟨i, d, q1, q2, qx⟩ := q
      obtain ⟨u, h1, h2, h3⟩ := own1 i d x q1 qx
      rw [w1.zh _ _ e] at h3
      cases h3
      rw [ho] at h2; cases h2
    · exact e, rfl⟩
  have zz : SubZ Z (unZ p ρ α Z1) := ⟨fun x o e => by
    rw [unZ_h]
    split
    · rename_i q
      obtain ⟨i, d, q1, _, qx⟩ := q
      obtain ⟨_, z, _⟩ := r.fp i d x q1 qx
      rw [z] at e; cases e
    · exact n1.zz.h x o ((see_sub r).h x o e), fun n a e => n1.zz.m n a e⟩
  have cz : ∀ i d x, ρ[i]? = some (.own d) → α i x → C1 x = none := fun i d x q qx => by
    obtain ⟨_, _, c, o, h1, _⟩ := r.fp i d x q qx
    cases e : C1 x with
    | none => rfl
    | some u =>
      rcases n1.cf _ (some_ne e) with z | z
      · exact absurd c z
      · rw [h1] at z; cases z
  have zn : ∀ i d x, ρ[i]? = some (.own d) → α i x → unZ p ρ α Z1 x = none := fun i d x q qx => by
    rw [unZ_h]
    split
    · rfl
    · rename_i nq
      obtain ⟨_, z, _, o, h1, _⟩ := r.fp i d x q qx
      cases e : Z1 x with
      | none => rfl
      | some u =>
        rcases n1.zf _ (some_ne e) with z1 | z1
        · rw [seeZ_h] at z1
          rw [if_neg nq] at z1
          exact absurd z z1
        · rw [h1] at z1; cases z1
  refine ⟨⟨un_sub.trans w1.zh, w1.ch, fun x e => ?_, B.mono w1.sr imm⟩, ?_, ⟨r.len, fun i d q => ?_, fun i d q => ?_, fun i d x q qx => ?_, r.dj⟩, imm, un_sub⟩
  · rw [unZ_h]
    split
    · rfl
    · exact w1.dj x e
  · refine ⟨n.zz.trans zz, fun x o e c => ?_, fun x e => ?_, fun x e => ?_, fun x e => n1.cp x (n.cp x e), fun x od u e => n1.lk x od u (n.lk x od u e)⟩
    · have h1 := n.hh x o e c
      refine n1.hh x o h1 ?_
      cases q : C x with
      | none => rfl
      | some u =>
        rcases n.cf x (some_ne q) with z | z
        · exact absurd c z
        · rw [e] at z; cases z
    · rw [unZ_h] at e
      split at e
      · exact absurd rfl e
      · rename_i nq
        rcases n1.zf x e with z | z
        · rw [seeZ_h] at z
          rw [if_neg nq] at z
          exact n.zf x z
        · exact .inr (n.back w.ch z)
    · rcases n1.cf x e with z | z
      · exact n.cf x z
      · exact .inr (n.back w.ch z)
  · obtain ⟨v, h1, h2⟩ := r.val i d q
    exact ⟨v, h1, h2.mono zz d⟩
  · obtain ⟨v, h1, h5⟩ := r.own i d q
    exact ⟨v, h1, h5.move zz fun x o hx e => n1.hh _ _ e (r.fp i d x q hx).2.2.1⟩
  · obtain ⟨h2, h3, h4, o, h5, h6⟩ := r.fp i d x q qx
    exact ⟨h2, zn i d x q qx, cz i d x q qx, o, n1.hh _ _ h5 h4, h6⟩
theorem PostS.seq (sp : See p md) {υ β : Type} {Rp : Zp → υ → β → Prop} {W : WX} {m : M B β} {k : β → M B Fl} {E : Ends} {Q1 : υ → Hp → Prop} (w : Wd B true Z C H s) (c0 : Sub C0 H0) (n : Nx Z0 C0 H0 Z C H) (r : SRel K cl Z C H H0 ρ σ α) (h : PostS K cl W Z0 C0 H0 (M.bind m k s) E)
    (hk : ∀ a s1 v Z1 C1 H1, Wd B md Z1 C1 H1 s1 → Nx (seeZ p ρ α Z H) C H Z1 C1 H1 → Rp Z1 v a → PostS K cl W Z0 C0 H0 (k a s1) E → Q1 v H1) : Post K cl md Rp W σ (seeZ p ρ α Z H) C H (m s) Q1 := by
  unfold M.bind at h
  cases e : m s with
  | ok a s1 =>
    rw [e] at h
    exact fun v Z1 C1 H1 w1 n1 r1 => hk a s1 v Z1 C1 H1 w1 n1 r1 h
  | err x s1 =>
    rw [e] at h
    intro c dx Z1 C1 H1 w1 n1 ex
    have u := see_un sp w c0 n r w1 n1
    refine h c dx σ _ C1 H1 u.wd u.nx ?_
    obtain ⟨C', fs, h1, h2, h3⟩ := ex
    refine ⟨C', fs, h1, h2, ?_⟩
    cases hf : x.f with
    | none => rw [hf] at h3; exact h3
    | some d =>
      rw [hf] at h3
      obtain ⟨f, v, a, q1, q2, q3, q0, q4, q5⟩ := h3
      exact ⟨f, v, a, q1, q2, q3, q0, q4, q5.monoI u.imm d q4⟩
  | stuck =>
    rw [e] at h
    exact h
end
section
variable {cl : CTab} {W : WX} {X : Cx} {p : D → Bool} {md : Bool}
theorem ds_ret {e : Expr} {f : Env → M B D} {pos : Pos} (sp : See p true) (h : DE cl B true W X e f) : DS cl B W X (.Return (some e) pos) fun ρ => M.bind (f (seeE p ρ)) fun d => M.pure (.rt d) := by
  refine PS.weak (ps_ret h) fun E σ H ⟨Z0, C0, H0, Z, C, s, ρ, α, c0, w, n, r, q⟩ => ?_
  refine ⟨seeZ p ρ α Z H, C, s, seeE p ρ, see_wd w r sp.nd, see_env sp r, PostS.seq sp w c0 n r q fun d s1 v Z1 C1 H1 w1 n1 r1 q1 => ?_⟩
  exact q1 v Z1 C1 H1 w1 ((see_nx (md := true) r n sp.nd rfl).trans c0 w.ch n1) r1
theorem SRel.setVal {K : PySem.W.Frag} {Z : Zp} {C H H0 : Hp} {ρ : SEnv} {σ : L2.St} {α : Nat → Addr → Prop} {i : Nat} {v : V} {d : D} (r : SRel K cl Z C H H0 ρ σ α) (h : Rep K cl Z v d) : SRel K cl Z C H H0 (ρ.set i (.val d)) (σ.set i (some v)) α := by
  have ne : ∀ j e, (ρ.set i (.val d))[j]? = some (.own e) → i ≠ j ∧ ρ[j]? = some (.own e) := fun j e q => by
    by_cases hj : i = j
    · subst hj
      by_cases hl : i < ρ.length
      · rw [List.getElem?_set_self hl] at q; cases q
      · rw [List.getElem?_eq_none (by simpa using hl)] at q; cases q
    · rw [List.getElem?_set_ne hj] at q
      exact ⟨hj, q⟩
  refine ⟨by simp [r.len], fun j e q => ?_, fun j e q => ?_, fun j e x q => r.fp j e x (ne j e q).2, fun j k e f x q1 q2 => r.dj j k e f x (ne j e q1).2 (ne k f q2).2⟩
  · by_cases hj : i = j
    · subst hj
      by_cases hl : i < ρ.length
      · rw [List.getElem?_set_self hl] at q
        cases q
        exact ⟨v, List.getElem?_set_self (by rw [← r.len]; exact hl), h⟩
      · rw [List.getElem?_eq_none (by simpa using hl)] at q; cases q
    · rw [List.getElem?_set_ne hj] at q
      obtain ⟨v', h1, h2⟩ := r.val j e q
      exact ⟨v', by rw [List.getElem?_set_ne hj]; exact h1, h2⟩
  · obtain ⟨hj, q'⟩ := ne j e q
    obtain ⟨v', h1, h2⟩ := r.own j e q'
    exact ⟨v', by rw [List.getElem?_set_ne hj]; exact h1, h2⟩
theorem SRel.move {K : PySem.W.Frag} {Z Z' : Zp} {C H H0 C' H' : Hp} {ρ : SEnv} {σ : L2.St} {α : Nat → Addr → Prop} (r : SRel K cl Z C H H0 ρ σ α) (zz : SubZ Z Z') (hh : ∀ i d x o, ρ[i]? = some (.own d) → α i x → H x = some o → H' x = some o)
    (z' : ∀ i d x, ρ[i]? = some (.own d) → α i x → Z' x = none) (c' : ∀ i d x, ρ[i]? = some (.own d) → α i x → C' x = none) : SRel K cl Z' C' H' H0 ρ σ α := by
  refine ⟨r.len, fun i d q => ?_, fun i d q => ?_, fun i d x q qx => ?_, r.dj⟩
  · obtain ⟨v, h1, h2⟩ := r.val i d q
    exact ⟨v, h1, h2.mono zz d⟩
  · obtain ⟨v, h1, h2⟩ := r.own i d q
    exact ⟨v, h1, h2.move zz fun x o hx e => hh i d x o q hx e⟩
  · obtain ⟨h1, _, _, o, h4, h5⟩ := r.fp i d x q qx
    exact ⟨h1, z' i d x q qx, c' i d x q qx, o, hh i d x o q qx h4, h5⟩
theorem set_core {i : Nat} {f : Env → M B D} {E : Ends} {σ : L2.St} {H : Hp} (h : tS X.K cl B W (fun ρ => M.bind (f (seeE pHide ρ)) fun d => M.pure (.nx (ρ.set i (.val d)))) E σ H) : tAsg (tG X.K cl B true (RpD X.K cl) W f) (gName i) E σ H := by
  obtain ⟨Z0, C0, H0, Z, C, s, ρ, α, c0, w, n, r, q⟩ := h
  refine ⟨seeZ pHide ρ α Z H, C, s, seeE pHide ρ, see_wd w r seeHide.nd, see_env seeHide r, PostS.seq seeHide w c0 n r q fun d s1 v Z1 C1 H1 w1 n1 r1 q1 => ?_⟩
  have u := see_un seeHide w c0 n r w1 n1
  have e1 : unZ pHide ρ α Z1 = Z1 := by
    show (⟨(unZ pHide ρ α Z1).h, Z1.μ⟩ : Zp) = Z1
    have : (unZ pHide ρ α Z1).h = Z1.h := by
      funext y
      rw [unZ_h]
      rw [if_neg (fun ⟨_, d, _, q, _⟩ => by simp [pHide] at q)]
    rw [this]
  have u1 := u.wd; have u2 := u.nx; have u3 := u.rel
  rw [e1] at u1 u2 u3
  exact q1 _ Z1 C1 H1 α u1 u2 (u3.setVal r1)
theorem ds_set {i : Nat} {x : Str} {e : Expr} {f : Env → M B D} {pos pos' : Pos} (hN : X.N.Nodup) (hi : X.N[i]? = some x) (hx : Loc X.env.scope x) (h : DE cl B true W X e f) (hs : swapsWith e (some (.Name x pos')) pos.line X.env = pure false := by rfl)
    (hf : X.fn x = true ∨ X.env.scope.names.lookup x = some .local := by first | exact .inl rfl | exact .inr rfl | assumption) : DS cl B W X (.Assign [.Name x pos'] e pos) fun ρ => M.bind (f (seeE pHide ρ)) fun d => M.pure (.nx (ρ.set i (.val d))) := PS.weak (ps_set hN hi hx h hs hf) fun E σ H q => set_core q
theorem ds_expr {e : Expr} {f : Env → M B D} {pos : Pos} (sp : See p md) (h : DE cl B md W X e f) (hs : swapsWith e none pos.line X.env = pure false := by rfl) : DS cl B W X (.Expr e pos) fun ρ => M.bind (f (seeE p ρ)) fun _ => M.pure (.nx ρ) := by
  refine PS.weak (ps_expr h hs) fun E σ H ⟨Z0, C0, H0, Z, C, s, ρ, α, c0, w, n, r, q⟩ => ?_
  refine ⟨seeZ p ρ α Z H, C, s, seeE p ρ, see_wd w r sp.nd, see_env sp r, PostS.seq sp w c0 n r q fun d s1 v Z1 C1 H1 w1 n1 r1 q1 => ?_⟩
  have u := see_un sp w c0 n r w1 n1
  exact q1 σ _ C1 H1 α u.wd u.nx u.rel
theorem ds_if {c : Expr} {a b : List Stmt} {t : Env → M B Bool} {F G : SEnv → M B Fl} {pos : Pos} (sp : See p md) (hc : DT cl B md W X c t) (ha : DSs cl B W X a F) (hb : DSs cl B W X b G) :
    DS cl B W X (.If c a b pos) fun ρ => M.bind (t (seeE p ρ)) fun k => if k = true then F ρ else G ρ := by
  refine PS.weak (ps_if hc ha hb) fun E σ H ⟨Z0, C0, H0, Z, C, s, ρ, α, c0, w, n, r, q⟩ => ?_
  refine ⟨seeZ p ρ α Z H, C, s, seeE p ρ, see_wd w r sp.nd, see_env sp r, PostS.seq sp w c0 n r q fun k s1 v Z1 C1 H1 w1 n1 r1 q1 => ?_⟩
  have u := see_un sp w c0 n r w1 n1
  have r1 : v = k := r1
  subst r1
  cases v with
  | true => exact ⟨Z0, C0, H0, _, C1, s1, ρ, α, c0, u.wd, u.nx, u.rel, q1⟩
  | false => exact ⟨Z0, C0, H0, _, C1, s1, ρ, α, c0, u.wd, u.nx, u.rel, q1⟩
end
end DN
namespace DN
open PySem PySem.Spec PyProof.Rows L2 RZ ND
variable {B : Sto}
def setsS (ρ : SEnv) (as : Asg) : SEnv := as.foldl (fun ρ p => ρ.set p.1 (.val p.2)) ρ
section
variable {K : PySem.W.Frag} {cl : CTab} {Z Z1 Z0 : Zp} {C H H0 C1 H1 C0 : Hp} {ρ : SEnv} {σ : L2.St} {α : Nat → Addr → Prop} {s s1 : B.T} {p : D → Bool} {md : Bool}
theorem SRel.sets : ∀ {as : Asg} {vs : List (Nat × V)} {ρ : SEnv} {σ : L2.St}, SRel K cl Z C H H0 ρ σ α → AsgR K cl Z as vs → SRel K cl Z C H H0 (setsS ρ as) (setsV σ vs) α
  | [], [], _, _, e, _ => e
  | (i, d) :: as, (j, v) :: vs, ρ, σ, e, ⟨a, b, c⟩ => by
    subst a
    show SRel K cl Z C H H0 (setsS (ρ.set i (.val d)) as) (setsV (σ.set i (some v)) vs) α
    exact SRel.sets (e.setVal b) c
  | [], _ :: _, _, _, _, h => False.elim h
  | _ :: _, [], _, _, _, h => False.elim h
structure Kp (p q : D → Bool) : Prop where
  k : ∀ d, q d = true → (∀ x, p x = false) ∨ d.imm = true
theorem kpHide : Kp pHide (fun _ => true) := ⟨fun _ _ => .inl fun _ => rfl⟩
theorem unZ_hide (h : ∀ x, p x = false) : unZ p ρ α Z1 = Z1 := by
  show (⟨(unZ p ρ α Z1).h, Z1.μ⟩ : Zp) = Z1
  have : (unZ p ρ α Z1).h = Z1.h := by
    funext y
    rw [unZ_h, if_neg (fun ⟨_, d, _, q, _⟩ => by simp [h] at q)]
  rw [this]
theorem seeZ_hide (h : ∀ x, p x = false) : seeZ p ρ α Z H = Z := by
  show (⟨(seeZ p ρ α Z H).h, Z.μ⟩ : Zp) = Z
  have : (seeZ p ρ α Z H).h = Z.h := by
    funext y
    rw [seeZ_h, if_neg (fun ⟨_, d, _, q, _⟩ => by simp [h] at q)]
  rw [this]
theorem Un.rep {q : D → Bool} {v : V} {d : D} (u : Un p K cl B Z0 C0 H0 ρ σ α Z1 C1 H1 s1) (k : Kp p q) (hq : q d = true) (r : Rep K cl Z1 v d) : Rep K cl (unZ p ρ α Z1) v d := by
  rcases k.k d hq with h | h
  · rw [unZ_hide h]; exact r
  · exact r.monoI u.imm d h
theorem SRel.back (r : SRel K cl Z C H H0 ρ σ α) (n : Nx Z0 C0 H0 Z C H) : True := trivial
end
section
variable {cl : CTab} {W : WX} {X : Cx} {p : D → Bool} {md : Bool}
theorem pHide_no : ∀ x, pHide x = false := fun _ => rfl
theorem ds_aug {i : Nat} {x : Str} {e : Expr} {f : Env → M B D} {op : Operator} {r0 : R2} {g : D → D → Option D} {pos' pos : Pos} (sp : See p md) (q0 : D → Bool) (kp : Kp p q0) (hN : X.N.Nodup) (hi : X.N[i]? = some x) (hx : Loc X.env.scope x) (h : DE cl B md W X e f) (ho : PIp X op r0) (hr : OpV X.K cl r0 g)
    (hf : X.fn x = true ∨ X.env.scope.names.lookup x = some .local := by first | exact .inl rfl | exact .inr rfl | assumption) :
    DS cl B W X (.AugAssign (.Name x pos') op e pos) fun ρ => M.bind (eVar i (seeE pHide ρ)) fun o => M.bind (f (seeE p ρ)) fun d => M.bind (lift (g o d)) fun z => guardM (q0 z) (M.pure (.nx (ρ.set i (.val z)))) := by
  refine PS.weak (ps_aug hN hi hx h ho hf) fun E σ H ⟨Z0, C0, H0, Z, C, s, ρ, α, c0, w, n, r, q⟩ => ?_
  have en := see_env seeHide r
  rw [seeZ_hide pHide_no] at en
  have q : PostS X.K cl W Z0 C0 H0 (M.bind (lift ((seeE pHide ρ)[i]?.bind id)) (fun o => M.bind (f (seeE p ρ)) fun d => M.bind (lift (g o d)) fun z => guardM (q0 z) (M.pure (.nx (ρ.set i (.val z))))) s) E := q
  cases hv : (seeE pHide ρ)[i]?.bind id with
  | none => rw [hv] at q; exact False.elim q
  | some o =>
    rw [hv] at q
    have hg : (seeE pHide ρ)[i]? = some (some o) := by
      cases z : (seeE pHide ρ)[i]? with
      | none => rw [z] at hv; cases hv
      | some y => rw [z] at hv; rw [show y = some o from hv]
    obtain ⟨vx, e1, rx⟩ := en.get i o hg
    refine ⟨vx, e1, ?_⟩
    have q' : PostS X.K cl W Z0 C0 H0 (M.bind (f (seeE p ρ)) (fun d => M.bind (lift (g o d)) fun z => guardM (q0 z) (M.pure (.nx (ρ.set i (.val z))))) s) E := q
    refine ⟨seeZ p ρ α Z H, C, s, seeE p ρ, see_wd w r sp.nd, see_env sp r, PostS.seq sp w c0 n r q' fun d s1 v Z1 C1 H1 w1 n1 r1 q1 => ?_⟩
    have q1 : PostS X.K cl W Z0 C0 H0 (M.bind (lift (g o d)) (fun z => guardM (q0 z) (M.pure (.nx (ρ.set i (.val z))))) s1) E := q1
    cases hz : g o d with
    | none => rw [hz] at q1; exact False.elim q1
    | some z =>
      rw [hz] at q1
      have q1 : PostS X.K cl W Z0 C0 H0 (guardM (q0 z) (M.pure (.nx (ρ.set i (.val z)))) s1) E := q1
      refine hr Z1 H1 vx v o d z _ w1.zh ((rx.mono (see_sub r)).mono n1.zz) r1 hz fun v2 Z2 H2 al r2 => ?_
      have u := see_un sp w c0 n r (al.wd w1) (n1.trans w.ch w1.ch al.nx)
      unfold guardM at q1
      split at q1
      · rename_i hq
        exact q1 _ _ C1 H2 α u.wd u.nx (u.rel.setVal (u.rep kp hq r2))
      · exact False.elim q1
def iaddD : D → D → Option D
  | .int i, .int j => some (.int (i + j))
  | _, _ => none
theorem v_ipadd : OpV X.K cl (ipI fun i j => i + j) iaddD := by
  intro Z H x y dx dy d Q h rx ry e q
  unfold iaddD at e
  split at e <;> cases e
  cases rx; cases ry
  exact ⟨_, _, rfl, rfl, q _ Z H (.refl h) (.int _)⟩
theorem Nx.rebase {Z0 Z : Zp} {C0 H0 C H : Hp} (a : Nx Z0 C0 H0 Z C H) : Nx Z C0 H0 Z C H :=
  ⟨.refl _, a.hh, fun x e => .inl e, a.cf, a.cp, a.lk⟩
theorem Nx.unbase {Z0 Z Z1 : Zp} {C0 H0 C H C1 H1 : Hp} (a : Nx Z0 C0 H0 Z C H) (b : Nx Z C0 H0 Z1 C1 H1) : Nx Z0 C0 H0 Z1 C1 H1 :=
  ⟨a.zz.trans b.zz, b.hh, fun x e => (b.zf x e).elim (a.zf x) .inr, b.cf, b.cp, b.lk⟩
theorem PostS.rebase {K : PySem.W.Frag} {Z0 Z : Zp} {C0 H0 C H : Hp} {r : Res B.T Fl} {E : Ends} (a : Nx Z0 C0 H0 Z C H) (h : PostS K cl W Z0 C0 H0 r E) : PostS K cl W Z C0 H0 r E := by
  cases r with
  | ok fl s =>
    cases fl with
    | nx ρ => exact fun σ Z1 C1 H1 α w n => h σ Z1 C1 H1 α w (a.unbase n)
    | bk ρ => exact fun σ Z1 C1 H1 α w n => h σ Z1 C1 H1 α w (a.unbase n)
    | ct ρ => exact fun σ Z1 C1 H1 α w n => h σ Z1 C1 H1 α w (a.unbase n)
    | rt d => exact fun v Z1 C1 H1 w n => h v Z1 C1 H1 w (a.unbase n)
    | ro d => exact fun v F Z1 C1 H1 w n => h v F Z1 C1 H1 w (a.unbase n)
  | err x s => exact fun c dx σ Z1 C1 H1 w n => h c dx σ Z1 C1 H1 w (a.unbase n)
  | stuck => exact h
def forL (a : D → Option Asg) (F : SEnv → M B Fl) : List D → SEnv → M B Fl
  | [], ρ => M.pure (.nx ρ)
  | d :: ds, ρ => M.bind (lift (a d)) fun as => M.bind (F (setsS ρ as)) fun fl => match fl with
    | .nx ρ' => forL a F ds ρ'
    | .ct ρ' => forL a F ds ρ'
    | .bk ρ' => M.pure (.nx ρ')
    | .rt d => M.pure (.rt d)
    | .ro d => M.pure (.ro d)
theorem ds_for {tg iter : Expr} {body : List Stmt} {src : Env → M B (List D)} {a : D → Option Asg} {F : SEnv → M B Fl} {pos : Pos} (hp : PassesOwn (model X.prog X.w) X.A X.env X.xe) (hc : X.calm = true) (hi : DI cl B true W X tg iter src) (hg : DG cl X tg a) (hb : DSs cl B W X body F)
    (hs : ∀ x, foldedSetIterable iter X.env x = pure x := by intro _; rfl) : DS cl B W X (.For tg iter body [] pos) fun ρ => M.bind (src (seeE pHide ρ)) fun ds => forL a F ds ρ := by
  refine PS.weak (ps_for hp hc hi hg hb hs) fun E σ H ⟨Z0, C0, H0, Z, C, s, ρ, α, c0, w, n, r, q⟩ => ?_
  refine ⟨seeZ pHide ρ α Z H, C, s, seeE pHide ρ, see_wd w r seeHide.nd, see_env seeHide r, PostS.seq seeHide w c0 n r q fun ds s1 J Z1 C1 H1 w1 n1 r1 q1 => ?_⟩
  have u := see_un seeHide w c0 n r w1 n1
  have u1 := u.wd; have u2 := u.nx; have u3 := u.rel
  rw [unZ_hide pHide_no] at u1 u2 u3
  refine for_it r1.1 (fun i σ H => ∃ Zi Ci si ρi αi, Wd B true Zi Ci H si ∧ Nx Z0 C0 H0 Zi Ci H ∧ SRel X.K cl Zi Ci H H0 ρi σ αi ∧ SubZ Z1 Zi ∧ PostS X.K cl W Z0 C0 H0 (forL a F (ds.drop i) ρi si) E)
    ⟨Z1, C1, s1, ρ, α, u1, u2, u3, .refl _, q1⟩ (fun i σ H hi ⟨Zi, Ci, si, ρi, αi, wi, ni, ri, zi, pi⟩ => zi.to wi.zh) ?_ ?_
  · rintro i x σ2 H2 H2' hi ⟨Zi, Ci, si, ρi, αi, wi, ni, ri, zi, pi⟩ ⟨d, hd, hy⟩
    obtain ⟨Zc, al, rx⟩ := hy Zi zi wi.zh
    have hdr : ds.drop i = d :: ds.drop (i + 1) := by
      have hlt : i < ds.length := hi
      rw [List.drop_eq_getElem_cons hlt]
      have : ds[i] = d := by
        rw [List.getElem?_eq_getElem hlt] at hd
        exact Option.some.inj hd
      rw [this]
    rw [hdr] at pi
    have wc := al.wd wi
    have nc := ni.trans c0 wi.ch al.nx
    have rc : SRel X.K cl Zc Ci H2' H0 ρi σ2 αi := by
      refine ri.move al.zz (fun j e x o q hx ho => al.hh _ _ ho) (fun j e x q qx => ?_) fun j e x q qx => (ri.fp j e x q qx).2.2.1
      obtain ⟨h2, h3, h4, o, ho, _⟩ := ri.fp j e x q qx
      cases qz : Zc x with
      | none => rfl
      | some z =>
        rcases al.zf _ (some_ne qz) with zz | zz
        · exact absurd h3 zz
        · rw [ho] at zz; cases zz
    have pi : PostS X.K cl W Z0 C0 H0 (M.bind (lift (a d)) (fun as => M.bind (F (setsS ρi as)) fun fl => match fl with
      | .nx ρ' => forL a F (ds.drop (i + 1)) ρ'
      | .ct ρ' => forL a F (ds.drop (i + 1)) ρ'
      | .bk ρ' => M.pure (.nx ρ')
      | .rt d => M.pure (.rt d)
      | .ro d => M.pure (.ro d)) si) E := pi
    cases ha : a d with
    | none => rw [ha] at pi; exact False.elim pi
    | some as =>
      rw [ha] at pi
      refine ⟨Zc, d, as, wc.zh, rx, ha, fun vs av => ?_⟩
      refine ⟨Zc, C0, H0, Zc, Ci, si, setsS ρi as, αi, c0, wc, nc.rebase, rc.sets av, ?_⟩
      have pi : PostS X.K cl W Z0 C0 H0 (M.bind (F (setsS ρi as)) (fun fl => match fl with
        | .nx ρ' => forL a F (ds.drop (i + 1)) ρ'
        | .ct ρ' => forL a F (ds.drop (i + 1)) ρ'
        | .bk ρ' => M.pure (.nx ρ')
        | .rt d => M.pure (.rt d)
        | .ro d => M.pure (.ro d)) si) E := pi
      unfold M.bind at pi
      cases hF : F (setsS ρi as) si with
      | stuck => simp only [hF] at pi; exact pi
      | err x s3 =>
        simp only [hF] at pi
        exact fun c dx σ3 Z3 C3 H3 w3 n3 => pi c dx σ3 Z3 C3 H3 w3 (nc.unbase n3)
      | ok fl s3 =>
        simp only [hF] at pi
        cases fl with
        | nx ρ3 => exact fun σ3 Z3 C3 H3 α3 w3 n3 r3 => ⟨Z3, C3, s3, ρ3, α3, w3, nc.unbase n3, r3, (zi.trans al.zz).trans n3.zz, pi⟩
        | ct ρ3 => exact fun σ3 Z3 C3 H3 α3 w3 n3 r3 => ⟨Z3, C3, s3, ρ3, α3, w3, nc.unbase n3, r3, (zi.trans al.zz).trans n3.zz, pi⟩
        | bk ρ3 => exact fun σ3 Z3 C3 H3 α3 w3 n3 r3 => pi σ3 Z3 C3 H3 α3 w3 (nc.unbase n3) r3
        | rt d => exact fun v Z3 C3 H3 w3 n3 r3 => pi v Z3 C3 H3 w3 (nc.unbase n3) r3
        | ro d => exact fun v F Z3 C3 H3 w3 n3 r3 => pi v F Z3 C3 H3 w3 (nc.unbase n3) r3
  · rintro σ2 H2 ⟨Zi, Ci, si, ρi, αi, wi, ni, ri, zi, pi⟩
    rw [List.drop_length] at pi
    exact pi σ2 Zi Ci H2 αi wi ni ri
end
end DN
namespace DN
open PySem PySem.Spec PyProof.Rows L2 RZ ND
variable {B : Sto}
def startE (m : Nat) (ds : List D) : SEnv := ds.map .val ++ List.replicate (m - ds.length) .no
def retF (fl : Fl) : M B D := match fl with
  | .nx _ => M.pure .non
  | .rt d => M.pure d
  | _ => fun _ => .stuck
def runF (m : Nat) (F : SEnv → M B Fl) (ds : List D) : M B D := M.bind (F (startE m ds)) retF
abbrev WD (E : XK) : WX := fun c d _ H => E c d H
section
variable {P : Program} {w : World} {K : PySem.W.Frag} {mg : Str → Option Value} {base : Heap} {cl : CTab}
abbrev CXD (P : Program) (w : World) (K : PySem.W.Frag) (mg : Str → Option Value) (base : Heap) (N : List Str) (qual : Str) (st : Stmt) (f : Addr) (cdv : Value) (A : Around) (outer : List PySem.Env) (s : Shared) (H : Hp) (E : XK) : Cx :=
  cxOf (L2.CX P w) P w K mg base N qual (defScope st) f cdv A outer s H E
theorem start_rel {Z : Zp} {C H H0 : Hp} {ds : List D} {vs : List V} {N : List Str} {α : Nat → Addr → Prop} (r : RepL K cl Z vs ds) : SRel K cl Z C H H0 (startE N.length ds) (L2.start N vs) α := by
  have rl := r.len
  have noown : ∀ (i : Nat) (d : D), (startE N.length ds)[i]? ≠ some (.own d) := fun i d q => by
    unfold startE at q
    by_cases hi : i < ds.length
    · rw [List.getElem?_append_left (by simpa using hi), List.getElem?_map, List.getElem?_eq_getElem hi] at q
      cases q
    · rw [List.getElem?_append_right (by simpa using hi), List.getElem?_replicate] at q
      split at q <;> cases q
  refine ⟨by simp [startE, L2.start, rl], fun i d q => ?_, fun i d q => absurd q (noown i d), fun i d x q => absurd q (noown i d), fun i j d e x q => absurd q (noown i d)⟩
  unfold startE at q
  by_cases hi : i < ds.length
  · rw [List.getElem?_append_left (by simpa using hi), List.getElem?_map] at q
    cases hd : ds[i]? with
    | none => rw [hd] at q; cases q
    | some d' =>
      rw [hd] at q
      cases q
      obtain ⟨v, h1, h2⟩ := r.get hd
      refine ⟨v, ?_, h2⟩
      unfold L2.start
      rw [List.getElem?_append_left (by rw [List.length_map, rl]; exact hi), List.getElem?_map, h1]
      rfl
  · rw [List.getElem?_append_right (by simpa using hi), List.getElem?_replicate] at q
    split at q <;> cases q
theorem fn_ok {x qual : Str} {st : Stmt} {f : Addr} {fd : FuncData} {N ps : List Str} {k n : Nat} {F : SEnv → M B Fl} (G : Fun K x qual st f fd) (S : FnScope N ps (defScope st)) (hn : ps.length = n)
    (hbody : ∀ (cdv : Value) (A : Around) (outer : List PySem.Env) (s : Shared) (H : Hp) (E : XK), Room k (A.deeper (envOfC qual (defScope st) s.heap.objs.size f cdv)) →
      DSs cl B (WD E) (CXD P w K mg base N qual st f cdv A outer s H E) (defBody st) F) :
    FnOk P w K mg base (L2.CX P w) (k + 1) f fd ps (spD K cl B n (runF N.length F)) := by
  refine G.okX S (fun vs H Q E h => spD_len hn vs H Q E h) fun cdv A outer s H vs Q E hr h => ?_
  refine ⟨_, hbody cdv A outer s H E hr, ?_⟩
  obtain ⟨Z, C, sb, ds, wd, r, l, p⟩ := h
  refine ⟨Z, C, H, Z, C, sb, startE N.length ds, fun _ _ => False, wd.ch, wd, .refl .., start_rel r, ?_⟩
  show PostS K cl (WD E) Z C H (F (startE N.length ds) sb) _
  unfold runF M.bind at p
  cases hF : F (startE N.length ds) sb with
  | stuck => simp only [hF] at p; exact p
  | err x s1 =>
    simp only [hF] at p
    exact fun c dx σ Z1 C1 H1 w1 n1 ex => p c dx Z1 C1 H1 w1 n1 ex
  | ok fl s1 =>
    simp only [hF] at p
    cases fl with
    | nx ρ => exact fun σ1 Z1 C1 H1 α1 w1 n1 r1 => p .non Z1 C1 H1 w1 n1 .non
    | rt d => exact fun v Z1 C1 H1 w1 n1 r1 => p v Z1 C1 H1 w1 n1 r1
    | bk ρ => exact False.elim p
    | ct ρ => exact False.elim p
    | ro d => exact False.elim p
theorem takesD {N : List Str} {qual : Str} {st : Stmt} {f : Addr} {cdv : Value} {A : Around} {outer : List PySem.Env} {s : Shared} {H : Hp} {E : XK} : Takes (CXD P w K mg base N qual st f cdv A outer s H E) (WD E) := takes_of rfl rfl rfl rfl
theorem passesD {N : List Str} {qual : Str} {st : Stmt} {f : Addr} {cdv : Value} {A : Around} {outer : List PySem.Env} {s : Shared} {H : Hp} {E : XK} : PassesOwn (model (CXD P w K mg base N qual st f cdv A outer s H E).prog (CXD P w K mg base N qual st f cdv A outer s H E).w) (CXD P w K mg base N qual st f cdv A outer s H E).A (CXD P w K mg base N qual st f cdv A outer s H E).env (CXD P w K mg base N qual st f cdv A outer s H E).xe := passes_of rfl
end
end DN
namespace DN
open PySem PySem.Spec PyProof.Rows L2 RZ ND
def MemR (K : PySem.W.Frag) (cl : CTab) (Z : Zp) (C : Hp) (a : Addr) : D → Prop
  | .lst ds => D.immL ds = true ∧ ∃ vs, C a = some (.lst vs) ∧ vs.length ≤ sizeLine ∧ RepL K cl Z vs ds
  | .dct ks ds => D.immL ds = true ∧ ∃ (o : HO) (kvs : List (GK × V)), C a = some o ∧ DKV cl Z.h a o kvs ∧ ks = kvs.map (fun p => keyD p.1) ∧ KNd kvs ∧ RepL K cl Z (kvs.map (·.2)) ds
  | .ins c ds => D.immL ds = true ∧ ∃ (C0 dx : Addr) (fs : List (Str × V)) (names : List Str), cl c = some (C0, names) ∧ C a = some (.ins C0 dx fs) ∧ fs.map (·.1) = names.take ds.length ∧ RepL K cl Z (fs.map (·.2)) ds
  | .tup [.dct ks ds] => D.immL ds = true ∧ ∃ (od : Obj) (o : HO) (kvs : List (GK × V)), C a = some (.frz od o) ∧ DKV cl Z.h a o kvs ∧ ks = kvs.map (fun p => keyD p.1) ∧ KNd kvs ∧ RepL K cl Z (kvs.map (·.2)) ds
  | _ => False
theorem MemR.mono {K : PySem.W.Frag} {cl : CTab} {Z Z' : Zp} {C C' : Hp} {a : Addr} (ht : ∀ b xs, Z.h b = some (.tup xs) → Z'.h b = some (.tup xs)) (h : ∀ (ds : List D) (vs : List V), D.immL ds = true → RepL K cl Z vs ds → RepL K cl Z' vs ds) (hc : C' a = C a) : ∀ {d : D}, MemR K cl Z C a d → MemR K cl Z' C' a d
  | .lst ds, ⟨i, vs, a, b, c⟩ => ⟨i, vs, hc.trans a, b, h _ _ i c⟩
  | .dct ks ds, ⟨i, o, kvs, a, b, c, n, e⟩ => ⟨i, o, kvs, hc.trans a, b.mono ht, c, n, h _ _ i e⟩
  | .ins c ds, ⟨i, C, dx, fs, ns, a, b, c1, e⟩ => ⟨i, C, dx, fs, ns, a, hc.trans b, c1, h _ _ i e⟩
  | .tup [.dct ks ds], ⟨i, od, o, kvs, a, b, c, n, e⟩ => ⟨i, od, o, kvs, hc.trans a, b.mono ht, c, n, h _ _ i e⟩
theorem MemR.monoI {K : PySem.W.Frag} {cl : CTab} {Z Z' : Zp} {C C' : Hp} {a : Addr} (h : SubI Z Z') (hc : C' a = C a) {d : D} (r : MemR K cl Z C a d) : MemR K cl Z' C' a d := r.mono (fun _ _ q => h.h _ _ rfl q) (fun _ _ i q => q.monoI h _ i) hc
theorem MemR.monoZ {K : PySem.W.Frag} {cl : CTab} {Z Z' : Zp} {C C' : Hp} {a : Addr} (h : SubZ Z Z') (hc : C' a = C a) {d : D} (r : MemR K cl Z C a d) : MemR K cl Z' C' a d := r.mono (fun _ _ q => h.h _ _ q) (fun _ _ _ q => q.mono h) hc
structure Mem where
  m : Nat → Option D
  n : Nat
instance : CoeFun Mem (fun _ => Nat → Option D) := ⟨Mem.m⟩
def updM (s : Mem) (a : Nat) (d : Option D) : Mem := ⟨fun x => if x = a then d else s.m x, s.n⟩
def Mem.push (s : Mem) (d : D) : Mem := ⟨fun x => if x = s.n then some d else s.m x, s.n + 1⟩
structure MemOk (K : PySem.W.Frag) (cl : CTab) (s : Mem) (Z : Zp) (C : Hp) : Prop where
  no : ∀ k, s.m k = none → Z.μ k = none
  yes : ∀ k d, s.m k = some d → ∃ a, Z.μ k = some a ∧ MemR K cl Z C a d
  inj : ∀ i j a, Z.μ i = some a → Z.μ j = some a → i = j
  cov : ∀ a, C a ≠ none → ∃ k, Z.μ k = some a
  nx : ∀ k, s.n ≤ k → s.m k = none
@[reducible] def MemS (K : PySem.W.Frag) (cl : CTab) : Sto where
  T := Mem
  R s Z C := MemOk K cl s Z C
  mono := fun {s Z Z' C} r h => ⟨fun k e => by rw [h.m]; exact r.no k e, fun k d e => by
    obtain ⟨a, h1, h2⟩ := r.yes k d e
    exact ⟨a, by rw [h.m]; exact h1, h2.monoI h rfl⟩, fun i j a => by rw [h.m]; exact r.inj i j a, fun a e => by rw [h.m]; exact r.cov a e, r.nx⟩
def nameZ (Z : Zp) (k : Nat) (p : Addr) : Zp := ⟨Z.h, fun j => if j = k then some p else Z.μ j⟩
theorem nameZ_sub {Z : Zp} {k : Nat} {p : Addr} (h : Z.μ k = none) : SubZ Z (nameZ Z k p) := ⟨.refl _, fun n a e => by
  show (if n = k then some p else Z.μ n) = some a
  rw [if_neg (fun q => by rw [q, h] at e; cases e)]; exact e⟩
section
variable {K : PySem.W.Frag} {cl : CTab} {md : Bool} {Z Z1 : Zp} {C H C1 H1 : Hp} {m : Mem} {a p : Addr} {k : Nat} {d d' : D} {o o' : HO}
theorem mem_at (w : Wd (MemS K cl) md Z C H m) (h : m.m k = some d) : ∃ a, Z.μ k = some a ∧ MemR K cl Z C a d := w.sr.yes k d h
theorem mem_at' (w : Wd (MemS K cl) md Z C H m) (h : m.m k = some d) (e : Z.μ k = some a) : MemR K cl Z C a d := by
  obtain ⟨b, h1, h2⟩ := w.sr.yes k d h
  rw [e] at h1; cases h1; exact h2
theorem MemR.there : ∀ {d : D}, MemR K cl Z C a d → ∃ o, C a = some o
  | .lst _, ⟨_, _, e, _⟩ => ⟨_, e⟩
  | .dct _ _, ⟨_, _, _, e, _⟩ => ⟨_, e⟩
  | .ins _ _, ⟨_, _, _, _, _, _, e, _⟩ => ⟨_, e⟩
  | .tup [.dct _ _], ⟨_, _, _, _, e, _⟩ => ⟨_, e⟩
theorem mem_name (w : Wd (MemS K cl) md Z C H m) (e : Z.μ k = some a) : ∃ d, m.m k = some d ∧ MemR K cl Z C a d := by
  cases q : m.m k with
  | none => rw [w.sr.no k q] at e; cases e
  | some d => exact ⟨d, rfl, mem_at' w q e⟩
theorem mem_putW (w : Wd (MemS K cl) md Z C H m) (hk : Z.μ k = some a) (h : C a = some o) (r : MemR K cl Z (upd C a o') a d') : Wd (MemS K cl) md Z (upd C a o') (upd H a o') (updM m k (some d')) := by
  have za : Z a = none := w.dj a (some_ne h)
  refine ⟨fun x u e => ?_, fun x u e => ?_, fun x e => ?_, ⟨fun j e => ?_, fun j d e => ?_, w.sr.inj, fun x e => ?_, fun j e => ?_⟩⟩
  · rw [upd_ne (ne_of_none e za)]; exact w.zh x u e
  · by_cases hx : x = a
    · rw [hx, upd_same] at e ⊢; exact e
    · rw [upd_ne hx] at e ⊢; exact w.ch x u e
  · by_cases hx : x = a
    · rw [hx]; exact za
    · rw [upd_ne hx] at e; exact w.dj x e
  · have e : (if j = k then some d' else m.m j) = none := e
    split at e
    · cases e
    · exact w.sr.no j e
  · have e : (if j = k then some d' else m.m j) = some d := e
    split at e
    · rename_i q
      cases e; subst q
      exact ⟨a, hk, r⟩
    · rename_i q
      obtain ⟨b, h1, h2⟩ := w.sr.yes j d e
      refine ⟨b, h1, h2.monoZ (.refl _) (upd_ne fun z => ?_)⟩
      subst z
      exact q (w.sr.inj _ _ _ h1 hk)
  · by_cases hx : x = a
    · rw [hx]; exact ⟨k, hk⟩
    · rw [upd_ne hx] at e; exact w.sr.cov x e
  · show (if j = k then some d' else m.m j) = none
    rw [if_neg]
    · exact w.sr.nx j e
    · intro q
      subst q
      rw [w.sr.no j (w.sr.nx j e)] at hk; cases hk
theorem mem_put (w : Wd (MemS K cl) md Z C H m) (hk : Z.μ k = some a) (h : C a = some o) (nf : ∀ od u, o ≠ .frz od u) (r : MemR K cl Z (upd C a o') a d') : Wd (MemS K cl) md Z (upd C a o') (upd H a o') (updM m k (some d')) ∧ Nx Z C H Z (upd C a o') (upd H a o') := by
  refine ⟨mem_putW w hk h r, ⟨.refl _, fun x u e c => ?_, fun x e => .inl e, fun x e => ?_, fun x e => ?_, fun x od u e => (upd_ne (fun z => by rw [z, h] at e; exact nf od u (Option.some.inj e))).trans e⟩⟩
  · rw [upd_ne (fun z => by rw [z, h] at c; cases c)]; exact e
  · by_cases hx : x = a
    · rw [hx]; exact .inl (some_ne h)
    · rw [upd_ne hx] at e; exact .inl e
  · by_cases hx : x = a
    · rw [hx, upd_same]; exact fun z => nomatch z
    · rw [upd_ne hx]; exact e
theorem mem_free (w : Wd (MemS K cl) md Z C H m) : Z.μ m.n = none := w.sr.no _ (w.sr.nx _ (Nat.le_refl _))
theorem mem_new (w : Wd (MemS K cl) md Z C H m) (hp : H p = none) {H2 : Hp} (h2 : Sub H H2) (h3 : H2 p = some o) (r : MemR K cl (nameZ Z m.n p) (upd C p o) p d) :
    Wd (MemS K cl) md (nameZ Z m.n p) (upd C p o) H2 (m.push d) ∧ Nx Z C H (nameZ Z m.n p) (upd C p o) H2 := by
  have zp := none_of_sub w.zh hp
  have cp := none_of_sub w.ch hp
  have np : ∀ j, Z.μ j ≠ some p := fun j e => by
    obtain ⟨_, _, h⟩ := mem_name w e
    obtain ⟨o, ho⟩ := h.there
    rw [cp] at ho; cases ho
  refine ⟨⟨fun x u e => h2 x u (w.zh x u e), fun x u e => ?_, fun x e => ?_, ⟨fun j e => ?_, fun j d e => ?_, fun i j a => ?_, fun x e => ?_, fun j e => ?_⟩⟩, ⟨nameZ_sub (mem_free w), fun x u e c => h2 x u e, fun x e => .inl e, fun x e => ?_, fun x e => ?_, fun x od u e => (upd_ne (fun z => by rw [z, cp] at e; cases e)).trans e⟩⟩
  · by_cases hx : x = p
    · rw [hx, upd_same] at e; rw [hx, h3]; exact e
    · rw [upd_ne hx] at e; exact h2 x u (w.ch x u e)
  · by_cases hx : x = p
    · rw [hx]; exact zp
    · rw [upd_ne hx] at e; exact w.dj x e
  · have e : (if j = m.n then some d else m.m j) = none := e
    show (if j = m.n then some p else Z.μ j) = none
    split at e
    · cases e
    · rename_i q; rw [if_neg q]; exact w.sr.no j e
  · rename_i d2
    have e : (if j = m.n then some d2 else m.m j) = some d := e
    show ∃ a, (if j = m.n then some p else Z.μ j) = some a ∧ _
    split at e
    · rename_i q
      cases e
      exact ⟨p, by rw [if_pos q], r⟩
    · rename_i q
      obtain ⟨b, h1, h4⟩ := w.sr.yes j d e
      refine ⟨b, by rw [if_neg q]; exact h1, h4.monoZ (nameZ_sub (mem_free w)) (upd_ne fun z => ?_)⟩
      subst z
      exact np _ h1
  · show (if i = m.n then some p else Z.μ i) = some a → (if j = m.n then some p else Z.μ j) = some a → i = j
    intro e1 e2
    by_cases hi : i = m.n
    · by_cases hj : j = m.n
      · rw [hi, hj]
      · rw [if_pos hi] at e1; rw [if_neg hj] at e2; cases e1; exact absurd e2 (np j)
    · by_cases hj : j = m.n
      · rw [if_neg hi] at e1; rw [if_pos hj] at e2; cases e2; exact absurd e1 (np i)
      · rw [if_neg hi] at e1; rw [if_neg hj] at e2; exact w.sr.inj _ _ _ e1 e2
  · by_cases hx : x = p
    · exact ⟨m.n, by rw [hx]; exact if_pos rfl⟩
    · rw [upd_ne hx] at e
      obtain ⟨k, hk⟩ := w.sr.cov x e
      exact ⟨k, (nameZ_sub (mem_free w)).m _ _ hk⟩
  · show (if j = m.n then some d else m.m j) = none
    have e : m.n + 1 ≤ j := e
    rw [if_neg (by omega)]
    exact w.sr.nx j (by omega)
  · by_cases hx : x = p
    · rw [hx]; exact .inr hp
    · rw [upd_ne hx] at e; exact .inl e
  · by_cases hx : x = p
    · rw [hx, upd_same]; exact fun z => nomatch z
    · rw [upd_ne hx]; exact e
end
def rdM {K : PySem.W.Frag} {cl : CTab} (a : Nat) : M (MemS K cl) D := fun m => match m.m a with
  | some d => .ok d m
  | none => .stuck
def ixM {K : PySem.W.Frag} {cl : CTab} (x y : D) : M (MemS K cl) D := match x with
  | .ref a => M.bind (rdM a) fun l => lift (match l, y with
    | .lst ds, .int i => atI ds i
    | _, _ => none)
  | x => lift (ixD x y)
def lenM {K : PySem.W.Frag} {cl : CTab} (x : D) : M (MemS K cl) D := match x with
  | .ref a => M.bind (rdM a) fun l => lift (match l with
    | .lst ds => some (.int ds.length)
    | _ => none)
  | _ => fun _ => .stuck
section
variable {cl : CTab} {md : Bool} {W : WX} {X : Cx}
theorem de_ixM {a b : Expr} {f1 f2 : Env → M (MemS X.K cl) D} {pos : Pos} (ha : DE cl (MemS X.K cl) md W X a f1) (hb : DE cl (MemS X.K cl) md W X b f2) (hs : PlainIx b := by exact fun _ _ => rfl) :
    DE cl (MemS X.K cl) md W X (.Subscript a b pos) fun ρ => M.bind (f1 ρ) fun x => M.bind (f2 ρ) fun y => match x with
      | .ref a => ixM (.ref a) y
      | _ => fun _ => .stuck := by
  refine PE.weak (pe_ix ix_seq ha hb hs) fun σ H Q ⟨Z, C, s, ρ, w, e, p⟩ => ?_
  refine ⟨Z, C, s, ρ, w, e, Post.seq w.ch p fun dx s1 x Z1 C1 H1 w1 n1 r1 p1 => ?_⟩
  refine ⟨Z1, C1, s1, ρ, w1, e.mono n1.zz, Post.seq w1.ch p1 fun dy s2 y Z2 C2 H2 w2 n2 r2 p2 => ?_⟩
  cases dx <;> (try (exact False.elim p2))
  rename_i ad
  unfold ixM rdM M.bind at p2
  cases hm : s2.m ad with
  | none => simp only [hm] at p2; exact False.elim p2
  | some l =>
    simp only [hm] at p2
    cases r1 with | ref e1 =>
    have mr := mem_at' w2 hm (n2.zz.m _ _ e1)
    cases l <;> (try (exact False.elim p2))
    cases dy <;> (try (exact False.elim p2))
    obtain ⟨im, vs, h1, h2, h3⟩ := mr
    cases r2
    obtain ⟨d, hd, q⟩ := post_lift w2 p2
    obtain ⟨v, h4, h5⟩ := atI_rep h3 hd
    exact .inl ⟨_, _, _, v, rfl, rfl, SqL.of (w2.ch _ _ h1), h4, q v Z2 H2 (.refl w2.zh) h5⟩
theorem de_lenM {a : Expr} {f : Env → M (MemS X.K cl) D} {p pos : Pos} (hg : Gl X "len") (hm : X.mg "len" = none) (ha : DE cl (MemS X.K cl) md W X a f)
    (he : starEach [a] X.env = (false, eval a X.env) :: starEach [] X.env := by rfl) (hpl : (backTo pos (starEach [] X.env)).any (·.1) = false := by rfl) :
    DE cl (MemS X.K cl) md W X (.Call (.Name "len" p) [a] [] pos) fun ρ => M.bind (f ρ) fun x => lenM x := by
  refine PE.weak (pe_callB call_len_seq hg hm PySem.boot_len (pa_cons ha pa_nil he) (by decide) (by decide) he hpl) fun σ H Q ⟨Z, C, s, ρ, w, e, p⟩ => ?_
  refine ⟨Z, C, s, ρ, w, e, Post.seq w.ch p fun dx s1 x Z1 C1 H1 w1 n1 r1 p1 => ?_⟩
  cases dx <;> (try (exact False.elim p1))
  rename_i ad
  unfold lenM rdM M.bind at p1
  cases hm2 : s1.m ad with
  | none => simp only [hm2] at p1; exact False.elim p1
  | some l =>
    simp only [hm2] at p1
    cases r1 with | ref e1 =>
    rename_i av
    have mr := mem_at' w1 hm2 e1
    cases l <;> (try (exact False.elim p1))
    obtain ⟨im, vs, h1, h2, h3⟩ := mr
    obtain ⟨d, hd, q⟩ := post_lift w1 p1
    cases hd
    refine ⟨av, vs, rfl, .inl (SqL.of (w1.ch _ _ h1)), ?_⟩
    have := q (.int vs.length) Z1 H1 (.refl w1.zh) (by rw [h3.len]; exact .int _)
    exact this
end
end DN
namespace DN
open PySem PySem.Spec PyProof.Rows L2 RZ ND
section
variable {X : Cx} {CX : CXT} {k : Nat} {f C : Addr} {fd : FuncData} {ps : List Str} {sp : Sp} {E : L2.St → XK} {x m : Str} {p pos apos : Pos} {e o : Expr} {es : List Expr} {ta : TE} {t : TA}
def tMethS (C : Addr) (m : Str) (sp : Sp) (E : L2.St → XK) (ta : TE) (t : TA) : TE := fun σ H Q => ta σ H fun x H1 => ∃ a dx fs, x = .ref a ∧ H1 a = some (.ins C dx fs) ∧ fs.lookup m = none ∧
  t σ H1 fun vs H2 => sp (x :: vs) H2 Q (E σ)
theorem pe_methS {pl : Sem Bool} (he : PE X o ta) (c : Cls X.K C) (hm : Meth X.K C m f) (F : FnOk X.prog X.w X.K X.mg X.base CX k f fd ps sp) (hr : Room k X.A) (hb : Binds X.K fd ps []) (hx : ∀ σ, PassesAt CX X σ (E σ)) (ha : PA X (e :: es) t)
    (hst : starEach (e :: es) X.env = (false, eval e X.env) :: starEach es X.env := by rfl) (hpl : (backTo pos (starEach es X.env)).any (·.1) = false := by rfl)
    (ht : eval (.Call (.Attribute o m apos) (e :: es) [] pos) X.env = (do
      let ov ← eval o X.env
      standAt apos.atName
      let (f, first) ← holding [ov] (getMethod ov m pl)
      callWith pos f first (backTo pos (starEach (e :: es) X.env)) (backToKw pos (keywordEach [] X.env))) := by rfl) :
    PE X (.Call (.Attribute o m apos) (e :: es) [] pos) (tMethS C m sp E ta t) := by
  refine ⟨fun pins s σ H Q I h => ?_⟩
  refine PySem.W.methodCall_KW (pl := pl) (thn (he.run pins s σ H _ I h) fun u s1 ⟨x, H1, I1, rx, a, dx, fs, ex, ea, l, q⟩ => ?_) ht
  subst ex
  obtain rfl : u = Value.ref a := rx
  refine getmeth_ok I1 ea c hm l ?_
  refine PySem.W.callWith_K (first := [.ref a]) (h₀ := X.base) I.ok.mod.kin hm.kp (thn (ha.run pos pins s1 σ H1 _ I1 q) fun us s2 ⟨vs, H2, I2, r, q2⟩ => ⟨I2.kIn, ?_⟩) hst hpl
  exact run_fnS (us := .ref a :: us) (vs := .ref a :: vs) F hr hb (hx σ) I2 (.cons rfl r) q2
def tMakeS (C : Addr) (sp : Sp) (E : L2.St → XK) (t : TA) : TE := fun σ H Q => t σ H fun vs H1 => ∀ x dx, H1 x = none → H1 dx = none → dx ≠ x →
  sp (.ref x :: vs) (upd (upd H1 dx (.own x)) x (.ins C dx [])) (fun v H2 => v = .non ∧ Q (.ref x) H2) (E σ)
theorem run_makeS {pins : List (Addr × Obj)} {σ : L2.St} {H : Hp} {s : Shared} {Q : VK} {us : List Value} {vs : List V} (M : Mk X.K C f) (F : FnOk X.prog X.w X.K X.mg X.base CX k f fd ps sp) (hr : Room (k + 1) X.A) (hb : Binds X.K fd ps [])
    (hx : PassesAt CX X σ (E σ)) (I : Inv X pins σ H s) (r : Vals vs us)
    (h : ∀ x dx, H x = none → H dx = none → dx ≠ x → sp (.ref x :: vs) (upd (upd H dx (.own x)) x (.ins C dx [])) (fun v H2 => v = .non ∧ Q (.ref x) H2) (E σ)) :
    wpAny (model X.prog X.w) X.A (call (.ref C) us) (EP X pins σ Q) X.xe s := by
  have hq := h (s.heap.objs.size + 1) s.heap.objs.size (I.hok.fresh (Nat.le_succ _)) (I.hok.fresh (Nat.le_refl _)) (Nat.ne_of_lt (Nat.lt_succ_self _))
  have I2 := Inv.made (C := C) I
  have r2 : Vals (V.ref (s.heap.objs.size + 1) :: vs) (Value.ref (s.heap.objs.size + 1) :: us) := .cons rfl r
  have hl : (Value.ref (s.heap.objs.size + 1) :: us ++ []).length = ps.length := by
    have e := r2.length
    rw [F.len _ _ _ _ hq] at e
    rw [List.append_nil]
    exact e.symm
  have b := hb _ (Value.ref (s.heap.objs.size + 1) :: us) I2.kIn hl
  rw [List.append_nil] at b
  refine wpAny_call (make_map (f := f) I.kIn M.makes M.init (beq_iff_eq.mp M.fn) (codeAny_mono (F.run _ X.stack _ _ ⟨Value.ref (s.heap.objs.size + 1) :: us, []⟩ (Value.ref (s.heap.objs.size + 1) :: us) _ _ (E σ) (hr.make C us [])
    (I2.env0.make C us []) b r2 hq) fun r s' hq' => ?_))
  cases r with
  | error e => exact hx pins _ _ e s' I2 hq'
  | ok fl =>
    cases fl with
    | ret u =>
      obtain ⟨v, H', I3, rv, ev, q3⟩ := I2.after hq'
      subst ev
      exact ⟨rv, ⟨V.ref (s.heap.objs.size + 1), H', I3, rfl, q3⟩⟩
    | next => exact False.elim hq'
    | brk => exact False.elim hq'
    | cont => exact False.elim hq'
theorem pe_makeS (M : Mk X.K C f) (F : FnOk X.prog X.w X.K X.mg X.base CX k f fd ps sp) (hr : Room (k + 1) X.A) (hg : Gl X x) (hm : X.mg x = some (.ref C)) (hb : Binds X.K fd ps []) (hx : ∀ σ, PassesAt CX X σ (E σ))
    (ha : PA X (e :: es) t) (hdb : (x == ("__debug__" : Str)) = false := by decide) (he : starEach (e :: es) X.env = (false, eval e X.env) :: starEach es X.env := by rfl) (hpl : (backTo pos (starEach es X.env)).any (·.1) = false := by rfl) :
    PE X (.Call (.Name x p) (e :: es) [] pos) (tMakeS C sp E t) := by
  refine ⟨fun pins s σ H Q I h => ?_⟩
  refine wpAny_Call_Name_kw (ld_glob I hg hm ?_ hdb)
  refine PySem.W.callWith_K (h₀ := X.base) I.ok.mod.kin M.kp (thn (ha.run pos pins s σ H _ I h) fun us s1 ⟨vs, H1, I1, r, q⟩ => ⟨I1.kIn, ?_⟩) he hpl
  exact run_makeS M F hr hb (hx σ) I1 r q
end
theorem lookup_at {f : Str} {v : V} : ∀ {fs : List (Str × V)} {ns : List Str} {i : Nat}, fs.map (·.1) = ns → ns.Nodup → ns[i]? = some f → (fs.map (·.2))[i]? = some v → fs.lookup f = some v
  | [], _, i, e, _, h, _ => by subst e; simp at h
  | (g, u) :: fs, _, 0, e, nd, h, hv => by
    subst e
    simp at h hv
    subst h; subst hv
    simp [List.lookup]
  | (g, u) :: fs, _, i + 1, e, nd, h, hv => by
    subst e
    rw [List.map_cons, List.nodup_cons] at nd
    have h' : (fs.map (·.1))[i]? = some f := by simpa using h
    have hne : (f == g) = false := by
      rw [beq_eq_false_iff_ne]
      intro z
      subst z
      exact nd.1 (List.mem_of_getElem? h')
    rw [List.lookup, hne]
    exact lookup_at (fs := fs) rfl nd.2 h' (by simpa using hv)
theorem lookup_no {f : Str} : ∀ {fs : List (Str × V)} {ns : List Str} {n : Nat}, fs.map (·.1) = ns.take n → f ∉ ns → fs.lookup f = none := by
  intro fs ns n e h
  have h2 : f ∉ fs.map (·.1) := fun z => h (List.mem_of_mem_take (by rw [← e]; exact z))
  clear e h
  induction fs with
  | nil => rfl
  | cons p fs ih =>
    rw [List.map_cons, List.mem_cons, not_or] at h2
    have hne : (f == p.1) = false := by rw [beq_eq_false_iff_ne]; exact h2.1
    show List.lookup f ((p.1, p.2) :: fs) = none
    rw [List.lookup, hne]
    exact ih h2.2
theorem putF_new {f : Str} {v : V} : ∀ {fs : List (Str × V)}, f ∉ fs.map (·.1) → putF f v fs = fs ++ [(f, v)]
  | [], _ => rfl
  | (g, u) :: fs, h => by
    rw [List.map_cons, List.mem_cons, not_or] at h
    show (if g = f then _ else _) = _
    rw [if_neg (fun z => h.1 z.symm), putF_new h.2]
    rfl
structure FldAt (K : PySem.W.Frag) (cl : CTab) (c : Str) (f : Str) (i : Nat) : Prop where
  ex : ∃ C names, cl c = some (C, names) ∧ names[i]? = some f ∧ names.Nodup ∧ names.length < 1000 ∧ Cls K C ∧ NoAttr K C f
def fldM {K : PySem.W.Frag} {cl : CTab} (c : Str) (i : Nat) (x : D) : M (MemS K cl) D := match x with
  | .ins c' ds => lift (if c' = c then ds[i]? else none)
  | .ref a => M.bind (rdM a) fun l => lift (match l with
    | .ins c' ds => if c' = c then ds[i]? else none
    | _ => none)
  | _ => fun _ => .stuck
def setfM {K : PySem.W.Frag} {cl : CTab} (c : Str) (i : Nat) (x d : D) : M (MemS K cl) Unit := fun m => match x with
  | .ref a => match m.m a with
    | some (.ins c' ds) => if c' = c ∧ d.imm = true ∧ i = ds.length then .ok () (updM m a (some (.ins c (ds ++ [d])))) else .stuck
    | _ => .stuck
  | _ => .stuck
section
variable {cl : CTab} {md : Bool} {W : WX} {X : Cx} {p : D → Bool}
def setM {K : PySem.W.Frag} {cl : CTab} (x y d : D) : M (MemS K cl) Unit := fun m => match x, y with
  | .ref a, .int k => match m.m a with
    | some (.lst ds) => match ixN ds.length k with
      | some j => if d.imm = true then .ok () (updM m a (some (.lst (ds.set j d)))) else .stuck
      | none => .stuck
    | _ => .stuck
  | _, _ => .stuck
theorem immL_set {d : D} (h : d.imm = true) : ∀ {ds : List D} (j : Nat), D.immL ds = true → D.immL (ds.set j d) = true
  | [], _, e => e
  | x :: xs, 0, e => by
    have e2 : x.imm = true ∧ D.immL xs = true := by simpa [D.immL] using e
    simp [D.immL, h, e2.2]
  | x :: xs, j + 1, e => by
    have e2 : x.imm = true ∧ D.immL xs = true := by simpa [D.immL] using e
    simp [D.immL, e2.1, immL_set h j e2.2]
theorem immL_app {d : D} (h : d.imm = true) : ∀ {ds : List D}, D.immL ds = true → D.immL (ds ++ [d]) = true
  | [], e => by simp [D.immL, h]
  | x :: xs, e => by
    have e2 : x.imm = true ∧ D.immL xs = true := by simpa [D.immL] using e
    simp [D.immL, e2.1, immL_app h e2.2]
theorem ds_setM {o i e : Expr} {f fo fi : Env → M (MemS X.K cl) D} {tpos pos : Pos} (sp : See p md) (he : DE cl (MemS X.K cl) md W X e f) (ho : DE cl (MemS X.K cl) true W X o fo) (hi : DE cl (MemS X.K cl) true W X i fi)
    (hs : swapsWithSole [.Subscript o i tpos] e pos.line X.env = pure false := by rfl) (hw : swappedStores [.Subscript o i tpos] e X.env = pure none := by rfl) (h1 : (assignEach [.Subscript o i tpos] X.env).map (·.2) = [assign (.Subscript o i tpos) X.env] := by rfl)
    (ha : ∀ v, assign (.Subscript o i tpos) X.env v = (do
      let ov ← holding [v] (eval o X.env)
      let iv ← holding [v, ov] (eval i X.env)
      standAt tpos
      holding [v, ov, iv] (setItem ov iv v)
      release [v, ov, iv] []) := by intro _; rfl) :
    DS cl (MemS X.K cl) W X (.Assign [.Subscript o i tpos] e pos) fun ρ => M.bind (f (seeE p ρ)) fun d => M.bind (fo (seeE pHide ρ)) fun x => M.bind (fi (seeE pHide ρ)) fun y => M.bind (setM x y d) fun _ => M.pure (.nx ρ) := by
  refine PS.weak (ps_asg he (pg_sub ho hi set_list ha) hs hw h1) fun E σ H ⟨Z0, C0, H0, Z, C, s, ρ, α, c0, w, n, r, q⟩ => ?_
  refine ⟨seeZ p ρ α Z H, C, s, seeE p ρ, see_wd w r sp.nd, see_env sp r, PostS.seq sp w c0 n r q fun d s1 v Z1 C1 H1 w1 n1 r1 q1 => ?_⟩
  have u := see_un sp w c0 n r w1 n1
  have r1i : d.imm = true → Rep X.K cl (unZ p ρ α Z1) v d := fun h => r1.monoI u.imm d h
  have uw := u.wd; have un := u.nx; have ur := u.rel
  generalize unZ p ρ α Z1 = Zu at uw un ur r1i
  refine ⟨seeZ pHide ρ α Zu H1, C1, s1, seeE pHide ρ, see_wd uw ur seeHide.nd, see_env seeHide ur, PostS.seq seeHide uw c0 un ur q1 fun x s2 vx Z2 C2 H2 w2 n2 r2 q2 => ?_⟩
  have u2 := see_un seeHide uw c0 un ur w2 n2
  have uw2 := u2.wd; have un2 := u2.nx; have ur2 := u2.rel
  rw [seeZ_hide pHide_no] at n2
  rw [unZ_hide pHide_no] at uw2 un2 ur2
  refine ⟨seeZ pHide ρ α Z2 H2, C2, s2, seeE pHide ρ, see_wd uw2 ur2 seeHide.nd, see_env seeHide ur2, PostS.seq seeHide uw2 c0 un2 ur2 q2 fun y s3 vy Z3 C3 H3 w3 n3 r3 q3 => ?_⟩
  have u3 := see_un seeHide uw2 c0 un2 ur2 w3 n3
  have uw3 := u3.wd; have un3 := u3.nx; have ur3 := u3.rel
  rw [seeZ_hide pHide_no] at n3
  rw [unZ_hide pHide_no] at uw3 un3 ur3
  unfold setM M.bind at q3
  cases x <;> (try (exact False.elim q3))
  rename_i ad0
  cases y <;> (try (exact False.elim q3))
  rename_i kk
  cases hm : s3.m ad0 with
  | none => simp only [hm] at q3; exact False.elim q3
  | some l =>
    cases l <;> (simp only [hm] at q3; try (exact False.elim q3))
    rename_i ds
    cases hj : ixN ds.length kk with
    | none => simp only [hj] at q3; exact False.elim q3
    | some j =>
      by_cases hd : d.imm = true
      · simp only [hj, hd, if_true] at q3
        cases r3
        cases r2 with | ref er2 =>
        rename_i ad
        have er3 := n3.zz.m _ _ er2
        obtain ⟨im, vs, e1, e2, e3⟩ := mem_at' uw3 hm er3
        have rd : Rep X.K cl Z3 v d := ((r1i hd).mono n2.zz).mono n3.zz
        refine ⟨ad, vs, kk, j, rfl, rfl, uw3.ch _ _ e1, by rw [e3.len]; exact hj, ?_⟩
        have mr : MemR X.K cl Z3 (upd C3 ad (.lst (vs.set j v))) ad (.lst (ds.set j d)) := ⟨immL_set hd j im, _, upd_same, by rw [List.length_set]; exact e2, e3.set rd j⟩
        obtain ⟨w4, n4⟩ := mem_put (o' := .lst (vs.set j v)) uw3 er3 e1 (fun _ _ z => nomatch z) mr
        refine q3 σ Z3 _ _ α w4 (un3.trans c0 uw3.ch n4) (ur3.move (.refl _) (fun a b x o c hx ho => ?_) (fun a b x c hx => (ur3.fp a b x c hx).2.1) fun a b x c hx => ?_)
        · have h4 := (ur3.fp a b x c hx).2.2.1
          have hne : x ≠ ad := fun z => by rw [z, e1] at h4; cases h4
          rw [upd_ne hne]; exact ho
        · have h4 := (ur3.fp a b x c hx).2.2.1
          have hne : x ≠ ad := fun z => by rw [z, e1] at h4; cases h4
          rw [upd_ne hne]; exact h4
      · simp only [hj, if_neg hd] at q3; exact False.elim q3
theorem ds_setf {o e : Expr} {f fo : Env → M (MemS X.K cl) D} {c fl : Str} {i : Nat} {tpos pos : Pos} (FA : FldAt X.K cl c fl i) (sp : See p md) (he : DE cl (MemS X.K cl) md W X e f) (ho : DE cl (MemS X.K cl) true W X o fo)
    (hs : swapsWith e (some (.Attribute o fl tpos)) pos.line X.env = pure false := by rfl) :
    DS cl (MemS X.K cl) W X (.Assign [.Attribute o fl tpos] e pos) fun ρ => M.bind (f (seeE p ρ)) fun d => M.bind (fo (seeE pHide ρ)) fun x => M.bind (setfM c i x d) fun _ => M.pure (.nx ρ) := by
  obtain ⟨C5, names, hc, hi, nd, hk, C6, NA⟩ := FA.ex
  refine PS.weak (ps_fld ho he hs) fun E σ H ⟨Z0, C0, H0, Z, C, s, ρ, α, c0, w, n, r, q⟩ => ?_
  refine ⟨seeZ p ρ α Z H, C, s, seeE p ρ, see_wd w r sp.nd, see_env sp r, PostS.seq sp w c0 n r q fun d s1 v Z1 C1 H1 w1 n1 r1 q1 => ?_⟩
  have u := see_un sp w c0 n r w1 n1
  have r1i : d.imm = true → Rep X.K cl (unZ p ρ α Z1) v d := fun h => r1.monoI u.imm d h
  have uw := u.wd; have un := u.nx; have ur := u.rel
  generalize unZ p ρ α Z1 = Zu at uw un ur r1i
  refine ⟨seeZ pHide ρ α Zu H1, C1, s1, seeE pHide ρ, see_wd uw ur seeHide.nd, see_env seeHide ur, PostS.seq seeHide uw c0 un ur q1 fun x s2 vx Z2 C2 H2 w2 n2 r2 q2 => ?_⟩
  have u2 := see_un seeHide uw c0 un ur w2 n2
  have uw2 := u2.wd; have un2 := u2.nx; have ur2 := u2.rel
  rw [seeZ_hide pHide_no] at n2
  rw [unZ_hide pHide_no] at uw2 un2 ur2
  unfold setfM M.bind at q2
  cases x <;> (try (exact False.elim q2))
  rename_i ad0
  cases hm : s2.m ad0 with
  | none => simp only [hm] at q2; exact False.elim q2
  | some l =>
    cases l <;> (simp only [hm] at q2; try (exact False.elim q2))
    rename_i c' ds
    by_cases hd : c' = c ∧ d.imm = true ∧ i = ds.length
    · simp only [if_pos hd] at q2
      obtain ⟨rfl, hd, hil⟩ := hd
      cases r2 with | ref er2 =>
      rename_i ad
      obtain ⟨im, C7, dx, fs, ns, e0, e1, e2, e3⟩ := mem_at' uw2 hm er2
      rw [hc] at e0
      obtain ⟨rfl, rfl⟩ : C7 = _ ∧ ns = names := by
        have := Option.some.inj e0
        rw [Prod.mk.injEq] at this
        exact ⟨this.1.symm, this.2.symm⟩
      have rd : Rep X.K cl Z2 v d := (r1i hd).mono n2.zz
      have hlen : fs.length = ds.length := by have := e3.len; rw [List.length_map] at this; exact this
      have hin : ds.length < ns.length := by rw [← hil]; exact (List.getElem?_eq_some_iff.mp hi).1
      have hnew : fl ∉ fs.map (·.1) := by
        rw [e2]
        intro z
        obtain ⟨j, hj⟩ := List.mem_iff_getElem?.mp z
        have hjl : j < (ns.take ds.length).length := (List.getElem?_eq_some_iff.mp hj).1
        rw [List.length_take] at hjl
        have hj2 : j < ds.length := by omega
        rw [List.getElem?_take_of_lt hj2] at hj
        have hjn : j < ns.length := by omega
        have := (List.pairwise_iff_getElem.mp nd) j ds.length hjn hin hj2
        have z1 : ns[j] = fl := Option.some.inj ((List.getElem?_eq_getElem hjn).symm.trans hj)
        have z2 : ns[ds.length] = fl := Option.some.inj ((List.getElem?_eq_getElem hin).symm.trans (by rw [← hil]; exact hi))
        exact this (z1.trans z2.symm)
      refine ⟨ad, _, dx, fs, rfl, uw2.ch _ _ e1, by assumption, NA, by omega, ?_⟩
      rw [putF_new hnew]
      have mr : MemR X.K cl Z2 (upd C2 ad (.ins C7 dx (fs ++ [(fl, v)]))) ad (.ins c' (ds ++ [d])) := ⟨immL_app hd im, C7, dx, _, ns, hc, upd_same, by
        rw [List.map_append, e2, List.length_append, List.length_singleton, List.take_add_one, ← hil, hi]
        rfl, by rw [List.map_append]; exact e3.append (.cons rd .nil)⟩
      obtain ⟨w4, n4⟩ := mem_put (o' := .ins C7 dx (fs ++ [(fl, v)])) uw2 er2 e1 (fun _ _ z => nomatch z) mr
      refine q2 σ Z2 _ _ α w4 (un2.trans c0 uw2.ch n4) (ur2.move (.refl _) (fun a b x o c hx ho => ?_) (fun a b x c hx => (ur2.fp a b x c hx).2.1) fun a b x c hx => ?_)
      · have h4 := (ur2.fp a b x c hx).2.2.1
        have hne : x ≠ ad := fun z => by rw [z, e1] at h4; cases h4
        rw [upd_ne hne]; exact ho
      · have h4 := (ur2.fp a b x c hx).2.2.1
        have hne : x ≠ ad := fun z => by rw [z, e1] at h4; cases h4
        rw [upd_ne hne]; exact h4
    · simp only [if_neg hd] at q2; exact False.elim q2
end
end DN
namespace DN
open PySem PySem.Spec PyProof.Rows L2 RZ ND
def insM {K : PySem.W.Frag} {cl : CTab} (c : Str) (x : D) : M (MemS K cl) Unit := match x with
  | .ins c' _ => if c' = c then M.pure () else fun _ => .stuck
  | .ref a => M.bind (rdM a) fun l => match l with
    | .ins c' _ => if c' = c then M.pure () else fun _ => .stuck
    | _ => fun _ => .stuck
  | _ => fun _ => .stuck
structure MethAt (K : PySem.W.Frag) (cl : CTab) (c m : Str) (g : Addr) : Prop where
  ex : ∃ C names, cl c = some (C, names) ∧ m ∉ names ∧ Cls K C ∧ Meth K C m g
inductive IR where
  | ok (fs : List D) | err (x : Exn) (fs : List D) | stuck
def era (C : Hp) (p : Addr) : Hp := fun x => if x = p then none else C x
theorem era_ne {C : Hp} {p x : Addr} (h : x ≠ p) : era C p x = C x := if_neg h
theorem era_self {C : Hp} {p : Addr} : era C p p = none := if_pos rfl
mutual
def D.pur : D → Bool
  | .tup xs => D.purL xs
  | .lst _ => false
  | .dct _ _ => false
  | .ins _ xs => D.purL xs
  | .ref _ => false
  | _ => true
def D.purL : List D → Bool
  | [] => true
  | d :: ds => d.pur && D.purL ds
end
mutual
theorem D.pur_imm : ∀ (d : D), d.pur = true → d.imm = true
  | .non, _ => rfl
  | .bl _, _ => rfl
  | .int _, _ => rfl
  | .str _, _ => rfl
  | .tup ds, h => D.purL_imm ds h
  | .lst _, h => nomatch h
  | .dct _ _, h => nomatch h
  | .ins _ ds, h => D.purL_imm ds h
  | .ref _, h => nomatch h
theorem D.purL_imm : ∀ (ds : List D), D.purL ds = true → D.immL ds = true
  | [], _ => rfl
  | d :: ds, h => by
    have h2 : d.pur = true ∧ D.purL ds = true := by simpa [D.purL] using h
    simp [D.immL, D.pur_imm d h2.1, D.purL_imm ds h2.2]
end
mutual
def D.nor (k : Nat) : D → Bool
  | .tup xs => D.norL k xs
  | .lst xs => D.norL k xs
  | .dct _ xs => D.norL k xs
  | .ins _ xs => D.norL k xs
  | .ref j => !decide (j = k)
  | _ => true
def D.norL (k : Nat) : List D → Bool
  | [] => true
  | d :: ds => d.nor k && D.norL k ds
end
section
variable {K : PySem.W.Frag} {cl : CTab} {Z Z' : Zp} {k : Nat}
mutual
theorem rep_nor (h : Z.μ k = none) : ∀ (d : D) {v : V}, Rep K cl Z v d → d.nor k = true
  | .non, _, _ => rfl
  | .bl _, _, _ => rfl
  | .int _, _, _ => rfl
  | .str _, _, _ => rfl
  | .tup ds, _, r => by cases r with | tup a e b => exact repL_nor h ds b
  | .lst ds, _, r => by cases r with | slst a e b => exact repL_nor h ds b
  | .dct ks ds, _, r => by cases r with | dct a o e n b => exact repL_nor h ds b
  | .ins c ds, _, r => by cases r with | ins e a b => exact repL_nor h ds b
  | .ref j, _, r => by
    cases r with
    | ref e =>
      show (!decide (j = k)) = true
      rw [decide_eq_false (fun q => by rw [q, h] at e; cases e)]
      rfl
theorem repL_nor (h : Z.μ k = none) : ∀ (ds : List D) {vs : List V}, RepL K cl Z vs ds → D.norL k ds = true
  | [], _, _ => rfl
  | d :: ds, _, r => by cases r with | cons a b => simp [D.norL, rep_nor h d a, repL_nor h ds b]
end
mutual
theorem nor_rep (hh : Sub Z.h Z'.h) (hm : ∀ j a, j ≠ k → Z.μ j = some a → Z'.μ j = some a) : ∀ (d : D) {v : V}, d.nor k = true → Rep K cl Z v d → Rep K cl Z' v d
  | .non, _, _, r => by cases r; exact .non
  | .bl b, _, _, r => by cases r; exact .bl b
  | .int i, _, _, r => by cases r; exact .int i
  | .str x, _, _, r => by cases r with | str e f => exact .str e f
  | .tup ds, _, i, r => by cases r with | tup a e b => exact .tup (hh _ _ a) e (nor_repL hh hm ds i b)
  | .lst ds, _, i, r => by cases r with | slst a e b => exact .slst (a.sub hh) e (nor_repL hh hm ds i b)
  | .dct ks ds, _, i, r => by cases r with | dct a o e n b => exact .dct (sub_rdn hh a) (o.mono fun _ _ q => hh _ _ q) e n (nor_repL hh hm ds i b)
  | .ins c ds, _, i, r => by cases r with | ins e a b => exact .ins e (hh _ _ a) (nor_repL hh hm ds i b)
  | .ref j, _, i, r => by
    cases r with
    | ref e =>
      refine .ref (hm _ _ (fun q => ?_) e)
      have i : (!decide (j = k)) = true := i
      rw [q] at i
      simp at i
theorem nor_repL (hh : Sub Z.h Z'.h) (hm : ∀ j a, j ≠ k → Z.μ j = some a → Z'.μ j = some a) : ∀ (ds : List D) {vs : List V}, D.norL k ds = true → RepL K cl Z vs ds → RepL K cl Z' vs ds
  | [], _, _, r => by cases r; exact .nil
  | d :: ds, _, i, r => by
    cases r with
    | cons a b =>
      have i2 : d.nor k = true ∧ D.norL k ds = true := by simpa [D.norL] using i
      exact .cons (nor_rep hh hm d i2.1 a) (nor_repL hh hm ds i2.2 b)
end
mutual
theorem D.pur_nor : ∀ (d : D), d.pur = true → d.nor k = true
  | .non, _ => rfl
  | .bl _, _ => rfl
  | .int _, _ => rfl
  | .str _, _ => rfl
  | .tup ds, h => D.purL_nor ds h
  | .lst _, h => nomatch h
  | .dct _ _, h => nomatch h
  | .ins _ ds, h => D.purL_nor ds h
  | .ref _, h => nomatch h
theorem D.purL_nor : ∀ (ds : List D), D.purL ds = true → D.norL k ds = true
  | [], _ => rfl
  | d :: ds, h => by
    have h2 : d.pur = true ∧ D.purL ds = true := by simpa [D.purL] using h
    simp [D.norL, D.pur_nor d h2.1, D.purL_nor ds h2.2]
end
theorem memR_nor {C : Hp} {a : Addr} (h : Z.μ k = none) : ∀ {d : D}, MemR K cl Z C a d → d.nor k = true
  | .lst ds, ⟨_, vs, _, _, c⟩ => repL_nor h ds c
  | .dct ks ds, ⟨_, o, kvs, _, _, _, _, e⟩ => repL_nor h ds e
  | .ins c ds, ⟨_, C, dx, fs, ns, _, _, _, e⟩ => repL_nor h ds e
  | .tup [.dct ks ds], ⟨_, od, o, kvs, _, _, _, _, e⟩ => by
    show (D.norL k ds && D.norL k []) = true
    rw [repL_nor h ds e]; rfl
theorem memR_drop {C C' : Hp} {a : Addr} (hh : Sub Z.h Z'.h) (hm : ∀ j a, j ≠ k → Z.μ j = some a → Z'.μ j = some a) (hc : C' a = C a) : ∀ {d : D}, d.nor k = true → MemR K cl Z C a d → MemR K cl Z' C' a d
  | .lst ds, n, ⟨i, vs, a, b, c⟩ => ⟨i, vs, hc.trans a, b, nor_repL hh hm ds n c⟩
  | .dct ks ds, n, ⟨i, o, kvs, a, b, c, nd, e⟩ => ⟨i, o, kvs, hc.trans a, b.mono (fun _ _ q => hh _ _ q), c, nd, nor_repL hh hm ds n e⟩
  | .ins c ds, n, ⟨i, C, dx, fs, ns, a, b, c1, e⟩ => ⟨i, C, dx, fs, ns, a, hc.trans b, c1, nor_repL hh hm ds n e⟩
  | .tup [.dct ks ds], n, ⟨i, od, o, kvs, a, b, c, nd, e⟩ => ⟨i, od, o, kvs, hc.trans a, b.mono (fun _ _ q => hh _ _ q), c, nd, nor_repL hh hm ds (by
    have n : (D.norL k ds && D.norL k []) = true := n
    rw [Bool.and_eq_true] at n; exact n.1) e⟩
end
def dropZ (Z : Zp) (k : Nat) (p : Addr) (o : HO) : Zp := ⟨upd Z.h p o, fun j => if j = k then none else Z.μ j⟩
section
variable {K : PySem.W.Frag} {cl : CTab} {md : Bool} {Z Z1 : Zp} {C H C1 H1 : Hp} {s : Mem} {p dx : Addr} {d : D}
theorem mem_newI {c : Str} {CC : Addr} {names : List Str} (w : Wd (MemS K cl) md Z C H s) (hp : H p = none) (hd : H dx = none) (ne : dx ≠ p) (hc : cl c = some (CC, names)) :
    Wd (MemS K cl) md (nameZ Z s.n p) (upd C p (.ins CC dx [])) (upd (upd H dx (.own p)) p (.ins CC dx [])) (s.push (.ins c [])) ∧ Nx Z C H (nameZ Z s.n p) (upd C p (.ins CC dx [])) (upd (upd H dx (.own p)) p (.ins CC dx [])) :=
  mem_new w hp (fun x o e => by rw [upd_ne (ne_of_none e hp), upd_ne (ne_of_none e hd)]; exact e) upd_same ⟨rfl, CC, dx, [], names, hc, upd_same, by simp, .nil⟩
theorem mem_drop {o : HO} {C0 H0 : Hp} (w0 : Wd (MemS K cl) md Z C0 H0 s) (hp0 : H0 p = none) (w : Wd (MemS K cl) md Z1 C1 H1 (s.push d)) (n : Nx Z C0 H0 Z1 C1 H1) (hp : Z1.μ s.n = some p) (ho : H1 p = some o) :
    Wd (MemS K cl) md (dropZ Z1 s.n p o) (era C1 p) H1 s ∧ Nx Z C0 H0 (dropZ Z1 s.n p o) (era C1 p) H1 := by
  have cp0 := none_of_sub w0.ch hp0
  obtain ⟨dp, hdp, mr⟩ := mem_name w hp
  obtain ⟨op, hop⟩ := mr.there
  have zp : Z1 p = none := w.dj p (some_ne hop)
  have hh : Sub Z1.h (dropZ Z1 s.n p o).h := Sub.upd zp
  have hm : ∀ j a, j ≠ s.n → Z1.μ j = some a → (dropZ Z1 s.n p o).μ j = some a := fun j a h e => by
    show (if j = s.n then none else Z1.μ j) = some a
    rw [if_neg h]; exact e
  have fr := mem_free w0
  refine ⟨⟨fun x u e => ?_, fun x u e => ?_, fun x e => ?_, ⟨fun j e => ?_, fun j d2 e => ?_, fun i j a e1 e2 => ?_, fun x e => ?_, w0.sr.nx⟩⟩, ⟨⟨n.zz.h.trans hh, fun j a e => hm j a (fun q => by rw [q, fr] at e; cases e) (n.zz.m _ _ e)⟩, n.hh, fun x e => ?_, fun x e => ?_, fun x e => ?_, fun x od u e => (era_ne (fun z => by rw [z, cp0] at e; cases e)).trans (n.lk x od u e)⟩⟩
  · by_cases hx : x = p
    · rw [hx, show (dropZ Z1 s.n p o).h p = some o from upd_same] at e; rw [hx]; cases e; exact ho
    · rw [show (dropZ Z1 s.n p o).h x = Z1.h x from upd_ne hx] at e; exact w.zh x u e
  · by_cases hx : x = p
    · rw [hx, era_self] at e; cases e
    · rw [era_ne hx] at e; exact w.ch x u e
  · by_cases hx : x = p
    · rw [hx, era_self] at e; exact absurd rfl e
    · rw [era_ne hx] at e; exact (show (dropZ Z1 s.n p o).h x = Z1.h x from upd_ne hx).trans (w.dj x e)
  · show (if j = s.n then none else Z1.μ j) = none
    split
    · rfl
    · rename_i q
      exact w.sr.no j (by show (if j = s.n then some d else s.m j) = none; rw [if_neg q]; exact e)
  · have q : j ≠ s.n := fun q => by rw [q, w0.sr.nx _ (Nat.le_refl _)] at e; cases e
    obtain ⟨a0, h1, h2⟩ := w0.sr.yes j d2 e
    obtain ⟨a1, h3, h4⟩ := w.sr.yes j d2 (by show (if j = s.n then some d else s.m j) = some d2; rw [if_neg q]; exact e)
    refine ⟨a1, hm _ _ q h3, memR_drop hh hm (era_ne fun z => ?_) (memR_nor fr h2) h4⟩
    subst z
    exact q (w.sr.inj _ _ _ h3 hp)
  · have e1 : (if i = s.n then none else Z1.μ i) = some a := e1
    have e2 : (if j = s.n then none else Z1.μ j) = some a := e2
    split at e1
    · cases e1
    · split at e2
      · cases e2
      · exact w.sr.inj _ _ _ e1 e2
  · by_cases hx : x = p
    · rw [hx, era_self] at e; exact absurd rfl e
    · rw [era_ne hx] at e
      obtain ⟨k, hk⟩ := w.sr.cov x e
      exact ⟨k, hm _ _ (fun q => by rw [q, hp] at hk; cases hk; exact hx rfl) hk⟩
  · by_cases hx : x = p
    · rw [hx]; exact .inr hp0
    · rw [show (dropZ Z1 s.n p o).h x = Z1.h x from upd_ne hx] at e; exact n.zf x e
  · by_cases hx : x = p
    · rw [hx, era_self] at e; exact absurd rfl e
    · rw [era_ne hx] at e; exact n.cf x e
  · have hx : x ≠ p := fun z => e (by rw [z]; exact cp0)
    rw [era_ne hx]
    exact n.cp x e
end
section
variable {cl : CTab} {W : WX} {X : Cx}
theorem ins_there {K : PySem.W.Frag} {md : Bool} {Z : Zp} {C H : Hp} {s : Mem} {c : Str} {x : V} {dxx : D} {CC : Addr} {names : List Str} {β : Type} {Rp : Zp → V → β → Prop} {σ : L2.St} {f : M (MemS K cl) β} {Q : V → Hp → Prop} {m : Str} (hc : cl c = some (CC, names)) (hm : m ∉ names) (w : Wd (MemS K cl) md Z C H s) (r : Rep K cl Z x dxx)
    (p : Post K cl md Rp W σ Z C H (M.bind (insM c dxx) (fun _ => f) s) Q) : (∃ a dx fs, x = .ref a ∧ H a = some (.ins CC dx fs) ∧ fs.lookup m = none) ∧ Post K cl md Rp W σ Z C H (f s) Q := by
  unfold insM rdM at p
  cases dxx <;> (try (exact False.elim p))
  · rename_i c' ds
    cases r with
    | ins a b c2 =>
      rename_i ad C0 dx fs
      simp only at p
      split at p
      · rename_i ec
        subst ec
        rw [hc] at a
        obtain ⟨rfl, hnm⟩ : CC = C0 ∧ names = fs.map (·.1) := by
          have := Option.some.inj a
          rw [Prod.mk.injEq] at this
          exact this
        exact ⟨⟨ad, dx, fs, rfl, w.zh _ _ b, lookup_no (n := names.length) (by rw [List.take_length]; exact hnm.symm) hm⟩, p⟩
      · exact False.elim p
  · rename_i ad0
    cases r with | ref er =>
    rename_i ad
    unfold M.bind at p
    cases hs : s.m ad0 with
    | none => simp only [hs] at p; exact False.elim p
    | some l =>
      simp only [hs] at p
      cases l <;> (try (exact False.elim p))
      rename_i c' ds
      simp only at p
      split at p
      · rename_i ec
        split at ec
        · rename_i ec2
          subst ec2
          cases ec
          obtain ⟨im, C0, dx, fs, ns, h1, h2, h3, h4⟩ := mem_at' w hs er
          rw [hc] at h1
          obtain ⟨rfl, rfl⟩ : CC = C0 ∧ names = ns := by
            have := Option.some.inj h1
            rw [Prod.mk.injEq] at this
            exact this
          exact ⟨⟨ad, dx, fs, rfl, w.ch _ _ h2, lookup_no h3 hm⟩, p⟩
        · cases ec
      · rename_i ec
        split at ec <;> cases ec
      · exact False.elim p
theorem de_meth {k n : Nat} {g : Addr} {fd : FuncData} {ps : List Str} {f : List D → M (MemS X.K cl) D} {m c : Str} {o e : Expr} {es : List Expr} {fo : Env → M (MemS X.K cl) D} {fa : Env → M (MemS X.K cl) (List D)} {apos pos : Pos} {pl : Sem Bool} (MA : MethAt X.K cl c m g)
    (F : FnOk X.prog X.w X.K X.mg X.base (L2.CX X.prog X.w) k g fd ps (spD X.K cl (MemS X.K cl) n f)) (hr : Room k X.A) (hb : Binds X.K fd ps []) (tk : Takes X W) (ho : DE cl (MemS X.K cl) true W X o fo) (ha : DA cl (MemS X.K cl) true W X (e :: es) fa) (hn : (e :: es).length + 1 = n)
    (hst : starEach (e :: es) X.env = (false, eval e X.env) :: starEach es X.env := by rfl) (hpl : (backTo pos (starEach es X.env)).any (·.1) = false := by rfl)
    (ht : eval (.Call (.Attribute o m apos) (e :: es) [] pos) X.env = (do
      let ov ← eval o X.env
      standAt apos.atName
      let (f, first) ← holding [ov] (getMethod ov m pl)
      callWith pos f first (backTo pos (starEach (e :: es) X.env)) (backToKw pos (keywordEach [] X.env))) := by rfl) :
    DE cl (MemS X.K cl) true W X (.Call (.Attribute o m apos) (e :: es) [] pos) fun ρ => M.bind (fo ρ) fun x => M.bind (insM c x) fun _ => M.bind (fa ρ) fun ds => f (x :: ds) := by
  obtain ⟨CC, names, hc, hm, C6, MM⟩ := MA.ex
  refine PE.weak (pe_methS ho C6 MM F hr hb (fun σ => passAt tk σ) ha hst hpl ht) fun σ H Q ⟨Z, C, s, ρ, w, e, p⟩ => ?_
  refine ⟨Z, C, s, ρ, w, e, Post.seq w.ch p fun dx s1 x Z1 C1 H1 w1 n1 r1 p1 => ?_⟩
  obtain ⟨⟨a, dd, fs, rfl, ea, el⟩, p1⟩ := ins_there hc hm w1 r1 p1
  refine ⟨a, dd, fs, rfl, ea, el, Z1, C1, s1, ρ, w1, e.mono n1.zz, Post.seq w1.ch p1 fun dxs s2 xs Z2 C2 H2 w2 n2 r2 p2 => ?_⟩
  refine ⟨Z2, C2, s2, dx :: dxs, w2, .cons (r1.mono n2.zz) r2.1, by rw [List.length_cons, r2.2]; exact hn, ?_⟩
  cases hf : f (dx :: dxs) s2 with
  | ok d s3 => rw [hf] at p2; exact p2
  | err x s3 => rw [hf] at p2; exact p2
  | stuck => rw [hf] at p2; exact p2
def mkM {K : PySem.W.Frag} {cl : CTab} (c : Str) (n : Nat) (r : IR) : M (MemS K cl) D := match r with
  | .ok fs => if fs.length = n ∧ D.purL fs = true then M.pure (.ins c fs) else fun _ => .stuck
  | .err x _ => fun s => match x.f with
    | none => .err x s
    | some d => if d.pur = true then .err x s else .stuck
  | .stuck => fun _ => .stuck
def InitIs {K : PySem.W.Frag} {cl : CTab} (c : Str) (f : List D → M (MemS K cl) D) (g : List D → IR) : Prop := ∀ (ds : List D) (s : Mem), match g ds with
  | .ok fs => f (.ref s.n :: ds) (s.push (.ins c [])) = .ok .non (s.push (.ins c fs))
  | .err x fs => f (.ref s.n :: ds) (s.push (.ins c [])) = .err x (s.push (.ins c fs))
  | .stuck => True
structure MakeAt (K : PySem.W.Frag) (cl : CTab) (c : Str) (C f : Addr) (n : Nat) : Prop where
  ex : ∃ names, cl c = some (C, names) ∧ names.length = n ∧ Mk K C f
theorem nameZ_at {Z : Zp} {k : Nat} {p : Addr} : (nameZ Z k p).μ k = some p := if_pos rfl
theorem exR_drop {K : PySem.W.Frag} {cl : CTab} {Z : Zp} {H : Hp} {x : Exn} {c : Value} {dx : Option Addr} {k : Nat} {p : Addr} {o : HO} {C0 C1 : Hp} (h : ExR K cl Z C0 x c dx H) (hz : Z p = none) (hp : ∀ d, x.f = some d → d.pur = true) (hC : ∀ a, C0 a = none → C1 a = none) : ExR K cl (dropZ Z k p o) C1 x c dx H := by
  obtain ⟨C', fs, h1, h2, h3⟩ := h
  refine ⟨C', fs, h1, h2, ?_⟩
  cases hf : x.f with
  | none => rw [hf] at h3; exact h3
  | some d =>
    rw [hf] at h3
    obtain ⟨f, v, a, q1, q2, q3, q0, q4, q5⟩ := h3
    exact ⟨f, v, a, q1, q2, q3, hC a q0, q4, nor_rep (k := k) (Z' := dropZ Z k p o) (Sub.upd hz) (fun j a h e => by show (if j = k then none else Z.μ j) = some a; rw [if_neg h]; exact e) d (D.pur_nor d (hp d hf)) q5⟩
theorem de_make {k n nf : Nat} {C g : Addr} {fd : FuncData} {ps : List Str} {f : List D → M (MemS X.K cl) D} {fi : List D → IR} {x c : Str} {e : Expr} {es : List Expr} {fa : Env → M (MemS X.K cl) (List D)} {p pos : Pos} (MA : MakeAt X.K cl c C g nf)
    (F : FnOk X.prog X.w X.K X.mg X.base (L2.CX X.prog X.w) k g fd ps (spD X.K cl (MemS X.K cl) n f)) (hI : InitIs c f fi) (hr : Room (k + 1) X.A) (hg : Gl X x) (hm : X.mg x = some (.ref C)) (hb : Binds X.K fd ps []) (tk : Takes X W) (ha : DA cl (MemS X.K cl) true W X (e :: es) fa) (hn : (e :: es).length + 1 = n)
    (hdb : (x == ("__debug__" : Str)) = false := by decide) (he : starEach (e :: es) X.env = (false, eval e X.env) :: starEach es X.env := by rfl) (hpl : (backTo pos (starEach es X.env)).any (·.1) = false := by rfl) :
    DE cl (MemS X.K cl) true W X (.Call (.Name x p) (e :: es) [] pos) fun ρ => M.bind (fa ρ) fun ds => mkM c nf (fi ds) := by
  obtain ⟨names, hc, hnl, MM⟩ := MA.ex
  refine PE.weak (pe_makeS MM F hr hg hm hb (fun σ => passAt tk σ) ha hdb he hpl) fun σ H Q ⟨Z, C0, s, ρ, w, e, pp⟩ => ?_
  refine ⟨Z, C0, s, ρ, w, e, Post.seq w.ch pp fun ds s1 xs Z1 C1 H1 w1 n1 r1 p1 => ?_⟩
  intro px dx hp hd hne
  obtain ⟨w2, n2⟩ := mem_newI w1 hp hd hne hc
  refine ⟨_, _, _, .ref s1.n :: ds, w2, .cons (.ref nameZ_at) (r1.1.mono n2.zz), by rw [List.length_cons, r1.2]; exact hn, ?_⟩
  have hi := hI ds s1
  cases hr2 : fi ds with
  | stuck => rw [hr2] at p1; exact False.elim p1
  | err x fs =>
    rw [hr2] at p1
    simp only [hr2] at hi
    rw [hi]
    intro cc dd Z' C' H' w' n' ex
    have n3 := n2.trans w1.ch w2.ch n'
    have hk : Z'.μ s1.n = some px := n'.zz.m _ _ nameZ_at
    obtain ⟨dp, hdp, mr⟩ := mem_name w' hk
    obtain ⟨op, hop⟩ := mr.there
    obtain ⟨w4, n4⟩ := mem_drop w1 hp w' n3 hk (w'.ch _ _ hop)
    unfold mkM at p1
    simp only at p1
    have hpu : ∀ d, x.f = some d → d.pur = true := fun d hd2 => by
      simp only [hd2] at p1
      split at p1
      · assumption
      · exact False.elim p1
    have p2 : Post (B := MemS X.K cl) X.K cl true (RpD X.K cl) W σ Z1 C1 H1 (.err x s1) Q := by
      cases hxf : x.f with
      | none => simp only [hxf] at p1; exact p1
      | some d => simp only [hxf, hpu d hxf, if_true] at p1; exact p1
    exact p2 cc dd _ _ H' w4 n4 (exR_drop ex (w'.dj px (some_ne hop)) hpu fun a z => by show (if a = px then none else _) = none; rw [z, ite_self])
  | ok fs =>
    rw [hr2] at p1
    simp only [hr2] at hi
    rw [hi]
    unfold mkM at p1
    simp only at p1
    split at p1
    case isFalse => exact False.elim p1
    rename_i hfs
    obtain ⟨hfs, hpu⟩ := hfs
    intro v Z' C' H' w' n' rv
    cases rv
    refine ⟨rfl, ?_⟩
    have n3 := n2.trans w1.ch w2.ch n'
    have hk : Z'.μ s1.n = some px := n'.zz.m _ _ nameZ_at
    obtain ⟨im, C7, dx7, fs7, ns, h1, h2, h3, h4⟩ := mem_at' (d := .ins c fs) w' (by show (if _ then _ else _) = _; rw [if_pos rfl]) hk
    rw [hc] at h1
    obtain ⟨rfl, rfl⟩ : C = C7 ∧ names = ns := by
      have := Option.some.inj h1
      rw [Prod.mk.injEq] at this
      exact this
    obtain ⟨w4, n4⟩ := mem_drop w1 hp w' n3 hk (w'.ch _ _ h2)
    have hfull : fs7.map (·.1) = names := by rw [h3, hfs, ← hnl, List.take_length]
    refine p1 (.ref px) _ (era C' px) H' w4 n4 (.ins (by rw [hfull]; exact hc) upd_same (nor_repL (k := s1.n) (Sub.upd (w'.dj px (some_ne h2))) (fun j a h e => by show (if j = s1.n then none else Z'.μ j) = some a; rw [if_neg h]; exact e) fs (D.purL_nor fs hpu) h4))
def newM {K : PySem.W.Frag} {cl : CTab} (d : D) : M (MemS K cl) D := fun s => .ok (.ref s.n) (s.push d)
def makeM {K : PySem.W.Frag} {cl : CTab} (c : Str) (f : List D → M (MemS K cl) D) (ds : List D) : M (MemS K cl) D := M.bind (newM (.ins c [])) fun r => M.bind (f (r :: ds)) fun v => match v with
  | .non => M.pure r
  | _ => fun _ => .stuck
theorem ds_never {B : Sto} {st : Stmt} : DS cl B W X st (fun _ _ => .stuck) := PS.weak ps_never fun E σ H ⟨Z0, C0, H0, Z, C, s, ρ, α, c0, w, n, r, q⟩ => q
end
end DN
namespace DN
open PySem PySem.Spec PyProof.Rows L2 RZ ND
open PySem.AutoSeq1 (wpAny_loadPart')
variable {B : Sto}
theorem tuple_mulW1 (l : Addr) (items : Array Value) (n : Nat) (dd : Option Addr) (sl : Array (Option Value)) (x : Int) (u : Tok) (c0 : (decide (x < -(2 ^ 63)) || decide (x ≥ 2 ^ 63)) = false) (c1 : (items.isEmpty || x == 1) = true) :
    Meets (Builtin.«tuple.__mul__» ⟨[.ref l, .int x u], []⟩) (fun _ R s => s.heap.get? l = some { cls := .type "tuple", dict := dd, data := .seq items n, slots := sl } ∧
      R (.ok (.ret (Value.ref l))) s) :=
  .of_wp fun prog w A R s h => by
    obtain ⟨hp, g, d, tk, os⟩ := s
    obtain ⟨hl, h⟩ := h
    have f1 := AutoSeq1.idx_int
    wp_walk using wpAny_loadPart' hl
    repeat (first
      | (refine wpAny_ite_false (decide_eq_false (by rw [c0]; exact Bool.false_ne_true)) ?_; wp_walk using wpAny_loadPart' hl)
      | (refine wpAny_ite_true (decide_eq_true c1) ?_; wp_walk using wpAny_loadPart' hl))
    exact ⟨_, rfl, h⟩
def rRep1 (K : PySem.W.Frag) : R2 := fun x y H Q => ∃ l k xs, x = .ref l ∧ y = .int k ∧ SqT K H l xs ∧ (xs = [] ∨ k = 1) ∧ -1000 ≤ k ∧ k ≤ 1000 ∧ Q (.ref l) H
theorem op_rep1 {X : Cx} : OpR X (binaryOp .Mult) (rRep1 X.K) := by
  intro pins s σ H x y v u Q I rx ry h
  obtain ⟨l, k, xs, rfl, rfl, hT, hne, h1, h2, q⟩ := h
  cases rx
  obtain ⟨t, rfl⟩ := ry
  obtain ⟨its, r, ⟨⟨cls, dd, data, sl⟩, ho, hc, n, hd⟩, hs⟩ := I.tuple hT
  simp only at hc hd
  subst hc hd
  have c0 : (decide (k < -(2 ^ 63)) || decide (k ≥ 2 ^ 63)) = false := by
    rw [decide_eq_false (by omega), decide_eq_false (by omega)] <;> rfl
  have c1 : (its.toArray.isEmpty || k == 1) = true := by
    rcases hne with rfl | rfl
    · cases r; rfl
    · simp
  refine wpAny_binaryOp_repeat_ref (T := "tuple") (U := "int") (by decide) ⟨_, ho, rfl⟩ (fun s' => typeIs_int s' k t) noFill_tuple_mul F.fills_int_mul F.slot_int_rmul repeat_tuple F.slot_int_index.lookup
    (call_meets F.slot_int_rmul (typeIs_int s k t) F.entry_int_rmul (F.args_int_rmul_2 _ _) (int_rmul_tuple k t l its.toArray n dd sl)
      ⟨ho, rfl, ⟨_, ho, rfl⟩, call_meets F.slot_tuple_mul ⟨_, ho, rfl⟩ F.entry_tuple_mul (F.args_tuple_mul_2 _ _) (tuple_mulW1 l its.toArray n dd sl k t c0 c1) ⟨ho, ?_⟩⟩)
  exact ⟨.ref l, H, I, rfl, q⟩
theorem tuple_mulW0 (l : Addr) (items : Array Value) (n : Nat) (dd : Option Addr) (sl : Array (Option Value)) (x : Int) (u : Tok) (c0 : (decide (x < -(2 ^ 63)) || decide (x ≥ 2 ^ 63)) = false) (c1 : (items.isEmpty || x == 1) = false) (c2 : (decide (x ≤ 0) || items.isEmpty) = true) :
    Meets (Builtin.«tuple.__mul__» ⟨[.ref l, .int x u], []⟩) (fun _ R s => s.heap.get? l = some { cls := .type "tuple", dict := dd, data := .seq items n, slots := sl } ∧
      R (.ok (.ret (Value.ref s.heap.objs.size))) { s with heap := s.heap.push { cls := Value.type "tuple", data := Data.seq #[] }, toks := s.toks }) :=
  .of_wp fun prog w A R s h => by
    obtain ⟨hp, g, d, tk, os⟩ := s
    obtain ⟨hl, h⟩ := h
    have f1 := AutoSeq1.idx_int
    wp_walk using wpAny_loadPart' hl
    repeat (first
      | (refine wpAny_ite_false (decide_eq_false (by rw [c0]; exact Bool.false_ne_true)) ?_; wp_walk using wpAny_loadPart' hl)
      | (refine wpAny_ite_false (decide_eq_false (by rw [c1]; exact Bool.false_ne_true)) ?_; wp_walk using wpAny_loadPart' hl)
      | (refine wpAny_ite_true (decide_eq_true c2) ?_; wp_walk using wpAny_loadPart' hl))
    exact ⟨_, rfl, h⟩
def rRep0 (K : PySem.W.Frag) : R2 := fun x y H Q => ∃ l k xs, x = .ref l ∧ y = .int k ∧ SqT K H l xs ∧ xs ≠ [] ∧ -1000 ≤ k ∧ k ≤ 0 ∧ ∀ p, H p = none → Q (.ref p) (upd H p (.tup []))
theorem op_rep0 {X : Cx} : OpR X (binaryOp .Mult) (rRep0 X.K) := by
  intro pins s σ H x y v u Q I rx ry h
  obtain ⟨l, k, xs, rfl, rfl, hT, hne, h1, h2, q⟩ := h
  cases rx
  obtain ⟨t, rfl⟩ := ry
  obtain ⟨its, r, ⟨⟨cls, dd, data, sl⟩, ho, hc, n, hd⟩, hs⟩ := I.tuple hT
  simp only at hc hd
  subst hc hd
  have hi : its.toArray.isEmpty = false := by
    cases its with
    | nil => cases r; exact absurd rfl hne
    | cons a b => rfl
  have c0 : (decide (k < -(2 ^ 63)) || decide (k ≥ 2 ^ 63)) = false := by
    rw [decide_eq_false (by omega), decide_eq_false (by omega)] <;> rfl
  have c1 : (its.toArray.isEmpty || k == 1) = false := by
    rw [hi, Bool.false_or]
    exact beq_eq_false_iff_ne.mpr (by omega)
  have c2 : (decide (k ≤ 0) || its.toArray.isEmpty) = true := by
    rw [decide_eq_true h2, Bool.true_or]
  refine wpAny_binaryOp_repeat_ref (T := "tuple") (U := "int") (by decide) ⟨_, ho, rfl⟩ (fun s' => typeIs_int s' k t) noFill_tuple_mul F.fills_int_mul F.slot_int_rmul repeat_tuple F.slot_int_index.lookup
    (call_meets F.slot_int_rmul (typeIs_int s k t) F.entry_int_rmul (F.args_int_rmul_2 _ _) (int_rmul_tuple k t l its.toArray n dd sl)
      ⟨ho, rfl, ⟨_, ho, rfl⟩, call_meets F.slot_tuple_mul ⟨_, ho, rfl⟩ F.entry_tuple_mul (F.args_tuple_mul_2 _ _) (tuple_mulW0 l its.toArray n dd sl k t c0 c1 c2) ⟨ho, ?_⟩⟩)
  refine ⟨.ref s.heap.objs.size, _, I.laid (t' := s.toks) (o := .tup []) (fun b ob q => Heap.get?_push_of_some _ q) (Nat.le_refl _) ?_, rfl, q _ (I.hok.fresh (Nat.le_refl _))⟩
  exact ⟨Nat.zero_le _, [], .nil, IsTup.new _ _⟩
def rRepR (K : PySem.W.Frag) : R2 := fun x y H Q => ∃ l k xs, x = .ref l ∧ y = .int k ∧ SqR K H l xs ∧ -1000 ≤ k ∧ k ≤ 1000 ∧ xs.length * k.toNat ≤ sizeLine ∧
  ∀ p, H p = none → Q (.ref p) (upd H p (.lst (List.replicate k.toNat xs).flatten))
theorem flat_fold {α : Type} (its : List α) : ∀ (m : Nat) (acc : List α), List.foldl (fun x1 x2 => x1 ++ x2) acc.toArray (List.replicate m its.toArray) = (acc ++ (List.replicate m its).flatten).toArray
  | 0, acc => by simp
  | m + 1, acc => by
    rw [List.replicate_succ, List.foldl_cons, show acc.toArray ++ its.toArray = (acc ++ its).toArray by simp, flat_fold its m (acc ++ its), List.replicate_succ, List.flatten_cons, List.append_assoc]
theorem op_repR {X : Cx} : OpR X (binaryOp .Mult) (rRepR X.K) := by
  intro pins s σ H x y v u Q I rx ry ⟨l, k, xs, ex, ey, hT, h1, h2, hz, q⟩
  subst ex ey
  cases rx
  obtain ⟨t, rfl⟩ := ry
  obtain ⟨_, its, n, r, hl, e⟩ := lstR I hT
  have hs : its.toArray.size * k.toNat ≤ sizeLine := by rw [List.size_toArray, ← hl]; exact hz
  have c1 : ¬ (!Builtin.List.listFitsIndex k) = true := by
    rw [fitsIndex_both (by omega) (by omega)]
    exact Bool.false_ne_true
  have c2 : ¬ its.toArray.size * k.toNat > (2 ^ 63 - 1) / 8 := by
    have : (sizeLine : Nat) ≤ (2 ^ 63 - 1) / 8 := by decide
    omega
  have c3 : ¬ Builtin.List.listTooLong (its.toArray.size * k.toNat) = true := by
    rw [notLongL hs]
    exact Bool.false_ne_true
  refine wpAny_binaryOp_repeat_ref (T := "list") (U := "int") (by decide) ⟨_, e, rfl⟩ (fun s' => typeIs_int s' k t) noFill_list_mul F.fills_int_mul F.slot_int_rmul repeat_list F.slot_int_index.lookup
    (call_meets F.slot_int_rmul (typeIs_int s k t) F.entry_int_rmul (F.args_int_rmul_2 _ _) (int___rmul___int_list k t l its.toArray n)
      ⟨e, rfl, ⟨_, e, rfl⟩, call_meets F.slot_list_mul ⟨_, e, rfl⟩ F.entry_list_mul (F.args_list_mul_2 _ _) (AutoListH.list___mul___list_int_3 l its.toArray n k t c1 c2 c3) ⟨e, ?_⟩⟩)
  have en : List.foldl (fun x1 x2 => x1 ++ x2) #[] (List.replicate (if its.toArray.isEmpty = true then 0 else k.toNat) its.toArray) = (List.replicate k.toNat its).flatten.toArray := by
    have := flat_fold its (if its.toArray.isEmpty = true then 0 else k.toNat) []
    rw [List.nil_append] at this
    rw [this]
    cases its with
    | nil => simp
    | cons a r' => rw [if_neg (by simp)]
  rw [en]
  exact ⟨.ref _, _, I.lnew (t' := s.toks) (r.rep k.toNat) (by rw [PyProof.Rows.lm_len_rep_flat, Nat.mul_comm]; exact hz), rfl, q _ I.fresh⟩
def mulD : D → D → Option D
  | .int i, .int j => mulI (.int i) (.int j)
  | .tup xs, .int k => if (xs.isEmpty = true ∨ k = 1) ∧ -1000 ≤ k ∧ k ≤ 1000 then some (.tup xs) else if xs.isEmpty = false ∧ 2 ≤ k ∧ k ≤ 1000 ∧ xs.length ≤ 1000 then some (.tup (List.replicate k.toNat xs).flatten) else if xs.isEmpty = false ∧ -1000 ≤ k ∧ k ≤ 0 then some (.tup []) else none
  | .lst xs, .int k => if -1000 ≤ k ∧ k ≤ 1000 ∧ xs.length ≤ 1000 then some (.lst (List.replicate k.toNat xs).flatten) else none
  | _, _ => none
abbrev rMulA (K : PySem.W.Frag) : R2 := fun x y H Q => ((rI CMul (fun i j => .int (i * j)) x y H Q ∨ rRep1 K x y H Q) ∨ rRepT K x y H Q) ∨ (rRep0 K x y H Q ∨ rRepR K x y H Q)
theorem op_mulA {X : Cx} : OpR X (binaryOp .Mult) (rMulA X.K) := ((op_mul.or op_rep1).or op_repT).or (op_rep0.or op_repR)
theorem RepL.rep {K : PySem.W.Frag} {cl : CTab} {Z : Zp} {vs : List V} {ds : List D} (r : RepL K cl Z vs ds) : ∀ n : Nat, RepL K cl Z (List.replicate n vs).flatten (List.replicate n ds).flatten
  | 0 => .nil
  | n + 1 => by
    rw [List.replicate_succ, List.flatten_cons, List.replicate_succ, List.flatten_cons]
    exact r.append (RepL.rep r n)
theorem v_mul {K : PySem.W.Frag} {cl : CTab} : OpV K cl (rMulA K) mulD := by
  intro Z H x y dx dy d Q h rx ry e q
  unfold mulD at e
  split at e
  · exact .inl (.inl (.inl (v_mulI Z H x y _ _ d Q h rx ry e q)))
  · cases ry
    rename_i xs k
    cases rx with
    | tup a b c =>
      rename_i pa va
      split at e
      · rename_i hc
        cases e
        refine .inl (.inl (.inr ⟨_, k, _, rfl, rfl, sq_t (h _ _ a), ?_, hc.2.1, hc.2.2, q _ Z H (.refl h) (.tup a b c)⟩))
        rcases hc.1 with z | z
        · cases xs with
          | nil => cases c; exact .inl rfl
          | cons => cases z
        · exact .inr z
      · split at e
        · rename_i hc
          cases e
          have hl := c.len
          refine .inl (.inr ⟨_, k, _, rfl, rfl, sq_t (h _ _ a), fun z => ?_, hc.2.1, hc.2.2.1, by omega, fun p hp => ?_⟩)
          · subst z; cases c; cases hc.1
          · have al : Al Z H (upz Z p (.tup (List.replicate k.toNat va).flatten)) (upd H p (.tup (List.replicate k.toNat va).flatten)) := .new h hp (fun _ z => nomatch z)
            refine q _ _ _ al (.tup upd_same ?_ ((c.rep k.toNat).mono al.zz))
            rw [PyProof.Rows.lm_len_rep_flat, hl, sizeLine_eq]
            have : k.toNat * xs.length ≤ 1000 * 1000 := Nat.mul_le_mul (by omega) hc.2.2.2
            omega
        · split at e
          · rename_i hc
            cases e
            refine .inr (.inl ⟨_, k, _, rfl, rfl, sq_t (h _ _ a), fun z => ?_, hc.2.1, hc.2.2, fun p hp => ?_⟩)
            · subst z; cases c; cases hc.1
            · have al : Al Z H (upz Z p (.tup [])) (upd H p (.tup [])) := .new h hp (fun _ z => nomatch z)
              exact q _ _ _ al (.tup upd_same (Nat.zero_le _) .nil)
          · cases e
  · cases ry
    rename_i xs k
    cases rx with
    | slst a b c =>
      rename_i pa va
      split at e
      · rename_i hc
        cases e
        have hl := c.len
        have hz : xs.length * k.toNat ≤ 1000 * 1000 := Nat.mul_le_mul hc.2.2 (by omega)
        refine .inr (.inr ⟨_, k, _, rfl, rfl, a.sub h, by omega, by omega, by rw [hl, sizeLine_eq]; omega, fun p hp => ?_⟩)
        have al : Al Z H (upz Z p (.lst (List.replicate k.toNat va).flatten)) (upd H p (.lst (List.replicate k.toNat va).flatten)) := .new h hp (fun _ z => nomatch z)
        refine q _ _ _ al (.lst upd_same ?_ ((c.rep k.toNat).mono al.zz))
        rw [PyProof.Rows.lm_len_rep_flat, hl, sizeLine_eq, Nat.mul_comm]
        omega
      · cases e
  · cases e
def flV : D → Option V
  | .non => some .non
  | .bl b => some (.bl b)
  | .int i => some (.int i)
  | .str x => some (.str x)
  | _ => none
def flVs : List D → Option (List V)
  | [] => some []
  | d :: ds => (flV d).bind fun v => (flVs ds).map fun r => v :: r
theorem flV_rep {K : PySem.W.Frag} {cl : CTab} {Z : Zp} {v u : V} {d : D} (r : Rep K cl Z v d) (e : flV d = some u) : v = u ∧ flatV u = true := by
  cases d <;> (unfold flV at e; cases e) <;> (cases r; exact ⟨rfl, rfl⟩)
theorem flVs_rep {K : PySem.W.Frag} {cl : CTab} {Z : Zp} : ∀ {ds : List D} {vs us : List V}, RepL K cl Z vs ds → flVs ds = some us → vs = us ∧ us.all flatV = true
  | [], _, _, r, e => by cases r; cases e; exact ⟨rfl, rfl⟩
  | d :: ds, _, us, r, e => by
    cases r with
    | cons a b =>
      unfold flVs at e
      cases h1 : flV d with
      | none => rw [h1] at e; cases e
      | some v =>
        rw [h1] at e
        obtain ⟨w, h2, h3⟩ := Option.map_eq_some_iff.mp (show (flVs ds).map (fun r => v :: r) = some us from e)
        subst h3
        obtain ⟨e1, e2⟩ := flV_rep a h1
        obtain ⟨e3, e4⟩ := flVs_rep b h2
        exact ⟨by rw [e1, e3], by rw [List.all_cons, e2, e4]; rfl⟩
def rCntF (K : PySem.W.Frag) : V → List V → Hp → VK → Prop := fun x xs H Q => ∃ (p : Addr) (ns : List V) (k : V), x = .ref p ∧ xs = [k] ∧ flatV k = true ∧ ns.all flatV = true ∧ SqL K H p ns ∧ Q (.int (ns.countP (fun y => eqV y k) : Nat)) H
theorem count_eqU {x : V} : ∀ {xs : List V} {us : List Value}, Vals xs us → xs.all flatV = true → us.countP (eqU x) = xs.countP fun y => eqV y x
  | _, _, .nil, _ => rfl
  | y :: xs, u :: us, .cons r t, f => by
    rw [List.all_cons, Bool.and_eq_true] at f
    rw [List.countP_cons, List.countP_cons, eqU_of r f.1, count_eqU t f.2]
theorem val_at {xs : List V} {us : List Value} : Vals xs us → ∀ u ∈ us, ∃ x ∈ xs, RelV x u
  | .nil, u, h => by simp at h
  | .cons r t, u, h => by
    rcases List.mem_cons.mp h with rfl | h
    · exact ⟨_, List.mem_cons_self, r⟩
    · obtain ⟨x, h1, h2⟩ := val_at t u h
      exact ⟨x, List.mem_cons_of_mem _ h1, h2⟩
theorem mt_countF {X : Cx} : MtR X "list.count" (rCntF X.K) := by
  intro pins s σ H x xs v us Q I rx rxs h
  obtain ⟨p, ns, k, rfl, rfl, fk, fn, hs, q⟩ := h
  cases rx
  obtain ⟨u, rfl, ru⟩ := rxs.one
  obtain ⟨its, rv, ⟨⟨cls, dd, data, sl⟩, n, ho, hc, hdn, hd⟩, hlen⟩ := I.list hs
  simp only at hc hd
  subst hc hd
  refine call_meets PySem.F.slot_list_count ⟨_, ho, rfl⟩ PySem.F.entry_list_count (PySem.F.args_list_count_2 _ _)
    (SeqAt.list_countAt p its.toArray n dd sl u (eqU k)) ⟨ho, fun y hy => ?_, ?_⟩
  · obtain ⟨z, hz, rz⟩ := val_at rv y (by simpa using hy)
    have fz := List.all_eq_true.mp fn z hz
    have := eqAt_V (A := X.A.in1) (s := s) rz ru fz fk
    rw [← eqU_of rz fz] at this
    exact this
  have ec : its.toArray.toList.countP (eqU k) = ns.countP fun y => eqV y k := count_eqU rv fn
  refine ⟨.int (ns.countP fun y => eqV y k : Nat), H, I.tok _, ⟨s.toks, ?_⟩, q⟩
  show Value.int ((its.toArray.toList.countP (eqU k) : Nat) : Int) s.toks = Value.int ((ns.countP (fun y => eqV y k) : Nat) : Int) s.toks
  rw [ec]
def asL : D → Option (List D)
  | .lst ds => some ds
  | _ => none
def countD (ds : List D) (y : D) : Option D := (flVs ds).bind fun vs => (flV y).map fun v => .int (vs.countP fun z => eqV z v : Nat)
section
variable {cl : CTab} {md : Bool} {W : WX} {X : Cx}
theorem de_count {o e : Expr} {fo f : Env → M B D} {apos pos : Pos} (ho : DE cl B md W X o fo) (he : DE cl B md W X e f) (hb : attributeBase o "count" X.env (eval o X.env) = eval o X.env := by rfl)
    (hfew : ((backTo pos (starEach [e] X.env)).all (fun x => !x.1) && (backToKw pos (keywordEach [] X.env)).all (fun x => x.1.isSome)
      && decide ([e].length + ([] : List Keyword).length + (if ([] : List Keyword).isEmpty then 0 else 1) < 30)) = true := by rfl)
    (hline : (apos.endLine == pos.line) = true := by rfl) (hs : starEach [e] X.env = (false, eval e X.env) :: starEach [] X.env := by rfl) (hplain : (backTo pos (starEach [] X.env)).any (·.1) = false := by rfl) :
    DE cl B md W X (.Call (.Attribute o "count" apos) [e] [] pos) fun ρ => M.bind (fo ρ) fun x => M.bind (lift (asL x)) fun ds => M.bind (f ρ) fun y => lift (countD ds y) := by
  refine PE.weak (pe_bm PySem.F.plainAttrs_list PySem.F.slot_list_count PySem.F.type_list_count mt_countF ho (pa_cons he pa_nil hs) hb hfew hline hs hplain) fun σ H Q ⟨Z, C, s, ρ, w, e, p⟩ => ?_
  refine ⟨Z, C, s, ρ, w, e, Post.seq w.ch p fun dx s1 x Z1 C1 H1 w1 n1 r1 p1 => ?_⟩
  cases dx with
  | lst ds =>
    cases r1 with
    | slst a b c =>
      refine ⟨.inl ⟨rfl, _, SqL.sub w1.zh a⟩, Z1, C1, s1, ρ, w1, e.mono n1.zz, Post.seq w1.ch p1 fun dy s2 y Z2 C2 H2 w2 n2 r2 p2 => ?_⟩
      obtain ⟨d, hd, q⟩ := post_lift w2 p2
      unfold countD at hd
      cases h1 : flVs ds with
      | none => rw [h1] at hd; cases hd
      | some vs =>
        rw [h1] at hd
        obtain ⟨v, h2, h3⟩ := Option.map_eq_some_iff.mp (show (flV dy).map (fun v => D.int (vs.countP fun z => eqV z v : Nat)) = some d from hd)
        subst h3
        obtain ⟨rfl, e2⟩ := flVs_rep c h1
        obtain ⟨rfl, e4⟩ := flV_rep r2 h2
        exact ⟨_, _, _, rfl, rfl, e4, e2, SqL.sub w2.zh (a.sub n2.zz.h), q _ Z2 H2 (.refl w2.zh) (.int _)⟩
  | _ => exact False.elim p1
end
end DN
namespace ND
open PySem PySem.Spec PyProof.Rows L2
def CPut (P : Program) (w : World) (H : Hp) (a : Addr) (y v : V) (H' : Hp) : Prop := (∃ kvs k, y = kV k ∧ H a = some (.dK kvs) ∧ kvs.length < sizeLine ∧ H' = upd H a (.dK (putK kvs k v))) ∨ NPut P w H a y v H'
abbrev TurnEnd (P : Program) (w : World) (D : Addr) (tt : TT) (tk tv : TE) (vs : List Nat) (σ : L2.St) (N : Hp → Prop) (σ2 : L2.St) (H2 : Hp) : Prop := wipe σ2 vs = wipe σ vs ∧ tt σ2 H2 fun b H3 => if b = true then tk σ2 H3 fun y H4 => tv σ2 H4 fun z H5 => ∃ H6, CPut P w H5 D y z H6 ∧ N H6 else N H3
def tDcN (P : Program) (w : World) (wi : TI) (g : TG) (tt : TT) (tk tv : TE) (vs : List Nat) : TE := fun σ H Q => wi σ H fun J H1 => ∀ D, H1 D = none → ∃ G : Nat → Nat → Hp → Prop, (∃ m, G 0 m (upd H1 D (.dK []))) ∧ ∀ i m H, G i m H →
  (J.stop i H ∧ Q (.ref D) H) ∨ (J.go i H ∧ ∃ N : Hp → Prop, (∀ H', N H' → ∃ m', m' < m ∧ G (i + 1) m' H') ∧ ∀ x H', J.yld i H x H' → g x (wipe σ vs) H' (TurnEnd P w D tt tk tv vs σ N))
section
variable {X : Cx}
theorem c_put {pins : List (Addr × Obj)} {σ : L2.St} {H H' : Hp} {s : Shared} {E : Value → Shared → Prop} {a : Addr} {y v : V} {u r : Value} {Q : Unit → Shared → Prop} (hu : X.A.units + 8 < cLine) (I : Inv X pins σ H s) (g : CPut X.prog X.w H a y v H') (ry : RelV y u) (rv : RelV v r) (h : ∀ s', Inv X pins σ H' s' → Q () s') :
    wpAny (model X.prog X.w) X.A (dictSet a u r) Q E s := by
  rcases g with ⟨kvs, k, rfl, e, l, rfl⟩ | g
  · exact d_dictSet I e l ry rv h
  · exact n_dictSet hu I g ry rv h
theorem pe_dcN {kx vx tg iter : Expr} {ifs : List Expr} {scope : Scope} {own : List (Str × Nat)} {pos : Pos} {wi : TI} {g : TG} {tt : TT} {tk tv : TE} (hc : X.calm = true) (hN : X.N.Nodup) (hu : X.A.units + 8 < cLine) (hi : PI X tg iter wi) (ok : BlkOk X.N X.env.scope scope own)
    (hg : ∀ (s : Shared) (H : Hp) (C : Addr) (cs : List (Str × Addr)) (fp : List Addr), PG (X.blk s H scope (compEnvC scope cs C X.env) fp) tg g)
    (ht : ∀ (s : Shared) (H : Hp) (C : Addr) (cs : List (Str × Addr)) (fp : List Addr), PTs (X.blk s H scope (compEnvC scope cs C X.env) fp) ifs tt)
    (hk : ∀ (s : Shared) (H : Hp) (C : Addr) (cs : List (Str × Addr)) (fp : List Addr), PE (X.blk s H scope (compEnvC scope cs C X.env) fp) kx tk)
    (he : ∀ (s : Shared) (H : Hp) (C : Addr) (cs : List (Str × Addr)) (fp : List Addr), PE (X.blk s H scope (compEnvC scope cs C X.env) fp) vx tv) (hs : ∀ x, foldedSetIterable iter X.env x = pure x := by intro _; rfl) :
    PE X (.DictComp kx vx [⟨tg, iter, ifs, 0⟩] scope pos) (tDcN X.prog X.w wi g tt tk tv (own.map (·.2))) := by
  refine ⟨fun pins s σ H Q I h => ?_⟩
  rw [arm_eval_DictComp]
  have cells : ∀ y ∈ scope.names, y.2 = .free → ∃ c, X.env.cells.lookup y.1 = some c := fun y hy e => (ok.free y hy e).elim (fun k => I.ok.has _ (.inl k)) fun k => I.ok.has _ (.inr k)
  refine wpAny_comprehension_free rfl hs (closure_ok cells) ok.kind (fun y hy e => by rw [ok.uniq y hy, e]) (thn (hi.run pins s σ H _ I h) fun _ _ hx => thn hx fun itv z hz => ?_)
  obtain ⟨it, fp, tn, J, Ha, rfl, Ia, T, sta, fa, q⟩ := hz
  refine wpAny_newObj_type (newEnv_comp ?_)
  -- the new dict's place, the heap with it
  obtain ⟨D, hD⟩ : ∃ D, D = z.heap.objs.size := ⟨_, rfl⟩
  rw [← hD]
  have Dn : Ha D = none := Ia.hok.fresh (Nat.le_of_eq hD.symm)
  obtain ⟨G, ⟨m0, g0⟩, turn⟩ := q D Dn
  obtain ⟨b, hb⟩ : ∃ b : Shared, b = { z with heap := z.heap.push { cls := .type "dict", data := .dict #[] } } := ⟨_, rfl⟩
  rw [← hb]
  have bh : b.heap = z.heap.push { cls := .type "dict", data := .dict #[] } := by rw [hb]
  obtain ⟨Hb, hHb⟩ : ∃ Hb, Hb = upd Ha D (.dK []) := ⟨_, rfl⟩
  rw [← hHb] at g0
  have Ib : Inv X pins σ Hb b := by
    rw [hb, hHb]
    exact Ia.laid (t' := z.toks) (fun _ _ e => Heap.get?_push_of_some _ e) (Nat.le_of_eq hD.symm) (by rw [hD]; exact dk_empty z.heap Ia.big)
  have small : ∀ c ∈ fp, c < z.heap.objs.size := fun c hc => by obtain ⟨_, e, _⟩ := T.obj _ _ sta c hc; exact Heap.lt_size e
  have fb : ∀ c ∈ fp, FpOk X pins Hb c ∧ c < b.heap.objs.size := fun c hc => by
    have lt := small c hc
    refine ⟨⟨?_, (fa c hc).2⟩, ?_⟩
    · rw [hHb, upd_ne (by rw [hD]; exact Nat.ne_of_lt lt)]; exact (fa c hc).1
    · rw [bh, Heap.size_push]; exact Nat.lt_succ_of_lt lt
  have stb : tn 0 b.heap := T.keep _ _ _ sta fun _ _ _ e => by rw [bh]; exact Heap.get?_push_of_some _ e
  -- the block's own frame
  have Ic := block_start Ib ok hN fb
  obtain ⟨ce, hce⟩ : ∃ ce, ce = compEnvC scope (cellsFrom (b.heap.objs.size + 1) scope.names (cloFrom X.env.cells scope.names [])) b.heap.objs.size X.env := ⟨_, rfl⟩
  have rg := hg b Hb b.heap.objs.size (cellsFrom (b.heap.objs.size + 1) scope.names (cloFrom X.env.cells scope.names [])) fp
  have rt := ht b Hb b.heap.objs.size (cellsFrom (b.heap.objs.size + 1) scope.names (cloFrom X.env.cells scope.names [])) fp
  have rk := hk b Hb b.heap.objs.size (cellsFrom (b.heap.objs.size + 1) scope.names (cloFrom X.env.cells scope.names [])) fp
  have rv := he b Hb b.heap.objs.size (cellsFrom (b.heap.objs.size + 1) scope.names (cloFrom X.env.cells scope.names [])) fp
  rw [← hce] at Ic rg rt rk rv
  have loc : ce.locals = b.heap.objs.size := by rw [hce]; rfl
  obtain ⟨c, hc'⟩ : ∃ c : Shared, c = { b with heap := pushCells (b.heap.push { cls := .type "dict", data := .dict #[] }) scope.names } := ⟨_, rfl⟩
  rw [← hc'] at Ic
  have stc : tn 0 c.heap := T.keep _ _ _ stb fun _ _ _ e => by rw [hc']; exact pushCells_keeps _ _ _ _ (Heap.get?_push_of_some _ e)
  have frame : ∀ {τ : L2.St} {H' : Hp} {s' : Shared}, Inv (X.blk b Hb scope ce fp) [] τ H' s' → (∀ a ∈ fp, H' a = none) → ∀ a ∈ fp, FpOk (X.blk b Hb scope ce fp) [] H' a := fun {τ H' s'} I' no a ha =>
    ⟨no a ha, (I'.ok.exf a ha).1, I'.ok.exfs a ha, .inl ha, fun x cc e => (I'.ok.exf a ha).2 x cc e, fun p hp => (List.not_mem_nil (show p ∈ ([] : List (Addr × Obj)) from by simpa using hp)).elim⟩
  suffices hh : codeAny (model X.prog X.w) X.A (.compStart (.DictComp kx vx [⟨tg, iter, ifs, 0⟩] scope pos) 0 (.ref it) (.ref D) ce) (compPost (model X.prog X.w) X.A X.xe none (EP X pins σ Q) (.ref D) b.heap.objs.size) c by
    rw [hce, hc'] at hh
    exact hh
  have run : codeAny (model X.prog X.w) X.A (.compLoop (.DictComp kx vx [⟨tg, iter, ifs, 0⟩] scope pos) 0 (.ref it) (.ref D) ce) (compPost (model X.prog X.w) X.A X.xe none (EP X pins σ Q) (.ref D) b.heap.objs.size) c := by
    refine compLoop_anyD (fun n s' => ∃ i H', Inv (X.blk b Hb scope ce fp) [] (wipe σ (own.map (·.2))) H' s' ∧ tn i s'.heap ∧ (∀ a ∈ fp, H' a = none) ∧ G i n H') ?_ m0 ⟨0, Hb, Ic, stc, fun a ha => (fb a ha).1.1, g0⟩
    rintro n t ⟨i, Ht, It, stt, nt, gt⟩
    rcases turn i n Ht gt with ⟨stop, fin⟩ | ⟨go, N, hNx, step⟩
    · refine thnF (T.done (X.blk b Hb scope ce fp) rfl rfl rfl hc i [] t _ Ht (fun _ _ => False) It (frame It nt) stt stop) fun r t2 ⟨hr, I2⟩ => ?_
      subst hr
      have back : Inv X pins σ Ht t2 := Ib.call' (ch := fp) I2.os I2.base I2.hok I2.bare fun a ha => ⟨(fb a ha).1.2.2.2.1, (fb a ha).1.2.1, (fb a ha).1.2.2.2.2.1, (fb a ha).1.2.2.2.2.2⟩
      have nloc : Ht b.heap.objs.size = none := loc ▸ (show Ht ce.locals = none from I2.free)
      obtain ⟨mm, hn, _⟩ := I2.loc
      have hn2 : t2.heap.Ns b.heap.objs.size mm := loc ▸ (show t2.heap.Ns ce.locals mm from hn)
      obtain ⟨a0, a1, _, a3, a4, a5⟩ := Ib.fpOk (Nat.le_refl _) (H := Hb) (show Hb b.heap.objs.size = none from Ib.hok.fresh (Nat.le_refl _))
      refine ⟨mm, hn2, fun h3 sb => ⟨.ref D, Ht, ?_, rfl, fin⟩⟩
      exact back.turned (t' := t2.toks) (fun a o ha e => (sb.2 a ha).trans e) nloc a1 a3 a4 a5
    · refine thnF (T.item (X.blk b Hb scope ce fp) rfl rfl rfl hc i [] t _ Ht (fun _ _ => False) It (frame It nt) stt go) fun r t2 ⟨u, hr, h6⟩ => ?_
      subst hr
      refine thnF h6 fun _ t3 ⟨x, H3, I3, r3, y3, st3, n3⟩ => ?_
      refine thnF (rg.run _ t3 _ H3 x u _ (I3.pinned (frame I3 n3) (T.obj _ _ st3)) r3 (step x H3 y3)) fun _ t4 ⟨τ, H4, I4, hw, q4⟩ => ?_
      refine thnF (rt.run _ t4 τ H4 _ I4 q4) fun ans t5 ⟨H5, I5, q5⟩ => ?_
      have next : ∀ {s' : Shared} {H' : Hp}, Inv (X.blk b Hb scope ce fp) ([] ++ pinsAt fp t3.heap) τ H' s' → N H' → ∃ m, m < n ∧ ∃ i H', Inv (X.blk b Hb scope ce fp) [] (wipe σ (own.map (·.2))) H' s' ∧ tn i s'.heap ∧ (∀ a ∈ fp, H' a = none) ∧ G i m H' := fun {s' H'} I' nx => by
        obtain ⟨m2, lt, g2⟩ := hNx H' nx
        have held : ∀ a ∈ fp, ∀ o, t3.heap.get? a = some o → s'.heap.get? a = some o ∧ H' a = none := fun a ha o e =>
          ⟨(I'.pin (a, o) (List.mem_append_right _ (List.mem_append_right _ (mem_pinsAt ha e)))).1, (I'.pin (a, o) (List.mem_append_right _ (List.mem_append_right _ (mem_pinsAt ha e)))).2.1⟩
        refine ⟨m2, lt, i + 1, H', (I'.unpinned (pins := [])).weak (by rw [← hw, wipe_length]) (fun j v e => (wipe_some (by rw [hw]; exact e)).1), T.keep _ _ _ st3 fun a ha o e => (held a ha o e).1, fun a ha => ?_, g2⟩
        obtain ⟨o, e, _⟩ := T.obj _ _ st3 a ha
        exact (held a ha o e).2
      cases ans with
      | false => exact next I5 q5
      | true =>
        have q5 : tk τ H5 fun y H4 => tv τ H4 fun z H5 => ∃ H6, CPut X.prog X.w H5 D y z H6 ∧ N H6 := q5
        refine thnF (rk.run _ t5 τ H5 _ I5 q5) fun _ t6 ⟨ky, H6, I6, r6, q6⟩ => ?_
        refine thnF (rv.run _ t6 τ H6 _ I6 q6) fun _ t7 ⟨vy, H7, I7, r7, H8, cp, nx⟩ => ?_
        exact c_put (X := X.blk b Hb scope ce fp) hu I7 cp r6 r7 fun _ I8 => next I8 nx
  exact codeAny_compStart_dict run (T.self X.A 0 _ _ _ stc run)
end
end ND
namespace DN
open PySem PySem.Spec PyProof.Rows L2 RZ ND
variable {B : Sto}
def hasK (ks : List D) (k : GK) : Bool := ks.any fun x => decide (x.key = some k)
def repV : List D → List D → GK → D → List D
  | x :: ks, y :: ds, k, d => (if x.key = some k then d else y) :: repV ks ds k d
  | _, ds, _, _ => ds
def putKs (ks : List D) (k : GK) : List D := if hasK ks k = true then ks else ks ++ [keyD k]
def putVs (ks ds : List D) (k : GK) (d : D) : List D := if hasK ks k = true then repV ks ds k d else ds ++ [d]
section
variable {K : PySem.W.Frag} {cl : CTab} {Z : Zp}
theorem hasK_eq (kvs : List (GK × V)) (k : GK) : hasK (kvs.map fun p => keyD p.1) k = kvs.any fun kv => decide (kv.1 = k) := by
  unfold hasK
  rw [List.any_map]
  congr 1
  funext p
  simp only [Function.comp_apply, key_keyD, Option.some.injEq]
theorem rep_rep {k : GK} {v : V} {d : D} (r : Rep K cl Z v d) : ∀ {kvs : List (GK × V)} {ds : List D}, RepL K cl Z (kvs.map (·.2)) ds → RepL K cl Z ((kvs.map fun kv => if kv.1 = k then (kv.1, v) else kv).map (·.2)) (repV (kvs.map fun p => keyD p.1) ds k d)
  | [], _, h => by cases h; exact .nil
  | p :: kvs, _, h => by
    cases h with
    | cons a b =>
      rw [List.map_cons, List.map_cons, List.map_cons, repV, key_keyD]
      by_cases e : p.1 = k
      · rw [if_pos e, if_pos (by rw [e])]
        exact .cons r (rep_rep r b)
      · rw [if_neg e, if_neg (fun z => e (Option.some.inj z))]
        exact .cons a (rep_rep r b)
theorem fst_map (k : GK) (v : V) (kvs : List (GK × V)) : (kvs.map fun kv => if kv.1 = k then (kv.1, v) else kv).map (·.1) = kvs.map (·.1) := by
  rw [List.map_map]
  apply List.map_congr_left
  intro p _
  simp only [Function.comp_apply]
  split <;> rfl
theorem keyOk_rep1 {k : Key} {y : V} (r : Rep K cl Z y (keyD1 k)) : KeyOk1 k := by
  cases k with
  | inl i => trivial
  | inr x => cases r with | str a b => exact ⟨a, b⟩
theorem keyOk_rep {k : GK} {y : V} (r : Rep K cl Z y (keyD k)) : KeyOk k := by
  rcases k with k | ks
  · exact keyOk_rep1 r
  · trivial
theorem put_rep {k : GK} {v : V} {d : D} (kok : KeyOk k) (r : Rep K cl Z v d) {kvs : List (GK × V)} {ks ds : List D} (e : ks = kvs.map fun p => keyD p.1) (nd : KNd kvs) (h : RepL K cl Z (kvs.map (·.2)) ds) :
    putKs ks k = (putK kvs k v).map (fun p => keyD p.1) ∧ KNd (putK kvs k v) ∧ RepL K cl Z ((putK kvs k v).map (·.2)) (putVs ks ds k d) ∧ (putK kvs k v).length ≤ kvs.length + 1 := by
  subst e
  unfold putKs putVs putK
  rw [hasK_eq]
  split
  · refine ⟨?_, ⟨by rw [fst_map]; exact nd.1, fun p hp => ?_⟩, rep_rep r h, by simp⟩
    rotate_left
    · obtain ⟨q, hq, rfl⟩ := List.mem_map.mp hp
      have := nd.2 q hq
      split <;> exact this
    show kvs.map (keyD ∘ Prod.fst) = (kvs.map fun kv => if kv.1 = k then (kv.1, v) else kv).map (keyD ∘ Prod.fst)
    rw [← List.map_map, ← List.map_map]
    exact congrArg (List.map keyD) (fst_map k v kvs).symm
  · rename_i hn
    refine ⟨by simp, ⟨?_, fun p hp => ?_⟩, ?_, by simp⟩
    rotate_left
    · rcases List.mem_append.mp hp with hp | hp
      · exact nd.2 p hp
      · rw [List.mem_singleton.mp hp]; exact kok
    rotate_left
    · rw [List.map_append, List.map_cons, List.map_nil, List.nodup_append]
      refine ⟨nd.1, by simp, fun a ha b hb => ?_⟩
      have hb' : b = k := by simpa using hb
      subst hb'
      intro z
      subst z
      obtain ⟨p, hp, rfl⟩ := List.mem_map.mp ha
      exact hn (List.any_eq_true.mpr ⟨p, hp, by simp⟩)
    · rw [List.map_append]
      exact h.append (.cons r .nil)
end
def gkv (kvs : List (Key × V)) : List (GK × V) := kvs.map fun p => (.inl p.1, p.2)
theorem putK_gkv {kvs : List (Key × V)} {k : Key} {v : V} : putK (gkv kvs) (.inl k) v = gkv (putK kvs k v) := by
  unfold putK gkv
  have e : (kvs.map fun p => ((.inl p.1 : GK), p.2)).any (fun kv => decide (kv.1 = .inl k)) = kvs.any fun kv => decide (kv.1 = k) := by
    rw [List.any_map]
    congr 1
    funext p
    simp
  rw [e]
  split
  · rw [List.map_map, List.map_map]
    apply List.map_congr_left
    intro p _
    simp only [Function.comp_apply]
    by_cases h : p.1 = k
    · rw [if_pos h, if_pos (by rw [h])]
    · rw [if_neg h, if_neg (fun z => h (Sum.inl.inj z))]
  · simp
def GK.low : GK → Bool
  | .inl _ => true
  | .inr ks => decide ((NestedKey.tup ks).depth ≤ 8)
def okK (ks : List D) (k : GK) : Bool := (ks.isEmpty || kindT ks == k.isT) && k.low
section
variable {cl : CTab}
theorem putK_gkt {l : NL} {k : List NestedKey} {b : Addr} {v : V} : putK (l.map fun p => ((.inr p.1 : GK), p.2.2)) (.inr k) v = (putN l k b v).map fun p => ((.inr p.1 : GK), p.2.2) := by
  unfold putK putN
  have e : (l.map fun p => ((.inr p.1 : GK), p.2.2)).any (fun kv => decide (kv.1 = .inr k)) = l.any fun p => decide (p.1 = k) := by
    rw [List.any_map]
    congr 1
    funext p
    simp
  rw [e]
  split
  · rw [List.map_map, List.map_map]
    apply List.map_congr_left
    intro p _
    simp only [Function.comp_apply]
    by_cases h : p.1 = k
    · rw [if_pos h, if_pos (by rw [h])]
    · rw [if_neg h, if_neg (fun z => h (Sum.inr.inj z))]
  · simp
theorem okK_cases {kvs : List (GK × V)} {k : GK} (h : okK (kvs.map fun p => keyD p.1) k = true) : (kvs = [] ∨ kindT (kvs.map fun p => keyD p.1) = k.isT) ∧ ∀ ks, k = .inr ks → (NestedKey.tup ks).depth ≤ 8 := by
  unfold okK at h
  rw [Bool.and_eq_true] at h
  refine ⟨?_, fun ks e => ?_⟩
  · have h := h.1
    rcases Bool.or_eq_true _ _ ▸ h with h | h
    · left
      cases kvs with
      | nil => rfl
      | cons a b => cases h
    · right; exact eq_of_beq h
  · subst e
    exact of_decide_eq_true h.2
theorem dput_of {Z H : Hp} {a : Addr} {o : HO} {kvs : List (GK × V)} {k : GK} {y v : V} (e : H a = some o) (hz : Sub Z H) (dk : DKV cl Z a o kvs) (ry : KeyV H y k) (rz : KeyV Z y k) (ok : okK (kvs.map fun p => keyD p.1) k = true) (hl : kvs.length < sizeLine) :
    ∃ o', DPut2 cl H a y v (upd H a o') ∧ CPut cl.P cl.w H a y v (upd H a o') ∧ DKV cl Z a o' (putK kvs k v) ∧ immO o' = false := by
  obtain ⟨oc, dp⟩ := okK_cases ok
  rcases dk with ⟨l, h1, h2⟩ | ⟨l, h0, h1, h2, h3⟩
  · subst h1 h2
    rw [List.length_map] at hl
    rcases k with k | k
    · obtain rfl : y = kV k := ry
      exact ⟨_, .inl (DPut.k e hl), .inl ⟨l, k, rfl, e, hl, rfl⟩, .inl ⟨_, rfl, putK_gkv⟩, rfl⟩
    · have ry' := ry
      simp only [KeyV, KAt] at ry'
      obtain ⟨b, vs, rfl, hb, _⟩ := ry'
      have l0 : l = [] := by
        rcases oc with h | h
        · cases l with
          | nil => rfl
          | cons => cases h
        · rcases l with _ | ⟨⟨k | k, v⟩, l⟩
          · rfl
          · exact nomatch h
          · exact nomatch h
      subst l0
      have g : NPut cl.P cl.w H a (.ref b) v (upd H a (dN cl.P cl.w a (putN [] k b v))) := ⟨k, b, [], rfl, ry, dp _ rfl, by decide, .inr ⟨e, rfl⟩, rfl⟩
      exact ⟨_, .inr g, .inr g, .inr ⟨putN [] k b v, putN_ne, rfl, putK_gkt (l := []), KsAt.put (fun _ h => nomatch h) rz (dp _ rfl)⟩, rfl⟩
  · subst h1 h2
    rw [List.length_map] at hl
    rcases k with k | k
    · exfalso
      rcases oc with h | h
      · cases l with
        | nil => exact h0 rfl
        | cons => cases h
      · cases l with
        | nil => exact h0 rfl
        | cons => exact nomatch h
    · have ry' := ry
      simp only [KeyV, KAt] at ry'
      obtain ⟨b, vs, rfl, hb, _⟩ := ry'
      have g : NPut cl.P cl.w H a (.ref b) v (upd H a (dN cl.P cl.w a (putN l k b v))) := ⟨k, b, l, rfl, ry, dp _ rfl, hl, .inl ⟨e, h3.mono fun _ _ q => hz _ _ q⟩, rfl⟩
      exact ⟨_, .inr g, .inr g, .inr ⟨putN l k b v, putN_ne, rfl, putK_gkt, h3.put rz (dp _ rfl)⟩, rfl⟩
end
def putAll : List D → List D → List (D × D) → Option D
  | ks, ds, [] => some (.dct ks ds)
  | ks, ds, (k, d) :: r => k.key.bind fun k => if okK ks k = true then putAll (putKs ks k) (putVs ks ds k d) r else none
def compFD (a : D → Option Asg) (t : Env → M B Bool) (ek e : Env → M B D) (ρ : Env) (d : D) : M B (Option (D × D)) :=
  noErr (M.bind (lift ((a d).map (setsE ρ))) fun ρ' => M.bind (t ρ') fun k => if k = true then M.bind (ek ρ') fun x => M.bind (e ρ') fun y => M.pure (some (x, y)) else M.pure none)
theorem dc_it {P : Program} {w0 : World} {J : It} {n : Nat} {G : Hp → Prop} {Y : Nat → Hp → V → Hp → Prop} (w : Walk J n G Y) {g : TG} {tt : TT} {tk te : TE} {vs : List Nat} {σ : L2.St} {H1 : Hp} {D : Addr} {Qd : Hp → Prop} (Pv : Nat → Hp → Prop) (h0 : Pv 0 (upd H1 D (.dK []))) (hG : ∀ i H, i ≤ n → Pv i H → G H)
    (hs : ∀ i x H H', i < n → Pv i H → Y i H x H' → g x (L2.wipe σ vs) H' fun σ2 H2 => L2.wipe σ2 vs = L2.wipe σ vs ∧ tt σ2 H2 fun b H3 =>
      if b = true then tk σ2 H3 fun y H4 => te σ2 H4 fun z H5 => ∃ H6, CPut P w0 H5 D y z H6 ∧ Pv (i + 1) H6 else Pv (i + 1) H3) (hd : ∀ H, Pv n H → Qd H) :
    ∃ W : Nat → Nat → Hp → Prop, (∃ m, W 0 m (upd H1 D (.dK []))) ∧ ∀ i m H, W i m H →
      (J.stop i H ∧ Qd H) ∨ (J.go i H ∧ ∃ Nx : Hp → Prop, (∀ H', Nx H' → ∃ m', m' < m ∧ W (i + 1) m' H') ∧ ∀ x H', J.yld i H x H' → g x (L2.wipe σ vs) H' fun σ2 H2 => L2.wipe σ2 vs = L2.wipe σ vs ∧ tt σ2 H2 fun b H3 =>
        if b = true then tk σ2 H3 fun y H4 => te σ2 H4 fun z H5 => ∃ H6, CPut P w0 H5 D y z H6 ∧ Nx H6 else Nx H3) := by
  refine ⟨fun i m H => m = n - i ∧ i ≤ n ∧ Pv i H, ⟨n, by simp, Nat.zero_le _, h0⟩, ?_⟩
  rintro i m H ⟨rfl, hi, p⟩
  have q := hG i H hi p
  by_cases hlt : i < n
  · refine .inr ⟨w.goes i H hlt q, Pv (i + 1), fun H' p' => ⟨n - (i + 1), by omega, rfl, hlt, p'⟩, fun x H' y => hs i x H H' hlt p (w.yields i H x H' hlt q y)⟩
  · have e : i = n := by omega
    subst e
    exact .inl ⟨w.stops H q, hd H p⟩
theorem compL_noErr {β : Type} {f : D → M B (Option β)} {g : D → M B (Option β)} (hf : ∀ d, f d = noErr (g d)) : ∀ {ds : List D} {s s' : B.T} {x : Exn}, compL f ds s ≠ .err x s'
  | [], _, _, _, h => by cases h
  | d :: ds, s, s', x, h => by
    unfold compL M.bind at h
    cases e : f d s with
    | ok o s1 =>
      simp only [e] at h
      cases e2 : compL f ds s1 with
      | ok r s2 => simp only [e2] at h; cases h
      | err y s2 => exact compL_noErr hf e2
      | stuck => simp only [e2] at h; cases h
    | err y s1 =>
      rw [hf d] at e
      unfold noErr at e
      split at e <;> cases e
    | stuck => simp only [e] at h; cases h
section
variable {cl : CTab} {md : Bool} {W : WX} {X : Cx}
theorem dcomp_rest {own : List (Str × Nat)} {b : D → Option Asg} {t : Env → M B Bool} {fk fe : Env → M B D} (hcl : ClOk cl X) (hin : TgIn (own.map (·.2)) b) {σ : L2.St} {Q : VK} {Z1 : Zp} {C1 H1 : Hp} {s1 : B.T} {ρ : Env} {J : It} {ds : List D}
    (w1 : Wd B md Z1 C1 H1 s1) (e1 : EnvR X.K cl Z1 ρ σ) (r1 : ItR X.K cl Z1 J ds) (p1 : PostO X.K cl md W σ Z1 C1 H1 (M.bind (compL (compFD b t fk fe (wipeE ρ (own.map (·.2)))) ds) (fun r => lift (putAll [] [] r)) s1) Q) :
    tDcN X.prog X.w (fun _ _ R => R J H1) (tDG X.K cl b) (tG X.K cl B md RpE W0 t) (tG X.K cl B md (RpD X.K cl) W0 fk) (tG X.K cl B md (RpD X.K cl) W0 fe) (own.map (·.2)) σ H1 Q := by
  intro Dd hD
  have zD := none_of_sub w1.zh hD
  have cD := none_of_sub w1.ch hD
  refine dc_it r1.1 (fun i H => ∃ Zi Ci si o kvs ks acc, Wd B md Zi Ci H si ∧ Nx Z1 C1 H1 Zi Ci H ∧ (H Dd = some o ∧ DKV cl Zi.h Dd o kvs) ∧ Zi Dd = none ∧ Ci Dd = none ∧ (ks = kvs.map (fun p => keyD p.1) ∧ KNd kvs ∧ RepL X.K cl Zi (kvs.map (·.2)) acc) ∧ kvs.length ≤ i ∧ PostO X.K cl md W σ Z1 C1 H1 (M.bind (compL (compFD b t fk fe (wipeE ρ (own.map (·.2)))) (ds.drop i)) (fun r => lift (putAll ks acc r)) si) Q)
    ⟨Z1, C1, s1, .dK [], [], [], [], w1.mut zD cD, (Nx.refl ..).mut hD, ⟨upd_same, .inl ⟨[], rfl, rfl⟩⟩, zD, cD, ⟨rfl, ⟨List.nodup_nil, fun _ h => nomatch h⟩, .nil⟩, Nat.le_refl _, by simpa using p1⟩ (fun i H hi ⟨Zi, Ci, si, o, kvs, ks, acc, wi, ni, _⟩ => ni.zz.to wi.zh) ?_ ?_
  · rintro i x H2 H2' hi ⟨Zi, Ci, si, o, kvs, ks, acc, wi, ni, ⟨hDi, dki⟩, zi, ci, ⟨rk, rn, ri⟩, li, pi⟩ ⟨d, hd, hy⟩
    obtain ⟨Zc, al, rx⟩ := hy Zi ni.zz wi.zh
    have hdr : ds.drop i = d :: ds.drop (i + 1) := by
      have hlt : i < ds.length := hi
      rw [List.drop_eq_getElem_cons hlt]
      have : ds[i] = d := by
        rw [List.getElem?_eq_getElem hlt] at hd
        exact Option.some.inj hd
      rw [this]
    rw [hdr, compL_step] at pi
    have wc := al.wd wi
    have nc := ni.trans w1.ch wi.ch al.nx
    have hDc : H2' Dd = some o := al.hh _ _ hDi
    have zc : Zc Dd = none := by
      cases q : Zc Dd with
      | none => rfl
      | some u =>
        rcases al.zf Dd (some_ne q) with z | z
        · exact absurd zi z
        · rw [hDi] at z; cases z
    -- what the turn does
    have ew := (e1.mono (ni.zz.trans al.zz)).wipe (own.map (·.2))
    cases hb : b d with
    | none =>
      exfalso
      have hf : compFD b t fk fe (wipeE ρ (own.map (·.2))) d si = .stuck := by simp only [compFD, M.bind, noErr, lift, hb, Option.map_none]
      rw [hf] at pi
      exact pi
    | some as =>
      refine ⟨Zc, d, as, wc.zh, rx, hb, fun vs2 a2 => ?_⟩
      have e2 := ew.sets a2
      generalize hρ' : setsE (wipeE ρ (own.map (·.2))) as = ρ' at e2
      have wσ : L2.wipe (setsV (L2.wipe σ (own.map (·.2))) vs2) (own.map (·.2)) = L2.wipe σ (own.map (·.2)) := by
        rw [wipe_sets vs2 _ (asgR_mem a2 (hin d as hb))]
        exact wipe_sub _ (fun _ h => h)
      refine ⟨wσ, Zc, Ci, si, ρ', wc, e2, ?_⟩
      cases et : t ρ' si with
      | stuck =>
        exfalso
        have hf : compFD b t fk fe (wipeE ρ (own.map (·.2))) d si = .stuck := by simp only [compFD, M.bind, noErr, lift, M.pure, hb, Option.map_some, hρ', et]
        rw [hf] at pi
        exact pi
      | err xx s2 =>
        exfalso
        have hf : compFD b t fk fe (wipeE ρ (own.map (·.2))) d si = .stuck := by simp only [compFD, M.bind, noErr, lift, M.pure, hb, Option.map_some, hρ', et]
        rw [hf] at pi
        exact pi
      | ok k s2 =>
        rintro k' Z3 C3 H3 w3 n3 rfl
        have n3' := nc.trans w1.ch wc.ch n3
        obtain ⟨hD3, z3, c3⟩ := n3.own hDc zc ci
        cases k' with
        | false =>
          refine ⟨Z3, C3, s2, o, kvs, ks, acc, w3, n3', ⟨hD3, dki.mono fun _ _ q => n3.zz.h _ _ (al.zz.h _ _ q)⟩, z3, c3, ⟨rk, rn, (ri.mono al.zz).mono n3.zz⟩, Nat.le_succ_of_le li, ?_⟩
          have hf : compFD b t fk fe (wipeE ρ (own.map (·.2))) d si = .ok none s2 := by simp [compFD, M.bind, noErr, lift, M.pure, hb, hρ', et]
          rw [hf] at pi
          exact pi
        | true =>
          refine ⟨Z3, C3, s2, ρ', w3, e2.mono n3.zz, ?_⟩
          cases ek : fk ρ' s2 with
          | stuck =>
            exfalso
            have hf : compFD b t fk fe (wipeE ρ (own.map (·.2))) d si = .stuck := by simp [compFD, M.bind, noErr, lift, M.pure, hb, hρ', et, ek]
            rw [hf] at pi
            exact pi
          | err xx s3 =>
            exfalso
            have hf : compFD b t fk fe (wipeE ρ (own.map (·.2))) d si = .stuck := by simp [compFD, M.bind, noErr, lift, M.pure, hb, hρ', et, ek]
            rw [hf] at pi
            exact pi
          | ok kk s3 =>
            intro vk Z4 C4 H4 w4 n4 rkk
            obtain ⟨hD4, z4, c4⟩ := n4.own hD3 z3 c3
            have n4' := n3'.trans w1.ch w3.ch n4
            refine ⟨Z4, C4, s3, ρ', w4, (e2.mono n3.zz).mono n4.zz, ?_⟩
            cases ee : fe ρ' s3 with
            | stuck =>
              exfalso
              have hf : compFD b t fk fe (wipeE ρ (own.map (·.2))) d si = .stuck := by simp [compFD, M.bind, noErr, lift, M.pure, hb, hρ', et, ek, ee]
              rw [hf] at pi
              exact pi
            | err xx s4 =>
              exfalso
              have hf : compFD b t fk fe (wipeE ρ (own.map (·.2))) d si = .stuck := by simp [compFD, M.bind, noErr, lift, M.pure, hb, hρ', et, ek, ee]
              rw [hf] at pi
              exact pi
            | ok y s4 =>
              intro vy Z5 C5 H5 w5 n5 ry
              obtain ⟨hD5, z5, c5⟩ := n5.own hD4 z4 c4
              have n5' := n4'.trans w1.ch w4.ch n5
              have hf : compFD b t fk fe (wipeE ρ (own.map (·.2))) d si = .ok (some (kk, y)) s4 := by simp [compFD, M.bind, noErr, lift, M.pure, hb, hρ', et, ek, ee]
              rw [hf] at pi
              have lz : kvs.length < sizeLine := Nat.lt_of_le_of_lt li (Nat.lt_of_lt_of_le hi r1.2)
              cases hk0 : kk.key with
              | none =>
                exfalso
                simp only [consO, putAll, hk0, Option.bind_none] at pi
                unfold M.bind at pi
                cases hcl : compL (compFD b t fk fe (wipeE ρ (own.map (·.2)))) (ds.drop (i + 1)) s4 with
                | ok r s5 => simp only [hcl] at pi; exact pi
                | err xx s5 => exact compL_noErr (fun _ => rfl) hcl
                | stuck => simp only [hcl] at pi; exact pi
              | some k0 =>
                cases key_eq hk0
                have dk5 : DKV cl Z5.h Dd o kvs := dki.mono fun _ _ q => n5.zz.h _ _ (n4.zz.h _ _ (n3.zz.h _ _ (al.zz.h _ _ q)))
                by_cases hok : okK (kvs.map fun p => keyD p.1) k0 = true
                · have rk5 := rkk.mono n5.zz
                  obtain ⟨o', _, cp, dk', _⟩ := dput_of (v := vy) hD5 w5.zh dk5 (keyV_of_rep rk5 w5.zh) (keyV_of_rep rk5 (Sub.refl _)) hok lz
                  obtain ⟨q1, q2, q3, q4⟩ := put_rep (k := k0) (keyOk_rep rkk) ry rk rn ((((ri.mono al.zz).mono n3.zz).mono n4.zz).mono n5.zz)
                  rw [← hcl.p, ← hcl.w] at cp
                  refine ⟨_, cp, Z5, C5, s4, o', putK kvs k0 vy, putKs ks k0, putVs ks acc k0 y, w5.mut z5 c5, n5'.mut hD, ⟨upd_same, dk'⟩, z5, c5, ⟨q1, q2, q3⟩, by omega, ?_⟩
                  rw [← rk] at hok
                  simpa only [consO, putAll, hk0, Option.bind_some, hok, if_true] using pi
                · exfalso
                  rw [← rk] at hok
                  simp only [consO, putAll, hk0, Option.bind_some, if_neg hok] at pi
                  unfold M.bind at pi
                  cases hcl : compL (compFD b t fk fe (wipeE ρ (own.map (·.2)))) (ds.drop (i + 1)) s4 with
                  | ok r s5 => simp only [hcl] at pi; exact pi
                  | err xx s5 => exact compL_noErr (fun _ => rfl) hcl
                  | stuck => simp only [hcl] at pi; exact pi
  · rintro H2 ⟨Zi, Ci, si, o, kvs, ks, acc, wi, ni, ⟨hDi, dki⟩, zi, ci, ⟨rk, rn, ri⟩, li, pi⟩
    rw [List.drop_length] at pi
    have pi' : PostO X.K cl md W σ Z1 C1 H1 (.ok (.dct ks acc) si) Q := pi
    exact pi' Dd Zi Ci H2 wi ni hD zi ci ⟨o, kvs, hDi, dki, rk, rn, ri⟩
theorem dx_dcomp {kx elt tg iter : Expr} {ifs : List Expr} {scope : Scope} {own : List (Str × Nat)} {pos : Pos} {src : Env → M B (List D)} {b : D → Option Asg} {t : Env → M B Bool} {fk fe : Env → M B D} (hcl : ClOk cl X) (hu : X.A.units + 65 < cLine) (hc : X.calm = true) (hN : X.N.Nodup)
    (hi : DI cl B md W X tg iter src) (ok : BlkOk X.N X.env.scope scope own)
    (hg : ∀ (s : Shared) (H : Hp) (C : Addr) (cs : List (Str × Addr)) (fp : List Addr), DG cl (X.blk s H scope (compEnvC scope cs C X.env) fp) tg b) (hin : TgIn (own.map (·.2)) b)
    (ht : ∀ (s : Shared) (H : Hp) (C : Addr) (cs : List (Str × Addr)) (fp : List Addr), DTs cl B md (X.blk s H scope (compEnvC scope cs C X.env) fp) ifs t)
    (hk : ∀ (s : Shared) (H : Hp) (C : Addr) (cs : List (Str × Addr)) (fp : List Addr), DE cl B md W0 (X.blk s H scope (compEnvC scope cs C X.env) fp) kx fk)
    (he : ∀ (s : Shared) (H : Hp) (C : Addr) (cs : List (Str × Addr)) (fp : List Addr), DE cl B md W0 (X.blk s H scope (compEnvC scope cs C X.env) fp) elt fe) (hs : ∀ x, foldedSetIterable iter X.env x = pure x := by intro _; rfl) :
    DX cl B md W X (.DictComp kx elt [⟨tg, iter, ifs, 0⟩] scope pos) fun ρ => M.bind (src ρ) fun ds => M.bind (compL (compFD b t fk fe (wipeE ρ (own.map (·.2)))) ds) fun r => lift (putAll [] [] r) := by
  refine PE.weak (pe_dcN (g := tDG X.K cl b) (tt := tG X.K cl B md RpE W0 t) (tk := tG X.K cl B md (RpD X.K cl) W0 fk) (tv := tG X.K cl B md (RpD X.K cl) W0 fe) hc hN (by omega) hi ok hg ht hk he hs) fun σ H Q ⟨Z, C, s, ρ, w, e, p⟩ => ?_
  exact ⟨Z, C, s, ρ, w, e, PostO.seq w.ch p fun ds s1 J Z1 C1 H1 w1 n1 r1 p1 => dcomp_rest hcl hin w1 (e.mono n1.zz) r1 p1⟩
end
end DN
namespace DN
open PySem PySem.Spec PyProof.Rows L2 RZ ND
variable {B : Sto}
def leS (a b : Str) : Bool := !ltCps b.cps.toList a.cps.toList
theorem leS_iff {a b : Str} : leS a b = true ↔ a.cps.toList ≤ b.cps.toList := by
  unfold leS
  rw [PyProof.Rows.ltCps_eq]
  simp [List.not_lt]
theorem leS_trans (a b c : Str) (h1 : leS a b = true) (h2 : leS b c = true) : leS a c = true := leS_iff.mpr (List.le_trans (leS_iff.mp h1) (leS_iff.mp h2))
theorem leS_total (a b : Str) : (leS a b || leS b a) = true := by
  rw [Bool.or_eq_true, leS_iff, leS_iff]
  exact List.le_total _ _
theorem leS_anti {a b : Str} (h1 : leS a b = true) (h2 : leS b a = true) : a = b := by
  have := List.le_antisymm (leS_iff.mp h1) (leS_iff.mp h2)
  cases a with | mk x => cases b with | mk y =>
    simp only at this
    congr 1
    exact Array.ext' this
def sortS (xs : List Str) : List Str := xs.mergeSort leS
theorem rising_pair : ∀ {l : List Str} {p : Str}, risingS p l = true → (p :: l).Pairwise fun a b => leS a b = true
  | [], p, _ => by simp
  | x :: r, p, h => by
    unfold risingS at h
    rw [Bool.and_eq_true] at h
    have ih := rising_pair h.2
    refine List.pairwise_cons.mpr ⟨fun y hy => ?_, ih⟩
    rcases List.mem_cons.mp hy with rfl | hy
    · exact h.1
    · exact leS_trans _ _ _ h.1 ((List.pairwise_cons.mp ih).1 y hy)
theorem sortedS_pair : ∀ {l : List Str}, sortedS l = true → l.Pairwise fun a b => leS a b = true
  | [], _ => .nil
  | _ :: _, h => rising_pair h
theorem sortS_uniq {ys xs : List Str} (h : ys.Perm xs) (s : sortedS ys = true) : ys = sortS xs := by
  refine List.Perm.eq_of_pairwise (le := fun a b => leS a b = true) (fun a b _ _ h1 h2 => leS_anti h1 h2) (sortedS_pair s) (List.pairwise_mergeSort leS_trans leS_total xs) (h.trans (List.mergeSort_perm xs leS).symm)
def strsOf : List D → Option (List Str)
  | [] => some []
  | .str x :: ds => (strsOf ds).map fun r => x :: r
  | _ :: _ => none
theorem strsOf_eq : ∀ {ds : List D} {xs : List Str}, strsOf ds = some xs → ds = xs.map D.str
  | [], _, e => by cases e; rfl
  | d :: ds, xs, e => by
    cases d <;> (unfold strsOf at e; try (cases e; done))
    obtain ⟨r, h1, h2⟩ := Option.map_eq_some_iff.mp e
    subst h2
    rw [strsOf_eq h1]
    rfl
def sortKD : D → Option D
  | .dct ks _ => (strsOf ks).bind fun xs => if xs.length < 64 then some (.lst ((sortS xs).map .str)) else none
  | _ => none
theorem inl_map : ∀ {a b : List Key}, a.map (Sum.inl : Key → GK) = b.map Sum.inl → a = b
  | [], [], _ => rfl
  | [], _ :: _, h => nomatch h
  | _ :: _, [], h => nomatch h
  | x :: a, y :: b, h => by
    rw [List.map_cons, List.map_cons, List.cons.injEq] at h
    rw [Sum.inl.inj h.1, inl_map h.2]
theorem keyD_str {kvs : List (GK × V)} {xs : List Str} (h : (kvs.map fun p => keyD p.1) = xs.map D.str) : kvs.map (·.1) = xs.map fun x => .inl (.inr x) := by
  induction kvs generalizing xs with
  | nil => cases xs with
    | nil => rfl
    | cons => cases h
  | cons p kvs ih =>
    cases xs with
    | nil => cases h
    | cons x xs =>
      rw [List.map_cons, List.map_cons, List.cons.injEq] at h
      obtain ⟨h1, h2⟩ := h
      rw [List.map_cons, List.map_cons, ih h2]
      congr 1
      rcases hk : p.1 with (i | y) | ks
      · rw [hk] at h1; cases h1
      · rw [hk] at h1; cases h1; rfl
      · rw [hk] at h1; cases h1
theorem dkv_str {cl : CTab} {Z : Hp} {a : Addr} {o : HO} {kvs : List (GK × V)} {xs : List Str} (h : DKV cl Z a o kvs) (e : kvs.map (·.1) = xs.map fun x => .inl (.inr x)) : ∃ l : List (Key × V), o = .dK l ∧ kvs = gkv l ∧ l.map (·.1) = xs.map Sum.inr := by
  rcases h with ⟨l, h1, h2⟩ | ⟨l, h0, h1, h2, _⟩
  · refine ⟨l, h1, h2, ?_⟩
    subst h2
    have e2 : l.map (fun p => (Sum.inl p.1 : GK)) = xs.map fun x => .inl (.inr x) := by rw [← e, List.map_map]; rfl
    have e3 : (l.map (·.1)).map (Sum.inl : Key → GK) = (xs.map (Sum.inr : Str → Key)).map (Sum.inl : Key → GK) := by rw [List.map_map, List.map_map]; exact e2
    exact inl_map e3
  · subst h2
    cases l with
    | nil => exact absurd rfl h0
    | cons p l =>
      cases xs with
      | nil => cases e
      | cons x xs =>
        rw [List.map_cons, List.map_cons, List.map_cons, List.cons.injEq] at e
        exact nomatch e.1
section
variable {K : PySem.W.Frag} {cl : CTab} {Z : Zp}
theorem strs_rep : ∀ {ys : List Str}, (∀ y ∈ ys, y.length ≤ sizeLine ∧ PyData.strOk y = true) → RepL K cl Z (ys.map V.str) (ys.map D.str)
  | [], _ => .nil
  | y :: ys, h => .cons (.str (h y List.mem_cons_self).1 (h y List.mem_cons_self).2) (strs_rep fun z hz => h z (List.mem_cons_of_mem _ hz))
end
section
variable {cl : CTab} {md : Bool} {W : WX} {X : Cx}
theorem de_sortedX {e : Expr} {f : Env → M B D} {p pos : Pos} (hc : X.calm = true) (hg : Gl X "sorted") (hm : X.mg "sorted" = none) (he : DX cl B md W X e f) (hs : starEach [e] X.env = (false, eval e X.env) :: starEach [] X.env := by rfl) (hpl : (backTo pos (starEach [] X.env)).any (·.1) = false := by rfl) :
    DE cl B md W X (.Call (.Name "sorted" p) [e] [] pos) fun ρ => M.bind (f ρ) fun d => lift (sortKD d) := by
  refine PE.weak (pe_callB (call_sortedD hc) hg hm boot_sorted (pa_cons he pa_nil hs) (by decide) (by decide) hs hpl) fun σ H Q ⟨Z, C, s, ρ, w, e, pp⟩ => ?_
  refine ⟨Z, C, s, ρ, w, e, ?_⟩
  unfold M.bind at pp
  cases hf : f ρ s with
  | stuck => simp only [hf] at pp; exact pp
  | err x s1 => simp only [hf] at pp; exact pp
  | ok d s1 =>
    simp only [hf] at pp
    intro a Z1 C1 H1 w1 n1 ha hz hcn o
    have p1 := Post.step n1 w.ch w1.ch pp
    obtain ⟨d2, hd, q⟩ := post_lift w1 p1
    cases d with
    | dct ks ds =>
      have hd : ((strsOf ks).bind fun xs => if xs.length < 64 then some (.lst ((sortS xs).map .str)) else none) = some d2 := hd
      obtain ⟨o, gkvs, h1, dk, h2, h3, h4⟩ := o
      cases hx : strsOf ks with
      | none => rw [hx] at hd; cases hd
      | some xs =>
        rw [hx] at hd
        simp only [Option.bind_some] at hd
        split at hd <;> cases hd
        rename_i h64
        have hkg := keyD_str (h2.symm.trans (strsOf_eq hx))
        obtain ⟨kvs, rfl, rfl, hk⟩ := dkv_str dk hkg
        refine ⟨a, kvs, xs, rfl, .inl h1, hk, h64, fun ys pn hperm hsort hp => ?_⟩
        have hu := sortS_uniq hperm hsort
        have ok : ∀ y ∈ ys, y.length ≤ sizeLine ∧ PyData.strOk y = true := fun y hy => by
          have hy2 : Sum.inr y ∈ kvs.map (·.1) := by rw [hk]; exact List.mem_map.mpr ⟨y, hperm.mem_iff.mp hy, rfl⟩
          obtain ⟨pr, hpr, e1⟩ := List.mem_map.mp hy2
          have := h3.2 (.inl pr.1, pr.2) (List.mem_map.mpr ⟨pr, hpr, rfl⟩)
          rw [e1] at this
          exact this
        have al : Al Z1 H1 (upz Z1 pn (.lst (ys.map V.str))) (upd H1 pn (.lst (ys.map V.str))) := .new w1.zh hp (fun _ z => nomatch z)
        rw [← hu] at q
        refine q _ _ _ al (.lst upd_same ?_ (strs_rep ok))
        rw [List.length_map, hperm.length_eq, sizeLine_eq]
        omega
    | _ => cases hd
end
def alikeAllD (xs : List D) : Bool := xs.all fun x => xs.all fun y => PySem.W.alike x.py y.py
def tupCons : D → Bool
  | .tup _ => true
  | _ => false
def noTup : D → Bool
  | .tup _ => false
  | .non => false
  | _ => true
def sortableD (xs : List D) : Bool := xs.all D.okc && alikeAllD xs && (xs.all tupCons || xs.all noTup)
noncomputable def leData (x y : D) : Bool := PySem.W.dataLe false D.py x y
noncomputable def sortDL (xs : List D) : List D := xs.mergeSort leData
noncomputable def sortedDD : List D → Option D
  | [.lst xs] => if sortableD xs = true then some (.lst (sortDL xs)) else none
  | [.tup xs] => if sortableD xs = true then some (.lst (sortDL xs)) else none
  | _ => none
end DN
namespace DN
open PySem PySem.Spec PyProof.Rows L2 RZ ND
variable {B : Sto}
@[simp] abbrev xOp (g : D → D → Option D) (f1 f2 : Env → M B D) : Env → M B D := fun ρ => M.bind (f1 ρ) fun x => M.bind (f2 ρ) fun y => lift (g x y)
@[simp] abbrev xUn (g : D → Option D) (f1 : Env → M B D) : Env → M B D := fun ρ => M.bind (f1 ρ) fun x => lift (g x)
@[simp] abbrev aN : Env → M B (List D) := fun _ => M.pure []
@[simp] abbrev aC (f : Env → M B D) (g : Env → M B (List D)) : Env → M B (List D) := fun ρ => M.bind (f ρ) fun x => M.bind (g ρ) fun xs => M.pure (x :: xs)
@[simp] abbrev xTup (f : Env → M B (List D)) : Env → M B D := fun ρ => M.bind (f ρ) fun xs => M.pure (.tup xs)
@[simp] abbrev xLst (f : Env → M B (List D)) : Env → M B D := fun ρ => M.bind (f ρ) fun xs => M.pure (.lst xs)
@[simp] abbrev tTr (f : Env → M B D) : Env → M B Bool := fun ρ => M.bind (f ρ) fun x => lift (truthD x)
@[simp] abbrev tCm (g : D → D → Option D) (f1 f2 : Env → M B D) : Env → M B Bool := fun ρ => M.bind (f1 ρ) fun x => M.bind (f2 ρ) fun y => lift ((g x y).bind D.asB)
@[simp] abbrev tNt (f : Env → M B Bool) : Env → M B Bool := fun ρ => M.bind (f ρ) fun b => M.pure (!b)
@[simp] abbrev tAn (f g : Env → M B Bool) : Env → M B Bool := fun ρ => M.bind (f ρ) fun k => if k = true then g ρ else M.pure false
@[simp] abbrev tOo (f g : Env → M B Bool) : Env → M B Bool := fun ρ => M.bind (f ρ) fun k => if k = true then M.pure true else g ρ
@[simp] abbrev xAn (f g : Env → M B D) : Env → M B D := fun ρ => M.bind (f ρ) fun x => M.bind (lift (truthD x)) fun k => if k = true then g ρ else M.pure x
@[simp] abbrev xOr (f g : Env → M B D) : Env → M B D := fun ρ => M.bind (f ρ) fun x => M.bind (lift (truthD x)) fun k => if k = true then M.pure x else g ρ
@[simp] abbrev xNt (f : Env → M B D) : Env → M B D := fun ρ => M.bind (f ρ) fun x => M.bind (lift (truthD x)) fun k => M.pure (.bl (!k))
@[simp] abbrev xIf (t : Env → M B Bool) (f g : Env → M B D) : Env → M B D := fun ρ => M.bind (t ρ) fun k => if k = true then f ρ else g ρ
@[simp] abbrev xCh (g g' : D → D → Option D) (f1 f2 f3 : Env → M B D) : Env → M B D := fun ρ => M.bind (f1 ρ) fun x => M.bind (f2 ρ) fun y => M.bind (lift ((g x y).bind D.asB)) fun k => if k = true then M.bind (f3 ρ) fun z => lift (g' y z) else M.pure (.bl false)
@[simp] abbrev tCh (g g' : D → D → Option D) (f1 f2 f3 : Env → M B D) : Env → M B Bool := fun ρ => M.bind (f1 ρ) fun x => M.bind (f2 ρ) fun y => M.bind (lift ((g x y).bind D.asB)) fun k => if k = true then M.bind (f3 ρ) fun z => lift ((g' y z).bind D.asB) else M.pure false
@[simp] abbrev xIx (f1 f2 : Env → M B D) : Env → M B D := xOp ixD f1 f2
@[simp] abbrev oN : Env → M B (Option Int) := fun _ => M.pure none
@[simp] abbrev oS (f : Env → M B D) : Env → M B (Option Int) := fun ρ => M.bind (f ρ) fun x => lift (x.asI.map some)
@[simp] abbrev xSl (f : Env → M B D) (gl gh : Env → M B (Option Int)) : Env → M B D := fun ρ => M.bind (f ρ) fun x => M.bind (gl ρ) fun l => M.bind (gh ρ) fun u => lift (slD x l u)
@[simp] abbrev xB (g : List D → Option D) (f : Env → M B (List D)) : Env → M B D := fun ρ => M.bind (f ρ) fun xs => lift (g xs)
@[simp] abbrev xCall (g : List D → M B D) (f : Env → M B (List D)) : Env → M B D := fun ρ => M.bind (f ρ) g
@[simp] abbrev iOf (g : D → Option (List D)) (f : Env → M B D) : Env → M B (List D) := fun ρ => M.bind (f ρ) fun x => lift (g x)
@[simp] abbrev iOf2 (g : D → D → Option (List D)) (f f' : Env → M B D) : Env → M B (List D) := fun ρ => M.bind (f ρ) fun x => M.bind (f' ρ) fun y => lift (g x y)
@[simp] abbrev xLc (own : List Nat) (b : D → Option Asg) (t : Env → M B Bool) (fe : Env → M B D) (src : Env → M B (List D)) : Env → M B D := fun ρ => M.bind (src ρ) fun ds => M.bind (compL (compF b t fe (wipeE ρ own)) ds) fun r => M.pure (.lst r)
theorem okK_strs {ks : List Str} {n : Str} : okK (ks.map D.str) (.inl (.inr n)) = true := by
  unfold okK
  cases ks <;> rfl
theorem putAll_s {ks : List Str} {vs : List D} {n : Str} {d : D} {r : List (D × D)} : DN.putAll (ks.map D.str) vs ((.str n, d) :: r) = DN.putAll (putKs (ks.map D.str) (.inl (.inr n))) (putVs (ks.map D.str) vs (.inl (.inr n)) d) r := by
  rw [DN.putAll]
  show (if okK (ks.map D.str) (.inl (.inr n)) = true then _ else _) = _
  rw [if_pos okK_strs]
@[simp] abbrev xDc (own : List Nat) (b : D → Option Asg) (t : Env → M B Bool) (fk fe : Env → M B D) (src : Env → M B (List D)) : Env → M B D := fun ρ => M.bind (src ρ) fun ds => M.bind (compL (compFD b t fk fe (wipeE ρ own)) ds) fun r => lift (putAll [] [] r)
@[simp] abbrev tY : Env → M B Bool := fun _ => M.pure true
@[simp] abbrev xCount (fo f : Env → M B D) : Env → M B D := fun ρ => M.bind (fo ρ) fun x => M.bind (lift (asL x)) fun ds => M.bind (f ρ) fun y => lift (countD ds y)
@[simp] abbrev xRg (c : List D → D) (f : Env → M B D) : Env → M B D := fun ρ => M.bind (f ρ) fun x => lift ((range1 x).map c)
section
variable {K : PySem.W.Frag} {cl : CTab}
@[simp] abbrev xIxM (f1 f2 : Env → M (MemS K cl) D) : Env → M (MemS K cl) D := fun ρ => M.bind (f1 ρ) fun x => M.bind (f2 ρ) fun y => match x with
      | .ref a => ixM (.ref a) y
      | _ => fun _ => .stuck
@[simp] abbrev xLenM (f : Env → M (MemS K cl) D) : Env → M (MemS K cl) D := fun ρ => M.bind (f ρ) fun x => lenM x
@[simp] abbrev xFld (c : Str) (i : Nat) (f : Env → M (MemS K cl) D) : Env → M (MemS K cl) D := fun ρ => M.bind (f ρ) (fldM c i)
@[simp] abbrev xMeth (c : Str) (f : List D → M (MemS K cl) D) (fo : Env → M (MemS K cl) D) (fa : Env → M (MemS K cl) (List D)) : Env → M (MemS K cl) D := fun ρ => M.bind (fo ρ) fun x => M.bind (insM c x) fun _ => M.bind (fa ρ) fun ds => f (x :: ds)
@[simp] abbrev xMeth0 (c : Str) (f : List D → M (MemS K cl) D) (fo : Env → M (MemS K cl) D) : Env → M (MemS K cl) D := fun ρ => M.bind (fo ρ) fun x => M.bind (insM c x) fun _ => f [x]
@[simp] abbrev xMake (c : Str) (n : Nat) (fi : List D → IR) (fa : Env → M (MemS K cl) (List D)) : Env → M (MemS K cl) D := fun ρ => M.bind (fa ρ) fun ds => mkM c n (fi ds)
@[simp] abbrev sSetM (p : D → Bool) (fo fi f : Env → M (MemS K cl) D) : SEnv → M (MemS K cl) Fl := fun ρ => M.bind (f (seeE p ρ)) fun d => M.bind (fo (seeE pHide ρ)) fun x => M.bind (fi (seeE pHide ρ)) fun y => M.bind (setM x y d) fun _ => M.pure (.nx ρ)
@[simp] abbrev sSetF (p : D → Bool) (c : Str) (i : Nat) (fo f : Env → M (MemS K cl) D) : SEnv → M (MemS K cl) Fl := fun ρ => M.bind (f (seeE p ρ)) fun d => M.bind (fo (seeE pHide ρ)) fun x => M.bind (setfM c i x d) fun _ => M.pure (.nx ρ)
end
@[simp] abbrev sPass : SEnv → M B Fl := fun ρ => M.pure (.nx ρ)
@[simp] abbrev sBrk : SEnv → M B Fl := fun ρ => M.pure (.bk ρ)
@[simp] abbrev sCnt : SEnv → M B Fl := fun ρ => M.pure (.ct ρ)
@[simp] abbrev sRet (p : D → Bool) (f : Env → M B D) : SEnv → M B Fl := fun ρ => M.bind (f (seeE p ρ)) fun d => M.pure (.rt d)
@[simp] abbrev sRetN : SEnv → M B Fl := fun _ => M.pure (.rt .non)
@[simp] abbrev sSet (i : Nat) (f : Env → M B D) : SEnv → M B Fl := fun ρ => M.bind (f (seeE pHide ρ)) fun d => M.pure (.nx (ρ.set i (.val d)))
@[simp] abbrev sAsg (a : D → Option Asg) (f : Env → M B D) : SEnv → M B Fl := fun ρ => M.bind (f (seeE pHide ρ)) fun d => M.bind (lift (a d)) fun as => M.pure (.nx (setsS ρ as))
@[simp] abbrev sAug (p q : D → Bool) (i : Nat) (g : D → D → Option D) (f : Env → M B D) : SEnv → M B Fl := fun ρ => M.bind (eVar i (seeE pHide ρ)) fun o => M.bind (f (seeE p ρ)) fun d => M.bind (lift (g o d)) fun z => guardM (q z) (M.pure (.nx (ρ.set i (.val z))))
@[simp] abbrev sEx (p : D → Bool) (f : Env → M B D) : SEnv → M B Fl := fun ρ => M.bind (f (seeE p ρ)) fun _ => M.pure (.nx ρ)
@[simp] abbrev sIf (p : D → Bool) (t : Env → M B Bool) (F G : SEnv → M B Fl) : SEnv → M B Fl := fun ρ => M.bind (t (seeE p ρ)) fun k => if k = true then F ρ else G ρ
@[simp] abbrev sFor (a : D → Option Asg) (src : Env → M B (List D)) (F : SEnv → M B Fl) : SEnv → M B Fl := fun ρ => M.bind (src (seeE pHide ρ)) fun ds => forL a F ds ρ
@[simp] abbrev sNv : SEnv → M B Fl := fun _ _ => .stuck
@[simp] abbrev yes : D → Bool := fun _ => true
section
variable {cl : CTab} {md : Bool} {W : WX} {X : Cx}
theorem de_int {i j pos} : DE cl B md W X (.Constant (.int i) j pos) (eC (.int i)) := de_c pe_int fun _ => .int _
theorem de_bl {b j pos} : DE cl B md W X (.Constant (.bool b) j pos) (eC (.bl b)) := de_c pe_bl fun _ => .bl _
theorem de_non {j pos} : DE cl B md W X (.Constant .none j pos) (eC .non) := de_c pe_non fun _ => .non
theorem de_str {x j pos} (h : x.length ≤ sizeLine := by decide) (h2 : PyData.strOk x = true := by decide +kernel) : DE cl B md W X (.Constant (.str x) j pos) (eC (.str x)) := de_c pe_str fun _ => .str h h2
structure GlC (K : PySem.W.Frag) (mg : Str → Option Value) (cl : CTab) (x : Str) (d : D) : Prop where
  ex : ∃ u v, mg x = some u ∧ RelV v u ∧ ∀ Z, Rep K cl Z v d
theorem de_gl {x : Str} {d : D} {pos : Pos} (g : GlC X.K X.mg cl x d) (hg : Gl X x) (hd : (x == ("__debug__" : Str)) = false := by decide) : DE cl B md W X (.Name x pos) (eC d) := by
  obtain ⟨u, v, h1, h2, h3⟩ := g.ex
  exact de_c (pe_glob hg h1 h2 hd) h3
theorem glInt {K : PySem.W.Frag} {mg : Str → Option Value} {x : Str} {i : Int} {t : Tok} (h : mg x = some (.int i t)) : GlC K mg cl x (.int i) := ⟨⟨_, .int i, h, ⟨t, rfl⟩, fun _ => .int _⟩⟩
theorem glStr {K : PySem.W.Frag} {mg : Str → Option Value} {x : Str} {z : Str} {t : Tok} (h : mg x = some (.str z t)) (h1 : z.length ≤ sizeLine := by decide) (h2 : PyData.strOk z = true := by decide +kernel) : GlC K mg cl x (.str z) := ⟨⟨_, .str z, h, ⟨t, rfl⟩, fun _ => .str h1 h2⟩⟩
theorem ds_setLc {i : Nat} {y : Str} {py : Pos} {elt tg iter : Expr} {ifs : List Expr} {scope : Scope} {own : List (Str × Nat)} {pos spos : Pos} {src : Env → M B (List D)} {b : D → Option Asg} {t : Env → M B Bool} {fe : Env → M B D} (hc : X.calm = true) (hN : X.N.Nodup) (hy : X.N[i]? = some y) (hyl : X.env.scope.names.lookup y = some .local)
    (hsw : swapsWith (.ListComp elt [⟨tg, iter, ifs, 0⟩] scope pos) (some (.Name y py)) spos.line X.env = pure true) (hi : DI cl B true W X tg iter src) (ok : BlkOk X.N X.env.scope scope own)
    (hg : ∀ (s : Shared) (H : Hp) (C : Addr) (cs : List (Str × Addr)) (fp : List Addr), DG cl (X.blk s H scope (compEnvC scope cs C X.env) fp) tg b) (hin : TgIn (own.map (·.2)) b)
    (ht : ∀ (s : Shared) (H : Hp) (C : Addr) (cs : List (Str × Addr)) (fp : List Addr), DTs cl B true (X.blk s H scope (compEnvC scope cs C X.env) fp) ifs t)
    (he : ∀ (s : Shared) (H : Hp) (C : Addr) (cs : List (Str × Addr)) (fp : List Addr), DE cl B true W0 (X.blk s H scope (compEnvC scope cs C X.env) fp) elt fe) (hs : ∀ x, foldedSetIterable iter X.env x = pure x := by intro _; rfl) :
    DS cl B W X (.Assign [.Name y py] (.ListComp elt [⟨tg, iter, ifs, 0⟩] scope pos) spos) (sSet i (xLc (own.map (·.2)) b t fe src)) :=
  PS.weak (ps_setLc (g := tDG X.K cl b) (tt := tG X.K cl B true RpE W0 t) (te := tG X.K cl B true (RpD X.K cl) W0 fe) hc hN hy hyl hsw hi ok hg ht he hs) fun E σ H h => comp_core (md := true) (W := W) hin (own_core (md := true) (W := W) comp_list (set_core h))
theorem fn_stuck {P : Program} {w : World} {K : PySem.W.Frag} {mg : Str → Option Value} {base : Heap} {CX : CXT} {k n : Nat} {f : Addr} {fd : FuncData} {ps : List Str} (hn : ps.length = n) : FnOk P w K mg base CX k f fd ps (spD K cl B n (fun _ _ => .stuck)) :=
  ⟨spD_len hn, fun A outer s H args us vs Q E hr he hb hv hs => by
    obtain ⟨Z, C, sb, ds, wd, r, l, p⟩ := hs
    exact False.elim p⟩
end
end DN
namespace DN
open PySem PySem.Spec PyProof.Rows L2 RZ ND
variable {B : Sto} {α β γ : Type}
@[simp] theorem bind_pure (a : α) (f : α → M B β) : M.bind (M.pure a) f = f a := rfl
@[simp] theorem bind_some (a : α) (f : α → M B β) : M.bind (lift (some a)) f = f a := rfl
def wp (m : M B α) (R : α → B.T → Prop) (s : B.T) : Prop := match m s with
  | .ok a s' => R a s'
  | _ => False
theorem wp_pure {a : α} {R : α → B.T → Prop} {s : B.T} (h : R a s) : wp (M.pure a : M B α) R s := h
theorem wp_bind {m : M B α} {k : α → M B β} {R : β → B.T → Prop} {s : B.T} (h : wp m (fun a s' => wp (k a) R s') s) : wp (M.bind m k) R s := by
  unfold wp M.bind at *
  cases e : m s with
  | ok a s' => rw [e] at h; exact h
  | err x s' => rw [e] at h; exact h
  | stuck => rw [e] at h; exact h
theorem wp_mono {m : M B α} {R R' : α → B.T → Prop} {s : B.T} (h : wp m R s) (q : ∀ a s', R a s' → R' a s') : wp m R' s := by
  unfold wp at *
  cases e : m s with
  | ok a s' => rw [e] at h; exact q _ _ h
  | err x s' => rw [e] at h; exact h
  | stuck => rw [e] at h; exact h
theorem wp_ok {m : M B α} {R : α → B.T → Prop} {s : B.T} (h : wp m R s) : ∃ a s', m s = .ok a s' ∧ R a s' := by
  unfold wp at h
  cases e : m s with
  | ok a s' => rw [e] at h; exact ⟨a, s', rfl, h⟩
  | err x s' => rw [e] at h; exact False.elim h
  | stuck => rw [e] at h; exact False.elim h
theorem wp_of {m : M B α} {R : α → B.T → Prop} {s s' : B.T} {a : α} (h : m s = .ok a s') (q : R a s') : wp m R s := by
  unfold wp
  rw [h]
  exact q
theorem wp_noErr {m : M B α} {R : α → B.T → Prop} {s : B.T} (h : wp m R s) : wp (noErr m) R s := by
  obtain ⟨a, s', e, r⟩ := wp_ok h
  refine wp_of (a := a) (s' := s') ?_ r
  unfold noErr
  rw [e]
section
variable {K : PySem.W.Frag} {cl : CTab}
structure TF where
  t : Nat
  f : Mem
  sc : Nat
instance : CoeOut TF Nat := ⟨TF.t⟩
def tapeM (sc : Nat) (t : TF) (ns : List Int) (pos carry seed cnt : Int) : Mem := ⟨fun x => if x = t.t then some (.lst [.ref sc, .int pos, .int carry, .int seed, .int cnt]) else if x = sc then some (.lst (ns.map .int)) else t.f.m x, t.f.n⟩
def Tape (t : TF) (m : Mem) : Prop := ∃ ns pos carry seed cnt, (t.sc ≠ t.t ∧ t.sc < t.f.n ∧ t.t < t.f.n ∧ ∀ j, t.f.n ≤ j → t.f.m j = none) ∧ 0 ≤ pos ∧ m = tapeM t.sc t ns pos carry seed cnt
theorem tapeM_t {sc : Nat} {t : TF} {ns : List Int} {p c s n : Int} : (tapeM sc t ns p c s n).m t.t = some (.lst [.ref sc, .int p, .int c, .int s, .int n]) := if_pos rfl
theorem tapeM_sc {sc : Nat} {t : TF} {ns : List Int} {p c s n : Int} (h : sc ≠ t.t) : (tapeM sc t ns p c s n).m sc = some (.lst (ns.map .int)) := by
  show (if sc = t.t then _ else if sc = sc then _ else _) = _
  rw [if_neg h, if_pos rfl]
theorem tapeM_upd {sc : Nat} {t : TF} {ns : List Int} {p c s n p' c' s' n' : Int} : updM (tapeM sc t ns p c s n) t.t (some (.lst [.ref sc, .int p', .int c', .int s', .int n'])) = tapeM sc t ns p' c' s' n' := by
  unfold updM tapeM
  congr 1
  funext x
  by_cases hx : x = t.t <;> simp [hx]
end
@[simp] theorem wp_bind_iff {m : M B α} {k : α → M B β} {R : β → B.T → Prop} {s : B.T} : wp (M.bind m k) R s ↔ wp m (fun a s' => wp (k a) R s') s := by
  unfold wp M.bind
  cases m s <;> exact Iff.rfl
@[simp] theorem wp_pure_iff {a : α} {R : α → B.T → Prop} {s : B.T} : wp (M.pure a : M B α) R s ↔ R a s := Iff.rfl
@[simp] theorem wp_lift_iff {a : α} {R : α → B.T → Prop} {s : B.T} : wp (lift (some a) : M B α) R s ↔ R a s := Iff.rfl
@[simp] theorem wp_if_iff {c : Prop} [Decidable c] {a b : M B α} {R : α → B.T → Prop} {s : B.T} : wp (if c then a else b) R s ↔ if c then wp a R s else wp b R s := by split <;> exact Iff.rfl
@[simp] theorem wp_guard_iff {m : M B α} {R : α → B.T → Prop} {s : B.T} : wp (guardM true m) R s ↔ wp m R s := Iff.rfl
section
variable {K : PySem.W.Frag} {cl : CTab} {sc : Nat} {t : TF} {ns : List Int} {p c z n : Int} {α : Type}
theorem wp_t0 {R : D → Mem → Prop} : wp (ixM (K := K) (cl := cl) (.ref t.t) (.int 0)) R (tapeM sc t ns p c z n) ↔ R (.ref sc) (tapeM sc t ns p c z n) := by
  simp [wp, ixM, rdM, M.bind, tapeM_t, atI, ixN, lift, M.pure]
theorem wp_t1 {R : D → Mem → Prop} : wp (ixM (K := K) (cl := cl) (.ref t.t) (.int 1)) R (tapeM sc t ns p c z n) ↔ R (.int p) (tapeM sc t ns p c z n) := by
  simp [wp, ixM, rdM, M.bind, tapeM_t, atI, ixN, lift, M.pure]
theorem wp_t2 {R : D → Mem → Prop} : wp (ixM (K := K) (cl := cl) (.ref t.t) (.int 2)) R (tapeM sc t ns p c z n) ↔ R (.int c) (tapeM sc t ns p c z n) := by
  simp [wp, ixM, rdM, M.bind, tapeM_t, atI, ixN, lift, M.pure]
theorem wp_t3 {R : D → Mem → Prop} : wp (ixM (K := K) (cl := cl) (.ref t.t) (.int 3)) R (tapeM sc t ns p c z n) ↔ R (.int z) (tapeM sc t ns p c z n) := by
  simp [wp, ixM, rdM, M.bind, tapeM_t, atI, ixN, lift, M.pure]
theorem wp_t4 {R : D → Mem → Prop} : wp (ixM (K := K) (cl := cl) (.ref t.t) (.int 4)) R (tapeM sc t ns p c z n) ↔ R (.int n) (tapeM sc t ns p c z n) := by
  simp [wp, ixM, rdM, M.bind, tapeM_t, atI, ixN, lift, M.pure]
theorem wp_len (h : sc ≠ t.t) {R : D → Mem → Prop} : wp (lenM (K := K) (cl := cl) (.ref sc)) R (tapeM sc t ns p c z n) ↔ R (.int ns.length) (tapeM sc t ns p c z n) := by
  simp [wp, lenM, rdM, M.bind, tapeM_sc h, lift, M.pure]
theorem wp_cell (h : sc ≠ t.t) {i : Int} (h0 : 0 ≤ i) (h1 : i < ns.length) {R : D → Mem → Prop} (q : ∀ x, R (.int x) (tapeM sc t ns p c z n)) : wp (ixM (K := K) (cl := cl) (.ref sc) (.int i)) R (tapeM sc t ns p c z n) := by
  obtain ⟨k, rfl⟩ : ∃ k : Nat, i = k := ⟨i.toNat, by omega⟩
  have hk : k < ns.length := by omega
  simp [wp, ixM, rdM, M.bind, tapeM_sc h, atI, ixN, lift, M.pure, hk, q]
theorem wp_s1 {x : Int} {R : Unit → Mem → Prop} : wp (setM (K := K) (cl := cl) (.ref t.t) (.int 1) (.int x)) R (tapeM sc t ns p c z n) ↔ R () (tapeM sc t ns x c z n) := by
  simp [wp, setM, tapeM_t, ixN, D.imm, tapeM_upd]
theorem wp_s2 {x : Int} {R : Unit → Mem → Prop} : wp (setM (K := K) (cl := cl) (.ref t.t) (.int 2) (.int x)) R (tapeM sc t ns p c z n) ↔ R () (tapeM sc t ns p x z n) := by
  simp [wp, setM, tapeM_t, ixN, D.imm, tapeM_upd]
theorem wp_s3 {x : Int} {R : Unit → Mem → Prop} : wp (setM (K := K) (cl := cl) (.ref t.t) (.int 3) (.int x)) R (tapeM sc t ns p c z n) ↔ R () (tapeM sc t ns p c x n) := by
  simp [wp, setM, tapeM_t, ixN, D.imm, tapeM_upd]
theorem wp_s4 {x : Int} {R : Unit → Mem → Prop} : wp (setM (K := K) (cl := cl) (.ref t.t) (.int 4) (.int x)) R (tapeM sc t ns p c z n) ↔ R () (tapeM sc t ns p c z x) := by
  simp [wp, setM, tapeM_t, ixN, D.imm, tapeM_upd]
end
section
variable {a b : Int} {x y : Bool} {p : D → Bool} {d e : D} {i : Nat} {ρ : SEnv} {ε : Env} {ds : List D}
@[simp] theorem s_gtI : gtI (.int a) (.int b) = some (.bl (decide (b < a))) := rfl
@[simp] theorem s_ltI : ltI (.int a) (.int b) = some (.bl (decide (a < b))) := rfl
@[simp] theorem s_leI : leI (.int a) (.int b) = some (.bl (decide (a ≤ b))) := rfl
@[simp] theorem s_geI : geI (.int a) (.int b) = some (.bl (decide (b ≤ a))) := rfl
@[simp] theorem s_asB : D.asB (.bl x) = some x := rfl
@[simp] theorem s_asI : D.asI (.int a) = some a := rfl
@[simp] theorem s_addI : addD (.int a) (.int b) = some (.int (a + b)) := rfl
@[simp] theorem s_iaddI : iaddD (.int a) (.int b) = some (.int (a + b)) := rfl
@[simp] theorem s_subI : subD (.int a) (.int b) = some (.int (a - b)) := rfl
@[simp] theorem s_negI : negD (.int a) = some (.int (-a)) := rfl
@[simp] theorem s_mulI : mulD (.int a) (.int b) = if (-(2 ^ 64) < a ∧ a < 2 ^ 64) ∨ (-(2 ^ 64) < b ∧ b < 2 ^ 64) then some (.int (a * b)) else none := rfl
@[simp] theorem s_modI : modD (.int a) (.int b) = if 0 < b then some (.int (a % b)) else none := rfl
@[simp] theorem s_fdivI : fdivD (.int a) (.int b) = if 0 < b ∧ b < 1073741824 then some (.int (a / b)) else none := rfl
@[simp] theorem s_shlI : shlD (.int a) (.int b) = if 0 ≤ b ∧ b ≤ 1000000 ∧ a.natAbs < 2 ^ 64 then some (.int (a * 2 ^ b.toNat)) else none := rfl
@[simp] theorem s_shrI : shrD (.int a) (.int b) = if 0 ≤ b then some (.int (a / 2 ^ b.toNat)) else none := rfl
@[simp] theorem s_andI : andD (.int a) (.int b) = some (.int (Builtin.bitAnd a b)) := rfl
@[simp] theorem s_orI : orD (.int a) (.int b) = some (.int (Builtin.bitOr a b)) := rfl
@[simp] theorem s_powI : powD (.int a) (.int b) = if 0 ≤ b ∧ b ≤ 1000000 ∧ a.natAbs < 2 ^ 64 then some (.int (a ^ b.toNat)) else none := rfl
@[simp] theorem s_trN : truthD .non = some false := rfl
@[simp] theorem s_trB : truthD (.bl x) = some x := rfl
@[simp] theorem s_trI : truthD (.int a) = some (a != 0) := rfl
@[simp] theorem s_trT : truthD (.tup ds) = some (!ds.isEmpty) := rfl
@[simp] theorem s_trL : truthD (.lst ds) = some (!ds.isEmpty) := rfl
@[simp] theorem s_int : intD [.int a] = some (.int a) := rfl
@[simp] theorem s_lenT : lenD [.tup ds] = some (.int ds.length) := rfl
@[simp] theorem s_lenL : lenD [.lst ds] = some (.int ds.length) := rfl
@[simp] theorem s_lenS {z : Str} : lenD [.str z] = some (.int z.length) := rfl
@[simp] theorem s_tupT : tupleD [.tup ds] = some (.tup ds) := rfl
@[simp] theorem s_tupL : tupleD [.lst ds] = some (.tup ds) := rfl
@[simp] theorem s_lstT : listD [.tup ds] = some (.lst ds) := rfl
@[simp] theorem s_lstL : listD [.lst ds] = some (.lst ds) := rfl
@[simp] theorem s_aName : aName i d = some [(i, d)] := rfl
@[simp] theorem s_setsS0 : setsS ρ [] = ρ := rfl
@[simp] theorem s_setsS1 {as : Asg} : setsS ρ ((i, d) :: as) = setsS (ρ.set i (.val d)) as := rfl
@[simp] theorem s_setsE0 : setsE ε [] = ε := rfl
@[simp] theorem s_setsE1 {as : Asg} : setsE ε ((i, d) :: as) = setsE (ε.set i (some d)) as := rfl
@[simp] theorem s_see0 : seeE p [] = [] := rfl
@[simp] theorem s_seeV : seeE p (.val d :: ρ) = some d :: seeE p ρ := rfl
@[simp] theorem s_seeN : seeE p (.no :: ρ) = none :: seeE p ρ := rfl
@[simp] theorem s_seeO : seeE pHide (.own d :: ρ) = none :: seeE pHide ρ := rfl
@[simp] theorem s_eVar {ε : Env} : (eVar i : Env → M B D) ε = lift ((ε[i]?).bind id) := rfl
@[simp] theorem s_eC {ε : Env} : (eC d : Env → M B D) ε = M.pure d := rfl
@[simp] theorem s_seq {F G : SEnv → M B Fl} : seqF F G ρ = M.bind (F ρ) fun fl => match fl with
  | .nx ρ' => G ρ'
  | o => M.pure o := rfl
@[simp] theorem s_ret1 : (retF (.rt d) : M B D) = M.pure d := rfl
@[simp] theorem s_ret2 : (retF (.nx ρ) : M B D) = M.pure .non := rfl
@[simp] theorem s_isN : isN d .non = some (.bl d.isNon) := rfl
@[simp] theorem s_isNotN : isNotN d .non = some (.bl (!d.isNon)) := rfl
@[simp] theorem s_non1 : D.isNon .non = true := rfl
@[simp] theorem s_non2 : D.isNon (.int a) = false := rfl
@[simp] theorem s_non3 : D.isNon (.tup ds) = false := rfl
@[simp] theorem s_non4 : D.isNon (.bl x) = false := rfl
@[simp] theorem s_isBl : isBl (.bl x) (.bl y) = some (.bl (decide (x = y))) := rfl
@[simp] theorem s_isNotBl : isNotBl (.bl x) (.bl y) = some (.bl (!decide (x = y))) := rfl
@[simp] theorem s_aNil : aNil [] = some [] := rfl
@[simp] theorem s_aCons {a0 : D → Option Asg} {b0 : List D → Option Asg} : aCons a0 b0 (d :: ds) = (a0 d).bind fun x => (b0 ds).map fun y => x ++ y := rfl
@[simp] theorem s_aTup {b0 : List D → Option Asg} : aTup b0 (.tup ds) = b0 ds := rfl
end
end DN
namespace DN
open PySem PySem.Spec PyProof.Rows L2 RZ ND
def spTape (K : PySem.W.Frag) : Sp := fun vs H Q _ => ∃ (a : Addr) (ns : List Int), vs = [.ref a] ∧ SqL K H a (ns.map V.int) ∧ ns.length ≤ 63 ∧
  ∀ sc t, sc ≠ t → Q (.ref t) (upd (upd H sc (.lst (ns.map V.int))) t (.lst [.ref sc, .int 0, .int 0, .int 1, .int 0]))
theorem spTape_len {K : PySem.W.Frag} : ∀ vs H Q E, spTape K vs H Q E → vs.length = ["_law_script"].length := by
  rintro vs H Q E ⟨a, ns, rfl, _⟩
  rfl
def spLaw (K : PySem.W.Frag) : Sp := fun vs H Q _ => ∃ (a : Addr) (ns : List Int), vs = [.ref a] ∧ SqL K H a (ns.map V.int) ∧ ns.length ≤ 63 ∧ ∀ H', Q (.bl true) H'
theorem spLaw_len {K : PySem.W.Frag} : ∀ vs H Q E, spLaw K vs H Q E → vs.length = ["_law_script"].length := by
  rintro vs H Q E ⟨a, ns, rfl, _⟩
  rfl
def startL (m : Nat) (t : Nat) : SEnv := .no :: .val (.ref t) :: List.replicate (m - 2) .no
def tf0 : TF := ⟨1, ⟨fun _ => none, 2⟩, 0⟩
theorem repL_num {K : PySem.W.Frag} {cl : CTab} {Z : Zp} : ∀ ns : List Int, RepL K cl Z (ns.map V.int) (ns.map D.int)
  | [] => .nil
  | n :: ns => .cons (.int n) (repL_num ns)
theorem immL_num : ∀ ns : List Int, D.immL (ns.map D.int) = true
  | [] => rfl
  | n :: ns => by simp [D.immL, D.imm, immL_num ns]
theorem law_start {K : PySem.W.Frag} {cl : CTab} {m : Nat} {a sc t : Addr} {H : Hp} {ns : List Int} {W : WX} {F : SEnv → M (MemS K cl) Fl} {E : Ends} {σ : L2.St} (hσ : σ = some (.ref a) :: some (.ref t) :: List.replicate (m - 2) none)
    (hF : ∃ s', F (startL m tf0.t) (tapeM 0 tf0 ns 0 0 1 0) = .ok (.rt (.bl true)) s') (hne : sc ≠ t) (hl : ns.length ≤ 63) (hE : ∀ H', E.rt (.bl true) H') :
    tS K cl (MemS K cl) W F E σ (upd (upd H sc (.lst (ns.map V.int))) t (.lst [.ref sc, .int 0, .int 0, .int 1, .int 0])) := by
  subst hσ
  let C : Hp := fun x => if x = t then some (.lst [.ref sc, .int 0, .int 0, .int 1, .int 0]) else if x = sc then some (.lst (ns.map V.int)) else none
  have ct : C t = some (.lst [.ref sc, .int 0, .int 0, .int 1, .int 0]) := if_pos rfl
  have cs : C sc = some (.lst (ns.map V.int)) := (if_neg hne).trans (if_pos rfl)
  have ch : Sub C (upd (upd H sc (.lst (ns.map V.int))) t (.lst [.ref sc, .int 0, .int 0, .int 1, .int 0])) := fun x o e => by
    by_cases h1 : x = t
    · subst h1
      rw [ct] at e
      rw [upd_same]; exact e
    · rw [upd_ne h1]
      by_cases h2 : x = sc
      · subst h2
        rw [cs] at e
        rw [upd_same]; exact e
      · have : C x = none := (if_neg h1).trans (if_neg h2)
        rw [this] at e; cases e
  let Z : Zp := ⟨fun _ => none, fun k => if k = 1 then some t else if k = 0 then some sc else none⟩
  have z1 : Z.μ 1 = some t := rfl
  have z0 : Z.μ 0 = some sc := rfl
  have w : Wd (MemS K cl) true Z C (upd (upd H sc (.lst (ns.map V.int))) t (.lst [.ref sc, .int 0, .int 0, .int 1, .int 0])) (tapeM 0 tf0 ns 0 0 1 0) := by
    refine { zh := (fun x o e => nomatch e), ch := ch, dj := fun _ _ => rfl, sr := ⟨fun k e => ?_, fun k d e => ?_, fun i j a e1 e2 => ?_, fun x e => ?_, fun k e => ?_⟩ }
    · have e : (if k = 1 then some _ else if k = 0 then some _ else none) = none := e
      show (if k = 1 then some t else if k = 0 then some sc else none) = none
      split at e
      · cases e
      · rename_i h1
        split at e
        · cases e
        · rename_i h2; rw [if_neg h1, if_neg h2]
    · have e : (if k = 1 then some (D.lst [.ref 0, .int 0, .int 0, .int 1, .int 0]) else if k = 0 then some (.lst (ns.map .int)) else none) = some d := e
      split at e
      · rename_i h1; cases e; subst h1
        exact ⟨t, z1, rfl, _, ct, by show 5 ≤ sizeLine; decide, .cons (.ref z0) (.cons (.int _) (.cons (.int _) (.cons (.int _) (.cons (.int _) .nil))))⟩
      · rename_i h1
        split at e
        · rename_i h2; cases e; subst h2
          exact ⟨sc, z0, immL_num ns, _, cs, by rw [List.length_map]; exact Nat.le_trans hl (by decide), repL_num ns⟩
        · cases e
    · have e1 : (if i = 1 then some t else if i = 0 then some sc else none) = some a := e1
      have e2 : (if j = 1 then some t else if j = 0 then some sc else none) = some a := e2
      split at e1
      · rename_i h1
        cases e1
        split at e2
        · rename_i h2; rw [h1, h2]
        · split at e2
          · cases e2; exact absurd rfl hne
          · cases e2
      · split at e1
        · rename_i h1
          cases e1
          split at e2
          · cases e2; exact absurd rfl hne
          · split at e2
            · rename_i h2; rw [h1, h2]
            · cases e2
        · cases e1
    · have e : (if x = t then some (HO.lst [.ref sc, .int 0, .int 0, .int 1, .int 0]) else if x = sc then some (.lst (ns.map V.int)) else none) ≠ none := e
      split at e
      · rename_i h; exact ⟨1, by rw [h]; exact z1⟩
      · split at e
        · rename_i h; exact ⟨0, by rw [h]; exact z0⟩
        · exact absurd rfl e
    · have e : 2 ≤ k := e
      show (if k = 1 then some _ else if k = 0 then some _ else none) = none
      rw [if_neg (by omega), if_neg (by omega)]
  refine ⟨Z, C, _, Z, C, tapeM 0 tf0 ns 0 0 1 0, startL m tf0.t, fun _ _ => False, ch, w, .refl .., ?_, ?_⟩
  · have noown : ∀ (i : Nat) (d : D), (startL m tf0.t)[i]? ≠ some (.own d) := fun i d q => by
      unfold startL at q
      match i with
      | 0 => simp at q
      | 1 => simp at q
      | i + 2 =>
        simp only [List.getElem?_cons_succ, List.getElem?_replicate] at q
        split at q <;> cases q
    refine ⟨by simp [startL], fun i d q => ?_, fun i d q => absurd q (noown i d), fun i d x q => absurd q (noown i d), fun i j d e x q => absurd q (noown i d)⟩
    unfold startL at q
    match i with
    | 0 => simp at q
    | 1 =>
      simp at q
      subst q
      exact ⟨_, rfl, .ref z1⟩
    | i + 2 =>
      simp only [List.getElem?_cons_succ, List.getElem?_replicate] at q
      split at q <;> cases q
  · obtain ⟨s', e⟩ := hF
    rw [e]
    intro v Z1 C1 H1 _ _ r
    cases r
    exact hE H1
end DN
namespace DN
open PySem PySem.Spec PyProof.Rows L2 RZ ND
variable {B : Sto} {α β γ : Type}
section
variable {a b : Int} {x y : Bool} {u v : Str} {d e : D} {i : Nat} {ds es ks vs : List D} {c : Str} {ad : Addr}
theorem beq_dec {α : Type} [BEq α] [LawfulBEq α] [DecidableEq α] {a b : α} : (a == b) = decide (a = b) := by
  by_cases h : a = b <;> simp [h]
theorem okc_int : D.okc (.int a) = true := by simp [D.okc, D.plain, D.py, PyData.depth]
theorem okc_bl : D.okc (.bl x) = true := by simp [D.okc, D.plain, D.py, PyData.depth]
theorem okc_str : D.okc (.str u) = true := by simp [D.okc, D.plain, D.py, PyData.depth]
@[simp] theorem s_eqI : eqD (.int a) (.int b) = some (.bl (decide (a = b))) := by
  unfold eqD; rw [okc_int, okc_int]; simp only [D.py, PyData.eqv, Bool.and_self, if_true]; congr 2
@[simp] theorem s_eqB : eqD (.bl x) (.bl y) = some (.bl (decide (x = y))) := by
  unfold eqD; rw [okc_bl, okc_bl]; cases x <;> cases y <;> simp [D.py, PyData.eqv]
@[simp] theorem s_eqS : eqD (.str u) (.str v) = some (.bl (decide (u = v))) := by
  unfold eqD; rw [okc_str, okc_str]; simp only [D.py, PyData.eqv, Bool.and_self, if_true]; congr 2
@[simp] theorem s_neI : neD (.int a) (.int b) = some (.bl (!decide (a = b))) := by
  unfold neD; rw [okc_int, okc_int]; simp only [D.py, PyData.eqv, Bool.and_self, if_true]; congr 3
@[simp] theorem s_neB : neD (.bl x) (.bl y) = some (.bl (!decide (x = y))) := by
  unfold neD; rw [okc_bl, okc_bl]; cases x <;> cases y <;> simp [D.py, PyData.eqv]
@[simp] theorem s_neS : neD (.str u) (.str v) = some (.bl (!decide (u = v))) := by
  unfold neD; rw [okc_str, okc_str]; simp only [D.py, PyData.eqv, Bool.and_self, if_true]; congr 3
theorem k_NoneType_int : kitB "NoneType" "int" = some false := by with_unfolding_all rfl
@[simp] theorem s_is_int_N : isD "int" .non = some (.bl false) := by show (kitB "NoneType" "int").map D.bl = _; rw [k_NoneType_int]; rfl
theorem k_bool_int : kitB "bool" "int" = some true := by with_unfolding_all rfl
@[simp] theorem s_is_int_B : isD "int" (.bl x) = some (.bl true) := by show (kitB "bool" "int").map D.bl = _; rw [k_bool_int]; rfl
theorem k_int_int : kitB "int" "int" = some true := by with_unfolding_all rfl
@[simp] theorem s_is_int_I : isD "int" (.int a) = some (.bl true) := by show (kitB "int" "int").map D.bl = _; rw [k_int_int]; rfl
theorem k_str_int : kitB "str" "int" = some false := by with_unfolding_all rfl
@[simp] theorem s_is_int_S : isD "int" (.str u) = some (.bl false) := by show (kitB "str" "int").map D.bl = _; rw [k_str_int]; rfl
theorem k_tuple_int : kitB "tuple" "int" = some false := by with_unfolding_all rfl
@[simp] theorem s_is_int_T : isD "int" (.tup ds) = some (.bl false) := by show (kitB "tuple" "int").map D.bl = _; rw [k_tuple_int]; rfl
theorem k_list_int : kitB "list" "int" = some false := by with_unfolding_all rfl
@[simp] theorem s_is_int_L : isD "int" (.lst ds) = some (.bl false) := by show (kitB "list" "int").map D.bl = _; rw [k_list_int]; rfl
theorem k_dict_int : kitB "dict" "int" = some false := by with_unfolding_all rfl
@[simp] theorem s_is_int_D : isD "int" (.dct ks ds) = some (.bl false) := by show (kitB "dict" "int").map D.bl = _; rw [k_dict_int]; rfl
theorem k_NoneType_bool : kitB "NoneType" "bool" = some false := by with_unfolding_all rfl
@[simp] theorem s_is_bool_N : isD "bool" .non = some (.bl false) := by show (kitB "NoneType" "bool").map D.bl = _; rw [k_NoneType_bool]; rfl
theorem k_bool_bool : kitB "bool" "bool" = some true := by with_unfolding_all rfl
@[simp] theorem s_is_bool_B : isD "bool" (.bl x) = some (.bl true) := by show (kitB "bool" "bool").map D.bl = _; rw [k_bool_bool]; rfl
theorem k_int_bool : kitB "int" "bool" = some false := by with_unfolding_all rfl
@[simp] theorem s_is_bool_I : isD "bool" (.int a) = some (.bl false) := by show (kitB "int" "bool").map D.bl = _; rw [k_int_bool]; rfl
theorem k_str_bool : kitB "str" "bool" = some false := by with_unfolding_all rfl
@[simp] theorem s_is_bool_S : isD "bool" (.str u) = some (.bl false) := by show (kitB "str" "bool").map D.bl = _; rw [k_str_bool]; rfl
theorem k_tuple_bool : kitB "tuple" "bool" = some false := by with_unfolding_all rfl
@[simp] theorem s_is_bool_T : isD "bool" (.tup ds) = some (.bl false) := by show (kitB "tuple" "bool").map D.bl = _; rw [k_tuple_bool]; rfl
theorem k_list_bool : kitB "list" "bool" = some false := by with_unfolding_all rfl
@[simp] theorem s_is_bool_L : isD "bool" (.lst ds) = some (.bl false) := by show (kitB "list" "bool").map D.bl = _; rw [k_list_bool]; rfl
theorem k_dict_bool : kitB "dict" "bool" = some false := by with_unfolding_all rfl
@[simp] theorem s_is_bool_D : isD "bool" (.dct ks ds) = some (.bl false) := by show (kitB "dict" "bool").map D.bl = _; rw [k_dict_bool]; rfl
theorem k_NoneType_str : kitB "NoneType" "str" = some false := by with_unfolding_all rfl
@[simp] theorem s_is_str_N : isD "str" .non = some (.bl false) := by show (kitB "NoneType" "str").map D.bl = _; rw [k_NoneType_str]; rfl
theorem k_bool_str : kitB "bool" "str" = some false := by with_unfolding_all rfl
@[simp] theorem s_is_str_B : isD "str" (.bl x) = some (.bl false) := by show (kitB "bool" "str").map D.bl = _; rw [k_bool_str]; rfl
theorem k_int_str : kitB "int" "str" = some false := by with_unfolding_all rfl
@[simp] theorem s_is_str_I : isD "str" (.int a) = some (.bl false) := by show (kitB "int" "str").map D.bl = _; rw [k_int_str]; rfl
theorem k_str_str : kitB "str" "str" = some true := by with_unfolding_all rfl
@[simp] theorem s_is_str_S : isD "str" (.str u) = some (.bl true) := by show (kitB "str" "str").map D.bl = _; rw [k_str_str]; rfl
theorem k_tuple_str : kitB "tuple" "str" = some false := by with_unfolding_all rfl
@[simp] theorem s_is_str_T : isD "str" (.tup ds) = some (.bl false) := by show (kitB "tuple" "str").map D.bl = _; rw [k_tuple_str]; rfl
theorem k_list_str : kitB "list" "str" = some false := by with_unfolding_all rfl
@[simp] theorem s_is_str_L : isD "str" (.lst ds) = some (.bl false) := by show (kitB "list" "str").map D.bl = _; rw [k_list_str]; rfl
theorem k_dict_str : kitB "dict" "str" = some false := by with_unfolding_all rfl
@[simp] theorem s_is_str_D : isD "str" (.dct ks ds) = some (.bl false) := by show (kitB "dict" "str").map D.bl = _; rw [k_dict_str]; rfl
theorem k_NoneType_tuple : kitB "NoneType" "tuple" = some false := by with_unfolding_all rfl
@[simp] theorem s_is_tuple_N : isD "tuple" .non = some (.bl false) := by show (kitB "NoneType" "tuple").map D.bl = _; rw [k_NoneType_tuple]; rfl
theorem k_bool_tuple : kitB "bool" "tuple" = some false := by with_unfolding_all rfl
@[simp] theorem s_is_tuple_B : isD "tuple" (.bl x) = some (.bl false) := by show (kitB "bool" "tuple").map D.bl = _; rw [k_bool_tuple]; rfl
theorem k_int_tuple : kitB "int" "tuple" = some false := by with_unfolding_all rfl
@[simp] theorem s_is_tuple_I : isD "tuple" (.int a) = some (.bl false) := by show (kitB "int" "tuple").map D.bl = _; rw [k_int_tuple]; rfl
theorem k_str_tuple : kitB "str" "tuple" = some false := by with_unfolding_all rfl
@[simp] theorem s_is_tuple_S : isD "tuple" (.str u) = some (.bl false) := by show (kitB "str" "tuple").map D.bl = _; rw [k_str_tuple]; rfl
theorem k_tuple_tuple : kitB "tuple" "tuple" = some true := by with_unfolding_all rfl
@[simp] theorem s_is_tuple_T : isD "tuple" (.tup ds) = some (.bl true) := by show (kitB "tuple" "tuple").map D.bl = _; rw [k_tuple_tuple]; rfl
theorem k_list_tuple : kitB "list" "tuple" = some false := by with_unfolding_all rfl
@[simp] theorem s_is_tuple_L : isD "tuple" (.lst ds) = some (.bl false) := by show (kitB "list" "tuple").map D.bl = _; rw [k_list_tuple]; rfl
theorem k_dict_tuple : kitB "dict" "tuple" = some false := by with_unfolding_all rfl
@[simp] theorem s_is_tuple_D : isD "tuple" (.dct ks ds) = some (.bl false) := by show (kitB "dict" "tuple").map D.bl = _; rw [k_dict_tuple]; rfl
theorem k_NoneType_list : kitB "NoneType" "list" = some false := by with_unfolding_all rfl
@[simp] theorem s_is_list_N : isD "list" .non = some (.bl false) := by show (kitB "NoneType" "list").map D.bl = _; rw [k_NoneType_list]; rfl
theorem k_bool_list : kitB "bool" "list" = some false := by with_unfolding_all rfl
@[simp] theorem s_is_list_B : isD "list" (.bl x) = some (.bl false) := by show (kitB "bool" "list").map D.bl = _; rw [k_bool_list]; rfl
theorem k_int_list : kitB "int" "list" = some false := by with_unfolding_all rfl
@[simp] theorem s_is_list_I : isD "list" (.int a) = some (.bl false) := by show (kitB "int" "list").map D.bl = _; rw [k_int_list]; rfl
theorem k_str_list : kitB "str" "list" = some false := by with_unfolding_all rfl
@[simp] theorem s_is_list_S : isD "list" (.str u) = some (.bl false) := by show (kitB "str" "list").map D.bl = _; rw [k_str_list]; rfl
theorem k_tuple_list : kitB "tuple" "list" = some false := by with_unfolding_all rfl
@[simp] theorem s_is_list_T : isD "list" (.tup ds) = some (.bl false) := by show (kitB "tuple" "list").map D.bl = _; rw [k_tuple_list]; rfl
theorem k_list_list : kitB "list" "list" = some true := by with_unfolding_all rfl
@[simp] theorem s_is_list_L : isD "list" (.lst ds) = some (.bl true) := by show (kitB "list" "list").map D.bl = _; rw [k_list_list]; rfl
theorem k_dict_list : kitB "dict" "list" = some false := by with_unfolding_all rfl
@[simp] theorem s_is_list_D : isD "list" (.dct ks ds) = some (.bl false) := by show (kitB "dict" "list").map D.bl = _; rw [k_dict_list]; rfl
theorem k_NoneType_dict : kitB "NoneType" "dict" = some false := by with_unfolding_all rfl
@[simp] theorem s_is_dict_N : isD "dict" .non = some (.bl false) := by show (kitB "NoneType" "dict").map D.bl = _; rw [k_NoneType_dict]; rfl
theorem k_bool_dict : kitB "bool" "dict" = some false := by with_unfolding_all rfl
@[simp] theorem s_is_dict_B : isD "dict" (.bl x) = some (.bl false) := by show (kitB "bool" "dict").map D.bl = _; rw [k_bool_dict]; rfl
theorem k_int_dict : kitB "int" "dict" = some false := by with_unfolding_all rfl
@[simp] theorem s_is_dict_I : isD "dict" (.int a) = some (.bl false) := by show (kitB "int" "dict").map D.bl = _; rw [k_int_dict]; rfl
theorem k_str_dict : kitB "str" "dict" = some false := by with_unfolding_all rfl
@[simp] theorem s_is_dict_S : isD "dict" (.str u) = some (.bl false) := by show (kitB "str" "dict").map D.bl = _; rw [k_str_dict]; rfl
theorem k_tuple_dict : kitB "tuple" "dict" = some false := by with_unfolding_all rfl
@[simp] theorem s_is_dict_T : isD "dict" (.tup ds) = some (.bl false) := by show (kitB "tuple" "dict").map D.bl = _; rw [k_tuple_dict]; rfl
theorem k_list_dict : kitB "list" "dict" = some false := by with_unfolding_all rfl
@[simp] theorem s_is_dict_L : isD "dict" (.lst ds) = some (.bl false) := by show (kitB "list" "dict").map D.bl = _; rw [k_list_dict]; rfl
theorem k_dict_dict : kitB "dict" "dict" = some true := by with_unfolding_all rfl
@[simp] theorem s_is_dict_D : isD "dict" (.dct ks ds) = some (.bl true) := by show (kitB "dict" "dict").map D.bl = _; rw [k_dict_dict]; rfl
@[simp] theorem s_anyT : anyI (.tup ds) = some ds := rfl
@[simp] theorem s_anyL : anyI (.lst ds) = some ds := rfl
theorem pyL_map : ∀ {ds : List D}, D.pyL ds = ds.map D.py
  | [] => rfl
  | d :: ds => by rw [D.pyL, pyL_map, List.map_cons]
@[simp] theorem bools_map {f : α → Bool} : ∀ {as : List α}, bools (as.map fun a => .bl (f a)) = some (as.map f)
  | [] => rfl
  | a :: as => by simp [bools, bools_map]
@[simp] theorem allD_map {f : α → Bool} {as : List α} : allD [.lst (as.map fun a => .bl (f a))] = some (.bl (as.all f)) := by
  simp [allD]
@[simp] theorem anyD_map {f : α → Bool} {as : List α} : anyD [.lst (as.map fun a => .bl (f a))] = some (.bl (as.any f)) := by
  simp [anyD]
theorem flVs_bl {f : α → Bool} : ∀ {as : List α}, flVs (as.map fun a => .bl (f a)) = some (as.map fun a => .bl (f a))
  | [] => rfl
  | a :: as => by simp [flVs, flV, flVs_bl]
end
theorem eq_of_wp {m : M B α} {v : α} {s : B.T} (h : wp m (fun a s' => a = v ∧ s' = s) s) : m s = .ok v s := by
  obtain ⟨a, s', e, rfl, rfl⟩ := wp_ok h
  exact e
theorem pure_of_wp {m : M B α} {v : α} (h : ∀ s, wp m (fun a s' => a = v ∧ s' = s) s) : m = M.pure v := funext fun s => eq_of_wp (h s)
@[simp] theorem noErr_pure {a : α} : (noErr (M.pure a) : M B α) = M.pure a := rfl
@[simp] theorem if_pure {c : Prop} [Decidable c] {a b : α} : (if c then M.pure a else M.pure b : M B α) = M.pure (if c then a else b) := by split <;> rfl
theorem compL_pure {f : α → M B (Option β)} {g : α → Option β} : ∀ {ds : List α}, (∀ d ∈ ds, f d = M.pure (g d)) → compL f ds = M.pure (ds.filterMap g)
  | [], _ => rfl
  | d :: ds, h => by
    unfold compL
    rw [h d List.mem_cons_self, bind_pure, compL_pure (fun d hd => h d (List.mem_cons_of_mem _ hd)), bind_pure]
    cases e : g d <;> simp [consO, List.filterMap_cons, e]
theorem compL_map {f : β → M B (Option γ)} {g : α → β} {k : α → γ} {as : List α} (h : ∀ a ∈ as, f (g a) = M.pure (some (k a))) : compL f (as.map g) = M.pure (as.map k) := by
  have : ∀ d ∈ as, (fun a => f (g a)) d = M.pure ((fun a => some (k a)) d) := h
  have q := compL_pure this
  rw [show as.filterMap (fun a => some (k a)) = as.map k from by simp] at q
  rw [← q]
  clear q this h
  induction as with
  | nil => rfl
  | cons a as ih => simp only [List.map_cons, compL, ih]
theorem wp_forI {a : D → Option Asg} {F : SEnv → M B Fl} {R : Fl → B.T → Prop} (I : List D → SEnv → B.T → Prop) : ∀ {ds : List D} {ρ : SEnv} {s : B.T}, I ds ρ s →
    (∀ d r ρ s, I (d :: r) ρ s → ∃ as, a d = some as ∧ wp (F (setsS ρ as)) (fun fl s' => match fl with
      | .nx ρ' => I r ρ' s'
      | .ct ρ' => I r ρ' s'
      | .bk ρ' => R (.nx ρ') s'
      | .rt d => R (.rt d) s'
      | .ro d => R (.ro d) s') s) → (∀ ρ' s', I [] ρ' s' → R (.nx ρ') s') → wp (forL a F ds ρ) R s
  | [], ρ, s, hi, hf, hr => hr ρ s hi
  | d :: ds, ρ, s, hi, hf, hr => by
    obtain ⟨as, ha, hw⟩ := hf d ds ρ s hi
    unfold forL
    rw [ha, bind_some]
    refine wp_bind (wp_mono hw fun fl s1 h => ?_)
    cases fl with
    | nx ρ' => exact wp_forI I h hf hr
    | ct ρ' => exact wp_forI I h hf hr
    | bk ρ' => exact h
    | rt d => exact h
    | ro d => exact h
@[simp] theorem s_ixT0 {d : D} {ds : List D} : ixD (.tup (d :: ds)) (.int 0) = some d := by
  have : (0 : Int) < ds.length + 1 := by omega
  simp [ixD, atI, ixN, this]
@[simp] theorem s_ixT1 {d e : D} {ds : List D} : ixD (.tup (d :: e :: ds)) (.int 1) = some e := by
  have : (1 : Int) < ds.length + 1 + 1 := by omega
  simp [ixD, atI, ixN, this]
@[simp] theorem s_ixT2 {d e f : D} {ds : List D} : ixD (.tup (d :: e :: f :: ds)) (.int 2) = some f := by
  have : (2 : Int) < ds.length + 1 + 1 + 1 := by omega
  simp [ixD, atI, ixN, this]
@[simp] theorem s_ixTm {d : D} : ixD (.tup [d]) (.int (-1)) = some d := by simp [ixD, atI, ixN]
@[simp] theorem s_ixTm2 {d e : D} : ixD (.tup [d, e]) (.int (-1)) = some e := by simp [ixD, atI, ixN]
@[simp] theorem s_ixTm3 {d e f : D} : ixD (.tup [d, e, f]) (.int (-1)) = some f := by simp [ixD, atI, ixN]
@[simp] theorem compF_eq {a : D → Option Asg} {t : Env → M B Bool} {e : Env → M B D} {ρ : Env} {d : D} :
    compF a t e ρ d = noErr (M.bind (lift ((a d).map (setsE ρ))) fun ρ' => M.bind (t ρ') fun k => if k = true then M.bind (e ρ') fun x => M.pure (some x) else M.pure none) := rfl
@[simp] theorem s_runF {m : Nat} {F : SEnv → M B Fl} {ds : List D} : runF m F ds = M.bind (F (startE m ds)) retF := rfl
@[simp] theorem lift_some' {a : α} : (lift (some a) : M B α) = M.pure a := rfl
theorem wp_compLx {f : α → M B (Option γ)} (Inv : B.T → Prop) (P : β → Prop) (g : β → γ) : ∀ {ds : List α} {R : List γ → B.T → Prop} {s : B.T}, Inv s → (∀ d ∈ ds, ∀ s, Inv s → wp (f d) (fun o s' => Inv s' ∧ ∃ b, P b ∧ o = some (g b)) s) →
    (∀ (bs : List β) s', Inv s' → bs.length = ds.length → (∀ b ∈ bs, P b) → R (bs.map g) s') → wp (compL f ds) R s
  | [], R, s, hi, hf, hr => hr [] s hi rfl (fun b h => nomatch h)
  | d :: ds, R, s, hi, hf, hr => by
    unfold compL
    refine wp_bind (wp_mono (hf d List.mem_cons_self s hi) fun o s1 ⟨i1, b, pb, eb⟩ => ?_)
    refine wp_bind (wp_compLx Inv P g (ds := ds) i1 (fun d' hd => hf d' (List.mem_cons_of_mem _ hd)) fun bs s2 i2 l2 q2 => ?_)
    subst eb
    refine wp_pure ?_
    exact hr (b :: bs) s2 i2 (by simp [l2]) (fun x hx => by
      rcases List.mem_cons.mp hx with rfl | h
      · exact pb
      · exact q2 x h)
theorem bitOr_nn (a b : Nat) : Builtin.bitOr (a : Int) (b : Int) = ((a ||| b : Nat) : Int) := by
  have h1 : ∀ x : Int, Builtin.bitNot x = -x - 1 := fun x => by unfold Builtin.bitNot; omega
  have h2 : ∀ x : Nat, decide (0 ≤ (-(x : Int) - 1)) = false := fun x => by simp; omega
  have e : ∀ x : Nat, (-(-(x : Int) - 1) - 1).toNat = x := fun x => by omega
  unfold Builtin.bitOr Builtin.bitAnd
  simp only [h1, h2, e]
  generalize a ||| b = c
  omega
theorem bit_test (m i : Nat) : decide (Builtin.bitAnd ((m : Int) / 2 ^ i) 1 = 1) = m.testBit i := by
  rw [bitAnd_m1, Nat.testBit_eq_decide_div_mod_eq]
  have : ((m : Int) / 2 ^ i % 2) = ((m / 2 ^ i % 2 : Nat) : Int) := by push_cast; rfl
  rw [this]
  congr 1
  apply propext
  omega
def maskN (l : List Nat) : Nat := l.foldl (fun m b => m ||| 2 ^ b) 0
theorem mask_fold : ∀ (l : List Nat) (m i : Nat), (l.foldl (fun m b => m ||| 2 ^ b) m).testBit i = (m.testBit i || decide (i ∈ l))
  | [], m, i => by simp
  | b :: l, m, i => by
    rw [List.foldl_cons, mask_fold l, Nat.testBit_or, Nat.testBit_two_pow]
    by_cases h : i = b
    · subst h; simp
    · have h' : ¬ b = i := fun z => h z.symm
      simp [h, h']
theorem mask_bit (l : List Nat) (i : Nat) : (maskN l).testBit i = decide (i ∈ l) := by
  unfold maskN
  rw [mask_fold]; simp
@[simp] theorem asB_bl {b : Bool} : (some (D.bl b)).bind D.asB = some b := rfl
@[simp] theorem anyI_tup {ds : List D} : anyI (.tup ds) = some ds := rfl
@[simp] theorem zipI_tup {xs ys : List D} : zipI (.tup xs) (.tup ys) = some (zipL xs ys) := rfl
@[simp] theorem ltDT_int {a b : Int} : ltDT (.int a) (.int b) = some (.bl (decide (a < b))) := by
  unfold ltDT
  rw [okc_int, okc_int]
  have h1 : PySem.W.alike (D.int a).py (D.int b).py = true := by
    have := PySem.W.alike_ints [a] [b]
    simpa [PySem.W.alikeAll, D.py] using this
  rw [h1]
  simp only [D.isNon, D.py, Bool.and_self, Bool.not_false, if_true]
  rw [PySem.W.dataLt_int]
@[simp] theorem map_some {a : α} {f : α → β} : Option.map f (some a) = some (f a) := rfl
theorem char_inj : ∀ x y : Char, x.toNat = y.toNat → x = y := fun x y h => by
  apply Char.ext
  apply UInt32.toNat_inj.mp
  exact h
@[simp] theorem ofString_inj {a b : String} : Str.ofString a = Str.ofString b ↔ a = b := by
  rw [Str.ofString_eq_toList, Str.ofString_eq_toList]
  constructor
  · intro h
    have h1 : a.toList.map Char.toNat = b.toList.map Char.toNat := by simpa using h
    have h2 : a.toList = b.toList := (List.map_inj_right char_inj).mp h1
    exact String.toList_inj.mp h2
  · rintro rfl; rfl
theorem okc_strs {ds : List D} (h : ∀ d ∈ ds, ∃ x, d = .str x) : (D.lst ds).okc = true := by
  have h1 : ∀ ds : List D, (∀ d ∈ ds, ∃ x, d = .str x) → D.plainL ds = true ∧ PyData.depthAll (D.pyL ds) = 0 := by
    intro ds
    induction ds with
    | nil => intro _; exact ⟨rfl, rfl⟩
    | cons d ds ih =>
      intro h
      obtain ⟨x, rfl⟩ := h d List.mem_cons_self
      obtain ⟨a, b⟩ := ih fun e he => h e (List.mem_cons_of_mem _ he)
      exact ⟨by simp [D.plainL, D.plain, a], by rw [D.pyL, PyData.depthAll, b]; rfl⟩
  obtain ⟨a, b⟩ := h1 ds h
  unfold D.okc
  rw [show (D.lst ds).plain = true from a, D.py, PyData.depth, b]
  rfl
theorem okc_nums {ds : List D} (h : ∀ d ∈ ds, ∃ x, d = .int x) : (D.lst ds).okc = true := by
  have h1 : ∀ ds : List D, (∀ d ∈ ds, ∃ x, d = .int x) → D.plainL ds = true ∧ PyData.depthAll (D.pyL ds) = 0 := by
    intro ds
    induction ds with
    | nil => intro _; exact ⟨rfl, rfl⟩
    | cons d ds ih =>
      intro h
      obtain ⟨x, rfl⟩ := h d List.mem_cons_self
      obtain ⟨a, b⟩ := ih fun e he => h e (List.mem_cons_of_mem _ he)
      exact ⟨by simp [D.plainL, D.plain, a], by rw [D.pyL, PyData.depthAll, b]; rfl⟩
  obtain ⟨a, b⟩ := h1 ds h
  unfold D.okc
  rw [show (D.lst ds).plain = true from a, D.py, PyData.depth, b]
  rfl
theorem inSeqS1 {a z : Str} : inSeq (.str z) [.str a] = some (decide (a = z)) := by
  unfold inSeq
  rw [okc_str, okc_strs (by simp)]
  simp [D.pyL, D.py, PyData.eqv, beq_dec, Bool.or_assoc]
@[simp] theorem s_inS1 {a z : Str} : inD (.str z) (.tup [.str a]) = some (.bl (decide (a = z))) := by
  show (inSeq (.str z) [.str a]).map D.bl = _
  rw [inSeqS1]; rfl
@[simp] theorem s_notInS1 {a z : Str} : notInD (.str z) (.tup [.str a]) = some (.bl (!(decide (a = z)))) := by
  show (inSeq (.str z) [.str a]).map (fun b => D.bl (!b)) = _
  rw [inSeqS1]; rfl
theorem inSeqS2 {a b z : Str} : inSeq (.str z) [.str a, .str b] = some (decide (a = z) || decide (b = z)) := by
  unfold inSeq
  rw [okc_str, okc_strs (by simp)]
  simp [D.pyL, D.py, PyData.eqv, beq_dec, Bool.or_assoc]
@[simp] theorem s_inS2 {a b z : Str} : inD (.str z) (.tup [.str a, .str b]) = some (.bl (decide (a = z) || decide (b = z))) := by
  show (inSeq (.str z) [.str a, .str b]).map D.bl = _
  rw [inSeqS2]; rfl
@[simp] theorem s_notInS2 {a b z : Str} : notInD (.str z) (.tup [.str a, .str b]) = some (.bl (!(decide (a = z) || decide (b = z)))) := by
  show (inSeq (.str z) [.str a, .str b]).map (fun b => D.bl (!b)) = _
  rw [inSeqS2]; rfl
theorem inSeqS3 {a b c z : Str} : inSeq (.str z) [.str a, .str b, .str c] = some (decide (a = z) || decide (b = z) || decide (c = z)) := by
  unfold inSeq
  rw [okc_str, okc_strs (by simp)]
  simp [D.pyL, D.py, PyData.eqv, beq_dec, Bool.or_assoc]
@[simp] theorem s_inS3 {a b c z : Str} : inD (.str z) (.tup [.str a, .str b, .str c]) = some (.bl (decide (a = z) || decide (b = z) || decide (c = z))) := by
  show (inSeq (.str z) [.str a, .str b, .str c]).map D.bl = _
  rw [inSeqS3]; rfl
@[simp] theorem s_notInS3 {a b c z : Str} : notInD (.str z) (.tup [.str a, .str b, .str c]) = some (.bl (!(decide (a = z) || decide (b = z) || decide (c = z)))) := by
  show (inSeq (.str z) [.str a, .str b, .str c]).map (fun b => D.bl (!b)) = _
  rw [inSeqS3]; rfl
theorem inSeqS4 {a b c d z : Str} : inSeq (.str z) [.str a, .str b, .str c, .str d] = some (decide (a = z) || decide (b = z) || decide (c = z) || decide (d = z)) := by
  unfold inSeq
  rw [okc_str, okc_strs (by simp)]
  simp [D.pyL, D.py, PyData.eqv, beq_dec, Bool.or_assoc]
@[simp] theorem s_inS4 {a b c d z : Str} : inD (.str z) (.tup [.str a, .str b, .str c, .str d]) = some (.bl (decide (a = z) || decide (b = z) || decide (c = z) || decide (d = z))) := by
  show (inSeq (.str z) [.str a, .str b, .str c, .str d]).map D.bl = _
  rw [inSeqS4]; rfl
@[simp] theorem s_notInS4 {a b c d z : Str} : notInD (.str z) (.tup [.str a, .str b, .str c, .str d]) = some (.bl (!(decide (a = z) || decide (b = z) || decide (c = z) || decide (d = z)))) := by
  show (inSeq (.str z) [.str a, .str b, .str c, .str d]).map (fun b => D.bl (!b)) = _
  rw [inSeqS4]; rfl
theorem inSeqS5 {a b c d e z : Str} : inSeq (.str z) [.str a, .str b, .str c, .str d, .str e] = some (decide (a = z) || decide (b = z) || decide (c = z) || decide (d = z) || decide (e = z)) := by
  unfold inSeq
  rw [okc_str, okc_strs (by simp)]
  simp [D.pyL, D.py, PyData.eqv, beq_dec, Bool.or_assoc]
@[simp] theorem s_inS5 {a b c d e z : Str} : inD (.str z) (.tup [.str a, .str b, .str c, .str d, .str e]) = some (.bl (decide (a = z) || decide (b = z) || decide (c = z) || decide (d = z) || decide (e = z))) := by
  show (inSeq (.str z) [.str a, .str b, .str c, .str d, .str e]).map D.bl = _
  rw [inSeqS5]; rfl
@[simp] theorem s_notInS5 {a b c d e z : Str} : notInD (.str z) (.tup [.str a, .str b, .str c, .str d, .str e]) = some (.bl (!(decide (a = z) || decide (b = z) || decide (c = z) || decide (d = z) || decide (e = z)))) := by
  show (inSeq (.str z) [.str a, .str b, .str c, .str d, .str e]).map (fun b => D.bl (!b)) = _
  rw [inSeqS5]; rfl
theorem inSeqI1 {a z : Int} : inSeq (.int z) [.int a] = some (decide (a = z)) := by
  unfold inSeq
  rw [okc_int, okc_nums (by simp)]
  simp [D.pyL, D.py, PyData.eqv, beq_dec, Bool.or_assoc]
@[simp] theorem s_inI1 {a z : Int} : inD (.int z) (.tup [.int a]) = some (.bl (decide (a = z))) := by
  show (inSeq (.int z) [.int a]).map D.bl = _
  rw [inSeqI1]; rfl
@[simp] theorem s_notInI1 {a z : Int} : notInD (.int z) (.tup [.int a]) = some (.bl (!(decide (a = z)))) := by
  show (inSeq (.int z) [.int a]).map (fun b => D.bl (!b)) = _
  rw [inSeqI1]; rfl
theorem inSeqI2 {a b z : Int} : inSeq (.int z) [.int a, .int b] = some (decide (a = z) || decide (b = z)) := by
  unfold inSeq
  rw [okc_int, okc_nums (by simp)]
  simp [D.pyL, D.py, PyData.eqv, beq_dec, Bool.or_assoc]
@[simp] theorem s_inI2 {a b z : Int} : inD (.int z) (.tup [.int a, .int b]) = some (.bl (decide (a = z) || decide (b = z))) := by
  show (inSeq (.int z) [.int a, .int b]).map D.bl = _
  rw [inSeqI2]; rfl
@[simp] theorem s_notInI2 {a b z : Int} : notInD (.int z) (.tup [.int a, .int b]) = some (.bl (!(decide (a = z) || decide (b = z)))) := by
  show (inSeq (.int z) [.int a, .int b]).map (fun b => D.bl (!b)) = _
  rw [inSeqI2]; rfl
theorem inSeqI3 {a b c z : Int} : inSeq (.int z) [.int a, .int b, .int c] = some (decide (a = z) || decide (b = z) || decide (c = z)) := by
  unfold inSeq
  rw [okc_int, okc_nums (by simp)]
  simp [D.pyL, D.py, PyData.eqv, beq_dec, Bool.or_assoc]
@[simp] theorem s_inI3 {a b c z : Int} : inD (.int z) (.tup [.int a, .int b, .int c]) = some (.bl (decide (a = z) || decide (b = z) || decide (c = z))) := by
  show (inSeq (.int z) [.int a, .int b, .int c]).map D.bl = _
  rw [inSeqI3]; rfl
@[simp] theorem s_notInI3 {a b c z : Int} : notInD (.int z) (.tup [.int a, .int b, .int c]) = some (.bl (!(decide (a = z) || decide (b = z) || decide (c = z)))) := by
  show (inSeq (.int z) [.int a, .int b, .int c]).map (fun b => D.bl (!b)) = _
  rw [inSeqI3]; rfl
theorem inSeqI4 {a b c d z : Int} : inSeq (.int z) [.int a, .int b, .int c, .int d] = some (decide (a = z) || decide (b = z) || decide (c = z) || decide (d = z)) := by
  unfold inSeq
  rw [okc_int, okc_nums (by simp)]
  simp [D.pyL, D.py, PyData.eqv, beq_dec, Bool.or_assoc]
@[simp] theorem s_inI4 {a b c d z : Int} : inD (.int z) (.tup [.int a, .int b, .int c, .int d]) = some (.bl (decide (a = z) || decide (b = z) || decide (c = z) || decide (d = z))) := by
  show (inSeq (.int z) [.int a, .int b, .int c, .int d]).map D.bl = _
  rw [inSeqI4]; rfl
@[simp] theorem s_notInI4 {a b c d z : Int} : notInD (.int z) (.tup [.int a, .int b, .int c, .int d]) = some (.bl (!(decide (a = z) || decide (b = z) || decide (c = z) || decide (d = z)))) := by
  show (inSeq (.int z) [.int a, .int b, .int c, .int d]).map (fun b => D.bl (!b)) = _
  rw [inSeqI4]; rfl
theorem inSeqI5 {a b c d e z : Int} : inSeq (.int z) [.int a, .int b, .int c, .int d, .int e] = some (decide (a = z) || decide (b = z) || decide (c = z) || decide (d = z) || decide (e = z)) := by
  unfold inSeq
  rw [okc_int, okc_nums (by simp)]
  simp [D.pyL, D.py, PyData.eqv, beq_dec, Bool.or_assoc]
@[simp] theorem s_inI5 {a b c d e z : Int} : inD (.int z) (.tup [.int a, .int b, .int c, .int d, .int e]) = some (.bl (decide (a = z) || decide (b = z) || decide (c = z) || decide (d = z) || decide (e = z))) := by
  show (inSeq (.int z) [.int a, .int b, .int c, .int d, .int e]).map D.bl = _
  rw [inSeqI5]; rfl
@[simp] theorem s_notInI5 {a b c d e z : Int} : notInD (.int z) (.tup [.int a, .int b, .int c, .int d, .int e]) = some (.bl (!(decide (a = z) || decide (b = z) || decide (c = z) || decide (d = z) || decide (e = z)))) := by
  show (inSeq (.int z) [.int a, .int b, .int c, .int d, .int e]).map (fun b => D.bl (!b)) = _
  rw [inSeqI5]; rfl
theorem ok_of_wp {m : M B α} {v : α} {s t : B.T} (h : wp m (fun a s' => a = v ∧ s' = t) s) : m s = .ok v t := by
  obtain ⟨a, s', e, rfl, rfl⟩ := wp_ok h
  exact e
section
variable {K : PySem.W.Frag} {cl : CTab} {c : Str} {i : Nat} {ds : List D} {d : D} {p : Nat} {s : Mem}
@[simp] theorem updM_same {o : Option D} : (updM s p o).m p = o := if_pos rfl
@[simp] theorem push_at : (s.push d).m s.n = some d := if_pos rfl
@[simp] theorem push_n : (s.push d).n = s.n + 1 := rfl
@[simp] theorem updM_n {o : Option D} : (updM s p o).n = s.n := rfl
@[simp] theorem updM_upd {o o' : Option D} : updM (updM s p o) p o' = updM s p o' := by
  unfold updM
  congr 1
  funext x
  show (if x = p then _ else if x = p then _ else _) = _
  split <;> rfl
@[simp] theorem push_upd {e : D} : updM (s.push d) s.n (some e) = s.push e := by
  unfold updM Mem.push
  congr 1
  funext x
  show (if x = s.n then _ else if x = s.n then _ else _) = _
  split <;> rfl
theorem wp_insr {R : Unit → Mem → Prop} (h : s.m p = some (.ins c ds)) : wp (insM (K := K) (cl := cl) c (.ref p)) R s ↔ R () s := by
  simp [wp, insM, rdM, M.bind, h, M.pure]
@[simp] theorem fld_ins : fldM (K := K) (cl := cl) c i (.ins c ds) = lift ds[i]? := by simp [fldM]
@[simp] theorem ins_ins : insM (K := K) (cl := cl) c (.ins c ds) = M.pure () := by simp [insM]
end
end DN
namespace DN
open PySem PySem.Spec PyProof.Rows L2 RZ ND
def see1 (p : D → Bool) (s : Sl) : Option D := match s with
  | .val d => some d
  | .own d => if p d = true then some (D.strip (.ins "" [d])) else none
  | .no => none
section
variable {p : D → Bool} {s : Sl} {ρ : SEnv} {d : D}
@[simp] theorem seeE_cons : seeE p (s :: ρ) = see1 p s :: seeE p ρ := by
  cases s <;> rfl
@[simp] theorem see1_val : see1 p (.val d) = some d := rfl
@[simp] theorem see1_no : see1 p .no = none := rfl
@[simp] theorem see1_own : see1 pHide (.own d) = none := rfl
end
end DN
namespace DN
open PySem PySem.Spec PyProof.Rows L2 RZ ND
variable {B : Sto}
@[simp] def sNewL (i : Nat) : SEnv → M B Fl := fun ρ => M.pure (.nx (ρ.set i (.own (.lst []))))
@[simp] def sNewD (i : Nat) : SEnv → M B Fl := fun ρ => M.pure (.nx (ρ.set i (.own (.dct [] []))))
@[simp] def sApp (p q : D → Bool) (i : Nat) (f : Env → M B D) : SEnv → M B Fl := fun ρ => match ρ[i]? with
  | some (.own (.lst ds)) => M.bind (f (seeE p ρ)) fun d => guardM (q d && !d.isMut && decide (ds.length < sizeLine)) (M.pure (.nx (ρ.set i (.own (.lst (ds ++ [d]))))))
  | _ => fun _ => .stuck
@[simp] def sPut (p q : D → Bool) (i : Nat) (fk f : Env → M B D) : SEnv → M B Fl := fun ρ => match ρ[i]? with
  | some (.own (.dct ks ds)) => M.bind (f (seeE p ρ)) fun d => M.bind (fk (seeE pHide ρ)) fun k => M.bind (lift k.key) fun k => guardM (q d && !d.isMut && decide (ks.length < sizeLine) && okK ks k) (M.pure (.nx (ρ.set i (.own (.dct (putKs ks k) (putVs ks ds k d))))))
  | _ => fun _ => .stuck
def ixK : List D → GK → Option Nat
  | [], _ => none
  | x :: ks, k => if x.key = some k then some 0 else (ixK ks k).map (· + 1)
@[simp] def sAppAt (p q : D → Bool) (i : Nat) (fk f : Env → M B D) : SEnv → M B Fl := fun ρ => match ρ[i]? with
  | some (.own (.dct ks ds)) => M.bind (fk (seeE pHide ρ)) fun k => M.bind (lift (k.key.bind fun k => ixK ks k)) fun j => match ds[j]? with
    | some (.ins c [.lst es]) => M.bind (f (seeE p ρ)) fun d => guardM (decide (c = "") && q d && !d.isMut && decide (es.length < sizeLine)) (M.pure (.nx (ρ.set i (.own (.dct ks (ds.set j (.ins "" [.lst (es ++ [d])])))))))
    | _ => fun _ => .stuck
  | _ => fun _ => .stuck
@[simp] def sAppSd (p q : D → Bool) (i : Nat) (fk f : Env → M B D) : SEnv → M B Fl := fun ρ => match ρ[i]? with
  | some (.own (.dct ks ds)) => M.bind (fk (seeE pHide ρ)) fun k => M.bind (lift k.key) fun k => match ixK ks k with
    | some j => match ds[j]? with
      | some (.ins c [.lst es]) => M.bind (f (seeE p ρ)) fun d => guardM (decide (c = "") && q d && !d.isMut && decide (es.length < sizeLine) && decide (ks.length < sizeLine) && !kindT ks) (M.pure (.nx (ρ.set i (.own (.dct ks (ds.set j (.ins "" [.lst (es ++ [d])])))))))
      | _ => fun _ => .stuck
    | none => M.bind (f (seeE p ρ)) fun d => guardM (q d && !d.isMut && decide (ks.length < sizeLine) && !kindT ks && !k.isT) (M.pure (.nx (ρ.set i (.own (.dct (ks ++ [keyD k]) (ds ++ [.ins "" [.lst [d]]]))))))
  | _ => fun _ => .stuck
def ownS (d : D) : Sl := match d with
  | .ins c [d'] => if c = "" then .own d' else .val d
  | d => .val d
@[simp] def sOwn (i : Nat) (f : Env → M B D) : SEnv → M B Fl := fun ρ => M.bind (f (seeE pHide ρ)) fun d => M.pure (.nx (ρ.set i (ownS d)))
@[simp] def sRetO (i : Nat) : SEnv → M B Fl := fun ρ => match ρ[i]? with
  | some (.own d) => M.pure (.ro d)
  | some (.val d) => M.pure (.rt d)
  | _ => fun _ => .stuck
def frzS (i : Nat) (ρ : SEnv) : SEnv := match ρ[i]? with
  | some (.own d) => ρ.set i (.val (D.strip (.ins "" [d])))
  | _ => ρ
@[simp] def sFrz (i : Nat) (G : SEnv → M B Fl) : SEnv → M B Fl := fun ρ => G (frzS i ρ)
end DN
namespace DN
open PySem PySem.Spec PyProof.Rows L2 RZ ND
variable {B : Sto}
section
variable {X : Cx} {C : Addr} {bmB : List Value} {Bn newId initId : String}
theorem pmk_own0 {x : Str} {p pos : Pos} (F : ExcBaseFacts Bn newId initId bmB) (q : PySem.W.excIn X.K C bmB newId = true) (gC : X.mg x = some (.ref C)) (kC : PySem.W.keepIn X.K (.ref C) = true) (r : Raises X (.ref C)) (hg : Gl X x)
    (hdb : (x == ("__debug__" : Str)) = false := by decide) : PMk X (.Call (.Name x p) [] [] pos) (fun _ H Q => Q (.ref C) none H) := by
  intro pins s σ H Q I h
  refine wpAny_Call_Name_kw (ld_glob I hg gC ?_ hdb)
  refine PySem.W.callWith_K0 (first := []) I.kIn kC ?_
  show wpAny _ _ (call (.ref C) []) _ _ _
  obtain ⟨bm, N, nm, qn, bs, hdct, sn, sub, ab, col, dd, k0, k1, k2, k3, k5, mN, hC, hN, hni, T⟩ := exc_obj I.kIn q
  refine wpAny_call_exc_subT F T hC hN hni (fun h' e hm => ?_) (Nat.zero_le _)
  exact mk_of I hm r h (I.hok.gone hm.new)
end
structure RaiseAt (K : PySem.W.Frag) (mg : Str → Option Value) (cl : CTab) (x : Str) (C : Addr) : Prop where
  c : cl x = some (C, [])
  mg : mg x = some (.ref C)
  xf : PySem.W.excIn K C [.type "ValueError", .type "Exception", .type "BaseException", .type "object"] "ValueError.__new__" = true
  kc : PySem.W.keepIn K (.ref C) = true
  bf : PySem.W.subIn K (.ref C) (.type "BaseException") = some true
  tf : PySem.W.typeIn K (.ref C) = some (.type "type")
def sRaise (x : Str) : SEnv → M B Fl := fun _ s => .err ⟨x, none⟩ s
section
variable {cl : CTab} {W : WX} {X : Cx} {x : Str} {C : Addr}
theorem ds_raise0 {p pos pos' : Pos} (R : RaiseAt X.K X.mg cl x C) (hc : X.calm = true) (tk : Takes X W) (hg : Gl X x) (hdb : (x == ("__debug__" : Str)) = false := by decide) :
    DS cl B W X (.Raise (some (.Call (.Name x p) [] [] pos)) none pos') (sRaise x) :=
  PS.weak (ps_raise hc tk (pmk_own0 PySem.F.excBase_ValueError R.xf R.mg R.kc (raises_own R.bf R.tf) hg hdb)) fun E σ H ⟨Z0, C0, H0, Z, C1, s, ρ, α, c0, w, n, r, q⟩ =>
    q (.ref C) none σ Z C1 H w n ⟨C, [], R.c, rfl, rfl, rfl⟩
end
inductive Fx where
  | fl (f : Fl) | ex (x : Exn) (ρ : SEnv)
def PostX (K : PySem.W.Frag) (cl : CTab) (W : WX) (Z0 : Zp) (C0 H0 : Hp) (r : Res B.T Fx) (E : Ends) : Prop :=
  match r with
  | .ok (.fl f) s => PostS (B := B) K cl W Z0 C0 H0 (.ok f s) E
  | .ok (.ex x ρ) s => ∀ c dx σ Z C H α, Wd B true Z C H s → Nx Z0 C0 H0 Z C H → SRel K cl Z C H H0 ρ σ α → ExR K cl Z C x c dx H → W c dx σ H
  | .err _ _ => False
  | .stuck => False
def tX (K : PySem.W.Frag) (cl : CTab) (B : Sto) (W : WX) (F : SEnv → M B Fx) : TS := fun E σ H => ∃ Z0 C0 H0 Z C s ρ α, Sub C0 H0 ∧ Wd B true Z C H s ∧ Nx Z0 C0 H0 Z C H ∧ SRel K cl Z C H H0 ρ σ α ∧ PostX K cl W Z0 C0 H0 (F ρ s) E
def DX1 (cl : CTab) (B : Sto) (W : WX) (X : Cx) (st : Stmt) (F : SEnv → M B Fx) : Prop := PS X st (tX X.K cl B W F)
def DXs (cl : CTab) (B : Sto) (W : WX) (X : Cx) (st : List Stmt) (F : SEnv → M B Fx) : Prop := PSs X st (tX X.K cl B W F)
def catchX {α : Type} (ρ : SEnv) (m : M B α) (k : α → M B Fx) : M B Fx := fun s => match m s with
  | .ok a s' => k a s'
  | .err x s' => .ok (.ex x ρ) s'
  | .stuck => .stuck
@[simp] def xSeq (F G : SEnv → M B Fx) : SEnv → M B Fx := fun ρ => M.bind (F ρ) fun r => match r with
  | .fl (.nx ρ') => G ρ'
  | o => M.pure o
@[simp] def xSet (i : Nat) (f : Env → M B D) : SEnv → M B Fx := fun ρ => catchX ρ (f (seeE pHide ρ)) fun d => M.pure (.fl (.nx (ρ.set i (.val d))))
@[simp] def xEx (f : Env → M B D) : SEnv → M B Fx := fun ρ => catchX ρ (f (seeE pHide ρ)) fun _ => M.pure (.fl (.nx ρ))
@[simp] def xRet (f : Env → M B D) : SEnv → M B Fx := fun ρ => catchX ρ (f (seeE pHide ρ)) fun d => M.pure (.fl (.rt d))
@[simp] def xIff (t : Env → M B Bool) (F G : SEnv → M B Fx) : SEnv → M B Fx := fun ρ => catchX ρ (t (seeE pHide ρ)) fun k => if k = true then F ρ else G ρ
@[simp] def xPass : SEnv → M B Fx := fun ρ => M.pure (.fl (.nx ρ))
section
variable {cl : CTab} {W : WX} {X : Cx}
theorem unZ_pHide {ρ : SEnv} {α : Nat → Addr → Prop} {Z1 : Zp} : unZ pHide ρ α Z1 = Z1 := unZ_hide pHide_no
theorem PostX.seq {K : PySem.W.Frag} {Z Z0 : Zp} {C H H0 C0 : Hp} {ρ : SEnv} {σ : L2.St} {α : Nat → Addr → Prop} {s : B.T} {υ β : Type} {Rp : Zp → υ → β → Prop} {m : M B β} {k : β → M B Fx} {E : Ends} {Q1 : υ → Hp → Prop} (w : Wd B true Z C H s) (c0 : Sub C0 H0) (n : Nx Z0 C0 H0 Z C H) (r : SRel K cl Z C H H0 ρ σ α)
    (h : PostX K cl W Z0 C0 H0 (catchX ρ m k s) E)
    (hk : ∀ a s1 v Z1 C1 H1, Wd B true Z1 C1 H1 s1 → Nx Z0 C0 H0 Z1 C1 H1 → SRel K cl Z1 C1 H1 H0 ρ σ α → Rp Z1 v a → PostX K cl W Z0 C0 H0 (k a s1) E → Q1 v H1) : Post K cl true Rp W σ (seeZ pHide ρ α Z H) C H (m s) Q1 := by
  unfold catchX at h
  have key : ∀ {Z1 : Zp} {C1 H1 : Hp} {s1 : B.T}, Wd B true Z1 C1 H1 s1 → Nx (seeZ pHide ρ α Z H) C H Z1 C1 H1 → Nx Z0 C0 H0 Z1 C1 H1 ∧ SRel K cl Z1 C1 H1 H0 ρ σ α := fun w1 n1 => by
    have u := see_un seeHide w c0 n r w1 n1
    have u2 := u.nx; have u3 := u.rel
    rw [unZ_pHide] at u2 u3
    exact ⟨u2, u3⟩
  cases e : m s with
  | ok a s1 =>
    simp only [e] at h
    exact fun v Z1 C1 H1 w1 n1 r1 => by
      obtain ⟨u2, u3⟩ := key w1 n1
      exact hk a s1 v Z1 C1 H1 w1 u2 u3 r1 h
  | err x s1 =>
    simp only [e] at h
    intro c dx Z1 C1 H1 w1 n1 ex
    obtain ⟨u2, u3⟩ := key w1 n1
    exact h c dx σ Z1 C1 H1 α w1 u2 u3 ex
  | stuck => simp only [e] at h; exact h
theorem dxs_one {st : Stmt} {F : SEnv → M B Fx} (h : DX1 cl B W X st F) : DXs cl B W X [st] F := pss_one h
theorem dx_expr {e : Expr} {f : Env → M B D} {pos : Pos} (h : DE cl B true W X e f) (hs : swapsWith e none pos.line X.env = pure false := by rfl) : DX1 cl B W X (.Expr e pos) (xEx f) := by
  refine PS.weak (ps_expr h hs) fun E σ H ⟨Z0, C0, H0, Z, C, s, ρ, α, c0, w, n, r, q⟩ => ?_
  refine ⟨seeZ pHide ρ α Z H, C, s, seeE pHide ρ, see_wd w r seeHide.nd, see_env seeHide r, PostX.seq w c0 n r q fun d s1 v Z1 C1 H1 w1 n1 r1 rv q1 => ?_⟩
  exact q1 σ Z1 C1 H1 α w1 n1 r1
theorem dx_if {c : Expr} {a b : List Stmt} {t : Env → M B Bool} {F G : SEnv → M B Fx} {pos : Pos} (hc : DT cl B true W X c t) (ha : DXs cl B W X a F) (hb : DXs cl B W X b G) : DX1 cl B W X (.If c a b pos) (xIff t F G) := by
  refine PS.weak (ps_if hc ha hb) fun E σ H ⟨Z0, C0, H0, Z, C, s, ρ, α, c0, w, n, r, q⟩ => ?_
  refine ⟨seeZ pHide ρ α Z H, C, s, seeE pHide ρ, see_wd w r seeHide.nd, see_env seeHide r, PostX.seq w c0 n r q fun k s1 v Z1 C1 H1 w1 n1 r1 rv q1 => ?_⟩
  have rv : v = k := rv
  subst rv
  cases v with
  | true => exact ⟨Z0, C0, H0, Z1, C1, s1, ρ, α, c0, w1, n1, r1, q1⟩
  | false => exact ⟨Z0, C0, H0, Z1, C1, s1, ρ, α, c0, w1, n1, r1, q1⟩
end
abbrev Hnd (B : Sto) := (Str → Option Bool) × (SEnv → M B Fl)
def hGo : List (Hnd B) → Exn → SEnv → M B Fl
  | [], x, _ => fun s => .err x s
  | (t, G) :: r, x, ρ => match t x.c with
    | some true => noErr (G ρ)
    | some false => hGo r x ρ
    | none => fun _ => .stuck
@[simp] def sTry (F : SEnv → M B Fx) (hs : List (Hnd B)) : SEnv → M B Fl := fun ρ => M.bind (noErr (F ρ)) fun r => match r with
  | .fl f => M.pure f
  | .ex x ρ' => hGo hs x ρ'
def CatchAt (K : PySem.W.Frag) (cl : CTab) (t : Str → Option Bool) (C : Addr) : Prop := ∀ x A fs b, t x = some b → cl x = some (A, fs) → PySem.W.exmOne K (.ref A) (.ref C) = some b
section
variable {cl : CTab} {W : WX} {X : Cx}
inductive HOkD (cl : CTab) (B : Sto) (X : Cx) : List ExceptHandler → List (Hnd B) → Prop
  | nil : HOkD cl B X [] []
  | cons {x : Str} {C : Addr} {t : Str → Option Bool} {G : SEnv → M B Fl} {b₀ : Stmt} {suite : List Stmt} {np pos' : Pos} {hds : List ExceptHandler} {l : List (Hnd B)} (hg : Gl X x) (hm : X.mg x = some (.ref C)) (hc : CatchAt X.K cl t C)
      (hsu : ∀ (a : Addr) (pn : List (Addr × Obj)), DSs cl B W0 (X.suite a pn) (b₀ :: suite) G) (r : HOkD cl B X hds l) (hdb : (x == ("__debug__" : Str)) = false := by decide) :
      HOkD cl B X (.ExceptHandler (some (.Name x np)) none (b₀ :: suite) pos' :: hds) ((t, G) :: l)
theorem hgo_ok {hds : List ExceptHandler} {l : List (Hnd B)} (h : HOkD cl B X hds l) : ∃ l', HdsOk X hds l' ∧ ∀ (E : Ends) (x : Exn) (ρ : SEnv) (s : B.T) (Z0 : Zp) (C0 H0 : Hp), Sub C0 H0 → PostS X.K cl W Z0 C0 H0 (hGo l x ρ s) E →
    ∀ c dx σ Z C H α, Wd B true Z C H s → Nx Z0 C0 H0 Z C H → SRel X.K cl Z C H H0 ρ σ α → ExR X.K cl Z C x c dx H → wMany X.K W E l' c dx σ H := by
  induction h with
  | nil => exact ⟨[], .nil, fun E x ρ s Z0 C0 H0 c0 p c dx σ Z C H α w n r ex => p c dx σ Z C H w n ex⟩
  | @cons x C t G b₀ suite np pos' hds l hg hm hc hsu r hdb ih =>
    obtain ⟨l', h1, h2⟩ := ih
    refine ⟨(.ref C, fun _ _ _ => tS X.K cl B W0 G) :: l', .cons ⟨hg, hdb, .inl hm⟩ (fun a oe cls d pn _ _ => hsu a _) h1, fun E x1 ρ s Z0 C0 H0 c0 p c dx σ Z Ch H α w n r1 ex => ?_⟩
    obtain ⟨A, fs, e1, e2, e3⟩ := id ex
    unfold hGo at p
    cases ht : t x1.c with
    | none => rw [ht] at p; exact False.elim p
    | some b =>
      rw [ht] at p
      refine ⟨b, by rw [e2]; exact hc _ _ _ _ ht e1, fun hb a ha => ?_, fun hb => ?_⟩
      · subst hb
        simp only at p
        refine ⟨Z0, C0, H0, Z, Ch, s, ρ, α, c0, w, n, r1, ?_⟩
        unfold noErr at p
        cases hG : G ρ s with
        | ok f s1 => simp only [hG] at p; cases f <;> exact p
        | err y s1 => simp only [hG] at p; exact False.elim p
        | stuck => simp only [hG] at p; exact False.elim p
      · subst hb
        exact h2 E x1 ρ s Z0 C0 H0 c0 p c dx σ Z Ch H α w n r1 ex
theorem ds_try {body : List Stmt} {h₀ : ExceptHandler} {hds : List ExceptHandler} {pos : Pos} {F : SEnv → M B Fx} {l : List (Hnd B)} (hs : X.stack = X.env :: X.outer) (hf : X.env.frame = some X.env.locals) (tk : Takes X W)
    (hb : ∀ (W : WX) (pn : List (Addr × Obj)) (xe : Value → Shared → Prop), Takes (X.tr pn xe) W → PassesOwn (model X.prog X.w) X.A X.env xe → DXs cl B W (X.tr pn xe) body F) (hh : HOkD cl B X (h₀ :: hds) l) :
    DS cl B W X (.Try body (h₀ :: hds) [] [] pos) (sTry F l) := by
  obtain ⟨l', h1, h2⟩ := hgo_ok (W := W) hh
  refine PS.weak (ps_try_many (tb := fun W => tX X.K cl B W F) hs hf tk (fun W pn xe tk ps => hb W pn xe tk ps) h1) fun E σ H ⟨Z0, C0, H0, Z, C, s, ρ, α, c0, w, n, r, q⟩ => ?_
  refine ⟨Z0, C0, H0, Z, C, s, ρ, α, c0, w, n, r, ?_⟩
  unfold sTry M.bind noErr at q
  cases hF : F ρ s with
  | stuck => simp only [hF] at q; exact q
  | err x s1 => simp only [hF] at q; exact False.elim q
  | ok fl s1 =>
    simp only [hF] at q
    cases fl with
    | fl f => cases f <;> exact q
    | ex x ρ1 => exact fun c dx σ1 Z1 C1 H1 α1 w1 n1 r1 ex => h2 E x ρ1 s1 Z0 C0 H0 c0 q c dx σ1 Z1 C1 H1 α1 w1 n1 r1 ex
end
end DN
namespace DN
open PySem PySem.Spec PyProof.Rows L2 RZ ND
variable {B : Sto}
def fldMs {K : PySem.W.Frag} {cl : CTab} (cs : List Str) (i : Nat) (x : D) : M (MemS K cl) D := match x with
  | .ins c' ds => lift (if c' ∈ cs then ds[i]? else none)
  | .ref a => M.bind (rdM a) fun l => lift (match l with
    | .ins c' ds => if c' ∈ cs then ds[i]? else none
    | _ => none)
  | _ => fun _ => .stuck
@[simp] abbrev xFlds {K : PySem.W.Frag} {cl : CTab} (cs : List Str) (i : Nat) (f : Env → M (MemS K cl) D) : Env → M (MemS K cl) D := fun ρ => M.bind (f ρ) (fldMs cs i)
section
variable {K : PySem.W.Frag} {cl : CTab} {c : Str} {cs : List Str} {i : Nat} {ds : List D} {d : D} {p : Nat} {s : Mem}
@[simp] theorem flds_ins (h : c ∈ cs) : fldMs (K := K) (cl := cl) cs i (.ins c ds) = lift ds[i]? := by simp [fldMs, h]
end
@[simp] abbrev pN : Env → M B (List (D × D)) := fun _ => M.pure []
@[simp] abbrev pC (f g : Env → M B D) (h : Env → M B (List (D × D))) : Env → M B (List (D × D)) := fun ρ => M.bind (f ρ) fun x => M.bind (g ρ) fun y => M.bind (h ρ) fun r => M.pure ((x, y) :: r)
def putAll0 : List D → List D → List (D × D) → Option D
  | ks, ds, [] => some (.dct ks ds)
  | ks, ds, (k, d) :: r => k.key.bind fun k => if k.isT = true then none else putAll0 (putKs ks k) (putVs ks ds k d) r
@[simp] abbrev xDct (f : Env → M B (List (D × D))) : Env → M B D := fun ρ => M.bind (f ρ) fun ps => lift (putAll0 [] [] ps)
section
variable {cl : CTab} {md : Bool} {W : WX} {X : Cx}
theorem de_dct0 {pos : Pos} : DE cl B md W X (.Dict [] [] pos) (fun _ => M.pure (.dct [] [])) := by
  refine PE.weak pe_dnewK fun σ H Q ⟨Z, C, s, ρ, w, e, p⟩ => ?_
  intro px hp
  have zp := none_of_sub w.zh hp
  have sz : SubZ Z (upz Z px (.dK [])) := SubZ.upd zp
  have al : Al Z H (upz Z px (.dK [])) (upd H px (.dK [])) := by
    refine ⟨sz, Sub.upd hp, fun x u q => ?_, fun x q => ?_, rfl⟩
    · by_cases hx : x = px
      · rw [hx, upz_same] at q; rw [hx, upd_same]; exact q
      · rw [upz_ne hx] at q; rw [upd_ne hx]; exact w.zh x u q
    · by_cases hx : x = px
      · rw [hx]; exact .inr hp
      · rw [upz_ne hx] at q; exact .inl q
  exact p (.ref px) _ C _ (al.wd w) al.nx (.dct (.inl upz_same) (.inl ⟨[], rfl, rfl⟩) rfl ⟨List.nodup_nil, fun _ h => nomatch h⟩ .nil)
def setfMs {K : PySem.W.Frag} {cl : CTab} (cs : List Str) (i : Nat) (x d : D) : M (MemS K cl) Unit := fun m => match x with
  | .ref a => match m.m a with
    | some (.ins c' ds) => if c' ∈ cs ∧ d.imm = true ∧ i = ds.length then .ok () (updM m a (some (.ins c' (ds ++ [d])))) else .stuck
    | _ => .stuck
  | _ => .stuck
@[simp] abbrev sSetFs {K : PySem.W.Frag} {cl : CTab} (p : D → Bool) (cs : List Str) (i : Nat) (fo f : Env → M (MemS K cl) D) : SEnv → M (MemS K cl) Fl := fun ρ => M.bind (f (seeE p ρ)) fun d => M.bind (fo (seeE pHide ρ)) fun x => M.bind (setfMs cs i x d) fun _ => M.pure (.nx ρ)
theorem wp_setfs {K : PySem.W.Frag} {cl : CTab} {c : Str} {cs : List Str} {i : Nat} {ds : List D} {d : D} {p : Nat} {s : Mem} {R : Unit → Mem → Prop} (h : s.m p = some (.ins c ds)) (hc : c ∈ cs) (hi : i = ds.length) (im : d.imm = true) : wp (setfMs (K := K) (cl := cl) cs i (.ref p) d) R s ↔ R () (updM s p (some (.ins c (ds ++ [d])))) := by
  simp [wp, setfMs, h, im, hi, hc]
end
theorem exm_is {K : PySem.W.Frag} {A S : Addr} {b : Bool} (h1 : PySem.W.subIn K (.ref S) (.type "BaseException") = some true) (h2 : PySem.W.isClsIn K S = true) (h3 : PySem.W.typeIn K (.ref S) = some (.type "type")) (h4 : PySem.W.subIn K (.ref A) (.ref S) = some b) :
    PySem.W.exmOne K (.ref A) (.ref S) = some b := by
  have e1 : (PySem.W.subIn K (.ref S) (.type "BaseException") == some true) = true := by rw [h1] <;> rfl
  have e2 : ((PySem.W.clsIn K S).isSome && PySem.W.typeIn K (.ref S) == some (.type "type")) = true := by
    have h2' : (PySem.W.clsIn K S).isSome = true := h2
    rw [h2', h3] <;> rfl
  show (if (PySem.W.subIn K (.ref S) (.type "BaseException") == some true) = true then (if ((PySem.W.clsIn K S).isSome && PySem.W.typeIn K (.ref S) == some (.type "type")) = true then PySem.W.subIn K (.ref A) (.ref S) else none) else none) = some b
  rw [if_pos e1, if_pos e2]
  exact h4
end DN
namespace DN
open PySem PySem.Spec PyProof.Rows L2 RZ ND
def boardName : D → Option D
  | .tup [n, _, _] => some n
  | _ => none
def nmL : List D → Option (List D)
  | [] => some []
  | b :: bs => (boardName b).bind fun n => (nmL bs).map fun r => n :: r
noncomputable def namesD (bs : List D) : Option D := (nmL bs).bind fun ns => (DN.putAll [] [] (ns.map fun n => (n, .bl true))).bind sortKD
noncomputable def i_keep (bs : List D) : IR := match namesD bs with
  | some (.lst ns) => if (D.purL bs && D.purL ns) = true then .ok [.tup bs, .tup ns] else .stuck
  | _ => .stuck
def lettersD : D := .str "abcdefghijklmnopqrstuvwxyz"
def WordOk (m : Nat) (z : Str) : Prop := 1 ≤ z.length ∧ z.length ≤ m ∧ ∀ c ∈ z.cps.toList, inD (.str ⟨#[c]⟩) lettersD = some (.bl true)
def boardD (n : Str) (s : Int) (r : List Str) : D := .tup [.str n, .int s, .tup (r.map .str)]
def BoardOk (b : D) : Prop := ∃ n s r, b = boardD n s r ∧ WordOk 8 n ∧ 0 ≤ s ∧ s ≤ 1 ∧ r.length ≤ 20 ∧ ∀ w ∈ r, WordOk 20 w
theorem immL_str : ∀ r : List Str, D.immL (r.map .str) = true
  | [] => rfl
  | a :: r => by simp [D.immL, D.imm, immL_str r]
theorem BoardOk.imm {b : D} (h : BoardOk b) : b.imm = true := by
  obtain ⟨n, s, r, rfl, _⟩ := h
  simp [boardD, D.imm, D.immL, immL_str]
theorem purL_str : ∀ r : List Str, D.purL (r.map .str) = true
  | [] => rfl
  | a :: r => by simp [D.purL, D.pur, purL_str r]
theorem BoardOk.pur {b : D} (h : BoardOk b) : b.pur = true := by
  obtain ⟨n, s, r, rfl, _⟩ := h
  simp [boardD, D.pur, D.purL, purL_str]
theorem purL_all : ∀ {ds : List D}, (∀ d ∈ ds, d.pur = true) → D.purL ds = true
  | [], _ => rfl
  | d :: ds, h => by
    rw [D.purL, h d List.mem_cons_self, purL_all fun e he => h e (List.mem_cons_of_mem _ he)]
    rfl
theorem strsOf_map : ∀ ks : List Str, strsOf (ks.map D.str) = some ks
  | [] => rfl
  | k :: ks => by simp [strsOf, strsOf_map ks]
theorem nmL_inv : ∀ {bs ns : List D}, nmL bs = some ns → ∀ b ∈ bs, ∃ n x y, b = .tup [n, x, y]
  | [], _, _, b, hb => nomatch hb
  | b :: bs, ns, e, c, hc => by
    unfold nmL at e
    cases e1 : boardName b with
    | none => rw [e1] at e; cases e
    | some n =>
      rw [e1] at e
      cases e2 : nmL bs with
      | none => rw [e2] at e; cases e
      | some r =>
        rcases List.mem_cons.mp hc with rfl | hc
        · unfold boardName at e1
          split at e1
          · exact ⟨_, _, _, rfl⟩
          · cases e1
        · exact nmL_inv e2 c hc
theorem nmL_map : ∀ {bs ns : List D}, nmL bs = some ns → ∀ f : D → Option (D × D), (∀ n x y, D.tup [n, x, y] ∈ bs → f (.tup [n, x, y]) = some (n, .bl true)) → bs.filterMap f = ns.map fun n => (n, .bl true)
  | [], _, e, f, h => by cases e; rfl
  | b :: bs, ns, e, f, h => by
    obtain ⟨n, x, y, rfl⟩ := nmL_inv e b List.mem_cons_self
    unfold nmL boardName at e
    simp only [Option.bind_some] at e
    cases e2 : nmL bs with
    | none => rw [e2] at e; cases e
    | some r =>
      rw [e2] at e
      cases e
      rw [List.filterMap_cons, h n x y List.mem_cons_self, List.map_cons, nmL_map e2 f fun n x y hm => h n x y (List.mem_cons_of_mem _ hm)]
def Pt : Nat → D → Prop
  | 0, _ => False
  | k + 1, d => (∃ i, d = .int i) ∨ (∃ x, d = .str x) ∨ (∃ b, d = .bl b) ∨ (∃ ds, d = .tup ds ∧ ∀ x ∈ ds, Pt k x) ∨ ∃ ds, d = .lst ds ∧ ∀ x ∈ ds, Pt k x
theorem Pt.up : ∀ {k : Nat} {d : D}, Pt k d → Pt (k + 1) d
  | 0, _, h => False.elim h
  | k + 1, d, h => by
    rcases h with ⟨i, rfl⟩ | ⟨x, rfl⟩ | ⟨b, rfl⟩ | ⟨ds, rfl, h⟩ | ⟨ds, rfl, h⟩
    · exact .inl ⟨i, rfl⟩
    · exact .inr (.inl ⟨x, rfl⟩)
    · exact .inr (.inr (.inl ⟨b, rfl⟩))
    · exact .inr (.inr (.inr (.inl ⟨ds, rfl, fun x hx => (h x hx).up⟩)))
    · exact .inr (.inr (.inr (.inr ⟨ds, rfl, fun x hx => (h x hx).up⟩)))
theorem Pt.le {k k' : Nat} {d : D} (h : Pt k d) (l : k ≤ k') : Pt k' d := by
  induction l with
  | refl => exact h
  | step _ ih => exact ih.up
theorem plainL_all : ∀ {ds : List D}, (∀ d ∈ ds, d.plain = true) → D.plainL ds = true
  | [], _ => rfl
  | d :: ds, h => by
    rw [D.plainL, h d List.mem_cons_self, plainL_all fun e he => h e (List.mem_cons_of_mem _ he)]
    rfl
theorem depthAll_le {n : Nat} : ∀ {ds : List D}, (∀ d ∈ ds, d.py.depth ≤ n) → PyData.depthAll (D.pyL ds) ≤ n
  | [], _ => Nat.zero_le _
  | d :: ds, h => by
    rw [D.pyL, PyData.depthAll]
    exact Nat.max_le.mpr ⟨h d List.mem_cons_self, depthAll_le fun e he => h e (List.mem_cons_of_mem _ he)⟩
theorem eqvAll_self : ∀ {ds : List D}, (∀ d ∈ ds, PyData.eqv d.py d.py = true) → PyData.eqvAll (D.pyL ds) (D.pyL ds) = true
  | [], _ => rfl
  | d :: ds, h => by
    rw [D.pyL, PyData.eqvAll, h d List.mem_cons_self, eqvAll_self fun e he => h e (List.mem_cons_of_mem _ he)]
    rfl
theorem Pt.facts : ∀ {k : Nat} {d : D}, Pt k d → d.plain = true ∧ d.py.depth ≤ k ∧ PyData.eqv d.py d.py = true
  | 0, _, h => False.elim h
  | k + 1, d, h => by
    rcases h with ⟨i, rfl⟩ | ⟨x, rfl⟩ | ⟨b, rfl⟩ | ⟨ds, rfl, h⟩ | ⟨ds, rfl, h⟩
    · exact ⟨rfl, by simp [D.py, PyData.depth], by simp [D.py, PyData.eqv]⟩
    · exact ⟨rfl, by simp [D.py, PyData.depth], by simp [D.py, PyData.eqv]⟩
    · exact ⟨rfl, by simp [D.py, PyData.depth], by simp [D.py, PyData.eqv]⟩
    · exact ⟨plainL_all fun x hx => (h x hx).facts.1, by rw [D.py, PyData.depth]; exact Nat.succ_le_succ (depthAll_le fun x hx => (h x hx).facts.2.1), by rw [D.py, PyData.eqv]; exact eqvAll_self fun x hx => (h x hx).facts.2.2⟩
    · exact ⟨plainL_all fun x hx => (h x hx).facts.1, by rw [D.py, PyData.depth]; exact Nat.succ_le_succ (depthAll_le fun x hx => (h x hx).facts.2.1), by rw [D.py, PyData.eqv]; exact eqvAll_self fun x hx => (h x hx).facts.2.2⟩
theorem Pt.okc {k : Nat} {d : D} (h : Pt k d) (hk : k ≤ 60) : d.okc = true := by
  obtain ⟨a, b, _⟩ := h.facts
  unfold D.okc
  rw [a, decide_eq_true (by omega)]
  rfl
theorem Pt.eq {k : Nat} {d : D} (h : Pt k d) (hk : k ≤ 60) : eqD d d = some (.bl true) := by
  unfold eqD
  rw [h.okc hk, h.facts.2.2]
  rfl
theorem Pt.ne {k : Nat} {d : D} (h : Pt k d) (hk : k ≤ 60) : neD d d = some (.bl false) := by
  unfold neD
  rw [h.okc hk, h.facts.2.2]
  rfl
theorem rng (n : Nat) (h : n ≤ 100000) : range1 (.int (n : Int)) = some ((List.range n).map fun i : Nat => .int (i : Int)) := by
  show (if _ then _ else _) = _
  rw [if_pos (by omega)]
  rfl
end DN
namespace DN
open PySem PySem.Spec PyProof.Rows L2 RZ ND
variable {B : Sto}
theorem fam_2 {P : Str → Prop} {a b : Str} (ha : P a) (hb : P b) : ∀ c ∈ ([a, b] : List Str), P c := fun c hc => by
  simp only [List.mem_cons, List.not_mem_nil, or_false] at hc
  rcases hc with rfl | rfl
  · exact ha
  · exact hb
def retS (d : D) : Fl := match d with
  | .ins c [d'] => if c = "" then .ro d' else .rt d
  | d => .rt d
@[simp] def sRetM (f : Env → M B D) : SEnv → M B Fl := fun ρ => M.bind (f (seeE pHide ρ)) fun d => M.pure (retS d)
section
variable {cl : CTab} {W : WX} {X : Cx} {p q : D → Bool} {i : Nat} {x : Str} {md : Bool}
theorem OwnTL.repV {K : PySem.W.Frag} {Z : Zp} {H : Hp} {k : GK} {v : V} {d : D} (hd : d.isMut = false) (r : Rep K cl Z v d) : ∀ {kvs : List (GK × V)} {F : Addr → Prop} {ds : List D}, OwnTL K cl Z H F (kvs.map (·.2)) ds →
    OwnTL K cl Z H F ((kvs.map fun kv => if kv.1 = k then (kv.1, v) else kv).map (·.2)) (DN.repV (kvs.map fun p => keyD p.1) ds k d)
  | [], F, ds, t => by cases t; exact .nil
  | kv :: kvs, F, ds, t => by
    cases t with
    | cons a b c o f =>
      rename_i F1 F2 d1 ds1
      have ih := OwnTL.repV (k := k) hd r f
      by_cases h : kv.1 = k
      · simp only [List.map_cons, DN.repV, key_keyD, h, if_true]
        exact .cons (F1 := fun _ => False) (F2 := F2) (fun _ q => q.elim) b (fun _ q _ => q) (.leaf hd r) ih
      · simp only [List.map_cons, DN.repV, key_keyD, if_neg h, Option.some.injEq]
        exact .cons a b c o ih
theorem OwnTL.put {K : PySem.W.Frag} {Z : Zp} {H : Hp} {F : Addr → Prop} {k : GK} {v : V} {d : D} (hd : d.isMut = false) (r : Rep K cl Z v d) {kvs : List (GK × V)} {ds : List D} (t : OwnTL K cl Z H F (kvs.map (·.2)) ds) :
    OwnTL K cl Z H F ((putK kvs k v).map (·.2)) (putVs (kvs.map fun p => keyD p.1) ds k d) := by
  unfold putVs putK
  rw [hasK_eq]
  split
  · exact t.repV hd r
  · rw [List.map_append]
    exact t.app (fun e he => by rw [List.mem_singleton.mp he]; exact hd) (.cons r .nil)
theorem din_of {Z H : Hp} {a : Addr} {o : HO} {kvs : List (GK × V)} {k : GK} {y : V} (e : Rd H a o) (hz : Sub Z H) (dk : DKV cl Z a o kvs) (ry : KeyV H y k) (ok : okK (kvs.map fun p => keyD p.1) k = true) : DGet2 cl H a y (valV kvs k) := by
  obtain ⟨oc, dp⟩ := okK_cases ok
  rcases dk with ⟨l, h1, h2⟩ | ⟨l, h0, h1, h2, h3⟩
  · subst h1 h2
    rcases k with k | k
    · exact .inl (.inl ⟨l, k, e, ry, valV_inl⟩)
    · have l0 : l = [] := by
        rcases oc with h | h
        · cases l with
          | nil => rfl
          | cons => cases h
        · rcases l with _ | ⟨⟨k | k, v⟩, l⟩
          · rfl
          · exact nomatch h
          · exact nomatch h
      subst l0
      exact .inr ⟨k, ry, dp _ rfl, .inr ⟨e, rfl⟩⟩
  · subst h1 h2
    rcases k with k | k
    · exfalso
      rcases oc with h | h
      · cases l with
        | nil => exact h0 rfl
        | cons => cases h
      · cases l with
        | nil => exact h0 rfl
        | cons => exact nomatch h
    · exact .inr ⟨k, ry, dp _ rfl, .inl ⟨l, e, h3.mono fun _ _ q => hz _ _ q, valV_inr⟩⟩
def inK (x : D) : D → Option D
  | .dct ks _ => x.key.bind fun k => if okK ks k = true then some (.bl (hasK ks k)) else none
  | y => inD x y
def notInK (x : D) : D → Option D
  | .dct ks _ => x.key.bind fun k => if okK ks k = true then some (.bl (!hasK ks k)) else none
  | y => notInD x y
@[simp] theorem inK_T {x : D} {ys : List D} : inK x (.tup ys) = inD x (.tup ys) := rfl
@[simp] theorem inK_L {x : D} {ys : List D} : inK x (.lst ys) = inD x (.lst ys) := rfl
@[simp] theorem inK_S {x : D} {y : Str} : inK x (.str y) = inD x (.str y) := rfl
@[simp] theorem notInK_T {x : D} {ys : List D} : notInK x (.tup ys) = notInD x (.tup ys) := rfl
@[simp] theorem notInK_L {x : D} {ys : List D} : notInK x (.lst ys) = notInD x (.lst ys) := rfl
@[simp] theorem notInK_S {x : D} {y : Str} : notInK x (.str y) = notInD x (.str y) := rfl
abbrev rInK (K : PySem.W.Frag) (cl : CTab) : R2 := fun x y H Q => rInA K x y H Q ∨ rInDict cl false x y H Q
abbrev rNotInK (K : PySem.W.Frag) (cl : CTab) : R2 := fun x y H Q => rNotInA K x y H Q ∨ rInDict cl true x y H Q
theorem op_inK (hcl : ClOk cl X) (hu : X.A.units + 65 < cLine) : OpR X (compareOp .In) (rInK X.K cl) := (op_inA hu).or (op_inDict hcl (by omega))
theorem op_notInK (hcl : ClOk cl X) (hu : X.A.units + 65 < cLine) : OpR X (compareOp .NotIn) (rNotInK X.K cl) := (op_notInA hu).or (op_notInDict hcl (by omega))
theorem hasK_val {kvs : List (GK × V)} {k : GK} : hasK (kvs.map fun p => keyD p.1) k = (valV kvs k).isSome := by rw [hasK_eq, valV_any]
theorem v_inK {K : PySem.W.Frag} : OpV K cl (rInK K cl) inK := by
  intro Z H x y dx dy d Q h rx ry e q
  cases dy with
  | dct ks ds =>
    obtain ⟨k, hk, he⟩ := Option.bind_eq_some_iff.mp (show (dx.key.bind fun k => if okK ks k = true then some (D.bl (hasK ks k)) else none) = some d from e)
    obtain rfl := key_eq hk
    have kv := keyV_of_rep rx h
    split at he
    case isFalse => cases he
    rename_i hok
    cases ry with
    | dct a dk b n c =>
      subst b; cases he
      rw [hasK_val] at q
      exact .inr ⟨_, _, rfl, din_of (sub_rdn h a) h dk kv hok, q _ Z H (.refl h) (.bl _)⟩
  | _ => exact .inl (v_in Z H x y dx _ d Q h rx ry e q)
theorem v_notInK {K : PySem.W.Frag} : OpV K cl (rNotInK K cl) notInK := by
  intro Z H x y dx dy d Q h rx ry e q
  cases dy with
  | dct ks ds =>
    obtain ⟨k, hk, he⟩ := Option.bind_eq_some_iff.mp (show (dx.key.bind fun k => if okK ks k = true then some (D.bl (!hasK ks k)) else none) = some d from e)
    obtain rfl := key_eq hk
    have kv := keyV_of_rep rx h
    split at he
    case isFalse => cases he
    rename_i hok
    cases ry with
    | dct a dk b n c =>
      subst b; cases he
      rw [hasK_val] at q
      exact .inr ⟨_, _, rfl, din_of (sub_rdn h a) h dk kv hok, q _ Z H (.refl h) (.bl _)⟩
  | _ => exact .inl (v_notIn Z H x y dx _ d Q h rx ry e q)
end
@[simp] abbrev xStrip (f : Env → M B D) : Env → M B D := fun ρ => M.bind (f ρ) fun d => M.pure d.strip
@[simp] abbrev xFl (f : Env → M B D) : Env → M B D := fun ρ => M.bind (f ρ) fun d => guardM (flatB d) (M.pure (.ins "" [d]))
@[simp] abbrev xNm (f : Env → M B D) : Env → M B D := fun ρ => M.bind (f ρ) fun d => guardM (!d.isMut) (M.pure d)
theorem wp_cut {A REST : SEnv → M B Fl} {ρ : SEnv} {s : B.T} {R : Fl → B.T → Prop} (P : SEnv → B.T → Prop) (h : wp (A ρ) (fun fl s' => match fl with
      | .nx ρ' => P ρ' s'
      | .rt d => R (.rt d) s'
      | .bk ρ' => R (.bk ρ') s'
      | .ct ρ' => R (.ct ρ') s'
      | .ro d => R (.ro d) s') s) (hr : ∀ ρ' s', P ρ' s' → wp (REST ρ') R s') : wp (seqF A REST ρ) R s := by
  rw [s_seq]
  refine wp_bind (wp_mono h fun fl s' q => ?_)
  cases fl with
  | nx ρ' => exact hr ρ' s' q
  | rt d => exact q
  | bk ρ' => exact q
  | ct ρ' => exact q
  | ro d => exact q
end DN
namespace DN
open PySem PySem.Spec PyProof.Rows L2 RZ ND
structure FldO (K : PySem.W.Frag) (cl : CTab) (c : Str) (f : Str) (i : Nat) : Prop where
  ex : FldAt K cl c f i ∨ cl c = none
theorem FldAt.o {K : PySem.W.Frag} {cl : CTab} {c f : Str} {i : Nat} (h : FldAt K cl c f i) : FldO K cl c f i := ⟨.inl h⟩
section
variable {cl : CTab} {md : Bool} {W : WX} {X : Cx} {p : D → Bool}
theorem de_fldo {e : Expr} {f : Env → M (MemS X.K cl) D} {cs : List Str} {fl : Str} {i : Nat} {pos : Pos} (F : ∀ c ∈ cs, FldO X.K cl c fl i) (he : DE cl (MemS X.K cl) md W X e f) (hb : attributeBase e fl X.env (eval e X.env) = eval e X.env := by rfl) :
    DE cl (MemS X.K cl) md W X (.Attribute e fl pos) (xFlds cs i f) := by
  refine PE.weak (pe_fld he hb) fun σ H Q ⟨Z, C, s, ρ, w, e, p⟩ => ?_
  refine ⟨Z, C, s, ρ, w, e, Post.seq w.ch p fun dx s1 x Z1 C1 H1 w1 n1 r1 p1 => ?_⟩
  have fin : ∀ {names : List Str} {ds : List D} {fs : List (Str × V)} {d : D}, names[i]? = some fl → names.Nodup → fs.map (·.1) = names.take ds.length → RepL X.K cl Z1 (fs.map (·.2)) ds → ds[i]? = some d → ∃ v, fs.lookup fl = some v ∧ Rep X.K cl Z1 v d := by
    intro names ds fs d hi nd e1 e2 e3
    obtain ⟨v, h1, h2⟩ := e2.get e3
    refine ⟨v, lookup_at e1 (nd.sublist (List.take_sublist _ _)) ?_ h1, h2⟩
    have hlt : i < ds.length := (List.getElem?_eq_some_iff.mp e3).1
    rw [List.getElem?_take_of_lt hlt]
    exact hi
  cases dx <;> (try (exact False.elim p1))
  · rename_i c' ds
    have p1 : Post X.K cl md (RpD X.K cl) W σ Z1 C1 H1 (lift (B := MemS X.K cl) (if c' ∈ cs then ds[i]? else none) s1) Q := p1
    obtain ⟨d, hd, q⟩ := post_lift w1 p1
    split at hd
    case isFalse => cases hd
    rename_i ec
    cases r1 with
    | ins a b c2 =>
      rename_i ad C0 dx fs
      rcases (F c' ec).ex with F1 | F1
      · obtain ⟨Cc, names, hc, hi, nd, _, C9, NA⟩ := F1.ex
        rw [hc] at a
        obtain ⟨rfl, hnm⟩ : C0 = _ ∧ fs.map (·.1) = names := by
          have := Option.some.inj a
          rw [Prod.mk.injEq] at this
          exact ⟨this.1.symm, this.2.symm⟩
        have hlen : names.length = ds.length := by rw [← hnm, List.length_map, ← c2.len, List.length_map]
        obtain ⟨v, h1, h2⟩ := fin hi nd (by rw [← hlen, List.take_length]; exact hnm) c2 hd
        exact ⟨ad, _, dx, fs, v, rfl, w1.zh _ _ b, by assumption, NA, h1, q v Z1 H1 (.refl w1.zh) h2⟩
      · rw [F1] at a; cases a
  · rename_i ad0
    cases r1 with | ref er1 =>
    rename_i ad
    unfold fldMs rdM M.bind at p1
    cases hm : s1.m ad0 with
    | none => simp only [hm] at p1; exact False.elim p1
    | some l =>
      simp only [hm] at p1
      have mr := mem_at' w1 hm er1
      cases l <;> (try (exact False.elim p1))
      rename_i c' ds
      obtain ⟨im, C0, dx, fs, ns, h1, h2, h3, h4⟩ := mr
      obtain ⟨d, hd, q⟩ := post_lift w1 p1
      simp only at hd
      split at hd
      case isFalse => cases hd
      rename_i ec
      rcases (F c' ec).ex with F1 | F1
      · obtain ⟨Cc, names, hc, hi, nd, _, C9, NA⟩ := F1.ex
        rw [hc] at h1
        obtain ⟨rfl, rfl⟩ : C0 = _ ∧ ns = names := by
          have := Option.some.inj h1
          rw [Prod.mk.injEq] at this
          exact ⟨this.1.symm, this.2.symm⟩
        obtain ⟨v, h5, h6⟩ := fin hi nd h3 h4 hd
        exact ⟨ad, _, dx, fs, v, rfl, w1.ch _ _ h2, by assumption, NA, h5, q v Z1 H1 (.refl w1.zh) h6⟩
      · rw [F1] at h1; cases h1
theorem ds_setf_none {o e : Expr} {f fo : Env → M (MemS X.K cl) D} {c fl : Str} {i : Nat} {tpos pos : Pos} (h0 : cl c = none) (sp : See p md) (he : DE cl (MemS X.K cl) md W X e f) (ho : DE cl (MemS X.K cl) true W X o fo)
    (hs : swapsWith e (some (.Attribute o fl tpos)) pos.line X.env = pure false := by rfl) :
    DS cl (MemS X.K cl) W X (.Assign [.Attribute o fl tpos] e pos) fun ρ => M.bind (f (seeE p ρ)) fun d => M.bind (fo (seeE pHide ρ)) fun x => M.bind (setfM c i x d) fun _ => M.pure (.nx ρ) := by
  refine PS.weak (ps_fld ho he hs) fun E σ H ⟨Z0, C0, H0, Z, C, s, ρ, α, c0, w, n, r, q⟩ => ?_
  refine ⟨seeZ p ρ α Z H, C, s, seeE p ρ, see_wd w r sp.nd, see_env sp r, PostS.seq sp w c0 n r q fun d s1 v Z1 C1 H1 w1 n1 r1 q1 => ?_⟩
  have u := see_un sp w c0 n r w1 n1
  have uw := u.wd; have un := u.nx; have ur := u.rel
  generalize unZ p ρ α Z1 = Zu at uw un ur
  refine ⟨seeZ pHide ρ α Zu H1, C1, s1, seeE pHide ρ, see_wd uw ur seeHide.nd, see_env seeHide ur, PostS.seq seeHide uw c0 un ur q1 fun x s2 vx Z2 C2 H2 w2 n2 r2 q2 => ?_⟩
  have u2 := see_un seeHide uw c0 un ur w2 n2
  have uw2 := u2.wd; have un2 := u2.nx; have ur2 := u2.rel
  rw [seeZ_hide pHide_no] at n2
  rw [unZ_hide pHide_no] at uw2 un2 ur2
  unfold setfM M.bind at q2
  cases x <;> (try (exact False.elim q2))
  rename_i ad0
  cases hm : s2.m ad0 with
  | none => simp only [hm] at q2; exact False.elim q2
  | some l =>
    cases l <;> (simp only [hm] at q2; try (exact False.elim q2))
    rename_i c' ds
    by_cases hd : c' = c ∧ d.imm = true ∧ i = ds.length
    · obtain ⟨rfl, hd, hil⟩ := hd
      obtain ⟨av, _, im, C7, dx, fs, ns, e0, e1, e2, e3⟩ := mem_at uw2 hm
      rw [h0] at e0; cases e0
    · simp only [if_neg hd] at q2; exact False.elim q2
theorem ds_setfo {fl : Str} {i : Nat} {cs : List Str} {o e : Expr} {fo f : Env → M (MemS X.K cl) D} {apos pos : Pos} (F : ∀ c ∈ cs, FldO X.K cl c fl i) (h0 : cs ≠ []) (sp : See p md) (he : DE cl (MemS X.K cl) md W X e f) (ho : DE cl (MemS X.K cl) true W X o fo)
    (hs : swapsWith e (some (.Attribute o fl apos)) pos.line X.env = pure false := by rfl) :
    DS cl (MemS X.K cl) W X (.Assign [.Attribute o fl apos] e pos) (sSetFs p cs i fo f) := by
  refine ⟨fun pins s σ H E I ⟨Z0, C0, H0, Z, C, st, ρ, α, c0, w, n, r, q⟩ => ?_⟩
  have hds : ∀ c ∈ cs, DS cl (MemS X.K cl) W X (.Assign [.Attribute o fl apos] e pos) (sSetF p c i fo f) := fun c hc => by
    rcases (F c hc).ex with h | h
    · exact ds_setf h sp he ho hs
    · exact ds_setf_none h sp he ho hs
  obtain ⟨c1, hc1⟩ := List.exists_mem_of_ne_nil cs h0
  have q : PostS X.K cl W Z0 C0 H0 (sSetFs (K := X.K) (cl := cl) p cs i fo f ρ st) E := q
  have key : ∃ c ∈ cs, (sSetFs (K := X.K) (cl := cl) p cs i fo f ρ st = sSetF (K := X.K) (cl := cl) p c i fo f ρ st) ∨ sSetFs (K := X.K) (cl := cl) p cs i fo f ρ st = .stuck := by
    cases e1 : f (seeE p ρ) st with
    | stuck => exact ⟨c1, hc1, .inl (by simp [sSetFs, sSetF, M.bind, e1])⟩
    | err x s1 => exact ⟨c1, hc1, .inl (by simp [sSetFs, sSetF, M.bind, e1])⟩
    | ok d s1 =>
      cases e2 : fo (seeE pHide ρ) s1 with
      | stuck => exact ⟨c1, hc1, .inl (by simp [sSetFs, sSetF, M.bind, e1, e2])⟩
      | err x s1 => exact ⟨c1, hc1, .inl (by simp [sSetFs, sSetF, M.bind, e1, e2])⟩
      | ok x s2 =>
        cases x <;> (try (refine ⟨c1, hc1, .inr ?_⟩; simp [sSetFs, M.bind, e1, e2, setfMs]; done))
        rename_i a
        cases em : s2.m a with
        | none => exact ⟨c1, hc1, .inr (by simp [sSetFs, M.bind, e1, e2, setfMs, em])⟩
        | some l =>
          cases l <;> (try (refine ⟨c1, hc1, .inr ?_⟩; simp [sSetFs, M.bind, e1, e2, setfMs, em]; done))
          rename_i c' ds
          by_cases hc : c' ∈ cs
          · exact ⟨c', hc, .inl (by simp [sSetFs, sSetF, M.bind, e1, e2, setfMs, setfM, em, hc])⟩
          · exact ⟨c1, hc1, .inr (by simp [sSetFs, M.bind, e1, e2, setfMs, em, hc])⟩
  obtain ⟨c, hc, eq | eq⟩ := key
  · rw [eq] at q
    exact (hds c hc).run pins s σ H E I ⟨Z0, C0, H0, Z, C, st, ρ, α, c0, w, n, r, q⟩
  · rw [eq] at q; exact False.elim q
end
end DN
namespace DN
open PySem PySem.Spec PyProof.Rows L2 RZ ND
def errNames : List Str := ((["HallError", "NoRow", "NoGame", "NoRows", "TooMany", "NoSide", "BadHall", "NoLot", "NoAim", "NoNumber", "NoGames"] ++ ["NoBoard", "NoWord", "NotTurn", "NotLet", "NothingDone", "NoLog", "NoMove", "NoAnswer", "NoPairing", "NotSpoiled", "Over", "NotFresh", "NoChoice", "NoSorts", "NoPoints", "NoStocks", "NoPrices", "NoRelay", "NoName", "Full", "BadText", "NoText", "NoLine", "NoKey"] : List String)).map Str.ofString
def t_of (x y : Str) : Option Bool := if y = x then some true else if y ∈ errNames then some false else none
@[simp] theorem t_of_self {x : Str} : t_of x x = some true := if_pos rfl
structure Cal (K : PySem.W.Frag) (mg : Str → Option Value) (x : Str) (g : Addr) (fd : FuncData) (ps : List Str) : Prop where
  mg : mg x = some (.ref g)
  kp : PySem.W.keepIn K (.ref g) = true
  b : Binds K fd ps []
structure CalM (K : PySem.W.Frag) (fd : FuncData) (ps : List Str) : Prop where
  b : Binds K fd ps []
structure CalC (K : PySem.W.Frag) (mg : Str → Option Value) (x : Str) (C : Addr) (fd : FuncData) (ps : List Str) : Prop where
  mg : mg x = some (.ref C)
  b : Binds K fd ps []
open Classical in
noncomputable def i_Hall : List D → IR
  | [.tup bs] => if 1 ≤ bs.length ∧ bs.length ≤ 12 ∧ ∀ b ∈ bs, BoardOk b then i_keep bs else .stuck
  | _ => .stuck
end DN
namespace LW
open PySem PySem.Spec PyProof.Rows L2 RZ DN
section
variable {K : PySem.W.Frag} {cl : CTab}
noncomputable def b_Hall_keep : SEnv → M (MemS K cl) Fl := seqF (sSetFs pHide ["Hall", "RawHall"] 0 (eVar 0) (eVar 1)) (sSetFs pHide ["Hall", "RawHall"] 1 (eVar 0) (xB tupleD (aC (xUn sortKD (xDc [2, 3, 4] (aTup (aCons (aName 2) (aCons (aName 3) (aCons (aName 4) (aNil))))) (tY) (eVar 2) (eC (.bl true)) (iOf anyI (eVar 1)))) (aN))))
noncomputable def m_Hall_keep : List D → M (MemS K cl) D := runF 5 b_Hall_keep
noncomputable def b_is_letters : SEnv → M (MemS K cl) Fl := seqF (sIf pHide (tOo (tNt (tTr (xUn (isD "str") (eVar 0)))) (tNt (tCh leI leI (eC (.int 1)) (xB lenD (aC (eVar 0) (aN))) (eVar 1)))) (sRet pHide (eC (.bl false))) (sPass)) (sRet pHide (xB allD (aC (xLc [2] (aName 2) (tY) (xOp inK (eVar 2) (eC (.str "abcdefghijklmnopqrstuvwxyz"))) (iOf anyI (eVar 0))) (aN))))
noncomputable def m_is_letters : List D → M (MemS K cl) D := runF 3 b_is_letters
noncomputable def b_is_name : SEnv → M (MemS K cl) Fl := sRet pHide (xCall m_is_letters (aC (eVar 0) (aC (eC (.int 8)) (aN))))
noncomputable def m_is_name : List D → M (MemS K cl) D := runF 1 b_is_name
noncomputable def b_is_integer : SEnv → M (MemS K cl) Fl := sRet pHide (xAn (xUn (isD "int") (eVar 0)) (xNt (xUn (isD "bool") (eVar 0))))
noncomputable def m_is_integer : List D → M (MemS K cl) D := runF 1 b_is_integer
noncomputable def b_is_within : SEnv → M (MemS K cl) Fl := sRet pHide (xAn (xCall m_is_integer (aC (eVar 0) (aN))) (xCh leI leI (eVar 1) (eVar 0) (eVar 2)))
noncomputable def m_is_within : List D → M (MemS K cl) D := runF 3 b_is_within
noncomputable def b_is_word : SEnv → M (MemS K cl) Fl := sRet pHide (xCall m_is_letters (aC (eVar 0) (aC (eC (.int 20)) (aN))))
noncomputable def m_is_word : List D → M (MemS K cl) D := runF 1 b_is_word
noncomputable def b_is_words : SEnv → M (MemS K cl) Fl := sRet pHide (xAn (xUn (isD "tuple") (eVar 0)) (xAn (xOp leI (xB lenD (aC (eVar 0) (aN))) (eVar 1)) (xB allD (aC (xLc [2] (aName 2) (tY) (xCall m_is_word (aC (eVar 2) (aN))) (iOf anyI (eVar 0))) (aN)))))
noncomputable def m_is_words : List D → M (MemS K cl) D := runF 3 b_is_words
noncomputable def b_is_board : SEnv → M (MemS K cl) Fl := seqF (sIf pHide (tOo (tNt (tTr (xUn (isD "tuple") (eVar 0)))) (tCm neD (xB lenD (aC (eVar 0) (aN))) (eC (.int 3)))) (sRet pHide (eC (.bl false))) (sPass)) (sRet pHide (xAn (xCall m_is_name (aC (xIx (eVar 0) (eC (.int 0))) (aN))) (xAn (xCall m_is_within (aC (xIx (eVar 0) (eC (.int 1))) (aC (eC (.int 0)) (aC (eC (.int 1)) (aN))))) (xCall m_is_words (aC (xIx (eVar 0) (eC (.int 2))) (aC (eC (.int 20)) (aN)))))))
noncomputable def m_is_board : List D → M (MemS K cl) D := runF 1 b_is_board
noncomputable def b_Hall_init : SEnv → M (MemS K cl) Fl := seqF (sIf pHide (tOo (tNt (tTr (xUn (isD "tuple") (eVar 1)))) (tNt (tCh leI leI (eC (.int 1)) (xB lenD (aC (eVar 1) (aN))) (eC (.int 12))))) (sNv) (sPass)) (seqF (sFor (aTup (aCons (aName 2) (aCons (aName 3) (aNil)))) (iOf enumI (eVar 1)) (sIf pHide (tNt (tTr (xCall m_is_board (aC (eVar 3) (aN))))) (sNv) (sPass))) (sEx pHide (xMeth "Hall" m_Hall_keep (eVar 0) (aC (eVar 1) (aN)))))
noncomputable def m_Hall_init : List D → M (MemS K cl) D := runF 4 b_Hall_init
noncomputable def b__law_pick : SEnv → M (MemS K cl) Fl := seqF (sIf pHide (tCm gtI (xIxM (eVar 0) (eC (.int 2))) (eC (.int 1))) (seqF (sSet 4 (xOp modD (xB intD (aC (xIxM (eVar 0) (eC (.int 2))) (aN))) (eVar 1))) (seqF (sSetM pHide (eVar 0) (eC (.int 2)) (xOp fdivD (xIxM (eVar 0) (eC (.int 2))) (eVar 1))) (sRet pHide (eVar 4)))) (sPass)) (seqF (sSetM pHide (eVar 0) (eC (.int 4)) (xOp addD (xIxM (eVar 0) (eC (.int 4))) (eC (.int 1)))) (seqF (sSet 2 (eC (.int 0))) (seqF (sIf pHide (tCm ltI (xIxM (eVar 0) (eC (.int 1))) (xLenM (xIxM (eVar 0) (eC (.int 0))))) (seqF (sSet 2 (xIxM (xIxM (eVar 0) (eC (.int 0))) (xIxM (eVar 0) (eC (.int 1))))) (sSetM pHide (eVar 0) (eC (.int 1)) (xOp addD (xIxM (eVar 0) (eC (.int 1))) (eC (.int 1))))) (sPass)) (seqF (sIf pHide (tCm geI (eVar 2) (xOp powD (eC (.int 10)) (eC (.int 18)))) (seqF (sSetM pHide (eVar 0) (eC (.int 2)) (xOp fdivD (eVar 2) (eVar 1))) (sRet pHide (xOp modD (xB intD (aC (eVar 2) (aN))) (eVar 1)))) (sPass)) (seqF (sSet 3 (xOp modD (xB intD (aC (xOp addD (xOp addD (xOp mulD (xIxM (eVar 0) (eC (.int 3))) (eC (.int 48271))) (xOp modD (xB intD (aC (eVar 2) (aN))) (eC (.int 2147483629)))) (xOp mulD (xIxM (eVar 0) (eC (.int 4))) (eC (.int 69621)))) (aN))) (eC (.int 2147483647)))) (seqF (sSet 3 (xOp modD (xB intD (aC (xOp mulD (eVar 3) (xOp addD (xOp fdivD (eVar 3) (eC (.int 1009))) (eC (.int 40692)))) (aN))) (eC (.int 2147483399)))) (seqF (sSetM pHide (eVar 0) (eC (.int 3)) (eVar 3)) (sRet pHide (xOp modD (xB intD (aC (xOp fdivD (eVar 3) (eC (.int 16))) (aN))) (eVar 1))))))))))
noncomputable def m__law_pick : List D → M (MemS K cl) D := runF 5 b__law_pick
noncomputable def b__law_aim (self_m : List D → M (MemS K cl) D) : SEnv → M (MemS K cl) Fl := seqF (sIf pHide (tOo (tCm ltI (eVar 2) (eC (.int 2))) (tCm eqD (xCall m__law_pick (aC (eVar 0) (aC (eC (.int 4)) (aN)))) (eC (.int 0)))) (sRet pHide (xCall m__law_pick (aC (eVar 0) (aC (eVar 1) (aN))))) (sPass)) (seqF (sSet 3 (xB tupleD (aC (xLc [4] (aName 4) (tY) (xCall self_m (aC (eVar 0) (aC (eVar 1) (aC (xOp subD (eVar 2) (eC (.int 1))) (aN))))) (iOf range1 (xIx (xLst (aC (eC (.int 2)) (aC (eC (.int 2)) (aC (eC (.int 3)) (aC (eC (.int 2)) (aC (eC (.int 1)) (aC (eC (.int 3)) (aC (eC (.int 0)) (aN))))))))) (xCall m__law_pick (aC (eVar 0) (aC (eC (.int 7)) (aN))))))) (aN)))) (seqF (sIf pHide (tCm eqD (xCall m__law_pick (aC (eVar 0) (aC (eC (.int 4)) (aN)))) (eC (.int 0))) (sRet pHide (xTup (aC (eC (.str "least")) (aC (xCall m__law_pick (aC (eVar 0) (aC (xOp addD (xB lenD (aC (eVar 3) (aN))) (eC (.int 2))) (aN)))) (aC (eVar 3) (aN)))))) (sPass)) (sRet pHide (xTup (aC (xIx (xLst (aC (eC (.str "all")) (aC (eC (.str "some")) (aN)))) (xCall m__law_pick (aC (eVar 0) (aC (eC (.int 2)) (aN))))) (aC (eVar 3) (aN)))))))
noncomputable def m__law_aim : Nat → List D → M (MemS K cl) D
  | 0 => fun _ _ => .stuck
  | n + 1 => runF 5 (b__law_aim (m__law_aim n))
noncomputable def b_check_number : SEnv → M (MemS K cl) Fl := sIf pHide (tNt (tTr (xCall m_is_within (aC (eVar 0) (aC (eVar 1) (aC (eVar 2) (aN))))))) (sRaise "NoNumber") (sPass)
noncomputable def m_check_number : List D → M (MemS K cl) D := runF 3 b_check_number
noncomputable def b_moved_by (self_m : List D → M (MemS K cl) D) : SEnv → M (MemS K cl) Fl := seqF (sIf pHide (tNt (tTr (xUn (isD "tuple") (eVar 0)))) (sRet pHide (xOp addD (eVar 0) (eVar 1))) (sPass)) (sRet pHide (xOp addD (xSl (eVar 0) (oN) (oS (xUn negD (eC (.int 1))))) (xTup (aC (xB tupleD (aC (xLc [2] (aName 2) (tY) (xCall self_m (aC (eVar 2) (aC (eVar 1) (aN)))) (iOf anyI (xIx (eVar 0) (xUn negD (eC (.int 1)))))) (aN))) (aN)))))
noncomputable def m_moved_by : Nat → List D → M (MemS K cl) D
  | 0 => fun _ _ => .stuck
  | n + 1 => runF 3 (b_moved_by (m_moved_by n))
noncomputable def b_aims_in : SEnv → M (MemS K cl) Fl := seqF (sIf pHide (tOo (tNt (tTr (xUn (isD "tuple") (eVar 0)))) (tOo (tCm notInK (xB lenD (aC (eVar 0) (aN))) (xTup (aC (eC (.int 2)) (aC (eC (.int 3)) (aN))))) (tNt (tTr (xUn (isD "str") (xIx (eVar 0) (eC (.int 0)))))))) (sRet pHide (eC .non)) (sPass)) (seqF (sIf pHide (tAn (tCm eqD (xB lenD (aC (eVar 0) (aN))) (eC (.int 2))) (tCm notInK (xIx (eVar 0) (eC (.int 0))) (xTup (aC (eC (.str "all")) (aC (eC (.str "some")) (aN)))))) (sRet pHide (eC .non)) (sPass)) (seqF (sIf pHide (tAn (tCm eqD (xB lenD (aC (eVar 0) (aN))) (eC (.int 3))) (tOo (tCm neD (xIx (eVar 0) (eC (.int 0))) (eC (.str "least"))) (tNt (tTr (xCall m_is_within (aC (xIx (eVar 0) (eC (.int 1))) (aC (eC (.int 0)) (aC (eC (.int 25)) (aN))))))))) (sRet pHide (eC .non)) (sPass)) (seqF (sIf pHide (tOo (tNt (tTr (xUn (isD "tuple") (xIx (eVar 0) (xUn negD (eC (.int 1))))))) (tCm gtI (xB lenD (aC (xIx (eVar 0) (xUn negD (eC (.int 1)))) (aN))) (eC (.int 24)))) (sRet pHide (eC .non)) (sPass)) (sRet pHide (xIx (eVar 0) (xUn negD (eC (.int 1))))))))
noncomputable def m_aims_in : List D → M (MemS K cl) D := runF 1 b_aims_in
noncomputable def b_parts_of (self_m : List D → M (MemS K cl) D) : SEnv → M (MemS K cl) Fl := seqF (sIf pHide (tTr (xCall m_is_within (aC (eVar 0) (aC (eC (.int 0)) (aC (eVar 1) (aN)))))) (sRet pHide (eC (.int 1))) (sPass)) (seqF (sSet 3 (xCall m_aims_in (aC (eVar 0) (aN)))) (seqF (sIf pHide (tOo (tCm isN (eVar 3) (eC .non)) (tAn (tCm eqD (eVar 2) (eC (.int 1))) (tCm gtI (xB lenD (aC (eVar 3) (aN))) (eC (.int 0))))) (sRet pHide (eC .non)) (sPass)) (seqF (sSet 4 (eC (.int 1))) (seqF (sFor (aName 5) (iOf anyI (eVar 3)) (seqF (sSet 6 (xCall self_m (aC (eVar 5) (aC (eVar 1) (aC (xOp subD (eVar 2) (eC (.int 1))) (aN)))))) (seqF (sIf pHide (tOo (tCm isN (eVar 6) (eC .non)) (tCm gtI (xOp addD (eVar 4) (eVar 6)) (eC (.int 200)))) (sRet pHide (eC .non)) (sPass)) (sAug pHide yes 4 iaddD (eVar 6))))) (sRet pHide (eVar 4))))))
noncomputable def m_parts_of : Nat → List D → M (MemS K cl) D
  | 0 => fun _ _ => .stuck
  | n + 1 => runF 7 (b_parts_of (m_parts_of n))
noncomputable def b_is_any_aim : SEnv → M (MemS K cl) Fl := sRet pHide (xOp isNotN (xCall (m_parts_of 10) (aC (eVar 0) (aC (eVar 1) (aC (eC (.int 8)) (aN))))) (eC .non))
noncomputable def m_is_any_aim : List D → M (MemS K cl) D := runF 2 b_is_any_aim
noncomputable def b_moved : SEnv → M (MemS K cl) Fl := seqF (sIf pHide (tNt (tTr (xCall m_is_any_aim (aC (eVar 0) (aC (eC (.int 1000000)) (aN)))))) (sRaise "NoAim") (sPass)) (seqF (sEx pHide (xCall m_check_number (aC (eVar 1) (aC (eC (.int 0)) (aC (eC (.int 1000)) (aN)))))) (seqF (sSet 2 (xCall (m_moved_by 10) (aC (eVar 0) (aC (eVar 1) (aN))))) (seqF (sIf pHide (tNt (tTr (xCall m_is_any_aim (aC (eVar 2) (aC (eC (.int 1000000)) (aN)))))) (sRaise "NoNumber") (sPass)) (sRet pHide (eVar 2)))))
noncomputable def m_moved : List D → M (MemS K cl) D := runF 3 b_moved
noncomputable def b_is_aim : SEnv → M (MemS K cl) Fl := sRet pHide (xCall m_is_any_aim (aC (eVar 1) (aC (xOp subD (xB lenD (aC (xFlds ["Hall", "RawHall"] 0 (eVar 0)) (aN))) (eC (.int 1))) (aN))))
noncomputable def m_is_aim : List D → M (MemS K cl) D := runF 2 b_is_aim
noncomputable def b_check_aim : SEnv → M (MemS K cl) Fl := sIf pHide (tNt (tTr (xCall m_is_aim (aC (eVar 0) (aC (eVar 1) (aN)))))) (sRaise "NoAim") (sPass)
noncomputable def m_check_aim : List D → M (MemS K cl) D := runF 2 b_check_aim
noncomputable def b_holds (self_m : List D → M (MemS K cl) D) : SEnv → M (MemS K cl) Fl := seqF (sIf pHide (tNt (tTr (xUn (isD "tuple") (eVar 0)))) (sRet pHide (xOp eqD (xOp andD (xOp shrD (eVar 1) (eVar 0)) (eC (.int 1))) (eC (.int 1)))) (sPass)) (seqF (sSet 2 (xLc [3] (aName 3) (tY) (xCall self_m (aC (eVar 3) (aC (eVar 1) (aN)))) (iOf anyI (xIx (eVar 0) (xUn negD (eC (.int 1))))))) (seqF (sIf pHide (tCm eqD (xIx (eVar 0) (eC (.int 0))) (eC (.str "all"))) (sRet pHide (xB allD (aC (eVar 2) (aN)))) (sPass)) (seqF (sIf pHide (tCm eqD (xIx (eVar 0) (eC (.int 0))) (eC (.str "some"))) (sRet pHide (xB anyD (aC (eVar 2) (aN)))) (sPass)) (sRet pHide (xOp geI (xCount (eVar 2) (eC (.bl true))) (xIx (eVar 0) (eC (.int 1))))))))
noncomputable def m_holds : Nat → List D → M (MemS K cl) D
  | 0 => fun _ _ => .stuck
  | n + 1 => runF 4 (b_holds (m_holds n))
noncomputable def b_is_ascending : SEnv → M (MemS K cl) Fl := sRet pHide (xB allD (aC (xLc [1, 2] (aTup (aCons (aName 1) (aCons (aName 2) (aNil)))) (tY) (xOp ltDT (eVar 1) (eVar 2)) (iOf2 zipI (eVar 0) (xSl (eVar 0) (oS (eC (.int 1))) (oN)))) (aN)))
noncomputable def m_is_ascending : List D → M (MemS K cl) D := runF 3 b_is_ascending
noncomputable def b_is_lot : SEnv → M (MemS K cl) Fl := seqF (sIf pHide (tOo (tNt (tTr (xUn (isD "tuple") (eVar 0)))) (tNt (tTr (xB allD (aC (xLc [2] (aName 2) (tY) (xCall m_is_within (aC (eVar 2) (aC (eC (.int 0)) (aC (xOp subD (eVar 1) (eC (.int 1))) (aN))))) (iOf anyI (eVar 0))) (aN)))))) (sRet pHide (eC (.bl false))) (sPass)) (sRet pHide (xCall m_is_ascending (aC (eVar 0) (aN))))
noncomputable def m_is_lot : List D → M (MemS K cl) D := runF 3 b_is_lot
noncomputable def b_mask_of : SEnv → M (MemS K cl) Fl := seqF (sSet 1 (eC (.int 0))) (seqF (sFor (aName 2) (iOf anyI (eVar 0)) (sSet 1 (xOp orD (eVar 1) (xOp shlD (eC (.int 1)) (eVar 2))))) (sRet pHide (eVar 1)))
noncomputable def m_mask_of : List D → M (MemS K cl) D := runF 3 b_mask_of
noncomputable def b_reached : SEnv → M (MemS K cl) Fl := seqF (sEx pHide (xCall m_check_aim (aC (eVar 0) (aC (eVar 1) (aN))))) (seqF (sIf pHide (tNt (tTr (xCall m_is_lot (aC (eVar 2) (aC (xB lenD (aC (xFlds ["Hall", "RawHall"] 0 (eVar 0)) (aN))) (aN)))))) (sRaise "NoLot") (sPass)) (sRet pHide (xCall (m_holds 10) (aC (eVar 1) (aC (xCall m_mask_of (aC (eVar 2) (aN))) (aN))))))
noncomputable def m_reached : List D → M (MemS K cl) D := runF 3 b_reached
end
end LW
namespace LW
open PySem PySem.Spec PyProof.Rows L2 RZ DN
section
variable {K : PySem.W.Frag} {cl : CTab}
theorem tape0 {ns : List Int} : Tape tf0 (tapeM 0 tf0 ns 0 0 1 0) := ⟨ns, _, _, _, _, ⟨by decide, by decide, by decide, fun _ _ => rfl⟩, by omega, rfl⟩
theorem wp_pick {t : TF} {n : Int} {R : D → Mem → Prop} {s : Mem} (ht : Tape t s) (h1 : 1 ≤ n) (h2 : n ≤ 1000000) (q : ∀ k s', 0 ≤ k → k < n → Tape t s' → R (.int k) s') : wp (m__law_pick (K := K) (cl := cl) [.ref t, .int n]) R s := by
  obtain ⟨ns, p, c, z, cn, hh, hp, rfl⟩ := ht
  generalize hsc : t.sc = sc at hh ⊢
  have hne := hh.1
  have fin : ∀ {k p' c' z' n'}, 0 ≤ k → k < n → 0 ≤ p' → R (.int k) (tapeM sc t ns p' c' z' n') := fun a b d => q _ _ a b ⟨ns, _, _, _, _, by rw [hsc]; exact hh, d, by rw [hsc]⟩
  have mod0 : ∀ x : Int, 0 ≤ x % n ∧ x % n < n := fun x => ⟨Int.emod_nonneg _ (by omega), Int.emod_lt_of_pos _ (by omega)⟩
  have hn0 : 0 < n := by omega
  have hn1 : n < 1073741824 := by omega
  unfold m__law_pick b__law_pick
  have e18 : (10 : Int) ^ 18 = 1000000000000000000 := by decide
  by_cases hc : 1 < c
  · simp [runF, startE, wp_t2, hc, hn0, hn1, wp_s2]
    exact fin (mod0 c).1 (mod0 c).2 hp
  · simp [runF, startE, wp_t2, hc, hn0, hn1, wp_s2, wp_t4, wp_s4, wp_t1, wp_t0, wp_len hne]
    by_cases hpl : p < ns.length
    · simp [hpl, wp_t0, wp_t1]
      refine wp_cell hne hp hpl fun x => ?_
      simp [wp_t1, wp_s1]
      by_cases hx : 1000000000000000000 ≤ x
      · simp [hx, hn0, hn1, wp_s2]
        exact fin (mod0 _).1 (mod0 _).2 (by omega)
      · simp [hx, wp_t3, wp_t4]
        split
        · simp [wp_s3, hn0]
          exact fin (mod0 _).1 (mod0 _).2 (by omega)
        · exfalso; omega
    · simp [hpl, wp_t3, wp_t4]
      split
      · simp [wp_s3, hn0]
        exact fin (mod0 _).1 (mod0 _).2 (by omega)
      · exfalso; omega
end
end LW
namespace LW
open PySem PySem.Spec PyProof.Rows L2 RZ DN
section
variable {K : PySem.W.Frag} {cl : CTab}
theorem e_integer_I {i : Int} : (m_is_integer [.int i] : M (MemS K cl) D) = M.pure (.bl true) := by simp [m_is_integer, b_is_integer, startE]
theorem e_integer_T {ds : List D} : (m_is_integer [.tup ds] : M (MemS K cl) D) = M.pure (.bl false) := by simp [m_is_integer, b_is_integer, startE]
theorem e_within_I {i a b : Int} : (m_is_within [.int i, .int a, .int b] : M (MemS K cl) D) = M.pure (.bl (decide (a ≤ i ∧ i ≤ b))) := by
  simp [m_is_within, b_is_within, startE, e_integer_I]
  split <;> simp [*]
theorem e_within_T {ds : List D} {a b : Int} : (m_is_within [.tup ds, .int a, .int b] : M (MemS K cl) D) = M.pure (.bl false) := by
  simp [m_is_within, b_is_within, startE, e_integer_T]
theorem cutL_one {ds : List D} : cutL ds (some 1) none = ds.drop 1 := by
  unfold cutL
  have e : HT.sIx ds.length 0 (some 1) = min 1 ds.length := HT.sIx_nat ds.length 0 1
  rw [e, HT.sIx_none]
  cases ds with
  | nil => rfl
  | cons d ds => simp
theorem zip_int : ∀ {l r : List Int}, zipL (l.map .int) (r.map .int) = (l.zip r).map fun p => .tup [.int p.1, .int p.2]
  | [], _ => by simp [zipL]
  | _ :: _, [] => by simp [zipL]
  | a :: l, b :: r => by simp [zipL, zip_int]
theorem chain_all : ∀ {l : List Int}, ((l.zip (l.drop 1)).all fun p => decide (p.1 < p.2)) = decide (l.Pairwise (· < ·))
  | [] => by simp
  | [a] => by simp
  | a :: b :: l => by
    have ih := chain_all (l := b :: l)
    simp only [List.drop_succ_cons, List.drop_zero, List.zip_cons_cons, List.all_cons] at ih ⊢
    rw [ih, Bool.eq_iff_iff]
    simp only [Bool.and_eq_true, decide_eq_true_eq, List.pairwise_cons, List.mem_cons, forall_eq_or_imp]
    constructor
    · rintro ⟨h1, h2, h3⟩
      exact ⟨⟨h1, fun c hc => Int.lt_trans h1 (h2 c hc)⟩, h2, h3⟩
    · rintro ⟨⟨h1, _⟩, h2, h3⟩
      exact ⟨h1, h2, h3⟩
theorem e_ascending {l : List Int} : (m_is_ascending [.tup (l.map .int)] : M (MemS K cl) D) = M.pure (.bl (decide (l.Pairwise (· < ·)))) := by
  have e : (l.map D.int).drop 1 = (l.drop 1).map D.int := by simp
  simp only [m_is_ascending, b_is_ascending, s_runF, startE]
  simp [slD, cutL_one]
  rw [← List.drop_one, e, zip_int, compL_map (k := fun p => .bl (decide (p.1 < p.2)))]
  · have := chain_all (l := l)
    rw [List.drop_one] at this
    simp [this]
  · intro p hp
    simp [setsE, wipeE]
theorem e_lot {l : List Int} {n : Int} (h : ∀ i ∈ l, 0 ≤ i ∧ i < n) : (m_is_lot [.tup (l.map .int), .int n] : M (MemS K cl) D) = M.pure (.bl (decide (l.Pairwise (· < ·)))) := by
  simp only [m_is_lot, b_is_lot, s_runF, startE]
  simp
  rw [compL_map (k := fun _ => .bl true)]
  · have : allD [.lst (l.map fun _ => D.bl true)] = some (.bl true) := by
      rw [show (l.map fun _ => D.bl true) = l.map fun a => .bl ((fun _ => true) a) from rfl, allD_map]
      simp
    simp [this, e_ascending]
  · intro i hi
    simp [wipeE, e_within_I]
    have := h i hi
    have h1 : 0 ≤ i := this.1
    have h2 : i ≤ n - 1 := by omega
    simp [h1, h2]
theorem e_mask {l : List Nat} (h : ∀ i ∈ l, i ≤ 1000) : (m_mask_of [.tup (l.map fun b : Nat => .int b)] : M (MemS K cl) D) = M.pure (.int (maskN l)) := by
  refine pure_of_wp fun s => ?_
  simp only [m_mask_of, b_mask_of, s_runF, startE]
  simp
  refine wp_forI (fun r ρ s' => ∃ (l' : List Nat) (m : Nat) (d : D) (x : Sl), (∀ i ∈ l', i ≤ 1000) ∧ r = l'.map (fun b : Nat => .int b) ∧ ρ = [.val d, .val (.int m), x] ∧ l'.foldl (fun m b => m ||| 2 ^ b) m = maskN l ∧ s' = s) ⟨l, 0, _, _, h, rfl, rfl, rfl, rfl⟩ ?_ ?_
  · rintro d r ρ s' ⟨l', m, d0, x, hl, e, rfl, ef, rfl⟩
    cases l' with
    | nil => cases e
    | cons b l' =>
      rw [List.map_cons, List.cons.injEq] at e
      obtain ⟨rfl, rfl⟩ := e
      have hb := hl b List.mem_cons_self
      have hb2 : (b : Int) ≤ 1000000 := by omega
      refine ⟨_, s_aName, ?_⟩
      simp [hb2]
      refine ⟨l', fun i hi => hl i (List.mem_cons_of_mem _ hi), rfl, m ||| 2 ^ b, ?_, ef⟩
      rw [← DN.bitOr_nn]
      push_cast
      rfl
  · rintro ρ s' ⟨l', m, d0, x, hl, e, rfl, ef, rfl⟩
    cases l' with
    | nil => simp; exact congrArg Int.ofNat ef
    | cons b l' => cases e
end
inductive Kd where
  | all | some | least (n : Nat)
inductive Aim where
  | at (b : Nat) | node (k : Kd) (as : List Aim)
def Kd.d (k : Kd) (ds : List D) : D := match k with
  | .all => .tup [.str "all", .tup ds]
  | .some => .tup [.str "some", .tup ds]
  | .least n => .tup [.str "least", .int n, .tup ds]
mutual
def Aim.d : Aim → D
  | .at b => .int b
  | .node k as => k.d (Aim.dL as)
def Aim.dL : List Aim → List D
  | [] => []
  | a :: as => a.d :: Aim.dL as
end
theorem dL_map : ∀ as : List Aim, Aim.dL as = as.map Aim.d
  | [] => rfl
  | a :: as => by rw [Aim.dL, dL_map as]; rfl
def Kd.holds (k : Kd) (bs : List Bool) : Bool := match k with
  | .all => bs.all id
  | .some => bs.any id
  | .least n => decide (n ≤ bs.countP id)
mutual
def Aim.holds (p : Nat → Bool) : Aim → Bool
  | .at b => p b
  | .node k as => k.holds (Aim.holdsL p as)
def Aim.holdsL (p : Nat → Bool) : List Aim → List Bool
  | [] => []
  | a :: as => a.holds p :: Aim.holdsL p as
end
theorem holdsL_map (p : Nat → Bool) : ∀ as : List Aim, Aim.holdsL p as = as.map (Aim.holds p)
  | [] => rfl
  | a :: as => by rw [Aim.holdsL, holdsL_map p as]; rfl
theorem holds_node {p : Nat → Bool} {k : Kd} {as : List Aim} : (Aim.node k as).holds p = k.holds (as.map (Aim.holds p)) := by rw [Aim.holds, holdsL_map]
theorem d_node {k : Kd} {as : List Aim} : (Aim.node k as).d = k.d (as.map Aim.d) := by rw [Aim.d, dL_map]
theorem d_at {b : Nat} : (Aim.at b).d = .int b := by rw [Aim.d]
mutual
def Aim.parts : Aim → Nat
  | .at _ => 1
  | .node _ as => 1 + Aim.partsL as
def Aim.partsL : List Aim → Nat
  | [] => 0
  | a :: as => a.parts + Aim.partsL as
end
def Gd (many w : Nat) : Nat → Aim → Prop
  | 0, _ => False
  | _ + 1, .at b => b < many
  | k + 1, .node kd as => (match kd with | .least n => n ≤ 25 | _ => True) ∧ as.length ≤ w ∧ ∀ a ∈ as, Gd many w k a
theorem Gd.up {many w : Nat} : ∀ {k : Nat} {a : Aim}, Gd many w k a → Gd many w (k + 1) a
  | 0, _, h => False.elim h
  | k + 1, .at b, h => h
  | k + 1, .node kd as, h => ⟨h.1, h.2.1, fun a ha => (h.2.2 a ha).up⟩
theorem Gd.le {many w k k' : Nat} {a : Aim} (h : Gd many w k a) (l : k ≤ k') : Gd many w k' a := by
  induction l with
  | refl => exact h
  | step _ ih => exact ih.up
def most (w : Nat) : Nat → Nat
  | 0 => 1
  | k + 1 => 1 + w * most w k
theorem most_pos (w k : Nat) : 1 ≤ most w k := by
  cases k <;> simp [most]
theorem Gd.parts {many w : Nat} : ∀ {k : Nat} {a : Aim}, Gd many w k a → a.parts ≤ most w (k - 1)
  | 0, _, h => False.elim h
  | k + 1, .at b, h => by rw [Aim.parts]; exact most_pos _ _
  | k + 1, .node kd as, h => by
    obtain ⟨_, h2, h3⟩ := h
    cases k with
    | zero =>
      cases as with
      | nil => simp [Aim.parts, Aim.partsL, most]
      | cons a as => exact False.elim (h3 a List.mem_cons_self)
    | succ k =>
      have key : ∀ as : List Aim, (∀ a ∈ as, Gd many w (k + 1) a) → Aim.partsL as ≤ as.length * most w k := by
        intro as
        induction as with
        | nil => intro _; simp [Aim.partsL]
        | cons a as ih =>
          intro h
          have h1 := (h a List.mem_cons_self).parts
          have h2 := ih fun b hb => h b (List.mem_cons_of_mem _ hb)
          rw [Aim.partsL, List.length_cons, Nat.succ_mul]
          simp only [Nat.add_sub_cancel] at h1
          omega
      have h4 := key as h3
      have h5 : as.length * most w k ≤ w * most w k := Nat.mul_le_mul_right _ h2
      rw [Aim.parts]
      show _ ≤ 1 + w * most w k
      omega
section
variable {K : PySem.W.Frag} {cl : CTab}
theorem e_aims_at {i : Int} : (m_aims_in [.int i] : M (MemS K cl) D) = M.pure .non := by
  simp [m_aims_in, b_aims_in, startE]
theorem e_aims {k : Kd} {ds : List D} (hk : match k with | .least n => n ≤ 25 | _ => True) (hl : ds.length ≤ 24) : (m_aims_in [k.d ds] : M (MemS K cl) D) = M.pure (.tup ds) := by
  have hl2 : ¬ (24 : Int) < ds.length := by omega
  cases k with
  | all => simp [m_aims_in, b_aims_in, startE, Kd.d, hl2]
  | some => simp [m_aims_in, b_aims_in, startE, Kd.d, hl2]
  | least n =>
    have hn : (n : Int) ≤ 25 := by
      have : n ≤ 25 := hk
      omega
    simp [m_aims_in, b_aims_in, startE, Kd.d, hl2, hn, e_within_I]
end
end LW
namespace LW
open PySem PySem.Spec PyProof.Rows L2 RZ DN
section
variable {K : PySem.W.Frag} {cl : CTab} {many w : Nat}
def Ht : Nat → Aim → Prop
  | 0, _ => False
  | _ + 1, .at _ => True
  | k + 1, .node _ as => ∀ a ∈ as, Ht k a
theorem Ht.up : ∀ {k : Nat} {a : Aim}, Ht k a → Ht (k + 1) a
  | 0, _, h => False.elim h
  | k + 1, .at b, h => trivial
  | k + 1, .node kd as, h => fun a ha => Ht.up (h a ha)
theorem Ht.le {k k' : Nat} {a : Aim} (h : Ht k a) (l : k ≤ k') : Ht k' a := by
  induction l with
  | refl => exact h
  | step _ ih => exact ih.up
theorem Gd.ht {many w : Nat} : ∀ {k : Nat} {a : Aim}, Gd many w k a → Ht k a
  | 0, _, h => False.elim h
  | k + 1, .at b, h => trivial
  | k + 1, .node kd as, h => fun a ha => (h.2.2 a ha).ht
def Kd.ok (k : Kd) : Bool := match k with
  | .least n => decide (n ≤ 25)
  | _ => true
mutual
def Aim.pts (m : Nat) : Nat → Aim → Option Nat
  | _, .at b => if b ≤ m then some 1 else none
  | d, .node k as => if k.ok = true ∧ as.length ≤ 24 ∧ ¬ (d = 1 ∧ 0 < as.length) then Aim.ptsL m (d - 1) 1 as else none
def Aim.ptsL (m : Nat) (d : Nat) : Nat → List Aim → Option Nat
  | acc, [] => some acc
  | acc, a :: as => match Aim.pts m d a with
    | none => none
    | some p => if 200 < acc + p then none else Aim.ptsL m d (acc + p) as
end
def optD : Option Nat → D
  | none => .non
  | some n => .int n
theorem countD_bl {α : Type} {f : α → Bool} {as : List α} : countD (as.map fun a => .bl (f a)) (.bl true) = some (.int ((as.map f).countP id : Nat)) := by
  unfold countD
  rw [flVs_bl]
  simp only [flV, Option.bind_some, Option.map_some]
  congr 3
  rw [List.countP_map, List.countP_map]
  congr 1
  funext a
  show eqV (.bl (f a)) (.bl true) = f a
  cases f a <;> simp [eqV]
theorem e_holds {m : Nat} : ∀ {k n : Nat} {a : Aim}, Ht k a → k ≤ n → (m_holds n [a.d, .int m] : M (MemS K cl) D) = M.pure (.bl (a.holds m.testBit))
  | 0, _, _, h, _ => False.elim h
  | k + 1, 0, _, _, h => absurd h (by omega)
  | k + 1, n + 1, .at b, h, hn => by
    simp [m_holds, b_holds, d_at, startE, Aim.holds]
    rw [bit_test]
  | k + 1, n + 1, .node kd as, h, hn => by
    have h3 := h
    have ih : ∀ a ∈ as, (m_holds n [a.d, .int m] : M (MemS K cl) D) = M.pure (.bl (a.holds m.testBit)) := fun a ha => e_holds (h3 a ha) (by omega)
    rw [d_node, holds_node]
    cases kd <;> simp [m_holds, b_holds, startE, Kd.d, Kd.holds]
    all_goals rw [compL_map (k := fun a => .bl (a.holds m.testBit)) (fun a ha => by simp [wipeE, ih a ha])]
    all_goals simp [asL, countD_bl]
theorem e_aims_no {k : Kd} {ds : List D} (hk : k.ok = false ∨ 24 < ds.length) : (m_aims_in [k.d ds] : M (MemS K cl) D) = M.pure .non := by
  cases k with
  | all =>
    have hl2 : (24 : Int) < ds.length := by rcases hk with h | h <;> first | cases h | omega
    simp [m_aims_in, b_aims_in, startE, Kd.d, hl2]
  | some =>
    have hl2 : (24 : Int) < ds.length := by rcases hk with h | h <;> first | cases h | omega
    simp [m_aims_in, b_aims_in, startE, Kd.d, hl2]
  | least n =>
    by_cases hn : n ≤ 25
    · have hn2 : (n : Int) ≤ 25 := by omega
      have hl2 : (24 : Int) < ds.length := by
        rcases hk with h | h
        · simp [Kd.ok, hn] at h
        · omega
      simp [m_aims_in, b_aims_in, startE, Kd.d, hl2, hn2, e_within_I]
    · have hn2 : ¬ (n : Int) ≤ 25 := by omega
      simp [m_aims_in, b_aims_in, startE, Kd.d, hn2, e_within_I]
theorem e_pts {m : Nat} : ∀ {k n : Nat} {a : Aim} {d : Nat}, Ht k a → k ≤ n → 1 ≤ d → (m_parts_of n [a.d, .int m, .int d] : M (MemS K cl) D) = M.pure (optD (a.pts m d))
  | 0, _, _, _, h, _, _ => False.elim h
  | k + 1, 0, _, _, _, h, _ => absurd h (by omega)
  | k + 1, n + 1, .at b, d, h, hn, hd => by
    by_cases hb : b ≤ m
    · have hb2 : (b : Int) ≤ m := by omega
      simp [m_parts_of, b_parts_of, d_at, startE, e_within_I, hb2, Aim.pts, optD, hb]
    · have hb2 : ¬ (b : Int) ≤ m := by omega
      simp [m_parts_of, b_parts_of, d_at, startE, e_within_I, hb2, Aim.pts, optD, hb, e_aims_at]
  | k + 1, n + 1, .node kd as, d, h, hn, hd => by
    have h3 : ∀ a ∈ as, Ht k a := h
    have e1 : (m_is_within [(Aim.node kd as).d, .int 0, .int m] : M (MemS K cl) D) = M.pure (.bl false) := by
      rw [d_node]
      cases kd <;> exact e_within_T
    by_cases hok : kd.ok = true ∧ as.length ≤ 24
    · have e2 : (m_aims_in [(Aim.node kd as).d] : M (MemS K cl) D) = M.pure (.tup (as.map Aim.d)) := by
        rw [d_node]
        refine e_aims ?_ (by rw [List.length_map]; exact hok.2)
        have := hok.1
        cases kd with
        | least n => simpa [Kd.ok] using this
        | _ => trivial
      by_cases hz : d = 1 ∧ 0 < as.length
      · have hz2 : ((d : Int) = 1 ∧ 0 < as.length) := ⟨by omega, hz.2⟩
        rw [Aim.pts, if_neg (by rintro ⟨_, _, z⟩; exact z hz)]
        simp [m_parts_of, b_parts_of, startE, e1, e2, hz2, optD]
      · have hz2 : ¬ ((d : Int) = 1 ∧ 0 < as.length) := fun ⟨x, y⟩ => hz ⟨by omega, y⟩
        rw [Aim.pts, if_pos ⟨hok.1, hok.2, hz⟩]
        refine pure_of_wp fun s => ?_
        simp [m_parts_of, b_parts_of, startE, e1, e2]
        simp only [hz2, if_false]
        simp
        refine wp_forI (fun r ρ s' => ∃ (as' : List Aim) (acc : Nat) (x5 x6 : Sl), (∀ a ∈ as', Ht k a) ∧ as'.length ≤ as.length ∧ r = as'.map Aim.d ∧ Aim.ptsL m (d - 1) acc as' = Aim.ptsL m (d - 1) 1 as ∧
          ρ = [.val (Aim.node kd as).d, .val (.int m), .val (.int d), .val (.tup (as.map Aim.d)), .val (.int acc), x5, x6] ∧ s' = s) ⟨as, 1, _, _, h3, Nat.le_refl _, rfl, rfl, rfl, rfl⟩ ?_ ?_
        · rintro dd r ρ s' ⟨as', acc, x5, x6, hg, hlen, er, ea, rfl, rfl⟩
          cases as' with
          | nil => cases er
          | cons a as' =>
            rw [List.map_cons, List.cons.injEq] at er
            obtain ⟨rfl, rfl⟩ := er
            have hd1 : 1 ≤ d - 1 := by
              rw [List.length_cons] at hlen
              have : ¬ d = 1 := fun z => hz ⟨z, by omega⟩
              omega
            have ih := e_pts (m := m) (n := n) (d := d - 1) (hg a List.mem_cons_self) (by omega) hd1
            have ed : (((d - 1 : Nat)) : Int) = (d : Int) - 1 := by omega
            rw [ed] at ih
            rw [Aim.ptsL] at ea
            refine ⟨_, s_aName, ?_⟩
            cases hp : a.pts m (d - 1) with
            | none =>
              rw [hp] at ih ea
              simp only at ea
              simp [ih, optD, ← ea]
            | some p =>
              rw [hp] at ih ea
              simp only at ea
              by_cases h200 : 200 < acc + p
              · rw [if_pos h200] at ea
                have h2 : (200 : Int) < (acc : Int) + p := by omega
                simp [ih, optD, ← ea, h2]
              · rw [if_neg h200] at ea
                have h2 : ¬ (200 : Int) < (acc : Int) + p := by omega
                simp [ih, optD, h2]
                exact ⟨as', fun b hb => hg b (List.mem_cons_of_mem _ hb), by rw [List.length_cons] at hlen; omega, rfl, acc + p, ea, by omega⟩
        · rintro ρ s' ⟨as', acc, x5, x6, hg, hlen, er, ea, rfl, rfl⟩
          cases as' with
          | cons a as' => cases er
          | nil =>
            rw [Aim.ptsL] at ea
            simp [← ea, optD]
    · have e2 : (m_aims_in [(Aim.node kd as).d] : M (MemS K cl) D) = M.pure .non := by
        rw [d_node]
        refine e_aims_no ?_
        rw [List.length_map]
        by_cases h1 : kd.ok = true
        · exact .inr (by
            have : ¬ as.length ≤ 24 := fun z => hok ⟨h1, z⟩
            omega)
        · exact .inl (by simpa using h1)
      rw [Aim.pts, if_neg (by rintro ⟨a, b, _⟩; exact hok ⟨a, b⟩)]
      simp [m_parts_of, b_parts_of, startE, e1, e2, optD]
theorem e_anyaim {m k : Nat} {a : Aim} (h : Ht k a) (hn : k ≤ 10) : (m_is_any_aim [a.d, .int m] : M (MemS K cl) D) = M.pure (.bl (a.pts m 8).isSome) := by
  have := e_pts (K := K) (cl := cl) (m := m) (d := 8) h hn (by omega)
  have e8 : ((8 : Nat) : Int) = 8 := rfl
  rw [e8] at this
  cases hp : a.pts m 8 <;> simp [m_is_any_aim, b_is_any_aim, startE, this, hp, optD]
end
end LW
namespace LW
open PySem PySem.Spec PyProof.Rows L2 RZ DN
mutual
def Aim.mv (s : Nat) : Aim → Aim
  | .at b => .at (b + s)
  | .node k as => .node k (Aim.mvL s as)
def Aim.mvL (s : Nat) : List Aim → List Aim
  | [] => []
  | a :: as => a.mv s :: Aim.mvL s as
end
theorem mvL_map (s : Nat) : ∀ as : List Aim, Aim.mvL s as = as.map (Aim.mv s)
  | [] => rfl
  | a :: as => by rw [Aim.mvL, mvL_map s as]; rfl
theorem mv_node {s : Nat} {k : Kd} {as : List Aim} : (Aim.node k as).mv s = .node k (as.map (Aim.mv s)) := by rw [Aim.mv, mvL_map]
theorem Ht.mv {s : Nat} : ∀ {k : Nat} {a : Aim}, Ht k a → Ht k (a.mv s)
  | 0, _, h => False.elim h
  | k + 1, .at b, h => by rw [Aim.mv]; trivial
  | k + 1, .node kd as, h => by
    rw [mv_node]
    intro a ha
    obtain ⟨b, hb, rfl⟩ := List.mem_map.mp ha
    exact Ht.mv (h b hb)
theorem mv_zero : ∀ {k : Nat} {a : Aim}, Ht k a → a.mv 0 = a
  | 0, _, h => False.elim h
  | k + 1, .at b, h => by rw [Aim.mv, Nat.add_zero]
  | k + 1, .node kd as, h => by
    rw [mv_node]
    congr 1
    exact (List.map_congr_left fun a ha => mv_zero (h a ha)).trans (List.map_id' as)
theorem Gd.mv {many w s : Nat} : ∀ {k : Nat} {a : Aim}, Gd many w k a → Gd (many + s) w k (a.mv s)
  | 0, _, h => False.elim h
  | k + 1, .at b, h => by
    rw [Aim.mv]
    exact Nat.add_lt_add_right h s
  | k + 1, .node kd as, h => by
    rw [mv_node]
    refine ⟨h.1, by rw [List.length_map]; exact h.2.1, fun a ha => ?_⟩
    obtain ⟨b, hb, rfl⟩ := List.mem_map.mp ha
    exact (h.2.2 b hb).mv
theorem Gd.many {m m' w : Nat} (l : m ≤ m') : ∀ {k : Nat} {a : Aim}, Gd m w k a → Gd m' w k a
  | 0, _, h => False.elim h
  | k + 1, .at b, h => Nat.lt_of_lt_of_le h l
  | k + 1, .node kd as, h => ⟨h.1, h.2.1, fun a ha => (h.2.2 a ha).many l⟩
theorem Gd.pts {many w m : Nat} (hw : w ≤ 24) (hm : many ≤ m + 1) : ∀ {k : Nat} {a : Aim} {d : Nat}, Gd many w k a → k ≤ d → most w (k - 1) ≤ 200 → a.pts m d = some a.parts
  | 0, _, _, h, _, _ => False.elim h
  | k + 1, .at b, d, h, hd, h200 => by
    have : b < many := h
    rw [Aim.pts, if_pos (by omega), Aim.parts]
  | k + 1, .node kd as, d, h, hd, h200 => by
    have hp := Gd.parts (k := k + 1) (a := .node kd as) h
    obtain ⟨h1, h2, h3⟩ := h
    rw [Aim.pts, if_pos]
    · have key : ∀ (as : List Aim) (acc : Nat), (∀ a ∈ as, Gd many w k a) → as.length ≤ w → acc + Aim.partsL as ≤ 200 → Aim.ptsL m (d - 1) acc as = some (acc + Aim.partsL as) := by
        intro as
        induction as with
        | nil => intro acc _ _ _; simp [Aim.ptsL, Aim.partsL]
        | cons a as ih =>
          intro acc hh hl h2
          rw [Aim.partsL] at h2 ⊢
          rw [Aim.ptsL]
          have ga := hh a List.mem_cons_self
          have hk : most w (k - 1) ≤ 200 := by
            cases k with
            | zero => exact False.elim ga
            | succ k =>
              have e : most w (k + 1) = 1 + w * most w k := rfl
              simp only [Nat.add_sub_cancel] at h200 ⊢
              rw [List.length_cons] at hl
              have := Nat.le_mul_of_pos_left (most w k) (show 0 < w by omega)
              omega
          rw [Gd.pts hw hm ga (by omega) hk]
          simp only
          rw [if_neg (by omega), ih _ (fun b hb => hh b (List.mem_cons_of_mem _ hb)) (by rw [List.length_cons] at hl; omega) (by omega)]
          congr 1
          omega
      have e : (Aim.node kd as).parts = 1 + Aim.partsL as := by rw [Aim.parts]
      rw [e]
      exact key as 1 h3 h2 (by omega)
    · refine ⟨?_, by omega, ?_⟩
      · cases kd with
        | least n => simpa [Kd.ok] using h1
        | _ => rfl
      · rintro ⟨hd1, hl⟩
        cases as with
        | nil => exact absurd hl (by simp)
        | cons a as =>
          have := h3 a List.mem_cons_self
          cases k with
          | zero => exact False.elim this
          | succ k => omega
end LW
namespace LW
open PySem PySem.Spec PyProof.Rows L2 RZ DN
section
variable {K : PySem.W.Frag} {cl : CTab} {many w : Nat} {t : TF}
theorem wp_aim : ∀ {deep n : Nat} {R : D → Mem → Prop} {s : Mem}, 1 ≤ deep → deep ≤ n → 1 ≤ many → many ≤ 1000000 → Tape t s → (∀ a s', Gd many 3 deep a → Tape t s' → R a.d s') → wp (m__law_aim (K := K) (cl := cl) n [.ref t, .int many, .int deep]) R s
  | 0, _, _, _, h, _, _, _, _, _ => absurd h (by omega)
  | deep + 1, 0, _, _, _, h, _, _, _, _ => absurd h (by omega)
  | deep + 1, n + 1, R, s, h1, hn, hm1, hm2, ht, q => by
    have leaf : ∀ s', Tape t s' → wp (m__law_pick (K := K) (cl := cl) [.ref t, .int many]) R s' := fun s' ht' => wp_pick ht' (by omega) (by omega) fun k s'' k0 k1 ht'' => by
      obtain ⟨b, rfl⟩ : ∃ b : Nat, k = b := ⟨k.toNat, by omega⟩
      have := q (.at b) s'' (show b < many by omega) ht''
      rwa [d_at] at this
    by_cases hd : deep = 0
    · subst hd
      simp [m__law_aim, b__law_aim, startE]
      exact leaf s ht
    · have hd2 : ¬ ((deep : Int) + 1 < 2) := by omega
      simp [m__law_aim, b__law_aim, startE, hd2]
      refine wp_pick ht (by omega) (by omega) fun k s1 k0 k1 ht1 => ?_
      by_cases hk : k = 0
      · simp [hk]
        exact leaf s1 ht1
      · simp [hk]
        refine wp_pick ht1 (by omega) (by omega) fun k2 s2 k20 k21 ht2 => ?_
        have hix : ∃ v : Nat, v ≤ 3 ∧ ixD (.lst [.int 2, .int 2, .int 3, .int 2, .int 1, .int 3, .int 0]) (.int k2) = some (.int v) := by
          have : k2 = 0 ∨ k2 = 1 ∨ k2 = 2 ∨ k2 = 3 ∨ k2 = 4 ∨ k2 = 5 ∨ k2 = 6 := by omega
          rcases this with rfl | rfl | rfl | rfl | rfl | rfl | rfl
          · exact ⟨2, by omega, rfl⟩
          · exact ⟨2, by omega, rfl⟩
          · exact ⟨3, by omega, rfl⟩
          · exact ⟨2, by omega, rfl⟩
          · exact ⟨1, by omega, rfl⟩
          · exact ⟨3, by omega, rfl⟩
          · exact ⟨0, by omega, rfl⟩
        obtain ⟨v, hv, ev⟩ := hix
        have er : range1 (.int v) = some ((List.range v).map fun i : Nat => .int (i : Int)) := by
          show (if _ then _ else _) = _
          rw [if_pos (by omega)]
          rfl
        simp [ev, er]
        refine wp_compLx (Tape t) (Gd many 3 deep) Aim.d ht2 ?_ ?_
        · intro d hd s3 ht3
          obtain ⟨i, hi, rfl⟩ := List.mem_map.mp hd
          simp [wipeE]
          refine wp_noErr ?_
          simp
          have e1 : (deep : Int) + 1 - 1 = (deep : Int) := by omega
          refine wp_aim (n := n) (by omega) (by omega) hm1 hm2 ht3 fun a s4 ha ht4 => ?_
          exact ⟨ht4, a, ha, rfl⟩
        · intro as s3 ht3 hl hg
          rw [List.length_map, List.length_range] at hl
          simp
          refine wp_pick ht3 (by omega) (by omega) fun k3 s4 k30 k31 ht4 => ?_
          by_cases hk3 : k3 = 0
          · simp [hk3]
            refine wp_pick ht4 (by omega) (by omega) fun k4 s5 k40 k41 ht5 => ?_
            obtain ⟨b, rfl⟩ : ∃ b : Nat, k4 = b := ⟨k4.toNat, by omega⟩
            have := q (.node (.least b) as) s5 ⟨show b ≤ 25 by omega, by omega, hg⟩ ht5
            rwa [d_node] at this
          · simp [hk3]
            refine wp_pick ht4 (by omega) (by omega) fun k4 s5 k40 k41 ht5 => ?_
            have : k4 = 0 ∨ k4 = 1 := by omega
            rcases this with rfl | rfl
            · have := q (.node .all as) s5 ⟨trivial, by omega, hg⟩ ht5
              rw [d_node] at this
              simpa [Kd.d, ixD, atI, ixN] using this
            · have := q (.node .some as) s5 ⟨trivial, by omega, hg⟩ ht5
              rw [d_node] at this
              simpa [Kd.d, ixD, atI, ixN] using this
@[simp] theorem s_is2T {ds : List D} : isD2 "tuple" "list" (.tup ds) = some (.bl true) := by show (kitB "tuple" "tuple").bind (fun a => (kitB "tuple" "list").map fun b => D.bl (a || b)) = _; rw [k_tuple_tuple, k_tuple_list]; rfl
@[simp] theorem s_is2I {i : Int} : isD2 "tuple" "list" (.int i) = some (.bl false) := by show (kitB "int" "tuple").bind (fun a => (kitB "int" "list").map fun b => D.bl (a || b)) = _; rw [k_int_tuple, k_int_list]; rfl
@[simp] theorem s_is2S {i : Str} : isD2 "tuple" "list" (.str i) = some (.bl false) := by show (kitB "str" "tuple").bind (fun a => (kitB "str" "list").map fun b => D.bl (a || b)) = _; rw [k_str_tuple, k_str_list]; rfl
@[simp] theorem s_is2B {i : Bool} : isD2 "tuple" "list" (.bl i) = some (.bl false) := by show (kitB "bool" "tuple").bind (fun a => (kitB "bool" "list").map fun b => D.bl (a || b)) = _; rw [k_bool_tuple, k_bool_list]; rfl
@[simp] theorem s_is2L {ds : List D} : isD2 "tuple" "list" (.lst ds) = some (.bl true) := by show (kitB "list" "tuple").bind (fun a => (kitB "list" "list").map fun b => D.bl (a || b)) = _; rw [k_list_tuple, k_list_list]; rfl
theorem allD_true {α : Type} {as : List α} : allD [.lst (as.map fun _ => D.bl true)] = some (.bl true) := by
  have := allD_map (f := fun _ : α => true) (as := as)
  simpa using this
@[simp] theorem s_max0 {i : Int} : max2D [.int 0, .int i] = some (.int (if 0 < i then i else 0)) := by
  simp [max2D]
theorem cut_2 {a b : D} : slD (.tup [a, b]) none (some (-1)) = some (.tup [a]) := by with_unfolding_all rfl
theorem cut_3 {a b c : D} : slD (.tup [a, b, c]) none (some (-1)) = some (.tup [a, b]) := by with_unfolding_all rfl
theorem add_11 {a b : D} : addD (.tup [a]) (.tup [b]) = some (.tup [a, b]) := by with_unfolding_all rfl
theorem add_21 {a b c : D} : addD (.tup [a, b]) (.tup [c]) = some (.tup [a, b, c]) := by with_unfolding_all rfl
theorem e_moved_by {s : Nat} : ∀ {k n : Nat} {a : Aim}, Ht k a → k ≤ n → (m_moved_by n [a.d, .int s] : M (MemS K cl) D) = M.pure (a.mv s).d
  | 0, _, _, h, _ => False.elim h
  | k + 1, 0, _, _, h => absurd h (by omega)
  | k + 1, n + 1, .at b, h, hn => by simp [m_moved_by, b_moved_by, d_at, startE, Aim.mv]
  | k + 1, n + 1, .node kd as, h, hn => by
    have ih : ∀ a ∈ as, (m_moved_by n [a.d, .int s] : M (MemS K cl) D) = M.pure (a.mv s).d := fun a ha => e_moved_by (h a ha) (by omega)
    rw [mv_node, d_node, d_node]
    cases kd <;> simp [m_moved_by, b_moved_by, startE, Kd.d, cut_2, cut_3]
    all_goals rw [compL_map (k := fun a => (a.mv s).d) (fun a ha => by simp [wipeE, ih a ha])]
    all_goals simp [Function.comp_def, add_11, add_21]
theorem e_moved {s k : Nat} {a : Aim} (h : Ht k a) (hk : k ≤ 10) (h1 : (a.pts 1000000 8).isSome = true) (hs : s ≤ 1000) (h2 : ((a.mv s).pts 1000000 8).isSome = true) : (m_moved [a.d, .int s] : M (MemS K cl) D) = M.pure (a.mv s).d := by
  have a1 := e_anyaim (K := K) (cl := cl) (m := 1000000) h hk
  have a2 := e_anyaim (K := K) (cl := cl) (m := 1000000) (h.mv (s := s)) hk
  have e6 : ((1000000 : Nat) : Int) = 1000000 := rfl
  have hs2 : (s : Int) ≤ 1000 := by omega
  rw [e6, h1] at a1
  rw [e6, h2] at a2
  simp [m_moved, b_moved, startE, a1, a2, e_moved_by h hk, m_check_number, b_check_number, e_within_I, hs2]
def errM {α : Type} {B : Sto} (x : Exn) : M B α := fun s => .err x s
@[simp] theorem raise_eq {B : Sto} {x : Str} {ρ : SEnv} : (sRaise x ρ : M B Fl) = errM ⟨x, none⟩ := rfl
@[simp] theorem bind_err {α β : Type} {B : Sto} {x : Exn} {f : α → M B β} : M.bind (errM x : M B α) f = errM x := rfl
end
end LW
namespace LW
open PySem PySem.Spec PyProof.Rows L2 RZ DN
section
variable {K : PySem.W.Frag} {cl : CTab}
theorem allD_true' {α : Type} {as : List α} : (as.all fun _ => true) = true := List.all_eq_true.mpr fun _ _ => rfl
theorem e_letters {m : Nat} {z : Str} (h : WordOk m z) : (m_is_letters [.str z, .int m] : M (MemS K cl) D) = M.pure (.bl true) := by
  obtain ⟨h1, h2, h3⟩ := h
  have g1 : (1 : Int) ≤ z.length := by omega
  have g2 : (z.length : Int) ≤ m := by omega
  unfold lettersD at h3
  simp [m_is_letters, b_is_letters, startE, g1, g2]
  rw [compL_map (k := fun _ => .bl true) (fun c hc => by simp [wipeE, h3 c hc])]
  simp [allD_true, allD_true']
theorem e_word {z : Str} (h : WordOk 20 z) : (m_is_word [.str z] : M (MemS K cl) D) = M.pure (.bl true) := by
  have := e_letters (K := K) (cl := cl) h
  have e : ((20 : Nat) : Int) = 20 := rfl
  rw [e] at this
  simp [m_is_word, b_is_word, startE, this]
theorem e_name {z : Str} (h : WordOk 8 z) : (m_is_name [.str z] : M (MemS K cl) D) = M.pure (.bl true) := by
  have := e_letters (K := K) (cl := cl) h
  have e : ((8 : Nat) : Int) = 8 := rfl
  rw [e] at this
  simp [m_is_name, b_is_name, startE, this]
theorem e_words {r : List Str} {m : Nat} (h : ∀ w ∈ r, WordOk 20 w) (hl : r.length ≤ m) : (m_is_words [.tup (r.map .str), .int m] : M (MemS K cl) D) = M.pure (.bl true) := by
  have g : (r.length : Int) ≤ m := by omega
  simp [m_is_words, b_is_words, startE, g]
  rw [compL_map (k := fun _ => .bl true) (fun c hc => by simp [wipeE, e_word (h c hc)])]
  simp [allD_true, allD_true']
theorem e_board {b : D} (h : BoardOk b) : (m_is_board [b] : M (MemS K cl) D) = M.pure (.bl true) := by
  obtain ⟨n, s, r, rfl, h1, h2, h3, h4, h5⟩ := h
  have hw := e_words (K := K) (cl := cl) (m := 20) h5 h4
  have e : ((20 : Nat) : Int) = 20 := rfl
  rw [e] at hw
  simp [m_is_board, b_is_board, startE, boardD, e_name h1, e_within_I, h2, h3, hw]
theorem nmL_of {bs : List D} {nm : D} (h : namesD bs = some nm) : ∃ ns, nmL bs = some ns ∧ (DN.putAll [] [] (ns.map fun n => (n, .bl true))).bind sortKD = some nm := by
  unfold namesD at h
  cases e : nmL bs with
  | none => rw [e] at h; cases h
  | some ns => rw [e] at h; exact ⟨ns, rfl, h⟩
theorem e_keep {c : Str} {s : Mem} {bs ns : List D} (hc : c ∈ (["Hall", "RawHall"] : List Str)) (hb : D.immL bs = true) (hn : D.immL ns = true) (h : namesD bs = some (.lst ns)) :
    wp (m_Hall_keep (K := K) (cl := cl) [.ref s.n, .tup bs]) (fun a s' => a = .non ∧ s' = s.push (.ins c [.tup bs, .tup ns])) (s.push (.ins c [])) := by
  obtain ⟨nl, h1, h2⟩ := nmL_of h
  have im : (D.tup bs).imm = true := hb
  have im2 : (D.tup ns).imm = true := hn
  simp only [m_Hall_keep, b_Hall_keep, s_runF, startE]
  simp
  refine (wp_setfs push_at hc rfl im).mpr ?_
  simp
  have hcomp : ∀ d ∈ bs, (compFD (B := MemS K cl) (aTup (aCons (aName 2) (aCons (aName 3) (aCons (aName 4) aNil)))) tY (eVar 2) (eC (.bl true)) (wipeE [some (D.ref s.n), some (D.tup bs), none, none, none] [2, 3, 4]) d) = M.pure ((fun d => match d with
      | .tup [n, x, y] => some (n, D.bl true)
      | _ => none) d) := by
    intro d hd
    obtain ⟨n, x, y, rfl⟩ := nmL_inv h1 d hd
    simp [compFD, wipeE]
  rw [compL_pure hcomp, nmL_map h1 _ (fun n x y _ => rfl)]
  cases e2 : DN.putAll [] [] (nl.map fun n => (n, D.bl true)) with
  | none => rw [e2] at h2; cases h2
  | some dd =>
    rw [e2, Option.bind_some] at h2
    simp [h2, e2]
    refine (wp_setfs push_at hc rfl im2).mpr ?_
    simp
theorem i_keep_cases (bs : List D) : i_keep bs = .stuck ∨ ∃ ns, namesD bs = some (.lst ns) ∧ D.purL bs = true ∧ D.purL ns = true ∧ i_keep bs = .ok [.tup bs, .tup ns] := by
  unfold i_keep
  split
  · rename_i ns e
    split
    · rename_i h
      rw [Bool.and_eq_true] at h
      exact .inr ⟨ns, e, h.1, h.2, rfl⟩
    · exact .inl rfl
  · exact .inl rfl
theorem enumL_mem {bs : List D} : ∀ (i : Nat), ∀ d ∈ enumL i bs, ∃ (j : Int) (b : D), d = .tup [.int j, b] ∧ b ∈ bs := by
  induction bs with
  | nil => intro i d h; exact nomatch h
  | cons b bs ih =>
    intro i d h
    rw [enumL] at h
    rcases List.mem_cons.mp h with rfl | h
    · exact ⟨_, b, rfl, List.mem_cons_self⟩
    · obtain ⟨j, c, e, m⟩ := ih (i + 1) d h
      exact ⟨j, c, e, List.mem_cons_of_mem _ m⟩
theorem init_Hall : InitIs "Hall" (m_Hall_init (K := K) (cl := cl)) i_Hall := by
  intro ds s
  have cases1 : i_Hall ds = .stuck ∨ ∃ bs, ds = [.tup bs] ∧ (1 ≤ bs.length ∧ bs.length ≤ 12 ∧ ∀ b ∈ bs, BoardOk b) ∧ i_Hall ds = i_keep bs := by
    unfold i_Hall
    split
    · split
      · rename_i h
        exact .inr ⟨_, rfl, h, rfl⟩
      · exact .inl rfl
    · exact .inl rfl
  rcases cases1 with h | ⟨bs, rfl, ⟨g1, g2, g3⟩, h⟩
  · rw [h]; trivial
  · rw [h]
    rcases i_keep_cases bs with h | ⟨ns, h1, h2, h3, h4⟩
    · rw [h]; trivial
    · rw [h4]
      show m_Hall_init _ _ = _
      refine ok_of_wp (B := MemS K cl) ?_
      have l1 : (1 : Int) ≤ bs.length := by omega
      have l2 : (bs.length : Int) ≤ 12 := by omega
      simp [m_Hall_init, b_Hall_init, startE, l1, l2]
      refine wp_forI (fun r ρ s' => (∀ d ∈ r, ∃ (i : Int) (b : D), d = .tup [.int i, b] ∧ b ∈ bs) ∧ s' = s.push (D.ins "Hall" []) ∧
        ∃ x y : Sl, ρ = [.val (.ref s.n), .val (.tup bs), x, y]) ⟨enumL_mem 0, rfl, _, _, rfl⟩ ?_ ?_
      · rintro d r ρ s' ⟨hr, rfl, x, y, rfl⟩
        obtain ⟨i, b, rfl, hb⟩ := hr d List.mem_cons_self
        refine ⟨[(2, .int i), (3, b)], by simp, ?_⟩
        simp [e_board (g3 b hb)]
        exact fun d hd => hr d (List.mem_cons_of_mem _ hd)
      · rintro ρ s' ⟨_, rfl, x, y, rfl⟩
        simp [wp_insr]
        exact wp_mono (e_keep (by simp) (D.purL_imm _ h2) (D.purL_imm _ h3) h1) fun a s' h => h.2
def HallOf (h : D) (bs : List D) : Prop := ∃ c ns, c ∈ (["Hall", "RawHall"] : List Str) ∧ h = .ins c [.tup bs, ns]
theorem e_boards {h : D} {bs : List D} (g : HallOf h bs) : (fldMs (K := K) (cl := cl) ["Hall", "RawHall"] 0 h) = M.pure (.tup bs) := by
  obtain ⟨c, ns, hc, rfl⟩ := g
  rw [flds_ins hc]
  rfl
theorem e_isaim {h : D} {bs : List D} {k : Nat} {a : Aim} (g : HallOf h bs) (hb : 1 ≤ bs.length) (ha : Ht k a) (hk : k ≤ 10) : (m_is_aim [h, a.d] : M (MemS K cl) D) = M.pure (.bl (a.pts (bs.length - 1) 8).isSome) := by
  have := e_anyaim (K := K) (cl := cl) (m := bs.length - 1) ha hk
  have e : ((bs.length - 1 : Nat) : Int) = (bs.length : Int) - 1 := by omega
  rw [e] at this
  simp [m_is_aim, b_is_aim, startE, e_boards g, this]
theorem e_reached {h : D} {bs : List D} {l : List Nat} {k : Nat} {a : Aim} (g : HallOf h bs) (hb : 1 ≤ bs.length) (ha : Ht k a) (hk : k ≤ 10) (hp : (a.pts (bs.length - 1) 8).isSome = true) (h12 : bs.length ≤ 1000) (hl : ∀ i ∈ l, i < bs.length) (hs : l.Pairwise (· < ·)) :
    (m_reached [h, a.d, .tup (l.map fun b : Nat => .int b)] : M (MemS K cl) D) = M.pure (.bl (a.holds fun b => decide (b ∈ l))) := by
  have e1 := e_isaim (K := K) (cl := cl) g hb ha hk
  rw [hp] at e1
  have e2 : (m_is_lot [.tup (l.map fun b : Nat => .int b), .int bs.length] : M (MemS K cl) D) = M.pure (.bl true) := by
    have := e_lot (K := K) (cl := cl) (l := l.map fun b : Nat => (b : Int)) (n := bs.length) (fun i hi => by
      obtain ⟨b, hb, rfl⟩ := List.mem_map.mp hi
      have := hl b hb
      omega)
    rw [List.map_map] at this
    have hs2 : (l.map fun b : Nat => (b : Int)).Pairwise (· < ·) := by
      rw [List.pairwise_map]
      exact hs.imp fun h => by omega
    simp only [hs2, decide_true] at this
    exact this
  have e3 : (m_mask_of [.tup (l.map fun b : Nat => .int b)] : M (MemS K cl) D) = M.pure (.int (maskN l)) := e_mask fun i hi => by
    have := hl i hi
    omega
  have e4 := e_holds (K := K) (cl := cl) (m := maskN l) ha hk
  rw [show (maskN l).testBit = fun b => decide (b ∈ l) from funext fun i => mask_bit l i] at e4
  simp [m_reached, b_reached, startE, m_check_aim, b_check_aim, e1, e2, e3, e4, e_boards g]
end
end LW
namespace LW
open PySem PySem.Spec PyProof.Rows L2 RZ DN
section
variable {K : PySem.W.Frag} {cl : CTab}
noncomputable def b__law_word : SEnv → M (MemS K cl) Fl := seqF (sSet 1 (xLst (aC (eC (.str "a")) (aC (eC (.str "b")) (aC (eC (.str "c")) (aC (eC (.str "a")) (aC (eC (.str "b")) (aC (eC (.str "ab")) (aC (eC (.str "zz")) (aC (eC (.str "c")) (aC (eC (.str "aa")) (aC (eC (.str "qwertyuiopasdfghjklz")) (aN))))))))))))) (sRet pHide (xIx (eVar 1) (xCall m__law_pick (aC (eVar 0) (aC (eC (.int 10)) (aN))))))
noncomputable def m__law_word : List D → M (MemS K cl) D := runF 2 b__law_word
noncomputable def b__law_some : SEnv → M (MemS K cl) Fl := sRet pHide (xIx (eVar 1) (xCall m__law_pick (aC (eVar 0) (aC (xB lenD (aC (eVar 1) (aN))) (aN)))))
noncomputable def m__law_some : List D → M (MemS K cl) D := runF 2 b__law_some
end
end LW
namespace LW
open PySem PySem.Spec PyProof.Rows L2 RZ DN
def Da : Nat → D → Prop
  | 0, _ => False
  | _ + 1, .non => True
  | _ + 1, .int _ => True
  | _ + 1, .str _ => True
  | k + 1, .tup ds => ∀ d ∈ ds, Da k d
  | k + 1, .lst ds => ∀ d ∈ ds, Da k d
  | _, _ => False
section
variable {k j : Nat} {d e : D} {ds es : List D}
@[simp] theorem da_non : Da (k + 1) .non := trivial
@[simp] theorem da_int {i : Int} : Da (k + 1) (.int i) := trivial
@[simp] theorem da_str {x : Str} : Da (k + 1) (.str x) := trivial
@[simp] theorem da_tup : Da (k + 1) (.tup ds) ↔ ∀ d ∈ ds, Da k d := by rw [Da]
@[simp] theorem da_lst : Da (k + 1) (.lst ds) ↔ ∀ d ∈ ds, Da k d := by rw [Da]
theorem da_cases (h : Da (k + 1) d) : d = .non ∨ (∃ i, d = .int i) ∨ (∃ x, d = .str x) ∨ (∃ ds, d = .tup ds ∧ ∀ x ∈ ds, Da k x) ∨ ∃ ds, d = .lst ds ∧ ∀ x ∈ ds, Da k x := by
  cases d with
  | non => exact .inl rfl
  | int i => exact .inr (.inl ⟨i, rfl⟩)
  | str x => exact .inr (.inr (.inl ⟨x, rfl⟩))
  | tup ds => exact .inr (.inr (.inr (.inl ⟨ds, rfl, da_tup.mp h⟩)))
  | lst ds => exact .inr (.inr (.inr (.inr ⟨ds, rfl, da_lst.mp h⟩)))
  | _ => simp [Da] at h
theorem Da.plain : ∀ {k : Nat} {d : D}, Da k d → d.plain = true ∧ d.py.depth ≤ k
  | 0, _, h => by simp [Da] at h
  | k + 1, d, h => by
    rcases da_cases h with rfl | ⟨i, rfl⟩ | ⟨x, rfl⟩ | ⟨ds, rfl, h⟩ | ⟨ds, rfl, h⟩
    · exact ⟨rfl, by simp [D.py, PyData.depth]⟩
    · exact ⟨rfl, by simp [D.py, PyData.depth]⟩
    · exact ⟨rfl, by simp [D.py, PyData.depth]⟩
    · exact ⟨plainL_all fun x hx => (h x hx).plain.1, by rw [D.py, PyData.depth]; exact Nat.succ_le_succ (depthAll_le fun x hx => (h x hx).plain.2)⟩
    · exact ⟨plainL_all fun x hx => (h x hx).plain.1, by rw [D.py, PyData.depth]; exact Nat.succ_le_succ (depthAll_le fun x hx => (h x hx).plain.2)⟩
theorem Da.okc (h : Da k d) (hk : k ≤ 60) : d.okc = true := by
  obtain ⟨a, b⟩ := h.plain
  unfold D.okc
  rw [a, decide_eq_true (by omega)]
  rfl
theorem eqvAll_iff : ∀ {ds es : List D}, (∀ d ∈ ds, ∀ e ∈ es, (PyData.eqv d.py e.py = true ↔ d = e)) → (PyData.eqvAll (D.pyL ds) (D.pyL es) = true ↔ ds = es)
  | [], [], _ => by simp [D.pyL, PyData.eqvAll]
  | [], e :: es, _ => by simp [D.pyL, PyData.eqvAll]
  | d :: ds, [], _ => by simp [D.pyL, PyData.eqvAll]
  | d :: ds, e :: es, h => by
    rw [D.pyL, D.pyL, PyData.eqvAll, Bool.and_eq_true, h d List.mem_cons_self e List.mem_cons_self, eqvAll_iff fun a ha b hb => h a (List.mem_cons_of_mem _ ha) b (List.mem_cons_of_mem _ hb), List.cons.injEq]
theorem Da.eqv : ∀ {k j : Nat} {d e : D}, Da k d → Da j e → (PyData.eqv d.py e.py = true ↔ d = e)
  | 0, _, _, _, h, _ => by simp [Da] at h
  | _ + 1, 0, _, _, _, h => by simp [Da] at h
  | k + 1, j + 1, d, e, h, g => by
    rcases da_cases h with rfl | ⟨i, rfl⟩ | ⟨x, rfl⟩ | ⟨ds, rfl, h⟩ | ⟨ds, rfl, h⟩ <;> rcases da_cases g with rfl | ⟨i', rfl⟩ | ⟨x', rfl⟩ | ⟨es, rfl, g⟩ | ⟨es, rfl, g⟩
    all_goals first
      | (simp [D.py, PyData.eqv]; done)
      | (rw [D.py, D.py, PyData.eqv, eqvAll_iff fun a ha b hb => (h a ha).eqv (g b hb)]; simp)
theorem okc_lst (h : ∀ d ∈ ds, Da k d) (hk : k ≤ 59) : (D.lst ds).okc = true := Da.okc (k := k + 1) (da_lst.mpr h) (by omega)
open Classical in
theorem inSeq_da (h : Da k d) (g : ∀ e ∈ es, Da j e) (hk : k ≤ 60 := by decide) (hj : j ≤ 59 := by decide) : inSeq d es = some (decide (d ∈ es)) := by
  unfold inSeq
  rw [h.okc hk, okc_lst g hj]
  simp only [Bool.and_self, if_true]
  congr 1
  rw [pyL_map, List.any_map, Bool.eq_iff_iff, List.any_eq_true, decide_eq_true_iff]
  constructor
  · rintro ⟨e, he, q⟩
    rwa [← ((g e he).eqv h).mp q]
  · exact fun m => ⟨d, m, ((g d m).eqv h).mpr rfl⟩
open Classical in
theorem inL_da (h : Da k d) (g : ∀ e ∈ es, Da j e) (hk : k ≤ 60 := by decide) (hj : j ≤ 59 := by decide) : inD d (.lst es) = some (.bl (decide (d ∈ es))) := by
  show (inSeq d es).map D.bl = _
  rw [inSeq_da h g hk hj]; rfl
open Classical in
theorem notInT_da (h : Da k d) (g : ∀ e ∈ es, Da j e) (hk : k ≤ 60 := by decide) (hj : j ≤ 59 := by decide) : notInD d (.tup es) = some (.bl (!decide (d ∈ es))) := by
  show (inSeq d es).map (fun b => D.bl (!b)) = _
  rw [inSeq_da h g hk hj]; rfl
theorem Da.up : ∀ {k : Nat} {d : D}, Da k d → Da (k + 1) d
  | 0, _, h => by simp [Da] at h
  | k + 1, d, h => by
    rcases da_cases h with rfl | ⟨i, rfl⟩ | ⟨x, rfl⟩ | ⟨ds, rfl, h⟩ | ⟨ds, rfl, h⟩
    · trivial
    · trivial
    · trivial
    · exact da_tup.mpr fun x hx => (h x hx).up
    · exact da_lst.mpr fun x hx => (h x hx).up
theorem Da.le (h : Da k d) (l : k ≤ j) : Da j d := by
  induction l with
  | refl => exact h
  | step _ ih => exact ih.up
theorem Da.pt : ∀ {k : Nat} {d : D}, Da k d → Pt k d ∨ d = .non ∨ True := fun _ => .inr (.inr trivial)
end
theorem cut_to {α : Type} {g : α → D} {r : List α} {n : Nat} : slD (.tup (r.map g)) none (some (n : Int)) = some (.tup ((r.take n).map g)) := by
  show some (D.tup (cutL _ _ _)) = _
  unfold cutL
  have e : HT.sIx (r.map g).length (r.map g).length (some (n : Int)) = min n (r.map g).length := HT.sIx_nat _ _ n
  rw [e, HT.sIx_none]
  simp only [List.drop_zero, Nat.sub_zero, List.map_take]
  congr 2
  rw [List.take_eq_take_iff]
  omega
end LW
namespace LW
open PySem PySem.Spec PyProof.Rows L2 RZ DN
def wordB (m : Nat) (z : Str) : Bool := decide (1 ≤ z.length) && decide (z.length ≤ m) && z.cps.toList.all fun c => !(Builtin.Str.occurrences "abcdefghijklmnopqrstuvwxyz" ⟨#[c]⟩ 0 (26 : Nat) 1).isEmpty
theorem word_ok {m : Nat} {z : Str} (h : wordB m z = true) : WordOk m z := by
  unfold wordB at h
  rw [Bool.and_eq_true, Bool.and_eq_true] at h
  obtain ⟨⟨h1, h2⟩, h3⟩ := h
  refine ⟨of_decide_eq_true h1, of_decide_eq_true h2, fun c hc => ?_⟩
  have := List.all_eq_true.mp h3 c hc
  show some (D.bl _) = _
  exact congrArg (fun b => some (D.bl b)) this
structure Bd where
  n : Str
  s : Nat
  r : List Str
def Bd.d (b : Bd) : D := .tup [.str b.n, .int b.s, .tup (b.r.map .str)]
structure Bd.Ok (b : Bd) : Prop where
  n : WordOk 8 b.n
  s : b.s ≤ 1
  l : b.r.length ≤ 20
  w : ∀ x ∈ b.r, WordOk 20 x
theorem Bd.Ok.board {b : Bd} (h : b.Ok) : BoardOk b.d := ⟨b.n, b.s, b.r, rfl, h.n, by omega, by have := h.s; omega, h.l, h.w⟩
theorem boards_ok {bs : List Bd} (h : ∀ b ∈ bs, b.Ok) : ∀ d ∈ bs.map Bd.d, BoardOk d := fun d hd => by
  obtain ⟨b, hb, rfl⟩ := List.mem_map.mp hd
  exact (h b hb).board
section
variable {K : PySem.W.Frag} {cl : CTab} {t : TF}
theorem ixL {ds : List D} {k : Nat} (h : k < ds.length) : ixD (.lst ds) (.int k) = some ds[k] := by
  simp [ixD, atI, ixN, h]
theorem ixT {ds : List D} {k : Nat} (h : k < ds.length) : ixD (.tup ds) (.int k) = some ds[k] := by
  simp [ixD, atI, ixN, h]
theorem wp_some {ds : List D} {R : D → Mem → Prop} {s : Mem} (ht : Tape t s) (h1 : 1 ≤ ds.length) (h2 : ds.length ≤ 100000) (q : ∀ d ∈ ds, ∀ s', Tape t s' → R d s') : wp (m__law_some (K := K) (cl := cl) [.ref t, .lst ds]) R s := by
  simp only [m__law_some, b__law_some, s_runF, startE]
  simp
  refine wp_pick ht (by omega) (by omega) fun k s1 k0 k1 ht1 => ?_
  obtain ⟨i, rfl⟩ : ∃ i : Nat, k = i := ⟨k.toNat, by omega⟩
  have hi : i < ds.length := by omega
  rw [ixL hi, wp_lift_iff]
  exact q _ (List.getElem_mem hi) s1 ht1
end
end LW
namespace LW
open PySem PySem.Spec PyProof.Rows L2 RZ DN
def ltD (d e : D) : Bool := PySem.W.dataLt d.py e.py
theorem ltD_irr (d : D) : ltD d d = false := PyProof.Rows.lex_irrefl (O := itemOrd) _
theorem ltD_trans {a b c : D} (h : ltD a b = true) (g : ltD b c = true) : ltD a c = true := PyProof.Rows.lex_trans (O := itemOrd) _ _ _ h g
theorem toks_pre : ∀ xs : List PyData, ∃ p, PySem.W.keyToksAll xs = p ++ [.inl 0] ∧ ∀ y r, ∃ q, PySem.W.keyToksAll (xs ++ y :: r) = p ++ .inl 1 :: q
  | [] => ⟨[], by simp [PySem.W.keyToksAll], fun y r => ⟨PySem.W.keyToks y ++ PySem.W.keyToksAll r, by simp [PySem.W.keyToksAll]⟩⟩
  | x :: xs => by
    obtain ⟨p, h1, h2⟩ := toks_pre xs
    refine ⟨.inl 1 :: (PySem.W.keyToks x ++ p), by simp [PySem.W.keyToksAll, h1], fun y r => ?_⟩
    obtain ⟨q, hq⟩ := h2 y r
    exact ⟨q, by simp [PySem.W.keyToksAll, hq]⟩
theorem lt_longer {ds : List D} {e : D} {es : List D} : ltD (.tup ds) (.tup (ds ++ e :: es)) = true := by
  unfold ltD
  rw [D.py, D.py, PySem.W.dataLt_tuple, pyL_map, pyL_map, List.map_append, List.map_cons]
  obtain ⟨p, h1, h2⟩ := toks_pre (ds.map D.py)
  obtain ⟨q, hq⟩ := h2 e.py (es.map D.py)
  rw [h1, hq, PySem.W.lex_pre, PyProof.Rows.lex_diff (O := itemOrd) (by simp)]
  rfl
def one (s l : List Str) : Bool := decide (l.length = s.length + 1) && decide (l.dropLast = s)
def aheadB (l s : Bd) : Bool := one s.r l.r && decide (s.r.length % 2 ≠ l.s)
def pairB (a b : Bd) : Bool := decide (a.n = b.n) && decide (a.s ≠ b.s) && (decide (a.r = b.r) || aheadB a b || aheadB b a)
def onB (P : Bd → Bd → Bool) (bs : List Bd) (i j : Nat) : Bool := match bs[i]?, bs[j]? with
  | some a, some b => P a b
  | _, _ => false
end LW
namespace DN
open PySem PySem.Spec PyProof.Rows L2 RZ ND
def D.memb : D → Bool
  | .lst ds => D.immL ds
  | .dct _ ds => D.immL ds
  | _ => false
def entM {K : PySem.W.Frag} {cl : CTab} (d : D) : M (MemS K cl) D := fun s => if d.memb = true then .ok (.ref s.n) (s.push d) else .stuck
abbrev LstG := List D → List D → Option (D × List D)
def mutM {K : PySem.W.Frag} {cl : CTab} (g : LstG) (x : D) (us : List D) : M (MemS K cl) D := fun s => match x with
  | .ref k => match s.m k with
    | some (.lst xs) => match g xs us with
      | some (r, ys) => if D.immL ys = true then .ok r (updM s k (some (.lst ys))) else .stuck
      | none => .stuck
    | _ => .stuck
  | _ => .stuck
def rdL {K : PySem.W.Frag} {cl : CTab} (x : D) : M (MemS K cl) (List D) := fun s => match x with
  | .ref k => match s.m k with
    | some (.lst xs) => .ok xs s
    | _ => .stuck
  | _ => .stuck
end DN
namespace DN
open PySem PySem.Spec PyProof.Rows L2 RZ ND
section
variable {cl : CTab} {W : WX} {X : Cx} {o e e2 : Expr} {fo f f2 : Env → M (MemS X.K cl) D} {apos cpos : Pos}
@[simp] abbrev xMut {K : PySem.W.Frag} {cl : CTab} (g : LstG) (fo : Env → M (MemS K cl) D) (fa : Env → M (MemS K cl) (List D)) : Env → M (MemS K cl) D := fun ρ => M.bind (fo ρ) fun x => M.bind (rdL x) fun _ => M.bind (fa ρ) fun us => mutM g x us
end
def derefM {K : PySem.W.Frag} {cl : CTab} (x : D) : M (MemS K cl) D := fun s => match x with
  | .ref k => match s.m k with
    | some (.lst ds) => .ok (.lst ds) s
    | some (.dct ks ds) => .ok (.dct ks ds) s
    | _ => .ok (.ref k) s
  | x => .ok x s
def derefL {K : PySem.W.Frag} {cl : CTab} : List D → M (MemS K cl) (List D)
  | [] => M.pure []
  | d :: ds => M.bind (derefM d) fun x => M.bind (derefL ds) fun xs => M.pure (x :: xs)
def immF (o : Option D) : Option D := o.bind fun d => if d.imm = true then some d else none
section
variable {cl : CTab} {md : Bool} {W : WX} {X : Cx}
def opM {K : PySem.W.Frag} {cl : CTab} (g : D → D → Option D) (x y : D) : M (MemS K cl) D := M.bind (derefM x) fun a => M.bind (derefM y) fun b => lift (immF (g a b))
def callBM {K : PySem.W.Frag} {cl : CTab} (g : List D → Option D) (xs : List D) : M (MemS K cl) D := M.bind (derefL xs) fun ys => lift (immF (g ys))
end
end DN
namespace DN
open PySem PySem.Spec PyProof.Rows L2 RZ ND
def rdD {K : PySem.W.Frag} {cl : CTab} (x : D) : M (MemS K cl) (List D × List D) := fun s => match x with
  | .ref k => match s.m k with
    | some (.dct ks ds) => .ok (ks, ds) s
    | _ => .stuck
  | _ => .stuck
def dgM {K : PySem.W.Frag} {cl : CTab} (x y : D) : M (MemS K cl) D := M.bind (rdD x) fun p => lift (y.key.bind fun k => lookD p.1 p.2 k)
def putM {K : PySem.W.Frag} {cl : CTab} (x y d : D) : M (MemS K cl) Unit := M.bind (rdD x) fun p => M.bind (lift y.key) fun k => fun s => match x with
  | .ref n => if p.1.length < sizeLine ∧ okK p.1 k = true ∧ d.imm = true then .ok () (updM s n (some (.dct (putKs p.1 k) (putVs p.1 p.2 k d)))) else .stuck
  | _ => .stuck
def rdK {K : PySem.W.Frag} {cl : CTab} (x : D) : M (MemS K cl) Unit := M.bind (rdD x) fun p => if kindT p.1 = true then fun _ => .stuck else M.pure ()
def sdM {K : PySem.W.Frag} {cl : CTab} (x y d : D) : M (MemS K cl) D := M.bind (rdD x) fun p => M.bind (lift y.key) fun k => if k.isT = true ∨ kindT p.1 = true ∨ ¬ p.1.length < sizeLine then fun _ => .stuck else match lookD p.1 p.2 k with
  | some v => M.pure v
  | none => M.bind (putM x y d) fun _ => M.pure d
end DN
namespace DN
open PySem PySem.Spec PyProof.Rows L2 RZ ND
def sortI (xs : List Int) : List Int := xs.mergeSort fun a b => decide (a ≤ b)
theorem intsOf_eq : ∀ {ds : List D} {xs : List Int}, intsOf ds = some xs → ds = xs.map D.int
  | [], _, e => by cases e; rfl
  | d :: ds, xs, e => by
    cases d <;> (unfold intsOf at e; try (cases e; done))
    obtain ⟨r, h1, h2⟩ := Option.map_eq_some_iff.mp e
    subst h2
    rw [intsOf_eq h1]
    rfl
def sortKI (ks : List D) : Option D := (intsOf ks).bind fun xs => if xs.length < 64 then some (.lst ((sortI xs).map .int)) else none
section
variable {cl : CTab} {md : Bool} {W : WX} {X : Cx} {p q : D → Bool}
def setgM {K : PySem.W.Frag} {cl : CTab} (c : Str) (i : Nat) (x d : D) : M (MemS K cl) Unit := fun m => match x with
  | .ref a => match m.m a with
    | some (.ins c' ds) => if c' = c ∧ d.imm = true ∧ i < ds.length then .ok () (updM m a (some (.ins c (ds.set i d)))) else .stuck
    | _ => .stuck
  | _ => .stuck
open Classical in
noncomputable def chkM {K : PySem.W.Frag} {cl : CTab} (k : Nat) (ds : List D) : M (MemS K cl) Unit := fun s => if s.m k = some (.lst ds) then .ok () s else .stuck
noncomputable def forLM {K : PySem.W.Frag} {cl : CTab} (a : D → Option Asg) (F : SEnv → M (MemS K cl) Fl) (k : Nat) (ds0 : List D) : List D → SEnv → M (MemS K cl) Fl
  | [], ρ => M.bind (chkM k ds0) fun _ => M.pure (.nx ρ)
  | d :: ds, ρ => M.bind (chkM k ds0) fun _ => M.bind (lift (a d)) fun as => M.bind (F (setsS ρ as)) fun fl => match fl with
    | .nx ρ' => forLM a F k ds0 ds ρ'
    | .ct ρ' => forLM a F k ds0 ds ρ'
    | .bk ρ' => M.pure (.nx ρ')
    | .rt d => M.pure (.rt d)
    | .ro d => M.pure (.ro d)
noncomputable def forM {K : PySem.W.Frag} {cl : CTab} (a : D → Option Asg) (F : SEnv → M (MemS K cl) Fl) (x : D) (ρ : SEnv) : M (MemS K cl) Fl := M.bind (rdL x) fun ds => match x with
  | .ref k => forLM a F k ds ds ρ
  | _ => fun _ => .stuck
end
end DN
namespace DN
open PySem PySem.Spec PyProof.Rows L2 RZ ND
abbrev SrcD (K : PySem.W.Frag) (cl : CTab) := List D × M (MemS K cl) Unit
section
variable {cl : CTab} {md : Bool} {W : WX} {X : Cx} {tg : Expr}
noncomputable def srcM {K : PySem.W.Frag} {cl : CTab} (x : D) : M (MemS K cl) (SrcD K cl) := M.bind (rdL x) fun ds => match x with
  | .ref k => M.pure (ds, chkM k ds)
  | _ => fun _ => .stuck
end
def compA {K : PySem.W.Frag} {cl : CTab} (chk : M (MemS K cl) Unit) (f : List D → D → M (MemS K cl) (List D)) : List D → List D → M (MemS K cl) (List D)
  | acc, [] => M.bind chk fun _ => M.pure acc
  | acc, d :: ds => M.bind chk fun _ => M.bind (f acc d) fun acc' => compA chk f acc' ds
def turnA {K : PySem.W.Frag} {cl : CTab} (a : D → Option Asg) (t : Env → M (MemS K cl) Bool) (e : Env → M (MemS K cl) D) (ρ : Env) (acc : List D) (d : D) : M (MemS K cl) (List D) :=
  noErr (M.bind (lift ((a d).map (setsE ρ))) fun ρ' => M.bind (t ρ') fun k => if k = true then M.bind (e ρ') fun x => guardM (decide (acc.length < sizeLine)) (M.pure (acc ++ [x])) else M.pure acc)
def headF {K : PySem.W.Frag} {cl : CTab} (a : D → Option Asg) (t : Env → M (MemS K cl) Bool) (src : Env → M (MemS K cl) (SrcD K cl)) (ρ : Env) (d : D) : M (MemS K cl) (Option (Env × SrcD K cl)) :=
  noErr (M.bind (lift ((a d).map (setsE ρ))) fun ρ' => M.bind (t ρ') fun k => if k = true then M.bind (src ρ') fun x => M.pure (some (ρ', x)) else M.pure none)
def outA {K : PySem.W.Frag} {cl : CTab} (a : D → Option Asg) (t : Env → M (MemS K cl) Bool) (src : Env → M (MemS K cl) (SrcD K cl)) (own1 : List Nat) (a1 : D → Option Asg) (t1 : Env → M (MemS K cl) Bool) (e : Env → M (MemS K cl) D) (ρ : Env) (acc : List D) (d : D) : M (MemS K cl) (List D) :=
  M.bind (headF a t src ρ d) fun o => match o with
    | none => M.pure acc
    | some (ρ', sc) => compA sc.2 (turnA a1 t1 e (wipeE ρ' own1)) acc sc.1
end DN
namespace DN
open PySem PySem.Spec PyProof.Rows L2 RZ ND
section
variable {K : PySem.W.Frag} {cl : CTab}
@[simp] abbrev xEnt (f : Env → M (MemS K cl) D) : Env → M (MemS K cl) D := fun ρ => M.bind (f ρ) entM
@[simp] abbrev xLst0 (f : Env → M (MemS K cl) D) : Env → M (MemS K cl) D := fun ρ => M.bind (f ρ) fun x => lift (listD [x])
@[simp] abbrev xSrtK (f : Env → M (MemS K cl) D) : Env → M (MemS K cl) D := fun ρ => M.bind (f ρ) fun x => M.bind (rdD x) fun p => lift (sortKI p.1)
@[simp] abbrev xDgM (f1 f2 : Env → M (MemS K cl) D) : Env → M (MemS K cl) D := fun ρ => M.bind (f1 ρ) fun x => M.bind (f2 ρ) fun y => dgM x y
@[simp] abbrev xSdM (fo fk fv : Env → M (MemS K cl) D) : Env → M (MemS K cl) D := fun ρ => M.bind (fo ρ) fun x => M.bind (rdK x) fun _ => M.bind (fk ρ) fun y => M.bind (fv ρ) fun d => sdM x y d
@[simp] abbrev xOpM (g : D → D → Option D) (f1 f2 : Env → M (MemS K cl) D) : Env → M (MemS K cl) D := fun ρ => M.bind (f1 ρ) fun x => M.bind (f2 ρ) fun y => opM g x y
@[simp] abbrev xBM (g : List D → Option D) (f : Env → M (MemS K cl) (List D)) : Env → M (MemS K cl) D := fun ρ => M.bind (f ρ) fun xs => callBM g xs
@[simp] abbrev xMakeM (c : Str) (f : List D → M (MemS K cl) D) (fa : Env → M (MemS K cl) (List D)) : Env → M (MemS K cl) D := fun ρ => M.bind (fa ρ) fun ds => makeM c f ds
@[simp] abbrev sPutM (p : D → Bool) (fo fi f : Env → M (MemS K cl) D) : SEnv → M (MemS K cl) Fl := fun ρ => M.bind (f (seeE p ρ)) fun d => M.bind (fo (seeE pHide ρ)) fun x => M.bind (fi (seeE pHide ρ)) fun y => M.bind (putM x y d) fun _ => M.pure (.nx ρ)
@[simp] abbrev sSetG (p : D → Bool) (c : Str) (i : Nat) (fo f : Env → M (MemS K cl) D) : SEnv → M (MemS K cl) Fl := fun ρ => M.bind (f (seeE p ρ)) fun d => M.bind (fo (seeE pHide ρ)) fun x => M.bind (setgM c i x d) fun _ => M.pure (.nx ρ)
@[simp] noncomputable abbrev sForM (a : D → Option Asg) (f : Env → M (MemS K cl) D) (F : SEnv → M (MemS K cl) Fl) : SEnv → M (MemS K cl) Fl := fun ρ => M.bind (f (seeE pHide ρ)) fun x => forM a F x ρ
@[simp] abbrev srD (f : Env → M (MemS K cl) (List D)) : Env → M (MemS K cl) (SrcD K cl) := fun ρ => M.bind (f ρ) fun ds => M.pure (ds, M.pure ())
@[simp] noncomputable abbrev srM (f : Env → M (MemS K cl) D) : Env → M (MemS K cl) (SrcD K cl) := fun ρ => M.bind (f ρ) srcM
@[simp] abbrev xLc2 (own own1 : List Nat) (b : D → Option Asg) (t : Env → M (MemS K cl) Bool) (b1 : D → Option Asg) (t1 : Env → M (MemS K cl) Bool) (fe : Env → M (MemS K cl) D) (src src1 : Env → M (MemS K cl) (SrcD K cl)) : Env → M (MemS K cl) D := fun ρ => M.bind (src ρ) fun sc => M.bind (compA sc.2 (outA b t src1 own1 b1 t1 fe (wipeE ρ own)) [] sc.1) fun r => M.pure (D.lst r)
end
end DN
namespace LW
abbrev Pr := Nat × Nat
def Vs (c : List Pr) : List Nat := c.flatMap fun p => [p.1, p.2]
@[simp] theorem Vs_nil : Vs [] = [] := rfl
@[simp] theorem Vs_cons {p : Pr} {c : List Pr} : Vs (p :: c) = p.1 :: p.2 :: Vs c := rfl
@[simp] theorem Vs_app {c d : List Pr} : Vs (c ++ d) = Vs c ++ Vs d := by simp [Vs]
theorem mem_Vs {x : Nat} {c : List Pr} : x ∈ Vs c ↔ ∃ p ∈ c, x = p.1 ∨ x = p.2 := by
  simp [Vs]
def ded : List Nat → List Nat → List Nat
  | acc, [] => acc
  | acc, x :: xs => ded (if x ∈ acc then acc else acc ++ [x]) xs
theorem ded_mem {y : Nat} : ∀ {xs acc : List Nat}, y ∈ ded acc xs ↔ y ∈ acc ∨ y ∈ xs
  | [], acc => by simp [ded]
  | x :: xs, acc => by
    rw [ded, ded_mem]
    split
    · rename_i h
      constructor
      · rintro (h1 | h1)
        · exact .inl h1
        · exact .inr (List.mem_cons_of_mem _ h1)
      · rintro (h1 | h1)
        · exact .inl h1
        · rcases List.mem_cons.mp h1 with rfl | h1
          · exact .inl h
          · exact .inr h1
    · simp [or_assoc]
structure Mt (nb : Nat → List Nat) (c : List Pr) : Prop where
  ed : ∀ p ∈ c, p.2 ∈ nb p.1 ∧ p.1 < p.2
  nd : (Vs c).Nodup
  asc : (c.map (·.1)).Pairwise (· < ·)
section
variable {nb : Nat → List Nat}
theorem Mt.uniq {c : List Pr} (h : (Vs c).Nodup) : ∀ {p q : Pr}, p ∈ c → q ∈ c → ∀ {x : Nat}, (x = p.1 ∨ x = p.2) → (x = q.1 ∨ x = q.2) → p = q := by
  induction c with
  | nil => intro p q hp; exact nomatch hp
  | cons a c ih =>
    intro p q hp hq x hx hy
    simp only [Vs_cons, List.nodup_cons, List.mem_cons, not_or] at h
    obtain ⟨⟨h1, h2⟩, h3, h4⟩ := h
    rcases List.mem_cons.mp hp with ep | hp'
    · rcases List.mem_cons.mp hq with eq | hq'
      · rw [ep, eq]
      · have := mem_Vs.mpr ⟨q, hq', hy⟩
        rw [ep] at hx
        rcases hx with e | e
        · rw [e] at this; exact absurd this h2
        · rw [e] at this; exact absurd this h3
    · rcases List.mem_cons.mp hq with eq | hq'
      · have := mem_Vs.mpr ⟨p, hp', hx⟩
        rw [eq] at hy
        rcases hy with e | e
        · rw [e] at this; exact absurd this h2
        · rw [e] at this; exact absurd this h3
      · exact ih h4 hp' hq' hx hy
def Full (nb : Nat → List Nat) (c : List Pr) : Prop := ∀ x y, y ∈ nb x → x ∈ Vs c ∨ y ∈ Vs c
end
end LW
namespace LW
open PySem PySem.Spec PyProof.Rows L2 RZ DN
abbrev iD (x : Nat) : D := .int (x : Int)
abbrev iL (l : List Nat) : List D := l.map iD
abbrev prD (p : Pr) : D := .tup [iD p.1, iD p.2]
theorem nc {x y : Nat} : ((x : Int) = (y : Int)) ↔ x = y := by omega
abbrev flV (l : List Nat) : List D := l.map fun _ => D.bl true
def St (s : Mem) (a f : D) : Mem := ⟨fun j => if j = s.n then some a else if j = s.n + 1 then some f else s.m j, s.n + 2⟩
def WF (s : Mem) : Prop := ∀ j, s.n ≤ j → s.m j = none
theorem WF.lt {s : Mem} (h : WF s) {j : Nat} {d : D} (e : s.m j = some d) : j < s.n := by
  refine Nat.lt_of_not_le fun hl => ?_
  rw [h j hl] at e; cases e
structure ExF (f : Nat) (s s' : Mem) : Prop where
  wf : WF s'
  old : ∀ j d, j ≠ f → s.m j = some d → s'.m j = some d
theorem ExF.trans {f : Nat} {s s' s'' : Mem} (a : ExF f s s') (b : ExF f s' s'') : ExF f s s'' := ⟨b.wf, fun j d h e => b.old j d h (a.old j d h e)⟩
structure Sr (s : Mem) (k kn kb kf : Nat) (most : Int) (nb : Nat → List Nat) (V : List Nat) : Prop where
  ob : s.m k = some (.ins "Search" [.ref kn, .ref kb, .int most, .ref kf])
  bs : s.m kb = some (.lst (iL V))
  nr : ∃ ks vs, s.m kn = some (.dct ks vs) ∧ ∀ b ∈ V, ∃ j, j ≠ kf ∧ lookD ks vs (.inl (.inl (b : Int))) = some (.ref j) ∧ s.m j = some (.lst (iL (nb b)))
  ne : k ≠ kf ∧ kn ≠ kf ∧ kb ≠ kf
theorem Sr.ex {s s' : Mem} {k kn kb kf : Nat} {most : Int} {nb : Nat → List Nat} {V : List Nat} (h : Sr s k kn kb kf most nb V) (e : ∀ j d, j ≠ kf → s.m j = some d → s'.m j = some d) : Sr s' k kn kb kf most nb V := by
  obtain ⟨ks, vs, h1, h2⟩ := h.nr
  refine ⟨e _ _ h.ne.1 h.ob, e _ _ h.ne.2.2 h.bs, ⟨ks, vs, e _ _ h.ne.2.1 h1, fun b hb => ?_⟩, h.ne⟩
  obtain ⟨j, q1, q2, q3⟩ := h2 b hb
  exact ⟨j, q1, q2, e _ _ q1 q3⟩
end LW
namespace LW
open PySem PySem.Spec PyProof.Rows L2 RZ DN
abbrev cD (c : List Pr) : D := .tup (c.map prD)
end LW
namespace LW
open PySem PySem.Spec PyProof.Rows L2 RZ DN
def sortN (xs : List Nat) : List Nat := xs.mergeSort fun a b => decide (a ≤ b)
theorem sortN_perm (xs : List Nat) : (sortN xs).Perm xs := List.mergeSort_perm _ _
structure Ps (P : List Pr) : Prop where
  lt : ∀ p ∈ P, p.1 < p.2
  nd : P.Nodup
def vsP (P : List Pr) : List Nat := sortN (ded [] (Vs P))
theorem mem_vsP {P : List Pr} {x : Nat} : x ∈ vsP P ↔ x ∈ Vs P := by
  unfold vsP
  rw [(sortN_perm _).mem_iff, ded_mem]
  simp
end LW
namespace LW
open PySem PySem.Spec PyProof.Rows L2 RZ DN
theorem updM_m {s : Mem} {p q : Nat} {o : Option D} : (updM s p o).m q = if q = p then o else s.m q := rfl
theorem push_m {s : Mem} {q : Nat} {d : D} : (s.push d).m q = if q = s.n then some d else s.m q := rfl
structure Ex0 (s s' : Mem) : Prop where
  wf : WF s'
  old : ∀ j d, s.m j = some d → s'.m j = some d
theorem Ex0.trans {s s' s'' : Mem} (a : Ex0 s s') (b : Ex0 s' s'') : Ex0 s s'' := ⟨b.wf, fun j d e => b.old j d (a.old j d e)⟩
theorem Ps.pre {P Q : List Pr} (h : Ps (P ++ Q)) : Ps P := ⟨fun p hp => h.lt p (List.mem_append_left _ hp), (List.nodup_append.mp h.nd).1⟩
end LW
namespace LW
section
variable {α : Type} [DecidableEq α]
def PN (P : List Pr) (nm : Nat → α) (a : α) : List Pr := P.filter fun p => decide (nm p.1 = a)
structure Pa (P : List Pr) (nm : Nat → α) (n : Nat) : Prop where
  ps : Ps P
  sm : ∀ p ∈ P, nm p.2 = nm p.1
  sz : ∀ p ∈ P, p.2 < n
variable {P : List Pr} {nm : Nat → α} {n : Nat}
theorem Ps.filter {P : List Pr} {f : Pr → Bool} (h : Ps P) : Ps (P.filter f) := ⟨fun p hp => h.lt p (List.mem_filter.mp hp).1, h.nd.filter _⟩
theorem mem_PN {a : α} {p : Pr} : p ∈ PN P nm a ↔ p ∈ P ∧ nm p.1 = a := by simp [PN, List.mem_filter]
theorem Pa.vs (h : Pa P nm n) {a : α} {x : Nat} (hx : x ∈ vsP (PN P nm a)) : x < n ∧ nm x = a := by
  rw [mem_vsP, mem_Vs] at hx
  obtain ⟨p, hp, e⟩ := hx
  rw [mem_PN] at hp
  have h1 := h.sz p hp.1
  have h2 := h.ps.lt p hp.1
  have h3 := h.sm p hp.1
  rcases e with rfl | rfl
  · exact ⟨by omega, hp.2⟩
  · exact ⟨h1, by rw [h3]; exact hp.2⟩
end
end LW
namespace LW
open PySem PySem.Spec PyProof.Rows L2 RZ DN
def dedS : List Str → List Str → List Str
  | acc, [] => acc
  | acc, x :: xs => dedS (if x ∈ acc then acc else acc ++ [x]) xs
theorem dedS_len : ∀ {xs acc : List Str}, (dedS acc xs).length ≤ acc.length + xs.length
  | [], acc => by simp [dedS]
  | x :: xs, acc => by
    rw [dedS]
    have := dedS_len (xs := xs) (acc := if x ∈ acc then acc else acc ++ [x])
    have l : (if x ∈ acc then acc else acc ++ [x]).length ≤ acc.length + 1 := by split <;> simp
    rw [List.length_cons]
    omega
theorem hasK_str {n : Str} {ks : List Str} : hasK (ks.map D.str) (.inl (.inr n)) = decide (n ∈ ks) := by
  induction ks with
  | nil => rfl
  | cons y l ih =>
    have e : hasK ((y :: l).map D.str) (.inl (.inr n)) = (decide ((D.str y).key = some (.inl (.inr n))) || hasK (l.map D.str) (.inl (.inr n))) := rfl
    have k : (D.str y).key = some (.inl (.inr y)) := rfl
    rw [e, ih, k]
    by_cases h : n = y
    · subst h; simp
    · have h2 : ¬ y = n := fun z => h z.symm
      simp [h, h2]
theorem putAll_dedS : ∀ (ns ks : List Str) (vs : List D), ∃ vs', DN.putAll (ks.map .str) vs (ns.map fun n => (.str n, .bl true)) = some (.dct ((dedS ks ns).map .str) vs')
  | [], ks, vs => ⟨vs, rfl⟩
  | n :: ns, ks, vs => by
    have e : putKs (ks.map D.str) (.inl (.inr n)) = (if n ∈ ks then ks else ks ++ [n]).map D.str := by
      unfold putKs
      rw [hasK_str]
      by_cases h : n ∈ ks <;> simp [h, keyD, keyD1]
    obtain ⟨vs', e3⟩ := putAll_dedS ns (if n ∈ ks then ks else ks ++ [n]) (putVs (ks.map D.str) vs (.inl (.inr n)) (.bl true))
    refine ⟨vs', ?_⟩
    rw [List.map_cons, putAll_s]
    rw [e, e3]
    rfl
def nsB (bs : List Bd) : List Str := sortS (dedS [] (bs.map Bd.n))
theorem nmL_bd : ∀ bs : List Bd, nmL (bs.map Bd.d) = some ((bs.map Bd.n).map .str)
  | [] => rfl
  | b :: bs => by
    rw [List.map_cons, nmL, nmL_bd bs]
    rfl
theorem names_bd {bs : List Bd} (h : bs.length ≤ 60) : namesD (bs.map Bd.d) = some (.lst ((nsB bs).map .str)) := by
  unfold namesD
  rw [nmL_bd, Option.bind_some, List.map_map]
  obtain ⟨vs', e⟩ := putAll_dedS (bs.map Bd.n) [] []
  have e3' : DN.putAll [] [] ((bs.map Bd.n).map ((fun n => (n, D.bl true)) ∘ D.str)) = some (.dct ((dedS [] (bs.map Bd.n)).map .str) vs') := e
  rw [e3', Option.bind_some]
  show (strsOf _).bind (fun xs => if xs.length < 64 then some (D.lst (List.map D.str (sortS xs))) else none) = _
  have := dedS_len (xs := bs.map Bd.n) (acc := [])
  rw [strsOf_map, Option.bind_some, if_pos (by simp at this; omega)]
  rfl
def HallB (h : D) (bs : List Bd) : Prop := ∃ c, c ∈ (["Hall", "RawHall"] : List Str) ∧ h = .ins c [.tup (bs.map Bd.d), .tup ((nsB bs).map .str)]
theorem HallB.of {h : D} {bs : List Bd} (g : HallB h bs) : HallOf h (bs.map Bd.d) := by
  obtain ⟨c, hc, e⟩ := g
  exact ⟨c, _, hc, e⟩
section
variable {K : PySem.W.Frag} {cl : CTab}
theorem keep_bd {bs : List Bd} (h2 : bs.length ≤ 60) (h3 : ∀ b ∈ bs, b.Ok) : i_keep (bs.map Bd.d) = .ok [.tup (bs.map Bd.d), .tup ((nsB bs).map .str)] := by
  unfold i_keep
  rw [names_bd h2]
  simp only
  rw [if_pos]
  rw [purL_all fun d hd => (boards_ok h3 d hd).pur, purL_str]
  rfl
theorem make_HallB {bs : List Bd} (h1 : 1 ≤ bs.length) (h2 : bs.length ≤ 12) (h3 : ∀ b ∈ bs, b.Ok) : ∃ h, mkM (K := K) (cl := cl) "Hall" 2 (i_Hall [.tup (bs.map Bd.d)]) = M.pure h ∧ HallB h bs := by
  refine ⟨.ins "Hall" [.tup (bs.map Bd.d), .tup ((nsB bs).map .str)], ?_, "Hall", by simp, rfl⟩
  have hp : D.purL [.tup (bs.map Bd.d), .tup ((nsB bs).map D.str)] = true := by simp [D.purL, D.pur, purL_str, purL_all fun d hd => (boards_ok h3 d hd).pur]
  have e : i_Hall [.tup (bs.map Bd.d)] = i_keep (bs.map Bd.d) := by
    unfold i_Hall
    simp only
    rw [if_pos ⟨by simpa using h1, by simpa using h2, boards_ok h3⟩]
  rw [e, keep_bd (by omega) h3]
  show (if _ then _ else _) = _
  rw [if_pos ⟨rfl, hp⟩]
end
end LW
namespace LW
open PySem PySem.Spec PyProof.Rows L2 RZ DN
noncomputable def sortP (c : List Pr) : List Pr := c.mergeSort fun p q => leData (prD p) (prD q)
end LW
namespace LW
open PySem PySem.Spec PyProof.Rows L2 RZ DN
def Sel : List Pr → List Nat → Prop
  | [], l => l = []
  | p :: P, l => ∃ l', Sel P l' ∧ (l = p.1 :: l' ∨ l = p.2 :: l')
def orL (m : Nat) (l : List Nat) : Nat := l.foldl (fun m b => m ||| 2 ^ b) m
theorem Sel.hit : ∀ {P : List Pr} {l : List Nat}, Sel P l → ∀ p ∈ P, p.1 ∈ l ∨ p.2 ∈ l
  | [], _, _, _, h => nomatch h
  | p :: P, l, ⟨l', hl, e⟩, q, hq => by
    rcases List.mem_cons.mp hq with rfl | hq
    · rcases e with rfl | rfl <;> simp
    · have := hl.hit q hq
      rcases e with rfl | rfl
      · exact this.imp (List.mem_cons_of_mem _) (List.mem_cons_of_mem _)
      · exact this.imp (List.mem_cons_of_mem _) (List.mem_cons_of_mem _)
theorem Sel.col (c : Nat → Bool) : ∀ {P : List Pr}, (∀ p ∈ P, c p.1 ≠ c p.2) → ∃ l, Sel P l ∧ ∀ x ∈ l, c x = true
  | [], _ => ⟨[], rfl, fun _ h => nomatch h⟩
  | p :: P, h => by
    obtain ⟨l, h1, h2⟩ := Sel.col c (P := P) fun q hq => h q (List.mem_cons_of_mem _ hq)
    have hp := h p List.mem_cons_self
    cases e : c p.1 with
    | true => exact ⟨p.1 :: l, ⟨l, h1, .inl rfl⟩, fun x hx => by rcases List.mem_cons.mp hx with rfl | hx; exact e; exact h2 x hx⟩
    | false =>
      have e2 : c p.2 = true := by
        cases e2 : c p.2 with
        | true => rfl
        | false => rw [e, e2] at hp; exact absurd rfl hp
      exact ⟨p.2 :: l, ⟨l, h1, .inr rfl⟩, fun x hx => by rcases List.mem_cons.mp hx with rfl | hx; exact e2; exact h2 x hx⟩
end LW
namespace LW
open PySem PySem.Spec PyProof.Rows L2 RZ DN
def Good (a : Aim) (P : List Pr) : Prop := ∀ l, Sel P l → (a.holds fun b => decide (b ∈ l)) = true
theorem orL_bit {l : List Nat} : (orL 0 l).testBit = fun b => decide (b ∈ l) := funext fun i => mask_bit l i
end LW
namespace LW
open PySem PySem.Spec PyProof.Rows L2 RZ DN
theorem mono_on {many w : Nat} {p q : Nat → Bool} (h : ∀ b, b < many → p b = true → q b = true) : ∀ {k : Nat} {a : Aim}, Gd many w k a → a.holds p = true → a.holds q = true
  | 0, _, g, _ => False.elim g
  | k + 1, .at b, g, e => by
    rw [Aim.holds] at e ⊢
    exact h b g e
  | k + 1, .node kd as, g, e => by
    rw [holds_node] at e ⊢
    have ih : ∀ a ∈ as, a.holds p = true → a.holds q = true := fun a ha => mono_on h (g.2.2 a ha)
    cases kd with
    | all =>
      simp only [Kd.holds, List.all_map, List.all_eq_true, Function.comp, id] at e ⊢
      exact fun a ha => ih a ha (e a ha)
    | some =>
      simp only [Kd.holds, List.any_map, List.any_eq_true, Function.comp, id] at e ⊢
      obtain ⟨a, ha, e⟩ := e
      exact ⟨a, ha, ih a ha e⟩
    | least n =>
      simp only [Kd.holds, decide_eq_true_eq, List.countP_map] at e ⊢
      refine Nat.le_trans e ?_
      exact List.countP_mono_left fun a ha => ih a ha
theorem Tape.wf {t : TF} {s : Mem} (h : Tape t s) : WF s := by
  obtain ⟨ns, p, c, z, cn, ⟨h1, h2, h3, h4⟩, hp, rfl⟩ := h
  intro j hj
  have hj : t.f.n ≤ j := hj
  show (if j = t.t then _ else if j = t.sc then _ else t.f.m j) = none
  rw [if_neg (by omega), if_neg (by omega)]
  exact h4 j hj
theorem Tape.of {t : TF} {s s' : Mem} (h : Tape t s) (w : WF s') (e1 : s'.m t.t = s.m t.t) (e2 : s'.m t.sc = s.m t.sc) : Tape ⟨t.t, s', t.sc⟩ s' := by
  obtain ⟨ns, p, c, z, cn, ⟨h1, h2, h3, h4⟩, hp, rfl⟩ := h
  rw [tapeM_t] at e1
  rw [tapeM_sc h1] at e2
  refine ⟨ns, p, c, z, cn, ⟨h1, w.lt e2, w.lt e1, w⟩, hp, ?_⟩
  unfold tapeM
  cases s' with
  | mk m n =>
    congr 1
    funext j
    show m j = if j = t.t then _ else if j = t.sc then _ else m j
    by_cases hj : j = t.t
    · rw [if_pos hj, hj]; exact e1
    · rw [if_neg hj]
      by_cases hk : j = t.sc
      · rw [if_pos hk, hk]; exact e2
      · rw [if_neg hk]
theorem Tape.has {t : TF} {s : Mem} (h : Tape t s) : (∃ d, s.m t.t = some d) ∧ ∃ d, s.m t.sc = some d := by
  obtain ⟨ns, p, c, z, cn, ⟨h1, h2, h3, h4⟩, hp, rfl⟩ := h
  exact ⟨⟨_, tapeM_t⟩, ⟨_, tapeM_sc h1⟩⟩
theorem Tape.ext {t : TF} {s s' : Mem} (h : Tape t s) (x : Ex0 s s') : Tape ⟨t.t, s', t.sc⟩ s' := by
  obtain ⟨⟨d1, e1⟩, ⟨d2, e2⟩⟩ := Tape.has h
  exact Tape.of h x.wf ((x.old _ _ e1).trans e1.symm) ((x.old _ _ e2).trans e2.symm)
end LW
namespace DN
open PySem PySem.Spec PyProof.Rows L2 RZ ND
section
variable {K : PySem.W.Frag} {cl : CTab}
@[simp] abbrev tCmM (g : D → D → Option D) (f1 f2 : Env → M (MemS K cl) D) : Env → M (MemS K cl) Bool := fun ρ => M.bind (f1 ρ) fun x => M.bind (f2 ρ) fun y => M.bind (opM g x y) fun d => lift (D.asB d)
end
end DN
namespace LW
open PySem PySem.Spec PyProof.Rows L2 RZ DN
section
variable {K : PySem.W.Frag} {cl : CTab}
noncomputable def b__law_flag : SEnv → M (MemS K cl) Fl := sRet pHide (xAn (xUn (isD "bool") (eVar 0)) (xOp eqD (eVar 0) (eVar 1)))
noncomputable def m__law_flag : List D → M (MemS K cl) D := runF 2 b__law_flag
end
end LW
namespace LW
open PySem PySem.Spec PyProof.Rows L2 RZ DN
theorem Sel.len : ∀ {P : List Pr} {l : List Nat}, Sel P l → l.length = P.length
  | [], _, h => by rw [show _ = [] from h]; rfl
  | p :: P, l, ⟨l', hl, e⟩ => by
    have := hl.len
    rcases e with rfl | rfl <;> simp [this]
end LW
namespace LW
open PySem PySem.Spec PyProof.Rows L2 RZ DN
section
variable {K : PySem.W.Frag} {cl : CTab}
theorem e_lflag {a b : Bool} : (m__law_flag [.bl a, .bl b] : M (MemS K cl) D) = M.pure (.bl (decide (a = b))) := by
  simp [m__law_flag, b__law_flag, startE]
end
end LW
namespace LW
open PySem PySem.Spec PyProof.Rows L2 RZ DN
def ExT (t c : Nat) (s s' : Mem) : Prop := ∀ j d, j ≠ t → j ≠ c → s.m j = some d → s'.m j = some d
theorem ExT.refl {t c : Nat} {s : Mem} : ExT t c s s := fun _ _ _ _ h => h
theorem ExT.trans {t c : Nat} {s s' s'' : Mem} (a : ExT t c s s') (b : ExT t c s' s'') : ExT t c s s'' := fun j d h g e => b j d h g (a j d h g e)
theorem Ex0.t {t c : Nat} {s s' : Mem} (a : Ex0 s s') : ExT t c s s' := fun j d _ _ e => a.old j d e
theorem Tape.ex {T : TF} {s s' : Mem} (h : Tape T s) (g : Tape T s') : ExT T.t T.sc s s' := by
  obtain ⟨ns, p, c, z, cn, _, _, rfl⟩ := h
  obtain ⟨ns', p', c', z', cn', _, _, rfl⟩ := g
  intro j d h1 h2 e
  have e : (if j = T.t then _ else if j = T.sc then _ else T.f.m j) = some d := e
  show (if j = T.t then _ else if j = T.sc then _ else T.f.m j) = some d
  rw [if_neg h1, if_neg h2] at e ⊢
  exact e
theorem Tape.same {T : TF} {s s' : Mem} (h : Tape T s) (g : Tape T s') : s'.n = s.n ∧ ∀ j, j ≠ T.t → j ≠ T.sc → s'.m j = s.m j := by
  obtain ⟨ns, p, c, z, cn, _, _, rfl⟩ := h
  obtain ⟨ns', p', c', z', cn', _, _, rfl⟩ := g
  refine ⟨rfl, fun j h1 h2 => ?_⟩
  show (if j = T.t then _ else if j = T.sc then _ else T.f.m j) = (if j = T.t then _ else if j = T.sc then _ else T.f.m j)
  rw [if_neg h1, if_neg h1, if_neg h2, if_neg h2]
theorem Tape.low {T : TF} {s : Mem} (h : Tape T s) : T.t < s.n ∧ T.sc < s.n := by
  obtain ⟨⟨d1, e1⟩, ⟨d2, e2⟩⟩ := Tape.has h
  exact ⟨(Tape.wf h).lt e1, (Tape.wf h).lt e2⟩
theorem Tape.upd {T : TF} {s : Mem} {k : Nat} {d : D} (h : Tape T s) (k1 : k ≠ T.t) (k2 : k ≠ T.sc) (k3 : k < s.n) : Tape ⟨T.t, updM s k (some d), T.sc⟩ (updM s k (some d)) := by
  refine Tape.of h (fun j hj => ?_) ?_ ?_
  · have hj : s.n ≤ j := hj
    rw [updM_m, if_neg (by omega)]
    exact Tape.wf h j hj
  · rw [updM_m, if_neg (fun z => k1 z.symm)]
  · rw [updM_m, if_neg (fun z => k2 z.symm)]
theorem Tape.new {T : TF} {s : Mem} {d : D} (h : Tape T s) : Tape ⟨T.t, s.push d, T.sc⟩ (s.push d) := by
  have l := Tape.low h
  refine Tape.of h (fun j hj => ?_) ?_ ?_
  · have hj : s.n + 1 ≤ j := hj
    rw [push_m, if_neg (by omega)]
    exact Tape.wf h j (by omega)
  · rw [push_m, if_neg (by omega)]
  · rw [push_m, if_neg (by omega)]
end LW
namespace LW
open PySem PySem.Spec PyProof.Rows L2 RZ DN
theorem Good.mono {many w k : Nat} {a : Aim} {P Q : List Pr} (ga : Gd many w k a) (h : Good a P) (hPQ : ∀ l, Sel Q l → ∃ l', Sel P l' ∧ ∀ x ∈ l', x ∈ l) : Good a Q := fun l hl => by
  obtain ⟨l', h1, h2⟩ := hPQ l hl
  exact mono_on (fun b _ hb => by simpa using h2 b (by simpa using hb)) ga (h l' h1)
theorem Sel.sub : ∀ {P : List Pr} {l : List Nat}, (∀ p ∈ P, p.1 ∈ l ∨ p.2 ∈ l) → ∃ l', Sel P l' ∧ ∀ x ∈ l', x ∈ l
  | [], _, _ => ⟨[], rfl, fun _ h => nomatch h⟩
  | p :: P, l, h => by
    obtain ⟨l', h1, h2⟩ := Sel.sub (P := P) (l := l) fun q hq => h q (List.mem_cons_of_mem _ hq)
    rcases h p List.mem_cons_self with hp | hp
    · exact ⟨p.1 :: l', ⟨l', h1, .inl rfl⟩, fun x hx => by rcases List.mem_cons.mp hx with rfl | hx; exact hp; exact h2 x hx⟩
    · exact ⟨p.2 :: l', ⟨l', h1, .inr rfl⟩, fun x hx => by rcases List.mem_cons.mp hx with rfl | hx; exact hp; exact h2 x hx⟩
theorem Good.more {many w k : Nat} {a : Aim} {P Q : List Pr} (ga : Gd many w k a) (h : Good a P) (hs : ∀ p ∈ P, p ∈ Q) : Good a Q :=
  Good.mono ga h fun l hl => Sel.sub fun p hp => hl.hit p (hs p hp)
end LW
namespace LW
section
variable {nb : Nat → List Nat}
def NA (nb : Nat → List Nat) (o : List Nat) : Prop := ∀ x ∈ o, ∀ y ∈ nb x, y ∉ o
end
end LW
namespace DN
open PySem PySem.Spec PyProof.Rows L2 RZ ND
variable {B : Sto}
@[simp] def sExt (p q : D → Bool) (i : Nat) (f : Env → M B D) : SEnv → M B Fl := fun ρ => match ρ[i]? with
  | some (.own (.lst ds)) => M.bind (f (seeE p ρ)) fun d => match d with
    | .lst es => guardM (q d && es.all (fun e => !e.isMut) && decide (ds.length + es.length ≤ sizeLine)) (M.pure (.nx (ρ.set i (.own (.lst (ds ++ es))))))
    | _ => fun _ => .stuck
  | _ => fun _ => .stuck
end DN
namespace DN
open PySem PySem.Spec PyProof.Rows L2 RZ ND
section
variable {cl : CTab} {md : Bool} {W : WX} {X : Cx} {B : Sto}
@[simp] noncomputable abbrev xSrt (f : Env → M B D) : Env → M B D := fun ρ => M.bind (f ρ) fun x => lift (sortedDD [x])
end
end DN
namespace DN
open PySem PySem.Spec PyProof.Rows L2 RZ ND
variable {B : Sto}
end DN
namespace DN
open PySem PySem.Spec PyProof.Rows L2 RZ ND
variable {B : Sto}
def keysI : D → Option (List D)
  | .dct ks _ => some ks
  | _ => none
@[simp] def sForK (i : Nat) (a : D → Option Asg) (F : SEnv → M B Fl) : SEnv → M B Fl := fun ρ => M.bind (eVar i (seeE pHide ρ)) fun d => M.bind (lift (keysI d)) fun ks => noErr (forL a F ks ρ)
theorem PS.or {X : Cx} {st : Stmt} {t t' : TS} (h : PS X st t) (h' : PS X st t') : PS X st (fun E σ H => t E σ H ∨ t' E σ H) := ⟨fun pins s σ H D I q => q.elim (h.run pins s σ H D I) (h'.run pins s σ H D I)⟩
end DN
namespace DN
open PySem PySem.Spec PyProof.Rows L2 RZ ND
variable {B : Sto}
@[simp] abbrev xLcK (own : List Nat) (b : D → Option Asg) (t : Env → M B Bool) (fe : Env → M B D) (i : Nat) : Env → M B D := fun ρ => M.bind (eVar i ρ) fun d => M.bind (lift (keysI d)) fun ds => M.bind (compL (compF b t fe (wipeE ρ own)) ds) fun r => M.pure (.lst r)
@[simp] abbrev xDcK (own : List Nat) (b : D → Option Asg) (t : Env → M B Bool) (fk fe : Env → M B D) (i : Nat) : Env → M B D := fun ρ => M.bind (eVar i ρ) fun d => M.bind (lift (keysI d)) fun ds => M.bind (compL (compFD b t fk fe (wipeE ρ own)) ds) fun r => lift (putAll [] [] r)
end DN
namespace DN
open PySem PySem.Spec PyProof.Rows L2 RZ ND
variable {B : Sto}
end DN
namespace DN
open PySem PySem.Spec PyProof.Rows L2 RZ ND
def lstAt (ds : List D) (j : Nat) : Option (List D) := match ds[j]? with
  | some (.ins c [.lst es]) => if c = "" then some es else none
  | _ => none
def atK (ks ds : List D) (k : D) : Option (Nat × List D) := (k.key.bind fun k => ixK ks k).bind fun j => (lstAt ds j).map fun es => (j, es)
@[simp] def sAppK {B : Sto} (p q : D → Bool) (i : Nat) (fk f : Env → M B D) : SEnv → M B Fl := fun ρ => match ρ[i]? with
  | some (.own (.dct ks ds)) => M.bind (fk (seeE pHide ρ)) fun k => M.bind (lift (atK ks ds k)) fun je => M.bind (f (seeE p ρ)) fun d => guardM (q d && !d.isMut && decide (je.2.length < sizeLine)) (M.pure (.nx (ρ.set i (.own (.dct ks (ds.set je.1 (.ins "" [.lst (je.2 ++ [d])])))))))
  | _ => fun _ => .stuck
abbrev flatL (ds : List D) : Bool := ds.all fun d => !d.isMut
end DN
namespace DN
open PySem PySem.Spec PyProof.Rows L2 RZ ND
def mutO (q : D → Bool) (g : LstG) (xs us : List D) : Option (D × List D) := if (us.all q && flatL xs) = true then (g xs us).bind fun r => if (flatL r.2 && !r.1.isMut) = true then some r else none else none
@[simp] def sMutO {B : Sto} (p q : D → Bool) (i : Nat) (g : LstG) (fa : Env → M B (List D)) : SEnv → M B Fl := fun ρ => match ρ[i]? with
  | some (.own (.lst xs)) => M.bind (fa (seeE p ρ)) fun us => M.bind (lift (mutO q g xs us)) fun r => M.pure (.nx (ρ.set i (.own (.lst r.2))))
  | _ => fun _ => .stuck
@[simp] def sPopO {B : Sto} (p q : D → Bool) (j i : Nat) (g : LstG) (fa : Env → M B (List D)) : SEnv → M B Fl := fun ρ => match ρ[i]? with
  | some (.own (.lst xs)) => M.bind (fa (seeE p ρ)) fun us => M.bind (lift (mutO q g xs us)) fun r => M.pure (.nx ((ρ.set i (.own (.lst r.2))).set j (.val r.1)))
  | _ => fun _ => .stuck
end DN
namespace DN
open PySem PySem.Spec PyProof.Rows L2 RZ ND
def asDc : D → Option (List D × List D)
  | .dct ks ds => some (ks, ds)
  | _ => none
def getDD (p : List D × List D) (y z : D) : Option D := y.key.bind fun k => if okK p.1 k = true then some ((lookD p.1 p.2 k).getD z) else none
section
variable {B : Sto} {cl : CTab} {md : Bool} {W : WX} {X : Cx}
@[simp] abbrev xGet1 (fo fk : Env → M B D) : Env → M B D := fun ρ => M.bind (fo ρ) fun x => M.bind (lift (asDc x)) fun p => M.bind (fk ρ) fun y => lift (getDD p y .non)
@[simp] abbrev xGet2 (fo fk fx : Env → M B D) : Env → M B D := fun ρ => M.bind (fo ρ) fun x => M.bind (lift (asDc x)) fun p => M.bind (fk ρ) fun y => M.bind (fx ρ) fun z => lift (getDD p y z)
end
def tyD (T : String) : D → Bool
  | .lst _ => T == "list"
  | .str _ => T == "str"
  | _ => false
section
variable {B : Sto} {cl : CTab} {md : Bool} {W : WX} {X : Cx}
@[simp] abbrev xBm (T : String) (g : D → List D → Option D) (fo : Env → M B D) (fa : Env → M B (List D)) : Env → M B D := fun ρ => M.bind (fo ρ) fun x => guardM (tyD T x) (M.bind (fa ρ) fun us => lift (g x us))
@[simp] abbrev xBm0 (T : String) (g : D → List D → Option D) (fo : Env → M B D) : Env → M B D := fun ρ => M.bind (fo ρ) fun x => guardM (tyD T x) (lift (g x []))
end
end DN
namespace DN
open PySem PySem.Spec PyProof.Rows L2 RZ ND
section
variable {B : Sto}
@[simp] abbrev xDcO (own : List Nat) (b : D → Option Asg) (t : Env → M B Bool) (fk fe : Env → M B D) (src : Env → M B (List D)) : Env → M B D := fun ρ => M.bind (src ρ) fun ds => M.bind (compL (compFD b t fk fe (wipeE ρ own)) ds) fun r => M.bind (lift (putAll [] [] r)) fun d => M.pure (D.mt d)
end
end DN
namespace DN
open PySem PySem.Spec PyProof.Rows L2 RZ ND
variable {B : Sto}
def key1 (x y : D) : Option D := x.key.bind fun k => if (k.isT && k.low) = true then some (.dct [keyD k] [y]) else none
@[simp] abbrev xDct1 (fk fv : Env → M B D) : Env → M B D := fun ρ => M.bind (fk ρ) fun x => M.bind (fv ρ) fun y => lift (key1 x y)
@[simp] def sSetI (p : D → Bool) (i : Nat) (f : Env → M B D) : SEnv → M B Fl := fun ρ => M.bind (f (seeE p ρ)) fun d => if d.imm = true then M.pure (.nx (ρ.set i (.val d))) else fun _ => .stuck
end DN
namespace LW
open PySem PySem.Spec PyProof.Rows L2 RZ DN
structure KeyE {α : Type} (f : α → D) (k : α → GK) : Prop where
  key : ∀ x, (f x).key = some (k x)
  inj : ∀ x y, k x = k y → x = y
  low : ∀ x, (k x).low = true
  kd : ∃ b, ∀ x, (k x).isT = b ∧ ∀ r, kindT (f x :: r) = b
section
variable {α : Type} [DecidableEq α] {f : α → D} {k : α → GK}
theorem KeyE.hasK (e : KeyE f k) {L : List α} {x : α} : hasK (L.map f) (k x) = decide (x ∈ L) := by
  unfold DN.hasK
  rw [List.any_map, Bool.eq_iff_iff, List.any_eq_true]
  simp only [Function.comp_apply, decide_eq_true_eq, e.key, Option.some.injEq]
  exact ⟨fun ⟨y, h, q⟩ => by rw [← e.inj _ _ q]; exact h, fun h => ⟨x, h, rfl⟩⟩
theorem KeyE.put (e : KeyE f k) {L : List α} {x : α} {vs : List D} {d : D} (h : x ∉ L) : putKs (L.map f) (k x) = (L ++ [x]).map f ∧ putVs (L.map f) vs (k x) d = vs ++ [d] := by
  unfold putKs putVs
  rw [e.hasK, decide_eq_false h]
  have := key_eq (e.key x)
  simp [← this]
theorem KeyE.ok (e : KeyE f k) {L : List α} {x : α} : okK (L.map f) (k x) = true := by
  obtain ⟨b, hb⟩ := e.kd
  unfold okK
  rw [e.low, Bool.and_true]
  cases L with
  | nil => rfl
  | cons y L =>
    rw [List.map_cons, (hb y).2, (hb x).1]
    simp
end
end LW
namespace LW
open PySem PySem.Spec PyProof.Rows L2 RZ DN
def hM (a : Aim) (m : Nat) : Bool := a.holds m.testBit
section
variable {K : PySem.W.Frag} {cl : CTab}
theorem alike_ints : ∀ (r s : List Nat), PySem.W.alikeAll (D.pyL (iL r)) (D.pyL (iL s)) = true
  | [], _ => by simp [D.pyL, PySem.W.alikeAll]
  | _ :: _, [] => by simp [D.pyL, PySem.W.alikeAll]
  | x :: r, y :: s => by
    have := alike_ints r s
    simp only [iL, List.map_cons, D.pyL, PySem.W.alikeAll] at this ⊢
    rw [this]
    simp [D.py, PySem.W.alike]
end
end LW
namespace LW
open PySem PySem.Spec PyProof.Rows L2 RZ DN
inductive F2 {α β : Type} (P : α → β → Prop) : List α → List β → Prop
  | nil : F2 P [] []
  | cons {a : α} {b : β} {as : List α} {bs : List β} : P a b → F2 P as bs → F2 P (a :: as) (b :: bs)
theorem F2.len {α β : Type} {P : α → β → Prop} : ∀ {as : List α} {bs : List β}, F2 P as bs → bs.length = as.length
  | _, _, .nil => rfl
  | _, _, .cons _ h => by simp [h.len]
theorem F2.map {α β γ : Type} {P : α → β → Prop} {f : α → γ} {g : β → γ} (h : ∀ a b, P a b → g b = f a) : ∀ {as : List α} {bs : List β}, F2 P as bs → bs.map g = as.map f
  | _, _, .nil => rfl
  | _, _, .cons p t => by rw [List.map_cons, List.map_cons, h _ _ p, t.map h]
theorem F2.all {α β : Type} {P : α → β → Prop} {Q : β → Prop} (h : ∀ a b, P a b → Q b) : ∀ {as : List α} {bs : List β}, F2 P as bs → ∀ b ∈ bs, Q b
  | _, _, .nil, _, hb => nomatch hb
  | _, _, .cons p t, b, hb => by
    rcases List.mem_cons.mp hb with rfl | hb
    · exact h _ _ p
    · exact t.all h b hb
end LW
namespace LW
open PySem PySem.Spec PyProof.Rows L2 RZ DN
def shP (m : Nat) (p : Pr) : Pr := (p.1 + m, p.2 + m)
def shL (m : Nat) (P : List Pr) : List Pr := P.map (shP m)
theorem Sel.some : ∀ (P : List Pr), ∃ l, Sel P l
  | [] => ⟨[], rfl⟩
  | p :: P => let ⟨l, h⟩ := Sel.some P; ⟨p.1 :: l, l, h, .inl rfl⟩
theorem Sel.in : ∀ {P : List Pr} {l : List Nat}, Sel P l → ∀ x ∈ l, x ∈ Vs P
  | [], l, h, x, hx => by
    have : l = [] := h
    subst this; exact nomatch hx
  | p :: P, l, ⟨l', h, e⟩, x, hx => by
    rw [Vs_cons, List.mem_cons, List.mem_cons]
    rcases e with rfl | rfl
    · rcases List.mem_cons.mp hx with rfl | hx
      · exact .inl rfl
      · exact .inr (.inr (h.in x hx))
    · rcases List.mem_cons.mp hx with rfl | hx
      · exact .inr (.inl rfl)
      · exact .inr (.inr (h.in x hx))
end LW
namespace LW
open PySem PySem.Spec PyProof.Rows L2 RZ DN
theorem Sel.vs : ∀ {P : List Pr} {l : List Nat}, Sel P l → ∀ x ∈ l, x ∈ Vs P
  | [], _, h, x, hx => by cases h; exact nomatch hx
  | p :: P, l, ⟨l', hl, e⟩, x, hx => by
    rw [Vs_cons]
    rcases e with rfl | rfl <;> rcases List.mem_cons.mp hx with rfl | hx <;> simp
    · exact .inr (.inr (hl.vs x hx))
    · exact .inr (.inr (hl.vs x hx))
theorem Sel.nd : ∀ {P : List Pr} {l : List Nat}, Sel P l → (Vs P).Nodup → l.Nodup
  | [], _, h, _ => by cases h; exact List.nodup_nil
  | p :: P, l, ⟨l', hl, e⟩, nd => by
    simp only [Vs_cons, List.nodup_cons, List.mem_cons, not_or] at nd
    rcases e with rfl | rfl
    · exact List.nodup_cons.mpr ⟨fun z => nd.1.2 (hl.vs _ z), hl.nd nd.2.2⟩
    · exact List.nodup_cons.mpr ⟨fun z => nd.2.1 (hl.vs _ z), hl.nd nd.2.2⟩
theorem Sel.one : ∀ {P : List Pr} {l : List Nat}, Sel P l → (Vs P).Nodup → ∀ p ∈ P, ¬ (p.1 ∈ l ∧ p.2 ∈ l)
  | [], _, _, _, _, h => nomatch h
  | q :: P, l, ⟨l', hl, e⟩, nd, p, hp => by
    simp only [Vs_cons, List.nodup_cons, List.mem_cons, not_or] at nd
    rintro ⟨h1, h2⟩
    rcases List.mem_cons.mp hp with rfl | hp
    · rcases e with rfl | rfl
      · rcases List.mem_cons.mp h2 with z | z
        · exact nd.1.1 z.symm
        · exact nd.2.1 (hl.vs _ z)
      · rcases List.mem_cons.mp h1 with z | z
        · exact nd.1.1 z
        · exact nd.1.2 (hl.vs _ z)
    · have v1 : p.1 ∈ Vs P := List.mem_flatMap.mpr ⟨p, hp, by simp⟩
      have v2 : p.2 ∈ Vs P := List.mem_flatMap.mpr ⟨p, hp, by simp⟩
      refine hl.one nd.2.2 p hp ⟨?_, ?_⟩
      · rcases e with rfl | rfl <;> rcases List.mem_cons.mp h1 with z | z
        · exact absurd (z ▸ v1) nd.1.2
        · exact z
        · exact absurd (z ▸ v1) nd.2.1
        · exact z
      · rcases e with rfl | rfl <;> rcases List.mem_cons.mp h2 with z | z
        · exact absurd (z ▸ v2) nd.1.2
        · exact z
        · exact absurd (z ▸ v2) nd.2.1
        · exact z
end LW
namespace LW
open PySem PySem.Spec PyProof.Rows L2 RZ DN
def lk (l : List Nat) : GK := .inr (l.map fun x : Nat => NestedKey.num (x : Int))
theorem cut_from {α : Type} {g : α → D} {r : List α} {n : Nat} : slD (.tup (r.map g)) (some (n : Int)) none = some (.tup ((r.drop n).map g)) := by
  show some (D.tup (cutL _ _ _)) = _
  unfold cutL
  have e : HT.sIx (r.map g).length 0 (some (n : Int)) = min n (r.map g).length := HT.sIx_nat _ _ n
  rw [e, HT.sIx_none]
  congr 2
  rw [List.length_map, ← List.map_drop]
  rw [List.take_of_length_le]
  · rcases Nat.le_total n r.length with h | h
    · rw [Nat.min_eq_left h]
    · rw [Nat.min_eq_right h, List.drop_of_length_le (Nat.le_refl _), List.drop_of_length_le h]
  · rw [List.length_map, List.length_drop]; omega
end LW
namespace LW
open PySem PySem.Spec PyProof.Rows L2 RZ DN
theorem Gd.more {many many' w : Nat} (l : many ≤ many') : ∀ {k : Nat} {a : Aim}, Gd many w k a → Gd many' w k a
  | 0, _, h => False.elim h
  | k + 1, .at b, h => Nat.lt_of_lt_of_le h l
  | k + 1, .node kd as, h => ⟨h.1, h.2.1, fun a ha => (h.2.2 a ha).more l⟩
theorem Good.at {a : Aim} {P : List Pr} {l : List Nat} (g : Good a P) (h : Sel P l) : hM a (orL 0 l) = true := by
  unfold hM
  rw [orL_bit]
  exact g l h
end LW
namespace DN
open PySem PySem.Spec PyProof.Rows L2 RZ ND
def revD : D → Option D
  | .tup xs => some (.tup xs.reverse)
  | .lst xs => some (.lst xs.reverse)
  | _ => none
@[simp] abbrev xRev {B : Sto} (f : Env → M B D) : Env → M B D := fun ρ => M.bind (f ρ) fun x => lift (revD x)
end DN
namespace DN
open PySem PySem.Spec PyProof.Rows L2 RZ ND
variable {B : Sto}
def immLs : D → Bool
  | .lst xs => D.immL xs
  | _ => false
@[simp] def sSetX (p : D → Bool) (i : Nat) (f : Env → M B D) : SEnv → M B Fl := fun ρ => M.bind (f (seeE p ρ)) fun d => guardM (immLs d) (M.pure (.nx (ρ.set i (.val d))))
@[simp] def sForX (p : D → Bool) (a : D → Option Asg) (f : Env → M B D) (F : SEnv → M B Fl) : SEnv → M B Fl := fun ρ => M.bind (f (seeE p ρ)) fun d => guardM (immLs d) (match d with
  | .lst ds => forL a F ds ρ
  | _ => fun _ => .stuck)
section
variable {cl : CTab} {md : Bool} {W : WX} {X : Cx} {p : D → Bool} {i : Nat} {x : Str}
def maxZ : List Int → Option Int
  | [] => none
  | x :: xs => match maxZ xs with
    | none => some x
    | some m => some (if m ≤ x then x else m)
theorem maxZ_none : ∀ {xs : List Int}, maxZ xs = none → xs = []
  | [], _ => rfl
  | x :: xs, h => by rw [maxZ] at h; split at h <;> cases h
theorem maxZ_ok : ∀ {xs : List Int} {m : Int}, maxZ xs = some m → m ∈ xs ∧ ∀ y ∈ xs, y ≤ m
  | [], _, h => nomatch h
  | x :: xs, m, h => by
    rw [maxZ] at h
    split at h
    · rename_i e
      cases h
      rw [maxZ_none e]
      exact ⟨by simp, fun y hy => by rw [List.mem_singleton] at hy; omega⟩
    · rename_i m' e
      cases h
      obtain ⟨h1, h2⟩ := maxZ_ok e
      split
      · rename_i hx
        exact ⟨List.mem_cons_self, fun y hy => by rcases List.mem_cons.mp hy with rfl | hy; omega; have := h2 y hy; omega⟩
      · rename_i hx
        exact ⟨List.mem_cons_of_mem _ h1, fun y hy => by rcases List.mem_cons.mp hy with rfl | hy; omega; exact h2 y hy⟩
def maxLD : List D → Option D
  | [.lst ds] => (intsOf ds).bind fun ns => (maxZ ns).map .int
  | _ => none
theorem repL_ints {K : PySem.W.Frag} {cl : CTab} {Z : Zp} : ∀ {ns : List Int} {vs : List V}, RepL K cl Z vs (ns.map D.int) → vs = ns.map V.int
  | [], _, r => by cases r; rfl
  | n :: ns, _, r => by
    cases r with
    | cons a b => cases a; rw [repL_ints b]; rfl
theorem v_maxL {K : PySem.W.Frag} : CallV K cl (rMax K) maxLD := by
  intro Z H xs dxs d Q h r e q
  unfold maxLD at e
  split at e
  · rename_i ds
    obtain ⟨ns, h1, h2⟩ := Option.bind_eq_some_iff.mp e
    obtain ⟨m, h3, rfl⟩ := Option.map_eq_some_iff.mp h2
    obtain ⟨x, rfl, r1⟩ := repL1 r
    have hd := intsOf_eq h1
    subst hd
    cases r1 with
    | slst a b c =>
      have hv := repL_ints c
      subst hv
      obtain ⟨g1, g2⟩ := maxZ_ok h3
      refine ⟨_, ns, rfl, SqL.sub h a, List.length_pos_of_mem g1, fun m' hm hle => ?_⟩
      have : m' = m := Int.le_antisymm (g2 m' hm) (hle m g1)
      subst this
      exact q _ Z H (.refl h) (.int _)
  · cases e
end
end DN
namespace DN
open PySem PySem.Spec PyProof.Rows L2 RZ ND
variable {B : Sto}
@[simp] def sAsgI (p : D → Bool) (a : D → Option Asg) (f : Env → M B D) : SEnv → M B Fl := fun ρ => M.bind (f (seeE p ρ)) fun d => guardM d.imm (M.bind (lift (a d)) fun as => M.pure (.nx (setsS ρ as)))
end DN
namespace DN
open PySem PySem.Spec PyProof.Rows L2 RZ ND
variable {B : Sto}
end DN
namespace DN
open PySem PySem.Spec PyProof.Rows L2 RZ ND
def mulS : D → D → Option D
  | .str z, .int n => if 1 ≤ z.length ∧ z.length ≤ 100 ∧ 2 ≤ n ∧ n ≤ 100 ∧ PyData.strOk (Txt.mul z n) = true ∧ (Txt.mul z n).length ≤ sizeLine then some (.str (Txt.mul z n)) else none
  | x, y => mulD x y
end DN
open PySem PySem.Spec PyProof.Rows L2 RZ
namespace DN
section
variable {B : Sto} {cl : CTab} {md : Bool} {W : WX} {X : Cx} {p q : D → Bool} {i : Nat} {x : Str}
@[simp] def sPutL (p q : D → Bool) (i : Nat) (fk f : Env → M B D) : SEnv → M B Fl := fun ρ => match ρ[i]? with
  | some (.own (.lst ds)) => M.bind (f (seeE p ρ)) fun d => M.bind (fk (seeE pHide ρ)) fun y => match y with
    | .int kk => M.bind (lift (ixN ds.length kk)) fun j => guardM (q d && !d.isMut) (M.pure (.nx (ρ.set i (.own (.lst (ds.set j d))))))
    | _ => fun _ => .stuck
  | _ => fun _ => .stuck
end
end DN
namespace DN
open PySem PySem.Spec PyProof.Rows L2 RZ ND
variable {B : Sto}
def noI (i : Nat) (m : M B Fl) : M B Fl := M.bind m fun fl => match fl with
  | .nx ρ => M.pure (.nx (ρ.set i .no))
  | .bk ρ => M.pure (.bk (ρ.set i .no))
  | .ct ρ => M.pure (.ct (ρ.set i .no))
  | o => M.pure o
@[simp] def sTryAs (i : Nat) (F : SEnv → M B Fx) (t : Str → Option Bool) (G : Exn → SEnv → M B Fl) : SEnv → M B Fl := fun ρ => M.bind (noErr (F ρ)) fun r => match r with
  | .fl f => M.pure f
  | .ex x ρ' => if i < ρ'.length then (match t x.c with
    | some true => noI i (noErr (G x (ρ'.set i .no)))
    | some false => fun s => .err x s
    | none => fun _ => .stuck) else fun _ => .stuck
theorem ExR.next {K : PySem.W.Frag} {cl : CTab} {Z Z1 : Zp} {C H C1 H1 : Hp} {x : Exn} {c : Value} {dx : Option Addr} (h : ExR K cl Z C x c dx H) (n : Nx Z C H Z1 C1 H1) : ExR K cl Z1 C1 x c dx H1 := by
  obtain ⟨A, fs, h1, h2, h3⟩ := h
  refine ⟨A, fs, h1, h2, ?_⟩
  cases hf : x.f with
  | none => rw [hf] at h3; exact h3
  | some d =>
    rw [hf] at h3
    obtain ⟨f, v, a, q1, q2, q3, q0, q4, q5⟩ := h3
    refine ⟨f, v, a, q1, q2, n.hh _ _ q3 q0, ?_, q4, q5.mono n.zz d⟩
    cases e : C1 a with
    | none => rfl
    | some o =>
      rcases n.cf a (some_ne e) with z | z
      · exact absurd q0 z
      · rw [q3] at z; cases z
@[simp] def xEf (x : Exn) : Env → M B D := fun _ => match x.f with
  | some d => M.pure d
  | none => fun _ => .stuck
end DN
namespace DN
open PySem PySem.Spec PyProof.Rows L2 RZ ND
variable {B : Sto}
structure Cl1 (B : Sto) where
  t : Str → Option Bool
  o : Option Nat
  G : Exn → SEnv → M B Fl
def hGoN : List (Cl1 B) → Exn → SEnv → M B Fl
  | [], x, _ => fun s => .err x s
  | ⟨t, none, G⟩ :: r, x, ρ => match t x.c with
    | some true => noErr (G x ρ)
    | some false => hGoN r x ρ
    | none => fun _ => .stuck
  | ⟨t, some i, G⟩ :: r, x, ρ => if i < ρ.length then (match t x.c with
    | some true => noI i (noErr (G x (ρ.set i .no)))
    | some false => hGoN r x ρ
    | none => fun _ => .stuck) else fun _ => .stuck
@[simp] def sTryN (F : SEnv → M B Fx) (hs : List (Cl1 B)) : SEnv → M B Fl := fun ρ => M.bind (noErr (F ρ)) fun r => match r with
  | .fl f => M.pure f
  | .ex x ρ' => hGoN hs x ρ'
end DN
namespace DN
open PySem PySem.Spec PyProof.Rows L2 RZ ND
variable {B : Sto}
@[simp] def xIsE (x : Exn) (t : Str → Option Bool) : DN.Env → M B D := fun _ => match t x.c with
  | some b => M.pure (.bl b)
  | none => fun _ => .stuck
end DN
namespace LW
open PySem PySem.Spec PyProof.Rows L2 RZ DN
section
variable {K : PySem.W.Frag} {cl : CTab}
noncomputable def b__law_odd_word : SEnv → M (MemS K cl) Fl := sRet pHide (xIx (xLst (aC (eC (.str "")) (aC (eC (.str "A")) (aC (eC (.str "a b")) (aC (eC (.str "a1")) (aC (xOp mulS (eC (.str "a")) (eC (.int 21))) (aC (eC .non) (aC (eC (.int 5)) (aC (eC (.bl true)) (aC (xLst (aC (eC (.str "a")) (aN))) (aC (xTup (aC (eC (.str "a")) (aN))) (aC (eC (.str "a-")) (aC (xOp mulS (eC (.str "z")) (eC (.int 20))) (aN)))))))))))))) (xCall m__law_pick (aC (eVar 0) (aC (eC (.int 12)) (aN)))))
noncomputable def m__law_odd_word : List D → M (MemS K cl) D := runF 1 b__law_odd_word
noncomputable def b__law_bent : SEnv → M (MemS K cl) Fl := seqF (sSet 2 (xCall m__law_pick (aC (eVar 0) (aC (eC (.int 10)) (aN))))) (seqF (sSet 3 (xCall m__law_pick (aC (eVar 0) (aC (xB lenD (aC (eVar 1) (aN))) (aN))))) (seqF (sSet 4 (xIx (eVar 1) (eVar 3))) (seqF (sIf pHide (tCm eqD (eVar 2) (eC (.int 0))) (sRet pHide (xIx (xLst (aC (eC .non) (aC (xB listD (aC (eVar 1) (aN))) (aC (xTup (aN)) (aC (eC (.str "game")) (aC ((fun _ => M.pure (.dct [] []))) (aC (eC (.int 0)) (aC (xOp mulD (xTup (aC (xTup (aN)) (aN))) (eC (.int 2))) (aC (xTup (aC (xTup (aC (eC (.str "a")) (aN))) (aN))) (aC (xLst (aC (xTup (aN)) (aN))) (aC (eC (.bl true)) (aN)))))))))))) (xCall m__law_pick (aC (eVar 0) (aC (eC (.int 10)) (aN)))))) (sPass)) (seqF (sIf pHide (tCm eqD (eVar 2) (eC (.int 1))) (sRet pHide (xOp addD (xSl (eVar 1) (oN) (oS (eVar 3))) (xSl (eVar 1) (oS (xOp addD (eVar 3) (eC (.int 1)))) (oN)))) (sPass)) (seqF (sIf pHide (tCm eqD (eVar 2) (eC (.int 2))) (sRet pHide (xOp addD (xOp addD (xSl (eVar 1) (oN) (oS (eVar 3))) (xTup (aC (eVar 4) (aN)))) (xSl (eVar 1) (oS (eVar 3)) (oN)))) (sPass)) (seqF (sIf pHide (tCm eqD (eVar 2) (eC (.int 3))) (sRet pHide (xRev (eVar 1))) (sPass)) (seqF (sIf pHide (tCm eqD (eVar 2) (eC (.int 4))) (sRet pHide (xOp addD (xOp addD (xSl (eVar 1) (oN) (oS (eVar 3))) (xTup (aC (xOp addD (eVar 4) (xTup (aC (xCall m__law_odd_word (aC (eVar 0) (aN))) (aN)))) (aN)))) (xSl (eVar 1) (oS (xOp addD (eVar 3) (eC (.int 1)))) (oN)))) (sPass)) (seqF (sIf pHide (tCm eqD (eVar 2) (eC (.int 5))) (sRet pHide (xOp addD (xOp addD (xSl (eVar 1) (oN) (oS (eVar 3))) (xTup (aC (xIx (xLst (aC (xB listD (aC (eVar 4) (aN))) (aC (eC .non) (aC (eC (.str "a")) (aC (eC (.int 0)) (aC (xTup (aC (eVar 4) (aN))) (aN))))))) (xCall m__law_pick (aC (eVar 0) (aC (eC (.int 5)) (aN))))) (aN)))) (xSl (eVar 1) (oS (xOp addD (eVar 3) (eC (.int 1)))) (oN)))) (sPass)) (seqF (sIf pHide (tCm eqD (eVar 2) (eC (.int 6))) (sRet pHide (xB tupleD (aC (xB sortedDD (aC (xOp addD (xB listD (aC (eVar 1) (aN))) (xLst (aC (xOp addD (eVar 4) (xTup (aC (xCall m__law_word (aC (eVar 0) (aN))) (aC (xCall m__law_word (aC (eVar 0) (aN))) (aN))))) (aN)))) (aN))) (aN)))) (sPass)) (sRet pHide (xB tupleD (aC (xB sortedDD (aC (xOp addD (xLc [5] (aName 5) (tCm neD (eVar 5) (eVar 4)) (eVar 5) (iOf anyI (eVar 1))) (xLst (aC (xOp addD (eVar 4) (xTup (aC (xCall m__law_word (aC (eVar 0) (aN))) (aN)))) (aN)))) (aN))) (aN)))))))))))))
end
end LW
namespace LW
open PySem PySem.Spec PyProof.Rows L2 RZ DN
abbrev Rw := List Str
def rD (r : Rw) : D := .tup (r.map .str)
def ltR (a b : Rw) : Prop := ltD (rD a) (rD b) = true
theorem ltR_irr {a : Rw} : ¬ ltR a a := fun h => by unfold ltR at h; rw [ltD_irr] at h; cases h
theorem ltR_trans {a b c : Rw} (h : ltR a b) (g : ltR b c) : ltR a c := ltD_trans h g
theorem ltR_asymm {a b : Rw} (h : ltR a b) (g : ltR b a) : False := ltR_irr (ltR_trans h g)
theorem ltR_long {a b : Rw} (h : b ≠ []) : ltR a (a ++ b) := by
  cases b with
  | nil => exact absurd rfl h
  | cons x b =>
    unfold ltR rD
    rw [List.map_append, List.map_cons]
    exact lt_longer
theorem ltR_nil {a : Rw} (h : a ≠ []) : ltR [] a := ltR_long (a := []) h
theorem asc_nd {l : List Rw} (h : l.Pairwise ltR) : l.Nodup := h.imp fun {a b} h (e : a = b) => ltR_irr (a := a) (by rw [← e] at h; exact h)
def rk (r : Rw) : GK := .inr (r.map .text)
def RowOk (r : Rw) : Prop := r.length ≤ 60 ∧ ∀ w ∈ r, WordOk 20 w
structure Gm (g : List Rw) : Prop where
  asc : g.Pairwise ltR
  nil : [] ∈ g
  pre : ∀ r ∈ g, r.dropLast ∈ g
  len : g.length ≤ 600
  row : ∀ r ∈ g, RowOk r
theorem Gm.nd {g : List Rw} (h : Gm g) : g.Nodup := asc_nd h.asc
theorem Gm.cons {g : List Rw} (h : Gm g) : ∃ g', g = [] :: g' := by
  cases g with
  | nil => exact nomatch h.nil
  | cons r g =>
    rcases List.mem_cons.mp h.nil with e | e
    · exact ⟨g, by rw [e]⟩
    · exfalso
      have h1 := (List.pairwise_cons.mp h.asc).1 _ e
      by_cases hr : r = []
      · exact ltR_irr (by rw [hr] at h1; exact h1)
      · exact ltR_asymm h1 (ltR_nil hr)
theorem pre_take {g : List Rw} (h : ∀ r ∈ g, r.dropLast ∈ g) : ∀ (k : Nat) (r : Rw), r ∈ g → r.length - k ≤ r.length → r.take (r.length - k) ∈ g
  | 0, r, hr, _ => by simpa using hr
  | k + 1, r, hr, _ => by
    have := h _ (pre_take h k r hr (by omega))
    rw [List.dropLast_eq_take, List.length_take, List.take_take] at this
    have e : min (min (r.length - k) r.length - 1) (r.length - k) = r.length - (k + 1) := by omega
    rw [e] at this
    exact this
theorem Gm.take {g : List Rw} (h : Gm g) {r : Rw} (hr : r ∈ g) (k : Nat) : r.take k ∈ g := by
  by_cases hk : k ≤ r.length
  · have := pre_take h.pre (r.length - k) r hr (by omega)
    rw [show r.length - (r.length - k) = k by omega] at this
    exact this
  · rw [List.take_of_length_le (by omega)]; exact hr
end LW
namespace LW
open PySem PySem.Spec PyProof.Rows L2 RZ DN
section
variable {α : Type} [DecidableEq α] {f : α → D} {k : α → GK}
theorem KeyE.putAll (e : KeyE f k) (v : α → D) : ∀ {l L : List α} {vs : List D}, (L ++ l).Nodup → DN.putAll (L.map f) vs (l.map fun x => (f x, v x)) = some (.dct ((L ++ l).map f) (vs ++ l.map v))
  | [], L, vs, _ => by simp [DN.putAll]
  | x :: l, L, vs, nd => by
    have hx : x ∉ L := fun h => by
      rw [List.nodup_append] at nd
      exact nd.2.2 x h x List.mem_cons_self rfl
    obtain ⟨p1, p2⟩ := e.put (vs := vs) (d := v x) hx
    rw [List.map_cons, DN.putAll, e.key, Option.bind_some, if_pos e.ok, p1, p2, KeyE.putAll e v (by rw [List.append_assoc]; exact nd)]
    simp
theorem KeyE.inK (e : KeyE f k) {L : List α} {x : α} {vs : List D} : DN.inK (f x) (.dct (L.map f) vs) = some (.bl (decide (x ∈ L))) := by
  show ((f x).key.bind fun k => if okK (L.map f) k = true then some (D.bl (DN.hasK (L.map f) k)) else none) = _
  rw [e.key, Option.bind_some, if_pos e.ok, e.hasK]
end
end LW
namespace LW
open PySem PySem.Spec PyProof.Rows L2 RZ DN
theorem RowOk.pre {r s : Rw} (h : RowOk s) (p : r <+: s) : RowOk r := ⟨Nat.le_trans p.length_le h.1, fun w hw => h.2 w (p.subset hw)⟩
end LW
namespace LW
open PySem PySem.Spec PyProof.Rows L2 RZ DN
structure GI (L : List Rw) (n : Nat) : Prop where
  nd : L.Nodup
  nil : [] ∈ L
  pre : ∀ r ∈ L, r.dropLast ∈ L
  len : L.length ≤ n
  row : ∀ r ∈ L, r.length < n ∧ ∀ w ∈ r, WordOk 20 w
theorem GI.mono {L : List Rw} {n m : Nat} (h : GI L n) (k : n ≤ m) : GI L m :=
  ⟨h.nd, h.nil, h.pre, Nat.le_trans h.len k, fun r hr => ⟨Nat.lt_of_lt_of_le (h.row r hr).1 k, (h.row r hr).2⟩⟩
theorem GI.app {L : List Rw} {n : Nat} {r : Rw} {w : Str} (h : GI L n) (hr : r ∈ L) (hw : WordOk 20 w) (hn : r ++ [w] ∉ L) : GI (L ++ [r ++ [w]]) (n + 1) where
  nd := by
    rw [List.nodup_append]
    exact ⟨h.nd, by simp, fun a ha b hb e => hn (by rw [List.mem_singleton] at hb; rw [← hb, ← e]; exact ha)⟩
  nil := List.mem_append_left _ h.nil
  pre x hx := by
    rcases List.mem_append.mp hx with hx | hx
    · exact List.mem_append_left _ (h.pre x hx)
    · rw [List.mem_singleton] at hx
      subst hx
      rw [List.dropLast_concat]
      exact List.mem_append_left _ hr
  len := by have := h.len; simp; omega
  row x hx := by
    rcases List.mem_append.mp hx with hx | hx
    · have := h.row x hx; exact ⟨by omega, this.2⟩
    · rw [List.mem_singleton] at hx
      subst hx
      have := h.row r hr
      refine ⟨by simp; omega, fun z hz => ?_⟩
      rcases List.mem_append.mp hz with hz | hz
      · exact this.2 z hz
      · rw [List.mem_singleton] at hz; rw [hz]; exact hw
end LW
namespace LW
open PySem PySem.Spec PyProof.Rows L2 RZ DN
inductive Pl : D → Prop
  | non : Pl .non
  | bl (b : Bool) : Pl (.bl b)
  | int (i : Int) : Pl (.int i)
  | str (z : Str) : Pl (.str z)
  | lst (ds : List D) : Pl (.lst ds)
  | dct (ks ds : List D) : Pl (.dct ks ds)
  | tup (ds : List D) (h : ∀ d ∈ ds, Pl d) : Pl (.tup ds)
end LW
namespace LW
open PySem PySem.Spec PyProof.Rows L2 RZ DN
def isIntD (lo hi : Int) : D → Bool
  | .int i => decide (lo ≤ i) && decide (i ≤ hi)
  | _ => false
mutual
def plB : D → Bool
  | .tup ds => plLB ds
  | .ins _ _ => false
  | .ref _ => false
  | _ => true
def plLB : List D → Bool
  | [] => true
  | d :: ds => plB d && plLB ds
end
mutual
theorem plB_of : ∀ {d : D}, plB d = true → Pl d
  | .non, _ => .non
  | .bl _, _ => .bl _
  | .int _, _ => .int _
  | .str _, _ => .str _
  | .lst _, _ => .lst _
  | .dct _ _, _ => .dct _ _
  | .tup ds, h => .tup ds (plLB_of (by simpa [plB] using h))
  | .ins _ _, h => by simp [plB] at h
  | .ref _, h => by simp [plB] at h
theorem plLB_of : ∀ {ds : List D}, plLB ds = true → ∀ d ∈ ds, Pl d
  | [], _, d, hd => nomatch hd
  | e :: ds, h, d, hd =>
    have h2 : plB e = true ∧ plLB ds = true := by simpa [plLB] using h
    have h3 : Pl e := plB_of h2.1
    (List.mem_cons.mp hd).elim (fun q => q ▸ h3) (fun q => plLB_of h2.2 d q)
end
end LW
namespace LW
open PySem PySem.Spec PyProof.Rows L2 RZ DN
section
variable {K : PySem.W.Frag} {cl : CTab}
noncomputable def b__law_int : SEnv → M (MemS K cl) Fl := sRet pHide (xAn (xUn (isD "int") (eVar 0)) (xAn (xNt (xUn (isD "bool") (eVar 0))) (xAn (xOp leI (eVar 1) (eVar 0)) (xOp leI (eVar 0) (eVar 2)))))
noncomputable def m__law_int : List D → M (MemS K cl) D := runF 3 b__law_int
end
end LW
namespace DN
open PySem PySem.Spec PyProof.Rows L2 RZ ND
variable {B : Sto}
mutual
def D.pq : D → PyData
  | .non => .none
  | .bl b => .bool b
  | .int i => .int i
  | .str x => .str x
  | .tup xs => .tuple (D.pqL xs)
  | .lst xs => .list (D.pqL xs)
  | .dct ks ds => .dict ((D.pqL ks).zip (D.pqL ds))
  | _ => .dict []
def D.pqL : List D → List PyData
  | [] => []
  | d :: ds => d.pq :: D.pqL ds
end
mutual
theorem pq_plain : ∀ d : D, d.plain = true → d.pq = d.py
  | .non, _ => by simp only [D.pq, D.py]
  | .bl b, _ => by simp only [D.pq, D.py]
  | .int i, _ => by simp only [D.pq, D.py]
  | .str x, _ => by simp only [D.pq, D.py]
  | .tup xs, h => by simp only [D.pq, D.py]; rw [pqL_plain xs (by simpa [D.plain] using h)]
  | .lst xs, h => by simp only [D.pq, D.py]; rw [pqL_plain xs (by simpa [D.plain] using h)]
  | .dct ks ds, h => by simp [D.plain] at h
  | .ins c ds, h => by simp [D.plain] at h
  | .ref a, h => by simp [D.plain] at h
theorem pqL_plain : ∀ ds : List D, D.plainL ds = true → D.pqL ds = D.pyL ds
  | [], _ => by simp only [D.pqL, D.pyL]
  | d :: ds, h => by
    have h2 : d.plain = true ∧ D.plainL ds = true := by simpa [D.plainL] using h
    simp only [D.pqL, D.pyL]
    rw [pq_plain d h2.1, pqL_plain ds h2.2]
end
def D.low : D → Bool
  | .int _ => true
  | .str _ => true
  | _ => false
mutual
def D.rp2 : D → Bool
  | .tup xs => D.rp2L xs
  | .dct ks ds => ks.all D.low && (decide (ks.length = ds.length) && D.rp2L ds)
  | .non => true
  | .bl _ => true
  | .int _ => true
  | .str _ => true
  | _ => false
def D.rp2L : List D → Bool
  | [] => true
  | d :: ds => d.rp2 && D.rp2L ds
end
mutual
def D.sh : D → Bool
  | .non => true
  | .bl _ => true
  | .int i => decide (i.natAbs < 10 ^ 12)
  | .str x => x.cps.toList.all fun c => decide (c < 128)
  | .tup xs => D.shL xs
  | .lst xs => D.shL xs
  | .dct ks ds => D.shL ks && D.shL ds
  | _ => false
def D.shL : List D → Bool
  | [] => true
  | d :: ds => d.sh && D.shL ds
end
def D.shows (d : D) : Bool := (d.plain || d.rp2) && (d.sh && (decide (d.pq.depth ≤ 60) && decide (d.pq.weight ≤ 2 ^ 20)))
def reprD : List D → Option D
  | [d] => if d.shows = true then some (.str d.pq.shown) else none
  | _ => none
theorem zipP_fst : ∀ {xs ys : List PyData}, xs.length = ys.length → (xs.zip ys).map (·.1) = xs
  | [], [], _ => rfl
  | x :: xs, y :: ys, h => by simp [zipP_fst (xs := xs) (ys := ys) (by simpa using h)]
theorem zipP_snd : ∀ {xs ys : List PyData}, xs.length = ys.length → (xs.zip ys).map (·.2) = ys
  | [], [], _ => rfl
  | x :: xs, y :: ys, h => by simp [zipP_snd (xs := xs) (ys := ys) (by simpa using h)]
def keyP : Key → PyData
  | .inl i => .int i
  | .inr x => .str x
mutual
inductive Dq (K : PySem.W.Frag) (H : Hp) : V → PyData → Prop
  | non : Dq K H .non .none
  | bl (b : Bool) : Dq K H (.bl b) (.bool b)
  | int (i : Int) : Dq K H (.int i) (.int i)
  | str (x : Str) : Dq K H (.str x) (.str x)
  | tup {a : Addr} {xs : List V} {ds : List PyData} : SqT K H a xs → DqAll K H xs ds → Dq K H (.ref a) (.tuple ds)
  | dct {a : Addr} {l : List (Key × V)} {ps qs : List PyData} : Rd H a (.dK l) → ps = l.map (fun p => keyP p.1) → DqAll K H (l.map (·.2)) qs → Dq K H (.ref a) (.dict (ps.zip qs))
inductive DqAll (K : PySem.W.Frag) (H : Hp) : List V → List PyData → Prop
  | nil : DqAll K H [] []
  | cons {v : V} {vs : List V} {d : PyData} {ds : List PyData} : Dq K H v d → DqAll K H vs ds → DqAll K H (v :: vs) (d :: ds)
end
section
variable {X : Cx} {pins : List (Addr × Obj)} {σ : L2.St} {H : Hp} {s : Shared}
theorem keys_read {h : Heap} : ∀ {es : List DictEntry} {kvs : List (Key × Value)}, Pairs (mixKind X.prog X.w) es kvs → ∃ as, ReadsAll h (es.map (·.key)) (kvs.map fun p => keyP p.1) as ∧ sysModules ∉ as
  | _, _, .nil => ⟨[], .nil, fun m => nomatch m⟩
  | _, _, .cons (e := e) (kv := kv) h1 h2 t => by
    obtain ⟨as, r, n⟩ := keys_read t
    have h1 : keyIs kv.1 e.key = true := h1
    rcases keyIs_shape h1 with ⟨i, tk, e1, e2⟩ | ⟨x, tk, e1, e2⟩
    · refine ⟨[] ++ as, ?_, by simpa using n⟩
      show ReadsAll _ (e.key :: _) (keyP kv.1 :: _) _
      rw [e1, e2]
      exact .cons (.int i tk) r
    · refine ⟨[] ++ as, ?_, by simpa using n⟩
      show ReadsAll _ (e.key :: _) (keyP kv.1 :: _) _
      rw [e1, e2]
      exact .cons (.str x tk) r
theorem rAll_len {h : Heap} : ∀ {us : List Value} {ds : List PyData} {as : List Addr}, ReadsAll h us ds as → us.length = ds.length
  | _, _, _, .nil => rfl
  | _, _, _, .cons _ t => by rw [List.length_cons, List.length_cons, rAll_len t]
theorem vals_of_pairs : ∀ {es : List DictEntry} {kvs : List (Key × Value)}, Pairs (mixKind X.prog X.w) es kvs → es.map (·.val) = kvs.map (·.2)
  | _, _, .nil => rfl
  | _, _, .cons h1 h2 t => by rw [List.map_cons, List.map_cons, h2, vals_of_pairs t]
theorem kv_keys : ∀ {l : List (Key × V)} {vs : List (Key × Value)}, KV l vs → l.map (fun p => keyP p.1) = vs.map fun p => keyP p.1
  | _, _, .nil => rfl
  | _, _, .cons h t => by rw [List.map_cons, List.map_cons, h.1, kv_keys t]
theorem kv_vals : ∀ {l : List (Key × V)} {vs : List (Key × Value)}, KV l vs → Vals (l.map (·.2)) (vs.map (·.2))
  | _, _, .nil => .nil
  | _, _, .cons h t => .cons h.2 (kv_vals t)
mutual
theorem Dq.reads (I : Inv X pins σ H s) : ∀ {v : V} {d : PyData}, Dq X.K H v d → ∀ (u : Value), RelV v u → ∃ as, Reads s.heap u d as ∧ sysModules ∉ as
  | _, _, .non, _, r => by cases r; exact ⟨_, .none, fun m => nomatch m⟩
  | _, _, .bl b, _, r => by cases r; exact ⟨_, .bool b, fun m => nomatch m⟩
  | _, _, .int i, _, r => by obtain ⟨t, rfl⟩ := r; exact ⟨_, .int i t, fun m => nomatch m⟩
  | _, _, .str x, _, r => by obtain ⟨t, rfl⟩ := r; exact ⟨_, .str x t, fun m => nomatch m⟩
  | _, _, .tup hs ha, _, r => by
    cases r
    obtain ⟨its, rv, ⟨o, ho, hc, n, hd⟩, _⟩ := I.tuple hs
    obtain ⟨as, hr, hn⟩ := Dq.readsAll I ha _ rv
    exact ⟨as, .tuple ho hc hd hr, hn⟩
  | _, _, .dct (a := a) (l := l) (ps := ps) (qs := qs) hd hp ha, _, r => by
    cases r
    have ob : ObjOk X.prog X.w H s.heap a (.dK l) := by
      rcases hd with h | ⟨o, h⟩
      · exact I.hok a _ h
      · exact (I.hok a _ h).2
    obtain ⟨_, ne, vs, kv, dict⟩ := ob
    obtain ⟨o, es, ep, ho, hx, hd, _, hpr, _⟩ := dict
    obtain ⟨as, r1, n1⟩ := keys_read (X := X) (h := s.heap) hpr
    obtain ⟨bs, r2, n2⟩ := Dq.readsAll I ha (vs.map (·.2)) (kv_vals kv)
    rw [← kv_keys kv] at r1
    rw [← vals_of_pairs hpr] at r2
    have ln : ps.length = qs.length := by
      have l1 := rAll_len r1
      have l2 := rAll_len r2
      rw [hp]
      simp at l1 l2 ⊢
      omega
    refine ⟨a :: as ++ bs, .dict ho hx.1 hd (by rw [zipP_fst ln, hp]; exact r1) (by rw [zipP_snd ln]; exact r2), fun m => ?_⟩
    simp only [List.cons_append, List.mem_cons, List.mem_append] at m
    rcases m with m | m | m
    · rw [← m] at ne
      simp at ne
    · exact n1 m
    · exact n2 m
theorem Dq.readsAll (I : Inv X pins σ H s) : ∀ {vs : List V} {ds : List PyData}, DqAll X.K H vs ds → ∀ (us : List Value), Vals vs us → ∃ as, ReadsAll s.heap us ds as ∧ sysModules ∉ as
  | _, _, .nil, _, r => by cases r; exact ⟨[], .nil, fun m => nomatch m⟩
  | _, _, .cons h1 h2, _, r => by
    cases r with
    | cons r1 r2 =>
      obtain ⟨a1, q1, n1⟩ := Dq.reads I h1 _ r1
      obtain ⟨a2, q2, n2⟩ := Dq.readsAll I h2 _ r2
      exact ⟨a1 ++ a2, .cons q1 q2, fun m => (List.mem_append.mp m).elim n1 n2⟩
end
end
section
variable {K : PySem.W.Frag} {cl : CTab} {Z : Zp} {H : Hp}
theorem low_keys : ∀ {l : List (Key × V)} {ks : List D}, ks = l.map (fun p => keyD1 p.1) → D.pqL ks = l.map fun p => keyP p.1
  | [], _, e => by rw [e]; simp [D.pqL]
  | (.inl i, v) :: l, _, e => by
    have ih := low_keys (l := l) rfl
    rw [e]
    show D.pqL (.int i :: l.map fun p => keyD1 p.1) = .int i :: l.map fun p => keyP p.1
    rw [D.pqL, ih, D.pq]
  | (.inr x, v) :: l, _, e => by
    have ih := low_keys (l := l) rfl
    rw [e]
    show D.pqL (.str x :: l.map fun p => keyD1 p.1) = .str x :: l.map fun p => keyP p.1
    rw [D.pqL, ih, D.pq]
mutual
theorem Rep.dq (h : Sub Z H) : ∀ (d : D) {v : V}, d.rp2 = true → Rep K cl Z v d → Dq K H v d.pq
  | .non, _, _, r => by cases r; simp only [D.pq]; exact .non
  | .bl b, _, _, r => by cases r; simp only [D.pq]; exact .bl b
  | .int i, _, _, r => by cases r; simp only [D.pq]; exact .int i
  | .str x, _, _, r => by cases r; simp only [D.pq]; exact .str x
  | .tup ds, _, p, r => by
    cases r with
    | tup a e b => simp only [D.pq]; exact .tup (sq_t (h _ _ a)) (RepL.dq h ds (by simpa [D.rp2] using p) b)
  | .lst ds, _, p, r => by simp [D.rp2] at p
  | .dct ks ds, _, p, r => by
    have p3 : ks.all D.low = true ∧ ks.length = ds.length ∧ D.rp2L ds = true := by simpa [D.rp2] using p
    cases r with
    | dct a dk b n c =>
      rename_i a' o kvs
      rcases dk with ⟨l, h1, h2⟩ | ⟨l, h0, h1, h2, h3⟩
      · subst h1
        have hk : ks = l.map fun p => keyD1 p.1 := by rw [b, h2, List.map_map]; rfl
        have hv : kvs.map (·.2) = l.map (·.2) := by rw [h2, List.map_map]; rfl
        rw [hv] at c
        simp only [D.pq]
        exact .dct (sub_rd h a) (low_keys hk) (RepL.dq h ds p3.2.2 c)
      · exfalso
        cases l with
        | nil => exact h0 rfl
        | cons q l =>
          rw [h2] at b
          have : D.low (keyD (.inr q.1)) = true := List.all_eq_true.mp p3.1 _ (by rw [b]; simp)
          exact absurd this (by simp [keyD, D.low])
  | .ins c ds, _, p, r => by simp [D.rp2] at p
  | .ref a, _, p, r => by simp [D.rp2] at p
theorem RepL.dq (h : Sub Z H) : ∀ (ds : List D) {vs : List V}, D.rp2L ds = true → RepL K cl Z vs ds → DqAll K H vs (D.pqL ds)
  | [], _, _, r => by cases r; simp only [D.pqL]; exact .nil
  | d :: ds, _, p, r => by
    have p2 : d.rp2 = true ∧ D.rp2L ds = true := by simpa [D.rp2L] using p
    cases r with
    | cons a b => simp only [D.pqL]; exact .cons (Rep.dq h d p2.1 a) (RepL.dq h ds p2.2 b)
end
end
def Sho (K : PySem.W.Frag) (H : Hp) (v : V) (d : PyData) : Prop := (Dp K H v d ∨ Dq K H v d) ∧ d.showable = true ∧ d.depth ≤ 60 ∧ d.shown.length ≤ sizeLine
def rRepr (K : PySem.W.Frag) : List V → Hp → VK → Prop := fun xs H Q => ∃ v d, xs = [v] ∧ Sho K H v d ∧ Q (.str d.shown) H
mutual
theorem Dp.noDict {K : PySem.W.Frag} {H : Hp} : ∀ (d : PyData) (v : V), Dp K H v d → d.hasDict = false
  | .none, _, _ => by simp only [PyData.hasDict]
  | .bool b, _, _ => by simp only [PyData.hasDict]
  | .int i, _, _ => by simp only [PyData.hasDict]
  | .str x, _, _ => by simp only [PyData.hasDict]
  | .list ds, _, h => by cases h with | lst _ a => simp only [PyData.hasDict]; exact Dp.noDictL ds _ a
  | .tuple ds, _, h => by cases h with | tup _ a => simp only [PyData.hasDict]; exact Dp.noDictL ds _ a
  | .dict kvs, _, h => by cases h
theorem Dp.noDictL {K : PySem.W.Frag} {H : Hp} : ∀ (ds : List PyData) (vs : List V), DpAll K H vs ds → PyData.hasDictAll ds = false
  | [], _, _ => by simp only [PyData.hasDictAll]
  | d :: ds, _, h => by
    cases h with
    | cons a b => simp only [PyData.hasDictAll, Dp.noDict d _ a, Dp.noDictL ds _ b, Bool.or_self]
end
def sOk (x : Str) : Prop := ∀ c ∈ x.cps.toList, c < 1114112
theorem sOk_app {a b : Str} (h1 : sOk a) (h2 : sOk b) : sOk (a ++ b) := by
  intro c h
  have h : c ∈ (a.cps ++ b.cps).toList := h
  rw [Array.toList_append, List.mem_append] at h
  exact h.elim (h1 c) (h2 c)
theorem sOk_of (s : String) : sOk (Str.ofString s) := by
  intro c h
  rw [Str.ofString_eq_toList] at h
  have h : c ∈ s.toList.map Char.toNat := by simpa using h
  obtain ⟨k, _, rfl⟩ := List.mem_map.mp h
  have v := k.valid
  have e : k.toNat = k.val.toNat := rfl
  rw [e]
  rcases v with v | ⟨_, v⟩
  · have v : k.val.toNat < 55296 := v
    omega
  · have v : k.val.toNat < 1114112 := v
    exact v
theorem sOk_join {sep : Str} (hs : sOk sep) : ∀ xs : List Str, (∀ x ∈ xs, sOk x) → sOk (Str.join sep xs)
  | [], _ => fun c h => by cases (show c ∈ ([] : List Nat) from h)
  | [x], h => h x (List.mem_cons_self ..)
  | x :: y :: r, h => sOk_app (sOk_app (h x (List.mem_cons_self ..)) hs) (sOk_join hs (y :: r) fun z hz => h z (List.mem_cons_of_mem _ hz))
theorem sOk_textFrom : ∀ (ts : List Str) (k : Nat) (acc : Str), sOk acc → (∀ t ∈ ts, sOk t) → sOk (textFrom k acc ts)
  | [], _, _, h, _ => h
  | t :: r, k, acc, h, ht => sOk_textFrom r (k + 1) _ (sOk_app (sOk_app h (by split <;> exact sOk_of _)) (ht t (List.mem_cons_self ..))) fun z hz => ht z (List.mem_cons_of_mem _ hz)
theorem sOk_reprChar {q c : Nat} (hc : c < 1114112) : ∀ d ∈ Builtin.Str.reprChar q c, d < 1114112 := by
  have hx : ∀ w : Nat, ∀ d ∈ List.replicate (w - ((Nat.toDigits 16 c).map Char.toNat).length) 48 ++ (Nat.toDigits 16 c).map Char.toNat, d < 1114112 := by
    intro w d hd
    rcases List.mem_append.mp hd with h | h
    · rw [(List.mem_replicate.mp h).2]; omega
    · obtain ⟨k, _, rfl⟩ := List.mem_map.mp h
      have := sOk_of (String.singleton k) k.toNat (by rw [Str.ofString_eq_toList]; simp)
      exact this
  intro d hd
  unfold Builtin.Str.reprChar at hd
  dsimp only at hd
  repeat' split at hd
  all_goals first
    | (rcases List.mem_append.mp hd with h | h
       · simp at h; omega
       · exact hx _ d h)
    | (simp at hd; omega)
theorem sOk_repr {x : Str} (h : sOk x) : sOk (reprText x) := by
  have q : ∀ x : Str, reprQuote x < 1114112 := fun x => by
    unfold reprQuote
    split <;> omega
  have go : ∀ (l : List Nat) (acc : Array Nat), (∀ c ∈ l, c < 1114112) → (∀ c ∈ acc.toList, c < 1114112) → ∀ c ∈ (l.foldl (fun out c => out ++ (Builtin.Str.reprChar (reprQuote x) c).toArray) acc).toList, c < 1114112 := by
    intro l
    induction l with
    | nil => intro acc _ h; exact h
    | cons a l ih =>
      intro acc h1 h2
      refine ih _ (fun c hc => h1 c (List.mem_cons_of_mem _ hc)) fun c hc => ?_
      rw [Array.toList_append, List.mem_append] at hc
      rcases hc with hc | hc
      · exact h2 c hc
      · exact sOk_reprChar (h1 a (List.mem_cons_self ..)) c (by simpa using hc)
  intro c hc
  unfold reprText at hc
  rw [← Array.foldl_toList, Array.toList_push, List.mem_append] at hc
  rcases hc with hc | hc
  · refine go _ _ h ?_ c hc
    intro c hc
    have e : c = reprQuote x := by simpa using hc
    rw [e]; exact q x
  · have e : c = reprQuote x := by simpa using hc
    rw [e]; exact q x
theorem kv_sOk : ∀ (ks ds : List PyData), (∀ t ∈ PyData.shownAll ks, sOk t) → (∀ t ∈ PyData.shownAll ds, sOk t) → ∀ t ∈ PyData.shownKv (ks.zip ds), sOk t
  | [], _, _, _ => fun t ht => by simp [PyData.shownKv] at ht
  | _ :: _, [], _, _ => fun t ht => by simp [PyData.shownKv] at ht
  | k :: ks, d :: ds, h1, h2 => by
    intro t ht
    simp only [PyData.shownAll, List.mem_cons, forall_eq_or_imp] at h1 h2
    simp only [List.zip_cons_cons, PyData.shownKv, List.mem_cons] at ht
    rcases ht with rfl | ht
    · exact sOk_app (sOk_app h1.1 (sOk_of _)) h2.1
    · exact kv_sOk ks ds h1.2 h2.2 t ht
theorem kv_fit : ∀ (ks ds : List PyData), PyData.showableAll ks = true ∧ PyData.leavesShortAll 13 ks = true → PyData.showableAll ds = true ∧ PyData.leavesShortAll 13 ds = true → PyData.showableKv (ks.zip ds) = true ∧ PyData.leavesShortKv 13 (ks.zip ds) = true
  | [], _, _, _ => by simp [PyData.showableKv, PyData.leavesShortKv]
  | _ :: _, [], _, _ => by simp [PyData.showableKv, PyData.leavesShortKv]
  | k :: ks, d :: ds, h1, h2 => by
    simp only [PyData.showableAll, PyData.leavesShortAll, Bool.and_eq_true] at h1 h2
    have h := kv_fit ks ds ⟨h1.1.2, h1.2.2⟩ ⟨h2.1.2, h2.2.2⟩
    simp [PyData.showableKv, PyData.leavesShortKv, h1.1.1, h1.2.1, h2.1.1, h2.2.1, h.1, h.2]
mutual
theorem sh_sOk : ∀ d : D, d.sh = true → sOk d.pq.shown
  | .non, _ => sOk_of _
  | .bl b, _ => by simp only [D.pq, PyData.shown]; cases b <;> exact sOk_of _
  | .int i, _ => by simp only [D.pq, PyData.shown]; exact sOk_of _
  | .str x, h => by
    simp only [D.pq, PyData.shown]
    refine sOk_repr fun c hc => ?_
    simp only [D.sh, List.all_eq_true, decide_eq_true_eq] at h
    have := h c hc
    omega
  | .tup xs, h => by
    simp only [D.pq, PyData.shown, tupleText]
    refine sOk_app (sOk_app (sOk_of _) (sOk_join (sOk_of _) _ (shL_sOk xs (by simpa [D.sh] using h)))) ?_
    split <;> exact sOk_of _
  | .lst xs, h => by
    simp only [D.pq, PyData.shown, listText]
    exact sOk_app (sOk_textFrom _ _ _ (sOk_of _) (shL_sOk xs (by simpa [D.sh] using h))) (sOk_of _)
  | .dct ks ds, h => by
    have h2 : D.shL ks = true ∧ D.shL ds = true := by simpa [D.sh] using h
    simp only [D.pq, PyData.shown, dictText]
    exact sOk_app (sOk_app (sOk_of _) (sOk_join (sOk_of _) _ (kv_sOk _ _ (shL_sOk ks h2.1) (shL_sOk ds h2.2)))) (sOk_of _)
  | .ins c ds, h => by simp [D.sh] at h
  | .ref a, h => by simp [D.sh] at h
theorem shL_sOk : ∀ ds : List D, D.shL ds = true → ∀ t ∈ PyData.shownAll (D.pqL ds), sOk t
  | [], _ => fun t ht => by simp [D.pqL, PyData.shownAll] at ht
  | d :: ds, h => by
    have h2 : d.sh = true ∧ D.shL ds = true := by simpa [D.shL] using h
    intro t ht
    simp only [D.pqL, PyData.shownAll, List.mem_cons] at ht
    rcases ht with rfl | ht
    · exact sh_sOk d h2.1
    · exact shL_sOk ds h2.2 t ht
end
mutual
theorem sh_fit : ∀ d : D, d.sh = true → d.pq.showable = true ∧ d.pq.leavesShort 13 = true
  | .non, _ => by simp [D.pq, PyData.showable, PyData.leavesShort]
  | .bl b, _ => by simp [D.pq, PyData.showable, PyData.leavesShort]
  | .int i, h => by
    simp only [D.sh, decide_eq_true_eq] at h
    simp only [D.pq, PyData.showable, PyData.leavesShort, decide_eq_true_eq]
    refine ⟨?_, PyData.shown_int_le h⟩
    by_cases z : i.natAbs = 0
    · rw [z]; decide
    · exact (Nat.log2_lt z).mpr (Nat.lt_trans h (by decide +kernel))
  | .str x, h => by
    simp only [D.sh, List.all_eq_true, decide_eq_true_eq] at h
    simp only [D.pq, PyData.showable, PyData.leavesShort, List.all_eq_true, decide_eq_true_eq, true_and]
    exact fun c hc => Nat.lt_trans (h c hc) (by decide)
  | .tup xs, h => by simp only [D.pq, PyData.showable, PyData.leavesShort]; exact shL_fit xs (by simpa [D.sh] using h)
  | .lst xs, h => by simp only [D.pq, PyData.showable, PyData.leavesShort]; exact shL_fit xs (by simpa [D.sh] using h)
  | .dct ks ds, h => by
    have h2 : D.shL ks = true ∧ D.shL ds = true := by simpa [D.sh] using h
    simp only [D.pq, PyData.showable, PyData.leavesShort]
    exact kv_fit _ _ (shL_fit ks h2.1) (shL_fit ds h2.2)
  | .ins c ds, h => by simp [D.sh] at h
  | .ref a, h => by simp [D.sh] at h
theorem shL_fit : ∀ ds : List D, D.shL ds = true → PyData.showableAll (D.pqL ds) = true ∧ PyData.leavesShortAll 13 (D.pqL ds) = true
  | [], _ => by simp [D.pqL, PyData.showableAll, PyData.leavesShortAll]
  | d :: ds, h => by
    have h2 : d.sh = true ∧ D.shL ds = true := by simpa [D.shL] using h
    have a := sh_fit d h2.1
    have b := shL_fit ds h2.2
    simp [D.pqL, PyData.showableAll, PyData.leavesShortAll, a.1, a.2, b.1, b.2]
end
section
variable {X : Cx}
theorem call_repr (hg : X.A.guards = some []) (hu : X.A.units + 65 < cLine) : CallR X (.builtin "repr") (rRepr X.K) := by
  intro pins s σ H xs us Q I r h
  obtain ⟨v, d, rfl, ⟨hd, h1, h2, h3⟩, q⟩ := h
  cases r with
  | cons rv rr =>
    cases rr
    rename_i u
    have fin : ∀ (h' : Heap) (t : Tok) (tk : Nat), (∀ b o, s.heap.get? b = some o → h'.get? b = some o) → EP X pins σ Q (.str d.shown t) { s with heap := h', toks := tk } := fun h' t tk k =>
      ⟨.str d.shown, H, I.kept k, ⟨t, rfl⟩, q⟩
    have rd : ∃ as, Reads s.heap u d as ∧ (d.hasDict = true → sysModules ∉ as) := by
      rcases hd with hd | hd
      · obtain ⟨as, hr⟩ := Dp.reads I d v u hd rv
        exact ⟨as, hr, fun z => by rw [Dp.noDict d v hd] at z; cases z⟩
      · obtain ⟨as, hr, hn⟩ := Dq.reads I hd u rv
        exact ⟨as, hr, fun _ => hn⟩
    obtain ⟨as, hr, hn⟩ := rd
    cases hr with
    | none => exact P.repr_of_none (fin _ _ _ fun _ _ z => z)
    | bool b => exact P.repr_of_bool (fin _ _ _ fun _ _ z => z)
    | int i t => exact P.repr_of_int (by simpa [PyData.showable] using h1) (fin _ _ _ fun _ _ z => z)
    | str x t => exact P.repr_of_str (fin _ _ _ fun _ _ z => z) h3
    | list a1 a2 a3 a4 => exact repr_of_reads' (.list a1 a2 a3 a4) h1 hn hg (by omega) (fun _ _ z => z) (fun h' u tk k => fin h' u tk k) h3
    | tuple a1 a2 a3 a4 => exact repr_of_reads' (.tuple a1 a2 a3 a4) h1 hn hg (by omega) (fun _ _ z => z) (fun h' u tk k => fin h' u tk k) h3
    | dict a1 a2 a3 a4 a5 => exact repr_of_reads' (.dict a1 a2 a3 a4 a5) h1 hn hg (by omega) (fun _ _ z => z) (fun h' u tk k => fin h' u tk k) h3
theorem v_repr {K : PySem.W.Frag} {cl : CTab} : CallV K cl (rRepr K) reprD := by
  intro Z H xs dxs d Q h r e q
  match dxs, r with
  | [], _ => cases e
  | _ :: _ :: _, _ => cases e
  | [x], r =>
    cases r with
    | cons rv rr =>
      cases rr
      rename_i v
      simp only [reprD] at e
      split at e
      · rename_i hs
        obtain rfl := Option.some.inj e
        simp only [D.shows, Bool.and_eq_true, Bool.or_eq_true, decide_eq_true_eq] at hs
        obtain ⟨h1, h2, h3, h4⟩ := hs
        obtain ⟨f1, f2⟩ := sh_fit x h2
        have f3 := PyData.shown_fits (by decide) (by decide) f2 h4
        refine ⟨v, x.pq, rfl, ⟨?_, f1, h3, f3⟩, q _ Z H (.refl h) (.str f3 ?_)⟩
        · rcases h1 with h1 | h1
          · rw [pq_plain x h1]
            exact .inl (Rep.dp h x h1 rv).1
          · exact .inr (Rep.dq h x h1 rv)
        · have ok := sh_sOk x h2
          unfold PyData.strOk
          rw [← Array.all_toList, List.all_eq_true]
          exact fun c hc => decide_eq_true (ok c hc)
      · cases e
end
end DN
namespace DN
open PySem PySem.Spec PyProof.Rows L2 RZ ND
def TopOk (P : Program) (w : World) (K : PySem.W.Frag) (mg : Str → Option Value) (base : Heap) (CX : CXT) (k : Nat) (f : Addr) (fd : FuncData) (ps : List Str) (sp : Sp) : Prop :=
  ∀ (s : Shared) (H : Hp) (ar : Args) (us : List Value) (vs : List V) (Q : VK) (E : XK), Room k callerA → Env0 P w K mg base callerA [] s H → BindsTo s fd ar (ps.zip us) → Vals vs us → sp vs H Q E →
    codeAny (model P w) callerA (.call (.ref f) ar) (CR CX [] P w H s Q E) s
section
variable {P : Program} {w : World} {K : PySem.W.Frag} {mg : Str → Option Value} {base : Heap}
theorem _root_.L2.Fun.okT {x qual : Str} {st : Stmt} {f : Addr} {fd : FuncData} {N ps : List Str} {k : Nat} {sp : Sp} (F : Fun K x qual st f fd) (S : FnScope N ps (defScope st))
    (len : ∀ vs H Q E, sp vs H Q E → vs.length = ps.length)
    (hbody : ∀ (cdv : Value) (A : Around) (s : Shared) (H : Hp) (vs : List V) (Q : VK) (E : XK), A.guards = some [] → Room k (A.deeper (envOfC qual (defScope st) s.heap.objs.size f cdv)) → sp vs H Q E →
      ∃ t, PSs (cxOf (L2.CX P w) P w K mg base N qual (defScope st) f cdv A [] s H E) (defBody st) t ∧ t { nx := fun _ H' => Q .non H', rt := Q } (start N vs) H) :
    TopOk P w K mg base (L2.CX P w) (k + 1) f fd ps sp := by
  obtain ⟨oc, od, kV, doc, pm, an, cdv, ct, osl, rfl, lk, hcd⟩ := F.ex
  intro s H ar us vs Q E room env bi rel hsp
  have ln := len vs H Q E hsp
  have kin : K.In s.heap := env.mod.kin.keeps fun b o e => (env.bs b o e).1
  have nol : s.heap.NoLimit := env.mod.nolimit.keeps fun b o e => (env.bs b o e).1
  have kinds : ∀ z ∈ ps.zip us, (defScope st).names.lookup z.1 = some .local ∨ ((defScope st).names.lookup z.1 = some .cell ∧ ((cellsFrom (s.heap.objs.size + 1) (defScope st).names []).lookup z.1).isSome = true) := by
    rintro ⟨n, v⟩ hz
    rcases S.par n (List.of_mem_zip hz).1 with h | h
    · left; exact h
    · right; exact ⟨h, PySem.W.cellsFrom_some _ _ _ (.inl h)⟩
  refine codeAny_call_function room.depth (kin _ _ lk) rfl S.co S.gen rfl (PySem.W.codeRec_of kin hcd) (bi _ _ _ _ ?_)
  refine wpAny_newFunctionEnv_cells S.kind kinds fun e2 he s1 x => ?_
  subst he
  refine ⟨nol.keeps x.toInCall.keep, codeAny_func ?_⟩
  obtain ⟨t, ht, hq⟩ := hbody cdv callerA s H vs Q E rfl (room.deeper _) hsp
  have I := inv_start (CX := L2.CX P w) (base := base) (qual := qual) (E := E) (cd := cdv) S room.hd env ln rel x
  have fin : ∀ {σ1 : L2.St} {H1 : Hp} {v : V} {u : Value} {s2 : Shared}, Inv (cxOf (L2.CX P w) P w K mg base N qual (defScope st) f cdv callerA [] s H E) [] σ1 H1 s2 → RelV v u → Q v H1 → CE [] P w H s Q u s2 :=
    fun {_ H1 v _ _} J rv q => ⟨v, H1, J.os, J.bare, J.base, J.hok, rv, q⟩
  refine wpAny_mono (ht.run [] s1 (start N vs) H _ I hq) ?_ fun _ _ h => h
  intro fl s2 h
  match fl, h with
  | .ret u, ⟨v, σ1, H1, J, rv, q⟩ => exact fin J rv q
  | .next, ⟨σ1, H1, J, q⟩ => exact fin (v := V.non) (u := Value.none) J rfl q
  | .brk, ⟨_, _, _, q⟩ => exact q.elim
  | .cont, ⟨_, _, _, q⟩ => exact q.elim
end
section
variable {P : Program} {w : World} {K : PySem.W.Frag} {mg mb : Str → Option Value} {CX : CXT} {k : Nat} {fa a : Addr} {fd : FuncData} {x : Str} {sp : Sp} {s₁ : Shared} {vs : List Value} {ns : List Int}
theorem top_call (kin : K.In s₁.heap) (hns : s₁.heap.Ns mainGlobals mg) (hb : s₁.heap.Ns builtinsNs mb) (hbb : ∀ x : Str, x ≠ "__name__" → mb x = bootBuiltins x) (hlim : s₁.heap.NoLimit) (hg : s₁.gens = #[])
    (ha : s₁.heap.get? a = some { cls := .type "list", data := .seq vs.toArray }) (hi : IntsAre vs ns) (hl : ns.length ≤ sizeLine) (room : Room k callerA)
    (F : ∀ base : Heap, K.In base → base.Ns mainGlobals mg → TopOk P w K mg base CX k fa fd [x] sp) (hbind : ∀ (s : Shared) (u : Value), BindsTo s fd ⟨[u], []⟩ [(x, u)])
    (hsp : ∀ H : Hp, Only H → SqL K H a (ns.map V.int) → sp [.ref a] H (fun v _ => v = .bl true) fun _ _ _ => False)
    (hCX : ∀ H e s', CX [] H s₁ (fun _ _ _ => False) e s' → False) :
    codeAny (model P w) callerA (.call (.ref fa) ⟨[.ref a], []⟩) (fun r s' => r = .ok (.ret (.bool true)) ∧ OldK s₁.heap s'.heap ∧ s'.os = s₁.os ∧ AllBare s'.gens) s₁ := by
  have rel := vals_ints hi
  have noFr : ∀ b : Addr, b ∈ ([] : List Addr) → False := fun b h => by cases h
  -- whatever is tracked of the script: the same end
  have core : ∀ H : Hp, Only H → SqL K H a (ns.map V.int) → HOk P w H s₁.heap → (∀ b, H b ≠ none → b = a) → (H a ≠ none → K.lookup a = none) →
      codeAny (model P w) callerA (.call (.ref fa) ⟨[.ref a], []⟩) (fun r s' => r = .ok (.ret (.bool true)) ∧ OldK s₁.heap s'.heap ∧ s'.os = s₁.os ∧ AllBare s'.gens) s₁ := by
    intro H hO hS hok only free
    have fromB : ∀ {b : Addr} {o : Obj}, s₁.heap.get? b = some o → H b = none → (hidT s₁.heap H).get? b = some o := fun e n => hidT_get e n
    have none_of : ∀ {b : Addr} {o : Obj} {es : Array DictEntry} {ep : Nat}, s₁.heap.get? b = some o → o.data = .dict es ep → H b = none := by
      intro b o es ep e d
      by_cases q : H b = none
      · exact q
      · exfalso
        have eq := only b q
        subst eq
        rw [ha] at e
        obtain rfl := Option.some.inj e
        exact Data.noConfusion (show Data.seq vs.toArray _ = Data.dict es ep from d)
    have nsT : ∀ {b : Addr} {m : Str → Option Value}, s₁.heap.Ns b m → (hidT s₁.heap H).Ns b m := by
      rintro b m ⟨o, es, ep, e, d, r⟩
      exact ⟨o, es, ep, fromB e (none_of e d), d, r⟩
    have kinT : K.In (hidT s₁.heap H) := by
      intro b o e
      refine fromB (kin b o e) ?_
      by_cases q : H b = none
      · exact q
      · exfalso
        have eq := only b q
        subst eq
        rw [free q] at e
        cases e
    have hM : Mod K mg (hidT s₁.heap H) := by
      obtain ⟨mc, h1, h2⟩ := hlim
      exact ⟨kinT, nsT hns, ⟨mb, nsT hb, hbb⟩, ⟨mc, nsT h1, h2⟩⟩
    have env : Env0 P w K mg (hidT s₁.heap H) callerA [] s₁ H :=
      { frames := rfl, mod := hM, bs := fun b o e => of_hidT e, bsz := Nat.le_of_eq (hidT_size _ _), funs := trivial, frf := fun b h => (noFr b h).elim, hok := hok, bare := .of_eq hg }
    refine codeAny_mono (F _ kinT (nsT hns) s₁ H ⟨[.ref a], []⟩ [.ref a] [.ref a] _ _ room env (hbind s₁ (.ref a)) (.cons rfl .nil) (hsp H hO hS)) ?_
    intro r s2 h
    match r, h with
    | .error e, h => exact (hCX H e s2 h).elim
    | .ok .next, h => exact False.elim h
    | .ok .brk, h => exact False.elim h
    | .ok .cont, h => exact False.elim h
    | .ok (.ret u), ⟨v, H2, os, bare, un, hok2, rv, q⟩ =>
      have q : v = .bl true := q
      subst q
      have rv : u = Value.bool true := rv
      subst rv
      refine ⟨rfl, OldK.of_keep ?_, os, bare⟩
      intro b o e
      rcases hO b with z | ⟨ob, xs, z⟩
      · exact un.keep b o e z (fun h => (noFr b h).elim) (by simp)
      · have z2 := un.frzs b ob _ z
        have e1 := (hok b _ z).1
        have e2 := (hok2 b _ z2).1
        rw [e] at e1
        obtain rfl := Option.some.inj e1
        exact e2
  by_cases hk : K.lookup a = none
  · refine core (fun b => if b = a then some (.frz { cls := .type "list", data := .seq vs.toArray } (.lst (ns.map V.int))) else none) ?_ (.inl (.inr ⟨{ cls := .type "list", data := .seq vs.toArray }, if_pos rfl⟩)) ?_ ?_ fun _ => hk
    · intro b
      by_cases e : b = a
      · right; exact ⟨_, _, if_pos e⟩
      · left; exact if_neg e
    · intro b u z
      by_cases e : b = a
      · have z2 := (if_pos e).symm.trans z
        cases z2
        subst e
        exact ⟨ha, by rw [List.length_map]; exact hl, vs, _, rel, ha⟩
      · have z2 := (if_neg e).symm.trans z
        cases z2
    · intro b z
      by_cases e : b = a
      · exact e
      · exact absurd (if_neg e) z
  · obtain ⟨o, ho⟩ := Option.ne_none_iff_exists'.mp hk
    have e := kin a o ho
    rw [ha] at e
    obtain rfl := Option.some.inj e
    have lenV := hi.length
    refine core (fun _ => none) (fun _ => .inl rfl) (.inr ⟨_, vs.toArray, _, ho, rfl, rfl, rfl, by rw [List.size_toArray, lenV]; exact hl, by simpa using rel⟩) (fun b u z => ?_) (fun b z => absurd rfl z) fun z => absurd rfl z
    exact absurd (show (none : Option HO) = some u from z) (by simp)
end
theorem top_walk {l : PySem.W.OpenLaw} {n k : Nat} {q : Program} {loose : List Str} {XP : (Str → Option Value) → Heap → Prop} {YP : World → Heap → Prop} {d : DefRec} {K : Params → PySem.W.Frag} {CX : World → CXT} {sp : World → Sp} {x : Str}
    (hn : l.most = some n) (hn2 : n ≤ sizeLine) (hdf : d.params.defaults = []) (room : Room k callerA) (hY : ∀ (w : World) (h : Heap), YP w h → (K w.params).In h)
    (F : ∀ (w : World) (mg : Str → Option Value) (fa : Addr) (h : Heap), (K w.params).In h → h.Ns mainGlobals mg → mg d.name = some (.ref fa) →
      ∃ fd : FuncData, (∀ (s : Shared) (u : Value), BindsTo s fd ⟨[u], []⟩ [(x, u)]) ∧ ∀ base : Heap, (K w.params).In base → base.Ns mainGlobals mg → TopOk l.prog w (K w.params) mg base (CX w) k fa fd [x] (sp w))
    (hsp : ∀ (w : World) (H : Hp) (a : Addr) (ns : List Int), ns.length ≤ n → Only H → SqL (K w.params) H a (ns.map V.int) → sp w [.ref a] H (fun v _ => v = .bl true) fun _ _ _ => False)
    (hCX : ∀ (w : World) (H : Hp) (s : Shared) (e : Value) (s' : Shared), CX w [] H s (fun _ _ _ => False) e s' → False) :
    PySem.W.WalkO q loose XP YP l.row.toRowW d [] (fun f vs => PySem.call f vs) := by
  refine Att.attach_call hn hdf ?_
  intro w s₀ s₁ mg mb fa o pm cd doc a vs ns G Y ho hd hcd hmg hobj hints hlen hg
  have kin := hY w _ Y
  obtain ⟨fd, hb, hF⟩ := F w mg fa _ kin G.T.g hmg
  exact top_call kin G.T.g G.T.b G.T.builtins G.T.nolimit hg hobj hints (Nat.le_trans hlen hn2) room hF hb (fun H hO hS => hsp w H a ns hlen hO hS) (fun H e s' => hCX w H s₁ e s')
end DN
namespace LW
open PySem PySem.Spec PyProof.Rows L2 RZ DN
section
variable {K : PySem.W.Frag} {cl : CTab}
noncomputable def b__law_bent_v4 (self_m : List D → M (MemS K cl) D) : SEnv → M (MemS K cl) Fl := seqF (sIf pHide (tAn (tTr (xUn (isD "tuple") (eVar 1))) (tAn (tCm gtI (xB lenD (aC (xIx (eVar 1) (xUn negD (eC (.int 1)))) (aN))) (eC (.int 0))) (tCm gtI (xCall m__law_pick (aC (eVar 0) (aC (eC (.int 3)) (aN)))) (eC (.int 0))))) (seqF (sSet 4 (xCall m__law_pick (aC (eVar 0) (aC (xB lenD (aC (xIx (eVar 1) (xUn negD (eC (.int 1)))) (aN))) (aN))))) (sRet pHide (xOp addD (xSl (eVar 1) (oN) (oS (xUn negD (eC (.int 1))))) (xTup (aC (xOp addD (xOp addD (xSl (xIx (eVar 1) (xUn negD (eC (.int 1)))) (oN) (oS (eVar 4))) (xTup (aC (xCall self_m (aC (eVar 0) (aC (xIx (xIx (eVar 1) (xUn negD (eC (.int 1)))) (eVar 4)) (aC (eVar 2) (aN))))) (aN)))) (xSl (xIx (eVar 1) (xUn negD (eC (.int 1)))) (oS (xOp addD (eVar 4) (eC (.int 1)))) (oN))) (aN)))))) (sPass)) (seqF (sSet 3 (xLst (aC (eVar 2) (aC (xUn negD (eC (.int 1))) (aC (eC (.bl true)) (aC (eC (.bl false)) (aC (eC .non) (aC (eC (.str "all")) (aC (xTup (aN)) (aC (xTup (aC (eC (.str "all")) (aN))) (aC (xTup (aC (eC (.str "all")) (aC (eC (.int 0)) (aN)))) (aC (xTup (aC (eC (.str "all")) (aC (xLst (aC (eC (.int 0)) (aN))) (aN)))) (aC (xTup (aC (eC (.str "least")) (aC (xTup (aC (eC (.int 0)) (aN))) (aN)))) (aC (xTup (aC (eC (.str "least")) (aC (eC (.int 26)) (aC (xTup (aC (eC (.int 0)) (aN))) (aN))))) (aN))))))))))))))) (seqF (sSet 3 (xOp addD (eVar 3) (xLst (aC (xTup (aC (eC (.str "least")) (aC (eC (.int 25)) (aC (xTup (aC (eC (.int 0)) (aN))) (aN))))) (aC (xTup (aC (eC (.str "least")) (aC (xUn negD (eC (.int 1))) (aC (xTup (aN)) (aN))))) (aC (xTup (aC (eC (.str "least")) (aC (eC (.bl true)) (aC (xTup (aC (eC (.int 0)) (aN))) (aN))))) (aC (xTup (aC (eC (.str "none")) (aC (xTup (aC (eC (.int 0)) (aN))) (aN)))) (aC (xLst (aC (eC (.str "all")) (aC (xTup (aC (eC (.int 0)) (aN))) (aN)))) (aC (xTup (aC (eC (.str "some")) (aC (xTup (aC (eC (.int 0)) (aN))) (aC (xTup (aN)) (aN))))) (aN)))))))))) (seqF (sSet 3 (xOp addD (eVar 3) (xLst (aC (xTup (aC (eC (.str "all")) (aC (eC (.int 1)) (aC (xTup (aC (eC (.int 0)) (aN))) (aN))))) (aC (xOp powD (eC (.int 10)) (eC (.int 6))) (aC (xOp addD (xOp powD (eC (.int 10)) (eC (.int 6))) (eC (.int 1))) (aC (xTup (aC (eC (.str "some")) (aC (xOp mulD (xTup (aC (eC (.int 0)) (aN))) (eC (.int 24))) (aN)))) (aC (xTup (aC (eC (.str "some")) (aC (xOp mulD (xTup (aC (eC (.int 0)) (aN))) (eC (.int 25))) (aN)))) (aC ((fun _ => M.pure (.dct [] []))) (aN)))))))))) (sRet pHide (xCall m__law_some (aC (eVar 0) (aC (eVar 3) (aN))))))))
noncomputable def m__law_bent_v4 : Nat → List D → M (MemS K cl) D
  | 0 => fun _ _ => .stuck
  | n + 1 => runF 5 (b__law_bent_v4 (m__law_bent_v4 n))
noncomputable def b__law_measure (self_m : List D → M (MemS K cl) D) : SEnv → M (MemS K cl) Fl := seqF (sIf pHide (tTr (xCall m__law_int (aC (eVar 0) (aC (eC (.int 0)) (aC (eVar 1) (aN)))))) (sRet pHide (xTup (aC (eC (.int 1)) (aC (eC (.int 1)) (aN))))) (sPass)) (seqF (sIf pHide (tOo (tNt (tTr (xUn (isD "tuple") (eVar 0)))) (tOo (tCm notInK (xB lenD (aC (eVar 0) (aN))) (xTup (aC (eC (.int 2)) (aC (eC (.int 3)) (aN))))) (tNt (tTr (xUn (isD "str") (xIx (eVar 0) (eC (.int 0)))))))) (sRet pHide (eC .non)) (sPass)) (seqF (sIf pHide (tOo (tAn (tCm eqD (xB lenD (aC (eVar 0) (aN))) (eC (.int 2))) (tCm notInK (xIx (eVar 0) (eC (.int 0))) (xTup (aC (eC (.str "all")) (aC (eC (.str "some")) (aN)))))) (tOo (tNt (tTr (xUn (isD "tuple") (xIx (eVar 0) (xUn negD (eC (.int 1))))))) (tCm gtI (xB lenD (aC (xIx (eVar 0) (xUn negD (eC (.int 1)))) (aN))) (eC (.int 24))))) (sRet pHide (eC .non)) (sPass)) (seqF (sIf pHide (tAn (tCm eqD (xB lenD (aC (eVar 0) (aN))) (eC (.int 3))) (tOo (tCm neD (xIx (eVar 0) (eC (.int 0))) (eC (.str "least"))) (tNt (tTr (xCall m__law_int (aC (xIx (eVar 0) (eC (.int 1))) (aC (eC (.int 0)) (aC (eC (.int 25)) (aN))))))))) (sRet pHide (eC .non)) (sPass)) (seqF (sSet 2 (xLc [3] (aName 3) (tY) (xCall self_m (aC (eVar 3) (aC (eVar 1) (aN)))) (iOf anyI (xIx (eVar 0) (xUn negD (eC (.int 1))))))) (seqF (sIf pHide (tCm inK (eC .non) (eVar 2)) (sRet pHide (eC .non)) (sPass)) (sRet pHide (xTup (aC (xOp addD (eC (.int 1)) (xB maxLD (aC (xOp addD (xLst (aC (eC (.int 0)) (aN))) (xLc [4, 5] (aTup (aCons (aName 4) (aCons (aName 5) (aNil)))) (tY) (eVar 4) (iOf anyI (eVar 2)))) (aN)))) (aC (xOp addD (eC (.int 1)) (xB sumD (aC (xLc [4, 5] (aTup (aCons (aName 4) (aCons (aName 5) (aNil)))) (tY) (eVar 5) (iOf anyI (eVar 2))) (aN)))) (aN))))))))))
noncomputable def m__law_measure : Nat → List D → M (MemS K cl) D
  | 0 => fun _ _ => .stuck
  | n + 1 => runF 6 (b__law_measure (m__law_measure n))
noncomputable def b__law_is_aim : SEnv → M (MemS K cl) Fl := seqF (sSet 2 (xCall (m__law_measure 14) (aC (eVar 0) (aC (eVar 1) (aN))))) (sRet pHide (xAn (xOp isNotN (eVar 2) (eC .non)) (xAn (xOp leI (xIx (eVar 2) (eC (.int 0))) (eC (.int 8))) (xOp leI (xIx (eVar 2) (eC (.int 1))) (eC (.int 200))))))
noncomputable def m__law_is_aim : List D → M (MemS K cl) D := runF 3 b__law_is_aim
noncomputable def b__law_word_v3 : SEnv → M (MemS K cl) Fl := seqF (sSet 3 (eC (.str "let"))) (seqF (sTry (xIff (tCm eqD (eVar 0) (eC (.int 0))) (xEx (xCall m_moved (aC (eVar 2) (aC (eC (.int 0)) (aN))))) (xEx (xCall m_reached (aC (eVar 1) (aC (eVar 2) (aC (xTup (aN)) (aN))))))) (((t_of "NoAim"), sSet 3 (eC (.str "none"))) :: [])) (sRet pHide (eVar 3)))
noncomputable def m__law_word_v3 : List D → M (MemS K cl) D := runF 4 b__law_word_v3
noncomputable def b_L15_law_f1 : SEnv → M (MemS K cl) Fl := sSet 5 (xTup (aC (eC (.str "all")) (aC (xTup (aC (eVar 5) (aN))) (aN))))
noncomputable def b_L15_law_f2 : SEnv → M (MemS K cl) Fl := seqF (sSet 5 (xCall (m__law_aim 8) (aC (eVar 1) (aC (eVar 2) (aC (xOp addD (eC (.int 1)) (xCall m__law_pick (aC (eVar 1) (aC (eC (.int 5)) (aN))))) (aN)))))) (seqF (sIf pHide (tCm gtI (eVar 4) (eC (.int 2))) (sSet 5 (xCall (m__law_bent_v4 12) (aC (eVar 1) (aC (eVar 5) (aC (eVar 2) (aN)))))) (sPass)) (seqF (sIf pHide (tCm eqD (eVar 4) (eC (.int 7))) (seqF (sSet 5 (xCall m__law_some (aC (eVar 1) (aC (xLst (aC (eC (.int 0)) (aC (xTup (aC (eC (.str "all")) (aC (xTup (aN)) (aN)))) (aC (xTup (aC (eC (.str "some")) (aC (xTup (aC (eC (.int 0)) (aC (eC (.int 0)) (aN)))) (aN)))) (aN))))) (aN))))) (sFor (aName 7) (iOf range1 (xOp addD (eC (.int 4)) (xCall m__law_pick (aC (eVar 1) (aC (eC (.int 6)) (aN)))))) (b_L15_law_f1))) (sPass)) (seqF (sIf pHide (tCm eqD (eVar 4) (eC (.int 6))) (seqF (sSet 8 (xTup (aC (eC (.str "all")) (aC (xOp mulD (xTup (aC (eC (.int 0)) (aN))) (eC (.int 24))) (aN))))) (sSet 5 (xTup (aC (eC (.str "some")) (aC (xOp addD (xOp mulD (xTup (aC (eVar 8) (aN))) (eC (.int 7))) (xTup (aC (xTup (aC (eC (.str "all")) (aC (xOp mulD (xTup (aC (eC (.int 0)) (aN))) (xOp addD (eC (.int 21)) (xCall m__law_pick (aC (eVar 1) (aC (eC (.int 4)) (aN)))))) (aN)))) (aN)))) (aN)))))) (sPass)) (seqF (sSet 6 (xB reprD (aC (eVar 5) (aN)))) (seqF (sIf pHide (tOo (tNt (tTr (xCall m__law_flag (aC (xCall m_is_aim (aC (eVar 3) (aC (eVar 5) (aN)))) (aC (xCall m__law_is_aim (aC (eVar 5) (aC (xOp subD (eVar 2) (eC (.int 1))) (aN)))) (aN)))))) (tCm neD (xB reprD (aC (eVar 5) (aN))) (eVar 6))) (sRet pHide (eC (.bl false))) (sPass)) (seqF (sIf pHide (tCm neD (xOp eqD (xCall m__law_word_v3 (aC (eC (.int 1)) (aC (eVar 3) (aC (eVar 5) (aN))))) (eC (.str "let"))) (xCall m__law_is_aim (aC (eVar 5) (aC (xOp subD (eVar 2) (eC (.int 1))) (aN))))) (sRet pHide (eC (.bl false))) (sPass)) (sIf pHide (tCm neD (xOp eqD (xCall m__law_word_v3 (aC (eC (.int 0)) (aC (eVar 3) (aC (eVar 5) (aN))))) (eC (.str "let"))) (xCall m__law_is_aim (aC (eVar 5) (aC (xOp powD (eC (.int 10)) (eC (.int 6))) (aN))))) (sRet pHide (eC (.bl false))) (sPass))))))))
noncomputable def b_L15_law : SEnv → M (MemS K cl) Fl := seqF (sSet 2 (xOp addD (eC (.int 1)) (xCall m__law_pick (aC (eVar 1) (aC (eC (.int 8)) (aN)))))) (seqF (sSet 3 (xMake "Hall" 2 i_Hall (aC (xOp mulD (xTup (aC (xTup (aC (eC (.str "p")) (aC (eC (.int 0)) (aC (xTup (aN)) (aN))))) (aN))) (eVar 2)) (aN)))) (seqF (sFor (aName 4) (iOf range1 (eC (.int 8))) (b_L15_law_f2)) (sRet pHide (eC (.bl true)))))
end
end LW
namespace LW
open PySem PySem.Spec PyProof.Rows L2 RZ DN
def pr2 (i j : Nat) : Pr := if i < j then (i, j) else (j, i)
structure Iso (bs cs : List Bd) (σ τ : Nat → Nat) : Prop where
  len : cs.length = bs.length
  to : ∀ i, i < bs.length → σ i < bs.length ∧ τ (σ i) = i
  back : ∀ i, i < bs.length → τ i < bs.length ∧ σ (τ i) = i
  pr : ∀ i j, i < bs.length → j < bs.length → onB pairB bs (σ i) (σ j) = onB pairB cs i j
theorem Iso.symm {bs cs : List Bd} {σ τ : Nat → Nat} (h : Iso bs cs σ τ) : Iso cs bs τ σ := ⟨h.len.symm, fun i hi => by rw [h.len] at *; exact h.back i hi, fun i hi => by rw [h.len] at *; exact h.to i hi, fun i j hi hj => by
  rw [h.len] at hi hj
  rw [← h.pr _ _ (h.back i hi).1 (h.back j hj).1, (h.back i hi).2, (h.back j hj).2]⟩
def mvP (σ : Nat → Nat) (P : List Pr) : List Pr := P.map fun p => pr2 (σ p.1) (σ p.2)
noncomputable def num (σ : Nat → Nat) (P : List Pr) : List Pr := sortP (mvP σ P)
end LW
namespace LW
open PySem PySem.Spec PyProof.Rows L2 RZ DN
def Src (k : Nat) (s : Mem) : Prop := WF s ∧ ∃ c f z n : Int, s.m k = some (.lst [.int c, .int f, .int z, .int n])
theorem Src.ext {k : Nat} {s s' : Mem} (h : Src k s) (x : Ex0 s s') : Src k s' := by
  obtain ⟨_, c, f, z, n, e⟩ := h
  exact ⟨x.wf, c, f, z, n, x.old _ _ e⟩
theorem Src.wf {k : Nat} {s : Mem} (h : Src k s) : WF s := h.1
theorem Src.set {k : Nat} {s : Mem} (h : Src k s) (c f z n : Int) : Src k (updM s k (some (.lst [.int c, .int f, .int z, .int n]))) := by
  obtain ⟨w, c', f', z', n', e⟩ := h
  refine ⟨fun j hj => ?_, c, f, z, n, ?_⟩
  · have hk := w.lt e
    have hj : s.n ≤ j := hj
    show (if j = k then _ else s.m j) = none
    rw [if_neg (by omega), w j hj]
  · show (if k = k then _ else s.m k) = _
    rw [if_pos rfl]
end LW
namespace LW
open PySem PySem.Spec PyProof.Rows L2 RZ DN
section
variable {K : PySem.W.Frag} {cl : CTab}
theorem okc_strs {ns : List Str} : (D.lst (ns.map D.str)).okc = true := by
  refine Pt.okc (k := 2) ?_ (by omega)
  refine .inr (.inr (.inr (.inr ⟨_, rfl, fun x hx => ?_⟩)))
  obtain ⟨n, _, rfl⟩ := List.mem_map.mp hx
  exact .inr (.inl ⟨n, rfl⟩)
end
end LW
namespace LW
open PySem PySem.Spec PyProof.Rows L2 RZ DN
mutual
def Aim.mp (f : Nat → Nat) : Aim → Aim
  | .at b => .at (f b)
  | .node k as => .node k (Aim.mpL f as)
def Aim.mpL (f : Nat → Nat) : List Aim → List Aim
  | [] => []
  | a :: as => a.mp f :: Aim.mpL f as
end
theorem mpL_map (f : Nat → Nat) : ∀ as : List Aim, Aim.mpL f as = as.map (Aim.mp f)
  | [] => rfl
  | a :: as => by rw [Aim.mpL, mpL_map f as]; rfl
theorem mp_node {f : Nat → Nat} {k : Kd} {as : List Aim} : (Aim.node k as).mp f = .node k (as.map (Aim.mp f)) := by rw [Aim.mp, mpL_map]
theorem Gd.mp {many m' w : Nat} {f : Nat → Nat} (hf : ∀ b, b < many → f b < m') : ∀ {k : Nat} {a : Aim}, Gd many w k a → Gd m' w k (a.mp f)
  | 0, _, h => False.elim h
  | k + 1, .at b, h => by
    rw [Aim.mp]
    exact hf b h
  | k + 1, .node kd as, h => by
    rw [mp_node]
    refine ⟨h.1, by rw [List.length_map]; exact h.2.1, fun a ha => ?_⟩
    obtain ⟨b, hb, rfl⟩ := List.mem_map.mp ha
    exact Gd.mp hf (h.2.2 b hb)
end LW
namespace LW
open PySem PySem.Spec PyProof.Rows L2 RZ DN
mutual
def Aim.sb (f : Nat → Aim) : Aim → Aim
  | .at b => f b
  | .node k as => .node k (Aim.sbL f as)
def Aim.sbL (f : Nat → Aim) : List Aim → List Aim
  | [] => []
  | a :: as => a.sb f :: Aim.sbL f as
end
theorem sbL_map (f : Nat → Aim) : ∀ as : List Aim, Aim.sbL f as = as.map (Aim.sb f)
  | [] => rfl
  | a :: as => by rw [Aim.sbL, sbL_map f as]; rfl
theorem sb_node {f : Nat → Aim} {k : Kd} {as : List Aim} : (Aim.node k as).sb f = .node k (as.map (Aim.sb f)) := by rw [Aim.sb, sbL_map]
theorem sb_at {f : Nat → Aim} {b : Nat} : (Aim.at b).sb f = f b := by rw [Aim.sb]
theorem Gd.sb {f : Nat → Aim} {many many' w : Nat} (hf : ∀ b, b < many → Gd many' w 1 (f b)) : ∀ {k : Nat} {a : Aim}, Gd many w k a → Gd many' w k (a.sb f)
  | 0, _, h => False.elim h
  | k + 1, .at b, h => by rw [sb_at]; exact (hf b h).le (by omega)
  | k + 1, .node kd as, h => by
    rw [sb_node]
    refine ⟨h.1, by rw [List.length_map]; exact h.2.1, fun a ha => ?_⟩
    obtain ⟨c, hc, rfl⟩ := List.mem_map.mp ha
    exact Gd.sb hf (h.2.2 c hc)
end LW
namespace LW
open PySem PySem.Spec PyProof.Rows L2 RZ DN
theorem Sel.ins {p : Pr} {w : Nat} (hw : w = p.1 ∨ w = p.2) {B : List Pr} : ∀ {A : List Pr} {l0 : List Nat}, Sel (A ++ B) l0 → ∃ l, Sel (A ++ p :: B) l ∧ ∀ x, x ∈ l ↔ x = w ∨ x ∈ l0
  | [], l0, h => ⟨w :: l0, ⟨l0, h, by rcases hw with rfl | rfl <;> simp⟩, fun x => List.mem_cons⟩
  | a :: A, l0, ⟨l', hl, e⟩ => by
    obtain ⟨l, h1, h2⟩ := Sel.ins hw hl
    rcases e with rfl | rfl
    · exact ⟨a.1 :: l, ⟨l, h1, .inl rfl⟩, fun x => by rw [List.mem_cons, List.mem_cons, h2]; exact ⟨fun h => by rcases h with h | h | h <;> simp [h], fun h => by rcases h with h | h | h <;> simp [h]⟩⟩
    · exact ⟨a.2 :: l, ⟨l, h1, .inr rfl⟩, fun x => by rw [List.mem_cons, List.mem_cons, h2]; exact ⟨fun h => by rcases h with h | h | h <;> simp [h], fun h => by rcases h with h | h | h <;> simp [h]⟩⟩
end LW
namespace LW
open PySem PySem.Spec PyProof.Rows L2 RZ DN
def prt : List Pr → Nat → Option Nat
  | [], _ => none
  | p :: P, x => if p.1 = x then some p.2 else if p.2 = x then some p.1 else prt P x
structure Mtc (n m l : Nat) (M : Bool → Nat → Option Nat) : Prop where
  sym : ∀ b x y, M b x = some y → M b y = some x
  irr : ∀ b x, M b x ≠ some x
  lt : ∀ b x y, M b x = some y → x < n + m + l
  fst : ∀ x y, M false x = some y → n ≤ x
  snd : ∀ x y, M true x = some y → x < n + m
def Out (n m x : Nat) : Prop := x < n ∨ n + m ≤ x
instance {n m x : Nat} : Decidable (Out n m x) := by unfold Out; exact inferInstance
inductive Cn (M : Bool → Nat → Option Nat) (x : Nat) : Nat → Prop
  | refl : Cn M x x
  | step {y z : Nat} {b : Bool} : Cn M x y → M b y = some z → Cn M x z
theorem Cn.trans {M : Bool → Nat → Option Nat} {x y z : Nat} (h : Cn M x y) (g : Cn M y z) : Cn M x z := by
  induction g with
  | refl => exact h
  | step _ e ih => exact .step ih e
theorem Cn.symm {n m l : Nat} {M : Bool → Nat → Option Nat} (hM : Mtc n m l M) {x y : Nat} (h : Cn M x y) : Cn M y x := by
  induction h with
  | refl => exact .refl
  | step _ e ih => exact (Cn.step .refl (hM.sym _ _ _ e)).trans ih
def Far (M : Bool → Nat → Option Nat) (n m x : Nat) : Option Nat → Prop
  | none => ∀ y, Out n m y → Cn M x y → y = x
  | some y => Out n m y ∧ y ≠ x ∧ Cn M x y ∧ ∀ z, Out n m z → Cn M x z → z = x ∨ z = y
theorem Far.one {M : Bool → Nat → Option Nat} {n m x : Nat} : ∀ {r r' : Option Nat}, Far M n m x r → Far M n m x r' → r = r'
  | none, none, _, _ => rfl
  | none, some y, h, g => absurd (h y g.1 g.2.2.1) g.2.1
  | some y, none, h, g => absurd (g y h.1 h.2.2.1) h.2.1
  | some y, some z, h, g => by
    rcases h.2.2.2 z g.1 g.2.2.1 with e | e
    · exact absurd e g.2.1
    · rw [e]
end LW
namespace LW
open PySem PySem.Spec PyProof.Rows L2 RZ DN
def MM (n : Nat) (P Q : List Pr) : Bool → Nat → Option Nat
  | true, x => prt P x
  | false, x => if x < n then none else (prt Q (x - n)).map fun y => y + n
def un (n m e : Nat) : Nat := if e < n then e else e + m
def en (n m x : Nat) : Nat := if x < n then x else x - m
section
variable {K : PySem.W.Frag} {cl : CTab}
theorem keyN : KeyE (fun x : Nat => D.int (x : Int)) (fun x : Nat => (.inl (.inl (x : Int)) : GK)) where
  key := fun x => rfl
  inj := fun x y h => by
    have : (x : Int) = (y : Int) := by simpa using h
    omega
  low := fun x => rfl
  kd := ⟨false, fun x => ⟨rfl, fun r => rfl⟩⟩
end
end LW
namespace LW
open PySem PySem.Spec PyProof.Rows L2 RZ DN
theorem Sel.split : ∀ {A B : List Pr} {l : List Nat}, Sel (A ++ B) l → ∃ l1 l2, Sel A l1 ∧ Sel B l2 ∧ l = l1 ++ l2
  | [], B, l, h => ⟨[], l, rfl, h, rfl⟩
  | a :: A, B, l, ⟨l', h, e⟩ => by
    obtain ⟨l1, l2, h1, h2, rfl⟩ := Sel.split h
    rcases e with rfl | rfl
    · exact ⟨a.1 :: l1, l2, ⟨l1, h1, .inl rfl⟩, h2, rfl⟩
    · exact ⟨a.2 :: l1, l2, ⟨l1, h1, .inr rfl⟩, h2, rfl⟩
def base (B x : Nat) : Nat := if x < B then x else x - B
end LW
namespace LW
open PySem PySem.Spec PyProof.Rows L2 RZ DN
inductive Rc (E : Nat → Nat → Prop) (x : Nat) : Nat → Prop
  | refl : Rc E x x
  | step {y z : Nat} : Rc E x y → E y z → Rc E x z
theorem Rc.one {E : Nat → Nat → Prop} {x y : Nat} (h : E x y) : Rc E x y := .step .refl h
theorem Rc.trans {E : Nat → Nat → Prop} {x y z : Nat} (h : Rc E x y) (g : Rc E y z) : Rc E x z := by
  induction g with
  | refl => exact h
  | step _ e ih => exact .step ih e
theorem Rc.bind {E F : Nat → Nat → Prop} (h : ∀ x y, E x y → Rc F x y) {x y : Nat} (g : Rc E x y) : Rc F x y := by
  induction g with
  | refl => exact .refl
  | step _ e ih => exact ih.trans (h _ _ e)
theorem Rc.mono {E F : Nat → Nat → Prop} (h : ∀ x y, E x y → F x y) {x y : Nat} (g : Rc E x y) : Rc F x y := g.bind fun x y e => .one (h x y e)
def pos (α β n u : Nat) : Nat := if u < n then α + u else β + (u - n)
def Lk (α β n : Nat) (P : List Pr) (x y : Nat) : Prop := ∃ u v, ((u, v) ∈ P ∨ (v, u) ∈ P) ∧ x = pos α β n u ∧ y = pos α β n v
theorem Lk.symm {α β n : Nat} {P : List Pr} {x y : Nat} : Lk α β n P x y → Lk α β n P y x := fun ⟨u, v, h, e1, e2⟩ => ⟨v, u, h.symm, e2, e1⟩
section
variable {α β γ n m l : Nat} {P Q : List Pr}
def At (α β n l x : Nat) : Prop := ∃ u, u < n + l ∧ x = pos α β n u
end
theorem At.lt {α β n l x : Nat} (h : At α β n l x) : (α ≤ x ∧ x < α + n) ∨ (β ≤ x ∧ x < β + l) := by
  obtain ⟨u, hu, rfl⟩ := h
  unfold pos
  split <;> omega
theorem At.of {α β n l x : Nat} (h : (α ≤ x ∧ x < α + n) ∨ (β ≤ x ∧ x < β + l)) : At α β n l x := by
  rcases h with ⟨a, b⟩ | ⟨a, b⟩
  · exact ⟨x - α, by omega, by unfold pos; rw [if_pos (by omega)]; omega⟩
  · exact ⟨x - β + n, by omega, by unfold pos; rw [if_neg (by omega)]; omega⟩
theorem Lk.at {α β n l : Nat} {P : List Pr} (lP : ∀ x ∈ Vs P, x < n + l) {x y : Nat} (h : Lk α β n P x y) : At α β n l x ∧ At α β n l y := by
  obtain ⟨u, v, h, rfl, rfl⟩ := h
  rcases h with h | h
  · exact ⟨⟨u, lP _ (mem_Vs.mpr ⟨_, h, .inl rfl⟩), rfl⟩, ⟨v, lP _ (mem_Vs.mpr ⟨_, h, .inr rfl⟩), rfl⟩⟩
  · exact ⟨⟨u, lP _ (mem_Vs.mpr ⟨_, h, .inr rfl⟩), rfl⟩, ⟨v, lP _ (mem_Vs.mpr ⟨_, h, .inl rfl⟩), rfl⟩⟩
end LW
namespace LW
open PySem PySem.Spec PyProof.Rows L2 RZ DN
def toI : D → Int
  | .int i => i
  | _ => 0
theorem int_of {lo hi : Int} {d : D} (h : isIntD lo hi d = true) : d = .int (toI d) ∧ lo ≤ toI d ∧ toI d ≤ hi := by
  cases d <;> simp [isIntD] at h
  rename_i i
  exact ⟨rfl, h.1, h.2⟩
section
variable {K : PySem.W.Frag} {cl : CTab}
theorem e_withinP {lo hi : Int} {d : D} (h : Pl d) : (m_is_within [d, .int lo, .int hi] : M (MemS K cl) D) = M.pure (.bl (isIntD lo hi d)) := by
  cases h with
  | int i => by_cases h : lo ≤ i <;> simp [m_is_within, b_is_within, m_is_integer, b_is_integer, startE, isIntD, h]
  | _ => simp [m_is_within, b_is_within, m_is_integer, b_is_integer, startE, isIntD]
theorem e_lintP {lo hi : Int} {d : D} (h : Pl d) : (m__law_int [d, .int lo, .int hi] : M (MemS K cl) D) = M.pure (.bl (isIntD lo hi d)) := by
  cases h with
  | int i => by_cases h : lo ≤ i <;> simp [m__law_int, b__law_int, startE, isIntD, h]
  | _ => simp [m__law_int, b__law_int, startE, isIntD]
end
end LW
namespace LW
open PySem PySem.Spec PyProof.Rows L2 RZ DN
def nodeOf : D → Option (List D)
  | .tup [.str w, .tup xs] => if (w = "all" ∨ w = "some") ∧ xs.length ≤ 24 then some xs else none
  | .tup [.str w, n, .tup xs] => if w = "least" ∧ isIntD 0 25 n = true ∧ xs.length ≤ 24 then some xs else none
  | _ => none
def nodeV (d : D) : D := match nodeOf d with
  | some xs => .tup xs
  | none => .non
def combH : List (Option (Nat × Nat)) → Option (Nat × Nat)
  | [] => some (0, 0)
  | none :: _ => none
  | some (h, c) :: r => (combH r).map fun p => (max h p.1, c + p.2)
def ms (m : Int) : Nat → D → Option (Nat × Nat)
  | 0, _ => none
  | k + 1, d => if isIntD 0 m d = true then some (1, 1) else match nodeOf d with
    | none => none
    | some xs => (combH (xs.map (ms m k))).map fun p => (1 + p.1, 1 + p.2)
def pfL (f : D → Option Nat) : Nat → List D → Option Nat
  | acc, [] => some acc
  | acc, d :: ds => match f d with
    | none => none
    | some p => if 200 < acc + p then none else pfL f (acc + p) ds
def pf (m : Int) : Nat → Nat → D → Option Nat
  | 0, _, _ => none
  | n + 1, deep, d => if isIntD 0 m d = true then some 1 else match nodeOf d with
    | none => none
    | some xs => if deep = 1 ∧ 0 < xs.length then none else pfL (pf m n (deep - 1)) 1 xs
def Hd : Nat → D → Prop
  | 0, _ => False
  | k + 1, d => Pl d ∧ ∀ xs, nodeOf d = some xs → ∀ x ∈ xs, Hd k x
theorem node_mem {d x : D} {xs : List D} (hp : Pl d) (h : nodeOf d = some xs) (hx : x ∈ xs) : Pl x := by
  unfold nodeOf at h
  split at h
  · rename_i w ys
    split at h
    · obtain rfl := Option.some.inj h
      cases hp with
      | tup _ hp =>
        have := hp (.tup ys) (by simp)
        cases this with
        | tup _ h2 => exact h2 x hx
    · cases h
  · rename_i w n ys
    split at h
    · obtain rfl := Option.some.inj h
      cases hp with
      | tup _ hp =>
        have := hp (.tup ys) (by simp)
        cases this with
        | tup _ h2 => exact h2 x hx
    · cases h
  · cases h
theorem node_len {d : D} {xs : List D} (h : nodeOf d = some xs) : xs.length ≤ 24 := by
  unfold nodeOf at h
  split at h
  · split at h
    · rename_i c; obtain rfl := Option.some.inj h; exact c.2
    · cases h
  · split at h
    · rename_i c; obtain rfl := Option.some.inj h; exact c.2.2
    · cases h
  · cases h
theorem notIn_strT {w : Str} {ws : List Str} : notInD (.str w) (.tup (ws.map .str)) = some (.bl (!decide (w ∈ ws))) := by
  rw [notInT_da (k := 1) (j := 1) (show Da 1 (.str w) by simp) (fun e he => by obtain ⟨v, _, rfl⟩ := List.mem_map.mp he; simp)]
  congr 3
  rw [decide_eq_decide, List.mem_map]
  exact ⟨fun ⟨v, hv, e⟩ => by injection e with e; rw [← e]; exact hv, fun h => ⟨w, h, rfl⟩⟩
section
variable {K : PySem.W.Frag} {cl : CTab} {s : Mem}
theorem e_aimsD {d : D} (h : Pl d) : (m_aims_in [d] : M (MemS K cl) D) = M.pure (nodeV d) := by
  cases h with
  | tup ds hds =>
    match ds, hds with
    | [], _ => simp [m_aims_in, b_aims_in, startE, nodeV, nodeOf]
    | [x], _ => simp [m_aims_in, b_aims_in, startE, nodeV, nodeOf]
    | [x, y], hds =>
      have hy := hds y (by simp)
      have hx := hds x (by simp)
      have i0 : ixD (.tup [x, y]) (.int 0) = some x := rfl
      have i1 : ixD (.tup [x, y]) (.int (-1)) = some y := rfl
      cases hx with
      | str w =>
        by_cases hw : w = "all" ∨ w = "some"
        · cases hy with
          | tup xs hxs =>
            by_cases hl : xs.length ≤ 24
            · have hl2 : ¬ (24 : Int) < (xs.length : Int) := by omega
              rcases hw with rfl | rfl <;> simp [m_aims_in, b_aims_in, startE, nodeV, nodeOf, i0, i1, hl, hl2]
            · have hl2 : (24 : Int) < (xs.length : Int) := by omega
              have hl3 : 24 < xs.length := by omega
              rcases hw with rfl | rfl <;> simp [m_aims_in, b_aims_in, startE, nodeV, nodeOf, i0, i1, hl, hl2, hl3]
          | _ => rcases hw with rfl | rfl <;> simp [m_aims_in, b_aims_in, startE, nodeV, nodeOf, i0, i1]
        · have hw1 : ¬ w = "all" := fun z => hw (.inl z)
          have hw2 : ¬ w = "some" := fun z => hw (.inr z)
          have ni : notInD (.str w) (.tup [.str "all", .str "some"]) = some (.bl true) := by
            have := notIn_strT (w := w) (ws := ["all", "some"])
            rw [decide_eq_false (by simp [hw1, hw2])] at this
            exact this
          cases hy <;> simp [m_aims_in, b_aims_in, startE, nodeV, nodeOf, i0, i1, ni, hw1, hw2]
      | _ => simp [m_aims_in, b_aims_in, startE, nodeV, nodeOf, i0]
    | [x, y, z], hds =>
      have hx := hds x (by simp)
      have hy := hds y (by simp)
      have hz := hds z (by simp)
      have i0 : ixD (.tup [x, y, z]) (.int 0) = some x := rfl
      have i1 : ixD (.tup [x, y, z]) (.int 1) = some y := rfl
      have i2 : ixD (.tup [x, y, z]) (.int (-1)) = some z := rfl
      have ew := e_withinP (K := K) (cl := cl) (lo := 0) (hi := 25) hy
      cases hx with
      | str w =>
        by_cases hw : w = "least"
        · subst hw
          have ne : neD (.str "least") (.str "least") = some (.bl false) := by simp
          cases hn : isIntD 0 25 y with
          | false =>
            rw [hn] at ew
            cases hz <;> simp [m_aims_in, b_aims_in, startE, nodeV, nodeOf, i0, i1, i2, ew, hn]
          | true =>
            rw [hn] at ew
            cases hz with
            | tup xs hxs =>
              by_cases hl : xs.length ≤ 24
              · have hl2 : ¬ (24 : Int) < (xs.length : Int) := by omega
                simp [m_aims_in, b_aims_in, startE, nodeV, nodeOf, i0, i1, i2, ew, hn, hl, hl2]
              · have hl2 : (24 : Int) < (xs.length : Int) := by omega
                have hl3 : 24 < xs.length := by omega
                simp [m_aims_in, b_aims_in, startE, nodeV, nodeOf, i0, i1, i2, ew, hn, hl, hl2, hl3]
            | _ => simp [m_aims_in, b_aims_in, startE, nodeV, nodeOf, i0, i1, i2, ew, hn]
        · have ne : neD (.str w) (.str "least") = some (.bl true) := by simp [hw]
          cases hz <;> simp [m_aims_in, b_aims_in, startE, nodeV, nodeOf, i0, i1, i2, ne, hw]
      | _ => simp [m_aims_in, b_aims_in, startE, nodeV, nodeOf, i0]
    | x :: y :: z :: u :: ds, _ =>
      have h2 : ¬ (2 = (ds.length : Int) + 1 + 1 + 1 + 1) := by omega
      have h3 : ¬ (3 = (ds.length : Int) + 1 + 1 + 1 + 1) := by omega
      simp [m_aims_in, b_aims_in, startE, nodeV, nodeOf, h2, h3]
  | _ => simp [m_aims_in, b_aims_in, startE, nodeV, nodeOf]
end
end LW
namespace LW
open PySem PySem.Spec PyProof.Rows L2 RZ DN
def msV : Option (Nat × Nat) → D
  | none => .non
  | some (h, c) => .tup [.int (h : Int), .int (c : Int)]
inductive P15 (m : Nat) (f : D → Option Nat) (d : D) (xs : List D) (deep : Nat) : List D → SEnv → Prop
  | mk (r : List D) (acc : Nat) (x5 x6 : Sl) (hm : ∀ x ∈ r, x ∈ xs) (e : pfL f acc r = pfL f 1 xs) : P15 m f d xs deep r [.val d, .val (.int (m : Int)), .val (.int (deep : Int)), .val (.tup xs), .val (.int (acc : Int)), x5, x6]
section
variable {K : PySem.W.Frag} {cl : CTab} {s : Mem}
theorem e_partsD {m : Nat} : ∀ {n deep : Nat} {d : D}, Pl d → deep ≤ n → 1 ≤ deep → (m_parts_of n [d, .int (m : Int), .int (deep : Int)] : M (MemS K cl) D) = M.pure (optD (pf m n deep d))
  | 0, deep, d, _, h, h1 => absurd h1 (by omega)
  | n + 1, deep, d, hp, hn, h1 => by
    have e1 := e_withinP (K := K) (cl := cl) (lo := 0) (hi := (m : Int)) hp
    have e2 := e_aimsD (K := K) (cl := cl) hp
    cases hi : isIntD 0 (m : Int) d with
    | true =>
      rw [hi] at e1
      rw [pf, if_pos hi]
      simp [m_parts_of, b_parts_of, startE, e1, optD]
    | false =>
      rw [hi] at e1
      rw [pf, if_neg (by rw [hi]; exact Bool.false_ne_true)]
      cases hno : nodeOf d with
      | none =>
        have ev : nodeV d = .non := by unfold nodeV; rw [hno]
        rw [ev] at e2
        simp [m_parts_of, b_parts_of, startE, e1, e2, optD]
      | some xs =>
        have ev : nodeV d = .tup xs := by unfold nodeV; rw [hno]
        rw [ev] at e2
        have hlen : lenD [.tup xs] = some (.int (xs.length : Int)) := by simp [lenD]
        by_cases hz : deep = 1 ∧ 0 < xs.length
        · have hz2 : ((deep : Int) = 1 ∧ 0 < xs.length) := ⟨by omega, hz.2⟩
          simp only [hz, if_true, and_self]
          have d1 : (deep : Int) = 1 := hz2.1
          simp [m_parts_of, b_parts_of, startE, e1, e2, hz.1, hz.2, optD]
        · have hz2 : ¬ ((deep : Int) = 1 ∧ 0 < xs.length) := fun ⟨x, y⟩ => hz ⟨by omega, y⟩
          simp only [hz, if_false]
          refine pure_of_wp fun s => ?_
          simp [m_parts_of, b_parts_of, startE, e1, e2]
          simp only [hz2, if_false]
          simp
          refine wp_forI (fun r ρ s' => s' = s ∧ P15 m (pf m n (deep - 1)) d xs deep r ρ) ⟨rfl, .mk xs 1 _ _ (fun x h => h) rfl⟩ ?_ ?_
          · rintro x r ρ s' ⟨rfl, hP⟩
            cases hP with
            | mk acc x5 x6 hm e =>
              have hx := hm x List.mem_cons_self
              have hd1 : 1 ≤ deep - 1 := by
                have : ¬ deep = 1 := fun z => hz ⟨z, List.length_pos_of_mem hx⟩
                omega
              have ih := e_partsD (m := m) (n := n) (deep := deep - 1) (node_mem hp hno hx) (by omega) hd1
              have ed : (((deep - 1 : Nat)) : Int) = (deep : Int) - 1 := by omega
              rw [ed] at ih
              rw [pfL] at e
              refine ⟨_, s_aName, ?_⟩
              cases hpx : pf m n (deep - 1) x with
              | none =>
                rw [hpx] at ih e
                simp only at e
                simp [ih, optD, ← e]
              | some p =>
                rw [hpx] at ih e
                simp only at e
                by_cases h200 : 200 < acc + p
                · rw [if_pos h200] at e
                  have h2 : (200 : Int) < (acc : Int) + p := by omega
                  simp [ih, optD, ← e, h2]
                · rw [if_neg h200] at e
                  have h2 : ¬ (200 : Int) < (acc : Int) + p := by omega
                  have fin : P15 m (pf m n (deep - 1)) d xs deep r [.val d, .val (.int (m : Int)), .val (.int (deep : Int)), .val (.tup xs), .val (.int ((acc + p : Nat) : Int)), .val x, .val (.int (p : Int))] := .mk r (acc + p) _ _ (fun y hy => hm y (List.mem_cons_of_mem _ hy)) e
                  rw [show ((acc + p : Nat) : Int) = (acc : Int) + (p : Int) by omega] at fin
                  simp [ih, optD, h2]
                  exact fin
          · rintro ρ s' ⟨rfl, hP⟩
            cases hP with
            | mk acc x5 x6 hm e =>
              rw [pfL] at e
              simp [← e, optD]
theorem e_anyD {m : Nat} {d : D} (hp : Pl d) : (m_is_any_aim [d, .int (m : Int)] : M (MemS K cl) D) = M.pure (.bl (pf m 10 8 d).isSome) := by
  have := e_partsD (K := K) (cl := cl) (m := m) (n := 10) (deep := 8) hp (by omega) (by omega)
  have e8 : ((8 : Nat) : Int) = 8 := rfl
  rw [e8] at this
  cases hq : pf m 10 8 d <;> simp [m_is_any_aim, b_is_any_aim, startE, this, hq, optD]
theorem da_msV {o : Option (Nat × Nat)} : Da 2 (msV o) := by
  cases o with
  | none => simp [msV]
  | some p => simp [msV]
theorem msV_inj {o : Option (Nat × Nat)} : msV o = .non ↔ o = none := by
  cases o <;> simp [msV]
theorem comb_none : ∀ {os : List (Option (Nat × Nat))}, combH os = none ↔ none ∈ os
  | [] => by simp [combH]
  | none :: r => by simp [combH]
  | some (h, c) :: r => by simp [combH, comb_none (os := r)]
theorem comb_some : ∀ {ps : List (Nat × Nat)}, combH (ps.map some) = some ((ps.map (·.1)).foldr max 0, (ps.map (·.2)).sum)
  | [] => rfl
  | (h, c) :: r => by
    rw [List.map_cons, combH, comb_some (ps := r)]
    simp
theorem all_some {α : Type} : ∀ {os : List (Option α)}, none ∉ os → ∃ ps : List α, os = ps.map some
  | [], _ => ⟨[], rfl⟩
  | none :: r, h => absurd List.mem_cons_self h
  | some a :: r, h => by
    obtain ⟨ps, e⟩ := all_some (os := r) fun z => h (List.mem_cons_of_mem _ z)
    exact ⟨a :: ps, by rw [e]; rfl⟩
theorem ints_iL {l : List Nat} : intsOf (iL l) = some (l.map fun n : Nat => (n : Int)) := by
  induction l with
  | nil => rfl
  | cons n l ih =>
    have : iL (n :: l) = .int (n : Int) :: iL l := rfl
    rw [this]
    simp only [intsOf, ih]
    rfl
theorem maxZ_nat : ∀ {l : List Nat} {n : Nat}, maxZ ((n :: l).map fun n : Nat => (n : Int)) = some (((n :: l).foldr max 0 : Nat) : Int)
  | [], n => by simp [maxZ]
  | a :: l, n => by
    have ih := maxZ_nat (l := l) (n := a)
    rw [List.map_cons, maxZ, ih]
    simp only [List.foldr_cons]
    congr 1
    have : ∀ q : Nat, (if (q : Int) ≤ (n : Int) then (n : Int) else (q : Int)) = ((max n q : Nat) : Int) := fun q => by split <;> omega
    exact this _
theorem max_iL {l : List Nat} : maxLD [.lst (.int 0 :: iL l)] = some (.int ((l.foldr max 0 : Nat) : Int)) := by
  have e : (D.int 0 :: iL l) = iL (0 :: l) := rfl
  rw [e]
  show (intsOf (iL (0 :: l))).bind (fun ns => (maxZ ns).map D.int) = _
  rw [ints_iL, Option.bind_some, maxZ_nat]
  simp
theorem sum_iL {l : List Nat} : sumD [.lst (iL l)] = some (.int ((l.sum : Nat) : Int)) := by
  show (intsOf (iL l)).map (fun bs => D.int bs.sum) = _
  rw [ints_iL]
  simp only [Option.map_some]
  congr 2
  induction l with
  | nil => rfl
  | cons n l ih => simp only [List.map_cons, List.sum_cons, ih]; omega
theorem e_measD {m : Nat} : ∀ {k : Nat} {d : D}, Hd k d → (m__law_measure k [d, .int (m : Int)] : M (MemS K cl) D) = M.pure (msV (ms m k d))
  | 0, d, h => False.elim h
  | k + 1, d, h => by
    obtain ⟨hp, hsub⟩ := h
    have e1 := e_lintP (K := K) (cl := cl) (lo := 0) (hi := (m : Int)) hp
    cases hi : isIntD 0 (m : Int) d with
    | true =>
      rw [hi] at e1
      rw [ms, if_pos hi]
      simp [m__law_measure, b__law_measure, startE, e1, msV]
    | false =>
      rw [hi] at e1
      rw [ms, if_neg (by rw [hi]; exact Bool.false_ne_true)]
      have b1 : ∀ xs : List D, nodeOf d = some xs → ∀ x ∈ xs, Hd k x := hsub
      refine pure_of_wp fun s => ?_
      simp only [m__law_measure, b__law_measure, s_runF, startE]
      refine wp_bind ?_
      refine wp_cut (fun ρ' s' => s' = s ∧ ρ' = [.val d, .val (.int (m : Int)), .no, .no, .no, .no]) (by simp [e1]) ?_
      rintro _ s1 ⟨rfl, rfl⟩
      refine wp_cut (fun ρ' s' => s' = s1 ∧ (∃ w, (∃ y, Pl y ∧ d = .tup [.str w, y]) ∨ (∃ y z, Pl y ∧ Pl z ∧ d = .tup [.str w, y, z])) ∧ ρ' = [.val d, .val (.int (m : Int)), .no, .no, .no, .no]) ?_ ?_
      · cases hp with
        | tup ds hds =>
          match ds, hds with
          | [], _ => simp [nodeOf, msV]
          | [x], _ => simp [nodeOf, msV]
          | [x, y], hds =>
            have hy := hds y (by simp)
            have hx := hds x (by simp)
            have i0 : ixD (.tup [x, y]) (.int 0) = some x := rfl
            cases hx with
            | str w => simp [i0, hy]
            | _ => simp [i0, nodeOf, msV]
          | [x, y, z], hds =>
            have hx := hds x (by simp)
            have hy := hds y (by simp)
            have hz := hds z (by simp)
            have i0 : ixD (.tup [x, y, z]) (.int 0) = some x := rfl
            cases hx with
            | str w =>
              simp [i0]
              exact ⟨w, y, hy, z, hz, rfl, rfl, rfl⟩
            | _ => simp [i0, nodeOf, msV]
          | x :: y :: z :: u :: ds, _ =>
            have h2 : ¬ (2 = (ds.length : Int) + 1 + 1 + 1 + 1) := by omega
            have h3 : ¬ (3 = (ds.length : Int) + 1 + 1 + 1 + 1) := by omega
            simp [nodeOf, msV, h2, h3]
        | _ => simp [nodeOf, msV]
      rintro _ s2 ⟨rfl, ⟨w, hw⟩, rfl⟩
      refine wp_cut (fun ρ' s' => s' = s2 ∧ (∃ xs : List D, xs.length ≤ 24 ∧ ((d = .tup [.str w, .tup xs] ∧ (w = "all" ∨ w = "some")) ∨ ∃ y, Pl y ∧ d = .tup [.str w, y, .tup xs])) ∧ ρ' = [.val d, .val (.int (m : Int)), .no, .no, .no, .no]) ?_ ?_
      · rcases hw with ⟨y, hy, rfl⟩ | ⟨y, z, hy, hz, rfl⟩
        · have i0 : ixD (.tup [.str w, y]) (.int 0) = some (.str w) := rfl
          have i1 : ixD (.tup [.str w, y]) (.int (-1)) = some y := rfl
          have ni : notInD (.str w) (.tup [.str "all", .str "some"]) = some (.bl (!decide (w ∈ (["all", "some"] : List Str)))) := notIn_strT (w := w) (ws := ["all", "some"])
          by_cases hw : w = "all" ∨ w = "some"
          · rw [decide_eq_true (show w ∈ (["all", "some"] : List Str) by simpa using hw)] at ni
            cases hy with
            | tup xs hxs =>
              by_cases hl : xs.length ≤ 24
              · have hl2 : ¬ (24 : Int) < (xs.length : Int) := by omega
                have hl3 : ¬ 24 < xs.length := by omega
                simp [i0, i1, ni, hl, hl2, hl3, hw]
              · have hl2 : (24 : Int) < (xs.length : Int) := by omega
                have hl3 : 24 < xs.length := by omega
                have no : nodeOf (.tup [.str w, .tup xs]) = none := by rw [nodeOf, if_neg (fun z => hl z.2)]
                simp [i0, i1, ni, hl, hl2, hl3, no, msV]
            | _ => simp [i0, i1, ni, nodeOf, msV]
          · rw [decide_eq_false (show ¬ (w ∈ (["all", "some"] : List Str)) by simpa using hw)] at ni
            have no : nodeOf (.tup [.str w, y]) = none := by
              cases hy with
              | tup xs hxs => rw [nodeOf, if_neg (fun z => hw z.1)]
              | _ => simp [nodeOf]
            simp [i0, i1, ni, no, msV]
        · have i0 : ixD (.tup [.str w, y, z]) (.int 0) = some (.str w) := rfl
          have i1 : ixD (.tup [.str w, y, z]) (.int (-1)) = some z := rfl
          cases hz with
          | tup xs hxs =>
            by_cases hl : xs.length ≤ 24
            · have hl2 : ¬ (24 : Int) < (xs.length : Int) := by omega
              have hl3 : ¬ 24 < xs.length := by omega
              simp [i0, i1, hl, hl2, hl3]
              exact ⟨xs, hl, y, hy, rfl, rfl⟩
            · have hl2 : (24 : Int) < (xs.length : Int) := by omega
              have hl3 : 24 < xs.length := by omega
              have no : nodeOf (.tup [.str w, y, .tup xs]) = none := by rw [nodeOf, if_neg (fun z => hl z.2.2)]
              simp [i0, i1, hl, hl2, hl3, no, msV]
          | _ => simp [i0, i1, nodeOf, msV]
      rintro _ s3 ⟨rfl, ⟨xs, hl, hw2⟩, rfl⟩
      refine wp_cut (fun ρ' s' => s' = s3 ∧ nodeOf d = some xs ∧ ixD d (.int (-1)) = some (.tup xs) ∧ ρ' = [.val d, .val (.int (m : Int)), .no, .no, .no, .no]) ?_ ?_
      · rcases hw2 with ⟨rfl, hws⟩ | ⟨y, hy, rfl⟩
        · have no : nodeOf (.tup [.str w, .tup xs]) = some xs := by rw [nodeOf, if_pos ⟨hws, hl⟩]
          have i1 : ixD (.tup [.str w, .tup xs]) (.int (-1)) = some (.tup xs) := rfl
          simp [no, i1]
        · have i0 : ixD (.tup [.str w, y, .tup xs]) (.int 0) = some (.str w) := rfl
          have i1 : ixD (.tup [.str w, y, .tup xs]) (.int 1) = some y := rfl
          have i2 : ixD (.tup [.str w, y, .tup xs]) (.int (-1)) = some (.tup xs) := rfl
          have el := e_lintP (K := K) (cl := cl) (lo := 0) (hi := 25) hy
          by_cases hw : w = "least"
          · subst hw
            cases hn : isIntD 0 25 y with
            | true =>
              rw [hn] at el
              have no : nodeOf (.tup [.str "least", y, .tup xs]) = some xs := by rw [nodeOf, if_pos ⟨rfl, hn, hl⟩]
              simp [i0, i1, i2, el, no]
            | false =>
              rw [hn] at el
              have no : nodeOf (.tup [.str "least", y, .tup xs]) = none := by rw [nodeOf, if_neg (fun z => by have := z.2.1; rw [hn] at this; cases this)]
              simp [i0, i1, el, no, msV]
          · have ne : neD (.str w) (.str "least") = some (.bl true) := by simp [hw]
            have no : nodeOf (.tup [.str w, y, .tup xs]) = none := by rw [nodeOf, if_neg (fun z => hw z.1)]
            simp [i0, ne, no, msV]
      rintro _ s4 ⟨rfl, no, im, rfl⟩
      rw [no]
      simp only
      have ih : ∀ x ∈ xs, (m__law_measure k [x, .int (m : Int)] : M (MemS K cl) D) = M.pure (msV (ms m k x)) := fun x hx => e_measD (hsub xs no x hx)
      obtain ⟨os, hos⟩ : ∃ os, os = xs.map (ms m k) := ⟨_, rfl⟩
      refine wp_cut (fun ρ' s' => s' = s4 ∧ ρ' = [.val d, .val (.int (m : Int)), .val (.lst (os.map msV)), .no, .no, .no]) ?_ ?_
      · simp [im]
        have c := compL_map (B := MemS K cl) (f := compF (aName 3) tY (xCall (m__law_measure k) (aC (eVar 3) (aC (eVar 1) (aN)))) (wipeE [some d, some (.int (m : Int)), none, none, none, none] [3])) (g := fun d : D => d) (k := fun x => msV (ms m k x)) (as := xs) (fun x hx => by
          simp only [compF]
          simp [wipeE, setsE, ih x hx])
        rw [List.map_id'] at c
        rw [c]
        simp [hos, List.map_map, Function.comp_def]
      rintro _ s5 ⟨rfl, rfl⟩
      rw [← hos]
      have hin : inD .non (.lst (os.map msV)) = some (.bl (decide (none ∈ os))) := by
        rw [inL_da (k := 1) (j := 2) (show Da 1 .non by simp) (fun e he => by obtain ⟨o, _, rfl⟩ := List.mem_map.mp he; exact da_msV)]
        congr 2
        rw [decide_eq_decide, List.mem_map]
        exact ⟨fun ⟨o, ho, e⟩ => by rw [msV_inj.mp e] at ho; exact ho, fun h => ⟨none, h, rfl⟩⟩
      by_cases hn : none ∈ os
      · have hc := comb_none.mpr hn
        simp [hin, hn, hc, msV]
      · obtain ⟨ps, hps⟩ := all_some hn
        have hm : os.map msV = ps.map prD := by rw [hps, List.map_map]; rfl
        have hlen : ps.length ≤ 24 := by
          have h1 : os.length = xs.length := by rw [hos, List.length_map]
          rw [hps, List.length_map] at h1
          omega
        rw [hm, decide_eq_false hn] at hin
        rw [hm, hps, comb_some]
        have hadd : addD (.lst [.int 0]) (.lst (iL (ps.map (·.1)))) = some (.lst (.int 0 :: iL (ps.map (·.1)))) := by
          show (if _ then _ else _) = _
          rw [if_pos (by simp [sizeLine_eq]; omega)]
          rfl
        have hmx := max_iL (l := ps.map (·.1))
        have hsm := sum_iL (l := ps.map (·.2))
        have c1 : compL (B := MemS K cl) (compF (aTup (aCons (aName 4) (aCons (aName 5) (aNil)))) tY (eVar 4) (wipeE [some d, some (.int (m : Int)), some (.lst (ps.map prD)), none, none, none] [4, 5])) (ps.map prD) = M.pure (iL (ps.map (·.1))) := by
          have := compL_map (B := MemS K cl) (f := compF (aTup (aCons (aName 4) (aCons (aName 5) (aNil)))) tY (eVar 4) (wipeE [some d, some (.int (m : Int)), some (.lst (ps.map prD)), none, none, none] [4, 5])) (g := prD) (k := fun p => iD p.1) (as := ps) (fun p hp => by
            simp only [compF]
            simp [wipeE, setsE])
          rw [this]
          show M.pure _ = M.pure (List.map iD (List.map _ ps))
          rw [List.map_map]
          rfl
        have c2 : compL (B := MemS K cl) (compF (aTup (aCons (aName 4) (aCons (aName 5) (aNil)))) tY (eVar 5) (wipeE [some d, some (.int (m : Int)), some (.lst (ps.map prD)), none, none, none] [4, 5])) (ps.map prD) = M.pure (iL (ps.map (·.2))) := by
          have := compL_map (B := MemS K cl) (f := compF (aTup (aCons (aName 4) (aCons (aName 5) (aNil)))) tY (eVar 5) (wipeE [some d, some (.int (m : Int)), some (.lst (ps.map prD)), none, none, none] [4, 5])) (g := prD) (k := fun p => iD p.2) (as := ps) (fun p hp => by
            simp only [compF]
            simp [wipeE, setsE])
          rw [this]
          show M.pure _ = M.pure (List.map iD (List.map _ ps))
          rw [List.map_map]
          rfl
        refine wp_cut (fun ρ' s' => s' = s5 ∧ ρ' = [.val d, .val (.int (m : Int)), .val (.lst (ps.map prD)), .no, .no, .no]) (by simp [hin]) ?_
        rintro _ s6 ⟨rfl, rfl⟩
        simp
        rw [c1, c2]
        have one : ∀ n : Nat, addD (.int 1) (.int (n : Int)) = some (.int ((1 + n : Nat) : Int)) := fun n => by
          have : ((1 + n : Nat) : Int) = 1 + (n : Int) := by omega
          rw [this]
          simp
        rw [wp_pure_iff, hadd, wp_lift_iff, hmx, wp_lift_iff, one, wp_lift_iff, wp_pure_iff, hsm, wp_lift_iff, one, wp_lift_iff]
        exact ⟨rfl, rfl⟩
theorem e_lis_aimD {m : Nat} {d : D} (h : Hd 14 d) : (m__law_is_aim [d, .int (m : Int)] : M (MemS K cl) D) = M.pure (.bl (match ms m 14 d with
    | none => false
    | some p => decide (p.1 ≤ 8) && decide (p.2 ≤ 200))) := by
  have e := e_measD (K := K) (cl := cl) (m := m) h
  refine pure_of_wp fun s => ?_
  simp only [m__law_is_aim, b__law_is_aim, s_runF, startE]
  cases hq : ms (m : Int) 14 d with
  | none =>
    rw [hq] at e
    simp [e, msV]
  | some p =>
    obtain ⟨a, b⟩ := p
    rw [hq] at e
    have i0 : ixD (.tup [.int (a : Int), .int (b : Int)]) (.int 0) = some (.int (a : Int)) := rfl
    have i1 : ixD (.tup [.int (a : Int), .int (b : Int)]) (.int 1) = some (.int (b : Int)) := rfl
    by_cases h8 : a ≤ 8
    · have h8' : (a : Int) ≤ 8 := by omega
      by_cases h2 : b ≤ 200
      · have h2' : (b : Int) ≤ 200 := by omega
        simp [e, msV, i0, i1, h8, h2, h8', h2', D.isNon]
      · have h2' : ¬ (b : Int) ≤ 200 := by omega
        simp [e, msV, i0, i1, h8, h2, h8', h2', D.isNon]
    · have h8' : ¬ (a : Int) ≤ 8 := by omega
      simp [e, msV, i0, i1, h8, h8', D.isNon]
end
theorem pfL_none {f : D → Option Nat} : ∀ {ds : List D} {acc : Nat} {x : D}, x ∈ ds → f x = none → pfL f acc ds = none
  | [], _, _, h, _ => nomatch h
  | d :: ds, acc, x, h, e => by
    rw [pfL]
    cases hd : f d with
    | none => rfl
    | some p =>
      simp only
      split
      · rfl
      · rcases List.mem_cons.mp h with rfl | h
        · rw [e] at hd; cases hd
        · exact pfL_none h e
theorem pfL_some {f : D → Option Nat} {g : D → Nat} : ∀ {ds : List D} {acc : Nat}, (∀ x ∈ ds, f x = some (g x)) → acc ≤ 200 → pfL f acc ds = if acc + (ds.map g).sum ≤ 200 then some (acc + (ds.map g).sum) else none
  | [], acc, _, h => by
    rw [pfL]
    simp [h]
  | d :: ds, acc, hf, h => by
    rw [pfL, hf d List.mem_cons_self]
    simp only [List.map_cons, List.sum_cons]
    by_cases h2 : 200 < acc + g d
    · rw [if_pos h2, if_neg (by omega)]
    · rw [if_neg h2, pfL_some (fun x hx => hf x (List.mem_cons_of_mem _ hx)) (by omega), ← Nat.add_assoc]
theorem foldr_max_le {l : List Nat} {n : Nat} : l.foldr max 0 ≤ n ↔ ∀ x ∈ l, x ≤ n := by
  induction l with
  | nil => simp
  | cons a l ih =>
    simp only [List.foldr_cons, List.mem_cons, forall_eq_or_imp]
    rw [← ih]
    omega
theorem sum_big {l : List Nat} {x : Nat} (h : x ∈ l) : x ≤ l.sum := by
  induction l with
  | nil => exact nomatch h
  | cons a l ih =>
    rw [List.sum_cons]
    rcases List.mem_cons.mp h with rfl | h
    · omega
    · have := ih h; omega
theorem ms_pos {m : Int} {k : Nat} {d : D} {p : Nat × Nat} (h : ms m k d = some p) : 1 ≤ p.1 := by
  cases k with
  | zero => cases h
  | succ k =>
    rw [ms] at h
    split at h
    · rw [← Option.some.inj h]; exact Nat.le_refl 1
    · split at h
      · cases h
      · rename_i xs _
        cases hc : combH (xs.map (ms m k)) with
        | none => rw [hc] at h; cases h
        | some q =>
          rw [hc] at h
          rw [← Option.some.inj h]
          show 1 ≤ 1 + q.1
          omega
theorem pf_ms {m : Int} : ∀ {k n deep : Nat} {d : D}, Hd k d → deep ≤ n → 1 ≤ deep → pf m n deep d = (match ms m k d with
    | none => none
    | some p => if p.1 ≤ deep ∧ p.2 ≤ 200 then some p.2 else none)
  | 0, _, _, _, h, _, _ => False.elim h
  | k + 1, 0, _, _, _, h, h1 => absurd h1 (by omega)
  | k + 1, n + 1, deep, d, h, hn, h1 => by
    obtain ⟨hp, hsub⟩ := h
    cases hi : isIntD 0 m d with
    | true =>
      rw [pf, if_pos hi, ms, if_pos hi]
      simp only
      rw [if_pos (by omega)]
    | false =>
      rw [pf, if_neg (by rw [hi]; exact Bool.false_ne_true), ms, if_neg (by rw [hi]; exact Bool.false_ne_true)]
      cases hno : nodeOf d with
      | none => rfl
      | some xs =>
        simp only
        by_cases hn2 : none ∈ xs.map (ms m k)
        · rw [comb_none.mpr hn2]
          simp only [Option.map_none]
          obtain ⟨x, hx, hxe⟩ := List.mem_map.mp hn2
          by_cases hz : deep = 1 ∧ 0 < xs.length
          · rw [if_pos hz]
          · rw [if_neg hz]
            have hd1 : 1 ≤ deep - 1 := by
              have : ¬ deep = 1 := fun z => hz ⟨z, List.length_pos_of_mem hx⟩
              omega
            refine pfL_none hx ?_
            rw [pf_ms (k := k) (hsub xs hno x hx) (by omega) hd1, hxe]
        · obtain ⟨ps, hps⟩ := all_some hn2
          rw [hps, comb_some]
          simp only [Option.map_some]
          have hlen : ps.length = xs.length := by
            have := congrArg List.length hps
            simpa using this.symm
          by_cases hz : deep = 1 ∧ 0 < xs.length
          · rw [if_pos hz, if_neg]
            rintro ⟨q, _⟩
            have q0 : (ps.map (·.1)).foldr max 0 ≤ 0 := by omega
            have q1 := foldr_max_le.mp q0
            cases ps with
            | nil => simp at hlen; omega
            | cons p ps =>
              have p0 := q1 p.1 (by simp)
              have hx : some p ∈ xs.map (ms m k) := by rw [hps]; simp
              obtain ⟨x, _, hxe⟩ := List.mem_map.mp hx
              have : 1 ≤ p.1 := ms_pos hxe
              omega
          · rw [if_neg hz]
            by_cases hx0 : xs = []
            · subst hx0
              have : ps = [] := List.eq_nil_of_length_eq_zero (by simpa using hlen)
              subst this
              rw [pfL]
              simp
              omega
            · have hd1 : 1 ≤ deep - 1 := by
                have : ¬ deep = 1 := fun z => hz ⟨z, List.length_pos_iff.mpr hx0⟩
                omega
              have ih : ∀ x ∈ xs, pf m n (deep - 1) x = (match ms m k x with
                | none => none
                | some p => if p.1 ≤ deep - 1 ∧ p.2 ≤ 200 then some p.2 else none) := fun x hx => pf_ms (hsub xs hno x hx) (by omega) hd1
              by_cases hall : ∀ p ∈ ps, p.1 ≤ deep - 1 ∧ p.2 ≤ 200
              · have hf : ∀ x ∈ xs, pf m n (deep - 1) x = some (((ms m k x).getD (0, 0)).2) := fun x hx => by
                  rw [ih x hx]
                  have hm : ms m k x ∈ xs.map (ms m k) := List.mem_map.mpr ⟨x, hx, rfl⟩
                  rw [hps] at hm
                  obtain ⟨p, hp, e⟩ := List.mem_map.mp hm
                  rw [← e]
                  simp only [Option.getD_some]
                  rw [if_pos (hall p hp)]
                rw [pfL_some hf (by omega)]
                have es : (xs.map fun x => ((ms m k x).getD (0, 0)).2) = ps.map (·.2) := by
                  have : (xs.map (ms m k)).map (fun o => (o.getD (0, 0)).2) = (ps.map some).map fun o => (o.getD (0, 0)).2 := by rw [hps]
                  rw [List.map_map, List.map_map] at this
                  exact this
                rw [es]
                have hmx : (ps.map (·.1)).foldr max 0 ≤ deep - 1 := foldr_max_le.mpr fun x hx => by
                  obtain ⟨p, hp, rfl⟩ := List.mem_map.mp hx
                  exact (hall p hp).1
                by_cases h200 : 1 + (ps.map (·.2)).sum ≤ 200
                · rw [if_pos h200, if_pos ⟨by omega, h200⟩]
                · rw [if_neg h200, if_neg fun z => h200 z.2]
              · have hex : ∃ p ∈ ps, ¬ (p.1 ≤ deep - 1 ∧ p.2 ≤ 200) := by
                  refine Classical.byContradiction fun z => hall fun p hp => Classical.byContradiction fun y => z ⟨p, hp, y⟩
                obtain ⟨p, hp, hno2⟩ := hex
                have hx : some p ∈ xs.map (ms m k) := by rw [hps]; exact List.mem_map.mpr ⟨p, hp, rfl⟩
                obtain ⟨x, hxm, hxe⟩ := List.mem_map.mp hx
                have e1 : pf m n (deep - 1) x = none := by
                  rw [ih x hxm, hxe]
                  simp only
                  rw [if_neg hno2]
                rw [pfL_none hxm e1, if_neg]
                rintro ⟨q1, q2⟩
                have m1 := foldr_max_le.mp (show (ps.map (·.1)).foldr max 0 ≤ deep - 1 by omega) p.1 (List.mem_map.mpr ⟨p, hp, rfl⟩)
                have m2 := sum_big (show p.2 ∈ ps.map (·.2) from List.mem_map.mpr ⟨p, hp, rfl⟩)
                exact hno2 ⟨m1, by omega⟩
end LW
namespace LW
open PySem PySem.Spec PyProof.Rows L2 RZ DN
theorem node_d {d : D} {xs : List D} (h : nodeOf d = some xs) : ∃ kd : Kd, d = kd.d xs ∧ kd.ok = true := by
  unfold nodeOf at h
  split at h
  · rename_i w ys
    split at h
    · rename_i c
      obtain rfl := Option.some.inj h
      rcases c.1 with rfl | rfl
      · exact ⟨.all, rfl, rfl⟩
      · exact ⟨.some, rfl, rfl⟩
    · cases h
  · rename_i w n ys
    split at h
    · rename_i c
      obtain rfl := Option.some.inj h
      obtain ⟨rfl, c2, c3⟩ := c
      obtain ⟨e, l, u⟩ := int_of c2
      refine ⟨.least (toI n).toNat, ?_, ?_⟩
      · show D.tup [.str "least", n, .tup ys] = .tup [.str "least", .int ((toI n).toNat : Int), .tup ys]
        rw [Int.toNat_of_nonneg l, ← e]
      · simp [Kd.ok]; omega
    · cases h
  · cases h
theorem aims_of {m n deep : Nat} : ∀ {xs : List D} {acc c : Nat}, (∀ x ∈ xs, ∀ c, pf m n deep x = some c → ∃ a : Aim, x = a.d ∧ Ht deep a ∧ a.pts m deep = some c) → pfL (pf m n deep) acc xs = some c →
    ∃ as : List Aim, xs = as.map Aim.d ∧ (∀ a ∈ as, Ht deep a) ∧ Aim.ptsL m deep acc as = some c
  | [], acc, c, _, h => by
    refine ⟨[], rfl, ?_, ?_⟩
    · intro a ha
      cases ha
    · rw [pfL] at h
      rw [Aim.ptsL]
      exact h
  | x :: xs, acc, c, ih, h => by
    rw [pfL] at h
    cases hx : pf m n deep x with
    | none => rw [hx] at h; cases h
    | some p =>
      rw [hx] at h
      simp only at h
      split at h
      · cases h
      · rename_i h200
        obtain ⟨a, e1, e2, e3⟩ := ih x List.mem_cons_self p hx
        obtain ⟨as, f1, f2, f3⟩ := aims_of (fun y hy => ih y (List.mem_cons_of_mem _ hy)) h
        refine ⟨a :: as, by rw [e1, f1]; rfl, fun b hb => ?_, ?_⟩
        · rcases List.mem_cons.mp hb with rfl | hb
          · exact e2
          · exact f2 b hb
        · rw [Aim.ptsL, e3]
          simp only
          rw [if_neg h200]
          exact f3
theorem aim_of {m : Nat} : ∀ {n deep : Nat} {d : D} {c : Nat}, 1 ≤ deep → pf m n deep d = some c → ∃ a : Aim, d = a.d ∧ Ht deep a ∧ a.pts m deep = some c
  | 0, deep, d, c, _, h => by cases h
  | n + 1, deep + 1, d, c, _, h => by
    cases hi : isIntD 0 (m : Int) d with
    | true =>
      rw [pf, if_pos hi] at h
      obtain ⟨e, l, u⟩ := int_of hi
      refine ⟨.at (toI d).toNat, ?_, True.intro, ?_⟩
      · rw [d_at, Int.toNat_of_nonneg l, ← e]
      · rw [Aim.pts, if_pos (by omega)]
        exact h
    | false =>
      rw [pf, if_neg (by rw [hi]; exact Bool.false_ne_true)] at h
      cases hno : nodeOf d with
      | none => rw [hno] at h; cases h
      | some xs =>
        rw [hno] at h
        simp only at h
        split at h
        · cases h
        · rename_i hz
          obtain ⟨kd, ed, ok⟩ := node_d hno
          have hl := node_len hno
          have ih : ∀ x ∈ xs, ∀ c, pf m n (deep + 1 - 1) x = some c → ∃ a : Aim, x = a.d ∧ Ht (deep + 1 - 1) a ∧ a.pts m (deep + 1 - 1) = some c := fun x hx c hc => by
            have : 1 ≤ deep + 1 - 1 := by
              have : ¬ deep + 1 = 1 := fun z => hz ⟨z, List.length_pos_of_mem hx⟩
              omega
            exact aim_of this hc
          obtain ⟨as, e1, e2, e3⟩ := aims_of ih h
          refine ⟨.node kd as, by rw [d_node, ed, e1], e2, ?_⟩
          rw [Aim.pts, if_pos ⟨ok, by rw [e1, List.length_map] at hl; exact hl, by rw [e1, List.length_map] at hz; exact hz⟩]
          exact e3
section
variable {K : PySem.W.Frag} {cl : CTab} {s : Mem}
theorem e_isaimD {h d : D} {bs : List D} (g : HallOf h bs) (hb : 1 ≤ bs.length) (hp : Pl d) : (m_is_aim [h, d] : M (MemS K cl) D) = M.pure (.bl (pf ((bs.length - 1 : Nat) : Int) 10 8 d).isSome) := by
  have e1 := e_anyD (K := K) (cl := cl) (m := bs.length - 1) hp
  have : (bs.length : Int) - 1 = ((bs.length - 1 : Nat) : Int) := by omega
  simp [m_is_aim, b_is_aim, startE, e_boards g, this, e1]
theorem e_wordReach {h d : D} {bs : List D} (g : HallOf h bs) (hb : 1 ≤ bs.length) (hb2 : bs.length ≤ 1000) (hp : Pl d) :
    (m__law_word_v3 [.int 1, h, d] : M (MemS K cl) D) = M.pure (.str (if (pf ((bs.length - 1 : Nat) : Int) 10 8 d).isSome = true then "let" else "none")) := by
  have e1 := e_isaimD (K := K) (cl := cl) g hb hp
  have a1 : t_of "NoAim" "NoAim" = some true := by decide +kernel
  cases hq : pf ((bs.length - 1 : Nat) : Int) 10 8 d with
  | none =>
    rw [hq] at e1
    have e2 : (m_reached [h, d, .tup []] : M (MemS K cl) D) = errM ⟨"NoAim", none⟩ := by
      simp [m_reached, b_reached, m_check_aim, b_check_aim, startE, e1]
    refine pure_of_wp fun s => ?_
    simp [m__law_word_v3, b__law_word_v3, startE, e2, catchX, wp, M.bind, M.pure, noErr, lift, retF, hGo, errM, a1]
  | some c =>
    obtain ⟨a, rfl, ha, hpt⟩ := aim_of (by omega) hq
    have e2 := e_reached (K := K) (cl := cl) (l := []) g hb ha (by omega) (by rw [hpt]; rfl) hb2 (fun i hi => nomatch hi) List.Pairwise.nil
    simp only [List.map_nil] at e2
    refine pure_of_wp fun s => ?_
    simp [m__law_word_v3, b__law_word_v3, startE, e2, catchX, wp, M.bind, M.pure, noErr, lift, retF, errM]
theorem e_wordMoved {h d : D} (hp : Pl d) :
    (m__law_word_v3 [.int 0, h, d] : M (MemS K cl) D) = M.pure (.str (if (pf ((1000000 : Nat) : Int) 10 8 d).isSome = true then "let" else "none")) := by
  have e1 := e_anyD (K := K) (cl := cl) (m := 1000000) hp
  have a1 : t_of "NoAim" "NoAim" = some true := by decide +kernel
  cases hq : pf ((1000000 : Nat) : Int) 10 8 d with
  | none =>
    rw [hq] at e1
    have e6 : ((1000000 : Nat) : Int) = 1000000 := rfl
    rw [e6] at e1
    have e2 : (m_moved [d, .int 0] : M (MemS K cl) D) = errM ⟨"NoAim", none⟩ := by
      simp [m_moved, b_moved, startE, e1]
    refine pure_of_wp fun s => ?_
    simp [m__law_word_v3, b__law_word_v3, startE, e2, catchX, wp, M.bind, M.pure, noErr, lift, retF, hGo, errM, a1]
  | some c =>
    obtain ⟨a, rfl, ha, hpt⟩ := aim_of (by omega) hq
    have e2 := e_moved (K := K) (cl := cl) (s := 0) ha (by omega) (by rw [hpt]; rfl) (by omega) (by rw [mv_zero ha, hpt]; rfl)
    have c0 : ((0 : Nat) : Int) = 0 := rfl
    rw [c0] at e2
    refine pure_of_wp fun s => ?_
    simp [m__law_word_v3, b__law_word_v3, startE, e2, catchX, wp, M.bind, M.pure, noErr, lift, retF, errM]
end
end LW
namespace LW
open PySem PySem.Spec PyProof.Rows L2 RZ DN
inductive Sm : Nat → D → Prop
  | non (k : Nat) : Sm k .non
  | bl (k : Nat) (b : Bool) : Sm k (.bl b)
  | int (k : Nat) (i : Int) (h : i.natAbs < 10 ^ 12) : Sm k (.int i)
  | str (k : Nat) (x : Str) (h : (x.cps.toList.all fun c => decide (c < 128)) = true) (hl : x.cps.size ≤ 100) : Sm k (.str x)
  | tup (k : Nat) (xs : List D) (hl : xs.length ≤ 20) (h : ∀ d ∈ xs, Sm k d) : Sm (k + 1) (.tup xs)
  | lst (k : Nat) (xs : List D) (hl : xs.length ≤ 20) (h : ∀ d ∈ xs, Sm k d) : Sm (k + 1) (.lst xs)
def Wt : Nat → Nat
  | 0 => 100
  | k + 1 => 20 * (Wt k + 1)
theorem plainL_of : ∀ {xs : List D}, (∀ d ∈ xs, d.plain = true) → D.plainL xs = true
  | [], _ => rfl
  | d :: ds, h => by rw [D.plainL, h d List.mem_cons_self, plainL_of fun e he => h e (List.mem_cons_of_mem _ he)]; rfl
theorem shL_of : ∀ {xs : List D}, (∀ d ∈ xs, d.sh = true) → D.shL xs = true
  | [], _ => by rw [D.shL]
  | d :: ds, h => by rw [D.shL, h d List.mem_cons_self, shL_of fun e he => h e (List.mem_cons_of_mem _ he)]; rfl
theorem depthL_of {k : Nat} : ∀ {xs : List D}, (∀ d ∈ xs, d.py.depth ≤ k) → PyData.depthAll (D.pyL xs) ≤ k
  | [], _ => by simp [D.pyL, PyData.depthAll]
  | d :: ds, h => by
    have a := h d List.mem_cons_self
    have b := depthL_of (xs := ds) fun e he => h e (List.mem_cons_of_mem _ he)
    simp only [D.pyL, PyData.depthAll]
    omega
theorem weightL_of {w : Nat} : ∀ {xs : List D}, (∀ d ∈ xs, d.py.weight ≤ w) → PyData.weightAll (D.pyL xs) ≤ xs.length * (w + 1)
  | [], _ => by simp [D.pyL, PyData.weightAll]
  | d :: ds, h => by
    have a := h d List.mem_cons_self
    have b := weightL_of (xs := ds) fun e he => h e (List.mem_cons_of_mem _ he)
    simp only [D.pyL, PyData.weightAll, List.length_cons, Nat.add_mul]
    omega
theorem Wt_pos : ∀ k : Nat, 100 ≤ Wt k
  | 0 => Nat.le_refl _
  | k + 1 => by have := Wt_pos k; rw [Wt]; omega
theorem Sm.fit {k : Nat} {d : D} (h : Sm k d) : d.plain = true ∧ d.sh = true ∧ d.py.depth ≤ k ∧ d.py.weight ≤ Wt k := by
  induction h with
  | non k => simp [D.plain, D.sh, D.py, PyData.depth, PyData.weight]
  | bl k b => simp [D.plain, D.sh, D.py, PyData.depth, PyData.weight]
  | int k i h =>
    have w := Wt_pos k
    refine ⟨by simp [D.plain], by simpa [D.sh] using h, by simp [D.py, PyData.depth], ?_⟩
    simp only [D.py, PyData.weight]
    split
    · omega
    · rename_i z
      have z : i.natAbs ≠ 0 := by simpa using z
      have : i.natAbs.log2 < 40 := (Nat.log2_lt z).mpr (Nat.lt_trans h (by decide))
      omega
  | str k x h hl =>
    have w := Wt_pos k
    refine ⟨by simp [D.plain], by simpa [D.sh] using h, by simp [D.py, PyData.depth], ?_⟩
    simp only [D.py, PyData.weight]
    omega
  | tup k xs hl h ih =>
    have w := weightL_of (fun d hd => (ih d hd).2.2.2)
    have e := depthL_of (fun d hd => (ih d hd).2.2.1)
    refine ⟨by simpa [D.plain] using plainL_of fun d hd => (ih d hd).1, by simpa [D.sh] using shL_of fun d hd => (ih d hd).2.1, by simp only [D.py, PyData.depth]; omega, ?_⟩
    simp only [D.py, PyData.weight]
    rw [Wt]
    exact Nat.le_trans w (Nat.mul_le_mul_right _ hl)
  | lst k xs hl h ih =>
    have w := weightL_of (fun d hd => (ih d hd).2.2.2)
    have e := depthL_of (fun d hd => (ih d hd).2.2.1)
    refine ⟨by simpa [D.plain] using plainL_of fun d hd => (ih d hd).1, by simpa [D.sh] using shL_of fun d hd => (ih d hd).2.1, by simp only [D.py, PyData.depth]; omega, ?_⟩
    simp only [D.py, PyData.weight]
    rw [Wt]
    exact Nat.le_trans w (Nat.mul_le_mul_right _ hl)
theorem Sm.shows {d : D} (h : Sm 3 d) : d.shows = true := by
  obtain ⟨h1, h2, h3, h4⟩ := h.fit
  simp [D.shows, h1, h2, pq_plain d h1]
  exact ⟨by omega, Nat.le_trans h4 (by decide)⟩
theorem Sm.pl {k : Nat} {d : D} (h : Sm k d) : Pl d := by
  induction h with
  | tup k xs hl h ih => exact .tup xs ih
  | lst k xs hl h ih => exact .lst xs
  | non => exact .non
  | bl => exact .bl _
  | int => exact .int _
  | str => exact .str _
theorem Sm.up {k : Nat} {d : D} (h : Sm k d) : Sm (k + 1) d := by
  induction h with
  | tup k xs hl h ih => exact .tup _ xs hl ih
  | lst k xs hl h ih => exact .lst _ xs hl ih
  | non => exact .non _
  | bl => exact .bl _ _
  | int _ _ h => exact .int _ _ h
  | str _ _ h hl => exact .str _ _ h hl
def Ok24 (d : D) : Prop := Pl d ∧ (∀ xs, d = .tup xs → xs.length ≤ 1000) ∧ d.shows = true
theorem Sm.ok {d : D} (h : Sm 3 d) : Ok24 d := ⟨h.pl, fun xs e => by
  subst e
  cases h with
  | tup k xs hl h => omega, h.shows⟩
theorem slT_take24 {xs : List D} {k : Nat} : slD (.tup xs) none (some (k : Int)) = some (.tup (xs.take k)) := by
  have := cut_to (g := fun d : D => d) (r := xs) (n := k)
  simpa using this
theorem slT_drop24 {xs : List D} {k : Nat} : slD (.tup xs) (some (k : Int)) none = some (.tup (xs.drop k)) := by
  have := cut_from (g := fun d : D => d) (r := xs) (n := k)
  simpa using this
end LW
namespace LW
open PySem PySem.Spec PyProof.Rows L2 RZ DN
structure Fn (md : Bool) (c k : Nat) (d : D) : Prop where
  pl : Pl d
  r : (if md = true then d.rp2 else d.plain) = true
  sh : d.sh = true
  dp : d.pq.depth ≤ k
  wt : d.pq.weight ≤ c
theorem Fn.mono {md : Bool} {c c' k k' : Nat} {d : D} (h : Fn md c k d) (hc : c ≤ c') (hk : k ≤ k') : Fn md c' k' d := ⟨h.pl, h.r, h.sh, Nat.le_trans h.dp hk, Nat.le_trans h.wt hc⟩
theorem rp2L_of : ∀ {xs : List D}, (∀ d ∈ xs, d.rp2 = true) → D.rp2L xs = true
  | [], _ => by rw [D.rp2L]
  | d :: ds, h => by rw [D.rp2L, h d List.mem_cons_self, rp2L_of fun e he => h e (List.mem_cons_of_mem _ he)]; rfl
theorem pqdepth_of {k : Nat} : ∀ {xs : List D}, (∀ d ∈ xs, d.pq.depth ≤ k) → PyData.depthAll (D.pqL xs) ≤ k
  | [], _ => by simp [D.pqL, PyData.depthAll]
  | d :: ds, h => by
    have a := h d List.mem_cons_self
    have b := pqdepth_of (xs := ds) fun e he => h e (List.mem_cons_of_mem _ he)
    simp only [D.pqL, PyData.depthAll]
    omega
theorem pqweight_of {w : Nat} : ∀ {xs : List D}, (∀ d ∈ xs, d.pq.weight ≤ w) → PyData.weightAll (D.pqL xs) ≤ xs.length * (w + 1)
  | [], _ => by simp [D.pqL, PyData.weightAll]
  | d :: ds, h => by
    have a := h d List.mem_cons_self
    have b := pqweight_of (xs := ds) fun e he => h e (List.mem_cons_of_mem _ he)
    simp only [D.pqL, PyData.weightAll, List.length_cons, Nat.add_mul]
    omega
theorem Fn.tup {md : Bool} {c k : Nat} {xs : List D} (h : ∀ d ∈ xs, Fn md c k d) : Fn md (xs.length * (c + 1)) (k + 1) (.tup xs) := by
  refine ⟨.tup xs fun d hd => (h d hd).pl, ?_, by simpa [D.sh] using shL_of fun d hd => (h d hd).sh, ?_, ?_⟩
  · cases md with
    | true => simpa [D.rp2] using rp2L_of fun d hd => by simpa using (h d hd).r
    | false => simpa [D.plain] using plainL_of fun d hd => by simpa using (h d hd).r
  · have := pqdepth_of fun d hd => (h d hd).dp
    simp only [D.pq, PyData.depth]
    omega
  · simp only [D.pq, PyData.weight]
    exact pqweight_of fun d hd => (h d hd).wt
theorem Fn.lst {c k : Nat} {xs : List D} (h : ∀ d ∈ xs, Fn false c k d) : Fn false (xs.length * (c + 1)) (k + 1) (.lst xs) := by
  refine ⟨.lst xs, ?_, by simpa [D.sh] using shL_of fun d hd => (h d hd).sh, ?_, ?_⟩
  · simpa [D.plain] using plainL_of fun d hd => by simpa using (h d hd).r
  · have := pqdepth_of fun d hd => (h d hd).dp
    simp only [D.pq, PyData.depth]
    omega
  · simp only [D.pq, PyData.weight]
    exact pqweight_of fun d hd => (h d hd).wt
theorem Fn.int {md : Bool} {k : Nat} {i : Int} (h : i.natAbs < 2 ^ 20) : Fn md 20 k (.int i) := by
  refine ⟨.int i, by cases md <;> simp [D.rp2, D.plain], by simp [D.sh]; omega, by simp [D.pq, PyData.depth], ?_⟩
  simp only [D.pq, PyData.weight]
  split
  · omega
  · rename_i z
    have z : i.natAbs ≠ 0 := by simpa using z
    have : i.natAbs.log2 < 20 := (Nat.log2_lt z).mpr h
    omega
theorem Fn.bl {md : Bool} {k : Nat} {b : Bool} : Fn md 0 k (.bl b) := ⟨.bl b, by cases md <;> simp [D.rp2, D.plain], by simp [D.sh], by simp [D.pq, PyData.depth], by simp [D.pq, PyData.weight]⟩
theorem Fn.non {md : Bool} {k : Nat} : Fn md 0 k .non := ⟨.non, by cases md <;> simp [D.rp2, D.plain], by simp [D.sh], by simp [D.pq, PyData.depth], by simp [D.pq, PyData.weight]⟩
theorem Fn.str {md : Bool} {k : Nat} {x : Str} (h : (x.cps.toList.all fun c => decide (c < 128)) = true) (hl : x.cps.size ≤ 20) : Fn md 20 k (.str x) := ⟨.str x, by cases md <;> simp [D.rp2, D.plain], by simpa [D.sh] using h, by simp [D.pq, PyData.depth], by simpa [D.pq, PyData.weight] using hl⟩
theorem Fn.dct {k : Nat} : Fn true 0 (k + 1) (.dct [] []) := ⟨.dct _ _, by simp [D.rp2, D.rp2L], by simp [D.sh, D.shL], by simp [D.pq, D.pqL, PyData.depth, PyData.depthKv], by simp [D.pq, D.pqL, PyData.weight, PyData.weightKv]⟩
theorem Fn.shows {md : Bool} {c k : Nat} {d : D} (h : Fn md c k d) (hc : c ≤ 2 ^ 20) (hk : k ≤ 60) : d.shows = true := by
  have h1 := h.r
  have h2 := h.sh
  have h3 : d.pq.depth ≤ 60 := Nat.le_trans h.dp hk
  have h4 : d.pq.weight ≤ 2 ^ 20 := Nat.le_trans h.wt hc
  simp only [D.shows, Bool.and_eq_true, Bool.or_eq_true, decide_eq_true_eq]
  refine ⟨?_, h2, h3, h4⟩
  cases md with
  | true => exact .inr (by simpa using h1)
  | false => exact .inl (by simpa using h1)
theorem depth_in {x : D} : ∀ {xs : List D}, x ∈ xs → x.pq.depth ≤ PyData.depthAll (D.pqL xs)
  | d :: ds, h => by
    simp only [D.pqL, PyData.depthAll]
    rcases List.mem_cons.mp h with rfl | h
    · omega
    · have := depth_in h
      omega
theorem node_depth {d x : D} {xs : List D} (h : nodeOf d = some xs) (hx : x ∈ xs) : x.pq.depth + 2 ≤ d.pq.depth := by
  have h0 := depth_in hx
  obtain ⟨kd, rfl, _⟩ := node_d h
  cases kd <;> simp only [Kd.d, D.pq, D.pqL, PyData.depth, PyData.depthAll] <;> omega
theorem hd_of : ∀ {k : Nat} {d : D}, Pl d → d.pq.depth ≤ 2 * k → Hd (k + 1) d
  | 0, d, hp, h => ⟨hp, fun xs hx x hm => by have := node_depth hx hm; omega⟩
  | k + 1, d, hp, h => ⟨hp, fun xs hx x hm => hd_of (node_mem hp hx hm) (by have := node_depth hx hm; omega)⟩
def W15 : Nat → Nat
  | 0 => 100
  | k + 1 => 9 * W15 k + 93
theorem W15_mono : ∀ k : Nat, 100 ≤ W15 k ∧ W15 k ≤ W15 (k + 1)
  | 0 => by simp [W15]
  | k + 1 => by
    have := W15_mono k
    constructor
    · rw [W15]; omega
    · rw [W15, W15]
      have := W15_mono k
      rw [W15] at this
      omega
theorem fn_kd {md : Bool} {c k n : Nat} {kd : Kd} {xs : List D} (hn : match kd with | .least n => n ≤ 25 | _ => True) (h : ∀ d ∈ xs, Fn md c k d) (hl : xs.length ≤ n) (hc : 20 ≤ n * (c + 1)) : Fn md (3 * (n * (c + 1) + 1)) (k + 2) (kd.d xs) := by
  have ht : Fn md (n * (c + 1)) (k + 1) (.tup xs) := (Fn.tup h).mono (Nat.mul_le_mul_right _ hl) (Nat.le_refl _)
  have hs : ∀ x : Str, x ∈ (["all", "some", "least"] : List Str) → Fn md (n * (c + 1)) (k + 1) (.str x) := fun x hx => by
    have : ∀ x ∈ (["all", "some", "least"] : List Str), (x.cps.toList.all fun c => decide (c < 128)) = true ∧ x.cps.size ≤ 20 := by decide +kernel
    exact (Fn.str (this x hx).1 (this x hx).2).mono hc (Nat.le_refl _)
  cases kd with
  | all =>
    refine (Fn.tup (xs := [.str "all", .tup xs]) fun d hd => ?_).mono (Nat.mul_le_mul_right _ (by simp)) (Nat.le_refl _)
    simp only [List.mem_cons, List.not_mem_nil, or_false] at hd
    rcases hd with rfl | rfl
    · exact hs _ (by simp)
    · exact ht
  | some =>
    refine (Fn.tup (xs := [.str "some", .tup xs]) fun d hd => ?_).mono (Nat.mul_le_mul_right _ (by simp)) (Nat.le_refl _)
    simp only [List.mem_cons, List.not_mem_nil, or_false] at hd
    rcases hd with rfl | rfl
    · exact hs _ (by simp)
    · exact ht
  | least m =>
    have hm : m ≤ 25 := hn
    refine (Fn.tup (xs := [.str "least", .int (m : Int), .tup xs]) fun d hd => ?_).mono (Nat.mul_le_mul_right _ (by simp)) (Nat.le_refl _)
    simp only [List.mem_cons, List.not_mem_nil, or_false] at hd
    rcases hd with rfl | rfl | rfl
    · exact hs _ (by simp)
    · exact (Fn.int (by show m < 2 ^ 20; omega)).mono hc (Nat.le_refl _)
    · exact ht
theorem fn_aim {md : Bool} {many : Nat} (hm : many ≤ 1000) : ∀ {k : Nat} {a : Aim}, Gd many 3 k a → Fn md (W15 (k - 1)) (2 * k) a.d
  | 0, a, h => False.elim h
  | k + 1, .at b, h => by
    have hb : b < many := h
    rw [d_at]
    have := (W15_mono k).1
    exact (Fn.int (by show b < 2 ^ 20; omega)).mono (by show 20 ≤ W15 k; omega) (Nat.le_refl _)
  | k + 1, .node kd as, h => by
    obtain ⟨h1, h2, h3⟩ := h
    rw [d_node]
    cases k with
    | zero =>
      have : as = [] := by
        cases as with
        | nil => rfl
        | cons a as => exact False.elim (h3 a (by simp))
      subst this
      refine (fn_kd (n := 3) (c := 9) (k := 0) h1 (fun d hd => by cases hd) (by simp) (by omega)).mono ?_ (by omega)
      show 3 * (3 * 10 + 1) ≤ 100
      omega
    | succ k =>
      have := fn_kd (n := 3) (c := W15 k) (k := 2 * (k + 1)) (md := md) (kd := kd) (xs := as.map Aim.d) h1 (fun d hd => by
        obtain ⟨a, ha, rfl⟩ := List.mem_map.mp hd
        exact fn_aim hm (h3 a ha)) (by simpa using h2) (by have := (W15_mono k).1; omega)
      refine this.mono ?_ (by omega)
      show 3 * (3 * (W15 k + 1) + 1) ≤ W15 (k + 1)
      rw [W15]
      omega
def odd15 (many : Nat) : List D := [.int (many : Int), .int (-1), .bl true, .bl false, .non, .str "all", .tup [], .tup [.str "all"], .tup [.str "all", .int 0], .tup [.str "all", .lst [.int 0]], .tup [.str "least", .tup [.int 0]], .tup [.str "least", .int 26, .tup [.int 0]],
  .tup [.str "least", .int 25, .tup [.int 0]], .tup [.str "least", .int (-1), .tup []], .tup [.str "least", .bl true, .tup [.int 0]], .tup [.str "none", .tup [.int 0]], .lst [.str "all", .tup [.int 0]], .tup [.str "some", .tup [.int 0], .tup []],
  .tup [.str "all", .int 1, .tup [.int 0]], .int 1000000, .int 1000001, .tup [.str "some", .tup (List.replicate 24 (.int 0))], .tup [.str "some", .tup (List.replicate 25 (.int 0))], .dct [] []]
def okF (md : Bool) (d : D) : Bool := (if md = true then d.rp2 else d.plain) && (d.sh && (decide (d.pq.depth ≤ 2) && decide (d.pq.weight ≤ 100)))
theorem fn_of_ok {md : Bool} {d : D} (hp : Pl d) (h : okF md d = true) : Fn md 100 2 d := by
  simp only [okF, Bool.and_eq_true, decide_eq_true_eq] at h
  exact ⟨hp, h.1, h.2.1, h.2.2.1, h.2.2.2⟩
theorem odd_ok {many : Nat} (hm : many ≤ 1000) : ∀ d ∈ odd15 many, ∃ md, Fn md 100 2 d := by
  have h0 : ∀ d ∈ (odd15 0).tail.dropLast, Fn false 100 2 d := by
    have hp : ∀ d ∈ (odd15 0).tail.dropLast, plB d = true ∧ okF false d = true := by decide +kernel
    exact fun d hd => fn_of_ok (plB_of (hp d hd).1) (hp d hd).2
  intro d hd
  have e : odd15 many = .int (many : Int) :: ((odd15 0).tail.dropLast ++ [.dct [] []]) := rfl
  rw [e] at hd
  rcases List.mem_cons.mp hd with rfl | hd
  · exact ⟨false, (Fn.int (by show many < 2 ^ 20; omega)).mono (by omega) (Nat.le_refl _)⟩
  · rcases List.mem_append.mp hd with hd | hd
    · exact ⟨false, h0 d hd⟩
    · rw [List.mem_singleton.mp hd]
      exact ⟨true, (Fn.dct (k := 0)).mono (by omega) (by omega)⟩
end LW
namespace LW
open PySem PySem.Spec PyProof.Rows L2 RZ DN
def Kd.pre (k : Kd) : List D := match k with
  | .all => [.str "all"]
  | .some => [.str "some"]
  | .least n => [.str "least", .int (n : Int)]
theorem kd_pre {k : Kd} {xs : List D} : k.d xs = .tup (k.pre ++ [.tup xs]) := by cases k <;> rfl
theorem kd_last {k : Kd} {xs : List D} : ixD (k.d xs) (.int (-1)) = some (.tup xs) := by cases k <;> rfl
theorem kd_cut {k : Kd} {xs : List D} : slD (k.d xs) none (some (-1)) = some (.tup k.pre) := by
  cases k
  · exact cut_2
  · exact cut_2
  · exact cut_3
theorem kd_len {k : Kd} : k.pre.length ≤ 2 := by cases k <;> simp [Kd.pre]
theorem kd_tup {k : Kd} {xs : List D} : isD "tuple" (k.d xs) = some (.bl true) := by cases k <;> simp [Kd.d]
section
variable {K : PySem.W.Frag} {cl : CTab} {T : TF} {many : Nat}
theorem wp_bent15 (hm : many ≤ 1000) : ∀ {k n : Nat} {a : Aim} {R : D → Mem → Prop} {s : Mem}, Gd many 3 k a → k ≤ n → Tape T s → (∀ d s', (∃ md, Fn md (W15 (k - 1)) (2 * k + 2) d) → Tape T s' → R d s') → wp (m__law_bent_v4 (K := K) (cl := cl) n [.ref T.t, a.d, .int (many : Int)]) R s
  | 0, _, _, _, _, h, _, _, _ => False.elim h
  | k + 1, 0, _, _, _, _, h, _, _ => absurd h (by omega)
  | k + 1, n + 1, a, R, s, hg, hn, ht, q => by
    have W0 := (W15_mono k).1
    have qodd : ∀ d s', d ∈ odd15 many → Tape T s' → R d s' := fun d s' hd ht' => by
      obtain ⟨md, f⟩ := odd_ok hm d hd
      exact q d s' ⟨md, f.mono (by show 100 ≤ W15 k; omega) (by omega)⟩ ht'
    simp only [m__law_bent_v4, b__law_bent_v4, s_runF, startE]
    refine wp_bind ?_
    refine wp_cut (fun ρ' s' => Tape T s' ∧ ρ' = [.val (.ref T.t), .val a.d, .val (.int (many : Int)), .no, .no]) ?_ ?_
    · cases a with
      | «at» b =>
        rw [d_at]
        simp
        exact ht
      | node kd as =>
        obtain ⟨g1, g2, g3⟩ := hg
        rw [d_node]
        obtain ⟨xs, hxs⟩ : ∃ xs, xs = as.map Aim.d := ⟨_, rfl⟩
        rw [← hxs]
        have hl : xs.length ≤ 3 := by rw [hxs, List.length_map]; exact g2
        have lx : lenD [.tup xs] = some (.int (xs.length : Int)) := by simp [lenD]
        have i1 := kd_last (k := kd) (xs := xs)
        have ct := kd_cut (k := kd) (xs := xs)
        have it := kd_tup (k := kd) (xs := xs)
        by_cases h0 : 0 < xs.length
        · simp [it, i1, h0]
          refine wp_pick ht (by omega) (by omega) fun p s1 p0 p1 ht1 => ?_
          by_cases hp : 0 < p
          · simp [hp]
            refine wp_pick ht1 (by omega) (by omega) fun j s2 j0 j1 ht2 => ?_
            obtain ⟨j, rfl⟩ : ∃ i : Nat, j = i := ⟨j.toNat, by omega⟩
            have hj : j < as.length := by rw [hxs, List.length_map] at j1; omega
            have hjx : j < xs.length := by omega
            have hix : ixD (.tup xs) (.int (j : Int)) = some (as[j]).d := by
              rw [ixT hjx]
              subst hxs
              simp
            have cut1 : slD (.tup xs) none (some (j : Int)) = some (.tup (xs.take j)) := slT_take24
            have cut2 : slD (.tup xs) (some ((j : Int) + 1)) none = some (.tup (xs.drop (j + 1))) := slT_drop24 (k := j + 1)
            have addT : ∀ xs ys : List D, xs.length ≤ 100 → ys.length ≤ 100 → addD (.tup xs) (.tup ys) = some (.tup (xs ++ ys)) := fun xs ys h1 h2 => by
              show (if _ then _ else _) = _
              rw [if_pos (by rw [sizeLine_eq]; omega)]
            have lt : (xs.take j).length ≤ 3 := by rw [List.length_take]; omega
            have ld : (xs.drop (j + 1)).length ≤ 3 := by rw [List.length_drop]; omega
            have hk1 : 1 ≤ k := by
              cases k with
              | zero => exact False.elim (g3 _ (List.getElem_mem hj))
              | succ k => omega
            rw [ct, wp_lift_iff]
            simp [cut1, hix]
            refine wp_bent15 hm (g3 _ (List.getElem_mem hj)) (by omega) ht2 fun d s3 hd ht3 => ?_
            obtain ⟨md, fd⟩ := hd
            have a1 := addT (xs.take j) [d] (by omega) (by simp)
            have a2 := addT (xs.take j ++ [d]) (xs.drop (j + 1)) (by simp; omega) (by omega)
            have a3 := addT kd.pre [.tup (xs.take j ++ [d] ++ xs.drop (j + 1))] (by have := kd_len (k := kd); omega) (by simp)
            rw [← kd_pre] at a3
            simp only [List.append_assoc, List.singleton_append] at a2 a3
            simp [a1, cut2, a2, a3]
            refine q _ s3 ⟨md, ?_⟩ ht3
            have fx : ∀ e ∈ xs, Fn md (W15 (k - 1)) (2 * k + 2) e := fun e he => by
              rw [hxs] at he
              obtain ⟨a, ha, rfl⟩ := List.mem_map.mp he
              exact (fn_aim hm (g3 a ha)).mono (Nat.le_refl _) (by omega)
            have := fn_kd (n := 3) (c := W15 (k - 1)) (k := 2 * k + 2) (md := md) (kd := kd) (xs := xs.take j ++ d :: xs.drop (j + 1)) g1 (fun e he => by
              rcases List.mem_append.mp he with he | he
              · exact fx e (List.mem_of_mem_take he)
              · rcases List.mem_cons.mp he with rfl | he
                · exact fd
                · exact fx e (List.mem_of_mem_drop he)) (by simp; omega) (by have := (W15_mono (k - 1)).1; omega)
            refine this.mono ?_ (by omega)
            obtain ⟨k', rfl⟩ : ∃ k', k = k' + 1 := ⟨k - 1, by omega⟩
            show 3 * (3 * (W15 k' + 1) + 1) ≤ W15 (k' + 1)
            rw [W15]
            omega
          · simp [hp]
            exact ht1
        · simp [it, i1, h0]
          exact ht
    rintro _ s ⟨ht, rfl⟩
    have addL : ∀ xs ys : List D, xs.length ≤ 100 → ys.length ≤ 100 → addD (.lst xs) (.lst ys) = some (.lst (xs ++ ys)) := fun xs ys h1 h2 => by
      show (if _ then _ else _) = _
      rw [if_pos (by rw [sizeLine_eq]; omega)]
    have ng : negD (.int 1) = some (.int (-1)) := rfl
    refine wp_cut (fun ρ' s' => s' = s ∧ ρ' = [.val (.ref T.t), .val a.d, .val (.int (many : Int)), .val (.lst ((odd15 many).take 12)), .no]) ?_ ?_
    · simp [ng, odd15]
    rintro _ s1 ⟨rfl, rfl⟩
    refine wp_cut (fun ρ' s' => s' = s1 ∧ ρ' = [.val (.ref T.t), .val a.d, .val (.int (many : Int)), .val (.lst ((odd15 many).take 18)), .no]) ?_ ?_
    · have ad := addL ((odd15 many).take 12) (((odd15 many).drop 12).take 6) (by simp [odd15]) (by simp [odd15])
      have e : (odd15 many).take 12 ++ ((odd15 many).drop 12).take 6 = (odd15 many).take 18 := rfl
      rw [e] at ad
      generalize (odd15 many).take 12 = A at ad
      generalize hB : (odd15 many).take 18 = B at ad
      simp [odd15] at ad
      simp [ng, ad]
    rintro _ s2 ⟨rfl, rfl⟩
    refine wp_cut (fun ρ' s' => s' = s2 ∧ ρ' = [.val (.ref T.t), .val a.d, .val (.int (many : Int)), .val (.lst (odd15 many)), .no]) ?_ ?_
    · have ad : addD (.lst ((odd15 many).take 18)) (.lst [.tup [.str "all", .int 1, .tup [.int 0]], .int 1000000, .int 1000001, .tup [.str "some", .tup (List.replicate 24 (.int 0))], .tup [.str "some", .tup (List.replicate 25 (.int 0))], .dct [] []]) = some (.lst (odd15 many)) :=
        (addL ((odd15 many).take 18) ((odd15 many).drop 18) (by simp [odd15]) (by simp [odd15])).trans (by rw [List.take_append_drop])
      have p6 : powD (.int 10) (.int 6) = some (.int 1000000) := by simp
      have m24 : mulD (.tup [.int 0]) (.int 24) = some (.tup (List.replicate 24 (.int 0))) := by
        simp [mulD]
      have m25 : mulD (.tup [.int 0]) (.int 25) = some (.tup (List.replicate 25 (.int 0))) := by
        simp [mulD]
      generalize (odd15 many).take 18 = A at ad ⊢
      generalize odd15 many = B at ad ⊢
      generalize List.replicate 24 (D.int 0) = R1 at ad m24
      generalize List.replicate 25 (D.int 0) = R2 at ad m25
      simp [m24, m25, ad]
    rintro _ s3 ⟨rfl, rfl⟩
    have lo : (odd15 many).length = 24 := rfl
    simp
    exact wp_some ht (by omega) (by omega) fun d hd s' ht' => qodd d s' hd ht'
end
end LW
namespace LW
open PySem PySem.Spec PyProof.Rows L2 RZ DN
def Ok15 (d : D) : Prop := ∃ md c k, Fn md c k d ∧ c ≤ 2 ^ 20 ∧ k ≤ 26
def jd (m : Nat) (d : D) : Bool := (pf (m : Int) 10 8 d).isSome
theorem Ok15.shows {d : D} (h : Ok15 d) : d.shows = true := by
  obtain ⟨md, c, k, f, hc, hk⟩ := h
  exact f.shows hc (by omega)
theorem Ok15.hd {d : D} (h : Ok15 d) : Hd 14 d := by
  obtain ⟨md, c, k, f, hc, hk⟩ := h
  exact hd_of f.pl (Nat.le_trans f.dp (by omega))
theorem Ok15.pl {d : D} (h : Ok15 d) : Pl d := by
  obtain ⟨md, c, k, f, hc, hk⟩ := h
  exact f.pl
def base15 : List D := [.int 0, .tup [.str "all", .tup []], .tup [.str "some", .tup [.int 0, .int 0]]]
theorem base_ok : ∀ d ∈ base15, Fn false (60 * 2 ^ 0 - 4) (2 + 2 * 0) d := by
  have h : ∀ d ∈ base15, plB d = true ∧ d.plain = true ∧ d.sh = true ∧ d.pq.depth ≤ 2 ∧ d.pq.weight ≤ 56 := by decide +kernel
  exact fun d hd => ⟨plB_of (h d hd).1, by simpa using (h d hd).2.1, (h d hd).2.2.1, (h d hd).2.2.2.1, (h d hd).2.2.2.2⟩
theorem wrap_ok {j : Nat} {d : D} (f : Fn false (60 * 2 ^ j - 4) (2 + 2 * j) d) : Fn false (60 * 2 ^ (j + 1) - 4) (2 + 2 * (j + 1)) (.tup [.str "all", .tup [d]]) := by
  have p : 1 ≤ 2 ^ j := Nat.one_le_two_pow
  have e : 2 ^ (j + 1) = 2 * 2 ^ j := by rw [Nat.pow_succ]; omega
  have f1 : Fn false (60 * 2 ^ j - 3) (2 + 2 * j + 1) (.tup [d]) := (Fn.tup (xs := [d]) fun x hx => by rw [List.mem_singleton.mp hx]; exact f).mono (by simp; omega) (Nat.le_refl _)
  refine (Fn.tup (xs := [.str "all", .tup [d]]) (c := 60 * 2 ^ j - 3) (k := 2 + 2 * j + 1) fun x hx => ?_).mono (by rw [e]; simp; omega) (by omega)
  simp only [List.mem_cons, List.not_mem_nil, or_false] at hx
  rcases hx with rfl | rfl
  · exact (Fn.str (k := 2 + 2 * j + 1) (by decide) (by decide)).mono (by omega) (Nat.le_refl _)
  · exact f1
theorem zeros_ok {n : Nat} (h : n ≤ 24) : Fn false 504 1 (.tup (List.replicate n (.int 0))) := (Fn.tup (c := 20) (k := 0) fun x hx => by
  rw [(List.mem_replicate.mp hx).2]
  exact Fn.int (by decide)).mono (by rw [List.length_replicate]; omega) (Nat.le_refl _)
theorem six_ok {n : Nat} (h : n ≤ 24) : Fn false 16180 4 (.tup [.str "some", .tup (List.replicate 7 (.tup [.str "all", .tup (List.replicate 24 (.int 0))]) ++ [.tup [.str "all", .tup (List.replicate n (.int 0))]])]) := by
  have all : ∀ n ≤ 24, Fn false 1010 2 (.tup [.str "all", .tup (List.replicate n (.int 0))]) := fun n h => by
    refine (Fn.tup (c := 504) (k := 1) (xs := [.str "all", .tup (List.replicate n (.int 0))]) fun x hx => ?_).mono (by simp) (Nat.le_refl _)
    simp only [List.mem_cons, List.not_mem_nil, or_false] at hx
    rcases hx with rfl | rfl
    · exact (Fn.str (by decide) (by decide)).mono (by omega) (Nat.le_refl _)
    · exact zeros_ok h
  have f1 : Fn false 8088 3 (.tup (List.replicate 7 (.tup [.str "all", .tup (List.replicate 24 (.int 0))]) ++ [.tup [.str "all", .tup (List.replicate n (.int 0))]])) := by
    refine (Fn.tup (c := 1010) (k := 2) fun x hx => ?_).mono (by simp) (Nat.le_refl _)
    rcases List.mem_append.mp hx with hx | hx
    · rw [(List.mem_replicate.mp hx).2]; exact all 24 (by omega)
    · rw [List.mem_singleton.mp hx]; exact all n h
  refine (Fn.tup (c := 8088) (k := 3) fun x hx => ?_).mono (by simp) (Nat.le_refl _)
  simp only [List.mem_cons, List.not_mem_nil, or_false] at hx
  rcases hx with rfl | rfl
  · exact (Fn.str (k := 3) (by decide) (by decide)).mono (by omega) (by omega)
  · exact f1
def b15 (n : Nat) : List Bd := List.replicate n ⟨"p", 0, []⟩
inductive I15 (t : Nat) (x0 x6 x8 : Sl) (many : Nat) (h : D) (tn : Nat) (r : List D) : SEnv → Mem → Prop
  | mk (T : TF) (s : Mem) (j : Nat) (d : D) (x7 : Sl) (hT : T.t = t) (ht : Tape T s) (f : Fn false (60 * 2 ^ j - 4) (2 + 2 * j) d) (hj : j + r.length ≤ 9) (hr : ∀ d ∈ r, ∃ i : Nat, d = .int (i : Int)) :
    I15 t x0 x6 x8 many h tn r [x0, .val (.ref t), .val (.int (many : Int)), .val h, .val (.int (tn : Int)), .val d, x6, x7, x8] s
section
variable {K : PySem.W.Frag} {cl : CTab}
theorem e_lis15 {m : Nat} {d : D} (h : Ok15 d) : (m__law_is_aim [d, .int (m : Int)] : M (MemS K cl) D) = M.pure (.bl (jd m d)) := by
  have e := e_lis_aimD (K := K) (cl := cl) (m := m) h.hd
  rw [e]
  congr 2
  unfold jd
  rw [pf_ms (k := 14) h.hd (by omega) (by omega)]
  cases ms (m : Int) 14 d with
  | none => rfl
  | some p =>
    simp only
    by_cases c : p.1 ≤ 8 ∧ p.2 ≤ 200
    · rw [if_pos c, decide_eq_true c.1, decide_eq_true c.2]; rfl
    · rw [if_neg c, ← Bool.decide_and, decide_eq_false c]; rfl
theorem law_f2 {T : TF} {many tn : Nat} {h : D} {x0 x5 x6 x7 x8 : Sl} {s : Mem} (hm1 : 1 ≤ many) (hm8 : many ≤ 8) (g : HallB h (b15 many)) (ht : Tape T s) :
    wp (b_L15_law_f2 (K := K) (cl := cl) [x0, .val (.ref T.t), .val (.int (many : Int)), .val h, .val (.int (tn : Int)), x5, x6, x7, x8]) (fun fl s' => ∃ T' : TF, T'.t = T.t ∧ Tape T' s' ∧ ∃ x5 x6 x7 x8, fl = .nx [x0, .val (.ref T.t), .val (.int (many : Int)), .val h, .val (.int (tn : Int)), x5, x6, x7, x8]) s := by
  unfold b_L15_law_f2
  have W4 : W15 4 = 732360 := by decide
  refine wp_cut (fun ρ' s' => Tape T s' ∧ ∃ a : Aim, Gd many 3 5 a ∧ ρ' = [x0, .val (.ref T.t), .val (.int (many : Int)), .val h, .val (.int (tn : Int)), .val a.d, x6, x7, x8]) ?_ ?_
  · simp
    refine wp_pick ht (by omega) (by omega) fun p s1 p0 p1 ht1 => ?_
    obtain ⟨dp, hdp, d1, d2⟩ : ∃ dp : Nat, 1 + p = (dp : Int) ∧ 1 ≤ dp ∧ dp ≤ 5 := ⟨(1 + p).toNat, by omega, by omega, by omega⟩
    simp [hdp]
    refine wp_aim (deep := dp) (n := 8) (many := many) d1 (by omega) hm1 (by omega) ht1 fun a s2 ga ht2 => ?_
    exact ⟨ht2, a, ga.le d2, rfl⟩
  rintro _ s ⟨ht, a, ga, rfl⟩
  refine wp_cut (fun ρ' s' => Tape T s' ∧ ∃ d : D, Ok15 d ∧ ρ' = [x0, .val (.ref T.t), .val (.int (many : Int)), .val h, .val (.int (tn : Int)), .val d, x6, x7, x8]) ?_ ?_
  · by_cases h2 : 2 < tn
    · have h2' : (2 : Int) < (tn : Int) := by omega
      simp [h2, h2']
      refine wp_bent15 (many := many) (by omega) ga (by omega) ht fun d s1 hd ht1 => ?_
      obtain ⟨md, f⟩ := hd
      exact ⟨ht1, md, _, _, f, by show W15 4 ≤ _; rw [W4]; omega, by omega⟩
    · have h2' : ¬ (2 : Int) < (tn : Int) := by omega
      simp [h2, h2']
      exact ⟨ht, false, _, _, fn_aim (md := false) (by omega) ga, by show W15 4 ≤ _; rw [W4]; omega, by omega⟩
  rintro _ s ⟨ht, d, hd, rfl⟩
  refine wp_cut (fun ρ' s' => ∃ T' : TF, T'.t = T.t ∧ Tape T' s' ∧ ∃ d : D, Ok15 d ∧ ∃ x7, ρ' = [x0, .val (.ref T.t), .val (.int (many : Int)), .val h, .val (.int (tn : Int)), .val d, x6, x7, x8]) ?_ ?_
  · by_cases h7 : tn = 7
    · subst h7
      have l3 : base15.length = 3 := rfl
      simp
      refine wp_some (ds := base15) ht (by omega) (by omega) fun d hd s1 ht1 => ?_
      refine wp_pick ht1 (by omega) (by omega) fun p s2 p0 p1 ht2 => ?_
      obtain ⟨N, hN, n1, n2⟩ : ∃ N : Nat, 4 + p = (N : Int) ∧ 1 ≤ N ∧ N ≤ 9 := ⟨(4 + p).toNat, by omega, by omega, by omega⟩
      simp [hN]
      rw [rng N (by omega), wp_lift_iff]
      refine wp_forI (fun r ρ s => I15 T.t x0 x6 x8 many h 7 r ρ s) (.mk T _ 0 d _ rfl ht2 (base_ok d hd) (by simp; omega) (fun d hd => by obtain ⟨i, _, rfl⟩ := List.mem_map.mp hd; exact ⟨i, rfl⟩)) ?_ ?_
      · intro e r ρ s hI
        cases hI with
        | mk T' _ j d x7 hT ht f hj hr =>
          obtain ⟨i, rfl⟩ := hr e List.mem_cons_self
          refine ⟨_, s_aName, ?_⟩
          unfold b_L15_law_f1
          simp
          exact .mk T' _ (j + 1) _ _ hT ht (wrap_ok f) (by simp at hj; omega) fun d hd => hr d (List.mem_cons_of_mem _ hd)
      · intro ρ s hI
        cases hI with
        | mk T' _ j d x7 hT ht f hj hr =>
          refine ⟨T', hT, ht, d, ⟨false, _, _, f, ?_, by simp at hj; omega⟩, x7, rfl⟩
          have : 2 ^ j ≤ 2 ^ 9 := Nat.pow_le_pow_right (by omega) (by simp at hj; omega)
          omega
    · have h7' : ¬ ((tn : Int) = 7) := by omega
      simp [h7, h7']
      exact ⟨T, rfl, ht, hd⟩
  rintro _ s ⟨T', hT', ht, d, hd, x7, rfl⟩
  rw [← hT'] at *
  refine wp_cut (fun ρ' s' => Tape T' s' ∧ ∃ d : D, Ok15 d ∧ ∃ x8, ρ' = [x0, .val (.ref T'.t), .val (.int (many : Int)), .val h, .val (.int (tn : Int)), .val d, x6, x7, x8]) ?_ ?_
  · by_cases h6 : tn = 6
    · subst h6
      have m24 : mulD (.tup [.int 0]) (.int 24) = some (.tup (List.replicate 24 (.int 0))) := by simp [mulD]
      obtain ⟨Z, hZ⟩ : ∃ Z : D, Z = .tup (List.replicate 24 (.int 0)) := ⟨_, rfl⟩
      rw [← hZ] at m24
      have m7 : mulD (.tup [.tup [.str "all", Z]]) (.int 7) = some (.tup (List.replicate 7 (.tup [.str "all", Z]))) := by simp [mulD]
      obtain ⟨L, hL⟩ : ∃ L : List D, L = List.replicate 7 (.tup [.str "all", Z]) := ⟨_, rfl⟩
      rw [← hL] at m7
      simp [m24, m7]
      refine wp_pick ht (by omega) (by omega) fun p s2 p0 p1 ht2 => ?_
      obtain ⟨N, hN, n1, n2⟩ : ∃ N : Nat, 21 + p = (N : Int) ∧ 2 ≤ N ∧ N ≤ 24 := ⟨(21 + p).toNat, by omega, by omega, by omega⟩
      have mN : mulD (.tup [.int 0]) (.int (N : Int)) = some (.tup (List.replicate N (.int 0))) := by
        simp only [mulD]
        rw [if_neg (by simp; omega), if_pos (by simp; omega)]
        simp
      have ad : addD (.tup L) (.tup [.tup [.str "all", .tup (List.replicate N (.int 0))]]) = some (.tup (L ++ [.tup [.str "all", .tup (List.replicate N (.int 0))]])) := by
        show (if _ then _ else _) = _
        rw [if_pos (by rw [hL]; simp [sizeLine_eq])]
      have fin := six_ok n2
      rw [← hZ, ← hL] at fin
      simp [hN, mN, ad]
      exact ⟨ht2, false, _, _, fin, by omega, by omega⟩
    · have h6' : ¬ ((tn : Int) = 6) := by omega
      simp [h6, h6']
      exact ⟨ht, hd⟩
  rintro _ s ⟨ht, d, hd, x8, rfl⟩
  have lb : (b15 many).length = many := by simp [b15]
  have er : reprD [d] = some (.str d.pq.shown) := by
    simp only [reprD]
    rw [if_pos hd.shows]
  refine wp_cut (fun ρ' s' => s' = s ∧ ρ' = [x0, .val (.ref T'.t), .val (.int (many : Int)), .val h, .val (.int (tn : Int)), .val d, .val (.str d.pq.shown), x7, x8]) (by simp [er]) ?_
  rintro _ s1 ⟨rfl, rfl⟩
  have e1 := e_isaimD (K := K) (cl := cl) g.of (by rw [List.length_map, lb]; exact hm1) hd.pl
  have e2 := e_lis15 (K := K) (cl := cl) (m := many - 1) hd
  have e3 := e_wordReach (K := K) (cl := cl) g.of (by rw [List.length_map, lb]; exact hm1) (by rw [List.length_map, lb]; omega) hd.pl
  have e4 := e_wordMoved (K := K) (cl := cl) (h := h) hd.pl
  have e5 := e_lis15 (K := K) (cl := cl) (m := 1000000) hd
  rw [List.length_map, lb] at e1 e3
  have mm : (many : Int) - 1 = ((many - 1 : Nat) : Int) := by omega
  have e6 := e_lflag (K := K) (cl := cl) (a := jd (many - 1) d) (b := jd (many - 1) d)
  rw [decide_eq_true rfl] at e6
  have e1 : (m_is_aim [h, d] : M (MemS K cl) D) = M.pure (.bl (jd (many - 1) d)) := e1
  refine wp_cut (fun ρ' s' => s' = s1 ∧ ρ' = [x0, .val (.ref T'.t), .val (.int (many : Int)), .val h, .val (.int (tn : Int)), .val d, .val (.str d.pq.shown), x7, x8]) ?_ ?_
  · simp [er, mm, e1, e2, e6]
  rintro _ s2 ⟨rfl, rfl⟩
  refine wp_cut (fun ρ' s' => s' = s2 ∧ ρ' = [x0, .val (.ref T'.t), .val (.int (many : Int)), .val h, .val (.int (tn : Int)), .val d, .val (.str d.pq.shown), x7, x8]) ?_ ?_
  · have e3 : (m__law_word_v3 [.int 1, h, d] : M (MemS K cl) D) = M.pure (.str (if jd (many - 1) d = true then "let" else "none")) := e3
    cases hj : jd (many - 1) d with
    | true =>
      rw [hj, if_pos rfl] at e3
      rw [hj] at e2
      simp [mm, e2, e3]
    | false =>
      rw [hj, if_neg (by simp)] at e3
      rw [hj] at e2
      simp [mm, e2, e3]
  rintro _ s3 ⟨rfl, rfl⟩
  have e4 : (m__law_word_v3 [.int 0, h, d] : M (MemS K cl) D) = M.pure (.str (if jd 1000000 d = true then "let" else "none")) := e4
  have c6 : ((1000000 : Nat) : Int) = 1000000 := rfl
  rw [c6] at e5
  cases hj : jd 1000000 d with
  | true =>
    rw [hj, if_pos rfl] at e4
    rw [hj] at e5
    simp [e4, e5]
    exact ⟨T', rfl, ht⟩
  | false =>
    rw [hj, if_neg (by simp)] at e4
    rw [hj] at e5
    simp [e4, e5]
    exact ⟨T', rfl, ht⟩
inductive H15 (t : Nat) (many : Nat) (h : D) (ds : List D) : SEnv → Mem → Prop
  | mk (T : TF) (s : Mem) (x0 x4 x5 x6 x7 x8 : Sl) (hT : T.t = t) (ht : Tape T s) (hk : ∀ d ∈ ds, ∃ i : Nat, d = .int (i : Int)) :
    H15 t many h ds [x0, .val (.ref t), .val (.int (many : Int)), .val h, x4, x5, x6, x7, x8] s
theorem law_all {t : TF} {s : Mem} (ht : Tape t s) : ∃ s', b_L15_law (K := K) (cl := cl) (startL 9 t.t) s = .ok (.rt (.bl true)) s' := by
  have key : wp (b_L15_law (K := K) (cl := cl) (startL 9 t.t)) (fun fl _ => fl = .rt (.bl true)) s := by
    unfold b_L15_law
    refine wp_cut (fun ρ' s' => Tape t s' ∧ ∃ many : Nat, 1 ≤ many ∧ many ≤ 8 ∧ ∃ x0, ρ' = [x0, .val (.ref t.t), .val (.int (many : Int)), .no, .no, .no, .no, .no, .no]) ?_ ?_
    · simp [startL]
      refine wp_pick ht (by omega) (by omega) fun p s2 p0 p1 ht2 => ?_
      obtain ⟨N, hN, n1, n2⟩ : ∃ N : Nat, 1 + p = (N : Int) ∧ 1 ≤ N ∧ N ≤ 8 := ⟨(1 + p).toNat, by omega, by omega, by omega⟩
      simp [hN]
      exact ⟨ht2, N, n1, n2, rfl⟩
    rintro _ s ⟨ht, many, m1, m8, x0, rfl⟩
    have okb : ∀ b ∈ b15 many, b.Ok := fun b hb => by
      rw [(List.mem_replicate.mp hb).2]
      have hw : WordOk 8 ("p" : Str) := by
        have : wordB 8 ("p" : Str) = true := by decide +kernel
        exact word_ok this
      exact ⟨hw, by simp, by simp, fun w h => nomatch h⟩
    obtain ⟨h, eh, gh⟩ := make_HallB (K := K) (cl := cl) (bs := b15 many) (by simp [b15]; omega) (by simp [b15]; omega) okb
    refine wp_cut (fun ρ' s' => s' = s ∧ ρ' = [x0, .val (.ref t.t), .val (.int (many : Int)), .val h, .no, .no, .no, .no, .no]) ?_ ?_
    · have mN : mulD (.tup [.tup [.str "p", .int 0, .tup []]]) (.int (many : Int)) = some (.tup ((b15 many).map Bd.d)) := by
        simp only [mulD]
        by_cases h1 : many = 1
        · subst h1
          rw [if_pos (by simp)]
          rfl
        · rw [if_neg (by simp; omega), if_pos (by simp; omega)]
          unfold b15
          simp [Bd.d]
      simp [mN, eh]
    rintro _ s1 ⟨rfl, rfl⟩
    refine wp_cut (fun ρ' s' => True) ?_ ?_
    · simp
      rw [show range1 (.int 8) = some ((List.range 8).map fun i : Nat => .int (i : Int)) from rng 8 (by omega), wp_lift_iff]
      refine wp_forI (fun ds ρ s => H15 t.t many h ds ρ s) (.mk t _ _ _ _ _ _ _ rfl ht fun d hd => ?_) ?_ ?_
      · obtain ⟨i, hi, rfl⟩ := List.mem_map.mp hd
        exact ⟨i, rfl⟩
      · intro d ds ρ s hG
        cases hG with
        | mk T _ x0 x4 x5 x6 x7 x8 hT ht hk =>
          obtain ⟨i, rfl⟩ := hk d List.mem_cons_self
          refine ⟨_, s_aName, ?_⟩
          rw [← hT]
          refine wp_mono (law_f2 (tn := i) m1 m8 gh ht) ?_
          rintro fl s2 ⟨T', hT', ht2, y5, y6, y7, y8, rfl⟩
          exact .mk T' _ _ _ _ _ _ _ hT' ht2 fun d hd => hk d (List.mem_cons_of_mem _ hd)
      · intro ρ s _
        trivial
    · rintro ρ s' _
      simp
  obtain ⟨fl, s', e, rfl⟩ := wp_ok key
  exact ⟨s', e⟩
theorem law_true {ns : List Int} (hl : ns.length ≤ 63) : ∃ s', b_L15_law (K := K) (cl := cl) (startL 9 tf0.t) (tapeM 0 tf0 ns 0 0 1 0) = .ok (.rt (.bl true)) s' := law_all tape0
end
end LW
namespace LW
open PySem PySem.Spec PyProof.Rows L2 RZ DN
def top (i : Nat) : Stmt := PySem.Challenge.pw_untoldgames_k15_aims_judged.main.body.getD i (.Pass ⟨0, 0, 0, 0⟩)
structure Txt (P : Program) (w : World) (K : PySem.W.Frag) (mg : Str → Option Value) (cl : CTab) : Prop where
  wp : P = cl.P
  ww : w = cl.w
  b_all : mg "all" = none
  b_any : mg "any" = none
  b_bool : mg "bool" = none
  b_enumerate : mg "enumerate" = none
  b_int : mg "int" = none
  b_isinstance : mg "isinstance" = none
  b_len : mg "len" = none
  b_list : mg "list" = none
  b_max : mg "max" = none
  b_range : mg "range" = none
  b_repr : mg "repr" = none
  b_sorted : mg "sorted" = none
  b_str : mg "str" = none
  b_sum : mg "sum" = none
  b_tuple : mg "tuple" = none
  b_zip : mg "zip" = none
  g_LETTERS : GlC K mg cl "LETTERS" (.str "abcdefghijklmnopqrstuvwxyz")
  g_MOST_AIMS : GlC K mg cl "MOST_AIMS" (.int 24)
  g_MOST_BEGUN : GlC K mg cl "MOST_BEGUN" (.int 20)
  g_MOST_BOARDS : GlC K mg cl "MOST_BOARDS" (.int 12)
  g_MOST_DEEP : GlC K mg cl "MOST_DEEP" (.int 8)
  g_MOST_LEAST : GlC K mg cl "MOST_LEAST" (.int 25)
  g_MOST_LETTERS : GlC K mg cl "MOST_LETTERS" (.int 20)
  g_MOST_MOVED : GlC K mg cl "MOST_MOVED" (.int 1000)
  g_MOST_NAME : GlC K mg cl "MOST_NAME" (.int 8)
  g_MOST_NUMBER : GlC K mg cl "MOST_NUMBER" (.int 1000000)
  g_MOST_PARTS : GlC K mg cl "MOST_PARTS" (.int 200)
  f_Hall_boards : FldO K cl "Hall" "boards" 0
  f_Hall_names : FldO K cl "Hall" "names" 1
  f_RawHall_boards : FldO K cl "RawHall" "boards" 0
  f_RawHall_names : FldO K cl "RawHall" "names" 1
  r_NoAim : ∃ C, RaiseAt K mg cl "NoAim" C
  r_NoLot : ∃ C, RaiseAt K mg cl "NoLot" C
  r_NoNumber : ∃ C, RaiseAt K mg cl "NoNumber" C
  h_NoAim : ∃ C, mg "NoAim" = some (.ref C) ∧ CatchAt K cl (t_of "NoAim") C
abbrev s__law_tape : Stmt := top 42
abbrev N__law_tape : List Str := ["_law_script"]
theorem sc__law_tape : FnScope N__law_tape ["_law_script"] (defScope s__law_tape) := ⟨rfl, rfl, rfl, by decide +kernel, rfl, by decide +kernel, by decide +kernel⟩
abbrev s_Hall_keep : Stmt := inClass (top 40) 1
abbrev N_Hall_keep : List Str := ["self", "boards", "name", "side", "begun"]
theorem sc_Hall_keep : FnScope N_Hall_keep ["self", "boards"] (defScope s_Hall_keep) := ⟨rfl, rfl, rfl, by decide +kernel, rfl, by decide +kernel, by decide +kernel⟩
abbrev s_is_letters : Stmt := top 13
abbrev N_is_letters : List Str := ["thing", "most", "sign"]
theorem sc_is_letters : FnScope N_is_letters ["thing", "most"] (defScope s_is_letters) := ⟨rfl, rfl, rfl, by decide +kernel, rfl, by decide +kernel, by decide +kernel⟩
abbrev s_is_name : Stmt := top 15
abbrev N_is_name : List Str := ["thing"]
theorem sc_is_name : FnScope N_is_name ["thing"] (defScope s_is_name) := ⟨rfl, rfl, rfl, by decide +kernel, rfl, by decide +kernel, by decide +kernel⟩
abbrev s_is_integer : Stmt := top 11
abbrev N_is_integer : List Str := ["thing"]
theorem sc_is_integer : FnScope N_is_integer ["thing"] (defScope s_is_integer) := ⟨rfl, rfl, rfl, by decide +kernel, rfl, by decide +kernel, by decide +kernel⟩
abbrev s_is_within : Stmt := top 12
abbrev N_is_within : List Str := ["thing", "least", "most"]
theorem sc_is_within : FnScope N_is_within ["thing", "least", "most"] (defScope s_is_within) := ⟨rfl, rfl, rfl, by decide +kernel, rfl, by decide +kernel, by decide +kernel⟩
abbrev s_is_word : Stmt := top 14
abbrev N_is_word : List Str := ["thing"]
theorem sc_is_word : FnScope N_is_word ["thing"] (defScope s_is_word) := ⟨rfl, rfl, rfl, by decide +kernel, rfl, by decide +kernel, by decide +kernel⟩
abbrev s_is_words : Stmt := top 16
abbrev N_is_words : List Str := ["thing", "most", "word"]
theorem sc_is_words : FnScope N_is_words ["thing", "most"] (defScope s_is_words) := ⟨rfl, rfl, rfl, by decide +kernel, rfl, by decide +kernel, by decide +kernel⟩
abbrev s_is_board : Stmt := top 39
abbrev N_is_board : List Str := ["thing"]
theorem sc_is_board : FnScope N_is_board ["thing"] (defScope s_is_board) := ⟨rfl, rfl, rfl, by decide +kernel, rfl, by decide +kernel, by decide +kernel⟩
abbrev s_Hall_init : Stmt := inClass (top 40) 0
abbrev N_Hall_init : List Str := ["self", "boards", "at", "board"]
theorem sc_Hall_init : FnScope N_Hall_init ["self", "boards"] (defScope s_Hall_init) := ⟨rfl, rfl, rfl, by decide +kernel, rfl, by decide +kernel, by decide +kernel⟩
abbrev s__law_pick : Stmt := top 43
abbrev N__law_pick : List Str := ["_law_tape_here", "_law_size", "_law_cell", "_law_mixed", "_law_digit"]
theorem sc__law_pick : FnScope N__law_pick ["_law_tape_here", "_law_size"] (defScope s__law_pick) := ⟨rfl, rfl, rfl, by decide +kernel, rfl, by decide +kernel, by decide +kernel⟩
abbrev s__law_aim : Stmt := top 47
abbrev N__law_aim : List Str := ["_law_tape_here", "_law_many", "_law_deep", "_law_inner", "_law_k"]
theorem sc__law_aim : FnScope N__law_aim ["_law_tape_here", "_law_many", "_law_deep"] (defScope s__law_aim) := ⟨rfl, rfl, rfl, by decide +kernel, rfl, by decide +kernel, by decide +kernel⟩
abbrev s__law_some : Stmt := top 45
abbrev N__law_some : List Str := ["_law_tape_here", "_law_things"]
theorem sc__law_some : FnScope N__law_some ["_law_tape_here", "_law_things"] (defScope s__law_some) := ⟨rfl, rfl, rfl, by decide +kernel, rfl, by decide +kernel, by decide +kernel⟩
abbrev s__law_bent : Stmt := top 50
abbrev N__law_bent : List Str := ["_law_tape_here", "_law_aim_here", "_law_many", "_law_odd", "_law_at"]
theorem sc__law_bent : FnScope N__law_bent ["_law_tape_here", "_law_aim_here", "_law_many"] (defScope s__law_bent) := ⟨rfl, rfl, rfl, by decide +kernel, rfl, by decide +kernel, by decide +kernel⟩
abbrev s__law_int : Stmt := top 46
abbrev N__law_int : List Str := ["_law_thing", "_law_least", "_law_most"]
theorem sc__law_int : FnScope N__law_int ["_law_thing", "_law_least", "_law_most"] (defScope s__law_int) := ⟨rfl, rfl, rfl, by decide +kernel, rfl, by decide +kernel, by decide +kernel⟩
abbrev s__law_measure : Stmt := top 48
abbrev N__law_measure : List Str := ["_law_thing", "_law_most", "_law_told", "_law_one", "_law_deep", "_law_many"]
theorem sc__law_measure : FnScope N__law_measure ["_law_thing", "_law_most"] (defScope s__law_measure) := ⟨rfl, rfl, rfl, by decide +kernel, rfl, by decide +kernel, by decide +kernel⟩
abbrev s__law_is_aim : Stmt := top 49
abbrev N__law_is_aim : List Str := ["_law_thing", "_law_most", "_law_told"]
theorem sc__law_is_aim : FnScope N__law_is_aim ["_law_thing", "_law_most"] (defScope s__law_is_aim) := ⟨rfl, rfl, rfl, by decide +kernel, rfl, by decide +kernel, by decide +kernel⟩
abbrev s__law_flag : Stmt := top 44
abbrev N__law_flag : List Str := ["_law_told", "_law_due"]
theorem sc__law_flag : FnScope N__law_flag ["_law_told", "_law_due"] (defScope s__law_flag) := ⟨rfl, rfl, rfl, by decide +kernel, rfl, by decide +kernel, by decide +kernel⟩
abbrev s_check_number : Stmt := top 20
abbrev N_check_number : List Str := ["thing", "least", "most"]
theorem sc_check_number : FnScope N_check_number ["thing", "least", "most"] (defScope s_check_number) := ⟨rfl, rfl, rfl, by decide +kernel, rfl, by decide +kernel, by decide +kernel⟩
abbrev s_moved_by : Stmt := top 35
abbrev N_moved_by : List Str := ["aim", "by", "one"]
theorem sc_moved_by : FnScope N_moved_by ["aim", "by"] (defScope s_moved_by) := ⟨rfl, rfl, rfl, by decide +kernel, rfl, by decide +kernel, by decide +kernel⟩
abbrev s_aims_in : Stmt := top 28
abbrev N_aims_in : List Str := ["thing"]
theorem sc_aims_in : FnScope N_aims_in ["thing"] (defScope s_aims_in) := ⟨rfl, rfl, rfl, by decide +kernel, rfl, by decide +kernel, by decide +kernel⟩
abbrev s_parts_of : Stmt := top 29
abbrev N_parts_of : List Str := ["thing", "most", "deep", "inner", "found", "aim", "more"]
theorem sc_parts_of : FnScope N_parts_of ["thing", "most", "deep"] (defScope s_parts_of) := ⟨rfl, rfl, rfl, by decide +kernel, rfl, by decide +kernel, by decide +kernel⟩
abbrev s_is_any_aim : Stmt := top 30
abbrev N_is_any_aim : List Str := ["thing", "most"]
theorem sc_is_any_aim : FnScope N_is_any_aim ["thing", "most"] (defScope s_is_any_aim) := ⟨rfl, rfl, rfl, by decide +kernel, rfl, by decide +kernel, by decide +kernel⟩
abbrev s_moved : Stmt := top 36
abbrev N_moved : List Str := ["aim", "by", "found"]
theorem sc_moved : FnScope N_moved ["aim", "by"] (defScope s_moved) := ⟨rfl, rfl, rfl, by decide +kernel, rfl, by decide +kernel, by decide +kernel⟩
abbrev s_is_aim : Stmt := top 31
abbrev N_is_aim : List Str := ["hall", "thing"]
theorem sc_is_aim : FnScope N_is_aim ["hall", "thing"] (defScope s_is_aim) := ⟨rfl, rfl, rfl, by decide +kernel, rfl, by decide +kernel, by decide +kernel⟩
abbrev s_check_aim : Stmt := top 32
abbrev N_check_aim : List Str := ["hall", "thing"]
theorem sc_check_aim : FnScope N_check_aim ["hall", "thing"] (defScope s_check_aim) := ⟨rfl, rfl, rfl, by decide +kernel, rfl, by decide +kernel, by decide +kernel⟩
abbrev s_holds : Stmt := top 33
abbrev N_holds : List Str := ["aim", "mask", "told", "one"]
theorem sc_holds : FnScope N_holds ["aim", "mask"] (defScope s_holds) := ⟨rfl, rfl, rfl, by decide +kernel, rfl, by decide +kernel, by decide +kernel⟩
abbrev s_is_ascending : Stmt := top 17
abbrev N_is_ascending : List Str := ["items", "one", "other"]
theorem sc_is_ascending : FnScope N_is_ascending ["items"] (defScope s_is_ascending) := ⟨rfl, rfl, rfl, by decide +kernel, rfl, by decide +kernel, by decide +kernel⟩
abbrev s_is_lot : Stmt := top 18
abbrev N_is_lot : List Str := ["thing", "many", "item"]
theorem sc_is_lot : FnScope N_is_lot ["thing", "many"] (defScope s_is_lot) := ⟨rfl, rfl, rfl, by decide +kernel, rfl, by decide +kernel, by decide +kernel⟩
abbrev s_mask_of : Stmt := top 19
abbrev N_mask_of : List Str := ["lot", "found", "item"]
theorem sc_mask_of : FnScope N_mask_of ["lot"] (defScope s_mask_of) := ⟨rfl, rfl, rfl, by decide +kernel, rfl, by decide +kernel, by decide +kernel⟩
abbrev s_reached : Stmt := top 34
abbrev N_reached : List Str := ["hall", "aim", "won"]
theorem sc_reached : FnScope N_reached ["hall", "aim", "won"] (defScope s_reached) := ⟨rfl, rfl, rfl, by decide +kernel, rfl, by decide +kernel, by decide +kernel⟩
abbrev s__law_word : Stmt := top 51
abbrev N__law_word : List Str := ["_law_which", "_law_hall", "_law_thing", "_law_told"]
theorem sc__law_word : FnScope N__law_word ["_law_which", "_law_hall", "_law_thing"] (defScope s__law_word) := ⟨rfl, rfl, rfl, by decide +kernel, rfl, by decide +kernel, by decide +kernel⟩
abbrev s_law : Stmt := top 52
abbrev N_law : List Str := ["_law_script", "_law_tape_here", "_law_many", "_law_hall", "_law_turn", "_law_thing", "_law_text", "_law_k", "_law_inner"]
theorem sc_law : FnScope N_law ["_law_script"] (defScope s_law) := ⟨rfl, rfl, rfl, by decide +kernel, rfl, by decide +kernel, by decide +kernel⟩
section
variable {P : Program} {w : World} {K : PySem.W.Frag} {mg : Str → Option Value} {base : Heap} {cl : CTab}
theorem ok_Hall_keep (T : Txt P w K mg cl) {a_Hall_keep : Addr} {fd_Hall_keep : FuncData} (G_Hall_keep : Fun K "keep" "Hall.keep" s_Hall_keep a_Hall_keep fd_Hall_keep)
     : FnOk P w K mg base (L2.CX P w) 1 a_Hall_keep fd_Hall_keep ["self", "boards"] (spD K cl (MemS K cl) 2 m_Hall_keep) := by
  refine FnOk.mono (fn_ok (k := 0) G_Hall_keep sc_Hall_keep rfl fun cdv A outer s H E hr => ?_) (by omega)
  exact dss_cons (ds_setfo (fam_2 T.f_Hall_boards T.f_RawHall_boards) (List.cons_ne_nil _ _) seeHide (de_var (pv 1)) (de_var (pv 0))) (dss_one (ds_setfo (fam_2 T.f_Hall_names T.f_RawHall_names) (List.cons_ne_nil _ _) seeHide (de_callTy call_tuple_of v_tuple (by rfl) T.b_tuple PyProof.Rows.boot_tuple (da_cons (de_sortedX rfl (by rfl) T.b_sorted (dx_dcomp (own := [("name", 2), ("side", 3), ("begun", 4)]) ⟨T.wp, T.ww⟩ (hu65 hr) rfl sc_Hall_keep.nd (di_any (de_var (pv 1))) (blkOk_by (own := [("name", 2), ("side", 3), ("begun", 4)]) (N := N_Hall_keep) (sc := defScope s_Hall_keep) (by decide +kernel)) (fun _ _ _ _ _ => dg_tup rfl (dgs_cons (dg_name (i := 2) sc_Hall_keep.nd rfl (by first | exact Or.inl rfl | exact Or.inr rfl)) (dgs_cons (dg_name (i := 3) sc_Hall_keep.nd rfl (by first | exact Or.inl rfl | exact Or.inr rfl)) (dgs_cons (dg_name (i := 4) sc_Hall_keep.nd rfl (by first | exact Or.inl rfl | exact Or.inr rfl)) (dgs_nil)))) (aCons_len (aCons_len (aCons_len aNil_len)))) (in_tup (in_cons (in_name (by decide)) (in_cons (in_name (by decide)) (in_cons (in_name (by decide)) (in_nil))))) (fun _ _ _ _ _ => dts_nil) (fun _ _ _ _ _ => de_var (pv 2)) (fun _ _ _ _ _ => de_bl))) (da_nil))) (de_var (pv 0))))
theorem ok_is_letters (T : Txt P w K mg cl) {a_is_letters : Addr} {fd_is_letters : FuncData} (G_is_letters : Fun K "is_letters" "is_letters" s_is_letters a_is_letters fd_is_letters)
     : FnOk P w K mg base (L2.CX P w) 1 a_is_letters fd_is_letters ["thing", "most"] (spD K cl (MemS K cl) 2 m_is_letters) := by
  refine FnOk.mono (fn_ok (k := 0) G_is_letters sc_is_letters rfl fun cdv A outer s H E hr => ?_) (by omega)
  exact dss_cons (ds_if seeHide (dt_of_dw (dw_or (dt_not (dt_truth (de_isi (de_var (pv 0)) (by rfl) T.b_isinstance (by rfl) T.b_str PyProof.Rows.boot_str))) (dw_or1 (dt_not (dt_chain op_le v_le op_le v_le (de_int) (de_callB (c_len ⟨T.wp, T.ww⟩) v_len (by rfl) T.b_len PySem.boot_len (da_cons (de_var (pv 0)) (da_nil))) (de_var (pv 1))))))) (dss_one (ds_ret seeHide (de_bl))) (dss_nil)) (dss_one (ds_ret seeHide (de_callB (cr_all rfl) v_all (by rfl) T.b_all boot_all (da_cons (de_comp (own := [("sign", 2)]) rfl sc_is_letters.nd (di_any (de_var (pv 0))) (blkOk_by (own := [("sign", 2)]) (N := N_is_letters) (sc := defScope s_is_letters) (by decide +kernel)) (fun _ _ _ _ _ => dg_name (i := 2) sc_is_letters.nd rfl (by first | exact Or.inl rfl | exact Or.inr rfl)) (in_name (by decide)) (fun _ _ _ _ _ => dts_nil) (fun _ _ _ _ _ => de_cmp (op_inK ⟨T.wp, T.ww⟩ (hu65 hr)) v_inK (by with_unfolding_all rfl) (de_var (pv 2)) (de_gl T.g_LETTERS (by rfl)))) (da_nil)))))
theorem ok_is_name (T : Txt P w K mg cl) {a_is_name : Addr} {fd_is_name : FuncData} (G_is_name : Fun K "is_name" "is_name" s_is_name a_is_name fd_is_name)
    {a_is_letters : Addr} {fd_is_letters : FuncData} (c_is_letters : Cal K mg "is_letters" a_is_letters fd_is_letters ["thing", "most"]) (F_is_letters : FnOk P w K mg base (L2.CX P w) 1 a_is_letters fd_is_letters ["thing", "most"] (spD K cl (MemS K cl) 2 m_is_letters)) : FnOk P w K mg base (L2.CX P w) 2 a_is_name fd_is_name ["thing"] (spD K cl (MemS K cl) 1 m_is_name) := by
  refine FnOk.mono (fn_ok (k := 1) G_is_name sc_is_name rfl fun cdv A outer s H E hr => ?_) (by omega)
  exact dss_one (ds_ret seeHide (de_call F_is_letters (hr.mono (by first | decide | omega)) (by rfl) c_is_letters.mg c_is_letters.kp c_is_letters.b takesD (da_cons (de_var (pv 0)) (da_cons (de_gl T.g_MOST_NAME (by rfl)) (da_nil))) rfl))
theorem ok_is_integer (T : Txt P w K mg cl) {a_is_integer : Addr} {fd_is_integer : FuncData} (G_is_integer : Fun K "is_integer" "is_integer" s_is_integer a_is_integer fd_is_integer)
     : FnOk P w K mg base (L2.CX P w) 1 a_is_integer fd_is_integer ["thing"] (spD K cl (MemS K cl) 1 m_is_integer) := by
  refine FnOk.mono (fn_ok (k := 0) G_is_integer sc_is_integer rfl fun cdv A outer s H E hr => ?_) (by omega)
  exact dss_one (ds_ret seeHide (de_and (de_isi (de_var (pv 0)) (by rfl) T.b_isinstance (by rfl) T.b_int PyProof.Rows.boot_int) (de_one (de_not (de_isi (de_var (pv 0)) (by rfl) T.b_isinstance (by rfl) T.b_bool PyProof.Rows.boot_bool)))))
theorem ok_is_within (T : Txt P w K mg cl) {a_is_within : Addr} {fd_is_within : FuncData} (G_is_within : Fun K "is_within" "is_within" s_is_within a_is_within fd_is_within)
    {a_is_integer : Addr} {fd_is_integer : FuncData} (c_is_integer : Cal K mg "is_integer" a_is_integer fd_is_integer ["thing"]) (F_is_integer : FnOk P w K mg base (L2.CX P w) 1 a_is_integer fd_is_integer ["thing"] (spD K cl (MemS K cl) 1 m_is_integer)) : FnOk P w K mg base (L2.CX P w) 2 a_is_within fd_is_within ["thing", "least", "most"] (spD K cl (MemS K cl) 3 m_is_within) := by
  refine FnOk.mono (fn_ok (k := 1) G_is_within sc_is_within rfl fun cdv A outer s H E hr => ?_) (by omega)
  exact dss_one (ds_ret seeHide (de_and (de_call F_is_integer (hr.mono (by first | decide | omega)) (by rfl) c_is_integer.mg c_is_integer.kp c_is_integer.b takesD (da_cons (de_var (pv 0)) (da_nil)) rfl) (de_one (de_chain op_le v_le op_le v_le (de_var (pv 1)) (de_var (pv 0)) (de_var (pv 2))))))
theorem ok_is_word (T : Txt P w K mg cl) {a_is_word : Addr} {fd_is_word : FuncData} (G_is_word : Fun K "is_word" "is_word" s_is_word a_is_word fd_is_word)
    {a_is_letters : Addr} {fd_is_letters : FuncData} (c_is_letters : Cal K mg "is_letters" a_is_letters fd_is_letters ["thing", "most"]) (F_is_letters : FnOk P w K mg base (L2.CX P w) 1 a_is_letters fd_is_letters ["thing", "most"] (spD K cl (MemS K cl) 2 m_is_letters)) : FnOk P w K mg base (L2.CX P w) 2 a_is_word fd_is_word ["thing"] (spD K cl (MemS K cl) 1 m_is_word) := by
  refine FnOk.mono (fn_ok (k := 1) G_is_word sc_is_word rfl fun cdv A outer s H E hr => ?_) (by omega)
  exact dss_one (ds_ret seeHide (de_call F_is_letters (hr.mono (by first | decide | omega)) (by rfl) c_is_letters.mg c_is_letters.kp c_is_letters.b takesD (da_cons (de_var (pv 0)) (da_cons (de_gl T.g_MOST_LETTERS (by rfl)) (da_nil))) rfl))
theorem ok_is_words (T : Txt P w K mg cl) {a_is_words : Addr} {fd_is_words : FuncData} (G_is_words : Fun K "is_words" "is_words" s_is_words a_is_words fd_is_words)
    {a_is_word : Addr} {fd_is_word : FuncData} (c_is_word : Cal K mg "is_word" a_is_word fd_is_word ["thing"]) (F_is_word : FnOk P w K mg base (L2.CX P w) 2 a_is_word fd_is_word ["thing"] (spD K cl (MemS K cl) 1 m_is_word)) : FnOk P w K mg base (L2.CX P w) 3 a_is_words fd_is_words ["thing", "most"] (spD K cl (MemS K cl) 2 m_is_words) := by
  refine FnOk.mono (fn_ok (k := 2) G_is_words sc_is_words rfl fun cdv A outer s H E hr => ?_) (by omega)
  exact dss_one (ds_ret seeHide (de_and (de_isi (de_var (pv 0)) (by rfl) T.b_isinstance (by rfl) T.b_tuple PyProof.Rows.boot_tuple) (de_and (de_cmp op_le v_le (by with_unfolding_all rfl) (de_callB (c_len ⟨T.wp, T.ww⟩) v_len (by rfl) T.b_len PySem.boot_len (da_cons (de_var (pv 0)) (da_nil))) (de_var (pv 1))) (de_one (de_callB (cr_all rfl) v_all (by rfl) T.b_all boot_all (da_cons (de_comp (own := [("word", 2)]) rfl sc_is_words.nd (di_any (de_var (pv 0))) (blkOk_by (own := [("word", 2)]) (N := N_is_words) (sc := defScope s_is_words) (by decide +kernel)) (fun _ _ _ _ _ => dg_name (i := 2) sc_is_words.nd rfl (by first | exact Or.inl rfl | exact Or.inr rfl)) (in_name (by decide)) (fun _ _ _ _ _ => dts_nil) (fun _ _ _ _ _ => de_call F_is_word (hr.mono (by first | decide | omega)) (by rfl) c_is_word.mg c_is_word.kp c_is_word.b takes0 (da_cons (de_var (pv 2)) (da_nil)) rfl)) (da_nil)))))))
theorem ok_is_board (T : Txt P w K mg cl) {a_is_board : Addr} {fd_is_board : FuncData} (G_is_board : Fun K "is_board" "is_board" s_is_board a_is_board fd_is_board)
    {a_is_name : Addr} {fd_is_name : FuncData} (c_is_name : Cal K mg "is_name" a_is_name fd_is_name ["thing"]) (F_is_name : FnOk P w K mg base (L2.CX P w) 2 a_is_name fd_is_name ["thing"] (spD K cl (MemS K cl) 1 m_is_name))
    {a_is_within : Addr} {fd_is_within : FuncData} (c_is_within : Cal K mg "is_within" a_is_within fd_is_within ["thing", "least", "most"]) (F_is_within : FnOk P w K mg base (L2.CX P w) 2 a_is_within fd_is_within ["thing", "least", "most"] (spD K cl (MemS K cl) 3 m_is_within))
    {a_is_words : Addr} {fd_is_words : FuncData} (c_is_words : Cal K mg "is_words" a_is_words fd_is_words ["thing", "most"]) (F_is_words : FnOk P w K mg base (L2.CX P w) 3 a_is_words fd_is_words ["thing", "most"] (spD K cl (MemS K cl) 2 m_is_words)) : FnOk P w K mg base (L2.CX P w) 4 a_is_board fd_is_board ["thing"] (spD K cl (MemS K cl) 1 m_is_board) := by
  refine FnOk.mono (fn_ok (k := 3) G_is_board sc_is_board rfl fun cdv A outer s H E hr => ?_) (by omega)
  exact dss_cons (ds_if seeHide (dt_of_dw (dw_or (dt_not (dt_truth (de_isi (de_var (pv 0)) (by rfl) T.b_isinstance (by rfl) T.b_tuple PyProof.Rows.boot_tuple))) (dw_or1 (dt_cmp (op_neD (hu64 (hu65 hr))) v_ne (by with_unfolding_all rfl) (de_callB (c_len ⟨T.wp, T.ww⟩) v_len (by rfl) T.b_len PySem.boot_len (da_cons (de_var (pv 0)) (da_nil))) (de_int))))) (dss_one (ds_ret seeHide (de_bl))) (dss_nil)) (dss_one (ds_ret seeHide (de_and (de_call F_is_name (hr.mono (by first | decide | omega)) (by rfl) c_is_name.mg c_is_name.kp c_is_name.b takesD (da_cons (de_ix ⟨T.wp, T.ww⟩ (hu65 hr) (de_var (pv 0)) (de_int)) (da_nil)) rfl) (de_and (de_call F_is_within (hr.mono (by first | decide | omega)) (by rfl) c_is_within.mg c_is_within.kp c_is_within.b takesD (da_cons (de_ix ⟨T.wp, T.ww⟩ (hu65 hr) (de_var (pv 0)) (de_int)) (da_cons (de_int) (da_cons (de_int) (da_nil)))) rfl) (de_one (de_call F_is_words (hr.mono (by first | decide | omega)) (by rfl) c_is_words.mg c_is_words.kp c_is_words.b takesD (da_cons (de_ix ⟨T.wp, T.ww⟩ (hu65 hr) (de_var (pv 0)) (de_int)) (da_cons (de_gl T.g_MOST_BEGUN (by rfl)) (da_nil))) rfl))))))
theorem ok_Hall_init (T : Txt P w K mg cl) {a_Hall_init : Addr} {fd_Hall_init : FuncData} (G_Hall_init : Fun K "__init__" "Hall.__init__" s_Hall_init a_Hall_init fd_Hall_init)
    {a_Hall_keep : Addr} {fd_Hall_keep : FuncData} (c_Hall_keep : CalM K fd_Hall_keep ["self", "boards"]) (F_Hall_keep : FnOk P w K mg base (L2.CX P w) 1 a_Hall_keep fd_Hall_keep ["self", "boards"] (spD K cl (MemS K cl) 2 m_Hall_keep))
    (N_Hall_keep : MethAt K cl "Hall" "keep" a_Hall_keep)
    {a_is_board : Addr} {fd_is_board : FuncData} (c_is_board : Cal K mg "is_board" a_is_board fd_is_board ["thing"]) (F_is_board : FnOk P w K mg base (L2.CX P w) 4 a_is_board fd_is_board ["thing"] (spD K cl (MemS K cl) 1 m_is_board)) : FnOk P w K mg base (L2.CX P w) 5 a_Hall_init fd_Hall_init ["self", "boards"] (spD K cl (MemS K cl) 2 m_Hall_init) := by
  refine FnOk.mono (fn_ok (k := 4) G_Hall_init sc_Hall_init rfl fun cdv A outer s H E hr => ?_) (by omega)
  exact dss_cons (ds_if seeHide (dt_of_dw (dw_or (dt_not (dt_truth (de_isi (de_var (pv 1)) (by rfl) T.b_isinstance (by rfl) T.b_tuple PyProof.Rows.boot_tuple))) (dw_or1 (dt_not (dt_chain op_le v_le op_le v_le (de_int) (de_callB (c_len ⟨T.wp, T.ww⟩) v_len (by rfl) T.b_len PySem.boot_len (da_cons (de_var (pv 1)) (da_nil))) (de_gl T.g_MOST_BOARDS (by rfl))))))) (dss_one (ds_never)) (dss_nil)) (dss_cons (ds_for passesD rfl (di_enum (by rfl) T.b_enumerate (de_var (pv 1))) (dg_tup rfl (dgs_cons (dg_name (i := 2) sc_Hall_init.nd rfl (by first | exact Or.inl rfl | exact Or.inr rfl)) (dgs_cons (dg_name (i := 3) sc_Hall_init.nd rfl (by first | exact Or.inl rfl | exact Or.inr rfl)) (dgs_nil))) (aCons_len (aCons_len aNil_len))) (dss_one (ds_if seeHide (dt_not (dt_truth (de_call F_is_board (hr.mono (by first | decide | omega)) (by rfl) c_is_board.mg c_is_board.kp c_is_board.b takesD (da_cons (de_var (pv 3)) (da_nil)) rfl))) (dss_one (ds_never)) (dss_nil)))) (dss_one (ds_expr seeHide (de_meth N_Hall_keep F_Hall_keep (hr.mono (by first | decide | omega)) c_Hall_keep.b takesD (de_var (pv 0)) (da_cons (de_var (pv 1)) (da_nil)) rfl))))
theorem ok__law_pick (T : Txt P w K mg cl) {a__law_pick : Addr} {fd__law_pick : FuncData} (G__law_pick : Fun K "_law_pick" "_law_pick" s__law_pick a__law_pick fd__law_pick)
     : FnOk P w K mg base (L2.CX P w) 1 a__law_pick fd__law_pick ["_law_tape_here", "_law_size"] (spD K cl (MemS K cl) 2 m__law_pick) := by
  refine FnOk.mono (fn_ok (k := 0) G__law_pick sc__law_pick rfl fun cdv A outer s H E hr => ?_) (by omega)
  exact dss_cons (ds_if seeHide (dt_cmp op_gt v_gt (by with_unfolding_all rfl) (de_ixM (de_var (pv 0)) (de_int)) (de_int)) (dss_cons (ds_set (i := 4) sc__law_pick.nd rfl (by first | exact Or.inl rfl | exact Or.inr rfl) (de_op op_mod v_mod (de_callTy call_int1 v_int (by rfl) T.b_int PyProof.Rows.boot_int (da_cons (de_ixM (de_var (pv 0)) (de_int)) (da_nil))) (de_var (pv 1)))) (dss_cons (ds_setM seeHide (de_op op_fdiv v_fdiv (de_ixM (de_var (pv 0)) (de_int)) (de_var (pv 1))) (de_var (pv 0)) (de_int)) (dss_one (ds_ret seeHide (de_var (pv 4)))))) (dss_nil)) (dss_cons (ds_setM seeHide (de_op op_addA v_add (de_ixM (de_var (pv 0)) (de_int)) (de_int)) (de_var (pv 0)) (de_int)) (dss_cons (ds_set (i := 2) sc__law_pick.nd rfl (by first | exact Or.inl rfl | exact Or.inr rfl) (de_int)) (dss_cons (ds_if seeHide (dt_cmp op_lt v_lt (by with_unfolding_all rfl) (de_ixM (de_var (pv 0)) (de_int)) (de_lenM (by rfl) T.b_len (de_ixM (de_var (pv 0)) (de_int)))) (dss_cons (ds_set (i := 2) sc__law_pick.nd rfl (by first | exact Or.inl rfl | exact Or.inr rfl) (de_ixM (de_ixM (de_var (pv 0)) (de_int)) (de_ixM (de_var (pv 0)) (de_int)))) (dss_one (ds_setM seeHide (de_op op_addA v_add (de_ixM (de_var (pv 0)) (de_int)) (de_int)) (de_var (pv 0)) (de_int)))) (dss_nil)) (dss_cons (ds_if seeHide (dt_cmp op_ge v_ge (by with_unfolding_all rfl) (de_var (pv 2)) (de_op op_pow v_pow (de_int) (de_int))) (dss_cons (ds_setM seeHide (de_op op_fdiv v_fdiv (de_var (pv 2)) (de_var (pv 1))) (de_var (pv 0)) (de_int)) (dss_one (ds_ret seeHide (de_op op_mod v_mod (de_callTy call_int1 v_int (by rfl) T.b_int PyProof.Rows.boot_int (da_cons (de_var (pv 2)) (da_nil))) (de_var (pv 1)))))) (dss_nil)) (dss_cons (ds_set (i := 3) sc__law_pick.nd rfl (by first | exact Or.inl rfl | exact Or.inr rfl) (de_op op_mod v_mod (de_callTy call_int1 v_int (by rfl) T.b_int PyProof.Rows.boot_int (da_cons (de_op op_addA v_add (de_op op_addA v_add (de_op op_mulA v_mul (de_ixM (de_var (pv 0)) (de_int)) (de_int)) (de_op op_mod v_mod (de_callTy call_int1 v_int (by rfl) T.b_int PyProof.Rows.boot_int (da_cons (de_var (pv 2)) (da_nil))) (de_int))) (de_op op_mulA v_mul (de_ixM (de_var (pv 0)) (de_int)) (de_int))) (da_nil))) (de_int))) (dss_cons (ds_set (i := 3) sc__law_pick.nd rfl (by first | exact Or.inl rfl | exact Or.inr rfl) (de_op op_mod v_mod (de_callTy call_int1 v_int (by rfl) T.b_int PyProof.Rows.boot_int (da_cons (de_op op_mulA v_mul (de_var (pv 3)) (de_op op_addA v_add (de_op op_fdiv v_fdiv (de_var (pv 3)) (de_int)) (de_int))) (da_nil))) (de_int))) (dss_cons (ds_setM seeHide (de_var (pv 3)) (de_var (pv 0)) (de_int)) (dss_one (ds_ret seeHide (de_op op_mod v_mod (de_callTy call_int1 v_int (by rfl) T.b_int PyProof.Rows.boot_int (da_cons (de_op op_fdiv v_fdiv (de_var (pv 3)) (de_int)) (da_nil))) (de_var (pv 1))))))))))))
theorem ok__law_aim (T : Txt P w K mg cl) {a__law_aim : Addr} {fd__law_aim : FuncData} (G__law_aim : Fun K "_law_aim" "_law_aim" s__law_aim a__law_aim fd__law_aim) (c__law_aim : Cal K mg "_law_aim" a__law_aim fd__law_aim ["_law_tape_here", "_law_many", "_law_deep"])
    {a__law_pick : Addr} {fd__law_pick : FuncData} (c__law_pick : Cal K mg "_law_pick" a__law_pick fd__law_pick ["_law_tape_here", "_law_size"]) (F__law_pick : FnOk P w K mg base (L2.CX P w) 1 a__law_pick fd__law_pick ["_law_tape_here", "_law_size"] (spD K cl (MemS K cl) 2 m__law_pick)) : ∀ n : Nat, FnOk P w K mg base (L2.CX P w) (1 + n) a__law_aim fd__law_aim ["_law_tape_here", "_law_many", "_law_deep"] (spD K cl (MemS K cl) 3 (m__law_aim n))
  | 0 => fn_stuck rfl
  | n + 1 => by
    have F__law_aim := ok__law_aim T G__law_aim c__law_aim  c__law_pick F__law_pick n
    exact fn_ok (k := 1 + n) G__law_aim sc__law_aim rfl fun cdv A outer s H E hr => by
      exact dss_cons (ds_if seeHide (dt_of_dw (dw_or (dt_cmp op_lt v_lt (by with_unfolding_all rfl) (de_var (pv 2)) (de_int)) (dw_or1 (dt_cmp (op_eqD (hu64 (hu65 hr))) v_eq (by with_unfolding_all rfl) (de_call F__law_pick (hr.mono (by first | decide | omega)) (by rfl) c__law_pick.mg c__law_pick.kp c__law_pick.b takesD (da_cons (de_var (pv 0)) (da_cons (de_int) (da_nil))) rfl) (de_int))))) (dss_one (ds_ret seeHide (de_call F__law_pick (hr.mono (by first | decide | omega)) (by rfl) c__law_pick.mg c__law_pick.kp c__law_pick.b takesD (da_cons (de_var (pv 0)) (da_cons (de_var (pv 1)) (da_nil))) rfl))) (dss_nil)) (dss_cons (ds_set (i := 3) sc__law_aim.nd rfl (by first | exact Or.inl rfl | exact Or.inr rfl) (de_callTy call_tuple_of v_tuple (by rfl) T.b_tuple PyProof.Rows.boot_tuple (da_cons (de_comp (own := [("_law_k", 4)]) rfl sc__law_aim.nd (di_range1 (by rfl) T.b_range (de_ix ⟨T.wp, T.ww⟩ (hu65 hr) (de_lst (da_cons (de_int) (da_cons (de_int) (da_cons (de_int) (da_cons (de_int) (da_cons (de_int) (da_cons (de_int) (da_cons (de_int) (da_nil))))))))) (de_call F__law_pick (hr.mono (by first | decide | omega)) (by rfl) c__law_pick.mg c__law_pick.kp c__law_pick.b takesD (da_cons (de_var (pv 0)) (da_cons (de_int) (da_nil))) rfl))) (blkOk_by (own := [("_law_k", 4)]) (N := N__law_aim) (sc := defScope s__law_aim) (by decide +kernel)) (fun _ _ _ _ _ => dg_name (i := 4) sc__law_aim.nd rfl (by first | exact Or.inl rfl | exact Or.inr rfl)) (in_name (by decide)) (fun _ _ _ _ _ => dts_nil) (fun _ _ _ _ _ => de_call F__law_aim (hr.mono (by first | decide | omega)) (by rfl) c__law_aim.mg c__law_aim.kp c__law_aim.b takes0 (da_cons (de_var (pv 0)) (da_cons (de_var (pv 1)) (da_cons (de_op op_sub v_sub (de_var (pv 2)) (de_int)) (da_nil)))) rfl)) (da_nil)))) (dss_cons (ds_if seeHide (dt_cmp (op_eqD (hu64 (hu65 hr))) v_eq (by with_unfolding_all rfl) (de_call F__law_pick (hr.mono (by first | decide | omega)) (by rfl) c__law_pick.mg c__law_pick.kp c__law_pick.b takesD (da_cons (de_var (pv 0)) (da_cons (de_int) (da_nil))) rfl) (de_int)) (dss_one (ds_ret seeHide (de_tup (da_cons (de_str) (da_cons (de_call F__law_pick (hr.mono (by first | decide | omega)) (by rfl) c__law_pick.mg c__law_pick.kp c__law_pick.b takesD (da_cons (de_var (pv 0)) (da_cons (de_op op_addA v_add (de_callB (c_len ⟨T.wp, T.ww⟩) v_len (by rfl) T.b_len PySem.boot_len (da_cons (de_var (pv 3)) (da_nil))) (de_int)) (da_nil))) rfl) (da_cons (de_var (pv 3)) (da_nil))))))) (dss_nil)) (dss_one (ds_ret seeHide (de_tup (da_cons (de_ix ⟨T.wp, T.ww⟩ (hu65 hr) (de_lst (da_cons (de_str) (da_cons (de_str) (da_nil)))) (de_call F__law_pick (hr.mono (by first | decide | omega)) (by rfl) c__law_pick.mg c__law_pick.kp c__law_pick.b takesD (da_cons (de_var (pv 0)) (da_cons (de_int) (da_nil))) rfl)) (da_cons (de_var (pv 3)) (da_nil))))))))
theorem ok__law_some (T : Txt P w K mg cl) {a__law_some : Addr} {fd__law_some : FuncData} (G__law_some : Fun K "_law_some" "_law_some" s__law_some a__law_some fd__law_some)
    {a__law_pick : Addr} {fd__law_pick : FuncData} (c__law_pick : Cal K mg "_law_pick" a__law_pick fd__law_pick ["_law_tape_here", "_law_size"]) (F__law_pick : FnOk P w K mg base (L2.CX P w) 1 a__law_pick fd__law_pick ["_law_tape_here", "_law_size"] (spD K cl (MemS K cl) 2 m__law_pick)) : FnOk P w K mg base (L2.CX P w) 2 a__law_some fd__law_some ["_law_tape_here", "_law_things"] (spD K cl (MemS K cl) 2 m__law_some) := by
  refine FnOk.mono (fn_ok (k := 1) G__law_some sc__law_some rfl fun cdv A outer s H E hr => ?_) (by omega)
  exact dss_one (ds_ret seeHide (de_ix ⟨T.wp, T.ww⟩ (hu65 hr) (de_var (pv 1)) (de_call F__law_pick (hr.mono (by first | decide | omega)) (by rfl) c__law_pick.mg c__law_pick.kp c__law_pick.b takesD (da_cons (de_var (pv 0)) (da_cons (de_callB (c_len ⟨T.wp, T.ww⟩) v_len (by rfl) T.b_len PySem.boot_len (da_cons (de_var (pv 1)) (da_nil))) (da_nil))) rfl)))
theorem ok__law_bent (T : Txt P w K mg cl) {a__law_bent : Addr} {fd__law_bent : FuncData} (G__law_bent : Fun K "_law_bent" "_law_bent" s__law_bent a__law_bent fd__law_bent) (c__law_bent : Cal K mg "_law_bent" a__law_bent fd__law_bent ["_law_tape_here", "_law_aim_here", "_law_many"])
    {a__law_pick : Addr} {fd__law_pick : FuncData} (c__law_pick : Cal K mg "_law_pick" a__law_pick fd__law_pick ["_law_tape_here", "_law_size"]) (F__law_pick : FnOk P w K mg base (L2.CX P w) 1 a__law_pick fd__law_pick ["_law_tape_here", "_law_size"] (spD K cl (MemS K cl) 2 m__law_pick))
    {a__law_some : Addr} {fd__law_some : FuncData} (c__law_some : Cal K mg "_law_some" a__law_some fd__law_some ["_law_tape_here", "_law_things"]) (F__law_some : FnOk P w K mg base (L2.CX P w) 2 a__law_some fd__law_some ["_law_tape_here", "_law_things"] (spD K cl (MemS K cl) 2 m__law_some)) : ∀ n : Nat, FnOk P w K mg base (L2.CX P w) (2 + n) a__law_bent fd__law_bent ["_law_tape_here", "_law_aim_here", "_law_many"] (spD K cl (MemS K cl) 3 (m__law_bent_v4 n))
  | 0 => fn_stuck rfl
  | n + 1 => by
    have F__law_bent := ok__law_bent T G__law_bent c__law_bent  c__law_pick F__law_pick c__law_some F__law_some n
    exact fn_ok (k := 2 + n) G__law_bent sc__law_bent rfl fun cdv A outer s H E hr => by
      exact dss_cons (ds_if seeHide (dt_of_dw (dw_and (dt_truth (de_isi (de_var (pv 1)) (by rfl) T.b_isinstance (by rfl) T.b_tuple PyProof.Rows.boot_tuple)) (dw_and (dt_cmp op_gt v_gt (by with_unfolding_all rfl) (de_callB (c_len ⟨T.wp, T.ww⟩) v_len (by rfl) T.b_len PySem.boot_len (da_cons (de_ix ⟨T.wp, T.ww⟩ (hu65 hr) (de_var (pv 1)) (de_un un_neg v_neg (de_int))) (da_nil))) (de_int)) (dw_and1 (dt_cmp op_gt v_gt (by with_unfolding_all rfl) (de_call F__law_pick (hr.mono (by first | decide | omega)) (by rfl) c__law_pick.mg c__law_pick.kp c__law_pick.b takesD (da_cons (de_var (pv 0)) (da_cons (de_int) (da_nil))) rfl) (de_int)))))) (dss_cons (ds_set (i := 4) sc__law_bent.nd rfl (by first | exact Or.inl rfl | exact Or.inr rfl) (de_call F__law_pick (hr.mono (by first | decide | omega)) (by rfl) c__law_pick.mg c__law_pick.kp c__law_pick.b takesD (da_cons (de_var (pv 0)) (da_cons (de_callB (c_len ⟨T.wp, T.ww⟩) v_len (by rfl) T.b_len PySem.boot_len (da_cons (de_ix ⟨T.wp, T.ww⟩ (hu65 hr) (de_var (pv 1)) (de_un un_neg v_neg (de_int))) (da_nil))) (da_nil))) rfl)) (dss_one (ds_ret seeHide (de_op op_addA v_add (de_slice (de_var (pv 1)) (do_none) (do_some (de_un un_neg v_neg (de_int)))) (de_tup (da_cons (de_op op_addA v_add (de_op op_addA v_add (de_slice (de_ix ⟨T.wp, T.ww⟩ (hu65 hr) (de_var (pv 1)) (de_un un_neg v_neg (de_int))) (do_none) (do_some (de_var (pv 4)))) (de_tup (da_cons (de_call F__law_bent (hr.mono (by first | decide | omega)) (by rfl) c__law_bent.mg c__law_bent.kp c__law_bent.b takesD (da_cons (de_var (pv 0)) (da_cons (de_ix ⟨T.wp, T.ww⟩ (hu65 hr) (de_ix ⟨T.wp, T.ww⟩ (hu65 hr) (de_var (pv 1)) (de_un un_neg v_neg (de_int))) (de_var (pv 4))) (da_cons (de_var (pv 2)) (da_nil)))) rfl) (da_nil)))) (de_slice (de_ix ⟨T.wp, T.ww⟩ (hu65 hr) (de_var (pv 1)) (de_un un_neg v_neg (de_int))) (do_some (de_op op_addA v_add (de_var (pv 4)) (de_int))) (do_none))) (da_nil))))))) (dss_nil)) (dss_cons (ds_set (i := 3) sc__law_bent.nd rfl (by first | exact Or.inl rfl | exact Or.inr rfl) (de_lst (da_cons (de_var (pv 2)) (da_cons (de_un un_neg v_neg (de_int)) (da_cons (de_bl) (da_cons (de_bl) (da_cons (de_non) (da_cons (de_str) (da_cons (de_tup (da_nil)) (da_cons (de_tup (da_cons (de_str) (da_nil))) (da_cons (de_tup (da_cons (de_str) (da_cons (de_int) (da_nil)))) (da_cons (de_tup (da_cons (de_str) (da_cons (de_lst (da_cons (de_int) (da_nil))) (da_nil)))) (da_cons (de_tup (da_cons (de_str) (da_cons (de_tup (da_cons (de_int) (da_nil))) (da_nil)))) (da_cons (de_tup (da_cons (de_str) (da_cons (de_int) (da_cons (de_tup (da_cons (de_int) (da_nil))) (da_nil))))) (da_nil))))))))))))))) (dss_cons (ds_set (i := 3) sc__law_bent.nd rfl (by first | exact Or.inl rfl | exact Or.inr rfl) (de_op op_addA v_add (de_var (pv 3)) (de_lst (da_cons (de_tup (da_cons (de_str) (da_cons (de_int) (da_cons (de_tup (da_cons (de_int) (da_nil))) (da_nil))))) (da_cons (de_tup (da_cons (de_str) (da_cons (de_un un_neg v_neg (de_int)) (da_cons (de_tup (da_nil)) (da_nil))))) (da_cons (de_tup (da_cons (de_str) (da_cons (de_bl) (da_cons (de_tup (da_cons (de_int) (da_nil))) (da_nil))))) (da_cons (de_tup (da_cons (de_str) (da_cons (de_tup (da_cons (de_int) (da_nil))) (da_nil)))) (da_cons (de_lst (da_cons (de_str) (da_cons (de_tup (da_cons (de_int) (da_nil))) (da_nil)))) (da_cons (de_tup (da_cons (de_str) (da_cons (de_tup (da_cons (de_int) (da_nil))) (da_cons (de_tup (da_nil)) (da_nil))))) (da_nil)))))))))) (dss_cons (ds_set (i := 3) sc__law_bent.nd rfl (by first | exact Or.inl rfl | exact Or.inr rfl) (de_op op_addA v_add (de_var (pv 3)) (de_lst (da_cons (de_tup (da_cons (de_str) (da_cons (de_int) (da_cons (de_tup (da_cons (de_int) (da_nil))) (da_nil))))) (da_cons (de_op op_pow v_pow (de_int) (de_int)) (da_cons (de_op op_addA v_add (de_op op_pow v_pow (de_int) (de_int)) (de_int)) (da_cons (de_tup (da_cons (de_str) (da_cons (de_op op_mulA v_mul (de_tup (da_cons (de_int) (da_nil))) (de_int)) (da_nil)))) (da_cons (de_tup (da_cons (de_str) (da_cons (de_op op_mulA v_mul (de_tup (da_cons (de_int) (da_nil))) (de_int)) (da_nil)))) (da_cons (de_dct0) (da_nil)))))))))) (dss_one (ds_ret seeHide (de_call F__law_some (hr.mono (by first | decide | omega)) (by rfl) c__law_some.mg c__law_some.kp c__law_some.b takesD (da_cons (de_var (pv 0)) (da_cons (de_var (pv 3)) (da_nil))) rfl))))))
theorem ok__law_int (T : Txt P w K mg cl) {a__law_int : Addr} {fd__law_int : FuncData} (G__law_int : Fun K "_law_int" "_law_int" s__law_int a__law_int fd__law_int)
     : FnOk P w K mg base (L2.CX P w) 1 a__law_int fd__law_int ["_law_thing", "_law_least", "_law_most"] (spD K cl (MemS K cl) 3 m__law_int) := by
  refine FnOk.mono (fn_ok (k := 0) G__law_int sc__law_int rfl fun cdv A outer s H E hr => ?_) (by omega)
  exact dss_one (ds_ret seeHide (de_and (de_isi (de_var (pv 0)) (by rfl) T.b_isinstance (by rfl) T.b_int PyProof.Rows.boot_int) (de_and (de_not (de_isi (de_var (pv 0)) (by rfl) T.b_isinstance (by rfl) T.b_bool PyProof.Rows.boot_bool)) (de_and (de_cmp op_le v_le (by with_unfolding_all rfl) (de_var (pv 1)) (de_var (pv 0))) (de_one (de_cmp op_le v_le (by with_unfolding_all rfl) (de_var (pv 0)) (de_var (pv 2))))))))
theorem ok__law_measure (T : Txt P w K mg cl) {a__law_measure : Addr} {fd__law_measure : FuncData} (G__law_measure : Fun K "_law_measure" "_law_measure" s__law_measure a__law_measure fd__law_measure) (c__law_measure : Cal K mg "_law_measure" a__law_measure fd__law_measure ["_law_thing", "_law_most"])
    {a__law_int : Addr} {fd__law_int : FuncData} (c__law_int : Cal K mg "_law_int" a__law_int fd__law_int ["_law_thing", "_law_least", "_law_most"]) (F__law_int : FnOk P w K mg base (L2.CX P w) 1 a__law_int fd__law_int ["_law_thing", "_law_least", "_law_most"] (spD K cl (MemS K cl) 3 m__law_int)) : ∀ n : Nat, FnOk P w K mg base (L2.CX P w) (1 + n) a__law_measure fd__law_measure ["_law_thing", "_law_most"] (spD K cl (MemS K cl) 2 (m__law_measure n))
  | 0 => fn_stuck rfl
  | n + 1 => by
    have F__law_measure := ok__law_measure T G__law_measure c__law_measure  c__law_int F__law_int n
    exact fn_ok (k := 1 + n) G__law_measure sc__law_measure rfl fun cdv A outer s H E hr => by
      exact dss_cons (ds_if seeHide (dt_truth (de_call F__law_int (hr.mono (by first | decide | omega)) (by rfl) c__law_int.mg c__law_int.kp c__law_int.b takesD (da_cons (de_var (pv 0)) (da_cons (de_int) (da_cons (de_var (pv 1)) (da_nil)))) rfl)) (dss_one (ds_ret seeHide (de_tup (da_cons (de_int) (da_cons (de_int) (da_nil)))))) (dss_nil)) (dss_cons (ds_if seeHide (dt_of_dw (dw_or (dt_not (dt_truth (de_isi (de_var (pv 0)) (by rfl) T.b_isinstance (by rfl) T.b_tuple PyProof.Rows.boot_tuple))) (dw_or (dt_cmp (op_notInK ⟨T.wp, T.ww⟩ (hu65 hr)) v_notInK (by with_unfolding_all rfl) (de_callB (c_len ⟨T.wp, T.ww⟩) v_len (by rfl) T.b_len PySem.boot_len (da_cons (de_var (pv 0)) (da_nil))) (de_tup (da_cons (de_int) (da_cons (de_int) (da_nil))))) (dw_or1 (dt_not (dt_truth (de_isi (de_ix ⟨T.wp, T.ww⟩ (hu65 hr) (de_var (pv 0)) (de_int)) (by rfl) T.b_isinstance (by rfl) T.b_str PyProof.Rows.boot_str))))))) (dss_one (ds_ret seeHide (de_non))) (dss_nil)) (dss_cons (ds_if seeHide (dt_of_dw (dw_or (dt_of_dw (dw_and (dt_cmp (op_eqD (hu64 (hu65 hr))) v_eq (by with_unfolding_all rfl) (de_callB (c_len ⟨T.wp, T.ww⟩) v_len (by rfl) T.b_len PySem.boot_len (da_cons (de_var (pv 0)) (da_nil))) (de_int)) (dw_and1 (dt_cmp (op_notInK ⟨T.wp, T.ww⟩ (hu65 hr)) v_notInK (by with_unfolding_all rfl) (de_ix ⟨T.wp, T.ww⟩ (hu65 hr) (de_var (pv 0)) (de_int)) (de_tup (da_cons (de_str) (da_cons (de_str) (da_nil)))))))) (dw_or (dt_not (dt_truth (de_isi (de_ix ⟨T.wp, T.ww⟩ (hu65 hr) (de_var (pv 0)) (de_un un_neg v_neg (de_int))) (by rfl) T.b_isinstance (by rfl) T.b_tuple PyProof.Rows.boot_tuple))) (dw_or1 (dt_cmp op_gt v_gt (by with_unfolding_all rfl) (de_callB (c_len ⟨T.wp, T.ww⟩) v_len (by rfl) T.b_len PySem.boot_len (da_cons (de_ix ⟨T.wp, T.ww⟩ (hu65 hr) (de_var (pv 0)) (de_un un_neg v_neg (de_int))) (da_nil))) (de_int)))))) (dss_one (ds_ret seeHide (de_non))) (dss_nil)) (dss_cons (ds_if seeHide (dt_of_dw (dw_and (dt_cmp (op_eqD (hu64 (hu65 hr))) v_eq (by with_unfolding_all rfl) (de_callB (c_len ⟨T.wp, T.ww⟩) v_len (by rfl) T.b_len PySem.boot_len (da_cons (de_var (pv 0)) (da_nil))) (de_int)) (dw_and1 (dt_of_dw (dw_or (dt_cmp (op_neD (hu64 (hu65 hr))) v_ne (by with_unfolding_all rfl) (de_ix ⟨T.wp, T.ww⟩ (hu65 hr) (de_var (pv 0)) (de_int)) (de_str)) (dw_or1 (dt_not (dt_truth (de_call F__law_int (hr.mono (by first | decide | omega)) (by rfl) c__law_int.mg c__law_int.kp c__law_int.b takesD (da_cons (de_ix ⟨T.wp, T.ww⟩ (hu65 hr) (de_var (pv 0)) (de_int)) (da_cons (de_int) (da_cons (de_int) (da_nil)))) rfl))))))))) (dss_one (ds_ret seeHide (de_non))) (dss_nil)) (dss_cons (ds_setLc (i := 2) (own := [("_law_one", 3)]) rfl sc__law_measure.nd rfl rfl (sw_true rfl rfl rfl (by decide +kernel)) (di_any (de_ix ⟨T.wp, T.ww⟩ (hu65 hr) (de_var (pv 0)) (de_un un_neg v_neg (de_int)))) (blkOk_by (own := [("_law_one", 3)]) (N := N__law_measure) (sc := defScope s__law_measure) (by decide +kernel)) (fun _ _ _ _ _ => dg_name (i := 3) sc__law_measure.nd rfl (by first | exact Or.inl rfl | exact Or.inr rfl)) (in_name (by decide)) (fun _ _ _ _ _ => dts_nil) (fun _ _ _ _ _ => de_call F__law_measure (hr.mono (by first | decide | omega)) (by rfl) c__law_measure.mg c__law_measure.kp c__law_measure.b takes0 (da_cons (de_var (pv 3)) (da_cons (de_var (pv 1)) (da_nil))) rfl)) (dss_cons (ds_if seeHide (dt_cmp (op_inK ⟨T.wp, T.ww⟩ (hu65 hr)) v_inK (by with_unfolding_all rfl) (de_non) (de_var (pv 2))) (dss_one (ds_ret seeHide (de_non))) (dss_nil)) (dss_one (ds_ret seeHide (de_tup (da_cons (de_op op_addA v_add (de_int) (de_callB (cr_max rfl) v_maxL (by rfl) T.b_max PyProof.Rows.boot_max (da_cons (de_op op_addA v_add (de_lst (da_cons (de_int) (da_nil))) (de_comp (own := [("_law_deep", 4), ("_law_many", 5)]) rfl sc__law_measure.nd (di_any (de_var (pv 2))) (blkOk_by (own := [("_law_deep", 4), ("_law_many", 5)]) (N := N__law_measure) (sc := defScope s__law_measure) (by decide +kernel)) (fun _ _ _ _ _ => dg_tup rfl (dgs_cons (dg_name (i := 4) sc__law_measure.nd rfl (by first | exact Or.inl rfl | exact Or.inr rfl)) (dgs_cons (dg_name (i := 5) sc__law_measure.nd rfl (by first | exact Or.inl rfl | exact Or.inr rfl)) (dgs_nil))) (aCons_len (aCons_len aNil_len))) (in_tup (in_cons (in_name (by decide)) (in_cons (in_name (by decide)) (in_nil)))) (fun _ _ _ _ _ => dts_nil) (fun _ _ _ _ _ => de_var (pv 4)))) (da_nil)))) (da_cons (de_op op_addA v_add (de_int) (de_callB (cr_sum rfl) v_sum (by rfl) T.b_sum boot_sum (da_cons (de_comp (own := [("_law_deep", 4), ("_law_many", 5)]) rfl sc__law_measure.nd (di_any (de_var (pv 2))) (blkOk_by (own := [("_law_deep", 4), ("_law_many", 5)]) (N := N__law_measure) (sc := defScope s__law_measure) (by decide +kernel)) (fun _ _ _ _ _ => dg_tup rfl (dgs_cons (dg_name (i := 4) sc__law_measure.nd rfl (by first | exact Or.inl rfl | exact Or.inr rfl)) (dgs_cons (dg_name (i := 5) sc__law_measure.nd rfl (by first | exact Or.inl rfl | exact Or.inr rfl)) (dgs_nil))) (aCons_len (aCons_len aNil_len))) (in_tup (in_cons (in_name (by decide)) (in_cons (in_name (by decide)) (in_nil)))) (fun _ _ _ _ _ => dts_nil) (fun _ _ _ _ _ => de_var (pv 5))) (da_nil)))) (da_nil)))))))))))
theorem ok__law_is_aim (T : Txt P w K mg cl) {a__law_is_aim : Addr} {fd__law_is_aim : FuncData} (G__law_is_aim : Fun K "_law_is_aim" "_law_is_aim" s__law_is_aim a__law_is_aim fd__law_is_aim)
    {a__law_measure : Addr} {fd__law_measure : FuncData} (c__law_measure : Cal K mg "_law_measure" a__law_measure fd__law_measure ["_law_thing", "_law_most"]) (F__law_measure : FnOk P w K mg base (L2.CX P w) 15 a__law_measure fd__law_measure ["_law_thing", "_law_most"] (spD K cl (MemS K cl) 2 (m__law_measure 14))) : FnOk P w K mg base (L2.CX P w) 16 a__law_is_aim fd__law_is_aim ["_law_thing", "_law_most"] (spD K cl (MemS K cl) 2 m__law_is_aim) := by
  refine FnOk.mono (fn_ok (k := 15) G__law_is_aim sc__law_is_aim rfl fun cdv A outer s H E hr => ?_) (by omega)
  exact dss_cons (ds_set (i := 2) sc__law_is_aim.nd rfl (by first | exact Or.inl rfl | exact Or.inr rfl) (de_call F__law_measure (hr.mono (by first | decide | omega)) (by rfl) c__law_measure.mg c__law_measure.kp c__law_measure.b takesD (da_cons (de_var (pv 0)) (da_cons (de_var (pv 1)) (da_nil))) rfl)) (dss_one (ds_ret seeHide (de_and (de_cmp op_notN v_isNotN (by with_unfolding_all rfl) (de_var (pv 2)) (de_non)) (de_and (de_cmp op_le v_le (by with_unfolding_all rfl) (de_ix ⟨T.wp, T.ww⟩ (hu65 hr) (de_var (pv 2)) (de_int)) (de_int)) (de_one (de_cmp op_le v_le (by with_unfolding_all rfl) (de_ix ⟨T.wp, T.ww⟩ (hu65 hr) (de_var (pv 2)) (de_int)) (de_int)))))))
theorem ok__law_flag (T : Txt P w K mg cl) {a__law_flag : Addr} {fd__law_flag : FuncData} (G__law_flag : Fun K "_law_flag" "_law_flag" s__law_flag a__law_flag fd__law_flag)
     : FnOk P w K mg base (L2.CX P w) 1 a__law_flag fd__law_flag ["_law_told", "_law_due"] (spD K cl (MemS K cl) 2 m__law_flag) := by
  refine FnOk.mono (fn_ok (k := 0) G__law_flag sc__law_flag rfl fun cdv A outer s H E hr => ?_) (by omega)
  exact dss_one (ds_ret seeHide (de_and (de_isi (de_var (pv 0)) (by rfl) T.b_isinstance (by rfl) T.b_bool PyProof.Rows.boot_bool) (de_one (de_cmp (op_eqD (hu64 (hu65 hr))) v_eq (by with_unfolding_all rfl) (de_var (pv 0)) (de_var (pv 1))))))
theorem ok_check_number (T : Txt P w K mg cl) {a_check_number : Addr} {fd_check_number : FuncData} (G_check_number : Fun K "check_number" "check_number" s_check_number a_check_number fd_check_number)
    {a_is_within : Addr} {fd_is_within : FuncData} (c_is_within : Cal K mg "is_within" a_is_within fd_is_within ["thing", "least", "most"]) (F_is_within : FnOk P w K mg base (L2.CX P w) 2 a_is_within fd_is_within ["thing", "least", "most"] (spD K cl (MemS K cl) 3 m_is_within)) : FnOk P w K mg base (L2.CX P w) 3 a_check_number fd_check_number ["thing", "least", "most"] (spD K cl (MemS K cl) 3 m_check_number) := by
  refine FnOk.mono (fn_ok (k := 2) G_check_number sc_check_number rfl fun cdv A outer s H E hr => ?_) (by omega)
  exact dss_one (ds_if seeHide (dt_not (dt_truth (de_call F_is_within (hr.mono (by first | decide | omega)) (by rfl) c_is_within.mg c_is_within.kp c_is_within.b takesD (da_cons (de_var (pv 0)) (da_cons (de_var (pv 1)) (da_cons (de_var (pv 2)) (da_nil)))) rfl))) (dss_one (ds_raise0 T.r_NoNumber.choose_spec rfl takesD (by rfl))) (dss_nil))
theorem ok_moved_by (T : Txt P w K mg cl) {a_moved_by : Addr} {fd_moved_by : FuncData} (G_moved_by : Fun K "moved_by" "moved_by" s_moved_by a_moved_by fd_moved_by) (c_moved_by : Cal K mg "moved_by" a_moved_by fd_moved_by ["aim", "by"])
     : ∀ n : Nat, FnOk P w K mg base (L2.CX P w) (0 + n) a_moved_by fd_moved_by ["aim", "by"] (spD K cl (MemS K cl) 2 (m_moved_by n))
  | 0 => fn_stuck rfl
  | n + 1 => by
    have F_moved_by := ok_moved_by T G_moved_by c_moved_by   n
    exact fn_ok (k := 0 + n) G_moved_by sc_moved_by rfl fun cdv A outer s H E hr => by
      exact dss_cons (ds_if seeHide (dt_not (dt_truth (de_isi (de_var (pv 0)) (by rfl) T.b_isinstance (by rfl) T.b_tuple PyProof.Rows.boot_tuple))) (dss_one (ds_ret seeHide (de_op op_addA v_add (de_var (pv 0)) (de_var (pv 1))))) (dss_nil)) (dss_one (ds_ret seeHide (de_op op_addA v_add (de_slice (de_var (pv 0)) (do_none) (do_some (de_un un_neg v_neg (de_int)))) (de_tup (da_cons (de_callTy call_tuple_of v_tuple (by rfl) T.b_tuple PyProof.Rows.boot_tuple (da_cons (de_comp (own := [("one", 2)]) rfl sc_moved_by.nd (di_any (de_ix ⟨T.wp, T.ww⟩ (hu65 hr) (de_var (pv 0)) (de_un un_neg v_neg (de_int)))) (blkOk_by (own := [("one", 2)]) (N := N_moved_by) (sc := defScope s_moved_by) (by decide +kernel)) (fun _ _ _ _ _ => dg_name (i := 2) sc_moved_by.nd rfl (by first | exact Or.inl rfl | exact Or.inr rfl)) (in_name (by decide)) (fun _ _ _ _ _ => dts_nil) (fun _ _ _ _ _ => de_call F_moved_by (hr.mono (by first | decide | omega)) (by rfl) c_moved_by.mg c_moved_by.kp c_moved_by.b takes0 (da_cons (de_var (pv 2)) (da_cons (de_var (pv 1)) (da_nil))) rfl)) (da_nil))) (da_nil))))))
theorem ok_aims_in (T : Txt P w K mg cl) {a_aims_in : Addr} {fd_aims_in : FuncData} (G_aims_in : Fun K "aims_in" "aims_in" s_aims_in a_aims_in fd_aims_in)
    {a_is_within : Addr} {fd_is_within : FuncData} (c_is_within : Cal K mg "is_within" a_is_within fd_is_within ["thing", "least", "most"]) (F_is_within : FnOk P w K mg base (L2.CX P w) 2 a_is_within fd_is_within ["thing", "least", "most"] (spD K cl (MemS K cl) 3 m_is_within)) : FnOk P w K mg base (L2.CX P w) 3 a_aims_in fd_aims_in ["thing"] (spD K cl (MemS K cl) 1 m_aims_in) := by
  refine FnOk.mono (fn_ok (k := 2) G_aims_in sc_aims_in rfl fun cdv A outer s H E hr => ?_) (by omega)
  exact dss_cons (ds_if seeHide (dt_of_dw (dw_or (dt_not (dt_truth (de_isi (de_var (pv 0)) (by rfl) T.b_isinstance (by rfl) T.b_tuple PyProof.Rows.boot_tuple))) (dw_or (dt_cmp (op_notInK ⟨T.wp, T.ww⟩ (hu65 hr)) v_notInK (by with_unfolding_all rfl) (de_callB (c_len ⟨T.wp, T.ww⟩) v_len (by rfl) T.b_len PySem.boot_len (da_cons (de_var (pv 0)) (da_nil))) (de_tup (da_cons (de_int) (da_cons (de_int) (da_nil))))) (dw_or1 (dt_not (dt_truth (de_isi (de_ix ⟨T.wp, T.ww⟩ (hu65 hr) (de_var (pv 0)) (de_int)) (by rfl) T.b_isinstance (by rfl) T.b_str PyProof.Rows.boot_str))))))) (dss_one (ds_ret seeHide (de_non))) (dss_nil)) (dss_cons (ds_if seeHide (dt_of_dw (dw_and (dt_cmp (op_eqD (hu64 (hu65 hr))) v_eq (by with_unfolding_all rfl) (de_callB (c_len ⟨T.wp, T.ww⟩) v_len (by rfl) T.b_len PySem.boot_len (da_cons (de_var (pv 0)) (da_nil))) (de_int)) (dw_and1 (dt_cmp (op_notInK ⟨T.wp, T.ww⟩ (hu65 hr)) v_notInK (by with_unfolding_all rfl) (de_ix ⟨T.wp, T.ww⟩ (hu65 hr) (de_var (pv 0)) (de_int)) (de_tup (da_cons (de_str) (da_cons (de_str) (da_nil)))))))) (dss_one (ds_ret seeHide (de_non))) (dss_nil)) (dss_cons (ds_if seeHide (dt_of_dw (dw_and (dt_cmp (op_eqD (hu64 (hu65 hr))) v_eq (by with_unfolding_all rfl) (de_callB (c_len ⟨T.wp, T.ww⟩) v_len (by rfl) T.b_len PySem.boot_len (da_cons (de_var (pv 0)) (da_nil))) (de_int)) (dw_and1 (dt_of_dw (dw_or (dt_cmp (op_neD (hu64 (hu65 hr))) v_ne (by with_unfolding_all rfl) (de_ix ⟨T.wp, T.ww⟩ (hu65 hr) (de_var (pv 0)) (de_int)) (de_str)) (dw_or1 (dt_not (dt_truth (de_call F_is_within (hr.mono (by first | decide | omega)) (by rfl) c_is_within.mg c_is_within.kp c_is_within.b takesD (da_cons (de_ix ⟨T.wp, T.ww⟩ (hu65 hr) (de_var (pv 0)) (de_int)) (da_cons (de_int) (da_cons (de_gl T.g_MOST_LEAST (by rfl)) (da_nil)))) rfl))))))))) (dss_one (ds_ret seeHide (de_non))) (dss_nil)) (dss_cons (ds_if seeHide (dt_of_dw (dw_or (dt_not (dt_truth (de_isi (de_ix ⟨T.wp, T.ww⟩ (hu65 hr) (de_var (pv 0)) (de_un un_neg v_neg (de_int))) (by rfl) T.b_isinstance (by rfl) T.b_tuple PyProof.Rows.boot_tuple))) (dw_or1 (dt_cmp op_gt v_gt (by with_unfolding_all rfl) (de_callB (c_len ⟨T.wp, T.ww⟩) v_len (by rfl) T.b_len PySem.boot_len (da_cons (de_ix ⟨T.wp, T.ww⟩ (hu65 hr) (de_var (pv 0)) (de_un un_neg v_neg (de_int))) (da_nil))) (de_gl T.g_MOST_AIMS (by rfl)))))) (dss_one (ds_ret seeHide (de_non))) (dss_nil)) (dss_one (ds_ret seeHide (de_ix ⟨T.wp, T.ww⟩ (hu65 hr) (de_var (pv 0)) (de_un un_neg v_neg (de_int))))))))
theorem ok_parts_of (T : Txt P w K mg cl) {a_parts_of : Addr} {fd_parts_of : FuncData} (G_parts_of : Fun K "parts_of" "parts_of" s_parts_of a_parts_of fd_parts_of) (c_parts_of : Cal K mg "parts_of" a_parts_of fd_parts_of ["thing", "most", "deep"])
    {a_aims_in : Addr} {fd_aims_in : FuncData} (c_aims_in : Cal K mg "aims_in" a_aims_in fd_aims_in ["thing"]) (F_aims_in : FnOk P w K mg base (L2.CX P w) 3 a_aims_in fd_aims_in ["thing"] (spD K cl (MemS K cl) 1 m_aims_in))
    {a_is_within : Addr} {fd_is_within : FuncData} (c_is_within : Cal K mg "is_within" a_is_within fd_is_within ["thing", "least", "most"]) (F_is_within : FnOk P w K mg base (L2.CX P w) 2 a_is_within fd_is_within ["thing", "least", "most"] (spD K cl (MemS K cl) 3 m_is_within)) : ∀ n : Nat, FnOk P w K mg base (L2.CX P w) (3 + n) a_parts_of fd_parts_of ["thing", "most", "deep"] (spD K cl (MemS K cl) 3 (m_parts_of n))
  | 0 => fn_stuck rfl
  | n + 1 => by
    have F_parts_of := ok_parts_of T G_parts_of c_parts_of  c_aims_in F_aims_in c_is_within F_is_within n
    exact fn_ok (k := 3 + n) G_parts_of sc_parts_of rfl fun cdv A outer s H E hr => by
      exact dss_cons (ds_if seeHide (dt_truth (de_call F_is_within (hr.mono (by first | decide | omega)) (by rfl) c_is_within.mg c_is_within.kp c_is_within.b takesD (da_cons (de_var (pv 0)) (da_cons (de_int) (da_cons (de_var (pv 1)) (da_nil)))) rfl)) (dss_one (ds_ret seeHide (de_int))) (dss_nil)) (dss_cons (ds_set (i := 3) sc_parts_of.nd rfl (by first | exact Or.inl rfl | exact Or.inr rfl) (de_call F_aims_in (hr.mono (by first | decide | omega)) (by rfl) c_aims_in.mg c_aims_in.kp c_aims_in.b takesD (da_cons (de_var (pv 0)) (da_nil)) rfl)) (dss_cons (ds_if seeHide (dt_of_dw (dw_or (dt_cmp op_isN v_isN (by with_unfolding_all rfl) (de_var (pv 3)) (de_non)) (dw_or1 (dt_of_dw (dw_and (dt_cmp (op_eqD (hu64 (hu65 hr))) v_eq (by with_unfolding_all rfl) (de_var (pv 2)) (de_int)) (dw_and1 (dt_cmp op_gt v_gt (by with_unfolding_all rfl) (de_callB (c_len ⟨T.wp, T.ww⟩) v_len (by rfl) T.b_len PySem.boot_len (da_cons (de_var (pv 3)) (da_nil))) (de_int)))))))) (dss_one (ds_ret seeHide (de_non))) (dss_nil)) (dss_cons (ds_set (i := 4) sc_parts_of.nd rfl (by first | exact Or.inl rfl | exact Or.inr rfl) (de_int)) (dss_cons (ds_for passesD rfl (di_any (de_var (pv 3))) (dg_name (i := 5) sc_parts_of.nd rfl (by first | exact Or.inl rfl | exact Or.inr rfl)) (dss_cons (ds_set (i := 6) sc_parts_of.nd rfl (by first | exact Or.inl rfl | exact Or.inr rfl) (de_call F_parts_of (hr.mono (by first | decide | omega)) (by rfl) c_parts_of.mg c_parts_of.kp c_parts_of.b takesD (da_cons (de_var (pv 5)) (da_cons (de_var (pv 1)) (da_cons (de_op op_sub v_sub (de_var (pv 2)) (de_int)) (da_nil)))) rfl)) (dss_cons (ds_if seeHide (dt_of_dw (dw_or (dt_cmp op_isN v_isN (by with_unfolding_all rfl) (de_var (pv 6)) (de_non)) (dw_or1 (dt_cmp op_gt v_gt (by with_unfolding_all rfl) (de_op op_addA v_add (de_var (pv 4)) (de_var (pv 6))) (de_gl T.g_MOST_PARTS (by rfl)))))) (dss_one (ds_ret seeHide (de_non))) (dss_nil)) (dss_one (ds_aug (i := 4) seeHide yes kpHide sc_parts_of.nd rfl (by first | exact Or.inl rfl | exact Or.inr rfl) (de_var (pv 6)) ip_add v_ipadd))))) (dss_one (ds_ret seeHide (de_var (pv 4))))))))
theorem ok_is_any_aim (T : Txt P w K mg cl) {a_is_any_aim : Addr} {fd_is_any_aim : FuncData} (G_is_any_aim : Fun K "is_any_aim" "is_any_aim" s_is_any_aim a_is_any_aim fd_is_any_aim)
    {a_parts_of : Addr} {fd_parts_of : FuncData} (c_parts_of : Cal K mg "parts_of" a_parts_of fd_parts_of ["thing", "most", "deep"]) (F_parts_of : FnOk P w K mg base (L2.CX P w) 13 a_parts_of fd_parts_of ["thing", "most", "deep"] (spD K cl (MemS K cl) 3 (m_parts_of 10))) : FnOk P w K mg base (L2.CX P w) 14 a_is_any_aim fd_is_any_aim ["thing", "most"] (spD K cl (MemS K cl) 2 m_is_any_aim) := by
  refine FnOk.mono (fn_ok (k := 13) G_is_any_aim sc_is_any_aim rfl fun cdv A outer s H E hr => ?_) (by omega)
  exact dss_one (ds_ret seeHide (de_cmp op_notN v_isNotN (by with_unfolding_all rfl) (de_call F_parts_of (hr.mono (by first | decide | omega)) (by rfl) c_parts_of.mg c_parts_of.kp c_parts_of.b takesD (da_cons (de_var (pv 0)) (da_cons (de_var (pv 1)) (da_cons (de_gl T.g_MOST_DEEP (by rfl)) (da_nil)))) rfl) (de_non)))
theorem ok_moved (T : Txt P w K mg cl) {a_moved : Addr} {fd_moved : FuncData} (G_moved : Fun K "moved" "moved" s_moved a_moved fd_moved)
    {a_check_number : Addr} {fd_check_number : FuncData} (c_check_number : Cal K mg "check_number" a_check_number fd_check_number ["thing", "least", "most"]) (F_check_number : FnOk P w K mg base (L2.CX P w) 3 a_check_number fd_check_number ["thing", "least", "most"] (spD K cl (MemS K cl) 3 m_check_number))
    {a_is_any_aim : Addr} {fd_is_any_aim : FuncData} (c_is_any_aim : Cal K mg "is_any_aim" a_is_any_aim fd_is_any_aim ["thing", "most"]) (F_is_any_aim : FnOk P w K mg base (L2.CX P w) 14 a_is_any_aim fd_is_any_aim ["thing", "most"] (spD K cl (MemS K cl) 2 m_is_any_aim))
    {a_moved_by : Addr} {fd_moved_by : FuncData} (c_moved_by : Cal K mg "moved_by" a_moved_by fd_moved_by ["aim", "by"]) (F_moved_by : FnOk P w K mg base (L2.CX P w) 10 a_moved_by fd_moved_by ["aim", "by"] (spD K cl (MemS K cl) 2 (m_moved_by 10))) : FnOk P w K mg base (L2.CX P w) 15 a_moved fd_moved ["aim", "by"] (spD K cl (MemS K cl) 2 m_moved) := by
  refine FnOk.mono (fn_ok (k := 14) G_moved sc_moved rfl fun cdv A outer s H E hr => ?_) (by omega)
  exact dss_cons (ds_if seeHide (dt_not (dt_truth (de_call F_is_any_aim (hr.mono (by first | decide | omega)) (by rfl) c_is_any_aim.mg c_is_any_aim.kp c_is_any_aim.b takesD (da_cons (de_var (pv 0)) (da_cons (de_gl T.g_MOST_NUMBER (by rfl)) (da_nil))) rfl))) (dss_one (ds_raise0 T.r_NoAim.choose_spec rfl takesD (by rfl))) (dss_nil)) (dss_cons (ds_expr seeHide (de_call F_check_number (hr.mono (by first | decide | omega)) (by rfl) c_check_number.mg c_check_number.kp c_check_number.b takesD (da_cons (de_var (pv 1)) (da_cons (de_int) (da_cons (de_gl T.g_MOST_MOVED (by rfl)) (da_nil)))) rfl)) (dss_cons (ds_set (i := 2) sc_moved.nd rfl (by first | exact Or.inl rfl | exact Or.inr rfl) (de_call F_moved_by (hr.mono (by first | decide | omega)) (by rfl) c_moved_by.mg c_moved_by.kp c_moved_by.b takesD (da_cons (de_var (pv 0)) (da_cons (de_var (pv 1)) (da_nil))) rfl)) (dss_cons (ds_if seeHide (dt_not (dt_truth (de_call F_is_any_aim (hr.mono (by first | decide | omega)) (by rfl) c_is_any_aim.mg c_is_any_aim.kp c_is_any_aim.b takesD (da_cons (de_var (pv 2)) (da_cons (de_gl T.g_MOST_NUMBER (by rfl)) (da_nil))) rfl))) (dss_one (ds_raise0 T.r_NoNumber.choose_spec rfl takesD (by rfl))) (dss_nil)) (dss_one (ds_ret seeHide (de_var (pv 2)))))))
theorem ok_is_aim (T : Txt P w K mg cl) {a_is_aim : Addr} {fd_is_aim : FuncData} (G_is_aim : Fun K "is_aim" "is_aim" s_is_aim a_is_aim fd_is_aim)
    {a_is_any_aim : Addr} {fd_is_any_aim : FuncData} (c_is_any_aim : Cal K mg "is_any_aim" a_is_any_aim fd_is_any_aim ["thing", "most"]) (F_is_any_aim : FnOk P w K mg base (L2.CX P w) 14 a_is_any_aim fd_is_any_aim ["thing", "most"] (spD K cl (MemS K cl) 2 m_is_any_aim)) : FnOk P w K mg base (L2.CX P w) 15 a_is_aim fd_is_aim ["hall", "thing"] (spD K cl (MemS K cl) 2 m_is_aim) := by
  refine FnOk.mono (fn_ok (k := 14) G_is_aim sc_is_aim rfl fun cdv A outer s H E hr => ?_) (by omega)
  exact dss_one (ds_ret seeHide (de_call F_is_any_aim (hr.mono (by first | decide | omega)) (by rfl) c_is_any_aim.mg c_is_any_aim.kp c_is_any_aim.b takesD (da_cons (de_var (pv 1)) (da_cons (de_op op_sub v_sub (de_callB (c_len ⟨T.wp, T.ww⟩) v_len (by rfl) T.b_len PySem.boot_len (da_cons (de_fldo (fam_2 T.f_Hall_boards T.f_RawHall_boards) (de_var (pv 0))) (da_nil))) (de_int)) (da_nil))) rfl))
theorem ok_check_aim (T : Txt P w K mg cl) {a_check_aim : Addr} {fd_check_aim : FuncData} (G_check_aim : Fun K "check_aim" "check_aim" s_check_aim a_check_aim fd_check_aim)
    {a_is_aim : Addr} {fd_is_aim : FuncData} (c_is_aim : Cal K mg "is_aim" a_is_aim fd_is_aim ["hall", "thing"]) (F_is_aim : FnOk P w K mg base (L2.CX P w) 15 a_is_aim fd_is_aim ["hall", "thing"] (spD K cl (MemS K cl) 2 m_is_aim)) : FnOk P w K mg base (L2.CX P w) 16 a_check_aim fd_check_aim ["hall", "thing"] (spD K cl (MemS K cl) 2 m_check_aim) := by
  refine FnOk.mono (fn_ok (k := 15) G_check_aim sc_check_aim rfl fun cdv A outer s H E hr => ?_) (by omega)
  exact dss_one (ds_if seeHide (dt_not (dt_truth (de_call F_is_aim (hr.mono (by first | decide | omega)) (by rfl) c_is_aim.mg c_is_aim.kp c_is_aim.b takesD (da_cons (de_var (pv 0)) (da_cons (de_var (pv 1)) (da_nil))) rfl))) (dss_one (ds_raise0 T.r_NoAim.choose_spec rfl takesD (by rfl))) (dss_nil))
theorem ok_holds (T : Txt P w K mg cl) {a_holds : Addr} {fd_holds : FuncData} (G_holds : Fun K "holds" "holds" s_holds a_holds fd_holds) (c_holds : Cal K mg "holds" a_holds fd_holds ["aim", "mask"])
     : ∀ n : Nat, FnOk P w K mg base (L2.CX P w) (0 + n) a_holds fd_holds ["aim", "mask"] (spD K cl (MemS K cl) 2 (m_holds n))
  | 0 => fn_stuck rfl
  | n + 1 => by
    have F_holds := ok_holds T G_holds c_holds   n
    exact fn_ok (k := 0 + n) G_holds sc_holds rfl fun cdv A outer s H E hr => by
      exact dss_cons (ds_if seeHide (dt_not (dt_truth (de_isi (de_var (pv 0)) (by rfl) T.b_isinstance (by rfl) T.b_tuple PyProof.Rows.boot_tuple))) (dss_one (ds_ret seeHide (de_cmp (op_eqD (hu64 (hu65 hr))) v_eq (by with_unfolding_all rfl) (de_op op_and v_and (de_op op_shr v_shr (de_var (pv 1)) (de_var (pv 0))) (de_int)) (de_int)))) (dss_nil)) (dss_cons (ds_setLc (i := 2) (own := [("one", 3)]) rfl sc_holds.nd rfl rfl (sw_true rfl rfl rfl (by decide +kernel)) (di_any (de_ix ⟨T.wp, T.ww⟩ (hu65 hr) (de_var (pv 0)) (de_un un_neg v_neg (de_int)))) (blkOk_by (own := [("one", 3)]) (N := N_holds) (sc := defScope s_holds) (by decide +kernel)) (fun _ _ _ _ _ => dg_name (i := 3) sc_holds.nd rfl (by first | exact Or.inl rfl | exact Or.inr rfl)) (in_name (by decide)) (fun _ _ _ _ _ => dts_nil) (fun _ _ _ _ _ => de_call F_holds (hr.mono (by first | decide | omega)) (by rfl) c_holds.mg c_holds.kp c_holds.b takes0 (da_cons (de_var (pv 3)) (da_cons (de_var (pv 1)) (da_nil))) rfl)) (dss_cons (ds_if seeHide (dt_cmp (op_eqD (hu64 (hu65 hr))) v_eq (by with_unfolding_all rfl) (de_ix ⟨T.wp, T.ww⟩ (hu65 hr) (de_var (pv 0)) (de_int)) (de_str)) (dss_one (ds_ret seeHide (de_callB (cr_all rfl) v_all (by rfl) T.b_all boot_all (da_cons (de_var (pv 2)) (da_nil))))) (dss_nil)) (dss_cons (ds_if seeHide (dt_cmp (op_eqD (hu64 (hu65 hr))) v_eq (by with_unfolding_all rfl) (de_ix ⟨T.wp, T.ww⟩ (hu65 hr) (de_var (pv 0)) (de_int)) (de_str)) (dss_one (ds_ret seeHide (de_callB (cr_any rfl) v_any (by rfl) T.b_any boot_any (da_cons (de_var (pv 2)) (da_nil))))) (dss_nil)) (dss_one (ds_ret seeHide (de_cmp op_ge v_ge (by with_unfolding_all rfl) (de_count (de_var (pv 2)) (de_bl)) (de_ix ⟨T.wp, T.ww⟩ (hu65 hr) (de_var (pv 0)) (de_int))))))))
theorem ok_is_ascending (T : Txt P w K mg cl) {a_is_ascending : Addr} {fd_is_ascending : FuncData} (G_is_ascending : Fun K "is_ascending" "is_ascending" s_is_ascending a_is_ascending fd_is_ascending)
     : FnOk P w K mg base (L2.CX P w) 1 a_is_ascending fd_is_ascending ["items"] (spD K cl (MemS K cl) 1 m_is_ascending) := by
  refine FnOk.mono (fn_ok (k := 0) G_is_ascending sc_is_ascending rfl fun cdv A outer s H E hr => ?_) (by omega)
  exact dss_one (ds_ret seeHide (de_callB (cr_all rfl) v_all (by rfl) T.b_all boot_all (da_cons (de_comp (own := [("one", 1), ("other", 2)]) rfl sc_is_ascending.nd (di_zip (by rfl) T.b_zip (de_var (pv 0)) (de_slice (de_var (pv 0)) (do_some (de_int)) (do_none))) (blkOk_by (own := [("one", 1), ("other", 2)]) (N := N_is_ascending) (sc := defScope s_is_ascending) (by decide +kernel)) (fun _ _ _ _ _ => dg_tup rfl (dgs_cons (dg_name (i := 1) sc_is_ascending.nd rfl (by first | exact Or.inl rfl | exact Or.inr rfl)) (dgs_cons (dg_name (i := 2) sc_is_ascending.nd rfl (by first | exact Or.inl rfl | exact Or.inr rfl)) (dgs_nil))) (aCons_len (aCons_len aNil_len))) (in_tup (in_cons (in_name (by decide)) (in_cons (in_name (by decide)) (in_nil)))) (fun _ _ _ _ _ => dts_nil) (fun _ _ _ _ _ => de_cmp (op_ltD (hu64 (hu65 hr))) v_ltD (by with_unfolding_all rfl) (de_var (pv 1)) (de_var (pv 2)))) (da_nil))))
theorem ok_is_lot (T : Txt P w K mg cl) {a_is_lot : Addr} {fd_is_lot : FuncData} (G_is_lot : Fun K "is_lot" "is_lot" s_is_lot a_is_lot fd_is_lot)
    {a_is_ascending : Addr} {fd_is_ascending : FuncData} (c_is_ascending : Cal K mg "is_ascending" a_is_ascending fd_is_ascending ["items"]) (F_is_ascending : FnOk P w K mg base (L2.CX P w) 1 a_is_ascending fd_is_ascending ["items"] (spD K cl (MemS K cl) 1 m_is_ascending))
    {a_is_within : Addr} {fd_is_within : FuncData} (c_is_within : Cal K mg "is_within" a_is_within fd_is_within ["thing", "least", "most"]) (F_is_within : FnOk P w K mg base (L2.CX P w) 2 a_is_within fd_is_within ["thing", "least", "most"] (spD K cl (MemS K cl) 3 m_is_within)) : FnOk P w K mg base (L2.CX P w) 3 a_is_lot fd_is_lot ["thing", "many"] (spD K cl (MemS K cl) 2 m_is_lot) := by
  refine FnOk.mono (fn_ok (k := 2) G_is_lot sc_is_lot rfl fun cdv A outer s H E hr => ?_) (by omega)
  exact dss_cons (ds_if seeHide (dt_of_dw (dw_or (dt_not (dt_truth (de_isi (de_var (pv 0)) (by rfl) T.b_isinstance (by rfl) T.b_tuple PyProof.Rows.boot_tuple))) (dw_or1 (dt_not (dt_truth (de_callB (cr_all rfl) v_all (by rfl) T.b_all boot_all (da_cons (de_comp (own := [("item", 2)]) rfl sc_is_lot.nd (di_any (de_var (pv 0))) (blkOk_by (own := [("item", 2)]) (N := N_is_lot) (sc := defScope s_is_lot) (by decide +kernel)) (fun _ _ _ _ _ => dg_name (i := 2) sc_is_lot.nd rfl (by first | exact Or.inl rfl | exact Or.inr rfl)) (in_name (by decide)) (fun _ _ _ _ _ => dts_nil) (fun _ _ _ _ _ => de_call F_is_within (hr.mono (by first | decide | omega)) (by rfl) c_is_within.mg c_is_within.kp c_is_within.b takes0 (da_cons (de_var (pv 2)) (da_cons (de_int) (da_cons (de_op op_sub v_sub (de_var (pv 1)) (de_int)) (da_nil)))) rfl)) (da_nil)))))))) (dss_one (ds_ret seeHide (de_bl))) (dss_nil)) (dss_one (ds_ret seeHide (de_call F_is_ascending (hr.mono (by first | decide | omega)) (by rfl) c_is_ascending.mg c_is_ascending.kp c_is_ascending.b takesD (da_cons (de_var (pv 0)) (da_nil)) rfl)))
theorem ok_mask_of (T : Txt P w K mg cl) {a_mask_of : Addr} {fd_mask_of : FuncData} (G_mask_of : Fun K "mask_of" "mask_of" s_mask_of a_mask_of fd_mask_of)
     : FnOk P w K mg base (L2.CX P w) 1 a_mask_of fd_mask_of ["lot"] (spD K cl (MemS K cl) 1 m_mask_of) := by
  refine FnOk.mono (fn_ok (k := 0) G_mask_of sc_mask_of rfl fun cdv A outer s H E hr => ?_) (by omega)
  exact dss_cons (ds_set (i := 1) sc_mask_of.nd rfl (by first | exact Or.inl rfl | exact Or.inr rfl) (de_int)) (dss_cons (ds_for passesD rfl (di_any (de_var (pv 0))) (dg_name (i := 2) sc_mask_of.nd rfl (by first | exact Or.inl rfl | exact Or.inr rfl)) (dss_one (ds_set (i := 1) sc_mask_of.nd rfl (by first | exact Or.inl rfl | exact Or.inr rfl) (de_op op_or v_or (de_var (pv 1)) (de_op op_shl v_shl (de_int) (de_var (pv 2))))))) (dss_one (ds_ret seeHide (de_var (pv 1)))))
theorem ok_reached (T : Txt P w K mg cl) {a_reached : Addr} {fd_reached : FuncData} (G_reached : Fun K "reached" "reached" s_reached a_reached fd_reached)
    {a_check_aim : Addr} {fd_check_aim : FuncData} (c_check_aim : Cal K mg "check_aim" a_check_aim fd_check_aim ["hall", "thing"]) (F_check_aim : FnOk P w K mg base (L2.CX P w) 16 a_check_aim fd_check_aim ["hall", "thing"] (spD K cl (MemS K cl) 2 m_check_aim))
    {a_holds : Addr} {fd_holds : FuncData} (c_holds : Cal K mg "holds" a_holds fd_holds ["aim", "mask"]) (F_holds : FnOk P w K mg base (L2.CX P w) 10 a_holds fd_holds ["aim", "mask"] (spD K cl (MemS K cl) 2 (m_holds 10)))
    {a_is_lot : Addr} {fd_is_lot : FuncData} (c_is_lot : Cal K mg "is_lot" a_is_lot fd_is_lot ["thing", "many"]) (F_is_lot : FnOk P w K mg base (L2.CX P w) 3 a_is_lot fd_is_lot ["thing", "many"] (spD K cl (MemS K cl) 2 m_is_lot))
    {a_mask_of : Addr} {fd_mask_of : FuncData} (c_mask_of : Cal K mg "mask_of" a_mask_of fd_mask_of ["lot"]) (F_mask_of : FnOk P w K mg base (L2.CX P w) 1 a_mask_of fd_mask_of ["lot"] (spD K cl (MemS K cl) 1 m_mask_of)) : FnOk P w K mg base (L2.CX P w) 17 a_reached fd_reached ["hall", "aim", "won"] (spD K cl (MemS K cl) 3 m_reached) := by
  refine FnOk.mono (fn_ok (k := 16) G_reached sc_reached rfl fun cdv A outer s H E hr => ?_) (by omega)
  exact dss_cons (ds_expr seeHide (de_call F_check_aim (hr.mono (by first | decide | omega)) (by rfl) c_check_aim.mg c_check_aim.kp c_check_aim.b takesD (da_cons (de_var (pv 0)) (da_cons (de_var (pv 1)) (da_nil))) rfl)) (dss_cons (ds_if seeHide (dt_not (dt_truth (de_call F_is_lot (hr.mono (by first | decide | omega)) (by rfl) c_is_lot.mg c_is_lot.kp c_is_lot.b takesD (da_cons (de_var (pv 2)) (da_cons (de_callB (c_len ⟨T.wp, T.ww⟩) v_len (by rfl) T.b_len PySem.boot_len (da_cons (de_fldo (fam_2 T.f_Hall_boards T.f_RawHall_boards) (de_var (pv 0))) (da_nil))) (da_nil))) rfl))) (dss_one (ds_raise0 T.r_NoLot.choose_spec rfl takesD (by rfl))) (dss_nil)) (dss_one (ds_ret seeHide (de_call F_holds (hr.mono (by first | decide | omega)) (by rfl) c_holds.mg c_holds.kp c_holds.b takesD (da_cons (de_var (pv 1)) (da_cons (de_call F_mask_of (hr.mono (by first | decide | omega)) (by rfl) c_mask_of.mg c_mask_of.kp c_mask_of.b takesD (da_cons (de_var (pv 2)) (da_nil)) rfl) (da_nil))) rfl))))
theorem ok__law_word (T : Txt P w K mg cl) {a__law_word : Addr} {fd__law_word : FuncData} (G__law_word : Fun K "_law_word" "_law_word" s__law_word a__law_word fd__law_word)
    {a_moved : Addr} {fd_moved : FuncData} (c_moved : Cal K mg "moved" a_moved fd_moved ["aim", "by"]) (F_moved : FnOk P w K mg base (L2.CX P w) 15 a_moved fd_moved ["aim", "by"] (spD K cl (MemS K cl) 2 m_moved))
    {a_reached : Addr} {fd_reached : FuncData} (c_reached : Cal K mg "reached" a_reached fd_reached ["hall", "aim", "won"]) (F_reached : FnOk P w K mg base (L2.CX P w) 17 a_reached fd_reached ["hall", "aim", "won"] (spD K cl (MemS K cl) 3 m_reached)) : FnOk P w K mg base (L2.CX P w) 18 a__law_word fd__law_word ["_law_which", "_law_hall", "_law_thing"] (spD K cl (MemS K cl) 3 m__law_word_v3) := by
  refine FnOk.mono (fn_ok (k := 17) G__law_word sc__law_word rfl fun cdv A outer s H E hr => ?_) (by omega)
  exact dss_cons (ds_set (i := 3) sc__law_word.nd rfl (by first | exact Or.inl rfl | exact Or.inr rfl) (de_str)) (dss_cons (ds_try rfl rfl takesD (fun W pn xe tk ps => dxs_one (dx_if (dt_cmp (op_eqD (hu64 (hu65 hr))) v_eq (by with_unfolding_all rfl) (de_var (pv 0)) (de_int)) (dxs_one (dx_expr (de_call F_moved (hr.mono (by first | decide | omega)) (by rfl) c_moved.mg c_moved.kp c_moved.b tk (da_cons (de_var (pv 2)) (da_cons (de_int) (da_nil))) rfl))) (dxs_one (dx_expr (de_call F_reached (hr.mono (by first | decide | omega)) (by rfl) c_reached.mg c_reached.kp c_reached.b tk (da_cons (de_var (pv 1)) (da_cons (de_var (pv 2)) (da_cons (de_tup (da_nil)) (da_nil)))) rfl))))) (HOkD.cons (by rfl) T.h_NoAim.choose_spec.1 T.h_NoAim.choose_spec.2 (fun a pn => dss_one (ds_set (i := 3) sc__law_word.nd rfl (by first | exact Or.inl rfl | exact Or.inr rfl) (de_str))) HOkD.nil)) (dss_one (ds_ret seeHide (de_var (pv 3)))))
theorem law_body (T : Txt P w K mg cl) {a_law : Addr} {cdv : Value} {A : Around} {outer : List PySem.Env} {s : Shared} {H : Hp} {E : XK} (hr : Room 18 (A.deeper (envOfC "law" (defScope s_law) s.heap.objs.size a_law cdv))) (hg : A.guards = some [])
    {a_Hall_init : Addr} {fd_Hall_init : FuncData} (c_Hall_init : CalM K fd_Hall_init ["self", "boards"]) (F_Hall_init : FnOk P w K mg base (L2.CX P w) 5 a_Hall_init fd_Hall_init ["self", "boards"] (spD K cl (MemS K cl) 2 m_Hall_init))
    {C_Hall : Addr} (M_Hall : MakeAt K cl "Hall" C_Hall a_Hall_init 2) (I_Hall : InitIs "Hall" (m_Hall_init (K := K) (cl := cl)) i_Hall) (c_Hall : CalC K mg "Hall" C_Hall fd_Hall_init ["self", "boards"])
    {a__law_aim : Addr} {fd__law_aim : FuncData} (c__law_aim : Cal K mg "_law_aim" a__law_aim fd__law_aim ["_law_tape_here", "_law_many", "_law_deep"]) (F__law_aim : FnOk P w K mg base (L2.CX P w) 9 a__law_aim fd__law_aim ["_law_tape_here", "_law_many", "_law_deep"] (spD K cl (MemS K cl) 3 (m__law_aim 8)))
    {a__law_bent : Addr} {fd__law_bent : FuncData} (c__law_bent : Cal K mg "_law_bent" a__law_bent fd__law_bent ["_law_tape_here", "_law_aim_here", "_law_many"]) (F__law_bent : FnOk P w K mg base (L2.CX P w) 14 a__law_bent fd__law_bent ["_law_tape_here", "_law_aim_here", "_law_many"] (spD K cl (MemS K cl) 3 (m__law_bent_v4 12)))
    {a__law_flag : Addr} {fd__law_flag : FuncData} (c__law_flag : Cal K mg "_law_flag" a__law_flag fd__law_flag ["_law_told", "_law_due"]) (F__law_flag : FnOk P w K mg base (L2.CX P w) 1 a__law_flag fd__law_flag ["_law_told", "_law_due"] (spD K cl (MemS K cl) 2 m__law_flag))
    {a__law_is_aim : Addr} {fd__law_is_aim : FuncData} (c__law_is_aim : Cal K mg "_law_is_aim" a__law_is_aim fd__law_is_aim ["_law_thing", "_law_most"]) (F__law_is_aim : FnOk P w K mg base (L2.CX P w) 16 a__law_is_aim fd__law_is_aim ["_law_thing", "_law_most"] (spD K cl (MemS K cl) 2 m__law_is_aim))
    {a__law_pick : Addr} {fd__law_pick : FuncData} (c__law_pick : Cal K mg "_law_pick" a__law_pick fd__law_pick ["_law_tape_here", "_law_size"]) (F__law_pick : FnOk P w K mg base (L2.CX P w) 1 a__law_pick fd__law_pick ["_law_tape_here", "_law_size"] (spD K cl (MemS K cl) 2 m__law_pick))
    {a__law_some : Addr} {fd__law_some : FuncData} (c__law_some : Cal K mg "_law_some" a__law_some fd__law_some ["_law_tape_here", "_law_things"]) (F__law_some : FnOk P w K mg base (L2.CX P w) 2 a__law_some fd__law_some ["_law_tape_here", "_law_things"] (spD K cl (MemS K cl) 2 m__law_some))
    {a__law_word : Addr} {fd__law_word : FuncData} (c__law_word : Cal K mg "_law_word" a__law_word fd__law_word ["_law_which", "_law_hall", "_law_thing"]) (F__law_word : FnOk P w K mg base (L2.CX P w) 18 a__law_word fd__law_word ["_law_which", "_law_hall", "_law_thing"] (spD K cl (MemS K cl) 3 m__law_word_v3))
    {a_is_aim : Addr} {fd_is_aim : FuncData} (c_is_aim : Cal K mg "is_aim" a_is_aim fd_is_aim ["hall", "thing"]) (F_is_aim : FnOk P w K mg base (L2.CX P w) 15 a_is_aim fd_is_aim ["hall", "thing"] (spD K cl (MemS K cl) 2 m_is_aim)) :
    DSs cl (MemS K cl) (WD E) (CXD P w K mg base N_law "law" s_law a_law cdv A outer s H E) ((defBody s_law).drop 1) b_L15_law := dss_cons (ds_set (i := 2) sc_law.nd rfl (by first | exact Or.inl rfl | exact Or.inr rfl) (de_op op_addA v_add (de_int) (de_call F__law_pick (hr.mono (by first | decide | omega)) (by rfl) c__law_pick.mg c__law_pick.kp c__law_pick.b takesD (da_cons (de_var (pv 1)) (da_cons (de_int) (da_nil))) rfl))) (dss_cons (ds_set (i := 3) sc_law.nd rfl (by first | exact Or.inl rfl | exact Or.inr rfl) (de_make M_Hall F_Hall_init I_Hall (hr.mono (by first | decide | omega)) (by rfl) c_Hall.mg c_Hall.b takesD (da_cons (de_op op_mulA v_mul (de_tup (da_cons (de_tup (da_cons (de_str) (da_cons (de_int) (da_cons (de_tup (da_nil)) (da_nil))))) (da_nil))) (de_var (pv 2))) (da_nil)) rfl)) (dss_cons (ds_for passesD rfl (di_range1 (by rfl) T.b_range (de_int)) (dg_name (i := 4) sc_law.nd rfl (by first | exact Or.inl rfl | exact Or.inr rfl)) (dss_cons (ds_set (i := 5) sc_law.nd rfl (by first | exact Or.inl rfl | exact Or.inr rfl) (de_call F__law_aim (hr.mono (by first | decide | omega)) (by rfl) c__law_aim.mg c__law_aim.kp c__law_aim.b takesD (da_cons (de_var (pv 1)) (da_cons (de_var (pv 2)) (da_cons (de_op op_addA v_add (de_int) (de_call F__law_pick (hr.mono (by first | decide | omega)) (by rfl) c__law_pick.mg c__law_pick.kp c__law_pick.b takesD (da_cons (de_var (pv 1)) (da_cons (de_int) (da_nil))) rfl)) (da_nil)))) rfl)) (dss_cons (ds_if seeHide (dt_cmp op_gt v_gt (by with_unfolding_all rfl) (de_var (pv 4)) (de_int)) (dss_one (ds_set (i := 5) sc_law.nd rfl (by first | exact Or.inl rfl | exact Or.inr rfl) (de_call F__law_bent (hr.mono (by first | decide | omega)) (by rfl) c__law_bent.mg c__law_bent.kp c__law_bent.b takesD (da_cons (de_var (pv 1)) (da_cons (de_var (pv 5)) (da_cons (de_var (pv 2)) (da_nil)))) rfl))) (dss_nil)) (dss_cons (ds_if seeHide (dt_cmp (op_eqD (hu64 (hu65 hr))) v_eq (by with_unfolding_all rfl) (de_var (pv 4)) (de_int)) (dss_cons (ds_set (i := 5) sc_law.nd rfl (by first | exact Or.inl rfl | exact Or.inr rfl) (de_call F__law_some (hr.mono (by first | decide | omega)) (by rfl) c__law_some.mg c__law_some.kp c__law_some.b takesD (da_cons (de_var (pv 1)) (da_cons (de_lst (da_cons (de_int) (da_cons (de_tup (da_cons (de_str) (da_cons (de_tup (da_nil)) (da_nil)))) (da_cons (de_tup (da_cons (de_str) (da_cons (de_tup (da_cons (de_int) (da_cons (de_int) (da_nil)))) (da_nil)))) (da_nil))))) (da_nil))) rfl)) (dss_one (ds_for passesD rfl (di_range1 (by rfl) T.b_range (de_op op_addA v_add (de_int) (de_call F__law_pick (hr.mono (by first | decide | omega)) (by rfl) c__law_pick.mg c__law_pick.kp c__law_pick.b takesD (da_cons (de_var (pv 1)) (da_cons (de_int) (da_nil))) rfl))) (dg_name (i := 7) sc_law.nd rfl (by first | exact Or.inl rfl | exact Or.inr rfl)) (dss_one (ds_set (i := 5) sc_law.nd rfl (by first | exact Or.inl rfl | exact Or.inr rfl) (de_tup (da_cons (de_str) (da_cons (de_tup (da_cons (de_var (pv 5)) (da_nil))) (da_nil))))))))) (dss_nil)) (dss_cons (ds_if seeHide (dt_cmp (op_eqD (hu64 (hu65 hr))) v_eq (by with_unfolding_all rfl) (de_var (pv 4)) (de_int)) (dss_cons (ds_set (i := 8) sc_law.nd rfl (by first | exact Or.inl rfl | exact Or.inr rfl) (de_tup (da_cons (de_str) (da_cons (de_op op_mulA v_mul (de_tup (da_cons (de_int) (da_nil))) (de_int)) (da_nil))))) (dss_one (ds_set (i := 5) sc_law.nd rfl (by first | exact Or.inl rfl | exact Or.inr rfl) (de_tup (da_cons (de_str) (da_cons (de_op op_addA v_add (de_op op_mulA v_mul (de_tup (da_cons (de_var (pv 8)) (da_nil))) (de_int)) (de_tup (da_cons (de_tup (da_cons (de_str) (da_cons (de_op op_mulA v_mul (de_tup (da_cons (de_int) (da_nil))) (de_op op_addA v_add (de_int) (de_call F__law_pick (hr.mono (by first | decide | omega)) (by rfl) c__law_pick.mg c__law_pick.kp c__law_pick.b takesD (da_cons (de_var (pv 1)) (da_cons (de_int) (da_nil))) rfl))) (da_nil)))) (da_nil)))) (da_nil))))))) (dss_nil)) (dss_cons (ds_set (i := 6) sc_law.nd rfl (by first | exact Or.inl rfl | exact Or.inr rfl) (de_callB (call_repr hg (hu65 hr)) v_repr (by rfl) T.b_repr PyProof.Rows.boot_repr (da_cons (de_var (pv 5)) (da_nil)))) (dss_cons (ds_if seeHide (dt_of_dw (dw_or (dt_not (dt_truth (de_call F__law_flag (hr.mono (by first | decide | omega)) (by rfl) c__law_flag.mg c__law_flag.kp c__law_flag.b takesD (da_cons (de_call F_is_aim (hr.mono (by first | decide | omega)) (by rfl) c_is_aim.mg c_is_aim.kp c_is_aim.b takesD (da_cons (de_var (pv 3)) (da_cons (de_var (pv 5)) (da_nil))) rfl) (da_cons (de_call F__law_is_aim (hr.mono (by first | decide | omega)) (by rfl) c__law_is_aim.mg c__law_is_aim.kp c__law_is_aim.b takesD (da_cons (de_var (pv 5)) (da_cons (de_op op_sub v_sub (de_var (pv 2)) (de_int)) (da_nil))) rfl) (da_nil))) rfl))) (dw_or1 (dt_cmp (op_neD (hu64 (hu65 hr))) v_ne (by with_unfolding_all rfl) (de_callB (call_repr hg (hu65 hr)) v_repr (by rfl) T.b_repr PyProof.Rows.boot_repr (da_cons (de_var (pv 5)) (da_nil))) (de_var (pv 6)))))) (dss_one (ds_ret seeHide (de_bl))) (dss_nil)) (dss_cons (ds_if seeHide (dt_cmp (op_neD (hu64 (hu65 hr))) v_ne (by with_unfolding_all rfl) (de_cmp (op_eqD (hu64 (hu65 hr))) v_eq (by with_unfolding_all rfl) (de_call F__law_word (hr.mono (by first | decide | omega)) (by rfl) c__law_word.mg c__law_word.kp c__law_word.b takesD (da_cons (de_int) (da_cons (de_var (pv 3)) (da_cons (de_var (pv 5)) (da_nil)))) rfl) (de_str)) (de_call F__law_is_aim (hr.mono (by first | decide | omega)) (by rfl) c__law_is_aim.mg c__law_is_aim.kp c__law_is_aim.b takesD (da_cons (de_var (pv 5)) (da_cons (de_op op_sub v_sub (de_var (pv 2)) (de_int)) (da_nil))) rfl)) (dss_one (ds_ret seeHide (de_bl))) (dss_nil)) (dss_one (ds_if seeHide (dt_cmp (op_neD (hu64 (hu65 hr))) v_ne (by with_unfolding_all rfl) (de_cmp (op_eqD (hu64 (hu65 hr))) v_eq (by with_unfolding_all rfl) (de_call F__law_word (hr.mono (by first | decide | omega)) (by rfl) c__law_word.mg c__law_word.kp c__law_word.b takesD (da_cons (de_int) (da_cons (de_var (pv 3)) (da_cons (de_var (pv 5)) (da_nil)))) rfl) (de_str)) (de_call F__law_is_aim (hr.mono (by first | decide | omega)) (by rfl) c__law_is_aim.mg c__law_is_aim.kp c__law_is_aim.b takesD (da_cons (de_var (pv 5)) (da_cons (de_op op_pow v_pow (de_int) (de_int)) (da_nil))) rfl)) (dss_one (ds_ret seeHide (de_bl))) (dss_nil))))))))))) (dss_one (ds_ret seeHide (de_bl)))))
end
end LW
namespace LW
open PySem PySem.Spec PyProof.Rows L2 RZ DN
section
variable {P : Program} {w : World} {K : PySem.W.Frag} {mg : Str → Option Value} {base : Heap} {cl : CTab}
theorem ok__law_tape (hl : mg "list" = none) {a_tape : Addr} {fd_tape : FuncData} (G : Fun K "_law_tape" "_law_tape" s__law_tape a_tape fd_tape) : FnOk P w K mg base (L2.CX P w) 1 a_tape fd_tape ["_law_script"] (spTape K) := by
  refine G.okX sc__law_tape (fun vs H Q E h => spTape_len vs H Q E h) fun cdv A outer s H vs Q E hr h => ?_
  refine ⟨_, pss_one (ps_ret (pe_lst (pa_cons (pe_callTy call_list_of (by rfl) hl PyProof.Rows.boot_list (pa_cons (pv 0) pa_nil)) (pa_cons pe_int (pa_cons pe_int (pa_cons pe_int (pa_cons pe_int pa_nil))))))), ?_⟩
  obtain ⟨a, ns, rfl, hS, hl2, q⟩ := h
  refine ⟨_, rfl, a, ns.map V.int, rfl, .inl hS, fun sc hsc => ?_⟩
  refine ⟨by show 5 ≤ sizeLine; decide, fun t ht => ?_⟩
  have hne : sc ≠ t := fun z => by rw [z, upd_same] at ht; cases ht
  exact q sc t hne
theorem ok_law (T : Txt P w K mg cl) {a_tape : Addr} {fd_tape : FuncData} (c_tape : Cal K mg "_law_tape" a_tape fd_tape ["_law_script"]) (F_tape : FnOk P w K mg base (L2.CX P w) 1 a_tape fd_tape ["_law_script"] (spTape K))
    {a_law : Addr} {fd_law : FuncData} (G_law : Fun K "law" "law" s_law a_law fd_law)
    {a_Hall_init : Addr} {fd_Hall_init : FuncData} (c_Hall_init : CalM K fd_Hall_init ["self", "boards"]) (F_Hall_init : FnOk P w K mg base (L2.CX P w) 5 a_Hall_init fd_Hall_init ["self", "boards"] (spD K cl (MemS K cl) 2 m_Hall_init))
    {C_Hall : Addr} (M_Hall : MakeAt K cl "Hall" C_Hall a_Hall_init 2) (I_Hall : InitIs "Hall" (m_Hall_init (K := K) (cl := cl)) i_Hall) (c_Hall : CalC K mg "Hall" C_Hall fd_Hall_init ["self", "boards"])
    {a__law_aim : Addr} {fd__law_aim : FuncData} (c__law_aim : Cal K mg "_law_aim" a__law_aim fd__law_aim ["_law_tape_here", "_law_many", "_law_deep"]) (F__law_aim : FnOk P w K mg base (L2.CX P w) 9 a__law_aim fd__law_aim ["_law_tape_here", "_law_many", "_law_deep"] (spD K cl (MemS K cl) 3 (m__law_aim 8)))
    {a__law_bent : Addr} {fd__law_bent : FuncData} (c__law_bent : Cal K mg "_law_bent" a__law_bent fd__law_bent ["_law_tape_here", "_law_aim_here", "_law_many"]) (F__law_bent : FnOk P w K mg base (L2.CX P w) 14 a__law_bent fd__law_bent ["_law_tape_here", "_law_aim_here", "_law_many"] (spD K cl (MemS K cl) 3 (m__law_bent_v4 12)))
    {a__law_flag : Addr} {fd__law_flag : FuncData} (c__law_flag : Cal K mg "_law_flag" a__law_flag fd__law_flag ["_law_told", "_law_due"]) (F__law_flag : FnOk P w K mg base (L2.CX P w) 1 a__law_flag fd__law_flag ["_law_told", "_law_due"] (spD K cl (MemS K cl) 2 m__law_flag))
    {a__law_is_aim : Addr} {fd__law_is_aim : FuncData} (c__law_is_aim : Cal K mg "_law_is_aim" a__law_is_aim fd__law_is_aim ["_law_thing", "_law_most"]) (F__law_is_aim : FnOk P w K mg base (L2.CX P w) 16 a__law_is_aim fd__law_is_aim ["_law_thing", "_law_most"] (spD K cl (MemS K cl) 2 m__law_is_aim))
    {a__law_pick : Addr} {fd__law_pick : FuncData} (c__law_pick : Cal K mg "_law_pick" a__law_pick fd__law_pick ["_law_tape_here", "_law_size"]) (F__law_pick : FnOk P w K mg base (L2.CX P w) 1 a__law_pick fd__law_pick ["_law_tape_here", "_law_size"] (spD K cl (MemS K cl) 2 m__law_pick))
    {a__law_some : Addr} {fd__law_some : FuncData} (c__law_some : Cal K mg "_law_some" a__law_some fd__law_some ["_law_tape_here", "_law_things"]) (F__law_some : FnOk P w K mg base (L2.CX P w) 2 a__law_some fd__law_some ["_law_tape_here", "_law_things"] (spD K cl (MemS K cl) 2 m__law_some))
    {a__law_word : Addr} {fd__law_word : FuncData} (c__law_word : Cal K mg "_law_word" a__law_word fd__law_word ["_law_which", "_law_hall", "_law_thing"]) (F__law_word : FnOk P w K mg base (L2.CX P w) 18 a__law_word fd__law_word ["_law_which", "_law_hall", "_law_thing"] (spD K cl (MemS K cl) 3 m__law_word_v3))
    {a_is_aim : Addr} {fd_is_aim : FuncData} (c_is_aim : Cal K mg "is_aim" a_is_aim fd_is_aim ["hall", "thing"]) (F_is_aim : FnOk P w K mg base (L2.CX P w) 15 a_is_aim fd_is_aim ["hall", "thing"] (spD K cl (MemS K cl) 2 m_is_aim)) : TopOk P w K mg base (L2.CX P w) 19 a_law fd_law ["_law_script"] (spLaw K) := by
  refine G_law.okT sc_law (fun vs H Q E h => spLaw_len vs H Q E h) fun cdv A s H vs Q E hg hr h => ?_
  refine ⟨_, pss_cons (ps_set (i := 1) sc_law.nd rfl (by first | exact Or.inl rfl | exact Or.inr rfl) (pe_callS (E := fun _ => E) F_tape (hr.mono (by decide)) (by rfl) c_tape.mg c_tape.kp c_tape.b (fun σ => passAt takesD σ) (pa_cons (pv 0) pa_nil))) (law_body T (hr.mono (by decide)) hg c_Hall_init F_Hall_init M_Hall I_Hall c_Hall c__law_aim F__law_aim c__law_bent F__law_bent c__law_flag F__law_flag c__law_is_aim F__law_is_aim c__law_pick F__law_pick c__law_some F__law_some c__law_word F__law_word c_is_aim F_is_aim), ?_⟩
  obtain ⟨a, ns, rfl, hS, hl, k⟩ := h
  refine ⟨_, rfl, a, ns, rfl, hS, hl, fun sc t hne => ?_⟩
  exact law_start (m := 9) (a := a) (by rfl) (law_true hl) hne hl k
end
theorem all_mk {l : PySem.W.OpenLaw} {w : World} {K : PySem.W.Frag} {h : Heap} {mg : Str → Option Value} {fa : Addr} {C_NoAim : Addr} {C_NoLot : Addr} {C_NoNumber : Addr} {C_Hall : Addr} {f__law_tape : Addr} {f_Hall_keep : Addr} {f_is_letters : Addr} {f_is_name : Addr} {f_is_integer : Addr} {f_is_within : Addr} {f_is_word : Addr} {f_is_words : Addr} {f_is_board : Addr} {f_Hall_init : Addr} {f__law_pick : Addr} {f__law_aim : Addr} {f__law_some : Addr} {f__law_bent : Addr} {f__law_int : Addr} {f__law_measure : Addr} {f__law_is_aim : Addr} {f__law_flag : Addr} {f_check_number : Addr} {f_moved_by : Addr} {f_aims_in : Addr} {f_parts_of : Addr} {f_is_any_aim : Addr} {f_moved : Addr} {f_is_aim : Addr} {f_check_aim : Addr} {f_holds : Addr} {f_is_ascending : Addr} {f_is_lot : Addr} {f_mask_of : Addr} {f_reached : Addr} {f__law_word : Addr} {f_law : Addr} (X : K.In h) (G : h.Ns mainGlobals mg) (hfa : mg "law" = some (.ref fa))
    {od__law_tape an__law_tape : Option Addr} {sl__law_tape : Array (Option Value)} {oc__law_tape kV__law_tape dc__law_tape pm__law_tape cd__law_tape ct__law_tape : Value} {od_Hall_keep an_Hall_keep : Option Addr} {sl_Hall_keep : Array (Option Value)} {oc_Hall_keep kV_Hall_keep dc_Hall_keep pm_Hall_keep cd_Hall_keep ct_Hall_keep : Value} {od_is_letters an_is_letters : Option Addr} {sl_is_letters : Array (Option Value)} {oc_is_letters kV_is_letters dc_is_letters pm_is_letters cd_is_letters ct_is_letters : Value} {od_is_name an_is_name : Option Addr} {sl_is_name : Array (Option Value)} {oc_is_name kV_is_name dc_is_name pm_is_name cd_is_name ct_is_name : Value} {od_is_integer an_is_integer : Option Addr} {sl_is_integer : Array (Option Value)} {oc_is_integer kV_is_integer dc_is_integer pm_is_integer cd_is_integer ct_is_integer : Value} {od_is_within an_is_within : Option Addr} {sl_is_within : Array (Option Value)} {oc_is_within kV_is_within dc_is_within pm_is_within cd_is_within ct_is_within : Value} {od_is_word an_is_word : Option Addr} {sl_is_word : Array (Option Value)} {oc_is_word kV_is_word dc_is_word pm_is_word cd_is_word ct_is_word : Value} {od_is_words an_is_words : Option Addr} {sl_is_words : Array (Option Value)} {oc_is_words kV_is_words dc_is_words pm_is_words cd_is_words ct_is_words : Value} {od_is_board an_is_board : Option Addr} {sl_is_board : Array (Option Value)} {oc_is_board kV_is_board dc_is_board pm_is_board cd_is_board ct_is_board : Value} {od_Hall_init an_Hall_init : Option Addr} {sl_Hall_init : Array (Option Value)} {oc_Hall_init kV_Hall_init dc_Hall_init pm_Hall_init cd_Hall_init ct_Hall_init : Value} {od__law_pick an__law_pick : Option Addr} {sl__law_pick : Array (Option Value)} {oc__law_pick kV__law_pick dc__law_pick pm__law_pick cd__law_pick ct__law_pick : Value} {od__law_aim an__law_aim : Option Addr} {sl__law_aim : Array (Option Value)} {oc__law_aim kV__law_aim dc__law_aim pm__law_aim cd__law_aim ct__law_aim : Value} {od__law_some an__law_some : Option Addr} {sl__law_some : Array (Option Value)} {oc__law_some kV__law_some dc__law_some pm__law_some cd__law_some ct__law_some : Value} {od__law_bent an__law_bent : Option Addr} {sl__law_bent : Array (Option Value)} {oc__law_bent kV__law_bent dc__law_bent pm__law_bent cd__law_bent ct__law_bent : Value} {od__law_int an__law_int : Option Addr} {sl__law_int : Array (Option Value)} {oc__law_int kV__law_int dc__law_int pm__law_int cd__law_int ct__law_int : Value} {od__law_measure an__law_measure : Option Addr} {sl__law_measure : Array (Option Value)} {oc__law_measure kV__law_measure dc__law_measure pm__law_measure cd__law_measure ct__law_measure : Value} {od__law_is_aim an__law_is_aim : Option Addr} {sl__law_is_aim : Array (Option Value)} {oc__law_is_aim kV__law_is_aim dc__law_is_aim pm__law_is_aim cd__law_is_aim ct__law_is_aim : Value} {od__law_flag an__law_flag : Option Addr} {sl__law_flag : Array (Option Value)} {oc__law_flag kV__law_flag dc__law_flag pm__law_flag cd__law_flag ct__law_flag : Value} {od_check_number an_check_number : Option Addr} {sl_check_number : Array (Option Value)} {oc_check_number kV_check_number dc_check_number pm_check_number cd_check_number ct_check_number : Value} {od_moved_by an_moved_by : Option Addr} {sl_moved_by : Array (Option Value)} {oc_moved_by kV_moved_by dc_moved_by pm_moved_by cd_moved_by ct_moved_by : Value} {od_aims_in an_aims_in : Option Addr} {sl_aims_in : Array (Option Value)} {oc_aims_in kV_aims_in dc_aims_in pm_aims_in cd_aims_in ct_aims_in : Value} {od_parts_of an_parts_of : Option Addr} {sl_parts_of : Array (Option Value)} {oc_parts_of kV_parts_of dc_parts_of pm_parts_of cd_parts_of ct_parts_of : Value} {od_is_any_aim an_is_any_aim : Option Addr} {sl_is_any_aim : Array (Option Value)} {oc_is_any_aim kV_is_any_aim dc_is_any_aim pm_is_any_aim cd_is_any_aim ct_is_any_aim : Value} {od_moved an_moved : Option Addr} {sl_moved : Array (Option Value)} {oc_moved kV_moved dc_moved pm_moved cd_moved ct_moved : Value} {od_is_aim an_is_aim : Option Addr} {sl_is_aim : Array (Option Value)} {oc_is_aim kV_is_aim dc_is_aim pm_is_aim cd_is_aim ct_is_aim : Value} {od_check_aim an_check_aim : Option Addr} {sl_check_aim : Array (Option Value)} {oc_check_aim kV_check_aim dc_check_aim pm_check_aim cd_check_aim ct_check_aim : Value} {od_holds an_holds : Option Addr} {sl_holds : Array (Option Value)} {oc_holds kV_holds dc_holds pm_holds cd_holds ct_holds : Value} {od_is_ascending an_is_ascending : Option Addr} {sl_is_ascending : Array (Option Value)} {oc_is_ascending kV_is_ascending dc_is_ascending pm_is_ascending cd_is_ascending ct_is_ascending : Value} {od_is_lot an_is_lot : Option Addr} {sl_is_lot : Array (Option Value)} {oc_is_lot kV_is_lot dc_is_lot pm_is_lot cd_is_lot ct_is_lot : Value} {od_mask_of an_mask_of : Option Addr} {sl_mask_of : Array (Option Value)} {oc_mask_of kV_mask_of dc_mask_of pm_mask_of cd_mask_of ct_mask_of : Value} {od_reached an_reached : Option Addr} {sl_reached : Array (Option Value)} {oc_reached kV_reached dc_reached pm_reached cd_reached ct_reached : Value} {od__law_word an__law_word : Option Addr} {sl__law_word : Array (Option Value)} {oc__law_word kV__law_word dc__law_word pm__law_word cd__law_word ct__law_word : Value} {od_law an_law : Option Addr} {sl_law : Array (Option Value)} {oc_law kV_law dc_law pm_law cd_law ct_law : Value} {tk_LETTERS : Tok} {tk_MOST_AIMS : Tok} {tk_MOST_BEGUN : Tok} {tk_MOST_BOARDS : Tok} {tk_MOST_DEEP : Tok} {tk_MOST_LEAST : Tok} {tk_MOST_LETTERS : Tok} {tk_MOST_MOVED : Tok} {tk_MOST_NAME : Tok} {tk_MOST_NUMBER : Tok} {tk_MOST_PARTS : Tok}
    (aC_NoAim : PySem.W.nsIn K mainGlobals "NoAim" = some (some (.ref C_NoAim)))
    (bf_NoAim : PySem.W.subIn K (.ref C_NoAim) (.type "BaseException") = some true)
    (tf_NoAim : PySem.W.typeIn K (.ref C_NoAim) = some (.type "type"))
    (kc_NoAim : PySem.W.keepIn K (.ref C_NoAim) = true)
    (xf_NoAim : PySem.W.excIn K C_NoAim [.type "ValueError", .type "Exception", .type "BaseException", .type "object"] "ValueError.__new__" = true)
    (ic_NoAim : PySem.W.isClsIn K C_NoAim = true)
    (aC_NoLot : PySem.W.nsIn K mainGlobals "NoLot" = some (some (.ref C_NoLot)))
    (bf_NoLot : PySem.W.subIn K (.ref C_NoLot) (.type "BaseException") = some true)
    (tf_NoLot : PySem.W.typeIn K (.ref C_NoLot) = some (.type "type"))
    (kc_NoLot : PySem.W.keepIn K (.ref C_NoLot) = true)
    (xf_NoLot : PySem.W.excIn K C_NoLot [.type "ValueError", .type "Exception", .type "BaseException", .type "object"] "ValueError.__new__" = true)
    (aC_NoNumber : PySem.W.nsIn K mainGlobals "NoNumber" = some (some (.ref C_NoNumber)))
    (bf_NoNumber : PySem.W.subIn K (.ref C_NoNumber) (.type "BaseException") = some true)
    (tf_NoNumber : PySem.W.typeIn K (.ref C_NoNumber) = some (.type "type"))
    (kc_NoNumber : PySem.W.keepIn K (.ref C_NoNumber) = true)
    (xf_NoNumber : PySem.W.excIn K C_NoNumber [.type "ValueError", .type "Exception", .type "BaseException", .type "object"] "ValueError.__new__" = true)
    (aC_Hall : PySem.W.nsIn K mainGlobals "Hall" = some (some (.ref C_Hall)))
    (sf_NoAim_NoAim : PySem.W.subIn K (.ref C_NoAim) (.ref C_NoAim) = some true)
    (sf_NoLot_NoAim : PySem.W.subIn K (.ref C_NoLot) (.ref C_NoAim) = some false)
    (sf_NoNumber_NoAim : PySem.W.subIn K (.ref C_NoNumber) (.ref C_NoAim) = some false)
    (a__law_tape : PySem.W.nsIn K mainGlobals "_law_tape" = some (some (.ref f__law_tape)))
    (l__law_tape : K.lookup f__law_tape = some ⟨oc__law_tape, od__law_tape, .func (PySem.W.fnOf "_law_tape" "_law_tape" (defArgs s__law_tape) (defBody s__law_tape) (defScope s__law_tape) .none kV__law_tape dc__law_tape pm__law_tape an__law_tape cd__law_tape ct__law_tape), sl__law_tape⟩)
    (c__law_tape : PySem.W.codeIn K cd__law_tape "_law_tape" = true)
    (k__law_tape : PySem.W.keepIn K (.ref f__law_tape) = true)
    (a_Hall_keep : PySem.W.findIn K (.ref C_Hall) "keep" = some (some (.ref f_Hall_keep)))
    (i_Hall_keep : PySem.W.isFn K (.ref f_Hall_keep) = true)
    (l_Hall_keep : K.lookup f_Hall_keep = some ⟨oc_Hall_keep, od_Hall_keep, .func (PySem.W.fnOf "keep" "Hall.keep" (defArgs s_Hall_keep) (defBody s_Hall_keep) (defScope s_Hall_keep) .none kV_Hall_keep dc_Hall_keep pm_Hall_keep an_Hall_keep cd_Hall_keep ct_Hall_keep), sl_Hall_keep⟩)
    (c_Hall_keep : PySem.W.codeIn K cd_Hall_keep "Hall.keep" = true)
    (k_Hall_keep : PySem.W.keepIn K (.ref f_Hall_keep) = true)
    (a_is_letters : PySem.W.nsIn K mainGlobals "is_letters" = some (some (.ref f_is_letters)))
    (l_is_letters : K.lookup f_is_letters = some ⟨oc_is_letters, od_is_letters, .func (PySem.W.fnOf "is_letters" "is_letters" (defArgs s_is_letters) (defBody s_is_letters) (defScope s_is_letters) .none kV_is_letters dc_is_letters pm_is_letters an_is_letters cd_is_letters ct_is_letters), sl_is_letters⟩)
    (c_is_letters : PySem.W.codeIn K cd_is_letters "is_letters" = true)
    (k_is_letters : PySem.W.keepIn K (.ref f_is_letters) = true)
    (a_is_name : PySem.W.nsIn K mainGlobals "is_name" = some (some (.ref f_is_name)))
    (l_is_name : K.lookup f_is_name = some ⟨oc_is_name, od_is_name, .func (PySem.W.fnOf "is_name" "is_name" (defArgs s_is_name) (defBody s_is_name) (defScope s_is_name) .none kV_is_name dc_is_name pm_is_name an_is_name cd_is_name ct_is_name), sl_is_name⟩)
    (c_is_name : PySem.W.codeIn K cd_is_name "is_name" = true)
    (k_is_name : PySem.W.keepIn K (.ref f_is_name) = true)
    (a_is_integer : PySem.W.nsIn K mainGlobals "is_integer" = some (some (.ref f_is_integer)))
    (l_is_integer : K.lookup f_is_integer = some ⟨oc_is_integer, od_is_integer, .func (PySem.W.fnOf "is_integer" "is_integer" (defArgs s_is_integer) (defBody s_is_integer) (defScope s_is_integer) .none kV_is_integer dc_is_integer pm_is_integer an_is_integer cd_is_integer ct_is_integer), sl_is_integer⟩)
    (c_is_integer : PySem.W.codeIn K cd_is_integer "is_integer" = true)
    (k_is_integer : PySem.W.keepIn K (.ref f_is_integer) = true)
    (a_is_within : PySem.W.nsIn K mainGlobals "is_within" = some (some (.ref f_is_within)))
    (l_is_within : K.lookup f_is_within = some ⟨oc_is_within, od_is_within, .func (PySem.W.fnOf "is_within" "is_within" (defArgs s_is_within) (defBody s_is_within) (defScope s_is_within) .none kV_is_within dc_is_within pm_is_within an_is_within cd_is_within ct_is_within), sl_is_within⟩)
    (c_is_within : PySem.W.codeIn K cd_is_within "is_within" = true)
    (k_is_within : PySem.W.keepIn K (.ref f_is_within) = true)
    (a_is_word : PySem.W.nsIn K mainGlobals "is_word" = some (some (.ref f_is_word)))
    (l_is_word : K.lookup f_is_word = some ⟨oc_is_word, od_is_word, .func (PySem.W.fnOf "is_word" "is_word" (defArgs s_is_word) (defBody s_is_word) (defScope s_is_word) .none kV_is_word dc_is_word pm_is_word an_is_word cd_is_word ct_is_word), sl_is_word⟩)
    (c_is_word : PySem.W.codeIn K cd_is_word "is_word" = true)
    (k_is_word : PySem.W.keepIn K (.ref f_is_word) = true)
    (a_is_words : PySem.W.nsIn K mainGlobals "is_words" = some (some (.ref f_is_words)))
    (l_is_words : K.lookup f_is_words = some ⟨oc_is_words, od_is_words, .func (PySem.W.fnOf "is_words" "is_words" (defArgs s_is_words) (defBody s_is_words) (defScope s_is_words) .none kV_is_words dc_is_words pm_is_words an_is_words cd_is_words ct_is_words), sl_is_words⟩)
    (c_is_words : PySem.W.codeIn K cd_is_words "is_words" = true)
    (k_is_words : PySem.W.keepIn K (.ref f_is_words) = true)
    (a_is_board : PySem.W.nsIn K mainGlobals "is_board" = some (some (.ref f_is_board)))
    (l_is_board : K.lookup f_is_board = some ⟨oc_is_board, od_is_board, .func (PySem.W.fnOf "is_board" "is_board" (defArgs s_is_board) (defBody s_is_board) (defScope s_is_board) .none kV_is_board dc_is_board pm_is_board an_is_board cd_is_board ct_is_board), sl_is_board⟩)
    (c_is_board : PySem.W.codeIn K cd_is_board "is_board" = true)
    (k_is_board : PySem.W.keepIn K (.ref f_is_board) = true)
    (a_Hall_init : PySem.W.findIn K (.ref C_Hall) "__init__" = some (some (.ref f_Hall_init)))
    (i_Hall_init : PySem.W.isFn K (.ref f_Hall_init) = true)
    (l_Hall_init : K.lookup f_Hall_init = some ⟨oc_Hall_init, od_Hall_init, .func (PySem.W.fnOf "__init__" "Hall.__init__" (defArgs s_Hall_init) (defBody s_Hall_init) (defScope s_Hall_init) .none kV_Hall_init dc_Hall_init pm_Hall_init an_Hall_init cd_Hall_init ct_Hall_init), sl_Hall_init⟩)
    (c_Hall_init : PySem.W.codeIn K cd_Hall_init "Hall.__init__" = true)
    (k_Hall_init : PySem.W.keepIn K (.ref f_Hall_init) = true)
    (a__law_pick : PySem.W.nsIn K mainGlobals "_law_pick" = some (some (.ref f__law_pick)))
    (l__law_pick : K.lookup f__law_pick = some ⟨oc__law_pick, od__law_pick, .func (PySem.W.fnOf "_law_pick" "_law_pick" (defArgs s__law_pick) (defBody s__law_pick) (defScope s__law_pick) .none kV__law_pick dc__law_pick pm__law_pick an__law_pick cd__law_pick ct__law_pick), sl__law_pick⟩)
    (c__law_pick : PySem.W.codeIn K cd__law_pick "_law_pick" = true)
    (k__law_pick : PySem.W.keepIn K (.ref f__law_pick) = true)
    (a__law_aim : PySem.W.nsIn K mainGlobals "_law_aim" = some (some (.ref f__law_aim)))
    (l__law_aim : K.lookup f__law_aim = some ⟨oc__law_aim, od__law_aim, .func (PySem.W.fnOf "_law_aim" "_law_aim" (defArgs s__law_aim) (defBody s__law_aim) (defScope s__law_aim) .none kV__law_aim dc__law_aim pm__law_aim an__law_aim cd__law_aim ct__law_aim), sl__law_aim⟩)
    (c__law_aim : PySem.W.codeIn K cd__law_aim "_law_aim" = true)
    (k__law_aim : PySem.W.keepIn K (.ref f__law_aim) = true)
    (a__law_some : PySem.W.nsIn K mainGlobals "_law_some" = some (some (.ref f__law_some)))
    (l__law_some : K.lookup f__law_some = some ⟨oc__law_some, od__law_some, .func (PySem.W.fnOf "_law_some" "_law_some" (defArgs s__law_some) (defBody s__law_some) (defScope s__law_some) .none kV__law_some dc__law_some pm__law_some an__law_some cd__law_some ct__law_some), sl__law_some⟩)
    (c__law_some : PySem.W.codeIn K cd__law_some "_law_some" = true)
    (k__law_some : PySem.W.keepIn K (.ref f__law_some) = true)
    (a__law_bent : PySem.W.nsIn K mainGlobals "_law_bent" = some (some (.ref f__law_bent)))
    (l__law_bent : K.lookup f__law_bent = some ⟨oc__law_bent, od__law_bent, .func (PySem.W.fnOf "_law_bent" "_law_bent" (defArgs s__law_bent) (defBody s__law_bent) (defScope s__law_bent) .none kV__law_bent dc__law_bent pm__law_bent an__law_bent cd__law_bent ct__law_bent), sl__law_bent⟩)
    (c__law_bent : PySem.W.codeIn K cd__law_bent "_law_bent" = true)
    (k__law_bent : PySem.W.keepIn K (.ref f__law_bent) = true)
    (a__law_int : PySem.W.nsIn K mainGlobals "_law_int" = some (some (.ref f__law_int)))
    (l__law_int : K.lookup f__law_int = some ⟨oc__law_int, od__law_int, .func (PySem.W.fnOf "_law_int" "_law_int" (defArgs s__law_int) (defBody s__law_int) (defScope s__law_int) .none kV__law_int dc__law_int pm__law_int an__law_int cd__law_int ct__law_int), sl__law_int⟩)
    (c__law_int : PySem.W.codeIn K cd__law_int "_law_int" = true)
    (k__law_int : PySem.W.keepIn K (.ref f__law_int) = true)
    (a__law_measure : PySem.W.nsIn K mainGlobals "_law_measure" = some (some (.ref f__law_measure)))
    (l__law_measure : K.lookup f__law_measure = some ⟨oc__law_measure, od__law_measure, .func (PySem.W.fnOf "_law_measure" "_law_measure" (defArgs s__law_measure) (defBody s__law_measure) (defScope s__law_measure) .none kV__law_measure dc__law_measure pm__law_measure an__law_measure cd__law_measure ct__law_measure), sl__law_measure⟩)
    (c__law_measure : PySem.W.codeIn K cd__law_measure "_law_measure" = true)
    (k__law_measure : PySem.W.keepIn K (.ref f__law_measure) = true)
    (a__law_is_aim : PySem.W.nsIn K mainGlobals "_law_is_aim" = some (some (.ref f__law_is_aim)))
    (l__law_is_aim : K.lookup f__law_is_aim = some ⟨oc__law_is_aim, od__law_is_aim, .func (PySem.W.fnOf "_law_is_aim" "_law_is_aim" (defArgs s__law_is_aim) (defBody s__law_is_aim) (defScope s__law_is_aim) .none kV__law_is_aim dc__law_is_aim pm__law_is_aim an__law_is_aim cd__law_is_aim ct__law_is_aim), sl__law_is_aim⟩)
    (c__law_is_aim : PySem.W.codeIn K cd__law_is_aim "_law_is_aim" = true)
    (k__law_is_aim : PySem.W.keepIn K (.ref f__law_is_aim) = true)
    (a__law_flag : PySem.W.nsIn K mainGlobals "_law_flag" = some (some (.ref f__law_flag)))
    (l__law_flag : K.lookup f__law_flag = some ⟨oc__law_flag, od__law_flag, .func (PySem.W.fnOf "_law_flag" "_law_flag" (defArgs s__law_flag) (defBody s__law_flag) (defScope s__law_flag) .none kV__law_flag dc__law_flag pm__law_flag an__law_flag cd__law_flag ct__law_flag), sl__law_flag⟩)
    (c__law_flag : PySem.W.codeIn K cd__law_flag "_law_flag" = true)
    (k__law_flag : PySem.W.keepIn K (.ref f__law_flag) = true)
    (a_check_number : PySem.W.nsIn K mainGlobals "check_number" = some (some (.ref f_check_number)))
    (l_check_number : K.lookup f_check_number = some ⟨oc_check_number, od_check_number, .func (PySem.W.fnOf "check_number" "check_number" (defArgs s_check_number) (defBody s_check_number) (defScope s_check_number) .none kV_check_number dc_check_number pm_check_number an_check_number cd_check_number ct_check_number), sl_check_number⟩)
    (c_check_number : PySem.W.codeIn K cd_check_number "check_number" = true)
    (k_check_number : PySem.W.keepIn K (.ref f_check_number) = true)
    (a_moved_by : PySem.W.nsIn K mainGlobals "moved_by" = some (some (.ref f_moved_by)))
    (l_moved_by : K.lookup f_moved_by = some ⟨oc_moved_by, od_moved_by, .func (PySem.W.fnOf "moved_by" "moved_by" (defArgs s_moved_by) (defBody s_moved_by) (defScope s_moved_by) .none kV_moved_by dc_moved_by pm_moved_by an_moved_by cd_moved_by ct_moved_by), sl_moved_by⟩)
    (c_moved_by : PySem.W.codeIn K cd_moved_by "moved_by" = true)
    (k_moved_by : PySem.W.keepIn K (.ref f_moved_by) = true)
    (a_aims_in : PySem.W.nsIn K mainGlobals "aims_in" = some (some (.ref f_aims_in)))
    (l_aims_in : K.lookup f_aims_in = some ⟨oc_aims_in, od_aims_in, .func (PySem.W.fnOf "aims_in" "aims_in" (defArgs s_aims_in) (defBody s_aims_in) (defScope s_aims_in) .none kV_aims_in dc_aims_in pm_aims_in an_aims_in cd_aims_in ct_aims_in), sl_aims_in⟩)
    (c_aims_in : PySem.W.codeIn K cd_aims_in "aims_in" = true)
    (k_aims_in : PySem.W.keepIn K (.ref f_aims_in) = true)
    (a_parts_of : PySem.W.nsIn K mainGlobals "parts_of" = some (some (.ref f_parts_of)))
    (l_parts_of : K.lookup f_parts_of = some ⟨oc_parts_of, od_parts_of, .func (PySem.W.fnOf "parts_of" "parts_of" (defArgs s_parts_of) (defBody s_parts_of) (defScope s_parts_of) .none kV_parts_of dc_parts_of pm_parts_of an_parts_of cd_parts_of ct_parts_of), sl_parts_of⟩)
    (c_parts_of : PySem.W.codeIn K cd_parts_of "parts_of" = true)
    (k_parts_of : PySem.W.keepIn K (.ref f_parts_of) = true)
    (a_is_any_aim : PySem.W.nsIn K mainGlobals "is_any_aim" = some (some (.ref f_is_any_aim)))
    (l_is_any_aim : K.lookup f_is_any_aim = some ⟨oc_is_any_aim, od_is_any_aim, .func (PySem.W.fnOf "is_any_aim" "is_any_aim" (defArgs s_is_any_aim) (defBody s_is_any_aim) (defScope s_is_any_aim) .none kV_is_any_aim dc_is_any_aim pm_is_any_aim an_is_any_aim cd_is_any_aim ct_is_any_aim), sl_is_any_aim⟩)
    (c_is_any_aim : PySem.W.codeIn K cd_is_any_aim "is_any_aim" = true)
    (k_is_any_aim : PySem.W.keepIn K (.ref f_is_any_aim) = true)
    (a_moved : PySem.W.nsIn K mainGlobals "moved" = some (some (.ref f_moved)))
    (l_moved : K.lookup f_moved = some ⟨oc_moved, od_moved, .func (PySem.W.fnOf "moved" "moved" (defArgs s_moved) (defBody s_moved) (defScope s_moved) .none kV_moved dc_moved pm_moved an_moved cd_moved ct_moved), sl_moved⟩)
    (c_moved : PySem.W.codeIn K cd_moved "moved" = true)
    (k_moved : PySem.W.keepIn K (.ref f_moved) = true)
    (a_is_aim : PySem.W.nsIn K mainGlobals "is_aim" = some (some (.ref f_is_aim)))
    (l_is_aim : K.lookup f_is_aim = some ⟨oc_is_aim, od_is_aim, .func (PySem.W.fnOf "is_aim" "is_aim" (defArgs s_is_aim) (defBody s_is_aim) (defScope s_is_aim) .none kV_is_aim dc_is_aim pm_is_aim an_is_aim cd_is_aim ct_is_aim), sl_is_aim⟩)
    (c_is_aim : PySem.W.codeIn K cd_is_aim "is_aim" = true)
    (k_is_aim : PySem.W.keepIn K (.ref f_is_aim) = true)
    (a_check_aim : PySem.W.nsIn K mainGlobals "check_aim" = some (some (.ref f_check_aim)))
    (l_check_aim : K.lookup f_check_aim = some ⟨oc_check_aim, od_check_aim, .func (PySem.W.fnOf "check_aim" "check_aim" (defArgs s_check_aim) (defBody s_check_aim) (defScope s_check_aim) .none kV_check_aim dc_check_aim pm_check_aim an_check_aim cd_check_aim ct_check_aim), sl_check_aim⟩)
    (c_check_aim : PySem.W.codeIn K cd_check_aim "check_aim" = true)
    (k_check_aim : PySem.W.keepIn K (.ref f_check_aim) = true)
    (a_holds : PySem.W.nsIn K mainGlobals "holds" = some (some (.ref f_holds)))
    (l_holds : K.lookup f_holds = some ⟨oc_holds, od_holds, .func (PySem.W.fnOf "holds" "holds" (defArgs s_holds) (defBody s_holds) (defScope s_holds) .none kV_holds dc_holds pm_holds an_holds cd_holds ct_holds), sl_holds⟩)
    (c_holds : PySem.W.codeIn K cd_holds "holds" = true)
    (k_holds : PySem.W.keepIn K (.ref f_holds) = true)
    (a_is_ascending : PySem.W.nsIn K mainGlobals "is_ascending" = some (some (.ref f_is_ascending)))
    (l_is_ascending : K.lookup f_is_ascending = some ⟨oc_is_ascending, od_is_ascending, .func (PySem.W.fnOf "is_ascending" "is_ascending" (defArgs s_is_ascending) (defBody s_is_ascending) (defScope s_is_ascending) .none kV_is_ascending dc_is_ascending pm_is_ascending an_is_ascending cd_is_ascending ct_is_ascending), sl_is_ascending⟩)
    (c_is_ascending : PySem.W.codeIn K cd_is_ascending "is_ascending" = true)
    (k_is_ascending : PySem.W.keepIn K (.ref f_is_ascending) = true)
    (a_is_lot : PySem.W.nsIn K mainGlobals "is_lot" = some (some (.ref f_is_lot)))
    (l_is_lot : K.lookup f_is_lot = some ⟨oc_is_lot, od_is_lot, .func (PySem.W.fnOf "is_lot" "is_lot" (defArgs s_is_lot) (defBody s_is_lot) (defScope s_is_lot) .none kV_is_lot dc_is_lot pm_is_lot an_is_lot cd_is_lot ct_is_lot), sl_is_lot⟩)
    (c_is_lot : PySem.W.codeIn K cd_is_lot "is_lot" = true)
    (k_is_lot : PySem.W.keepIn K (.ref f_is_lot) = true)
    (a_mask_of : PySem.W.nsIn K mainGlobals "mask_of" = some (some (.ref f_mask_of)))
    (l_mask_of : K.lookup f_mask_of = some ⟨oc_mask_of, od_mask_of, .func (PySem.W.fnOf "mask_of" "mask_of" (defArgs s_mask_of) (defBody s_mask_of) (defScope s_mask_of) .none kV_mask_of dc_mask_of pm_mask_of an_mask_of cd_mask_of ct_mask_of), sl_mask_of⟩)
    (c_mask_of : PySem.W.codeIn K cd_mask_of "mask_of" = true)
    (k_mask_of : PySem.W.keepIn K (.ref f_mask_of) = true)
    (a_reached : PySem.W.nsIn K mainGlobals "reached" = some (some (.ref f_reached)))
    (l_reached : K.lookup f_reached = some ⟨oc_reached, od_reached, .func (PySem.W.fnOf "reached" "reached" (defArgs s_reached) (defBody s_reached) (defScope s_reached) .none kV_reached dc_reached pm_reached an_reached cd_reached ct_reached), sl_reached⟩)
    (c_reached : PySem.W.codeIn K cd_reached "reached" = true)
    (k_reached : PySem.W.keepIn K (.ref f_reached) = true)
    (a__law_word : PySem.W.nsIn K mainGlobals "_law_word" = some (some (.ref f__law_word)))
    (l__law_word : K.lookup f__law_word = some ⟨oc__law_word, od__law_word, .func (PySem.W.fnOf "_law_word" "_law_word" (defArgs s__law_word) (defBody s__law_word) (defScope s__law_word) .none kV__law_word dc__law_word pm__law_word an__law_word cd__law_word ct__law_word), sl__law_word⟩)
    (c__law_word : PySem.W.codeIn K cd__law_word "_law_word" = true)
    (k__law_word : PySem.W.keepIn K (.ref f__law_word) = true)
    (a_law : PySem.W.nsIn K mainGlobals "law" = some (some (.ref f_law)))
    (l_law : K.lookup f_law = some ⟨oc_law, od_law, .func (PySem.W.fnOf "law" "law" (defArgs s_law) (defBody s_law) (defScope s_law) .none kV_law dc_law pm_law an_law cd_law ct_law), sl_law⟩)
    (c_law : PySem.W.codeIn K cd_law "law" = true)
    (k_law : PySem.W.keepIn K (.ref f_law) = true)
    (pg_Hall : PySem.W.plainGet K C_Hall Str.empty = true)
    (hd_Hall : PySem.W.hasDictIn K C_Hall = true)
    (po_Hall : PySem.W.plainOver K C_Hall = true)
    (sa_Hall : PySem.W.findIn K (.ref C_Hall) "__setattr__" = some (some (.builtin "object.__setattr__")))
    (mk_Hall : PySem.W.makesIn K C_Hall = true)
    (kc_Hall : PySem.W.keepIn K (.ref C_Hall) = true)
    (n_Hall_boards : PySem.W.findIn K (.ref C_Hall) "boards" = some none)
    (n_Hall_names : PySem.W.findIn K (.ref C_Hall) "names" = some none)
    (z_all : PySem.W.nsIn K mainGlobals "all" = some none)
    (z_any : PySem.W.nsIn K mainGlobals "any" = some none)
    (z_bool : PySem.W.nsIn K mainGlobals "bool" = some none)
    (z_enumerate : PySem.W.nsIn K mainGlobals "enumerate" = some none)
    (z_int : PySem.W.nsIn K mainGlobals "int" = some none)
    (z_isinstance : PySem.W.nsIn K mainGlobals "isinstance" = some none)
    (z_len : PySem.W.nsIn K mainGlobals "len" = some none)
    (z_list : PySem.W.nsIn K mainGlobals "list" = some none)
    (z_max : PySem.W.nsIn K mainGlobals "max" = some none)
    (z_range : PySem.W.nsIn K mainGlobals "range" = some none)
    (z_repr : PySem.W.nsIn K mainGlobals "repr" = some none)
    (z_sorted : PySem.W.nsIn K mainGlobals "sorted" = some none)
    (z_str : PySem.W.nsIn K mainGlobals "str" = some none)
    (z_sum : PySem.W.nsIn K mainGlobals "sum" = some none)
    (z_tuple : PySem.W.nsIn K mainGlobals "tuple" = some none)
    (z_zip : PySem.W.nsIn K mainGlobals "zip" = some none)
    (gv_LETTERS : PySem.W.nsIn K mainGlobals "LETTERS" = some (some (.str "abcdefghijklmnopqrstuvwxyz" tk_LETTERS)))
    (gv_MOST_AIMS : PySem.W.nsIn K mainGlobals "MOST_AIMS" = some (some (.int 24 tk_MOST_AIMS)))
    (gv_MOST_BEGUN : PySem.W.nsIn K mainGlobals "MOST_BEGUN" = some (some (.int 20 tk_MOST_BEGUN)))
    (gv_MOST_BOARDS : PySem.W.nsIn K mainGlobals "MOST_BOARDS" = some (some (.int 12 tk_MOST_BOARDS)))
    (gv_MOST_DEEP : PySem.W.nsIn K mainGlobals "MOST_DEEP" = some (some (.int 8 tk_MOST_DEEP)))
    (gv_MOST_LEAST : PySem.W.nsIn K mainGlobals "MOST_LEAST" = some (some (.int 25 tk_MOST_LEAST)))
    (gv_MOST_LETTERS : PySem.W.nsIn K mainGlobals "MOST_LETTERS" = some (some (.int 20 tk_MOST_LETTERS)))
    (gv_MOST_MOVED : PySem.W.nsIn K mainGlobals "MOST_MOVED" = some (some (.int 1000 tk_MOST_MOVED)))
    (gv_MOST_NAME : PySem.W.nsIn K mainGlobals "MOST_NAME" = some (some (.int 8 tk_MOST_NAME)))
    (gv_MOST_NUMBER : PySem.W.nsIn K mainGlobals "MOST_NUMBER" = some (some (.int 1000000 tk_MOST_NUMBER)))
    (gv_MOST_PARTS : PySem.W.nsIn K mainGlobals "MOST_PARTS" = some (some (.int 200 tk_MOST_PARTS))) :
    ∃ fd : FuncData, (∀ (s : Shared) (v : Value), BindsTo s fd ⟨[v], []⟩ [("_law_script", v)]) ∧ ∀ base : Heap, K.In base → base.Ns mainGlobals mg → TopOk l.prog w K mg base (L2.CX l.prog w) 19 fa fd ["_law_script"] (spLaw K) := by
  have e := hfa.symm.trans (PySem.W.mg_of X G a_law)
  cases e
  let cl : CTab := ⟨fun c => if c = "Hall" then some (C_Hall, ["boards", "names"]) else if c = "NoAim" then some (C_NoAim, []) else if c = "NoLot" then some (C_NoLot, []) else if c = "NoNumber" then some (C_NoNumber, []) else none, l.prog, w⟩
  have hh_NoAim : CatchAt K cl (t_of "NoAim") C_NoAim := fun x A fs b ht hx => by
    by_cases e_NoAim : x = "NoAim"
    · subst e_NoAim
      cases (show some true = some b from (show (t_of "NoAim") "NoAim" = some true by decide +kernel).symm.trans ht)
      cases (show some (C_NoAim, ([] : List Str)) = some (A, fs) from hx)
      exact exm_is bf_NoAim ic_NoAim tf_NoAim sf_NoAim_NoAim
    by_cases e_NoLot : x = "NoLot"
    · subst e_NoLot
      cases (show some false = some b from (show (t_of "NoAim") "NoLot" = some false by decide +kernel).symm.trans ht)
      cases (show some (C_NoLot, ([] : List Str)) = some (A, fs) from hx)
      exact exm_is bf_NoAim ic_NoAim tf_NoAim sf_NoLot_NoAim
    by_cases e_NoNumber : x = "NoNumber"
    · subst e_NoNumber
      cases (show some false = some b from (show (t_of "NoAim") "NoNumber" = some false by decide +kernel).symm.trans ht)
      cases (show some (C_NoNumber, ([] : List Str)) = some (A, fs) from hx)
      exact exm_is bf_NoAim ic_NoAim tf_NoAim sf_NoNumber_NoAim
    by_cases e_Hall : x = "Hall"
    · subst e_Hall
      cases (show none = some b from (show (t_of "NoAim") "Hall" = none by decide +kernel).symm.trans ht)
    simp only [cl] at hx
    rw [if_neg e_Hall] at hx
    rw [if_neg e_NoAim] at hx
    rw [if_neg e_NoLot] at hx
    rw [if_neg e_NoNumber] at hx
    cases hx
  have T : Txt l.prog w K mg cl := { wp := rfl, ww := rfl, b_all := PySem.W.mg_none_of X G z_all, b_any := PySem.W.mg_none_of X G z_any, b_bool := PySem.W.mg_none_of X G z_bool, b_enumerate := PySem.W.mg_none_of X G z_enumerate, b_int := PySem.W.mg_none_of X G z_int, b_isinstance := PySem.W.mg_none_of X G z_isinstance, b_len := PySem.W.mg_none_of X G z_len, b_list := PySem.W.mg_none_of X G z_list, b_max := PySem.W.mg_none_of X G z_max, b_range := PySem.W.mg_none_of X G z_range, b_repr := PySem.W.mg_none_of X G z_repr, b_sorted := PySem.W.mg_none_of X G z_sorted, b_str := PySem.W.mg_none_of X G z_str, b_sum := PySem.W.mg_none_of X G z_sum, b_tuple := PySem.W.mg_none_of X G z_tuple, b_zip := PySem.W.mg_none_of X G z_zip, g_LETTERS := glStr (PySem.W.mg_of X G gv_LETTERS), g_MOST_AIMS := glInt (PySem.W.mg_of X G gv_MOST_AIMS), g_MOST_BEGUN := glInt (PySem.W.mg_of X G gv_MOST_BEGUN), g_MOST_BOARDS := glInt (PySem.W.mg_of X G gv_MOST_BOARDS), g_MOST_DEEP := glInt (PySem.W.mg_of X G gv_MOST_DEEP), g_MOST_LEAST := glInt (PySem.W.mg_of X G gv_MOST_LEAST), g_MOST_LETTERS := glInt (PySem.W.mg_of X G gv_MOST_LETTERS), g_MOST_MOVED := glInt (PySem.W.mg_of X G gv_MOST_MOVED), g_MOST_NAME := glInt (PySem.W.mg_of X G gv_MOST_NAME), g_MOST_NUMBER := glInt (PySem.W.mg_of X G gv_MOST_NUMBER), g_MOST_PARTS := glInt (PySem.W.mg_of X G gv_MOST_PARTS), f_Hall_boards := ⟨.inl ⟨C_Hall, ["boards", "names"], by rfl, rfl, by decide +kernel, by decide, ⟨pg_Hall, hd_Hall, po_Hall, sa_Hall⟩, n_Hall_boards⟩⟩, f_Hall_names := ⟨.inl ⟨C_Hall, ["boards", "names"], by rfl, rfl, by decide +kernel, by decide, ⟨pg_Hall, hd_Hall, po_Hall, sa_Hall⟩, n_Hall_names⟩⟩, f_RawHall_boards := ⟨.inr (by rfl)⟩, f_RawHall_names := ⟨.inr (by rfl)⟩, r_NoAim := ⟨C_NoAim, ⟨by rfl, PySem.W.mg_of X G aC_NoAim, xf_NoAim, kc_NoAim, bf_NoAim, tf_NoAim⟩⟩, r_NoLot := ⟨C_NoLot, ⟨by rfl, PySem.W.mg_of X G aC_NoLot, xf_NoLot, kc_NoLot, bf_NoLot, tf_NoLot⟩⟩, r_NoNumber := ⟨C_NoNumber, ⟨by rfl, PySem.W.mg_of X G aC_NoNumber, xf_NoNumber, kc_NoNumber, bf_NoNumber, tf_NoNumber⟩⟩, h_NoAim := ⟨C_NoAim, PySem.W.mg_of X G aC_NoAim, hh_NoAim⟩ }
  have G__law_tape := fun_mk (st := s__law_tape) l__law_tape c__law_tape k__law_tape
  have b__law_tape := G__law_tape.binds (ps := ["_law_script"]) fun _ _ _ _ _ _ us hl => match us, hl with | [_], _ => rfl
  have cc__law_tape : Cal K mg "_law_tape" f__law_tape _ ["_law_script"] := ⟨PySem.W.mg_of X G a__law_tape, k__law_tape, b__law_tape⟩
  have G_Hall_keep := fun_mk (st := s_Hall_keep) l_Hall_keep c_Hall_keep k_Hall_keep
  have b_Hall_keep := G_Hall_keep.binds (ps := ["self", "boards"]) fun _ _ _ _ _ _ us hl => match us, hl with | [_, _], _ => rfl
  have cc_Hall_keep : CalM K _ ["self", "boards"] := ⟨b_Hall_keep⟩
  have N_Hall_keep : MethAt K cl "Hall" "keep" f_Hall_keep := ⟨C_Hall, ["boards", "names"], by rfl, by decide +kernel, ⟨pg_Hall, hd_Hall, po_Hall, sa_Hall⟩, ⟨a_Hall_keep, i_Hall_keep, k_Hall_keep⟩⟩
  have G_is_letters := fun_mk (st := s_is_letters) l_is_letters c_is_letters k_is_letters
  have b_is_letters := G_is_letters.binds (ps := ["thing", "most"]) fun _ _ _ _ _ _ us hl => match us, hl with | [_, _], _ => rfl
  have cc_is_letters : Cal K mg "is_letters" f_is_letters _ ["thing", "most"] := ⟨PySem.W.mg_of X G a_is_letters, k_is_letters, b_is_letters⟩
  have G_is_name := fun_mk (st := s_is_name) l_is_name c_is_name k_is_name
  have b_is_name := G_is_name.binds (ps := ["thing"]) fun _ _ _ _ _ _ us hl => match us, hl with | [_], _ => rfl
  have cc_is_name : Cal K mg "is_name" f_is_name _ ["thing"] := ⟨PySem.W.mg_of X G a_is_name, k_is_name, b_is_name⟩
  have G_is_integer := fun_mk (st := s_is_integer) l_is_integer c_is_integer k_is_integer
  have b_is_integer := G_is_integer.binds (ps := ["thing"]) fun _ _ _ _ _ _ us hl => match us, hl with | [_], _ => rfl
  have cc_is_integer : Cal K mg "is_integer" f_is_integer _ ["thing"] := ⟨PySem.W.mg_of X G a_is_integer, k_is_integer, b_is_integer⟩
  have G_is_within := fun_mk (st := s_is_within) l_is_within c_is_within k_is_within
  have b_is_within := G_is_within.binds (ps := ["thing", "least", "most"]) fun _ _ _ _ _ _ us hl => match us, hl with | [_, _, _], _ => rfl
  have cc_is_within : Cal K mg "is_within" f_is_within _ ["thing", "least", "most"] := ⟨PySem.W.mg_of X G a_is_within, k_is_within, b_is_within⟩
  have G_is_word := fun_mk (st := s_is_word) l_is_word c_is_word k_is_word
  have b_is_word := G_is_word.binds (ps := ["thing"]) fun _ _ _ _ _ _ us hl => match us, hl with | [_], _ => rfl
  have cc_is_word : Cal K mg "is_word" f_is_word _ ["thing"] := ⟨PySem.W.mg_of X G a_is_word, k_is_word, b_is_word⟩
  have G_is_words := fun_mk (st := s_is_words) l_is_words c_is_words k_is_words
  have b_is_words := G_is_words.binds (ps := ["thing", "most"]) fun _ _ _ _ _ _ us hl => match us, hl with | [_, _], _ => rfl
  have cc_is_words : Cal K mg "is_words" f_is_words _ ["thing", "most"] := ⟨PySem.W.mg_of X G a_is_words, k_is_words, b_is_words⟩
  have G_is_board := fun_mk (st := s_is_board) l_is_board c_is_board k_is_board
  have b_is_board := G_is_board.binds (ps := ["thing"]) fun _ _ _ _ _ _ us hl => match us, hl with | [_], _ => rfl
  have cc_is_board : Cal K mg "is_board" f_is_board _ ["thing"] := ⟨PySem.W.mg_of X G a_is_board, k_is_board, b_is_board⟩
  have G_Hall_init := fun_mk (st := s_Hall_init) l_Hall_init c_Hall_init k_Hall_init
  have b_Hall_init := G_Hall_init.binds (ps := ["self", "boards"]) fun _ _ _ _ _ _ us hl => match us, hl with | [_, _], _ => rfl
  have cc_Hall_init : CalM K _ ["self", "boards"] := ⟨b_Hall_init⟩
  have ci_Hall : CalC K mg "Hall" C_Hall _ ["self", "boards"] := ⟨PySem.W.mg_of X G aC_Hall, b_Hall_init⟩
  have M_Hall : MakeAt K cl "Hall" C_Hall f_Hall_init 2 := ⟨["boards", "names"], by rfl, rfl, ⟨mk_Hall, a_Hall_init, i_Hall_init, kc_Hall⟩⟩
  have G__law_pick := fun_mk (st := s__law_pick) l__law_pick c__law_pick k__law_pick
  have b__law_pick := G__law_pick.binds (ps := ["_law_tape_here", "_law_size"]) fun _ _ _ _ _ _ us hl => match us, hl with | [_, _], _ => rfl
  have cc__law_pick : Cal K mg "_law_pick" f__law_pick _ ["_law_tape_here", "_law_size"] := ⟨PySem.W.mg_of X G a__law_pick, k__law_pick, b__law_pick⟩
  have G__law_aim := fun_mk (st := s__law_aim) l__law_aim c__law_aim k__law_aim
  have b__law_aim := G__law_aim.binds (ps := ["_law_tape_here", "_law_many", "_law_deep"]) fun _ _ _ _ _ _ us hl => match us, hl with | [_, _, _], _ => rfl
  have cc__law_aim : Cal K mg "_law_aim" f__law_aim _ ["_law_tape_here", "_law_many", "_law_deep"] := ⟨PySem.W.mg_of X G a__law_aim, k__law_aim, b__law_aim⟩
  have G__law_some := fun_mk (st := s__law_some) l__law_some c__law_some k__law_some
  have b__law_some := G__law_some.binds (ps := ["_law_tape_here", "_law_things"]) fun _ _ _ _ _ _ us hl => match us, hl with | [_, _], _ => rfl
  have cc__law_some : Cal K mg "_law_some" f__law_some _ ["_law_tape_here", "_law_things"] := ⟨PySem.W.mg_of X G a__law_some, k__law_some, b__law_some⟩
  have G__law_bent := fun_mk (st := s__law_bent) l__law_bent c__law_bent k__law_bent
  have b__law_bent := G__law_bent.binds (ps := ["_law_tape_here", "_law_aim_here", "_law_many"]) fun _ _ _ _ _ _ us hl => match us, hl with | [_, _, _], _ => rfl
  have cc__law_bent : Cal K mg "_law_bent" f__law_bent _ ["_law_tape_here", "_law_aim_here", "_law_many"] := ⟨PySem.W.mg_of X G a__law_bent, k__law_bent, b__law_bent⟩
  have G__law_int := fun_mk (st := s__law_int) l__law_int c__law_int k__law_int
  have b__law_int := G__law_int.binds (ps := ["_law_thing", "_law_least", "_law_most"]) fun _ _ _ _ _ _ us hl => match us, hl with | [_, _, _], _ => rfl
  have cc__law_int : Cal K mg "_law_int" f__law_int _ ["_law_thing", "_law_least", "_law_most"] := ⟨PySem.W.mg_of X G a__law_int, k__law_int, b__law_int⟩
  have G__law_measure := fun_mk (st := s__law_measure) l__law_measure c__law_measure k__law_measure
  have b__law_measure := G__law_measure.binds (ps := ["_law_thing", "_law_most"]) fun _ _ _ _ _ _ us hl => match us, hl with | [_, _], _ => rfl
  have cc__law_measure : Cal K mg "_law_measure" f__law_measure _ ["_law_thing", "_law_most"] := ⟨PySem.W.mg_of X G a__law_measure, k__law_measure, b__law_measure⟩
  have G__law_is_aim := fun_mk (st := s__law_is_aim) l__law_is_aim c__law_is_aim k__law_is_aim
  have b__law_is_aim := G__law_is_aim.binds (ps := ["_law_thing", "_law_most"]) fun _ _ _ _ _ _ us hl => match us, hl with | [_, _], _ => rfl
  have cc__law_is_aim : Cal K mg "_law_is_aim" f__law_is_aim _ ["_law_thing", "_law_most"] := ⟨PySem.W.mg_of X G a__law_is_aim, k__law_is_aim, b__law_is_aim⟩
  have G__law_flag := fun_mk (st := s__law_flag) l__law_flag c__law_flag k__law_flag
  have b__law_flag := G__law_flag.binds (ps := ["_law_told", "_law_due"]) fun _ _ _ _ _ _ us hl => match us, hl with | [_, _], _ => rfl
  have cc__law_flag : Cal K mg "_law_flag" f__law_flag _ ["_law_told", "_law_due"] := ⟨PySem.W.mg_of X G a__law_flag, k__law_flag, b__law_flag⟩
  have G_check_number := fun_mk (st := s_check_number) l_check_number c_check_number k_check_number
  have b_check_number := G_check_number.binds (ps := ["thing", "least", "most"]) fun _ _ _ _ _ _ us hl => match us, hl with | [_, _, _], _ => rfl
  have cc_check_number : Cal K mg "check_number" f_check_number _ ["thing", "least", "most"] := ⟨PySem.W.mg_of X G a_check_number, k_check_number, b_check_number⟩
  have G_moved_by := fun_mk (st := s_moved_by) l_moved_by c_moved_by k_moved_by
  have b_moved_by := G_moved_by.binds (ps := ["aim", "by"]) fun _ _ _ _ _ _ us hl => match us, hl with | [_, _], _ => rfl
  have cc_moved_by : Cal K mg "moved_by" f_moved_by _ ["aim", "by"] := ⟨PySem.W.mg_of X G a_moved_by, k_moved_by, b_moved_by⟩
  have G_aims_in := fun_mk (st := s_aims_in) l_aims_in c_aims_in k_aims_in
  have b_aims_in := G_aims_in.binds (ps := ["thing"]) fun _ _ _ _ _ _ us hl => match us, hl with | [_], _ => rfl
  have cc_aims_in : Cal K mg "aims_in" f_aims_in _ ["thing"] := ⟨PySem.W.mg_of X G a_aims_in, k_aims_in, b_aims_in⟩
  have G_parts_of := fun_mk (st := s_parts_of) l_parts_of c_parts_of k_parts_of
  have b_parts_of := G_parts_of.binds (ps := ["thing", "most", "deep"]) fun _ _ _ _ _ _ us hl => match us, hl with | [_, _, _], _ => rfl
  have cc_parts_of : Cal K mg "parts_of" f_parts_of _ ["thing", "most", "deep"] := ⟨PySem.W.mg_of X G a_parts_of, k_parts_of, b_parts_of⟩
  have G_is_any_aim := fun_mk (st := s_is_any_aim) l_is_any_aim c_is_any_aim k_is_any_aim
  have b_is_any_aim := G_is_any_aim.binds (ps := ["thing", "most"]) fun _ _ _ _ _ _ us hl => match us, hl with | [_, _], _ => rfl
  have cc_is_any_aim : Cal K mg "is_any_aim" f_is_any_aim _ ["thing", "most"] := ⟨PySem.W.mg_of X G a_is_any_aim, k_is_any_aim, b_is_any_aim⟩
  have G_moved := fun_mk (st := s_moved) l_moved c_moved k_moved
  have b_moved := G_moved.binds (ps := ["aim", "by"]) fun _ _ _ _ _ _ us hl => match us, hl with | [_, _], _ => rfl
  have cc_moved : Cal K mg "moved" f_moved _ ["aim", "by"] := ⟨PySem.W.mg_of X G a_moved, k_moved, b_moved⟩
  have G_is_aim := fun_mk (st := s_is_aim) l_is_aim c_is_aim k_is_aim
  have b_is_aim := G_is_aim.binds (ps := ["hall", "thing"]) fun _ _ _ _ _ _ us hl => match us, hl with | [_, _], _ => rfl
  have cc_is_aim : Cal K mg "is_aim" f_is_aim _ ["hall", "thing"] := ⟨PySem.W.mg_of X G a_is_aim, k_is_aim, b_is_aim⟩
  have G_check_aim := fun_mk (st := s_check_aim) l_check_aim c_check_aim k_check_aim
  have b_check_aim := G_check_aim.binds (ps := ["hall", "thing"]) fun _ _ _ _ _ _ us hl => match us, hl with | [_, _], _ => rfl
  have cc_check_aim : Cal K mg "check_aim" f_check_aim _ ["hall", "thing"] := ⟨PySem.W.mg_of X G a_check_aim, k_check_aim, b_check_aim⟩
  have G_holds := fun_mk (st := s_holds) l_holds c_holds k_holds
  have b_holds := G_holds.binds (ps := ["aim", "mask"]) fun _ _ _ _ _ _ us hl => match us, hl with | [_, _], _ => rfl
  have cc_holds : Cal K mg "holds" f_holds _ ["aim", "mask"] := ⟨PySem.W.mg_of X G a_holds, k_holds, b_holds⟩
  have G_is_ascending := fun_mk (st := s_is_ascending) l_is_ascending c_is_ascending k_is_ascending
  have b_is_ascending := G_is_ascending.binds (ps := ["items"]) fun _ _ _ _ _ _ us hl => match us, hl with | [_], _ => rfl
  have cc_is_ascending : Cal K mg "is_ascending" f_is_ascending _ ["items"] := ⟨PySem.W.mg_of X G a_is_ascending, k_is_ascending, b_is_ascending⟩
  have G_is_lot := fun_mk (st := s_is_lot) l_is_lot c_is_lot k_is_lot
  have b_is_lot := G_is_lot.binds (ps := ["thing", "many"]) fun _ _ _ _ _ _ us hl => match us, hl with | [_, _], _ => rfl
  have cc_is_lot : Cal K mg "is_lot" f_is_lot _ ["thing", "many"] := ⟨PySem.W.mg_of X G a_is_lot, k_is_lot, b_is_lot⟩
  have G_mask_of := fun_mk (st := s_mask_of) l_mask_of c_mask_of k_mask_of
  have b_mask_of := G_mask_of.binds (ps := ["lot"]) fun _ _ _ _ _ _ us hl => match us, hl with | [_], _ => rfl
  have cc_mask_of : Cal K mg "mask_of" f_mask_of _ ["lot"] := ⟨PySem.W.mg_of X G a_mask_of, k_mask_of, b_mask_of⟩
  have G_reached := fun_mk (st := s_reached) l_reached c_reached k_reached
  have b_reached := G_reached.binds (ps := ["hall", "aim", "won"]) fun _ _ _ _ _ _ us hl => match us, hl with | [_, _, _], _ => rfl
  have cc_reached : Cal K mg "reached" f_reached _ ["hall", "aim", "won"] := ⟨PySem.W.mg_of X G a_reached, k_reached, b_reached⟩
  have G__law_word := fun_mk (st := s__law_word) l__law_word c__law_word k__law_word
  have b__law_word := G__law_word.binds (ps := ["_law_which", "_law_hall", "_law_thing"]) fun _ _ _ _ _ _ us hl => match us, hl with | [_, _, _], _ => rfl
  have cc__law_word : Cal K mg "_law_word" f__law_word _ ["_law_which", "_law_hall", "_law_thing"] := ⟨PySem.W.mg_of X G a__law_word, k__law_word, b__law_word⟩
  have G_law := fun_mk (st := s_law) l_law c_law k_law
  refine ⟨PySem.W.fnOf "law" "law" (defArgs s_law) (defBody s_law) (defScope s_law) .none kV_law dc_law pm_law an_law cd_law ct_law, fun s v => .of_eq rfl, fun base _ _ => ?_⟩
  have F__law_tape := ok__law_tape (P := l.prog) (w := w) (base := base) (PySem.W.mg_none_of X G z_list) G__law_tape
  have F_Hall_keep := ok_Hall_keep (P := l.prog) (w := w) (base := base) T G_Hall_keep 
  have F_is_letters := ok_is_letters (P := l.prog) (w := w) (base := base) T G_is_letters 
  have F_is_name := ok_is_name (P := l.prog) (w := w) (base := base) T G_is_name cc_is_letters F_is_letters
  have F_is_integer := ok_is_integer (P := l.prog) (w := w) (base := base) T G_is_integer 
  have F_is_within := ok_is_within (P := l.prog) (w := w) (base := base) T G_is_within cc_is_integer F_is_integer
  have F_is_word := ok_is_word (P := l.prog) (w := w) (base := base) T G_is_word cc_is_letters F_is_letters
  have F_is_words := ok_is_words (P := l.prog) (w := w) (base := base) T G_is_words cc_is_word F_is_word
  have F_is_board := ok_is_board (P := l.prog) (w := w) (base := base) T G_is_board cc_is_name F_is_name cc_is_within F_is_within cc_is_words F_is_words
  have F_Hall_init := ok_Hall_init (P := l.prog) (w := w) (base := base) T G_Hall_init cc_Hall_keep F_Hall_keep N_Hall_keep cc_is_board F_is_board
  have F__law_pick := ok__law_pick (P := l.prog) (w := w) (base := base) T G__law_pick 
  have F__law_aim := ok__law_aim (P := l.prog) (w := w) (base := base) T G__law_aim cc__law_aim  cc__law_pick F__law_pick 8
  have F__law_some := ok__law_some (P := l.prog) (w := w) (base := base) T G__law_some cc__law_pick F__law_pick
  have F__law_bent := ok__law_bent (P := l.prog) (w := w) (base := base) T G__law_bent cc__law_bent  cc__law_pick F__law_pick cc__law_some F__law_some 12
  have F__law_int := ok__law_int (P := l.prog) (w := w) (base := base) T G__law_int 
  have F__law_measure := ok__law_measure (P := l.prog) (w := w) (base := base) T G__law_measure cc__law_measure  cc__law_int F__law_int 14
  have F__law_is_aim := ok__law_is_aim (P := l.prog) (w := w) (base := base) T G__law_is_aim cc__law_measure F__law_measure
  have F__law_flag := ok__law_flag (P := l.prog) (w := w) (base := base) T G__law_flag 
  have F_check_number := ok_check_number (P := l.prog) (w := w) (base := base) T G_check_number cc_is_within F_is_within
  have F_moved_by := ok_moved_by (P := l.prog) (w := w) (base := base) T G_moved_by cc_moved_by   10
  have F_aims_in := ok_aims_in (P := l.prog) (w := w) (base := base) T G_aims_in cc_is_within F_is_within
  have F_parts_of := ok_parts_of (P := l.prog) (w := w) (base := base) T G_parts_of cc_parts_of  cc_aims_in F_aims_in cc_is_within F_is_within 10
  have F_is_any_aim := ok_is_any_aim (P := l.prog) (w := w) (base := base) T G_is_any_aim cc_parts_of F_parts_of
  have F_moved := ok_moved (P := l.prog) (w := w) (base := base) T G_moved cc_check_number F_check_number cc_is_any_aim F_is_any_aim cc_moved_by F_moved_by
  have F_is_aim := ok_is_aim (P := l.prog) (w := w) (base := base) T G_is_aim cc_is_any_aim F_is_any_aim
  have F_check_aim := ok_check_aim (P := l.prog) (w := w) (base := base) T G_check_aim cc_is_aim F_is_aim
  have F_holds := ok_holds (P := l.prog) (w := w) (base := base) T G_holds cc_holds   10
  have F_is_ascending := ok_is_ascending (P := l.prog) (w := w) (base := base) T G_is_ascending 
  have F_is_lot := ok_is_lot (P := l.prog) (w := w) (base := base) T G_is_lot cc_is_ascending F_is_ascending cc_is_within F_is_within
  have F_mask_of := ok_mask_of (P := l.prog) (w := w) (base := base) T G_mask_of 
  have F_reached := ok_reached (P := l.prog) (w := w) (base := base) T G_reached cc_check_aim F_check_aim cc_holds F_holds cc_is_lot F_is_lot cc_mask_of F_mask_of
  have F__law_word := ok__law_word (P := l.prog) (w := w) (base := base) T G__law_word cc_moved F_moved cc_reached F_reached
  exact ok_law T cc__law_tape F__law_tape G_law cc_Hall_init F_Hall_init M_Hall init_Hall ci_Hall cc__law_aim F__law_aim cc__law_bent F__law_bent cc__law_flag F__law_flag cc__law_is_aim F__law_is_aim cc__law_pick F__law_pick cc__law_some F__law_some cc__law_word F__law_word cc_is_aim F_is_aim
theorem walk {l : PySem.W.OpenLaw} {q : Program} {loose : List Str} {XP : (Str → Option Value) → Heap → Prop} {YP : World → Heap → Prop} {d : DefRec} {K : Params → PySem.W.Frag} (hn : l.most = some 63) (hdf : d.params.defaults = [])
    (hY : ∀ (w : World) (h : Heap), YP w h → (K w.params).In h)
    (F : ∀ (w : World) (mg : Str → Option Value) (fa : Addr) (h : Heap), (K w.params).In h → h.Ns mainGlobals mg → mg d.name = some (.ref fa) →
      ∃ fd : FuncData, (∀ (s : Shared) (u : Value), BindsTo s fd ⟨[u], []⟩ [("_law_script", u)]) ∧ ∀ base : Heap, (K w.params).In base → base.Ns mainGlobals mg → TopOk l.prog w (K w.params) mg base (L2.CX l.prog w) 19 fa fd ["_law_script"] (spLaw (K w.params))) :
    PySem.W.WalkO q loose XP YP l.row.toRowW d [] (fun f vs => PySem.call f vs) :=
  top_walk (n := 63) (k := 19) (x := "_law_script") (CX := fun w => L2.CX l.prog w) (sp := fun w => spLaw (K w.params)) hn (by decide) hdf ⟨rfl, by decide, by decide⟩ hY F (fun _ _ a ns hl _ hS => ⟨a, ns, rfl, hS, hl, fun _ => rfl⟩) fun _ _ _ _ _ z => by first | exact z | (obtain ⟨_, _, _, _, _, z⟩ := z; exact z) | simpa [L2.CX] using z
end LW
open PySem PySem.W PyProof.Rows
set_option maxRecDepth 100000 in
set_option maxHeartbeats 0 in
theorem PySem.Challenge.cw_untoldgames_k15_aims_judged_holds : PySem.Challenge.rw_untoldgames_k15_aims_judged.Holds := by
  w_on; o_law; k_head; (case hw => w_witness2)
  k_fill
  refine LW.walk (l := PySem.Challenge.rw_untoldgames_k15_aims_judged) rfl rfl (fun w h Y => PySem.W.kIn_of Y) ?F
  case F =>
    intro w mg fa h KX G hmg
    refine' LW.all_mk KX G hmg ?aC_NoAim ?bf_NoAim ?tf_NoAim ?kc_NoAim ?xf_NoAim ?ic_NoAim ?aC_NoLot ?bf_NoLot ?tf_NoLot ?kc_NoLot ?xf_NoLot ?aC_NoNumber ?bf_NoNumber ?tf_NoNumber ?kc_NoNumber ?xf_NoNumber ?aC_Hall ?sf_NoAim_NoAim ?sf_NoLot_NoAim ?sf_NoNumber_NoAim ?a__law_tape ?l__law_tape ?c__law_tape ?k__law_tape ?a_Hall_keep ?i_Hall_keep ?l_Hall_keep ?c_Hall_keep ?k_Hall_keep ?a_is_letters ?l_is_letters ?c_is_letters ?k_is_letters ?a_is_name ?l_is_name ?c_is_name ?k_is_name ?a_is_integer ?l_is_integer ?c_is_integer ?k_is_integer ?a_is_within ?l_is_within ?c_is_within ?k_is_within ?a_is_word ?l_is_word ?c_is_word ?k_is_word ?a_is_words ?l_is_words ?c_is_words ?k_is_words ?a_is_board ?l_is_board ?c_is_board ?k_is_board ?a_Hall_init ?i_Hall_init ?l_Hall_init ?c_Hall_init ?k_Hall_init ?a__law_pick ?l__law_pick ?c__law_pick ?k__law_pick ?a__law_aim ?l__law_aim ?c__law_aim ?k__law_aim ?a__law_some ?l__law_some ?c__law_some ?k__law_some ?a__law_bent ?l__law_bent ?c__law_bent ?k__law_bent ?a__law_int ?l__law_int ?c__law_int ?k__law_int ?a__law_measure ?l__law_measure ?c__law_measure ?k__law_measure ?a__law_is_aim ?l__law_is_aim ?c__law_is_aim ?k__law_is_aim ?a__law_flag ?l__law_flag ?c__law_flag ?k__law_flag ?a_check_number ?l_check_number ?c_check_number ?k_check_number ?a_moved_by ?l_moved_by ?c_moved_by ?k_moved_by ?a_aims_in ?l_aims_in ?c_aims_in ?k_aims_in ?a_parts_of ?l_parts_of ?c_parts_of ?k_parts_of ?a_is_any_aim ?l_is_any_aim ?c_is_any_aim ?k_is_any_aim ?a_moved ?l_moved ?c_moved ?k_moved ?a_is_aim ?l_is_aim ?c_is_aim ?k_is_aim ?a_check_aim ?l_check_aim ?c_check_aim ?k_check_aim ?a_holds ?l_holds ?c_holds ?k_holds ?a_is_ascending ?l_is_ascending ?c_is_ascending ?k_is_ascending ?a_is_lot ?l_is_lot ?c_is_lot ?k_is_lot ?a_mask_of ?l_mask_of ?c_mask_of ?k_mask_of ?a_reached ?l_reached ?c_reached ?k_reached ?a__law_word ?l__law_word ?c__law_word ?k__law_word ?a_law ?l_law ?c_law ?k_law ?pg_Hall ?hd_Hall ?po_Hall ?sa_Hall ?mk_Hall ?kc_Hall ?n_Hall_boards ?n_Hall_names ?z_all ?z_any ?z_bool ?z_enumerate ?z_int ?z_isinstance ?z_len ?z_list ?z_max ?z_range ?z_repr ?z_sorted ?z_str ?z_sum ?z_tuple ?z_zip ?gv_LETTERS ?gv_MOST_AIMS ?gv_MOST_BEGUN ?gv_MOST_BOARDS ?gv_MOST_DEEP ?gv_MOST_LEAST ?gv_MOST_LETTERS ?gv_MOST_MOVED ?gv_MOST_NAME ?gv_MOST_NUMBER ?gv_MOST_PARTS
    (case aC_NoAim => k_is)
    (case bf_NoAim => k_is)
    (case tf_NoAim => k_is)
    (case kc_NoAim => k_is)
    (case xf_NoAim => k_exc)
    (case ic_NoAim => k_is)
    (case aC_NoLot => k_is)
    (case bf_NoLot => k_is)
    (case tf_NoLot => k_is)
    (case kc_NoLot => k_is)
    (case xf_NoLot => k_exc)
    (case aC_NoNumber => k_is)
    (case bf_NoNumber => k_is)
    (case tf_NoNumber => k_is)
    (case kc_NoNumber => k_is)
    (case xf_NoNumber => k_exc)
    (case aC_Hall => k_is)
    (case sf_NoAim_NoAim => first | rfl | k_is)
    (case sf_NoLot_NoAim => first | rfl | k_is)
    (case sf_NoNumber_NoAim => first | rfl | k_is)
    (case a__law_tape => k_is)
    (case l__law_tape => k_is)
    (case c__law_tape => k_is)
    (case k__law_tape => k_is)
    (case a_Hall_keep => k_is)
    (case i_Hall_keep => k_is)
    (case l_Hall_keep => k_is)
    (case c_Hall_keep => k_is)
    (case k_Hall_keep => k_is)
    (case a_is_letters => k_is)
    (case l_is_letters => k_is)
    (case c_is_letters => k_is)
    (case k_is_letters => k_is)
    (case a_is_name => k_is)
    (case l_is_name => k_is)
    (case c_is_name => k_is)
    (case k_is_name => k_is)
    (case a_is_integer => k_is)
    (case l_is_integer => k_is)
    (case c_is_integer => k_is)
    (case k_is_integer => k_is)
    (case a_is_within => k_is)
    (case l_is_within => k_is)
    (case c_is_within => k_is)
    (case k_is_within => k_is)
    (case a_is_word => k_is)
    (case l_is_word => k_is)
    (case c_is_word => k_is)
    (case k_is_word => k_is)
    (case a_is_words => k_is)
    (case l_is_words => k_is)
    (case c_is_words => k_is)
    (case k_is_words => k_is)
    (case a_is_board => k_is)
    (case l_is_board => k_is)
    (case c_is_board => k_is)
    (case k_is_board => k_is)
    (case a_Hall_init => k_is)
    (case i_Hall_init => k_is)
    (case l_Hall_init => k_is)
    (case c_Hall_init => k_is)
    (case k_Hall_init => k_is)
    (case a__law_pick => k_is)
    (case l__law_pick => k_is)
    (case c__law_pick => k_is)
    (case k__law_pick => k_is)
    (case a__law_aim => k_is)
    (case l__law_aim => k_is)
    (case c__law_aim => k_is)
    (case k__law_aim => k_is)
    (case a__law_some => k_is)
    (case l__law_some => k_is)
    (case c__law_some => k_is)
    (case k__law_some => k_is)
    (case a__law_bent => k_is)
    (case l__law_bent => k_is)
    (case c__law_bent => k_is)
    (case k__law_bent => k_is)
    (case a__law_int => k_is)
    (case l__law_int => k_is)
    (case c__law_int => k_is)
    (case k__law_int => k_is)
    (case a__law_measure => k_is)
    (case l__law_measure => k_is)
    (case c__law_measure => k_is)
    (case k__law_measure => k_is)
    (case a__law_is_aim => k_is)
    (case l__law_is_aim => k_is)
    (case c__law_is_aim => k_is)
    (case k__law_is_aim => k_is)
    (case a__law_flag => k_is)
    (case l__law_flag => k_is)
    (case c__law_flag => k_is)
    (case k__law_flag => k_is)
    (case a_check_number => k_is)
    (case l_check_number => k_is)
    (case c_check_number => k_is)
    (case k_check_number => k_is)
    (case a_moved_by => k_is)
    (case l_moved_by => k_is)
    (case c_moved_by => k_is)
    (case k_moved_by => k_is)
    (case a_aims_in => k_is)
    (case l_aims_in => k_is)
    (case c_aims_in => k_is)
    (case k_aims_in => k_is)
    (case a_parts_of => k_is)
    (case l_parts_of => k_is)
    (case c_parts_of => k_is)
    (case k_parts_of => k_is)
    (case a_is_any_aim => k_is)
    (case l_is_any_aim => k_is)
    (case c_is_any_aim => k_is)
    (case k_is_any_aim => k_is)
    (case a_moved => k_is)
    (case l_moved => k_is)
    (case c_moved => k_is)
    (case k_moved => k_is)
    (case a_is_aim => k_is)
    (case l_is_aim => k_is)
    (case c_is_aim => k_is)
    (case k_is_aim => k_is)
    (case a_check_aim => k_is)
    (case l_check_aim => k_is)
    (case c_check_aim => k_is)
    (case k_check_aim => k_is)
    (case a_holds => k_is)
    (case l_holds => k_is)
    (case c_holds => k_is)
    (case k_holds => k_is)
    (case a_is_ascending => k_is)
    (case l_is_ascending => k_is)
    (case c_is_ascending => k_is)
    (case k_is_ascending => k_is)
    (case a_is_lot => k_is)
    (case l_is_lot => k_is)
    (case c_is_lot => k_is)
    (case k_is_lot => k_is)
    (case a_mask_of => k_is)
    (case l_mask_of => k_is)
    (case c_mask_of => k_is)
    (case k_mask_of => k_is)
    (case a_reached => k_is)
    (case l_reached => k_is)
    (case c_reached => k_is)
    (case k_reached => k_is)
    (case a__law_word => k_is)
    (case l__law_word => k_is)
    (case c__law_word => k_is)
    (case k__law_word => k_is)
    (case a_law => k_is)
    (case l_law => k_is)
    (case c_law => k_is)
    (case k_law => k_is)
    (case pg_Hall => k_is)
    (case hd_Hall => k_is)
    (case po_Hall => k_is)
    (case sa_Hall => k_is)
    (case mk_Hall => k_is)
    (case kc_Hall => k_is)
    (case n_Hall_boards => k_is)
    (case n_Hall_names => k_is)
    (case z_all => k_is)
    (case z_any => k_is)
    (case z_bool => k_is)
    (case z_enumerate => k_is)
    (case z_int => k_is)
    (case z_isinstance => k_is)
    (case z_len => k_is)
    (case z_list => k_is)
    (case z_max => k_is)
    (case z_range => k_is)
    (case z_repr => k_is)
    (case z_sorted => k_is)
    (case z_str => k_is)
    (case z_sum => k_is)
    (case z_tuple => k_is)
    (case z_zip => k_is)
    (case gv_LETTERS => k_is)
    (case gv_MOST_AIMS => k_is)
    (case gv_MOST_BEGUN => k_is)
    (case gv_MOST_BOARDS => k_is)
    (case gv_MOST_DEEP => k_is)
    (case gv_MOST_LEAST => k_is)
    (case gv_MOST_LETTERS => k_is)
    (case gv_MOST_MOVED => k_is)
    (case gv_MOST_NAME => k_is)
    (case gv_MOST_NUMBER => k_is)
    (case gv_MOST_PARTS => k_is)
