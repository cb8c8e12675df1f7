import PyProof.Rows.All
import Wide.All
import OpenK.AllK
import Wide.FinOn
import HandS.ForMost
import HandS.Walk
import HandS.More
import HandS.DictComp
import HandS.TupLen
import KE.KeyNested
import KE.KDictKeyed
import HandS.ForExc
import HandS.Flow
import HandS.CallSlots
import HandS.IsInst
import HandS.TupAny
import HandS.TupMul
import HandS.TupLe
import HandS.Style
import HandS.Conv
import HandS.Deep
import HandS.Zip
import HandS.ExcInit
import HandS.Strs
import HandS.SetKeys
import HandS.WideBits
import KE.LtData
import KE.SortData
import KE.GoesEnum
import KE.GoesMore
import HandS.Iter
import KE.LtSeq
import KE.SortCalls
import HandS.TryMany
import HandS.Dict
import HandS.Text
import KE.KDictSum
import KE.KDictCopyH
import HandS.ExcOwn
import HandS.ExcValue
import KE.KDictDisplayH
import KE.KDictList
import HandS.ExcField
import HandS.ExcIs
import PyProof.ReprRoads
import PyProof.CallFns
import PyProof.StrBlock2
import KE.DataMinMax
import HandS.Finally
import PySem.Challenge.RW_untoldgames_k45_whole_copying_moves
set_option Elab.async false
set_option linter.all false
set_option maxRecDepth 100000
set_option maxHeartbeats 4000000
namespace ND
open PySem PySem.Spec PyProof.Rows L2
mutual
def KAt (H : Hp) : NestedKey → V → Prop
  | .none, v => v = .non
  | .num i, v => v = .int i
  | .text x, v => v = .str x ∧ x.length ≤ sizeLine ∧ PyData.strOk x = true
  | .tup ks, v => ∃ a vs, v = .ref a ∧ H a = some (.tup vs) ∧ vs.length ≤ sizeLine ∧ KAtL H ks vs
def KAtL (H : Hp) : List NestedKey → List V → Prop
  | [], vs => vs = []
  | k :: ks, vs => ∃ v r, vs = v :: r ∧ KAt H k v ∧ KAtL H ks r
end
mutual
theorem KAt.mono {H H' : Hp} (h : ∀ b xs, H b = some (.tup xs) → H' b = some (.tup xs)) : ∀ (k : NestedKey) {v : V}, KAt H k v → KAt H' k v
  | .none, _, r => by simpa [KAt] using r
  | .num i, _, r => by simpa [KAt] using r
  | .text x, _, r => by simpa [KAt] using r
  | .tup ks, _, r => by
    simp only [KAt] at r ⊢
    obtain ⟨a, vs, e, ha, l, q⟩ := r
    exact ⟨a, vs, e, h _ _ ha, l, KAtL.mono h ks q⟩
theorem KAtL.mono {H H' : Hp} (h : ∀ b xs, H b = some (.tup xs) → H' b = some (.tup xs)) : ∀ (ks : List NestedKey) {vs : List V}, KAtL H ks vs → KAtL H' ks vs
  | [], _, r => by simpa [KAtL] using r
  | k :: ks, _, r => by
    simp only [KAtL] at r ⊢
    obtain ⟨v, t, e, a, b⟩ := r
    exact ⟨v, t, e, KAt.mono h k a, KAtL.mono h ks b⟩
end
mutual
theorem KAt.is {P : Program} {w : World} {H : Hp} {h : Heap} (ok : HOk P w H h) : ∀ (k : NestedKey) {v : V} {u : Value}, KAt H k v → RelV v u → NestedIs h k u
  | .none, _, _, r, q => by
    simp only [KAt] at r; subst r
    obtain rfl : _ = Value.none := q
    exact .none
  | .num i, _, _, r, q => by
    simp only [KAt] at r; subst r
    obtain ⟨t, rfl⟩ := (show ∃ t, _ = Value.int i t from q)
    exact .int i t
  | .text x, _, _, r, q => by
    simp only [KAt] at r; obtain ⟨rfl, _⟩ := r
    obtain ⟨t, rfl⟩ := (show ∃ t, _ = Value.str x t from q)
    exact .text x t
  | .tup ks, _, _, r, q => by
    simp only [KAt] at r
    obtain ⟨a, vs, rfl, ha, _, l⟩ := r
    obtain rfl : _ = Value.ref a := q
    obtain ⟨_, its, rv, o, h1, h2, n, h3⟩ := (show ObjOk P w H h a (.tup vs) from ok a _ ha)
    exact .tup h1 h2 h3 (by simpa using KAtL.is ok ks l rv)
theorem KAtL.is {P : Program} {w : World} {H : Hp} {h : Heap} (ok : HOk P w H h) : ∀ (ks : List NestedKey) {vs : List V} {us : List Value}, KAtL H ks vs → Vals vs us → NestedAll h ks us
  | [], _, _, r, q => by
    simp only [KAtL] at r; subst r; cases q; exact .nil
  | k :: ks, _, _, r, q => by
    simp only [KAtL] at r
    obtain ⟨v, t, rfl, a, b⟩ := r
    cases q with | cons q1 q2 => exact .cons (KAt.is ok k a q1) (KAtL.is ok ks b q2)
end
abbrev NL := List (List NestedKey × Addr × V)
def NPair : NL → List (NestedKey × Addr × Value) → Prop := Paired fun p q => .tup p.1 = q.1 ∧ p.2.1 = q.2.1 ∧ RelV p.2.2 q.2.2
def dN (P : Program) (w : World) (a : Addr) (l : NL) : HO := .ext fun h => l.length ≤ sizeLine ∧ (a == sysModules) = false ∧ ∃ xs, NPair l xs ∧
  ∃ o es ep, h.get? a = some o ∧ o.ExactDict ∧ o.data = .dict es ep ∧ es.toList = xs.map (entryOfKey (nestedKind P w)) ∧ (xs.map (·.1)).Nodup
def KsAt (H : Hp) (l : NL) : Prop := ∀ p ∈ l, KAt H (.tup p.1) (.ref p.2.1) ∧ (NestedKey.tup p.1).depth ≤ 8
theorem KsAt.mono {H H' : Hp} {l : NL} (h : ∀ b xs, H b = some (.tup xs) → H' b = some (.tup xs)) (k : KsAt H l) : KsAt H' l := fun p hp => ⟨(k p hp).1.mono h _, (k p hp).2⟩
def nkv (l : NL) : List (List NestedKey × V) := l.map fun p => (p.1, p.2.2)
theorem NPair.val {l : NL} {xs : List (NestedKey × Addr × Value)} (r : NPair l xs) (k : List NestedKey) : RelO (valV (nkv l) k) ((atKey xs (.tup k)).map (·.2)) := by
  unfold NPair at r
  induction r with
  | nil => exact True.intro
  | @cons p q ps qs h t ih =>
    obtain ⟨h1, _, h2⟩ := h
    by_cases e : p.1 = k
    · have e' : q.1 = .tup k := h1.symm.trans (by rw [e])
      have b : atKey (q :: qs) (.tup k) = some q.2 := by simp [atKey, List.find?_cons, e']
      show RelO (valV ((p.1, p.2.2) :: nkv ps) k) _
      rw [valV_pos e, b]; exact h2
    · have e' : ¬ q.1 = .tup k := fun z => e (by have := h1.trans z; injection this)
      have b : atKey (q :: qs) (.tup k) = atKey qs (.tup k) := by simp [atKey, List.find?_cons, e']
      show RelO (valV ((p.1, p.2.2) :: nkv ps) k) _
      rw [valV_neg e, b]; exact ih
def putN (l : NL) (k : List NestedKey) (b : Addr) (v : V) : NL := if l.any (fun p => decide (p.1 = k)) = true then l.map fun p => if p.1 = k then (p.1, p.2.1, v) else p else l ++ [(k, b, v)]
theorem putN_ne {l : NL} {k : List NestedKey} {b : Addr} {v : V} : putN l k b v ≠ [] := by
  unfold putN
  split
  · rename_i h
    cases l with
    | nil => cases h
    | cons a b => simp
  · simp
theorem putN_len (l : NL) (k : List NestedKey) (b : Addr) (v : V) : (putN l k b v).length ≤ l.length + 1 := by
  unfold putN
  split
  · rw [List.length_map]; omega
  · rw [List.length_append]; simp
theorem NPair.put {l : NL} {xs : List (NestedKey × Addr × Value)} (r : NPair l xs) (k : List NestedKey) {b : Addr} {y : V} {u : Value} (ry : RelV y u) : NPair (putN l k b y) (storedH xs (.tup k) b u) := by
  have e : l.any (fun p => decide (p.1 = k)) = (atKey xs (.tup k)).isSome := by
    have h := (r.val k).isSome_eq
    rw [Option.isSome_map] at h
    rw [← h, ← valV_any]
    unfold nkv
    rw [List.any_map]; rfl
  unfold putN storedH
  rw [e]
  by_cases q : (atKey xs (.tup k)).isSome = true
  · rw [if_pos q, if_pos q]
    clear e q
    unfold NPair at *
    induction r with
    | nil => exact .nil
    | @cons p q ps qs h t ih =>
      rw [List.map_cons, List.map_cons]
      refine .cons ?_ ih
      obtain ⟨h1, h2, h3⟩ := h
      unfold putAt
      by_cases e : p.1 = k
      · rw [if_pos e, if_pos (h1.symm.trans (by rw [e]))]; exact ⟨h1, h2, ry⟩
      · rw [if_neg e, if_neg (fun z => e (by have := h1.trans z; injection this))]; exact ⟨h1, h2, h3⟩
  · rw [if_neg q, if_neg q]; exact Paired.snoc r ⟨rfl, rfl, ry⟩
theorem KsAt.put {H : Hp} {l : NL} {k : List NestedKey} {b : Addr} {v : V} (h : KsAt H l) (hk : KAt H (.tup k) (.ref b)) (hd : (NestedKey.tup k).depth ≤ 8) : KsAt H (putN l k b v) := by
  unfold putN
  split
  · intro p hp
    obtain ⟨q, hq, rfl⟩ := List.mem_map.mp hp
    have := h q hq
    split <;> exact this
  · intro p hp
    rcases List.mem_append.mp hp with hp | hp
    · exact h p hp
    · rw [List.mem_singleton.mp hp]; exact ⟨hk, hd⟩
section
variable {P : Program} {w : World} {H : Hp} {h : Heap} {a : Addr} {l : NL}
theorem dn_rd (ok : HOk P w H h) (e : Rd H a (dN P w a l)) (hk : KsAt H l) : l.length ≤ sizeLine ∧ (a == sysModules) = false ∧ ∃ xs, NPair l xs ∧ h.DictOfH (nestedKind P w) a xs := by
  obtain ⟨⟨z, y, xs, r, o, es, ep, h1, h2, h3, h4, h5⟩, _⟩ := (show ObjOk P w H h a (dN P w a l) from rd_of ok e)
  refine ⟨z, y, xs, r, o, es, ep, h1, h2, h3, h4, fun x hx => ?_, h5⟩
  have all : ∀ {l : NL} {m : List (NestedKey × Addr × Value)}, NPair l m → KsAt H l → ∀ x ∈ m, (nestedKind P w).is h x.1 x.2.1 := by
    intro l m q
    unfold NPair at q
    induction q with
    | nil => intro _ x hx; exact nomatch hx
    | @cons p q ps qs hq t ih =>
      intro ka x hx
      rcases List.mem_cons.mp hx with e | hx
      · subst e
        obtain ⟨g1, g2⟩ := ka p List.mem_cons_self
        rw [← hq.1, ← hq.2.1]
        exact ⟨g1.is ok _ rfl, g2⟩
      · exact ih (fun p hp => ka p (List.mem_cons_of_mem _ hp)) x hx
  exact all r hk x hx
theorem dn_new {H' : Hp} {h' : Heap} {xs : List (NestedKey × Addr × Value)} (z : l.length ≤ sizeLine) (hd : (a == sysModules) = false) (rel : NPair l xs) (dd : h'.DictOfH (nestedKind P w) a xs) : ObjOk P w H' h' a (dN P w a l) := by
  obtain ⟨o, es, ep, h1, h2, h3, h4, _, h5⟩ := dd
  exact ⟨⟨z, hd, xs, rel, o, es, ep, h1, h2, h3, h4, h5⟩, ⟨o, h1⟩, fun _ _ ⟨z, hd, xs, r, o, es, ep, e, q⟩ k => ⟨z, hd, xs, r, o, es, ep, k _ e, q⟩⟩
theorem dn_empty (ok : HOk P w H h) (e : Rd H a (.dK [])) : (a == sysModules) = false ∧ h.DictOfH (nestedKind P w) a [] := by
  obtain ⟨_, hd, vs, r, o, es, ep, h1, h2, h3, h4, h5, h6⟩ := (show ObjOk P w H h a (.dK []) from rd_of ok e)
  cases r
  have hes : es.toList = [] := by
    have := h5.length
    exact List.length_eq_zero_iff.mp this
  exact ⟨hd, o, es, ep, h1, h2, h3, by rw [hes]; rfl, fun x hx => (List.not_mem_nil hx).elim, List.nodup_nil⟩
end
def NGet (P : Program) (w : World) (H : Hp) (a : Addr) (y : V) (r : Option V) : Prop := ∃ k, KAt H (.tup k) y ∧ (NestedKey.tup k).depth ≤ 8 ∧
  ((∃ l, Rd H a (dN P w a l) ∧ KsAt H l ∧ r = valV (nkv l) k) ∨ (Rd H a (.dK []) ∧ r = none))
section
variable {X : Cx} {pins : List (Addr × Obj)} {σ : L2.St} {H : Hp} {s : Shared} {a : Addr} {y v : V} {u r : Value} {o : Option V} {A : Around} {E : Value → Shared → Prop}
theorem NGet.at (I : Inv X pins σ H s) (g : NGet X.prog X.w H a y o) (ry : RelV y u) : ∃ b k xs, u = .ref b ∧ (nestedKind X.prog X.w).is s.heap (.tup k) b ∧ (a == sysModules) = false ∧ s.heap.DictOfH (nestedKind X.prog X.w) a xs ∧ RelO o ((atKey xs (.tup k)).map (·.2)) := by
  obtain ⟨k, hk, hd, g⟩ := g
  have hk2 := hk
  simp only [KAt] at hk2
  obtain ⟨b, vs, rfl, hb, _⟩ := hk2
  obtain rfl : u = Value.ref b := ry
  have ki : (nestedKind X.prog X.w).is s.heap (.tup k) b := ⟨hk.is I.hok _ rfl, hd⟩
  rcases g with ⟨l, rd, ka, rfl⟩ | ⟨rd, rfl⟩
  · obtain ⟨z, hs, xs, rel, dd⟩ := dn_rd I.hok rd ka
    exact ⟨b, k, xs, rfl, ki, hs, dd, rel.val k⟩
  · obtain ⟨hs, dd⟩ := dn_empty I.hok rd
    exact ⟨b, k, [], rfl, ki, hs, dd, trivial⟩
theorem NGet.type (I : Inv X pins σ H s) (g : NGet X.prog X.w H a y o) (ry : RelV y u) : s.TypeIs (.ref a) "dict" := by
  obtain ⟨b, k, xs, _, _, _, dd, _⟩ := g.at I ry
  exact dd.typeIs
theorem n_getItem {Q : Value → Shared → Prop} (hu : A.units + 9 < cLine) (I : Inv X pins σ H s) (g : NGet X.prog X.w H a y (some v)) (ry : RelV y u) (h : ∀ w' s', Inv X pins σ H s' → RelV v w' → Q w' s') :
    wpAny (model X.prog X.w) A (getItem (.ref a) u) Q E s := by
  obtain ⟨b, k, xs, rfl, ki, hs, dd, rel⟩ := g.at I ry
  obtain ⟨w', hw, rw'⟩ := RelO.some_of (v := v) (o := (atKey xs (.tup k)).map (·.2)) rel
  obtain ⟨p, hp, hp2⟩ := Option.map_eq_some_iff.mp hw
  refine wpAny_getItem_heap (by show A.in1.units + 8 < cLine; rw [Around.in1_units]; omega) ki dd hp ?_
  rw [hp2]
  exact h w' _ (I.tok _) rw'
theorem n_in {Q : Value → Shared → Prop} (hu : A.units + 9 < cLine) (I : Inv X pins σ H s) (g : NGet X.prog X.w H a y o) (ry : RelV y u) (h : ∀ s', Inv X pins σ H s' → Q (.bool o.isSome) s') :
    wpAny (model X.prog X.w) A (compareOp .In u (.ref a)) Q E s := by
  obtain ⟨b, k, xs, rfl, ki, hs, dd, rel⟩ := g.at I ry
  refine wpAny_in_heap (by show A.in1.units + 8 < cLine; rw [Around.in1_units]; omega) ki hs dd ?_
  have q := rel.isSome_eq
  rw [Option.isSome_map] at q
  rw [← q]
  exact h _ (I.tok _)
theorem n_notIn {Q : Value → Shared → Prop} (hu : A.units + 9 < cLine) (I : Inv X pins σ H s) (g : NGet X.prog X.w H a y o) (ry : RelV y u) (h : ∀ s', Inv X pins σ H s' → Q (.bool (!o.isSome)) s') :
    wpAny (model X.prog X.w) A (compareOp .NotIn u (.ref a)) Q E s := by
  obtain ⟨b, k, xs, rfl, ki, hs, dd, rel⟩ := g.at I ry
  show wpAny _ _ (do return .bool (!(← contains (.ref a) (.ref b)))) Q E s
  refine wpAny_bind (wpAny_contains_heap (by show A.in1.units + 8 < cLine; rw [Around.in1_units]; omega) ki hs dd (wpAny_pure ?_))
  have q := rel.isSome_eq
  rw [Option.isSome_map] at q
  rw [← q]
  exact h _ (I.tok _)
def NPut (P : Program) (w : World) (H : Hp) (a : Addr) (y v : V) (H' : Hp) : Prop := ∃ k b l, y = .ref b ∧ KAt H (.tup k) y ∧ (NestedKey.tup k).depth ≤ 8 ∧ l.length < sizeLine ∧
  ((H a = some (dN P w a l) ∧ KsAt H l) ∨ (H a = some (.dK []) ∧ l = [])) ∧ H' = upd H a (dN P w a (putN l k b v))
theorem NPut.at {H' : Hp} (I : Inv X pins σ H s) (g : NPut X.prog X.w H a y v H') (ry : RelV y u) : ∃ b k l xs, u = .ref b ∧ (nestedKind X.prog X.w).is s.heap (.tup k) b ∧ (a == sysModules) = false ∧ s.heap.DictOfH (nestedKind X.prog X.w) a xs ∧ NPair l xs ∧ l.length < sizeLine ∧ Mut (H a) ∧
    H' = upd H a (dN X.prog X.w a (putN l k b v)) := by
  obtain ⟨k, b, l, rfl, hk, hd, hl, g, eH⟩ := g
  obtain rfl : u = Value.ref b := ry
  have ki : (nestedKind X.prog X.w).is s.heap (.tup k) b := ⟨hk.is I.hok _ rfl, hd⟩
  rcases g with ⟨e, ka⟩ | ⟨e, rfl⟩
  · obtain ⟨z, hs, xs, rel, dd⟩ := dn_rd I.hok (.inl e) ka
    exact ⟨b, k, l, xs, rfl, ki, hs, dd, rel, hl, by rw [e]; exact True.intro, eH⟩
  · obtain ⟨hs, dd⟩ := dn_empty I.hok (.inl e)
    exact ⟨b, k, [], [], rfl, ki, hs, dd, .nil, hl, by rw [e]; exact True.intro, eH⟩
theorem n_setItem {H' : Hp} {Q : Unit → Shared → Prop} (hu : A.units + 9 < cLine) (I : Inv X pins σ H s) (g : NPut X.prog X.w H a y v H') (ry : RelV y u) (rv : RelV v r) (h : ∀ s', Inv X pins σ H' s' → Q () s') :
    wpAny (model X.prog X.w) A (setItem (.ref a) u r) Q E s := by
  obtain ⟨b, k, l, xs, rfl, ki, hs, dd, rel, hl, mu, rfl⟩ := g.at I ry
  have hz : xs.length ≤ sizeLine := by rw [← Paired.length rel]; omega
  have hl : (putN l k b v).length ≤ sizeLine := by have := putN_len l k b v; omega
  refine wpAny_setItem_heap (hsz := hz) (by show A.in1.units + 8 < cLine; rw [Around.in1_units]; omega) ki dd fun h' dd' hs' => h _ ?_
  have he : ∃ q, h'.get? a = some q := let ⟨q, _, _, hq, _⟩ := dd'; ⟨q, hq⟩
  exact d_write I mu hs' he (dn_new hl hs (rel.put k rv) dd')
end
section
variable {X : Cx} {o i value : Expr} {td ty tv : TE} {pos pos' : Pos}
theorem len_dN : CallR X (.builtin "len") (fun xs H Q => ∃ a l, xs = [V.ref a] ∧ Rd H a (dN X.prog X.w a l) ∧ KsAt H l ∧ Q (.int (l.length : Nat)) H) := by
  intro pins s σ H xs us Q I r h
  obtain ⟨a, l, rfl, ha, ka, q⟩ := h
  obtain ⟨u, rfl, ru⟩ := vals1 r
  cases ru
  obtain ⟨z, hd, xs, rel, dd⟩ := dn_rd I.hok ha ka
  have hl := Paired.length rel
  refine PySem.call_len_dictH hd dd (by rw [← hl]; rw [sizeLine_eq] at z; omega) ?_
  rw [← hl]
  exact ⟨.int ((l.length : Nat) : Int), H, I.tok _, ⟨_, rfl⟩, q⟩
theorem n_dictSet {pins : List (Addr × Obj)} {σ : L2.St} {H H' : Hp} {s : Shared} {E : Value → Shared → Prop} {a : Addr} {y v : V} {u r : Value} {Q : Unit → Shared → Prop} (hu : X.A.units + 8 < cLine) (I : Inv X pins σ H s) (g : NPut X.prog X.w H a y v H') (ry : RelV y u) (rv : RelV v r) (h : ∀ s', Inv X pins σ H' s' → Q () s') :
    wpAny (model X.prog X.w) X.A (dictSet a u r) Q E s := by
  obtain ⟨b, k, l, xs, rfl, ki, hs, dd, rel, hl, mu, rfl⟩ := g.at I ry
  have hz : xs.length ≤ sizeLine := by rw [← Paired.length rel]; omega
  have hl : (putN l k b v).length ≤ sizeLine := by have := putN_len l k b v; omega
  refine wpAny_dictSet_heap (hsz := hz) (by show X.A.units + 8 < cLine; omega) ki dd fun h' dd' hs' => h _ ?_
  have he : ∃ q, h'.get? a = some q := let ⟨q, _, _, hq, _⟩ := dd'; ⟨q, hq⟩
  exact d_write I mu hs' he (dn_new hl hs (rel.put k rv) dd')
end
end ND
namespace DN
open PySem PySem.Spec PyProof.Rows L2 ND
inductive D where
  | non | bl (b : Bool) | int (i : Int) | str (x : Str)
  | tup (xs : List D) | lst (xs : List D) | dct (ks vs : List D)
  | ins (c : Str) (vs : List D) | ref (a : Addr)
structure CTab where
  tab : Str → Option (Addr × List Str)
  P : Program
  w : World
instance : CoeFun CTab (fun _ => Str → Option (Addr × List Str)) := ⟨CTab.tab⟩
def KeyOk1 : Key → Prop
  | .inl _ => True
  | .inr x => x.length ≤ sizeLine ∧ PyData.strOk x = true
abbrev GK := Sum Key (List NestedKey)
def KeyOk : GK → Prop
  | .inl k => KeyOk1 k
  | .inr _ => True
def KNd (kvs : List (GK × V)) : Prop := (kvs.map (·.1)).Nodup ∧ ∀ p ∈ kvs, KeyOk p.1
def keyD1 : Key → D
  | .inl i => .int i
  | .inr x => .str x
mutual
def keyDN : NestedKey → D
  | .none => .non
  | .num i => .int i
  | .text x => .str x
  | .tup ks => .tup (keyDNs ks)
def keyDNs : List NestedKey → List D
  | [] => []
  | k :: ks => keyDN k :: keyDNs ks
end
def keyD : GK → D
  | .inl k => keyD1 k
  | .inr ks => .tup (keyDNs ks)
def DKV (cl : CTab) (Z : Hp) (a : Addr) (o : HO) (kvs : List (GK × V)) : Prop := (∃ l : List (Key × V), o = .dK l ∧ kvs = l.map fun p => (.inl p.1, p.2)) ∨ ∃ l : NL, l ≠ [] ∧ o = dN cl.P cl.w a l ∧ kvs = l.map (fun p => (.inr p.1, p.2.2)) ∧ KsAt Z l
theorem DKV.mono {cl : CTab} {Z Z' : Hp} {a : Addr} {o : HO} {kvs : List (GK × V)} (h : ∀ b xs, Z b = some (.tup xs) → Z' b = some (.tup xs)) (d : DKV cl Z a o kvs) : DKV cl Z' a o kvs := by
  rcases d with d | ⟨l, h1, h2, h3, h4⟩
  · exact .inl d
  · exact .inr ⟨l, h1, h2, h3, h4.mono h⟩
structure Zp where
  h : Hp
  μ : Nat → Option Addr
instance : CoeFun Zp (fun _ => Addr → Option HO) := ⟨Zp.h⟩
instance : Coe Zp Hp := ⟨Zp.h⟩
def upz (Z : Zp) (p : Addr) (o : HO) : Zp := ⟨upd Z.h p o, Z.μ⟩
theorem upz_same {Z : Zp} {a : Addr} {o : HO} : upz Z a o a = some o := upd_same
theorem upz_ne {Z : Zp} {a b : Addr} {o : HO} (h : b ≠ a) : upz Z a o b = Z b := upd_ne h
abbrev RdN (H : Hp) (a : Addr) (o : HO) (_ : List (GK × V)) : Prop := Rd H a o
theorem RdN.rd {H : Hp} {a : Addr} {o : HO} {kvs : List (GK × V)} (h : RdN H a o kvs) : Rd H a o := h
def SqR (K : PySem.W.Frag) (H : Hp) (a : Addr) (xs : List V) : Prop :=
  Rd H a (.lst xs) ∨ ∃ (its : Array Value) (n : Nat), K.lookup a = some { cls := .type "list", data := .seq its n } ∧ its.size ≤ sizeLine ∧ Vals xs its.toList
theorem SqR.of {K : PySem.W.Frag} {H : Hp} {a : Addr} {xs : List V} (h : H a = some (.lst xs)) : SqR K H a xs := .inl (.inl h)
theorem SqR.l {K : PySem.W.Frag} {H : Hp} {a : Addr} {xs : List V} (h : SqR K H a xs) : SqL K H a xs := by
  rcases h with h | ⟨its, n, h1, h2, h3⟩
  · exact .inl h
  · exact .inr ⟨_, its, n, h1, rfl, rfl, rfl, h2, h3⟩
mutual
inductive Rep (K : PySem.W.Frag) (cl : CTab) (Z : Zp) : V → D → Prop
  | non : Rep K cl Z .non .non
  | bl (b : Bool) : Rep K cl Z (.bl b) (.bl b)
  | int (i : Int) : Rep K cl Z (.int i) (.int i)
  | str {x : Str} : x.length ≤ sizeLine → PyData.strOk x = true → Rep K cl Z (.str x) (.str x)
  | tup {a : Addr} {vs : List V} {ds : List D} : Z a = some (.tup vs) → vs.length ≤ sizeLine → RepL K cl Z vs ds → Rep K cl Z (.ref a) (.tup ds)
  | slst {a : Addr} {vs : List V} {ds : List D} : SqR K Z.h a vs → vs.length ≤ sizeLine → RepL K cl Z vs ds → Rep K cl Z (.ref a) (.lst ds)
  | dct {a : Addr} {o : HO} {kvs : List (GK × V)} {ks ds : List D} : RdN Z.h a o kvs → DKV cl Z.h a o kvs → ks = kvs.map (fun p => keyD p.1) → KNd kvs → RepL K cl Z (kvs.map (·.2)) ds → Rep K cl Z (.ref a) (.dct ks ds)
  | ins {a C dx : Addr} {fs : List (Str × V)} {c : Str} {ds : List D} : cl c = some (C, fs.map (·.1)) → Z a = some (.ins C dx fs) → RepL K cl Z (fs.map (·.2)) ds → Rep K cl Z (.ref a) (.ins c ds)
  | ref {n : Nat} {a : Addr} : Z.μ n = some a → Rep K cl Z (.ref a) (.ref n)
inductive RepL (K : PySem.W.Frag) (cl : CTab) (Z : Zp) : List V → List D → Prop
  | nil : RepL K cl Z [] []
  | cons {v : V} {vs : List V} {d : D} {ds : List D} : Rep K cl Z v d → RepL K cl Z vs ds → RepL K cl Z (v :: vs) (d :: ds)
end
def Sub (Z Z' : Hp) : Prop := ∀ a o, Z a = some o → Z' a = some o
theorem Sub.refl (Z : Hp) : Sub Z Z := fun _ _ h => h
theorem Sub.trans {A B C : Hp} (a : Sub A B) (b : Sub B C) : Sub A C := fun x o h => b x o (a x o h)
theorem SqR.sub {K : PySem.W.Frag} {H H' : Hp} {a : Addr} {xs : List V} (s : Sub H H') (h : SqR K H a xs) : SqR K H' a xs := by
  rcases h with (h | ⟨o, h⟩) | h
  · exact .inl (.inl (s _ _ h))
  · exact .inl (.inr ⟨o, s _ _ h⟩)
  · exact .inr h
theorem SqR.at {K : PySem.W.Frag} {H H' : Hp} {a : Addr} {xs : List V} (s : ∀ o, (o = .lst xs ∨ ∃ q, o = .frz q (.lst xs)) → H a = some o → H' a = some o) (h : SqR K H a xs) : SqR K H' a xs := by
  rcases h with (h | ⟨o, h⟩) | h
  · exact .inl (.inl (s _ (.inl rfl) h))
  · exact .inl (.inr ⟨o, s _ (.inr ⟨o, rfl⟩) h⟩)
  · exact .inr h
theorem SqL.sub {K : PySem.W.Frag} {H H' : Hp} {a : Addr} {xs : List V} (s : Sub H H') (h : SqR K H a xs) : SqL K H' a xs := (h.sub s).l
theorem Rep.lst {K : PySem.W.Frag} {cl : CTab} {Z : Zp} {a : Addr} {vs : List V} {ds : List D} (h : Z a = some (.lst vs)) (hl : vs.length ≤ sizeLine) (r : RepL K cl Z vs ds) : Rep K cl Z (.ref a) (.lst ds) := .slst (.of h) hl r
theorem Sub.upd {Z : Hp} {p : Addr} {o : HO} (h : Z p = none) : Sub Z (upd Z p o) := fun a u e => by
  rw [upd_ne (ne_of_none e h)]; exact e
structure SubZ (Z Z' : Zp) : Prop where
  h : Sub Z.h Z'.h
  m : ∀ n a, Z.μ n = some a → Z'.μ n = some a
instance {Z Z' : Zp} : CoeFun (SubZ Z Z') (fun _ => ∀ a o, Z.h a = some o → Z'.h a = some o) := ⟨fun q => q.h⟩
theorem SubZ.refl (Z : Zp) : SubZ Z Z := ⟨.refl _, fun _ _ h => h⟩
theorem SubZ.trans {A B C : Zp} (a : SubZ A B) (b : SubZ B C) : SubZ A C := ⟨a.h.trans b.h, fun n x h => b.m n x (a.m n x h)⟩
theorem SubZ.upd {Z : Zp} {p : Addr} {o : HO} (h : Z p = none) : SubZ Z (upz Z p o) := ⟨Sub.upd h, fun _ _ h => h⟩
theorem SubZ.to {Z Z' : Zp} {H : Hp} (a : SubZ Z Z') (b : Sub Z'.h H) : Sub Z.h H := a.h.trans b
def immO : HO → Bool
  | .tup _ => true
  | .ins _ _ _ => true
  | .own _ => true
  | .xd _ => true
  | .met _ _ => true
  | .rng _ _ => true
  | .tbl _ => true
  | .frz _ u => immO u
  | _ => false
structure SubI (Z Z' : Zp) : Prop where
  h : ∀ a o, immO o = true → Z.h a = some o → Z'.h a = some o
  m : Z'.μ = Z.μ
theorem SubZ.imm {Z Z' : Zp} (h : SubZ Z Z') (m : Z'.μ = Z.μ) : SubI Z Z' := ⟨fun a o _ e => h.h a o e, m⟩
theorem SubI.refl (Z : Zp) : SubI Z Z := ⟨fun _ _ _ e => e, rfl⟩
theorem SubI.trans {A B C : Zp} (a : SubI A B) (b : SubI B C) : SubI A C := ⟨fun x o i h => b.h x o i (a.h x o i h), b.m.trans a.m⟩
mutual
def D.imm : D → Bool
  | .tup xs => D.immL xs
  | .lst _ => false
  | .dct _ _ => false
  | .ins _ xs => D.immL xs
  | _ => true
def D.immL : List D → Bool
  | [] => true
  | d :: ds => d.imm && D.immL ds
end
section
variable {K : PySem.W.Frag} {cl : CTab} {Z Z' : Zp}
theorem sub_rd {Z Z' : Hp} (h : Sub Z Z') {a : Addr} {u : HO} (r : Rd Z a u) : Rd Z' a u := by
  rcases r with r | ⟨o, r⟩
  · exact .inl (h _ _ r)
  · exact .inr ⟨o, h _ _ r⟩
theorem sub_rdn {Z Z' : Hp} (h : Sub Z Z') {a : Addr} {u : HO} {kvs : List (GK × V)} (r : RdN Z a u kvs) : RdN Z' a u kvs := sub_rd h r
theorem sq_t {H : Hp} {a : Addr} {xs : List V} (r : H a = some (.tup xs)) : SqT K H a xs := .inl (.inl r)
mutual
theorem Rep.mono (h : SubZ Z Z') : ∀ (d : D) {v : V}, Rep K cl Z v d → Rep K cl Z' v d
  | .non, _, r => by cases r; exact .non
  | .bl b, _, r => by cases r; exact .bl b
  | .int i, _, r => by cases r; exact .int i
  | .str x, _, r => by cases r with | str e f => exact .str e f
  | .tup ds, _, r => by cases r with | tup a e b => exact .tup (h.h _ _ a) e (RepL.mono h ds b)
  | .lst ds, _, r => by cases r with | slst a e b => exact .slst (a.sub h.h) e (RepL.mono h ds b)
  | .dct ks ds, _, r => by cases r with | dct a o e n b => exact .dct (sub_rdn h.h a) (o.mono fun _ _ q => h.h _ _ q) e n (RepL.mono h ds b)
  | .ins c ds, _, r => by cases r with | ins e a b => exact .ins e (h.h _ _ a) (RepL.mono h ds b)
  | .ref a, _, r => by cases r with | ref e => exact .ref (h.m _ _ e)
theorem RepL.mono (h : SubZ Z Z') : ∀ (ds : List D) {vs : List V}, RepL K cl Z vs ds → RepL K cl Z' vs ds
  | [], _, r => by cases r; exact .nil
  | d :: ds, _, r => by cases r with | cons a b => exact .cons (Rep.mono h d a) (RepL.mono h ds b)
end
mutual
theorem Rep.monoI (h : SubI Z Z') : ∀ (d : D) {v : V}, d.imm = true → Rep K cl Z v d → Rep K cl Z' v d
  | .non, _, _, r => by cases r; exact .non
  | .bl b, _, _, r => by cases r; exact .bl b
  | .int i, _, _, r => by cases r; exact .int i
  | .str x, _, _, r => by cases r with | str e f => exact .str e f
  | .tup ds, _, i, r => by cases r with | tup a e b => exact .tup (h.h _ _ rfl a) e (RepL.monoI h ds (by simpa [D.imm] using i) b)
  | .lst ds, _, i, r => by simp [D.imm] at i
  | .dct ks ds, _, i, r => by simp [D.imm] at i
  | .ins c ds, _, i, r => by cases r with | ins e a b => exact .ins e (h.h _ _ rfl a) (RepL.monoI h ds (by simpa [D.imm] using i) b)
  | .ref a, _, _, r => by cases r with | ref e => exact .ref (by rw [h.m]; exact e)
theorem RepL.monoI (h : SubI Z Z') : ∀ (ds : List D) {vs : List V}, D.immL ds = true → RepL K cl Z vs ds → RepL K cl Z' vs ds
  | [], _, _, r => by cases r; exact .nil
  | d :: ds, _, i, r => by
    cases r with
    | cons a b =>
      have i2 : d.imm = true ∧ D.immL ds = true := by simpa [D.immL] using i
      exact .cons (Rep.monoI h d i2.1 a) (RepL.monoI h ds i2.2 b)
end
theorem RepL.len : ∀ {ds : List D} {vs : List V}, RepL K cl Z vs ds → vs.length = ds.length
  | [], _, r => by cases r; rfl
  | d :: ds, _, r => by cases r with | cons a b => simp [RepL.len b]
theorem RepL.get : ∀ {ds : List D} {vs : List V} {i : Nat} {d : D}, RepL K cl Z vs ds → ds[i]? = some d → ∃ v, vs[i]? = some v ∧ Rep K cl Z v d
  | [], _, _, _, r, e => by simp at e
  | d :: ds, _, 0, _, r, e => by
    cases r with | cons a b => simp at e; subst e; exact ⟨_, rfl, a⟩
  | d :: ds, _, i + 1, _, r, e => by
    cases r with | cons a b =>
      obtain ⟨v, h1, h2⟩ := RepL.get (i := i) b (by simpa using e)
      exact ⟨v, by simpa using h1, h2⟩
theorem RepL.getV : ∀ {ds : List D} {vs : List V} {i : Nat} {v : V}, RepL K cl Z vs ds → vs[i]? = some v → ∃ d, ds[i]? = some d ∧ Rep K cl Z v d
  | [], _, _, _, r, e => by cases r; simp at e
  | d :: ds, _, 0, _, r, e => by
    cases r with | cons a b => simp at e; subst e; exact ⟨_, rfl, a⟩
  | d :: ds, _, i + 1, _, r, e => by
    cases r with | cons a b =>
      obtain ⟨v, h1, h2⟩ := RepL.getV (i := i) b (by simpa using e)
      exact ⟨v, by simpa using h1, h2⟩
theorem RepL.append : ∀ {ds es : List D} {vs ws : List V}, RepL K cl Z vs ds → RepL K cl Z ws es → RepL K cl Z (vs ++ ws) (ds ++ es)
  | [], _, _, _, r, s => by cases r; exact s
  | d :: ds, _, _, _, r, s => by cases r with | cons a b => exact .cons a (RepL.append b s)
theorem RepL.take : ∀ {ds : List D} {vs : List V} (n : Nat), RepL K cl Z vs ds → RepL K cl Z (vs.take n) (ds.take n)
  | [], _, n, r => by cases r; simp; exact .nil
  | d :: ds, _, 0, r => by simp; exact .nil
  | d :: ds, _, n + 1, r => by cases r with | cons a b => simp; exact .cons a (RepL.take n b)
theorem RepL.drop : ∀ {ds : List D} {vs : List V} (n : Nat), RepL K cl Z vs ds → RepL K cl Z (vs.drop n) (ds.drop n)
  | [], _, n, r => by cases r; simp; exact .nil
  | d :: ds, _, 0, r => by simpa using r
  | d :: ds, _, n + 1, r => by cases r with | cons a b => simp; exact RepL.drop n b
theorem RepL.reverse : ∀ {ds : List D} {vs : List V}, RepL K cl Z vs ds → RepL K cl Z vs.reverse ds.reverse
  | [], _, r => by cases r; exact .nil
  | d :: ds, _, r => by cases r with | cons a b => simp; exact (RepL.reverse b).append (.cons a .nil)
theorem RepL.set {v : V} {d : D} (h : Rep K cl Z v d) : ∀ {ds : List D} {vs : List V} (n : Nat), RepL K cl Z vs ds → RepL K cl Z (vs.set n v) (ds.set n d)
  | [], _, n, r => by cases r; simp; exact .nil
  | _ :: ds, _, 0, r => by cases r with | cons a b => exact .cons h b
  | _ :: ds, _, n + 1, r => by cases r with | cons a b => exact .cons a (RepL.set h n b)
end
structure Exn where
  c : Str
  f : Option D
inductive Res (T : Type) (α : Type) where
  | ok (a : α) (s : T) | err (x : Exn) (s : T) | stuck
structure Sto where
  T : Type
  R : T → Zp → Hp → Prop
  mono : ∀ {s : T} {Z Z' : Zp} {C : Hp}, R s Z C → SubI Z Z' → R s Z' C
abbrev M (B : Sto) (α : Type) := B.T → Res B.T α
variable {B : Sto}
@[inline] def M.bind {α β : Type} (m : M B α) (k : α → M B β) : M B β := fun s => match m s with
  | .ok a s' => k a s'
  | .err x s' => .err x s'
  | .stuck => .stuck
@[inline] def M.pure {α : Type} (a : α) : M B α := fun s => .ok a s
instance : Monad (M B) where
  pure := M.pure
  bind := M.bind
def lift {α : Type} : Option α → M B α
  | some a => M.pure a
  | none => fun _ => .stuck
def guardM {α : Type} (b : Bool) (m : M B α) : M B α := if b = true then m else fun _ => .stuck
structure Wd (B : Sto) (md : Bool) (Z : Zp) (C H : Hp) (s : B.T) : Prop where
  zh : Sub Z.h H
  ch : Sub C H
  dj : ∀ a, C a ≠ none → Z.h a = none
  sr : B.R s Z C
structure Nx (Z : Zp) (C H : Hp) (Z' : Zp) (C' H' : Hp) : Prop where
  zz : SubZ Z Z'
  hh : ∀ a o, H a = some o → C a = none → H' a = some o
  zf : ∀ a, Z'.h a ≠ none → Z.h a ≠ none ∨ H a = none
  cf : ∀ a, C' a ≠ none → C a ≠ none ∨ H a = none
  cp : ∀ a, C a ≠ none → C' a ≠ none
  lk : ∀ a od u, C a = some (.frz od u) → C' a = some (.frz od u)
theorem Nx.refl (Z : Zp) (C H : Hp) : Nx Z C H Z C H := ⟨.refl _, fun _ _ h _ => h, fun _ h => .inl h, fun _ h => .inl h, fun _ h => h, fun _ _ _ h => h⟩
theorem ne_some {α : Type} {x : Option α} (h : x ≠ none) : ∃ o, x = some o := by
  cases x with
  | none => exact absurd rfl h
  | some o => exact ⟨o, rfl⟩
theorem some_ne {α : Type} {x : Option α} {o : α} (h : x = some o) : x ≠ none := by rw [h]; exact fun z => nomatch z
theorem Nx.trans {Z Z1 Z2 : Zp} {C H C1 H1 C2 H2 : Hp} (a : Nx Z C H Z1 C1 H1) (w0 : Sub C H) (w1 : Sub C1 H1) (b : Nx Z1 C1 H1 Z2 C2 H2) : Nx Z C H Z2 C2 H2 := by
  have back : ∀ x, H1 x = none → H x = none := fun x e => by
    cases q : H x with
    | none => rfl
    | some o =>
      cases c : C x with
      | none => rw [a.hh x o q c] at e; cases e
      | some u =>
        obtain ⟨u1, e1⟩ := ne_some (a.cp x (some_ne c))
        rw [w1 x u1 e1] at e; cases e
  refine ⟨a.zz.trans b.zz, fun x o e c => ?_, fun x e => ?_, fun x e => ?_, fun x e => b.cp x (a.cp x e), fun x od u e => b.lk x od u (a.lk x od u e)⟩
  · refine b.hh x o (a.hh x o e c) ?_
    cases q : C1 x with
    | none => rfl
    | some u =>
      rcases a.cf x (some_ne q) with z | z
      · exact absurd c z
      · rw [e] at z; cases z
  · rcases b.zf x e with z | z
    · exact a.zf x z
    · exact .inr (back x z)
  · rcases b.cf x e with z | z
    · exact a.cf x z
    · exact .inr (back x z)
end DN
namespace DN
open PySem PySem.Spec PyProof.Rows L2
variable {B : Sto}
abbrev Env := List (Option D)
structure EnvR (K : PySem.W.Frag) (cl : CTab) (Z : Zp) (ρ : Env) (σ : L2.St) : Prop where
  len : ρ.length = σ.length
  get : ∀ (i : Nat) (d : D), ρ[i]? = some (some d) → ∃ v, σ[i]? = some (some v) ∧ Rep K cl Z v d
theorem EnvR.mono {K : PySem.W.Frag} {cl : CTab} {Z Z' : Zp} {ρ : Env} {σ : L2.St} (h : SubZ Z Z') (e : EnvR K cl Z ρ σ) : EnvR K cl Z' ρ σ := ⟨e.len, fun i d q =>
  let ⟨v, a, b⟩ := e.get i d q
  ⟨v, a, b.mono h d⟩⟩
def ExR (K : PySem.W.Frag) (cl : CTab) (Z : Zp) (Cc : Hp) (x : Exn) (c : Value) (dx : Option Addr) (H : Hp) : Prop :=
  ∃ C fs, cl x.c = some (C, fs) ∧ c = .ref C ∧ match x.f with
    | none => dx = none ∧ fs = []
    | some d => ∃ f v a, fs = [f] ∧ dx = some a ∧ H a = some (.xd [(f, v)]) ∧ Cc a = none ∧ d.imm = true ∧ Rep K cl Z v d
section
variable {υ α β : Type}
def Post (K : PySem.W.Frag) (cl : CTab) (md : Bool) (Rp : Zp → υ → α → Prop) (W : WX) (σ : L2.St) (Z : Zp) (C H : Hp) (r : Res B.T α) (Q : υ → Hp → Prop) : Prop :=
  match r with
  | .ok a s => ∀ v Z' C' H', Wd B md Z' C' H' s → Nx Z C H Z' C' H' → Rp Z' v a → Q v H'
  | .err x s => ∀ c dx Z' C' H', Wd B md Z' C' H' s → Nx Z C H Z' C' H' → ExR K cl Z' C' x c dx H' → W c dx σ H'
  | .stuck => False
def tG (K : PySem.W.Frag) (cl : CTab) (B : Sto) (md : Bool) (Rp : Zp → υ → α → Prop) (W : WX) (f : Env → M B α) : L2.St → Hp → (υ → Hp → Prop) → Prop := fun σ H Q =>
  ∃ Z C s ρ, Wd B md Z C H s ∧ EnvR K cl Z ρ σ ∧ Post K cl md Rp W σ Z C H (f ρ s) Q
variable {K : PySem.W.Frag} {cl : CTab} {md : Bool} {Rp : Zp → υ → α → Prop} {W : WX} {σ : L2.St} {Z Z1 : Zp} {C H C1 H1 : Hp}
theorem Post.step {r : Res B.T α} {Q : υ → Hp → Prop} (n : Nx Z C H Z1 C1 H1) (c0 : Sub C H) (c1 : Sub C1 H1) (h : Post K cl md Rp W σ Z C H r Q) : Post K cl md Rp W σ Z1 C1 H1 r Q := by
  cases r with
  | ok a s => exact fun v Z' C' H' w m => h v Z' C' H' w (n.trans c0 c1 m)
  | err x s => exact fun c dx Z' C' H' w m => h c dx Z' C' H' w (n.trans c0 c1 m)
  | stuck => exact h
theorem Post.seq {υ2 β : Type} {Rq : Zp → υ2 → β → Prop} {m : M B α} {k : α → M B β} {s : B.T} {Q : υ2 → Hp → Prop} {Q1 : υ → Hp → Prop} (c0 : Sub C H) (h : Post K cl md Rq W σ Z C H (M.bind m k s) Q)
    (hk : ∀ a s1 v Z1 C1 H1, Wd B md Z1 C1 H1 s1 → Nx Z C H Z1 C1 H1 → Rp Z1 v a → Post K cl md Rq W σ Z1 C1 H1 (k a s1) Q → Q1 v H1) : Post K cl md Rp W σ Z C H (m s) Q1 := by
  unfold M.bind at h
  cases e : m s with
  | ok a s1 =>
    rw [e] at h
    exact fun v Z1 C1 H1 w n r => hk a s1 v Z1 C1 H1 w n r (Post.step n c0 w.ch h)
  | err x s1 =>
    rw [e] at h
    exact h
  | stuck =>
    rw [e] at h
    exact h
theorem Post.imp {r : Res B.T α} {Q Q' : υ → Hp → Prop} (h : Post K cl md Rp W σ Z C H r Q) (q : ∀ v H', Q v H' → Q' v H') : Post K cl md Rp W σ Z C H r Q' := by
  cases r with
  | ok a s => exact fun v Z' C' H' w m p => q _ _ (h v Z' C' H' w m p)
  | err x s => exact h
  | stuck => exact h
end
theorem PE.weak {X : Cx} {e : Expr} {t t' : TE} (h : PE X e t) (w : ∀ σ H Q, t' σ H Q → t σ H Q) : PE X e t' := ⟨fun pins s σ H Q I q => h.run pins s σ H Q I (w σ H Q q)⟩
theorem PT.weak {X : Cx} {e : Expr} {t t' : TT} (h : PT X e t) (w : ∀ σ H Q, t' σ H Q → t σ H Q) : PT X e t' := ⟨fun pins s σ H Q I q => h.run pins s σ H Q I (w σ H Q q)⟩
theorem PA.weak {X : Cx} {e : List Expr} {t t' : TA} (h : PA X e t) (w : ∀ σ H Q, t' σ H Q → t σ H Q) : PA X e t' := ⟨fun p pins s σ H Q I q => h.run p pins s σ H Q I (w σ H Q q)⟩
theorem PO.weak {X : Cx} {e : Option Expr} {t t' : TO} (h : PO X e t) (w : ∀ σ H Q, t' σ H Q → t σ H Q) : PO X e t' := ⟨fun pins s σ H Q I q => h.run pins s σ H Q I (w σ H Q q)⟩
abbrev RpD (K : PySem.W.Frag) (cl : CTab) : Zp → V → D → Prop := fun Z v d => Rep K cl Z v d
abbrev RpA (K : PySem.W.Frag) (cl : CTab) (n : Nat) : Zp → List V → List D → Prop := fun Z v d => RepL K cl Z v d ∧ d.length = n
abbrev RpE {α : Type} : Zp → α → α → Prop := fun _ v d => v = d
section
variable (cl : CTab) (B : Sto) (md : Bool) (W : WX) (X : Cx)
def DE (e : Expr) (f : Env → M B D) : Prop := PE X e (tG X.K cl B md (RpD X.K cl) W f)
def DA (es : List Expr) (f : Env → M B (List D)) : Prop := PA X es (tG X.K cl B md (RpA X.K cl es.length) W f)
def DT (e : Expr) (f : Env → M B Bool) : Prop := PT X e (tG X.K cl B md RpE W f)
def DO (e : Option Expr) (f : Env → M B (Option Int)) : Prop := PO X e (tG X.K cl B md RpE W f)
end
structure Al (Z : Zp) (H : Hp) (Z' : Zp) (H' : Hp) : Prop where
  zz : SubZ Z Z'
  hh : Sub H H'
  zh : Sub Z'.h H'
  zf : ∀ a, Z'.h a ≠ none → Z.h a ≠ none ∨ H a = none
  zm : Z'.μ = Z.μ
section
variable {Z Z' Z2 : Zp} {C H H' H2 : Hp} {md : Bool} {s : B.T}
theorem Al.refl (h : Sub Z.h H) : Al Z H Z H := ⟨.refl _, .refl _, h, fun _ e => .inl e, rfl⟩
theorem Al.wd (w : Wd B md Z C H s) (a : Al Z H Z' H') : Wd B md Z' C H' s := by
  refine ⟨a.zh, w.ch.trans a.hh, fun x e => ?_, B.mono w.sr (a.zz.imm a.zm)⟩
  cases q : Z'.h x with
  | none => rfl
  | some o =>
    rcases a.zf x (some_ne q) with z | z
    · exact absurd (w.dj x e) z
    · obtain ⟨u, hu⟩ := ne_some e
      rw [w.ch x u hu] at z; cases z
theorem Al.nx (a : Al Z H Z' H') : Nx Z C H Z' C H' := ⟨a.zz, fun x o e _ => a.hh x o e, a.zf, fun _ e => .inl e, fun _ e => e, fun _ _ _ e => e⟩
theorem Al.trans (a : Al Z H Z' H') (b : Al Z' H' Z2 H2) : Al Z H Z2 H2 := by
  refine ⟨a.zz.trans b.zz, a.hh.trans b.hh, b.zh, fun x e => ?_, b.zm.trans a.zm⟩
  rcases b.zf x e with z | z
  · exact a.zf x z
  · refine .inr ?_
    cases q : H x with
    | none => rfl
    | some o => rw [a.hh x o q] at z; cases z
theorem none_of_sub {Z H : Hp} {p : Addr} (h : Sub Z H) (e : H p = none) : Z p = none := by
  cases q : Z p with
  | none => rfl
  | some o => rw [h p o q] at e; cases e
theorem Al.new {p : Addr} {o : HO} (h : Sub Z.h H) (e : H p = none) (nd : ∀ kvs, o ≠ .dK kvs) : Al Z H (upz Z p o) (upd H p o) := by
  have zp := none_of_sub h e
  refine ⟨SubZ.upd zp, Sub.upd e, fun x u q => ?_, fun x q => ?_, rfl⟩
  · by_cases hx : x = p
    · subst hx; rw [show (upz Z x o).h x = some o from upd_same] at q; rw [upd_same]; exact q
    · rw [show (upz Z p o).h x = Z.h x from upd_ne hx] at q; rw [upd_ne hx]; exact h x u q
  · by_cases hx : x = p
    · subst hx; exact .inr e
    · rw [show (upz Z p o).h x = Z.h x from upd_ne hx] at q; exact .inl q
end
section
variable (K : PySem.W.Frag) (cl : CTab)
def OpV (r : R2) (g : D → D → Option D) : Prop := ∀ (Z : Zp) (H : Hp) (x y : V) (dx dy d : D) (Q : VK), Sub Z H → Rep K cl Z x dx → Rep K cl Z y dy → g dx dy = some d →
  (∀ v Z' H', Al Z H Z' H' → Rep K cl Z' v d → Q v H') → r x y H Q
def UnV (r : V → Hp → VK → Prop) (g : D → Option D) : Prop := ∀ (Z : Zp) (H : Hp) (x : V) (dx d : D) (Q : VK), Sub Z H → Rep K cl Z x dx → g dx = some d →
  (∀ v Z' H', Al Z H Z' H' → Rep K cl Z' v d → Q v H') → r x H Q
def CallV (r : List V → Hp → VK → Prop) (g : List D → Option D) : Prop := ∀ (Z : Zp) (H : Hp) (xs : List V) (dxs : List D) (d : D) (Q : VK), Sub Z H → RepL K cl Z xs dxs → g dxs = some d →
  (∀ v Z' H', Al Z H Z' H' → Rep K cl Z' v d → Q v H') → r xs H Q
end
section
variable {K : PySem.W.Frag} {cl : CTab} {md : Bool} {W : WX} {X : Cx}
theorem post_lift {σ : L2.St} {Z : Zp} {C H : Hp} {o : Option D} {s : B.T} {Q : VK} (w : Wd B md Z C H s) (h : Post K cl md (RpD K cl) W σ Z C H (lift (B := B) o s) Q) :
    ∃ d, o = some d ∧ ∀ v Z' H', Al Z H Z' H' → Rep K cl Z' v d → Q v H' := by
  cases o with
  | none => exact False.elim h
  | some d => exact ⟨d, rfl, fun v Z' H' a r => h v Z' C H' (a.wd w) a.nx r⟩
theorem de_op {op : Operator} {r : R2} {g : D → D → Option D} {a b : Expr} {f1 f2 : Env → M B D} {pos : Pos} (ho : OpR X (binaryOp op) r) (hr : OpV X.K cl r g) (ha : DE cl B md W X a f1) (hb : DE cl B md W X b f2) :
    DE cl B md W X (.BinOp a op b pos) fun ρ => M.bind (f1 ρ) fun x => M.bind (f2 ρ) fun y => lift (g x y) := by
  refine PE.weak (pe_op ho ha hb) fun σ H Q ⟨Z, C, s, ρ, w, e, p⟩ => ?_
  refine ⟨Z, C, s, ρ, w, e, Post.seq w.ch p fun dx s1 x Z1 C1 H1 w1 n1 r1 p1 => ?_⟩
  refine ⟨Z1, C1, s1, ρ, w1, e.mono n1.zz, Post.seq w1.ch p1 fun dy s2 y Z2 C2 H2 w2 n2 r2 p2 => ?_⟩
  obtain ⟨d, hd, q⟩ := post_lift w2 p2
  exact hr Z2 H2 x y dx dy d Q w2.zh (r1.mono n2.zz) r2 hd q
theorem de_cmp {op : CmpOp} {r : R2} {g : D → D → Option D} {a b : Expr} {f1 f2 : Env → M B D} {pos : Pos} (ho : OpR X (compareOp op) r) (hr : OpV X.K cl r g) (hm : behindInMarks op b = false) (ha : DE cl B md W X a f1) (hb : DE cl B md W X b f2) :
    DE cl B md W X (.Compare a [op] [b] pos) fun ρ => M.bind (f1 ρ) fun x => M.bind (f2 ρ) fun y => lift (g x y) := by
  refine PE.weak (pe_cmpR ho ha hb hm) fun σ H Q ⟨Z, C, s, ρ, w, e, p⟩ => ?_
  refine ⟨Z, C, s, ρ, w, e, Post.seq w.ch p fun dx s1 x Z1 C1 H1 w1 n1 r1 p1 => ?_⟩
  refine ⟨Z1, C1, s1, ρ, w1, e.mono n1.zz, Post.seq w1.ch p1 fun dy s2 y Z2 C2 H2 w2 n2 r2 p2 => ?_⟩
  obtain ⟨d, hd, q⟩ := post_lift w2 p2
  exact hr Z2 H2 x y dx dy d Q w2.zh (r1.mono n2.zz) r2 hd q
theorem de_un {op : UnaryOp} {r : V → Hp → VK → Prop} {g : D → Option D} {a : Expr} {f1 : Env → M B D} {pos : Pos} (ho : UnR X (unaryOp op) r) (hr : UnV X.K cl r g) (ha : DE cl B md W X a f1) :
    DE cl B md W X (.UnaryOp op a pos) fun ρ => M.bind (f1 ρ) fun x => lift (g x) := by
  refine PE.weak (pe_un ho ha) fun σ H Q ⟨Z, C, s, ρ, w, e, p⟩ => ?_
  refine ⟨Z, C, s, ρ, w, e, Post.seq w.ch p fun dx s1 x Z1 C1 H1 w1 n1 r1 p1 => ?_⟩
  obtain ⟨d, hd, q⟩ := post_lift w1 p1
  exact hr Z1 H1 x dx d Q w1.zh r1 hd q
def eVar (i : Nat) : Env → M B D := fun ρ => lift ((ρ[i]?).bind id)
theorem post_pure {σ : L2.St} {Z : Zp} {C H : Hp} {d : D} {s : B.T} {Q : VK} {v : V} (w : Wd B md Z C H s) (h : Post K cl md (RpD K cl) W σ Z C H ((M.pure d : M B D) s) Q) (r : Rep K cl Z v d) : Q v H := h v Z C H w (.refl ..) r
theorem de_var {i : Nat} {x : Str} {pos : Pos} (h : PE X (.Name x pos) (tVar i)) : DE cl B md W X (.Name x pos) (eVar i) := by
  refine PE.weak h fun σ H Q ⟨Z, C, s, ρ, w, e, p⟩ => ?_
  obtain ⟨d, hd, q⟩ := post_lift w p
  obtain ⟨v, h1, h2⟩ := e.get i d (by
    cases q : ρ[i]? with
    | none => rw [q] at hd; cases hd
    | some o =>
      rw [q] at hd
      have : o = some d := hd
      rw [this])
  exact ⟨v, h1, q v Z H (.refl w.zh) h2⟩
def eC (d : D) : Env → M B D := fun _ => M.pure d
theorem de_c {e : Expr} {v : V} {d : D} (h : PE X e (tC v)) (r : ∀ Z, Rep X.K cl Z v d) : DE cl B md W X e (eC d) :=
  PE.weak h fun σ H Q ⟨Z, C, s, ρ, w, e, p⟩ => post_pure w p (r Z)
theorem da_nil : DA cl B md W X [] (fun _ => M.pure []) :=
  PA.weak pa_nil fun σ H Q ⟨Z, C, s, ρ, w, e, p⟩ => p [] Z C H w (.refl ..) ⟨.nil, rfl⟩
theorem da_cons {e : Expr} {es : List Expr} {f : Env → M B D} {g : Env → M B (List D)} (h : DE cl B md W X e f) (t : DA cl B md W X es g) (hs : starEach (e :: es) X.env = (false, eval e X.env) :: starEach es X.env := by rfl) :
    DA cl B md W X (e :: es) fun ρ => M.bind (f ρ) fun x => M.bind (g ρ) fun xs => M.pure (x :: xs) := by
  refine PA.weak (pa_cons h t hs) fun σ H Q ⟨Z, C, s, ρ, w, e, p⟩ => ?_
  refine ⟨Z, C, s, ρ, w, e, Post.seq w.ch p fun dx s1 x Z1 C1 H1 w1 n1 r1 p1 => ?_⟩
  refine ⟨Z1, C1, s1, ρ, w1, e.mono n1.zz, Post.seq w1.ch p1 fun dy s2 y Z2 C2 H2 w2 n2 r2 p2 => ?_⟩
  exact p2 (x :: y) Z2 C2 H2 w2 (.refl ..) ⟨.cons (r1.mono n2.zz) r2.1, by rw [List.length_cons, r2.2]; rfl⟩
theorem de_tup {es : List Expr} {x1} {pos : Pos} {f : Env → M B (List D)} (h : DA cl B md W X es f) (hn : es.length ≤ 1000 := by decide) :
    DE cl B md W X (.Tuple es x1 pos) fun ρ => M.bind (f ρ) fun xs => M.pure (.tup xs) := by
  refine PE.weak (pe_tup h) fun σ H Q ⟨Z, C, s, ρ, w, e, p⟩ => ?_
  refine ⟨Z, C, s, ρ, w, e, Post.seq w.ch p fun ds s1 xs Z1 C1 H1 w1 n1 r1 p1 => ?_⟩
  have hlen : xs.length ≤ sizeLine := by
    rw [r1.1.len, r1.2, sizeLine_eq]; omega
  refine ⟨hlen, fun q hq => ?_⟩
  have al : Al Z1 H1 (upz Z1 q (.tup xs)) (upd H1 q (.tup xs)) := .new w1.zh hq (fun _ z => nomatch z)
  exact p1 (.ref q) _ C1 _ (al.wd w1) al.nx (.tup upd_same hlen (r1.1.mono al.zz))
end
end DN
namespace DN
open PySem PySem.Spec PyProof.Rows L2
mutual
def D.py : D → PyData
  | .non => .none
  | .bl b => .bool b
  | .int i => .int i
  | .str x => .str x
  | .tup xs => .tuple (D.pyL xs)
  | .lst xs => .list (D.pyL xs)
  | _ => .dict []
def D.pyL : List D → List PyData
  | [] => []
  | d :: ds => d.py :: D.pyL ds
end
mutual
def D.plain : D → Bool
  | .tup xs => D.plainL xs
  | .lst xs => D.plainL xs
  | .dct _ _ => false
  | .ins _ _ => false
  | .ref _ => false
  | _ => true
def D.plainL : List D → Bool
  | [] => true
  | d :: ds => d.plain && D.plainL ds
end
section
variable {K : PySem.W.Frag} {cl : CTab} {Z : Zp} {H : Hp}
mutual
theorem Rep.dp (h : Sub Z H) : ∀ (d : D) {v : V}, d.plain = true → Rep K cl Z v d → Dp K H v d.py ∧ d.py.canLay0 = true
  | .non, _, _, r => by cases r; exact ⟨.non, by simp [D.py, PyData.canLay0]⟩
  | .bl b, _, _, r => by cases r; exact ⟨.bl b, by simp [D.py, PyData.canLay0]⟩
  | .int i, _, _, r => by cases r; exact ⟨.int i, by simp [D.py, PyData.canLay0]⟩
  | .str x, _, _, r => by cases r with | str e f => exact ⟨.str x, by simpa [D.py, PyData.canLay0] using f⟩
  | .tup ds, _, p, r => by
    cases r with
    | tup a e b =>
      obtain ⟨h1, h2⟩ := RepL.dp h ds (by simpa [D.plain] using p) b
      exact ⟨.tup (sq_t (h _ _ a)) h1, by simpa [D.py, PyData.canLay0] using h2⟩
  | .lst ds, _, p, r => by
    cases r with
    | slst a e b =>
      obtain ⟨h1, h2⟩ := RepL.dp h ds (by simpa [D.plain] using p) b
      exact ⟨.lst (SqL.sub h a) h1, by simpa [D.py, PyData.canLay0] using h2⟩
  | .dct ks ds, _, p, r => by simp [D.plain] at p
  | .ins c ds, _, p, r => by simp [D.plain] at p
  | .ref a, _, p, r => by simp [D.plain] at p
theorem RepL.dp (h : Sub Z H) : ∀ (ds : List D) {vs : List V}, D.plainL ds = true → RepL K cl Z vs ds → DpAll K H vs (D.pyL ds) ∧ PyData.canLayAll0 (D.pyL ds) = true
  | [], _, _, r => by cases r; exact ⟨.nil, by simp [D.pyL, PyData.canLayAll0]⟩
  | d :: ds, _, p, r => by
    have p2 : d.plain = true ∧ D.plainL ds = true := by simpa [D.plainL] using p
    cases r with
    | cons a b =>
      obtain ⟨h1, h2⟩ := Rep.dp h d p2.1 a
      obtain ⟨h3, h4⟩ := RepL.dp h ds p2.2 b
      exact ⟨.cons h1 h3, by simp [D.pyL, PyData.canLayAll0, h2, h4]⟩
end
end
def D.okc (d : D) : Bool := d.plain && decide (d.py.depth ≤ 60)
theorem okc_shaped {K : PySem.W.Frag} {cl : CTab} {Z : Zp} {H : Hp} {d : D} {v : V} (h : Sub Z H) (o : d.okc = true) (r : Rep K cl Z v d) : Dp K H v d.py ∧ SeqAt.shaped d.py = true ∧ d.py.canLay0 = true ∧ d.py.depth ≤ 60 := by
  unfold D.okc at o
  rw [Bool.and_eq_true] at o
  obtain ⟨h1, h2⟩ := r.dp h d o.1
  have h3 : d.py.depth ≤ 60 := of_decide_eq_true o.2
  refine ⟨h1, ?_, h2, h3⟩
  unfold SeqAt.shaped
  rw [h2, decide_eq_true (by omega)]
  rfl
def addD : D → D → Option D
  | .int i, .int j => some (.int (i + j))
  | .str x, .str y => if x.length + y.length ≤ sizeLine then some (.str (x ++ y)) else none
  | .tup xs, .tup ys => if xs.length + ys.length ≤ sizeLine then some (.tup (xs ++ ys)) else none
  | .lst xs, .lst ys => if xs.length + ys.length ≤ sizeLine then some (.lst (xs ++ ys)) else none
  | _, _ => none
def subD : D → D → Option D
  | .int i, .int j => some (.int (i - j))
  | _, _ => none
def mulI : D → D → Option D
  | .int i, .int j => if (-(2 ^ 64) < i ∧ i < 2 ^ 64) ∨ (-(2 ^ 64) < j ∧ j < 2 ^ 64) then some (.int (i * j)) else none
  | _, _ => none
def modD : D → D → Option D
  | .int i, .int j => if 0 < j then some (.int (i % j)) else none
  | _, _ => none
def fdivD : D → D → Option D
  | .int i, .int j => if 0 < j ∧ j < 1073741824 then some (.int (i / j)) else none
  | _, _ => none
def powD : D → D → Option D
  | .int i, .int j => if 0 ≤ j ∧ j ≤ 1000000 ∧ i.natAbs < 2 ^ 64 then some (.int (i ^ j.toNat)) else none
  | _, _ => none
def shlD : D → D → Option D
  | .int i, .int j => if 0 ≤ j ∧ j ≤ 1000000 ∧ i.natAbs < 2 ^ 64 then some (.int (i * 2 ^ j.toNat)) else none
  | _, _ => none
def shrD : D → D → Option D
  | .int i, .int j => if 0 ≤ j then some (.int (i / 2 ^ j.toNat)) else none
  | _, _ => none
def andD : D → D → Option D
  | .int i, .int j => some (.int (Builtin.bitAnd i j))
  | _, _ => none
def orD : D → D → Option D
  | .int i, .int j => some (.int (Builtin.bitOr i j))
  | _, _ => none
def negD : D → Option D
  | .int i => some (.int (-i))
  | _ => none
def eqD (x y : D) : Option D := if x.okc && y.okc then some (.bl (PyData.eqv x.py y.py)) else none
def neD (x y : D) : Option D := if x.okc && y.okc then some (.bl (!PyData.eqv x.py y.py)) else none
def D.isNon : D → Bool
  | .non => true
  | _ => false
def isN (x y : D) : Option D := if y.isNon = true then some (.bl x.isNon) else none
def isNotN (x y : D) : Option D := if y.isNon = true then some (.bl (!x.isNon)) else none
def isBl (x y : D) : Option D := match x, y with
  | .bl a, .bl b => some (.bl (decide (a = b)))
  | _, _ => none
def isNotBl (x y : D) : Option D := match x, y with
  | .bl a, .bl b => some (.bl (!decide (a = b)))
  | _, _ => none
def ltDT (x y : D) : Option D := if x.okc && y.okc && PySem.W.alike x.py y.py && !x.isNon then some (.bl (PySem.W.dataLt x.py y.py)) else none
def ltI : D → D → Option D
  | .int i, .int j => some (.bl (decide (i < j)))
  | _, _ => none
def leI : D → D → Option D
  | .int i, .int j => some (.bl (decide (i ≤ j)))
  | _, _ => none
def gtI : D → D → Option D
  | .int i, .int j => some (.bl (decide (j < i)))
  | _, _ => none
def geI : D → D → Option D
  | .int i, .int j => some (.bl (decide (j ≤ i)))
  | _, _ => none
def inSeq (x : D) (ys : List D) : Option Bool := if x.okc && (D.lst ys).okc then some ((D.pyL ys).any fun z => PyData.eqv z x.py) else none
def inD : D → D → Option D
  | x, .tup ys => (inSeq x ys).map .bl
  | x, .lst ys => (inSeq x ys).map .bl
  | .str x, .str y => some (.bl (!(Builtin.Str.occurrences y x 0 y.length 1).isEmpty))
  | _, _ => none
def notInD : D → D → Option D
  | x, .tup ys => (inSeq x ys).map fun b => .bl (!b)
  | x, .lst ys => (inSeq x ys).map fun b => .bl (!b)
  | .str x, .str y => some (.bl (!(!(Builtin.Str.occurrences y x 0 y.length 1).isEmpty)))
  | _, _ => none
theorem strOk_app {x y : Str} (h1 : PyData.strOk x = true) (h2 : PyData.strOk y = true) : PyData.strOk (x ++ y) = true := by
  unfold PyData.strOk at *
  show (x.cps ++ y.cps).all _ = true
  rw [Array.all_append, h1, h2]
  rfl
theorem len_app (x y : Str) : (x ++ y).length = x.length + y.length := by
  show (x.cps ++ y.cps).size = x.cps.size + y.cps.size
  exact Array.size_append
section
variable {K : PySem.W.Frag} {cl : CTab} {X : Cx}
theorem OpV.or {r r' : R2} {g : D → D → Option D} (h : ∀ (Z : Zp) (H : Hp) (x y : V) (dx dy d : D) (Q : VK), Sub Z H → Rep K cl Z x dx → Rep K cl Z y dy → g dx dy = some d →
  (∀ v Z' H', Al Z H Z' H' → Rep K cl Z' v d → Q v H') → r x y H Q ∨ r' x y H Q) : OpV K cl (fun x y H Q => r x y H Q ∨ r' x y H Q) g := h
theorem ov_int {C : Int → Int → Prop} {f : Int → Int → Int} {g : D → D → Option D} (hg : ∀ x y d, g x y = some d → ∃ i j, x = .int i ∧ y = .int j ∧ C i j ∧ d = .int (f i j)) : OpV K cl (rI C fun i j => .int (f i j)) g := by
  intro Z H x y dx dy d Q h rx ry e q
  obtain ⟨i, j, rfl, rfl, c, rfl⟩ := hg dx dy d e
  cases rx; cases ry
  exact ⟨i, j, rfl, rfl, c, q _ Z H (.refl h) (.int _)⟩
theorem ov_int0 {f : Int → Int → Int} {g : D → D → Option D} (hg : ∀ x y d, g x y = some d → ∃ i j, x = .int i ∧ y = .int j ∧ d = .int (f i j)) : OpV K cl (rI0 fun i j => .int (f i j)) g := by
  intro Z H x y dx dy d Q h rx ry e q
  obtain ⟨i, j, rfl, rfl, rfl⟩ := hg dx dy d e
  cases rx; cases ry
  exact ⟨i, j, rfl, rfl, q _ Z H (.refl h) (.int _)⟩
theorem ov_bl0 {f : Int → Int → Bool} {g : D → D → Option D} (hg : ∀ x y d, g x y = some d → ∃ i j, x = .int i ∧ y = .int j ∧ d = .bl (f i j)) : OpV K cl (rI0 fun i j => .bl (f i j)) g := by
  intro Z H x y dx dy d Q h rx ry e q
  obtain ⟨i, j, rfl, rfl, rfl⟩ := hg dx dy d e
  cases rx; cases ry
  exact ⟨i, j, rfl, rfl, q _ Z H (.refl h) (.bl _)⟩
theorem v_sub : OpV K cl (rI0 fun i j => .int (i - j)) subD := ov_int0 fun x y d e => by
  unfold subD at e; split at e <;> cases e; exact ⟨_, _, rfl, rfl, rfl⟩
theorem v_mulI : OpV K cl (rI CMul fun i j => .int (i * j)) mulI := ov_int fun x y d e => by
  unfold mulI at e; split at e
  · split at e <;> cases e
    exact ⟨_, _, rfl, rfl, by assumption, rfl⟩
  · cases e
theorem v_mod : OpV K cl (rI (fun _ j => 0 < j) fun i j => .int (i % j)) modD := ov_int fun x y d e => by
  unfold modD at e; split at e
  · split at e <;> cases e
    exact ⟨_, _, rfl, rfl, by assumption, rfl⟩
  · cases e
theorem v_fdiv : OpV K cl (rI CDiv fun i j => .int (i / j)) fdivD := ov_int fun x y d e => by
  unfold fdivD at e; split at e
  · split at e <;> cases e
    exact ⟨_, _, rfl, rfl, by assumption, rfl⟩
  · cases e
theorem v_pow : OpV K cl (rI CPow fun i j => .int (i ^ j.toNat)) powD := ov_int fun x y d e => by
  unfold powD at e; split at e
  · split at e <;> cases e
    exact ⟨_, _, rfl, rfl, by assumption, rfl⟩
  · cases e
theorem v_lt : OpV K cl (rI0 fun i j => .bl (decide (i < j))) ltI := ov_bl0 fun x y d e => by
  unfold ltI at e; split at e <;> cases e; exact ⟨_, _, rfl, rfl, rfl⟩
theorem v_le : OpV K cl (rI0 fun i j => .bl (decide (i ≤ j))) leI := ov_bl0 fun x y d e => by
  unfold leI at e; split at e <;> cases e; exact ⟨_, _, rfl, rfl, rfl⟩
theorem v_gt : OpV K cl (rI0 fun i j => .bl (decide (j < i))) gtI := ov_bl0 fun x y d e => by
  unfold gtI at e; split at e <;> cases e; exact ⟨_, _, rfl, rfl, rfl⟩
theorem v_ge : OpV K cl (rI0 fun i j => .bl (decide (j ≤ i))) geI := ov_bl0 fun x y d e => by
  unfold geI at e; split at e <;> cases e; exact ⟨_, _, rfl, rfl, rfl⟩
theorem v_neg : UnV K cl (rU fun i => .int (-i)) negD := by
  intro Z H x dx d Q h rx e q
  unfold negD at e; split at e <;> cases e
  cases rx
  exact ⟨_, rfl, q _ Z H (.refl h) (.int _)⟩
theorem lstR {X : Cx} {pins : List (Addr × Obj)} {σ : L2.St} {H : Hp} {s : Shared} {l : Addr} {xs : List V} (I : Inv X pins σ H s) (h : SqR X.K H l xs) :
    xs.length ≤ sizeLine ∧ ∃ (its : List Value) (n : Nat), Vals xs its ∧ xs.length = its.length ∧ s.heap.get? l = some { cls := .type "list", data := .seq its.toArray n } := by
  rcases h with h | ⟨its, n, h1, h2, h3⟩
  · obtain ⟨z, its, n, r, e⟩ := h.ok I.hok
    exact ⟨z, its, n, r, r.length, e⟩
  · have e := h3.length
    have e2 := I.kIn l _ h1
    exact ⟨by rw [e, Array.length_toList]; exact h2, its.toList, n, h3, e, by simpa using e2⟩
def rCatR (K : PySem.W.Frag) : R2 := fun x y H Q => ∃ l b xs zs, x = .ref l ∧ y = .ref b ∧ SqR K H l xs ∧ SqR K H b zs ∧ xs.length + zs.length ≤ sizeLine ∧ ∀ p, H p = none → Q (.ref p) (upd H p (.lst (xs ++ zs)))
theorem op_catR {X : Cx} : OpR X (binaryOp .Add) (rCatR X.K) := by
  intro pins s σ H x y v u Q I rx ry ⟨l, b, xs, zs, ex, ey, hl, hb, hz, q⟩
  subst ex ey
  cases rx; cases ry
  obtain ⟨_, us, n, r, h1, e⟩ := lstR I hl
  obtain ⟨_, ws, m, r', h2, e'⟩ := lstR I hb
  refine PySem.P.add_list e e' ?_ (by simp only [List.size_toArray]; omega)
  rw [show us.toArray ++ ws.toArray = (us ++ ws).toArray by simp]
  exact ⟨.ref _, _, I.lnew (t' := s.toks) (r.append r') (by rw [List.length_append]; omega), rfl, q _ I.fresh⟩
abbrev rAddA (K : PySem.W.Frag) : R2 := fun x y H Q => (rI0 (fun i j => .int (i + j)) x y H Q ∨ (∃ i j, x = .str i ∧ y = .str j ∧ i.length + j.length ≤ sizeLine ∧ Q (.str (i ++ j)) H)) ∨ (rCatA K x y H Q ∨ rCatR K x y H Q)
theorem op_addA : OpR X (binaryOp .Add) (rAddA X.K) := (op_add.or op_add_str).or (op_catA.or op_catR)
theorem v_add : OpV K cl (rAddA K) addD := by
  intro Z H x y dx dy d Q h rx ry e q
  unfold addD at e
  split at e
  · cases e; cases rx; cases ry
    exact .inl (.inl ⟨_, _, rfl, rfl, q _ Z H (.refl h) (.int _)⟩)
  · split at e <;> cases e
    rename_i hz
    cases rx with | str a b => cases ry with | str a' b' =>
      exact .inl (.inr ⟨_, _, rfl, rfl, hz, q _ Z H (.refl h) (.str (by rw [len_app]; exact hz) (strOk_app b b'))⟩)
  · split at e <;> cases e
    rename_i hz
    cases rx with | tup a b c => cases ry with | tup a' b' c' =>
      rename_i pa va pb vb
      have l1 := c.len
      have l2 := c'.len
      refine .inr (.inl ⟨_, _, _, _, rfl, rfl, sq_t (h _ _ a), sq_t (h _ _ a'), by omega, fun e => ?_, fun _ e => ?_, fun _ _ p hp => ?_⟩)
      · refine q _ Z H (.refl h) (.tup a' b' ?_)
        subst e; cases c; exact c'
      · refine q _ Z H (.refl h) (.tup a b ?_)
        subst e; cases c'; rw [List.append_nil]; exact c
      · have al : Al Z H (upz Z p (.tup (va ++ vb))) (upd H p (.tup (va ++ vb))) := .new h hp (fun _ z => nomatch z)
        exact q _ _ _ al (.tup upd_same (by rw [List.length_append]; omega) ((c.mono al.zz).append (c'.mono al.zz)))
  · split at e <;> cases e
    rename_i hz
    cases rx with | slst a b c => cases ry with | slst a' b' c' =>
      rename_i pa va pb vb
      have l1 := c.len
      have l2 := c'.len
      refine .inr (.inr ⟨_, _, _, _, rfl, rfl, a.sub h, a'.sub h, by omega, fun p hp => ?_⟩)
      have al : Al Z H (upz Z p (.lst (va ++ vb))) (upd H p (.lst (va ++ vb))) := .new h hp (fun _ z => nomatch z)
      exact q _ _ _ al (.lst upd_same (by rw [List.length_append]; omega) ((c.mono al.zz).append (c'.mono al.zz)))
  · cases e
theorem v_eq : OpV K cl (rEqD K) eqD := by
  intro Z H x y dx dy d Q h rx ry e q
  unfold eqD at e
  split at e <;> cases e
  rename_i o
  rw [Bool.and_eq_true] at o
  obtain ⟨a1, a2, _⟩ := okc_shaped h o.1 rx
  obtain ⟨b1, b2, _⟩ := okc_shaped h o.2 ry
  exact ⟨_, _, a1, b1, a2, b2, q _ Z H (.refl h) (.bl _)⟩
theorem v_ne : OpV K cl (rNeD K) neD := by
  intro Z H x y dx dy d Q h rx ry e q
  unfold neD at e
  split at e <;> cases e
  rename_i o
  rw [Bool.and_eq_true] at o
  obtain ⟨a1, a2, _⟩ := okc_shaped h o.1 rx
  obtain ⟨b1, b2, _⟩ := okc_shaped h o.2 ry
  exact ⟨_, _, a1, b1, a2, b2, q _ Z H (.refl h) (.bl _)⟩
end
def rLtD (K : PySem.W.Frag) : R2 := fun x y H Q => ∃ d e, Dp K H x d ∧ Dp K H y e ∧ PySem.W.alike d e = true ∧ d ≠ .none ∧ d.depth ≤ 60 ∧ Q (.bl (PySem.W.dataLt d e)) H
theorem op_ltD {X : Cx} (hu : X.A.units + 64 < cLine) : OpR X (compareOp .Lt) (rLtD X.K) := by
  intro pins s σ H x y v u Q I rx ry h
  obtain ⟨d, e, hd, he, al, nn, dp, q⟩ := h
  obtain ⟨as, r1⟩ := Dp.reads I d x v hd rx
  obtain ⟨bs, r2⟩ := Dp.reads I e y u he ry
  have hm : min d.depth e.depth ≤ d.depth := Nat.min_le_left _ _
  have := PySem.W.rcLt_alike d e X.A s v u as bs r1 r2 al nn (by omega)
  have q' := this X.prog X.w X.xe (EP X pins σ Q) ⟨.bl _, H, I, rfl, q⟩
  exact q'
theorem v_ltD {K : PySem.W.Frag} {cl : CTab} : OpV K cl (rLtD K) ltDT := by
  intro Z H x y dx dy d Q h rx ry e q
  unfold ltDT at e
  split at e
  case isFalse => cases e
  cases e
  rename_i o
  simp only [Bool.and_eq_true] at o
  obtain ⟨⟨⟨o1, o2⟩, o3⟩, o4⟩ := o
  obtain ⟨a1, a2, a3, a4⟩ := okc_shaped h o1 rx
  obtain ⟨b1, b2, _⟩ := okc_shaped h o2 ry
  refine ⟨_, _, a1, b1, o3, ?_, a4, q _ Z H (.refl h) (.bl _)⟩
  cases dx <;> first | (simp [D.isNon] at o4; done) | (simp [D.py])
def rInDT (K : PySem.W.Frag) (neg : Bool) : R2 := fun x y H Q => ∃ d ds, Dp K H x d ∧ Dp K H y (.tuple ds) ∧ SeqAt.shaped d = true ∧ SeqAt.shaped (.tuple ds) = true ∧ Q (.bl (if neg then !(ds.any fun z => PyData.eqv z d) else ds.any fun z => PyData.eqv z d)) H
theorem op_inDT {X : Cx} (hu : X.A.units + 65 < cLine) : OpR X (compareOp .In) (rInDT X.K false) := by
  intro pins s σ H x y v u Q I rx ry h
  obtain ⟨d, ds, hd, he, sd, se, q⟩ := h
  obtain ⟨as, r1⟩ := Dp.reads I d x v hd rx
  obtain ⟨bs, r2⟩ := Dp.reads I (.tuple ds) y u he ry
  exact SeqAt.in_tuple_reads r2 r1 (SeqAt.canLay_of_shaped se) (SeqAt.canLay_of_shaped sd) (room_in_shaped sd hu) ⟨.bl _, H, I, rfl, q⟩
theorem op_notInDT {X : Cx} (hu : X.A.units + 65 < cLine) : OpR X (compareOp .NotIn) (rInDT X.K true) := by
  intro pins s σ H x y v u Q I rx ry h
  obtain ⟨d, ds, hd, he, sd, se, q⟩ := h
  obtain ⟨as, r1⟩ := Dp.reads I d x v hd rx
  obtain ⟨bs, r2⟩ := Dp.reads I (.tuple ds) y u he ry
  exact SeqAt.notIn_tuple_reads r2 r1 (SeqAt.canLay_of_shaped se) (SeqAt.canLay_of_shaped sd) (room_in_shaped sd hu) ⟨.bl _, H, I, rfl, q⟩
abbrev rInA (K : PySem.W.Frag) : R2 := fun x y H Q => (rInDT K false x y H Q ∨ rInD K x y H Q) ∨ (∃ i j, x = .str i ∧ y = .str j ∧ Q (.bl (!(Builtin.Str.occurrences j i 0 j.length 1).isEmpty)) H)
abbrev rNotInA (K : PySem.W.Frag) : R2 := fun x y H Q => (rInDT K true x y H Q ∨ rNotInD K x y H Q) ∨ (∃ i j, x = .str i ∧ y = .str j ∧ Q (.bl (!(!(Builtin.Str.occurrences j i 0 j.length 1).isEmpty))) H)
theorem op_inA {X : Cx} (hu : X.A.units + 65 < cLine) : OpR X (compareOp .In) (rInA X.K) := ((op_inDT hu).or (op_inD hu)).or op_in_str
theorem op_notInA {X : Cx} (hu : X.A.units + 65 < cLine) : OpR X (compareOp .NotIn) (rNotInA X.K) := ((op_notInDT hu).or (op_notInD hu)).or op_notin_str
section
variable {K : PySem.W.Frag} {cl : CTab} {Z : Zp} {H : Hp}
theorem okc_tup {ys : List D} (h : (D.lst ys).okc = true) : (D.tup ys).okc = true := by
  simpa [D.okc, D.plain, D.py, PyData.depth] using h
theorem v_in : OpV K cl (rInA K) inD := by
  intro Z H x y dx dy d Q h rx ry e q
  unfold inD at e
  split at e
  · unfold inSeq at e
    split at e <;> cases e
    rename_i o
    rw [Bool.and_eq_true] at o
    obtain ⟨a1, a2, _⟩ := okc_shaped h o.1 rx
    obtain ⟨b1, b2, _⟩ := okc_shaped h (okc_tup o.2) ry
    simp only [D.py] at b1 b2
    exact .inl (.inl ⟨_, _, a1, b1, a2, b2, q _ Z H (.refl h) (.bl _)⟩)
  · unfold inSeq at e
    split at e <;> cases e
    rename_i o
    rw [Bool.and_eq_true] at o
    obtain ⟨a1, a2, _⟩ := okc_shaped h o.1 rx
    obtain ⟨b1, b2, _⟩ := okc_shaped h o.2 ry
    simp only [D.py] at b1 b2
    exact .inl (.inr ⟨_, _, a1, b1, a2, b2, q _ Z H (.refl h) (.bl _)⟩)
  · cases e
    cases rx; cases ry
    exact .inr ⟨_, _, rfl, rfl, q _ Z H (.refl h) (.bl _)⟩
  · cases e
theorem v_notIn : OpV K cl (rNotInA K) notInD := by
  intro Z H x y dx dy d Q h rx ry e q
  unfold notInD at e
  split at e
  · unfold inSeq at e
    split at e <;> cases e
    rename_i o
    rw [Bool.and_eq_true] at o
    obtain ⟨a1, a2, _⟩ := okc_shaped h o.1 rx
    obtain ⟨b1, b2, _⟩ := okc_shaped h (okc_tup o.2) ry
    simp only [D.py] at b1 b2
    exact .inl (.inl ⟨_, _, a1, b1, a2, b2, q _ Z H (.refl h) (.bl _)⟩)
  · unfold inSeq at e
    split at e <;> cases e
    rename_i o
    rw [Bool.and_eq_true] at o
    obtain ⟨a1, a2, _⟩ := okc_shaped h o.1 rx
    obtain ⟨b1, b2, _⟩ := okc_shaped h o.2 ry
    simp only [D.py] at b1 b2
    exact .inl (.inr ⟨_, _, a1, b1, a2, b2, q _ Z H (.refl h) (.bl _)⟩)
  · cases e
    cases rx; cases ry
    exact .inr ⟨_, _, rfl, rfl, q _ Z H (.refl h) (.bl _)⟩
  · cases e
end
end DN
namespace DN
open PySem PySem.Spec PyProof.Rows L2
variable {B : Sto}
def truthD : D → Option Bool
  | .non => some false
  | .bl b => some b
  | .int i => some (i != 0)
  | .str x => some ((x.length : Int) != 0)
  | .tup xs => some (!xs.isEmpty)
  | .lst xs => some (!xs.isEmpty)
  | _ => none
theorem RepL.emp {K : PySem.W.Frag} {cl : CTab} {Z : Zp} {vs : List V} {ds : List D} (r : RepL K cl Z vs ds) : vs.isEmpty = ds.isEmpty := by cases r <;> rfl
theorem truth_v {K : PySem.W.Frag} {cl : CTab} {Z : Zp} {H : Hp} {x : V} {d : D} {k : Bool} (h : Sub Z H) (r : Rep K cl Z x d) (e : truthD d = some k) : TruV K x H k := by
  cases r <;> (unfold truthD at e; cases e)
  case non => rfl
  case bl => rfl
  case int => rfl
  case str a b => exact ⟨a, rfl⟩
  case tup a e b => exact .inr (.inl ⟨_, sq_t (h _ _ a), by rw [b.emp]⟩)
  case slst a e b => exact .inl ⟨_, SqL.sub h a, by rw [b.emp]⟩
def D.asB : D → Option Bool
  | .bl b => some b
  | _ => none
section
variable {cl : CTab} {md : Bool} {W : WX} {X : Cx}
theorem post_liftG {υ α : Type} {K : PySem.W.Frag} {Rp : Zp → υ → α → Prop} {σ : L2.St} {Z : Zp} {C H : Hp} {o : Option α} {s : B.T} {Q : υ → Hp → Prop} (w : Wd B md Z C H s) (h : Post K cl md Rp W σ Z C H (lift (B := B) o s) Q) :
    ∃ a, o = some a ∧ ∀ v, Rp Z v a → Q v H := by
  cases o with
  | none => exact False.elim h
  | some a => exact ⟨a, rfl, fun v r => h v Z C H w (.refl ..) r⟩
theorem dt_truth {a : Expr} {f : Env → M B D} (h : DE cl B md W X a f) (he : ∀ whole, isTrue a X.env whole = (do let v ← whole; standAt a.pos; holding [v] (truthy v)) := by intro _; rfl) :
    DT cl B md W X a fun ρ => M.bind (f ρ) fun x => lift (truthD x) := by
  refine PT.weak (pt_truth h he) fun σ H Q ⟨Z, C, s, ρ, w, e, p⟩ => ?_
  refine ⟨Z, C, s, ρ, w, e, Post.seq w.ch p fun dx s1 x Z1 C1 H1 w1 n1 r1 p1 => ?_⟩
  obtain ⟨k, hk, q⟩ := post_liftG w1 p1
  exact ⟨k, truth_v w1.zh r1 hk, q k rfl⟩
theorem dt_cmp {op : CmpOp} {r : R2} {g : D → D → Option D} {a b : Expr} {f1 f2 : Env → M B D} {pos : Pos} (ho : OpR X (compareOp op) r) (hr : OpV X.K cl r g) (hm : behindInMarks op b = false) (ha : DE cl B md W X a f1) (hb : DE cl B md W X b f2) :
    DT cl B md W X (.Compare a [op] [b] pos) fun ρ => M.bind (f1 ρ) fun x => M.bind (f2 ρ) fun y => lift ((g x y).bind D.asB) := by
  refine PT.weak (pt_cmpR ho ha hb hm) fun σ H Q ⟨Z, C, s, ρ, w, e, p⟩ => ?_
  refine ⟨Z, C, s, ρ, w, e, Post.seq w.ch p fun dx s1 x Z1 C1 H1 w1 n1 r1 p1 => ?_⟩
  refine ⟨Z1, C1, s1, ρ, w1, e.mono n1.zz, Post.seq w1.ch p1 fun dy s2 y Z2 C2 H2 w2 n2 r2 p2 => ?_⟩
  cases hg : g dx dy with
  | none => rw [hg] at p2; exact False.elim p2
  | some d =>
    cases hd : D.asB d with
    | none => rw [hg] at p2; simp only [Option.bind_some, hd] at p2; exact False.elim p2
    | some k =>
      rw [hg] at p2
      simp only [Option.bind_some, hd] at p2
      refine hr Z2 H2 x y dx dy d _ w2.zh (r1.mono n2.zz) r2 hg fun v Z3 H3 al rv => ?_
      cases d <;> (unfold D.asB at hd; cases hd)
      cases rv
      exact ⟨k, rfl, p2 k Z3 C2 H3 (al.wd w2) al.nx rfl⟩
theorem dt_not {a : Expr} {f : Env → M B Bool} {pos : Pos} (h : DT cl B md W X a f) : DT cl B md W X (.UnaryOp .Not a pos) fun ρ => M.bind (f ρ) fun b => M.pure (!b) := by
  refine PT.weak (pt_not h) fun σ H Q ⟨Z, C, s, ρ, w, e, p⟩ => ?_
  refine ⟨Z, C, s, ρ, w, e, Post.seq w.ch p fun b s1 x Z1 C1 H1 w1 n1 r1 p1 => ?_⟩
  cases r1
  exact p1 (!b) Z1 C1 H1 w1 (.refl ..) rfl
def DW (cl : CTab) (B : Sto) (md : Bool) (W : WX) (X : Cx) (e : Expr) (f : Env → M B Bool) : Prop := PW X e (tG X.K cl B md RpE W f)
theorem PW.weak {X : Cx} {e : Expr} {t t' : TT} (h : PW X e t) (w : ∀ σ H Q, t' σ H Q → t σ H Q) : PW X e t' := ⟨fun wh pins s σ H Q I q => h.run wh pins s σ H Q I (w σ H Q q)⟩
theorem dw_and1 {a : Expr} {f : Env → M B Bool} {pos : Pos} (h : DT cl B md W X a f) : DW cl B md W X (.BoolOp .And [a] pos) f := pw_and1 h
theorem dw_or1 {a : Expr} {f : Env → M B Bool} {pos : Pos} (h : DT cl B md W X a f) : DW cl B md W X (.BoolOp .Or [a] pos) f := pw_or1 h
theorem dw_and {a b : Expr} {rest : List Expr} {f g : Env → M B Bool} {pos : Pos} (h : DT cl B md W X a f) (t : DW cl B md W X (.BoolOp .And (b :: rest) pos) g) :
    DW cl B md W X (.BoolOp .And (a :: b :: rest) pos) fun ρ => M.bind (f ρ) fun k => if k = true then g ρ else M.pure false := by
  refine PW.weak (pw_and h t) fun σ H Q ⟨Z, C, s, ρ, w, e, p⟩ => ?_
  refine ⟨Z, C, s, ρ, w, e, Post.seq w.ch p fun b s1 x Z1 C1 H1 w1 n1 r1 p1 => ?_⟩
  cases r1
  cases b with
  | true => exact ⟨Z1, C1, s1, ρ, w1, e.mono n1.zz, p1⟩
  | false => exact p1 false Z1 C1 H1 w1 (.refl ..) rfl
theorem dw_or {a b : Expr} {rest : List Expr} {f g : Env → M B Bool} {pos : Pos} (h : DT cl B md W X a f) (t : DW cl B md W X (.BoolOp .Or (b :: rest) pos) g) :
    DW cl B md W X (.BoolOp .Or (a :: b :: rest) pos) fun ρ => M.bind (f ρ) fun k => if k = true then M.pure true else g ρ := by
  refine PW.weak (pw_or h t) fun σ H Q ⟨Z, C, s, ρ, w, e, p⟩ => ?_
  refine ⟨Z, C, s, ρ, w, e, Post.seq w.ch p fun b s1 x Z1 C1 H1 w1 n1 r1 p1 => ?_⟩
  cases r1
  cases b with
  | true => exact p1 true Z1 C1 H1 w1 (.refl ..) rfl
  | false => exact ⟨Z1, C1, s1, ρ, w1, e.mono n1.zz, p1⟩
theorem dt_of_dw {e : Expr} {f : Env → M B Bool} (h : DW cl B md W X e f) : DT cl B md W X e f := PW.pt h
theorem de_one {op : BoolOp} {a : Expr} {f : Env → M B D} {pos : Pos} (h : DE cl B md W X a f) : DE cl B md W X (.BoolOp op [a] pos) f := pe_one h
theorem de_and {a b : Expr} {rest : List Expr} {f g : Env → M B D} {pos : Pos} (h : DE cl B md W X a f) (t : DE cl B md W X (.BoolOp .And (b :: rest) pos) g) :
    DE cl B md W X (.BoolOp .And (a :: b :: rest) pos) fun ρ => M.bind (f ρ) fun x => M.bind (lift (truthD x)) fun k => if k = true then g ρ else M.pure x := by
  refine PE.weak (pe_andT h t) fun σ H Q ⟨Z, C, s, ρ, w, e, p⟩ => ?_
  refine ⟨Z, C, s, ρ, w, e, Post.seq w.ch p fun dx s1 x Z1 C1 H1 w1 n1 r1 p1 => ?_⟩
  cases hk : truthD dx with
  | none => rw [hk] at p1; exact False.elim p1
  | some k =>
    rw [hk] at p1
    refine ⟨k, truth_v w1.zh r1 hk, ?_⟩
    cases k with
    | true => exact ⟨Z1, C1, s1, ρ, w1, e.mono n1.zz, p1⟩
    | false => exact post_pure w1 p1 r1
theorem de_or {a b : Expr} {rest : List Expr} {f g : Env → M B D} {pos : Pos} (h : DE cl B md W X a f) (t : DE cl B md W X (.BoolOp .Or (b :: rest) pos) g) :
    DE cl B md W X (.BoolOp .Or (a :: b :: rest) pos) fun ρ => M.bind (f ρ) fun x => M.bind (lift (truthD x)) fun k => if k = true then M.pure x else g ρ := by
  refine PE.weak (pe_orT h t) fun σ H Q ⟨Z, C, s, ρ, w, e, p⟩ => ?_
  refine ⟨Z, C, s, ρ, w, e, Post.seq w.ch p fun dx s1 x Z1 C1 H1 w1 n1 r1 p1 => ?_⟩
  cases hk : truthD dx with
  | none => rw [hk] at p1; exact False.elim p1
  | some k =>
    rw [hk] at p1
    refine ⟨k, truth_v w1.zh r1 hk, ?_⟩
    cases k with
    | true => exact post_pure w1 p1 r1
    | false => exact ⟨Z1, C1, s1, ρ, w1, e.mono n1.zz, p1⟩
theorem de_not {a : Expr} {f : Env → M B D} {pos : Pos} (h : DE cl B md W X a f) :
    DE cl B md W X (.UnaryOp .Not a pos) fun ρ => M.bind (f ρ) fun x => M.bind (lift (truthD x)) fun k => M.pure (.bl (!k)) := by
  refine PE.weak (pe_notT h) fun σ H Q ⟨Z, C, s, ρ, w, e, p⟩ => ?_
  refine ⟨Z, C, s, ρ, w, e, Post.seq w.ch p fun dx s1 x Z1 C1 H1 w1 n1 r1 p1 => ?_⟩
  cases hk : truthD dx with
  | none => rw [hk] at p1; exact False.elim p1
  | some k =>
    rw [hk] at p1
    exact ⟨k, truth_v w1.zh r1 hk, post_pure w1 p1 (.bl _)⟩
theorem de_ifExp {c a b : Expr} {t : Env → M B Bool} {f g : Env → M B D} {pos : Pos} (hc : DT cl B md W X c t) (ha : DE cl B md W X a f) (hb : DE cl B md W X b g) :
    DE cl B md W X (.IfExp c a b pos) fun ρ => M.bind (t ρ) fun k => if k = true then f ρ else g ρ := by
  refine PE.weak (pe_ifExp hc ha hb) fun σ H Q ⟨Z, C, s, ρ, w, e, p⟩ => ?_
  refine ⟨Z, C, s, ρ, w, e, Post.seq w.ch p fun b s1 x Z1 C1 H1 w1 n1 r1 p1 => ?_⟩
  cases r1
  cases b with
  | true => exact ⟨Z1, C1, s1, ρ, w1, e.mono n1.zz, p1⟩
  | false => exact ⟨Z1, C1, s1, ρ, w1, e.mono n1.zz, p1⟩
theorem de_chain {op op' : CmpOp} {r r' : R2} {g g' : D → D → Option D} {a b c : Expr} {f1 f2 f3 : Env → M B D} {pos : Pos} (ho : OpR X (compareOp op) r) (hr : OpV X.K cl r g) (ho' : OpR X (compareOp op') r') (hr' : OpV X.K cl r' g')
    (ha : DE cl B md W X a f1) (hb : DE cl B md W X b f2) (hc : DE cl B md W X c f3) (hm : lastMarks [op, op'] [b, c] = false := by with_unfolding_all rfl) :
    DE cl B md W X (.Compare a [op, op'] [b, c] pos) fun ρ => M.bind (f1 ρ) fun x => M.bind (f2 ρ) fun y => M.bind (lift ((g x y).bind D.asB)) fun k => if k = true then M.bind (f3 ρ) fun z => lift (g' y z) else M.pure (.bl false) := by
  refine PE.weak (pe_chain ho ho' ha hb hc hm) fun σ H Q ⟨Z, C, s, ρ, w, e, p⟩ => ?_
  refine ⟨Z, C, s, ρ, w, e, Post.seq w.ch p fun dx s1 x Z1 C1 H1 w1 n1 r1 p1 => ?_⟩
  refine ⟨Z1, C1, s1, ρ, w1, e.mono n1.zz, Post.seq w1.ch p1 fun dy s2 y Z2 C2 H2 w2 n2 r2 p2 => ?_⟩
  cases hg : g dx dy with
  | none => rw [hg] at p2; exact False.elim p2
  | some d =>
    cases hd : D.asB d with
    | none => rw [hg] at p2; simp only [Option.bind_some, hd] at p2; exact False.elim p2
    | some k =>
      rw [hg] at p2
      simp only [Option.bind_some, hd] at p2
      refine hr Z2 H2 x y dx dy d _ w2.zh (r1.mono n2.zz) r2 hg fun v Z3 H3 al rv => ?_
      cases d <;> (unfold D.asB at hd; cases hd)
      cases rv
      refine ⟨k, rfl, ?_⟩
      have w3 := al.wd w2
      have p3 := Post.step al.nx w2.ch w3.ch p2
      have n13 : SubZ Z Z3 := n1.zz.trans (n2.zz.trans al.zz)
      cases k with
      | false => exact post_pure w3 p3 (.bl false)
      | true =>
        refine ⟨Z3, C2, s2, ρ, w3, e.mono n13, Post.seq w3.ch p3 fun dz s4 z Z4 C4 H4 w4 n4 r4 p4 => ?_⟩
        obtain ⟨d4, hd4, q4⟩ := post_lift w4 p4
        exact hr' Z4 H4 y z dy dz d4 Q w4.zh ((r2.mono al.zz).mono n4.zz) r4 hd4 q4
theorem dt_chain {op op' : CmpOp} {r r' : R2} {g g' : D → D → Option D} {a b c : Expr} {f1 f2 f3 : Env → M B D} {pos : Pos} (ho : OpR X (compareOp op) r) (hr : OpV X.K cl r g) (ho' : OpR X (compareOp op') r') (hr' : OpV X.K cl r' g')
    (ha : DE cl B md W X a f1) (hb : DE cl B md W X b f2) (hc : DE cl B md W X c f3) (hm : lastMarks [op, op'] [b, c] = false := by with_unfolding_all rfl) :
    DT cl B md W X (.Compare a [op, op'] [b, c] pos) fun ρ => M.bind (f1 ρ) fun x => M.bind (f2 ρ) fun y => M.bind (lift ((g x y).bind D.asB)) fun k => if k = true then M.bind (f3 ρ) fun z => lift ((g' y z).bind D.asB) else M.pure false := by
  refine PT.weak (pt_chain ho ho' ha hb hc hm) fun σ H Q ⟨Z, C, s, ρ, w, e, p⟩ => ?_
  refine ⟨Z, C, s, ρ, w, e, Post.seq w.ch p fun dx s1 x Z1 C1 H1 w1 n1 r1 p1 => ?_⟩
  refine ⟨Z1, C1, s1, ρ, w1, e.mono n1.zz, Post.seq w1.ch p1 fun dy s2 y Z2 C2 H2 w2 n2 r2 p2 => ?_⟩
  cases hg : g dx dy with
  | none => rw [hg] at p2; exact False.elim p2
  | some d =>
    cases hd : D.asB d with
    | none => rw [hg] at p2; simp only [Option.bind_some, hd] at p2; exact False.elim p2
    | some k =>
      rw [hg] at p2
      simp only [Option.bind_some, hd] at p2
      refine hr Z2 H2 x y dx dy d _ w2.zh (r1.mono n2.zz) r2 hg fun v Z3 H3 al rv => ?_
      cases d <;> (unfold D.asB at hd; cases hd)
      cases rv
      refine ⟨k, rfl, ?_⟩
      have w3 := al.wd w2
      have p3 := Post.step al.nx w2.ch w3.ch p2
      have n13 : SubZ Z Z3 := n1.zz.trans (n2.zz.trans al.zz)
      cases k with
      | false => exact ⟨false, rfl, p3 false Z3 C2 H3 w3 (.refl ..) rfl⟩
      | true =>
        refine ⟨Z3, C2, s2, ρ, w3, e.mono n13, Post.seq w3.ch p3 fun dz s4 z Z4 C4 H4 w4 n4 r4 p4 => ?_⟩
        cases hg4 : g' dy dz with
        | none => rw [hg4] at p4; exact False.elim p4
        | some d4 =>
          cases hd4 : D.asB d4 with
          | none => rw [hg4] at p4; simp only [Option.bind_some, hd4] at p4; exact False.elim p4
          | some k4 =>
            rw [hg4] at p4
            simp only [Option.bind_some, hd4] at p4
            refine hr' Z4 H4 y z dy dz d4 _ w4.zh ((r2.mono al.zz).mono n4.zz) r4 hg4 fun v5 Z5 H5 al5 rv5 => ?_
            cases d4 <;> (unfold D.asB at hd4; cases hd4)
            cases rv5
            exact ⟨k4, rfl, p4 k4 Z5 C4 H5 (al5.wd w4) al5.nx rfl⟩
end
end DN
namespace DN
open PySem PySem.Spec PyProof.Rows L2 ND
structure ClOk (cl : CTab) (X : Cx) : Prop where
  p : X.prog = cl.P
  w : X.w = cl.w
def DPut2 (cl : CTab) (H : Hp) (a : Addr) (y v : V) (H' : Hp) : Prop := DPut H a y v H' ∨ NPut cl.P cl.w H a y v H'
def sDPut2 (cl : CTab) (td ty tv : TE) : TS := fun D σ H => tv σ H fun v H1 => td σ H1 fun x H2 => ty σ H2 fun y H3 => ∃ a H4, x = .ref a ∧ DPut2 cl H3 a y v H4 ∧ D.nx σ H4
section
variable {cl : CTab} {X : Cx} {o i value : Expr} {td ty tv : TE} {pos pos' : Pos}
theorem ps_dput2 (hcl : ClOk cl X) (hu : X.A.units + 9 < cLine) (ho : PE X o td) (hi : PE X i ty) (hv : PE X value tv) (hs : swapsWith value (some (.Subscript o i pos')) pos.line X.env = pure false) :
    PS X (.Assign [.Subscript o i pos'] value pos) (sDPut2 cl td ty tv) := by
  refine ⟨fun pins s σ H D I h => ?_⟩
  refine wpAny_Assign_Subscript (thn (hv.run pins s σ H _ I h) fun r s1 ⟨v, H1, I1, rv, q1⟩ => thn (ho.run pins s1 σ H1 _ I1 q1) fun u s2 ⟨x, H2, I2, rx, q2⟩ => thn (hi.run pins s2 σ H2 _ I2 q2) fun iv s3 ⟨y, H3, I3, ry, a, H4, ex, g, q3⟩ => ?_) hs
  subst ex
  obtain rfl : u = Value.ref a := rx
  rcases g with g | g
  · exact d_setItem (by omega) I3 g ry rv fun s4 I4 => ⟨σ, H4, I4, q3⟩
  · rw [← hcl.p, ← hcl.w] at g
    exact n_setItem hu I3 g ry rv fun s4 I4 => ⟨σ, H4, I4, q3⟩
def DGet2 (cl : CTab) (H : Hp) (a : Addr) (y : V) (r : Option V) : Prop := DGet H a y r ∨ NGet cl.P cl.w H a y r
def tDGet2' (cl : CTab) (td ty : TE) : TE := fun σ H Q => td σ H fun x H1 => ty σ H1 fun y H2 => ∃ a v, x = .ref a ∧ DGet2 cl H2 a y (some v) ∧ Q v H2
theorem pe_dget2n (hcl : ClOk cl X) (hu : X.A.units + 9 < cLine) (ho : PE X o td) (hi : PE X i ty) (hs : NoSl i) : PE X (.Subscript o i pos) (tDGet2' cl td ty) := by
  refine ⟨fun pins s σ H Q I h => ?_⟩
  refine subD_of PySem.F.slot_dict_getitem.lookup hs (thn (ho.run pins s σ H _ I h) fun u s1 ⟨x, H1, I1, rx, q1⟩ => thn (hi.run pins s1 σ H1 _ I1 q1) fun iv s2 ⟨y, H2, I2, ry, a, v, ex, g, q2⟩ => ?_)
  subst ex
  obtain rfl : u = Value.ref a := rx
  rcases g with g | g
  · exact ⟨dict_typeIs I2 g, d_getItem (by omega) I2 g ry fun w' s3 I3 rw' => ⟨v, H2, I3, rw', q2⟩⟩
  · rw [← hcl.p, ← hcl.w] at g
    exact ⟨g.type I2 ry, n_getItem hu I2 g ry fun w' s3 I3 rw' => ⟨v, H2, I3, rw', q2⟩⟩
def rInDict (cl : CTab) (neg : Bool) : R2 := fun x y H Q => ∃ a o, y = .ref a ∧ DGet2 cl H a x o ∧ Q (.bl (if neg then !o.isSome else o.isSome)) H
theorem op_inDict (hcl : ClOk cl X) (hu : X.A.units + 9 < cLine) : OpR X (compareOp .In) (rInDict cl false) := by
  intro pins s σ H x y v u Q I rx ry ⟨a, o, ey, g, q⟩
  subst ey
  obtain rfl : u = Value.ref a := ry
  rcases g with g | g
  · exact d_in (by omega) I g rx fun s3 I3 => ⟨.bl o.isSome, H, I3, rfl, q⟩
  · rw [← hcl.p, ← hcl.w] at g
    exact n_in hu I g rx fun s3 I3 => ⟨.bl o.isSome, H, I3, rfl, q⟩
theorem op_notInDict (hcl : ClOk cl X) (hu : X.A.units + 9 < cLine) : OpR X (compareOp .NotIn) (rInDict cl true) := by
  intro pins s σ H x y v u Q I rx ry ⟨a, o, ey, g, q⟩
  subst ey
  obtain rfl : u = Value.ref a := ry
  rcases g with g | g
  · exact d_notIn (by omega) I g rx fun s3 I3 => ⟨.bl (!o.isSome), H, I3, rfl, q⟩
  · rw [← hcl.p, ← hcl.w] at g
    exact n_notIn hu I g rx fun s3 I3 => ⟨.bl (!o.isSome), H, I3, rfl, q⟩
theorem len_dN2 (hcl : ClOk cl X) : CallR X (.builtin "len") (fun xs H Q => ∃ a l, xs = [V.ref a] ∧ Rd H a (dN cl.P cl.w a l) ∧ KsAt H l ∧ Q (.int (l.length : Nat)) H) := by
  rw [← hcl.p, ← hcl.w]; exact len_dN
end
end DN
namespace DN
open PySem PySem.Spec PyProof.Rows L2 ND
variable {B : Sto}
theorem PE.or {X : Cx} {e : Expr} {t t' : TE} (h : PE X e t) (h' : PE X e t') : PE X e (fun σ H Q => t σ H Q ∨ t' σ H Q) :=
  ⟨fun pins s σ H Q I q => q.elim (h.run pins s σ H Q I) (h'.run pins s σ H Q I)⟩
mutual
def D.keyN : D → Option NestedKey
  | .non => some .none
  | .int i => some (.num i)
  | .str x => some (.text x)
  | .tup ds => (D.keyNs ds).map .tup
  | .bl _ => none
  | .lst _ => none
  | .dct _ _ => none
  | .ins _ _ => none
  | .ref _ => none
def D.keyNs : List D → Option (List NestedKey)
  | [] => some []
  | d :: ds => (D.keyN d).bind fun k => (D.keyNs ds).map fun r => k :: r
end
def D.key : D → Option GK
  | .int i => some (.inl (.inl i))
  | .str x => some (.inl (.inr x))
  | .tup ds => (D.keyNs ds).map .inr
  | _ => none
mutual
theorem keyN_keyD : ∀ k : NestedKey, (keyDN k).keyN = some k
  | .none => rfl
  | .num _ => rfl
  | .text _ => rfl
  | .tup ks => by simp only [keyDN, D.keyN, keyNs_keyD ks, Option.map_some]
theorem keyNs_keyD : ∀ ks : List NestedKey, D.keyNs (keyDNs ks) = some ks
  | [] => rfl
  | k :: ks => by simp only [keyDNs, D.keyNs, keyN_keyD k, keyNs_keyD ks, Option.bind_some, Option.map_some]
end
mutual
theorem keyN_eq : ∀ (d : D) {k : NestedKey}, d.keyN = some k → d = keyDN k
  | .non, _, h => by cases h; rfl
  | .int _, _, h => by cases h; rfl
  | .str _, _, h => by cases h; rfl
  | .tup ds, _, h => by
    simp only [D.keyN] at h
    obtain ⟨ks, h1, h2⟩ := Option.map_eq_some_iff.mp h
    subst h2
    rw [keyNs_eq ds h1]; rfl
  | .bl _, _, h => by cases h
  | .lst _, _, h => by cases h
  | .dct _ _, _, h => by cases h
  | .ins _ _, _, h => by cases h
  | .ref _, _, h => by cases h
theorem keyNs_eq : ∀ (ds : List D) {ks : List NestedKey}, D.keyNs ds = some ks → ds = keyDNs ks
  | [], _, h => by cases h; rfl
  | d :: ds, _, h => by
    simp only [D.keyNs] at h
    obtain ⟨k, h1, h2⟩ := Option.bind_eq_some_iff.mp h
    obtain ⟨r, h3, h4⟩ := Option.map_eq_some_iff.mp h2
    subst h4
    rw [keyN_eq d h1, keyNs_eq ds h3]; rfl
end
theorem key_eq {d : D} {k : GK} (h : d.key = some k) : d = keyD k := by
  cases d <;> (unfold D.key at h; try (cases h; done))
  · cases h; rfl
  · cases h; rfl
  · obtain ⟨ks, h1, h2⟩ := Option.map_eq_some_iff.mp h
    subst h2
    rw [keyNs_eq _ h1]; rfl
theorem key_keyD (k : GK) : (keyD k).key = some k := by
  rcases k with (k | k) | ks
  · rfl
  · rfl
  · show (D.keyNs (keyDNs ks)).map _ = _
    rw [keyNs_keyD]; rfl
def GK.isT : GK → Bool
  | .inl _ => false
  | .inr _ => true
def kindT : List D → Bool
  | .tup _ :: _ => true
  | _ => false
def lookD : List D → List D → GK → Option D
  | k :: ks, d :: ds, x => if k.key = some x then some d else lookD ks ds x
  | _, _, _ => none
section
variable {K : PySem.W.Frag} {cl : CTab} {Z : Zp}
theorem look_rep : ∀ {kvs : List (GK × V)} {ds : List D} (k : GK), RepL K cl Z (kvs.map (·.2)) ds →
    (∀ d, lookD (kvs.map fun p => keyD p.1) ds k = some d → ∃ v, valV kvs k = some v ∧ Rep K cl Z v d) ∧ ((lookD (kvs.map fun p => keyD p.1) ds k).isSome = (valV kvs k).isSome)
  | [], ds, k, r => by
    cases r
    exact ⟨fun d e => by simp [lookD] at e, rfl⟩
  | p :: r, ds, k, h => by
    cases h with
    | cons a b =>
      obtain ⟨h1, h2⟩ := look_rep k b
      simp only [List.map_cons, lookD, key_keyD]
      by_cases e : p.1 = k
      · rw [valV_pos e, if_pos (by rw [e])]
        exact ⟨fun d q => ⟨_, rfl, by cases q; exact a⟩, rfl⟩
      · rw [valV_neg e, if_neg (fun q => e (Option.some.inj q))]
        exact ⟨h1, h2⟩
theorem kV_of_rep1 {k : Key} {y : V} (r : Rep K cl Z y (keyD1 k)) : y = kV k := by
  cases k <;> (cases r; rfl)
mutual
theorem kat_of_rep {H : Hp} (h : Sub Z.h H) : ∀ (k : NestedKey) {y : V}, Rep K cl Z y (keyDN k) → KAt H k y
  | .none, _, r => by cases r; simp [KAt]
  | .num _, _, r => by cases r; simp [KAt]
  | .text _, _, r => by cases r with | str a b => simp only [KAt]; exact ⟨trivial, a, b⟩
  | .tup ks, _, r => by
    cases r with
    | tup a b c => simp only [KAt]; exact ⟨_, _, rfl, h _ _ a, b, katL_of_rep h ks c⟩
theorem katL_of_rep {H : Hp} (h : Sub Z.h H) : ∀ (ks : List NestedKey) {ys : List V}, RepL K cl Z ys (keyDNs ks) → KAtL H ks ys
  | [], _, r => by cases r; simp [KAtL]
  | k :: ks, _, r => by
    cases r with
    | cons a b => simp only [KAtL]; exact ⟨_, _, rfl, kat_of_rep h k a, katL_of_rep h ks b⟩
end
mutual
theorem rep_of_kat : ∀ (k : NestedKey) {y : V}, KAt Z.h k y → Rep K cl Z y (keyDN k)
  | .none, _, r => by simp only [KAt] at r; subst r; exact .non
  | .num _, _, r => by simp only [KAt] at r; subst r; exact .int _
  | .text _, _, r => by simp only [KAt] at r; obtain ⟨rfl, a, b⟩ := r; exact .str a b
  | .tup ks, _, r => by
    simp only [KAt] at r
    obtain ⟨a, vs, rfl, h1, h2, h3⟩ := r
    exact .tup h1 h2 (repL_of_kat ks h3)
theorem repL_of_kat : ∀ (ks : List NestedKey) {ys : List V}, KAtL Z.h ks ys → RepL K cl Z ys (keyDNs ks)
  | [], _, r => by simp only [KAtL] at r; subst r; exact .nil
  | k :: ks, _, r => by
    simp only [KAtL] at r
    obtain ⟨v, t, rfl, a, b⟩ := r
    exact .cons (rep_of_kat k a) (repL_of_kat ks b)
end
def KeyV (H : Hp) : V → GK → Prop
  | y, .inl k => y = kV k
  | y, .inr ks => KAt H (.tup ks) y
theorem keyV_of_rep {k : GK} {y : V} {H : Hp} (r : Rep K cl Z y (keyD k)) (h : Sub Z.h H) : KeyV H y k := by
  rcases k with k | ks
  · exact kV_of_rep1 r
  · exact kat_of_rep h (.tup ks) r
end
theorem valV_inl {l : List (Key × V)} {k : Key} : valV (l.map fun p => ((.inl p.1 : GK), p.2)) (.inl k) = valV l k := by
  induction l with
  | nil => rfl
  | cons p l ih =>
    by_cases e : p.1 = k
    · rw [List.map_cons, valV_pos e, valV_pos (by rw [e])]
    · rw [List.map_cons, valV_neg e, valV_neg (fun q => e (Sum.inl.inj q)), ih]
theorem valV_inr {l : NL} {k : List NestedKey} : valV (l.map fun p => ((.inr p.1 : GK), p.2.2)) (.inr k) = valV (nkv l) k := by
  induction l with
  | nil => rfl
  | cons p l ih =>
    by_cases e : p.1 = k
    · rw [List.map_cons, valV_pos (by rw [e])]
      show _ = valV ((p.1, p.2.2) :: nkv l) k
      rw [valV_pos e]
    · rw [List.map_cons, valV_neg (fun q => e (Sum.inr.inj q)), ih]
      show _ = valV ((p.1, p.2.2) :: nkv l) k
      rw [valV_neg e]
theorem valV_lr {l : List (Key × V)} {k : List NestedKey} : valV (l.map fun p => ((.inl p.1 : GK), p.2)) (.inr k) = none := by
  induction l with
  | nil => rfl
  | cons p l ih => rw [List.map_cons, valV_neg Sum.inl_ne_inr, ih]
theorem valV_rl {l : NL} {k : Key} : valV (l.map fun p => ((.inr p.1 : GK), p.2.2)) (.inl k) = none := by
  induction l with
  | nil => rfl
  | cons p l ih => rw [List.map_cons, valV_neg Sum.inr_ne_inl, ih]
theorem dkv_k {cl : CTab} {Z : Hp} {a : Addr} {o : HO} {kvs : List (GK × V)} (h : DKV cl Z a o kvs) (e : kindT (kvs.map fun p => keyD p.1) = false) : ∃ l : List (Key × V), o = .dK l ∧ kvs = l.map fun p => (.inl p.1, p.2) := by
  rcases h with h | ⟨l, h1, h2, h3, _⟩
  · exact h
  · cases l with
    | nil => exact absurd rfl h1
    | cons p l => subst h3; exact nomatch e
theorem valV_mem {α : Type} [DecidableEq α] {kvs : List (α × V)} {k : α} {v : V} : valV kvs k = some v → (k, v) ∈ kvs := by
  induction kvs with
  | nil => intro h; cases h
  | cons p r ih =>
    intro h
    by_cases e : p.1 = k
    · rw [valV_pos e] at h; cases h; rw [← e]; exact List.mem_cons_self
    · rw [valV_neg e] at h; exact List.mem_cons_of_mem _ (ih h)
theorem dget_some {cl : CTab} {Z H : Hp} {a : Addr} {o : HO} {kvs : List (GK × V)} {k : GK} {y v : V} (rd : Rd H a o) (hz : Sub Z H) (dk : DKV cl Z a o kvs) (ry : KeyV H y k) (e : valV kvs k = some v) : DGet2 cl H a y (some v) := by
  rcases dk with ⟨l, h1, h2⟩ | ⟨l, h0, h1, h2, h3⟩
  · subst h1 h2
    rcases k with k | ks
    · exact .inl (.inl ⟨l, k, rd, ry, by rw [← e, valV_inl]⟩)
    · rw [valV_lr] at e; cases e
  · subst h1 h2
    rcases k with k | ks
    · rw [valV_rl] at e; cases e
    · have m := valV_mem e
      obtain ⟨p, hp, ep⟩ := List.mem_map.mp m
      have e1 : p.1 = ks := Sum.inr.inj (congrArg (·.1) ep)
      refine .inr ⟨ks, ry, ?_, .inl ⟨l, rd, h3.mono fun b xs q => hz _ _ q, by rw [← e, valV_inr]⟩⟩
      rw [← e1]; exact (h3 p hp).2
def ixD : D → D → Option D
  | .tup xs, .int i => atI xs i
  | .lst xs, .int i => atI xs i
  | .str z, .int i => (atI z.cps.toList i).map fun c => .str ⟨#[c]⟩
  | .dct ks ds, x => x.key.bind fun k => lookD ks ds k
  | _, _ => none
theorem atI_rep {K : PySem.W.Frag} {cl : CTab} {Z : Zp} {vs : List V} {ds : List D} {i : Int} {d : D} (r : RepL K cl Z vs ds) (e : atI ds i = some d) : ∃ v, atI vs i = some v ∧ Rep K cl Z v d := by
  unfold atI at e ⊢
  rw [r.len]
  cases q : ixN ds.length i with
  | none => rw [q] at e; cases e
  | some j =>
    rw [q] at e
    exact r.get e
theorem strOk_one {z : Str} {c : Nat} (h : PyData.strOk z = true) (m : c ∈ z.cps.toList) : PyData.strOk ⟨#[c]⟩ = true := by
  unfold PyData.strOk at *
  rw [← Array.all_toList, List.all_eq_true] at h
  rw [← Array.all_toList, List.all_eq_true]
  intro x hx
  have : x = c := by simpa using hx
  rw [this]; exact h c m
theorem atI_mem {α : Type} {xs : List α} {i : Int} {v : α} (h : atI xs i = some v) : v ∈ xs := by
  obtain ⟨j, _, h2, _⟩ := atI_get h
  exact List.mem_of_getElem? h2
section
variable {cl : CTab} {md : Bool} {W : WX} {X : Cx}
theorem hu65 {k : Nat} {A : Around} (hr : Room k A) : A.units + 65 < cLine := by have := hr.un; omega
theorem hu64 {A : Around} (h : A.units + 65 < cLine) : A.units + 64 < cLine := by omega
theorem hu1 {A : Around} (h : A.units + 65 < cLine) : A.units + 9 < cLine := by omega
theorem de_ix {a b : Expr} {f1 f2 : Env → M B D} {pos : Pos} (hcl : ClOk cl X) (hu : X.A.units + 65 < cLine) (ha : DE cl B md W X a f1) (hb : DE cl B md W X b f2) (hs : PlainIx b := by exact fun _ _ => rfl) (hs2 : NoSl b := by exact fun _ _ => rfl) :
    DE cl B md W X (.Subscript a b pos) fun ρ => M.bind (f1 ρ) fun x => M.bind (f2 ρ) fun y => lift (ixD x y) := by
  refine PE.weak (PE.or (pe_ix ix_seq ha hb hs) (pe_dget2n hcl (hu1 hu) ha hb hs2)) fun σ H Q ⟨Z, C, s, ρ, w, e, p⟩ => ?_
  have dic : (∃ ks ds s1, f1 ρ s = .ok (.dct ks ds) s1) ∨ ∀ ks ds s1, f1 ρ s ≠ .ok (.dct ks ds) s1 := by
    by_cases h : ∃ ks ds s1, f1 ρ s = .ok (.dct ks ds) s1
    · exact .inl h
    · exact .inr fun ks ds s1 q => h ⟨ks, ds, s1, q⟩
  rcases dic with ⟨ks, ds, s1, e1⟩ | nd
  · refine .inr ?_
    have p0 := p
    unfold M.bind at p0
    simp only [e1] at p0
    refine ⟨Z, C, s, ρ, w, e, ?_⟩
    rw [e1]
    intro x Z1 C1 H1 w1 n1 r1
    have p1 := Post.step n1 w.ch w1.ch p0
    refine ⟨Z1, C1, s1, ρ, w1, e.mono n1.zz, Post.seq w1.ch p1 fun dy s2 y Z2 C2 H2 w2 n2 r2 p2 => ?_⟩
    obtain ⟨d, hd, q⟩ := post_lift w2 p2
    simp only [ixD] at hd
    cases hk : dy.key with
    | none => rw [hk] at hd; cases hd
    | some k =>
      rw [hk] at hd
      have hd' : lookD ks ds k = some d := hd
      cases key_eq hk
      cases r1 with
      | dct a dkv b c b' =>
        subst b
        obtain ⟨v, h1, h2⟩ := (look_rep k (b'.mono n2.zz)).1 d hd'
        exact ⟨_, v, rfl, dget_some (sub_rd w2.zh (sub_rd n2.zz.h a)) w2.zh (dkv.mono fun _ _ q => n2.zz.h _ _ q) (keyV_of_rep r2 w2.zh) h1, q v Z2 H2 (.refl w2.zh) h2⟩
  · refine .inl ?_
    refine ⟨Z, C, s, ρ, w, e, ?_⟩
    cases e1 : f1 ρ s with
    | stuck => unfold M.bind at p; simp only [e1] at p; exact p
    | err x s1 => unfold M.bind at p; simp only [e1] at p; exact p
    | ok dx s1 =>
      unfold M.bind at p; simp only [e1] at p
      intro x Z1 C1 H1 w1 n1 r1
      have p1 := Post.step n1 w.ch w1.ch p
      refine ⟨Z1, C1, s1, ρ, w1, e.mono n1.zz, Post.seq w1.ch p1 fun dy s2 y Z2 C2 H2 w2 n2 r2 p2 => ?_⟩
      obtain ⟨d, hd, q⟩ := post_lift w2 p2
      cases dx with
      | tup xs =>
        cases dy <;> (simp only [ixD] at hd; try (cases hd; done))
        cases r2
        cases r1 with
        | tup a b c =>
          obtain ⟨v, h1, h2⟩ := atI_rep (c.mono n2.zz) hd
          exact .inr (.inl ⟨_, _, _, v, rfl, rfl, sq_t (w2.zh _ _ (n2.zz _ _ a)), h1, q v Z2 H2 (.refl w2.zh) h2⟩)
      | lst xs =>
        cases dy <;> (simp only [ixD] at hd; try (cases hd; done))
        cases r2
        cases r1 with
        | slst a b c =>
          obtain ⟨v, h1, h2⟩ := atI_rep (c.mono n2.zz) hd
          exact .inl ⟨_, _, _, v, rfl, rfl, SqL.sub w2.zh (a.sub n2.zz.h), h1, q v Z2 H2 (.refl w2.zh) h2⟩
      | str z =>
        cases dy <;> (simp only [ixD] at hd; try (cases hd; done))
        cases r2
        cases r1 with
        | str a b =>
          obtain ⟨c, h1, h2⟩ := Option.map_eq_some_iff.mp hd
          subst h2
          exact .inr (.inr ⟨_, _, c, rfl, rfl, a, h1, q _ Z2 H2 (.refl w2.zh) (.str (by show 1 ≤ sizeLine; decide) (strOk_one b (atI_mem h1)))⟩)
      | dct ks ds => exact absurd e1 (nd ks ds s1)
      | non => simp [ixD] at hd
      | bl => simp [ixD] at hd
      | int => simp [ixD] at hd
      | ins => simp [ixD] at hd
      | ref => simp [ixD] at hd
def D.asI : D → Option Int
  | .int i => some i
  | _ => none
theorem do_none : DO cl B md W X none (fun _ => M.pure none) :=
  PO.weak po_none fun σ H Q ⟨Z, C, s, ρ, w, e, p⟩ => p none Z C H w (.refl ..) rfl
theorem do_some {e : Expr} {f : Env → M B D} (h : DE cl B md W X e f) : DO cl B md W X (some e) fun ρ => M.bind (f ρ) fun x => lift (x.asI.map some) := by
  refine PO.weak (po_some h) fun σ H Q ⟨Z, C, s, ρ, w, e, p⟩ => ?_
  refine ⟨Z, C, s, ρ, w, e, Post.seq w.ch p fun dx s1 x Z1 C1 H1 w1 n1 r1 p1 => ?_⟩
  obtain ⟨a, ha, q⟩ := post_liftG w1 p1
  obtain ⟨i, h1, h2⟩ := Option.map_eq_some_iff.mp ha
  subst h2
  cases dx <;> (unfold D.asI at h1; cases h1)
  cases r1
  exact ⟨_, rfl, q _ rfl⟩
def cutL {α : Type} (xs : List α) (lo hi : Option Int) : List α := (xs.drop (HT.sIx xs.length 0 lo)).take (HT.sIx xs.length xs.length hi - HT.sIx xs.length 0 lo)
def slD : D → Option Int → Option Int → Option D
  | .tup xs, lo, hi => some (.tup (cutL xs lo hi))
  | .lst xs, lo, hi => some (.lst (cutL xs lo hi))
  | .str z, lo, hi => some (.str (cutS z lo hi))
  | _, _, _ => none
theorem cut_rep {K : PySem.W.Frag} {Z : Zp} {vs : List V} {ds : List D} {lo hi : Option Int} (r : RepL K cl Z vs ds) : RepL K cl Z (cutV vs lo hi) (cutL ds lo hi) := by
  unfold cutV cutL
  rw [r.len]
  exact (r.drop _).take _
theorem cut_len {α : Type} (xs : List α) (lo hi : Option Int) : (cutL xs lo hi).length ≤ xs.length := by
  unfold cutL
  rw [List.length_take, List.length_drop]
  omega
theorem cutS_sub {z : Str} {lo hi : Option Int} : ∀ c ∈ (cutS z lo hi).cps.toList, c ∈ z.cps.toList := by
  intro c hc
  unfold cutS at hc
  exact List.mem_of_mem_drop (List.mem_of_mem_take (by simpa using hc))
theorem cutS_len {z : Str} {lo hi : Option Int} : (cutS z lo hi).length ≤ z.length := by
  show (cutS z lo hi).cps.size ≤ z.cps.size
  unfold cutS
  simp only [List.size_toArray, List.length_take, List.length_drop, Array.length_toList]
  omega
theorem strOk_cut {z : Str} {lo hi : Option Int} (h : PyData.strOk z = true) : PyData.strOk (cutS z lo hi) = true := by
  unfold PyData.strOk at *
  rw [← Array.all_toList, List.all_eq_true] at h ⊢
  exact fun x hx => h x (cutS_sub x hx)
theorem de_slice {e : Expr} {lo hi : Option Expr} {f : Env → M B D} {gl gh : Env → M B (Option Int)} {p2 pos : Pos} (h : DE cl B md W X e f) (hl : DO cl B md W X lo gl) (hh : DO cl B md W X hi gh) :
    DE cl B md W X (.Subscript e (.Slice lo hi none p2) pos) fun ρ => M.bind (f ρ) fun x => M.bind (gl ρ) fun l => M.bind (gh ρ) fun u => lift (slD x l u) := by
  refine PE.weak (pe_slice ((sl_tupA.or sl_list).or sl_str) h hl hh) fun σ H Q ⟨Z, C, s, ρ, w, e, p⟩ => ?_
  refine ⟨Z, C, s, ρ, w, e, Post.seq w.ch p fun dx s1 x Z1 C1 H1 w1 n1 r1 p1 => ?_⟩
  refine ⟨Z1, C1, s1, ρ, w1, e.mono n1.zz, Post.seq w1.ch p1 fun l s2 l' Z2 C2 H2 w2 n2 r2 p2 => ?_⟩
  cases r2
  refine ⟨Z2, C2, s2, ρ, w2, e.mono (n1.zz.trans n2.zz), Post.seq w2.ch p2 fun u s3 u' Z3 C3 H3 w3 n3 r3 p3 => ?_⟩
  cases r3
  obtain ⟨d, hd, q⟩ := post_lift w3 p3
  have r1 := (r1.mono n2.zz).mono n3.zz
  cases dx <;> (unfold slD at hd; cases hd)
  · cases r1 with
    | str a b => exact .inr ⟨_, rfl, a, q _ Z3 H3 (.refl w3.zh) (.str (Nat.le_trans cutS_len a) (strOk_cut b))⟩
  · cases r1 with
    | tup a b c =>
      rename_i xs a0 vs
      refine .inl (.inl ⟨_, _, rfl, sq_t (w3.zh _ _ a), fun hc => ?_, fun hc pp hp => ?_⟩)
      · have ev : cutV vs l u = vs := by
          unfold cutV
          rw [hc.1, hc.2, List.drop_zero]
          exact List.take_of_length_le (by omega)
        have cr := cut_rep (lo := l) (hi := u) c
        rw [ev] at cr
        exact q _ Z3 H3 (.refl w3.zh) (.tup a b cr)
      · have al : Al Z3 H3 (upz Z3 pp (.tup (cutV vs l u))) (upd H3 pp (.tup (cutV vs l u))) := .new w3.zh hp (fun _ z => nomatch z)
        have cr := cut_rep (lo := l) (hi := u) c
        refine q _ _ _ al (.tup upd_same ?_ (cr.mono al.zz))
        have := cut_len xs l u
        rw [cr.len]
        have := c.len
        omega
  · cases r1 with
    | slst a b c =>
      rename_i xs a0 vs
      refine .inl (.inr ⟨_, _, rfl, SqL.sub w3.zh a, fun pp hp => ?_⟩)
      have al : Al Z3 H3 (upz Z3 pp (.lst (cutV vs l u))) (upd H3 pp (.lst (cutV vs l u))) := .new w3.zh hp (fun _ z => nomatch z)
      have cr := cut_rep (lo := l) (hi := u) c
      refine q _ _ _ al (.lst upd_same ?_ (cr.mono al.zz))
      have := cut_len xs l u
      rw [cr.len]
      have := c.len
      omega
theorem de_callB {id : String} {x : Str} {r : List V → Hp → VK → Prop} {g : List D → Option D} {e : Expr} {es : List Expr} {f : Env → M B (List D)} {p pos : Pos} (hc : CallR X (.builtin id) r) (hr : CallV X.K cl r g)
    (hg : Gl X x) (hm : X.mg x = none) (hv : bootBuiltins x = some (.builtin id)) (ha : DA cl B md W X (e :: es) f) (hn : x ≠ "__name__" := by decide) (hdb : (x == ("__debug__" : Str)) = false := by decide)
    (he : starEach (e :: es) X.env = (false, eval e X.env) :: starEach es X.env := by rfl) (hpl : (backTo pos (starEach es X.env)).any (·.1) = false := by rfl) :
    DE cl B md W X (.Call (.Name x p) (e :: es) [] pos) fun ρ => M.bind (f ρ) fun xs => lift (g xs) := by
  refine PE.weak (pe_callB hc hg hm hv ha hn hdb he hpl) fun σ H Q ⟨Z, C, s, ρ, w, e, p⟩ => ?_
  refine ⟨Z, C, s, ρ, w, e, Post.seq w.ch p fun dxs s1 xs Z1 C1 H1 w1 n1 r1 p1 => ?_⟩
  obtain ⟨d, hd, q⟩ := post_lift w1 p1
  exact hr Z1 H1 xs dxs d Q w1.zh r1.1 hd q
theorem de_callTy {T : String} {x : Str} {r : List V → Hp → VK → Prop} {g : List D → Option D} {e : Expr} {es : List Expr} {f : Env → M B (List D)} {p pos : Pos} (hc : CallR X (.type T) r) (hr : CallV X.K cl r g)
    (hg : Gl X x) (hm : X.mg x = none) (hv : bootBuiltins x = some (.type T)) (ha : DA cl B md W X (e :: es) f) (hn : x ≠ "__name__" := by decide) (hdb : (x == ("__debug__" : Str)) = false := by decide)
    (he : starEach (e :: es) X.env = (false, eval e X.env) :: starEach es X.env := by rfl) (hpl : (backTo pos (starEach es X.env)).any (·.1) = false := by rfl) :
    DE cl B md W X (.Call (.Name x p) (e :: es) [] pos) fun ρ => M.bind (f ρ) fun xs => lift (g xs) := by
  refine PE.weak (pe_callTy hc hg hm hv ha hn hdb he hpl) fun σ H Q ⟨Z, C, s, ρ, w, e, p⟩ => ?_
  refine ⟨Z, C, s, ρ, w, e, Post.seq w.ch p fun dxs s1 xs Z1 C1 H1 w1 n1 r1 p1 => ?_⟩
  obtain ⟨d, hd, q⟩ := post_lift w1 p1
  exact hr Z1 H1 xs dxs d Q w1.zh r1.1 hd q
end
def lenD : List D → Option D
  | [.str x] => some (.int x.length)
  | [.tup xs] => some (.int xs.length)
  | [.lst xs] => some (.int xs.length)
  | [.dct ks _] => some (.int ks.length)
  | _ => none
def bools : List D → Option (List Bool)
  | [] => some []
  | .bl b :: ds => (bools ds).map fun r => b :: r
  | _ :: _ => none
def allD : List D → Option D
  | [.lst xs] => (bools xs).map fun bs => .bl (bs.all id)
  | _ => none
def anyD : List D → Option D
  | [.lst xs] => (bools xs).map fun bs => .bl (bs.any id)
  | _ => none
def intD : List D → Option D
  | [.int i] => some (.int i)
  | [.bl b] => some (.int (if b then 1 else 0))
  | _ => none
def tupleD : List D → Option D
  | [.tup xs] => some (.tup xs)
  | [.lst xs] => some (.tup xs)
  | _ => none
def listD : List D → Option D
  | [.tup xs] => some (.lst xs)
  | [.lst xs] => some (.lst xs)
  | _ => none
def absD : List D → Option D
  | [.int i] => some (.int (if i < 0 then -i else i))
  | _ => none
def min2D : List D → Option D
  | [.int i, .int j] => some (.int (if j < i then j else i))
  | _ => none
def max2D : List D → Option D
  | [.int i, .int j] => some (.int (if j > i then j else i))
  | _ => none
def intsOf : List D → Option (List Int)
  | [] => some []
  | .int b :: ds => (intsOf ds).map fun r => b :: r
  | _ :: _ => none
theorem len_dK {X : Cx} : CallR X (.builtin "len") (fun xs H Q => ∃ a kvs, xs = [V.ref a] ∧ Rd H a (.dK kvs) ∧ Q (.int (kvs.length : Nat)) H) := by
  intro pins s σ H xs us Q I r h
  obtain ⟨a, kvs, rfl, ha, q⟩ := h
  obtain ⟨u, rfl, ru⟩ := vals1 r
  cases ru
  exact d_len I ha fun t s' I' => ⟨.int kvs.length, H, I', ⟨t, rfl⟩, q⟩
section
variable {K : PySem.W.Frag} {cl : CTab} {X : Cx}
theorem repL1 {Z : Zp} {xs : List V} {d : D} (r : RepL K cl Z xs [d]) : ∃ x, xs = [x] ∧ Rep K cl Z x d := by
  cases r with | cons a b => cases b; exact ⟨_, rfl, a⟩
theorem repL2 {Z : Zp} {xs : List V} {d e : D} (r : RepL K cl Z xs [d, e]) : ∃ x y, xs = [x, y] ∧ Rep K cl Z x d ∧ Rep K cl Z y e := by
  cases r with | cons a b => cases b with | cons c b => cases b; exact ⟨_, _, rfl, a, c⟩
abbrev rLenA (K : PySem.W.Frag) (cl : CTab) : List V → Hp → VK → Prop := fun xs H Q => (∃ x n, xs = [x] ∧ LenV K x H n ∧ Q (.int n) H) ∨ (∃ a kvs, xs = [V.ref a] ∧ Rd H a (.dK kvs) ∧ Q (.int (kvs.length : Nat)) H) ∨ (∃ a l, xs = [V.ref a] ∧ Rd H a (dN cl.P cl.w a l) ∧ KsAt H l ∧ Q (.int (l.length : Nat)) H)
theorem c_len (hcl : ClOk cl X) : CallR X (.builtin "len") (rLenA X.K cl) := call_len.or (len_dK.or (len_dN2 hcl))
theorem v_len : CallV K cl (rLenA K cl) lenD := by
  intro Z H xs dxs d Q h r e q
  unfold lenD at e
  split at e <;> cases e
  · obtain ⟨x, rfl, r1⟩ := repL1 r
    cases r1 with | str a b => exact .inl ⟨_, _, rfl, ⟨a, rfl⟩, q _ Z H (.refl h) (.int _)⟩
  · obtain ⟨x, rfl, r1⟩ := repL1 r
    cases r1 with | tup a b c => exact .inl ⟨_, _, rfl, .inr ⟨_, sq_t (h _ _ a), c.len.symm⟩, q _ Z H (.refl h) (.int _)⟩
  · obtain ⟨x, rfl, r1⟩ := repL1 r
    cases r1 with | slst a b c => exact .inl ⟨_, _, rfl, .inl ⟨_, SqL.sub h a, c.len.symm⟩, q _ Z H (.refl h) (.int _)⟩
  · obtain ⟨x, rfl, r1⟩ := repL1 r
    cases r1 with
    | dct a dk b n c =>
      subst b
      rcases dk with ⟨l, h1, h2⟩ | ⟨l, _, h1, h2, h3⟩
      · subst h1 h2
        exact .inr (.inl ⟨_, _, rfl, sub_rd h a, by simpa using q (.int _) Z H (.refl h) (.int _)⟩)
      · subst h1 h2
        exact .inr (.inr ⟨_, _, rfl, sub_rd h a, h3.mono fun _ _ q => h _ _ q, by simpa using q (.int _) Z H (.refl h) (.int _)⟩)
theorem bools_rep {Z : Zp} : ∀ {ds : List D} {vs : List V} {bs : List Bool}, RepL K cl Z vs ds → bools ds = some bs → vs = bs.map V.bl
  | [], _, _, r, e => by cases r; cases e; rfl
  | d :: ds, _, bs, r, e => by
    cases r with
    | cons a b =>
      cases d <;> (unfold bools at e; try (cases e; done))
      obtain ⟨t, h1, h2⟩ := Option.map_eq_some_iff.mp e
      subst h2
      cases a
      rw [bools_rep b h1]; rfl
theorem v_all : CallV K cl (rAll K) allD := by
  intro Z H xs dxs d Q h r e q
  unfold allD at e
  split at e
  · obtain ⟨bs, h1, h2⟩ := Option.map_eq_some_iff.mp e
    subst h2
    obtain ⟨x, rfl, r1⟩ := repL1 r
    cases r1 with
    | slst a b c =>
      have := bools_rep c h1
      subst this
      exact ⟨_, bs, rfl, SqL.sub h a, q _ Z H (.refl h) (.bl _)⟩
  · cases e
theorem v_int : CallV K cl (fun xs H Q => (∃ i, xs = [.int i] ∧ Q (.int i) H) ∨ ∃ k, xs = [.bl k] ∧ Q (.int (if k then 1 else 0)) H) intD := by
  intro Z H xs dxs d Q h r e q
  unfold intD at e
  split at e <;> cases e
  · obtain ⟨x, rfl, r1⟩ := repL1 r
    cases r1
    exact .inl ⟨_, rfl, q _ Z H (.refl h) (.int _)⟩
  · obtain ⟨x, rfl, r1⟩ := repL1 r
    cases r1
    exact .inr ⟨_, rfl, q _ Z H (.refl h) (.int _)⟩
theorem v_tuple : CallV K cl (fun xs H Q => ∃ p ys, xs = [.ref p] ∧ ((SqL K H p ys ∧ ∀ l, H l = none → Q (.ref l) (upd H l (.tup ys))) ∨ (SqT K H p ys ∧ Q (.ref p) H))) tupleD := by
  intro Z H xs dxs d Q h r e q
  unfold tupleD at e
  split at e <;> cases e
  · obtain ⟨x, rfl, r1⟩ := repL1 r
    cases r1 with | tup a b c => exact ⟨_, _, rfl, .inr ⟨sq_t (h _ _ a), q _ Z H (.refl h) (.tup a b c)⟩⟩
  · obtain ⟨x, rfl, r1⟩ := repL1 r
    cases r1 with
    | slst a b c =>
      refine ⟨_, _, rfl, .inl ⟨SqL.sub h a, fun p hp => ?_⟩⟩
      rename_i vs
      have al : Al Z H (upz Z p (.tup vs)) (upd H p (.tup vs)) := .new h hp (fun _ z => nomatch z)
      exact q _ _ _ al (.tup upd_same b (c.mono al.zz))
theorem v_list : CallV K cl (fun xs H Q => ∃ p ys, xs = [.ref p] ∧ (SqL K H p ys ∨ SqT K H p ys) ∧ ∀ l, H l = none → Q (.ref l) (upd H l (.lst ys))) listD := by
  intro Z H xs dxs d Q h r e q
  unfold listD at e
  split at e <;> cases e
  · obtain ⟨x, rfl, r1⟩ := repL1 r
    cases r1 with
    | tup a b c =>
      refine ⟨_, _, rfl, .inr (sq_t (h _ _ a)), fun p hp => ?_⟩
      rename_i vs
      have al : Al Z H (upz Z p (.lst vs)) (upd H p (.lst vs)) := .new h hp (fun _ z => nomatch z)
      exact q _ _ _ al (.lst upd_same b (c.mono al.zz))
  · obtain ⟨x, rfl, r1⟩ := repL1 r
    cases r1 with
    | slst a b c =>
      refine ⟨_, _, rfl, .inl (SqL.sub h a), fun p hp => ?_⟩
      rename_i vs
      have al : Al Z H (upz Z p (.lst vs)) (upd H p (.lst vs)) := .new h hp (fun _ z => nomatch z)
      exact q _ _ _ al (.lst upd_same b (c.mono al.zz))
theorem v_abs : CallV K cl (fun xs H Q => ∃ i, xs = [.int i] ∧ Q (.int (if i < 0 then -i else i)) H) absD := by
  intro Z H xs dxs d Q h r e q
  unfold absD at e
  split at e <;> cases e
  obtain ⟨x, rfl, r1⟩ := repL1 r
  cases r1
  exact ⟨_, rfl, q _ Z H (.refl h) (.int _)⟩
theorem v_min2 : CallV K cl (fun xs H Q => ∃ i j, xs = [.int i, .int j] ∧ Q (.int (if j < i then j else i)) H) min2D := by
  intro Z H xs dxs d Q h r e q
  unfold min2D at e
  split at e <;> cases e
  obtain ⟨x, y, rfl, r1, r2⟩ := repL2 r
  cases r1; cases r2
  exact ⟨_, _, rfl, q _ Z H (.refl h) (.int _)⟩
end
end DN
namespace DN
open PySem PySem.Spec PyProof.Rows L2 ND
variable {B : Sto}
def tyN : D → Option String
  | .non => some "NoneType"
  | .bl _ => some "bool"
  | .int _ => some "int"
  | .str _ => some "str"
  | .tup _ => some "tuple"
  | .lst _ => some "list"
  | .dct _ _ => some "dict"
  | _ => none
def TyY (K : PySem.W.Frag) (H : Hp) (x : V) (t : Value) : Prop := TyX K H x t ∨ (t = .type "dict" ∧ ∃ a P w l, x = .ref a ∧ Rd H a (dN P w a l)) ∨ (t = .type "list" ∧ ∃ a xs, x = .ref a ∧ SqR K H a xs)
theorem kit_ofY {X : Cx} {pins : List (Addr × Obj)} {σ : L2.St} {H : Hp} {s : Shared} {x : V} {u t : Value} (I : Inv X pins σ H s) (rx : RelV x u) (ty : TyY X.K H x t) : ∃ P : Heap → Prop, PySem.W.KitX X.K u t P ∧ P s.heap ∧ u ≠ .builtin "__main__.__loader__#opaque" := by
  rcases ty with ty | ⟨rfl, a, P, w, l, rfl, ea⟩ | ⟨rfl, a, xs, rfl, ea⟩
  · exact kit_of I rx ty
  · cases (show u = Value.ref a from rx)
    obtain ⟨⟨_, _, xs, _, o, es, ep, h1, h2, _⟩, _⟩ := (show ObjOk X.prog X.w H s.heap a (dN P w a l) from rd_of I.hok ea)
    exact ⟨_, PySem.W.kitx_dict, ⟨o, h1, h2.1⟩, fun z => nomatch z⟩
  · cases (show u = Value.ref a from rx)
    obtain ⟨_, its, n, _, _, e⟩ := lstR I ea
    exact ⟨_, PySem.W.kitx_list, ⟨_, e, rfl⟩, fun z => nomatch z⟩
def rIsiY (K : PySem.W.Frag) : List V → Hp → VK → Prop := fun xs H Q => ∃ (x c : V) (t u : Value) (b : Bool), xs = [x, c] ∧ ClsV c u ∧ TyY K H x t ∧ PySem.W.kitOne K t u = some b ∧ Q (.bl b) H
theorem call_isiY {X : Cx} : CallR X (.builtin "isinstance") (rIsiY X.K) := by
  intro pins s σ H xs us Q I r h
  obtain ⟨x, c, t, u, b, rfl, k, ty, e, q⟩ := h
  obtain ⟨u1, u2, rfl, r1, r2⟩ := vals2 r
  have e2 := k.eq r2
  subst e2
  obtain ⟨P, Z, p, hx⟩ := kit_ofY I r1 ty
  exact PySem.W.kia_one Z I.kIn p e hx fun tk => ⟨.bl b, H, I.tok tk, rfl, q⟩
theorem ty_rep {K : PySem.W.Frag} {cl : CTab} {Z : Zp} {H : Hp} {v : V} {d : D} {n : String} (h : Sub Z H) (r : Rep K cl Z v d) (e : tyN d = some n) : TyY K H v (.type n) := by
  cases r <;> (unfold tyN at e; cases e)
  case non => exact .inl <| .base .non
  case bl => exact .inl <| .base (.bl _)
  case int => exact .inl <| .base (.int _)
  case str => exact .inl <| .base (.str _)
  case tup a b c =>
    rcases sq_t (h _ _ a) with (q | ⟨o, q⟩) | ⟨o, its, m, h1, h2, _⟩
    · exact .inl <| .base (.tup q)
    · exact .inl (.fTuple q)
    · exact .inl (.kTuple h1 h2)
  case slst a b c => exact .inr (.inr ⟨rfl, _, _, rfl, a.sub h⟩)
  case dct a dk b c n =>
    rcases dk with ⟨l, h1, h2⟩ | ⟨l, _, h1, h2⟩
    · subst h1
      rcases sub_rd h a with q | ⟨od, q⟩
      · exact .inl (.base (.dK q))
      · exact .inl (.fDict q)
    · subst h1
      exact .inr (.inl ⟨rfl, _, _, _, _, rfl, sub_rd h a⟩)
def isD (n : String) (d : D) : Option D := (tyN d).bind fun t => (kitB t n).map .bl
def isD2 (n m : String) (d : D) : Option D := (tyN d).bind fun t => (kitB t n).bind fun a => (kitB t m).map fun b => .bl (a || b)
section
variable {cl : CTab} {md : Bool} {W : WX} {X : Cx}
theorem de_isi {a : Expr} {f : Env → M B D} {n : String} {x : Str} {p p2 pos : Pos} (ha : DE cl B md W X a f) (hg : Gl X "isinstance") (hm : X.mg "isinstance" = none) (hgx : Gl X x) (hmx : X.mg x = none) (hv : bootBuiltins x = some (.type n))
    (hn : x ≠ "__name__" := by decide) (hd : (x == ("__debug__" : Str)) = false := by decide)
    (he : starEach [a, .Name x p2] X.env = (false, eval a X.env) :: starEach [.Name x p2] X.env := by rfl) (hpl : (backTo pos (starEach [.Name x p2] X.env)).any (·.1) = false := by rfl) :
    DE cl B md W X (.Call (.Name "isinstance" p) [a, .Name x p2] [] pos) fun ρ => M.bind (f ρ) fun x => lift (isD n x) := by
  refine PE.weak (pe_callB call_isiY hg hm boot_isinstance (pa_cons ha (pa_cons (pe_bltn (v := .ty n) hgx hmx hv rfl hn hd) pa_nil) he) (by decide) (by decide) he hpl) fun σ H Q ⟨Z, C, s, ρ, w, e, p⟩ => ?_
  refine ⟨Z, C, s, ρ, w, e, Post.seq w.ch p fun dx s1 x Z1 C1 H1 w1 n1 r1 p1 => ?_⟩
  obtain ⟨d, hd, q⟩ := post_lift w1 p1
  unfold isD at hd
  cases ht : tyN dx with
  | none => rw [ht] at hd; cases hd
  | some t =>
    rw [ht] at hd
    obtain ⟨b, h1, h2⟩ := Option.map_eq_some_iff.mp hd
    subst h2
    exact ⟨x, .ty n, .type t, .type n, b, rfl, .ty n, ty_rep w1.zh r1 ht, kit_ty h1, q _ Z1 H1 (.refl w1.zh) (.bl _)⟩
def spD (K : PySem.W.Frag) (cl : CTab) (B : Sto) (n : Nat) (f : List D → M B D) : Sp := fun vs H Q E =>
  ∃ Z C s ds, Wd B true Z C H s ∧ RepL K cl Z vs ds ∧ ds.length = n ∧ Post K cl true (RpD K cl) (fun c dx _ H' => E c dx H') [] Z C H (f ds s) Q
theorem spD_len {K : PySem.W.Frag} {n : Nat} {f : List D → M B D} {ps : List Str} (hn : ps.length = n) : ∀ vs H Q E, spD K cl B n f vs H Q E → vs.length = ps.length := by
  rintro vs H Q E ⟨Z, C, s, ds, _, r, l, _⟩
  rw [r.len, l, hn]
theorem de_call {k n : Nat} {g : Addr} {fd : FuncData} {ps : List Str} {f : List D → M B D} {x : Str} {e : Expr} {es : List Expr} {fa : Env → M B (List D)} {p pos : Pos} (F : FnOk X.prog X.w X.K X.mg X.base (L2.CX X.prog X.w) k g fd ps (spD X.K cl B n f)) (hr : Room k X.A)
    (hg : Gl X x) (hm : X.mg x = some (.ref g)) (hk : PySem.W.keepIn X.K (.ref g) = true) (hb : Binds X.K fd ps []) (tk : Takes X W) (ha : DA cl B true W X (e :: es) fa) (hn : (e :: es).length = n)
    (hdb : (x == ("__debug__" : Str)) = false := by decide) (he : starEach (e :: es) X.env = (false, eval e X.env) :: starEach es X.env := by rfl) (hpl : (backTo pos (starEach es X.env)).any (·.1) = false := by rfl) :
    DE cl B true W X (.Call (.Name x p) (e :: es) [] pos) fun ρ => M.bind (fa ρ) f := by
  refine PE.weak (pe_callS F hr hg hm hk hb (fun σ => passAt tk σ) ha hdb he hpl) fun σ H Q ⟨Z, C, s, ρ, w, e, p⟩ => ?_
  refine ⟨Z, C, s, ρ, w, e, Post.seq w.ch p fun dxs s1 xs Z1 C1 H1 w1 n1 r1 p1 => ?_⟩
  refine ⟨Z1, C1, s1, dxs, w1, r1.1, r1.2.trans hn, ?_⟩
  cases hf : f dxs s1 with
  | ok d s2 => rw [hf] at p1; exact p1
  | err x s2 => rw [hf] at p1; exact p1
  | stuck => rw [hf] at p1; exact p1
end
abbrev Asg := List (Nat × D)
def setsE (ρ : Env) (as : Asg) : Env := as.foldl (fun ρ p => ρ.set p.1 (some p.2)) ρ
def setsV (σ : L2.St) (vs : List (Nat × V)) : L2.St := vs.foldl (fun σ p => σ.set p.1 (some p.2)) σ
def AsgR (K : PySem.W.Frag) (cl : CTab) (Z : Zp) : Asg → List (Nat × V) → Prop
  | [], [] => True
  | (i, d) :: as, (j, v) :: vs => i = j ∧ Rep K cl Z v d ∧ AsgR K cl Z as vs
  | _, _ => False
section
variable {K : PySem.W.Frag} {cl : CTab} {Z : Zp}
theorem AsgR.append : ∀ {as bs : Asg} {vs ws : List (Nat × V)}, AsgR K cl Z as vs → AsgR K cl Z bs ws → AsgR K cl Z (as ++ bs) (vs ++ ws)
  | [], _, [], _, _, h => h
  | (i, d) :: as, _, (j, v) :: vs, _, ⟨a, b, c⟩, h => ⟨a, b, AsgR.append c h⟩
  | [], _, _ :: _, _, h, _ => False.elim h
  | _ :: _, _, [], _, h, _ => False.elim h
end
section
variable (K : PySem.W.Frag) (cl : CTab)
def tDG (a : D → Option Asg) : TG := fun v σ H Q => ∃ (Z : Zp) (d : D) (as : Asg), Sub Z H ∧ Rep K cl Z v d ∧ a d = some as ∧ ∀ vs, AsgR K cl Z as vs → Q (setsV σ vs) H
def tDGs (a : List D → Option Asg) : TGs := fun vs σ H Q => ∃ (Z : Zp) (ds : List D) (as : Asg), Sub Z H ∧ RepL K cl Z vs ds ∧ a ds = some as ∧ ∀ ws, AsgR K cl Z as ws → Q (setsV σ ws) H
end
def DG (cl : CTab) (X : Cx) (tg : Expr) (a : D → Option Asg) : Prop := PG X tg (tDG X.K cl a)
def DGs (cl : CTab) (X : Cx) (tgs : List Expr) (a : List D → Option Asg) : Prop := PGs X tgs (tDGs X.K cl a)
theorem PG.weak {X : Cx} {e : Expr} {t t' : TG} (h : PG X e t) (w : ∀ v σ H Q, t' v σ H Q → t v σ H Q) : PG X e t' := ⟨fun pins s σ H v u Q I r q => h.run pins s σ H v u Q I r (w v σ H Q q)⟩
theorem PGs.weak {X : Cx} {e : List Expr} {t t' : TGs} (h : PGs X e t) (w : ∀ v σ H Q, t' v σ H Q → t v σ H Q) : PGs X e t' := ⟨fun pins s σ H v u Q I r q => h.run pins s σ H v u Q I r (w v σ H Q q)⟩
theorem wipe_set {σ : L2.St} {i : Nat} {o : Option V} : ∀ {own : List Nat}, i ∈ own → wipe (σ.set i o) own = wipe σ own
  | [], h => by simp at h
  | j :: r, h => by
    unfold wipe
    by_cases e : i ∈ r
    · rw [wipe_set e]
    · have e2 : i = j := by
        rcases List.mem_cons.mp h with z | z
        · exact z
        · exact absurd z e
      subst e2
      have c : ∀ (l : List Nat) (τ : L2.St), i ∉ l → wipe (τ.set i o) l = (wipe τ l).set i o := by
        intro l
        induction l with
        | nil => intro τ _; rfl
        | cons a l ih =>
          intro τ hn
          simp only [List.mem_cons, not_or] at hn
          unfold wipe
          rw [ih τ hn.2]
          exact List.set_comm _ _ (fun z => hn.1 z)
      rw [c r σ e, List.set_set]
theorem wipe_sets {own : List Nat} : ∀ (vs : List (Nat × V)) (σ : L2.St), (∀ p ∈ vs, p.1 ∈ own) → wipe (setsV σ vs) own = wipe σ own
  | [], _, _ => rfl
  | p :: vs, σ, h => by
    show wipe (setsV (σ.set p.1 (some p.2)) vs) own = wipe σ own
    rw [wipe_sets vs _ (fun q hq => h q (List.mem_cons_of_mem _ hq)), wipe_set (h p List.mem_cons_self)]
theorem asgR_mem {K : PySem.W.Frag} {cl : CTab} {Z : Zp} {own : List Nat} : ∀ {as : Asg} {vs : List (Nat × V)}, AsgR K cl Z as vs → (∀ p ∈ as, p.1 ∈ own) → ∀ p ∈ vs, p.1 ∈ own
  | [], [], _, _, p, hp => by simp at hp
  | (i, d) :: as, (j, v) :: vs, ⟨a, b, c⟩, h, p, hp => by
    rcases List.mem_cons.mp hp with rfl | hp
    · subst a; exact h _ List.mem_cons_self
    · exact asgR_mem c (fun q hq => h q (List.mem_cons_of_mem _ hq)) p hp
  | [], _ :: _, h, _, _, _ => False.elim h
  | _ :: _, [], h, _, _, _ => False.elim h
def aName (i : Nat) : D → Option Asg := fun d => some [(i, d)]
def aNil : List D → Option Asg
  | [] => some []
  | _ => none
def aCons (a : D → Option Asg) (b : List D → Option Asg) : List D → Option Asg
  | d :: ds => (a d).bind fun x => (b ds).map fun y => x ++ y
  | [] => none
def aTup (b : List D → Option Asg) : D → Option Asg
  | .tup ds => b ds
  | _ => none
theorem EnvR.set {K : PySem.W.Frag} {cl : CTab} {Z : Zp} {ρ : Env} {σ : L2.St} {i : Nat} {v : V} {d : D} (e : EnvR K cl Z ρ σ) (r : Rep K cl Z v d) : EnvR K cl Z (ρ.set i (some d)) (σ.set i (some v)) := by
  refine ⟨by simp [e.len], fun j d' q => ?_⟩
  by_cases hj : i = j
  · subst hj
    by_cases hl : i < ρ.length
    · rw [List.getElem?_set_self hl] at q
      cases q
      exact ⟨v, List.getElem?_set_self (by rw [← e.len]; exact hl), r⟩
    · rw [List.getElem?_eq_none (by simpa using hl)] at q
      cases q
  · rw [List.getElem?_set_ne hj] at q
    obtain ⟨v', h1, h2⟩ := e.get j d' q
    exact ⟨v', by rw [List.getElem?_set_ne hj]; exact h1, h2⟩
theorem EnvR.sets {K : PySem.W.Frag} {cl : CTab} {Z : Zp} : ∀ {as : Asg} {vs : List (Nat × V)} {ρ : Env} {σ : L2.St}, EnvR K cl Z ρ σ → AsgR K cl Z as vs → EnvR K cl Z (setsE ρ as) (setsV σ vs)
  | [], [], _, _, e, _ => e
  | (i, d) :: as, (j, v) :: vs, ρ, σ, e, ⟨a, b, c⟩ => by
    subst a
    show EnvR K cl Z (setsE (ρ.set i (some d)) as) (setsV (σ.set i (some v)) vs)
    exact EnvR.sets (e.set b) c
  | [], _ :: _, _, _, _, h => False.elim h
  | _ :: _, [], _, _, _, h => False.elim h
section
variable {cl : CTab} {X : Cx}
theorem dg_name {i : Nat} {x : Str} {pos : Pos} (hN : X.N.Nodup) (hi : X.N[i]? = some x) (hx : Loc X.env.scope x) (hf : X.fn x = true ∨ X.env.scope.names.lookup x = some .local := by first | exact .inl rfl | exact .inr rfl | assumption) :
    DG cl X (.Name x pos) (aName i) :=
  PG.weak (pg_name hN hi hx hf) fun v σ H Q ⟨Z, d, as, h, r, e, q⟩ => by
    cases e
    exact q [(i, v)] ⟨rfl, r, trivial⟩
theorem dgs_nil : DGs cl X [] aNil :=
  PGs.weak pgs_nil fun vs σ H Q ⟨Z, ds, as, h, r, e, q⟩ => by
    cases ds with
    | nil => cases r; cases e; exact ⟨rfl, q [] trivial⟩
    | cons d ds => cases e
theorem dgs_cons {e : Expr} {es : List Expr} {b : D → Option Asg} {bs : List D → Option Asg} (h : DG cl X e b) (t : DGs cl X es bs) (ha : (assignEach (e :: es) X.env).map (·.2) = assign e X.env :: (assignEach es X.env).map (·.2) := by rfl) : DGs cl X (e :: es) (aCons b bs) :=
  PGs.weak (pgs_cons h t ha) fun vs σ H Q ⟨Z, ds, as, hz, r, e, q⟩ => by
    cases ds with
    | nil => cases e
    | cons d ds =>
      cases r with
      | cons r1 r2 =>
        have e' : (b d).bind (fun x => (bs ds).map fun y => x ++ y) = some as := e
        cases hb : b d with
        | none => rw [hb] at e'; cases e'
        | some x =>
          rw [hb] at e'
          obtain ⟨y, h1, h2⟩ := Option.map_eq_some_iff.mp (show (bs ds).map (fun y => x ++ y) = some as from e')
          subst h2
          refine ⟨_, _, rfl, Z, d, x, hz, r1, hb, fun vs1 a1 => ⟨Z, ds, y, hz, r2, h1, fun vs2 a2 => ?_⟩⟩
          have := q (vs1 ++ vs2) (a1.append a2)
          unfold setsV at this ⊢
          rw [List.foldl_append] at this
          exact this
theorem dg_tup {es : List Expr} {k : Nat} {pos : Pos} {bs : List D → Option Asg} (hc : X.calm = true) (h : DGs cl X es bs) (hb : ∀ ds as, bs ds = some as → ds.length = es.length) (hn : (assignEach es X.env).length = es.length := by rfl)
    (hst : (assignEach es X.env).findIdx? (·.1) = none := by rfl) : DG cl X (.Tuple es k pos) (aTup bs) :=
  PG.weak (pg_tup hc h hn hst) fun v σ H Q ⟨Z, d, as, hz, r, e, q⟩ => by
    cases d <;> (unfold aTup at e; try (cases e; done))
    cases r with
    | tup a b c => exact ⟨_, _, rfl, sq_t (hz _ _ a), by rw [c.len]; exact hb _ _ e, Z, _, as, hz, c, e, q⟩
end
theorem aNil_len : ∀ ds as, aNil ds = some as → ds.length = 0 := by
  intro ds as h
  cases ds with
  | nil => rfl
  | cons => cases h
theorem aCons_len {b : D → Option Asg} {bs : List D → Option Asg} {n : Nat} (h : ∀ ds as, bs ds = some as → ds.length = n) : ∀ ds as, aCons b bs ds = some as → ds.length = n + 1 := by
  intro ds as e
  cases ds with
  | nil => cases e
  | cons d ds =>
    have e' : (b d).bind (fun x => (bs ds).map fun y => x ++ y) = some as := e
    cases hb : b d with
    | none => rw [hb] at e'; cases e'
    | some x =>
      rw [hb] at e'
      obtain ⟨y, h1, _⟩ := Option.map_eq_some_iff.mp (show (bs ds).map (fun y => x ++ y) = some as from e')
      rw [List.length_cons, h ds y h1]
def TgIn (own : List Nat) (a : D → Option Asg) : Prop := ∀ d as, a d = some as → ∀ p ∈ as, p.1 ∈ own
def TgsIn (own : List Nat) (a : List D → Option Asg) : Prop := ∀ ds as, a ds = some as → ∀ p ∈ as, p.1 ∈ own
theorem in_name {own : List Nat} {i : Nat} (h : i ∈ own) : TgIn own (aName i) := fun d as e p hp => by
  cases e
  rw [List.mem_singleton.mp hp]; exact h
theorem in_nil {own : List Nat} : TgsIn own aNil := fun ds as e p hp => by
  cases ds with
  | nil => cases e; simp at hp
  | cons => cases e
theorem in_cons {own : List Nat} {a : D → Option Asg} {b : List D → Option Asg} (h : TgIn own a) (t : TgsIn own b) : TgsIn own (aCons a b) := fun ds as e p hp => by
  cases ds with
  | nil => cases e
  | cons d ds =>
    have e' : (a d).bind (fun x => (b ds).map fun y => x ++ y) = some as := e
    cases hb : a d with
    | none => rw [hb] at e'; cases e'
    | some x =>
      rw [hb] at e'
      obtain ⟨y, h1, h2⟩ := Option.map_eq_some_iff.mp (show (b ds).map (fun y => x ++ y) = some as from e')
      subst h2
      rcases List.mem_append.mp hp with q | q
      · exact h d x hb p q
      · exact t ds y h1 p q
theorem in_tup {own : List Nat} {b : List D → Option Asg} (t : TgsIn own b) : TgIn own (aTup b) := fun d as e p hp => by
  cases d <;> (unfold aTup at e; try (cases e; done))
  exact t _ as e p hp
end DN
namespace DN
open PySem PySem.Spec PyProof.Rows L2
open PySem.AutoSeq1 (wpAny_loadPart')
theorem meets_enumerate_newT (l : Addr) (items : Array Value) (n : Nat) (dct : Option Addr) (sl : Array (Option Value)) :
    Meets (Builtin.«enumerate.__new__» ⟨[.type "enumerate", .ref l], []⟩) (fun _ R s => s.heap.get? l = some { cls := .type "tuple", dict := dct, data := .seq items n, slots := sl } ∧
      R (.ok (.ret (.ref (s.heap.push { cls := .type "tuple_iterator", data := .fields #[.ref l, .int 0 0] }).objs.size)))
        { s with heap := (s.heap.push { cls := .type "tuple_iterator", data := .fields #[.ref l, .int 0 0] }).push { cls := .type "enumerate", data := .fields #[.none, .bool false, .ref s.heap.objs.size, rawInt 0, .none, .none] } }) :=
  .of_wp fun prog w A R s h => by
    obtain ⟨hp, g, d, tk, os⟩ := s; obtain ⟨hl, h⟩ := h
    have hsub := sub_enumerate
    have hL : Heap.IsTuple (Shared.heap ⟨hp, g, d, tk, os⟩) l items := ⟨_, hl, rfl, n, rfl⟩
    wp_walk using wpAny_loadPart' hl
    refine wpAny_stack_any fun st => wpAny_pure ?_
    split
    · rename_i c _ _ _ _ _
      cases (c == Value.type "enumerate")
      · wp_walk using wpAny_loadPart' hl, wpAny_pyIter_tuple hL
        exact ⟨_, rfl, h⟩
      · wp_walk using wpAny_loadPart' hl, wpAny_pyIter_tuple hL
        exact ⟨_, rfl, h⟩
    · wp_walk using wpAny_loadPart' hl, wpAny_pyIter_tuple hL
      exact ⟨_, rfl, h⟩
section
variable {prog : Program} {w : World} {A : Around} {E : Value → Shared → Prop} {s : Shared}
theorem call_enumerate_tuple {l : Addr} {items : Array Value} {Q : Value → Shared → Prop} (hL : s.heap.IsTuple l items)
    (h : ∀ h', IsEnum h' (s.heap.objs.size + 1) s.heap.objs.size 0 .none → h'.IsTupleIter s.heap.objs.size l 0 → h'.objs.size = s.heap.objs.size + 2 →
      (∀ b o, s.heap.get? b = some o → h'.get? b = some o) → Q (.ref (s.heap.objs.size + 1)) { s with heap := h' }) :
    wpAny (model prog w) A (call (.type "enumerate") [.ref l]) Q E s := by
  obtain ⟨⟨c, dct, dt, sl⟩, hl, hc, n, hd⟩ := hL
  replace hc : c = .type "tuple" := hc
  replace hd : dt = .seq items n := hd
  subst hc hd
  refine callType_new F.called_enumerate (by decide) (F.typeCall_enumerate_1 _) (F.newCall_enumerate_1 _) (fun obj => F.args_object_init_2 obj _) F.entry_enumerate_new
    (meets_enumerate_newT l items n dct sl) ⟨hl, ?_⟩
  have hz : (s.heap.push { cls := .type "tuple_iterator", data := .fields #[.ref l, .int 0 0] }).objs.size = s.heap.objs.size + 1 := Heap.size_push ..
  show _ ∧ _
  rw [hz]
  have he : IsEnum ((s.heap.push { cls := .type "tuple_iterator", data := .fields #[.ref l, .int 0 0] }).push
      { cls := .type "enumerate", data := .fields #[.none, .bool false, .ref s.heap.objs.size, rawInt 0, .none, .none] }) (s.heap.objs.size + 1) s.heap.objs.size 0 .none := by
    have := Heap.get?_push_size (s.heap.push { cls := .type "tuple_iterator", data := .fields #[.ref l, .int 0 0] })
      (o := { cls := .type "enumerate", data := .fields #[.none, .bool false, .ref s.heap.objs.size, rawInt 0, .none, .none] }) rfl
    rw [hz] at this; exact this
  refine ⟨⟨_, he, rfl⟩, h _ he ⟨_, Heap.get?_push_of_some _ (Heap.get?_push_size _ rfl), rfl, rfl⟩ (by rw [Heap.size_push, hz]) fun b o x => Heap.get?_push_of_some _ (Heap.get?_push_of_some _ x)⟩
end
def IteT (K : PySem.W.Frag) (a : Addr) : It :=
  ⟨fun i H => ∃ (xs : List V) (x : V), SqT K H a xs ∧ xs[i]? = some x, fun i H v H' => ∃ T x, v = .ref T ∧ H T = none ∧ H' = upd H T (.tup [.int (i : Nat), x]) ∧ ∀ xs, SqT K H a xs → xs[i]? = some x, fun i H => ∃ xs : List V, SqT K H a xs ∧ xs.length = i⟩
theorem turn_enumT {P : Program} {w : World} {K : PySem.W.Frag} {elts : List Expr} {kk : Nat} {tpos : Pos} (a e it : Addr) (hai : a ≠ it) (hae : a ≠ e) :
    Turn P w K (.Tuple elts kk tpos) (IteT K a) [e, it] e (fun i h => (∃ old, IsEnum h e it ((i : Nat) : Int) old) ∧ h.IsTupleIter it a i ∧ e ≠ it) where
  mem := by simp
  obj := fun i h st b hb => by
    obtain ⟨⟨old, he⟩, ⟨o, ho, hc, hd⟩, _⟩ := st
    have e' : b = e ∨ b = it := by simpa using hb
    rcases e' with z | z
    · rw [z]; exact ⟨_, he, fun v q => nomatch q⟩
    · rw [z]; exact ⟨o, ho, fun v q => by rw [hd] at q; cases q⟩
  keep := fun i h h' st k => let ⟨⟨old, he⟩, hi, hne⟩ := st; ⟨⟨old, k e (by simp) _ he⟩, hi.at fun o q => k it (by simp) o q, hne⟩
  item := by
    intro X hP hw hK hc i pins s σ H E I hf st hg
    subst hP hw hK
    obtain ⟨⟨old, he⟩, hit, hne⟩ := st
    obtain ⟨xs, x, hq, hx⟩ := hg
    obtain ⟨its, rv, p, hz⟩ := I.tuple hq
    obtain ⟨u, hu, ru⟩ := rv.get hx
    have hel : e < s.heap.objs.size := Heap.lt_size he
    have hil : it < s.heap.objs.size := by obtain ⟨_, q, _⟩ := hit; exact Heap.lt_size q
    have hlt : i < its.toArray.size := by
      have := (List.getElem?_eq_some_iff.mp hu).1
      simpa using this
    have hh : X.A.in1.handled = none := I.ok.hd hc
    refine wpAny_pyNext_enum_itemC (Draws.tuple hh it a hai its.toArray) he ⟨hit, (show s.heap.IsTuple a its.toArray from p)⟩ hlt hne (by simp; exact ⟨hne, fun z => hae z.symm⟩) fun y h' tk hy ho hst hT hsz hk => ?_
    have hyu : y = u := by
      have hy' : its.toArray[i]? = some y := hy
      have : its.toArray[i]? = some u := by simpa using hu
      rw [this] at hy'
      exact (Option.some.inj hy').symm
    subst hyu
    refine ⟨_, rfl, wpAny_letOwnedTupleGo_enum (s := { s with heap := h', toks := tk + 1 }) ho fun h'' he' sb => ?_⟩
    have hT2 : h''.get? s.heap.objs.size = some { cls := .type "tuple", data := .seq #[.int i tk, y] } := (sb.2 _ (Nat.ne_of_gt hel)).trans hT
    have new : ObjOk X.prog X.w (upd H s.heap.objs.size (.tup [.int (i : Nat), x])) h'' s.heap.objs.size (.tup [.int (i : Nat), x]) :=
      ⟨by show 2 ≤ sizeLine; decide, [.int i tk, y], .cons ⟨_, rfl⟩ (.cons ru .nil), ⟨_, hT2, rfl, _, rfl⟩⟩
    have I1 : Inv X pins σ (upd H s.heap.objs.size (.tup [.int (i : Nat), x])) { s with heap := h'', toks := tk + 1 } :=
      I.turnedNew (ch := [e, it]) (fun b ob hb q => (sb.2 b (fun z => hb (by simp [z]))).trans (hk b ob (fun z => hb (by simp [z])) (fun z => hb (by simp [z])) q)) hf (Nat.le_refl _) new
    refine ⟨.ref s.heap.objs.size, _, I1, rfl, ⟨_, x, rfl, I.hok.fresh (Nat.le_refl _), rfl, fun ys hy => by rw [I.tuple_inj hy hq]; exact hx⟩, ⟨⟨y, ?_⟩, hst.1.at fun o q => (sb.2 it (Ne.symm hne)).trans q, hne⟩, fun b hb => ?_⟩
    · have e1 : ((i + 1 : Nat) : Int) = (i : Int) + 1 := by omega
      rw [e1]; exact he'
    · have hb' : b < s.heap.objs.size := by
        have e' : b = e ∨ b = it := by simpa using hb
        rcases e' with z | z
        · rw [z]; exact hel
        · rw [z]; exact hil
      rw [upd_ne (Nat.ne_of_lt hb')]
      exact (hf b hb).1
  done := by
    intro X hP hw hK hc i pins s σ H E I hf st hg
    subst hP hw hK
    obtain ⟨⟨old, he⟩, hit, hne⟩ := st
    obtain ⟨xs, hq, hx⟩ := hg
    obtain ⟨its, rv, p, hz⟩ := I.tuple hq
    obtain ⟨f0, f1, f2, f3, f4, f5⟩ := hf it (by simp)
    have hl := rv.length
    have hh : X.A.in1.handled = none := I.ok.hd hc
    have hi : i = its.toArray.size := by simp; omega
    subst hi
    exact wpAny_pyNext_enum_endD (Draws.tuple hh it a hai its.toArray) he ⟨hit, (show s.heap.IsTuple a its.toArray from p)⟩ fun h' eb => ⟨rfl, I.turned (t' := s.toks) (fun b o hb q => eb b o hb q) f0 f1 f3 f4 f5⟩
  self := fun A i s Q E st h => let ⟨⟨_, he⟩, _⟩ := st; wpAny_pyIter_enum he h
def iEnumT (K : PySem.W.Frag) (ta : TA) : TI := fun σ H R => ta σ H fun vs H1 => ∃ a xs, vs = [.ref a] ∧ SqT K H1 a xs ∧ R (IteT K a) H1
theorem pi_enumT {X : Cx} {e : Expr} {ta : TA} {p pos tpos : Pos} {elts : List Expr} {kk : Nat} (hg : Gl X "enumerate") (hm : X.mg "enumerate" = none) (ha : PA X [e] ta) (hs : starEach [e] X.env = [(false, eval e X.env)] := by rfl) :
    PI X (.Tuple elts kk tpos) (.Call (.Name "enumerate" p) [e] [] pos) (iEnumT X.K ta) := by
  refine ⟨fun pins s σ H R I h => ?_⟩
  refine Call_ (ld_blt I hg hm boot_enumerate (PyProof.Rows.callWith_type1 (thn (ha.run pos pins s σ H _ I h) fun us s1 ⟨vs, H1, I1, r1, q1⟩ => ?_) hs rfl))
  obtain ⟨a, xs, ex, hq, q⟩ := q1
  subst ex
  cases r1 with
  | cons r rr =>
    cases rr
    cases r
    obtain ⟨its, rv, p', hz⟩ := I1.tuple hq
    have hT : s1.heap.IsTuple a its.toArray := p'
    have hal : a < s1.heap.objs.size := by obtain ⟨_, q, _⟩ := hT; exact Heap.lt_size q
    refine call_enumerate_tuple hT fun h' he hit hsz hk => wpAny_pyIter_enum he ?_
    have I2 : Inv X pins σ H1 { s1 with heap := h' } := I1.kept (t' := s1.toks) hk
    refine ⟨s1.heap.objs.size + 1, [s1.heap.objs.size + 1, s1.heap.objs.size], _, _, H1, rfl, I2, turn_enumT a (s1.heap.objs.size + 1) s1.heap.objs.size (Nat.ne_of_lt hal) (Nat.ne_of_lt (Nat.lt_succ_of_lt hal)), ⟨⟨.none, he⟩, hit, Nat.succ_ne_self _⟩, fun b hb => ?_, q⟩
    have e' : b = s1.heap.objs.size + 1 ∨ b = s1.heap.objs.size := by simpa using hb
    have hle : s1.heap.objs.size ≤ b := by
      rcases e' with z | z
      · rw [z]; exact Nat.le_add_right _ _
      · rw [z]; exact Nat.le_refl _
    exact I1.fpOk hle (I1.hok.fresh hle)
theorem walk_enumT {K : PySem.W.Frag} {a : Addr} {xs : List V} : Walk (IteT K a) xs.length (fun H => SqT K H a xs) (YPair (fun i => some (.int (i : Nat))) (fun i => xs[i]?)) := by
  refine ⟨fun i _ hi q => ⟨xs, xs[i], q, by simp [hi]⟩, fun _ q => ⟨xs, q, rfl⟩, fun i H v H' _ q y => ?_⟩
  obtain ⟨T, x, h1, h2, h3, h4⟩ := y
  exact ⟨T, .int (i : Nat), x, h1, h2, h3, rfl, h4 xs q⟩
end DN
namespace DN
open PySem PySem.Spec PyProof.Rows L2 RZ ND
variable {B : Sto}
def YIt (K : PySem.W.Frag) (cl : CTab) (Z : Zp) (ds : List D) : Nat → Hp → V → Hp → Prop := fun i H x H' => ∃ d, ds[i]? = some d ∧ ∀ Zc, SubZ Z Zc → Sub Zc H → ∃ Zc', Al Zc H Zc' H' ∧ Rep K cl Zc' x d
def ItR (K : PySem.W.Frag) (cl : CTab) (Z : Zp) (J : It) (ds : List D) : Prop := Walk J ds.length (fun H => Sub Z.h H) (YIt K cl Z ds) ∧ ds.length ≤ sizeLine
abbrev RpI (K : PySem.W.Frag) (cl : CTab) : Zp → It → List D → Prop := fun Z J ds => ItR K cl Z J ds
def DI (cl : CTab) (B : Sto) (md : Bool) (W : WX) (X : Cx) (tg e : Expr) (f : Env → M B (List D)) : Prop := PI X tg e (tG X.K cl B md (RpI X.K cl) W f)
theorem PI.weak {X : Cx} {tg e : Expr} {t t' : TI} (h : PI X tg e t) (w : ∀ σ H Q, t' σ H Q → t σ H Q) : PI X tg e t' := ⟨fun pins s σ H Q I q => h.run pins s σ H Q I (w σ H Q q)⟩
theorem PI.or {X : Cx} {tg e : Expr} {t t' : TI} (h : PI X tg e t) (h' : PI X tg e t') : PI X tg e (fun σ H Q => t σ H Q ∨ t' σ H Q) :=
  ⟨fun pins s σ H Q I q => q.elim (h.run pins s σ H Q I) (h'.run pins s σ H Q I)⟩
section
variable {K : PySem.W.Frag} {cl : CTab} {Z : Zp}
theorem it_list {a : Addr} {vs : List V} {ds : List D} (h : SqR K Z.h a vs) (hz : vs.length ≤ sizeLine) (r : RepL K cl Z vs ds) : ItR K cl Z (Itl K a) ds := by
  refine ⟨?_, by rw [← r.len]; exact hz⟩
  rw [← r.len]
  refine walk_list.mono (fun H s => SqL.sub s h) fun i H x H' hi s ⟨e, q⟩ => ?_
  obtain ⟨d, h1, h2⟩ := r.getV q
  refine ⟨d, h1, fun Zc a b => ⟨Zc, by rw [e]; exact .refl b, h2.mono a⟩⟩
theorem it_tup {a : Addr} {vs : List V} {ds : List D} (h : Z a = some (.tup vs)) (hz : vs.length ≤ sizeLine) (r : RepL K cl Z vs ds) : ItR K cl Z (Itt K a) ds := by
  refine ⟨?_, by rw [← r.len]; exact hz⟩
  rw [← r.len]
  refine walk_tup.mono (fun H s => sq_t (K := K) (s _ _ h)) fun i H x H' hi s ⟨e, q⟩ => ?_
  obtain ⟨d, h1, h2⟩ := r.getV q
  refine ⟨d, h1, fun Zc a b => ⟨Zc, by rw [e]; exact .refl b, h2.mono a⟩⟩
theorem it_str {z : Str} (hz : z.length ≤ sizeLine) (ok : PyData.strOk z = true) : ItR K cl Z (Its z) (z.cps.toList.map fun c => .str ⟨#[c]⟩) := by
  refine ⟨?_, by rw [List.length_map, Array.length_toList]; exact hz⟩
  rw [List.length_map, Array.length_toList]
  refine walk_str.mono (fun H s => trivial) fun i H x H' hi s ⟨e, c, q, hx⟩ => ?_
  have q' : z.cps.toList[i]? = some c := by simpa using q
  refine ⟨.str ⟨#[c]⟩, by rw [List.getElem?_map, q']; rfl, fun Zc a b => ⟨Zc, by rw [e]; exact .refl b, ?_⟩⟩
  rw [hx]
  exact .str (by show 1 ≤ sizeLine; decide) (strOk_one ok (List.mem_of_getElem? q'))
theorem it_range {lo : Int} {n : Nat} (hz : n ≤ sizeLine) : ItR K cl Z (Itr lo n) ((List.range n).map fun i : Nat => .int (lo + (i : Int))) := by
  refine ⟨?_, by rw [List.length_map, List.length_range]; exact hz⟩
  rw [List.length_map, List.length_range]
  refine walk_range.mono (fun H s => trivial) fun i H x H' hi s ⟨e, hx⟩ => ?_
  refine ⟨.int (lo + (i : Int)), by rw [List.getElem?_map, List.getElem?_range hi]; rfl, fun Zc a b => ⟨Zc, by rw [e]; exact .refl b, ?_⟩⟩
  rw [hx]; exact .int _
theorem y_pair {xs ys : Nat → Option V} {i : Nat} {H H' : Hp} {v : V} {dx dy : D} {x y : V} {T : Addr} (hv : v = .ref T) (hT : H T = none) (hH : H' = upd H T (.tup [x, y])) (rx : ∀ Zc, SubZ Z Zc → Rep K cl Zc x dx) (ry : ∀ Zc, SubZ Z Zc → Rep K cl Zc y dy) :
    ∀ Zc, SubZ Z Zc → Sub Zc H → ∃ Zc', Al Zc H Zc' H' ∧ Rep K cl Zc' v (.tup [dx, dy]) := by
  subst hv hH
  intro Zc a b
  have al : Al Zc H (upz Zc T (.tup [x, y])) (upd H T (.tup [x, y])) := .new b hT (fun _ z => nomatch z)
  exact ⟨_, al, .tup upd_same (by show 2 ≤ sizeLine; decide) (.cons (rx _ (a.trans al.zz)) (.cons (ry _ (a.trans al.zz)) .nil))⟩
def enumL : Nat → List D → List D
  | _, [] => []
  | i, d :: ds => .tup [.int i, d] :: enumL (i + 1) ds
theorem enumL_len : ∀ (i : Nat) (ds : List D), (enumL i ds).length = ds.length
  | _, [] => rfl
  | i, d :: ds => by simp [enumL, enumL_len (i + 1) ds]
theorem enumL_get : ∀ (j : Nat) (ds : List D) (i : Nat) (d : D), ds[i]? = some d → (enumL j ds)[i]? = some (.tup [.int ((j + i : Nat) : Int), d])
  | _, [], _, _, h => by simp at h
  | j, e :: ds, 0, d, h => by simp at h; subst h; simp [enumL]
  | j, e :: ds, i + 1, d, h => by
    have := enumL_get (j + 1) ds i d (by simpa using h)
    simp only [enumL, List.getElem?_cons_succ, this]
    rw [show j + 1 + i = j + (i + 1) by omega]
theorem it_enum {J : It} {vs : List V} {ds : List D} (hz : vs.length ≤ sizeLine) (r : RepL K cl Z vs ds) (w : Walk J vs.length (fun H => Sub Z H) (YPair (fun i => some (.int (i : Nat))) (fun i => vs[i]?))) : ItR K cl Z J (enumL 0 ds) := by
  refine ⟨?_, by rw [enumL_len, ← r.len]; exact hz⟩
  rw [enumL_len, ← r.len]
  refine w.mono (fun H s => s) fun i H v H' hi s ⟨T, x, y, h1, h2, h3, h4, h5⟩ => ?_
  obtain ⟨d, e1, e2⟩ := r.getV h5
  have ex : x = .int (i : Nat) := (Option.some.inj h4).symm
  subst ex
  refine ⟨_, enumL_get 0 ds i d e1, ?_⟩
  rw [Nat.zero_add]
  exact y_pair (xs := fun _ => none) (ys := fun _ => none) (i := 0) h1 h2 h3 (fun Zc _ => .int _) (fun Zc a => e2.mono a)
def zipL : List D → List D → List D
  | x :: xs, y :: ys => .tup [x, y] :: zipL xs ys
  | _, _ => []
theorem zipL_len : ∀ (xs ys : List D), (zipL xs ys).length = min xs.length ys.length
  | [], _ => by simp [zipL]
  | _ :: _, [] => by simp [zipL]
  | x :: xs, y :: ys => by simp [zipL, zipL_len xs ys]
theorem zipL_get : ∀ (xs ys : List D) (i : Nat) (d e : D), xs[i]? = some d → ys[i]? = some e → (zipL xs ys)[i]? = some (.tup [d, e])
  | [], _, _, _, _, h, _ => by simp at h
  | _ :: _, [], _, _, _, _, h => by simp at h
  | x :: xs, y :: ys, 0, d, e, h, h' => by simp at h h'; subst h h'; simp [zipL]
  | x :: xs, y :: ys, i + 1, d, e, h, h' => by
    simp only [zipL, List.getElem?_cons_succ]
    exact zipL_get xs ys i d e (by simpa using h) (by simpa using h')
theorem it_zip {J : It} {vs ws : List V} {ds es : List D} (hz : vs.length ≤ sizeLine) (r : RepL K cl Z vs ds) (r' : RepL K cl Z ws es) (w : Walk J (min vs.length ws.length) (fun H => Sub Z H) (YPair (fun i => vs[i]?) (fun i => ws[i]?))) : ItR K cl Z J (zipL ds es) := by
  refine ⟨?_, by rw [zipL_len, ← r.len]; omega⟩
  rw [zipL_len, ← r.len, ← r'.len]
  refine w.mono (fun H s => s) fun i H v H' hi s ⟨T, x, y, h1, h2, h3, h4, h5⟩ => ?_
  obtain ⟨d, e1, e2⟩ := r.getV h4
  obtain ⟨d', e1', e2'⟩ := r'.getV h5
  exact ⟨_, zipL_get ds es i d d' e1 e1', y_pair (xs := fun _ => none) (ys := fun _ => none) (i := 0) h1 h2 h3 (fun Zc a => e2.mono a) (fun Zc a => e2'.mono a)⟩
theorem walk_zipT {K : PySem.W.Frag} {a b : Addr} {xs ys : List V} {n : Nat} (hn : n = min xs.length ys.length) : Walk (ItzT K a b) n (fun H => SqT K H a xs ∧ SqT K H b ys) (YPair (fun i => xs[i]?) (fun i => ys[i]?)) := by
  subst hn
  refine ⟨fun i _ hi q => ?_, fun _ q => ⟨xs, ys, q.1, q.2, by omega⟩, fun i H v H' _ q y => ?_⟩
  · have h1 : i < xs.length := by omega
    have h2 : i < ys.length := by omega
    exact ⟨xs, ys, xs[i], ys[i], q.1, q.2, by simp [h1], by simp [h2]⟩
  · obtain ⟨T, x, z, h1, h2, h3, h4, h5⟩ := y
    exact ⟨T, x, z, h1, h2, h3, h4 xs q.1, h5 ys q.2⟩
end
end DN
namespace DN
open PySem PySem.Spec PyProof.Rows L2 RZ ND
variable {B : Sto}
abbrev tupI (x : D) : Option (List D) := match x with
  | .tup xs => some xs
  | _ => none
abbrev listI (x : D) : Option (List D) := match x with
  | .lst xs => some xs
  | _ => none
abbrev strI (x : D) : Option (List D) := match x with
  | .str z => some (z.cps.toList.map fun c => .str ⟨#[c]⟩)
  | _ => none
abbrev anyI (x : D) : Option (List D) := match x with
  | .tup xs => some xs
  | .lst xs => some xs
  | .str z => some (z.cps.toList.map fun c => .str ⟨#[c]⟩)
  | _ => none
abbrev enumTI (x : D) : Option (List D) := match x with
  | .tup xs => some (enumL 0 xs)
  | _ => none
abbrev enumLI (x : D) : Option (List D) := match x with
  | .lst xs => some (enumL 0 xs)
  | _ => none
abbrev enumI (x : D) : Option (List D) := match x with
  | .tup xs => some (enumL 0 xs)
  | .lst xs => some (enumL 0 xs)
  | _ => none
abbrev zipTI (x y : D) : Option (List D) := match x, y with
  | .tup xs, .tup ys => some (zipL xs ys)
  | _, _ => none
abbrev zipLI (x y : D) : Option (List D) := match x, y with
  | .lst xs, .lst ys => some (zipL xs ys)
  | _, _ => none
abbrev zipI (x y : D) : Option (List D) := match x, y with
  | .tup xs, .tup ys => some (zipL xs ys)
  | .lst xs, .lst ys => some (zipL xs ys)
  | _, _ => none
section
variable {cl : CTab} {md : Bool} {W : WX} {X : Cx} {tg : Expr}
theorem di_tup {e : Expr} {f : Env → M B D} (h : DE cl B md W X e f) : DI cl B md W X tg e fun ρ => M.bind (f ρ) fun x => lift (tupI x) := by
  refine PI.weak (pi_tup h) fun σ H Q ⟨Z, C, s, ρ, w, e, p⟩ => ?_
  refine ⟨Z, C, s, ρ, w, e, Post.seq w.ch p fun dx s1 x Z1 C1 H1 w1 n1 r1 p1 => ?_⟩
  obtain ⟨ds, hd, q⟩ := post_liftG w1 p1
  cases dx <;> (try (cases hd; done))
  cases hd
  cases r1 with
  | tup a b c => exact ⟨_, rfl, ⟨_, sq_t (w1.zh _ _ a)⟩, q _ (it_tup a b c)⟩
theorem di_list {e : Expr} {f : Env → M B D} (h : DE cl B md W X e f) : DI cl B md W X tg e fun ρ => M.bind (f ρ) fun x => lift (listI x) := by
  refine PI.weak (pi_list h) fun σ H Q ⟨Z, C, s, ρ, w, e, p⟩ => ?_
  refine ⟨Z, C, s, ρ, w, e, Post.seq w.ch p fun dx s1 x Z1 C1 H1 w1 n1 r1 p1 => ?_⟩
  obtain ⟨ds, hd, q⟩ := post_liftG w1 p1
  cases dx <;> (try (cases hd; done))
  cases hd
  cases r1 with
  | slst a b c => exact ⟨_, rfl, ⟨_, SqL.sub w1.zh a⟩, q _ (it_list a b c)⟩
theorem di_str {e : Expr} {f : Env → M B D} (h : DE cl B md W X e f) : DI cl B md W X tg e fun ρ => M.bind (f ρ) fun x => lift (strI x) := by
  refine PI.weak (pi_str h) fun σ H Q ⟨Z, C, s, ρ, w, e, p⟩ => ?_
  refine ⟨Z, C, s, ρ, w, e, Post.seq w.ch p fun dx s1 x Z1 C1 H1 w1 n1 r1 p1 => ?_⟩
  obtain ⟨ds, hd, q⟩ := post_liftG w1 p1
  cases dx <;> (try (cases hd; done))
  cases hd
  cases r1 with
  | str a b => exact ⟨_, rfl, q _ (it_str a b)⟩
theorem di_any {e : Expr} {f : Env → M B D} (h : DE cl B md W X e f) : DI cl B md W X tg e fun ρ => M.bind (f ρ) fun x => lift (anyI x) := by
  refine PI.weak (PI.or (di_tup (tg := tg) h) (PI.or (di_list (tg := tg) h) (di_str (tg := tg) h))) fun σ H Q ⟨Z, C, s, ρ, w, e, p⟩ => ?_
  cases ef : f ρ s with
  | stuck => refine .inl ⟨Z, C, s, ρ, w, e, ?_⟩; unfold M.bind at p ⊢; simp only [ef] at p ⊢; exact p
  | err x s1 => refine .inl ⟨Z, C, s, ρ, w, e, ?_⟩; unfold M.bind at p ⊢; simp only [ef] at p ⊢; exact p
  | ok d s1 =>
    cases d with
    | lst xs => refine .inr (.inl ⟨Z, C, s, ρ, w, e, ?_⟩); unfold M.bind at p ⊢; simp only [ef] at p ⊢; exact p
    | str xs => refine .inr (.inr ⟨Z, C, s, ρ, w, e, ?_⟩); unfold M.bind at p ⊢; simp only [ef] at p ⊢; exact p
    | tup xs => refine .inl ⟨Z, C, s, ρ, w, e, ?_⟩; unfold M.bind at p ⊢; simp only [ef] at p ⊢; exact p
    | _ => refine .inl ⟨Z, C, s, ρ, w, e, ?_⟩; unfold M.bind at p ⊢; simp only [ef] at p ⊢; exact p
def range1 : D → Option (List D)
  | .int j => if -100000 ≤ j ∧ j ≤ 100000 then some ((List.range j.toNat).map fun i : Nat => .int (i : Int)) else none
  | _ => none
def range2 : D → D → Option (List D)
  | .int i, .int j => if -100000 ≤ i ∧ i ≤ 100000 ∧ -100000 ≤ j ∧ j ≤ 100000 then some ((List.range (j - i).toNat).map fun k : Nat => .int (i + (k : Int))) else none
  | _, _ => none
theorem toNat_small {j : Int} (h : j ≤ 200000) : j.toNat ≤ sizeLine := by rw [sizeLine_eq]; omega
theorem di_range1 {a : Expr} {f : Env → M B D} {p pos : Pos} (hg : Gl X "range") (hm : X.mg "range" = none) (ha : DE cl B md W X a f) (hs : starEach [a] X.env = [(false, eval a X.env)] := by rfl) :
    DI cl B md W X tg (.Call (.Name "range" p) [a] [] pos) fun ρ => M.bind (f ρ) fun x => lift (range1 x) := by
  refine PI.weak (pi_range1 hg hm (pa_cons ha pa_nil hs) hs) fun σ H Q ⟨Z, C, s, ρ, w, e, p⟩ => ?_
  refine ⟨Z, C, s, ρ, w, e, Post.seq w.ch p fun dx s1 x Z1 C1 H1 w1 n1 r1 p1 => ?_⟩
  obtain ⟨ds, hd, q⟩ := post_liftG w1 p1
  unfold range1 at hd
  split at hd
  · split at hd <;> cases hd
    rename_i j hj
    cases r1
    refine ⟨j, rfl, by omega, by omega, ?_⟩
    have := it_range (K := X.K) (cl := cl) (Z := Z1) (lo := 0) (n := j.toNat) (toNat_small (by omega))
    have e0 : ((List.range j.toNat).map fun i : Nat => D.int (0 + (i : Int))) = (List.range j.toNat).map fun i : Nat => D.int (i : Int) := List.map_congr_left fun i _ => by rw [Int.zero_add]
    rw [e0] at this
    exact q _ this
  · cases hd
theorem di_range2 {a b : Expr} {f g : Env → M B D} {p pos : Pos} (hg : Gl X "range") (hm : X.mg "range" = none) (ha : DE cl B md W X a f) (hb : DE cl B md W X b g) (hs : starEach [a, b] X.env = [(false, eval a X.env), (false, eval b X.env)] := by rfl) (hs2 : starEach [b] X.env = [(false, eval b X.env)] := by rfl) :
    DI cl B md W X tg (.Call (.Name "range" p) [a, b] [] pos) fun ρ => M.bind (f ρ) fun x => M.bind (g ρ) fun y => lift (range2 x y) := by
  refine PI.weak (pi_range2 hg hm (pa_cons ha (pa_cons hb pa_nil hs2) (hs.trans (by rw [hs2]))) hs hs2) fun σ H Q ⟨Z, C, s, ρ, w, e, p⟩ => ?_
  refine ⟨Z, C, s, ρ, w, e, Post.seq w.ch p fun dx s1 x Z1 C1 H1 w1 n1 r1 p1 => ?_⟩
  refine ⟨Z1, C1, s1, ρ, w1, e.mono n1.zz, Post.seq w1.ch p1 fun dy s2 y Z2 C2 H2 w2 n2 r2 p2 => ?_⟩
  obtain ⟨ds, hd, q⟩ := post_liftG w2 p2
  unfold range2 at hd
  split at hd
  · split at hd <;> cases hd
    rename_i i j hj
    cases r1; cases r2
    exact ⟨i, j, rfl, by omega, q _ (it_range (toNat_small (by omega)))⟩
  · cases hd
theorem di_enumT {a : Expr} {f : Env → M B D} {elts : List Expr} {kk : Nat} {tpos p pos : Pos} (hg : Gl X "enumerate") (hm : X.mg "enumerate" = none) (ha : DE cl B md W X a f) (hs : starEach [a] X.env = [(false, eval a X.env)] := by rfl) :
    DI cl B md W X (.Tuple elts kk tpos) (.Call (.Name "enumerate" p) [a] [] pos) fun ρ => M.bind (f ρ) fun x => lift (enumTI x) := by
  refine PI.weak (pi_enumT hg hm (pa_cons ha pa_nil hs) hs) fun σ H Q ⟨Z, C, s, ρ, w, e, p⟩ => ?_
  refine ⟨Z, C, s, ρ, w, e, Post.seq w.ch p fun dx s1 x Z1 C1 H1 w1 n1 r1 p1 => ?_⟩
  obtain ⟨ds, hd, q⟩ := post_liftG w1 p1
  cases dx <;> (try (cases hd; done))
  cases hd
  cases r1 with
  | tup a b c =>
    refine ⟨_, _, rfl, sq_t (w1.zh _ _ a), q _ ?_⟩
    exact it_enum b c (walk_enumT.mono (fun H s => sq_t (s _ _ a)) fun _ _ _ _ _ _ y => y)
theorem di_enumL {a : Expr} {f : Env → M B D} {elts : List Expr} {kk : Nat} {tpos p pos : Pos} (hg : Gl X "enumerate") (hm : X.mg "enumerate" = none) (ha : DE cl B md W X a f) (hs : starEach [a] X.env = [(false, eval a X.env)] := by rfl) :
    DI cl B md W X (.Tuple elts kk tpos) (.Call (.Name "enumerate" p) [a] [] pos) fun ρ => M.bind (f ρ) fun x => lift (enumLI x) := by
  refine PI.weak (pi_enum hg hm (pa_cons ha pa_nil hs) hs) fun σ H Q ⟨Z, C, s, ρ, w, e, p⟩ => ?_
  refine ⟨Z, C, s, ρ, w, e, Post.seq w.ch p fun dx s1 x Z1 C1 H1 w1 n1 r1 p1 => ?_⟩
  obtain ⟨ds, hd, q⟩ := post_liftG w1 p1
  cases dx <;> (try (cases hd; done))
  cases hd
  cases r1 with
  | slst a b c =>
    refine ⟨_, _, rfl, SqL.sub w1.zh a, q _ ?_⟩
    exact it_enum b c (walk_enum.mono (fun H s => SqL.sub (show Sub Z1 H from s) a) fun _ _ _ _ _ _ y => y)
theorem di_enum {a : Expr} {f : Env → M B D} {elts : List Expr} {kk : Nat} {tpos p pos : Pos} (hg : Gl X "enumerate") (hm : X.mg "enumerate" = none) (ha : DE cl B md W X a f) (hs : starEach [a] X.env = [(false, eval a X.env)] := by rfl) :
    DI cl B md W X (.Tuple elts kk tpos) (.Call (.Name "enumerate" p) [a] [] pos) fun ρ => M.bind (f ρ) fun x => lift (enumI x) := by
  refine PI.weak (PI.or (di_enumT hg hm ha hs) (di_enumL hg hm ha hs)) fun σ H Q ⟨Z, C, s, ρ, w, e, p⟩ => ?_
  cases ef : f ρ s with
  | stuck => refine .inl ⟨Z, C, s, ρ, w, e, ?_⟩; unfold M.bind at p ⊢; simp only [ef] at p ⊢; exact p
  | err x s1 => refine .inl ⟨Z, C, s, ρ, w, e, ?_⟩; unfold M.bind at p ⊢; simp only [ef] at p ⊢; exact p
  | ok d s1 =>
    cases d with
    | lst xs => refine .inr ⟨Z, C, s, ρ, w, e, ?_⟩; unfold M.bind at p ⊢; simp only [ef] at p ⊢; exact p
    | _ => refine .inl ⟨Z, C, s, ρ, w, e, ?_⟩; unfold M.bind at p ⊢; simp only [ef] at p ⊢; exact p
theorem di_zipT {a b : Expr} {f g : Env → M B D} {elts : List Expr} {kk : Nat} {tpos p pos : Pos} (hg : Gl X "zip") (hm : X.mg "zip" = none) (ha : DE cl B md W X a f) (hb : DE cl B md W X b g)
    (hs : starEach [a, b] X.env = (false, eval a X.env) :: starEach [b] X.env := by rfl) (hs2 : starEach [b] X.env = [(false, eval b X.env)] := by rfl) (hpl : (backTo pos (starEach [b] X.env)).any (·.1) = false := by rfl) :
    DI cl B md W X (.Tuple elts kk tpos) (.Call (.Name "zip" p) [a, b] [] pos) fun ρ => M.bind (f ρ) fun x => M.bind (g ρ) fun y => lift (zipTI x y) := by
  refine PI.weak (pi_zipA hg hm (pa_cons ha (pa_cons hb pa_nil hs2) hs) hs hpl) fun σ H Q ⟨Z, C, s, ρ, w, e, p⟩ => ?_
  refine ⟨Z, C, s, ρ, w, e, Post.seq w.ch p fun dx s1 x Z1 C1 H1 w1 n1 r1 p1 => ?_⟩
  refine ⟨Z1, C1, s1, ρ, w1, e.mono n1.zz, Post.seq w1.ch p1 fun dy s2 y Z2 C2 H2 w2 n2 r2 p2 => ?_⟩
  obtain ⟨ds, hd, q⟩ := post_liftG w2 p2
  cases dx <;> (try (cases hd; done))
  cases dy <;> (try (cases hd; done))
  cases hd
  have r1 := r1.mono n2.zz
  cases r1 with
  | tup a b c =>
    cases r2 with
    | tup a' b' c' =>
      refine ⟨_, _, _, _, rfl, .inr ⟨sq_t (w2.zh _ _ a), sq_t (w2.zh _ _ a'), q _ ?_⟩⟩
      exact it_zip b c c' ((walk_zipT rfl).mono (fun H s => ⟨sq_t (s _ _ a), sq_t (s _ _ a')⟩) fun _ _ _ _ _ _ y => y)
theorem di_zipL {a b : Expr} {f g : Env → M B D} {elts : List Expr} {kk : Nat} {tpos p pos : Pos} (hg : Gl X "zip") (hm : X.mg "zip" = none) (ha : DE cl B md W X a f) (hb : DE cl B md W X b g)
    (hs : starEach [a, b] X.env = (false, eval a X.env) :: starEach [b] X.env := by rfl) (hs2 : starEach [b] X.env = [(false, eval b X.env)] := by rfl) (hpl : (backTo pos (starEach [b] X.env)).any (·.1) = false := by rfl) :
    DI cl B md W X (.Tuple elts kk tpos) (.Call (.Name "zip" p) [a, b] [] pos) fun ρ => M.bind (f ρ) fun x => M.bind (g ρ) fun y => lift (zipLI x y) := by
  refine PI.weak (pi_zipA hg hm (pa_cons ha (pa_cons hb pa_nil hs2) hs) hs hpl) fun σ H Q ⟨Z, C, s, ρ, w, e, p⟩ => ?_
  refine ⟨Z, C, s, ρ, w, e, Post.seq w.ch p fun dx s1 x Z1 C1 H1 w1 n1 r1 p1 => ?_⟩
  refine ⟨Z1, C1, s1, ρ, w1, e.mono n1.zz, Post.seq w1.ch p1 fun dy s2 y Z2 C2 H2 w2 n2 r2 p2 => ?_⟩
  obtain ⟨ds, hd, q⟩ := post_liftG w2 p2
  cases dx <;> (try (cases hd; done))
  cases dy <;> (try (cases hd; done))
  cases hd
  have r1 := r1.mono n2.zz
  cases r1 with
  | slst a b c =>
    cases r2 with
    | slst a' b' c' =>
      refine ⟨_, _, _, _, rfl, .inl ⟨SqL.sub w2.zh a, SqL.sub w2.zh a', q _ ?_⟩⟩
      exact it_zip b c c' ((walk_zip rfl).mono (fun H s => ⟨SqL.sub s a, SqL.sub s a'⟩) fun _ _ _ _ _ _ y => y)
theorem di_zip {a b : Expr} {f g : Env → M B D} {elts : List Expr} {kk : Nat} {tpos p pos : Pos} (hg : Gl X "zip") (hm : X.mg "zip" = none) (ha : DE cl B md W X a f) (hb : DE cl B md W X b g)
    (hs : starEach [a, b] X.env = (false, eval a X.env) :: starEach [b] X.env := by rfl) (hs2 : starEach [b] X.env = [(false, eval b X.env)] := by rfl) (hpl : (backTo pos (starEach [b] X.env)).any (·.1) = false := by rfl) :
    DI cl B md W X (.Tuple elts kk tpos) (.Call (.Name "zip" p) [a, b] [] pos) fun ρ => M.bind (f ρ) fun x => M.bind (g ρ) fun y => lift (zipI x y) := by
  refine PI.weak (PI.or (di_zipT hg hm ha hb hs hs2 hpl) (di_zipL hg hm ha hb hs hs2 hpl)) fun σ H Q ⟨Z, C, s, ρ, w, e, p⟩ => ?_
  cases ef : f ρ s with
  | stuck => refine .inl ⟨Z, C, s, ρ, w, e, ?_⟩; unfold M.bind at p ⊢; simp only [ef] at p ⊢; exact p
  | err x s1 => refine .inl ⟨Z, C, s, ρ, w, e, ?_⟩; unfold M.bind at p ⊢; simp only [ef] at p ⊢; exact p
  | ok d s1 =>
    cases eg : g ρ s1 with
    | stuck => refine .inl ⟨Z, C, s, ρ, w, e, ?_⟩; unfold M.bind at p ⊢; simp only [ef, eg] at p ⊢; exact p
    | err x s1 => refine .inl ⟨Z, C, s, ρ, w, e, ?_⟩; unfold M.bind at p ⊢; simp only [ef, eg] at p ⊢; exact p
    | ok d' s2 =>
      cases d with
      | lst xs => 
        cases d' with
        | lst ys => refine .inr ⟨Z, C, s, ρ, w, e, ?_⟩; unfold M.bind at p ⊢; simp only [ef, eg] at p ⊢; exact p
        | _ => refine .inl ⟨Z, C, s, ρ, w, e, ?_⟩; unfold M.bind at p ⊢; simp only [ef, eg] at p ⊢; exact p
      | tup xs =>
        cases d' with
        | tup ys => refine .inl ⟨Z, C, s, ρ, w, e, ?_⟩; unfold M.bind at p ⊢; simp only [ef, eg] at p ⊢; exact p
        | _ => refine .inl ⟨Z, C, s, ρ, w, e, ?_⟩; unfold M.bind at p ⊢; simp only [ef, eg] at p ⊢; exact p
      | _ => refine .inl ⟨Z, C, s, ρ, w, e, ?_⟩; unfold M.bind at p ⊢; simp only [ef, eg] at p ⊢; exact p
end
end DN
namespace DN
open PySem PySem.Spec PyProof.Rows L2 RZ ND
variable {B : Sto}
def OwnR (K : PySem.W.Frag) (cl : CTab) (Z : Zp) (H : Hp) (a : Addr) : D → Prop
  | .lst ds => ∃ vs, H a = some (.lst vs) ∧ vs.length ≤ sizeLine ∧ RepL K cl Z vs ds
  | .dct ks ds => ∃ (o : HO) (kvs : List (GK × V)), H a = some o ∧ DKV cl Z.h a o kvs ∧ ks = kvs.map (fun p => keyD p.1) ∧ KNd kvs ∧ RepL K cl Z (kvs.map (·.2)) ds
  | .ins c ds => ∃ (C dx : Addr) (fs : List (Str × V)) (names : List Str), cl c = some (C, names) ∧ H a = some (.ins C dx fs) ∧ fs.map (·.1) = names.take ds.length ∧ RepL K cl Z (fs.map (·.2)) ds
  | _ => False
theorem OwnR.move {K : PySem.W.Frag} {cl : CTab} {Z Z' : Zp} {H H' : Hp} {a : Addr} (h : SubZ Z Z') (hh : ∀ o, H a = some o → H' a = some o) : ∀ {d : D}, OwnR K cl Z H a d → OwnR K cl Z' H' a d
  | .lst ds, ⟨vs, a, b, c⟩ => ⟨vs, hh _ a, b, c.mono h⟩
  | .dct ks ds, ⟨o, vs, a, b, c, d, e⟩ => ⟨o, vs, hh _ a, b.mono fun _ _ q => h.h _ _ q, c, d, e.mono h⟩
  | .ins c ds, ⟨C, dx, fs, ns, a, b, c1, e⟩ => ⟨C, dx, fs, ns, a, hh _ b, c1, e.mono h⟩
theorem OwnR.mono {K : PySem.W.Frag} {cl : CTab} {Z Z' : Zp} {H : Hp} {a : Addr} (h : SubZ Z Z') {d : D} (o : OwnR K cl Z H a d) : OwnR K cl Z' H a d := o.move h fun _ e => e
section
variable {K : PySem.W.Frag} {cl : CTab} {md : Bool} {W : WX} {σ : L2.St} {Z Z1 : Zp} {C H C1 H1 : Hp}
def PostO (K : PySem.W.Frag) (cl : CTab) (md : Bool) (W : WX) (σ : L2.St) (Z : Zp) (C H : Hp) (r : Res B.T D) (Q : VK) : Prop :=
  match r with
  | .ok d s => ∀ a Z' C' H', Wd B md Z' C' H' s → Nx Z C H Z' C' H' → H a = none → Z' a = none → C' a = none → OwnR K cl Z' H' a d → Q (.ref a) H'
  | .err x s => ∀ c dx Z' C' H', Wd B md Z' C' H' s → Nx Z C H Z' C' H' → ExR K cl Z' C' x c dx H' → W c dx σ H'
  | .stuck => False
theorem Nx.back (n : Nx Z C H Z1 C1 H1) (c1 : Sub C1 H1) {a : Addr} (h : H1 a = none) : H a = none := by
  cases q : H a with
  | none => rfl
  | some o =>
    cases c : C a with
    | none => rw [n.hh a o q c] at h; cases h
    | some u =>
      obtain ⟨u1, e1⟩ := ne_some (n.cp a (some_ne c))
      rw [c1 a u1 e1] at h; cases h
theorem PostO.step {r : Res B.T D} {Q : VK} (n : Nx Z C H Z1 C1 H1) (c0 : Sub C H) (c1 : Sub C1 H1) (h : PostO K cl md W σ Z C H r Q) : PostO K cl md W σ Z1 C1 H1 r Q := by
  cases r with
  | ok a s => exact fun v Z' C' H' w m f => h v Z' C' H' w (n.trans c0 c1 m) (n.back c1 f)
  | err x s => exact fun c dx Z' C' H' w m => h c dx Z' C' H' w (n.trans c0 c1 m)
  | stuck => exact h
theorem PostO.seq {υ α : Type} {Rp : Zp → υ → α → Prop} {m : M B α} {k : α → M B D} {s : B.T} {Q : VK} {Q1 : υ → Hp → Prop} (c0 : Sub C H) (h : PostO K cl md W σ Z C H (M.bind m k s) Q)
    (hk : ∀ a s1 v Z1 C1 H1, Wd B md Z1 C1 H1 s1 → Nx Z C H Z1 C1 H1 → Rp Z1 v a → PostO K cl md W σ Z1 C1 H1 (k a s1) Q → Q1 v H1) : Post K cl md Rp W σ Z C H (m s) Q1 := by
  unfold M.bind at h
  cases e : m s with
  | ok a s1 =>
    rw [e] at h
    exact fun v Z1 C1 H1 w n r => hk a s1 v Z1 C1 H1 w n r (PostO.step n c0 w.ch h)
  | err x s1 =>
    rw [e] at h
    exact h
  | stuck =>
    rw [e] at h
    exact h
theorem Nx.own (n : Nx Z C H Z1 C1 H1) {a : Addr} {o : HO} (h : H a = some o) (z : Z a = none) (c : C a = none) : H1 a = some o ∧ Z1 a = none ∧ C1 a = none := by
  refine ⟨n.hh a o h c, ?_, ?_⟩
  · cases q : Z1 a with
    | none => rfl
    | some u =>
      rcases n.zf a (some_ne q) with e | e
      · exact absurd z e
      · rw [h] at e; cases e
  · cases q : C1 a with
    | none => rfl
    | some u =>
      rcases n.cf a (some_ne q) with e | e
      · exact absurd c e
      · rw [h] at e; cases e
theorem Wd.mut {s : B.T} (w : Wd B md Z C H s) {a : Addr} {o : HO} (z : Z a = none) (c : C a = none) : Wd B md Z C (upd H a o) s :=
  ⟨fun x u e => by rw [upd_ne (ne_of_none e z)]; exact w.zh x u e, fun x u e => by rw [upd_ne (ne_of_none e c)]; exact w.ch x u e, w.dj, w.sr⟩
theorem Nx.mut (n : Nx Z C H Z1 C1 H1) {a : Addr} {o : HO} (h : H a = none) : Nx Z C H Z1 C1 (upd H1 a o) :=
  ⟨n.zz, fun x u e c => by rw [upd_ne (ne_of_none e h)]; exact n.hh x u e c, n.zf, n.cf, n.cp, n.lk⟩
end
section
variable (cl : CTab) (B : Sto) (md : Bool) (W : WX) (X : Cx)
def tO (f : Env → M B D) : TE := fun σ H Q => ∃ Z C s ρ, Wd B md Z C H s ∧ EnvR X.K cl Z ρ σ ∧ PostO X.K cl md W σ Z C H (f ρ s) Q
def DX (e : Expr) (f : Env → M B D) : Prop := PE X e (tO cl B md W X f)
end
theorem PE.imp {X : Cx} {e : Expr} {t : TE} (h : PE X e t) : PE X e t := h
section
variable {cl : CTab} {md : Bool} {W : WX} {X : Cx}
theorem own_core {f : Env → M B D} (hl : ∀ ρ s d s', f ρ s = .ok d s' → ∃ ds, d = .lst ds) {σ : L2.St} {H : Hp} {Q : VK} (h : tG X.K cl B md (RpD X.K cl) W f σ H Q) : tO cl B md W X f σ H Q := by
  obtain ⟨Z, C, s, ρ, w, e, p⟩ := h
  refine ⟨Z, C, s, ρ, w, e, ?_⟩
  cases ef : f ρ s with
  | ok d s1 =>
    obtain ⟨ds, rfl⟩ := hl ρ s d s1 ef
    rw [ef] at p
    rintro a Z1 C1 H1 w1 n1 ha hz hc ⟨vs, h1, h2, h3⟩
    have z1 : SubZ Z1 (upz Z1 a (.lst vs)) := SubZ.upd hz
    refine p (.ref a) (upz Z1 a (.lst vs)) C1 H1 ⟨fun x u e => ?_, w1.ch, fun x e => ?_, B.mono w1.sr (z1.imm rfl)⟩ ⟨n1.zz.trans z1, n1.hh, fun x e => ?_, n1.cf, n1.cp, n1.lk⟩ (.lst upd_same h2 (h3.mono z1))
    · by_cases hx : x = a
      · subst hx; rw [upz_same] at e; cases e; exact h1
      · rw [upz_ne hx] at e; exact w1.zh x u e
    · by_cases hx : x = a
      · subst hx; exact absurd hc e
      · rw [upz_ne hx]; exact w1.dj x e
    · by_cases hx : x = a
      · subst hx; exact .inr ha
      · rw [upz_ne hx] at e; exact n1.zf x e
  | err x s1 => rw [ef] at p; exact p
  | stuck => rw [ef] at p; exact p
theorem de_of_list {e : Expr} {f : Env → M B D} (h : DX cl B md W X e f) (hl : ∀ ρ s d s', f ρ s = .ok d s' → ∃ ds, d = .lst ds) : DE cl B md W X e f := PE.weak h fun σ H Q q => own_core hl q
theorem dx_lst {es : List Expr} {pos : Pos} {f : Env → M B (List D)} (h : DA cl B md W X es f) (hn : es.length ≤ 1000 := by decide) :
    DX cl B md W X (.List es pos) fun ρ => M.bind (f ρ) fun xs => M.pure (.lst xs) := by
  refine PE.weak (pe_lst h) fun σ H Q ⟨Z, C, s, ρ, w, e, p⟩ => ?_
  refine ⟨Z, C, s, ρ, w, e, PostO.seq w.ch p fun ds s1 xs Z1 C1 H1 w1 n1 r1 p1 => ?_⟩
  have hlen : xs.length ≤ sizeLine := by rw [r1.1.len, r1.2, sizeLine_eq]; omega
  refine ⟨hlen, fun q hq => ?_⟩
  have z := none_of_sub w1.zh hq
  have c := none_of_sub w1.ch hq
  exact p1 q Z1 C1 _ (w1.mut z c) ((Nx.refl ..).mut hq) hq z c ⟨xs, upd_same, hlen, r1.1⟩
theorem de_lst {es : List Expr} {pos : Pos} {f : Env → M B (List D)} (h : DA cl B md W X es f) (hn : es.length ≤ 1000 := by decide) :
    DE cl B md W X (.List es pos) fun ρ => M.bind (f ρ) fun xs => M.pure (.lst xs) :=
  de_of_list (dx_lst h hn) fun ρ s d s' e => by
    unfold M.bind at e
    cases ef : f ρ s with
    | ok a s1 => simp only [ef] at e; cases e; exact ⟨_, rfl⟩
    | err x s1 => simp only [ef] at e; cases e
    | stuck => simp only [ef] at e; cases e
end
def noErr {α : Type} (m : M B α) : M B α := fun s => match m s with
  | .ok a s' => .ok a s'
  | _ => .stuck
def consO {α : Type} : Option α → List α → List α
  | some a, r => a :: r
  | none, r => r
def compL {α β : Type} (f : α → M B (Option β)) : List α → M B (List β)
  | [] => M.pure []
  | d :: ds => M.bind (f d) fun o => M.bind (compL f ds) fun r => M.pure (consO o r)
def compF (a : D → Option Asg) (t : Env → M B Bool) (e : Env → M B D) (ρ : Env) (d : D) : M B (Option D) :=
  noErr (M.bind (lift ((a d).map (setsE ρ))) fun ρ' => M.bind (t ρ') fun k => if k = true then M.bind (e ρ') fun x => M.pure (some x) else M.pure none)
def wipeE (ρ : Env) : List Nat → Env
  | [] => ρ
  | v :: vs => (wipeE ρ vs).set v none
theorem EnvR.wipe {K : PySem.W.Frag} {cl : CTab} {Z : Zp} {ρ : Env} {σ : L2.St} (e : EnvR K cl Z ρ σ) : ∀ own : List Nat, EnvR K cl Z (wipeE ρ own) (L2.wipe σ own)
  | [] => e
  | v :: vs => by
    have ih := EnvR.wipe e vs
    refine ⟨by simp [wipeE, L2.wipe, ih.len], fun i d q => ?_⟩
    by_cases hi : v = i
    · subst hi
      unfold wipeE at q
      by_cases hl : v < (wipeE ρ vs).length
      · rw [List.getElem?_set_self hl] at q; cases q
      · rw [List.getElem?_eq_none (by simpa using hl)] at q; cases q
    · unfold wipeE at q
      rw [List.getElem?_set_ne hi] at q
      obtain ⟨u, h1, h2⟩ := ih.get i d q
      exact ⟨u, by unfold L2.wipe; rw [List.getElem?_set_ne hi]; exact h1, h2⟩
abbrev W0 : WX := fun _ _ _ _ => False
def DTs (cl : CTab) (B : Sto) (md : Bool) (X : Cx) (ifs : List Expr) (t : Env → M B Bool) : Prop := PTs X ifs (tG X.K cl B md RpE W0 t)
theorem PTs.weak {X : Cx} {e : List Expr} {t t' : TT} (h : PTs X e t) (w : ∀ σ H Q, t' σ H Q → t σ H Q) : PTs X e t' := ⟨fun pins s σ H Q I q => h.run pins s σ H Q I (w σ H Q q)⟩
theorem dts_nil {cl : CTab} {md : Bool} {X : Cx} : DTs cl B md X [] (fun _ => M.pure true) := PTs.weak pts_nil fun σ H Q ⟨Z, C, s, ρ, w, e, p⟩ => p true Z C H w (.refl ..) rfl
theorem dts_one {cl : CTab} {md : Bool} {X : Cx} {c : Expr} {t : Env → M B Bool} (h : DT cl B md W0 X c t) : DTs cl B md X [c] t := pts_one h
theorem wipe_none {τ : L2.St} {a : Nat} : ∀ (m : List Nat), a ∈ m → (L2.wipe τ m).set a none = L2.wipe τ m
  | [], h => by simp at h
  | c :: m, h => by
    show ((L2.wipe τ m).set c none).set a none = (L2.wipe τ m).set c none
    by_cases hac : a = c
    · subst hac; rw [List.set_set]
    · rw [List.set_comm _ _ (fun z => hac z.symm), wipe_none m ((List.mem_cons.mp h).resolve_left hac)]
theorem wipe_sub {τ : L2.St} {m : List Nat} : ∀ (l : List Nat), (∀ x ∈ l, x ∈ m) → L2.wipe (L2.wipe τ m) l = L2.wipe τ m
  | [], _ => rfl
  | a :: l, h => by
    show (L2.wipe (L2.wipe τ m) l).set a none = L2.wipe τ m
    rw [wipe_sub l (fun x hx => h x (List.mem_cons_of_mem _ hx))]
    exact wipe_none m (h a List.mem_cons_self)
theorem compL_step {α β γ : Type} {f : α → M B (Option β)} {d : α} {ds : List α} {k : List β → M B γ} {s : B.T} : M.bind (compL f (d :: ds)) k s = (match f d s with
    | .ok o s' => M.bind (compL f ds) (fun r => k (consO o r)) s'
    | .err x s' => .err x s'
    | .stuck => .stuck) := by
  simp only [compL, M.bind]
  cases f d s with
  | ok o s' =>
    simp only
    cases compL f ds s' <;> rfl
  | err x s' => rfl
  | stuck => rfl
section
variable {cl : CTab} {md : Bool} {W : WX} {X : Cx}
theorem comp_rest {own : List (Str × Nat)} {b : D → Option Asg} {t : Env → M B Bool} {fe : Env → M B D} (hin : TgIn (own.map (·.2)) b) {σ : L2.St} {Q : VK} {Z1 : Zp} {C1 H1 : Hp} {s1 : B.T} {ρ : Env} {J : It} {ds : List D}
    (w1 : Wd B md Z1 C1 H1 s1) (e1 : EnvR X.K cl Z1 ρ σ) (r1 : ItR X.K cl Z1 J ds) (p1 : PostO X.K cl md W σ Z1 C1 H1 (M.bind (compL (compF b t fe (wipeE ρ (own.map (·.2)))) ds) (fun r => M.pure (D.lst r)) s1) Q) :
    tLc (fun _ _ R => R J H1) (tDG X.K cl b) (tG X.K cl B md RpE W0 t) (tG X.K cl B md (RpD X.K cl) W0 fe) (own.map (·.2)) σ H1 Q := by
  intro Dd hD
  have zD := none_of_sub w1.zh hD
  have cD := none_of_sub w1.ch hD
  refine lc_it r1.1 (fun i H => ∃ Zi Ci si vacc acc, Wd B md Zi Ci H si ∧ Nx Z1 C1 H1 Zi Ci H ∧ H Dd = some (.lst vacc) ∧ Zi Dd = none ∧ Ci Dd = none ∧ RepL X.K cl Zi vacc acc ∧ vacc.length ≤ i ∧ PostO X.K cl md W σ Z1 C1 H1 (M.bind (compL (compF b t fe (wipeE ρ (own.map (·.2)))) (ds.drop i)) (fun r => M.pure (.lst (acc ++ r))) si) Q)
    ⟨Z1, C1, s1, [], [], w1.mut zD cD, (Nx.refl ..).mut hD, upd_same, zD, cD, .nil, Nat.le_refl _, by simpa using p1⟩ (fun i H hi ⟨Zi, Ci, si, vacc, acc, wi, ni, _⟩ => ni.zz.to wi.zh) ?_ ?_
  · rintro i x H2 H2' hi ⟨Zi, Ci, si, vacc, acc, wi, ni, hDi, zi, ci, ri, li, pi⟩ ⟨d, hd, hy⟩
    obtain ⟨Zc, al, rx⟩ := hy Zi ni.zz wi.zh
    have hdr : ds.drop i = d :: ds.drop (i + 1) := by
      have hlt : i < ds.length := hi
      rw [List.drop_eq_getElem_cons hlt]
      have : ds[i] = d := by
        rw [List.getElem?_eq_getElem hlt] at hd
        exact Option.some.inj hd
      rw [this]
    rw [hdr, compL_step] at pi
    have wc := al.wd wi
    have nc := ni.trans w1.ch wi.ch al.nx
    have hDc : H2' Dd = some (.lst vacc) := al.hh _ _ hDi
    have zc : Zc Dd = none := by
      cases q : Zc Dd with
      | none => rfl
      | some u =>
        rcases al.zf Dd (some_ne q) with z | z
        · exact absurd zi z
        · rw [hDi] at z; cases z
    -- what the turn does
    have ew := (e1.mono (ni.zz.trans al.zz)).wipe (own.map (·.2))
    cases hb : b d with
    | none =>
      exfalso
      have hf : compF b t fe (wipeE ρ (own.map (·.2))) d si = .stuck := by simp only [compF, M.bind, noErr, lift, hb, Option.map_none]
      rw [hf] at pi
      exact pi
    | some as =>
      refine ⟨Zc, d, as, wc.zh, rx, hb, fun vs2 a2 => ?_⟩
      have e2 := ew.sets a2
      generalize hρ' : setsE (wipeE ρ (own.map (·.2))) as = ρ' at e2
      have wσ : L2.wipe (setsV (L2.wipe σ (own.map (·.2))) vs2) (own.map (·.2)) = L2.wipe σ (own.map (·.2)) := by
        rw [wipe_sets vs2 _ (asgR_mem a2 (hin d as hb))]
        exact wipe_sub _ (fun _ h => h)
      refine ⟨wσ, Zc, Ci, si, ρ', wc, e2, ?_⟩
      cases et : t ρ' si with
      | stuck =>
        exfalso
        have hf : compF b t fe (wipeE ρ (own.map (·.2))) d si = .stuck := by simp only [compF, M.bind, noErr, lift, M.pure, hb, Option.map_some, hρ', et]
        rw [hf] at pi
        exact pi
      | err xx s2 =>
        exfalso
        have hf : compF b t fe (wipeE ρ (own.map (·.2))) d si = .stuck := by simp only [compF, M.bind, noErr, lift, M.pure, hb, Option.map_some, hρ', et]
        rw [hf] at pi
        exact pi
      | ok k s2 =>
        rintro k' Z3 C3 H3 w3 n3 rfl
        have n3' := nc.trans w1.ch wc.ch n3
        obtain ⟨hD3, z3, c3⟩ := n3.own hDc zc ci
        cases k' with
        | false =>
          refine ⟨Z3, C3, s2, vacc, acc, w3, n3', hD3, z3, c3, (ri.mono al.zz).mono n3.zz, Nat.le_succ_of_le li, ?_⟩
          have hf : compF b t fe (wipeE ρ (own.map (·.2))) d si = .ok none s2 := by simp [compF, M.bind, noErr, lift, M.pure, hb, hρ', et]
          rw [hf] at pi
          exact pi
        | true =>
          refine ⟨Z3, C3, s2, ρ', w3, e2.mono n3.zz, ?_⟩
          cases ee : fe ρ' s2 with
          | stuck =>
            exfalso
            have hf : compF b t fe (wipeE ρ (own.map (·.2))) d si = .stuck := by simp [compF, M.bind, noErr, lift, M.pure, hb, hρ', et, ee]
            rw [hf] at pi
            exact pi
          | err xx s3 =>
            exfalso
            have hf : compF b t fe (wipeE ρ (own.map (·.2))) d si = .stuck := by simp [compF, M.bind, noErr, lift, M.pure, hb, hρ', et, ee]
            rw [hf] at pi
            exact pi
          | ok y s3 =>
            intro vy Z4 C4 H4 w4 n4 ry
            obtain ⟨hD4, z4, c4⟩ := n4.own hD3 z3 c3
            have n4' := n3'.trans w1.ch w3.ch n4
            have lz : vacc.length < sizeLine := Nat.lt_of_le_of_lt li (Nat.lt_of_lt_of_le hi r1.2)
            refine ⟨vacc, hD4, lz, Z4, C4, s3, vacc ++ [vy], acc ++ [y], w4.mut z4 c4, n4'.mut hD, upd_same, z4, c4, (((ri.mono al.zz).mono n3.zz).mono n4.zz).append (.cons ry .nil), by rw [List.length_append]; simpa using li, ?_⟩
            have hf : compF b t fe (wipeE ρ (own.map (·.2))) d si = .ok (some y) s3 := by simp [compF, M.bind, noErr, lift, M.pure, hb, hρ', et, ee]
            rw [hf] at pi
            simpa [consO] using pi
  · rintro H2 ⟨Zi, Ci, si, vacc, acc, wi, ni, hDi, zi, ci, ri, li, pi⟩
    rw [List.drop_length] at pi
    have pi' : PostO X.K cl md W σ Z1 C1 H1 (.ok (.lst (acc ++ [])) si) Q := pi
    rw [List.append_nil] at pi'
    exact pi' Dd Zi Ci H2 wi ni hD zi ci ⟨vacc, hDi, Nat.le_trans li r1.2, ri⟩
theorem comp_core {own : List (Str × Nat)} {src : Env → M B (List D)} {b : D → Option Asg} {t : Env → M B Bool} {fe : Env → M B D} (hin : TgIn (own.map (·.2)) b) {σ : L2.St} {H : Hp} {Q : VK}
    (h : tO cl B md W X (fun ρ => M.bind (src ρ) fun ds => M.bind (compL (compF b t fe (wipeE ρ (own.map (·.2)))) ds) fun r => M.pure (D.lst r)) σ H Q) :
    tLc (tG X.K cl B md (RpI X.K cl) W src) (tDG X.K cl b) (tG X.K cl B md RpE W0 t) (tG X.K cl B md (RpD X.K cl) W0 fe) (own.map (·.2)) σ H Q := by
  obtain ⟨Z, C, s, ρ, w, e, p⟩ := h
  exact ⟨Z, C, s, ρ, w, e, PostO.seq w.ch p fun ds s1 J Z1 C1 H1 w1 n1 r1 p1 => comp_rest hin w1 (e.mono n1.zz) r1 p1⟩
theorem dx_comp {elt tg iter : Expr} {ifs : List Expr} {scope : Scope} {own : List (Str × Nat)} {pos : Pos} {src : Env → M B (List D)} {b : D → Option Asg} {t : Env → M B Bool} {fe : Env → M B D} (hc : X.calm = true) (hN : X.N.Nodup)
    (hi : DI cl B md W X tg iter src) (ok : BlkOk X.N X.env.scope scope own)
    (hg : ∀ (s : Shared) (H : Hp) (C : Addr) (cs : List (Str × Addr)) (fp : List Addr), DG cl (X.blk s H scope (compEnvC scope cs C X.env) fp) tg b) (hin : TgIn (own.map (·.2)) b)
    (ht : ∀ (s : Shared) (H : Hp) (C : Addr) (cs : List (Str × Addr)) (fp : List Addr), DTs cl B md (X.blk s H scope (compEnvC scope cs C X.env) fp) ifs t)
    (he : ∀ (s : Shared) (H : Hp) (C : Addr) (cs : List (Str × Addr)) (fp : List Addr), DE cl B md W0 (X.blk s H scope (compEnvC scope cs C X.env) fp) elt fe) (hs : ∀ x, foldedSetIterable iter X.env x = pure x := by intro _; rfl) :
    DX cl B md W X (.ListComp elt [⟨tg, iter, ifs, 0⟩] scope pos) fun ρ => M.bind (src ρ) fun ds => M.bind (compL (compF b t fe (wipeE ρ (own.map (·.2)))) ds) fun r => M.pure (.lst r) :=
  PE.weak (pe_lc (g := tDG X.K cl b) (tt := tG X.K cl B md RpE W0 t) (te := tG X.K cl B md (RpD X.K cl) W0 fe) hc hN hi ok hg ht he hs) fun σ H Q q => comp_core hin q
theorem comp_list {own : List (Str × Nat)} {src : Env → M B (List D)} {b : D → Option Asg} {t : Env → M B Bool} {fe : Env → M B D} : ∀ (ρ : Env) (s : B.T) (d : D) (s' : B.T), (fun ρ => M.bind (src ρ) fun ds => M.bind (compL (compF b t fe (wipeE ρ (own.map (·.2)))) ds) fun r => M.pure (D.lst r) : Env → M B D) ρ s = .ok d s' → ∃ ds, d = D.lst ds := fun ρ s d s' e => by
    unfold M.bind at e
    cases ef : src ρ s with
    | ok a s1 =>
      simp only [ef] at e
      cases eg : compL (compF b t fe (wipeE ρ (own.map (·.2)))) a s1 with
      | ok r s2 => simp only [eg] at e; cases e; exact ⟨_, rfl⟩
      | err x s2 => simp only [eg] at e; cases e
      | stuck => simp only [eg] at e; cases e
    | err x s1 => simp only [ef] at e; cases e
    | stuck => simp only [ef] at e; cases e
theorem de_comp {elt tg iter : Expr} {ifs : List Expr} {scope : Scope} {own : List (Str × Nat)} {pos : Pos} {src : Env → M B (List D)} {b : D → Option Asg} {t : Env → M B Bool} {fe : Env → M B D} (hc : X.calm = true) (hN : X.N.Nodup)
    (hi : DI cl B md W X tg iter src) (ok : BlkOk X.N X.env.scope scope own)
    (hg : ∀ (s : Shared) (H : Hp) (C : Addr) (cs : List (Str × Addr)) (fp : List Addr), DG cl (X.blk s H scope (compEnvC scope cs C X.env) fp) tg b) (hin : TgIn (own.map (·.2)) b)
    (ht : ∀ (s : Shared) (H : Hp) (C : Addr) (cs : List (Str × Addr)) (fp : List Addr), DTs cl B md (X.blk s H scope (compEnvC scope cs C X.env) fp) ifs t)
    (he : ∀ (s : Shared) (H : Hp) (C : Addr) (cs : List (Str × Addr)) (fp : List Addr), DE cl B md W0 (X.blk s H scope (compEnvC scope cs C X.env) fp) elt fe) (hs : ∀ x, foldedSetIterable iter X.env x = pure x := by intro _; rfl) :
    DE cl B md W X (.ListComp elt [⟨tg, iter, ifs, 0⟩] scope pos) fun ρ => M.bind (src ρ) fun ds => M.bind (compL (compF b t fe (wipeE ρ (own.map (·.2)))) ds) fun r => M.pure (.lst r) :=
  de_of_list (dx_comp hc hN hi ok hg hin ht he hs) comp_list
end
end DN
namespace DN
open PySem PySem.Spec PyProof.Rows L2 RZ ND
variable {B : Sto}
abbrev D.mt (d : D) : D := .ins "" [d]
def D.isMut : D → Bool
  | .ins c _ => decide (c = "")
  | _ => false
def D.strip : D → D
  | .ins c [.lst ds] => if c = "" then .lst (ds.attach.map fun x => D.strip x.1) else .ins c [.lst ds]
  | .ins c [.dct ks ds] => if c = "" then .dct ks (ds.attach.map fun x => D.strip x.1) else .ins c [.dct ks ds]
  | d => d
termination_by d => sizeOf d
decreasing_by
  all_goals
    have := List.sizeOf_lt_of_mem x.2
    simp
    omega
abbrev D.stripL (ds : List D) : List D := ds.map D.strip
theorem strip_lst {ds : List D} : (D.mt (.lst ds)).strip = .lst (D.stripL ds) := by
  rw [D.strip, if_pos rfl]
  simp
theorem strip_dct {ks ds : List D} : (D.mt (.dct ks ds)).strip = .dct ks (D.stripL ds) := by
  rw [D.strip, if_pos rfl]
  simp
theorem strip_leaf {d : D} (h : d.isMut = false) : d.strip = d := by
  unfold D.strip
  split
  · rename_i c ds
    have : ¬ c = "" := by simpa [D.isMut] using h
    rw [if_neg this]
  · rename_i c ks ds
    have : ¬ c = "" := by simpa [D.isMut] using h
    rw [if_neg this]
  · rfl
theorem stripL_leaf {ds : List D} (h : ∀ d ∈ ds, d.isMut = false) : D.stripL ds = ds :=
  (List.map_congr_left fun d hd => strip_leaf (h d hd)).trans (List.map_id' ds)
mutual
inductive OwnT (K : PySem.W.Frag) (cl : CTab) (Z : Zp) (H : Hp) : (Addr → Prop) → V → D → Prop
  | leaf {F : Addr → Prop} {v : V} {d : D} : d.isMut = false → Rep K cl Z v d → OwnT K cl Z H F v d
  | lst {F : Addr → Prop} {a : Addr} {vs : List V} {ds : List D} : F a → H a = some (.lst vs) → vs.length ≤ sizeLine → OwnTL K cl Z H (fun x => F x ∧ x ≠ a) vs ds → OwnT K cl Z H F (.ref a) (.ins "" [.lst ds])
  | dct {F : Addr → Prop} {a : Addr} {o : HO} {kvs : List (GK × V)} {ks ds : List D} : F a → H a = some o → DKV cl Z.h a o kvs → ks = kvs.map (fun p => keyD p.1) → KNd kvs → OwnTL K cl Z H (fun x => F x ∧ x ≠ a) (kvs.map (·.2)) ds →
      OwnT K cl Z H F (.ref a) (.ins "" [.dct ks ds])
inductive OwnTL (K : PySem.W.Frag) (cl : CTab) (Z : Zp) (H : Hp) : (Addr → Prop) → List V → List D → Prop
  | nil {F : Addr → Prop} : OwnTL K cl Z H F [] []
  | cons {F F1 F2 : Addr → Prop} {v : V} {vs : List V} {d : D} {ds : List D} : (∀ x, F1 x → F x) → (∀ x, F2 x → F x) → (∀ x, F1 x → F2 x → False) → OwnT K cl Z H F1 v d → OwnTL K cl Z H F2 vs ds → OwnTL K cl Z H F (v :: vs) (d :: ds)
end
section
variable {K : PySem.W.Frag} {cl : CTab} {Z Z' : Zp} {H H' : Hp}
theorem own_move (h : SubZ Z Z') :
    (∀ {F : Addr → Prop} {v : V} {d : D}, OwnT K cl Z H F v d → (∀ x o, F x → H x = some o → H' x = some o) → OwnT K cl Z' H' F v d) ∧
    (∀ {F : Addr → Prop} {vs : List V} {ds : List D}, OwnTL K cl Z H F vs ds → (∀ x o, F x → H x = some o → H' x = some o) → OwnTL K cl Z' H' F vs ds) := by
  let m1 : ∀ (F : Addr → Prop) (v : V) (d : D), OwnT K cl Z H F v d → Prop := fun F v d _ => (∀ x o, F x → H x = some o → H' x = some o) → OwnT K cl Z' H' F v d
  let m2 : ∀ (F : Addr → Prop) (vs : List V) (ds : List D), OwnTL K cl Z H F vs ds → Prop := fun F vs ds _ => (∀ x o, F x → H x = some o → H' x = some o) → OwnTL K cl Z' H' F vs ds
  have c1 : ∀ {F : Addr → Prop} {v : V} {d : D} (i : d.isMut = false) (r : Rep K cl Z v d), m1 F v d (.leaf i r) := fun i r _ => .leaf i (r.mono h)
  have c2 : ∀ {F : Addr → Prop} {a : Addr} {vs : List V} {ds : List D} (fa : F a) (ha : H a = some (.lst vs)) (l : vs.length ≤ sizeLine) (t : OwnTL K cl Z H (fun x => F x ∧ x ≠ a) vs ds), m2 _ _ _ t → m1 F (.ref a) (.ins "" [.lst ds]) (.lst fa ha l t) :=
    fun fa ha l t ih hh => .lst fa (hh _ _ fa ha) l (ih fun x o q => hh x o q.1)
  have c3 : ∀ {F : Addr → Prop} {a : Addr} {o : HO} {kvs : List (GK × V)} {ks ds : List D} (fa : F a) (ha : H a = some o) (dk : DKV cl Z.h a o kvs) (e : ks = kvs.map (fun p => keyD p.1)) (n : KNd kvs) (t : OwnTL K cl Z H (fun x => F x ∧ x ≠ a) (kvs.map (·.2)) ds), m2 _ _ _ t → m1 F (.ref a) (.ins "" [.dct ks ds]) (.dct fa ha dk e n t) :=
    fun fa ha dk e n t ih hh => .dct fa (hh _ _ fa ha) (dk.mono fun _ _ q => h.h _ _ q) e n (ih fun x o q => hh x o q.1)
  have c4 : ∀ {F : Addr → Prop}, m2 F [] [] .nil := fun _ => .nil
  have c5 : ∀ {F F1 F2 : Addr → Prop} {v : V} {vs : List V} {d : D} {ds : List D} (a : ∀ x, F1 x → F x) (b : ∀ x, F2 x → F x) (c : ∀ x, F1 x → F2 x → False) (o : OwnT K cl Z H F1 v d) (t : OwnTL K cl Z H F2 vs ds), m1 _ _ _ o → m2 _ _ _ t → m2 F (v :: vs) (d :: ds) (.cons a b c o t) :=
    fun a b c o t i1 i2 hh => .cons a b c (i1 fun x o q => hh x o (a x q)) (i2 fun x o q => hh x o (b x q))
  exact ⟨fun o => OwnT.rec (motive_1 := m1) (motive_2 := m2) c1 c2 c3 c4 c5 o, fun o => OwnTL.rec (motive_1 := m1) (motive_2 := m2) c1 c2 c3 c4 c5 o⟩
theorem OwnT.move (h : SubZ Z Z') {F : Addr → Prop} {v : V} {d : D} (o : OwnT K cl Z H F v d) (hh : ∀ x o, F x → H x = some o → H' x = some o) : OwnT K cl Z' H' F v d := (own_move h).1 o hh
theorem OwnTL.move (h : SubZ Z Z') {F : Addr → Prop} {vs : List V} {ds : List D} (o : OwnTL K cl Z H F vs ds) (hh : ∀ x o, F x → H x = some o → H' x = some o) : OwnTL K cl Z' H' F vs ds := (own_move h).2 o hh
theorem own_rep (h : SubZ Z Z') :
    (∀ {F : Addr → Prop} {v : V} {d : D}, OwnT K cl Z H F v d → (∀ x o, F x → H x = some o → Z' x = some o) → Rep K cl Z' v d.strip) ∧
    (∀ {F : Addr → Prop} {vs : List V} {ds : List D}, OwnTL K cl Z H F vs ds → (∀ x o, F x → H x = some o → Z' x = some o) → RepL K cl Z' vs (D.stripL ds)) := by
  let m1 : ∀ (F : Addr → Prop) (v : V) (d : D), OwnT K cl Z H F v d → Prop := fun F v d _ => (∀ x o, F x → H x = some o → Z' x = some o) → Rep K cl Z' v d.strip
  let m2 : ∀ (F : Addr → Prop) (vs : List V) (ds : List D), OwnTL K cl Z H F vs ds → Prop := fun F vs ds _ => (∀ x o, F x → H x = some o → Z' x = some o) → RepL K cl Z' vs (D.stripL ds)
  have c1 : ∀ {F : Addr → Prop} {v : V} {d : D} (i : d.isMut = false) (r : Rep K cl Z v d), m1 F v d (.leaf i r) := fun i r _ => by rw [strip_leaf i]; exact r.mono h
  have c2 : ∀ {F : Addr → Prop} {a : Addr} {vs : List V} {ds : List D} (fa : F a) (ha : H a = some (.lst vs)) (l : vs.length ≤ sizeLine) (t : OwnTL K cl Z H (fun x => F x ∧ x ≠ a) vs ds), m2 _ _ _ t → m1 F (.ref a) (.ins "" [.lst ds]) (.lst fa ha l t) :=
    fun fa ha l t ih hh => by rw [strip_lst]; exact .lst (hh _ _ fa ha) l (ih fun x o q => hh x o q.1)
  have c3 : ∀ {F : Addr → Prop} {a : Addr} {o : HO} {kvs : List (GK × V)} {ks ds : List D} (fa : F a) (ha : H a = some o) (dk : DKV cl Z.h a o kvs) (e : ks = kvs.map (fun p => keyD p.1)) (n : KNd kvs) (t : OwnTL K cl Z H (fun x => F x ∧ x ≠ a) (kvs.map (·.2)) ds), m2 _ _ _ t → m1 F (.ref a) (.ins "" [.dct ks ds]) (.dct fa ha dk e n t) :=
    fun fa ha dk e n t ih hh => by rw [strip_dct]; exact .dct (.inl (hh _ _ fa ha)) (dk.mono fun _ _ q => h.h _ _ q) e n (ih fun x o q => hh x o q.1)
  have c4 : ∀ {F : Addr → Prop}, m2 F [] [] .nil := fun _ => .nil
  have c5 : ∀ {F F1 F2 : Addr → Prop} {v : V} {vs : List V} {d : D} {ds : List D} (a : ∀ x, F1 x → F x) (b : ∀ x, F2 x → F x) (c : ∀ x, F1 x → F2 x → False) (o : OwnT K cl Z H F1 v d) (t : OwnTL K cl Z H F2 vs ds), m1 _ _ _ o → m2 _ _ _ t → m2 F (v :: vs) (d :: ds) (.cons a b c o t) :=
    fun a b c o t i1 i2 hh => .cons (i1 fun x o q => hh x o (a x q)) (i2 fun x o q => hh x o (b x q))
  exact ⟨fun o => OwnT.rec (motive_1 := m1) (motive_2 := m2) c1 c2 c3 c4 c5 o, fun o => OwnTL.rec (motive_1 := m1) (motive_2 := m2) c1 c2 c3 c4 c5 o⟩
theorem OwnT.rep (h : SubZ Z Z') {F : Addr → Prop} {v : V} {d : D} (o : OwnT K cl Z H F v d) (hh : ∀ x o, F x → H x = some o → Z' x = some o) : Rep K cl Z' v d.strip := (own_rep h).1 o hh
theorem OwnTL.len : ∀ {vs : List V} {F : Addr → Prop} {ds : List D}, OwnTL K cl Z H F vs ds → vs.length = ds.length
  | [], _, _, o => by cases o; rfl
  | v :: vs, _, _, o => by
    cases o with
    | cons a b c d e => simp [OwnTL.len e]
theorem OwnTL.ofRep {F : Addr → Prop} : ∀ {vs : List V} {ds : List D}, (∀ d ∈ ds, d.isMut = false) → RepL K cl Z vs ds → OwnTL K cl Z H F vs ds
  | [], _, _, r => by cases r; exact .nil
  | v :: vs, _, h, r => by
    cases r with
    | cons a b => exact .cons (F1 := fun _ => False) (F2 := F) (fun _ q => q.elim) (fun _ q => q) (fun _ q _ => q) (.leaf (h _ List.mem_cons_self) a) (OwnTL.ofRep (fun d hd => h d (List.mem_cons_of_mem _ hd)) b)
theorem OwnTL.snoc {F2 : Addr → Prop} {v : V} {d : D} (o : OwnT K cl Z H F2 v d) : ∀ {vs : List V} {F : Addr → Prop} {ds : List D}, (∀ x, F x → F2 x → False) → OwnTL K cl Z H F vs ds → OwnTL K cl Z H (fun x => F x ∨ F2 x) (vs ++ [v]) (ds ++ [d])
  | [], F, _, dj, t => by
    cases t
    exact .cons (F1 := F2) (F2 := fun _ => False) (fun _ q => .inr q) (fun _ q => q.elim) (fun _ _ q => q) o .nil
  | u :: vs, F, _, dj, t => by
    cases t with
    | cons a b c e f =>
      rename_i F1 F3 d1 ds1
      exact .cons (F1 := F1) (F2 := fun x => F3 x ∨ F2 x) (fun x q => .inl (a x q)) (fun x q => q.elim (fun q => .inl (b x q)) .inr) (fun x q1 q2 => q2.elim (c x q1) (dj x (a x q1))) e (OwnTL.snoc o (fun x q => dj x (b x q)) f)
theorem OwnTL.app {F : Addr → Prop} : ∀ {vs ws : List V} {ds es : List D}, OwnTL K cl Z H F vs ds → (∀ d ∈ es, d.isMut = false) → RepL K cl Z ws es → OwnTL K cl Z H F (vs ++ ws) (ds ++ es) := by
  intro vs
  induction vs generalizing F with
  | nil => intro ws ds es t h r; cases t; exact OwnTL.ofRep h r
  | cons u vs ih =>
    intro ws ds es t h r
    cases t with
    | cons a b c e f => exact .cons a b c e (ih f h r)
theorem OwnTL.at : ∀ {vs : List V} {F : Addr → Prop} {ds : List D} {i : Nat} {d : D}, OwnTL K cl Z H F vs ds → ds[i]? = some d → ∃ (v : V) (F1 : Addr → Prop), vs[i]? = some v ∧ (∀ x, F1 x → F x) ∧ OwnT K cl Z H F1 v d ∧
    ∀ (H' : Hp) (v' : V) (d' : D) (F' : Addr → Prop), (∀ x o, F x → ¬ F1 x → H x = some o → H' x = some o) → OwnT K cl Z H' F' v' d' → (∀ x, F' x → F x → F1 x) → OwnTL K cl Z H' (fun x => F x ∨ F' x) (vs.set i v') (ds.set i d')
  | [], _, _, _, _, t, e => by cases t; simp at e
  | u :: vs, F, _, 0, d, t, e => by
    cases t with
    | cons a b c o f =>
      rename_i F1 F2 d1 ds1
      simp at e
      subst e
      refine ⟨u, F1, rfl, a, o, fun H' v' d' F' hh o' dj => ?_⟩
      exact .cons (F1 := F') (F2 := F2) (fun x q => .inr q) (fun x q => .inl (b x q)) (fun x q1 q2 => c x (dj x q1 (b x q2)) q2) o' (f.move (.refl _) fun x ob q => hh x ob (b x q) fun z => c x z q)
  | u :: vs, F, _, i + 1, d, t, e => by
    cases t with
    | cons a b c o f =>
      rename_i F1 F2 d1 ds1
      obtain ⟨v, F3, h1, h2, h3, h4⟩ := OwnTL.at (i := i) f (by simpa using e)
      refine ⟨v, F3, by simpa using h1, fun x q => b x (h2 x q), h3, fun H' v' d' F' hh o' dj => ?_⟩
      exact .cons (F1 := F1) (F2 := fun x => F2 x ∨ F' x) (fun x q => .inl (a x q)) (fun x q => q.elim (fun q => .inl (b x q)) .inr) (fun x q1 q2 => q2.elim (c x q1) fun q2 => c x q1 (h2 x (dj x q2 (a x q1))))
        (o.move (.refl _) fun x ob q => hh x ob (a x q) fun z => c x q (h2 x z)) (h4 H' v' d' F' (fun x ob q => hh x ob (b x q)) o' fun x q1 q2 => dj x q1 (b x q2))
theorem OwnR.tree {a : Addr} {d : D} (o : OwnR K cl Z H a d) (h : match d with | .lst ds => ∀ e ∈ ds, e.isMut = false | .dct _ ds => ∀ e ∈ ds, e.isMut = false | _ => False) : OwnT K cl Z H (fun x => x = a) (.ref a) (.ins "" [d]) := by
  cases d with
  | lst ds => obtain ⟨vs, h1, h2, h3⟩ := o; exact .lst rfl h1 h2 (.ofRep h h3)
  | dct ks ds => obtain ⟨o, kvs, h1, dk, h2, h3, h4⟩ := o; exact .dct rfl h1 dk h2 h3 (.ofRep h h4)
  | _ => exact False.elim h
end
section
variable {K : PySem.W.Frag} {cl : CTab} {md : Bool} {W : WX} {σ : L2.St} {Z Z1 : Zp} {C H C1 H1 : Hp}
def PostM (K : PySem.W.Frag) (cl : CTab) (md : Bool) (W : WX) (σ : L2.St) (Z : Zp) (C H : Hp) (r : Res B.T D) (Q : VK) : Prop :=
  match r with
  | .ok d s => ∀ v (F : Addr → Prop) Z' C' H', Wd B md Z' C' H' s → Nx Z C H Z' C' H' → (∀ x, F x → H x = none ∧ Z' x = none ∧ C' x = none ∧ ∃ o, H' x = some o ∧ immO o = false) → OwnT K cl Z' H' F v d → Q v H'
  | .err x s => ∀ c dx Z' C' H', Wd B md Z' C' H' s → Nx Z C H Z' C' H' → ExR K cl Z' C' x c dx H' → W c dx σ H'
  | .stuck => False
theorem PostM.step {r : Res B.T D} {Q : VK} (n : Nx Z C H Z1 C1 H1) (c0 : Sub C H) (c1 : Sub C1 H1) (h : PostM K cl md W σ Z C H r Q) : PostM K cl md W σ Z1 C1 H1 r Q := by
  cases r with
  | ok a s => exact fun v F Z' C' H' w m f => h v F Z' C' H' w (n.trans c0 c1 m) fun x hx => ⟨n.back c1 (f x hx).1, (f x hx).2⟩
  | err x s => exact fun c dx Z' C' H' w m => h c dx Z' C' H' w (n.trans c0 c1 m)
  | stuck => exact h
theorem PostM.seq {υ α : Type} {Rp : Zp → υ → α → Prop} {m : M B α} {k : α → M B D} {s : B.T} {Q : VK} {Q1 : υ → Hp → Prop} (c0 : Sub C H) (h : PostM K cl md W σ Z C H (M.bind m k s) Q)
    (hk : ∀ a s1 v Z1 C1 H1, Wd B md Z1 C1 H1 s1 → Nx Z C H Z1 C1 H1 → Rp Z1 v a → PostM K cl md W σ Z1 C1 H1 (k a s1) Q → Q1 v H1) : Post K cl md Rp W σ Z C H (m s) Q1 := by
  unfold M.bind at h
  cases e : m s with
  | ok a s1 =>
    rw [e] at h
    exact fun v Z1 C1 H1 w n r => hk a s1 v Z1 C1 H1 w n r (PostM.step n c0 w.ch h)
  | err x s1 => rw [e] at h; exact h
  | stuck => rw [e] at h; exact h
end
section
variable (cl : CTab) (B : Sto) (md : Bool) (W : WX) (X : Cx)
def tM (f : Env → M B D) : TE := fun σ H Q => ∃ Z C s ρ, Wd B md Z C H s ∧ EnvR X.K cl Z ρ σ ∧ PostM X.K cl md W σ Z C H (f ρ s) Q
def DM (e : Expr) (f : Env → M B D) : Prop := PE X e (tM cl B md W X f)
end
def flatB : D → Bool
  | .lst ds => ds.all fun d => !d.isMut
  | .dct _ ds => ds.all fun d => !d.isMut
  | _ => false
section
variable {cl : CTab} {md : Bool} {W : WX} {X : Cx}
theorem dm_of_dx {e : Expr} {f : Env → M B D} (h : DX cl B md W X e f) : DM cl B md W X e fun ρ => M.bind (f ρ) fun d => guardM (flatB d) (M.pure (.ins "" [d])) := by
  refine PE.weak h fun σ H Q ⟨Z, C, s, ρ, w, e, p⟩ => ⟨Z, C, s, ρ, w, e, ?_⟩
  unfold M.bind at p
  cases ef : f ρ s with
  | stuck => simp only [ef] at p; exact p
  | err x s1 => simp only [ef] at p; exact p
  | ok d s1 =>
    simp only [ef] at p
    intro a Z1 C1 H1 w1 n1 ha hz hc o
    unfold guardM at p
    split at p
    · rename_i hd
      have o2 := o
      refine p (.ref a) (fun x => x = a) Z1 C1 H1 w1 n1 (fun x hx => ?_) (OwnR.tree o ?_)
      · have hx : x = a := hx
        subst hx
        refine ⟨ha, hz, hc, ?_⟩
        cases d with
        | lst ds => obtain ⟨vs, h1, _⟩ := o2; exact ⟨_, h1, rfl⟩
        | dct ks ds => obtain ⟨o, vs, h1, dk, _⟩ := o2; exact ⟨_, h1, by rcases dk with ⟨l, rfl, _⟩ | ⟨l, _, rfl, _⟩ <;> rfl⟩
        | _ => cases hd
      · cases d with
        | lst ds => exact fun e he => by simpa using List.all_eq_true.mp hd e he
        | dct ks ds => exact fun e he => by simpa using List.all_eq_true.mp hd e he
        | _ => cases hd
    · exact False.elim p
end
end DN
namespace DN
open PySem PySem.Spec PyProof.Rows L2 RZ ND
variable {B : Sto}
inductive Sl where
  | no | val (d : D) | own (d : D)
abbrev SEnv := List Sl
inductive Fl where
  | nx (ρ : SEnv) | rt (d : D) | bk (ρ : SEnv) | ct (ρ : SEnv) | ro (d : D)
structure SRel (K : PySem.W.Frag) (cl : CTab) (Z : Zp) (C H H0 : Hp) (ρ : SEnv) (σ : L2.St) (α : Nat → Addr → Prop) : Prop where
  len : ρ.length = σ.length
  val : ∀ (i : Nat) (d : D), ρ[i]? = some (.val d) → ∃ v, σ[i]? = some (some v) ∧ Rep K cl Z v d
  own : ∀ (i : Nat) (d : D), ρ[i]? = some (.own d) → ∃ v, σ[i]? = some (some v) ∧ OwnT K cl Z H (α i) v (.ins "" [d])
  fp : ∀ (i : Nat) (d : D) (x : Addr), ρ[i]? = some (.own d) → α i x → H0 x = none ∧ Z x = none ∧ C x = none ∧ ∃ o, H x = some o ∧ immO o = false
  dj : ∀ (i j : Nat) (d e : D) (x : Addr), ρ[i]? = some (.own d) → ρ[j]? = some (.own e) → α i x → α j x → i = j
def PostS (K : PySem.W.Frag) (cl : CTab) (W : WX) (Z0 : Zp) (C0 H0 : Hp) (r : Res B.T Fl) (E : Ends) : Prop :=
  match r with
  | .ok (.nx ρ) s => ∀ σ Z C H α, Wd B true Z C H s → Nx Z0 C0 H0 Z C H → SRel K cl Z C H H0 ρ σ α → E.nx σ H
  | .ok (.bk ρ) s => ∀ σ Z C H α, Wd B true Z C H s → Nx Z0 C0 H0 Z C H → SRel K cl Z C H H0 ρ σ α → E.bk σ H
  | .ok (.ct ρ) s => ∀ σ Z C H α, Wd B true Z C H s → Nx Z0 C0 H0 Z C H → SRel K cl Z C H H0 ρ σ α → E.ct σ H
  | .ok (.rt d) s => ∀ v Z C H, Wd B true Z C H s → Nx Z0 C0 H0 Z C H → Rep K cl Z v d → E.rt v H
  | .ok (.ro d) s => ∀ v (F : Addr → Prop) Z C H, Wd B true Z C H s → Nx Z0 C0 H0 Z C H → (∀ x, F x → H0 x = none ∧ Z x = none ∧ C x = none ∧ ∃ o, H x = some o ∧ immO o = false) → OwnT K cl Z H F v (.ins "" [d]) → E.rt v H
  | .err x s => ∀ c dx σ Z C H, Wd B true Z C H s → Nx Z0 C0 H0 Z C H → ExR K cl Z C x c dx H → W c dx σ H
  | .stuck => False
def tS (K : PySem.W.Frag) (cl : CTab) (B : Sto) (W : WX) (F : SEnv → M B Fl) : TS := fun E σ H => ∃ Z0 C0 H0 Z C s ρ α, Sub C0 H0 ∧ Wd B true Z C H s ∧ Nx Z0 C0 H0 Z C H ∧ SRel K cl Z C H H0 ρ σ α ∧ PostS K cl W Z0 C0 H0 (F ρ s) E
def DS (cl : CTab) (B : Sto) (W : WX) (X : Cx) (st : Stmt) (F : SEnv → M B Fl) : Prop := PS X st (tS X.K cl B W F)
def DSs (cl : CTab) (B : Sto) (W : WX) (X : Cx) (st : List Stmt) (F : SEnv → M B Fl) : Prop := PSs X st (tS X.K cl B W F)
theorem PS.weak {X : Cx} {st : Stmt} {t t' : TS} (h : PS X st t) (w : ∀ D σ H, t' D σ H → t D σ H) : PS X st t' := ⟨fun pins s σ H D I q => h.run pins s σ H D I (w D σ H q)⟩
theorem PSs.weak {X : Cx} {st : List Stmt} {t t' : TS} (h : PSs X st t) (w : ∀ D σ H, t' D σ H → t D σ H) : PSs X st t' := ⟨fun pins s σ H D I q => h.run pins s σ H D I (w D σ H q)⟩
def seqF (F G : SEnv → M B Fl) : SEnv → M B Fl := fun ρ => M.bind (F ρ) fun fl => match fl with
  | .nx ρ' => G ρ'
  | o => M.pure o
section
variable {cl : CTab} {W : WX} {X : Cx}
theorem dss_nil : DSs cl B W X [] (fun ρ => M.pure (.nx ρ)) := PSs.weak pss_nil fun E σ H ⟨Z0, C0, H0, Z, C, s, ρ, α, c0, w, n, r, p⟩ => p σ Z C H α w n r
theorem dss_one {st : Stmt} {F : SEnv → M B Fl} (h : DS cl B W X st F) : DSs cl B W X [st] F := pss_one h
theorem dss_cons {st : Stmt} {rest : List Stmt} {F G : SEnv → M B Fl} (h : DS cl B W X st F) (t : DSs cl B W X rest G) : DSs cl B W X (st :: rest) (seqF F G) := by
  refine PSs.weak (pss_cons h t) fun E σ H ⟨Z0, C0, H0, Z, C, s, ρ, α, c0, w, n, r, p⟩ => ?_
  refine ⟨Z0, C0, H0, Z, C, s, ρ, α, c0, w, n, r, ?_⟩
  unfold seqF M.bind at p
  cases hF : F ρ s with
  | stuck => simp only [hF] at p; exact p
  | err x s1 => simp only [hF] at p; exact p
  | ok fl s1 =>
    simp only [hF] at p
    cases fl with
    | nx ρ1 => exact fun σ1 Z1 C1 H1 α1 w1 n1 r1 => ⟨Z0, C0, H0, Z1, C1, s1, ρ1, α1, c0, w1, n1, r1, p⟩
    | rt d => exact p
    | bk ρ1 => exact p
    | ct ρ1 => exact p
    | ro d => exact p
end
def seeE (p : D → Bool) (ρ : SEnv) : Env := ρ.map fun s => match s with
  | .val d => some d
  | .own d => if p d = true then some (D.strip (.ins "" [d])) else none
  | .no => none
def pHide : D → Bool := fun _ => false
def pAll : D → Bool
  | .ins _ _ => false
  | _ => true
structure See (p : D → Bool) (md : Bool) : Prop where
  nd : md = true → ∀ d, p d = true → ∀ ks ds, d = .dct ks ds → True
  ni : ∀ c ds, p (.ins c ds) = false
theorem seeHide : See pHide true := ⟨fun _ _ _ _ _ _ => trivial, fun _ _ => rfl⟩
theorem seeAll : See pAll true := ⟨fun _ _ _ _ _ _ => trivial, fun _ _ => rfl⟩
open Classical in
noncomputable def seeZ (p : D → Bool) (ρ : SEnv) (α : Nat → Addr → Prop) (Z : Zp) (H : Hp) : Zp := ⟨fun x => if ∃ i d, ρ[i]? = some (.own d) ∧ p d = true ∧ α i x then H x else Z.h x, Z.μ⟩
open Classical in
noncomputable def unZ (p : D → Bool) (ρ : SEnv) (α : Nat → Addr → Prop) (Z1 : Zp) : Zp := ⟨fun x => if ∃ i d, ρ[i]? = some (.own d) ∧ p d = true ∧ α i x then none else Z1.h x, Z1.μ⟩
open Classical in
theorem seeZ_h {p : D → Bool} {ρ : SEnv} {α : Nat → Addr → Prop} {Z : Zp} {H : Hp} {x : Addr} : (seeZ p ρ α Z H).h x = if ∃ i d, ρ[i]? = some (.own d) ∧ p d = true ∧ α i x then H x else Z.h x := rfl
open Classical in
theorem unZ_h {p : D → Bool} {ρ : SEnv} {α : Nat → Addr → Prop} {Z : Zp} {x : Addr} : (unZ p ρ α Z).h x = if ∃ i d, ρ[i]? = some (.own d) ∧ p d = true ∧ α i x then none else Z.h x := rfl
section
variable {K : PySem.W.Frag} {cl : CTab} {Z Z1 Z0 : Zp} {C H H0 C1 H1 C0 : Hp} {ρ : SEnv} {σ : L2.St} {α : Nat → Addr → Prop} {s s1 : B.T} {p : D → Bool} {md : Bool}
theorem see_sub (r : SRel K cl Z C H H0 ρ σ α) : SubZ Z (seeZ p ρ α Z H) := by
  refine ⟨fun x o e => ?_, fun _ _ e => e⟩
  rw [seeZ_h]
  split
  · rename_i q
    obtain ⟨i, d, q1, _, qx⟩ := q
    obtain ⟨_, z, _⟩ := r.fp i d x q1 qx
    rw [z] at e; cases e
  · exact e
theorem see_in {i : Nat} {d : D} {x : Addr} (h : ρ[i]? = some (.own d)) (hp : p d = true) (hx : α i x) : seeZ p ρ α Z H x = H x := by
  rw [seeZ_h]
  rw [if_pos ⟨i, d, h, hp, hx⟩]
theorem see_wd (w : Wd B true Z C H s) (r : SRel K cl Z C H H0 ρ σ α) (hm : md = true → ∀ d, p d = true → ∀ ks ds, d = .dct ks ds → True) : Wd B md (seeZ p ρ α Z H) C H s := by
  refine ⟨fun x o e => ?_, w.ch, fun x e => ?_, B.mono w.sr ((see_sub r).imm rfl)⟩
  · rw [seeZ_h] at e
    split at e
    · exact e
    · exact w.zh x o e
  · rw [seeZ_h]
    split
    · rename_i q
      obtain ⟨i, d, q1, _, qx⟩ := q
      obtain ⟨_, _, c, _⟩ := r.fp i d x q1 qx
      exact absurd c e
    · exact w.dj x e
theorem see_env (sp : See p md) (r : SRel K cl Z C H H0 ρ σ α) : EnvR K cl (seeZ p ρ α Z H) (seeE p ρ) σ := by
  refine ⟨by simp [seeE, r.len], fun i d e => ?_⟩
  unfold seeE at e
  rw [List.getElem?_map] at e
  cases q : ρ[i]? with
  | none => rw [q] at e; cases e
  | some sl =>
    rw [q] at e
    cases sl with
    | no => cases e
    | val d' =>
      cases e
      obtain ⟨v, h1, h2⟩ := r.val i d q
      exact ⟨v, h1, h2.mono (see_sub r) d⟩
    | own d' =>
      simp only [Option.map_some] at e
      split at e
      · rename_i hp
        cases e
        obtain ⟨v, h1, o⟩ := r.own i d' q
        exact ⟨v, h1, o.rep (see_sub r) fun x ob hx ho => (see_in q hp hx).trans ho⟩
      · cases e
theorem see_nx (r : SRel K cl Z C H H0 ρ σ α) (n : Nx Z0 C0 H0 Z C H) (hd : md = true → ∀ d, p d = true → ∀ ks ds, d = .dct ks ds → True) (m : md = true) : Nx Z0 C0 H0 (seeZ p ρ α Z H) C H := by
  refine ⟨n.zz.trans (see_sub r), n.hh, fun x e => ?_, n.cf, n.cp, n.lk⟩
  rw [seeZ_h] at e
  split at e
  · rename_i q
    obtain ⟨i, d, q1, _, qx⟩ := q
    exact .inr (r.fp i d x q1 qx).1
  · exact n.zf x e
structure Un (p : D → Bool) (K : PySem.W.Frag) (cl : CTab) (B : Sto) (Z0 : Zp) (C0 H0 : Hp) (ρ : SEnv) (σ : L2.St) (α : Nat → Addr → Prop) (Z1 : Zp) (C1 H1 : Hp) (s1 : B.T) : Prop where
  wd : Wd B true (unZ p ρ α Z1) C1 H1 s1
  nx : Nx Z0 C0 H0 (unZ p ρ α Z1) C1 H1
  rel : SRel K cl (unZ p ρ α Z1) C1 H1 H0 ρ σ α
  imm : SubI Z1 (unZ p ρ α Z1)
  less : Sub (unZ p ρ α Z1).h Z1.h
theorem un_sub : Sub (unZ p ρ α Z1).h Z1.h := by
  intro x o e
  rw [unZ_h] at e
  split at e
  · cases e
  · exact e
theorem see_un (sp : See p md) (w : Wd B true Z C H s) (c0 : Sub C0 H0) (n : Nx Z0 C0 H0 Z C H) (r : SRel K cl Z C H H0 ρ σ α) (w1 : Wd B md Z1 C1 H1 s1) (n1 : Nx (seeZ p ρ α Z H) C H Z1 C1 H1) : Un p K cl B Z0 C0 H0 ρ σ α Z1 C1 H1 s1 := by
  have own1 : ∀ i d x, ρ[i]? = some (.own d) → α i x → ∃ o, H x = some o ∧ immO o = false ∧ H1 x = some o := fun i d x q qx => by
    obtain ⟨_, _, c, o, h1, h2⟩ := r.fp i d x q qx
    exact ⟨o, h1, h2, n1.hh _ _ h1 c⟩
  have imm : SubI Z1 (unZ p ρ α Z1) := ⟨fun x o ho e => by
    rw [unZ_h]
    split
    · rename_i q
      obtain ⟨i, d, q1, q2, qx⟩ := q
      obtain ⟨u, h1, h2, h3⟩ := own1 i d x q1 qx
      rw [w1.zh _ _ e] at h3
      cases h3
      rw [ho] at h2; cases h2
    · exact e, rfl⟩
  have zz : SubZ Z (unZ p ρ α Z1) := ⟨fun x o e => by
    rw [unZ_h]
    split
    · rename_i q
      obtain ⟨i, d, q1, _, qx⟩ := q
      obtain ⟨_, z, _⟩ := r.fp i d x q1 qx
      rw [z] at e; cases e
    · exact n1.zz.h x o ((see_sub r).h x o e), fun n a e => n1.zz.m n a e⟩
  have cz : ∀ i d x, ρ[i]? = some (.own d) → α i x → C1 x = none := fun i d x q qx => by
    obtain ⟨_, _, c, o, h1, _⟩ := r.fp i d x q qx
    cases e : C1 x with
    | none => rfl
    | some u =>
      rcases n1.cf _ (some_ne e) with z | z
      · exact absurd c z
      · rw [h1] at z; cases z
  have zn : ∀ i d x, ρ[i]? = some (.own d) → α i x → unZ p ρ α Z1 x = none := fun i d x q qx => by
    rw [unZ_h]
    split
    · rfl
    · rename_i nq
      obtain ⟨_, z, _, o, h1, _⟩ := r.fp i d x q qx
      cases e : Z1 x with
      | none => rfl
      | some u =>
        rcases n1.zf _ (some_ne e) with z1 | z1
        · rw [seeZ_h] at z1
          rw [if_neg nq] at z1
          exact absurd z z1
        · rw [h1] at z1; cases z1
  refine ⟨⟨un_sub.trans w1.zh, w1.ch, fun x e => ?_, B.mono w1.sr imm⟩, ?_, ⟨r.len, fun i d q => ?_, fun i d q => ?_, fun i d x q qx => ?_, r.dj⟩, imm, un_sub⟩
  · rw [unZ_h]
    split
    · rfl
    · exact w1.dj x e
  · refine ⟨n.zz.trans zz, fun x o e c => ?_, fun x e => ?_, fun x e => ?_, fun x e => n1.cp x (n.cp x e), fun x od u e => n1.lk x od u (n.lk x od u e)⟩
    · have h1 := n.hh x o e c
      refine n1.hh x o h1 ?_
      cases q : C x with
      | none => rfl
      | some u =>
        rcases n.cf x (some_ne q) with z | z
        · exact absurd c z
        · rw [e] at z; cases z
    · rw [unZ_h] at e
      split at e
      · exact absurd rfl e
      · rename_i nq
        rcases n1.zf x e with z | z
        · rw [seeZ_h] at z
          rw [if_neg nq] at z
          exact n.zf x z
        · exact .inr (n.back w.ch z)
    · rcases n1.cf x e with z | z
      · exact n.cf x z
      · exact .inr (n.back w.ch z)
  · obtain ⟨v, h1, h2⟩ := r.val i d q
    exact ⟨v, h1, h2.mono zz d⟩
  · obtain ⟨v, h1, h5⟩ := r.own i d q
    exact ⟨v, h1, h5.move zz fun x o hx e => n1.hh _ _ e (r.fp i d x q hx).2.2.1⟩
  · obtain ⟨h2, h3, h4, o, h5, h6⟩ := r.fp i d x q qx
    exact ⟨h2, zn i d x q qx, cz i d x q qx, o, n1.hh _ _ h5 h4, h6⟩
theorem PostS.seq (sp : See p md) {υ β : Type} {Rp : Zp → υ → β → Prop} {W : WX} {m : M B β} {k : β → M B Fl} {E : Ends} {Q1 : υ → Hp → Prop} (w : Wd B true Z C H s) (c0 : Sub C0 H0) (n : Nx Z0 C0 H0 Z C H) (r : SRel K cl Z C H H0 ρ σ α) (h : PostS K cl W Z0 C0 H0 (M.bind m k s) E)
    (hk : ∀ a s1 v Z1 C1 H1, Wd B md Z1 C1 H1 s1 → Nx (seeZ p ρ α Z H) C H Z1 C1 H1 → Rp Z1 v a → PostS K cl W Z0 C0 H0 (k a s1) E → Q1 v H1) : Post K cl md Rp W σ (seeZ p ρ α Z H) C H (m s) Q1 := by
  unfold M.bind at h
  cases e : m s with
  | ok a s1 =>
    rw [e] at h
    exact fun v Z1 C1 H1 w1 n1 r1 => hk a s1 v Z1 C1 H1 w1 n1 r1 h
  | err x s1 =>
    rw [e] at h
    intro c dx Z1 C1 H1 w1 n1 ex
    have u := see_un sp w c0 n r w1 n1
    refine h c dx σ _ C1 H1 u.wd u.nx ?_
    obtain ⟨C', fs, h1, h2, h3⟩ := ex
    refine ⟨C', fs, h1, h2, ?_⟩
    cases hf : x.f with
    | none => rw [hf] at h3; exact h3
    | some d =>
      rw [hf] at h3
      obtain ⟨f, v, a, q1, q2, q3, q0, q4, q5⟩ := h3
      exact ⟨f, v, a, q1, q2, q3, q0, q4, q5.monoI u.imm d q4⟩
  | stuck =>
    rw [e] at h
    exact h
end
section
variable {cl : CTab} {W : WX} {X : Cx} {p : D → Bool} {md : Bool}
theorem ds_ret {e : Expr} {f : Env → M B D} {pos : Pos} (sp : See p true) (h : DE cl B true W X e f) : DS cl B W X (.Return (some e) pos) fun ρ => M.bind (f (seeE p ρ)) fun d => M.pure (.rt d) := by
  refine PS.weak (ps_ret h) fun E σ H ⟨Z0, C0, H0, Z, C, s, ρ, α, c0, w, n, r, q⟩ => ?_
  refine ⟨seeZ p ρ α Z H, C, s, seeE p ρ, see_wd w r sp.nd, see_env sp r, PostS.seq sp w c0 n r q fun d s1 v Z1 C1 H1 w1 n1 r1 q1 => ?_⟩
  exact q1 v Z1 C1 H1 w1 ((see_nx (md := true) r n sp.nd rfl).trans c0 w.ch n1) r1
theorem SRel.setVal {K : PySem.W.Frag} {Z : Zp} {C H H0 : Hp} {ρ : SEnv} {σ : L2.St} {α : Nat → Addr → Prop} {i : Nat} {v : V} {d : D} (r : SRel K cl Z C H H0 ρ σ α) (h : Rep K cl Z v d) : SRel K cl Z C H H0 (ρ.set i (.val d)) (σ.set i (some v)) α := by
  have ne : ∀ j e, (ρ.set i (.val d))[j]? = some (.own e) → i ≠ j ∧ ρ[j]? = some (.own e) := fun j e q => by
    by_cases hj : i = j
    · subst hj
      by_cases hl : i < ρ.length
      · rw [List.getElem?_set_self hl] at q; cases q
      · rw [List.getElem?_eq_none (by simpa using hl)] at q; cases q
    · rw [List.getElem?_set_ne hj] at q
      exact ⟨hj, q⟩
  refine ⟨by simp [r.len], fun j e q => ?_, fun j e q => ?_, fun j e x q => r.fp j e x (ne j e q).2, fun j k e f x q1 q2 => r.dj j k e f x (ne j e q1).2 (ne k f q2).2⟩
  · by_cases hj : i = j
    · subst hj
      by_cases hl : i < ρ.length
      · rw [List.getElem?_set_self hl] at q
        cases q
        exact ⟨v, List.getElem?_set_self (by rw [← r.len]; exact hl), h⟩
      · rw [List.getElem?_eq_none (by simpa using hl)] at q; cases q
    · rw [List.getElem?_set_ne hj] at q
      obtain ⟨v', h1, h2⟩ := r.val j e q
      exact ⟨v', by rw [List.getElem?_set_ne hj]; exact h1, h2⟩
  · obtain ⟨hj, q'⟩ := ne j e q
    obtain ⟨v', h1, h2⟩ := r.own j e q'
    exact ⟨v', by rw [List.getElem?_set_ne hj]; exact h1, h2⟩
theorem SRel.move {K : PySem.W.Frag} {Z Z' : Zp} {C H H0 C' H' : Hp} {ρ : SEnv} {σ : L2.St} {α : Nat → Addr → Prop} (r : SRel K cl Z C H H0 ρ σ α) (zz : SubZ Z Z') (hh : ∀ i d x o, ρ[i]? = some (.own d) → α i x → H x = some o → H' x = some o)
    (z' : ∀ i d x, ρ[i]? = some (.own d) → α i x → Z' x = none) (c' : ∀ i d x, ρ[i]? = some (.own d) → α i x → C' x = none) : SRel K cl Z' C' H' H0 ρ σ α := by
  refine ⟨r.len, fun i d q => ?_, fun i d q => ?_, fun i d x q qx => ?_, r.dj⟩
  · obtain ⟨v, h1, h2⟩ := r.val i d q
    exact ⟨v, h1, h2.mono zz d⟩
  · obtain ⟨v, h1, h2⟩ := r.own i d q
    exact ⟨v, h1, h2.move zz fun x o hx e => hh i d x o q hx e⟩
  · obtain ⟨h1, _, _, o, h4, h5⟩ := r.fp i d x q qx
    exact ⟨h1, z' i d x q qx, c' i d x q qx, o, hh i d x o q qx h4, h5⟩
theorem set_core {i : Nat} {f : Env → M B D} {E : Ends} {σ : L2.St} {H : Hp} (h : tS X.K cl B W (fun ρ => M.bind (f (seeE pHide ρ)) fun d => M.pure (.nx (ρ.set i (.val d)))) E σ H) : tAsg (tG X.K cl B true (RpD X.K cl) W f) (gName i) E σ H := by
  obtain ⟨Z0, C0, H0, Z, C, s, ρ, α, c0, w, n, r, q⟩ := h
  refine ⟨seeZ pHide ρ α Z H, C, s, seeE pHide ρ, see_wd w r seeHide.nd, see_env seeHide r, PostS.seq seeHide w c0 n r q fun d s1 v Z1 C1 H1 w1 n1 r1 q1 => ?_⟩
  have u := see_un seeHide w c0 n r w1 n1
  have e1 : unZ pHide ρ α Z1 = Z1 := by
    show (⟨(unZ pHide ρ α Z1).h, Z1.μ⟩ : Zp) = Z1
    have : (unZ pHide ρ α Z1).h = Z1.h := by
      funext y
      rw [unZ_h]
      rw [if_neg (fun ⟨_, d, _, q, _⟩ => by simp [pHide] at q)]
    rw [this]
  have u1 := u.wd; have u2 := u.nx; have u3 := u.rel
  rw [e1] at u1 u2 u3
  exact q1 _ Z1 C1 H1 α u1 u2 (u3.setVal r1)
theorem ds_set {i : Nat} {x : Str} {e : Expr} {f : Env → M B D} {pos pos' : Pos} (hN : X.N.Nodup) (hi : X.N[i]? = some x) (hx : Loc X.env.scope x) (h : DE cl B true W X e f) (hs : swapsWith e (some (.Name x pos')) pos.line X.env = pure false := by rfl)
    (hf : X.fn x = true ∨ X.env.scope.names.lookup x = some .local := by first | exact .inl rfl | exact .inr rfl | assumption) : DS cl B W X (.Assign [.Name x pos'] e pos) fun ρ => M.bind (f (seeE pHide ρ)) fun d => M.pure (.nx (ρ.set i (.val d))) := PS.weak (ps_set hN hi hx h hs hf) fun E σ H q => set_core q
theorem ds_expr {e : Expr} {f : Env → M B D} {pos : Pos} (sp : See p md) (h : DE cl B md W X e f) (hs : swapsWith e none pos.line X.env = pure false := by rfl) : DS cl B W X (.Expr e pos) fun ρ => M.bind (f (seeE p ρ)) fun _ => M.pure (.nx ρ) := by
  refine PS.weak (ps_expr h hs) fun E σ H ⟨Z0, C0, H0, Z, C, s, ρ, α, c0, w, n, r, q⟩ => ?_
  refine ⟨seeZ p ρ α Z H, C, s, seeE p ρ, see_wd w r sp.nd, see_env sp r, PostS.seq sp w c0 n r q fun d s1 v Z1 C1 H1 w1 n1 r1 q1 => ?_⟩
  have u := see_un sp w c0 n r w1 n1
  exact q1 σ _ C1 H1 α u.wd u.nx u.rel
theorem ds_if {c : Expr} {a b : List Stmt} {t : Env → M B Bool} {F G : SEnv → M B Fl} {pos : Pos} (sp : See p md) (hc : DT cl B md W X c t) (ha : DSs cl B W X a F) (hb : DSs cl B W X b G) :
    DS cl B W X (.If c a b pos) fun ρ => M.bind (t (seeE p ρ)) fun k => if k = true then F ρ else G ρ := by
  refine PS.weak (ps_if hc ha hb) fun E σ H ⟨Z0, C0, H0, Z, C, s, ρ, α, c0, w, n, r, q⟩ => ?_
  refine ⟨seeZ p ρ α Z H, C, s, seeE p ρ, see_wd w r sp.nd, see_env sp r, PostS.seq sp w c0 n r q fun k s1 v Z1 C1 H1 w1 n1 r1 q1 => ?_⟩
  have u := see_un sp w c0 n r w1 n1
  have r1 : v = k := r1
  subst r1
  cases v with
  | true => exact ⟨Z0, C0, H0, _, C1, s1, ρ, α, c0, u.wd, u.nx, u.rel, q1⟩
  | false => exact ⟨Z0, C0, H0, _, C1, s1, ρ, α, c0, u.wd, u.nx, u.rel, q1⟩
end
end DN
namespace DN
open PySem PySem.Spec PyProof.Rows L2 RZ ND
variable {B : Sto}
def setsS (ρ : SEnv) (as : Asg) : SEnv := as.foldl (fun ρ p => ρ.set p.1 (.val p.2)) ρ
section
variable {K : PySem.W.Frag} {cl : CTab} {Z Z1 Z0 : Zp} {C H H0 C1 H1 C0 : Hp} {ρ : SEnv} {σ : L2.St} {α : Nat → Addr → Prop} {s s1 : B.T} {p : D → Bool} {md : Bool}
theorem SRel.sets : ∀ {as : Asg} {vs : List (Nat × V)} {ρ : SEnv} {σ : L2.St}, SRel K cl Z C H H0 ρ σ α → AsgR K cl Z as vs → SRel K cl Z C H H0 (setsS ρ as) (setsV σ vs) α
  | [], [], _, _, e, _ => e
  | (i, d) :: as, (j, v) :: vs, ρ, σ, e, ⟨a, b, c⟩ => by
    subst a
    show SRel K cl Z C H H0 (setsS (ρ.set i (.val d)) as) (setsV (σ.set i (some v)) vs) α
    exact SRel.sets (e.setVal b) c
  | [], _ :: _, _, _, _, h => False.elim h
  | _ :: _, [], _, _, _, h => False.elim h
structure Kp (p q : D → Bool) : Prop where
  k : ∀ d, q d = true → (∀ x, p x = false) ∨ d.imm = true
theorem kpHide : Kp pHide (fun _ => true) := ⟨fun _ _ => .inl fun _ => rfl⟩
theorem kpImm : Kp p D.imm := ⟨fun _ h => .inr h⟩
theorem unZ_hide (h : ∀ x, p x = false) : unZ p ρ α Z1 = Z1 := by
  show (⟨(unZ p ρ α Z1).h, Z1.μ⟩ : Zp) = Z1
  have : (unZ p ρ α Z1).h = Z1.h := by
    funext y
    rw [unZ_h, if_neg (fun ⟨_, d, _, q, _⟩ => by simp [h] at q)]
  rw [this]
theorem seeZ_hide (h : ∀ x, p x = false) : seeZ p ρ α Z H = Z := by
  show (⟨(seeZ p ρ α Z H).h, Z.μ⟩ : Zp) = Z
  have : (seeZ p ρ α Z H).h = Z.h := by
    funext y
    rw [seeZ_h, if_neg (fun ⟨_, d, _, q, _⟩ => by simp [h] at q)]
  rw [this]
theorem Un.rep {q : D → Bool} {v : V} {d : D} (u : Un p K cl B Z0 C0 H0 ρ σ α Z1 C1 H1 s1) (k : Kp p q) (hq : q d = true) (r : Rep K cl Z1 v d) : Rep K cl (unZ p ρ α Z1) v d := by
  rcases k.k d hq with h | h
  · rw [unZ_hide h]; exact r
  · exact r.monoI u.imm d h
theorem SRel.back (r : SRel K cl Z C H H0 ρ σ α) (n : Nx Z0 C0 H0 Z C H) : True := trivial
def upd1 (α : Nat → Addr → Prop) (i : Nat) (F : Addr → Prop) : Nat → Addr → Prop := fun j => if j = i then F else α j
theorem SRel.setOwn {i : Nat} {v : V} {F : Addr → Prop} {d : D} {H' : Hp} (r : SRel K cl Z C H H0 ρ σ α) (hh : ∀ j e x o, ρ[j]? = some (.own e) → j ≠ i → α j x → H x = some o → H' x = some o)
    (fp : ∀ x, F x → H0 x = none ∧ Z x = none ∧ C x = none ∧ ∃ o, H' x = some o ∧ immO o = false) (dj : ∀ j e x, ρ[j]? = some (.own e) → j ≠ i → F x → α j x → False) (o : OwnT K cl Z H' F v (.ins "" [d])) :
    SRel K cl Z C H' H0 (ρ.set i (.own d)) (σ.set i (some v)) (upd1 α i F) := by
  have hlen : i < ρ.length → i < σ.length := fun h => by rw [← r.len]; exact h
  have get : ∀ j x, (ρ.set i (.own d))[j]? = some x → (j = i ∧ x = .own d ∧ i < ρ.length) ∨ (j ≠ i ∧ ρ[j]? = some x) := fun j x q => by
    by_cases hj : i = j
    · subst hj
      by_cases hl : i < ρ.length
      · rw [List.getElem?_set_self hl] at q
        exact .inl ⟨rfl, (Option.some.inj q).symm, hl⟩
      · rw [List.getElem?_eq_none (by simpa using hl)] at q; cases q
    · rw [List.getElem?_set_ne hj] at q
      exact .inr ⟨fun z => hj z.symm, q⟩
  refine ⟨by simp [r.len], fun j e q => ?_, fun j e q => ?_, fun j e x q qx => ?_, fun j k e f x q1 q2 x1 x2 => ?_⟩
  · rcases get j _ q with ⟨_, h, _⟩ | ⟨hj, q⟩
    · cases h
    · obtain ⟨v', h1, h2⟩ := r.val j e q
      exact ⟨v', by rw [List.getElem?_set_ne (fun z => hj z.symm)]; exact h1, h2⟩
  · rcases get j _ q with ⟨rfl, h, hl⟩ | ⟨hj, q⟩
    · cases h
      simp only [upd1, if_pos rfl]
      exact ⟨v, List.getElem?_set_self (hlen hl), o⟩
    · obtain ⟨v', h1, h2⟩ := r.own j e q
      simp only [upd1, if_neg hj]
      exact ⟨v', by rw [List.getElem?_set_ne (fun z => hj z.symm)]; exact h1, h2.move (.refl _) fun x ob hx e => hh j _ x ob q hj hx e⟩
  · rcases get j _ q with ⟨rfl, h, hl⟩ | ⟨hj, q⟩
    · simp only [upd1, if_pos rfl] at qx
      exact fp x qx
    · simp only [upd1, if_neg hj] at qx
      obtain ⟨h1, h2, h3, o2, h4, h5⟩ := r.fp j e x q qx
      exact ⟨h1, h2, h3, o2, hh j e x o2 q hj qx h4, h5⟩
  · rcases get j _ q1 with ⟨ej, _, _⟩ | ⟨hj, q1'⟩
    · rcases get k _ q2 with ⟨ek, _, _⟩ | ⟨hk, q2'⟩
      · rw [ej, ek]
      · simp only [upd1, if_pos ej] at x1
        simp only [upd1, if_neg hk] at x2
        exact (dj k f x q2' hk x1 x2).elim
    · rcases get k _ q2 with ⟨ek, _, _⟩ | ⟨hk, q2'⟩
      · simp only [upd1, if_neg hj] at x1
        simp only [upd1, if_pos ek] at x2
        exact (dj j e x q1' hj x2 x1).elim
      · simp only [upd1, if_neg hj] at x1
        simp only [upd1, if_neg hk] at x2
        exact r.dj j k e f x q1' q2' x1 x2
theorem set_self {i : Nat} {v : V} (h : σ[i]? = some (some v)) : σ.set i (some v) = σ := by
  apply List.ext_getElem?
  intro j
  by_cases hj : i = j
  · subst hj
    rw [List.getElem?_set_self (List.getElem?_eq_some_iff.mp h).1]
    exact h.symm
  · rw [List.getElem?_set_ne hj]
theorem SRel.freeze {i : Nat} {d : D} (r : SRel K cl Z C H H0 ρ σ α) (h : ρ[i]? = some (.own d)) (hz : SubZ Z Z1) (hzi : ∀ x, ¬ α i x → Z1 x = Z x) (hzh : ∀ x, α i x → Z1 x = H x) :
    SRel K cl Z1 C H H0 (ρ.set i (.val (D.strip (.ins "" [d])))) σ α := by
  obtain ⟨v, hv, ow⟩ := r.own i d h
  have get : ∀ j x, (ρ.set i (Sl.val (D.strip (.ins "" [d]))))[j]? = some x → (j = i ∧ x = .val (D.strip (.ins "" [d]))) ∨ (j ≠ i ∧ ρ[j]? = some x) := fun j x q => by
    by_cases hj : i = j
    · subst hj
      by_cases hl : i < ρ.length
      · rw [List.getElem?_set_self hl] at q
        exact .inl ⟨rfl, (Option.some.inj q).symm⟩
      · rw [List.getElem?_eq_none (by simpa using hl)] at q; cases q
    · rw [List.getElem?_set_ne hj] at q
      exact .inr ⟨fun z => hj z.symm, q⟩
  have ownOf : ∀ j e, (ρ.set i (Sl.val (D.strip (.ins "" [d]))))[j]? = some (.own e) → j ≠ i ∧ ρ[j]? = some (.own e) := fun j e q => by
    rcases get j _ q with ⟨_, hx⟩ | q
    · cases hx
    · exact q
  refine ⟨by simp [r.len], fun j e q => ?_, fun j e q => ?_, fun j e x q qx => ?_, fun j k e f x q1 q2 => r.dj j k e f x (ownOf j e q1).2 (ownOf k f q2).2⟩
  · rcases get j _ q with ⟨ej, hx⟩ | ⟨hj, q'⟩
    · cases hx
      rw [ej]
      exact ⟨v, hv, ow.rep hz fun x o hx ho => (hzh x hx).trans ho⟩
    · obtain ⟨v', h1, h2⟩ := r.val j e q'
      exact ⟨v', h1, h2.mono hz e⟩
  · obtain ⟨hj, q'⟩ := ownOf j e q
    obtain ⟨v', h1, h2⟩ := r.own j e q'
    exact ⟨v', h1, h2.move hz fun _ _ _ e => e⟩
  · obtain ⟨hj, q'⟩ := ownOf j e q
    obtain ⟨h1, h2, h3, h4⟩ := r.fp j e x q' qx
    exact ⟨h1, (hzi x fun z => hj (r.dj j i e d x q' h qx z)).trans h2, h3, h4⟩
end
section
variable {cl : CTab} {W : WX} {X : Cx} {p : D → Bool} {md : Bool}
theorem pHide_no : ∀ x, pHide x = false := fun _ => rfl
def iaddD : D → D → Option D
  | .int i, .int j => some (.int (i + j))
  | _, _ => none
theorem Nx.rebase {Z0 Z : Zp} {C0 H0 C H : Hp} (a : Nx Z0 C0 H0 Z C H) : Nx Z C0 H0 Z C H :=
  ⟨.refl _, a.hh, fun x e => .inl e, a.cf, a.cp, a.lk⟩
theorem Nx.unbase {Z0 Z Z1 : Zp} {C0 H0 C H C1 H1 : Hp} (a : Nx Z0 C0 H0 Z C H) (b : Nx Z C0 H0 Z1 C1 H1) : Nx Z0 C0 H0 Z1 C1 H1 :=
  ⟨a.zz.trans b.zz, b.hh, fun x e => (b.zf x e).elim (a.zf x) .inr, b.cf, b.cp, b.lk⟩
theorem PostS.rebase {K : PySem.W.Frag} {Z0 Z : Zp} {C0 H0 C H : Hp} {r : Res B.T Fl} {E : Ends} (a : Nx Z0 C0 H0 Z C H) (h : PostS K cl W Z0 C0 H0 r E) : PostS K cl W Z C0 H0 r E := by
  cases r with
  | ok fl s =>
    cases fl with
    | nx ρ => exact fun σ Z1 C1 H1 α w n => h σ Z1 C1 H1 α w (a.unbase n)
    | bk ρ => exact fun σ Z1 C1 H1 α w n => h σ Z1 C1 H1 α w (a.unbase n)
    | ct ρ => exact fun σ Z1 C1 H1 α w n => h σ Z1 C1 H1 α w (a.unbase n)
    | rt d => exact fun v Z1 C1 H1 w n => h v Z1 C1 H1 w (a.unbase n)
    | ro d => exact fun v F Z1 C1 H1 w n => h v F Z1 C1 H1 w (a.unbase n)
  | err x s => exact fun c dx σ Z1 C1 H1 w n => h c dx σ Z1 C1 H1 w (a.unbase n)
  | stuck => exact h
def forL (a : D → Option Asg) (F : SEnv → M B Fl) : List D → SEnv → M B Fl
  | [], ρ => M.pure (.nx ρ)
  | d :: ds, ρ => M.bind (lift (a d)) fun as => M.bind (F (setsS ρ as)) fun fl => match fl with
    | .nx ρ' => forL a F ds ρ'
    | .ct ρ' => forL a F ds ρ'
    | .bk ρ' => M.pure (.nx ρ')
    | .rt d => M.pure (.rt d)
    | .ro d => M.pure (.ro d)
theorem ds_for {tg iter : Expr} {body : List Stmt} {src : Env → M B (List D)} {a : D → Option Asg} {F : SEnv → M B Fl} {pos : Pos} (hp : PassesOwn (model X.prog X.w) X.A X.env X.xe) (hc : X.calm = true) (hi : DI cl B true W X tg iter src) (hg : DG cl X tg a) (hb : DSs cl B W X body F)
    (hs : ∀ x, foldedSetIterable iter X.env x = pure x := by intro _; rfl) : DS cl B W X (.For tg iter body [] pos) fun ρ => M.bind (src (seeE pHide ρ)) fun ds => forL a F ds ρ := by
  refine PS.weak (ps_for hp hc hi hg hb hs) fun E σ H ⟨Z0, C0, H0, Z, C, s, ρ, α, c0, w, n, r, q⟩ => ?_
  refine ⟨seeZ pHide ρ α Z H, C, s, seeE pHide ρ, see_wd w r seeHide.nd, see_env seeHide r, PostS.seq seeHide w c0 n r q fun ds s1 J Z1 C1 H1 w1 n1 r1 q1 => ?_⟩
  have u := see_un seeHide w c0 n r w1 n1
  have u1 := u.wd; have u2 := u.nx; have u3 := u.rel
  rw [unZ_hide pHide_no] at u1 u2 u3
  refine for_it r1.1 (fun i σ H => ∃ Zi Ci si ρi αi, Wd B true Zi Ci H si ∧ Nx Z0 C0 H0 Zi Ci H ∧ SRel X.K cl Zi Ci H H0 ρi σ αi ∧ SubZ Z1 Zi ∧ PostS X.K cl W Z0 C0 H0 (forL a F (ds.drop i) ρi si) E)
    ⟨Z1, C1, s1, ρ, α, u1, u2, u3, .refl _, q1⟩ (fun i σ H hi ⟨Zi, Ci, si, ρi, αi, wi, ni, ri, zi, pi⟩ => zi.to wi.zh) ?_ ?_
  · rintro i x σ2 H2 H2' hi ⟨Zi, Ci, si, ρi, αi, wi, ni, ri, zi, pi⟩ ⟨d, hd, hy⟩
    obtain ⟨Zc, al, rx⟩ := hy Zi zi wi.zh
    have hdr : ds.drop i = d :: ds.drop (i + 1) := by
      have hlt : i < ds.length := hi
      rw [List.drop_eq_getElem_cons hlt]
      have : ds[i] = d := by
        rw [List.getElem?_eq_getElem hlt] at hd
        exact Option.some.inj hd
      rw [this]
    rw [hdr] at pi
    have wc := al.wd wi
    have nc := ni.trans c0 wi.ch al.nx
    have rc : SRel X.K cl Zc Ci H2' H0 ρi σ2 αi := by
      refine ri.move al.zz (fun j e x o q hx ho => al.hh _ _ ho) (fun j e x q qx => ?_) fun j e x q qx => (ri.fp j e x q qx).2.2.1
      obtain ⟨h2, h3, h4, o, ho, _⟩ := ri.fp j e x q qx
      cases qz : Zc x with
      | none => rfl
      | some z =>
        rcases al.zf _ (some_ne qz) with zz | zz
        · exact absurd h3 zz
        · rw [ho] at zz; cases zz
    have pi : PostS X.K cl W Z0 C0 H0 (M.bind (lift (a d)) (fun as => M.bind (F (setsS ρi as)) fun fl => match fl with
      | .nx ρ' => forL a F (ds.drop (i + 1)) ρ'
      | .ct ρ' => forL a F (ds.drop (i + 1)) ρ'
      | .bk ρ' => M.pure (.nx ρ')
      | .rt d => M.pure (.rt d)
      | .ro d => M.pure (.ro d)) si) E := pi
    cases ha : a d with
    | none => rw [ha] at pi; exact False.elim pi
    | some as =>
      rw [ha] at pi
      refine ⟨Zc, d, as, wc.zh, rx, ha, fun vs av => ?_⟩
      refine ⟨Zc, C0, H0, Zc, Ci, si, setsS ρi as, αi, c0, wc, nc.rebase, rc.sets av, ?_⟩
      have pi : PostS X.K cl W Z0 C0 H0 (M.bind (F (setsS ρi as)) (fun fl => match fl with
        | .nx ρ' => forL a F (ds.drop (i + 1)) ρ'
        | .ct ρ' => forL a F (ds.drop (i + 1)) ρ'
        | .bk ρ' => M.pure (.nx ρ')
        | .rt d => M.pure (.rt d)
        | .ro d => M.pure (.ro d)) si) E := pi
      unfold M.bind at pi
      cases hF : F (setsS ρi as) si with
      | stuck => simp only [hF] at pi; exact pi
      | err x s3 =>
        simp only [hF] at pi
        exact fun c dx σ3 Z3 C3 H3 w3 n3 => pi c dx σ3 Z3 C3 H3 w3 (nc.unbase n3)
      | ok fl s3 =>
        simp only [hF] at pi
        cases fl with
        | nx ρ3 => exact fun σ3 Z3 C3 H3 α3 w3 n3 r3 => ⟨Z3, C3, s3, ρ3, α3, w3, nc.unbase n3, r3, (zi.trans al.zz).trans n3.zz, pi⟩
        | ct ρ3 => exact fun σ3 Z3 C3 H3 α3 w3 n3 r3 => ⟨Z3, C3, s3, ρ3, α3, w3, nc.unbase n3, r3, (zi.trans al.zz).trans n3.zz, pi⟩
        | bk ρ3 => exact fun σ3 Z3 C3 H3 α3 w3 n3 r3 => pi σ3 Z3 C3 H3 α3 w3 (nc.unbase n3) r3
        | rt d => exact fun v Z3 C3 H3 w3 n3 r3 => pi v Z3 C3 H3 w3 (nc.unbase n3) r3
        | ro d => exact fun v F Z3 C3 H3 w3 n3 r3 => pi v F Z3 C3 H3 w3 (nc.unbase n3) r3
  · rintro σ2 H2 ⟨Zi, Ci, si, ρi, αi, wi, ni, ri, zi, pi⟩
    rw [List.drop_length] at pi
    exact pi σ2 Zi Ci H2 αi wi ni ri
end
end DN
namespace DN
open PySem PySem.Spec PyProof.Rows L2 RZ ND
variable {B : Sto}
def startE (m : Nat) (ds : List D) : SEnv := ds.map .val ++ List.replicate (m - ds.length) .no
def retF (fl : Fl) : M B D := match fl with
  | .nx _ => M.pure .non
  | .rt d => M.pure d
  | _ => fun _ => .stuck
def runF (m : Nat) (F : SEnv → M B Fl) (ds : List D) : M B D := M.bind (F (startE m ds)) retF
abbrev WD (E : XK) : WX := fun c d _ H => E c d H
section
variable {P : Program} {w : World} {K : PySem.W.Frag} {mg : Str → Option Value} {base : Heap} {cl : CTab}
abbrev CXD (P : Program) (w : World) (K : PySem.W.Frag) (mg : Str → Option Value) (base : Heap) (N : List Str) (qual : Str) (st : Stmt) (f : Addr) (cdv : Value) (A : Around) (outer : List PySem.Env) (s : Shared) (H : Hp) (E : XK) : Cx :=
  cxOf (L2.CX P w) P w K mg base N qual (defScope st) f cdv A outer s H E
theorem start_rel {Z : Zp} {C H H0 : Hp} {ds : List D} {vs : List V} {N : List Str} {α : Nat → Addr → Prop} (r : RepL K cl Z vs ds) : SRel K cl Z C H H0 (startE N.length ds) (L2.start N vs) α := by
  have rl := r.len
  have noown : ∀ (i : Nat) (d : D), (startE N.length ds)[i]? ≠ some (.own d) := fun i d q => by
    unfold startE at q
    by_cases hi : i < ds.length
    · rw [List.getElem?_append_left (by simpa using hi), List.getElem?_map, List.getElem?_eq_getElem hi] at q
      cases q
    · rw [List.getElem?_append_right (by simpa using hi), List.getElem?_replicate] at q
      split at q <;> cases q
  refine ⟨by simp [startE, L2.start, rl], fun i d q => ?_, fun i d q => absurd q (noown i d), fun i d x q => absurd q (noown i d), fun i j d e x q => absurd q (noown i d)⟩
  unfold startE at q
  by_cases hi : i < ds.length
  · rw [List.getElem?_append_left (by simpa using hi), List.getElem?_map] at q
    cases hd : ds[i]? with
    | none => rw [hd] at q; cases q
    | some d' =>
      rw [hd] at q
      cases q
      obtain ⟨v, h1, h2⟩ := r.get hd
      refine ⟨v, ?_, h2⟩
      unfold L2.start
      rw [List.getElem?_append_left (by rw [List.length_map, rl]; exact hi), List.getElem?_map, h1]
      rfl
  · rw [List.getElem?_append_right (by simpa using hi), List.getElem?_replicate] at q
    split at q <;> cases q
theorem fn_ok {x qual : Str} {st : Stmt} {f : Addr} {fd : FuncData} {N ps : List Str} {k n : Nat} {F : SEnv → M B Fl} (G : Fun K x qual st f fd) (S : FnScope N ps (defScope st)) (hn : ps.length = n)
    (hbody : ∀ (cdv : Value) (A : Around) (outer : List PySem.Env) (s : Shared) (H : Hp) (E : XK), Room k (A.deeper (envOfC qual (defScope st) s.heap.objs.size f cdv)) →
      DSs cl B (WD E) (CXD P w K mg base N qual st f cdv A outer s H E) (defBody st) F) :
    FnOk P w K mg base (L2.CX P w) (k + 1) f fd ps (spD K cl B n (runF N.length F)) := by
  refine G.okX S (fun vs H Q E h => spD_len hn vs H Q E h) fun cdv A outer s H vs Q E hr h => ?_
  refine ⟨_, hbody cdv A outer s H E hr, ?_⟩
  obtain ⟨Z, C, sb, ds, wd, r, l, p⟩ := h
  refine ⟨Z, C, H, Z, C, sb, startE N.length ds, fun _ _ => False, wd.ch, wd, .refl .., start_rel r, ?_⟩
  show PostS K cl (WD E) Z C H (F (startE N.length ds) sb) _
  unfold runF M.bind at p
  cases hF : F (startE N.length ds) sb with
  | stuck => simp only [hF] at p; exact p
  | err x s1 =>
    simp only [hF] at p
    exact fun c dx σ Z1 C1 H1 w1 n1 ex => p c dx Z1 C1 H1 w1 n1 ex
  | ok fl s1 =>
    simp only [hF] at p
    cases fl with
    | nx ρ => exact fun σ1 Z1 C1 H1 α1 w1 n1 r1 => p .non Z1 C1 H1 w1 n1 .non
    | rt d => exact fun v Z1 C1 H1 w1 n1 r1 => p v Z1 C1 H1 w1 n1 r1
    | bk ρ => exact False.elim p
    | ct ρ => exact False.elim p
    | ro d => exact False.elim p
theorem takesD {N : List Str} {qual : Str} {st : Stmt} {f : Addr} {cdv : Value} {A : Around} {outer : List PySem.Env} {s : Shared} {H : Hp} {E : XK} : Takes (CXD P w K mg base N qual st f cdv A outer s H E) (WD E) := takes_of rfl rfl rfl rfl
theorem passesD {N : List Str} {qual : Str} {st : Stmt} {f : Addr} {cdv : Value} {A : Around} {outer : List PySem.Env} {s : Shared} {H : Hp} {E : XK} : PassesOwn (model (CXD P w K mg base N qual st f cdv A outer s H E).prog (CXD P w K mg base N qual st f cdv A outer s H E).w) (CXD P w K mg base N qual st f cdv A outer s H E).A (CXD P w K mg base N qual st f cdv A outer s H E).env (CXD P w K mg base N qual st f cdv A outer s H E).xe := passes_of rfl
end
end DN
namespace DN
open PySem PySem.Spec PyProof.Rows L2 RZ ND
def MemR (K : PySem.W.Frag) (cl : CTab) (Z : Zp) (C : Hp) (a : Addr) : D → Prop
  | .lst ds => D.immL ds = true ∧ ∃ vs, C a = some (.lst vs) ∧ vs.length ≤ sizeLine ∧ RepL K cl Z vs ds
  | .dct ks ds => D.immL ds = true ∧ ∃ (o : HO) (kvs : List (GK × V)), C a = some o ∧ DKV cl Z.h a o kvs ∧ ks = kvs.map (fun p => keyD p.1) ∧ KNd kvs ∧ RepL K cl Z (kvs.map (·.2)) ds
  | .ins c ds => D.immL ds = true ∧ ∃ (C0 dx : Addr) (fs : List (Str × V)) (names : List Str), cl c = some (C0, names) ∧ C a = some (.ins C0 dx fs) ∧ fs.map (·.1) = names.take ds.length ∧ RepL K cl Z (fs.map (·.2)) ds
  | .tup [.dct ks ds] => D.immL ds = true ∧ ∃ (od : Obj) (o : HO) (kvs : List (GK × V)), C a = some (.frz od o) ∧ DKV cl Z.h a o kvs ∧ ks = kvs.map (fun p => keyD p.1) ∧ KNd kvs ∧ RepL K cl Z (kvs.map (·.2)) ds
  | _ => False
theorem MemR.mono {K : PySem.W.Frag} {cl : CTab} {Z Z' : Zp} {C C' : Hp} {a : Addr} (ht : ∀ b xs, Z.h b = some (.tup xs) → Z'.h b = some (.tup xs)) (h : ∀ (ds : List D) (vs : List V), D.immL ds = true → RepL K cl Z vs ds → RepL K cl Z' vs ds) (hc : C' a = C a) : ∀ {d : D}, MemR K cl Z C a d → MemR K cl Z' C' a d
  | .lst ds, ⟨i, vs, a, b, c⟩ => ⟨i, vs, hc.trans a, b, h _ _ i c⟩
  | .dct ks ds, ⟨i, o, kvs, a, b, c, n, e⟩ => ⟨i, o, kvs, hc.trans a, b.mono ht, c, n, h _ _ i e⟩
  | .ins c ds, ⟨i, C, dx, fs, ns, a, b, c1, e⟩ => ⟨i, C, dx, fs, ns, a, hc.trans b, c1, h _ _ i e⟩
  | .tup [.dct ks ds], ⟨i, od, o, kvs, a, b, c, n, e⟩ => ⟨i, od, o, kvs, hc.trans a, b.mono ht, c, n, h _ _ i e⟩
theorem MemR.monoI {K : PySem.W.Frag} {cl : CTab} {Z Z' : Zp} {C C' : Hp} {a : Addr} (h : SubI Z Z') (hc : C' a = C a) {d : D} (r : MemR K cl Z C a d) : MemR K cl Z' C' a d := r.mono (fun _ _ q => h.h _ _ rfl q) (fun _ _ i q => q.monoI h _ i) hc
theorem MemR.monoZ {K : PySem.W.Frag} {cl : CTab} {Z Z' : Zp} {C C' : Hp} {a : Addr} (h : SubZ Z Z') (hc : C' a = C a) {d : D} (r : MemR K cl Z C a d) : MemR K cl Z' C' a d := r.mono (fun _ _ q => h.h _ _ q) (fun _ _ _ q => q.mono h) hc
structure Mem where
  m : Nat → Option D
  n : Nat
instance : CoeFun Mem (fun _ => Nat → Option D) := ⟨Mem.m⟩
def updM (s : Mem) (a : Nat) (d : Option D) : Mem := ⟨fun x => if x = a then d else s.m x, s.n⟩
def Mem.push (s : Mem) (d : D) : Mem := ⟨fun x => if x = s.n then some d else s.m x, s.n + 1⟩
structure MemOk (K : PySem.W.Frag) (cl : CTab) (s : Mem) (Z : Zp) (C : Hp) : Prop where
  no : ∀ k, s.m k = none → Z.μ k = none
  yes : ∀ k d, s.m k = some d → ∃ a, Z.μ k = some a ∧ MemR K cl Z C a d
  inj : ∀ i j a, Z.μ i = some a → Z.μ j = some a → i = j
  cov : ∀ a, C a ≠ none → ∃ k, Z.μ k = some a
  nx : ∀ k, s.n ≤ k → s.m k = none
@[reducible] def MemS (K : PySem.W.Frag) (cl : CTab) : Sto where
  T := Mem
  R s Z C := MemOk K cl s Z C
  mono := fun {s Z Z' C} r h => ⟨fun k e => by rw [h.m]; exact r.no k e, fun k d e => by
    obtain ⟨a, h1, h2⟩ := r.yes k d e
    exact ⟨a, by rw [h.m]; exact h1, h2.monoI h rfl⟩, fun i j a => by rw [h.m]; exact r.inj i j a, fun a e => by rw [h.m]; exact r.cov a e, r.nx⟩
def nameZ (Z : Zp) (k : Nat) (p : Addr) : Zp := ⟨Z.h, fun j => if j = k then some p else Z.μ j⟩
theorem nameZ_sub {Z : Zp} {k : Nat} {p : Addr} (h : Z.μ k = none) : SubZ Z (nameZ Z k p) := ⟨.refl _, fun n a e => by
  show (if n = k then some p else Z.μ n) = some a
  rw [if_neg (fun q => by rw [q, h] at e; cases e)]; exact e⟩
section
variable {K : PySem.W.Frag} {cl : CTab} {md : Bool} {Z Z1 : Zp} {C H C1 H1 : Hp} {m : Mem} {a p : Addr} {k : Nat} {d d' : D} {o o' : HO}
theorem mem_at (w : Wd (MemS K cl) md Z C H m) (h : m.m k = some d) : ∃ a, Z.μ k = some a ∧ MemR K cl Z C a d := w.sr.yes k d h
theorem mem_at' (w : Wd (MemS K cl) md Z C H m) (h : m.m k = some d) (e : Z.μ k = some a) : MemR K cl Z C a d := by
  obtain ⟨b, h1, h2⟩ := w.sr.yes k d h
  rw [e] at h1; cases h1; exact h2
theorem MemR.there : ∀ {d : D}, MemR K cl Z C a d → ∃ o, C a = some o
  | .lst _, ⟨_, _, e, _⟩ => ⟨_, e⟩
  | .dct _ _, ⟨_, _, _, e, _⟩ => ⟨_, e⟩
  | .ins _ _, ⟨_, _, _, _, _, _, e, _⟩ => ⟨_, e⟩
  | .tup [.dct _ _], ⟨_, _, _, _, e, _⟩ => ⟨_, e⟩
theorem mem_name (w : Wd (MemS K cl) md Z C H m) (e : Z.μ k = some a) : ∃ d, m.m k = some d ∧ MemR K cl Z C a d := by
  cases q : m.m k with
  | none => rw [w.sr.no k q] at e; cases e
  | some d => exact ⟨d, rfl, mem_at' w q e⟩
theorem mem_putW (w : Wd (MemS K cl) md Z C H m) (hk : Z.μ k = some a) (h : C a = some o) (r : MemR K cl Z (upd C a o') a d') : Wd (MemS K cl) md Z (upd C a o') (upd H a o') (updM m k (some d')) := by
  have za : Z a = none := w.dj a (some_ne h)
  refine ⟨fun x u e => ?_, fun x u e => ?_, fun x e => ?_, ⟨fun j e => ?_, fun j d e => ?_, w.sr.inj, fun x e => ?_, fun j e => ?_⟩⟩
  · rw [upd_ne (ne_of_none e za)]; exact w.zh x u e
  · by_cases hx : x = a
    · rw [hx, upd_same] at e ⊢; exact e
    · rw [upd_ne hx] at e ⊢; exact w.ch x u e
  · by_cases hx : x = a
    · rw [hx]; exact za
    · rw [upd_ne hx] at e; exact w.dj x e
  · have e : (if j = k then some d' else m.m j) = none := e
    split at e
    · cases e
    · exact w.sr.no j e
  · have e : (if j = k then some d' else m.m j) = some d := e
    split at e
    · rename_i q
      cases e; subst q
      exact ⟨a, hk, r⟩
    · rename_i q
      obtain ⟨b, h1, h2⟩ := w.sr.yes j d e
      refine ⟨b, h1, h2.monoZ (.refl _) (upd_ne fun z => ?_)⟩
      subst z
      exact q (w.sr.inj _ _ _ h1 hk)
  · by_cases hx : x = a
    · rw [hx]; exact ⟨k, hk⟩
    · rw [upd_ne hx] at e; exact w.sr.cov x e
  · show (if j = k then some d' else m.m j) = none
    rw [if_neg]
    · exact w.sr.nx j e
    · intro q
      subst q
      rw [w.sr.no j (w.sr.nx j e)] at hk; cases hk
theorem mem_put (w : Wd (MemS K cl) md Z C H m) (hk : Z.μ k = some a) (h : C a = some o) (nf : ∀ od u, o ≠ .frz od u) (r : MemR K cl Z (upd C a o') a d') : Wd (MemS K cl) md Z (upd C a o') (upd H a o') (updM m k (some d')) ∧ Nx Z C H Z (upd C a o') (upd H a o') := by
  refine ⟨mem_putW w hk h r, ⟨.refl _, fun x u e c => ?_, fun x e => .inl e, fun x e => ?_, fun x e => ?_, fun x od u e => (upd_ne (fun z => by rw [z, h] at e; exact nf od u (Option.some.inj e))).trans e⟩⟩
  · rw [upd_ne (fun z => by rw [z, h] at c; cases c)]; exact e
  · by_cases hx : x = a
    · rw [hx]; exact .inl (some_ne h)
    · rw [upd_ne hx] at e; exact .inl e
  · by_cases hx : x = a
    · rw [hx, upd_same]; exact fun z => nomatch z
    · rw [upd_ne hx]; exact e
theorem mem_free (w : Wd (MemS K cl) md Z C H m) : Z.μ m.n = none := w.sr.no _ (w.sr.nx _ (Nat.le_refl _))
theorem mem_new (w : Wd (MemS K cl) md Z C H m) (hp : H p = none) {H2 : Hp} (h2 : Sub H H2) (h3 : H2 p = some o) (r : MemR K cl (nameZ Z m.n p) (upd C p o) p d) :
    Wd (MemS K cl) md (nameZ Z m.n p) (upd C p o) H2 (m.push d) ∧ Nx Z C H (nameZ Z m.n p) (upd C p o) H2 := by
  have zp := none_of_sub w.zh hp
  have cp := none_of_sub w.ch hp
  have np : ∀ j, Z.μ j ≠ some p := fun j e => by
    obtain ⟨_, _, h⟩ := mem_name w e
    obtain ⟨o, ho⟩ := h.there
    rw [cp] at ho; cases ho
  refine ⟨⟨fun x u e => h2 x u (w.zh x u e), fun x u e => ?_, fun x e => ?_, ⟨fun j e => ?_, fun j d e => ?_, fun i j a => ?_, fun x e => ?_, fun j e => ?_⟩⟩, ⟨nameZ_sub (mem_free w), fun x u e c => h2 x u e, fun x e => .inl e, fun x e => ?_, fun x e => ?_, fun x od u e => (upd_ne (fun z => by rw [z, cp] at e; cases e)).trans e⟩⟩
  · by_cases hx : x = p
    · rw [hx, upd_same] at e; rw [hx, h3]; exact e
    · rw [upd_ne hx] at e; exact h2 x u (w.ch x u e)
  · by_cases hx : x = p
    · rw [hx]; exact zp
    · rw [upd_ne hx] at e; exact w.dj x e
  · have e : (if j = m.n then some d else m.m j) = none := e
    show (if j = m.n then some p else Z.μ j) = none
    split at e
    · cases e
    · rename_i q; rw [if_neg q]; exact w.sr.no j e
  · rename_i d2
    have e : (if j = m.n then some d2 else m.m j) = some d := e
    show ∃ a, (if j = m.n then some p else Z.μ j) = some a ∧ _
    split at e
    · rename_i q
      cases e
      exact ⟨p, by rw [if_pos q], r⟩
    · rename_i q
      obtain ⟨b, h1, h4⟩ := w.sr.yes j d e
      refine ⟨b, by rw [if_neg q]; exact h1, h4.monoZ (nameZ_sub (mem_free w)) (upd_ne fun z => ?_)⟩
      subst z
      exact np _ h1
  · show (if i = m.n then some p else Z.μ i) = some a → (if j = m.n then some p else Z.μ j) = some a → i = j
    intro e1 e2
    by_cases hi : i = m.n
    · by_cases hj : j = m.n
      · rw [hi, hj]
      · rw [if_pos hi] at e1; rw [if_neg hj] at e2; cases e1; exact absurd e2 (np j)
    · by_cases hj : j = m.n
      · rw [if_neg hi] at e1; rw [if_pos hj] at e2; cases e2; exact absurd e1 (np i)
      · rw [if_neg hi] at e1; rw [if_neg hj] at e2; exact w.sr.inj _ _ _ e1 e2
  · by_cases hx : x = p
    · exact ⟨m.n, by rw [hx]; exact if_pos rfl⟩
    · rw [upd_ne hx] at e
      obtain ⟨k, hk⟩ := w.sr.cov x e
      exact ⟨k, (nameZ_sub (mem_free w)).m _ _ hk⟩
  · show (if j = m.n then some d else m.m j) = none
    have e : m.n + 1 ≤ j := e
    rw [if_neg (by omega)]
    exact w.sr.nx j (by omega)
  · by_cases hx : x = p
    · rw [hx]; exact .inr hp
    · rw [upd_ne hx] at e; exact .inl e
  · by_cases hx : x = p
    · rw [hx, upd_same]; exact fun z => nomatch z
    · rw [upd_ne hx]; exact e
end
def rdM {K : PySem.W.Frag} {cl : CTab} (a : Nat) : M (MemS K cl) D := fun m => match m.m a with
  | some d => .ok d m
  | none => .stuck
def ixM {K : PySem.W.Frag} {cl : CTab} (x y : D) : M (MemS K cl) D := match x with
  | .ref a => M.bind (rdM a) fun l => lift (match l, y with
    | .lst ds, .int i => atI ds i
    | _, _ => none)
  | x => lift (ixD x y)
def lenM {K : PySem.W.Frag} {cl : CTab} (x : D) : M (MemS K cl) D := match x with
  | .ref a => M.bind (rdM a) fun l => lift (match l with
    | .lst ds => some (.int ds.length)
    | _ => none)
  | _ => fun _ => .stuck
section
variable {cl : CTab} {md : Bool} {W : WX} {X : Cx}
theorem de_ixM {a b : Expr} {f1 f2 : Env → M (MemS X.K cl) D} {pos : Pos} (ha : DE cl (MemS X.K cl) md W X a f1) (hb : DE cl (MemS X.K cl) md W X b f2) (hs : PlainIx b := by exact fun _ _ => rfl) :
    DE cl (MemS X.K cl) md W X (.Subscript a b pos) fun ρ => M.bind (f1 ρ) fun x => M.bind (f2 ρ) fun y => match x with
      | .ref a => ixM (.ref a) y
      | _ => fun _ => .stuck := by
  refine PE.weak (pe_ix ix_seq ha hb hs) fun σ H Q ⟨Z, C, s, ρ, w, e, p⟩ => ?_
  refine ⟨Z, C, s, ρ, w, e, Post.seq w.ch p fun dx s1 x Z1 C1 H1 w1 n1 r1 p1 => ?_⟩
  refine ⟨Z1, C1, s1, ρ, w1, e.mono n1.zz, Post.seq w1.ch p1 fun dy s2 y Z2 C2 H2 w2 n2 r2 p2 => ?_⟩
  cases dx <;> (try (exact False.elim p2))
  rename_i ad
  unfold ixM rdM M.bind at p2
  cases hm : s2.m ad with
  | none => simp only [hm] at p2; exact False.elim p2
  | some l =>
    simp only [hm] at p2
    cases r1 with | ref e1 =>
    have mr := mem_at' w2 hm (n2.zz.m _ _ e1)
    cases l <;> (try (exact False.elim p2))
    cases dy <;> (try (exact False.elim p2))
    obtain ⟨im, vs, h1, h2, h3⟩ := mr
    cases r2
    obtain ⟨d, hd, q⟩ := post_lift w2 p2
    obtain ⟨v, h4, h5⟩ := atI_rep h3 hd
    exact .inl ⟨_, _, _, v, rfl, rfl, SqL.of (w2.ch _ _ h1), h4, q v Z2 H2 (.refl w2.zh) h5⟩
theorem de_lenM {a : Expr} {f : Env → M (MemS X.K cl) D} {p pos : Pos} (hg : Gl X "len") (hm : X.mg "len" = none) (ha : DE cl (MemS X.K cl) md W X a f)
    (he : starEach [a] X.env = (false, eval a X.env) :: starEach [] X.env := by rfl) (hpl : (backTo pos (starEach [] X.env)).any (·.1) = false := by rfl) :
    DE cl (MemS X.K cl) md W X (.Call (.Name "len" p) [a] [] pos) fun ρ => M.bind (f ρ) fun x => lenM x := by
  refine PE.weak (pe_callB call_len_seq hg hm PySem.boot_len (pa_cons ha pa_nil he) (by decide) (by decide) he hpl) fun σ H Q ⟨Z, C, s, ρ, w, e, p⟩ => ?_
  refine ⟨Z, C, s, ρ, w, e, Post.seq w.ch p fun dx s1 x Z1 C1 H1 w1 n1 r1 p1 => ?_⟩
  cases dx <;> (try (exact False.elim p1))
  rename_i ad
  unfold lenM rdM M.bind at p1
  cases hm2 : s1.m ad with
  | none => simp only [hm2] at p1; exact False.elim p1
  | some l =>
    simp only [hm2] at p1
    cases r1 with | ref e1 =>
    rename_i av
    have mr := mem_at' w1 hm2 e1
    cases l <;> (try (exact False.elim p1))
    obtain ⟨im, vs, h1, h2, h3⟩ := mr
    obtain ⟨d, hd, q⟩ := post_lift w1 p1
    cases hd
    refine ⟨av, vs, rfl, .inl (SqL.of (w1.ch _ _ h1)), ?_⟩
    have := q (.int vs.length) Z1 H1 (.refl w1.zh) (by rw [h3.len]; exact .int _)
    exact this
end
end DN
namespace DN
open PySem PySem.Spec PyProof.Rows L2 RZ ND
section
variable {X : Cx} {CX : CXT} {k : Nat} {f C : Addr} {fd : FuncData} {ps : List Str} {sp : Sp} {E : L2.St → XK} {x m : Str} {p pos apos : Pos} {e o : Expr} {es : List Expr} {ta : TE} {t : TA}
def tMethS (C : Addr) (m : Str) (sp : Sp) (E : L2.St → XK) (ta : TE) (t : TA) : TE := fun σ H Q => ta σ H fun x H1 => ∃ a dx fs, x = .ref a ∧ H1 a = some (.ins C dx fs) ∧ fs.lookup m = none ∧
  t σ H1 fun vs H2 => sp (x :: vs) H2 Q (E σ)
theorem pe_methS {pl : Sem Bool} (he : PE X o ta) (c : Cls X.K C) (hm : Meth X.K C m f) (F : FnOk X.prog X.w X.K X.mg X.base CX k f fd ps sp) (hr : Room k X.A) (hb : Binds X.K fd ps []) (hx : ∀ σ, PassesAt CX X σ (E σ)) (ha : PA X (e :: es) t)
    (hst : starEach (e :: es) X.env = (false, eval e X.env) :: starEach es X.env := by rfl) (hpl : (backTo pos (starEach es X.env)).any (·.1) = false := by rfl)
    (ht : eval (.Call (.Attribute o m apos) (e :: es) [] pos) X.env = (do
      let ov ← eval o X.env
      standAt apos.atName
      let (f, first) ← holding [ov] (getMethod ov m pl)
      callWith pos f first (backTo pos (starEach (e :: es) X.env)) (backToKw pos (keywordEach [] X.env))) := by rfl) :
    PE X (.Call (.Attribute o m apos) (e :: es) [] pos) (tMethS C m sp E ta t) := by
  refine ⟨fun pins s σ H Q I h => ?_⟩
  refine PySem.W.methodCall_KW (pl := pl) (thn (he.run pins s σ H _ I h) fun u s1 ⟨x, H1, I1, rx, a, dx, fs, ex, ea, l, q⟩ => ?_) ht
  subst ex
  obtain rfl : u = Value.ref a := rx
  refine getmeth_ok I1 ea c hm l ?_
  refine PySem.W.callWith_K (first := [.ref a]) (h₀ := X.base) I.ok.mod.kin hm.kp (thn (ha.run pos pins s1 σ H1 _ I1 q) fun us s2 ⟨vs, H2, I2, r, q2⟩ => ⟨I2.kIn, ?_⟩) hst hpl
  exact run_fnS (us := .ref a :: us) (vs := .ref a :: vs) F hr hb (hx σ) I2 (.cons rfl r) q2
def tMakeS (C : Addr) (sp : Sp) (E : L2.St → XK) (t : TA) : TE := fun σ H Q => t σ H fun vs H1 => ∀ x dx, H1 x = none → H1 dx = none → dx ≠ x →
  sp (.ref x :: vs) (upd (upd H1 dx (.own x)) x (.ins C dx [])) (fun v H2 => v = .non ∧ Q (.ref x) H2) (E σ)
theorem run_makeS {pins : List (Addr × Obj)} {σ : L2.St} {H : Hp} {s : Shared} {Q : VK} {us : List Value} {vs : List V} (M : Mk X.K C f) (F : FnOk X.prog X.w X.K X.mg X.base CX k f fd ps sp) (hr : Room (k + 1) X.A) (hb : Binds X.K fd ps [])
    (hx : PassesAt CX X σ (E σ)) (I : Inv X pins σ H s) (r : Vals vs us)
    (h : ∀ x dx, H x = none → H dx = none → dx ≠ x → sp (.ref x :: vs) (upd (upd H dx (.own x)) x (.ins C dx [])) (fun v H2 => v = .non ∧ Q (.ref x) H2) (E σ)) :
    wpAny (model X.prog X.w) X.A (call (.ref C) us) (EP X pins σ Q) X.xe s := by
  have hq := h (s.heap.objs.size + 1) s.heap.objs.size (I.hok.fresh (Nat.le_succ _)) (I.hok.fresh (Nat.le_refl _)) (Nat.ne_of_lt (Nat.lt_succ_self _))
  have I2 := Inv.made (C := C) I
  have r2 : Vals (V.ref (s.heap.objs.size + 1) :: vs) (Value.ref (s.heap.objs.size + 1) :: us) := .cons rfl r
  have hl : (Value.ref (s.heap.objs.size + 1) :: us ++ []).length = ps.length := by
    have e := r2.length
    rw [F.len _ _ _ _ hq] at e
    rw [List.append_nil]
    exact e.symm
  have b := hb _ (Value.ref (s.heap.objs.size + 1) :: us) I2.kIn hl
  rw [List.append_nil] at b
  refine wpAny_call (make_map (f := f) I.kIn M.makes M.init (beq_iff_eq.mp M.fn) (codeAny_mono (F.run _ X.stack _ _ ⟨Value.ref (s.heap.objs.size + 1) :: us, []⟩ (Value.ref (s.heap.objs.size + 1) :: us) _ _ (E σ) (hr.make C us [])
    (I2.env0.make C us []) b r2 hq) fun r s' hq' => ?_))
  cases r with
  | error e => exact hx pins _ _ e s' I2 hq'
  | ok fl =>
    cases fl with
    | ret u =>
      obtain ⟨v, H', I3, rv, ev, q3⟩ := I2.after hq'
      subst ev
      exact ⟨rv, ⟨V.ref (s.heap.objs.size + 1), H', I3, rfl, q3⟩⟩
    | next => exact False.elim hq'
    | brk => exact False.elim hq'
    | cont => exact False.elim hq'
theorem pe_makeS (M : Mk X.K C f) (F : FnOk X.prog X.w X.K X.mg X.base CX k f fd ps sp) (hr : Room (k + 1) X.A) (hg : Gl X x) (hm : X.mg x = some (.ref C)) (hb : Binds X.K fd ps []) (hx : ∀ σ, PassesAt CX X σ (E σ))
    (ha : PA X (e :: es) t) (hdb : (x == ("__debug__" : Str)) = false := by decide) (he : starEach (e :: es) X.env = (false, eval e X.env) :: starEach es X.env := by rfl) (hpl : (backTo pos (starEach es X.env)).any (·.1) = false := by rfl) :
    PE X (.Call (.Name x p) (e :: es) [] pos) (tMakeS C sp E t) := by
  refine ⟨fun pins s σ H Q I h => ?_⟩
  refine wpAny_Call_Name_kw (ld_glob I hg hm ?_ hdb)
  refine PySem.W.callWith_K (h₀ := X.base) I.ok.mod.kin M.kp (thn (ha.run pos pins s σ H _ I h) fun us s1 ⟨vs, H1, I1, r, q⟩ => ⟨I1.kIn, ?_⟩) he hpl
  exact run_makeS M F hr hb (hx σ) I1 r q
end
theorem lookup_at {f : Str} {v : V} : ∀ {fs : List (Str × V)} {ns : List Str} {i : Nat}, fs.map (·.1) = ns → ns.Nodup → ns[i]? = some f → (fs.map (·.2))[i]? = some v → fs.lookup f = some v
  | [], _, i, e, _, h, _ => by subst e; simp at h
  | (g, u) :: fs, _, 0, e, nd, h, hv => by
    subst e
    simp at h hv
    subst h; subst hv
    simp [List.lookup]
  | (g, u) :: fs, _, i + 1, e, nd, h, hv => by
    subst e
    rw [List.map_cons, List.nodup_cons] at nd
    have h' : (fs.map (·.1))[i]? = some f := by simpa using h
    have hne : (f == g) = false := by
      rw [beq_eq_false_iff_ne]
      intro z
      subst z
      exact nd.1 (List.mem_of_getElem? h')
    rw [List.lookup, hne]
    exact lookup_at (fs := fs) rfl nd.2 h' (by simpa using hv)
theorem lookup_no {f : Str} : ∀ {fs : List (Str × V)} {ns : List Str} {n : Nat}, fs.map (·.1) = ns.take n → f ∉ ns → fs.lookup f = none := by
  intro fs ns n e h
  have h2 : f ∉ fs.map (·.1) := fun z => h (List.mem_of_mem_take (by rw [← e]; exact z))
  clear e h
  induction fs with
  | nil => rfl
  | cons p fs ih =>
    rw [List.map_cons, List.mem_cons, not_or] at h2
    have hne : (f == p.1) = false := by rw [beq_eq_false_iff_ne]; exact h2.1
    show List.lookup f ((p.1, p.2) :: fs) = none
    rw [List.lookup, hne]
    exact ih h2.2
theorem putF_new {f : Str} {v : V} : ∀ {fs : List (Str × V)}, f ∉ fs.map (·.1) → putF f v fs = fs ++ [(f, v)]
  | [], _ => rfl
  | (g, u) :: fs, h => by
    rw [List.map_cons, List.mem_cons, not_or] at h
    show (if g = f then _ else _) = _
    rw [if_neg (fun z => h.1 z.symm), putF_new h.2]
    rfl
structure FldAt (K : PySem.W.Frag) (cl : CTab) (c : Str) (f : Str) (i : Nat) : Prop where
  ex : ∃ C names, cl c = some (C, names) ∧ names[i]? = some f ∧ names.Nodup ∧ names.length < 1000 ∧ Cls K C ∧ NoAttr K C f
def fldM {K : PySem.W.Frag} {cl : CTab} (c : Str) (i : Nat) (x : D) : M (MemS K cl) D := match x with
  | .ins c' ds => lift (if c' = c then ds[i]? else none)
  | .ref a => M.bind (rdM a) fun l => lift (match l with
    | .ins c' ds => if c' = c then ds[i]? else none
    | _ => none)
  | _ => fun _ => .stuck
def setfM {K : PySem.W.Frag} {cl : CTab} (c : Str) (i : Nat) (x d : D) : M (MemS K cl) Unit := fun m => match x with
  | .ref a => match m.m a with
    | some (.ins c' ds) => if c' = c ∧ d.imm = true ∧ i = ds.length then .ok () (updM m a (some (.ins c (ds ++ [d])))) else .stuck
    | _ => .stuck
  | _ => .stuck
section
variable {cl : CTab} {md : Bool} {W : WX} {X : Cx} {p : D → Bool}
def setM {K : PySem.W.Frag} {cl : CTab} (x y d : D) : M (MemS K cl) Unit := fun m => match x, y with
  | .ref a, .int k => match m.m a with
    | some (.lst ds) => match ixN ds.length k with
      | some j => if d.imm = true then .ok () (updM m a (some (.lst (ds.set j d)))) else .stuck
      | none => .stuck
    | _ => .stuck
  | _, _ => .stuck
theorem immL_set {d : D} (h : d.imm = true) : ∀ {ds : List D} (j : Nat), D.immL ds = true → D.immL (ds.set j d) = true
  | [], _, e => e
  | x :: xs, 0, e => by
    have e2 : x.imm = true ∧ D.immL xs = true := by simpa [D.immL] using e
    simp [D.immL, h, e2.2]
  | x :: xs, j + 1, e => by
    have e2 : x.imm = true ∧ D.immL xs = true := by simpa [D.immL] using e
    simp [D.immL, e2.1, immL_set h j e2.2]
theorem immL_app {d : D} (h : d.imm = true) : ∀ {ds : List D}, D.immL ds = true → D.immL (ds ++ [d]) = true
  | [], e => by simp [D.immL, h]
  | x :: xs, e => by
    have e2 : x.imm = true ∧ D.immL xs = true := by simpa [D.immL] using e
    simp [D.immL, e2.1, immL_app h e2.2]
theorem ds_setM {o i e : Expr} {f fo fi : Env → M (MemS X.K cl) D} {tpos pos : Pos} (sp : See p md) (he : DE cl (MemS X.K cl) md W X e f) (ho : DE cl (MemS X.K cl) true W X o fo) (hi : DE cl (MemS X.K cl) true W X i fi)
    (hs : swapsWithSole [.Subscript o i tpos] e pos.line X.env = pure false := by rfl) (hw : swappedStores [.Subscript o i tpos] e X.env = pure none := by rfl) (h1 : (assignEach [.Subscript o i tpos] X.env).map (·.2) = [assign (.Subscript o i tpos) X.env] := by rfl)
    (ha : ∀ v, assign (.Subscript o i tpos) X.env v = (do
      let ov ← holding [v] (eval o X.env)
      let iv ← holding [v, ov] (eval i X.env)
      standAt tpos
      holding [v, ov, iv] (setItem ov iv v)
      release [v, ov, iv] []) := by intro _; rfl) :
    DS cl (MemS X.K cl) W X (.Assign [.Subscript o i tpos] e pos) fun ρ => M.bind (f (seeE p ρ)) fun d => M.bind (fo (seeE pHide ρ)) fun x => M.bind (fi (seeE pHide ρ)) fun y => M.bind (setM x y d) fun _ => M.pure (.nx ρ) := by
  refine PS.weak (ps_asg he (pg_sub ho hi set_list ha) hs hw h1) fun E σ H ⟨Z0, C0, H0, Z, C, s, ρ, α, c0, w, n, r, q⟩ => ?_
  refine ⟨seeZ p ρ α Z H, C, s, seeE p ρ, see_wd w r sp.nd, see_env sp r, PostS.seq sp w c0 n r q fun d s1 v Z1 C1 H1 w1 n1 r1 q1 => ?_⟩
  have u := see_un sp w c0 n r w1 n1
  have r1i : d.imm = true → Rep X.K cl (unZ p ρ α Z1) v d := fun h => r1.monoI u.imm d h
  have uw := u.wd; have un := u.nx; have ur := u.rel
  generalize unZ p ρ α Z1 = Zu at uw un ur r1i
  refine ⟨seeZ pHide ρ α Zu H1, C1, s1, seeE pHide ρ, see_wd uw ur seeHide.nd, see_env seeHide ur, PostS.seq seeHide uw c0 un ur q1 fun x s2 vx Z2 C2 H2 w2 n2 r2 q2 => ?_⟩
  have u2 := see_un seeHide uw c0 un ur w2 n2
  have uw2 := u2.wd; have un2 := u2.nx; have ur2 := u2.rel
  rw [seeZ_hide pHide_no] at n2
  rw [unZ_hide pHide_no] at uw2 un2 ur2
  refine ⟨seeZ pHide ρ α Z2 H2, C2, s2, seeE pHide ρ, see_wd uw2 ur2 seeHide.nd, see_env seeHide ur2, PostS.seq seeHide uw2 c0 un2 ur2 q2 fun y s3 vy Z3 C3 H3 w3 n3 r3 q3 => ?_⟩
  have u3 := see_un seeHide uw2 c0 un2 ur2 w3 n3
  have uw3 := u3.wd; have un3 := u3.nx; have ur3 := u3.rel
  rw [seeZ_hide pHide_no] at n3
  rw [unZ_hide pHide_no] at uw3 un3 ur3
  unfold setM M.bind at q3
  cases x <;> (try (exact False.elim q3))
  rename_i ad0
  cases y <;> (try (exact False.elim q3))
  rename_i kk
  cases hm : s3.m ad0 with
  | none => simp only [hm] at q3; exact False.elim q3
  | some l =>
    cases l <;> (simp only [hm] at q3; try (exact False.elim q3))
    rename_i ds
    cases hj : ixN ds.length kk with
    | none => simp only [hj] at q3; exact False.elim q3
    | some j =>
      by_cases hd : d.imm = true
      · simp only [hj, hd, if_true] at q3
        cases r3
        cases r2 with | ref er2 =>
        rename_i ad
        have er3 := n3.zz.m _ _ er2
        obtain ⟨im, vs, e1, e2, e3⟩ := mem_at' uw3 hm er3
        have rd : Rep X.K cl Z3 v d := ((r1i hd).mono n2.zz).mono n3.zz
        refine ⟨ad, vs, kk, j, rfl, rfl, uw3.ch _ _ e1, by rw [e3.len]; exact hj, ?_⟩
        have mr : MemR X.K cl Z3 (upd C3 ad (.lst (vs.set j v))) ad (.lst (ds.set j d)) := ⟨immL_set hd j im, _, upd_same, by rw [List.length_set]; exact e2, e3.set rd j⟩
        obtain ⟨w4, n4⟩ := mem_put (o' := .lst (vs.set j v)) uw3 er3 e1 (fun _ _ z => nomatch z) mr
        refine q3 σ Z3 _ _ α w4 (un3.trans c0 uw3.ch n4) (ur3.move (.refl _) (fun a b x o c hx ho => ?_) (fun a b x c hx => (ur3.fp a b x c hx).2.1) fun a b x c hx => ?_)
        · have h4 := (ur3.fp a b x c hx).2.2.1
          have hne : x ≠ ad := fun z => by rw [z, e1] at h4; cases h4
          rw [upd_ne hne]; exact ho
        · have h4 := (ur3.fp a b x c hx).2.2.1
          have hne : x ≠ ad := fun z => by rw [z, e1] at h4; cases h4
          rw [upd_ne hne]; exact h4
      · simp only [hj, if_neg hd] at q3; exact False.elim q3
theorem ds_setf {o e : Expr} {f fo : Env → M (MemS X.K cl) D} {c fl : Str} {i : Nat} {tpos pos : Pos} (FA : FldAt X.K cl c fl i) (sp : See p md) (he : DE cl (MemS X.K cl) md W X e f) (ho : DE cl (MemS X.K cl) true W X o fo)
    (hs : swapsWith e (some (.Attribute o fl tpos)) pos.line X.env = pure false := by rfl) :
    DS cl (MemS X.K cl) W X (.Assign [.Attribute o fl tpos] e pos) fun ρ => M.bind (f (seeE p ρ)) fun d => M.bind (fo (seeE pHide ρ)) fun x => M.bind (setfM c i x d) fun _ => M.pure (.nx ρ) := by
  obtain ⟨C5, names, hc, hi, nd, hk, C6, NA⟩ := FA.ex
  refine PS.weak (ps_fld ho he hs) fun E σ H ⟨Z0, C0, H0, Z, C, s, ρ, α, c0, w, n, r, q⟩ => ?_
  refine ⟨seeZ p ρ α Z H, C, s, seeE p ρ, see_wd w r sp.nd, see_env sp r, PostS.seq sp w c0 n r q fun d s1 v Z1 C1 H1 w1 n1 r1 q1 => ?_⟩
  have u := see_un sp w c0 n r w1 n1
  have r1i : d.imm = true → Rep X.K cl (unZ p ρ α Z1) v d := fun h => r1.monoI u.imm d h
  have uw := u.wd; have un := u.nx; have ur := u.rel
  generalize unZ p ρ α Z1 = Zu at uw un ur r1i
  refine ⟨seeZ pHide ρ α Zu H1, C1, s1, seeE pHide ρ, see_wd uw ur seeHide.nd, see_env seeHide ur, PostS.seq seeHide uw c0 un ur q1 fun x s2 vx Z2 C2 H2 w2 n2 r2 q2 => ?_⟩
  have u2 := see_un seeHide uw c0 un ur w2 n2
  have uw2 := u2.wd; have un2 := u2.nx; have ur2 := u2.rel
  rw [seeZ_hide pHide_no] at n2
  rw [unZ_hide pHide_no] at uw2 un2 ur2
  unfold setfM M.bind at q2
  cases x <;> (try (exact False.elim q2))
  rename_i ad0
  cases hm : s2.m ad0 with
  | none => simp only [hm] at q2; exact False.elim q2
  | some l =>
    cases l <;> (simp only [hm] at q2; try (exact False.elim q2))
    rename_i c' ds
    by_cases hd : c' = c ∧ d.imm = true ∧ i = ds.length
    · simp only [if_pos hd] at q2
      obtain ⟨rfl, hd, hil⟩ := hd
      cases r2 with | ref er2 =>
      rename_i ad
      obtain ⟨im, C7, dx, fs, ns, e0, e1, e2, e3⟩ := mem_at' uw2 hm er2
      rw [hc] at e0
      obtain ⟨rfl, rfl⟩ : C7 = _ ∧ ns = names := by
        have := Option.some.inj e0
        rw [Prod.mk.injEq] at this
        exact ⟨this.1.symm, this.2.symm⟩
      have rd : Rep X.K cl Z2 v d := (r1i hd).mono n2.zz
      have hlen : fs.length = ds.length := by have := e3.len; rw [List.length_map] at this; exact this
      have hin : ds.length < ns.length := by rw [← hil]; exact (List.getElem?_eq_some_iff.mp hi).1
      have hnew : fl ∉ fs.map (·.1) := by
        rw [e2]
        intro z
        obtain ⟨j, hj⟩ := List.mem_iff_getElem?.mp z
        have hjl : j < (ns.take ds.length).length := (List.getElem?_eq_some_iff.mp hj).1
        rw [List.length_take] at hjl
        have hj2 : j < ds.length := by omega
        rw [List.getElem?_take_of_lt hj2] at hj
        have hjn : j < ns.length := by omega
        have := (List.pairwise_iff_getElem.mp nd) j ds.length hjn hin hj2
        have z1 : ns[j] = fl := Option.some.inj ((List.getElem?_eq_getElem hjn).symm.trans hj)
        have z2 : ns[ds.length] = fl := Option.some.inj ((List.getElem?_eq_getElem hin).symm.trans (by rw [← hil]; exact hi))
        exact this (z1.trans z2.symm)
      refine ⟨ad, _, dx, fs, rfl, uw2.ch _ _ e1, by assumption, NA, by omega, ?_⟩
      rw [putF_new hnew]
      have mr : MemR X.K cl Z2 (upd C2 ad (.ins C7 dx (fs ++ [(fl, v)]))) ad (.ins c' (ds ++ [d])) := ⟨immL_app hd im, C7, dx, _, ns, hc, upd_same, by
        rw [List.map_append, e2, List.length_append, List.length_singleton, List.take_add_one, ← hil, hi]
        rfl, by rw [List.map_append]; exact e3.append (.cons rd .nil)⟩
      obtain ⟨w4, n4⟩ := mem_put (o' := .ins C7 dx (fs ++ [(fl, v)])) uw2 er2 e1 (fun _ _ z => nomatch z) mr
      refine q2 σ Z2 _ _ α w4 (un2.trans c0 uw2.ch n4) (ur2.move (.refl _) (fun a b x o c hx ho => ?_) (fun a b x c hx => (ur2.fp a b x c hx).2.1) fun a b x c hx => ?_)
      · have h4 := (ur2.fp a b x c hx).2.2.1
        have hne : x ≠ ad := fun z => by rw [z, e1] at h4; cases h4
        rw [upd_ne hne]; exact ho
      · have h4 := (ur2.fp a b x c hx).2.2.1
        have hne : x ≠ ad := fun z => by rw [z, e1] at h4; cases h4
        rw [upd_ne hne]; exact h4
    · simp only [if_neg hd] at q2; exact False.elim q2
end
end DN
namespace DN
open PySem PySem.Spec PyProof.Rows L2 RZ ND
def insM {K : PySem.W.Frag} {cl : CTab} (c : Str) (x : D) : M (MemS K cl) Unit := match x with
  | .ins c' _ => if c' = c then M.pure () else fun _ => .stuck
  | .ref a => M.bind (rdM a) fun l => match l with
    | .ins c' _ => if c' = c then M.pure () else fun _ => .stuck
    | _ => fun _ => .stuck
  | _ => fun _ => .stuck
structure MethAt (K : PySem.W.Frag) (cl : CTab) (c m : Str) (g : Addr) : Prop where
  ex : ∃ C names, cl c = some (C, names) ∧ m ∉ names ∧ Cls K C ∧ Meth K C m g
inductive IR where
  | ok (fs : List D) | err (x : Exn) (fs : List D) | stuck
def era (C : Hp) (p : Addr) : Hp := fun x => if x = p then none else C x
theorem era_ne {C : Hp} {p x : Addr} (h : x ≠ p) : era C p x = C x := if_neg h
theorem era_self {C : Hp} {p : Addr} : era C p p = none := if_pos rfl
mutual
def D.pur : D → Bool
  | .tup xs => D.purL xs
  | .lst _ => false
  | .dct _ _ => false
  | .ins _ xs => D.purL xs
  | .ref _ => false
  | _ => true
def D.purL : List D → Bool
  | [] => true
  | d :: ds => d.pur && D.purL ds
end
mutual
theorem D.pur_imm : ∀ (d : D), d.pur = true → d.imm = true
  | .non, _ => rfl
  | .bl _, _ => rfl
  | .int _, _ => rfl
  | .str _, _ => rfl
  | .tup ds, h => D.purL_imm ds h
  | .lst _, h => nomatch h
  | .dct _ _, h => nomatch h
  | .ins _ ds, h => D.purL_imm ds h
  | .ref _, h => nomatch h
theorem D.purL_imm : ∀ (ds : List D), D.purL ds = true → D.immL ds = true
  | [], _ => rfl
  | d :: ds, h => by
    have h2 : d.pur = true ∧ D.purL ds = true := by simpa [D.purL] using h
    simp [D.immL, D.pur_imm d h2.1, D.purL_imm ds h2.2]
end
mutual
def D.nor (k : Nat) : D → Bool
  | .tup xs => D.norL k xs
  | .lst xs => D.norL k xs
  | .dct _ xs => D.norL k xs
  | .ins _ xs => D.norL k xs
  | .ref j => !decide (j = k)
  | _ => true
def D.norL (k : Nat) : List D → Bool
  | [] => true
  | d :: ds => d.nor k && D.norL k ds
end
section
variable {K : PySem.W.Frag} {cl : CTab} {Z Z' : Zp} {k : Nat}
mutual
theorem rep_nor (h : Z.μ k = none) : ∀ (d : D) {v : V}, Rep K cl Z v d → d.nor k = true
  | .non, _, _ => rfl
  | .bl _, _, _ => rfl
  | .int _, _, _ => rfl
  | .str _, _, _ => rfl
  | .tup ds, _, r => by cases r with | tup a e b => exact repL_nor h ds b
  | .lst ds, _, r => by cases r with | slst a e b => exact repL_nor h ds b
  | .dct ks ds, _, r => by cases r with | dct a o e n b => exact repL_nor h ds b
  | .ins c ds, _, r => by cases r with | ins e a b => exact repL_nor h ds b
  | .ref j, _, r => by
    cases r with
    | ref e =>
      show (!decide (j = k)) = true
      rw [decide_eq_false (fun q => by rw [q, h] at e; cases e)]
      rfl
theorem repL_nor (h : Z.μ k = none) : ∀ (ds : List D) {vs : List V}, RepL K cl Z vs ds → D.norL k ds = true
  | [], _, _ => rfl
  | d :: ds, _, r => by cases r with | cons a b => simp [D.norL, rep_nor h d a, repL_nor h ds b]
end
mutual
theorem nor_rep (hh : Sub Z.h Z'.h) (hm : ∀ j a, j ≠ k → Z.μ j = some a → Z'.μ j = some a) : ∀ (d : D) {v : V}, d.nor k = true → Rep K cl Z v d → Rep K cl Z' v d
  | .non, _, _, r => by cases r; exact .non
  | .bl b, _, _, r => by cases r; exact .bl b
  | .int i, _, _, r => by cases r; exact .int i
  | .str x, _, _, r => by cases r with | str e f => exact .str e f
  | .tup ds, _, i, r => by cases r with | tup a e b => exact .tup (hh _ _ a) e (nor_repL hh hm ds i b)
  | .lst ds, _, i, r => by cases r with | slst a e b => exact .slst (a.sub hh) e (nor_repL hh hm ds i b)
  | .dct ks ds, _, i, r => by cases r with | dct a o e n b => exact .dct (sub_rdn hh a) (o.mono fun _ _ q => hh _ _ q) e n (nor_repL hh hm ds i b)
  | .ins c ds, _, i, r => by cases r with | ins e a b => exact .ins e (hh _ _ a) (nor_repL hh hm ds i b)
  | .ref j, _, i, r => by
    cases r with
    | ref e =>
      refine .ref (hm _ _ (fun q => ?_) e)
      have i : (!decide (j = k)) = true := i
      rw [q] at i
      simp at i
theorem nor_repL (hh : Sub Z.h Z'.h) (hm : ∀ j a, j ≠ k → Z.μ j = some a → Z'.μ j = some a) : ∀ (ds : List D) {vs : List V}, D.norL k ds = true → RepL K cl Z vs ds → RepL K cl Z' vs ds
  | [], _, _, r => by cases r; exact .nil
  | d :: ds, _, i, r => by
    cases r with
    | cons a b =>
      have i2 : d.nor k = true ∧ D.norL k ds = true := by simpa [D.norL] using i
      exact .cons (nor_rep hh hm d i2.1 a) (nor_repL hh hm ds i2.2 b)
end
mutual
theorem D.pur_nor : ∀ (d : D), d.pur = true → d.nor k = true
  | .non, _ => rfl
  | .bl _, _ => rfl
  | .int _, _ => rfl
  | .str _, _ => rfl
  | .tup ds, h => D.purL_nor ds h
  | .lst _, h => nomatch h
  | .dct _ _, h => nomatch h
  | .ins _ ds, h => D.purL_nor ds h
  | .ref _, h => nomatch h
theorem D.purL_nor : ∀ (ds : List D), D.purL ds = true → D.norL k ds = true
  | [], _ => rfl
  | d :: ds, h => by
    have h2 : d.pur = true ∧ D.purL ds = true := by simpa [D.purL] using h
    simp [D.norL, D.pur_nor d h2.1, D.purL_nor ds h2.2]
end
theorem memR_nor {C : Hp} {a : Addr} (h : Z.μ k = none) : ∀ {d : D}, MemR K cl Z C a d → d.nor k = true
  | .lst ds, ⟨_, vs, _, _, c⟩ => repL_nor h ds c
  | .dct ks ds, ⟨_, o, kvs, _, _, _, _, e⟩ => repL_nor h ds e
  | .ins c ds, ⟨_, C, dx, fs, ns, _, _, _, e⟩ => repL_nor h ds e
  | .tup [.dct ks ds], ⟨_, od, o, kvs, _, _, _, _, e⟩ => by
    show (D.norL k ds && D.norL k []) = true
    rw [repL_nor h ds e]; rfl
theorem memR_drop {C C' : Hp} {a : Addr} (hh : Sub Z.h Z'.h) (hm : ∀ j a, j ≠ k → Z.μ j = some a → Z'.μ j = some a) (hc : C' a = C a) : ∀ {d : D}, d.nor k = true → MemR K cl Z C a d → MemR K cl Z' C' a d
  | .lst ds, n, ⟨i, vs, a, b, c⟩ => ⟨i, vs, hc.trans a, b, nor_repL hh hm ds n c⟩
  | .dct ks ds, n, ⟨i, o, kvs, a, b, c, nd, e⟩ => ⟨i, o, kvs, hc.trans a, b.mono (fun _ _ q => hh _ _ q), c, nd, nor_repL hh hm ds n e⟩
  | .ins c ds, n, ⟨i, C, dx, fs, ns, a, b, c1, e⟩ => ⟨i, C, dx, fs, ns, a, hc.trans b, c1, nor_repL hh hm ds n e⟩
  | .tup [.dct ks ds], n, ⟨i, od, o, kvs, a, b, c, nd, e⟩ => ⟨i, od, o, kvs, hc.trans a, b.mono (fun _ _ q => hh _ _ q), c, nd, nor_repL hh hm ds (by
    have n : (D.norL k ds && D.norL k []) = true := n
    rw [Bool.and_eq_true] at n; exact n.1) e⟩
end
def dropZ (Z : Zp) (k : Nat) (p : Addr) (o : HO) : Zp := ⟨upd Z.h p o, fun j => if j = k then none else Z.μ j⟩
section
variable {K : PySem.W.Frag} {cl : CTab} {md : Bool} {Z Z1 : Zp} {C H C1 H1 : Hp} {s : Mem} {p dx : Addr} {d : D}
theorem mem_newI {c : Str} {CC : Addr} {names : List Str} (w : Wd (MemS K cl) md Z C H s) (hp : H p = none) (hd : H dx = none) (ne : dx ≠ p) (hc : cl c = some (CC, names)) :
    Wd (MemS K cl) md (nameZ Z s.n p) (upd C p (.ins CC dx [])) (upd (upd H dx (.own p)) p (.ins CC dx [])) (s.push (.ins c [])) ∧ Nx Z C H (nameZ Z s.n p) (upd C p (.ins CC dx [])) (upd (upd H dx (.own p)) p (.ins CC dx [])) :=
  mem_new w hp (fun x o e => by rw [upd_ne (ne_of_none e hp), upd_ne (ne_of_none e hd)]; exact e) upd_same ⟨rfl, CC, dx, [], names, hc, upd_same, by simp, .nil⟩
theorem mem_drop {o : HO} {C0 H0 : Hp} (w0 : Wd (MemS K cl) md Z C0 H0 s) (hp0 : H0 p = none) (w : Wd (MemS K cl) md Z1 C1 H1 (s.push d)) (n : Nx Z C0 H0 Z1 C1 H1) (hp : Z1.μ s.n = some p) (ho : H1 p = some o) :
    Wd (MemS K cl) md (dropZ Z1 s.n p o) (era C1 p) H1 s ∧ Nx Z C0 H0 (dropZ Z1 s.n p o) (era C1 p) H1 := by
  have cp0 := none_of_sub w0.ch hp0
  obtain ⟨dp, hdp, mr⟩ := mem_name w hp
  obtain ⟨op, hop⟩ := mr.there
  have zp : Z1 p = none := w.dj p (some_ne hop)
  have hh : Sub Z1.h (dropZ Z1 s.n p o).h := Sub.upd zp
  have hm : ∀ j a, j ≠ s.n → Z1.μ j = some a → (dropZ Z1 s.n p o).μ j = some a := fun j a h e => by
    show (if j = s.n then none else Z1.μ j) = some a
    rw [if_neg h]; exact e
  have fr := mem_free w0
  refine ⟨⟨fun x u e => ?_, fun x u e => ?_, fun x e => ?_, ⟨fun j e => ?_, fun j d2 e => ?_, fun i j a e1 e2 => ?_, fun x e => ?_, w0.sr.nx⟩⟩, ⟨⟨n.zz.h.trans hh, fun j a e => hm j a (fun q => by rw [q, fr] at e; cases e) (n.zz.m _ _ e)⟩, n.hh, fun x e => ?_, fun x e => ?_, fun x e => ?_, fun x od u e => (era_ne (fun z => by rw [z, cp0] at e; cases e)).trans (n.lk x od u e)⟩⟩
  · by_cases hx : x = p
    · rw [hx, show (dropZ Z1 s.n p o).h p = some o from upd_same] at e; rw [hx]; cases e; exact ho
    · rw [show (dropZ Z1 s.n p o).h x = Z1.h x from upd_ne hx] at e; exact w.zh x u e
  · by_cases hx : x = p
    · rw [hx, era_self] at e; cases e
    · rw [era_ne hx] at e; exact w.ch x u e
  · by_cases hx : x = p
    · rw [hx, era_self] at e; exact absurd rfl e
    · rw [era_ne hx] at e; exact (show (dropZ Z1 s.n p o).h x = Z1.h x from upd_ne hx).trans (w.dj x e)
  · show (if j = s.n then none else Z1.μ j) = none
    split
    · rfl
    · rename_i q
      exact w.sr.no j (by show (if j = s.n then some d else s.m j) = none; rw [if_neg q]; exact e)
  · have q : j ≠ s.n := fun q => by rw [q, w0.sr.nx _ (Nat.le_refl _)] at e; cases e
    obtain ⟨a0, h1, h2⟩ := w0.sr.yes j d2 e
    obtain ⟨a1, h3, h4⟩ := w.sr.yes j d2 (by show (if j = s.n then some d else s.m j) = some d2; rw [if_neg q]; exact e)
    refine ⟨a1, hm _ _ q h3, memR_drop hh hm (era_ne fun z => ?_) (memR_nor fr h2) h4⟩
    subst z
    exact q (w.sr.inj _ _ _ h3 hp)
  · have e1 : (if i = s.n then none else Z1.μ i) = some a := e1
    have e2 : (if j = s.n then none else Z1.μ j) = some a := e2
    split at e1
    · cases e1
    · split at e2
      · cases e2
      · exact w.sr.inj _ _ _ e1 e2
  · by_cases hx : x = p
    · rw [hx, era_self] at e; exact absurd rfl e
    · rw [era_ne hx] at e
      obtain ⟨k, hk⟩ := w.sr.cov x e
      exact ⟨k, hm _ _ (fun q => by rw [q, hp] at hk; cases hk; exact hx rfl) hk⟩
  · by_cases hx : x = p
    · rw [hx]; exact .inr hp0
    · rw [show (dropZ Z1 s.n p o).h x = Z1.h x from upd_ne hx] at e; exact n.zf x e
  · by_cases hx : x = p
    · rw [hx, era_self] at e; exact absurd rfl e
    · rw [era_ne hx] at e; exact n.cf x e
  · have hx : x ≠ p := fun z => e (by rw [z]; exact cp0)
    rw [era_ne hx]
    exact n.cp x e
end
section
variable {cl : CTab} {W : WX} {X : Cx}
theorem ins_there {K : PySem.W.Frag} {md : Bool} {Z : Zp} {C H : Hp} {s : Mem} {c : Str} {x : V} {dxx : D} {CC : Addr} {names : List Str} {β : Type} {Rp : Zp → V → β → Prop} {σ : L2.St} {f : M (MemS K cl) β} {Q : V → Hp → Prop} {m : Str} (hc : cl c = some (CC, names)) (hm : m ∉ names) (w : Wd (MemS K cl) md Z C H s) (r : Rep K cl Z x dxx)
    (p : Post K cl md Rp W σ Z C H (M.bind (insM c dxx) (fun _ => f) s) Q) : (∃ a dx fs, x = .ref a ∧ H a = some (.ins CC dx fs) ∧ fs.lookup m = none) ∧ Post K cl md Rp W σ Z C H (f s) Q := by
  unfold insM rdM at p
  cases dxx <;> (try (exact False.elim p))
  · rename_i c' ds
    cases r with
    | ins a b c2 =>
      rename_i ad C0 dx fs
      simp only at p
      split at p
      · rename_i ec
        subst ec
        rw [hc] at a
        obtain ⟨rfl, hnm⟩ : CC = C0 ∧ names = fs.map (·.1) := by
          have := Option.some.inj a
          rw [Prod.mk.injEq] at this
          exact this
        exact ⟨⟨ad, dx, fs, rfl, w.zh _ _ b, lookup_no (n := names.length) (by rw [List.take_length]; exact hnm.symm) hm⟩, p⟩
      · exact False.elim p
  · rename_i ad0
    cases r with | ref er =>
    rename_i ad
    unfold M.bind at p
    cases hs : s.m ad0 with
    | none => simp only [hs] at p; exact False.elim p
    | some l =>
      simp only [hs] at p
      cases l <;> (try (exact False.elim p))
      rename_i c' ds
      simp only at p
      split at p
      · rename_i ec
        split at ec
        · rename_i ec2
          subst ec2
          cases ec
          obtain ⟨im, C0, dx, fs, ns, h1, h2, h3, h4⟩ := mem_at' w hs er
          rw [hc] at h1
          obtain ⟨rfl, rfl⟩ : CC = C0 ∧ names = ns := by
            have := Option.some.inj h1
            rw [Prod.mk.injEq] at this
            exact this
          exact ⟨⟨ad, dx, fs, rfl, w.ch _ _ h2, lookup_no h3 hm⟩, p⟩
        · cases ec
      · rename_i ec
        split at ec <;> cases ec
      · exact False.elim p
theorem de_meth {k n : Nat} {g : Addr} {fd : FuncData} {ps : List Str} {f : List D → M (MemS X.K cl) D} {m c : Str} {o e : Expr} {es : List Expr} {fo : Env → M (MemS X.K cl) D} {fa : Env → M (MemS X.K cl) (List D)} {apos pos : Pos} {pl : Sem Bool} (MA : MethAt X.K cl c m g)
    (F : FnOk X.prog X.w X.K X.mg X.base (L2.CX X.prog X.w) k g fd ps (spD X.K cl (MemS X.K cl) n f)) (hr : Room k X.A) (hb : Binds X.K fd ps []) (tk : Takes X W) (ho : DE cl (MemS X.K cl) true W X o fo) (ha : DA cl (MemS X.K cl) true W X (e :: es) fa) (hn : (e :: es).length + 1 = n)
    (hst : starEach (e :: es) X.env = (false, eval e X.env) :: starEach es X.env := by rfl) (hpl : (backTo pos (starEach es X.env)).any (·.1) = false := by rfl)
    (ht : eval (.Call (.Attribute o m apos) (e :: es) [] pos) X.env = (do
      let ov ← eval o X.env
      standAt apos.atName
      let (f, first) ← holding [ov] (getMethod ov m pl)
      callWith pos f first (backTo pos (starEach (e :: es) X.env)) (backToKw pos (keywordEach [] X.env))) := by rfl) :
    DE cl (MemS X.K cl) true W X (.Call (.Attribute o m apos) (e :: es) [] pos) fun ρ => M.bind (fo ρ) fun x => M.bind (insM c x) fun _ => M.bind (fa ρ) fun ds => f (x :: ds) := by
  obtain ⟨CC, names, hc, hm, C6, MM⟩ := MA.ex
  refine PE.weak (pe_methS ho C6 MM F hr hb (fun σ => passAt tk σ) ha hst hpl ht) fun σ H Q ⟨Z, C, s, ρ, w, e, p⟩ => ?_
  refine ⟨Z, C, s, ρ, w, e, Post.seq w.ch p fun dx s1 x Z1 C1 H1 w1 n1 r1 p1 => ?_⟩
  obtain ⟨⟨a, dd, fs, rfl, ea, el⟩, p1⟩ := ins_there hc hm w1 r1 p1
  refine ⟨a, dd, fs, rfl, ea, el, Z1, C1, s1, ρ, w1, e.mono n1.zz, Post.seq w1.ch p1 fun dxs s2 xs Z2 C2 H2 w2 n2 r2 p2 => ?_⟩
  refine ⟨Z2, C2, s2, dx :: dxs, w2, .cons (r1.mono n2.zz) r2.1, by rw [List.length_cons, r2.2]; exact hn, ?_⟩
  cases hf : f (dx :: dxs) s2 with
  | ok d s3 => rw [hf] at p2; exact p2
  | err x s3 => rw [hf] at p2; exact p2
  | stuck => rw [hf] at p2; exact p2
def mkM {K : PySem.W.Frag} {cl : CTab} (c : Str) (n : Nat) (r : IR) : M (MemS K cl) D := match r with
  | .ok fs => if fs.length = n ∧ D.purL fs = true then M.pure (.ins c fs) else fun _ => .stuck
  | .err x _ => fun s => match x.f with
    | none => .err x s
    | some d => if d.pur = true then .err x s else .stuck
  | .stuck => fun _ => .stuck
def InitIs {K : PySem.W.Frag} {cl : CTab} (c : Str) (f : List D → M (MemS K cl) D) (g : List D → IR) : Prop := ∀ (ds : List D) (s : Mem), match g ds with
  | .ok fs => f (.ref s.n :: ds) (s.push (.ins c [])) = .ok .non (s.push (.ins c fs))
  | .err x fs => f (.ref s.n :: ds) (s.push (.ins c [])) = .err x (s.push (.ins c fs))
  | .stuck => True
structure MakeAt (K : PySem.W.Frag) (cl : CTab) (c : Str) (C f : Addr) (n : Nat) : Prop where
  ex : ∃ names, cl c = some (C, names) ∧ names.length = n ∧ Mk K C f
theorem nameZ_at {Z : Zp} {k : Nat} {p : Addr} : (nameZ Z k p).μ k = some p := if_pos rfl
theorem exR_drop {K : PySem.W.Frag} {cl : CTab} {Z : Zp} {H : Hp} {x : Exn} {c : Value} {dx : Option Addr} {k : Nat} {p : Addr} {o : HO} {C0 C1 : Hp} (h : ExR K cl Z C0 x c dx H) (hz : Z p = none) (hp : ∀ d, x.f = some d → d.pur = true) (hC : ∀ a, C0 a = none → C1 a = none) : ExR K cl (dropZ Z k p o) C1 x c dx H := by
  obtain ⟨C', fs, h1, h2, h3⟩ := h
  refine ⟨C', fs, h1, h2, ?_⟩
  cases hf : x.f with
  | none => rw [hf] at h3; exact h3
  | some d =>
    rw [hf] at h3
    obtain ⟨f, v, a, q1, q2, q3, q0, q4, q5⟩ := h3
    exact ⟨f, v, a, q1, q2, q3, hC a q0, q4, nor_rep (k := k) (Z' := dropZ Z k p o) (Sub.upd hz) (fun j a h e => by show (if j = k then none else Z.μ j) = some a; rw [if_neg h]; exact e) d (D.pur_nor d (hp d hf)) q5⟩
theorem de_make {k n nf : Nat} {C g : Addr} {fd : FuncData} {ps : List Str} {f : List D → M (MemS X.K cl) D} {fi : List D → IR} {x c : Str} {e : Expr} {es : List Expr} {fa : Env → M (MemS X.K cl) (List D)} {p pos : Pos} (MA : MakeAt X.K cl c C g nf)
    (F : FnOk X.prog X.w X.K X.mg X.base (L2.CX X.prog X.w) k g fd ps (spD X.K cl (MemS X.K cl) n f)) (hI : InitIs c f fi) (hr : Room (k + 1) X.A) (hg : Gl X x) (hm : X.mg x = some (.ref C)) (hb : Binds X.K fd ps []) (tk : Takes X W) (ha : DA cl (MemS X.K cl) true W X (e :: es) fa) (hn : (e :: es).length + 1 = n)
    (hdb : (x == ("__debug__" : Str)) = false := by decide) (he : starEach (e :: es) X.env = (false, eval e X.env) :: starEach es X.env := by rfl) (hpl : (backTo pos (starEach es X.env)).any (·.1) = false := by rfl) :
    DE cl (MemS X.K cl) true W X (.Call (.Name x p) (e :: es) [] pos) fun ρ => M.bind (fa ρ) fun ds => mkM c nf (fi ds) := by
  obtain ⟨names, hc, hnl, MM⟩ := MA.ex
  refine PE.weak (pe_makeS MM F hr hg hm hb (fun σ => passAt tk σ) ha hdb he hpl) fun σ H Q ⟨Z, C0, s, ρ, w, e, pp⟩ => ?_
  refine ⟨Z, C0, s, ρ, w, e, Post.seq w.ch pp fun ds s1 xs Z1 C1 H1 w1 n1 r1 p1 => ?_⟩
  intro px dx hp hd hne
  obtain ⟨w2, n2⟩ := mem_newI w1 hp hd hne hc
  refine ⟨_, _, _, .ref s1.n :: ds, w2, .cons (.ref nameZ_at) (r1.1.mono n2.zz), by rw [List.length_cons, r1.2]; exact hn, ?_⟩
  have hi := hI ds s1
  cases hr2 : fi ds with
  | stuck => rw [hr2] at p1; exact False.elim p1
  | err x fs =>
    rw [hr2] at p1
    simp only [hr2] at hi
    rw [hi]
    intro cc dd Z' C' H' w' n' ex
    have n3 := n2.trans w1.ch w2.ch n'
    have hk : Z'.μ s1.n = some px := n'.zz.m _ _ nameZ_at
    obtain ⟨dp, hdp, mr⟩ := mem_name w' hk
    obtain ⟨op, hop⟩ := mr.there
    obtain ⟨w4, n4⟩ := mem_drop w1 hp w' n3 hk (w'.ch _ _ hop)
    unfold mkM at p1
    simp only at p1
    have hpu : ∀ d, x.f = some d → d.pur = true := fun d hd2 => by
      simp only [hd2] at p1
      split at p1
      · assumption
      · exact False.elim p1
    have p2 : Post (B := MemS X.K cl) X.K cl true (RpD X.K cl) W σ Z1 C1 H1 (.err x s1) Q := by
      cases hxf : x.f with
      | none => simp only [hxf] at p1; exact p1
      | some d => simp only [hxf, hpu d hxf, if_true] at p1; exact p1
    exact p2 cc dd _ _ H' w4 n4 (exR_drop ex (w'.dj px (some_ne hop)) hpu fun a z => by show (if a = px then none else _) = none; rw [z, ite_self])
  | ok fs =>
    rw [hr2] at p1
    simp only [hr2] at hi
    rw [hi]
    unfold mkM at p1
    simp only at p1
    split at p1
    case isFalse => exact False.elim p1
    rename_i hfs
    obtain ⟨hfs, hpu⟩ := hfs
    intro v Z' C' H' w' n' rv
    cases rv
    refine ⟨rfl, ?_⟩
    have n3 := n2.trans w1.ch w2.ch n'
    have hk : Z'.μ s1.n = some px := n'.zz.m _ _ nameZ_at
    obtain ⟨im, C7, dx7, fs7, ns, h1, h2, h3, h4⟩ := mem_at' (d := .ins c fs) w' (by show (if _ then _ else _) = _; rw [if_pos rfl]) hk
    rw [hc] at h1
    obtain ⟨rfl, rfl⟩ : C = C7 ∧ names = ns := by
      have := Option.some.inj h1
      rw [Prod.mk.injEq] at this
      exact this
    obtain ⟨w4, n4⟩ := mem_drop w1 hp w' n3 hk (w'.ch _ _ h2)
    have hfull : fs7.map (·.1) = names := by rw [h3, hfs, ← hnl, List.take_length]
    refine p1 (.ref px) _ (era C' px) H' w4 n4 (.ins (by rw [hfull]; exact hc) upd_same (nor_repL (k := s1.n) (Sub.upd (w'.dj px (some_ne h2))) (fun j a h e => by show (if j = s1.n then none else Z'.μ j) = some a; rw [if_neg h]; exact e) fs (D.purL_nor fs hpu) h4))
def newM {K : PySem.W.Frag} {cl : CTab} (d : D) : M (MemS K cl) D := fun s => .ok (.ref s.n) (s.push d)
def makeM {K : PySem.W.Frag} {cl : CTab} (c : Str) (f : List D → M (MemS K cl) D) (ds : List D) : M (MemS K cl) D := M.bind (newM (.ins c [])) fun r => M.bind (f (r :: ds)) fun v => match v with
  | .non => M.pure r
  | _ => fun _ => .stuck
theorem ds_never {B : Sto} {st : Stmt} : DS cl B W X st (fun _ _ => .stuck) := PS.weak ps_never fun E σ H ⟨Z0, C0, H0, Z, C, s, ρ, α, c0, w, n, r, q⟩ => q
end
end DN
namespace DN
open PySem PySem.Spec PyProof.Rows L2 RZ ND
open PySem.AutoSeq1 (wpAny_loadPart')
variable {B : Sto}
theorem tuple_mulW1 (l : Addr) (items : Array Value) (n : Nat) (dd : Option Addr) (sl : Array (Option Value)) (x : Int) (u : Tok) (c0 : (decide (x < -(2 ^ 63)) || decide (x ≥ 2 ^ 63)) = false) (c1 : (items.isEmpty || x == 1) = true) :
    Meets (Builtin.«tuple.__mul__» ⟨[.ref l, .int x u], []⟩) (fun _ R s => s.heap.get? l = some { cls := .type "tuple", dict := dd, data := .seq items n, slots := sl } ∧
      R (.ok (.ret (Value.ref l))) s) :=
  .of_wp fun prog w A R s h => by
    obtain ⟨hp, g, d, tk, os⟩ := s
    obtain ⟨hl, h⟩ := h
    have f1 := AutoSeq1.idx_int
    wp_walk using wpAny_loadPart' hl
    repeat (first
      | (refine wpAny_ite_false (decide_eq_false (by rw [c0]; exact Bool.false_ne_true)) ?_; wp_walk using wpAny_loadPart' hl)
      | (refine wpAny_ite_true (decide_eq_true c1) ?_; wp_walk using wpAny_loadPart' hl))
    exact ⟨_, rfl, h⟩
def rRep1 (K : PySem.W.Frag) : R2 := fun x y H Q => ∃ l k xs, x = .ref l ∧ y = .int k ∧ SqT K H l xs ∧ (xs = [] ∨ k = 1) ∧ -1000 ≤ k ∧ k ≤ 1000 ∧ Q (.ref l) H
theorem op_rep1 {X : Cx} : OpR X (binaryOp .Mult) (rRep1 X.K) := by
  intro pins s σ H x y v u Q I rx ry h
  obtain ⟨l, k, xs, rfl, rfl, hT, hne, h1, h2, q⟩ := h
  cases rx
  obtain ⟨t, rfl⟩ := ry
  obtain ⟨its, r, ⟨⟨cls, dd, data, sl⟩, ho, hc, n, hd⟩, hs⟩ := I.tuple hT
  simp only at hc hd
  subst hc hd
  have c0 : (decide (k < -(2 ^ 63)) || decide (k ≥ 2 ^ 63)) = false := by
    rw [decide_eq_false (by omega), decide_eq_false (by omega)] <;> rfl
  have c1 : (its.toArray.isEmpty || k == 1) = true := by
    rcases hne with rfl | rfl
    · cases r; rfl
    · simp
  refine wpAny_binaryOp_repeat_ref (T := "tuple") (U := "int") (by decide) ⟨_, ho, rfl⟩ (fun s' => typeIs_int s' k t) noFill_tuple_mul F.fills_int_mul F.slot_int_rmul repeat_tuple F.slot_int_index.lookup
    (call_meets F.slot_int_rmul (typeIs_int s k t) F.entry_int_rmul (F.args_int_rmul_2 _ _) (int_rmul_tuple k t l its.toArray n dd sl)
      ⟨ho, rfl, ⟨_, ho, rfl⟩, call_meets F.slot_tuple_mul ⟨_, ho, rfl⟩ F.entry_tuple_mul (F.args_tuple_mul_2 _ _) (tuple_mulW1 l its.toArray n dd sl k t c0 c1) ⟨ho, ?_⟩⟩)
  exact ⟨.ref l, H, I, rfl, q⟩
theorem tuple_mulW0 (l : Addr) (items : Array Value) (n : Nat) (dd : Option Addr) (sl : Array (Option Value)) (x : Int) (u : Tok) (c0 : (decide (x < -(2 ^ 63)) || decide (x ≥ 2 ^ 63)) = false) (c1 : (items.isEmpty || x == 1) = false) (c2 : (decide (x ≤ 0) || items.isEmpty) = true) :
    Meets (Builtin.«tuple.__mul__» ⟨[.ref l, .int x u], []⟩) (fun _ R s => s.heap.get? l = some { cls := .type "tuple", dict := dd, data := .seq items n, slots := sl } ∧
      R (.ok (.ret (Value.ref s.heap.objs.size))) { s with heap := s.heap.push { cls := Value.type "tuple", data := Data.seq #[] }, toks := s.toks }) :=
  .of_wp fun prog w A R s h => by
    obtain ⟨hp, g, d, tk, os⟩ := s
    obtain ⟨hl, h⟩ := h
    have f1 := AutoSeq1.idx_int
    wp_walk using wpAny_loadPart' hl
    repeat (first
      | (refine wpAny_ite_false (decide_eq_false (by rw [c0]; exact Bool.false_ne_true)) ?_; wp_walk using wpAny_loadPart' hl)
      | (refine wpAny_ite_false (decide_eq_false (by rw [c1]; exact Bool.false_ne_true)) ?_; wp_walk using wpAny_loadPart' hl)
      | (refine wpAny_ite_true (decide_eq_true c2) ?_; wp_walk using wpAny_loadPart' hl))
    exact ⟨_, rfl, h⟩
def rRep0 (K : PySem.W.Frag) : R2 := fun x y H Q => ∃ l k xs, x = .ref l ∧ y = .int k ∧ SqT K H l xs ∧ xs ≠ [] ∧ -1000 ≤ k ∧ k ≤ 0 ∧ ∀ p, H p = none → Q (.ref p) (upd H p (.tup []))
theorem op_rep0 {X : Cx} : OpR X (binaryOp .Mult) (rRep0 X.K) := by
  intro pins s σ H x y v u Q I rx ry h
  obtain ⟨l, k, xs, rfl, rfl, hT, hne, h1, h2, q⟩ := h
  cases rx
  obtain ⟨t, rfl⟩ := ry
  obtain ⟨its, r, ⟨⟨cls, dd, data, sl⟩, ho, hc, n, hd⟩, hs⟩ := I.tuple hT
  simp only at hc hd
  subst hc hd
  have hi : its.toArray.isEmpty = false := by
    cases its with
    | nil => cases r; exact absurd rfl hne
    | cons a b => rfl
  have c0 : (decide (k < -(2 ^ 63)) || decide (k ≥ 2 ^ 63)) = false := by
    rw [decide_eq_false (by omega), decide_eq_false (by omega)] <;> rfl
  have c1 : (its.toArray.isEmpty || k == 1) = false := by
    rw [hi, Bool.false_or]
    exact beq_eq_false_iff_ne.mpr (by omega)
  have c2 : (decide (k ≤ 0) || its.toArray.isEmpty) = true := by
    rw [decide_eq_true h2, Bool.true_or]
  refine wpAny_binaryOp_repeat_ref (T := "tuple") (U := "int") (by decide) ⟨_, ho, rfl⟩ (fun s' => typeIs_int s' k t) noFill_tuple_mul F.fills_int_mul F.slot_int_rmul repeat_tuple F.slot_int_index.lookup
    (call_meets F.slot_int_rmul (typeIs_int s k t) F.entry_int_rmul (F.args_int_rmul_2 _ _) (int_rmul_tuple k t l its.toArray n dd sl)
      ⟨ho, rfl, ⟨_, ho, rfl⟩, call_meets F.slot_tuple_mul ⟨_, ho, rfl⟩ F.entry_tuple_mul (F.args_tuple_mul_2 _ _) (tuple_mulW0 l its.toArray n dd sl k t c0 c1 c2) ⟨ho, ?_⟩⟩)
  refine ⟨.ref s.heap.objs.size, _, I.laid (t' := s.toks) (o := .tup []) (fun b ob q => Heap.get?_push_of_some _ q) (Nat.le_refl _) ?_, rfl, q _ (I.hok.fresh (Nat.le_refl _))⟩
  exact ⟨Nat.zero_le _, [], .nil, IsTup.new _ _⟩
def rRepR (K : PySem.W.Frag) : R2 := fun x y H Q => ∃ l k xs, x = .ref l ∧ y = .int k ∧ SqR K H l xs ∧ -1000 ≤ k ∧ k ≤ 1000 ∧ xs.length * k.toNat ≤ sizeLine ∧
  ∀ p, H p = none → Q (.ref p) (upd H p (.lst (List.replicate k.toNat xs).flatten))
theorem flat_fold {α : Type} (its : List α) : ∀ (m : Nat) (acc : List α), List.foldl (fun x1 x2 => x1 ++ x2) acc.toArray (List.replicate m its.toArray) = (acc ++ (List.replicate m its).flatten).toArray
  | 0, acc => by simp
  | m + 1, acc => by
    rw [List.replicate_succ, List.foldl_cons, show acc.toArray ++ its.toArray = (acc ++ its).toArray by simp, flat_fold its m (acc ++ its), List.replicate_succ, List.flatten_cons, List.append_assoc]
theorem op_repR {X : Cx} : OpR X (binaryOp .Mult) (rRepR X.K) := by
  intro pins s σ H x y v u Q I rx ry ⟨l, k, xs, ex, ey, hT, h1, h2, hz, q⟩
  subst ex ey
  cases rx
  obtain ⟨t, rfl⟩ := ry
  obtain ⟨_, its, n, r, hl, e⟩ := lstR I hT
  have hs : its.toArray.size * k.toNat ≤ sizeLine := by rw [List.size_toArray, ← hl]; exact hz
  have c1 : ¬ (!Builtin.List.listFitsIndex k) = true := by
    rw [fitsIndex_both (by omega) (by omega)]
    exact Bool.false_ne_true
  have c2 : ¬ its.toArray.size * k.toNat > (2 ^ 63 - 1) / 8 := by
    have : (sizeLine : Nat) ≤ (2 ^ 63 - 1) / 8 := by decide
    omega
  have c3 : ¬ Builtin.List.listTooLong (its.toArray.size * k.toNat) = true := by
    rw [notLongL hs]
    exact Bool.false_ne_true
  refine wpAny_binaryOp_repeat_ref (T := "list") (U := "int") (by decide) ⟨_, e, rfl⟩ (fun s' => typeIs_int s' k t) noFill_list_mul F.fills_int_mul F.slot_int_rmul repeat_list F.slot_int_index.lookup
    (call_meets F.slot_int_rmul (typeIs_int s k t) F.entry_int_rmul (F.args_int_rmul_2 _ _) (int___rmul___int_list k t l its.toArray n)
      ⟨e, rfl, ⟨_, e, rfl⟩, call_meets F.slot_list_mul ⟨_, e, rfl⟩ F.entry_list_mul (F.args_list_mul_2 _ _) (AutoListH.list___mul___list_int_3 l its.toArray n k t c1 c2 c3) ⟨e, ?_⟩⟩)
  have en : List.foldl (fun x1 x2 => x1 ++ x2) #[] (List.replicate (if its.toArray.isEmpty = true then 0 else k.toNat) its.toArray) = (List.replicate k.toNat its).flatten.toArray := by
    have := flat_fold its (if its.toArray.isEmpty = true then 0 else k.toNat) []
    rw [List.nil_append] at this
    rw [this]
    cases its with
    | nil => simp
    | cons a r' => rw [if_neg (by simp)]
  rw [en]
  exact ⟨.ref _, _, I.lnew (t' := s.toks) (r.rep k.toNat) (by rw [PyProof.Rows.lm_len_rep_flat, Nat.mul_comm]; exact hz), rfl, q _ I.fresh⟩
def mulD : D → D → Option D
  | .int i, .int j => mulI (.int i) (.int j)
  | .tup xs, .int k => if (xs.isEmpty = true ∨ k = 1) ∧ -1000 ≤ k ∧ k ≤ 1000 then some (.tup xs) else if xs.isEmpty = false ∧ 2 ≤ k ∧ k ≤ 1000 ∧ xs.length ≤ 1000 then some (.tup (List.replicate k.toNat xs).flatten) else if xs.isEmpty = false ∧ -1000 ≤ k ∧ k ≤ 0 then some (.tup []) else none
  | .lst xs, .int k => if -1000 ≤ k ∧ k ≤ 1000 ∧ xs.length ≤ 1000 then some (.lst (List.replicate k.toNat xs).flatten) else none
  | _, _ => none
abbrev rMulA (K : PySem.W.Frag) : R2 := fun x y H Q => ((rI CMul (fun i j => .int (i * j)) x y H Q ∨ rRep1 K x y H Q) ∨ rRepT K x y H Q) ∨ (rRep0 K x y H Q ∨ rRepR K x y H Q)
theorem op_mulA {X : Cx} : OpR X (binaryOp .Mult) (rMulA X.K) := ((op_mul.or op_rep1).or op_repT).or (op_rep0.or op_repR)
theorem RepL.rep {K : PySem.W.Frag} {cl : CTab} {Z : Zp} {vs : List V} {ds : List D} (r : RepL K cl Z vs ds) : ∀ n : Nat, RepL K cl Z (List.replicate n vs).flatten (List.replicate n ds).flatten
  | 0 => .nil
  | n + 1 => by
    rw [List.replicate_succ, List.flatten_cons, List.replicate_succ, List.flatten_cons]
    exact r.append (RepL.rep r n)
theorem v_mul {K : PySem.W.Frag} {cl : CTab} : OpV K cl (rMulA K) mulD := by
  intro Z H x y dx dy d Q h rx ry e q
  unfold mulD at e
  split at e
  · exact .inl (.inl (.inl (v_mulI Z H x y _ _ d Q h rx ry e q)))
  · cases ry
    rename_i xs k
    cases rx with
    | tup a b c =>
      rename_i pa va
      split at e
      · rename_i hc
        cases e
        refine .inl (.inl (.inr ⟨_, k, _, rfl, rfl, sq_t (h _ _ a), ?_, hc.2.1, hc.2.2, q _ Z H (.refl h) (.tup a b c)⟩))
        rcases hc.1 with z | z
        · cases xs with
          | nil => cases c; exact .inl rfl
          | cons => cases z
        · exact .inr z
      · split at e
        · rename_i hc
          cases e
          have hl := c.len
          refine .inl (.inr ⟨_, k, _, rfl, rfl, sq_t (h _ _ a), fun z => ?_, hc.2.1, hc.2.2.1, by omega, fun p hp => ?_⟩)
          · subst z; cases c; cases hc.1
          · have al : Al Z H (upz Z p (.tup (List.replicate k.toNat va).flatten)) (upd H p (.tup (List.replicate k.toNat va).flatten)) := .new h hp (fun _ z => nomatch z)
            refine q _ _ _ al (.tup upd_same ?_ ((c.rep k.toNat).mono al.zz))
            rw [PyProof.Rows.lm_len_rep_flat, hl, sizeLine_eq]
            have : k.toNat * xs.length ≤ 1000 * 1000 := Nat.mul_le_mul (by omega) hc.2.2.2
            omega
        · split at e
          · rename_i hc
            cases e
            refine .inr (.inl ⟨_, k, _, rfl, rfl, sq_t (h _ _ a), fun z => ?_, hc.2.1, hc.2.2, fun p hp => ?_⟩)
            · subst z; cases c; cases hc.1
            · have al : Al Z H (upz Z p (.tup [])) (upd H p (.tup [])) := .new h hp (fun _ z => nomatch z)
              exact q _ _ _ al (.tup upd_same (Nat.zero_le _) .nil)
          · cases e
  · cases ry
    rename_i xs k
    cases rx with
    | slst a b c =>
      rename_i pa va
      split at e
      · rename_i hc
        cases e
        have hl := c.len
        have hz : xs.length * k.toNat ≤ 1000 * 1000 := Nat.mul_le_mul hc.2.2 (by omega)
        refine .inr (.inr ⟨_, k, _, rfl, rfl, a.sub h, by omega, by omega, by rw [hl, sizeLine_eq]; omega, fun p hp => ?_⟩)
        have al : Al Z H (upz Z p (.lst (List.replicate k.toNat va).flatten)) (upd H p (.lst (List.replicate k.toNat va).flatten)) := .new h hp (fun _ z => nomatch z)
        refine q _ _ _ al (.lst upd_same ?_ ((c.rep k.toNat).mono al.zz))
        rw [PyProof.Rows.lm_len_rep_flat, hl, sizeLine_eq, Nat.mul_comm]
        omega
      · cases e
  · cases e
def flV : D → Option V
  | .non => some .non
  | .bl b => some (.bl b)
  | .int i => some (.int i)
  | .str x => some (.str x)
  | _ => none
def flVs : List D → Option (List V)
  | [] => some []
  | d :: ds => (flV d).bind fun v => (flVs ds).map fun r => v :: r
def asL : D → Option (List D)
  | .lst ds => some ds
  | _ => none
def countD (ds : List D) (y : D) : Option D := (flVs ds).bind fun vs => (flV y).map fun v => .int (vs.countP fun z => eqV z v : Nat)
end DN
namespace ND
open PySem PySem.Spec PyProof.Rows L2
def CPut (P : Program) (w : World) (H : Hp) (a : Addr) (y v : V) (H' : Hp) : Prop := (∃ kvs k, y = kV k ∧ H a = some (.dK kvs) ∧ kvs.length < sizeLine ∧ H' = upd H a (.dK (putK kvs k v))) ∨ NPut P w H a y v H'
abbrev TurnEnd (P : Program) (w : World) (D : Addr) (tt : TT) (tk tv : TE) (vs : List Nat) (σ : L2.St) (N : Hp → Prop) (σ2 : L2.St) (H2 : Hp) : Prop := wipe σ2 vs = wipe σ vs ∧ tt σ2 H2 fun b H3 => if b = true then tk σ2 H3 fun y H4 => tv σ2 H4 fun z H5 => ∃ H6, CPut P w H5 D y z H6 ∧ N H6 else N H3
def tDcN (P : Program) (w : World) (wi : TI) (g : TG) (tt : TT) (tk tv : TE) (vs : List Nat) : TE := fun σ H Q => wi σ H fun J H1 => ∀ D, H1 D = none → ∃ G : Nat → Nat → Hp → Prop, (∃ m, G 0 m (upd H1 D (.dK []))) ∧ ∀ i m H, G i m H →
  (J.stop i H ∧ Q (.ref D) H) ∨ (J.go i H ∧ ∃ N : Hp → Prop, (∀ H', N H' → ∃ m', m' < m ∧ G (i + 1) m' H') ∧ ∀ x H', J.yld i H x H' → g x (wipe σ vs) H' (TurnEnd P w D tt tk tv vs σ N))
section
variable {X : Cx}
theorem c_put {pins : List (Addr × Obj)} {σ : L2.St} {H H' : Hp} {s : Shared} {E : Value → Shared → Prop} {a : Addr} {y v : V} {u r : Value} {Q : Unit → Shared → Prop} (hu : X.A.units + 8 < cLine) (I : Inv X pins σ H s) (g : CPut X.prog X.w H a y v H') (ry : RelV y u) (rv : RelV v r) (h : ∀ s', Inv X pins σ H' s' → Q () s') :
    wpAny (model X.prog X.w) X.A (dictSet a u r) Q E s := by
  rcases g with ⟨kvs, k, rfl, e, l, rfl⟩ | g
  · exact d_dictSet I e l ry rv h
  · exact n_dictSet hu I g ry rv h
theorem pe_dcN {kx vx tg iter : Expr} {ifs : List Expr} {scope : Scope} {own : List (Str × Nat)} {pos : Pos} {wi : TI} {g : TG} {tt : TT} {tk tv : TE} (hc : X.calm = true) (hN : X.N.Nodup) (hu : X.A.units + 8 < cLine) (hi : PI X tg iter wi) (ok : BlkOk X.N X.env.scope scope own)
    (hg : ∀ (s : Shared) (H : Hp) (C : Addr) (cs : List (Str × Addr)) (fp : List Addr), PG (X.blk s H scope (compEnvC scope cs C X.env) fp) tg g)
    (ht : ∀ (s : Shared) (H : Hp) (C : Addr) (cs : List (Str × Addr)) (fp : List Addr), PTs (X.blk s H scope (compEnvC scope cs C X.env) fp) ifs tt)
    (hk : ∀ (s : Shared) (H : Hp) (C : Addr) (cs : List (Str × Addr)) (fp : List Addr), PE (X.blk s H scope (compEnvC scope cs C X.env) fp) kx tk)
    (he : ∀ (s : Shared) (H : Hp) (C : Addr) (cs : List (Str × Addr)) (fp : List Addr), PE (X.blk s H scope (compEnvC scope cs C X.env) fp) vx tv) (hs : ∀ x, foldedSetIterable iter X.env x = pure x := by intro _; rfl) :
    PE X (.DictComp kx vx [⟨tg, iter, ifs, 0⟩] scope pos) (tDcN X.prog X.w wi g tt tk tv (own.map (·.2))) := by
  refine ⟨fun pins s σ H Q I h => ?_⟩
  rw [arm_eval_DictComp]
  have cells : ∀ y ∈ scope.names, y.2 = .free → ∃ c, X.env.cells.lookup y.1 = some c := fun y hy e => (ok.free y hy e).elim (fun k => I.ok.has _ (.inl k)) fun k => I.ok.has _ (.inr k)
  refine wpAny_comprehension_free rfl hs (closure_ok cells) ok.kind (fun y hy e => by rw [ok.uniq y hy, e]) (thn (hi.run pins s σ H _ I h) fun _ _ hx => thn hx fun itv z hz => ?_)
  obtain ⟨it, fp, tn, J, Ha, rfl, Ia, T, sta, fa, q⟩ := hz
  refine wpAny_newObj_type (newEnv_comp ?_)
  -- the new dict's place, the heap with it
  obtain ⟨D, hD⟩ : ∃ D, D = z.heap.objs.size := ⟨_, rfl⟩
  rw [← hD]
  have Dn : Ha D = none := Ia.hok.fresh (Nat.le_of_eq hD.symm)
  obtain ⟨G, ⟨m0, g0⟩, turn⟩ := q D Dn
  obtain ⟨b, hb⟩ : ∃ b : Shared, b = { z with heap := z.heap.push { cls := .type "dict", data := .dict #[] } } := ⟨_, rfl⟩
  rw [← hb]
  have bh : b.heap = z.heap.push { cls := .type "dict", data := .dict #[] } := by rw [hb]
  obtain ⟨Hb, hHb⟩ : ∃ Hb, Hb = upd Ha D (.dK []) := ⟨_, rfl⟩
  rw [← hHb] at g0
  have Ib : Inv X pins σ Hb b := by
    rw [hb, hHb]
    exact Ia.laid (t' := z.toks) (fun _ _ e => Heap.get?_push_of_some _ e) (Nat.le_of_eq hD.symm) (by rw [hD]; exact dk_empty z.heap Ia.big)
  have small : ∀ c ∈ fp, c < z.heap.objs.size := fun c hc => by obtain ⟨_, e, _⟩ := T.obj _ _ sta c hc; exact Heap.lt_size e
  have fb : ∀ c ∈ fp, FpOk X pins Hb c ∧ c < b.heap.objs.size := fun c hc => by
    have lt := small c hc
    refine ⟨⟨?_, (fa c hc).2⟩, ?_⟩
    · rw [hHb, upd_ne (by rw [hD]; exact Nat.ne_of_lt lt)]; exact (fa c hc).1
    · rw [bh, Heap.size_push]; exact Nat.lt_succ_of_lt lt
  have stb : tn 0 b.heap := T.keep _ _ _ sta fun _ _ _ e => by rw [bh]; exact Heap.get?_push_of_some _ e
  -- the block's own frame
  have Ic := block_start Ib ok hN fb
  obtain ⟨ce, hce⟩ : ∃ ce, ce = compEnvC scope (cellsFrom (b.heap.objs.size + 1) scope.names (cloFrom X.env.cells scope.names [])) b.heap.objs.size X.env := ⟨_, rfl⟩
  have rg := hg b Hb b.heap.objs.size (cellsFrom (b.heap.objs.size + 1) scope.names (cloFrom X.env.cells scope.names [])) fp
  have rt := ht b Hb b.heap.objs.size (cellsFrom (b.heap.objs.size + 1) scope.names (cloFrom X.env.cells scope.names [])) fp
  have rk := hk b Hb b.heap.objs.size (cellsFrom (b.heap.objs.size + 1) scope.names (cloFrom X.env.cells scope.names [])) fp
  have rv := he b Hb b.heap.objs.size (cellsFrom (b.heap.objs.size + 1) scope.names (cloFrom X.env.cells scope.names [])) fp
  rw [← hce] at Ic rg rt rk rv
  have loc : ce.locals = b.heap.objs.size := by rw [hce]; rfl
  obtain ⟨c, hc'⟩ : ∃ c : Shared, c = { b with heap := pushCells (b.heap.push { cls := .type "dict", data := .dict #[] }) scope.names } := ⟨_, rfl⟩
  rw [← hc'] at Ic
  have stc : tn 0 c.heap := T.keep _ _ _ stb fun _ _ _ e => by rw [hc']; exact pushCells_keeps _ _ _ _ (Heap.get?_push_of_some _ e)
  have frame : ∀ {τ : L2.St} {H' : Hp} {s' : Shared}, Inv (X.blk b Hb scope ce fp) [] τ H' s' → (∀ a ∈ fp, H' a = none) → ∀ a ∈ fp, FpOk (X.blk b Hb scope ce fp) [] H' a := fun {τ H' s'} I' no a ha =>
    ⟨no a ha, (I'.ok.exf a ha).1, I'.ok.exfs a ha, .inl ha, fun x cc e => (I'.ok.exf a ha).2 x cc e, fun p hp => (List.not_mem_nil (show p ∈ ([] : List (Addr × Obj)) from by simpa using hp)).elim⟩
  suffices hh : codeAny (model X.prog X.w) X.A (.compStart (.DictComp kx vx [⟨tg, iter, ifs, 0⟩] scope pos) 0 (.ref it) (.ref D) ce) (compPost (model X.prog X.w) X.A X.xe none (EP X pins σ Q) (.ref D) b.heap.objs.size) c by
    rw [hce, hc'] at hh
    exact hh
  have run : codeAny (model X.prog X.w) X.A (.compLoop (.DictComp kx vx [⟨tg, iter, ifs, 0⟩] scope pos) 0 (.ref it) (.ref D) ce) (compPost (model X.prog X.w) X.A X.xe none (EP X pins σ Q) (.ref D) b.heap.objs.size) c := by
    refine compLoop_anyD (fun n s' => ∃ i H', Inv (X.blk b Hb scope ce fp) [] (wipe σ (own.map (·.2))) H' s' ∧ tn i s'.heap ∧ (∀ a ∈ fp, H' a = none) ∧ G i n H') ?_ m0 ⟨0, Hb, Ic, stc, fun a ha => (fb a ha).1.1, g0⟩
    rintro n t ⟨i, Ht, It, stt, nt, gt⟩
    rcases turn i n Ht gt with ⟨stop, fin⟩ | ⟨go, N, hNx, step⟩
    · refine thnF (T.done (X.blk b Hb scope ce fp) rfl rfl rfl hc i [] t _ Ht (fun _ _ => False) It (frame It nt) stt stop) fun r t2 ⟨hr, I2⟩ => ?_
      subst hr
      have back : Inv X pins σ Ht t2 := Ib.call' (ch := fp) I2.os I2.base I2.hok I2.bare fun a ha => ⟨(fb a ha).1.2.2.2.1, (fb a ha).1.2.1, (fb a ha).1.2.2.2.2.1, (fb a ha).1.2.2.2.2.2⟩
      have nloc : Ht b.heap.objs.size = none := loc ▸ (show Ht ce.locals = none from I2.free)
      obtain ⟨mm, hn, _⟩ := I2.loc
      have hn2 : t2.heap.Ns b.heap.objs.size mm := loc ▸ (show t2.heap.Ns ce.locals mm from hn)
      obtain ⟨a0, a1, _, a3, a4, a5⟩ := Ib.fpOk (Nat.le_refl _) (H := Hb) (show Hb b.heap.objs.size = none from Ib.hok.fresh (Nat.le_refl _))
      refine ⟨mm, hn2, fun h3 sb => ⟨.ref D, Ht, ?_, rfl, fin⟩⟩
      exact back.turned (t' := t2.toks) (fun a o ha e => (sb.2 a ha).trans e) nloc a1 a3 a4 a5
    · refine thnF (T.item (X.blk b Hb scope ce fp) rfl rfl rfl hc i [] t _ Ht (fun _ _ => False) It (frame It nt) stt go) fun r t2 ⟨u, hr, h6⟩ => ?_
      subst hr
      refine thnF h6 fun _ t3 ⟨x, H3, I3, r3, y3, st3, n3⟩ => ?_
      refine thnF (rg.run _ t3 _ H3 x u _ (I3.pinned (frame I3 n3) (T.obj _ _ st3)) r3 (step x H3 y3)) fun _ t4 ⟨τ, H4, I4, hw, q4⟩ => ?_
      refine thnF (rt.run _ t4 τ H4 _ I4 q4) fun ans t5 ⟨H5, I5, q5⟩ => ?_
      have next : ∀ {s' : Shared} {H' : Hp}, Inv (X.blk b Hb scope ce fp) ([] ++ pinsAt fp t3.heap) τ H' s' → N H' → ∃ m, m < n ∧ ∃ i H', Inv (X.blk b Hb scope ce fp) [] (wipe σ (own.map (·.2))) H' s' ∧ tn i s'.heap ∧ (∀ a ∈ fp, H' a = none) ∧ G i m H' := fun {s' H'} I' nx => by
        obtain ⟨m2, lt, g2⟩ := hNx H' nx
        have held : ∀ a ∈ fp, ∀ o, t3.heap.get? a = some o → s'.heap.get? a = some o ∧ H' a = none := fun a ha o e =>
          ⟨(I'.pin (a, o) (List.mem_append_right _ (List.mem_append_right _ (mem_pinsAt ha e)))).1, (I'.pin (a, o) (List.mem_append_right _ (List.mem_append_right _ (mem_pinsAt ha e)))).2.1⟩
        refine ⟨m2, lt, i + 1, H', (I'.unpinned (pins := [])).weak (by rw [← hw, wipe_length]) (fun j v e => (wipe_some (by rw [hw]; exact e)).1), T.keep _ _ _ st3 fun a ha o e => (held a ha o e).1, fun a ha => ?_, g2⟩
        obtain ⟨o, e, _⟩ := T.obj _ _ st3 a ha
        exact (held a ha o e).2
      cases ans with
      | false => exact next I5 q5
      | true =>
        have q5 : tk τ H5 fun y H4 => tv τ H4 fun z H5 => ∃ H6, CPut X.prog X.w H5 D y z H6 ∧ N H6 := q5
        refine thnF (rk.run _ t5 τ H5 _ I5 q5) fun _ t6 ⟨ky, H6, I6, r6, q6⟩ => ?_
        refine thnF (rv.run _ t6 τ H6 _ I6 q6) fun _ t7 ⟨vy, H7, I7, r7, H8, cp, nx⟩ => ?_
        exact c_put (X := X.blk b Hb scope ce fp) hu I7 cp r6 r7 fun _ I8 => next I8 nx
  exact codeAny_compStart_dict run (T.self X.A 0 _ _ _ stc run)
end
end ND
namespace DN
open PySem PySem.Spec PyProof.Rows L2 RZ ND
variable {B : Sto}
def hasK (ks : List D) (k : GK) : Bool := ks.any fun x => decide (x.key = some k)
def repV : List D → List D → GK → D → List D
  | x :: ks, y :: ds, k, d => (if x.key = some k then d else y) :: repV ks ds k d
  | _, ds, _, _ => ds
def putKs (ks : List D) (k : GK) : List D := if hasK ks k = true then ks else ks ++ [keyD k]
def putVs (ks ds : List D) (k : GK) (d : D) : List D := if hasK ks k = true then repV ks ds k d else ds ++ [d]
section
variable {K : PySem.W.Frag} {cl : CTab} {Z : Zp}
theorem hasK_eq (kvs : List (GK × V)) (k : GK) : hasK (kvs.map fun p => keyD p.1) k = kvs.any fun kv => decide (kv.1 = k) := by
  unfold hasK
  rw [List.any_map]
  congr 1
  funext p
  simp only [Function.comp_apply, key_keyD, Option.some.injEq]
theorem rep_rep {k : GK} {v : V} {d : D} (r : Rep K cl Z v d) : ∀ {kvs : List (GK × V)} {ds : List D}, RepL K cl Z (kvs.map (·.2)) ds → RepL K cl Z ((kvs.map fun kv => if kv.1 = k then (kv.1, v) else kv).map (·.2)) (repV (kvs.map fun p => keyD p.1) ds k d)
  | [], _, h => by cases h; exact .nil
  | p :: kvs, _, h => by
    cases h with
    | cons a b =>
      rw [List.map_cons, List.map_cons, List.map_cons, repV, key_keyD]
      by_cases e : p.1 = k
      · rw [if_pos e, if_pos (by rw [e])]
        exact .cons r (rep_rep r b)
      · rw [if_neg e, if_neg (fun z => e (Option.some.inj z))]
        exact .cons a (rep_rep r b)
theorem fst_map (k : GK) (v : V) (kvs : List (GK × V)) : (kvs.map fun kv => if kv.1 = k then (kv.1, v) else kv).map (·.1) = kvs.map (·.1) := by
  rw [List.map_map]
  apply List.map_congr_left
  intro p _
  simp only [Function.comp_apply]
  split <;> rfl
theorem keyOk_rep1 {k : Key} {y : V} (r : Rep K cl Z y (keyD1 k)) : KeyOk1 k := by
  cases k with
  | inl i => trivial
  | inr x => cases r with | str a b => exact ⟨a, b⟩
theorem keyOk_rep {k : GK} {y : V} (r : Rep K cl Z y (keyD k)) : KeyOk k := by
  rcases k with k | ks
  · exact keyOk_rep1 r
  · trivial
theorem put_rep {k : GK} {v : V} {d : D} (kok : KeyOk k) (r : Rep K cl Z v d) {kvs : List (GK × V)} {ks ds : List D} (e : ks = kvs.map fun p => keyD p.1) (nd : KNd kvs) (h : RepL K cl Z (kvs.map (·.2)) ds) :
    putKs ks k = (putK kvs k v).map (fun p => keyD p.1) ∧ KNd (putK kvs k v) ∧ RepL K cl Z ((putK kvs k v).map (·.2)) (putVs ks ds k d) ∧ (putK kvs k v).length ≤ kvs.length + 1 := by
  subst e
  unfold putKs putVs putK
  rw [hasK_eq]
  split
  · refine ⟨?_, ⟨by rw [fst_map]; exact nd.1, fun p hp => ?_⟩, rep_rep r h, by simp⟩
    rotate_left
    · obtain ⟨q, hq, rfl⟩ := List.mem_map.mp hp
      have := nd.2 q hq
      split <;> exact this
    show kvs.map (keyD ∘ Prod.fst) = (kvs.map fun kv => if kv.1 = k then (kv.1, v) else kv).map (keyD ∘ Prod.fst)
    rw [← List.map_map, ← List.map_map]
    exact congrArg (List.map keyD) (fst_map k v kvs).symm
  · rename_i hn
    refine ⟨by simp, ⟨?_, fun p hp => ?_⟩, ?_, by simp⟩
    rotate_left
    · rcases List.mem_append.mp hp with hp | hp
      · exact nd.2 p hp
      · rw [List.mem_singleton.mp hp]; exact kok
    rotate_left
    · rw [List.map_append, List.map_cons, List.map_nil, List.nodup_append]
      refine ⟨nd.1, by simp, fun a ha b hb => ?_⟩
      have hb' : b = k := by simpa using hb
      subst hb'
      intro z
      subst z
      obtain ⟨p, hp, rfl⟩ := List.mem_map.mp ha
      exact hn (List.any_eq_true.mpr ⟨p, hp, by simp⟩)
    · rw [List.map_append]
      exact h.append (.cons r .nil)
end
def gkv (kvs : List (Key × V)) : List (GK × V) := kvs.map fun p => (.inl p.1, p.2)
theorem putK_gkv {kvs : List (Key × V)} {k : Key} {v : V} : putK (gkv kvs) (.inl k) v = gkv (putK kvs k v) := by
  unfold putK gkv
  have e : (kvs.map fun p => ((.inl p.1 : GK), p.2)).any (fun kv => decide (kv.1 = .inl k)) = kvs.any fun kv => decide (kv.1 = k) := by
    rw [List.any_map]
    congr 1
    funext p
    simp
  rw [e]
  split
  · rw [List.map_map, List.map_map]
    apply List.map_congr_left
    intro p _
    simp only [Function.comp_apply]
    by_cases h : p.1 = k
    · rw [if_pos h, if_pos (by rw [h])]
    · rw [if_neg h, if_neg (fun z => h (Sum.inl.inj z))]
  · simp
def GK.low : GK → Bool
  | .inl _ => true
  | .inr ks => decide ((NestedKey.tup ks).depth ≤ 8)
def okK (ks : List D) (k : GK) : Bool := (ks.isEmpty || kindT ks == k.isT) && k.low
section
variable {cl : CTab}
theorem putK_gkt {l : NL} {k : List NestedKey} {b : Addr} {v : V} : putK (l.map fun p => ((.inr p.1 : GK), p.2.2)) (.inr k) v = (putN l k b v).map fun p => ((.inr p.1 : GK), p.2.2) := by
  unfold putK putN
  have e : (l.map fun p => ((.inr p.1 : GK), p.2.2)).any (fun kv => decide (kv.1 = .inr k)) = l.any fun p => decide (p.1 = k) := by
    rw [List.any_map]
    congr 1
    funext p
    simp
  rw [e]
  split
  · rw [List.map_map, List.map_map]
    apply List.map_congr_left
    intro p _
    simp only [Function.comp_apply]
    by_cases h : p.1 = k
    · rw [if_pos h, if_pos (by rw [h])]
    · rw [if_neg h, if_neg (fun z => h (Sum.inr.inj z))]
  · simp
theorem okK_cases {kvs : List (GK × V)} {k : GK} (h : okK (kvs.map fun p => keyD p.1) k = true) : (kvs = [] ∨ kindT (kvs.map fun p => keyD p.1) = k.isT) ∧ ∀ ks, k = .inr ks → (NestedKey.tup ks).depth ≤ 8 := by
  unfold okK at h
  rw [Bool.and_eq_true] at h
  refine ⟨?_, fun ks e => ?_⟩
  · have h := h.1
    rcases Bool.or_eq_true _ _ ▸ h with h | h
    · left
      cases kvs with
      | nil => rfl
      | cons a b => cases h
    · right; exact eq_of_beq h
  · subst e
    exact of_decide_eq_true h.2
theorem dput_of {Z H : Hp} {a : Addr} {o : HO} {kvs : List (GK × V)} {k : GK} {y v : V} (e : H a = some o) (hz : Sub Z H) (dk : DKV cl Z a o kvs) (ry : KeyV H y k) (rz : KeyV Z y k) (ok : okK (kvs.map fun p => keyD p.1) k = true) (hl : kvs.length < sizeLine) :
    ∃ o', DPut2 cl H a y v (upd H a o') ∧ CPut cl.P cl.w H a y v (upd H a o') ∧ DKV cl Z a o' (putK kvs k v) ∧ immO o' = false := by
  obtain ⟨oc, dp⟩ := okK_cases ok
  rcases dk with ⟨l, h1, h2⟩ | ⟨l, h0, h1, h2, h3⟩
  · subst h1 h2
    rw [List.length_map] at hl
    rcases k with k | k
    · obtain rfl : y = kV k := ry
      exact ⟨_, .inl (DPut.k e hl), .inl ⟨l, k, rfl, e, hl, rfl⟩, .inl ⟨_, rfl, putK_gkv⟩, rfl⟩
    · have ry' := ry
      simp only [KeyV, KAt] at ry'
      obtain ⟨b, vs, rfl, hb, _⟩ := ry'
      have l0 : l = [] := by
        rcases oc with h | h
        · cases l with
          | nil => rfl
          | cons => cases h
        · rcases l with _ | ⟨⟨k | k, v⟩, l⟩
          · rfl
          · exact nomatch h
          · exact nomatch h
      subst l0
      have g : NPut cl.P cl.w H a (.ref b) v (upd H a (dN cl.P cl.w a (putN [] k b v))) := ⟨k, b, [], rfl, ry, dp _ rfl, by decide, .inr ⟨e, rfl⟩, rfl⟩
      exact ⟨_, .inr g, .inr g, .inr ⟨putN [] k b v, putN_ne, rfl, putK_gkt (l := []), KsAt.put (fun _ h => nomatch h) rz (dp _ rfl)⟩, rfl⟩
  · subst h1 h2
    rw [List.length_map] at hl
    rcases k with k | k
    · exfalso
      rcases oc with h | h
      · cases l with
        | nil => exact h0 rfl
        | cons => cases h
      · cases l with
        | nil => exact h0 rfl
        | cons => exact nomatch h
    · have ry' := ry
      simp only [KeyV, KAt] at ry'
      obtain ⟨b, vs, rfl, hb, _⟩ := ry'
      have g : NPut cl.P cl.w H a (.ref b) v (upd H a (dN cl.P cl.w a (putN l k b v))) := ⟨k, b, l, rfl, ry, dp _ rfl, hl, .inl ⟨e, h3.mono fun _ _ q => hz _ _ q⟩, rfl⟩
      exact ⟨_, .inr g, .inr g, .inr ⟨putN l k b v, putN_ne, rfl, putK_gkt, h3.put rz (dp _ rfl)⟩, rfl⟩
end
def putAll : List D → List D → List (D × D) → Option D
  | ks, ds, [] => some (.dct ks ds)
  | ks, ds, (k, d) :: r => k.key.bind fun k => if okK ks k = true then putAll (putKs ks k) (putVs ks ds k d) r else none
def compFD (a : D → Option Asg) (t : Env → M B Bool) (ek e : Env → M B D) (ρ : Env) (d : D) : M B (Option (D × D)) :=
  noErr (M.bind (lift ((a d).map (setsE ρ))) fun ρ' => M.bind (t ρ') fun k => if k = true then M.bind (ek ρ') fun x => M.bind (e ρ') fun y => M.pure (some (x, y)) else M.pure none)
theorem dc_it {P : Program} {w0 : World} {J : It} {n : Nat} {G : Hp → Prop} {Y : Nat → Hp → V → Hp → Prop} (w : Walk J n G Y) {g : TG} {tt : TT} {tk te : TE} {vs : List Nat} {σ : L2.St} {H1 : Hp} {D : Addr} {Qd : Hp → Prop} (Pv : Nat → Hp → Prop) (h0 : Pv 0 (upd H1 D (.dK []))) (hG : ∀ i H, i ≤ n → Pv i H → G H)
    (hs : ∀ i x H H', i < n → Pv i H → Y i H x H' → g x (L2.wipe σ vs) H' fun σ2 H2 => L2.wipe σ2 vs = L2.wipe σ vs ∧ tt σ2 H2 fun b H3 =>
      if b = true then tk σ2 H3 fun y H4 => te σ2 H4 fun z H5 => ∃ H6, CPut P w0 H5 D y z H6 ∧ Pv (i + 1) H6 else Pv (i + 1) H3) (hd : ∀ H, Pv n H → Qd H) :
    ∃ W : Nat → Nat → Hp → Prop, (∃ m, W 0 m (upd H1 D (.dK []))) ∧ ∀ i m H, W i m H →
      (J.stop i H ∧ Qd H) ∨ (J.go i H ∧ ∃ Nx : Hp → Prop, (∀ H', Nx H' → ∃ m', m' < m ∧ W (i + 1) m' H') ∧ ∀ x H', J.yld i H x H' → g x (L2.wipe σ vs) H' fun σ2 H2 => L2.wipe σ2 vs = L2.wipe σ vs ∧ tt σ2 H2 fun b H3 =>
        if b = true then tk σ2 H3 fun y H4 => te σ2 H4 fun z H5 => ∃ H6, CPut P w0 H5 D y z H6 ∧ Nx H6 else Nx H3) := by
  refine ⟨fun i m H => m = n - i ∧ i ≤ n ∧ Pv i H, ⟨n, by simp, Nat.zero_le _, h0⟩, ?_⟩
  rintro i m H ⟨rfl, hi, p⟩
  have q := hG i H hi p
  by_cases hlt : i < n
  · refine .inr ⟨w.goes i H hlt q, Pv (i + 1), fun H' p' => ⟨n - (i + 1), by omega, rfl, hlt, p'⟩, fun x H' y => hs i x H H' hlt p (w.yields i H x H' hlt q y)⟩
  · have e : i = n := by omega
    subst e
    exact .inl ⟨w.stops H q, hd H p⟩
theorem compL_noErr {β : Type} {f : D → M B (Option β)} {g : D → M B (Option β)} (hf : ∀ d, f d = noErr (g d)) : ∀ {ds : List D} {s s' : B.T} {x : Exn}, compL f ds s ≠ .err x s'
  | [], _, _, _, h => by cases h
  | d :: ds, s, s', x, h => by
    unfold compL M.bind at h
    cases e : f d s with
    | ok o s1 =>
      simp only [e] at h
      cases e2 : compL f ds s1 with
      | ok r s2 => simp only [e2] at h; cases h
      | err y s2 => exact compL_noErr hf e2
      | stuck => simp only [e2] at h; cases h
    | err y s1 =>
      rw [hf d] at e
      unfold noErr at e
      split at e <;> cases e
    | stuck => simp only [e] at h; cases h
section
variable {cl : CTab} {md : Bool} {W : WX} {X : Cx}
theorem dcomp_rest {own : List (Str × Nat)} {b : D → Option Asg} {t : Env → M B Bool} {fk fe : Env → M B D} (hcl : ClOk cl X) (hin : TgIn (own.map (·.2)) b) {σ : L2.St} {Q : VK} {Z1 : Zp} {C1 H1 : Hp} {s1 : B.T} {ρ : Env} {J : It} {ds : List D}
    (w1 : Wd B md Z1 C1 H1 s1) (e1 : EnvR X.K cl Z1 ρ σ) (r1 : ItR X.K cl Z1 J ds) (p1 : PostO X.K cl md W σ Z1 C1 H1 (M.bind (compL (compFD b t fk fe (wipeE ρ (own.map (·.2)))) ds) (fun r => lift (putAll [] [] r)) s1) Q) :
    tDcN X.prog X.w (fun _ _ R => R J H1) (tDG X.K cl b) (tG X.K cl B md RpE W0 t) (tG X.K cl B md (RpD X.K cl) W0 fk) (tG X.K cl B md (RpD X.K cl) W0 fe) (own.map (·.2)) σ H1 Q := by
  intro Dd hD
  have zD := none_of_sub w1.zh hD
  have cD := none_of_sub w1.ch hD
  refine dc_it r1.1 (fun i H => ∃ Zi Ci si o kvs ks acc, Wd B md Zi Ci H si ∧ Nx Z1 C1 H1 Zi Ci H ∧ (H Dd = some o ∧ DKV cl Zi.h Dd o kvs) ∧ Zi Dd = none ∧ Ci Dd = none ∧ (ks = kvs.map (fun p => keyD p.1) ∧ KNd kvs ∧ RepL X.K cl Zi (kvs.map (·.2)) acc) ∧ kvs.length ≤ i ∧ PostO X.K cl md W σ Z1 C1 H1 (M.bind (compL (compFD b t fk fe (wipeE ρ (own.map (·.2)))) (ds.drop i)) (fun r => lift (putAll ks acc r)) si) Q)
    ⟨Z1, C1, s1, .dK [], [], [], [], w1.mut zD cD, (Nx.refl ..).mut hD, ⟨upd_same, .inl ⟨[], rfl, rfl⟩⟩, zD, cD, ⟨rfl, ⟨List.nodup_nil, fun _ h => nomatch h⟩, .nil⟩, Nat.le_refl _, by simpa using p1⟩ (fun i H hi ⟨Zi, Ci, si, o, kvs, ks, acc, wi, ni, _⟩ => ni.zz.to wi.zh) ?_ ?_
  · rintro i x H2 H2' hi ⟨Zi, Ci, si, o, kvs, ks, acc, wi, ni, ⟨hDi, dki⟩, zi, ci, ⟨rk, rn, ri⟩, li, pi⟩ ⟨d, hd, hy⟩
    obtain ⟨Zc, al, rx⟩ := hy Zi ni.zz wi.zh
    have hdr : ds.drop i = d :: ds.drop (i + 1) := by
      have hlt : i < ds.length := hi
      rw [List.drop_eq_getElem_cons hlt]
      have : ds[i] = d := by
        rw [List.getElem?_eq_getElem hlt] at hd
        exact Option.some.inj hd
      rw [this]
    rw [hdr, compL_step] at pi
    have wc := al.wd wi
    have nc := ni.trans w1.ch wi.ch al.nx
    have hDc : H2' Dd = some o := al.hh _ _ hDi
    have zc : Zc Dd = none := by
      cases q : Zc Dd with
      | none => rfl
      | some u =>
        rcases al.zf Dd (some_ne q) with z | z
        · exact absurd zi z
        · rw [hDi] at z; cases z
    -- what the turn does
    have ew := (e1.mono (ni.zz.trans al.zz)).wipe (own.map (·.2))
    cases hb : b d with
    | none =>
      exfalso
      have hf : compFD b t fk fe (wipeE ρ (own.map (·.2))) d si = .stuck := by simp only [compFD, M.bind, noErr, lift, hb, Option.map_none]
      rw [hf] at pi
      exact pi
    | some as =>
      refine ⟨Zc, d, as, wc.zh, rx, hb, fun vs2 a2 => ?_⟩
      have e2 := ew.sets a2
      generalize hρ' : setsE (wipeE ρ (own.map (·.2))) as = ρ' at e2
      have wσ : L2.wipe (setsV (L2.wipe σ (own.map (·.2))) vs2) (own.map (·.2)) = L2.wipe σ (own.map (·.2)) := by
        rw [wipe_sets vs2 _ (asgR_mem a2 (hin d as hb))]
        exact wipe_sub _ (fun _ h => h)
      refine ⟨wσ, Zc, Ci, si, ρ', wc, e2, ?_⟩
      cases et : t ρ' si with
      | stuck =>
        exfalso
        have hf : compFD b t fk fe (wipeE ρ (own.map (·.2))) d si = .stuck := by simp only [compFD, M.bind, noErr, lift, M.pure, hb, Option.map_some, hρ', et]
        rw [hf] at pi
        exact pi
      | err xx s2 =>
        exfalso
        have hf : compFD b t fk fe (wipeE ρ (own.map (·.2))) d si = .stuck := by simp only [compFD, M.bind, noErr, lift, M.pure, hb, Option.map_some, hρ', et]
        rw [hf] at pi
        exact pi
      | ok k s2 =>
        rintro k' Z3 C3 H3 w3 n3 rfl
        have n3' := nc.trans w1.ch wc.ch n3
        obtain ⟨hD3, z3, c3⟩ := n3.own hDc zc ci
        cases k' with
        | false =>
          refine ⟨Z3, C3, s2, o, kvs, ks, acc, w3, n3', ⟨hD3, dki.mono fun _ _ q => n3.zz.h _ _ (al.zz.h _ _ q)⟩, z3, c3, ⟨rk, rn, (ri.mono al.zz).mono n3.zz⟩, Nat.le_succ_of_le li, ?_⟩
          have hf : compFD b t fk fe (wipeE ρ (own.map (·.2))) d si = .ok none s2 := by simp [compFD, M.bind, noErr, lift, M.pure, hb, hρ', et]
          rw [hf] at pi
          exact pi
        | true =>
          refine ⟨Z3, C3, s2, ρ', w3, e2.mono n3.zz, ?_⟩
          cases ek : fk ρ' s2 with
          | stuck =>
            exfalso
            have hf : compFD b t fk fe (wipeE ρ (own.map (·.2))) d si = .stuck := by simp [compFD, M.bind, noErr, lift, M.pure, hb, hρ', et, ek]
            rw [hf] at pi
            exact pi
          | err xx s3 =>
            exfalso
            have hf : compFD b t fk fe (wipeE ρ (own.map (·.2))) d si = .stuck := by simp [compFD, M.bind, noErr, lift, M.pure, hb, hρ', et, ek]
            rw [hf] at pi
            exact pi
          | ok kk s3 =>
            intro vk Z4 C4 H4 w4 n4 rkk
            obtain ⟨hD4, z4, c4⟩ := n4.own hD3 z3 c3
            have n4' := n3'.trans w1.ch w3.ch n4
            refine ⟨Z4, C4, s3, ρ', w4, (e2.mono n3.zz).mono n4.zz, ?_⟩
            cases ee : fe ρ' s3 with
            | stuck =>
              exfalso
              have hf : compFD b t fk fe (wipeE ρ (own.map (·.2))) d si = .stuck := by simp [compFD, M.bind, noErr, lift, M.pure, hb, hρ', et, ek, ee]
              rw [hf] at pi
              exact pi
            | err xx s4 =>
              exfalso
              have hf : compFD b t fk fe (wipeE ρ (own.map (·.2))) d si = .stuck := by simp [compFD, M.bind, noErr, lift, M.pure, hb, hρ', et, ek, ee]
              rw [hf] at pi
              exact pi
            | ok y s4 =>
              intro vy Z5 C5 H5 w5 n5 ry
              obtain ⟨hD5, z5, c5⟩ := n5.own hD4 z4 c4
              have n5' := n4'.trans w1.ch w4.ch n5
              have hf : compFD b t fk fe (wipeE ρ (own.map (·.2))) d si = .ok (some (kk, y)) s4 := by simp [compFD, M.bind, noErr, lift, M.pure, hb, hρ', et, ek, ee]
              rw [hf] at pi
              have lz : kvs.length < sizeLine := Nat.lt_of_le_of_lt li (Nat.lt_of_lt_of_le hi r1.2)
              cases hk0 : kk.key with
              | none =>
                exfalso
                simp only [consO, putAll, hk0, Option.bind_none] at pi
                unfold M.bind at pi
                cases hcl : compL (compFD b t fk fe (wipeE ρ (own.map (·.2)))) (ds.drop (i + 1)) s4 with
                | ok r s5 => simp only [hcl] at pi; exact pi
                | err xx s5 => exact compL_noErr (fun _ => rfl) hcl
                | stuck => simp only [hcl] at pi; exact pi
              | some k0 =>
                cases key_eq hk0
                have dk5 : DKV cl Z5.h Dd o kvs := dki.mono fun _ _ q => n5.zz.h _ _ (n4.zz.h _ _ (n3.zz.h _ _ (al.zz.h _ _ q)))
                by_cases hok : okK (kvs.map fun p => keyD p.1) k0 = true
                · have rk5 := rkk.mono n5.zz
                  obtain ⟨o', _, cp, dk', _⟩ := dput_of (v := vy) hD5 w5.zh dk5 (keyV_of_rep rk5 w5.zh) (keyV_of_rep rk5 (Sub.refl _)) hok lz
                  obtain ⟨q1, q2, q3, q4⟩ := put_rep (k := k0) (keyOk_rep rkk) ry rk rn ((((ri.mono al.zz).mono n3.zz).mono n4.zz).mono n5.zz)
                  rw [← hcl.p, ← hcl.w] at cp
                  refine ⟨_, cp, Z5, C5, s4, o', putK kvs k0 vy, putKs ks k0, putVs ks acc k0 y, w5.mut z5 c5, n5'.mut hD, ⟨upd_same, dk'⟩, z5, c5, ⟨q1, q2, q3⟩, by omega, ?_⟩
                  rw [← rk] at hok
                  simpa only [consO, putAll, hk0, Option.bind_some, hok, if_true] using pi
                · exfalso
                  rw [← rk] at hok
                  simp only [consO, putAll, hk0, Option.bind_some, if_neg hok] at pi
                  unfold M.bind at pi
                  cases hcl : compL (compFD b t fk fe (wipeE ρ (own.map (·.2)))) (ds.drop (i + 1)) s4 with
                  | ok r s5 => simp only [hcl] at pi; exact pi
                  | err xx s5 => exact compL_noErr (fun _ => rfl) hcl
                  | stuck => simp only [hcl] at pi; exact pi
  · rintro H2 ⟨Zi, Ci, si, o, kvs, ks, acc, wi, ni, ⟨hDi, dki⟩, zi, ci, ⟨rk, rn, ri⟩, li, pi⟩
    rw [List.drop_length] at pi
    have pi' : PostO X.K cl md W σ Z1 C1 H1 (.ok (.dct ks acc) si) Q := pi
    exact pi' Dd Zi Ci H2 wi ni hD zi ci ⟨o, kvs, hDi, dki, rk, rn, ri⟩
theorem dx_dcomp {kx elt tg iter : Expr} {ifs : List Expr} {scope : Scope} {own : List (Str × Nat)} {pos : Pos} {src : Env → M B (List D)} {b : D → Option Asg} {t : Env → M B Bool} {fk fe : Env → M B D} (hcl : ClOk cl X) (hu : X.A.units + 65 < cLine) (hc : X.calm = true) (hN : X.N.Nodup)
    (hi : DI cl B md W X tg iter src) (ok : BlkOk X.N X.env.scope scope own)
    (hg : ∀ (s : Shared) (H : Hp) (C : Addr) (cs : List (Str × Addr)) (fp : List Addr), DG cl (X.blk s H scope (compEnvC scope cs C X.env) fp) tg b) (hin : TgIn (own.map (·.2)) b)
    (ht : ∀ (s : Shared) (H : Hp) (C : Addr) (cs : List (Str × Addr)) (fp : List Addr), DTs cl B md (X.blk s H scope (compEnvC scope cs C X.env) fp) ifs t)
    (hk : ∀ (s : Shared) (H : Hp) (C : Addr) (cs : List (Str × Addr)) (fp : List Addr), DE cl B md W0 (X.blk s H scope (compEnvC scope cs C X.env) fp) kx fk)
    (he : ∀ (s : Shared) (H : Hp) (C : Addr) (cs : List (Str × Addr)) (fp : List Addr), DE cl B md W0 (X.blk s H scope (compEnvC scope cs C X.env) fp) elt fe) (hs : ∀ x, foldedSetIterable iter X.env x = pure x := by intro _; rfl) :
    DX cl B md W X (.DictComp kx elt [⟨tg, iter, ifs, 0⟩] scope pos) fun ρ => M.bind (src ρ) fun ds => M.bind (compL (compFD b t fk fe (wipeE ρ (own.map (·.2)))) ds) fun r => lift (putAll [] [] r) := by
  refine PE.weak (pe_dcN (g := tDG X.K cl b) (tt := tG X.K cl B md RpE W0 t) (tk := tG X.K cl B md (RpD X.K cl) W0 fk) (tv := tG X.K cl B md (RpD X.K cl) W0 fe) hc hN (by omega) hi ok hg ht hk he hs) fun σ H Q ⟨Z, C, s, ρ, w, e, p⟩ => ?_
  exact ⟨Z, C, s, ρ, w, e, PostO.seq w.ch p fun ds s1 J Z1 C1 H1 w1 n1 r1 p1 => dcomp_rest hcl hin w1 (e.mono n1.zz) r1 p1⟩
end
end DN
namespace DN
section
open PySem PySem.Calls PyProof.Rows PySem.W PySem.SeqAt
theorem firsts_opt {M : Model} {A : Around} {E : Value → Shared → Prop} {s : Shared} : ∀ (vs : List Value) (ds : List PyData) {Q : List (Option Value) → Shared → Prop}, EachIs (fun v d => ∃ as, Reads s.heap v d as) vs ds → (∀ d ∈ ds, ∃ xs, d = .tuple xs) →
    (∀ fs, fs.length = vs.length → (∀ (i : Nat) xs, ds[i]? = some (.tuple xs) → (fs[i]?.map Option.isSome = some (!xs.isEmpty))) → Q fs s) → wpAny M A (vs.mapM firstOfTuple') Q E s
  | [], [], _, _, _, h => by rw [List.mapM_nil]; exact wpAny_pure (h [] rfl fun i xs e => by simp at e)
  | [], _ :: _, _, e, _, _ => by cases e
  | _ :: _, [], _, e, _, _ => by cases e
  | v :: vs, d :: ds, Q, e, ht, h => by
    cases e with
    | cons r t =>
      obtain ⟨as, r⟩ := r
      obtain ⟨ys, rfl⟩ := ht d List.mem_cons_self
      cases r with
      | @tuple a o xs n _ _ ho hc hd hr =>
        rw [List.mapM_cons]
        refine wpAny_bind ?_
        rw [kas_first_eq]
        refine wpAny_bind (Looks.here (show Looks M s.heap (typeOf (.ref a)) o.cls from (Looks.ld ho).andThen .now) ?_)
        rw [hc, if_neg (by first | decide | simp)]
        refine wpAny_bind (listItems_at ho hd (wpAny_pure ?_))
        refine wpAny_bind (firsts_opt vs ds t (fun d hd => ht d (List.mem_cons_of_mem _ hd)) fun fs hl hf => wpAny_pure (h (xs[0]? :: fs) (by simp [hl]) fun i zs hz => ?_))
        cases i with
        | zero =>
          simp only [List.getElem?_cons_zero, Option.some.injEq, PyData.tuple.injEq] at hz
          subst hz
          simp only [List.getElem?_cons_zero, Option.map_some]
          congr 1
          rw [← Array.getElem?_toList]
          cases q : xs.toList with
          | nil => rw [q] at hr; cases hr; rfl
          | cons f fr => rw [q] at hr; cases hr; rfl
        | succ i =>
          simp only [List.getElem?_cons_succ] at hz ⊢
          exact hf i zs hz
theorem call_tup_lt {A : Around} {s : Shared} {prog : Program} {w : World} {E : Value → Shared → Prop} {Q : Value → Shared → Prop} {l b : Addr} {items items2 : Array Value} {e r : Nat → Bool} (hl : s.heap.IsTuple l items) (hb : s.heap.IsTuple b items2)
    (he : ∀ j (h1 : j < items.size) (h2 : j < items2.size), EqAt A.in1 s items[j] items2[j] (e j)) (hr : ∀ j (h1 : j < items.size) (h2 : j < items2.size), e j = false → RcLt A.in1 s items[j] items2[j] (r j))
    (h : Q (.bool (firstLt e r (decide (items.size < items2.size)) (List.range (min items.size items2.size)))) s) : wpAny (model prog w) A (call (.builtin "tuple.__lt__") [.ref l, .ref b]) Q E s := by
  obtain ⟨⟨cls, dd, data, sl⟩, ho, hc, n, hd⟩ := id hl
  obtain ⟨⟨cls2, dd2, data2, sl2⟩, ho2, hc2, n2, hd2⟩ := id hb
  simp only at hc hd hc2 hd2
  subst hc hd hc2 hd2
  exact call_meets F.slot_tuple_lt ⟨_, ho, rfl⟩ F.entry_tuple_lt (F.args_tuple_lt_2 _ _) (PySem.SeqAt.tuple_ltAt l b items items2 n n2 dd dd2 sl sl2 e r) ⟨ho, ho2, he, hr, h⟩
theorem oneLt_tup {prog : Program} {w : World} {A : Around} {E : Value → Shared → Prop} {s : Shared} {f : Bool} {xs ys : List PyData} {a b : Value} {as bs : List Addr} {Q : Bool → Shared → Prop} (ra : Reads s.heap a (.tuple xs) as) (rb : Reads s.heap b (.tuple ys) bs) (h : alike (.tuple xs) (.tuple ys) = true)
    (hu : A.units + min (PyData.tuple xs).depth (PyData.tuple ys).depth < cLine) (hq : Q (dataLt (.tuple xs) (.tuple ys)) s) : wpAny (model prog w) A (oneLt' f a b) Q E s := by
  cases f with
  | false =>
    rw [oneLt'_eq]
    simp only [Bool.false_eq_true, if_false]
    exact wpAny_bind (rcLt_alike (.tuple xs) (.tuple ys) A s a b as bs ra rb h (by simp) hu prog w E _ (wpAny_truthy_bool hq))
  | true =>
    have hal : alikeAll xs ys = true := by simpa [alike] using h
    cases ra with
    | @tuple l o vs n _ as₁ h1 h2 h3 h4 =>
      cases rb with
      | @tuple l' o' vs' n' _ bs₁ k1 k2 k3 k4 =>
        have n1 : vs.size = xs.length := by simpa using ReadsAll.length _ _ _ h4
        have n2 : vs'.size = ys.length := by simpa using ReadsAll.length _ _ _ k4
        rw [dataLt_tuple, ← firstLt_toks xs ys hal, ← n1, ← n2] at hq
        rw [oneLt'_eq]
        simp only [if_true]
        refine wpAny_bind (wpAny_cRoomFor (room_here hu) ?_)
        refine wpAny_bind (wpAny_callSpecialIfBound?_slot (T := "tuple") ⟨_, h1, h2⟩ F.slot_tuple_lt (call_tup_lt (e := pairEq xs ys) (r := fun j => dataLt (xs.getD j .none) (ys.getD j .none)) ⟨_, h1, h2, _, h3⟩ ⟨_, k1, k2, _, k3⟩ (fun j j1 j2 => ?_) (fun j j1 j2 hj => ?_) ?_))
        · have := eqAt_alikeAll xs ys A.in1 s vs.toList vs'.toList _ _ h4 k4 hal (room_in hu) j (by simpa using j1) (by simpa using j2)
          simpa using this
        · have := rcLt_alikeAll xs ys A.in1 s vs.toList vs'.toList _ _ h4 k4 hal (room_in hu) j (by simpa using j1) (by simpa using j2) hj
          simpa using this
        · exact wpAny_truthy_bool hq
theorem keyLt_general (x y : Value) : keyLt' general' x y = oneLt' false x y := rfl
theorem sortsAt_tups {prog : Program} {w : World} {A : Around} {s : Shared} {vs : List Value} {ds : List PyData} (e : EachIs (fun v d => ∃ as, Reads s.heap v d as) vs ds) (hal : AllAlike ds) (ht : ∀ d ∈ ds, ∃ xs, d = .tuple xs) (hu : ∀ d, d ∈ ds → A.units + d.depth < cLine) :
    SortsAt prog w A s (dataKind s.heap ds) vs := by
  by_cases hne : ∀ d ∈ ds, ∃ x r, d = .tuple (x :: r)
  · exact SortsAt.data e hal (.inl hne) hu
  have room : ∀ {d d' : PyData}, d ∈ ds → A.units + min d.depth d'.depth < cLine := fun {d d'} hd => Nat.lt_of_le_of_lt (Nat.add_le_add_left (Nat.min_le_left _ _) _) (hu d hd)
  have lt : ∀ f : Bool, ∀ (kd : SortKind), (∀ x y, keyLt' kd x y = oneLt' f x y) → PyProof.Rows.H.LtAt prog w A s (dataKind s.heap ds) kd := by
    intro f kd hkd E x y a b Q ha hb hq
    obtain ⟨d, as, hd, ra, rfl⟩ := dataKind_inv ha
    obtain ⟨d', as', hd', rb, rfl⟩ := dataKind_inv hb
    obtain ⟨xs, rfl⟩ := ht d hd
    obtain ⟨ys, rfl⟩ := ht d' hd'
    rw [hkd]
    exact oneLt_tup ra rb (hal _ hd _ hd') (room hd) hq
  refine ⟨fun v hv => ?_, ?_⟩
  · obtain ⟨d, hd, as, r⟩ := e.left v hv
    exact ⟨_, dataKind_some hal hd r⟩
  have some_empty : ∃ i : Nat, ds[i]? = some (.tuple []) := by
    apply Classical.byContradiction
    intro hno
    apply hne
    intro d hd
    obtain ⟨xs, rfl⟩ := ht d hd
    cases xs with
    | nil =>
      obtain ⟨i, hi⟩ := List.mem_iff_getElem?.mp hd
      exact absurd ⟨i, hi⟩ hno
    | cons x r => exact ⟨x, r, rfl⟩
  have tys : ∀ (M : Model), ∀ v ∈ vs, Looks M s.heap (typeOf v) (.type "tuple") := fun M v hv => by
    obtain ⟨d, hd, as, r⟩ := e.left v hv
    obtain ⟨xs, rfl⟩ := ht d hd
    exact looks_reads r
  have hlen := e.length
  -- the first one
  cases hds : ds with
  | nil => rw [hds] at some_empty; obtain ⟨i, hi⟩ := some_empty; simp at hi
  | cons d0 ds0 =>
    obtain ⟨x0, rfl⟩ := ht d0 (by rw [hds]; exact List.mem_cons_self)
    have hfst : ds[0]? = some (.tuple x0) := by rw [hds]; rfl
    have notall : ∀ fs : List (Option Value), fs.length = vs.length → (∀ (i : Nat) xs, ds[i]? = some (.tuple xs) → (fs[i]?.map Option.isSome = some (!xs.isEmpty))) → (fs.toArray.all fun x => x.isSome) = false := by
      intro fs hl hf
      obtain ⟨i, hi⟩ := some_empty
      have := hf i [] hi
      cases hx : fs[i]? with
      | none => rw [hx] at this; simp at this
      | some o =>
        rw [hx] at this
        have ho : o.isSome = false := by simpa using this
        rw [List.all_toArray]
        rw [Bool.eq_false_iff]
        intro hall
        have := List.all_eq_true.mp hall o (List.mem_of_getElem? hx)
        rw [ho] at this; cases this
    rw [← hds]
    by_cases hx0 : x0 = []
    · -- one type
      refine ⟨oneType', lt true oneType' (fun x y => keyLt'_oneType x y), fun h2 E Q hq => ?_⟩
      rw [keyKind'_eq, List.mapM_toArray, map_eq_pure_bind]
      refine wpAny_bind (wpAny_bind (firsts_opt vs ds e ht fun fs hl hf => wpAny_pure ?_))
      rw [if_neg (by rw [notall fs hl hf]; simp)]
      have h0 : (fs.toArray[0]?.bind id).isSome = false := by
        have := hf 0 x0 hfst
        rw [List.getElem?_toArray]
        cases hx : fs[0]? with
        | none => rfl
        | some o =>
          rw [hx] at this
          subst hx0
          simpa using this
      rw [if_neg (by rw [h0]; simp)]
      rw [oneTypeOnly'_eq, List.mapM_toArray, map_eq_pure_bind]
      refine wpAny_bind (wpAny_bind (wpAny_bind (kas_mapM (r := Value.type "tuple") _ (fun v hv Q' hq => (tys _ v hv).here hq) (wpAny_pure ?_))))
      obtain ⟨v1, vr, rfl⟩ : ∃ v1 vr, vs = v1 :: vr := by
        cases vs with
        | nil => simp at h2
        | cons a b => exact ⟨a, b, rfl⟩
      have hall : ((List.map (fun _ => Value.type "tuple") (v1 :: vr)).toArray.all fun x => x == Value.type "tuple") = true := by
        simp only [List.all_toArray, List.all_map, List.all_eq_true]
        intro _ _
        exact (beq_self_eq_true _)
      have h0' : (List.map (fun _ => Value.type "tuple") (v1 :: vr)).toArray[0]? = some (Value.type "tuple") := by simp
      rw [h0']
      simp only [hall, if_true]
      exact wpAny_pure (wpAny_pure hq)
    · refine ⟨general', lt false general' keyLt_general, fun h2 E Q hq => ?_⟩
      rw [keyKind'_eq, List.mapM_toArray, map_eq_pure_bind]
      refine wpAny_bind (wpAny_bind (firsts_opt vs ds e ht fun fs hl hf => wpAny_pure ?_))
      rw [if_neg (by rw [notall fs hl hf]; simp)]
      have h0 : (fs.toArray[0]?.bind id).isSome = true := by
        have := hf 0 x0 hfst
        rw [List.getElem?_toArray]
        cases hx : fs[0]? with
        | none => rw [hx] at this; simp at this
        | some o =>
          rw [hx] at this
          cases x0 with
          | nil => exact absurd rfl hx0
          | cons a b => simpa using this
      rw [if_pos h0]
      exact wpAny_pure hq
def IsSeq (h : Heap) (l : Addr) (xs : Array Value) : Prop := h.IsList l xs ∨ h.IsTuple l xs
theorem collect_seq {prog : Program} {w : World} {A : Around} {E : Value → Shared → Prop} {s : Shared} {l : Addr} {vs : List Value} {Q : List Value → Shared → Prop} (hl : IsSeq s.heap l vs.toArray)
    (h : Q vs { s with heap := (s.heap.push (seqObj "list" #[] 0)).update s.heap.objs.size (Obj.mapSeq (· ++ vs.toArray)) }) (hsz : vs.length ≤ sizeLine) :
    wpAny (model prog w) A (collect (.ref l)) Q E s := by
  rcases hl with hl | hl
  · exact collect_list hl h hsz
  obtain ⟨o, ho, hc, n, hd⟩ := id hl
  unfold collect
  refine wpAny_bind (wpAny_runValue (codeAny_builtin entry_proto_collect' ?_))
  show wpAny _ _ (do again (.builtin "list.__iadd__" ⟨[← newList [], .ref l], []⟩)) _ _ s
  refine wpAny_bind (wpAny_newList (wpAny_pure ⟨Code.quiet_builtin _ (by decide +kernel), codeAny_builtin entry_list_iadd' ?_⟩))
  show wpAny _ _ (Builtin.List.listExtendWith (.ref s.heap.objs.size) (.ref l) (.ref s.heap.objs.size)) _ _ { s with heap := s.heap.push (seqObj "list" #[] 0) }
  unfold Builtin.List.listExtendWith
  have ho' : (s.heap.push (seqObj "list" #[] 0)).get? l = some o := Heap.get?_push_of_some _ ho
  refine wpAny_bind (wpAny_typeOf (T := "tuple") ⟨o, ho', hc⟩ ?_)
  have ht : (Value.type "tuple" == Value.type "tuple") = true := by rfl
  rw [if_pos (by rw [ht]; simp)]
  refine wpAny_bind (listItems_at ho' hd ?_)
  refine wpAny_bind (listItems_at (xs := #[]) (n := 0) (Heap.get?_push_size _ rfl) rfl ?_)
  rw [if_neg (by simp)]
  refine wpAny_bind (listUpdate_at (xs := #[]) (n := 0) (Heap.get?_push_size _ rfl) rfl ?_ (Nat.zero_le _) (by show (#[] ++ vs.toArray).size ≤ sizeLine + 1; simp only [Array.size_append, List.size_toArray, List.length_nil]; omega))
  refine wpAny_pure ?_
  show wpAny (model prog w) A (do
      let o ← load s.heap.objs.size
      match o.data with
      | .seq xs _ => pure xs.toList
      | _ => unsupported "internal:collect") Q E { s with heap := (s.heap.push (seqObj "list" #[] 0)).update s.heap.objs.size (Obj.mapSeq (· ++ vs.toArray)) }
  refine wpAny_bind (wpAny_load (get?_update_seq (Heap.get?_push_size _ rfl) _) ?_)
  show wpAny _ _ (pure ((#[] : Array Value) ++ vs.toArray).toList) Q E _
  rw [show ((#[] : Array Value) ++ vs.toArray).toList = vs by simp]
  exact wpAny_pure h
theorem sorted_of_seq {prog : Program} {w : World} {A : Around} {E : Value → Shared → Prop} {s : Shared} {κ : PyProof.Rows.KeyKind} {l : Addr} {vs : List Value} {Q : Value → Shared → Prop} (hl : IsSeq s.heap l vs.toArray) (S : SortsAt prog w A.in1.in1 { s with heap := sortingHeap (copyHeap s.heap vs) (s.heap.objs.size + 1) vs } κ vs) (hL : vs.length ≤ sizeLine)
    (h : Q (.ref (s.heap.objs.size + 1)) { s with heap := sortedAll s.heap vs (sortVals κ false vs vs).toArray }) : wpAny (model prog w) A (call (.builtin "sorted") [.ref l]) Q E s := by
  refine call_function_entry_kw kind_sorted plain_sorted entry_sorted (args_sorted1 _) ?_
  unfold Builtin.«sorted»
  refine wpAny_bind (m := checkCount "sorted" 1 1 _) (wpAny_pure ?_)
  refine wpAny_bind (collect_seq hl ?_ hL)
  refine wpAny_bind (wpAny_newList ?_ hL)
  have hsz : ((s.heap.push (seqObj "list" #[] 0)).update s.heap.objs.size (Obj.mapSeq (· ++ vs.toArray))).objs.size = s.heap.objs.size + 1 := by
    rw [Heap.size_update, size_push']
  show wpAny _ _ _ _ _ { s with heap := copyHeap s.heap vs }
  rw [hsz]
  refine wpAny_bind (wpAny_holding (wpAny_call_entry_kw slot_list_sort ⟨_, copyHeap_at s.heap vs, rfl⟩ entry_list_sort ?body (args_list_sort _)))
  case body =>
    show wpAny (model prog w) A.in1.in1 (Builtin.«list.sort» ⟨[.ref (s.heap.objs.size + 1)], []⟩) _ _ _
    refine wpAny_mono (list_sort_vals (P := fun f s' => f = .done (.ret .none) ∧ Q (.ref (s.heap.objs.size + 1)) s') (s := { s with heap := copyHeap s.heap vs }) (copyHeap_at s.heap vs) S hL ⟨rfl, h⟩) (fun f s' hf => ?_) fun _ _ e => e
    obtain ⟨rfl, hq⟩ := hf
    exact ⟨_, rfl, wpAny_pure ⟨_, rfl, hq⟩⟩
theorem sorted_dataT {prog : Program} {w : World} {A : Around} {E : Value → Shared → Prop} {s : Shared} {β : Type} {vs : List Value} {bs : List β} {enc : β → PyData} {R : Value → β → Prop} {l : Addr} {Q : Value → Shared → Prop} (hl : IsSeq s.heap l vs.toArray) (e : EachIs R vs bs) (er : EachIs (fun v b => ∃ as, Reads s.heap v (enc b) as) vs bs) (hal : AllAlike (bs.map enc)) (hk : Sortable (bs.map enc)) (hL : bs.length ≤ sizeLine)
    (hu : ∀ b, b ∈ bs → A.units + 2 + (enc b).depth < cLine) (h : ∀ out, out.length = bs.length → EachIs R out (bs.mergeSort (dataLe false enc)) → Q (.ref (s.heap.objs.size + 1)) { s with heap := sortedAll s.heap vs (List.toArray out) }) :
    wpAny (model prog w) A (call (.builtin "sorted") [.ref l]) Q E s := by
  have er' : EachIs (fun v b => ∃ as, Reads (sortingHeap (copyHeap s.heap vs) (s.heap.objs.size + 1) vs) v (enc b) as) vs bs := er.mono fun _ _ ⟨as, r⟩ => ⟨as, PyProof.Rows.Reads.keeps (fun _ _ => sorting_copy_old) r⟩
  exact sorted_of_seq hl (SortsAt.data (s := { s with heap := sortingHeap (copyHeap s.heap vs) (s.heap.objs.size + 1) vs }) (each_map (R := fun v d => ∃ as, Reads (sortingHeap (copyHeap s.heap vs) (s.heap.objs.size + 1) vs) v d as) enc er') hal hk (bound_map hu)) (by rw [e.length]; exact hL)
    (h _ (by rw [sortVals_length false rfl]; exact e.length) (sortVals_data false e er' hal))
theorem sorted_tups {prog : Program} {w : World} {A : Around} {E : Value → Shared → Prop} {s : Shared} {β : Type} {vs : List Value} {bs : List β} {enc : β → PyData} {R : Value → β → Prop} {l : Addr} {Q : Value → Shared → Prop} (hl : IsSeq s.heap l vs.toArray) (e : EachIs R vs bs) (er : EachIs (fun v b => ∃ as, Reads s.heap v (enc b) as) vs bs) (hal : AllAlike (bs.map enc)) (hk : ∀ d ∈ bs.map enc, ∃ xs, d = .tuple xs) (hL : bs.length ≤ sizeLine)
    (hu : ∀ b, b ∈ bs → A.units + 2 + (enc b).depth < cLine) (h : ∀ out, out.length = bs.length → EachIs R out (bs.mergeSort (dataLe false enc)) → Q (.ref (s.heap.objs.size + 1)) { s with heap := sortedAll s.heap vs (List.toArray out) }) :
    wpAny (model prog w) A (call (.builtin "sorted") [.ref l]) Q E s := by
  have er' : EachIs (fun v b => ∃ as, Reads (sortingHeap (copyHeap s.heap vs) (s.heap.objs.size + 1) vs) v (enc b) as) vs bs := er.mono fun _ _ ⟨as, r⟩ => ⟨as, PyProof.Rows.Reads.keeps (fun _ _ => sorting_copy_old) r⟩
  exact sorted_of_seq hl (sortsAt_tups (s := { s with heap := sortingHeap (copyHeap s.heap vs) (s.heap.objs.size + 1) vs }) (each_map (R := fun v d => ∃ as, Reads (sortingHeap (copyHeap s.heap vs) (s.heap.objs.size + 1) vs) v d as) enc er') hal hk (bound_map hu)) (by rw [e.length]; exact hL)
    (h _ (by rw [sortVals_length false rfl]; exact e.length) (sortVals_data false e er' hal))
end
end DN
namespace DN
open PySem PySem.Spec PyProof.Rows L2 RZ ND
variable {B : Sto}
def leS (a b : Str) : Bool := !ltCps b.cps.toList a.cps.toList
theorem leS_iff {a b : Str} : leS a b = true ↔ a.cps.toList ≤ b.cps.toList := by
  unfold leS
  rw [PyProof.Rows.ltCps_eq]
  simp [List.not_lt]
theorem leS_trans (a b c : Str) (h1 : leS a b = true) (h2 : leS b c = true) : leS a c = true := leS_iff.mpr (List.le_trans (leS_iff.mp h1) (leS_iff.mp h2))
theorem leS_total (a b : Str) : (leS a b || leS b a) = true := by
  rw [Bool.or_eq_true, leS_iff, leS_iff]
  exact List.le_total _ _
theorem leS_anti {a b : Str} (h1 : leS a b = true) (h2 : leS b a = true) : a = b := by
  have := List.le_antisymm (leS_iff.mp h1) (leS_iff.mp h2)
  cases a with | mk x => cases b with | mk y =>
    simp only at this
    congr 1
    exact Array.ext' this
def sortS (xs : List Str) : List Str := xs.mergeSort leS
theorem rising_pair : ∀ {l : List Str} {p : Str}, risingS p l = true → (p :: l).Pairwise fun a b => leS a b = true
  | [], p, _ => by simp
  | x :: r, p, h => by
    unfold risingS at h
    rw [Bool.and_eq_true] at h
    have ih := rising_pair h.2
    refine List.pairwise_cons.mpr ⟨fun y hy => ?_, ih⟩
    rcases List.mem_cons.mp hy with rfl | hy
    · exact h.1
    · exact leS_trans _ _ _ h.1 ((List.pairwise_cons.mp ih).1 y hy)
theorem sortedS_pair : ∀ {l : List Str}, sortedS l = true → l.Pairwise fun a b => leS a b = true
  | [], _ => .nil
  | _ :: _, h => rising_pair h
theorem sortS_uniq {ys xs : List Str} (h : ys.Perm xs) (s : sortedS ys = true) : ys = sortS xs := by
  refine List.Perm.eq_of_pairwise (le := fun a b => leS a b = true) (fun a b _ _ h1 h2 => leS_anti h1 h2) (sortedS_pair s) (List.pairwise_mergeSort leS_trans leS_total xs) (h.trans (List.mergeSort_perm xs leS).symm)
def strsOf : List D → Option (List Str)
  | [] => some []
  | .str x :: ds => (strsOf ds).map fun r => x :: r
  | _ :: _ => none
theorem strsOf_eq : ∀ {ds : List D} {xs : List Str}, strsOf ds = some xs → ds = xs.map D.str
  | [], _, e => by cases e; rfl
  | d :: ds, xs, e => by
    cases d <;> (unfold strsOf at e; try (cases e; done))
    obtain ⟨r, h1, h2⟩ := Option.map_eq_some_iff.mp e
    subst h2
    rw [strsOf_eq h1]
    rfl
def sortKD : D → Option D
  | .dct ks _ => (strsOf ks).bind fun xs => if xs.length < 64 then some (.lst ((sortS xs).map .str)) else none
  | _ => none
theorem inl_map : ∀ {a b : List Key}, a.map (Sum.inl : Key → GK) = b.map Sum.inl → a = b
  | [], [], _ => rfl
  | [], _ :: _, h => nomatch h
  | _ :: _, [], h => nomatch h
  | x :: a, y :: b, h => by
    rw [List.map_cons, List.map_cons, List.cons.injEq] at h
    rw [Sum.inl.inj h.1, inl_map h.2]
theorem keyD_str {kvs : List (GK × V)} {xs : List Str} (h : (kvs.map fun p => keyD p.1) = xs.map D.str) : kvs.map (·.1) = xs.map fun x => .inl (.inr x) := by
  induction kvs generalizing xs with
  | nil => cases xs with
    | nil => rfl
    | cons => cases h
  | cons p kvs ih =>
    cases xs with
    | nil => cases h
    | cons x xs =>
      rw [List.map_cons, List.map_cons, List.cons.injEq] at h
      obtain ⟨h1, h2⟩ := h
      rw [List.map_cons, List.map_cons, ih h2]
      congr 1
      rcases hk : p.1 with (i | y) | ks
      · rw [hk] at h1; cases h1
      · rw [hk] at h1; cases h1; rfl
      · rw [hk] at h1; cases h1
theorem dkv_str {cl : CTab} {Z : Hp} {a : Addr} {o : HO} {kvs : List (GK × V)} {xs : List Str} (h : DKV cl Z a o kvs) (e : kvs.map (·.1) = xs.map fun x => .inl (.inr x)) : ∃ l : List (Key × V), o = .dK l ∧ kvs = gkv l ∧ l.map (·.1) = xs.map Sum.inr := by
  rcases h with ⟨l, h1, h2⟩ | ⟨l, h0, h1, h2, _⟩
  · refine ⟨l, h1, h2, ?_⟩
    subst h2
    have e2 : l.map (fun p => (Sum.inl p.1 : GK)) = xs.map fun x => .inl (.inr x) := by rw [← e, List.map_map]; rfl
    have e3 : (l.map (·.1)).map (Sum.inl : Key → GK) = (xs.map (Sum.inr : Str → Key)).map (Sum.inl : Key → GK) := by rw [List.map_map, List.map_map]; exact e2
    exact inl_map e3
  · subst h2
    cases l with
    | nil => exact absurd rfl h0
    | cons p l =>
      cases xs with
      | nil => cases e
      | cons x xs =>
        rw [List.map_cons, List.map_cons, List.map_cons, List.cons.injEq] at e
        exact nomatch e.1
section
variable {K : PySem.W.Frag} {cl : CTab} {Z : Zp}
theorem strs_rep : ∀ {ys : List Str}, (∀ y ∈ ys, y.length ≤ sizeLine ∧ PyData.strOk y = true) → RepL K cl Z (ys.map V.str) (ys.map D.str)
  | [], _ => .nil
  | y :: ys, h => .cons (.str (h y List.mem_cons_self).1 (h y List.mem_cons_self).2) (strs_rep fun z hz => h z (List.mem_cons_of_mem _ hz))
end
section
variable {cl : CTab} {md : Bool} {W : WX} {X : Cx}
theorem de_sortedX {e : Expr} {f : Env → M B D} {p pos : Pos} (hc : X.calm = true) (hg : Gl X "sorted") (hm : X.mg "sorted" = none) (he : DX cl B md W X e f) (hs : starEach [e] X.env = (false, eval e X.env) :: starEach [] X.env := by rfl) (hpl : (backTo pos (starEach [] X.env)).any (·.1) = false := by rfl) :
    DE cl B md W X (.Call (.Name "sorted" p) [e] [] pos) fun ρ => M.bind (f ρ) fun d => lift (sortKD d) := by
  refine PE.weak (pe_callB (call_sortedD hc) hg hm boot_sorted (pa_cons he pa_nil hs) (by decide) (by decide) hs hpl) fun σ H Q ⟨Z, C, s, ρ, w, e, pp⟩ => ?_
  refine ⟨Z, C, s, ρ, w, e, ?_⟩
  unfold M.bind at pp
  cases hf : f ρ s with
  | stuck => simp only [hf] at pp; exact pp
  | err x s1 => simp only [hf] at pp; exact pp
  | ok d s1 =>
    simp only [hf] at pp
    intro a Z1 C1 H1 w1 n1 ha hz hcn o
    have p1 := Post.step n1 w.ch w1.ch pp
    obtain ⟨d2, hd, q⟩ := post_lift w1 p1
    cases d with
    | dct ks ds =>
      have hd : ((strsOf ks).bind fun xs => if xs.length < 64 then some (.lst ((sortS xs).map .str)) else none) = some d2 := hd
      obtain ⟨o, gkvs, h1, dk, h2, h3, h4⟩ := o
      cases hx : strsOf ks with
      | none => rw [hx] at hd; cases hd
      | some xs =>
        rw [hx] at hd
        simp only [Option.bind_some] at hd
        split at hd <;> cases hd
        rename_i h64
        have hkg := keyD_str (h2.symm.trans (strsOf_eq hx))
        obtain ⟨kvs, rfl, rfl, hk⟩ := dkv_str dk hkg
        refine ⟨a, kvs, xs, rfl, .inl h1, hk, h64, fun ys pn hperm hsort hp => ?_⟩
        have hu := sortS_uniq hperm hsort
        have ok : ∀ y ∈ ys, y.length ≤ sizeLine ∧ PyData.strOk y = true := fun y hy => by
          have hy2 : Sum.inr y ∈ kvs.map (·.1) := by rw [hk]; exact List.mem_map.mpr ⟨y, hperm.mem_iff.mp hy, rfl⟩
          obtain ⟨pr, hpr, e1⟩ := List.mem_map.mp hy2
          have := h3.2 (.inl pr.1, pr.2) (List.mem_map.mpr ⟨pr, hpr, rfl⟩)
          rw [e1] at this
          exact this
        have al : Al Z1 H1 (upz Z1 pn (.lst (ys.map V.str))) (upd H1 pn (.lst (ys.map V.str))) := .new w1.zh hp (fun _ z => nomatch z)
        rw [← hu] at q
        refine q _ _ _ al (.lst upd_same ?_ (strs_rep ok))
        rw [List.length_map, hperm.length_eq, sizeLine_eq]
        omega
    | _ => cases hd
end
def alikeAllD (xs : List D) : Bool := xs.all fun x => xs.all fun y => PySem.W.alike x.py y.py
def tupCons : D → Bool
  | .tup _ => true
  | _ => false
def SortableT (ds : List PyData) : Prop := (∀ d ∈ ds, ∃ xs, d = .tuple xs) ∨ ∀ d, d ∈ ds → d ≠ .none ∧ ∀ xs, d ≠ .tuple xs
def noTup : D → Bool
  | .tup _ => false
  | .non => false
  | _ => true
def sortableD (xs : List D) : Bool := xs.all D.okc && alikeAllD xs && (xs.all tupCons || xs.all noTup)
noncomputable def leData (x y : D) : Bool := PySem.W.dataLe false D.py x y
noncomputable def sortDL (xs : List D) : List D := xs.mergeSort leData
noncomputable def sortedDD : List D → Option D
  | [.lst xs] => if sortableD xs = true then some (.lst (sortDL xs)) else none
  | [.tup xs] => if sortableD xs = true then some (.lst (sortDL xs)) else none
  | _ => none
def rSortDat (K : PySem.W.Frag) : List V → Hp → VK → Prop := fun vs H Q => ∃ (a : Addr) (L : List (V × D)), vs = [V.ref a] ∧ (SqL K H a (L.map (·.1)) ∨ SqT K H a (L.map (·.1))) ∧ (∀ b ∈ L, Dp K H b.1 b.2.py ∧ b.2.py.depth ≤ 60) ∧ PySem.W.AllAlike (L.map fun b => b.2.py) ∧ SortableT (L.map fun b => b.2.py) ∧
  ∀ p, H p = none → Q (.ref p) (upd H p (.lst ((L.mergeSort (PySem.W.dataLe false fun b => b.2.py)).map (·.1))))
theorem each_of {R : Value → V × D → Prop} : ∀ {L : List (V × D)} {its : List Value}, Vals (L.map (·.1)) its → (∀ b ∈ L, ∀ u, RelV b.1 u → R u b) → PySem.W.EachIs R its L
  | [], _, h, _ => by cases h; exact .nil
  | b :: L, _, h, q => by
    cases h with
    | cons r t => exact .cons (q b List.mem_cons_self _ r) (each_of t fun b' hb => q b' (List.mem_cons_of_mem _ hb))
theorem vals_of_each : ∀ {L : List (V × D)} {its : List Value}, PySem.W.EachIs (fun u (b : V × D) => RelV b.1 u) its L → Vals (L.map (·.1)) its
  | [], _, h => by cases h; exact .nil
  | b :: L, _, h => by cases h with | cons r t => exact .cons r (vals_of_each t)
theorem cr_sortDat {X : Cx} (hu : X.A.units + 65 < cLine) : CallR X (.builtin "sorted") (rSortDat X.K) := by
  intro pins s σ H vs us Q I r h
  obtain ⟨a, L, rfl, hs, hL, hal, hk, q⟩ := h
  obtain ⟨its, rv, hl, hz⟩ : ∃ its : List Value, Vals (L.map (·.1)) its ∧ IsSeq s.heap a its.toArray ∧ (L.map (·.1)).length ≤ sizeLine := by
    rcases hs with hs | hs
    · obtain ⟨its, rv, hl, hz⟩ := I.list hs
      exact ⟨its, rv, .inl hl.isList, hz⟩
    · obtain ⟨its, rv, hl, hz⟩ := I.tuple hs
      exact ⟨its, rv, .inr hl, hz⟩
  rw [Vals.ref1 r]
  have key : ∀ {Q' : Value → Shared → Prop}, (∀ out, out.length = L.length → PySem.W.EachIs (fun u (b : V × D) => RelV b.1 u) out (L.mergeSort (PySem.W.dataLe false fun b => b.2.py)) → Q' (.ref (s.heap.objs.size + 1)) { s with heap := sortedAll s.heap its (List.toArray out) }) → wpAny (model X.prog X.w) X.A (call (.builtin "sorted") [.ref a]) Q' X.xe s := by
    intro Q' hq'
    rcases hk with hk | hk
    · exact sorted_tups (R := fun u (b : V × D) => RelV b.1 u) (enc := fun b : V × D => b.2.py) hl (each_of rv fun b _ u r => r) (each_of rv fun b hb u r => Dp.reads I b.2.py b.1 u (hL b hb).1 r) hal hk (by rw [List.length_map] at hz; exact hz) (fun b hb => by have := (hL b hb).2; omega) hq'
    · exact sorted_dataT (R := fun u (b : V × D) => RelV b.1 u) (enc := fun b : V × D => b.2.py) hl (each_of rv fun b _ u r => r) (each_of rv fun b hb u r => Dp.reads I b.2.py b.1 u (hL b hb).1 r) hal (.inr hk) (by rw [List.length_map] at hz; exact hz) (fun b hb => by have := (hL b hb).2; omega) hq'
  refine key fun out h1 h2 => ?_
  obtain ⟨ep, he'⟩ := PyProof.Rows.sortedAll_at s.heap its out.toArray
  have hlen : ((L.mergeSort (PySem.W.dataLe false fun b => b.2.py)).map (·.1)).length ≤ sizeLine := by
    rw [List.length_map, List.length_mergeSort]
    rw [List.length_map] at hz
    exact hz
  exact ⟨.ref _, upd H (s.heap.objs.size + 1) (.lst ((L.mergeSort (PySem.W.dataLe false fun b => b.2.py)).map (·.1))), I.laid (t' := s.toks) (fun _ _ => PyProof.Rows.sortedAll_old) (Nat.le_succ _) ⟨hlen, out, ep, vals_of_each h2, he'⟩, rfl, q _ (I.hok.fresh (Nat.le_succ _))⟩
section
variable {K : PySem.W.Frag} {cl : CTab}
theorem zip_fst : ∀ {vs : List V} {ds : List D}, vs.length = ds.length → (vs.zip ds).map (·.1) = vs
  | [], [], _ => rfl
  | v :: vs, d :: ds, h => by simp at h; simp [zip_fst h]
theorem zip_snd : ∀ {vs : List V} {ds : List D}, vs.length = ds.length → (vs.zip ds).map (·.2) = ds
  | [], [], _ => rfl
  | v :: vs, d :: ds, h => by simp at h; simp [zip_snd h]
theorem zip_mem {Z : Zp} : ∀ {vs : List V} {ds : List D}, RepL K cl Z vs ds → ∀ b ∈ vs.zip ds, Rep K cl Z b.1 b.2 ∧ b.2 ∈ ds
  | _, _, .nil, b, h => by simp at h
  | _, _, .cons r t, b, h => by
    rcases List.mem_cons.mp h with rfl | h
    · exact ⟨r, List.mem_cons_self⟩
    · exact ⟨(zip_mem t b h).1, List.mem_cons_of_mem _ (zip_mem t b h).2⟩
theorem repL_of {Z : Zp} : ∀ {L : List (V × D)}, (∀ b ∈ L, Rep K cl Z b.1 b.2) → RepL K cl Z (L.map (·.1)) (L.map (·.2))
  | [], _ => .nil
  | b :: L, h => .cons (h b List.mem_cons_self) (repL_of fun c hc => h c (List.mem_cons_of_mem _ hc))
theorem v_sort_go {Z : Zp} {H : Hp} {aa : Addr} {vs : List V} {ds : List D} {Q : VK} (h : Sub Z.h H) (sq : SqL K H aa vs ∨ SqT K H aa vs) (c : RepL K cl Z vs ds) (hz : vs.length ≤ sizeLine) (ho : sortableD ds = true)
    (q : ∀ (v : V) (Z' : Zp) (H' : Hp), Al Z H Z' H' → Rep K cl Z' v (.lst (sortDL ds)) → Q v H') : rSortDat K [.ref aa] H Q := by
  unfold sortableD at ho
  simp only [Bool.and_eq_true] at ho
  obtain ⟨⟨o1, o2⟩, o3⟩ := ho
  have hl := c.len
  have hsnd := zip_snd hl
  have hpy : (vs.zip ds).map (fun b => b.2.py) = ds.map D.py := by
    conv => rhs; rw [← hsnd]
    rw [List.map_map]; rfl
  refine ⟨aa, vs.zip ds, rfl, ?_, fun b hb => ?_, ?_, ?_, fun p hp => ?_⟩
  · rw [zip_fst hl]; exact sq
  · obtain ⟨q1, q2⟩ := zip_mem c b hb
    have := List.all_eq_true.mp o1 b.2 q2
    obtain ⟨z1, _, _, z4⟩ := okc_shaped h this q1
    exact ⟨z1, z4⟩
  · rw [hpy]
    intro x hx y hy
    obtain ⟨x', hx', rfl⟩ := List.mem_map.mp hx
    obtain ⟨y', hy', rfl⟩ := List.mem_map.mp hy
    exact List.all_eq_true.mp (List.all_eq_true.mp o2 x' hx') y' hy'
  · rw [hpy]
    rw [Bool.or_eq_true] at o3
    rcases o3 with o3 | o3
    · refine .inl fun x hx => ?_
      obtain ⟨x', hx', rfl⟩ := List.mem_map.mp hx
      have := List.all_eq_true.mp o3 x' hx'
      unfold tupCons at this
      split at this
      · exact ⟨_, by rw [D.py]⟩
      · cases this
    · refine .inr fun x hx => ?_
      obtain ⟨x', hx', rfl⟩ := List.mem_map.mp hx
      have := List.all_eq_true.mp o3 x' hx'
      cases x' <;> first | (simp [noTup] at this; done) | (refine ⟨?_, fun xs => ?_⟩ <;> simp [D.py])
  · have eL : ((vs.zip ds).mergeSort (PySem.W.dataLe false fun b => b.2.py)).map (·.2) = sortDL ds := by
      conv => rhs; rw [← hsnd]
      unfold sortDL
      exact List.map_mergeSort (fun x _ y _ => rfl)
    have al : Al Z H (upz Z p (.lst (((vs.zip ds).mergeSort (PySem.W.dataLe false fun b => b.2.py)).map (·.1)))) (upd H p (.lst (((vs.zip ds).mergeSort (PySem.W.dataLe false fun b => b.2.py)).map (·.1)))) := .new h hp (fun _ z => nomatch z)
    refine q _ _ _ al (.lst upd_same ?_ ?_)
    · rw [List.length_map, List.length_mergeSort, List.length_zip]; omega
    · rw [← eL]
      refine RepL.mono al.zz _ (repL_of fun b hb => (zip_mem c b ?_).1)
      exact (List.mergeSort_perm _ _).mem_iff.mp hb
theorem v_sorted : CallV K cl (rSortDat K) sortedDD := by
  intro Z H xs dxs d Q h r e q
  unfold sortedDD at e
  split at e
  case h_3 => cases e
  all_goals
    split at e
    case isFalse => cases e
  all_goals
    cases e
    rename_i ds ho
    cases r with
    | cons r1 r2 =>
      cases r2
      first
      | (cases r1 with
        | slst a b c => exact v_sort_go h (.inl (SqL.sub h a)) c b ho q)
      | (cases r1 with
        | tup a b c => exact v_sort_go h (.inr (SqT.of (h _ _ a))) c b ho q)
end
end DN
namespace DN
open PySem PySem.Spec PyProof.Rows L2 RZ ND
variable {B : Sto}
@[simp] abbrev xOp (g : D → D → Option D) (f1 f2 : Env → M B D) : Env → M B D := fun ρ => M.bind (f1 ρ) fun x => M.bind (f2 ρ) fun y => lift (g x y)
@[simp] abbrev xUn (g : D → Option D) (f1 : Env → M B D) : Env → M B D := fun ρ => M.bind (f1 ρ) fun x => lift (g x)
@[simp] abbrev aN : Env → M B (List D) := fun _ => M.pure []
@[simp] abbrev aC (f : Env → M B D) (g : Env → M B (List D)) : Env → M B (List D) := fun ρ => M.bind (f ρ) fun x => M.bind (g ρ) fun xs => M.pure (x :: xs)
@[simp] abbrev xTup (f : Env → M B (List D)) : Env → M B D := fun ρ => M.bind (f ρ) fun xs => M.pure (.tup xs)
@[simp] abbrev xLst (f : Env → M B (List D)) : Env → M B D := fun ρ => M.bind (f ρ) fun xs => M.pure (.lst xs)
@[simp] abbrev tTr (f : Env → M B D) : Env → M B Bool := fun ρ => M.bind (f ρ) fun x => lift (truthD x)
@[simp] abbrev tCm (g : D → D → Option D) (f1 f2 : Env → M B D) : Env → M B Bool := fun ρ => M.bind (f1 ρ) fun x => M.bind (f2 ρ) fun y => lift ((g x y).bind D.asB)
@[simp] abbrev tNt (f : Env → M B Bool) : Env → M B Bool := fun ρ => M.bind (f ρ) fun b => M.pure (!b)
@[simp] abbrev tAn (f g : Env → M B Bool) : Env → M B Bool := fun ρ => M.bind (f ρ) fun k => if k = true then g ρ else M.pure false
@[simp] abbrev tOo (f g : Env → M B Bool) : Env → M B Bool := fun ρ => M.bind (f ρ) fun k => if k = true then M.pure true else g ρ
@[simp] abbrev xAn (f g : Env → M B D) : Env → M B D := fun ρ => M.bind (f ρ) fun x => M.bind (lift (truthD x)) fun k => if k = true then g ρ else M.pure x
@[simp] abbrev xOr (f g : Env → M B D) : Env → M B D := fun ρ => M.bind (f ρ) fun x => M.bind (lift (truthD x)) fun k => if k = true then M.pure x else g ρ
@[simp] abbrev xNt (f : Env → M B D) : Env → M B D := fun ρ => M.bind (f ρ) fun x => M.bind (lift (truthD x)) fun k => M.pure (.bl (!k))
@[simp] abbrev xIf (t : Env → M B Bool) (f g : Env → M B D) : Env → M B D := fun ρ => M.bind (t ρ) fun k => if k = true then f ρ else g ρ
@[simp] abbrev xCh (g g' : D → D → Option D) (f1 f2 f3 : Env → M B D) : Env → M B D := fun ρ => M.bind (f1 ρ) fun x => M.bind (f2 ρ) fun y => M.bind (lift ((g x y).bind D.asB)) fun k => if k = true then M.bind (f3 ρ) fun z => lift (g' y z) else M.pure (.bl false)
@[simp] abbrev tCh (g g' : D → D → Option D) (f1 f2 f3 : Env → M B D) : Env → M B Bool := fun ρ => M.bind (f1 ρ) fun x => M.bind (f2 ρ) fun y => M.bind (lift ((g x y).bind D.asB)) fun k => if k = true then M.bind (f3 ρ) fun z => lift ((g' y z).bind D.asB) else M.pure false
@[simp] abbrev xIx (f1 f2 : Env → M B D) : Env → M B D := xOp ixD f1 f2
@[simp] abbrev oN : Env → M B (Option Int) := fun _ => M.pure none
@[simp] abbrev oS (f : Env → M B D) : Env → M B (Option Int) := fun ρ => M.bind (f ρ) fun x => lift (x.asI.map some)
@[simp] abbrev xSl (f : Env → M B D) (gl gh : Env → M B (Option Int)) : Env → M B D := fun ρ => M.bind (f ρ) fun x => M.bind (gl ρ) fun l => M.bind (gh ρ) fun u => lift (slD x l u)
@[simp] abbrev xB (g : List D → Option D) (f : Env → M B (List D)) : Env → M B D := fun ρ => M.bind (f ρ) fun xs => lift (g xs)
@[simp] abbrev xCall (g : List D → M B D) (f : Env → M B (List D)) : Env → M B D := fun ρ => M.bind (f ρ) g
@[simp] abbrev iOf (g : D → Option (List D)) (f : Env → M B D) : Env → M B (List D) := fun ρ => M.bind (f ρ) fun x => lift (g x)
@[simp] abbrev iOf2 (g : D → D → Option (List D)) (f f' : Env → M B D) : Env → M B (List D) := fun ρ => M.bind (f ρ) fun x => M.bind (f' ρ) fun y => lift (g x y)
@[simp] abbrev xLc (own : List Nat) (b : D → Option Asg) (t : Env → M B Bool) (fe : Env → M B D) (src : Env → M B (List D)) : Env → M B D := fun ρ => M.bind (src ρ) fun ds => M.bind (compL (compF b t fe (wipeE ρ own)) ds) fun r => M.pure (.lst r)
theorem okK_strs {ks : List Str} {n : Str} : okK (ks.map D.str) (.inl (.inr n)) = true := by
  unfold okK
  cases ks <;> rfl
theorem putAll_s {ks : List Str} {vs : List D} {n : Str} {d : D} {r : List (D × D)} : DN.putAll (ks.map D.str) vs ((.str n, d) :: r) = DN.putAll (putKs (ks.map D.str) (.inl (.inr n))) (putVs (ks.map D.str) vs (.inl (.inr n)) d) r := by
  rw [DN.putAll]
  show (if okK (ks.map D.str) (.inl (.inr n)) = true then _ else _) = _
  rw [if_pos okK_strs]
@[simp] abbrev xDc (own : List Nat) (b : D → Option Asg) (t : Env → M B Bool) (fk fe : Env → M B D) (src : Env → M B (List D)) : Env → M B D := fun ρ => M.bind (src ρ) fun ds => M.bind (compL (compFD b t fk fe (wipeE ρ own)) ds) fun r => lift (putAll [] [] r)
@[simp] abbrev tY : Env → M B Bool := fun _ => M.pure true
@[simp] abbrev xCount (fo f : Env → M B D) : Env → M B D := fun ρ => M.bind (fo ρ) fun x => M.bind (lift (asL x)) fun ds => M.bind (f ρ) fun y => lift (countD ds y)
@[simp] abbrev xRg (c : List D → D) (f : Env → M B D) : Env → M B D := fun ρ => M.bind (f ρ) fun x => lift ((range1 x).map c)
section
variable {K : PySem.W.Frag} {cl : CTab}
@[simp] abbrev xIxM (f1 f2 : Env → M (MemS K cl) D) : Env → M (MemS K cl) D := fun ρ => M.bind (f1 ρ) fun x => M.bind (f2 ρ) fun y => match x with
      | .ref a => ixM (.ref a) y
      | _ => fun _ => .stuck
@[simp] abbrev xLenM (f : Env → M (MemS K cl) D) : Env → M (MemS K cl) D := fun ρ => M.bind (f ρ) fun x => lenM x
@[simp] abbrev xFld (c : Str) (i : Nat) (f : Env → M (MemS K cl) D) : Env → M (MemS K cl) D := fun ρ => M.bind (f ρ) (fldM c i)
@[simp] abbrev xMeth (c : Str) (f : List D → M (MemS K cl) D) (fo : Env → M (MemS K cl) D) (fa : Env → M (MemS K cl) (List D)) : Env → M (MemS K cl) D := fun ρ => M.bind (fo ρ) fun x => M.bind (insM c x) fun _ => M.bind (fa ρ) fun ds => f (x :: ds)
@[simp] abbrev xMeth0 (c : Str) (f : List D → M (MemS K cl) D) (fo : Env → M (MemS K cl) D) : Env → M (MemS K cl) D := fun ρ => M.bind (fo ρ) fun x => M.bind (insM c x) fun _ => f [x]
@[simp] abbrev xMake (c : Str) (n : Nat) (fi : List D → IR) (fa : Env → M (MemS K cl) (List D)) : Env → M (MemS K cl) D := fun ρ => M.bind (fa ρ) fun ds => mkM c n (fi ds)
@[simp] abbrev sSetM (p : D → Bool) (fo fi f : Env → M (MemS K cl) D) : SEnv → M (MemS K cl) Fl := fun ρ => M.bind (f (seeE p ρ)) fun d => M.bind (fo (seeE pHide ρ)) fun x => M.bind (fi (seeE pHide ρ)) fun y => M.bind (setM x y d) fun _ => M.pure (.nx ρ)
@[simp] abbrev sSetF (p : D → Bool) (c : Str) (i : Nat) (fo f : Env → M (MemS K cl) D) : SEnv → M (MemS K cl) Fl := fun ρ => M.bind (f (seeE p ρ)) fun d => M.bind (fo (seeE pHide ρ)) fun x => M.bind (setfM c i x d) fun _ => M.pure (.nx ρ)
end
@[simp] abbrev sPass : SEnv → M B Fl := fun ρ => M.pure (.nx ρ)
@[simp] abbrev sBrk : SEnv → M B Fl := fun ρ => M.pure (.bk ρ)
@[simp] abbrev sCnt : SEnv → M B Fl := fun ρ => M.pure (.ct ρ)
@[simp] abbrev sRet (p : D → Bool) (f : Env → M B D) : SEnv → M B Fl := fun ρ => M.bind (f (seeE p ρ)) fun d => M.pure (.rt d)
@[simp] abbrev sRetN : SEnv → M B Fl := fun _ => M.pure (.rt .non)
@[simp] abbrev sSet (i : Nat) (f : Env → M B D) : SEnv → M B Fl := fun ρ => M.bind (f (seeE pHide ρ)) fun d => M.pure (.nx (ρ.set i (.val d)))
@[simp] abbrev sAsg (a : D → Option Asg) (f : Env → M B D) : SEnv → M B Fl := fun ρ => M.bind (f (seeE pHide ρ)) fun d => M.bind (lift (a d)) fun as => M.pure (.nx (setsS ρ as))
@[simp] abbrev sAug (p q : D → Bool) (i : Nat) (g : D → D → Option D) (f : Env → M B D) : SEnv → M B Fl := fun ρ => M.bind (eVar i (seeE pHide ρ)) fun o => M.bind (f (seeE p ρ)) fun d => M.bind (lift (g o d)) fun z => guardM (q z) (M.pure (.nx (ρ.set i (.val z))))
@[simp] abbrev sEx (p : D → Bool) (f : Env → M B D) : SEnv → M B Fl := fun ρ => M.bind (f (seeE p ρ)) fun _ => M.pure (.nx ρ)
@[simp] abbrev sIf (p : D → Bool) (t : Env → M B Bool) (F G : SEnv → M B Fl) : SEnv → M B Fl := fun ρ => M.bind (t (seeE p ρ)) fun k => if k = true then F ρ else G ρ
@[simp] abbrev sFor (a : D → Option Asg) (src : Env → M B (List D)) (F : SEnv → M B Fl) : SEnv → M B Fl := fun ρ => M.bind (src (seeE pHide ρ)) fun ds => forL a F ds ρ
@[simp] abbrev sNv : SEnv → M B Fl := fun _ _ => .stuck
@[simp] abbrev yes : D → Bool := fun _ => true
section
variable {cl : CTab} {md : Bool} {W : WX} {X : Cx}
theorem de_int {i j pos} : DE cl B md W X (.Constant (.int i) j pos) (eC (.int i)) := de_c pe_int fun _ => .int _
theorem de_bl {b j pos} : DE cl B md W X (.Constant (.bool b) j pos) (eC (.bl b)) := de_c pe_bl fun _ => .bl _
theorem de_non {j pos} : DE cl B md W X (.Constant .none j pos) (eC .non) := de_c pe_non fun _ => .non
theorem de_str {x j pos} (h : x.length ≤ sizeLine := by decide) (h2 : PyData.strOk x = true := by decide +kernel) : DE cl B md W X (.Constant (.str x) j pos) (eC (.str x)) := de_c pe_str fun _ => .str h h2
structure GlC (K : PySem.W.Frag) (mg : Str → Option Value) (cl : CTab) (x : Str) (d : D) : Prop where
  ex : ∃ u v, mg x = some u ∧ RelV v u ∧ ∀ Z, Rep K cl Z v d
theorem de_gl {x : Str} {d : D} {pos : Pos} (g : GlC X.K X.mg cl x d) (hg : Gl X x) (hd : (x == ("__debug__" : Str)) = false := by decide) : DE cl B md W X (.Name x pos) (eC d) := by
  obtain ⟨u, v, h1, h2, h3⟩ := g.ex
  exact de_c (pe_glob hg h1 h2 hd) h3
theorem glInt {K : PySem.W.Frag} {mg : Str → Option Value} {x : Str} {i : Int} {t : Tok} (h : mg x = some (.int i t)) : GlC K mg cl x (.int i) := ⟨⟨_, .int i, h, ⟨t, rfl⟩, fun _ => .int _⟩⟩
theorem glStr {K : PySem.W.Frag} {mg : Str → Option Value} {x : Str} {z : Str} {t : Tok} (h : mg x = some (.str z t)) (h1 : z.length ≤ sizeLine := by decide) (h2 : PyData.strOk z = true := by decide +kernel) : GlC K mg cl x (.str z) := ⟨⟨_, .str z, h, ⟨t, rfl⟩, fun _ => .str h1 h2⟩⟩
end
end DN
namespace DN
open PySem PySem.Spec PyProof.Rows L2 RZ ND
variable {B : Sto} {α β γ : Type}
@[simp] theorem bind_pure (a : α) (f : α → M B β) : M.bind (M.pure a) f = f a := rfl
@[simp] theorem bind_some (a : α) (f : α → M B β) : M.bind (lift (some a)) f = f a := rfl
def wp (m : M B α) (R : α → B.T → Prop) (s : B.T) : Prop := match m s with
  | .ok a s' => R a s'
  | _ => False
theorem wp_pure {a : α} {R : α → B.T → Prop} {s : B.T} (h : R a s) : wp (M.pure a : M B α) R s := h
theorem wp_bind {m : M B α} {k : α → M B β} {R : β → B.T → Prop} {s : B.T} (h : wp m (fun a s' => wp (k a) R s') s) : wp (M.bind m k) R s := by
  unfold wp M.bind at *
  cases e : m s with
  | ok a s' => rw [e] at h; exact h
  | err x s' => rw [e] at h; exact h
  | stuck => rw [e] at h; exact h
theorem wp_mono {m : M B α} {R R' : α → B.T → Prop} {s : B.T} (h : wp m R s) (q : ∀ a s', R a s' → R' a s') : wp m R' s := by
  unfold wp at *
  cases e : m s with
  | ok a s' => rw [e] at h; exact q _ _ h
  | err x s' => rw [e] at h; exact h
  | stuck => rw [e] at h; exact h
theorem wp_ok {m : M B α} {R : α → B.T → Prop} {s : B.T} (h : wp m R s) : ∃ a s', m s = .ok a s' ∧ R a s' := by
  unfold wp at h
  cases e : m s with
  | ok a s' => rw [e] at h; exact ⟨a, s', rfl, h⟩
  | err x s' => rw [e] at h; exact False.elim h
  | stuck => rw [e] at h; exact False.elim h
theorem wp_of {m : M B α} {R : α → B.T → Prop} {s s' : B.T} {a : α} (h : m s = .ok a s') (q : R a s') : wp m R s := by
  unfold wp
  rw [h]
  exact q
theorem wp_noErr {m : M B α} {R : α → B.T → Prop} {s : B.T} (h : wp m R s) : wp (noErr m) R s := by
  obtain ⟨a, s', e, r⟩ := wp_ok h
  refine wp_of (a := a) (s' := s') ?_ r
  unfold noErr
  rw [e]
section
variable {K : PySem.W.Frag} {cl : CTab}
structure TF where
  t : Nat
  f : Mem
  sc : Nat
instance : CoeOut TF Nat := ⟨TF.t⟩
def tapeM (sc : Nat) (t : TF) (ns : List Int) (pos carry seed cnt : Int) : Mem := ⟨fun x => if x = t.t then some (.lst [.ref sc, .int pos, .int carry, .int seed, .int cnt]) else if x = sc then some (.lst (ns.map .int)) else t.f.m x, t.f.n⟩
def Tape (t : TF) (m : Mem) : Prop := ∃ ns pos carry seed cnt, (t.sc ≠ t.t ∧ t.sc < t.f.n ∧ t.t < t.f.n ∧ ∀ j, t.f.n ≤ j → t.f.m j = none) ∧ 0 ≤ pos ∧ m = tapeM t.sc t ns pos carry seed cnt
theorem tapeM_t {sc : Nat} {t : TF} {ns : List Int} {p c s n : Int} : (tapeM sc t ns p c s n).m t.t = some (.lst [.ref sc, .int p, .int c, .int s, .int n]) := if_pos rfl
theorem tapeM_sc {sc : Nat} {t : TF} {ns : List Int} {p c s n : Int} (h : sc ≠ t.t) : (tapeM sc t ns p c s n).m sc = some (.lst (ns.map .int)) := by
  show (if sc = t.t then _ else if sc = sc then _ else _) = _
  rw [if_neg h, if_pos rfl]
end
@[simp] theorem wp_bind_iff {m : M B α} {k : α → M B β} {R : β → B.T → Prop} {s : B.T} : wp (M.bind m k) R s ↔ wp m (fun a s' => wp (k a) R s') s := by
  unfold wp M.bind
  cases m s <;> exact Iff.rfl
@[simp] theorem wp_pure_iff {a : α} {R : α → B.T → Prop} {s : B.T} : wp (M.pure a : M B α) R s ↔ R a s := Iff.rfl
@[simp] theorem wp_lift_iff {a : α} {R : α → B.T → Prop} {s : B.T} : wp (lift (some a) : M B α) R s ↔ R a s := Iff.rfl
@[simp] theorem wp_if_iff {c : Prop} [Decidable c] {a b : M B α} {R : α → B.T → Prop} {s : B.T} : wp (if c then a else b) R s ↔ if c then wp a R s else wp b R s := by split <;> exact Iff.rfl
@[simp] theorem wp_guard_iff {m : M B α} {R : α → B.T → Prop} {s : B.T} : wp (guardM true m) R s ↔ wp m R s := Iff.rfl
section
variable {a b : Int} {x y : Bool} {p : D → Bool} {d e : D} {i : Nat} {ρ : SEnv} {ε : Env} {ds : List D}
@[simp] theorem s_gtI : gtI (.int a) (.int b) = some (.bl (decide (b < a))) := rfl
@[simp] theorem s_ltI : ltI (.int a) (.int b) = some (.bl (decide (a < b))) := rfl
@[simp] theorem s_leI : leI (.int a) (.int b) = some (.bl (decide (a ≤ b))) := rfl
@[simp] theorem s_geI : geI (.int a) (.int b) = some (.bl (decide (b ≤ a))) := rfl
@[simp] theorem s_asB : D.asB (.bl x) = some x := rfl
@[simp] theorem s_asI : D.asI (.int a) = some a := rfl
@[simp] theorem s_addI : addD (.int a) (.int b) = some (.int (a + b)) := rfl
@[simp] theorem s_iaddI : iaddD (.int a) (.int b) = some (.int (a + b)) := rfl
@[simp] theorem s_subI : subD (.int a) (.int b) = some (.int (a - b)) := rfl
@[simp] theorem s_negI : negD (.int a) = some (.int (-a)) := rfl
@[simp] theorem s_mulI : mulD (.int a) (.int b) = if (-(2 ^ 64) < a ∧ a < 2 ^ 64) ∨ (-(2 ^ 64) < b ∧ b < 2 ^ 64) then some (.int (a * b)) else none := rfl
@[simp] theorem s_modI : modD (.int a) (.int b) = if 0 < b then some (.int (a % b)) else none := rfl
@[simp] theorem s_fdivI : fdivD (.int a) (.int b) = if 0 < b ∧ b < 1073741824 then some (.int (a / b)) else none := rfl
@[simp] theorem s_shlI : shlD (.int a) (.int b) = if 0 ≤ b ∧ b ≤ 1000000 ∧ a.natAbs < 2 ^ 64 then some (.int (a * 2 ^ b.toNat)) else none := rfl
@[simp] theorem s_shrI : shrD (.int a) (.int b) = if 0 ≤ b then some (.int (a / 2 ^ b.toNat)) else none := rfl
@[simp] theorem s_andI : andD (.int a) (.int b) = some (.int (Builtin.bitAnd a b)) := rfl
@[simp] theorem s_orI : orD (.int a) (.int b) = some (.int (Builtin.bitOr a b)) := rfl
@[simp] theorem s_powI : powD (.int a) (.int b) = if 0 ≤ b ∧ b ≤ 1000000 ∧ a.natAbs < 2 ^ 64 then some (.int (a ^ b.toNat)) else none := rfl
@[simp] theorem s_trN : truthD .non = some false := rfl
@[simp] theorem s_trB : truthD (.bl x) = some x := rfl
@[simp] theorem s_trI : truthD (.int a) = some (a != 0) := rfl
@[simp] theorem s_trT : truthD (.tup ds) = some (!ds.isEmpty) := rfl
@[simp] theorem s_trL : truthD (.lst ds) = some (!ds.isEmpty) := rfl
@[simp] theorem s_int : intD [.int a] = some (.int a) := rfl
@[simp] theorem s_lenT : lenD [.tup ds] = some (.int ds.length) := rfl
@[simp] theorem s_lenL : lenD [.lst ds] = some (.int ds.length) := rfl
@[simp] theorem s_lenS {z : Str} : lenD [.str z] = some (.int z.length) := rfl
@[simp] theorem s_tupT : tupleD [.tup ds] = some (.tup ds) := rfl
@[simp] theorem s_tupL : tupleD [.lst ds] = some (.tup ds) := rfl
@[simp] theorem s_lstT : listD [.tup ds] = some (.lst ds) := rfl
@[simp] theorem s_lstL : listD [.lst ds] = some (.lst ds) := rfl
@[simp] theorem s_aName : aName i d = some [(i, d)] := rfl
@[simp] theorem s_setsS0 : setsS ρ [] = ρ := rfl
@[simp] theorem s_setsS1 {as : Asg} : setsS ρ ((i, d) :: as) = setsS (ρ.set i (.val d)) as := rfl
@[simp] theorem s_setsE0 : setsE ε [] = ε := rfl
@[simp] theorem s_setsE1 {as : Asg} : setsE ε ((i, d) :: as) = setsE (ε.set i (some d)) as := rfl
@[simp] theorem s_see0 : seeE p [] = [] := rfl
@[simp] theorem s_seeV : seeE p (.val d :: ρ) = some d :: seeE p ρ := rfl
@[simp] theorem s_seeN : seeE p (.no :: ρ) = none :: seeE p ρ := rfl
@[simp] theorem s_seeO : seeE pHide (.own d :: ρ) = none :: seeE pHide ρ := rfl
@[simp] theorem s_eVar {ε : Env} : (eVar i : Env → M B D) ε = lift ((ε[i]?).bind id) := rfl
@[simp] theorem s_eC {ε : Env} : (eC d : Env → M B D) ε = M.pure d := rfl
@[simp] theorem s_seq {F G : SEnv → M B Fl} : seqF F G ρ = M.bind (F ρ) fun fl => match fl with
  | .nx ρ' => G ρ'
  | o => M.pure o := rfl
@[simp] theorem s_ret1 : (retF (.rt d) : M B D) = M.pure d := rfl
@[simp] theorem s_ret2 : (retF (.nx ρ) : M B D) = M.pure .non := rfl
@[simp] theorem s_isN : isN d .non = some (.bl d.isNon) := rfl
@[simp] theorem s_isNotN : isNotN d .non = some (.bl (!d.isNon)) := rfl
@[simp] theorem s_non1 : D.isNon .non = true := rfl
@[simp] theorem s_non2 : D.isNon (.int a) = false := rfl
@[simp] theorem s_non3 : D.isNon (.tup ds) = false := rfl
@[simp] theorem s_non4 : D.isNon (.bl x) = false := rfl
@[simp] theorem s_isBl : isBl (.bl x) (.bl y) = some (.bl (decide (x = y))) := rfl
@[simp] theorem s_isNotBl : isNotBl (.bl x) (.bl y) = some (.bl (!decide (x = y))) := rfl
@[simp] theorem s_aNil : aNil [] = some [] := rfl
@[simp] theorem s_aCons {a0 : D → Option Asg} {b0 : List D → Option Asg} : aCons a0 b0 (d :: ds) = (a0 d).bind fun x => (b0 ds).map fun y => x ++ y := rfl
@[simp] theorem s_aTup {b0 : List D → Option Asg} : aTup b0 (.tup ds) = b0 ds := rfl
end
end DN
namespace DN
open PySem PySem.Spec PyProof.Rows L2 RZ ND
def spLaw (K : PySem.W.Frag) : Sp := fun vs H Q _ => ∃ (a : Addr) (ns : List Int), vs = [.ref a] ∧ SqL K H a (ns.map V.int) ∧ ns.length ≤ 63 ∧ ∀ H', Q (.bl true) H'
theorem spLaw_len {K : PySem.W.Frag} : ∀ vs H Q E, spLaw K vs H Q E → vs.length = ["_law_script"].length := by
  rintro vs H Q E ⟨a, ns, rfl, _⟩
  rfl
theorem repL_num {K : PySem.W.Frag} {cl : CTab} {Z : Zp} : ∀ ns : List Int, RepL K cl Z (ns.map V.int) (ns.map D.int)
  | [] => .nil
  | n :: ns => .cons (.int n) (repL_num ns)
end DN
namespace DN
open PySem PySem.Spec PyProof.Rows L2 RZ ND
variable {B : Sto} {α β γ : Type}
section
variable {a b : Int} {x y : Bool} {u v : Str} {d e : D} {i : Nat} {ds es ks vs : List D} {c : Str} {ad : Addr}
theorem beq_dec {α : Type} [BEq α] [LawfulBEq α] [DecidableEq α] {a b : α} : (a == b) = decide (a = b) := by
  by_cases h : a = b <;> simp [h]
theorem okc_int : D.okc (.int a) = true := by simp [D.okc, D.plain, D.py, PyData.depth]
theorem okc_bl : D.okc (.bl x) = true := by simp [D.okc, D.plain, D.py, PyData.depth]
theorem okc_str : D.okc (.str u) = true := by simp [D.okc, D.plain, D.py, PyData.depth]
@[simp] theorem s_eqI : eqD (.int a) (.int b) = some (.bl (decide (a = b))) := by
  unfold eqD; rw [okc_int, okc_int]; simp only [D.py, PyData.eqv, Bool.and_self, if_true]; congr 2
@[simp] theorem s_eqB : eqD (.bl x) (.bl y) = some (.bl (decide (x = y))) := by
  unfold eqD; rw [okc_bl, okc_bl]; cases x <;> cases y <;> simp [D.py, PyData.eqv]
@[simp] theorem s_eqS : eqD (.str u) (.str v) = some (.bl (decide (u = v))) := by
  unfold eqD; rw [okc_str, okc_str]; simp only [D.py, PyData.eqv, Bool.and_self, if_true]; congr 2
@[simp] theorem s_neI : neD (.int a) (.int b) = some (.bl (!decide (a = b))) := by
  unfold neD; rw [okc_int, okc_int]; simp only [D.py, PyData.eqv, Bool.and_self, if_true]; congr 3
@[simp] theorem s_neB : neD (.bl x) (.bl y) = some (.bl (!decide (x = y))) := by
  unfold neD; rw [okc_bl, okc_bl]; cases x <;> cases y <;> simp [D.py, PyData.eqv]
@[simp] theorem s_neS : neD (.str u) (.str v) = some (.bl (!decide (u = v))) := by
  unfold neD; rw [okc_str, okc_str]; simp only [D.py, PyData.eqv, Bool.and_self, if_true]; congr 3
theorem k_NoneType_int : kitB "NoneType" "int" = some false := by with_unfolding_all rfl
@[simp] theorem s_is_int_N : isD "int" .non = some (.bl false) := by show (kitB "NoneType" "int").map D.bl = _; rw [k_NoneType_int]; rfl
theorem k_bool_int : kitB "bool" "int" = some true := by with_unfolding_all rfl
@[simp] theorem s_is_int_B : isD "int" (.bl x) = some (.bl true) := by show (kitB "bool" "int").map D.bl = _; rw [k_bool_int]; rfl
theorem k_int_int : kitB "int" "int" = some true := by with_unfolding_all rfl
@[simp] theorem s_is_int_I : isD "int" (.int a) = some (.bl true) := by show (kitB "int" "int").map D.bl = _; rw [k_int_int]; rfl
theorem k_str_int : kitB "str" "int" = some false := by with_unfolding_all rfl
@[simp] theorem s_is_int_S : isD "int" (.str u) = some (.bl false) := by show (kitB "str" "int").map D.bl = _; rw [k_str_int]; rfl
theorem k_tuple_int : kitB "tuple" "int" = some false := by with_unfolding_all rfl
@[simp] theorem s_is_int_T : isD "int" (.tup ds) = some (.bl false) := by show (kitB "tuple" "int").map D.bl = _; rw [k_tuple_int]; rfl
theorem k_list_int : kitB "list" "int" = some false := by with_unfolding_all rfl
@[simp] theorem s_is_int_L : isD "int" (.lst ds) = some (.bl false) := by show (kitB "list" "int").map D.bl = _; rw [k_list_int]; rfl
theorem k_dict_int : kitB "dict" "int" = some false := by with_unfolding_all rfl
@[simp] theorem s_is_int_D : isD "int" (.dct ks ds) = some (.bl false) := by show (kitB "dict" "int").map D.bl = _; rw [k_dict_int]; rfl
theorem k_NoneType_bool : kitB "NoneType" "bool" = some false := by with_unfolding_all rfl
@[simp] theorem s_is_bool_N : isD "bool" .non = some (.bl false) := by show (kitB "NoneType" "bool").map D.bl = _; rw [k_NoneType_bool]; rfl
theorem k_bool_bool : kitB "bool" "bool" = some true := by with_unfolding_all rfl
@[simp] theorem s_is_bool_B : isD "bool" (.bl x) = some (.bl true) := by show (kitB "bool" "bool").map D.bl = _; rw [k_bool_bool]; rfl
theorem k_int_bool : kitB "int" "bool" = some false := by with_unfolding_all rfl
@[simp] theorem s_is_bool_I : isD "bool" (.int a) = some (.bl false) := by show (kitB "int" "bool").map D.bl = _; rw [k_int_bool]; rfl
theorem k_str_bool : kitB "str" "bool" = some false := by with_unfolding_all rfl
@[simp] theorem s_is_bool_S : isD "bool" (.str u) = some (.bl false) := by show (kitB "str" "bool").map D.bl = _; rw [k_str_bool]; rfl
theorem k_tuple_bool : kitB "tuple" "bool" = some false := by with_unfolding_all rfl
@[simp] theorem s_is_bool_T : isD "bool" (.tup ds) = some (.bl false) := by show (kitB "tuple" "bool").map D.bl = _; rw [k_tuple_bool]; rfl
theorem k_list_bool : kitB "list" "bool" = some false := by with_unfolding_all rfl
@[simp] theorem s_is_bool_L : isD "bool" (.lst ds) = some (.bl false) := by show (kitB "list" "bool").map D.bl = _; rw [k_list_bool]; rfl
theorem k_dict_bool : kitB "dict" "bool" = some false := by with_unfolding_all rfl
@[simp] theorem s_is_bool_D : isD "bool" (.dct ks ds) = some (.bl false) := by show (kitB "dict" "bool").map D.bl = _; rw [k_dict_bool]; rfl
theorem k_NoneType_str : kitB "NoneType" "str" = some false := by with_unfolding_all rfl
@[simp] theorem s_is_str_N : isD "str" .non = some (.bl false) := by show (kitB "NoneType" "str").map D.bl = _; rw [k_NoneType_str]; rfl
theorem k_bool_str : kitB "bool" "str" = some false := by with_unfolding_all rfl
@[simp] theorem s_is_str_B : isD "str" (.bl x) = some (.bl false) := by show (kitB "bool" "str").map D.bl = _; rw [k_bool_str]; rfl
theorem k_int_str : kitB "int" "str" = some false := by with_unfolding_all rfl
@[simp] theorem s_is_str_I : isD "str" (.int a) = some (.bl false) := by show (kitB "int" "str").map D.bl = _; rw [k_int_str]; rfl
theorem k_str_str : kitB "str" "str" = some true := by with_unfolding_all rfl
@[simp] theorem s_is_str_S : isD "str" (.str u) = some (.bl true) := by show (kitB "str" "str").map D.bl = _; rw [k_str_str]; rfl
theorem k_tuple_str : kitB "tuple" "str" = some false := by with_unfolding_all rfl
@[simp] theorem s_is_str_T : isD "str" (.tup ds) = some (.bl false) := by show (kitB "tuple" "str").map D.bl = _; rw [k_tuple_str]; rfl
theorem k_list_str : kitB "list" "str" = some false := by with_unfolding_all rfl
@[simp] theorem s_is_str_L : isD "str" (.lst ds) = some (.bl false) := by show (kitB "list" "str").map D.bl = _; rw [k_list_str]; rfl
theorem k_dict_str : kitB "dict" "str" = some false := by with_unfolding_all rfl
@[simp] theorem s_is_str_D : isD "str" (.dct ks ds) = some (.bl false) := by show (kitB "dict" "str").map D.bl = _; rw [k_dict_str]; rfl
theorem k_NoneType_tuple : kitB "NoneType" "tuple" = some false := by with_unfolding_all rfl
@[simp] theorem s_is_tuple_N : isD "tuple" .non = some (.bl false) := by show (kitB "NoneType" "tuple").map D.bl = _; rw [k_NoneType_tuple]; rfl
theorem k_bool_tuple : kitB "bool" "tuple" = some false := by with_unfolding_all rfl
@[simp] theorem s_is_tuple_B : isD "tuple" (.bl x) = some (.bl false) := by show (kitB "bool" "tuple").map D.bl = _; rw [k_bool_tuple]; rfl
theorem k_int_tuple : kitB "int" "tuple" = some false := by with_unfolding_all rfl
@[simp] theorem s_is_tuple_I : isD "tuple" (.int a) = some (.bl false) := by show (kitB "int" "tuple").map D.bl = _; rw [k_int_tuple]; rfl
theorem k_str_tuple : kitB "str" "tuple" = some false := by with_unfolding_all rfl
@[simp] theorem s_is_tuple_S : isD "tuple" (.str u) = some (.bl false) := by show (kitB "str" "tuple").map D.bl = _; rw [k_str_tuple]; rfl
theorem k_tuple_tuple : kitB "tuple" "tuple" = some true := by with_unfolding_all rfl
@[simp] theorem s_is_tuple_T : isD "tuple" (.tup ds) = some (.bl true) := by show (kitB "tuple" "tuple").map D.bl = _; rw [k_tuple_tuple]; rfl
theorem k_list_tuple : kitB "list" "tuple" = some false := by with_unfolding_all rfl
@[simp] theorem s_is_tuple_L : isD "tuple" (.lst ds) = some (.bl false) := by show (kitB "list" "tuple").map D.bl = _; rw [k_list_tuple]; rfl
theorem k_dict_tuple : kitB "dict" "tuple" = some false := by with_unfolding_all rfl
@[simp] theorem s_is_tuple_D : isD "tuple" (.dct ks ds) = some (.bl false) := by show (kitB "dict" "tuple").map D.bl = _; rw [k_dict_tuple]; rfl
theorem k_NoneType_list : kitB "NoneType" "list" = some false := by with_unfolding_all rfl
@[simp] theorem s_is_list_N : isD "list" .non = some (.bl false) := by show (kitB "NoneType" "list").map D.bl = _; rw [k_NoneType_list]; rfl
theorem k_bool_list : kitB "bool" "list" = some false := by with_unfolding_all rfl
@[simp] theorem s_is_list_B : isD "list" (.bl x) = some (.bl false) := by show (kitB "bool" "list").map D.bl = _; rw [k_bool_list]; rfl
theorem k_int_list : kitB "int" "list" = some false := by with_unfolding_all rfl
@[simp] theorem s_is_list_I : isD "list" (.int a) = some (.bl false) := by show (kitB "int" "list").map D.bl = _; rw [k_int_list]; rfl
theorem k_str_list : kitB "str" "list" = some false := by with_unfolding_all rfl
@[simp] theorem s_is_list_S : isD "list" (.str u) = some (.bl false) := by show (kitB "str" "list").map D.bl = _; rw [k_str_list]; rfl
theorem k_tuple_list : kitB "tuple" "list" = some false := by with_unfolding_all rfl
@[simp] theorem s_is_list_T : isD "list" (.tup ds) = some (.bl false) := by show (kitB "tuple" "list").map D.bl = _; rw [k_tuple_list]; rfl
theorem k_list_list : kitB "list" "list" = some true := by with_unfolding_all rfl
@[simp] theorem s_is_list_L : isD "list" (.lst ds) = some (.bl true) := by show (kitB "list" "list").map D.bl = _; rw [k_list_list]; rfl
theorem k_dict_list : kitB "dict" "list" = some false := by with_unfolding_all rfl
@[simp] theorem s_is_list_D : isD "list" (.dct ks ds) = some (.bl false) := by show (kitB "dict" "list").map D.bl = _; rw [k_dict_list]; rfl
theorem k_NoneType_dict : kitB "NoneType" "dict" = some false := by with_unfolding_all rfl
@[simp] theorem s_is_dict_N : isD "dict" .non = some (.bl false) := by show (kitB "NoneType" "dict").map D.bl = _; rw [k_NoneType_dict]; rfl
theorem k_bool_dict : kitB "bool" "dict" = some false := by with_unfolding_all rfl
@[simp] theorem s_is_dict_B : isD "dict" (.bl x) = some (.bl false) := by show (kitB "bool" "dict").map D.bl = _; rw [k_bool_dict]; rfl
theorem k_int_dict : kitB "int" "dict" = some false := by with_unfolding_all rfl
@[simp] theorem s_is_dict_I : isD "dict" (.int a) = some (.bl false) := by show (kitB "int" "dict").map D.bl = _; rw [k_int_dict]; rfl
theorem k_str_dict : kitB "str" "dict" = some false := by with_unfolding_all rfl
@[simp] theorem s_is_dict_S : isD "dict" (.str u) = some (.bl false) := by show (kitB "str" "dict").map D.bl = _; rw [k_str_dict]; rfl
theorem k_tuple_dict : kitB "tuple" "dict" = some false := by with_unfolding_all rfl
@[simp] theorem s_is_dict_T : isD "dict" (.tup ds) = some (.bl false) := by show (kitB "tuple" "dict").map D.bl = _; rw [k_tuple_dict]; rfl
theorem k_list_dict : kitB "list" "dict" = some false := by with_unfolding_all rfl
@[simp] theorem s_is_dict_L : isD "dict" (.lst ds) = some (.bl false) := by show (kitB "list" "dict").map D.bl = _; rw [k_list_dict]; rfl
theorem k_dict_dict : kitB "dict" "dict" = some true := by with_unfolding_all rfl
@[simp] theorem s_is_dict_D : isD "dict" (.dct ks ds) = some (.bl true) := by show (kitB "dict" "dict").map D.bl = _; rw [k_dict_dict]; rfl
@[simp] theorem s_anyT : anyI (.tup ds) = some ds := rfl
@[simp] theorem s_anyL : anyI (.lst ds) = some ds := rfl
theorem pyL_map : ∀ {ds : List D}, D.pyL ds = ds.map D.py
  | [] => rfl
  | d :: ds => by rw [D.pyL, pyL_map, List.map_cons]
@[simp] theorem bools_map {f : α → Bool} : ∀ {as : List α}, bools (as.map fun a => .bl (f a)) = some (as.map f)
  | [] => rfl
  | a :: as => by simp [bools, bools_map]
@[simp] theorem allD_map {f : α → Bool} {as : List α} : allD [.lst (as.map fun a => .bl (f a))] = some (.bl (as.all f)) := by
  simp [allD]
@[simp] theorem anyD_map {f : α → Bool} {as : List α} : anyD [.lst (as.map fun a => .bl (f a))] = some (.bl (as.any f)) := by
  simp [anyD]
end
theorem eq_of_wp {m : M B α} {v : α} {s : B.T} (h : wp m (fun a s' => a = v ∧ s' = s) s) : m s = .ok v s := by
  obtain ⟨a, s', e, rfl, rfl⟩ := wp_ok h
  exact e
theorem pure_of_wp {m : M B α} {v : α} (h : ∀ s, wp m (fun a s' => a = v ∧ s' = s) s) : m = M.pure v := funext fun s => eq_of_wp (h s)
@[simp] theorem noErr_pure {a : α} : (noErr (M.pure a) : M B α) = M.pure a := rfl
@[simp] theorem if_pure {c : Prop} [Decidable c] {a b : α} : (if c then M.pure a else M.pure b : M B α) = M.pure (if c then a else b) := by split <;> rfl
theorem compL_pure {f : α → M B (Option β)} {g : α → Option β} : ∀ {ds : List α}, (∀ d ∈ ds, f d = M.pure (g d)) → compL f ds = M.pure (ds.filterMap g)
  | [], _ => rfl
  | d :: ds, h => by
    unfold compL
    rw [h d List.mem_cons_self, bind_pure, compL_pure (fun d hd => h d (List.mem_cons_of_mem _ hd)), bind_pure]
    cases e : g d <;> simp [consO, List.filterMap_cons, e]
theorem compL_map {f : β → M B (Option γ)} {g : α → β} {k : α → γ} {as : List α} (h : ∀ a ∈ as, f (g a) = M.pure (some (k a))) : compL f (as.map g) = M.pure (as.map k) := by
  have : ∀ d ∈ as, (fun a => f (g a)) d = M.pure ((fun a => some (k a)) d) := h
  have q := compL_pure this
  rw [show as.filterMap (fun a => some (k a)) = as.map k from by simp] at q
  rw [← q]
  clear q this h
  induction as with
  | nil => rfl
  | cons a as ih => simp only [List.map_cons, compL, ih]
theorem wp_forI {a : D → Option Asg} {F : SEnv → M B Fl} {R : Fl → B.T → Prop} (I : List D → SEnv → B.T → Prop) : ∀ {ds : List D} {ρ : SEnv} {s : B.T}, I ds ρ s →
    (∀ d r ρ s, I (d :: r) ρ s → ∃ as, a d = some as ∧ wp (F (setsS ρ as)) (fun fl s' => match fl with
      | .nx ρ' => I r ρ' s'
      | .ct ρ' => I r ρ' s'
      | .bk ρ' => R (.nx ρ') s'
      | .rt d => R (.rt d) s'
      | .ro d => R (.ro d) s') s) → (∀ ρ' s', I [] ρ' s' → R (.nx ρ') s') → wp (forL a F ds ρ) R s
  | [], ρ, s, hi, hf, hr => hr ρ s hi
  | d :: ds, ρ, s, hi, hf, hr => by
    obtain ⟨as, ha, hw⟩ := hf d ds ρ s hi
    unfold forL
    rw [ha, bind_some]
    refine wp_bind (wp_mono hw fun fl s1 h => ?_)
    cases fl with
    | nx ρ' => exact wp_forI I h hf hr
    | ct ρ' => exact wp_forI I h hf hr
    | bk ρ' => exact h
    | rt d => exact h
    | ro d => exact h
@[simp] theorem s_ixT0 {d : D} {ds : List D} : ixD (.tup (d :: ds)) (.int 0) = some d := by
  have : (0 : Int) < ds.length + 1 := by omega
  simp [ixD, atI, ixN, this]
@[simp] theorem s_ixT1 {d e : D} {ds : List D} : ixD (.tup (d :: e :: ds)) (.int 1) = some e := by
  have : (1 : Int) < ds.length + 1 + 1 := by omega
  simp [ixD, atI, ixN, this]
@[simp] theorem s_ixT2 {d e f : D} {ds : List D} : ixD (.tup (d :: e :: f :: ds)) (.int 2) = some f := by
  have : (2 : Int) < ds.length + 1 + 1 + 1 := by omega
  simp [ixD, atI, ixN, this]
@[simp] theorem s_ixTm {d : D} : ixD (.tup [d]) (.int (-1)) = some d := by simp [ixD, atI, ixN]
@[simp] theorem s_ixTm2 {d e : D} : ixD (.tup [d, e]) (.int (-1)) = some e := by simp [ixD, atI, ixN]
@[simp] theorem s_ixTm3 {d e f : D} : ixD (.tup [d, e, f]) (.int (-1)) = some f := by simp [ixD, atI, ixN]
@[simp] theorem compF_eq {a : D → Option Asg} {t : Env → M B Bool} {e : Env → M B D} {ρ : Env} {d : D} :
    compF a t e ρ d = noErr (M.bind (lift ((a d).map (setsE ρ))) fun ρ' => M.bind (t ρ') fun k => if k = true then M.bind (e ρ') fun x => M.pure (some x) else M.pure none) := rfl
@[simp] theorem s_runF {m : Nat} {F : SEnv → M B Fl} {ds : List D} : runF m F ds = M.bind (F (startE m ds)) retF := rfl
@[simp] theorem lift_some' {a : α} : (lift (some a) : M B α) = M.pure a := rfl
theorem wp_compLx {f : α → M B (Option γ)} (Inv : B.T → Prop) (P : β → Prop) (g : β → γ) : ∀ {ds : List α} {R : List γ → B.T → Prop} {s : B.T}, Inv s → (∀ d ∈ ds, ∀ s, Inv s → wp (f d) (fun o s' => Inv s' ∧ ∃ b, P b ∧ o = some (g b)) s) →
    (∀ (bs : List β) s', Inv s' → bs.length = ds.length → (∀ b ∈ bs, P b) → R (bs.map g) s') → wp (compL f ds) R s
  | [], R, s, hi, hf, hr => hr [] s hi rfl (fun b h => nomatch h)
  | d :: ds, R, s, hi, hf, hr => by
    unfold compL
    refine wp_bind (wp_mono (hf d List.mem_cons_self s hi) fun o s1 ⟨i1, b, pb, eb⟩ => ?_)
    refine wp_bind (wp_compLx Inv P g (ds := ds) i1 (fun d' hd => hf d' (List.mem_cons_of_mem _ hd)) fun bs s2 i2 l2 q2 => ?_)
    subst eb
    refine wp_pure ?_
    exact hr (b :: bs) s2 i2 (by simp [l2]) (fun x hx => by
      rcases List.mem_cons.mp hx with rfl | h
      · exact pb
      · exact q2 x h)
def maskN (l : List Nat) : Nat := l.foldl (fun m b => m ||| 2 ^ b) 0
theorem mask_fold : ∀ (l : List Nat) (m i : Nat), (l.foldl (fun m b => m ||| 2 ^ b) m).testBit i = (m.testBit i || decide (i ∈ l))
  | [], m, i => by simp
  | b :: l, m, i => by
    rw [List.foldl_cons, mask_fold l, Nat.testBit_or, Nat.testBit_two_pow]
    by_cases h : i = b
    · subst h; simp
    · have h' : ¬ b = i := fun z => h z.symm
      simp [h, h']
theorem mask_bit (l : List Nat) (i : Nat) : (maskN l).testBit i = decide (i ∈ l) := by
  unfold maskN
  rw [mask_fold]; simp
@[simp] theorem asB_bl {b : Bool} : (some (D.bl b)).bind D.asB = some b := rfl
@[simp] theorem anyI_tup {ds : List D} : anyI (.tup ds) = some ds := rfl
@[simp] theorem zipI_tup {xs ys : List D} : zipI (.tup xs) (.tup ys) = some (zipL xs ys) := rfl
@[simp] theorem ltDT_int {a b : Int} : ltDT (.int a) (.int b) = some (.bl (decide (a < b))) := by
  unfold ltDT
  rw [okc_int, okc_int]
  have h1 : PySem.W.alike (D.int a).py (D.int b).py = true := by
    have := PySem.W.alike_ints [a] [b]
    simpa [PySem.W.alikeAll, D.py] using this
  rw [h1]
  simp only [D.isNon, D.py, Bool.and_self, Bool.not_false, if_true]
  rw [PySem.W.dataLt_int]
@[simp] theorem map_some {a : α} {f : α → β} : Option.map f (some a) = some (f a) := rfl
theorem char_inj : ∀ x y : Char, x.toNat = y.toNat → x = y := fun x y h => by
  apply Char.ext
  apply UInt32.toNat_inj.mp
  exact h
@[simp] theorem ofString_inj {a b : String} : Str.ofString a = Str.ofString b ↔ a = b := by
  rw [Str.ofString_eq_toList, Str.ofString_eq_toList]
  constructor
  · intro h
    have h1 : a.toList.map Char.toNat = b.toList.map Char.toNat := by simpa using h
    have h2 : a.toList = b.toList := (List.map_inj_right char_inj).mp h1
    exact String.toList_inj.mp h2
  · rintro rfl; rfl
theorem okc_strs {ds : List D} (h : ∀ d ∈ ds, ∃ x, d = .str x) : (D.lst ds).okc = true := by
  have h1 : ∀ ds : List D, (∀ d ∈ ds, ∃ x, d = .str x) → D.plainL ds = true ∧ PyData.depthAll (D.pyL ds) = 0 := by
    intro ds
    induction ds with
    | nil => intro _; exact ⟨rfl, rfl⟩
    | cons d ds ih =>
      intro h
      obtain ⟨x, rfl⟩ := h d List.mem_cons_self
      obtain ⟨a, b⟩ := ih fun e he => h e (List.mem_cons_of_mem _ he)
      exact ⟨by simp [D.plainL, D.plain, a], by rw [D.pyL, PyData.depthAll, b]; rfl⟩
  obtain ⟨a, b⟩ := h1 ds h
  unfold D.okc
  rw [show (D.lst ds).plain = true from a, D.py, PyData.depth, b]
  rfl
theorem okc_nums {ds : List D} (h : ∀ d ∈ ds, ∃ x, d = .int x) : (D.lst ds).okc = true := by
  have h1 : ∀ ds : List D, (∀ d ∈ ds, ∃ x, d = .int x) → D.plainL ds = true ∧ PyData.depthAll (D.pyL ds) = 0 := by
    intro ds
    induction ds with
    | nil => intro _; exact ⟨rfl, rfl⟩
    | cons d ds ih =>
      intro h
      obtain ⟨x, rfl⟩ := h d List.mem_cons_self
      obtain ⟨a, b⟩ := ih fun e he => h e (List.mem_cons_of_mem _ he)
      exact ⟨by simp [D.plainL, D.plain, a], by rw [D.pyL, PyData.depthAll, b]; rfl⟩
  obtain ⟨a, b⟩ := h1 ds h
  unfold D.okc
  rw [show (D.lst ds).plain = true from a, D.py, PyData.depth, b]
  rfl
theorem inSeqS1 {a z : Str} : inSeq (.str z) [.str a] = some (decide (a = z)) := by
  unfold inSeq
  rw [okc_str, okc_strs (by simp)]
  simp [D.pyL, D.py, PyData.eqv, beq_dec, Bool.or_assoc]
@[simp] theorem s_inS1 {a z : Str} : inD (.str z) (.tup [.str a]) = some (.bl (decide (a = z))) := by
  show (inSeq (.str z) [.str a]).map D.bl = _
  rw [inSeqS1]; rfl
@[simp] theorem s_notInS1 {a z : Str} : notInD (.str z) (.tup [.str a]) = some (.bl (!(decide (a = z)))) := by
  show (inSeq (.str z) [.str a]).map (fun b => D.bl (!b)) = _
  rw [inSeqS1]; rfl
theorem inSeqS2 {a b z : Str} : inSeq (.str z) [.str a, .str b] = some (decide (a = z) || decide (b = z)) := by
  unfold inSeq
  rw [okc_str, okc_strs (by simp)]
  simp [D.pyL, D.py, PyData.eqv, beq_dec, Bool.or_assoc]
@[simp] theorem s_inS2 {a b z : Str} : inD (.str z) (.tup [.str a, .str b]) = some (.bl (decide (a = z) || decide (b = z))) := by
  show (inSeq (.str z) [.str a, .str b]).map D.bl = _
  rw [inSeqS2]; rfl
@[simp] theorem s_notInS2 {a b z : Str} : notInD (.str z) (.tup [.str a, .str b]) = some (.bl (!(decide (a = z) || decide (b = z)))) := by
  show (inSeq (.str z) [.str a, .str b]).map (fun b => D.bl (!b)) = _
  rw [inSeqS2]; rfl
theorem inSeqS3 {a b c z : Str} : inSeq (.str z) [.str a, .str b, .str c] = some (decide (a = z) || decide (b = z) || decide (c = z)) := by
  unfold inSeq
  rw [okc_str, okc_strs (by simp)]
  simp [D.pyL, D.py, PyData.eqv, beq_dec, Bool.or_assoc]
@[simp] theorem s_inS3 {a b c z : Str} : inD (.str z) (.tup [.str a, .str b, .str c]) = some (.bl (decide (a = z) || decide (b = z) || decide (c = z))) := by
  show (inSeq (.str z) [.str a, .str b, .str c]).map D.bl = _
  rw [inSeqS3]; rfl
@[simp] theorem s_notInS3 {a b c z : Str} : notInD (.str z) (.tup [.str a, .str b, .str c]) = some (.bl (!(decide (a = z) || decide (b = z) || decide (c = z)))) := by
  show (inSeq (.str z) [.str a, .str b, .str c]).map (fun b => D.bl (!b)) = _
  rw [inSeqS3]; rfl
theorem inSeqS4 {a b c d z : Str} : inSeq (.str z) [.str a, .str b, .str c, .str d] = some (decide (a = z) || decide (b = z) || decide (c = z) || decide (d = z)) := by
  unfold inSeq
  rw [okc_str, okc_strs (by simp)]
  simp [D.pyL, D.py, PyData.eqv, beq_dec, Bool.or_assoc]
@[simp] theorem s_inS4 {a b c d z : Str} : inD (.str z) (.tup [.str a, .str b, .str c, .str d]) = some (.bl (decide (a = z) || decide (b = z) || decide (c = z) || decide (d = z))) := by
  show (inSeq (.str z) [.str a, .str b, .str c, .str d]).map D.bl = _
  rw [inSeqS4]; rfl
@[simp] theorem s_notInS4 {a b c d z : Str} : notInD (.str z) (.tup [.str a, .str b, .str c, .str d]) = some (.bl (!(decide (a = z) || decide (b = z) || decide (c = z) || decide (d = z)))) := by
  show (inSeq (.str z) [.str a, .str b, .str c, .str d]).map (fun b => D.bl (!b)) = _
  rw [inSeqS4]; rfl
theorem inSeqS5 {a b c d e z : Str} : inSeq (.str z) [.str a, .str b, .str c, .str d, .str e] = some (decide (a = z) || decide (b = z) || decide (c = z) || decide (d = z) || decide (e = z)) := by
  unfold inSeq
  rw [okc_str, okc_strs (by simp)]
  simp [D.pyL, D.py, PyData.eqv, beq_dec, Bool.or_assoc]
@[simp] theorem s_inS5 {a b c d e z : Str} : inD (.str z) (.tup [.str a, .str b, .str c, .str d, .str e]) = some (.bl (decide (a = z) || decide (b = z) || decide (c = z) || decide (d = z) || decide (e = z))) := by
  show (inSeq (.str z) [.str a, .str b, .str c, .str d, .str e]).map D.bl = _
  rw [inSeqS5]; rfl
@[simp] theorem s_notInS5 {a b c d e z : Str} : notInD (.str z) (.tup [.str a, .str b, .str c, .str d, .str e]) = some (.bl (!(decide (a = z) || decide (b = z) || decide (c = z) || decide (d = z) || decide (e = z)))) := by
  show (inSeq (.str z) [.str a, .str b, .str c, .str d, .str e]).map (fun b => D.bl (!b)) = _
  rw [inSeqS5]; rfl
theorem inSeqI1 {a z : Int} : inSeq (.int z) [.int a] = some (decide (a = z)) := by
  unfold inSeq
  rw [okc_int, okc_nums (by simp)]
  simp [D.pyL, D.py, PyData.eqv, beq_dec, Bool.or_assoc]
@[simp] theorem s_inI1 {a z : Int} : inD (.int z) (.tup [.int a]) = some (.bl (decide (a = z))) := by
  show (inSeq (.int z) [.int a]).map D.bl = _
  rw [inSeqI1]; rfl
@[simp] theorem s_notInI1 {a z : Int} : notInD (.int z) (.tup [.int a]) = some (.bl (!(decide (a = z)))) := by
  show (inSeq (.int z) [.int a]).map (fun b => D.bl (!b)) = _
  rw [inSeqI1]; rfl
theorem inSeqI2 {a b z : Int} : inSeq (.int z) [.int a, .int b] = some (decide (a = z) || decide (b = z)) := by
  unfold inSeq
  rw [okc_int, okc_nums (by simp)]
  simp [D.pyL, D.py, PyData.eqv, beq_dec, Bool.or_assoc]
@[simp] theorem s_inI2 {a b z : Int} : inD (.int z) (.tup [.int a, .int b]) = some (.bl (decide (a = z) || decide (b = z))) := by
  show (inSeq (.int z) [.int a, .int b]).map D.bl = _
  rw [inSeqI2]; rfl
@[simp] theorem s_notInI2 {a b z : Int} : notInD (.int z) (.tup [.int a, .int b]) = some (.bl (!(decide (a = z) || decide (b = z)))) := by
  show (inSeq (.int z) [.int a, .int b]).map (fun b => D.bl (!b)) = _
  rw [inSeqI2]; rfl
theorem inSeqI3 {a b c z : Int} : inSeq (.int z) [.int a, .int b, .int c] = some (decide (a = z) || decide (b = z) || decide (c = z)) := by
  unfold inSeq
  rw [okc_int, okc_nums (by simp)]
  simp [D.pyL, D.py, PyData.eqv, beq_dec, Bool.or_assoc]
@[simp] theorem s_inI3 {a b c z : Int} : inD (.int z) (.tup [.int a, .int b, .int c]) = some (.bl (decide (a = z) || decide (b = z) || decide (c = z))) := by
  show (inSeq (.int z) [.int a, .int b, .int c]).map D.bl = _
  rw [inSeqI3]; rfl
@[simp] theorem s_notInI3 {a b c z : Int} : notInD (.int z) (.tup [.int a, .int b, .int c]) = some (.bl (!(decide (a = z) || decide (b = z) || decide (c = z)))) := by
  show (inSeq (.int z) [.int a, .int b, .int c]).map (fun b => D.bl (!b)) = _
  rw [inSeqI3]; rfl
theorem inSeqI4 {a b c d z : Int} : inSeq (.int z) [.int a, .int b, .int c, .int d] = some (decide (a = z) || decide (b = z) || decide (c = z) || decide (d = z)) := by
  unfold inSeq
  rw [okc_int, okc_nums (by simp)]
  simp [D.pyL, D.py, PyData.eqv, beq_dec, Bool.or_assoc]
@[simp] theorem s_inI4 {a b c d z : Int} : inD (.int z) (.tup [.int a, .int b, .int c, .int d]) = some (.bl (decide (a = z) || decide (b = z) || decide (c = z) || decide (d = z))) := by
  show (inSeq (.int z) [.int a, .int b, .int c, .int d]).map D.bl = _
  rw [inSeqI4]; rfl
@[simp] theorem s_notInI4 {a b c d z : Int} : notInD (.int z) (.tup [.int a, .int b, .int c, .int d]) = some (.bl (!(decide (a = z) || decide (b = z) || decide (c = z) || decide (d = z)))) := by
  show (inSeq (.int z) [.int a, .int b, .int c, .int d]).map (fun b => D.bl (!b)) = _
  rw [inSeqI4]; rfl
theorem inSeqI5 {a b c d e z : Int} : inSeq (.int z) [.int a, .int b, .int c, .int d, .int e] = some (decide (a = z) || decide (b = z) || decide (c = z) || decide (d = z) || decide (e = z)) := by
  unfold inSeq
  rw [okc_int, okc_nums (by simp)]
  simp [D.pyL, D.py, PyData.eqv, beq_dec, Bool.or_assoc]
@[simp] theorem s_inI5 {a b c d e z : Int} : inD (.int z) (.tup [.int a, .int b, .int c, .int d, .int e]) = some (.bl (decide (a = z) || decide (b = z) || decide (c = z) || decide (d = z) || decide (e = z))) := by
  show (inSeq (.int z) [.int a, .int b, .int c, .int d, .int e]).map D.bl = _
  rw [inSeqI5]; rfl
@[simp] theorem s_notInI5 {a b c d e z : Int} : notInD (.int z) (.tup [.int a, .int b, .int c, .int d, .int e]) = some (.bl (!(decide (a = z) || decide (b = z) || decide (c = z) || decide (d = z) || decide (e = z)))) := by
  show (inSeq (.int z) [.int a, .int b, .int c, .int d, .int e]).map (fun b => D.bl (!b)) = _
  rw [inSeqI5]; rfl
theorem ok_of_wp {m : M B α} {v : α} {s t : B.T} (h : wp m (fun a s' => a = v ∧ s' = t) s) : m s = .ok v t := by
  obtain ⟨a, s', e, rfl, rfl⟩ := wp_ok h
  exact e
section
variable {K : PySem.W.Frag} {cl : CTab} {c : Str} {i : Nat} {ds : List D} {d : D} {p : Nat} {s : Mem}
@[simp] theorem updM_same {o : Option D} : (updM s p o).m p = o := if_pos rfl
@[simp] theorem push_at : (s.push d).m s.n = some d := if_pos rfl
@[simp] theorem push_n : (s.push d).n = s.n + 1 := rfl
@[simp] theorem updM_n {o : Option D} : (updM s p o).n = s.n := rfl
@[simp] theorem updM_upd {o o' : Option D} : updM (updM s p o) p o' = updM s p o' := by
  unfold updM
  congr 1
  funext x
  show (if x = p then _ else if x = p then _ else _) = _
  split <;> rfl
@[simp] theorem push_upd {e : D} : updM (s.push d) s.n (some e) = s.push e := by
  unfold updM Mem.push
  congr 1
  funext x
  show (if x = s.n then _ else if x = s.n then _ else _) = _
  split <;> rfl
theorem wp_insr {R : Unit → Mem → Prop} (h : s.m p = some (.ins c ds)) : wp (insM (K := K) (cl := cl) c (.ref p)) R s ↔ R () s := by
  simp [wp, insM, rdM, M.bind, h, M.pure]
@[simp] theorem fld_ins : fldM (K := K) (cl := cl) c i (.ins c ds) = lift ds[i]? := by simp [fldM]
@[simp] theorem ins_ins : insM (K := K) (cl := cl) c (.ins c ds) = M.pure () := by simp [insM]
end
end DN
namespace DN
open PySem PySem.Spec PyProof.Rows L2 RZ ND
def see1 (p : D → Bool) (s : Sl) : Option D := match s with
  | .val d => some d
  | .own d => if p d = true then some (D.strip (.ins "" [d])) else none
  | .no => none
section
variable {p : D → Bool} {s : Sl} {ρ : SEnv} {d : D}
@[simp] theorem seeE_cons : seeE p (s :: ρ) = see1 p s :: seeE p ρ := by
  cases s <;> rfl
@[simp] theorem see1_val : see1 p (.val d) = some d := rfl
@[simp] theorem see1_no : see1 p .no = none := rfl
@[simp] theorem see1_own : see1 pHide (.own d) = none := rfl
end
end DN
namespace DN
open PySem PySem.Spec PyProof.Rows L2 RZ ND
variable {B : Sto}
section
variable {K : PySem.W.Frag} {cl : CTab} {Z Z0 : Zp} {C H H0 C0 : Hp} {ρ : SEnv} {σ : L2.St} {α : Nat → Addr → Prop} {s : B.T} {p : Addr} {o : HO} {d : D} {i : Nat}
theorem own_new (w : Wd B true Z C H s) (n : Nx Z0 C0 H0 Z C H) (r : SRel K cl Z C H H0 ρ σ α) (hp : H p = none) (hm : immO o = false) (o' : OwnT K cl Z (upd H p o) (fun x => x = p) (.ref p) (.ins "" [d])) :
    Wd B true Z C (upd H p o) s ∧ Nx Z0 C0 H0 Z C (upd H p o) ∧ SRel K cl Z C (upd H p o) H0 (ρ.set i (.own d)) (σ.set i (some (.ref p))) (upd1 α i (fun x => x = p)) := by
  have h0 : H0 p = none := n.back w.ch hp
  have zp := none_of_sub w.zh hp
  have cp := none_of_sub w.ch hp
  refine ⟨w.mut zp cp, n.mut h0, r.setOwn (fun j e x ob q hj hx ho => by rw [upd_ne (ne_of_none ho hp)]; exact ho) (fun x hx => ?_) (fun j e x q hj hx hx2 => ?_) o'⟩
  · have hx : x = p := hx
    subst hx
    exact ⟨h0, zp, cp, o, upd_same, hm⟩
  · have hx : x = p := hx
    subst hx
    obtain ⟨_, _, _, u, hu, _⟩ := r.fp j e x q hx2
    rw [hp] at hu; cases hu
theorem own_mut {a : Addr} {v : V} {d' : D} {F : Addr → Prop} (w : Wd B true Z C H s) (n : Nx Z0 C0 H0 Z C H) (r : SRel K cl Z C H H0 ρ σ α) (h : ρ[i]? = some (.own d)) (hv : σ[i]? = some (some v)) (ha : α i a) (hm : immO o = false)
    (hF : ∀ x, F x → α i x) (o' : OwnT K cl Z (upd H a o) F v (.ins "" [d'])) :
    Wd B true Z C (upd H a o) s ∧ Nx Z0 C0 H0 Z C (upd H a o) ∧ SRel K cl Z C (upd H a o) H0 (ρ.set i (.own d')) σ (upd1 α i F) := by
  obtain ⟨h0, zp, cp, _⟩ := r.fp i d a h ha
  have := r.setOwn (i := i) (v := v) (F := F) (d := d') (H' := upd H a o) (fun j e x ob q hj hx ho => by
      have hne : x ≠ a := fun z => hj (r.dj j i e d x q h hx (by rw [z]; exact ha))
      rw [upd_ne hne]; exact ho) (fun x hx => by
      obtain ⟨g1, g2, g3, ob, g4, g5⟩ := r.fp i d x h (hF x hx)
      by_cases hxa : x = a
      · subst hxa; exact ⟨g1, g2, g3, o, upd_same, hm⟩
      · exact ⟨g1, g2, g3, ob, by rw [upd_ne hxa]; exact g4, g5⟩) (fun j e x q hj hx hx2 => hj (r.dj j i e d x q h hx2 (hF x hx))) o'
  rw [set_self hv] at this
  exact ⟨w.mut zp cp, n.mut h0, this⟩
theorem own_lst {ds : List D} (r : SRel K cl Z C H H0 ρ σ α) (h : ρ[i]? = some (.own (.lst ds))) : ∃ a vs, σ[i]? = some (some (.ref a)) ∧ α i a ∧ H a = some (.lst vs) ∧ vs.length ≤ sizeLine ∧ OwnTL K cl Z H (fun x => α i x ∧ x ≠ a) vs ds := by
  obtain ⟨v, hv, o⟩ := r.own i _ h
  cases o with
  | leaf i _ => simp [D.isMut] at i
  | lst fa ha l t => exact ⟨_, _, hv, fa, ha, l, t⟩
theorem own_dct {ks ds : List D} (r : SRel K cl Z C H H0 ρ σ α) (h : ρ[i]? = some (.own (.dct ks ds))) : ∃ a o kvs, σ[i]? = some (some (.ref a)) ∧ α i a ∧ H a = some o ∧ DKV cl Z.h a o kvs ∧ ks = kvs.map (fun p => keyD p.1) ∧ KNd kvs ∧
    OwnTL K cl Z H (fun x => α i x ∧ x ≠ a) (kvs.map (·.2)) ds := by
  obtain ⟨v, hv, o⟩ := r.own i _ h
  cases o with
  | leaf i _ => simp [D.isMut] at i
  | dct fa ha dk e n t => exact ⟨_, _, _, hv, fa, ha, dk, e, n, t⟩
theorem own_frz (w : Wd B true Z C H s) (n : Nx Z0 C0 H0 Z C H) (r : SRel K cl Z C H H0 ρ σ α) (h : ρ[i]? = some (.own d)) :
    ∃ Z1, Wd B true Z1 C H s ∧ Nx Z0 C0 H0 Z1 C H ∧ SRel K cl Z1 C H H0 (ρ.set i (.val (D.strip (.ins "" [d])))) σ α := by
  classical
  let Z1 : Zp := ⟨fun x => if α i x then H x else Z.h x, Z.μ⟩
  have zin : ∀ x, α i x → Z1 x = H x := fun x hx => if_pos hx
  have zout : ∀ x, ¬ α i x → Z1 x = Z x := fun x hx => if_neg hx
  have sz : SubZ Z Z1 := ⟨fun x ob e => by
    by_cases hx : α i x
    · rw [(r.fp i d x h hx).2.1] at e; cases e
    · rw [zout x hx]; exact e, fun _ _ e => e⟩
  refine ⟨Z1, ⟨fun x u e => ?_, w.ch, fun x e => ?_, B.mono w.sr (sz.imm rfl)⟩, ⟨n.zz.trans sz, n.hh, fun x e => ?_, n.cf, n.cp, n.lk⟩, r.freeze h sz zout zin⟩
  · by_cases hx : α i x
    · rw [zin x hx] at e; exact e
    · rw [zout x hx] at e; exact w.zh x u e
  · by_cases hx : α i x
    · exact absurd (r.fp i d x h hx).2.2.1 e
    · rw [zout x hx]; exact w.dj x e
  · by_cases hx : α i x
    · exact .inr (r.fp i d x h hx).1
    · rw [zout x hx] at e; exact n.zf x e
end
@[simp] def sNewL (i : Nat) : SEnv → M B Fl := fun ρ => M.pure (.nx (ρ.set i (.own (.lst []))))
@[simp] def sNewD (i : Nat) : SEnv → M B Fl := fun ρ => M.pure (.nx (ρ.set i (.own (.dct [] []))))
@[simp] def sApp (p q : D → Bool) (i : Nat) (f : Env → M B D) : SEnv → M B Fl := fun ρ => match ρ[i]? with
  | some (.own (.lst ds)) => M.bind (f (seeE p ρ)) fun d => guardM (q d && !d.isMut && decide (ds.length < sizeLine)) (M.pure (.nx (ρ.set i (.own (.lst (ds ++ [d]))))))
  | _ => fun _ => .stuck
@[simp] def sPut (p q : D → Bool) (i : Nat) (fk f : Env → M B D) : SEnv → M B Fl := fun ρ => match ρ[i]? with
  | some (.own (.dct ks ds)) => M.bind (f (seeE p ρ)) fun d => M.bind (fk (seeE pHide ρ)) fun k => M.bind (lift k.key) fun k => guardM (q d && !d.isMut && decide (ks.length < sizeLine) && okK ks k) (M.pure (.nx (ρ.set i (.own (.dct (putKs ks k) (putVs ks ds k d))))))
  | _ => fun _ => .stuck
def ixK : List D → GK → Option Nat
  | [], _ => none
  | x :: ks, k => if x.key = some k then some 0 else (ixK ks k).map (· + 1)
@[simp] def sAppAt (p q : D → Bool) (i : Nat) (fk f : Env → M B D) : SEnv → M B Fl := fun ρ => match ρ[i]? with
  | some (.own (.dct ks ds)) => M.bind (fk (seeE pHide ρ)) fun k => M.bind (lift (k.key.bind fun k => ixK ks k)) fun j => match ds[j]? with
    | some (.ins c [.lst es]) => M.bind (f (seeE p ρ)) fun d => guardM (decide (c = "") && q d && !d.isMut && decide (es.length < sizeLine)) (M.pure (.nx (ρ.set i (.own (.dct ks (ds.set j (.ins "" [.lst (es ++ [d])])))))))
    | _ => fun _ => .stuck
  | _ => fun _ => .stuck
@[simp] def sAppSd (p q : D → Bool) (i : Nat) (fk f : Env → M B D) : SEnv → M B Fl := fun ρ => match ρ[i]? with
  | some (.own (.dct ks ds)) => M.bind (fk (seeE pHide ρ)) fun k => M.bind (lift k.key) fun k => match ixK ks k with
    | some j => match ds[j]? with
      | some (.ins c [.lst es]) => M.bind (f (seeE p ρ)) fun d => guardM (decide (c = "") && q d && !d.isMut && decide (es.length < sizeLine) && decide (ks.length < sizeLine) && !kindT ks) (M.pure (.nx (ρ.set i (.own (.dct ks (ds.set j (.ins "" [.lst (es ++ [d])])))))))
      | _ => fun _ => .stuck
    | none => M.bind (f (seeE p ρ)) fun d => guardM (q d && !d.isMut && decide (ks.length < sizeLine) && !kindT ks && !k.isT) (M.pure (.nx (ρ.set i (.own (.dct (ks ++ [keyD k]) (ds ++ [.ins "" [.lst [d]]]))))))
  | _ => fun _ => .stuck
def ownS (d : D) : Sl := match d with
  | .ins c [d'] => if c = "" then .own d' else .val d
  | d => .val d
@[simp] def sOwn (i : Nat) (f : Env → M B D) : SEnv → M B Fl := fun ρ => M.bind (f (seeE pHide ρ)) fun d => M.pure (.nx (ρ.set i (ownS d)))
@[simp] def sRetO (i : Nat) : SEnv → M B Fl := fun ρ => match ρ[i]? with
  | some (.own d) => M.pure (.ro d)
  | some (.val d) => M.pure (.rt d)
  | _ => fun _ => .stuck
def frzS (i : Nat) (ρ : SEnv) : SEnv := match ρ[i]? with
  | some (.own d) => ρ.set i (.val (D.strip (.ins "" [d])))
  | _ => ρ
@[simp] def sFrz (i : Nat) (G : SEnv → M B Fl) : SEnv → M B Fl := fun ρ => G (frzS i ρ)
section
variable {cl : CTab} {md : Bool} {W : WX} {X : Cx} {p q : D → Bool} {i : Nat} {x : Str}
theorem ds_newL {pos pos' p2 : Pos} (hN : X.N.Nodup) (hi : X.N[i]? = some x) (hx : Loc X.env.scope x) (hs : swapsWith (.List [] p2) (some (.Name x pos')) pos.line X.env = pure false := by rfl)
    (hf : X.fn x = true ∨ X.env.scope.names.lookup x = some .local := by first | exact .inl rfl | exact .inr rfl | assumption) : DS cl B W X (.Assign [.Name x pos'] (.List [] p2) pos) (sNewL i) := by
  refine PS.weak (ps_set hN hi hx (pe_lst pa_nil) hs hf) fun E σ H ⟨Z0, C0, H0, Z, C, s, ρ, α, c0, w, n, r, q⟩ => ?_
  refine ⟨Nat.zero_le _, fun p hp => ?_⟩
  obtain ⟨w1, n1, r1⟩ := own_new (i := i) (o := .lst []) (d := .lst []) w n r hp rfl (.lst rfl upd_same (Nat.zero_le _) .nil)
  exact q _ _ _ _ _ w1 n1 r1
theorem ds_newD {pos pos' p2 : Pos} (hN : X.N.Nodup) (hi : X.N[i]? = some x) (hx : Loc X.env.scope x) (hs : swapsWith (.Dict [] [] p2) (some (.Name x pos')) pos.line X.env = pure false := by rfl)
    (hf : X.fn x = true ∨ X.env.scope.names.lookup x = some .local := by first | exact .inl rfl | exact .inr rfl | assumption) : DS cl B W X (.Assign [.Name x pos'] (.Dict [] [] p2) pos) (sNewD i) := by
  refine PS.weak (ps_set hN hi hx pe_dnewK hs hf) fun E σ H ⟨Z0, C0, H0, Z, C, s, ρ, α, c0, w, n, r, q⟩ => ?_
  intro p hp
  obtain ⟨w1, n1, r1⟩ := own_new (i := i) (o := .dK []) (d := .dct [] []) w n r hp rfl (.dct rfl upd_same (.inl ⟨[], rfl, rfl⟩) rfl ⟨List.nodup_nil, fun _ h => nomatch h⟩ .nil)
  exact q _ _ _ _ _ w1 n1 r1
theorem ds_own {e : Expr} {f : Env → M B D} {pos pos' : Pos} (hN : X.N.Nodup) (hi : X.N[i]? = some x) (hx : Loc X.env.scope x) (h : DM cl B true W X e f) (hs : swapsWith e (some (.Name x pos')) pos.line X.env = pure false := by rfl)
    (hf : X.fn x = true ∨ X.env.scope.names.lookup x = some .local := by first | exact .inl rfl | exact .inr rfl | assumption) : DS cl B W X (.Assign [.Name x pos'] e pos) (sOwn i f) := by
  refine PS.weak (ps_set hN hi hx h hs hf) fun E σ H ⟨Z0, C0, H0, Z, C, s, ρ, α, c0, w, n, r, q⟩ => ?_
  have wd := see_wd (md := true) w r seeHide.nd
  have en := see_env seeHide r
  have key : ∀ {Z1 : Zp} {C1 H1 : Hp} {s1 : B.T}, Wd B true Z1 C1 H1 s1 → Nx (seeZ pHide ρ α Z H) C H Z1 C1 H1 → Nx Z0 C0 H0 Z1 C1 H1 ∧ SRel X.K cl Z1 C1 H1 H0 ρ σ α := fun w1 n1 => by
    have u := see_un seeHide w c0 n r w1 n1
    have u2 := u.nx; have u3 := u.rel
    rw [unZ_hide pHide_no] at u2 u3
    exact ⟨u2, u3⟩
  refine ⟨seeZ pHide ρ α Z H, C, s, seeE pHide ρ, wd, en, ?_⟩
  unfold sOwn M.bind at q
  cases ef : f (seeE pHide ρ) s with
  | stuck => simp only [ef] at q; exact q
  | err x s1 =>
    simp only [ef] at q
    intro c dx Z1 C1 H1 w1 n1 ex
    obtain ⟨u2, _⟩ := key w1 n1
    exact q c dx σ Z1 C1 H1 w1 u2 ex
  | ok d s1 =>
    simp only [ef] at q
    intro v F Z1 C1 H1 w1 n1 hF o
    obtain ⟨u2, u3⟩ := key w1 n1
    have q : PostS X.K cl W Z0 C0 H0 (.ok (.nx (ρ.set i (ownS d))) s1) E := q
    have isV : d.isMut = false → E.nx (σ.set i (some v)) H1 := fun hd => by
      have e1 : ownS d = .val d := by
        unfold ownS
        split
        · rename_i c d'
          rw [if_neg (show ¬ _ by simpa [D.isMut] using hd)]
        · rfl
      rw [e1] at q
      cases o with
      | leaf _ rv => exact q _ Z1 C1 H1 α w1 u2 (u3.setVal rv)
      | lst => simp [D.isMut] at hd
      | dct => simp [D.isMut] at hd
    have isO : ∀ d', d = .ins "" [d'] → E.nx (σ.set i (some v)) H1 := fun d' hd => by
      subst hd
      have q : PostS X.K cl W Z0 C0 H0 (.ok (.nx (ρ.set i (.own d'))) s1) E := q
      exact q _ Z1 C1 H1 _ w1 u2 (u3.setOwn (fun _ _ _ _ _ _ _ h => h) (fun x hx => ⟨n.back w.ch (hF x hx).1, (hF x hx).2⟩) (fun j e x qq _ hx hx2 => by
        obtain ⟨_, _, _, u, hu, _⟩ := r.fp j e x qq hx2
        rw [(hF x hx).1] at hu; cases hu) o)
    cases o with
    | leaf hd _ => exact isV hd
    | lst a b c t => exact isO _ rfl
    | dct a b dk c n t => exact isO _ rfl
theorem ds_app {e : Expr} {f : Env → M B D} {px apos cpos pos : Pos} (sp : See p md) (kp : Kp p q) (hv : PE X (.Name x px) (tVar i)) (he : DE cl B md W X e f)
    (hbase : attributeBase (.Name x px) "append" X.env (eval (.Name x px) X.env) = eval (.Name x px) X.env := by rfl)
    (hfew : ((backTo cpos (starEach [e] X.env)).all (fun x => !x.1) && (backToKw cpos (keywordEach [] X.env)).all (fun x => x.1.isSome)
      && decide ([e].length + ([] : List Keyword).length + (if ([] : List Keyword).isEmpty then 0 else 1) < 30)) = true := by rfl)
    (hline : (apos.endLine == cpos.line) = true := by rfl) (hs : starEach [e] X.env = (false, eval e X.env) :: starEach [] X.env := by rfl) (hplain : (backTo cpos (starEach [] X.env)).any (·.1) = false := by rfl)
    (hsw : swapsWith (.Call (.Attribute (.Name x px) "append" apos) [e] [] cpos) none pos.line X.env = pure false := by rfl) :
    DS cl B W X (.Expr (.Call (.Attribute (.Name x px) "append" apos) [e] [] cpos) pos) (sApp p q i f) := by
  refine PS.weak (ps_expr (pe_bm PySem.F.plainAttrs_list PySem.F.slot_list_append PySem.F.type_list_append mt_append hv (pa_cons he pa_nil hs) hbase hfew hline hs hplain) hsw) fun E σ H ⟨Z0, C0, H0, Z, C, s, ρ, α, c0, w, n, r, q0⟩ => ?_
  unfold sApp at q0
  cases hρ : ρ[i]? with
  | none => simp only [hρ] at q0; exact False.elim q0
  | some sl =>
    cases sl with
    | no => simp only [hρ] at q0; exact False.elim q0
    | val d => simp only [hρ] at q0; exact False.elim q0
    | own d =>
      cases d <;> (try (simp only [hρ] at q0; exact False.elim q0))
      rename_i ds
      simp only [hρ] at q0
      obtain ⟨a, vs, hσ, fa, h1, h2, h3⟩ := own_lst r hρ
      refine ⟨_, hσ, .inl ⟨rfl, vs, SqL.of h1⟩, ?_⟩
      refine ⟨seeZ p ρ α Z H, C, s, seeE p ρ, see_wd w r sp.nd, see_env sp r, PostS.seq sp w c0 n r q0 fun d s1 v Z1 C1 H1 w1 n1 r1 q1 => ?_⟩
      have u := see_un sp w c0 n r w1 n1
      unfold guardM at q1
      split at q1
      · rename_i hq
        rw [Bool.and_eq_true, Bool.and_eq_true] at hq
        have hl : ds.length < sizeLine := of_decide_eq_true hq.2
        obtain ⟨a', vs', hσ', fa', h1', h2', h3'⟩ := own_lst u.rel hρ
        obtain rfl : a' = a := by rw [hσ] at hσ'; cases hσ'; rfl
        refine ⟨a', vs', v, rfl, rfl, h1', by rw [h3'.len]; exact hl, ?_⟩
        have rv := u.rep kp hq.1.1 r1
        obtain ⟨w2, n2, r2⟩ := own_mut (i := i) (o := .lst (vs' ++ [v])) (d' := .lst (ds ++ [d])) u.wd u.nx u.rel hρ hσ fa' rfl (fun _ h => h) (.lst fa' upd_same (by rw [List.length_append, h3'.len]; exact hl)
          ((h3'.move (.refl _) fun x ob hx ho => by rw [upd_ne hx.2]; exact ho).app (fun e he => by rw [List.mem_singleton.mp he]; simpa using hq.1.2) (.cons rv .nil)))
        exact q1 σ _ _ _ _ w2 n2 r2
      · exact False.elim q1
theorem dss_frz {rest : List Stmt} {G : SEnv → M B Fl} (h : DSs cl B W X rest G) : DSs cl B W X rest (sFrz i G) := by
  refine PSs.weak h fun E σ H ⟨Z0, C0, H0, Z, C, s, ρ, α, c0, w, n, r, q⟩ => ?_
  unfold sFrz frzS at q
  cases hρ : ρ[i]? with
  | none => simp only [hρ] at q; exact ⟨Z0, C0, H0, Z, C, s, ρ, α, c0, w, n, r, q⟩
  | some sl =>
    cases sl with
    | no => simp only [hρ] at q; exact ⟨Z0, C0, H0, Z, C, s, ρ, α, c0, w, n, r, q⟩
    | val d => simp only [hρ] at q; exact ⟨Z0, C0, H0, Z, C, s, ρ, α, c0, w, n, r, q⟩
    | own d =>
      simp only [hρ] at q
      obtain ⟨Z1, w1, n1, r1⟩ := own_frz w n r hρ
      exact ⟨Z0, C0, H0, Z1, C, s, _, α, c0, w1, n1, r1, q⟩
end
end DN
namespace DN
open PySem PySem.Spec PyProof.Rows L2 RZ ND
variable {B : Sto}
section
variable {X : Cx} {C : Addr} {bmB : List Value} {Bn newId initId : String}
theorem pmk_own0 {x : Str} {p pos : Pos} (F : ExcBaseFacts Bn newId initId bmB) (q : PySem.W.excIn X.K C bmB newId = true) (gC : X.mg x = some (.ref C)) (kC : PySem.W.keepIn X.K (.ref C) = true) (r : Raises X (.ref C)) (hg : Gl X x)
    (hdb : (x == ("__debug__" : Str)) = false := by decide) : PMk X (.Call (.Name x p) [] [] pos) (fun _ H Q => Q (.ref C) none H) := by
  intro pins s σ H Q I h
  refine wpAny_Call_Name_kw (ld_glob I hg gC ?_ hdb)
  refine PySem.W.callWith_K0 (first := []) I.kIn kC ?_
  show wpAny _ _ (call (.ref C) []) _ _ _
  obtain ⟨bm, N, nm, qn, bs, hdct, sn, sub, ab, col, dd, k0, k1, k2, k3, k5, mN, hC, hN, hni, T⟩ := exc_obj I.kIn q
  refine wpAny_call_exc_subT F T hC hN hni (fun h' e hm => ?_) (Nat.zero_le _)
  exact mk_of I hm r h (I.hok.gone hm.new)
end
structure RaiseAt (K : PySem.W.Frag) (mg : Str → Option Value) (cl : CTab) (x : Str) (C : Addr) : Prop where
  c : cl x = some (C, [])
  mg : mg x = some (.ref C)
  xf : PySem.W.excIn K C [.type "ValueError", .type "Exception", .type "BaseException", .type "object"] "ValueError.__new__" = true
  kc : PySem.W.keepIn K (.ref C) = true
  bf : PySem.W.subIn K (.ref C) (.type "BaseException") = some true
  tf : PySem.W.typeIn K (.ref C) = some (.type "type")
def sRaise (x : Str) : SEnv → M B Fl := fun _ s => .err ⟨x, none⟩ s
section
variable {cl : CTab} {W : WX} {X : Cx} {x : Str} {C : Addr}
theorem ds_raise0 {p pos pos' : Pos} (R : RaiseAt X.K X.mg cl x C) (hc : X.calm = true) (tk : Takes X W) (hg : Gl X x) (hdb : (x == ("__debug__" : Str)) = false := by decide) :
    DS cl B W X (.Raise (some (.Call (.Name x p) [] [] pos)) none pos') (sRaise x) :=
  PS.weak (ps_raise hc tk (pmk_own0 PySem.F.excBase_ValueError R.xf R.mg R.kc (raises_own R.bf R.tf) hg hdb)) fun E σ H ⟨Z0, C0, H0, Z, C1, s, ρ, α, c0, w, n, r, q⟩ =>
    q (.ref C) none σ Z C1 H w n ⟨C, [], R.c, rfl, rfl, rfl⟩
end
inductive Fx where
  | fl (f : Fl) | ex (x : Exn) (ρ : SEnv)
def PostX (K : PySem.W.Frag) (cl : CTab) (W : WX) (Z0 : Zp) (C0 H0 : Hp) (r : Res B.T Fx) (E : Ends) : Prop :=
  match r with
  | .ok (.fl f) s => PostS (B := B) K cl W Z0 C0 H0 (.ok f s) E
  | .ok (.ex x ρ) s => ∀ c dx σ Z C H α, Wd B true Z C H s → Nx Z0 C0 H0 Z C H → SRel K cl Z C H H0 ρ σ α → ExR K cl Z C x c dx H → W c dx σ H
  | .err _ _ => False
  | .stuck => False
def tX (K : PySem.W.Frag) (cl : CTab) (B : Sto) (W : WX) (F : SEnv → M B Fx) : TS := fun E σ H => ∃ Z0 C0 H0 Z C s ρ α, Sub C0 H0 ∧ Wd B true Z C H s ∧ Nx Z0 C0 H0 Z C H ∧ SRel K cl Z C H H0 ρ σ α ∧ PostX K cl W Z0 C0 H0 (F ρ s) E
def DX1 (cl : CTab) (B : Sto) (W : WX) (X : Cx) (st : Stmt) (F : SEnv → M B Fx) : Prop := PS X st (tX X.K cl B W F)
def DXs (cl : CTab) (B : Sto) (W : WX) (X : Cx) (st : List Stmt) (F : SEnv → M B Fx) : Prop := PSs X st (tX X.K cl B W F)
def catchX {α : Type} (ρ : SEnv) (m : M B α) (k : α → M B Fx) : M B Fx := fun s => match m s with
  | .ok a s' => k a s'
  | .err x s' => .ok (.ex x ρ) s'
  | .stuck => .stuck
@[simp] def xSeq (F G : SEnv → M B Fx) : SEnv → M B Fx := fun ρ => M.bind (F ρ) fun r => match r with
  | .fl (.nx ρ') => G ρ'
  | o => M.pure o
@[simp] def xSet (i : Nat) (f : Env → M B D) : SEnv → M B Fx := fun ρ => catchX ρ (f (seeE pHide ρ)) fun d => M.pure (.fl (.nx (ρ.set i (.val d))))
@[simp] def xEx (f : Env → M B D) : SEnv → M B Fx := fun ρ => catchX ρ (f (seeE pHide ρ)) fun _ => M.pure (.fl (.nx ρ))
@[simp] def xRet (f : Env → M B D) : SEnv → M B Fx := fun ρ => catchX ρ (f (seeE pHide ρ)) fun d => M.pure (.fl (.rt d))
@[simp] def xIff (t : Env → M B Bool) (F G : SEnv → M B Fx) : SEnv → M B Fx := fun ρ => catchX ρ (t (seeE pHide ρ)) fun k => if k = true then F ρ else G ρ
@[simp] def xPass : SEnv → M B Fx := fun ρ => M.pure (.fl (.nx ρ))
section
variable {cl : CTab} {W : WX} {X : Cx}
theorem unZ_pHide {ρ : SEnv} {α : Nat → Addr → Prop} {Z1 : Zp} : unZ pHide ρ α Z1 = Z1 := unZ_hide pHide_no
theorem PostX.seq {K : PySem.W.Frag} {Z Z0 : Zp} {C H H0 C0 : Hp} {ρ : SEnv} {σ : L2.St} {α : Nat → Addr → Prop} {s : B.T} {υ β : Type} {Rp : Zp → υ → β → Prop} {m : M B β} {k : β → M B Fx} {E : Ends} {Q1 : υ → Hp → Prop} (w : Wd B true Z C H s) (c0 : Sub C0 H0) (n : Nx Z0 C0 H0 Z C H) (r : SRel K cl Z C H H0 ρ σ α)
    (h : PostX K cl W Z0 C0 H0 (catchX ρ m k s) E)
    (hk : ∀ a s1 v Z1 C1 H1, Wd B true Z1 C1 H1 s1 → Nx Z0 C0 H0 Z1 C1 H1 → SRel K cl Z1 C1 H1 H0 ρ σ α → Rp Z1 v a → PostX K cl W Z0 C0 H0 (k a s1) E → Q1 v H1) : Post K cl true Rp W σ (seeZ pHide ρ α Z H) C H (m s) Q1 := by
  unfold catchX at h
  have key : ∀ {Z1 : Zp} {C1 H1 : Hp} {s1 : B.T}, Wd B true Z1 C1 H1 s1 → Nx (seeZ pHide ρ α Z H) C H Z1 C1 H1 → Nx Z0 C0 H0 Z1 C1 H1 ∧ SRel K cl Z1 C1 H1 H0 ρ σ α := fun w1 n1 => by
    have u := see_un seeHide w c0 n r w1 n1
    have u2 := u.nx; have u3 := u.rel
    rw [unZ_pHide] at u2 u3
    exact ⟨u2, u3⟩
  cases e : m s with
  | ok a s1 =>
    simp only [e] at h
    exact fun v Z1 C1 H1 w1 n1 r1 => by
      obtain ⟨u2, u3⟩ := key w1 n1
      exact hk a s1 v Z1 C1 H1 w1 u2 u3 r1 h
  | err x s1 =>
    simp only [e] at h
    intro c dx Z1 C1 H1 w1 n1 ex
    obtain ⟨u2, u3⟩ := key w1 n1
    exact h c dx σ Z1 C1 H1 α w1 u2 u3 ex
  | stuck => simp only [e] at h; exact h
theorem dxs_one {st : Stmt} {F : SEnv → M B Fx} (h : DX1 cl B W X st F) : DXs cl B W X [st] F := pss_one h
theorem dx_set {i : Nat} {x : Str} {e : Expr} {f : Env → M B D} {pos pos' : Pos} (hN : X.N.Nodup) (hi : X.N[i]? = some x) (hx : Loc X.env.scope x) (h : DE cl B true W X e f) (hs : swapsWith e (some (.Name x pos')) pos.line X.env = pure false := by rfl)
    (hf : X.fn x = true ∨ X.env.scope.names.lookup x = some .local := by first | exact .inl rfl | exact .inr rfl | assumption) : DX1 cl B W X (.Assign [.Name x pos'] e pos) (xSet i f) := by
  refine PS.weak (ps_set hN hi hx h hs hf) fun E σ H ⟨Z0, C0, H0, Z, C, s, ρ, α, c0, w, n, r, q⟩ => ?_
  refine ⟨seeZ pHide ρ α Z H, C, s, seeE pHide ρ, see_wd w r seeHide.nd, see_env seeHide r, PostX.seq w c0 n r q fun d s1 v Z1 C1 H1 w1 n1 r1 rv q1 => ?_⟩
  exact q1 _ Z1 C1 H1 α w1 n1 (r1.setVal rv)
end
abbrev Hnd (B : Sto) := (Str → Option Bool) × (SEnv → M B Fl)
def hGo : List (Hnd B) → Exn → SEnv → M B Fl
  | [], x, _ => fun s => .err x s
  | (t, G) :: r, x, ρ => match t x.c with
    | some true => noErr (G ρ)
    | some false => hGo r x ρ
    | none => fun _ => .stuck
@[simp] def sTry (F : SEnv → M B Fx) (hs : List (Hnd B)) : SEnv → M B Fl := fun ρ => M.bind (noErr (F ρ)) fun r => match r with
  | .fl f => M.pure f
  | .ex x ρ' => hGo hs x ρ'
def CatchAt (K : PySem.W.Frag) (cl : CTab) (t : Str → Option Bool) (C : Addr) : Prop := ∀ x A fs b, t x = some b → cl x = some (A, fs) → PySem.W.exmOne K (.ref A) (.ref C) = some b
end DN
namespace DN
open PySem PySem.Spec PyProof.Rows L2 RZ ND
variable {B : Sto}
def fldMs {K : PySem.W.Frag} {cl : CTab} (cs : List Str) (i : Nat) (x : D) : M (MemS K cl) D := match x with
  | .ins c' ds => lift (if c' ∈ cs then ds[i]? else none)
  | .ref a => M.bind (rdM a) fun l => lift (match l with
    | .ins c' ds => if c' ∈ cs then ds[i]? else none
    | _ => none)
  | _ => fun _ => .stuck
@[simp] abbrev xFlds {K : PySem.W.Frag} {cl : CTab} (cs : List Str) (i : Nat) (f : Env → M (MemS K cl) D) : Env → M (MemS K cl) D := fun ρ => M.bind (f ρ) (fldMs cs i)
section
variable {K : PySem.W.Frag} {cl : CTab} {c : Str} {cs : List Str} {i : Nat} {ds : List D} {d : D} {p : Nat} {s : Mem}
@[simp] theorem flds_ins (h : c ∈ cs) : fldMs (K := K) (cl := cl) cs i (.ins c ds) = lift ds[i]? := by simp [fldMs, h]
end
@[simp] abbrev pN : Env → M B (List (D × D)) := fun _ => M.pure []
@[simp] abbrev pC (f g : Env → M B D) (h : Env → M B (List (D × D))) : Env → M B (List (D × D)) := fun ρ => M.bind (f ρ) fun x => M.bind (g ρ) fun y => M.bind (h ρ) fun r => M.pure ((x, y) :: r)
def putAll0 : List D → List D → List (D × D) → Option D
  | ks, ds, [] => some (.dct ks ds)
  | ks, ds, (k, d) :: r => k.key.bind fun k => if k.isT = true then none else putAll0 (putKs ks k) (putVs ks ds k d) r
@[simp] abbrev xDct (f : Env → M B (List (D × D))) : Env → M B D := fun ρ => M.bind (f ρ) fun ps => lift (putAll0 [] [] ps)
section
variable {cl : CTab} {md : Bool} {W : WX} {X : Cx}
def setfMs {K : PySem.W.Frag} {cl : CTab} (cs : List Str) (i : Nat) (x d : D) : M (MemS K cl) Unit := fun m => match x with
  | .ref a => match m.m a with
    | some (.ins c' ds) => if c' ∈ cs ∧ d.imm = true ∧ i = ds.length then .ok () (updM m a (some (.ins c' (ds ++ [d])))) else .stuck
    | _ => .stuck
  | _ => .stuck
@[simp] abbrev sSetFs {K : PySem.W.Frag} {cl : CTab} (p : D → Bool) (cs : List Str) (i : Nat) (fo f : Env → M (MemS K cl) D) : SEnv → M (MemS K cl) Fl := fun ρ => M.bind (f (seeE p ρ)) fun d => M.bind (fo (seeE pHide ρ)) fun x => M.bind (setfMs cs i x d) fun _ => M.pure (.nx ρ)
theorem wp_setfs {K : PySem.W.Frag} {cl : CTab} {c : Str} {cs : List Str} {i : Nat} {ds : List D} {d : D} {p : Nat} {s : Mem} {R : Unit → Mem → Prop} (h : s.m p = some (.ins c ds)) (hc : c ∈ cs) (hi : i = ds.length) (im : d.imm = true) : wp (setfMs (K := K) (cl := cl) cs i (.ref p) d) R s ↔ R () (updM s p (some (.ins c (ds ++ [d])))) := by
  simp [wp, setfMs, h, im, hi, hc]
end
theorem exm_is {K : PySem.W.Frag} {A S : Addr} {b : Bool} (h1 : PySem.W.subIn K (.ref S) (.type "BaseException") = some true) (h2 : PySem.W.isClsIn K S = true) (h3 : PySem.W.typeIn K (.ref S) = some (.type "type")) (h4 : PySem.W.subIn K (.ref A) (.ref S) = some b) :
    PySem.W.exmOne K (.ref A) (.ref S) = some b := by
  have e1 : (PySem.W.subIn K (.ref S) (.type "BaseException") == some true) = true := by rw [h1] <;> rfl
  have e2 : ((PySem.W.clsIn K S).isSome && PySem.W.typeIn K (.ref S) == some (.type "type")) = true := by
    have h2' : (PySem.W.clsIn K S).isSome = true := h2
    rw [h2', h3] <;> rfl
  show (if (PySem.W.subIn K (.ref S) (.type "BaseException") == some true) = true then (if ((PySem.W.clsIn K S).isSome && PySem.W.typeIn K (.ref S) == some (.type "type")) = true then PySem.W.subIn K (.ref A) (.ref S) else none) else none) = some b
  rw [if_pos e1, if_pos e2]
  exact h4
end DN
namespace DN
open PySem PySem.Spec PyProof.Rows L2 RZ ND
def boardName : D → Option D
  | .tup [n, _, _] => some n
  | _ => none
def nmL : List D → Option (List D)
  | [] => some []
  | b :: bs => (boardName b).bind fun n => (nmL bs).map fun r => n :: r
noncomputable def namesD (bs : List D) : Option D := (nmL bs).bind fun ns => (DN.putAll [] [] (ns.map fun n => (n, .bl true))).bind sortKD
noncomputable def i_keep (bs : List D) : IR := match namesD bs with
  | some (.lst ns) => if (D.purL bs && D.purL ns) = true then .ok [.tup bs, .tup ns] else .stuck
  | _ => .stuck
def lettersD : D := .str "abcdefghijklmnopqrstuvwxyz"
def WordOk (m : Nat) (z : Str) : Prop := 1 ≤ z.length ∧ z.length ≤ m ∧ ∀ c ∈ z.cps.toList, inD (.str ⟨#[c]⟩) lettersD = some (.bl true)
def boardD (n : Str) (s : Int) (r : List Str) : D := .tup [.str n, .int s, .tup (r.map .str)]
def BoardOk (b : D) : Prop := ∃ n s r, b = boardD n s r ∧ WordOk 8 n ∧ 0 ≤ s ∧ s ≤ 1 ∧ r.length ≤ 20 ∧ ∀ w ∈ r, WordOk 20 w
theorem immL_str : ∀ r : List Str, D.immL (r.map .str) = true
  | [] => rfl
  | a :: r => by simp [D.immL, D.imm, immL_str r]
theorem BoardOk.imm {b : D} (h : BoardOk b) : b.imm = true := by
  obtain ⟨n, s, r, rfl, _⟩ := h
  simp [boardD, D.imm, D.immL, immL_str]
theorem purL_str : ∀ r : List Str, D.purL (r.map .str) = true
  | [] => rfl
  | a :: r => by simp [D.purL, D.pur, purL_str r]
theorem BoardOk.pur {b : D} (h : BoardOk b) : b.pur = true := by
  obtain ⟨n, s, r, rfl, _⟩ := h
  simp [boardD, D.pur, D.purL, purL_str]
theorem purL_all : ∀ {ds : List D}, (∀ d ∈ ds, d.pur = true) → D.purL ds = true
  | [], _ => rfl
  | d :: ds, h => by
    rw [D.purL, h d List.mem_cons_self, purL_all fun e he => h e (List.mem_cons_of_mem _ he)]
    rfl
theorem strsOf_map : ∀ ks : List Str, strsOf (ks.map D.str) = some ks
  | [] => rfl
  | k :: ks => by simp [strsOf, strsOf_map ks]
theorem nmL_inv : ∀ {bs ns : List D}, nmL bs = some ns → ∀ b ∈ bs, ∃ n x y, b = .tup [n, x, y]
  | [], _, _, b, hb => nomatch hb
  | b :: bs, ns, e, c, hc => by
    unfold nmL at e
    cases e1 : boardName b with
    | none => rw [e1] at e; cases e
    | some n =>
      rw [e1] at e
      cases e2 : nmL bs with
      | none => rw [e2] at e; cases e
      | some r =>
        rcases List.mem_cons.mp hc with rfl | hc
        · unfold boardName at e1
          split at e1
          · exact ⟨_, _, _, rfl⟩
          · cases e1
        · exact nmL_inv e2 c hc
theorem nmL_map : ∀ {bs ns : List D}, nmL bs = some ns → ∀ f : D → Option (D × D), (∀ n x y, D.tup [n, x, y] ∈ bs → f (.tup [n, x, y]) = some (n, .bl true)) → bs.filterMap f = ns.map fun n => (n, .bl true)
  | [], _, e, f, h => by cases e; rfl
  | b :: bs, ns, e, f, h => by
    obtain ⟨n, x, y, rfl⟩ := nmL_inv e b List.mem_cons_self
    unfold nmL boardName at e
    simp only [Option.bind_some] at e
    cases e2 : nmL bs with
    | none => rw [e2] at e; cases e
    | some r =>
      rw [e2] at e
      cases e
      rw [List.filterMap_cons, h n x y List.mem_cons_self, List.map_cons, nmL_map e2 f fun n x y hm => h n x y (List.mem_cons_of_mem _ hm)]
def Pt : Nat → D → Prop
  | 0, _ => False
  | k + 1, d => (∃ i, d = .int i) ∨ (∃ x, d = .str x) ∨ (∃ b, d = .bl b) ∨ (∃ ds, d = .tup ds ∧ ∀ x ∈ ds, Pt k x) ∨ ∃ ds, d = .lst ds ∧ ∀ x ∈ ds, Pt k x
theorem Pt.up : ∀ {k : Nat} {d : D}, Pt k d → Pt (k + 1) d
  | 0, _, h => False.elim h
  | k + 1, d, h => by
    rcases h with ⟨i, rfl⟩ | ⟨x, rfl⟩ | ⟨b, rfl⟩ | ⟨ds, rfl, h⟩ | ⟨ds, rfl, h⟩
    · exact .inl ⟨i, rfl⟩
    · exact .inr (.inl ⟨x, rfl⟩)
    · exact .inr (.inr (.inl ⟨b, rfl⟩))
    · exact .inr (.inr (.inr (.inl ⟨ds, rfl, fun x hx => (h x hx).up⟩)))
    · exact .inr (.inr (.inr (.inr ⟨ds, rfl, fun x hx => (h x hx).up⟩)))
theorem Pt.le {k k' : Nat} {d : D} (h : Pt k d) (l : k ≤ k') : Pt k' d := by
  induction l with
  | refl => exact h
  | step _ ih => exact ih.up
theorem plainL_all : ∀ {ds : List D}, (∀ d ∈ ds, d.plain = true) → D.plainL ds = true
  | [], _ => rfl
  | d :: ds, h => by
    rw [D.plainL, h d List.mem_cons_self, plainL_all fun e he => h e (List.mem_cons_of_mem _ he)]
    rfl
theorem depthAll_le {n : Nat} : ∀ {ds : List D}, (∀ d ∈ ds, d.py.depth ≤ n) → PyData.depthAll (D.pyL ds) ≤ n
  | [], _ => Nat.zero_le _
  | d :: ds, h => by
    rw [D.pyL, PyData.depthAll]
    exact Nat.max_le.mpr ⟨h d List.mem_cons_self, depthAll_le fun e he => h e (List.mem_cons_of_mem _ he)⟩
theorem eqvAll_self : ∀ {ds : List D}, (∀ d ∈ ds, PyData.eqv d.py d.py = true) → PyData.eqvAll (D.pyL ds) (D.pyL ds) = true
  | [], _ => rfl
  | d :: ds, h => by
    rw [D.pyL, PyData.eqvAll, h d List.mem_cons_self, eqvAll_self fun e he => h e (List.mem_cons_of_mem _ he)]
    rfl
theorem Pt.facts : ∀ {k : Nat} {d : D}, Pt k d → d.plain = true ∧ d.py.depth ≤ k ∧ PyData.eqv d.py d.py = true
  | 0, _, h => False.elim h
  | k + 1, d, h => by
    rcases h with ⟨i, rfl⟩ | ⟨x, rfl⟩ | ⟨b, rfl⟩ | ⟨ds, rfl, h⟩ | ⟨ds, rfl, h⟩
    · exact ⟨rfl, by simp [D.py, PyData.depth], by simp [D.py, PyData.eqv]⟩
    · exact ⟨rfl, by simp [D.py, PyData.depth], by simp [D.py, PyData.eqv]⟩
    · exact ⟨rfl, by simp [D.py, PyData.depth], by simp [D.py, PyData.eqv]⟩
    · exact ⟨plainL_all fun x hx => (h x hx).facts.1, by rw [D.py, PyData.depth]; exact Nat.succ_le_succ (depthAll_le fun x hx => (h x hx).facts.2.1), by rw [D.py, PyData.eqv]; exact eqvAll_self fun x hx => (h x hx).facts.2.2⟩
    · exact ⟨plainL_all fun x hx => (h x hx).facts.1, by rw [D.py, PyData.depth]; exact Nat.succ_le_succ (depthAll_le fun x hx => (h x hx).facts.2.1), by rw [D.py, PyData.eqv]; exact eqvAll_self fun x hx => (h x hx).facts.2.2⟩
theorem Pt.okc {k : Nat} {d : D} (h : Pt k d) (hk : k ≤ 60) : d.okc = true := by
  obtain ⟨a, b, _⟩ := h.facts
  unfold D.okc
  rw [a, decide_eq_true (by omega)]
  rfl
theorem Pt.eq {k : Nat} {d : D} (h : Pt k d) (hk : k ≤ 60) : eqD d d = some (.bl true) := by
  unfold eqD
  rw [h.okc hk, h.facts.2.2]
  rfl
theorem Pt.ne {k : Nat} {d : D} (h : Pt k d) (hk : k ≤ 60) : neD d d = some (.bl false) := by
  unfold neD
  rw [h.okc hk, h.facts.2.2]
  rfl
theorem rng (n : Nat) (h : n ≤ 100000) : range1 (.int (n : Int)) = some ((List.range n).map fun i : Nat => .int (i : Int)) := by
  show (if _ then _ else _) = _
  rw [if_pos (by omega)]
  rfl
end DN
namespace DN
open PySem PySem.Spec PyProof.Rows L2 RZ ND
variable {B : Sto}
theorem fam_2 {P : Str → Prop} {a b : Str} (ha : P a) (hb : P b) : ∀ c ∈ ([a, b] : List Str), P c := fun c hc => by
  simp only [List.mem_cons, List.not_mem_nil, or_false] at hc
  rcases hc with rfl | rfl
  · exact ha
  · exact hb
theorem compL_filter {α β γ : Type} {f : β → M B (Option γ)} {g : α → β} {k : α → γ} {p : α → Bool} : ∀ {as : List α}, (∀ a ∈ as, f (g a) = M.pure (if p a = true then some (k a) else none)) → compL f (as.map g) = M.pure ((as.filter p).map k)
  | [], _ => rfl
  | a :: as, h => by
    rw [List.map_cons]
    unfold compL
    rw [h a List.mem_cons_self, bind_pure, compL_filter (fun b hb => h b (List.mem_cons_of_mem _ hb)), bind_pure]
    cases hp : p a <;> simp [consO, hp]
def retS (d : D) : Fl := match d with
  | .ins c [d'] => if c = "" then .ro d' else .rt d
  | d => .rt d
@[simp] def sRetM (f : Env → M B D) : SEnv → M B Fl := fun ρ => M.bind (f (seeE pHide ρ)) fun d => M.pure (retS d)
section
variable {cl : CTab} {W : WX} {X : Cx} {p q : D → Bool} {i : Nat} {x : Str} {md : Bool}
theorem OwnTL.repV {K : PySem.W.Frag} {Z : Zp} {H : Hp} {k : GK} {v : V} {d : D} (hd : d.isMut = false) (r : Rep K cl Z v d) : ∀ {kvs : List (GK × V)} {F : Addr → Prop} {ds : List D}, OwnTL K cl Z H F (kvs.map (·.2)) ds →
    OwnTL K cl Z H F ((kvs.map fun kv => if kv.1 = k then (kv.1, v) else kv).map (·.2)) (DN.repV (kvs.map fun p => keyD p.1) ds k d)
  | [], F, ds, t => by cases t; exact .nil
  | kv :: kvs, F, ds, t => by
    cases t with
    | cons a b c o f =>
      rename_i F1 F2 d1 ds1
      have ih := OwnTL.repV (k := k) hd r f
      by_cases h : kv.1 = k
      · simp only [List.map_cons, DN.repV, key_keyD, h, if_true]
        exact .cons (F1 := fun _ => False) (F2 := F2) (fun _ q => q.elim) b (fun _ q _ => q) (.leaf hd r) ih
      · simp only [List.map_cons, DN.repV, key_keyD, if_neg h, Option.some.injEq]
        exact .cons a b c o ih
theorem OwnTL.put {K : PySem.W.Frag} {Z : Zp} {H : Hp} {F : Addr → Prop} {k : GK} {v : V} {d : D} (hd : d.isMut = false) (r : Rep K cl Z v d) {kvs : List (GK × V)} {ds : List D} (t : OwnTL K cl Z H F (kvs.map (·.2)) ds) :
    OwnTL K cl Z H F ((putK kvs k v).map (·.2)) (putVs (kvs.map fun p => keyD p.1) ds k d) := by
  unfold putVs putK
  rw [hasK_eq]
  split
  · exact t.repV hd r
  · rw [List.map_append]
    exact t.app (fun e he => by rw [List.mem_singleton.mp he]; exact hd) (.cons r .nil)
theorem put_keys {k : GK} {v : V} (kok : KeyOk k) {kvs : List (GK × V)} {ks : List D} (e : ks = kvs.map fun p => keyD p.1) (nd : KNd kvs) : putKs ks k = (putK kvs k v).map (fun p => keyD p.1) ∧ KNd (putK kvs k v) := by
  subst e
  unfold putKs putK
  rw [hasK_eq]
  split
  · refine ⟨?_, by rw [fst_map]; exact nd.1, fun p hp => ?_⟩
    · show kvs.map (keyD ∘ Prod.fst) = (kvs.map fun kv => if kv.1 = k then (kv.1, v) else kv).map (keyD ∘ Prod.fst)
      rw [← List.map_map, ← List.map_map]
      exact congrArg (List.map keyD) (fst_map k v kvs).symm
    · obtain ⟨q, hq, rfl⟩ := List.mem_map.mp hp
      have := nd.2 q hq
      split <;> exact this
  · rename_i hn
    refine ⟨by simp, ?_, fun p hp => ?_⟩
    · rw [List.map_append, List.map_cons, List.map_nil, List.nodup_append]
      refine ⟨nd.1, by simp, fun a ha b hb => ?_⟩
      have hb' : b = k := by simpa using hb
      subst hb'
      intro z
      subst z
      obtain ⟨p, hp, rfl⟩ := List.mem_map.mp ha
      exact hn (List.any_eq_true.mpr ⟨p, hp, by simp⟩)
    · rcases List.mem_append.mp hp with hp | hp
      · exact nd.2 p hp
      · rw [List.mem_singleton.mp hp]; exact kok
theorem din_of {Z H : Hp} {a : Addr} {o : HO} {kvs : List (GK × V)} {k : GK} {y : V} (e : Rd H a o) (hz : Sub Z H) (dk : DKV cl Z a o kvs) (ry : KeyV H y k) (ok : okK (kvs.map fun p => keyD p.1) k = true) : DGet2 cl H a y (valV kvs k) := by
  obtain ⟨oc, dp⟩ := okK_cases ok
  rcases dk with ⟨l, h1, h2⟩ | ⟨l, h0, h1, h2, h3⟩
  · subst h1 h2
    rcases k with k | k
    · exact .inl (.inl ⟨l, k, e, ry, valV_inl⟩)
    · have l0 : l = [] := by
        rcases oc with h | h
        · cases l with
          | nil => rfl
          | cons => cases h
        · rcases l with _ | ⟨⟨k | k, v⟩, l⟩
          · rfl
          · exact nomatch h
          · exact nomatch h
      subst l0
      exact .inr ⟨k, ry, dp _ rfl, .inr ⟨e, rfl⟩⟩
  · subst h1 h2
    rcases k with k | k
    · exfalso
      rcases oc with h | h
      · cases l with
        | nil => exact h0 rfl
        | cons => cases h
      · cases l with
        | nil => exact h0 rfl
        | cons => exact nomatch h
    · exact .inr ⟨k, ry, dp _ rfl, .inl ⟨l, e, h3.mono fun _ _ q => hz _ _ q, valV_inr⟩⟩
theorem ds_put {e k : Expr} {f fk : Env → M B D} {px pos' pos : Pos} (sp : See p md) (kp : Kp p q) (hcl : ClOk cl X) (hu : X.A.units + 9 < cLine) (hv : PE X (.Name x px) (tVar i)) (hk : DE cl B true W X k fk) (he : DE cl B md W X e f)
    (hs : swapsWith e (some (.Subscript (.Name x px) k pos')) pos.line X.env = pure false := by rfl) : DS cl B W X (.Assign [.Subscript (.Name x px) k pos'] e pos) (sPut p q i fk f) := by
  refine PS.weak (ps_dput2 hcl hu hv hk he hs) fun E σ H ⟨Z0, C0, H0, Z, C, s, ρ, α, c0, w, n, r, q0⟩ => ?_
  unfold sPut at q0
  cases hρ : ρ[i]? with
  | none => simp only [hρ] at q0; exact False.elim q0
  | some sl =>
    cases sl with
    | no => simp only [hρ] at q0; exact False.elim q0
    | val d => simp only [hρ] at q0; exact False.elim q0
    | own d =>
      cases d <;> (try (simp only [hρ] at q0; exact False.elim q0))
      rename_i ks ds
      simp only [hρ] at q0
      obtain ⟨a, _, _, hσ, _⟩ := own_dct r hρ
      refine ⟨seeZ p ρ α Z H, C, s, seeE p ρ, see_wd w r sp.nd, see_env sp r, PostS.seq sp w c0 n r q0 fun d s1 v Z1 C1 H1 w1 n1 r1 q1 => ?_⟩
      have u := see_un sp w c0 n r w1 n1
      refine ⟨_, hσ, ?_⟩
      have q1 : PostS X.K cl W Z0 C0 H0 (M.bind (fk (seeE pHide ρ)) (fun k => M.bind (lift k.key) fun k => guardM (q d && !d.isMut && decide (ks.length < sizeLine) && okK ks k) (M.pure (.nx (ρ.set i (.own (.dct (putKs ks k) (putVs ks ds k d))))))) s1) E := q1
      have uw := u.wd; have un := u.nx; have ur := u.rel
      have rvu : q d = true → Rep X.K cl (unZ p ρ α Z1) v d := fun hq => u.rep kp hq r1
      generalize unZ p ρ α Z1 = Zu at uw un ur rvu
      refine ⟨seeZ pHide ρ α Zu H1, C1, s1, seeE pHide ρ, see_wd uw ur seeHide.nd, see_env seeHide ur, PostS.seq seeHide uw c0 un ur q1 fun kd s2 vk Z2 C2 H2 w2 n2 r2 q2 => ?_⟩
      have u2 := see_un seeHide uw c0 un ur w2 n2
      have uw2 := u2.wd; have un2 := u2.nx; have ur2 := u2.rel
      rw [seeZ_hide pHide_no] at n2
      rw [unZ_hide pHide_no] at uw2 un2 ur2
      have q2 : PostS X.K cl W Z0 C0 H0 (M.bind (lift kd.key) (fun k => guardM (q d && !d.isMut && decide (ks.length < sizeLine) && okK ks k) (M.pure (.nx (ρ.set i (.own (.dct (putKs ks k) (putVs ks ds k d)))))) ) s2) E := q2
      cases hkk : kd.key with
      | none => rw [hkk] at q2; exact False.elim q2
      | some kk =>
        rw [hkk] at q2
        have q3 : PostS X.K cl W Z0 C0 H0 (guardM (q d && !d.isMut && decide (ks.length < sizeLine) && okK ks kk) (M.pure (.nx (ρ.set i (.own (.dct (putKs ks kk) (putVs ks ds kk d)))))) s2) E := q2
        unfold guardM at q3
        split at q3
        · rename_i hq
          rw [Bool.and_eq_true] at hq
          obtain ⟨hq, hok⟩ := hq
          rw [Bool.and_eq_true, Bool.and_eq_true] at hq
          have hl : ks.length < sizeLine := of_decide_eq_true hq.2
          obtain rfl := key_eq hkk
          have ev := keyV_of_rep r2 uw2.zh
          have kok := keyOk_rep r2
          obtain ⟨a', o', kvs, hσ', fa', h1', dk', h2', h3', h4'⟩ := own_dct ur2 hρ
          obtain rfl : a' = a := by rw [hσ] at hσ'; cases hσ'; rfl
          have rv := (rvu hq.1.1).mono n2.zz
          have hml : d.isMut = false := by simpa using hq.1.2
          obtain ⟨g1, g2⟩ := put_keys (v := v) kok h2' h3'
          have hlen : kvs.length < sizeLine := by rw [h2', List.length_map] at hl; exact hl
          obtain ⟨o2, g3, _, g4, g5⟩ := dput_of (v := v) h1' uw2.zh dk' ev (keyV_of_rep r2 (Sub.refl _)) (by rw [← h2']; exact hok) hlen
          refine ⟨a', _, rfl, g3, ?_⟩
          obtain ⟨w3, n3, r3⟩ := own_mut (i := i) (o := o2) (d' := .dct (putKs (kvs.map fun p => keyD p.1) kk) (putVs (kvs.map fun p => keyD p.1) ds kk d)) uw2 un2 ur2 hρ hσ fa' g5 (fun _ h => h)
            (.dct fa' upd_same g4 (by rw [← g1, h2']) g2 (((h4'.move (.refl _) fun x ob hx ho => by rw [upd_ne hx.2]; exact ho)).put hml rv))
          rw [h2'] at q3
          exact q3 σ _ _ _ _ w3 n3 r3
        · exact False.elim q3
def inK (x : D) : D → Option D
  | .dct ks _ => x.key.bind fun k => if okK ks k = true then some (.bl (hasK ks k)) else none
  | y => inD x y
def notInK (x : D) : D → Option D
  | .dct ks _ => x.key.bind fun k => if okK ks k = true then some (.bl (!hasK ks k)) else none
  | y => notInD x y
@[simp] theorem inK_T {x : D} {ys : List D} : inK x (.tup ys) = inD x (.tup ys) := rfl
@[simp] theorem inK_L {x : D} {ys : List D} : inK x (.lst ys) = inD x (.lst ys) := rfl
@[simp] theorem inK_S {x : D} {y : Str} : inK x (.str y) = inD x (.str y) := rfl
@[simp] theorem notInK_T {x : D} {ys : List D} : notInK x (.tup ys) = notInD x (.tup ys) := rfl
@[simp] theorem notInK_L {x : D} {ys : List D} : notInK x (.lst ys) = notInD x (.lst ys) := rfl
@[simp] theorem notInK_S {x : D} {y : Str} : notInK x (.str y) = notInD x (.str y) := rfl
abbrev rInK (K : PySem.W.Frag) (cl : CTab) : R2 := fun x y H Q => rInA K x y H Q ∨ rInDict cl false x y H Q
abbrev rNotInK (K : PySem.W.Frag) (cl : CTab) : R2 := fun x y H Q => rNotInA K x y H Q ∨ rInDict cl true x y H Q
theorem op_inK (hcl : ClOk cl X) (hu : X.A.units + 65 < cLine) : OpR X (compareOp .In) (rInK X.K cl) := (op_inA hu).or (op_inDict hcl (by omega))
theorem op_notInK (hcl : ClOk cl X) (hu : X.A.units + 65 < cLine) : OpR X (compareOp .NotIn) (rNotInK X.K cl) := (op_notInA hu).or (op_notInDict hcl (by omega))
theorem hasK_val {kvs : List (GK × V)} {k : GK} : hasK (kvs.map fun p => keyD p.1) k = (valV kvs k).isSome := by rw [hasK_eq, valV_any]
theorem v_inK {K : PySem.W.Frag} : OpV K cl (rInK K cl) inK := by
  intro Z H x y dx dy d Q h rx ry e q
  cases dy with
  | dct ks ds =>
    obtain ⟨k, hk, he⟩ := Option.bind_eq_some_iff.mp (show (dx.key.bind fun k => if okK ks k = true then some (D.bl (hasK ks k)) else none) = some d from e)
    obtain rfl := key_eq hk
    have kv := keyV_of_rep rx h
    split at he
    case isFalse => cases he
    rename_i hok
    cases ry with
    | dct a dk b n c =>
      subst b; cases he
      rw [hasK_val] at q
      exact .inr ⟨_, _, rfl, din_of (sub_rdn h a) h dk kv hok, q _ Z H (.refl h) (.bl _)⟩
  | _ => exact .inl (v_in Z H x y dx _ d Q h rx ry e q)
theorem v_notInK {K : PySem.W.Frag} : OpV K cl (rNotInK K cl) notInK := by
  intro Z H x y dx dy d Q h rx ry e q
  cases dy with
  | dct ks ds =>
    obtain ⟨k, hk, he⟩ := Option.bind_eq_some_iff.mp (show (dx.key.bind fun k => if okK ks k = true then some (D.bl (!hasK ks k)) else none) = some d from e)
    obtain rfl := key_eq hk
    have kv := keyV_of_rep rx h
    split at he
    case isFalse => cases he
    rename_i hok
    cases ry with
    | dct a dk b n c =>
      subst b; cases he
      rw [hasK_val] at q
      exact .inr ⟨_, _, rfl, din_of (sub_rdn h a) h dk kv hok, q _ Z H (.refl h) (.bl _)⟩
  | _ => exact .inl (v_notIn Z H x y dx _ d Q h rx ry e q)
end
@[simp] abbrev xStrip (f : Env → M B D) : Env → M B D := fun ρ => M.bind (f ρ) fun d => M.pure d.strip
@[simp] abbrev xFl (f : Env → M B D) : Env → M B D := fun ρ => M.bind (f ρ) fun d => guardM (flatB d) (M.pure (.ins "" [d]))
@[simp] abbrev xNm (f : Env → M B D) : Env → M B D := fun ρ => M.bind (f ρ) fun d => guardM (!d.isMut) (M.pure d)
theorem wp_cut {A REST : SEnv → M B Fl} {ρ : SEnv} {s : B.T} {R : Fl → B.T → Prop} (P : SEnv → B.T → Prop) (h : wp (A ρ) (fun fl s' => match fl with
      | .nx ρ' => P ρ' s'
      | .rt d => R (.rt d) s'
      | .bk ρ' => R (.bk ρ') s'
      | .ct ρ' => R (.ct ρ') s'
      | .ro d => R (.ro d) s') s) (hr : ∀ ρ' s', P ρ' s' → wp (REST ρ') R s') : wp (seqF A REST ρ) R s := by
  rw [s_seq]
  refine wp_bind (wp_mono h fun fl s' q => ?_)
  cases fl with
  | nx ρ' => exact hr ρ' s' q
  | rt d => exact q
  | bk ρ' => exact q
  | ct ρ' => exact q
  | ro d => exact q
end DN
namespace DN
open PySem PySem.Spec PyProof.Rows L2 RZ ND
structure FldO (K : PySem.W.Frag) (cl : CTab) (c : Str) (f : Str) (i : Nat) : Prop where
  ex : FldAt K cl c f i ∨ cl c = none
theorem FldAt.o {K : PySem.W.Frag} {cl : CTab} {c f : Str} {i : Nat} (h : FldAt K cl c f i) : FldO K cl c f i := ⟨.inl h⟩
section
variable {cl : CTab} {md : Bool} {W : WX} {X : Cx} {p : D → Bool}
theorem de_fldo {e : Expr} {f : Env → M (MemS X.K cl) D} {cs : List Str} {fl : Str} {i : Nat} {pos : Pos} (F : ∀ c ∈ cs, FldO X.K cl c fl i) (he : DE cl (MemS X.K cl) md W X e f) (hb : attributeBase e fl X.env (eval e X.env) = eval e X.env := by rfl) :
    DE cl (MemS X.K cl) md W X (.Attribute e fl pos) (xFlds cs i f) := by
  refine PE.weak (pe_fld he hb) fun σ H Q ⟨Z, C, s, ρ, w, e, p⟩ => ?_
  refine ⟨Z, C, s, ρ, w, e, Post.seq w.ch p fun dx s1 x Z1 C1 H1 w1 n1 r1 p1 => ?_⟩
  have fin : ∀ {names : List Str} {ds : List D} {fs : List (Str × V)} {d : D}, names[i]? = some fl → names.Nodup → fs.map (·.1) = names.take ds.length → RepL X.K cl Z1 (fs.map (·.2)) ds → ds[i]? = some d → ∃ v, fs.lookup fl = some v ∧ Rep X.K cl Z1 v d := by
    intro names ds fs d hi nd e1 e2 e3
    obtain ⟨v, h1, h2⟩ := e2.get e3
    refine ⟨v, lookup_at e1 (nd.sublist (List.take_sublist _ _)) ?_ h1, h2⟩
    have hlt : i < ds.length := (List.getElem?_eq_some_iff.mp e3).1
    rw [List.getElem?_take_of_lt hlt]
    exact hi
  cases dx <;> (try (exact False.elim p1))
  · rename_i c' ds
    have p1 : Post X.K cl md (RpD X.K cl) W σ Z1 C1 H1 (lift (B := MemS X.K cl) (if c' ∈ cs then ds[i]? else none) s1) Q := p1
    obtain ⟨d, hd, q⟩ := post_lift w1 p1
    split at hd
    case isFalse => cases hd
    rename_i ec
    cases r1 with
    | ins a b c2 =>
      rename_i ad C0 dx fs
      rcases (F c' ec).ex with F1 | F1
      · obtain ⟨Cc, names, hc, hi, nd, _, C9, NA⟩ := F1.ex
        rw [hc] at a
        obtain ⟨rfl, hnm⟩ : C0 = _ ∧ fs.map (·.1) = names := by
          have := Option.some.inj a
          rw [Prod.mk.injEq] at this
          exact ⟨this.1.symm, this.2.symm⟩
        have hlen : names.length = ds.length := by rw [← hnm, List.length_map, ← c2.len, List.length_map]
        obtain ⟨v, h1, h2⟩ := fin hi nd (by rw [← hlen, List.take_length]; exact hnm) c2 hd
        exact ⟨ad, _, dx, fs, v, rfl, w1.zh _ _ b, by assumption, NA, h1, q v Z1 H1 (.refl w1.zh) h2⟩
      · rw [F1] at a; cases a
  · rename_i ad0
    cases r1 with | ref er1 =>
    rename_i ad
    unfold fldMs rdM M.bind at p1
    cases hm : s1.m ad0 with
    | none => simp only [hm] at p1; exact False.elim p1
    | some l =>
      simp only [hm] at p1
      have mr := mem_at' w1 hm er1
      cases l <;> (try (exact False.elim p1))
      rename_i c' ds
      obtain ⟨im, C0, dx, fs, ns, h1, h2, h3, h4⟩ := mr
      obtain ⟨d, hd, q⟩ := post_lift w1 p1
      simp only at hd
      split at hd
      case isFalse => cases hd
      rename_i ec
      rcases (F c' ec).ex with F1 | F1
      · obtain ⟨Cc, names, hc, hi, nd, _, C9, NA⟩ := F1.ex
        rw [hc] at h1
        obtain ⟨rfl, rfl⟩ : C0 = _ ∧ ns = names := by
          have := Option.some.inj h1
          rw [Prod.mk.injEq] at this
          exact ⟨this.1.symm, this.2.symm⟩
        obtain ⟨v, h5, h6⟩ := fin hi nd h3 h4 hd
        exact ⟨ad, _, dx, fs, v, rfl, w1.ch _ _ h2, by assumption, NA, h5, q v Z1 H1 (.refl w1.zh) h6⟩
      · rw [F1] at h1; cases h1
theorem ds_setf_none {o e : Expr} {f fo : Env → M (MemS X.K cl) D} {c fl : Str} {i : Nat} {tpos pos : Pos} (h0 : cl c = none) (sp : See p md) (he : DE cl (MemS X.K cl) md W X e f) (ho : DE cl (MemS X.K cl) true W X o fo)
    (hs : swapsWith e (some (.Attribute o fl tpos)) pos.line X.env = pure false := by rfl) :
    DS cl (MemS X.K cl) W X (.Assign [.Attribute o fl tpos] e pos) fun ρ => M.bind (f (seeE p ρ)) fun d => M.bind (fo (seeE pHide ρ)) fun x => M.bind (setfM c i x d) fun _ => M.pure (.nx ρ) := by
  refine PS.weak (ps_fld ho he hs) fun E σ H ⟨Z0, C0, H0, Z, C, s, ρ, α, c0, w, n, r, q⟩ => ?_
  refine ⟨seeZ p ρ α Z H, C, s, seeE p ρ, see_wd w r sp.nd, see_env sp r, PostS.seq sp w c0 n r q fun d s1 v Z1 C1 H1 w1 n1 r1 q1 => ?_⟩
  have u := see_un sp w c0 n r w1 n1
  have uw := u.wd; have un := u.nx; have ur := u.rel
  generalize unZ p ρ α Z1 = Zu at uw un ur
  refine ⟨seeZ pHide ρ α Zu H1, C1, s1, seeE pHide ρ, see_wd uw ur seeHide.nd, see_env seeHide ur, PostS.seq seeHide uw c0 un ur q1 fun x s2 vx Z2 C2 H2 w2 n2 r2 q2 => ?_⟩
  have u2 := see_un seeHide uw c0 un ur w2 n2
  have uw2 := u2.wd; have un2 := u2.nx; have ur2 := u2.rel
  rw [seeZ_hide pHide_no] at n2
  rw [unZ_hide pHide_no] at uw2 un2 ur2
  unfold setfM M.bind at q2
  cases x <;> (try (exact False.elim q2))
  rename_i ad0
  cases hm : s2.m ad0 with
  | none => simp only [hm] at q2; exact False.elim q2
  | some l =>
    cases l <;> (simp only [hm] at q2; try (exact False.elim q2))
    rename_i c' ds
    by_cases hd : c' = c ∧ d.imm = true ∧ i = ds.length
    · obtain ⟨rfl, hd, hil⟩ := hd
      obtain ⟨av, _, im, C7, dx, fs, ns, e0, e1, e2, e3⟩ := mem_at uw2 hm
      rw [h0] at e0; cases e0
    · simp only [if_neg hd] at q2; exact False.elim q2
theorem ds_setfo {fl : Str} {i : Nat} {cs : List Str} {o e : Expr} {fo f : Env → M (MemS X.K cl) D} {apos pos : Pos} (F : ∀ c ∈ cs, FldO X.K cl c fl i) (h0 : cs ≠ []) (sp : See p md) (he : DE cl (MemS X.K cl) md W X e f) (ho : DE cl (MemS X.K cl) true W X o fo)
    (hs : swapsWith e (some (.Attribute o fl apos)) pos.line X.env = pure false := by rfl) :
    DS cl (MemS X.K cl) W X (.Assign [.Attribute o fl apos] e pos) (sSetFs p cs i fo f) := by
  refine ⟨fun pins s σ H E I ⟨Z0, C0, H0, Z, C, st, ρ, α, c0, w, n, r, q⟩ => ?_⟩
  have hds : ∀ c ∈ cs, DS cl (MemS X.K cl) W X (.Assign [.Attribute o fl apos] e pos) (sSetF p c i fo f) := fun c hc => by
    rcases (F c hc).ex with h | h
    · exact ds_setf h sp he ho hs
    · exact ds_setf_none h sp he ho hs
  obtain ⟨c1, hc1⟩ := List.exists_mem_of_ne_nil cs h0
  have q : PostS X.K cl W Z0 C0 H0 (sSetFs (K := X.K) (cl := cl) p cs i fo f ρ st) E := q
  have key : ∃ c ∈ cs, (sSetFs (K := X.K) (cl := cl) p cs i fo f ρ st = sSetF (K := X.K) (cl := cl) p c i fo f ρ st) ∨ sSetFs (K := X.K) (cl := cl) p cs i fo f ρ st = .stuck := by
    cases e1 : f (seeE p ρ) st with
    | stuck => exact ⟨c1, hc1, .inl (by simp [sSetFs, sSetF, M.bind, e1])⟩
    | err x s1 => exact ⟨c1, hc1, .inl (by simp [sSetFs, sSetF, M.bind, e1])⟩
    | ok d s1 =>
      cases e2 : fo (seeE pHide ρ) s1 with
      | stuck => exact ⟨c1, hc1, .inl (by simp [sSetFs, sSetF, M.bind, e1, e2])⟩
      | err x s1 => exact ⟨c1, hc1, .inl (by simp [sSetFs, sSetF, M.bind, e1, e2])⟩
      | ok x s2 =>
        cases x <;> (try (refine ⟨c1, hc1, .inr ?_⟩; simp [sSetFs, M.bind, e1, e2, setfMs]; done))
        rename_i a
        cases em : s2.m a with
        | none => exact ⟨c1, hc1, .inr (by simp [sSetFs, M.bind, e1, e2, setfMs, em])⟩
        | some l =>
          cases l <;> (try (refine ⟨c1, hc1, .inr ?_⟩; simp [sSetFs, M.bind, e1, e2, setfMs, em]; done))
          rename_i c' ds
          by_cases hc : c' ∈ cs
          · exact ⟨c', hc, .inl (by simp [sSetFs, sSetF, M.bind, e1, e2, setfMs, setfM, em, hc])⟩
          · exact ⟨c1, hc1, .inr (by simp [sSetFs, M.bind, e1, e2, setfMs, em, hc])⟩
  obtain ⟨c, hc, eq | eq⟩ := key
  · rw [eq] at q
    exact (hds c hc).run pins s σ H E I ⟨Z0, C0, H0, Z, C, st, ρ, α, c0, w, n, r, q⟩
  · rw [eq] at q; exact False.elim q
end
end DN
namespace DN
open PySem PySem.Spec PyProof.Rows L2 RZ ND
def errNames : List Str := ((["HallError", "NoRow", "NoGame", "NoRows", "TooMany", "NoSide", "BadHall", "NoLot", "NoAim", "NoNumber", "NoGames"] ++ ["NoBoard", "NoWord", "NotTurn", "NotLet", "NothingDone", "NoLog", "NoMove", "NoAnswer", "NoPairing", "NotSpoiled", "Over", "NotFresh", "NoChoice", "NoSorts", "NoPoints", "NoStocks", "NoPrices", "NoRelay", "NoName", "Full", "BadText", "NoText", "NoLine", "NoKey"] : List String)).map Str.ofString
def t_of (x y : Str) : Option Bool := if y = x then some true else if y ∈ errNames then some false else none
def t_all (y : Str) : Option Bool := if y ∈ errNames then some true else none
@[simp] theorem t_of_self {x : Str} : t_of x x = some true := if_pos rfl
structure Cal (K : PySem.W.Frag) (mg : Str → Option Value) (x : Str) (g : Addr) (fd : FuncData) (ps : List Str) : Prop where
  mg : mg x = some (.ref g)
  kp : PySem.W.keepIn K (.ref g) = true
  b : Binds K fd ps []
structure CalM (K : PySem.W.Frag) (fd : FuncData) (ps : List Str) : Prop where
  b : Binds K fd ps []
structure CalC (K : PySem.W.Frag) (mg : Str → Option Value) (x : Str) (C : Addr) (fd : FuncData) (ps : List Str) : Prop where
  mg : mg x = some (.ref C)
  b : Binds K fd ps []
open Classical in
noncomputable def i_Hall : List D → IR
  | [.tup bs] => if 1 ≤ bs.length ∧ bs.length ≤ 12 ∧ ∀ b ∈ bs, BoardOk b then i_keep bs else .stuck
  | _ => .stuck
end DN
namespace DN
open PySem PySem.Spec PyProof.Rows L2 RZ ND
section
variable {K : PySem.W.Frag} {cl : CTab} {md : Bool} {Z Z0 : Zp} {C H C0 H0 : Hp} {m : Mem} {p : Addr} {d : D} {o : HO}
theorem mem_adopt (w : Wd (MemS K cl) md Z C H m) (zp : Z p = none) (cp : C p = none) (hp : H p = some o) (n : Nx Z0 C0 H0 Z C H) (h0 : H0 p = none) (r : MemR K cl (nameZ Z m.n p) (upd C p o) p d) :
    Wd (MemS K cl) md (nameZ Z m.n p) (upd C p o) H (m.push d) ∧ Nx Z0 C0 H0 (nameZ Z m.n p) (upd C p o) H := by
  have np : ∀ j, Z.μ j ≠ some p := fun j e => by
    obtain ⟨_, _, h⟩ := mem_name w e
    obtain ⟨o, ho⟩ := h.there
    rw [cp] at ho; cases ho
  have sm := nameZ_sub (p := p) (mem_free w)
  refine ⟨⟨w.zh, fun x u e => ?_, fun x e => ?_, ⟨fun j e => ?_, fun j d e => ?_, fun i j a => ?_, fun x e => ?_, fun j e => ?_⟩⟩, ⟨n.zz.trans sm, n.hh, n.zf, fun x e => ?_, fun x e => ?_, fun x od u e => (upd_ne (fun z => by have := n.lk x od u e; rw [z, cp] at this; cases this)).trans (n.lk x od u e)⟩⟩
  · by_cases hx : x = p
    · rw [hx, upd_same] at e; rw [hx, hp]; exact e
    · rw [upd_ne hx] at e; exact w.ch x u e
  · by_cases hx : x = p
    · rw [hx]; exact zp
    · rw [upd_ne hx] at e; exact w.dj x e
  · have e : (if j = m.n then some _ else m.m j) = none := e
    show (if j = m.n then some p else Z.μ j) = none
    split at e
    · cases e
    · rename_i q; rw [if_neg q]; exact w.sr.no j e
  · rename_i d2
    have e : (if j = m.n then some d2 else m.m j) = some d := e
    show ∃ a, (if j = m.n then some p else Z.μ j) = some a ∧ _
    split at e
    · rename_i q
      cases e
      exact ⟨p, by rw [if_pos q], r⟩
    · rename_i q
      obtain ⟨b, h1, h4⟩ := w.sr.yes j d e
      refine ⟨b, by rw [if_neg q]; exact h1, h4.monoZ sm (upd_ne fun z => ?_)⟩
      subst z
      exact np _ h1
  · show (if i = m.n then some p else Z.μ i) = some a → (if j = m.n then some p else Z.μ j) = some a → i = j
    intro e1 e2
    by_cases hi : i = m.n
    · by_cases hj : j = m.n
      · rw [hi, hj]
      · rw [if_pos hi] at e1; rw [if_neg hj] at e2; cases e1; exact absurd e2 (np j)
    · by_cases hj : j = m.n
      · rw [if_neg hi] at e1; rw [if_pos hj] at e2; cases e2; exact absurd e1 (np i)
      · rw [if_neg hi] at e1; rw [if_neg hj] at e2; exact w.sr.inj _ _ _ e1 e2
  · by_cases hx : x = p
    · exact ⟨m.n, by rw [hx]; exact if_pos rfl⟩
    · rw [upd_ne hx] at e
      obtain ⟨k, hk⟩ := w.sr.cov x e
      exact ⟨k, sm.m _ _ hk⟩
  · show (if j = m.n then some d else m.m j) = none
    have e : m.n + 1 ≤ j := e
    rw [if_neg (by omega)]
    exact w.sr.nx j (by omega)
  · by_cases hx : x = p
    · rw [hx]; exact .inr h0
    · rw [upd_ne hx] at e; exact n.cf x e
  · by_cases hx : x = p
    · rw [hx, upd_same]; exact fun z => nomatch z
    · rw [upd_ne hx]; exact n.cp x e
end
def D.memb : D → Bool
  | .lst ds => D.immL ds
  | .dct _ ds => D.immL ds
  | _ => false
def entM {K : PySem.W.Frag} {cl : CTab} (d : D) : M (MemS K cl) D := fun s => if d.memb = true then .ok (.ref s.n) (s.push d) else .stuck
section
variable {cl : CTab} {W : WX} {X : Cx}
theorem de_ent {e : Expr} {f : Env → M (MemS X.K cl) D} (h : DX cl (MemS X.K cl) true W X e f) : DE cl (MemS X.K cl) true W X e fun ρ => M.bind (f ρ) entM := by
  refine PE.weak h fun σ H Q ⟨Z, C, s, ρ, w, e, p⟩ => ⟨Z, C, s, ρ, w, e, ?_⟩
  unfold M.bind at p
  cases ef : f ρ s with
  | stuck => simp only [ef] at p; exact p
  | err x s1 => simp only [ef] at p; exact p
  | ok d s1 =>
    simp only [ef] at p
    intro a Z1 C1 H1 w1 n1 ha hz hc o
    unfold entM at p
    by_cases hm : d.memb = true
    · rw [if_pos hm] at p
      have sm := nameZ_sub (p := a) (mem_free w1)
      cases d with
      | lst ds =>
        obtain ⟨vs, h1, h2, h3⟩ := o
        obtain ⟨w2, n2⟩ := mem_adopt (d := .lst ds) w1 hz hc h1 n1 ha ⟨hm, vs, upd_same, h2, h3.mono sm⟩
        exact p _ _ _ _ w2 n2 (.ref nameZ_at)
      | dct ks ds =>
        obtain ⟨o, kvs, h1, dk, h2, h3, h4⟩ := o
        obtain ⟨w2, n2⟩ := mem_adopt (d := .dct ks ds) w1 hz hc h1 n1 ha ⟨hm, o, kvs, upd_same, dk, h2, h3, h4.mono sm⟩
        exact p _ _ _ _ w2 n2 (.ref nameZ_at)
      | _ => cases hm
    · rw [if_neg hm] at p; exact False.elim p
theorem dx_list {e : Expr} {f : Env → M (MemS X.K cl) D} {md : Bool} {p pos : Pos} (hg : Gl X "list") (hm : X.mg "list" = none) (ha : DE cl (MemS X.K cl) md W X e f)
    (he : starEach [e] X.env = (false, eval e X.env) :: starEach [] X.env := by rfl) (hpl : (backTo pos (starEach [] X.env)).any (·.1) = false := by rfl) :
    DX cl (MemS X.K cl) md W X (.Call (.Name "list" p) [e] [] pos) fun ρ => M.bind (f ρ) fun x => lift (listD [x]) := by
  refine PE.weak (pe_callTy call_list_of hg hm PyProof.Rows.boot_list (pa_cons ha pa_nil he) (by decide) (by decide) he hpl) fun σ H Q ⟨Z, C, s, ρ, w, e, p⟩ => ?_
  refine ⟨Z, C, s, ρ, w, e, PostO.seq w.ch p fun dx s1 x Z1 C1 H1 w1 n1 r1 p1 => ?_⟩
  have key : ∀ {ds : List D} {vs : List V} {q : Addr}, listD [dx] = some (.lst ds) → H1 q = none → vs.length ≤ sizeLine → RepL X.K cl Z1 vs ds → Q (.ref q) (upd H1 q (.lst vs)) := fun {ds vs q} e1 hq hl r => by
    rw [e1] at p1
    have z := none_of_sub w1.zh hq
    have c := none_of_sub w1.ch hq
    exact p1 q Z1 C1 _ (w1.mut z c) ((Nx.refl ..).mut hq) hq z c ⟨vs, upd_same, hl, r⟩
  cases dx with
  | tup ds => cases r1 with | tup a b c => exact ⟨_, _, rfl, .inr (sq_t (w1.zh _ _ a)), fun q hq => key rfl hq b c⟩
  | lst ds => cases r1 with | slst a b c => exact ⟨_, _, rfl, .inl (SqL.sub w1.zh a), fun q hq => key rfl hq b c⟩
  | _ => exact False.elim p1
end
abbrev LstG := List D → List D → Option (D × List D)
def mutM {K : PySem.W.Frag} {cl : CTab} (g : LstG) (x : D) (us : List D) : M (MemS K cl) D := fun s => match x with
  | .ref k => match s.m k with
    | some (.lst xs) => match g xs us with
      | some (r, ys) => if D.immL ys = true then .ok r (updM s k (some (.lst ys))) else .stuck
      | none => .stuck
    | _ => .stuck
  | _ => .stuck
def rdL {K : PySem.W.Frag} {cl : CTab} (x : D) : M (MemS K cl) (List D) := fun s => match x with
  | .ref k => match s.m k with
    | some (.lst xs) => .ok xs s
    | _ => .stuck
  | _ => .stuck
def MtV (K : PySem.W.Frag) (cl : CTab) (r : V → List V → Hp → VK → Prop) (g : LstG) : Prop := ∀ (Z : Zp) (H : Hp) (a : Addr) (vs us : List V) (xs ds ys : List D) (d : D) (Q : VK), Sub Z.h H → H a = some (.lst vs) → vs.length ≤ sizeLine → RepL K cl Z vs xs → RepL K cl Z us ds → g xs ds = some (d, ys) →
  (∀ v vs', RepL K cl Z vs' ys → vs'.length ≤ sizeLine → Rep K cl Z v d → Q v (upd H a (.lst vs'))) → r (.ref a) us H Q
end DN
namespace DN
open PySem PySem.Spec PyProof.Rows L2 RZ ND
def popAtG : LstG := fun xs us => match us with
  | [.int i] => match ixN xs.length i with
    | some k => (xs[k]?).map fun d => (d, xs.eraseIdx k)
    | none => none
  | _ => none
def insG : LstG := fun xs us => match us with
  | [.int i, d] => if xs.length < sizeLine ∧ 0 ≤ i ∧ i < 2 ^ 63 then some (.non, xs.take i.toNat ++ [d] ++ xs.drop i.toNat) else none
  | _ => none
section
variable {K : PySem.W.Frag} {cl : CTab} {Z : Zp}
theorem RepL.eraseIdx : ∀ {ds : List D} {vs : List V} (n : Nat), RepL K cl Z vs ds → RepL K cl Z (vs.eraseIdx n) (ds.eraseIdx n)
  | [], _, n, r => by cases r; exact .nil
  | d :: ds, _, 0, r => by cases r with | cons a b => exact b
  | d :: ds, _, n + 1, r => by cases r with | cons a b => exact .cons a (RepL.eraseIdx n b)
theorem mv_popAt : MtV K cl rPopAt popAtG := by
  intro Z H a vs us xs ds ys d Q h ha hl r1 r2 e q
  unfold popAtG at e
  split at e
  · rename_i i
    cases hk : ixN xs.length i with
    | none => simp only [hk] at e; cases e
    | some k =>
      simp only [hk] at e
      obtain ⟨y, h1, h2⟩ := Option.map_eq_some_iff.mp e
      cases h2
      obtain ⟨u, rfl, ru⟩ := repL1 r2
      cases ru
      obtain ⟨v, h3, h4⟩ := r1.get h1
      have hlen := r1.len
      obtain ⟨g1, g2, g3, g4⟩ := ixN_seq hk
      have hx : xs.length ≤ 16777216 := by rw [← hlen, ← sizeLine_eq]; exact hl
      have hk2 : seqIndex? i vs.length = some k ∧ -(2 ^ 63) ≤ i ∧ i < 2 ^ 63 := ⟨by rw [hlen]; exact g1, by omega, by omega⟩
      exact ⟨a, vs, i, k, v, rfl, rfl, ha, hk2.2.1, hk2.2.2, hk2.1, h3, q v _ (r1.eraseIdx k) (Nat.le_trans (len_erase vs k) hl) h4⟩
  · cases e
end
section
variable {cl : CTab} {W : WX} {X : Cx} {o e e2 : Expr} {fo f f2 : Env → M (MemS X.K cl) D} {apos cpos : Pos}
@[simp] abbrev xMut {K : PySem.W.Frag} {cl : CTab} (g : LstG) (fo : Env → M (MemS K cl) D) (fa : Env → M (MemS K cl) (List D)) : Env → M (MemS K cl) D := fun ρ => M.bind (fo ρ) fun x => M.bind (rdL x) fun _ => M.bind (fa ρ) fun us => mutM g x us
theorem mt_rm {id : String} {r : V → List V → Hp → VK → Prop} (h : MtM X id r) : MtR X id r := h
end
def derefM {K : PySem.W.Frag} {cl : CTab} (x : D) : M (MemS K cl) D := fun s => match x with
  | .ref k => match s.m k with
    | some (.lst ds) => .ok (.lst ds) s
    | some (.dct ks ds) => .ok (.dct ks ds) s
    | _ => .ok (.ref k) s
  | x => .ok x s
def derefL {K : PySem.W.Frag} {cl : CTab} : List D → M (MemS K cl) (List D)
  | [] => M.pure []
  | d :: ds => M.bind (derefM d) fun x => M.bind (derefL ds) fun xs => M.pure (x :: xs)
def immF (o : Option D) : Option D := o.bind fun d => if d.imm = true then some d else none
section
variable {cl : CTab} {md : Bool} {W : WX} {X : Cx}
def opM {K : PySem.W.Frag} {cl : CTab} (g : D → D → Option D) (x y : D) : M (MemS K cl) D := M.bind (derefM x) fun a => M.bind (derefM y) fun b => lift (immF (g a b))
def callBM {K : PySem.W.Frag} {cl : CTab} (g : List D → Option D) (xs : List D) : M (MemS K cl) D := M.bind (derefL xs) fun ys => lift (immF (g ys))
end
end DN
namespace DN
open PySem PySem.Spec PyProof.Rows L2 RZ ND
def rdD {K : PySem.W.Frag} {cl : CTab} (x : D) : M (MemS K cl) (List D × List D) := fun s => match x with
  | .ref k => match s.m k with
    | some (.dct ks ds) => .ok (ks, ds) s
    | _ => .stuck
  | _ => .stuck
def dgM {K : PySem.W.Frag} {cl : CTab} (x y : D) : M (MemS K cl) D := M.bind (rdD x) fun p => lift (y.key.bind fun k => lookD p.1 p.2 k)
def putM {K : PySem.W.Frag} {cl : CTab} (x y d : D) : M (MemS K cl) Unit := M.bind (rdD x) fun p => M.bind (lift y.key) fun k => fun s => match x with
  | .ref n => if p.1.length < sizeLine ∧ okK p.1 k = true ∧ d.imm = true then .ok () (updM s n (some (.dct (putKs p.1 k) (putVs p.1 p.2 k d)))) else .stuck
  | _ => .stuck
def rdK {K : PySem.W.Frag} {cl : CTab} (x : D) : M (MemS K cl) Unit := M.bind (rdD x) fun p => if kindT p.1 = true then fun _ => .stuck else M.pure ()
def sdM {K : PySem.W.Frag} {cl : CTab} (x y d : D) : M (MemS K cl) D := M.bind (rdD x) fun p => M.bind (lift y.key) fun k => if k.isT = true ∨ kindT p.1 = true ∨ ¬ p.1.length < sizeLine then fun _ => .stuck else match lookD p.1 p.2 k with
  | some v => M.pure v
  | none => M.bind (putM x y d) fun _ => M.pure d
end DN
namespace DN
open PySem PySem.Spec PyProof.Rows L2 RZ ND
def sortI (xs : List Int) : List Int := xs.mergeSort fun a b => decide (a ≤ b)
def sortKI (ks : List D) : Option D := (intsOf ks).bind fun xs => if xs.length < 64 then some (.lst ((sortI xs).map .int)) else none
section
variable {cl : CTab} {md : Bool} {W : WX} {X : Cx} {p q : D → Bool}
def setgM {K : PySem.W.Frag} {cl : CTab} (c : Str) (i : Nat) (x d : D) : M (MemS K cl) Unit := fun m => match x with
  | .ref a => match m.m a with
    | some (.ins c' ds) => if c' = c ∧ d.imm = true ∧ i < ds.length then .ok () (updM m a (some (.ins c (ds.set i d)))) else .stuck
    | _ => .stuck
  | _ => .stuck
open Classical in
noncomputable def chkM {K : PySem.W.Frag} {cl : CTab} (k : Nat) (ds : List D) : M (MemS K cl) Unit := fun s => if s.m k = some (.lst ds) then .ok () s else .stuck
noncomputable def forLM {K : PySem.W.Frag} {cl : CTab} (a : D → Option Asg) (F : SEnv → M (MemS K cl) Fl) (k : Nat) (ds0 : List D) : List D → SEnv → M (MemS K cl) Fl
  | [], ρ => M.bind (chkM k ds0) fun _ => M.pure (.nx ρ)
  | d :: ds, ρ => M.bind (chkM k ds0) fun _ => M.bind (lift (a d)) fun as => M.bind (F (setsS ρ as)) fun fl => match fl with
    | .nx ρ' => forLM a F k ds0 ds ρ'
    | .ct ρ' => forLM a F k ds0 ds ρ'
    | .bk ρ' => M.pure (.nx ρ')
    | .rt d => M.pure (.rt d)
    | .ro d => M.pure (.ro d)
noncomputable def forM {K : PySem.W.Frag} {cl : CTab} (a : D → Option Asg) (F : SEnv → M (MemS K cl) Fl) (x : D) (ρ : SEnv) : M (MemS K cl) Fl := M.bind (rdL x) fun ds => match x with
  | .ref k => forLM a F k ds ds ρ
  | _ => fun _ => .stuck
end
end DN
namespace DN
open PySem PySem.Spec PyProof.Rows L2 RZ ND
abbrev SrcD (K : PySem.W.Frag) (cl : CTab) := List D × M (MemS K cl) Unit
section
variable {cl : CTab} {md : Bool} {W : WX} {X : Cx} {tg : Expr}
noncomputable def srcM {K : PySem.W.Frag} {cl : CTab} (x : D) : M (MemS K cl) (SrcD K cl) := M.bind (rdL x) fun ds => match x with
  | .ref k => M.pure (ds, chkM k ds)
  | _ => fun _ => .stuck
end
def compA {K : PySem.W.Frag} {cl : CTab} (chk : M (MemS K cl) Unit) (f : List D → D → M (MemS K cl) (List D)) : List D → List D → M (MemS K cl) (List D)
  | acc, [] => M.bind chk fun _ => M.pure acc
  | acc, d :: ds => M.bind chk fun _ => M.bind (f acc d) fun acc' => compA chk f acc' ds
def turnA {K : PySem.W.Frag} {cl : CTab} (a : D → Option Asg) (t : Env → M (MemS K cl) Bool) (e : Env → M (MemS K cl) D) (ρ : Env) (acc : List D) (d : D) : M (MemS K cl) (List D) :=
  noErr (M.bind (lift ((a d).map (setsE ρ))) fun ρ' => M.bind (t ρ') fun k => if k = true then M.bind (e ρ') fun x => guardM (decide (acc.length < sizeLine)) (M.pure (acc ++ [x])) else M.pure acc)
def headF {K : PySem.W.Frag} {cl : CTab} (a : D → Option Asg) (t : Env → M (MemS K cl) Bool) (src : Env → M (MemS K cl) (SrcD K cl)) (ρ : Env) (d : D) : M (MemS K cl) (Option (Env × SrcD K cl)) :=
  noErr (M.bind (lift ((a d).map (setsE ρ))) fun ρ' => M.bind (t ρ') fun k => if k = true then M.bind (src ρ') fun x => M.pure (some (ρ', x)) else M.pure none)
def outA {K : PySem.W.Frag} {cl : CTab} (a : D → Option Asg) (t : Env → M (MemS K cl) Bool) (src : Env → M (MemS K cl) (SrcD K cl)) (own1 : List Nat) (a1 : D → Option Asg) (t1 : Env → M (MemS K cl) Bool) (e : Env → M (MemS K cl) D) (ρ : Env) (acc : List D) (d : D) : M (MemS K cl) (List D) :=
  M.bind (headF a t src ρ d) fun o => match o with
    | none => M.pure acc
    | some (ρ', sc) => compA sc.2 (turnA a1 t1 e (wipeE ρ' own1)) acc sc.1
end DN
namespace DN
open PySem PySem.Spec PyProof.Rows L2 RZ ND
section
variable {K : PySem.W.Frag} {cl : CTab}
@[simp] abbrev xEnt (f : Env → M (MemS K cl) D) : Env → M (MemS K cl) D := fun ρ => M.bind (f ρ) entM
@[simp] abbrev xLst0 (f : Env → M (MemS K cl) D) : Env → M (MemS K cl) D := fun ρ => M.bind (f ρ) fun x => lift (listD [x])
@[simp] abbrev xSrtK (f : Env → M (MemS K cl) D) : Env → M (MemS K cl) D := fun ρ => M.bind (f ρ) fun x => M.bind (rdD x) fun p => lift (sortKI p.1)
@[simp] abbrev xDgM (f1 f2 : Env → M (MemS K cl) D) : Env → M (MemS K cl) D := fun ρ => M.bind (f1 ρ) fun x => M.bind (f2 ρ) fun y => dgM x y
@[simp] abbrev xSdM (fo fk fv : Env → M (MemS K cl) D) : Env → M (MemS K cl) D := fun ρ => M.bind (fo ρ) fun x => M.bind (rdK x) fun _ => M.bind (fk ρ) fun y => M.bind (fv ρ) fun d => sdM x y d
@[simp] abbrev xOpM (g : D → D → Option D) (f1 f2 : Env → M (MemS K cl) D) : Env → M (MemS K cl) D := fun ρ => M.bind (f1 ρ) fun x => M.bind (f2 ρ) fun y => opM g x y
@[simp] abbrev xBM (g : List D → Option D) (f : Env → M (MemS K cl) (List D)) : Env → M (MemS K cl) D := fun ρ => M.bind (f ρ) fun xs => callBM g xs
@[simp] abbrev xMakeM (c : Str) (f : List D → M (MemS K cl) D) (fa : Env → M (MemS K cl) (List D)) : Env → M (MemS K cl) D := fun ρ => M.bind (fa ρ) fun ds => makeM c f ds
@[simp] abbrev sPutM (p : D → Bool) (fo fi f : Env → M (MemS K cl) D) : SEnv → M (MemS K cl) Fl := fun ρ => M.bind (f (seeE p ρ)) fun d => M.bind (fo (seeE pHide ρ)) fun x => M.bind (fi (seeE pHide ρ)) fun y => M.bind (putM x y d) fun _ => M.pure (.nx ρ)
@[simp] abbrev sSetG (p : D → Bool) (c : Str) (i : Nat) (fo f : Env → M (MemS K cl) D) : SEnv → M (MemS K cl) Fl := fun ρ => M.bind (f (seeE p ρ)) fun d => M.bind (fo (seeE pHide ρ)) fun x => M.bind (setgM c i x d) fun _ => M.pure (.nx ρ)
@[simp] noncomputable abbrev sForM (a : D → Option Asg) (f : Env → M (MemS K cl) D) (F : SEnv → M (MemS K cl) Fl) : SEnv → M (MemS K cl) Fl := fun ρ => M.bind (f (seeE pHide ρ)) fun x => forM a F x ρ
@[simp] abbrev srD (f : Env → M (MemS K cl) (List D)) : Env → M (MemS K cl) (SrcD K cl) := fun ρ => M.bind (f ρ) fun ds => M.pure (ds, M.pure ())
@[simp] noncomputable abbrev srM (f : Env → M (MemS K cl) D) : Env → M (MemS K cl) (SrcD K cl) := fun ρ => M.bind (f ρ) srcM
@[simp] abbrev xLc2 (own own1 : List Nat) (b : D → Option Asg) (t : Env → M (MemS K cl) Bool) (b1 : D → Option Asg) (t1 : Env → M (MemS K cl) Bool) (fe : Env → M (MemS K cl) D) (src src1 : Env → M (MemS K cl) (SrcD K cl)) : Env → M (MemS K cl) D := fun ρ => M.bind (src ρ) fun sc => M.bind (compA sc.2 (outA b t src1 own1 b1 t1 fe (wipeE ρ own)) [] sc.1) fun r => M.pure (D.lst r)
end
end DN
namespace DN
open PySem PySem.Spec PyProof.Rows L2 RZ ND
section
variable {K : PySem.W.Frag} {cl : CTab} {k n : Nat} {s : Mem} {ds xs ks vs us : List D} {d e y : D}
theorem wp_ixr {R : D → Mem → Prop} {i : Int} (h : s.m k = some (.lst xs)) (hi : atI xs i = some d) : wp (ixM (K := K) (cl := cl) (.ref k) (.int i)) R s ↔ R d s := by simp [wp, ixM, rdM, M.bind, h, hi, lift, M.pure]
theorem wp_lenr {R : D → Mem → Prop} (h : s.m k = some (.lst xs)) : wp (lenM (K := K) (cl := cl) (.ref k)) R s ↔ R (.int xs.length) s := by simp [wp, lenM, rdM, M.bind, h, lift, M.pure]
theorem wp_ent {R : D → Mem → Prop} (h : d.memb = true) : wp (entM (K := K) (cl := cl) d) R s ↔ R (.ref s.n) (s.push d) := by simp [wp, entM, h]
variable {a : D → Option Asg} {F : SEnv → M (MemS K cl) Fl} {R : Fl → Mem → Prop}
end
end DN
namespace DN
open PySem PySem.Spec PyProof.Rows L2 RZ ND
section
variable {K : PySem.W.Frag} {cl : CTab}
@[simp] abbrev tCmM (g : D → D → Option D) (f1 f2 : Env → M (MemS K cl) D) : Env → M (MemS K cl) Bool := fun ρ => M.bind (f1 ρ) fun x => M.bind (f2 ρ) fun y => M.bind (opM g x y) fun d => lift (D.asB d)
end
end DN
namespace DN
open PySem PySem.Spec PyProof.Rows L2 RZ ND
variable {B : Sto}
@[simp] def sExt (p q : D → Bool) (i : Nat) (f : Env → M B D) : SEnv → M B Fl := fun ρ => match ρ[i]? with
  | some (.own (.lst ds)) => M.bind (f (seeE p ρ)) fun d => match d with
    | .lst es => guardM (q d && es.all (fun e => !e.isMut) && decide (ds.length + es.length ≤ sizeLine)) (M.pure (.nx (ρ.set i (.own (.lst (ds ++ es))))))
    | _ => fun _ => .stuck
  | _ => fun _ => .stuck
end DN
namespace DN
open PySem PySem.Spec PyProof.Rows L2 RZ ND
section
variable {cl : CTab} {md : Bool} {W : WX} {X : Cx} {B : Sto}
@[simp] noncomputable abbrev xSrt (f : Env → M B D) : Env → M B D := fun ρ => M.bind (f ρ) fun x => lift (sortedDD [x])
end
end DN
namespace DN
open PySem PySem.Spec PyProof.Rows L2 RZ ND
variable {B : Sto}
end DN
namespace DN
open PySem PySem.Spec PyProof.Rows L2 RZ ND
variable {B : Sto}
def keysI : D → Option (List D)
  | .dct ks _ => some ks
  | _ => none
@[simp] def sForK (i : Nat) (a : D → Option Asg) (F : SEnv → M B Fl) : SEnv → M B Fl := fun ρ => M.bind (eVar i (seeE pHide ρ)) fun d => M.bind (lift (keysI d)) fun ks => noErr (forL a F ks ρ)
theorem PS.or {X : Cx} {st : Stmt} {t t' : TS} (h : PS X st t) (h' : PS X st t') : PS X st (fun E σ H => t E σ H ∨ t' E σ H) := ⟨fun pins s σ H D I q => q.elim (h.run pins s σ H D I) (h'.run pins s σ H D I)⟩
end DN
namespace DN
open PySem PySem.Spec PyProof.Rows L2 RZ ND
variable {B : Sto}
@[simp] abbrev xLcK (own : List Nat) (b : D → Option Asg) (t : Env → M B Bool) (fe : Env → M B D) (i : Nat) : Env → M B D := fun ρ => M.bind (eVar i ρ) fun d => M.bind (lift (keysI d)) fun ds => M.bind (compL (compF b t fe (wipeE ρ own)) ds) fun r => M.pure (.lst r)
@[simp] abbrev xDcK (own : List Nat) (b : D → Option Asg) (t : Env → M B Bool) (fk fe : Env → M B D) (i : Nat) : Env → M B D := fun ρ => M.bind (eVar i ρ) fun d => M.bind (lift (keysI d)) fun ds => M.bind (compL (compFD b t fk fe (wipeE ρ own)) ds) fun r => lift (putAll [] [] r)
end DN
namespace DN
open PySem PySem.Spec PyProof.Rows L2 RZ ND
variable {B : Sto}
end DN
namespace DN
open PySem PySem.Spec PyProof.Rows L2 RZ ND
theorem flat_rep {K : PySem.W.Frag} {cl : CTab} {Z : Zp} {H : Hp} : ∀ {vs : List V} {F : Addr → Prop} {ds : List D}, (∀ d ∈ ds, d.isMut = false) → OwnTL K cl Z H F vs ds → RepL K cl Z vs ds
  | [], _, _, _, t => by cases t; exact .nil
  | v :: vs, _, _, h, t => by
    cases t with
    | cons a b c o f =>
      rename_i F1 F2 d1 ds1
      refine .cons ?_ (flat_rep (fun d hd => h d (List.mem_cons_of_mem _ hd)) f)
      have := h d1 List.mem_cons_self
      cases o with
      | leaf _ r => exact r
      | lst => simp [D.isMut] at this
      | dct => simp [D.isMut] at this
def lstAt (ds : List D) (j : Nat) : Option (List D) := match ds[j]? with
  | some (.ins c [.lst es]) => if c = "" then some es else none
  | _ => none
def atK (ks ds : List D) (k : D) : Option (Nat × List D) := (k.key.bind fun k => ixK ks k).bind fun j => (lstAt ds j).map fun es => (j, es)
@[simp] def sAppK {B : Sto} (p q : D → Bool) (i : Nat) (fk f : Env → M B D) : SEnv → M B Fl := fun ρ => match ρ[i]? with
  | some (.own (.dct ks ds)) => M.bind (fk (seeE pHide ρ)) fun k => M.bind (lift (atK ks ds k)) fun je => M.bind (f (seeE p ρ)) fun d => guardM (q d && !d.isMut && decide (je.2.length < sizeLine)) (M.pure (.nx (ρ.set i (.own (.dct ks (ds.set je.1 (.ins "" [.lst (je.2 ++ [d])])))))))
  | _ => fun _ => .stuck
abbrev flatL (ds : List D) : Bool := ds.all fun d => !d.isMut
theorem flatL_all {ds : List D} (h : flatL ds = true) : ∀ d ∈ ds, d.isMut = false := fun d hd => by simpa using List.all_eq_true.mp h d hd
end DN
namespace DN
open PySem PySem.Spec PyProof.Rows L2 RZ ND
def mutO (q : D → Bool) (g : LstG) (xs us : List D) : Option (D × List D) := if (us.all q && flatL xs) = true then (g xs us).bind fun r => if (flatL r.2 && !r.1.isMut) = true then some r else none else none
@[simp] def sMutO {B : Sto} (p q : D → Bool) (i : Nat) (g : LstG) (fa : Env → M B (List D)) : SEnv → M B Fl := fun ρ => match ρ[i]? with
  | some (.own (.lst xs)) => M.bind (fa (seeE p ρ)) fun us => M.bind (lift (mutO q g xs us)) fun r => M.pure (.nx (ρ.set i (.own (.lst r.2))))
  | _ => fun _ => .stuck
@[simp] def sPopO {B : Sto} (p q : D → Bool) (j i : Nat) (g : LstG) (fa : Env → M B (List D)) : SEnv → M B Fl := fun ρ => match ρ[i]? with
  | some (.own (.lst xs)) => M.bind (fa (seeE p ρ)) fun us => M.bind (lift (mutO q g xs us)) fun r => M.pure (.nx ((ρ.set i (.own (.lst r.2))).set j (.val r.1)))
  | _ => fun _ => .stuck
section
variable {B : Sto} {cl : CTab} {md : Bool} {W : WX} {X : Cx} {p q : D → Bool} {i j : Nat} {x y : Str}
theorem rep_all {K : PySem.W.Frag} {Z1 : Zp} {C1 H1 : Hp} {Z0 : Zp} {C0 H0 : Hp} {ρ : SEnv} {σ : L2.St} {α : Nat → Addr → Prop} {s1 : B.T} (u : Un p K cl B Z0 C0 H0 ρ σ α Z1 C1 H1 s1) (kp : Kp p q) : ∀ {us : List V} {ds : List D}, ds.all q = true → RepL K cl Z1 us ds → RepL K cl (unZ p ρ α Z1) us ds
  | [], _, _, r => by cases r; exact .nil
  | v :: us, _, h, r => by
    cases r with
    | cons a b =>
      rw [List.all_cons, Bool.and_eq_true] at h
      exact .cons (u.rep kp h.1 a) (rep_all u kp h.2 b)
theorem mutO_core {K : PySem.W.Frag} {r : V → List V → Hp → VK → Prop} {g : LstG} (hr : MtV K cl r g) {Z1 Z0 : Zp} {C1 H1 C0 H0 : Hp} {ρ : SEnv} {σ : L2.St} {α : Nat → Addr → Prop} {s1 : B.T} {us : List V} {ds xs : List D} {res : D × List D} {a : Addr} {Q : VK}
    (kp : Kp p q) (u : Un p K cl B Z0 C0 H0 ρ σ α Z1 C1 H1 s1) (hρ : ρ[i]? = some (.own (.lst xs))) (hσ : σ[i]? = some (some (.ref a))) (hd : RepL K cl Z1 us ds) (hg : mutO q g xs ds = some res)
    (h : ∀ v H', Wd B true (unZ p ρ α Z1) C1 H' s1 → Nx Z0 C0 H0 (unZ p ρ α Z1) C1 H' → SRel K cl (unZ p ρ α Z1) C1 H' H0 (ρ.set i (.own (.lst res.2))) σ (upd1 α i (α i)) → Rep K cl (unZ p ρ α Z1) v res.1 → Q v H') : r (.ref a) us H1 Q := by
  unfold mutO at hg
  split at hg
  case isFalse => cases hg
  rename_i hq
  rw [Bool.and_eq_true] at hq
  obtain ⟨res', hg1, hg2⟩ := Option.bind_eq_some_iff.mp hg
  split at hg2
  case isFalse => cases hg2
  rename_i hf
  cases hg2
  rw [Bool.and_eq_true] at hf
  obtain ⟨rd, ys⟩ := res
  obtain ⟨a', vs, hσ', fa, h1, h2, h3⟩ := own_lst u.rel hρ
  obtain rfl : a' = a := by rw [hσ] at hσ'; cases hσ'; rfl
  refine hr (unZ p ρ α Z1) H1 a' vs us xs ds ys rd Q u.wd.zh h1 h2 (flat_rep (flatL_all hq.2) h3) (rep_all u kp hq.1 hd) hg1 fun v vs' g1 g2 g3 => ?_
  obtain ⟨w2, n2, r2⟩ := own_mut (i := i) (o := .lst vs') (d' := .lst ys) (F := α i) u.wd u.nx u.rel hρ hσ fa rfl (fun _ h => h) (.lst fa upd_same g2 (.ofRep (flatL_all hf.1) g1))
  exact h v _ w2 n2 r2 g3
theorem ds_popO {r : V → List V → Hp → VK → Prop} {g : LstG} {name : Str} {id : String} {e : Expr} {es : List Expr} {fa : Env → M B (List D)} {px apos cpos pos pos' : Pos} (sp : See p md) (kp : Kp p q) (slot : Slot "list" name id) (hty : typeOf (.builtin id) = pure (.type "method_descriptor")) (hm : MtR X id r) (hr : MtV X.K cl r g)
    (hN : X.N.Nodup) (hj : X.N[j]? = some y) (hy : Loc X.env.scope y) (hv : PE X (.Name x px) (tVar i)) (ha : DA cl B md W X (e :: es) fa)
    (hbase : attributeBase (.Name x px) name X.env (eval (.Name x px) X.env) = eval (.Name x px) X.env := by rfl)
    (hfew : ((backTo cpos (starEach (e :: es) X.env)).all (fun x => !x.1) && (backToKw cpos (keywordEach [] X.env)).all (fun x => x.1.isSome)
      && decide ((e :: es).length + ([] : List Keyword).length + (if ([] : List Keyword).isEmpty then 0 else 1) < 30)) = true := by rfl)
    (hline : (apos.endLine == cpos.line) = true := by rfl) (hs : starEach (e :: es) X.env = (false, eval e X.env) :: starEach es X.env := by rfl) (hplain : (backTo cpos (starEach es X.env)).any (·.1) = false := by rfl)
    (hsw : swapsWith (.Call (.Attribute (.Name x px) name apos) (e :: es) [] cpos) (some (.Name y pos')) pos.line X.env = pure false := by rfl)
    (hf : X.fn y = true ∨ X.env.scope.names.lookup y = some .local := by first | exact .inl rfl | exact .inr rfl | assumption) :
    DS cl B W X (.Assign [.Name y pos'] (.Call (.Attribute (.Name x px) name apos) (e :: es) [] cpos) pos) (sPopO p q j i g fa) := by
  refine PS.weak (ps_set hN hj hy (pe_bm PySem.F.plainAttrs_list slot hty hm hv ha hbase hfew hline hs hplain) hsw hf) fun E σ H ⟨Z0, C0, H0, Z, C, s, ρ, α, c0, w, n, r, q0⟩ => ?_
  unfold sPopO at q0
  cases hρ : ρ[i]? with
  | none => simp only [hρ] at q0; exact False.elim q0
  | some sl =>
    cases sl with
    | no => simp only [hρ] at q0; exact False.elim q0
    | val d => simp only [hρ] at q0; exact False.elim q0
    | own d =>
      cases d <;> (try (simp only [hρ] at q0; exact False.elim q0))
      rename_i xs
      simp only [hρ] at q0
      obtain ⟨a, vs, hσ, fa', h1, h2, h3⟩ := own_lst r hρ
      refine ⟨_, hσ, .inl ⟨rfl, vs, SqL.of h1⟩, ?_⟩
      refine ⟨seeZ p ρ α Z H, C, s, seeE p ρ, see_wd w r sp.nd, see_env sp r, PostS.seq sp w c0 n r q0 fun ds s1 us Z1 C1 H1 w1 n1 r1 q1 => ?_⟩
      have u := see_un sp w c0 n r w1 n1
      have q1 : PostS X.K cl W Z0 C0 H0 (M.bind (lift (mutO q g xs ds)) (fun r => M.pure (.nx ((ρ.set i (.own (.lst r.2))).set j (.val r.1)))) s1) E := q1
      cases hg : mutO q g xs ds with
      | none => rw [hg] at q1; exact False.elim q1
      | some res =>
        rw [hg] at q1
        refine mutO_core hr kp u hρ hσ r1.1 hg fun v H' w2 n2 r2 rv => ?_
        exact q1 _ _ _ _ _ w2 n2 (r2.setVal rv)
theorem mv_ins {K : PySem.W.Frag} : MtV K cl (fun x vs H Q => ∃ (l : Addr) (xs : List V) (i : Int) (y : V), x = .ref l ∧ vs = [.int i, y] ∧ H l = some (.lst xs) ∧ xs.length < sizeLine ∧ 0 ≤ i ∧ i < 2 ^ 63 ∧ Q .non (upd H l (.lst (xs.take i.toNat ++ [y] ++ xs.drop i.toNat)))) insG := by
  intro Z H a vs us xs ds ys d Q h ha hl r1 r2 e q
  unfold insG at e
  split at e
  case h_2 => cases e
  rename_i i d'
  split at e
  case isFalse => cases e
  rename_i hc
  cases e
  cases r2 with
  | cons ra rb =>
  cases ra
  cases rb with
  | cons rc rd =>
  cases rd
  rename_i y
  refine ⟨a, vs, i, y, rfl, rfl, ha, by rw [r1.len]; exact hc.1, hc.2.1, hc.2.2, q _ _ (((r1.take _).append (.cons rc .nil)).append (r1.drop _)) ?_ .non⟩
  have := r1.len
  simp only [List.length_append, List.length_take, List.length_drop, List.length_cons, List.length_nil]
  have := hc.1
  omega
end
end DN
namespace DN
open PySem PySem.Spec PyProof.Rows L2 RZ ND
def asDc : D → Option (List D × List D)
  | .dct ks ds => some (ks, ds)
  | _ => none
def getDD (p : List D × List D) (y z : D) : Option D := y.key.bind fun k => if okK p.1 k = true then some ((lookD p.1 p.2 k).getD z) else none
section
variable {B : Sto} {cl : CTab} {md : Bool} {W : WX} {X : Cx}
@[simp] abbrev xGet1 (fo fk : Env → M B D) : Env → M B D := fun ρ => M.bind (fo ρ) fun x => M.bind (lift (asDc x)) fun p => M.bind (fk ρ) fun y => lift (getDD p y .non)
@[simp] abbrev xGet2 (fo fk fx : Env → M B D) : Env → M B D := fun ρ => M.bind (fo ρ) fun x => M.bind (lift (asDc x)) fun p => M.bind (fk ρ) fun y => M.bind (fx ρ) fun z => lift (getDD p y z)
end
def tyD (T : String) : D → Bool
  | .lst _ => T == "list"
  | .str _ => T == "str"
  | _ => false
section
variable {B : Sto} {cl : CTab} {md : Bool} {W : WX} {X : Cx}
@[simp] abbrev xBm (T : String) (g : D → List D → Option D) (fo : Env → M B D) (fa : Env → M B (List D)) : Env → M B D := fun ρ => M.bind (fo ρ) fun x => guardM (tyD T x) (M.bind (fa ρ) fun us => lift (g x us))
@[simp] abbrev xBm0 (T : String) (g : D → List D → Option D) (fo : Env → M B D) : Env → M B D := fun ρ => M.bind (fo ρ) fun x => guardM (tyD T x) (lift (g x []))
end
end DN
namespace DN
open PySem PySem.Spec PyProof.Rows L2 RZ ND
section
variable {B : Sto}
@[simp] abbrev xDcO (own : List Nat) (b : D → Option Asg) (t : Env → M B Bool) (fk fe : Env → M B D) (src : Env → M B (List D)) : Env → M B D := fun ρ => M.bind (src ρ) fun ds => M.bind (compL (compFD b t fk fe (wipeE ρ own)) ds) fun r => M.bind (lift (putAll [] [] r)) fun d => M.pure (D.mt d)
end
def strsD : D → Option (List Str)
  | .lst ds => strsOf ds
  | .tup ds => strsOf ds
  | _ => none
def joinD (x : D) (us : List D) : Option D := match x, us with
  | .str a, [d] => (strsD d).bind fun ys => if (ys.map (·.length)).sum + ys.length * a.length ≤ 16777216 ∧ (Txt.join a ys).length ≤ sizeLine ∧ PyData.strOk (Txt.join a ys) = true then some (.str (Txt.join a ys)) else none
  | _, _ => none
end DN
namespace PySem
open Sem (wp)
open PySem.Calls PyProof.Rows PySem.W PySem.SeqAt
section
variable {prog : Program} {w : World} {A : Around} {E : Value → Shared → Prop} {s : Shared} {d : Addr} {es : Array DictEntry} {ep : Nat} {Q : Value → Shared → Prop}
abbrev keysV (es : Array DictEntry) : List Value := es.toList.map fun e => e.key
theorem items_keys {acc : Array Value} (h : ItemsOf (fun i v => ∃ hi : i < es.size, v = es[i].key) acc es.size) : acc.toList = keysV es := by
  refine List.ext_getElem? fun i => ?_
  by_cases hi : i < acc.size
  · have e1 : acc[i]? = some acc[i] := Array.getElem?_eq_getElem hi
    obtain ⟨hj, e2⟩ := h.2 i _ e1
    rw [Array.getElem?_toList, e1, e2]
    simp [keysV, hj]
  · have hj : ¬ i < es.size := by rw [← h.1]; exact hi
    rw [List.getElem?_eq_none (by simpa using hi), List.getElem?_eq_none (by simpa [keysV] using hj)]
end
end PySem
namespace DN
open PySem PySem.Spec PyProof.Rows L2 RZ ND
theorem keys_NPair {P : Program} {w : World} : ∀ {l : NL} {xs : List (NestedKey × Addr × Value)}, NPair l xs → (xs.map (entryOfKey (nestedKind P w))).map (fun e => e.key) = l.map fun p => Value.ref p.2.1 := by
  intro l xs r
  unfold NPair at r
  induction r with
  | nil => rfl
  | @cons p q ps qs h t ih =>
    obtain ⟨_, h2, _⟩ := h
    rw [List.map_cons, List.map_cons, List.map_cons, ih, h2]
    rfl
theorem dk_tup {cl : CTab} {Z : Hp} {a : Addr} {o : HO} {kvs : List (GK × V)} (dk : DKV cl Z a o kvs) (h : kindT (kvs.map fun p => keyD p.1) = true) : ∃ l : NL, o = dN cl.P cl.w a l ∧ kvs = l.map (fun p => (.inr p.1, p.2.2)) ∧ KsAt Z l := by
  rcases dk with ⟨l, h1, h2⟩ | ⟨l, h0, h1, h2, h3⟩
  · subst h2
    cases l with
    | nil => cases h
    | cons p l => rcases p with ⟨k | k, v⟩ <;> cases h
  · exact ⟨l, h1, h2, h3⟩
end DN
namespace PySem
open Sem (wp)
open PySem.Calls PyProof.Rows PySem.W PySem.SeqAt
section
variable {prog : Program} {w : World} {A : Around} {E : Value → Shared → Prop} {s : Shared} {d : Addr} {es : Array DictEntry} {ep : Nat} {Q : Value → Shared → Prop}
theorem list_raw (hh : A.handled = none) (lo : (d == sysModules) = false) (hm : s.heap.DictRaw d es ep) (hn : es.size ≤ sizeLine)
    (h : ∀ (h' : Heap) (tk : Nat) (l : Addr) (n : Nat), (∀ b o, s.heap.get? b = some o → h'.get? b = some o) → s.heap.objs.size ≤ l → h'.get? l = some (seqObj "list" (keysV es).toArray n) → Q (.ref l) { s with heap := h', toks := tk }) :
    wpAny (model prog w) A (call (.type "list") [.ref d]) Q E s :=
  kdl_call (KdlSrc.rawDict lo) hh hm hn fun h' tk acc c hk hS hacc => h h' tk _ c hk (Nat.le_refl _) (by
    rw [← items_keys hacc, Array.toArray_toList]
    exact hS)
end
end PySem
namespace DN
open PySem PySem.Spec PyProof.Rows L2 RZ ND
variable {B : Sto}
def key1 (x y : D) : Option D := x.key.bind fun k => if (k.isT && k.low) = true then some (.dct [keyD k] [y]) else none
@[simp] abbrev xDct1 (fk fv : Env → M B D) : Env → M B D := fun ρ => M.bind (fk ρ) fun x => M.bind (fv ρ) fun y => lift (key1 x y)
def rListDN (cl : CTab) : List V → Hp → VK → Prop := fun vs H Q => ∃ (a : Addr) (l : NL), vs = [V.ref a] ∧ Rd H a (dN cl.P cl.w a l) ∧ KsAt H l ∧ ∀ p, H p = none → l.length ≤ sizeLine → Q (.ref p) (upd H p (.lst (l.map fun p => V.ref p.2.1)))
theorem cr_listDN {cl : CTab} {X : Cx} (hcl : ClOk cl X) (hc : X.calm = true) : CallR X (.type "list") (rListDN cl) := by
  intro pins s σ H vs us Q I r h
  obtain ⟨a, l, rfl, rd, ka, q⟩ := h
  rw [← hcl.p, ← hcl.w] at rd
  rw [Vals.ref1 r]
  obtain ⟨z, lo, xs, rel, dd⟩ := dn_rd I.hok rd ka
  obtain ⟨o, es, ep, ho, hx, hdat, hes, his, hn⟩ := dd
  have raw : s.heap.DictRaw a es ep := ⟨o, ho, hx, hdat⟩
  have hh : X.A.handled = none := I.ok.hd hc
  have hkeys : keysV es = l.map fun p => Value.ref p.2.1 := by
    unfold keysV
    rw [hes]
    exact keys_NPair rel
  have hlen : es.size = l.length := by
    have := congrArg List.length hkeys
    simpa [keysV] using this
  refine list_raw hh lo raw (by rw [hlen]; exact z) fun h' tk p n hk hp hat => ?_
  have hv : Vals (l.map fun p => V.ref p.2.1) (keysV es) := by
    rw [hkeys]
    clear q hkeys rel ka rd hes hn his hdat raw hlen z
    induction l with
    | nil => exact .nil
    | cons p l ih => exact .cons rfl ih
  exact ⟨.ref p, upd H p (.lst (l.map fun p => V.ref p.2.1)), I.laid (t' := tk) hk hp ⟨by rw [List.length_map]; exact z, _, n, hv, hat⟩, rfl, q p (I.hok.fresh hp) z⟩
theorem v_listDN {cl : CTab} {K : PySem.W.Frag} {Z : Zp} {H : Hp} {x : V} {ks ds : List D} {Q : VK} (h : Sub Z.h H) (r : Rep K cl Z x (.dct ks ds)) (hk : kindT ks = true)
    (q : ∀ p vs, H p = none → vs.length ≤ sizeLine → RepL K cl Z vs ks → Q (.ref p) (upd H p (.lst vs))) : rListDN cl [x] H Q := by
  cases r with
  | dct a dk b n c =>
    rename_i aa o kvs
    subst b
    obtain ⟨l, rfl, hkv, ka⟩ := dk_tup dk hk
    refine ⟨_, l, rfl, sub_rd h a, ka.mono fun _ _ q => h _ _ q, fun p hp hz => q p _ hp (by rw [List.length_map]; exact hz) ?_⟩
    have e : (kvs.map fun p => keyD p.1) = l.map fun p => keyD (.inr p.1) := by rw [hkv, List.map_map]; rfl
    rw [e]
    clear q a dk hkv e c n hk hz
    induction l with
    | nil => exact .nil
    | cons p l ih => exact .cons (rep_of_kat (.tup p.1) (ka p List.mem_cons_self).1) (ih fun q hq => ka q (List.mem_cons_of_mem _ hq))
@[simp] def sSetI (p : D → Bool) (i : Nat) (f : Env → M B D) : SEnv → M B Fl := fun ρ => M.bind (f (seeE p ρ)) fun d => if d.imm = true then M.pure (.nx (ρ.set i (.val d))) else fun _ => .stuck
end DN
namespace ND
open PySem PySem.Spec PyProof.Rows L2
theorem fm_congr {α β : Type} {f g : α → Option β} : ∀ {l : List α}, (∀ a ∈ l, f a = g a) → l.filterMap f = l.filterMap g
  | [], _ => rfl
  | a :: l, h => by
    rw [List.filterMap_cons, List.filterMap_cons, h a List.mem_cons_self, fm_congr fun b hb => h b (List.mem_cons_of_mem _ hb)]
theorem getD_rev (its : List Value) : ∀ m, m ≤ its.length → ((List.range m).filterMap fun k => its[its.length - 1 - k]?) = its.reverse.take m
  | 0, _ => by simp
  | m + 1, h => by
    have e5 : its[its.length - 1 - m]? = some (its.reverse[m]'(by rw [List.length_reverse]; omega)) := by
      rw [List.getElem_reverse]
      exact List.getElem?_eq_getElem (by omega)
    have hr : m < its.reverse.length := by rw [List.length_reverse]; omega
    rw [List.range_succ, List.filterMap_append, getD_rev its m (by omega), List.take_succ_eq_append_getElem hr]
    simp only [List.filterMap_cons, List.filterMap_nil, e5]
theorem rev_pick (its : List Value) : ((List.range its.length).filterMap fun k => its[its.length - 1 - k]?) = its.reverse := by
  rw [getD_rev its _ (Nat.le_refl _)]
  exact List.take_of_length_le (by simp)
theorem slicePick_rev (its : List Value) : slicePick its.toArray none none (some (-1)) = its.reverse.toArray := by
  unfold slicePick
  congr 1
  have hb : sliceBounds none none (some (-1)) its.toArray.size = ((its.length : Int) - 1, -1, -1) := by
    unfold sliceBounds
    simp
  rw [hb]
  unfold sliceRange
  have h0 : ¬ ((-1 : Int) > 0) := by decide
  have hc : (if (-1 : Int) > 0 then (if ((its.length : Int) - 1) < -1 then (-1 - ((its.length : Int) - 1) + -1 - 1) / -1 else 0) else (if ((its.length : Int) - 1) > -1 then (((its.length : Int) - 1) - -1 - -1 - 1) / (- -1) else 0)).toNat = its.length := by
    rw [if_neg h0]
    by_cases hn : ((its.length : Int) - 1) > -1
    · rw [if_pos hn]
      have e : (- -1 : Int) = 1 := by decide
      rw [e, Int.ediv_one]
      omega
    · rw [if_neg hn]; omega
  simp only [] at hc ⊢
  rw [hc, List.filterMap_map]
  refine Eq.trans ?_ (rev_pick its)
  refine ND.fm_congr fun k hk => ?_
  have hk := List.mem_range.mp hk
  have e : ((its.length : Int) - 1 + -1 * (k : Int)).toNat = its.length - 1 - k := by omega
  show its.toArray[((its.length : Int) - 1 + -1 * (k : Int)).toNat]? = _
  rw [e]
  simp
end ND
namespace HT
open PySem PySem.Spec PyProof.Rows L2
section
variable {prog : Program} {w : World} {A : Around} {E : Value → Shared → Prop} {s : Shared}
theorem sliceApplied_rev {sl : Addr} {t : Tok} {n : Nat} {Q : Int × Int × Nat → Shared → Prop} (hs : s.heap.IsSliceOf sl .none .none (.int (-1) t))
    (h : Q ((n : Int) - 1, -1, n) s) : wpAny (model prog w) A (Builtin.Slice.sliceApplied (.ref sl) (pure (n : Int))) Q E s := by
  obtain ⟨os, hos, hcs, hds⟩ := id hs
  unfold Builtin.Slice.sliceApplied Builtin.Slice.sliceFields
  refine wpAny_bind (wpAny_bind (wpAny_field hos hds (x := .none) rfl (wpAny_bind (wpAny_field hos hds (x := .none) rfl (wpAny_bind (wpAny_field hos hds (x := .int (-1) t) rfl (wpAny_pure ?_)))))))
  refine wpAny_bind (slicePart_int ?_)
  show wpAny _ _ (if ((-1 : Int) == 0) = true then _ else _) _ _ s
  rw [if_neg (by decide)]
  refine wpAny_bind (slicePart_none (wpAny_bind (slicePart_none (wpAny_bind (wpAny_pure ?_)))))
  have e1 : Builtin.Slice.sliceAdjust none none (-1) (n : Int) = ((n : Int) - 1, -1) := rfl
  have e2 : Builtin.Slice.slicePlaces ((n : Int) - 1) (-1) (-1) = n := by
    unfold Builtin.Slice.slicePlaces
    have h0 : ¬ ((-1 : Int) > 0) := by decide
    rw [if_neg h0]
    by_cases hn : ((n : Int) - 1) > -1
    · rw [if_pos hn]
      have e : (- -1 : Int) = 1 := by decide
      rw [e, Int.ediv_one]
      omega
    · rw [if_neg hn]; omega
  show wpAny _ _ (match Builtin.Slice.sliceAdjust none none (-1) (n : Int) with | (lo, hi) => pure (lo, (-1 : Int), Builtin.Slice.slicePlaces lo hi (-1))) _ _ s
  rw [e1]
  show wpAny _ _ (pure ((n : Int) - 1, (-1 : Int), Builtin.Slice.slicePlaces ((n : Int) - 1) (-1) (-1))) _ _ s
  rw [e2]
  exact wpAny_pure h
theorem getItem_tuple_rev {tp sl : Addr} {its : List Value} {t : Tok} {Q : Value → Shared → Prop} (ht : IsTup s.heap tp its.toArray) (hs : s.heap.IsSliceOf sl .none .none (.int (-1) t))
    (h : Q (.ref s.heap.objs.size) { s with heap := s.heap.push { cls := .type "tuple", data := .seq its.reverse.toArray } })
    (hsz : its.length ≤ sizeLine) : wpAny (model prog w) A (getItem (.ref tp) (.ref sl)) Q E s := by
  have htake : sizeOk (.seq its.reverse.toArray) := by
    show its.reverse.toArray.size ≤ sizeLine
    rw [List.size_toArray, List.length_reverse]
    exact hsz
  obtain ⟨os, hos, hcs, hds⟩ := id hs
  have hTs : s.TypeIs (.ref sl) "slice" := ⟨os, hos, hcs⟩
  unfold getItem
  try with_reducible refine wpAny_holding ?_
  first | refine wpAny_bind (wpAny_pure ?_) | skip
  refine wpAny_bind (wpAny_sequenceKey ht.typeIs (by decide) ?_)
  refine wpAny_bind (wpAny_callSpecial?_slot (name := Str.ofString "__getitem__") ht.typeIs PyProof.Rows.slot_tuple_getitem
    (wpAny_call_entry PyProof.Rows.slot_tuple_getitem ht.typeIs entry_tuple_getitem ?_ (args_tuple_getitem _ _)))
  show wpAny _ _ (Builtin.Tuple.tupleItemsOf (.ref tp) >>= _) _ _ s
  refine wpAny_bind (tupleItemsOf_ ht ?_)
  refine wpAny_bind (wpAny_typeOf hTs ?_)
  rw [if_pos (by decide)]
  refine wpAny_bind (sliceApplied_rev (n := its.toArray.size) hs ?_)
  have hno : ¬ (((((its.toArray.size : Nat) : Int) - 1) == 0 && (-1 : Int) == 1 && its.toArray.size == its.toArray.size) = true) := by
    intro q
    rw [Bool.and_eq_true, Bool.and_eq_true] at q
    exact absurd q.1.2 (by decide)
  show wpAny _ _ (if ((((its.toArray.size : Nat) : Int) - 1) == 0 && (-1 : Int) == 1 && its.toArray.size == its.toArray.size) = true then _ else _) _ _ s
  rw [if_neg hno]
  have ep : ((List.range its.toArray.size).filterMap fun (k : Nat) => its.toArray[(((its.toArray.size : Nat) : Int) - 1 + (k : Int) * -1).toNat]?) = its.reverse := by
    refine Eq.trans (ND.fm_congr fun k hk => ?_) ((congrArg (fun m => (List.range m).filterMap fun k => its[its.length - 1 - k]?) List.size_toArray).trans (ND.rev_pick its))
    have hk := List.mem_range.mp hk
    have e : (((its.toArray.size : Nat) : Int) - 1 + (k : Int) * -1).toNat = its.length - 1 - k := by rw [List.size_toArray] at hk ⊢; omega
    rw [e]
    simp
  rw [ep]
  first
    | exact wpAny_bind (m := Builtin.Tuple.tupleExact _) (wpAny_newObj_type (wpAny_pure ⟨_, rfl, wpAny_pure h⟩) htake)
    | exact wpAny_bind (m := Builtin.Tuple.tupleExact _) (wpAny_newObj_type (wpAny_bind (wpAny_pure (wpAny_pure ⟨_, rfl, wpAny_pure h⟩))) htake)
    | exact wpAny_bind (wpAny_bind (m := Builtin.Tuple.tupleExact _) (wpAny_newObj_type (wpAny_pure (wpAny_pure ⟨_, rfl, wpAny_pure h⟩)) htake))
    | exact wpAny_bind (wpAny_bind (m := Builtin.Tuple.tupleExact _) (wpAny_newObj_type (wpAny_pure ⟨_, rfl, wpAny_pure h⟩) htake))
end
end HT
namespace ND
open PySem PySem.Spec PyProof.Rows L2
section
variable {X : Cx} {e st : Expr} {te : TE} {pos p2 : Pos}
def tMinus1 : TE := fun _ H Q => Q (.int (-1)) H
def rRev (K : PySem.W.Frag) : V → Hp → VK → Prop := fun x H Q => ∃ a xs, x = .ref a ∧ ((SqT K H a xs ∧ ∀ p, H p = none → Q (.ref p) (upd H p (.tup xs.reverse))) ∨ (SqL K H a xs ∧ ∀ p, H p = none → Q (.ref p) (upd H p (.lst xs.reverse))))
def tRev (K : PySem.W.Frag) (te : TE) : TE := fun σ H Q => te σ H fun x H1 => rRev K x H1 Q
theorem pe_rev (he : PE X e te) (hst : PE X st tMinus1) : PE X (.Subscript e (.Slice none none (some st) p2) pos) (tRev X.K te) := by
  refine ⟨fun pins s σ H Q I h => ?_⟩
  refine Subscript_ (thn (he.run pins s σ H _ I h) fun v s1 ⟨x, H1, I1, r1, q1⟩ => ?_)
  refine wpAny_Slice ?_
  rw [evalPart_none]
  refine wpAny_pure ?_
  show wpAny (model X.prog X.w) X.A (evalPart none X.env) _ _ s1
  rw [evalPart_none]
  refine wpAny_pure ?_
  show wpAny (model X.prog X.w) X.A (evalPart (some st) X.env) _ _ s1
  rw [evalPart_some]
  refine thn (hst.run pins s1 σ H1 (fun y H' => y = .int (-1) ∧ H' = H1) I1 ⟨rfl, rfl⟩) fun vs s2 ⟨y, H2, I2, ry, ey, eh⟩ => ?_
  subst ey eh
  obtain ⟨t, rfl⟩ := ry
  have I4 : Inv X pins σ H2 { s2 with heap := s2.heap.push { cls := .type "slice", data := .fields #[.none, .none, .int (-1) t] } } := I2.kept (t' := s2.toks) fun b ob q => Heap.get?_push_of_some _ q
  obtain ⟨a, xs, rfl, q⟩ := q1
  cases r1
  have hsl : ({ s2 with heap := s2.heap.push { cls := .type "slice", data := .fields #[.none, .none, .int (-1) t] } } : Shared).heap.IsSliceOf s2.heap.objs.size .none .none (.int (-1) t) := Heap.IsSliceOf.new ..
  have key : ∃ T id, typeLookup (.type T) "__getitem__" = pure (some (.builtin id)) ∧ ({ s2 with heap := s2.heap.push { cls := .type "slice", data := .fields #[.none, .none, .int (-1) t] } } : Shared).TypeIs (.ref a) T ∧ wpAny (model X.prog X.w) X.A (getItem (.ref a) (.ref s2.heap.objs.size)) (EP X pins σ Q) X.xe { s2 with heap := s2.heap.push { cls := .type "slice", data := .fields #[.none, .none, .int (-1) t] } } := by
    generalize ({ s2 with heap := s2.heap.push { cls := .type "slice", data := .fields #[.none, .none, .int (-1) t] } } : Shared) = s at I4 hsl ⊢
    rcases q with ⟨hx, q⟩ | ⟨hx, q⟩
    · obtain ⟨its, r, ht, hz⟩ := I4.tuple hx
      have hlen := r.length
      refine ⟨"tuple", _, PyProof.Rows.slot_tuple_getitem.lookup, ht.typeIs, ?_⟩
      refine HT.getItem_tuple_rev ht hsl ?_ (by rw [← hlen]; exact hz)
      refine ⟨.ref s.heap.objs.size, _, I4.laid (t' := s.toks) (o := .tup xs.reverse) (fun b ob q => Heap.get?_push_of_some _ q) (Nat.le_refl _) ?_, rfl, q _ (I4.hok.fresh (Nat.le_refl _))⟩
      exact ⟨by rw [List.length_reverse]; exact hz, _, r.reverse, IsTup.new _ _⟩
    · obtain ⟨its, r, ht, hz⟩ := I4.list hx
      have hlen := r.length
      refine ⟨"list", _, slot_list_getitem.lookup, ht.isList.typeIs, ?_⟩
      refine wpAny_getItem_list_slice ht.isList hsl .none .none (.int _ _) (by simp) ?_ (by rw [List.size_toArray] <;> omega)
      rw [slicePick_rev]
      refine ⟨.ref s.heap.objs.size, _, I4.laid (t' := s.toks) (o := .lst xs.reverse) (fun b ob q => Heap.get?_push_of_some _ q) (Nat.le_refl _) ?_, rfl, q _ (I4.hok.fresh (Nat.le_refl _))⟩
      exact ⟨by rw [List.length_reverse]; exact hz, _, 0, r.reverse, Heap.get?_push_size _ rfl⟩
  obtain ⟨T, id, hT, ht, hg⟩ := key
  show wpAny (model X.prog X.w) X.A (subscriptTail e (.Slice none none (some st) p2) (.ref a) (.ref s2.heap.objs.size)) (EP X pins σ Q) X.xe _
  exact tail_any (ops := [.ref a, .ref s2.heap.objs.size]) ht hT hg (by with_unfolding_all rfl)
end
end ND
namespace DN
open PySem PySem.Spec PyProof.Rows L2 RZ ND
def revD : D → Option D
  | .tup xs => some (.tup xs.reverse)
  | .lst xs => some (.lst xs.reverse)
  | _ => none
theorem repL_rev {K : PySem.W.Frag} {cl : CTab} {Z : Zp} : ∀ {vs : List V} {ds : List D}, RepL K cl Z vs ds → RepL K cl Z vs.reverse ds.reverse
  | _, _, .nil => .nil
  | _, _, .cons a r => by
    rw [List.reverse_cons, List.reverse_cons]
    exact (repL_rev r).append (.cons a .nil)
@[simp] abbrev xRev {B : Sto} (f : Env → M B D) : Env → M B D := fun ρ => M.bind (f ρ) fun x => lift (revD x)
section
variable {B : Sto} {cl : CTab} {md : Bool} {W : WX} {X : Cx}
theorem pe_m1 {pos p2 : Pos} {j : Nat} : PE X (.UnaryOp .USub (.Constant (.int 1) j p2) pos) tMinus1 := by
  exact PE.weak (pe_un un_neg pe_int) fun σ H Q q => ⟨1, rfl, q⟩
theorem de_rev {e st : Expr} {f : Env → M B D} {p2 pos : Pos} (h : DE cl B md W X e f) (hst : PE X st tMinus1) : DE cl B md W X (.Subscript e (.Slice none none (some st) p2) pos) (xRev f) := by
  refine PE.weak (pe_rev h hst) fun σ H Q ⟨Z, C, s, ρ, w, e, p⟩ => ?_
  refine ⟨Z, C, s, ρ, w, e, Post.seq w.ch p fun dx s1 x Z1 C1 H1 w1 n1 r1 p1 => ?_⟩
  obtain ⟨d, hd, q⟩ := post_lift w1 p1
  cases dx <;> (unfold revD at hd; cases hd)
  · cases r1 with
    | tup a b c =>
      rename_i xs a0 vs
      refine ⟨_, _, rfl, .inl ⟨sq_t (w1.zh _ _ a), fun pp hp => ?_⟩⟩
      have al : Al Z1 H1 (upz Z1 pp (.tup vs.reverse)) (upd H1 pp (.tup vs.reverse)) := .new w1.zh hp (fun _ z => nomatch z)
      exact q _ _ _ al (.tup upd_same (by rw [List.length_reverse]; exact b) ((repL_rev c).mono al.zz))
  · cases r1 with
    | slst a b c =>
      rename_i xs a0 vs
      refine ⟨_, _, rfl, .inr ⟨SqL.sub w1.zh a, fun pp hp => ?_⟩⟩
      have al : Al Z1 H1 (upz Z1 pp (.lst vs.reverse)) (upd H1 pp (.lst vs.reverse)) := .new w1.zh hp (fun _ z => nomatch z)
      exact q _ _ _ al (.lst upd_same (by rw [List.length_reverse]; exact b) ((repL_rev c).mono al.zz))
end
end DN
namespace DN
open PySem PySem.Spec PyProof.Rows L2 RZ ND
variable {B : Sto}
def immLs : D → Bool
  | .lst xs => D.immL xs
  | _ => false
@[simp] def sSetX (p : D → Bool) (i : Nat) (f : Env → M B D) : SEnv → M B Fl := fun ρ => M.bind (f (seeE p ρ)) fun d => guardM (immLs d) (M.pure (.nx (ρ.set i (.val d))))
@[simp] def sForX (p : D → Bool) (a : D → Option Asg) (f : Env → M B D) (F : SEnv → M B Fl) : SEnv → M B Fl := fun ρ => M.bind (f (seeE p ρ)) fun d => guardM (immLs d) (match d with
  | .lst ds => forL a F ds ρ
  | _ => fun _ => .stuck)
section
variable {cl : CTab} {md : Bool} {W : WX} {X : Cx} {p : D → Bool} {i : Nat} {x : Str}
theorem for_rest {a : D → Option Asg} {F : SEnv → M B Fl} {ds : List D} {Z0 Z1 : Zp} {C0 H0 C1 H1 : Hp} {s1 : B.T} {ρ : SEnv} {σ : L2.St} {α : Nat → Addr → Prop} {E : Ends} {J : It} (c0 : Sub C0 H0) (r1 : RpI X.K cl Z1 J ds) (u1 : Wd B true Z1 C1 H1 s1) (u2 : Nx Z0 C0 H0 Z1 C1 H1) (u3 : SRel X.K cl Z1 C1 H1 H0 ρ σ α) (q1 : PostS X.K cl W Z0 C0 H0 (forL a F ds ρ s1) E) :
    ∃ V : Nat → Nat → L2.St → Hp → Prop, (∃ m, V 0 m σ H1) ∧ ∀ i m σ H, V i m σ H →
      (J.stop i H ∧ E.nx σ H) ∨ (J.go i H ∧ ∃ N : L2.St → Hp → Prop, (∀ σ' H', N σ' H' → ∃ m', m' < m ∧ V (i + 1) m' σ' H') ∧ ∀ x H', J.yld i H x H' → tDG X.K cl a x σ H' fun σ2 H2 => tS X.K cl B W F { E with nx := N, ct := N, bk := E.nx } σ2 H2) := by
  refine for_it r1.1 (fun i σ H => ∃ Zi Ci si ρi αi, Wd B true Zi Ci H si ∧ Nx Z0 C0 H0 Zi Ci H ∧ SRel X.K cl Zi Ci H H0 ρi σ αi ∧ SubZ Z1 Zi ∧ PostS X.K cl W Z0 C0 H0 (forL a F (ds.drop i) ρi si) E)
    ⟨Z1, C1, s1, ρ, α, u1, u2, u3, .refl _, q1⟩ (fun i σ H hi ⟨Zi, Ci, si, ρi, αi, wi, ni, ri, zi, pi⟩ => zi.to wi.zh) ?_ ?_
  · rintro i x σ2 H2 H2' hi ⟨Zi, Ci, si, ρi, αi, wi, ni, ri, zi, pi⟩ ⟨d, hd, hy⟩
    obtain ⟨Zc, al, rx⟩ := hy Zi zi wi.zh
    have hdr : ds.drop i = d :: ds.drop (i + 1) := by
      have hlt : i < ds.length := hi
      rw [List.drop_eq_getElem_cons hlt]
      have : ds[i] = d := by
        rw [List.getElem?_eq_getElem hlt] at hd
        exact Option.some.inj hd
      rw [this]
    rw [hdr] at pi
    have wc := al.wd wi
    have nc := ni.trans c0 wi.ch al.nx
    have rc : SRel X.K cl Zc Ci H2' H0 ρi σ2 αi := by
      refine ri.move al.zz (fun j e x o q hx ho => al.hh _ _ ho) (fun j e x q qx => ?_) fun j e x q qx => (ri.fp j e x q qx).2.2.1
      obtain ⟨h2, h3, h4, o, ho, _⟩ := ri.fp j e x q qx
      cases qz : Zc x with
      | none => rfl
      | some z =>
        rcases al.zf _ (some_ne qz) with zz | zz
        · exact absurd h3 zz
        · rw [ho] at zz; cases zz
    have pi : PostS X.K cl W Z0 C0 H0 (M.bind (lift (a d)) (fun as => M.bind (F (setsS ρi as)) fun fl => match fl with
      | .nx ρ' => forL a F (ds.drop (i + 1)) ρ'
      | .ct ρ' => forL a F (ds.drop (i + 1)) ρ'
      | .bk ρ' => M.pure (.nx ρ')
      | .rt d => M.pure (.rt d)
      | .ro d => M.pure (.ro d)) si) E := pi
    cases ha : a d with
    | none => rw [ha] at pi; exact False.elim pi
    | some as =>
      rw [ha] at pi
      refine ⟨Zc, d, as, wc.zh, rx, ha, fun vs av => ?_⟩
      refine ⟨Zc, C0, H0, Zc, Ci, si, setsS ρi as, αi, c0, wc, nc.rebase, rc.sets av, ?_⟩
      have pi : PostS X.K cl W Z0 C0 H0 (M.bind (F (setsS ρi as)) (fun fl => match fl with
        | .nx ρ' => forL a F (ds.drop (i + 1)) ρ'
        | .ct ρ' => forL a F (ds.drop (i + 1)) ρ'
        | .bk ρ' => M.pure (.nx ρ')
        | .rt d => M.pure (.rt d)
        | .ro d => M.pure (.ro d)) si) E := pi
      unfold M.bind at pi
      cases hF : F (setsS ρi as) si with
      | stuck => simp only [hF] at pi; exact pi
      | err x s3 =>
        simp only [hF] at pi
        exact fun c dx σ3 Z3 C3 H3 w3 n3 => pi c dx σ3 Z3 C3 H3 w3 (nc.unbase n3)
      | ok fl s3 =>
        simp only [hF] at pi
        cases fl with
        | nx ρ3 => exact fun σ3 Z3 C3 H3 α3 w3 n3 r3 => ⟨Z3, C3, s3, ρ3, α3, w3, nc.unbase n3, r3, (zi.trans al.zz).trans n3.zz, pi⟩
        | ct ρ3 => exact fun σ3 Z3 C3 H3 α3 w3 n3 r3 => ⟨Z3, C3, s3, ρ3, α3, w3, nc.unbase n3, r3, (zi.trans al.zz).trans n3.zz, pi⟩
        | bk ρ3 => exact fun σ3 Z3 C3 H3 α3 w3 n3 r3 => pi σ3 Z3 C3 H3 α3 w3 (nc.unbase n3) r3
        | rt d => exact fun v Z3 C3 H3 w3 n3 r3 => pi v Z3 C3 H3 w3 (nc.unbase n3) r3
        | ro d => exact fun v F Z3 C3 H3 w3 n3 r3 => pi v F Z3 C3 H3 w3 (nc.unbase n3) r3
  · rintro σ2 H2 ⟨Zi, Ci, si, ρi, αi, wi, ni, ri, zi, pi⟩
    rw [List.drop_length] at pi
    exact pi σ2 Zi Ci H2 αi wi ni ri
end
end DN
open PySem PySem.Spec PyProof.Rows L2 RZ
namespace DN
section
variable {B : Sto} {cl : CTab} {md : Bool} {W : WX} {X : Cx} {p q : D → Bool} {i : Nat} {x : Str}
@[simp] def sPutL (p q : D → Bool) (i : Nat) (fk f : Env → M B D) : SEnv → M B Fl := fun ρ => match ρ[i]? with
  | some (.own (.lst ds)) => M.bind (f (seeE p ρ)) fun d => M.bind (fk (seeE pHide ρ)) fun y => match y with
    | .int kk => M.bind (lift (ixN ds.length kk)) fun j => guardM (q d && !d.isMut) (M.pure (.nx (ρ.set i (.own (.lst (ds.set j d))))))
    | _ => fun _ => .stuck
  | _ => fun _ => .stuck
end
end DN
namespace DN
open PySem PySem.Spec PyProof.Rows L2 RZ ND
variable {B : Sto}
def noI (i : Nat) (m : M B Fl) : M B Fl := M.bind m fun fl => match fl with
  | .nx ρ => M.pure (.nx (ρ.set i .no))
  | .bk ρ => M.pure (.bk (ρ.set i .no))
  | .ct ρ => M.pure (.ct (ρ.set i .no))
  | o => M.pure o
@[simp] def sTryAs (i : Nat) (F : SEnv → M B Fx) (t : Str → Option Bool) (G : Exn → SEnv → M B Fl) : SEnv → M B Fl := fun ρ => M.bind (noErr (F ρ)) fun r => match r with
  | .fl f => M.pure f
  | .ex x ρ' => if i < ρ'.length then (match t x.c with
    | some true => noI i (noErr (G x (ρ'.set i .no)))
    | some false => fun s => .err x s
    | none => fun _ => .stuck) else fun _ => .stuck
theorem SRel.setNo {K : PySem.W.Frag} {cl : CTab} {Z : Zp} {C H H0 : Hp} {ρ : SEnv} {σ : L2.St} {α : Nat → Addr → Prop} {i : Nat} {o : Option V} (r : SRel K cl Z C H H0 ρ σ α) : SRel K cl Z C H H0 (ρ.set i .no) (σ.set i o) α := by
  have ne : ∀ j e, (ρ.set i .no)[j]? = some (.own e) → i ≠ j ∧ ρ[j]? = some (.own e) := fun j e q => by
    by_cases hj : i = j
    · subst hj
      by_cases hl : i < ρ.length
      · rw [List.getElem?_set_self hl] at q; cases q
      · rw [List.getElem?_eq_none (by simpa using hl)] at q; cases q
    · rw [List.getElem?_set_ne hj] at q
      exact ⟨hj, q⟩
  refine ⟨by simp [r.len], fun j e q => ?_, fun j e q => ?_, fun j e x q => r.fp j e x (ne j e q).2, fun j k e f x q1 q2 => r.dj j k e f x (ne j e q1).2 (ne k f q2).2⟩
  · by_cases hj : i = j
    · subst hj
      by_cases hl : i < ρ.length
      · rw [List.getElem?_set_self hl] at q
        cases q
      · rw [List.getElem?_eq_none (by simpa using hl)] at q; cases q
    · rw [List.getElem?_set_ne hj] at q
      obtain ⟨v', h1, h2⟩ := r.val j e q
      exact ⟨v', by rw [List.getElem?_set_ne hj]; exact h1, h2⟩
  · obtain ⟨hj, q'⟩ := ne j e q
    obtain ⟨v', h1, h2⟩ := r.own j e q'
    exact ⟨v', by rw [List.getElem?_set_ne hj]; exact h1, h2⟩
def tSx (K : PySem.W.Frag) (cl : CTab) (B : Sto) (W : WX) (i : Nat) (a : Addr) (c : Value) (dx : Option Addr) (x : Exn) (F : SEnv → M B Fl) : TS := fun E σ H => ∃ Z0 C0 H0 Z C s ρ α, Sub C0 H0 ∧ Wd B true Z C H s ∧ Nx Z0 C0 H0 Z C H ∧ SRel K cl Z C H H0 ρ σ α ∧ σ[i]? = some (some (.ref a)) ∧ ExR K cl Z C x c dx H ∧ PostS K cl W Z0 C0 H0 (F ρ s) E
def DSx (cl : CTab) (B : Sto) (W : WX) (X : Cx) (i : Nat) (a : Addr) (c : Value) (dx : Option Addr) (x : Exn) (st : List Stmt) (F : SEnv → M B Fl) : Prop := PSs X st (tSx X.K cl B W i a c dx x F)
def tEx (K : PySem.W.Frag) (cl : CTab) (B : Sto) {υ α : Type} (Rp : Zp → υ → α → Prop) (W : WX) (i : Nat) (a : Addr) (c : Value) (dx : Option Addr) (x : Exn) (f : Env → M B α) : L2.St → Hp → (υ → Hp → Prop) → Prop := fun σ H Q =>
  ∃ Z C s ρ, Wd B true Z C H s ∧ EnvR K cl Z ρ σ ∧ σ[i]? = some (some (.ref a)) ∧ ExR K cl Z C x c dx H ∧ Post K cl true Rp W σ Z C H (f ρ s) Q
def DEx (cl : CTab) (B : Sto) (W : WX) (X : Cx) (i : Nat) (a : Addr) (c : Value) (dx : Option Addr) (x : Exn) (e : Expr) (f : Env → M B D) : Prop := PE X e (tEx X.K cl B (RpD X.K cl) W i a c dx x f)
theorem ExR.next {K : PySem.W.Frag} {cl : CTab} {Z Z1 : Zp} {C H C1 H1 : Hp} {x : Exn} {c : Value} {dx : Option Addr} (h : ExR K cl Z C x c dx H) (n : Nx Z C H Z1 C1 H1) : ExR K cl Z1 C1 x c dx H1 := by
  obtain ⟨A, fs, h1, h2, h3⟩ := h
  refine ⟨A, fs, h1, h2, ?_⟩
  cases hf : x.f with
  | none => rw [hf] at h3; exact h3
  | some d =>
    rw [hf] at h3
    obtain ⟨f, v, a, q1, q2, q3, q0, q4, q5⟩ := h3
    refine ⟨f, v, a, q1, q2, n.hh _ _ q3 q0, ?_, q4, q5.mono n.zz d⟩
    cases e : C1 a with
    | none => rfl
    | some o =>
      rcases n.cf a (some_ne e) with z | z
      · exact absurd q0 z
      · rw [q3] at z; cases z
section
variable {cl : CTab} {W : WX} {X : Cx} {i : Nat} {a : Addr} {c : Value} {dx : Option Addr} {x : Exn}
theorem dsx_of {st : List Stmt} {F : SEnv → M B Fl} (h : DSs cl B W X st F) : DSx cl B W X i a c dx x st F := PSs.weak h fun E σ H ⟨Z0, C0, H0, Z, C, s, ρ, α, c0, w, n, r, _, _, p⟩ => ⟨Z0, C0, H0, Z, C, s, ρ, α, c0, w, n, r, p⟩
theorem dex_of {e : Expr} {f : Env → M B D} (h : DE cl B true W X e f) : DEx cl B W X i a c dx x e f := PE.weak h fun σ H Q ⟨Z, C, s, ρ, w, e, _, _, p⟩ => ⟨Z, C, s, ρ, w, e, p⟩
theorem dsx_set {j : Nat} {y : Str} {e : Expr} {rest : List Stmt} {f : Env → M B D} {G : SEnv → M B Fl} {pos pos' : Pos} (hj : j ≠ i) (hN : X.N.Nodup) (hi : X.N[j]? = some y) (hx : Loc X.env.scope y) (h : DEx cl B W X i a c dx x e f) (t : DSx cl B W X i a c dx x rest G)
    (hs : swapsWith e (some (.Name y pos')) pos.line X.env = pure false := by rfl)
    (hf : X.fn y = true ∨ X.env.scope.names.lookup y = some .local := by first | exact .inl rfl | exact .inr rfl | assumption) :
    DSx cl B W X i a c dx x (.Assign [.Name y pos'] e pos :: rest) (seqF (fun ρ => M.bind (f (seeE pHide ρ)) fun d => M.pure (.nx (ρ.set j (.val d)))) G) := by
  refine PSs.weak (pss_cons (ps_set hN hi hx h hs hf) t) fun E σ H ⟨Z0, C0, H0, Z, C, s, ρ, α, c0, w, n, r, ha, ex, p⟩ => ?_
  have p2 : PostS X.K cl W Z0 C0 H0 (M.bind (f (seeE pHide ρ)) (fun d => G (ρ.set j (.val d))) s) E := by
    unfold seqF M.bind at p
    unfold M.bind
    cases hF : f (seeE pHide ρ) s with
    | stuck => simp only [hF] at p; exact p
    | err x s1 => simp only [hF] at p; exact p
    | ok d s1 => simp only [hF] at p; exact p
  have exs : ExR X.K cl (seeZ pHide ρ α Z H) C x c dx H := by
    obtain ⟨A, fs, h1, h2, h3⟩ := ex
    refine ⟨A, fs, h1, h2, ?_⟩
    cases hf : x.f with
    | none => rw [hf] at h3; exact h3
    | some d =>
      rw [hf] at h3
      obtain ⟨f, v, a, q1, q2, q3, q0, q4, q5⟩ := h3
      exact ⟨f, v, a, q1, q2, q3, q0, q4, q5.mono (see_sub r) d⟩
  refine ⟨seeZ pHide ρ α Z H, C, s, seeE pHide ρ, see_wd w r seeHide.nd, see_env seeHide r, ha, exs, PostS.seq seeHide w c0 n r p2 fun d s1 v Z1 C1 H1 w1 n1 r1 q1 => ?_⟩
  have u := see_un seeHide w c0 n r w1 n1
  have u2 := u.nx; have u3 := u.rel
  have ex1 := exs.next n1
  rw [unZ_pHide] at u2 u3
  exact ⟨Z0, C0, H0, Z1, C1, s1, ρ.set j (.val d), α, c0, w1, u2, u3.setVal r1, by rw [List.getElem?_set_ne hj]; exact ha, ex1, q1⟩
end
@[simp] def xEf (x : Exn) : Env → M B D := fun _ => match x.f with
  | some d => M.pure d
  | none => fun _ => .stuck
section
variable {cl : CTab} {W : WX} {X : Cx} {i : Nat} {a : Addr} {c : Value} {dx : Option Addr} {x : Exn}
theorem ds_tryAs {n y : Str} {C : Addr} {t : Str → Option Bool} {body : List Stmt} {b₀ : Stmt} {suite : List Stmt} {np pos' pos : Pos} {F : SEnv → M B Fx} {G : Exn → SEnv → M B Fl} (hs : X.stack = X.env :: X.outer) (hf : X.env.frame = some X.env.locals) (hN : X.N.Nodup) (hi : X.N[i]? = some n)
    (hln : X.env.kindOf n = some .local) (tk : Takes X W)
    (hb : ∀ (W : WX) (pn : List (Addr × Obj)) (xe : Value → Shared → Prop), Takes (X.tr pn xe) W → PassesOwn (model X.prog X.w) X.A X.env xe → DXs cl B W (X.tr pn xe) body F)
    (hg : Gl X y) (hm : X.mg y = some (.ref C)) (hc : CatchAt X.K cl t C)
    (hsu : ∀ (a : Addr) (oe : Obj) (cls : Value) (d : Option Addr) (pn : List (Addr × Obj)) (x : Exn), t x.c = some true → Zc cls d oe → (∃ vs, oe.data = .fields vs) → DSx cl B W0 (X.suite a ((a, oe) :: pn)) i a cls d x (b₀ :: suite) (G x))
    (hdb : (y == ("__debug__" : Str)) = false := by decide) :
    DS cl B W X (.Try body [.ExceptHandler (some (.Name y np)) (some n) (b₀ :: suite) pos'] [] [] pos) (sTryAs i F t G) := by
  refine PS.weak (ps_try_as (c := .ref C) (tb := fun W => tX X.K cl B W F) (ts := fun a cls d E σ H => ∃ x, t x.c = some true ∧ tSx X.K cl B W0 i a cls d x (G x) E σ H) hs hf hN hi hln ⟨hg, hdb, .inl hm⟩ tk (fun W pn xe tk ps => hb W pn xe tk ps) (fun a oe cls d pn hz hf => ⟨fun pins s σ H D I ⟨x, hx, h⟩ => (hsu a oe cls d pn x hx hz hf).run pins s σ H D I h⟩)) fun E σ H ⟨Z0, C0, H0, Z, C1, s, ρ, α, c0, w, nx, r, q⟩ => ?_
  refine ⟨Z0, C0, H0, Z, C1, s, ρ, α, c0, w, nx, r, ?_⟩
  unfold sTryAs M.bind noErr at q
  cases hF : F ρ s with
  | stuck => simp only [hF] at q; exact q
  | err x s1 => simp only [hF] at q; exact False.elim q
  | ok fl s1 =>
    simp only [hF] at q
    cases fl with
    | fl f => cases f <;> exact q
    | ex x ρ1 =>
      simp only at q
      intro c dx σ1 Z1 C2 H1 α1 w1 n1 r1 ex
      obtain ⟨A, fs, e1, e2, e3⟩ := id ex
      by_cases hil : i < ρ1.length
      case neg => rw [if_neg hil] at q; exact False.elim q
      rw [if_pos hil] at q
      cases ht : t x.c with
      | none => rw [ht] at q; exact False.elim q
      | some b =>
        rw [ht] at q
        refine ⟨b, by rw [e2]; exact hc _ _ _ _ ht e1, fun hb a ha => ?_, fun hb => ?_⟩
        · subst hb
          refine ⟨x, ht, Z0, C0, H0, Z1, C2, s1, ρ1.set i .no, α1, c0, w1, n1, r1.setNo, ?_, ex, ?_⟩
          · exact List.getElem?_set_self (by rw [← r1.len]; exact hil)
          · simp only at q
            unfold noI M.bind at q
            cases hG : G x (ρ1.set i .no) s1 with
            | ok f s2 =>
              simp only [hG] at q
              cases f with
              | nx ρ2 => exact fun σ3 Z3 C3 H3 α3 w3 n3 r3 => q _ Z3 C3 H3 α3 w3 n3 r3.setNo
              | bk ρ2 => exact fun σ3 Z3 C3 H3 α3 w3 n3 r3 => q _ Z3 C3 H3 α3 w3 n3 r3.setNo
              | ct ρ2 => exact fun σ3 Z3 C3 H3 α3 w3 n3 r3 => q _ Z3 C3 H3 α3 w3 n3 r3.setNo
              | rt d => exact q
              | ro d => exact q
            | err y s2 => simp only [hG] at q; exact False.elim q
            | stuck => simp only [hG] at q; exact False.elim q
        · subst hb
          simp only at q
          exact q c dx σ1 Z1 C2 H1 w1 n1 ex
end
end DN
namespace DN
open PySem PySem.Spec PyProof.Rows L2 RZ ND
variable {B : Sto}
structure Landed (X : Cx) (pins : List (Addr × Obj)) (σ : L2.St) (H : Hp) (p : Addr) (cl : Value) (dx : Option Addr) (sc : Shared) (Bs : Heap) (sI : Shared) : Prop where
  inv : Inv X pins σ H sI
  nb : ∀ b o, sI.heap.get? b = some o → b ∉ frs X.stack → Bs.get? b = some o
  up : sI.heap.UpToSlots sc.heap
  fly : HandSPX.FlyingZ Bs (X.env :: X.outer) p (Zc cl dx) sc.heap
  na : H p = none
  os : sc.os = sI.os
  ag : AllBare sc.gens
section
variable {X : Cx} {pins : List (Addr × Obj)} {σ : L2.St} {H : Hp} {p : Addr} {cl : Value} {dx : Option Addr} {sc sI : Shared} {Bs : Heap}
theorem Landed.here (L : Landed X pins σ H p cl dx sc Bs sI) (hf : X.env.frame = some X.env.locals) : ∃ (o : Obj) (fs : Array Value), sc.heap.get? p = some o ∧ Zc cl dx o ∧ o.data = .fields fs ∧ Inv (X.suite p ((p, o) :: (X.pn ++ pins))) [] σ H sc := by
  obtain ⟨o, fs, g, z, e⟩ := L.fly.there
  have off : p ∉ frs (X.env :: X.outer) := fun m => by
    obtain ⟨_, o2, g2, q⟩ := L.fly.2.2.1.mem m
    cases g.symm.trans g2
    exact q _ e
  refine ⟨o, fs, g, z, e, (L.inv.landed L.nb L.fly.1 L.up L.os L.ag).suite g e L.na (fun q => off ?_) fun m => ?_⟩
  · exact List.mem_filterMap.mpr ⟨_, .head _, hf.trans (congrArg some q.symm)⟩
  · obtain ⟨v, m1, m2⟩ := List.mem_filterMap.mp m
    exact off (List.mem_filterMap.mpr ⟨v, .tail _ m1, m2⟩)
theorem Landed.again (L : Landed X pins σ H p cl dx sc Bs sI) {h : Heap} (f : HandSPX.FlyingZ Bs (X.env :: X.outer) p (Zc cl dx) h) (u : sc.heap.UpToSlots h) : Landed X pins σ H p cl dx { sc with heap := h } Bs sI :=
  ⟨L.inv, L.nb, L.up.trans u, f, L.na, L.os, L.ag⟩
end
structure Cl1 (B : Sto) where
  t : Str → Option Bool
  o : Option Nat
  G : Exn → SEnv → M B Fl
def hGoN : List (Cl1 B) → Exn → SEnv → M B Fl
  | [], x, _ => fun s => .err x s
  | ⟨t, none, G⟩ :: r, x, ρ => match t x.c with
    | some true => noErr (G x ρ)
    | some false => hGoN r x ρ
    | none => fun _ => .stuck
  | ⟨t, some i, G⟩ :: r, x, ρ => if i < ρ.length then (match t x.c with
    | some true => noI i (noErr (G x (ρ.set i .no)))
    | some false => hGoN r x ρ
    | none => fun _ => .stuck) else fun _ => .stuck
@[simp] def sTryN (F : SEnv → M B Fx) (hs : List (Cl1 B)) : SEnv → M B Fl := fun ρ => M.bind (noErr (F ρ)) fun r => match r with
  | .fl f => M.pure f
  | .ex x ρ' => hGoN hs x ρ'
end DN
namespace DN
open PySem PySem.Spec PyProof.Rows L2 RZ ND
section
open PySem.W PySem.Calls
variable {prog : Program} {w : World} {A : Around} {E : Value → Shared → Prop} {K : Frag} {x D : Addr} {ox : Obj} {od : Option Obj}
theorem find_cls (T : ExcC K D) : findObj K D od "__class__" = some (.bind (.builtin "getset_descriptor.__get__") (.builtin "object.__class__")) := by
  obtain ⟨cd, e, _⟩ := any_some T.hd
  unfold findObj
  rw [e, Option.bind_some, T.ha, Option.bind_some]
  simp [T.hn, T.ht]
theorem cls_exc {Q : Option Value → Shared → Prop} {h : Heap} {g : Array GenState} {dr : Drawn} {tk : Nat} {os : OsState} (T : ExcC K D) (X : K.In h) (I : InstAt h x ox D od) (q : Q (some (.ref D)) ⟨h, g, dr, tk + 1, os⟩) :
    wpAny (model prog w) A (getAttr? (.ref x) "__class__") Q E ⟨h, g, dr, tk, os⟩ := by
  have ty := I.type (M := model prog w)
  have isB : Looks (model prog w) h (isInstance (.ref x) (.type "BaseException")) true := ty.andThen (looks_subIn X T.hs)
  have n0 : (Value.builtin "BaseException.__getattribute__" == Value.builtin "object.__getattribute__") = false := by decide +kernel
  have n1 : (onTheHeap (Value.ref D) && Value.builtin "BaseException.__getattribute__" == Value.builtin "object.__getattribute__") = false := by rw [n0, Bool.and_false]
  unfold getAttr? getAttrBy? getAttrBy; refine wpAny_bind (wpAny_mkText (wpAny_bind (wpAny_attempt (wpAny_holding (wpAny_bind (ty.at (wpAny_bind ((looks_findIn X T.hg).at ?_))))))))
  show wpAny _ _ (if (onTheHeap (Value.ref D) && Value.builtin "BaseException.__getattribute__" == Value.builtin "object.__getattribute__") = true then _ else _) _ _ _; rw [n1]; rw [if_neg (by decide)]
  have hp : onTheHeap (Value.ref D) = true := rfl
  unfold getAttrByItsOwn hookBefore; refine wpAny_bind ?_
  rw [if_pos hp]
  refine (looks_findIn X T.hk).at (wpAny_bind (wpAny_attempt (wpAny_holding ?_)))
  unfold callGetattribute
  rw [(rfl : (false && onTheHeap (Value.builtin "BaseException.__getattribute__")) = false)]; rw [if_neg (by decide)]
  unfold boundAndCalled; rw [PySem.F.excAttr_ValueError.ga.bind (.ref x)]; refine wpAny_bind (wpAny_pure (?_ : wpAny _ _ (call (.builtin "BaseException.__getattribute__") [.ref x, .str "__class__" tk]) _ _ _))
  refine wpAny_call (codeAny_call_builtin PySem.F.excAttr_ValueError.ga.plain PySem.F.entry_bexc_ga (@check_slot (model prog w) _ _ ⟨h, g, dr, tk + 1, os⟩ "BaseException.__getattribute__" "BaseException" "__getattribute__" (.ref x) [.str "__class__" tk] [] _ (by decide +kernel) (by decide +kernel) isB (PySem.F.args_bexc_ga (.ref x) (.str "__class__" tk)) ?_))
  unfold Builtin.«object.__getattribute__»; refine wpAny_bind (wpAny_of_eq (a := ((Value.ref x : Value), [Value.str "__class__" tk])) (by first | rfl | (simp only [slotArgs]; rfl)) ?_)
  refine wpAny_bind (wpAny_pure (wpAny_bind (ty.at (wpAny_bind ((looks_find (M := model prog w) X I (find_cls T)).at ?_)))))
  show wpAny _ _ (holding [Value.builtin "object.__class__"] (call (.builtin "getset_descriptor.__get__") [.builtin "object.__class__", .ref x, .ref D]) >>= ret) _ _ _; refine wpAny_bind (wpAny_holding (wpAny_call (class_get (s := ⟨h, g, dr, tk + 1, os⟩) X I T.hm (wpAny_pure ?_))))
  show wpAny _ _ (handedOut (.ref D)) _ _ _; rw [handedOut_of (rfl : handedIn (.ref D) = true)]
  first
    | exact wpAny_pure q
    | exact wpAny_pure (wpAny_pure q)
    | exact wpAny_pure (wpAny_bind (wpAny_pure (wpAny_pure q)))
theorem kitx_exc (T : ExcC K D) : KitX K (.ref x) (.ref D) (fun h => InstAt h x ox D od) where
  ty := fun _ _ _ I => I.type
  it := fun _ _ X _ => by
    obtain ⟨cd, e, _⟩ := any_some T.hd
    unfold clsIn at e
    split at e
    · rename_i c1 d1 cd1 sl1 o
      intro A' Q' E' s' k q
      unfold isType loadHead; exact wpAny_bind (wpAny_loadPart (k _ _ (X _ _ o)) (wpAny_pure q))
    · cases e
  ne := fun h tp dd its n sl X ht => by
    obtain ⟨cd, e, _⟩ := any_some T.hd
    refine Bool.eq_false_iff.mpr fun q => ?_
    cases Value.ref.inj (beq_iff_eq.mp q)
    unfold clsIn at e
    split at e
    · rename_i c1 d1 cd1 sl1 o
      cases (X _ _ o).symm.trans ht
    · cases e
  ca := fun {prog w A E Q s} X I k => by
    obtain ⟨h, g, dr, tk, os⟩ := s
    exact cls_exc T X I k
end
variable {B : Sto}
@[simp] def xIsE (x : Exn) (t : Str → Option Bool) : DN.Env → M B D := fun _ => match t x.c with
  | some b => M.pure (.bl b)
  | none => fun _ => .stuck
def IsE (K : PySem.W.Frag) (cl : CTab) (t : Str → Option Bool) (C : Addr) : Prop := ∀ x A fs b, t x = some b → cl x = some (A, fs) → ExcC K A ∧ PySem.W.kitOne K (.ref A) (.ref C) = some b
def rIsX (K : PySem.W.Frag) (D a : Addr) (dx : Option Addr) : List V → Hp → VK → Prop := fun xs H Q => ∃ (C : Addr) (b : Bool), xs = [.ref a, .ref C] ∧ PySem.W.kitOne K (.ref D) (.ref C) = some b ∧ (∀ d, dx = some d → ∃ fs, H d = some (.xd fs)) ∧ Q (.bl b) H
theorem call_isX {X : Cx} {a D : Addr} {dx : Option Addr} {oe : Obj} {pn : List (Addr × Obj)} (T : ExcC X.K D) (hz : Zc (.ref D) dx oe) (hf : ∃ vs, oe.data = .fields vs) : CallR (X.suite a ((a, oe) :: pn)) (.builtin "isinstance") (rIsX X.K D a dx) := by
  intro pins s σ H xs us Q I r h
  obtain ⟨C, b, rfl, e, hd, q⟩ := h
  obtain ⟨vs, hv⟩ := hf
  cases r with
  | cons rx rr =>
    cases rr with
    | cons rt rr =>
      cases rr; cases rx; cases rt
      have hget := (I.pin (a, oe) (List.mem_append_left _ List.mem_cons_self)).1
      have no : PySem.W.notCls oe = true := by unfold PySem.W.notCls; rw [hv] <;> rfl
      cases hdx : dx with
      | none =>
        have J : PySem.W.InstAt s.heap a oe D none := ⟨hget, hz.1, no, by rw [hz.2, hdx]; trivial⟩
        exact PySem.W.kia_one (kitx_exc T) I.kIn J e (fun z => nomatch z) fun tk => ⟨.bl b, H, I.kept (t' := tk) fun _ _ z => z, rfl, q⟩
      | some d =>
        obtain ⟨fs, hH⟩ := hd d hdx
        have hx : ObjOk X.prog X.w H s.heap d (.xd fs) := I.hok d _ hH
        obtain ⟨mA, hns, _⟩ := hx
        obtain ⟨od, ho, _⟩ := lookIn_ns hns
        have J : PySem.W.InstAt s.heap a oe D (some od) := ⟨hget, hz.1, no, by rw [hz.2, hdx]; exact ho⟩
        exact PySem.W.kia_one (kitx_exc T) I.kIn J e (fun z => nomatch z) fun tk => ⟨.bl b, H, I.kept (t' := tk) fun _ _ z => z, rfl, q⟩
section
variable {cl : CTab} {W : WX} {X : Cx} {i : Nat} {a : Addr} {c : Value} {dx : Option Addr} {x : Exn}
theorem dex_isE {y z : Str} {t : Str → Option Bool} {pn : List (Addr × Obj)} {oe : Obj} {p1 p2 p3 pos : Pos} (hz : Zc c dx oe) (hf : ∃ vs, oe.data = .fields vs) (he : PE (X.suite a ((a, oe) :: pn)) (.Name y p1) (tVar i))
    (hg : Gl (X.suite a ((a, oe) :: pn)) "isinstance") (hb : X.mg "isinstance" = none) (hgz : Gl (X.suite a ((a, oe) :: pn)) z) (hC : ∃ C, X.mg z = some (.ref C) ∧ IsE X.K cl t C) (hdb : (z == ("__debug__" : Str)) = false := by decide)
    (hs : starEach [.Name y p1, .Name z p3] X.env = (false, eval (.Name y p1) X.env) :: starEach [.Name z p3] X.env := by rfl) (hpl : (backTo pos (starEach [.Name z p3] X.env)).any (·.1) = false := by rfl) :
    DEx cl B W (X.suite a ((a, oe) :: pn)) i a c dx x (.Call (.Name "isinstance" p2) [.Name y p1, .Name z p3] [] pos) (xIsE x t) := by
  obtain ⟨C, hm, hC⟩ := hC
  cases ht : t x.c with
  | none =>
    refine ⟨fun pins s σ H Q I ⟨Z, C1, sb, ρ, w, e, ha, ex, p⟩ => ?_⟩
    unfold xIsE at p
    rw [ht] at p
    exact False.elim p
  | some b =>
    cases hc : cl x.c with
    | none =>
      refine ⟨fun pins s σ H Q I ⟨Z, C1, sb, ρ, w, e, ha, ⟨A, fs, h1, _⟩, p⟩ => ?_⟩
      rw [hc] at h1
      cases h1
    | some Af =>
      obtain ⟨A, fs⟩ := Af
      by_cases hA : c = .ref A
      case neg =>
        refine ⟨fun pins s σ H Q I ⟨Z, C1, sb, ρ, w, e, ha, ⟨A2, fs2, h1, h2, _⟩, p⟩ => ?_⟩
        rw [hc] at h1
        cases h1
        exact absurd h2 hA
      subst hA
      obtain ⟨T, k⟩ := hC _ _ _ _ ht hc
      refine PE.weak (pe_callB (call_isX T hz hf) hg hb boot_isinstance (pa_cons he (pa_cons (pe_glob (v := .ref C) hgz hm rfl hdb) pa_nil) hs) (by decide) (by decide) hs hpl) fun σ H Q ⟨Z, C1, sb, ρ, w, e, ha, ex, p⟩ => ?_
      refine ⟨.ref a, ha, C, b, rfl, k, fun d hd => ?_, ?_⟩
      · obtain ⟨A2, fs2, h1, h2, h3⟩ := ex
        cases hx : x.f with
        | none =>
          rw [hx] at h3
          rw [h3.1] at hd
          cases hd
        | some d2 =>
          rw [hx] at h3
          obtain ⟨f', v, a', q1, q2, q3, _⟩ := h3
          rw [q2] at hd
          cases hd
          exact ⟨_, q3⟩
      · unfold xIsE at p
        rw [ht] at p
        exact p (.bl b) Z C1 H w (.refl ..) (.bl _)
end
end DN
namespace DN
open PySem PySem.Spec PyProof.Rows L2 RZ ND
variable {B : Sto}
def D.low : D → Bool
  | .int _ => true
  | .str _ => true
  | _ => false
theorem zipP_fst : ∀ {xs ys : List PyData}, xs.length = ys.length → (xs.zip ys).map (·.1) = xs
  | [], [], _ => rfl
  | x :: xs, y :: ys, h => by simp [zipP_fst (xs := xs) (ys := ys) (by simpa using h)]
theorem zipP_snd : ∀ {xs ys : List PyData}, xs.length = ys.length → (xs.zip ys).map (·.2) = ys
  | [], [], _ => rfl
  | x :: xs, y :: ys, h => by simp [zipP_snd (xs := xs) (ys := ys) (by simpa using h)]
def keyP : Key → PyData
  | .inl i => .int i
  | .inr x => .str x
mutual
inductive Dq (K : PySem.W.Frag) (H : Hp) : V → PyData → Prop
  | non : Dq K H .non .none
  | bl (b : Bool) : Dq K H (.bl b) (.bool b)
  | int (i : Int) : Dq K H (.int i) (.int i)
  | str (x : Str) : Dq K H (.str x) (.str x)
  | tup {a : Addr} {xs : List V} {ds : List PyData} : SqT K H a xs → DqAll K H xs ds → Dq K H (.ref a) (.tuple ds)
  | dct {a : Addr} {l : List (Key × V)} {ps qs : List PyData} : Rd H a (.dK l) → ps = l.map (fun p => keyP p.1) → DqAll K H (l.map (·.2)) qs → Dq K H (.ref a) (.dict (ps.zip qs))
inductive DqAll (K : PySem.W.Frag) (H : Hp) : List V → List PyData → Prop
  | nil : DqAll K H [] []
  | cons {v : V} {vs : List V} {d : PyData} {ds : List PyData} : Dq K H v d → DqAll K H vs ds → DqAll K H (v :: vs) (d :: ds)
end
section
variable {X : Cx} {pins : List (Addr × Obj)} {σ : L2.St} {H : Hp} {s : Shared}
theorem keys_read {h : Heap} : ∀ {es : List DictEntry} {kvs : List (Key × Value)}, Pairs (mixKind X.prog X.w) es kvs → ∃ as, ReadsAll h (es.map (·.key)) (kvs.map fun p => keyP p.1) as ∧ sysModules ∉ as
  | _, _, .nil => ⟨[], .nil, fun m => nomatch m⟩
  | _, _, .cons (e := e) (kv := kv) h1 h2 t => by
    obtain ⟨as, r, n⟩ := keys_read t
    have h1 : keyIs kv.1 e.key = true := h1
    rcases keyIs_shape h1 with ⟨i, tk, e1, e2⟩ | ⟨x, tk, e1, e2⟩
    · refine ⟨[] ++ as, ?_, by simpa using n⟩
      show ReadsAll _ (e.key :: _) (keyP kv.1 :: _) _
      rw [e1, e2]
      exact .cons (.int i tk) r
    · refine ⟨[] ++ as, ?_, by simpa using n⟩
      show ReadsAll _ (e.key :: _) (keyP kv.1 :: _) _
      rw [e1, e2]
      exact .cons (.str x tk) r
theorem rAll_len {h : Heap} : ∀ {us : List Value} {ds : List PyData} {as : List Addr}, ReadsAll h us ds as → us.length = ds.length
  | _, _, _, .nil => rfl
  | _, _, _, .cons _ t => by rw [List.length_cons, List.length_cons, rAll_len t]
theorem vals_of_pairs : ∀ {es : List DictEntry} {kvs : List (Key × Value)}, Pairs (mixKind X.prog X.w) es kvs → es.map (·.val) = kvs.map (·.2)
  | _, _, .nil => rfl
  | _, _, .cons h1 h2 t => by rw [List.map_cons, List.map_cons, h2, vals_of_pairs t]
theorem kv_keys : ∀ {l : List (Key × V)} {vs : List (Key × Value)}, KV l vs → l.map (fun p => keyP p.1) = vs.map fun p => keyP p.1
  | _, _, .nil => rfl
  | _, _, .cons h t => by rw [List.map_cons, List.map_cons, h.1, kv_keys t]
theorem kv_vals : ∀ {l : List (Key × V)} {vs : List (Key × Value)}, KV l vs → Vals (l.map (·.2)) (vs.map (·.2))
  | _, _, .nil => .nil
  | _, _, .cons h t => .cons h.2 (kv_vals t)
mutual
theorem Dq.reads (I : Inv X pins σ H s) : ∀ {v : V} {d : PyData}, Dq X.K H v d → ∀ (u : Value), RelV v u → ∃ as, Reads s.heap u d as ∧ sysModules ∉ as
  | _, _, .non, _, r => by cases r; exact ⟨_, .none, fun m => nomatch m⟩
  | _, _, .bl b, _, r => by cases r; exact ⟨_, .bool b, fun m => nomatch m⟩
  | _, _, .int i, _, r => by obtain ⟨t, rfl⟩ := r; exact ⟨_, .int i t, fun m => nomatch m⟩
  | _, _, .str x, _, r => by obtain ⟨t, rfl⟩ := r; exact ⟨_, .str x t, fun m => nomatch m⟩
  | _, _, .tup hs ha, _, r => by
    cases r
    obtain ⟨its, rv, ⟨o, ho, hc, n, hd⟩, _⟩ := I.tuple hs
    obtain ⟨as, hr, hn⟩ := Dq.readsAll I ha _ rv
    exact ⟨as, .tuple ho hc hd hr, hn⟩
  | _, _, .dct (a := a) (l := l) (ps := ps) (qs := qs) hd hp ha, _, r => by
    cases r
    have ob : ObjOk X.prog X.w H s.heap a (.dK l) := by
      rcases hd with h | ⟨o, h⟩
      · exact I.hok a _ h
      · exact (I.hok a _ h).2
    obtain ⟨_, ne, vs, kv, dict⟩ := ob
    obtain ⟨o, es, ep, ho, hx, hd, _, hpr, _⟩ := dict
    obtain ⟨as, r1, n1⟩ := keys_read (X := X) (h := s.heap) hpr
    obtain ⟨bs, r2, n2⟩ := Dq.readsAll I ha (vs.map (·.2)) (kv_vals kv)
    rw [← kv_keys kv] at r1
    rw [← vals_of_pairs hpr] at r2
    have ln : ps.length = qs.length := by
      have l1 := rAll_len r1
      have l2 := rAll_len r2
      rw [hp]
      simp at l1 l2 ⊢
      omega
    refine ⟨a :: as ++ bs, .dict ho hx.1 hd (by rw [zipP_fst ln, hp]; exact r1) (by rw [zipP_snd ln]; exact r2), fun m => ?_⟩
    simp only [List.cons_append, List.mem_cons, List.mem_append] at m
    rcases m with m | m | m
    · rw [← m] at ne
      simp at ne
    · exact n1 m
    · exact n2 m
theorem Dq.readsAll (I : Inv X pins σ H s) : ∀ {vs : List V} {ds : List PyData}, DqAll X.K H vs ds → ∀ (us : List Value), Vals vs us → ∃ as, ReadsAll s.heap us ds as ∧ sysModules ∉ as
  | _, _, .nil, _, r => by cases r; exact ⟨[], .nil, fun m => nomatch m⟩
  | _, _, .cons h1 h2, _, r => by
    cases r with
    | cons r1 r2 =>
      obtain ⟨a1, q1, n1⟩ := Dq.reads I h1 _ r1
      obtain ⟨a2, q2, n2⟩ := Dq.readsAll I h2 _ r2
      exact ⟨a1 ++ a2, .cons q1 q2, fun m => (List.mem_append.mp m).elim n1 n2⟩
end
end
end DN
namespace DN
open PySem PySem.Spec PyProof.Rows L2 RZ ND
variable {B : Sto}
@[simp] def sAsgI (p : D → Bool) (a : D → Option Asg) (f : Env → M B D) : SEnv → M B Fl := fun ρ => M.bind (f (seeE p ρ)) fun d => guardM d.imm (M.bind (lift (a d)) fun as => M.pure (.nx (setsS ρ as)))
end DN
namespace DN
open PySem PySem.Spec PyProof.Rows L2 RZ ND
variable {B : Sto}
end DN
namespace DN
open PySem PySem.Spec PyProof.Rows L2 RZ ND
def noLists (K : PySem.W.Frag) : Bool := K.all fun p => match p.2.cls with
  | .type n => !(n == "list")
  | _ => true
theorem lookup_mem {K : PySem.W.Frag} {a : Addr} {o : Obj} (h : K.lookup a = some o) : (a, o) ∈ K := by
  induction K with
  | nil => cases h
  | cons p K ih =>
    obtain ⟨b, u⟩ := p
    rw [List.lookup_cons] at h
    by_cases e : a = b
    · subst e
      simp at h
      rw [h]
      exact List.mem_cons_self
    · rw [show (a == b) = false by simpa using e] at h
      exact List.mem_cons_of_mem _ (ih h)
theorem sqR_of {K : PySem.W.Frag} {H : Hp} {a : Addr} {xs : List V} (hk : noLists K = true) (h : SqL K H a xs) : SqR K H a xs := by
  rcases h with h | ⟨o, its, n, h1, h2, _⟩
  · exact .inl h
  · have := List.all_eq_true.mp hk _ (lookup_mem h1)
    simp only [h2] at this
    cases this
def startV (m : Nat) (ns : List Int) : SEnv := .val (.lst (ns.map .int)) :: List.replicate (m - 1) .no
def mem0 : Mem := ⟨fun _ => none, 0⟩
theorem law_startV {K : PySem.W.Frag} {cl : CTab} {m : Nat} {a : Addr} {H : Hp} {ns : List Int} {W : WX} {F : SEnv → M (MemS K cl) Fl} {E : Ends} {σ : L2.St} (hσ : σ = some (.ref a) :: List.replicate (m - 1) none)
    (hS : SqR K H a (ns.map V.int)) (hl : ns.length ≤ 63) (hF : ∃ s', F (startV m ns) mem0 = .ok (.rt (.bl true)) s') (hE : ∀ H', E.rt (.bl true) H') :
    tS K cl (MemS K cl) W F E σ H := by
  subst hσ
  let Z : Zp := ⟨fun x => if x = a then H a else none, fun _ => none⟩
  have za : Z.h a = H a := if_pos rfl
  have zs : Sub Z.h H := fun x o e => by
    have e : (if x = a then H a else none) = some o := e
    split at e
    · rename_i h; rw [h]; exact e
    · cases e
  have sz : SqR K Z.h a (ns.map V.int) := by
    rcases hS with (h | ⟨o, h⟩) | h
    · exact .inl (.inl (za.trans h))
    · exact .inl (.inr ⟨o, za.trans h⟩)
    · exact .inr h
  have w : Wd (MemS K cl) true Z (fun _ => none) H mem0 :=
    { zh := zs, ch := (fun x o e => nomatch e), dj := (fun x e => absurd rfl e),
      sr := ⟨(fun k e => rfl), (fun k d e => nomatch e), (fun i j a e1 e2 => nomatch e1), (fun x e => absurd rfl e), (fun k e => rfl)⟩ }
  refine ⟨Z, fun _ => none, _, Z, fun _ => none, mem0, startV m ns, fun _ _ => False, (fun x o e => nomatch e), w, .refl .., ?_, ?_⟩
  · have noown : ∀ (i : Nat) (d : D), (startV m ns)[i]? ≠ some (.own d) := fun i d q => by
      unfold startV at q
      match i with
      | 0 => simp at q
      | i + 1 =>
        simp only [List.getElem?_cons_succ, List.getElem?_replicate] at q
        split at q <;> cases q
    refine ⟨by simp [startV], fun i d q => ?_, fun i d q => absurd q (noown i d), fun i d x q => absurd q (noown i d), fun i j d e x q => absurd q (noown i d)⟩
    unfold startV at q
    match i with
    | 0 =>
      simp at q
      subst q
      exact ⟨_, rfl, .slst sz (by rw [List.length_map]; exact Nat.le_trans hl (by decide)) (repL_num ns)⟩
    | i + 1 =>
      simp only [List.getElem?_cons_succ, List.getElem?_replicate] at q
      split at q <;> cases q
  · obtain ⟨s', e⟩ := hF
    rw [e]
    intro v Z1 C1 H1 _ _ r
    cases r
    exact hE H1
end DN
namespace DN
open PySem PySem.Spec PyProof.Rows L2 RZ ND
def geNs (ns ms : List Int) : Bool := Ob.lexAt (fun j => decide (ns.getD j 0 = ms.getD j 0)) (fun j => decide (ms.getD j 0 ≤ ns.getD j 0)) (decide (ms.length ≤ ns.length)) 0 (min ns.length ms.length)
def geTD : D → D → Option D
  | .int i, .int j => some (.bl (decide (j ≤ i)))
  | .tup xs, .tup ys => (intsOf xs).bind fun ns => (intsOf ys).map fun ms => .bl (geNs ns ms)
  | _, _ => none
end DN
namespace DN
open PySem PySem.Spec PyProof.Rows L2 RZ ND
section
variable {cl : CTab} {md : Bool} {W : WX} {X : Cx}
@[simp] abbrev xGetM {K : PySem.W.Frag} {cl : CTab} (fo fk fx : Env → M (MemS K cl) D) : Env → M (MemS K cl) D := fun ρ => M.bind (fo ρ) fun x => M.bind (rdD x) fun _ => M.bind (fk ρ) fun y => M.bind (fx ρ) fun z => M.bind (rdD x) fun p => lift (getDD p y z)
end
def prsOf : List D → Option (List (D × D))
  | [] => some []
  | .tup [k, d] :: r => (prsOf r).map fun l => (k, d) :: l
  | _ => none
def dictPD : D → Option D
  | .lst ds => (prsOf ds).bind fun l => putAll0 [] [] l
  | _ => none
section
variable {cl : CTab} {md : Bool} {W : WX} {X : Cx}
@[simp] abbrev xDictP {B : Sto} (f : Env → M B D) : Env → M B D := fun ρ => M.bind (f ρ) fun x => lift (dictPD x)
def dictCD : D → Option D
  | .dct ks ds => if kindT ks = false then some (.dct ks ds) else none
  | _ => none
@[simp] abbrev xDictC {B : Sto} (f : Env → M B D) : Env → M B D := fun ρ => M.bind (f ρ) fun x => lift (dictCD x)
end
end DN
namespace DN
open PySem PySem.Spec PyProof.Rows L2 RZ ND
def addLD : D → D → Option D
  | .lst xs, .lst ys => if xs.length + ys.length ≤ sizeLine then some (.lst (xs ++ ys)) else none
  | _, _ => none
@[simp] abbrev xAddL {B : Sto} (f g : Env → M B D) : Env → M B D := fun ρ => M.bind (f ρ) fun x => M.bind (g ρ) fun y => lift (addLD x y)
@[simp] def sPutX {B : Sto} (p : D → Bool) (i : Nat) (fk f : Env → M B D) : SEnv → M B Fl := fun ρ => match ρ[i]? with
  | some (.own (.dct ks ds)) => M.bind (f (seeE p ρ)) fun d => guardM (immLs d) (M.bind (fk (seeE pHide ρ)) fun k => M.bind (lift k.key) fun k => guardM (yes d && !d.isMut && decide (ks.length < sizeLine) && okK ks k) (M.pure (.nx (ρ.set i (.own (.dct (putKs ks k) (putVs ks ds k d)))))))
  | _ => fun _ => .stuck
section
variable {cl : CTab} {W : WX} {X : Cx}
theorem ent_core {f : Env → M (MemS X.K cl) D} {σ : L2.St} {H : Hp} {Q : VK} (h : tG X.K cl (MemS X.K cl) true (RpD X.K cl) W (fun ρ => M.bind (f ρ) entM) σ H Q) : tO cl (MemS X.K cl) true W X f σ H Q := by
  obtain ⟨Z, C, s, ρ, w, e, p⟩ := h
  refine ⟨Z, C, s, ρ, w, e, ?_⟩
  unfold M.bind at p
  cases ef : f ρ s with
  | stuck => simp only [ef] at p; exact p
  | err x s1 => simp only [ef] at p; exact p
  | ok d s1 =>
    simp only [ef] at p
    intro a Z1 C1 H1 w1 n1 ha hz hc o
    unfold entM at p
    by_cases hm : d.memb = true
    · rw [if_pos hm] at p
      have sm := nameZ_sub (p := a) (mem_free w1)
      cases d with
      | lst ds =>
        obtain ⟨vs, h1, h2, h3⟩ := o
        obtain ⟨w2, n2⟩ := mem_adopt (d := .lst ds) w1 hz hc h1 n1 ha ⟨hm, vs, upd_same, h2, h3.mono sm⟩
        exact p _ _ _ _ w2 n2 (.ref nameZ_at)
      | dct ks ds =>
        obtain ⟨o, kvs, h1, dk, h2, h3, h4⟩ := o
        obtain ⟨w2, n2⟩ := mem_adopt (d := .dct ks ds) w1 hz hc h1 n1 ha ⟨hm, o, kvs, upd_same, dk, h2, h3, h4.mono sm⟩
        exact p _ _ _ _ w2 n2 (.ref nameZ_at)
      | _ => cases hm
    · rw [if_neg hm] at p; exact False.elim p
theorem ds_setLcE {i : Nat} {y : Str} {py : Pos} {elt tg iter : Expr} {ifs : List Expr} {scope : Scope} {own : List (Str × Nat)} {pos spos : Pos} {src : Env → M (MemS X.K cl) (List D)} {b : D → Option Asg} {t : Env → M (MemS X.K cl) Bool} {fe : Env → M (MemS X.K cl) D} (hc : X.calm = true) (hN : X.N.Nodup) (hy : X.N[i]? = some y) (hyl : X.env.scope.names.lookup y = some .local)
    (hsw : swapsWith (.ListComp elt [⟨tg, iter, ifs, 0⟩] scope pos) (some (.Name y py)) spos.line X.env = pure true) (hi : DI cl (MemS X.K cl) true W X tg iter src) (ok : BlkOk X.N X.env.scope scope own)
    (hg : ∀ (s : Shared) (H : Hp) (C : Addr) (cs : List (Str × Addr)) (fp : List Addr), DG cl (X.blk s H scope (compEnvC scope cs C X.env) fp) tg b) (hin : TgIn (own.map (·.2)) b)
    (ht : ∀ (s : Shared) (H : Hp) (C : Addr) (cs : List (Str × Addr)) (fp : List Addr), DTs cl (MemS X.K cl) true (X.blk s H scope (compEnvC scope cs C X.env) fp) ifs t)
    (he : ∀ (s : Shared) (H : Hp) (C : Addr) (cs : List (Str × Addr)) (fp : List Addr), DE cl (MemS X.K cl) true W0 (X.blk s H scope (compEnvC scope cs C X.env) fp) elt fe) (hs : ∀ x, foldedSetIterable iter X.env x = pure x := by intro _; rfl) :
    DS cl (MemS X.K cl) W X (.Assign [.Name y py] (.ListComp elt [⟨tg, iter, ifs, 0⟩] scope pos) spos) (sSet i (xEnt (xLc (own.map (·.2)) b t fe src))) :=
  PS.weak (ps_setLc (g := tDG X.K cl b) (tt := tG X.K cl (MemS X.K cl) true RpE W0 t) (te := tG X.K cl (MemS X.K cl) true (RpD X.K cl) W0 fe) hc hN hy hyl hsw hi ok hg ht he hs) fun E σ H h => comp_core (md := true) (W := W) hin (ent_core (set_core h))
end
def listDA : List D → Option D
  | [.dct ks ds] => if ks.length ≤ sizeLine then some (.lst ks) else none
  | x => listD x
@[simp] abbrev xListA {B : Sto} (f : Env → M B D) : Env → M B D := fun ρ => M.bind (f ρ) fun x => lift (listDA [x])
theorem rep_keys {K : PySem.W.Frag} {cl : CTab} {Z : Zp} : ∀ {l : List (Key × V)}, (∀ p ∈ gkv l, KeyOk p.1) → RepL K cl Z (l.map fun kv => kV kv.1) ((gkv l).map fun p => keyD p.1)
  | [], _ => .nil
  | (k, v) :: l, h => by
    refine .cons ?_ (rep_keys fun p hp => h p (List.mem_cons_of_mem _ hp))
    have hk : KeyOk (.inl k) := h (.inl k, v) List.mem_cons_self
    cases k with
    | inl i => exact .int i
    | inr x => exact .str hk.1 hk.2
section
variable {B : Sto} {cl : CTab} {md : Bool} {W : WX} {X : Cx}
theorem dx_listA {e : Expr} {f : Env → M B D} {p pos : Pos} (hcl : ClOk cl X) (hc : X.calm = true) (hg : Gl X "list") (hm : X.mg "list" = none) (ha : DE cl B md W X e f)
    (he : starEach [e] X.env = (false, eval e X.env) :: starEach [] X.env := by rfl) (hpl : (backTo pos (starEach [] X.env)).any (·.1) = false := by rfl) :
    DX cl B md W X (.Call (.Name "list" p) [e] [] pos) (xListA f) := by
  refine PE.weak (pe_callTy (fun pins s σ H xs us Q I r h => Or.elim h (call_list_of pins s σ H xs us Q I r) fun h => Or.elim h (cr_listDN hcl hc pins s σ H xs us Q I r) (call_listD hc pins s σ H xs us Q I r)) hg hm PyProof.Rows.boot_list (pa_cons ha pa_nil he) (by decide) (by decide) he hpl) fun σ H Q ⟨Z, C, s, ρ, w, e, p⟩ => ?_
  refine ⟨Z, C, s, ρ, w, e, PostO.seq w.ch p fun dx s1 x Z1 C1 H1 w1 n1 r1 p1 => ?_⟩
  have key : ∀ {ds : List D} {vs : List V} {q : Addr}, listDA [dx] = some (.lst ds) → H1 q = none → vs.length ≤ sizeLine → RepL X.K cl Z1 vs ds → Q (.ref q) (upd H1 q (.lst vs)) := fun {ds vs q} e1 hq hl r => by
    rw [e1] at p1
    have z := none_of_sub w1.zh hq
    have c := none_of_sub w1.ch hq
    exact p1 q Z1 C1 _ (w1.mut z c) ((Nx.refl ..).mut hq) hq z c ⟨vs, upd_same, hl, r⟩
  cases dx with
  | tup ds => cases r1 with | tup a b c => exact .inl ⟨_, _, rfl, .inr (sq_t (w1.zh _ _ a)), fun q hq => key rfl hq b c⟩
  | lst ds => cases r1 with | slst a b c => exact .inl ⟨_, _, rfl, .inl (SqL.sub w1.zh a), fun q hq => key rfl hq b c⟩
  | dct ks ds =>
    by_cases hz : ks.length ≤ sizeLine
    case neg =>
      have : listDA [.dct ks ds] = none := if_neg hz
      rw [this] at p1; exact False.elim p1
    have key := fun {vs q} => key (ds := ks) (vs := vs) (q := q) (if_pos hz)
    by_cases hk : kindT ks = true
    · exact .inr (.inl (v_listDN w1.zh r1 hk fun p vs hp hz rr => key hp hz rr))
    · have hk : kindT ks = false := by cases h : kindT ks with | true => exact absurd h hk | false => rfl
      cases r1 with
      | dct a dk b c b' =>
        subst b
        obtain ⟨l, rfl, rfl⟩ := dkv_k dk hk
        refine .inr (.inr ⟨_, l, rfl, sub_rd w1.zh a, fun q hq => key hq ?_ (rep_keys c.2)⟩)
        rw [List.length_map]
        simpa using hz
  | _ => exact False.elim p1
theorem listA_lst {f : Env → M B D} (ρ : Env) (s : B.T) (d : D) (s' : B.T) (e : M.bind (f ρ) (fun x => lift (listDA [x])) s = .ok d s') : ∃ ds, d = .lst ds := by
  unfold M.bind at e
  cases h : f ρ s with
  | ok r s1 =>
    simp only [h] at e
    unfold lift at e
    cases hl : listDA [r] with
    | none => rw [hl] at e; cases e
    | some d' =>
      rw [hl] at e
      cases e
      unfold listDA at hl
      split at hl
      · split at hl
        · cases hl; exact ⟨_, rfl⟩
        · cases hl
      · unfold listD at hl
        split at hl <;> cases hl <;> exact ⟨_, rfl⟩
  | err x s1 => simp only [h] at e; cases e
  | stuck => simp only [h] at e; cases e
theorem de_listA {e : Expr} {f : Env → M B D} (h : DX cl B md W X e (xListA f)) : DE cl B md W X e (xListA f) := PE.weak h fun σ H Q q => own_core listA_lst q
end
end DN
namespace DN
open PySem PySem.Spec PyProof.Rows L2 RZ ND
@[simp] def sSetCI {B : Sto} (p : D → Bool) (i : Nat) (f : List D → M B D) (fa : Env → M B (List D)) : SEnv → M B Fl := fun ρ => M.bind (fa (seeE p ρ)) fun us => guardM (us.all D.imm) (M.bind (f us) fun d => M.pure (.nx (ρ.set i (.val d))))
end DN
namespace DN
open PySem PySem.Spec PyProof.Rows L2 RZ ND
def dropKs (ks : List D) (k : GK) : List D := ks.filter fun x => !decide (x.key = some k)
def dropVs : List D → List D → GK → List D
  | x :: ks, y :: ds, k => if x.key = some k then dropVs ks ds k else y :: dropVs ks ds k
  | _, _, _ => []
@[simp] def sPopK {B : Sto} (i : Nat) (fk : Env → M B D) : SEnv → M B Fl := fun ρ => match ρ[i]? with
  | some (.own (.dct ks ds)) => guardM (!kindT ks) (M.bind (fk (seeE pHide ρ)) fun y => M.bind (lift y.key) fun k => guardM (!k.isT && hasK ks k) (M.pure (.nx (ρ.set i (.own (.dct (dropKs ks k) (dropVs ks ds k)))))))
  | _ => fun _ => .stuck
end DN
namespace DN
open PySem PySem.Spec PyProof.Rows L2 RZ ND
@[simp] def sClrK {B : Sto} (i : Nat) : SEnv → M B Fl := fun ρ => match ρ[i]? with
  | some (.own (.dct ks ds)) => guardM (!kindT ks) (M.pure (.nx (ρ.set i (.own (.dct [] [])))))
  | _ => fun _ => .stuck
end DN
namespace DN
open PySem PySem.Spec PyProof.Rows L2 RZ ND
variable {B : Sto}
def DTx (cl : CTab) (B : Sto) (W : WX) (X : Cx) (i : Nat) (a : Addr) (c : Value) (dx : Option Addr) (x : Exn) (e : Expr) (f : Env → M B Bool) : Prop := PT X e (tEx X.K cl B RpE W i a c dx x f)
section
variable {cl : CTab} {W : WX} {X : Cx} {i : Nat} {a : Addr} {c : Value} {dx : Option Addr} {x : Exn}
theorem dtx_truth {e : Expr} {f : Env → M B D} (h : DEx cl B W X i a c dx x e f) (he : ∀ whole, isTrue e X.env whole = (do let v ← whole; standAt e.pos; holding [v] (truthy v)) := by intro _; rfl) :
    DTx cl B W X i a c dx x e fun ρ => M.bind (f ρ) fun x => lift (truthD x) := by
  refine PT.weak (pt_truth h he) fun σ H Q ⟨Z, C, s, ρ, w, e, hi, ex, p⟩ => ?_
  refine ⟨Z, C, s, ρ, w, e, hi, ex, Post.seq w.ch p fun dx s1 x Z1 C1 H1 w1 n1 r1 p1 => ?_⟩
  obtain ⟨k, hk, q⟩ := post_liftG w1 p1
  exact ⟨k, truth_v w1.zh r1 hk, q k rfl⟩
theorem dsx_if {cd : Expr} {A Bs : List Stmt} {t : Env → M B Bool} {F G : SEnv → M B Fl} {pos : Pos} (hc : DTx cl B W X i a c dx x cd t) (ha : DSx cl B W X i a c dx x A F) (hb : DSx cl B W X i a c dx x Bs G) :
    DSx cl B W X i a c dx x [.If cd A Bs pos] fun ρ => M.bind (t (seeE pHide ρ)) fun k => if k = true then F ρ else G ρ := by
  refine PSs.weak (pss_one (ps_if hc ha hb)) fun E σ H ⟨Z0, C0, H0, Z, C, s, ρ, α, c0, w, n, r, ha, ex, p⟩ => ?_
  have exs : ExR X.K cl (seeZ pHide ρ α Z H) C x c dx H := by
    obtain ⟨A, fs, h1, h2, h3⟩ := ex
    refine ⟨A, fs, h1, h2, ?_⟩
    cases hf : x.f with
    | none => rw [hf] at h3; exact h3
    | some d =>
      rw [hf] at h3
      obtain ⟨f, v, a, q1, q2, q3, q0, q4, q5⟩ := h3
      exact ⟨f, v, a, q1, q2, q3, q0, q4, q5.mono (see_sub r) d⟩
  refine ⟨seeZ pHide ρ α Z H, C, s, seeE pHide ρ, see_wd w r seeHide.nd, see_env seeHide r, ha, exs, PostS.seq seeHide w c0 n r p fun k s1 v Z1 C1 H1 w1 n1 r1 q1 => ?_⟩
  have u := see_un seeHide w c0 n r w1 n1
  have u2 := u.nx; have u3 := u.rel
  have ex1 := exs.next n1
  rw [unZ_pHide] at u2 u3
  have r1 : v = k := r1
  subst r1
  cases v with
  | true => exact ⟨Z0, C0, H0, Z1, C1, s1, ρ, α, c0, w1, u2, u3, ha, ex1, q1⟩
  | false => exact ⟨Z0, C0, H0, Z1, C1, s1, ρ, α, c0, w1, u2, u3, ha, ex1, q1⟩
end
end DN
namespace DN
open PySem PySem.Spec PyProof.Rows L2 RZ ND
@[simp] def sPutK {B : Sto} (p q p2 : D → Bool) (i : Nat) (fk f : Env → M B D) : SEnv → M B Fl := fun ρ => match ρ[i]? with
  | some (.own (.dct ks ds)) => M.bind (f (seeE p ρ)) fun d => M.bind (fk (seeE p2 ρ)) fun k => guardM k.imm (M.bind (lift k.key) fun k => guardM (q d && !d.isMut && decide (ks.length < sizeLine) && okK ks k) (M.pure (.nx (ρ.set i (.own (.dct (putKs ks k) (putVs ks ds k d)))))))
  | _ => fun _ => .stuck
end DN
namespace DN
open PySem PySem.Spec PyProof.Rows L2 RZ ND
def rhsOk (pr : List (Str × Str)) (c : Str) : D → Bool
  | .ins c' _ => decide ((c, c') ∈ pr)
  | .ref _ => false
  | _ => true
def noErrM {B : Sto} (m : M B D) : M B D := fun s => match m s with
  | .err _ _ => .stuck
  | r => r
def cmpO {B : Sto} (neg : Bool) (dom : List Str) (pr : List (Str × Str)) (f : List D → M B D) (x y : D) : M B D := match x with
  | .ins c vs => if c ∈ dom ∧ rhsOk pr c y = true then M.bind (noErrM (f [.ins c vs, y])) fun r => lift (r.asB.map fun k => .bl (k != neg)) else fun _ => .stuck
  | x => lift ((if neg = true then neD else eqD) x y)
@[simp] abbrev xCmO {B : Sto} (neg : Bool) (dom : List Str) (pr : List (Str × Str)) (f : List D → M B D) (f1 f2 : Env → M B D) : Env → M B D := fun ρ => M.bind (f1 ρ) fun x => M.bind (f2 ρ) fun y => cmpO neg dom pr f x y
@[simp] abbrev tCmO {B : Sto} (neg : Bool) (dom : List Str) (pr : List (Str × Str)) (f : List D → M B D) (f1 f2 : Env → M B D) : Env → M B Bool := fun ρ => M.bind (f1 ρ) fun x => M.bind (f2 ρ) fun y => M.bind (cmpO neg dom pr f x y) fun r => lift r.asB
end DN
namespace DN
open PySem PySem.Spec PyProof.Rows L2 RZ ND
def freshOk : D → Bool
  | .lst xs => D.immL xs && xs.all fun d => !d.isMut
  | _ => false
@[simp] def sOwnX {B : Sto} (p : D → Bool) (i : Nat) (f : Env → M B D) : SEnv → M B Fl := fun ρ => M.bind (f (seeE p ρ)) fun d => guardM (freshOk d) (M.pure (.nx (ρ.set i (.own d))))
@[simp] def sForS {B : Sto} (p : D → Bool) (a : D → Option Asg) (f : Env → M B D) (F : SEnv → M B Fl) : SEnv → M B Fl := fun ρ => M.bind (f (seeE p ρ)) fun d => M.bind (lift (range1 d)) fun ds => forL a F ds ρ
def noMut (ds : List D) : Bool := ds.all fun d => !d.isMut
@[simp] def sOwnAdd {B : Sto} (i : Nat) (f : Env → M B D) : SEnv → M B Fl := fun ρ => match ρ[i]? with
  | some (.own (.lst ds)) => M.bind (f (seeE pHide ρ)) fun d => match d with
    | .lst es => guardM (decide (ds.length + es.length ≤ sizeLine) && noMut (ds ++ es)) (M.pure (.nx (ρ.set i (.own (.lst (ds ++ es))))))
    | _ => fun _ => .stuck
  | _ => fun _ => .stuck
theorem own_leafs {K : PySem.W.Frag} {cl : CTab} {Z : Zp} {H : Hp} : ∀ {ds : List D} {vs : List V} {F : Addr → Prop}, OwnTL K cl Z H F vs ds → (∀ d ∈ ds, d.isMut = false) → RepL K cl Z vs ds
  | [], _, _, o, _ => by cases o; exact .nil
  | d :: ds, _, _, o, h => by
    cases o with
    | cons a b c t u =>
      have hd := h d List.mem_cons_self
      cases t with
      | leaf _ r => exact .cons r (own_leafs u fun e he => h e (List.mem_cons_of_mem _ he))
      | lst => simp [D.isMut] at hd
      | dct => simp [D.isMut] at hd
section
variable {B : Sto} {cl : CTab} {md : Bool} {W : WX} {X : Cx} {p : D → Bool} {i : Nat} {x : Str}
theorem ds_ownAdd {b : Expr} {f : Env → M B D} {px pos' p2 pos : Pos} (hN : X.N.Nodup) (hi : X.N[i]? = some x) (hx : Loc X.env.scope x) (hv : PE X (.Name x px) (tVar i)) (hb : DE cl B true W X b f) (hs : swapsWith (.BinOp (.Name x px) .Add b p2) (some (.Name x pos')) pos.line X.env = pure false := by rfl)
    (hf : X.fn x = true ∨ X.env.scope.names.lookup x = some .local := by first | exact .inl rfl | exact .inr rfl | assumption) : DS cl B W X (.Assign [.Name x pos'] (.BinOp (.Name x px) .Add b p2) pos) (sOwnAdd i f) := by
  refine PS.weak (ps_set hN hi hx (pe_op op_catR hv hb) hs hf) fun E σ H ⟨Z0, C0, H0, Z, C, s, ρ, α, c0, w, n, r, q0⟩ => ?_
  unfold sOwnAdd at q0
  cases hρ : ρ[i]? with
  | none => simp only [hρ] at q0; exact False.elim q0
  | some sl =>
    cases sl with
    | no => simp only [hρ] at q0; exact False.elim q0
    | val d => simp only [hρ] at q0; exact False.elim q0
    | own d =>
      cases d <;> (try (simp only [hρ] at q0; exact False.elim q0))
      rename_i ds
      simp only [hρ] at q0
      obtain ⟨a, vs, hσ, fa, _⟩ := own_lst r hρ
      refine ⟨_, hσ, ?_⟩
      refine ⟨seeZ pHide ρ α Z H, C, s, seeE pHide ρ, see_wd w r seeHide.nd, see_env seeHide r, PostS.seq seeHide w c0 n r q0 fun d s1 v Z1 C1 H1 w1 n1 r1 q1 => ?_⟩
      have u := see_un seeHide w c0 n r w1 n1
      have u1 := u.wd; have u2 := u.nx; have u3 := u.rel
      rw [unZ_hide pHide_no] at u1 u2 u3
      cases d <;> (try (exact False.elim q1))
      rename_i es
      have q1 : PostS X.K cl W Z0 C0 H0 (guardM (decide (ds.length + es.length ≤ sizeLine) && noMut (ds ++ es)) (M.pure (.nx (ρ.set i (.own (.lst (ds ++ es)))))) s1) E := q1
      unfold guardM at q1
      split at q1
      case isFalse => exact False.elim q1
      rename_i hd
      rw [Bool.and_eq_true, decide_eq_true_eq] at hd
      obtain ⟨hl, hm⟩ := hd
      have hm : ∀ d ∈ ds ++ es, d.isMut = false := fun d hd => by have := List.all_eq_true.mp hm d hd; simpa using this
      obtain ⟨a2, ws, hσ2, fa2, k1, k2, k3⟩ := own_lst u3 hρ
      cases hσ.symm.trans hσ2
      have rs := own_leafs k3 fun d hd => hm d (List.mem_append_left _ hd)
      cases r1 with
      | slst g1 g2 g3 =>
        have l1 := rs.len
        have l2 := g3.len
        refine ⟨_, _, _, _, rfl, rfl, SqR.of k1, g1.sub w1.zh, by omega, fun q hq => ?_⟩
        have z := none_of_sub u1.zh hq
        have cc := none_of_sub u1.ch hq
        refine q1 _ Z1 C1 _ _ (u1.mut z cc) (u2.trans c0 u1.ch ((Nx.refl ..).mut hq)) (u3.setOwn (F := fun y => y = q) (fun j e y o qy hj hy ho => ?_) (fun y hy => ?_) (fun j e y qy hj hy hy2 => ?_) (.lst rfl upd_same (by rw [List.length_append]; omega) (OwnTL.ofRep hm (rs.append g3))))
        · rw [upd_ne (fun e => by subst e; rw [hq] at ho; cases ho)]; exact ho
        · subst hy
          have h0 : H y = none := by
            cases e : H y with
            | none => rfl
            | some o =>
              have := n1.hh y o e (none_of_sub w1.ch hq |> fun z => by
                cases ec : C y with
                | none => rfl
                | some o2 => exact absurd (n1.cp y (by rw [ec]; simp)) (by rw [z]; simp))
              rw [hq] at this; cases this
          exact ⟨n.back w.ch h0, z, cc, _, upd_same, rfl⟩
        · subst hy
          obtain ⟨_, _, _, o, ho, _⟩ := u3.fp j e y qy hy2
          rw [hq] at ho; cases ho
def intOf : D → Option Int
  | .int j => some j
  | _ => none
@[simp] def sInsO {B : Sto} (i : Nat) (f1 f2 : Env → M B D) : SEnv → M B Fl := fun ρ => match ρ[i]? with
  | some (.own (.lst xs)) => M.bind (f1 (seeE pAll ρ)) fun a => M.bind (lift (intOf a)) fun j => M.bind (f2 (seeE pHide ρ)) fun d => M.bind (lift (mutO yes insG xs [.int j, d])) fun r => M.pure (.nx (ρ.set i (.own (.lst r.2))))
  | _ => fun _ => .stuck
theorem ds_insO {e1 e2 : Expr} {f1 f2 : Env → M B D} {px apos cpos pos : Pos} (hv : PE X (.Name x px) (tVar i)) (h1 : DE cl B true W X e1 f1) (h2 : DE cl B true W X e2 f2)
    (hst : starEach [e1, e2] X.env = (false, eval e1 X.env) :: starEach [e2] X.env := by rfl) (hst2 : starEach [e2] X.env = (false, eval e2 X.env) :: starEach [] X.env := by rfl)
    (hbase : attributeBase (.Name x px) "insert" X.env (eval (.Name x px) X.env) = eval (.Name x px) X.env := by rfl)
    (hfew : ((backTo cpos (starEach [e1, e2] X.env)).all (fun x => !x.1) && (backToKw cpos (keywordEach [] X.env)).all (fun x => x.1.isSome)
      && decide ([e1, e2].length + ([] : List Keyword).length + (if ([] : List Keyword).isEmpty then 0 else 1) < 30)) = true := by rfl)
    (hline : (apos.endLine == cpos.line) = true := by rfl) (hplain : (backTo cpos (starEach [e2] X.env)).any (·.1) = false := by rfl)
    (hsw : swapsWith (.Call (.Attribute (.Name x px) "insert" apos) [e1, e2] [] cpos) none pos.line X.env = pure false := by rfl) :
    DS cl B W X (.Expr (.Call (.Attribute (.Name x px) "insert" apos) [e1, e2] [] cpos) pos) (sInsO i f1 f2) := by
  refine PS.weak (ps_expr (pe_bm PySem.F.plainAttrs_list PySem.F.slot_list_insert PySem.F.type_list_insert mt_insert hv (pa_cons h1 (pa_cons h2 pa_nil hst2) hst) hbase hfew hline hst hplain) hsw) fun E σ H ⟨Z0, C0, H0, Z, C, s, ρ, α, c0, w, n, r, q0⟩ => ?_
  unfold sInsO at q0
  cases hρ : ρ[i]? with
  | none => simp only [hρ] at q0; exact False.elim q0
  | some sl =>
    cases sl with
    | no => simp only [hρ] at q0; exact False.elim q0
    | val d => simp only [hρ] at q0; exact False.elim q0
    | own d =>
      cases d <;> (try (simp only [hρ] at q0; exact False.elim q0))
      rename_i xs
      simp only [hρ] at q0
      obtain ⟨a, vs, hσ, fa', k1, k2, k3⟩ := own_lst r hρ
      refine ⟨_, hσ, .inl ⟨rfl, vs, SqL.of k1⟩, ?_⟩
      refine ⟨seeZ pAll ρ α Z H, C, s, seeE pAll ρ, see_wd w r seeAll.nd, see_env seeAll r, PostS.seq seeAll w c0 n r q0 fun d1 s1 v1 Z1 C1 H1 w1 n1 r1 q1 => ?_⟩
      have u := see_un seeAll w c0 n r w1 n1
      have uw := u.wd; have un := u.nx; have ur := u.rel
      generalize unZ pAll ρ α Z1 = Zu at uw un ur
      have q1 : PostS X.K cl W Z0 C0 H0 (M.bind (lift (intOf d1)) (fun j => M.bind (f2 (seeE pHide ρ)) fun d => M.bind (lift (mutO yes insG xs [.int j, d])) fun r => M.pure (.nx (ρ.set i (.own (.lst r.2))))) s1) E := q1
      cases hj : intOf d1 with
      | none => rw [hj] at q1; exact False.elim q1
      | some j =>
        rw [hj] at q1
        obtain rfl : d1 = .int j := by cases d1 <;> (unfold intOf at hj; cases hj); rfl
        cases r1
        have q1 : PostS X.K cl W Z0 C0 H0 (M.bind (f2 (seeE pHide ρ)) (fun d => M.bind (lift (mutO yes insG xs [.int j, d])) fun r => M.pure (.nx (ρ.set i (.own (.lst r.2))))) s1) E := q1
        refine ⟨seeZ pHide ρ α Zu H1, C1, s1, seeE pHide ρ, see_wd uw ur seeHide.nd, see_env seeHide ur, PostS.seq seeHide uw c0 un ur q1 fun d2 s2 v2 Z2 C2 H2 w2 n2 r2 q2 => ?_⟩
        have u2 := see_un seeHide uw c0 un ur w2 n2
        have q2 : PostS X.K cl W Z0 C0 H0 (M.bind (lift (mutO yes insG xs [.int j, d2])) (fun r => M.pure (.nx (ρ.set i (.own (.lst r.2))))) s2) E := q2
        cases hg : mutO yes insG xs [.int j, d2] with
        | none => rw [hg] at q2; exact False.elim q2
        | some res =>
          rw [hg] at q2
          refine mutO_core (Q := fun _ H1 => E.nx σ H1) mv_ins kpHide u2 hρ hσ (.cons (.int j) (.cons r2 .nil)) hg fun v H' w3 n3 r3 _ => ?_
          exact q2 σ _ _ _ _ w3 n3 r3
theorem ds_forS {tg a : Expr} {body : List Stmt} {f : Env → M B D} {b : D → Option Asg} {F : SEnv → M B Fl} {p2 q2 pos : Pos} (sp : See p md) (hp : PassesOwn (model X.prog X.w) X.A X.env X.xe) (hc : X.calm = true) (hgr : Gl X "range") (hm : X.mg "range" = none) (ha : DE cl B md W X a f) (hg : DG cl X tg b) (hb : DSs cl B W X body F)
    (hst : starEach [a] X.env = [(false, eval a X.env)] := by rfl) (hs : ∀ x, foldedSetIterable (.Call (.Name "range" p2) [a] [] q2) X.env x = pure x := by intro _; rfl) :
    DS cl B W X (.For tg (.Call (.Name "range" p2) [a] [] q2) body [] pos) (sForS p b f F) := by
  refine PS.weak (ps_for hp hc (pi_range1 hgr hm (pa_cons ha pa_nil hst) hst) hg hb hs) fun E σ H ⟨Z0, C0, H0, Z, C, s, ρ, α, c0, w, n, r, q⟩ => ?_
  refine ⟨seeZ p ρ α Z H, C, s, seeE p ρ, see_wd w r sp.nd, see_env sp r, PostS.seq sp w c0 n r q fun d s1 v Z1 C1 H1 w1 n1 r1 q1 => ?_⟩
  have u := see_un sp w c0 n r w1 n1
  cases hd : range1 d with
  | none => rw [hd] at q1; exact False.elim q1
  | some ds =>
    rw [hd] at q1
    unfold range1 at hd
    split at hd
    · split at hd <;> cases hd
      rename_i j hj
      cases r1
      refine ⟨j, rfl, by omega, by omega, ?_⟩
      have it := it_range (K := X.K) (cl := cl) (Z := unZ p ρ α Z1) (lo := 0) (n := j.toNat) (toNat_small (by omega))
      have e0 : ((List.range j.toNat).map fun i : Nat => D.int (0 + (i : Int))) = (List.range j.toNat).map fun i : Nat => D.int (i : Int) := List.map_congr_left fun i _ => by rw [Int.zero_add]
      rw [e0] at it
      exact for_rest c0 it u.wd u.nx u.rel q1
    · cases hd
end
end DN
namespace LW
open PySem PySem.Spec PyProof.Rows L2 RZ DN
section
variable {K : PySem.W.Frag} {cl : CTab}
noncomputable def b_Hall_keep : SEnv → M (MemS K cl) Fl := seqF (sSetFs pHide ["Hall", "RawHall"] 0 (eVar 0) (eVar 1)) (sSetFs pHide ["Hall", "RawHall"] 1 (eVar 0) (xB tupleD (aC (xUn sortKD (xDc [2, 3, 4] (aTup (aCons (aName 2) (aCons (aName 3) (aCons (aName 4) (aNil))))) (tY) (eVar 2) (eC (.bl true)) (iOf anyI (eVar 1)))) (aN))))
noncomputable def m_Hall_keep : List D → M (MemS K cl) D := runF 5 b_Hall_keep
noncomputable def b_is_letters : SEnv → M (MemS K cl) Fl := seqF (sIf pHide (tOo (tNt (tTr (xUn (isD "str") (eVar 0)))) (tNt (tCh leI leI (eC (.int 1)) (xB lenD (aC (eVar 0) (aN))) (eVar 1)))) (sRet pHide (eC (.bl false))) (sPass)) (sRet pHide (xB allD (aC (xLc [2] (aName 2) (tY) (xOp inK (eVar 2) (eC (.str "abcdefghijklmnopqrstuvwxyz"))) (iOf anyI (eVar 0))) (aN))))
noncomputable def m_is_letters : List D → M (MemS K cl) D := runF 3 b_is_letters
noncomputable def b_is_name : SEnv → M (MemS K cl) Fl := sRet pHide (xCall m_is_letters (aC (eVar 0) (aC (eC (.int 8)) (aN))))
noncomputable def m_is_name : List D → M (MemS K cl) D := runF 1 b_is_name
noncomputable def b_is_integer : SEnv → M (MemS K cl) Fl := sRet pHide (xAn (xUn (isD "int") (eVar 0)) (xNt (xUn (isD "bool") (eVar 0))))
noncomputable def m_is_integer : List D → M (MemS K cl) D := runF 1 b_is_integer
noncomputable def b_is_within : SEnv → M (MemS K cl) Fl := sRet pHide (xAn (xCall m_is_integer (aC (eVar 0) (aN))) (xCh leI leI (eVar 1) (eVar 0) (eVar 2)))
noncomputable def m_is_within : List D → M (MemS K cl) D := runF 3 b_is_within
noncomputable def b_is_word : SEnv → M (MemS K cl) Fl := sRet pHide (xCall m_is_letters (aC (eVar 0) (aC (eC (.int 20)) (aN))))
noncomputable def m_is_word : List D → M (MemS K cl) D := runF 1 b_is_word
noncomputable def b_is_words : SEnv → M (MemS K cl) Fl := sRet pHide (xAn (xUn (isD "tuple") (eVar 0)) (xAn (xOp leI (xB lenD (aC (eVar 0) (aN))) (eVar 1)) (xB allD (aC (xLc [2] (aName 2) (tY) (xCall m_is_word (aC (eVar 2) (aN))) (iOf anyI (eVar 0))) (aN)))))
noncomputable def m_is_words : List D → M (MemS K cl) D := runF 3 b_is_words
noncomputable def b_is_board : SEnv → M (MemS K cl) Fl := seqF (sIf pHide (tOo (tNt (tTr (xUn (isD "tuple") (eVar 0)))) (tCm neD (xB lenD (aC (eVar 0) (aN))) (eC (.int 3)))) (sRet pHide (eC (.bl false))) (sPass)) (sRet pHide (xAn (xCall m_is_name (aC (xIx (eVar 0) (eC (.int 0))) (aN))) (xAn (xCall m_is_within (aC (xIx (eVar 0) (eC (.int 1))) (aC (eC (.int 0)) (aC (eC (.int 1)) (aN))))) (xCall m_is_words (aC (xIx (eVar 0) (eC (.int 2))) (aC (eC (.int 20)) (aN)))))))
noncomputable def m_is_board : List D → M (MemS K cl) D := runF 1 b_is_board
noncomputable def b_Hall_init : SEnv → M (MemS K cl) Fl := seqF (sIf pHide (tOo (tNt (tTr (xUn (isD "tuple") (eVar 1)))) (tNt (tCh leI leI (eC (.int 1)) (xB lenD (aC (eVar 1) (aN))) (eC (.int 12))))) (sNv) (sPass)) (seqF (sFor (aTup (aCons (aName 2) (aCons (aName 3) (aNil)))) (iOf enumI (eVar 1)) (sIf pHide (tNt (tTr (xCall m_is_board (aC (eVar 3) (aN))))) (sNv) (sPass))) (sEx pHide (xMeth "Hall" m_Hall_keep (eVar 0) (aC (eVar 1) (aN)))))
noncomputable def m_Hall_init : List D → M (MemS K cl) D := runF 4 b_Hall_init
noncomputable def b__law_pick : SEnv → M (MemS K cl) Fl := seqF (sIf pHide (tCm gtI (xIxM (eVar 0) (eC (.int 2))) (eC (.int 1))) (seqF (sSet 4 (xOp modD (xB intD (aC (xIxM (eVar 0) (eC (.int 2))) (aN))) (eVar 1))) (seqF (sSetM pHide (eVar 0) (eC (.int 2)) (xOp fdivD (xIxM (eVar 0) (eC (.int 2))) (eVar 1))) (sRet pHide (eVar 4)))) (sPass)) (seqF (sSetM pHide (eVar 0) (eC (.int 4)) (xOp addD (xIxM (eVar 0) (eC (.int 4))) (eC (.int 1)))) (seqF (sSet 2 (eC (.int 0))) (seqF (sIf pHide (tCm ltI (xIxM (eVar 0) (eC (.int 1))) (xLenM (xIxM (eVar 0) (eC (.int 0))))) (seqF (sSet 2 (xIxM (xIxM (eVar 0) (eC (.int 0))) (xIxM (eVar 0) (eC (.int 1))))) (sSetM pHide (eVar 0) (eC (.int 1)) (xOp addD (xIxM (eVar 0) (eC (.int 1))) (eC (.int 1))))) (sPass)) (seqF (sIf pHide (tCm geI (eVar 2) (xOp powD (eC (.int 10)) (eC (.int 18)))) (seqF (sSetM pHide (eVar 0) (eC (.int 2)) (xOp fdivD (eVar 2) (eVar 1))) (sRet pHide (xOp modD (xB intD (aC (eVar 2) (aN))) (eVar 1)))) (sPass)) (seqF (sSet 3 (xOp modD (xB intD (aC (xOp addD (xOp addD (xOp mulD (xIxM (eVar 0) (eC (.int 3))) (eC (.int 48271))) (xOp modD (xB intD (aC (eVar 2) (aN))) (eC (.int 2147483629)))) (xOp mulD (xIxM (eVar 0) (eC (.int 4))) (eC (.int 69621)))) (aN))) (eC (.int 2147483647)))) (seqF (sSet 3 (xOp modD (xB intD (aC (xOp mulD (eVar 3) (xOp addD (xOp fdivD (eVar 3) (eC (.int 1009))) (eC (.int 40692)))) (aN))) (eC (.int 2147483399)))) (seqF (sSetM pHide (eVar 0) (eC (.int 3)) (eVar 3)) (sRet pHide (xOp modD (xB intD (aC (xOp fdivD (eVar 3) (eC (.int 16))) (aN))) (eVar 1))))))))))
noncomputable def m__law_pick : List D → M (MemS K cl) D := runF 5 b__law_pick
noncomputable def b_is_ascending : SEnv → M (MemS K cl) Fl := sRet pHide (xB allD (aC (xLc [1, 2] (aTup (aCons (aName 1) (aCons (aName 2) (aNil)))) (tY) (xOp ltDT (eVar 1) (eVar 2)) (iOf2 zipI (eVar 0) (xSl (eVar 0) (oS (eC (.int 1))) (oN)))) (aN)))
noncomputable def m_is_ascending : List D → M (MemS K cl) D := runF 3 b_is_ascending
noncomputable def b_is_lot : SEnv → M (MemS K cl) Fl := seqF (sIf pHide (tOo (tNt (tTr (xUn (isD "tuple") (eVar 0)))) (tNt (tTr (xB allD (aC (xLc [2] (aName 2) (tY) (xCall m_is_within (aC (eVar 2) (aC (eC (.int 0)) (aC (xOp subD (eVar 1) (eC (.int 1))) (aN))))) (iOf anyI (eVar 0))) (aN)))))) (sRet pHide (eC (.bl false))) (sPass)) (sRet pHide (xCall m_is_ascending (aC (eVar 0) (aN))))
noncomputable def m_is_lot : List D → M (MemS K cl) D := runF 3 b_is_lot
end
end LW
namespace LW
open PySem PySem.Spec PyProof.Rows L2 RZ DN
section
variable {K : PySem.W.Frag} {cl : CTab}
theorem e_integer_I {i : Int} : (m_is_integer [.int i] : M (MemS K cl) D) = M.pure (.bl true) := by simp [m_is_integer, b_is_integer, startE]
theorem e_within_I {i a b : Int} : (m_is_within [.int i, .int a, .int b] : M (MemS K cl) D) = M.pure (.bl (decide (a ≤ i ∧ i ≤ b))) := by
  simp [m_is_within, b_is_within, startE, e_integer_I]
  split <;> simp [*]
theorem cutL_one {ds : List D} : cutL ds (some 1) none = ds.drop 1 := by
  unfold cutL
  have e : HT.sIx ds.length 0 (some 1) = min 1 ds.length := HT.sIx_nat ds.length 0 1
  rw [e, HT.sIx_none]
  cases ds with
  | nil => rfl
  | cons d ds => simp
theorem zip_int : ∀ {l r : List Int}, zipL (l.map .int) (r.map .int) = (l.zip r).map fun p => .tup [.int p.1, .int p.2]
  | [], _ => by simp [zipL]
  | _ :: _, [] => by simp [zipL]
  | a :: l, b :: r => by simp [zipL, zip_int]
theorem chain_all : ∀ {l : List Int}, ((l.zip (l.drop 1)).all fun p => decide (p.1 < p.2)) = decide (l.Pairwise (· < ·))
  | [] => by simp
  | [a] => by simp
  | a :: b :: l => by
    have ih := chain_all (l := b :: l)
    simp only [List.drop_succ_cons, List.drop_zero, List.zip_cons_cons, List.all_cons] at ih ⊢
    rw [ih, Bool.eq_iff_iff]
    simp only [Bool.and_eq_true, decide_eq_true_eq, List.pairwise_cons, List.mem_cons, forall_eq_or_imp]
    constructor
    · rintro ⟨h1, h2, h3⟩
      exact ⟨⟨h1, fun c hc => Int.lt_trans h1 (h2 c hc)⟩, h2, h3⟩
    · rintro ⟨⟨h1, _⟩, h2, h3⟩
      exact ⟨h1, h2, h3⟩
theorem e_ascending {l : List Int} : (m_is_ascending [.tup (l.map .int)] : M (MemS K cl) D) = M.pure (.bl (decide (l.Pairwise (· < ·)))) := by
  have e : (l.map D.int).drop 1 = (l.drop 1).map D.int := by simp
  simp only [m_is_ascending, b_is_ascending, s_runF, startE]
  simp [slD, cutL_one]
  rw [← List.drop_one, e, zip_int, compL_map (k := fun p => .bl (decide (p.1 < p.2)))]
  · have := chain_all (l := l)
    rw [List.drop_one] at this
    simp [this]
  · intro p hp
    simp [setsE, wipeE]
theorem e_lot {l : List Int} {n : Int} (h : ∀ i ∈ l, 0 ≤ i ∧ i < n) : (m_is_lot [.tup (l.map .int), .int n] : M (MemS K cl) D) = M.pure (.bl (decide (l.Pairwise (· < ·)))) := by
  simp only [m_is_lot, b_is_lot, s_runF, startE]
  simp
  rw [compL_map (k := fun _ => .bl true)]
  · have : allD [.lst (l.map fun _ => D.bl true)] = some (.bl true) := by
      rw [show (l.map fun _ => D.bl true) = l.map fun a => .bl ((fun _ => true) a) from rfl, allD_map]
      simp
    simp [this, e_ascending]
  · intro i hi
    simp [wipeE, e_within_I]
    have := h i hi
    have h1 : 0 ≤ i := this.1
    have h2 : i ≤ n - 1 := by omega
    simp [h1, h2]
end
inductive Kd where
  | all | some | least (n : Nat)
inductive Aim where
  | at (b : Nat) | node (k : Kd) (as : List Aim)
def Kd.d (k : Kd) (ds : List D) : D := match k with
  | .all => .tup [.str "all", .tup ds]
  | .some => .tup [.str "some", .tup ds]
  | .least n => .tup [.str "least", .int n, .tup ds]
mutual
def Aim.d : Aim → D
  | .at b => .int b
  | .node k as => k.d (Aim.dL as)
def Aim.dL : List Aim → List D
  | [] => []
  | a :: as => a.d :: Aim.dL as
end
def Kd.holds (k : Kd) (bs : List Bool) : Bool := match k with
  | .all => bs.all id
  | .some => bs.any id
  | .least n => decide (n ≤ bs.countP id)
mutual
def Aim.holds (p : Nat → Bool) : Aim → Bool
  | .at b => p b
  | .node k as => k.holds (Aim.holdsL p as)
def Aim.holdsL (p : Nat → Bool) : List Aim → List Bool
  | [] => []
  | a :: as => a.holds p :: Aim.holdsL p as
end
theorem holdsL_map (p : Nat → Bool) : ∀ as : List Aim, Aim.holdsL p as = as.map (Aim.holds p)
  | [] => rfl
  | a :: as => by rw [Aim.holdsL, holdsL_map p as]; rfl
theorem holds_node {p : Nat → Bool} {k : Kd} {as : List Aim} : (Aim.node k as).holds p = k.holds (as.map (Aim.holds p)) := by rw [Aim.holds, holdsL_map]
def Gd (many w : Nat) : Nat → Aim → Prop
  | 0, _ => False
  | _ + 1, .at b => b < many
  | k + 1, .node kd as => (match kd with | .least n => n ≤ 25 | _ => True) ∧ as.length ≤ w ∧ ∀ a ∈ as, Gd many w k a
theorem Gd.up {many w : Nat} : ∀ {k : Nat} {a : Aim}, Gd many w k a → Gd many w (k + 1) a
  | 0, _, h => False.elim h
  | k + 1, .at b, h => h
  | k + 1, .node kd as, h => ⟨h.1, h.2.1, fun a ha => (h.2.2 a ha).up⟩
theorem Gd.le {many w k k' : Nat} {a : Aim} (h : Gd many w k a) (l : k ≤ k') : Gd many w k' a := by
  induction l with
  | refl => exact h
  | step _ ih => exact ih.up
def most (w : Nat) : Nat → Nat
  | 0 => 1
  | k + 1 => 1 + w * most w k
end LW
namespace LW
open PySem PySem.Spec PyProof.Rows L2 RZ DN
section
variable {K : PySem.W.Frag} {cl : CTab} {many w : Nat}
def Ht : Nat → Aim → Prop
  | 0, _ => False
  | _ + 1, .at _ => True
  | k + 1, .node _ as => ∀ a ∈ as, Ht k a
theorem Ht.up : ∀ {k : Nat} {a : Aim}, Ht k a → Ht (k + 1) a
  | 0, _, h => False.elim h
  | k + 1, .at b, h => trivial
  | k + 1, .node kd as, h => fun a ha => Ht.up (h a ha)
theorem Ht.le {k k' : Nat} {a : Aim} (h : Ht k a) (l : k ≤ k') : Ht k' a := by
  induction l with
  | refl => exact h
  | step _ ih => exact ih.up
theorem Gd.ht {many w : Nat} : ∀ {k : Nat} {a : Aim}, Gd many w k a → Ht k a
  | 0, _, h => False.elim h
  | k + 1, .at b, h => trivial
  | k + 1, .node kd as, h => fun a ha => (h.2.2 a ha).ht
def Kd.ok (k : Kd) : Bool := match k with
  | .least n => decide (n ≤ 25)
  | _ => true
end
end LW
namespace LW
open PySem PySem.Spec PyProof.Rows L2 RZ DN
theorem Gd.many {m m' w : Nat} (l : m ≤ m') : ∀ {k : Nat} {a : Aim}, Gd m w k a → Gd m' w k a
  | 0, _, h => False.elim h
  | k + 1, .at b, h => Nat.lt_of_lt_of_le h l
  | k + 1, .node kd as, h => ⟨h.1, h.2.1, fun a ha => (h.2.2 a ha).many l⟩
end LW
namespace LW
open PySem PySem.Spec PyProof.Rows L2 RZ DN
section
variable {K : PySem.W.Frag} {cl : CTab} {many w : Nat} {t : TF}
@[simp] theorem s_is2T {ds : List D} : isD2 "tuple" "list" (.tup ds) = some (.bl true) := by show (kitB "tuple" "tuple").bind (fun a => (kitB "tuple" "list").map fun b => D.bl (a || b)) = _; rw [k_tuple_tuple, k_tuple_list]; rfl
@[simp] theorem s_is2I {i : Int} : isD2 "tuple" "list" (.int i) = some (.bl false) := by show (kitB "int" "tuple").bind (fun a => (kitB "int" "list").map fun b => D.bl (a || b)) = _; rw [k_int_tuple, k_int_list]; rfl
@[simp] theorem s_is2S {i : Str} : isD2 "tuple" "list" (.str i) = some (.bl false) := by show (kitB "str" "tuple").bind (fun a => (kitB "str" "list").map fun b => D.bl (a || b)) = _; rw [k_str_tuple, k_str_list]; rfl
@[simp] theorem s_is2B {i : Bool} : isD2 "tuple" "list" (.bl i) = some (.bl false) := by show (kitB "bool" "tuple").bind (fun a => (kitB "bool" "list").map fun b => D.bl (a || b)) = _; rw [k_bool_tuple, k_bool_list]; rfl
@[simp] theorem s_is2L {ds : List D} : isD2 "tuple" "list" (.lst ds) = some (.bl true) := by show (kitB "list" "tuple").bind (fun a => (kitB "list" "list").map fun b => D.bl (a || b)) = _; rw [k_list_tuple, k_list_list]; rfl
theorem allD_true {α : Type} {as : List α} : allD [.lst (as.map fun _ => D.bl true)] = some (.bl true) := by
  have := allD_map (f := fun _ : α => true) (as := as)
  simpa using this
@[simp] theorem s_max0 {i : Int} : max2D [.int 0, .int i] = some (.int (if 0 < i then i else 0)) := by
  simp [max2D]
def errM {α : Type} {B : Sto} (x : Exn) : M B α := fun s => .err x s
@[simp] theorem raise_eq {B : Sto} {x : Str} {ρ : SEnv} : (sRaise x ρ : M B Fl) = errM ⟨x, none⟩ := rfl
@[simp] theorem bind_err {α β : Type} {B : Sto} {x : Exn} {f : α → M B β} : M.bind (errM x : M B α) f = errM x := rfl
end
end LW
namespace LW
open PySem PySem.Spec PyProof.Rows L2 RZ DN
section
variable {K : PySem.W.Frag} {cl : CTab}
theorem allD_true' {α : Type} {as : List α} : (as.all fun _ => true) = true := List.all_eq_true.mpr fun _ _ => rfl
theorem e_letters {m : Nat} {z : Str} (h : WordOk m z) : (m_is_letters [.str z, .int m] : M (MemS K cl) D) = M.pure (.bl true) := by
  obtain ⟨h1, h2, h3⟩ := h
  have g1 : (1 : Int) ≤ z.length := by omega
  have g2 : (z.length : Int) ≤ m := by omega
  unfold lettersD at h3
  simp [m_is_letters, b_is_letters, startE, g1, g2]
  rw [compL_map (k := fun _ => .bl true) (fun c hc => by simp [wipeE, h3 c hc])]
  simp [allD_true, allD_true']
theorem e_word {z : Str} (h : WordOk 20 z) : (m_is_word [.str z] : M (MemS K cl) D) = M.pure (.bl true) := by
  have := e_letters (K := K) (cl := cl) h
  have e : ((20 : Nat) : Int) = 20 := rfl
  rw [e] at this
  simp [m_is_word, b_is_word, startE, this]
theorem e_name {z : Str} (h : WordOk 8 z) : (m_is_name [.str z] : M (MemS K cl) D) = M.pure (.bl true) := by
  have := e_letters (K := K) (cl := cl) h
  have e : ((8 : Nat) : Int) = 8 := rfl
  rw [e] at this
  simp [m_is_name, b_is_name, startE, this]
theorem e_words {r : List Str} {m : Nat} (h : ∀ w ∈ r, WordOk 20 w) (hl : r.length ≤ m) : (m_is_words [.tup (r.map .str), .int m] : M (MemS K cl) D) = M.pure (.bl true) := by
  have g : (r.length : Int) ≤ m := by omega
  simp [m_is_words, b_is_words, startE, g]
  rw [compL_map (k := fun _ => .bl true) (fun c hc => by simp [wipeE, e_word (h c hc)])]
  simp [allD_true, allD_true']
theorem e_board {b : D} (h : BoardOk b) : (m_is_board [b] : M (MemS K cl) D) = M.pure (.bl true) := by
  obtain ⟨n, s, r, rfl, h1, h2, h3, h4, h5⟩ := h
  have hw := e_words (K := K) (cl := cl) (m := 20) h5 h4
  have e : ((20 : Nat) : Int) = 20 := rfl
  rw [e] at hw
  simp [m_is_board, b_is_board, startE, boardD, e_name h1, e_within_I, h2, h3, hw]
theorem nmL_of {bs : List D} {nm : D} (h : namesD bs = some nm) : ∃ ns, nmL bs = some ns ∧ (DN.putAll [] [] (ns.map fun n => (n, .bl true))).bind sortKD = some nm := by
  unfold namesD at h
  cases e : nmL bs with
  | none => rw [e] at h; cases h
  | some ns => rw [e] at h; exact ⟨ns, rfl, h⟩
theorem e_keep {c : Str} {s : Mem} {bs ns : List D} (hc : c ∈ (["Hall", "RawHall"] : List Str)) (hb : D.immL bs = true) (hn : D.immL ns = true) (h : namesD bs = some (.lst ns)) :
    wp (m_Hall_keep (K := K) (cl := cl) [.ref s.n, .tup bs]) (fun a s' => a = .non ∧ s' = s.push (.ins c [.tup bs, .tup ns])) (s.push (.ins c [])) := by
  obtain ⟨nl, h1, h2⟩ := nmL_of h
  have im : (D.tup bs).imm = true := hb
  have im2 : (D.tup ns).imm = true := hn
  simp only [m_Hall_keep, b_Hall_keep, s_runF, startE]
  simp
  refine (wp_setfs push_at hc rfl im).mpr ?_
  simp
  have hcomp : ∀ d ∈ bs, (compFD (B := MemS K cl) (aTup (aCons (aName 2) (aCons (aName 3) (aCons (aName 4) aNil)))) tY (eVar 2) (eC (.bl true)) (wipeE [some (D.ref s.n), some (D.tup bs), none, none, none] [2, 3, 4]) d) = M.pure ((fun d => match d with
      | .tup [n, x, y] => some (n, D.bl true)
      | _ => none) d) := by
    intro d hd
    obtain ⟨n, x, y, rfl⟩ := nmL_inv h1 d hd
    simp [compFD, wipeE]
  rw [compL_pure hcomp, nmL_map h1 _ (fun n x y _ => rfl)]
  cases e2 : DN.putAll [] [] (nl.map fun n => (n, D.bl true)) with
  | none => rw [e2] at h2; cases h2
  | some dd =>
    rw [e2, Option.bind_some] at h2
    simp [h2, e2]
    refine (wp_setfs push_at hc rfl im2).mpr ?_
    simp
theorem i_keep_cases (bs : List D) : i_keep bs = .stuck ∨ ∃ ns, namesD bs = some (.lst ns) ∧ D.purL bs = true ∧ D.purL ns = true ∧ i_keep bs = .ok [.tup bs, .tup ns] := by
  unfold i_keep
  split
  · rename_i ns e
    split
    · rename_i h
      rw [Bool.and_eq_true] at h
      exact .inr ⟨ns, e, h.1, h.2, rfl⟩
    · exact .inl rfl
  · exact .inl rfl
theorem enumL_mem {bs : List D} : ∀ (i : Nat), ∀ d ∈ enumL i bs, ∃ (j : Int) (b : D), d = .tup [.int j, b] ∧ b ∈ bs := by
  induction bs with
  | nil => intro i d h; exact nomatch h
  | cons b bs ih =>
    intro i d h
    rw [enumL] at h
    rcases List.mem_cons.mp h with rfl | h
    · exact ⟨_, b, rfl, List.mem_cons_self⟩
    · obtain ⟨j, c, e, m⟩ := ih (i + 1) d h
      exact ⟨j, c, e, List.mem_cons_of_mem _ m⟩
theorem init_Hall : InitIs "Hall" (m_Hall_init (K := K) (cl := cl)) i_Hall := by
  intro ds s
  have cases1 : i_Hall ds = .stuck ∨ ∃ bs, ds = [.tup bs] ∧ (1 ≤ bs.length ∧ bs.length ≤ 12 ∧ ∀ b ∈ bs, BoardOk b) ∧ i_Hall ds = i_keep bs := by
    unfold i_Hall
    split
    · split
      · rename_i h
        exact .inr ⟨_, rfl, h, rfl⟩
      · exact .inl rfl
    · exact .inl rfl
  rcases cases1 with h | ⟨bs, rfl, ⟨g1, g2, g3⟩, h⟩
  · rw [h]; trivial
  · rw [h]
    rcases i_keep_cases bs with h | ⟨ns, h1, h2, h3, h4⟩
    · rw [h]; trivial
    · rw [h4]
      show m_Hall_init _ _ = _
      refine ok_of_wp (B := MemS K cl) ?_
      have l1 : (1 : Int) ≤ bs.length := by omega
      have l2 : (bs.length : Int) ≤ 12 := by omega
      simp [m_Hall_init, b_Hall_init, startE, l1, l2]
      refine wp_forI (fun r ρ s' => (∀ d ∈ r, ∃ (i : Int) (b : D), d = .tup [.int i, b] ∧ b ∈ bs) ∧ s' = s.push (D.ins "Hall" []) ∧
        ∃ x y : Sl, ρ = [.val (.ref s.n), .val (.tup bs), x, y]) ⟨enumL_mem 0, rfl, _, _, rfl⟩ ?_ ?_
      · rintro d r ρ s' ⟨hr, rfl, x, y, rfl⟩
        obtain ⟨i, b, rfl, hb⟩ := hr d List.mem_cons_self
        refine ⟨[(2, .int i), (3, b)], by simp, ?_⟩
        simp [e_board (g3 b hb)]
        exact fun d hd => hr d (List.mem_cons_of_mem _ hd)
      · rintro ρ s' ⟨_, rfl, x, y, rfl⟩
        simp [wp_insr]
        exact wp_mono (e_keep (by simp) (D.purL_imm _ h2) (D.purL_imm _ h3) h1) fun a s' h => h.2
def HallOf (h : D) (bs : List D) : Prop := ∃ c ns, c ∈ (["Hall", "RawHall"] : List Str) ∧ h = .ins c [.tup bs, ns]
theorem e_boards {h : D} {bs : List D} (g : HallOf h bs) : (fldMs (K := K) (cl := cl) ["Hall", "RawHall"] 0 h) = M.pure (.tup bs) := by
  obtain ⟨c, ns, hc, rfl⟩ := g
  rw [flds_ins hc]
  rfl
end
end LW
namespace LW
open PySem PySem.Spec PyProof.Rows L2 RZ DN
section
variable {K : PySem.W.Frag} {cl : CTab}
noncomputable def b__law_word : SEnv → M (MemS K cl) Fl := seqF (sSet 1 (xLst (aC (eC (.str "a")) (aC (eC (.str "b")) (aC (eC (.str "c")) (aC (eC (.str "a")) (aC (eC (.str "b")) (aC (eC (.str "ab")) (aC (eC (.str "zz")) (aC (eC (.str "c")) (aC (eC (.str "aa")) (aC (eC (.str "qwertyuiopasdfghjklz")) (aN))))))))))))) (sRet pHide (xIx (eVar 1) (xCall m__law_pick (aC (eVar 0) (aC (eC (.int 10)) (aN))))))
noncomputable def b__law_are_pair : SEnv → M (MemS K cl) Fl := seqF (sIf pHide (tOo (tCm neD (xIx (eVar 0) (eC (.int 0))) (xIx (eVar 1) (eC (.int 0)))) (tCm eqD (xIx (eVar 0) (eC (.int 1))) (xIx (eVar 1) (eC (.int 1))))) (sRet pHide (eC (.bl false))) (sPass)) (seqF (sIf pHide (tCm eqD (xIx (eVar 0) (eC (.int 2))) (xIx (eVar 1) (eC (.int 2)))) (sRet pHide (eC (.bl true))) (sPass)) (seqF (sFor (aTup (aCons (aName 2) (aCons (aName 3) (aNil)))) (iOf anyI (xLst (aC (xTup (aC (eVar 0) (aC (eVar 1) (aN)))) (aC (xTup (aC (eVar 1) (aC (eVar 0) (aN)))) (aN))))) (sIf pHide (tAn (tCm eqD (xSl (xIx (eVar 2) (eC (.int 2))) (oN) (oS (xUn negD (eC (.int 1))))) (xIx (eVar 3) (eC (.int 2)))) (tCm eqD (xB lenD (aC (xIx (eVar 2) (eC (.int 2))) (aN))) (xOp addD (xB lenD (aC (xIx (eVar 3) (eC (.int 2))) (aN))) (eC (.int 1))))) (sRet pHide (xOp neD (xIx (eVar 2) (eC (.int 1))) (xOp modD (xB lenD (aC (xIx (eVar 3) (eC (.int 2))) (aN))) (eC (.int 2))))) (sPass))) (sRet pHide (eC (.bl false)))))
noncomputable def b_mover_of : SEnv → M (MemS K cl) Fl := sRet pHide (xOp modD (xB lenD (aC (eVar 0) (aN))) (eC (.int 2)))
noncomputable def m_mover_of : List D → M (MemS K cl) D := runF 1 b_mover_of
noncomputable def b_is_ahead : SEnv → M (MemS K cl) Fl := seqF (sIf pHide (tOo (tCm neD (xB lenD (aC (xIx (eVar 0) (eC (.int 2))) (aN))) (xOp addD (xB lenD (aC (xIx (eVar 1) (eC (.int 2))) (aN))) (eC (.int 1)))) (tCm neD (xSl (xIx (eVar 0) (eC (.int 2))) (oN) (oS (xUn negD (eC (.int 1))))) (xIx (eVar 1) (eC (.int 2))))) (sRet pHide (eC (.bl false))) (sPass)) (sRet pHide (xOp neD (xCall m_mover_of (aC (xIx (eVar 1) (eC (.int 2))) (aN))) (xIx (eVar 0) (eC (.int 1)))))
noncomputable def m_is_ahead : List D → M (MemS K cl) D := runF 2 b_is_ahead
noncomputable def b_are_pair : SEnv → M (MemS K cl) Fl := seqF (sIf pHide (tOo (tCm neD (xIx (eVar 0) (eC (.int 0))) (xIx (eVar 1) (eC (.int 0)))) (tCm eqD (xIx (eVar 0) (eC (.int 1))) (xIx (eVar 1) (eC (.int 1))))) (sRet pHide (eC (.bl false))) (sPass)) (sRet pHide (xOr (xOp eqD (xIx (eVar 0) (eC (.int 2))) (xIx (eVar 1) (eC (.int 2)))) (xOr (xCall m_is_ahead (aC (eVar 0) (aC (eVar 1) (aN)))) (xCall m_is_ahead (aC (eVar 1) (aC (eVar 0) (aN)))))))
noncomputable def m_are_pair : List D → M (MemS K cl) D := runF 2 b_are_pair
end
end LW
namespace LW
open PySem PySem.Spec PyProof.Rows L2 RZ DN
def Da : Nat → D → Prop
  | 0, _ => False
  | _ + 1, .non => True
  | _ + 1, .int _ => True
  | _ + 1, .str _ => True
  | k + 1, .tup ds => ∀ d ∈ ds, Da k d
  | k + 1, .lst ds => ∀ d ∈ ds, Da k d
  | _, _ => False
section
variable {k j : Nat} {d e : D} {ds es : List D}
@[simp] theorem da_non : Da (k + 1) .non := trivial
@[simp] theorem da_int {i : Int} : Da (k + 1) (.int i) := trivial
@[simp] theorem da_str {x : Str} : Da (k + 1) (.str x) := trivial
@[simp] theorem da_tup : Da (k + 1) (.tup ds) ↔ ∀ d ∈ ds, Da k d := by rw [Da]
@[simp] theorem da_lst : Da (k + 1) (.lst ds) ↔ ∀ d ∈ ds, Da k d := by rw [Da]
theorem da_cases (h : Da (k + 1) d) : d = .non ∨ (∃ i, d = .int i) ∨ (∃ x, d = .str x) ∨ (∃ ds, d = .tup ds ∧ ∀ x ∈ ds, Da k x) ∨ ∃ ds, d = .lst ds ∧ ∀ x ∈ ds, Da k x := by
  cases d with
  | non => exact .inl rfl
  | int i => exact .inr (.inl ⟨i, rfl⟩)
  | str x => exact .inr (.inr (.inl ⟨x, rfl⟩))
  | tup ds => exact .inr (.inr (.inr (.inl ⟨ds, rfl, da_tup.mp h⟩)))
  | lst ds => exact .inr (.inr (.inr (.inr ⟨ds, rfl, da_lst.mp h⟩)))
  | _ => simp [Da] at h
theorem Da.plain : ∀ {k : Nat} {d : D}, Da k d → d.plain = true ∧ d.py.depth ≤ k
  | 0, _, h => by simp [Da] at h
  | k + 1, d, h => by
    rcases da_cases h with rfl | ⟨i, rfl⟩ | ⟨x, rfl⟩ | ⟨ds, rfl, h⟩ | ⟨ds, rfl, h⟩
    · exact ⟨rfl, by simp [D.py, PyData.depth]⟩
    · exact ⟨rfl, by simp [D.py, PyData.depth]⟩
    · exact ⟨rfl, by simp [D.py, PyData.depth]⟩
    · exact ⟨plainL_all fun x hx => (h x hx).plain.1, by rw [D.py, PyData.depth]; exact Nat.succ_le_succ (depthAll_le fun x hx => (h x hx).plain.2)⟩
    · exact ⟨plainL_all fun x hx => (h x hx).plain.1, by rw [D.py, PyData.depth]; exact Nat.succ_le_succ (depthAll_le fun x hx => (h x hx).plain.2)⟩
theorem Da.okc (h : Da k d) (hk : k ≤ 60) : d.okc = true := by
  obtain ⟨a, b⟩ := h.plain
  unfold D.okc
  rw [a, decide_eq_true (by omega)]
  rfl
theorem eqvAll_iff : ∀ {ds es : List D}, (∀ d ∈ ds, ∀ e ∈ es, (PyData.eqv d.py e.py = true ↔ d = e)) → (PyData.eqvAll (D.pyL ds) (D.pyL es) = true ↔ ds = es)
  | [], [], _ => by simp [D.pyL, PyData.eqvAll]
  | [], e :: es, _ => by simp [D.pyL, PyData.eqvAll]
  | d :: ds, [], _ => by simp [D.pyL, PyData.eqvAll]
  | d :: ds, e :: es, h => by
    rw [D.pyL, D.pyL, PyData.eqvAll, Bool.and_eq_true, h d List.mem_cons_self e List.mem_cons_self, eqvAll_iff fun a ha b hb => h a (List.mem_cons_of_mem _ ha) b (List.mem_cons_of_mem _ hb), List.cons.injEq]
theorem Da.eqv : ∀ {k j : Nat} {d e : D}, Da k d → Da j e → (PyData.eqv d.py e.py = true ↔ d = e)
  | 0, _, _, _, h, _ => by simp [Da] at h
  | _ + 1, 0, _, _, _, h => by simp [Da] at h
  | k + 1, j + 1, d, e, h, g => by
    rcases da_cases h with rfl | ⟨i, rfl⟩ | ⟨x, rfl⟩ | ⟨ds, rfl, h⟩ | ⟨ds, rfl, h⟩ <;> rcases da_cases g with rfl | ⟨i', rfl⟩ | ⟨x', rfl⟩ | ⟨es, rfl, g⟩ | ⟨es, rfl, g⟩
    all_goals first
      | (simp [D.py, PyData.eqv]; done)
      | (rw [D.py, D.py, PyData.eqv, eqvAll_iff fun a ha b hb => (h a ha).eqv (g b hb)]; simp)
open Classical in
theorem eq_da (h : Da k d) (g : Da j e) (hk : k ≤ 60 := by decide) (hj : j ≤ 60 := by decide) : eqD d e = some (.bl (decide (d = e))) := by
  unfold eqD
  rw [h.okc hk, g.okc hj]
  simp only [Bool.and_self, if_true]
  congr 2
  rw [Bool.eq_iff_iff, h.eqv g, decide_eq_true_iff]
open Classical in
theorem ne_da (h : Da k d) (g : Da j e) (hk : k ≤ 60 := by decide) (hj : j ≤ 60 := by decide) : neD d e = some (.bl (!decide (d = e))) := by
  unfold neD
  rw [h.okc hk, g.okc hj]
  simp only [Bool.and_self, if_true]
  congr 3
  rw [Bool.eq_iff_iff, h.eqv g, decide_eq_true_iff]
theorem okc_lst (h : ∀ d ∈ ds, Da k d) (hk : k ≤ 59) : (D.lst ds).okc = true := Da.okc (k := k + 1) (da_lst.mpr h) (by omega)
open Classical in
theorem inSeq_da (h : Da k d) (g : ∀ e ∈ es, Da j e) (hk : k ≤ 60 := by decide) (hj : j ≤ 59 := by decide) : inSeq d es = some (decide (d ∈ es)) := by
  unfold inSeq
  rw [h.okc hk, okc_lst g hj]
  simp only [Bool.and_self, if_true]
  congr 1
  rw [pyL_map, List.any_map, Bool.eq_iff_iff, List.any_eq_true, decide_eq_true_iff]
  constructor
  · rintro ⟨e, he, q⟩
    rwa [← ((g e he).eqv h).mp q]
  · exact fun m => ⟨d, m, ((g d m).eqv h).mpr rfl⟩
open Classical in
theorem inL_da (h : Da k d) (g : ∀ e ∈ es, Da j e) (hk : k ≤ 60 := by decide) (hj : j ≤ 59 := by decide) : inD d (.lst es) = some (.bl (decide (d ∈ es))) := by
  show (inSeq d es).map D.bl = _
  rw [inSeq_da h g hk hj]; rfl
open Classical in
theorem notInL_da (h : Da k d) (g : ∀ e ∈ es, Da j e) (hk : k ≤ 60 := by decide) (hj : j ≤ 59 := by decide) : notInD d (.lst es) = some (.bl (!decide (d ∈ es))) := by
  show (inSeq d es).map (fun b => D.bl (!b)) = _
  rw [inSeq_da h g hk hj]; rfl
theorem Da.up : ∀ {k : Nat} {d : D}, Da k d → Da (k + 1) d
  | 0, _, h => by simp [Da] at h
  | k + 1, d, h => by
    rcases da_cases h with rfl | ⟨i, rfl⟩ | ⟨x, rfl⟩ | ⟨ds, rfl, h⟩ | ⟨ds, rfl, h⟩
    · trivial
    · trivial
    · trivial
    · exact da_tup.mpr fun x hx => (h x hx).up
    · exact da_lst.mpr fun x hx => (h x hx).up
theorem Da.le (h : Da k d) (l : k ≤ j) : Da j d := by
  induction l with
  | refl => exact h
  | step _ ih => exact ih.up
theorem Da.pt : ∀ {k : Nat} {d : D}, Da k d → Pt k d ∨ d = .non ∨ True := fun _ => .inr (.inr trivial)
end
theorem da_row {r : List Str} : Da 2 (.tup (r.map .str)) := by
  rw [da_tup]; intro d hd; obtain ⟨x, _, rfl⟩ := List.mem_map.mp hd; trivial
theorem str_inj : ∀ {r s : List Str}, (r.map D.str = s.map D.str) ↔ r = s := fun {r s} => List.map_inj_right fun a b h => by cases h; rfl
theorem map_range2 {i n : Nat} : ((List.range ((n : Int) - (i : Int)).toNat).map fun k : Nat => D.int ((i : Int) + (k : Int))) = (List.range' i (n - i)).map fun k : Nat => .int k := by
  have : ((n : Int) - (i : Int)).toNat = n - i := by omega
  rw [this, List.range'_eq_map_range, List.map_map]
  apply List.map_congr_left
  intro k _
  simp
theorem rng2 {i n : Nat} (hi : i ≤ 100000) (hn : n ≤ 100000) : range2 (.int (i : Int)) (.int (n : Int)) = some ((List.range' i (n - i)).map fun k : Nat => .int k) := by
  show (if _ then _ else _) = _
  rw [if_pos (by omega), map_range2]
theorem rng2s {i n : Nat} (hi : i ≤ 90000) (hn : n ≤ 100000) : range2 (.int ((i : Int) + 1)) (.int (n : Int)) = some ((List.range' (i + 1) (n - (i + 1))).map fun k : Nat => .int k) := by
  have := rng2 (i := i + 1) (n := n) (by omega) hn
  push_cast at this
  exact this
theorem cut_to {α : Type} {g : α → D} {r : List α} {n : Nat} : slD (.tup (r.map g)) none (some (n : Int)) = some (.tup ((r.take n).map g)) := by
  show some (D.tup (cutL _ _ _)) = _
  unfold cutL
  have e : HT.sIx (r.map g).length (r.map g).length (some (n : Int)) = min n (r.map g).length := HT.sIx_nat _ _ n
  rw [e, HT.sIx_none]
  simp only [List.drop_zero, Nat.sub_zero, List.map_take]
  congr 2
  rw [List.take_eq_take_iff]
  omega
theorem cut_last {α : Type} {g : α → D} {r : List α} : slD (.tup (r.map g)) none (some (-1)) = some (.tup (r.dropLast.map g)) := by
  show some (D.tup (cutL _ _ _)) = _
  unfold cutL
  rw [HT.sIx_none]
  have e : HT.sIx (r.map g).length (r.map g).length (some (-1)) = (r.map g).length - 1 := by
    unfold HT.sIx
    simp
    try omega
  rw [e]
  simp only [List.drop_zero, Nat.sub_zero, List.map_dropLast]
  rw [← List.dropLast_eq_take]
end LW
namespace LW
open PySem PySem.Spec PyProof.Rows L2 RZ DN
def wordB (m : Nat) (z : Str) : Bool := decide (1 ≤ z.length) && decide (z.length ≤ m) && z.cps.toList.all fun c => !(Builtin.Str.occurrences "abcdefghijklmnopqrstuvwxyz" ⟨#[c]⟩ 0 (26 : Nat) 1).isEmpty
theorem word_ok {m : Nat} {z : Str} (h : wordB m z = true) : WordOk m z := by
  unfold wordB at h
  rw [Bool.and_eq_true, Bool.and_eq_true] at h
  obtain ⟨⟨h1, h2⟩, h3⟩ := h
  refine ⟨of_decide_eq_true h1, of_decide_eq_true h2, fun c hc => ?_⟩
  have := List.all_eq_true.mp h3 c hc
  show some (D.bl _) = _
  exact congrArg (fun b => some (D.bl b)) this
structure Bd where
  n : Str
  s : Nat
  r : List Str
def Bd.d (b : Bd) : D := .tup [.str b.n, .int b.s, .tup (b.r.map .str)]
structure Bd.Ok (b : Bd) : Prop where
  n : WordOk 8 b.n
  s : b.s ≤ 1
  l : b.r.length ≤ 20
  w : ∀ x ∈ b.r, WordOk 20 x
theorem Bd.Ok.board {b : Bd} (h : b.Ok) : BoardOk b.d := ⟨b.n, b.s, b.r, rfl, h.n, by omega, by have := h.s; omega, h.l, h.w⟩
theorem boards_ok {bs : List Bd} (h : ∀ b ∈ bs, b.Ok) : ∀ d ∈ bs.map Bd.d, BoardOk d := fun d hd => by
  obtain ⟨b, hb, rfl⟩ := List.mem_map.mp hd
  exact (h b hb).board
section
variable {K : PySem.W.Frag} {cl : CTab} {t : TF}
theorem ixL {ds : List D} {k : Nat} (h : k < ds.length) : ixD (.lst ds) (.int k) = some ds[k] := by
  simp [ixD, atI, ixN, h]
theorem ixT {ds : List D} {k : Nat} (h : k < ds.length) : ixD (.tup ds) (.int k) = some ds[k] := by
  simp [ixD, atI, ixN, h]
end
end LW
namespace LW
open PySem PySem.Spec PyProof.Rows L2 RZ DN
def ltD (d e : D) : Bool := PySem.W.dataLt d.py e.py
theorem ltD_irr (d : D) : ltD d d = false := PyProof.Rows.lex_irrefl (O := itemOrd) _
theorem ltD_trans {a b c : D} (h : ltD a b = true) (g : ltD b c = true) : ltD a c = true := PyProof.Rows.lex_trans (O := itemOrd) _ _ _ h g
theorem ltD_asymm {a b : D} (h : ltD a b = true) : ltD b a = false := by
  cases q : ltD b a with
  | false => rfl
  | true => have := ltD_trans h q; rw [ltD_irr] at this; cases this
theorem ltD_neg {a b c : D} (h : ltD a c = true) : ltD a b = true ∨ ltD b c = true := PyProof.Rows.lex_negTrans (O := itemOrd) _ _ _ h
theorem le_ltD {a b : D} : leData a b = !ltD b a := rfl
theorem toks_pre : ∀ xs : List PyData, ∃ p, PySem.W.keyToksAll xs = p ++ [.inl 0] ∧ ∀ y r, ∃ q, PySem.W.keyToksAll (xs ++ y :: r) = p ++ .inl 1 :: q
  | [] => ⟨[], by simp [PySem.W.keyToksAll], fun y r => ⟨PySem.W.keyToks y ++ PySem.W.keyToksAll r, by simp [PySem.W.keyToksAll]⟩⟩
  | x :: xs => by
    obtain ⟨p, h1, h2⟩ := toks_pre xs
    refine ⟨.inl 1 :: (PySem.W.keyToks x ++ p), by simp [PySem.W.keyToksAll, h1], fun y r => ?_⟩
    obtain ⟨q, hq⟩ := h2 y r
    exact ⟨q, by simp [PySem.W.keyToksAll, hq]⟩
theorem lt_longer {ds : List D} {e : D} {es : List D} : ltD (.tup ds) (.tup (ds ++ e :: es)) = true := by
  unfold ltD
  rw [D.py, D.py, PySem.W.dataLt_tuple, pyL_map, pyL_map, List.map_append, List.map_cons]
  obtain ⟨p, h1, h2⟩ := toks_pre (ds.map D.py)
  obtain ⟨q, hq⟩ := h2 e.py (es.map D.py)
  rw [h1, hq, PySem.W.lex_pre, PyProof.Rows.lex_diff (O := itemOrd) (by simp)]
  rfl
theorem alike_strs : ∀ (r s : List Str), PySem.W.alikeAll (D.pyL (r.map .str)) (D.pyL (s.map .str)) = true
  | [], _ => by simp [D.pyL, PySem.W.alikeAll]
  | _ :: _, [] => by simp [D.pyL, PySem.W.alikeAll]
  | x :: r, y :: s => by
    rw [List.map_cons, List.map_cons, D.pyL, D.pyL, PySem.W.alikeAll, alike_strs r s]
    simp [D.py, PySem.W.alike]
def one (s l : List Str) : Bool := decide (l.length = s.length + 1) && decide (l.dropLast = s)
def aheadB (l s : Bd) : Bool := one s.r l.r && decide (s.r.length % 2 ≠ l.s)
def pairB (a b : Bd) : Bool := decide (a.n = b.n) && decide (a.s ≠ b.s) && (decide (a.r = b.r) || aheadB a b || aheadB b a)
def ijR (n : Nat) (P : Nat → Nat → Bool) (i : Nat) : List (Nat × Nat) := (List.range' (i + 1) (n - (i + 1))).flatMap fun j => if P i j = true then [(i, j)] else []
def ijL (n : Nat) (P : Nat → Nat → Bool) : List (Nat × Nat) := (List.range n).flatMap (ijR n P)
def onB (P : Bd → Bd → Bool) (bs : List Bd) (i j : Nat) : Bool := match bs[i]?, bs[j]? with
  | some a, some b => P a b
  | _, _ => false
def pd (p : Nat × Nat) : D := .tup [.int p.1, .int p.2]
theorem ijL_mem {n : Nat} {P : Nat → Nat → Bool} {i j : Nat} : (i, j) ∈ ijL n P ↔ i < j ∧ j < n ∧ P i j = true := by
  unfold ijL ijR
  simp only [List.mem_flatMap, List.mem_range, List.mem_range'_1]
  constructor
  · rintro ⟨i', h1, j', h2, h3⟩
    split at h3
    · simp at h3
      obtain ⟨rfl, rfl⟩ := h3
      exact ⟨by omega, by omega, by assumption⟩
    · simp at h3
  · rintro ⟨h1, h2, h3⟩
    exact ⟨i, by omega, j, by omega, by simp [h3]⟩
section
variable {K : PySem.W.Frag} {cl : CTab}
open Classical in
theorem eq_row {r s : List Str} : eqD (.tup (r.map .str)) (.tup (s.map .str)) = some (.bl (decide (r = s))) := by
  rw [eq_da da_row da_row]
  congr 2
  rw [Bool.eq_iff_iff, decide_eq_true_iff, decide_eq_true_iff, D.tup.injEq, str_inj]
open Classical in
theorem ne_row {r s : List Str} : neD (.tup (r.map .str)) (.tup (s.map .str)) = some (.bl (!decide (r = s))) := by
  rw [ne_da da_row da_row]
  congr 3
  rw [Bool.eq_iff_iff, decide_eq_true_iff, decide_eq_true_iff, D.tup.injEq, str_inj]
theorem eq_rowL {r s : List Str} : eqD (.tup (r.map .str).dropLast) (.tup (s.map .str)) = some (.bl (decide (r.dropLast = s))) := by
  rw [← List.map_dropLast]; exact eq_row
theorem ne_rowL {r s : List Str} : neD (.tup (r.map .str).dropLast) (.tup (s.map .str)) = some (.bl (!decide (r.dropLast = s))) := by
  rw [← List.map_dropLast]; exact ne_row
theorem e_ahead {a b : Bd} : (m_is_ahead [a.d, b.d] : M (MemS K cl) D) = M.pure (.bl (aheadB a b)) := by
  have e1 : decide ((a.r.length : Int) = (b.r.length : Int) + 1) = decide (a.r.length = b.r.length + 1) := by
    rw [Bool.eq_iff_iff, decide_eq_true_iff, decide_eq_true_iff]; omega
  have e2 : decide ((b.r.length : Int) % 2 = (a.s : Int)) = decide (b.r.length % 2 = a.s) := by
    rw [Bool.eq_iff_iff, decide_eq_true_iff, decide_eq_true_iff]; omega
  by_cases h1 : a.r.length = b.r.length + 1
  · by_cases h2 : a.r.dropLast = b.r
    · have h1' : (a.r.length : Int) = (b.r.length : Int) + 1 := by omega
      simp [m_is_ahead, b_is_ahead, startE, Bd.d, m_mover_of, b_mover_of, h1', cut_last, ne_row, ne_rowL, h2, aheadB, one, e2, h1]
    · have h1' : (a.r.length : Int) = (b.r.length : Int) + 1 := by omega
      simp [m_is_ahead, b_is_ahead, startE, Bd.d, h1', cut_last, ne_row, ne_rowL, h2, aheadB, one]
  · have h1' : ¬ (a.r.length : Int) = (b.r.length : Int) + 1 := by omega
    simp [m_is_ahead, b_is_ahead, startE, Bd.d, h1', aheadB, one, h1]
theorem e_are_pair {a b : Bd} : (m_are_pair [a.d, b.d] : M (MemS K cl) D) = M.pure (.bl (pairB a b)) := by
  have e1 := e_ahead (K := K) (cl := cl) (a := a) (b := b)
  have e2 := e_ahead (K := K) (cl := cl) (a := b) (b := a)
  by_cases h1 : a.n = b.n
  · by_cases h2 : a.s = b.s
    · simp [m_are_pair, b_are_pair, startE, Bd.d, h1, h2, pairB]
    · have h2' : ¬ (a.s : Int) = (b.s : Int) := by omega
      unfold Bd.d at e1 e2
      rw [h1] at e1 e2
      simp [m_are_pair, b_are_pair, startE, Bd.d, h1, h2', eq_row, e1, e2, pairB, h2]
      by_cases h3 : a.r = b.r
      · simp [h3]
      · cases h4 : aheadB a b <;> simp [h3, h4]
  · simp [m_are_pair, b_are_pair, startE, Bd.d, h1, pairB]
end
end LW
namespace LW
open PySem PySem.Spec PyProof.Rows L2 RZ DN
section
variable {K : PySem.W.Frag} {cl : CTab}
theorem ixBd {bs : List Bd} {i : Nat} {b : Bd} (h : bs[i]? = some b) : ixD (.tup (bs.map Bd.d)) (.int (i : Int)) = some b.d := by
  have hi := (List.getElem?_eq_some_iff.mp h).1
  rw [ixT (by simpa using hi)]
  rw [List.getElem_map]
  congr 2
  exact (List.getElem?_eq_some_iff.mp h).2
theorem onB_eq {P : Bd → Bd → Bool} {bs : List Bd} {i j : Nat} {a b : Bd} (h : bs[i]? = some a) (g : bs[j]? = some b) : onB P bs i j = P a b := by unfold onB; rw [h, g]
end
end LW
namespace LW
open PySem PySem.Spec PyProof.Rows L2 RZ DN
section
variable {K : PySem.W.Frag} {cl : CTab}
noncomputable def b_is_row : SEnv → M (MemS K cl) Fl := sRet pHide (xCall m_is_words (aC (eVar 0) (aC (eC (.int 60)) (aN))))
noncomputable def m_is_row : List D → M (MemS K cl) D := runF 1 b_is_row
end
end LW
namespace LW
open PySem PySem.Spec PyProof.Rows L2 RZ DN
section
variable {K : PySem.W.Frag} {cl : CTab}
noncomputable def b_partners : SEnv → M (MemS K cl) Fl := seqF (sNewD 1) (seqF (sFor (aTup (aCons (aName 2) (aCons (aName 3) (aNil)))) (iOf anyI (eVar 0)) (seqF (sPut pHide yes 1 (eVar 2) (eVar 3)) (sPut pHide yes 1 (eVar 3) (eVar 2)))) (sFrz 1 (sRet pHide (eVar 1))))
noncomputable def m_partners : List D → M (MemS K cl) D := runF 4 b_partners
noncomputable def b_is_pairing : SEnv → M (MemS K cl) Fl := seqF (sSet 2 (xB lenD (aC (xFlds ["Hall", "RawHall"] 0 (eVar 0)) (aN)))) (seqF (sIf pHide (tOo (tNt (tTr (xUn (isD "tuple") (eVar 1)))) (tNt (tTr (xB allD (aC (xLc [3] (aName 3) (tY) (xAn (xCall m_is_lot (aC (eVar 3) (aC (eVar 2) (aN)))) (xOp eqD (xB lenD (aC (eVar 3) (aN))) (eC (.int 2)))) (iOf anyI (eVar 1))) (aN)))))) (sRet pHide (eC (.bl false))) (sPass)) (seqF (sIf pHide (tOo (tNt (tTr (xCall m_is_ascending (aC (eVar 1) (aN))))) (tNt (tTr (xB allD (aC (xLc [4, 5] (aTup (aCons (aName 4) (aCons (aName 5) (aNil)))) (tY) (xCall m_are_pair (aC (xIx (xFlds ["Hall", "RawHall"] 0 (eVar 0)) (eVar 4)) (aC (xIx (xFlds ["Hall", "RawHall"] 0 (eVar 0)) (eVar 5)) (aN)))) (iOf anyI (eVar 1))) (aN)))))) (sRet pHide (eC (.bl false))) (sPass)) (sRet pHide (xOp eqD (xB lenD (aC (xCall m_partners (aC (eVar 1) (aN))) (aN))) (xOp mulD (eC (.int 2)) (xB lenD (aC (eVar 1) (aN))))))))
noncomputable def m_is_pairing : List D → M (MemS K cl) D := runF 6 b_is_pairing
end
end LW
namespace LW
abbrev Pr := Nat × Nat
def Vs (c : List Pr) : List Nat := c.flatMap fun p => [p.1, p.2]
@[simp] theorem Vs_nil : Vs [] = [] := rfl
@[simp] theorem Vs_cons {p : Pr} {c : List Pr} : Vs (p :: c) = p.1 :: p.2 :: Vs c := rfl
@[simp] theorem Vs_app {c d : List Pr} : Vs (c ++ d) = Vs c ++ Vs d := by simp [Vs]
theorem mem_Vs {x : Nat} {c : List Pr} : x ∈ Vs c ↔ ∃ p ∈ c, x = p.1 ∨ x = p.2 := by
  simp [Vs]
def ded : List Nat → List Nat → List Nat
  | acc, [] => acc
  | acc, x :: xs => ded (if x ∈ acc then acc else acc ++ [x]) xs
theorem ded_mem {y : Nat} : ∀ {xs acc : List Nat}, y ∈ ded acc xs ↔ y ∈ acc ∨ y ∈ xs
  | [], acc => by simp [ded]
  | x :: xs, acc => by
    rw [ded, ded_mem]
    split
    · rename_i h
      constructor
      · rintro (h1 | h1)
        · exact .inl h1
        · exact .inr (List.mem_cons_of_mem _ h1)
      · rintro (h1 | h1)
        · exact .inl h1
        · rcases List.mem_cons.mp h1 with rfl | h1
          · exact .inl h
          · exact .inr h1
    · simp [or_assoc]
structure Mt (nb : Nat → List Nat) (c : List Pr) : Prop where
  ed : ∀ p ∈ c, p.2 ∈ nb p.1 ∧ p.1 < p.2
  nd : (Vs c).Nodup
  asc : (c.map (·.1)).Pairwise (· < ·)
section
variable {nb : Nat → List Nat}
theorem Mt.uniq {c : List Pr} (h : (Vs c).Nodup) : ∀ {p q : Pr}, p ∈ c → q ∈ c → ∀ {x : Nat}, (x = p.1 ∨ x = p.2) → (x = q.1 ∨ x = q.2) → p = q := by
  induction c with
  | nil => intro p q hp; exact nomatch hp
  | cons a c ih =>
    intro p q hp hq x hx hy
    simp only [Vs_cons, List.nodup_cons, List.mem_cons, not_or] at h
    obtain ⟨⟨h1, h2⟩, h3, h4⟩ := h
    rcases List.mem_cons.mp hp with ep | hp'
    · rcases List.mem_cons.mp hq with eq | hq'
      · rw [ep, eq]
      · have := mem_Vs.mpr ⟨q, hq', hy⟩
        rw [ep] at hx
        rcases hx with e | e
        · rw [e] at this; exact absurd this h2
        · rw [e] at this; exact absurd this h3
    · rcases List.mem_cons.mp hq with eq | hq'
      · have := mem_Vs.mpr ⟨p, hp', hx⟩
        rw [eq] at hy
        rcases hy with e | e
        · rw [e] at this; exact absurd this h2
        · rw [e] at this; exact absurd this h3
      · exact ih h4 hp' hq' hx hy
def Full (nb : Nat → List Nat) (c : List Pr) : Prop := ∀ x y, y ∈ nb x → x ∈ Vs c ∨ y ∈ Vs c
end
end LW
namespace LW
open PySem PySem.Spec PyProof.Rows L2 RZ DN
abbrev iD (x : Nat) : D := .int (x : Int)
abbrev iL (l : List Nat) : List D := l.map iD
abbrev prD (p : Pr) : D := .tup [iD p.1, iD p.2]
theorem nc {x y : Nat} : ((x : Int) = (y : Int)) ↔ x = y := by omega
theorem mem_iL {x : Nat} {l : List Nat} : D.int (x : Int) ∈ iL l ↔ x ∈ l := by simp [nc]
theorem da_iL {l : List Nat} : ∀ e ∈ iL l, Da 1 e := fun e he => by
  obtain ⟨x, _, rfl⟩ := List.mem_map.mp he; trivial
theorem in_iL {x : Nat} {l : List Nat} : inD (.int (x : Int)) (.lst (iL l)) = some (.bl (decide (x ∈ l))) := by
  have := inL_da (k := 1) (d := .int (x : Int)) (j := 1) (es := iL l) trivial da_iL
  rw [this]
  congr 2
  exact decide_eq_decide.mpr mem_iL
theorem notIn_iL {x : Nat} {l : List Nat} : notInD (.int (x : Int)) (.lst (iL l)) = some (.bl (!decide (x ∈ l))) := by
  have := notInL_da (k := 1) (d := .int (x : Int)) (j := 1) (es := iL l) trivial da_iL
  rw [this]
  congr 3
  exact decide_eq_decide.mpr mem_iL
abbrev flV (l : List Nat) : List D := l.map fun _ => D.bl true
theorem key_iD {x : Nat} : (iD x).key = some (.inl (.inl (x : Int))) := rfl
theorem hasK_iL {x : Nat} {l : List Nat} : hasK (iL l) (.inl (.inl (x : Int))) = decide (x ∈ l) := by
  induction l with
  | nil => rfl
  | cons y l ih =>
    have e : hasK (iL (y :: l)) (.inl (.inl (x : Int))) = (decide ((iD y).key = some (.inl (.inl (x : Int)))) || hasK (iL l) (.inl (.inl (x : Int)))) := rfl
    rw [e, ih, key_iD]
    by_cases h : x = y
    · subst h; simp
    · have h2 : ¬ y = x := fun z => h z.symm
      simp [h, h2, nc]
theorem kind_iL {l : List Nat} : kindT (iL l) = false := by cases l <;> rfl
theorem ok_iL {l : List Nat} {x : Nat} : okK (iL l) (.inl (.inl (x : Int))) = true := by
  unfold okK
  rw [kind_iL]
  simp [GK.isT, GK.low]
theorem ded_app {xs ys : List Nat} : ∀ {acc : List Nat}, ded acc (xs ++ ys) = ded (ded acc xs) ys := by
  induction xs with
  | nil => intro acc; rfl
  | cons x xs ih => intro acc; rw [List.cons_append, ded, ded, ih]
theorem ded_one {x : Nat} {acc : List Nat} : ded acc [x] = if x ∈ acc then acc else acc ++ [x] := rfl
def St (s : Mem) (a f : D) : Mem := ⟨fun j => if j = s.n then some a else if j = s.n + 1 then some f else s.m j, s.n + 2⟩
def WF (s : Mem) : Prop := ∀ j, s.n ≤ j → s.m j = none
theorem WF.lt {s : Mem} (h : WF s) {j : Nat} {d : D} (e : s.m j = some d) : j < s.n := by
  refine Nat.lt_of_not_le fun hl => ?_
  rw [h j hl] at e; cases e
structure ExF (f : Nat) (s s' : Mem) : Prop where
  wf : WF s'
  old : ∀ j d, j ≠ f → s.m j = some d → s'.m j = some d
theorem ExF.trans {f : Nat} {s s' s'' : Mem} (a : ExF f s s') (b : ExF f s' s'') : ExF f s s'' := ⟨b.wf, fun j d h e => b.old j d h (a.old j d h e)⟩
structure Sr (s : Mem) (k kn kb kf : Nat) (most : Int) (nb : Nat → List Nat) (V : List Nat) : Prop where
  ob : s.m k = some (.ins "Search" [.ref kn, .ref kb, .int most, .ref kf])
  bs : s.m kb = some (.lst (iL V))
  nr : ∃ ks vs, s.m kn = some (.dct ks vs) ∧ ∀ b ∈ V, ∃ j, j ≠ kf ∧ lookD ks vs (.inl (.inl (b : Int))) = some (.ref j) ∧ s.m j = some (.lst (iL (nb b)))
  ne : k ≠ kf ∧ kn ≠ kf ∧ kb ≠ kf
theorem Sr.ex {s s' : Mem} {k kn kb kf : Nat} {most : Int} {nb : Nat → List Nat} {V : List Nat} (h : Sr s k kn kb kf most nb V) (e : ∀ j d, j ≠ kf → s.m j = some d → s'.m j = some d) : Sr s' k kn kb kf most nb V := by
  obtain ⟨ks, vs, h1, h2⟩ := h.nr
  refine ⟨e _ _ h.ne.1 h.ob, e _ _ h.ne.2.2 h.bs, ⟨ks, vs, e _ _ h.ne.2.1 h1, fun b hb => ?_⟩, h.ne⟩
  obtain ⟨j, q1, q2, q3⟩ := h2 b hb
  exact ⟨j, q1, q2, e _ _ q1 q3⟩
end LW
namespace LW
open PySem PySem.Spec PyProof.Rows L2 RZ DN
abbrev cD (c : List Pr) : D := .tup (c.map prD)
end LW
namespace LW
open PySem PySem.Spec PyProof.Rows L2 RZ DN
def sortN (xs : List Nat) : List Nat := xs.mergeSort fun a b => decide (a ≤ b)
theorem sortN_perm (xs : List Nat) : (sortN xs).Perm xs := List.mergeSort_perm _ _
structure Ps (P : List Pr) : Prop where
  lt : ∀ p ∈ P, p.1 < p.2
  nd : P.Nodup
def vsP (P : List Pr) : List Nat := sortN (ded [] (Vs P))
theorem mem_vsP {P : List Pr} {x : Nat} : x ∈ vsP P ↔ x ∈ Vs P := by
  unfold vsP
  rw [(sortN_perm _).mem_iff, ded_mem]
  simp
end LW
namespace LW
open PySem PySem.Spec PyProof.Rows L2 RZ DN
theorem updM_m {s : Mem} {p q : Nat} {o : Option D} : (updM s p o).m q = if q = p then o else s.m q := rfl
theorem push_m {s : Mem} {q : Nat} {d : D} : (s.push d).m q = if q = s.n then some d else s.m q := rfl
structure Ex0 (s s' : Mem) : Prop where
  wf : WF s'
  old : ∀ j d, s.m j = some d → s'.m j = some d
theorem Ex0.trans {s s' s'' : Mem} (a : Ex0 s s') (b : Ex0 s' s'') : Ex0 s s'' := ⟨b.wf, fun j d e => b.old j d (a.old j d e)⟩
theorem Ps.pre {P Q : List Pr} (h : Ps (P ++ Q)) : Ps P := ⟨fun p hp => h.lt p (List.mem_append_left _ hp), (List.nodup_append.mp h.nd).1⟩
end LW
namespace LW
section
variable {α : Type} [DecidableEq α]
def PN (P : List Pr) (nm : Nat → α) (a : α) : List Pr := P.filter fun p => decide (nm p.1 = a)
structure Pa (P : List Pr) (nm : Nat → α) (n : Nat) : Prop where
  ps : Ps P
  sm : ∀ p ∈ P, nm p.2 = nm p.1
  sz : ∀ p ∈ P, p.2 < n
variable {P : List Pr} {nm : Nat → α} {n : Nat}
theorem Ps.filter {P : List Pr} {f : Pr → Bool} (h : Ps P) : Ps (P.filter f) := ⟨fun p hp => h.lt p (List.mem_filter.mp hp).1, h.nd.filter _⟩
theorem mem_PN {a : α} {p : Pr} : p ∈ PN P nm a ↔ p ∈ P ∧ nm p.1 = a := by simp [PN, List.mem_filter]
theorem Pa.vs (h : Pa P nm n) {a : α} {x : Nat} (hx : x ∈ vsP (PN P nm a)) : x < n ∧ nm x = a := by
  rw [mem_vsP, mem_Vs] at hx
  obtain ⟨p, hp, e⟩ := hx
  rw [mem_PN] at hp
  have h1 := h.sz p hp.1
  have h2 := h.ps.lt p hp.1
  have h3 := h.sm p hp.1
  rcases e with rfl | rfl
  · exact ⟨by omega, hp.2⟩
  · exact ⟨h1, by rw [h3]; exact hp.2⟩
end
end LW
namespace LW
open PySem PySem.Spec PyProof.Rows L2 RZ DN
def dedS : List Str → List Str → List Str
  | acc, [] => acc
  | acc, x :: xs => dedS (if x ∈ acc then acc else acc ++ [x]) xs
theorem dedS_len : ∀ {xs acc : List Str}, (dedS acc xs).length ≤ acc.length + xs.length
  | [], acc => by simp [dedS]
  | x :: xs, acc => by
    rw [dedS]
    have := dedS_len (xs := xs) (acc := if x ∈ acc then acc else acc ++ [x])
    have l : (if x ∈ acc then acc else acc ++ [x]).length ≤ acc.length + 1 := by split <;> simp
    rw [List.length_cons]
    omega
theorem hasK_str {n : Str} {ks : List Str} : hasK (ks.map D.str) (.inl (.inr n)) = decide (n ∈ ks) := by
  induction ks with
  | nil => rfl
  | cons y l ih =>
    have e : hasK ((y :: l).map D.str) (.inl (.inr n)) = (decide ((D.str y).key = some (.inl (.inr n))) || hasK (l.map D.str) (.inl (.inr n))) := rfl
    have k : (D.str y).key = some (.inl (.inr y)) := rfl
    rw [e, ih, k]
    by_cases h : n = y
    · subst h; simp
    · have h2 : ¬ y = n := fun z => h z.symm
      simp [h, h2]
theorem putAll_dedS : ∀ (ns ks : List Str) (vs : List D), ∃ vs', DN.putAll (ks.map .str) vs (ns.map fun n => (.str n, .bl true)) = some (.dct ((dedS ks ns).map .str) vs')
  | [], ks, vs => ⟨vs, rfl⟩
  | n :: ns, ks, vs => by
    have e : putKs (ks.map D.str) (.inl (.inr n)) = (if n ∈ ks then ks else ks ++ [n]).map D.str := by
      unfold putKs
      rw [hasK_str]
      by_cases h : n ∈ ks <;> simp [h, keyD, keyD1]
    obtain ⟨vs', e3⟩ := putAll_dedS ns (if n ∈ ks then ks else ks ++ [n]) (putVs (ks.map D.str) vs (.inl (.inr n)) (.bl true))
    refine ⟨vs', ?_⟩
    rw [List.map_cons, putAll_s]
    rw [e, e3]
    rfl
def nsB (bs : List Bd) : List Str := sortS (dedS [] (bs.map Bd.n))
theorem nmL_bd : ∀ bs : List Bd, nmL (bs.map Bd.d) = some ((bs.map Bd.n).map .str)
  | [] => rfl
  | b :: bs => by
    rw [List.map_cons, nmL, nmL_bd bs]
    rfl
theorem names_bd {bs : List Bd} (h : bs.length ≤ 60) : namesD (bs.map Bd.d) = some (.lst ((nsB bs).map .str)) := by
  unfold namesD
  rw [nmL_bd, Option.bind_some, List.map_map]
  obtain ⟨vs', e⟩ := putAll_dedS (bs.map Bd.n) [] []
  have e3' : DN.putAll [] [] ((bs.map Bd.n).map ((fun n => (n, D.bl true)) ∘ D.str)) = some (.dct ((dedS [] (bs.map Bd.n)).map .str) vs') := e
  rw [e3', Option.bind_some]
  show (strsOf _).bind (fun xs => if xs.length < 64 then some (D.lst (List.map D.str (sortS xs))) else none) = _
  have := dedS_len (xs := bs.map Bd.n) (acc := [])
  rw [strsOf_map, Option.bind_some, if_pos (by simp at this; omega)]
  rfl
def HallB (h : D) (bs : List Bd) : Prop := ∃ c, c ∈ (["Hall", "RawHall"] : List Str) ∧ h = .ins c [.tup (bs.map Bd.d), .tup ((nsB bs).map .str)]
theorem HallB.of {h : D} {bs : List Bd} (g : HallB h bs) : HallOf h (bs.map Bd.d) := by
  obtain ⟨c, hc, e⟩ := g
  exact ⟨c, _, hc, e⟩
section
variable {K : PySem.W.Frag} {cl : CTab}
theorem keep_bd {bs : List Bd} (h2 : bs.length ≤ 60) (h3 : ∀ b ∈ bs, b.Ok) : i_keep (bs.map Bd.d) = .ok [.tup (bs.map Bd.d), .tup ((nsB bs).map .str)] := by
  unfold i_keep
  rw [names_bd h2]
  simp only
  rw [if_pos]
  rw [purL_all fun d hd => (boards_ok h3 d hd).pur, purL_str]
  rfl
theorem make_HallB {bs : List Bd} (h1 : 1 ≤ bs.length) (h2 : bs.length ≤ 12) (h3 : ∀ b ∈ bs, b.Ok) : ∃ h, mkM (K := K) (cl := cl) "Hall" 2 (i_Hall [.tup (bs.map Bd.d)]) = M.pure h ∧ HallB h bs := by
  refine ⟨.ins "Hall" [.tup (bs.map Bd.d), .tup ((nsB bs).map .str)], ?_, "Hall", by simp, rfl⟩
  have hp : D.purL [.tup (bs.map Bd.d), .tup ((nsB bs).map D.str)] = true := by simp [D.purL, D.pur, purL_str, purL_all fun d hd => (boards_ok h3 d hd).pur]
  have e : i_Hall [.tup (bs.map Bd.d)] = i_keep (bs.map Bd.d) := by
    unfold i_Hall
    simp only
    rw [if_pos ⟨by simpa using h1, by simpa using h2, boards_ok h3⟩]
  rw [e, keep_bd (by omega) h3]
  show (if _ then _ else _) = _
  rw [if_pos ⟨rfl, hp⟩]
def allP (bs : List Bd) : List Pr := ijL bs.length (onB pairB bs)
theorem mem_allP {bs : List Bd} {i j : Nat} : (i, j) ∈ allP bs ↔ i < j ∧ j < bs.length ∧ onB pairB bs i j = true := ijL_mem
end
end LW
namespace LW
open PySem PySem.Spec PyProof.Rows L2 RZ DN
noncomputable def sortP (c : List Pr) : List Pr := c.mergeSort fun p q => leData (prD p) (prD q)
theorem sortP_map {c : List Pr} : sortDL (c.map prD) = (sortP c).map prD := by
  unfold sortDL sortP
  exact (List.map_mergeSort (f := prD) (fun _ _ _ _ => rfl)).symm
theorem alike_prD {p q : Pr} : PySem.W.alike (prD p).py (prD q).py = true := by simp [D.py, D.pyL, PySem.W.alike, PySem.W.alikeAll]
theorem da_prD {p : Pr} : Da 2 (prD p) := by simp
theorem sortable_prs {c : List Pr} : sortableD (c.map prD) = true := by
  unfold sortableD alikeAllD
  simp only [Bool.and_eq_true, Bool.or_eq_true, List.all_eq_true]
  refine ⟨⟨fun d hd => ?_, fun d hd e he => ?_⟩, .inl fun d hd => ?_⟩
  · obtain ⟨p, _, rfl⟩ := List.mem_map.mp hd; exact da_prD.okc (by decide)
  · obtain ⟨p, _, rfl⟩ := List.mem_map.mp hd; obtain ⟨q, _, rfl⟩ := List.mem_map.mp he; exact alike_prD
  · obtain ⟨p, _, rfl⟩ := List.mem_map.mp hd; rfl
theorem Vs_len {c : List Pr} : (Vs c).length = 2 * c.length := by
  induction c with
  | nil => rfl
  | cons p c ih => rw [Vs_cons, List.length_cons, List.length_cons, List.length_cons, ih]; omega
end LW
namespace LW
open PySem PySem.Spec PyProof.Rows L2 RZ DN
def Sel : List Pr → List Nat → Prop
  | [], l => l = []
  | p :: P, l => ∃ l', Sel P l' ∧ (l = p.1 :: l' ∨ l = p.2 :: l')
def orL (m : Nat) (l : List Nat) : Nat := l.foldl (fun m b => m ||| 2 ^ b) m
theorem Sel.hit : ∀ {P : List Pr} {l : List Nat}, Sel P l → ∀ p ∈ P, p.1 ∈ l ∨ p.2 ∈ l
  | [], _, _, _, h => nomatch h
  | p :: P, l, ⟨l', hl, e⟩, q, hq => by
    rcases List.mem_cons.mp hq with rfl | hq
    · rcases e with rfl | rfl <;> simp
    · have := hl.hit q hq
      rcases e with rfl | rfl
      · exact this.imp (List.mem_cons_of_mem _) (List.mem_cons_of_mem _)
      · exact this.imp (List.mem_cons_of_mem _) (List.mem_cons_of_mem _)
theorem Sel.col (c : Nat → Bool) : ∀ {P : List Pr}, (∀ p ∈ P, c p.1 ≠ c p.2) → ∃ l, Sel P l ∧ ∀ x ∈ l, c x = true
  | [], _ => ⟨[], rfl, fun _ h => nomatch h⟩
  | p :: P, h => by
    obtain ⟨l, h1, h2⟩ := Sel.col c (P := P) fun q hq => h q (List.mem_cons_of_mem _ hq)
    have hp := h p List.mem_cons_self
    cases e : c p.1 with
    | true => exact ⟨p.1 :: l, ⟨l, h1, .inl rfl⟩, fun x hx => by rcases List.mem_cons.mp hx with rfl | hx; exact e; exact h2 x hx⟩
    | false =>
      have e2 : c p.2 = true := by
        cases e2 : c p.2 with
        | true => rfl
        | false => rw [e, e2] at hp; exact absurd rfl hp
      exact ⟨p.2 :: l, ⟨l, h1, .inr rfl⟩, fun x hx => by rcases List.mem_cons.mp hx with rfl | hx; exact e2; exact h2 x hx⟩
theorem pair_fun {P : List Pr} (h : (Vs P).Nodup) : ∀ x y z, ((x, y) ∈ P ∨ (y, x) ∈ P) → ((x, z) ∈ P ∨ (z, x) ∈ P) → y = z := by
  induction P with
  | nil => intro x y z h; rcases h with h | h <;> exact nomatch h
  | cons p P ih =>
    simp only [Vs_cons, List.nodup_cons, List.mem_cons, not_or] at h
    obtain ⟨⟨h0, h1⟩, h2, h3⟩ := h
    intro x y z e f
    have inn : ∀ {u v : Nat}, ((u, v) ∈ P ∨ (v, u) ∈ P) → u ∈ Vs P ∧ v ∈ Vs P := fun {u v} h => by
      rcases h with h | h
      · exact ⟨mem_Vs.mpr ⟨_, h, .inl rfl⟩, mem_Vs.mpr ⟨_, h, .inr rfl⟩⟩
      · exact ⟨mem_Vs.mpr ⟨_, h, .inr rfl⟩, mem_Vs.mpr ⟨_, h, .inl rfl⟩⟩
    have spl : ∀ {u v : Nat}, ((u, v) ∈ p :: P ∨ (v, u) ∈ p :: P) → (u = p.1 ∧ v = p.2) ∨ (u = p.2 ∧ v = p.1) ∨ ((u, v) ∈ P ∨ (v, u) ∈ P) := fun {u v} h => by
      rcases h with h | h
      · rcases List.mem_cons.mp h with h | h
        · left; rw [← h]; exact ⟨rfl, rfl⟩
        · exact .inr (.inr (.inl h))
      · rcases List.mem_cons.mp h with h | h
        · right; left; rw [← h]; exact ⟨rfl, rfl⟩
        · exact .inr (.inr (.inr h))
    rcases spl e with ⟨e1, e2⟩ | ⟨e1, e2⟩ | e' <;> rcases spl f with ⟨f1, f2⟩ | ⟨f1, f2⟩ | f'
    · rw [e2, f2]
    · exact absurd (e1.symm.trans f1) h0
    · exact absurd (e1 ▸ (inn f').1) h1
    · exact absurd (f1.symm.trans e1) h0
    · rw [e2, f2]
    · exact absurd (e1 ▸ (inn f').1) h2
    · exact absurd (f1 ▸ (inn e').1) h1
    · exact absurd (f1 ▸ (inn e').1) h2
    · exact ih h3 x y z e' f'
end LW
namespace LW
open PySem PySem.Spec PyProof.Rows L2 RZ DN
def Good (a : Aim) (P : List Pr) : Prop := ∀ l, Sel P l → (a.holds fun b => decide (b ∈ l)) = true
theorem orL_bit {l : List Nat} : (orL 0 l).testBit = fun b => decide (b ∈ l) := funext fun i => mask_bit l i
end LW
namespace LW
open PySem PySem.Spec PyProof.Rows L2 RZ DN
theorem Vs_lt {bs : List Bd} {P : List Pr} (h : ∀ p ∈ P, p ∈ allP bs) : ∀ x ∈ Vs P, x < bs.length := fun x hx => by
  obtain ⟨⟨i, j⟩, hp, e⟩ := mem_Vs.mp hx
  have := mem_allP.mp (h _ hp)
  rcases e with e | e
  · have e : x = i := e
    omega
  · have e : x = j := e
    omega
end LW
namespace LW
open PySem PySem.Spec PyProof.Rows L2 RZ DN
theorem ltD_first {p q : Pr} (h : p.1 < q.1) : ltD (prD p) (prD q) = true := by
  have e : ∀ p : Pr, PySem.W.keyToks (prD p).py = [.inl 1, .inl (p.1 : Int), .inl 1, .inl (p.2 : Int), .inl 0] := fun p => by
    simp [D.py, D.pyL, PySem.W.keyToks, PySem.W.keyToksAll]
  unfold ltD PySem.W.dataLt
  rw [e, e]
  have h2 : (Sum.inl (p.1 : Int) : Int ⊕ List Nat) ≠ .inl (q.1 : Int) := fun z => by
    have := Sum.inl.inj z
    omega
  refine (PyProof.Rows.lex_self (O := itemOrd) _ _ _).trans ((PyProof.Rows.lex_diff (O := itemOrd) h2).trans ?_)
  show decide ((p.1 : Int) < (q.1 : Int)) = true
  rw [decide_eq_true_iff]
  omega
theorem zip_prs : ∀ {l r : List Pr}, zipL (l.map prD) (r.map prD) = (l.zip r).map fun p => .tup [prD p.1, prD p.2]
  | [], _ => by simp [zipL]
  | _ :: _, [] => by simp [zipL]
  | a :: l, b :: r => by simp [zipL, zip_prs]
section
variable {K : PySem.W.Frag} {cl : CTab}
theorem e_lot_pr {p : Pr} {n : Nat} (h1 : p.1 < p.2) (h2 : p.2 < n) : (m_is_lot [prD p, .int (n : Int)] : M (MemS K cl) D) = M.pure (.bl true) := by
  have := e_lot (K := K) (cl := cl) (l := [(p.1 : Int), (p.2 : Int)]) (n := n) (fun i hi => by
    simp at hi
    rcases hi with rfl | rfl <;> omega)
  have e : decide ([(p.1 : Int), (p.2 : Int)].Pairwise (· < ·)) = true := by
    rw [decide_eq_true_iff]
    simp
    omega
  rw [e] at this
  exact this
theorem put_new {x y : Nat} {l : List Nat} {us : List D} (h : x ∉ l) : putKs (iL l) (.inl (.inl (x : Int))) = iL (l ++ [x]) ∧ putVs (iL l) us (.inl (.inl (x : Int))) (iD y) = us ++ [iD y] := by
  unfold putKs putVs
  rw [hasK_iL]
  simp [h, keyD, keyD1]
theorem putO {p q : D → Bool} {i : Nat} {ρ : SEnv} {ks vs : List D} {fk f : DN.Env → M (MemS K cl) D} {kd d : D} {kk : GK} (hρ : ρ[i]? = some (.own (.dct ks vs))) (he : f (seeE p ρ) = M.pure d) (hk : fk (seeE pHide ρ) = M.pure kd) (hkk : kd.key = some kk) (hq : q d = true) (hm : d.isMut = false) (hl : ks.length < sizeLine) (ho : okK ks kk = true) :
    sPut p q i fk f ρ = M.pure (.nx (ρ.set i (.own (.dct (putKs ks kk) (putVs ks vs kk d))))) := by
  unfold sPut
  simp only [hρ]
  simp [he, hk, hkk, hq, hm, hl, ho, lift, M.bind, M.pure, guardM]
theorem e_partnersV {P : List Pr} (hl : P.length ≤ 1000) (nd : (Vs P).Nodup) : (m_partners [cD P] : M (MemS K cl) D) = M.pure (.dct (iL (Vs P)) (iL (P.flatMap fun p => [p.2, p.1]))) := by
  refine pure_of_wp fun s => ?_
  simp only [m_partners, b_partners, s_runF, startE]
  simp
  refine wp_forI (fun r ρ s' => s' = s ∧ ∃ done rest, P = done ++ rest ∧ r = rest.map prD ∧ ∃ x2 x3 : Sl, ρ = [.val (cD P), .own (.dct (iL (Vs done)) (iL (done.flatMap fun p => [p.2, p.1]))), x2, x3]) ⟨rfl, [], P, rfl, rfl, _, _, rfl⟩ ?_ ?_
  · rintro d r ρ s' ⟨rfl, done, rest, h1, h2, x2, x3, rfl⟩
    cases rest with
    | nil => exact nomatch h2
    | cons p rest =>
      cases h2
      refine ⟨[(2, iD p.1), (3, iD p.2)], by simp, ?_⟩
      have hd : done.length < 1000 := by rw [h1] at hl; simp at hl; omega
      rw [h1, Vs_app, Vs_cons, List.nodup_append] at nd
      have n1 : p.1 ∉ Vs done := fun z => nd.2.2 _ z p.1 (by simp) rfl
      have n2 : p.2 ∉ Vs done ++ [p.1] := fun z => by
        rcases List.mem_append.mp z with z | z
        · exact nd.2.2 _ z p.2 (by simp) rfl
        · have z : p.2 = p.1 := by simpa using z
          have := (List.nodup_cons.mp nd.2.1).1
          simp [z] at this
      have l1 : (Vs done).length = 2 * done.length := Vs_len
      have q1 : (iL (Vs done)).length < sizeLine := by rw [List.length_map, sizeLine_eq]; omega
      have q2 : (iL (Vs done ++ [p.1])).length < sizeLine := by rw [List.length_map, sizeLine_eq, List.length_append, List.length_singleton]; omega
      obtain ⟨g1, g2⟩ := put_new (x := p.1) (y := p.2) (us := iL (done.flatMap fun p => [p.2, p.1])) n1
      obtain ⟨g3, g4⟩ := put_new (x := p.2) (y := p.1) (us := iL (done.flatMap fun p => [p.2, p.1]) ++ [iD p.2]) n2
      rw [s_seq]
      refine wp_bind ?_
      rw [show setsS [.val (cD P), .own (.dct (iL (Vs done)) (iL (done.flatMap fun p => [p.2, p.1]))), x2, x3] [(2, iD p.1), (3, iD p.2)] = [.val (cD P), .own (.dct (iL (Vs done)) (iL (done.flatMap fun p => [p.2, p.1]))), .val (iD p.1), .val (iD p.2)] from rfl]
      rw [putO (ks := iL (Vs done)) (vs := iL (done.flatMap fun p => [p.2, p.1])) (kd := iD p.1) (d := iD p.2) (kk := .inl (.inl (p.1 : Int))) rfl (by simp) (by simp) rfl rfl rfl q1 ok_iL]
      rw [g1, g2]
      show wp (sPut pHide yes 1 (eVar 3) (eVar 2) [.val (cD P), .own (.dct (iL (Vs done ++ [p.1])) (iL (done.flatMap fun p => [p.2, p.1]) ++ [iD p.2])), .val (iD p.1), .val (iD p.2)]) _ s'
      rw [putO (ks := iL (Vs done ++ [p.1])) (vs := iL (done.flatMap fun p => [p.2, p.1]) ++ [iD p.2]) (kd := iD p.2) (d := iD p.1) (kk := .inl (.inl (p.2 : Int))) rfl (by simp) (by simp) rfl rfl rfl q2 ok_iL]
      rw [g3, g4]
      refine ⟨rfl, done ++ [p], rest, by simp [h1], rfl, .val (iD p.1), .val (iD p.2), ?_⟩
      simp
  · rintro ρ s' ⟨rfl, done, rest, h1, h2, x2, x3, rfl⟩
    have hr : rest = [] := by cases rest with
      | nil => rfl
      | cons => exact nomatch h2
    subst hr
    rw [List.append_nil] at h1
    subst h1
    have := stripL_leaf (ds := iL (P.flatMap fun p => [p.2, p.1])) fun d hd => by obtain ⟨p, _, rfl⟩ := List.mem_map.mp hd; rfl
    simp only [frzS]
    simp [strip_dct]
    simpa using this
end
end LW
namespace LW
open PySem PySem.Spec PyProof.Rows L2 RZ DN
theorem mono_on {many w : Nat} {p q : Nat → Bool} (h : ∀ b, b < many → p b = true → q b = true) : ∀ {k : Nat} {a : Aim}, Gd many w k a → a.holds p = true → a.holds q = true
  | 0, _, g, _ => False.elim g
  | k + 1, .at b, g, e => by
    rw [Aim.holds] at e ⊢
    exact h b g e
  | k + 1, .node kd as, g, e => by
    rw [holds_node] at e ⊢
    have ih : ∀ a ∈ as, a.holds p = true → a.holds q = true := fun a ha => mono_on h (g.2.2 a ha)
    cases kd with
    | all =>
      simp only [Kd.holds, List.all_map, List.all_eq_true, Function.comp, id] at e ⊢
      exact fun a ha => ih a ha (e a ha)
    | some =>
      simp only [Kd.holds, List.any_map, List.any_eq_true, Function.comp, id] at e ⊢
      obtain ⟨a, ha, e⟩ := e
      exact ⟨a, ha, ih a ha e⟩
    | least n =>
      simp only [Kd.holds, decide_eq_true_eq, List.countP_map] at e ⊢
      refine Nat.le_trans e ?_
      exact List.countP_mono_left fun a ha => ih a ha
theorem Tape.wf {t : TF} {s : Mem} (h : Tape t s) : WF s := by
  obtain ⟨ns, p, c, z, cn, ⟨h1, h2, h3, h4⟩, hp, rfl⟩ := h
  intro j hj
  have hj : t.f.n ≤ j := hj
  show (if j = t.t then _ else if j = t.sc then _ else t.f.m j) = none
  rw [if_neg (by omega), if_neg (by omega)]
  exact h4 j hj
theorem Tape.of {t : TF} {s s' : Mem} (h : Tape t s) (w : WF s') (e1 : s'.m t.t = s.m t.t) (e2 : s'.m t.sc = s.m t.sc) : Tape ⟨t.t, s', t.sc⟩ s' := by
  obtain ⟨ns, p, c, z, cn, ⟨h1, h2, h3, h4⟩, hp, rfl⟩ := h
  rw [tapeM_t] at e1
  rw [tapeM_sc h1] at e2
  refine ⟨ns, p, c, z, cn, ⟨h1, w.lt e2, w.lt e1, w⟩, hp, ?_⟩
  unfold tapeM
  cases s' with
  | mk m n =>
    congr 1
    funext j
    show m j = if j = t.t then _ else if j = t.sc then _ else m j
    by_cases hj : j = t.t
    · rw [if_pos hj, hj]; exact e1
    · rw [if_neg hj]
      by_cases hk : j = t.sc
      · rw [if_pos hk, hk]; exact e2
      · rw [if_neg hk]
theorem Tape.has {t : TF} {s : Mem} (h : Tape t s) : (∃ d, s.m t.t = some d) ∧ ∃ d, s.m t.sc = some d := by
  obtain ⟨ns, p, c, z, cn, ⟨h1, h2, h3, h4⟩, hp, rfl⟩ := h
  exact ⟨⟨_, tapeM_t⟩, ⟨_, tapeM_sc h1⟩⟩
theorem Tape.ext {t : TF} {s s' : Mem} (h : Tape t s) (x : Ex0 s s') : Tape ⟨t.t, s', t.sc⟩ s' := by
  obtain ⟨⟨d1, e1⟩, ⟨d2, e2⟩⟩ := Tape.has h
  exact Tape.of h x.wf ((x.old _ _ e1).trans e1.symm) ((x.old _ _ e2).trans e2.symm)
end LW
namespace LW
open PySem PySem.Spec PyProof.Rows L2 RZ DN
theorem Sel.len : ∀ {P : List Pr} {l : List Nat}, Sel P l → l.length = P.length
  | [], _, h => by rw [show _ = [] from h]; rfl
  | p :: P, l, ⟨l', hl, e⟩ => by
    have := hl.len
    rcases e with rfl | rfl <;> simp [this]
noncomputable def srtN (l : List Nat) : List Nat := l.mergeSort fun a b => leData (iD a) (iD b)
theorem srtN_mem {l : List Nat} {x : Nat} : x ∈ srtN l ↔ x ∈ l := (List.mergeSort_perm _ _).mem_iff
abbrev lD (l : List Nat) : D := .tup (iL l)
theorem sorted_lT {l : List Nat} : sortedDD [lD l] = some (.lst (iL (srtN l))) := by
  have h : sortableD (iL l) = true := by
    unfold sortableD alikeAllD
    simp only [Bool.and_eq_true, Bool.or_eq_true, List.all_eq_true]
    refine ⟨⟨fun d hd => ?_, fun d hd e he => ?_⟩, .inr fun d hd => ?_⟩
    · obtain ⟨p, _, rfl⟩ := List.mem_map.mp hd; exact (da_int (k := 0)).okc (by decide)
    · obtain ⟨p, _, rfl⟩ := List.mem_map.mp hd; obtain ⟨q, _, rfl⟩ := List.mem_map.mp he; rfl
    · obtain ⟨p, _, rfl⟩ := List.mem_map.mp hd; rfl
  show (if sortableD _ = true then _ else _) = _
  rw [if_pos h]
  unfold sortDL srtN
  rw [(List.map_mergeSort (f := iD) (fun _ _ _ _ => rfl)).symm]
end LW
namespace LW
open PySem PySem.Spec PyProof.Rows L2 RZ DN
def ExT (t c : Nat) (s s' : Mem) : Prop := ∀ j d, j ≠ t → j ≠ c → s.m j = some d → s'.m j = some d
theorem ExT.refl {t c : Nat} {s : Mem} : ExT t c s s := fun _ _ _ _ h => h
theorem ExT.trans {t c : Nat} {s s' s'' : Mem} (a : ExT t c s s') (b : ExT t c s' s'') : ExT t c s s'' := fun j d h g e => b j d h g (a j d h g e)
theorem Ex0.t {t c : Nat} {s s' : Mem} (a : Ex0 s s') : ExT t c s s' := fun j d _ _ e => a.old j d e
theorem Tape.ex {T : TF} {s s' : Mem} (h : Tape T s) (g : Tape T s') : ExT T.t T.sc s s' := by
  obtain ⟨ns, p, c, z, cn, _, _, rfl⟩ := h
  obtain ⟨ns', p', c', z', cn', _, _, rfl⟩ := g
  intro j d h1 h2 e
  have e : (if j = T.t then _ else if j = T.sc then _ else T.f.m j) = some d := e
  show (if j = T.t then _ else if j = T.sc then _ else T.f.m j) = some d
  rw [if_neg h1, if_neg h2] at e ⊢
  exact e
theorem Tape.low {T : TF} {s : Mem} (h : Tape T s) : T.t < s.n ∧ T.sc < s.n := by
  obtain ⟨⟨d1, e1⟩, ⟨d2, e2⟩⟩ := Tape.has h
  exact ⟨(Tape.wf h).lt e1, (Tape.wf h).lt e2⟩
theorem Tape.upd {T : TF} {s : Mem} {k : Nat} {d : D} (h : Tape T s) (k1 : k ≠ T.t) (k2 : k ≠ T.sc) (k3 : k < s.n) : Tape ⟨T.t, updM s k (some d), T.sc⟩ (updM s k (some d)) := by
  refine Tape.of h (fun j hj => ?_) ?_ ?_
  · have hj : s.n ≤ j := hj
    rw [updM_m, if_neg (by omega)]
    exact Tape.wf h j hj
  · rw [updM_m, if_neg (fun z => k1 z.symm)]
  · rw [updM_m, if_neg (fun z => k2 z.symm)]
theorem Tape.new {T : TF} {s : Mem} {d : D} (h : Tape T s) : Tape ⟨T.t, s.push d, T.sc⟩ (s.push d) := by
  have l := Tape.low h
  refine Tape.of h (fun j hj => ?_) ?_ ?_
  · have hj : s.n + 1 ≤ j := hj
    rw [push_m, if_neg (by omega)]
    exact Tape.wf h j (by omega)
  · rw [push_m, if_neg (by omega)]
  · rw [push_m, if_neg (by omega)]
end LW
namespace LW
open PySem PySem.Spec PyProof.Rows L2 RZ DN
theorem Good.mono {many w k : Nat} {a : Aim} {P Q : List Pr} (ga : Gd many w k a) (h : Good a P) (hPQ : ∀ l, Sel Q l → ∃ l', Sel P l' ∧ ∀ x ∈ l', x ∈ l) : Good a Q := fun l hl => by
  obtain ⟨l', h1, h2⟩ := hPQ l hl
  exact mono_on (fun b _ hb => by simpa using h2 b (by simpa using hb)) ga (h l' h1)
theorem Sel.sub : ∀ {P : List Pr} {l : List Nat}, (∀ p ∈ P, p.1 ∈ l ∨ p.2 ∈ l) → ∃ l', Sel P l' ∧ ∀ x ∈ l', x ∈ l
  | [], _, _ => ⟨[], rfl, fun _ h => nomatch h⟩
  | p :: P, l, h => by
    obtain ⟨l', h1, h2⟩ := Sel.sub (P := P) (l := l) fun q hq => h q (List.mem_cons_of_mem _ hq)
    rcases h p List.mem_cons_self with hp | hp
    · exact ⟨p.1 :: l', ⟨l', h1, .inl rfl⟩, fun x hx => by rcases List.mem_cons.mp hx with rfl | hx; exact hp; exact h2 x hx⟩
    · exact ⟨p.2 :: l', ⟨l', h1, .inr rfl⟩, fun x hx => by rcases List.mem_cons.mp hx with rfl | hx; exact hp; exact h2 x hx⟩
section
variable {K : PySem.W.Frag} {cl : CTab} {k : Nat} {s : Mem} {xs : List D}
theorem notIn_iL2 {x : Nat} {l : List Nat} : notInK (.int (x : Int)) (.lst (iL l)) = some (.bl (!decide (x ∈ l))) := by
  rw [notInK_L]
  exact notIn_iL
end
end LW
namespace LW
section
variable {nb : Nat → List Nat}
def NA (nb : Nat → List Nat) (o : List Nat) : Prop := ∀ x ∈ o, ∀ y ∈ nb x, y ∉ o
end
end LW
namespace LW
open PySem PySem.Spec PyProof.Rows L2 RZ DN
theorem toks_alike {x y : PyData} (h : PySem.W.alike x y = true) (e : PySem.W.keyToks x = PySem.W.keyToks y) : PyData.eqv x y = true := by
  cases q : PyData.eqv x y with
  | true => rfl
  | false =>
    exfalso
    have h1 := (PySem.W.toks_eqv x y h).2 q [.inl 0] [.inl 1]
    rw [e] at h1
    rw [PySem.W.lex_pre, PyProof.Rows.lex_irrefl] at h1
    have h2 : PyProof.Rows.lexLt itemOrd [.inl 0] [.inl 1] = true := by
      rw [PyProof.Rows.lex_diff (O := itemOrd) (by simp)]
      rfl
    rw [h2] at h1
    cases h1
theorem ltD_tri {k j : Nat} {a b : D} (ha : Da k a) (hb : Da j b) (h : PySem.W.alike a.py b.py = true) (h1 : ltD a b = false) (h2 : ltD b a = false) : a = b :=
  (ha.eqv hb).mp (toks_alike h (PyProof.Rows.lex_total (O := itemOrd) _ _ h1 h2))
theorem leD_trans {a b c : D} (h : leData a b = true) (g : leData b c = true) : leData a c = true := by
  rw [le_ltD, Bool.not_eq_true'] at *
  cases e : ltD c a with
  | false => rfl
  | true =>
    rcases ltD_neg (b := b) e with z | z
    · rw [z] at g; cases g
    · rw [z] at h; cases h
theorem leD_total (a b : D) : (leData a b || leData b a) = true := by
  rw [le_ltD, le_ltD]
  cases e : ltD b a with
  | false => rfl
  | true => rw [ltD_asymm e]; rfl
theorem srt_of {α : Type} {g : α → D} (l : List α) : (l.mergeSort fun a b => leData (g a) (g b)).Pairwise fun a b => leData (g a) (g b) = true :=
  List.pairwise_mergeSort (le := fun a b => leData (g a) (g b)) (fun a b c h h' => leD_trans h h') (fun a b => leD_total _ _) l
structure KeyE {α : Type} (f : α → D) (k : α → GK) : Prop where
  key : ∀ x, (f x).key = some (k x)
  inj : ∀ x y, k x = k y → x = y
  low : ∀ x, (k x).low = true
  kd : ∃ b, ∀ x, (k x).isT = b ∧ ∀ r, kindT (f x :: r) = b
section
variable {α : Type} [DecidableEq α] {f : α → D} {k : α → GK}
theorem KeyE.hasK (e : KeyE f k) {L : List α} {x : α} : hasK (L.map f) (k x) = decide (x ∈ L) := by
  unfold DN.hasK
  rw [List.any_map, Bool.eq_iff_iff, List.any_eq_true]
  simp only [Function.comp_apply, decide_eq_true_eq, e.key, Option.some.injEq]
  exact ⟨fun ⟨y, h, q⟩ => by rw [← e.inj _ _ q]; exact h, fun h => ⟨x, h, rfl⟩⟩
theorem KeyE.put (e : KeyE f k) {L : List α} {x : α} {vs : List D} {d : D} (h : x ∉ L) : putKs (L.map f) (k x) = (L ++ [x]).map f ∧ putVs (L.map f) vs (k x) d = vs ++ [d] := by
  unfold putKs putVs
  rw [e.hasK, decide_eq_false h]
  have := key_eq (e.key x)
  simp [← this]
theorem KeyE.look {β : Type} (e : KeyE f k) {kf : β → α} {v : β → D} : ∀ {L : List β} {x : β}, (∀ y ∈ L, kf y = kf x → v y = v x) → x ∈ L → lookD (L.map fun y => f (kf y)) (L.map v) (k (kf x)) = some (v x)
  | y :: L, x, h, hx => by
    rw [List.map_cons, List.map_cons, lookD, e.key]
    by_cases q : kf y = kf x
    · rw [if_pos (by rw [q]), h y List.mem_cons_self q]
    · rw [if_neg (by rw [Option.some.injEq]; exact fun z => q (e.inj _ _ z))]
      rcases List.mem_cons.mp hx with rfl | hx
      · exact absurd rfl q
      · exact KeyE.look e (fun z hz => h z (List.mem_cons_of_mem _ hz)) hx
theorem KeyE.ok (e : KeyE f k) {L : List α} {x : α} : okK (L.map f) (k x) = true := by
  obtain ⟨b, hb⟩ := e.kd
  unfold okK
  rw [e.low, Bool.and_true]
  cases L with
  | nil => rfl
  | cons y L =>
    rw [List.map_cons, (hb y).2, (hb x).1]
    simp
end
end LW
namespace LW
open PySem PySem.Spec PyProof.Rows L2 RZ DN
def hM (a : Aim) (m : Nat) : Bool := a.holds m.testBit
section
variable {K : PySem.W.Frag} {cl : CTab}
theorem ixL_map {α : Type} {g : α → D} {l : List α} {i : Nat} (h : i < l.length) : ixD (.lst (l.map g)) (.int (i : Int)) = some (g l[i]) := by
  rw [ixL (by rw [List.length_map]; exact h)]; simp
theorem alike_ints : ∀ (r s : List Nat), PySem.W.alikeAll (D.pyL (iL r)) (D.pyL (iL s)) = true
  | [], _ => by simp [D.pyL, PySem.W.alikeAll]
  | _ :: _, [] => by simp [D.pyL, PySem.W.alikeAll]
  | x :: r, y :: s => by
    have := alike_ints r s
    simp only [iL, List.map_cons, D.pyL, PySem.W.alikeAll] at this ⊢
    rw [this]
    simp [D.py, PySem.W.alike]
end
end LW
namespace LW
open PySem PySem.Spec PyProof.Rows L2 RZ DN
inductive F2 {α β : Type} (P : α → β → Prop) : List α → List β → Prop
  | nil : F2 P [] []
  | cons {a : α} {b : β} {as : List α} {bs : List β} : P a b → F2 P as bs → F2 P (a :: as) (b :: bs)
theorem F2.len {α β : Type} {P : α → β → Prop} : ∀ {as : List α} {bs : List β}, F2 P as bs → bs.length = as.length
  | _, _, .nil => rfl
  | _, _, .cons _ h => by simp [h.len]
theorem F2.map {α β γ : Type} {P : α → β → Prop} {f : α → γ} {g : β → γ} (h : ∀ a b, P a b → g b = f a) : ∀ {as : List α} {bs : List β}, F2 P as bs → bs.map g = as.map f
  | _, _, .nil => rfl
  | _, _, .cons p t => by rw [List.map_cons, List.map_cons, h _ _ p, t.map h]
theorem F2.all {α β : Type} {P : α → β → Prop} {Q : β → Prop} (h : ∀ a b, P a b → Q b) : ∀ {as : List α} {bs : List β}, F2 P as bs → ∀ b ∈ bs, Q b
  | _, _, .nil, _, hb => nomatch hb
  | _, _, .cons p t, b, hb => by
    rcases List.mem_cons.mp hb with rfl | hb
    · exact h _ _ p
    · exact t.all h b hb
end LW
namespace LW
open PySem PySem.Spec PyProof.Rows L2 RZ DN
theorem Sel.some : ∀ (P : List Pr), ∃ l, Sel P l
  | [] => ⟨[], rfl⟩
  | p :: P => let ⟨l, h⟩ := Sel.some P; ⟨p.1 :: l, l, h, .inl rfl⟩
theorem Sel.in : ∀ {P : List Pr} {l : List Nat}, Sel P l → ∀ x ∈ l, x ∈ Vs P
  | [], l, h, x, hx => by
    have : l = [] := h
    subst this; exact nomatch hx
  | p :: P, l, ⟨l', h, e⟩, x, hx => by
    rw [Vs_cons, List.mem_cons, List.mem_cons]
    rcases e with rfl | rfl
    · rcases List.mem_cons.mp hx with rfl | hx
      · exact .inl rfl
      · exact .inr (.inr (h.in x hx))
    · rcases List.mem_cons.mp hx with rfl | hx
      · exact .inr (.inl rfl)
      · exact .inr (.inr (h.in x hx))
end LW
namespace LW
open PySem PySem.Spec PyProof.Rows L2 RZ DN
theorem Sel.vs : ∀ {P : List Pr} {l : List Nat}, Sel P l → ∀ x ∈ l, x ∈ Vs P
  | [], _, h, x, hx => by cases h; exact nomatch hx
  | p :: P, l, ⟨l', hl, e⟩, x, hx => by
    rw [Vs_cons]
    rcases e with rfl | rfl <;> rcases List.mem_cons.mp hx with rfl | hx <;> simp
    · exact .inr (.inr (hl.vs x hx))
    · exact .inr (.inr (hl.vs x hx))
theorem Sel.nd : ∀ {P : List Pr} {l : List Nat}, Sel P l → (Vs P).Nodup → l.Nodup
  | [], _, h, _ => by cases h; exact List.nodup_nil
  | p :: P, l, ⟨l', hl, e⟩, nd => by
    simp only [Vs_cons, List.nodup_cons, List.mem_cons, not_or] at nd
    rcases e with rfl | rfl
    · exact List.nodup_cons.mpr ⟨fun z => nd.1.2 (hl.vs _ z), hl.nd nd.2.2⟩
    · exact List.nodup_cons.mpr ⟨fun z => nd.2.1 (hl.vs _ z), hl.nd nd.2.2⟩
theorem Sel.one : ∀ {P : List Pr} {l : List Nat}, Sel P l → (Vs P).Nodup → ∀ p ∈ P, ¬ (p.1 ∈ l ∧ p.2 ∈ l)
  | [], _, _, _, _, h => nomatch h
  | q :: P, l, ⟨l', hl, e⟩, nd, p, hp => by
    simp only [Vs_cons, List.nodup_cons, List.mem_cons, not_or] at nd
    rintro ⟨h1, h2⟩
    rcases List.mem_cons.mp hp with rfl | hp
    · rcases e with rfl | rfl
      · rcases List.mem_cons.mp h2 with z | z
        · exact nd.1.1 z.symm
        · exact nd.2.1 (hl.vs _ z)
      · rcases List.mem_cons.mp h1 with z | z
        · exact nd.1.1 z
        · exact nd.1.2 (hl.vs _ z)
    · have v1 : p.1 ∈ Vs P := List.mem_flatMap.mpr ⟨p, hp, by simp⟩
      have v2 : p.2 ∈ Vs P := List.mem_flatMap.mpr ⟨p, hp, by simp⟩
      refine hl.one nd.2.2 p hp ⟨?_, ?_⟩
      · rcases e with rfl | rfl <;> rcases List.mem_cons.mp h1 with z | z
        · exact absurd (z ▸ v1) nd.1.2
        · exact z
        · exact absurd (z ▸ v1) nd.2.1
        · exact z
      · rcases e with rfl | rfl <;> rcases List.mem_cons.mp h2 with z | z
        · exact absurd (z ▸ v2) nd.1.2
        · exact z
        · exact absurd (z ▸ v2) nd.2.1
        · exact z
end LW
namespace LW
open PySem PySem.Spec PyProof.Rows L2 RZ DN
def lk (l : List Nat) : GK := .inr (l.map fun x : Nat => NestedKey.num (x : Int))
theorem cut_from {α : Type} {g : α → D} {r : List α} {n : Nat} : slD (.tup (r.map g)) (some (n : Int)) none = some (.tup ((r.drop n).map g)) := by
  show some (D.tup (cutL _ _ _)) = _
  unfold cutL
  have e : HT.sIx (r.map g).length 0 (some (n : Int)) = min n (r.map g).length := HT.sIx_nat _ _ n
  rw [e, HT.sIx_none]
  congr 2
  rw [List.length_map, ← List.map_drop]
  rw [List.take_of_length_le]
  · rcases Nat.le_total n r.length with h | h
    · rw [Nat.min_eq_left h]
    · rw [Nat.min_eq_right h, List.drop_of_length_le (Nat.le_refl _), List.drop_of_length_le h]
  · rw [List.length_map, List.length_drop]; omega
section
variable {K : PySem.W.Frag} {cl : CTab}
theorem rep1 {d : D} {n : Nat} (h1 : 1 ≤ n) (hn : n ≤ 1000) : mulD (.tup [d]) (.int (n : Int)) = some (.tup (List.replicate n d)) := by
  have fl : ∀ k : Nat, (List.replicate k [d]).flatten = List.replicate k d := fun k => by
    induction k with
    | zero => rfl
    | succ k ih => rw [List.replicate_succ, List.flatten_cons, ih]; rfl
  show (if _ then _ else _) = _
  by_cases h : n = 1
  · subst h
    simp
  · have e1 : ¬ ((([d] : List D).isEmpty = true ∨ (n : Int) = 1) ∧ -1000 ≤ (n : Int) ∧ (n : Int) ≤ 1000) := fun z => by
      rcases z.1 with q | q
      · exact nomatch q
      · omega
    rw [if_neg e1, if_pos ⟨rfl, by omega, by omega, by simp⟩]
    rw [Int.toNat_natCast, fl]
end
end LW
namespace LW
open PySem PySem.Spec PyProof.Rows L2 RZ DN
theorem Good.at {a : Aim} {P : List Pr} {l : List Nat} (g : Good a P) (h : Sel P l) : hM a (orL 0 l) = true := by
  unfold hM
  rw [orL_bit]
  exact g l h
end LW
namespace LW
open PySem PySem.Spec PyProof.Rows L2 RZ DN
section
variable {K : PySem.W.Frag} {cl : CTab}
noncomputable def b__law_pairing : SEnv → M (MemS K cl) Fl := sRet pHide (xB tupleD (aC (xB sortedDD (aC (xLc [2, 3] (aTup (aCons (aName 2) (aCons (aName 3) (aNil)))) (tY) (xB tupleD (aC (xB sortedDD (aC (xLst (aC (xIx (eVar 1) (eVar 2)) (aC (xIx (eVar 1) (eVar 3)) (aN)))) (aN))) (aN))) (iOf anyI (eVar 0))) (aN))) (aN)))
end
end LW
namespace LW
open PySem PySem.Spec PyProof.Rows L2 RZ DN
section
variable {K : PySem.W.Frag} {cl : CTab}
noncomputable def b__law_is_ahead : SEnv → M (MemS K cl) Fl := seqF (sIf pHide (tOo (tCm neD (xB lenD (aC (xIx (eVar 0) (eC (.int 2))) (aN))) (xOp addD (xB lenD (aC (xIx (eVar 1) (eC (.int 2))) (aN))) (eC (.int 1)))) (tCm neD (xSl (xIx (eVar 0) (eC (.int 2))) (oN) (oS (xUn negD (eC (.int 1))))) (xIx (eVar 1) (eC (.int 2))))) (sRet pHide (eC (.bl false))) (sPass)) (sRet pHide (xOp neD (xOp modD (xB intD (aC (xB lenD (aC (xIx (eVar 1) (eC (.int 2))) (aN))) (aN))) (eC (.int 2))) (xIx (eVar 0) (eC (.int 1)))))
noncomputable def m__law_is_ahead : List D → M (MemS K cl) D := runF 2 b__law_is_ahead
noncomputable def b__law_are_pair_v2 : SEnv → M (MemS K cl) Fl := seqF (sIf pHide (tOo (tCm neD (xIx (eVar 0) (eC (.int 0))) (xIx (eVar 1) (eC (.int 0)))) (tCm eqD (xIx (eVar 0) (eC (.int 1))) (xIx (eVar 1) (eC (.int 1))))) (sRet pHide (eC (.bl false))) (sPass)) (sRet pHide (xOr (xOp eqD (xIx (eVar 0) (eC (.int 2))) (xIx (eVar 1) (eC (.int 2)))) (xOr (xCall m__law_is_ahead (aC (eVar 0) (aC (eVar 1) (aN)))) (xCall m__law_is_ahead (aC (eVar 1) (aC (eVar 0) (aN)))))))
noncomputable def m__law_are_pair_v2 : List D → M (MemS K cl) D := runF 2 b__law_are_pair_v2
noncomputable def b_begun_rows : SEnv → M (MemS K cl) Fl := sRet pHide (xB tupleD (aC (xLc [1, 2, 3] (aTup (aCons (aName 1) (aCons (aName 2) (aCons (aName 3) (aNil))))) (tY) (eVar 3) (iOf anyI (xFlds ["Hall", "RawHall"] 0 (eVar 0)))) (aN)))
noncomputable def m_begun_rows : List D → M (MemS K cl) D := runF 4 b_begun_rows
noncomputable def b__law_is_int : SEnv → M (MemS K cl) Fl := sRet pHide (xAn (xUn (isD "int") (eVar 0)) (xNt (xUn (isD "bool") (eVar 0))))
noncomputable def m__law_is_int : List D → M (MemS K cl) D := runF 1 b__law_is_int
noncomputable def b__law_is_pairing : SEnv → M (MemS K cl) Fl := seqF (sIf pHide (tNt (tTr (xUn (isD "tuple") (eVar 1)))) (sRet pHide (eC (.bl false))) (sPass)) (seqF (sSet 2 (xLst (aN))) (seqF (sFor (aName 3) (iOf range1 (xB lenD (aC (eVar 1) (aN)))) (seqF (sSet 4 (xIx (eVar 1) (eVar 3))) (seqF (sIf pHide (tOo (tNt (tTr (xUn (isD "tuple") (eVar 4)))) (tOo (tCm neD (xB lenD (aC (eVar 4) (aN))) (eC (.int 2))) (tOo (tNt (tTr (xCall m__law_is_int (aC (xIx (eVar 4) (eC (.int 0))) (aN))))) (tNt (tTr (xCall m__law_is_int (aC (xIx (eVar 4) (eC (.int 1))) (aN)))))))) (sRet pHide (eC (.bl false))) (sPass)) (seqF (sIf pHide (tOo (tCm ltI (xIx (eVar 4) (eC (.int 0))) (eC (.int 0))) (tOo (tCm geTD (xIx (eVar 4) (eC (.int 0))) (xIx (eVar 4) (eC (.int 1)))) (tOo (tCm geTD (xIx (eVar 4) (eC (.int 1))) (xB lenD (aC (eVar 0) (aN)))) (tOo (tCm inK (xIx (eVar 4) (eC (.int 0))) (eVar 2)) (tCm inK (xIx (eVar 4) (eC (.int 1))) (eVar 2)))))) (sRet pHide (eC (.bl false))) (sPass)) (seqF (sIf pHide (tOo (tNt (tTr (xCall m__law_are_pair_v2 (aC (xIx (eVar 0) (xIx (eVar 4) (eC (.int 0)))) (aC (xIx (eVar 0) (xIx (eVar 4) (eC (.int 1)))) (aN)))))) (tAn (tCm gtI (eVar 3) (eC (.int 0))) (tCm geTD (xIx (eVar 1) (xOp subD (eVar 3) (eC (.int 1)))) (eVar 4)))) (sRet pHide (eC (.bl false))) (sPass)) (sSet 2 (xOp addD (eVar 2) (xLst (aC (xIx (eVar 4) (eC (.int 0))) (aC (xIx (eVar 4) (eC (.int 1))) (aN))))))))))) (sRet pHide (eC (.bl true)))))
end
end LW
namespace LW
open PySem PySem.Spec PyProof.Rows L2 RZ DN
section
variable {K : PySem.W.Frag} {cl : CTab}
noncomputable def b__law_pick_v2 : SEnv → M (MemS K cl) Fl := seqF (sSetM pHide (eVar 0) (eC (.int 3)) (xOp addD (xIxM (eVar 0) (eC (.int 3))) (eC (.int 1)))) (seqF (sIf pHide (tAn (tCm eqD (xIxM (eVar 0) (eC (.int 2))) (eC (.int 0))) (tCm ltI (xIxM (eVar 0) (eC (.int 1))) (xLenM (xIxM (eVar 0) (eC (.int 0)))))) (seqF (sSet 3 (xIxM (xIxM (eVar 0) (eC (.int 0))) (xIxM (eVar 0) (eC (.int 1))))) (seqF (sSetM pHide (eVar 0) (eC (.int 1)) (xOp addD (xIxM (eVar 0) (eC (.int 1))) (eC (.int 1)))) (seqF (sSetM pHide (eVar 0) (eC (.int 4)) (xOp modD (xB intD (aC (xOp addD (xOp addD (xOp mulD (xIxM (eVar 0) (eC (.int 4))) (eC (.int 69621))) (eVar 3)) (eC (.int 1))) (aN))) (eC (.int 2147483647)))) (sIf pHide (tCm geI (eVar 3) (xOp powD (eC (.int 10)) (eC (.int 18)))) (sSetM pHide (eVar 0) (eC (.int 2)) (eVar 3)) (sPass))))) (sPass)) (seqF (sIf pHide (tCm gtI (xIxM (eVar 0) (eC (.int 2))) (eC (.int 0))) (seqF (sSet 4 (xOp modD (xB intD (aC (xIxM (eVar 0) (eC (.int 2))) (aN))) (eVar 1))) (seqF (sSetM pHide (eVar 0) (eC (.int 2)) (xOp fdivD (xIxM (eVar 0) (eC (.int 2))) (eVar 1))) (sRet pHide (eVar 4)))) (sPass)) (seqF (sSet 2 (xOp modD (xB intD (aC (xOp mulD (xOp addD (xIxM (eVar 0) (eC (.int 4))) (xOp mulD (xIxM (eVar 0) (eC (.int 3))) (eC (.int 40692)))) (eC (.int 48271))) (aN))) (eC (.int 2147483629)))) (seqF (sSet 2 (xOp modD (xB intD (aC (xOp mulD (eVar 2) (xOp addD (xOp fdivD (eVar 2) (eC (.int 1009))) (eC (.int 69621)))) (aN))) (eC (.int 2147483647)))) (seqF (sSet 2 (xOp modD (xB intD (aC (xOp mulD (eVar 2) (xOp addD (xOp fdivD (eVar 2) (eC (.int 2003))) (eC (.int 40014)))) (aN))) (eC (.int 2147483399)))) (sRet pHide (xOp modD (xB intD (aC (xOp fdivD (eVar 2) (eC (.int 16))) (aN))) (eVar 1))))))))
noncomputable def m__law_pick_v2 : List D → M (MemS K cl) D := runF 5 b__law_pick_v2
noncomputable def b__law_word_v2 : SEnv → M (MemS K cl) Fl := seqF (sSet 3 (eC (.str "abcdefghijklmnopqrstuvwxyz"))) (seqF (sSet 4 (xOp addD (eC (.int 1)) (xCall m__law_pick_v2 (aC (eVar 0) (aC (eVar 2) (aN)))))) (seqF (sSet 5 (xBm "str" joinD (eC (.str "")) (aC (xLc [6] (aName 6) (tY) (xIx (eVar 3) (xCall m__law_pick_v2 (aC (eVar 0) (aC (eC (.int 26)) (aN))))) (iOf range1 (eVar 4))) (aN)))) (seqF (sIf pHide (tCm inK (eVar 5) (eVar 1)) (sSet 5 (xIx (xLc [7] (aName 7) (tCm notInK (eVar 7) (eVar 1)) (eVar 7) (iOf anyI (eVar 3))) (eC (.int 0)))) (sPass)) (sRet pHide (eVar 5)))))
noncomputable def m__law_word_v2 : List D → M (MemS K cl) D := runF 8 b__law_word_v2
noncomputable def b__law_words_v2 : SEnv → M (MemS K cl) Fl := seqF (sNewL 3) (seqF (sFor (aName 4) (iOf range1 (eVar 1)) (sApp pAll D.imm 3 (xCall m__law_word_v2 (aC (eVar 0) (aC (eVar 3) (aC (eVar 2) (aN))))))) (sFrz 3 (sRet pHide (eVar 3))))
noncomputable def m__law_words_v2 : List D → M (MemS K cl) D := runF 5 b__law_words_v2
noncomputable def b__law_rows : SEnv → M (MemS K cl) Fl := seqF (sNewD 3) (seqF (sFor (aName 4) (iOf anyI (eVar 2)) (seqF (sSet 6 (xCall m__law_words_v2 (aC (eVar 0) (aC (xOp addD (eC (.int 1)) (xCall m__law_pick_v2 (aC (eVar 0) (aC (eC (.int 3)) (aN))))) (aC (eC (.int 20)) (aN)))))) (seqF (sSet 7 (xCall m__law_pick_v2 (aC (eVar 0) (aC (eC (.int 13)) (aN))))) (seqF (sIf pHide (tCm eqD (xCall m__law_pick_v2 (aC (eVar 0) (aC (eC (.int 8)) (aN)))) (eC (.int 7))) (sSet 7 (eC (.int 60))) (sPass)) (sPut pHide yes 3 (eVar 4) (xLc [11] (aName 11) (tY) (xIx (eVar 6) (xCall m__law_pick_v2 (aC (eVar 0) (aC (xB lenD (aC (eVar 6) (aN))) (aN))))) (iOf range1 (eVar 7)))))))) (seqF (sNewL 5) (sFrz 3 (seqF (sFor (aTup (aCons (aName 4) (aCons (aName 8) (aCons (aName 9) (aNil))))) (iOf anyI (eVar 1)) (seqF (sSet 10 (xSl (xIx (eVar 3) (eVar 4)) (oN) (oS (xCall m__law_pick_v2 (aC (eVar 0) (aC (xOp addD (xB lenD (aC (xIx (eVar 3) (eVar 4)) (aN))) (eC (.int 1))) (aN))))))) (seqF (sIf pHide (tAn (tCm eqD (xCall m__law_pick_v2 (aC (eVar 0) (aC (eC (.int 4)) (aN)))) (eC (.int 3))) (tCm ltI (xB lenD (aC (eVar 10) (aN))) (eC (.int 60)))) (sSet 10 (xOp addD (eVar 10) (xLst (aC (eC (.str "other")) (aN))))) (sPass)) (sApp pHide yes 5 (xB tupleD (aC (eVar 10) (aN))))))) (sFrz 5 (sRet pHide (eVar 5)))))))
noncomputable def b_check_rows : SEnv → M (MemS K cl) Fl := seqF (sIf pHide (tOo (tNt (tTr (xUn (isD "tuple") (eVar 1)))) (tCm neD (xB lenD (aC (eVar 1) (aN))) (xB lenD (aC (xFlds ["Hall", "RawHall"] 0 (eVar 0)) (aN))))) (sRaise "NoRows") (sPass)) (sFor (aTup (aCons (aName 2) (aCons (aTup (aCons (aName 3) (aCons (aName 3) (aCons (aName 4) (aNil))))) (aNil)))) (iOf2 zipI (eVar 1) (xFlds ["Hall", "RawHall"] 0 (eVar 0))) (sIf pHide (tOo (tNt (tTr (xCall m_is_row (aC (eVar 2) (aN))))) (tCm neD (xSl (eVar 2) (oN) (oS (xB lenD (aC (eVar 4) (aN))))) (eVar 4))) (sRaise "NoRows") (sPass)))
noncomputable def b_guest_moves : SEnv → M (MemS K cl) Fl := sRet pHide (xOp eqD (xIx (eVar 0) (eC (.int 1))) (xCall m_mover_of (aC (eVar 1) (aN))))
noncomputable def m_guest_moves : List D → M (MemS K cl) D := runF 2 b_guest_moves
end
end LW
namespace LW
open PySem PySem.Spec PyProof.Rows L2 RZ DN
abbrev Rw := List Str
def rD (r : Rw) : D := .tup (r.map .str)
def ltR (a b : Rw) : Prop := ltD (rD a) (rD b) = true
theorem da_rD {r : Rw} : Da 2 (rD r) := da_row
theorem alike_rD {a b : Rw} : PySem.W.alike (rD a).py (rD b).py = true := by
  show PySem.W.alike (D.tup _).py (D.tup _).py = true
  simp [D.py, PySem.W.alike, alike_strs]
theorem str_injL {a b : List Str} : a.map D.str = b.map D.str ↔ a = b := List.map_inj_right fun x y h => by injection h
theorem rD_inj {a b : Rw} : rD a = rD b ↔ a = b := by
  unfold rD
  rw [D.tup.injEq]
  exact str_injL
theorem ltR_irr {a : Rw} : ¬ ltR a a := fun h => by unfold ltR at h; rw [ltD_irr] at h; cases h
theorem ltR_trans {a b c : Rw} (h : ltR a b) (g : ltR b c) : ltR a c := ltD_trans h g
theorem ltR_asymm {a b : Rw} (h : ltR a b) (g : ltR b a) : False := ltR_irr (ltR_trans h g)
theorem ltR_tri {a b : Rw} (h1 : ¬ ltR a b) (h2 : ¬ ltR b a) : a = b :=
  rD_inj.mp (ltD_tri da_rD da_rD alike_rD (by simpa [ltR] using h1) (by simpa [ltR] using h2))
theorem ltR_long {a b : Rw} (h : b ≠ []) : ltR a (a ++ b) := by
  cases b with
  | nil => exact absurd rfl h
  | cons x b =>
    unfold ltR rD
    rw [List.map_append, List.map_cons]
    exact lt_longer
theorem ltR_nil {a : Rw} (h : a ≠ []) : ltR [] a := ltR_long (a := []) h
noncomputable def sortR (l : List Rw) : List Rw := l.mergeSort fun a b => leData (rD a) (rD b)
theorem sortR_perm (l : List Rw) : (sortR l).Perm l := List.mergeSort_perm _ _
theorem sortR_mem {l : List Rw} {r : Rw} : r ∈ sortR l ↔ r ∈ l := (sortR_perm l).mem_iff
theorem sortR_len {l : List Rw} : (sortR l).length = l.length := (sortR_perm l).length_eq
theorem sortR_asc {l : List Rw} (nd : l.Nodup) : (sortR l).Pairwise ltR := by
  have h1 : (sortR l).Pairwise fun a b => leData (rD a) (rD b) = true := srt_of l
  have h2 : (sortR l).Nodup := (sortR_perm l).nodup_iff.mpr nd
  refine List.Pairwise.imp₂ (S := fun a b => a ≠ b) (fun a b h n => ?_) h1 h2
  by_cases g : ltR a b
  · exact g
  · refine absurd (ltR_tri g ?_) n
    rw [le_ltD] at h
    unfold ltR
    simpa using h
theorem asc_nd {l : List Rw} (h : l.Pairwise ltR) : l.Nodup := h.imp fun {a b} h (e : a = b) => ltR_irr (a := a) (by rw [← e] at h; exact h)
def rk (r : Rw) : GK := .inr (r.map .text)
def RowOk (r : Rw) : Prop := r.length ≤ 60 ∧ ∀ w ∈ r, WordOk 20 w
structure Gm (g : List Rw) : Prop where
  asc : g.Pairwise ltR
  nil : [] ∈ g
  pre : ∀ r ∈ g, r.dropLast ∈ g
  len : g.length ≤ 600
  row : ∀ r ∈ g, RowOk r
theorem Gm.nd {g : List Rw} (h : Gm g) : g.Nodup := asc_nd h.asc
theorem Gm.cons {g : List Rw} (h : Gm g) : ∃ g', g = [] :: g' := by
  cases g with
  | nil => exact nomatch h.nil
  | cons r g =>
    rcases List.mem_cons.mp h.nil with e | e
    · exact ⟨g, by rw [e]⟩
    · exfalso
      have h1 := (List.pairwise_cons.mp h.asc).1 _ e
      by_cases hr : r = []
      · exact ltR_irr (by rw [hr] at h1; exact h1)
      · exact ltR_asymm h1 (ltR_nil hr)
theorem pre_take {g : List Rw} (h : ∀ r ∈ g, r.dropLast ∈ g) : ∀ (k : Nat) (r : Rw), r ∈ g → r.length - k ≤ r.length → r.take (r.length - k) ∈ g
  | 0, r, hr, _ => by simpa using hr
  | k + 1, r, hr, _ => by
    have := h _ (pre_take h k r hr (by omega))
    rw [List.dropLast_eq_take, List.length_take, List.take_take] at this
    have e : min (min (r.length - k) r.length - 1) (r.length - k) = r.length - (k + 1) := by omega
    rw [e] at this
    exact this
theorem Gm.take {g : List Rw} (h : Gm g) {r : Rw} (hr : r ∈ g) (k : Nat) : r.take k ∈ g := by
  by_cases hk : k ≤ r.length
  · have := pre_take h.pre (r.length - k) r hr (by omega)
    rw [show r.length - (r.length - k) = k by omega] at this
    exact this
  · rw [List.take_of_length_le (by omega)]; exact hr
end LW
namespace LW
open PySem PySem.Spec PyProof.Rows L2 RZ DN
section
variable {α : Type} [DecidableEq α] {f : α → D} {k : α → GK}
theorem KeyE.putAll (e : KeyE f k) (v : α → D) : ∀ {l L : List α} {vs : List D}, (L ++ l).Nodup → DN.putAll (L.map f) vs (l.map fun x => (f x, v x)) = some (.dct ((L ++ l).map f) (vs ++ l.map v))
  | [], L, vs, _ => by simp [DN.putAll]
  | x :: l, L, vs, nd => by
    have hx : x ∉ L := fun h => by
      rw [List.nodup_append] at nd
      exact nd.2.2 x h x List.mem_cons_self rfl
    obtain ⟨p1, p2⟩ := e.put (vs := vs) (d := v x) hx
    rw [List.map_cons, DN.putAll, e.key, Option.bind_some, if_pos e.ok, p1, p2, KeyE.putAll e v (by rw [List.append_assoc]; exact nd)]
    simp
theorem KeyE.inK (e : KeyE f k) {L : List α} {x : α} {vs : List D} : DN.inK (f x) (.dct (L.map f) vs) = some (.bl (decide (x ∈ L))) := by
  show ((f x).key.bind fun k => if okK (L.map f) k = true then some (D.bl (DN.hasK (L.map f) k)) else none) = _
  rw [e.key, Option.bind_some, if_pos e.ok, e.hasK]
end
section
variable {K : PySem.W.Frag} {cl : CTab}
theorem cut_lastR {r : Rw} : slD (rD r) none (some (-1)) = some (rD r.dropLast) := by
  show some (D.tup (cutL (r.map D.str) none (some (-1)))) = _
  unfold cutL
  have e1 : HT.sIx (r.map D.str).length 0 (none : Option Int) = 0 := rfl
  have e2 : HT.sIx (r.map D.str).length (r.map D.str).length (some (-1)) = r.length - 1 := by
    show (if (-1 : Int) < 0 then ((-1 : Int) + ((r.map D.str).length : Int)).toNat else min (-1 : Int).toNat (r.map D.str).length) = _
    rw [if_pos (by decide), List.length_map]
    omega
  rw [e1, e2, List.drop_zero, Nat.sub_zero, rD, List.dropLast_eq_take, List.map_take]
end
end LW
namespace LW
open PySem PySem.Spec PyProof.Rows L2 RZ DN
theorem ix_last {r : Rw} (h : r ≠ []) : ixD (rD r) (.int (-1)) = some (.str (r.getLast h)) := by
  have hl : 0 < r.length := List.length_pos_iff.mpr h
  show atI (r.map D.str) (-1) = _
  have e : ixN (r.map D.str).length (-1) = some (r.length - 1) := by
    unfold ixN
    rw [if_neg (by decide), List.length_map, if_pos (by omega)]
    congr 1
    omega
  unfold atI
  rw [e, Option.bind_some, List.getElem?_map, ← List.getLast?_eq_getElem?, List.getLast?_eq_some_getLast h]
  rfl
end LW
namespace LW
open PySem PySem.Spec PyProof.Rows L2 RZ DN
theorem sl_take {r : Rw} {k : Nat} : slD (rD r) none (some (k : Int)) = some (rD (r.take k)) := by
  show some (D.tup (cutL (r.map D.str) none (some (k : Int)))) = _
  unfold cutL
  rw [HT.sIx_nat, HT.sIx_none, List.drop_zero, Nat.sub_zero, List.length_map, rD, List.map_take]
  congr 2
  by_cases h : k ≤ r.length
  · rw [Nat.min_eq_left h]
  · rw [Nat.min_eq_right (by omega), List.take_of_length_le (by simp), List.take_of_length_le (by simp; omega)]
theorem sl_drop {r : Rw} {k : Nat} : slD (rD r) (some (k : Int)) none = some (rD (r.drop k)) := by
  show some (D.tup (cutL (r.map D.str) (some (k : Int)) none)) = _
  unfold cutL
  rw [HT.sIx_nat, HT.sIx_none, List.length_map, rD, List.map_drop]
  congr 2
  by_cases h : k ≤ r.length
  · rw [Nat.min_eq_left h, List.take_of_length_le (by simp)]
  · rw [Nat.min_eq_right (by omega), List.drop_of_length_le (by simp)]
    rw [List.drop_of_length_le (by simp; omega)]
    simp
end LW
namespace LW
open PySem PySem.Spec PyProof.Rows L2 RZ DN
theorem RowOk.pre {r s : Rw} (h : RowOk s) (p : r <+: s) : RowOk r := ⟨Nat.le_trans p.length_le h.1, fun w hw => h.2 w (p.subset hw)⟩
end LW
namespace LW
open PySem PySem.Spec PyProof.Rows L2 RZ DN
structure GI (L : List Rw) (n : Nat) : Prop where
  nd : L.Nodup
  nil : [] ∈ L
  pre : ∀ r ∈ L, r.dropLast ∈ L
  len : L.length ≤ n
  row : ∀ r ∈ L, r.length < n ∧ ∀ w ∈ r, WordOk 20 w
theorem GI.mono {L : List Rw} {n m : Nat} (h : GI L n) (k : n ≤ m) : GI L m :=
  ⟨h.nd, h.nil, h.pre, Nat.le_trans h.len k, fun r hr => ⟨Nat.lt_of_lt_of_le (h.row r hr).1 k, (h.row r hr).2⟩⟩
theorem GI.app {L : List Rw} {n : Nat} {r : Rw} {w : Str} (h : GI L n) (hr : r ∈ L) (hw : WordOk 20 w) (hn : r ++ [w] ∉ L) : GI (L ++ [r ++ [w]]) (n + 1) where
  nd := by
    rw [List.nodup_append]
    exact ⟨h.nd, by simp, fun a ha b hb e => hn (by rw [List.mem_singleton] at hb; rw [← hb, ← e]; exact ha)⟩
  nil := List.mem_append_left _ h.nil
  pre x hx := by
    rcases List.mem_append.mp hx with hx | hx
    · exact List.mem_append_left _ (h.pre x hx)
    · rw [List.mem_singleton] at hx
      subst hx
      rw [List.dropLast_concat]
      exact List.mem_append_left _ hr
  len := by have := h.len; simp; omega
  row x hx := by
    rcases List.mem_append.mp hx with hx | hx
    · have := h.row x hx; exact ⟨by omega, this.2⟩
    · rw [List.mem_singleton] at hx
      subst hx
      have := h.row r hr
      refine ⟨by simp; omega, fun z hz => ?_⟩
      rcases List.mem_append.mp hz with hz | hz
      · exact this.2 z hz
      · rw [List.mem_singleton] at hz; rw [hz]; exact hw
theorem GI.gm {L : List Rw} {n : Nat} (h : GI L n) (hn : n ≤ 61) : Gm (sortR L) where
  asc := sortR_asc h.nd
  nil := sortR_mem.mpr h.nil
  pre r hr := sortR_mem.mpr (h.pre r (sortR_mem.mp hr))
  len := by rw [sortR_len]; have := h.len; omega
  row r hr := by have := h.row r (sortR_mem.mp hr); exact ⟨by omega, this.2⟩
theorem add_word {r : Rw} {w : Str} (h : r.length ≤ 1000) : addD (rD r) (.tup [.str w]) = some (rD (r ++ [w])) := by
  show (if _ then _ else _) = _
  rw [if_pos]
  · unfold rD
    rw [List.map_append]
    rfl
  · rw [List.length_map, List.length_singleton, sizeLine_eq]
    omega
section
variable {K : PySem.W.Frag} {cl : CTab} {t : TF}
def ownR (L : List Rw) : Sl := .own (.lst (L.map rD))
end
end LW
namespace LW
open PySem PySem.Spec PyProof.Rows L2 RZ DN
inductive Pl : D → Prop
  | non : Pl .non
  | bl (b : Bool) : Pl (.bl b)
  | int (i : Int) : Pl (.int i)
  | str (z : Str) : Pl (.str z)
  | lst (ds : List D) : Pl (.lst ds)
  | dct (ks ds : List D) : Pl (.dct ks ds)
  | tup (ds : List D) (h : ∀ d ∈ ds, Pl d) : Pl (.tup ds)
def isWordD (m : Nat) : D → Bool
  | .str z => wordB m z
  | _ => false
def isRowD (m : Nat) : D → Bool
  | .tup ws => decide (ws.length ≤ m) && ws.all (isWordD 20)
  | _ => false
section
variable {K : PySem.W.Frag} {cl : CTab}
theorem in_letter {c : Nat} : inD (.str ⟨#[c]⟩) (.str "abcdefghijklmnopqrstuvwxyz") = some (.bl (!(Builtin.Str.occurrences "abcdefghijklmnopqrstuvwxyz" ⟨#[c]⟩ 0 (26 : Nat) 1).isEmpty)) := rfl
theorem all_bools {α : Type} {f : α → Bool} {l : List α} : allD [.lst (l.map fun o => .bl (f o))] = some (.bl (l.all f)) := by
  have h : ∀ l : List α, bools (l.map fun o => D.bl (f o)) = some (l.map f) := fun l => by
    induction l with
    | nil => rfl
    | cons x l ih => rw [List.map_cons, bools, ih]; rfl
  show (bools _).map _ = _
  rw [h]
  show some (D.bl _) = _
  rw [List.all_map]
  rfl
theorem e_lettersD {m : Nat} {d : D} (h : Pl d) : (m_is_letters [d, .int (m : Int)] : M (MemS K cl) D) = M.pure (.bl (isWordD m d)) := by
  cases h with
  | non => simp [m_is_letters, b_is_letters, startE, isWordD]
  | bl b => simp [m_is_letters, b_is_letters, startE, isWordD]
  | int i => simp [m_is_letters, b_is_letters, startE, isWordD]
  | lst ds => simp [m_is_letters, b_is_letters, startE, isWordD]
  | dct ks ds => simp [m_is_letters, b_is_letters, startE, isWordD]
  | tup ds _ => simp [m_is_letters, b_is_letters, startE, isWordD]
  | str z =>
    simp only [m_is_letters, b_is_letters, s_runF, startE]
    simp
    by_cases h1 : 1 ≤ z.length
    · by_cases h2 : z.length ≤ m
      · rw [if_neg (by omega)]
        simp
        rw [compL_map (g := fun c : Nat => D.str ⟨#[c]⟩) (k := fun c => .bl (!(Builtin.Str.occurrences "abcdefghijklmnopqrstuvwxyz" ⟨#[c]⟩ 0 (26 : Nat) 1).isEmpty)) (fun c hc => by
          have := in_letter (c := c)
          simp [wipeE, this])]
        have ea := all_bools (f := fun c : Nat => !(Builtin.Str.occurrences "abcdefghijklmnopqrstuvwxyz" ⟨#[c]⟩ 0 (26 : Nat) 1).isEmpty) (l := z.cps.toList)
        simp only [DN.bind_pure, ea, lift_some']
        simp [isWordD, wordB, h1, h2]
      · rw [if_pos (by omega)]
        simp [isWordD, wordB, h2]
    · rw [if_pos (by omega)]
      simp [isWordD, wordB, h1]
theorem e_wordD {d : D} (h : Pl d) : (m_is_word [d] : M (MemS K cl) D) = M.pure (.bl (isWordD 20 d)) := by
  have := e_lettersD (K := K) (cl := cl) (m := 20) h
  have e : ((20 : Nat) : Int) = 20 := rfl
  rw [e] at this
  simp [m_is_word, b_is_word, startE, this]
theorem e_wordsD {m : Nat} {d : D} (h : Pl d) : (m_is_words [d, .int (m : Int)] : M (MemS K cl) D) = M.pure (.bl (isRowD m d)) := by
  cases h with
  | non => simp [m_is_words, b_is_words, startE, isRowD]
  | bl b => simp [m_is_words, b_is_words, startE, isRowD]
  | int i => simp [m_is_words, b_is_words, startE, isRowD]
  | lst ds => simp [m_is_words, b_is_words, startE, isRowD]
  | dct ks ds => simp [m_is_words, b_is_words, startE, isRowD]
  | str z => simp [m_is_words, b_is_words, startE, isRowD]
  | tup ds hd =>
    simp only [m_is_words, b_is_words, s_runF, startE]
    by_cases hl : ds.length ≤ m
    · have hc : compL (compF (aName 2) tY (xCall m_is_word (aC (eVar 2) aN)) (wipeE [some (.tup ds), some (.int (m : Int)), none] [2])) ds = (M.pure (ds.map fun d => .bl (isWordD 20 d)) : M (MemS K cl) _) := by
        have := compL_map (B := MemS K cl) (f := compF (aName 2) tY (xCall m_is_word (aC (eVar 2) aN)) (wipeE [some (.tup ds), some (.int (m : Int)), none] [2])) (g := id) (k := fun d => D.bl (isWordD 20 d)) (as := ds) (fun c hc => by simp [wipeE, e_wordD (hd c hc)])
        rw [List.map_id] at this
        exact this
      have ea := all_bools (f := isWordD 20) (l := ds)
      simp [hl, hc, ea, isRowD]
    · simp [hl, isRowD]
theorem e_rowD {d : D} (h : Pl d) : (m_is_row [d] : M (MemS K cl) D) = M.pure (.bl (isRowD 60 d)) := by
  have := e_wordsD (K := K) (cl := cl) (m := 60) h
  have e : ((60 : Nat) : Int) = 60 := rfl
  rw [e] at this
  simp [m_is_row, b_is_row, startE, this]
theorem isRowD_row {m : Nat} {d : D} (h : isRowD m d = true) : ∃ r : Rw, d = rD r ∧ r.length ≤ m ∧ ∀ w ∈ r, WordOk 20 w := by
  unfold isRowD at h
  split at h
  · rename_i ws
    rw [Bool.and_eq_true] at h
    have hl := of_decide_eq_true h.1
    have hw := List.all_eq_true.mp h.2
    have : ∀ ws : List D, (∀ d ∈ ws, isWordD 20 d = true) → ∃ r : Rw, ws = r.map .str ∧ ∀ w ∈ r, WordOk 20 w := fun ws => by
      induction ws with
      | nil => exact fun _ => ⟨[], rfl, fun w hw => nomatch hw⟩
      | cons d ws ih =>
        intro hw
        obtain ⟨r, h1, h2⟩ := ih fun x hx => hw x (List.mem_cons_of_mem _ hx)
        have hd := hw d List.mem_cons_self
        unfold isWordD at hd
        split at hd
        · rename_i z
          exact ⟨z :: r, by rw [h1]; rfl, fun w hw => by
            rcases List.mem_cons.mp hw with rfl | hw
            · exact word_ok hd
            · exact h2 w hw⟩
        · cases hd
    obtain ⟨r, h1, h2⟩ := this ws hw
    exact ⟨r, by rw [h1]; rfl, by rw [h1, List.length_map] at hl; exact hl, h2⟩
  · cases h
end
end LW
namespace LW
open PySem PySem.Spec PyProof.Rows L2 RZ DN
def isIntD (lo hi : Int) : D → Bool
  | .int i => decide (lo ≤ i) && decide (i ≤ hi)
  | _ => false
end LW
namespace LW
open PySem PySem.Spec PyProof.Rows L2 RZ DN
section
variable {K : PySem.W.Frag} {cl : CTab}
noncomputable def b__law_hand : SEnv → M (MemS K cl) Fl := seqF (sSet 1 (xEnt (xLc [2] (aName 2) (tY) (xB absD (aC (xB intD (aC (eVar 2) (aN))) (aN))) (iOf anyI (xSl (eVar 0) (oN) (oS (eC (.int 63)))))))) (sRet pHide (xEnt (xLst (aC (eVar 1) (aC (eC (.int 0)) (aC (eC (.int 0)) (aC (xOp addD (eC (.int 1)) (xLenM (eVar 1))) (aC (eC (.int 0)) (aN)))))))))
noncomputable def m__law_hand : List D → M (MemS K cl) D := runF 3 b__law_hand
noncomputable def b__law_draw : SEnv → M (MemS K cl) Fl := seqF (sIf pHide (tAn (tCm eqD (xIxM (eVar 0) (eC (.int 2))) (eC (.int 0))) (tCm ltI (xIxM (eVar 0) (eC (.int 1))) (xLenM (xIxM (eVar 0) (eC (.int 0)))))) (seqF (sSet 3 (xIxM (xIxM (eVar 0) (eC (.int 0))) (xIxM (eVar 0) (eC (.int 1))))) (seqF (sSetM pHide (eVar 0) (eC (.int 1)) (xOp addD (xIxM (eVar 0) (eC (.int 1))) (eC (.int 1)))) (seqF (sSetM pHide (eVar 0) (eC (.int 3)) (xOp modD (xB intD (aC (xOp addD (xOp addD (xOp mulD (xIxM (eVar 0) (eC (.int 3))) (eC (.int 69621))) (eVar 3)) (eC (.int 11))) (aN))) (eC (.int 2147483629)))) (sIf pHide (tCm geI (eVar 3) (xOp powD (eC (.int 10)) (eC (.int 18)))) (sSetM pHide (eVar 0) (eC (.int 2)) (eVar 3)) (sPass))))) (sPass)) (seqF (sIf pHide (tCm gtI (xIxM (eVar 0) (eC (.int 2))) (eC (.int 0))) (seqF (sSet 4 (xOp modD (xB intD (aC (xIxM (eVar 0) (eC (.int 2))) (aN))) (eVar 1))) (seqF (sSetM pHide (eVar 0) (eC (.int 2)) (xOp fdivD (xIxM (eVar 0) (eC (.int 2))) (eVar 1))) (sRet pHide (eVar 4)))) (sPass)) (seqF (sSetM pHide (eVar 0) (eC (.int 4)) (xOp addD (xIxM (eVar 0) (eC (.int 4))) (eC (.int 1)))) (seqF (sSet 2 (xOp modD (xB intD (aC (xOp mulD (xB intD (aC (xOp addD (xIxM (eVar 0) (eC (.int 3))) (xOp mulD (eC (.int 7919)) (xIxM (eVar 0) (eC (.int 4))))) (aN))) (eC (.int 48271))) (aN))) (eC (.int 2147483647)))) (seqF (sSet 2 (xOp modD (xB intD (aC (xOp mulD (eVar 2) (xOp addD (xOp fdivD (eVar 2) (eC (.int 1009))) (eC (.int 69621)))) (aN))) (eC (.int 2147483647)))) (seqF (sSet 2 (xOp modD (xB intD (aC (xOp mulD (eVar 2) (xOp addD (xOp fdivD (eVar 2) (eC (.int 2003))) (eC (.int 40692)))) (aN))) (eC (.int 2147483399)))) (sRet pHide (xOp modD (xB intD (aC (xOp fdivD (eVar 2) (eC (.int 16))) (aN))) (eVar 1))))))))
noncomputable def m__law_draw : List D → M (MemS K cl) D := runF 5 b__law_draw
noncomputable def b__law_word_v4 : SEnv → M (MemS K cl) Fl := sRet pHide (xIx (xLst (aC (eC (.str "a")) (aC (eC (.str "b")) (aC (eC (.str "c")) (aC (eC (.str "ab")) (aC (eC (.str "ba")) (aC (eC (.str "zz")) (aN)))))))) (xCall m__law_draw (aC (eVar 0) (aC (eC (.int 6)) (aN)))))
noncomputable def m__law_word_v4 : List D → M (MemS K cl) D := runF 1 b__law_word_v4
noncomputable def b__law_guests : SEnv → M (MemS K cl) Fl := sRet pHide (xOp eqD (xIx (eVar 0) (eC (.int 1))) (xOp modD (xB intD (aC (xB lenD (aC (eVar 1) (aN))) (aN))) (eC (.int 2))))
noncomputable def m__law_guests : List D → M (MemS K cl) D := runF 2 b__law_guests
end
end LW
namespace LW
open PySem PySem.Spec PyProof.Rows L2 RZ DN
section
variable {K : PySem.W.Frag} {cl : CTab}
noncomputable def b__law_twins : SEnv → M (MemS K cl) Fl := seqF (sSet 2 (xIx (xLst (aC (xTup (aC (eC (.str "g")) (aN))) (aC (xTup (aC (eC (.str "g")) (aC (eC (.str "ha")) (aN)))) (aN)))) (xCall m__law_draw (aC (eVar 0) (aC (eC (.int 2)) (aN)))))) (seqF (sSet 3 (xLst (aC (xTup (aN)) (aC (xTup (aN)) (aC (xTup (aC (xCall m__law_word_v4 (aC (eVar 0) (aN))) (aN))) (aC (xTup (aC (xCall m__law_word_v4 (aC (eVar 0) (aN))) (aC (xCall m__law_word_v4 (aC (eVar 0) (aN))) (aN)))) (aN))))))) (seqF (sNewL 4) (seqF (sFor (aName 5) (iOf range1 (xOp addD (eC (.int 2)) (xCall m__law_draw (aC (eVar 0) (aC (xOp subD (eVar 1) (eC (.int 1))) (aN)))))) (seqF (sSet 6 (xIx (eVar 3) (xCall m__law_draw (aC (eVar 0) (aC (eC (.int 4)) (aN)))))) (seqF (sIf pHide (tCm eqD (xCall m__law_draw (aC (eVar 0) (aC (eC (.int 5)) (aN)))) (eC (.int 0))) (sSet 6 (xOp addD (eVar 6) (xTup (aC (xCall m__law_word_v4 (aC (eVar 0) (aN))) (aN))))) (sPass)) (sApp pHide yes 4 (xTup (aC (xIx (eVar 2) (xCall m__law_draw (aC (eVar 0) (aC (xB lenD (aC (eVar 2) (aN))) (aN))))) (aC (xCall m__law_draw (aC (eVar 0) (aC (eC (.int 2)) (aN)))) (aC (eVar 6) (aN))))))))) (sFrz 4 (sRet pHide (xB tupleD (aC (eVar 4) (aN))))))))
noncomputable def m__law_twins : List D → M (MemS K cl) D := runF 7 b__law_twins
noncomputable def b__law_are_pair_v3 : SEnv → M (MemS K cl) Fl := seqF (sIf pHide (tOo (tCm neD (xIx (eVar 0) (eC (.int 0))) (xIx (eVar 1) (eC (.int 0)))) (tCm eqD (xIx (eVar 0) (eC (.int 1))) (xIx (eVar 1) (eC (.int 1))))) (sRet pHide (eC (.bl false))) (sPass)) (seqF (sIf pHide (tCm eqD (xIx (eVar 0) (eC (.int 2))) (xIx (eVar 1) (eC (.int 2)))) (sRet pHide (eC (.bl true))) (sPass)) (seqF (sFor (aTup (aCons (aName 2) (aCons (aName 3) (aNil)))) (iOf anyI (xLst (aC (xTup (aC (eVar 0) (aC (eVar 1) (aN)))) (aC (xTup (aC (eVar 1) (aC (eVar 0) (aN)))) (aN))))) (sIf pHide (tAn (tCm eqD (xB lenD (aC (xIx (eVar 2) (eC (.int 2))) (aN))) (xOp addD (xB lenD (aC (xIx (eVar 3) (eC (.int 2))) (aN))) (eC (.int 1)))) (tCm eqD (xSl (xIx (eVar 2) (eC (.int 2))) (oN) (oS (xUn negD (eC (.int 1))))) (xIx (eVar 3) (eC (.int 2))))) (sRet pHide (xOp neD (xOp modD (xB intD (aC (xB lenD (aC (xIx (eVar 3) (eC (.int 2))) (aN))) (aN))) (eC (.int 2))) (xIx (eVar 2) (eC (.int 1))))) (sPass))) (sRet pHide (eC (.bl false)))))
noncomputable def m__law_are_pair_v3 : List D → M (MemS K cl) D := runF 4 b__law_are_pair_v3
noncomputable def b__law_pairing_v2 : SEnv → M (MemS K cl) Fl := seqF (sNewL 2) (seqF (sFor (aName 3) (iOf range1 (xB lenD (aC (eVar 1) (aN)))) (sOwnAdd 2 (xLc [8] (aName 8) (tTr (xCall m__law_are_pair_v3 (aC (xIx (eVar 1) (eVar 3)) (aC (xIx (eVar 1) (eVar 8)) (aN))))) (xTup (aC (eVar 3) (aC (eVar 8) (aN)))) (iOf2 range2 (xOp addD (eVar 3) (eC (.int 1))) (xB lenD (aC (eVar 1) (aN))))))) (seqF (sNewL 4) (seqF (sSet 5 (xLst (aN))) (seqF (sForS pAll (aName 6) (xB lenD (aC (eVar 2) (aN))) (seqF (sPopO pAll D.imm 7 2 popAtG (aC (xCall m__law_draw (aC (eVar 0) (aC (xB lenD (aC (eVar 2) (aN))) (aN)))) (aN))) (sIf pHide (tAn (tCm notInK (xIx (eVar 7) (eC (.int 0))) (eVar 5)) (tAn (tCm notInK (xIx (eVar 7) (eC (.int 1))) (eVar 5)) (tCm gtI (xCall m__law_draw (aC (eVar 0) (aC (eC (.int 5)) (aN)))) (eC (.int 0))))) (seqF (sApp pHide yes 4 (eVar 7)) (sSet 5 (xOp addD (eVar 5) (xB listD (aC (eVar 7) (aN)))))) (sPass)))) (sFrz 4 (sRet pHide (xB tupleD (aC (xB sortedDD (aC (eVar 4) (aN))) (aN)))))))))
noncomputable def m__law_pairing_v2 : List D → M (MemS K cl) D := runF 9 b__law_pairing_v2
noncomputable def b__law_rows_v2 : SEnv → M (MemS K cl) Fl := seqF (sSet 2 (xB tupleD (aC (xLc [9] (aName 9) (tY) (xCall m__law_word_v4 (aC (eVar 0) (aN))) (iOf range1 (xCall m__law_draw (aC (eVar 0) (aC (eC (.int 4)) (aN)))))) (aN)))) (seqF (sNewL 3) (seqF (sFor (aTup (aCons (aName 4) (aCons (aName 5) (aCons (aName 6) (aNil))))) (iOf anyI (eVar 1)) (seqF (sSet 7 (xOp addD (eVar 6) (eVar 2))) (seqF (sSet 8 (xCall m__law_draw (aC (eVar 0) (aC (eC (.int 4)) (aN))))) (seqF (sIf pHide (tCm eqD (eVar 8) (eC (.int 0))) (sSet 7 (xOp addD (eVar 7) (xTup (aC (xCall m__law_word_v4 (aC (eVar 0) (aN))) (aN))))) (sIf pHide (tCm eqD (eVar 8) (eC (.int 1))) (sSet 7 (xOp addD (eVar 6) (xB tupleD (aC (xLc [9] (aName 9) (tY) (xCall m__law_word_v4 (aC (eVar 0) (aN))) (iOf range1 (xCall m__law_draw (aC (eVar 0) (aC (eC (.int 4)) (aN)))))) (aN))))) (sPass))) (sApp pHide yes 3 (eVar 7)))))) (sFrz 3 (sRet pHide (xB tupleD (aC (eVar 3) (aN)))))))
noncomputable def m__law_rows_v2 : List D → M (MemS K cl) D := runF 10 b__law_rows_v2
noncomputable def b__law_is_pairing_v3 : SEnv → M (MemS K cl) Fl := seqF (sIf pHide (tNt (tTr (xUn (isD "tuple") (eVar 1)))) (sRet pHide (eC (.bl false))) (sPass)) (seqF (sNewL 2) (seqF (sFor (aName 3) (iOf anyI (eVar 1)) (seqF (sIf pHide (tOo (tNt (tTr (xUn (isD "tuple") (eVar 3)))) (tCm neD (xB lenD (aC (eVar 3) (aN))) (eC (.int 2)))) (sRet pHide (eC (.bl false))) (sPass)) (seqF (sFor (aName 4) (iOf anyI (eVar 3)) (seqF (sIf pAll (tOo (tTr (xUn (isD "bool") (eVar 4))) (tOo (tNt (tTr (xUn (isD "int") (eVar 4)))) (tOo (tNt (tCh leI ltDT (eC (.int 0)) (eVar 4) (xB lenD (aC (eVar 0) (aN))))) (tCm inK (eVar 4) (eVar 2))))) (sRet pHide (eC (.bl false))) (sPass)) (sApp pHide yes 2 (eVar 4)))) (sIf pHide (tOo (tNt (tCm ltDT (xIx (eVar 3) (eC (.int 0))) (xIx (eVar 3) (eC (.int 1))))) (tNt (tTr (xCall m__law_are_pair_v3 (aC (xIx (eVar 0) (xIx (eVar 3) (eC (.int 0)))) (aC (xIx (eVar 0) (xIx (eVar 3) (eC (.int 1)))) (aN))))))) (sRet pHide (eC (.bl false))) (sPass))))) (sRet pHide (xB allD (aC (xLc [5] (aName 5) (tY) (xOp ltDT (xIx (eVar 1) (xOp subD (eVar 5) (eC (.int 1)))) (xIx (eVar 1) (eVar 5))) (iOf2 range2 (eC (.int 1)) (xB lenD (aC (eVar 1) (aN))))) (aN))))))
noncomputable def m__law_is_pairing_v3 : List D → M (MemS K cl) D := runF 6 b__law_is_pairing_v3
noncomputable def b__law_bent_pairing : SEnv → M (MemS K cl) Fl := seqF (sOwn 3 (xFl (xLst0 (eVar 2)))) (seqF (sSet 4 (xCall m__law_draw (aC (eVar 0) (aC (xB lenD (aC (eVar 1) (aN))) (aN))))) (seqF (sSet 5 (xCall m__law_draw (aC (eVar 0) (aC (xB lenD (aC (eVar 1) (aN))) (aN))))) (seqF (sSet 6 (xLst (aC (xTup (aC (eVar 4) (aC (eVar 5) (aN)))) (aC (xTup (aC (eVar 4) (aC (xB lenD (aC (eVar 1) (aN))) (aN)))) (aC (xTup (aC (eC (.bl true)) (aC (eC (.int 1)) (aN)))) (aC (xTup (aC (xUn negD (eC (.int 1))) (aC (eVar 4) (aN)))) (aC (xTup (aC (eVar 4) (aN))) (aC (xLst (aC (eVar 4) (aC (eVar 5) (aN)))) (aC (eC .non) (aC (xTup (aC (eVar 4) (aC (eVar 5) (aC (eVar 4) (aN))))) (aC (eC (.str "01")) (aN)))))))))))) (seqF (sInsO 3 (xCall m__law_draw (aC (eVar 0) (aC (xOp addD (xB lenD (aC (eVar 3) (aN))) (eC (.int 1))) (aN)))) (xIx (eVar 6) (xCall m__law_draw (aC (eVar 0) (aC (eC (.int 9)) (aN)))))) (sFrz 3 (seqF (sSet 7 (xLst (aC (xB tupleD (aC (eVar 3) (aN))) (aC (xB tupleD (aC (eVar 3) (aN))) (aC (xB tupleD (aC (eVar 3) (aN))) (aC (xRev (eVar 2)) (aC (xB listD (aC (eVar 2) (aN))) (aC (eC .non) (aC (eC (.int 5)) (aC (xOp addD (eVar 2) (xSl (eVar 2) (oN) (oS (eC (.int 1))))) (aN))))))))))) (sRet pHide (xIx (eVar 7) (xCall m__law_draw (aC (eVar 0) (aC (eC (.int 8)) (aN))))))))))))
noncomputable def m__law_bent_pairing : List D → M (MemS K cl) D := runF 8 b__law_bent_pairing
noncomputable def b__law_bent_rows : SEnv → M (MemS K cl) Fl := seqF (sSet 2 (xCall m__law_draw (aC (eVar 0) (aC (xB lenD (aC (eVar 1) (aN))) (aN))))) (seqF (sSet 3 (xIx (eVar 1) (eVar 2))) (seqF (sOwn 4 (xFl (xLst (aC (xSl (eVar 3) (oS (eC (.int 1))) (oN)) (aC (xOp addD (xTup (aC (eC (.str "x")) (aN))) (eVar 3)) (aC (xB listD (aC (eVar 3) (aN))) (aC (xOp addD (eVar 3) (xTup (aC (eC (.str "")) (aN)))) (aC (xOp addD (eVar 3) (xTup (aC (eC (.int 5)) (aN)))) (aC (eC .non) (aC (xOp addD (eVar 3) (xTup (aC (eC (.str "A")) (aN)))) (aN))))))))))) (seqF (sApp pHide yes 4 (xOp addD (eVar 3) (xOp mulD (xTup (aC (eC (.str "a")) (aN))) (xOp subD (eC (.int 61)) (xB lenD (aC (eVar 3) (aN))))))) (sFrz 4 (seqF (sSet 5 (xLst (aC (xOp addD (xOp addD (xSl (eVar 1) (oN) (oS (eVar 2))) (xTup (aC (xIx (eVar 4) (xCall m__law_draw (aC (eVar 0) (aC (eC (.int 8)) (aN))))) (aN)))) (xSl (eVar 1) (oS (xOp addD (eVar 2) (eC (.int 1)))) (oN))) (aC (xSl (eVar 1) (oS (eC (.int 1))) (oN)) (aC (xOp addD (eVar 1) (xTup (aC (xTup (aN)) (aN)))) (aC (xB listD (aC (eVar 1) (aN))) (aC (eC .non) (aC (xTup (aN)) (aN))))))))) (sRet pHide (xIf (tCm eqD (xCall m__law_draw (aC (eVar 0) (aC (eC (.int 2)) (aN)))) (eC (.int 0))) (xIx (eVar 5) (xB min2D (aC (eC (.int 5)) (aC (xCall m__law_draw (aC (eVar 0) (aC (eC (.int 9)) (aN)))) (aN))))) (xIx (eVar 5) (eC (.int 0))))))))))
noncomputable def m__law_bent_rows : List D → M (MemS K cl) D := runF 6 b__law_bent_rows
noncomputable def b__law_are_rows : SEnv → M (MemS K cl) Fl := seqF (sIf pHide (tOo (tNt (tTr (xUn (isD "tuple") (eVar 1)))) (tCm neD (xB lenD (aC (eVar 1) (aN))) (xB lenD (aC (eVar 0) (aN))))) (sRet pHide (eC (.bl false))) (sPass)) (seqF (sFor (aName 2) (iOf range1 (xB lenD (aC (eVar 0) (aN)))) (seqF (sSet 3 (xIx (eVar 1) (eVar 2))) (seqF (sIf pHide (tOo (tNt (tTr (xUn (isD "tuple") (eVar 3)))) (tOo (tCm gtI (xB lenD (aC (eVar 3) (aN))) (eC (.int 60))) (tCm neD (xSl (eVar 3) (oN) (oS (xB lenD (aC (xIx (xIx (eVar 0) (eVar 2)) (eC (.int 2))) (aN))))) (xIx (xIx (eVar 0) (eVar 2)) (eC (.int 2)))))) (sRet pHide (eC (.bl false))) (sPass)) (sFor (aName 4) (iOf anyI (eVar 3)) (seqF (sIf pHide (tOo (tNt (tTr (xUn (isD "str") (eVar 4)))) (tNt (tCh leI leI (eC (.int 1)) (xB lenD (aC (eVar 4) (aN))) (eC (.int 20))))) (sRet pHide (eC (.bl false))) (sPass)) (sIf pHide (tNt (tTr (xB allD (aC (xLc [5] (aName 5) (tY) (xOp inK (eVar 5) (eC (.str "abcdefghijklmnopqrstuvwxyz"))) (iOf anyI (eVar 4))) (aN))))) (sRet pHide (eC (.bl false))) (sPass))))))) (sRet pHide (eC (.bl true))))
noncomputable def m__law_are_rows : List D → M (MemS K cl) D := runF 6 b__law_are_rows
noncomputable def b_are_rows : SEnv → M (MemS K cl) Fl := seqF (sIf pHide (tOo (tNt (tTr (xUn (isD "tuple") (eVar 1)))) (tOo (tCm neD (xB lenD (aC (eVar 1) (aN))) (xB lenD (aC (xFlds ["Hall", "RawHall"] 0 (eVar 0)) (aN)))) (tNt (tTr (xB allD (aC (xLc [2] (aName 2) (tY) (xCall m_is_row (aC (eVar 2) (aN))) (iOf anyI (eVar 1))) (aN))))))) (sRet pHide (eC (.bl false))) (sPass)) (sRet pHide (xB allD (aC (xLc [2, 3] (aTup (aCons (aName 2) (aCons (aName 3) (aNil)))) (tY) (xOp eqD (xSl (eVar 2) (oN) (oS (xB lenD (aC (eVar 3) (aN))))) (eVar 3)) (iOf2 zipI (eVar 1) (xCall m_begun_rows (aC (eVar 0) (aN))))) (aN))))
noncomputable def m_are_rows : List D → M (MemS K cl) D := runF 4 b_are_rows
noncomputable def b_check_rows_v2 : SEnv → M (MemS K cl) Fl := sIf pHide (tNt (tTr (xCall m_are_rows (aC (eVar 0) (aC (eVar 1) (aN)))))) (sRaise "NoRows") (sPass)
noncomputable def m_check_rows_v2 : List D → M (MemS K cl) D := runF 2 b_check_rows_v2
noncomputable def b_copied : SEnv → M (MemS K cl) Fl := seqF (sIf pHide (tNt (tTr (xCall m_is_pairing (aC (eVar 0) (aC (eVar 1) (aN)))))) (sRaise "NoPairing") (sPass)) (seqF (sEx pHide (xCall m_check_rows_v2 (aC (eVar 0) (aC (eVar 2) (aN))))) (seqF (sSet 3 (xCall m_partners (aC (eVar 1) (aN)))) (seqF (sFor (aName 4) (iOf anyI (xB sortedDD (aC (xListA (eVar 3)) (aN)))) (seqF (sSet 5 (xIx (eVar 2) (eVar 4))) (seqF (sSet 6 (xIx (eVar 2) (xIx (eVar 3) (eVar 4)))) (sIf pHide (tAn (tTr (xCall m_guest_moves (aC (xIx (xFlds ["Hall", "RawHall"] 0 (eVar 0)) (eVar 4)) (aC (eVar 5) (aN))))) (tAn (tCm eqD (xB lenD (aC (eVar 6) (aN))) (xOp addD (xB lenD (aC (eVar 5) (aN))) (eC (.int 1)))) (tCm eqD (xSl (eVar 6) (oN) (oS (xUn negD (eC (.int 1))))) (eVar 5)))) (sRet pHide (xTup (aC (eVar 4) (aC (xIx (eVar 6) (xUn negD (eC (.int 1)))) (aN))))) (sPass))))) (sRet pHide (eC .non)))))
noncomputable def m_copied : List D → M (MemS K cl) D := runF 7 b_copied
noncomputable def b__law_asked_v2 : SEnv → M (MemS K cl) Fl := seqF (sSet 3 (xTup (aC (eC (.str "none")) (aN)))) (seqF (sTryAs 4 (xSet 3 (xTup (aC (eC (.str "told")) (aC (xCall m_copied (aC (eVar 0) (aC (eVar 1) (aC (eVar 2) (aN))))) (aN))))) t_all (fun xe => seqF (sSet 3 (xTup (aC (eC (.str "odd")) (aN)))) (fun ρ => M.bind ((tTr (xIsE xe (t_of "NoPairing"))) (seeE pHide ρ)) fun k => if k = true then (sSet 3 (xTup (aC (eC (.str "pairing")) (aN)))) ρ else (fun ρ => M.bind ((tTr (xIsE xe (t_of "NoRows"))) (seeE pHide ρ)) fun k => if k = true then (sSet 3 (xTup (aC (eC (.str "rows")) (aN)))) ρ else (sPass) ρ) ρ))) (sRet pHide (eVar 3)))
noncomputable def m__law_asked_v2 : List D → M (MemS K cl) D := runF 5 b__law_asked_v2
noncomputable def b__law_copied : SEnv → M (MemS K cl) Fl := seqF (sNewD 3) (seqF (sFor (aTup (aCons (aName 5) (aCons (aName 6) (aNil)))) (iOf anyI (eVar 1)) (seqF (sPut pHide yes 3 (eVar 5) (eVar 6)) (sPut pHide yes 3 (eVar 6) (eVar 5)))) (sFrz 3 (seqF (sFor (aName 4) (iOf anyI (xB sortedDD (aC (xListA (eVar 3)) (aN)))) (seqF (sSet 6 (xIx (eVar 2) (xIx (eVar 3) (eVar 4)))) (sIf pHide (tAn (tTr (xCall m__law_guests (aC (xIx (eVar 0) (eVar 4)) (aC (xIx (eVar 2) (eVar 4)) (aN))))) (tAn (tCm eqD (xB lenD (aC (eVar 6) (aN))) (xOp addD (xB lenD (aC (xIx (eVar 2) (eVar 4)) (aN))) (eC (.int 1)))) (tCm eqD (xSl (eVar 6) (oN) (oS (xUn negD (eC (.int 1))))) (xIx (eVar 2) (eVar 4))))) (sRet pHide (xTup (aC (eVar 4) (aC (xIx (eVar 6) (xUn negD (eC (.int 1)))) (aN))))) (sPass)))) (sRet pHide (eC .non)))))
noncomputable def m__law_copied : List D → M (MemS K cl) D := runF 7 b__law_copied
noncomputable def b_L45_law_f1 : SEnv → M (MemS K cl) Fl := seqF (sSet 5 (xCall m__law_pairing_v2 (aC (eVar 1) (aC (eVar 2) (aN))))) (seqF (sSet 6 (xCall m__law_rows_v2 (aC (eVar 1) (aC (eVar 2) (aN))))) (seqF (sIf pHide (tCm eqD (xCall m__law_draw (aC (eVar 1) (aC (eC (.int 4)) (aN)))) (eC (.int 0))) (sSet 5 (xCall m__law_bent_pairing (aC (eVar 1) (aC (eVar 2) (aC (eVar 5) (aN)))))) (sPass)) (seqF (sIf pHide (tCm eqD (xCall m__law_draw (aC (eVar 1) (aC (eC (.int 4)) (aN)))) (eC (.int 0))) (sSet 6 (xCall m__law_bent_rows (aC (eVar 1) (aC (eVar 6) (aN))))) (sPass)) (seqF (sSet 7 (xTup (aC (eC (.str "pairing")) (aN)))) (seqF (sIf pHide (tTr (xCall m__law_is_pairing_v3 (aC (eVar 2) (aC (eVar 5) (aN))))) (seqF (sSet 7 (xTup (aC (eC (.str "rows")) (aN)))) (sIf pHide (tTr (xCall m__law_are_rows (aC (eVar 2) (aC (eVar 6) (aN))))) (sSet 7 (xTup (aC (eC (.str "told")) (aC (xCall m__law_copied (aC (eVar 2) (aC (eVar 5) (aC (eVar 6) (aN))))) (aN))))) (sPass))) (sPass)) (sIf pHide (tCm neD (xCall m__law_asked_v2 (aC (eVar 3) (aC (eVar 5) (aC (eVar 6) (aN))))) (eVar 7)) (sRet pHide (eC (.bl false))) (sPass)))))))
noncomputable def b_L45_law : SEnv → M (MemS K cl) Fl := seqF (sSet 1 (xCall m__law_hand (aC (eVar 0) (aN)))) (seqF (sSet 2 (xCall m__law_twins (aC (eVar 1) (aC (eC (.int 6)) (aN))))) (seqF (sSet 3 (xMake "Hall" 2 i_Hall (aC (eVar 2) (aN)))) (seqF (sFor (aName 4) (iOf range1 (eC (.int 10))) (b_L45_law_f1)) (sRet pHide (eC (.bl true))))))
end
end LW
namespace LW
open PySem PySem.Spec PyProof.Rows L2 RZ DN
def Src (k : Nat) (s : Mem) : Prop := WF s ∧ ∃ c f z n : Int, s.m k = some (.lst [.int c, .int f, .int z, .int n])
theorem Src.ext {k : Nat} {s s' : Mem} (h : Src k s) (x : Ex0 s s') : Src k s' := by
  obtain ⟨_, c, f, z, n, e⟩ := h
  exact ⟨x.wf, c, f, z, n, x.old _ _ e⟩
theorem Src.wf {k : Nat} {s : Mem} (h : Src k s) : WF s := h.1
theorem Src.set {k : Nat} {s : Mem} (h : Src k s) (c f z n : Int) : Src k (updM s k (some (.lst [.int c, .int f, .int z, .int n]))) := by
  obtain ⟨w, c', f', z', n', e⟩ := h
  refine ⟨fun j hj => ?_, c, f, z, n, ?_⟩
  · have hk := w.lt e
    have hj : s.n ≤ j := hj
    show (if j = k then _ else s.m j) = none
    rw [if_neg (by omega), w j hj]
  · show (if k = k then _ else s.m k) = _
    rw [if_pos rfl]
end LW
namespace LW
open PySem PySem.Spec PyProof.Rows L2 RZ DN
def Hn (k : Nat) (s : Mem) : Prop := WF s ∧ ∃ (kc : Nat) (cs : List Int) (a : Nat) (z c n : Int), kc ≠ k ∧ s.m kc = some (.lst (cs.map .int)) ∧ s.m k = some (.lst [.ref kc, .int (a : Int), .int z, .int c, .int n])
theorem Hn.ext {k : Nat} {s s' : Mem} (h : Hn k s) (x : Ex0 s s') : Hn k s' := by
  obtain ⟨_, kc, cs, a, z, c, n, e0, e1, e2⟩ := h
  exact ⟨x.wf, kc, cs, a, z, c, n, e0, x.old _ _ e1, x.old _ _ e2⟩
theorem Hn.wf {k : Nat} {s : Mem} (h : Hn k s) : WF s := h.1
theorem upd_self {k : Nat} {s : Mem} {d : D} : (updM s k (some d)).m k = some d := if_pos rfl
theorem upd_other {k j : Nat} {s : Mem} {o : Option D} (h : j ≠ k) : (updM s k o).m j = s.m j := if_neg h
theorem upd_wf {k : Nat} {s : Mem} {d e : D} (w : WF s) (h : s.m k = some e) : WF (updM s k (some d)) := fun j hj => by
  have hk := w.lt h
  have hj : s.n ≤ j := hj
  show (if j = k then _ else s.m j) = none
  rw [if_neg (by omega), w j hj]
section
variable {K : PySem.W.Frag} {cl : CTab}
theorem set_hand {k : Nat} {s : Mem} {x0 x1 x2 x3 x4 : D} {i : Nat} {d : D} {R : Unit → Mem → Prop} (h : s.m k = some (.lst [x0, x1, x2, x3, x4])) (hi : i < 5) (im : d.imm = true) :
    wp (setM (K := K) (cl := cl) (.ref k) (.int (i : Int)) d) R s ↔ R () (updM s k (some (.lst ([x0, x1, x2, x3, x4].set i d)))) := by
  have : ixN [x0, x1, x2, x3, x4].length (i : Int) = some i := by
    unfold ixN
    simp
    omega
  simp only [wp, setM, h, this, im]
  rfl
theorem wp_draw {k : Nat} {n : Int} {R : D → Mem → Prop} {s : Mem} (hs : Hn k s) (h1 : 1 ≤ n) (h2 : n ≤ 1073741823) (q : ∀ j s', 0 ≤ j → j < n → Hn k s' → R (.int j) s') : wp (m__law_draw (K := K) (cl := cl) [.ref k, .int n]) R s := by
  obtain ⟨w, kc, cs, a, z, c, m, hne, ec, e⟩ := hs
  have mod0 : ∀ x : Int, 0 ≤ x % n ∧ x % n < n := fun x => ⟨Int.emod_nonneg _ (by omega), Int.emod_lt_of_pos _ (by omega)⟩
  have hn0 : 0 < n := by omega
  have hn1 : n < 1073741824 := by omega
  have r : ∀ {s : Mem} {x0 x1 x2 x3 x4 d : D} {i : Nat} {R : D → Mem → Prop}, s.m k = some (.lst [x0, x1, x2, x3, x4]) → [x0, x1, x2, x3, x4][i]? = some d → (wp (ixM (K := K) (cl := cl) (.ref k) (.int (i : Int))) R s ↔ R d s) := fun {s x0 x1 x2 x3 x4 d i R} h hi => wp_ixr h (by
    have hl : i < 5 := by
      by_cases h : i < 5
      · exact h
      · rw [List.getElem?_eq_none (by simp; omega)] at hi; cases hi
    have : ixN [x0, x1, x2, x3, x4].length (i : Int) = some i := by
      unfold ixN
      simp
      omega
    unfold L2.atI
    rw [this]
    exact hi)
  have r0 : ∀ {s : Mem} {x0 x1 x2 x3 x4 : D} {R : D → Mem → Prop}, s.m k = some (.lst [x0, x1, x2, x3, x4]) → (wp (ixM (K := K) (cl := cl) (.ref k) (.int 0)) R s ↔ R x0 s) := fun h => r (i := 0) h rfl
  have r1 : ∀ {s : Mem} {x0 x1 x2 x3 x4 : D} {R : D → Mem → Prop}, s.m k = some (.lst [x0, x1, x2, x3, x4]) → (wp (ixM (K := K) (cl := cl) (.ref k) (.int 1)) R s ↔ R x1 s) := fun h => r (i := 1) h rfl
  have r2 : ∀ {s : Mem} {x0 x1 x2 x3 x4 : D} {R : D → Mem → Prop}, s.m k = some (.lst [x0, x1, x2, x3, x4]) → (wp (ixM (K := K) (cl := cl) (.ref k) (.int 2)) R s ↔ R x2 s) := fun h => r (i := 2) h rfl
  have r3 : ∀ {s : Mem} {x0 x1 x2 x3 x4 : D} {R : D → Mem → Prop}, s.m k = some (.lst [x0, x1, x2, x3, x4]) → (wp (ixM (K := K) (cl := cl) (.ref k) (.int 3)) R s ↔ R x3 s) := fun h => r (i := 3) h rfl
  have r4 : ∀ {s : Mem} {x0 x1 x2 x3 x4 : D} {R : D → Mem → Prop}, s.m k = some (.lst [x0, x1, x2, x3, x4]) → (wp (ixM (K := K) (cl := cl) (.ref k) (.int 4)) R s ↔ R x4 s) := fun h => r (i := 4) h rfl
  have u1 : ∀ {s : Mem} {x0 x1 x2 x3 x4 : D} {x : Int} {R : Unit → Mem → Prop}, s.m k = some (.lst [x0, x1, x2, x3, x4]) → (wp (setM (K := K) (cl := cl) (.ref k) (.int 1) (.int x)) R s ↔ R () (updM s k (some (.lst [x0, .int x, x2, x3, x4])))) := fun h => set_hand (i := 1) h (by omega) rfl
  have u2 : ∀ {s : Mem} {x0 x1 x2 x3 x4 : D} {x : Int} {R : Unit → Mem → Prop}, s.m k = some (.lst [x0, x1, x2, x3, x4]) → (wp (setM (K := K) (cl := cl) (.ref k) (.int 2) (.int x)) R s ↔ R () (updM s k (some (.lst [x0, x1, .int x, x3, x4])))) := fun h => set_hand (i := 2) h (by omega) rfl
  have u3 : ∀ {s : Mem} {x0 x1 x2 x3 x4 : D} {x : Int} {R : Unit → Mem → Prop}, s.m k = some (.lst [x0, x1, x2, x3, x4]) → (wp (setM (K := K) (cl := cl) (.ref k) (.int 3) (.int x)) R s ↔ R () (updM s k (some (.lst [x0, x1, x2, .int x, x4])))) := fun h => set_hand (i := 3) h (by omega) rfl
  have u4 : ∀ {s : Mem} {x0 x1 x2 x3 x4 : D} {x : Int} {R : Unit → Mem → Prop}, s.m k = some (.lst [x0, x1, x2, x3, x4]) → (wp (setM (K := K) (cl := cl) (.ref k) (.int 4) (.int x)) R s ↔ R () (updM s k (some (.lst [x0, x1, x2, x3, .int x])))) := fun h => set_hand (i := 4) h (by omega) rfl
  have rc : ∀ {s : Mem} {i : Nat} {R : D → Mem → Prop}, s.m kc = some (.lst (cs.map .int)) → ∀ h : i < cs.length, (wp (ixM (K := K) (cl := cl) (.ref kc) (.int (i : Int))) R s ↔ R (.int cs[i]) s) := fun h hi => wp_ixr h (by
    unfold L2.atI ixN
    simp [hi])
  have lc : ∀ {s : Mem} {R : D → Mem → Prop}, s.m kc = some (.lst (cs.map .int)) → (wp (lenM (K := K) (cl := cl) (.ref kc)) R s ↔ R (.int (cs.length : Int)) s) := fun h => by rw [wp_lenr h, List.length_map]
  have cut : ∀ (s' : Mem), Hn k s' ↔ Hn k s' := fun _ => Iff.rfl
  have mk : ∀ {s : Mem} {a : Nat} {z c n z' c' n' : Int} {a' : Nat}, WF s → s.m kc = some (.lst (cs.map .int)) → s.m k = some (.lst [.ref kc, .int (a : Int), .int z, .int c, .int n]) → (WF (updM s k (some (.lst [.ref kc, .int (a' : Int), .int z', .int c', .int n']))) ∧ (updM s k (some (.lst [.ref kc, .int (a' : Int), .int z', .int c', .int n']))).m kc = some (.lst (cs.map .int))) := fun w h1 h2 =>
    ⟨upd_wf w h2, by rw [upd_other hne]; exact h1⟩
  let I : Mem → Prop := fun s => WF s ∧ s.m kc = some (.lst (cs.map .int)) ∧ ∃ (a : Nat) (z c n : Int), s.m k = some (.lst [.ref kc, .int (a : Int), .int z, .int c, .int n])
  have IH : ∀ {s : Mem}, I s → Hn k s := fun ⟨w, h1, a, z, c, n, h2⟩ => ⟨w, kc, cs, a, z, c, n, hne, h1, h2⟩
  have Iu : ∀ {s : Mem} {a : Nat} {z c n z' c' n' : Int} {a' : Nat}, WF s → s.m kc = some (.lst (cs.map .int)) → s.m k = some (.lst [.ref kc, .int (a : Int), .int z, .int c, .int n]) → I (updM s k (some (.lst [.ref kc, .int (a' : Int), .int z', .int c', .int n']))) := fun w h1 h2 =>
    ⟨upd_wf w h2, by rw [upd_other hne]; exact h1, _, _, _, _, upd_self⟩
  simp only [m__law_draw, b__law_draw, s_runF, startE]
  refine wp_bind (wp_cut (fun ρ s' => I s' ∧ ∃ x3, ρ = [.val (.ref k), .val (.int n), .no, x3, .no]) ?_ ?_)
  · by_cases hz : z = 0
    · subst hz
      by_cases hl : a < cs.length
      · have hl' : (a : Int) < (cs.length : Int) := by omega
        have k1 : ∀ x y : Int, (updM s k (some (.lst [.ref kc, .int x, .int 0, .int y, .int m]))).m k = _ := fun x y => upd_self
        have j3 : ∀ v y : Int, I (updM s k (some (.lst [.ref kc, .int ((a : Int) + 1), .int v, .int y, .int m]))) := fun v y => by
          have := Iu (z' := v) (c' := y) (n' := m) (a' := a + 1) w ec e
          push_cast at this
          exact this
        have rcc := fun R => rc (s := s) (i := a) (R := R) ec hl
        generalize hx : cs[a] = x at rcc
        by_cases hb : (1000000000000000000 : Int) ≤ x
        · simp [r2 e, r1 e, r0 e, lc ec, hl, hl', rcc, u1 e, r3 (k1 _ _), u3 (k1 _ _), u2 (k1 _ _), hb]
          exact j3 _ _
        · simp [r2 e, r1 e, r0 e, lc ec, hl, hl', rcc, u1 e, r3 (k1 _ _), u3 (k1 _ _), hb]
          exact j3 _ _
      · have hl' : ¬ (a : Int) < (cs.length : Int) := by omega
        simp [r2 e, r1 e, r0 e, lc ec, hl, hl']
        exact ⟨w, ec, _, _, _, _, e⟩
    · simp [r2 e, hz]
      exact ⟨w, ec, _, _, _, _, e⟩
  clear e ec w a z c m
  rintro ρ s1 ⟨⟨w, ec, a, z, c, m, e⟩, x3, rfl⟩
  refine wp_cut (fun ρ s' => I s' ∧ ∃ x3 x4, ρ = [.val (.ref k), .val (.int n), .no, x3, x4]) ?_ ?_
  · by_cases hz : 0 < z
    · simp [r2 e, hz, hn0, hn1, u2 e]
      exact q _ _ (mod0 _).1 (mod0 _).2 (IH (Iu w ec e))
    · simp [r2 e, hz]
      exact ⟨w, ec, _, _, _, _, e⟩
  clear e ec w a z c m
  rintro ρ s2 ⟨⟨w, ec, a, z, c, m, e⟩, x3, x4, rfl⟩
  refine wp_cut (fun ρ s' => I s' ∧ ρ = [.val (.ref k), .val (.int n), .no, x3, x4]) ?_ ?_
  · simp [r4 e, u4 e]
    exact Iu w ec e
  clear e ec w a z c m
  rintro ρ s3 ⟨⟨w, ec, a, z, c, m, e⟩, rfl⟩
  simp [r3 e, r4 e, hn0, hn1]
  have hx : ∀ x : Int, 0 ≤ x % 2147483647 ∧ x % 2147483647 < 2147483647 := fun x => ⟨Int.emod_nonneg _ (by omega), Int.emod_lt_of_pos _ (by omega)⟩
  have hx1 := hx ((c + 7919 * m) * 48271)
  generalize (c + 7919 * m) * 48271 % 2147483647 = x at hx1
  rw [if_pos (.inl (by omega)), wp_lift_iff]
  simp
  have hx2 := hx (x * (x / 1009 + 69621))
  generalize x * (x / 1009 + 69621) % 2147483647 = y at hx2
  rw [if_pos (.inl (by omega)), wp_lift_iff]
  simp [hn0, hn1]
  exact q _ _ (mod0 _).1 (mod0 _).2 (IH ⟨w, ec, _, _, _, _, e⟩)
theorem wp_hand {ns : List Int} {R : D → Mem → Prop} {s : Mem} (w : WF s) (hl : ns.length ≤ 63) (q : ∀ k s', Hn k s' → Ex0 s s' → R (.ref k) s') : wp (m__law_hand (K := K) (cl := cl) [.lst (ns.map .int)]) R s := by
  have c1 : slD (.lst (ns.map .int)) none (some 63) = some (.lst (ns.map .int)) := by
    show some (D.lst (cutL (ns.map .int) none (some 63))) = _
    congr 2
    unfold cutL
    have : (63 : Int) = ((63 : Nat) : Int) := rfl
    rw [this, HT.sIx_nat, HT.sIx_none]
    rw [List.take_of_length_le (by simp; omega)]
    rfl
  have ab : ∀ c : Int, absD [.int c] = some (.int (c.natAbs : Int)) := fun c => by
    simp [absD]
    split <;> omega
  simp only [m__law_hand, b__law_hand, s_runF, startE]
  have cc : compL (B := MemS K cl) (compF (aName 2) tY (xB absD (aC (xB DN.intD (aC (eVar 2) aN)) aN)) [some (.lst (ns.map .int)), none, none]) (ns.map .int) = M.pure ((ns.map fun c => (c.natAbs : Int)).map .int) := by
    rw [compL_map (g := D.int) (k := fun c => .int (c.natAbs : Int)) (fun c hc => by simp [ab])]
    simp [Function.comp_def]
  have im : D.immL ((ns.map fun c => (c.natAbs : Int)).map D.int) = true := by
    induction (ns.map fun c => (c.natAbs : Int)) with
    | nil => rfl
    | cons x l ih => rw [List.map_cons, D.immL, ih]; rfl
  obtain ⟨cs, hcs⟩ : ∃ cs, cs = ns.map fun c => (c.natAbs : Int) := ⟨_, rfl⟩
  rw [← hcs] at cc im
  have lk : ∀ c z n : Int, (s.push (.lst (cs.map .int))).m s.n = some (.lst (cs.map .int)) := fun _ _ _ => if_pos rfl
  have e0 : (s.push (.lst (cs.map .int))).m s.n = some (.lst (cs.map .int)) := if_pos rfl
  have w1 : WF (s.push (.lst (cs.map .int))) := fun j hj => by
    have hj : s.n + 1 ≤ j := hj
    show (if j = s.n then _ else s.m j) = none
    rw [if_neg (by omega), w j (by omega)]
  have x1 : Ex0 s (s.push (.lst (cs.map .int))) := ⟨w1, fun j d e => by
    show (if j = s.n then _ else s.m j) = _
    rw [if_neg (by have := w.lt e; omega), e]⟩
  refine wp_bind (wp_cut (fun ρ s' => s' = s.push (.lst (cs.map .int)) ∧ ρ = [.val (.lst (ns.map .int)), .val (.ref s.n), .no]) ?_ ?_)
  · simp [c1, wipeE, setsE]
    rw [cc]
    simp
    rw [wp_ent (by simpa [D.memb] using im)]
    simp
  rintro ρ s' ⟨rfl, rfl⟩
  simp
  rw [wp_lenr e0]
  simp
  rw [wp_ent (by simp [D.memb, D.immL, D.imm])]
  obtain ⟨s1, h1⟩ : ∃ s1, s1 = s.push (.lst (cs.map .int)) := ⟨_, rfl⟩
  have w2 : WF (s1.push (.lst [.ref s.n, .int 0, .int 0, .int (1 + (cs.length : Int)), .int 0])) := fun j hj => by
    have hj : s1.n + 1 ≤ j := hj
    show (if j = s1.n then _ else s1.m j) = none
    rw [if_neg (by omega), h1, w1 j (by rw [← h1]; omega)]
  have x2 : Ex0 s1 (s1.push (.lst [.ref s.n, .int 0, .int 0, .int (1 + (cs.length : Int)), .int 0])) := ⟨w2, fun j d e => by
    show (if j = s1.n then _ else s1.m j) = _
    rw [if_neg (by have := (h1 ▸ w1 : WF s1).lt e; omega), e]⟩
  rw [← h1] at x1 e0 ⊢
  have n1 : s1.n = s.n + 1 := by rw [h1]; rfl
  refine q s1.n _ ⟨w2, s.n, cs, 0, 0, _, 0, by omega, x2.old _ _ e0, if_pos rfl⟩ (x1.trans x2)
end
end LW
namespace LW
open PySem PySem.Spec PyProof.Rows L2 RZ DN
section
variable {K : PySem.W.Frag} {cl : CTab}
theorem wp_guard {B : Sto} {α : Type} {b : Bool} {m : M B α} {R : α → B.T → Prop} {s : B.T} (h : b = true) : wp (guardM b m) R s ↔ wp m R s := by unfold guardM; rw [if_pos h]
theorem okc_strs {ns : List Str} : (D.lst (ns.map D.str)).okc = true := by
  refine Pt.okc (k := 2) ?_ (by omega)
  refine .inr (.inr (.inr (.inr ⟨_, rfl, fun x hx => ?_⟩)))
  obtain ⟨n, _, rfl⟩ := List.mem_map.mp hx
  exact .inr (.inl ⟨n, rfl⟩)
end
end LW
namespace LW
open PySem PySem.Spec PyProof.Rows L2 RZ DN
def sixW : List Str := ["a", "b", "c", "ab", "ba", "zz"]
theorem six_word : ∀ w ∈ sixW, WordOk 20 w := by
  have : ∀ w ∈ sixW, wordB 20 w = true := by decide +kernel
  exact fun w h => word_ok (this w h)
def RowS (r : Rw) : Prop := ∀ w ∈ r, w ∈ sixW
theorem RowS.ok {r : Rw} (h : RowS r) (hl : r.length ≤ 60) : RowOk r := ⟨hl, fun w hw => six_word w (h w hw)⟩
theorem RowS.app {r : Rw} {w : Str} (h : RowS r) (hw : w ∈ sixW) : RowS (r ++ [w]) := fun x hx => by
  rcases List.mem_append.mp hx with hx | hx
  · exact h x hx
  · rw [List.mem_singleton.mp hx]; exact hw
theorem RowS.pre {r s : Rw} (h : RowS s) (p : r <+: s) : RowS r := fun w hw => h w (p.subset hw)
theorem rowS_nil : RowS [] := fun _ h => nomatch h
theorem see_leaf {ds : List D} (h : ∀ d ∈ ds, d.isMut = false) : see1 pAll (.own (.lst ds)) = some (.lst ds) := by
  have e : pAll (.lst ds) = true := rfl
  unfold see1
  simp only [e, if_true]
  rw [strip_lst, stripL_leaf h]
theorem map_leaf {α : Type} {g : α → D} (h : ∀ a, (g a).isMut = false) {l : List α} : ∀ d ∈ l.map g, d.isMut = false := fun d hd => by
  obtain ⟨a, _, rfl⟩ := List.mem_map.mp hd
  exact h a
structure BdS (m : Nat) (b : Bd) : Prop where
  n : b.n ∈ (["g", "ha"] : List Str)
  s : b.s ≤ 1
  l : b.r.length ≤ m
  w : RowS b.r
theorem BdS.mono {m m' : Nat} {b : Bd} (h : BdS m b) (k : m ≤ m') : BdS m' b := ⟨h.n, h.s, Nat.le_trans h.l k, h.w⟩
theorem gha_word : ∀ w ∈ (["g", "ha"] : List Str), WordOk 8 w := by
  have : ∀ w ∈ (["g", "ha"] : List Str), wordB 8 w = true := by decide +kernel
  exact fun w h => word_ok (this w h)
theorem BdS.ok {m : Nat} {b : Bd} (h : BdS m b) (hm : m ≤ 20) : b.Ok := ⟨gha_word _ h.n, h.s, Nat.le_trans h.l hm, fun w hw => six_word w (h.w w hw)⟩
section
variable {K : PySem.W.Frag} {cl : CTab}
theorem toNatI {j : Int} {n : Nat} (h0 : 0 ≤ j) (h1 : j < (n : Int)) : ∃ i : Nat, i < n ∧ j = (i : Int) := ⟨j.toNat, by omega, by omega⟩
theorem wp_word6 {k : Nat} {R : D → Mem → Prop} {s : Mem} (hs : Hn k s) (q : ∀ w s', w ∈ sixW → Hn k s' → R (.str w) s') : wp (m__law_word_v4 (K := K) (cl := cl) [.ref k]) R s := by
  simp only [m__law_word_v4, b__law_word_v4, s_runF, startE]
  have e : D.lst [.str "a", .str "b", .str "c", .str "ab", .str "ba", .str "zz"] = .lst (sixW.map .str) := rfl
  obtain ⟨L, hL⟩ : ∃ L, L = D.lst [.str "a", .str "b", .str "c", .str "ab", .str "ba", .str "zz"] := ⟨_, rfl⟩
  simp
  rw [← hL]
  refine wp_draw hs (by omega) (by omega) fun j s' h0 h1 hs' => ?_
  obtain ⟨i, hi, rfl⟩ := toNatI (n := 6) h0 h1
  obtain ⟨w, hw, hx⟩ : ∃ w ∈ sixW, ixD L (.int (i : Int)) = some (.str w) := by
    rw [hL, e]
    have hi : i < sixW.length := hi
    exact ⟨sixW[i], List.getElem_mem hi, ixL_map hi⟩
  rw [hx, wp_lift_iff]
  exact q _ _ hw hs'
theorem add_row1 {r : Rw} {w : Str} (h : r.length ≤ 1000) : addD (rD r) (.tup [.str w]) = some (rD (r ++ [w])) := add_word h
end
end LW
namespace LW
open PySem PySem.Spec PyProof.Rows L2 RZ DN
def pr2 (i j : Nat) : Pr := if i < j then (i, j) else (j, i)
structure Iso (bs cs : List Bd) (σ τ : Nat → Nat) : Prop where
  len : cs.length = bs.length
  to : ∀ i, i < bs.length → σ i < bs.length ∧ τ (σ i) = i
  back : ∀ i, i < bs.length → τ i < bs.length ∧ σ (τ i) = i
  pr : ∀ i j, i < bs.length → j < bs.length → onB pairB bs (σ i) (σ j) = onB pairB cs i j
theorem Iso.symm {bs cs : List Bd} {σ τ : Nat → Nat} (h : Iso bs cs σ τ) : Iso cs bs τ σ := ⟨h.len.symm, fun i hi => by rw [h.len] at *; exact h.back i hi, fun i hi => by rw [h.len] at *; exact h.to i hi, fun i j hi hj => by
  rw [h.len] at hi hj
  rw [← h.pr _ _ (h.back i hi).1 (h.back j hj).1, (h.back i hi).2, (h.back j hj).2]⟩
def mvP (σ : Nat → Nat) (P : List Pr) : List Pr := P.map fun p => pr2 (σ p.1) (σ p.2)
noncomputable def num (σ : Nat → Nat) (P : List Pr) : List Pr := sortP (mvP σ P)
end LW
namespace LW
open PySem PySem.Spec PyProof.Rows L2 RZ DN
section
variable {K : PySem.W.Frag} {cl : CTab}
theorem sorted_lL {l : List Nat} : sortedDD [.lst (iL l)] = some (.lst (iL (srtN l))) := by
  have := sorted_lT (l := l)
  exact this
end
end LW
namespace LW
open PySem PySem.Spec PyProof.Rows L2 RZ DN
mutual
def Aim.mp (f : Nat → Nat) : Aim → Aim
  | .at b => .at (f b)
  | .node k as => .node k (Aim.mpL f as)
def Aim.mpL (f : Nat → Nat) : List Aim → List Aim
  | [] => []
  | a :: as => a.mp f :: Aim.mpL f as
end
theorem mpL_map (f : Nat → Nat) : ∀ as : List Aim, Aim.mpL f as = as.map (Aim.mp f)
  | [] => rfl
  | a :: as => by rw [Aim.mpL, mpL_map f as]; rfl
theorem mp_node {f : Nat → Nat} {k : Kd} {as : List Aim} : (Aim.node k as).mp f = .node k (as.map (Aim.mp f)) := by rw [Aim.mp, mpL_map]
theorem Gd.mp {many m' w : Nat} {f : Nat → Nat} (hf : ∀ b, b < many → f b < m') : ∀ {k : Nat} {a : Aim}, Gd many w k a → Gd m' w k (a.mp f)
  | 0, _, h => False.elim h
  | k + 1, .at b, h => by
    rw [Aim.mp]
    exact hf b h
  | k + 1, .node kd as, h => by
    rw [mp_node]
    refine ⟨h.1, by rw [List.length_map]; exact h.2.1, fun a ha => ?_⟩
    obtain ⟨b, hb, rfl⟩ := List.mem_map.mp ha
    exact Gd.mp hf (h.2.2 b hb)
end LW
namespace LW
open PySem PySem.Spec PyProof.Rows L2 RZ DN
mutual
def Aim.sb (f : Nat → Aim) : Aim → Aim
  | .at b => f b
  | .node k as => .node k (Aim.sbL f as)
def Aim.sbL (f : Nat → Aim) : List Aim → List Aim
  | [] => []
  | a :: as => a.sb f :: Aim.sbL f as
end
theorem sbL_map (f : Nat → Aim) : ∀ as : List Aim, Aim.sbL f as = as.map (Aim.sb f)
  | [] => rfl
  | a :: as => by rw [Aim.sbL, sbL_map f as]; rfl
theorem sb_node {f : Nat → Aim} {k : Kd} {as : List Aim} : (Aim.node k as).sb f = .node k (as.map (Aim.sb f)) := by rw [Aim.sb, sbL_map]
theorem sb_at {f : Nat → Aim} {b : Nat} : (Aim.at b).sb f = f b := by rw [Aim.sb]
theorem Gd.sb {f : Nat → Aim} {many many' w : Nat} (hf : ∀ b, b < many → Gd many' w 1 (f b)) : ∀ {k : Nat} {a : Aim}, Gd many w k a → Gd many' w k (a.sb f)
  | 0, _, h => False.elim h
  | k + 1, .at b, h => by rw [sb_at]; exact (hf b h).le (by omega)
  | k + 1, .node kd as, h => by
    rw [sb_node]
    refine ⟨h.1, by rw [List.length_map]; exact h.2.1, fun a ha => ?_⟩
    obtain ⟨c, hc, rfl⟩ := List.mem_map.mp ha
    exact Gd.sb hf (h.2.2 c hc)
end LW
namespace LW
open PySem PySem.Spec PyProof.Rows L2 RZ DN
theorem Sel.ins {p : Pr} {w : Nat} (hw : w = p.1 ∨ w = p.2) {B : List Pr} : ∀ {A : List Pr} {l0 : List Nat}, Sel (A ++ B) l0 → ∃ l, Sel (A ++ p :: B) l ∧ ∀ x, x ∈ l ↔ x = w ∨ x ∈ l0
  | [], l0, h => ⟨w :: l0, ⟨l0, h, by rcases hw with rfl | rfl <;> simp⟩, fun x => List.mem_cons⟩
  | a :: A, l0, ⟨l', hl, e⟩ => by
    obtain ⟨l, h1, h2⟩ := Sel.ins hw hl
    rcases e with rfl | rfl
    · exact ⟨a.1 :: l, ⟨l, h1, .inl rfl⟩, fun x => by rw [List.mem_cons, List.mem_cons, h2]; exact ⟨fun h => by rcases h with h | h | h <;> simp [h], fun h => by rcases h with h | h | h <;> simp [h]⟩⟩
    · exact ⟨a.2 :: l, ⟨l, h1, .inr rfl⟩, fun x => by rw [List.mem_cons, List.mem_cons, h2]; exact ⟨fun h => by rcases h with h | h | h <;> simp [h], fun h => by rcases h with h | h | h <;> simp [h]⟩⟩
end LW
namespace LW
open PySem PySem.Spec PyProof.Rows L2 RZ DN
def prt : List Pr → Nat → Option Nat
  | [], _ => none
  | p :: P, x => if p.1 = x then some p.2 else if p.2 = x then some p.1 else prt P x
theorem prt_none : ∀ {P : List Pr} {x : Nat}, prt P x = none ↔ x ∉ Vs P
  | [], x => ⟨fun _ h => (nomatch h), fun _ => rfl⟩
  | p :: P, x => by
    rw [Vs_cons, prt]
    simp only [List.mem_cons, not_or]
    by_cases h1 : p.1 = x
    · rw [if_pos h1]; exact ⟨fun h => (nomatch h), fun h => absurd h1.symm h.1⟩
    · rw [if_neg h1]
      by_cases h2 : p.2 = x
      · rw [if_pos h2]; exact ⟨fun h => (nomatch h), fun h => absurd h2.symm h.2.1⟩
      · rw [if_neg h2, prt_none]
        exact ⟨fun h => ⟨fun e => h1 e.symm, fun e => h2 e.symm, h⟩, fun h => h.2.2⟩
theorem prt_in : ∀ {P : List Pr} {x y : Nat}, prt P x = some y → (x, y) ∈ P ∨ (y, x) ∈ P
  | [], x, y, h => nomatch h
  | p :: P, x, y, h => by
    rw [prt] at h
    split at h
    · rename_i h1; cases h; exact .inl (by rw [← h1]; exact List.mem_cons_self)
    · split at h
      · rename_i h1; cases h; exact .inr (by rw [← h1]; exact List.mem_cons_self)
      · exact (prt_in h).imp (List.mem_cons_of_mem _) (List.mem_cons_of_mem _)
theorem prt_of {P : List Pr} (nd : (Vs P).Nodup) {x y : Nat} (h : (x, y) ∈ P ∨ (y, x) ∈ P) : prt P x = some y := by
  cases e : prt P x with
  | none =>
    refine absurd ?_ (prt_none.mp e)
    rcases h with h | h
    · exact mem_Vs.mpr ⟨_, h, .inl rfl⟩
    · exact mem_Vs.mpr ⟨_, h, .inr rfl⟩
  | some z => rw [pair_fun nd x z y (prt_in e) h]
structure Mtc (n m l : Nat) (M : Bool → Nat → Option Nat) : Prop where
  sym : ∀ b x y, M b x = some y → M b y = some x
  irr : ∀ b x, M b x ≠ some x
  lt : ∀ b x y, M b x = some y → x < n + m + l
  fst : ∀ x y, M false x = some y → n ≤ x
  snd : ∀ x y, M true x = some y → x < n + m
def Out (n m x : Nat) : Prop := x < n ∨ n + m ≤ x
instance {n m x : Nat} : Decidable (Out n m x) := by unfold Out; exact inferInstance
inductive Cn (M : Bool → Nat → Option Nat) (x : Nat) : Nat → Prop
  | refl : Cn M x x
  | step {y z : Nat} {b : Bool} : Cn M x y → M b y = some z → Cn M x z
theorem Cn.trans {M : Bool → Nat → Option Nat} {x y z : Nat} (h : Cn M x y) (g : Cn M y z) : Cn M x z := by
  induction g with
  | refl => exact h
  | step _ e ih => exact .step ih e
theorem Cn.symm {n m l : Nat} {M : Bool → Nat → Option Nat} (hM : Mtc n m l M) {x y : Nat} (h : Cn M x y) : Cn M y x := by
  induction h with
  | refl => exact .refl
  | step _ e ih => exact (Cn.step .refl (hM.sym _ _ _ e)).trans ih
def Far (M : Bool → Nat → Option Nat) (n m x : Nat) : Option Nat → Prop
  | none => ∀ y, Out n m y → Cn M x y → y = x
  | some y => Out n m y ∧ y ≠ x ∧ Cn M x y ∧ ∀ z, Out n m z → Cn M x z → z = x ∨ z = y
theorem Far.one {M : Bool → Nat → Option Nat} {n m x : Nat} : ∀ {r r' : Option Nat}, Far M n m x r → Far M n m x r' → r = r'
  | none, none, _, _ => rfl
  | none, some y, h, g => absurd (h y g.1 g.2.2.1) g.2.1
  | some y, none, h, g => absurd (g y h.1 h.2.2.1) h.2.1
  | some y, some z, h, g => by
    rcases h.2.2.2 z g.1 g.2.2.1 with e | e
    · exact absurd e g.2.1
    · rw [e]
end LW
namespace LW
open PySem PySem.Spec PyProof.Rows L2 RZ DN
def MM (n : Nat) (P Q : List Pr) : Bool → Nat → Option Nat
  | true, x => prt P x
  | false, x => if x < n then none else (prt Q (x - n)).map fun y => y + n
theorem prt_lt {P : List Pr} {N : Nat} (h : ∀ x ∈ Vs P, x < N) {x y : Nat} (e : prt P x = some y) : x < N ∧ y < N := by
  rcases prt_in e with g | g
  · exact ⟨h _ (mem_Vs.mpr ⟨_, g, .inl rfl⟩), h _ (mem_Vs.mpr ⟨_, g, .inr rfl⟩)⟩
  · exact ⟨h _ (mem_Vs.mpr ⟨_, g, .inr rfl⟩), h _ (mem_Vs.mpr ⟨_, g, .inl rfl⟩)⟩
def un (n m e : Nat) : Nat := if e < n then e else e + m
def en (n m x : Nat) : Nat := if x < n then x else x - m
section
variable {K : PySem.W.Frag} {cl : CTab}
theorem keyN : KeyE (fun x : Nat => D.int (x : Int)) (fun x : Nat => (.inl (.inl (x : Int)) : GK)) where
  key := fun x => rfl
  inj := fun x y h => by
    have : (x : Int) = (y : Int) := by simpa using h
    omega
  low := fun x => rfl
  kd := ⟨false, fun x => ⟨rfl, fun r => rfl⟩⟩
theorem ix_partners {P : List Pr} {x y : Nat} (nd : (Vs P).Nodup) (h : prt P x = some y) : ixD (.dct (iL (Vs P)) (iL (P.flatMap fun p => [p.2, p.1]))) (.int (x : Int)) = some (.int (y : Int)) := by
  show ((D.int (x : Int)).key.bind fun k => lookD _ _ k) = _
  rw [show (D.int (x : Int)).key = some (.inl (.inl (x : Int)) : GK) from rfl, Option.bind_some]
  have e1 : iL (Vs P) = (P.flatMap fun p => [(p.1, p.2), (p.2, p.1)]).map fun q : Pr => D.int (q.1 : Int) := by
    unfold Vs iL
    rw [List.map_flatMap, List.map_flatMap]; rfl
  have e2 : iL (P.flatMap fun p => [p.2, p.1]) = (P.flatMap fun p => [(p.1, p.2), (p.2, p.1)]).map fun q : Pr => D.int (q.2 : Int) := by
    unfold iL
    rw [List.map_flatMap, List.map_flatMap]; rfl
  have mem : ∀ q : Pr, q ∈ (P.flatMap fun p => [(p.1, p.2), (p.2, p.1)]) ↔ q ∈ P ∨ (q.2, q.1) ∈ P := fun q => by
    rw [List.mem_flatMap]
    constructor
    · rintro ⟨p, hp, hq⟩
      simp only [List.mem_cons, List.not_mem_nil, or_false] at hq
      rcases hq with rfl | rfl
      · exact .inl hp
      · exact .inr hp
    · rintro (h | h)
      · exact ⟨q, h, by simp⟩
      · exact ⟨(q.2, q.1), h, by simp⟩
  have := keyN.look (kf := fun q : Pr => q.1) (v := fun q : Pr => D.int (q.2 : Int)) (L := P.flatMap fun p => [(p.1, p.2), (p.2, p.1)]) (x := (x, y)) (fun q hq e => by
    have e : q.1 = x := e
    have h1 := prt_of nd (x := q.1) (y := q.2) ((mem q).mp hq)
    rw [e, h] at h1
    cases h1; rfl) ((mem (x, y)).mpr (prt_in h))
  rw [e1, e2]
  exact this
end
end LW
namespace LW
open PySem PySem.Spec PyProof.Rows L2 RZ DN
theorem Sel.split : ∀ {A B : List Pr} {l : List Nat}, Sel (A ++ B) l → ∃ l1 l2, Sel A l1 ∧ Sel B l2 ∧ l = l1 ++ l2
  | [], B, l, h => ⟨[], l, rfl, h, rfl⟩
  | a :: A, B, l, ⟨l', h, e⟩ => by
    obtain ⟨l1, l2, h1, h2, rfl⟩ := Sel.split h
    rcases e with rfl | rfl
    · exact ⟨a.1 :: l1, l2, ⟨l1, h1, .inl rfl⟩, h2, rfl⟩
    · exact ⟨a.2 :: l1, l2, ⟨l1, h1, .inr rfl⟩, h2, rfl⟩
def base (B x : Nat) : Nat := if x < B then x else x - B
end LW
namespace LW
open PySem PySem.Spec PyProof.Rows L2 RZ DN
inductive Rc (E : Nat → Nat → Prop) (x : Nat) : Nat → Prop
  | refl : Rc E x x
  | step {y z : Nat} : Rc E x y → E y z → Rc E x z
theorem Rc.one {E : Nat → Nat → Prop} {x y : Nat} (h : E x y) : Rc E x y := .step .refl h
theorem Rc.trans {E : Nat → Nat → Prop} {x y z : Nat} (h : Rc E x y) (g : Rc E y z) : Rc E x z := by
  induction g with
  | refl => exact h
  | step _ e ih => exact .step ih e
theorem Rc.bind {E F : Nat → Nat → Prop} (h : ∀ x y, E x y → Rc F x y) {x y : Nat} (g : Rc E x y) : Rc F x y := by
  induction g with
  | refl => exact .refl
  | step _ e ih => exact ih.trans (h _ _ e)
theorem Rc.mono {E F : Nat → Nat → Prop} (h : ∀ x y, E x y → F x y) {x y : Nat} (g : Rc E x y) : Rc F x y := g.bind fun x y e => .one (h x y e)
def pos (α β n u : Nat) : Nat := if u < n then α + u else β + (u - n)
def Lk (α β n : Nat) (P : List Pr) (x y : Nat) : Prop := ∃ u v, ((u, v) ∈ P ∨ (v, u) ∈ P) ∧ x = pos α β n u ∧ y = pos α β n v
theorem Lk.symm {α β n : Nat} {P : List Pr} {x y : Nat} : Lk α β n P x y → Lk α β n P y x := fun ⟨u, v, h, e1, e2⟩ => ⟨v, u, h.symm, e2, e1⟩
section
variable {α β γ n m l : Nat} {P Q : List Pr}
def At (α β n l x : Nat) : Prop := ∃ u, u < n + l ∧ x = pos α β n u
end
theorem At.lt {α β n l x : Nat} (h : At α β n l x) : (α ≤ x ∧ x < α + n) ∨ (β ≤ x ∧ x < β + l) := by
  obtain ⟨u, hu, rfl⟩ := h
  unfold pos
  split <;> omega
theorem At.of {α β n l x : Nat} (h : (α ≤ x ∧ x < α + n) ∨ (β ≤ x ∧ x < β + l)) : At α β n l x := by
  rcases h with ⟨a, b⟩ | ⟨a, b⟩
  · exact ⟨x - α, by omega, by unfold pos; rw [if_pos (by omega)]; omega⟩
  · exact ⟨x - β + n, by omega, by unfold pos; rw [if_neg (by omega)]; omega⟩
theorem Lk.at {α β n l : Nat} {P : List Pr} (lP : ∀ x ∈ Vs P, x < n + l) {x y : Nat} (h : Lk α β n P x y) : At α β n l x ∧ At α β n l y := by
  obtain ⟨u, v, h, rfl, rfl⟩ := h
  rcases h with h | h
  · exact ⟨⟨u, lP _ (mem_Vs.mpr ⟨_, h, .inl rfl⟩), rfl⟩, ⟨v, lP _ (mem_Vs.mpr ⟨_, h, .inr rfl⟩), rfl⟩⟩
  · exact ⟨⟨u, lP _ (mem_Vs.mpr ⟨_, h, .inr rfl⟩), rfl⟩, ⟨v, lP _ (mem_Vs.mpr ⟨_, h, .inl rfl⟩), rfl⟩⟩
end LW
namespace LW
open PySem PySem.Spec PyProof.Rows L2 RZ DN
section
variable {K : PySem.W.Frag} {cl : CTab}
theorem e_isp_bad {h : D} {bs : List Bd} {xs : List D} {f : D → Bool} (g : HallB h bs) (hf : ∀ x ∈ xs, ((m_is_lot [x, .int (bs.length : Int)] : M (MemS K cl) D) = M.pure (.bl false) ∧ f x = false) ∨ ((m_is_lot [x, .int (bs.length : Int)] : M (MemS K cl) D) = M.pure (.bl true) ∧ ∃ k : Int, lenD [x] = some (.int k) ∧ f x = decide (k = 2))) (hb : ∃ x ∈ xs, f x = false) : (m_is_pairing [h, .tup xs] : M (MemS K cl) D) = M.pure (.bl false) := by
  have c1 : compL (B := MemS K cl) (compF (aName 3) tY (xAn (xCall m_is_lot (aC (eVar 3) (aC (eVar 2) (aN)))) (xOp eqD (xB lenD (aC (eVar 3) (aN))) (eC (.int 2)))) (wipeE [some h, some (.tup xs), some (.int bs.length), none, none, none] [3])) (xs.map fun x => x) = M.pure (xs.map fun x => .bl (f x)) := by
    refine compL_map fun x hx => ?_
    simp only [compF]
    rcases hf x hx with ⟨el, e⟩ | ⟨el, k, e1, e⟩
    · rw [e]; simp [wipeE, setsE, el]
    · rw [e]; simp [wipeE, setsE, el, e1]
  rw [List.map_id'] at c1
  have ha : (xs.all f) = false := by
    rw [Bool.eq_false_iff]
    intro h2
    obtain ⟨x, hx, hb⟩ := hb
    have h3 := List.all_eq_true.mp h2 x hx
    rw [hb] at h3; cases h3
  simp only [m_is_pairing, b_is_pairing, s_runF, startE]
  simp [e_boards g.of]
  rw [c1]
  have := allD_map (f := f) (as := xs)
  rw [ha] at this
  simp [this]
theorem lotsOk {h x : D} {n : Nat} {L : List Pr} (hL : ∀ p ∈ L, p.1 < p.2 ∧ p.2 < n) : compL (B := MemS K cl) (compF (aName 3) tY (xAn (xCall m_is_lot (aC (eVar 3) (aC (eVar 2) (aN)))) (xOp eqD (xB lenD (aC (eVar 3) (aN))) (eC (.int 2)))) (wipeE [some h, some x, some (.int n), none, none, none] [3])) (L.map prD) = M.pure (L.map fun _ => .bl true) := by
  refine compL_map fun p hp => ?_
  have := hL p hp
  have el := e_lot_pr (K := K) (cl := cl) (p := p) (n := n) this.1 this.2
  simp only [compF]
  simp [wipeE, setsE, el]
theorem e_isp_odd {h d : D} {bs : List Bd} (g : HallB h bs) (hd : isD "tuple" d = some (.bl false)) : (m_is_pairing [h, d] : M (MemS K cl) D) = M.pure (.bl false) := by
  simp only [m_is_pairing, b_is_pairing, s_runF, startE]
  simp [e_boards g.of, hd]
end
end LW
namespace LW
open PySem PySem.Spec PyProof.Rows L2 RZ DN
def toI : D → Int
  | .int i => i
  | _ => 0
def toPr : D → Pr
  | .tup [a, b] => ((toI a).toNat, (toI b).toNat)
  | _ => (0, 0)
def lotB (n : Nat) : D → Bool
  | .tup ds => ds.all (isIntD 0 ((n : Int) - 1)) && decide ((ds.map toI).Pairwise (· < ·))
  | _ => false
def isPrD (n : Nat) : D → Bool
  | .tup [a, b] => isIntD 0 ((n : Int) - 1) a && (isIntD 0 ((n : Int) - 1) b && decide (toI a < toI b))
  | _ => false
def ltPr (p q : Pr) : Bool := decide (p.1 < q.1 ∨ (p.1 = q.1 ∧ p.2 < q.2))
def ascPr (P : List Pr) : Bool := (P.zip (P.drop 1)).all fun x => ltPr x.1 x.2
noncomputable def goodP (bs : List Bd) (P : List Pr) : Bool := ascPr P && (P.all (fun p => decide (p ∈ allP bs)) && decide (Vs P).Nodup)
noncomputable def isPairingD (bs : List Bd) : D → Bool
  | .tup xs => xs.all (isPrD bs.length) && goodP bs (xs.map toPr)
  | _ => false
theorem int_of {lo hi : Int} {d : D} (h : isIntD lo hi d = true) : d = .int (toI d) ∧ lo ≤ toI d ∧ toI d ≤ hi := by
  cases d <;> simp [isIntD] at h
  rename_i i
  exact ⟨rfl, h.1, h.2⟩
theorem ints_of {lo hi : Int} {ds : List D} (h : ds.all (isIntD lo hi) = true) : ds = (ds.map toI).map .int ∧ ∀ i ∈ ds.map toI, lo ≤ i ∧ i ≤ hi := by
  rw [List.all_eq_true] at h
  constructor
  · rw [List.map_map]
    conv => lhs; rw [← List.map_id ds]
    exact List.map_congr_left fun d hd => (int_of (h d hd)).1
  · intro i hi
    obtain ⟨d, hd, rfl⟩ := List.mem_map.mp hi
    exact (int_of (h d hd)).2
theorem pr_of {n : Nat} {d : D} (h : isPrD n d = true) : d = prD (toPr d) ∧ (toPr d).1 < (toPr d).2 ∧ (toPr d).2 < n := by
  cases d with
  | tup ds =>
    match ds, h with
    | [a, b], h =>
      simp only [isPrD, Bool.and_eq_true, decide_eq_true_eq] at h
      obtain ⟨h1, h2, h3⟩ := h
      obtain ⟨e1, l1, u1⟩ := int_of h1
      obtain ⟨e2, l2, u2⟩ := int_of h2
      have q : toPr (.tup [a, b]) = ((toI a).toNat, (toI b).toNat) := rfl
      rw [q]
      refine ⟨?_, ?_, ?_⟩
      · show D.tup [a, b] = .tup [.int ((toI a).toNat : Int), .int ((toI b).toNat : Int)]
        rw [Int.toNat_of_nonneg l1, Int.toNat_of_nonneg l2, ← e1, ← e2]
      · show (toI a).toNat < (toI b).toNat
        omega
      · show (toI b).toNat < n
        omega
  | _ => simp [isPrD] at h
theorem prs_of {n : Nat} {xs : List D} (h : xs.all (isPrD n) = true) : xs = (xs.map toPr).map prD ∧ ∀ p ∈ xs.map toPr, p.1 < p.2 ∧ p.2 < n := by
  rw [List.all_eq_true] at h
  constructor
  · rw [List.map_map]
    conv => lhs; rw [← List.map_id xs]
    exact List.map_congr_left fun d hd => (pr_of (h d hd)).1
  · intro p hp
    obtain ⟨d, hd, rfl⟩ := List.mem_map.mp hp
    exact (pr_of (h d hd)).2
theorem ltD_pr {p q : Pr} : ltD (prD p) (prD q) = ltPr p q := by
  unfold ltPr
  rcases Nat.lt_trichotomy p.1 q.1 with h | h | h
  · rw [ltD_first h, decide_eq_true (.inl h)]
  · have e : ∀ p : Pr, PySem.W.keyToks (prD p).py = [.inl 1, .inl (p.1 : Int), .inl 1, .inl (p.2 : Int), .inl 0] := fun p => by
      simp [D.py, D.pyL, PySem.W.keyToks, PySem.W.keyToksAll]
    rcases Nat.lt_trichotomy p.2 q.2 with g | g | g
    · rw [decide_eq_true (.inr ⟨h, g⟩)]
      unfold ltD PySem.W.dataLt
      rw [e, e, h]
      have h2 : (Sum.inl (p.2 : Int) : Int ⊕ List Nat) ≠ .inl (q.2 : Int) := fun z => by
        have := Sum.inl.inj z
        omega
      refine (PyProof.Rows.lex_self (O := itemOrd) _ _ _).trans ((PyProof.Rows.lex_self (O := itemOrd) _ _ _).trans ((PyProof.Rows.lex_self (O := itemOrd) _ _ _).trans ((PyProof.Rows.lex_diff (O := itemOrd) h2).trans ?_)))
      show decide ((p.2 : Int) < (q.2 : Int)) = true
      rw [decide_eq_true_iff]
      omega
    · have : p = q := Prod.ext h g
      rw [this, ltD_irr, decide_eq_false (by omega)]
    · rw [decide_eq_false (by omega)]
      refine ltD_asymm ?_
      unfold ltD PySem.W.dataLt
      rw [e, e, h]
      have h2 : (Sum.inl (q.2 : Int) : Int ⊕ List Nat) ≠ .inl (p.2 : Int) := fun z => by
        have := Sum.inl.inj z
        omega
      refine (PyProof.Rows.lex_self (O := itemOrd) _ _ _).trans ((PyProof.Rows.lex_self (O := itemOrd) _ _ _).trans ((PyProof.Rows.lex_self (O := itemOrd) _ _ _).trans ((PyProof.Rows.lex_diff (O := itemOrd) h2).trans ?_)))
      show decide ((q.2 : Int) < (p.2 : Int)) = true
      rw [decide_eq_true_iff]
      omega
  · rw [ltD_asymm (ltD_first h), decide_eq_false (by omega)]
theorem ltDT_pr {p q : Pr} : ltDT (prD p) (prD q) = some (.bl (ltPr p q)) := by
  have o1 : (prD p).okc = true := da_prD.okc (by decide)
  have o2 : (prD q).okc = true := da_prD.okc (by decide)
  unfold ltDT
  rw [if_pos (by rw [o1, o2, alike_prD]; rfl)]
  exact congrArg (fun b => some (D.bl b)) ltD_pr
theorem ded_len : ∀ {xs acc : List Nat}, (ded acc xs).length ≤ acc.length + xs.length
  | [], acc => by simp [ded]
  | x :: xs, acc => by
    rw [ded]
    by_cases m : x ∈ acc
    · rw [if_pos m]
      have := ded_len (xs := xs) (acc := acc)
      simp; omega
    · rw [if_neg m]
      have := ded_len (xs := xs) (acc := acc ++ [x])
      simp at this ⊢; omega
theorem ded_full : ∀ {xs acc : List Nat}, acc.Nodup → (ded acc xs).length = acc.length + xs.length → (acc ++ xs).Nodup
  | [], acc, h, _ => by simpa using h
  | x :: xs, acc, h, e => by
    rw [ded] at e
    by_cases m : x ∈ acc
    · rw [if_pos m] at e
      have := ded_len (xs := xs) (acc := acc)
      simp at e; omega
    · rw [if_neg m] at e
      have h2 : (acc ++ [x]).Nodup := List.nodup_append.mpr ⟨h, by simp, fun a ha b hb z => by
        rw [List.mem_singleton.mp hb] at z
        exact m (z ▸ ha)⟩
      have := ded_full (xs := xs) (acc := acc ++ [x]) h2 (by simp at e ⊢; omega)
      simpa using this
theorem ded_nd : ∀ {xs acc : List Nat}, (acc ++ xs).Nodup → ded acc xs = acc ++ xs
  | [], acc, _ => by simp [ded]
  | x :: xs, acc, h => by
    have m : x ∉ acc := fun z => (List.nodup_append.mp h).2.2 x z x List.mem_cons_self rfl
    rw [ded, if_neg m, ded_nd (by simpa using h)]
    simp
theorem putKs_ded {l : List Nat} {x : Nat} : putKs (iL l) (.inl (.inl (x : Int))) = iL (ded l [x]) := by
  unfold putKs
  rw [hasK_iL, ded_one]
  by_cases h : x ∈ l <;> simp [h, keyD, keyD1]
theorem repV_iL {k : GK} {y : Nat} : ∀ {ks : List D} {us : List Nat}, ∃ ws : List Nat, repV ks (iL us) k (iD y) = iL ws
  | [], us => ⟨us, by cases us <;> rfl⟩
  | _ :: _, [] => ⟨[], rfl⟩
  | x :: ks, u :: us => by
    obtain ⟨ws, h⟩ := repV_iL (k := k) (y := y) (ks := ks) (us := us)
    refine ⟨(if x.key = some k then y else u) :: ws, ?_⟩
    show (if x.key = some k then iD y else iD u) :: repV ks (iL us) k (iD y) = _
    rw [h]
    split <;> rfl
theorem putVs_iL {ks : List D} {us : List Nat} {k : GK} {y : Nat} : ∃ ws : List Nat, putVs ks (iL us) k (iD y) = iL ws := by
  unfold putVs
  split
  · exact repV_iL
  · exact ⟨us ++ [y], by simp⟩
section
variable {K : PySem.W.Frag} {cl : CTab}
theorem e_withinP {lo hi : Int} {d : D} (h : Pl d) : (m_is_within [d, .int lo, .int hi] : M (MemS K cl) D) = M.pure (.bl (isIntD lo hi d)) := by
  cases h with
  | int i => by_cases h : lo ≤ i <;> simp [m_is_within, b_is_within, m_is_integer, b_is_integer, startE, isIntD, h]
  | _ => simp [m_is_within, b_is_within, m_is_integer, b_is_integer, startE, isIntD]
theorem wp_partnersD {P : List Pr} (hl : P.length ≤ 1000) {s : Mem} : wp (m_partners [cD P] : M (MemS K cl) D) (fun d s' => s' = s ∧ ∃ us : List Nat, d = .dct (iL (ded [] (Vs P))) (iL us)) s := by
  simp only [m_partners, b_partners, s_runF, startE]
  simp
  refine wp_forI (fun r ρ s' => s' = s ∧ ∃ done rest, P = done ++ rest ∧ r = rest.map prD ∧ ∃ us : List Nat, ∃ x2 x3 : Sl, ρ = [.val (cD P), .own (.dct (iL (ded [] (Vs done))) (iL us)), x2, x3]) ⟨rfl, [], P, rfl, rfl, [], _, _, rfl⟩ ?_ ?_
  · rintro d r ρ s' ⟨rfl, done, rest, h1, h2, us, x2, x3, rfl⟩
    cases rest with
    | nil => exact nomatch h2
    | cons p rest =>
      cases h2
      refine ⟨[(2, iD p.1), (3, iD p.2)], by simp, ?_⟩
      have hd : done.length < 1000 := by rw [h1] at hl; simp at hl; omega
      have l0 := ded_len (xs := Vs done) (acc := [])
      have l1 : (Vs done).length = 2 * done.length := Vs_len
      have l2 := ded_len (xs := [p.1]) (acc := ded [] (Vs done))
      simp only [List.length_nil, List.length_singleton] at l0 l2
      have q1 : (iL (ded [] (Vs done))).length < sizeLine := by rw [List.length_map, sizeLine_eq]; omega
      have q2 : (iL (ded (ded [] (Vs done)) [p.1])).length < sizeLine := by rw [List.length_map, sizeLine_eq]; omega
      obtain ⟨w1, g2⟩ := putVs_iL (ks := iL (ded [] (Vs done))) (us := us) (k := .inl (.inl (p.1 : Int))) (y := p.2)
      obtain ⟨w2, g4⟩ := putVs_iL (ks := iL (ded (ded [] (Vs done)) [p.1])) (us := w1) (k := .inl (.inl (p.2 : Int))) (y := p.1)
      rw [s_seq]
      refine wp_bind ?_
      rw [show setsS [.val (cD P), .own (.dct (iL (ded [] (Vs done))) (iL us)), x2, x3] [(2, iD p.1), (3, iD p.2)] = [.val (cD P), .own (.dct (iL (ded [] (Vs done))) (iL us)), .val (iD p.1), .val (iD p.2)] from rfl]
      rw [putO (ks := iL (ded [] (Vs done))) (vs := iL us) (kd := iD p.1) (d := iD p.2) (kk := .inl (.inl (p.1 : Int))) rfl (by simp) (by simp) rfl rfl rfl q1 ok_iL]
      rw [putKs_ded, g2]
      show wp (sPut pHide yes 1 (eVar 3) (eVar 2) [.val (cD P), .own (.dct (iL (ded (ded [] (Vs done)) [p.1])) (iL w1)), .val (iD p.1), .val (iD p.2)]) _ s'
      rw [putO (ks := iL (ded (ded [] (Vs done)) [p.1])) (vs := iL w1) (kd := iD p.2) (d := iD p.1) (kk := .inl (.inl (p.2 : Int))) rfl (by simp) (by simp) rfl rfl rfl q2 ok_iL]
      rw [putKs_ded, g4]
      refine ⟨rfl, done ++ [p], rest, by simp [h1], rfl, w2, .val (iD p.1), .val (iD p.2), ?_⟩
      have e : ded [] (Vs (done ++ [p])) = ded (ded (ded [] (Vs done)) [p.1]) [p.2] := by
        rw [Vs_app, ded_app, ← ded_app (xs := [p.1])]; rfl
      rw [e]
      rfl
  · rintro ρ s' ⟨rfl, done, rest, h1, h2, us, x2, x3, rfl⟩
    have hr : rest = [] := by cases rest with
      | nil => rfl
      | cons => exact nomatch h2
    subst hr
    rw [List.append_nil] at h1
    subst h1
    have := stripL_leaf (ds := iL us) fun d hd => by obtain ⟨p, _, rfl⟩ := List.mem_map.mp hd; rfl
    simp only [frzS]
    simp [strip_dct]
    exact ⟨us, by simpa using this⟩
theorem e_lotP {n : Nat} {x : D} (h : Pl x) : (m_is_lot [x, .int (n : Int)] : M (MemS K cl) D) = M.pure (.bl (lotB n x)) := by
  cases h with
  | tup ds hd =>
    by_cases ha : ds.all (isIntD 0 ((n : Int) - 1)) = true
    · obtain ⟨e, hr⟩ := ints_of ha
      have := e_lot (K := K) (cl := cl) (l := ds.map toI) (n := n) (fun i hi => by have := hr i hi; omega)
      rw [← e] at this
      rw [this, lotB, ha, Bool.true_and]
    · have ha : ds.all (isIntD 0 ((n : Int) - 1)) = false := by simpa using ha
      simp only [m_is_lot, b_is_lot, s_runF, startE]
      simp
      have c := compL_map (B := MemS K cl) (f := compF (aName 2) tY (xCall m_is_within (aC (eVar 2) (aC (eC (.int 0)) (aC (xOp subD (eVar 1) (eC (.int 1))) (aN))))) (wipeE [some (.tup ds), some (.int (n : Int)), none] [2])) (g := fun d : D => d) (k := fun d => .bl (isIntD 0 ((n : Int) - 1) d)) (as := ds) (fun d hd2 => by
        simp only [compF]
        simp [wipeE, setsE, e_withinP (hd d hd2)])
      rw [List.map_id'] at c
      rw [c]
      simp [ha, lotB]
  | _ => simp [m_is_lot, b_is_lot, startE, lotB]
theorem isPr_lot {n : Nat} {x : D} : isPrD n x = true ↔ lotB n x = true ∧ ∃ a b, x = .tup [a, b] := by
  constructor
  · intro h
    cases x with
    | tup ds =>
      match ds, h with
      | [a, b], h =>
        simp only [isPrD, Bool.and_eq_true, decide_eq_true_eq] at h
        exact ⟨by simp [lotB, h.1, h.2.1, h.2.2], a, b, rfl⟩
    | _ => simp [isPrD] at h
  · rintro ⟨h, a, b, rfl⟩
    simp [lotB] at h
    simp [isPrD, h]
theorem e_ascP {P : List Pr} : (m_is_ascending [cD P] : M (MemS K cl) D) = M.pure (.bl (ascPr P)) := by
  have e : (P.map prD).drop 1 = (P.drop 1).map prD := by simp
  simp only [m_is_ascending, b_is_ascending, s_runF, startE]
  simp [slD, cutL_one]
  rw [← List.drop_one, e, zip_prs, compL_map (k := fun x : Pr × Pr => .bl (ltPr x.1 x.2))]
  · simp [ascPr]
  · intro p hp
    simp [setsE, wipeE, ltDT_pr]
theorem e_ispD {h d : D} {bs : List Bd} (g : HallB h bs) (hn : bs.length ≤ 1000) (hd : Pl d) (hl : ∀ xs, d = .tup xs → xs.length ≤ 1000) : (m_is_pairing [h, d] : M (MemS K cl) D) = M.pure (.bl (isPairingD bs d)) := by
  cases hd with
  | tup xs hx =>
    by_cases ha : xs.all (isPrD bs.length) = true
    · obtain ⟨e, hP⟩ := prs_of ha
      have hl := hl xs rfl
      obtain ⟨P, hPe⟩ : ∃ P, P = xs.map toPr := ⟨_, rfl⟩
      rw [← hPe] at e hP
      have hlP : P.length ≤ 1000 := by rw [hPe, List.length_map]; exact hl
      rw [isPairingD, ha, Bool.true_and, ← hPe]
      clear ha hx hPe hl
      subst e
      have c1 := lotsOk (K := K) (cl := cl) (h := h) (x := cD P) (n := bs.length) (L := P) hP
      have ea := e_ascP (K := K) (cl := cl) (P := P)
      have c2 : compL (B := MemS K cl) (compF (aTup (aCons (aName 4) (aCons (aName 5) (aNil)))) tY (xCall m_are_pair (aC (xIx (xFlds ["Hall", "RawHall"] 0 (eVar 0)) (eVar 4)) (aC (xIx (xFlds ["Hall", "RawHall"] 0 (eVar 0)) (eVar 5)) (aN)))) (wipeE [some h, some (cD P), some (.int bs.length), none, none, none] [4, 5])) (P.map prD) = M.pure (P.map fun p => .bl (decide (p ∈ allP bs))) := by
        refine compL_map fun p hp => ?_
        obtain ⟨i, j⟩ := p
        obtain ⟨q1, q2⟩ := hP _ hp
        have q1 : i < j := q1
        have q2 : j < bs.length := q2
        have e1 := List.getElem?_eq_getElem (show i < bs.length by omega)
        have e2 := List.getElem?_eq_getElem q2
        have e3 : pairB bs[i] bs[j] = decide ((i, j) ∈ allP bs) := by
          rw [Bool.eq_iff_iff, decide_eq_true_iff, mem_allP, onB_eq e1 e2]
          exact ⟨fun h => ⟨q1, q2, h⟩, fun h => h.2.2⟩
        simp only [compF]
        simp [wipeE, setsE, e_boards g.of, ixBd e1, ixBd e2, e_are_pair, e3]
      have hv : (Vs P).length = 2 * P.length := Vs_len
      have c3 := allD_map (f := fun p : Pr => decide (p ∈ allP bs)) (as := P)
      refine pure_of_wp fun s => ?_
      simp only [m_is_pairing, b_is_pairing, s_runF, startE]
      simp [e_boards g.of]
      rw [c1]
      simp [allD_true, allD_true', ea]
      cases e1 : ascPr P with
      | false => simp [goodP, e1]
      | true =>
        simp
        rw [c2]
        cases e2 : P.all fun p => decide (p ∈ allP bs) with
        | false =>
          rw [e2] at c3
          simp [c3, goodP, e2]
        | true =>
          rw [e2] at c3
          simp [c3]
          refine wp_mono (wp_partnersD hlP) ?_
          rintro d s' ⟨rfl, us, rfl⟩
          have hl2 := ded_len (xs := Vs P) (acc := [])
          simp only [List.length_nil] at hl2
          have el : lenD [.dct (iL (ded [] (Vs P))) (iL us)] = some (.int ((ded [] (Vs P)).length : Int)) := by
            simp [lenD]
          simp [el]
          simp [goodP, e1, e2]
          constructor
          · intro h
            have := ded_full (xs := Vs P) (acc := []) List.nodup_nil (by rw [hv]; simp; omega)
            simpa using this
          · intro h
            rw [ded_nd (by simpa using h)]
            simp [hv]
    · have hb : ∃ x ∈ xs, isPrD bs.length x = false := by
        have ha : xs.all (isPrD bs.length) = false := by simpa using ha
        rw [List.all_eq_false] at ha
        obtain ⟨x, hx, h⟩ := ha
        exact ⟨x, hx, by simpa using h⟩
      have ha : xs.all (isPrD bs.length) = false := by simpa using ha
      rw [isPairingD, ha, Bool.false_and]
      refine e_isp_bad g (f := isPrD bs.length) (fun x hxm => ?_) hb
      have el := e_lotP (K := K) (cl := cl) (n := bs.length) (hx x hxm)
      cases lb : lotB bs.length x with
      | false =>
        rw [lb] at el
        refine .inl ⟨el, ?_⟩
        rw [Bool.eq_false_iff]
        intro h
        rw [(isPr_lot.mp h).1] at lb; cases lb
      | true =>
        rw [lb] at el
        refine .inr ⟨el, ?_⟩
        cases x with
        | tup ds =>
          refine ⟨(ds.length : Int), rfl, ?_⟩
          rw [Bool.eq_iff_iff, decide_eq_true_iff, isPr_lot]
          constructor
          · rintro ⟨_, a, b, e⟩
            rw [D.tup.inj e]; rfl
          · intro h
            match ds, h with
            | [a, b], _ => exact ⟨lb, a, b, rfl⟩
        | _ => simp [lotB] at lb
  | _ => exact (e_isp_odd g (by simp)).trans (by simp [isPairingD])
end
end LW
namespace LW
open PySem PySem.Spec PyProof.Rows L2 RZ DN
theorem toPr_prD5 {p : Pr} : toPr (prD p) = p := rfl
theorem toPr_map5 {P : List Pr} : (P.map prD).map toPr = P := by
  rw [List.map_map]
  exact (List.map_congr_left fun p _ => toPr_prD5).trans (List.map_id P)
theorem ascPr_cons {a b : Pr} {l : List Pr} : ascPr (a :: b :: l) = (ltPr a b && ascPr (b :: l)) := rfl
theorem ascPr_pre : ∀ {A B : List Pr}, ascPr (A ++ B) = true → ascPr A = true
  | [], _, _ => rfl
  | [a], _, _ => rfl
  | a :: b :: A, B, h => by
    rw [List.cons_append, List.cons_append, ascPr_cons, Bool.and_eq_true] at h
    rw [ascPr_cons, h.1, Bool.true_and]
    exact ascPr_pre (A := b :: A) (B := B) h.2
theorem goodD_at {bs : List Bd} {P : List Pr} {d : D} {rest : List D} (h : isPairingD bs (.tup (P.map prD ++ d :: rest)) = true) : isPrD bs.length d = true ∧ toPr d ∈ allP bs ∧ (toPr d).1 ∉ Vs P ∧ (toPr d).2 ∉ Vs P ∧ ascPr (P ++ [toPr d]) = true := by
  simp only [isPairingD, goodP, Bool.and_eq_true, List.all_eq_true, decide_eq_true_eq] at h
  obtain ⟨h1, h2, h3, h4⟩ := h
  rw [List.map_append, toPr_map5, List.map_cons] at h2 h3 h4
  rw [Vs_app, List.nodup_append] at h4
  have h4 := h4.2.2
  rw [Vs_cons] at h4
  refine ⟨h1 d (by simp), h3 _ (by simp), fun m => h4 _ m (toPr d).1 (by simp) rfl, fun m => h4 _ m (toPr d).2 (by simp) rfl, ?_⟩
  exact ascPr_pre (A := P ++ [toPr d]) (B := rest.map toPr) (by simpa using h2)
end LW
namespace LW
open PySem PySem.Spec PyProof.Rows L2 RZ DN
section
variable {K : PySem.W.Frag} {cl : CTab}
theorem e_lare_pair3 {a b : Bd} : (m__law_are_pair_v3 [a.d, b.d] : M (MemS K cl) D) = M.pure (.bl (pairB a b)) := by
  obtain ⟨q1, f1⟩ : ∃ q : Bool, (a.r.length = b.r.length + 1) ↔ q = true := ⟨_, (decide_eq_true_iff).symm⟩
  obtain ⟨q2, f2⟩ : ∃ q : Bool, (b.r.length = a.r.length + 1) ↔ q = true := ⟨_, (decide_eq_true_iff).symm⟩
  obtain ⟨p1, g1⟩ : ∃ q : Bool, (a.r.dropLast = b.r) ↔ q = true := ⟨_, (decide_eq_true_iff).symm⟩
  obtain ⟨p2, g2⟩ : ∃ q : Bool, (b.r.dropLast = a.r) ↔ q = true := ⟨_, (decide_eq_true_iff).symm⟩
  have f1' : ((a.r.length : Int) = (b.r.length : Int) + 1) ↔ q1 = true := by rw [← f1]; omega
  have f2' : ((b.r.length : Int) = (a.r.length : Int) + 1) ↔ q2 = true := by rw [← f2]; omega
  have f3 : ∀ x y : Nat, ((y : Int) % 2 = (x : Int)) ↔ (y % 2 = x) := fun x y => by omega
  have no : ¬ (q1 = true ∧ q2 = true) := fun ⟨x, y⟩ => by have := f1.mpr x; have := f2.mpr y; omega
  refine pure_of_wp fun s => ?_
  by_cases h1 : a.n = b.n
  · by_cases h2 : a.s = b.s
    · simp [m__law_are_pair_v3, b__law_are_pair_v3, startE, Bd.d, h1, h2, pairB]
    · have h2' : ¬ (a.s : Int) = (b.s : Int) := by omega
      by_cases h3 : a.r = b.r
      · simp [m__law_are_pair_v3, b__law_are_pair_v3, startE, Bd.d, h1, h2', eq_row, pairB, h2, h3]
      · simp [m__law_are_pair_v3, b__law_are_pair_v3, startE, Bd.d, h1, h2', eq_row, pairB, h2, h3, forL, cut_last, eq_rowL, aheadB, one, f1, f2, g1, g2, f1', f2', f3]
        cases p1 <;> cases p2 <;> cases q1 <;> cases q2 <;> simp at no <;> simp [cut_last, eq_rowL, f1', f2', g1, g2, f3]
  · simp [m__law_are_pair_v3, b__law_are_pair_v3, startE, Bd.d, h1, pairB]
theorem wp_twins {k m : Nat} {R : D → Mem → Prop} {s : Mem} (hs : Hn k s) (h1 : 2 ≤ m) (h2 : m ≤ 10) (q : ∀ (bs : List Bd) s', 2 ≤ bs.length → bs.length ≤ m + 1 → (∀ b ∈ bs, BdS 3 b) → Hn k s' → R (.tup (bs.map Bd.d)) s') :
    wp (m__law_twins (K := K) (cl := cl) [.ref k, .int (m : Int)]) R s := by
  simp only [m__law_twins, b__law_twins, s_runF, startE]
  refine wp_bind (wp_cut (fun ρ s' => Hn k s' ∧ ∃ ns : List Str, 1 ≤ ns.length ∧ ns.length ≤ 2 ∧ (∀ n ∈ ns, n ∈ (["g", "ha"] : List Str)) ∧ ρ = [.val (.ref k), .val (.int (m : Int)), .val (.tup (ns.map .str)), .no, .no, .no, .no]) ?_ ?_)
  · obtain ⟨L, hL⟩ : ∃ L, L = D.lst [.tup [.str "g"], .tup [.str "g", .str "ha"]] := ⟨_, rfl⟩
    simp
    rw [← hL]
    refine wp_draw hs (by omega) (by omega) fun j s' h0 h1 hs' => ?_
    obtain ⟨i, hi, rfl⟩ := toNatI (n := 2) h0 h1
    have : i = 0 ∨ i = 1 := by omega
    rcases this with rfl | rfl
    · have : ixD L (.int ((0 : Nat) : Int)) = some (.tup ((["g"] : List Str).map .str)) := by rw [hL]; rfl
      rw [this, wp_lift_iff]
      exact ⟨hs', ["g"], by simp, by simp, by simp, rfl⟩
    · have : ixD L (.int ((1 : Nat) : Int)) = some (.tup ((["g", "ha"] : List Str).map .str)) := by rw [hL]; rfl
      rw [this, wp_lift_iff]
      exact ⟨hs', ["g", "ha"], by simp, by simp, by simp, rfl⟩
  rintro ρ s1 ⟨hs, ns, n1, n2, hns, rfl⟩
  refine wp_cut (fun ρ s' => Hn k s' ∧ ∃ gs : List Rw, gs.length = 4 ∧ (∀ g ∈ gs, RowS g ∧ g.length ≤ 2) ∧ ρ = [.val (.ref k), .val (.int (m : Int)), .val (.tup (ns.map .str)), .val (.lst (gs.map rD)), .no, .no, .no]) ?_ ?_
  · simp
    refine wp_word6 hs fun w1 s1 hw1 hs => ?_
    refine wp_word6 hs fun w2 s2 hw2 hs => ?_
    refine wp_word6 hs fun w3 s3 hw3 hs => ?_
    refine ⟨hs, [[], [], [w1], [w2, w3]], rfl, fun g hg => ?_, rfl⟩
    simp only [List.mem_cons, List.not_mem_nil, or_false] at hg
    rcases hg with rfl | rfl | rfl | rfl
    · exact ⟨rowS_nil, by simp⟩
    · exact ⟨rowS_nil, by simp⟩
    · exact ⟨fun w hw => by rw [List.mem_singleton.mp hw]; exact hw1, by simp⟩
    · exact ⟨fun w hw => by
        rcases List.mem_cons.mp hw with rfl | hw
        · exact hw2
        · rw [List.mem_singleton.mp hw]; exact hw3, by simp⟩
  rintro ρ s1 ⟨hs, gs, gl, hg, rfl⟩
  refine wp_cut (fun ρ s' => s' = s1 ∧ ρ = [.val (.ref k), .val (.int (m : Int)), .val (.tup (ns.map .str)), .val (.lst (gs.map rD)), .own (.lst (([] : List Bd).map Bd.d)), .no, .no]) (by simp) ?_
  rintro ρ s2 ⟨rfl, rfl⟩
  refine wp_cut (fun ρ s' => Hn k s' ∧ ∃ (bs : List Bd) (x5 x6 : Sl), 2 ≤ bs.length ∧ bs.length ≤ m + 1 ∧ (∀ b ∈ bs, BdS 3 b) ∧ ρ = [.val (.ref k), .val (.int (m : Int)), .val (.tup (ns.map .str)), .val (.lst (gs.map rD)), .own (.lst (bs.map Bd.d)), x5, x6]) ?_ ?_
  · simp
    have e1 : (m : Int) - 1 = ((m - 1 : Nat) : Int) := by omega
    rw [e1]
    refine wp_draw hs (by omega) (by omega) fun j s' h0 h1 hs' => ?_
    obtain ⟨i, hi, rfl⟩ := toNatI (n := m - 1) h0 h1
    have er : range1 (.int (2 + (i : Int))) = some ((List.range (2 + i)).map fun i : Nat => .int (i : Int)) := by
      have := rng (2 + i) (by omega)
      push_cast at this
      exact this
    simp [er]
    refine wp_forI (fun (r : List D) ρ s' => Hn k s' ∧ ∃ (bs : List Bd) (x5 x6 : Sl), bs.length + r.length = 2 + i ∧ (∀ b ∈ bs, BdS 3 b) ∧ ρ = [.val (.ref k), .val (.int (m : Int)), .val (.tup (ns.map .str)), .val (.lst (gs.map rD)), .own (.lst (bs.map Bd.d)), x5, x6])
      ⟨hs', [], _, _, by simp, fun b hb => (nomatch hb), rfl⟩ ?_ ?_
    · rintro d r ρ s1 ⟨hs, bs, x5, x6, hl, hb, rfl⟩
      refine ⟨_, s_aName, ?_⟩
      rw [show setsS [.val (.ref k), .val (.int (m : Int)), .val (.tup (ns.map .str)), .val (.lst (gs.map rD)), .own (.lst (bs.map Bd.d)), x5, x6] [(5, d)] = [.val (.ref k), .val (.int (m : Int)), .val (.tup (ns.map .str)), .val (.lst (gs.map rD)), .own (.lst (bs.map Bd.d)), .val d, x6] from rfl]
      simp only [List.length_cons] at hl
      refine wp_cut (fun ρ s' => Hn k s' ∧ ∃ r0 : Rw, r0.length ≤ 2 ∧ RowS r0 ∧ ρ = [.val (.ref k), .val (.int (m : Int)), .val (.tup (ns.map .str)), .val (.lst (gs.map rD)), .own (.lst (bs.map Bd.d)), .val d, .val (rD r0)]) ?_ ?_
      · simp
        refine wp_draw hs (by omega) (by omega) fun j s' h0 h1 hs' => ?_
        obtain ⟨i, hi, rfl⟩ := toNatI (n := 4) h0 h1
        have hi2 : i < gs.length := by omega
        rw [show ixD (.lst (gs.map rD)) (.int (i : Int)) = some (rD gs[i]) from ixL_map hi2]
        simp
        exact ⟨hs', gs[i], (hg _ (List.getElem_mem hi2)).2, (hg _ (List.getElem_mem hi2)).1, rfl⟩
      rintro ρ s2 ⟨hs, r0, hr, hw, rfl⟩
      refine wp_cut (fun ρ s' => Hn k s' ∧ ∃ r0 : Rw, r0.length ≤ 3 ∧ RowS r0 ∧ ρ = [.val (.ref k), .val (.int (m : Int)), .val (.tup (ns.map .str)), .val (.lst (gs.map rD)), .own (.lst (bs.map Bd.d)), .val d, .val (rD r0)]) ?_ ?_
      · simp
        refine wp_draw hs (by omega) (by omega) fun j s' h0 h1 hs' => ?_
        by_cases hj : j = 0
        · simp [hj]
          refine wp_word6 hs' fun w s3 hw3 hs3 => ?_
          simp [add_row1 (w := w) (show r0.length ≤ 1000 by omega)]
          exact ⟨hs3, r0 ++ [w], by simp; omega, hw.app hw3, rfl⟩
        · simp [hj]
          exact ⟨hs', r0, by omega, hw, rfl⟩
      rintro ρ s3 ⟨hs, r0, hr, hw, rfl⟩
      have hlen : lenD [.tup (ns.map .str)] = some (.int (ns.length : Int)) := by simp [lenD]
      simp [hlen]
      refine wp_draw hs (by omega) (by omega) fun j s' h0 h1 hs' => ?_
      obtain ⟨a, ha, rfl⟩ := toNatI (n := ns.length) h0 h1
      rw [show ixD (.tup (ns.map .str)) (.int (a : Int)) = some (.str ns[a]) by rw [ixT (by simpa using ha)]; simp]
      simp
      refine wp_draw hs' (by omega) (by omega) fun j s' h0 h1 hs2 => ?_
      obtain ⟨sd, hsd, rfl⟩ := toNatI (n := 2) h0 h1
      have nb : BdS 3 ⟨ns[a], sd, r0⟩ := ⟨hns _ (List.getElem_mem ha), by show sd ≤ 1; omega, hr, hw⟩
      rw [wp_guard (by simp [D.isMut, sizeLine_eq]; omega)]
      refine wp_pure ?_
      refine ⟨hs2, bs ++ [⟨ns[a], sd, r0⟩], by simp; omega, fun b hb2 => ?_, .val d, .val (rD r0), by simp [Bd.d, rD]⟩
      rcases List.mem_append.mp hb2 with hb2 | hb2
      · exact hb b hb2
      · rw [List.mem_singleton.mp hb2]; exact nb
    · rintro ρ s1 ⟨hs, bs, x5, x6, hl, hb, rfl⟩
      simp at hl
      exact ⟨hs, bs, by omega, by omega, hb, _, _, rfl⟩
  rintro ρ s2 ⟨hs, bs, x5, x6, b1, b2, hb, rfl⟩
  have := stripL_leaf (ds := bs.map Bd.d) fun d hd => by obtain ⟨b, _, rfl⟩ := List.mem_map.mp hd; rfl
  simp [sFrz, frzS, strip_lst, this]
  exact q bs s2 b1 b2 hb hs
end
end LW
namespace LW
open PySem PySem.Spec PyProof.Rows L2 RZ DN
section
variable {K : PySem.W.Frag} {cl : CTab}
theorem sorted_prLq {c : List Pr} : sortedDD [.lst (c.map prD)] = some (.lst ((sortP c).map prD)) := by
  show (if _ then _ else _) = _
  rw [if_pos sortable_prs, sortP_map]
end
end LW
namespace LW
open PySem PySem.Spec PyProof.Rows L2 RZ DN
theorem erase_map {α β : Type} (f : α → β) : ∀ (l : List α) (n : Nat), (l.map f).eraseIdx n = (l.eraseIdx n).map f
  | [], _ => rfl
  | _ :: _, 0 => rfl
  | a :: l, n + 1 => by simp [erase_map f l n]
theorem flat_pr {P : List Pr} : flatL (P.map prD) = true := List.all_eq_true.mpr fun d hd => by obtain ⟨p, _, rfl⟩ := List.mem_map.mp hd; rfl
theorem noMut_pr {P : List Pr} : noMut (P.map prD) = true := List.all_eq_true.mpr fun d hd => by obtain ⟨p, _, rfl⟩ := List.mem_map.mp hd; rfl
theorem see_pr {P : List Pr} : see1 pAll (.own (.lst (P.map prD))) = some (.lst (P.map prD)) := see_leaf (map_leaf fun _ => rfl)
def ownP (P : List Pr) : Sl := .own (.lst (P.map prD))
def pD (p : Pr) : D := prD p
theorem pD0 {p : Pr} : ixD (pD p) (.int 0) = some (iD p.1) := rfl
theorem pD1 {p : Pr} : ixD (pD p) (.int 1) = some (iD p.2) := rfl
theorem see_ownP {P : List Pr} : see1 pAll (ownP P) = some (.lst (P.map prD)) := see_pr
def PlS (d : D) : Prop := Pl d ∧ ∀ xs, d = .tup xs → xs.length ≤ 1000
theorem pl_prD {p : Pr} : Pl (prD p) := .tup _ fun d hd => by
  simp only [List.mem_cons, List.not_mem_nil, or_false] at hd
  rcases hd with rfl | rfl <;> exact .int _
theorem pl_cD {P : List Pr} : Pl (cD P) := .tup _ fun d hd => by obtain ⟨p, _, rfl⟩ := List.mem_map.mp hd; exact pl_prD
section
variable {K : PySem.W.Frag} {cl : CTab}
theorem ownAddP {i : Nat} {ρ : SEnv} {P L : List Pr} {f : DN.Env → M (MemS K cl) D} (hρ : ρ[i]? = some (ownP P)) (hf : f (seeE pHide ρ) = M.pure (.lst (L.map prD))) (hz : P.length + L.length ≤ 1000) :
    (sOwnAdd i f ρ : M (MemS K cl) Fl) = M.pure (.nx (ρ.set i (ownP (P ++ L)))) := by
  unfold ownP at hρ ⊢
  unfold sOwnAdd
  simp only [hρ]
  rw [hf, DN.bind_pure]
  show guardM (decide ((P.map prD).length + (L.map prD).length ≤ sizeLine) && noMut (P.map prD ++ L.map prD)) (M.pure (Fl.nx (ρ.set i (Sl.own (.lst (P.map prD ++ L.map prD)))))) = _
  unfold guardM
  rw [← List.map_append]
  rw [if_pos]
  rw [Bool.and_eq_true]
  exact ⟨decide_eq_true (by rw [List.length_map, List.length_map, sizeLine_eq]; omega), noMut_pr⟩
theorem wp_of_eq {B : Sto} {α : Type} {m m' : M B α} {R : α → B.T → Prop} {s : B.T} (e : m = m') (h : wp m' R s) : wp m R s := e ▸ h
theorem wp_popP {i j : Nat} {ρ : SEnv} {P : List Pr} {fa : DN.Env → M (MemS K cl) (List D)} {R : Fl → Mem → Prop} {s : Mem} (hρ : ρ[i]? = some (ownP P))
    (h : wp (fa (seeE pAll ρ)) (fun us s' => ∃ (a : Nat) (ha : a < P.length), us = [.int (a : Int)] ∧ R (.nx ((ρ.set i (ownP (P.eraseIdx a))).set j (.val (pD P[a])))) s') s) : wp (sPopO pAll D.imm j i popAtG fa ρ) R s := by
  unfold ownP at hρ h
  unfold sPopO
  simp only [hρ]
  refine wp_bind (wp_mono h fun us s' q => ?_)
  obtain ⟨a, ha, rfl, q⟩ := q
  have hm : mutO D.imm popAtG (P.map prD) [.int (a : Int)] = some (pD P[a], (P.eraseIdx a).map prD) := by
    unfold mutO
    rw [if_pos (by rw [flat_pr]; rfl)]
    have : popAtG (P.map prD) [.int (a : Int)] = some (prD P[a], (P.eraseIdx a).map prD) := by
      have hx : ixN P.length (a : Int) = some a := by simp [ixN, ha]
      simp only [popAtG, List.length_map, hx]
      rw [List.getElem?_map, List.getElem?_eq_getElem ha, erase_map]
      rfl
    rw [this, Option.bind_some, if_pos (by rw [flat_pr]; rfl)]
    rfl
  rw [hm]
  exact q
theorem every_core {bs : List Bd} {i : Nat} {x0 x2 x4 x5 x6 x7 x8 : Sl} (hi : i < bs.length) (hb : bs.length ≤ 10) :
    ∃ L : List Pr, L.length ≤ 10 ∧ (xLc [8] (aName 8) (tTr (xCall m__law_are_pair_v3 (aC (xIx (eVar 1) (eVar 3)) (aC (xIx (eVar 1) (eVar 8)) (aN))))) (xTup (aC (eVar 3) (aC (eVar 8) (aN)))) (iOf2 range2 (xOp addD (eVar 3) (eC (.int 1))) (xB lenD (aC (eVar 1) (aN)))) (seeE pHide [x0, .val (.tup (bs.map Bd.d)), x2, .val (.int (i : Int)), x4, x5, x6, x7, x8]) : M (MemS K cl) D) = M.pure (.lst (L.map prD)) := by
  have hlen : lenD [.tup (bs.map Bd.d)] = some (.int (bs.length : Int)) := by simp [lenD]
  have r2 := rng2s (i := i) (n := bs.length) (by omega) (by omega)
  have eb := List.getElem?_eq_getElem hi
  refine ⟨((List.range' (i + 1) (bs.length - (i + 1))).filter fun j => onB pairB bs i j).map fun j => (i, j), ?_, ?_⟩
  · have := List.length_filter_le (fun j => onB pairB bs i j) (List.range' (i + 1) (bs.length - (i + 1)))
    simp at this
    simp
    omega
  simp [hlen, r2]
  rw [compL_filter (g := fun j : Nat => D.int (j : Int)) (k := fun j => prD (i, j)) (p := fun j => onB pairB bs i j) (fun j hj => by
    have hj2 : j < bs.length := by have := List.mem_range'_1.mp hj; omega
    have ej := List.getElem?_eq_getElem hj2
    cases hp : pairB bs[i] bs[j] with
    | false => simp [wipeE, ixBd eb, ixBd ej, e_lare_pair3, onB_eq eb ej, hp]
    | true => simp [wipeE, ixBd eb, ixBd ej, e_lare_pair3, onB_eq eb ej, hp])]
  rfl
theorem wp_pairing45 {k : Nat} {bs : List Bd} {R : D → Mem → Prop} {s : Mem} (hs : Hn k s) (hb : bs.length ≤ 10) (q : ∀ (P : List Pr) s', P.length ≤ 100 → Hn k s' → R (cD P) s') :
    wp (m__law_pairing_v2 (K := K) (cl := cl) [.ref k, .tup (bs.map Bd.d)]) R s := by
  simp only [m__law_pairing_v2, b__law_pairing_v2, s_runF, startE]
  have hlen : lenD [.tup (bs.map Bd.d)] = some (.int (bs.length : Int)) := by simp [lenD]
  refine wp_bind (wp_cut (fun ρ s' => s' = s ∧ ρ = [.val (.ref k), .val (.tup (bs.map Bd.d)), ownP [], .no, .no, .no, .no, .no, .no]) (by simp; rfl) ?_)
  rintro ρ s1 ⟨rfl, rfl⟩
  refine wp_cut (fun ρ s' => s' = s1 ∧ ∃ (P : List Pr) (x3 x8 : Sl), P.length ≤ 100 ∧ ρ = [.val (.ref k), .val (.tup (bs.map Bd.d)), ownP P, x3, .no, .no, .no, .no, x8]) ?_ ?_
  · have rg := rng bs.length (by omega)
    simp [hlen, rg]
    refine wp_forI (fun r ρ s' => s' = s1 ∧ ∃ (P : List Pr) (x3 x8 : Sl) (rest : List Nat), (∀ i ∈ rest, i < bs.length) ∧ r = rest.map (fun i : Nat => D.int (i : Int)) ∧ P.length + 10 * rest.length ≤ 100 ∧ ρ = [.val (.ref k), .val (.tup (bs.map Bd.d)), ownP P, x3, .no, .no, .no, .no, x8])
      ⟨rfl, [], _, _, List.range bs.length, fun i hi => List.mem_range.mp hi, rfl, by simp; omega, rfl⟩ ?_ ?_
    · rintro d r ρ s' ⟨rfl, P, x3, x8, rest, hin, hr, hl, rfl⟩
      cases rest with
      | nil => exact nomatch hr
      | cons i rest =>
        cases hr
        have hi := hin i List.mem_cons_self
        refine ⟨_, s_aName, ?_⟩
        rw [show setsS [.val (.ref k), .val (.tup (bs.map Bd.d)), ownP P, x3, .no, .no, .no, .no, x8] [(3, .int (i : Int))] = [.val (.ref k), .val (.tup (bs.map Bd.d)), ownP P, .val (.int (i : Int)), .no, .no, .no, .no, x8] from rfl]
        simp only [List.length_cons] at hl
        have hc : ∃ L : List Pr, L.length ≤ 10 ∧ (sOwnAdd 2 (xLc [8] (aName 8) (tTr (xCall m__law_are_pair_v3 (aC (xIx (eVar 1) (eVar 3)) (aC (xIx (eVar 1) (eVar 8)) (aN))))) (xTup (aC (eVar 3) (aC (eVar 8) (aN)))) (iOf2 range2 (xOp addD (eVar 3) (eC (.int 1))) (xB lenD (aC (eVar 1) (aN))))) [.val (.ref k), .val (.tup (bs.map Bd.d)), ownP P, .val (.int (i : Int)), .no, .no, .no, .no, x8] : M (MemS K cl) Fl) = M.pure (.nx [.val (.ref k), .val (.tup (bs.map Bd.d)), ownP (P ++ L), .val (.int (i : Int)), .no, .no, .no, .no, x8]) := by
          have hc := every_core (K := K) (cl := cl) (bs := bs) (i := i) (x0 := .val (.ref k)) (x2 := ownP P) (x4 := .no) (x5 := .no) (x6 := .no) (x7 := .no) (x8 := x8) hi hb
          cases hc with
          | intro L h => exact ⟨L, h.1, ownAddP (P := P) (L := L) rfl h.2 (by have := h.1; omega)⟩
        have hL := hc.choose_spec.1
        have eL := hc.choose_spec.2
        with_reducible generalize hc.choose = L at hL eL
        with_reducible refine wp_of_eq eL ?_
        with_reducible refine wp_pure ?_
        exact ⟨rfl, P ++ L, _, _, rest, fun j hj => hin j (List.mem_cons_of_mem _ hj), rfl, by simp; omega, rfl⟩
    · rintro ρ s' ⟨rfl, P, x3, x8, rest, _, hr, hl, rfl⟩
      exact ⟨rfl, P, by omega, _, _, rfl⟩
  rintro ρ s2 ⟨rfl, P, x3, x8, hl, rfl⟩
  refine wp_cut (fun ρ s' => s' = s2 ∧ ρ = [.val (.ref k), .val (.tup (bs.map Bd.d)), ownP P, x3, ownP [], .no, .no, .no, x8]) (by simp; rfl) ?_
  rintro ρ s1 ⟨rfl, rfl⟩
  obtain ⟨ud, hud⟩ : ∃ ud : List Nat → D, ud = fun us => .lst (iL us) := ⟨_, rfl⟩
  have ud0 : D.lst [] = ud [] := by rw [hud]; rfl
  refine wp_cut (fun ρ s' => s' = s1 ∧ ρ = [.val (.ref k), .val (.tup (bs.map Bd.d)), ownP P, x3, ownP [], .val (ud []), .no, .no, x8]) (by simp [ud0]) ?_
  rintro ρ s2 ⟨rfl, rfl⟩
  refine wp_cut (fun ρ s' => Hn k s' ∧ ∃ (P Q : List Pr) (us : List Nat) (x6 x7 : Sl), Q.length ≤ 100 ∧ ρ = [.val (.ref k), .val (.tup (bs.map Bd.d)), ownP P, x3, ownP Q, .val (ud us), x6, x7, x8]) ?_ ?_
  · have hlp : lenD [.lst (P.map prD)] = some (.int (P.length : Int)) := by simp [lenD]
    have rg := rng P.length (by omega)
    unfold sForS
    have e1 : (xB lenD (aC (eVar 2) aN) (seeE pAll [.val (.ref k), .val (.tup (bs.map Bd.d)), ownP P, x3, ownP [], .val (ud []), .no, .no, x8]) : M (MemS K cl) D) = M.pure (.int (P.length : Int)) := by
      simp [see_ownP, hlp]
    rw [e1, DN.bind_pure, rg]
    refine wp_bind ?_
    rw [wp_lift_iff]
    refine wp_forI (fun r ρ s' => Hn k s' ∧ ∃ (P Q : List Pr) (us : List Nat) (x6 x7 : Sl), r.length = P.length ∧ Q.length + P.length ≤ 100 ∧ us.length ≤ 2 * Q.length ∧ ρ = [.val (.ref k), .val (.tup (bs.map Bd.d)), ownP P, x3, ownP Q, .val (ud us), x6, x7, x8])
      ⟨hs, P, [], [], _, _, by simp, by simp; omega, by simp, rfl⟩ ?_ ?_
    · rintro d r ρ s' ⟨hs, P, Q, us, x6, x7, hr, hl, hu, rfl⟩
      refine ⟨_, s_aName, ?_⟩
      rw [show setsS [.val (.ref k), .val (.tup (bs.map Bd.d)), ownP P, x3, ownP Q, .val (ud us), x6, x7, x8] [(6, d)] = [.val (.ref k), .val (.tup (bs.map Bd.d)), ownP P, x3, ownP Q, .val (ud us), .val d, x7, x8] from rfl]
      simp only [List.length_cons] at hr
      have hlp : lenD [.lst (P.map prD)] = some (.int (P.length : Int)) := by simp [lenD]
      refine wp_cut (fun ρ s' => Hn k s' ∧ ∃ (P' : List Pr) (p : Pr), P'.length + 1 = P.length ∧ ρ = [.val (.ref k), .val (.tup (bs.map Bd.d)), ownP P', x3, ownP Q, .val (ud us), .val d, .val (pD p), x8]) ?_ ?_
      · refine wp_popP (P := P) rfl ?_
        simp [see_ownP, hlp]
        refine wp_draw hs (by omega) (by omega) fun j s3 h0 h1 hs3 => ?_
        obtain ⟨a, ha, rfl⟩ := toNatI (n := P.length) h0 h1
        exact ⟨a, rfl, hs3, ha, P.eraseIdx a, by rw [List.length_eraseIdx, if_pos ha]; omega, rfl, P[a].1, P[a].2, rfl⟩
      rintro ρ s4 ⟨hs, P', p, hP', rfl⟩
      have nn : ∀ x : Nat, notInK (iD x) (ud us) = some (.bl (!decide (x ∈ us))) := fun x => by rw [hud]; exact notIn_iL2
      simp [pD0, pD1, nn]
      by_cases c1 : p.1 ∈ us
      · simp [c1]
        exact ⟨hs, P', by omega, Q, by omega, us, hu, rfl, rfl, rfl⟩
      · by_cases c2 : p.2 ∈ us
        · simp [c1, c2]
          exact ⟨hs, P', by omega, Q, by omega, us, hu, rfl, rfl, rfl⟩
        · simp [c1, c2]
          refine wp_draw hs (by omega) (by omega) fun j s5 h0 h1 hs5 => ?_
          by_cases c3 : 0 < j
          · simp [c3]
            have ua : addD (ud us) (.lst (iL [p.1, p.2])) = some (ud (us ++ [p.1, p.2])) := by
              rw [hud]
              show (if _ then _ else _) = _
              rw [if_pos (by simp [sizeLine_eq]; omega)]
              simp
            have em : (pD p).isMut = false := rfl
            have hz : Q.length < sizeLine := by rw [sizeLine_eq]; omega
            have eo : ∀ Q : List Pr, ownP Q = .own (.lst (Q.map prD)) := fun _ => rfl
            have ua2 : addD (ud us) (.lst [.int (p.1 : Int), .int (p.2 : Int)]) = some (ud (us ++ [p.1, p.2])) := ua
            have pl2 : listD [pD p] = some (.lst [.int (p.1 : Int), .int (p.2 : Int)]) := rfl
            rw [eo Q]
            simp [em, hz, guardM, pl2, ua2]
            exact ⟨hs5, P', by omega, Q ++ [p], by simp; omega, us ++ [p.1, p.2], by simp; omega, rfl, by rw [eo (Q ++ [p]), List.map_append]; rfl, rfl⟩
          · simp [c3]
            exact ⟨hs5, P', by omega, Q, by omega, us, hu, rfl, rfl, rfl⟩
    · rintro ρ s' ⟨hs, P, Q, us, x6, x7, hr, hl, hu, rfl⟩
      exact ⟨hs, P, Q, us, _, _, by omega, rfl⟩
  rintro ρ s3 ⟨hs, P, Q, us, x6, x7, hq, rfl⟩
  have st := stripL_leaf (ds := Q.map prD) (map_leaf fun _ => rfl)
  have sp := sorted_prLq (c := Q)
  unfold ownP
  simp [frzS, strip_lst, st, sp]
  exact q (sortP Q) s3 (by rw [show (sortP Q).length = Q.length from (List.mergeSort_perm _ _).length_eq]; exact hq) hs
end
end LW
namespace LW
open PySem PySem.Spec PyProof.Rows L2 RZ DN
section
variable {K : PySem.W.Frag} {cl : CTab}
theorem appR45 {p q : D → Bool} {i : Nat} {ρ : SEnv} {L : List Rw} {r : Rw} {f : DN.Env → M (MemS K cl) D} (hρ : ρ[i]? = some (ownR L)) (hf : f (seeE p ρ) = M.pure (rD r)) (hq : q (rD r) = true) (hz : L.length ≤ 10000) :
    sApp p q i f ρ = M.pure (.nx (ρ.set i (ownR (L ++ [r])))) := by
  have hz2 : L.length < sizeLine := by rw [sizeLine_eq]; omega
  unfold ownR at hρ ⊢
  unfold sApp
  simp only [hρ]
  rw [hf, DN.bind_pure]
  have hm : (rD r).isMut = false := rfl
  simp only [hq, hm, Bool.not_false, Bool.true_and, List.length_map]
  unfold guardM
  rw [if_pos (decide_eq_true hz2), List.map_append]
  rfl
theorem wp_words45 {k : Nat} {R : D → Mem → Prop} {s : Mem} {N : Nat} {ρ : DN.Env} (h0 : ρ[0]? = some (some (.ref k))) (hl : ρ.length = 10) (hs : Hn k s) (q : ∀ r s', r.length ≤ 3 → RowS r → Hn k s' → R (rD r) s') :
    wp (xB tupleD (aC (xLc [9] (aName 9) (tY) (xCall m__law_word_v4 (aC (eVar 0) (aN))) (iOf range1 (xCall m__law_draw (aC (eVar 0) (aC (eC (.int 4)) (aN)))))) (aN)) ρ : M (MemS K cl) D) R s := by
  match ρ, hl with
  | [y0, y1, y2, y3, y4, y5, y6, y7, y8, y9], _ =>
  cases h0
  simp
  refine wp_draw hs (by omega) (by omega) fun j s' h0 h1 hs' => ?_
  obtain ⟨i, hi, rfl⟩ := toNatI (n := 4) h0 h1
  rw [rng i (by omega), wp_lift_iff]
  refine wp_compLx (Hn k) (fun w : Str => w ∈ sixW) (fun w => D.str w) hs' ?_ ?_
  · intro d hd s3 hs3
    refine wp_noErr ?_
    simp [wipeE]
    exact wp_word6 hs3 fun w s4 hw hs4 => ⟨hs4, w, hw, rfl⟩
  · intro l s3 hs3 hl hb
    simp at hl
    exact q l _ (by omega) (fun w hw => hb w hw) hs3
theorem addTz {xs ys : List D} (h : xs.length + ys.length ≤ 100000) : addD (.tup xs) (.tup ys) = some (.tup (xs ++ ys)) := by
  show (if _ then _ else _) = _
  rw [if_pos (by rw [sizeLine_eq]; omega)]
theorem add_rowsZ {r s : Rw} (h : r.length + s.length ≤ 1000) : addD (rD r) (rD s) = some (rD (r ++ s)) := by
  show addD (.tup (r.map .str)) (.tup (s.map .str)) = some (.tup ((r ++ s).map .str))
  rw [addTz (by simp; omega), List.map_append]
theorem RowS.cat {r s : Rw} (h : RowS r) (g : RowS s) : RowS (r ++ s) := fun w hw => (List.mem_append.mp hw).elim (h w) (g w)
theorem wp_rows45 {k : Nat} {bs : List Bd} {R : D → Mem → Prop} {s : Mem} (hs : Hn k s) (hb : ∀ b ∈ bs, BdS 3 b) (hl : bs.length ≤ 10) (q : ∀ (rs : List Rw) s', rs.length = bs.length → (∀ r ∈ rs, RowS r ∧ r.length ≤ 10) → Hn k s' → R (.tup (rs.map rD)) s') :
    wp (m__law_rows_v2 (K := K) (cl := cl) [.ref k, .tup (bs.map Bd.d)]) R s := by
  simp only [m__law_rows_v2, b__law_rows_v2, s_runF, startE]
  refine wp_bind (wp_cut (fun ρ s' => Hn k s' ∧ ∃ t : Rw, t.length ≤ 3 ∧ RowS t ∧ ρ = [.val (.ref k), .val (.tup (bs.map Bd.d)), .val (rD t), .no, .no, .no, .no, .no, .no, .no]) ?_ ?_)
  · refine wp_bind ?_
    refine wp_words45 (N := 0) rfl rfl hs fun t s' h1 h2 h3 => ?_
    exact ⟨h3, t, h1, h2, rfl⟩
  rintro ρ s1 ⟨hs, t, tl, tw, rfl⟩
  refine wp_cut (fun ρ s' => s' = s1 ∧ ρ = [.val (.ref k), .val (.tup (bs.map Bd.d)), .val (rD t), ownR [], .no, .no, .no, .no, .no, .no]) (by simp; rfl) ?_
  rintro ρ s2 ⟨rfl, rfl⟩
  refine wp_cut (fun ρ s' => Hn k s' ∧ ∃ (rs : List Rw) (x4 x5 x6 x7 x8 x9 : Sl), rs.length = bs.length ∧ (∀ r ∈ rs, RowS r ∧ r.length ≤ 10) ∧ ρ = [.val (.ref k), .val (.tup (bs.map Bd.d)), .val (rD t), ownR rs, x4, x5, x6, x7, x8, x9]) ?_ ?_
  · simp
    refine wp_forI (fun r ρ s' => Hn k s' ∧ ∃ (rs : List Rw) (x4 x5 x6 x7 x8 x9 : Sl) (rest : List Bd), (∀ b ∈ rest, BdS 3 b) ∧ r = rest.map Bd.d ∧ rs.length + rest.length = bs.length ∧ (∀ r ∈ rs, RowS r ∧ r.length ≤ 10) ∧ ρ = [.val (.ref k), .val (.tup (bs.map Bd.d)), .val (rD t), ownR rs, x4, x5, x6, x7, x8, x9])
      ⟨hs, [], _, _, _, _, _, _, bs, hb, rfl, by simp, fun r h => (nomatch h), rfl⟩ ?_ ?_
    · rintro d r ρ s' ⟨hs, rs, x4, x5, x6, x7, x8, x9, rest, hin, hr, hl2, hrs, rfl⟩
      cases rest with
      | nil => exact nomatch hr
      | cons b rest =>
        cases hr
        have hbb := hin b List.mem_cons_self
        refine ⟨[(4, .str b.n), (5, .int (b.s : Int)), (6, rD b.r)], by simp [Bd.d, rD], ?_⟩
        rw [show setsS [.val (.ref k), .val (.tup (bs.map Bd.d)), .val (rD t), ownR rs, x4, x5, x6, x7, x8, x9] [(4, .str b.n), (5, .int (b.s : Int)), (6, rD b.r)] = [.val (.ref k), .val (.tup (bs.map Bd.d)), .val (rD t), ownR rs, .val (.str b.n), .val (.int (b.s : Int)), .val (rD b.r), x7, x8, x9] from rfl]
        simp only [List.length_cons] at hl2
        have bl := hbb.l
        refine wp_cut (fun ρ s2 => s2 = s' ∧ ρ = [.val (.ref k), .val (.tup (bs.map Bd.d)), .val (rD t), ownR rs, .val (.str b.n), .val (.int (b.s : Int)), .val (rD b.r), .val (rD (b.r ++ t)), x8, x9]) (by simp [add_rowsZ (r := b.r) (s := t) (by omega)]) ?_
        rintro ρ s3 ⟨rfl, rfl⟩
        refine wp_cut (fun ρ s' => Hn k s' ∧ ∃ j : Nat, ρ = [.val (.ref k), .val (.tup (bs.map Bd.d)), .val (rD t), ownR rs, .val (.str b.n), .val (.int (b.s : Int)), .val (rD b.r), .val (rD (b.r ++ t)), .val (.int (j : Int)), x9]) ?_ ?_
        · simp
          refine wp_draw hs (by omega) (by omega) fun j s' h0 h1 hs' => ?_
          obtain ⟨i, hi, rfl⟩ := toNatI (n := 4) h0 h1
          exact ⟨hs', i, rfl⟩
        rintro ρ s4 ⟨hs, j, rfl⟩
        refine wp_cut (fun ρ s' => Hn k s' ∧ ∃ (r1 : Rw) (x9 : Sl), r1.length ≤ 10 ∧ RowS r1 ∧ ρ = [.val (.ref k), .val (.tup (bs.map Bd.d)), .val (rD t), ownR rs, .val (.str b.n), .val (.int (b.s : Int)), .val (rD b.r), .val (rD r1), .val (.int (j : Int)), x9]) ?_ ?_
        · by_cases h0 : j = 0
          · subst h0
            simp
            refine wp_word6 hs fun w s5 hw hs5 => ?_
            simp [add_row1 (r := b.r ++ t) (w := w) (by simp; omega)]
            exact ⟨hs5, b.r ++ t ++ [w], by simp; omega, (hbb.w.cat tw).app hw, by simp⟩
          · have h0' : ¬ (j : Int) = 0 := by omega
            by_cases h1 : j = 1
            · subst h1
              simp
              refine wp_draw hs (by omega) (by omega) fun j s' h0 h1 hs' => ?_
              obtain ⟨i, hi, rfl⟩ := toNatI (n := 4) h0 h1
              rw [rng i (by omega), wp_lift_iff]
              refine wp_compLx (Hn k) (fun w : Str => w ∈ sixW) (fun w => D.str w) hs' ?_ ?_
              · intro d hd s3 hs3
                refine wp_noErr ?_
                simp [wipeE]
                exact wp_word6 hs3 fun w s4 hw hs4 => ⟨hs4, w, hw, rfl⟩
              · intro l s3 hs3 hl hb
                simp at hl
                have := add_rowsZ (r := b.r) (s := l) (by omega)
                have ea : addD (rD b.r) (.tup (l.map .str)) = some (rD (b.r ++ l)) := this
                simp [ea]
                exact ⟨hs3, b.r ++ l, by simp; omega, hbb.w.cat (fun w hw => hb w hw), rfl⟩
            · have h1' : ¬ (j : Int) = 1 := by omega
              simp [h0, h1, h0', h1']
              exact ⟨hs, b.r ++ t, by simp; omega, hbb.w.cat tw, rfl⟩
        rintro ρ s5 ⟨hs, r1, x9, r1l, r1w, rfl⟩
        rw [appR45 (L := rs) (r := r1) rfl (by simp) rfl (by omega)]
        refine ⟨hs, rs ++ [r1], _, _, _, _, _, _, rest, fun b hb => hin b (List.mem_cons_of_mem _ hb), rfl, by simp; omega, fun r hr => ?_, rfl⟩
        rcases List.mem_append.mp hr with hr | hr
        · exact hrs r hr
        · rw [List.mem_singleton.mp hr]; exact ⟨r1w, r1l⟩
    · rintro ρ s' ⟨hs, rs, x4, x5, x6, x7, x8, x9, rest, _, hr, hl2, hrs, rfl⟩
      have : rest = [] := by cases rest with
        | nil => rfl
        | cons => exact nomatch hr
      subst this
      exact ⟨hs, rs, by simpa using hl2, hrs, _, _, _, _, _, _, rfl⟩
  rintro ρ s3 ⟨hs, rs, x4, x5, x6, x7, x8, x9, hrl, hrs, rfl⟩
  have st := stripL_leaf (ds := rs.map rD) (map_leaf fun _ => rfl)
  unfold ownR
  simp [frzS, strip_lst, st]
  exact q rs s3 hrl hrs hs
end
end LW
namespace LW
open PySem PySem.Spec PyProof.Rows L2 RZ DN
def OkR (d : D) : Prop := Pl d ∧ d.isMut = false ∧ ∀ ws, d = .tup ws → ws.length ≤ 200 ∧ ∀ w ∈ ws, (∃ z, w = .str z) ∨ ∃ i, w = .int i
def OkRs (d : D) : Prop := Pl d ∧ ∀ xs, d = .tup xs → xs.length ≤ 100 ∧ ∀ x ∈ xs, OkR x
theorem okR_tup {ws : List D} (hl : ws.length ≤ 200) (h : ∀ w ∈ ws, (∃ z, w = .str z) ∨ ∃ i, w = .int i) : OkR (.tup ws) := by
  refine ⟨.tup _ fun w hw => ?_, rfl, fun vs e => ?_⟩
  · rcases h w hw with ⟨z, rfl⟩ | ⟨i, rfl⟩
    · exact .str _
    · exact .int _
  · cases e; exact ⟨hl, h⟩
theorem okR_row {r : Rw} (h : r.length ≤ 200) : OkR (rD r) := okR_tup (by simpa using h) fun w hw => by
  obtain ⟨z, _, rfl⟩ := List.mem_map.mp hw; exact .inl ⟨z, rfl⟩
theorem okR_app {r : Rw} {w : D} (h : r.length ≤ 100) (hw : (∃ z, w = .str z) ∨ ∃ i, w = .int i) : OkR (.tup (r.map .str ++ [w])) := okR_tup (by simp; omega) fun x hx => by
  rcases List.mem_append.mp hx with hx | hx
  · obtain ⟨z, _, rfl⟩ := List.mem_map.mp hx; exact .inl ⟨z, rfl⟩
  · rw [List.mem_singleton.mp hx]; exact hw
theorem okRs_rows {rs : List Rw} (hl : rs.length ≤ 100) (h : ∀ r ∈ rs, r.length ≤ 200) : OkRs (.tup (rs.map rD)) := by
  have : ∀ x ∈ rs.map rD, OkR x := fun x hx => by obtain ⟨r, hr, rfl⟩ := List.mem_map.mp hx; exact okR_row (h r hr)
  refine ⟨.tup _ fun x hx => (this x hx).1, fun xs e => ?_⟩
  cases e
  exact ⟨by simpa using hl, this⟩
section
variable {K : PySem.W.Frag} {cl : CTab}
theorem wp_bentP45 {k n : Nat} {bs : List Bd} {P : List Pr} {R : D → Mem → Prop} {s : Mem} (hs : Hn k s) (h1 : 1 ≤ bs.length) (hb : bs.length ≤ 10) (hP : P.length ≤ 100) (q : ∀ d s', PlS d → Hn k s' → R d s') :
    wp (m__law_bent_pairing (K := K) (cl := cl) [.ref k, .tup (bs.map Bd.d), cD P]) R s := by
  simp only [m__law_bent_pairing, b__law_bent_pairing, s_runF, startE]
  obtain ⟨bd, hbd⟩ : ∃ bd, bd = D.tup (bs.map Bd.d) := ⟨_, rfl⟩
  have hlen : lenD [bd] = some (.int (bs.length : Int)) := by rw [hbd]; simp [lenD]
  obtain ⟨ds, hds⟩ : ∃ ds, ds = P.map prD := ⟨_, rfl⟩
  have dl : ds.length ≤ 100 := by rw [hds]; simpa using hP
  have dp : ∀ d ∈ ds, Pl d := fun d hd => by rw [hds] at hd; obtain ⟨p, _, rfl⟩ := List.mem_map.mp hd; exact pl_prD
  have df : flatL ds = true := by rw [hds]; exact flat_pr
  have dm : ∀ d ∈ ds, d.isMut = false := fun d hd => by rw [hds] at hd; obtain ⟨p, _, rfl⟩ := List.mem_map.mp hd; rfl
  rw [show cD P = .tup ds by rw [hds], ← hbd]
  clear hds
  refine wp_bind (wp_cut (fun ρ s' => s' = s ∧ ρ = [.val (.ref k), .val bd, .val (.tup ds), .own (.lst ds), .no, .no, .no, .no]) ?_ ?_)
  · have el : listD [.tup ds] = some (.lst ds) := rfl
    have fb : DN.flatB (.lst ds) = true := df
    simp [el]
    rw [wp_guard fb]
    exact ⟨rfl, rfl⟩
  rintro ρ s1 ⟨rfl, rfl⟩
  refine wp_cut (fun ρ s' => Hn k s' ∧ ∃ a : Nat, a < bs.length ∧ ρ = [.val (.ref k), .val bd, .val (.tup ds), .own (.lst ds), .val (.int (a : Int)), .no, .no, .no]) ?_ ?_
  · simp [hlen]
    refine wp_draw hs (by omega) (by omega) fun j s3 h0 h1 hs3 => ?_
    obtain ⟨a, ha, rfl⟩ := toNatI (n := bs.length) h0 h1
    exact ⟨hs3, a, ha, rfl⟩
  rintro ρ s2 ⟨hs, a, ha, rfl⟩
  refine wp_cut (fun ρ s' => Hn k s' ∧ ∃ b : Nat, b < bs.length ∧ ρ = [.val (.ref k), .val bd, .val (.tup ds), .own (.lst ds), .val (.int (a : Int)), .val (.int (b : Int)), .no, .no]) ?_ ?_
  · simp [hlen]
    refine wp_draw hs (by omega) (by omega) fun j s3 h0 h1 hs3 => ?_
    obtain ⟨a, ha, rfl⟩ := toNatI (n := bs.length) h0 h1
    exact ⟨hs3, a, ha, rfl⟩
  rintro ρ s3 ⟨hs, b, hb2, rfl⟩
  obtain ⟨L, hLe⟩ : ∃ L, L = [D.tup [.int (a : Int), .int (b : Int)], .tup [.int (a : Int), .int (bs.length : Int)], .tup [.bl true, .int 1], .tup [.int (-1), .int (a : Int)], .tup [.int (a : Int)], .lst [.int (a : Int), .int (b : Int)], .non, .tup [.int (a : Int), .int (b : Int), .int (a : Int)], .str "01"] := ⟨_, rfl⟩
  have hL : L.length = 9 := by rw [hLe]; rfl
  have hLp : ∀ d ∈ L, Pl d ∧ d.isMut = false := fun d hd => by
    rw [hLe] at hd
    have tp : ∀ l : List Int, Pl (.tup (l.map .int)) := fun l => .tup _ fun d hd => by obtain ⟨i, _, rfl⟩ := List.mem_map.mp hd; exact .int _
    simp only [List.mem_cons, List.not_mem_nil, or_false] at hd
    rcases hd with rfl | rfl | rfl | rfl | rfl | rfl | rfl | rfl | rfl
    · exact ⟨tp [_, _], rfl⟩
    · exact ⟨tp [_, _], rfl⟩
    · exact ⟨.tup _ fun d hd => by
        simp only [List.mem_cons, List.not_mem_nil, or_false] at hd
        rcases hd with rfl | rfl
        · exact .bl _
        · exact .int _, rfl⟩
    · exact ⟨tp [_, _], rfl⟩
    · exact ⟨tp [_], rfl⟩
    · exact ⟨.lst _, rfl⟩
    · exact ⟨.non, rfl⟩
    · exact ⟨tp [_, _, _], rfl⟩
    · exact ⟨.str _, rfl⟩
  refine wp_cut (fun ρ s' => s' = s3 ∧ ρ = [.val (.ref k), .val bd, .val (.tup ds), .own (.lst ds), .val (.int (a : Int)), .val (.int (b : Int)), .val (.lst L), .no]) (by rw [hLe]; simp [hlen]) ?_
  rintro ρ s4 ⟨rfl, rfl⟩
  refine wp_cut (fun ρ s' => Hn k s' ∧ ∃ es : List D, es.length ≤ 101 ∧ (∀ d ∈ es, Pl d ∧ d.isMut = false) ∧ ρ = [.val (.ref k), .val bd, .val (.tup ds), .own (.lst es), .val (.int (a : Int)), .val (.int (b : Int)), .val (.lst L), .no]) ?_ ?_
  · have hlp : lenD [.lst ds] = some (.int (ds.length : Int)) := by simp [lenD]
    have se : see1 pAll (.own (.lst ds)) = some (.lst ds) := see_leaf dm
    have ad : addD (.int (ds.length : Int)) (.int 1) = some (.int ((ds.length + 1 : Nat) : Int)) := by simp
    unfold sInsO
    simp [se, hlp]
    refine wp_draw hs (by omega) (by omega) fun j s3 h0 h1 hs3 => ?_
    obtain ⟨i, hi, rfl⟩ := toNatI (n := ds.length + 1) h0 (by omega)
    simp [intOf]
    refine wp_draw hs3 (by omega) (by omega) fun j s3 h0 h1 hs4 => ?_
    obtain ⟨c, hc, rfl⟩ := toNatI (n := 9) h0 h1
    have hc2 : c < L.length := by omega
    rw [ixL hc2]
    have hcp := hLp _ (List.getElem_mem hc2)
    generalize L[c] = x at hcp
    have hg : mutO yes insG ds [.int (i : Int), x] = some (.non, ds.take i ++ [x] ++ ds.drop i) := by
      have h9 : (9223372036854775808 : Int) = 2 ^ 63 := by decide
      have fl : flatL (ds.take i ++ [x] ++ ds.drop i) = true := List.all_eq_true.mpr fun d hd => by
        simp only [List.mem_append, List.mem_singleton] at hd
        have : d.isMut = false := by
          rcases hd with (hd | rfl) | hd
          · exact dm d (List.mem_of_mem_take hd)
          · exact hcp.2
          · exact dm d (List.mem_of_mem_drop hd)
        simp [this]
      unfold mutO
      rw [if_pos (by rw [df]; rfl)]
      have : insG ds [.int (i : Int), x] = some (.non, ds.take i ++ [x] ++ ds.drop i) := by
        unfold insG
        simp only
        rw [if_pos ⟨by rw [sizeLine_eq]; omega, by omega, by omega⟩]
        rfl
      rw [this, Option.bind_some, if_pos (by rw [fl]; rfl)]
    simp [hg]
    refine ⟨hs4, by omega, fun d hd => ?_⟩
    · rcases hd with hd | rfl | hd
      · exact ⟨dp d (List.mem_of_mem_take hd), dm d (List.mem_of_mem_take hd)⟩
      · exact hcp
      · exact ⟨dp d (List.mem_of_mem_drop hd), dm d (List.mem_of_mem_drop hd)⟩
  rintro ρ s5 ⟨hs, es, el, ep, rfl⟩
  have st := stripL_leaf (ds := es) (fun d hd => (ep d hd).2)
  have er : revD (.tup ds) = some (.tup ds.reverse) := rfl
  have el2 : listD [.tup ds] = some (.lst ds) := rfl
  have ec : slD (.tup ds) none (some (1 : Int)) = some (.tup (ds.take 1)) := by
    have := cut_to (g := fun d : D => d) (r := ds) (n := 1)
    simpa using this
  have ea : addD (.tup ds) (.tup (ds.take 1)) = some (.tup (ds ++ ds.take 1)) := addTz (by simp; omega)
  obtain ⟨T, hTe⟩ : ∃ T, T = [D.tup es, .tup es, .tup es, .tup ds.reverse, .lst ds, .non, .int 5, .tup (ds ++ ds.take 1)] := ⟨_, rfl⟩
  have hT : T.length = 8 := by rw [hTe]; rfl
  have hTp : ∀ d ∈ T, PlS d := fun d hd => by
    rw [hTe] at hd
    have tp : PlS (.tup es) := ⟨.tup _ fun d hd => (ep d hd).1, fun xs e => by cases e; omega⟩
    simp only [List.mem_cons, List.not_mem_nil, or_false] at hd
    rcases hd with rfl | rfl | rfl | rfl | rfl | rfl | rfl | rfl
    · exact tp
    · exact tp
    · exact tp
    · exact ⟨.tup _ fun d hd => dp d (List.mem_reverse.mp hd), fun xs e => by cases e; simp; omega⟩
    · exact ⟨.lst _, fun xs e => nomatch e⟩
    · exact ⟨.non, fun xs e => nomatch e⟩
    · exact ⟨.int _, fun xs e => nomatch e⟩
    · exact ⟨.tup _ fun d hd => (List.mem_append.mp hd).elim (dp d) fun h => dp d (List.mem_of_mem_take h), fun xs e => by cases e; simp; omega⟩
  have key : wp (sFrz 3 (seqF (sSet 7 (xLst (aC (xB tupleD (aC (eVar 3) aN)) (aC (xB tupleD (aC (eVar 3) aN)) (aC (xB tupleD (aC (eVar 3) aN)) (aC (xRev (eVar 2)) (aC (xB listD (aC (eVar 2) aN)) (aC (eC D.non) (aC (eC (D.int 5)) (aC (xOp addD (eVar 2) (xSl (eVar 2) oN (oS (eC (D.int 1))))) aN))))))))))
        (sRet pHide (xIx (eVar 7) (xCall m__law_draw (aC (eVar 0) (aC (eC (D.int 8)) aN)))))) [.val (.ref k), .val bd, .val (.tup ds), .own (.lst es), .val (.int (a : Int)), .val (.int (b : Int)), .val (.lst L), .no] : M (MemS K cl) Fl) (fun fl s' => ∃ d, fl = .rt d ∧ PlS d ∧ Hn k s') s5 := by
    have ef : (sFrz 3 (seqF (sSet 7 (xLst (aC (xB tupleD (aC (eVar 3) aN)) (aC (xB tupleD (aC (eVar 3) aN)) (aC (xB tupleD (aC (eVar 3) aN)) (aC (xRev (eVar 2)) (aC (xB listD (aC (eVar 2) aN)) (aC (eC D.non) (aC (eC (D.int 5)) (aC (xOp addD (eVar 2) (xSl (eVar 2) oN (oS (eC (D.int 1))))) aN))))))))))
        (sRet pHide (xIx (eVar 7) (xCall m__law_draw (aC (eVar 0) (aC (eC (D.int 8)) aN)))))) [.val (.ref k), .val bd, .val (.tup ds), .own (.lst es), .val (.int (a : Int)), .val (.int (b : Int)), .val (.lst L), .no] : M (MemS K cl) Fl) = (seqF (sSet 7 (xLst (aC (xB tupleD (aC (eVar 3) aN)) (aC (xB tupleD (aC (eVar 3) aN)) (aC (xB tupleD (aC (eVar 3) aN)) (aC (xRev (eVar 2)) (aC (xB listD (aC (eVar 2) aN)) (aC (eC D.non) (aC (eC (D.int 5)) (aC (xOp addD (eVar 2) (xSl (eVar 2) oN (oS (eC (D.int 1))))) aN))))))))))
        (sRet pHide (xIx (eVar 7) (xCall m__law_draw (aC (eVar 0) (aC (eC (D.int 8)) aN)))))) [.val (.ref k), .val bd, .val (.tup ds), .val (.lst es), .val (.int (a : Int)), .val (.int (b : Int)), .val (.lst L), .no] := by
      simp [frzS, strip_lst, st]
    rw [ef]
    have et : tupleD [.lst es] = some (.tup es) := rfl
    refine wp_cut (fun ρ s' => s' = s5 ∧ ρ = [.val (.ref k), .val bd, .val (.tup ds), .val (.lst es), .val (.int (a : Int)), .val (.int (b : Int)), .val (.lst L), .val (.lst T)]) (by rw [hTe]; simp [et, er, el2, ec, ea]) ?_
    rintro ρ s6 ⟨rfl, rfl⟩
    simp
    refine wp_draw hs (by omega) (by omega) fun j s3 h0 h1 hs4 => ?_
    obtain ⟨c, hc, rfl⟩ := toNatI (n := 8) h0 h1
    have hc2 : c < T.length := by omega
    rw [ixL hc2]
    simp
    exact ⟨hTp _ (List.getElem_mem hc2), hs4⟩
  refine wp_mono key fun fl s' h => ?_
  obtain ⟨d, rfl, h1, h2⟩ := h
  exact q d s' h1 h2
end
end LW
namespace LW
open PySem PySem.Spec PyProof.Rows L2 RZ DN
section
variable {K : PySem.W.Frag} {cl : CTab}
theorem wp_bentR45 {k : Nat} {rs : List Rw} {R : D → Mem → Prop} {s : Mem} (hs : Hn k s) (h1 : 1 ≤ rs.length) (hb : rs.length ≤ 10) (hr : ∀ r ∈ rs, RowS r ∧ r.length ≤ 10) (q : ∀ d s', OkRs d → Hn k s' → R d s') :
    wp (m__law_bent_rows (K := K) (cl := cl) [.ref k, .tup (rs.map rD)]) R s := by
  simp only [m__law_bent_rows, b__law_bent_rows, s_runF, startE]
  obtain ⟨ds, hds⟩ : ∃ ds, ds = rs.map rD := ⟨_, rfl⟩
  have dl : ds.length = rs.length := by rw [hds]; simp
  have dp : ∀ d ∈ ds, OkR d := fun d hd => by rw [hds] at hd; obtain ⟨r, hr2, rfl⟩ := List.mem_map.mp hd; exact okR_row (by have := (hr r hr2).2; omega)
  have dr : ∀ a (h : a < ds.length), ∃ r : Rw, r.length ≤ 10 ∧ ds[a] = rD r := fun a h => by
    subst hds
    have ha : a < rs.length := by simpa using h
    exact ⟨rs[a], (hr _ (List.getElem_mem ha)).2, by simp⟩
  have hlen : lenD [.tup ds] = some (.int (ds.length : Int)) := by simp [lenD]
  rw [← hds]
  clear hds
  refine wp_bind (wp_cut (fun ρ s' => Hn k s' ∧ ∃ a : Nat, a < ds.length ∧ ρ = [.val (.ref k), .val (.tup ds), .val (.int (a : Int)), .no, .no, .no]) ?_ ?_)
  · simp [hlen]
    refine wp_draw hs (by omega) (by omega) fun j s3 h0 h1 hs3 => ?_
    obtain ⟨a, ha, rfl⟩ := toNatI (n := ds.length) h0 h1
    exact ⟨hs3, a, ha, rfl⟩
  rintro ρ s1 ⟨hs, a, ha, rfl⟩
  obtain ⟨r, rl, er⟩ := dr a ha
  have eix : ixD (.tup ds) (.int (a : Int)) = some (rD r) := by rw [ixT ha, er]
  refine wp_cut (fun ρ s' => s' = s1 ∧ ρ = [.val (.ref k), .val (.tup ds), .val (.int (a : Int)), .val (rD r), .no, .no]) (by simp [eix]) ?_
  rintro ρ s2 ⟨rfl, rfl⟩
  have c1 : slD (rD r) (some (1 : Int)) none = some (rD (r.drop 1)) := sl_drop (k := 1)
  have lr : lenD [rD r] = some (.int (r.length : Int)) := by
    show some (D.int ((r.map D.str).length : Int)) = _
    rw [List.length_map]
  have a0 : addD (.tup [.str "x"]) (rD r) = some (rD ("x" :: r)) := by
    show addD (.tup [.str "x"]) (.tup (r.map .str)) = _
    rw [addTz (by simp; omega)]
    rfl
  have a1 : ∀ w : D, addD (rD r) (.tup [w]) = some (.tup (r.map .str ++ [w])) := fun w => by
    show addD (.tup (r.map .str)) (.tup [w]) = _
    rw [addTz (by simp; omega)]
  have el : listD [rD r] = some (.lst (r.map .str)) := rfl
  obtain ⟨L, hLe⟩ : ∃ L, L = [rD (r.drop 1), rD ("x" :: r), .lst (r.map .str), .tup (r.map .str ++ [.str ""]), .tup (r.map .str ++ [.int 5]), .non, .tup (r.map .str ++ [.str "A"])] := ⟨_, rfl⟩
  have hL : L.length = 7 := by rw [hLe]; rfl
  have hLp : ∀ d ∈ L, OkR d := fun d hd => by
    rw [hLe] at hd
    simp only [List.mem_cons, List.not_mem_nil, or_false] at hd
    rcases hd with rfl | rfl | rfl | rfl | rfl | rfl | rfl
    · exact okR_row (by simp; omega)
    · exact okR_row (by simp; omega)
    · exact ⟨.lst _, rfl, fun ws e => nomatch e⟩
    · exact okR_app (by omega) (.inl ⟨_, rfl⟩)
    · exact okR_app (by omega) (.inr ⟨_, rfl⟩)
    · exact ⟨.non, rfl, fun ws e => nomatch e⟩
    · exact okR_app (by omega) (.inl ⟨_, rfl⟩)
  have fL : ∀ L : List D, (∀ d ∈ L, OkR d) → DN.flatB (.lst L) = true := fun L h => List.all_eq_true.mpr fun d hd => by
    have := (h d hd).2.1
    simp [this]
  refine wp_cut (fun ρ s' => s' = s2 ∧ ρ = [.val (.ref k), .val (.tup ds), .val (.int (a : Int)), .val (rD r), .own (.lst L), .no]) ?_ ?_
  · have f1 := fL L hLp
    rw [hLe] at f1 ⊢
    simp [c1, a0, a1, el]
    rw [wp_guard (by simpa using f1)]
    exact ⟨rfl, rfl⟩
  rintro ρ s3 ⟨rfl, rfl⟩
  obtain ⟨m, hm⟩ : ∃ m : Nat, 61 = r.length + m := ⟨61 - r.length, by omega⟩
  have sb : subD (.int 61) (.int (r.length : Int)) = some (.int (m : Int)) := by
    have : (61 : Int) - (r.length : Int) = (m : Int) := by omega
    simp [this]
  have am : addD (rD r) (.tup (List.replicate m (.str "a"))) = some (.tup (r.map .str ++ List.replicate m (.str "a"))) := by
    show addD (.tup (r.map .str)) (.tup _) = _
    rw [addTz (by simp; omega)]
  have last : OkR (.tup (r.map .str ++ List.replicate m (.str "a"))) := okR_tup (by simp; omega) fun w hw => by
    rcases List.mem_append.mp hw with hw | hw
    · obtain ⟨z, _, rfl⟩ := List.mem_map.mp hw; exact .inl ⟨z, rfl⟩
    · rw [List.eq_of_mem_replicate hw]; exact .inl ⟨_, rfl⟩
  obtain ⟨L2, hL2⟩ : ∃ L2, L2 = L ++ [.tup (r.map .str ++ List.replicate m (.str "a"))] := ⟨_, rfl⟩
  have hL2l : L2.length = 8 := by rw [hL2]; simp [hL]
  have hL2p : ∀ d ∈ L2, OkR d := fun d hd => by
    rw [hL2] at hd
    rcases List.mem_append.mp hd with hd | hd
    · exact hLp d hd
    · rw [List.mem_singleton.mp hd]; exact last
  refine wp_cut (fun ρ s' => s' = s3 ∧ ρ = [.val (.ref k), .val (.tup ds), .val (.int (a : Int)), .val (rD r), .own (.lst L2), .no]) ?_ ?_
  · have z : L.length < sizeLine := by rw [hL, sizeLine_eq]; omega
    have mu := rep1 (d := .str "a") (n := m) (by omega) (by omega)
    rw [hL2]
    simp [lr, sb, mu, am]
    rw [wp_guard (by simp [D.isMut, z])]
    exact ⟨rfl, rfl⟩
  rintro ρ s4 ⟨rfl, rfl⟩
  clear hLe hLp hL2
  have st := stripL_leaf (ds := L2) (fun d hd => (hL2p d hd).2.1)
  have t1 : slD (.tup ds) none (some (a : Int)) = some (.tup (ds.take a)) := by
    have := cut_to (g := fun d : D => d) (r := ds) (n := a)
    simpa using this
  have t2 : slD (.tup ds) (some ((a : Int) + 1)) none = some (.tup (ds.drop (a + 1))) := by
    have := cut_from (g := fun d : D => d) (r := ds) (n := a + 1)
    simpa using this
  have t3 : slD (.tup ds) (some (1 : Int)) none = some (.tup (ds.drop 1)) := by
    have := cut_from (g := fun d : D => d) (r := ds) (n := 1)
    simpa using this
  have t4 : addD (.tup ds) (.tup [.tup []]) = some (.tup (ds ++ [.tup []])) := addTz (by simp; omega)
  have t5 : listD [.tup ds] = some (.lst ds) := rfl
  have key : ∀ (REST : SEnv → M (MemS K cl) Fl) (R : Fl → Mem → Prop) s, wp (REST [.val (.ref k), .val (.tup ds), .val (.int (a : Int)), .val (rD r), .val (.lst L2), .no]) R s → wp (sFrz 4 REST [.val (.ref k), .val (.tup ds), .val (.int (a : Int)), .val (rD r), .own (.lst L2), .no]) R s := fun REST R s h => by
    simp [frzS, strip_lst, st]
    exact h
  refine key _ _ _ ?_
  refine wp_cut (fun ρ s' => Hn k s' ∧ ∃ T : List D, T.length = 6 ∧ (∀ d ∈ T, OkRs d) ∧ ρ = [.val (.ref k), .val (.tup ds), .val (.int (a : Int)), .val (rD r), .val (.lst L2), .val (.lst T)]) ?_ ?_
  · simp [t1]
    refine wp_draw hs (by omega) (by omega) fun j s3 h0 h1 hs4 => ?_
    obtain ⟨c, hc, rfl⟩ := toNatI (n := 8) h0 h1
    have hc2 : c < L2.length := by omega
    rw [ixL hc2]
    have hcp := hL2p _ (List.getElem_mem hc2)
    generalize L2[c] = x at hcp
    have t6 : addD (.tup (ds.take a)) (.tup [x]) = some (.tup (ds.take a ++ [x])) := addTz (by simp; omega)
    have t7 : addD (.tup (ds.take a ++ [x])) (.tup (ds.drop (a + 1))) = some (.tup (ds.take a ++ [x] ++ ds.drop (a + 1))) := addTz (by simp; omega)
    rw [List.append_assoc] at t7
    simp only [List.singleton_append] at t7
    simp [t6, t7, t2, t3, t4, t5]
    have tp : ∀ xs : List D, xs.length ≤ 100 → (∀ x ∈ xs, OkR x) → OkRs (.tup xs) := fun xs h g => ⟨.tup _ fun x hx => (g x hx).1, fun ys e => by cases e; exact ⟨h, g⟩⟩
    have okn : OkR (.tup []) := okR_tup (by simp) fun w h => nomatch h
    refine ⟨hs4, ?_, ?_, ?_, ?_, ?_, ?_⟩
    · refine tp _ (by simp; omega) fun y hy => ?_
      simp only [List.mem_append, List.mem_cons] at hy
      rcases hy with hy | rfl | hy
      · exact dp y (List.mem_of_mem_take hy)
      · exact hcp
      · exact dp y (List.mem_of_mem_drop hy)
    · exact tp _ (by simp; omega) fun y hy => dp y (List.mem_of_mem_tail hy)
    · refine tp _ (by simp; omega) fun y hy => ?_
      rcases List.mem_append.mp hy with hy | hy
      · exact dp y hy
      · rw [List.mem_singleton.mp hy]; exact okn
    · exact ⟨.lst _, fun xs e => nomatch e⟩
    · exact ⟨.non, fun xs e => nomatch e⟩
    · exact tp _ (by simp) fun y hy => nomatch hy
  rintro ρ s5 ⟨hs, T, hT, hTp, rfl⟩
  simp
  refine wp_draw hs (by omega) (by omega) fun j s6 h0 h1 hs6 => ?_
  by_cases hj : j = 0
  · simp [hj]
    refine wp_draw hs6 (by omega) (by omega) fun c s7 h0 h1 hs7 => ?_
    obtain ⟨c, hc, rfl⟩ := toNatI (n := 9) h0 h1
    obtain ⟨e, he, em⟩ : ∃ e : Nat, e < 6 ∧ min2D [.int 5, .int (c : Int)] = some (.int (e : Int)) := by
      refine ⟨if c < 5 then c else 5, by split <;> omega, ?_⟩
      show some (D.int _) = _
      congr 2
      split <;> split <;> omega
    rw [em]
    simp
    have hc2 : e < T.length := by omega
    rw [ixL hc2]
    exact q _ _ (hTp _ (List.getElem_mem hc2)) hs7
  · simp [hj]
    have hc2 : 0 < T.length := by omega
    have := ixL hc2
    have this : ixD (.lst T) (.int 0) = some T[0] := this
    simp only [this]
    exact q _ _ (hTp _ (List.getElem_mem hc2)) hs6
end
end LW
namespace LW
open PySem PySem.Spec PyProof.Rows L2 RZ DN
def ownN (l : List Nat) : Sl := .own (.lst (iL l))
theorem iL_leaf {l : List Nat} : ∀ d ∈ iL l, d.isMut = false := fun d hd => by obtain ⟨p, _, rfl⟩ := List.mem_map.mp hd; rfl
theorem see_ownN {l : List Nat} : see1 pAll (ownN l) = some (.lst (iL l)) := see_leaf iL_leaf
theorem asc_range {P : List Pr} : ((List.range' 1 (P.length - 1)).all fun k => ltPr (P.getD (k - 1) (0, 0)) (P.getD k (0, 0))) = ascPr P := by
  have e : P.zip (P.drop 1) = (List.range' 1 (P.length - 1)).map fun k => (P.getD (k - 1) (0, 0), P.getD k (0, 0)) := by
    refine List.ext_getElem (by simp) fun i h1 h2 => ?_
    have hi : i + 1 < P.length := by simp at h1; omega
    simp [List.getElem_range', Nat.add_comm 1 i, hi, show i < P.length by omega]
  unfold ascPr
  rw [e, List.all_map]
  rfl
section
variable {K : PySem.W.Frag} {cl : CTab}
theorem appN {i : Nat} {ρ : SEnv} {l : List Nat} {x : Nat} {f : DN.Env → M (MemS K cl) D} (hρ : ρ[i]? = some (ownN l)) (hf : f (seeE pHide ρ) = M.pure (.int (x : Int))) (hz : l.length < 10000) :
    (sApp pHide yes i f ρ : M (MemS K cl) Fl) = M.pure (.nx (ρ.set i (ownN (l ++ [x])))) := by
  unfold ownN at hρ ⊢
  unfold sApp
  simp only [hρ]
  rw [hf, DN.bind_pure]
  unfold guardM
  have e : iL l ++ [D.int (x : Int)] = iL (l ++ [x]) := by simp
  rw [e, if_pos]
  rw [Bool.and_eq_true]
  exact ⟨rfl, decide_eq_true (by rw [List.length_map, sizeLine_eq]; omega)⟩
noncomputable def in3 : SEnv → M (MemS K cl) Fl := seqF (sIf pAll (tOo (tTr (xUn (isD "bool") (eVar 4))) (tOo (tNt (tTr (xUn (isD "int") (eVar 4)))) (tOo (tNt (tCh leI ltDT (eC (.int 0)) (eVar 4) (xB lenD (aC (eVar 0) (aN))))) (tCm inK (eVar 4) (eVar 2))))) (sRet pHide (eC (.bl false))) (sPass)) (sApp pHide yes 2 (eVar 4))
theorem in3_step {bs : List Bd} {th x : D} {l : List Nat} {x3 x5 : Sl} (hx : Pl x) (hl : l.length < 5000) :
    (∃ i : Nat, x = .int (i : Int) ∧ i < bs.length ∧ i ∉ l ∧ (in3 [.val (.tup (bs.map Bd.d)), .val th, ownN l, x3, .val x, x5] : M (MemS K cl) Fl) = M.pure (.nx [.val (.tup (bs.map Bd.d)), .val th, ownN (l ++ [i]), x3, .val x, x5])) ∨
    ((¬ ∃ i : Nat, x = .int (i : Int) ∧ i < bs.length ∧ i ∉ l) ∧ (in3 [.val (.tup (bs.map Bd.d)), .val th, ownN l, x3, .val x, x5] : M (MemS K cl) Fl) = M.pure (.rt (.bl false))) := by
  have hlen : lenD [.tup (bs.map Bd.d)] = some (.int (bs.length : Int)) := by simp [lenD]
  cases hx with
  | int i =>
    have li : ∀ a b : Int, ltDT (.int a) (.int b) = some (.bl (decide (a < b))) := fun a b => ltDT_int
    by_cases h0 : 0 ≤ i
    · obtain ⟨i, rfl⟩ : ∃ n : Nat, i = n := ⟨i.toNat, by omega⟩
      by_cases h1 : i < bs.length
      · by_cases h2 : i ∈ l
        · refine .inr ⟨fun ⟨j, e, _, h⟩ => ?_, ?_⟩
          · have : i = j := by injection e with e; omega
            subst this; exact h h2
          · refine pure_of_wp fun s => ?_
            have ik : inK (.int (i : Int)) (.lst (iL l)) = some (.bl (decide (i ∈ l))) := in_iL
            simp [in3, hlen, li, h1, see_ownN, in_iL, h2]
        · refine .inl ⟨i, rfl, h1, h2, ?_⟩
          refine pure_of_wp fun s => ?_
          have ik : inK (.int (i : Int)) (.lst (iL l)) = some (.bl (decide (i ∈ l))) := in_iL
          unfold in3
          refine wp_cut (fun ρ s' => s' = s ∧ ρ = [.val (.tup (bs.map Bd.d)), .val th, ownN l, x3, .val (.int (i : Int)), x5]) (by simp [hlen, li, h1, see_ownN, in_iL, h2]) ?_
          rintro ρ s1 ⟨rfl, rfl⟩
          rw [appN (l := l) (x := i) rfl (by simp) (by omega)]
          exact ⟨rfl, rfl⟩
      · refine .inr ⟨fun ⟨j, e, h, _⟩ => ?_, ?_⟩
        · have : i = j := by injection e with e; omega
          omega
        · refine pure_of_wp fun s => ?_
          have h1' : ¬ (i : Int) < bs.length := by omega
          simp [in3, hlen, li, h1, h1']
    · refine .inr ⟨fun ⟨j, e, h, _⟩ => ?_, ?_⟩
      · injection e with e; omega
      · refine pure_of_wp fun s => ?_
        simp [in3, hlen, h0]
  | _ =>
    refine Or.inr (And.intro (fun ⟨j, e, _⟩ => nomatch e) ?_)
    refine pure_of_wp fun s => ?_
    simp [in3]
end
end LW
namespace LW
open PySem PySem.Spec PyProof.Rows L2 RZ DN
section
variable {K : PySem.W.Frag} {cl : CTab}
theorem wp_lift_iff_some {α : Type} {o : Option α} {a : α} {R : α → Mem → Prop} {s : Mem} (h : o = some a) : wp (lift o : M (MemS K cl) α) R s ↔ R a s := by rw [h]; exact Iff.rfl
theorem pair_loop {bs : List Bd} {th a b : D} {l : List Nat} {x3 x4 x5 : Sl} (ha : Pl a) (hb : Pl b) (hl : l.length < 4000) :
    (∃ i j : Nat, a = .int (i : Int) ∧ b = .int (j : Int) ∧ i < bs.length ∧ i ∉ l ∧ j < bs.length ∧ j ∉ l ++ [i] ∧ (forL (aName 4) in3 [a, b] [.val (.tup (bs.map Bd.d)), .val th, ownN l, x3, x4, x5] : M (MemS K cl) Fl) = M.pure (.nx [.val (.tup (bs.map Bd.d)), .val th, ownN (l ++ [i] ++ [j]), x3, .val b, x5])) ∨
    ((¬ ∃ i j : Nat, a = .int (i : Int) ∧ b = .int (j : Int) ∧ i < bs.length ∧ i ∉ l ∧ j < bs.length ∧ j ∉ l ++ [i]) ∧ (forL (aName 4) in3 [a, b] [.val (.tup (bs.map Bd.d)), .val th, ownN l, x3, x4, x5] : M (MemS K cl) Fl) = M.pure (.rt (.bl false))) := by
  rcases in3_step (K := K) (cl := cl) (bs := bs) (th := th) (x := a) (l := l) (x3 := x3) (x5 := x5) ha (by omega) with ⟨i, ea, hi, hil, e1⟩ | ⟨no, e1⟩
  · rcases in3_step (K := K) (cl := cl) (bs := bs) (th := th) (x := b) (l := l ++ [i]) (x3 := x3) (x5 := x5) hb (by simp; omega) with ⟨j, eb, hj, hjl, e2⟩ | ⟨no, e2⟩
    · refine .inl ⟨i, j, ea, eb, hi, hil, hj, hjl, ?_⟩
      unfold forL
      rw [s_aName]
      show M.bind (in3 [.val (.tup (bs.map Bd.d)), .val th, ownN l, x3, .val a, x5]) _ = _
      rw [e1, DN.bind_pure]
      simp only
      unfold forL
      rw [s_aName]
      show M.bind (in3 [.val (.tup (bs.map Bd.d)), .val th, ownN (l ++ [i]), x3, .val b, x5]) _ = _
      rw [e2, DN.bind_pure]
      rfl
    · refine .inr ⟨fun ⟨i2, j, ea2, eb, hi2, hil2, hj, hjl⟩ => no ⟨j, eb, hj, ?_⟩, ?_⟩
      · have : i2 = i := by rw [ea] at ea2; injection ea2 with z; omega
        rw [this] at hjl; exact hjl
      unfold forL
      rw [s_aName]
      show M.bind (in3 [.val (.tup (bs.map Bd.d)), .val th, ownN l, x3, .val a, x5]) _ = _
      rw [e1, DN.bind_pure]
      simp only
      unfold forL
      rw [s_aName]
      show M.bind (in3 [.val (.tup (bs.map Bd.d)), .val th, ownN (l ++ [i]), x3, .val b, x5]) _ = _
      rw [e2, DN.bind_pure]
  · refine .inr ⟨fun ⟨i2, j, ea2, eb, hi2, hil2, hj, hjl⟩ => no ⟨i2, ea2, hi2, hil2⟩, ?_⟩
    unfold forL
    rw [s_aName]
    show M.bind (in3 [.val (.tup (bs.map Bd.d)), .val th, ownN l, x3, .val a, x5]) _ = _
    rw [e1, DN.bind_pure]
inductive J45 (bs : List Bd) (xs : List D) : List D → SEnv → Prop
  | mk (P : List Pr) (rest : List D) (x3 x4 : Sl) (e : xs = P.map prD ++ rest) (hP : ∀ p ∈ P, p ∈ allP bs) (nd : (Vs P).Nodup) :
    J45 bs xs rest [.val (.tup (bs.map Bd.d)), .val (.tup xs), ownN (Vs P), x3, x4, .no]
theorem good_at {bs : List Bd} {P : List Pr} {d : D} {rest : List D} (h : isPairingD bs (.tup (P.map prD ++ d :: rest)) = true) : isPrD bs.length d = true ∧ toPr d ∈ allP bs ∧ (toPr d).1 ∉ Vs P ∧ (toPr d).2 ∉ Vs P :=
  let g := goodD_at h; ⟨g.1, g.2.1, g.2.2.1, g.2.2.2.1⟩
theorem e_lispZ {d : D} {bs : List Bd} (hn : bs.length ≤ 1000) (hd : Pl d) (hl : ∀ xs, d = .tup xs → xs.length ≤ 1000) : (m__law_is_pairing_v3 [.tup (bs.map Bd.d), d] : M (MemS K cl) D) = M.pure (.bl (isPairingD bs d)) := by
  cases hd with
  | tup xs hx =>
    have hl := hl xs rfl
    have hbl : lenD [.tup (bs.map Bd.d)] = some (.int (bs.length : Int)) := by simp [lenD]
    have hxl : lenD [.tup xs] = some (.int (xs.length : Int)) := by simp [lenD]
    refine pure_of_wp fun s => ?_
    simp only [m__law_is_pairing_v3, b__law_is_pairing_v3, s_runF, startE]
    refine wp_bind (wp_cut (fun ρ s' => s' = s ∧ ρ = [.val (.tup (bs.map Bd.d)), .val (.tup xs), .no, .no, .no, .no]) (by simp) ?_)
    rintro ρ s1 ⟨rfl, rfl⟩
    refine wp_cut (fun ρ s' => s' = s1 ∧ ρ = [.val (.tup (bs.map Bd.d)), .val (.tup xs), ownN (Vs []), .no, .no, .no]) (by simp; rfl) ?_
    rintro ρ s2 ⟨rfl, rfl⟩
    refine wp_cut (fun ρ s' => s' = s2 ∧ ∃ (P : List Pr) (x3 x4 : Sl), xs = P.map prD ∧ (∀ p ∈ P, p ∈ allP bs) ∧ (Vs P).Nodup ∧ ρ = [.val (.tup (bs.map Bd.d)), .val (.tup xs), ownN (Vs P), x3, x4, .no]) ?_ ?_
    · have ex : iOf anyI (eVar 1) (seeE pHide [.val (.tup (bs.map Bd.d)), .val (.tup xs), ownN (Vs []), .no, .no, .no]) = (M.pure xs : M (MemS K cl) _) := by simp [anyI]
      unfold sFor
      rw [ex, DN.bind_pure]
      refine wp_forI (fun r ρ s' => s' = s2 ∧ J45 bs xs r ρ) ⟨rfl, .mk [] xs _ _ rfl (fun p hp => nomatch hp) List.nodup_nil⟩ ?_ ?_
      · rintro d r ρ s' ⟨rfl, hJ⟩
        cases hJ with
        | mk P _ x3 x4 e hP nd =>
        refine ⟨_, s_aName, ?_⟩
        rw [show setsS [.val (.tup (bs.map Bd.d)), .val (.tup xs), ownN (Vs P), x3, x4, .no] [(3, d)] = [.val (.tup (bs.map Bd.d)), .val (.tup xs), ownN (Vs P), .val d, x4, .no] from rfl]
        have hpl : Pl d := hx d (by rw [e]; simp)
        have bad : (isPairingD bs (.tup xs) = true → False) → isPairingD bs (.tup xs) = false := fun h => by
          rw [Bool.eq_false_iff]; exact h
        have at_ : isPairingD bs (.tup xs) = true → _ := fun g => good_at (rest := r) (by rw [← e]; exact g)
        have hpn : P.length ≤ 1000 := by
          have := congrArg List.length e
          simp at this; omega
        refine wp_cut (fun ρ s1 => s1 = s' ∧ (∃ a b : D, d = .tup [a, b]) ∧ ρ = [.val (.tup (bs.map Bd.d)), .val (.tup xs), ownN (Vs P), .val d, x4, .no]) ?_ ?_
        · cases hpl with
          | tup ds hds =>
            by_cases hl2 : ds.length = 2
            · obtain ⟨a, b, rfl⟩ : ∃ a b, ds = [a, b] := by
                match ds, hl2 with
                | [a, b], _ => exact ⟨a, b, rfl⟩
              simp
            · have hl3 : ¬ ((ds.length : Int) = 2) := by omega
              have no : isPairingD bs (.tup xs) = false := bad fun g => by
                have g1 := (pr_of (at_ g).1).1
                have g2 : D.tup ds = .tup [_, _] := g1
                injection g2 with g3
                exact hl2 (by rw [g3]; rfl)
              simp [hl3, no]
          | _ =>
            have no : isPairingD bs (.tup xs) = false := bad fun g => by
              have g1 := (pr_of (at_ g).1).1
              exact nomatch g1
            simp [no]
        rintro ρ s3 ⟨rfl, ⟨a, b, rfl⟩, rfl⟩
        have hab : Pl a ∧ Pl b := by
          cases hpl with
          | tup _ h => exact ⟨h a (by simp), h b (by simp)⟩
        have hvl : (Vs P).length = 2 * P.length := Vs_len
        refine wp_cut (fun ρ s1 => s1 = s3 ∧ (∃ i j : Nat, a = .int (i : Int) ∧ b = .int (j : Int) ∧ i < bs.length ∧ i ∉ Vs P ∧ j < bs.length ∧ j ∉ Vs P ++ [i] ∧ ρ = [.val (.tup (bs.map Bd.d)), .val (.tup xs), ownN (Vs P ++ [i] ++ [j]), .val (.tup [a, b]), .val b, .no])) ?_ ?_
        · have ex : iOf anyI (eVar 3) (seeE pHide [.val (.tup (bs.map Bd.d)), .val (.tup xs), ownN (Vs P), .val (.tup [a, b]), x4, .no]) = (M.pure [a, b] : M (MemS K cl) _) := by simp [anyI]
          rw [ex, DN.bind_pure]
          show wp (forL (aName 4) in3 [a, b] _) _ s3
          rcases pair_loop (K := K) (cl := cl) (bs := bs) (th := .tup xs) (l := Vs P) (x3 := .val (.tup [a, b])) (x4 := x4) (x5 := .no) hab.1 hab.2 (by omega) with ⟨i, j, ea, eb, hi, hil, hj, hjl, e1⟩ | ⟨no, e1⟩
          · rw [e1]
            exact ⟨rfl, i, j, ea, eb, hi, hil, hj, hjl, rfl⟩
          · have no : isPairingD bs (.tup xs) = false := bad fun g => by
              obtain ⟨g1, g2, g3, g4⟩ := at_ g
              obtain ⟨q1, q2, q3⟩ := pr_of g1
              obtain ⟨p, hp⟩ : ∃ p, p = toPr (.tup [a, b]) := ⟨_, rfl⟩
              rw [← hp] at q1 q2 q3 g3 g4
              have q4 : D.tup [a, b] = .tup [.int (p.1 : Int), .int (p.2 : Int)] := q1
              injection q4 with q5
              injection q5 with q6 q7
              injection q7 with q8
              refine no ⟨p.1, p.2, q6, q8, by omega, g3, q3, fun h => ?_⟩
              rcases List.mem_append.mp h with h | h
              · exact g4 h
              · have := List.mem_singleton.mp h; omega
            rw [e1, no]
            exact ⟨rfl, rfl⟩
        rintro ρ s4 ⟨rfl, i, j, rfl, rfl, hi, hil, hj, hjl, rfl⟩
        have tp : toPr (.tup [.int (i : Int), .int (j : Int)]) = (i, j) := rfl
        have ia : ixD (.tup [.int (i : Int), .int (j : Int)]) (.int 0) = some (.int (i : Int)) := rfl
        have ib : ixD (.tup [.int (i : Int), .int (j : Int)]) (.int 1) = some (.int (j : Int)) := rfl
        have e1 := List.getElem?_eq_getElem hi
        have e2 := List.getElem?_eq_getElem hj
        have hap := e_lare_pair3 (K := K) (cl := cl) (a := bs[i]) (b := bs[j])
        by_cases hij : i < j
        · have mem : (i, j) ∈ allP bs ↔ pairB bs[i] bs[j] = true := by
            rw [mem_allP, onB_eq e1 e2]
            exact ⟨fun h => h.2.2, fun h => ⟨hij, hj, h⟩⟩
          cases hp : pairB bs[i] bs[j] with
          | false =>
            have no : isPairingD bs (.tup xs) = false := bad fun g => by
              have := (at_ g).2.1
              rw [tp, mem, hp] at this
              cases this
            rw [hp] at hap
            simp [ia, ib, hij, ixBd e1, ixBd e2, hap, no]
          | true =>
            rw [hp] at hap
            simp [ia, ib, hij, ixBd e1, ixBd e2, hap]
            have hm := mem.mpr hp
            have ev : Vs P ++ [i, j] = Vs (P ++ [(i, j)]) := by rw [Vs_app]; rfl
            rw [show Vs P ++ i :: [j] = Vs (P ++ [(i, j)]) from ev]
            refine .mk (P ++ [(i, j)]) r _ _ (by rw [e]; simp) (fun p hp => ?_) ?_
            · rcases List.mem_append.mp hp with hp | hp
              · exact hP p hp
              · rw [List.mem_singleton.mp hp]; exact hm
            · rw [← ev, List.nodup_append]
              refine ⟨nd, by simp; omega, fun a ha b hb z => ?_⟩
              simp at hb
              subst z
              rcases hb with rfl | rfl
              · exact hil ha
              · exact hjl (List.mem_append_left _ ha)
        · have no : isPairingD bs (.tup xs) = false := bad fun g => by
            have := (pr_of (at_ g).1).2.1
            rw [tp] at this
            exact hij this
          simp [ia, ib, hij, no]
      · rintro ρ s' ⟨rfl, hJ⟩
        cases hJ with
        | mk P _ x3 x4 e hP nd =>
        exact ⟨rfl, P, _, _, by rw [e]; simp, hP, nd, rfl⟩
    rintro ρ s3 ⟨rfl, P, x3, x4, rfl, hP, nd, rfl⟩
    have hP2 : ∀ p ∈ P, p.1 < p.2 ∧ p.2 < bs.length := fun p hp => by
      obtain ⟨i, j⟩ := p
      have := mem_allP.mp (hP _ hp)
      exact ⟨this.1, this.2.1⟩
    have a1 : (P.map prD).all (isPrD bs.length) = true := by
      rw [List.all_eq_true]
      intro d hd
      obtain ⟨p, hp, rfl⟩ := List.mem_map.mp hd
      have := hP2 p hp
      simp [isPrD, isIntD, toI]
      omega
    have a2 : (P.all fun p => decide (p ∈ allP bs)) = true := List.all_eq_true.mpr fun p hp => decide_eq_true (hP p hp)
    have fin : isPairingD bs (.tup (P.map prD)) = ascPr P := by
      rw [isPairingD, a1, toPr_map5, goodP, a2, decide_eq_true nd]
      simp
    rw [fin]
    simp only [List.length_map] at hxl hl
    have r1 : range2 (.int 1) (.int (P.length : Int)) = some ((List.range' 1 (P.length - 1)).map fun j : Nat => .int (j : Int)) := rng2 (i := 1) (by omega) (by omega)
    have hix : ∀ k : Nat, k < P.length → ixD (.tup (P.map prD)) (.int (k : Int)) = some (prD (P.getD k (0, 0))) := fun k hk => by
      rw [ixT (by simpa using hk), List.getElem_map]
      simp [hk]
    obtain ⟨th, hth⟩ : ∃ th, th = D.tup (P.map prD) := ⟨_, rfl⟩
    rw [← hth] at hxl hix ⊢
    simp [hxl, r1]
    rw [compL_map (g := fun k : Nat => D.int (k : Int)) (k := fun k => .bl (ltPr (P.getD (k - 1) (0, 0)) (P.getD k (0, 0)))) (fun k hk => by
      have hk := List.mem_range'_1.mp hk
      have h1 := hix k (by omega)
      have h2 := hix (k - 1) (by omega)
      have e1 : ((k : Int) - 1) = ((k - 1 : Nat) : Int) := by omega
      rw [← e1] at h2
      simp [wipeE, h1, h2, ltDT_pr])]
    have := asc_range (P := P)
    rw [← this, wp_pure_iff, wp_lift_iff_some (allD_map (f := fun k => ltPr (P.getD (k - 1) (0, 0)) (P.getD k (0, 0))) (as := List.range' 1 (P.length - 1)))]
    exact ⟨rfl, rfl⟩
  | _ => simp [m__law_is_pairing_v3, b__law_is_pairing_v3, startE, isPairingD]
end
end LW
namespace LW
open PySem PySem.Spec PyProof.Rows L2 RZ DN
open Classical in
noncomputable def prefB (b : Bd) : D → Bool
  | .tup ws => decide ((D.tup (ws.take b.r.length)) = rD b.r)
  | _ => false
noncomputable def rowsB (bs : List Bd) : D → Bool
  | .tup xs => decide (xs.length = bs.length) && ((bs.zip xs).all fun p => isRowD 60 p.2 && prefB p.1 p.2)
  | _ => false
section
variable {K : PySem.W.Frag} {cl : CTab}
noncomputable def in4 : SEnv → M (MemS K cl) Fl := seqF (sIf pHide (tOo (tNt (tTr (xUn (isD "str") (eVar 4)))) (tNt (tCh leI leI (eC (.int 1)) (xB lenD (aC (eVar 4) (aN))) (eC (.int 20))))) (sRet pHide (eC (.bl false))) (sPass)) (sIf pHide (tNt (tTr (xB allD (aC (xLc [5] (aName 5) (tY) (xOp inK (eVar 5) (eC (.str "abcdefghijklmnopqrstuvwxyz"))) (iOf anyI (eVar 4))) (aN))))) (sRet pHide (eC (.bl false))) (sPass))
theorem in4_step {w : D} {x0 x1 x2 x3 x5 : Sl} (hw : (∃ z, w = .str z) ∨ ∃ i, w = .int i) :
    (isWordD 20 w = true ∧ (in4 [x0, x1, x2, x3, .val w, x5] : M (MemS K cl) Fl) = M.pure (.nx [x0, x1, x2, x3, .val w, x5])) ∨
    (isWordD 20 w = false ∧ (in4 [x0, x1, x2, x3, .val w, x5] : M (MemS K cl) Fl) = M.pure (.rt (.bl false))) := by
  rcases hw with ⟨z, rfl⟩ | ⟨i, rfl⟩
  · by_cases h1 : 1 ≤ z.length
    · by_cases h2 : z.length ≤ 20
      · have h1' : (1 : Int) ≤ z.length := by omega
        have h2' : (z.length : Int) ≤ 20 := by omega
        have ea := all_bools (f := fun c : Nat => !(Builtin.Str.occurrences "abcdefghijklmnopqrstuvwxyz" ⟨#[c]⟩ 0 (26 : Nat) 1).isEmpty) (l := z.cps.toList)
        have hw : isWordD 20 (.str z) = z.cps.toList.all fun c : Nat => !(Builtin.Str.occurrences "abcdefghijklmnopqrstuvwxyz" ⟨#[c]⟩ 0 (26 : Nat) 1).isEmpty := by
          simp [isWordD, wordB, h1, h2]
        have e1 : (in4 [x0, x1, x2, x3, .val (.str z), x5] : M (MemS K cl) Fl) = M.pure (if isWordD 20 (.str z) = true then .nx [x0, x1, x2, x3, .val (.str z), x5] else .rt (.bl false)) := by
          refine pure_of_wp fun s => ?_
          unfold in4
          simp [h1', h2']
          rw [compL_map (g := fun c : Nat => D.str ⟨#[c]⟩) (k := fun c => .bl (!(Builtin.Str.occurrences "abcdefghijklmnopqrstuvwxyz" ⟨#[c]⟩ 0 (26 : Nat) 1).isEmpty)) (fun c hc => by
            have := in_letter (c := c)
            simp [wipeE, this])]
          simp only [wp_pure_iff, ea, wp_lift_iff]
          rw [← hw]
          cases isWordD 20 (.str z) <;> simp
        cases hv : isWordD 20 (.str z) with
        | true => rw [hv] at e1; exact .inl ⟨rfl, e1⟩
        | false => rw [hv] at e1; exact .inr ⟨rfl, e1⟩
      · refine .inr ⟨by simp [isWordD, wordB, h2], ?_⟩
        refine pure_of_wp fun s => ?_
        have h1' : (1 : Int) ≤ z.length := by omega
        have h2' : ¬ (z.length : Int) ≤ 20 := by omega
        unfold in4
        simp [h1', h2']
    · refine .inr ⟨by simp [isWordD, wordB, h1], ?_⟩
      refine pure_of_wp fun s => ?_
      have h1' : ¬ (1 : Int) ≤ z.length := by omega
      unfold in4
      simp [h1']
  · refine .inr ⟨rfl, ?_⟩
    refine pure_of_wp fun s => ?_
    unfold in4
    simp
theorem in4_loop : ∀ {ws : List D} {x0 x1 x2 x3 x4 x5 : Sl}, (∀ w ∈ ws, (∃ z, w = .str z) ∨ ∃ i, w = .int i) →
    (ws.all (isWordD 20) = true ∧ ∃ y4, (forL (aName 4) in4 ws [x0, x1, x2, x3, x4, x5] : M (MemS K cl) Fl) = M.pure (.nx [x0, x1, x2, x3, y4, x5])) ∨
    (ws.all (isWordD 20) = false ∧ (forL (aName 4) in4 ws [x0, x1, x2, x3, x4, x5] : M (MemS K cl) Fl) = M.pure (.rt (.bl false)))
  | [], _, _, _, _, _, _, _ => .inl ⟨rfl, _, rfl⟩
  | w :: ws, x0, x1, x2, x3, x4, x5, h => by
    have step : (forL (aName 4) in4 (w :: ws) [x0, x1, x2, x3, x4, x5] : M (MemS K cl) Fl) = M.bind (in4 [x0, x1, x2, x3, .val w, x5]) fun fl => match fl with
      | .nx ρ' => forL (aName 4) in4 ws ρ'
      | .ct ρ' => forL (aName 4) in4 ws ρ'
      | .bk ρ' => M.pure (.nx ρ')
      | .rt d => M.pure (.rt d)
      | .ro d => M.pure (.ro d) := rfl
    rw [step]
    rcases in4_step (K := K) (cl := cl) (x0 := x0) (x1 := x1) (x2 := x2) (x3 := x3) (x5 := x5) (h w List.mem_cons_self) with ⟨h1, e1⟩ | ⟨h1, e1⟩
    · rw [e1, DN.bind_pure]
      rcases in4_loop (ws := ws) (x0 := x0) (x1 := x1) (x2 := x2) (x3 := x3) (x4 := .val w) (x5 := x5) fun w hw => h w (List.mem_cons_of_mem _ hw) with ⟨h2, y4, e2⟩ | ⟨h2, e2⟩
      · exact .inl ⟨by rw [List.all_cons, h1, h2]; rfl, y4, e2⟩
      · exact .inr ⟨by rw [List.all_cons, h1, h2]; rfl, e2⟩
    · rw [e1, DN.bind_pure]
      exact .inr ⟨by rw [List.all_cons, h1]; rfl, rfl⟩
theorem zip_all_get {bs : List Bd} {xs : List D} {f : Bd × D → Bool} (hl : xs.length = bs.length) (h : (bs.zip xs).all f = true) {k : Nat} (hk : k < bs.length) (hk2 : k < xs.length) : f (bs[k], xs[k]) = true := by
  refine List.all_eq_true.mp h _ ?_
  have : k < (bs.zip xs).length := by simp; omega
  have e : (bs.zip xs)[k] = (bs[k], xs[k]) := by simp
  rw [← e]
  exact List.getElem_mem this
open Classical in
theorem e_larerows {bs : List Bd} {d : D} (hb : bs.length ≤ 100) (hd : OkRs d) : (m__law_are_rows [.tup (bs.map Bd.d), d] : M (MemS K cl) D) = M.pure (.bl (rowsB bs d)) := by
  obtain ⟨hpl, hok⟩ := hd
  cases hpl with
  | tup xs hx =>
    obtain ⟨hxl, hxo⟩ := hok xs rfl
    have hbl : lenD [.tup (bs.map Bd.d)] = some (.int (bs.length : Int)) := by simp [lenD]
    have hxn : lenD [.tup xs] = some (.int (xs.length : Int)) := by simp [lenD]
    refine pure_of_wp fun s => ?_
    simp only [m__law_are_rows, b__law_are_rows, s_runF, startE]
    by_cases hl : xs.length = bs.length
    · refine wp_bind (wp_cut (fun ρ s' => s' = s ∧ ρ = [.val (.tup (bs.map Bd.d)), .val (.tup xs), .no, .no, .no, .no]) (by simp [hbl, hxn, hl]) ?_)
      rintro ρ s1 ⟨rfl, rfl⟩
      refine wp_cut (fun ρ s' => s' = s1 ∧ (∀ k (h1 : k < bs.length) (h2 : k < xs.length), (isRowD 60 xs[k] && prefB bs[k] xs[k]) = true)) ?_ ?_
      · have rg := rng bs.length (by omega)
        simp [hbl, rg]
        refine wp_forI (fun r ρ s' => s' = s1 ∧ ∃ (m : Nat) (x2 x3 x4 : Sl), r = (List.range' m (bs.length - m)).map (fun i : Nat => D.int (i : Int)) ∧ m ≤ bs.length ∧ (∀ k (h1 : k < bs.length) (h2 : k < xs.length), k < m → (isRowD 60 xs[k] && prefB bs[k] xs[k]) = true) ∧ ρ = [.val (.tup (bs.map Bd.d)), .val (.tup xs), x2, x3, x4, .no])
          ⟨rfl, 0, _, _, _, by rw [List.range_eq_range']; rfl, by omega, fun k _ _ h => absurd h (by omega), rfl⟩ ?_ ?_
        · rintro d r ρ s' ⟨rfl, m, x2, x3, x4, hr, hm, hgood, rfl⟩
          have hm2 : m < bs.length := by
            rcases Nat.lt_or_ge m bs.length with h | h
            · exact h
            · rw [show bs.length - m = 0 by omega] at hr; exact nomatch hr
          rw [show bs.length - m = (bs.length - (m + 1)) + 1 by omega, List.range'_succ, List.map_cons] at hr
          obtain ⟨rfl, rfl⟩ := List.cons.inj hr
          have hm3 : m < xs.length := by omega
          refine ⟨_, s_aName, ?_⟩
          rw [show setsS [.val (.tup (bs.map Bd.d)), .val (.tup xs), x2, x3, x4, .no] [(2, .int (m : Int))] = [.val (.tup (bs.map Bd.d)), .val (.tup xs), .val (.int (m : Int)), x3, x4, .no] from rfl]
          have hbad : (isRowD 60 xs[m] && prefB bs[m] xs[m]) = false → rowsB bs (.tup xs) = false := fun h => by
            rw [Bool.eq_false_iff]
            intro g
            rw [rowsB, Bool.and_eq_true] at g
            have := zip_all_get hl g.2 hm2 hm3
            simp only at this
            rw [h] at this
            cases this
          have hxm := hxo _ (List.getElem_mem hm3)
          have eix : ixD (.tup xs) (.int (m : Int)) = some xs[m] := ixT hm3
          have eb := List.getElem?_eq_getElem hm2
          obtain ⟨x, ex⟩ : ∃ x, x = xs[m] := ⟨_, rfl⟩
          obtain ⟨b, ebb⟩ : ∃ b, b = bs[m] := ⟨_, rfl⟩
          rw [← ex] at hxm eix hbad
          rw [← ebb] at eb hbad
          refine wp_cut (fun ρ s1 => s1 = s' ∧ ρ = [.val (.tup (bs.map Bd.d)), .val (.tup xs), .val (.int (m : Int)), .val x, x4, .no]) (by simp [eix]) ?_
          rintro ρ s2 ⟨rfl, rfl⟩
          have elb : ixD b.d (.int 2) = some (.tup (b.r.map .str)) := rfl
          have ell : lenD [.tup (b.r.map .str)] = some (.int (b.r.length : Int)) := by simp [lenD]
          refine wp_cut (fun ρ s1 => s1 = s2 ∧ (∃ ws, x = .tup ws ∧ ws.length ≤ 60 ∧ prefB b x = true) ∧ ρ = [.val (.tup (bs.map Bd.d)), .val (.tup xs), .val (.int (m : Int)), .val x, x4, .no]) ?_ ?_
          · obtain ⟨h1, h2, h3⟩ := hxm
            cases h1 with
            | tup ws hws =>
              obtain ⟨w1, w2⟩ := h3 ws rfl
              by_cases hw : ws.length ≤ 60
              · have hw' : ¬ (60 : Int) < ws.length := by omega
                have ec : slD (.tup ws) none (some (b.r.length : Int)) = some (.tup (ws.take b.r.length)) := by
                  have := cut_to (g := fun d : D => d) (r := ws) (n := b.r.length)
                  simpa using this
                have dw : Da 2 (.tup (ws.take b.r.length)) := by
                  rw [da_tup]
                  intro w hw
                  rcases w2 w (List.mem_of_mem_take hw) with ⟨z, rfl⟩ | ⟨i, rfl⟩ <;> simp
                have en : neD (.tup (ws.take b.r.length)) (.tup (b.r.map .str)) = some (.bl (!decide (D.tup (ws.take b.r.length) = rD b.r))) := ne_da dw da_row
                cases hp : decide (D.tup (ws.take b.r.length) = rD b.r) with
                | true =>
                  rw [hp] at en
                  have hp' : prefB b (.tup ws) = true := hp
                  simp [hw', ixBd eb, elb, ell, ec, en, hp']
                  omega
                | false =>
                  rw [hp] at en
                  have hp' : prefB b (.tup ws) = false := hp
                  have := hbad (by rw [hp', Bool.and_false])
                  simp [hw', ixBd eb, elb, ell, ec, en, this]
              · have hw' : (60 : Int) < ws.length := by omega
                have := hbad (by simp [isRowD, hw])
                simp [hw', this]
            | _ =>
              have := hbad (by simp [isRowD])
              simp [this]
          rintro ρ s3 ⟨rfl, ⟨ws, rfl, hwl, hpf⟩, rfl⟩
          have w2 := (hxm.2.2 ws rfl).2
          have ei : (iOf anyI (eVar 3) (seeE pHide [.val (.tup (bs.map Bd.d)), .val (.tup xs), .val (.int (m : Int)), .val (.tup ws), x4, .no]) : M (MemS K cl) _) = M.pure ws := by simp [anyI]
          unfold sFor
          rw [ei, DN.bind_pure]
          show wp (forL (aName 4) in4 ws _) _ s3
          rcases in4_loop (K := K) (cl := cl) (ws := ws) (x0 := .val (.tup (bs.map Bd.d))) (x1 := .val (.tup xs)) (x2 := .val (.int (m : Int))) (x3 := .val (.tup ws)) (x4 := x4) (x5 := .no) w2 with ⟨h2, y4, e2⟩ | ⟨h2, e2⟩
          · rw [e2]
            refine ⟨rfl, m + 1, _, _, _, rfl, by omega, fun k k1 k2 hk => ?_, rfl⟩
            by_cases hkm : k = m
            · subst hkm
              rw [← ex, ← ebb, hpf, Bool.and_true]
              simp [isRowD, hwl, h2]
            · exact hgood k k1 k2 (by omega)
          · rw [e2]
            have := hbad (by simp [isRowD, h2])
            exact ⟨by rw [this], rfl⟩
        · rintro ρ s' ⟨rfl, m, x2, x3, x4, hr, hm, hgood, rfl⟩
          have hm2 : m = bs.length := by
            rcases Nat.lt_or_ge m bs.length with h | h
            · rw [show bs.length - m = (bs.length - (m + 1)) + 1 by omega, List.range'_succ] at hr; exact nomatch hr
            · omega
          exact ⟨rfl, fun k h1 h2 => by have := hgood k h1 h2 (by omega); rwa [Bool.and_eq_true] at this⟩
      rintro ρ s2 ⟨rfl, hgood⟩
      have : rowsB bs (.tup xs) = true := by
        rw [rowsB, decide_eq_true hl, Bool.true_and, List.all_eq_true]
        intro p hp
        obtain ⟨k, hk, rfl⟩ := List.getElem_of_mem hp
        have h1 : k < bs.length := by simp at hk; omega
        have := hgood k h1 (by omega)
        simpa using this
      simp [this]
    · have hl' : ¬ (xs.length : Int) = (bs.length : Int) := by omega
      have : rowsB bs (.tup xs) = false := by simp [rowsB, hl]
      simp [hbl, hxn, hl, hl', this]
  | _ => simp [m__law_are_rows, b__law_are_rows, startE, rowsB]
end
end LW
namespace LW
open PySem PySem.Spec PyProof.Rows L2 RZ DN
theorem zip_rows45 {rs : List Rw} {bs : List Bd} : zipL (rs.map rD) (bs.map fun b => D.tup (b.r.map .str)) = (rs.zip bs).map fun p => .tup [rD p.1, rD p.2.r] := by
  induction rs generalizing bs with
  | nil => simp [zipL]
  | cons r rs ih =>
    cases bs with
    | nil => simp [zipL]
    | cons b bs =>
      simp only [List.map_cons, zipL, List.zip_cons_cons, ih]
      rfl
theorem rows_of {xs : List D} (h : xs.all (isRowD 60) = true) : ∃ rs : List Rw, xs = rs.map rD ∧ ∀ r ∈ rs, r.length ≤ 60 ∧ isRowD 60 (rD r) = true := by
  induction xs with
  | nil => exact ⟨[], rfl, fun r h => nomatch h⟩
  | cons x xs ih =>
    rw [List.all_cons, Bool.and_eq_true] at h
    obtain ⟨rs, e, hr⟩ := ih h.2
    obtain ⟨r, er, h1, _⟩ := isRowD_row h.1
    refine ⟨r :: rs, by rw [e, er]; rfl, fun q hq => ?_⟩
    rcases List.mem_cons.mp hq with rfl | hq
    · exact ⟨h1, by rw [← er]; exact h.1⟩
    · exact hr q hq
open Classical in
theorem pref_row {b : Bd} {r : Rw} : prefB b (rD r) = decide (r.take b.r.length = b.r) := by
  show decide (D.tup ((r.map D.str).take b.r.length) = rD b.r) = _
  rw [← List.map_take, decide_eq_decide]
  show D.tup ((r.take b.r.length).map .str) = .tup (b.r.map .str) ↔ _
  rw [D.tup.injEq, str_inj]
theorem rowsB_rows {bs : List Bd} {rs : List Rw} (hr : ∀ r ∈ rs, isRowD 60 (rD r) = true) : rowsB bs (.tup (rs.map rD)) = (decide (rs.length = bs.length) && (rs.zip bs).all fun p => decide (p.1.take p.2.r.length = p.2.r)) := by
  rw [rowsB, List.length_map]
  congr 1
  have e : bs.zip (rs.map rD) = (rs.zip bs).map fun p => (p.2, rD p.1) := by
    induction rs generalizing bs with
    | nil => simp
    | cons r rs ih =>
      cases bs with
      | nil => simp
      | cons b bs =>
        simp only [List.map_cons, List.zip_cons_cons]
        rw [ih fun q hq => hr q (List.mem_cons_of_mem _ hq)]
  rw [e, List.all_map, Bool.eq_iff_iff, List.all_eq_true, List.all_eq_true]
  refine forall_congr' fun p => forall_congr' fun hp => ?_
  have h1 : p.1 ∈ rs := (List.of_mem_zip (show (p.1, p.2) ∈ rs.zip bs from hp)).1
  simp only [Function.comp_def, hr _ h1, Bool.true_and, pref_row]
section
variable {K : PySem.W.Frag} {cl : CTab}
theorem e_begun45 {h : D} {bs : List Bd} (g : HallB h bs) : (m_begun_rows [h] : M (MemS K cl) D) = M.pure (.tup (bs.map fun b : Bd => D.tup (b.r.map .str))) := by
  refine pure_of_wp fun s => ?_
  simp only [m_begun_rows, b_begun_rows, s_runF, startE]
  simp [e_boards g.of]
  rw [compL_map (k := fun b : Bd => D.tup (b.r.map .str)) (fun b hb => by simp [Bd.d, wipeE, setsE]), wp_pure_iff]
  simp
theorem e_arerows {h d : D} {bs : List Bd} (g : HallB h bs) (hd : OkRs d) : (m_are_rows [h, d] : M (MemS K cl) D) = M.pure (.bl (rowsB bs d)) := by
  obtain ⟨hpl, hok⟩ := hd
  cases hpl with
  | tup xs hx =>
    have hbg := e_begun45 (K := K) (cl := cl) g
    refine pure_of_wp fun s => ?_
    simp only [m_are_rows, b_are_rows, s_runF, startE]
    have c := compL_map (B := MemS K cl) (f := compF (aName 2) tY (xCall m_is_row (aC (eVar 2) aN)) (wipeE [some h, some (.tup xs), none, none] [2])) (g := id) (k := fun d => D.bl (isRowD 60 d)) (as := xs) (fun c hc => by simp [wipeE, e_rowD (hx c hc)])
    rw [List.map_id] at c
    have ea := all_bools (f := isRowD 60) (l := xs)
    by_cases hl : xs.length = bs.length
    · have hneg : xs.all (isRowD 60) = false → rowsB bs (.tup xs) = false := fun ha => by
        rw [Bool.eq_false_iff]
        intro q
        rw [rowsB, Bool.and_eq_true] at q
        have : xs.all (isRowD 60) = true := by
          rw [List.all_eq_true]
          intro x hx
          obtain ⟨k, hk, rfl⟩ := List.getElem_of_mem hx
          have := zip_all_get hl q.2 (show k < bs.length by omega) hk
          simp only [Bool.and_eq_true] at this
          exact this.1
        rw [ha] at this
        cases this
      refine wp_bind (wp_cut (fun ρ s' => s' = s ∧ xs.all (isRowD 60) = true ∧ ρ = [.val h, .val (.tup xs), .no, .no]) ?_ ?_)
      · cases ha : xs.all (isRowD 60) with
        | true =>
          rw [ha] at ea
          simp [e_boards g.of, hl, c, ea]
        | false =>
          rw [ha] at ea
          simp [e_boards g.of, hl, c, ea, hneg ha]
      rintro ρ s1 ⟨rfl, ha, rfl⟩
      obtain ⟨rs, rfl, hr⟩ := rows_of ha
      have hrb := rowsB_rows (bs := bs) (rs := rs) fun r h => (hr r h).2
      have hl2 : rs.length = bs.length := by simpa using hl
      have zr := zip_rows45 (rs := rs) (bs := bs)
      simp [hbg, zipI]
      rw [zr, compL_map (k := fun p : Rw × Bd => .bl (decide (p.1.take p.2.r.length = p.2.r))) (fun p hp => by
        have l1 : lenD [rD p.2.r] = some (.int (p.2.r.length : Int)) := by
          show some (D.int ((p.2.r.map D.str).length : Int)) = _
          rw [List.length_map]
        have s1 : slD (rD p.1) none (some (p.2.r.length : Int)) = some (rD (p.1.take p.2.r.length)) := sl_take
        have q1 : eqD (rD (p.1.take p.2.r.length)) (rD p.2.r) = some (.bl (decide (p.1.take p.2.r.length = p.2.r))) := eq_row
        simp [wipeE, setsE, l1, s1, q1])]
      rw [wp_pure_iff, wp_lift_iff_some (allD_map (f := fun p : Rw × Bd => decide (p.1.take p.2.r.length = p.2.r)) (as := rs.zip bs))]
      refine ⟨?_, rfl⟩
      rw [hrb, hl2]
      simp
    · have hl' : ¬ (xs.length : Int) = (bs.length : Int) := by omega
      have : rowsB bs (.tup xs) = false := by simp [rowsB, hl]
      simp [e_boards g.of, hl, hl', this]
  | _ => simp [m_are_rows, b_are_rows, startE, rowsB]
end
end LW
namespace LW
open PySem PySem.Spec PyProof.Rows L2 RZ DN
def no45 : Bd := ⟨"", 0, []⟩
def mate (P : List Pr) (k : Nat) : Nat := (prt P k).getD 0
def row45 (rs : List Rw) (k : Nat) : Rw := rs.getD k []
def cps (bs : List Bd) (rs : List Rw) (P : List Pr) (k : Nat) : Option D :=
  if (bs.getD k no45).s = (row45 rs k).length % 2 ∧ (row45 rs (mate P k)).length = (row45 rs k).length + 1 ∧ (row45 rs (mate P k)).dropLast = row45 rs k then some (.tup [.int (k : Int), .str ((row45 rs (mate P k)).getLastD "")]) else none
noncomputable def cpD (bs : List Bd) (rs : List Rw) (P : List Pr) : D := ((srtN (Vs P)).findSome? (cps bs rs P)).getD .non
def mD (P : List Pr) : D := .dct (iL (Vs P)) (iL (P.flatMap fun p => [p.2, p.1]))
section
variable {K : PySem.W.Frag} {cl : CTab}
theorem mover45 {r : Rw} : (m_mover_of [rD r] : M (MemS K cl) D) = M.pure (.int ((r.length % 2 : Nat) : Int)) := by
  have e2 : lenD [rD r] = some (.int (r.length : Int)) := by simp [lenD, rD]
  simp [m_mover_of, b_mover_of, startE, e2]
theorem moves45 {b : Bd} {r : Rw} : (m_guest_moves [b.d, rD r] : M (MemS K cl) D) = M.pure (.bl (decide (b.s = r.length % 2))) := by
  have em := mover45 (K := K) (cl := cl) (r := r)
  have ib1 : ixD b.d (.int 1) = some (.int (b.s : Int)) := rfl
  have e3 : (decide ((b.s : Int) = ((r.length % 2 : Nat) : Int))) = decide (b.s = r.length % 2) := by
    rw [decide_eq_decide]
    omega
  simp only [m_guest_moves, b_guest_moves, s_runF, startE]
  simp [em, ib1]
  congr 2
theorem lguests45 {b : Bd} {r : Rw} : (m__law_guests [b.d, rD r] : M (MemS K cl) D) = M.pure (.bl (decide (b.s = r.length % 2))) := by
  have b1 : ixD b.d (.int 1) = some (.int (b.s : Int)) := rfl
  have e2 : lenD [rD r] = some (.int (r.length : Int)) := by simp [lenD, rD]
  have e3 : (decide ((b.s : Int) = (r.length : Int) % 2)) = decide (b.s = r.length % 2) := by
    rw [decide_eq_decide]
    omega
  simp [m__law_guests, b__law_guests, startE, b1, e2, e3]
theorem findSome_cons_none {f : Nat → Option D} {k : Nat} {l : List Nat} (h : f k = none) : (k :: l).findSome? f = l.findSome? f := by simp [List.findSome?, h]
theorem findSome_cons_some {f : Nat → Option D} {k : Nat} {l : List Nat} {d : D} (h : f k = some d) : (k :: l).findSome? f = some d := by simp [List.findSome?, h]
structure Cp (bs : List Bd) (rs : List Rw) (P : List Pr) : Prop where
  nd : (Vs P).Nodup
  lt : ∀ x ∈ Vs P, x < bs.length
  len : rs.length = bs.length
variable {bs : List Bd} {rs : List Rw} {P : List Pr}
theorem Cp.ixr (c : Cp bs rs P) {k : Nat} (h : k < bs.length) : ixD (.tup (rs.map rD)) (.int (k : Int)) = some (rD (row45 rs k)) := by
  have h2 : k < rs.length := by rw [c.len]; exact h
  rw [ixT (by simpa using h2), List.getElem_map]
  simp [row45, h2]
theorem Cp.ixb (c : Cp bs rs P) {k : Nat} (h : k < bs.length) : ixD (.tup (bs.map Bd.d)) (.int (k : Int)) = some (bs.getD k no45).d := by
  rw [ixT (by simpa using h), List.getElem_map]
  simp [h]
theorem Cp.mt (c : Cp bs rs P) {k : Nat} (h : k ∈ Vs P) : ixD (mD P) (.int (k : Int)) = some (.int (mate P k : Int)) ∧ mate P k < bs.length := by
  cases e : prt P k with
  | none => exact absurd h (prt_none.mp e)
  | some m =>
    have em : mate P k = m := by unfold mate; rw [e]; rfl
    rw [em]
    exact ⟨ix_partners c.nd e, (prt_lt c.lt e).2⟩
theorem list_mD (hl : (Vs P).length ≤ 4000) : listDA [mD P] = some (.lst (iL (Vs P))) := by
  show (if _ then _ else _) = _
  rw [if_pos (by rw [List.length_map, sizeLine_eq]; omega)]
theorem tests45 {r o : Rw} : lenD [rD o] = some (.int (o.length : Int)) ∧ (slD (rD o) none (some (-1)) = some (rD o.dropLast)) ∧ eqD (rD o.dropLast) (rD r) = some (.bl (decide (o.dropLast = r))) :=
  ⟨by simp [lenD, rD], cut_lastR, eq_row⟩
theorem e_copied_ok {h : D} (g : HallB h bs) (c : Cp bs rs P) (hn : bs.length ≤ 100) (hlP : P.length ≤ 1000) (e1 : (m_is_pairing [h, cD P] : M (MemS K cl) D) = M.pure (.bl true)) (e2 : (m_are_rows [h, .tup (rs.map rD)] : M (MemS K cl) D) = M.pure (.bl true)) :
    (m_copied [h, cD P, .tup (rs.map rD)] : M (MemS K cl) D) = M.pure (cpD bs rs P) := by
  have ep := e_partnersV (K := K) (cl := cl) hlP c.nd
  have hv : (Vs P).length = 2 * P.length := Vs_len
  have sl := sorted_lL (l := Vs P)
  have ld := list_mD (P := P) (by omega)
  obtain ⟨R, hR⟩ : ∃ R, R = D.tup (rs.map rD) := ⟨_, rfl⟩
  have ixr := fun k (h : k < bs.length) => c.ixr h
  obtain ⟨pd, hpd⟩ : ∃ pd, pd = cD P := ⟨_, rfl⟩
  have ep' : (m_partners [pd] : M (MemS K cl) D) = M.pure (mD P) := by rw [hpd]; exact ep
  rw [← hR] at e2 ixr ⊢
  rw [← hpd] at e1 ⊢
  refine pure_of_wp fun s => ?_
  simp only [m_copied, b_copied, s_runF, startE]
  refine wp_bind (wp_cut (fun ρ s' => s' = s ∧ ρ = [.val h, .val pd, .val R, .no, .no, .no, .no]) (by simp [e1]) ?_)
  rintro ρ s1 ⟨rfl, rfl⟩
  refine wp_cut (fun ρ s' => s' = s1 ∧ ρ = [.val h, .val pd, .val R, .no, .no, .no, .no]) (by simp [m_check_rows_v2, b_check_rows_v2, startE, e2]) ?_
  rintro ρ s2 ⟨rfl, rfl⟩
  refine wp_cut (fun ρ s' => s' = s2 ∧ ρ = [.val h, .val pd, .val R, .val (mD P), .no, .no, .no]) (by simp [ep']) ?_
  rintro ρ s3 ⟨rfl, rfl⟩
  refine wp_cut (fun ρ s' => s' = s3 ∧ (srtN (Vs P)).findSome? (cps bs rs P) = none) ?_ ?_
  · have ei : (iOf anyI (xB sortedDD (aC (xListA (eVar 3)) (aN))) (seeE pHide [.val h, .val pd, .val R, .val (mD P), .no, .no, .no]) : M (MemS K cl) _) = M.pure (iL (srtN (Vs P))) := by
      simp [ld, sl, anyI]
    unfold sFor
    rw [ei, DN.bind_pure]
    refine wp_forI (fun r ρ s' => s' = s3 ∧ ∃ (ks : List Nat) (x4 x5 x6 : Sl), r = iL ks ∧ (∀ k ∈ ks, k ∈ Vs P) ∧ (srtN (Vs P)).findSome? (cps bs rs P) = ks.findSome? (cps bs rs P) ∧ ρ = [.val h, .val pd, .val R, .val (mD P), x4, x5, x6])
      ⟨rfl, _, _, _, _, rfl, fun k hk => srtN_mem.mp hk, rfl, rfl⟩ ?_ ?_
    · rintro d r ρ s' ⟨rfl, ks, x4, x5, x6, hr, hin, hf, rfl⟩
      cases ks with
      | nil => exact nomatch hr
      | cons k ks =>
        cases hr
        have hk := hin k List.mem_cons_self
        have hkb := c.lt k hk
        obtain ⟨m1, m2⟩ := c.mt hk
        refine ⟨_, s_aName, ?_⟩
        rw [show setsS [.val h, .val pd, .val R, .val (mD P), x4, x5, x6] [(4, .int (k : Int))] = [.val h, .val pd, .val R, .val (mD P), .val (.int (k : Int)), x5, x6] from rfl]
        have r1 := ixr k hkb
        have r2 := ixr (mate P k) m2
        refine wp_cut (fun ρ s1 => s1 = s' ∧ ρ = [.val h, .val pd, .val R, .val (mD P), .val (.int (k : Int)), .val (rD (row45 rs k)), x6]) (by simp [r1]) ?_
        rintro ρ s4 ⟨rfl, rfl⟩
        refine wp_cut (fun ρ s1 => s1 = s4 ∧ ρ = [.val h, .val pd, .val R, .val (mD P), .val (.int (k : Int)), .val (rD (row45 rs k)), .val (rD (row45 rs (mate P k)))]) (by simp [m1, r2]) ?_
        rintro ρ s5 ⟨rfl, rfl⟩
        have gm := moves45 (K := K) (cl := cl) (b := bs.getD k no45) (r := row45 rs k)
        have ib := c.ixb hkb
        have fb := e_boards (K := K) (cl := cl) g.of
        obtain ⟨t1, t2, t3⟩ := tests45 (r := row45 rs k) (o := row45 rs (mate P k))
        have t4 := (tests45 (r := row45 rs k) (o := row45 rs k)).1
        have t5 : ∀ r : Rw, eqD (rD r) (rD r) = some (.bl true) := fun r => by have := eq_row (r := r) (s := r); rw [decide_eq_true rfl] at this; exact this
        have hcp : cps bs rs P k = if (bs.getD k no45).s = (row45 rs k).length % 2 ∧ (row45 rs (mate P k)).length = (row45 rs k).length + 1 ∧ (row45 rs (mate P k)).dropLast = row45 rs k then some (.tup [.int (k : Int), .str ((row45 rs (mate P k)).getLastD "")]) else none := rfl
        generalize row45 rs (mate P k) = o at *
        generalize row45 rs k = rr at *
        generalize bs.getD k no45 = b at *
        by_cases c1 : b.s = rr.length % 2
        · by_cases c2 : o.length = rr.length + 1
          · have c2' : (o.length : Int) = (rr.length : Int) + 1 := by omega
            by_cases c3 : o.dropLast = rr
            · have on : o ≠ [] := fun z => by rw [z] at c2; simp at c2
              have lo := ix_last on
              have lg : o.getLast on = o.getLastD "" := by
                rw [List.getLastD_eq_getLast?, List.getLast?_eq_some_getLast on]; rfl
              rw [if_pos ⟨c1, c2, c3⟩] at hcp
              have fin : cpD bs rs P = .tup [.int (k : Int), .str (o.getLastD "")] := by
                unfold cpD
                rw [hf, findSome_cons_some hcp]
                rfl
              simp [fb, ib, gm, t1, t2, t3, t4, c1, c2, c2', c3, t5, lo, lg, fin]
            · rw [if_neg (fun z => c3 z.2.2)] at hcp
              rw [findSome_cons_none hcp] at hf
              simp [fb, ib, gm, t1, t2, t3, t4, c1, c2, c2', c3]
              exact ⟨ks, rfl, fun k hk => hin k (List.mem_cons_of_mem _ hk), hf⟩
          · have c2' : ¬ (o.length : Int) = (rr.length : Int) + 1 := by omega
            rw [if_neg (fun z => c2 z.2.1)] at hcp
            rw [findSome_cons_none hcp] at hf
            simp [fb, ib, gm, t1, t2, t3, t4, c1, c2, c2']
            exact ⟨ks, rfl, fun k hk => hin k (List.mem_cons_of_mem _ hk), hf⟩
        · rw [if_neg (fun z => c1 z.1)] at hcp
          rw [findSome_cons_none hcp] at hf
          simp [fb, ib, gm, c1]
          exact ⟨ks, rfl, fun k hk => hin k (List.mem_cons_of_mem _ hk), hf⟩
    · rintro ρ s' ⟨rfl, ks, x4, x5, x6, hr, hin, hf, rfl⟩
      have : ks = [] := by cases ks with
        | nil => rfl
        | cons => exact nomatch hr
      subst this
      exact ⟨rfl, hf⟩
  rintro ρ s4 ⟨rfl, hf⟩
  have fin : cpD bs rs P = .non := by
    unfold cpD
    rw [hf]
    rfl
  simp [fin]
end
end LW
namespace LW
open PySem PySem.Spec PyProof.Rows L2 RZ DN
section
variable {K : PySem.W.Frag} {cl : CTab} {bs : List Bd} {rs : List Rw} {P : List Pr}
def ownM (P : List Pr) : Sl := .own (mD P)
theorem wp_mates {bd R : D} {s : Mem} (hl : P.length ≤ 1000) (nd : (Vs P).Nodup) : wp (sFor (aTup (aCons (aName 5) (aCons (aName 6) (aNil)))) (iOf anyI (eVar 1)) (seqF (sPut pHide yes 3 (eVar 5) (eVar 6)) (sPut pHide yes 3 (eVar 6) (eVar 5))) [.val bd, .val (cD P), .val R, .own (.dct [] []), .no, .no, .no] : M (MemS K cl) Fl)
    (fun fl s' => s' = s ∧ ∃ x5 x6, fl = .nx [.val bd, .val (cD P), .val R, ownM P, .no, x5, x6]) s := by
  simp
  refine wp_forI (fun r ρ s' => s' = s ∧ ∃ done rest, P = done ++ rest ∧ r = rest.map prD ∧ ∃ x2 x3 : Sl, ρ = [.val bd, .val (cD P), .val R, .own (.dct (iL (Vs done)) (iL (done.flatMap fun p => [p.2, p.1]))), .no, x2, x3]) ⟨rfl, [], P, rfl, rfl, _, _, rfl⟩ ?_ ?_
  · rintro d r ρ s' ⟨rfl, done, rest, h1, h2, x2, x3, rfl⟩
    cases rest with
    | nil => exact nomatch h2
    | cons p rest =>
      cases h2
      refine ⟨[(5, iD p.1), (6, iD p.2)], by simp, ?_⟩
      have hd : done.length < 1000 := by rw [h1] at hl; simp at hl; omega
      rw [h1, Vs_app, Vs_cons, List.nodup_append] at nd
      have n1 : p.1 ∉ Vs done := fun z => nd.2.2 _ z p.1 (by simp) rfl
      have n2 : p.2 ∉ Vs done ++ [p.1] := fun z => by
        rcases List.mem_append.mp z with z | z
        · exact nd.2.2 _ z p.2 (by simp) rfl
        · have z : p.2 = p.1 := by simpa using z
          have := (List.nodup_cons.mp nd.2.1).1
          simp [z] at this
      have l1 : (Vs done).length = 2 * done.length := Vs_len
      have q1 : (iL (Vs done)).length < sizeLine := by rw [List.length_map, sizeLine_eq]; omega
      have q2 : (iL (Vs done ++ [p.1])).length < sizeLine := by rw [List.length_map, sizeLine_eq, List.length_append, List.length_singleton]; omega
      obtain ⟨g1, g2⟩ := put_new (x := p.1) (y := p.2) (us := iL (done.flatMap fun p => [p.2, p.1])) n1
      obtain ⟨g3, g4⟩ := put_new (x := p.2) (y := p.1) (us := iL (done.flatMap fun p => [p.2, p.1]) ++ [iD p.2]) n2
      rw [show setsS [.val bd, .val (cD P), .val R, .own (.dct (iL (Vs done)) (iL (done.flatMap fun p => [p.2, p.1]))), .no, x2, x3] [(5, iD p.1), (6, iD p.2)] = [.val bd, .val (cD P), .val R, .own (.dct (iL (Vs done)) (iL (done.flatMap fun p => [p.2, p.1]))), .no, .val (iD p.1), .val (iD p.2)] from rfl]
      rw [s_seq]
      refine wp_bind ?_
      rw [putO (ks := iL (Vs done)) (vs := iL (done.flatMap fun p => [p.2, p.1])) (kd := iD p.1) (d := iD p.2) (kk := .inl (.inl (p.1 : Int))) rfl (by simp) (by simp) rfl rfl rfl q1 ok_iL]
      rw [g1, g2]
      show wp (sPut pHide yes 3 (eVar 6) (eVar 5) [.val bd, .val (cD P), .val R, .own (.dct (iL (Vs done ++ [p.1])) (iL (done.flatMap fun p => [p.2, p.1]) ++ [iD p.2])), .no, .val (iD p.1), .val (iD p.2)]) _ s'
      rw [putO (ks := iL (Vs done ++ [p.1])) (vs := iL (done.flatMap fun p => [p.2, p.1]) ++ [iD p.2]) (kd := iD p.2) (d := iD p.1) (kk := .inl (.inl (p.2 : Int))) rfl (by simp) (by simp) rfl rfl rfl q2 ok_iL]
      rw [g3, g4]
      refine ⟨rfl, done ++ [p], rest, by simp [h1], rfl, .val (iD p.1), .val (iD p.2), ?_⟩
      simp
  · rintro ρ s' ⟨rfl, done, rest, h1, h2, x2, x3, rfl⟩
    have hr : rest = [] := by cases rest with
      | nil => rfl
      | cons => exact nomatch h2
    subst hr
    rw [List.append_nil] at h1
    subst h1
    exact ⟨rfl, _, _, rfl⟩
theorem e_lcopied (c : Cp bs rs P) (hn : bs.length ≤ 100) (hlP : P.length ≤ 1000) :
    (m__law_copied [.tup (bs.map Bd.d), cD P, .tup (rs.map rD)] : M (MemS K cl) D) = M.pure (cpD bs rs P) := by
  have hv : (Vs P).length = 2 * P.length := Vs_len
  have sl := sorted_lL (l := Vs P)
  have ld := list_mD (P := P) (by omega)
  obtain ⟨R, hR⟩ : ∃ R, R = D.tup (rs.map rD) := ⟨_, rfl⟩
  have ixr := fun k (h : k < bs.length) => c.ixr h
  obtain ⟨bd, hbd⟩ : ∃ bd, bd = D.tup (bs.map Bd.d) := ⟨_, rfl⟩
  have ixb := fun k (h : k < bs.length) => c.ixb h
  rw [← hR] at ixr ⊢
  rw [← hbd] at ixb ⊢
  refine pure_of_wp fun s => ?_
  simp only [m__law_copied, b__law_copied, s_runF, startE]
  refine wp_bind (wp_cut (fun ρ s' => s' = s ∧ ρ = [.val bd, .val (cD P), .val R, .own (.dct [] []), .no, .no, .no]) (by simp) ?_)
  rintro ρ s1 ⟨rfl, rfl⟩
  refine wp_cut (fun ρ s' => s' = s1 ∧ ∃ x5 x6, ρ = [.val bd, .val (cD P), .val R, ownM P, .no, x5, x6]) ?_ ?_
  · refine wp_mono (wp_mates (bd := bd) (R := R) hlP c.nd) fun fl s' h => ?_
    obtain ⟨rfl, x5, x6, rfl⟩ := h
    exact ⟨rfl, _, _, rfl⟩
  rintro ρ s2 ⟨rfl, x5, x6, rfl⟩
  obtain ⟨pd, hpd⟩ : ∃ pd, pd = cD P := ⟨_, rfl⟩
  rw [← hpd]
  have key : ∀ (REST : SEnv → M (MemS K cl) Fl) (Q : Fl → Mem → Prop) s, wp (REST [.val bd, .val pd, .val R, .val (mD P), .no, x5, x6]) Q s → wp (sFrz 3 REST [.val bd, .val pd, .val R, ownM P, .no, x5, x6]) Q s := fun REST Q s h => by
    have st := stripL_leaf (ds := iL (P.flatMap fun p => [p.2, p.1])) iL_leaf
    have ef : frzS 3 [.val bd, .val pd, .val R, ownM P, .no, x5, x6] = [.val bd, .val pd, .val R, .val (mD P), .no, x5, x6] := by
      unfold ownM mD
      simp only [frzS]
      simp [strip_dct]
      simpa using st
    show wp (REST (frzS 3 [.val bd, .val pd, .val R, ownM P, .no, x5, x6])) Q s
    rw [ef]
    exact h
  refine key _ _ _ ?_
  refine wp_cut (fun ρ s' => s' = s2 ∧ (srtN (Vs P)).findSome? (cps bs rs P) = none) ?_ ?_
  · have ei : (iOf anyI (xB sortedDD (aC (xListA (eVar 3)) (aN))) (seeE pHide [.val bd, .val pd, .val R, .val (mD P), .no, x5, x6]) : M (MemS K cl) _) = M.pure (iL (srtN (Vs P))) := by
      simp [ld, sl, anyI]
    unfold sFor
    rw [ei, DN.bind_pure]
    refine wp_forI (fun r ρ s' => s' = s2 ∧ ∃ (ks : List Nat) (x4 x5 x6 : Sl), r = iL ks ∧ (∀ k ∈ ks, k ∈ Vs P) ∧ (srtN (Vs P)).findSome? (cps bs rs P) = ks.findSome? (cps bs rs P) ∧ ρ = [.val bd, .val pd, .val R, .val (mD P), x4, x5, x6])
      ⟨rfl, _, _, _, _, rfl, fun k hk => srtN_mem.mp hk, rfl, rfl⟩ ?_ ?_
    · rintro d r ρ s' ⟨rfl, ks, x4, x5, x6, hr, hin, hf, rfl⟩
      cases ks with
      | nil => exact nomatch hr
      | cons k ks =>
        cases hr
        have hk := hin k List.mem_cons_self
        have hkb := c.lt k hk
        obtain ⟨m1, m2⟩ := c.mt hk
        refine ⟨_, s_aName, ?_⟩
        rw [show setsS [.val bd, .val pd, .val R, .val (mD P), x4, x5, x6] [(4, .int (k : Int))] = [.val bd, .val pd, .val R, .val (mD P), .val (.int (k : Int)), x5, x6] from rfl]
        have r1 := ixr k hkb
        have r2 := ixr (mate P k) m2
        refine wp_cut (fun ρ s1 => s1 = s' ∧ ρ = [.val bd, .val pd, .val R, .val (mD P), .val (.int (k : Int)), x5, .val (rD (row45 rs (mate P k)))]) (by simp [m1, r2]) ?_
        rintro ρ s5 ⟨rfl, rfl⟩
        have gm := lguests45 (K := K) (cl := cl) (b := bs.getD k no45) (r := row45 rs k)
        have ib := ixb k hkb
        obtain ⟨t1, t2, t3⟩ := tests45 (r := row45 rs k) (o := row45 rs (mate P k))
        have t4 := (tests45 (r := row45 rs k) (o := row45 rs k)).1
        have t5 : ∀ r : Rw, eqD (rD r) (rD r) = some (.bl true) := fun r => by have := eq_row (r := r) (s := r); rw [decide_eq_true rfl] at this; exact this
        have hcp : cps bs rs P k = if (bs.getD k no45).s = (row45 rs k).length % 2 ∧ (row45 rs (mate P k)).length = (row45 rs k).length + 1 ∧ (row45 rs (mate P k)).dropLast = row45 rs k then some (.tup [.int (k : Int), .str ((row45 rs (mate P k)).getLastD "")]) else none := rfl
        generalize row45 rs (mate P k) = o at *
        generalize row45 rs k = rr at *
        generalize bs.getD k no45 = b at *
        by_cases c1 : b.s = rr.length % 2
        · by_cases c2 : o.length = rr.length + 1
          · have c2' : (o.length : Int) = (rr.length : Int) + 1 := by omega
            by_cases c3 : o.dropLast = rr
            · have on : o ≠ [] := fun z => by rw [z] at c2; simp at c2
              have lo := ix_last on
              have lg : o.getLast on = o.getLastD "" := by
                rw [List.getLastD_eq_getLast?, List.getLast?_eq_some_getLast on]; rfl
              rw [if_pos ⟨c1, c2, c3⟩] at hcp
              have fin : cpD bs rs P = .tup [.int (k : Int), .str (o.getLastD "")] := by
                unfold cpD
                rw [hf, findSome_cons_some hcp]
                rfl
              simp [r1, ib, gm, t1, t2, t3, t4, c1, c2, c2', c3, t5, lo, lg, fin]
            · rw [if_neg (fun z => c3 z.2.2)] at hcp
              rw [findSome_cons_none hcp] at hf
              simp [r1, ib, gm, t1, t2, t3, t4, c1, c2, c2', c3]
              exact ⟨ks, rfl, fun k hk => hin k (List.mem_cons_of_mem _ hk), hf⟩
          · have c2' : ¬ (o.length : Int) = (rr.length : Int) + 1 := by omega
            rw [if_neg (fun z => c2 z.2.1)] at hcp
            rw [findSome_cons_none hcp] at hf
            simp [r1, ib, gm, t1, t2, t3, t4, c1, c2, c2']
            exact ⟨ks, rfl, fun k hk => hin k (List.mem_cons_of_mem _ hk), hf⟩
        · rw [if_neg (fun z => c1 z.1)] at hcp
          rw [findSome_cons_none hcp] at hf
          simp [r1, ib, gm, c1]
          exact ⟨ks, rfl, fun k hk => hin k (List.mem_cons_of_mem _ hk), hf⟩
    · rintro ρ s' ⟨rfl, ks, x4, x5, x6, hr, hin, hf, rfl⟩
      have : ks = [] := by cases ks with
        | nil => rfl
        | cons => exact nomatch hr
      subst this
      exact ⟨rfl, hf⟩
  rintro ρ s4 ⟨rfl, hf⟩
  have fin : cpD bs rs P = .non := by
    unfold cpD
    rw [hf]
    rfl
  simp [fin]
end
end LW
namespace LW
open PySem PySem.Spec PyProof.Rows L2 RZ DN
section
variable {K : PySem.W.Frag} {cl : CTab} {bs : List Bd}
theorem copied_np {h d e : D} (e1 : (m_is_pairing [h, d] : M (MemS K cl) D) = M.pure (.bl false)) : (m_copied [h, d, e] : M (MemS K cl) D) = errM ⟨"NoPairing", none⟩ := by
  simp [m_copied, b_copied, startE, e1]
theorem copied_nr {h d e : D} (e1 : (m_is_pairing [h, d] : M (MemS K cl) D) = M.pure (.bl true)) (e2 : (m_are_rows [h, e] : M (MemS K cl) D) = M.pure (.bl false)) : (m_copied [h, d, e] : M (MemS K cl) D) = errM ⟨"NoRows", none⟩ := by
  have e3 : (m_check_rows_v2 [h, e] : M (MemS K cl) D) = errM ⟨"NoRows", none⟩ := by simp [m_check_rows_v2, b_check_rows_v2, startE, e2]
  simp [m_copied, b_copied, startE, e1, e3]
theorem noI45 {B : Sto} {i : Nat} {ρ : SEnv} : (noI i (M.pure (.nx ρ)) : M B Fl) = M.pure (.nx (ρ.set i .no)) := rfl
theorem asked_ok {h d e c : D} (e1 : (m_copied [h, d, e] : M (MemS K cl) D) = M.pure c) : (m__law_asked_v2 [h, d, e] : M (MemS K cl) D) = M.pure (.tup [.str "told", c]) := by
  refine pure_of_wp fun s => ?_
  simp [m__law_asked_v2, b__law_asked_v2, startE, e1, catchX, wp, M.bind, M.pure, noErr, lift, retF, errM]
theorem asked_np {h d e : D} (e1 : (m_copied [h, d, e] : M (MemS K cl) D) = errM ⟨"NoPairing", none⟩) : (m__law_asked_v2 [h, d, e] : M (MemS K cl) D) = M.pure (.tup [.str "pairing"]) := by
  refine pure_of_wp fun s => ?_
  have a0 : t_all "NoPairing" = some true := by decide +kernel
  have a1 : t_of "NoPairing" "NoPairing" = some true := by decide +kernel
  simp [m__law_asked_v2, b__law_asked_v2, startE, e1, catchX, wp, M.bind, M.pure, noErr, lift, retF, errM, a0, a1]
  rw [noI45]
  exact ⟨rfl, rfl⟩
theorem asked_nr {h d e : D} (e1 : (m_copied [h, d, e] : M (MemS K cl) D) = errM ⟨"NoRows", none⟩) : (m__law_asked_v2 [h, d, e] : M (MemS K cl) D) = M.pure (.tup [.str "rows"]) := by
  refine pure_of_wp fun s => ?_
  have a0 : t_all "NoRows" = some true := by decide +kernel
  have a1 : t_of "NoPairing" "NoRows" = some false := by decide +kernel
  have a2 : t_of "NoRows" "NoRows" = some true := by decide +kernel
  simp [m__law_asked_v2, b__law_asked_v2, startE, e1, catchX, wp, M.bind, M.pure, noErr, lift, retF, errM, a0, a1, a2]
  rw [noI45]
  exact ⟨rfl, rfl⟩
theorem da_cp {rs : List Rw} {P : List Pr} : Da 3 (cpD bs rs P) := by
  unfold cpD
  cases e : (srtN (Vs P)).findSome? (cps bs rs P) with
  | none => exact da_non
  | some d =>
    obtain ⟨k, _, hk⟩ := List.exists_of_findSome?_eq_some e
    unfold cps at hk
    split at hk
    · cases hk
      show Da 3 (.tup _)
      rw [da_tup]
      intro d hd
      simp only [List.mem_cons, List.not_mem_nil, or_false] at hd
      rcases hd with rfl | rfl <;> simp
    · cases hk
theorem ne_self {k : Nat} {d : D} (h : Da k d) (hk : k ≤ 60) : neD d d = some (.bl false) := by
  rw [ne_da h h hk hk]
  simp
theorem pairing_of {d : D} (h : isPairingD bs d = true) : ∃ P : List Pr, d = cD P ∧ (Vs P).Nodup ∧ (∀ x ∈ Vs P, x < bs.length) := by
  cases d with
  | tup xs =>
    rw [isPairingD, Bool.and_eq_true] at h
    obtain ⟨e, hp⟩ := prs_of h.1
    have h2 := h.2
    rw [goodP, Bool.and_eq_true, Bool.and_eq_true] at h2
    refine ⟨xs.map toPr, by show D.tup xs = .tup ((xs.map toPr).map prD); rw [← e], of_decide_eq_true h2.2.2, Vs_lt fun p hp => of_decide_eq_true (List.all_eq_true.mp h2.2.1 p hp)⟩
  | _ => simp [isPairingD] at h
theorem rows_ofB {d : D} (h : rowsB bs d = true) : ∃ rs : List Rw, d = .tup (rs.map rD) ∧ rs.length = bs.length := by
  cases d with
  | tup xs =>
    rw [rowsB, Bool.and_eq_true] at h
    have hl := of_decide_eq_true h.1
    obtain ⟨rs, e, _⟩ := rows_of (xs := xs) (List.all_eq_true.mpr fun x hx => by
      obtain ⟨k, hk, rfl⟩ := List.getElem_of_mem hx
      have := zip_all_get hl h.2 (show k < bs.length by omega) hk
      simp only [Bool.and_eq_true] at this
      exact this.1)
    exact ⟨rs, by rw [e], by rw [← hl, e]; simp⟩
  | _ => simp [rowsB] at h
theorem law_step {k : Nat} {h : D} {x0 x4 x5 x6 x7 : Sl} {s : Mem} (hs : Hn k s) (b1 : 1 ≤ bs.length) (b2 : bs.length ≤ 10) (hb : ∀ b ∈ bs, BdS 3 b) (g : HallB h bs) :
    wp (b_L45_law_f1 (K := K) (cl := cl) [x0, .val (.ref k), .val (.tup (bs.map Bd.d)), .val h, x4, x5, x6, x7]) (fun fl s' => Hn k s' ∧ ∃ x5 x6 x7, fl = .nx [x0, .val (.ref k), .val (.tup (bs.map Bd.d)), .val h, x4, x5, x6, x7]) s := by
  obtain ⟨bd, hbd⟩ : ∃ bd, bd = D.tup (bs.map Bd.d) := ⟨_, rfl⟩
  simp only [b_L45_law_f1]
  refine wp_cut (fun ρ s' => Hn k s' ∧ ∃ P : List Pr, P.length ≤ 100 ∧ ρ = [x0, .val (.ref k), .val (.tup (bs.map Bd.d)), .val h, x4, .val (cD P), x6, x7]) ?_ ?_
  · refine wp_bind (?_ : wp (xCall m__law_pairing_v2 (aC (eVar 1) (aC (eVar 2) (aN))) (seeE pHide [x0, .val (.ref k), .val (.tup (bs.map Bd.d)), .val h, x4, x5, x6, x7])) _ _)
    show wp (m__law_pairing_v2 [.ref k, .tup (bs.map Bd.d)]) _ _
    exact wp_pairing45 hs b2 fun P s' hP hs' => ⟨hs', P, hP, rfl⟩
  rintro ρ s1 ⟨hs, P, hP, rfl⟩
  refine wp_cut (fun ρ s' => Hn k s' ∧ ∃ rs : List Rw, rs.length = bs.length ∧ (∀ r ∈ rs, RowS r ∧ r.length ≤ 10) ∧ ρ = [x0, .val (.ref k), .val (.tup (bs.map Bd.d)), .val h, x4, .val (cD P), .val (.tup (rs.map rD)), x7]) ?_ ?_
  · refine wp_bind (?_ : wp (xCall m__law_rows_v2 (aC (eVar 1) (aC (eVar 2) (aN))) (seeE pHide [x0, .val (.ref k), .val (.tup (bs.map Bd.d)), .val h, x4, .val (cD P), x6, x7])) _ _)
    show wp (m__law_rows_v2 [.ref k, .tup (bs.map Bd.d)]) _ _
    exact wp_rows45 hs hb b2 fun rs s' h1 h2 hs' => ⟨hs', rs, h1, h2, rfl⟩
  rintro ρ s2 ⟨hs, rs, rl, rw_, rfl⟩
  have hc : PlS (cD P) := ⟨pl_cD, fun xs e => by cases e; rw [List.length_map]; omega⟩
  have hr : OkRs (.tup (rs.map rD)) := okRs_rows (by omega) fun r h => by have := (rw_ r h).2; omega
  obtain ⟨R, hR⟩ : ∃ R, R = D.tup (rs.map rD) := ⟨_, rfl⟩
  have bR := fun (Q : D → Mem → Prop) s (hs : Hn k s) q => wp_bentR45 (K := K) (cl := cl) (R := Q) (s := s) (rs := rs) hs (by omega) (by omega) rw_ q
  rw [← hR] at hr bR ⊢
  obtain ⟨pd, hpd⟩ : ∃ pd, pd = cD P := ⟨_, rfl⟩
  have bP := fun (Q : D → Mem → Prop) s (hs : Hn k s) q => wp_bentP45 (K := K) (cl := cl) (n := 0) (bs := bs) (P := P) (R := Q) (s := s) hs b1 b2 hP q
  rw [← hpd] at hc bP ⊢
  have lz := fun d (hd : PlS d) => e_lispZ (K := K) (cl := cl) (bs := bs) (d := d) (by omega) hd.1 hd.2
  have lr := fun d (hd : OkRs d) => e_larerows (K := K) (cl := cl) (bs := bs) (d := d) (by omega) hd
  have lc := fun P rs (c : Cp bs rs P) (h : P.length ≤ 1000) => e_lcopied (K := K) (cl := cl) c (by omega) h
  rw [← hbd] at bP lz lr lc ⊢
  refine wp_cut (fun ρ s' => Hn k s' ∧ ∃ d, PlS d ∧ ρ = [x0, .val (.ref k), .val bd, .val h, x4, .val d, .val R, x7]) ?_ ?_
  · simp
    refine wp_draw hs (by omega) (by omega) fun j s' h0 h1 hs' => ?_
    by_cases hj : j = 0
    · simp [hj]
      exact bP _ s' hs' fun d s3 hd hs3 => ⟨hs3, hd⟩
    · simp [hj]
      exact ⟨hs', hc⟩
  rintro ρ s3 ⟨hs, d, hd, rfl⟩
  refine wp_cut (fun ρ s' => Hn k s' ∧ ∃ e, OkRs e ∧ ρ = [x0, .val (.ref k), .val bd, .val h, x4, .val d, .val e, x7]) ?_ ?_
  · simp
    refine wp_draw hs (by omega) (by omega) fun j s' h0 h1 hs' => ?_
    by_cases hj : j = 0
    · simp [hj]
      exact bR _ s' hs' fun d s3 hd hs3 => ⟨hs3, hd⟩
    · simp [hj]
      exact ⟨hs', hr⟩
  rintro ρ s4 ⟨hs, e, he, rfl⟩
  refine wp_cut (fun ρ s' => s' = s4 ∧ ρ = [x0, .val (.ref k), .val bd, .val h, x4, .val d, .val e, .val (.tup [.str "pairing"])]) (by simp) ?_
  rintro ρ s5 ⟨rfl, rfl⟩
  have z1 := lz d hd
  have z2 := lr e he
  have p1 := e_ispD (K := K) (cl := cl) g (by omega) hd.1 hd.2
  have p2 := e_arerows (K := K) (cl := cl) g he
  refine wp_cut (fun ρ s' => s' = s5 ∧ ∃ due, Da 5 due ∧ (m__law_asked_v2 [h, d, e] : M (MemS K cl) D) = M.pure due ∧ ρ = [x0, .val (.ref k), .val bd, .val h, x4, .val d, .val e, .val due]) ?_ ?_
  · cases i1 : isPairingD bs d with
    | false =>
      rw [i1] at z1 p1
      have as := asked_np (copied_np (e := e) p1)
      simp [z1]
      exact as
    | true =>
      rw [i1] at z1 p1
      cases i2 : rowsB bs e with
      | false =>
        rw [i2] at z2 p2
        have as := asked_nr (copied_nr p1 p2)
        simp [z1, z2]
        exact as
      | true =>
        rw [i2] at z2 p2
        obtain ⟨P', rfl, nd, lt⟩ := pairing_of i1
        obtain ⟨rs', rfl, rl'⟩ := rows_ofB i2
        have hl : P'.length ≤ 1000 := by have := hd.2 _ rfl; rwa [List.length_map] at this
        have c : Cp bs rs' P' := ⟨nd, lt, rl'⟩
        have l1 := lc _ _ c hl
        have c1 := e_copied_ok g c (by omega) hl p1 p2
        have as := asked_ok c1
        generalize cD P' = d at z1 l1 as
        generalize D.tup (rs'.map rD) = e at z2 l1 as
        simp [z1, z2, l1]
        exact ⟨da_cp.up, as⟩
  rintro ρ s6 ⟨rfl, due, da, as, rfl⟩
  have ns := ne_self da (by omega)
  simp [as, ns]
  exact hs
theorem law_all {ns : List Int} (hl : ns.length ≤ 63) : ∃ s', b_L45_law (K := K) (cl := cl) (startV 8 ns) mem0 = .ok (.rt (.bl true)) s' := by
  have w0 : WF mem0 := fun j _ => rfl
  have key : wp (b_L45_law (K := K) (cl := cl) (startV 8 ns)) (fun fl _ => fl = .rt (.bl true)) mem0 := by
    unfold b_L45_law
    refine wp_cut (fun ρ s' => ∃ k, Hn k s' ∧ ρ = [.val (.lst (ns.map .int)), .val (.ref k), .no, .no, .no, .no, .no, .no]) ?_ ?_
    · unfold startV
      simp
      exact wp_hand w0 hl fun k s1 hs _ => ⟨k, hs, rfl⟩
    rintro ρ s1 ⟨k, hs, rfl⟩
    refine wp_cut (fun ρ s' => Hn k s' ∧ ∃ bs : List Bd, 1 ≤ bs.length ∧ bs.length ≤ 10 ∧ (∀ b ∈ bs, BdS 3 b) ∧ ρ = [.val (.lst (ns.map .int)), .val (.ref k), .val (.tup (bs.map Bd.d)), .no, .no, .no, .no, .no]) ?_ ?_
    · simp
      exact wp_twins (m := 6) hs (by omega) (by omega) fun bs s2 b1 b2 hb hs2 => ⟨hs2, bs, by omega, by omega, hb, rfl⟩
    rintro ρ s2 ⟨hs, bs, b1, b2, hb, rfl⟩
    obtain ⟨h, eh, g⟩ := make_HallB (K := K) (cl := cl) (bs := bs) b1 (by omega) (fun b h => (hb b h).ok (by omega))
    refine wp_cut (fun ρ s' => s' = s2 ∧ ρ = [.val (.lst (ns.map .int)), .val (.ref k), .val (.tup (bs.map Bd.d)), .val h, .no, .no, .no, .no]) (by simp [eh]) ?_
    rintro ρ s3 ⟨rfl, rfl⟩
    refine wp_cut (fun ρ s' => True) ?_ ?_
    · have rg : range1 (.int 10) = some ((List.range 10).map fun i : Nat => .int (i : Int)) := rng 10 (by omega)
      simp [rg]
      refine wp_forI (fun r ρ s' => Hn k s' ∧ ∃ x4 x5 x6 x7, ρ = [.val (.lst (ns.map .int)), .val (.ref k), .val (.tup (bs.map Bd.d)), .val h, x4, x5, x6, x7]) ⟨hs, _, _, _, _, rfl⟩ ?_ ?_
      · rintro d r ρ s' ⟨hs, x4, x5, x6, x7, rfl⟩
        refine ⟨[(4, d)], by simp, ?_⟩
        refine wp_mono (law_step (s := s') (x4 := .val d) hs b1 b2 hb g) fun fl s4 hh => ?_
        obtain ⟨hs4, x5, x6, x7, rfl⟩ := hh
        exact ⟨hs4, _, _, _, _, rfl⟩
      · rintro ρ s' _
        trivial
    · rintro ρ s' _
      simp
  obtain ⟨fl, s', e, rfl⟩ := wp_ok key
  exact ⟨s', e⟩
theorem law_true {ns : List Int} (hl : ns.length ≤ 63) : ∃ s', b_L45_law (K := K) (cl := cl) (startV 8 ns) mem0 = .ok (.rt (.bl true)) s' := law_all hl
end
end LW
namespace LW
open PySem PySem.Spec PyProof.Rows L2 RZ DN
def top (i : Nat) : Stmt := PySem.Challenge.pw_untoldgames_k45_whole_copying_moves.main.body.getD i (.Pass ⟨0, 0, 0, 0⟩)
structure Txt (P : Program) (w : World) (K : PySem.W.Frag) (mg : Str → Option Value) (cl : CTab) : Prop where
  wp : P = cl.P
  ww : w = cl.w
  b_abs : mg "abs" = none
  b_all : mg "all" = none
  b_bool : mg "bool" = none
  b_enumerate : mg "enumerate" = none
  b_int : mg "int" = none
  b_isinstance : mg "isinstance" = none
  b_len : mg "len" = none
  b_list : mg "list" = none
  b_min : mg "min" = none
  b_range : mg "range" = none
  b_sorted : mg "sorted" = none
  b_str : mg "str" = none
  b_tuple : mg "tuple" = none
  b_zip : mg "zip" = none
  g_LETTERS : GlC K mg cl "LETTERS" (.str "abcdefghijklmnopqrstuvwxyz")
  g_MOST_BEGUN : GlC K mg cl "MOST_BEGUN" (.int 20)
  g_MOST_BOARDS : GlC K mg cl "MOST_BOARDS" (.int 12)
  g_MOST_LETTERS : GlC K mg cl "MOST_LETTERS" (.int 20)
  g_MOST_NAME : GlC K mg cl "MOST_NAME" (.int 8)
  g_MOST_WORDS : GlC K mg cl "MOST_WORDS" (.int 60)
  f_Hall_boards : FldO K cl "Hall" "boards" 0
  f_Hall_names : FldO K cl "Hall" "names" 1
  f_RawHall_boards : FldO K cl "RawHall" "boards" 0
  f_RawHall_names : FldO K cl "RawHall" "names" 1
  r_NoPairing : ∃ C, RaiseAt K mg cl "NoPairing" C
  r_NoRows : ∃ C, RaiseAt K mg cl "NoRows" C
  e_NoPairing : ∃ C, mg "NoPairing" = some (.ref C) ∧ IsE K cl (t_of "NoPairing") C
  e_NoRows : ∃ C, mg "NoRows" = some (.ref C) ∧ IsE K cl (t_of "NoRows") C
  h_HallError : ∃ C, mg "HallError" = some (.ref C) ∧ CatchAt K cl t_all C
abbrev s__law_hand : Stmt := top 38
abbrev N__law_hand : List Str := ["_law_script", "_law_cells", "_law_cell"]
theorem sc__law_hand : FnScope N__law_hand ["_law_script"] (defScope s__law_hand) := ⟨rfl, rfl, rfl, by decide +kernel, rfl, by decide +kernel, by decide +kernel⟩
abbrev s__law_draw : Stmt := top 39
abbrev N__law_draw : List Str := ["_law_hand_here", "_law_many", "_law_number", "_law_cell", "_law_digit"]
theorem sc__law_draw : FnScope N__law_draw ["_law_hand_here", "_law_many"] (defScope s__law_draw) := ⟨rfl, rfl, rfl, by decide +kernel, rfl, by decide +kernel, by decide +kernel⟩
abbrev s__law_word : Stmt := top 40
abbrev N__law_word : List Str := ["_law_hand_here"]
theorem sc__law_word : FnScope N__law_word ["_law_hand_here"] (defScope s__law_word) := ⟨rfl, rfl, rfl, by decide +kernel, rfl, by decide +kernel, by decide +kernel⟩
abbrev s__law_twins : Stmt := top 48
abbrev N__law_twins : List Str := ["_law_hand_here", "_law_most", "_law_names", "_law_begins", "_law_found", "_law_turn", "_law_begun_here"]
theorem sc__law_twins : FnScope N__law_twins ["_law_hand_here", "_law_most"] (defScope s__law_twins) := ⟨rfl, rfl, rfl, by decide +kernel, rfl, by decide +kernel, by decide +kernel⟩
abbrev s_Hall_keep : Stmt := inClass (top 25) 1
abbrev N_Hall_keep : List Str := ["self", "boards", "name", "side", "begun"]
theorem sc_Hall_keep : FnScope N_Hall_keep ["self", "boards"] (defScope s_Hall_keep) := ⟨rfl, rfl, rfl, by decide +kernel, rfl, by decide +kernel, by decide +kernel⟩
abbrev s_is_letters : Stmt := top 13
abbrev N_is_letters : List Str := ["thing", "most", "sign"]
theorem sc_is_letters : FnScope N_is_letters ["thing", "most"] (defScope s_is_letters) := ⟨rfl, rfl, rfl, by decide +kernel, rfl, by decide +kernel, by decide +kernel⟩
abbrev s_is_name : Stmt := top 15
abbrev N_is_name : List Str := ["thing"]
theorem sc_is_name : FnScope N_is_name ["thing"] (defScope s_is_name) := ⟨rfl, rfl, rfl, by decide +kernel, rfl, by decide +kernel, by decide +kernel⟩
abbrev s_is_integer : Stmt := top 11
abbrev N_is_integer : List Str := ["thing"]
theorem sc_is_integer : FnScope N_is_integer ["thing"] (defScope s_is_integer) := ⟨rfl, rfl, rfl, by decide +kernel, rfl, by decide +kernel, by decide +kernel⟩
abbrev s_is_within : Stmt := top 12
abbrev N_is_within : List Str := ["thing", "least", "most"]
theorem sc_is_within : FnScope N_is_within ["thing", "least", "most"] (defScope s_is_within) := ⟨rfl, rfl, rfl, by decide +kernel, rfl, by decide +kernel, by decide +kernel⟩
abbrev s_is_word : Stmt := top 14
abbrev N_is_word : List Str := ["thing"]
theorem sc_is_word : FnScope N_is_word ["thing"] (defScope s_is_word) := ⟨rfl, rfl, rfl, by decide +kernel, rfl, by decide +kernel, by decide +kernel⟩
abbrev s_is_words : Stmt := top 16
abbrev N_is_words : List Str := ["thing", "most", "word"]
theorem sc_is_words : FnScope N_is_words ["thing", "most"] (defScope s_is_words) := ⟨rfl, rfl, rfl, by decide +kernel, rfl, by decide +kernel, by decide +kernel⟩
abbrev s_is_board : Stmt := top 24
abbrev N_is_board : List Str := ["thing"]
theorem sc_is_board : FnScope N_is_board ["thing"] (defScope s_is_board) := ⟨rfl, rfl, rfl, by decide +kernel, rfl, by decide +kernel, by decide +kernel⟩
abbrev s_Hall_init : Stmt := inClass (top 25) 0
abbrev N_Hall_init : List Str := ["self", "boards", "at", "board"]
theorem sc_Hall_init : FnScope N_Hall_init ["self", "boards"] (defScope s_Hall_init) := ⟨rfl, rfl, rfl, by decide +kernel, rfl, by decide +kernel, by decide +kernel⟩
abbrev s__law_are_pair : Stmt := top 49
abbrev N__law_are_pair : List Str := ["_law_one", "_law_other", "_law_longer", "_law_shorter"]
theorem sc__law_are_pair : FnScope N__law_are_pair ["_law_one", "_law_other"] (defScope s__law_are_pair) := ⟨rfl, rfl, rfl, by decide +kernel, rfl, by decide +kernel, by decide +kernel⟩
abbrev s__law_pairing : Stmt := top 50
abbrev N__law_pairing : List Str := ["_law_hand_here", "_law_boards_here", "_law_every", "_law_one", "_law_found", "_law_used", "_law_turn", "_law_pair", "_law_two"]
theorem sc__law_pairing : FnScope N__law_pairing ["_law_hand_here", "_law_boards_here"] (defScope s__law_pairing) := ⟨rfl, rfl, rfl, by decide +kernel, rfl, by decide +kernel, by decide +kernel⟩
abbrev s__law_rows : Stmt := top 52
abbrev N__law_rows : List Str := ["_law_hand_here", "_law_boards_here", "_law_tail", "_law_found", "_law_name", "_law_side", "_law_begun_here", "_law_row", "_law_kind", "_law_turn"]
theorem sc__law_rows : FnScope N__law_rows ["_law_hand_here", "_law_boards_here"] (defScope s__law_rows) := ⟨rfl, rfl, rfl, by decide +kernel, rfl, by decide +kernel, by decide +kernel⟩
abbrev s__law_is_pairing : Stmt := top 53
abbrev N__law_is_pairing : List Str := ["_law_boards_here", "_law_thing", "_law_used", "_law_pair", "_law_board", "_law_at"]
theorem sc__law_is_pairing : FnScope N__law_is_pairing ["_law_boards_here", "_law_thing"] (defScope s__law_is_pairing) := ⟨rfl, rfl, rfl, by decide +kernel, rfl, by decide +kernel, by decide +kernel⟩
abbrev s__law_bent_pairing : Stmt := top 55
abbrev N__law_bent_pairing : List Str := ["_law_hand_here", "_law_boards_here", "_law_pairing_here", "_law_made", "_law_one", "_law_other", "_law_odd", "_law_things"]
theorem sc__law_bent_pairing : FnScope N__law_bent_pairing ["_law_hand_here", "_law_boards_here", "_law_pairing_here"] (defScope s__law_bent_pairing) := ⟨rfl, rfl, rfl, by decide +kernel, rfl, by decide +kernel, by decide +kernel⟩
abbrev s__law_bent_rows : Stmt := top 56
abbrev N__law_bent_rows : List Str := ["_law_hand_here", "_law_rows_here", "_law_at", "_law_row", "_law_odd", "_law_things"]
theorem sc__law_bent_rows : FnScope N__law_bent_rows ["_law_hand_here", "_law_rows_here"] (defScope s__law_bent_rows) := ⟨rfl, rfl, rfl, by decide +kernel, rfl, by decide +kernel, by decide +kernel⟩
abbrev s__law_are_rows : Stmt := top 54
abbrev N__law_are_rows : List Str := ["_law_boards_here", "_law_thing", "_law_at", "_law_row", "_law_word_here", "_law_sign"]
theorem sc__law_are_rows : FnScope N__law_are_rows ["_law_boards_here", "_law_thing"] (defScope s__law_are_rows) := ⟨rfl, rfl, rfl, by decide +kernel, rfl, by decide +kernel, by decide +kernel⟩
abbrev s_is_row : Stmt := top 17
abbrev N_is_row : List Str := ["thing"]
theorem sc_is_row : FnScope N_is_row ["thing"] (defScope s_is_row) := ⟨rfl, rfl, rfl, by decide +kernel, rfl, by decide +kernel, by decide +kernel⟩
abbrev s_begun_rows : Stmt := top 27
abbrev N_begun_rows : List Str := ["hall", "name", "side", "begun"]
theorem sc_begun_rows : FnScope N_begun_rows ["hall"] (defScope s_begun_rows) := ⟨rfl, rfl, rfl, by decide +kernel, rfl, by decide +kernel, by decide +kernel⟩
abbrev s_are_rows : Stmt := top 34
abbrev N_are_rows : List Str := ["hall", "thing", "row", "begun"]
theorem sc_are_rows : FnScope N_are_rows ["hall", "thing"] (defScope s_are_rows) := ⟨rfl, rfl, rfl, by decide +kernel, rfl, by decide +kernel, by decide +kernel⟩
abbrev s_check_rows : Stmt := top 35
abbrev N_check_rows : List Str := ["hall", "thing"]
theorem sc_check_rows : FnScope N_check_rows ["hall", "thing"] (defScope s_check_rows) := ⟨rfl, rfl, rfl, by decide +kernel, rfl, by decide +kernel, by decide +kernel⟩
abbrev s_partners : Stmt := top 32
abbrev N_partners : List Str := ["pairing", "found", "one", "other"]
theorem sc_partners : FnScope N_partners ["pairing"] (defScope s_partners) := ⟨rfl, rfl, rfl, by decide +kernel, rfl, by decide +kernel, by decide +kernel⟩
abbrev s_is_ascending : Stmt := top 18
abbrev N_is_ascending : List Str := ["items", "one", "other"]
theorem sc_is_ascending : FnScope N_is_ascending ["items"] (defScope s_is_ascending) := ⟨rfl, rfl, rfl, by decide +kernel, rfl, by decide +kernel, by decide +kernel⟩
abbrev s_mover_of : Stmt := top 21
abbrev N_mover_of : List Str := ["row"]
theorem sc_mover_of : FnScope N_mover_of ["row"] (defScope s_mover_of) := ⟨rfl, rfl, rfl, by decide +kernel, rfl, by decide +kernel, by decide +kernel⟩
abbrev s_is_ahead : Stmt := top 29
abbrev N_is_ahead : List Str := ["longer", "shorter"]
theorem sc_is_ahead : FnScope N_is_ahead ["longer", "shorter"] (defScope s_is_ahead) := ⟨rfl, rfl, rfl, by decide +kernel, rfl, by decide +kernel, by decide +kernel⟩
abbrev s_are_pair : Stmt := top 30
abbrev N_are_pair : List Str := ["one", "other"]
theorem sc_are_pair : FnScope N_are_pair ["one", "other"] (defScope s_are_pair) := ⟨rfl, rfl, rfl, by decide +kernel, rfl, by decide +kernel, by decide +kernel⟩
abbrev s_is_lot : Stmt := top 19
abbrev N_is_lot : List Str := ["thing", "many", "item"]
theorem sc_is_lot : FnScope N_is_lot ["thing", "many"] (defScope s_is_lot) := ⟨rfl, rfl, rfl, by decide +kernel, rfl, by decide +kernel, by decide +kernel⟩
abbrev s_is_pairing : Stmt := top 31
abbrev N_is_pairing : List Str := ["hall", "thing", "many", "pair", "one", "other"]
theorem sc_is_pairing : FnScope N_is_pairing ["hall", "thing"] (defScope s_is_pairing) := ⟨rfl, rfl, rfl, by decide +kernel, rfl, by decide +kernel, by decide +kernel⟩
abbrev s_guest_moves : Stmt := top 26
abbrev N_guest_moves : List Str := ["board", "row"]
theorem sc_guest_moves : FnScope N_guest_moves ["board", "row"] (defScope s_guest_moves) := ⟨rfl, rfl, rfl, by decide +kernel, rfl, by decide +kernel, by decide +kernel⟩
abbrev s_copied : Stmt := top 36
abbrev N_copied : List Str := ["hall", "pairing", "rows", "mates", "board", "row", "other"]
theorem sc_copied : FnScope N_copied ["hall", "pairing", "rows"] (defScope s_copied) := ⟨rfl, rfl, rfl, by decide +kernel, rfl, by decide +kernel, by decide +kernel⟩
abbrev s__law_asked : Stmt := top 57
abbrev N__law_asked : List Str := ["_law_hall", "_law_pairing_here", "_law_rows_here", "_law_told", "e"]
theorem sc__law_asked : FnScope N__law_asked ["_law_hall", "_law_pairing_here", "_law_rows_here"] (defScope s__law_asked) := ⟨rfl, rfl, rfl, by decide +kernel, rfl, by decide +kernel, by decide +kernel⟩
abbrev s__law_guests : Stmt := top 47
abbrev N__law_guests : List Str := ["_law_board", "_law_row"]
theorem sc__law_guests : FnScope N__law_guests ["_law_board", "_law_row"] (defScope s__law_guests) := ⟨rfl, rfl, rfl, by decide +kernel, rfl, by decide +kernel, by decide +kernel⟩
abbrev s__law_copied : Stmt := top 51
abbrev N__law_copied : List Str := ["_law_boards_here", "_law_pairing_here", "_law_rows_here", "_law_mates", "_law_at", "_law_one", "_law_other"]
theorem sc__law_copied : FnScope N__law_copied ["_law_boards_here", "_law_pairing_here", "_law_rows_here"] (defScope s__law_copied) := ⟨rfl, rfl, rfl, by decide +kernel, rfl, by decide +kernel, by decide +kernel⟩
abbrev s_law : Stmt := top 58
abbrev N_law : List Str := ["_law_script", "_law_hand_here", "_law_boards_here", "_law_hall", "_law_turn", "_law_pairing_here", "_law_rows_here", "_law_due"]
theorem sc_law : FnScope N_law ["_law_script"] (defScope s_law) := ⟨rfl, rfl, rfl, by decide +kernel, rfl, by decide +kernel, by decide +kernel⟩
section
variable {P : Program} {w : World} {K : PySem.W.Frag} {mg : Str → Option Value} {base : Heap} {cl : CTab}
theorem ok__law_hand (T : Txt P w K mg cl) {a__law_hand : Addr} {fd__law_hand : FuncData} (G__law_hand : Fun K "_law_hand" "_law_hand" s__law_hand a__law_hand fd__law_hand)
     : FnOk P w K mg base (L2.CX P w) 1 a__law_hand fd__law_hand ["_law_script"] (spD K cl (MemS K cl) 1 m__law_hand) := by
  refine FnOk.mono (fn_ok (k := 0) G__law_hand sc__law_hand rfl fun cdv A outer s H E hr => ?_) (by omega)
  exact dss_cons (ds_setLcE (i := 1) (own := [("_law_cell", 2)]) rfl sc__law_hand.nd rfl rfl (sw_true rfl rfl rfl (by decide +kernel)) (di_any (de_slice (de_var (pv 0)) (do_none) (do_some (de_int)))) (blkOk_by (own := [("_law_cell", 2)]) (N := N__law_hand) (sc := defScope s__law_hand) (by decide +kernel)) (fun _ _ _ _ _ => dg_name (i := 2) sc__law_hand.nd rfl (by first | exact Or.inl rfl | exact Or.inr rfl)) (in_name (by decide)) (fun _ _ _ _ _ => dts_nil) (fun _ _ _ _ _ => de_callB call_abs v_abs (by rfl) T.b_abs PyProof.Rows.boot_abs (da_cons (de_callTy call_int1 v_int (by rfl) T.b_int PyProof.Rows.boot_int (da_cons (de_var (pv 2)) (da_nil))) (da_nil)))) (dss_one (ds_ret seeHide (de_ent (dx_lst (da_cons (de_var (pv 1)) (da_cons (de_int) (da_cons (de_int) (da_cons (de_op op_addA v_add (de_int) (de_lenM (by rfl) T.b_len (de_var (pv 1)))) (da_cons (de_int) (da_nil))))))))))
theorem ok__law_draw (T : Txt P w K mg cl) {a__law_draw : Addr} {fd__law_draw : FuncData} (G__law_draw : Fun K "_law_draw" "_law_draw" s__law_draw a__law_draw fd__law_draw)
     : FnOk P w K mg base (L2.CX P w) 1 a__law_draw fd__law_draw ["_law_hand_here", "_law_many"] (spD K cl (MemS K cl) 2 m__law_draw) := by
  refine FnOk.mono (fn_ok (k := 0) G__law_draw sc__law_draw rfl fun cdv A outer s H E hr => ?_) (by omega)
  exact dss_cons (ds_if seeHide (dt_of_dw (dw_and (dt_cmp (op_eqD (hu64 (hu65 hr))) v_eq (by with_unfolding_all rfl) (de_ixM (de_var (pv 0)) (de_int)) (de_int)) (dw_and1 (dt_cmp op_lt v_lt (by with_unfolding_all rfl) (de_ixM (de_var (pv 0)) (de_int)) (de_lenM (by rfl) T.b_len (de_ixM (de_var (pv 0)) (de_int))))))) (dss_cons (ds_set (i := 3) sc__law_draw.nd rfl (by first | exact Or.inl rfl | exact Or.inr rfl) (de_ixM (de_ixM (de_var (pv 0)) (de_int)) (de_ixM (de_var (pv 0)) (de_int)))) (dss_cons (ds_setM seeHide (de_op op_addA v_add (de_ixM (de_var (pv 0)) (de_int)) (de_int)) (de_var (pv 0)) (de_int)) (dss_cons (ds_setM seeHide (de_op op_mod v_mod (de_callTy call_int1 v_int (by rfl) T.b_int PyProof.Rows.boot_int (da_cons (de_op op_addA v_add (de_op op_addA v_add (de_op op_mulA v_mul (de_ixM (de_var (pv 0)) (de_int)) (de_int)) (de_var (pv 3))) (de_int)) (da_nil))) (de_int)) (de_var (pv 0)) (de_int)) (dss_one (ds_if seeHide (dt_cmp op_ge v_ge (by with_unfolding_all rfl) (de_var (pv 3)) (de_op op_pow v_pow (de_int) (de_int))) (dss_one (ds_setM seeHide (de_var (pv 3)) (de_var (pv 0)) (de_int))) (dss_nil)))))) (dss_nil)) (dss_cons (ds_if seeHide (dt_cmp op_gt v_gt (by with_unfolding_all rfl) (de_ixM (de_var (pv 0)) (de_int)) (de_int)) (dss_cons (ds_set (i := 4) sc__law_draw.nd rfl (by first | exact Or.inl rfl | exact Or.inr rfl) (de_op op_mod v_mod (de_callTy call_int1 v_int (by rfl) T.b_int PyProof.Rows.boot_int (da_cons (de_ixM (de_var (pv 0)) (de_int)) (da_nil))) (de_var (pv 1)))) (dss_cons (ds_setM seeHide (de_op op_fdiv v_fdiv (de_ixM (de_var (pv 0)) (de_int)) (de_var (pv 1))) (de_var (pv 0)) (de_int)) (dss_one (ds_ret seeHide (de_var (pv 4)))))) (dss_nil)) (dss_cons (ds_setM seeHide (de_op op_addA v_add (de_ixM (de_var (pv 0)) (de_int)) (de_int)) (de_var (pv 0)) (de_int)) (dss_cons (ds_set (i := 2) sc__law_draw.nd rfl (by first | exact Or.inl rfl | exact Or.inr rfl) (de_op op_mod v_mod (de_callTy call_int1 v_int (by rfl) T.b_int PyProof.Rows.boot_int (da_cons (de_op op_mulA v_mul (de_callTy call_int1 v_int (by rfl) T.b_int PyProof.Rows.boot_int (da_cons (de_op op_addA v_add (de_ixM (de_var (pv 0)) (de_int)) (de_op op_mulA v_mul (de_int) (de_ixM (de_var (pv 0)) (de_int)))) (da_nil))) (de_int)) (da_nil))) (de_int))) (dss_cons (ds_set (i := 2) sc__law_draw.nd rfl (by first | exact Or.inl rfl | exact Or.inr rfl) (de_op op_mod v_mod (de_callTy call_int1 v_int (by rfl) T.b_int PyProof.Rows.boot_int (da_cons (de_op op_mulA v_mul (de_var (pv 2)) (de_op op_addA v_add (de_op op_fdiv v_fdiv (de_var (pv 2)) (de_int)) (de_int))) (da_nil))) (de_int))) (dss_cons (ds_set (i := 2) sc__law_draw.nd rfl (by first | exact Or.inl rfl | exact Or.inr rfl) (de_op op_mod v_mod (de_callTy call_int1 v_int (by rfl) T.b_int PyProof.Rows.boot_int (da_cons (de_op op_mulA v_mul (de_var (pv 2)) (de_op op_addA v_add (de_op op_fdiv v_fdiv (de_var (pv 2)) (de_int)) (de_int))) (da_nil))) (de_int))) (dss_one (ds_ret seeHide (de_op op_mod v_mod (de_callTy call_int1 v_int (by rfl) T.b_int PyProof.Rows.boot_int (da_cons (de_op op_fdiv v_fdiv (de_var (pv 2)) (de_int)) (da_nil))) (de_var (pv 1))))))))))
theorem ok__law_word (T : Txt P w K mg cl) {a__law_word : Addr} {fd__law_word : FuncData} (G__law_word : Fun K "_law_word" "_law_word" s__law_word a__law_word fd__law_word)
    {a__law_draw : Addr} {fd__law_draw : FuncData} (c__law_draw : Cal K mg "_law_draw" a__law_draw fd__law_draw ["_law_hand_here", "_law_many"]) (F__law_draw : FnOk P w K mg base (L2.CX P w) 1 a__law_draw fd__law_draw ["_law_hand_here", "_law_many"] (spD K cl (MemS K cl) 2 m__law_draw)) : FnOk P w K mg base (L2.CX P w) 2 a__law_word fd__law_word ["_law_hand_here"] (spD K cl (MemS K cl) 1 m__law_word_v4) := by
  refine FnOk.mono (fn_ok (k := 1) G__law_word sc__law_word rfl fun cdv A outer s H E hr => ?_) (by omega)
  exact dss_one (ds_ret seeHide (de_ix ⟨T.wp, T.ww⟩ (hu65 hr) (de_lst (da_cons (de_str) (da_cons (de_str) (da_cons (de_str) (da_cons (de_str) (da_cons (de_str) (da_cons (de_str) (da_nil)))))))) (de_call F__law_draw (hr.mono (by first | decide | omega)) (by rfl) c__law_draw.mg c__law_draw.kp c__law_draw.b takesD (da_cons (de_var (pv 0)) (da_cons (de_int) (da_nil))) rfl)))
theorem ok__law_twins (T : Txt P w K mg cl) {a__law_twins : Addr} {fd__law_twins : FuncData} (G__law_twins : Fun K "_law_twins" "_law_twins" s__law_twins a__law_twins fd__law_twins)
    {a__law_draw : Addr} {fd__law_draw : FuncData} (c__law_draw : Cal K mg "_law_draw" a__law_draw fd__law_draw ["_law_hand_here", "_law_many"]) (F__law_draw : FnOk P w K mg base (L2.CX P w) 1 a__law_draw fd__law_draw ["_law_hand_here", "_law_many"] (spD K cl (MemS K cl) 2 m__law_draw))
    {a__law_word : Addr} {fd__law_word : FuncData} (c__law_word : Cal K mg "_law_word" a__law_word fd__law_word ["_law_hand_here"]) (F__law_word : FnOk P w K mg base (L2.CX P w) 2 a__law_word fd__law_word ["_law_hand_here"] (spD K cl (MemS K cl) 1 m__law_word_v4)) : FnOk P w K mg base (L2.CX P w) 3 a__law_twins fd__law_twins ["_law_hand_here", "_law_most"] (spD K cl (MemS K cl) 2 m__law_twins) := by
  refine FnOk.mono (fn_ok (k := 2) G__law_twins sc__law_twins rfl fun cdv A outer s H E hr => ?_) (by omega)
  exact dss_cons (ds_set (i := 2) sc__law_twins.nd rfl (by first | exact Or.inl rfl | exact Or.inr rfl) (de_ix ⟨T.wp, T.ww⟩ (hu65 hr) (de_lst (da_cons (de_tup (da_cons (de_str) (da_nil))) (da_cons (de_tup (da_cons (de_str) (da_cons (de_str) (da_nil)))) (da_nil)))) (de_call F__law_draw (hr.mono (by first | decide | omega)) (by rfl) c__law_draw.mg c__law_draw.kp c__law_draw.b takesD (da_cons (de_var (pv 0)) (da_cons (de_int) (da_nil))) rfl))) (dss_cons (ds_set (i := 3) sc__law_twins.nd rfl (by first | exact Or.inl rfl | exact Or.inr rfl) (de_lst (da_cons (de_tup (da_nil)) (da_cons (de_tup (da_nil)) (da_cons (de_tup (da_cons (de_call F__law_word (hr.mono (by first | decide | omega)) (by rfl) c__law_word.mg c__law_word.kp c__law_word.b takesD (da_cons (de_var (pv 0)) (da_nil)) rfl) (da_nil))) (da_cons (de_tup (da_cons (de_call F__law_word (hr.mono (by first | decide | omega)) (by rfl) c__law_word.mg c__law_word.kp c__law_word.b takesD (da_cons (de_var (pv 0)) (da_nil)) rfl) (da_cons (de_call F__law_word (hr.mono (by first | decide | omega)) (by rfl) c__law_word.mg c__law_word.kp c__law_word.b takesD (da_cons (de_var (pv 0)) (da_nil)) rfl) (da_nil)))) (da_nil))))))) (dss_cons (ds_newL (i := 4) sc__law_twins.nd rfl (by first | exact Or.inl rfl | exact Or.inr rfl)) (dss_cons (ds_for passesD rfl (di_range1 (by rfl) T.b_range (de_op op_addA v_add (de_int) (de_call F__law_draw (hr.mono (by first | decide | omega)) (by rfl) c__law_draw.mg c__law_draw.kp c__law_draw.b takesD (da_cons (de_var (pv 0)) (da_cons (de_op op_sub v_sub (de_var (pv 1)) (de_int)) (da_nil))) rfl))) (dg_name (i := 5) sc__law_twins.nd rfl (by first | exact Or.inl rfl | exact Or.inr rfl)) (dss_cons (ds_set (i := 6) sc__law_twins.nd rfl (by first | exact Or.inl rfl | exact Or.inr rfl) (de_ix ⟨T.wp, T.ww⟩ (hu65 hr) (de_var (pv 3)) (de_call F__law_draw (hr.mono (by first | decide | omega)) (by rfl) c__law_draw.mg c__law_draw.kp c__law_draw.b takesD (da_cons (de_var (pv 0)) (da_cons (de_int) (da_nil))) rfl))) (dss_cons (ds_if seeHide (dt_cmp (op_eqD (hu64 (hu65 hr))) v_eq (by with_unfolding_all rfl) (de_call F__law_draw (hr.mono (by first | decide | omega)) (by rfl) c__law_draw.mg c__law_draw.kp c__law_draw.b takesD (da_cons (de_var (pv 0)) (da_cons (de_int) (da_nil))) rfl) (de_int)) (dss_one (ds_set (i := 6) sc__law_twins.nd rfl (by first | exact Or.inl rfl | exact Or.inr rfl) (de_op op_addA v_add (de_var (pv 6)) (de_tup (da_cons (de_call F__law_word (hr.mono (by first | decide | omega)) (by rfl) c__law_word.mg c__law_word.kp c__law_word.b takesD (da_cons (de_var (pv 0)) (da_nil)) rfl) (da_nil)))))) (dss_nil)) (dss_one (ds_app (i := 4) seeHide kpHide (pv 4) (de_tup (da_cons (de_ix ⟨T.wp, T.ww⟩ (hu65 hr) (de_var (pv 2)) (de_call F__law_draw (hr.mono (by first | decide | omega)) (by rfl) c__law_draw.mg c__law_draw.kp c__law_draw.b takesD (da_cons (de_var (pv 0)) (da_cons (de_callB (c_len ⟨T.wp, T.ww⟩) v_len (by rfl) T.b_len PySem.boot_len (da_cons (de_var (pv 2)) (da_nil))) (da_nil))) rfl)) (da_cons (de_call F__law_draw (hr.mono (by first | decide | omega)) (by rfl) c__law_draw.mg c__law_draw.kp c__law_draw.b takesD (da_cons (de_var (pv 0)) (da_cons (de_int) (da_nil))) rfl) (da_cons (de_var (pv 6)) (da_nil)))))))))) (dss_frz (i := 4) (dss_one (ds_ret seeHide (de_callTy call_tuple_of v_tuple (by rfl) T.b_tuple PyProof.Rows.boot_tuple (da_cons (de_var (pv 4)) (da_nil)))))))))
theorem ok_Hall_keep (T : Txt P w K mg cl) {a_Hall_keep : Addr} {fd_Hall_keep : FuncData} (G_Hall_keep : Fun K "keep" "Hall.keep" s_Hall_keep a_Hall_keep fd_Hall_keep)
     : FnOk P w K mg base (L2.CX P w) 1 a_Hall_keep fd_Hall_keep ["self", "boards"] (spD K cl (MemS K cl) 2 m_Hall_keep) := by
  refine FnOk.mono (fn_ok (k := 0) G_Hall_keep sc_Hall_keep rfl fun cdv A outer s H E hr => ?_) (by omega)
  exact dss_cons (ds_setfo (fam_2 T.f_Hall_boards T.f_RawHall_boards) (List.cons_ne_nil _ _) seeHide (de_var (pv 1)) (de_var (pv 0))) (dss_one (ds_setfo (fam_2 T.f_Hall_names T.f_RawHall_names) (List.cons_ne_nil _ _) seeHide (de_callTy call_tuple_of v_tuple (by rfl) T.b_tuple PyProof.Rows.boot_tuple (da_cons (de_sortedX rfl (by rfl) T.b_sorted (dx_dcomp (own := [("name", 2), ("side", 3), ("begun", 4)]) ⟨T.wp, T.ww⟩ (hu65 hr) rfl sc_Hall_keep.nd (di_any (de_var (pv 1))) (blkOk_by (own := [("name", 2), ("side", 3), ("begun", 4)]) (N := N_Hall_keep) (sc := defScope s_Hall_keep) (by decide +kernel)) (fun _ _ _ _ _ => dg_tup rfl (dgs_cons (dg_name (i := 2) sc_Hall_keep.nd rfl (by first | exact Or.inl rfl | exact Or.inr rfl)) (dgs_cons (dg_name (i := 3) sc_Hall_keep.nd rfl (by first | exact Or.inl rfl | exact Or.inr rfl)) (dgs_cons (dg_name (i := 4) sc_Hall_keep.nd rfl (by first | exact Or.inl rfl | exact Or.inr rfl)) (dgs_nil)))) (aCons_len (aCons_len (aCons_len aNil_len)))) (in_tup (in_cons (in_name (by decide)) (in_cons (in_name (by decide)) (in_cons (in_name (by decide)) (in_nil))))) (fun _ _ _ _ _ => dts_nil) (fun _ _ _ _ _ => de_var (pv 2)) (fun _ _ _ _ _ => de_bl))) (da_nil))) (de_var (pv 0))))
theorem ok_is_letters (T : Txt P w K mg cl) {a_is_letters : Addr} {fd_is_letters : FuncData} (G_is_letters : Fun K "is_letters" "is_letters" s_is_letters a_is_letters fd_is_letters)
     : FnOk P w K mg base (L2.CX P w) 1 a_is_letters fd_is_letters ["thing", "most"] (spD K cl (MemS K cl) 2 m_is_letters) := by
  refine FnOk.mono (fn_ok (k := 0) G_is_letters sc_is_letters rfl fun cdv A outer s H E hr => ?_) (by omega)
  exact dss_cons (ds_if seeHide (dt_of_dw (dw_or (dt_not (dt_truth (de_isi (de_var (pv 0)) (by rfl) T.b_isinstance (by rfl) T.b_str PyProof.Rows.boot_str))) (dw_or1 (dt_not (dt_chain op_le v_le op_le v_le (de_int) (de_callB (c_len ⟨T.wp, T.ww⟩) v_len (by rfl) T.b_len PySem.boot_len (da_cons (de_var (pv 0)) (da_nil))) (de_var (pv 1))))))) (dss_one (ds_ret seeHide (de_bl))) (dss_nil)) (dss_one (ds_ret seeHide (de_callB (cr_all rfl) v_all (by rfl) T.b_all boot_all (da_cons (de_comp (own := [("sign", 2)]) rfl sc_is_letters.nd (di_any (de_var (pv 0))) (blkOk_by (own := [("sign", 2)]) (N := N_is_letters) (sc := defScope s_is_letters) (by decide +kernel)) (fun _ _ _ _ _ => dg_name (i := 2) sc_is_letters.nd rfl (by first | exact Or.inl rfl | exact Or.inr rfl)) (in_name (by decide)) (fun _ _ _ _ _ => dts_nil) (fun _ _ _ _ _ => de_cmp (op_inK ⟨T.wp, T.ww⟩ (hu65 hr)) v_inK (by with_unfolding_all rfl) (de_var (pv 2)) (de_gl T.g_LETTERS (by rfl)))) (da_nil)))))
theorem ok_is_name (T : Txt P w K mg cl) {a_is_name : Addr} {fd_is_name : FuncData} (G_is_name : Fun K "is_name" "is_name" s_is_name a_is_name fd_is_name)
    {a_is_letters : Addr} {fd_is_letters : FuncData} (c_is_letters : Cal K mg "is_letters" a_is_letters fd_is_letters ["thing", "most"]) (F_is_letters : FnOk P w K mg base (L2.CX P w) 1 a_is_letters fd_is_letters ["thing", "most"] (spD K cl (MemS K cl) 2 m_is_letters)) : FnOk P w K mg base (L2.CX P w) 2 a_is_name fd_is_name ["thing"] (spD K cl (MemS K cl) 1 m_is_name) := by
  refine FnOk.mono (fn_ok (k := 1) G_is_name sc_is_name rfl fun cdv A outer s H E hr => ?_) (by omega)
  exact dss_one (ds_ret seeHide (de_call F_is_letters (hr.mono (by first | decide | omega)) (by rfl) c_is_letters.mg c_is_letters.kp c_is_letters.b takesD (da_cons (de_var (pv 0)) (da_cons (de_gl T.g_MOST_NAME (by rfl)) (da_nil))) rfl))
theorem ok_is_integer (T : Txt P w K mg cl) {a_is_integer : Addr} {fd_is_integer : FuncData} (G_is_integer : Fun K "is_integer" "is_integer" s_is_integer a_is_integer fd_is_integer)
     : FnOk P w K mg base (L2.CX P w) 1 a_is_integer fd_is_integer ["thing"] (spD K cl (MemS K cl) 1 m_is_integer) := by
  refine FnOk.mono (fn_ok (k := 0) G_is_integer sc_is_integer rfl fun cdv A outer s H E hr => ?_) (by omega)
  exact dss_one (ds_ret seeHide (de_and (de_isi (de_var (pv 0)) (by rfl) T.b_isinstance (by rfl) T.b_int PyProof.Rows.boot_int) (de_one (de_not (de_isi (de_var (pv 0)) (by rfl) T.b_isinstance (by rfl) T.b_bool PyProof.Rows.boot_bool)))))
theorem ok_is_within (T : Txt P w K mg cl) {a_is_within : Addr} {fd_is_within : FuncData} (G_is_within : Fun K "is_within" "is_within" s_is_within a_is_within fd_is_within)
    {a_is_integer : Addr} {fd_is_integer : FuncData} (c_is_integer : Cal K mg "is_integer" a_is_integer fd_is_integer ["thing"]) (F_is_integer : FnOk P w K mg base (L2.CX P w) 1 a_is_integer fd_is_integer ["thing"] (spD K cl (MemS K cl) 1 m_is_integer)) : FnOk P w K mg base (L2.CX P w) 2 a_is_within fd_is_within ["thing", "least", "most"] (spD K cl (MemS K cl) 3 m_is_within) := by
  refine FnOk.mono (fn_ok (k := 1) G_is_within sc_is_within rfl fun cdv A outer s H E hr => ?_) (by omega)
  exact dss_one (ds_ret seeHide (de_and (de_call F_is_integer (hr.mono (by first | decide | omega)) (by rfl) c_is_integer.mg c_is_integer.kp c_is_integer.b takesD (da_cons (de_var (pv 0)) (da_nil)) rfl) (de_one (de_chain op_le v_le op_le v_le (de_var (pv 1)) (de_var (pv 0)) (de_var (pv 2))))))
theorem ok_is_word (T : Txt P w K mg cl) {a_is_word : Addr} {fd_is_word : FuncData} (G_is_word : Fun K "is_word" "is_word" s_is_word a_is_word fd_is_word)
    {a_is_letters : Addr} {fd_is_letters : FuncData} (c_is_letters : Cal K mg "is_letters" a_is_letters fd_is_letters ["thing", "most"]) (F_is_letters : FnOk P w K mg base (L2.CX P w) 1 a_is_letters fd_is_letters ["thing", "most"] (spD K cl (MemS K cl) 2 m_is_letters)) : FnOk P w K mg base (L2.CX P w) 2 a_is_word fd_is_word ["thing"] (spD K cl (MemS K cl) 1 m_is_word) := by
  refine FnOk.mono (fn_ok (k := 1) G_is_word sc_is_word rfl fun cdv A outer s H E hr => ?_) (by omega)
  exact dss_one (ds_ret seeHide (de_call F_is_letters (hr.mono (by first | decide | omega)) (by rfl) c_is_letters.mg c_is_letters.kp c_is_letters.b takesD (da_cons (de_var (pv 0)) (da_cons (de_gl T.g_MOST_LETTERS (by rfl)) (da_nil))) rfl))
theorem ok_is_words (T : Txt P w K mg cl) {a_is_words : Addr} {fd_is_words : FuncData} (G_is_words : Fun K "is_words" "is_words" s_is_words a_is_words fd_is_words)
    {a_is_word : Addr} {fd_is_word : FuncData} (c_is_word : Cal K mg "is_word" a_is_word fd_is_word ["thing"]) (F_is_word : FnOk P w K mg base (L2.CX P w) 2 a_is_word fd_is_word ["thing"] (spD K cl (MemS K cl) 1 m_is_word)) : FnOk P w K mg base (L2.CX P w) 3 a_is_words fd_is_words ["thing", "most"] (spD K cl (MemS K cl) 2 m_is_words) := by
  refine FnOk.mono (fn_ok (k := 2) G_is_words sc_is_words rfl fun cdv A outer s H E hr => ?_) (by omega)
  exact dss_one (ds_ret seeHide (de_and (de_isi (de_var (pv 0)) (by rfl) T.b_isinstance (by rfl) T.b_tuple PyProof.Rows.boot_tuple) (de_and (de_cmp op_le v_le (by with_unfolding_all rfl) (de_callB (c_len ⟨T.wp, T.ww⟩) v_len (by rfl) T.b_len PySem.boot_len (da_cons (de_var (pv 0)) (da_nil))) (de_var (pv 1))) (de_one (de_callB (cr_all rfl) v_all (by rfl) T.b_all boot_all (da_cons (de_comp (own := [("word", 2)]) rfl sc_is_words.nd (di_any (de_var (pv 0))) (blkOk_by (own := [("word", 2)]) (N := N_is_words) (sc := defScope s_is_words) (by decide +kernel)) (fun _ _ _ _ _ => dg_name (i := 2) sc_is_words.nd rfl (by first | exact Or.inl rfl | exact Or.inr rfl)) (in_name (by decide)) (fun _ _ _ _ _ => dts_nil) (fun _ _ _ _ _ => de_call F_is_word (hr.mono (by first | decide | omega)) (by rfl) c_is_word.mg c_is_word.kp c_is_word.b takes0 (da_cons (de_var (pv 2)) (da_nil)) rfl)) (da_nil)))))))
theorem ok_is_board (T : Txt P w K mg cl) {a_is_board : Addr} {fd_is_board : FuncData} (G_is_board : Fun K "is_board" "is_board" s_is_board a_is_board fd_is_board)
    {a_is_name : Addr} {fd_is_name : FuncData} (c_is_name : Cal K mg "is_name" a_is_name fd_is_name ["thing"]) (F_is_name : FnOk P w K mg base (L2.CX P w) 2 a_is_name fd_is_name ["thing"] (spD K cl (MemS K cl) 1 m_is_name))
    {a_is_within : Addr} {fd_is_within : FuncData} (c_is_within : Cal K mg "is_within" a_is_within fd_is_within ["thing", "least", "most"]) (F_is_within : FnOk P w K mg base (L2.CX P w) 2 a_is_within fd_is_within ["thing", "least", "most"] (spD K cl (MemS K cl) 3 m_is_within))
    {a_is_words : Addr} {fd_is_words : FuncData} (c_is_words : Cal K mg "is_words" a_is_words fd_is_words ["thing", "most"]) (F_is_words : FnOk P w K mg base (L2.CX P w) 3 a_is_words fd_is_words ["thing", "most"] (spD K cl (MemS K cl) 2 m_is_words)) : FnOk P w K mg base (L2.CX P w) 4 a_is_board fd_is_board ["thing"] (spD K cl (MemS K cl) 1 m_is_board) := by
  refine FnOk.mono (fn_ok (k := 3) G_is_board sc_is_board rfl fun cdv A outer s H E hr => ?_) (by omega)
  exact dss_cons (ds_if seeHide (dt_of_dw (dw_or (dt_not (dt_truth (de_isi (de_var (pv 0)) (by rfl) T.b_isinstance (by rfl) T.b_tuple PyProof.Rows.boot_tuple))) (dw_or1 (dt_cmp (op_neD (hu64 (hu65 hr))) v_ne (by with_unfolding_all rfl) (de_callB (c_len ⟨T.wp, T.ww⟩) v_len (by rfl) T.b_len PySem.boot_len (da_cons (de_var (pv 0)) (da_nil))) (de_int))))) (dss_one (ds_ret seeHide (de_bl))) (dss_nil)) (dss_one (ds_ret seeHide (de_and (de_call F_is_name (hr.mono (by first | decide | omega)) (by rfl) c_is_name.mg c_is_name.kp c_is_name.b takesD (da_cons (de_ix ⟨T.wp, T.ww⟩ (hu65 hr) (de_var (pv 0)) (de_int)) (da_nil)) rfl) (de_and (de_call F_is_within (hr.mono (by first | decide | omega)) (by rfl) c_is_within.mg c_is_within.kp c_is_within.b takesD (da_cons (de_ix ⟨T.wp, T.ww⟩ (hu65 hr) (de_var (pv 0)) (de_int)) (da_cons (de_int) (da_cons (de_int) (da_nil)))) rfl) (de_one (de_call F_is_words (hr.mono (by first | decide | omega)) (by rfl) c_is_words.mg c_is_words.kp c_is_words.b takesD (da_cons (de_ix ⟨T.wp, T.ww⟩ (hu65 hr) (de_var (pv 0)) (de_int)) (da_cons (de_gl T.g_MOST_BEGUN (by rfl)) (da_nil))) rfl))))))
theorem ok_Hall_init (T : Txt P w K mg cl) {a_Hall_init : Addr} {fd_Hall_init : FuncData} (G_Hall_init : Fun K "__init__" "Hall.__init__" s_Hall_init a_Hall_init fd_Hall_init)
    {a_Hall_keep : Addr} {fd_Hall_keep : FuncData} (c_Hall_keep : CalM K fd_Hall_keep ["self", "boards"]) (F_Hall_keep : FnOk P w K mg base (L2.CX P w) 1 a_Hall_keep fd_Hall_keep ["self", "boards"] (spD K cl (MemS K cl) 2 m_Hall_keep))
    (N_Hall_keep : MethAt K cl "Hall" "keep" a_Hall_keep)
    {a_is_board : Addr} {fd_is_board : FuncData} (c_is_board : Cal K mg "is_board" a_is_board fd_is_board ["thing"]) (F_is_board : FnOk P w K mg base (L2.CX P w) 4 a_is_board fd_is_board ["thing"] (spD K cl (MemS K cl) 1 m_is_board)) : FnOk P w K mg base (L2.CX P w) 5 a_Hall_init fd_Hall_init ["self", "boards"] (spD K cl (MemS K cl) 2 m_Hall_init) := by
  refine FnOk.mono (fn_ok (k := 4) G_Hall_init sc_Hall_init rfl fun cdv A outer s H E hr => ?_) (by omega)
  exact dss_cons (ds_if seeHide (dt_of_dw (dw_or (dt_not (dt_truth (de_isi (de_var (pv 1)) (by rfl) T.b_isinstance (by rfl) T.b_tuple PyProof.Rows.boot_tuple))) (dw_or1 (dt_not (dt_chain op_le v_le op_le v_le (de_int) (de_callB (c_len ⟨T.wp, T.ww⟩) v_len (by rfl) T.b_len PySem.boot_len (da_cons (de_var (pv 1)) (da_nil))) (de_gl T.g_MOST_BOARDS (by rfl))))))) (dss_one (ds_never)) (dss_nil)) (dss_cons (ds_for passesD rfl (di_enum (by rfl) T.b_enumerate (de_var (pv 1))) (dg_tup rfl (dgs_cons (dg_name (i := 2) sc_Hall_init.nd rfl (by first | exact Or.inl rfl | exact Or.inr rfl)) (dgs_cons (dg_name (i := 3) sc_Hall_init.nd rfl (by first | exact Or.inl rfl | exact Or.inr rfl)) (dgs_nil))) (aCons_len (aCons_len aNil_len))) (dss_one (ds_if seeHide (dt_not (dt_truth (de_call F_is_board (hr.mono (by first | decide | omega)) (by rfl) c_is_board.mg c_is_board.kp c_is_board.b takesD (da_cons (de_var (pv 3)) (da_nil)) rfl))) (dss_one (ds_never)) (dss_nil)))) (dss_one (ds_expr seeHide (de_meth N_Hall_keep F_Hall_keep (hr.mono (by first | decide | omega)) c_Hall_keep.b takesD (de_var (pv 0)) (da_cons (de_var (pv 1)) (da_nil)) rfl))))
theorem ok__law_are_pair (T : Txt P w K mg cl) {a__law_are_pair : Addr} {fd__law_are_pair : FuncData} (G__law_are_pair : Fun K "_law_are_pair" "_law_are_pair" s__law_are_pair a__law_are_pair fd__law_are_pair)
     : FnOk P w K mg base (L2.CX P w) 1 a__law_are_pair fd__law_are_pair ["_law_one", "_law_other"] (spD K cl (MemS K cl) 2 m__law_are_pair_v3) := by
  refine FnOk.mono (fn_ok (k := 0) G__law_are_pair sc__law_are_pair rfl fun cdv A outer s H E hr => ?_) (by omega)
  exact dss_cons (ds_if seeHide (dt_of_dw (dw_or (dt_cmp (op_neD (hu64 (hu65 hr))) v_ne (by with_unfolding_all rfl) (de_ix ⟨T.wp, T.ww⟩ (hu65 hr) (de_var (pv 0)) (de_int)) (de_ix ⟨T.wp, T.ww⟩ (hu65 hr) (de_var (pv 1)) (de_int))) (dw_or1 (dt_cmp (op_eqD (hu64 (hu65 hr))) v_eq (by with_unfolding_all rfl) (de_ix ⟨T.wp, T.ww⟩ (hu65 hr) (de_var (pv 0)) (de_int)) (de_ix ⟨T.wp, T.ww⟩ (hu65 hr) (de_var (pv 1)) (de_int)))))) (dss_one (ds_ret seeHide (de_bl))) (dss_nil)) (dss_cons (ds_if seeHide (dt_cmp (op_eqD (hu64 (hu65 hr))) v_eq (by with_unfolding_all rfl) (de_ix ⟨T.wp, T.ww⟩ (hu65 hr) (de_var (pv 0)) (de_int)) (de_ix ⟨T.wp, T.ww⟩ (hu65 hr) (de_var (pv 1)) (de_int))) (dss_one (ds_ret seeHide (de_bl))) (dss_nil)) (dss_cons (ds_for passesD rfl (di_any (de_lst (da_cons (de_tup (da_cons (de_var (pv 0)) (da_cons (de_var (pv 1)) (da_nil)))) (da_cons (de_tup (da_cons (de_var (pv 1)) (da_cons (de_var (pv 0)) (da_nil)))) (da_nil))))) (dg_tup rfl (dgs_cons (dg_name (i := 2) sc__law_are_pair.nd rfl (by first | exact Or.inl rfl | exact Or.inr rfl)) (dgs_cons (dg_name (i := 3) sc__law_are_pair.nd rfl (by first | exact Or.inl rfl | exact Or.inr rfl)) (dgs_nil))) (aCons_len (aCons_len aNil_len))) (dss_one (ds_if seeHide (dt_of_dw (dw_and (dt_cmp (op_eqD (hu64 (hu65 hr))) v_eq (by with_unfolding_all rfl) (de_callB (c_len ⟨T.wp, T.ww⟩) v_len (by rfl) T.b_len PySem.boot_len (da_cons (de_ix ⟨T.wp, T.ww⟩ (hu65 hr) (de_var (pv 2)) (de_int)) (da_nil))) (de_op op_addA v_add (de_callB (c_len ⟨T.wp, T.ww⟩) v_len (by rfl) T.b_len PySem.boot_len (da_cons (de_ix ⟨T.wp, T.ww⟩ (hu65 hr) (de_var (pv 3)) (de_int)) (da_nil))) (de_int))) (dw_and1 (dt_cmp (op_eqD (hu64 (hu65 hr))) v_eq (by with_unfolding_all rfl) (de_slice (de_ix ⟨T.wp, T.ww⟩ (hu65 hr) (de_var (pv 2)) (de_int)) (do_none) (do_some (de_un un_neg v_neg (de_int)))) (de_ix ⟨T.wp, T.ww⟩ (hu65 hr) (de_var (pv 3)) (de_int)))))) (dss_one (ds_ret seeHide (de_cmp (op_neD (hu64 (hu65 hr))) v_ne (by with_unfolding_all rfl) (de_op op_mod v_mod (de_callTy call_int1 v_int (by rfl) T.b_int PyProof.Rows.boot_int (da_cons (de_callB (c_len ⟨T.wp, T.ww⟩) v_len (by rfl) T.b_len PySem.boot_len (da_cons (de_ix ⟨T.wp, T.ww⟩ (hu65 hr) (de_var (pv 3)) (de_int)) (da_nil))) (da_nil))) (de_int)) (de_ix ⟨T.wp, T.ww⟩ (hu65 hr) (de_var (pv 2)) (de_int))))) (dss_nil)))) (dss_one (ds_ret seeHide (de_bl)))))
theorem ok__law_pairing (T : Txt P w K mg cl) {a__law_pairing : Addr} {fd__law_pairing : FuncData} (G__law_pairing : Fun K "_law_pairing" "_law_pairing" s__law_pairing a__law_pairing fd__law_pairing)
    {a__law_are_pair : Addr} {fd__law_are_pair : FuncData} (c__law_are_pair : Cal K mg "_law_are_pair" a__law_are_pair fd__law_are_pair ["_law_one", "_law_other"]) (F__law_are_pair : FnOk P w K mg base (L2.CX P w) 1 a__law_are_pair fd__law_are_pair ["_law_one", "_law_other"] (spD K cl (MemS K cl) 2 m__law_are_pair_v3))
    {a__law_draw : Addr} {fd__law_draw : FuncData} (c__law_draw : Cal K mg "_law_draw" a__law_draw fd__law_draw ["_law_hand_here", "_law_many"]) (F__law_draw : FnOk P w K mg base (L2.CX P w) 1 a__law_draw fd__law_draw ["_law_hand_here", "_law_many"] (spD K cl (MemS K cl) 2 m__law_draw)) : FnOk P w K mg base (L2.CX P w) 2 a__law_pairing fd__law_pairing ["_law_hand_here", "_law_boards_here"] (spD K cl (MemS K cl) 2 m__law_pairing_v2) := by
  refine FnOk.mono (fn_ok (k := 1) G__law_pairing sc__law_pairing rfl fun cdv A outer s H E hr => ?_) (by omega)
  exact dss_cons (ds_newL (i := 2) sc__law_pairing.nd rfl (by first | exact Or.inl rfl | exact Or.inr rfl)) (dss_cons (ds_for passesD rfl (di_range1 (by rfl) T.b_range (de_callB (c_len ⟨T.wp, T.ww⟩) v_len (by rfl) T.b_len PySem.boot_len (da_cons (de_var (pv 1)) (da_nil)))) (dg_name (i := 3) sc__law_pairing.nd rfl (by first | exact Or.inl rfl | exact Or.inr rfl)) (dss_one (ds_ownAdd (i := 2) sc__law_pairing.nd rfl (by first | exact Or.inl rfl | exact Or.inr rfl) (pv 2) (de_comp (own := [("_law_two", 8)]) rfl sc__law_pairing.nd (di_range2 (by rfl) T.b_range (de_op op_addA v_add (de_var (pv 3)) (de_int)) (de_callB (c_len ⟨T.wp, T.ww⟩) v_len (by rfl) T.b_len PySem.boot_len (da_cons (de_var (pv 1)) (da_nil)))) (blkOk_by (own := [("_law_two", 8)]) (N := N__law_pairing) (sc := defScope s__law_pairing) (by decide +kernel)) (fun _ _ _ _ _ => dg_name (i := 8) sc__law_pairing.nd rfl (by first | exact Or.inl rfl | exact Or.inr rfl)) (in_name (by decide)) (fun _ _ _ _ _ => dts_one (dt_truth (de_call F__law_are_pair (hr.mono (by first | decide | omega)) (by rfl) c__law_are_pair.mg c__law_are_pair.kp c__law_are_pair.b takes0 (da_cons (de_ix ⟨T.wp, T.ww⟩ (hu65 hr) (de_var (pv 1)) (de_var (pv 3))) (da_cons (de_ix ⟨T.wp, T.ww⟩ (hu65 hr) (de_var (pv 1)) (de_var (pv 8))) (da_nil))) rfl))) (fun _ _ _ _ _ => de_tup (da_cons (de_var (pv 3)) (da_cons (de_var (pv 8)) (da_nil)))))))) (dss_cons (ds_newL (i := 4) sc__law_pairing.nd rfl (by first | exact Or.inl rfl | exact Or.inr rfl)) (dss_cons (ds_set (i := 5) sc__law_pairing.nd rfl (by first | exact Or.inl rfl | exact Or.inr rfl) (de_lst (da_nil))) (dss_cons (ds_forS seeAll passesD rfl (by rfl) T.b_range (de_callB (c_len ⟨T.wp, T.ww⟩) v_len (by rfl) T.b_len PySem.boot_len (da_cons (de_var (pv 2)) (da_nil))) (dg_name (i := 6) sc__law_pairing.nd rfl (by first | exact Or.inl rfl | exact Or.inr rfl)) (dss_cons (ds_popO (i := 2) (j := 7) seeAll kpImm PySem.F.slot_list_pop PySem.F.type_list_pop (mt_rm mt_popAt) mv_popAt sc__law_pairing.nd rfl (by first | exact Or.inl rfl | exact Or.inr rfl) (pv 2) (da_cons (de_call F__law_draw (hr.mono (by first | decide | omega)) (by rfl) c__law_draw.mg c__law_draw.kp c__law_draw.b takesD (da_cons (de_var (pv 0)) (da_cons (de_callB (c_len ⟨T.wp, T.ww⟩) v_len (by rfl) T.b_len PySem.boot_len (da_cons (de_var (pv 2)) (da_nil))) (da_nil))) rfl) (da_nil))) (dss_one (ds_if seeHide (dt_of_dw (dw_and (dt_cmp (op_notInK ⟨T.wp, T.ww⟩ (hu65 hr)) v_notInK (by with_unfolding_all rfl) (de_ix ⟨T.wp, T.ww⟩ (hu65 hr) (de_var (pv 7)) (de_int)) (de_var (pv 5))) (dw_and (dt_cmp (op_notInK ⟨T.wp, T.ww⟩ (hu65 hr)) v_notInK (by with_unfolding_all rfl) (de_ix ⟨T.wp, T.ww⟩ (hu65 hr) (de_var (pv 7)) (de_int)) (de_var (pv 5))) (dw_and1 (dt_cmp op_gt v_gt (by with_unfolding_all rfl) (de_call F__law_draw (hr.mono (by first | decide | omega)) (by rfl) c__law_draw.mg c__law_draw.kp c__law_draw.b takesD (da_cons (de_var (pv 0)) (da_cons (de_int) (da_nil))) rfl) (de_int)))))) (dss_cons (ds_app (i := 4) seeHide kpHide (pv 4) (de_var (pv 7))) (dss_one (ds_set (i := 5) sc__law_pairing.nd rfl (by first | exact Or.inl rfl | exact Or.inr rfl) (de_op op_addA v_add (de_var (pv 5)) (de_callTy call_list_of v_list (by rfl) T.b_list PyProof.Rows.boot_list (da_cons (de_var (pv 7)) (da_nil))))))) (dss_nil))))) (dss_frz (i := 4) (dss_one (ds_ret seeHide (de_callTy call_tuple_of v_tuple (by rfl) T.b_tuple PyProof.Rows.boot_tuple (da_cons (de_callB (cr_sortDat (hu65 hr)) v_sorted (by rfl) T.b_sorted boot_sorted (da_cons (de_var (pv 4)) (da_nil))) (da_nil))))))))))
theorem ok__law_rows (T : Txt P w K mg cl) {a__law_rows : Addr} {fd__law_rows : FuncData} (G__law_rows : Fun K "_law_rows" "_law_rows" s__law_rows a__law_rows fd__law_rows)
    {a__law_draw : Addr} {fd__law_draw : FuncData} (c__law_draw : Cal K mg "_law_draw" a__law_draw fd__law_draw ["_law_hand_here", "_law_many"]) (F__law_draw : FnOk P w K mg base (L2.CX P w) 1 a__law_draw fd__law_draw ["_law_hand_here", "_law_many"] (spD K cl (MemS K cl) 2 m__law_draw))
    {a__law_word : Addr} {fd__law_word : FuncData} (c__law_word : Cal K mg "_law_word" a__law_word fd__law_word ["_law_hand_here"]) (F__law_word : FnOk P w K mg base (L2.CX P w) 2 a__law_word fd__law_word ["_law_hand_here"] (spD K cl (MemS K cl) 1 m__law_word_v4)) : FnOk P w K mg base (L2.CX P w) 3 a__law_rows fd__law_rows ["_law_hand_here", "_law_boards_here"] (spD K cl (MemS K cl) 2 m__law_rows_v2) := by
  refine FnOk.mono (fn_ok (k := 2) G__law_rows sc__law_rows rfl fun cdv A outer s H E hr => ?_) (by omega)
  exact dss_cons (ds_set (i := 2) sc__law_rows.nd rfl (by first | exact Or.inl rfl | exact Or.inr rfl) (de_callTy call_tuple_of v_tuple (by rfl) T.b_tuple PyProof.Rows.boot_tuple (da_cons (de_comp (own := [("_law_turn", 9)]) rfl sc__law_rows.nd (di_range1 (by rfl) T.b_range (de_call F__law_draw (hr.mono (by first | decide | omega)) (by rfl) c__law_draw.mg c__law_draw.kp c__law_draw.b takesD (da_cons (de_var (pv 0)) (da_cons (de_int) (da_nil))) rfl)) (blkOk_by (own := [("_law_turn", 9)]) (N := N__law_rows) (sc := defScope s__law_rows) (by decide +kernel)) (fun _ _ _ _ _ => dg_name (i := 9) sc__law_rows.nd rfl (by first | exact Or.inl rfl | exact Or.inr rfl)) (in_name (by decide)) (fun _ _ _ _ _ => dts_nil) (fun _ _ _ _ _ => de_call F__law_word (hr.mono (by first | decide | omega)) (by rfl) c__law_word.mg c__law_word.kp c__law_word.b takes0 (da_cons (de_var (pv 0)) (da_nil)) rfl)) (da_nil)))) (dss_cons (ds_newL (i := 3) sc__law_rows.nd rfl (by first | exact Or.inl rfl | exact Or.inr rfl)) (dss_cons (ds_for passesD rfl (di_any (de_var (pv 1))) (dg_tup rfl (dgs_cons (dg_name (i := 4) sc__law_rows.nd rfl (by first | exact Or.inl rfl | exact Or.inr rfl)) (dgs_cons (dg_name (i := 5) sc__law_rows.nd rfl (by first | exact Or.inl rfl | exact Or.inr rfl)) (dgs_cons (dg_name (i := 6) sc__law_rows.nd rfl (by first | exact Or.inl rfl | exact Or.inr rfl)) (dgs_nil)))) (aCons_len (aCons_len (aCons_len aNil_len)))) (dss_cons (ds_set (i := 7) sc__law_rows.nd rfl (by first | exact Or.inl rfl | exact Or.inr rfl) (de_op op_addA v_add (de_var (pv 6)) (de_var (pv 2)))) (dss_cons (ds_set (i := 8) sc__law_rows.nd rfl (by first | exact Or.inl rfl | exact Or.inr rfl) (de_call F__law_draw (hr.mono (by first | decide | omega)) (by rfl) c__law_draw.mg c__law_draw.kp c__law_draw.b takesD (da_cons (de_var (pv 0)) (da_cons (de_int) (da_nil))) rfl)) (dss_cons (ds_if seeHide (dt_cmp (op_eqD (hu64 (hu65 hr))) v_eq (by with_unfolding_all rfl) (de_var (pv 8)) (de_int)) (dss_one (ds_set (i := 7) sc__law_rows.nd rfl (by first | exact Or.inl rfl | exact Or.inr rfl) (de_op op_addA v_add (de_var (pv 7)) (de_tup (da_cons (de_call F__law_word (hr.mono (by first | decide | omega)) (by rfl) c__law_word.mg c__law_word.kp c__law_word.b takesD (da_cons (de_var (pv 0)) (da_nil)) rfl) (da_nil)))))) (dss_one (ds_if seeHide (dt_cmp (op_eqD (hu64 (hu65 hr))) v_eq (by with_unfolding_all rfl) (de_var (pv 8)) (de_int)) (dss_one (ds_set (i := 7) sc__law_rows.nd rfl (by first | exact Or.inl rfl | exact Or.inr rfl) (de_op op_addA v_add (de_var (pv 6)) (de_callTy call_tuple_of v_tuple (by rfl) T.b_tuple PyProof.Rows.boot_tuple (da_cons (de_comp (own := [("_law_turn", 9)]) rfl sc__law_rows.nd (di_range1 (by rfl) T.b_range (de_call F__law_draw (hr.mono (by first | decide | omega)) (by rfl) c__law_draw.mg c__law_draw.kp c__law_draw.b takesD (da_cons (de_var (pv 0)) (da_cons (de_int) (da_nil))) rfl)) (blkOk_by (own := [("_law_turn", 9)]) (N := N__law_rows) (sc := defScope s__law_rows) (by decide +kernel)) (fun _ _ _ _ _ => dg_name (i := 9) sc__law_rows.nd rfl (by first | exact Or.inl rfl | exact Or.inr rfl)) (in_name (by decide)) (fun _ _ _ _ _ => dts_nil) (fun _ _ _ _ _ => de_call F__law_word (hr.mono (by first | decide | omega)) (by rfl) c__law_word.mg c__law_word.kp c__law_word.b takes0 (da_cons (de_var (pv 0)) (da_nil)) rfl)) (da_nil)))))) (dss_nil)))) (dss_one (ds_app (i := 3) seeHide kpHide (pv 3) (de_var (pv 7)))))))) (dss_frz (i := 3) (dss_one (ds_ret seeHide (de_callTy call_tuple_of v_tuple (by rfl) T.b_tuple PyProof.Rows.boot_tuple (da_cons (de_var (pv 3)) (da_nil))))))))
theorem ok__law_is_pairing (T : Txt P w K mg cl) {a__law_is_pairing : Addr} {fd__law_is_pairing : FuncData} (G__law_is_pairing : Fun K "_law_is_pairing" "_law_is_pairing" s__law_is_pairing a__law_is_pairing fd__law_is_pairing)
    {a__law_are_pair : Addr} {fd__law_are_pair : FuncData} (c__law_are_pair : Cal K mg "_law_are_pair" a__law_are_pair fd__law_are_pair ["_law_one", "_law_other"]) (F__law_are_pair : FnOk P w K mg base (L2.CX P w) 1 a__law_are_pair fd__law_are_pair ["_law_one", "_law_other"] (spD K cl (MemS K cl) 2 m__law_are_pair_v3)) : FnOk P w K mg base (L2.CX P w) 2 a__law_is_pairing fd__law_is_pairing ["_law_boards_here", "_law_thing"] (spD K cl (MemS K cl) 2 m__law_is_pairing_v3) := by
  refine FnOk.mono (fn_ok (k := 1) G__law_is_pairing sc__law_is_pairing rfl fun cdv A outer s H E hr => ?_) (by omega)
  exact dss_cons (ds_if seeHide (dt_not (dt_truth (de_isi (de_var (pv 1)) (by rfl) T.b_isinstance (by rfl) T.b_tuple PyProof.Rows.boot_tuple))) (dss_one (ds_ret seeHide (de_bl))) (dss_nil)) (dss_cons (ds_newL (i := 2) sc__law_is_pairing.nd rfl (by first | exact Or.inl rfl | exact Or.inr rfl)) (dss_cons (ds_for passesD rfl (di_any (de_var (pv 1))) (dg_name (i := 3) sc__law_is_pairing.nd rfl (by first | exact Or.inl rfl | exact Or.inr rfl)) (dss_cons (ds_if seeHide (dt_of_dw (dw_or (dt_not (dt_truth (de_isi (de_var (pv 3)) (by rfl) T.b_isinstance (by rfl) T.b_tuple PyProof.Rows.boot_tuple))) (dw_or1 (dt_cmp (op_neD (hu64 (hu65 hr))) v_ne (by with_unfolding_all rfl) (de_callB (c_len ⟨T.wp, T.ww⟩) v_len (by rfl) T.b_len PySem.boot_len (da_cons (de_var (pv 3)) (da_nil))) (de_int))))) (dss_one (ds_ret seeHide (de_bl))) (dss_nil)) (dss_cons (ds_for passesD rfl (di_any (de_var (pv 3))) (dg_name (i := 4) sc__law_is_pairing.nd rfl (by first | exact Or.inl rfl | exact Or.inr rfl)) (dss_cons (ds_if seeAll (dt_of_dw (dw_or (dt_truth (de_isi (de_var (pv 4)) (by rfl) T.b_isinstance (by rfl) T.b_bool PyProof.Rows.boot_bool)) (dw_or (dt_not (dt_truth (de_isi (de_var (pv 4)) (by rfl) T.b_isinstance (by rfl) T.b_int PyProof.Rows.boot_int))) (dw_or (dt_not (dt_chain op_le v_le (op_ltD (hu64 (hu65 hr))) v_ltD (de_int) (de_var (pv 4)) (de_callB (c_len ⟨T.wp, T.ww⟩) v_len (by rfl) T.b_len PySem.boot_len (da_cons (de_var (pv 0)) (da_nil))))) (dw_or1 (dt_cmp (op_inK ⟨T.wp, T.ww⟩ (hu65 hr)) v_inK (by with_unfolding_all rfl) (de_var (pv 4)) (de_var (pv 2)))))))) (dss_one (ds_ret seeHide (de_bl))) (dss_nil)) (dss_one (ds_app (i := 2) seeHide kpHide (pv 2) (de_var (pv 4)))))) (dss_one (ds_if seeHide (dt_of_dw (dw_or (dt_not (dt_cmp (op_ltD (hu64 (hu65 hr))) v_ltD (by with_unfolding_all rfl) (de_ix ⟨T.wp, T.ww⟩ (hu65 hr) (de_var (pv 3)) (de_int)) (de_ix ⟨T.wp, T.ww⟩ (hu65 hr) (de_var (pv 3)) (de_int)))) (dw_or1 (dt_not (dt_truth (de_call F__law_are_pair (hr.mono (by first | decide | omega)) (by rfl) c__law_are_pair.mg c__law_are_pair.kp c__law_are_pair.b takesD (da_cons (de_ix ⟨T.wp, T.ww⟩ (hu65 hr) (de_var (pv 0)) (de_ix ⟨T.wp, T.ww⟩ (hu65 hr) (de_var (pv 3)) (de_int))) (da_cons (de_ix ⟨T.wp, T.ww⟩ (hu65 hr) (de_var (pv 0)) (de_ix ⟨T.wp, T.ww⟩ (hu65 hr) (de_var (pv 3)) (de_int))) (da_nil))) rfl)))))) (dss_one (ds_ret seeHide (de_bl))) (dss_nil)))))) (dss_one (ds_ret seeHide (de_callB (cr_all rfl) v_all (by rfl) T.b_all boot_all (da_cons (de_comp (own := [("_law_at", 5)]) rfl sc__law_is_pairing.nd (di_range2 (by rfl) T.b_range (de_int) (de_callB (c_len ⟨T.wp, T.ww⟩) v_len (by rfl) T.b_len PySem.boot_len (da_cons (de_var (pv 1)) (da_nil)))) (blkOk_by (own := [("_law_at", 5)]) (N := N__law_is_pairing) (sc := defScope s__law_is_pairing) (by decide +kernel)) (fun _ _ _ _ _ => dg_name (i := 5) sc__law_is_pairing.nd rfl (by first | exact Or.inl rfl | exact Or.inr rfl)) (in_name (by decide)) (fun _ _ _ _ _ => dts_nil) (fun _ _ _ _ _ => de_cmp (op_ltD (hu64 (hu65 hr))) v_ltD (by with_unfolding_all rfl) (de_ix ⟨T.wp, T.ww⟩ (hu65 hr) (de_var (pv 1)) (de_op op_sub v_sub (de_var (pv 5)) (de_int))) (de_ix ⟨T.wp, T.ww⟩ (hu65 hr) (de_var (pv 1)) (de_var (pv 5))))) (da_nil)))))))
theorem ok__law_bent_pairing (T : Txt P w K mg cl) {a__law_bent_pairing : Addr} {fd__law_bent_pairing : FuncData} (G__law_bent_pairing : Fun K "_law_bent_pairing" "_law_bent_pairing" s__law_bent_pairing a__law_bent_pairing fd__law_bent_pairing)
    {a__law_draw : Addr} {fd__law_draw : FuncData} (c__law_draw : Cal K mg "_law_draw" a__law_draw fd__law_draw ["_law_hand_here", "_law_many"]) (F__law_draw : FnOk P w K mg base (L2.CX P w) 1 a__law_draw fd__law_draw ["_law_hand_here", "_law_many"] (spD K cl (MemS K cl) 2 m__law_draw)) : FnOk P w K mg base (L2.CX P w) 2 a__law_bent_pairing fd__law_bent_pairing ["_law_hand_here", "_law_boards_here", "_law_pairing_here"] (spD K cl (MemS K cl) 3 m__law_bent_pairing) := by
  refine FnOk.mono (fn_ok (k := 1) G__law_bent_pairing sc__law_bent_pairing rfl fun cdv A outer s H E hr => ?_) (by omega)
  exact dss_cons (ds_own (i := 3) sc__law_bent_pairing.nd rfl (by first | exact Or.inl rfl | exact Or.inr rfl) (dm_of_dx (dx_list (by rfl) T.b_list (de_var (pv 2))))) (dss_cons (ds_set (i := 4) sc__law_bent_pairing.nd rfl (by first | exact Or.inl rfl | exact Or.inr rfl) (de_call F__law_draw (hr.mono (by first | decide | omega)) (by rfl) c__law_draw.mg c__law_draw.kp c__law_draw.b takesD (da_cons (de_var (pv 0)) (da_cons (de_callB (c_len ⟨T.wp, T.ww⟩) v_len (by rfl) T.b_len PySem.boot_len (da_cons (de_var (pv 1)) (da_nil))) (da_nil))) rfl)) (dss_cons (ds_set (i := 5) sc__law_bent_pairing.nd rfl (by first | exact Or.inl rfl | exact Or.inr rfl) (de_call F__law_draw (hr.mono (by first | decide | omega)) (by rfl) c__law_draw.mg c__law_draw.kp c__law_draw.b takesD (da_cons (de_var (pv 0)) (da_cons (de_callB (c_len ⟨T.wp, T.ww⟩) v_len (by rfl) T.b_len PySem.boot_len (da_cons (de_var (pv 1)) (da_nil))) (da_nil))) rfl)) (dss_cons (ds_set (i := 6) sc__law_bent_pairing.nd rfl (by first | exact Or.inl rfl | exact Or.inr rfl) (de_lst (da_cons (de_tup (da_cons (de_var (pv 4)) (da_cons (de_var (pv 5)) (da_nil)))) (da_cons (de_tup (da_cons (de_var (pv 4)) (da_cons (de_callB (c_len ⟨T.wp, T.ww⟩) v_len (by rfl) T.b_len PySem.boot_len (da_cons (de_var (pv 1)) (da_nil))) (da_nil)))) (da_cons (de_tup (da_cons (de_bl) (da_cons (de_int) (da_nil)))) (da_cons (de_tup (da_cons (de_un un_neg v_neg (de_int)) (da_cons (de_var (pv 4)) (da_nil)))) (da_cons (de_tup (da_cons (de_var (pv 4)) (da_nil))) (da_cons (de_lst (da_cons (de_var (pv 4)) (da_cons (de_var (pv 5)) (da_nil)))) (da_cons (de_non) (da_cons (de_tup (da_cons (de_var (pv 4)) (da_cons (de_var (pv 5)) (da_cons (de_var (pv 4)) (da_nil))))) (da_cons (de_str) (da_nil)))))))))))) (dss_cons (ds_insO (i := 3) (pv 3) (de_call F__law_draw (hr.mono (by first | decide | omega)) (by rfl) c__law_draw.mg c__law_draw.kp c__law_draw.b takesD (da_cons (de_var (pv 0)) (da_cons (de_op op_addA v_add (de_callB (c_len ⟨T.wp, T.ww⟩) v_len (by rfl) T.b_len PySem.boot_len (da_cons (de_var (pv 3)) (da_nil))) (de_int)) (da_nil))) rfl) (de_ix ⟨T.wp, T.ww⟩ (hu65 hr) (de_var (pv 6)) (de_call F__law_draw (hr.mono (by first | decide | omega)) (by rfl) c__law_draw.mg c__law_draw.kp c__law_draw.b takesD (da_cons (de_var (pv 0)) (da_cons (de_int) (da_nil))) rfl))) (dss_frz (i := 3) (dss_cons (ds_set (i := 7) sc__law_bent_pairing.nd rfl (by first | exact Or.inl rfl | exact Or.inr rfl) (de_lst (da_cons (de_callTy call_tuple_of v_tuple (by rfl) T.b_tuple PyProof.Rows.boot_tuple (da_cons (de_var (pv 3)) (da_nil))) (da_cons (de_callTy call_tuple_of v_tuple (by rfl) T.b_tuple PyProof.Rows.boot_tuple (da_cons (de_var (pv 3)) (da_nil))) (da_cons (de_callTy call_tuple_of v_tuple (by rfl) T.b_tuple PyProof.Rows.boot_tuple (da_cons (de_var (pv 3)) (da_nil))) (da_cons (de_rev (de_var (pv 2)) pe_m1) (da_cons (de_callTy call_list_of v_list (by rfl) T.b_list PyProof.Rows.boot_list (da_cons (de_var (pv 2)) (da_nil))) (da_cons (de_non) (da_cons (de_int) (da_cons (de_op op_addA v_add (de_var (pv 2)) (de_slice (de_var (pv 2)) (do_none) (do_some (de_int)))) (da_nil))))))))))) (dss_one (ds_ret seeHide (de_ix ⟨T.wp, T.ww⟩ (hu65 hr) (de_var (pv 7)) (de_call F__law_draw (hr.mono (by first | decide | omega)) (by rfl) c__law_draw.mg c__law_draw.kp c__law_draw.b takesD (da_cons (de_var (pv 0)) (da_cons (de_int) (da_nil))) rfl))))))))))
theorem ok__law_bent_rows (T : Txt P w K mg cl) {a__law_bent_rows : Addr} {fd__law_bent_rows : FuncData} (G__law_bent_rows : Fun K "_law_bent_rows" "_law_bent_rows" s__law_bent_rows a__law_bent_rows fd__law_bent_rows)
    {a__law_draw : Addr} {fd__law_draw : FuncData} (c__law_draw : Cal K mg "_law_draw" a__law_draw fd__law_draw ["_law_hand_here", "_law_many"]) (F__law_draw : FnOk P w K mg base (L2.CX P w) 1 a__law_draw fd__law_draw ["_law_hand_here", "_law_many"] (spD K cl (MemS K cl) 2 m__law_draw)) : FnOk P w K mg base (L2.CX P w) 2 a__law_bent_rows fd__law_bent_rows ["_law_hand_here", "_law_rows_here"] (spD K cl (MemS K cl) 2 m__law_bent_rows) := by
  refine FnOk.mono (fn_ok (k := 1) G__law_bent_rows sc__law_bent_rows rfl fun cdv A outer s H E hr => ?_) (by omega)
  exact dss_cons (ds_set (i := 2) sc__law_bent_rows.nd rfl (by first | exact Or.inl rfl | exact Or.inr rfl) (de_call F__law_draw (hr.mono (by first | decide | omega)) (by rfl) c__law_draw.mg c__law_draw.kp c__law_draw.b takesD (da_cons (de_var (pv 0)) (da_cons (de_callB (c_len ⟨T.wp, T.ww⟩) v_len (by rfl) T.b_len PySem.boot_len (da_cons (de_var (pv 1)) (da_nil))) (da_nil))) rfl)) (dss_cons (ds_set (i := 3) sc__law_bent_rows.nd rfl (by first | exact Or.inl rfl | exact Or.inr rfl) (de_ix ⟨T.wp, T.ww⟩ (hu65 hr) (de_var (pv 1)) (de_var (pv 2)))) (dss_cons (ds_own (i := 4) sc__law_bent_rows.nd rfl (by first | exact Or.inl rfl | exact Or.inr rfl) (dm_of_dx (dx_lst (da_cons (de_slice (de_var (pv 3)) (do_some (de_int)) (do_none)) (da_cons (de_op op_addA v_add (de_tup (da_cons (de_str) (da_nil))) (de_var (pv 3))) (da_cons (de_callTy call_list_of v_list (by rfl) T.b_list PyProof.Rows.boot_list (da_cons (de_var (pv 3)) (da_nil))) (da_cons (de_op op_addA v_add (de_var (pv 3)) (de_tup (da_cons (de_str) (da_nil)))) (da_cons (de_op op_addA v_add (de_var (pv 3)) (de_tup (da_cons (de_int) (da_nil)))) (da_cons (de_non) (da_cons (de_op op_addA v_add (de_var (pv 3)) (de_tup (da_cons (de_str) (da_nil)))) (da_nil))))))))))) (dss_cons (ds_app (i := 4) seeHide kpHide (pv 4) (de_op op_addA v_add (de_var (pv 3)) (de_op op_mulA v_mul (de_tup (da_cons (de_str) (da_nil))) (de_op op_sub v_sub (de_int) (de_callB (c_len ⟨T.wp, T.ww⟩) v_len (by rfl) T.b_len PySem.boot_len (da_cons (de_var (pv 3)) (da_nil))))))) (dss_frz (i := 4) (dss_cons (ds_set (i := 5) sc__law_bent_rows.nd rfl (by first | exact Or.inl rfl | exact Or.inr rfl) (de_lst (da_cons (de_op op_addA v_add (de_op op_addA v_add (de_slice (de_var (pv 1)) (do_none) (do_some (de_var (pv 2)))) (de_tup (da_cons (de_ix ⟨T.wp, T.ww⟩ (hu65 hr) (de_var (pv 4)) (de_call F__law_draw (hr.mono (by first | decide | omega)) (by rfl) c__law_draw.mg c__law_draw.kp c__law_draw.b takesD (da_cons (de_var (pv 0)) (da_cons (de_int) (da_nil))) rfl)) (da_nil)))) (de_slice (de_var (pv 1)) (do_some (de_op op_addA v_add (de_var (pv 2)) (de_int))) (do_none))) (da_cons (de_slice (de_var (pv 1)) (do_some (de_int)) (do_none)) (da_cons (de_op op_addA v_add (de_var (pv 1)) (de_tup (da_cons (de_tup (da_nil)) (da_nil)))) (da_cons (de_callTy call_list_of v_list (by rfl) T.b_list PyProof.Rows.boot_list (da_cons (de_var (pv 1)) (da_nil))) (da_cons (de_non) (da_cons (de_tup (da_nil)) (da_nil))))))))) (dss_one (ds_ret seeHide (de_ifExp (dt_cmp (op_eqD (hu64 (hu65 hr))) v_eq (by with_unfolding_all rfl) (de_call F__law_draw (hr.mono (by first | decide | omega)) (by rfl) c__law_draw.mg c__law_draw.kp c__law_draw.b takesD (da_cons (de_var (pv 0)) (da_cons (de_int) (da_nil))) rfl) (de_int)) (de_ix ⟨T.wp, T.ww⟩ (hu65 hr) (de_var (pv 5)) (de_callB (call_min2 rfl) v_min2 (by rfl) T.b_min PyProof.Rows.boot_min (da_cons (de_int) (da_cons (de_call F__law_draw (hr.mono (by first | decide | omega)) (by rfl) c__law_draw.mg c__law_draw.kp c__law_draw.b takesD (da_cons (de_var (pv 0)) (da_cons (de_int) (da_nil))) rfl) (da_nil))))) (de_ix ⟨T.wp, T.ww⟩ (hu65 hr) (de_var (pv 5)) (de_int))))))))))
theorem ok__law_are_rows (T : Txt P w K mg cl) {a__law_are_rows : Addr} {fd__law_are_rows : FuncData} (G__law_are_rows : Fun K "_law_are_rows" "_law_are_rows" s__law_are_rows a__law_are_rows fd__law_are_rows)
     : FnOk P w K mg base (L2.CX P w) 1 a__law_are_rows fd__law_are_rows ["_law_boards_here", "_law_thing"] (spD K cl (MemS K cl) 2 m__law_are_rows) := by
  refine FnOk.mono (fn_ok (k := 0) G__law_are_rows sc__law_are_rows rfl fun cdv A outer s H E hr => ?_) (by omega)
  exact dss_cons (ds_if seeHide (dt_of_dw (dw_or (dt_not (dt_truth (de_isi (de_var (pv 1)) (by rfl) T.b_isinstance (by rfl) T.b_tuple PyProof.Rows.boot_tuple))) (dw_or1 (dt_cmp (op_neD (hu64 (hu65 hr))) v_ne (by with_unfolding_all rfl) (de_callB (c_len ⟨T.wp, T.ww⟩) v_len (by rfl) T.b_len PySem.boot_len (da_cons (de_var (pv 1)) (da_nil))) (de_callB (c_len ⟨T.wp, T.ww⟩) v_len (by rfl) T.b_len PySem.boot_len (da_cons (de_var (pv 0)) (da_nil))))))) (dss_one (ds_ret seeHide (de_bl))) (dss_nil)) (dss_cons (ds_for passesD rfl (di_range1 (by rfl) T.b_range (de_callB (c_len ⟨T.wp, T.ww⟩) v_len (by rfl) T.b_len PySem.boot_len (da_cons (de_var (pv 0)) (da_nil)))) (dg_name (i := 2) sc__law_are_rows.nd rfl (by first | exact Or.inl rfl | exact Or.inr rfl)) (dss_cons (ds_set (i := 3) sc__law_are_rows.nd rfl (by first | exact Or.inl rfl | exact Or.inr rfl) (de_ix ⟨T.wp, T.ww⟩ (hu65 hr) (de_var (pv 1)) (de_var (pv 2)))) (dss_cons (ds_if seeHide (dt_of_dw (dw_or (dt_not (dt_truth (de_isi (de_var (pv 3)) (by rfl) T.b_isinstance (by rfl) T.b_tuple PyProof.Rows.boot_tuple))) (dw_or (dt_cmp op_gt v_gt (by with_unfolding_all rfl) (de_callB (c_len ⟨T.wp, T.ww⟩) v_len (by rfl) T.b_len PySem.boot_len (da_cons (de_var (pv 3)) (da_nil))) (de_int)) (dw_or1 (dt_cmp (op_neD (hu64 (hu65 hr))) v_ne (by with_unfolding_all rfl) (de_slice (de_var (pv 3)) (do_none) (do_some (de_callB (c_len ⟨T.wp, T.ww⟩) v_len (by rfl) T.b_len PySem.boot_len (da_cons (de_ix ⟨T.wp, T.ww⟩ (hu65 hr) (de_ix ⟨T.wp, T.ww⟩ (hu65 hr) (de_var (pv 0)) (de_var (pv 2))) (de_int)) (da_nil))))) (de_ix ⟨T.wp, T.ww⟩ (hu65 hr) (de_ix ⟨T.wp, T.ww⟩ (hu65 hr) (de_var (pv 0)) (de_var (pv 2))) (de_int))))))) (dss_one (ds_ret seeHide (de_bl))) (dss_nil)) (dss_one (ds_for passesD rfl (di_any (de_var (pv 3))) (dg_name (i := 4) sc__law_are_rows.nd rfl (by first | exact Or.inl rfl | exact Or.inr rfl)) (dss_cons (ds_if seeHide (dt_of_dw (dw_or (dt_not (dt_truth (de_isi (de_var (pv 4)) (by rfl) T.b_isinstance (by rfl) T.b_str PyProof.Rows.boot_str))) (dw_or1 (dt_not (dt_chain op_le v_le op_le v_le (de_int) (de_callB (c_len ⟨T.wp, T.ww⟩) v_len (by rfl) T.b_len PySem.boot_len (da_cons (de_var (pv 4)) (da_nil))) (de_int)))))) (dss_one (ds_ret seeHide (de_bl))) (dss_nil)) (dss_one (ds_if seeHide (dt_not (dt_truth (de_callB (cr_all rfl) v_all (by rfl) T.b_all boot_all (da_cons (de_comp (own := [("_law_sign", 5)]) rfl sc__law_are_rows.nd (di_any (de_var (pv 4))) (blkOk_by (own := [("_law_sign", 5)]) (N := N__law_are_rows) (sc := defScope s__law_are_rows) (by decide +kernel)) (fun _ _ _ _ _ => dg_name (i := 5) sc__law_are_rows.nd rfl (by first | exact Or.inl rfl | exact Or.inr rfl)) (in_name (by decide)) (fun _ _ _ _ _ => dts_nil) (fun _ _ _ _ _ => de_cmp (op_inK ⟨T.wp, T.ww⟩ (hu65 hr)) v_inK (by with_unfolding_all rfl) (de_var (pv 5)) (de_str))) (da_nil))))) (dss_one (ds_ret seeHide (de_bl))) (dss_nil))))))))) (dss_one (ds_ret seeHide (de_bl))))
theorem ok_is_row (T : Txt P w K mg cl) {a_is_row : Addr} {fd_is_row : FuncData} (G_is_row : Fun K "is_row" "is_row" s_is_row a_is_row fd_is_row)
    {a_is_words : Addr} {fd_is_words : FuncData} (c_is_words : Cal K mg "is_words" a_is_words fd_is_words ["thing", "most"]) (F_is_words : FnOk P w K mg base (L2.CX P w) 3 a_is_words fd_is_words ["thing", "most"] (spD K cl (MemS K cl) 2 m_is_words)) : FnOk P w K mg base (L2.CX P w) 4 a_is_row fd_is_row ["thing"] (spD K cl (MemS K cl) 1 m_is_row) := by
  refine FnOk.mono (fn_ok (k := 3) G_is_row sc_is_row rfl fun cdv A outer s H E hr => ?_) (by omega)
  exact dss_one (ds_ret seeHide (de_call F_is_words (hr.mono (by first | decide | omega)) (by rfl) c_is_words.mg c_is_words.kp c_is_words.b takesD (da_cons (de_var (pv 0)) (da_cons (de_gl T.g_MOST_WORDS (by rfl)) (da_nil))) rfl))
theorem ok_begun_rows (T : Txt P w K mg cl) {a_begun_rows : Addr} {fd_begun_rows : FuncData} (G_begun_rows : Fun K "begun_rows" "begun_rows" s_begun_rows a_begun_rows fd_begun_rows)
     : FnOk P w K mg base (L2.CX P w) 1 a_begun_rows fd_begun_rows ["hall"] (spD K cl (MemS K cl) 1 m_begun_rows) := by
  refine FnOk.mono (fn_ok (k := 0) G_begun_rows sc_begun_rows rfl fun cdv A outer s H E hr => ?_) (by omega)
  exact dss_one (ds_ret seeHide (de_callTy call_tuple_of v_tuple (by rfl) T.b_tuple PyProof.Rows.boot_tuple (da_cons (de_comp (own := [("name", 1), ("side", 2), ("begun", 3)]) rfl sc_begun_rows.nd (di_any (de_fldo (fam_2 T.f_Hall_boards T.f_RawHall_boards) (de_var (pv 0)))) (blkOk_by (own := [("name", 1), ("side", 2), ("begun", 3)]) (N := N_begun_rows) (sc := defScope s_begun_rows) (by decide +kernel)) (fun _ _ _ _ _ => dg_tup rfl (dgs_cons (dg_name (i := 1) sc_begun_rows.nd rfl (by first | exact Or.inl rfl | exact Or.inr rfl)) (dgs_cons (dg_name (i := 2) sc_begun_rows.nd rfl (by first | exact Or.inl rfl | exact Or.inr rfl)) (dgs_cons (dg_name (i := 3) sc_begun_rows.nd rfl (by first | exact Or.inl rfl | exact Or.inr rfl)) (dgs_nil)))) (aCons_len (aCons_len (aCons_len aNil_len)))) (in_tup (in_cons (in_name (by decide)) (in_cons (in_name (by decide)) (in_cons (in_name (by decide)) (in_nil))))) (fun _ _ _ _ _ => dts_nil) (fun _ _ _ _ _ => de_var (pv 3))) (da_nil))))
theorem ok_are_rows (T : Txt P w K mg cl) {a_are_rows : Addr} {fd_are_rows : FuncData} (G_are_rows : Fun K "are_rows" "are_rows" s_are_rows a_are_rows fd_are_rows)
    {a_begun_rows : Addr} {fd_begun_rows : FuncData} (c_begun_rows : Cal K mg "begun_rows" a_begun_rows fd_begun_rows ["hall"]) (F_begun_rows : FnOk P w K mg base (L2.CX P w) 1 a_begun_rows fd_begun_rows ["hall"] (spD K cl (MemS K cl) 1 m_begun_rows))
    {a_is_row : Addr} {fd_is_row : FuncData} (c_is_row : Cal K mg "is_row" a_is_row fd_is_row ["thing"]) (F_is_row : FnOk P w K mg base (L2.CX P w) 4 a_is_row fd_is_row ["thing"] (spD K cl (MemS K cl) 1 m_is_row)) : FnOk P w K mg base (L2.CX P w) 5 a_are_rows fd_are_rows ["hall", "thing"] (spD K cl (MemS K cl) 2 m_are_rows) := by
  refine FnOk.mono (fn_ok (k := 4) G_are_rows sc_are_rows rfl fun cdv A outer s H E hr => ?_) (by omega)
  exact dss_cons (ds_if seeHide (dt_of_dw (dw_or (dt_not (dt_truth (de_isi (de_var (pv 1)) (by rfl) T.b_isinstance (by rfl) T.b_tuple PyProof.Rows.boot_tuple))) (dw_or (dt_cmp (op_neD (hu64 (hu65 hr))) v_ne (by with_unfolding_all rfl) (de_callB (c_len ⟨T.wp, T.ww⟩) v_len (by rfl) T.b_len PySem.boot_len (da_cons (de_var (pv 1)) (da_nil))) (de_callB (c_len ⟨T.wp, T.ww⟩) v_len (by rfl) T.b_len PySem.boot_len (da_cons (de_fldo (fam_2 T.f_Hall_boards T.f_RawHall_boards) (de_var (pv 0))) (da_nil)))) (dw_or1 (dt_not (dt_truth (de_callB (cr_all rfl) v_all (by rfl) T.b_all boot_all (da_cons (de_comp (own := [("row", 2)]) rfl sc_are_rows.nd (di_any (de_var (pv 1))) (blkOk_by (own := [("row", 2)]) (N := N_are_rows) (sc := defScope s_are_rows) (by decide +kernel)) (fun _ _ _ _ _ => dg_name (i := 2) sc_are_rows.nd rfl (by first | exact Or.inl rfl | exact Or.inr rfl)) (in_name (by decide)) (fun _ _ _ _ _ => dts_nil) (fun _ _ _ _ _ => de_call F_is_row (hr.mono (by first | decide | omega)) (by rfl) c_is_row.mg c_is_row.kp c_is_row.b takes0 (da_cons (de_var (pv 2)) (da_nil)) rfl)) (da_nil))))))))) (dss_one (ds_ret seeHide (de_bl))) (dss_nil)) (dss_one (ds_ret seeHide (de_callB (cr_all rfl) v_all (by rfl) T.b_all boot_all (da_cons (de_comp (own := [("row", 2), ("begun", 3)]) rfl sc_are_rows.nd (di_zip (by rfl) T.b_zip (de_var (pv 1)) (de_call F_begun_rows (hr.mono (by first | decide | omega)) (by rfl) c_begun_rows.mg c_begun_rows.kp c_begun_rows.b takesD (da_cons (de_var (pv 0)) (da_nil)) rfl)) (blkOk_by (own := [("row", 2), ("begun", 3)]) (N := N_are_rows) (sc := defScope s_are_rows) (by decide +kernel)) (fun _ _ _ _ _ => dg_tup rfl (dgs_cons (dg_name (i := 2) sc_are_rows.nd rfl (by first | exact Or.inl rfl | exact Or.inr rfl)) (dgs_cons (dg_name (i := 3) sc_are_rows.nd rfl (by first | exact Or.inl rfl | exact Or.inr rfl)) (dgs_nil))) (aCons_len (aCons_len aNil_len))) (in_tup (in_cons (in_name (by decide)) (in_cons (in_name (by decide)) (in_nil)))) (fun _ _ _ _ _ => dts_nil) (fun _ _ _ _ _ => de_cmp (op_eqD (hu64 (hu65 hr))) v_eq (by with_unfolding_all rfl) (de_slice (de_var (pv 2)) (do_none) (do_some (de_callB (c_len ⟨T.wp, T.ww⟩) v_len (by rfl) T.b_len PySem.boot_len (da_cons (de_var (pv 3)) (da_nil))))) (de_var (pv 3)))) (da_nil)))))
theorem ok_check_rows (T : Txt P w K mg cl) {a_check_rows : Addr} {fd_check_rows : FuncData} (G_check_rows : Fun K "check_rows" "check_rows" s_check_rows a_check_rows fd_check_rows)
    {a_are_rows : Addr} {fd_are_rows : FuncData} (c_are_rows : Cal K mg "are_rows" a_are_rows fd_are_rows ["hall", "thing"]) (F_are_rows : FnOk P w K mg base (L2.CX P w) 5 a_are_rows fd_are_rows ["hall", "thing"] (spD K cl (MemS K cl) 2 m_are_rows)) : FnOk P w K mg base (L2.CX P w) 6 a_check_rows fd_check_rows ["hall", "thing"] (spD K cl (MemS K cl) 2 m_check_rows_v2) := by
  refine FnOk.mono (fn_ok (k := 5) G_check_rows sc_check_rows rfl fun cdv A outer s H E hr => ?_) (by omega)
  exact dss_one (ds_if seeHide (dt_not (dt_truth (de_call F_are_rows (hr.mono (by first | decide | omega)) (by rfl) c_are_rows.mg c_are_rows.kp c_are_rows.b takesD (da_cons (de_var (pv 0)) (da_cons (de_var (pv 1)) (da_nil))) rfl))) (dss_one (ds_raise0 T.r_NoRows.choose_spec rfl takesD (by rfl))) (dss_nil))
theorem ok_partners (T : Txt P w K mg cl) {a_partners : Addr} {fd_partners : FuncData} (G_partners : Fun K "partners" "partners" s_partners a_partners fd_partners)
     : FnOk P w K mg base (L2.CX P w) 1 a_partners fd_partners ["pairing"] (spD K cl (MemS K cl) 1 m_partners) := by
  refine FnOk.mono (fn_ok (k := 0) G_partners sc_partners rfl fun cdv A outer s H E hr => ?_) (by omega)
  exact dss_cons (ds_newD (i := 1) sc_partners.nd rfl (by first | exact Or.inl rfl | exact Or.inr rfl)) (dss_cons (ds_for passesD rfl (di_any (de_var (pv 0))) (dg_tup rfl (dgs_cons (dg_name (i := 2) sc_partners.nd rfl (by first | exact Or.inl rfl | exact Or.inr rfl)) (dgs_cons (dg_name (i := 3) sc_partners.nd rfl (by first | exact Or.inl rfl | exact Or.inr rfl)) (dgs_nil))) (aCons_len (aCons_len aNil_len))) (dss_cons (ds_put (i := 1) seeHide kpHide ⟨T.wp, T.ww⟩ (hu1 (hu65 hr)) (pv 1) (de_var (pv 2)) (de_var (pv 3))) (dss_one (ds_put (i := 1) seeHide kpHide ⟨T.wp, T.ww⟩ (hu1 (hu65 hr)) (pv 1) (de_var (pv 3)) (de_var (pv 2)))))) (dss_frz (i := 1) (dss_one (ds_ret seeHide (de_var (pv 1))))))
theorem ok_is_ascending (T : Txt P w K mg cl) {a_is_ascending : Addr} {fd_is_ascending : FuncData} (G_is_ascending : Fun K "is_ascending" "is_ascending" s_is_ascending a_is_ascending fd_is_ascending)
     : FnOk P w K mg base (L2.CX P w) 1 a_is_ascending fd_is_ascending ["items"] (spD K cl (MemS K cl) 1 m_is_ascending) := by
  refine FnOk.mono (fn_ok (k := 0) G_is_ascending sc_is_ascending rfl fun cdv A outer s H E hr => ?_) (by omega)
  exact dss_one (ds_ret seeHide (de_callB (cr_all rfl) v_all (by rfl) T.b_all boot_all (da_cons (de_comp (own := [("one", 1), ("other", 2)]) rfl sc_is_ascending.nd (di_zip (by rfl) T.b_zip (de_var (pv 0)) (de_slice (de_var (pv 0)) (do_some (de_int)) (do_none))) (blkOk_by (own := [("one", 1), ("other", 2)]) (N := N_is_ascending) (sc := defScope s_is_ascending) (by decide +kernel)) (fun _ _ _ _ _ => dg_tup rfl (dgs_cons (dg_name (i := 1) sc_is_ascending.nd rfl (by first | exact Or.inl rfl | exact Or.inr rfl)) (dgs_cons (dg_name (i := 2) sc_is_ascending.nd rfl (by first | exact Or.inl rfl | exact Or.inr rfl)) (dgs_nil))) (aCons_len (aCons_len aNil_len))) (in_tup (in_cons (in_name (by decide)) (in_cons (in_name (by decide)) (in_nil)))) (fun _ _ _ _ _ => dts_nil) (fun _ _ _ _ _ => de_cmp (op_ltD (hu64 (hu65 hr))) v_ltD (by with_unfolding_all rfl) (de_var (pv 1)) (de_var (pv 2)))) (da_nil))))
theorem ok_mover_of (T : Txt P w K mg cl) {a_mover_of : Addr} {fd_mover_of : FuncData} (G_mover_of : Fun K "mover_of" "mover_of" s_mover_of a_mover_of fd_mover_of)
     : FnOk P w K mg base (L2.CX P w) 1 a_mover_of fd_mover_of ["row"] (spD K cl (MemS K cl) 1 m_mover_of) := by
  refine FnOk.mono (fn_ok (k := 0) G_mover_of sc_mover_of rfl fun cdv A outer s H E hr => ?_) (by omega)
  exact dss_one (ds_ret seeHide (de_op op_mod v_mod (de_callB (c_len ⟨T.wp, T.ww⟩) v_len (by rfl) T.b_len PySem.boot_len (da_cons (de_var (pv 0)) (da_nil))) (de_int)))
theorem ok_is_ahead (T : Txt P w K mg cl) {a_is_ahead : Addr} {fd_is_ahead : FuncData} (G_is_ahead : Fun K "is_ahead" "is_ahead" s_is_ahead a_is_ahead fd_is_ahead)
    {a_mover_of : Addr} {fd_mover_of : FuncData} (c_mover_of : Cal K mg "mover_of" a_mover_of fd_mover_of ["row"]) (F_mover_of : FnOk P w K mg base (L2.CX P w) 1 a_mover_of fd_mover_of ["row"] (spD K cl (MemS K cl) 1 m_mover_of)) : FnOk P w K mg base (L2.CX P w) 2 a_is_ahead fd_is_ahead ["longer", "shorter"] (spD K cl (MemS K cl) 2 m_is_ahead) := by
  refine FnOk.mono (fn_ok (k := 1) G_is_ahead sc_is_ahead rfl fun cdv A outer s H E hr => ?_) (by omega)
  exact dss_cons (ds_if seeHide (dt_of_dw (dw_or (dt_cmp (op_neD (hu64 (hu65 hr))) v_ne (by with_unfolding_all rfl) (de_callB (c_len ⟨T.wp, T.ww⟩) v_len (by rfl) T.b_len PySem.boot_len (da_cons (de_ix ⟨T.wp, T.ww⟩ (hu65 hr) (de_var (pv 0)) (de_int)) (da_nil))) (de_op op_addA v_add (de_callB (c_len ⟨T.wp, T.ww⟩) v_len (by rfl) T.b_len PySem.boot_len (da_cons (de_ix ⟨T.wp, T.ww⟩ (hu65 hr) (de_var (pv 1)) (de_int)) (da_nil))) (de_int))) (dw_or1 (dt_cmp (op_neD (hu64 (hu65 hr))) v_ne (by with_unfolding_all rfl) (de_slice (de_ix ⟨T.wp, T.ww⟩ (hu65 hr) (de_var (pv 0)) (de_int)) (do_none) (do_some (de_un un_neg v_neg (de_int)))) (de_ix ⟨T.wp, T.ww⟩ (hu65 hr) (de_var (pv 1)) (de_int)))))) (dss_one (ds_ret seeHide (de_bl))) (dss_nil)) (dss_one (ds_ret seeHide (de_cmp (op_neD (hu64 (hu65 hr))) v_ne (by with_unfolding_all rfl) (de_call F_mover_of (hr.mono (by first | decide | omega)) (by rfl) c_mover_of.mg c_mover_of.kp c_mover_of.b takesD (da_cons (de_ix ⟨T.wp, T.ww⟩ (hu65 hr) (de_var (pv 1)) (de_int)) (da_nil)) rfl) (de_ix ⟨T.wp, T.ww⟩ (hu65 hr) (de_var (pv 0)) (de_int)))))
theorem ok_are_pair (T : Txt P w K mg cl) {a_are_pair : Addr} {fd_are_pair : FuncData} (G_are_pair : Fun K "are_pair" "are_pair" s_are_pair a_are_pair fd_are_pair)
    {a_is_ahead : Addr} {fd_is_ahead : FuncData} (c_is_ahead : Cal K mg "is_ahead" a_is_ahead fd_is_ahead ["longer", "shorter"]) (F_is_ahead : FnOk P w K mg base (L2.CX P w) 2 a_is_ahead fd_is_ahead ["longer", "shorter"] (spD K cl (MemS K cl) 2 m_is_ahead)) : FnOk P w K mg base (L2.CX P w) 3 a_are_pair fd_are_pair ["one", "other"] (spD K cl (MemS K cl) 2 m_are_pair) := by
  refine FnOk.mono (fn_ok (k := 2) G_are_pair sc_are_pair rfl fun cdv A outer s H E hr => ?_) (by omega)
  exact dss_cons (ds_if seeHide (dt_of_dw (dw_or (dt_cmp (op_neD (hu64 (hu65 hr))) v_ne (by with_unfolding_all rfl) (de_ix ⟨T.wp, T.ww⟩ (hu65 hr) (de_var (pv 0)) (de_int)) (de_ix ⟨T.wp, T.ww⟩ (hu65 hr) (de_var (pv 1)) (de_int))) (dw_or1 (dt_cmp (op_eqD (hu64 (hu65 hr))) v_eq (by with_unfolding_all rfl) (de_ix ⟨T.wp, T.ww⟩ (hu65 hr) (de_var (pv 0)) (de_int)) (de_ix ⟨T.wp, T.ww⟩ (hu65 hr) (de_var (pv 1)) (de_int)))))) (dss_one (ds_ret seeHide (de_bl))) (dss_nil)) (dss_one (ds_ret seeHide (de_or (de_cmp (op_eqD (hu64 (hu65 hr))) v_eq (by with_unfolding_all rfl) (de_ix ⟨T.wp, T.ww⟩ (hu65 hr) (de_var (pv 0)) (de_int)) (de_ix ⟨T.wp, T.ww⟩ (hu65 hr) (de_var (pv 1)) (de_int))) (de_or (de_call F_is_ahead (hr.mono (by first | decide | omega)) (by rfl) c_is_ahead.mg c_is_ahead.kp c_is_ahead.b takesD (da_cons (de_var (pv 0)) (da_cons (de_var (pv 1)) (da_nil))) rfl) (de_one (de_call F_is_ahead (hr.mono (by first | decide | omega)) (by rfl) c_is_ahead.mg c_is_ahead.kp c_is_ahead.b takesD (da_cons (de_var (pv 1)) (da_cons (de_var (pv 0)) (da_nil))) rfl))))))
theorem ok_is_lot (T : Txt P w K mg cl) {a_is_lot : Addr} {fd_is_lot : FuncData} (G_is_lot : Fun K "is_lot" "is_lot" s_is_lot a_is_lot fd_is_lot)
    {a_is_ascending : Addr} {fd_is_ascending : FuncData} (c_is_ascending : Cal K mg "is_ascending" a_is_ascending fd_is_ascending ["items"]) (F_is_ascending : FnOk P w K mg base (L2.CX P w) 1 a_is_ascending fd_is_ascending ["items"] (spD K cl (MemS K cl) 1 m_is_ascending))
    {a_is_within : Addr} {fd_is_within : FuncData} (c_is_within : Cal K mg "is_within" a_is_within fd_is_within ["thing", "least", "most"]) (F_is_within : FnOk P w K mg base (L2.CX P w) 2 a_is_within fd_is_within ["thing", "least", "most"] (spD K cl (MemS K cl) 3 m_is_within)) : FnOk P w K mg base (L2.CX P w) 3 a_is_lot fd_is_lot ["thing", "many"] (spD K cl (MemS K cl) 2 m_is_lot) := by
  refine FnOk.mono (fn_ok (k := 2) G_is_lot sc_is_lot rfl fun cdv A outer s H E hr => ?_) (by omega)
  exact dss_cons (ds_if seeHide (dt_of_dw (dw_or (dt_not (dt_truth (de_isi (de_var (pv 0)) (by rfl) T.b_isinstance (by rfl) T.b_tuple PyProof.Rows.boot_tuple))) (dw_or1 (dt_not (dt_truth (de_callB (cr_all rfl) v_all (by rfl) T.b_all boot_all (da_cons (de_comp (own := [("item", 2)]) rfl sc_is_lot.nd (di_any (de_var (pv 0))) (blkOk_by (own := [("item", 2)]) (N := N_is_lot) (sc := defScope s_is_lot) (by decide +kernel)) (fun _ _ _ _ _ => dg_name (i := 2) sc_is_lot.nd rfl (by first | exact Or.inl rfl | exact Or.inr rfl)) (in_name (by decide)) (fun _ _ _ _ _ => dts_nil) (fun _ _ _ _ _ => de_call F_is_within (hr.mono (by first | decide | omega)) (by rfl) c_is_within.mg c_is_within.kp c_is_within.b takes0 (da_cons (de_var (pv 2)) (da_cons (de_int) (da_cons (de_op op_sub v_sub (de_var (pv 1)) (de_int)) (da_nil)))) rfl)) (da_nil)))))))) (dss_one (ds_ret seeHide (de_bl))) (dss_nil)) (dss_one (ds_ret seeHide (de_call F_is_ascending (hr.mono (by first | decide | omega)) (by rfl) c_is_ascending.mg c_is_ascending.kp c_is_ascending.b takesD (da_cons (de_var (pv 0)) (da_nil)) rfl)))
theorem ok_is_pairing (T : Txt P w K mg cl) {a_is_pairing : Addr} {fd_is_pairing : FuncData} (G_is_pairing : Fun K "is_pairing" "is_pairing" s_is_pairing a_is_pairing fd_is_pairing)
    {a_are_pair : Addr} {fd_are_pair : FuncData} (c_are_pair : Cal K mg "are_pair" a_are_pair fd_are_pair ["one", "other"]) (F_are_pair : FnOk P w K mg base (L2.CX P w) 3 a_are_pair fd_are_pair ["one", "other"] (spD K cl (MemS K cl) 2 m_are_pair))
    {a_is_ascending : Addr} {fd_is_ascending : FuncData} (c_is_ascending : Cal K mg "is_ascending" a_is_ascending fd_is_ascending ["items"]) (F_is_ascending : FnOk P w K mg base (L2.CX P w) 1 a_is_ascending fd_is_ascending ["items"] (spD K cl (MemS K cl) 1 m_is_ascending))
    {a_is_lot : Addr} {fd_is_lot : FuncData} (c_is_lot : Cal K mg "is_lot" a_is_lot fd_is_lot ["thing", "many"]) (F_is_lot : FnOk P w K mg base (L2.CX P w) 3 a_is_lot fd_is_lot ["thing", "many"] (spD K cl (MemS K cl) 2 m_is_lot))
    {a_partners : Addr} {fd_partners : FuncData} (c_partners : Cal K mg "partners" a_partners fd_partners ["pairing"]) (F_partners : FnOk P w K mg base (L2.CX P w) 1 a_partners fd_partners ["pairing"] (spD K cl (MemS K cl) 1 m_partners)) : FnOk P w K mg base (L2.CX P w) 4 a_is_pairing fd_is_pairing ["hall", "thing"] (spD K cl (MemS K cl) 2 m_is_pairing) := by
  refine FnOk.mono (fn_ok (k := 3) G_is_pairing sc_is_pairing rfl fun cdv A outer s H E hr => ?_) (by omega)
  exact dss_cons (ds_set (i := 2) sc_is_pairing.nd rfl (by first | exact Or.inl rfl | exact Or.inr rfl) (de_callB (c_len ⟨T.wp, T.ww⟩) v_len (by rfl) T.b_len PySem.boot_len (da_cons (de_fldo (fam_2 T.f_Hall_boards T.f_RawHall_boards) (de_var (pv 0))) (da_nil)))) (dss_cons (ds_if seeHide (dt_of_dw (dw_or (dt_not (dt_truth (de_isi (de_var (pv 1)) (by rfl) T.b_isinstance (by rfl) T.b_tuple PyProof.Rows.boot_tuple))) (dw_or1 (dt_not (dt_truth (de_callB (cr_all rfl) v_all (by rfl) T.b_all boot_all (da_cons (de_comp (own := [("pair", 3)]) rfl sc_is_pairing.nd (di_any (de_var (pv 1))) (blkOk_by (own := [("pair", 3)]) (N := N_is_pairing) (sc := defScope s_is_pairing) (by decide +kernel)) (fun _ _ _ _ _ => dg_name (i := 3) sc_is_pairing.nd rfl (by first | exact Or.inl rfl | exact Or.inr rfl)) (in_name (by decide)) (fun _ _ _ _ _ => dts_nil) (fun _ _ _ _ _ => de_and (de_call F_is_lot (hr.mono (by first | decide | omega)) (by rfl) c_is_lot.mg c_is_lot.kp c_is_lot.b takes0 (da_cons (de_var (pv 3)) (da_cons (de_var (pv 2)) (da_nil))) rfl) (de_one (de_cmp (op_eqD (hu64 (hu65 hr))) v_eq (by with_unfolding_all rfl) (de_callB (c_len ⟨T.wp, T.ww⟩) v_len (by rfl) T.b_len PySem.boot_len (da_cons (de_var (pv 3)) (da_nil))) (de_int))))) (da_nil)))))))) (dss_one (ds_ret seeHide (de_bl))) (dss_nil)) (dss_cons (ds_if seeHide (dt_of_dw (dw_or (dt_not (dt_truth (de_call F_is_ascending (hr.mono (by first | decide | omega)) (by rfl) c_is_ascending.mg c_is_ascending.kp c_is_ascending.b takesD (da_cons (de_var (pv 1)) (da_nil)) rfl))) (dw_or1 (dt_not (dt_truth (de_callB (cr_all rfl) v_all (by rfl) T.b_all boot_all (da_cons (de_comp (own := [("one", 4), ("other", 5)]) rfl sc_is_pairing.nd (di_any (de_var (pv 1))) (blkOk_by (own := [("one", 4), ("other", 5)]) (N := N_is_pairing) (sc := defScope s_is_pairing) (by decide +kernel)) (fun _ _ _ _ _ => dg_tup rfl (dgs_cons (dg_name (i := 4) sc_is_pairing.nd rfl (by first | exact Or.inl rfl | exact Or.inr rfl)) (dgs_cons (dg_name (i := 5) sc_is_pairing.nd rfl (by first | exact Or.inl rfl | exact Or.inr rfl)) (dgs_nil))) (aCons_len (aCons_len aNil_len))) (in_tup (in_cons (in_name (by decide)) (in_cons (in_name (by decide)) (in_nil)))) (fun _ _ _ _ _ => dts_nil) (fun _ _ _ _ _ => de_call F_are_pair (hr.mono (by first | decide | omega)) (by rfl) c_are_pair.mg c_are_pair.kp c_are_pair.b takes0 (da_cons (de_ix ⟨T.wp, T.ww⟩ (hu65 hr) (de_fldo (fam_2 T.f_Hall_boards T.f_RawHall_boards) (de_var (pv 0))) (de_var (pv 4))) (da_cons (de_ix ⟨T.wp, T.ww⟩ (hu65 hr) (de_fldo (fam_2 T.f_Hall_boards T.f_RawHall_boards) (de_var (pv 0))) (de_var (pv 5))) (da_nil))) rfl)) (da_nil)))))))) (dss_one (ds_ret seeHide (de_bl))) (dss_nil)) (dss_one (ds_ret seeHide (de_cmp (op_eqD (hu64 (hu65 hr))) v_eq (by with_unfolding_all rfl) (de_callB (c_len ⟨T.wp, T.ww⟩) v_len (by rfl) T.b_len PySem.boot_len (da_cons (de_call F_partners (hr.mono (by first | decide | omega)) (by rfl) c_partners.mg c_partners.kp c_partners.b takesD (da_cons (de_var (pv 1)) (da_nil)) rfl) (da_nil))) (de_op op_mulA v_mul (de_int) (de_callB (c_len ⟨T.wp, T.ww⟩) v_len (by rfl) T.b_len PySem.boot_len (da_cons (de_var (pv 1)) (da_nil)))))))))
theorem ok_guest_moves (T : Txt P w K mg cl) {a_guest_moves : Addr} {fd_guest_moves : FuncData} (G_guest_moves : Fun K "guest_moves" "guest_moves" s_guest_moves a_guest_moves fd_guest_moves)
    {a_mover_of : Addr} {fd_mover_of : FuncData} (c_mover_of : Cal K mg "mover_of" a_mover_of fd_mover_of ["row"]) (F_mover_of : FnOk P w K mg base (L2.CX P w) 1 a_mover_of fd_mover_of ["row"] (spD K cl (MemS K cl) 1 m_mover_of)) : FnOk P w K mg base (L2.CX P w) 2 a_guest_moves fd_guest_moves ["board", "row"] (spD K cl (MemS K cl) 2 m_guest_moves) := by
  refine FnOk.mono (fn_ok (k := 1) G_guest_moves sc_guest_moves rfl fun cdv A outer s H E hr => ?_) (by omega)
  exact dss_one (ds_ret seeHide (de_cmp (op_eqD (hu64 (hu65 hr))) v_eq (by with_unfolding_all rfl) (de_ix ⟨T.wp, T.ww⟩ (hu65 hr) (de_var (pv 0)) (de_int)) (de_call F_mover_of (hr.mono (by first | decide | omega)) (by rfl) c_mover_of.mg c_mover_of.kp c_mover_of.b takesD (da_cons (de_var (pv 1)) (da_nil)) rfl)))
theorem ok_copied (T : Txt P w K mg cl) {a_copied : Addr} {fd_copied : FuncData} (G_copied : Fun K "copied" "copied" s_copied a_copied fd_copied)
    {a_check_rows : Addr} {fd_check_rows : FuncData} (c_check_rows : Cal K mg "check_rows" a_check_rows fd_check_rows ["hall", "thing"]) (F_check_rows : FnOk P w K mg base (L2.CX P w) 6 a_check_rows fd_check_rows ["hall", "thing"] (spD K cl (MemS K cl) 2 m_check_rows_v2))
    {a_guest_moves : Addr} {fd_guest_moves : FuncData} (c_guest_moves : Cal K mg "guest_moves" a_guest_moves fd_guest_moves ["board", "row"]) (F_guest_moves : FnOk P w K mg base (L2.CX P w) 2 a_guest_moves fd_guest_moves ["board", "row"] (spD K cl (MemS K cl) 2 m_guest_moves))
    {a_is_pairing : Addr} {fd_is_pairing : FuncData} (c_is_pairing : Cal K mg "is_pairing" a_is_pairing fd_is_pairing ["hall", "thing"]) (F_is_pairing : FnOk P w K mg base (L2.CX P w) 4 a_is_pairing fd_is_pairing ["hall", "thing"] (spD K cl (MemS K cl) 2 m_is_pairing))
    {a_partners : Addr} {fd_partners : FuncData} (c_partners : Cal K mg "partners" a_partners fd_partners ["pairing"]) (F_partners : FnOk P w K mg base (L2.CX P w) 1 a_partners fd_partners ["pairing"] (spD K cl (MemS K cl) 1 m_partners)) : FnOk P w K mg base (L2.CX P w) 7 a_copied fd_copied ["hall", "pairing", "rows"] (spD K cl (MemS K cl) 3 m_copied) := by
  refine FnOk.mono (fn_ok (k := 6) G_copied sc_copied rfl fun cdv A outer s H E hr => ?_) (by omega)
  exact dss_cons (ds_if seeHide (dt_not (dt_truth (de_call F_is_pairing (hr.mono (by first | decide | omega)) (by rfl) c_is_pairing.mg c_is_pairing.kp c_is_pairing.b takesD (da_cons (de_var (pv 0)) (da_cons (de_var (pv 1)) (da_nil))) rfl))) (dss_one (ds_raise0 T.r_NoPairing.choose_spec rfl takesD (by rfl))) (dss_nil)) (dss_cons (ds_expr seeHide (de_call F_check_rows (hr.mono (by first | decide | omega)) (by rfl) c_check_rows.mg c_check_rows.kp c_check_rows.b takesD (da_cons (de_var (pv 0)) (da_cons (de_var (pv 2)) (da_nil))) rfl)) (dss_cons (ds_set (i := 3) sc_copied.nd rfl (by first | exact Or.inl rfl | exact Or.inr rfl) (de_call F_partners (hr.mono (by first | decide | omega)) (by rfl) c_partners.mg c_partners.kp c_partners.b takesD (da_cons (de_var (pv 1)) (da_nil)) rfl)) (dss_cons (ds_for passesD rfl (di_any (de_callB (cr_sortDat (hu65 hr)) v_sorted (by rfl) T.b_sorted boot_sorted (da_cons (de_listA (dx_listA ⟨T.wp, T.ww⟩ rfl (by rfl) T.b_list (de_var (pv 3)))) (da_nil)))) (dg_name (i := 4) sc_copied.nd rfl (by first | exact Or.inl rfl | exact Or.inr rfl)) (dss_cons (ds_set (i := 5) sc_copied.nd rfl (by first | exact Or.inl rfl | exact Or.inr rfl) (de_ix ⟨T.wp, T.ww⟩ (hu65 hr) (de_var (pv 2)) (de_var (pv 4)))) (dss_cons (ds_set (i := 6) sc_copied.nd rfl (by first | exact Or.inl rfl | exact Or.inr rfl) (de_ix ⟨T.wp, T.ww⟩ (hu65 hr) (de_var (pv 2)) (de_ix ⟨T.wp, T.ww⟩ (hu65 hr) (de_var (pv 3)) (de_var (pv 4))))) (dss_one (ds_if seeHide (dt_of_dw (dw_and (dt_truth (de_call F_guest_moves (hr.mono (by first | decide | omega)) (by rfl) c_guest_moves.mg c_guest_moves.kp c_guest_moves.b takesD (da_cons (de_ix ⟨T.wp, T.ww⟩ (hu65 hr) (de_fldo (fam_2 T.f_Hall_boards T.f_RawHall_boards) (de_var (pv 0))) (de_var (pv 4))) (da_cons (de_var (pv 5)) (da_nil))) rfl)) (dw_and (dt_cmp (op_eqD (hu64 (hu65 hr))) v_eq (by with_unfolding_all rfl) (de_callB (c_len ⟨T.wp, T.ww⟩) v_len (by rfl) T.b_len PySem.boot_len (da_cons (de_var (pv 6)) (da_nil))) (de_op op_addA v_add (de_callB (c_len ⟨T.wp, T.ww⟩) v_len (by rfl) T.b_len PySem.boot_len (da_cons (de_var (pv 5)) (da_nil))) (de_int))) (dw_and1 (dt_cmp (op_eqD (hu64 (hu65 hr))) v_eq (by with_unfolding_all rfl) (de_slice (de_var (pv 6)) (do_none) (do_some (de_un un_neg v_neg (de_int)))) (de_var (pv 5))))))) (dss_one (ds_ret seeHide (de_tup (da_cons (de_var (pv 4)) (da_cons (de_ix ⟨T.wp, T.ww⟩ (hu65 hr) (de_var (pv 6)) (de_un un_neg v_neg (de_int))) (da_nil)))))) (dss_nil)))))) (dss_one (ds_ret seeHide (de_non))))))
theorem ok__law_asked (T : Txt P w K mg cl) {a__law_asked : Addr} {fd__law_asked : FuncData} (G__law_asked : Fun K "_law_asked" "_law_asked" s__law_asked a__law_asked fd__law_asked)
    {a_copied : Addr} {fd_copied : FuncData} (c_copied : Cal K mg "copied" a_copied fd_copied ["hall", "pairing", "rows"]) (F_copied : FnOk P w K mg base (L2.CX P w) 7 a_copied fd_copied ["hall", "pairing", "rows"] (spD K cl (MemS K cl) 3 m_copied)) : FnOk P w K mg base (L2.CX P w) 8 a__law_asked fd__law_asked ["_law_hall", "_law_pairing_here", "_law_rows_here"] (spD K cl (MemS K cl) 3 m__law_asked_v2) := by
  refine FnOk.mono (fn_ok (k := 7) G__law_asked sc__law_asked rfl fun cdv A outer s H E hr => ?_) (by omega)
  exact dss_cons (ds_set (i := 3) sc__law_asked.nd rfl (by first | exact Or.inl rfl | exact Or.inr rfl) (de_tup (da_cons (de_str) (da_nil)))) (dss_cons (ds_tryAs (i := 4) rfl rfl sc__law_asked.nd rfl rfl takesD (fun W pn xe tk ps => dxs_one (dx_set (i := 3) sc__law_asked.nd rfl (by first | exact Or.inl rfl | exact Or.inr rfl) (de_tup (da_cons (de_str) (da_cons (de_call F_copied (hr.mono (by first | decide | omega)) (by rfl) c_copied.mg c_copied.kp c_copied.b tk (da_cons (de_var (pv 0)) (da_cons (de_var (pv 1)) (da_cons (de_var (pv 2)) (da_nil)))) rfl) (da_nil)))))) (by rfl) T.h_HallError.choose_spec.1 T.h_HallError.choose_spec.2 (fun a oe cls d pn xe ht hz hf => dsx_set (j := 3) (by decide) sc__law_asked.nd rfl (by first | exact Or.inl rfl | exact Or.inr rfl) (dex_of (de_tup (da_cons (de_str) (da_nil)))) (dsx_if (dtx_truth (dex_isE hz hf (pv 4) (by rfl) T.b_isinstance (by rfl) T.e_NoPairing)) (dsx_of (dss_one (ds_set (i := 3) sc__law_asked.nd rfl (by first | exact Or.inl rfl | exact Or.inr rfl) (de_tup (da_cons (de_str) (da_nil)))))) (dsx_if (dtx_truth (dex_isE hz hf (pv 4) (by rfl) T.b_isinstance (by rfl) T.e_NoRows)) (dsx_of (dss_one (ds_set (i := 3) sc__law_asked.nd rfl (by first | exact Or.inl rfl | exact Or.inr rfl) (de_tup (da_cons (de_str) (da_nil)))))) (dsx_of (dss_nil)))))) (dss_one (ds_ret seeHide (de_var (pv 3)))))
theorem ok__law_guests (T : Txt P w K mg cl) {a__law_guests : Addr} {fd__law_guests : FuncData} (G__law_guests : Fun K "_law_guests" "_law_guests" s__law_guests a__law_guests fd__law_guests)
     : FnOk P w K mg base (L2.CX P w) 1 a__law_guests fd__law_guests ["_law_board", "_law_row"] (spD K cl (MemS K cl) 2 m__law_guests) := by
  refine FnOk.mono (fn_ok (k := 0) G__law_guests sc__law_guests rfl fun cdv A outer s H E hr => ?_) (by omega)
  exact dss_one (ds_ret seeHide (de_cmp (op_eqD (hu64 (hu65 hr))) v_eq (by with_unfolding_all rfl) (de_ix ⟨T.wp, T.ww⟩ (hu65 hr) (de_var (pv 0)) (de_int)) (de_op op_mod v_mod (de_callTy call_int1 v_int (by rfl) T.b_int PyProof.Rows.boot_int (da_cons (de_callB (c_len ⟨T.wp, T.ww⟩) v_len (by rfl) T.b_len PySem.boot_len (da_cons (de_var (pv 1)) (da_nil))) (da_nil))) (de_int))))
theorem ok__law_copied (T : Txt P w K mg cl) {a__law_copied : Addr} {fd__law_copied : FuncData} (G__law_copied : Fun K "_law_copied" "_law_copied" s__law_copied a__law_copied fd__law_copied)
    {a__law_guests : Addr} {fd__law_guests : FuncData} (c__law_guests : Cal K mg "_law_guests" a__law_guests fd__law_guests ["_law_board", "_law_row"]) (F__law_guests : FnOk P w K mg base (L2.CX P w) 1 a__law_guests fd__law_guests ["_law_board", "_law_row"] (spD K cl (MemS K cl) 2 m__law_guests)) : FnOk P w K mg base (L2.CX P w) 2 a__law_copied fd__law_copied ["_law_boards_here", "_law_pairing_here", "_law_rows_here"] (spD K cl (MemS K cl) 3 m__law_copied) := by
  refine FnOk.mono (fn_ok (k := 1) G__law_copied sc__law_copied rfl fun cdv A outer s H E hr => ?_) (by omega)
  exact dss_cons (ds_newD (i := 3) sc__law_copied.nd rfl (by first | exact Or.inl rfl | exact Or.inr rfl)) (dss_cons (ds_for passesD rfl (di_any (de_var (pv 1))) (dg_tup rfl (dgs_cons (dg_name (i := 5) sc__law_copied.nd rfl (by first | exact Or.inl rfl | exact Or.inr rfl)) (dgs_cons (dg_name (i := 6) sc__law_copied.nd rfl (by first | exact Or.inl rfl | exact Or.inr rfl)) (dgs_nil))) (aCons_len (aCons_len aNil_len))) (dss_cons (ds_put (i := 3) seeHide kpHide ⟨T.wp, T.ww⟩ (hu1 (hu65 hr)) (pv 3) (de_var (pv 5)) (de_var (pv 6))) (dss_one (ds_put (i := 3) seeHide kpHide ⟨T.wp, T.ww⟩ (hu1 (hu65 hr)) (pv 3) (de_var (pv 6)) (de_var (pv 5)))))) (dss_frz (i := 3) (dss_cons (ds_for passesD rfl (di_any (de_callB (cr_sortDat (hu65 hr)) v_sorted (by rfl) T.b_sorted boot_sorted (da_cons (de_listA (dx_listA ⟨T.wp, T.ww⟩ rfl (by rfl) T.b_list (de_var (pv 3)))) (da_nil)))) (dg_name (i := 4) sc__law_copied.nd rfl (by first | exact Or.inl rfl | exact Or.inr rfl)) (dss_cons (ds_set (i := 6) sc__law_copied.nd rfl (by first | exact Or.inl rfl | exact Or.inr rfl) (de_ix ⟨T.wp, T.ww⟩ (hu65 hr) (de_var (pv 2)) (de_ix ⟨T.wp, T.ww⟩ (hu65 hr) (de_var (pv 3)) (de_var (pv 4))))) (dss_one (ds_if seeHide (dt_of_dw (dw_and (dt_truth (de_call F__law_guests (hr.mono (by first | decide | omega)) (by rfl) c__law_guests.mg c__law_guests.kp c__law_guests.b takesD (da_cons (de_ix ⟨T.wp, T.ww⟩ (hu65 hr) (de_var (pv 0)) (de_var (pv 4))) (da_cons (de_ix ⟨T.wp, T.ww⟩ (hu65 hr) (de_var (pv 2)) (de_var (pv 4))) (da_nil))) rfl)) (dw_and (dt_cmp (op_eqD (hu64 (hu65 hr))) v_eq (by with_unfolding_all rfl) (de_callB (c_len ⟨T.wp, T.ww⟩) v_len (by rfl) T.b_len PySem.boot_len (da_cons (de_var (pv 6)) (da_nil))) (de_op op_addA v_add (de_callB (c_len ⟨T.wp, T.ww⟩) v_len (by rfl) T.b_len PySem.boot_len (da_cons (de_ix ⟨T.wp, T.ww⟩ (hu65 hr) (de_var (pv 2)) (de_var (pv 4))) (da_nil))) (de_int))) (dw_and1 (dt_cmp (op_eqD (hu64 (hu65 hr))) v_eq (by with_unfolding_all rfl) (de_slice (de_var (pv 6)) (do_none) (do_some (de_un un_neg v_neg (de_int)))) (de_ix ⟨T.wp, T.ww⟩ (hu65 hr) (de_var (pv 2)) (de_var (pv 4)))))))) (dss_one (ds_ret seeHide (de_tup (da_cons (de_var (pv 4)) (da_cons (de_ix ⟨T.wp, T.ww⟩ (hu65 hr) (de_var (pv 6)) (de_un un_neg v_neg (de_int))) (da_nil)))))) (dss_nil))))) (dss_one (ds_ret seeHide (de_non))))))
theorem law_body (T : Txt P w K mg cl) {a_law : Addr} {cdv : Value} {A : Around} {outer : List PySem.Env} {s : Shared} {H : Hp} {E : XK} (hr : Room 8 (A.deeper (envOfC "law" (defScope s_law) s.heap.objs.size a_law cdv)))
    {a_Hall_init : Addr} {fd_Hall_init : FuncData} (c_Hall_init : CalM K fd_Hall_init ["self", "boards"]) (F_Hall_init : FnOk P w K mg base (L2.CX P w) 5 a_Hall_init fd_Hall_init ["self", "boards"] (spD K cl (MemS K cl) 2 m_Hall_init))
    {C_Hall : Addr} (M_Hall : MakeAt K cl "Hall" C_Hall a_Hall_init 2) (I_Hall : InitIs "Hall" (m_Hall_init (K := K) (cl := cl)) i_Hall) (c_Hall : CalC K mg "Hall" C_Hall fd_Hall_init ["self", "boards"])
    {a__law_are_rows : Addr} {fd__law_are_rows : FuncData} (c__law_are_rows : Cal K mg "_law_are_rows" a__law_are_rows fd__law_are_rows ["_law_boards_here", "_law_thing"]) (F__law_are_rows : FnOk P w K mg base (L2.CX P w) 1 a__law_are_rows fd__law_are_rows ["_law_boards_here", "_law_thing"] (spD K cl (MemS K cl) 2 m__law_are_rows))
    {a__law_asked : Addr} {fd__law_asked : FuncData} (c__law_asked : Cal K mg "_law_asked" a__law_asked fd__law_asked ["_law_hall", "_law_pairing_here", "_law_rows_here"]) (F__law_asked : FnOk P w K mg base (L2.CX P w) 8 a__law_asked fd__law_asked ["_law_hall", "_law_pairing_here", "_law_rows_here"] (spD K cl (MemS K cl) 3 m__law_asked_v2))
    {a__law_bent_pairing : Addr} {fd__law_bent_pairing : FuncData} (c__law_bent_pairing : Cal K mg "_law_bent_pairing" a__law_bent_pairing fd__law_bent_pairing ["_law_hand_here", "_law_boards_here", "_law_pairing_here"]) (F__law_bent_pairing : FnOk P w K mg base (L2.CX P w) 2 a__law_bent_pairing fd__law_bent_pairing ["_law_hand_here", "_law_boards_here", "_law_pairing_here"] (spD K cl (MemS K cl) 3 m__law_bent_pairing))
    {a__law_bent_rows : Addr} {fd__law_bent_rows : FuncData} (c__law_bent_rows : Cal K mg "_law_bent_rows" a__law_bent_rows fd__law_bent_rows ["_law_hand_here", "_law_rows_here"]) (F__law_bent_rows : FnOk P w K mg base (L2.CX P w) 2 a__law_bent_rows fd__law_bent_rows ["_law_hand_here", "_law_rows_here"] (spD K cl (MemS K cl) 2 m__law_bent_rows))
    {a__law_copied : Addr} {fd__law_copied : FuncData} (c__law_copied : Cal K mg "_law_copied" a__law_copied fd__law_copied ["_law_boards_here", "_law_pairing_here", "_law_rows_here"]) (F__law_copied : FnOk P w K mg base (L2.CX P w) 2 a__law_copied fd__law_copied ["_law_boards_here", "_law_pairing_here", "_law_rows_here"] (spD K cl (MemS K cl) 3 m__law_copied))
    {a__law_draw : Addr} {fd__law_draw : FuncData} (c__law_draw : Cal K mg "_law_draw" a__law_draw fd__law_draw ["_law_hand_here", "_law_many"]) (F__law_draw : FnOk P w K mg base (L2.CX P w) 1 a__law_draw fd__law_draw ["_law_hand_here", "_law_many"] (spD K cl (MemS K cl) 2 m__law_draw))
    {a__law_hand : Addr} {fd__law_hand : FuncData} (c__law_hand : Cal K mg "_law_hand" a__law_hand fd__law_hand ["_law_script"]) (F__law_hand : FnOk P w K mg base (L2.CX P w) 1 a__law_hand fd__law_hand ["_law_script"] (spD K cl (MemS K cl) 1 m__law_hand))
    {a__law_is_pairing : Addr} {fd__law_is_pairing : FuncData} (c__law_is_pairing : Cal K mg "_law_is_pairing" a__law_is_pairing fd__law_is_pairing ["_law_boards_here", "_law_thing"]) (F__law_is_pairing : FnOk P w K mg base (L2.CX P w) 2 a__law_is_pairing fd__law_is_pairing ["_law_boards_here", "_law_thing"] (spD K cl (MemS K cl) 2 m__law_is_pairing_v3))
    {a__law_pairing : Addr} {fd__law_pairing : FuncData} (c__law_pairing : Cal K mg "_law_pairing" a__law_pairing fd__law_pairing ["_law_hand_here", "_law_boards_here"]) (F__law_pairing : FnOk P w K mg base (L2.CX P w) 2 a__law_pairing fd__law_pairing ["_law_hand_here", "_law_boards_here"] (spD K cl (MemS K cl) 2 m__law_pairing_v2))
    {a__law_rows : Addr} {fd__law_rows : FuncData} (c__law_rows : Cal K mg "_law_rows" a__law_rows fd__law_rows ["_law_hand_here", "_law_boards_here"]) (F__law_rows : FnOk P w K mg base (L2.CX P w) 3 a__law_rows fd__law_rows ["_law_hand_here", "_law_boards_here"] (spD K cl (MemS K cl) 2 m__law_rows_v2))
    {a__law_twins : Addr} {fd__law_twins : FuncData} (c__law_twins : Cal K mg "_law_twins" a__law_twins fd__law_twins ["_law_hand_here", "_law_most"]) (F__law_twins : FnOk P w K mg base (L2.CX P w) 3 a__law_twins fd__law_twins ["_law_hand_here", "_law_most"] (spD K cl (MemS K cl) 2 m__law_twins)) :
    DSs cl (MemS K cl) (WD E) (CXD P w K mg base N_law "law" s_law a_law cdv A outer s H E) (defBody s_law) b_L45_law := dss_cons (ds_set (i := 1) sc_law.nd rfl (by first | exact Or.inl rfl | exact Or.inr rfl) (de_call F__law_hand (hr.mono (by first | decide | omega)) (by rfl) c__law_hand.mg c__law_hand.kp c__law_hand.b takesD (da_cons (de_var (pv 0)) (da_nil)) rfl)) (dss_cons (ds_set (i := 2) sc_law.nd rfl (by first | exact Or.inl rfl | exact Or.inr rfl) (de_call F__law_twins (hr.mono (by first | decide | omega)) (by rfl) c__law_twins.mg c__law_twins.kp c__law_twins.b takesD (da_cons (de_var (pv 1)) (da_cons (de_int) (da_nil))) rfl)) (dss_cons (ds_set (i := 3) sc_law.nd rfl (by first | exact Or.inl rfl | exact Or.inr rfl) (de_make M_Hall F_Hall_init I_Hall (hr.mono (by first | decide | omega)) (by rfl) c_Hall.mg c_Hall.b takesD (da_cons (de_var (pv 2)) (da_nil)) rfl)) (dss_cons (ds_for passesD rfl (di_range1 (by rfl) T.b_range (de_int)) (dg_name (i := 4) sc_law.nd rfl (by first | exact Or.inl rfl | exact Or.inr rfl)) (dss_cons (ds_set (i := 5) sc_law.nd rfl (by first | exact Or.inl rfl | exact Or.inr rfl) (de_call F__law_pairing (hr.mono (by first | decide | omega)) (by rfl) c__law_pairing.mg c__law_pairing.kp c__law_pairing.b takesD (da_cons (de_var (pv 1)) (da_cons (de_var (pv 2)) (da_nil))) rfl)) (dss_cons (ds_set (i := 6) sc_law.nd rfl (by first | exact Or.inl rfl | exact Or.inr rfl) (de_call F__law_rows (hr.mono (by first | decide | omega)) (by rfl) c__law_rows.mg c__law_rows.kp c__law_rows.b takesD (da_cons (de_var (pv 1)) (da_cons (de_var (pv 2)) (da_nil))) rfl)) (dss_cons (ds_if seeHide (dt_cmp (op_eqD (hu64 (hu65 hr))) v_eq (by with_unfolding_all rfl) (de_call F__law_draw (hr.mono (by first | decide | omega)) (by rfl) c__law_draw.mg c__law_draw.kp c__law_draw.b takesD (da_cons (de_var (pv 1)) (da_cons (de_int) (da_nil))) rfl) (de_int)) (dss_one (ds_set (i := 5) sc_law.nd rfl (by first | exact Or.inl rfl | exact Or.inr rfl) (de_call F__law_bent_pairing (hr.mono (by first | decide | omega)) (by rfl) c__law_bent_pairing.mg c__law_bent_pairing.kp c__law_bent_pairing.b takesD (da_cons (de_var (pv 1)) (da_cons (de_var (pv 2)) (da_cons (de_var (pv 5)) (da_nil)))) rfl))) (dss_nil)) (dss_cons (ds_if seeHide (dt_cmp (op_eqD (hu64 (hu65 hr))) v_eq (by with_unfolding_all rfl) (de_call F__law_draw (hr.mono (by first | decide | omega)) (by rfl) c__law_draw.mg c__law_draw.kp c__law_draw.b takesD (da_cons (de_var (pv 1)) (da_cons (de_int) (da_nil))) rfl) (de_int)) (dss_one (ds_set (i := 6) sc_law.nd rfl (by first | exact Or.inl rfl | exact Or.inr rfl) (de_call F__law_bent_rows (hr.mono (by first | decide | omega)) (by rfl) c__law_bent_rows.mg c__law_bent_rows.kp c__law_bent_rows.b takesD (da_cons (de_var (pv 1)) (da_cons (de_var (pv 6)) (da_nil))) rfl))) (dss_nil)) (dss_cons (ds_set (i := 7) sc_law.nd rfl (by first | exact Or.inl rfl | exact Or.inr rfl) (de_tup (da_cons (de_str) (da_nil)))) (dss_cons (ds_if seeHide (dt_truth (de_call F__law_is_pairing (hr.mono (by first | decide | omega)) (by rfl) c__law_is_pairing.mg c__law_is_pairing.kp c__law_is_pairing.b takesD (da_cons (de_var (pv 2)) (da_cons (de_var (pv 5)) (da_nil))) rfl)) (dss_cons (ds_set (i := 7) sc_law.nd rfl (by first | exact Or.inl rfl | exact Or.inr rfl) (de_tup (da_cons (de_str) (da_nil)))) (dss_one (ds_if seeHide (dt_truth (de_call F__law_are_rows (hr.mono (by first | decide | omega)) (by rfl) c__law_are_rows.mg c__law_are_rows.kp c__law_are_rows.b takesD (da_cons (de_var (pv 2)) (da_cons (de_var (pv 6)) (da_nil))) rfl)) (dss_one (ds_set (i := 7) sc_law.nd rfl (by first | exact Or.inl rfl | exact Or.inr rfl) (de_tup (da_cons (de_str) (da_cons (de_call F__law_copied (hr.mono (by first | decide | omega)) (by rfl) c__law_copied.mg c__law_copied.kp c__law_copied.b takesD (da_cons (de_var (pv 2)) (da_cons (de_var (pv 5)) (da_cons (de_var (pv 6)) (da_nil)))) rfl) (da_nil)))))) (dss_nil)))) (dss_nil)) (dss_one (ds_if seeHide (dt_cmp (op_neD (hu64 (hu65 hr))) v_ne (by with_unfolding_all rfl) (de_call F__law_asked (hr.mono (by first | decide | omega)) (by rfl) c__law_asked.mg c__law_asked.kp c__law_asked.b takesD (da_cons (de_var (pv 3)) (da_cons (de_var (pv 5)) (da_cons (de_var (pv 6)) (da_nil)))) rfl) (de_var (pv 7))) (dss_one (ds_ret seeHide (de_bl))) (dss_nil)))))))))) (dss_one (ds_ret seeHide (de_bl))))))
end
end LW
namespace LW
open PySem PySem.Spec PyProof.Rows L2 RZ DN
section
variable {P : Program} {w : World} {K : PySem.W.Frag} {mg : Str → Option Value} {base : Heap} {cl : CTab}
theorem ok_law (T : Txt P w K mg cl) (nl : noLists K = true)
    {a_law : Addr} {fd_law : FuncData} (G_law : Fun K "law" "law" s_law a_law fd_law)
    {a_Hall_init : Addr} {fd_Hall_init : FuncData} (c_Hall_init : CalM K fd_Hall_init ["self", "boards"]) (F_Hall_init : FnOk P w K mg base (L2.CX P w) 5 a_Hall_init fd_Hall_init ["self", "boards"] (spD K cl (MemS K cl) 2 m_Hall_init))
    {C_Hall : Addr} (M_Hall : MakeAt K cl "Hall" C_Hall a_Hall_init 2) (I_Hall : InitIs "Hall" (m_Hall_init (K := K) (cl := cl)) i_Hall) (c_Hall : CalC K mg "Hall" C_Hall fd_Hall_init ["self", "boards"])
    {a__law_are_rows : Addr} {fd__law_are_rows : FuncData} (c__law_are_rows : Cal K mg "_law_are_rows" a__law_are_rows fd__law_are_rows ["_law_boards_here", "_law_thing"]) (F__law_are_rows : FnOk P w K mg base (L2.CX P w) 1 a__law_are_rows fd__law_are_rows ["_law_boards_here", "_law_thing"] (spD K cl (MemS K cl) 2 m__law_are_rows))
    {a__law_asked : Addr} {fd__law_asked : FuncData} (c__law_asked : Cal K mg "_law_asked" a__law_asked fd__law_asked ["_law_hall", "_law_pairing_here", "_law_rows_here"]) (F__law_asked : FnOk P w K mg base (L2.CX P w) 8 a__law_asked fd__law_asked ["_law_hall", "_law_pairing_here", "_law_rows_here"] (spD K cl (MemS K cl) 3 m__law_asked_v2))
    {a__law_bent_pairing : Addr} {fd__law_bent_pairing : FuncData} (c__law_bent_pairing : Cal K mg "_law_bent_pairing" a__law_bent_pairing fd__law_bent_pairing ["_law_hand_here", "_law_boards_here", "_law_pairing_here"]) (F__law_bent_pairing : FnOk P w K mg base (L2.CX P w) 2 a__law_bent_pairing fd__law_bent_pairing ["_law_hand_here", "_law_boards_here", "_law_pairing_here"] (spD K cl (MemS K cl) 3 m__law_bent_pairing))
    {a__law_bent_rows : Addr} {fd__law_bent_rows : FuncData} (c__law_bent_rows : Cal K mg "_law_bent_rows" a__law_bent_rows fd__law_bent_rows ["_law_hand_here", "_law_rows_here"]) (F__law_bent_rows : FnOk P w K mg base (L2.CX P w) 2 a__law_bent_rows fd__law_bent_rows ["_law_hand_here", "_law_rows_here"] (spD K cl (MemS K cl) 2 m__law_bent_rows))
    {a__law_copied : Addr} {fd__law_copied : FuncData} (c__law_copied : Cal K mg "_law_copied" a__law_copied fd__law_copied ["_law_boards_here", "_law_pairing_here", "_law_rows_here"]) (F__law_copied : FnOk P w K mg base (L2.CX P w) 2 a__law_copied fd__law_copied ["_law_boards_here", "_law_pairing_here", "_law_rows_here"] (spD K cl (MemS K cl) 3 m__law_copied))
    {a__law_draw : Addr} {fd__law_draw : FuncData} (c__law_draw : Cal K mg "_law_draw" a__law_draw fd__law_draw ["_law_hand_here", "_law_many"]) (F__law_draw : FnOk P w K mg base (L2.CX P w) 1 a__law_draw fd__law_draw ["_law_hand_here", "_law_many"] (spD K cl (MemS K cl) 2 m__law_draw))
    {a__law_hand : Addr} {fd__law_hand : FuncData} (c__law_hand : Cal K mg "_law_hand" a__law_hand fd__law_hand ["_law_script"]) (F__law_hand : FnOk P w K mg base (L2.CX P w) 1 a__law_hand fd__law_hand ["_law_script"] (spD K cl (MemS K cl) 1 m__law_hand))
    {a__law_is_pairing : Addr} {fd__law_is_pairing : FuncData} (c__law_is_pairing : Cal K mg "_law_is_pairing" a__law_is_pairing fd__law_is_pairing ["_law_boards_here", "_law_thing"]) (F__law_is_pairing : FnOk P w K mg base (L2.CX P w) 2 a__law_is_pairing fd__law_is_pairing ["_law_boards_here", "_law_thing"] (spD K cl (MemS K cl) 2 m__law_is_pairing_v3))
    {a__law_pairing : Addr} {fd__law_pairing : FuncData} (c__law_pairing : Cal K mg "_law_pairing" a__law_pairing fd__law_pairing ["_law_hand_here", "_law_boards_here"]) (F__law_pairing : FnOk P w K mg base (L2.CX P w) 2 a__law_pairing fd__law_pairing ["_law_hand_here", "_law_boards_here"] (spD K cl (MemS K cl) 2 m__law_pairing_v2))
    {a__law_rows : Addr} {fd__law_rows : FuncData} (c__law_rows : Cal K mg "_law_rows" a__law_rows fd__law_rows ["_law_hand_here", "_law_boards_here"]) (F__law_rows : FnOk P w K mg base (L2.CX P w) 3 a__law_rows fd__law_rows ["_law_hand_here", "_law_boards_here"] (spD K cl (MemS K cl) 2 m__law_rows_v2))
    {a__law_twins : Addr} {fd__law_twins : FuncData} (c__law_twins : Cal K mg "_law_twins" a__law_twins fd__law_twins ["_law_hand_here", "_law_most"]) (F__law_twins : FnOk P w K mg base (L2.CX P w) 3 a__law_twins fd__law_twins ["_law_hand_here", "_law_most"] (spD K cl (MemS K cl) 2 m__law_twins)) : FnOk P w K mg base (L2.CX P w) 9 a_law fd_law ["_law_script"] (spLaw K) := by
  refine G_law.okX sc_law (fun vs H Q E h => spLaw_len vs H Q E h) fun cdv A outer s H vs Q E hr h => ?_
  refine ⟨_, law_body T (hr.mono (by decide)) c_Hall_init F_Hall_init M_Hall I_Hall c_Hall c__law_are_rows F__law_are_rows c__law_asked F__law_asked c__law_bent_pairing F__law_bent_pairing c__law_bent_rows F__law_bent_rows c__law_copied F__law_copied c__law_draw F__law_draw c__law_hand F__law_hand c__law_is_pairing F__law_is_pairing c__law_pairing F__law_pairing c__law_rows F__law_rows c__law_twins F__law_twins, ?_⟩
  obtain ⟨a, ns, rfl, hS, hl, k⟩ := h
  exact law_startV (m := 8) (a := a) (by rfl) (sqR_of nl hS) hl (law_true hl) k
end
theorem all_mk {l : PySem.W.OpenLaw} {w : World} {K : PySem.W.Frag} {h : Heap} {mg : Str → Option Value} {fa : Addr} {C_NoPairing : Addr} {C_NoRows : Addr} {C_HallError : Addr} {C_Hall : Addr} {f__law_hand : Addr} {f__law_draw : Addr} {f__law_word : Addr} {f__law_twins : Addr} {f_Hall_keep : Addr} {f_is_letters : Addr} {f_is_name : Addr} {f_is_integer : Addr} {f_is_within : Addr} {f_is_word : Addr} {f_is_words : Addr} {f_is_board : Addr} {f_Hall_init : Addr} {f__law_are_pair : Addr} {f__law_pairing : Addr} {f__law_rows : Addr} {f__law_is_pairing : Addr} {f__law_bent_pairing : Addr} {f__law_bent_rows : Addr} {f__law_are_rows : Addr} {f_is_row : Addr} {f_begun_rows : Addr} {f_are_rows : Addr} {f_check_rows : Addr} {f_partners : Addr} {f_is_ascending : Addr} {f_mover_of : Addr} {f_is_ahead : Addr} {f_are_pair : Addr} {f_is_lot : Addr} {f_is_pairing : Addr} {f_guest_moves : Addr} {f_copied : Addr} {f__law_asked : Addr} {f__law_guests : Addr} {f__law_copied : Addr} {f_law : Addr} (X : K.In h) (G : h.Ns mainGlobals mg) (hfa : mg "law" = some (.ref fa))
    {od__law_hand an__law_hand : Option Addr} {sl__law_hand : Array (Option Value)} {oc__law_hand kV__law_hand dc__law_hand pm__law_hand cd__law_hand ct__law_hand : Value} {od__law_draw an__law_draw : Option Addr} {sl__law_draw : Array (Option Value)} {oc__law_draw kV__law_draw dc__law_draw pm__law_draw cd__law_draw ct__law_draw : Value} {od__law_word an__law_word : Option Addr} {sl__law_word : Array (Option Value)} {oc__law_word kV__law_word dc__law_word pm__law_word cd__law_word ct__law_word : Value} {od__law_twins an__law_twins : Option Addr} {sl__law_twins : Array (Option Value)} {oc__law_twins kV__law_twins dc__law_twins pm__law_twins cd__law_twins ct__law_twins : Value} {od_Hall_keep an_Hall_keep : Option Addr} {sl_Hall_keep : Array (Option Value)} {oc_Hall_keep kV_Hall_keep dc_Hall_keep pm_Hall_keep cd_Hall_keep ct_Hall_keep : Value} {od_is_letters an_is_letters : Option Addr} {sl_is_letters : Array (Option Value)} {oc_is_letters kV_is_letters dc_is_letters pm_is_letters cd_is_letters ct_is_letters : Value} {od_is_name an_is_name : Option Addr} {sl_is_name : Array (Option Value)} {oc_is_name kV_is_name dc_is_name pm_is_name cd_is_name ct_is_name : Value} {od_is_integer an_is_integer : Option Addr} {sl_is_integer : Array (Option Value)} {oc_is_integer kV_is_integer dc_is_integer pm_is_integer cd_is_integer ct_is_integer : Value} {od_is_within an_is_within : Option Addr} {sl_is_within : Array (Option Value)} {oc_is_within kV_is_within dc_is_within pm_is_within cd_is_within ct_is_within : Value} {od_is_word an_is_word : Option Addr} {sl_is_word : Array (Option Value)} {oc_is_word kV_is_word dc_is_word pm_is_word cd_is_word ct_is_word : Value} {od_is_words an_is_words : Option Addr} {sl_is_words : Array (Option Value)} {oc_is_words kV_is_words dc_is_words pm_is_words cd_is_words ct_is_words : Value} {od_is_board an_is_board : Option Addr} {sl_is_board : Array (Option Value)} {oc_is_board kV_is_board dc_is_board pm_is_board cd_is_board ct_is_board : Value} {od_Hall_init an_Hall_init : Option Addr} {sl_Hall_init : Array (Option Value)} {oc_Hall_init kV_Hall_init dc_Hall_init pm_Hall_init cd_Hall_init ct_Hall_init : Value} {od__law_are_pair an__law_are_pair : Option Addr} {sl__law_are_pair : Array (Option Value)} {oc__law_are_pair kV__law_are_pair dc__law_are_pair pm__law_are_pair cd__law_are_pair ct__law_are_pair : Value} {od__law_pairing an__law_pairing : Option Addr} {sl__law_pairing : Array (Option Value)} {oc__law_pairing kV__law_pairing dc__law_pairing pm__law_pairing cd__law_pairing ct__law_pairing : Value} {od__law_rows an__law_rows : Option Addr} {sl__law_rows : Array (Option Value)} {oc__law_rows kV__law_rows dc__law_rows pm__law_rows cd__law_rows ct__law_rows : Value} {od__law_is_pairing an__law_is_pairing : Option Addr} {sl__law_is_pairing : Array (Option Value)} {oc__law_is_pairing kV__law_is_pairing dc__law_is_pairing pm__law_is_pairing cd__law_is_pairing ct__law_is_pairing : Value} {od__law_bent_pairing an__law_bent_pairing : Option Addr} {sl__law_bent_pairing : Array (Option Value)} {oc__law_bent_pairing kV__law_bent_pairing dc__law_bent_pairing pm__law_bent_pairing cd__law_bent_pairing ct__law_bent_pairing : Value} {od__law_bent_rows an__law_bent_rows : Option Addr} {sl__law_bent_rows : Array (Option Value)} {oc__law_bent_rows kV__law_bent_rows dc__law_bent_rows pm__law_bent_rows cd__law_bent_rows ct__law_bent_rows : Value} {od__law_are_rows an__law_are_rows : Option Addr} {sl__law_are_rows : Array (Option Value)} {oc__law_are_rows kV__law_are_rows dc__law_are_rows pm__law_are_rows cd__law_are_rows ct__law_are_rows : Value} {od_is_row an_is_row : Option Addr} {sl_is_row : Array (Option Value)} {oc_is_row kV_is_row dc_is_row pm_is_row cd_is_row ct_is_row : Value} {od_begun_rows an_begun_rows : Option Addr} {sl_begun_rows : Array (Option Value)} {oc_begun_rows kV_begun_rows dc_begun_rows pm_begun_rows cd_begun_rows ct_begun_rows : Value} {od_are_rows an_are_rows : Option Addr} {sl_are_rows : Array (Option Value)} {oc_are_rows kV_are_rows dc_are_rows pm_are_rows cd_are_rows ct_are_rows : Value} {od_check_rows an_check_rows : Option Addr} {sl_check_rows : Array (Option Value)} {oc_check_rows kV_check_rows dc_check_rows pm_check_rows cd_check_rows ct_check_rows : Value} {od_partners an_partners : Option Addr} {sl_partners : Array (Option Value)} {oc_partners kV_partners dc_partners pm_partners cd_partners ct_partners : Value} {od_is_ascending an_is_ascending : Option Addr} {sl_is_ascending : Array (Option Value)} {oc_is_ascending kV_is_ascending dc_is_ascending pm_is_ascending cd_is_ascending ct_is_ascending : Value} {od_mover_of an_mover_of : Option Addr} {sl_mover_of : Array (Option Value)} {oc_mover_of kV_mover_of dc_mover_of pm_mover_of cd_mover_of ct_mover_of : Value} {od_is_ahead an_is_ahead : Option Addr} {sl_is_ahead : Array (Option Value)} {oc_is_ahead kV_is_ahead dc_is_ahead pm_is_ahead cd_is_ahead ct_is_ahead : Value} {od_are_pair an_are_pair : Option Addr} {sl_are_pair : Array (Option Value)} {oc_are_pair kV_are_pair dc_are_pair pm_are_pair cd_are_pair ct_are_pair : Value} {od_is_lot an_is_lot : Option Addr} {sl_is_lot : Array (Option Value)} {oc_is_lot kV_is_lot dc_is_lot pm_is_lot cd_is_lot ct_is_lot : Value} {od_is_pairing an_is_pairing : Option Addr} {sl_is_pairing : Array (Option Value)} {oc_is_pairing kV_is_pairing dc_is_pairing pm_is_pairing cd_is_pairing ct_is_pairing : Value} {od_guest_moves an_guest_moves : Option Addr} {sl_guest_moves : Array (Option Value)} {oc_guest_moves kV_guest_moves dc_guest_moves pm_guest_moves cd_guest_moves ct_guest_moves : Value} {od_copied an_copied : Option Addr} {sl_copied : Array (Option Value)} {oc_copied kV_copied dc_copied pm_copied cd_copied ct_copied : Value} {od__law_asked an__law_asked : Option Addr} {sl__law_asked : Array (Option Value)} {oc__law_asked kV__law_asked dc__law_asked pm__law_asked cd__law_asked ct__law_asked : Value} {od__law_guests an__law_guests : Option Addr} {sl__law_guests : Array (Option Value)} {oc__law_guests kV__law_guests dc__law_guests pm__law_guests cd__law_guests ct__law_guests : Value} {od__law_copied an__law_copied : Option Addr} {sl__law_copied : Array (Option Value)} {oc__law_copied kV__law_copied dc__law_copied pm__law_copied cd__law_copied ct__law_copied : Value} {od_law an_law : Option Addr} {sl_law : Array (Option Value)} {oc_law kV_law dc_law pm_law cd_law ct_law : Value} {tk_LETTERS : Tok} {tk_MOST_BEGUN : Tok} {tk_MOST_BOARDS : Tok} {tk_MOST_LETTERS : Tok} {tk_MOST_NAME : Tok} {tk_MOST_WORDS : Tok}
    (nl : noLists K = true)
    (aC_NoPairing : PySem.W.nsIn K mainGlobals "NoPairing" = some (some (.ref C_NoPairing)))
    (bf_NoPairing : PySem.W.subIn K (.ref C_NoPairing) (.type "BaseException") = some true)
    (tf_NoPairing : PySem.W.typeIn K (.ref C_NoPairing) = some (.type "type"))
    (kc_NoPairing : PySem.W.keepIn K (.ref C_NoPairing) = true)
    (ga_NoPairing : PySem.W.findIn K (.ref C_NoPairing) "__getattribute__" = some (some (.builtin "BaseException.__getattribute__")))
    (gg_NoPairing : PySem.W.findIn K (.ref C_NoPairing) "__getattr__" = some none)
    (hd_NoPairing : PySem.W.hasDictIn K C_NoPairing = true)
    (ca_NoPairing : PySem.W.findIn K (.ref C_NoPairing) "__class__" = some (some (.builtin "object.__class__")))
    (mo_NoPairing : PySem.W.mroIn K C_NoPairing (.type "object") = some true)
    (xf_NoPairing : PySem.W.excIn K C_NoPairing [.type "ValueError", .type "Exception", .type "BaseException", .type "object"] "ValueError.__new__" = true)
    (aC_NoRows : PySem.W.nsIn K mainGlobals "NoRows" = some (some (.ref C_NoRows)))
    (bf_NoRows : PySem.W.subIn K (.ref C_NoRows) (.type "BaseException") = some true)
    (tf_NoRows : PySem.W.typeIn K (.ref C_NoRows) = some (.type "type"))
    (kc_NoRows : PySem.W.keepIn K (.ref C_NoRows) = true)
    (ga_NoRows : PySem.W.findIn K (.ref C_NoRows) "__getattribute__" = some (some (.builtin "BaseException.__getattribute__")))
    (gg_NoRows : PySem.W.findIn K (.ref C_NoRows) "__getattr__" = some none)
    (hd_NoRows : PySem.W.hasDictIn K C_NoRows = true)
    (ca_NoRows : PySem.W.findIn K (.ref C_NoRows) "__class__" = some (some (.builtin "object.__class__")))
    (mo_NoRows : PySem.W.mroIn K C_NoRows (.type "object") = some true)
    (xf_NoRows : PySem.W.excIn K C_NoRows [.type "ValueError", .type "Exception", .type "BaseException", .type "object"] "ValueError.__new__" = true)
    (aC_HallError : PySem.W.nsIn K mainGlobals "HallError" = some (some (.ref C_HallError)))
    (bf_HallError : PySem.W.subIn K (.ref C_HallError) (.type "BaseException") = some true)
    (tf_HallError : PySem.W.typeIn K (.ref C_HallError) = some (.type "type"))
    (kc_HallError : PySem.W.keepIn K (.ref C_HallError) = true)
    (ga_HallError : PySem.W.findIn K (.ref C_HallError) "__getattribute__" = some (some (.builtin "BaseException.__getattribute__")))
    (gg_HallError : PySem.W.findIn K (.ref C_HallError) "__getattr__" = some none)
    (hd_HallError : PySem.W.hasDictIn K C_HallError = true)
    (ca_HallError : PySem.W.findIn K (.ref C_HallError) "__class__" = some (some (.builtin "object.__class__")))
    (mo_HallError : PySem.W.mroIn K C_HallError (.type "object") = some true)
    (ic_HallError : PySem.W.isClsIn K C_HallError = true)
    (aC_Hall : PySem.W.nsIn K mainGlobals "Hall" = some (some (.ref C_Hall)))
    (sf_NoPairing_HallError : PySem.W.subIn K (.ref C_NoPairing) (.ref C_HallError) = some true)
    (sf_NoRows_HallError : PySem.W.subIn K (.ref C_NoRows) (.ref C_HallError) = some true)
    (sf_HallError_HallError : PySem.W.subIn K (.ref C_HallError) (.ref C_HallError) = some true)
    (a__law_hand : PySem.W.nsIn K mainGlobals "_law_hand" = some (some (.ref f__law_hand)))
    (l__law_hand : K.lookup f__law_hand = some ⟨oc__law_hand, od__law_hand, .func (PySem.W.fnOf "_law_hand" "_law_hand" (defArgs s__law_hand) (defBody s__law_hand) (defScope s__law_hand) .none kV__law_hand dc__law_hand pm__law_hand an__law_hand cd__law_hand ct__law_hand), sl__law_hand⟩)
    (c__law_hand : PySem.W.codeIn K cd__law_hand "_law_hand" = true)
    (k__law_hand : PySem.W.keepIn K (.ref f__law_hand) = true)
    (a__law_draw : PySem.W.nsIn K mainGlobals "_law_draw" = some (some (.ref f__law_draw)))
    (l__law_draw : K.lookup f__law_draw = some ⟨oc__law_draw, od__law_draw, .func (PySem.W.fnOf "_law_draw" "_law_draw" (defArgs s__law_draw) (defBody s__law_draw) (defScope s__law_draw) .none kV__law_draw dc__law_draw pm__law_draw an__law_draw cd__law_draw ct__law_draw), sl__law_draw⟩)
    (c__law_draw : PySem.W.codeIn K cd__law_draw "_law_draw" = true)
    (k__law_draw : PySem.W.keepIn K (.ref f__law_draw) = true)
    (a__law_word : PySem.W.nsIn K mainGlobals "_law_word" = some (some (.ref f__law_word)))
    (l__law_word : K.lookup f__law_word = some ⟨oc__law_word, od__law_word, .func (PySem.W.fnOf "_law_word" "_law_word" (defArgs s__law_word) (defBody s__law_word) (defScope s__law_word) .none kV__law_word dc__law_word pm__law_word an__law_word cd__law_word ct__law_word), sl__law_word⟩)
    (c__law_word : PySem.W.codeIn K cd__law_word "_law_word" = true)
    (k__law_word : PySem.W.keepIn K (.ref f__law_word) = true)
    (a__law_twins : PySem.W.nsIn K mainGlobals "_law_twins" = some (some (.ref f__law_twins)))
    (l__law_twins : K.lookup f__law_twins = some ⟨oc__law_twins, od__law_twins, .func (PySem.W.fnOf "_law_twins" "_law_twins" (defArgs s__law_twins) (defBody s__law_twins) (defScope s__law_twins) .none kV__law_twins dc__law_twins pm__law_twins an__law_twins cd__law_twins ct__law_twins), sl__law_twins⟩)
    (c__law_twins : PySem.W.codeIn K cd__law_twins "_law_twins" = true)
    (k__law_twins : PySem.W.keepIn K (.ref f__law_twins) = true)
    (a_Hall_keep : PySem.W.findIn K (.ref C_Hall) "keep" = some (some (.ref f_Hall_keep)))
    (i_Hall_keep : PySem.W.isFn K (.ref f_Hall_keep) = true)
    (l_Hall_keep : K.lookup f_Hall_keep = some ⟨oc_Hall_keep, od_Hall_keep, .func (PySem.W.fnOf "keep" "Hall.keep" (defArgs s_Hall_keep) (defBody s_Hall_keep) (defScope s_Hall_keep) .none kV_Hall_keep dc_Hall_keep pm_Hall_keep an_Hall_keep cd_Hall_keep ct_Hall_keep), sl_Hall_keep⟩)
    (c_Hall_keep : PySem.W.codeIn K cd_Hall_keep "Hall.keep" = true)
    (k_Hall_keep : PySem.W.keepIn K (.ref f_Hall_keep) = true)
    (a_is_letters : PySem.W.nsIn K mainGlobals "is_letters" = some (some (.ref f_is_letters)))
    (l_is_letters : K.lookup f_is_letters = some ⟨oc_is_letters, od_is_letters, .func (PySem.W.fnOf "is_letters" "is_letters" (defArgs s_is_letters) (defBody s_is_letters) (defScope s_is_letters) .none kV_is_letters dc_is_letters pm_is_letters an_is_letters cd_is_letters ct_is_letters), sl_is_letters⟩)
    (c_is_letters : PySem.W.codeIn K cd_is_letters "is_letters" = true)
    (k_is_letters : PySem.W.keepIn K (.ref f_is_letters) = true)
    (a_is_name : PySem.W.nsIn K mainGlobals "is_name" = some (some (.ref f_is_name)))
    (l_is_name : K.lookup f_is_name = some ⟨oc_is_name, od_is_name, .func (PySem.W.fnOf "is_name" "is_name" (defArgs s_is_name) (defBody s_is_name) (defScope s_is_name) .none kV_is_name dc_is_name pm_is_name an_is_name cd_is_name ct_is_name), sl_is_name⟩)
    (c_is_name : PySem.W.codeIn K cd_is_name "is_name" = true)
    (k_is_name : PySem.W.keepIn K (.ref f_is_name) = true)
    (a_is_integer : PySem.W.nsIn K mainGlobals "is_integer" = some (some (.ref f_is_integer)))
    (l_is_integer : K.lookup f_is_integer = some ⟨oc_is_integer, od_is_integer, .func (PySem.W.fnOf "is_integer" "is_integer" (defArgs s_is_integer) (defBody s_is_integer) (defScope s_is_integer) .none kV_is_integer dc_is_integer pm_is_integer an_is_integer cd_is_integer ct_is_integer), sl_is_integer⟩)
    (c_is_integer : PySem.W.codeIn K cd_is_integer "is_integer" = true)
    (k_is_integer : PySem.W.keepIn K (.ref f_is_integer) = true)
    (a_is_within : PySem.W.nsIn K mainGlobals "is_within" = some (some (.ref f_is_within)))
    (l_is_within : K.lookup f_is_within = some ⟨oc_is_within, od_is_within, .func (PySem.W.fnOf "is_within" "is_within" (defArgs s_is_within) (defBody s_is_within) (defScope s_is_within) .none kV_is_within dc_is_within pm_is_within an_is_within cd_is_within ct_is_within), sl_is_within⟩)
    (c_is_within : PySem.W.codeIn K cd_is_within "is_within" = true)
    (k_is_within : PySem.W.keepIn K (.ref f_is_within) = true)
    (a_is_word : PySem.W.nsIn K mainGlobals "is_word" = some (some (.ref f_is_word)))
    (l_is_word : K.lookup f_is_word = some ⟨oc_is_word, od_is_word, .func (PySem.W.fnOf "is_word" "is_word" (defArgs s_is_word) (defBody s_is_word) (defScope s_is_word) .none kV_is_word dc_is_word pm_is_word an_is_word cd_is_word ct_is_word), sl_is_word⟩)
    (c_is_word : PySem.W.codeIn K cd_is_word "is_word" = true)
    (k_is_word : PySem.W.keepIn K (.ref f_is_word) = true)
    (a_is_words : PySem.W.nsIn K mainGlobals "is_words" = some (some (.ref f_is_words)))
    (l_is_words : K.lookup f_is_words = some ⟨oc_is_words, od_is_words, .func (PySem.W.fnOf "is_words" "is_words" (defArgs s_is_words) (defBody s_is_words) (defScope s_is_words) .none kV_is_words dc_is_words pm_is_words an_is_words cd_is_words ct_is_words), sl_is_words⟩)
    (c_is_words : PySem.W.codeIn K cd_is_words "is_words" = true)
    (k_is_words : PySem.W.keepIn K (.ref f_is_words) = true)
    (a_is_board : PySem.W.nsIn K mainGlobals "is_board" = some (some (.ref f_is_board)))
    (l_is_board : K.lookup f_is_board = some ⟨oc_is_board, od_is_board, .func (PySem.W.fnOf "is_board" "is_board" (defArgs s_is_board) (defBody s_is_board) (defScope s_is_board) .none kV_is_board dc_is_board pm_is_board an_is_board cd_is_board ct_is_board), sl_is_board⟩)
    (c_is_board : PySem.W.codeIn K cd_is_board "is_board" = true)
    (k_is_board : PySem.W.keepIn K (.ref f_is_board) = true)
    (a_Hall_init : PySem.W.findIn K (.ref C_Hall) "__init__" = some (some (.ref f_Hall_init)))
    (i_Hall_init : PySem.W.isFn K (.ref f_Hall_init) = true)
    (l_Hall_init : K.lookup f_Hall_init = some ⟨oc_Hall_init, od_Hall_init, .func (PySem.W.fnOf "__init__" "Hall.__init__" (defArgs s_Hall_init) (defBody s_Hall_init) (defScope s_Hall_init) .none kV_Hall_init dc_Hall_init pm_Hall_init an_Hall_init cd_Hall_init ct_Hall_init), sl_Hall_init⟩)
    (c_Hall_init : PySem.W.codeIn K cd_Hall_init "Hall.__init__" = true)
    (k_Hall_init : PySem.W.keepIn K (.ref f_Hall_init) = true)
    (a__law_are_pair : PySem.W.nsIn K mainGlobals "_law_are_pair" = some (some (.ref f__law_are_pair)))
    (l__law_are_pair : K.lookup f__law_are_pair = some ⟨oc__law_are_pair, od__law_are_pair, .func (PySem.W.fnOf "_law_are_pair" "_law_are_pair" (defArgs s__law_are_pair) (defBody s__law_are_pair) (defScope s__law_are_pair) .none kV__law_are_pair dc__law_are_pair pm__law_are_pair an__law_are_pair cd__law_are_pair ct__law_are_pair), sl__law_are_pair⟩)
    (c__law_are_pair : PySem.W.codeIn K cd__law_are_pair "_law_are_pair" = true)
    (k__law_are_pair : PySem.W.keepIn K (.ref f__law_are_pair) = true)
    (a__law_pairing : PySem.W.nsIn K mainGlobals "_law_pairing" = some (some (.ref f__law_pairing)))
    (l__law_pairing : K.lookup f__law_pairing = some ⟨oc__law_pairing, od__law_pairing, .func (PySem.W.fnOf "_law_pairing" "_law_pairing" (defArgs s__law_pairing) (defBody s__law_pairing) (defScope s__law_pairing) .none kV__law_pairing dc__law_pairing pm__law_pairing an__law_pairing cd__law_pairing ct__law_pairing), sl__law_pairing⟩)
    (c__law_pairing : PySem.W.codeIn K cd__law_pairing "_law_pairing" = true)
    (k__law_pairing : PySem.W.keepIn K (.ref f__law_pairing) = true)
    (a__law_rows : PySem.W.nsIn K mainGlobals "_law_rows" = some (some (.ref f__law_rows)))
    (l__law_rows : K.lookup f__law_rows = some ⟨oc__law_rows, od__law_rows, .func (PySem.W.fnOf "_law_rows" "_law_rows" (defArgs s__law_rows) (defBody s__law_rows) (defScope s__law_rows) .none kV__law_rows dc__law_rows pm__law_rows an__law_rows cd__law_rows ct__law_rows), sl__law_rows⟩)
    (c__law_rows : PySem.W.codeIn K cd__law_rows "_law_rows" = true)
    (k__law_rows : PySem.W.keepIn K (.ref f__law_rows) = true)
    (a__law_is_pairing : PySem.W.nsIn K mainGlobals "_law_is_pairing" = some (some (.ref f__law_is_pairing)))
    (l__law_is_pairing : K.lookup f__law_is_pairing = some ⟨oc__law_is_pairing, od__law_is_pairing, .func (PySem.W.fnOf "_law_is_pairing" "_law_is_pairing" (defArgs s__law_is_pairing) (defBody s__law_is_pairing) (defScope s__law_is_pairing) .none kV__law_is_pairing dc__law_is_pairing pm__law_is_pairing an__law_is_pairing cd__law_is_pairing ct__law_is_pairing), sl__law_is_pairing⟩)
    (c__law_is_pairing : PySem.W.codeIn K cd__law_is_pairing "_law_is_pairing" = true)
    (k__law_is_pairing : PySem.W.keepIn K (.ref f__law_is_pairing) = true)
    (a__law_bent_pairing : PySem.W.nsIn K mainGlobals "_law_bent_pairing" = some (some (.ref f__law_bent_pairing)))
    (l__law_bent_pairing : K.lookup f__law_bent_pairing = some ⟨oc__law_bent_pairing, od__law_bent_pairing, .func (PySem.W.fnOf "_law_bent_pairing" "_law_bent_pairing" (defArgs s__law_bent_pairing) (defBody s__law_bent_pairing) (defScope s__law_bent_pairing) .none kV__law_bent_pairing dc__law_bent_pairing pm__law_bent_pairing an__law_bent_pairing cd__law_bent_pairing ct__law_bent_pairing), sl__law_bent_pairing⟩)
    (c__law_bent_pairing : PySem.W.codeIn K cd__law_bent_pairing "_law_bent_pairing" = true)
    (k__law_bent_pairing : PySem.W.keepIn K (.ref f__law_bent_pairing) = true)
    (a__law_bent_rows : PySem.W.nsIn K mainGlobals "_law_bent_rows" = some (some (.ref f__law_bent_rows)))
    (l__law_bent_rows : K.lookup f__law_bent_rows = some ⟨oc__law_bent_rows, od__law_bent_rows, .func (PySem.W.fnOf "_law_bent_rows" "_law_bent_rows" (defArgs s__law_bent_rows) (defBody s__law_bent_rows) (defScope s__law_bent_rows) .none kV__law_bent_rows dc__law_bent_rows pm__law_bent_rows an__law_bent_rows cd__law_bent_rows ct__law_bent_rows), sl__law_bent_rows⟩)
    (c__law_bent_rows : PySem.W.codeIn K cd__law_bent_rows "_law_bent_rows" = true)
    (k__law_bent_rows : PySem.W.keepIn K (.ref f__law_bent_rows) = true)
    (a__law_are_rows : PySem.W.nsIn K mainGlobals "_law_are_rows" = some (some (.ref f__law_are_rows)))
    (l__law_are_rows : K.lookup f__law_are_rows = some ⟨oc__law_are_rows, od__law_are_rows, .func (PySem.W.fnOf "_law_are_rows" "_law_are_rows" (defArgs s__law_are_rows) (defBody s__law_are_rows) (defScope s__law_are_rows) .none kV__law_are_rows dc__law_are_rows pm__law_are_rows an__law_are_rows cd__law_are_rows ct__law_are_rows), sl__law_are_rows⟩)
    (c__law_are_rows : PySem.W.codeIn K cd__law_are_rows "_law_are_rows" = true)
    (k__law_are_rows : PySem.W.keepIn K (.ref f__law_are_rows) = true)
    (a_is_row : PySem.W.nsIn K mainGlobals "is_row" = some (some (.ref f_is_row)))
    (l_is_row : K.lookup f_is_row = some ⟨oc_is_row, od_is_row, .func (PySem.W.fnOf "is_row" "is_row" (defArgs s_is_row) (defBody s_is_row) (defScope s_is_row) .none kV_is_row dc_is_row pm_is_row an_is_row cd_is_row ct_is_row), sl_is_row⟩)
    (c_is_row : PySem.W.codeIn K cd_is_row "is_row" = true)
    (k_is_row : PySem.W.keepIn K (.ref f_is_row) = true)
    (a_begun_rows : PySem.W.nsIn K mainGlobals "begun_rows" = some (some (.ref f_begun_rows)))
    (l_begun_rows : K.lookup f_begun_rows = some ⟨oc_begun_rows, od_begun_rows, .func (PySem.W.fnOf "begun_rows" "begun_rows" (defArgs s_begun_rows) (defBody s_begun_rows) (defScope s_begun_rows) .none kV_begun_rows dc_begun_rows pm_begun_rows an_begun_rows cd_begun_rows ct_begun_rows), sl_begun_rows⟩)
    (c_begun_rows : PySem.W.codeIn K cd_begun_rows "begun_rows" = true)
    (k_begun_rows : PySem.W.keepIn K (.ref f_begun_rows) = true)
    (a_are_rows : PySem.W.nsIn K mainGlobals "are_rows" = some (some (.ref f_are_rows)))
    (l_are_rows : K.lookup f_are_rows = some ⟨oc_are_rows, od_are_rows, .func (PySem.W.fnOf "are_rows" "are_rows" (defArgs s_are_rows) (defBody s_are_rows) (defScope s_are_rows) .none kV_are_rows dc_are_rows pm_are_rows an_are_rows cd_are_rows ct_are_rows), sl_are_rows⟩)
    (c_are_rows : PySem.W.codeIn K cd_are_rows "are_rows" = true)
    (k_are_rows : PySem.W.keepIn K (.ref f_are_rows) = true)
    (a_check_rows : PySem.W.nsIn K mainGlobals "check_rows" = some (some (.ref f_check_rows)))
    (l_check_rows : K.lookup f_check_rows = some ⟨oc_check_rows, od_check_rows, .func (PySem.W.fnOf "check_rows" "check_rows" (defArgs s_check_rows) (defBody s_check_rows) (defScope s_check_rows) .none kV_check_rows dc_check_rows pm_check_rows an_check_rows cd_check_rows ct_check_rows), sl_check_rows⟩)
    (c_check_rows : PySem.W.codeIn K cd_check_rows "check_rows" = true)
    (k_check_rows : PySem.W.keepIn K (.ref f_check_rows) = true)
    (a_partners : PySem.W.nsIn K mainGlobals "partners" = some (some (.ref f_partners)))
    (l_partners : K.lookup f_partners = some ⟨oc_partners, od_partners, .func (PySem.W.fnOf "partners" "partners" (defArgs s_partners) (defBody s_partners) (defScope s_partners) .none kV_partners dc_partners pm_partners an_partners cd_partners ct_partners), sl_partners⟩)
    (c_partners : PySem.W.codeIn K cd_partners "partners" = true)
    (k_partners : PySem.W.keepIn K (.ref f_partners) = true)
    (a_is_ascending : PySem.W.nsIn K mainGlobals "is_ascending" = some (some (.ref f_is_ascending)))
    (l_is_ascending : K.lookup f_is_ascending = some ⟨oc_is_ascending, od_is_ascending, .func (PySem.W.fnOf "is_ascending" "is_ascending" (defArgs s_is_ascending) (defBody s_is_ascending) (defScope s_is_ascending) .none kV_is_ascending dc_is_ascending pm_is_ascending an_is_ascending cd_is_ascending ct_is_ascending), sl_is_ascending⟩)
    (c_is_ascending : PySem.W.codeIn K cd_is_ascending "is_ascending" = true)
    (k_is_ascending : PySem.W.keepIn K (.ref f_is_ascending) = true)
    (a_mover_of : PySem.W.nsIn K mainGlobals "mover_of" = some (some (.ref f_mover_of)))
    (l_mover_of : K.lookup f_mover_of = some ⟨oc_mover_of, od_mover_of, .func (PySem.W.fnOf "mover_of" "mover_of" (defArgs s_mover_of) (defBody s_mover_of) (defScope s_mover_of) .none kV_mover_of dc_mover_of pm_mover_of an_mover_of cd_mover_of ct_mover_of), sl_mover_of⟩)
    (c_mover_of : PySem.W.codeIn K cd_mover_of "mover_of" = true)
    (k_mover_of : PySem.W.keepIn K (.ref f_mover_of) = true)
    (a_is_ahead : PySem.W.nsIn K mainGlobals "is_ahead" = some (some (.ref f_is_ahead)))
    (l_is_ahead : K.lookup f_is_ahead = some ⟨oc_is_ahead, od_is_ahead, .func (PySem.W.fnOf "is_ahead" "is_ahead" (defArgs s_is_ahead) (defBody s_is_ahead) (defScope s_is_ahead) .none kV_is_ahead dc_is_ahead pm_is_ahead an_is_ahead cd_is_ahead ct_is_ahead), sl_is_ahead⟩)
    (c_is_ahead : PySem.W.codeIn K cd_is_ahead "is_ahead" = true)
    (k_is_ahead : PySem.W.keepIn K (.ref f_is_ahead) = true)
    (a_are_pair : PySem.W.nsIn K mainGlobals "are_pair" = some (some (.ref f_are_pair)))
    (l_are_pair : K.lookup f_are_pair = some ⟨oc_are_pair, od_are_pair, .func (PySem.W.fnOf "are_pair" "are_pair" (defArgs s_are_pair) (defBody s_are_pair) (defScope s_are_pair) .none kV_are_pair dc_are_pair pm_are_pair an_are_pair cd_are_pair ct_are_pair), sl_are_pair⟩)
    (c_are_pair : PySem.W.codeIn K cd_are_pair "are_pair" = true)
    (k_are_pair : PySem.W.keepIn K (.ref f_are_pair) = true)
    (a_is_lot : PySem.W.nsIn K mainGlobals "is_lot" = some (some (.ref f_is_lot)))
    (l_is_lot : K.lookup f_is_lot = some ⟨oc_is_lot, od_is_lot, .func (PySem.W.fnOf "is_lot" "is_lot" (defArgs s_is_lot) (defBody s_is_lot) (defScope s_is_lot) .none kV_is_lot dc_is_lot pm_is_lot an_is_lot cd_is_lot ct_is_lot), sl_is_lot⟩)
    (c_is_lot : PySem.W.codeIn K cd_is_lot "is_lot" = true)
    (k_is_lot : PySem.W.keepIn K (.ref f_is_lot) = true)
    (a_is_pairing : PySem.W.nsIn K mainGlobals "is_pairing" = some (some (.ref f_is_pairing)))
    (l_is_pairing : K.lookup f_is_pairing = some ⟨oc_is_pairing, od_is_pairing, .func (PySem.W.fnOf "is_pairing" "is_pairing" (defArgs s_is_pairing) (defBody s_is_pairing) (defScope s_is_pairing) .none kV_is_pairing dc_is_pairing pm_is_pairing an_is_pairing cd_is_pairing ct_is_pairing), sl_is_pairing⟩)
    (c_is_pairing : PySem.W.codeIn K cd_is_pairing "is_pairing" = true)
    (k_is_pairing : PySem.W.keepIn K (.ref f_is_pairing) = true)
    (a_guest_moves : PySem.W.nsIn K mainGlobals "guest_moves" = some (some (.ref f_guest_moves)))
    (l_guest_moves : K.lookup f_guest_moves = some ⟨oc_guest_moves, od_guest_moves, .func (PySem.W.fnOf "guest_moves" "guest_moves" (defArgs s_guest_moves) (defBody s_guest_moves) (defScope s_guest_moves) .none kV_guest_moves dc_guest_moves pm_guest_moves an_guest_moves cd_guest_moves ct_guest_moves), sl_guest_moves⟩)
    (c_guest_moves : PySem.W.codeIn K cd_guest_moves "guest_moves" = true)
    (k_guest_moves : PySem.W.keepIn K (.ref f_guest_moves) = true)
    (a_copied : PySem.W.nsIn K mainGlobals "copied" = some (some (.ref f_copied)))
    (l_copied : K.lookup f_copied = some ⟨oc_copied, od_copied, .func (PySem.W.fnOf "copied" "copied" (defArgs s_copied) (defBody s_copied) (defScope s_copied) .none kV_copied dc_copied pm_copied an_copied cd_copied ct_copied), sl_copied⟩)
    (c_copied : PySem.W.codeIn K cd_copied "copied" = true)
    (k_copied : PySem.W.keepIn K (.ref f_copied) = true)
    (a__law_asked : PySem.W.nsIn K mainGlobals "_law_asked" = some (some (.ref f__law_asked)))
    (l__law_asked : K.lookup f__law_asked = some ⟨oc__law_asked, od__law_asked, .func (PySem.W.fnOf "_law_asked" "_law_asked" (defArgs s__law_asked) (defBody s__law_asked) (defScope s__law_asked) .none kV__law_asked dc__law_asked pm__law_asked an__law_asked cd__law_asked ct__law_asked), sl__law_asked⟩)
    (c__law_asked : PySem.W.codeIn K cd__law_asked "_law_asked" = true)
    (k__law_asked : PySem.W.keepIn K (.ref f__law_asked) = true)
    (a__law_guests : PySem.W.nsIn K mainGlobals "_law_guests" = some (some (.ref f__law_guests)))
    (l__law_guests : K.lookup f__law_guests = some ⟨oc__law_guests, od__law_guests, .func (PySem.W.fnOf "_law_guests" "_law_guests" (defArgs s__law_guests) (defBody s__law_guests) (defScope s__law_guests) .none kV__law_guests dc__law_guests pm__law_guests an__law_guests cd__law_guests ct__law_guests), sl__law_guests⟩)
    (c__law_guests : PySem.W.codeIn K cd__law_guests "_law_guests" = true)
    (k__law_guests : PySem.W.keepIn K (.ref f__law_guests) = true)
    (a__law_copied : PySem.W.nsIn K mainGlobals "_law_copied" = some (some (.ref f__law_copied)))
    (l__law_copied : K.lookup f__law_copied = some ⟨oc__law_copied, od__law_copied, .func (PySem.W.fnOf "_law_copied" "_law_copied" (defArgs s__law_copied) (defBody s__law_copied) (defScope s__law_copied) .none kV__law_copied dc__law_copied pm__law_copied an__law_copied cd__law_copied ct__law_copied), sl__law_copied⟩)
    (c__law_copied : PySem.W.codeIn K cd__law_copied "_law_copied" = true)
    (k__law_copied : PySem.W.keepIn K (.ref f__law_copied) = true)
    (a_law : PySem.W.nsIn K mainGlobals "law" = some (some (.ref f_law)))
    (l_law : K.lookup f_law = some ⟨oc_law, od_law, .func (PySem.W.fnOf "law" "law" (defArgs s_law) (defBody s_law) (defScope s_law) .none kV_law dc_law pm_law an_law cd_law ct_law), sl_law⟩)
    (c_law : PySem.W.codeIn K cd_law "law" = true)
    (k_law : PySem.W.keepIn K (.ref f_law) = true)
    (pg_Hall : PySem.W.plainGet K C_Hall Str.empty = true)
    (hd_Hall : PySem.W.hasDictIn K C_Hall = true)
    (po_Hall : PySem.W.plainOver K C_Hall = true)
    (sa_Hall : PySem.W.findIn K (.ref C_Hall) "__setattr__" = some (some (.builtin "object.__setattr__")))
    (mk_Hall : PySem.W.makesIn K C_Hall = true)
    (kc_Hall : PySem.W.keepIn K (.ref C_Hall) = true)
    (n_Hall_boards : PySem.W.findIn K (.ref C_Hall) "boards" = some none)
    (n_Hall_names : PySem.W.findIn K (.ref C_Hall) "names" = some none)
    (kx_NoPairing_NoPairing : PySem.W.kitOne K (.ref C_NoPairing) (.ref C_NoPairing) = some true)
    (kx_NoRows_NoPairing : PySem.W.kitOne K (.ref C_NoRows) (.ref C_NoPairing) = some false)
    (kx_HallError_NoPairing : PySem.W.kitOne K (.ref C_HallError) (.ref C_NoPairing) = some false)
    (kx_NoPairing_NoRows : PySem.W.kitOne K (.ref C_NoPairing) (.ref C_NoRows) = some false)
    (kx_NoRows_NoRows : PySem.W.kitOne K (.ref C_NoRows) (.ref C_NoRows) = some true)
    (kx_HallError_NoRows : PySem.W.kitOne K (.ref C_HallError) (.ref C_NoRows) = some false)
    (hn_isi : PySem.W.specialIn K (.builtin "object.__class__") "__get__" = some (some (.builtin "getset_descriptor.__get__")))
    (htk_isi : PySem.W.takesIn K (.builtin "object.__class__") = some true)
    (z_abs : PySem.W.nsIn K mainGlobals "abs" = some none)
    (z_all : PySem.W.nsIn K mainGlobals "all" = some none)
    (z_bool : PySem.W.nsIn K mainGlobals "bool" = some none)
    (z_enumerate : PySem.W.nsIn K mainGlobals "enumerate" = some none)
    (z_int : PySem.W.nsIn K mainGlobals "int" = some none)
    (z_isinstance : PySem.W.nsIn K mainGlobals "isinstance" = some none)
    (z_len : PySem.W.nsIn K mainGlobals "len" = some none)
    (z_list : PySem.W.nsIn K mainGlobals "list" = some none)
    (z_min : PySem.W.nsIn K mainGlobals "min" = some none)
    (z_range : PySem.W.nsIn K mainGlobals "range" = some none)
    (z_sorted : PySem.W.nsIn K mainGlobals "sorted" = some none)
    (z_str : PySem.W.nsIn K mainGlobals "str" = some none)
    (z_tuple : PySem.W.nsIn K mainGlobals "tuple" = some none)
    (z_zip : PySem.W.nsIn K mainGlobals "zip" = some none)
    (gv_LETTERS : PySem.W.nsIn K mainGlobals "LETTERS" = some (some (.str "abcdefghijklmnopqrstuvwxyz" tk_LETTERS)))
    (gv_MOST_BEGUN : PySem.W.nsIn K mainGlobals "MOST_BEGUN" = some (some (.int 20 tk_MOST_BEGUN)))
    (gv_MOST_BOARDS : PySem.W.nsIn K mainGlobals "MOST_BOARDS" = some (some (.int 12 tk_MOST_BOARDS)))
    (gv_MOST_LETTERS : PySem.W.nsIn K mainGlobals "MOST_LETTERS" = some (some (.int 20 tk_MOST_LETTERS)))
    (gv_MOST_NAME : PySem.W.nsIn K mainGlobals "MOST_NAME" = some (some (.int 8 tk_MOST_NAME)))
    (gv_MOST_WORDS : PySem.W.nsIn K mainGlobals "MOST_WORDS" = some (some (.int 60 tk_MOST_WORDS))) :
    ∃ fd : FuncData, (∀ (s : Shared) (v : Value), BindsTo s fd ⟨[v], []⟩ [("_law_script", v)]) ∧ ∀ base : Heap, K.In base → base.Ns mainGlobals mg → FnOk l.prog w K mg base (L2.CX l.prog w) 9 fa fd ["_law_script"] (spLaw K) := by
  have e := hfa.symm.trans (PySem.W.mg_of X G a_law)
  cases e
  let cl : CTab := ⟨fun c => if c = "Hall" then some (C_Hall, ["boards", "names"]) else if c = "NoPairing" then some (C_NoPairing, []) else if c = "NoRows" then some (C_NoRows, []) else if c = "HallError" then some (C_HallError, []) else none, l.prog, w⟩
  have hh_HallError : CatchAt K cl t_all C_HallError := fun x A fs b ht hx => by
    by_cases e_NoPairing : x = "NoPairing"
    · subst e_NoPairing
      cases (show some true = some b from (show t_all "NoPairing" = some true by decide +kernel).symm.trans ht)
      cases (show some (C_NoPairing, ([] : List Str)) = some (A, fs) from hx)
      exact exm_is bf_HallError ic_HallError tf_HallError sf_NoPairing_HallError
    by_cases e_NoRows : x = "NoRows"
    · subst e_NoRows
      cases (show some true = some b from (show t_all "NoRows" = some true by decide +kernel).symm.trans ht)
      cases (show some (C_NoRows, ([] : List Str)) = some (A, fs) from hx)
      exact exm_is bf_HallError ic_HallError tf_HallError sf_NoRows_HallError
    by_cases e_HallError : x = "HallError"
    · subst e_HallError
      cases (show some true = some b from (show t_all "HallError" = some true by decide +kernel).symm.trans ht)
      cases (show some (C_HallError, ([] : List Str)) = some (A, fs) from hx)
      exact exm_is bf_HallError ic_HallError tf_HallError sf_HallError_HallError
    by_cases e_Hall : x = "Hall"
    · subst e_Hall
      cases (show none = some b from (show t_all "Hall" = none by decide +kernel).symm.trans ht)
    simp only [cl] at hx
    rw [if_neg e_Hall] at hx
    rw [if_neg e_NoPairing] at hx
    rw [if_neg e_NoRows] at hx
    rw [if_neg e_HallError] at hx
    cases hx
  have ie_NoPairing : IsE K cl (t_of "NoPairing") C_NoPairing := fun x A fs b ht hx => by
    by_cases e_NoPairing : x = "NoPairing"
    · subst e_NoPairing
      cases (show some true = some b from (show (t_of "NoPairing") "NoPairing" = some true by decide +kernel).symm.trans ht)
      cases (show some (C_NoPairing, ([] : List Str)) = some (A, fs) from hx)
      exact ⟨⟨ga_NoPairing, gg_NoPairing, bf_NoPairing, hd_NoPairing, ca_NoPairing, hn_isi, htk_isi, mo_NoPairing⟩, kx_NoPairing_NoPairing⟩
    by_cases e_NoRows : x = "NoRows"
    · subst e_NoRows
      cases (show some false = some b from (show (t_of "NoPairing") "NoRows" = some false by decide +kernel).symm.trans ht)
      cases (show some (C_NoRows, ([] : List Str)) = some (A, fs) from hx)
      exact ⟨⟨ga_NoRows, gg_NoRows, bf_NoRows, hd_NoRows, ca_NoRows, hn_isi, htk_isi, mo_NoRows⟩, kx_NoRows_NoPairing⟩
    by_cases e_HallError : x = "HallError"
    · subst e_HallError
      cases (show some false = some b from (show (t_of "NoPairing") "HallError" = some false by decide +kernel).symm.trans ht)
      cases (show some (C_HallError, ([] : List Str)) = some (A, fs) from hx)
      exact ⟨⟨ga_HallError, gg_HallError, bf_HallError, hd_HallError, ca_HallError, hn_isi, htk_isi, mo_HallError⟩, kx_HallError_NoPairing⟩
    by_cases e_Hall : x = "Hall"
    · subst e_Hall
      cases (show none = some b from (show (t_of "NoPairing") "Hall" = none by decide +kernel).symm.trans ht)
    simp only [cl] at hx
    rw [if_neg e_Hall] at hx
    rw [if_neg e_NoPairing] at hx
    rw [if_neg e_NoRows] at hx
    rw [if_neg e_HallError] at hx
    cases hx
  have ie_NoRows : IsE K cl (t_of "NoRows") C_NoRows := fun x A fs b ht hx => by
    by_cases e_NoPairing : x = "NoPairing"
    · subst e_NoPairing
      cases (show some false = some b from (show (t_of "NoRows") "NoPairing" = some false by decide +kernel).symm.trans ht)
      cases (show some (C_NoPairing, ([] : List Str)) = some (A, fs) from hx)
      exact ⟨⟨ga_NoPairing, gg_NoPairing, bf_NoPairing, hd_NoPairing, ca_NoPairing, hn_isi, htk_isi, mo_NoPairing⟩, kx_NoPairing_NoRows⟩
    by_cases e_NoRows : x = "NoRows"
    · subst e_NoRows
      cases (show some true = some b from (show (t_of "NoRows") "NoRows" = some true by decide +kernel).symm.trans ht)
      cases (show some (C_NoRows, ([] : List Str)) = some (A, fs) from hx)
      exact ⟨⟨ga_NoRows, gg_NoRows, bf_NoRows, hd_NoRows, ca_NoRows, hn_isi, htk_isi, mo_NoRows⟩, kx_NoRows_NoRows⟩
    by_cases e_HallError : x = "HallError"
    · subst e_HallError
      cases (show some false = some b from (show (t_of "NoRows") "HallError" = some false by decide +kernel).symm.trans ht)
      cases (show some (C_HallError, ([] : List Str)) = some (A, fs) from hx)
      exact ⟨⟨ga_HallError, gg_HallError, bf_HallError, hd_HallError, ca_HallError, hn_isi, htk_isi, mo_HallError⟩, kx_HallError_NoRows⟩
    by_cases e_Hall : x = "Hall"
    · subst e_Hall
      cases (show none = some b from (show (t_of "NoRows") "Hall" = none by decide +kernel).symm.trans ht)
    simp only [cl] at hx
    rw [if_neg e_Hall] at hx
    rw [if_neg e_NoPairing] at hx
    rw [if_neg e_NoRows] at hx
    rw [if_neg e_HallError] at hx
    cases hx
  have T : Txt l.prog w K mg cl := { wp := rfl, ww := rfl, b_abs := PySem.W.mg_none_of X G z_abs, b_all := PySem.W.mg_none_of X G z_all, b_bool := PySem.W.mg_none_of X G z_bool, b_enumerate := PySem.W.mg_none_of X G z_enumerate, b_int := PySem.W.mg_none_of X G z_int, b_isinstance := PySem.W.mg_none_of X G z_isinstance, b_len := PySem.W.mg_none_of X G z_len, b_list := PySem.W.mg_none_of X G z_list, b_min := PySem.W.mg_none_of X G z_min, b_range := PySem.W.mg_none_of X G z_range, b_sorted := PySem.W.mg_none_of X G z_sorted, b_str := PySem.W.mg_none_of X G z_str, b_tuple := PySem.W.mg_none_of X G z_tuple, b_zip := PySem.W.mg_none_of X G z_zip, g_LETTERS := glStr (PySem.W.mg_of X G gv_LETTERS), g_MOST_BEGUN := glInt (PySem.W.mg_of X G gv_MOST_BEGUN), g_MOST_BOARDS := glInt (PySem.W.mg_of X G gv_MOST_BOARDS), g_MOST_LETTERS := glInt (PySem.W.mg_of X G gv_MOST_LETTERS), g_MOST_NAME := glInt (PySem.W.mg_of X G gv_MOST_NAME), g_MOST_WORDS := glInt (PySem.W.mg_of X G gv_MOST_WORDS), f_Hall_boards := ⟨.inl ⟨C_Hall, ["boards", "names"], by rfl, rfl, by decide +kernel, by decide, ⟨pg_Hall, hd_Hall, po_Hall, sa_Hall⟩, n_Hall_boards⟩⟩, f_Hall_names := ⟨.inl ⟨C_Hall, ["boards", "names"], by rfl, rfl, by decide +kernel, by decide, ⟨pg_Hall, hd_Hall, po_Hall, sa_Hall⟩, n_Hall_names⟩⟩, f_RawHall_boards := ⟨.inr (by rfl)⟩, f_RawHall_names := ⟨.inr (by rfl)⟩, r_NoPairing := ⟨C_NoPairing, ⟨by rfl, PySem.W.mg_of X G aC_NoPairing, xf_NoPairing, kc_NoPairing, bf_NoPairing, tf_NoPairing⟩⟩, r_NoRows := ⟨C_NoRows, ⟨by rfl, PySem.W.mg_of X G aC_NoRows, xf_NoRows, kc_NoRows, bf_NoRows, tf_NoRows⟩⟩, h_HallError := ⟨C_HallError, PySem.W.mg_of X G aC_HallError, hh_HallError⟩, e_NoPairing := ⟨C_NoPairing, PySem.W.mg_of X G aC_NoPairing, ie_NoPairing⟩, e_NoRows := ⟨C_NoRows, PySem.W.mg_of X G aC_NoRows, ie_NoRows⟩ }
  have G__law_hand := fun_mk (st := s__law_hand) l__law_hand c__law_hand k__law_hand
  have b__law_hand := G__law_hand.binds (ps := ["_law_script"]) fun _ _ _ _ _ _ us hl => match us, hl with | [_], _ => rfl
  have cc__law_hand : Cal K mg "_law_hand" f__law_hand _ ["_law_script"] := ⟨PySem.W.mg_of X G a__law_hand, k__law_hand, b__law_hand⟩
  have G__law_draw := fun_mk (st := s__law_draw) l__law_draw c__law_draw k__law_draw
  have b__law_draw := G__law_draw.binds (ps := ["_law_hand_here", "_law_many"]) fun _ _ _ _ _ _ us hl => match us, hl with | [_, _], _ => rfl
  have cc__law_draw : Cal K mg "_law_draw" f__law_draw _ ["_law_hand_here", "_law_many"] := ⟨PySem.W.mg_of X G a__law_draw, k__law_draw, b__law_draw⟩
  have G__law_word := fun_mk (st := s__law_word) l__law_word c__law_word k__law_word
  have b__law_word := G__law_word.binds (ps := ["_law_hand_here"]) fun _ _ _ _ _ _ us hl => match us, hl with | [_], _ => rfl
  have cc__law_word : Cal K mg "_law_word" f__law_word _ ["_law_hand_here"] := ⟨PySem.W.mg_of X G a__law_word, k__law_word, b__law_word⟩
  have G__law_twins := fun_mk (st := s__law_twins) l__law_twins c__law_twins k__law_twins
  have b__law_twins := G__law_twins.binds (ps := ["_law_hand_here", "_law_most"]) fun _ _ _ _ _ _ us hl => match us, hl with | [_, _], _ => rfl
  have cc__law_twins : Cal K mg "_law_twins" f__law_twins _ ["_law_hand_here", "_law_most"] := ⟨PySem.W.mg_of X G a__law_twins, k__law_twins, b__law_twins⟩
  have G_Hall_keep := fun_mk (st := s_Hall_keep) l_Hall_keep c_Hall_keep k_Hall_keep
  have b_Hall_keep := G_Hall_keep.binds (ps := ["self", "boards"]) fun _ _ _ _ _ _ us hl => match us, hl with | [_, _], _ => rfl
  have cc_Hall_keep : CalM K _ ["self", "boards"] := ⟨b_Hall_keep⟩
  have N_Hall_keep : MethAt K cl "Hall" "keep" f_Hall_keep := ⟨C_Hall, ["boards", "names"], by rfl, by decide +kernel, ⟨pg_Hall, hd_Hall, po_Hall, sa_Hall⟩, ⟨a_Hall_keep, i_Hall_keep, k_Hall_keep⟩⟩
  have G_is_letters := fun_mk (st := s_is_letters) l_is_letters c_is_letters k_is_letters
  have b_is_letters := G_is_letters.binds (ps := ["thing", "most"]) fun _ _ _ _ _ _ us hl => match us, hl with | [_, _], _ => rfl
  have cc_is_letters : Cal K mg "is_letters" f_is_letters _ ["thing", "most"] := ⟨PySem.W.mg_of X G a_is_letters, k_is_letters, b_is_letters⟩
  have G_is_name := fun_mk (st := s_is_name) l_is_name c_is_name k_is_name
  have b_is_name := G_is_name.binds (ps := ["thing"]) fun _ _ _ _ _ _ us hl => match us, hl with | [_], _ => rfl
  have cc_is_name : Cal K mg "is_name" f_is_name _ ["thing"] := ⟨PySem.W.mg_of X G a_is_name, k_is_name, b_is_name⟩
  have G_is_integer := fun_mk (st := s_is_integer) l_is_integer c_is_integer k_is_integer
  have b_is_integer := G_is_integer.binds (ps := ["thing"]) fun _ _ _ _ _ _ us hl => match us, hl with | [_], _ => rfl
  have cc_is_integer : Cal K mg "is_integer" f_is_integer _ ["thing"] := ⟨PySem.W.mg_of X G a_is_integer, k_is_integer, b_is_integer⟩
  have G_is_within := fun_mk (st := s_is_within) l_is_within c_is_within k_is_within
  have b_is_within := G_is_within.binds (ps := ["thing", "least", "most"]) fun _ _ _ _ _ _ us hl => match us, hl with | [_, _, _], _ => rfl
  have cc_is_within : Cal K mg "is_within" f_is_within _ ["thing", "least", "most"] := ⟨PySem.W.mg_of X G a_is_within, k_is_within, b_is_within⟩
  have G_is_word := fun_mk (st := s_is_word) l_is_word c_is_word k_is_word
  have b_is_word := G_is_word.binds (ps := ["thing"]) fun _ _ _ _ _ _ us hl => match us, hl with | [_], _ => rfl
  have cc_is_word : Cal K mg "is_word" f_is_word _ ["thing"] := ⟨PySem.W.mg_of X G a_is_word, k_is_word, b_is_word⟩
  have G_is_words := fun_mk (st := s_is_words) l_is_words c_is_words k_is_words
  have b_is_words := G_is_words.binds (ps := ["thing", "most"]) fun _ _ _ _ _ _ us hl => match us, hl with | [_, _], _ => rfl
  have cc_is_words : Cal K mg "is_words" f_is_words _ ["thing", "most"] := ⟨PySem.W.mg_of X G a_is_words, k_is_words, b_is_words⟩
  have G_is_board := fun_mk (st := s_is_board) l_is_board c_is_board k_is_board
  have b_is_board := G_is_board.binds (ps := ["thing"]) fun _ _ _ _ _ _ us hl => match us, hl with | [_], _ => rfl
  have cc_is_board : Cal K mg "is_board" f_is_board _ ["thing"] := ⟨PySem.W.mg_of X G a_is_board, k_is_board, b_is_board⟩
  have G_Hall_init := fun_mk (st := s_Hall_init) l_Hall_init c_Hall_init k_Hall_init
  have b_Hall_init := G_Hall_init.binds (ps := ["self", "boards"]) fun _ _ _ _ _ _ us hl => match us, hl with | [_, _], _ => rfl
  have cc_Hall_init : CalM K _ ["self", "boards"] := ⟨b_Hall_init⟩
  have ci_Hall : CalC K mg "Hall" C_Hall _ ["self", "boards"] := ⟨PySem.W.mg_of X G aC_Hall, b_Hall_init⟩
  have M_Hall : MakeAt K cl "Hall" C_Hall f_Hall_init 2 := ⟨["boards", "names"], by rfl, rfl, ⟨mk_Hall, a_Hall_init, i_Hall_init, kc_Hall⟩⟩
  have G__law_are_pair := fun_mk (st := s__law_are_pair) l__law_are_pair c__law_are_pair k__law_are_pair
  have b__law_are_pair := G__law_are_pair.binds (ps := ["_law_one", "_law_other"]) fun _ _ _ _ _ _ us hl => match us, hl with | [_, _], _ => rfl
  have cc__law_are_pair : Cal K mg "_law_are_pair" f__law_are_pair _ ["_law_one", "_law_other"] := ⟨PySem.W.mg_of X G a__law_are_pair, k__law_are_pair, b__law_are_pair⟩
  have G__law_pairing := fun_mk (st := s__law_pairing) l__law_pairing c__law_pairing k__law_pairing
  have b__law_pairing := G__law_pairing.binds (ps := ["_law_hand_here", "_law_boards_here"]) fun _ _ _ _ _ _ us hl => match us, hl with | [_, _], _ => rfl
  have cc__law_pairing : Cal K mg "_law_pairing" f__law_pairing _ ["_law_hand_here", "_law_boards_here"] := ⟨PySem.W.mg_of X G a__law_pairing, k__law_pairing, b__law_pairing⟩
  have G__law_rows := fun_mk (st := s__law_rows) l__law_rows c__law_rows k__law_rows
  have b__law_rows := G__law_rows.binds (ps := ["_law_hand_here", "_law_boards_here"]) fun _ _ _ _ _ _ us hl => match us, hl with | [_, _], _ => rfl
  have cc__law_rows : Cal K mg "_law_rows" f__law_rows _ ["_law_hand_here", "_law_boards_here"] := ⟨PySem.W.mg_of X G a__law_rows, k__law_rows, b__law_rows⟩
  have G__law_is_pairing := fun_mk (st := s__law_is_pairing) l__law_is_pairing c__law_is_pairing k__law_is_pairing
  have b__law_is_pairing := G__law_is_pairing.binds (ps := ["_law_boards_here", "_law_thing"]) fun _ _ _ _ _ _ us hl => match us, hl with | [_, _], _ => rfl
  have cc__law_is_pairing : Cal K mg "_law_is_pairing" f__law_is_pairing _ ["_law_boards_here", "_law_thing"] := ⟨PySem.W.mg_of X G a__law_is_pairing, k__law_is_pairing, b__law_is_pairing⟩
  have G__law_bent_pairing := fun_mk (st := s__law_bent_pairing) l__law_bent_pairing c__law_bent_pairing k__law_bent_pairing
  have b__law_bent_pairing := G__law_bent_pairing.binds (ps := ["_law_hand_here", "_law_boards_here", "_law_pairing_here"]) fun _ _ _ _ _ _ us hl => match us, hl with | [_, _, _], _ => rfl
  have cc__law_bent_pairing : Cal K mg "_law_bent_pairing" f__law_bent_pairing _ ["_law_hand_here", "_law_boards_here", "_law_pairing_here"] := ⟨PySem.W.mg_of X G a__law_bent_pairing, k__law_bent_pairing, b__law_bent_pairing⟩
  have G__law_bent_rows := fun_mk (st := s__law_bent_rows) l__law_bent_rows c__law_bent_rows k__law_bent_rows
  have b__law_bent_rows := G__law_bent_rows.binds (ps := ["_law_hand_here", "_law_rows_here"]) fun _ _ _ _ _ _ us hl => match us, hl with | [_, _], _ => rfl
  have cc__law_bent_rows : Cal K mg "_law_bent_rows" f__law_bent_rows _ ["_law_hand_here", "_law_rows_here"] := ⟨PySem.W.mg_of X G a__law_bent_rows, k__law_bent_rows, b__law_bent_rows⟩
  have G__law_are_rows := fun_mk (st := s__law_are_rows) l__law_are_rows c__law_are_rows k__law_are_rows
  have b__law_are_rows := G__law_are_rows.binds (ps := ["_law_boards_here", "_law_thing"]) fun _ _ _ _ _ _ us hl => match us, hl with | [_, _], _ => rfl
  have cc__law_are_rows : Cal K mg "_law_are_rows" f__law_are_rows _ ["_law_boards_here", "_law_thing"] := ⟨PySem.W.mg_of X G a__law_are_rows, k__law_are_rows, b__law_are_rows⟩
  have G_is_row := fun_mk (st := s_is_row) l_is_row c_is_row k_is_row
  have b_is_row := G_is_row.binds (ps := ["thing"]) fun _ _ _ _ _ _ us hl => match us, hl with | [_], _ => rfl
  have cc_is_row : Cal K mg "is_row" f_is_row _ ["thing"] := ⟨PySem.W.mg_of X G a_is_row, k_is_row, b_is_row⟩
  have G_begun_rows := fun_mk (st := s_begun_rows) l_begun_rows c_begun_rows k_begun_rows
  have b_begun_rows := G_begun_rows.binds (ps := ["hall"]) fun _ _ _ _ _ _ us hl => match us, hl with | [_], _ => rfl
  have cc_begun_rows : Cal K mg "begun_rows" f_begun_rows _ ["hall"] := ⟨PySem.W.mg_of X G a_begun_rows, k_begun_rows, b_begun_rows⟩
  have G_are_rows := fun_mk (st := s_are_rows) l_are_rows c_are_rows k_are_rows
  have b_are_rows := G_are_rows.binds (ps := ["hall", "thing"]) fun _ _ _ _ _ _ us hl => match us, hl with | [_, _], _ => rfl
  have cc_are_rows : Cal K mg "are_rows" f_are_rows _ ["hall", "thing"] := ⟨PySem.W.mg_of X G a_are_rows, k_are_rows, b_are_rows⟩
  have G_check_rows := fun_mk (st := s_check_rows) l_check_rows c_check_rows k_check_rows
  have b_check_rows := G_check_rows.binds (ps := ["hall", "thing"]) fun _ _ _ _ _ _ us hl => match us, hl with | [_, _], _ => rfl
  have cc_check_rows : Cal K mg "check_rows" f_check_rows _ ["hall", "thing"] := ⟨PySem.W.mg_of X G a_check_rows, k_check_rows, b_check_rows⟩
  have G_partners := fun_mk (st := s_partners) l_partners c_partners k_partners
  have b_partners := G_partners.binds (ps := ["pairing"]) fun _ _ _ _ _ _ us hl => match us, hl with | [_], _ => rfl
  have cc_partners : Cal K mg "partners" f_partners _ ["pairing"] := ⟨PySem.W.mg_of X G a_partners, k_partners, b_partners⟩
  have G_is_ascending := fun_mk (st := s_is_ascending) l_is_ascending c_is_ascending k_is_ascending
  have b_is_ascending := G_is_ascending.binds (ps := ["items"]) fun _ _ _ _ _ _ us hl => match us, hl with | [_], _ => rfl
  have cc_is_ascending : Cal K mg "is_ascending" f_is_ascending _ ["items"] := ⟨PySem.W.mg_of X G a_is_ascending, k_is_ascending, b_is_ascending⟩
  have G_mover_of := fun_mk (st := s_mover_of) l_mover_of c_mover_of k_mover_of
  have b_mover_of := G_mover_of.binds (ps := ["row"]) fun _ _ _ _ _ _ us hl => match us, hl with | [_], _ => rfl
  have cc_mover_of : Cal K mg "mover_of" f_mover_of _ ["row"] := ⟨PySem.W.mg_of X G a_mover_of, k_mover_of, b_mover_of⟩
  have G_is_ahead := fun_mk (st := s_is_ahead) l_is_ahead c_is_ahead k_is_ahead
  have b_is_ahead := G_is_ahead.binds (ps := ["longer", "shorter"]) fun _ _ _ _ _ _ us hl => match us, hl with | [_, _], _ => rfl
  have cc_is_ahead : Cal K mg "is_ahead" f_is_ahead _ ["longer", "shorter"] := ⟨PySem.W.mg_of X G a_is_ahead, k_is_ahead, b_is_ahead⟩
  have G_are_pair := fun_mk (st := s_are_pair) l_are_pair c_are_pair k_are_pair
  have b_are_pair := G_are_pair.binds (ps := ["one", "other"]) fun _ _ _ _ _ _ us hl => match us, hl with | [_, _], _ => rfl
  have cc_are_pair : Cal K mg "are_pair" f_are_pair _ ["one", "other"] := ⟨PySem.W.mg_of X G a_are_pair, k_are_pair, b_are_pair⟩
  have G_is_lot := fun_mk (st := s_is_lot) l_is_lot c_is_lot k_is_lot
  have b_is_lot := G_is_lot.binds (ps := ["thing", "many"]) fun _ _ _ _ _ _ us hl => match us, hl with | [_, _], _ => rfl
  have cc_is_lot : Cal K mg "is_lot" f_is_lot _ ["thing", "many"] := ⟨PySem.W.mg_of X G a_is_lot, k_is_lot, b_is_lot⟩
  have G_is_pairing := fun_mk (st := s_is_pairing) l_is_pairing c_is_pairing k_is_pairing
  have b_is_pairing := G_is_pairing.binds (ps := ["hall", "thing"]) fun _ _ _ _ _ _ us hl => match us, hl with | [_, _], _ => rfl
  have cc_is_pairing : Cal K mg "is_pairing" f_is_pairing _ ["hall", "thing"] := ⟨PySem.W.mg_of X G a_is_pairing, k_is_pairing, b_is_pairing⟩
  have G_guest_moves := fun_mk (st := s_guest_moves) l_guest_moves c_guest_moves k_guest_moves
  have b_guest_moves := G_guest_moves.binds (ps := ["board", "row"]) fun _ _ _ _ _ _ us hl => match us, hl with | [_, _], _ => rfl
  have cc_guest_moves : Cal K mg "guest_moves" f_guest_moves _ ["board", "row"] := ⟨PySem.W.mg_of X G a_guest_moves, k_guest_moves, b_guest_moves⟩
  have G_copied := fun_mk (st := s_copied) l_copied c_copied k_copied
  have b_copied := G_copied.binds (ps := ["hall", "pairing", "rows"]) fun _ _ _ _ _ _ us hl => match us, hl with | [_, _, _], _ => rfl
  have cc_copied : Cal K mg "copied" f_copied _ ["hall", "pairing", "rows"] := ⟨PySem.W.mg_of X G a_copied, k_copied, b_copied⟩
  have G__law_asked := fun_mk (st := s__law_asked) l__law_asked c__law_asked k__law_asked
  have b__law_asked := G__law_asked.binds (ps := ["_law_hall", "_law_pairing_here", "_law_rows_here"]) fun _ _ _ _ _ _ us hl => match us, hl with | [_, _, _], _ => rfl
  have cc__law_asked : Cal K mg "_law_asked" f__law_asked _ ["_law_hall", "_law_pairing_here", "_law_rows_here"] := ⟨PySem.W.mg_of X G a__law_asked, k__law_asked, b__law_asked⟩
  have G__law_guests := fun_mk (st := s__law_guests) l__law_guests c__law_guests k__law_guests
  have b__law_guests := G__law_guests.binds (ps := ["_law_board", "_law_row"]) fun _ _ _ _ _ _ us hl => match us, hl with | [_, _], _ => rfl
  have cc__law_guests : Cal K mg "_law_guests" f__law_guests _ ["_law_board", "_law_row"] := ⟨PySem.W.mg_of X G a__law_guests, k__law_guests, b__law_guests⟩
  have G__law_copied := fun_mk (st := s__law_copied) l__law_copied c__law_copied k__law_copied
  have b__law_copied := G__law_copied.binds (ps := ["_law_boards_here", "_law_pairing_here", "_law_rows_here"]) fun _ _ _ _ _ _ us hl => match us, hl with | [_, _, _], _ => rfl
  have cc__law_copied : Cal K mg "_law_copied" f__law_copied _ ["_law_boards_here", "_law_pairing_here", "_law_rows_here"] := ⟨PySem.W.mg_of X G a__law_copied, k__law_copied, b__law_copied⟩
  have G_law := fun_mk (st := s_law) l_law c_law k_law
  refine ⟨PySem.W.fnOf "law" "law" (defArgs s_law) (defBody s_law) (defScope s_law) .none kV_law dc_law pm_law an_law cd_law ct_law, fun s v => .of_eq rfl, fun base _ _ => ?_⟩
  have F__law_hand := ok__law_hand (P := l.prog) (w := w) (base := base) T G__law_hand 
  have F__law_draw := ok__law_draw (P := l.prog) (w := w) (base := base) T G__law_draw 
  have F__law_word := ok__law_word (P := l.prog) (w := w) (base := base) T G__law_word cc__law_draw F__law_draw
  have F__law_twins := ok__law_twins (P := l.prog) (w := w) (base := base) T G__law_twins cc__law_draw F__law_draw cc__law_word F__law_word
  have F_Hall_keep := ok_Hall_keep (P := l.prog) (w := w) (base := base) T G_Hall_keep 
  have F_is_letters := ok_is_letters (P := l.prog) (w := w) (base := base) T G_is_letters 
  have F_is_name := ok_is_name (P := l.prog) (w := w) (base := base) T G_is_name cc_is_letters F_is_letters
  have F_is_integer := ok_is_integer (P := l.prog) (w := w) (base := base) T G_is_integer 
  have F_is_within := ok_is_within (P := l.prog) (w := w) (base := base) T G_is_within cc_is_integer F_is_integer
  have F_is_word := ok_is_word (P := l.prog) (w := w) (base := base) T G_is_word cc_is_letters F_is_letters
  have F_is_words := ok_is_words (P := l.prog) (w := w) (base := base) T G_is_words cc_is_word F_is_word
  have F_is_board := ok_is_board (P := l.prog) (w := w) (base := base) T G_is_board cc_is_name F_is_name cc_is_within F_is_within cc_is_words F_is_words
  have F_Hall_init := ok_Hall_init (P := l.prog) (w := w) (base := base) T G_Hall_init cc_Hall_keep F_Hall_keep N_Hall_keep cc_is_board F_is_board
  have F__law_are_pair := ok__law_are_pair (P := l.prog) (w := w) (base := base) T G__law_are_pair 
  have F__law_pairing := ok__law_pairing (P := l.prog) (w := w) (base := base) T G__law_pairing cc__law_are_pair F__law_are_pair cc__law_draw F__law_draw
  have F__law_rows := ok__law_rows (P := l.prog) (w := w) (base := base) T G__law_rows cc__law_draw F__law_draw cc__law_word F__law_word
  have F__law_is_pairing := ok__law_is_pairing (P := l.prog) (w := w) (base := base) T G__law_is_pairing cc__law_are_pair F__law_are_pair
  have F__law_bent_pairing := ok__law_bent_pairing (P := l.prog) (w := w) (base := base) T G__law_bent_pairing cc__law_draw F__law_draw
  have F__law_bent_rows := ok__law_bent_rows (P := l.prog) (w := w) (base := base) T G__law_bent_rows cc__law_draw F__law_draw
  have F__law_are_rows := ok__law_are_rows (P := l.prog) (w := w) (base := base) T G__law_are_rows 
  have F_is_row := ok_is_row (P := l.prog) (w := w) (base := base) T G_is_row cc_is_words F_is_words
  have F_begun_rows := ok_begun_rows (P := l.prog) (w := w) (base := base) T G_begun_rows 
  have F_are_rows := ok_are_rows (P := l.prog) (w := w) (base := base) T G_are_rows cc_begun_rows F_begun_rows cc_is_row F_is_row
  have F_check_rows := ok_check_rows (P := l.prog) (w := w) (base := base) T G_check_rows cc_are_rows F_are_rows
  have F_partners := ok_partners (P := l.prog) (w := w) (base := base) T G_partners 
  have F_is_ascending := ok_is_ascending (P := l.prog) (w := w) (base := base) T G_is_ascending 
  have F_mover_of := ok_mover_of (P := l.prog) (w := w) (base := base) T G_mover_of 
  have F_is_ahead := ok_is_ahead (P := l.prog) (w := w) (base := base) T G_is_ahead cc_mover_of F_mover_of
  have F_are_pair := ok_are_pair (P := l.prog) (w := w) (base := base) T G_are_pair cc_is_ahead F_is_ahead
  have F_is_lot := ok_is_lot (P := l.prog) (w := w) (base := base) T G_is_lot cc_is_ascending F_is_ascending cc_is_within F_is_within
  have F_is_pairing := ok_is_pairing (P := l.prog) (w := w) (base := base) T G_is_pairing cc_are_pair F_are_pair cc_is_ascending F_is_ascending cc_is_lot F_is_lot cc_partners F_partners
  have F_guest_moves := ok_guest_moves (P := l.prog) (w := w) (base := base) T G_guest_moves cc_mover_of F_mover_of
  have F_copied := ok_copied (P := l.prog) (w := w) (base := base) T G_copied cc_check_rows F_check_rows cc_guest_moves F_guest_moves cc_is_pairing F_is_pairing cc_partners F_partners
  have F__law_asked := ok__law_asked (P := l.prog) (w := w) (base := base) T G__law_asked cc_copied F_copied
  have F__law_guests := ok__law_guests (P := l.prog) (w := w) (base := base) T G__law_guests 
  have F__law_copied := ok__law_copied (P := l.prog) (w := w) (base := base) T G__law_copied cc__law_guests F__law_guests
  exact ok_law T nl G_law cc_Hall_init F_Hall_init M_Hall init_Hall ci_Hall cc__law_are_rows F__law_are_rows cc__law_asked F__law_asked cc__law_bent_pairing F__law_bent_pairing cc__law_bent_rows F__law_bent_rows cc__law_copied F__law_copied cc__law_draw F__law_draw cc__law_hand F__law_hand cc__law_is_pairing F__law_is_pairing cc__law_pairing F__law_pairing cc__law_rows F__law_rows cc__law_twins F__law_twins
theorem walk {l : PySem.W.OpenLaw} {q : Program} {loose : List Str} {XP : (Str → Option Value) → Heap → Prop} {YP : World → Heap → Prop} {d : DefRec} {K : Params → PySem.W.Frag} (hn : l.most = some 63) (hdf : d.params.defaults = [])
    (hY : ∀ (w : World) (h : Heap), YP w h → (K w.params).In h)
    (F : ∀ (w : World) (mg : Str → Option Value) (fa : Addr) (h : Heap), (K w.params).In h → h.Ns mainGlobals mg → mg d.name = some (.ref fa) →
      ∃ fd : FuncData, (∀ (s : Shared) (u : Value), BindsTo s fd ⟨[u], []⟩ [("_law_script", u)]) ∧ ∀ base : Heap, (K w.params).In base → base.Ns mainGlobals mg → FnOk l.prog w (K w.params) mg base (L2.CX l.prog w) 9 fa fd ["_law_script"] (spLaw (K w.params))) :
    PySem.W.WalkO q loose XP YP l.row.toRowW d [] (fun f vs => PySem.call f vs) :=
  L2.walk_of (n := 63) (k := 9) (x := "_law_script") (CX := fun w => L2.CX l.prog w) (sp := fun w => spLaw (K w.params)) hn (by decide) hdf ⟨rfl, by decide, by decide⟩ hY F (fun _ _ a ns hl _ hS => ⟨a, ns, rfl, hS, hl, fun _ => rfl⟩) fun _ _ _ _ _ z => by first | exact z | (obtain ⟨_, _, _, _, _, z⟩ := z; exact z) | simpa [L2.CX] using z
end LW
open PySem PySem.W PyProof.Rows
set_option maxRecDepth 100000 in
set_option maxHeartbeats 0 in
theorem PySem.Challenge.cw_untoldgames_k45_whole_copying_moves_holds : PySem.Challenge.rw_untoldgames_k45_whole_copying_moves.Holds := by
  w_on; o_law; k_head; (case hw => w_witness2)
  k_fill
  refine LW.walk (l := PySem.Challenge.rw_untoldgames_k45_whole_copying_moves) rfl rfl (fun w h Y => PySem.W.kIn_of Y) ?F
  case F =>
    intro w mg fa h KX G hmg
    refine' LW.all_mk KX G hmg ?nl ?aC_NoPairing ?bf_NoPairing ?tf_NoPairing ?kc_NoPairing ?ga_NoPairing ?gg_NoPairing ?hd_NoPairing ?ca_NoPairing ?mo_NoPairing ?xf_NoPairing ?aC_NoRows ?bf_NoRows ?tf_NoRows ?kc_NoRows ?ga_NoRows ?gg_NoRows ?hd_NoRows ?ca_NoRows ?mo_NoRows ?xf_NoRows ?aC_HallError ?bf_HallError ?tf_HallError ?kc_HallError ?ga_HallError ?gg_HallError ?hd_HallError ?ca_HallError ?mo_HallError ?ic_HallError ?aC_Hall ?sf_NoPairing_HallError ?sf_NoRows_HallError ?sf_HallError_HallError ?a__law_hand ?l__law_hand ?c__law_hand ?k__law_hand ?a__law_draw ?l__law_draw ?c__law_draw ?k__law_draw ?a__law_word ?l__law_word ?c__law_word ?k__law_word ?a__law_twins ?l__law_twins ?c__law_twins ?k__law_twins ?a_Hall_keep ?i_Hall_keep ?l_Hall_keep ?c_Hall_keep ?k_Hall_keep ?a_is_letters ?l_is_letters ?c_is_letters ?k_is_letters ?a_is_name ?l_is_name ?c_is_name ?k_is_name ?a_is_integer ?l_is_integer ?c_is_integer ?k_is_integer ?a_is_within ?l_is_within ?c_is_within ?k_is_within ?a_is_word ?l_is_word ?c_is_word ?k_is_word ?a_is_words ?l_is_words ?c_is_words ?k_is_words ?a_is_board ?l_is_board ?c_is_board ?k_is_board ?a_Hall_init ?i_Hall_init ?l_Hall_init ?c_Hall_init ?k_Hall_init ?a__law_are_pair ?l__law_are_pair ?c__law_are_pair ?k__law_are_pair ?a__law_pairing ?l__law_pairing ?c__law_pairing ?k__law_pairing ?a__law_rows ?l__law_rows ?c__law_rows ?k__law_rows ?a__law_is_pairing ?l__law_is_pairing ?c__law_is_pairing ?k__law_is_pairing ?a__law_bent_pairing ?l__law_bent_pairing ?c__law_bent_pairing ?k__law_bent_pairing ?a__law_bent_rows ?l__law_bent_rows ?c__law_bent_rows ?k__law_bent_rows ?a__law_are_rows ?l__law_are_rows ?c__law_are_rows ?k__law_are_rows ?a_is_row ?l_is_row ?c_is_row ?k_is_row ?a_begun_rows ?l_begun_rows ?c_begun_rows ?k_begun_rows ?a_are_rows ?l_are_rows ?c_are_rows ?k_are_rows ?a_check_rows ?l_check_rows ?c_check_rows ?k_check_rows ?a_partners ?l_partners ?c_partners ?k_partners ?a_is_ascending ?l_is_ascending ?c_is_ascending ?k_is_ascending ?a_mover_of ?l_mover_of ?c_mover_of ?k_mover_of ?a_is_ahead ?l_is_ahead ?c_is_ahead ?k_is_ahead ?a_are_pair ?l_are_pair ?c_are_pair ?k_are_pair ?a_is_lot ?l_is_lot ?c_is_lot ?k_is_lot ?a_is_pairing ?l_is_pairing ?c_is_pairing ?k_is_pairing ?a_guest_moves ?l_guest_moves ?c_guest_moves ?k_guest_moves ?a_copied ?l_copied ?c_copied ?k_copied ?a__law_asked ?l__law_asked ?c__law_asked ?k__law_asked ?a__law_guests ?l__law_guests ?c__law_guests ?k__law_guests ?a__law_copied ?l__law_copied ?c__law_copied ?k__law_copied ?a_law ?l_law ?c_law ?k_law ?pg_Hall ?hd_Hall ?po_Hall ?sa_Hall ?mk_Hall ?kc_Hall ?n_Hall_boards ?n_Hall_names ?kx_NoPairing_NoPairing ?kx_NoRows_NoPairing ?kx_HallError_NoPairing ?kx_NoPairing_NoRows ?kx_NoRows_NoRows ?kx_HallError_NoRows ?hn_isi ?htk_isi ?z_abs ?z_all ?z_bool ?z_enumerate ?z_int ?z_isinstance ?z_len ?z_list ?z_min ?z_range ?z_sorted ?z_str ?z_tuple ?z_zip ?gv_LETTERS ?gv_MOST_BEGUN ?gv_MOST_BOARDS ?gv_MOST_LETTERS ?gv_MOST_NAME ?gv_MOST_WORDS
    (case nl => kernel_rfl)
    (case aC_NoPairing => k_is)
    (case bf_NoPairing => k_is)
    (case tf_NoPairing => k_is)
    (case kc_NoPairing => k_is)
    (case ga_NoPairing => k_is)
    (case gg_NoPairing => k_is)
    (case hd_NoPairing => k_is)
    (case ca_NoPairing => k_is)
    (case mo_NoPairing => k_is)
    (case xf_NoPairing => k_exc)
    (case aC_NoRows => k_is)
    (case bf_NoRows => k_is)
    (case tf_NoRows => k_is)
    (case kc_NoRows => k_is)
    (case ga_NoRows => k_is)
    (case gg_NoRows => k_is)
    (case hd_NoRows => k_is)
    (case ca_NoRows => k_is)
    (case mo_NoRows => k_is)
    (case xf_NoRows => k_exc)
    (case aC_HallError => k_is)
    (case bf_HallError => k_is)
    (case tf_HallError => k_is)
    (case kc_HallError => k_is)
    (case ga_HallError => k_is)
    (case gg_HallError => k_is)
    (case hd_HallError => k_is)
    (case ca_HallError => k_is)
    (case mo_HallError => k_is)
    (case ic_HallError => k_is)
    (case aC_Hall => k_is)
    (case sf_NoPairing_HallError => first | rfl | k_is)
    (case sf_NoRows_HallError => first | rfl | k_is)
    (case sf_HallError_HallError => first | rfl | k_is)
    (case a__law_hand => k_is)
    (case l__law_hand => k_is)
    (case c__law_hand => k_is)
    (case k__law_hand => k_is)
    (case a__law_draw => k_is)
    (case l__law_draw => k_is)
    (case c__law_draw => k_is)
    (case k__law_draw => k_is)
    (case a__law_word => k_is)
    (case l__law_word => k_is)
    (case c__law_word => k_is)
    (case k__law_word => k_is)
    (case a__law_twins => k_is)
    (case l__law_twins => k_is)
    (case c__law_twins => k_is)
    (case k__law_twins => k_is)
    (case a_Hall_keep => k_is)
    (case i_Hall_keep => k_is)
    (case l_Hall_keep => k_is)
    (case c_Hall_keep => k_is)
    (case k_Hall_keep => k_is)
    (case a_is_letters => k_is)
    (case l_is_letters => k_is)
    (case c_is_letters => k_is)
    (case k_is_letters => k_is)
    (case a_is_name => k_is)
    (case l_is_name => k_is)
    (case c_is_name => k_is)
    (case k_is_name => k_is)
    (case a_is_integer => k_is)
    (case l_is_integer => k_is)
    (case c_is_integer => k_is)
    (case k_is_integer => k_is)
    (case a_is_within => k_is)
    (case l_is_within => k_is)
    (case c_is_within => k_is)
    (case k_is_within => k_is)
    (case a_is_word => k_is)
    (case l_is_word => k_is)
    (case c_is_word => k_is)
    (case k_is_word => k_is)
    (case a_is_words => k_is)
    (case l_is_words => k_is)
    (case c_is_words => k_is)
    (case k_is_words => k_is)
    (case a_is_board => k_is)
    (case l_is_board => k_is)
    (case c_is_board => k_is)
    (case k_is_board => k_is)
    (case a_Hall_init => k_is)
    (case i_Hall_init => k_is)
    (case l_Hall_init => k_is)
    (case c_Hall_init => k_is)
    (case k_Hall_init => k_is)
    (case a__law_are_pair => k_is)
    (case l__law_are_pair => k_is)
    (case c__law_are_pair => k_is)
    (case k__law_are_pair => k_is)
    (case a__law_pairing => k_is)
    (case l__law_pairing => k_is)
    (case c__law_pairing => k_is)
    (case k__law_pairing => k_is)
    (case a__law_rows => k_is)
    (case l__law_rows => k_is)
    (case c__law_rows => k_is)
    (case k__law_rows => k_is)
    (case a__law_is_pairing => k_is)
    (case l__law_is_pairing => k_is)
    (case c__law_is_pairing => k_is)
    (case k__law_is_pairing => k_is)
    (case a__law_bent_pairing => k_is)
    (case l__law_bent_pairing => k_is)
    (case c__law_bent_pairing => k_is)
    (case k__law_bent_pairing => k_is)
    (case a__law_bent_rows => k_is)
    (case l__law_bent_rows => k_is)
    (case c__law_bent_rows => k_is)
    (case k__law_bent_rows => k_is)
    (case a__law_are_rows => k_is)
    (case l__law_are_rows => k_is)
    (case c__law_are_rows => k_is)
    (case k__law_are_rows => k_is)
    (case a_is_row => k_is)
    (case l_is_row => k_is)
    (case c_is_row => k_is)
    (case k_is_row => k_is)
    (case a_begun_rows => k_is)
    (case l_begun_rows => k_is)
    (case c_begun_rows => k_is)
    (case k_begun_rows => k_is)
    (case a_are_rows => k_is)
    (case l_are_rows => k_is)
    (case c_are_rows => k_is)
    (case k_are_rows => k_is)
    (case a_check_rows => k_is)
    (case l_check_rows => k_is)
    (case c_check_rows => k_is)
    (case k_check_rows => k_is)
    (case a_partners => k_is)
    (case l_partners => k_is)
    (case c_partners => k_is)
    (case k_partners => k_is)
    (case a_is_ascending => k_is)
    (case l_is_ascending => k_is)
    (case c_is_ascending => k_is)
    (case k_is_ascending => k_is)
    (case a_mover_of => k_is)
    (case l_mover_of => k_is)
    (case c_mover_of => k_is)
    (case k_mover_of => k_is)
    (case a_is_ahead => k_is)
    (case l_is_ahead => k_is)
    (case c_is_ahead => k_is)
    (case k_is_ahead => k_is)
    (case a_are_pair => k_is)
    (case l_are_pair => k_is)
    (case c_are_pair => k_is)
    (case k_are_pair => k_is)
    (case a_is_lot => k_is)
    (case l_is_lot => k_is)
    (case c_is_lot => k_is)
    (case k_is_lot => k_is)
    (case a_is_pairing => k_is)
    (case l_is_pairing => k_is)
    (case c_is_pairing => k_is)
    (case k_is_pairing => k_is)
    (case a_guest_moves => k_is)
    (case l_guest_moves => k_is)
    (case c_guest_moves => k_is)
    (case k_guest_moves => k_is)
    (case a_copied => k_is)
    (case l_copied => k_is)
    (case c_copied => k_is)
    (case k_copied => k_is)
    (case a__law_asked => k_is)
    (case l__law_asked => k_is)
    (case c__law_asked => k_is)
    (case k__law_asked => k_is)
    (case a__law_guests => k_is)
    (case l__law_guests => k_is)
    (case c__law_guests => k_is)
    (case k__law_guests => k_is)
    (case a__law_copied => k_is)
    (case l__law_copied => k_is)
    (case c__law_copied => k_is)
    (case k__law_copied => k_is)
    (case a_law => k_is)
    (case l_law => k_is)
    (case c_law => k_is)
    (case k_law => k_is)
    (case pg_Hall => k_is)
    (case hd_Hall => k_is)
    (case po_Hall => k_is)
    (case sa_Hall => k_is)
    (case mk_Hall => k_is)
    (case kc_Hall => k_is)
    (case n_Hall_boards => k_is)
    (case n_Hall_names => k_is)
    (case kx_NoPairing_NoPairing => kernel_rfl)
    (case kx_NoRows_NoPairing => kernel_rfl)
    (case kx_HallError_NoPairing => kernel_rfl)
    (case kx_NoPairing_NoRows => kernel_rfl)
    (case kx_NoRows_NoRows => kernel_rfl)
    (case kx_HallError_NoRows => kernel_rfl)
    (case hn_isi => k_is)
    (case htk_isi => k_is)
    (case z_abs => k_is)
    (case z_all => k_is)
    (case z_bool => k_is)
    (case z_enumerate => k_is)
    (case z_int => k_is)
    (case z_isinstance => k_is)
    (case z_len => k_is)
    (case z_list => k_is)
    (case z_min => k_is)
    (case z_range => k_is)
    (case z_sorted => k_is)
    (case z_str => k_is)
    (case z_tuple => k_is)
    (case z_zip => k_is)
    (case gv_LETTERS => k_is)
    (case gv_MOST_BEGUN => k_is)
    (case gv_MOST_BOARDS => k_is)
    (case gv_MOST_LETTERS => k_is)
    (case gv_MOST_NAME => k_is)
    (case gv_MOST_WORDS => k_is)
