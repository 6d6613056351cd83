import PyProof.Rows.All
import Wide.All
import OpenK.AllK
import Wide.FinOn
import HandS.Call
import HandS.Comp
import HandS.ForExc
import HandS.ForMost
import HandS.Wide
import HandS.Star
import HandS.IsInst
import HandS.Flow
import HandS.TupAny
import HandS.TupMul
import HandS.WideBits
import HandS.SortInts
import HandS.Zip
import HandS.TupLe
import HandS.Deep
import HandS.Style
import HandS.Iter
import HandS.Dict
import KE.KDictKeyed
import KE.GoesEnum
import HandS.TupSets
import PyProof.ListNew
import KE.GoesMore
import KE.GoesZip
import HandS.DictComp
import KE.KEqDict
import HandS.SortRule
import HandS.Conv
import PyProof.ReprRoads
import PyProof.ReprLen
import PyProof.FitsInt
import PyProof.CallFns
import HandS.List
import KE.KDictWalk
import HandS.ExcField
import HandS.ExcIs
import HandS.TryMany
import HandS.ExcOwn
import HandS.ForSpec
import KE.KExcIs
import HandS.Gcd
import HandS.WordsDict
import HandS.TupLen
import HandS.Small
import HandS.More
import PyProof.SumAny
import HandS.Sort
import KE.KDictZip
import KE.KDictSum
import KE.DataMinMax
import HandS.SetFor
import HandS.Strs
import PySem.Challenge.RW_lapmats_k09_whole_who_can_follow
set_option Elab.async false
set_option linter.all false
set_option maxRecDepth 100000
set_option autoImplicit false
namespace G
open PySem PySem.Spec PyProof.Rows L2
mutual
def noTx : NestedKey → Bool
  | .none => true
  | .num _ => true
  | .text _ => false
  | .tup ks => noTxs ks
def noTxs : List NestedKey → Bool
  | [] => true
  | k :: ks => noTx k && noTxs ks
end
mutual
theorem hash_w (w w' : World) : ∀ k : NestedKey, noTx k = true → k.hash w = k.hash w'
  | .none, _ => rfl
  | .num _, _ => rfl
  | .text _, h => by simp [noTx] at h
  | .tup ks, h => by
    unfold noTx at h
    unfold NestedKey.hash
    rw [hashes_w w w' ks h]
theorem hashes_w (w w' : World) : ∀ ks : List NestedKey, noTxs ks = true → NestedKey.hashes w ks = NestedKey.hashes w' ks
  | [], _ => rfl
  | k :: ks, h => by
    unfold noTxs at h
    rw [Bool.and_eq_true] at h
    unfold NestedKey.hashes
    rw [hash_w w w' k h.1, hashes_w w w' ks h.2]
end
abbrev NW := List (NestedKey × Addr × V)
abbrev NX := List (NestedKey × Addr × Value)
abbrev NP : NW → NX → Prop := Paired fun p q => p.1 = q.1 ∧ p.2.1 = q.2.1 ∧ RelV p.2.2 q.2.2
def NdP (a : Addr) (ws : NW) (h : Heap) : Prop :=
  ws.length ≤ sizeLine ∧ (a == sysModules) = false ∧ (∀ x ∈ ws, noTx x.1 = true) ∧ ∃ ys : NX, NP ws ys ∧ ∃ o es ep, h.get? a = some o ∧ o.ExactDict ∧ o.data = .dict es ep ∧
    (∀ (P : Program) (w : World), es.toList = ys.map (entryOfKey (nestedKind P w))) ∧ (ys.map (·.1)).Nodup
def NdO (a : Addr) (ws : NW) : HO := .ext (NdP a ws)
theorem ndP_stay {a : Addr} {ws : NW} (h1 h2 : Heap) (x : NdP a ws h1) (k : ∀ o, h1.get? a = some o → h2.get? a = some o) : NdP a ws h2 := by
  obtain ⟨z, y, t, ys, r, o, es, ep, e, c⟩ := x
  exact ⟨z, y, t, ys, r, o, es, ep, k _ e, c⟩
theorem ndO_ok {P : Program} {w : World} {H : Hp} {h : Heap} {a : Addr} {ws : NW} (x : NdP a ws h) : ObjOk P w H h a (NdO a ws) :=
  ⟨x, let ⟨_, _, _, _, _, o, _, _, e, _⟩ := x; ⟨o, e⟩, ndP_stay⟩
theorem nd_rd {P : Program} {w : World} {H : Hp} {h : Heap} {a : Addr} {ws : NW} (ok : HOk P w H h) (e : Rd H a (NdO a ws)) : NdP a ws h := by
  have q : ObjOk P w H h a (.ext (NdP a ws)) := e.ok ok
  exact q.1
mutual
/-- a value is a key, by what is tracked -/
def KeyV (H : Hp) : NestedKey → V → Prop
  | .none, v => v = .non
  | .num i, v => v = .int i
  | .text _, _ => False
  | .tup ks, v => ∃ b xs, v = .ref b ∧ H b = some (.tup xs) ∧ KeyVs H ks xs
def KeyVs (H : Hp) : List NestedKey → List V → Prop
  | [], vs => vs = []
  | k :: ks, vs => ∃ x r, vs = x :: r ∧ KeyV H k x ∧ KeyVs H ks r
end
mutual
theorem keyV_is {P : Program} {w : World} {H : Hp} {h : Heap} (ok : HOk P w H h) : ∀ (k : NestedKey) (v : V) (u : Value), KeyV H k v → RelV v u → NestedIs h k u
  | .none, v, u, q, r => by
    unfold KeyV at q
    subst q
    obtain rfl : u = Value.none := r
    exact .none
  | .num i, v, u, q, r => by
    unfold KeyV at q
    subst q
    obtain ⟨t, rfl⟩ : ∃ t, u = Value.int i t := r
    exact .int i t
  | .text _, v, u, q, r => by unfold KeyV at q; exact q.elim
  | .tup ks, v, u, q, r => by
    unfold KeyV at q
    obtain ⟨b, xs, rfl, e, q⟩ := q
    obtain rfl : u = Value.ref b := r
    obtain ⟨_, its, rr, o, h1, h2, n, h3⟩ := (show ObjOk P w H h b (.tup xs) from ok b _ e)
    exact .tup h1 h2 h3 (by simpa using keyVs_are ok ks xs its q rr)
theorem keyVs_are {P : Program} {w : World} {H : Hp} {h : Heap} (ok : HOk P w H h) : ∀ (ks : List NestedKey) (vs : List V) (us : List Value), KeyVs H ks vs → Vals vs us → NestedAll h ks us
  | [], vs, us, q, r => by
    unfold KeyVs at q
    subst q
    cases r
    exact .nil
  | k :: ks, vs, us, q, r => by
    unfold KeyVs at q
    obtain ⟨x, r', rfl, q1, q2⟩ := q
    cases r with
    | cons h t => exact .cons (keyV_is ok k x _ q1 h) (keyVs_are ok ks r' _ q2 t)
end
mutual
theorem KeyV.keeps {H H' : Hp} (ht : ∀ b ys, H b = some (.tup ys) → H' b = some (.tup ys)) : ∀ (k : NestedKey) (v : V), KeyV H k v → KeyV H' k v
  | .none, v, q => by unfold KeyV at q ⊢; exact q
  | .num i, v, q => by unfold KeyV at q ⊢; exact q
  | .text _, v, q => by unfold KeyV at q; exact q.elim
  | .tup ks, v, q => by
    unfold KeyV at q ⊢
    obtain ⟨b, xs, e, h, q⟩ := q
    exact ⟨b, xs, e, ht b xs h, KeyVs.keeps ht ks xs q⟩
theorem KeyVs.keeps {H H' : Hp} (ht : ∀ b ys, H b = some (.tup ys) → H' b = some (.tup ys)) : ∀ (ks : List NestedKey) (vs : List V), KeyVs H ks vs → KeyVs H' ks vs
  | [], vs, q => by unfold KeyVs at q ⊢; exact q
  | k :: ks, vs, q => by
    unfold KeyVs at q ⊢
    obtain ⟨x, r, e, q1, q2⟩ := q
    exact ⟨x, r, e, KeyV.keeps ht k x q1, KeyVs.keeps ht ks r q2⟩
end
structure KeyAt (H : Hp) (k : NestedKey) (b : Addr) : Prop where
  v : KeyV H k (.ref b)
  dp : k.depth ≤ 8
  tx : noTx k = true
theorem KeyAt.is {P : Program} {w : World} {H : Hp} {h : Heap} {k : NestedKey} {b : Addr} (x : KeyAt H k b) (ok : HOk P w H h) : (nestedKind P w).is h k b := ⟨keyV_is ok k _ _ x.v rfl, x.dp⟩
def KeysAt (H : Hp) (ws : NW) : Prop := ∀ x ∈ ws, KeyAt H x.1 x.2.1
theorem NP.mem {ws : NW} {ys : NX} (r : NP ws ys) : ∀ y ∈ ys, ∃ x ∈ ws, x.1 = y.1 ∧ x.2.1 = y.2.1 := by
  induction r with
  | nil => intro y hy; cases hy
  | @cons p q ps qs h t ih =>
    intro y hy
    rcases List.mem_cons.mp hy with rfl | hy
    · exact ⟨p, List.mem_cons_self, h.1, h.2.1⟩
    · obtain ⟨x, hx, e⟩ := ih y hy
      exact ⟨x, List.mem_cons_of_mem _ hx, e⟩
theorem nd_of {P : Program} {w : World} {H : Hp} {h : Heap} {a : Addr} {ws : NW} (ok : HOk P w H h) (e : Rd H a (NdO a ws)) (ks : KeysAt H ws) :
    ws.length ≤ sizeLine ∧ (a == sysModules) = false ∧ ∃ ys, NP ws ys ∧ h.DictOfH (nestedKind P w) a ys := by
  obtain ⟨z, y, t, ys, r, o, es, ep, e1, e2, e3, e4, e5⟩ := nd_rd ok e
  refine ⟨z, y, ys, r, o, es, ep, e1, e2, e3, e4 P w, fun q hq => ?_, e5⟩
  obtain ⟨x, hx, h1, h2⟩ := NP.mem r q hq
  rw [← h1, ← h2]
  exact (ks x hx).is ok
def valN (ws : NW) (k : NestedKey) : Option V := (ws.find? fun x => decide (x.1 = k)).map (·.2.2)
def putN (ws : NW) (k : NestedKey) (b : Addr) (v : V) : NW := if (valN ws k).isSome then ws.map fun x => if x.1 = k then (x.1, x.2.1, v) else x else ws ++ [(k, b, v)]
theorem NP.val {ws : NW} {ys : NX} (r : NP ws ys) (k : NestedKey) : RelO (valN ws k) ((atKey ys k).map (·.2)) := by
  induction r with
  | nil => exact True.intro
  | @cons p q ps qs h t ih =>
    obtain ⟨h1, _, h2⟩ := h
    by_cases e : p.1 = k
    · have e' : q.1 = k := h1.symm.trans e
      have b : atKey (q :: qs) k = some q.2 := by simp [atKey, List.find?_cons, e']
      have a : valN (p :: ps) k = some p.2.2 := by simp [valN, List.find?_cons, e]
      rw [a, b]; exact h2
    · have e' : ¬ q.1 = k := fun z => e (h1.trans z)
      have b : atKey (q :: qs) k = atKey qs k := by simp [atKey, List.find?_cons, e']
      have a : valN (p :: ps) k = valN ps k := by simp [valN, List.find?_cons, e]
      rw [a, b]; exact ih
theorem NP.isSome {ws : NW} {ys : NX} (r : NP ws ys) (k : NestedKey) : (valN ws k).isSome = (atKey ys k).isSome := by
  have := (r.val k).isSome_eq
  rwa [Option.isSome_map] at this
theorem NP.put {ws : NW} {ys : NX} (r : NP ws ys) (k : NestedKey) (b : Addr) {y : V} {u : Value} (ry : RelV y u) : NP (putN ws k b y) (storedH ys k b u) := by
  unfold putN storedH
  rw [r.isSome k]
  by_cases q : (atKey ys k).isSome = true
  · rw [if_pos q, if_pos q]
    clear q
    induction r with
    | nil => exact .nil
    | @cons p q ps qs h t ih =>
      rw [List.map_cons, List.map_cons]
      refine .cons ?_ ih
      obtain ⟨h1, h2, h3⟩ := h
      unfold putAt
      by_cases e : p.1 = k
      · rw [if_pos e, if_pos (h1.symm.trans e)]; exact ⟨h1, h2, ry⟩
      · rw [if_neg e, if_neg (fun z => e (h1.trans z))]; exact ⟨h1, h2, h3⟩
  · rw [if_neg q, if_neg q]; exact Paired.snoc r ⟨rfl, rfl, ry⟩
theorem putN_len (ws : NW) (k : NestedKey) (b : Addr) (v : V) : (putN ws k b v).length ≤ ws.length + 1 := by
  unfold putN
  split <;> simp
theorem putN_tx {ws : NW} {k : NestedKey} {b : Addr} {v : V} (h : ∀ x ∈ ws, noTx x.1 = true) (hk : noTx k = true) : ∀ x ∈ putN ws k b v, noTx x.1 = true := by
  unfold putN
  split
  · intro x hx
    obtain ⟨y, hy, rfl⟩ := List.mem_map.mp hx
    split
    · exact h y hy
    · exact h y hy
  · intro x hx
    rcases List.mem_append.mp hx with hx | hx
    · exact h x hx
    · rw [List.mem_singleton.mp hx]; exact hk
def DGetN (H : Hp) (a : Addr) (y : V) (r : Option V) : Prop := ∃ ws k b, Rd H a (NdO a ws) ∧ KeysAt H ws ∧ y = .ref b ∧ KeyAt H k b ∧ r = valN ws k
def DPutN (H : Hp) (a : Addr) (y v : V) (H' : Hp) : Prop := ∃ ws k b, H a = some (NdO a ws) ∧ KeysAt H ws ∧ y = .ref b ∧ KeyAt H k b ∧ ws.length < sizeLine ∧ H' = upd H a (NdO a (putN ws k b v))
section
variable {X : Cx} {pins : List (Addr × Obj)} {σ : L2.St} {H : Hp} {s : Shared} {a : Addr} {y v : V} {u r : Value} {o : Option V} {A : Around} {E : Value → Shared → Prop}
theorem nroom (hu : A.units + 9 < cLine) {P : Program} {w : World} : (nestedKind P w).room A.in1 := by show A.units + 1 + 8 < cLine; omega
theorem n_in {Q : Value → Shared → Prop} (hu : A.units + 9 < cLine) (I : Inv X pins σ H s) (g : DGetN H a y o) (ry : RelV y u) (h : ∀ s', Inv X pins σ H s' → Q (.bool o.isSome) s') :
    wpAny (model X.prog X.w) A (compareOp .In u (.ref a)) Q E s := by
  obtain ⟨ws, k, b, e, ks, rfl, hk, l⟩ := g
  cases (show u = Value.ref b from ry)
  obtain ⟨z, hd, ys, rel, dd⟩ := nd_of I.hok e ks
  refine wpAny_in_heap (nroom hu) (hk.is I.hok) hd dd ?_
  rw [← rel.isSome k, ← l]
  exact h _ (I.tok _)
theorem n_setItem {H' : Hp} {Q : Unit → Shared → Prop} (hu : A.units + 9 < cLine) (I : Inv X pins σ H s) (g : DPutN H a y v H') (ry : RelV y u) (rv : RelV v r) (h : ∀ s', Inv X pins σ H' s' → Q () s') :
    wpAny (model X.prog X.w) A (setItem (.ref a) u r) Q E s := by
  obtain ⟨ws, k, b, e, ks, rfl, hk, l, rfl⟩ := g
  cases (show u = Value.ref b from ry)
  obtain ⟨z, hd, ys, rel, dd⟩ := nd_of I.hok (.inl e) ks
  have np := nd_rd I.hok (.inl e)
  have hz : ys.length ≤ sizeLine := by rw [← Paired.length rel]; exact z
  have hl : (putN ws k b v).length ≤ sizeLine := by have := putN_len ws k b v; omega
  refine wpAny_setItem_heap (hsz := hz) (nroom hu) (hk.is I.hok) dd fun h' dd' hs => h _ ?_
  obtain ⟨q, es, ep, hq, h2, h3, h4, _, h5⟩ := dd'
  have rel' := rel.put k b rv
  have tx := putN_tx (b := b) (v := v) np.2.2.1 hk.tx
  refine d_write I (by rw [e]; exact True.intro) hs ⟨q, hq⟩ (ndO_ok ⟨hl, hd, tx, _, rel', q, es, ep, hq, h2, h3, fun P w => ?_, h5⟩)
  rw [h4]
  refine List.map_congr_left fun x hx => ?_
  obtain ⟨x0, hx0, e1, e2⟩ := NP.mem rel' x hx
  have := tx x0 hx0
  rw [e1] at this
  show (⟨_, _, _⟩ : DictEntry) = ⟨_, _, _⟩
  congr 1
  exact hash_w _ _ x.1 this
end
section
variable {X : Cx} {o i e value : Expr} {pos pos' tpos : Pos} {td ty tv : TE}
def tDInN (ty td : TE) : TE := fun σ H Q => ty σ H fun y H1 => td σ H1 fun x H2 => ∃ a o, x = .ref a ∧ DGetN H2 a y o ∧ Q (.bl o.isSome) H2
def sDPutN (td ty tv : TE) : TS := fun D σ H => tv σ H fun v H1 => td σ H1 fun x H2 => ty σ H2 fun y H3 => ∃ a H4, x = .ref a ∧ DPutN H3 a y v H4 ∧ D.nx σ H4
theorem pc_dinN (hu : X.A.units + 9 < cLine) (hi : PE X i ty) (ho : PE X o td) : PC X .In i o (tDInN ty td) := by
  refine ⟨fun pins s σ H Q I h => ?_⟩
  refine thn (hi.run pins s σ H _ I h) fun iv s1 ⟨y, H1, I1, ry, q1⟩ => thn (ho.run pins s1 σ H1 _ I1 q1) fun u s2 ⟨x, H2, I2, rx, a, ov, ex, g, q2⟩ => ?_
  subst ex
  obtain rfl : u = Value.ref a := rx
  exact n_in hu I2 g ry fun s3 I3 => ⟨.bl ov.isSome, H2, I3, rfl, q2⟩
theorem ps_dputN (hu : X.A.units + 9 < cLine) (ho : PE X o td) (hi : PE X i ty) (hv : PE X value tv) (hs : swapsWith value (some (.Subscript o i pos')) pos.line X.env = pure false) :
    PS X (.Assign [.Subscript o i pos'] value pos) (sDPutN td ty tv) := by
  refine ⟨fun pins s σ H D I h => ?_⟩
  refine wpAny_Assign_Subscript (thn (hv.run pins s σ H _ I h) fun r s1 ⟨v, H1, I1, rv, q1⟩ => thn (ho.run pins s1 σ H1 _ I1 q1) fun u s2 ⟨x, H2, I2, rx, q2⟩ => thn (hi.run pins s2 σ H2 _ I2 q2) fun iv s3 ⟨y, H3, I3, ry, a, H4, ex, g, q3⟩ => ?_) hs
  subst ex
  obtain rfl : u = Value.ref a := rx
  exact n_setItem hu I3 g ry rv fun s4 I4 => ⟨σ, H4, I4, q3⟩
def tDNewN : TE := fun _ H Q => ∀ p, H p = none → Q (.ref p) (upd H p (NdO p []))
theorem nd_empty {P : Program} {w : World} {H : Hp} (h : Heap) (hb : sysModules < h.objs.size) : ObjOk P w H (h.push { cls := .type "dict", data := .dict #[] }) h.objs.size (NdO h.objs.size []) :=
  ndO_ok ⟨Nat.zero_le _, beq_eq_false_iff_ne.mpr (Ne.symm (Nat.ne_of_lt hb)), (fun _ hx => nomatch hx), [], .nil, _, #[], 0, Heap.get?_push_size _ rfl, ⟨rfl, rfl, rfl⟩, rfl, fun _ _ => rfl, List.nodup_nil⟩
theorem pe_dnewN : PE X (.Dict [] [] pos) tDNewN := ⟨fun pins s σ H Q I h =>
  wpAny_Dict_empty ⟨.ref s.heap.objs.size, _, I.laid (a := s.heap.objs.size) (o := NdO s.heap.objs.size []) (t' := s.toks) (fun _ _ q => Heap.get?_push_of_some _ q) (Nat.le_refl _) (nd_empty s.heap I.big), rfl, h _ (I.hok.fresh (Nat.le_refl _))⟩⟩
end
def OEnt (o : Obj) (ws : NW) : Prop := ∃ es ep, o.data = .dict es ep ∧ es.size = ws.length ∧ ∀ (i : Nat) (x : NestedKey × Addr × V), ws[i]? = some x → ∃ en : DictEntry, es[i]? = some en ∧ en.key = .ref x.2.1
def Itn (d : Addr) (o : Obj) (ws : NW) : It :=
  ⟨fun i H => H d = some (.frz o (NdO d ws)) ∧ i < ws.length, fun i H x H' => H' = H ∧ ∃ q, ws[i]? = some q ∧ x = .ref q.2.1, fun i H => H d = some (.frz o (NdO d ws)) ∧ ws.length ≤ i⟩
section
variable {X : Cx} {pins : List (Addr × Obj)} {σ : L2.St} {H : Hp} {s : Shared} {d : Addr} {o : Obj} {ws : NW}
theorem frzN (I : Inv X pins σ H s) (h : H d = some (.frz o (NdO d ws))) :
    (d == sysModules) = false ∧ s.heap.get? d = some o ∧ o.ExactDict ∧ OEnt o ws := by
  obtain ⟨hd, z⟩ := I.hok d _ h
  have z : ObjOk X.prog X.w H s.heap d (.ext (NdP d ws)) := z
  obtain ⟨⟨_, y, _, ys, r, o', es, ep, ho, hx, hdt, he, _⟩, _⟩ := z
  rw [hd] at ho
  cases ho
  have he := he X.prog X.w
  refine ⟨y, hd, hx, es, ep, hdt, ?_, fun i x e => ?_⟩
  · have l1 : es.size = ys.length := size_of_entries he
    have l2 : ws.length = ys.length := Paired.length r
    omega
  · obtain ⟨b, hb, e1, e2, _⟩ := paired_get r e
    have q := entry_at he i
    rw [hb] at q
    exact ⟨_, q, by rw [e2]; rfl⟩
end
section
variable {P : Program} {w : World} {K : PySem.W.Frag} {tg : Expr} {d : Addr} {o : Obj} {es : Array DictEntry} {ep : Nat}
theorem turn_keysN {ws : NW} (it : Addr) (hod : o.data = .dict es ep) : Turn P w K tg (Itn d o ws) [it] it (fun i h => h.IsKeyIter it d i ws.length ep) where
  mem := by simp
  obj := fun i h st b hb => by
    have e : b = it := by simpa using hb
    subst e
    obtain ⟨oi, e, c, dd⟩ := st
    exact ⟨oi, e, fun v z => by rw [dd] at z; cases z⟩
  keep := fun i h h' st k => st.at fun oi e => k it (by simp) oi e
  item := by
    intro X hP hw hK hc i pins s σ H E I hf st hg
    subst hP hw hK
    obtain ⟨hd, hi⟩ := hg
    obtain ⟨f0, f1, f2, f3, f4, f5⟩ := hf it (by simp)
    obtain ⟨hs, hgd, hx, es', ep', hdt, hsz, ent⟩ := frzN I hd
    obtain ⟨rfl, rfl⟩ := dict_ep hod hdt
    obtain ⟨q, hkv⟩ : ∃ p, ws[i]? = some p := ⟨ws[i], List.getElem?_eq_getElem hi⟩
    obtain ⟨en, hen, hkey⟩ := ent i q hkv
    refine next_key_item st hgd hdt hsz hen fun h' st' sb => ?_
    have I1 : Inv X pins σ H { s with heap := h' } := I.turned (t' := s.toks) (fun b ob hb e => (sb.2 b hb).trans e) f0 f1 f3 f4 f5
    obtain ⟨oi, e, c, dd⟩ := id st'
    exact ⟨en.key, rfl, go_of (s := { s with heap := h' }) e c dd (by decide) ⟨.ref q.2.1, H, I1, hkey, ⟨rfl, q, hkv, rfl⟩, st', fun b hb => (hf b hb).1⟩⟩
  done := by
    intro X hP hw hK hc i pins s σ H E I hf st hg
    subst hP hw hK
    obtain ⟨hd, hi⟩ := hg
    obtain ⟨f0, f1, f2, f3, f4, f5⟩ := hf it (by simp)
    obtain ⟨hs, hgd, hx, es', ep', hdt, hsz, ent⟩ := frzN I hd
    obtain ⟨rfl, rfl⟩ := dict_ep hod hdt
    exact next_key_end (I.ok.hd hc) st hgd hdt hsz hi fun h' eb => ⟨rfl, I.turned (t' := s.toks) (fun b ob hb e => eb b ob hb e) f0 f1 f3 f4 f5⟩
  self := fun A i s Q E st h => by
    refine wpAny_pyIter_slot st.typeIs F.slot_dict_keyiterator_iter (wpAny_call_entry F.slot_dict_keyiterator_iter st.typeIs F.entry_dict_keyiterator_iter ?_ (F.args_dict_keyiterator_iter_1 _))
    show wpAny _ _ (ret (.ref it)) _ _ s
    exact wpAny_pure ⟨_, rfl, "dict_keyiterator", _, st.typeIs, F.slot_dict_keyiterator_next.lookup, h⟩
end
def iKeysNL (td : TE) : TI := fun σ H R => td σ H fun x H1 => ∃ d ws, x = .ref d ∧ H1 d = some (NdO d ws) ∧ ∀ o, OEnt o ws → R (Itn d o ws) (upd H1 d (.frz o (NdO d ws)))
theorem pi_keysNL {X : Cx} {tg e : Expr} {td : TE} (he : PE X e td) : PI X tg e (iKeysNL td) := by
  refine ⟨fun pins s σ H R I h => ?_⟩
  refine thn (he.run pins s σ H _ I h) fun u s1 ⟨x, H1, I1, rx, d, ws, ex, hd, q⟩ => ?_
  subst ex
  obtain rfl : u = Value.ref d := rx
  obtain ⟨o, I1⟩ := I1.lock hd (by show True; trivial)
  have q := q o
  generalize hH2 : upd H1 d (.frz o (NdO d ws)) = H2 at I1 q
  have hd : H2 d = some (.frz o (NdO d ws)) := by rw [← hH2]; exact upd_same
  obtain ⟨hs, hgd, hx, oe⟩ := frzN I1 hd
  have q := q oe
  obtain ⟨es, ep, hdt, hsz, ent⟩ := oe
  refine iter_keys hs hgd hx hdt (pi_one (tk := s1.toks) I1 _ (turn_keysN _ hdt) ⟨_, Heap.get?_push_size _ rfl, rfl, ?_⟩ q)
  rw [hsz] <;> rfl
end G
namespace G
open PySem PySem.Spec PyProof.Rows L2
inductive D where
  | non | bl (b : Bool) | int (i : Int) | str (x : Str) | raw (v : V) | dic
  | tup (xs : List D) | lst (xs : List D) | slo (xs : List D) | mut (n : Nat)
  /-- a def of the module, by its name; a caught error: where it is, its class, its dict, its class's name, its field -/
  | emp | rg (lo hi : Int) | fn (x : Str) | exv (a : Addr) (c : Value) (od : Option Addr) (cl f : Str) (d : D)
inductive MO where
  | lst (xs : List D)
  | dk (kvs : List (L2.Key × V)) | dt (kvs : List (List L2.Key × V))
  /-- a dict that a loop walks -/
  | fk (kvs : List (L2.Key × V))
  /-- dicts of any things; walked ones -/
  | dd (kvs : List (L2.Key × D)) | de (kvs : List (List L2.Key × D)) | fd (kvs : List (L2.Key × D)) | fe (kvs : List (List L2.Key × D))
  /-- dicts whose keys are tuples of any depth; walked ones -/
  | dn (kvs : List (D × D)) | gn (kvs : List (D × D))
mutual
/-- a key of a dict -/
def nkOf : D → Option NestedKey
  | .non => some .none
  | .int i => some (.num i)
  | .tup ds => (nksOf ds).map .tup
  | _ => none
def nksOf : List D → Option (List NestedKey)
  | [] => some []
  | d :: ds => match nkOf d, nksOf ds with
    | some k, some ks => some (k :: ks)
    | _, _ => none
end
def nkO (d : D) : Option NestedKey := match nkOf d with
  | some k => if k.depth ≤ 8 then some k else none
  | none => none
abbrev Sto := List MO
abbrev Env := List (Option D)
structure Mem where
  m : List Addr
  p : List Addr
  f : Addr → Option (Obj × HO)
def Mem.no (M : Mem) (a : Addr) : Prop := a ∉ M.m ∧ a ∉ M.p
def Mem.push (M : Mem) (a : Addr) : Mem := ⟨M.m ++ [a], M.p, M.f⟩
def FzP (M : Mem) (H : Hp) (a : Addr) (xs : List V) : Prop := H a = some (.lst xs) ∧ M.no a
def FzL (K : PySem.W.Frag) (M : Mem) (H : Hp) (a : Addr) (xs : List V) : Prop :=
  (Rd H a (.lst xs) ∧ M.no a) ∨
    ∃ (o : Obj) (its : Array Value) (n : Nat), K.lookup a = some o ∧ o.cls = .type "list" ∧ o.dict = none ∧ o.data = .seq its n ∧ its.size ≤ sizeLine ∧ Vals xs its.toList
def FzT (K : PySem.W.Frag) (M : Mem) (H : Hp) (a : Addr) (xs : List V) : Prop := H a = some (.tup xs) ∧ M.no a
theorem FzL.sq {K : PySem.W.Frag} {M : Mem} {H : Hp} {a : Addr} {xs : List V} (h : FzL K M H a xs) : SqL K H a xs := h.imp And.left id
theorem FzP.sq {K : PySem.W.Frag} {M : Mem} {H : Hp} {a : Addr} {xs : List V} (h : FzP M H a xs) : SqL K H a xs := .of h.1
theorem FzT.sq {K : PySem.W.Frag} {M : Mem} {H : Hp} {a : Addr} {xs : List V} (h : FzT K M H a xs) : SqT K H a xs := .inl (.of h.1)
section
variable (K : PySem.W.Frag) (M : Mem) (H : Hp)
mutual
def Rep : D → V → Prop
  | .non, v => v = .non
  | .bl b, v => v = .bl b
  | .int i, v => v = .int i
  | .str x, v => v = .str x
  | .raw w, v => v = w
  | .dic, v => ∃ a kvs, v = .ref a ∧ H a = some (.dK kvs) ∧ M.no a
  | .tup xs, v => ∃ a vs, v = .ref a ∧ FzT K M H a vs ∧ RepL xs vs
  | .lst xs, v => ∃ a vs, v = .ref a ∧ FzP M H a vs ∧ RepL xs vs
  | .slo xs, v => ∃ a vs, v = .ref a ∧ FzL K M H a vs ∧ RepL xs vs
  | .mut n, v => ∃ a, v = .ref a ∧ M.m[n]? = some a
  | .emp, v => ∃ a, v = .ref a ∧ H a = some (.dK []) ∧ M.no a
  | .rg lo hi, v => ∃ a, v = .ref a ∧ H a = some (.rng lo hi) ∧ M.no a
  | .fn x, v => ∃ a, v = .ref a ∧ PySem.W.nsIn K mainGlobals x = some (some (.ref a))
  | .exv a c od cl f d, v => v = .ref a ∧ PySem.W.nsIn K mainGlobals cl = some (some c) ∧ ((f = "" ∧ od = none) ∨ (f ≠ "" ∧ ∃ dd w, od = some dd ∧ H dd = some (.xd [(f, w)]) ∧ M.no dd ∧ Rep d w))
def RepL : List D → List V → Prop
  | [], vs => vs = []
  | d :: ds, vs => ∃ v r, vs = v :: r ∧ Rep d v ∧ RepL ds r
end
end
structure Keep (M : Mem) (H : Hp) (M' : Mem) (H' : Hp) : Prop where
  pre : ∀ (n : Nat) (a : Addr), M.m[n]? = some a → M'.m[n]? = some a
  keep : ∀ a o, H a = some o → M.no a → H' a = some o ∧ M'.no a
  ff : M'.f = M.f
theorem Keep.refl {M : Mem} {H : Hp} : Keep M H M H := ⟨fun _ _ h => h, fun _ _ h n => ⟨h, n⟩, rfl⟩
theorem Keep.trans {M : Mem} {H : Hp} {M1 : Mem} {H1 : Hp} {M2 : Mem} {H2 : Hp} (a : Keep M H M1 H1) (b : Keep M1 H1 M2 H2) : Keep M H M2 H2 :=
  ⟨fun n x h => b.pre n x (a.pre n x h), fun x o h n => let ⟨h1, n1⟩ := a.keep x o h n; b.keep x o h1 n1, b.ff.trans a.ff⟩
structure Grow (M : Mem) (H : Hp) (M' : Mem) (H' : Hp) : Prop where
  pre : ∀ (n : Nat) (a : Addr), M.m[n]? = some a → M'.m[n]? = some a
  keep : ∀ a o, H a = some o → M.no a → H' a = some o ∧ M'.no a
  pp : M'.p = M.p
  prot : ∀ a ∈ M.p, H' a = H a
  ff : M'.f = M.f
theorem Grow.k {M : Mem} {H : Hp} {M' : Mem} {H' : Hp} (g : Grow M H M' H') : Keep M H M' H' := ⟨g.pre, g.keep, g.ff⟩
theorem Grow.refl {M : Mem} {H : Hp} : Grow M H M H := ⟨fun _ _ h => h, fun _ _ h n => ⟨h, n⟩, rfl, fun _ _ => rfl, rfl⟩
theorem Grow.trans {M : Mem} {H : Hp} {M1 : Mem} {H1 : Hp} {M2 : Mem} {H2 : Hp} (a : Grow M H M1 H1) (b : Grow M1 H1 M2 H2) : Grow M H M2 H2 :=
  ⟨fun n x h => b.pre n x (a.pre n x h), fun x o h n => let ⟨h1, n1⟩ := a.keep x o h n; b.keep x o h1 n1, b.pp.trans a.pp, fun x h => (b.prot x (by rw [a.pp]; exact h)).trans (a.prot x h), b.ff.trans a.ff⟩
section
variable {K : PySem.W.Frag} {M M' : Mem} {H H' : Hp}
theorem Keep.rdL {a : Addr} {o : HO} (g : Keep M H M' H') (h : Rd H a o) (n : M.no a) : Rd H' a o ∧ M'.no a := by
  rcases h with h | ⟨ob, h⟩
  · exact ⟨.inl (g.keep _ _ h n).1, (g.keep _ _ h n).2⟩
  · exact ⟨.inr ⟨ob, (g.keep _ _ h n).1⟩, (g.keep _ _ h n).2⟩
theorem Keep.fzL {a : Addr} {xs : List V} (g : Keep M H M' H') (h : FzL K M H a xs) : FzL K M' H' a xs := h.imp (fun q => g.rdL q.1 q.2) id
theorem Keep.fzT {a : Addr} {xs : List V} (g : Keep M H M' H') (h : FzT K M H a xs) : FzT K M' H' a xs := g.keep _ _ h.1 h.2
mutual
theorem Rep.kp (g : Keep M H M' H') : ∀ {d : D} {v : V}, Rep K M H d v → Rep K M' H' d v
  | .non, _, h => by unfold Rep at h ⊢; exact h
  | .bl _, _, h => by unfold Rep at h ⊢; exact h
  | .int _, _, h => by unfold Rep at h ⊢; exact h
  | .str _, _, h => by unfold Rep at h ⊢; exact h
  | .raw _, _, h => by unfold Rep at h ⊢; exact h
  | .dic, _, h => by
    unfold Rep at h ⊢
    obtain ⟨a, kvs, e, f, n⟩ := h
    exact ⟨a, kvs, e, g.keep _ _ f n⟩
  | .tup xs, _, h => by
    unfold Rep at h ⊢
    obtain ⟨a, vs, e, f, r⟩ := h
    exact ⟨a, vs, e, g.fzT f, RepL.kp g r⟩
  | .lst xs, _, h => by
    unfold Rep at h ⊢
    obtain ⟨a, vs, e, f, r⟩ := h
    exact ⟨a, vs, e, g.keep _ _ f.1 f.2, RepL.kp g r⟩
  | .slo xs, _, h => by
    unfold Rep at h ⊢
    obtain ⟨a, vs, e, f, r⟩ := h
    exact ⟨a, vs, e, g.fzL f, RepL.kp g r⟩
  | .mut n, _, h => by
    unfold Rep at h ⊢
    obtain ⟨a, e, m⟩ := h
    exact ⟨a, e, g.pre n a m⟩
  | .fn _, _, h => by unfold Rep at h ⊢; exact h
  | .emp, _, h => by
    unfold Rep at h ⊢
    obtain ⟨a, e, f, n⟩ := h
    exact ⟨a, e, g.keep _ _ f n⟩
  | .rg .., _, h => by
    unfold Rep at h ⊢
    obtain ⟨a, e, f, n⟩ := h
    exact ⟨a, e, g.keep _ _ f n⟩
  | .exv a c od cl f d, _, h => by
    unfold Rep at h ⊢
    obtain ⟨h1, h2, h3⟩ := h
    refine ⟨h1, h2, h3.imp id ?_⟩
    rintro ⟨h4, dd, w, h5, h6, h7, h8⟩
    exact ⟨h4, dd, w, h5, (g.keep _ _ h6 h7).1, (g.keep _ _ h6 h7).2, Rep.kp g h8⟩
theorem RepL.kp (g : Keep M H M' H') : ∀ {ds : List D} {vs : List V}, RepL K M H ds vs → RepL K M' H' ds vs
  | [], _, h => by unfold RepL at h ⊢; exact h
  | d :: ds, _, h => by
    unfold RepL at h ⊢
    obtain ⟨v, r, e, h1, h2⟩ := h
    exact ⟨v, r, e, Rep.kp g h1, RepL.kp g h2⟩
end
theorem Rep.grow (g : Grow M H M' H') {d : D} {v : V} (h : Rep K M H d v) : Rep K M' H' d v := Rep.kp g.k h
theorem RepL.grow (g : Grow M H M' H') {ds : List D} {vs : List V} (h : RepL K M H ds vs) : RepL K M' H' ds vs := RepL.kp g.k h
theorem Grow.fzL {a : Addr} {xs : List V} (g : Grow M H M' H') (h : FzL K M H a xs) : FzL K M' H' a xs := g.k.fzL h
theorem Grow.fzT {a : Addr} {xs : List V} (g : Grow M H M' H') (h : FzT K M H a xs) : FzT K M' H' a xs := g.k.fzT h
theorem RepL.nil : RepL K M H [] [] := by unfold RepL; rfl
theorem RepL.cons {d : D} {v : V} {ds : List D} {vs : List V} (h : Rep K M H d v) (t : RepL K M H ds vs) : RepL K M H (d :: ds) (v :: vs) := by unfold RepL; exact ⟨v, vs, rfl, h, t⟩
theorem RepL.length : ∀ {ds : List D} {vs : List V}, RepL K M H ds vs → ds.length = vs.length
  | [], _, h => by unfold RepL at h; subst h; rfl
  | d :: ds, _, h => by
    unfold RepL at h
    obtain ⟨v, r, rfl, _, h2⟩ := h
    simp [RepL.length h2]
theorem RepL.append : ∀ {ds es : List D} {vs ws : List V}, RepL K M H ds vs → RepL K M H es ws → RepL K M H (ds ++ es) (vs ++ ws)
  | [], _, _, _, h, q => by unfold RepL at h; subst h; exact q
  | d :: ds, _, _, _, h, q => by
    unfold RepL at h
    obtain ⟨v, r, rfl, h1, h2⟩ := h
    exact .cons h1 (RepL.append h2 q)
theorem RepL.get : ∀ {ds : List D} {vs : List V} {i : Nat} {d : D}, RepL K M H ds vs → ds[i]? = some d → ∃ v, vs[i]? = some v ∧ Rep K M H d v
  | [], _, i, d, h, e => by simp at e
  | x :: ds, _, 0, d, h, e => by
    unfold RepL at h
    obtain ⟨v, r, rfl, h1, h2⟩ := h
    simp at e; subst e
    exact ⟨v, rfl, h1⟩
  | x :: ds, _, i + 1, d, h, e => by
    unfold RepL at h
    obtain ⟨v, r, rfl, h1, h2⟩ := h
    obtain ⟨w, h3, h4⟩ := RepL.get (i := i) h2 (by simpa using e)
    exact ⟨w, by simpa using h3, h4⟩
theorem RepL.take : ∀ {ds : List D} {vs : List V} (n : Nat), RepL K M H ds vs → RepL K M H (ds.take n) (vs.take n)
  | _, _, 0, _ => by simp; exact .nil
  | [], _, n + 1, h => by unfold RepL at h; subst h; simp; exact .nil
  | x :: ds, _, n + 1, h => by
    unfold RepL at h
    obtain ⟨v, r, rfl, h1, h2⟩ := h
    simpa using RepL.cons h1 (RepL.take n h2)
theorem RepL.drop : ∀ {ds : List D} {vs : List V} (n : Nat), RepL K M H ds vs → RepL K M H (ds.drop n) (vs.drop n)
  | _, _, 0, h => by simpa using h
  | [], _, n + 1, h => by unfold RepL at h; subst h; simp; exact .nil
  | x :: ds, _, n + 1, h => by
    unfold RepL at h
    obtain ⟨v, r, rfl, h1, h2⟩ := h
    simpa using RepL.drop n h2
theorem RepL.set {d : D} {v : V} (q : Rep K M H d v) : ∀ {ds : List D} {vs : List V} (n : Nat), RepL K M H ds vs → RepL K M H (ds.set n d) (vs.set n v)
  | [], _, n, h => by unfold RepL at h; subst h; simp; exact .nil
  | x :: ds, _, 0, h => by
    unfold RepL at h
    obtain ⟨w, r, rfl, h1, h2⟩ := h
    simpa using RepL.cons q h2
  | x :: ds, _, n + 1, h => by
    unfold RepL at h
    obtain ⟨w, r, rfl, h1, h2⟩ := h
    simpa using RepL.cons h1 (RepL.set q n h2)
theorem RepL.reverse : ∀ {ds : List D} {vs : List V}, RepL K M H ds vs → RepL K M H ds.reverse vs.reverse
  | [], _, h => by unfold RepL at h; subst h; simp; exact .nil
  | x :: ds, _, h => by
    unfold RepL at h
    obtain ⟨w, r, rfl, h1, h2⟩ := h
    simpa using RepL.append (RepL.reverse h2) (RepL.cons h1 .nil)
theorem RepL.replicate {d : D} {v : V} (q : Rep K M H d v) : ∀ (n : Nat), RepL K M H (List.replicate n d) (List.replicate n v)
  | 0 => .nil
  | n + 1 => by rw [List.replicate_succ, List.replicate_succ]; exact .cons q (RepL.replicate q n)
theorem RepL.ints : ∀ (ns : List Int), RepL K M H (ns.map D.int) (ns.map V.int)
  | [] => .nil
  | n :: ns => .cons (by unfold Rep; rfl) (RepL.ints ns)
end
def RepKV {κ : Type} (K : PySem.W.Frag) (M : Mem) (H : Hp) (kvs : List (κ × D)) (ws : List (κ × V)) : Prop := ws.map (·.1) = kvs.map (·.1) ∧ RepL K M H (kvs.map (·.2)) (ws.map (·.2))
theorem RepKV.kp {κ : Type} {K : PySem.W.Frag} {M M' : Mem} {H H' : Hp} (g : Keep M H M' H') {kvs : List (κ × D)} {ws : List (κ × V)} (r : RepKV K M H kvs ws) : RepKV K M' H' kvs ws := ⟨r.1, r.2.kp g⟩
theorem RepKV.grow {κ : Type} {K : PySem.W.Frag} {M M' : Mem} {H H' : Hp} (g : Grow M H M' H') {kvs : List (κ × D)} {ws : List (κ × V)} (r : RepKV K M H kvs ws) : RepKV K M' H' kvs ws := r.kp g.k
def NdR (K : PySem.W.Frag) (M : Mem) (H : Hp) (kvs : List (D × D)) (ws : NW) : Prop := ws.map (fun q => some q.1) = kvs.map (fun p => nkO p.1) ∧ RepL K M H (kvs.map (·.1)) (ws.map fun q => V.ref q.2.1) ∧ RepL K M H (kvs.map (·.2)) (ws.map (·.2.2))
theorem NdR.kp {K : PySem.W.Frag} {M M' : Mem} {H H' : Hp} (g : Keep M H M' H') {kvs : List (D × D)} {ws : NW} (r : NdR K M H kvs ws) : NdR K M' H' kvs ws := ⟨r.1, r.2.1.kp g, r.2.2.kp g⟩
theorem NdR.grow {K : PySem.W.Frag} {M M' : Mem} {H H' : Hp} (g : Grow M H M' H') {kvs : List (D × D)} {ws : NW} (r : NdR K M H kvs ws) : NdR K M' H' kvs ws := r.kp g.k
def MoOk (K : PySem.W.Frag) (M : Mem) (H : Hp) (a : Addr) : MO → Prop
  | .lst xs => ∃ vs, H a = some (.lst vs) ∧ RepL K M H xs vs
  | .dk kvs => H a = some (.dK kvs)
  | .dt kvs => H a = some (.dT kvs)
  | .fk kvs => ∃ o, M.f a = some (o, .dK kvs) ∧ H a = some (.frz o (.dK kvs))
  | .dd kvs => ∃ ws, H a = some (.dK ws) ∧ RepKV K M H kvs ws
  | .de kvs => ∃ ws, H a = some (.dT ws) ∧ RepKV K M H kvs ws
  | .fd kvs => ∃ o ws, M.f a = some (o, .dK ws) ∧ H a = some (.frz o (.dK ws)) ∧ RepKV K M H kvs ws
  | .fe kvs => ∃ o ws, M.f a = some (o, .dT ws) ∧ H a = some (.frz o (.dT ws)) ∧ RepKV K M H kvs ws
  | .dn kvs => ∃ ws, H a = some (NdO a ws) ∧ NdR K M H kvs ws
  | .gn kvs => ∃ o ws, M.f a = some (o, NdO a ws) ∧ H a = some (.frz o (NdO a ws)) ∧ OEnt o ws ∧ NdR K M H kvs ws
structure StOk (K : PySem.W.Frag) (M : Mem) (H : Hp) (st : Sto) : Prop where
  len : M.m.length = st.length
  nd : M.m.Nodup
  pd : ∀ a ∈ M.p, a ∉ M.m ∧ ∃ o : List V, H a = some (.lst o)
  at_ : ∀ (n : Nat) (a : Addr) (mo : MO), M.m[n]? = some a → st[n]? = some mo → MoOk K M H a mo
section
variable {K : PySem.W.Frag} {M M' : Mem} {H H' : Hp} {st : Sto}
theorem MoOk.there {a : Addr} {mo : MO} (h : MoOk K M H a mo) : ∃ o, H a = some o := by
  cases mo with
  | lst xs => obtain ⟨vs, e, _⟩ := h; exact ⟨_, e⟩
  | dk kvs => exact ⟨_, h⟩
  | dt kvs => exact ⟨_, h⟩
  | fk kvs => obtain ⟨o, _, e⟩ := h; exact ⟨_, e⟩
  | dd kvs => obtain ⟨ws, e, _⟩ := h; exact ⟨_, e⟩
  | de kvs => obtain ⟨ws, e, _⟩ := h; exact ⟨_, e⟩
  | fd kvs => obtain ⟨o, ws, _, e, _⟩ := h; exact ⟨_, e⟩
  | fe kvs => obtain ⟨o, ws, _, e, _⟩ := h; exact ⟨_, e⟩
  | dn kvs => obtain ⟨ws, e, _⟩ := h; exact ⟨_, e⟩
  | gn kvs => obtain ⟨o, ws, _, e, _⟩ := h; exact ⟨_, e⟩
theorem MoOk.kp {a : Addr} {mo : MO} (q : MoOk K M H a mo) (k : Keep M H M' H') (e : H' a = H a) : MoOk K M' H' a mo := by
  cases mo with
  | lst xs => obtain ⟨vs, h, r⟩ := q; exact ⟨vs, e.trans h, r.kp k⟩
  | dk kvs => exact e.trans q
  | dt kvs => exact e.trans q
  | fk kvs => obtain ⟨o, h1, h2⟩ := q; exact ⟨o, by rw [k.ff]; exact h1, e.trans h2⟩
  | dd kvs => obtain ⟨ws, h, r⟩ := q; exact ⟨ws, e.trans h, r.kp k⟩
  | de kvs => obtain ⟨ws, h, r⟩ := q; exact ⟨ws, e.trans h, r.kp k⟩
  | fd kvs => obtain ⟨o, ws, h1, h2, r⟩ := q; exact ⟨o, ws, by rw [k.ff]; exact h1, e.trans h2, r.kp k⟩
  | fe kvs => obtain ⟨o, ws, h1, h2, r⟩ := q; exact ⟨o, ws, by rw [k.ff]; exact h1, e.trans h2, r.kp k⟩
  | dn kvs => obtain ⟨ws, h, r⟩ := q; exact ⟨ws, e.trans h, r.kp k⟩
  | gn kvs => obtain ⟨o, ws, h1, h2, h3, r⟩ := q; exact ⟨o, ws, by rw [k.ff]; exact h1, e.trans h2, h3, r.kp k⟩
theorem StOk.there (s : StOk K M H st) {a : Addr} (h : a ∈ M.m) : ∃ o, H a = some o := by
  obtain ⟨n, hn, e⟩ := List.mem_iff_getElem.mp h
  have hs : n < st.length := by rw [← s.len]; exact hn
  exact (s.at_ n a st[n] (by rw [List.getElem?_eq_getElem hn, e]) (List.getElem?_eq_getElem hs)).there
theorem StOk.notin (s : StOk K M H st) {a : Addr} (h : H a = none) : M.no a := by
  refine ⟨fun z => ?_, fun z => ?_⟩
  · obtain ⟨o, e⟩ := s.there z
    rw [h] at e; cases e
  · obtain ⟨_, o, e⟩ := s.pd a z
    rw [h] at e; cases e
theorem Grow.laid (s : StOk K M H st) {p : Addr} {o : HO} (h : H p = none) : Grow M H M (upd H p o) :=
  ⟨fun _ _ h => h, fun a u e n => ⟨by rw [upd_ne (ne_of_none e h)]; exact e, n⟩, rfl, fun a ha => by
    obtain ⟨_, u, e⟩ := s.pd a ha
    rw [upd_ne (ne_of_none e h)], rfl⟩
theorem MoOk.upd {a p : Addr} {mo : MO} {o : HO} {M' : Mem} (q : MoOk K M H a mo) (ne : a ≠ p) (g : Grow M H M' (upd H p o)) : MoOk K M' (upd H p o) a mo := by
  cases mo with
  | lst xs =>
    obtain ⟨vs, e, r⟩ := q
    exact ⟨vs, by rw [upd_ne ne]; exact e, r.grow g⟩
  | dk kvs =>
    show L2.upd H p o a = _
    rw [upd_ne ne]; exact q
  | dt kvs =>
    show L2.upd H p o a = _
    rw [upd_ne ne]; exact q
  | fk kvs =>
    obtain ⟨o', e1, e2⟩ := q
    exact ⟨o', by rw [g.ff]; exact e1, by rw [upd_ne ne]; exact e2⟩
  | dd kvs =>
    obtain ⟨ws, e, r⟩ := q
    exact ⟨ws, by rw [upd_ne ne]; exact e, r.grow g⟩
  | de kvs =>
    obtain ⟨ws, e, r⟩ := q
    exact ⟨ws, by rw [upd_ne ne]; exact e, r.grow g⟩
  | fd kvs =>
    obtain ⟨o', ws, e1, e2, r⟩ := q
    exact ⟨o', ws, by rw [g.ff]; exact e1, by rw [upd_ne ne]; exact e2, r.grow g⟩
  | fe kvs =>
    obtain ⟨o', ws, e1, e2, r⟩ := q
    exact ⟨o', ws, by rw [g.ff]; exact e1, by rw [upd_ne ne]; exact e2, r.grow g⟩
  | dn kvs =>
    obtain ⟨ws, e, r⟩ := q
    exact ⟨ws, by rw [upd_ne ne]; exact e, r.grow g⟩
  | gn kvs =>
    obtain ⟨o', ws, e1, e2, e3, r⟩ := q
    exact ⟨o', ws, by rw [g.ff]; exact e1, by rw [upd_ne ne]; exact e2, e3, r.grow g⟩
theorem StOk.laid (s : StOk K M H st) {p : Addr} {o : HO} (h : H p = none) : StOk K M (upd H p o) st := by
  have g : Grow M H M (upd H p o) := Grow.laid s h
  refine ⟨s.len, s.nd, fun a ha => ?_, fun n a mo e1 e2 => ?_⟩
  · obtain ⟨h1, u, e⟩ := s.pd a ha
    exact ⟨h1, u, by rw [upd_ne (ne_of_none e h)]; exact e⟩
  · have q := s.at_ n a mo e1 e2
    obtain ⟨u, e⟩ := q.there
    exact q.upd (ne_of_none e h) g
theorem Grow.push (s : StOk K M H st) {p : Addr} {o : HO} (h : H p = none) : Grow M H (M.push p) (upd H p o) :=
  ⟨fun n a e => by
    show (M.m ++ [p])[n]? = some a
    rw [List.getElem?_append_left (List.getElem?_eq_some_iff.mp e).1]; exact e, fun a u e n => ⟨by rw [upd_ne (ne_of_none e h)]; exact e, by
    refine ⟨fun z => ?_, n.2⟩
    rcases List.mem_append.mp z with z | z
    · exact n.1 z
    · simp at z; subst z; rw [h] at e; cases e⟩, rfl, fun a ha => by
    obtain ⟨_, u, e⟩ := s.pd a ha
    rw [upd_ne (ne_of_none e h)], rfl⟩
theorem StOk.push (s : StOk K M H st) {p : Addr} {o : HO} {mo : MO} (h : H p = none) (r : MoOk K (M.push p) (upd H p o) p mo) : StOk K (M.push p) (upd H p o) (st ++ [mo]) := by
  have g : Grow M H (M.push p) (upd H p o) := Grow.push s h
  refine ⟨by simp [Mem.push, s.len], ?_, fun a ha => ?_, fun n a mo e1 e2 => ?_⟩
  · show (M.m ++ [p]).Nodup
    rw [List.nodup_append]
    exact ⟨s.nd, by simp, fun a ha b hb => by simp at hb; subst hb; rintro rfl; exact (s.notin h).1 ha⟩
  · obtain ⟨h1, u, e⟩ := s.pd a ha
    refine ⟨fun z => ?_, u, by rw [upd_ne (ne_of_none e h)]; exact e⟩
    rcases List.mem_append.mp z with z | z
    · exact h1 z
    · simp at z; subst z; rw [h] at e; cases e
  · have e1 : (M.m ++ [p])[n]? = some a := e1
    by_cases hn : n < M.m.length
    · rw [List.getElem?_append_left hn] at e1
      rw [List.getElem?_append_left (by rw [← s.len]; exact hn)] at e2
      have q := s.at_ n a mo e1 e2
      obtain ⟨u, e⟩ := q.there
      exact q.upd (ne_of_none e h) g
    · have hn' : n = M.m.length := by
        have := (List.getElem?_eq_some_iff.mp e1).1
        simp at this; omega
      subst hn'
      rw [List.getElem?_append_right (Nat.le_refl _)] at e1
      rw [s.len, List.getElem?_append_right (Nat.le_refl _)] at e2
      simp at e1 e2
      subst e1 e2
      exact r
theorem StOk.pushL (s : StOk K M H st) {p : Addr} {xs : List D} {vs : List V} (h : H p = none) (r : RepL K M H xs vs) : StOk K (M.push p) (upd H p (.lst vs)) (st ++ [.lst xs]) :=
  s.push h ⟨vs, upd_same, r.grow (Grow.push s h)⟩
theorem Grow.put (s : StOk K M H st) {p : Addr} {o : HO} {n : Nat} (h : M.m[n]? = some p) : Grow M H M (upd H p o) :=
  ⟨fun _ _ h => h, fun a u e ni => ⟨by
    rw [upd_ne]; exact e
    rintro rfl
    exact ni.1 (List.mem_of_getElem? h), ni⟩, rfl, fun a ha => by
    rw [upd_ne]
    rintro rfl
    exact (s.pd a ha).1 (List.mem_of_getElem? h), rfl⟩
theorem StOk.put (s : StOk K M H st) {p : Addr} {n : Nat} {o : HO} {mo : MO} (h : M.m[n]? = some p) (r : MoOk K M (upd H p o) p mo) : StOk K M (upd H p o) (st.set n mo) := by
  have g : Grow M H M (upd H p o) := Grow.put s h
  have hn := (List.getElem?_eq_some_iff.mp h).1
  refine ⟨by simp [s.len], s.nd, fun a ha => ?_, fun k a mo e1 e2 => ?_⟩
  · obtain ⟨h1, u, e⟩ := s.pd a ha
    exact ⟨h1, u, by rw [g.prot a ha]; exact e⟩
  · by_cases hk : n = k
    · subst hk
      rw [h] at e1; cases e1
      rw [List.getElem?_set_self (by rw [← s.len]; exact hn)] at e2
      cases e2
      exact r
    · rw [List.getElem?_set_ne hk] at e2
      have q := s.at_ k a mo e1 e2
      have ha : a ≠ p := by
        rintro rfl
        have hkl := (List.getElem?_eq_some_iff.mp e1).1
        have e3 : M.m[k] = a := by rw [List.getElem?_eq_getElem hkl] at e1; exact Option.some.inj e1
        have e4 : M.m[n] = a := by rw [List.getElem?_eq_getElem hn] at h; exact Option.some.inj h
        exact hk ((List.getElem_inj s.nd).mp (e4.trans e3.symm))
      exact q.upd ha g
theorem StOk.putL (s : StOk K M H st) {p : Addr} {n : Nat} {xs : List D} {vs : List V} (h : M.m[n]? = some p) (r : RepL K M H xs vs) : StOk K M (upd H p (.lst vs)) (st.set n (.lst xs)) :=
  s.put h ⟨vs, upd_same, r.grow (Grow.put s h)⟩
end
structure EnvOk (K : PySem.W.Frag) (M : Mem) (H : Hp) (env : Env) (σ : L2.St) : Prop where
  len : env.length = σ.length
  at_ : ∀ (i : Nat) (d : D), env[i]? = some (some d) → ∃ v : V, σ[i]? = some (some v) ∧ Rep K M H d v
section
variable {K : PySem.W.Frag} {M M' : Mem} {H H' : Hp} {env : Env} {σ : L2.St}
theorem EnvOk.kp (e : EnvOk K M H env σ) (g : Keep M H M' H') : EnvOk K M' H' env σ :=
  ⟨e.len, fun i d h => let ⟨v, h1, h2⟩ := e.at_ i d h; ⟨v, h1, h2.kp g⟩⟩
theorem EnvOk.grow (e : EnvOk K M H env σ) (g : Grow M H M' H') : EnvOk K M' H' env σ := e.kp g.k
theorem EnvOk.set {d : D} {v : V} (e : EnvOk K M H env σ) (i : Nat) (r : Rep K M H d v) : EnvOk K M H (env.set i (some d)) (σ.set i (some v)) :=
  ⟨by simp [e.len], fun j x h => by
    by_cases hj : i = j
    · subst hj
      have hi : i < env.length := by
        have := (List.getElem?_eq_some_iff.mp h).1
        simpa using this
      rw [List.getElem?_set_self hi] at h
      cases h
      exact ⟨v, List.getElem?_set_self (by rw [← e.len]; exact hi), r⟩
    · rw [List.getElem?_set_ne hj] at h
      obtain ⟨w, h1, h2⟩ := e.at_ j x h
      exact ⟨w, by rw [List.getElem?_set_ne hj]; exact h1, h2⟩⟩
theorem EnvOk.none (e : EnvOk K M H env σ) (i : Nat) : EnvOk K M H (env.set i none) (σ.set i none) :=
  ⟨by simp [e.len], fun j x h => by
    by_cases hj : i = j
    · subst hj
      have hi : i < env.length := by
        have := (List.getElem?_eq_some_iff.mp h).1
        simpa using this
      rw [List.getElem?_set_self hi] at h
      cases h
    · rw [List.getElem?_set_ne hj] at h
      obtain ⟨w, h1, h2⟩ := e.at_ j x h
      exact ⟨w, by rw [List.getElem?_set_ne hj]; exact h1, h2⟩⟩
def wipeE (env : Env) : List Nat → Env
  | [] => env
  | v :: vs => (wipeE env vs).set v none
theorem EnvOk.wipe (e : EnvOk K M H env σ) : ∀ (vs : List Nat), EnvOk K M H (wipeE env vs) (L2.wipe σ vs)
  | [] => e
  | v :: vs => (EnvOk.wipe e vs).none v
end
end G
namespace G
open PySem PySem.Spec PyProof.Rows L2
structure Ex where
  cls : Str
  f : Str
  d : D
inductive R (α : Type) where
  | ok (a : α) (st : Sto) | exc (e : Ex) (st : Sto) | fail
def R.bind {α β : Type} (r : R α) (g : α → Sto → R β) : R β := match r with
  | .ok a st => g a st
  | .exc e st => .exc e st
  | .fail => .fail
@[simp] theorem R.bind_ok {α β : Type} (a : α) (st : Sto) (g : α → Sto → R β) : (R.ok a st).bind g = g a st := rfl
@[simp] theorem R.bind_exc {α β : Type} (e : Ex) (st : Sto) (g : α → Sto → R β) : (R.exc e st : R α).bind g = .exc e st := rfl
@[simp] theorem R.bind_fail {α β : Type} (g : α → Sto → R β) : (R.fail : R α).bind g = .fail := rfl
def RepX (K : PySem.W.Frag) (M : Mem) (H : Hp) (e : Ex) (c : Value) (od : Option Addr) : Prop :=
  PySem.W.nsIn K mainGlobals e.cls = some (some c) ∧ ((e.f = "" ∧ od = none) ∨ (e.f ≠ "" ∧ ∃ dd w, od = some dd ∧ H dd = some (.xd [(e.f, w)]) ∧ M.no dd ∧ Rep K M H e.d w))
theorem RepX.grow {K : PySem.W.Frag} {M : Mem} {H : Hp} {M' : Mem} {H' : Hp} {e : Ex} {c : Value} {od : Option Addr} (g : Grow M H M' H') (h : RepX K M H e c od) : RepX K M' H' e c od := by
  obtain ⟨h2, h3⟩ := h
  refine ⟨h2, h3.imp id ?_⟩
  rintro ⟨h4, dd, w, h5, h6, h7, h8⟩
  exact ⟨h4, dd, w, h5, (g.keep _ _ h6 h7).1, (g.keep _ _ h6 h7).2, h8.grow g⟩
abbrev RR (α β : Type) := Mem → Hp → α → β → Prop
section
variable {α β γ δ : Type}
def Post (K : PySem.W.Frag) (rep : RR α β) (M : Mem) (H : Hp) (Q : β → Hp → Prop) (E : XK) : R α → Prop
  | .ok a st => ∀ M' H' b, Grow M H M' H' → StOk K M' H' st → rep M' H' a b → Q b H'
  | .exc e st => ∀ M' H' c od, Grow M H M' H' → StOk K M' H' st → RepX K M' H' e c od → E c od H'
  | .fail => False
theorem Post.mono {K : PySem.W.Frag} {rep : RR α β} {M M1 : Mem} {H H1 : Hp} {Q : β → Hp → Prop} {E : XK} {r : R α} (g : Grow M H M1 H1) (p : Post K rep M H Q E r) : Post K rep M1 H1 Q E r := by
  cases r with
  | ok a st => exact fun M' H' b g' => p M' H' b (g.trans g')
  | exc e st => exact fun M' H' c od g' => p M' H' c od (g.trans g')
  | fail => exact p
theorem Post.bind {K : PySem.W.Frag} {rep : RR α β} {rep' : RR γ δ} {M : Mem} {H : Hp} {Q : δ → Hp → Prop} {E : XK} {r : R α} {g : α → Sto → R γ} (p : Post K rep' M H Q E (r.bind g)) :
    Post K rep M H (fun b H1 => ∃ M1 st1 a, Grow M H M1 H1 ∧ StOk K M1 H1 st1 ∧ rep M1 H1 a b ∧ Post K rep' M1 H1 Q E (g a st1)) E r := by
  cases r with
  | ok a st => exact fun M' H' b g' so h => ⟨M', st, a, g', so, h, Post.mono g' p⟩
  | exc e st => exact p
  | fail => exact p
end
theorem Post.imp {α β : Type} {K : PySem.W.Frag} {rep : RR α β} {M : Mem} {H : Hp} {Q Q' : β → Hp → Prop} {E : XK} {r : R α} (p : Post K rep M H Q E r) (i : ∀ b H', Q b H' → Q' b H') : Post K rep M H Q' E r := by
  cases r with
  | ok a st => exact fun M' H' b g so h => i _ _ (p M' H' b g so h)
  | exc e st => exact p
  | fail => exact p
def rd {α β : Type} (K : PySem.W.Frag) (rep : RR α β) (W : WX) (f : Env → Sto → R α) : L2.St → Hp → (β → Hp → Prop) → Prop := fun σ H Q =>
  ∃ env M st, EnvOk K M H env σ ∧ StOk K M H st ∧ Post K rep M H Q (WE W σ) (f env st)
abbrev EvE := Env → Sto → R D
abbrev EvB := Env → Sto → R Bool
abbrev EvA := Env → Sto → R (List D)
abbrev rdE (K : PySem.W.Frag) (W : WX) (f : EvE) : TE := rd K (Rep K) W f
abbrev rdB (K : PySem.W.Frag) (W : WX) (f : EvB) : TT := rd K (fun _ _ a b => a = b) W f
abbrev rdA (K : PySem.W.Frag) (W : WX) (f : EvA) : TA := rd K (RepL K) W f
section
variable {X : Cx}
theorem _root_.L2.PE.imp {e : Expr} {t t' : TE} (h : PE X e t) (i : ∀ σ H Q, t' σ H Q → t σ H Q) : PE X e t' := ⟨fun pins s σ H Q I q => h.run pins s σ H Q I (i σ H Q q)⟩
theorem _root_.L2.PT.imp {e : Expr} {t t' : TT} (h : PT X e t) (i : ∀ σ H Q, t' σ H Q → t σ H Q) : PT X e t' := ⟨fun pins s σ H Q I q => h.run pins s σ H Q I (i σ H Q q)⟩
theorem _root_.L2.PA.imp {e : List Expr} {t t' : TA} (h : PA X e t) (i : ∀ σ H Q, t' σ H Q → t σ H Q) : PA X e t' := ⟨fun pos pins s σ H Q I q => h.run pos pins s σ H Q I (i σ H Q q)⟩
theorem _root_.L2.PS.imp {e : Stmt} {t t' : TS} (h : PS X e t) (i : ∀ D σ H, t' D σ H → t D σ H) : PS X e t' := ⟨fun pins s σ H D I q => h.run pins s σ H D I (i D σ H q)⟩
theorem _root_.L2.PSs.imp {e : List Stmt} {t t' : TS} (h : PSs X e t) (i : ∀ D σ H, t' D σ H → t D σ H) : PSs X e t' := ⟨fun pins s σ H D I q => h.run pins s σ H D I (i D σ H q)⟩
end
def varE (i : Nat) : EvE := fun env st => match env[i]? with
  | some (some d) => .ok d st
  | _ => .fail
def cE (d : D) : EvE := fun _ st => .ok d st
section
variable {X : Cx} {W : WX}
theorem g_var (i : Nat) {x : Str} {pos : Pos} (h : PE X (.Name x pos) (tVar i)) : PE X (.Name x pos) (rdE X.K W (varE i)) := h.imp fun σ H Q ⟨env, M, st, eo, so, p⟩ => by
  unfold varE at p
  split at p
  · rename_i d e
    obtain ⟨v, e1, r⟩ := eo.at_ i d e
    exact ⟨v, e1, p M H v .refl so r⟩
  · exact p.elim
theorem g_c {e : Expr} {d : D} {v : V} (h : PE X e (tC v)) (r : ∀ M H, Rep X.K M H d v) : PE X e (rdE X.K W (cE d)) := h.imp fun σ H Q ⟨env, M, st, eo, so, p⟩ => p M H v .refl so (r M H)
theorem rep_non {K : PySem.W.Frag} : ∀ (M : Mem) (H : Hp), Rep K M H .non .non := fun _ _ => by unfold Rep; rfl
theorem rep_bl {K : PySem.W.Frag} (b : Bool) : ∀ (M : Mem) (H : Hp), Rep K M H (.bl b) (.bl b) := fun _ _ => by unfold Rep; rfl
theorem rep_int {K : PySem.W.Frag} (b : Int) : ∀ (M : Mem) (H : Hp), Rep K M H (.int b) (.int b) := fun _ _ => by unfold Rep; rfl
theorem rep_str {K : PySem.W.Frag} (b : Str) : ∀ (M : Mem) (H : Hp), Rep K M H (.str b) (.str b) := fun _ _ => by unfold Rep; rfl
theorem g_int {i : Int} {j pos} : PE X (.Constant (.int i) j pos) (rdE X.K W (cE (.int i))) := g_c pe_int (rep_int i)
theorem g_bl {i : Bool} {j pos} : PE X (.Constant (.bool i) j pos) (rdE X.K W (cE (.bl i))) := g_c pe_bl (rep_bl i)
theorem g_non {j pos} : PE X (.Constant .none j pos) (rdE X.K W (cE .non)) := g_c pe_non rep_non
end
abbrev F1 := D → Sto → R D
abbrev F2 := D → D → Sto → R D
def unE (f : F1) (fa : EvE) : EvE := fun env st => (fa env st).bind fun a st1 => f a st1
def binE (f : F2) (fa fb : EvE) : EvE := fun env st => (fa env st).bind fun a st1 => (fb env st1).bind fun b st2 => f a b st2
def OpV (K : PySem.W.Frag) (r : R2) (f : F2) : Prop := ∀ (a b : D) (x y : V) (M : Mem) (H : Hp) (st : Sto) (Q : VK) (E : XK), Rep K M H a x → Rep K M H b y → StOk K M H st → Post K (Rep K) M H Q E (f a b st) → r x y H Q
section
variable {X : Cx} {W : WX} {a b c : Expr} {fa fb fc : EvE} {pos : Pos}
theorem rd_bin {r : R2} {f : F2} (hv : OpV X.K r f) : ∀ σ H Q, rdE X.K W (binE f fa fb) σ H Q → tOp r (rdE X.K W fa) (rdE X.K W fb) σ H Q :=
  fun σ H Q ⟨env, M, st, eo, so, p⟩ => ⟨env, M, st, eo, so, Post.imp (Post.bind p) fun x H1 ⟨M1, st1, a, g, so1, ra, p1⟩ =>
    ⟨env, M1, st1, eo.grow g, so1, Post.imp (Post.bind p1) fun y H2 ⟨M2, st2, b, g2, so2, rb, p2⟩ => hv a b x y M2 H2 st2 Q _ (ra.grow g2) rb so2 p2⟩⟩
theorem g_op {op : Operator} {r : R2} {f : F2} (ho : OpR X (binaryOp op) r) (hv : OpV X.K r f) (ha : PE X a (rdE X.K W fa)) (hb : PE X b (rdE X.K W fb)) : PE X (.BinOp a op b pos) (rdE X.K W (binE f fa fb)) :=
  (pe_op ho ha hb).imp (rd_bin hv)
theorem g_cmp {op : CmpOp} {r : R2} {f : F2} (ho : OpR X (compareOp op) r) (hv : OpV X.K r f) (ha : PE X a (rdE X.K W fa)) (hb : PE X b (rdE X.K W fb)) (hm : behindInMarks op b = false) : PE X (.Compare a [op] [b] pos) (rdE X.K W (binE f fa fb)) :=
  (pe_cmpR ho ha hb hm).imp (rd_bin hv)
def boolR : D → Sto → R Bool
  | .bl b, st => .ok b st
  | _, _ => .fail
def tstE (fa : EvE) : EvB := fun env st => (fa env st).bind boolR
theorem rd_tst : ∀ σ H Q, rdB X.K W (tstE fa) σ H Q → rdE X.K W fa σ H (fun x H' => ∃ k, x = .bl k ∧ Q k H') :=
  fun σ H Q ⟨env, M, st, eo, so, p⟩ => ⟨env, M, st, eo, so, Post.imp (Post.bind p) fun x H1 ⟨M1, st1, a, g, so1, ra, p1⟩ => by
    unfold boolR at p1
    cases a with
    | bl k =>
      unfold Rep at ra
      exact ⟨k, ra, p1 M1 H1 k .refl so1 rfl⟩
    | _ => exact p1.elim⟩
theorem g_tcmp {op : CmpOp} {r : R2} {f : F2} (ho : OpR X (compareOp op) r) (hv : OpV X.K r f) (ha : PE X a (rdE X.K W fa)) (hb : PE X b (rdE X.K W fb)) (hm : behindInMarks op b = false) : PT X (.Compare a [op] [b] pos) (rdB X.K W (tstE (binE f fa fb))) :=
  (pt_cmpR ho ha hb hm).imp fun σ H Q h => rd_bin hv _ _ _ (rd_tst _ _ _ h)
theorem g_tval {e : Expr} (h : PE X e (rdE X.K W fa)) (he : ∀ whole, isTrue e X.env whole = (do let v ← whole; standAt e.pos; holding [v] (truthy v))) : PT X e (rdB X.K W (tstE fa)) :=
  (pt_val h he).imp fun σ H Q q => rd_tst _ _ _ q
def chainE (f f' : F2) (fa fb fc : EvE) : EvE := fun env st => (fa env st).bind fun a st1 => (fb env st1).bind fun b st2 => (f a b st2).bind fun z st3 => match z with
  | .bl true => (fc env st3).bind fun c st4 => f' b c st4
  | .bl false => .ok (.bl false) st3
  | _ => .fail
end
def andB (p q : EvB) : EvB := fun env st => (p env st).bind fun b st1 => if b = true then q env st1 else .ok false st1
def orB (p q : EvB) : EvB := fun env st => (p env st).bind fun b st1 => if b = true then .ok true st1 else q env st1
def notB (p : EvB) : EvB := fun env st => (p env st).bind fun b st1 => .ok (!b) st1
def ifE (t : EvB) (fa fb : EvE) : EvE := fun env st => (t env st).bind fun b st1 => if b = true then fa env st1 else fb env st1
def andE (fa fb : EvE) : EvE := fun env st => (fa env st).bind fun a st1 => match a with
  | .bl true => fb env st1
  | .bl false => .ok (.bl false) st1
  | _ => .fail
def notE (fa : EvE) : EvE := fun env st => (fa env st).bind fun a st1 => match a with
  | .bl b => .ok (.bl (!b)) st1
  | _ => .fail
section
variable {X : Cx} {W : WX} {a b : Expr} {rest : List Expr} {fa fb : EvE} {p q : EvB} {pos : Pos}
theorem g_and1 (ha : PT X a (rdB X.K W p)) : PW X (.BoolOp .And [a] pos) (rdB X.K W p) := pw_and1 ha
theorem g_or1 (ha : PT X a (rdB X.K W p)) : PW X (.BoolOp .Or [a] pos) (rdB X.K W p) := pw_or1 ha
theorem _root_.L2.PW.imp {e : Expr} {t t' : TT} (h : PW X e t) (i : ∀ σ H Q, t' σ H Q → t σ H Q) : PW X e t' := ⟨fun w pins s σ H Q I q => h.run w pins s σ H Q I (i σ H Q q)⟩
theorem g_and (ha : PT X a (rdB X.K W p)) (hb : PW X (.BoolOp .And (b :: rest) pos) (rdB X.K W q)) : PW X (.BoolOp .And (a :: b :: rest) pos) (rdB X.K W (andB p q)) :=
  PW.imp (pw_and ha hb) fun σ H Q ⟨env, M, st, eo, so, po⟩ => ⟨env, M, st, eo, so, Post.imp (Post.bind (rep := fun _ _ a b => a = b) po) fun x H1 ⟨M1, st1, a, g, so1, ra, p1⟩ => by
    subst ra
    cases a with
    | true => exact ⟨env, M1, st1, eo.grow g, so1, p1⟩
    | false => exact p1 M1 H1 false .refl so1 rfl⟩
theorem g_or (ha : PT X a (rdB X.K W p)) (hb : PW X (.BoolOp .Or (b :: rest) pos) (rdB X.K W q)) : PW X (.BoolOp .Or (a :: b :: rest) pos) (rdB X.K W (orB p q)) :=
  PW.imp (pw_or ha hb) fun σ H Q ⟨env, M, st, eo, so, po⟩ => ⟨env, M, st, eo, so, Post.imp (Post.bind (rep := fun _ _ a b => a = b) po) fun x H1 ⟨M1, st1, a, g, so1, ra, p1⟩ => by
    subst ra
    cases a with
    | false => exact ⟨env, M1, st1, eo.grow g, so1, p1⟩
    | true => exact p1 M1 H1 true .refl so1 rfl⟩
theorem g_tnot (ha : PT X a (rdB X.K W p)) : PT X (.UnaryOp .Not a pos) (rdB X.K W (notB p)) :=
  (pt_not ha).imp fun σ H Q ⟨env, M, st, eo, so, po⟩ => ⟨env, M, st, eo, so, Post.imp (Post.bind (rep := fun _ _ a b => a = b) po) fun x H1 ⟨M1, st1, a, g, so1, ra, p1⟩ => by
    subst ra
    exact p1 M1 H1 _ .refl so1 rfl⟩
theorem g_if {t : Expr} (ht : PT X t (rdB X.K W p)) (ha : PE X a (rdE X.K W fa)) (hb : PE X b (rdE X.K W fb)) : PE X (.IfExp t a b pos) (rdE X.K W (ifE p fa fb)) :=
  (pe_ifExp ht ha hb).imp fun σ H Q ⟨env, M, st, eo, so, po⟩ => ⟨env, M, st, eo, so, Post.imp (Post.bind (rep := fun _ _ a b => a = b) po) fun x H1 ⟨M1, st1, a, g, so1, ra, p1⟩ => by
    subst ra
    cases a with
    | true => exact ⟨env, M1, st1, eo.grow g, so1, p1⟩
    | false => exact ⟨env, M1, st1, eo.grow g, so1, p1⟩⟩
theorem g_one {op : BoolOp} (h : PE X a (rdE X.K W fa)) : PE X (.BoolOp op [a] pos) (rdE X.K W fa) := pe_one h
theorem g_vand (ha : PE X a (rdE X.K W fa)) (hb : PE X (.BoolOp .And (b :: rest) pos) (rdE X.K W fb)) : PE X (.BoolOp .And (a :: b :: rest) pos) (rdE X.K W (andE fa fb)) :=
  (pe_and ha hb).imp fun σ H Q ⟨env, M, st, eo, so, po⟩ => ⟨env, M, st, eo, so, Post.imp (Post.bind (rep := Rep X.K) po) fun x H1 ⟨M1, st1, a, g, so1, ra, p1⟩ => by
    cases a with
    | bl k =>
      unfold Rep at ra
      subst ra
      cases k with
      | true => exact ⟨true, rfl, env, M1, st1, eo.grow g, so1, p1⟩
      | false => exact ⟨false, rfl, p1 M1 H1 _ .refl so1 (rep_bl _ _ _)⟩
    | _ => exact p1.elim⟩
theorem g_vnot (ha : PE X a (rdE X.K W fa)) : PE X (.UnaryOp .Not a pos) (rdE X.K W (notE fa)) :=
  (pe_not ha).imp fun σ H Q ⟨env, M, st, eo, so, po⟩ => ⟨env, M, st, eo, so, Post.imp (Post.bind (rep := Rep X.K) po) fun x H1 ⟨M1, st1, a, g, so1, ra, p1⟩ => by
    cases a with
    | bl k =>
      unfold Rep at ra
      subst ra
      exact ⟨k, rfl, p1 M1 H1 _ .refl so1 (rep_bl _ _ _)⟩
    | _ => exact p1.elim⟩
theorem g_chain {op op' : CmpOp} {r r' : R2} {f f' : F2} {c : Expr} {fc : EvE} (h0 : PE X (.Compare a [op, op'] [b, c] pos) (tChain r r' (rdE X.K W fa) (rdE X.K W fb) (rdE X.K W fc))) (hv : OpV X.K r f) (hv' : OpV X.K r' f') :
    PE X (.Compare a [op, op'] [b, c] pos) (rdE X.K W (chainE f f' fa fb fc)) :=
  h0.imp fun σ H Q ⟨env, M, st, eo, so, p⟩ => ⟨env, M, st, eo, so, Post.imp (Post.bind p) fun x H1 ⟨M1, st1, a, g, so1, ra, p1⟩ =>
    ⟨env, M1, st1, eo.grow g, so1, Post.imp (Post.bind p1) fun y H2 ⟨M2, st2, b, g2, so2, rb, p2⟩ => hv a b x y M2 H2 st2 _ _ (ra.grow g2) rb so2 (Post.imp (Post.bind (rep := Rep X.K) p2) fun z H3 ⟨M3, st3, zd, g3, so3, rz, p3⟩ => by
      cases zd with
      | bl k =>
        unfold Rep at rz
        subst rz
        cases k with
        | true => exact ⟨true, rfl, iteT ⟨env, M3, st3, (eo.grow g).grow (g2.trans g3), so3, Post.imp (Post.bind p3) fun w H4 ⟨M4, st4, cd, g4, so4, rc, p4⟩ => hv' b cd y w M4 H4 st4 _ _ (rb.grow (g3.trans g4)) rc so4 p4⟩⟩
        | false => exact ⟨false, rfl, iteF (p3 M3 H3 _ .refl so3 (rep_bl _ _ _))⟩
      | _ => exact p3.elim)⟩⟩
end
def nilA : EvA := fun _ st => .ok [] st
def consA (fa : EvE) (fr : EvA) : EvA := fun env st => (fa env st).bind fun a st1 => (fr env st1).bind fun as st2 => .ok (a :: as) st2
def itemsOf : D → Option (List D)
  | .tup xs => some xs
  | .lst xs => some xs
  | .slo xs => some xs
  | _ => none
def starA (fa : EvE) (fr : EvA) : EvA := fun env st => (fa env st).bind fun a st1 => match itemsOf a with
  | some xs => (fr env st1).bind fun as st2 => .ok (xs ++ as) st2
  | none => .fail
def tupE (fs : EvA) : EvE := fun env st => (fs env st).bind fun xs st1 => if xs.length ≤ 16777216 then .ok (.tup xs) st1 else .fail
def lstE (fs : EvA) : EvE := fun env st => (fs env st).bind fun xs st1 => if xs.length ≤ 16777216 then .ok (.lst xs) st1 else .fail
def mutE (fs : EvA) : EvE := fun env st => (fs env st).bind fun xs st1 => if xs.length ≤ 16777216 then .ok (.mut st1.length) (st1 ++ [.lst xs]) else .fail
section
variable {X : Cx} {W : WX} {e : Expr} {es : List Expr} {fa : EvE} {fs : EvA} {pos p : Pos}
theorem g_nil : PA X [] (rdA X.K W nilA) := pa_nil.imp fun σ H Q ⟨env, M, st, eo, so, p⟩ => p M H [] .refl so .nil
theorem g_cons (ha : PE X e (rdE X.K W fa)) (hr : PA X es (rdA X.K W fs)) (hs : starEach (e :: es) X.env = (false, eval e X.env) :: starEach es X.env) : PA X (e :: es) (rdA X.K W (consA fa fs)) :=
  (pa_cons ha hr hs).imp fun σ H Q ⟨env, M, st, eo, so, p⟩ => ⟨env, M, st, eo, so, Post.imp (Post.bind p) fun x H1 ⟨M1, st1, a, g, so1, ra, p1⟩ =>
    ⟨env, M1, st1, eo.grow g, so1, Post.imp (Post.bind (rep := RepL X.K) p1) fun y H2 ⟨M2, st2, b, g2, so2, rb, p2⟩ => p2 M2 H2 _ .refl so2 (.cons (ra.grow g2) rb)⟩⟩
theorem itemsOf_rep {K : PySem.W.Frag} {M : Mem} {H : Hp} {a : D} {xs : List D} {v : V} (h : itemsOf a = some xs) (r : Rep K M H a v) : ∃ t vs, v = .ref t ∧ (SqT K H t vs ∨ SqL K H t vs) ∧ RepL K M H xs vs := by
  cases a with
  | tup ys => cases h; unfold Rep at r; obtain ⟨t, vs, e, f, q⟩ := r; exact ⟨t, vs, e, .inl f.sq, q⟩
  | lst ys => cases h; unfold Rep at r; obtain ⟨t, vs, e, f, q⟩ := r; exact ⟨t, vs, e, .inr f.sq, q⟩
  | slo ys => cases h; unfold Rep at r; obtain ⟨t, vs, e, f, q⟩ := r; exact ⟨t, vs, e, .inr f.sq, q⟩
  | _ => cases h
theorem g_star (ha : PE X e (rdE X.K W fa)) (hr : PA X es (rdA X.K W fs)) (hs : starEach (.Starred e p :: es) X.env = (true, eval e X.env) :: starEach es X.env) : PA X (.Starred e p :: es) (rdA X.K W (starA fa fs)) :=
  (StX.pa_star ha hr hs).imp fun σ H Q ⟨env, M, st, eo, so, p⟩ => ⟨env, M, st, eo, so, Post.imp (Post.bind p) fun x H1 ⟨M1, st1, a, g, so1, ra, p1⟩ => by
    cases h : itemsOf a with
    | none => rw [h] at p1; exact p1.elim
    | some xs =>
      rw [h] at p1
      obtain ⟨t, vs, rfl, sq, q⟩ := itemsOf_rep h ra
      exact ⟨t, vs, rfl, sq, env, M1, st1, eo.grow g, so1, Post.imp (Post.bind (rep := RepL X.K) p1) fun y H2 ⟨M2, st2, b, g2, so2, rb, p2⟩ => p2 M2 H2 _ .refl so2 ((q.grow g2).append rb)⟩⟩
theorem size_le {n : Nat} (h : n ≤ 16777216) : n ≤ sizeLine := by rw [sizeLine_eq]; exact h
theorem rep_tup {K : PySem.W.Frag} {M : Mem} {H : Hp} {st : Sto} {xs : List D} {vs : List V} {p : Addr} (so : StOk K M H st) (r : RepL K M H xs vs) (hp : H p = none) : Rep K M (upd H p (.tup vs)) (.tup xs) (.ref p) := by
  unfold Rep
  exact ⟨p, vs, rfl, ⟨upd_same, so.notin hp⟩, r.grow (.laid so hp)⟩
theorem rep_lst {K : PySem.W.Frag} {M : Mem} {H : Hp} {st : Sto} {xs : List D} {vs : List V} {p : Addr} (so : StOk K M H st) (r : RepL K M H xs vs) (hp : H p = none) : Rep K M (upd H p (.lst vs)) (.lst xs) (.ref p) := by
  unfold Rep
  exact ⟨p, vs, rfl, ⟨upd_same, so.notin hp⟩, r.grow (.laid so hp)⟩
theorem rep_mut {K : PySem.W.Frag} {M : Mem} {H : Hp} {st : Sto} {p : Addr} (so : StOk K M H st) {H' : Hp} : Rep K (M.push p) H' (.mut st.length) (.ref p) := by
  unfold Rep
  refine ⟨p, rfl, ?_⟩
  show (M.m ++ [p])[st.length]? = some p
  rw [← so.len, List.getElem?_append_right (Nat.le_refl _)]; simp
theorem g_tup {x1} (h : PA X es (rdA X.K W fs)) : PE X (.Tuple es x1 pos) (rdE X.K W (tupE fs)) :=
  (pe_tup h).imp fun σ H Q ⟨env, M, st, eo, so, p⟩ => ⟨env, M, st, eo, so, Post.imp (Post.bind p) fun vs H1 ⟨M1, st1, xs, g, so1, ra, p1⟩ => by
    by_cases hz : xs.length ≤ 16777216
    · rw [if_pos hz] at p1
      exact ⟨by rw [← ra.length]; exact size_le hz, fun a ha => p1 _ _ _ (.laid so1 ha) (so1.laid ha) (rep_tup so1 ra ha)⟩
    · rw [if_neg hz] at p1; exact p1.elim⟩
theorem g_lst (h : PA X es (rdA X.K W fs)) : PE X (.List es pos) (rdE X.K W (lstE fs)) :=
  (pe_lst h).imp fun σ H Q ⟨env, M, st, eo, so, p⟩ => ⟨env, M, st, eo, so, Post.imp (Post.bind p) fun vs H1 ⟨M1, st1, xs, g, so1, ra, p1⟩ => by
    by_cases hz : xs.length ≤ 16777216
    · rw [if_pos hz] at p1
      exact ⟨by rw [← ra.length]; exact size_le hz, fun a ha => p1 _ _ _ (.laid so1 ha) (so1.laid ha) (rep_lst so1 ra ha)⟩
    · rw [if_neg hz] at p1; exact p1.elim⟩
theorem g_mut (h : PA X es (rdA X.K W fs)) : PE X (.List es pos) (rdE X.K W (mutE fs)) :=
  (pe_lst h).imp fun σ H Q ⟨env, M, st, eo, so, p⟩ => ⟨env, M, st, eo, so, Post.imp (Post.bind p) fun vs H1 ⟨M1, st1, xs, g, so1, ra, p1⟩ => by
    by_cases hz : xs.length ≤ 16777216
    · rw [if_pos hz] at p1
      exact ⟨by rw [← ra.length]; exact size_le hz, fun a ha => p1 _ _ _ (.push so1 ha) (so1.pushL ha ra) (rep_mut so1)⟩
    · rw [if_neg hz] at p1; exact p1.elim⟩
abbrev FA := List D → Sto → R D
def callE (f : FA) (fs : EvA) : EvE := fun env st => (fs env st).bind f
def CallV (K : PySem.W.Frag) (r : List V → Hp → VK → Prop) (f : FA) : Prop := ∀ (as : List D) (xs : List V) (M : Mem) (H : Hp) (st : Sto) (Q : VK) (E : XK), RepL K M H as xs → StOk K M H st → Post K (Rep K) M H Q E (f as st) → r xs H Q
theorem rd_call {r : List V → Hp → VK → Prop} {f : FA} (hv : CallV X.K r f) : ∀ σ H Q, rdE X.K W (callE f fs) σ H Q → tCB r (rdA X.K W fs) σ H Q :=
  fun σ H Q ⟨env, M, st, eo, so, p⟩ => ⟨env, M, st, eo, so, Post.imp (Post.bind p) fun x H1 ⟨M1, st1, a, g, so1, ra, p1⟩ => hv a x M1 H1 st1 Q _ ra so1 p1⟩
end
end G
namespace G
open PySem PySem.Spec PySem.W L2 PyProof.Rows
section
variable {prog : Program} {w : World} {A : Around} {E : Value → Shared → Prop} {s : Shared} {l : Addr} {its : List Value} {ns : List Int} {Q : Value → Shared → Prop}
theorem iter_tupR {items : Array Value} (hl : s.heap.IsTuple l items)
    (h : ∀ s₂ : Shared, s₂ = { s with heap := s.heap.push { cls := .type "tuple_iterator", data := .fields #[.ref l, .int 0 0] } } →
      (s₂.heap.IsTupleIter s.heap.objs.size l 0 ∧ s₂.heap.IsTuple l items) → l ≠ s.heap.objs.size → (∀ b ∈ [s.heap.objs.size, l], b < s₂.heap.objs.size) → Q (.ref s.heap.objs.size) s₂) : wpAny (model prog w) A (pyIter (.ref l)) Q E s := by
  have hlt : l < s.heap.objs.size := by obtain ⟨_, e, _⟩ := hl; exact Heap.lt_size e
  refine wpAny_pyIter_tuple hl (h _ rfl ⟨⟨_, Heap.get?_push_size _ rfl, rfl, rfl⟩, hl.at fun o e => Heap.get?_push_of_some _ e⟩ (Nat.ne_of_lt hlt) fun b hb => ?_)
  show b < (s.heap.push _).objs.size
  rw [Heap.size_push]
  rcases List.mem_cons.mp hb with rfl | hb
  · exact Nat.lt_succ_self _
  · rcases List.mem_cons.mp hb with rfl | hb
    · exact Nat.lt_succ_of_lt hlt
    · cases hb
theorem sum_rawT (hh : A.handled = none) (hl : s.heap.IsTuple l its.toArray) (hi : IntsAre its ns)
    (h : ∀ h' tk t', (∀ b o, s.heap.get? b = some o → h'.get? b = some o) → Q (.int ns.sum t') { s with heap := h', toks := tk }) : wpAny (model prog w) A (call (.builtin "sum") [.ref l]) Q E s := by
  obtain ⟨xs, e⟩ := hi.allInts.items
  have hn : numsOf (intItems xs).toList = ns := by rw [← e]; exact hi.numsOf
  rw [nums_intItems] at hn
  rw [e] at hl
  refine PySem.W.ktm_sumG hh hl fun h' tk t' hk => ?_
  have := h h' tk t' hk
  rw [preSum_eq, List.take_of_length_le (by simp), hn]; exact this
theorem old_of {s₂ : Shared} {o : Obj} {h' : Heap} (e : s₂ = { s with heap := s.heap.push o }) (hk : ∀ b o, b ∉ [s.heap.objs.size] → s₂.heap.get? b = some o → h'.get? b = some o) : ∀ b o, s.heap.get? b = some o → h'.get? b = some o := by
  intro b ob eb
  subst e
  exact hk b ob (fun hmem => absurd (Heap.lt_size eb) ((List.mem_singleton.mp hmem) ▸ Nat.lt_irrefl _)) (Heap.get?_push_of_some _ eb)
theorem max_rawT (hh : A.handled = none) (hl : s.heap.IsTuple l its.toArray) (hi : IntsAre its ns) (hne : 0 < ns.length)
    (h : ∀ h' tk M t', (∀ b o, s.heap.get? b = some o → h'.get? b = some o) → M ∈ ns → (∀ a, a ∈ ns → a ≤ M) → Q (.int M t') { s with heap := h', toks := tk }) : wpAny (model prog w) A (call (.builtin "max") [.ref l]) Q E s := by
  obtain ⟨xs, e⟩ := hi.allInts.items
  have hn : numsOf (intItems xs).toList = ns := by rw [← e]; exact hi.numsOf
  rw [nums_intItems] at hn
  subst hn
  rw [e] at hl
  have hsz : 0 < xs.size := by simpa using hne
  refine call_max_walk (iter_tupR hl fun s₂ e2 st hlI hfp => ?_)
  subst e2
  refine ⟨_, _, _, _, _, _, _, rfl, Walks.tuple (A := A.in1) hh _ l hlI (intItems xs), st, hfp, by simpa [intItems] using hsz, CmpOf.ints_gt (numAt xs) (fun _ _ => intItems_at), fun v h' tk hP hk => ?_⟩
  have hv : (intItems xs)[argBest (fun i j => decide (numAt xs i > numAt xs j)) (xs.size - 1)]? = some v := by simpa [intItems] using hP
  obtain ⟨t, rfl⟩ := intItems_at hv
  obtain ⟨h1, h2⟩ := argBest_gt (numAt xs) (xs.size - 1)
  refine h h' tk _ t (old_of rfl hk) ?_ fun a ha => ?_
  · rw [numAt_eq]; exact PySem.getD_mem (by rw [List.length_map, Array.length_toList]; omega)
  · obtain ⟨j, hj, rfl⟩ := mem_getD ha
    rw [List.length_map, Array.length_toList] at hj
    rw [← numAt_eq]; exact h2 j (by omega)
theorem min_rawT (hh : A.handled = none) (hl : s.heap.IsTuple l its.toArray) (hi : IntsAre its ns) (hne : 0 < ns.length)
    (h : ∀ h' tk M t', (∀ b o, s.heap.get? b = some o → h'.get? b = some o) → M ∈ ns → (∀ a, a ∈ ns → M ≤ a) → Q (.int M t') { s with heap := h', toks := tk }) : wpAny (model prog w) A (call (.builtin "min") [.ref l]) Q E s := by
  obtain ⟨xs, e⟩ := hi.allInts.items
  have hn : numsOf (intItems xs).toList = ns := by rw [← e]; exact hi.numsOf
  rw [nums_intItems] at hn
  subst hn
  rw [e] at hl
  have hsz : 0 < xs.size := by simpa using hne
  refine call_min_walk (iter_tupR hl fun s₂ e2 st hlI hfp => ?_)
  subst e2
  refine ⟨_, _, _, _, _, _, _, rfl, Walks.tuple (A := A.in1) hh _ l hlI (intItems xs), st, hfp, by simpa [intItems] using hsz, CmpOf.ints_lt (numAt xs) (fun _ _ => intItems_at), fun v h' tk hP hk => ?_⟩
  have hv : (intItems xs)[argBest (fun i j => decide (numAt xs i < numAt xs j)) (xs.size - 1)]? = some v := by simpa [intItems] using hP
  obtain ⟨t, rfl⟩ := intItems_at hv
  obtain ⟨h1, h2⟩ := argBest_lt (numAt xs) (xs.size - 1)
  refine h h' tk _ t (old_of rfl hk) ?_ fun a ha => ?_
  · rw [numAt_eq]; exact PySem.getD_mem (by rw [List.length_map, Array.length_toList]; omega)
  · obtain ⟨j, hj, rfl⟩ := mem_getD ha
    rw [List.length_map, Array.length_toList] at hj
    rw [← numAt_eq]; exact h2 j (by omega)
end
section
variable {X : Cx}
theorem tup_is {s : Shared} {a : Addr} {its : List Value} (h : IsTup s.heap a its.toArray) : s.heap.IsTuple a its.toArray := h
def SqB (K : PySem.W.Frag) (H : Hp) (a : Addr) (xs : List V) : Prop := SqL K H a xs ∨ SqT K H a xs
def qSum (K : PySem.W.Frag) : List V → Hp → VK → Prop := fun vs H Q => ∃ (a : Addr) (ns : List Int), vs = [V.ref a] ∧ SqB K H a (ns.map V.int) ∧ Q (.int ns.sum) H
def qAny (K : PySem.W.Frag) : List V → Hp → VK → Prop := fun vs H Q => ∃ (a : Addr) (bs : List Bool), vs = [V.ref a] ∧ SqB K H a (bs.map V.bl) ∧ Q (.bl (bs.any id)) H
def qAll (K : PySem.W.Frag) : List V → Hp → VK → Prop := fun vs H Q => ∃ (a : Addr) (bs : List Bool), vs = [V.ref a] ∧ SqB K H a (bs.map V.bl) ∧ Q (.bl (bs.all id)) H
def qMax (K : PySem.W.Frag) : List V → Hp → VK → Prop := fun vs H Q => ∃ (a : Addr) (ns : List Int), vs = [V.ref a] ∧ SqB K H a (ns.map V.int) ∧ 0 < ns.length ∧ ∀ m, m ∈ ns → (∀ y, y ∈ ns → y ≤ m) → Q (.int m) H
def qMin (K : PySem.W.Frag) : List V → Hp → VK → Prop := fun vs H Q => ∃ (a : Addr) (ns : List Int), vs = [V.ref a] ∧ SqB K H a (ns.map V.int) ∧ 0 < ns.length ∧ ∀ m, m ∈ ns → (∀ y, y ∈ ns → m ≤ y) → Q (.int m) H
theorem cq_sum (hc : X.calm = true) : CallR X (.builtin "sum") (qSum X.K) := by
  intro pins s σ H vs us Q I r h
  obtain ⟨a, ns, rfl, hs | hs, q⟩ := h
  · exact cr_sum hc pins s σ H _ us Q I r ⟨a, ns, rfl, hs, q⟩
  · obtain ⟨its, rv, hl, _⟩ := I.tuple hs
    rw [Vals.ref1 r]
    exact sum_rawT (I.ok.hd hc) (tup_is hl) rv.ints fun h' tk t' hk => ⟨.int _, H, I.kept hk, ⟨_, rfl⟩, q⟩
theorem cq_max (hc : X.calm = true) : CallR X (.builtin "max") (qMax X.K) := by
  intro pins s σ H vs us Q I r h
  obtain ⟨a, ns, rfl, hs | hs, hne, q⟩ := h
  · exact cr_max hc pins s σ H _ us Q I r ⟨a, ns, rfl, hs, hne, q⟩
  · obtain ⟨its, rv, hl, _⟩ := I.tuple hs
    rw [Vals.ref1 r]
    exact max_rawT (I.ok.hd hc) (tup_is hl) rv.ints hne fun h' tk m t' hk h1 h2 => ⟨.int _, H, I.kept hk, ⟨_, rfl⟩, q m h1 h2⟩
theorem cq_min (hc : X.calm = true) : CallR X (.builtin "min") (qMin X.K) := by
  intro pins s σ H vs us Q I r h
  obtain ⟨a, ns, rfl, hs | hs, hne, q⟩ := h
  · exact cr_min hc pins s σ H _ us Q I r ⟨a, ns, rfl, hs, hne, q⟩
  · obtain ⟨its, rv, hl, _⟩ := I.tuple hs
    rw [Vals.ref1 r]
    exact min_rawT (I.ok.hd hc) (tup_is hl) rv.ints hne fun h' tk m t' hk h1 h2 => ⟨.int _, H, I.kept hk, ⟨_, rfl⟩, q m h1 h2⟩
theorem cq_any (hc : X.calm = true) : CallR X (.builtin "any") (qAny X.K) := by
  intro pins s σ H vs us Q I r h
  obtain ⟨a, bs, rfl, hs | hs, q⟩ := h
  · exact cr_any hc pins s σ H _ us Q I r ⟨a, bs, rfl, hs, q⟩
  · obtain ⟨its, rv, hl, _⟩ := I.tuple hs
    rw [Vals.ref1 r]
    have hb := rv.bls
    refine call_any_walk (iter_tupR (tup_is hl) fun s₂ e2 st hne _ => ?_)
    subst e2
    refine ⟨_, _, _, _, _, _, _, rfl, Walks.tuple (A := X.A.in1) (I.ok.hd hc) _ a hne its.toArray, st, truth_bools hb, fun h' tk hk => ?_⟩
    refine ⟨.bl _, H, I.kept (old_of rfl hk), ?_, q⟩
    show Value.bool _ = Value.bool _
    rw [← L2.any_range, hb, List.size_toArray, List.length_map]
theorem cq_all (hc : X.calm = true) : CallR X (.builtin "all") (qAll X.K) := by
  intro pins s σ H vs us Q I r h
  obtain ⟨a, bs, rfl, hs | hs, q⟩ := h
  · exact cr_all hc pins s σ H _ us Q I r ⟨a, bs, rfl, hs, q⟩
  · obtain ⟨its, rv, hl, _⟩ := I.tuple hs
    rw [Vals.ref1 r]
    have hb := rv.bls
    refine call_all_walk (iter_tupR (tup_is hl) fun s₂ e2 st hne _ => ?_)
    subst e2
    refine ⟨_, _, _, _, _, _, _, rfl, Walks.tuple (A := X.A.in1) (I.ok.hd hc) _ a hne its.toArray, st, truth_bools hb, fun h' tk hk => ?_⟩
    refine ⟨.bl _, H, I.kept (old_of rfl hk), ?_, q⟩
    show Value.bool _ = Value.bool _
    rw [← L2.all_range, hb, List.size_toArray, List.length_map]
end
end G
namespace G
open PySem PySem.Spec PyProof.Rows L2
theorem tuple_mul_self (l : Addr) (items : Array Value) (n : Nat) (dd : Option Addr) (sl : Array (Option Value)) (x : Int) (u : Tok) (c0 : (decide (x < -(2 ^ 63)) || decide (x ≥ 2 ^ 63)) = false) (c1 : (items.isEmpty || x == 1) = true) :
    Meets (Builtin.«tuple.__mul__» ⟨[.ref l, .int x u], []⟩) (fun _ R s => s.heap.get? l = some { cls := .type "tuple", dict := dd, data := .seq items n, slots := sl } ∧ R (.ok (.ret (Value.ref l))) s) :=
  .of_wp fun prog w A R s h => by
    obtain ⟨hp, g, d, tk, os⟩ := s
    obtain ⟨hl, h⟩ := h
    have f1 := AutoSeq1.idx_int
    wp_walk using wpAny_loadPart' hl
    repeat (first
      | (refine wpAny_ite_false (decide_eq_false (by rw [c0]; exact Bool.false_ne_true)) ?_; wp_walk using wpAny_loadPart' hl)
      | (refine wpAny_ite_true (decide_eq_true (by rw [c1])) ?_; wp_walk using wpAny_loadPart' hl))
    exact ⟨_, rfl, h⟩
theorem tuple_mul_nil (l : Addr) (items : Array Value) (n : Nat) (dd : Option Addr) (sl : Array (Option Value)) (x : Int) (u : Tok) (c0 : (decide (x < -(2 ^ 63)) || decide (x ≥ 2 ^ 63)) = false) (c1 : (items.isEmpty || x == 1) = false) (c2 : (decide (x ≤ 0) || items.isEmpty) = true) :
    Meets (Builtin.«tuple.__mul__» ⟨[.ref l, .int x u], []⟩) (fun _ R s => s.heap.get? l = some { cls := .type "tuple", dict := dd, data := .seq items n, slots := sl } ∧
      R (.ok (.ret (Value.ref s.heap.objs.size))) { s with heap := s.heap.push { cls := Value.type "tuple", data := Data.seq #[] }, toks := s.toks }) :=
  .of_wp fun prog w A R s h => by
    obtain ⟨hp, g, d, tk, os⟩ := s
    obtain ⟨hl, h⟩ := h
    have f1 := AutoSeq1.idx_int
    wp_walk using wpAny_loadPart' hl
    repeat (first
      | (refine wpAny_ite_false (decide_eq_false (by rw [c0]; exact Bool.false_ne_true)) ?_; wp_walk using wpAny_loadPart' hl)
      | (refine wpAny_ite_false (decide_eq_false (by rw [c1]; exact Bool.false_ne_true)) ?_; wp_walk using wpAny_loadPart' hl)
      | (refine wpAny_ite_true (decide_eq_true (by rw [c2])) ?_; wp_walk using wpAny_loadPart' hl))
    exact ⟨_, rfl, h⟩
def rRepT1 (K : PySem.W.Frag) : R2 := fun x y H Q => ∃ l k xs, x = .ref l ∧ y = .int k ∧ SqT K H l xs ∧ k.natAbs < 2 ^ 62 ∧ ((xs = [] ∨ k = 1) ∧ Q (.ref l) H ∨ (xs ≠ [] ∧ k ≤ 0) ∧ ∀ p, H p = none → Q (.ref p) (upd H p (.tup [])))
theorem op_repT1 {X : Cx} : OpR X (binaryOp .Mult) (rRepT1 X.K) := by
  intro pins s σ H x y v u Q I rx ry h
  obtain ⟨l, k, xs, rfl, rfl, hT, hk, q⟩ := h
  cases rx
  obtain ⟨t, rfl⟩ := ry
  obtain ⟨its, r, ⟨⟨cls, dd, data, sl⟩, ho, hc, n, hd⟩, hs⟩ := I.tuple hT
  simp only at hc hd
  subst hc hd
  have hle : its.length = xs.length := r.length.symm
  have c0 : (decide (k < -(2 ^ 63)) || decide (k ≥ 2 ^ 63)) = false := by
    rw [decide_eq_false (by omega), decide_eq_false (by omega)] <;> rfl
  rcases q with ⟨hc, q⟩ | ⟨⟨hne, hk0⟩, q⟩
  · have c1 : (its.toArray.isEmpty || k == 1) = true := by
      rcases hc with hc | hc
      · subst hc
        have : its = [] := List.eq_nil_of_length_eq_zero hle
        subst this; rfl
      · subst hc; simp
    refine wpAny_binaryOp_repeat_ref (T := "tuple") (U := "int") (by decide) ⟨_, ho, rfl⟩ (fun s' => typeIs_int s' k t) noFill_tuple_mul F.fills_int_mul F.slot_int_rmul repeat_tuple F.slot_int_index.lookup
      (call_meets F.slot_int_rmul (typeIs_int s k t) F.entry_int_rmul (F.args_int_rmul_2 _ _) (int_rmul_tuple k t l its.toArray n dd sl)
        ⟨ho, rfl, ⟨_, ho, rfl⟩, call_meets F.slot_tuple_mul ⟨_, ho, rfl⟩ F.entry_tuple_mul (F.args_tuple_mul_2 _ _) (tuple_mul_self l its.toArray n dd sl k t c0 c1) ⟨ho, ?_⟩⟩)
    exact ⟨.ref l, H, I, rfl, q⟩
  · have hn : its ≠ [] := fun e => hne (by
      rw [e] at hle
      exact List.eq_nil_of_length_eq_zero hle.symm)
    have hi : its.toArray.isEmpty = false := by
      cases its with
      | nil => exact absurd rfl hn
      | cons a b => rfl
    have c1 : (its.toArray.isEmpty || k == 1) = false := by
      rw [hi, Bool.false_or]
      exact beq_eq_false_iff_ne.mpr (by omega)
    have c2 : (decide (k ≤ 0) || its.toArray.isEmpty) = true := by rw [decide_eq_true hk0]; rfl
    refine wpAny_binaryOp_repeat_ref (T := "tuple") (U := "int") (by decide) ⟨_, ho, rfl⟩ (fun s' => typeIs_int s' k t) noFill_tuple_mul F.fills_int_mul F.slot_int_rmul repeat_tuple F.slot_int_index.lookup
      (call_meets F.slot_int_rmul (typeIs_int s k t) F.entry_int_rmul (F.args_int_rmul_2 _ _) (int_rmul_tuple k t l its.toArray n dd sl)
        ⟨ho, rfl, ⟨_, ho, rfl⟩, call_meets F.slot_tuple_mul ⟨_, ho, rfl⟩ F.entry_tuple_mul (F.args_tuple_mul_2 _ _) (tuple_mul_nil l its.toArray n dd sl k t c0 c1 c2) ⟨ho, ?_⟩⟩)
    refine ⟨.ref s.heap.objs.size, _, I.laid (t' := s.toks) (o := .tup []) (fun b ob q => Heap.get?_push_of_some _ q) (Nat.le_refl _) ?_, rfl, q _ (I.hok.fresh (Nat.le_refl _))⟩
    exact ⟨by show 0 ≤ sizeLine; exact Nat.zero_le _, [], .nil, IsTup.new _ _⟩
end G
namespace G
open PySem PySem.Spec PyProof.Rows L2
def big : Nat := 2 ^ 4000
theorem big_log {n : Nat} (h : n < big) : n.log2 < 4000 := PySem.Flt.log2_lt_of (by decide) h
mutual
def toPD : D → Option PyData
  | .non => some .none
  | .bl b => some (.bool b)
  | .int i => some (.int i)
  | .str x => some (.str x)
  | .tup xs => (toPDs xs).map .tuple
  | .lst xs => (toPDs xs).map .list
  | .slo xs => (toPDs xs).map .list
  | _ => none
def toPDs : List D → Option (List PyData)
  | [] => some []
  | x :: xs => match toPD x, toPDs xs with
    | some a, some b => some (a :: b)
    | _, _ => none
end
section
variable {K : PySem.W.Frag} {M : Mem} {H : Hp}
mutual
theorem toPD_rep : ∀ {d : D} {p : PyData} {v : V}, toPD d = some p → Rep K M H d v → Dp K H v p
  | .non, _, _, h, r => by unfold toPD at h; unfold Rep at r; cases h; subst r; exact .non
  | .bl _, _, _, h, r => by unfold toPD at h; unfold Rep at r; cases h; subst r; exact .bl _
  | .int _, _, _, h, r => by unfold toPD at h; unfold Rep at r; cases h; subst r; exact .int _
  | .str _, _, _, h, r => by unfold toPD at h; unfold Rep at r; cases h; subst r; exact .str _
  | .raw _, _, _, h, r => by unfold toPD at h; cases h
  | .dic, _, _, h, r => by unfold toPD at h; cases h
  | .fn _, _, _, h, r => by unfold toPD at h; cases h
  | .emp, _, _, h, r => by unfold toPD at h; cases h
  | .rg .., _, _, h, r => by unfold toPD at h; cases h
  | .exv .., _, _, h, r => by unfold toPD at h; cases h
  | .mut _, _, _, h, r => by unfold toPD at h; cases h
  | .tup xs, p, v, h, r => by
    unfold toPD at h; unfold Rep at r
    obtain ⟨a, vs, rfl, f, q⟩ := r
    cases e : toPDs xs with
    | none => rw [e] at h; cases h
    | some ps => rw [e] at h; cases h; exact .tup f.sq (toPDs_rep e q)
  | .lst xs, p, v, h, r => by
    unfold toPD at h; unfold Rep at r
    obtain ⟨a, vs, rfl, f, q⟩ := r
    cases e : toPDs xs with
    | none => rw [e] at h; cases h
    | some ps => rw [e] at h; cases h; exact .lst f.sq (toPDs_rep e q)
  | .slo xs, p, v, h, r => by
    unfold toPD at h; unfold Rep at r
    obtain ⟨a, vs, rfl, f, q⟩ := r
    cases e : toPDs xs with
    | none => rw [e] at h; cases h
    | some ps => rw [e] at h; cases h; exact .lst f.sq (toPDs_rep e q)
theorem toPDs_rep : ∀ {ds : List D} {ps : List PyData} {vs : List V}, toPDs ds = some ps → RepL K M H ds vs → DpAll K H vs ps
  | [], _, _, h, r => by unfold toPDs at h; unfold RepL at r; cases h; subst r; exact .nil
  | d :: ds, ps, vs, h, r => by
    unfold toPDs at h; unfold RepL at r
    obtain ⟨v, rr, rfl, r1, r2⟩ := r
    cases e1 : toPD d with
    | none => rw [e1] at h; cases h
    | some a =>
      cases e2 : toPDs ds with
      | none => rw [e1, e2] at h; cases h
      | some b => rw [e1, e2] at h; cases h; exact .cons (toPD_rep e1 r1) (toPDs_rep e2 r2)
end
end
def addD : F2 := fun a b st => match a, b with
  | .int i, .int j => .ok (.int (i + j)) st
  | .str x, .str y => if x.length + y.length ≤ 16777216 then .ok (.str (x ++ y)) st else .fail
  | .tup xs, .tup ys => if xs.length + ys.length ≤ 16777216 then .ok (.tup (xs ++ ys)) st else .fail
  | .lst xs, .lst ys => if xs.length + ys.length ≤ 16777216 then .ok (.lst (xs ++ ys)) st else .fail
  | .mut n, .lst ys => (match st[n]? with
    | some (.lst xs) => if xs.length + ys.length ≤ 16777216 then .ok (.lst (xs ++ ys)) st else .fail
    | _ => .fail)
  | .lst xs, .mut n => (match st[n]? with
    | some (.lst ys) => if xs.length + ys.length ≤ 16777216 then .ok (.lst (xs ++ ys)) st else .fail
    | _ => .fail)
  | _, _ => .fail
def subD : F2 := fun a b st => match a, b with
  | .int i, .int j => .ok (.int (i - j)) st
  | _, _ => .fail
def mulOk (i j : Int) : Prop := i.natAbs < 2 ^ 64 ∨ j.natAbs < 2 ^ 64 ∨ (i.natAbs < big ∧ j.natAbs < big)
instance (i j : Int) : Decidable (mulOk i j) := by unfold mulOk; infer_instance
def mulD : F2 := fun a b st => match a, b with
  | .int i, .int j => if mulOk i j then .ok (.int (i * j)) st else .fail
  | .lst xs, .int k => if k.natAbs < 2 ^ 62 ∧ xs.length * k.toNat ≤ 16777216 then .ok (.lst (List.replicate k.toNat xs).flatten) st else .fail
  | .tup xs, .int k => if xs ≠ [] ∧ 2 ≤ k ∧ k ≤ 1000 ∧ xs.length ≤ 1000 then .ok (.tup (List.replicate k.toNat xs).flatten) st else if (xs = [] ∨ k = 1) ∧ k.natAbs < 2 ^ 62 then .ok (.tup xs) st else if (xs ≠ [] ∧ k ≤ 0) ∧ k.natAbs < 2 ^ 62 then .ok (.tup []) st else .fail
  | _, _ => .fail
def fdivD : F2 := fun a b st => match a, b with
  | .int i, .int j => if 0 < j ∧ j.natAbs < big then .ok (.int (i / j)) st else .fail
  | _, _ => .fail
def modD : F2 := fun a b st => match a, b with
  | .int i, .int j => if 0 < j then .ok (.int (i % j)) st else .fail
  | _, _ => .fail
def powD : F2 := fun a b st => match a, b with
  | .int i, .int j => if 0 ≤ j ∧ j ≤ 1000000 ∧ i.natAbs < 2 ^ 64 then .ok (.int (i ^ j.toNat)) st else .fail
  | _, _ => .fail
def negD : F1 := fun a st => match a with
  | .int i => .ok (.int (-i)) st
  | _ => .fail
def cmpI (f : Int → Int → Bool) : F2 := fun a b st => match a, b with
  | .int i, .int j => .ok (.bl (f i j)) st
  | _, _ => .fail
def intsOf : List D → Option (List Int)
  | [] => some []
  | .int i :: r => (intsOf r).map (i :: ·)
  | _ => none
def lexLe : List Int → List Int → Bool
  | [], _ => true
  | _ :: _, [] => false
  | a :: x, b :: y => if a = b then lexLe x y else decide (a ≤ b)
def ltD : F2 := fun a b st => match a, b with
  | .int i, .int j => .ok (.bl (decide (i < j))) st
  | .tup xs, .tup ys => match intsOf xs, intsOf ys with
    | some ns, some ms => .ok (.bl (HT.lexLt ns ms)) st
    | _, _ => .fail
  | _, _ => .fail
def leD : F2 := fun a b st => match a, b with
  | .int i, .int j => .ok (.bl (decide (i ≤ j))) st
  | .tup xs, .tup ys => match intsOf xs, intsOf ys with
    | some ns, some ms => .ok (.bl (lexLe ns ms)) st
    | _, _ => .fail
  | _, _ => .fail
def gtD : F2 := cmpI fun i j => decide (j < i)
def geD : F2 := cmpI fun i j => decide (j ≤ i)
def scalD : D → D → Option Bool
  | .non, .non => some true
  | .int i, .int j => some (decide (i = j))
  | .bl i, .bl j => some (decide (i = j))
  | .str i, .str j => some (decide (i = j))
  | .non, .int _ => some false | .int _, .non => some false
  | .non, .bl _ => some false | .bl _, .non => some false
  | .non, .str _ => some false | .str _, .non => some false
  | .int _, .str _ => some false | .str _, .int _ => some false
  | .bl _, .str _ => some false | .str _, .bl _ => some false
  | _, _ => none
def eqO (a b : D) : Option Bool := match scalD a b with
  | some k => some k
  | none => match toPD a, toPD b with
    | some x, some y => if SeqAt.shaped x = true ∧ SeqAt.shaped y = true then some (PyData.eqv x y) else none
    | _, _ => none
def eqD : F2 := fun a b st => match eqO a b with
  | some k => .ok (.bl k) st
  | none => .fail
def neD : F2 := fun a b st => match eqO a b with
  | some k => .ok (.bl (!k)) st
  | none => .fail
def isNon : D → Option Bool
  | .non => some true
  | .mut _ => some false
  | .raw _ => none
  | .exv .. => none
  | _ => some false
def isND : F2 := fun a b st => match b, isNon a with
  | .non, some k => .ok (.bl k) st
  | _, _ => .fail
section
variable {K : PySem.W.Frag} {M : Mem} {H : Hp}
theorem rep_int_iff {i : Int} {v : V} : Rep K M H (.int i) v ↔ v = .int i := by unfold Rep; exact Iff.rfl
theorem intsOf_rep : ∀ {ds : List D} {ns : List Int} {vs : List V}, intsOf ds = some ns → RepL K M H ds vs → vs = ns.map V.int
  | [], _, _, h, r => by unfold intsOf at h; unfold RepL at r; cases h; subst r; rfl
  | .int i :: ds, ns, vs, h, r => by
    unfold intsOf at h; unfold RepL at r
    obtain ⟨v, rr, rfl, r1, r2⟩ := r
    rw [rep_int_iff] at r1
    subst r1
    cases e : intsOf ds with
    | none => rw [e] at h; cases h
    | some ms => rw [e] at h; cases h; rw [intsOf_rep e r2]; rfl
  | .non :: ds, ns, vs, h, r => by unfold intsOf at h; cases h
  | .bl _ :: ds, ns, vs, h, r => by unfold intsOf at h; cases h
  | .str _ :: ds, ns, vs, h, r => by unfold intsOf at h; cases h
  | .raw _ :: ds, ns, vs, h, r => by unfold intsOf at h; cases h
  | .dic :: ds, ns, vs, h, r => by unfold intsOf at h; cases h
  | .fn _ :: ds, ns, vs, h, r => by unfold intsOf at h; cases h
  | .emp :: ds, ns, vs, h, r => by unfold intsOf at h; cases h
  | .rg .. :: ds, ns, vs, h, r => by unfold intsOf at h; cases h
  | .exv .. :: ds, ns, vs, h, r => by unfold intsOf at h; cases h
  | .tup _ :: ds, ns, vs, h, r => by unfold intsOf at h; cases h
  | .lst _ :: ds, ns, vs, h, r => by unfold intsOf at h; cases h
  | .slo _ :: ds, ns, vs, h, r => by unfold intsOf at h; cases h
  | .mut _ :: ds, ns, vs, h, r => by unfold intsOf at h; cases h
@[simp] theorem intsOf_map : ∀ ns : List Int, intsOf (ns.map D.int) = some ns
  | [] => rfl
  | n :: ns => by show (intsOf (ns.map D.int)).map (n :: ·) = some (n :: ns); rw [intsOf_map ns]; rfl
end
section
variable {X : Cx} {K : PySem.W.Frag}
def rOr (r r' : R2) : R2 := fun x y H Q => r x y H Q ∨ r' x y H Q
theorem v_add : OpV K (rOr (rI0 fun i j => .int (i + j)) (rOr (fun x y H Q => ∃ i j, x = .str i ∧ y = .str j ∧ i.length + j.length ≤ sizeLine ∧ Q (.str (i ++ j)) H) (rOr (rCatA K) rCat))) addD := by
  intro a b x y M H st Q E ra rb so p
  unfold addD at p
  split at p
  · unfold Rep at ra rb; subst ra rb
    exact .inl ⟨_, _, rfl, rfl, p M H _ .refl so (rep_int _ _ _)⟩
  · unfold Rep at ra rb; subst ra rb
    split at p
    · rename_i h; exact .inr (.inl ⟨_, _, rfl, rfl, size_le h, p M H _ .refl so (rep_str _ _ _)⟩)
    · exact p.elim
  · rename_i xs ys
    split at p
    · rename_i h
      have ra' := ra; have rb' := rb
      unfold Rep at ra rb
      obtain ⟨t, vs, rfl, f, q⟩ := ra
      obtain ⟨u, ws, rfl, f', q'⟩ := rb
      refine .inr (.inr (.inl ⟨t, u, vs, ws, rfl, rfl, f.sq, f'.sq, by rw [← q.length, ← q'.length]; exact size_le h, fun e => ?_, fun _ e => ?_, fun _ _ a ha => ?_⟩))
      · have : xs = [] := List.length_eq_zero_iff.mp (by rw [q.length, e]; rfl)
        subst this
        exact p M H _ .refl so rb'
      · have : ys = [] := List.length_eq_zero_iff.mp (by rw [q'.length, e]; rfl)
        subst this
        exact p M H _ .refl so (by simpa using ra')
      · exact p M _ _ (.laid so ha) (so.laid ha) (rep_tup so (q.append q') ha)
    · exact p.elim
  · rename_i xs ys
    split at p
    · rename_i h
      unfold Rep at ra rb
      obtain ⟨t, vs, rfl, f, q⟩ := ra
      obtain ⟨u, ws, rfl, f', q'⟩ := rb
      exact .inr (.inr (.inr ⟨t, u, vs, ws, rfl, rfl, f.1, f'.1, by rw [← q.length, ← q'.length]; exact size_le h, fun a ha => p M _ _ (.laid so ha) (so.laid ha) (rep_lst so (q.append q') ha)⟩))
    · exact p.elim
  · rename_i n ys
    split at p
    · rename_i xs e
      split at p
      · rename_i h
        unfold Rep at ra rb
        obtain ⟨t, rfl, m⟩ := ra
        obtain ⟨vs, hv, q⟩ := so.at_ n t _ m e
        obtain ⟨u, ws, rfl, f', q'⟩ := rb
        exact .inr (.inr (.inr ⟨t, u, vs, ws, rfl, rfl, hv, f'.1, by rw [← q.length, ← q'.length]; exact size_le h, fun a ha => p M _ _ (.laid so ha) (so.laid ha) (rep_lst so (q.append q') ha)⟩))
      · exact p.elim
    · exact p.elim
  · rename_i xs n
    split at p
    · rename_i ys e
      split at p
      · rename_i h
        unfold Rep at ra rb
        obtain ⟨t, vs, rfl, f, q⟩ := ra
        obtain ⟨u, rfl, m⟩ := rb
        obtain ⟨ws, hw, q'⟩ := so.at_ n u _ m e
        exact .inr (.inr (.inr ⟨t, u, vs, ws, rfl, rfl, f.1, hw, by rw [← q.length, ← q'.length]; exact size_le h, fun a ha => p M _ _ (.laid so ha) (so.laid ha) (rep_lst so (q.append q') ha)⟩))
      · exact p.elim
    · exact p.elim
  · exact p.elim
theorem o_add : OpR X (binaryOp .Add) (rOr (rI0 fun i j => .int (i + j)) (rOr (fun x y H Q => ∃ i j, x = .str i ∧ y = .str j ∧ i.length + j.length ≤ sizeLine ∧ Q (.str (i ++ j)) H) (rOr (rCatA X.K) rCat))) :=
  OpR.or op_add (OpR.or op_add_str (OpR.or op_catA op_cat))
theorem v_sub : OpV K (rI0 fun i j => .int (i - j)) subD := by
  intro a b x y M H st Q E ra rb so p
  unfold subD at p
  split at p
  · unfold Rep at ra rb; subst ra rb
    exact ⟨_, _, rfl, rfl, p M H _ .refl so (rep_int _ _ _)⟩
  · exact p.elim
theorem cmul_of {i j : Int} (h : mulOk i j) : CMul i j ∨ CMulW i j := by
  rcases h with h | h | h
  · exact .inl (.inl (by omega))
  · exact .inl (.inr (by omega))
  · exact .inr (by have := big_log h.1; have := big_log h.2; unfold CMulW; omega)
theorem RepL.flat {M : Mem} {H : Hp} {xs : List D} {vs : List V} (q : RepL K M H xs vs) : ∀ n, RepL K M H (List.replicate n xs).flatten (List.replicate n vs).flatten
  | 0 => .nil
  | n + 1 => by
    rw [List.replicate_succ, List.replicate_succ, List.flatten_cons, List.flatten_cons]
    exact q.append (RepL.flat q n)
theorem v_mul : OpV K (rOr (rI (fun i j => CMul i j) fun i j => .int (i * j)) (rOr (rI CMulW fun i j => .int (i * j)) (rOr rRep (rOr (rRepT K) (rRepT1 K))))) mulD := by
  intro a b x y M H st Q E ra rb so p
  unfold mulD at p
  split at p
  · split at p
    · rename_i h
      unfold Rep at ra rb; subst ra rb
      rcases cmul_of h with h | h
      · exact .inl ⟨_, _, rfl, rfl, h, p M H _ .refl so (rep_int _ _ _)⟩
      · exact .inr (.inl ⟨_, _, rfl, rfl, h, p M H _ .refl so (rep_int _ _ _)⟩)
    · exact p.elim
  · split at p
    · rename_i h
      unfold Rep at ra rb
      obtain ⟨t, vs, rfl, f, q⟩ := ra
      subst rb
      refine .inr (.inr (.inl ⟨t, _, vs, rfl, rfl, f.1, by omega, by omega, by rw [← q.length]; exact size_le h.2, fun a ha => ?_⟩))
      exact p M _ _ (.laid so ha) (so.laid ha) (rep_lst so (q.flat _) ha)
    · exact p.elim
  · split at p
    · rename_i xs k h
      unfold Rep at ra rb
      obtain ⟨t, vs, rfl, f, q⟩ := ra
      subst rb
      refine .inr (.inr (.inr (.inl ⟨t, _, vs, rfl, rfl, f.sq, fun e => h.1 (List.length_eq_zero_iff.mp (by rw [q.length, e]; rfl)), h.2.1, h.2.2.1, by rw [← q.length]; exact h.2.2.2, fun a ha => ?_⟩)))
      exact p M _ _ (.laid so ha) (so.laid ha) (rep_tup so (q.flat _) ha)
    · rename_i xs k _
      split at p
      · rename_i h
        have ra' := ra
        unfold Rep at ra rb
        obtain ⟨t, vs, rfl, f, q⟩ := ra
        subst rb
        refine .inr (.inr (.inr (.inr ⟨t, _, vs, rfl, rfl, f.sq, h.2, .inl ⟨h.1.imp (fun e => List.length_eq_zero_iff.mp (by rw [← q.length, e]; rfl)) id, p M H _ .refl so ra'⟩⟩)))
      · split at p
        · rename_i h
          unfold Rep at ra rb
          obtain ⟨t, vs, rfl, f, q⟩ := ra
          subst rb
          refine .inr (.inr (.inr (.inr ⟨t, _, vs, rfl, rfl, f.sq, h.2, .inr ⟨⟨fun e => h.1.1 (List.length_eq_zero_iff.mp (by rw [q.length, e]; rfl)), h.1.2⟩, fun a ha => p M _ _ (.laid so ha) (so.laid ha) (rep_tup so .nil ha)⟩⟩)))
        · exact p.elim
  · exact p.elim
theorem o_mul : OpR X (binaryOp .Mult) (rOr (rI (fun i j => CMul i j) fun i j => .int (i * j)) (rOr (rI CMulW fun i j => .int (i * j)) (rOr rRep (rOr (rRepT X.K) (rRepT1 X.K))))) :=
  OpR.or op_mul (OpR.or op_mulW (OpR.or op_rep (OpR.or op_repT op_repT1)))
theorem v_fdiv : OpV K (rI CDivW fun i j => .int (i / j)) fdivD := by
  intro a b x y M H st Q E ra rb so p
  unfold fdivD at p
  split at p
  · split at p
    · rename_i h
      unfold Rep at ra rb; subst ra rb
      exact ⟨_, _, rfl, rfl, ⟨h.1, Nat.lt_trans (big_log h.2) (by decide)⟩, p M H _ .refl so (rep_int _ _ _)⟩
    · exact p.elim
  · exact p.elim
theorem v_mod : OpV K (rI (fun _ j => 0 < j) fun i j => .int (i % j)) modD := by
  intro a b x y M H st Q E ra rb so p
  unfold modD at p
  split at p
  · split at p
    · rename_i h
      unfold Rep at ra rb; subst ra rb
      exact ⟨_, _, rfl, rfl, h, p M H _ .refl so (rep_int _ _ _)⟩
    · exact p.elim
  · exact p.elim
theorem v_pow : OpV K (rI CPow fun i j => .int (i ^ j.toNat)) powD := by
  intro a b x y M H st Q E ra rb so p
  unfold powD at p
  split at p
  · split at p
    · rename_i h
      unfold Rep at ra rb; subst ra rb
      exact ⟨_, _, rfl, rfl, h, p M H _ .refl so (rep_int _ _ _)⟩
    · exact p.elim
  · exact p.elim
theorem v_cmpI (f : Int → Int → Bool) : OpV K (rI0 fun i j => .bl (f i j)) (cmpI f) := by
  intro a b x y M H st Q E ra rb so p
  unfold cmpI at p
  split at p
  · unfold Rep at ra rb; subst ra rb
    exact ⟨_, _, rfl, rfl, p M H _ .refl so (rep_bl _ _ _)⟩
  · exact p.elim
theorem v_lt : OpV K (rOr (rI0 fun i j => .bl (decide (i < j))) (rLtT K)) ltD := by
  intro a b x y M H st Q E ra rb so p
  unfold ltD at p
  split at p
  · unfold Rep at ra rb; subst ra rb
    exact .inl ⟨_, _, rfl, rfl, p M H _ .refl so (rep_bl _ _ _)⟩
  · split at p
    · rename_i e1 e2
      unfold Rep at ra rb
      obtain ⟨t, vs, rfl, f, q⟩ := ra
      obtain ⟨u, ws, rfl, f', q'⟩ := rb
      have h1 := intsOf_rep e1 q
      have h2 := intsOf_rep e2 q'
      subst h1 h2
      exact .inr ⟨t, u, _, _, rfl, rfl, f.sq, f'.sq, p M H _ .refl so (rep_bl _ _ _)⟩
    · exact p.elim
  · exact p.elim
theorem o_lt (hu : X.A.units < cLine) : OpR X (compareOp .Lt) (rOr (rI0 fun i j => .bl (decide (i < j))) (rLtT X.K)) := OpR.or op_lt (op_ltT hu)
theorem lexAt_go (ns0 ms0 : List Int) : ∀ (ns ms : List Int) (i : Nat), ns0.drop i = ns → ms0.drop i = ms → i ≤ ns0.length → i ≤ ms0.length →
    Ob.lexAt (fun j => decide (ns0.getD j 0 = ms0.getD j 0)) (fun j => decide (ns0.getD j 0 ≤ ms0.getD j 0)) (decide (ns0.length ≤ ms0.length)) i (min ns.length ms.length) = lexLe ns ms
  | [], ms, i, h1, h2, h3, h4 => by
    have : ns0.length = i := by have := congrArg List.length h1; simp at this; omega
    simp only [List.length_nil, Nat.zero_min]
    show decide (ns0.length ≤ ms0.length) = true
    simp; omega
  | a :: x, [], i, h1, h2, h3, h4 => by
    have e1 : ms0.length = i := by have := congrArg List.length h2; simp at this; omega
    have e2 : ns0.length = i + (x.length + 1) := by have := congrArg List.length h1; simp at this; omega
    simp only [List.length_nil, Nat.min_zero]
    show decide (ns0.length ≤ ms0.length) = false
    simp; omega
  | a :: x, b :: y, i, h1, h2, h3, h4 => by
    have e1 : ns0.getD i 0 = a := by
      have : ns0[i]? = some a := by rw [← List.head?_drop, h1]; rfl
      simp [List.getD, this]
    have e2 : ms0.getD i 0 = b := by
      have : ms0[i]? = some b := by rw [← List.head?_drop, h2]; rfl
      simp [List.getD, this]
    have l1 : ns0.length = i + (x.length + 1) := by have := congrArg List.length h1; simp at this; omega
    have l2 : ms0.length = i + (y.length + 1) := by have := congrArg List.length h2; simp at this; omega
    have em : min (a :: x).length (b :: y).length = min x.length y.length + 1 := by simp [Nat.succ_min_succ]
    rw [em, Ob.lexAt_succ]
    have ih := lexAt_go ns0 ms0 x y (i + 1) (by rw [← List.drop_drop, h1]; rfl) (by rw [← List.drop_drop, h2]; rfl) (by omega) (by omega)
    rw [e1, e2, ih]
    show (if decide (a = b) = true then lexLe x y else decide (a ≤ b)) = if a = b then lexLe x y else decide (a ≤ b)
    by_cases h : a = b <;> simp [h]
theorem v_le : OpV K (rOr (rI0 fun i j => .bl (decide (i ≤ j))) (rLeT K)) leD := by
  intro a b x y M H st Q E ra rb so p
  unfold leD at p
  split at p
  · unfold Rep at ra rb; subst ra rb
    exact .inl ⟨_, _, rfl, rfl, p M H _ .refl so (rep_bl _ _ _)⟩
  · split at p
    · rename_i ns ms e1 e2
      unfold Rep at ra rb
      obtain ⟨t, vs, rfl, f, q⟩ := ra
      obtain ⟨u, ws, rfl, f', q'⟩ := rb
      have h1 := intsOf_rep e1 q
      have h2 := intsOf_rep e2 q'
      subst h1 h2
      refine .inr ⟨t, u, ns, ms, rfl, rfl, f.sq, f'.sq, p M H _ .refl so ?_⟩
      rw [lexAt_go ns ms ns ms 0 rfl rfl (Nat.zero_le _) (Nat.zero_le _)]
      exact rep_bl _ _ _
    · exact p.elim
  · exact p.elim
theorem o_le (hu : X.A.units < cLine) : OpR X (compareOp .LtE) (rOr (rI0 fun i j => .bl (decide (i ≤ j))) (rLeT X.K)) := OpR.or op_le (op_leT hu)
theorem scalD_rep {M : Mem} {H : Hp} {a b : D} {x y : V} {k : Bool} (h : scalD a b = some k) (ra : Rep K M H a x) (rb : Rep K M H b y) : scal x y = true ∧ decide (x = y) = k := by
  unfold scalD at h
  split at h <;> cases h <;> (unfold Rep at ra rb; subst ra rb; exact ⟨rfl, by simp⟩)
theorem eqO_rep {M : Mem} {H : Hp} {a b : D} {x y : V} {k : Bool} (h : eqO a b = some k) (ra : Rep K M H a x) (rb : Rep K M H b y) :
    (scal x y = true ∧ decide (x = y) = k) ∨ ∃ d e, Dp K H x d ∧ Dp K H y e ∧ SeqAt.shaped d = true ∧ SeqAt.shaped e = true ∧ PyData.eqv d e = k := by
  unfold eqO at h
  split at h
  · rename_i k' e
    cases h
    exact .inl (scalD_rep e ra rb)
  · split at h
    · rename_i d e e1 e2
      split at h
      · rename_i hs
        cases h
        exact .inr ⟨d, e, toPD_rep e1 ra, toPD_rep e2 rb, hs.1, hs.2, rfl⟩
      · cases h
    · cases h
theorem v_eq : OpV K (rOr rEq (rEqD K)) eqD := by
  intro a b x y M H st Q E ra rb so p
  unfold eqD at p
  split at p
  · rename_i k h
    rcases eqO_rep h ra rb with ⟨h1, h2⟩ | ⟨d, e, h1, h2, h3, h4, h5⟩
    · exact .inl ⟨h1, p M H _ .refl so (by rw [h2]; exact rep_bl _ _ _)⟩
    · exact .inr ⟨d, e, h1, h2, h3, h4, p M H _ .refl so (by rw [h5]; exact rep_bl _ _ _)⟩
  · exact p.elim
theorem o_eq (hu : X.A.units + 64 < cLine) : OpR X (compareOp .Eq) (rOr rEq (rEqD X.K)) := OpR.or op_eq (op_eqD hu)
theorem v_ne : OpV K (rOr rNe (rNeD K)) neD := by
  intro a b x y M H st Q E ra rb so p
  unfold neD at p
  split at p
  · rename_i k h
    rcases eqO_rep h ra rb with ⟨h1, h2⟩ | ⟨d, e, h1, h2, h3, h4, h5⟩
    · exact .inl ⟨h1, p M H _ .refl so (by rw [h2]; exact rep_bl _ _ _)⟩
    · exact .inr ⟨d, e, h1, h2, h3, h4, p M H _ .refl so (by rw [h5]; exact rep_bl _ _ _)⟩
  · exact p.elim
theorem o_ne (hu : X.A.units + 64 < cLine) : OpR X (compareOp .NotEq) (rOr rNe (rNeD X.K)) := OpR.or op_ne (op_neD hu)
theorem isNon_rep {M : Mem} {H : Hp} {a : D} {x : V} {k : Bool} (h : isNon a = some k) (ra : Rep K M H a x) : decide (x = .non) = k := by
  cases a with
  | raw v => cases h
  | non => cases h; unfold Rep at ra; subst ra; rfl
  | bl _ => cases h; unfold Rep at ra; subst ra; rfl
  | int _ => cases h; unfold Rep at ra; subst ra; rfl
  | str _ => cases h; unfold Rep at ra; subst ra; rfl
  | tup _ => cases h; unfold Rep at ra; obtain ⟨_, _, rfl, _⟩ := ra; rfl
  | lst _ => cases h; unfold Rep at ra; obtain ⟨_, _, rfl, _⟩ := ra; rfl
  | slo _ => cases h; unfold Rep at ra; obtain ⟨_, _, rfl, _⟩ := ra; rfl
  | dic => cases h; unfold Rep at ra; obtain ⟨_, _, rfl, _⟩ := ra; rfl
  | «mut» _ => cases h; unfold Rep at ra; obtain ⟨_, rfl, _⟩ := ra; rfl
  | emp => cases h; unfold Rep at ra; obtain ⟨_, rfl, _⟩ := ra; rfl
  | rg _ _ => cases h; unfold Rep at ra; obtain ⟨_, rfl, _⟩ := ra; rfl
  | fn _ => cases h; unfold Rep at ra; obtain ⟨_, rfl, _⟩ := ra; rfl
  | exv => cases h
theorem v_isN : OpV K (fun x y H Q => y = .non ∧ Q (.bl (decide (x = .non))) H) isND := by
  intro a b x y M H st Q E ra rb so p
  unfold isND at p
  split at p
  · rename_i k h
    unfold Rep at rb
    exact ⟨rb, p M H _ .refl so (by rw [isNon_rep h ra]; exact rep_bl _ _ _)⟩
  · exact p.elim
end
def lenOf (a : D) (st : Sto) : Option Nat := match a with
  | .mut n => (match st[n]? with
    | some (.lst xs) => some xs.length
    | _ => none)
  | .str x => if x.length ≤ 16777216 then some x.length else none
  | a => (itemsOf a).map List.length
def lenF : FA := fun as st => match as with
  | [a] => (match lenOf a st with
    | some n => .ok (.int n) st
    | none => .fail)
  | _ => .fail
def seqOf (a : D) (st : Sto) : Option (List D) := match a with
  | .mut n => (match st[n]? with
    | some (.lst xs) => some xs
    | _ => none)
  | a => itemsOf a
def listF : FA := fun as st => match as with
  | [a] => (match seqOf a st with
    | some xs => .ok (.lst xs) st
    | none => .fail)
  | _ => .fail
def tupleF : FA := fun as st => match as with
  | [.tup xs] => .ok (.tup xs) st
  | [a] => (match seqOf a st with
    | some xs => .ok (.tup xs) st
    | none => .fail)
  | _ => .fail
def sumF : FA := fun as st => match as with
  | [a] => (match (seqOf a st).bind intsOf with
    | some ns => .ok (.int ns.sum) st
    | none => .fail)
  | _ => .fail
def boolsOf : List D → Option (List Bool)
  | [] => some []
  | .bl i :: r => (boolsOf r).map (i :: ·)
  | _ => none
def allF : FA := fun as st => match as with
  | [a] => (match (seqOf a st).bind boolsOf with
    | some ns => .ok (.bl (ns.all id)) st
    | none => .fail)
  | _ => .fail
def anyF : FA := fun as st => match as with
  | [a] => (match (seqOf a st).bind boolsOf with
    | some ns => .ok (.bl (ns.any id)) st
    | none => .fail)
  | _ => .fail
def absF : FA := fun as st => match as with
  | [.int i] => .ok (.int (if i < 0 then -i else i)) st
  | _ => .fail
def intF : FA := fun as st => match as with
  | [.int i] => .ok (.int i) st
  | [.bl k] => .ok (.int (if k then 1 else 0)) st
  | _ => .fail
def bigI : List Int → Int
  | [] => 0
  | [x] => x
  | x :: r => max x (bigI r)
def smallI : List Int → Int
  | [] => 0
  | [x] => x
  | x :: r => min x (smallI r)
def maxF : FA := fun as st => match as with
  | [.int i, .int j] => .ok (.int (if j > i then j else i)) st
  | [a] => (match (seqOf a st).bind intsOf with
    | some (n :: ns) => .ok (.int (bigI (n :: ns))) st
    | _ => .fail)
  | _ => .fail
def minF : FA := fun as st => match as with
  | [.int i, .int j] => .ok (.int (if j < i then j else i)) st
  | [a] => (match (seqOf a st).bind intsOf with
    | some (n :: ns) => .ok (.int (smallI (n :: ns))) st
    | _ => .fail)
  | _ => .fail
def divmodF : FA := fun as st => match as with
  | [.int i, .int j] => if 0 < j ∧ (j < 1073741824 ∨ i.natAbs < big ∨ j.natAbs < big) then .ok (.tup [.int (i / j), .int (i % j)]) st else .fail
  | _ => .fail
section
variable {K : PySem.W.Frag} {M : Mem} {H : Hp}
theorem RepL.one {a : D} {xs : List V} (h : RepL K M H [a] xs) : ∃ x, xs = [x] ∧ Rep K M H a x := by
  unfold RepL at h
  obtain ⟨v, r, rfl, h1, h2⟩ := h
  unfold RepL at h2
  subst h2
  exact ⟨v, rfl, h1⟩
theorem RepL.two {a b : D} {xs : List V} (h : RepL K M H [a, b] xs) : ∃ x y, xs = [x, y] ∧ Rep K M H a x ∧ Rep K M H b y := by
  unfold RepL at h
  obtain ⟨v, r, rfl, h1, h2⟩ := h
  obtain ⟨y, rfl, h3⟩ := h2.one
  exact ⟨v, y, rfl, h1, h3⟩
theorem seqOf_rep {a : D} {st : Sto} {xs : List D} {v : V} (so : StOk K M H st) (h : seqOf a st = some xs) (r : Rep K M H a v) :
    ∃ t vs, v = .ref t ∧ RepL K M H xs vs ∧ (SqT K H t vs ∨ SqL K H t vs) := by
  unfold seqOf at h
  split at h
  · rename_i n
    split at h
    · rename_i ys e
      cases h
      unfold Rep at r
      obtain ⟨t, rfl, m⟩ := r
      obtain ⟨vs, hv, q⟩ := so.at_ n t _ m e
      exact ⟨t, vs, rfl, q, .inr (.of hv)⟩
    · cases h
  · obtain ⟨t, vs, e, s, q⟩ := itemsOf_rep h r
    exact ⟨t, vs, e, q, s⟩
theorem seqOf_list {a : D} {st : Sto} {xs : List D} {v : V} (so : StOk K M H st) (h : seqOf a st = some xs) (hn : ∀ ys, a ≠ .tup ys) (r : Rep K M H a v) :
    ∃ t vs, v = .ref t ∧ RepL K M H xs vs ∧ SqL K H t vs := by
  unfold seqOf at h
  split at h
  · rename_i n
    split at h
    · rename_i ys e
      cases h
      unfold Rep at r
      obtain ⟨t, rfl, m⟩ := r
      obtain ⟨vs, hv, q⟩ := so.at_ n t _ m e
      exact ⟨t, vs, rfl, q, .of hv⟩
    · cases h
  · cases a with
    | tup ys => exact absurd rfl (hn ys)
    | lst ys => cases h; unfold Rep at r; obtain ⟨t, vs, e, f, q⟩ := r; exact ⟨t, vs, e, q, f.sq⟩
    | slo ys => cases h; unfold Rep at r; obtain ⟨t, vs, e, f, q⟩ := r; exact ⟨t, vs, e, q, f.sq⟩
    | _ => cases h
theorem boolsOf_rep : ∀ {ds : List D} {ns : List Bool} {vs : List V}, boolsOf ds = some ns → RepL K M H ds vs → vs = ns.map V.bl
  | [], _, _, h, r => by unfold boolsOf at h; unfold RepL at r; cases h; subst r; rfl
  | .bl i :: ds, ns, vs, h, r => by
    unfold boolsOf at h; unfold RepL at r
    obtain ⟨v, rr, rfl, r1, r2⟩ := r
    unfold Rep at r1
    subst r1
    cases e : boolsOf ds with
    | none => rw [e] at h; cases h
    | some ms => rw [e] at h; cases h; rw [boolsOf_rep e r2]; rfl
  | .non :: ds, ns, vs, h, r => by unfold boolsOf at h; cases h
  | .int _ :: ds, ns, vs, h, r => by unfold boolsOf at h; cases h
  | .str _ :: ds, ns, vs, h, r => by unfold boolsOf at h; cases h
  | .raw _ :: ds, ns, vs, h, r => by unfold boolsOf at h; cases h
  | .dic :: ds, ns, vs, h, r => by unfold boolsOf at h; cases h
  | .fn _ :: ds, ns, vs, h, r => by unfold boolsOf at h; cases h
  | .emp :: ds, ns, vs, h, r => by unfold boolsOf at h; cases h
  | .rg .. :: ds, ns, vs, h, r => by unfold boolsOf at h; cases h
  | .exv .. :: ds, ns, vs, h, r => by unfold boolsOf at h; cases h
  | .tup _ :: ds, ns, vs, h, r => by unfold boolsOf at h; cases h
  | .lst _ :: ds, ns, vs, h, r => by unfold boolsOf at h; cases h
  | .slo _ :: ds, ns, vs, h, r => by unfold boolsOf at h; cases h
  | .mut _ :: ds, ns, vs, h, r => by unfold boolsOf at h; cases h
@[simp] theorem boolsOf_map : ∀ ns : List Bool, boolsOf (ns.map D.bl) = some ns
  | [] => rfl
  | n :: ns => by show (boolsOf (ns.map D.bl)).map (n :: ·) = some (n :: ns); rw [boolsOf_map ns]; rfl
theorem lenOf_seq {a : D} {st : Sto} {n : Nat} (h : lenOf a st = some n) : (∃ x, a = .str x ∧ x.length ≤ 16777216 ∧ n = x.length) ∨ ∃ xs, seqOf a st = some xs ∧ xs.length = n := by
  unfold lenOf at h
  split at h
  · split at h
    · rename_i e; cases h; exact .inr ⟨_, by simp [seqOf, e], rfl⟩
    · cases h
  · split at h
    · rename_i e; cases h; exact .inl ⟨_, rfl, e, rfl⟩
    · cases h
  · cases a with
    | tup ys => cases h; exact .inr ⟨ys, rfl, rfl⟩
    | lst ys => cases h; exact .inr ⟨ys, rfl, rfl⟩
    | slo ys => cases h; exact .inr ⟨ys, rfl, rfl⟩
    | _ => cases h
theorem v_len : CallV K (fun xs H Q => (∃ p ys, xs = [.ref p] ∧ (SqL K H p ys ∨ SqT K H p ys) ∧ Q (.int ys.length) H) ∨ ∃ z, xs = [.str z] ∧ z.length ≤ sizeLine ∧ Q (.int z.length) H) lenF := by
  intro as xs M H st Q E r so p
  unfold lenF at p
  split at p
  · split at p
    · rename_i n h
      obtain ⟨x, rfl, rx⟩ := r.one
      rcases lenOf_seq h with ⟨z, rfl, hz, rfl⟩ | ⟨ys, h1, rfl⟩
      · unfold Rep at rx; subst rx
        exact .inr ⟨z, rfl, size_le hz, p M H _ .refl so (rep_int _ _ _)⟩
      · obtain ⟨t, vs, rfl, q, s⟩ := seqOf_rep so h1 rx
        exact .inl ⟨t, vs, rfl, s.symm, p M H _ .refl so (by rw [q.length]; exact rep_int _ _ _)⟩
    · exact p.elim
  · exact p.elim
theorem v_list : CallV K (fun xs H Q => ∃ p ys, xs = [.ref p] ∧ (SqL K H p ys ∨ SqT K H p ys) ∧ ∀ l, H l = none → Q (.ref l) (upd H l (.lst ys))) listF := by
  intro as xs M H st Q E r so p
  unfold listF at p
  split at p
  · split at p
    · rename_i h
      obtain ⟨x, rfl, rx⟩ := r.one
      obtain ⟨t, vs, rfl, q, s⟩ := seqOf_rep so h rx
      exact ⟨t, vs, rfl, s.symm, fun l hl => p M _ _ (.laid so hl) (so.laid hl) (rep_lst so q hl)⟩
    · exact p.elim
  · exact p.elim
theorem v_tuple : CallV K (fun xs H Q => ∃ p ys, xs = [.ref p] ∧ ((SqL K H p ys ∧ ∀ l, H l = none → Q (.ref l) (upd H l (.tup ys))) ∨ (SqT K H p ys ∧ Q (.ref p) H))) tupleF := by
  intro as xs M H st Q E r so p
  unfold tupleF at p
  split at p
  · obtain ⟨x, rfl, rx⟩ := r.one
    have rx' := rx
    unfold Rep at rx
    obtain ⟨t, vs, rfl, f, q⟩ := rx
    exact ⟨t, vs, rfl, .inr ⟨f.sq, p M H _ .refl so rx'⟩⟩
  · rename_i hn
    split at p
    · rename_i h
      obtain ⟨x, rfl, rx⟩ := r.one
      obtain ⟨t, vs, rfl, q, s⟩ := seqOf_list so h (fun ys e => hn ys (by rw [e])) rx
      exact ⟨t, vs, rfl, .inl ⟨s, fun l hl => p M _ _ (.laid so hl) (so.laid hl) (rep_tup so q hl)⟩⟩
    · exact p.elim
  · exact p.elim
theorem v_sum : CallV K (qSum K) sumF := by
  intro as xs M H st Q E r so p
  unfold sumF at p
  split at p
  · split at p
    · rename_i ns h
      obtain ⟨x, rfl, rx⟩ := r.one
      obtain ⟨ds, h1, h2⟩ := Option.bind_eq_some_iff.mp h
      obtain ⟨t, vs, rfl, q, s⟩ := seqOf_rep so h1 rx
      have e := intsOf_rep h2 q
      subst e
      exact ⟨t, ns, rfl, s.symm, p M H _ .refl so (rep_int _ _ _)⟩
    · exact p.elim
  · exact p.elim
theorem v_all : CallV K (qAll K) allF := by
  intro as xs M H st Q E r so p
  unfold allF at p
  split at p
  · split at p
    · rename_i ns h
      obtain ⟨x, rfl, rx⟩ := r.one
      obtain ⟨ds, h1, h2⟩ := Option.bind_eq_some_iff.mp h
      obtain ⟨t, vs, rfl, q, s⟩ := seqOf_rep so h1 rx
      have e := boolsOf_rep h2 q
      subst e
      exact ⟨t, ns, rfl, s.symm, p M H _ .refl so (rep_bl _ _ _)⟩
    · exact p.elim
  · exact p.elim
theorem v_any : CallV K (qAny K) anyF := by
  intro as xs M H st Q E r so p
  unfold anyF at p
  split at p
  · split at p
    · rename_i ns h
      obtain ⟨x, rfl, rx⟩ := r.one
      obtain ⟨ds, h1, h2⟩ := Option.bind_eq_some_iff.mp h
      obtain ⟨t, vs, rfl, q, s⟩ := seqOf_rep so h1 rx
      have e := boolsOf_rep h2 q
      subst e
      exact ⟨t, ns, rfl, s.symm, p M H _ .refl so (rep_bl _ _ _)⟩
    · exact p.elim
  · exact p.elim
theorem v_abs : CallV K (fun xs H Q => ∃ i, xs = [.int i] ∧ Q (.int (if i < 0 then -i else i)) H) absF := by
  intro as xs M H st Q E r so p
  unfold absF at p
  split at p
  · obtain ⟨x, rfl, rx⟩ := r.one
    rw [rep_int_iff] at rx; subst rx
    exact ⟨_, rfl, p M H _ .refl so (rep_int _ _ _)⟩
  · exact p.elim
theorem v_int : CallV K (fun xs H Q => (∃ i, xs = [.int i] ∧ Q (.int i) H) ∨ ∃ k, xs = [.bl k] ∧ Q (.int (if k then 1 else 0)) H) intF := by
  intro as xs M H st Q E r so p
  unfold intF at p
  split at p
  · obtain ⟨x, rfl, rx⟩ := r.one
    rw [rep_int_iff] at rx; subst rx
    exact .inl ⟨_, rfl, p M H _ .refl so (rep_int _ _ _)⟩
  · obtain ⟨x, rfl, rx⟩ := r.one
    unfold Rep at rx; subst rx
    exact .inr ⟨_, rfl, p M H _ .refl so (rep_int _ _ _)⟩
  · exact p.elim
theorem bigI_eq : ∀ {ns : List Int} {m : Int}, m ∈ ns → (∀ y, y ∈ ns → y ≤ m) → m = bigI ns
  | [], _, h, _ => by cases h
  | [x], m, h, _ => by simpa [bigI] using h
  | x :: y :: r, m, h, g => by
    show m = max x (bigI (y :: r))
    have gx := g x (by simp)
    by_cases e : m ∈ y :: r
    · rw [← bigI_eq e (fun z hz => g z (List.mem_cons_of_mem _ hz))]; omega
    · have hm : m = x := by rcases List.mem_cons.mp h with h | h; exact h; exact absurd h e
      have : bigI (y :: r) ≤ m := by
        have hb : ∀ (l : List Int) (y : Int), bigI (y :: l) ∈ y :: l := by
          intro l; induction l with
          | nil => intro y; simp [bigI]
          | cons z l ih =>
            intro y
            show max y (bigI (z :: l)) ∈ _
            rcases Int.le_total y (bigI (z :: l)) with k | k
            · rw [Int.max_eq_right k]; exact List.mem_cons_of_mem _ (ih z)
            · rw [Int.max_eq_left k]; exact List.mem_cons_self
        exact g _ (List.mem_cons_of_mem _ (hb r y))
      omega
theorem smallI_eq : ∀ {ns : List Int} {m : Int}, m ∈ ns → (∀ y, y ∈ ns → m ≤ y) → m = smallI ns
  | [], _, h, _ => by cases h
  | [x], m, h, _ => by simpa [smallI] using h
  | x :: y :: r, m, h, g => by
    show m = min x (smallI (y :: r))
    have gx := g x (by simp)
    by_cases e : m ∈ y :: r
    · rw [← smallI_eq e (fun z hz => g z (List.mem_cons_of_mem _ hz))]; omega
    · have hm : m = x := by rcases List.mem_cons.mp h with h | h; exact h; exact absurd h e
      have : m ≤ smallI (y :: r) := by
        have hb : ∀ (l : List Int) (y : Int), smallI (y :: l) ∈ y :: l := by
          intro l; induction l with
          | nil => intro y; simp [smallI]
          | cons z l ih =>
            intro y
            show min y (smallI (z :: l)) ∈ _
            rcases Int.le_total y (smallI (z :: l)) with k | k
            · rw [Int.min_eq_left k]; exact List.mem_cons_self
            · rw [Int.min_eq_right k]; exact List.mem_cons_of_mem _ (ih z)
        exact g _ (List.mem_cons_of_mem _ (hb r y))
      omega
theorem v_max : CallV K (fun xs H Q => (∃ i j, xs = [.int i, .int j] ∧ Q (.int (if j > i then j else i)) H) ∨ qMax K xs H Q) maxF := by
  intro as xs M H st Q E r so p
  unfold maxF at p
  split at p
  · obtain ⟨x, y, rfl, rx, ry⟩ := r.two
    rw [rep_int_iff] at rx ry; subst rx ry
    exact .inl ⟨_, _, rfl, p M H _ .refl so (rep_int _ _ _)⟩
  · split at p
    · rename_i n ns h
      obtain ⟨x, rfl, rx⟩ := r.one
      obtain ⟨ds, h1, h2⟩ := Option.bind_eq_some_iff.mp h
      obtain ⟨t, vs, rfl, q, s⟩ := seqOf_rep so h1 rx
      have e := intsOf_rep h2 q
      subst e
      exact .inr ⟨t, n :: ns, rfl, s.symm, by simp, fun m h1 h2 => by rw [bigI_eq h1 h2]; exact p M H _ .refl so (rep_int _ _ _)⟩
    · exact p.elim
  · exact p.elim
theorem v_min : CallV K (fun xs H Q => (∃ i j, xs = [.int i, .int j] ∧ Q (.int (if j < i then j else i)) H) ∨ qMin K xs H Q) minF := by
  intro as xs M H st Q E r so p
  unfold minF at p
  split at p
  · obtain ⟨x, y, rfl, rx, ry⟩ := r.two
    rw [rep_int_iff] at rx ry; subst rx ry
    exact .inl ⟨_, _, rfl, p M H _ .refl so (rep_int _ _ _)⟩
  · split at p
    · rename_i n ns h
      obtain ⟨x, rfl, rx⟩ := r.one
      obtain ⟨ds, h1, h2⟩ := Option.bind_eq_some_iff.mp h
      obtain ⟨t, vs, rfl, q, s⟩ := seqOf_rep so h1 rx
      have e := intsOf_rep h2 q
      subst e
      exact .inr ⟨t, n :: ns, rfl, s.symm, by simp, fun m h1 h2 => by rw [smallI_eq h1 h2]; exact p M H _ .refl so (rep_int _ _ _)⟩
    · exact p.elim
  · exact p.elim
theorem big_bits {i : Int} (h : i.natAbs < big) : Builtin.Int.intBits i ≤ 4000 := by
  have := big_log h
  unfold Builtin.Int.intBits
  split <;> omega
theorem divp_ok2 {i j : Int} (h : 0 < j) (h2 : j.natAbs < big) : CDivP i j := by
  refine ⟨h, ?_⟩
  have := big_log h2
  unfold Builtin.divisionGoesByPylong
  have e : (decide ((if j == 0 then 0 else j.natAbs.log2 / 30 + 1 : Nat) > 300)) = false := by
    apply decide_eq_false
    split <;> omega
  simp only [e, Bool.false_and]
theorem v_divmod : CallV K (fun xs H Q => (∃ i j, xs = [.int i, .int j] ∧ CDiv i j ∧ ∀ p, H p = none → Q (.ref p) (upd H p (.tup [.int (i / j), .int (i % j)]))) ∨
    ∃ i j, xs = [.int i, .int j] ∧ CDivP i j ∧ ∀ p, H p = none → Q (.ref p) (upd H p (.tup [.int (i / j), .int (i % j)]))) divmodF := by
  intro as xs M H st Q E r so p
  unfold divmodF at p
  split at p
  · split at p
    · rename_i i j h
      obtain ⟨x, y, rfl, rx, ry⟩ := r.two
      rw [rep_int_iff] at rx ry; subst rx ry
      rcases h.2 with h2 | h2 | h2
      · exact .inl ⟨i, j, rfl, ⟨h.1, h2⟩, fun l hl => p M _ _ (.laid so hl) (so.laid hl) (rep_tup so (.ints [i / j, i % j]) hl)⟩
      · exact .inr ⟨i, j, rfl, divp_ok h.1 (by have := big_bits h2; omega), fun l hl => p M _ _ (.laid so hl) (so.laid hl) (rep_tup so (.ints [i / j, i % j]) hl)⟩
      · exact .inr ⟨i, j, rfl, divp_ok2 h.1 h2, fun l hl => p M _ _ (.laid so hl) (so.laid hl) (rep_tup so (.ints [i / j, i % j]) hl)⟩
    · exact p.elim
  · exact p.elim
end
end G
namespace G
open PySem PySem.Spec PyProof.Rows L2
def ixD : F2 := fun a b st => match b with
  | .int i => (match a with
    | .str x => if x.length ≤ 16777216 then (match atI x.cps.toList i with
        | some c => .ok (.str ⟨#[c]⟩) st
        | none => .fail) else .fail
    | a => match (seqOf a st).bind fun xs => atI xs i with
      | some d => .ok d st
      | none => .fail)
  | _ => .fail
def cutD (xs : List D) (lo hi : Option Int) : List D := (xs.drop (HT.sIx xs.length 0 lo)).take (HT.sIx xs.length xs.length hi - HT.sIx xs.length 0 lo)
def sliceD (a : D) (lo hi : Option Int) (st : Sto) : R D := match a with
  | .tup xs => .ok (.tup (cutD xs lo hi)) st
  | .str x => if x.length ≤ 16777216 then .ok (.str (cutS x lo hi)) st else .fail
  | a => match seqOf a st with
    | some xs => .ok (.lst (cutD xs lo hi)) st
    | none => .fail
abbrev EvO := Env → Sto → R (Option Int)
def noO : EvO := fun _ st => .ok none st
def someO (fa : EvE) : EvO := fun env st => (fa env st).bind fun a st1 => match a with
  | .int i => .ok (some i) st1
  | _ => .fail
def sliceE (fa : EvE) (lo hi : EvO) : EvE := fun env st => (fa env st).bind fun a st1 => (lo env st1).bind fun l st2 => (hi env st2).bind fun h st3 => sliceD a l h st3
section
variable {K : PySem.W.Frag}
theorem RepL.atI {M : Mem} {H : Hp} {ds : List D} {vs : List V} {i : Int} {d : D} (r : RepL K M H ds vs) (h : L2.atI ds i = some d) : ∃ v, L2.atI vs i = some v ∧ Rep K M H d v := by
  unfold L2.atI at h ⊢
  rw [r.length] at h
  obtain ⟨j, h1, h2⟩ := Option.bind_eq_some_iff.mp h
  obtain ⟨v, h3, h4⟩ := r.get h2
  exact ⟨v, by rw [h1]; exact h3, h4⟩
theorem RepL.cut {M : Mem} {H : Hp} {ds : List D} {vs : List V} (r : RepL K M H ds vs) (lo hi : Option Int) : RepL K M H (cutD ds lo hi) (cutV vs lo hi) := by
  unfold cutD cutV
  rw [r.length]
  exact (r.drop _).take _
theorem v_ix : OpV K (rIx K) ixD := by
  intro a b x y M H st Q E ra rb so p
  unfold ixD at p
  split at p
  · rename_i i
    rw [rep_int_iff] at rb; subst rb
    split at p
    · unfold Rep at ra; subst ra
      split at p
      · rename_i hz
        split at p
        · rename_i c hc
          exact .inr (.inr ⟨_, i, c, rfl, rfl, size_le hz, hc, p M H _ .refl so (rep_str _ _ _)⟩)
        · exact p.elim
      · exact p.elim
    · split at p
      · rename_i d hd
        obtain ⟨xs, h1, h2⟩ := Option.bind_eq_some_iff.mp hd
        obtain ⟨t, vs, rfl, q, s⟩ := seqOf_rep so h1 ra
        obtain ⟨v, h3, h4⟩ := q.atI h2
        rcases s with s | s
        · exact .inr (.inl ⟨t, vs, i, v, rfl, rfl, s, h3, p M H _ .refl so h4⟩)
        · exact .inl ⟨t, vs, i, v, rfl, rfl, s, h3, p M H _ .refl so h4⟩
      · exact p.elim
  · exact p.elim
def rSl (K : PySem.W.Frag) : V → Option Int → Option Int → Hp → VK → Prop := fun x lo hi H Q => rSlL K x lo hi H Q ∨ (rSlA K x lo hi H Q ∨ rSlS x lo hi H Q)
theorem o_sl {X : Cx} : SlR X (rSl X.K) := SlR.or sl_list (SlR.or sl_tupA sl_str)
theorem v_sl {a : D} {lo hi : Option Int} {x : V} {M : Mem} {H : Hp} {st : Sto} {Q : VK} {E : XK} (ra : Rep K M H a x) (so : StOk K M H st) (p : Post K (Rep K) M H Q E (sliceD a lo hi st)) : rSl K x lo hi H Q := by
  unfold sliceD at p
  split at p
  · rename_i xs
    have ra' := ra
    unfold Rep at ra
    obtain ⟨t, vs, rfl, f, q⟩ := ra
    refine .inr (.inl ⟨t, vs, rfl, f.sq, fun hw => ?_, fun _ l hl => p M _ _ (.laid so hl) (so.laid hl) (rep_tup so (q.cut lo hi) hl)⟩)
    have e : cutD xs lo hi = xs := by
      unfold cutD
      rw [q.length, hw.1, hw.2, List.drop_zero, Nat.sub_zero, ← q.length, List.take_length]
    rw [e] at p
    exact p M H _ .refl so ra'
  · split at p
    · rename_i hz
      unfold Rep at ra; subst ra
      exact .inr (.inr ⟨_, rfl, size_le hz, p M H _ .refl so (rep_str _ _ _)⟩)
    · exact p.elim
  · rename_i hn1 hn2
    split at p
    · rename_i xs h
      obtain ⟨t, vs, rfl, q, s⟩ := seqOf_list so h (fun ys e => hn1 ys e) ra
      exact .inl ⟨t, vs, rfl, s, fun l hl => p M _ _ (.laid so hl) (so.laid hl) (rep_lst so (q.cut lo hi) hl)⟩
    · exact p.elim
end
abbrev rdO (K : PySem.W.Frag) (W : WX) (f : EvO) : TO := rd K (fun _ _ a b => a = b) W f
section
variable {X : Cx} {W : WX} {a b : Expr} {fa fb : EvE} {pos p2 : Pos} {lo hi : Option Expr} {fl fh : EvO}
theorem _root_.L2.PO.imp {e : Option Expr} {t t' : TO} (h : PO X e t) (i : ∀ σ H Q, t' σ H Q → t σ H Q) : PO X e t' := ⟨fun pins s σ H Q I q => h.run pins s σ H Q I (i σ H Q q)⟩
theorem g_no : PO X none (rdO X.K W noO) := po_none.imp fun σ H Q ⟨env, M, st, eo, so, p⟩ => p M H none .refl so rfl
theorem g_some (h : PE X a (rdE X.K W fa)) : PO X (some a) (rdO X.K W (someO fa)) := (po_some h).imp fun σ H Q ⟨env, M, st, eo, so, p⟩ => ⟨env, M, st, eo, so, Post.imp (Post.bind p) fun x H1 ⟨M1, st1, a, g, so1, ra, p1⟩ => by
  cases a with
  | int i =>
    rw [rep_int_iff] at ra; subst ra
    exact ⟨i, rfl, p1 M1 H1 _ .refl so1 rfl⟩
  | _ => exact p1.elim⟩
theorem g_ix (ha : PE X a (rdE X.K W fa)) (hb : PE X b (rdE X.K W fb)) (hs : PlainIx b) : PE X (.Subscript a b pos) (rdE X.K W (binE ixD fa fb)) :=
  (pe_ix ix_seq ha hb hs).imp (rd_bin v_ix)
theorem g_slice (ha : PE X a (rdE X.K W fa)) (hl : PO X lo (rdO X.K W fl)) (hh : PO X hi (rdO X.K W fh)) : PE X (.Subscript a (.Slice lo hi none p2) pos) (rdE X.K W (sliceE fa fl fh)) :=
  (pe_slice o_sl ha hl hh).imp fun σ H Q ⟨env, M, st, eo, so, p⟩ => ⟨env, M, st, eo, so, Post.imp (Post.bind p) fun x H1 ⟨M1, st1, a, g, so1, ra, p1⟩ =>
    ⟨env, M1, st1, eo.grow g, so1, Post.imp (Post.bind (rep := fun _ _ a b => a = b) p1) fun l H2 ⟨M2, st2, l', g2, so2, rl, p2⟩ => by
      subst rl
      exact ⟨env, M2, st2, (eo.grow g).grow g2, so2, Post.imp (Post.bind (rep := fun _ _ a b => a = b) p2) fun h H3 ⟨M3, st3, h', g3, so3, rh, p3⟩ => by
        subst rh
        exact v_sl (ra.grow (g2.trans g3)) so3 p3⟩⟩⟩
end
inductive Tag where
  | non | bl | int | str | tup | lst | dic
def tyName : Tag → String
  | .non => "NoneType" | .bl => "bool" | .int => "int" | .str => "str" | .tup => "tuple" | .lst => "list" | .dic => "dict"
def isiB : Tag → Tag → Bool
  | .non, .non => true | .bl, .bl => true | .int, .int => true | .str, .str => true | .tup, .tup => true | .lst, .lst => true | .dic, .dic => true
  | .bl, .int => true
  | _, _ => false
def tagOf (a : D) (st : Sto) : Option Tag := match a with
  | .non => some .non | .bl _ => some .bl | .int _ => some .int | .str _ => some .str | .tup _ => some .tup | .lst _ => some .lst | .slo _ => some .lst
  | .mut n => (match st[n]? with
    | some (.lst _) => some .lst
    | _ => none)
  | .raw _ => none
  | .fn _ => none
  | .exv .. => none
  | .rg .. => none
  | .dic => some .dic
  | .emp => some .dic
def isiD (c : Tag) : F1 := fun a st => match tagOf a st with
  | some t => .ok (.bl (isiB t c)) st
  | none => .fail
theorem kit_tag : ∀ t c, kitB (tyName t) (tyName c) = some (isiB t c) := by
  intro t c
  cases t <;> cases c <;> decide +kernel
theorem tagOf_rep {K : PySem.W.Frag} {M : Mem} {H : Hp} {a : D} {st : Sto} {t : Tag} {x : V} (so : StOk K M H st) (h : tagOf a st = some t) (r : Rep K M H a x) : TyX K H x (.type (tyName t)) := by
  unfold tagOf at h
  split at h
  · cases h; unfold Rep at r; subst r; exact .base .non
  · cases h; unfold Rep at r; subst r; exact .base (.bl _)
  · cases h; unfold Rep at r; subst r; exact .base (.int _)
  · cases h; unfold Rep at r; subst r; exact .base (.str _)
  · cases h; unfold Rep at r; obtain ⟨p, vs, rfl, f, q⟩ := r
    exact .base (.tup f.1)
  · cases h; unfold Rep at r; obtain ⟨p, vs, rfl, f, q⟩ := r
    exact .base (.lst f.1)
  · cases h; unfold Rep at r; obtain ⟨p, vs, rfl, f, q⟩ := r
    rcases f with ⟨f | ⟨o, f⟩, _⟩ | ⟨o, its, n, f1, f2, _⟩
    · exact .base (.lst f)
    · exact .base (.frz f)
    · exact .kList f1 f2
  · split at h
    · rename_i e
      cases h; unfold Rep at r; obtain ⟨p, rfl, m⟩ := r
      obtain ⟨vs, hv, _⟩ := so.at_ _ p _ m e
      exact .base (.lst hv)
    · cases h
  · cases h
  · cases h
  · cases h
  · cases h
  · cases h; unfold Rep at r; obtain ⟨p, kvs, rfl, f, n⟩ := r
    exact .base (.dK f)
  · cases h; unfold Rep at r; obtain ⟨p, rfl, f, n⟩ := r
    exact .base (.dK f)
section
variable {X : Cx} {W : WX} {a : Expr} {fa : EvE} {p q pos : Pos}
theorem g_isi (c : Tag) {nm : Str} (ha : PE X a (rdE X.K W fa)) (h0 : ∀ {te : TE}, PE X a te → PE X (.Call (.Name "isinstance" p) [a, .Name nm q] [] pos) (tCB (rIsi X.K) (tCons te (tCons (tC (.ty (tyName c))) tNil)))) :
    PE X (.Call (.Name "isinstance" p) [a, .Name nm q] [] pos) (rdE X.K W (unE (isiD c) fa)) :=
  (h0 ha).imp fun σ H Q ⟨env, M, st, eo, so, p⟩ => ⟨env, M, st, eo, so, Post.imp (Post.bind p) fun x H1 ⟨M1, st1, a, g, so1, ra, p1⟩ => by
    unfold isiD at p1
    split at p1
    · rename_i t h
      exact ⟨x, .ty (tyName c), .type (tyName t), .type (tyName c), isiB t c, rfl, .ty _, tagOf_rep so1 h ra, kit_ty (kit_tag t c), p1 M1 H1 _ .refl so1 (rep_bl _ _ _)⟩
    · exact p1.elim⟩
end
inductive S where
  | nx (env : Env) (st : Sto) | ret (d : D) (st : Sto) | brk (env : Env) (st : Sto) | cont (env : Env) (st : Sto) | exc (e : Ex) (env : Env) (st : Sto) | fail
abbrev SvS := Env → Sto → S
def PostS (K : PySem.W.Frag) (M : Mem) (H : Hp) (T : Ends) (W : WX) : S → Prop
  | .nx env st => ∀ M' H' σ', Grow M H M' H' → StOk K M' H' st → EnvOk K M' H' env σ' → T.nx σ' H'
  | .ret d st => ∀ M' H' v, Grow M H M' H' → StOk K M' H' st → Rep K M' H' d v → T.rt v H'
  | .brk env st => ∀ M' H' σ', Grow M H M' H' → StOk K M' H' st → EnvOk K M' H' env σ' → T.bk σ' H'
  | .cont env st => ∀ M' H' σ', Grow M H M' H' → StOk K M' H' st → EnvOk K M' H' env σ' → T.ct σ' H'
  | .exc e env st => ∀ M' H' σ' c od, Grow M H M' H' → StOk K M' H' st → EnvOk K M' H' env σ' → RepX K M' H' e c od → W c od σ' H'
  | .fail => False
theorem PostS.mono {K : PySem.W.Frag} {M M1 : Mem} {H H1 : Hp} {T : Ends} {W : WX} {s : S} (g : Grow M H M1 H1) (p : PostS K M H T W s) : PostS K M1 H1 T W s := by
  cases s with
  | nx env st => exact fun M' H' σ' g' => p M' H' σ' (g.trans g')
  | ret d st => exact fun M' H' v g' => p M' H' v (g.trans g')
  | brk env st => exact fun M' H' σ' g' => p M' H' σ' (g.trans g')
  | cont env st => exact fun M' H' σ' g' => p M' H' σ' (g.trans g')
  | exc e env st => exact fun M' H' σ' c od g' => p M' H' σ' c od (g.trans g')
  | fail => exact p
def rdS (K : PySem.W.Frag) (W : WX) (f : SvS) : TS := fun T σ H => ∃ env M st, EnvOk K M H env σ ∧ StOk K M H st ∧ PostS K M H T W (f env st)
def bindS {α : Type} (r : R α) (env : Env) (k : α → Sto → S) : S := match r with
  | .ok a st => k a st
  | .exc e st => .exc e env st
  | .fail => .fail
@[simp] theorem bindS_ok {α : Type} (a : α) (st : Sto) (env : Env) (k : α → Sto → S) : bindS (.ok a st) env k = k a st := rfl
theorem PostS.bind {α β : Type} {K : PySem.W.Frag} {rep : RR α β} {M : Mem} {H : Hp} {T : Ends} {W : WX} {r : R α} {env : Env} {k : α → Sto → S} {σ : L2.St} (eo : EnvOk K M H env σ) (p : PostS K M H T W (bindS r env k)) :
    Post K rep M H (fun b H1 => ∃ M1 st1 a, Grow M H M1 H1 ∧ StOk K M1 H1 st1 ∧ rep M1 H1 a b ∧ PostS K M1 H1 T W (k a st1)) (WE W σ) r := by
  cases r with
  | ok a st => exact fun M' H' b g so h => ⟨M', st, a, g, so, h, PostS.mono g p⟩
  | exc e st => exact fun M' H' c od g so h => p M' H' σ c od g so (eo.grow g) h
  | fail => exact p
def passS : SvS := fun env st => .nx env st
def retS (fa : EvE) : SvS := fun env st => bindS (fa env st) env fun d st1 => .ret d st1
def exprS (fa : EvE) : SvS := fun env st => bindS (fa env st) env fun _ st1 => .nx env st1
def ifS (t : EvB) (f g : SvS) : SvS := fun env st => bindS (t env st) env fun b st1 => if b = true then f env st1 else g env st1
def seqS (f g : SvS) : SvS := fun env st => match f env st with
  | .nx env1 st1 => g env1 st1
  | s => s
section
variable {X : Cx} {W : WX} {s : Stmt} {rest : List Stmt} {a : Expr} {fa : EvE} {t : EvB} {f g : SvS} {pos : Pos}
theorem s_nil : PSs X [] (rdS X.K W passS) := pss_nil.imp fun T σ H ⟨env, M, st, eo, so, p⟩ => p M H σ .refl so eo
theorem s_cons (h1 : PS X s (rdS X.K W f)) (h2 : PSs X rest (rdS X.K W g)) : PSs X (s :: rest) (rdS X.K W (seqS f g)) :=
  (pss_cons h1 h2).imp fun T σ H ⟨env, M, st, eo, so, p⟩ => ⟨env, M, st, eo, so, by
    unfold seqS at p
    cases e : f env st with
    | nx env1 st1 =>
      rw [e] at p
      exact fun M' H' σ' gr so' eo' => ⟨env1, M', st1, eo', so', PostS.mono gr p⟩
    | ret d st1 => rw [e] at p; exact p
    | brk env1 st1 => rw [e] at p; exact p
    | cont env1 st1 => rw [e] at p; exact p
    | exc x env1 st1 => rw [e] at p; exact p
    | fail => rw [e] at p; exact p⟩
theorem s_one (h1 : PS X s (rdS X.K W f)) : PSs X [s] (rdS X.K W f) := pss_one h1
theorem s_ret (h : PE X a (rdE X.K W fa)) : PS X (.Return (some a) pos) (rdS X.K W (retS fa)) :=
  (ps_ret h).imp fun T σ H ⟨env, M, st, eo, so, p⟩ => ⟨env, M, st, eo, so, Post.imp (PostS.bind eo p) fun x H1 ⟨M1, st1, d, g, so1, ra, p1⟩ => p1 M1 H1 x .refl so1 ra⟩
theorem s_expr (h : PE X a (rdE X.K W fa)) (hs : swapsWith a none pos.line X.env = pure false) : PS X (.Expr a pos) (rdS X.K W (exprS fa)) :=
  (ps_expr h hs).imp fun T σ H ⟨env, M, st, eo, so, p⟩ => ⟨env, M, st, eo, so, Post.imp (PostS.bind eo p) fun x H1 ⟨M1, st1, d, g, so1, ra, p1⟩ => p1 M1 H1 σ .refl so1 (eo.grow g)⟩
theorem s_if {c : Expr} {A B : List Stmt} (hc : PT X c (rdB X.K W t)) (ha : PSs X A (rdS X.K W f)) (hb : PSs X B (rdS X.K W g)) : PS X (.If c A B pos) (rdS X.K W (ifS t f g)) :=
  (ps_if hc ha hb).imp fun T σ H ⟨env, M, st, eo, so, p⟩ => ⟨env, M, st, eo, so, Post.imp (PostS.bind (rep := fun _ _ a b => a = b) eo p) fun x H1 ⟨M1, st1, d, gr, so1, ra, p1⟩ => by
    subst ra
    cases d with
    | true => exact ⟨env, M1, st1, eo.grow gr, so1, p1⟩
    | false => exact ⟨env, M1, st1, eo.grow gr, so1, p1⟩⟩
end
abbrev TgF := D → Env → Sto → R Env
def rdG (K : PySem.W.Frag) (W : WX) (f : TgF) : TG := fun v σ H Q => ∃ d env M st, Rep K M H d v ∧ EnvOk K M H env σ ∧ StOk K M H st ∧ Post K (EnvOk K) M H Q (WE W σ) (f d env st)
def rdGs (K : PySem.W.Frag) (W : WX) (f : List D → Env → Sto → R Env) : TGs := fun vs σ H Q => ∃ ds env M st, RepL K M H ds vs ∧ EnvOk K M H env σ ∧ StOk K M H st ∧ Post K (EnvOk K) M H Q (WE W σ) (f ds env st)
def nameT (i : Nat) : TgF := fun d env st => .ok (env.set i (some d)) st
def nilT : List D → Env → Sto → R Env := fun ds env st => match ds with
  | [] => .ok env st
  | _ => .fail
def consT (f : TgF) (fs : List D → Env → Sto → R Env) : List D → Env → Sto → R Env := fun ds env st => match ds with
  | d :: r => (match f d env st with
    | .ok env1 st1 => (match fs r env1 st1 with
      | .ok env2 st2 => .ok env2 st2
      | _ => .fail)
    | _ => .fail)
  | [] => .fail
def tupT (n : Nat) (fs : List D → Env → Sto → R Env) : TgF := fun d env st => match d with
  | .tup xs => if xs.length = n then fs xs env st else .fail
  | _ => .fail
def setD (o i d : D) (st : Sto) : Option Sto := match o, i with
  | .mut n, .int k => (match st[n]? with
    | some (.lst xs) => (ixN xs.length k).map fun j => st.set n (.lst (xs.set j d))
    | _ => none)
  | _, _ => none
def subT (fo fi : EvE) : TgF := fun d env st => (fo env st).bind fun o st1 => (fi env st1).bind fun i st2 => match setD o i d st2 with
  | some st3 => .ok env st3
  | none => .fail
def asgS (fa : EvE) (g : TgF) : SvS := fun env st => bindS (fa env st) env fun d st1 => bindS (g d env st1) env fun env1 st2 => .nx env1 st2
section
variable {X : Cx} {W : WX} {tg a b : Expr} {es : List Expr} {fa fb : EvE} {f : TgF} {fs : List D → Env → Sto → R Env} {pos : Pos}
theorem _root_.L2.PG.imp {t t' : TG} (h : PG X tg t) (i : ∀ v σ H Q, t' v σ H Q → t v σ H Q) : PG X tg t' := ⟨fun pins s σ H v u Q I r q => h.run pins s σ H v u Q I r (i v σ H Q q)⟩
theorem _root_.L2.PGs.imp {t t' : TGs} (h : PGs X es t) (i : ∀ v σ H Q, t' v σ H Q → t v σ H Q) : PGs X es t' := ⟨fun pins s σ H v u Q I r q => h.run pins s σ H v u Q I r (i v σ H Q q)⟩
theorem t_name {i : Nat} (h : PG X tg (gName i)) : PG X tg (rdG X.K W (nameT i)) := h.imp fun v σ H Q ⟨d, env, M, st, r, eo, so, p⟩ => p M H _ .refl so (eo.set i r)
theorem t_nil : PGs X [] (rdGs X.K W nilT) := pgs_nil.imp fun v σ H Q ⟨ds, env, M, st, r, eo, so, p⟩ => by
  cases ds with
  | nil => unfold RepL at r; exact ⟨r, p M H _ .refl so eo⟩
  | cons d ds => exact p.elim
theorem t_cons (h1 : PG X tg (rdG X.K W f)) (h2 : PGs X es (rdGs X.K W fs)) (hs : (assignEach (tg :: es) X.env).map (·.2) = assign tg X.env :: (assignEach es X.env).map (·.2)) : PGs X (tg :: es) (rdGs X.K W (consT f fs)) := (pgs_cons h1 h2 hs).imp fun v σ H Q ⟨ds, env, M, st, r, eo, so, p⟩ => by
  cases ds with
  | nil => exact p.elim
  | cons d ds =>
    unfold RepL at r
    obtain ⟨x, rr, rfl, r1, r2⟩ := r
    unfold consT at p
    cases e : f d env st with
    | exc x s => simp only [e] at p; exact p.elim
    | fail => simp only [e] at p; exact p.elim
    | ok env1 st1 =>
      simp only [e] at p
      refine ⟨x, rr, rfl, d, env, M, st, r1, eo, so, ?_⟩
      rw [e]
      intro M' H' σ' g so' eo'
      refine ⟨ds, env1, M', st1, r2.grow g, eo', so', ?_⟩
      cases e2 : fs ds env1 st1 with
      | exc x s => simp only [e2] at p; exact p.elim
      | fail => simp only [e2] at p; exact p.elim
      | ok env2 st2 =>
        simp only [e2] at p
        exact fun M2 H2 σ2 g2 so2 eo2 => p M2 H2 σ2 (g.trans g2) so2 eo2
theorem t_tup {n : Nat} {k : Nat} (h : PG X (.Tuple es k pos) (gTup X.K n (rdGs X.K W fs))) : PG X (.Tuple es k pos) (rdG X.K W (tupT n fs)) := h.imp fun v σ H Q ⟨d, env, M, st, r, eo, so, p⟩ => by
  unfold tupT at p
  split at p
  · rename_i xs
    split at p
    · rename_i hl
      unfold Rep at r
      obtain ⟨t, vs, rfl, fz, q⟩ := r
      exact ⟨t, vs, rfl, fz.sq, by rw [← q.length]; exact hl, xs, env, M, st, q, eo, so, p⟩
    · exact p.elim
  · exact p.elim
theorem setD_rep {K : PySem.W.Frag} {M : Mem} {H : Hp} {o i d : D} {st st' : Sto} {x y v : V} {Q : Hp → Prop} (so : StOk K M H st) (h : setD o i d st = some st') (r1 : Rep K M H o x) (r2 : Rep K M H i y) (r3 : Rep K M H d v)
    (q : ∀ H', Grow M H M H' → StOk K M H' st' → Q H') : rSetL x y v H Q := by
  unfold setD at h
  split at h
  · rename_i n k
    split at h
    · rename_i xs e
      obtain ⟨j, hj, rfl⟩ := Option.map_eq_some_iff.mp h
      unfold Rep at r1 r2
      obtain ⟨p, rfl, m⟩ := r1
      subst r2
      obtain ⟨vs, hv, rl⟩ := so.at_ n p _ m e
      rw [rl.length] at hj
      exact ⟨p, vs, k, j, rfl, rfl, hv, hj, q _ (.put so m) (so.putL m (rl.set r3 j))⟩
    · cases h
  · cases h
theorem t_sub (ha : PE X a (rdE X.K W fa)) (hb : PE X b (rdE X.K W fb)) (h0 : PG X (.Subscript a b pos) (gSub (rdE X.K W fa) (rdE X.K W fb) rSetL)) : PG X (.Subscript a b pos) (rdG X.K W (subT fa fb)) :=
  h0.imp fun v σ H Q ⟨d, env, M, st, r, eo, so, p⟩ => ⟨env, M, st, eo, so, Post.imp (Post.bind p) fun x H1 ⟨M1, st1, o, g, so1, ro, p1⟩ =>
    ⟨env, M1, st1, eo.grow g, so1, Post.imp (Post.bind (rep := Rep X.K) p1) fun y H2 ⟨M2, st2, i, g2, so2, ri, p2⟩ => by
      split at p2
      · rename_i st3 h
        exact setD_rep so2 h (ro.grow g2) ri (r.grow (g.trans g2)) fun H' g3 so3 => p2 M2 H' σ g3 so3 ((eo.grow (g.trans g2)).grow g3)
      · exact p2.elim⟩⟩
theorem s_asg {sp : Pos} (h0 : PS X (.Assign [tg] a sp) (tAsg (rdE X.K W fa) (rdG X.K W f))) : PS X (.Assign [tg] a sp) (rdS X.K W (asgS fa f)) :=
  h0.imp fun T σ H ⟨env, M, st, eo, so, p⟩ => ⟨env, M, st, eo, so, Post.imp (PostS.bind eo p) fun x H1 ⟨M1, st1, d, g, so1, ra, p1⟩ =>
    ⟨d, env, M1, st1, ra, eo.grow g, so1, Post.imp (PostS.bind (rep := EnvOk X.K) (eo.grow g) p1) fun σ2 H2 ⟨M2, st2, env2, g2, so2, eo2, p2⟩ => p2 M2 H2 σ2 .refl so2 eo2⟩⟩
end
end G
namespace G
open PySem PySem.Spec PyProof.Rows L2
inductive ItD where
  | frz (xs : List D)
  | gen (nxt : Nat → Sto → Option (Option D)) (most : Nat)
abbrev EvI := Env → Sto → R ItD
def ItRep (K : PySem.W.Frag) : RR ItD It := fun M H it J => match it with
  | .frz xs => ∀ i M' H' st', Keep M H M' H' → StOk K M' H' st' → (i = xs.length → J.stop i H') ∧ ∀ d, xs[i]? = some d → J.go i H' ∧ ∀ x H'', J.yld i H' x H'' → Grow M' H' M' H'' ∧ StOk K M' H'' st' ∧ Rep K M' H'' d x
  | .gen nxt _ => ∀ i M' H' st', Keep M H M' H' → StOk K M' H' st' → (nxt i st' = some none → J.stop i H') ∧ ∀ d, nxt i st' = some (some d) → J.go i H' ∧ ∀ x H'', J.yld i H' x H'' → Grow M' H' M' H'' ∧ StOk K M' H'' st' ∧ Rep K M' H'' d x
abbrev rdI (K : PySem.W.Frag) (W : WX) (f : EvI) : TI := rd K (ItRep K) W f
def mutNxt (n : Nat) : Nat → Sto → Option (Option D) := fun i st => match st[n]? with
  | some (.lst ys) => some ys[i]?
  | _ => none
def iterD (d : D) (st : Sto) : R ItD := match d with
  | .mut n => (match st[n]? with
    | some (.lst ys) => .ok (.gen (mutNxt n) ys.length) st
    | _ => .fail)
  | d => (match itemsOf d with
    | some xs => .ok (.frz xs) st
    | none => .fail)
def iterE (fa : EvE) : EvI := fun env st => (fa env st).bind iterD
section
variable {K : PySem.W.Frag} {M M' : Mem} {H H' : Hp}
theorem itt_rep {a : Addr} {xs : List D} {vs : List V} (f : FzT K M H a vs) (q : RepL K M H xs vs) : ItRep K M H (.frz xs) (Itt K a) := fun i M' H' st' g so => by
  have f' := (g.fzT f).sq
  have q' := q.kp g
  refine ⟨fun e => ⟨vs, f', by rw [← q.length]; omega⟩, fun d hd => ?_⟩
  obtain ⟨v, hv, r⟩ := q'.get hd
  refine ⟨⟨vs, v, f', hv⟩, fun x H'' ⟨e, hx⟩ => ?_⟩
  subst e
  have := hx vs f'
  rw [hv] at this; cases this
  exact ⟨.refl, so, r⟩
theorem itl_rep {a : Addr} {xs : List D} {vs : List V} (f : ∀ M' H', Keep M H M' H' → SqL K H' a vs) (q : RepL K M H xs vs) : ItRep K M H (.frz xs) (Itl K a) := fun i M' H' st' g so => by
  have f' := f _ _ g
  have q' := q.kp g
  refine ⟨fun e => ⟨vs, f', by rw [← q.length]; omega⟩, fun d hd => ?_⟩
  obtain ⟨v, hv, r⟩ := q'.get hd
  refine ⟨⟨vs, v, f', hv⟩, fun x H'' ⟨e, hx⟩ => ?_⟩
  subst e
  have := hx vs f'
  rw [hv] at this; cases this
  exact ⟨.refl, so, r⟩
theorem itm_rep {a : Addr} {n k : Nat} (m : M.m[n]? = some a) : ItRep K M H (.gen (mutNxt n) k) (Itl K a) := fun i M' H' st' g so => by
  have m' := g.pre n a m
  unfold mutNxt
  cases e : st'[n]? with
  | none => exact ⟨(by simp), fun d h => by simp at h⟩
  | some mo =>
    cases mo with
    | dk _ => exact ⟨(by simp), fun d h => by simp at h⟩
    | dn _ => exact ⟨(by simp), fun d h => by simp at h⟩
    | gn _ => exact ⟨(by simp), fun d h => by simp at h⟩
    | dt _ => exact ⟨(by simp), fun d h => by simp at h⟩
    | fk _ => exact ⟨(by simp), fun d h => by simp at h⟩
    | dd _ => exact ⟨(by simp), fun d h => by simp at h⟩
    | de _ => exact ⟨(by simp), fun d h => by simp at h⟩
    | fd _ => exact ⟨(by simp), fun d h => by simp at h⟩
    | fe _ => exact ⟨(by simp), fun d h => by simp at h⟩
    | lst ys =>
      obtain ⟨vs, hv, q⟩ := so.at_ n a _ m' e
      refine ⟨fun h => ⟨vs, .of hv, ?_⟩, fun d h => ?_⟩
      · have h : ys[i]? = none := by simpa using h
        rw [← q.length]; exact List.getElem?_eq_none_iff.mp h
      · have h : ys[i]? = some d := by simpa using h
        obtain ⟨v, h1, r⟩ := q.get h
        refine ⟨⟨vs, v, .of hv, h1⟩, fun x H'' ⟨e, hx⟩ => ?_⟩
        subst e
        have := hx vs (.of hv)
        rw [h1] at this; cases this
        exact ⟨.refl, so, r⟩
theorem itr_rep {lo : Int} {n : Nat} : ItRep K M H (.frz ((List.range n).map fun k => .int (lo + (k : Nat)))) (Itr lo n) := fun i M' H' st' g so => by
  refine ⟨fun e => ?_, fun d hd => ?_⟩
  · have : i = n := by simpa using e
    exact Nat.le_of_eq this.symm
  · rw [List.getElem?_map] at hd
    obtain ⟨k, hk, rfl⟩ := Option.map_eq_some_iff.mp hd
    obtain ⟨hk1, hk2⟩ := List.getElem?_eq_some_iff.mp hk
    have hn : i < n := by simpa using hk1
    simp at hk2
    subst hk2
    refine ⟨hn, fun x H'' ⟨e1, e2⟩ => ?_⟩
    subst e1 e2
    exact ⟨.refl, so, rep_int _ _ _⟩
end
section
variable {X : Cx} {W : WX} {tg l : Expr} {fa : EvE}
theorem g_iter (hl : PE X l (rdE X.K W fa)) : PI X tg l (rdI X.K W (iterE fa)) := ⟨fun pins s σ H R' I ⟨env, M, st, eo, so, p⟩ => by
  unfold iterE at p
  have useL : (∀ d st1, fa env st = .ok d st1 → ∀ M' H' v, Grow M H M' H' → StOk X.K M' H' st1 → Rep X.K M' H' d v → ∃ a, v = .ref a ∧ (∃ xs, SqL X.K H' a xs) ∧ R' (Itl X.K a) H') → (∀ st1, fa env st ≠ .fail) →
      (∀ e st1, fa env st = .exc e st1 → Post X.K (Rep X.K) M H (fun _ _ => False) (WE W σ) (fa env st)) → wpAny (model X.prog X.w) X.A (eval l X.env) (fun v s1 => wpAny (model X.prog X.w) X.A (pyIter v) (PIE X pins σ tg R') X.xe s1) X.xe s := fun h1 h2 h3 =>
    (pi_list hl).run pins s σ H R' I ⟨env, M, st, eo, so, by
      cases e : fa env st with
      | ok d st1 => exact h1 d st1 e
      | exc x st1 => have := h3 x st1 e; rw [e] at this; exact this
      | fail => exact absurd e (h2 st)⟩
  cases e : fa env st with
  | fail => rw [e] at p; exact p.elim
  | exc x st1 =>
    refine useL (fun d st1 e' => by rw [e] at e'; cases e') (fun st1 e' => by rw [e] at e'; cases e') fun x' st1' e' => ?_
    rw [e] at p ⊢
    exact p
  | ok d st1 =>
    rw [e] at p
    have p : Post X.K (ItRep X.K) M H R' (WE W σ) (iterD d st1) := p
    unfold iterD at p
    have fin : (∀ M' H' v, Grow M H M' H' → StOk X.K M' H' st1 → Rep X.K M' H' d v → ∃ a, v = .ref a ∧ (∃ xs, SqL X.K H' a xs) ∧ R' (Itl X.K a) H') → wpAny (model X.prog X.w) X.A (eval l X.env) (fun v s1 => wpAny (model X.prog X.w) X.A (pyIter v) (PIE X pins σ tg R') X.xe s1) X.xe s := fun h =>
      useL (fun d' st1' e' => by rw [e] at e'; cases e'; exact h) (fun st1 e' => by rw [e] at e'; cases e') fun x' st1' e' => by rw [e] at e'; cases e'
    cases d with
    | «mut» n =>
      split at p
      · rename_i n' h
        cases h
        split at p
        · rename_i ys e2
          refine fin fun M' H' v g so' r => ?_
          unfold Rep at r
          obtain ⟨a, rfl, m⟩ := r
          obtain ⟨vs, hv, _⟩ := so'.at_ n a _ m e2
          exact ⟨a, rfl, ⟨vs, .of hv⟩, p M' H' _ g so' (itm_rep m)⟩
        · exact p.elim
      · rename_i h
        exact absurd rfl (h n)
    | tup xs =>
      refine (pi_tup hl).run pins s σ H R' I ⟨env, M, st, eo, so, ?_⟩
      rw [e]
      intro M' H' v g so' r
      unfold Rep at r
      obtain ⟨a, vs, rfl, f, q⟩ := r
      exact ⟨a, rfl, ⟨vs, f.sq⟩, p M' H' _ g so' (itt_rep f q)⟩
    | lst xs =>
      refine fin fun M' H' v g so' r => ?_
      unfold Rep at r
      obtain ⟨a, vs, rfl, f, q⟩ := r
      exact ⟨a, rfl, ⟨vs, f.sq⟩, p M' H' _ g so' (itl_rep (fun M2 H2 g2 => .of (g2.keep _ _ f.1 f.2).1) q)⟩
    | slo xs =>
      refine fin fun M' H' v g so' r => ?_
      unfold Rep at r
      obtain ⟨a, vs, rfl, f, q⟩ := r
      exact ⟨a, rfl, ⟨vs, f.sq⟩, p M' H' _ g so' (itl_rep (fun M2 H2 g2 => (g2.fzL f).sq) q)⟩
    | non => exact p.elim
    | bl _ => exact p.elim
    | int _ => exact p.elim
    | str _ => exact p.elim
    | raw _ => exact p.elim
    | fn _ => exact p.elim
    | emp => exact p.elim
    | rg _ _ => exact p.elim
    | exv => exact p.elim
    | dic => exact p.elim⟩
end
def range1F (as : List D) (st : Sto) : R ItD := match as with
  | [.int j] => if j.natAbs < 2 ^ 62 then .ok (.frz ((List.range j.toNat).map fun k => .int (0 + (k : Nat)))) st else .fail
  | _ => .fail
def range2F (as : List D) (st : Sto) : R ItD := match as with
  | [.int i, .int j] => if i.natAbs < 2 ^ 62 ∧ j.natAbs < 2 ^ 62 then .ok (.frz ((List.range (j - i).toNat).map fun k => .int (i + (k : Nat)))) st else .fail
  | _ => .fail
def enumL (xs : List D) : List D := (List.range xs.length).zipWith (fun (i : Nat) x => .tup [.int (i : Nat), x]) xs
def enumNxt (n : Nat) : Nat → Sto → Option (Option D) := fun i st => match st[n]? with
  | some (.lst ys) => some ((ys[i]?).map fun x => .tup [.int (i : Nat), x])
  | _ => none
def zipO : Option D → Option D → Option D
  | some x, some y => some (.tup [x, y])
  | _, _ => none
def zipNxt (n m : Nat) : Nat → Sto → Option (Option D) := fun i st => match st[n]?, st[m]? with
  | some (.lst xs), some (.lst ys) => some (zipO xs[i]? ys[i]?)
  | _, _ => none
def enumF (as : List D) (st : Sto) : R ItD := match as with
  | [.mut n] => (match st[n]? with
    | some (.lst ys) => .ok (.gen (enumNxt n) ys.length) st
    | _ => .fail)
  | [d] => (match itemsOf d with
    | some xs => .ok (.frz (enumL xs)) st
    | none => .fail)
  | _ => .fail
def zipF (as : List D) (st : Sto) : R ItD := match as with
  | [.tup xs, .tup ys] => .ok (.frz (xs.zipWith (fun x y => .tup [x, y]) ys)) st
  | [.lst xs, .lst ys] => .ok (.frz (xs.zipWith (fun x y => .tup [x, y]) ys)) st
  | [.mut n, .mut m] => (match st[n]?, st[m]? with
    | some (.lst xs), some (.lst _) => .ok (.gen (zipNxt n m) xs.length) st
    | _, _ => .fail)
  | _ => .fail
def callI (f : List D → Sto → R ItD) (fs : EvA) : EvI := fun env st => (fs env st).bind f
section
variable {K : PySem.W.Frag} {M M' : Mem} {H H' : Hp}
@[simp] theorem enumL_length (xs : List D) : (enumL xs).length = xs.length := by simp [enumL]
theorem pair_new {st : Sto} {x y : D} {u v : V} {T : Addr} (so : StOk K M H st) (rx : Rep K M H x u) (ry : Rep K M H y v) (hT : H T = none) : Grow M H M (upd H T (.tup [u, v])) ∧ StOk K M (upd H T (.tup [u, v])) st ∧ Rep K M (upd H T (.tup [u, v])) (.tup [x, y]) (.ref T) :=
  ⟨.laid so hT, so.laid hT, rep_tup so (.cons rx (.cons ry .nil)) hT⟩
theorem zipO_some {x y : Option D} {d : D} (h : zipO x y = some d) : ∃ a b, x = some a ∧ y = some b ∧ d = .tup [a, b] := by
  unfold zipO at h
  split at h
  · cases h; exact ⟨_, _, rfl, rfl, rfl⟩
  · cases h
theorem zipO_none {x y : Option D} (h : zipO x y = none) : x = none ∨ y = none := by
  cases x with
  | none => exact .inl rfl
  | some a =>
    cases y with
    | none => exact .inr rfl
    | some b => cases h
theorem izm_rep {a b : Addr} {n m k : Nat} (ma : M.m[n]? = some a) (mb : M.m[m]? = some b) : ItRep K M H (.gen (zipNxt n m) k) (Itz K a b) := fun i M' H' st' g so => by
  have ma' := g.pre n a ma
  have mb' := g.pre m b mb
  cases ea : st'[n]? with
  | none => exact ⟨fun h => by simp [zipNxt, ea] at h, fun d h => by simp [zipNxt, ea] at h⟩
  | some mo =>
    cases eb : st'[m]? with
    | none => exact ⟨fun h => by simp [zipNxt, ea, eb] at h, fun d h => by simp [zipNxt, ea, eb] at h⟩
    | some mo2 =>
      cases mo with
      | dk _ => exact ⟨fun h => by simp [zipNxt, ea, eb] at h, fun d h => by simp [zipNxt, ea, eb] at h⟩
      | dn _ => exact ⟨fun h => by simp [zipNxt, ea, eb] at h, fun d h => by simp [zipNxt, ea, eb] at h⟩
      | gn _ => exact ⟨fun h => by simp [zipNxt, ea, eb] at h, fun d h => by simp [zipNxt, ea, eb] at h⟩
      | dt _ => exact ⟨fun h => by simp [zipNxt, ea, eb] at h, fun d h => by simp [zipNxt, ea, eb] at h⟩
      | fk _ => exact ⟨fun h => by simp [zipNxt, ea, eb] at h, fun d h => by simp [zipNxt, ea, eb] at h⟩
      | dd _ => exact ⟨fun h => by simp [zipNxt, ea, eb] at h, fun d h => by simp [zipNxt, ea, eb] at h⟩
      | de _ => exact ⟨fun h => by simp [zipNxt, ea, eb] at h, fun d h => by simp [zipNxt, ea, eb] at h⟩
      | fd _ => exact ⟨fun h => by simp [zipNxt, ea, eb] at h, fun d h => by simp [zipNxt, ea, eb] at h⟩
      | fe _ => exact ⟨fun h => by simp [zipNxt, ea, eb] at h, fun d h => by simp [zipNxt, ea, eb] at h⟩
      | lst xs =>
        cases mo2 with
        | dk _ => exact ⟨fun h => by simp [zipNxt, ea, eb] at h, fun d h => by simp [zipNxt, ea, eb] at h⟩
        | dn _ => exact ⟨fun h => by simp [zipNxt, ea, eb] at h, fun d h => by simp [zipNxt, ea, eb] at h⟩
        | gn _ => exact ⟨fun h => by simp [zipNxt, ea, eb] at h, fun d h => by simp [zipNxt, ea, eb] at h⟩
        | dt _ => exact ⟨fun h => by simp [zipNxt, ea, eb] at h, fun d h => by simp [zipNxt, ea, eb] at h⟩
        | fk _ => exact ⟨fun h => by simp [zipNxt, ea, eb] at h, fun d h => by simp [zipNxt, ea, eb] at h⟩
        | dd _ => exact ⟨fun h => by simp [zipNxt, ea, eb] at h, fun d h => by simp [zipNxt, ea, eb] at h⟩
        | de _ => exact ⟨fun h => by simp [zipNxt, ea, eb] at h, fun d h => by simp [zipNxt, ea, eb] at h⟩
        | fd _ => exact ⟨fun h => by simp [zipNxt, ea, eb] at h, fun d h => by simp [zipNxt, ea, eb] at h⟩
        | fe _ => exact ⟨fun h => by simp [zipNxt, ea, eb] at h, fun d h => by simp [zipNxt, ea, eb] at h⟩
        | lst ys =>
          obtain ⟨vs, hv, q⟩ := so.at_ n a _ ma' ea
          obtain ⟨ws, hw, q2⟩ := so.at_ m b _ mb' eb
          refine ⟨fun h => ⟨vs, ws, .of hv, .of hw, ?_⟩, fun d h => ?_⟩
          · have h : zipO xs[i]? ys[i]? = none := by simpa [zipNxt, ea, eb] using h
            rw [← q.length, ← q2.length]
            exact (zipO_none h).imp List.getElem?_eq_none_iff.mp List.getElem?_eq_none_iff.mp
          · have h : zipO xs[i]? ys[i]? = some d := by simpa [zipNxt, ea, eb] using h
            obtain ⟨x, y, e1, e2, rfl⟩ := zipO_some h
            obtain ⟨v, h1, r⟩ := q.get e1
            obtain ⟨w, h2, r2⟩ := q2.get e2
            refine ⟨⟨vs, ws, v, w, .of hv, .of hw, h1, h2⟩, fun z H'' ⟨T, x', y', e1, e2, e3, e4, e5⟩ => ?_⟩
            have := e4 vs (.of hv)
            rw [h1] at this; cases this
            have := e5 ws (.of hw)
            rw [h2] at this; cases this
            subst e1 e3
            exact pair_new so r r2 e2
theorem zipW_get {xs ys : List D} {i : Nat} {d : D} (h : (xs.zipWith (fun x y => D.tup [x, y]) ys)[i]? = some d) : ∃ x y, xs[i]? = some x ∧ ys[i]? = some y ∧ d = .tup [x, y] := by
  rw [List.getElem?_zipWith] at h
  cases e : xs[i]? with
  | none => rw [e] at h; simp at h
  | some x =>
    cases e2 : ys[i]? with
    | none => rw [e, e2] at h; simp at h
    | some y => rw [e, e2] at h; simp at h; exact ⟨x, y, rfl, rfl, h.symm⟩
theorem itz_rep {a b : Addr} {xs ys : List D} {vs ws : List V} (f : ∀ M' H', Keep M H M' H' → SqL K H' a vs) (q : RepL K M H xs vs) (f2 : ∀ M' H', Keep M H M' H' → SqL K H' b ws) (q2 : RepL K M H ys ws) :
    ItRep K M H (.frz (xs.zipWith (fun x y => .tup [x, y]) ys)) (Itz K a b) := fun i M' H' st' g so => by
  have f' := f _ _ g
  have q' := q.kp g
  have f2' := f2 _ _ g
  have q2' := q2.kp g
  refine ⟨fun e => ⟨vs, ws, f', f2', by rw [← q.length, ← q2.length]; simp at e; omega⟩, fun d hd => ?_⟩
  obtain ⟨x, y, hx, hy, rfl⟩ := zipW_get hd
  obtain ⟨v, hv, r⟩ := q'.get hx
  obtain ⟨w, hw, r2⟩ := q2'.get hy
  refine ⟨⟨vs, ws, v, w, f', f2', hv, hw⟩, fun z H'' ⟨T, x', y', e1, e2, e3, e4, e5⟩ => ?_⟩
  have := e4 vs f'
  rw [hv] at this; cases this
  have := e5 ws f2'
  rw [hw] at this; cases this
  subst e1 e3
  exact pair_new so r r2 e2
theorem itzt_rep {a b : Addr} {xs ys : List D} {vs ws : List V} (f : FzT K M H a vs) (q : RepL K M H xs vs) (f2 : FzT K M H b ws) (q2 : RepL K M H ys ws) :
    ItRep K M H (.frz (xs.zipWith (fun x y => .tup [x, y]) ys)) (RZ.ItzT K a b) := fun i M' H' st' g so => by
  have f' := (g.fzT f).sq
  have q' := q.kp g
  have f2' := (g.fzT f2).sq
  have q2' := q2.kp g
  refine ⟨fun e => ⟨vs, ws, f', f2', by rw [← q.length, ← q2.length]; simp at e; omega⟩, fun d hd => ?_⟩
  obtain ⟨x, y, hx, hy, rfl⟩ := zipW_get hd
  obtain ⟨v, hv, r⟩ := q'.get hx
  obtain ⟨w, hw, r2⟩ := q2'.get hy
  refine ⟨⟨vs, ws, v, w, f', f2', hv, hw⟩, fun z H'' ⟨T, x', y', e1, e2, e3, e4, e5⟩ => ?_⟩
  have := e4 vs f'
  rw [hv] at this; cases this
  have := e5 ws f2'
  rw [hw] at this; cases this
  subst e1 e3
  exact pair_new so r r2 e2
end
section
variable {X : Cx} {W : WX} {tg it : Expr} {fs : EvA}
theorem _root_.L2.PI.imp {t t' : TI} (h : PI X tg it t) (i : ∀ σ H R, t' σ H R → t σ H R) : PI X tg it t' := ⟨fun pins s σ H R I q => h.run pins s σ H R I (i σ H R q)⟩
theorem g_range1 (h : PI X tg it (iRng1 (rdA X.K W fs))) : PI X tg it (rdI X.K W (callI range1F fs)) := h.imp fun σ H R' ⟨env, M, st, eo, so, p⟩ => ⟨env, M, st, eo, so, Post.imp (Post.bind p) fun vs H1 ⟨M1, st1, as, g, so1, ra, p1⟩ => by
  unfold range1F at p1
  split at p1
  · split at p1
    · rename_i j hj
      obtain ⟨x, rfl, rx⟩ := ra.one
      rw [rep_int_iff] at rx; subst rx
      exact ⟨j, rfl, by omega, by omega, p1 M1 H1 _ .refl so1 itr_rep⟩
    · exact p1.elim
  · exact p1.elim⟩
theorem g_zip (h : PI X tg it (RZ.iZipA X.K (rdA X.K W fs))) : PI X tg it (rdI X.K W (callI zipF fs)) := h.imp fun σ H R' ⟨env, M, st, eo, so, p⟩ => ⟨env, M, st, eo, so, Post.imp (Post.bind p) fun vs H1 ⟨M1, st1, as, g, so1, ra, p1⟩ => by
  unfold zipF at p1
  split at p1
  · obtain ⟨x, y, rfl, rx, ry⟩ := ra.two
    unfold Rep at rx ry
    obtain ⟨a, vs, rfl, f, q⟩ := rx
    obtain ⟨b, ws, rfl, f2, q2⟩ := ry
    exact ⟨a, b, vs, ws, rfl, .inr ⟨f.sq, f2.sq, p1 M1 H1 _ .refl so1 (itzt_rep f q f2 q2)⟩⟩
  · obtain ⟨x, y, rfl, rx, ry⟩ := ra.two
    unfold Rep at rx ry
    obtain ⟨a, vs, rfl, f, q⟩ := rx
    obtain ⟨b, ws, rfl, f2, q2⟩ := ry
    exact ⟨a, b, vs, ws, rfl, .inl ⟨f.sq, f2.sq, p1 M1 H1 _ .refl so1 (itz_rep (fun _ _ g => .of (g.keep _ _ f.1 f.2).1) q (fun _ _ g => .of (g.keep _ _ f2.1 f2.2).1) q2)⟩⟩
  · rename_i n m
    obtain ⟨x, y, rfl, rx, ry⟩ := ra.two
    unfold Rep at rx ry
    obtain ⟨a, rfl, ma⟩ := rx
    obtain ⟨b, rfl, mb⟩ := ry
    split at p1
    · rename_i ea eb
      obtain ⟨vs, hv, _⟩ := so1.at_ n a _ ma ea
      obtain ⟨ws, hw, _⟩ := so1.at_ m b _ mb eb
      exact ⟨a, b, vs, ws, rfl, .inl ⟨.of hv, .of hw, p1 M1 H1 _ .refl so1 (izm_rep ma mb)⟩⟩
    · exact p1.elim
  · exact p1.elim⟩
end
def turnS (s : S) (k : Env → Sto → S) : S := match s with
  | .nx e st => k e st
  | .cont e st => k e st
  | .brk e st => .nx e st
  | s => s
def loopF (g : TgF) (body : SvS) : List D → SvS
  | [], env, st => .nx env st
  | x :: xs, env, st => turnS (bindS (g x env st) env body) (loopF g body xs)
def loopG (g : TgF) (body : SvS) (nxt : Nat → Sto → Option (Option D)) : Nat → Nat → SvS
  | 0, i, env, st => match nxt i st with
    | some none => .nx env st
    | _ => .fail
  | k + 1, i, env, st => match nxt i st with
    | some none => .nx env st
    | some (some x) => turnS (bindS (g x env st) env body) (loopG g body nxt k (i + 1))
    | none => .fail
def forS (it : EvI) (g : TgF) (body : SvS) : SvS := fun env st => bindS (it env st) env fun I st1 => match I with
  | .frz xs => loopF g body xs env st1
  | .gen nxt k => loopG g body nxt k 0 env st1
section
variable {X : Cx} {W : WX} {g : TgF} {body : SvS} {K : PySem.W.Frag}
theorem turn_rd {M0 M : Mem} {H0 H : Hp} {T : Ends} {env : Env} {st : Sto} {σ : L2.St} {d : D} {x : V} {k : Env → Sto → S} {N : L2.St → Hp → Prop} (gr : Grow M0 H0 M H) (eo : EnvOk K M H env σ) (so : StOk K M H st) (r : Rep K M H d x)
    (p : PostS K M H T W (turnS (bindS (g d env st) env body) k))
    (hN : ∀ env' M' H' st' σ', Grow M0 H0 M' H' → EnvOk K M' H' env' σ' → StOk K M' H' st' → PostS K M' H' T W (k env' st') → N σ' H') :
    rdG K W g x σ H fun σ2 H2 => rdS K W body { T with nx := N, ct := N, bk := T.nx } σ2 H2 := by
  refine ⟨d, env, M, st, r, eo, so, ?_⟩
  cases e : g d env st with
  | fail => rw [e] at p; exact p.elim
  | exc x st1 => rw [e] at p; exact fun M' H' c od g' so' h => p M' H' σ c od g' so' (eo.grow g') h
  | ok env1 st1 =>
    rw [e] at p
    intro M' H' σ' g' so' eo'
    refine ⟨env1, M', st1, eo', so', ?_⟩
    have p : PostS K M H T W (turnS (body env1 st1) k) := p
    unfold turnS at p
    cases e2 : body env1 st1 with
    | nx env2 st2 => rw [e2] at p; exact fun M2 H2 σ2 g2 so2 eo2 => hN env2 M2 H2 st2 σ2 ((gr.trans g').trans g2) eo2 so2 (PostS.mono (g'.trans g2) p)
    | cont env2 st2 => rw [e2] at p; exact fun M2 H2 σ2 g2 so2 eo2 => hN env2 M2 H2 st2 σ2 ((gr.trans g').trans g2) eo2 so2 (PostS.mono (g'.trans g2) p)
    | brk env2 st2 => rw [e2] at p; exact PostS.mono g' p
    | ret d2 st2 => rw [e2] at p; exact PostS.mono g' p
    | exc c env2 st2 => rw [e2] at p; exact PostS.mono g' p
    | fail => rw [e2] at p; exact p.elim
theorem rd_for {it : EvI} : ∀ T σ H, rdS K W (forS it g body) T σ H → tFor (rdI K W it) (rdG K W g) (rdS K W body) T σ H :=
  fun T σ H ⟨env, M, st, eo, so, p⟩ => ⟨env, M, st, eo, so, Post.imp (PostS.bind eo p) fun J H1 ⟨M1, st1, I, g1, so1, ri, p1⟩ => by
    cases I with
    | frz xs =>
      have p1 : PostS K M1 H1 T W (loopF g body xs env st1) := p1
      refine ⟨fun i m σ' H' => m = xs.length - i ∧ i ≤ xs.length ∧ ∃ env' M' st', Grow M1 H1 M' H' ∧ EnvOk K M' H' env' σ' ∧ StOk K M' H' st' ∧ PostS K M' H' T W (loopF g body (xs.drop i) env' st'),
        ⟨xs.length, by simp, Nat.zero_le _, env, M1, st1, .refl, eo.grow g1, so1, by simpa using p1⟩, ?_⟩
      rintro i m σ' H' ⟨rfl, hi, env', M', st', gr, eo', so', q⟩
      obtain ⟨r1, r2⟩ := ri i M' H' st' gr.k so'
      by_cases hlt : i < xs.length
      · have hd : xs[i]? = some xs[i] := List.getElem?_eq_getElem hlt
        obtain ⟨r3, r4⟩ := r2 _ hd
        refine .inr ⟨r3, _, fun σ2 H2 h => ⟨xs.length - (i + 1), by omega, rfl, hlt, h⟩, fun x H2 hy => ?_⟩
        obtain ⟨g2, so2, rx⟩ := r4 x H2 hy
        rw [List.drop_eq_getElem_cons hlt] at q
        exact turn_rd (gr.trans g2) (eo'.grow g2) so2 rx (PostS.mono g2 q) fun env3 M3 H3 st3 σ3 g3 eo3 so3 p3 => ⟨env3, M3, st3, g3, eo3, so3, p3⟩
      · have e : i = xs.length := by omega
        refine .inl ⟨r1 e, ?_⟩
        rw [e, List.drop_length] at q
        exact q M' H' σ' .refl so' eo'
    | gen nxt k =>
      have p1 : PostS K M1 H1 T W (loopG g body nxt k 0 env st1) := p1
      refine ⟨fun i m σ' H' => ∃ env' M' st', Grow M1 H1 M' H' ∧ EnvOk K M' H' env' σ' ∧ StOk K M' H' st' ∧ PostS K M' H' T W (loopG g body nxt m i env' st'),
        ⟨k, env, M1, st1, .refl, eo.grow g1, so1, p1⟩, ?_⟩
      rintro i m σ' H' ⟨env', M', st', gr, eo', so', q⟩
      obtain ⟨r1, r2⟩ := ri i M' H' st' gr.k so'
      cases m with
      | zero =>
        unfold loopG at q
        cases e : nxt i st' with
        | none => rw [e] at q; exact q.elim
        | some o =>
          cases o with
          | some x => rw [e] at q; exact q.elim
          | none => rw [e] at q; exact .inl ⟨r1 e, q M' H' σ' .refl so' eo'⟩
      | succ m =>
        unfold loopG at q
        cases e : nxt i st' with
        | none => rw [e] at q; exact q.elim
        | some o =>
          cases o with
          | none => rw [e] at q; exact .inl ⟨r1 e, q M' H' σ' .refl so' eo'⟩
          | some d =>
            rw [e] at q
            obtain ⟨r3, r4⟩ := r2 _ e
            refine .inr ⟨r3, _, fun σ2 H2 h => ⟨m, by omega, h⟩, fun x H2 hy => ?_⟩
            obtain ⟨g2, so2, rx⟩ := r4 x H2 hy
            exact turn_rd (gr.trans g2) (eo'.grow g2) so2 rx (PostS.mono g2 q) fun env3 M3 H3 st3 σ3 g3 eo3 so3 p3 => ⟨env3, M3, st3, g3, eo3, so3, p3⟩⟩
theorem s_for {it : EvI} {s : Stmt} (h : PS X s (tFor (rdI X.K W it) (rdG X.K W g) (rdS X.K W body))) : PS X s (rdS X.K W (forS it g body)) := h.imp rd_for
def whileF (t : EvB) (body : SvS) : Nat → SvS
  | 0, _, _ => .fail
  | k + 1, env, st => bindS (t env st) env fun b st1 => if b = true then turnS (body env st1) (whileF t body k) else .nx env st1
end
end G
namespace G
open PySem PySem.Spec PyProof.Rows L2
inductive Tg where
  | nm (i : Nat) | tp (ts : List Tg)
def gTL (K : PySem.W.Frag) (n : Nat) (t : TGs) : TG := fun v σ H Q => ∃ a xs, v = .ref a ∧ (SqT K H a xs ∨ SqL K H a xs) ∧ xs.length = n ∧ t xs σ H Q
theorem pg_tl {X : Cx} {pos : Pos} {es : List Expr} {k : Nat} {t : TGs} {n : Nat} (hc : X.calm = true) (h : PGs X es t)
    (hn : (assignEach es X.env).length = n := by rfl) (hst : (assignEach es X.env).findIdx? (·.1) = none := by rfl) : PG X (.Tuple es k pos) (gTL X.K n t) := by
  refine ⟨fun pins s σ H v u Q I r hw => ?_⟩
  obtain ⟨a, xs, e1, hq, hl, hw⟩ := hw
  rcases hq with hq | hq
  · exact (pg_tup hc h hn hst).run pins s σ H v u Q I r ⟨a, xs, e1, hq, hl, hw⟩
  · exact (pg_lst hc h hn hst).run pins s σ H v u Q I r ⟨a, xs, e1, hq, hl, hw⟩
mutual
def Tg.raw (K : PySem.W.Frag) : Tg → TG
  | .nm i => gName i
  | .tp ts => gTL K ts.length (Tg.raws K ts)
def Tg.raws (K : PySem.W.Frag) : List Tg → TGs
  | [] => gNil
  | t :: ts => gCons (Tg.raw K t) (Tg.raws K ts)
end
mutual
def Tg.set : Tg → D → Env → Option Env
  | .nm i, d, env => some (env.set i (some d))
  | .tp ts, .tup xs, env => Tg.sets ts xs env
  | .tp ts, .lst xs, env => Tg.sets ts xs env
  | .tp _, _, _ => none
def Tg.sets : List Tg → List D → Env → Option Env
  | [], [], env => some env
  | t :: ts, x :: xs, env => (Tg.set t x env).bind (Tg.sets ts xs)
  | _, _, _ => none
end
mutual
def Tg.names : Tg → List Nat
  | .nm i => [i]
  | .tp ts => Tg.namess ts
def Tg.namess : List Tg → List Nat
  | [] => []
  | t :: ts => Tg.names t ++ Tg.namess ts
end
theorem Tg.sets_len : ∀ {ts : List Tg} {xs : List D} {env env' : Env}, Tg.sets ts xs env = some env' → xs.length = ts.length
  | [], [], _, _, _ => rfl
  | t :: ts, x :: xs, env, env', h => by
    unfold Tg.sets at h
    obtain ⟨e1, _, h2⟩ := Option.bind_eq_some_iff.mp h
    simp [Tg.sets_len h2]
  | [], _ :: _, _, _, h => by unfold Tg.sets at h; cases h
  | _ :: _, [], _, _, h => by unfold Tg.sets at h; cases h
theorem wipe_in {σ : L2.St} {i : Nat} : ∀ {vs : List Nat}, i ∈ vs → (L2.wipe σ vs)[i]? = if i < σ.length then some none else none
  | v :: vs, h => by
    unfold L2.wipe
    by_cases e : v = i
    · subst e
      by_cases hv : v < σ.length
      · rw [if_pos hv, List.getElem?_set_self (by rw [wipe_length]; exact hv)]
      · rw [if_neg hv, List.getElem?_eq_none (by rw [List.length_set, wipe_length]; omega)]
    · rw [List.getElem?_set_ne e]
      exact wipe_in ((List.mem_cons.mp h).resolve_left fun z => e z.symm)
theorem wipe_set {σ : L2.St} {i : Nat} {o : Option V} {vs : List Nat} (h : i ∈ vs) : L2.wipe (σ.set i o) vs = L2.wipe σ vs := by
  apply List.ext_getElem?
  intro j
  by_cases hj : j ∈ vs
  · rw [wipe_in hj, wipe_in hj, List.length_set]
  · rw [wipe_out hj, wipe_out hj, List.getElem?_set_ne]
    rintro rfl; exact hj h
theorem wipe_wipe {σ : L2.St} {vs : List Nat} : L2.wipe (L2.wipe σ vs) vs = L2.wipe σ vs := by
  apply List.ext_getElem?
  intro j
  by_cases hj : j ∈ vs
  · rw [wipe_in hj, wipe_in hj, wipe_length]
  · rw [wipe_out hj]
section
variable {K : PySem.W.Frag} {M : Mem} {H : Hp}
mutual
theorem Tg.rd : ∀ {t : Tg} {d : D} {env env' : Env} {v : V} {σ : L2.St} {Q : L2.St → Hp → Prop}, Tg.set t d env = some env' → Rep K M H d v → EnvOk K M H env σ →
    (∀ σ', EnvOk K M H env' σ' → (∀ vs : List Nat, (∀ i ∈ Tg.names t, i ∈ vs) → L2.wipe σ' vs = L2.wipe σ vs) → Q σ' H) → Tg.raw K t v σ H Q
  | .nm i, d, env, env', v, σ, Q, h, r, eo, q => by
    unfold Tg.set at h
    cases h
    exact q _ (eo.set i r) fun vs hv => wipe_set (hv i (by simp [Tg.names]))
  | .tp ts, .tup xs, env, env', v, σ, Q, h, r, eo, q => by
    unfold Tg.set at h
    unfold Rep at r
    obtain ⟨a, vs, rfl, f, rl⟩ := r
    unfold Tg.raw
    exact ⟨a, vs, rfl, .inl f.sq, by rw [← rl.length]; exact Tg.sets_len h, Tg.rds h rl eo fun σ' eo' hw => q σ' eo' fun vs hv => hw vs (by simpa [Tg.names] using hv)⟩
  | .tp ts, .lst xs, env, env', v, σ, Q, h, r, eo, q => by
    unfold Tg.set at h
    unfold Rep at r
    obtain ⟨a, vs, rfl, f, rl⟩ := r
    unfold Tg.raw
    exact ⟨a, vs, rfl, .inr f.sq, by rw [← rl.length]; exact Tg.sets_len h, Tg.rds h rl eo fun σ' eo' hw => q σ' eo' fun vs hv => hw vs (by simpa [Tg.names] using hv)⟩
  | .tp _, .non, _, _, _, _, _, h, _, _, _ => by unfold Tg.set at h; cases h
  | .tp _, .bl _, _, _, _, _, _, h, _, _, _ => by unfold Tg.set at h; cases h
  | .tp _, .int _, _, _, _, _, _, h, _, _, _ => by unfold Tg.set at h; cases h
  | .tp _, .str _, _, _, _, _, _, h, _, _, _ => by unfold Tg.set at h; cases h
  | .tp _, .raw _, _, _, _, _, _, h, _, _, _ => by unfold Tg.set at h; cases h
  | .tp _, .dic, _, _, _, _, _, h, _, _, _ => by unfold Tg.set at h; cases h
  | .tp _, .fn _, _, _, _, _, _, h, _, _, _ => by unfold Tg.set at h; cases h
  | .tp _, .emp, _, _, _, _, _, h, _, _, _ => by unfold Tg.set at h; cases h
  | .tp _, .rg .., _, _, _, _, _, h, _, _, _ => by unfold Tg.set at h; cases h
  | .tp _, .exv .., _, _, _, _, _, h, _, _, _ => by unfold Tg.set at h; cases h
  | .tp _, .slo _, _, _, _, _, _, h, _, _, _ => by unfold Tg.set at h; cases h
  | .tp _, .mut _, _, _, _, _, _, h, _, _, _ => by unfold Tg.set at h; cases h
theorem Tg.rds : ∀ {ts : List Tg} {ds : List D} {env env' : Env} {vs : List V} {σ : L2.St} {Q : L2.St → Hp → Prop}, Tg.sets ts ds env = some env' → RepL K M H ds vs → EnvOk K M H env σ →
    (∀ σ', EnvOk K M H env' σ' → (∀ ws : List Nat, (∀ i ∈ Tg.namess ts, i ∈ ws) → L2.wipe σ' ws = L2.wipe σ ws) → Q σ' H) → Tg.raws K ts vs σ H Q
  | [], [], env, env', vs, σ, Q, h, r, eo, q => by
    unfold Tg.sets at h; cases h
    unfold RepL at r; subst r
    unfold Tg.raws
    exact ⟨rfl, q σ eo fun _ _ => rfl⟩
  | t :: ts, x :: xs, env, env', vs, σ, Q, h, r, eo, q => by
    unfold Tg.sets at h
    obtain ⟨e1, h1, h2⟩ := Option.bind_eq_some_iff.mp h
    unfold RepL at r
    obtain ⟨v, rr, rfl, r1, r2⟩ := r
    unfold Tg.raws
    refine ⟨v, rr, rfl, Tg.rd h1 r1 eo fun σ1 eo1 w1 => Tg.rds h2 r2 eo1 fun σ2 eo2 w2 => q σ2 eo2 fun ws hw => ?_⟩
    rw [w2 ws (fun i hi => hw i (by simp [Tg.namess, hi])), w1 ws (fun i hi => hw i (by simp [Tg.namess, hi]))]
  | [], _ :: _, _, _, _, _, _, h, _, _, _ => by unfold Tg.sets at h; cases h
  | _ :: _, [], _, _, _, _, _, h, _, _, _ => by unfold Tg.sets at h; cases h
end
end
def tgT (t : Tg) : TgF := fun d env st => match Tg.set t d env with
  | some env1 => .ok env1 st
  | none => .fail
theorem t_tg {X : Cx} {W : WX} {t : Tg} {e : Expr} (h : PG X e (Tg.raw X.K t)) : PG X e (rdG X.K W (tgT t)) := h.imp fun v σ H Q ⟨d, env, M, st, r, eo, so, p⟩ => by
  unfold tgT at p
  split at p
  · rename_i env1 e
    exact Tg.rd e r eo fun σ' eo' _ => p M H σ' .refl so eo'
  · exact p.elim
def noX {α : Type} (r : R α) : R α := match r with
  | .ok a st => .ok a st
  | _ => .fail
def turnC (t : Tg) (tt : EvB) (fe : EvE) (envw : Env) (x : D) (st : Sto) (acc : List D) (k : Sto → List D → R (List D)) : R (List D) := match t.set x envw with
  | none => .fail
  | some env1 => (noX (tt env1 st)).bind fun b st1 => if b = true then (noX (fe env1 st1)).bind fun y st2 => if acc.length < 16777216 then k st2 (acc ++ [y]) else .fail else k st1 acc
def lcF (t : Tg) (tt : EvB) (fe : EvE) (envw : Env) : List D → Sto → List D → R (List D)
  | [], st, acc => .ok acc st
  | x :: xs, st, acc => turnC t tt fe envw x st acc (lcF t tt fe envw xs)
def lcG (t : Tg) (tt : EvB) (fe : EvE) (envw : Env) (nxt : Nat → Sto → Option (Option D)) : Nat → Nat → Sto → List D → R (List D)
  | 0, i, st, acc => match nxt i st with
    | some none => .ok acc st
    | _ => .fail
  | k + 1, i, st, acc => match nxt i st with
    | some none => .ok acc st
    | some (some x) => turnC t tt fe envw x st acc (lcG t tt fe envw nxt k (i + 1))
    | none => .fail
def lcL (it : EvI) (t : Tg) (tt : EvB) (fe : EvE) (vs : List Nat) : EvA := fun env st => (it env st).bind fun I st1 => match I with
  | .frz xs => lcF t tt fe (wipeE env vs) xs st1 []
  | .gen nxt k => lcG t tt fe (wipeE env vs) nxt k 0 st1 []
def lcE (it : EvI) (t : Tg) (tt : EvB) (fe : EvE) (vs : List Nat) : EvE := fun env st => (lcL it t tt fe vs env st).bind fun xs st1 => .ok (.lst xs) st1
abbrev W0 : WX := fun _ _ _ _ => False
def yesB : EvB := fun _ st => .ok true st
def Mem.hold (M : Mem) (a : Addr) : Mem := ⟨M.m, a :: M.p, M.f⟩
def Mem.free (M : Mem) (p : List Addr) : Mem := ⟨M.m, p, M.f⟩
section
variable {K : PySem.W.Frag} {M M' : Mem} {H H' : Hp} {st : Sto}
theorem StOk.hold (so : StOk K M H st) {a : Addr} {vs : List V} (h : H a = none) : StOk K (M.hold a) (upd H a (.lst vs)) st ∧ Keep M H (M.hold a) (upd H a (.lst vs)) := by
  have k : Keep M H (M.hold a) (upd H a (.lst vs)) := ⟨fun _ _ h => h, fun b o e n => by
    have ne : b ≠ a := ne_of_none e h
    exact ⟨by rw [upd_ne ne]; exact e, n.1, fun z => (List.mem_cons.mp z).elim ne n.2⟩, rfl⟩
  refine ⟨⟨so.len, so.nd, fun b hb => ?_, fun n b mo e1 e2 => ?_⟩, k⟩
  · rcases List.mem_cons.mp hb with rfl | hb
    · exact ⟨(so.notin h).1, _, upd_same⟩
    · obtain ⟨h1, u, e⟩ := so.pd b hb
      exact ⟨h1, u, by rw [upd_ne (ne_of_none e h)]; exact e⟩
  · have q := so.at_ n b mo e1 e2
    obtain ⟨u, e⟩ := q.there
    exact q.kp k (upd_ne (ne_of_none e h))
theorem Keep.fill {a : Addr} {o : HO} (h : a ∈ M.p) : Keep M H M (upd H a o) := ⟨fun _ _ h => h, fun b u e n => ⟨by rw [upd_ne (fun z : b = a => n.2 (by rw [z]; exact h))]; exact e, n⟩, rfl⟩
theorem StOk.fill (so : StOk K M H st) {a : Addr} {o : List V} (h : a ∈ M.p) : StOk K M (upd H a (.lst o)) st := by
  have k : Keep M H M (upd H a (.lst o)) := .fill h
  refine ⟨so.len, so.nd, fun b hb => ?_, fun n b mo e1 e2 => ?_⟩
  · by_cases e : b = a
    · subst e; exact ⟨(so.pd b hb).1, _, upd_same⟩
    · obtain ⟨h1, u, e'⟩ := so.pd b hb
      exact ⟨h1, u, by rw [upd_ne e]; exact e'⟩
  · have q := so.at_ n b mo e1 e2
    have ne : b ≠ a := fun z => (so.pd a h).1 (by rw [← z]; exact List.mem_of_getElem? e1)
    exact q.kp k (upd_ne ne)
theorem Keep.free {p : List Addr} (h : ∀ a ∈ p, a ∈ M.p) : Keep M H (M.free p) H := ⟨fun _ _ h => h, fun b u e n => ⟨e, n.1, fun z => n.2 (h b z)⟩, rfl⟩
theorem StOk.free (so : StOk K M H st) {p : List Addr} (h : ∀ a ∈ p, a ∈ M.p) : StOk K (M.free p) H st := by
  have k : Keep M H (M.free p) H := .free h
  refine ⟨so.len, so.nd, fun b hb => so.pd b (h b hb), fun n b mo e1 e2 => ?_⟩
  have q := so.at_ n b mo e1 e2
  exact q.kp k rfl
end
section
variable {X : Cx} {W : WX} {K : PySem.W.Frag} {t : Tg} {tt : EvB} {fe : EvE}
structure Mid (K : PySem.W.Frag) (M1 : Mem) (H1 : Hp) (L : Addr) (M' : Mem) (H' : Hp) (st' : Sto) (acc : List D) : Prop where
  kp : Keep M1 H1 M' H'
  p : M'.p = L :: M1.p
  prot : ∀ a ∈ M1.p, H' a = H1 a
  new : H1 L = none
  so1 : ∀ a ∈ M1.p, ∃ o, H1 a = some o
  so : StOk K M' H' st'
  at_ : ∃ vs, H' L = some (.lst vs) ∧ RepL K M' H' acc vs
theorem Mid.grow {M1 : Mem} {H1 : Hp} {L : Addr} {M' M2 : Mem} {H' H2 : Hp} {st' st2 : Sto} {acc : List D} (m : Mid K M1 H1 L M' H' st' acc) (g : Grow M' H' M2 H2) (so : StOk K M2 H2 st2) : Mid K M1 H1 L M2 H2 st2 acc :=
  ⟨m.kp.trans g.k, g.pp.trans m.p, fun a ha => (g.prot a (by rw [m.p]; exact List.mem_cons_of_mem _ ha)).trans (m.prot a ha), m.new, m.so1, so, let ⟨vs, e, r⟩ := m.at_; ⟨vs, (g.prot L (by rw [m.p]; exact List.mem_cons_self)).trans e, r.grow g⟩⟩
theorem Mid.add {M1 : Mem} {H1 : Hp} {L : Addr} {M' : Mem} {H' : Hp} {st' : Sto} {acc : List D} {d : D} {v : V} (m : Mid K M1 H1 L M' H' st' acc) (r : Rep K M' H' d v) {vs : List V} (e : H' L = some (.lst vs)) : Mid K M1 H1 L M' (upd H' L (.lst (vs ++ [v]))) st' (acc ++ [d]) := by
  have hL : L ∈ M'.p := by rw [m.p]; exact List.mem_cons_self
  obtain ⟨ws, e', rl⟩ := m.at_
  rw [e] at e'; cases e'
  have k : Keep M' H' M' (upd H' L (.lst (vs ++ [v]))) := .fill hL
  refine ⟨m.kp.trans k, m.p, fun a ha => ?_, m.new, m.so1, m.so.fill hL, _, upd_same, (rl.kp k).append (.cons (r.kp k) .nil)⟩
  rw [upd_ne]
  · exact m.prot a ha
  · rintro rfl
    obtain ⟨o, z⟩ := m.so1 a ha
    rw [m.new] at z; cases z
theorem Mid.fin {M1 : Mem} {H1 : Hp} {L : Addr} {M' : Mem} {H' : Hp} {st' : Sto} {acc : List D} (m : Mid K M1 H1 L M' H' st' acc) :
    Grow M1 H1 (M'.free M1.p) H' ∧ StOk K (M'.free M1.p) H' st' ∧ (M'.free M1.p).no L ∧ ∃ vs, H' L = some (.lst vs) ∧ RepL K (M'.free M1.p) H' acc vs := by
  have sub : ∀ a ∈ M1.p, a ∈ M'.p := fun a ha => by rw [m.p]; exact List.mem_cons_of_mem _ ha
  have k : Keep M' H' (M'.free M1.p) H' := .free sub
  obtain ⟨vs, e, r⟩ := m.at_
  refine ⟨⟨(m.kp.trans k).pre, (m.kp.trans k).keep, rfl, m.prot, (m.kp.trans k).ff⟩, m.so.free sub, ⟨(m.so.pd L (by rw [m.p]; exact List.mem_cons_self)).1, fun z => ?_⟩, vs, e, r.kp k⟩
  obtain ⟨o, q⟩ := m.so1 L z
  rw [m.new] at q; cases q
theorem turnC_rd {M1 : Mem} {H1 : Hp} {L : Addr} {M' : Mem} {H' : Hp} {st' : Sto} {acc : List D} {envw : Env} {σw : L2.St} {vs : List Nat} {x : D} {u : V} {k : Sto → List D → R (List D)} {P : R (List D) → Prop} {N : Hp → Prop}
    (m : Mid K M1 H1 L M' H' st' acc) (eo : EnvOk K M' H' envw (L2.wipe σw vs)) (r : Rep K M' H' x u) (hv : ∀ i ∈ Tg.names t, i ∈ vs)
    (hf : ¬ P .fail) (p : P (turnC t tt fe envw x st' acc k))
    (hN : ∀ M2 H2 st2 acc2, Keep M' H' M2 H2 → Mid K M1 H1 L M2 H2 st2 acc2 → P (k st2 acc2) → N H2) :
    Tg.raw K t u (L2.wipe σw vs) H' fun σ2 H2 => L2.wipe σ2 vs = L2.wipe σw vs ∧ rdB K W0 tt σ2 H2 fun b H3 =>
      if b = true then rdE K W0 fe σ2 H3 fun y H4 => ∃ acc, H4 L = some (.lst acc) ∧ acc.length < sizeLine ∧ N (upd H4 L (.lst (acc ++ [y]))) else N H3 := by
  unfold turnC at p
  cases e : t.set x envw with
  | none => rw [e] at p; exact absurd p hf
  | some env1 =>
    rw [e] at p
    refine Tg.rd e r eo fun σ' eo' hw => ⟨(hw vs hv).trans wipe_wipe, env1, M', st', eo', m.so, ?_⟩
    cases e1 : tt env1 st' with
    | exc x s => simp only [e1, noX, R.bind] at p; exact absurd p hf
    | fail => simp only [e1, noX, R.bind] at p; exact absurd p hf
    | ok b st1 =>
      simp only [e1, noX, R.bind] at p
      intro M2 H2 b' g2 so2 hb
      subst hb
      cases b with
      | false => exact iteF (hN M2 H2 st1 acc g2.k (m.grow g2 so2) (by simpa using p))
      | true =>
        simp only [if_true] at p
        refine iteT ⟨env1, M2, st1, eo'.grow g2, so2, ?_⟩
        cases e2 : fe env1 st1 with
        | exc x s => rw [e2] at p; exact absurd p hf
        | fail => rw [e2] at p; exact absurd p hf
        | ok y st2 =>
          rw [e2] at p
          intro M3 H3 yv g3 so3 ry
          have m3 := (m.grow g2 so2).grow g3 so3
          obtain ⟨vs3, e3, r3⟩ := m3.at_
          simp only at p
          by_cases hl : acc.length < 16777216
          · rw [if_pos hl] at p
            have kf : Keep M3 H3 M3 (upd H3 L (.lst (vs3 ++ [yv]))) := .fill (by rw [m3.p]; exact List.mem_cons_self)
            refine ⟨vs3, e3, by rw [← r3.length, sizeLine_eq]; exact hl, hN M3 _ st2 (acc ++ [y]) ((g2.k.trans g3.k).trans kf) (m3.add ry e3) p⟩
          · rw [if_neg hl] at p; exact absurd p hf
theorem rd_lc0 {it : EvI} {vs : List Nat} {fin : List D → Sto → R D} (hv : ∀ i ∈ Tg.names t, i ∈ vs)
    (hfin : ∀ {M1 : Mem} {H1 : Hp} {L : Addr} {M' : Mem} {H' : Hp} {st' : Sto} {acc : List D} {Q : VK} {E : XK}, Mid K M1 H1 L M' H' st' acc → Post K (Rep K) M1 H1 Q E (fin acc st') → Q (.ref L) H') :
    ∀ σ H Q, rdE K W (fun env st => (lcL it t tt fe vs env st).bind fin) σ H Q → tLc (rdI K W it) (Tg.raw K t) (rdB K W0 tt) (rdE K W0 fe) vs σ H Q :=
  fun σ H Q ⟨env, M, st, eo, so, p⟩ => ⟨env, M, st, eo, so, by
    have p : Post K (Rep K) M H Q (WE W σ) ((it env st).bind fun I st1 => (match I with
      | .frz xs => lcF t tt fe (wipeE env vs) xs st1 []
      | .gen nxt k => lcG t tt fe (wipeE env vs) nxt k 0 st1 []).bind fin) := by
      have p : Post K (Rep K) M H Q (WE W σ) ((lcL it t tt fe vs env st).bind fin) := p
      unfold lcL at p
      cases e : it env st with
      | ok I st1 => rw [e] at p; exact p
      | exc x s => rw [e] at p; exact p
      | fail => rw [e] at p; exact p
    refine Post.imp (Post.bind (rep := ItRep K) p) fun J H1 ⟨M1, st1, I, g1, so1, ri, p1⟩ => ?_
    intro L hL
    obtain ⟨so2, k2⟩ := so1.hold (vs := []) hL
    have m0 : Mid K M1 H1 L (M1.hold L) (upd H1 L (.lst [])) st1 [] := ⟨k2, rfl, fun a ha => by
      obtain ⟨_, o, e⟩ := so1.pd a ha
      rw [upd_ne (ne_of_none e hL)], hL, fun a ha => (let ⟨o, e⟩ := (so1.pd a ha).2; ⟨_, e⟩), so2, [], upd_same, .nil⟩
    have eo1 : EnvOk K (M1.hold L) (upd H1 L (.lst [])) (wipeE env vs) (L2.wipe σ vs) := ((eo.grow g1).kp k2).wipe vs
    cases I with
    | frz xs =>
      have p1 : Post K (Rep K) M1 H1 Q (WE W σ) ((lcF t tt fe (wipeE env vs) xs st1 []).bind fin) := p1
      refine ⟨fun i m H' => m = xs.length - i ∧ i ≤ xs.length ∧ ∃ M' st' acc, Mid K M1 H1 L M' H' st' acc ∧ EnvOk K M' H' (wipeE env vs) (L2.wipe σ vs) ∧ Post K (Rep K) M1 H1 Q (WE W σ) ((lcF t tt fe (wipeE env vs) (xs.drop i) st' acc).bind fin),
        ⟨xs.length, by simp, Nat.zero_le _, _, _, _, m0, eo1, by simpa using p1⟩, ?_⟩
      rintro i m H' ⟨rfl, hi, M', st', acc, md, eo', q⟩
      obtain ⟨r1, r2⟩ := ri i M' H' st' md.kp md.so
      by_cases hlt : i < xs.length
      · have hd : xs[i]? = some xs[i] := List.getElem?_eq_getElem hlt
        obtain ⟨r3, r4⟩ := r2 _ hd
        refine .inr ⟨r3, _, fun H2 h => ⟨xs.length - (i + 1), by omega, rfl, hlt, h⟩, fun x H2 hy => ?_⟩
        obtain ⟨g2, so2, rx⟩ := r4 x H2 hy
        rw [List.drop_eq_getElem_cons hlt] at q
        exact turnC_rd (P := fun r => Post K (Rep K) M1 H1 Q (WE W σ) (r.bind fin)) (md.grow g2 so2) (eo'.grow g2) rx hv (fun z => z) q fun M3 H3 st3 acc3 k3 m3 p3 => ⟨M3, st3, acc3, m3, (eo'.grow g2).kp k3, p3⟩
      · have e : i = xs.length := by omega
        refine .inl ⟨r1 e, ?_⟩
        rw [e, List.drop_length] at q
        exact hfin md q
    | gen nxt k =>
      have p1 : Post K (Rep K) M1 H1 Q (WE W σ) ((lcG t tt fe (wipeE env vs) nxt k 0 st1 []).bind fin) := p1
      refine ⟨fun i m H' => ∃ M' st' acc, Mid K M1 H1 L M' H' st' acc ∧ EnvOk K M' H' (wipeE env vs) (L2.wipe σ vs) ∧ Post K (Rep K) M1 H1 Q (WE W σ) ((lcG t tt fe (wipeE env vs) nxt m i st' acc).bind fin),
        ⟨k, _, _, _, m0, eo1, p1⟩, ?_⟩
      rintro i m H' ⟨M', st', acc, md, eo', q⟩
      obtain ⟨r1, r2⟩ := ri i M' H' st' md.kp md.so
      cases m with
      | zero =>
        unfold lcG at q
        cases e : nxt i st' with
        | none => rw [e] at q; exact q.elim
        | some o =>
          cases o with
          | some x => rw [e] at q; exact q.elim
          | none => rw [e] at q; exact .inl ⟨r1 e, hfin md q⟩
      | succ m =>
        unfold lcG at q
        cases e : nxt i st' with
        | none => rw [e] at q; exact q.elim
        | some o =>
          cases o with
          | none => rw [e] at q; exact .inl ⟨r1 e, hfin md q⟩
          | some d =>
            rw [e] at q
            obtain ⟨r3, r4⟩ := r2 _ e
            refine .inr ⟨r3, _, fun H2 h => ⟨m, by omega, h⟩, fun x H2 hy => ?_⟩
            obtain ⟨g2, so2, rx⟩ := r4 x H2 hy
            exact turnC_rd (P := fun r => Post K (Rep K) M1 H1 Q (WE W σ) (r.bind fin)) (md.grow g2 so2) (eo'.grow g2) rx hv (fun z => z) q fun M3 H3 st3 acc3 k3 m3 p3 => ⟨M3, st3, acc3, m3, (eo'.grow g2).kp k3, p3⟩⟩
theorem rd_lc {it : EvI} {vs : List Nat} (hv : ∀ i ∈ Tg.names t, i ∈ vs) : ∀ σ H Q, rdE K W (lcE it t tt fe vs) σ H Q → tLc (rdI K W it) (Tg.raw K t) (rdB K W0 tt) (rdE K W0 fe) vs σ H Q :=
  rd_lc0 hv fun m q => by
    obtain ⟨f1, f2, f3, ws, f4, f5⟩ := m.fin
    exact q _ _ _ f1 f2 (by unfold Rep; exact ⟨_, ws, rfl, ⟨f4, f3⟩, f5⟩)
end
section
variable {X : Cx} {W : WX}
theorem g_yes : PTs X [] (rdB X.K W0 yesB) := ⟨fun pins s σ H Q I ⟨env, M, st, eo, so, p⟩ => pts_nil.run pins s σ H Q I (p M H true .refl so rfl)⟩
end
end G
namespace G
open PySem PySem.Spec PyProof.Rows L2
def runF (n m : Nat) (B : SvS) : FA := fun ds st => if ds.length = n then (match B (ds.map some ++ List.replicate (m - n) none) st with
  | .nx _ st1 => .ok .non st1
  | .ret d st1 => .ok d st1
  | .exc e _ st1 => .exc e st1
  | _ => .fail) else .fail
def spG (K : PySem.W.Frag) (F : FA) : Sp := fun vs H Q E => ∃ ds M st, RepL K M H ds vs ∧ StOk K M H st ∧ Post K (Rep K) M H Q E (F ds st)
theorem spG_len {K : PySem.W.Frag} {n m : Nat} {B : SvS} : ∀ vs H Q E, spG K (runF n m B) vs H Q E → vs.length = n := fun vs H Q E ⟨ds, M, st, r, so, p⟩ => by
  unfold runF at p
  split at p
  · rename_i h; rw [← r.length]; exact h
  · exact p.elim
section
variable {K : PySem.W.Frag}
theorem envOk_start {M : Mem} {H : Hp} {N : List Str} {ds : List D} {vs : List V} (r : RepL K M H ds vs) : EnvOk K M H (ds.map some ++ List.replicate (N.length - ds.length) none) (L2.start N vs) := by
  unfold L2.start
  refine ⟨by simp [r.length], fun i d h => ?_⟩
  by_cases hi : i < ds.length
  · rw [List.getElem?_append_left (by simpa using hi), List.getElem?_map] at h
    obtain ⟨x, hx, e⟩ := Option.map_eq_some_iff.mp h
    cases e
    obtain ⟨v, h1, h2⟩ := r.get hx
    exact ⟨v, by rw [List.getElem?_append_left (by simpa [← r.length] using hi), List.getElem?_map, h1]; rfl, h2⟩
  · rw [List.getElem?_append_right (by simp; omega)] at h
    have := List.mem_of_getElem? h
    simp at this
end
section
variable {P : Program} {w : World} {K : PySem.W.Frag} {mg : Str → Option Value} {base : Heap}
abbrev Wd (E : XK) : WX := fun cls d _ H => E cls d H
structure RoomG (k : Nat) (A : Around) : Prop extends L2.Room k A where
  gd : A.guards = some []
theorem RoomG.mono {j k : Nat} {A : Around} (r : RoomG k A) (h : j ≤ k) : RoomG j A := ⟨r.toRoom.mono h, r.gd⟩
theorem RoomG.deeper {k : Nat} {A : Around} (r : RoomG (k + 1) A) (env : PySem.Env) : RoomG k (A.deeper env) := ⟨r.toRoom.deeper env, by have := r.gd; simpa [Around.deeper] using this⟩
structure FnG (P : Program) (w : World) (K : PySem.W.Frag) (mg : Str → Option Value) (base : Heap) (k : Nat) (f : Addr) (fd : FuncData) (ps : List Str) (sp : Sp) : Prop where
  len : ∀ vs H Q E, sp vs H Q E → vs.length = ps.length
  run : ∀ (A : Around) (outer : List PySem.Env) (s : Shared) (H : Hp) (args : Args) (us : List Value) (vs : List V) (Q : VK) (E : XK), RoomG k A → Env0 P w K mg base A outer s H → BindsTo s fd args (ps.zip us) → Vals vs us → sp vs H Q E →
    codeAny (model P w) A (.call (.ref f) args) (CR (L2.CX P w) outer P w H s Q E) s
theorem FnG.imp {P : Program} {w : World} {K : PySem.W.Frag} {mg : Str → Option Value} {base : Heap} {k : Nat} {f : Addr} {fd : FuncData} {ps : List Str} {sp sp' : Sp} (F : FnG P w K mg base k f fd ps sp) (h : ∀ vs H Q E, sp' vs H Q E → sp vs H Q E) : FnG P w K mg base k f fd ps sp' :=
  ⟨fun vs H Q E q => F.len vs H Q E (h _ _ _ _ q), fun A outer s H args us vs Q E hr he hb hv hs => F.run A outer s H args us vs Q E hr he hb hv (h _ _ _ _ hs)⟩
theorem fn_ok {x qual : Str} {s : Stmt} {f : Addr} {fd : FuncData} {N ps : List Str} {k n m : Nat} {B : SvS} (F : Fun K x qual s f fd) (Sc : FnScope N ps (defScope s)) (hn : ps.length = n) (hm : N.length = m)
    (hbody : ∀ (cdv : Value) (A : Around) (outer : List PySem.Env) (s' : Shared) (H : Hp) (E : XK), RoomG k (A.deeper (envOfC qual (defScope s) s'.heap.objs.size f cdv)) →
      PSs (cxOf (L2.CX P w) P w K mg base N qual (defScope s) f cdv A outer s' H E) (defBody s) (rdS K (Wd E) B)) : FnG P w K mg base (k + 1) f fd ps (spG K (runF n m B)) := by
  subst hn hm
  obtain ⟨oc, od, kV, doc, pm, an, cdv, ct, osl, rfl, lk, hcd⟩ := F.ex
  refine ⟨spG_len, fun A outer s0 H args us vs Q E hr e0 hb rv hsp => ?_⟩
  have hl : vs.length = ps.length := spG_len vs H Q E hsp
  have KX : K.In s0.heap := e0.mod.kin.keeps fun b o e => (e0.bs b o e).1
  have hq : rdS K (Wd E) B { nx := fun _ H' => Q .non H', rt := Q } (L2.start N vs) H := by
    obtain ⟨ds, M, st, r, so, p⟩ := hsp
    unfold runF at p
    split at p
    · rename_i hl
      refine ⟨_, M, st, envOk_start r, so, ?_⟩
      rw [hl]
      cases e : B (ds.map some ++ List.replicate (N.length - ps.length) none) st with
      | nx env st1 => rw [e] at p; exact fun M' H' σ' g so' _ => p M' H' .non g so' (rep_non _ _)
      | ret d st1 => rw [e] at p; exact fun M' H' v g so' r' => p M' H' v g so' r'
      | exc x env st1 => rw [e] at p; exact fun M' H' σ' c od g so' _ h => p M' H' c od g so' h
      | brk env st1 => rw [e] at p; exact p.elim
      | cont env st1 => rw [e] at p; exact p.elim
      | fail => rw [e] at p; exact p.elim
    · exact p.elim
  have local_ : ∀ y ∈ ps.zip us, (defScope s).names.lookup y.1 = some .local ∨ ((defScope s).names.lookup y.1 = some .cell ∧ ((cellsFrom (s0.heap.objs.size + 1) (defScope s).names []).lookup y.1).isSome = true) := by
    rintro ⟨a, v⟩ hy
    rcases Sc.par a (List.of_mem_zip hy).1 with q | q
    · exact .inl q
    · exact .inr ⟨q, PySem.W.cellsFrom_some _ _ _ (.inl q)⟩
  refine codeAny_call_function hr.toRoom.depth (KX _ _ lk) rfl Sc.co Sc.gen rfl (PySem.W.codeRec_of KX hcd) (hb _ _ _ _ (wpAny_newFunctionEnv_cells Sc.kind local_ fun env he s1 x => ?_))
  subst he
  refine ⟨(e0.mod.nolimit.keeps fun b o e => (e0.bs b o e).1).keeps x.toInCall.keep, codeAny_func ?_⟩
  have I := inv_start (CX := L2.CX P w) (E := E) Sc hr.hd e0 hl rv x
  refine wpAny_mono ((hbody cdv A outer s0 H E (hr.deeper _)).run [] s1 (L2.start N vs) H _ I hq) (fun fl s' hs => ?_) fun e s' hs => hs
  cases fl with
  | ret u => obtain ⟨v, σ', H', J, rv, q⟩ := hs; exact ⟨v, H', J.os, J.bare, J.base, J.hok, rv, q⟩
  | next => obtain ⟨σ', H', J, q⟩ := hs; exact ⟨.non, H', J.os, J.bare, J.base, J.hok, (rfl : RelV V.non Value.none), q⟩
  | brk => obtain ⟨_, _, _, q⟩ := hs; exact q.elim
  | cont => obtain ⟨_, _, _, q⟩ := hs; exact q.elim
end
def pick {α : Type} (us ws : List α) (ix : List Nat) : List α := us ++ ix.filterMap fun j => ws[j]?
def callKE (F : FA) (fs ks : EvA) (n m : Nat) (ix : List Nat) : EvE := fun env st => (fs env st).bind fun us st1 => (ks env st1).bind fun ws st2 => if us.length = n ∧ ws.length = m then F (pick us ws ix) st2 else .fail
theorem pick_rep {K : PySem.W.Frag} {M : Mem} {H : Hp} {ds es : List D} {vs zs : List V} (r : RepL K M H ds vs) (q : RepL K M H es zs) (ix : List Nat) : RepL K M H (pick ds es ix) (pick vs zs ix) := by
  unfold pick
  refine r.append ?_
  induction ix with
  | nil => exact .nil
  | cons j ix ih =>
    rw [List.filterMap_cons, List.filterMap_cons]
    cases e : es[j]? with
    | none =>
      have : zs[j]? = none := List.getElem?_eq_none_iff.mpr (by rw [← q.length]; exact List.getElem?_eq_none_iff.mp e)
      rw [this]; exact ih
    | some d =>
      obtain ⟨v, h1, h2⟩ := q.get e
      rw [h1]; exact .cons h2 ih
theorem pick_vals {vs zs : List V} {us ws : List Value} (r : Vals vs us) (q : Vals zs ws) (ix : List Nat) : Vals (pick vs zs ix) (pick us ws ix) := by
  unfold pick
  refine r.append ?_
  induction ix with
  | nil => exact .nil
  | cons j ix ih =>
    rw [List.filterMap_cons, List.filterMap_cons]
    cases e : zs[j]? with
    | none => rw [q.none_of e]; exact ih
    | some d =>
      obtain ⟨v, h1, h2⟩ := q.get e
      rw [h1]; exact .cons h2 ih
def KB (K : PySem.W.Frag) (fd : FuncData) (ps : List Str) (n : Nat) (ks : List Str) (ix : List Nat) : Prop :=
  ∀ (s : Shared) (us ws : List Value), K.In s.heap → us.length = n → ws.length = ks.length → BindsTo s fd ⟨us, ks.zip ws⟩ (ps.zip (pick us ws ix))
theorem kb_of {K : PySem.W.Frag} {x qual : Str} {st : Stmt} {f : Addr} {fd : FuncData} {ps ks : List Str} {n : Nat} {ix : List Nat} (F : Fun K x qual st f fd)
    (h : ∀ (kV doc pm : Value) (an : Option Addr) (cdv ct : Value) (us ws : List Value), us.length = n → ws.length = ks.length → bindArgs (PySem.W.fnOf x qual (defArgs st) (defBody st) (defScope st) .none kV doc pm an cdv ct) ⟨us, ks.zip ws⟩ = pure (ps.zip (pick us ws ix))) : KB K fd ps n ks ix := by
  obtain ⟨oc, od, kV, doc, pm, an, cdv, ct, osl, rfl, lk, hcd⟩ := F.ex
  exact fun s us ws _ h1 h2 => .of_eq (h kV doc pm an cdv ct us ws h1 h2)
section
variable {X : Cx} {W : WX} {F : FA} {k n : Nat} {f : Addr} {fd : FuncData} {ps ks : List Str} {ix : List Nat} {x : Str} {p pos kpos : Pos} {e : Expr} {es : List Expr} {kws : List Keyword} {fa : EvE} {fs fk : EvA} {nm : Option Str}
theorem _root_.L2.PK.imp {t t' : TA} (h : PK X kws t) (i : ∀ σ H Q, t' σ H Q → t σ H Q) : PK X kws t' := ⟨fun pos pins s σ H Q I q => h.run pos pins s σ H Q I (i σ H Q q)⟩
theorem k_nil : PK X [] (rdA X.K W nilA) := pk_nil.imp fun σ H Q ⟨env, M, st, eo, so, p⟩ => p M H [] .refl so .nil
theorem k_cons (ha : PE X e (rdE X.K W fa)) (hr : PK X kws (rdA X.K W fs)) : PK X (⟨nm, e, kpos⟩ :: kws) (rdA X.K W (consA fa fs)) :=
  (pk_cons ha hr).imp fun σ H Q ⟨env, M, st, eo, so, p⟩ => ⟨env, M, st, eo, so, Post.imp (Post.bind p) fun x H1 ⟨M1, st1, a, g, so1, ra, p1⟩ =>
    ⟨env, M1, st1, eo.grow g, so1, Post.imp (Post.bind (rep := RepL X.K) p1) fun y H2 ⟨M2, st2, b, g2, so2, rb, p2⟩ => p2 M2 H2 _ .refl so2 (.cons (ra.grow g2) rb)⟩⟩
theorem run_kw {pins : List (Addr × Obj)} {σ : L2.St} {H : Hp} {s : Shared} {Q : VK} {us ws : List Value} {vs zs : List V} (G : FnG X.prog X.w X.K X.mg X.base k f fd ps (spG X.K F)) (hr : RoomG k X.A) (hb : KB X.K fd ps n ks ix) (tk : Takes X W)
    (I : Inv X pins σ H s) (r : Vals vs us) (rz : Vals zs ws) (h1 : us.length = n) (h2 : ws.length = ks.length) (h : spG X.K F (pick vs zs ix) H Q (WE W σ)) : wpAny (model X.prog X.w) X.A (PySem.call (.ref f) us (ks.zip ws)) (EP X pins σ Q) X.xe s := by
  have hx := passAt tk σ
  refine wpAny_call (codeAny_mono (G.run X.A X.stack s H ⟨us, ks.zip ws⟩ (pick us ws ix) (pick vs zs ix) Q (WE W σ) hr I.env0 (hb s us ws I.kIn h1 h2) (pick_vals r rz ix) h) fun r s' hq => ?_)
  cases r with
  | error e => exact hx pins H s e s' I hq
  | ok fl =>
    cases fl with
    | ret u => exact I.after hq
    | next => exact hq.elim
    | brk => exact hq.elim
    | cont => exact hq.elim
theorem run_pos {pins : List (Addr × Obj)} {σ : L2.St} {H : Hp} {s : Shared} {Q : VK} {us : List Value} {vs : List V} (G : FnG X.prog X.w X.K X.mg X.base k f fd ps (spG X.K F)) (hr : RoomG k X.A) (hb : Binds X.K fd ps []) (tk : Takes X W)
    (I : Inv X pins σ H s) (r : Vals vs us) (h : spG X.K F vs H Q (WE W σ)) : wpAny (model X.prog X.w) X.A (PySem.call (.ref f) us) (EP X pins σ Q) X.xe s := by
  have hx := passAt tk σ
  have bb := hb s us I.kIn (by rw [List.append_nil, ← r.length]; exact G.len _ _ _ _ h)
  rw [List.append_nil] at bb
  refine wpAny_call (codeAny_mono (G.run X.A X.stack s H ⟨us, []⟩ us vs Q (WE W σ) hr I.env0 bb r h) fun r s' hq => ?_)
  cases r with
  | error e => exact hx pins H s e s' I hq
  | ok fl =>
    cases fl with
    | ret u => exact I.after hq
    | next => exact hq.elim
    | brk => exact hq.elim
    | cont => exact hq.elim
theorem g_call (G : FnG X.prog X.w X.K X.mg X.base k f fd ps (spG X.K F)) (hr : RoomG k X.A) (hg : Gl X x) (hm : X.mg x = some (.ref f)) (hk : PySem.W.keepIn X.K (.ref f) = true) (hb : Binds X.K fd ps []) (tk : Takes X W)
    (ha : PA X (e :: es) (rdA X.K W fs)) (hdb : (x == ("__debug__" : Str)) = false) (he : starEach (e :: es) X.env = (false, eval e X.env) :: starEach es X.env) (hpl : (backTo pos (starEach es X.env)).any (·.1) = false) :
    PE X (.Call (.Name x p) (e :: es) [] pos) (rdE X.K W (callE F fs)) := by
  refine ⟨fun pins s σ H Q I ⟨env, M, st, eo, so, p⟩ => ?_⟩
  refine wpAny_Call_Name_kw (ld_glob I hg hm ?_ hdb)
  refine PySem.W.callWith_K (h₀ := X.base) I.ok.mod.kin hk (thn (ha.run pos pins s σ H _ I ⟨env, M, st, eo, so, Post.bind (rep := RepL X.K) p⟩) fun us s1 ⟨vs, H1, I1, r, M1, st1, ds, g, so1, ra, p1⟩ => ⟨I1.kIn, ?_⟩) he hpl
  exact run_pos G hr hb tk I1 r ⟨ds, M1, st1, ra, so1, p1⟩
theorem g_callK0 (G : FnG X.prog X.w X.K X.mg X.base k f fd ps (spG X.K F)) (hr : RoomG k X.A) (hg : Gl X x) (hm : X.mg x = some (.ref f)) (hk : PySem.W.keepIn X.K (.ref f) = true) (hb : KB X.K fd ps 0 ks ix) (tk : Takes X W)
    (hkw : PK X kws (rdA X.K W fk)) (hall : (backToKw pos (keywordEach kws X.env)).all (·.1.isSome) = true) (hks : (backToKw pos (keywordEach kws X.env)).filterMap (·.1) = ks)
    (hdb : (x == ("__debug__" : Str)) = false)
    (hpl : ((backTo pos (starEach [] X.env)).any (·.1) || (backToKw pos (keywordEach kws X.env)).any (·.1.isNone)) = false) :
    PE X (.Call (.Name x p) [] kws pos) (rdE X.K W (callKE F nilA fk 0 ks.length ix)) := by
  refine ⟨fun pins s σ H Q I ⟨env, M, st, eo, so, p⟩ => ?_⟩
  refine wpAny_Call_Name_kw (ld_glob I hg hm ?_ hdb)
  have p1 : Post X.K (Rep X.K) M H Q (WE W σ) ((fk env st).bind fun ws st2 => if (0 : Nat) = 0 ∧ ws.length = ks.length then F (pick [] ws ix) st2 else .fail) := p
  refine PySem.W.callWith_KW0 (h₀ := X.base) I.ok.mod.kin hk hall ?_ hpl
  refine thn (hkw.run pos pins s σ H _ I ⟨env, M, st, eo, so, Post.bind (rep := RepL X.K) p1⟩) fun ws s2 ⟨zs, H2, I2, rz, M2, st2, es', g2, so2, rd2, p2⟩ => ⟨I2.kIn, ?_⟩
  rw [hks]
  split at p2
  · rename_i hl
    exact run_kw (vs := []) (us := []) G hr hb tk I2 .nil rz rfl (by rw [← rz.length, ← rd2.length]; exact hl.2) ⟨_, M2, st2, pick_rep .nil rd2 ix, so2, p2⟩
  · exact p2.elim
end
abbrev FM := D → List D → Sto → R D
def isL (d : D) (st : Sto) : Bool := match d with
  | .lst _ => true
  | .slo _ => true
  | .mut n => (match st[n]? with
    | some (.lst _) => true
    | _ => false)
  | _ => false
def methLE (f : FM) (fo : EvE) (fs : EvA) : EvE := fun env st => (fo env st).bind fun o st1 => if isL o st1 = true then (fs env st1).bind fun as st2 => f o as st2 else .fail
def appF : FM := fun d as st => match d, as with
  | .mut n, [x] => (match st[n]? with
    | some (.lst xs) => if xs.length < 16777216 then .ok .non (st.set n (.lst (xs ++ [x]))) else .fail
    | _ => .fail)
  | _, _ => .fail
end G
namespace G
open PySem PySem.Spec PyProof.Rows L2
theorem bt_len : bootBuiltins "len" = some (.builtin "len") := by decide +kernel
theorem bt_sum : bootBuiltins "sum" = some (.builtin "sum") := by decide +kernel
theorem bt_all : bootBuiltins "all" = some (.builtin "all") := by decide +kernel
theorem bt_any : bootBuiltins "any" = some (.builtin "any") := by decide +kernel
theorem bt_abs : bootBuiltins "abs" = some (.builtin "abs") := by decide +kernel
theorem bt_max : bootBuiltins "max" = some (.builtin "max") := by decide +kernel
theorem bt_min : bootBuiltins "min" = some (.builtin "min") := by decide +kernel
theorem bt_divmod : bootBuiltins "divmod" = some (.builtin "divmod") := by decide +kernel
theorem bt_isinstance : bootBuiltins "isinstance" = some (.builtin "isinstance") := by decide +kernel
theorem bt_int : bootBuiltins "int" = some (.type "int") := by decide +kernel
theorem bt_bool : bootBuiltins "bool" = some (.type "bool") := by decide +kernel
theorem bt_str : bootBuiltins "str" = some (.type "str") := by decide +kernel
theorem bt_list : bootBuiltins "list" = some (.type "list") := by decide +kernel
theorem bt_tuple : bootBuiltins "tuple" = some (.type "tuple") := by decide +kernel
section
variable {X : Cx} {W : WX} {s : Expr} {fs : EvA} {f : FA} {r : List V → Hp → VK → Prop}
theorem g_blt (h : PE X s (tCB r (rdA X.K W fs))) (hv : CallV X.K r f) : PE X s (rdE X.K W (callE f fs)) := h.imp (rd_call hv)
theorem c_len : CallR X (.builtin "len") (fun xs H Q => (∃ p ys, xs = [.ref p] ∧ (SqL X.K H p ys ∨ SqT X.K H p ys) ∧ Q (.int ys.length) H) ∨ ∃ z, xs = [.str z] ∧ z.length ≤ sizeLine ∧ Q (.int z.length) H) := CallR.or call_len_seq call_len_str
theorem c_divmod : CallR X (.builtin "divmod") (fun xs H Q => (∃ i j, xs = [.int i, .int j] ∧ CDiv i j ∧ ∀ p, H p = none → Q (.ref p) (upd H p (.tup [.int (i / j), .int (i % j)]))) ∨
    ∃ i j, xs = [.int i, .int j] ∧ CDivP i j ∧ ∀ p, H p = none → Q (.ref p) (upd H p (.tup [.int (i / j), .int (i % j)]))) := CallR.or call_divmod call_divmodW
theorem c_max (hc : X.calm = true) : CallR X (.builtin "max") (fun xs H Q => (∃ i j, xs = [.int i, .int j] ∧ Q (.int (if j > i then j else i)) H) ∨ qMax X.K xs H Q) := CallR.or (call_max2 hc) (cq_max hc)
theorem c_min (hc : X.calm = true) : CallR X (.builtin "min") (fun xs H Q => (∃ i j, xs = [.int i, .int j] ∧ Q (.int (if j < i then j else i)) H) ∨ qMin X.K xs H Q) := CallR.or (call_min2 hc) (cq_min hc)
theorem g_globI {x : Str} {pos : Pos} {i : Int} (hg : Gl X x) (h : ∃ t, X.mg x = some (.int i t)) (hd : (x == ("__debug__" : Str)) = false) : PE X (.Name x pos) (rdE X.K W (cE (.int i))) := by
  obtain ⟨t, h⟩ := h
  exact g_c (v := .int i) (pe_glob hg h ⟨t, rfl⟩ hd) (rep_int i)
theorem g_lc {it : EvI} {t : Tg} {tt : EvB} {fe : EvE} {vs : List Nat} (hv : ∀ i ∈ Tg.names t, i ∈ vs) (h : PE X s (tLc (rdI X.K W it) (Tg.raw X.K t) (rdB X.K W0 tt) (rdE X.K W0 fe) vs)) : PE X s (rdE X.K W (lcE it t tt fe vs)) := h.imp (rd_lc hv)
theorem s_set {i : Nat} {fa : EvE} {s : Stmt} (h : PS X s (tAsg (rdE X.K W fa) (gName i))) : PS X s (rdS X.K W (asgS fa (nameT i))) :=
  h.imp fun T σ H ⟨env, M, st, eo, so, p⟩ => ⟨env, M, st, eo, so, Post.imp (PostS.bind eo p) fun x H1 ⟨M1, st1, d, g, so1, ra, p1⟩ => p1 M1 H1 _ .refl so1 ((eo.grow g).set i ra)⟩
def parS (i j : Nat) (fs : EvA) : SvS := fun env st => bindS (fs env st) env fun as st1 => match as with
  | [a, b] => .nx ((env.set i (some a)).set j (some b)) st1
  | _ => .fail
theorem s_par {i j : Nat} {s : Stmt} (h : PS X s (tPar i j (rdA X.K W fs))) : PS X s (rdS X.K W (parS i j fs)) :=
  h.imp fun T σ H ⟨env, M, st, eo, so, p⟩ => ⟨env, M, st, eo, so, Post.imp (PostS.bind eo p) fun vs H1 ⟨M1, st1, ds, g, so1, ra, p1⟩ => by
    match ds, ra, p1 with
    | [a, b], ra, p1 =>
      obtain ⟨x, y, rfl, rx, ry⟩ := ra.two
      exact ⟨x, y, rfl, p1 M1 H1 _ .refl so1 (((eo.grow g).set i rx).set j ry)⟩
    | [], _, p1 => exact p1.elim
    | [_], _, p1 => exact p1.elim
    | _ :: _ :: _ :: _, _, p1 => exact p1.elim⟩
end
structure Kn (P : Program) (w : World) (K : PySem.W.Frag) (mg : Str → Option Value) (base : Heap) (x : Str) (s : Stmt) (ps : List Str) (k : Nat) (F : FA) : Prop where
  ex : ∃ (f : Addr) (fd : FuncData) (z : Str), mg x = some (.ref f) ∧ Fun K z z s f fd ∧ Binds K fd ps [] ∧ FnG P w K mg base k f fd ps (spG K F)
theorem fn_fail {P : Program} {w : World} {K : PySem.W.Frag} {mg : Str → Option Value} {base : Heap} {k : Nat} {f : Addr} {fd : FuncData} {ps : List Str} : FnG P w K mg base k f fd ps (spG K fun _ _ => .fail) :=
  ⟨fun _ _ _ _ ⟨_, _, _, _, _, p⟩ => p.elim, fun _ _ _ _ _ _ _ _ _ _ _ _ _ ⟨_, _, _, _, _, p⟩ => p.elim⟩
def Std (K : PySem.W.Frag) (mg : Str → Option Value) (x z : Str) (s : Stmt) : Prop := ∃ (f : Addr) (fd : FuncData), mg x = some (.ref f) ∧ Fun K z z s f fd
section
variable {P : Program} {w : World} {K : PySem.W.Frag} {mg : Str → Option Value} {base : Heap}
theorem kn_of {x z : Str} {s : Stmt} {N ps : List Str} {k n m : Nat} {B : SvS} (S : Std K mg x z s) (Sc : FnScope N ps (defScope s)) (hn : ps.length = n) (hm : N.length = m)
    (hb : ∀ (kV doc pm : Value) (an : Option Addr) (cdv ct : Value) (us : List Value), us.length = ps.length → bindArgs (PySem.W.fnOf z z (defArgs s) (defBody s) (defScope s) .none kV doc pm an cdv ct) ⟨us, []⟩ = pure (ps.zip us))
    (hbody : ∀ (f : Addr) (cdv : Value) (A : Around) (outer : List PySem.Env) (s' : Shared) (H : Hp) (E : XK), RoomG k (A.deeper (envOfC z (defScope s) s'.heap.objs.size f cdv)) →
      PSs (cxOf (L2.CX P w) P w K mg base N z (defScope s) f cdv A outer s' H E) (defBody s) (rdS K (Wd E) B)) : Kn P w K mg base x s ps (k + 1) (runF n m B) := by
  obtain ⟨f, fd, hmg, F⟩ := S
  exact ⟨f, fd, z, hmg, F, F.binds hb, fn_ok F Sc hn hm fun cdv A outer s' H E hr => hbody f cdv A outer s' H E hr⟩
theorem kn_fail {x z : Str} {s : Stmt} {ps : List Str} {k : Nat} (S : Std K mg x z s)
    (hb : ∀ (kV doc pm : Value) (an : Option Addr) (cdv ct : Value) (us : List Value), us.length = ps.length → bindArgs (PySem.W.fnOf z z (defArgs s) (defBody s) (defScope s) .none kV doc pm an cdv ct) ⟨us, []⟩ = pure (ps.zip us)) : Kn P w K mg base x s ps k fun _ _ => .fail := by
  obtain ⟨f, fd, hmg, F⟩ := S
  exact ⟨f, fd, z, hmg, F, F.binds hb, fn_fail⟩
end
section
variable {X : Cx} {W : WX} {F : FA} {k : Nat} {ps : List Str} {x : Str} {st : Stmt} {p pos : Pos} {e : Expr} {es : List Expr} {fs fk : EvA}
theorem g_calln (C : Kn X.prog X.w X.K X.mg X.base x st ps k F) (hr : RoomG k X.A) (hg : Gl X x) (tk : Takes X W)
    (ha : PA X (e :: es) (rdA X.K W fs)) (hdb : (x == ("__debug__" : Str)) = false) (he : starEach (e :: es) X.env = (false, eval e X.env) :: starEach es X.env) (hpl : (backTo pos (starEach es X.env)).any (·.1) = false) :
    PE X (.Call (.Name x p) (e :: es) [] pos) (rdE X.K W (callE F fs)) := by
  obtain ⟨f, fd, z, hm, Fn, hb, G⟩ := C.ex
  exact g_call G hr hg hm Fn.kp hb tk ha hdb he hpl
theorem g_callkn0 {ks : List Str} {ix : List Nat} {kws : List Keyword} (C : Kn X.prog X.w X.K X.mg X.base x st ps k F) (hr : RoomG k X.A) (hg : Gl X x) (tk : Takes X W)
    (hkb : ∀ (z : Str) (kV doc pm : Value) (an : Option Addr) (cdv ct : Value) (us ws : List Value), us.length = 0 → ws.length = ks.length → bindArgs (PySem.W.fnOf z z (defArgs st) (defBody st) (defScope st) .none kV doc pm an cdv ct) ⟨us, ks.zip ws⟩ = pure (ps.zip (pick us ws ix)))
    (hkw : PK X kws (rdA X.K W fk)) (hall : (backToKw pos (keywordEach kws X.env)).all (·.1.isSome) = true) (hks : (backToKw pos (keywordEach kws X.env)).filterMap (·.1) = ks)
    (hdb : (x == ("__debug__" : Str)) = false)
    (hpl : ((backTo pos (starEach [] X.env)).any (·.1) || (backToKw pos (keywordEach kws X.env)).any (·.1.isNone)) = false) :
    PE X (.Call (.Name x p) [] kws pos) (rdE X.K W (callKE F nilA fk 0 ks.length ix)) := by
  obtain ⟨f, fd, z, hm, Fn, hb, G⟩ := C.ex
  exact g_callK0 G hr hg hm Fn.kp (kb_of Fn (hkb z)) tk hkw hall hks hdb hpl
end
end G
namespace G
open PySem PySem.Spec PyProof.Rows L2
theorem fun_inj {K : PySem.W.Frag} {x qual x' qual' : Str} {s s' : Stmt} {f : Addr} {fd fd' : FuncData} (F : Fun K x qual s f fd) (F' : Fun K x' qual' s' f fd') : fd' = fd := by
  obtain ⟨oc, od, kV, doc, pm, an, cdv, ct, osl, e, lk, hcd⟩ := F.ex
  obtain ⟨oc', od', kV', doc', pm', an', cdv', ct', osl', e', lk', hcd'⟩ := F'.ex
  rw [lk] at lk'
  injection lk' with q
  injection q with _ _ q3 _
  injection q3 with q4
  exact q4.symm
theorem law_fd {l : PySem.W.OpenLaw} {w : World} {K : PySem.W.Frag} {mg : Str → Option Value} {fa : Addr} {fd : FuncData} {s : Stmt} {k : Nat} {F : FA} (hfa : mg "law" = some (.ref fa)) (Fn : Fun K "law" "law" s fa fd)
    (hb : ∀ (s : Shared) (v : Value), BindsTo s fd ⟨[v], []⟩ [("script", v)])
    (h : ∀ base : Heap, K.In base → base.Ns mainGlobals mg → Kn l.prog w K mg base "law" s ["script"] k F) :
    ∃ fd : FuncData, (∀ (s : Shared) (v : Value), BindsTo s fd ⟨[v], []⟩ [("script", v)]) ∧ ∀ base : Heap, K.In base → base.Ns mainGlobals mg → FnG l.prog w K mg base k fa fd ["script"] (spG K F) := by
  refine ⟨fd, hb, fun base h1 h2 => ?_⟩
  obtain ⟨f, fd', z, hm, Fn', _, G⟩ := (h base h1 h2).ex
  rw [hfa] at hm
  injection hm with hm
  injection hm with hm
  subst hm
  have e := fun_inj Fn Fn'
  subst e
  exact G
theorem cx_no {P : Program} {w : World} {outer : List PySem.Env} {H : Hp} {s : Shared} {e : Value} {s' : Shared} (h : L2.CX P w outer H s (fun _ _ _ => False) e s') : False := by
  obtain ⟨_, _, _, _, _, _, _, _, _, _, _, _, z⟩ := h
  exact z
theorem law_sp {K : PySem.W.Frag} {F : FA} {H : Hp} {a : Addr} {ns : List Int} (hS : SqL K H a (ns.map V.int)) (h : ∃ st, F [.slo (ns.map D.int)] [] = .ok (.bl true) st) : spG K F [.ref a] H (fun v _ => v = .bl true) fun _ _ _ => False := by
  obtain ⟨st, e⟩ := h
  refine ⟨[.slo (ns.map D.int)], ⟨[], [], fun _ => none⟩, [], .cons ?_ .nil, ⟨rfl, List.nodup_nil, fun a h => by simp at h, fun n a mo h => by simp at h⟩, ?_⟩
  · unfold Rep
    exact ⟨a, _, rfl, hS.imp (fun q => ⟨q, by simp [Mem.no]⟩) id, .ints ns⟩
  · rw [e]
    intro M' H' b _ _ r
    unfold Rep at r
    exact r
section
variable {P : Program} {w : World} {K : PySem.W.Frag} {mg mb : Str → Option Value} {k : Nat} {fa a : Addr} {fd : FuncData} {x : Str} {F : FA} {s : Shared} {vs : List Value} {ns : List Int}
structure Fst (K : PySem.W.Frag) (P : Program) (w : World) (a : Addr) (h : Heap) (ns : List Int) (H : Hp) : Prop where
  only : ∀ b, H b = none ∨ (b = a ∧ K.lookup a = none ∧ ∃ o xs, H b = some (.frz o (.lst xs)))
  at_ : SqL K H a (ns.map V.int)
  ok : HOk P w H h
theorem fst_of (KX : K.In s.heap) (ha : s.heap.get? a = some { cls := .type "list", data := .seq vs.toArray }) (hi : IntsAre vs ns) (hl : ns.length ≤ sizeLine) : ∃ H, Fst K P w a s.heap ns H := by
  have rv := vals_ints hi
  by_cases hk : K.lookup a = none
  · let u : HO := .frz { cls := .type "list", data := .seq vs.toArray } (.lst (ns.map V.int))
    refine ⟨fun b => if b = a then some u else none, fun b => ?_, .inl (.inr ⟨_, if_pos rfl⟩), fun b o e => ?_⟩
    · by_cases hb : b = a
      · exact .inr ⟨hb, hk, _, _, if_pos hb⟩
      · exact .inl (if_neg hb)
    · by_cases hb : b = a
      · subst hb
        have e := (if_pos rfl).symm.trans e
        cases e
        exact ⟨ha, by rw [List.length_map]; exact hl, vs, _, rv, ha⟩
      · have e := (if_neg hb).symm.trans e
        cases e
  · cases hk2 : K.lookup a with
    | none => exact absurd hk2 hk
    | some o =>
      have e := KX a o hk2
      rw [ha] at e
      cases e
      refine ⟨fun _ => none, fun _ => .inl rfl, .inr ⟨_, vs.toArray, _, hk2, rfl, rfl, rfl, ?_, by simpa using rv⟩, fun _ _ e => nomatch e⟩
      rw [List.size_toArray, hi.length]; exact hl
theorem law_run (KX : K.In s.heap) (hns : s.heap.Ns mainGlobals mg) (hb : s.heap.Ns builtinsNs mb) (hbb : ∀ x : Str, x ≠ "__name__" → mb x = bootBuiltins x) (hlim : s.heap.NoLimit) (hg : s.gens = #[])
    (ha : s.heap.get? a = some { cls := .type "list", data := .seq vs.toArray }) (hi : IntsAre vs ns) (hl : ns.length ≤ sizeLine) (hr : RoomG k callerA)
    (hF : ∀ base : Heap, K.In base → base.Ns mainGlobals mg → FnG P w K mg base k fa fd [x] (spG K F)) (hbind : ∀ (s : Shared) (u : Value), BindsTo s fd ⟨[u], []⟩ [(x, u)]) (ht : ∃ st, F [.slo (ns.map D.int)] [] = .ok (.bl true) st) :
    codeAny (model P w) callerA (.call (.ref fa) ⟨[.ref a], []⟩) (fun r s' => r = .ok (.ret (.bool true)) ∧ OldK s.heap s'.heap ∧ s'.os = s.os ∧ AllBare s'.gens) s := by
  obtain ⟨H, F1⟩ := fst_of (P := P) (w := w) KX ha hi hl
  -- a dict, or an object of the module, is not tracked
  have free : ∀ {b : Addr} {o : Obj}, s.heap.get? b = some o → (b = a → K.lookup a = none → False) → H b = none := fun {b o} e z => (F1.only b).elim id fun ⟨h1, h2, _⟩ => (z h1 h2).elim
  have ns_ : ∀ {b : Addr} {m : Str → Option Value}, s.heap.Ns b m → (hidT s.heap H).Ns b m := fun {b m} ⟨o, es, ep, e, d, r⟩ => ⟨o, es, ep, hidT_get e (free e fun h1 _ => by
    subst h1
    rw [ha] at e
    cases e
    exact nomatch (show Data.seq vs.toArray _ = Data.dict es ep from d)), d, r⟩
  have KB : K.In (hidT s.heap H) := fun b o e => hidT_get (KX b o e) (free (KX b o e) fun h1 h2 => by
    subst h1
    rw [h2] at e; cases e)
  have e0 : Env0 P w K mg (hidT s.heap H) callerA [] s H :=
    ⟨rfl, ⟨KB, ns_ hns, ⟨mb, ns_ hb, hbb⟩, let ⟨mc, h1, h2⟩ := hlim; ⟨mc, ns_ h1, h2⟩⟩, fun b o e => of_hidT e, Nat.le_of_eq (hidT_size _ _), True.intro, fun b hb => (nomatch (show b ∈ ([] : List Addr) from hb)), F1.ok, .of_eq hg⟩
  refine codeAny_mono ((hF _ KB (ns_ hns)).run callerA [] s H ⟨[.ref a], []⟩ [.ref a] [.ref a] (fun v _ => v = .bl true) (fun _ _ _ => False) hr e0 (hbind s (.ref a)) (.cons rfl .nil) (law_sp F1.at_ ht)) fun r s' h => ?_
  cases r with
  | error e => exact (cx_no h).elim
  | ok fl =>
    cases fl with
    | next => exact False.elim h
    | brk => exact False.elim h
    | cont => exact False.elim h
    | ret u =>
      obtain ⟨v, H', os, bare, un, hok', r', q⟩ := h
      have q : v = .bl true := q
      subst q
      obtain rfl : u = Value.bool true := r'
      refine ⟨rfl, OldK.of_keep fun b o e => ?_, os, bare⟩
      rcases F1.only b with z | ⟨_, _, ob, xs, z⟩
      · exact un.keep b o e z (fun m => (nomatch (show b ∈ ([] : List Addr) from m))) (by simp)
      · have k1 := (F1.ok b _ z).1
        have k2 := (hok' b _ (un.frzs b ob _ z)).1
        rw [k1] at e
        cases e
        exact k2
theorem walk_end {l : PySem.W.OpenLaw} {n k : Nat} {q : Program} {loose : List Str} {XP : (Str → Option Value) → Heap → Prop} {YP : World → Heap → Prop} {d : DefRec} {K : Params → PySem.W.Frag} {x : Str} {F : FA}
    (hn : l.most = some n) (hn2 : n ≤ sizeLine) (hdf : d.params.defaults = []) (hr : L2.Room k callerA) (hY : ∀ (w : World) (h : Heap), YP w h → (K w.params).In h)
    (hF : ∀ (w : World) (mg : Str → Option Value) (fa : Addr) (h : Heap), (K w.params).In h → h.Ns mainGlobals mg → mg d.name = some (.ref fa) →
      ∃ fd : FuncData, (∀ (s : Shared) (u : Value), BindsTo s fd ⟨[u], []⟩ [(x, u)]) ∧ ∀ base : Heap, (K w.params).In base → base.Ns mainGlobals mg → FnG l.prog w (K w.params) mg base k fa fd [x] (spG (K w.params) F))
    (ht : ∀ ns : List Int, ns.length ≤ n → ∃ st, F [.slo (ns.map D.int)] [] = .ok (.bl true) st) : PySem.W.WalkO q loose XP YP l.row.toRowW d [] (fun f vs => PySem.call f vs) := by
  refine Att.attach_call hn hdf fun w s₀ s₁ mg mb fa o pm cd doc a vs ns G Y ho hd hcd hmg hobj hints hlen hg => ?_
  have KX := hY w _ Y
  obtain ⟨fd, hb, F1⟩ := hF w mg fa _ KX G.T.g hmg
  exact law_run KX G.T.g G.T.b G.T.builtins G.T.nolimit hg hobj hints (Nat.le_trans hlen hn2) ⟨hr, rfl⟩ F1 hb (ht ns hlen)
end
end G
namespace G
open PySem PySem.Spec PyProof.Rows L2
mutual
def rf : D → Bool
  | .mut _ => false
  | .exv .. => false
  | .tup xs => rfL xs
  | .lst xs => rfL xs
  | .slo xs => rfL xs
  | _ => true
def rfL : List D → Bool
  | [] => true
  | x :: xs => rf x && rfL xs
end
def rfM : MO → Bool
  | .lst xs => rfL xs
  | .dd kvs => rfL (kvs.map (·.2))
  | .de kvs => rfL (kvs.map (·.2))
  | .fd kvs => rfL (kvs.map (·.2))
  | .fe kvs => rfL (kvs.map (·.2))
  | .dn kvs => rfL (kvs.map (·.1)) && rfL (kvs.map (·.2))
  | .gn kvs => rfL (kvs.map (·.1)) && rfL (kvs.map (·.2))
  | _ => true
def rfS (st : Sto) : Bool := st.all rfM
mutual
/-- d with the lists of st that are not below n0 written out, k deep at most -/
def thaw (st : Sto) (n0 : Nat) : Nat → D → Option D
  | k, .tup xs => (thawL st n0 k xs).map .tup
  | k, .lst xs => (thawL st n0 k xs).map .lst
  | k, .slo xs => if rfL xs then some (.slo xs) else none
  | 0, .mut _ => none
  | _, .exv .. => none
  | k + 1, .mut j => if j < n0 then none else match st[j]? with
    | some (.lst xs) => if rfL xs then some (.lst xs) else none
    | _ => none
  | _, d => some d
def thawL (st : Sto) (n0 : Nat) : Nat → List D → Option (List D)
  | _, [] => some []
  | k, x :: xs => match thaw st n0 k x, thawL st n0 k xs with
    | some a, some b => some (a :: b)
    | _, _ => none
end
def fz (n0 : Nat) (r : R D) : R D := match r with
  | .ok d st1 => (match rfS (st1.take n0), thaw st1 n0 1 d with
    | true, some d' => .ok d' (st1.take n0)
    | _, _ => .ok d st1)
  | r => r
section
variable {K : PySem.W.Frag} {M : Mem} {H : Hp} {n0 : Nat}
def Mem.cut (M : Mem) (n : Nat) : Mem := ⟨M.m.take n, M.p, M.f⟩
end
def rangeD (lo : Int) (n : Nat) : List D := (List.range n).map fun k => .int (lo + (k : Nat))
@[simp] theorem rangeD_length (lo : Int) (n : Nat) : (rangeD lo n).length = n := by simp [rangeD]
section
variable (env : Env) (st : Sto)
@[simp] theorem varE_0 (d : D) (r : Env) : varE 0 (some d :: r) st = .ok d st := rfl
@[simp] theorem varE_s (n : Nat) (o : Option D) (r : Env) : varE (n + 1) (o :: r) st = varE n r st := by
  unfold varE
  simp only [List.getElem?_cons_succ]
@[simp] theorem cE_eq (d : D) : cE d env st = .ok d st := rfl
@[simp] theorem unE_eq (f : F1) (a : EvE) : unE f a env st = (a env st).bind f := rfl
@[simp] theorem binE_eq (f : F2) (a b : EvE) : binE f a b env st = (a env st).bind fun x s1 => (b env s1).bind fun y s2 => f x y s2 := rfl
@[simp] theorem tstE_eq (a : EvE) : tstE a env st = (a env st).bind boolR := rfl
@[simp] theorem boolR_eq (b : Bool) : boolR (.bl b) st = .ok b st := rfl
@[simp] theorem chainE_eq (f g : F2) (a b c : EvE) : chainE f g a b c env st = (a env st).bind fun x s1 => (b env s1).bind fun y s2 => (f x y s2).bind fun z s3 => match z with
  | .bl true => (c env s3).bind fun v s4 => g y v s4
  | .bl false => .ok (.bl false) s3
  | _ => .fail := rfl
@[simp] theorem andB_eq (p q : EvB) : andB p q env st = (p env st).bind fun b s1 => if b = true then q env s1 else .ok false s1 := rfl
@[simp] theorem orB_eq (p q : EvB) : orB p q env st = (p env st).bind fun b s1 => if b = true then .ok true s1 else q env s1 := rfl
@[simp] theorem notB_eq (p : EvB) : notB p env st = (p env st).bind fun b s1 => .ok (!b) s1 := rfl
@[simp] theorem ifE_eq (t : EvB) (a b : EvE) : ifE t a b env st = (t env st).bind fun x s1 => if x = true then a env s1 else b env s1 := rfl
@[simp] theorem andE_eq (a b : EvE) : andE a b env st = (a env st).bind fun x s1 => match x with
  | .bl true => b env s1
  | .bl false => .ok (.bl false) s1
  | _ => .fail := rfl
@[simp] theorem notE_eq (a : EvE) : notE a env st = (a env st).bind fun x s1 => match x with
  | .bl b => .ok (.bl (!b)) s1
  | _ => .fail := rfl
@[simp] theorem nilA_eq : nilA env st = .ok [] st := rfl
@[simp] theorem consA_eq (a : EvE) (r : EvA) : consA a r env st = (a env st).bind fun x s1 => (r env s1).bind fun xs s2 => .ok (x :: xs) s2 := rfl
@[simp] theorem starA_eq (a : EvE) (r : EvA) : starA a r env st = (a env st).bind fun x s1 => match itemsOf x with
  | some xs => (r env s1).bind fun ys s2 => .ok (xs ++ ys) s2
  | none => .fail := rfl
@[simp] theorem tupE_eq (fs : EvA) : tupE fs env st = (fs env st).bind fun xs s1 => if xs.length ≤ 16777216 then .ok (.tup xs) s1 else .fail := rfl
@[simp] theorem lstE_eq (fs : EvA) : lstE fs env st = (fs env st).bind fun xs s1 => if xs.length ≤ 16777216 then .ok (.lst xs) s1 else .fail := rfl
@[simp] theorem mutE_eq (fs : EvA) : mutE fs env st = (fs env st).bind fun xs s1 => if xs.length ≤ 16777216 then .ok (.mut s1.length) (s1 ++ [.lst xs]) else .fail := rfl
@[simp] theorem callE_eq (f : FA) (fs : EvA) : callE f fs env st = (fs env st).bind f := rfl
@[simp] theorem noO_eq : noO env st = .ok none st := rfl
@[simp] theorem someO_eq (a : EvE) : someO a env st = (a env st).bind fun x s1 => match x with
  | .int i => .ok (some i) s1
  | _ => .fail := rfl
@[simp] theorem sliceE_eq (a : EvE) (l h : EvO) : sliceE a l h env st = (a env st).bind fun x s1 => (l env s1).bind fun l s2 => (h env s2).bind fun h s3 => sliceD x l h s3 := rfl
@[simp] theorem callKE_eq (F : FA) (fs ks : EvA) (n m : Nat) (ix : List Nat) : callKE F fs ks n m ix env st = (fs env st).bind fun us s1 => (ks env s1).bind fun ws s2 => if us.length = n ∧ ws.length = m then F (pick us ws ix) s2 else .fail := rfl
@[simp] theorem methLE_eq (f : FM) (o : EvE) (fs : EvA) : methLE f o fs env st = (o env st).bind fun x s1 => if isL x s1 = true then (fs env s1).bind fun as s2 => f x as s2 else .fail := rfl
@[simp] theorem passS_eq : passS env st = .nx env st := rfl
@[simp] theorem retS_eq (a : EvE) : retS a env st = bindS (a env st) env fun d s1 => .ret d s1 := rfl
@[simp] theorem exprS_eq (a : EvE) : exprS a env st = bindS (a env st) env fun _ s1 => .nx env s1 := rfl
@[simp] theorem ifS_eq (t : EvB) (f g : SvS) : ifS t f g env st = bindS (t env st) env fun b s1 => if b = true then f env s1 else g env s1 := rfl
def thenS (s : S) (g : SvS) : S := match s with
  | .nx e s1 => g e s1
  | s => s
@[simp] theorem seqS_eq (f g : SvS) : seqS f g env st = thenS (f env st) g := by
  unfold seqS thenS
  cases f env st <;> rfl
@[simp] theorem thenS_nx (g : SvS) : thenS (.nx env st) g = g env st := rfl
@[simp] theorem thenS_ret (d : D) (g : SvS) : thenS (.ret d st) g = .ret d st := rfl
@[simp] theorem thenS_ite {c : Prop} [Decidable c] (a b : S) (g : SvS) : thenS (if c then a else b) g = if c then thenS a g else thenS b g := by split <;> rfl
@[simp] theorem asgS_eq (a : EvE) (g : TgF) : asgS a g env st = bindS (a env st) env fun d s1 => bindS (g d env s1) env fun e s2 => .nx e s2 := rfl
@[simp] theorem nameT_eq (i : Nat) (d : D) : nameT i d env st = .ok (env.set i (some d)) st := rfl
@[simp] theorem tupT_eq (n : Nat) (fs : List D → Env → Sto → R Env) (xs : List D) : tupT n fs (.tup xs) env st = if xs.length = n then fs xs env st else .fail := rfl
@[simp] theorem nilT_eq : nilT [] env st = .ok env st := rfl
@[simp] theorem consT_eq (f : TgF) (fs : List D → Env → Sto → R Env) (d : D) (r : List D) : consT f fs (d :: r) env st = match f d env st with
    | .ok e s => (match fs r e s with
      | .ok e2 s2 => .ok e2 s2
      | _ => .fail)
    | _ => .fail := rfl
@[simp] theorem parS_eq (i j : Nat) (fs : EvA) : parS i j fs env st = bindS (fs env st) env fun as s1 => match as with
  | [a, b] => .nx ((env.set i (some a)).set j (some b)) s1
  | _ => .fail := rfl
@[simp] theorem forS_eq (it : EvI) (g : TgF) (body : SvS) : forS it g body env st = bindS (it env st) env fun I s1 => match I with
  | .frz xs => loopF g body xs env s1
  | .gen nxt k => loopG g body nxt k 0 env s1 := rfl
@[simp] theorem tgT_nm (i : Nat) (d : D) : tgT (.nm i) d env st = .ok (env.set i (some d)) st := rfl
@[simp] theorem callI_eq (f : List D → Sto → R ItD) (fs : EvA) : callI f fs env st = (fs env st).bind f := rfl
@[simp] theorem iterE_eq (a : EvE) : iterE a env st = (a env st).bind iterD := rfl
@[simp] theorem iterD_tup (xs : List D) : iterD (.tup xs) st = .ok (.frz xs) st := rfl
@[simp] theorem iterD_lst (xs : List D) : iterD (.lst xs) st = .ok (.frz xs) st := rfl
@[simp] theorem iterD_slo (xs : List D) : iterD (.slo xs) st = .ok (.frz xs) st := rfl
@[simp] theorem range1F_eq (j : Int) : range1F [.int j] st = if j.natAbs < 2 ^ 62 then .ok (.frz (rangeD 0 j.toNat)) st else .fail := rfl
@[simp] theorem range2F_eq (i j : Int) : range2F [.int i, .int j] st = if i.natAbs < 2 ^ 62 ∧ j.natAbs < 2 ^ 62 then .ok (.frz (rangeD i (j - i).toNat)) st else .fail := rfl
@[simp] theorem addD_int (i j : Int) : addD (.int i) (.int j) st = .ok (.int (i + j)) st := rfl
@[simp] theorem subD_int (i j : Int) : subD (.int i) (.int j) st = .ok (.int (i - j)) st := rfl
@[simp] theorem mulD_int (i j : Int) : mulD (.int i) (.int j) st = if mulOk i j then .ok (.int (i * j)) st else .fail := rfl
@[simp] theorem fdivD_int (i j : Int) : fdivD (.int i) (.int j) st = if 0 < j ∧ j.natAbs < big then .ok (.int (i / j)) st else .fail := rfl
@[simp] theorem modD_int (i j : Int) : modD (.int i) (.int j) st = if 0 < j then .ok (.int (i % j)) st else .fail := rfl
@[simp] theorem powD_int (i j : Int) : powD (.int i) (.int j) st = if 0 ≤ j ∧ j ≤ 1000000 ∧ i.natAbs < 2 ^ 64 then .ok (.int (i ^ j.toNat)) st else .fail := rfl
@[simp] theorem negD_int (i : Int) : negD (.int i) st = .ok (.int (-i)) st := rfl
@[simp] theorem ltD_int (i j : Int) : ltD (.int i) (.int j) st = .ok (.bl (decide (i < j))) st := rfl
@[simp] theorem leD_int (i j : Int) : leD (.int i) (.int j) st = .ok (.bl (decide (i ≤ j))) st := rfl
@[simp] theorem gtD_int (i j : Int) : gtD (.int i) (.int j) st = .ok (.bl (decide (j < i))) st := rfl
@[simp] theorem geD_int (i j : Int) : geD (.int i) (.int j) st = .ok (.bl (decide (j ≤ i))) st := rfl
@[simp] theorem eqD_int (i j : Int) : eqD (.int i) (.int j) st = .ok (.bl (decide (i = j))) st := rfl
@[simp] theorem neD_int (i j : Int) : neD (.int i) (.int j) st = .ok (.bl (!decide (i = j))) st := rfl
@[simp] theorem absF_int (i : Int) : absF [.int i] st = .ok (.int (if i < 0 then -i else i)) st := rfl
@[simp] theorem intF_int (i : Int) : intF [.int i] st = .ok (.int i) st := rfl
@[simp] theorem maxF_int (i j : Int) : maxF [.int i, .int j] st = .ok (.int (if j > i then j else i)) st := rfl
@[simp] theorem minF_int (i j : Int) : minF [.int i, .int j] st = .ok (.int (if j < i then j else i)) st := rfl
@[simp] theorem divmodF_int (i j : Int) : divmodF [.int i, .int j] st = if 0 < j ∧ (j < 1073741824 ∨ i.natAbs < big ∨ j.natAbs < big) then .ok (.tup [.int (i / j), .int (i % j)]) st else .fail := rfl
@[simp] theorem lenF_tup (xs : List D) : lenF [.tup xs] st = .ok (.int xs.length) st := rfl
@[simp] theorem lenF_lst (xs : List D) : lenF [.lst xs] st = .ok (.int xs.length) st := rfl
@[simp] theorem lenF_slo (xs : List D) : lenF [.slo xs] st = .ok (.int xs.length) st := rfl
@[simp] theorem listF_tup (xs : List D) : listF [.tup xs] st = .ok (.lst xs) st := rfl
@[simp] theorem listF_lst (xs : List D) : listF [.lst xs] st = .ok (.lst xs) st := rfl
@[simp] theorem tupleF_tup (xs : List D) : tupleF [.tup xs] st = .ok (.tup xs) st := rfl
@[simp] theorem tupleF_lst (xs : List D) : tupleF [.lst xs] st = .ok (.tup xs) st := rfl
@[simp] theorem sumF_ints (ns : List Int) : sumF [.lst (ns.map D.int)] st = .ok (.int ns.sum) st := by
  show (match (some (ns.map D.int)).bind intsOf with
    | some ns => R.ok (D.int ns.sum) st
    | none => .fail) = _
  simp
@[simp] theorem allF_bools (ns : List Bool) : allF [.lst (ns.map D.bl)] st = .ok (.bl (ns.all id)) st := by
  show (match (some (ns.map D.bl)).bind boolsOf with
    | some ns => R.ok (D.bl (ns.all id)) st
    | none => .fail) = _
  simp
@[simp] theorem anyF_bools (ns : List Bool) : anyF [.lst (ns.map D.bl)] st = .ok (.bl (ns.any id)) st := by
  show (match (some (ns.map D.bl)).bind boolsOf with
    | some ns => R.ok (D.bl (ns.any id)) st
    | none => .fail) = _
  simp
@[simp] theorem sliceD_tup (xs : List D) (l h : Option Int) : sliceD (.tup xs) l h st = .ok (.tup (cutD xs l h)) st := rfl
@[simp] theorem sliceD_lst (xs : List D) (l h : Option Int) : sliceD (.lst xs) l h st = .ok (.lst (cutD xs l h)) st := rfl
@[simp] theorem sliceD_slo (xs : List D) (l h : Option Int) : sliceD (.slo xs) l h st = .ok (.lst (cutD xs l h)) st := rfl
@[simp] theorem itemsOf_tup (xs : List D) : itemsOf (.tup xs) = some xs := rfl
@[simp] theorem itemsOf_lst (xs : List D) : itemsOf (.lst xs) = some xs := rfl
@[simp] theorem isiD_int (c : Tag) (i : Int) : isiD c (.int i) st = .ok (.bl (isiB .int c)) st := rfl
@[simp] theorem isiD_bl (c : Tag) (i : Bool) : isiD c (.bl i) st = .ok (.bl (isiB .bl c)) st := rfl
@[simp] theorem isiD_str (c : Tag) (i : Str) : isiD c (.str i) st = .ok (.bl (isiB .str c)) st := rfl
@[simp] theorem isiD_non (c : Tag) : isiD c .non st = .ok (.bl (isiB .non c)) st := rfl
@[simp] theorem isiD_tup (c : Tag) (xs : List D) : isiD c (.tup xs) st = .ok (.bl (isiB .tup c)) st := rfl
@[simp] theorem isiD_lst (c : Tag) (xs : List D) : isiD c (.lst xs) st = .ok (.bl (isiB .lst c)) st := rfl
end
theorem ixD_tup (xs : List D) (i : Int) (st : Sto) {d : D} (h : L2.atI xs i = some d) : ixD (.tup xs) (.int i) st = .ok d st := by
  show (match (some xs).bind fun xs => L2.atI xs i with
      | some d => R.ok d st
      | none => .fail) = _
  simp [h]
theorem ixD_lst (xs : List D) (i : Int) (st : Sto) {d : D} (h : L2.atI xs i = some d) : ixD (.lst xs) (.int i) st = .ok d st := by
  show (match (some xs).bind fun xs => L2.atI xs i with
      | some d => R.ok d st
      | none => .fail) = _
  simp [h]
theorem ixD_slo (xs : List D) (i : Int) (st : Sto) {d : D} (h : L2.atI xs i = some d) : ixD (.slo xs) (.int i) st = .ok d st := by
  show (match (some xs).bind fun xs => L2.atI xs i with
      | some d => R.ok d st
      | none => .fail) = _
  simp [h]
theorem ixD_mut (n : Nat) (xs : List D) (i : Int) (st : Sto) {d : D} (hn : st[n]? = some (.lst xs)) (h : L2.atI xs i = some d) : ixD (.mut n) (.int i) st = .ok d st := by
  have e : seqOf (.mut n) st = some xs := by simp [seqOf, hn]
  show (match (seqOf (.mut n) st).bind fun xs => L2.atI xs i with
      | some d => R.ok d st
      | none => .fail) = _
  simp [e, h]
end G
namespace G
open PySem PySem.Spec PyProof.Rows L2
def tupI (ts : List Int) : D := .tup (ts.map D.int)
def lstI (ts : List Int) : D := .lst (ts.map D.int)
def lstB (ts : List Bool) : D := .lst (ts.map D.bl)
@[simp] theorem cutD_from (xs : List D) (m : Nat) : cutD xs (some (m : Int)) none = xs.drop m := by
  unfold cutD
  rw [HT.sIx_nat, HT.sIx_none]
  by_cases h : m ≤ xs.length
  · rw [Nat.min_eq_left h, List.take_of_length_le (by simp)]
  · rw [Nat.min_eq_right (by omega), List.drop_of_length_le (Nat.le_refl _), List.drop_of_length_le (by omega)]
    simp
@[simp] theorem cutD_to (xs : List D) (m : Nat) : cutD xs none (some (m : Int)) = xs.take m := by
  unfold cutD
  rw [HT.sIx_nat, HT.sIx_none, List.drop_zero, Nat.sub_zero]
  by_cases h : m ≤ xs.length
  · rw [Nat.min_eq_left h]
  · rw [Nat.min_eq_right (by omega), List.take_of_length_le (Nat.le_refl _), List.take_of_length_le (by omega)]
@[simp] theorem cutD_both (xs : List D) (a b : Nat) : cutD xs (some (a : Int)) (some (b : Int)) = (xs.drop a).take (b - a) := by
  unfold cutD
  rw [HT.sIx_nat, HT.sIx_nat]
  apply List.ext_getElem?
  intro i
  rw [List.getElem?_take, List.getElem?_take, List.getElem?_drop, List.getElem?_drop]
  by_cases h1 : a ≤ xs.length
  · rw [show min a xs.length = a by omega]
    by_cases h2 : b ≤ xs.length
    · rw [show min b xs.length = b by omega]
    · rw [show min b xs.length = xs.length by omega]
      by_cases h3 : a + i < xs.length
      · rw [if_pos (by omega), if_pos (by omega)]
      · rw [List.getElem?_eq_none (by omega)]; simp
  · rw [show min a xs.length = xs.length by omega]
    have e1 : xs[xs.length + i]? = none := List.getElem?_eq_none (by omega)
    have e2 : xs[a + i]? = none := List.getElem?_eq_none (by omega)
    rw [e1, e2]
    simp
theorem atI_nat' {α : Type} (xs : List α) (i : Nat) (h : i < xs.length) : L2.atI xs (i : Int) = some xs[i] := by
  unfold L2.atI L2.ixN
  rw [if_pos (by omega), if_pos (by omega)]
  simp [h]
theorem atI_map {α β : Type} (f : α → β) (xs : List α) (i : Int) : L2.atI (xs.map f) i = (L2.atI xs i).map f := by
  unfold L2.atI
  rw [List.length_map]
  cases L2.ixN xs.length i with
  | none => rfl
  | some j => simp
theorem atI_emod {ts : List Int} {i : Int} (h : 0 ≤ i) (hl : i < ts.length) : L2.atI (ts.map D.int) i = some (.int (ts.getD i.toNat 0)) := by
  obtain ⟨k, rfl⟩ := Int.eq_ofNat_of_zero_le h
  rw [atI_map, atI_nat' ts k (by omega)]
  have hk : k < ts.length := by omega
  simp [List.getD, hk]
def cutL {α : Type} (xs : List α) (lo hi : Option Int) : List α := (xs.drop (HT.sIx xs.length 0 lo)).take (HT.sIx xs.length xs.length hi - HT.sIx xs.length 0 lo)
theorem cutD_map {α : Type} (f : α → D) (xs : List α) (lo hi : Option Int) : cutD (xs.map f) lo hi = (cutL xs lo hi).map f := by
  unfold cutD cutL
  rw [List.length_map, List.map_take, List.map_drop]
theorem cutL_from {α : Type} (xs : List α) (m : Nat) : cutL xs (some (m : Int)) none = xs.drop m := by
  unfold cutL
  rw [HT.sIx_nat, HT.sIx_none]
  by_cases h : m ≤ xs.length
  · rw [Nat.min_eq_left h, List.take_of_length_le (by simp)]
  · rw [Nat.min_eq_right (by omega), List.drop_of_length_le (Nat.le_refl _), List.drop_of_length_le (by omega)]
    simp
theorem cutL_to {α : Type} (xs : List α) (m : Nat) : cutL xs none (some (m : Int)) = xs.take m := by
  unfold cutL
  rw [HT.sIx_nat, HT.sIx_none, List.drop_zero, Nat.sub_zero]
  by_cases h : m ≤ xs.length
  · rw [Nat.min_eq_left h]
  · rw [Nat.min_eq_right (by omega), List.take_of_length_le (Nat.le_refl _), List.take_of_length_le (by omega)]
section
variable (st : Sto) (ts : List Int)
@[simp] theorem lenF_tupI : lenF [tupI ts] st = .ok (.int ts.length) st := by unfold tupI; rw [lenF_tup, List.length_map]
@[simp] theorem lenF_lstI : lenF [lstI ts] st = .ok (.int ts.length) st := by unfold lstI; rw [lenF_lst, List.length_map]
@[simp] theorem listF_tupI : listF [tupI ts] st = .ok (lstI ts) st := rfl
@[simp] theorem listF_lstI : listF [lstI ts] st = .ok (lstI ts) st := rfl
@[simp] theorem tupleF_tupI : tupleF [tupI ts] st = .ok (tupI ts) st := rfl
@[simp] theorem tupleF_lstI : tupleF [lstI ts] st = .ok (tupI ts) st := rfl
@[simp] theorem sumF_tupI : sumF [tupI ts] st = .ok (.int ts.sum) st := by
  show (match (seqOf (D.tup (ts.map D.int)) st).bind intsOf with | some ns => _ | none => _) = _
  simp [seqOf, itemsOf]
@[simp] theorem sumF_lstI : sumF [lstI ts] st = .ok (.int ts.sum) st := sumF_ints st ts
@[simp] theorem sliceD_tupI (l h : Option Int) : sliceD (tupI ts) l h st = .ok (tupI (cutL ts l h)) st := by unfold tupI; rw [sliceD_tup, cutD_map]
@[simp] theorem sliceD_lstI (l h : Option Int) : sliceD (lstI ts) l h st = .ok (lstI (cutL ts l h)) st := by unfold lstI; rw [sliceD_lst, cutD_map]
@[simp] theorem itemsOf_tupI : itemsOf (tupI ts) = some (ts.map D.int) := rfl
@[simp] theorem itemsOf_lstI : itemsOf (lstI ts) = some (ts.map D.int) := rfl
@[simp] theorem iterD_tupI : iterD (tupI ts) st = .ok (.frz (ts.map D.int)) st := rfl
@[simp] theorem iterD_lstI : iterD (lstI ts) st = .ok (.frz (ts.map D.int)) st := rfl
@[simp] theorem isiD_tupI (c : Tag) : isiD c (tupI ts) st = .ok (.bl (isiB .tup c)) st := rfl
@[simp] theorem isiD_lstI (c : Tag) : isiD c (lstI ts) st = .ok (.bl (isiB .lst c)) st := rfl
@[simp] theorem allF_lstB (bs : List Bool) : allF [lstB bs] st = .ok (.bl (bs.all id)) st := allF_bools st bs
@[simp] theorem anyF_lstB (bs : List Bool) : anyF [lstB bs] st = .ok (.bl (bs.any id)) st := anyF_bools st bs
theorem ixD_tupI (i : Int) (h : 0 ≤ i) (hl : i < ts.length) : ixD (tupI ts) (.int i) st = .ok (.int (ts.getD i.toNat 0)) st := ixD_tup _ _ _ (atI_emod h hl)
theorem divmodF_nat (n m : Nat) (h : 0 < m) (h2 : m < 1073741824 ∨ n < big) : divmodF [.int n, .int m] st = .ok (.tup [.int (n / m : Nat), .int (n % m : Nat)]) st := by
  rw [divmodF_int, if_pos ⟨by omega, h2.imp (fun z => by omega) (fun z => .inl (by simpa using z))⟩]; rfl
end
theorem loopF_nx {g : TgF} {body : SvS} (Inv : Nat → Env → Sto → Prop) : ∀ (xs : List D) (i : Nat) (env : Env) (st : Sto), Inv i env st →
    (∀ j x env st, xs[j]? = some x → Inv (i + j) env st → ∃ env' st', turnS (bindS (g x env st) env body) (fun e s => .nx e s) = .nx env' st' ∧ (∀ k, turnS (bindS (g x env st) env body) k = k env' st') ∧ Inv (i + j + 1) env' st') →
    ∃ env' st', loopF g body xs env st = .nx env' st' ∧ Inv (i + xs.length) env' st'
  | [], i, env, st, h0, _ => ⟨env, st, rfl, h0⟩
  | x :: xs, i, env, st, h0, hs => by
    obtain ⟨e1, s1, _, t1, h1⟩ := hs 0 x env st rfl h0
    obtain ⟨e2, s2, t2, h2⟩ := loopF_nx Inv xs (i + 1) e1 s1 h1 fun j y e s hj hI => by
      have := hs (j + 1) y e s (by simpa using hj) (by rw [show i + (j + 1) = i + 1 + j by omega]; exact hI)
      rw [show i + (j + 1) + 1 = i + 1 + j + 1 by omega] at this
      exact this
    refine ⟨e2, s2, ?_, by rw [show i + (x :: xs).length = i + 1 + xs.length by simp; omega]; exact h2⟩
    unfold loopF
    rw [t1]; exact t2
theorem loop_nx {g : TgF} {body : SvS} (Inv : Nat → Env → Sto → Prop) {xs : List D} {env : Env} {st : Sto} (h0 : Inv 0 env st)
    (hs : ∀ j x env st, xs[j]? = some x → Inv j env st → ∃ env' st', bindS (g x env st) env body = .nx env' st' ∧ Inv (j + 1) env' st') :
    ∃ env' st', loopF g body xs env st = .nx env' st' ∧ Inv xs.length env' st' := by
  have := loopF_nx (g := g) (body := body) Inv xs 0 env st h0 fun j x e s hj hI => by
    rw [Nat.zero_add] at hI ⊢
    obtain ⟨e1, s1, t1, h1⟩ := hs j x e s hj hI
    exact ⟨e1, s1, by rw [t1]; rfl, fun k => by rw [t1]; rfl, h1⟩
  simpa using this
theorem range_get {n i : Nat} {lo : Int} {x : D} (h : (rangeD lo n)[i]? = some x) : x = .int (lo + i) ∧ i < n := by
  unfold rangeD at h
  rw [List.getElem?_map] at h
  obtain ⟨k, hk, rfl⟩ := Option.map_eq_some_iff.mp h
  obtain ⟨h1, h2⟩ := List.getElem?_eq_some_iff.mp hk
  simp at h1 h2
  subst h2
  exact ⟨rfl, h1⟩
theorem lc_inv {t : Tg} {tt : EvB} {fe : EvE} {envw : Env} (Inv : Nat → Sto → List D → Prop) : ∀ (xs : List D) (i : Nat) (st : Sto) (acc : List D), Inv i st acc →
    (∀ j x st acc, xs[j]? = some x → Inv (i + j) st acc → ∃ st' acc', (∀ k, turnC t tt fe envw x st acc k = k st' acc') ∧ Inv (i + j + 1) st' acc') →
    ∃ st' acc', lcF t tt fe envw xs st acc = .ok acc' st' ∧ Inv (i + xs.length) st' acc'
  | [], i, st, acc, h0, _ => ⟨st, acc, rfl, h0⟩
  | x :: xs, i, st, acc, h0, hs => by
    obtain ⟨s1, a1, t1, h1⟩ := hs 0 x st acc rfl h0
    obtain ⟨s2, a2, t2, h2⟩ := lc_inv Inv xs (i + 1) s1 a1 h1 fun j y s a hj hI => by
      have := hs (j + 1) y s a (by simpa using hj) (by rw [show i + (j + 1) = i + 1 + j by omega]; exact hI)
      rw [show i + (j + 1) + 1 = i + 1 + j + 1 by omega] at this
      exact this
    refine ⟨s2, a2, ?_, by rw [show i + (x :: xs).length = i + 1 + xs.length by simp; omega]; exact h2⟩
    unfold lcF
    rw [t1]; exact t2
theorem turnC_yes {t : Tg} {fe : EvE} {envw env1 : Env} {x y : D} {st st' : Sto} {acc : List D} {k : Sto → List D → R (List D)} (h1 : t.set x envw = some env1) (h2 : fe env1 st = .ok y st') (h3 : acc.length < 16777216) :
    turnC t yesB fe envw x st acc k = k st' (acc ++ [y]) := by
  unfold turnC yesB noX
  simp [h1, h2, h3, R.bind]
theorem lc_map {t : Tg} {fe : EvE} {envw : Env} {st : Sto} (h : D → D) : ∀ (xs : List D) (acc : List D), (acc.length + xs.length ≤ 16777216) →
    (∀ x ∈ xs, ∃ env1, t.set x envw = some env1 ∧ fe env1 st = .ok (h x) st) → lcF t yesB fe envw xs st acc = .ok (acc ++ xs.map h) st
  | [], acc, _, _ => by simp [lcF]
  | x :: xs, acc, hl, hx => by
    obtain ⟨env1, h1, h2⟩ := hx x List.mem_cons_self
    simp only [List.length_cons] at hl
    unfold lcF
    rw [turnC_yes h1 h2 (by omega), lc_map h xs (acc ++ [h x]) (by simp; omega) fun y hy => hx y (List.mem_cons_of_mem _ hy)]
    simp
@[simp] theorem lcE_eq (it : EvI) (t : Tg) (tt : EvB) (fe : EvE) (vs : List Nat) (env : Env) (st : Sto) : lcE it t tt fe vs env st = ((it env st).bind fun I st1 => match I with
  | .frz xs => lcF t tt fe (wipeE env vs) xs st1 []
  | .gen nxt k => lcG t tt fe (wipeE env vs) nxt k 0 st1 []).bind fun xs st1 => .ok (.lst xs) st1 := rfl
@[simp] theorem wipeE_nil (env : Env) : wipeE env [] = env := rfl
@[simp] theorem wipeE_cons (env : Env) (v : Nat) (vs : List Nat) : wipeE env (v :: vs) = (wipeE env vs).set v none := rfl
@[simp] theorem Tg_nm (i : Nat) (d : D) (env : Env) : Tg.set (.nm i) d env = some (env.set i (some d)) := by simp [Tg.set]
def Pool (n : Nat) (st : Sto) : Prop := ∃ a b c : Int, st[n]? = some (.lst [.int a, .int b, .int c])
def Eff (n : Nat) (st st' : Sto) : Prop := st'.length = st.length ∧ ∀ k, k ≠ n → st'[k]? = st[k]?
theorem Eff.refl {n : Nat} {st : Sto} : Eff n st st := ⟨rfl, fun _ _ => rfl⟩
theorem Eff.trans {n : Nat} {s1 s2 s3 : Sto} (a : Eff n s1 s2) (b : Eff n s2 s3) : Eff n s1 s3 := ⟨b.1.trans a.1, fun k h => (b.2 k h).trans (a.2 k h)⟩
theorem Eff.set {n : Nat} {st : Sto} {mo : MO} : Eff n st (st.set n mo) := ⟨by simp, fun k h => List.getElem?_set_ne (fun e => h e.symm)⟩
theorem setD_mut {n : Nat} {st : Sto} {xs : List D} {k : Int} {d : D} {j : Nat} (h : st[n]? = some (.lst xs)) (hj : L2.ixN xs.length k = some j) : setD (.mut n) (.int k) d st = some (st.set n (.lst (xs.set j d))) := by
  simp [setD, h, hj]
end G
namespace G
open PySem PySem.Spec PyProof.Rows L2
@[simp] theorem subT_eq (fo fi : EvE) (d : D) (env : Env) (st : Sto) : subT fo fi d env st = (fo env st).bind fun o s1 => (fi env s1).bind fun i s2 => match setD o i d s2 with
  | some s3 => .ok env s3
  | none => .fail := rfl
section
variable {st : Sto} {n : Nat}
theorem p_ix0 {x y z : D} (h : st[n]? = some (.lst [x, y, z])) : ixD (.mut n) (.int 0) st = .ok x st := ixD_mut n _ 0 st h rfl
theorem p_ix1 {x y z : D} (h : st[n]? = some (.lst [x, y, z])) : ixD (.mut n) (.int 1) st = .ok y st := ixD_mut n _ 1 st h rfl
theorem p_ix2 {x y z : D} (h : st[n]? = some (.lst [x, y, z])) : ixD (.mut n) (.int 2) st = .ok z st := ixD_mut n _ 2 st h rfl
theorem p_set0 {x y z : D} (h : st[n]? = some (.lst [x, y, z])) (d : D) : setD (.mut n) (.int 0) d st = some (st.set n (.lst [d, y, z])) := setD_mut (j := 0) h rfl
theorem p_set1 {x y z : D} (h : st[n]? = some (.lst [x, y, z])) (d : D) : setD (.mut n) (.int 1) d st = some (st.set n (.lst [x, d, z])) := setD_mut (j := 1) h rfl
theorem p_set2 {x y z : D} (h : st[n]? = some (.lst [x, y, z])) (d : D) : setD (.mut n) (.int 2) d st = some (st.set n (.lst [x, y, d])) := setD_mut (j := 2) h rfl
theorem p_get (h : n < st.length) (mo : MO) : (st.set n mo)[n]? = some mo := by simp [h]
end
end G
namespace G
section
variable (st : Sto)
@[simp] theorem isND_non : isND .non .non st = .ok (.bl true) st := rfl
@[simp] theorem isND_int (i : Int) : isND (.int i) .non st = .ok (.bl false) st := rfl
@[simp] theorem isND_bl (i : Bool) : isND (.bl i) .non st = .ok (.bl false) st := rfl
@[simp] theorem isND_str (i : PySem.Str) : isND (.str i) .non st = .ok (.bl false) st := rfl
@[simp] theorem isND_tup (i : List D) : isND (.tup i) .non st = .ok (.bl false) st := rfl
@[simp] theorem isND_lst (i : List D) : isND (.lst i) .non st = .ok (.bl false) st := rfl
@[simp] theorem isND_tupI (i : List Int) : isND (tupI i) .non st = .ok (.bl false) st := rfl
@[simp] theorem eqD_bl (i j : Bool) : eqD (.bl i) (.bl j) st = .ok (.bl (decide (i = j))) st := rfl
@[simp] theorem neD_bl (i j : Bool) : neD (.bl i) (.bl j) st = .ok (.bl (!decide (i = j))) st := rfl
end
end G
namespace G
open PySem
theorem mulOk_lit {i j : Int} (h : j.natAbs < 2 ^ 64) : mulOk i j := .inr (.inl h)
theorem mulOk_lit' {i j : Int} (h : i.natAbs < 2 ^ 64) : mulOk i j := .inl h
def belowA (c1 c2 c3 c4 c5 c6 c7 c8 : Int) : SvS := seqS (ifS (tstE (binE gtD (binE ixD (varE 0) (cE (.int 0))) (cE (.int 0)))) (seqS (asgS (callE divmodF (consA (binE ixD (varE 0) (cE (.int 0))) (consA (varE 1) (nilA)))) (tupT 2 (consT (subT (varE 0) (cE (.int 0))) (consT (nameT 2) (nilT))))) (retS (varE 2))) (passS)) (seqS (asgS (binE addD (binE ixD (varE 0) (cE (.int 2))) (cE (.int 1))) (subT (varE 0) (cE (.int 2)))) (seqS (asgS (binE modD (callE intF (consA (binE addD (binE addD (binE mulD (binE ixD (varE 0) (cE (.int 1))) (cE (.int c1))) (binE mulD (cE (.int c2)) (binE ixD (varE 0) (cE (.int 2))))) (cE (.int c3))) (nilA))) (cE (.int c4))) (nameT 3)) (seqS (asgS (binE modD (callE intF (consA (binE addD (binE mulD (varE 3) (binE addD (binE modD (callE intF (consA (varE 3) (nilA))) (cE (.int c5))) (cE (.int c6)))) (binE ixD (varE 0) (cE (.int 2)))) (nilA))) (cE (.int c7))) (subT (varE 0) (cE (.int 1)))) (retS (binE modD (callE intF (consA (binE fdivD (binE ixD (varE 0) (cE (.int 1))) (cE (.int c8))) (nilA))) (varE 1))))))
def Below (F : FA) : Prop := ∀ {st : Sto} {n : Nat} {m : Int}, Pool n st → 0 < m → m < 1073741824 → ∃ v st', F [.mut n, .int m] st = .ok (.int v) st' ∧ 0 ≤ v ∧ v < m ∧ Pool n st' ∧ Eff n st st'
theorem belowA_ok {c1 c2 c3 c4 c5 c6 c7 c8 : Int} (h : c1.natAbs < 2 ^ 64 ∧ c2.natAbs < 2 ^ 64 ∧ 0 < c4 ∧ c4 < 2 ^ 63 ∧ 0 < c5 ∧ 0 < c7 ∧ 0 < c8 ∧ c8.natAbs < 10 ^ 9) : Below (runF 2 4 (belowA c1 c2 c3 c4 c5 c6 c7 c8)) := by
  obtain ⟨k1, k2, k4, k4', k5, k7, k8, k8'⟩ := h
  intro st n m hp h1 h2
  obtain ⟨a, b, c, hp⟩ := hp
  have hn : n < st.length := (List.getElem?_eq_some_iff.mp hp).1
  by_cases ha : 0 < a
  · refine ⟨a % m, st.set n (.lst [.int (a / m), .int b, .int c]), ?_, Int.emod_nonneg _ (by omega), Int.emod_lt_of_pos _ h1, ⟨_, _, _, p_get hn _⟩, .set⟩
    simp [runF, belowA, p_ix0 hp, ha, h1, h2, p_set0 hp]
  · have g := fun x y z => p_get (n := n) hn (MO.lst [x, y, z])
    have s1 : mulOk b c1 := mulOk_lit k1
    have s2 : mulOk c2 (c + 1) := mulOk_lit' k2
    have s3 : c8.natAbs < big := Nat.lt_of_lt_of_le k8' (by unfold big; exact Nat.le_trans (by decide : 10 ^ 9 ≤ 2 ^ 30) (Nat.pow_le_pow_right (by decide) (by decide)))
    generalize hu : (b * c1 + c2 * (c + 1) + c3) % c4 = u
    have u1 : 0 ≤ u := by rw [← hu]; exact Int.emod_nonneg _ (by omega)
    have u2 : u < c4 := by rw [← hu]; exact Int.emod_lt_of_pos _ k4
    have s4 : ∀ j, mulOk u j := fun j => mulOk_lit' (by omega)
    refine ⟨(u * (u % c5 + c6) + (c + 1)) % c7 / c8 % m, st.set n (.lst [.int a, .int ((u * (u % c5 + c6) + (c + 1)) % c7), .int (c + 1)]), ?_, Int.emod_nonneg _ (by omega), Int.emod_lt_of_pos _ h1, ⟨_, _, _, p_get hn _⟩, .set⟩
    simp [runF, belowA, p_ix0 hp, ha, p_ix1 hp, p_ix2 hp, p_set2 hp, p_ix1 (g _ _ _), p_ix2 (g _ _ _), p_set1 (g _ _ _), h1, s1, s2, k4, k5, k7, k8, s3, hu, s4]
end G
namespace G
open PySem
theorem Eff.pool {n m : Nat} {st st' : Sto} (e : Eff n st st') (h : m ≠ n) (p : Pool m st) : Pool m st' := by
  obtain ⟨a, b, c, p⟩ := p
  exact ⟨a, b, c, (e.2 m h).trans p⟩
def greatA (FB : FA) (c1 c2 : Int) : SvS := seqS (asgS (cE (.int 0)) (nameT 2)) (seqS (forS (callI range1F (consA (cE (.int 6)) (nilA))) (tgT (.nm 3)) (asgS (binE addD (binE mulD (varE 2) (cE (.int c1))) (callE FB (consA (varE 0) (consA (cE (.int c2)) (nilA))))) (nameT 2))) (retS (binE modD (callE intF (consA (varE 2) (nilA))) (binE addD (varE 1) (cE (.int 1))))))
def Great (F : FA) : Prop := ∀ {st : Sto} {n : Nat} {w : Int}, Pool n st → 0 ≤ w → ∃ v st', F [.mut n, .int w] st = .ok (.int v) st' ∧ 0 ≤ v ∧ v ≤ w ∧ Pool n st' ∧ Eff n st st'
theorem greatA_ok {FB : FA} (hB : Below FB) {c1 c2 : Int} (h : c1.natAbs < 2 ^ 64 ∧ 0 < c2 ∧ c2 < 1073741824) : Great (runF 2 4 (greatA FB c1 c2)) := by
  obtain ⟨k1, k2, k3⟩ := h
  intro st n w hp hw
  have key := loop_nx (g := tgT (.nm 3)) (body := asgS (binE addD (binE mulD (varE 2) (cE (.int c1))) (callE FB (consA (varE 0) (consA (cE (.int c2)) (nilA))))) (nameT 2))
    (fun _ env s => ∃ (f : Int) (o : Option D), env = [some (.mut n), some (.int w), some (.int f), o] ∧ Pool n s ∧ Eff n st s) (xs := rangeD 0 6) (env := [some (.mut n), some (.int w), some (.int 0), none]) (st := st) ⟨0, none, rfl, hp, .refl⟩
    (by
      rintro j x env s hx ⟨f, o, rfl, hp', he⟩
      obtain ⟨v, s', e1, _, _, hp2, he2⟩ := hB hp' k2 k3
      have m1 : mulOk f c1 := mulOk_lit k1
      exact ⟨[some (.mut n), some (.int w), some (.int (f * c1 + v)), some x], s', by simp [m1, e1], _, _, rfl, hp2, he.trans he2⟩)
  obtain ⟨env', s', e, f, o, rfl, hp', he⟩ := key
  refine ⟨f % (w + 1), s', ?_, Int.emod_nonneg _ (by omega), by have := Int.emod_lt_of_pos f (show 0 < w + 1 by omega); omega, hp', he⟩
  have hw1 : 0 < w + 1 := by omega
  simp [runF, greatA, e, hw1]
def trackA (FB FG : FA) (c1 : Int) : SvS := retS (callE tupleF (consA (lcE (callI range1F (consA (binE addD (cE (.int 1)) (callE FB (consA (varE 0) (consA (cE (.int c1)) (nilA))))) (nilA))) (.nm 2) (yesB) (binE addD (cE (.int 1)) (callE FG (consA (varE 0) (consA (binE subD (varE 1) (cE (.int 1))) (nilA))))) [2]) (nilA)))
def Track (F : FA) (most : Int) : Prop := ∀ {st : Sto} {n : Nat} {w : Int}, Pool n st → 1 ≤ w → ∃ ts st', F [.mut n, .int w] st = .ok (tupI ts) st' ∧ 1 ≤ ts.length ∧ (ts.length : Int) ≤ most ∧ (∀ x ∈ ts, 1 ≤ x ∧ x ≤ w) ∧ Pool n st' ∧ Eff n st st'
theorem trackA_ok {FB FG : FA} (hB : Below FB) (hG : Great FG) {c1 : Int} (h : 0 < c1 ∧ c1 < 1000) : Track (runF 2 3 (trackA FB FG c1)) c1 := by
  intro st n w hp hw
  obtain ⟨v, s1, e1, v0, v1, hp1, he1⟩ := hB (m := c1) hp h.1 (by omega)
  have key := lc_inv (t := .nm 2) (tt := yesB) (fe := binE addD (cE (.int 1)) (callE FG (consA (varE 0) (consA (binE subD (varE 1) (cE (.int 1))) (nilA))))) (envw := [some (.mut n), some (.int w), none])
    (fun i s acc => i ≤ 1000 ∧ ∃ ts : List Int, acc = ts.map D.int ∧ ts.length = i ∧ (∀ x ∈ ts, 1 ≤ x ∧ x ≤ w) ∧ Pool n s ∧ Eff n st s) (rangeD 0 (1 + v).toNat) 0 s1 [] ⟨by omega, [], rfl, rfl, by simp, hp1, he1⟩
    (by
      rintro j x s acc hx ⟨hi, ts, rfl, hl, hts, hp', he⟩
      obtain ⟨_, hj⟩ := range_get hx
      obtain ⟨g, s', e2, g0, g1, hp2, he2⟩ := hG (w := w - 1) hp' (by omega)
      refine ⟨s', ts.map D.int ++ [.int (1 + g)], fun k => turnC_yes (env1 := [some (.mut n), some (.int w), some x]) (by simp) (by simp [e2]) (by simp; omega), by omega, ts ++ [1 + g], by simp, by simp [hl], ?_, hp2, he.trans he2⟩
      intro y hy
      rcases List.mem_append.mp hy with hy | hy
      · exact hts y hy
      · simp at hy; omega)
  obtain ⟨s2, acc, e2, _, ts, rfl, hl, hts, hp2, he2⟩ := key
  have hlen : ts.length = (1 + v).toNat := by simpa using hl
  refine ⟨ts, s2, ?_, by omega, by omega, hts, hp2, he2⟩
  have hv : (1 + v).natAbs < 4611686018427387904 := by omega
  simp [runF, trackA, e1, hv, e2, tupI]
def oneA (FB : FA) : SvS := retS (binE ixD (varE 1) (callE FB (consA (varE 0) (consA (callE lenF (consA (varE 1) (nilA))) (nilA)))))
def One (F : FA) : Prop := ∀ {st : Sto} {n : Nat} {xs : List D}, Pool n st → xs ≠ [] → xs.length < 1000000 → ∃ d st', F [.mut n, .tup xs] st = .ok d st' ∧ d ∈ xs ∧ Pool n st' ∧ Eff n st st'
theorem oneA_ok {FB : FA} (hB : Below FB) : One (runF 2 2 (oneA FB)) := by
  intro st n xs hp h1 h2
  have hl : 0 < xs.length := List.length_pos_iff.mpr h1
  obtain ⟨v, s1, e1, v0, v1, hp1, he1⟩ := hB (m := xs.length) hp (by omega) (by omega)
  obtain ⟨k, rfl⟩ := Int.eq_ofNat_of_zero_le v0
  have hk : k < xs.length := by omega
  refine ⟨xs[k], s1, ?_, List.getElem_mem hk, hp1, he1⟩
  simp [runF, oneA, e1, ixD_tup _ _ s1 (atI_nat' xs k hk)]
def poolA (c1 c2 c3 c4 c5 c6 c7 c8 c9 c10 c11 c12 c13 c14 c15 : Int) : SvS := seqS (asgS (ifE (tstE (binE ltD (varE 1) (callE lenF (consA (varE 0) (nilA))))) (callE intF (consA (binE ixD (varE 0) (varE 1)) (nilA))) (binE addD (binE mulD (cE (.int c1)) (varE 1)) (cE (.int c2)))) (nameT 2)) (seqS (asgS (binE addD (cE (.int c3)) (binE mulD (cE (.int c4)) (varE 1))) (nameT 3)) (seqS (forS (iterE (sliceE (varE 0) (noO) (someO (cE (.int 12))))) (tgT (.nm 4)) (asgS (binE modD (callE intF (consA (binE addD (binE addD (binE mulD (varE 3) (cE (.int c5))) (binE modD (callE intF (consA (varE 4) (nilA))) (cE (.int c6)))) (cE (.int c7))) (nilA))) (cE (.int c8))) (nameT 3))) (seqS (asgS (binE modD (callE intF (consA (binE addD (binE addD (binE mulD (varE 3) (cE (.int c9))) (binE mulD (binE modD (callE intF (consA (varE 2) (nilA))) (cE (.int c10))) (cE (.int c11)))) (cE (.int c12))) (nilA))) (cE (.int c13))) (nameT 3)) (retS (mutE (consA (ifE (orB (tstE (binE ltD (varE 2) (cE (.int 0)))) (tstE (binE geD (varE 2) (binE powD (cE (.int 10)) (cE (.int c14)))))) (binE modD (callE intF (consA (callE absF (consA (varE 2) (nilA))) (nilA))) (binE powD (cE (.int 10)) (cE (.int c15)))) (cE (.int 0))) (consA (varE 3) (consA (cE (.int 0)) (nilA)))))))))
def MkPool (F : FA) : Prop := ∀ {st : Sto} {ns : List Int} {k : Nat}, ∃ a b c : Int, F [.slo (ns.map D.int), .int k] st = .ok (.mut st.length) (st ++ [.lst [.int a, .int b, .int c]])
theorem poolA_ok {c1 c2 c3 c4 c5 c6 c7 c8 c9 c10 c11 c12 c13 c14 c15 : Int} (h : c1.natAbs < 2 ^ 64 ∧ c4.natAbs < 2 ^ 64 ∧ c5.natAbs < 2 ^ 64 ∧ 0 < c6 ∧ 0 < c8 ∧ c9.natAbs < 2 ^ 64 ∧ 0 < c10 ∧ c11.natAbs < 2 ^ 64 ∧ 0 < c13 ∧ 0 ≤ c14 ∧ c14 ≤ 1000000 ∧ 0 ≤ c15 ∧ c15 ≤ 1000000) :
    MkPool (runF 2 5 (poolA c1 c2 c3 c4 c5 c6 c7 c8 c9 c10 c11 c12 c13 c14 c15)) := by
  obtain ⟨k1, k4, k5, k6, k8, k9, k10, k11, k13, k14, k14', k15, k15'⟩ := h
  intro st ns k
  have cell : ∃ z : Int, ∀ env : Env, (ifE (tstE (binE ltD (varE 1) (callE lenF (consA (varE 0) (nilA))))) (callE intF (consA (binE ixD (varE 0) (varE 1)) (nilA))) (binE addD (binE mulD (cE (.int c1)) (varE 1)) (cE (.int c2)))) (some (.slo (ns.map D.int)) :: some (.int k) :: env) st = .ok (.int z) st := by
    by_cases hk : k < ns.length
    · have hk' : (k : Int) < ns.length := by omega
      refine ⟨ns[k], fun env => ?_⟩
      simp [hk, ixD_slo _ _ st (atI_nat' (ns.map D.int) k (by simpa using hk))]
    · have m1 : mulOk c1 (k : Int) := mulOk_lit' k1
      exact ⟨c1 * k + c2, fun env => by simp [hk, m1]⟩
  obtain ⟨z, cell⟩ := cell
  have m2 : mulOk c4 (k : Int) := mulOk_lit' k4
  have key := loop_nx (g := tgT (.nm 4)) (body := asgS (binE modD (callE intF (consA (binE addD (binE addD (binE mulD (varE 3) (cE (.int c5))) (binE modD (callE intF (consA (varE 4) (nilA))) (cE (.int c6)))) (cE (.int c7))) (nilA))) (cE (.int c8))) (nameT 3))
    (fun _ env s => ∃ (f : Int) (o : Option D), env = [some (.slo (ns.map D.int)), some (.int k), some (.int z), some (.int f), o] ∧ s = st) (xs := (ns.take 12).map D.int) (env := [some (.slo (ns.map D.int)), some (.int k), some (.int z), some (.int (c3 + c4 * k)), none]) (st := st) ⟨_, none, rfl, rfl⟩
    (by
      rintro j x env s hx ⟨f, o, rfl, rfl⟩
      rw [List.getElem?_map] at hx
      obtain ⟨y, _, rfl⟩ := Option.map_eq_some_iff.mp hx
      have m3 : mulOk f c5 := mulOk_lit k5
      exact ⟨[some (.slo (ns.map D.int)), some (.int k), some (.int z), some (.int ((f * c5 + y % c6 + c7) % c8)), some (.int y)], s, by simp [m3, k6, k8], _, _, rfl, rfl⟩)
  obtain ⟨env', s', e, f, o, rfl, rfl⟩ := key
  have m4 : mulOk f c9 := mulOk_lit k9
  have m5 : mulOk (z % c10) c11 := mulOk_lit k11
  have p10 : ∀ j : Nat, (0 : Int) < 10 ^ j := fun j => Int.pow_pos (by decide)
  have h12 : cutL ns none (some 12) = ns.take 12 := cutL_to ns 12
  have e' : loopF (tgT (.nm 4)) (asgS (binE modD (callE intF (consA (binE addD (binE addD (binE mulD (varE 3) (cE (.int c5))) (binE modD (callE intF (consA (varE 4) (nilA))) (cE (.int c6)))) (cE (.int c7))) (nilA))) (cE (.int c8))) (nameT 3)) (cutD (ns.map D.int) none (some 12)) [some (.slo (ns.map D.int)), some (.int k), some (.int z), some (.int (c3 + c4 * k)), none] s' = .nx [some (.slo (ns.map D.int)), some (.int k), some (.int z), some (.int f), o] s' := by
    rw [cutD_map, h12]; exact e
  refine ⟨if z < 0 ∨ 10 ^ c14.toNat ≤ z then (if z < 0 then -z else z) % 10 ^ c15.toNat else 0, (f * c9 + z % c10 * c11 + c12) % c13, 0, ?_⟩
  unfold runF poolA
  simp only [List.length_cons, List.length_nil, if_true, seqS_eq, asgS_eq, List.map_cons, List.map_nil, List.cons_append, List.nil_append]
  rw [show (5 - 2 : Nat) = 3 from rfl]
  simp only [List.replicate]
  rw [cell]
  by_cases z1 : z < 0
  · simp [m2, e', m4, m5, k10, k13, z1, p10, k14, k14', k15, k15']
  · by_cases z2 : 10 ^ c14.toNat ≤ z
    · simp [m2, e', m4, m5, k10, k13, z1, z2, p10, k14, k14', k15, k15']
    · simp [m2, e', m4, m5, k10, k13, z1, z2, p10, k14, k14', k15, k15']
end G
namespace G
open PySem
theorem pool_new {st : Sto} {a b c : Int} : Pool st.length (st ++ [.lst [.int a, .int b, .int c]]) := ⟨a, b, c, by simp⟩
def Right (F : FA) : Prop := ∀ {st : Sto} {n : Nat}, Pool n st → ∃ st', F [.mut n] st = .ok (.bl true) st'
def lawA (FP FR : FA) (c : Int) : SvS := retS (callE allF (consA (lcE (callI range1F (consA (callE maxF (consA (cE (.int 1)) (consA (callE minF (consA (callE lenF (consA (varE 0) (nilA))) (consA (cE (.int c)) (nilA)))) (nilA)))) (nilA))) (.nm 1) (yesB) (callE FR (consA (callE FP (consA (varE 0) (consA (varE 1) (nilA)))) (nilA))) [1]) (nilA)))
theorem lawA_ok {FP FR : FA} {c : Int} (hP : MkPool FP) (hR : Right FR) (hc : c ≤ 1000) (ns : List Int) : ∃ st, runF 1 2 (lawA FP FR c) [.slo (ns.map D.int)] [] = .ok (.bl true) st := by
  have h0 : ∀ q : Int, 0 ≤ q → ∃ k : Nat, q = k := fun q h => ⟨q.toNat, by omega⟩
  generalize hq : (max 1 (if c < (ns.length : Int) then c else ns.length) : Int) = q
  have hq1 : 0 ≤ q ∧ q ≤ 1000 ∨ 1000 < ns.length := by split at hq <;> omega
  have hq0 : 1 ≤ q := by omega
  have hqn : q ≤ 1000 := by split at hq <;> omega
  have key := lc_inv (t := .nm 1) (tt := yesB) (fe := callE FR (consA (callE FP (consA (varE 0) (consA (varE 1) (nilA)))) (nilA))) (envw := [some (.slo (ns.map D.int)), none])
    (fun i s acc => acc = (List.replicate i true).map D.bl) (rangeD 0 q.toNat) 0 [] [] rfl
    (by
      rintro j x s acc hx rfl
      obtain ⟨rfl, hj⟩ := range_get hx
      obtain ⟨a, b, c, e1⟩ := hP (st := s) (ns := ns) (k := j)
      obtain ⟨s', e2⟩ := hR (st := s ++ [.lst [.int a, .int b, .int c]]) (n := s.length) pool_new
      refine ⟨s', (List.replicate (0 + j + 1) true).map D.bl, fun k => ?_, rfl⟩
      rw [turnC_yes (y := .bl true) (st' := s') (env1 := [some (.slo (ns.map D.int)), some (.int (0 + j))]) (by simp) (by simp [e1, e2]) (by simp; omega)]
      rw [List.replicate_succ', List.map_append]; rfl)
  obtain ⟨s2, acc, e2, rfl⟩ := key
  refine ⟨s2, ?_⟩
  have hb : q.natAbs < 4611686018427387904 := by omega
  have e : (if (if c < (ns.length : Int) then c else (ns.length : Int)) > 1 then (if c < (ns.length : Int) then c else (ns.length : Int)) else 1) = q := by
    rw [← hq]; split <;> split <;> omega
  simp only [runF, lawA, List.length_cons, List.length_nil]
  simp [e, hb, e2]
  have ea := allF_bools s2 (List.replicate q.toNat true)
  rw [List.map_replicate] at ea
  rw [ea]
  simp
end G
namespace G
open PySem PySem.Spec PyProof.Rows L2
section
variable (k : Env → Sto → S)
@[simp] theorem turnS_nx (env : Env) (st : Sto) : turnS (.nx env st) k = k env st := rfl
@[simp] theorem turnS_ret (d : D) (st : Sto) : turnS (.ret d st) k = .ret d st := rfl
end
@[simp] theorem loopF_nil (g : TgF) (body : SvS) (env : Env) (st : Sto) : loopF g body [] env st = .nx env st := rfl
@[simp] theorem loopF_cons (g : TgF) (body : SvS) (x : D) (xs : List D) (env : Env) (st : Sto) : loopF g body (x :: xs) env st = turnS (bindS (g x env st) env body) (loopF g body xs) := rfl
def notBD : F2 := fun a b st => match a, b with
  | .bl x, .bl y => .ok (.bl (!decide (x = y))) st
  | _, _ => .fail
def inO (a b : D) (st : Sto) : Option Bool := match toPD a, (seqOf b st).bind toPDs with
  | some d, some ds => if SeqAt.shaped d = true ∧ SeqAt.shaped (.list ds) = true then some (ds.any fun z => PyData.eqv z d) else none
  | _, _ => none
def inD : F2 := fun a b st => match inO a b st with
  | some k => .ok (.bl k) st
  | none => .fail
def notInD : F2 := fun a b st => match inO a b st with
  | some k => .ok (.bl (!k)) st
  | none => .fail
section
variable {K : PySem.W.Frag} {M : Mem} {H : Hp}
theorem v_notB : OpV K rNotB notBD := by
  intro a b x y M H st Q E ra rb so p
  unfold notBD at p
  split at p
  · unfold Rep at ra rb; subst ra rb
    exact ⟨_, _, rfl, rfl, p M H _ .refl so (rep_bl _ _ _)⟩
  · exact p.elim
end
section
variable (st : Sto)
@[simp] theorem intF_bl (b : Bool) : intF [.bl b] st = .ok (.int (if b = true then 1 else 0)) st := rfl
@[simp] theorem notBD_bl (x y : Bool) : notBD (.bl x) (.bl y) st = .ok (.bl (!decide (x = y))) st := rfl
@[simp] theorem toPDs_ints : ∀ ns : List Int, toPDs (ns.map D.int) = some (ns.map PyData.int)
  | [] => by simp [toPDs]
  | n :: ns => by simp [toPDs, toPD, toPDs_ints ns]
theorem canLayAll_ints : ∀ ns : List Int, PyData.canLayAll0 (ns.map PyData.int) = true
  | [] => by simp [PyData.canLayAll0]
  | n :: ns => by simp [PyData.canLayAll0, PyData.canLay0, canLayAll_ints ns]
theorem depthAll_ints : ∀ ns : List Int, PyData.depthAll (ns.map PyData.int) = 0
  | [] => by simp [PyData.depthAll]
  | n :: ns => by simp [PyData.depthAll, PyData.depth, depthAll_ints ns]
theorem shaped_ints (ns : List Int) : SeqAt.shaped (.list (ns.map PyData.int)) = true := by
  simp [SeqAt.shaped, PyData.canLay0, canLayAll_ints, PyData.depth, depthAll_ints]
theorem inO_ints (i : Int) (b : D) (ns : List Int) (h : seqOf b st = some (ns.map D.int)) : inO (.int i) b st = some (decide (i ∈ ns)) := by
  unfold inO
  rw [h, Option.bind_some, toPDs_ints]
  show (if SeqAt.shaped (.int i) = true ∧ SeqAt.shaped (.list (ns.map PyData.int)) = true then _ else _) = _
  rw [if_pos ⟨by simp [SeqAt.shaped, PyData.canLay0, PyData.depth], shaped_ints ns⟩, List.any_map]
  congr 1
  rw [Bool.eq_iff_iff]
  simp only [List.any_eq_true, Function.comp, decide_eq_true_iff]
  constructor
  · rintro ⟨x, hx, e⟩
    have : x = i := by simpa [PyData.eqv] using e
    exact this ▸ hx
  · exact fun h => ⟨i, h, by simp [PyData.eqv]⟩
theorem inD_ints (i : Int) (b : D) (ns : List Int) (h : seqOf b st = some (ns.map D.int)) : inD (.int i) b st = .ok (.bl (decide (i ∈ ns))) st := by
  unfold inD; rw [inO_ints st i b ns h]
theorem notInD_ints (i : Int) (b : D) (ns : List Int) (h : seqOf b st = some (ns.map D.int)) : notInD (.int i) b st = .ok (.bl (!decide (i ∈ ns))) st := by
  unfold notInD; rw [inO_ints st i b ns h]
@[simp] theorem inD_tupI (i : Int) (ns : List Int) : inD (.int i) (tupI ns) st = .ok (.bl (decide (i ∈ ns))) st := inD_ints st i _ ns rfl
@[simp] theorem inD_lstI (i : Int) (ns : List Int) : inD (.int i) (lstI ns) st = .ok (.bl (decide (i ∈ ns))) st := inD_ints st i _ ns rfl
@[simp] theorem notInD_tupI (i : Int) (ns : List Int) : notInD (.int i) (tupI ns) st = .ok (.bl (!decide (i ∈ ns))) st := notInD_ints st i _ ns rfl
@[simp] theorem notInD_lstI (i : Int) (ns : List Int) : notInD (.int i) (lstI ns) st = .ok (.bl (!decide (i ∈ ns))) st := notInD_ints st i _ ns rfl
@[simp] theorem notInD_tup2 (i a b : Int) : notInD (.int i) (.tup [.int a, .int b]) st = .ok (.bl (!decide (i = a ∨ i = b))) st := by
  rw [notInD_ints st i _ [a, b] rfl]; simp
@[simp] theorem inD_tup2 (i a b : Int) : inD (.int i) (.tup [.int a, .int b]) st = .ok (.bl (decide (i = a ∨ i = b))) st := by
  rw [inD_ints st i _ [a, b] rfl]; simp
end
end G
namespace G
open PySem PySem.Spec PyProof.Rows L2 HT
def revE (fa : EvE) : EvE := fun env st => (fa env st).bind fun a st1 => match a with
  | .tup xs => .ok (.tup xs.reverse) st1
  | a => match seqOf a st1 with
    | some xs => .ok (.lst xs.reverse) st1
    | none => .fail
@[simp] theorem revE_eq (fa : EvE) (env : Env) (st : Sto) : revE fa env st = (fa env st).bind fun a st1 => match a with
  | .tup xs => .ok (.tup xs.reverse) st1
  | a => match seqOf a st1 with
    | some xs => .ok (.lst xs.reverse) st1
    | none => .fail := rfl
end G
namespace G
open PySem PySem.Spec PyProof.Rows L2
section
variable {X : Cx} {W : WX} {s : Expr}
@[simp] theorem enumF_tup (xs : List D) (st : Sto) : enumF [.tup xs] st = .ok (.frz (enumL xs)) st := rfl
@[simp] theorem enumF_lst (xs : List D) (st : Sto) : enumF [.lst xs] st = .ok (.frz (enumL xs)) st := rfl
end
end G
namespace G
open PySem PySem.Spec PyProof.Rows L2
abbrev P2 := Int × Int
def ltP2 (a b : P2) : Prop := a.1 < b.1 ∨ (a.1 = b.1 ∧ a.2 < b.2)
instance (a b : P2) : Decidable (ltP2 a b) := by unfold ltP2; infer_instance
def pairD (p : P2) : D := .tup [.int p.1, .int p.2]
def pairsOf : List D → Option (List P2)
  | [] => some []
  | .tup [.int a, .int b] :: r => (pairsOf r).map ((a, b) :: ·)
  | _ => none
@[simp] theorem pairsOf_map : ∀ ps : List P2, pairsOf (ps.map pairD) = some ps
  | [] => rfl
  | p :: ps => by
    show (pairsOf (ps.map pairD)).map ((p.1, p.2) :: ·) = _
    rw [pairsOf_map ps]; rfl
@[simp] theorem tgT_tp2 (i j : Nat) (a b : D) (env : Env) (st : Sto) : tgT (.tp [.nm i, .nm j]) (.tup [a, b]) env st = .ok ((env.set i (some a)).set j (some b)) st := by simp [tgT, Tg.set, Tg.sets]
@[simp] theorem tgT_tp3 (i j k : Nat) (a b c : D) (env : Env) (st : Sto) : tgT (.tp [.nm i, .nm j, .nm k]) (.tup [a, b, c]) env st = .ok (((env.set i (some a)).set j (some b)).set k (some c)) st := by simp [tgT, Tg.set, Tg.sets]
@[simp] theorem turnS_cont (k : Env → Sto → S) (env : Env) (st : Sto) : turnS (.cont env st) k = k env st := rfl
@[simp] theorem turnS_brk (k : Env → Sto → S) (env : Env) (st : Sto) : turnS (.brk env st) k = .nx env st := rfl
end G
namespace G
open PySem PySem.Spec PyProof.Rows L2
@[simp] theorem isiD_emp (c : Tag) (st : Sto) : isiD c .emp st = .ok (.bl (isiB .dic c)) st := rfl
@[simp] theorem isND_emp (st : Sto) : isND .emp .non st = .ok (.bl false) st := rfl
@[simp] theorem isiD_dic (c : Tag) (st : Sto) : isiD c .dic st = .ok (.bl (isiB .dic c)) st := rfl
@[simp] theorem isND_dic (st : Sto) : isND .dic .non st = .ok (.bl false) st := rfl
end G
namespace G
open PySem PySem.Spec PyProof.Rows L2 HT
section
variable {K : PySem.W.Frag} {M : Mem} {H : Hp}
theorem RepL.three {a b c : D} {xs : List V} (h : RepL K M H [a, b, c] xs) : ∃ x y z, xs = [x, y, z] ∧ Rep K M H a x ∧ Rep K M H b y ∧ Rep K M H c z := by
  unfold RepL at h
  obtain ⟨v, r, rfl, h1, h2⟩ := h
  obtain ⟨y, z, rfl, h3, h4⟩ := h2.two
  exact ⟨v, y, z, rfl, h1, h3, h4⟩
variable {X : Cx} {W : WX} {fs : EvA} {tg it : Expr}
end
end G
namespace G
open PySem PySem.Spec PyProof.Rows L2
def repMD : F2 := fun a b st => match a, b with
  | .lst xs, .int k => if k.natAbs < 2 ^ 62 ∧ xs.length * k.toNat ≤ 16777216 then .ok (.mut st.length) (st ++ [.lst (List.replicate k.toNat xs).flatten]) else .fail
  | _, _ => .fail
@[simp] theorem repMD_int (x : D) (k : Int) (st : Sto) : repMD (.lst [x]) (.int k) st = if k.natAbs < 2 ^ 62 ∧ k.toNat ≤ 16777216 then .ok (.mut st.length) (st ++ [.lst (List.replicate k.toNat x)]) else .fail := by
  have e : (List.replicate k.toNat [x]).flatten = List.replicate k.toNat x := by
    induction k.toNat with
    | zero => rfl
    | succ n ih => rw [List.replicate_succ, List.replicate_succ, List.flatten_cons, ih]; rfl
  unfold repMD
  simp [e]
end G
namespace G
open PySem PySem.Spec PyProof.Rows L2
section
variable {K : PySem.W.Frag} {M M' : Mem} {H H' : Hp} {st : Sto}
mutual
theorem Rep.ff {f : Addr → Option (Obj × HO)} : ∀ {d : D} {v : V}, Rep K M H d v → Rep K ⟨M.m, M.p, f⟩ H d v
  | .non, _, h => by unfold Rep at h ⊢; exact h
  | .bl _, _, h => by unfold Rep at h ⊢; exact h
  | .int _, _, h => by unfold Rep at h ⊢; exact h
  | .str _, _, h => by unfold Rep at h ⊢; exact h
  | .raw _, _, h => by unfold Rep at h ⊢; exact h
  | .dic, _, h => by unfold Rep at h ⊢; exact h
  | .fn _, _, h => by unfold Rep at h ⊢; exact h
  | .emp, _, h => by unfold Rep at h ⊢; exact h
  | .rg .., _, h => by unfold Rep at h ⊢; exact h
  | .exv .., _, h => by
    unfold Rep at h ⊢
    obtain ⟨h1, h2, h3⟩ := h
    refine ⟨h1, h2, h3.imp id ?_⟩
    rintro ⟨h4, dd, w, h5, h6, h7, h8⟩
    exact ⟨h4, dd, w, h5, h6, h7, Rep.ff h8⟩
  | .tup xs, _, h => by
    unfold Rep at h ⊢
    obtain ⟨a, vs, e, f, r⟩ := h
    exact ⟨a, vs, e, f, RepL.ff r⟩
  | .lst xs, _, h => by
    unfold Rep at h ⊢
    obtain ⟨a, vs, e, f, r⟩ := h
    exact ⟨a, vs, e, f, RepL.ff r⟩
  | .slo xs, _, h => by
    unfold Rep at h ⊢
    obtain ⟨a, vs, e, f, r⟩ := h
    exact ⟨a, vs, e, f, RepL.ff r⟩
  | .mut n, _, h => by unfold Rep at h ⊢; exact h
theorem RepL.ff {f : Addr → Option (Obj × HO)} : ∀ {ds : List D} {vs : List V}, RepL K M H ds vs → RepL K ⟨M.m, M.p, f⟩ H ds vs
  | [], _, h => by unfold RepL at h ⊢; exact h
  | d :: ds, _, h => by
    unfold RepL at h ⊢
    obtain ⟨v, r, e, h1, h2⟩ := h
    exact ⟨v, r, e, Rep.ff h1, RepL.ff h2⟩
end
theorem EnvOk.ff {f : Addr → Option (Obj × HO)} {env : Env} {σ : L2.St} (e : EnvOk K M H env σ) : EnvOk K ⟨M.m, M.p, f⟩ H env σ :=
  ⟨e.len, fun i d h => let ⟨v, h1, h2⟩ := e.at_ i d h; ⟨v, h1, h2.ff⟩⟩
def MO.walked : MO → Bool
  | .fk _ => true
  | .fd _ => true
  | .fe _ => true
  | .gn _ => true
  | _ => false
theorem StOk.ff {f : Addr → Option (Obj × HO)} (s : StOk K M H st) (h : ∀ (n : Nat) (a : Addr) (mo : MO), M.m[n]? = some a → st[n]? = some mo → mo.walked = true → f a = M.f a) : StOk K ⟨M.m, M.p, f⟩ H st := by
  refine ⟨s.len, s.nd, s.pd, fun n a mo e1 e2 => ?_⟩
  have q := s.at_ n a mo e1 e2
  cases mo with
  | lst xs => obtain ⟨vs, h1, r⟩ := q; exact ⟨vs, h1, r.ff⟩
  | dk kvs => exact q
  | dt kvs => exact q
  | fk kvs =>
    obtain ⟨o, h1, h2⟩ := q
    exact ⟨o, by rw [← h1]; exact h n a _ e1 e2 rfl, h2⟩
  | dd kvs => obtain ⟨ws, h1, r⟩ := q; exact ⟨ws, h1, r.1, r.2.ff⟩
  | de kvs => obtain ⟨ws, h1, r⟩ := q; exact ⟨ws, h1, r.1, r.2.ff⟩
  | fd kvs =>
    obtain ⟨o, ws, h1, h2, r⟩ := q
    exact ⟨o, ws, by rw [← h1]; exact h n a _ e1 e2 rfl, h2, r.1, r.2.ff⟩
  | fe kvs =>
    obtain ⟨o, ws, h1, h2, r⟩ := q
    exact ⟨o, ws, by rw [← h1]; exact h n a _ e1 e2 rfl, h2, r.1, r.2.ff⟩
  | dn kvs => obtain ⟨ws, h1, r⟩ := q; exact ⟨ws, h1, r.1, r.2.1.ff, r.2.2.ff⟩
  | gn kvs =>
    obtain ⟨o, ws, h1, h2, h3, r⟩ := q
    exact ⟨o, ws, by rw [← h1]; exact h n a _ e1 e2 rfl, h2, h3, r.1, r.2.1.ff, r.2.2.ff⟩
theorem StOk.uniq (s : StOk K M H st) {n k : Nat} {a : Addr} (h : M.m[n]? = some a) (h' : M.m[k]? = some a) : n = k := by
  obtain ⟨h1, e1⟩ := List.getElem?_eq_some_iff.mp h
  obtain ⟨h2, e2⟩ := List.getElem?_eq_some_iff.mp h'
  exact (List.getElem_inj s.nd).mp (e1.trans e2.symm)
theorem StOk.mem (s : StOk K M H st) {n : Nat} {mo : MO} (h : st[n]? = some mo) : ∃ a, M.m[n]? = some a := by
  have := (List.getElem?_eq_some_iff.mp h).1
  rw [← s.len] at this
  exact ⟨M.m[n], List.getElem?_eq_getElem this⟩
end
def scal : D → Option V
  | .non => some .non
  | .bl b => some (.bl b)
  | .int i => some (.int i)
  | _ => none
def keyOf : D → Option L2.Key
  | .int i => some (.inl i)
  | _ => none
def kD : L2.Key → D
  | .inl i => .int i
  | .inr x => .str x
def keysOf : List D → Option (List L2.Key)
  | [] => some []
  | d :: ds => match keyOf d, keysOf ds with
    | some k, some ks => some (k :: ks)
    | _, _ => none
end G
namespace G
open PySem PySem.Spec PyProof.Rows L2
def insW (p : P2) : List P2 → List P2
  | [] => [p]
  | q :: r => if ltP2 q p then q :: insW p r else p :: q :: r
def srtP (ps : List P2) : List P2 := ps.foldr insW []
def srtF : FA := fun as st => match as with
  | [.tup _] => .fail
  | [a] => (match (seqOf a st).bind pairsOf with
    | some ps => .ok (.lst ((srtP ps).map pairD)) st
    | none => .fail)
  | _ => .fail
@[simp] theorem srtF_pairs (ps : List P2) (st : Sto) : srtF [.lst (ps.map pairD)] st = .ok (.lst ((srtP ps).map pairD)) st := by
  show (match (some (ps.map pairD)).bind pairsOf with | some ps => _ | none => _) = _
  rw [Option.bind_some, pairsOf_map]
end G
namespace G
open PySem PySem.Spec PyProof.Rows L2
structure ShP (p : PyData) (w d : Nat) : Prop where
  nd : p.hasDict = false
  sh : p.showable = true
  ls : p.leavesShort 500 = true
  wt : p.weight ≤ w
  dp : p.depth ≤ d
structure ShL (ps : List PyData) (w d : Nat) : Prop where
  nd : PyData.hasDictAll ps = false
  sh : PyData.showableAll ps = true
  ls : PyData.leavesShortAll 500 ps = true
  wt : PyData.weightAll ps ≤ w
  dp : PyData.depthAll ps ≤ d
theorem ShL.tup {ps : List PyData} {w d : Nat} (h : ShL ps w d) : ShP (.tuple ps) w (d + 1) :=
  ⟨by simpa [PyData.hasDict] using h.nd, by simpa [PyData.showable] using h.sh, by simpa [PyData.leavesShort] using h.ls, by simpa [PyData.weight] using h.wt, by simpa [PyData.depth] using h.dp⟩
theorem ShL.lst {ps : List PyData} {w d : Nat} (h : ShL ps w d) : ShP (.list ps) w (d + 1) :=
  ⟨by simpa [PyData.hasDict] using h.nd, by simpa [PyData.showable] using h.sh, by simpa [PyData.leavesShort] using h.ls, by simpa [PyData.weight] using h.wt, by simpa [PyData.depth] using h.dp⟩
@[simp] theorem neD_str (x : Str) (st : Sto) : neD (.str x) (.str x) st = .ok (.bl false) st := by
  unfold neD eqO scalD
  simp
@[simp] theorem eqD_str (x : Str) (st : Sto) : eqD (.str x) (.str x) st = .ok (.bl true) st := by
  unfold eqD eqO scalD
  simp
end G
namespace G
open PySem PySem.Spec PyProof.Rows L2
def cd (ns : List Int) : Int := TS.code (big : Int) ns
end G
namespace G
open PySem PySem.Spec PyProof.Rows L2
def lstOf (d : D) (st : Sto) : Option (List D) := match d with
  | .lst xs => some xs
  | .slo xs => some xs
  | .mut n => (match st[n]? with
    | some (.lst xs) => some xs
    | _ => none)
  | _ => none
def indexF : FM := fun d as st => match as with
  | [.int x] => (match (lstOf d st).bind intsOf with
    | some ns => (match ns.findIdx? (fun y => y == x) with
      | some j => .ok (.int (j : Nat)) st
      | none => .fail)
    | none => .fail)
  | _ => .fail
end G
namespace G
open PySem PySem.Spec PyProof.Rows L2
def listRgE (fa : EvE) : EvE := fun env st => (fa env st).bind fun a st1 => match a with
  | .int n => if 0 ≤ n ∧ n ≤ 16777216 then .ok (.lst ((List.range n.toNat).map fun i => .int (i : Nat))) st1 else .fail
  | _ => .fail
@[simp] theorem listRgE_eq (fa : EvE) (env : Env) (st : Sto) : listRgE fa env st = (fa env st).bind fun a st1 => match a with
  | .int n => if 0 ≤ n ∧ n ≤ 16777216 then .ok (.lst ((List.range n.toNat).map fun i => .int (i : Nat))) st1 else .fail
  | _ => .fail := rfl
end G
namespace G
open PySem PySem.Spec PyProof.Rows L2
def thawD (st : Sto) : D → D
  | .mut n => match st[n]? with
    | some (.lst xs) => .lst xs
    | _ => .mut n
  | d => d
def eqMO (a b : D) (st : Sto) : Option Bool := match toPD (thawD st a), toPD (thawD st b) with
  | some x, some y => if SeqAt.shaped x = true ∧ SeqAt.shaped y = true then some (PyData.eqv x y) else none
  | _, _ => none
def eqMD : F2 := fun a b st => match eqMO a b st with
  | some k => .ok (.bl k) st
  | none => .fail
def neMD : F2 := fun a b st => match eqMO a b st with
  | some k => .ok (.bl (!k)) st
  | none => .fail
end G
namespace G
open PySem PySem.Spec PyProof.Rows L2
def NotFrz (H : Hp) (d : Addr) : Prop := ∀ o u, H d ≠ some (.frz o u)
def tUnlE (t : TE) : TE := fun σ H Q => t σ H fun v H' => ∃ d od u, H' d = some (.frz od u) ∧ NotFrz H d ∧ Q v (upd H' d u)
section
variable {X : Cx} {pins : List (Addr × Obj)} {σ : L2.St} {H : Hp} {s : Shared}
theorem notfrz0 (I : Inv X pins σ H s) {d : Addr} (h : NotFrz H d) : ∀ o' u', X.H_0 d ≠ some (.frz o' u') := fun o' u' e => h _ _ (I.base.frzs d o' u' e)
theorem pe_unl {e : Expr} {t : TE} (h : PE X e t) : PE X e (tUnlE t) := by
  refine ⟨fun pins s σ H Q I hw => ?_⟩
  refine thn (h.run pins s σ H _ I hw) fun v s1 ⟨x, H1, I2, r, d, od, u, e2, n, q⟩ => ?_
  exact ⟨x, _, I2.unlock e2 (notfrz0 I n), r, q⟩
end
end G
namespace G
open PySem PySem.Spec PyProof.Rows L2
section
variable {κ β : Type} [DecidableEq κ]
def vGet (kvs : List (κ × β)) (k : κ) : Option β := (kvs.find? fun kv => decide (kv.1 = k)).map (·.2)
def vPut (kvs : List (κ × β)) (k : κ) (v : β) : List (κ × β) :=
  if (kvs.any fun kv => decide (kv.1 = k)) = true then kvs.map (fun kv => if kv.1 = k then (kv.1, v) else kv) else kvs ++ [(k, v)]
theorem vGet_pos {p : κ × β} {r : List (κ × β)} {k : κ} (e : p.1 = k) : vGet (p :: r) k = some p.2 := by simp [vGet, List.find?_cons, e]
theorem vGet_neg {p : κ × β} {r : List (κ × β)} {k : κ} (e : ¬ p.1 = k) : vGet (p :: r) k = vGet r k := by simp [vGet, List.find?_cons, e]
theorem vGet_any (k : κ) : ∀ kvs : List (κ × β), (kvs.any fun kv => decide (kv.1 = k)) = (vGet kvs k).isSome
  | [] => rfl
  | p :: r => by
    rw [List.any_cons]
    by_cases e : p.1 = k
    · simp only [vGet_pos e, decide_eq_true e, Bool.true_or, Option.isSome_some]
    · rw [vGet_neg e, decide_eq_false e, Bool.false_or]; exact vGet_any k r
end
section
variable {K : PySem.W.Frag} {M : Mem} {H : Hp} {κ : Type} [DecidableEq κ]
theorem RepKV.cons {k : κ} {d : D} {v : V} {kvs : List (κ × D)} {ws : List (κ × V)} (r : Rep K M H d v) (q : RepKV K M H kvs ws) : RepKV K M H ((k, d) :: kvs) ((k, v) :: ws) :=
  ⟨by simp [q.1], by simpa using RepL.cons r q.2⟩
theorem RepKV.inv {k : κ} {d : D} {kvs : List (κ × D)} {ws : List (κ × V)} (r : RepKV K M H ((k, d) :: kvs) ws) : ∃ v ws', ws = (k, v) :: ws' ∧ Rep K M H d v ∧ RepKV K M H kvs ws' := by
  obtain ⟨h1, h2⟩ := r
  cases ws with
  | nil => simp at h1
  | cons p ws' =>
    obtain ⟨k', v⟩ := p
    simp only [List.map_cons, List.cons.injEq] at h1
    obtain ⟨rfl, h1⟩ := h1
    simp only [List.map_cons] at h2
    unfold RepL at h2
    obtain ⟨v', r', e, r1, r2⟩ := h2
    injection e with e1 e2
    subst e1 e2
    exact ⟨_, _, rfl, r1, h1, r2⟩
theorem RepKV.nil_inv {ws : List (κ × V)} (r : RepKV K M H ([] : List (κ × D)) ws) : ws = [] := by
  have := r.1
  simpa using this
theorem RepKV.len {kvs : List (κ × D)} {ws : List (κ × V)} (r : RepKV K M H kvs ws) : ws.length = kvs.length := by
  have := congrArg List.length r.1
  simpa using this
theorem RepKV.get : ∀ {kvs : List (κ × D)} {ws : List (κ × V)} (_ : RepKV K M H kvs ws) (k : κ), (vGet kvs k = none → valV ws k = none) ∧ ∀ d, vGet kvs k = some d → ∃ v, valV ws k = some v ∧ Rep K M H d v
  | [], ws, r, k => by rw [r.nil_inv]; exact ⟨fun _ => rfl, fun d h => by cases h⟩
  | (k', d') :: kvs, ws, r, k => by
    obtain ⟨v, ws', rfl, r1, r2⟩ := r.inv
    by_cases e : k' = k
    · rw [vGet_pos (p := (k', d')) e, valV_pos (p := (k', v)) e]
      exact ⟨fun h => (nomatch h), fun d h => by cases h; exact ⟨v, rfl, r1⟩⟩
    · rw [vGet_neg (p := (k', d')) e, valV_neg (p := (k', v)) e]
      exact r2.get k
theorem RepKV.isS {kvs : List (κ × D)} {ws : List (κ × V)} (r : RepKV K M H kvs ws) (k : κ) : (valV ws k).isSome = (vGet kvs k).isSome := by
  obtain ⟨h1, h2⟩ := r.get k
  cases e : vGet kvs k with
  | none => rw [h1 e]; rfl
  | some d => obtain ⟨v, e2, _⟩ := h2 d e; rw [e2]; rfl
theorem RepKV.mapv {k : κ} {d : D} {v : V} (rv : Rep K M H d v) : ∀ {kvs : List (κ × D)} {ws : List (κ × V)}, RepKV K M H kvs ws → RepKV K M H (kvs.map fun kv => if kv.1 = k then (kv.1, d) else kv) (ws.map fun kv => if kv.1 = k then (kv.1, v) else kv)
  | [], ws, r => by rw [r.nil_inv]; exact ⟨rfl, .nil⟩
  | (k', d') :: kvs, ws, r => by
    obtain ⟨v', ws', rfl, r1, r2⟩ := r.inv
    rw [List.map_cons, List.map_cons]
    by_cases e : k' = k
    · simp only [e, if_true]
      exact .cons rv (r2.mapv rv)
    · simp only [e, if_false]
      exact .cons r1 (r2.mapv rv)
theorem RepKV.snoc {k : κ} {d : D} {v : V} (rv : Rep K M H d v) : ∀ {kvs : List (κ × D)} {ws : List (κ × V)}, RepKV K M H kvs ws → RepKV K M H (kvs ++ [(k, d)]) (ws ++ [(k, v)])
  | [], ws, r => by rw [r.nil_inv]; exact .cons rv ⟨rfl, .nil⟩
  | (k', d') :: kvs, ws, r => by
    obtain ⟨v', ws', rfl, r1, r2⟩ := r.inv
    exact .cons r1 (r2.snoc rv)
theorem RepKV.put {k : κ} {d : D} {v : V} {kvs : List (κ × D)} {ws : List (κ × V)} (r : RepKV K M H kvs ws) (rv : Rep K M H d v) : RepKV K M H (vPut kvs k d) (putK ws k v) := by
  have e : (ws.any fun kv => decide (kv.1 = k)) = (kvs.any fun kv => decide (kv.1 = k)) := by rw [valV_any, vGet_any, r.isS]
  unfold vPut putK
  rw [e]
  split
  · exact r.mapv rv
  · exact r.snoc rv
theorem RepKV.at : ∀ {kvs : List (κ × D)} {ws : List (κ × V)}, RepKV K M H kvs ws → ∀ {i : Nat} {k : κ} {d : D}, kvs[i]? = some (k, d) → ∃ v, ws[i]? = some (k, v) ∧ Rep K M H d v
  | [], ws, r, i, k, d, h => by simp at h
  | (k', d') :: kvs, ws, r, 0, k, d, h => by
    obtain ⟨v', ws', rfl, r1, r2⟩ := r.inv
    simp only [List.getElem?_cons_zero, Option.some.injEq, Prod.mk.injEq] at h
    obtain ⟨rfl, rfl⟩ := h
    exact ⟨v', rfl, r1⟩
  | (k', d') :: kvs, ws, r, i + 1, k, d, h => by
    obtain ⟨v', ws', rfl, r1, r2⟩ := r.inv
    simp only [List.getElem?_cons_succ] at h ⊢
    exact r2.at h
def ksOf : D → Option (List L2.Key)
  | .tup ds => keysOf ds
  | _ => none
end
def newEE : EvE := fun _ st => .ok (.mut st.length) (st ++ [.de []])
section
variable {X : Cx} {W : WX} {pos : Pos} {fk fv fd fa : EvE} {ke ve : Expr}
def putDD (d k v : D) (st : Sto) : Option Sto := match d with
  | .mut n => (match st[n]? with
    | some (.dd kvs) => (match keyOf k with
      | some k => if kvs.length < 16777216 then some (st.set n (.dd (vPut kvs k v))) else none
      | none => none)
    | some (.de kvs) => (match ksOf k with
      | some k => if kvs.length < 16777216 then some (st.set n (.de (vPut kvs k v))) else none
      | none => none)
    | _ => none)
  | _ => none
def putDS (fv fd fk : EvE) : SvS := fun env st => bindS (fv env st) env fun v st1 => bindS (fd env st1) env fun d st2 => bindS (fk env st2) env fun k st3 => match putDD d k v st3 with
  | some st4 => .nx env st4
  | none => .fail
end
end G
namespace G
open PySem PySem.Spec PyProof.Rows L2
def walkedAt (st : Sto) (n : Nat) : Bool := match st[n]? with
  | some mo => mo.walked
  | none => false
section
variable {X : Cx} {W : WX} {g : TgF} {body : SvS} {K : PySem.W.Frag}
theorem notfrz_at {M M1 : Mem} {H H1 : Hp} {st st1 : Sto} {n : Nat} {d : Addr} {u : HO} (so : StOk K M H st) (so1 : StOk K M1 H1 st1) (g1 : Grow M H M1 H1) (dm : M1.m[n]? = some d) (hd : H1 d = some u) (hu : ∀ o u', u ≠ .frz o u') (ew : walkedAt st n = false) : NotFrz H d := by
  intro o u' e
  by_cases hm : d ∈ M.m
  · obtain ⟨k, hk⟩ := List.mem_iff_getElem?.mp hm
    have := so1.uniq dm (g1.pre k d hk)
    subst this
    have hl : n < st.length := by rw [← so.len]; exact (List.getElem?_eq_some_iff.mp hk).1
    have q := so.at_ n d st[n] hk (List.getElem?_eq_getElem hl)
    have ew : st[n].walked = false := by
      unfold walkedAt at ew
      rw [List.getElem?_eq_getElem hl] at ew
      exact ew
    cases e2 : st[n] with
    | lst xs => rw [e2] at q; obtain ⟨vs, hv, _⟩ := q; rw [e] at hv; cases hv
    | dk xs => rw [e2] at q; have q : H _ = some (.dK xs) := q; rw [e] at q; cases q
    | dt xs => rw [e2] at q; have q : H _ = some (.dT xs) := q; rw [e] at q; cases q
    | fk xs => rw [e2] at ew; cases ew
    | dd xs => rw [e2] at q; obtain ⟨ws, hv, _⟩ := q; rw [e] at hv; cases hv
    | de xs => rw [e2] at q; obtain ⟨ws, hv, _⟩ := q; rw [e] at hv; cases hv
    | fd xs => rw [e2] at ew; cases ew
    | fe xs => rw [e2] at ew; cases ew
    | dn xs => rw [e2] at q; obtain ⟨ws, hv, _⟩ := q; rw [e] at hv; have hv : some (HO.frz _ _) = some (HO.ext _) := hv; cases hv
    | gn xs => rw [e2] at ew; cases ew
  · by_cases hp : d ∈ M.p
    · obtain ⟨_, vs, e2⟩ := so.pd d hp
      rw [e] at e2; cases e2
    · obtain ⟨_, n2⟩ := g1.keep d _ e ⟨hm, hp⟩
      exact n2.1 (List.mem_of_getElem? dm)
theorem lock_st {M : Mem} {H : Hp} {st : Sto} {n : Nat} {d : Addr} {mo mo' : MO} {f : Addr → Option (Obj × HO)} {u : HO} (so : StOk K M H st) (dm : M.m[n]? = some d) (e : st[n]? = some mo) (gp : Grow M H M (upd H d u))
    (hf : ∀ (n' : Nat) (a : Addr) (mo : MO), M.m[n']? = some a → st[n']? = some mo → a ≠ d → f a = M.f a) (r : MoOk K ⟨M.m, M.p, f⟩ (upd H d u) d mo') : StOk K ⟨M.m, M.p, f⟩ (upd H d u) (st.set n mo') := by
  refine ⟨by simp [so.len], so.nd, fun a ha => ?_, fun k a kk e1 e2 => ?_⟩
  · obtain ⟨h1, v, h2⟩ := so.pd a ha
    have ne : a ≠ d := fun z => h1 (by rw [z]; exact List.mem_of_getElem? dm)
    exact ⟨h1, v, by rw [upd_ne ne]; exact h2⟩
  · have e1 : M.m[k]? = some a := e1
    by_cases hk : n = k
    · subst hk
      have hn : n < st.length := (List.getElem?_eq_some_iff.mp e).1
      rw [List.getElem?_set_self hn] at e2
      cases e2
      rw [dm] at e1
      cases e1
      exact r
    · rw [List.getElem?_set_ne hk] at e2
      have q := so.at_ k a kk e1 e2
      have ne : a ≠ d := fun z => hk (so.uniq dm (by rw [← z]; exact e1))
      have fa : f a = M.f a := hf k a kk e1 e2 ne
      have q2 : MoOk K M (upd H d u) a kk := q.upd ne gp
      cases kk with
      | lst xs => obtain ⟨vs, h1, r⟩ := q2; exact ⟨vs, h1, r.ff⟩
      | dk kvs => exact q2
      | dt kvs => exact q2
      | fk kk => obtain ⟨o, h1, h2⟩ := q2; exact ⟨o, by rw [← h1]; exact fa, h2⟩
      | dd kvs => obtain ⟨ws, h1, r⟩ := q2; exact ⟨ws, h1, r.1, r.2.ff⟩
      | de kvs => obtain ⟨ws, h1, r⟩ := q2; exact ⟨ws, h1, r.1, r.2.ff⟩
      | fd kk => obtain ⟨o, ws, h1, h2, r⟩ := q2; exact ⟨o, ws, by rw [← h1]; exact fa, h2, r.1, r.2.ff⟩
      | fe kk => obtain ⟨o, ws, h1, h2, r⟩ := q2; exact ⟨o, ws, by rw [← h1]; exact fa, h2, r.1, r.2.ff⟩
      | dn kvs => obtain ⟨ws, h1, r⟩ := q2; exact ⟨ws, h1, r.1, r.2.1.ff, r.2.2.ff⟩
      | gn kk => obtain ⟨o, ws, h1, h2, h3, r⟩ := q2; exact ⟨o, ws, by rw [← h1]; exact fa, h2, h3, r.1, r.2.1.ff, r.2.2.ff⟩
end
end G
set_option maxHeartbeats 2000000
namespace PySem
namespace GX
open PySem.W PySem.Calls PyProof.Rows PySem.HandSPX
def iA (f : Str) (p1 p2 : Pos) : Arguments := { posonlyargs := [], args := [{ arg := "self", annotation := none, pos := p1 }, { arg := f, annotation := none, pos := p2 }], vararg := none, kwonlyargs := [], kw_defaults := [], kwarg := none, defaults := [] }
def iB (f : Str) (q1 q2 q3 q4 : Pos) : List Stmt := [.Assign [.Attribute (.Name "self" q1) f q2] (.Name f q3) q4]
def iS (f : Str) : Scope := { kind := .function, names := [("self", .local), (f, .local)], isGenerator := false, isCoroutine := false, more := [] }
structure XI (K : Frag) (mg : Str → Option Value) (x : Str) (C fI : Addr) (f : Str) : Prop where
  hf : f = "given" ∨ f = "index" ∨ f = "reason"
  gC : mg x = some (.ref C)
  nC : nsIn K mainGlobals x = some (some (.ref C))
  cls : ∃ nm q N bs bm sn sub ab col dd k0 k1 k2 k3 k5, K.lookup C = some (excClassObj nm q C N bs bm true sn sub ab col dd k0 k1 k2 k3 k5 "ValueError.__new__") ∧ refsVE bm = true
  sa : findIn K (.ref C) "__setattr__" = some (some (.builtin "object.__setattr__"))
  noN : findIn K (.ref C) f = some none
  iC : findIn K (.ref C) "__init__" = some (some (.ref fI))
  tC : typeIn K (.ref fI) = some (.type "function")
  kC : keepIn K (.ref C) = true
  exC : subIn K (.ref C) (.type "BaseException") = some true
  tyC : typeIn K (.ref C) = some (.type "type")
  fn : ∃ (oc : Value) (od : Option Addr) (q : Str) (doc pm : Value) (an : Option Addr) (cdv ct : Value) (osl : Array (Option Value)) (p1 p2 q1 q2 q3 q4 : Pos),
    K.lookup fI = some ⟨oc, od, .func (fnOf "__init__" q (iA f p1 p2) (iB f q1 q2 q3 q4) (iS f) .none .none doc pm an cdv ct), osl⟩ ∧ codeIn K cdv q = true
theorem one_size (v : Value) : [v].length ≤ sizeLine := by
  rw [sizeLine_eq]
  exact (by decide : 1 ≤ 16777216)
theorem ldC {M : Model} {s : Shared} {name : Str} {scope : Scope} {L a : Addr} {cd : Value} {m : Str → Option Value} {x : Str} {pos : Pos} {v : Value} {Q : Value → Shared → Prop} {A : Around} {E : Value → Shared → Prop} (hn : s.heap.Ns L m) (hv : m x = some v) (h : Q v s)
    (hk : scope.kind = .function := by rfl) (hl : (envOfC name scope L a cd).kindOf x = some .local := by rfl) (hd : (x == ("__debug__" : Str)) = false := by decide) :
    wpAny M A (eval (.Name x pos) (envOfC name scope L a cd)) Q E s := wpAny_Name (wpAny_loadName_local hk hl hn hv h) hd
structure InitEnd (f : Str) (h h' : Heap) (x C dx t1 : Addr) (v : Value) : Prop where
  keep : ∀ b o, b ≠ x → h.get? b = some o → h'.get? b = some o
  obj : h'.get? x = some { cls := .ref C, dict := some dx, data := .fields #[.ref t1, .none, .none, .none, .bool false, .none] }
  dbig : h.objs.size ≤ dx
  dne : dx ≠ x
  ns : h'.Ns1 dx (fun y => if y = f then some v else none)
structure OwnMade (f : Str) (h h' : Heap) (e C d : Addr) (v : Value) : Prop where
  keep : ∀ b o, h.get? b = some o → h'.get? b = some o
  new : h.objs.size ≤ e
  obj : ∃ oe vs, h'.get? e = some oe ∧ oe.cls = .ref C ∧ oe.dict = some d ∧ oe.data = .fields vs ∧ vs[1]? = some .none
  dbig : h.objs.size ≤ d
  dne : d ≠ e
  ns : h'.Ns1 d (fun y => if y = f then some v else none)
section
variable {prog : Program} {w : World} {A : Around} {E : Value → Shared → Prop} {R : Result → Shared → Prop} {s : Shared} {K : Frag} {mg : Str → Option Value} {C fI : Addr} {cn f : Str}
theorem xi_init (T : XI K mg cn C fI f) {x t0 : Addr} {v : Value} (X : K.In s.heap) (hlim : s.heap.NoLimit) (hx : s.heap.get? x = some (excO C t0)) (hnx : K.lookup x = none) (hroom : A.depth < recursionLimit)
    (hq : ∀ h' tk dx, InitEnd f s.heap h' x C dx t0 v → R (.ok (.ret .none)) { s with heap := h', toks := tk }) :
    codeAny (model prog w) A (.call (.ref fI) ⟨[.ref x, v], []⟩) R s := by
  obtain ⟨oc, od, q, doc, pm, an, cdv, ct, osl, p1, p2, q1, q2, q3, q4, ho, hcd⟩ := T.fn
  obtain ⟨nm, qn, N, bs, bm, sn, sub, ab, col, dd, k0, k1, k2, k3, k5, hC, hbm⟩ := T.cls
  have hcl : clsIn K C = some { name := nm, bases := bs, mro := .ref C :: bm, ns := N, qualname := qn, hasDict := true, slotNames := sn, subclasses := sub, abstract := ab, collection := col, hasDel := false } := by unfold clsIn; rw [hC] <;> rfl
  have hsa := T.sa
  have hno := T.noN
  rcases T.hf with rfl | rfl | rfl
  all_goals (
    refine Att.call_fn (binds := [("self", .ref x), (_, v)]) X hlim ho hcd hroom (BindsTo.of_eq (by first | rfl | with_unfolding_all rfl)) (by first | rfl | decide | with_unfolding_all rfl) (fun s₁ IC => ?_) rfl rfl rfl
    obtain ⟨h₁, tk₁, rfl⟩ := IC.toInCall.same
    have k : ∀ b o, s.heap.get? b = some o → h₁.get? b = some o := IC.toInCall.keep
    have hn := IC.toInCall.ns
    have hxL : s.heap.objs.size ≠ x := Nat.ne_of_gt (Heap.lt_size hx)
    have X₁ : K.In h₁ := X.keeps k
    have hx₁ := k _ _ hx
    show wpAny _ _ (execs _ _) _ _ _
    refine wpAny_execs_cons (plainObj_wpAny_Assign_Attribute ?_)
    refine ldC (v := v) hn (by first | rfl | with_unfolding_all rfl | kernel_rfl) (ldC (v := .ref x) hn (by first | rfl | with_unfolding_all rfl | kernel_rfl) ?_)
    refine set_plain X₁ (ox := excO C t0) (od := none) ⟨hx₁, rfl, rfl, trivial⟩ hsa ?_
    refine exc_osa X₁ hx₁ hcl (show refsVE (.ref C :: bm) = true from hbm) rfl hno (fun h₃ tk₃ dx k₃ dn dne hx₃ hn₃ => ?_)
    show wpAny _ _ (execs _ _) _ _ _
    have z : s.heap.objs.size < h₁.objs.size := hn.lt
    exact wpAny_execs_nil (hq h₃ tk₃ dx ⟨fun b o hb e => k₃ b o hb (k b o e), hx₃, Nat.le_of_lt (Nat.lt_of_lt_of_le z dn), dne, hn₃⟩))
theorem xi_made (T : XI K mg cn C fI f) {v : Value} (X : K.In s.heap) (hlim : s.heap.NoLimit) (hroom : A.depth + 1 < recursionLimit)
    (hq : ∀ h' tk e d, OwnMade f s.heap h' e C d v → R (.ok (.ret (.ref e))) { s with heap := h', toks := tk }) :
    codeAny (model prog w) A (.call (.ref C) ⟨[v], []⟩) R s := by
  obtain ⟨nm, q, N, bs, bm, sn, sub, ab, col, dd, k0, k1, k2, k3, k5, hC, hbm⟩ := T.cls
  obtain ⟨hp, g, dr, tk, os⟩ := s
  have k : ∀ b o, hp.get? b = some o → ((hp.push (kdv_tup [v])).push (excO C hp.objs.size)).get? b = some o := fun b o e => Heap.get?_push_of_some _ (Heap.get?_push_of_some _ e)
  have hget : ((hp.push (kdv_tup [v])).push (excO C hp.objs.size)).get? (hp.objs.size + 1) = some (excO C hp.objs.size) := by heap_get
  have hnx : K.lookup (hp.objs.size + 1) = none := by
    cases e : K.lookup (hp.objs.size + 1) with
    | none => rfl
    | some o =>
      have z : hp.get? (hp.objs.size + 1) = some o := X _ _ e
      exact absurd (Nat.lt_of_succ_lt (Heap.lt_size z)) (Nat.lt_irrefl _)
  refine call_own F.excBase_ValueError (fun X => refsVE_contains X bm hbm) (X _ _ hC) (looks_findIn X T.iC) (fun self => bind_fn X self T.tC) (one_size v) ?_
  refine xi_init (s := ⟨(hp.push (kdv_tup [v])).push (excO C hp.objs.size), g, dr, tk, os⟩) T (X.keeps k) (hlim.keeps k) hget hnx ?_ fun h' tk' dx ⟨k', hx, dn, dne, hns⟩ => ?_
  · show A.depth + 1 < recursionLimit
    exact hroom
  · have old : ∀ b o, hp.get? b = some o → h'.get? b = some o := fun b o e => k' b o (Nat.ne_of_lt (Nat.lt_succ_of_lt (Heap.lt_size e))) (k b o e)
    have z : hp.objs.size + 1 + 1 ≤ dx := by
      first
        | (simpa only [Heap.size_push] using dn)
        | exact dn
        | (have q := dn; rw [Heap.size_push, Heap.size_push] at q; exact q)
    exact ⟨rfl, hq h' tk' (hp.objs.size + 1) dx ⟨old, Nat.le_succ _, ⟨_, _, hx, rfl, rfl, rfl, rfl⟩, Nat.le_trans (Nat.le_trans (Nat.le_succ _) (Nat.le_succ _)) z, dne, hns⟩⟩
end
end GX
end PySem
namespace G
open PySem PySem.Spec PyProof.Rows L2
theorem relO_one {f : Str} {v : V} {v' : Value} (r : RelV v v') (y : Str) : RelO (List.lookup y [(f, v)]) (if y = f then some v' else none) := by
  by_cases hw : y = f
  · subst hw
    rw [if_pos rfl]
    have q : List.lookup y [(y, v)] = some v := by simp [List.lookup]
    rw [q]
    exact r
  · rw [if_neg hw]
    have qw : (y == f) = false := by simpa using hw
    have q2 : List.lookup y [(f, v)] = none := by simp [List.lookup, qw]
    rw [q2]
    trivial
section
variable {X : Cx} {C fI : Addr} {cn f : Str}
def tMkX (C : Addr) (f : Str) (ta : TA) : L2.St → Hp → XK → Prop := fun σ H Q => ta σ H fun vs H1 => ∃ v, vs = [v] ∧ ∀ d, H1 d = none → Q (.ref C) (some d) (upd H1 d (.xd [(f, v)]))
theorem pmk_xi {a : Expr} {ta : TA} {p pos : Pos} {k : Nat} (T : PySem.GX.XI X.K X.mg cn C fI f) (hr : RoomG k X.A) (ha : PA X [a] ta) (hg : Gl X cn) (hdb : (cn == ("__debug__" : Str)) = false)
    (he : starEach (a :: []) X.env = (false, eval a X.env) :: starEach [] X.env) (hpl : (backTo pos (starEach [] X.env)).any (·.1) = false) :
    PMk X (.Call (.Name cn p) [a] [] pos) (tMkX C f ta) := by
  intro pins s σ H Q I h
  refine wpAny_Call_Name_kw (ld_glob I hg T.gC ?_ hdb)
  refine PySem.W.callWith_K (h₀ := X.base) I.ok.mod.kin T.kC (thn (ha.run pos pins s σ H _ I h) fun us s1 hh => ?_) he hpl
  obtain ⟨vs, H1, I1, r1, v, ev, q1⟩ := hh
  subst ev
  refine ⟨I1.kIn, ?_⟩
  cases r1 with
  | cons rv rn =>
    rename_i v' us'
    cases rn
    show wpAny _ _ (call (.ref C) [v']) _ _ _
    have hlim := I1.nolimit
    obtain ⟨hp, g, dr, tk, os⟩ := s1
    refine wpAny_call (PySem.GX.xi_made T I1.kIn hlim (by have := hr.dp; omega) fun h' tk' e d M => ?_)
    show MkP X pins σ Q (.ref e) ⟨h', g, dr, tk', os⟩
    obtain ⟨oe, fv, hoe, hc, hd, hdat, h1⟩ := M.obj
    have hns := M.ns
    obtain ⟨G', g1, g2⟩ := restrict h' fun b => decide (b ≠ e)
    have gk : ∀ b, b ≠ e → G'.get? b = h'.get? b := fun b hb => g1 b (decide_eq_true hb)
    have ge : G'.get? e = none := g2 e (by simp)
    have old : ∀ b o, hp.get? b = some o → G'.get? b = some o := fun b o q => (gk b (Nat.ne_of_lt (Nat.lt_of_lt_of_le (Heap.lt_size q) M.new))).trans (M.keep b o q)
    have ob : ObjOk X.prog X.w (upd H1 d (.xd [(f, v)])) G' d (.xd [(f, v)]) :=
      ⟨_, hns.at (fun o q => (gk d M.dne).trans q), fun f => relO_one rv f⟩
    have J : Inv X pins σ (upd H1 d (.xd [(f, v)])) ⟨G', g, dr, tk', os⟩ := I1.laid (t' := tk') old M.dbig ob
    refine ⟨e, oe, fv, ⟨G', g, dr, tk', os⟩, _, .ref C, some d, rfl, J, fun b o q => ?_, ge, hoe, ⟨hc, hd⟩, hdat, h1, ?_, rfl, I1.bare, raises_own T.exC T.tyC, q1 d (I1.hok.fresh M.dbig)⟩
    · by_cases hb : b = e
      · have q' : G'.get? b = some o := q
        rw [hb, ge] at q'; cases q'
      · exact (gk b hb).symm.trans q
    · rw [upd_ne (Ne.symm M.dne)]
      exact I1.hok.fresh M.new
end
def RX (K : PySem.W.Frag) (mg : Str → Option Value) (x f : Str) : Prop := ∃ C fI, PySem.GX.XI K mg x C fI f
def raiseS (cl f : Str) (fa : EvE) : SvS := fun env st => bindS (fa env st) env fun d st1 => .exc ⟨cl, f, d⟩ env st1
section
variable {X : Cx} {W : WX} {x f : Str} {a : Expr} {fa : EvE} {p pos pos2 : Pos} {k : Nat}
theorem s_raise (hc : X.calm = true) (T : RX X.K X.mg x f) (hr : RoomG k X.A) (tk : Takes X W) (ha : PE X a (rdE X.K W fa)) (hg : Gl X x) (hdb : (x == ("__debug__" : Str)) = false)
    (he : starEach (a :: []) X.env = (false, eval a X.env) :: starEach [] X.env) (hpl : (backTo pos (starEach [] X.env)).any (·.1) = false) :
    PS X (.Raise (some (.Call (.Name x p) [a] [] pos)) none pos2) (rdS X.K W (raiseS x f fa)) := by
  obtain ⟨C, fI, T⟩ := T
  refine (ps_raise hc tk (pmk_xi T hr (pa_cons ha pa_nil he) hg hdb he hpl)).imp ?_
  rintro D σ H ⟨env, M, st, eo, so, po⟩
  refine ⟨env, M, st, eo, so, Post.imp (PostS.bind eo po) fun v H1 ⟨M1, st1, d, g, so1, ra, p1⟩ => ⟨v, rfl, fun dd hd => ?_⟩⟩
  refine p1 M1 _ σ (.ref C) (some dd) (.laid so1 hd) (so1.laid hd) ((eo.grow g).grow (.laid so1 hd)) ⟨T.nC, .inr ⟨?_, dd, v, rfl, upd_same, so1.notin hd, ra.grow (.laid so1 hd)⟩⟩
  show f ≠ ""
  rcases T.hf with rfl | rfl | rfl <;> decide
end
end G
set_option maxHeartbeats 2000000
namespace L2
open PySem PySem.Spec PyProof.Rows
abbrev CTS := Value × Option Nat × (Addr → Value → Option Addr → TS)
inductive HdsA (X : Cx) : List ExceptHandler → List CTS → Prop
  | nil : HdsA X [] []
  | cons {x : Str} {c : Value} {ts : Addr → Value → Option Addr → TS} {b₀ : Stmt} {suite : List Stmt} {np pos' : Pos} {hds : List ExceptHandler} {l : List CTS} (hc : Names X x c)
      (hsu : ∀ (a : Addr) (oe : Obj) (cls : Value) (d : Option Addr) (pn : List (Addr × Obj)), Zc cls d oe → (∃ vs, oe.data = .fields vs) → PSs (X.suite a ((a, oe) :: pn)) (b₀ :: suite) (ts a cls d)) (r : HdsA X hds l) :
      HdsA X (.ExceptHandler (some (.Name x np)) none (b₀ :: suite) pos' :: hds) ((c, none, ts) :: l)
  | consA {x n : Str} {i : Nat} {c : Value} {ts : Addr → Value → Option Addr → TS} {b₀ : Stmt} {suite : List Stmt} {np pos' : Pos} {hds : List ExceptHandler} {l : List CTS} (hc : Names X x c) (hi : X.N[i]? = some n) (hln : X.env.kindOf n = some .local)
      (hsu : ∀ (a : Addr) (oe : Obj) (cls : Value) (d : Option Addr) (pn : List (Addr × Obj)), Zc cls d oe → (∃ vs, oe.data = .fields vs) → PSs (X.suite a ((a, oe) :: pn)) (b₀ :: suite) (ts a cls d)) (r : HdsA X hds l) :
      HdsA X (.ExceptHandler (some (.Name x np)) (some n) (b₀ :: suite) pos' :: hds) ((c, some i, ts) :: l)
end L2
set_option maxHeartbeats 2000000
namespace G
open PySem PySem.Spec PyProof.Rows L2
abbrev Tab := List (Str × Str)
def excTest (tab : Tab) (e c : Str) : Option Bool :=
  if (tab.map (·.1)).contains e then if c = "LapError" ∨ c = "ValueError" then some true else if (tab.map (·.1)).contains c then some (decide (e = c)) else none else none
def clsV (K : PySem.W.Frag) (c : Str) : Option Value := if c = "ValueError" then some (.type "ValueError") else match PySem.W.nsIn K mainGlobals c with
  | some (some v) => some v
  | _ => none
def allN (tab : Tab) : List Str := [("LapError" : Str), ("ValueError" : Str)] ++ tab.map (·.1)
def rowB (K : PySem.W.Frag) (tab : Tab) (x f : Str) : Bool := match PySem.W.nsIn K mainGlobals x with
  | some (some (.ref C)) =>
    (PySem.W.findIn K (.ref C) "__getattribute__" == some (some (.builtin "BaseException.__getattribute__"))) && (PySem.W.findIn K (.ref C) "__getattr__" == some none) && (PySem.W.subIn K (.ref C) (.type "BaseException") == some true) &&
    PySem.W.hasDictIn K C && (PySem.W.findIn K (.ref C) "__class__" == some (some (.builtin "object.__class__"))) && (PySem.W.mroIn K C (.type "object") == some true) && (f == "" || PySem.W.findIn K (.ref C) f == some none) &&
    (allN tab).all fun c => match clsV K c with
      | some v => (PySem.W.exmOne K (.ref C) v == excTest tab x c) && (PySem.W.kitOne K (.ref C) v == excTest tab x c)
      | none => false
  | _ => false
def tabB (K : PySem.W.Frag) (tab : Tab) : Bool :=
  (tab.all fun p => rowB K tab p.1 p.2) && (PySem.W.specialIn K (.builtin "object.__class__") "__get__" == some (some (.builtin "getset_descriptor.__get__"))) && (PySem.W.takesIn K (.builtin "object.__class__") == some true)
structure XT (K : PySem.W.Frag) (mg : Str → Option Value) (tab : Tab) : Prop where
  ns : ∀ x v, PySem.W.nsIn K mainGlobals x = some (some v) → mg x = some v
  ve : mg "ValueError" = none
  tb : tabB K tab = true
section
variable {K : PySem.W.Frag} {mg : Str → Option Value} {tab : Tab} {x f : Str} {C : Addr}
theorem XT.row (T : XT K mg tab) (hm : (x, f) ∈ tab) : rowB K tab x f = true := by
  have := T.tb
  unfold tabB at this
  rw [Bool.and_eq_true, Bool.and_eq_true] at this
  exact List.all_eq_true.mp this.1.1 _ hm
structure RowOk (K : PySem.W.Frag) (tab : Tab) (x f : Str) (C : Addr) : Prop where
  ga : PySem.W.findIn K (.ref C) "__getattribute__" = some (some (.builtin "BaseException.__getattribute__"))
  gg : PySem.W.findIn K (.ref C) "__getattr__" = some none
  exC : PySem.W.subIn K (.ref C) (.type "BaseException") = some true
  hd : PySem.W.hasDictIn K C = true
  ha : PySem.W.findIn K (.ref C) "__class__" = some (some (.builtin "object.__class__"))
  hm : PySem.W.mroIn K C (.type "object") = some true
  no : f ≠ "" → PySem.W.findIn K (.ref C) f = some none
  ts : ∀ c ∈ allN tab, ∃ v, clsV K c = some v ∧ PySem.W.exmOne K (.ref C) v = excTest tab x c ∧ PySem.W.kitOne K (.ref C) v = excTest tab x c
theorem XT.at_ (T : XT K mg tab) (hm : (x, f) ∈ tab) : ∃ C, PySem.W.nsIn K mainGlobals x = some (some (.ref C)) ∧ RowOk K tab x f C := by
  have h := T.row hm
  unfold rowB at h
  split at h
  · rename_i C e
    simp only [Bool.and_eq_true, Bool.or_eq_true, beq_iff_eq] at h
    obtain ⟨⟨⟨⟨⟨⟨⟨h1, h2⟩, h3⟩, h4⟩, h5⟩, h6⟩, h7⟩, h8⟩ := h
    refine ⟨C, e, h1, h2, h3, h4, h5, h6, fun nf => h7.resolve_left nf, fun c hc => ?_⟩
    have := List.all_eq_true.mp h8 c hc
    split at this
    · rename_i v ev
      simp only [Bool.and_eq_true, beq_iff_eq] at this
      exact ⟨v, ev, this⟩
    · cases this
  · cases h
end
abbrev SvX := Addr → Value → Option Addr → SvS
def clrS (i : Nat) : S → S
  | .nx env st => .nx (env.set i none) st
  | .brk env st => .brk (env.set i none) st
  | .cont env st => .cont (env.set i none) st
  | .ret d st => .ret d st
  | _ => .fail
abbrev Hdl := Str × Option Nat × SvX
def IndX (oi : Option Nat) (B : SvX) : Prop := match oi with
  | none => ∀ (a : Addr) (c : Value) (od : Option Addr) (env : Env) (st : Sto), B a c od env st = B 0 .none none env st
  | some i => ∀ (a : Addr) (c : Value) (od : Option Addr) (cl f : Str) (d : D) (env : Env) (st : Sto), clrS i (B a c od (env.set i (some (.exv a c od cl f d))) st) = clrS i (B 0 .none none (env.set i (some (.exv 0 .none none cl f d))) st)
inductive HdsG (X : Cx) : List ExceptHandler → List Hdl → Prop
  | nil : HdsG X [] []
  | cons {x : Str} {B : SvX} {b₀ : Stmt} {suite : List Stmt} {np pos' : Pos} {hds : List ExceptHandler} {l : List Hdl} (hg : Gl X x) (hd : (x == ("__debug__" : Str)) = false) (ind : IndX none B)
      (hsu : ∀ (a : Addr) (oe : Obj) (cls : Value) (d : Option Addr) (pn : List (Addr × Obj)), Zc cls d oe → (∃ vs, oe.data = .fields vs) → PSs (X.suite a ((a, oe) :: pn)) (b₀ :: suite) (rdS X.K W0 (B a cls d))) (r : HdsG X hds l) :
      HdsG X (.ExceptHandler (some (.Name x np)) none (b₀ :: suite) pos' :: hds) ((x, none, B) :: l)
  | consA {x n : Str} {i : Nat} {B : SvX} {b₀ : Stmt} {suite : List Stmt} {np pos' : Pos} {hds : List ExceptHandler} {l : List Hdl} (hg : Gl X x) (hd : (x == ("__debug__" : Str)) = false) (hi : X.N[i]? = some n) (hln : X.env.kindOf n = some .local) (ind : IndX (some i) B)
      (hsu : ∀ (a : Addr) (oe : Obj) (cls : Value) (d : Option Addr) (pn : List (Addr × Obj)), Zc cls d oe → (∃ vs, oe.data = .fields vs) → PSs (X.suite a ((a, oe) :: pn)) (b₀ :: suite) (rdS X.K W0 (B a cls d))) (r : HdsG X hds l) :
      HdsG X (.ExceptHandler (some (.Name x np)) (some n) (b₀ :: suite) pos' :: hds) ((x, some i, B) :: l)
theorem boot_VE : bootBuiltins "ValueError" = some (.type "ValueError") := by decide +kernel
section
variable {X : Cx} {tab : Tab}
theorem XT.names (T : XT X.K X.mg tab) {x : Str} (hg : Gl X x) (hd : (x == ("__debug__" : Str)) = false) {v : Value} (hv : clsV X.K x = some v) : Names X x v := by
  unfold clsV at hv
  split at hv
  · rename_i e
    subst e
    cases hv
    exact ⟨hg, hd, .inr ⟨T.ve, boot_VE, by decide⟩⟩
  · split at hv
    · rename_i u e
      cases hv
      exact ⟨hg, hd, .inl (T.ns _ _ e)⟩
    · cases hv
def valsH (K : PySem.W.Frag) (Q : SvX → Addr → Value → Option Addr → TS) (l : List Hdl) : List CTS := l.map fun h => ((clsV K h.1).getD .none, h.2.1, Q h.2.2)
theorem HdsG.ok (T : XT X.K X.mg tab) {hds : List ExceptHandler} {l : List Hdl} (h : HdsG X hds l) (hk : ∀ q ∈ l, (clsV X.K q.1).isSome = true) : HdsA X hds (valsH X.K (fun B a c d => rdS X.K W0 (B a c d)) l) := by
  induction h with
  | nil => exact .nil
  | cons hg hd ind hsu r ih =>
    obtain ⟨v, hv⟩ := Option.isSome_iff_exists.mp (hk _ List.mem_cons_self)
    refine HdsA.cons ?_ hsu (ih fun q hq => hk q (List.mem_cons_of_mem _ hq))
    show Names X _ ((clsV X.K _).getD .none)
    rw [hv]
    exact T.names hg hd hv
  | consA hg hd hi hln ind hsu r ih =>
    obtain ⟨v, hv⟩ := Option.isSome_iff_exists.mp (hk _ List.mem_cons_self)
    refine HdsA.consA ?_ hi hln hsu (ih fun q hq => hk q (List.mem_cons_of_mem _ hq))
    show Names X _ ((clsV X.K _).getD .none)
    rw [hv]
    exact T.names hg hd hv
theorem HdsG.ind {hds : List ExceptHandler} {l : List Hdl} (h : HdsG X hds l) : ∀ q ∈ l, IndX q.2.1 q.2.2 := by
  induction h with
  | nil => intro q hq; cases hq
  | cons hg hd ind hsu r ih =>
    intro q hq
    rcases List.mem_cons.mp hq with rfl | hq
    · exact ind
    · exact ih q hq
  | consA hg hd hi hln ind hsu r ih =>
    intro q hq
    rcases List.mem_cons.mp hq with rfl | hq
    · exact ind
    · exact ih q hq
end
end G
set_option maxHeartbeats 2000000
namespace G
open PySem PySem.Spec PyProof.Rows L2
section
variable {X : Cx} {tab : Tab} {W : WX} {a : Addr} {oe : Obj} {cls : Value} {d : Option Addr} {pn : List (Addr × Obj)} {e : Expr} {pos p q : Pos} {nm : Str} {i : Nat}
abbrev FTab := List (Str × FA)
inductive TabOk (P : Program) (w : World) (K : PySem.W.Frag) (mg : Str → Option Value) (base : Heap) (k : Nat) : FTab → Prop
  | nil : TabOk P w K mg base k []
  | cons {x : Str} {st : Stmt} {ps : List Str} {j : Nat} {F : FA} {r : FTab} (h : Kn P w K mg base x st ps j F) (hj : j ≤ k) (t : TabOk P w K mg base k r) : TabOk P w K mg base k ((x, F) :: r)
theorem TabOk.at_ {P : Program} {w : World} {K : PySem.W.Frag} {mg : Str → Option Value} {base : Heap} {k : Nat} {tab : FTab} (h : TabOk P w K mg base k tab) {x : Str} {F : FA} (e : tab.lookup x = some F) : ∃ st ps j, j ≤ k ∧ Kn P w K mg base x st ps j F := by
  induction h with
  | nil => cases e
  | @cons y st ps j G r h hj t ih =>
    rw [List.lookup] at e
    split at e
    · rename_i ey
      cases e
      have : x = y := by simpa using ey
      subst this
      exact ⟨st, ps, j, hj, h⟩
    · exact ih e
end
end G
namespace G
open PySem PySem.Spec PyProof.Rows L2
inductive SR (i : Nat) (x y : D) : S → S → Prop
  | nx (env : Env) (st : Sto) : SR i x y (.nx (env.set i (some x)) st) (.nx (env.set i (some y)) st)
  | ret (d : D) (st : Sto) : SR i x y (.ret d st) (.ret d st)
  | exc (e e' : Ex) (env env' : Env) (st st' : Sto) : SR i x y (.exc e env st) (.exc e' env' st')
  | fail : SR i x y .fail .fail
def IS (i : Nat) (B : SvX) : Prop := ∀ (a : Addr) (c : Value) (od : Option Addr) (cl g : Str) (d : D) (env : Env) (st : Sto),
  SR i (.exv a c od cl g d) (.exv 0 .none none cl g d) (B a c od (env.set i (some (.exv a c od cl g d))) st) (B 0 .none none (env.set i (some (.exv 0 .none none cl g d))) st)
theorem IS.ok {i : Nat} {B : SvX} (h : IS i B) : IndX (some i) B := by
  intro a c od cl g d env st
  have q := h a c od cl g d env st
  revert q
  generalize B a c od (env.set i (some (.exv a c od cl g d))) st = s
  generalize B 0 .none none (env.set i (some (.exv 0 .none none cl g d))) st = s'
  intro q
  cases q with
  | nx env st => show S.nx _ _ = S.nx _ _; rw [List.set_set, List.set_set]
  | ret d st => rfl
  | exc e e' env env' st st' => rfl
  | fail => rfl
end G
namespace G
open PySem PySem.Spec PyProof.Rows L2
@[simp] theorem bindS_exc {α : Type} (e : Ex) (st : Sto) (env : Env) (k : α → Sto → S) : bindS (.exc e st : R α) env k = .exc e env st := rfl
@[simp] theorem bindS_fail {α : Type} (env : Env) (k : α → Sto → S) : bindS (.fail : R α) env k = .fail := rfl
@[simp] theorem thenS_exc (e : Ex) (env : Env) (st : Sto) (g : SvS) : thenS (.exc e env st) g = .exc e env st := rfl
@[simp] theorem turnS_exc (e : Ex) (env : Env) (st : Sto) (g : SvS) : turnS (.exc e env st) g = .exc e env st := rfl
@[simp] theorem raiseS_eq (cl f : Str) (fa : EvE) (env : Env) (st : Sto) : raiseS cl f fa env st = bindS (fa env st) env fun d st1 => .exc ⟨cl, f, d⟩ env st1 := rfl
end G
namespace G
open PySem PySem.Spec PyProof.Rows L2
def popAtF : FM := fun d as st => match d, as with
  | .mut n, [.int i] => (match st[n]? with
    | some (.lst xs) => if 0 ≤ i ∧ i < xs.length ∧ xs.length ≤ 16777216 then .ok (xs.getD i.toNat .non) (st.set n (.lst (xs.eraseIdx i.toNat))) else .fail
    | _ => .fail)
  | _, _ => .fail
theorem RepL.eraseIdx {K : PySem.W.Frag} {M : Mem} {H : Hp} : ∀ {ds : List D} {vs : List V} (n : Nat), RepL K M H ds vs → RepL K M H (ds.eraseIdx n) (vs.eraseIdx n)
  | [], _, n, h => by unfold RepL at h; subst h; simp; exact .nil
  | x :: ds, _, 0, h => by
    unfold RepL at h
    obtain ⟨v, r, rfl, h1, h2⟩ := h
    simpa using h2
  | x :: ds, _, n + 1, h => by
    unfold RepL at h
    obtain ⟨v, r, rfl, h1, h2⟩ := h
    simpa using RepL.cons h1 (RepL.eraseIdx n h2)
def isi2D (c1 c2 : Tag) : F1 := fun a st => match tagOf a st with
  | some t => .ok (.bl (isiB t c1 || isiB t c2)) st
  | none => .fail
section
variable {st : Sto}
@[simp] theorem isi2D_int (c e : Tag) (i : Int) : isi2D c e (.int i) st = .ok (.bl (isiB .int c || isiB .int e)) st := rfl
@[simp] theorem isi2D_bl (c e : Tag) (i : Bool) : isi2D c e (.bl i) st = .ok (.bl (isiB .bl c || isiB .bl e)) st := rfl
@[simp] theorem isi2D_str (c e : Tag) (i : Str) : isi2D c e (.str i) st = .ok (.bl (isiB .str c || isiB .str e)) st := rfl
@[simp] theorem isi2D_non (c e : Tag) : isi2D c e .non st = .ok (.bl (isiB .non c || isiB .non e)) st := rfl
@[simp] theorem isi2D_tup (c e : Tag) (xs : List D) : isi2D c e (.tup xs) st = .ok (.bl (isiB .tup c || isiB .tup e)) st := rfl
@[simp] theorem isi2D_lst (c e : Tag) (xs : List D) : isi2D c e (.lst xs) st = .ok (.bl (isiB .lst c || isiB .lst e)) st := rfl
end
def srtMF : FA := fun as st => match as with
  | [.tup _] => .fail
  | [a] => (match (seqOf a st).bind pairsOf with
    | some ps => .ok (.mut st.length) (st ++ [.lst ((srtP ps).map pairD)])
    | none => .fail)
  | _ => .fail
def keysD (ks : List (List L2.Key)) : List D := ks.map fun k => .tup (k.map kD)
def listDF : FA := fun as st => match as with
  | [.mut n] => (match st[n]? with
    | some (.de kvs) => .ok (.lst (keysD (kvs.map (·.1)))) st
    | _ => .fail)
  | _ => .fail
def lenDF : FA := fun as st => match as with
  | [.mut n] => (match st[n]? with
    | some (.de kvs) => if kvs.length ≤ 16777216 then .ok (.int kvs.length) st else .fail
    | _ => .fail)
  | _ => .fail
end G
namespace G
open PySem PySem.Spec PyProof.Rows L2
section
variable {X : Cx} {W : WX} {fa fk fv : EvE} {t : Tg} {tt : EvB} {vs : List Nat} {i : Nat} {s : Stmt}
def putL (d k v : D) (st : Sto) : Option Sto := match d with
  | .mut n => (match st[n]? with
    | some (.dd kvs) => (match keyOf k with
      | some k => if kvs.length < 16777216 then some (st.set n (.dd (vPut kvs k v))) else none
      | none => none)
    | _ => none)
  | _ => none
end
end G
namespace DcT
open PySem PySem.Spec PyProof.Rows
abbrev dc2 (kx vx t0 i0 t1 i1 : Expr) (ifs0 ifs1 : List Expr) (scope : Scope) (pos : Pos) : Expr := .DictComp kx vx [⟨t0, i0, ifs0, 0⟩, ⟨t1, i1, ifs1, 0⟩] scope pos
end DcT
namespace G
open PySem PySem.Spec PyProof.Rows L2
section
variable {K : PySem.W.Frag} {M : Mem} {H : Hp}
mutual
theorem nk_rep : ∀ {d : D} {k : NestedKey} {v : V}, nkOf d = some k → Rep K M H d v → KeyV H k v ∧ noTx k = true
  | .non, k, v, h, r => by
    unfold nkOf at h
    cases h
    unfold Rep at r
    exact ⟨by unfold KeyV; exact r, rfl⟩
  | .int i, k, v, h, r => by
    unfold nkOf at h
    cases h
    unfold Rep at r
    exact ⟨by unfold KeyV; exact r, rfl⟩
  | .tup ds, k, v, h, r => by
    unfold nkOf at h
    obtain ⟨ks, e, rfl⟩ := Option.map_eq_some_iff.mp h
    unfold Rep at r
    obtain ⟨a, vs, rfl, f, q⟩ := r
    obtain ⟨h1, h2⟩ := nks_rep e q
    exact ⟨by unfold KeyV; exact ⟨a, vs, rfl, f.1, h1⟩, by unfold noTx; exact h2⟩
  | .bl _, k, v, h, r => by unfold nkOf at h; cases h
  | .str _, k, v, h, r => by unfold nkOf at h; cases h
  | .raw _, k, v, h, r => by unfold nkOf at h; cases h
  | .dic, k, v, h, r => by unfold nkOf at h; cases h
  | .lst _, k, v, h, r => by unfold nkOf at h; cases h
  | .slo _, k, v, h, r => by unfold nkOf at h; cases h
  | .mut _, k, v, h, r => by unfold nkOf at h; cases h
  | .emp, k, v, h, r => by unfold nkOf at h; cases h
  | .rg _ _, k, v, h, r => by unfold nkOf at h; cases h
  | .fn _, k, v, h, r => by unfold nkOf at h; cases h
  | .exv _ _ _ _ _ _, k, v, h, r => by unfold nkOf at h; cases h
theorem nks_rep : ∀ {ds : List D} {ks : List NestedKey} {vs : List V}, nksOf ds = some ks → RepL K M H ds vs → KeyVs H ks vs ∧ noTxs ks = true
  | [], ks, vs, h, r => by
    unfold nksOf at h
    cases h
    unfold RepL at r
    exact ⟨by unfold KeyVs; exact r, rfl⟩
  | d :: ds, ks, vs, h, r => by
    unfold nksOf at h
    split at h
    · rename_i k ks' e1 e2
      cases h
      unfold RepL at r
      obtain ⟨v, r', rfl, h1, h2⟩ := r
      obtain ⟨a1, a2⟩ := nk_rep e1 h1
      obtain ⟨b1, b2⟩ := nks_rep e2 h2
      exact ⟨by unfold KeyVs; exact ⟨v, r', rfl, a1, b1⟩, by unfold noTxs; rw [a2, b2]; rfl⟩
    · cases h
end
theorem nkO_of {d : D} {k : NestedKey} (h : nkO d = some k) : nkOf d = some k ∧ k.depth ≤ 8 := by
  unfold nkO at h
  split at h
  · rename_i k' e
    split at h
    · rename_i hd
      cases h
      exact ⟨e, hd⟩
    · cases h
  · cases h
theorem nkO_at {d : D} {k : NestedKey} {b : Addr} (h : nkO d = some k) (r : Rep K M H d (.ref b)) : KeyAt H k b := by
  obtain ⟨h1, h2⟩ := nkO_of h
  obtain ⟨a, c⟩ := nk_rep h1 r
  exact ⟨a, h2, c⟩
theorem nkO_ref {d : D} {k : NestedKey} {v : V} (h : nkO d = some k) (r : Rep K M H d v) (ht : ∃ ds, d = .tup ds) : ∃ b, v = .ref b := by
  obtain ⟨ds, rfl⟩ := ht
  unfold Rep at r
  obtain ⟨a, vs, rfl, f, q⟩ := r
  exact ⟨a, rfl⟩
theorem NdR.nil : NdR K M H [] [] := ⟨rfl, .nil, .nil⟩
theorem NdR.cons {p : D × D} {q : NestedKey × Addr × V} {kvs : List (D × D)} {ws : NW} (h1 : nkO p.1 = some q.1) (h2 : Rep K M H p.1 (.ref q.2.1)) (h3 : Rep K M H p.2 q.2.2) (r : NdR K M H kvs ws) : NdR K M H (p :: kvs) (q :: ws) :=
  ⟨by simp only [List.map_cons]; rw [h1, r.1], .cons h2 r.2.1, .cons h3 r.2.2⟩
theorem NdR.inv {kvs : List (D × D)} {p : D × D} {ws : NW} (r : NdR K M H (p :: kvs) ws) : ∃ q ws', ws = q :: ws' ∧ nkO p.1 = some q.1 ∧ Rep K M H p.1 (.ref q.2.1) ∧ Rep K M H p.2 q.2.2 ∧ NdR K M H kvs ws' := by
  obtain ⟨a, b, c⟩ := r
  cases ws with
  | nil => simp at a
  | cons q ws =>
    simp only [List.map_cons, List.cons.injEq] at a b c
    have b := b
    have c := c
    unfold RepL at b c
    obtain ⟨v, r1, e1, h1, h2⟩ := b
    obtain ⟨v', r2, e2, h3, h4⟩ := c
    injection e1 with e1 e1'
    injection e2 with e2 e2'
    subst e1 e1' e2 e2'
    exact ⟨q, ws, rfl, a.1.symm, h1, h3, a.2, h2, h4⟩
theorem NdR.nil_inv {ws : NW} (r : NdR K M H [] ws) : ws = [] := by
  have := r.1
  simp at this
  exact this
theorem NdR.len : ∀ {kvs : List (D × D)} {ws : NW}, NdR K M H kvs ws → ws.length = kvs.length
  | [], ws, r => by rw [r.nil_inv]; rfl
  | p :: kvs, ws, r => by
    obtain ⟨q, ws', rfl, _, _, _, r⟩ := r.inv
    simp [r.len]
theorem NdR.keys : ∀ {kvs : List (D × D)} {ws : NW}, NdR K M H kvs ws → KeysAt H ws
  | [], ws, r => by rw [r.nil_inv]; exact fun x hx => nomatch hx
  | p :: kvs, ws, r => by
    obtain ⟨q, ws', rfl, h1, h2, _, r⟩ := r.inv
    intro x hx
    rcases List.mem_cons.mp hx with rfl | hx
    · exact nkO_at h1 h2
    · exact r.keys x hx
def hasN (kvs : List (D × D)) (k : NestedKey) : Bool := kvs.any fun p => decide (nkO p.1 = some k)
def nPut (kvs : List (D × D)) (k : NestedKey) (kd v : D) : List (D × D) := if hasN kvs k then kvs.map fun p => if nkO p.1 = some k then (p.1, v) else p else kvs ++ [(kd, v)]
theorem NdR.has (k : NestedKey) : ∀ {kvs : List (D × D)} {ws : NW}, NdR K M H kvs ws → (valN ws k).isSome = hasN kvs k
  | [], ws, r => by rw [r.nil_inv]; rfl
  | p :: kvs, ws, r => by
    obtain ⟨q, ws', rfl, h1, _, _, r⟩ := r.inv
    have ih := r.has k
    unfold hasN valN at *
    rw [List.any_cons, h1]
    by_cases e : q.1 = k
    · simp [List.find?_cons, e]
    · have : ¬ (some q.1 = some k) := fun z => e (Option.some.inj z)
      rw [decide_eq_false this, Bool.false_or, ← ih]
      simp [List.find?_cons, e]
theorem NdR.repl (k : NestedKey) {v : D} {vv : V} (rv : Rep K M H v vv) : ∀ {kvs : List (D × D)} {ws : NW}, NdR K M H kvs ws → NdR K M H (kvs.map fun p => if nkO p.1 = some k then (p.1, v) else p) (ws.map fun x => if x.1 = k then (x.1, x.2.1, vv) else x)
  | [], ws, r => by rw [r.nil_inv]; exact .nil
  | p :: kvs, ws, r => by
    obtain ⟨q, ws', rfl, h1, h2, h3, r⟩ := r.inv
    rw [List.map_cons, List.map_cons]
    by_cases e : q.1 = k
    · rw [if_pos (by rw [h1, e]), if_pos e]
      exact .cons h1 h2 rv (NdR.repl k rv r)
    · rw [if_neg (by rw [h1]; exact fun z => e (Option.some.inj z)), if_neg e]
      exact .cons h1 h2 h3 (NdR.repl k rv r)
theorem NdR.snoc {kd v : D} {k : NestedKey} {b : Addr} {vv : V} (hk : nkO kd = some k) (rk : Rep K M H kd (.ref b)) (rv : Rep K M H v vv) : ∀ {kvs : List (D × D)} {ws : NW}, NdR K M H kvs ws → NdR K M H (kvs ++ [(kd, v)]) (ws ++ [(k, b, vv)])
  | [], ws, r => by rw [r.nil_inv]; exact .cons hk rk rv .nil
  | p :: kvs, ws, r => by
    obtain ⟨q, ws', rfl, h1, h2, h3, r⟩ := r.inv
    exact .cons h1 h2 h3 (NdR.snoc hk rk rv r)
theorem NdR.put {kd v : D} {k : NestedKey} {b : Addr} {vv : V} (hk : nkO kd = some k) (rk : Rep K M H kd (.ref b)) (rv : Rep K M H v vv) {kvs : List (D × D)} {ws : NW} (r : NdR K M H kvs ws) : NdR K M H (nPut kvs k kd v) (putN ws k b vv) := by
  unfold nPut putN
  rw [r.has k]
  split
  · exact r.repl k rv
  · exact r.snoc hk rk rv
theorem NdR.get : ∀ {kvs : List (D × D)} {ws : NW} {i : Nat} {p : D × D}, NdR K M H kvs ws → kvs[i]? = some p → ∃ q, ws[i]? = some q ∧ Rep K M H p.1 (.ref q.2.1)
  | [], ws, i, p, r, h => by simp at h
  | p' :: kvs, ws, 0, p, r, h => by
    obtain ⟨q, ws', rfl, h1, h2, h3, r⟩ := r.inv
    simp at h
    subst h
    exact ⟨q, rfl, h2⟩
  | p' :: kvs, ws, i + 1, p, r, h => by
    obtain ⟨q, ws', rfl, h1, h2, h3, r⟩ := r.inv
    have h : kvs[i]? = some p := by simpa using h
    obtain ⟨q', e, rk⟩ := r.get h
    exact ⟨q', by simpa using e, rk⟩
end
def newNE : EvE := fun _ st => .ok (.mut st.length) (st ++ [.dn []])
def isTupD : D → Bool
  | .tup _ => true
  | _ => false
def putND (d k v : D) (st : Sto) : Option Sto := match d with
  | .mut n => (match st[n]? with
    | some (.dn kvs) => (match nkO k with
      | some k' => if kvs.length < 16777216 ∧ isTupD k = true then some (st.set n (.dn (nPut kvs k' k v))) else none
      | none => none)
    | _ => none)
  | _ => none
def putNS (fv fd fk : EvE) : SvS := fun env st => bindS (fv env st) env fun v st1 => bindS (fd env st1) env fun d st2 => bindS (fk env st2) env fun k st3 => match putND d k v st3 with
  | some st4 => .nx env st4
  | none => .fail
def hasND (d k : D) (st : Sto) : Option Bool := match d with
  | .mut n => (match st[n]? with
    | some (.dn kvs) => if isTupD k = true then (nkO k).map (hasN kvs) else none
    | some (.gn kvs) => if isTupD k = true then (nkO k).map (hasN kvs) else none
    | _ => none)
  | _ => none
def inNF : F2 := fun k d st => match hasND d k st with
  | some o => .ok (.bl o) st
  | none => .fail
section
variable {X : Cx} {W : WX} {pos : Pos} {fk fv fd fa : EvE} {ke ve : Expr}
theorem room9 {k : Nat} {A : Around} (r : RoomG k A) : A.units + 9 < cLine := by have := r.un; omega
theorem isTup_of {d : D} (h : isTupD d = true) : ∃ ds, d = .tup ds := by
  cases d with
  | tup ds => exact ⟨ds, rfl⟩
  | _ => cases h
theorem g_newN : PE X (.Dict [] [] pos) (rdE X.K W newNE) :=
  pe_dnewN.imp fun σ H Q ⟨env, M, st, eo, so, p⟩ => fun a ha => p (M.push a) _ (.ref a) (.push so ha) (so.push ha ⟨[], upd_same, NdR.nil⟩) (rep_mut so)
theorem s_putNS {s : Stmt} (h : PS X s (sDPutN (rdE X.K W fd) (rdE X.K W fk) (rdE X.K W fv))) : PS X s (rdS X.K W (putNS fv fd fk)) :=
  h.imp fun T σ H ⟨env, M, st, eo, so, p⟩ => ⟨env, M, st, eo, so, Post.imp (PostS.bind eo p) fun v H1 ⟨M1, st1, vd, g1, so1, rv, p1⟩ =>
    ⟨env, M1, st1, eo.grow g1, so1, Post.imp (PostS.bind (eo.grow g1) p1) fun x H2 ⟨M2, st2, dd, g2, so2, rd, p2⟩ =>
      ⟨env, M2, st2, (eo.grow g1).grow g2, so2, Post.imp (PostS.bind (rep := Rep X.K) ((eo.grow g1).grow g2) p2) fun y H3 ⟨M3, st3, kd, g3, so3, rk, p3⟩ => by
        split at p3
        · rename_i st4 e
          have rd := rd.grow g3
          have rv := rv.grow (g2.trans g3)
          unfold putND at e
          split at e
          · rename_i n
            unfold Rep at rd
            obtain ⟨a, rfl, am⟩ := rd
            split at e
            · rename_i kvs e1
              obtain ⟨ws, hd, rkv⟩ := so3.at_ _ a _ am e1
              split at e
              · rename_i k' e2
                split at e
                · rename_i hl
                  cases e
                  obtain ⟨b, rfl⟩ := nkO_ref e2 rk (isTup_of hl.2)
                  refine ⟨a, _, rfl, ⟨ws, k', b, hd, rkv.keys, rfl, nkO_at e2 rk, by rw [sizeLine_eq, rkv.len]; exact hl.1, rfl⟩, ?_⟩
                  have g4 : Grow M3 H3 M3 (upd H3 a (NdO a (putN ws k' b v))) := .put so3 am
                  exact p3 M3 _ σ g4 (so3.put am ⟨_, upd_same, (rkv.put e2 rk rv).grow g4⟩) (((eo.grow g1).grow g2).grow (g3.trans g4))
                · cases e
              · cases e
            · cases e
          · cases e
        · exact p3.elim⟩⟩⟩
theorem hasND_rep {K : PySem.W.Frag} {M : Mem} {H : Hp} {st : Sto} {d k : D} {o : Bool} {x y : V} (so : StOk K M H st) (h : hasND d k st = some o) (rd : Rep K M H d x) (rk : Rep K M H k y) :
    ∃ a r, x = .ref a ∧ DGetN H a y r ∧ r.isSome = o := by
  unfold hasND at h
  split at h
  · rename_i n
    unfold Rep at rd
    obtain ⟨a, rfl, am⟩ := rd
    split at h
    · rename_i kvs e1
      obtain ⟨ws, hd, rkv⟩ := so.at_ _ a _ am e1
      split at h
      · rename_i ht
        obtain ⟨k', e2, rfl⟩ := Option.map_eq_some_iff.mp h
        obtain ⟨b, rfl⟩ := nkO_ref e2 rk (isTup_of ht)
        exact ⟨a, _, rfl, ⟨ws, k', b, .inl hd, rkv.keys, rfl, nkO_at e2 rk, rfl⟩, rkv.has k'⟩
      · cases h
    · rename_i kvs e1
      obtain ⟨o, ws, _, hd, _, rkv⟩ := so.at_ _ a _ am e1
      split at h
      · rename_i ht
        obtain ⟨k', e2, rfl⟩ := Option.map_eq_some_iff.mp h
        obtain ⟨b, rfl⟩ := nkO_ref e2 rk (isTup_of ht)
        exact ⟨a, _, rfl, ⟨ws, k', b, .inr ⟨o, hd⟩, rkv.keys, rfl, nkO_at e2 rk, rfl⟩, rkv.has k'⟩
      · cases h
    · cases h
  · cases h
theorem rd_inNF : ∀ σ H Q, rdE X.K W (binE inNF fk fd) σ H Q → tDInN (rdE X.K W fk) (rdE X.K W fd) σ H Q :=
  fun σ H Q ⟨env, M, st, eo, so, p⟩ => ⟨env, M, st, eo, so, Post.imp (Post.bind p) fun x H1 ⟨M1, st1, k, g1, so1, rk, p1⟩ =>
    ⟨env, M1, st1, eo.grow g1, so1, Post.imp (Post.bind (rep := Rep X.K) p1) fun y H2 ⟨M2, st2, d, g2, so2, rd, p2⟩ => by
      unfold inNF at p2
      split at p2
      · rename_i o e
        obtain ⟨a, r, h1, h2, h3⟩ := hasND_rep so2 e rd (rk.grow g2)
        exact ⟨a, r, h1, h2, p2 M2 H2 _ .refl so2 (by rw [h3]; exact rep_bl _ _ _)⟩
      · exact p2.elim⟩⟩
theorem g_inNF {e : Expr} (h : PE X e (tDInN (rdE X.K W fk) (rdE X.K W fd))) : PE X e (rdE X.K W (binE inNF fk fd)) := h.imp rd_inNF
end
def nNxt (n : Nat) : Nat → Sto → Option (Option D) := fun i st => match st[n]? with
  | some (.gn kvs) => some ((kvs[i]?).map (·.1))
  | _ => none
def finN (n : Nat) (xs : List D) (st : Sto) : R D := match st[n]? with
  | some (.gn ks) => .ok (.lst xs) (st.set n (.dn ks))
  | _ => .fail
def lcNE (fa : EvE) (t : Tg) (tt : EvB) (fe : EvE) (vs : List Nat) : EvE := fun env st => (fa env st).bind fun d st1 => match d with
  | .mut n => (match st1[n]?, walkedAt st n with
    | some (.dn kvs), false => (lcG t tt fe (wipeE env vs) (nNxt n) kvs.length 0 (st1.set n (.gn kvs)) []).bind (finN n)
    | _, _ => .fail)
  | _ => .fail
section
variable {X : Cx} {W : WX} {fa fe fk fv : EvE} {t : Tg} {tt : EvB} {K : PySem.W.Frag}
theorem keyN_rep {M : Mem} {H : Hp} {a : Addr} {n k : Nat} {od : Obj} {ws : NW} (oe : OEnt od ws) (m : M.m[n]? = some a) (hf : M.f a = some (od, NdO a ws)) : ItRep K M H (.gen (nNxt n) k) (Itn a od ws) := fun i M' H' st' g so => by
  have m' := g.pre n a m
  have f' : M'.f a = some (od, NdO a ws) := by rw [g.ff]; exact hf
  unfold nNxt
  cases e : st'[n]? with
  | none => exact ⟨(by simp), fun d h => by simp at h⟩
  | some mo =>
    cases mo with
    | dk _ => exact ⟨(by simp), fun d h => by simp at h⟩
    | dt _ => exact ⟨(by simp), fun d h => by simp at h⟩
    | dd _ => exact ⟨(by simp), fun d h => by simp at h⟩
    | de _ => exact ⟨(by simp), fun d h => by simp at h⟩
    | fk _ => exact ⟨(by simp), fun d h => by simp at h⟩
    | fd _ => exact ⟨(by simp), fun d h => by simp at h⟩
    | fe _ => exact ⟨(by simp), fun d h => by simp at h⟩
    | dn _ => exact ⟨(by simp), fun d h => by simp at h⟩
    | lst _ => exact ⟨(by simp), fun d h => by simp at h⟩
    | gn ks =>
      obtain ⟨o, ws', h1, h2, oe', rkv⟩ := so.at_ n a _ m' e
      rw [f'] at h1
      injection h1 with h1
      injection h1 with h1 h3
      subst h1
      rw [← h3] at h2
      obtain ⟨es, ep, d1, sz, en⟩ := oe
      obtain ⟨es', ep', d1', sz', en'⟩ := oe'
      obtain ⟨rfl, rfl⟩ := dict_ep d1 d1'
      refine ⟨fun h => ⟨h2, ?_⟩, fun d h => ?_⟩
      · have h : ks[i]? = none := by simpa using h
        have := List.getElem?_eq_none_iff.mp h
        rw [← sz, sz', rkv.len]; exact this
      · obtain ⟨p, e2, rfl⟩ : ∃ p, ks[i]? = some p ∧ p.1 = d := by
          have h : (ks[i]?).map (·.1) = some d := by simpa using h
          obtain ⟨p, e2, e3⟩ := Option.map_eq_some_iff.mp h
          exact ⟨p, e2, e3⟩
        obtain ⟨q', e3, rk⟩ := rkv.get e2
        have hi : i < ws.length := by
          have := (List.getElem?_eq_some_iff.mp e2).1
          rw [← sz, sz', rkv.len]; exact this
        refine ⟨⟨h2, hi⟩, fun x H'' ⟨eH, q, e4, ex⟩ => ?_⟩
        subst eH ex
        refine ⟨.refl, so, ?_⟩
        obtain ⟨n1, a1, a2⟩ := en i q e4
        obtain ⟨n2, b1, b2⟩ := en' i q' e3
        rw [a1] at b1
        cases b1
        rw [a2] at b2
        injection b2 with b2
        rw [b2]; exact rk
theorem unlockN_main {M : Mem} {H : Hp} {n : Nat} {d : Addr} {od : Obj} {ws : NW} (dm : M.m[n]? = some d) (np : d ∉ M.p) {M' : Mem} {H' : Hp} {st : Sto} {ks : List (D × D)} (e : st[n]? = some (.gn ks))
    (g : Grow ⟨M.m, M.p, fun a => if a = d then some (od, NdO d ws) else M.f a⟩ (upd H d (.frz od (NdO d ws))) M' H') (so : StOk K M' H' st) :
      H' d = some (.frz od (NdO d ws)) ∧ Grow M H ⟨M'.m, M'.p, M.f⟩ (upd H' d (NdO d ws)) ∧ StOk K ⟨M'.m, M'.p, M.f⟩ (upd H' d (NdO d ws)) (st.set n (.dn ks)) ∧ Grow M' H' M' (upd H' d (NdO d ws)) := by
  have dm' : M'.m[n]? = some d := g.pre n d dm
  obtain ⟨o, ws', h1, h2, oe, rkv⟩ := so.at_ n d _ dm' e
  have hf : M'.f = fun a => if a = d then some (od, NdO d ws) else M.f a := g.ff
  rw [hf] at h1
  simp only [if_true] at h1
  injection h1 with h1
  injection h1 with h1 h3
  subst h1
  rw [← h3] at h2
  have gp : Grow M' H' M' (upd H' d (NdO d ws)) := .put so dm'
  have dn : ∀ a, M.no a → a ≠ d := fun a h z => h.1 (by rw [z]; exact List.mem_of_getElem? dm)
  refine ⟨h2, ⟨g.pre, fun a o' ha hn => ?_, g.pp, fun a ha => ?_, rfl⟩, ?_, gp⟩
  · have ne := dn a hn
    have q := g.keep a o' (by rw [upd_ne ne]; exact ha) hn
    exact ⟨by rw [upd_ne ne]; exact q.1, q.2⟩
  · have ne : a ≠ d := fun z => np (by rw [← z]; exact ha)
    have q := g.prot a ha
    rw [upd_ne ne] at q
    rw [upd_ne ne]
    exact q
  · have so2 : StOk K M' (upd H' d (NdO d ws)) (st.set n (.dn ks)) := so.put dm' ⟨ws', by rw [upd_same, h3], rkv.grow gp⟩
    refine so2.ff fun k a kk e1 e2 hw => ?_
    by_cases ha : a = d
    · subst ha
      have := so.uniq dm' e1
      subst this
      have hn : n < st.length := (List.getElem?_eq_some_iff.mp e).1
      rw [List.getElem?_set_self hn] at e2
      cases e2
      cases hw
    · rw [hf]
      simp [ha]
theorem rd_lcN {vs : List Nat} (hv : ∀ i ∈ Tg.names t, i ∈ vs) : ∀ σ H Q, rdE K W (lcNE fa t tt fe vs) σ H Q → tUnlE (tLc (iKeysNL (rdE K W fa)) (Tg.raw K t) (rdB K W0 tt) (rdE K W0 fe) vs) σ H Q := fun σ H Q ⟨env, M, st, eo, so, p⟩ => by
  refine ⟨env, M, st, eo, so, Post.imp (Post.bind (rep := Rep K) p) fun x H1 ⟨M1, st1, dd, g1, so1, rd, p1⟩ => ?_⟩
  split at p1
  · rename_i n
    split at p1
    · rename_i kvs e ew
      unfold Rep at rd
      obtain ⟨d, rfl, dm⟩ := rd
      obtain ⟨ws, hd, rkv⟩ := so1.at_ n d _ dm e
      refine ⟨d, ws, rfl, hd, fun od oe => ?_⟩
      have np : d ∉ M1.p := fun z => (so1.pd d z).1 (List.mem_of_getElem? dm)
      have nf : NotFrz H d := notfrz_at so so1 g1 dm hd (fun o u => by intro z; have z : some (HO.ext _) = some (HO.frz _ _) := congrArg some z; cases z) ew
      have gp : Grow M1 H1 M1 (upd H1 d (.frz od (NdO d ws))) := .put so1 dm
      have eo0 : EnvOk K ⟨M1.m, M1.p, fun a => if a = d then some (od, NdO d ws) else M1.f a⟩ (upd H1 d (.frz od (NdO d ws))) env σ := ((eo.grow g1).grow gp).ff
      have so0 : StOk K ⟨M1.m, M1.p, fun a => if a = d then some (od, NdO d ws) else M1.f a⟩ (upd H1 d (.frz od (NdO d ws))) (st1.set n (.gn kvs)) := lock_st so1 dm e gp (fun n' a mo h1 h2 h3 => by simp [h3]) ⟨od, ws, by simp, upd_same, oe, (rkv.grow gp).1, (rkv.grow gp).2.1.ff, (rkv.grow gp).2.2.ff⟩
      have ri : ItRep K ⟨M1.m, M1.p, fun a => if a = d then some (od, NdO d ws) else M1.f a⟩ (upd H1 d (.frz od (NdO d ws))) (.gen (nNxt n) kvs.length) (Itn d od ws) := keyN_rep oe dm (by simp)
      intro L hL
      generalize hM2 : (⟨M1.m, M1.p, fun a => if a = d then some (od, NdO d ws) else M1.f a⟩ : Mem) = M2 at *
      generalize hH2 : upd H1 d (.frz od (NdO d ws)) = H2 at *
      generalize st1.set n (.gn kvs) = st2 at *
      obtain ⟨so2, k2⟩ := so0.hold (vs := []) hL
      have m0 : Mid K M2 H2 L (M2.hold L) (upd H2 L (.lst [])) st2 [] := ⟨k2, rfl, fun a ha => by
        obtain ⟨_, o, e⟩ := so0.pd a ha
        rw [upd_ne (ne_of_none e hL)], hL, fun a ha => (let ⟨o, e⟩ := (so0.pd a ha).2; ⟨_, e⟩), so2, [], upd_same, .nil⟩
      have eo1 : EnvOk K (M2.hold L) (upd H2 L (.lst [])) (wipeE env vs) (L2.wipe σ vs) := (eo0.kp k2).wipe vs
      have hfin : ∀ {M' : Mem} {H' : Hp} {st' : Sto} {acc : List D}, Mid K M2 H2 L M' H' st' acc → Post K (Rep K) M1 H1 Q (WE W σ) (finN n acc st') → ∃ d od u, H' d = some (.frz od u) ∧ NotFrz H d ∧ Q (.ref L) (upd H' d u) := by
        intro M' H' st' acc md q
        obtain ⟨f1, f2, f3, zs, f4, f5⟩ := md.fin
        unfold finN at q
        split at q
        · rename_i ks ek
          rw [← hM2, ← hH2] at f1
          rw [← hM2] at f2 f3 f5
          obtain ⟨h1, h2, h3, h4⟩ := unlockN_main dm np ek f1 f2
          refine ⟨d, od, NdO d ws, h1, nf, q _ _ (.ref L) h2 h3 ?_⟩
          have nL : L ≠ d := fun z => by rw [z, h1] at f4; cases f4
          unfold Rep
          exact ⟨L, zs, rfl, ⟨by rw [upd_ne nL]; exact f4, f3⟩, (f5.grow h4).ff⟩
        · exact q.elim
      refine ⟨fun i m H' => ∃ M' st' acc, Mid K M2 H2 L M' H' st' acc ∧ EnvOk K M' H' (wipeE env vs) (L2.wipe σ vs) ∧ Post K (Rep K) M1 H1 Q (WE W σ) ((lcG t tt fe (wipeE env vs) (nNxt n) m i st' acc).bind (finN n)),
        ⟨kvs.length, _, _, _, m0, eo1, p1⟩, ?_⟩
      rintro i m H' ⟨M', st', acc, md, eo', q⟩
      obtain ⟨r1, r2⟩ := ri i M' H' st' md.kp md.so
      cases m with
      | zero =>
        unfold lcG at q
        cases e : nNxt n i st' with
        | none => rw [e] at q; exact q.elim
        | some o =>
          cases o with
          | some x => rw [e] at q; exact q.elim
          | none => rw [e] at q; exact .inl ⟨r1 e, hfin md q⟩
      | succ m =>
        unfold lcG at q
        cases e : nNxt n i st' with
        | none => rw [e] at q; exact q.elim
        | some o =>
          cases o with
          | none => rw [e] at q; exact .inl ⟨r1 e, hfin md q⟩
          | some d =>
            rw [e] at q
            obtain ⟨r3, r4⟩ := r2 _ e
            refine .inr ⟨r3, _, fun H2 h => ⟨m, by omega, h⟩, fun x H2 hy => ?_⟩
            obtain ⟨g2, so2, rx⟩ := r4 x H2 hy
            exact turnC_rd (P := fun r => Post K (Rep K) M1 H1 Q (WE W σ) (r.bind (finN n))) (md.grow g2 so2) (eo'.grow g2) rx hv (fun z => z) q fun M3 H3 st3 acc3 k3 m3 p3 => ⟨M3, st3, acc3, m3, (eo'.grow g2).kp k3, p3⟩
    · exact p1.elim
  · exact p1.elim
theorem g_lcN {e : Expr} {vs : List Nat} (hv : ∀ i ∈ Tg.names t, i ∈ vs) (h : PE X e (tLc (iKeysNL (rdE X.K W fa)) (Tg.raw X.K t) (rdB X.K W0 tt) (rdE X.K W0 fe) vs)) : PE X e (rdE X.K W (lcNE fa t tt fe vs)) := (pe_unl h).imp (rd_lcN hv)
end
end G
namespace Lap
open PySem PySem.Spec PyProof.Rows L2 G
abbrev whileMost : Nat := 100000
def B_round_by : SvS := retS (callE sumF (consA (callE listF (consA (varE 0) (nilA))) (nilA)))
def F_round_by : FA := runF 1 1 B_round_by
def B_sectors_from : SvS := retS (lstE (starA (sliceE (varE 0) (someO (varE 1)) (noO)) (starA (sliceE (varE 0) (noO) (someO (varE 1))) (nilA))))
def F_sectors_from : FA := runF 2 2 B_sectors_from
def B_reach_by : SvS := seqS (asgS (callE divmodF (consA (varE 2) (consA (callE lenF (consA (varE 0) (nilA))) (nilA)))) (tupT 2 (consT (nameT 3) (consT (nameT 4) (nilT))))) (retS (binE addD (binE mulD (varE 3) (callE F_round_by (consA (varE 0) (nilA)))) (callE sumF (consA (sliceE (callE F_sectors_from (consA (varE 0) (consA (varE 1) (nilA)))) (noO) (someO (varE 4))) (nilA)))))
def F_reach_by : FA := runF 3 5 B_reach_by
def B_is_whole : SvS := retS (andE (unE (isiD .int) (varE 0)) (notE (unE (isiD .bl) (varE 0))))
def F_is_whole : FA := runF 1 1 B_is_whole
def B_is_between : SvS := retS (andE (callE F_is_whole (consA (varE 0) (nilA))) (chainE leD leD (varE 1) (varE 0) (varE 2)))
def F_is_between : FA := runF 3 3 B_is_between
def B_is_up_to : SvS := retS (callE F_is_between (consA (varE 0) (consA (cE (.int 0)) (consA (varE 1) (nilA)))))
def F_is_up_to : FA := runF 2 2 B_is_up_to
def B_is_from : SvS := retS (andE (callE F_is_whole (consA (varE 0) (nilA))) (binE geD (varE 0) (varE 1)))
def F_is_from : FA := runF 2 2 B_is_from
def B_is_tuple_up_to : SvS := retS (andE (unE (isiD .tup) (varE 0)) (chainE leD leD (varE 1) (callE lenF (consA (varE 0) (nilA))) (varE 2)))
def F_is_tuple_up_to : FA := runF 3 3 B_is_tuple_up_to
def B_is_track_of : SvS := retS (andE (callE F_is_tuple_up_to (consA (varE 0) (consA (cE (.int 1)) (consA (cE (.int 8)) (nilA))))) (callE allF (consA (lcE (iterE (varE 0)) (.nm 1) (yesB) (callE F_is_from (consA (varE 1) (consA (cE (.int 1)) (nilA)))) [1]) (nilA))))
def F_is_track_of : FA := runF 1 2 B_is_track_of
def B_is_mat_of : SvS := retS (callE F_is_up_to (consA (varE 1) (consA (binE subD (callE lenF (consA (varE 0) (nilA))) (cE (.int 1))) (nilA))))
def F_is_mat_of : FA := runF 2 2 B_is_mat_of
def B_check_track : SvS := ifS (notB (tstE (callE F_is_track_of (consA (varE 0) (nilA))))) (raiseS "InvalidTrack" "given" (varE 0)) (passS)
def F_check_track : FA := runF 1 1 B_check_track
def B__law_reach : SvS := seqS (asgS (callE lenF (consA (varE 0) (nilA))) (nameT 3)) (seqS (parS 4 5 (consA (binE fdivD (varE 2) (varE 3)) (consA (binE modD (callE intF (consA (varE 2) (nilA))) (varE 3)) (nilA)))) (retS (binE addD (binE mulD (varE 4) (callE sumF (consA (varE 0) (nilA)))) (callE sumF (consA (lcE (callI range1F (consA (varE 5) (nilA))) (.nm 6) (yesB) (binE ixD (varE 0) (binE modD (callE intF (consA (binE addD (varE 1) (varE 6)) (nilA))) (varE 3))) [6]) (nilA))))))
def F__law_reach : FA := runF 3 7 B__law_reach
def B__law_same (rec : FA) : SvS := seqS (ifS (tstE (binE isND (varE 1) (cE .non))) (retS (binE isND (varE 0) (cE .non))) (passS)) (seqS (ifS (tstE (unE (isiD .bl) (varE 1))) (retS (andE (unE (isiD .bl) (varE 0)) (binE eqD (varE 0) (varE 1)))) (passS)) (seqS (ifS (tstE (unE (isiD .int) (varE 1))) (retS (andE (unE (isiD .int) (varE 0)) (andE (notE (unE (isiD .bl) (varE 0))) (binE eqD (varE 0) (varE 1))))) (passS)) (seqS (ifS (tstE (unE (isiD .str) (varE 1))) (retS (andE (unE (isiD .str) (varE 0)) (binE eqD (varE 0) (varE 1)))) (passS)) (seqS (ifS (orB (notB (tstE (unE (isiD .tup) (varE 0)))) (tstE (binE neD (callE lenF (consA (varE 0) (nilA))) (callE lenF (consA (varE 1) (nilA)))))) (retS (cE (.bl false))) (passS)) (retS (callE allF (consA (lcE (callI zipF (consA (varE 0) (consA (varE 1) (nilA)))) (.tp [.nm 2, .nm 3]) (yesB) (callE rec (consA (varE 2) (consA (varE 3) (nilA)))) [2, 3]) (nilA))))))))
def R__law_same : Nat → FA
  | 0 => fun _ _ => .fail
  | k + 1 => runF 2 4 (B__law_same (R__law_same k))
def F__law_same : FA := R__law_same 20
def B_steps_by : SvS := retS (binE addD (binE modD (binE subD (binE subD (varE 2) (varE 1)) (cE (.int 1))) (callE lenF (consA (varE 0) (nilA)))) (cE (.int 1)))
def F_steps_by : FA := runF 3 3 B_steps_by
def B_way_by : SvS := retS (callE F_reach_by (consA (varE 0) (consA (varE 1) (consA (callE F_steps_by (consA (varE 0) (consA (varE 1) (consA (varE 2) (nilA))))) (nilA)))))
def F_way_by : FA := runF 3 3 B_way_by
def B_can_follow_by : SvS := retS (binE geD (binE subD (binE ixD (varE 1) (cE (.int 0))) (binE ixD (varE 2) (cE (.int 0)))) (callE F_way_by (consA (varE 0) (consA (binE ixD (varE 2) (cE (.int 1))) (consA (binE ixD (varE 1) (cE (.int 1))) (nilA))))))
def F_can_follow_by : FA := runF 3 3 B_can_follow_by
def B_wrong_marks_by : SvS := retS (lcE (callI range2F (consA (cE (.int 1)) (consA (callE lenF (consA (varE 1) (nilA))) (nilA)))) (.nm 2) (notB (tstE (callE F_can_follow_by (consA (varE 0) (consA (binE ixD (varE 1) (varE 2)) (consA (binE ixD (varE 1) (binE subD (varE 2) (cE (.int 1)))) (nilA))))))) (varE 2) [2])
def F_wrong_marks_by : FA := runF 2 3 B_wrong_marks_by
def B_is_row_by : SvS := retS (binE eqD (callE F_wrong_marks_by (consA (varE 0) (consA (varE 1) (nilA)))) (lstE (nilA)))
def F_is_row_by : FA := runF 2 2 B_is_row_by
def B_is_tuple_of : SvS := retS (callE F_is_tuple_up_to (consA (varE 0) (consA (varE 1) (consA (varE 1) (nilA)))))
def F_is_tuple_of : FA := runF 2 2 B_is_tuple_of
def B_is_pair : SvS := retS (callE F_is_tuple_of (consA (varE 0) (consA (cE (.int 2)) (nilA))))
def F_is_pair : FA := runF 1 1 B_is_pair
def B_is_mark_of : SvS := retS (andE (callE F_is_pair (consA (varE 1) (nilA))) (andE (callE F_is_from (consA (binE ixD (varE 1) (cE (.int 0))) (consA (cE (.int 0)) (nilA)))) (callE F_is_mat_of (consA (varE 0) (consA (binE ixD (varE 1) (cE (.int 1))) (nilA))))))
def F_is_mark_of : FA := runF 2 2 B_is_mark_of
def B_wrong_in_bag : SvS := seqS (ifS (notB (tstE (callE F_is_tuple_up_to (consA (varE 1) (consA (cE (.int 0)) (consA (cE (.int 30)) (nilA))))))) (retS (lstE (consA (cE .non) (nilA)))) (passS)) (seqS (forS (callI enumF (consA (varE 1) (nilA))) (tgT (.tp [.nm 2, .nm 3])) (ifS (orB (notB (tstE (callE F_is_mark_of (consA (varE 0) (consA (varE 3) (nilA)))))) (andB (tstE (binE gtD (varE 2) (cE (.int 0)))) (tstE (binE leD (varE 3) (binE ixD (varE 1) (binE subD (varE 2) (cE (.int 1)))))))) (retS (lstE (consA (varE 2) (nilA)))) (passS))) (retS (lstE (nilA))))
def F_wrong_in_bag : FA := runF 2 4 B_wrong_in_bag
def B_check_bag : SvS := forS (iterE (callE F_wrong_in_bag (consA (varE 0) (consA (varE 1) (nilA))))) (tgT (.nm 2)) (raiseS "InvalidBag" "index" (varE 2))
def F_check_bag : FA := runF 2 3 B_check_bag
def B_check_tracked : SvS := seqS (exprS (callE F_check_track (consA (varE 0) (nilA)))) (exprS (callE F_check_bag (consA (varE 0) (consA (varE 1) (nilA)))))
def F_check_tracked : FA := runF 2 2 B_check_tracked
def B_is_row : SvS := seqS (exprS (callE F_check_tracked (consA (varE 0) (consA (varE 1) (nilA))))) (retS (callE F_is_row_by (consA (varE 0) (consA (varE 1) (nilA)))))
def F_is_row : FA := runF 2 2 B_is_row
def B__law_steps_v2 : SvS := retS (binE addD (cE (.int 1)) (binE modD (callE intF (consA (binE subD (binE subD (varE 2) (varE 1)) (cE (.int 1))) (nilA))) (callE lenF (consA (varE 0) (nilA)))))
def F__law_steps_v2 : FA := runF 3 3 B__law_steps_v2
def B__law_way : SvS := retS (callE F__law_reach (consA (varE 0) (consA (varE 1) (consA (callE F__law_steps_v2 (consA (varE 0) (consA (varE 1) (consA (varE 2) (nilA))))) (nilA)))))
def F__law_way : FA := runF 3 3 B__law_way
def B__law_can_follow : SvS := retS (binE geD (binE subD (binE ixD (varE 1) (cE (.int 0))) (binE ixD (varE 2) (cE (.int 0)))) (callE F__law_way (consA (varE 0) (consA (binE ixD (varE 2) (cE (.int 1))) (consA (binE ixD (varE 1) (cE (.int 1))) (nilA))))))
def F__law_can_follow : FA := runF 3 3 B__law_can_follow
def B_check_marks : SvS := seqS (exprS (callE F_check_track (consA (varE 0) (nilA)))) (exprS (callE F_check_bag (consA (varE 0) (consA (varE 1) (nilA)))))
def F_check_marks : FA := runF 2 2 B_check_marks
def B_wrong_mark : SvS := seqS (exprS (callE F_check_tracked (consA (varE 0) (consA (varE 1) (nilA))))) (seqS (asgS (callE F_wrong_marks_by (consA (varE 0) (consA (varE 1) (nilA)))) (nameT 2)) (retS (ifE (tstE (binE neD (varE 2) (lstE (nilA)))) (binE ixD (varE 2) (cE (.int 0))) (cE .non))))
def F_wrong_mark : FA := runF 2 3 B_wrong_mark
def B_check_mark : SvS := ifS (notB (tstE (callE F_is_mark_of (consA (varE 0) (consA (varE 1) (nilA)))))) (raiseS "InvalidMark" "given" (varE 1)) (passS)
def F_check_mark : FA := runF 2 2 B_check_mark
def B_can_follow : SvS := seqS (exprS (callE F_check_track (consA (varE 0) (nilA)))) (seqS (exprS (callE F_check_mark (consA (varE 0) (consA (varE 1) (nilA))))) (seqS (exprS (callE F_check_mark (consA (varE 0) (consA (varE 2) (nilA))))) (retS (callE F_can_follow_by (consA (varE 0) (consA (varE 1) (consA (varE 2) (nilA))))))))
def F_can_follow : FA := runF 3 3 B_can_follow
def B_followers_of : SvS := seqS (asgS (listRgE (callE lenF (consA (varE 1) (nilA)))) (nameT 2)) (retS (lcE (iterE (varE 2)) (.nm 3) (yesB) (lcE (iterE (varE 2)) (.nm 4) (andB (tstE (binE gtD (varE 4) (varE 3))) (tstE (callE F_can_follow_by (consA (varE 0) (consA (binE ixD (varE 1) (varE 4)) (consA (binE ixD (varE 1) (varE 3)) (nilA))))))) (varE 4) [4]) [3]))
def F_followers_of : FA := runF 2 5 B_followers_of
def B_heights_of : SvS := seqS (asgS (binE repMD (lstE (consA (cE (.int 1)) (nilA))) (callE lenF (consA (varE 0) (nilA)))) (nameT 1)) (seqS (forS (callI enumF (consA (varE 0) (nilA))) (tgT (.tp [.nm 2, .nm 3])) (forS (iterE (varE 3)) (tgT (.nm 4)) (asgS (callE maxF (consA (binE ixD (varE 1) (varE 4)) (consA (binE addD (binE ixD (varE 1) (varE 2)) (cE (.int 1))) (nilA)))) (subT (varE 1) (varE 4))))) (retS (varE 1)))
def F_heights_of : FA := runF 1 5 B_heights_of
def B_longest_indexes : SvS := seqS (asgS (callE F_heights_of (consA (varE 0) (nilA))) (nameT 1)) (seqS (ifS (tstE (binE eqMD (varE 1) (lstE (nilA)))) (retS (lstE (nilA))) (passS)) (seqS (asgS (mutE (consA (methLE indexF (varE 1) (consA (callE maxF (consA (varE 1) (nilA))) (nilA))) (nilA))) (nameT 2)) (seqS (whileF (tstE (binE gtD (binE ixD (varE 1) (binE ixD (varE 2) (unE negD (cE (.int 1))))) (cE (.int 1)))) (seqS (asgS (binE subD (binE ixD (varE 1) (binE ixD (varE 2) (unE negD (cE (.int 1))))) (cE (.int 1))) (nameT 3)) (exprS (methLE appF (varE 2) (consA (binE ixD (lcE (callI enumF (consA (varE 1) (nilA))) (.tp [.nm 4, .nm 5]) (andB (tstE (binE eqD (varE 5) (varE 3))) (tstE (binE inD (binE ixD (varE 2) (unE negD (cE (.int 1)))) (binE ixD (varE 0) (varE 4))))) (varE 4) [4, 5]) (cE (.int 0))) (nilA))))) whileMost) (retS (revE (varE 2))))))
def F_longest_indexes : FA := runF 1 6 B_longest_indexes
def B_longest_row_by : SvS := retS (callE tupleF (consA (lcE (iterE (callE F_longest_indexes (consA (callE F_followers_of (consA (varE 0) (consA (varE 1) (nilA)))) (nilA)))) (.nm 2) (yesB) (binE ixD (varE 1) (varE 2)) [2]) (nilA)))
def F_longest_row_by : FA := runF 2 3 B_longest_row_by
def B_false_marks_by : SvS := seqS (asgS (callE F_longest_indexes (consA (callE F_followers_of (consA (varE 0) (consA (varE 1) (nilA)))) (nilA))) (nameT 2)) (retS (callE tupleF (consA (lcE (callI range1F (consA (callE lenF (consA (varE 1) (nilA))) (nilA))) (.nm 3) (tstE (binE notInD (varE 3) (varE 2))) (varE 3) [3]) (nilA))))
def F_false_marks_by : FA := runF 2 4 B_false_marks_by
def B_longest_row : SvS := seqS (exprS (callE F_check_marks (consA (varE 0) (consA (varE 1) (nilA))))) (retS (callE F_longest_row_by (consA (varE 0) (consA (varE 1) (nilA)))))
def F_longest_row : FA := runF 2 2 B_longest_row
def B_false_marks : SvS := seqS (exprS (callE F_check_marks (consA (varE 0) (consA (varE 1) (nilA))))) (retS (callE F_false_marks_by (consA (varE 0) (consA (varE 1) (nilA)))))
def F_false_marks : FA := runF 2 2 B_false_marks
def B__law_take : SvS := seqS (ifS (tstE (binE gtD (binE ixD (varE 0) (cE (.int 0))) (cE (.int 0)))) (seqS (asgS (callE divmodF (consA (binE ixD (varE 0) (cE (.int 0))) (consA (varE 1) (nilA)))) (tupT 2 (consT (subT (varE 0) (cE (.int 0))) (consT (nameT 2) (nilT))))) (retS (varE 2))) (passS)) (seqS (asgS (binE addD (binE ixD (varE 0) (cE (.int 2))) (cE (.int 1))) (subT (varE 0) (cE (.int 2)))) (seqS (asgS (binE modD (callE intF (consA (binE addD (binE addD (binE mulD (binE ixD (varE 0) (cE (.int 1))) (cE (.int 39373))) (binE mulD (binE ixD (varE 0) (cE (.int 2))) (cE (.int 30323)))) (cE (.int 11))) (nilA))) (cE (.int 2147483543))) (subT (varE 0) (cE (.int 1)))) (retS (binE modD (callE intF (consA (binE fdivD (binE ixD (varE 0) (cE (.int 1))) (cE (.int 128))) (nilA))) (varE 1)))))
def F__law_take : FA := runF 2 3 B__law_take
def B__law_of : SvS := retS (binE ixD (varE 1) (callE F__law_take (consA (varE 0) (consA (callE lenF (consA (varE 1) (nilA))) (nilA)))))
def F__law_of : FA := runF 2 2 B__law_of
def B__law_same_v2 (rec : FA) : SvS := seqS (ifS (orB (andB (tstE (unE (isiD .tup) (varE 1))) (notB (tstE (unE (isiD .tup) (varE 0))))) (andB (tstE (unE (isiD .lst) (varE 1))) (notB (tstE (unE (isiD .lst) (varE 0)))))) (retS (cE (.bl false))) (passS)) (seqS (ifS (tstE (unE (isi2D .tup .lst) (varE 1))) (retS (andE (binE eqD (callE lenF (consA (varE 0) (nilA))) (callE lenF (consA (varE 1) (nilA)))) (callE allF (consA (lcE (callI range1F (consA (callE lenF (consA (varE 1) (nilA))) (nilA))) (.nm 2) (yesB) (callE rec (consA (binE ixD (varE 0) (varE 2)) (consA (binE ixD (varE 1) (varE 2)) (nilA)))) [2]) (nilA))))) (passS)) (seqS (ifS (orB (tstE (binE isND (varE 1) (cE .non))) (tstE (binE isND (varE 0) (cE .non)))) (retS (andE (binE isND (varE 1) (cE .non)) (binE isND (varE 0) (cE .non)))) (passS)) (seqS (ifS (orB (tstE (unE (isiD .bl) (varE 1))) (tstE (unE (isiD .bl) (varE 0)))) (retS (andE (unE (isiD .bl) (varE 1)) (andE (unE (isiD .bl) (varE 0)) (binE eqD (varE 1) (varE 0))))) (passS)) (seqS (ifS (tstE (unE (isiD .int) (varE 1))) (retS (andE (unE (isiD .int) (varE 0)) (binE eqD (varE 0) (varE 1)))) (passS)) (seqS (ifS (tstE (unE (isiD .str) (varE 1))) (retS (andE (unE (isiD .str) (varE 0)) (binE eqD (varE 0) (varE 1)))) (passS)) (retS (andE (unE (isiD .dic) (varE 1)) (andE (unE (isiD .dic) (varE 0)) (andE (binE eqD (callE lenF (consA (varE 0) (nilA))) (callE lenF (consA (varE 1) (nilA)))) (binE eqD (varE 0) (varE 1)))))))))))
def R__law_same_v2 : Nat → FA
  | 0 => fun _ _ => .fail
  | k + 1 => runF 2 3 (B__law_same_v2 (R__law_same_v2 k))
def F__law_same_v2 : FA := R__law_same_v2 20
def B__law_track : SvS := seqS (asgS (callE F__law_of (consA (varE 0) (consA (tupE (consA (cE (.int 3)) (consA (cE (.int 9)) (consA (cE (.int 40)) (nilA))))) (nilA)))) (nameT 1)) (retS (callE tupleF (consA (lcE (callI range1F (consA (binE addD (cE (.int 1)) (callE F__law_take (consA (varE 0) (consA (callE F__law_of (consA (varE 0) (consA (tupE (consA (cE (.int 3)) (consA (cE (.int 4)) (consA (cE (.int 8)) (nilA))))) (nilA)))) (nilA))))) (nilA))) (.nm 2) (yesB) (binE addD (cE (.int 1)) (callE F__law_take (consA (varE 0) (consA (varE 1) (nilA))))) [2]) (nilA))))
def F__law_track : FA := runF 1 3 B__law_track
def B__law_reach_v3 : SvS := seqS (asgS (callE lenF (consA (varE 0) (nilA))) (nameT 3)) (seqS (asgS (binE mulD (binE fdivD (varE 2) (varE 3)) (callE sumF (consA (varE 0) (nilA)))) (nameT 4)) (seqS (forS (callI range1F (consA (binE modD (callE intF (consA (varE 2) (nilA))) (varE 3)) (nilA))) (tgT (.nm 5)) (asgS (binE addD (varE 4) (binE ixD (varE 0) (binE modD (callE intF (consA (binE addD (varE 1) (varE 5)) (nilA))) (varE 3)))) (nameT 4))) (retS (varE 4))))
def F__law_reach_v3 : FA := runF 3 6 B__law_reach_v3
def B__law_steps_v4 : SvS := seqS (asgS (callE lenF (consA (varE 0) (nilA))) (nameT 3)) (seqS (asgS (binE modD (callE intF (consA (binE subD (varE 2) (varE 1)) (nilA))) (varE 3)) (nameT 4)) (retS (ifE (tstE (binE gtD (varE 4) (cE (.int 0)))) (varE 4) (varE 3))))
def F__law_steps_v4 : FA := runF 3 5 B__law_steps_v4
def B__law_way_v3 : SvS := retS (callE F__law_reach_v3 (consA (varE 0) (consA (varE 1) (consA (callE F__law_steps_v4 (consA (varE 0) (consA (varE 1) (consA (varE 2) (nilA))))) (nilA)))))
def F__law_way_v3 : FA := runF 3 3 B__law_way_v3
def B__law_follows : SvS := retS (binE geD (binE subD (binE ixD (varE 1) (cE (.int 0))) (binE ixD (varE 2) (cE (.int 0)))) (callE F__law_way_v3 (consA (varE 0) (consA (binE ixD (varE 2) (cE (.int 1))) (consA (binE ixD (varE 1) (cE (.int 1))) (nilA))))))
def F__law_follows : FA := runF 3 3 B__law_follows
def B__law_is_row_v2 : SvS := retS (callE allF (consA (lcE (callI range2F (consA (cE (.int 1)) (consA (callE lenF (consA (varE 1) (nilA))) (nilA)))) (.nm 2) (yesB) (callE F__law_follows (consA (varE 0) (consA (binE ixD (varE 1) (varE 2)) (consA (binE ixD (varE 1) (binE subD (varE 2) (cE (.int 1)))) (nilA))))) [2]) (nilA)))
def F__law_is_row_v2 : FA := runF 2 3 B__law_is_row_v2
def B__law_is_whole_v2 : SvS := retS (andE (unE (isiD .int) (varE 0)) (notE (unE (isiD .bl) (varE 0))))
def F__law_is_whole_v2 : FA := runF 1 1 B__law_is_whole_v2
def B__law_course : SvS := seqS (asgS (tupE (consA (mutE (nilA)) (consA (varE 2) (consA (cE (.int 0)) (consA (callE F__law_of (consA (varE 0) (consA (tupE (consA (cE (.int 1)) (consA (cE (.int 4)) (consA (cE (.int 30)) (nilA))))) (nilA)))) (consA (callE F__law_of (consA (varE 0) (consA (tupE (consA (cE (.int 2)) (consA (cE (.int 4)) (consA (cE (.int 8)) (nilA))))) (nilA)))) (nilA))))))) (tupT 5 (consT (nameT 4) (consT (nameT 5) (consT (nameT 6) (consT (nameT 7) (consT (nameT 8) (nilT)))))))) (seqS (forS (callI range1F (consA (cE (.int 60)) (nilA))) (tgT (.nm 9)) (seqS (parS 5 6 (consA (binE addD (binE addD (varE 5) (binE ixD (varE 1) (varE 6))) (callE F__law_take (consA (varE 0) (consA (varE 7) (nilA))))) (consA (binE modD (callE intF (consA (binE addD (varE 6) (cE (.int 1))) (nilA))) (callE lenF (consA (varE 1) (nilA)))) (nilA)))) (ifS (andB (tstE (binE gtD (callE F__law_take (consA (varE 0) (consA (varE 8) (nilA)))) (cE (.int 0)))) (tstE (binE ltD (callE lenF (consA (varE 4) (nilA))) (varE 3)))) (exprS (methLE appF (varE 4) (consA (tupE (consA (varE 5) (consA (varE 6) (nilA)))) (nilA)))) (passS)))) (retS (callE tupleF (consA (sliceE (varE 4) (noO) (someO (callE F__law_take (consA (varE 0) (consA (binE addD (varE 3) (cE (.int 1))) (nilA)))))) (nilA)))))
def F__law_course : FA := runF 4 10 B__law_course
def B__law_any_bag : SvS := seqS (parS 3 4 (consA (newEE) (consA (callE F__law_of (consA (varE 0) (consA (tupE (consA (cE (.int 0)) (consA (cE (.int 5)) (consA (binE addD (binE powD (cE (.int 10)) (cE (.int 28))) (cE (.int 9))) (nilA))))) (nilA)))) (nilA)))) (seqS (forS (callI range1F (consA (binE addD (cE (.int 1)) (callE F__law_take (consA (varE 0) (consA (cE (.int 4)) (nilA))))) (nilA))) (tgT (.nm 5)) (forS (iterE (callE F__law_course (consA (varE 0) (consA (varE 1) (consA (binE addD (varE 4) (callE F__law_take (consA (varE 0) (consA (cE (.int 30)) (nilA))))) (consA (cE (.int 4)) (nilA))))))) (tgT (.tp [.nm 6, .nm 7])) (putDS (cE (.bl true)) (varE 3) (tupE (consA (varE 6) (consA (varE 7) (nilA))))))) (seqS (forS (callI range1F (consA (callE F__law_take (consA (varE 0) (consA (cE (.int 4)) (nilA)))) (nilA))) (tgT (.nm 8)) (putDS (cE (.bl true)) (varE 3) (tupE (consA (binE addD (varE 4) (callE F__law_take (consA (varE 0) (consA (cE (.int 60)) (nilA))))) (consA (callE F__law_take (consA (varE 0) (consA (callE lenF (consA (varE 1) (nilA))) (nilA)))) (nilA)))))) (seqS (parS 9 10 (consA (callE srtMF (consA (callE listDF (consA (varE 3) (nilA))) (nilA))) (consA (mutE (nilA)) (nilA)))) (seqS (forS (callI range1F (consA (callE F__law_take (consA (varE 0) (consA (binE addD (varE 2) (cE (.int 1))) (nilA)))) (nilA))) (tgT (.nm 8)) (ifS (tstE (binE neMD (varE 9) (lstE (nilA)))) (exprS (methLE appF (varE 10) (consA (methLE popAtF (varE 9) (consA (callE F__law_take (consA (varE 0) (consA (callE lenF (consA (varE 9) (nilA))) (nilA)))) (nilA))) (nilA)))) (passS))) (retS (callE tupleF (consA (callE srtF (consA (varE 10) (nilA))) (nilA))))))))
def F__law_any_bag : FA := runF 3 11 B__law_any_bag
def B__law_lots_of : SvS := seqS (asgS (lstE (consA (tupE (nilA)) (nilA))) (nameT 1)) (seqS (forS (callI range1F (consA (varE 0) (nilA))) (tgT (.nm 2)) (asgS (binE addD (varE 1) (lcE (iterE (varE 1)) (.nm 3) (yesB) (binE addD (varE 3) (tupE (consA (varE 2) (nilA)))) [3])) (nameT 1))) (retS (varE 1)))
def F__law_lots_of : FA := runF 1 4 B__law_lots_of
def B__law_without : SvS := retS (callE tupleF (consA (lcE (callI range1F (consA (callE lenF (consA (varE 0) (nilA))) (nilA))) (.nm 2) (tstE (binE notInD (varE 2) (varE 1))) (binE ixD (varE 0) (varE 2)) [2]) (nilA)))
def F__law_without : FA := runF 2 3 B__law_without
def B__law_is_told : SvS := seqS (asgS (callE minF (consA (lcE (iterE (callE F__law_lots_of (consA (callE lenF (consA (varE 2) (nilA))) (nilA)))) (.nm 5) (tstE (callE F__law_is_row_v2 (consA (varE 1) (consA (callE F__law_without (consA (varE 2) (consA (varE 5) (nilA)))) (nilA))))) (callE lenF (consA (varE 5) (nilA))) [5]) (nilA))) (nameT 3)) (seqS (asgS (ifE (tstE (binE eqD (callE F__law_take (consA (varE 0) (consA (cE (.int 2)) (nilA)))) (cE (.int 0)))) (callE F_false_marks (consA (varE 1) (consA (varE 2) (nilA)))) (callKE F_false_marks nilA (consA (varE 2) (consA (varE 1) (nilA))) 0 2 [1, 0])) (nameT 4)) (seqS (ifS (orB (notB (tstE (unE (isiD .tup) (varE 4)))) (orB (notB (tstE (callE allF (consA (lcE (iterE (varE 4)) (.nm 6) (yesB) (andE (callE F__law_is_whole_v2 (consA (varE 6) (nilA))) (chainE leD ltD (cE (.int 0)) (varE 6) (callE lenF (consA (varE 2) (nilA))))) [6]) (nilA))))) (tstE (callE anyF (consA (lcE (callI range2F (consA (cE (.int 1)) (consA (callE lenF (consA (varE 4) (nilA))) (nilA)))) (.nm 7) (yesB) (binE leD (binE ixD (varE 4) (varE 7)) (binE ixD (varE 4) (binE subD (varE 7) (cE (.int 1))))) [7]) (nilA)))))) (retS (cE (.bl false))) (passS)) (seqS (ifS (orB (tstE (binE neD (callE lenF (consA (varE 4) (nilA))) (varE 3))) (orB (notB (tstE (callE F__law_is_row_v2 (consA (varE 1) (consA (callE F__law_without (consA (varE 2) (consA (varE 4) (nilA)))) (nilA)))))) (tstE (binE neD (binE addD (callE lenF (consA (callE F_longest_row (consA (varE 1) (consA (varE 2) (nilA)))) (nilA))) (varE 3)) (callE lenF (consA (varE 2) (nilA))))))) (retS (cE (.bl false))) (passS)) (retS (callE F__law_same_v2 (consA (lstE (consA (callE F_is_row (consA (varE 1) (consA (varE 2) (nilA)))) (consA (binE isND (callE F_wrong_mark (consA (varE 1) (consA (varE 2) (nilA)))) (cE .non)) (nilA)))) (consA (lstE (consA (binE eqD (varE 3) (cE (.int 0))) (consA (binE eqD (varE 3) (cE (.int 0))) (nilA)))) (nilA))))))))
def F__law_is_told : FA := runF 3 8 B__law_is_told
def B__law_right : SvS := seqS (forS (callI range1F (consA (cE (.int 10)) (nilA))) (tgT (.nm 1)) (seqS (asgS (callE F__law_track (consA (varE 0) (nilA))) (nameT 2)) (seqS (parS 3 4 (consA (callE F__law_any_bag (consA (varE 0) (consA (varE 2) (consA (cE (.int 9)) (nilA))))) (consA (cE (.int 0)) (nilA)))) (seqS (ifS (tstE (binE ltD (varE 1) (cE (.int 5)))) (seqS (asgS (callE F__law_course (consA (varE 0) (consA (varE 2) (consA (callE F__law_take (consA (varE 0) (consA (cE (.int 9)) (nilA)))) (consA (cE (.int 6)) (nilA)))))) (nameT 5)) (seqS (asgS (newEE) (nameT 6)) (seqS (forS (iterE (binE addD (varE 5) (callE tupleF (consA (lcE (callI range1F (consA (binE addD (cE (.int 1)) (callE F__law_take (consA (varE 0) (consA (cE (.int 3)) (nilA))))) (nilA))) (.nm 8) (yesB) (tupE (consA (callE F__law_take (consA (varE 0) (consA (cE (.int 200)) (nilA)))) (consA (callE F__law_take (consA (varE 0) (consA (callE lenF (consA (varE 2) (nilA))) (nilA)))) (nilA)))) [8]) (nilA))))) (tgT (.nm 7)) (putDS (cE (.bl true)) (varE 6) (varE 7))) (parS 3 4 (consA (callE tupleF (consA (callE srtF (consA (callE listDF (consA (varE 6) (nilA))) (nilA))) (nilA))) (consA (binE subD (callE lenDF (consA (varE 6) (nilA))) (callE lenF (consA (varE 5) (nilA)))) (nilA))))))) (passS)) (ifS (orB (notB (tstE (callE F__law_is_told (consA (varE 0) (consA (varE 2) (consA (varE 3) (nilA))))))) (andB (tstE (binE ltD (varE 1) (cE (.int 5)))) (tstE (binE gtD (callE lenF (consA (callE F_false_marks (consA (varE 2) (consA (varE 3) (nilA)))) (nilA))) (varE 4))))) (retS (cE (.bl false))) (passS)))))) (retS (cE (.bl true)))
def F__law_right : FA := runF 1 9 B__law_right
end Lap
namespace Lap
open PySem PySem.Spec PyProof.Rows L2 G
def B__law_gone : SvS := seqS (parS 3 4 (consA (binE ixD (varE 2) (cE (.int 1))) (consA (binE ixD (varE 2) (cE (.int 0))) (nilA)))) (seqS (forS (callI range1F (consA (callE lenF (consA (varE 0) (nilA))) (nilA))) (tgT (.nm 5)) (seqS (parS 4 3 (consA (binE addD (varE 4) (binE ixD (varE 0) (varE 3))) (consA (binE modD (callE intF (consA (binE addD (varE 3) (cE (.int 1))) (nilA))) (callE lenF (consA (varE 0) (nilA)))) (nilA)))) (ifS (tstE (binE eqD (varE 3) (binE ixD (varE 1) (cE (.int 1))))) (retS (binE leD (varE 4) (binE ixD (varE 1) (cE (.int 0))))) (passS)))) (retS (cE (.bl false))))
def F__law_gone : FA := runF 3 6 B__law_gone
end Lap
namespace K09
open PySem PySem.Spec PyProof.Rows L2 G Lap
set_option maxHeartbeats 4000000
def topS (i : Nat) : Stmt := PySem.Challenge.pw_lapmats_k09_whole_who_can_follow.main.body.getD i (.Pass ⟨0, 0, 0, 0⟩)
structure Bt (mg : Str → Option Value) : Prop where
  list : mg "list" = none
  sum : mg "sum" = none
  len : mg "len" = none
  divmod : mg "divmod" = none
  isinstance : mg "isinstance" = none
  int : mg "int" = none
  bool : mg "bool" = none
  tuple : mg "tuple" = none
  MOST_MATS : ∃ t, mg "MOST_MATS" = some (.int 8 t)
  all : mg "all" = none
  abs : mg "abs" = none
  range : mg "range" = none
  str : mg "str" = none
  zip : mg "zip" = none
  any : mg "any" = none
  min : mg "min" = none
  max : mg "max" = none
structure Xt (K : PySem.W.Frag) (mg : Str → Option Value) : Prop where
  ns : ∀ x v, PySem.W.nsIn K mainGlobals x = some (some v) → mg x = some v
  r_InvalidMark : RX K mg "InvalidMark" "given"
  r_InvalidTrack : RX K mg "InvalidTrack" "given"
abbrev s_round_by : Stmt := topS 5
theorem sc_round_by : FnScope ["track"] ["track"] (defScope s_round_by) := ⟨rfl, rfl, rfl, by decide +kernel, rfl, by decide +kernel, by decide +kernel⟩
abbrev s_sectors_from : Stmt := topS 6
theorem sc_sectors_from : FnScope ["track", "mat"] ["track", "mat"] (defScope s_sectors_from) := ⟨rfl, rfl, rfl, by decide +kernel, rfl, by decide +kernel, by decide +kernel⟩
abbrev s_reach_by : Stmt := topS 7
theorem sc_reach_by : FnScope ["track", "mat", "number", "rounds", "rest"] ["track", "mat", "number"] (defScope s_reach_by) := ⟨rfl, rfl, rfl, by decide +kernel, rfl, by decide +kernel, by decide +kernel⟩
abbrev s_steps_by : Stmt := topS 8
theorem sc_steps_by : FnScope ["track", "one", "other"] ["track", "one", "other"] (defScope s_steps_by) := ⟨rfl, rfl, rfl, by decide +kernel, rfl, by decide +kernel, by decide +kernel⟩
abbrev s_way_by : Stmt := topS 9
theorem sc_way_by : FnScope ["track", "one", "other"] ["track", "one", "other"] (defScope s_way_by) := ⟨rfl, rfl, rfl, by decide +kernel, rfl, by decide +kernel, by decide +kernel⟩
abbrev s_can_follow_by : Stmt := topS 11
theorem sc_can_follow_by : FnScope ["track", "mark", "other"] ["track", "mark", "other"] (defScope s_can_follow_by) := ⟨rfl, rfl, rfl, by decide +kernel, rfl, by decide +kernel, by decide +kernel⟩
abbrev s_is_whole : Stmt := topS 13
theorem sc_is_whole : FnScope ["value"] ["value"] (defScope s_is_whole) := ⟨rfl, rfl, rfl, by decide +kernel, rfl, by decide +kernel, by decide +kernel⟩
abbrev s_is_between : Stmt := topS 14
theorem sc_is_between : FnScope ["value", "low", "high"] ["value", "low", "high"] (defScope s_is_between) := ⟨rfl, rfl, rfl, by decide +kernel, rfl, by decide +kernel, by decide +kernel⟩
abbrev s_is_up_to : Stmt := topS 15
theorem sc_is_up_to : FnScope ["value", "most"] ["value", "most"] (defScope s_is_up_to) := ⟨rfl, rfl, rfl, by decide +kernel, rfl, by decide +kernel, by decide +kernel⟩
abbrev s_is_from : Stmt := topS 16
theorem sc_is_from : FnScope ["value", "least"] ["value", "least"] (defScope s_is_from) := ⟨rfl, rfl, rfl, by decide +kernel, rfl, by decide +kernel, by decide +kernel⟩
abbrev s_is_tuple_up_to : Stmt := topS 17
theorem sc_is_tuple_up_to : FnScope ["value", "low", "high"] ["value", "low", "high"] (defScope s_is_tuple_up_to) := ⟨rfl, rfl, rfl, by decide +kernel, rfl, by decide +kernel, by decide +kernel⟩
abbrev s_is_tuple_of : Stmt := topS 18
theorem sc_is_tuple_of : FnScope ["value", "many"] ["value", "many"] (defScope s_is_tuple_of) := ⟨rfl, rfl, rfl, by decide +kernel, rfl, by decide +kernel, by decide +kernel⟩
abbrev s_is_pair : Stmt := topS 19
theorem sc_is_pair : FnScope ["value"] ["value"] (defScope s_is_pair) := ⟨rfl, rfl, rfl, by decide +kernel, rfl, by decide +kernel, by decide +kernel⟩
abbrev s_is_track_of : Stmt := topS 22
theorem sc_is_track_of : FnScope ["value", "each"] ["value"] (defScope s_is_track_of) := ⟨rfl, rfl, rfl, by decide +kernel, rfl, by decide +kernel, by decide +kernel⟩
abbrev s_is_mat_of : Stmt := topS 23
theorem sc_is_mat_of : FnScope ["track", "value"] ["track", "value"] (defScope s_is_mat_of) := ⟨rfl, rfl, rfl, by decide +kernel, rfl, by decide +kernel, by decide +kernel⟩
abbrev s_is_mark_of : Stmt := topS 24
theorem sc_is_mark_of : FnScope ["track", "value"] ["track", "value"] (defScope s_is_mark_of) := ⟨rfl, rfl, rfl, by decide +kernel, rfl, by decide +kernel, by decide +kernel⟩
abbrev s_check_track : Stmt := topS 25
theorem sc_check_track : FnScope ["track"] ["track"] (defScope s_check_track) := ⟨rfl, rfl, rfl, by decide +kernel, rfl, by decide +kernel, by decide +kernel⟩
abbrev s_check_mark : Stmt := topS 26
theorem sc_check_mark : FnScope ["track", "mark"] ["track", "mark"] (defScope s_check_mark) := ⟨rfl, rfl, rfl, by decide +kernel, rfl, by decide +kernel, by decide +kernel⟩
abbrev s_can_follow : Stmt := topS 28
theorem sc_can_follow : FnScope ["track", "mark", "other"] ["track", "mark", "other"] (defScope s_can_follow) := ⟨rfl, rfl, rfl, by decide +kernel, rfl, by decide +kernel, by decide +kernel⟩
abbrev s__law_pool : Stmt := topS 30
theorem sc__law_pool : FnScope ["script", "lap", "cell", "stirred", "each"] ["script", "lap"] (defScope s__law_pool) := ⟨rfl, rfl, rfl, by decide +kernel, rfl, by decide +kernel, by decide +kernel⟩
def B__law_pool : SvS := seqS (asgS (ifE (tstE (binE ltD (varE 1) (callE lenF (consA (varE 0) (nilA))))) (callE intF (consA (binE ixD (varE 0) (varE 1)) (nilA))) (binE addD (binE mulD (cE (.int 7173)) (varE 1)) (cE (.int 481)))) (nameT 2)) (seqS (asgS (binE addD (cE (.int 86259)) (binE mulD (cE (.int 9799)) (varE 1))) (nameT 3)) (seqS (forS (iterE (sliceE (varE 0) (noO) (someO (cE (.int 12))))) (tgT (.nm 4)) (asgS (binE modD (callE intF (consA (binE addD (binE addD (binE mulD (varE 3) (cE (.int 49831))) (binE modD (callE intF (consA (varE 4) (nilA))) (cE (.int 2147483587)))) (cE (.int 15))) (nilA))) (cE (.int 2147483647))) (nameT 3))) (seqS (asgS (binE modD (callE intF (consA (binE addD (binE addD (binE mulD (varE 3) (cE (.int 83))) (binE mulD (binE modD (callE intF (consA (varE 2) (nilA))) (cE (.int 2147483587))) (cE (.int 26013)))) (cE (.int 11))) (nilA))) (cE (.int 2147483647))) (nameT 3)) (retS (mutE (consA (ifE (orB (tstE (binE ltD (varE 2) (cE (.int 0)))) (tstE (binE geD (varE 2) (binE powD (cE (.int 10)) (cE (.int 15)))))) (binE modD (callE intF (consA (callE absF (consA (varE 2) (nilA))) (nilA))) (binE powD (cE (.int 10)) (cE (.int 60)))) (cE (.int 0))) (consA (varE 3) (consA (cE (.int 0)) (nilA)))))))))
def F__law_pool : FA := runF 2 5 B__law_pool
abbrev s__law_below : Stmt := topS 31
theorem sc__law_below : FnScope ["pool", "many", "figure", "stirred"] ["pool", "many"] (defScope s__law_below) := ⟨rfl, rfl, rfl, by decide +kernel, rfl, by decide +kernel, by decide +kernel⟩
def B__law_below : SvS := seqS (ifS (tstE (binE gtD (binE ixD (varE 0) (cE (.int 0))) (cE (.int 0)))) (seqS (asgS (callE divmodF (consA (binE ixD (varE 0) (cE (.int 0))) (consA (varE 1) (nilA)))) (tupT 2 (consT (subT (varE 0) (cE (.int 0))) (consT (nameT 2) (nilT))))) (retS (varE 2))) (passS)) (seqS (asgS (binE addD (binE ixD (varE 0) (cE (.int 2))) (cE (.int 1))) (subT (varE 0) (cE (.int 2)))) (seqS (asgS (binE modD (callE intF (consA (binE addD (binE addD (binE mulD (binE ixD (varE 0) (cE (.int 1))) (cE (.int 33925))) (binE mulD (cE (.int 8429)) (binE ixD (varE 0) (cE (.int 2))))) (cE (.int 71))) (nilA))) (cE (.int 2147483563))) (nameT 3)) (seqS (asgS (binE modD (callE intF (consA (binE addD (binE mulD (varE 3) (binE addD (binE modD (callE intF (consA (varE 3) (nilA))) (cE (.int 3989))) (cE (.int 17943)))) (binE ixD (varE 0) (cE (.int 2)))) (nilA))) (cE (.int 2147483563))) (subT (varE 0) (cE (.int 1)))) (retS (binE modD (callE intF (consA (binE fdivD (binE ixD (varE 0) (cE (.int 1))) (cE (.int 359))) (nilA))) (varE 1))))))
def F__law_below : FA := runF 2 4 B__law_below
abbrev s__law_one : Stmt := topS 32
theorem sc__law_one : FnScope ["pool", "some"] ["pool", "some"] (defScope s__law_one) := ⟨rfl, rfl, rfl, by decide +kernel, rfl, by decide +kernel, by decide +kernel⟩
def B__law_one : SvS := retS (binE ixD (varE 1) (callE F__law_below (consA (varE 0) (consA (callE lenF (consA (varE 1) (nilA))) (nilA)))))
def F__law_one : FA := runF 2 2 B__law_one
abbrev s__law_reach : Stmt := topS 33
theorem sc__law_reach : FnScope ["track", "mat", "number", "many", "rounds", "rest", "each"] ["track", "mat", "number"] (defScope s__law_reach) := ⟨rfl, rfl, rfl, by decide +kernel, rfl, by decide +kernel, by decide +kernel⟩
abbrev s__law_steps : Stmt := topS 34
theorem sc__law_steps : FnScope ["track", "mat", "other"] ["track", "mat", "other"] (defScope s__law_steps) := ⟨rfl, rfl, rfl, by decide +kernel, rfl, by decide +kernel, by decide +kernel⟩
abbrev s__law_way : Stmt := topS 35
theorem sc__law_way : FnScope ["track", "mat", "other"] ["track", "mat", "other"] (defScope s__law_way) := ⟨rfl, rfl, rfl, by decide +kernel, rfl, by decide +kernel, by decide +kernel⟩
abbrev s__law_great : Stmt := topS 36
theorem sc__law_great : FnScope ["pool", "wide", "found", "lap"] ["pool", "wide"] (defScope s__law_great) := ⟨rfl, rfl, rfl, by decide +kernel, rfl, by decide +kernel, by decide +kernel⟩
def B__law_great : SvS := seqS (asgS (cE (.int 0)) (nameT 2)) (seqS (forS (callI range1F (consA (cE (.int 6)) (nilA))) (tgT (.nm 3)) (asgS (binE addD (binE mulD (varE 2) (cE (.int 99991))) (callE F__law_below (consA (varE 0) (consA (cE (.int 99991)) (nilA))))) (nameT 2))) (retS (binE modD (callE intF (consA (varE 2) (nilA))) (binE addD (varE 1) (cE (.int 1))))))
def F__law_great : FA := runF 2 4 B__law_great
abbrev s__law_track : Stmt := topS 37
theorem sc__law_track : FnScope ["pool", "wide", "lap"] ["pool", "wide"] (defScope s__law_track) := ⟨rfl, rfl, rfl, by decide +kernel, rfl, by decide +kernel, by decide +kernel⟩
def B__law_track : SvS := retS (callE tupleF (consA (lcE (callI range1F (consA (binE addD (cE (.int 1)) (callE F__law_below (consA (varE 0) (consA (cE (.int 8)) (nilA))))) (nilA))) (.nm 2) (yesB) (binE addD (cE (.int 1)) (callE F__law_great (consA (varE 0) (consA (binE subD (varE 1) (cE (.int 1))) (nilA))))) [2]) (nilA)))
def F__law_track : FA := runF 2 3 B__law_track
abbrev s__law_can_follow : Stmt := topS 38
theorem sc__law_can_follow : FnScope ["track", "one", "two"] ["track", "one", "two"] (defScope s__law_can_follow) := ⟨rfl, rfl, rfl, by decide +kernel, rfl, by decide +kernel, by decide +kernel⟩
abbrev s__law_same : Stmt := topS 39
theorem sc__law_same : FnScope ["told", "due", "x", "y"] ["told", "due"] (defScope s__law_same) := ⟨rfl, rfl, rfl, by decide +kernel, rfl, by decide +kernel, by decide +kernel⟩
abbrev s__law_gone : Stmt := topS 40
theorem sc__law_gone : FnScope ["track", "one", "two", "here", "time", "lap"] ["track", "one", "two"] (defScope s__law_gone) := ⟨rfl, rfl, rfl, by decide +kernel, rfl, by decide +kernel, by decide +kernel⟩
abbrev s__law_right : Stmt := topS 41
theorem sc__law_right : FnScope ["pool", "lap", "track", "many", "whole", "marks", "time", "mat", "other", "just", "one", "two", "told", "led", "turn", "three"] ["pool"] (defScope s__law_right) := ⟨rfl, rfl, rfl, by decide +kernel, rfl, by decide +kernel, by decide +kernel⟩
def B__law_right : SvS := seqS (forS (callI range1F (consA (cE (.int 9)) (nilA))) (tgT (.nm 1)) (seqS (asgS (callE F__law_track (consA (varE 0) (consA (callE F__law_one (consA (varE 0) (consA (tupE (consA (cE (.int 3)) (consA (cE (.int 40)) (consA (binE powD (cE (.int 10)) (cE (.int 25))) (nilA))))) (nilA)))) (nilA)))) (nameT 2)) (seqS (asgS (tupE (consA (callE lenF (consA (varE 2) (nilA))) (consA (callE sumF (consA (varE 2) (nilA))) (nilA)))) (tupT 2 (consT (nameT 3) (consT (nameT 4) (nilT))))) (seqS (asgS (lcE (callI range1F (consA (cE (.int 5)) (nilA))) (.nm 14) (yesB) (tupE (consA (callE F__law_great (consA (varE 0) (consA (binE mulD (cE (.int 2)) (varE 4)) (nilA)))) (consA (callE F__law_below (consA (varE 0) (consA (varE 3) (nilA)))) (nilA)))) [14]) (nameT 5)) (seqS (asgS (binE ixD (varE 5) (cE (.int 0))) (tupT 2 (consT (nameT 6) (consT (nameT 7) (nilT))))) (seqS (asgS (callE F__law_below (consA (varE 0) (consA (varE 3) (nilA)))) (nameT 8)) (seqS (asgS (tupE (consA (binE addD (varE 6) (callE F__law_way (consA (varE 2) (consA (varE 7) (consA (varE 8) (nilA)))))) (consA (varE 8) (nilA)))) (nameT 9)) (seqS (asgS (binE addD (varE 5) (lstE (consA (varE 9) (consA (tupE (consA (binE subD (binE ixD (varE 9) (cE (.int 0))) (cE (.int 1))) (consA (varE 8) (nilA)))) (consA (tupE (consA (binE addD (varE 6) (varE 4)) (consA (callE F__law_below (consA (varE 0) (consA (varE 3) (nilA)))) (nilA)))) (nilA)))))) (nameT 5)) (seqS (ifS (orB (tstE (binE notBD (callE F_can_follow (consA (varE 2) (consA (varE 9) (consA (binE ixD (varE 5) (cE (.int 0))) (nilA))))) (cE (.bl true)))) (orB (tstE (binE notBD (callE F_can_follow (consA (varE 2) (consA (binE ixD (varE 5) (cE (.int 6))) (consA (binE ixD (varE 5) (cE (.int 0))) (nilA))))) (cE (.bl false)))) (tstE (binE notBD (callE F_can_follow (consA (varE 2) (consA (binE ixD (varE 5) (cE (.int 7))) (consA (binE ixD (varE 5) (cE (.int 0))) (nilA))))) (cE (.bl true)))))) (retS (cE (.bl false))) (passS)) (seqS (forS (iterE (varE 5)) (tgT (.nm 10)) (forS (iterE (varE 5)) (tgT (.nm 11)) (seqS (asgS (ifE (tstE (binE eqD (varE 1) (cE (.int 1)))) (callKE F_can_follow nilA (consA (varE 11) (consA (varE 10) (consA (varE 2) (nilA)))) 0 3 [2, 1, 0]) (callE F_can_follow (consA (varE 2) (consA (varE 10) (consA (varE 11) (nilA)))))) (nameT 12)) (ifS (orB (notB (tstE (callE F__law_same (consA (varE 12) (consA (callE F__law_gone (consA (varE 2) (consA (varE 10) (consA (varE 11) (nilA))))) (nilA)))))) (andB (tstE (varE 12)) (orB (tstE (binE eqD (varE 10) (varE 11))) (tstE (callE F_can_follow (consA (varE 2) (consA (varE 11) (consA (varE 10) (nilA))))))))) (retS (cE (.bl false))) (passS))))) (seqS (asgS (newNE) (nameT 13)) (seqS (forS (iterE (varE 5)) (tgT (.nm 10)) (forS (iterE (varE 5)) (tgT (.nm 11)) (ifS (tstE (callE F__law_can_follow (consA (varE 2) (consA (varE 10) (consA (varE 11) (nilA)))))) (putNS (cE (.bl true)) (varE 13) (tupE (consA (varE 10) (consA (varE 11) (nilA))))) (passS)))) (ifS (tstE (callE anyF (consA (lcNE (varE 13) (.tp [.nm 10, .nm 11]) (yesB) (callE anyF (consA (lcE (iterE (varE 5)) (.nm 15) (yesB) (andE (binE inNF (tupE (consA (varE 11) (consA (varE 15) (nilA)))) (varE 13)) (notE (callE F_can_follow (consA (varE 2) (consA (varE 10) (consA (varE 15) (nilA))))))) [15]) (nilA))) [10, 11]) (nilA)))) (retS (cE (.bl false))) (passS)))))))))))))) (retS (cE (.bl true)))
def F__law_right : FA := runF 1 16 B__law_right
abbrev s_law : Stmt := topS 42
theorem sc_law : FnScope ["script", "lap"] ["script"] (defScope s_law) := ⟨rfl, rfl, rfl, by decide +kernel, rfl, by decide +kernel, by decide +kernel⟩
def B_law : SvS := retS (callE allF (consA (lcE (callI range1F (consA (callE maxF (consA (cE (.int 1)) (consA (callE minF (consA (callE lenF (consA (varE 0) (nilA))) (consA (cE (.int 2)) (nilA)))) (nilA)))) (nilA))) (.nm 1) (yesB) (callE F__law_right (consA (callE F__law_pool (consA (varE 0) (consA (varE 1) (nilA)))) (nilA))) [1]) (nilA)))
def F_law : FA := runF 1 2 B_law
section
variable {P : Program} {w : World} {K : PySem.W.Frag} {mg : Str → Option Value} {base : Heap}
theorem ok_round_by (T : Bt mg) (XX : Xt K mg) (S : Std K mg "round_by" "round_by" s_round_by) : Kn P w K mg base "round_by" s_round_by ["track"] 1 F_round_by := by
  refine kn_of (N := ["track"]) (k := 0) (B := B_round_by) S sc_round_by rfl rfl (fun _ _ _ _ _ _ us hl => match us, hl with | [_], _ => rfl) fun f cdv A outer s' H E hr => ?_
  have nd := sc_round_by.nd
  have tk : Takes (cxOf (L2.CX P w) P w K mg base ["track"] "round_by" (defScope s_round_by) f cdv A outer s' H E) (Wd E) := takes_of rfl rfl rfl rfl
  exact s_one (s_ret (g_blt (pe_callB (cq_sum rfl) (by rfl) T.sum bt_sum (g_cons (g_blt (pe_callTy call_list_of (by rfl) T.list bt_list (g_cons (g_var 0 (pv 0)) (g_nil) rfl)) v_list) (g_nil) rfl)) v_sum))
theorem ok_sectors_from (T : Bt mg) (XX : Xt K mg) (S : Std K mg "sectors_from" "sectors_from" s_sectors_from) : Kn P w K mg base "sectors_from" s_sectors_from ["track", "mat"] 1 F_sectors_from := by
  refine kn_of (N := ["track", "mat"]) (k := 0) (B := B_sectors_from) S sc_sectors_from rfl rfl (fun _ _ _ _ _ _ us hl => match us, hl with | [_, _], _ => rfl) fun f cdv A outer s' H E hr => ?_
  have nd := sc_sectors_from.nd
  have tk : Takes (cxOf (L2.CX P w) P w K mg base ["track", "mat"] "sectors_from" (defScope s_sectors_from) f cdv A outer s' H E) (Wd E) := takes_of rfl rfl rfl rfl
  exact s_one (s_ret (g_lst (g_star (g_slice (g_var 0 (pv 0)) (g_some (g_var 1 (pv 1))) (g_no)) (g_star (g_slice (g_var 0 (pv 0)) (g_no) (g_some (g_var 1 (pv 1)))) (g_nil) rfl) rfl)))
theorem ok_reach_by (T : Bt mg) (XX : Xt K mg) (S : Std K mg "reach_by" "reach_by" s_reach_by) (c_round_by : Kn P w K mg base "round_by" s_round_by ["track"] 1 F_round_by) (c_sectors_from : Kn P w K mg base "sectors_from" s_sectors_from ["track", "mat"] 1 F_sectors_from) : Kn P w K mg base "reach_by" s_reach_by ["track", "mat", "number"] 2 F_reach_by := by
  refine kn_of (N := ["track", "mat", "number", "rounds", "rest"]) (k := 1) (B := B_reach_by) S sc_reach_by rfl rfl (fun _ _ _ _ _ _ us hl => match us, hl with | [_, _, _], _ => rfl) fun f cdv A outer s' H E hr => ?_
  have nd := sc_reach_by.nd
  have tk : Takes (cxOf (L2.CX P w) P w K mg base ["track", "mat", "number", "rounds", "rest"] "reach_by" (defScope s_reach_by) f cdv A outer s' H E) (Wd E) := takes_of rfl rfl rfl rfl
  exact s_cons (s_asg (ps_asg (g_blt (pe_callB c_divmod (by rfl) T.divmod bt_divmod (g_cons (g_var 2 (pv 2)) (g_cons (g_blt (pe_callB c_len (by rfl) T.len bt_len (g_cons (g_var 0 (pv 0)) (g_nil) rfl)) v_len) (g_nil) rfl) rfl)) v_divmod) (t_tup (pg_tup rfl (t_cons (t_name (pg_name (i := 3) nd rfl (.inl rfl))) (t_cons (t_name (pg_name (i := 4) nd rfl (.inl rfl))) (t_nil) rfl) rfl))))) (s_one (s_ret (g_op o_add v_add (g_op o_mul v_mul (g_var 3 (pv 3)) (g_calln c_round_by (hr.mono (by decide)) (by rfl) tk (g_cons (g_var 0 (pv 0)) (g_nil) rfl) (by decide) rfl rfl)) (g_blt (pe_callB (cq_sum rfl) (by rfl) T.sum bt_sum (g_cons (g_slice (g_calln c_sectors_from (hr.mono (by decide)) (by rfl) tk (g_cons (g_var 0 (pv 0)) (g_cons (g_var 1 (pv 1)) (g_nil) rfl) rfl) (by decide) rfl rfl) (g_no) (g_some (g_var 4 (pv 4)))) (g_nil) rfl)) v_sum))))
theorem ok_steps_by (T : Bt mg) (XX : Xt K mg) (S : Std K mg "steps_by" "steps_by" s_steps_by) : Kn P w K mg base "steps_by" s_steps_by ["track", "one", "other"] 1 F_steps_by := by
  refine kn_of (N := ["track", "one", "other"]) (k := 0) (B := B_steps_by) S sc_steps_by rfl rfl (fun _ _ _ _ _ _ us hl => match us, hl with | [_, _, _], _ => rfl) fun f cdv A outer s' H E hr => ?_
  have nd := sc_steps_by.nd
  have tk : Takes (cxOf (L2.CX P w) P w K mg base ["track", "one", "other"] "steps_by" (defScope s_steps_by) f cdv A outer s' H E) (Wd E) := takes_of rfl rfl rfl rfl
  exact s_one (s_ret (g_op o_add v_add (g_op op_mod v_mod (g_op op_sub v_sub (g_op op_sub v_sub (g_var 2 (pv 2)) (g_var 1 (pv 1))) (g_int)) (g_blt (pe_callB c_len (by rfl) T.len bt_len (g_cons (g_var 0 (pv 0)) (g_nil) rfl)) v_len)) (g_int)))
theorem ok_way_by (T : Bt mg) (XX : Xt K mg) (S : Std K mg "way_by" "way_by" s_way_by) (c_reach_by : Kn P w K mg base "reach_by" s_reach_by ["track", "mat", "number"] 2 F_reach_by) (c_steps_by : Kn P w K mg base "steps_by" s_steps_by ["track", "one", "other"] 1 F_steps_by) : Kn P w K mg base "way_by" s_way_by ["track", "one", "other"] 3 F_way_by := by
  refine kn_of (N := ["track", "one", "other"]) (k := 2) (B := B_way_by) S sc_way_by rfl rfl (fun _ _ _ _ _ _ us hl => match us, hl with | [_, _, _], _ => rfl) fun f cdv A outer s' H E hr => ?_
  have nd := sc_way_by.nd
  have tk : Takes (cxOf (L2.CX P w) P w K mg base ["track", "one", "other"] "way_by" (defScope s_way_by) f cdv A outer s' H E) (Wd E) := takes_of rfl rfl rfl rfl
  exact s_one (s_ret (g_calln c_reach_by (hr.mono (by decide)) (by rfl) tk (g_cons (g_var 0 (pv 0)) (g_cons (g_var 1 (pv 1)) (g_cons (g_calln c_steps_by (hr.mono (by decide)) (by rfl) tk (g_cons (g_var 0 (pv 0)) (g_cons (g_var 1 (pv 1)) (g_cons (g_var 2 (pv 2)) (g_nil) rfl) rfl) rfl) (by decide) rfl rfl) (g_nil) rfl) rfl) rfl) (by decide) rfl rfl))
theorem ok_can_follow_by (T : Bt mg) (XX : Xt K mg) (S : Std K mg "can_follow_by" "can_follow_by" s_can_follow_by) (c_way_by : Kn P w K mg base "way_by" s_way_by ["track", "one", "other"] 3 F_way_by) : Kn P w K mg base "can_follow_by" s_can_follow_by ["track", "mark", "other"] 4 F_can_follow_by := by
  refine kn_of (N := ["track", "mark", "other"]) (k := 3) (B := B_can_follow_by) S sc_can_follow_by rfl rfl (fun _ _ _ _ _ _ us hl => match us, hl with | [_, _, _], _ => rfl) fun f cdv A outer s' H E hr => ?_
  have nd := sc_can_follow_by.nd
  have tk : Takes (cxOf (L2.CX P w) P w K mg base ["track", "mark", "other"] "can_follow_by" (defScope s_can_follow_by) f cdv A outer s' H E) (Wd E) := takes_of rfl rfl rfl rfl
  exact s_one (s_ret (g_cmp op_ge (v_cmpI _) (g_op op_sub v_sub (g_ix (g_var 1 (pv 1)) (g_int) (fun _ _ => rfl)) (g_ix (g_var 2 (pv 2)) (g_int) (fun _ _ => rfl))) (g_calln c_way_by (hr.mono (by decide)) (by rfl) tk (g_cons (g_var 0 (pv 0)) (g_cons (g_ix (g_var 2 (pv 2)) (g_int) (fun _ _ => rfl)) (g_cons (g_ix (g_var 1 (pv 1)) (g_int) (fun _ _ => rfl)) (g_nil) rfl) rfl) rfl) (by decide) rfl rfl) (nomark _)))
theorem ok_is_whole (T : Bt mg) (XX : Xt K mg) (S : Std K mg "is_whole" "is_whole" s_is_whole) : Kn P w K mg base "is_whole" s_is_whole ["value"] 1 F_is_whole := by
  refine kn_of (N := ["value"]) (k := 0) (B := B_is_whole) S sc_is_whole rfl rfl (fun _ _ _ _ _ _ us hl => match us, hl with | [_], _ => rfl) fun f cdv A outer s' H E hr => ?_
  have nd := sc_is_whole.nd
  have tk : Takes (cxOf (L2.CX P w) P w K mg base ["value"] "is_whole" (defScope s_is_whole) f cdv A outer s' H E) (Wd E) := takes_of rfl rfl rfl rfl
  exact s_one (s_ret (g_vand (g_isi .int (g_var 0 (pv 0)) (fun h => pe_callB call_isi (by rfl) T.isinstance bt_isinstance (pa_cons h (pa_cons (pe_bltn (by rfl) T.int bt_int rfl) pa_nil)))) (g_one (g_vnot (g_isi .bl (g_var 0 (pv 0)) (fun h => pe_callB call_isi (by rfl) T.isinstance bt_isinstance (pa_cons h (pa_cons (pe_bltn (by rfl) T.bool bt_bool rfl) pa_nil))))))))
theorem ok_is_between (T : Bt mg) (XX : Xt K mg) (S : Std K mg "is_between" "is_between" s_is_between) (c_is_whole : Kn P w K mg base "is_whole" s_is_whole ["value"] 1 F_is_whole) : Kn P w K mg base "is_between" s_is_between ["value", "low", "high"] 2 F_is_between := by
  refine kn_of (N := ["value", "low", "high"]) (k := 1) (B := B_is_between) S sc_is_between rfl rfl (fun _ _ _ _ _ _ us hl => match us, hl with | [_, _, _], _ => rfl) fun f cdv A outer s' H E hr => ?_
  have nd := sc_is_between.nd
  have tk : Takes (cxOf (L2.CX P w) P w K mg base ["value", "low", "high"] "is_between" (defScope s_is_between) f cdv A outer s' H E) (Wd E) := takes_of rfl rfl rfl rfl
  exact s_one (s_ret (g_vand (g_calln c_is_whole (hr.mono (by decide)) (by rfl) tk (g_cons (g_var 0 (pv 0)) (g_nil) rfl) (by decide) rfl rfl) (g_one (g_chain (pe_chain (o_le hr.units0) (o_le hr.units0) (g_var 1 (pv 1)) (g_var 0 (pv 0)) (g_var 2 (pv 2))) v_le v_le))))
theorem ok_is_up_to (T : Bt mg) (XX : Xt K mg) (S : Std K mg "is_up_to" "is_up_to" s_is_up_to) (c_is_between : Kn P w K mg base "is_between" s_is_between ["value", "low", "high"] 2 F_is_between) : Kn P w K mg base "is_up_to" s_is_up_to ["value", "most"] 3 F_is_up_to := by
  refine kn_of (N := ["value", "most"]) (k := 2) (B := B_is_up_to) S sc_is_up_to rfl rfl (fun _ _ _ _ _ _ us hl => match us, hl with | [_, _], _ => rfl) fun f cdv A outer s' H E hr => ?_
  have nd := sc_is_up_to.nd
  have tk : Takes (cxOf (L2.CX P w) P w K mg base ["value", "most"] "is_up_to" (defScope s_is_up_to) f cdv A outer s' H E) (Wd E) := takes_of rfl rfl rfl rfl
  exact s_one (s_ret (g_calln c_is_between (hr.mono (by decide)) (by rfl) tk (g_cons (g_var 0 (pv 0)) (g_cons (g_int) (g_cons (g_var 1 (pv 1)) (g_nil) rfl) rfl) rfl) (by decide) rfl rfl))
theorem ok_is_from (T : Bt mg) (XX : Xt K mg) (S : Std K mg "is_from" "is_from" s_is_from) (c_is_whole : Kn P w K mg base "is_whole" s_is_whole ["value"] 1 F_is_whole) : Kn P w K mg base "is_from" s_is_from ["value", "least"] 2 F_is_from := by
  refine kn_of (N := ["value", "least"]) (k := 1) (B := B_is_from) S sc_is_from rfl rfl (fun _ _ _ _ _ _ us hl => match us, hl with | [_, _], _ => rfl) fun f cdv A outer s' H E hr => ?_
  have nd := sc_is_from.nd
  have tk : Takes (cxOf (L2.CX P w) P w K mg base ["value", "least"] "is_from" (defScope s_is_from) f cdv A outer s' H E) (Wd E) := takes_of rfl rfl rfl rfl
  exact s_one (s_ret (g_vand (g_calln c_is_whole (hr.mono (by decide)) (by rfl) tk (g_cons (g_var 0 (pv 0)) (g_nil) rfl) (by decide) rfl rfl) (g_one (g_cmp op_ge (v_cmpI _) (g_var 0 (pv 0)) (g_var 1 (pv 1)) (nomark _)))))
theorem ok_is_tuple_up_to (T : Bt mg) (XX : Xt K mg) (S : Std K mg "is_tuple_up_to" "is_tuple_up_to" s_is_tuple_up_to) : Kn P w K mg base "is_tuple_up_to" s_is_tuple_up_to ["value", "low", "high"] 1 F_is_tuple_up_to := by
  refine kn_of (N := ["value", "low", "high"]) (k := 0) (B := B_is_tuple_up_to) S sc_is_tuple_up_to rfl rfl (fun _ _ _ _ _ _ us hl => match us, hl with | [_, _, _], _ => rfl) fun f cdv A outer s' H E hr => ?_
  have nd := sc_is_tuple_up_to.nd
  have tk : Takes (cxOf (L2.CX P w) P w K mg base ["value", "low", "high"] "is_tuple_up_to" (defScope s_is_tuple_up_to) f cdv A outer s' H E) (Wd E) := takes_of rfl rfl rfl rfl
  exact s_one (s_ret (g_vand (g_isi .tup (g_var 0 (pv 0)) (fun h => pe_callB call_isi (by rfl) T.isinstance bt_isinstance (pa_cons h (pa_cons (pe_bltn (by rfl) T.tuple bt_tuple rfl) pa_nil)))) (g_one (g_chain (pe_chain (o_le hr.units0) (o_le hr.units0) (g_var 1 (pv 1)) (g_blt (pe_callB c_len (by rfl) T.len bt_len (g_cons (g_var 0 (pv 0)) (g_nil) rfl)) v_len) (g_var 2 (pv 2))) v_le v_le))))
theorem ok_is_tuple_of (T : Bt mg) (XX : Xt K mg) (S : Std K mg "is_tuple_of" "is_tuple_of" s_is_tuple_of) (c_is_tuple_up_to : Kn P w K mg base "is_tuple_up_to" s_is_tuple_up_to ["value", "low", "high"] 1 F_is_tuple_up_to) : Kn P w K mg base "is_tuple_of" s_is_tuple_of ["value", "many"] 2 F_is_tuple_of := by
  refine kn_of (N := ["value", "many"]) (k := 1) (B := B_is_tuple_of) S sc_is_tuple_of rfl rfl (fun _ _ _ _ _ _ us hl => match us, hl with | [_, _], _ => rfl) fun f cdv A outer s' H E hr => ?_
  have nd := sc_is_tuple_of.nd
  have tk : Takes (cxOf (L2.CX P w) P w K mg base ["value", "many"] "is_tuple_of" (defScope s_is_tuple_of) f cdv A outer s' H E) (Wd E) := takes_of rfl rfl rfl rfl
  exact s_one (s_ret (g_calln c_is_tuple_up_to (hr.mono (by decide)) (by rfl) tk (g_cons (g_var 0 (pv 0)) (g_cons (g_var 1 (pv 1)) (g_cons (g_var 1 (pv 1)) (g_nil) rfl) rfl) rfl) (by decide) rfl rfl))
theorem ok_is_pair (T : Bt mg) (XX : Xt K mg) (S : Std K mg "is_pair" "is_pair" s_is_pair) (c_is_tuple_of : Kn P w K mg base "is_tuple_of" s_is_tuple_of ["value", "many"] 2 F_is_tuple_of) : Kn P w K mg base "is_pair" s_is_pair ["value"] 3 F_is_pair := by
  refine kn_of (N := ["value"]) (k := 2) (B := B_is_pair) S sc_is_pair rfl rfl (fun _ _ _ _ _ _ us hl => match us, hl with | [_], _ => rfl) fun f cdv A outer s' H E hr => ?_
  have nd := sc_is_pair.nd
  have tk : Takes (cxOf (L2.CX P w) P w K mg base ["value"] "is_pair" (defScope s_is_pair) f cdv A outer s' H E) (Wd E) := takes_of rfl rfl rfl rfl
  exact s_one (s_ret (g_calln c_is_tuple_of (hr.mono (by decide)) (by rfl) tk (g_cons (g_var 0 (pv 0)) (g_cons (g_int) (g_nil) rfl) rfl) (by decide) rfl rfl))
theorem ok_is_track_of (T : Bt mg) (XX : Xt K mg) (S : Std K mg "is_track_of" "is_track_of" s_is_track_of) (c_is_tuple_up_to : Kn P w K mg base "is_tuple_up_to" s_is_tuple_up_to ["value", "low", "high"] 1 F_is_tuple_up_to) (c_is_from : Kn P w K mg base "is_from" s_is_from ["value", "least"] 2 F_is_from) : Kn P w K mg base "is_track_of" s_is_track_of ["value"] 3 F_is_track_of := by
  refine kn_of (N := ["value", "each"]) (k := 2) (B := B_is_track_of) S sc_is_track_of rfl rfl (fun _ _ _ _ _ _ us hl => match us, hl with | [_], _ => rfl) fun f cdv A outer s' H E hr => ?_
  have nd := sc_is_track_of.nd
  have tk : Takes (cxOf (L2.CX P w) P w K mg base ["value", "each"] "is_track_of" (defScope s_is_track_of) f cdv A outer s' H E) (Wd E) := takes_of rfl rfl rfl rfl
  exact s_one (s_ret (g_vand (g_calln c_is_tuple_up_to (hr.mono (by decide)) (by rfl) tk (g_cons (g_var 0 (pv 0)) (g_cons (g_int) (g_cons (g_globI (by rfl) T.MOST_MATS (by decide)) (g_nil) rfl) rfl) rfl) (by decide) rfl rfl) (g_one (g_blt (pe_callB (cq_all rfl) (by rfl) T.all bt_all (g_cons (g_lc (by decide) (pe_lc (own := [("each", 1)]) rfl nd (g_iter (g_var 0 (pv 0))) (blkOk_by (N := ["value", "each"]) (sc := defScope s_is_track_of) (by decide +kernel)) (fun _ _ _ _ _ => pg_name (i := 1) nd rfl (by first | exact .inl rfl | exact .inr rfl)) (fun _ _ _ _ _ => g_yes) (fun _ _ _ _ _ => g_calln c_is_from (hr.mono (by decide)) (by rfl) takes0 (g_cons (g_var 1 (pv 1)) (g_cons (g_int) (g_nil) rfl) rfl) (by decide) rfl rfl))) (g_nil) rfl)) v_all))))
theorem ok_is_mat_of (T : Bt mg) (XX : Xt K mg) (S : Std K mg "is_mat_of" "is_mat_of" s_is_mat_of) (c_is_up_to : Kn P w K mg base "is_up_to" s_is_up_to ["value", "most"] 3 F_is_up_to) : Kn P w K mg base "is_mat_of" s_is_mat_of ["track", "value"] 4 F_is_mat_of := by
  refine kn_of (N := ["track", "value"]) (k := 3) (B := B_is_mat_of) S sc_is_mat_of rfl rfl (fun _ _ _ _ _ _ us hl => match us, hl with | [_, _], _ => rfl) fun f cdv A outer s' H E hr => ?_
  have nd := sc_is_mat_of.nd
  have tk : Takes (cxOf (L2.CX P w) P w K mg base ["track", "value"] "is_mat_of" (defScope s_is_mat_of) f cdv A outer s' H E) (Wd E) := takes_of rfl rfl rfl rfl
  exact s_one (s_ret (g_calln c_is_up_to (hr.mono (by decide)) (by rfl) tk (g_cons (g_var 1 (pv 1)) (g_cons (g_op op_sub v_sub (g_blt (pe_callB c_len (by rfl) T.len bt_len (g_cons (g_var 0 (pv 0)) (g_nil) rfl)) v_len) (g_int)) (g_nil) rfl) rfl) (by decide) rfl rfl))
theorem ok_is_mark_of (T : Bt mg) (XX : Xt K mg) (S : Std K mg "is_mark_of" "is_mark_of" s_is_mark_of) (c_is_pair : Kn P w K mg base "is_pair" s_is_pair ["value"] 3 F_is_pair) (c_is_from : Kn P w K mg base "is_from" s_is_from ["value", "least"] 2 F_is_from) (c_is_mat_of : Kn P w K mg base "is_mat_of" s_is_mat_of ["track", "value"] 4 F_is_mat_of) : Kn P w K mg base "is_mark_of" s_is_mark_of ["track", "value"] 5 F_is_mark_of := by
  refine kn_of (N := ["track", "value"]) (k := 4) (B := B_is_mark_of) S sc_is_mark_of rfl rfl (fun _ _ _ _ _ _ us hl => match us, hl with | [_, _], _ => rfl) fun f cdv A outer s' H E hr => ?_
  have nd := sc_is_mark_of.nd
  have tk : Takes (cxOf (L2.CX P w) P w K mg base ["track", "value"] "is_mark_of" (defScope s_is_mark_of) f cdv A outer s' H E) (Wd E) := takes_of rfl rfl rfl rfl
  exact s_one (s_ret (g_vand (g_calln c_is_pair (hr.mono (by decide)) (by rfl) tk (g_cons (g_var 1 (pv 1)) (g_nil) rfl) (by decide) rfl rfl) (g_vand (g_calln c_is_from (hr.mono (by decide)) (by rfl) tk (g_cons (g_ix (g_var 1 (pv 1)) (g_int) (fun _ _ => rfl)) (g_cons (g_int) (g_nil) rfl) rfl) (by decide) rfl rfl) (g_one (g_calln c_is_mat_of (hr.mono (by decide)) (by rfl) tk (g_cons (g_var 0 (pv 0)) (g_cons (g_ix (g_var 1 (pv 1)) (g_int) (fun _ _ => rfl)) (g_nil) rfl) rfl) (by decide) rfl rfl)))))
theorem ok_check_track (T : Bt mg) (XX : Xt K mg) (S : Std K mg "check_track" "check_track" s_check_track) (c_is_track_of : Kn P w K mg base "is_track_of" s_is_track_of ["value"] 3 F_is_track_of) : Kn P w K mg base "check_track" s_check_track ["track"] 4 F_check_track := by
  refine kn_of (N := ["track"]) (k := 3) (B := B_check_track) S sc_check_track rfl rfl (fun _ _ _ _ _ _ us hl => match us, hl with | [_], _ => rfl) fun f cdv A outer s' H E hr => ?_
  have nd := sc_check_track.nd
  have tk : Takes (cxOf (L2.CX P w) P w K mg base ["track"] "check_track" (defScope s_check_track) f cdv A outer s' H E) (Wd E) := takes_of rfl rfl rfl rfl
  exact s_one (s_if (g_tnot (g_tval (g_calln c_is_track_of (hr.mono (by decide)) (by rfl) tk (g_cons (g_var 0 (pv 0)) (g_nil) rfl) (by decide) rfl rfl) (by intro _; rfl))) (s_one (s_raise rfl XX.r_InvalidTrack hr tk (g_var 0 (pv 0)) (by rfl) (by decide) rfl rfl)) (s_nil))
theorem ok_check_mark (T : Bt mg) (XX : Xt K mg) (S : Std K mg "check_mark" "check_mark" s_check_mark) (c_is_mark_of : Kn P w K mg base "is_mark_of" s_is_mark_of ["track", "value"] 5 F_is_mark_of) : Kn P w K mg base "check_mark" s_check_mark ["track", "mark"] 6 F_check_mark := by
  refine kn_of (N := ["track", "mark"]) (k := 5) (B := B_check_mark) S sc_check_mark rfl rfl (fun _ _ _ _ _ _ us hl => match us, hl with | [_, _], _ => rfl) fun f cdv A outer s' H E hr => ?_
  have nd := sc_check_mark.nd
  have tk : Takes (cxOf (L2.CX P w) P w K mg base ["track", "mark"] "check_mark" (defScope s_check_mark) f cdv A outer s' H E) (Wd E) := takes_of rfl rfl rfl rfl
  exact s_one (s_if (g_tnot (g_tval (g_calln c_is_mark_of (hr.mono (by decide)) (by rfl) tk (g_cons (g_var 0 (pv 0)) (g_cons (g_var 1 (pv 1)) (g_nil) rfl) rfl) (by decide) rfl rfl) (by intro _; rfl))) (s_one (s_raise rfl XX.r_InvalidMark hr tk (g_var 1 (pv 1)) (by rfl) (by decide) rfl rfl)) (s_nil))
theorem ok_can_follow (T : Bt mg) (XX : Xt K mg) (S : Std K mg "can_follow" "can_follow" s_can_follow) (c_check_track : Kn P w K mg base "check_track" s_check_track ["track"] 4 F_check_track) (c_check_mark : Kn P w K mg base "check_mark" s_check_mark ["track", "mark"] 6 F_check_mark) (c_can_follow_by : Kn P w K mg base "can_follow_by" s_can_follow_by ["track", "mark", "other"] 4 F_can_follow_by) : Kn P w K mg base "can_follow" s_can_follow ["track", "mark", "other"] 7 F_can_follow := by
  refine kn_of (N := ["track", "mark", "other"]) (k := 6) (B := B_can_follow) S sc_can_follow rfl rfl (fun _ _ _ _ _ _ us hl => match us, hl with | [_, _, _], _ => rfl) fun f cdv A outer s' H E hr => ?_
  have nd := sc_can_follow.nd
  have tk : Takes (cxOf (L2.CX P w) P w K mg base ["track", "mark", "other"] "can_follow" (defScope s_can_follow) f cdv A outer s' H E) (Wd E) := takes_of rfl rfl rfl rfl
  exact s_cons (s_expr (g_calln c_check_track (hr.mono (by decide)) (by rfl) tk (g_cons (g_var 0 (pv 0)) (g_nil) rfl) (by decide) rfl rfl) rfl) (s_cons (s_expr (g_calln c_check_mark (hr.mono (by decide)) (by rfl) tk (g_cons (g_var 0 (pv 0)) (g_cons (g_var 1 (pv 1)) (g_nil) rfl) rfl) (by decide) rfl rfl) rfl) (s_cons (s_expr (g_calln c_check_mark (hr.mono (by decide)) (by rfl) tk (g_cons (g_var 0 (pv 0)) (g_cons (g_var 2 (pv 2)) (g_nil) rfl) rfl) (by decide) rfl rfl) rfl) (s_one (s_ret (g_calln c_can_follow_by (hr.mono (by decide)) (by rfl) tk (g_cons (g_var 0 (pv 0)) (g_cons (g_var 1 (pv 1)) (g_cons (g_var 2 (pv 2)) (g_nil) rfl) rfl) rfl) (by decide) rfl rfl)))))
theorem ok__law_pool (T : Bt mg) (XX : Xt K mg) (S : Std K mg "_law_pool" "_law_pool" s__law_pool) : Kn P w K mg base "_law_pool" s__law_pool ["script", "lap"] 1 F__law_pool := by
  refine kn_of (N := ["script", "lap", "cell", "stirred", "each"]) (k := 0) (B := B__law_pool) S sc__law_pool rfl rfl (fun _ _ _ _ _ _ us hl => match us, hl with | [_, _], _ => rfl) fun f cdv A outer s' H E hr => ?_
  have nd := sc__law_pool.nd
  have tk : Takes (cxOf (L2.CX P w) P w K mg base ["script", "lap", "cell", "stirred", "each"] "_law_pool" (defScope s__law_pool) f cdv A outer s' H E) (Wd E) := takes_of rfl rfl rfl rfl
  exact s_cons (s_set (ps_set (i := 2) nd rfl (.inl rfl) (g_if (g_tcmp (o_lt hr.units0) v_lt (g_var 1 (pv 1)) (g_blt (pe_callB c_len (by rfl) T.len bt_len (g_cons (g_var 0 (pv 0)) (g_nil) rfl)) v_len) (nomark _)) (g_blt (pe_callTy call_int1 (by rfl) T.int bt_int (g_cons (g_ix (g_var 0 (pv 0)) (g_var 1 (pv 1)) (fun _ _ => rfl)) (g_nil) rfl)) v_int) (g_op o_add v_add (g_op o_mul v_mul (g_int) (g_var 1 (pv 1))) (g_int))))) (s_cons (s_set (ps_set (i := 3) nd rfl (.inl rfl) (g_op o_add v_add (g_int) (g_op o_mul v_mul (g_int) (g_var 1 (pv 1)))))) (s_cons (s_for (ps_for (passes_of rfl) rfl (g_iter (g_slice (g_var 0 (pv 0)) (g_no) (g_some (g_int)))) (t_tg (t := .nm 4) (pg_name (i := 4) nd rfl (by first | exact .inl rfl | exact .inr rfl))) (s_one (s_set (ps_set (i := 3) nd rfl (.inl rfl) (g_op op_mod v_mod (g_blt (pe_callTy call_int1 (by rfl) T.int bt_int (g_cons (g_op o_add v_add (g_op o_add v_add (g_op o_mul v_mul (g_var 3 (pv 3)) (g_int)) (g_op op_mod v_mod (g_blt (pe_callTy call_int1 (by rfl) T.int bt_int (g_cons (g_var 4 (pv 4)) (g_nil) rfl)) v_int) (g_int))) (g_int)) (g_nil) rfl)) v_int) (g_int))))))) (s_cons (s_set (ps_set (i := 3) nd rfl (.inl rfl) (g_op op_mod v_mod (g_blt (pe_callTy call_int1 (by rfl) T.int bt_int (g_cons (g_op o_add v_add (g_op o_add v_add (g_op o_mul v_mul (g_var 3 (pv 3)) (g_int)) (g_op o_mul v_mul (g_op op_mod v_mod (g_blt (pe_callTy call_int1 (by rfl) T.int bt_int (g_cons (g_var 2 (pv 2)) (g_nil) rfl)) v_int) (g_int)) (g_int))) (g_int)) (g_nil) rfl)) v_int) (g_int)))) (s_one (s_ret (g_mut (g_cons (g_if ((g_or (g_tcmp (o_lt hr.units0) v_lt (g_var 2 (pv 2)) (g_int) (nomark _)) (g_or1 (g_tcmp op_ge (v_cmpI _) (g_var 2 (pv 2)) (g_op op_pow v_pow (g_int) (g_int)) (nomark _)))).pt) (g_op op_mod v_mod (g_blt (pe_callTy call_int1 (by rfl) T.int bt_int (g_cons (g_blt (pe_callB call_abs (by rfl) T.abs bt_abs (g_cons (g_var 2 (pv 2)) (g_nil) rfl)) v_abs) (g_nil) rfl)) v_int) (g_op op_pow v_pow (g_int) (g_int))) (g_int)) (g_cons (g_var 3 (pv 3)) (g_cons (g_int) (g_nil) rfl) rfl) rfl)))))))
theorem ok__law_below (T : Bt mg) (XX : Xt K mg) (S : Std K mg "_law_below" "_law_below" s__law_below) : Kn P w K mg base "_law_below" s__law_below ["pool", "many"] 1 F__law_below := by
  refine kn_of (N := ["pool", "many", "figure", "stirred"]) (k := 0) (B := B__law_below) S sc__law_below rfl rfl (fun _ _ _ _ _ _ us hl => match us, hl with | [_, _], _ => rfl) fun f cdv A outer s' H E hr => ?_
  have nd := sc__law_below.nd
  have tk : Takes (cxOf (L2.CX P w) P w K mg base ["pool", "many", "figure", "stirred"] "_law_below" (defScope s__law_below) f cdv A outer s' H E) (Wd E) := takes_of rfl rfl rfl rfl
  exact s_cons (s_if (g_tcmp op_gt (v_cmpI _) (g_ix (g_var 0 (pv 0)) (g_int) (fun _ _ => rfl)) (g_int) (nomark _)) (s_cons (s_asg (ps_asg (g_blt (pe_callB c_divmod (by rfl) T.divmod bt_divmod (g_cons (g_ix (g_var 0 (pv 0)) (g_int) (fun _ _ => rfl)) (g_cons (g_var 1 (pv 1)) (g_nil) rfl) rfl)) v_divmod) (t_tup (pg_tup rfl (t_cons (t_sub (g_var 0 (pv 0)) (g_int) (pg_sub (g_var 0 (pv 0)) (g_int) set_list)) (t_cons (t_name (pg_name (i := 2) nd rfl (.inl rfl))) (t_nil) rfl) rfl))))) (s_one (s_ret (g_var 2 (pv 2))))) (s_nil)) (s_cons (s_asg (ps_asg (g_op o_add v_add (g_ix (g_var 0 (pv 0)) (g_int) (fun _ _ => rfl)) (g_int)) (t_sub (g_var 0 (pv 0)) (g_int) (pg_sub (g_var 0 (pv 0)) (g_int) set_list)))) (s_cons (s_set (ps_set (i := 3) nd rfl (.inl rfl) (g_op op_mod v_mod (g_blt (pe_callTy call_int1 (by rfl) T.int bt_int (g_cons (g_op o_add v_add (g_op o_add v_add (g_op o_mul v_mul (g_ix (g_var 0 (pv 0)) (g_int) (fun _ _ => rfl)) (g_int)) (g_op o_mul v_mul (g_int) (g_ix (g_var 0 (pv 0)) (g_int) (fun _ _ => rfl)))) (g_int)) (g_nil) rfl)) v_int) (g_int)))) (s_cons (s_asg (ps_asg (g_op op_mod v_mod (g_blt (pe_callTy call_int1 (by rfl) T.int bt_int (g_cons (g_op o_add v_add (g_op o_mul v_mul (g_var 3 (pv 3)) (g_op o_add v_add (g_op op_mod v_mod (g_blt (pe_callTy call_int1 (by rfl) T.int bt_int (g_cons (g_var 3 (pv 3)) (g_nil) rfl)) v_int) (g_int)) (g_int))) (g_ix (g_var 0 (pv 0)) (g_int) (fun _ _ => rfl))) (g_nil) rfl)) v_int) (g_int)) (t_sub (g_var 0 (pv 0)) (g_int) (pg_sub (g_var 0 (pv 0)) (g_int) set_list)))) (s_one (s_ret (g_op op_mod v_mod (g_blt (pe_callTy call_int1 (by rfl) T.int bt_int (g_cons (g_op op_fdivW v_fdiv (g_ix (g_var 0 (pv 0)) (g_int) (fun _ _ => rfl)) (g_int)) (g_nil) rfl)) v_int) (g_var 1 (pv 1))))))))
theorem ok__law_one (T : Bt mg) (XX : Xt K mg) (S : Std K mg "_law_one" "_law_one" s__law_one) (c__law_below : Kn P w K mg base "_law_below" s__law_below ["pool", "many"] 1 F__law_below) : Kn P w K mg base "_law_one" s__law_one ["pool", "some"] 2 F__law_one := by
  refine kn_of (N := ["pool", "some"]) (k := 1) (B := B__law_one) S sc__law_one rfl rfl (fun _ _ _ _ _ _ us hl => match us, hl with | [_, _], _ => rfl) fun f cdv A outer s' H E hr => ?_
  have nd := sc__law_one.nd
  have tk : Takes (cxOf (L2.CX P w) P w K mg base ["pool", "some"] "_law_one" (defScope s__law_one) f cdv A outer s' H E) (Wd E) := takes_of rfl rfl rfl rfl
  exact s_one (s_ret (g_ix (g_var 1 (pv 1)) (g_calln c__law_below (hr.mono (by decide)) (by rfl) tk (g_cons (g_var 0 (pv 0)) (g_cons (g_blt (pe_callB c_len (by rfl) T.len bt_len (g_cons (g_var 1 (pv 1)) (g_nil) rfl)) v_len) (g_nil) rfl) rfl) (by decide) rfl rfl) (fun _ _ => rfl)))
theorem ok__law_reach (T : Bt mg) (XX : Xt K mg) (S : Std K mg "_law_reach" "_law_reach" s__law_reach) : Kn P w K mg base "_law_reach" s__law_reach ["track", "mat", "number"] 1 F__law_reach := by
  refine kn_of (N := ["track", "mat", "number", "many", "rounds", "rest", "each"]) (k := 0) (B := B__law_reach) S sc__law_reach rfl rfl (fun _ _ _ _ _ _ us hl => match us, hl with | [_, _, _], _ => rfl) fun f cdv A outer s' H E hr => ?_
  have nd := sc__law_reach.nd
  have tk : Takes (cxOf (L2.CX P w) P w K mg base ["track", "mat", "number", "many", "rounds", "rest", "each"] "_law_reach" (defScope s__law_reach) f cdv A outer s' H E) (Wd E) := takes_of rfl rfl rfl rfl
  exact s_cons (s_set (ps_set (i := 3) nd rfl (.inr rfl) (g_blt (pe_callB c_len (by rfl) T.len bt_len (g_cons (g_var 0 (pv 0)) (g_nil) rfl)) v_len))) (s_cons (s_par (ps_par (i := 4) (j := 5) rfl nd rfl rfl (by decide) rfl rfl (g_cons (g_op op_fdivW v_fdiv (g_var 2 (pv 2)) (g_var 3 (pv 3))) (g_cons (g_op op_mod v_mod (g_blt (pe_callTy call_int1 (by rfl) T.int bt_int (g_cons (g_var 2 (pv 2)) (g_nil) rfl)) v_int) (g_var 3 (pv 3))) (g_nil) rfl) rfl) (by rfl))) (s_one (s_ret (g_op o_add v_add (g_op o_mul v_mul (g_var 4 (pv 4)) (g_blt (pe_callB (cq_sum rfl) (by rfl) T.sum bt_sum (g_cons (g_var 0 (pv 0)) (g_nil) rfl)) v_sum)) (g_blt (pe_callB (cq_sum rfl) (by rfl) T.sum bt_sum (g_cons (g_lc (by decide) (pe_lc (own := [("each", 6)]) rfl nd (g_range1 (pi_range1 (by rfl) T.range (g_cons (g_var 5 (pv 5)) (g_nil) rfl))) (blkOk_by (N := ["track", "mat", "number", "many", "rounds", "rest", "each"]) (sc := defScope s__law_reach) (by decide +kernel)) (fun _ _ _ _ _ => pg_name (i := 6) nd rfl (by first | exact .inl rfl | exact .inr rfl)) (fun _ _ _ _ _ => g_yes) (fun _ _ _ _ _ => g_ix (g_var 0 (pv 0)) (g_op op_mod v_mod (g_blt (pe_callTy call_int1 (by rfl) T.int bt_int (g_cons (g_op o_add v_add (g_var 1 (pv 1)) (g_var 6 (pv 6))) (g_nil) rfl)) v_int) (g_var 3 (pv 3))) (fun _ _ => rfl)))) (g_nil) rfl)) v_sum)))))
theorem ok__law_steps (T : Bt mg) (XX : Xt K mg) (S : Std K mg "_law_steps" "_law_steps" s__law_steps) : Kn P w K mg base "_law_steps" s__law_steps ["track", "mat", "other"] 1 F__law_steps_v2 := by
  refine kn_of (N := ["track", "mat", "other"]) (k := 0) (B := B__law_steps_v2) S sc__law_steps rfl rfl (fun _ _ _ _ _ _ us hl => match us, hl with | [_, _, _], _ => rfl) fun f cdv A outer s' H E hr => ?_
  have nd := sc__law_steps.nd
  have tk : Takes (cxOf (L2.CX P w) P w K mg base ["track", "mat", "other"] "_law_steps" (defScope s__law_steps) f cdv A outer s' H E) (Wd E) := takes_of rfl rfl rfl rfl
  exact s_one (s_ret (g_op o_add v_add (g_int) (g_op op_mod v_mod (g_blt (pe_callTy call_int1 (by rfl) T.int bt_int (g_cons (g_op op_sub v_sub (g_op op_sub v_sub (g_var 2 (pv 2)) (g_var 1 (pv 1))) (g_int)) (g_nil) rfl)) v_int) (g_blt (pe_callB c_len (by rfl) T.len bt_len (g_cons (g_var 0 (pv 0)) (g_nil) rfl)) v_len))))
theorem ok__law_way (T : Bt mg) (XX : Xt K mg) (S : Std K mg "_law_way" "_law_way" s__law_way) (c__law_reach : Kn P w K mg base "_law_reach" s__law_reach ["track", "mat", "number"] 1 F__law_reach) (c__law_steps : Kn P w K mg base "_law_steps" s__law_steps ["track", "mat", "other"] 1 F__law_steps_v2) : Kn P w K mg base "_law_way" s__law_way ["track", "mat", "other"] 2 F__law_way := by
  refine kn_of (N := ["track", "mat", "other"]) (k := 1) (B := B__law_way) S sc__law_way rfl rfl (fun _ _ _ _ _ _ us hl => match us, hl with | [_, _, _], _ => rfl) fun f cdv A outer s' H E hr => ?_
  have nd := sc__law_way.nd
  have tk : Takes (cxOf (L2.CX P w) P w K mg base ["track", "mat", "other"] "_law_way" (defScope s__law_way) f cdv A outer s' H E) (Wd E) := takes_of rfl rfl rfl rfl
  exact s_one (s_ret (g_calln c__law_reach (hr.mono (by decide)) (by rfl) tk (g_cons (g_var 0 (pv 0)) (g_cons (g_var 1 (pv 1)) (g_cons (g_calln c__law_steps (hr.mono (by decide)) (by rfl) tk (g_cons (g_var 0 (pv 0)) (g_cons (g_var 1 (pv 1)) (g_cons (g_var 2 (pv 2)) (g_nil) rfl) rfl) rfl) (by decide) rfl rfl) (g_nil) rfl) rfl) rfl) (by decide) rfl rfl))
theorem ok__law_great (T : Bt mg) (XX : Xt K mg) (S : Std K mg "_law_great" "_law_great" s__law_great) (c__law_below : Kn P w K mg base "_law_below" s__law_below ["pool", "many"] 1 F__law_below) : Kn P w K mg base "_law_great" s__law_great ["pool", "wide"] 2 F__law_great := by
  refine kn_of (N := ["pool", "wide", "found", "lap"]) (k := 1) (B := B__law_great) S sc__law_great rfl rfl (fun _ _ _ _ _ _ us hl => match us, hl with | [_, _], _ => rfl) fun f cdv A outer s' H E hr => ?_
  have nd := sc__law_great.nd
  have tk : Takes (cxOf (L2.CX P w) P w K mg base ["pool", "wide", "found", "lap"] "_law_great" (defScope s__law_great) f cdv A outer s' H E) (Wd E) := takes_of rfl rfl rfl rfl
  exact s_cons (s_set (ps_set (i := 2) nd rfl (.inl rfl) (g_int))) (s_cons (s_for (ps_for (passes_of rfl) rfl (g_range1 (pi_range1 (by rfl) T.range (g_cons (g_int) (g_nil) rfl))) (t_tg (t := .nm 3) (pg_name (i := 3) nd rfl (by first | exact .inl rfl | exact .inr rfl))) (s_one (s_set (ps_set (i := 2) nd rfl (.inl rfl) (g_op o_add v_add (g_op o_mul v_mul (g_var 2 (pv 2)) (g_int)) (g_calln c__law_below (hr.mono (by decide)) (by rfl) tk (g_cons (g_var 0 (pv 0)) (g_cons (g_int) (g_nil) rfl) rfl) (by decide) rfl rfl))))))) (s_one (s_ret (g_op op_mod v_mod (g_blt (pe_callTy call_int1 (by rfl) T.int bt_int (g_cons (g_var 2 (pv 2)) (g_nil) rfl)) v_int) (g_op o_add v_add (g_var 1 (pv 1)) (g_int))))))
theorem ok__law_track (T : Bt mg) (XX : Xt K mg) (S : Std K mg "_law_track" "_law_track" s__law_track) (c__law_below : Kn P w K mg base "_law_below" s__law_below ["pool", "many"] 1 F__law_below) (c__law_great : Kn P w K mg base "_law_great" s__law_great ["pool", "wide"] 2 F__law_great) : Kn P w K mg base "_law_track" s__law_track ["pool", "wide"] 3 F__law_track := by
  refine kn_of (N := ["pool", "wide", "lap"]) (k := 2) (B := B__law_track) S sc__law_track rfl rfl (fun _ _ _ _ _ _ us hl => match us, hl with | [_, _], _ => rfl) fun f cdv A outer s' H E hr => ?_
  have nd := sc__law_track.nd
  have tk : Takes (cxOf (L2.CX P w) P w K mg base ["pool", "wide", "lap"] "_law_track" (defScope s__law_track) f cdv A outer s' H E) (Wd E) := takes_of rfl rfl rfl rfl
  exact s_one (s_ret (g_blt (pe_callTy call_tuple_of (by rfl) T.tuple bt_tuple (g_cons (g_lc (by decide) (pe_lc (own := [("lap", 2)]) rfl nd (g_range1 (pi_range1 (by rfl) T.range (g_cons (g_op o_add v_add (g_int) (g_calln c__law_below (hr.mono (by decide)) (by rfl) tk (g_cons (g_var 0 (pv 0)) (g_cons (g_int) (g_nil) rfl) rfl) (by decide) rfl rfl)) (g_nil) rfl))) (blkOk_by (N := ["pool", "wide", "lap"]) (sc := defScope s__law_track) (by decide +kernel)) (fun _ _ _ _ _ => pg_name (i := 2) nd rfl (by first | exact .inl rfl | exact .inr rfl)) (fun _ _ _ _ _ => g_yes) (fun _ _ _ _ _ => g_op o_add v_add (g_int) (g_calln c__law_great (hr.mono (by decide)) (by rfl) takes0 (g_cons (g_var 0 (pv 0)) (g_cons (g_op op_sub v_sub (g_var 1 (pv 1)) (g_int)) (g_nil) rfl) rfl) (by decide) rfl rfl)))) (g_nil) rfl)) v_tuple))
theorem ok__law_can_follow (T : Bt mg) (XX : Xt K mg) (S : Std K mg "_law_can_follow" "_law_can_follow" s__law_can_follow) (c__law_way : Kn P w K mg base "_law_way" s__law_way ["track", "mat", "other"] 2 F__law_way) : Kn P w K mg base "_law_can_follow" s__law_can_follow ["track", "one", "two"] 3 F__law_can_follow := by
  refine kn_of (N := ["track", "one", "two"]) (k := 2) (B := B__law_can_follow) S sc__law_can_follow rfl rfl (fun _ _ _ _ _ _ us hl => match us, hl with | [_, _, _], _ => rfl) fun f cdv A outer s' H E hr => ?_
  have nd := sc__law_can_follow.nd
  have tk : Takes (cxOf (L2.CX P w) P w K mg base ["track", "one", "two"] "_law_can_follow" (defScope s__law_can_follow) f cdv A outer s' H E) (Wd E) := takes_of rfl rfl rfl rfl
  exact s_one (s_ret (g_cmp op_ge (v_cmpI _) (g_op op_sub v_sub (g_ix (g_var 1 (pv 1)) (g_int) (fun _ _ => rfl)) (g_ix (g_var 2 (pv 2)) (g_int) (fun _ _ => rfl))) (g_calln c__law_way (hr.mono (by decide)) (by rfl) tk (g_cons (g_var 0 (pv 0)) (g_cons (g_ix (g_var 2 (pv 2)) (g_int) (fun _ _ => rfl)) (g_cons (g_ix (g_var 1 (pv 1)) (g_int) (fun _ _ => rfl)) (g_nil) rfl) rfl) rfl) (by decide) rfl rfl) (nomark _)))
theorem ok__law_same (T : Bt mg) (XX : Xt K mg) (S : Std K mg "_law_same" "_law_same" s__law_same) : Kn P w K mg base "_law_same" s__law_same ["told", "due"] 21 F__law_same := by
  have all : ∀ n, Kn P w K mg base "_law_same" s__law_same ["told", "due"] (1 + n) (R__law_same n) := by
    intro n
    induction n with
    | zero => exact kn_fail S (fun _ _ _ _ _ _ us hl => match us, hl with | [_, _], _ => rfl)
    | succ j c__law_same =>
      refine kn_of (N := ["told", "due", "x", "y"]) (k := 1 + j) (B := B__law_same (R__law_same j)) S sc__law_same rfl rfl (fun _ _ _ _ _ _ us hl => match us, hl with | [_, _], _ => rfl) fun f cdv A outer s' H E hr => ?_
      have nd := sc__law_same.nd
      have tk : Takes (cxOf (L2.CX P w) P w K mg base ["told", "due", "x", "y"] "_law_same" (defScope s__law_same) f cdv A outer s' H E) (Wd E) := takes_of rfl rfl rfl rfl
      exact s_cons (s_if (g_tcmp op_isN v_isN (g_var 1 (pv 1)) (g_non) (nomark _)) (s_one (s_ret (g_cmp op_isN v_isN (g_var 0 (pv 0)) (g_non) (nomark _)))) (s_nil)) (s_cons (s_if (g_tval (g_isi .bl (g_var 1 (pv 1)) (fun h => pe_callB call_isi (by rfl) T.isinstance bt_isinstance (pa_cons h (pa_cons (pe_bltn (by rfl) T.bool bt_bool rfl) pa_nil)))) (by intro _; rfl)) (s_one (s_ret (g_vand (g_isi .bl (g_var 0 (pv 0)) (fun h => pe_callB call_isi (by rfl) T.isinstance bt_isinstance (pa_cons h (pa_cons (pe_bltn (by rfl) T.bool bt_bool rfl) pa_nil)))) (g_one (g_cmp (o_eq hr.units) v_eq (g_var 0 (pv 0)) (g_var 1 (pv 1)) (nomark _)))))) (s_nil)) (s_cons (s_if (g_tval (g_isi .int (g_var 1 (pv 1)) (fun h => pe_callB call_isi (by rfl) T.isinstance bt_isinstance (pa_cons h (pa_cons (pe_bltn (by rfl) T.int bt_int rfl) pa_nil)))) (by intro _; rfl)) (s_one (s_ret (g_vand (g_isi .int (g_var 0 (pv 0)) (fun h => pe_callB call_isi (by rfl) T.isinstance bt_isinstance (pa_cons h (pa_cons (pe_bltn (by rfl) T.int bt_int rfl) pa_nil)))) (g_vand (g_vnot (g_isi .bl (g_var 0 (pv 0)) (fun h => pe_callB call_isi (by rfl) T.isinstance bt_isinstance (pa_cons h (pa_cons (pe_bltn (by rfl) T.bool bt_bool rfl) pa_nil))))) (g_one (g_cmp (o_eq hr.units) v_eq (g_var 0 (pv 0)) (g_var 1 (pv 1)) (nomark _))))))) (s_nil)) (s_cons (s_if (g_tval (g_isi .str (g_var 1 (pv 1)) (fun h => pe_callB call_isi (by rfl) T.isinstance bt_isinstance (pa_cons h (pa_cons (pe_bltn (by rfl) T.str bt_str rfl) pa_nil)))) (by intro _; rfl)) (s_one (s_ret (g_vand (g_isi .str (g_var 0 (pv 0)) (fun h => pe_callB call_isi (by rfl) T.isinstance bt_isinstance (pa_cons h (pa_cons (pe_bltn (by rfl) T.str bt_str rfl) pa_nil)))) (g_one (g_cmp (o_eq hr.units) v_eq (g_var 0 (pv 0)) (g_var 1 (pv 1)) (nomark _)))))) (s_nil)) (s_cons (s_if ((g_or (g_tnot (g_tval (g_isi .tup (g_var 0 (pv 0)) (fun h => pe_callB call_isi (by rfl) T.isinstance bt_isinstance (pa_cons h (pa_cons (pe_bltn (by rfl) T.tuple bt_tuple rfl) pa_nil)))) (by intro _; rfl))) (g_or1 (g_tcmp (o_ne hr.units) v_ne (g_blt (pe_callB c_len (by rfl) T.len bt_len (g_cons (g_var 0 (pv 0)) (g_nil) rfl)) v_len) (g_blt (pe_callB c_len (by rfl) T.len bt_len (g_cons (g_var 1 (pv 1)) (g_nil) rfl)) v_len) (nomark _)))).pt) (s_one (s_ret (g_bl))) (s_nil)) (s_one (s_ret (g_blt (pe_callB (cq_all rfl) (by rfl) T.all bt_all (g_cons (g_lc (by decide) (pe_lc (own := [("x", 2), ("y", 3)]) rfl nd (g_zip (RZ.pi_zipA (by rfl) T.zip (g_cons (g_var 0 (pv 0)) (g_cons (g_var 1 (pv 1)) (g_nil) rfl) rfl))) (blkOk_by (N := ["told", "due", "x", "y"]) (sc := defScope s__law_same) (by decide +kernel)) (fun _ _ _ _ _ => pg_tl rfl (pgs_cons (pg_name (i := 2) nd rfl (by first | exact .inl rfl | exact .inr rfl)) (pgs_cons (pg_name (i := 3) nd rfl (by first | exact .inl rfl | exact .inr rfl)) (pgs_nil)))) (fun _ _ _ _ _ => g_yes) (fun _ _ _ _ _ => g_calln c__law_same (hr.mono (by omega)) (by rfl) takes0 (g_cons (g_var 2 (pv 2)) (g_cons (g_var 3 (pv 3)) (g_nil) rfl) rfl) (by decide) rfl rfl))) (g_nil) rfl)) v_all)))))))
  exact all 20
theorem ok__law_gone (T : Bt mg) (XX : Xt K mg) (S : Std K mg "_law_gone" "_law_gone" s__law_gone) : Kn P w K mg base "_law_gone" s__law_gone ["track", "one", "two"] 1 F__law_gone := by
  refine kn_of (N := ["track", "one", "two", "here", "time", "lap"]) (k := 0) (B := B__law_gone) S sc__law_gone rfl rfl (fun _ _ _ _ _ _ us hl => match us, hl with | [_, _, _], _ => rfl) fun f cdv A outer s' H E hr => ?_
  have nd := sc__law_gone.nd
  have tk : Takes (cxOf (L2.CX P w) P w K mg base ["track", "one", "two", "here", "time", "lap"] "_law_gone" (defScope s__law_gone) f cdv A outer s' H E) (Wd E) := takes_of rfl rfl rfl rfl
  exact s_cons (s_par (ps_par (i := 3) (j := 4) rfl nd rfl rfl (by decide) rfl rfl (g_cons (g_ix (g_var 2 (pv 2)) (g_int) (fun _ _ => rfl)) (g_cons (g_ix (g_var 2 (pv 2)) (g_int) (fun _ _ => rfl)) (g_nil) rfl) rfl) (by rfl))) (s_cons (s_for (ps_for (passes_of rfl) rfl (g_range1 (pi_range1 (by rfl) T.range (g_cons (g_blt (pe_callB c_len (by rfl) T.len bt_len (g_cons (g_var 0 (pv 0)) (g_nil) rfl)) v_len) (g_nil) rfl))) (t_tg (t := .nm 5) (pg_name (i := 5) nd rfl (by first | exact .inl rfl | exact .inr rfl))) (s_cons (s_par (ps_par (i := 4) (j := 3) rfl nd rfl rfl (by decide) rfl rfl (g_cons (g_op o_add v_add (g_var 4 (pv 4)) (g_ix (g_var 0 (pv 0)) (g_var 3 (pv 3)) (fun _ _ => rfl))) (g_cons (g_op op_mod v_mod (g_blt (pe_callTy call_int1 (by rfl) T.int bt_int (g_cons (g_op o_add v_add (g_var 3 (pv 3)) (g_int)) (g_nil) rfl)) v_int) (g_blt (pe_callB c_len (by rfl) T.len bt_len (g_cons (g_var 0 (pv 0)) (g_nil) rfl)) v_len)) (g_nil) rfl) rfl) (by rfl))) (s_one (s_if (g_tcmp (o_eq hr.units) v_eq (g_var 3 (pv 3)) (g_ix (g_var 1 (pv 1)) (g_int) (fun _ _ => rfl)) (nomark _)) (s_one (s_ret (g_cmp (o_le hr.units0) v_le (g_var 4 (pv 4)) (g_ix (g_var 1 (pv 1)) (g_int) (fun _ _ => rfl)) (nomark _)))) (s_nil)))))) (s_one (s_ret (g_bl))))
theorem ok__law_right (T : Bt mg) (XX : Xt K mg) (S : Std K mg "_law_right" "_law_right" s__law_right) (c__law_track : Kn P w K mg base "_law_track" s__law_track ["pool", "wide"] 3 F__law_track) (c__law_one : Kn P w K mg base "_law_one" s__law_one ["pool", "some"] 2 F__law_one) (c__law_below : Kn P w K mg base "_law_below" s__law_below ["pool", "many"] 1 F__law_below) (c__law_great : Kn P w K mg base "_law_great" s__law_great ["pool", "wide"] 2 F__law_great) (c__law_way : Kn P w K mg base "_law_way" s__law_way ["track", "mat", "other"] 2 F__law_way) (c_can_follow : Kn P w K mg base "can_follow" s_can_follow ["track", "mark", "other"] 7 F_can_follow) (c__law_same : Kn P w K mg base "_law_same" s__law_same ["told", "due"] 21 F__law_same) (c__law_gone : Kn P w K mg base "_law_gone" s__law_gone ["track", "one", "two"] 1 F__law_gone) (c__law_can_follow : Kn P w K mg base "_law_can_follow" s__law_can_follow ["track", "one", "two"] 3 F__law_can_follow) : Kn P w K mg base "_law_right" s__law_right ["pool"] 22 F__law_right := by
  refine kn_of (N := ["pool", "lap", "track", "many", "whole", "marks", "time", "mat", "other", "just", "one", "two", "told", "led", "turn", "three"]) (k := 21) (B := B__law_right) S sc__law_right rfl rfl (fun _ _ _ _ _ _ us hl => match us, hl with | [_], _ => rfl) fun f cdv A outer s' H E hr => ?_
  have nd := sc__law_right.nd
  have tk : Takes (cxOf (L2.CX P w) P w K mg base ["pool", "lap", "track", "many", "whole", "marks", "time", "mat", "other", "just", "one", "two", "told", "led", "turn", "three"] "_law_right" (defScope s__law_right) f cdv A outer s' H E) (Wd E) := takes_of rfl rfl rfl rfl
  exact s_cons (s_for (ps_for (passes_of rfl) rfl (g_range1 (pi_range1 (by rfl) T.range (g_cons (g_int) (g_nil) rfl))) (t_tg (t := .nm 1) (pg_name (i := 1) nd rfl (by first | exact .inl rfl | exact .inr rfl))) (s_cons (s_set (ps_set (i := 2) nd rfl (.inr rfl) (g_calln c__law_track (hr.mono (by decide)) (by rfl) tk (g_cons (g_var 0 (pv 0)) (g_cons (g_calln c__law_one (hr.mono (by decide)) (by rfl) tk (g_cons (g_var 0 (pv 0)) (g_cons (g_tup (g_cons (g_int) (g_cons (g_int) (g_cons (g_op op_pow v_pow (g_int) (g_int)) (g_nil) rfl) rfl) rfl)) (g_nil) rfl) rfl) (by decide) rfl rfl) (g_nil) rfl) rfl) (by decide) rfl rfl))) (s_cons (s_asg (ps_asg (g_tup (g_cons (g_blt (pe_callB c_len (by rfl) T.len bt_len (g_cons (g_var 2 (pv 2)) (g_nil) rfl)) v_len) (g_cons (g_blt (pe_callB (cq_sum rfl) (by rfl) T.sum bt_sum (g_cons (g_var 2 (pv 2)) (g_nil) rfl)) v_sum) (g_nil) rfl) rfl)) (t_tup (pg_tup rfl (t_cons (t_name (pg_name (i := 3) nd rfl (.inr rfl))) (t_cons (t_name (pg_name (i := 4) nd rfl (.inr rfl))) (t_nil) rfl) rfl))))) (s_cons (s_set (ps_set (i := 5) nd rfl (.inr rfl) (g_lc (by decide) (pe_lc (own := [("turn", 14)]) rfl nd (g_range1 (pi_range1 (by rfl) T.range (g_cons (g_int) (g_nil) rfl))) (blkOk_by (N := ["pool", "lap", "track", "many", "whole", "marks", "time", "mat", "other", "just", "one", "two", "told", "led", "turn", "three"]) (sc := defScope s__law_right) (by decide +kernel)) (fun _ _ _ _ _ => pg_name (i := 14) nd rfl (by first | exact .inl rfl | exact .inr rfl)) (fun _ _ _ _ _ => g_yes) (fun _ _ _ _ _ => g_tup (g_cons (g_calln c__law_great (hr.mono (by decide)) (by rfl) takes0 (g_cons (g_var 0 (pv 0)) (g_cons (g_op o_mul v_mul (g_int) (g_var 4 (pv 4))) (g_nil) rfl) rfl) (by decide) rfl rfl) (g_cons (g_calln c__law_below (hr.mono (by decide)) (by rfl) takes0 (g_cons (g_var 0 (pv 0)) (g_cons (g_var 3 (pv 3)) (g_nil) rfl) rfl) (by decide) rfl rfl) (g_nil) rfl) rfl)))))) (s_cons (s_asg (ps_asg (g_ix (g_var 5 (pv 5)) (g_int) (fun _ _ => rfl)) (t_tup (pg_tup rfl (t_cons (t_name (pg_name (i := 6) nd rfl (.inl rfl))) (t_cons (t_name (pg_name (i := 7) nd rfl (.inl rfl))) (t_nil) rfl) rfl))))) (s_cons (s_set (ps_set (i := 8) nd rfl (.inl rfl) (g_calln c__law_below (hr.mono (by decide)) (by rfl) tk (g_cons (g_var 0 (pv 0)) (g_cons (g_var 3 (pv 3)) (g_nil) rfl) rfl) (by decide) rfl rfl))) (s_cons (s_set (ps_set (i := 9) nd rfl (.inl rfl) (g_tup (g_cons (g_op o_add v_add (g_var 6 (pv 6)) (g_calln c__law_way (hr.mono (by decide)) (by rfl) tk (g_cons (g_var 2 (pv 2)) (g_cons (g_var 7 (pv 7)) (g_cons (g_var 8 (pv 8)) (g_nil) rfl) rfl) rfl) (by decide) rfl rfl)) (g_cons (g_var 8 (pv 8)) (g_nil) rfl) rfl)))) (s_cons (s_set (ps_set (i := 5) nd rfl (.inr rfl) (g_op o_add v_add (g_var 5 (pv 5)) (g_lst (g_cons (g_var 9 (pv 9)) (g_cons (g_tup (g_cons (g_op op_sub v_sub (g_ix (g_var 9 (pv 9)) (g_int) (fun _ _ => rfl)) (g_int)) (g_cons (g_var 8 (pv 8)) (g_nil) rfl) rfl)) (g_cons (g_tup (g_cons (g_op o_add v_add (g_var 6 (pv 6)) (g_var 4 (pv 4))) (g_cons (g_calln c__law_below (hr.mono (by decide)) (by rfl) tk (g_cons (g_var 0 (pv 0)) (g_cons (g_var 3 (pv 3)) (g_nil) rfl) rfl) (by decide) rfl rfl) (g_nil) rfl) rfl)) (g_nil) rfl) rfl) rfl))))) (s_cons (s_if ((g_or (g_tcmp op_notBl v_notB (g_calln c_can_follow (hr.mono (by decide)) (by rfl) tk (g_cons (g_var 2 (pv 2)) (g_cons (g_var 9 (pv 9)) (g_cons (g_ix (g_var 5 (pv 5)) (g_int) (fun _ _ => rfl)) (g_nil) rfl) rfl) rfl) (by decide) rfl rfl) (g_bl) (nomark _)) (g_or (g_tcmp op_notBl v_notB (g_calln c_can_follow (hr.mono (by decide)) (by rfl) tk (g_cons (g_var 2 (pv 2)) (g_cons (g_ix (g_var 5 (pv 5)) (g_int) (fun _ _ => rfl)) (g_cons (g_ix (g_var 5 (pv 5)) (g_int) (fun _ _ => rfl)) (g_nil) rfl) rfl) rfl) (by decide) rfl rfl) (g_bl) (nomark _)) (g_or1 (g_tcmp op_notBl v_notB (g_calln c_can_follow (hr.mono (by decide)) (by rfl) tk (g_cons (g_var 2 (pv 2)) (g_cons (g_ix (g_var 5 (pv 5)) (g_int) (fun _ _ => rfl)) (g_cons (g_ix (g_var 5 (pv 5)) (g_int) (fun _ _ => rfl)) (g_nil) rfl) rfl) rfl) (by decide) rfl rfl) (g_bl) (nomark _))))).pt) (s_one (s_ret (g_bl))) (s_nil)) (s_cons (s_for (ps_for (passes_of rfl) rfl (g_iter (g_var 5 (pv 5))) (t_tg (t := .nm 10) (pg_name (i := 10) nd rfl (by first | exact .inl rfl | exact .inr rfl))) (s_one (s_for (ps_for (passes_of rfl) rfl (g_iter (g_var 5 (pv 5))) (t_tg (t := .nm 11) (pg_name (i := 11) nd rfl (by first | exact .inl rfl | exact .inr rfl))) (s_cons (s_set (ps_set (i := 12) nd rfl (.inl rfl) (g_if (g_tcmp (o_eq hr.units) v_eq (g_var 1 (pv 1)) (g_int) (nomark _)) (g_callkn0 (ks := ["other", "mark", "track"]) (ix := [2, 1, 0]) c_can_follow (hr.mono (by decide)) (by rfl) tk (fun _ _ _ _ _ _ _ us ws h1 h2 => match us, ws, h1, h2 with | [], [_, _, _], _, _ => rfl) (k_cons (g_var 11 (pv 11)) (k_cons (g_var 10 (pv 10)) (k_cons (g_var 2 (pv 2)) (k_nil)))) rfl rfl (by decide) rfl) (g_calln c_can_follow (hr.mono (by decide)) (by rfl) tk (g_cons (g_var 2 (pv 2)) (g_cons (g_var 10 (pv 10)) (g_cons (g_var 11 (pv 11)) (g_nil) rfl) rfl) rfl) (by decide) rfl rfl)))) (s_one (s_if ((g_or (g_tnot (g_tval (g_calln c__law_same (hr.mono (by decide)) (by rfl) tk (g_cons (g_var 12 (pv 12)) (g_cons (g_calln c__law_gone (hr.mono (by decide)) (by rfl) tk (g_cons (g_var 2 (pv 2)) (g_cons (g_var 10 (pv 10)) (g_cons (g_var 11 (pv 11)) (g_nil) rfl) rfl) rfl) (by decide) rfl rfl) (g_nil) rfl) rfl) (by decide) rfl rfl) (by intro _; rfl))) (g_or1 ((g_and (g_tval (g_var 12 (pv 12)) (by intro _; rfl)) (g_and1 ((g_or (g_tcmp (o_eq hr.units) v_eq (g_var 10 (pv 10)) (g_var 11 (pv 11)) (nomark _)) (g_or1 (g_tval (g_calln c_can_follow (hr.mono (by decide)) (by rfl) tk (g_cons (g_var 2 (pv 2)) (g_cons (g_var 11 (pv 11)) (g_cons (g_var 10 (pv 10)) (g_nil) rfl) rfl) rfl) (by decide) rfl rfl) (by intro _; rfl)))).pt))).pt))).pt) (s_one (s_ret (g_bl))) (s_nil))))))))) (s_cons (s_set (ps_set (i := 13) nd rfl (.inr rfl) (g_newN))) (s_cons (s_for (ps_for (passes_of rfl) rfl (g_iter (g_var 5 (pv 5))) (t_tg (t := .nm 10) (pg_name (i := 10) nd rfl (by first | exact .inl rfl | exact .inr rfl))) (s_one (s_for (ps_for (passes_of rfl) rfl (g_iter (g_var 5 (pv 5))) (t_tg (t := .nm 11) (pg_name (i := 11) nd rfl (by first | exact .inl rfl | exact .inr rfl))) (s_one (s_if (g_tval (g_calln c__law_can_follow (hr.mono (by decide)) (by rfl) tk (g_cons (g_var 2 (pv 2)) (g_cons (g_var 10 (pv 10)) (g_cons (g_var 11 (pv 11)) (g_nil) rfl) rfl) rfl) (by decide) rfl rfl) (by intro _; rfl)) (s_one (s_putNS (ps_dputN (room9 hr) (g_var 13 (pv 13)) (g_tup (g_cons (g_var 10 (pv 10)) (g_cons (g_var 11 (pv 11)) (g_nil) rfl) rfl)) (g_bl) rfl))) (s_nil)))))))) (s_one (s_if (g_tval (g_blt (pe_callB (cq_any rfl) (by rfl) T.any bt_any (g_cons (g_lcN (by decide) (pe_lc (own := [("one", 10), ("two", 11)]) rfl nd (pi_keysNL (g_var 13 (pv 13))) (blkOk_by (N := ["pool", "lap", "track", "many", "whole", "marks", "time", "mat", "other", "just", "one", "two", "told", "led", "turn", "three"]) (sc := defScope s__law_right) (by decide +kernel)) (fun _ _ _ _ _ => pg_tl rfl (pgs_cons (pg_name (i := 10) nd rfl (by first | exact .inl rfl | exact .inr rfl)) (pgs_cons (pg_name (i := 11) nd rfl (by first | exact .inl rfl | exact .inr rfl)) (pgs_nil)))) (fun _ _ _ _ _ => g_yes) (fun _ _ _ _ _ => g_blt (pe_callB (cq_any rfl) (by rfl) T.any bt_any (g_cons (g_lc (by decide) (pe_lc (own := [("three", 15)]) rfl nd (g_iter (g_var 5 (pv 5))) (blkOk_by (N := ["pool", "lap", "track", "many", "whole", "marks", "time", "mat", "other", "just", "one", "two", "told", "led", "turn", "three"]) (sc := relS _ (defScope s__law_right)) (by decide +kernel)) (fun _ _ _ _ _ => pg_name (i := 15) nd rfl (by first | exact .inl rfl | exact .inr rfl)) (fun _ _ _ _ _ => g_yes) (fun _ _ _ _ _ => g_vand (g_inNF (pe_cmp (pc_dinN (room9 hr) (g_tup (g_cons (g_var 11 (pv 11)) (g_cons (g_var 15 (pv 15)) (g_nil) rfl) rfl)) (g_var 13 (pv 13))))) (g_one (g_vnot (g_calln c_can_follow (hr.mono (by decide)) (by rfl) takes0 (g_cons (g_var 2 (pv 2)) (g_cons (g_var 10 (pv 10)) (g_cons (g_var 15 (pv 15)) (g_nil) rfl) rfl) rfl) (by decide) rfl rfl)))))) (g_nil) rfl)) v_any))) (g_nil) rfl)) v_any) (by intro _; rfl)) (s_one (s_ret (g_bl))) (s_nil)))))))))))))))) (s_one (s_ret (g_bl)))
theorem ok_law (T : Bt mg) (XX : Xt K mg) (S : Std K mg "law" "law" s_law) (c__law_right : Kn P w K mg base "_law_right" s__law_right ["pool"] 22 F__law_right) (c__law_pool : Kn P w K mg base "_law_pool" s__law_pool ["script", "lap"] 1 F__law_pool) : Kn P w K mg base "law" s_law ["script"] 23 F_law := by
  refine kn_of (N := ["script", "lap"]) (k := 22) (B := B_law) S sc_law rfl rfl (fun _ _ _ _ _ _ us hl => match us, hl with | [_], _ => rfl) fun f cdv A outer s' H E hr => ?_
  have nd := sc_law.nd
  have tk : Takes (cxOf (L2.CX P w) P w K mg base ["script", "lap"] "law" (defScope s_law) f cdv A outer s' H E) (Wd E) := takes_of rfl rfl rfl rfl
  exact s_one (s_ret (g_blt (pe_callB (cq_all rfl) (by rfl) T.all bt_all (g_cons (g_lc (by decide) (pe_lc (own := [("lap", 1)]) rfl nd (g_range1 (pi_range1 (by rfl) T.range (g_cons (g_blt (pe_callB (c_max rfl) (by rfl) T.max bt_max (g_cons (g_int) (g_cons (g_blt (pe_callB (c_min rfl) (by rfl) T.min bt_min (g_cons (g_blt (pe_callB c_len (by rfl) T.len bt_len (g_cons (g_var 0 (pv 0)) (g_nil) rfl)) v_len) (g_cons (g_int) (g_nil) rfl) rfl)) v_min) (g_nil) rfl) rfl)) v_max) (g_nil) rfl))) (blkOk_by (N := ["script", "lap"]) (sc := defScope s_law) (by decide +kernel)) (fun _ _ _ _ _ => pg_name (i := 1) nd rfl (by first | exact .inl rfl | exact .inr rfl)) (fun _ _ _ _ _ => g_yes) (fun _ _ _ _ _ => g_calln c__law_right (hr.mono (by decide)) (by rfl) takes0 (g_cons (g_calln c__law_pool (hr.mono (by decide)) (by rfl) takes0 (g_cons (g_var 0 (pv 0)) (g_cons (g_var 1 (pv 1)) (g_nil) rfl) rfl) (by decide) rfl rfl) (g_nil) rfl) (by decide) rfl rfl))) (g_nil) rfl)) v_all))
end
end K09
namespace Lap
open PySem G
theorem big_ge : 2 ^ 1000 ≤ big := by unfold big; exact Nat.pow_le_pow_right (by decide) (by decide)
section
variable (st : Sto)
theorem f_round_by (ts : List Int) : F_round_by [tupI ts] st = .ok (.int ts.sum) st := by
  simp [F_round_by, runF, B_round_by]
theorem f_sectors_from (ts : List Int) (m : Nat) (hl : ts.length ≤ 100) : F_sectors_from [tupI ts, .int m] st = .ok (lstI (ts.drop m ++ ts.take m)) st := by
  have : ts.length - m + min m ts.length ≤ 16777216 := by omega
  simp [F_sectors_from, runF, B_sectors_from, cutL_from, cutL_to, this, lstI]
def reachI (ts : List Int) (m n : Nat) : Int := ((n / ts.length : Nat) : Int) * ts.sum + ((ts.drop m ++ ts.take m).take (n % ts.length)).sum
theorem f_reach_by (ts : List Int) (m n : Nat) (h0 : 0 < ts.length) (hl : ts.length ≤ 100) (hn : n < big) (hs : ts.sum.natAbs < big) : F_reach_by [tupI ts, .int m, .int n] st = .ok (.int (reachI ts m n)) st := by
  have hd := divmodF_nat st n ts.length h0 (.inl (by omega))
  have hq : n / ts.length ≤ n := Nat.div_le_self _ _
  unfold reachI
  generalize n / ts.length = q at hd hq ⊢
  generalize n % ts.length = r at hd ⊢
  have h2 : mulOk (q : Int) ts.sum := .inr (.inr ⟨by omega, hs⟩)
  simp [-divmodF_int, F_reach_by, runF, B_reach_by, f_round_by, f_sectors_from, hl, hd, h2, cutL_to]
theorem f_is_whole_int (i : Int) : F_is_whole [.int i] st = .ok (.bl true) st := by
  simp [F_is_whole, runF, B_is_whole, isiB]
theorem f_is_between (v lo hi : Int) : F_is_between [.int v, .int lo, .int hi] st = .ok (.bl (decide (lo ≤ v ∧ v ≤ hi))) st := by
  by_cases h : lo ≤ v <;> simp [F_is_between, runF, B_is_between, f_is_whole_int, h]
theorem f_is_up_to (v m : Int) : F_is_up_to [.int v, .int m] st = .ok (.bl (decide (0 ≤ v ∧ v ≤ m))) st := by
  simp [F_is_up_to, runF, B_is_up_to, f_is_between]
theorem f_is_from (v l : Int) : F_is_from [.int v, .int l] st = .ok (.bl (decide (l ≤ v))) st := by
  simp [F_is_from, runF, B_is_from, f_is_whole_int]
theorem f_is_tuple_up_to (ts : List Int) (lo hi : Int) : F_is_tuple_up_to [tupI ts, .int lo, .int hi] st = .ok (.bl (decide (lo ≤ ts.length ∧ (ts.length : Int) ≤ hi))) st := by
  by_cases h : lo ≤ ts.length <;> simp [F_is_tuple_up_to, runF, B_is_tuple_up_to, isiB, h]
structure Trk (ts : List Int) : Prop where
  pos : 1 ≤ ts.length
  le : ts.length ≤ 8
  one : ∀ x ∈ ts, 1 ≤ x
theorem f_is_track_of {ts : List Int} (h : Trk ts) : F_is_track_of [tupI ts] st = .ok (.bl true) st := by
  have e : lcE (iterE (varE 0)) (.nm 1) yesB (callE F_is_from (consA (varE 1) (consA (cE (.int 1)) nilA))) [1] [some (tupI ts), none] st = .ok (lstB (ts.map fun x => decide (1 ≤ x))) st := by
    have := lc_map (t := .nm 1) (fe := callE F_is_from (consA (varE 1) (consA (cE (.int 1)) nilA))) (envw := [some (tupI ts), none]) (st := st) (fun d => match d with | .int x => .bl (decide (1 ≤ x)) | d => d) (ts.map D.int) [] (by have := h.le; simp; omega) (by
      intro x hx
      obtain ⟨y, _, rfl⟩ := List.mem_map.mp hx
      exact ⟨[some (tupI ts), some (.int y)], by simp, by simp [f_is_from]⟩)
    simp [this, lstB]
  have h2 : (ts.length : Int) ≤ 8 := by have := h.le; omega
  have h3 : (1 : Int) ≤ ts.length := by have := h.pos; omega
  have h4 := h.one
  simp [-lcE_eq, F_is_track_of, runF, B_is_track_of, f_is_tuple_up_to, h2, h3, e]
  simpa using h4
theorem f_is_mat_of {ts : List Int} (v : Int) : F_is_mat_of [tupI ts, .int v] st = .ok (.bl (decide (0 ≤ v ∧ v ≤ ts.length - 1))) st := by
  simp [F_is_mat_of, runF, B_is_mat_of, f_is_up_to]
theorem f_check_track {ts : List Int} (h : Trk ts) : F_check_track [tupI ts] st = .ok .non st := by
  simp [F_check_track, runF, B_check_track, f_is_track_of st h]
end
def at_ (ts : List Int) (i : Nat) : Int := ts.getD (i % ts.length) 0
def walkI (ts : List Int) (m n : Nat) : Int := ((List.range n).map fun i => at_ ts (m + i)).sum
theorem at_mod (ts : List Int) (a b : Nat) : at_ ts (a % ts.length + b) = at_ ts (a + b) := by
  unfold at_; rw [Nat.mod_add_mod]
theorem walk_succ (ts : List Int) (m n : Nat) : walkI ts m (n + 1) = walkI ts m n + at_ ts (m + n) := by
  unfold walkI; rw [List.range_succ]; simp
theorem walk_add (ts : List Int) (m a b : Nat) : walkI ts m (a + b) = walkI ts m a + walkI ts (m + a) b := by
  induction b with
  | zero => simp [walkI]
  | succ b ih => rw [← Nat.add_assoc, walk_succ, ih, walk_succ, Nat.add_assoc m a b]; omega
theorem walk_mod (ts : List Int) (a n : Nat) : walkI ts (a % ts.length) n = walkI ts a n := by
  unfold walkI; congr 1; apply List.map_congr_left; intro i _; exact at_mod ts a i
theorem rest_eq (ts : List Int) (m r : Nat) (hm : m < ts.length) (hr : r ≤ ts.length) : (ts.drop m ++ ts.take m).take r = (List.range r).map fun i => at_ ts (m + i) := by
  apply List.ext_getElem?
  intro i
  by_cases hi : i < r
  · rw [List.getElem?_take, if_pos hi, List.getElem?_map, List.getElem?_range hi, Option.map_some]
    unfold at_
    by_cases h : m + i < ts.length
    · rw [Nat.mod_eq_of_lt h, List.getElem?_append_left (by simp; omega), List.getElem?_drop, List.getD_eq_getElem?_getD, List.getElem?_eq_getElem h]; rfl
    · have e : (m + i) % ts.length = m + i - ts.length := by rw [Nat.mod_eq_sub_mod (by omega), Nat.mod_eq_of_lt (by omega)]
      rw [e, List.getElem?_append_right (by simp; omega), List.length_drop, List.getElem?_take, if_pos (by omega), List.getD_eq_getElem?_getD, show i - (ts.length - m) = m + i - ts.length by omega, List.getElem?_eq_getElem (by omega)]; rfl
  · rw [List.getElem?_eq_none (by simp; omega), List.getElem?_eq_none (by simp; omega)]
theorem sum_perm (ts : List Int) (m : Nat) : (ts.drop m ++ ts.take m).sum = ts.sum := by
  have := List.take_append_drop m ts
  conv => rhs; rw [← this]
  rw [List.sum_append, List.sum_append]; omega
theorem walk_round (ts : List Int) (m : Nat) (h : 0 < ts.length) : walkI ts m ts.length = ts.sum := by
  rw [← walk_mod]
  have hm : m % ts.length < ts.length := Nat.mod_lt _ h
  unfold walkI
  rw [← rest_eq ts _ _ hm (Nat.le_refl _), List.take_of_length_le (by simp; omega), sum_perm]
theorem walk_rounds (ts : List Int) (m : Nat) (h : 0 < ts.length) : ∀ q : Nat, walkI ts m (ts.length * q) = (q : Int) * ts.sum
  | 0 => by simp [walkI]
  | q + 1 => by rw [Nat.mul_succ, walk_add, walk_rounds ts m h q, walk_round ts _ h]; push_cast; rw [Int.add_mul]; omega
theorem reachI_eq (ts : List Int) (m n : Nat) (hm : m < ts.length) : reachI ts m n = walkI ts m n := by
  have h : 0 < ts.length := by omega
  have hr := Nat.mod_lt n h
  unfold reachI
  rw [rest_eq ts m _ hm (by omega)]
  conv => rhs; rw [← Nat.div_add_mod n ts.length, walk_add, walk_rounds ts m h]
  congr 1
  rw [← walk_mod, Nat.add_mul_mod_self_left, walk_mod]; rfl
section
variable (st : Sto)
theorem f_law_reach (ts : List Int) (m n : Nat) (hm : m < ts.length) (hl : ts.length ≤ 100) (hn : n < big) (hs : ts.sum.natAbs < big) : F__law_reach [tupI ts, .int m, .int n] st = .ok (.int (walkI ts m n)) st := by
  rw [← reachI_eq ts m n hm]
  have h0 : 0 < ts.length := by omega
  have hq : n / ts.length ≤ n := Nat.div_le_self _ _
  have hr := Nat.mod_lt n h0
  unfold reachI
  rw [rest_eq ts m _ hm (by omega)]
  have e1 : (n : Int) / (ts.length : Int) = ((n / ts.length : Nat) : Int) := by simp
  have e2 : (n : Int) % (ts.length : Int) = ((n % ts.length : Nat) : Int) := by simp
  generalize n / ts.length = q at e1 hq ⊢
  generalize n % ts.length = r at e2 hr ⊢
  have h2 : mulOk (q : Int) ts.sum := .inr (.inr ⟨by omega, hs⟩)
  have hlen : (0 : Int) < ts.length := by omega
  have e3 : lcE (callI range1F (consA (varE 5) (nilA))) (.nm 6) (yesB) (binE ixD (varE 0) (binE modD (callE intF (consA (binE addD (varE 1) (varE 6)) (nilA))) (varE 3))) [6] [some (tupI ts), some (.int m), some (.int n), some (.int ts.length), some (.int q), some (.int r), none] st = .ok (lstI ((List.range r).map fun i => at_ ts (m + i))) st := by
    have := lc_map (t := .nm 6) (fe := binE ixD (varE 0) (binE modD (callE intF (consA (binE addD (varE 1) (varE 6)) (nilA))) (varE 3))) (envw := [some (tupI ts), some (.int m), some (.int n), some (.int ts.length), some (.int q), some (.int r), none]) (st := st) (fun d => match d with | .int x => .int (at_ ts (m + x.toNat)) | d => d) (rangeD 0 r) [] (by simp; omega) (by
      intro x hx
      obtain ⟨j, hj⟩ := List.mem_iff_getElem?.mp hx
      obtain ⟨rfl, hj⟩ := range_get hj
      refine ⟨[some (tupI ts), some (.int m), some (.int n), some (.int ts.length), some (.int q), some (.int r), some (.int (0 + j))], by simp, ?_⟩
      have e4 : ((m : Int) + j) % (ts.length : Int) = (((m + j) % ts.length : Nat) : Int) := by simp
      have hb := Nat.mod_lt (m + j) h0
      have e5 := ixD_tupI st ts (((m + j) % ts.length : Nat) : Int) (by omega) (by omega)
      simp [-Int.natCast_emod, h0, e4, e5, at_])
    have hb : r < 4611686018427387904 := by omega
    simp [this, hb]
    simp [lstI, rangeD]
  have hd : fdivD (.int n) (.int ts.length) st = .ok (.int q) st := by
    simp [h0, e1, -Int.natCast_ediv]
    have := big_ge
    omega
  simp [-lcE_eq, -Int.natCast_emod, -Int.natCast_ediv, F__law_reach, runF, B__law_reach, e2, h0, h2, e3, hd]
end
theorem sum_le {ts : List Int} {w : Int} (h : ∀ x ∈ ts, 1 ≤ x ∧ x ≤ w) : 0 ≤ ts.sum ∧ ts.sum ≤ ts.length * w := by
  induction ts with
  | nil => simp
  | cons x ts ih =>
    obtain ⟨a, b⟩ := ih fun y hy => h y (List.mem_cons_of_mem _ hy)
    obtain ⟨c, d⟩ := h x List.mem_cons_self
    simp only [List.sum_cons, List.length_cons]
    push_cast
    rw [Int.add_mul]; omega
end Lap
namespace Lap
open PySem G
theorem at_ge {ts : List Int} (h : Trk ts) (i : Nat) : 1 ≤ at_ ts i := by
  have hl : i % ts.length < ts.length := Nat.mod_lt _ h.pos
  unfold at_
  rw [List.getD_eq_getElem?_getD, List.getElem?_eq_getElem hl]
  exact h.one _ (List.getElem_mem hl)
theorem walk_mono {ts : List Int} (h : Trk ts) (m a b : Nat) : walkI ts m a + b ≤ walkI ts m (a + b) := by
  induction b with
  | zero => simp
  | succ b ih =>
    have := at_ge h (m + (a + b))
    rw [← Nat.add_assoc, walk_succ]; push_cast; omega
theorem sum_pos {ts : List Int} (h : Trk ts) : (ts.length : Int) ≤ ts.sum := by
  have := walk_mono h 0 0 ts.length
  rw [Nat.zero_add, walk_round ts 0 h.pos] at this
  simpa [walkI] using this
theorem walk_le_of {ts : List Int} (h : Trk ts) (m : Nat) {a b : Nat} (hab : a ≤ b) : walkI ts m a ≤ walkI ts m b := by
  obtain ⟨c, rfl⟩ := Nat.exists_eq_add_of_le hab
  have := walk_mono h m a c
  omega
theorem walk_ge {ts : List Int} (h : Trk ts) (m n : Nat) : (n : Int) ≤ walkI ts m n := by
  have := walk_mono h m 0 n
  simpa [walkI] using this
end Lap
namespace Lap
open PySem G
def stepsN (M m o : Nat) : Nat := (o + M - m - 1) % M + 1
theorem steps_cases {M m o : Nat} (hm : m < M) (ho : o < M) : (m < o ∧ stepsN M m o = o - m) ∨ (o ≤ m ∧ stepsN M m o = o + M - m) := by
  unfold stepsN
  by_cases h : m < o
  · refine .inl ⟨h, ?_⟩
    rw [show o + M - m - 1 = (o - m - 1) + M by omega, Nat.add_mod_right, Nat.mod_eq_of_lt (by omega)]; omega
  · refine .inr ⟨by omega, ?_⟩
    rw [Nat.mod_eq_of_lt (by omega)]; omega
theorem steps_to {M m o : Nat} (hm : m < M) (ho : o < M) : (m + stepsN M m o) % M = o := by
  rcases steps_cases hm ho with ⟨h, e⟩ | ⟨h, e⟩
  · rw [e, show m + (o - m) = o by omega, Nat.mod_eq_of_lt ho]
  · rw [e, show m + (o + M - m) = o + M by omega, Nat.add_mod_right, Nat.mod_eq_of_lt ho]
theorem steps_rng {M m o : Nat} (hm : m < M) (ho : o < M) : 1 ≤ stepsN M m o ∧ stepsN M m o ≤ M := by
  rcases steps_cases hm ho with ⟨h, e⟩ | ⟨h, e⟩ <;> omega
theorem steps_int {M m o : Nat} (hm : m < M) (ho : o < M) : ((o : Int) - m - 1) % M + 1 = (stepsN M m o : Nat) := by
  unfold stepsN
  have : ((o : Int) - m - 1) % M = ((o + M - m - 1 : Nat) : Int) % M := by
    rw [show ((o + M - m - 1 : Nat) : Int) = (o - m - 1) + M by omega, Int.add_emod_right]
  rw [this]; push_cast; rfl
theorem steps_first {M m o d : Nat} (hm : m < M) (ho : o < M) (hd : 1 ≤ d) (h : d ≤ stepsN M m o) : (m + d) % M = o ↔ d = stepsN M m o := by
  constructor
  · intro e
    rcases steps_cases hm ho with ⟨h1, e1⟩ | ⟨h1, e1⟩
    · rw [Nat.mod_eq_of_lt (by omega)] at e; omega
    · by_cases k : m + d < M
      · rw [Nat.mod_eq_of_lt k] at e; omega
      · rw [Nat.mod_eq_sub_mod (by omega), Nat.mod_eq_of_lt (by omega)] at e; omega
  · rintro rfl; exact steps_to hm ho
theorem steps_over {M a b c : Nat} (ha : a < M) (hb : b < M) (hc : c < M) : stepsN M a b + stepsN M b c = stepsN M a c ∨ stepsN M a b + stepsN M b c = stepsN M a c + M := by
  rcases steps_cases ha hb with ⟨h, e⟩ | ⟨h, e⟩ <;> rcases steps_cases hb hc with ⟨h2, e2⟩ | ⟨h2, e2⟩ <;> rcases steps_cases ha hc with ⟨h3, e3⟩ | ⟨h3, e3⟩ <;> omega
def wayI (ts : List Int) (m o : Nat) : Int := walkI ts m (stepsN ts.length m o)
theorem walk_there (ts : List Int) {m o : Nat} (hm : m < ts.length) (ho : o < ts.length) (n : Nat) : walkI ts (m + stepsN ts.length m o) n = walkI ts o n := by
  rw [← walk_mod ts (m + _), steps_to hm ho]
theorem way_over {ts : List Int} {a b c : Nat} (ha : a < ts.length) (hb : b < ts.length) (hc : c < ts.length) : wayI ts a b + wayI ts b c - wayI ts a c = 0 ∨ wayI ts a b + wayI ts b c - wayI ts a c = ts.sum := by
  have h0 : 0 < ts.length := by omega
  unfold wayI
  rw [← walk_there ts ha hb, ← walk_add]
  rcases steps_over ha hb hc with e | e
  · rw [e]; left; omega
  · rw [e, walk_add, walk_round ts _ h0]; right; omega
section
variable (st : Sto)
theorem f_steps_by {ts : List Int} {m o : Nat} (hm : m < ts.length) (ho : o < ts.length) : F_steps_by [tupI ts, .int m, .int o] st = .ok (.int (stepsN ts.length m o)) st := by
  have h0 : 0 < ts.length := by omega
  rw [← steps_int hm ho]
  simp [F_steps_by, runF, B_steps_by, h0]
theorem f_way_by {ts : List Int} (h : Trk ts) {m o : Nat} (hm : m < ts.length) (ho : o < ts.length) (hs : ts.sum.natAbs < big) : F_way_by [tupI ts, .int m, .int o] st = .ok (.int (wayI ts m o)) st := by
  have hb := big_ge
  have hr := steps_rng hm ho
  have h8 := h.le
  have := f_reach_by st ts m (stepsN ts.length m o) (by omega) (by omega) (by omega) hs
  rw [reachI_eq ts _ _ hm] at this
  simp [F_way_by, runF, B_way_by, f_steps_by st hm ho, this, wayI]
end
theorem _root_.G.One.two {F : FA} (hF : One F) {st : Sto} {n : Nat} (a b : Int) (hp : Pool n st) : ∃ w st', F [.mut n, .tup [.int a, .int b]] st = .ok (.int w) st' ∧ (w = a ∨ w = b) ∧ Pool n st' ∧ Eff n st st' := by
  obtain ⟨d, s1, e1, hd, hp1, he⟩ := hF (xs := [.int a, .int b]) hp (by simp) (by simp)
  rcases hd with _ | ⟨_, _ | ⟨_, hd⟩⟩
  · exact ⟨a, s1, e1, .inl rfl, hp1, he⟩
  · exact ⟨b, s1, e1, .inr rfl, hp1, he⟩
  · cases hd
theorem _root_.G.One.three {F : FA} (hF : One F) {st : Sto} {n : Nat} (a b c : Int) (hp : Pool n st) : ∃ w st', F [.mut n, .tup [.int a, .int b, .int c]] st = .ok (.int w) st' ∧ (w = a ∨ w = b ∨ w = c) ∧ Pool n st' ∧ Eff n st st' := by
  obtain ⟨d, s1, e1, hd, hp1, he⟩ := hF (xs := [.int a, .int b, .int c]) hp (by simp) (by simp)
  rcases hd with _ | ⟨_, _ | ⟨_, _ | ⟨_, hd⟩⟩⟩
  · exact ⟨a, s1, e1, .inl rfl, hp1, he⟩
  · exact ⟨b, s1, e1, .inr (.inl rfl), hp1, he⟩
  · exact ⟨c, s1, e1, .inr (.inr rfl), hp1, he⟩
  · cases hd
structure DT (ts : List Int) (w : Int) : Prop where
  t : Trk ts
  b : ∀ x ∈ ts, 1 ≤ x ∧ x ≤ w
  s : ts.sum ≤ 8 * w
  p : (ts.length : Int) ≤ ts.sum
  w : 1 ≤ w
theorem DT.of {ts : List Int} {w : Int} (hw : 1 ≤ w) (t1 : 1 ≤ ts.length) (t2 : (ts.length : Int) ≤ 8) (t3 : ∀ x ∈ ts, 1 ≤ x ∧ x ≤ w) : DT ts w := by
  have hT : Trk ts := ⟨t1, by omega, fun x hx => (t3 x hx).1⟩
  refine ⟨hT, t3, ?_, sum_pos hT, hw⟩
  have := (sum_le t3).2
  have := Int.mul_le_mul_of_nonneg_right t2 (show 0 ≤ w by omega)
  omega
theorem _root_.G.Track.dt {F : FA} (hF : Track F 8) {st : Sto} {n : Nat} {w : Int} (hp : Pool n st) (hw : 1 ≤ w) : ∃ ts st', F [.mut n, .int w] st = .ok (tupI ts) st' ∧ DT ts w ∧ Pool n st' ∧ Eff n st st' := by
  obtain ⟨ts, s2, e2, t1, t2, t3, hp2, he⟩ := hF hp hw
  exact ⟨ts, s2, e2, .of hw t1 t2 t3, hp2, he⟩
end Lap
namespace Lap
open PySem G
def MatOk (ts : List Int) (p : P2) : Prop := 0 ≤ p.1 ∧ 0 ≤ p.2 ∧ p.2 < ts.length
instance (ts : List Int) (p : P2) : Decidable (MatOk ts p) := by unfold MatOk; infer_instance
structure BagOk (ts : List Int) (b : List P2) : Prop where
  len : b.length ≤ 30
  ok : ∀ p ∈ b, MatOk ts p
  up : b.Pairwise ltP2
theorem BagOk.sub {ts : List Int} {b c : List P2} (h : BagOk ts b) (s : c.Sublist b) : BagOk ts c :=
  ⟨Nat.le_trans s.length_le h.len, fun p hp => h.ok p (s.subset hp), h.up.sublist s⟩
def followB (ts : List Int) (p q : P2) : Bool := decide (p.1 - q.1 ≥ wayI ts q.2.toNat p.2.toNat)
theorem way_pos {ts : List Int} (h : Trk ts) {m o : Nat} (hm : m < ts.length) (ho : o < ts.length) : 1 ≤ wayI ts m o := by
  have := walk_ge h m (stepsN ts.length m o)
  have := (steps_rng hm ho).1
  unfold wayI; omega
theorem follow_lt {ts : List Int} (h : Trk ts) {p q : P2} (hp : MatOk ts p) (hq : MatOk ts q) (f : followB ts p q = true) : q.1 < p.1 := by
  obtain ⟨a, b, c⟩ := hp
  obtain ⟨d, e, g⟩ := hq
  have := way_pos h (m := q.2.toNat) (o := p.2.toNat) (by omega) (by omega)
  unfold followB at f
  have := of_decide_eq_true f
  omega
theorem follow_tr {ts : List Int} (h : Trk ts) {p q r : P2} (hp : MatOk ts p) (hq : MatOk ts q) (hr : MatOk ts r) (f : followB ts p q = true) (g : followB ts q r = true) : followB ts p r = true := by
  obtain ⟨a, b, c⟩ := hp
  obtain ⟨d, e, i⟩ := hq
  obtain ⟨j, k, l⟩ := hr
  have hs := sum_pos h
  have := way_over (ts := ts) (a := r.2.toNat) (b := q.2.toNat) (c := p.2.toNat) (by omega) (by omega) (by omega)
  unfold followB at *
  have f := of_decide_eq_true f
  have g := of_decide_eq_true g
  apply decide_eq_true
  omega
section
variable (st : Sto)
@[simp] theorem ix_pair0 (p : P2) : ixD (pairD p) (.int 0) st = .ok (.int p.1) st := ixD_tup _ _ _ rfl
@[simp] theorem ix_pair1 (p : P2) : ixD (pairD p) (.int 1) st = .ok (.int p.2) st := ixD_tup _ _ _ rfl
@[simp] theorem isi_pair (c : Tag) (b : P2) : isiD c (pairD b) st = .ok (.bl (isiB .tup c)) st := rfl
@[simp] theorem len_pair (p : P2) : lenF [pairD p] st = .ok (.int 2) st := by unfold pairD; rw [lenF_tup]; rfl
theorem f_is_pair (p : P2) : F_is_pair [pairD p] st = .ok (.bl true) st := by
  simp [F_is_pair, runF, B_is_pair, F_is_tuple_of, B_is_tuple_of, F_is_tuple_up_to, B_is_tuple_up_to, isiB]
theorem f_is_mark_of {ts : List Int} (p : P2) : F_is_mark_of [tupI ts, pairD p] st = .ok (.bl (decide (MatOk ts p))) st := by
  have e : decide (MatOk ts p) = (decide (0 ≤ p.1) && decide (0 ≤ p.2 ∧ p.2 ≤ ts.length - 1)) := by
    unfold MatOk
    by_cases h1 : 0 ≤ p.1 <;> by_cases h2 : 0 ≤ p.2 <;> by_cases h3 : p.2 < ts.length <;> simp [h1, h2, h3] <;> omega
  rw [e]
  by_cases h : 0 ≤ p.1 <;> simp [F_is_mark_of, runF, B_is_mark_of, f_is_pair, f_is_from, f_is_mat_of, h]
theorem f_can_follow_by {ts : List Int} (hT : Trk ts) (hs : ts.sum.natAbs < big) {p q : P2} (hp : MatOk ts p) (hq : MatOk ts q) : F_can_follow_by [tupI ts, pairD p, pairD q] st = .ok (.bl (followB ts p q)) st := by
  obtain ⟨a, b, c⟩ := hp
  obtain ⟨d, e, g⟩ := hq
  have := f_way_by st hT (m := q.2.toNat) (o := p.2.toNat) (by omega) (by omega) hs
  rw [show ((q.2.toNat : Nat) : Int) = q.2 by omega, show ((p.2.toNat : Nat) : Int) = p.2 by omega] at this
  simp [F_can_follow_by, runF, B_can_follow_by, this, followB]
end
end Lap
namespace Lap
open PySem G
theorem eqD_strS (x y : Str) (st : Sto) : eqD (.str x) (.str y) st = .ok (.bl (decide (x = y))) st := rfl
def Pur : Nat → D → Prop
  | _, .non => True
  | _, .bl _ => True
  | _, .int _ => True
  | _, .str _ => True
  | k + 1, .tup xs => xs.length ≤ 10000 ∧ ∀ x ∈ xs, Pur k x
  | _, _ => False
theorem zip_self (xs : List D) : xs.zipWith (fun x y => D.tup [x, y]) xs = xs.map fun x => .tup [x, x] := by
  induction xs with
  | nil => rfl
  | cons x xs ih => simp [ih]
theorem same_refl : ∀ (k : Nat) (d : D) (st : Sto), Pur k d → R__law_same (k + 1) [d, d] st = .ok (.bl true) st
  | k, .non, st, _ => by
    show runF 2 4 (B__law_same (R__law_same k)) [_, _] st = _
    generalize R__law_same k = r
    simp [runF, B__law_same]
  | k, .bl b, st, _ => by
    show runF 2 4 (B__law_same (R__law_same k)) [_, _] st = _
    generalize R__law_same k = r
    simp [runF, B__law_same, isiB]
  | k, .int i, st, _ => by
    show runF 2 4 (B__law_same (R__law_same k)) [_, _] st = _
    generalize R__law_same k = r
    simp [runF, B__law_same, isiB]
  | k, .str s, st, _ => by
    show runF 2 4 (B__law_same (R__law_same k)) [_, _] st = _
    generalize R__law_same k = r
    simp [runF, B__law_same, isiB, eqD_strS]
  | 0, .tup xs, st, h => h.elim
  | k + 1, .tup xs, st, h => by
    obtain ⟨hl, hx⟩ := h
    show runF 2 4 (B__law_same (R__law_same (k + 1))) [_, _] st = _
    have ih := fun d st => same_refl k d st
    generalize R__law_same (k + 1) = r at ih ⊢
    have e := lc_map (t := .tp [.nm 2, .nm 3]) (fe := callE r (consA (varE 2) (consA (varE 3) (nilA)))) (envw := [some (.tup xs), some (.tup xs), none, none]) (st := st) (fun _ => .bl true) (xs.map fun x => .tup [x, x]) [] (by simp; omega) (by
      intro x hx'
      obtain ⟨y, hy, rfl⟩ := List.mem_map.mp hx'
      refine ⟨[some (.tup xs), some (.tup xs), some y, some y], by simp [Tg.set, Tg.sets], ?_⟩
      simp [ih y st (hx y hy)])
    have e2 : (List.map (fun _ => D.bl true) (xs.map fun x => D.tup [x, x])) = (List.replicate xs.length true).map D.bl := by
      rw [List.map_map, List.map_replicate, List.eq_replicate_iff]
      simp
    rw [e2, List.nil_append] at e
    have ea := allF_bools st (List.replicate xs.length true)
    have ez : zipF [.tup xs, .tup xs] st = .ok (.frz (xs.map fun x => .tup [x, x])) st := by
      show R.ok (ItD.frz (xs.zipWith (fun x y => D.tup [x, y]) xs)) st = _
      rw [zip_self]
    rw [List.map_replicate] at e ea
    simp [runF, B__law_same, isiB, ez, e]
    rw [ea]
    simp
  | 0, .raw _, _, h => h.elim
  | 0, .dic, _, h => h.elim
  | _ + 1, .dic, _, h => h.elim
  | 0, .emp, _, h => h.elim
  | 0, .rg .., _, h => h.elim
  | _ + 1, .rg .., _, h => h.elim
  | _ + 1, .emp, _, h => h.elim
  | 0, .fn _, _, h => h.elim
  | _ + 1, .fn _, _, h => h.elim
  | 0, .exv .., _, h => h.elim
  | _ + 1, .exv .., _, h => h.elim
  | _ + 1, .raw _, _, h => h.elim
  | 0, .lst _, _, h => h.elim
  | _ + 1, .lst _, _, h => h.elim
  | 0, .slo _, _, h => h.elim
  | _ + 1, .slo _, _, h => h.elim
  | 0, .mut _, _, h => h.elim
  | _ + 1, .mut _, _, h => h.elim
theorem f_same_refl (d : D) (st : Sto) (h : Pur 19 d) : F__law_same [d, d] st = .ok (.bl true) st := same_refl 19 d st h
end Lap
namespace Lap
open PySem G
theorem lc_typed {α : Type} {t : Tg} {fe : EvE} {envw : G.Env} {st : Sto} (f h : α → D) : ∀ (as : List α) (acc : List D), acc.length + as.length ≤ 16777216 →
    (∀ a ∈ as, ∃ env1, t.set (f a) envw = some env1 ∧ fe env1 st = .ok (h a) st) → lcF t yesB fe envw (as.map f) st acc = .ok (acc ++ as.map h) st
  | [], acc, _, _ => by simp [lcF]
  | a :: as, acc, hl, hx => by
    obtain ⟨env1, h1, h2⟩ := hx a List.mem_cons_self
    simp only [List.length_cons] at hl
    rw [List.map_cons]
    unfold lcF
    rw [turnC_yes h1 h2 (by omega), lc_typed f h as (acc ++ [h a]) (by simp; omega) fun y hy => hx y (List.mem_cons_of_mem _ hy)]
    simp
def RowP (ts : List Int) (b : List P2) : Prop := b.Pairwise fun q p => followB ts p q = true
end Lap
namespace Lap
open PySem G
section
variable (st : Sto)
theorem f_law_steps2 {ts : List Int} {m o : Nat} (hm : m < ts.length) (ho : o < ts.length) : F__law_steps_v2 [tupI ts, .int m, .int o] st = .ok (.int (stepsN ts.length m o)) st := by
  have h0 : 0 < ts.length := by omega
  rw [← steps_int hm ho, Int.add_comm]
  simp [F__law_steps_v2, runF, B__law_steps_v2, h0]
theorem f_law_way {ts : List Int} (h : Trk ts) {m o : Nat} (hm : m < ts.length) (ho : o < ts.length) (hs : ts.sum.natAbs < big) : F__law_way [tupI ts, .int m, .int o] st = .ok (.int (wayI ts m o)) st := by
  have hb := big_ge
  have hr := steps_rng hm ho
  have h8 := h.le
  have := f_law_reach st ts m (stepsN ts.length m o) hm (by omega) (by omega) hs
  simp [F__law_way, runF, B__law_way, f_law_steps2 st hm ho, this, wayI]
theorem f_law_can_follow {ts : List Int} (hT : Trk ts) (hs : ts.sum.natAbs < big) {p q : P2} (hp : MatOk ts p) (hq : MatOk ts q) : F__law_can_follow [tupI ts, pairD p, pairD q] st = .ok (.bl (followB ts p q)) st := by
  obtain ⟨a, b, c⟩ := hp
  obtain ⟨d, e, g⟩ := hq
  have := f_law_way st hT (m := q.2.toNat) (o := p.2.toNat) (by omega) (by omega) hs
  rw [show ((q.2.toNat : Nat) : Int) = q.2 by omega, show ((p.2.toNat : Nat) : Int) = p.2 by omega] at this
  simp [F__law_can_follow, runF, B__law_can_follow, this, followB]
end
end Lap
namespace Lap
open PySem G
structure RowOk (ts : List Int) (b : List P2) : Prop where
  ok : ∀ p ∈ b, MatOk ts p
  row : RowP ts b
end Lap
namespace Lap
open PySem G
theorem toPDs_ints : ∀ b : List Int, toPDs (b.map D.int) = some (b.map PyData.int)
  | [] => by simp [toPDs]
  | p :: b => by simp [toPDs, toPD, toPDs_ints b]
theorem canLay_ints : ∀ b : List Int, PyData.canLayAll0 (b.map PyData.int) = true
  | [] => rfl
  | p :: b => by simp [PyData.canLayAll0, PyData.canLay0, canLay_ints b]
theorem depth_ints : ∀ b : List Int, PyData.depthAll (b.map PyData.int) = 0
  | [] => rfl
  | p :: b => by simp [PyData.depthAll, PyData.depth, depth_ints b]
theorem shaped_ints (b : List Int) : SeqAt.shaped (.tuple (b.map PyData.int)) = true := by
  simp [SeqAt.shaped, PyData.canLay0, canLay_ints, PyData.depth, depth_ints]
theorem eqv_ints : ∀ a b : List Int, PyData.eqvAll (a.map PyData.int) (b.map PyData.int) = decide (a = b)
  | [], [] => by simp [PyData.eqvAll]
  | [], _ :: _ => by simp [PyData.eqvAll]
  | _ :: _, [] => by simp [PyData.eqvAll]
  | x :: a, y :: b => by
    simp only [List.map_cons, PyData.eqvAll, eqv_ints a b, PyData.eqv]
    by_cases h : x = y <;> by_cases g : a = b <;> simp [h, g]
theorem eqO_ints (a b : List Int) : eqO (tupI a) (tupI b) = some (decide (a = b)) := by
  unfold eqO
  have h1 : scalD (tupI a) (tupI b) = none := rfl
  have h2 : ∀ a, toPD (tupI a) = some (.tuple (a.map PyData.int)) := fun a => by unfold tupI toPD; rw [toPDs_ints]; rfl
  rw [h1, h2, h2]
  show (if SeqAt.shaped (.tuple (a.map PyData.int)) = true ∧ SeqAt.shaped (.tuple (b.map PyData.int)) = true then _ else _) = _
  rw [if_pos ⟨shaped_ints a, shaped_ints b⟩]
  simp [PyData.eqv, eqv_ints]
theorem eq_tupI (a b : List Int) (st : Sto) : eqD (tupI a) (tupI b) st = .ok (.bl (decide (a = b))) st := by unfold eqD; rw [eqO_ints]
end Lap
namespace Lap
open PySem PySem.Spec PyProof.Rows L2 G
def kvL (lo : Int) (n : Nat) : List (L2.Key × V) := (List.range n).map fun i => (.inl (lo + (i : Nat)), .bl true)
@[simp] theorem kvL_len (lo : Int) (n : Nat) : (kvL lo n).length = n := by simp [kvL]
theorem set_set {st : Sto} {q : Nat} {a b : MO} : (st.set q a).set q b = st.set q b := by simp
def aI (n0 j : Nat) : Nat := if j = 0 then n0 else n0 + 1 + j
def refs (n0 k : Nat) : List D := (List.range (k + 1)).map fun j => D.mut (aI n0 j)
def loK (ts : List Int) (t : Int) (m k : Nat) : Int := t + walkI ts m k
def cntK (ts : List Int) (t : Int) (m : Nat) (L : Int) (k : Nat) : Nat := if k = 0 then 1 else (L + 1 - loK ts t m k).toNat
structure Led (ts : List Int) (t : Int) (m : Nat) (L : Int) (n0 k : Nat) (st s : Sto) : Prop where
  len : n0 + 2 + k ≤ s.length
  kp : ∀ i, i < n0 → s[i]? = st[i]?
  rows : s[n0 + 1]? = some (.lst (refs n0 k))
  at_ : ∀ j, j ≤ k → s[aI n0 j]? = some (.dk (kvL (loK ts t m j) (cntK ts t m L j)))
end Lap
namespace Lap
open PySem G
def Draw (F : FA) : Prop := ∀ {st : Sto} {n : Nat} {m : Int}, Pool n st → 0 < m → m.natAbs < big → ∃ v st', F [.mut n, .int m] st = .ok (.int v) st' ∧ 0 ≤ v ∧ v < m ∧ Pool n st' ∧ Eff n st st'
theorem Draw.below {F : FA} (h : Draw F) : Below F := fun hp h1 h2 => h hp h1 (by have := big_ge; omega)
theorem way_le_sum {ts : List Int} (hT : Trk ts) {m o : Nat} (hm : m < ts.length) (ho : o < ts.length) : wayI ts m o ≤ ts.sum := by
  unfold wayI
  have := walk_le_of hT m (steps_rng hm ho).2
  rw [walk_round ts m hT.pos] at this
  exact this
def KpK (n : Nat) (st st' : Sto) : Prop := st.length ≤ st'.length ∧ ∀ k, k < st.length → k ≠ n → st'[k]? = st[k]?
theorem KpK.trans {n : Nat} {a b c : Sto} (h : KpK n a b) (g : KpK n b c) : KpK n a c := ⟨Nat.le_trans h.1 g.1, fun k h1 h2 => (g.2 k (Nat.lt_of_lt_of_le h1 h.1) h2).trans (h.2 k h1 h2)⟩
end Lap
namespace K09
open PySem G Lap
def g_body5 : SvS := (seqS (parS 4 3 (consA (binE addD (varE 4) (binE ixD (varE 0) (varE 3))) (consA (binE modD (callE intF (consA (binE addD (varE 3) (cE (.int 1))) (nilA))) (callE lenF (consA (varE 0) (nilA)))) (nilA)))) (ifS (tstE (binE eqD (varE 3) (binE ixD (varE 1) (cE (.int 1))))) (retS (binE leD (varE 4) (binE ixD (varE 1) (cE (.int 0))))) (passS)))
theorem g_right_eq : B__law_gone = seqS (parS 3 4 (consA (binE ixD (varE 2) (cE (.int 1))) (consA (binE ixD (varE 2) (cE (.int 0))) (nilA)))) (seqS (forS (callI range1F (consA (callE lenF (consA (varE 0) (nilA))) (nilA))) (tgT (.nm 5)) g_body5) (retS (cE (.bl false)))) := rfl
def r_body11 : SvS := (seqS (asgS (ifE (tstE (binE eqD (varE 1) (cE (.int 1)))) (callKE F_can_follow nilA (consA (varE 11) (consA (varE 10) (consA (varE 2) (nilA)))) 0 3 [2, 1, 0]) (callE F_can_follow (consA (varE 2) (consA (varE 10) (consA (varE 11) (nilA)))))) (nameT 12)) (ifS (orB (notB (tstE (callE F__law_same (consA (varE 12) (consA (callE F__law_gone (consA (varE 2) (consA (varE 10) (consA (varE 11) (nilA))))) (nilA)))))) (andB (tstE (varE 12)) (orB (tstE (binE eqD (varE 10) (varE 11))) (tstE (callE F_can_follow (consA (varE 2) (consA (varE 11) (consA (varE 10) (nilA))))))))) (retS (cE (.bl false))) (passS)))
def r_body10 : SvS := (forS (iterE (varE 5)) (tgT (.nm 11)) r_body11)
def r_body11' : SvS := (ifS (tstE (callE F__law_can_follow (consA (varE 2) (consA (varE 10) (consA (varE 11) (nilA)))))) (putNS (cE (.bl true)) (varE 13) (tupE (consA (varE 10) (consA (varE 11) (nilA))))) (passS))
def r_body10' : SvS := (forS (iterE (varE 5)) (tgT (.nm 11)) r_body11')
def r_body1 : SvS := (seqS (asgS (callE F__law_track (consA (varE 0) (consA (callE F__law_one (consA (varE 0) (consA (tupE (consA (cE (.int 3)) (consA (cE (.int 40)) (consA (binE powD (cE (.int 10)) (cE (.int 25))) (nilA))))) (nilA)))) (nilA)))) (nameT 2)) (seqS (asgS (tupE (consA (callE lenF (consA (varE 2) (nilA))) (consA (callE sumF (consA (varE 2) (nilA))) (nilA)))) (tupT 2 (consT (nameT 3) (consT (nameT 4) (nilT))))) (seqS (asgS (lcE (callI range1F (consA (cE (.int 5)) (nilA))) (.nm 14) (yesB) (tupE (consA (callE F__law_great (consA (varE 0) (consA (binE mulD (cE (.int 2)) (varE 4)) (nilA)))) (consA (callE F__law_below (consA (varE 0) (consA (varE 3) (nilA)))) (nilA)))) [14]) (nameT 5)) (seqS (asgS (binE ixD (varE 5) (cE (.int 0))) (tupT 2 (consT (nameT 6) (consT (nameT 7) (nilT))))) (seqS (asgS (callE F__law_below (consA (varE 0) (consA (varE 3) (nilA)))) (nameT 8)) (seqS (asgS (tupE (consA (binE addD (varE 6) (callE F__law_way (consA (varE 2) (consA (varE 7) (consA (varE 8) (nilA)))))) (consA (varE 8) (nilA)))) (nameT 9)) (seqS (asgS (binE addD (varE 5) (lstE (consA (varE 9) (consA (tupE (consA (binE subD (binE ixD (varE 9) (cE (.int 0))) (cE (.int 1))) (consA (varE 8) (nilA)))) (consA (tupE (consA (binE addD (varE 6) (varE 4)) (consA (callE F__law_below (consA (varE 0) (consA (varE 3) (nilA)))) (nilA)))) (nilA)))))) (nameT 5)) (seqS (ifS (orB (tstE (binE notBD (callE F_can_follow (consA (varE 2) (consA (varE 9) (consA (binE ixD (varE 5) (cE (.int 0))) (nilA))))) (cE (.bl true)))) (orB (tstE (binE notBD (callE F_can_follow (consA (varE 2) (consA (binE ixD (varE 5) (cE (.int 6))) (consA (binE ixD (varE 5) (cE (.int 0))) (nilA))))) (cE (.bl false)))) (tstE (binE notBD (callE F_can_follow (consA (varE 2) (consA (binE ixD (varE 5) (cE (.int 7))) (consA (binE ixD (varE 5) (cE (.int 0))) (nilA))))) (cE (.bl true)))))) (retS (cE (.bl false))) (passS)) (seqS (forS (iterE (varE 5)) (tgT (.nm 10)) r_body10) (seqS (asgS (newNE) (nameT 13)) (seqS (forS (iterE (varE 5)) (tgT (.nm 10)) r_body10') (ifS (tstE (callE anyF (consA (lcNE (varE 13) (.tp [.nm 10, .nm 11]) (yesB) (callE anyF (consA (lcE (iterE (varE 5)) (.nm 15) (yesB) (andE (binE inNF (tupE (consA (varE 11) (consA (varE 15) (nilA)))) (varE 13)) (notE (callE F_can_follow (consA (varE 2) (consA (varE 10) (consA (varE 15) (nilA))))))) [15]) (nilA))) [10, 11]) (nilA)))) (retS (cE (.bl false))) (passS)))))))))))))
theorem r_right_eq : B__law_right = seqS (forS (callI range1F (consA (cE (.int 9)) (nilA))) (tgT (.nm 1)) r_body1) (retS (cE (.bl true))) := rfl
def rp1 : SvS := asgS (callE F__law_track (consA (varE 0) (consA (callE F__law_one (consA (varE 0) (consA (tupE (consA (cE (.int 3)) (consA (cE (.int 40)) (consA (binE powD (cE (.int 10)) (cE (.int 25))) (nilA))))) (nilA)))) (nilA)))) (nameT 2)
def rp2 : SvS := asgS (tupE (consA (callE lenF (consA (varE 2) (nilA))) (consA (callE sumF (consA (varE 2) (nilA))) (nilA)))) (tupT 2 (consT (nameT 3) (consT (nameT 4) (nilT))))
def rp3 : SvS := asgS (lcE (callI range1F (consA (cE (.int 5)) (nilA))) (.nm 14) (yesB) (tupE (consA (callE F__law_great (consA (varE 0) (consA (binE mulD (cE (.int 2)) (varE 4)) (nilA)))) (consA (callE F__law_below (consA (varE 0) (consA (varE 3) (nilA)))) (nilA)))) [14]) (nameT 5)
def rp4 : SvS := asgS (binE ixD (varE 5) (cE (.int 0))) (tupT 2 (consT (nameT 6) (consT (nameT 7) (nilT))))
def rp5 : SvS := asgS (callE F__law_below (consA (varE 0) (consA (varE 3) (nilA)))) (nameT 8)
def rp6 : SvS := asgS (tupE (consA (binE addD (varE 6) (callE F__law_way (consA (varE 2) (consA (varE 7) (consA (varE 8) (nilA)))))) (consA (varE 8) (nilA)))) (nameT 9)
def rp7 : SvS := asgS (binE addD (varE 5) (lstE (consA (varE 9) (consA (tupE (consA (binE subD (binE ixD (varE 9) (cE (.int 0))) (cE (.int 1))) (consA (varE 8) (nilA)))) (consA (tupE (consA (binE addD (varE 6) (varE 4)) (consA (callE F__law_below (consA (varE 0) (consA (varE 3) (nilA)))) (nilA)))) (nilA)))))) (nameT 5)
def rp8 : SvS := ifS (orB (tstE (binE notBD (callE F_can_follow (consA (varE 2) (consA (varE 9) (consA (binE ixD (varE 5) (cE (.int 0))) (nilA))))) (cE (.bl true)))) (orB (tstE (binE notBD (callE F_can_follow (consA (varE 2) (consA (binE ixD (varE 5) (cE (.int 6))) (consA (binE ixD (varE 5) (cE (.int 0))) (nilA))))) (cE (.bl false)))) (tstE (binE notBD (callE F_can_follow (consA (varE 2) (consA (binE ixD (varE 5) (cE (.int 7))) (consA (binE ixD (varE 5) (cE (.int 0))) (nilA))))) (cE (.bl true)))))) (retS (cE (.bl false))) (passS)
def rp9 : SvS := forS (iterE (varE 5)) (tgT (.nm 10)) r_body10
def rp10 : SvS := asgS (newNE) (nameT 13)
def rp11 : SvS := forS (iterE (varE 5)) (tgT (.nm 10)) r_body10'
def rp12 : SvS := ifS (tstE (callE anyF (consA (lcNE (varE 13) (.tp [.nm 10, .nm 11]) (yesB) (callE anyF (consA (lcE (iterE (varE 5)) (.nm 15) (yesB) (andE (binE inNF (tupE (consA (varE 11) (consA (varE 15) (nilA)))) (varE 13)) (notE (callE F_can_follow (consA (varE 2) (consA (varE 10) (consA (varE 15) (nilA))))))) [15]) (nilA))) [10, 11]) (nilA)))) (retS (cE (.bl false))) (passS)
theorem rpeq : r_body1 = (seqS rp1 (seqS rp2 (seqS rp3 (seqS rp4 (seqS rp5 (seqS rp6 (seqS rp7 (seqS rp8 (seqS rp9 (seqS rp10 (seqS rp11 rp12))))))))))) := rfl
theorem f_below : Below F__law_below := belowA_ok (c1 := 33925) (by decide)
theorem f_great : Great F__law_great := greatA_ok f_below (c1 := 99991) (c2 := 99991) (by decide)
theorem f_track : Track F__law_track 8 := trackA_ok f_below f_great (by decide)
theorem f_one : One F__law_one := oneA_ok f_below
theorem f_pool : MkPool F__law_pool := poolA_ok (by decide)/-! gone sector by sector -/
theorem mnat {ts : List Int} {p : P2} (h : MatOk ts p) : ((p.2.toNat : Nat) : Int) = p.2 ∧ p.2.toNat < ts.length := by have := h.2; omega
theorem pool_push9 {p : Nat} {st : Sto} (hp : Pool p st) (m : MO) : Pool p (st ++ [m]) := by
  obtain ⟨a, b, c, e⟩ := hp
  exact ⟨a, b, c, by rw [List.getElem?_append_left (List.getElem?_eq_some_iff.mp e).1]; exact e⟩
theorem g_loop {ts : List Int} (hT : Trk ts) {p : P2} (hp : MatOk ts p) {m : Nat} (hm : m < ts.length) (t : Int) (o2 : Option D) (st : Sto) : ∀ (xs : List D) (j : Nat) (o5 : Option D), j + xs.length = ts.length → j < stepsN ts.length m p.2.toNat →
    loopF (tgT (.nm 5)) g_body5 xs [some (tupI ts), some (pairD p), o2, some (.int ((m + j) % ts.length : Nat)), some (.int (t + walkI ts m j)), o5] st = .ret (.bl (decide (t + wayI ts m p.2.toNat ≤ p.1))) st := by
  have h0 := hT.pos
  have hmp := mnat hp
  have rg := steps_rng hm hmp.2
  intro xs
  induction xs with
  | nil => intro j o5 h1 h2; simp at h1; omega
  | cons x xs ih =>
    intro j o5 h1 h2
    rw [List.length_cons] at h1
    obtain ⟨a, ha⟩ : ∃ a, (m + j) % ts.length = a := ⟨_, rfl⟩
    have hal : a < ts.length := by rw [← ha]; exact Nat.mod_lt _ (by omega)
    obtain ⟨b, hb⟩ : ∃ b, (m + (j + 1)) % ts.length = b := ⟨_, rfl⟩
    have hab : (a + 1) % ts.length = b := by rw [← ha, ← hb, Nat.mod_add_mod]; congr 1
    have hbl : b < ts.length := by rw [← hb]; exact Nat.mod_lt _ (by omega)
    have wk : walkI ts m (j + 1) = walkI ts m j + ts.getD a 0 := by
      rw [walk_succ]
      congr 1
      unfold at_
      rw [ha]
    have ix : ixD (tupI ts) (.int (a : Int)) st = .ok (.int (ts.getD a 0)) st := by
      have := ixD_tupI (ts := ts) (st := st) (a : Int) (by omega) (by omega)
      rwa [Int.toNat_natCast] at this
    have md : modD (.int ((a : Int) + 1)) (.int (ts.length : Int)) st = .ok (.int (b : Int)) st := by
      rw [modD_int, if_pos (by omega)]
      congr 2
      rw [← hab]; push_cast; rfl
    have ln : lenF [tupI ts] st = .ok (.int ts.length) st := lenF_tupI ..
    have x0 := ix_pair0 st p
    have x1 := ix_pair1 st p
    obtain ⟨t1, ht1⟩ : ∃ t1, t + walkI ts m j + ts.getD a 0 = t1 := ⟨_, rfl⟩
    have ht2 : t + walkI ts m (j + 1) = t1 := by rw [wk]; omega
    rw [loopF_cons, ha]
    by_cases c : j + 1 = stepsN ts.length m p.2.toNat
    · have hbp : (b : Int) = p.2 := by
        rw [← hb, c, steps_to hm hmp.2]; exact hmp.1
      have fin : wayI ts m p.2.toNat = walkI ts m (j + 1) := by unfold wayI; rw [c]
      rw [fin, ht2]
      have eq : eqD (.int (b : Int)) (.int p.2) st = .ok (.bl true) st := by
        show R.ok (D.bl (decide ((b : Int) = p.2))) st = _
        rw [decide_eq_true hbp]
      have le : leD (.int t1) (.int p.1) st = .ok (.bl (decide (t1 ≤ p.1))) st := rfl
      generalize loopF (tgT (.nm 5)) g_body5 xs = rest at *
      unfold g_body5
      clear ih hbp fin wk ht2
      generalize t + walkI ts m j = t0 at *
      generalize ts.getD a 0 = ta at *
      generalize (ts.length : Int) = L at *
      generalize tupI ts = td at *
      generalize pairD p = pd at *
      generalize (a : Int) = ai at *
      generalize (b : Int) = bi at *
      generalize decide (t1 ≤ p.1) = v at *
      simp [-modD_int, -eqD_int, -leD_int, parS, ix, ht1, md, ln, x0, x1, eq, le]
    · have hbp : ¬ (b : Int) = p.2 := by
        intro z
        have z2 : b = p.2.toNat := by omega
        rw [← hb] at z2
        have := (steps_first hm hmp.2 (d := j + 1) (by omega) (by omega)).mp z2
        exact c this
      have eq : eqD (.int (b : Int)) (.int p.2) st = .ok (.bl false) st := by
        show R.ok (D.bl (decide ((b : Int) = p.2))) st = _
        rw [decide_eq_false hbp]
      have step : bindS (tgT (.nm 5) x [some (tupI ts), some (pairD p), o2, some (.int (a : Nat)), some (.int (t + walkI ts m j)), o5] st) [some (tupI ts), some (pairD p), o2, some (.int (a : Nat)), some (.int (t + walkI ts m j)), o5] g_body5 = .nx [some (tupI ts), some (pairD p), o2, some (.int (b : Nat)), some (.int t1), some x] st := by
        unfold g_body5
        clear ih hbp wk ht2
        generalize t + walkI ts m j = t0 at *
        generalize ts.getD a 0 = ta at *
        generalize (ts.length : Int) = L at *
        generalize tupI ts = td at *
        generalize pairD p = pd at *
        generalize (a : Int) = ai at *
        generalize (b : Int) = bi at *
        simp [-modD_int, -eqD_int, parS, ix, ht1, md, ln, x1, eq]
      rw [step]
      have := ih (j + 1) (some x) (by omega) (by omega)
      rw [hb, ht2] at this
      exact this
theorem f_gone {ts : List Int} (hT : Trk ts) {p q : P2} (hp : MatOk ts p) (hq : MatOk ts q) (st : Sto) : F__law_gone [tupI ts, pairD p, pairD q] st = .ok (.bl (followB ts p q)) st := by
  have hmq := mnat hq
  have h0 := hT.pos
  have h8 := hT.le
  have rg := steps_rng hmq.2 (mnat hp).2
  have lp := g_loop hT hp hmq.2 q.1 (some (pairD q)) st (rangeD 0 ts.length) 0 none (by rw [rangeD_length]; omega) (by omega)
  rw [Nat.add_zero, Nat.mod_eq_of_lt hmq.2, hmq.1, show walkI ts q.2.toNat 0 = 0 from rfl, Int.add_zero] at lp
  have fb : decide (q.1 + wayI ts q.2.toNat p.2.toNat ≤ p.1) = followB ts p q := by
    unfold followB
    rw [Bool.eq_iff_iff, decide_eq_true_eq, decide_eq_true_eq]
    omega
  rw [fb] at lp
  have x0 := ix_pair0 st q
  have x1 := ix_pair1 st q
  have ln : lenF [tupI ts] st = .ok (.int ts.length) st := lenF_tupI ..
  have rr : range1F [.int (ts.length : Int)] st = .ok (.frz (rangeD 0 ts.length)) st := by rw [range1F_eq, if_pos (by omega), Int.toNat_natCast]
  unfold F__law_gone
  rw [g_right_eq]
  clear fb rg
  generalize followB ts p q = v at *
  generalize rangeD 0 ts.length = rd at *
  generalize (ts.length : Int) = L at *
  generalize tupI ts = td at *
  generalize pairD p = pd at *
  generalize pairD q = qd at *
  generalize g_body5 = b5 at *
  simp [-range1F_eq, runF, parS, x0, x1, ln, rr, lp]
theorem f_cf {ts : List Int} (hT : Trk ts) (hs : ts.sum.natAbs < big) {p q : P2} (hp : MatOk ts p) (hq : MatOk ts q) (st : Sto) : F_can_follow [tupI ts, pairD p, pairD q] st = .ok (.bl (followB ts p q)) st := by
  have e1 := f_check_track (st := st) hT
  have e2 := f_is_mark_of st (ts := ts) p
  have e3 := f_is_mark_of st (ts := ts) q
  rw [decide_eq_true hp] at e2
  rw [decide_eq_true hq] at e3
  have e4 := f_can_follow_by st hT hs hp hq
  generalize followB ts p q = v at *
  generalize tupI ts = td at *
  generalize pairD p = pd at *
  generalize pairD q = qd at *
  have c1 : F_check_mark [td, pd] st = .ok .non st := by simp [F_check_mark, runF, B_check_mark, e2]
  have c2 : F_check_mark [td, qd] st = .ok .non st := by simp [F_check_mark, runF, B_check_mark, e3]
  simp [F_can_follow, runF, B_can_follow, e1, c1, c2, e4]
theorem eqP (p q : P2) (st : Sto) : eqD (pairD p) (pairD q) st = .ok (.bl (decide (p = q))) st := by
  have := eq_tupI [p.1, p.2] [q.1, q.2] st
  have e : (decide ([p.1, p.2] = [q.1, q.2])) = decide (p = q) := by
    rw [decide_eq_decide]
    constructor
    · intro h; simp at h; exact Prod.ext h.1 h.2
    · intro h; rw [h]
  rw [e] at this
  exact this
def kk (g : P2 × P2) : NestedKey := .tup [.tup [.num g.1.1, .num g.1.2], .tup [.num g.2.1, .num g.2.2]]
def kkD (g : P2 × P2) : D := .tup [pairD g.1, pairD g.2]
theorem kk_eq (g : P2 × P2) : nkO (kkD g) = some (kk g) := rfl
theorem kk_inj {g h : P2 × P2} (e : kk g = kk h) : g = h := by
  unfold kk at e
  simp only [NestedKey.tup.injEq, List.cons.injEq, NestedKey.num.injEq, and_true] at e
  exact Prod.ext (Prod.ext e.1.1 e.1.2) (Prod.ext e.2.1 e.2.2)
def ledL (l : List (P2 × P2)) : List (D × D) := l.map fun g => (kkD g, .bl true)
theorem led_has (l : List (P2 × P2)) (g : P2 × P2) : hasN (ledL l) (kk g) = decide (g ∈ l) := by
  unfold hasN ledL
  rw [Bool.eq_iff_iff, List.any_eq_true, decide_eq_true_eq]
  constructor
  · rintro ⟨p, hp, e⟩
    obtain ⟨h, hh, rfl⟩ := List.mem_map.mp hp
    have e := of_decide_eq_true e
    rw [kk_eq] at e
    rw [← kk_inj (Option.some.inj e)]
    exact hh
  · intro hg
    exact ⟨_, List.mem_map.mpr ⟨g, hg, rfl⟩, by rw [kk_eq]; simp⟩
theorem led_put (l : List (P2 × P2)) (g : P2 × P2) : nPut (ledL l) (kk g) (kkD g) (.bl true) = ledL (if g ∈ l then l else l ++ [g]) := by
  unfold nPut
  rw [led_has]
  by_cases c : g ∈ l
  · rw [if_pos (by simpa using c), if_pos c]
    unfold ledL
    rw [List.map_map]
    refine List.map_congr_left fun h _ => ?_
    show (if nkO (kkD h) = some (kk g) then (kkD h, D.bl true) else (kkD h, D.bl true)) = _
    split <;> rfl
  · rw [if_neg (by simpa using c), if_neg c]
    unfold ledL
    rw [List.map_append]; rfl
def Led (ts : List Int) (l : List (P2 × P2)) : Prop := ∀ g ∈ l, MatOk ts g.1 ∧ MatOk ts g.2 ∧ followB ts g.1 g.2 = true
theorem Led.put {ts : List Int} {l : List (P2 × P2)} (h : Led ts l) {g : P2 × P2} (h1 : MatOk ts g.1) (h2 : MatOk ts g.2) (h3 : followB ts g.1 g.2 = true) : Led ts (if g ∈ l then l else l ++ [g]) := by
  split
  · exact h
  · intro x hx
    rcases List.mem_append.mp hx with hx | hx
    · exact h x hx
    · rw [List.mem_singleton.mp hx]; exact ⟨h1, h2, h3⟩
theorem put_len (l : List (P2 × P2)) (g : P2 × P2) : (if g ∈ l then l else l ++ [g]).length ≤ l.length + 1 := by
  split <;> simp
section
variable {ts : List Int} (hT : Trk ts) (hs : ts.sum.natAbs < big) (base : Sto)
theorem led_inner (hT : Trk ts) (hs : ts.sum.natAbs < big) {p : P2} (hp : MatOk ts p) (o0 o1 o3 o4 o5 o6 o7 o8 o9 o12 o14 o15 : Option D) : ∀ (ms : List P2), (∀ q ∈ ms, MatOk ts q) → ∀ (l : List (P2 × P2)) (o11 : Option D), Led ts l → l.length + ms.length ≤ 100000 →
    ∃ l' q11, loopF (tgT (.nm 11)) r_body11' (ms.map pairD) [o0, o1, some (tupI ts), o3, o4, o5, o6, o7, o8, o9, some (pairD p), o11, o12, some (.mut base.length), o14, o15] (base ++ [.dn (ledL l)]) = .nx [o0, o1, some (tupI ts), o3, o4, o5, o6, o7, o8, o9, some (pairD p), q11, o12, some (.mut base.length), o14, o15] (base ++ [.dn (ledL l')]) ∧ Led ts l' ∧ l'.length ≤ l.length + ms.length := by
  intro ms
  induction ms with
  | nil => intro _ l o11 h _; exact ⟨l, o11, by simp, h, by simp⟩
  | cons q ms ih =>
    intro hm l o11 h hl
    rw [List.length_cons] at hl
    have hq := hm q List.mem_cons_self
    have lf := f_law_can_follow (base ++ [.dn (ledL l)]) hT hs hp hq
    rw [List.map_cons, loopF_cons]
    cases hf : followB ts p q with
    | false =>
      rw [hf] at lf
      obtain ⟨l', q11, e, h1, h2⟩ := ih (fun x hx => hm x (List.mem_cons_of_mem _ hx)) l (some (pairD q)) h (by omega)
      refine ⟨l', q11, ?_, h1, by rw [List.length_cons]; omega⟩
      have step : bindS (tgT (.nm 11) (pairD q) [o0, o1, some (tupI ts), o3, o4, o5, o6, o7, o8, o9, some (pairD p), o11, o12, some (.mut base.length), o14, o15] (base ++ [.dn (ledL l)])) [o0, o1, some (tupI ts), o3, o4, o5, o6, o7, o8, o9, some (pairD p), o11, o12, some (.mut base.length), o14, o15] r_body11' = .nx [o0, o1, some (tupI ts), o3, o4, o5, o6, o7, o8, o9, some (pairD p), some (pairD q), o12, some (.mut base.length), o14, o15] (base ++ [.dn (ledL l)]) := by
        clear ih e
        generalize base ++ [MO.dn (ledL l)] = s1 at *
        generalize base.length = n at *
        generalize pairD p = pd at *
        generalize pairD q = qd at *
        generalize tupI ts = td at *
        unfold r_body11'
        simp [lf]
      rw [step]
      exact e
    | true =>
      rw [hf] at lf
      have hput := h.put (g := (p, q)) hp hq hf
      have hlen := put_len l (p, q)
      obtain ⟨l', q11, e, h1, h2⟩ := ih (fun x hx => hm x (List.mem_cons_of_mem _ hx)) (if (p, q) ∈ l then l else l ++ [(p, q)]) (some (pairD q)) hput (by omega)
      refine ⟨l', q11, ?_, h1, by rw [List.length_cons]; omega⟩
      have pu : putND (.mut base.length) (.tup [pairD p, pairD q]) (.bl true) (base ++ [.dn (ledL l)]) = some (base ++ [.dn (ledL (if (p, q) ∈ l then l else l ++ [(p, q)]))]) := by
        have g1 : (base ++ [MO.dn (ledL l)])[base.length]? = some (.dn (ledL l)) := by simp
        have g2 : nkO (.tup [pairD p, pairD q]) = some (kk (p, q)) := kk_eq (p, q)
        have g3 : (ledL l).length < 16777216 ∧ isTupD (.tup [pairD p, pairD q]) = true := ⟨by unfold ledL; rw [List.length_map]; omega, rfl⟩
        unfold putND
        simp only [g1, g2]
        rw [if_pos g3]
        have := led_put l (p, q)
        have e0 : kkD (p, q) = D.tup [pairD p, pairD q] := rfl
        rw [e0] at this
        rw [this]
        simp
      have step : bindS (tgT (.nm 11) (pairD q) [o0, o1, some (tupI ts), o3, o4, o5, o6, o7, o8, o9, some (pairD p), o11, o12, some (.mut base.length), o14, o15] (base ++ [.dn (ledL l)])) [o0, o1, some (tupI ts), o3, o4, o5, o6, o7, o8, o9, some (pairD p), o11, o12, some (.mut base.length), o14, o15] r_body11' = .nx [o0, o1, some (tupI ts), o3, o4, o5, o6, o7, o8, o9, some (pairD p), some (pairD q), o12, some (.mut base.length), o14, o15] (base ++ [.dn (ledL (if (p, q) ∈ l then l else l ++ [(p, q)]))]) := by
        clear ih e
        generalize base ++ [MO.dn (ledL (if (p, q) ∈ l then l else l ++ [(p, q)]))] = s2 at *
        generalize base ++ [MO.dn (ledL l)] = s1 at *
        generalize base.length = n at *
        generalize pairD p = pd at *
        generalize pairD q = qd at *
        generalize tupI ts = td at *
        unfold r_body11'
        simp [lf, putNS, pu]
      rw [step]
      exact e
theorem led_outer (hT : Trk ts) (hs : ts.sum.natAbs < big) {ms : List P2} (hm : ∀ q ∈ ms, MatOk ts q) (h8 : ms.length ≤ 8) (o0 o1 o3 o4 o6 o7 o8 o9 o12 o14 o15 : Option D) : ∀ (xs : List P2), (∀ q ∈ xs, MatOk ts q) → ∀ (l : List (P2 × P2)) (o10 o11 : Option D), Led ts l → l.length + 8 * xs.length ≤ 10000 →
    ∃ l' q10 q11, loopF (tgT (.nm 10)) r_body10' (xs.map pairD) [o0, o1, some (tupI ts), o3, o4, some (.lst (ms.map pairD)), o6, o7, o8, o9, o10, o11, o12, some (.mut base.length), o14, o15] (base ++ [.dn (ledL l)]) = .nx [o0, o1, some (tupI ts), o3, o4, some (.lst (ms.map pairD)), o6, o7, o8, o9, q10, q11, o12, some (.mut base.length), o14, o15] (base ++ [.dn (ledL l')]) ∧ Led ts l' ∧ l'.length ≤ l.length + 8 * xs.length := by
  intro xs
  induction xs with
  | nil => intro _ l o10 o11 h _; exact ⟨l, o10, o11, by simp, h, by simp⟩
  | cons p xs ih =>
    intro hx l o10 o11 h hl
    rw [List.length_cons] at hl
    have hp := hx p List.mem_cons_self
    obtain ⟨l1, q11, e1, h1, h2⟩ := led_inner base hT hs hp o0 o1 o3 o4 (some (.lst (ms.map pairD))) o6 o7 o8 o9 o12 o14 o15 ms hm l o11 h (by omega)
    obtain ⟨l2, r10, r11, e2, h3, h4⟩ := ih (fun x hx' => hx x (List.mem_cons_of_mem _ hx')) l1 (some (pairD p)) q11 h1 (by omega)
    refine ⟨l2, r10, r11, ?_, h3, by rw [List.length_cons]; omega⟩
    have it : iterD (.lst (ms.map pairD)) (base ++ [.dn (ledL l)]) = .ok (.frz (ms.map pairD)) (base ++ [.dn (ledL l)]) := rfl
    rw [List.map_cons, loopF_cons]
    have step : bindS (tgT (.nm 10) (pairD p) [o0, o1, some (tupI ts), o3, o4, some (.lst (ms.map pairD)), o6, o7, o8, o9, o10, o11, o12, some (.mut base.length), o14, o15] (base ++ [.dn (ledL l)])) [o0, o1, some (tupI ts), o3, o4, some (.lst (ms.map pairD)), o6, o7, o8, o9, o10, o11, o12, some (.mut base.length), o14, o15] r_body10' = .nx [o0, o1, some (tupI ts), o3, o4, some (.lst (ms.map pairD)), o6, o7, o8, o9, some (pairD p), q11, o12, some (.mut base.length), o14, o15] (base ++ [.dn (ledL l1)]) := by
      clear ih e2
      unfold r_body10'
      generalize base ++ [MO.dn (ledL l)] = s1 at *
      generalize base ++ [MO.dn (ledL l1)] = s2 at *
      generalize base.length = n at *
      generalize ms.map pairD = md at *
      generalize pairD p = pd at *
      generalize tupI ts = td at *
      generalize r_body11' = b11 at *
      simp [it, e1]
    rw [step]
    exact e2
end
theorem lcG_t9 {α : Type} {t : Tg} {fe : EvE} {envw : G.Env} {st : Sto} {nxt : Nat → Sto → Option (Option D)} (f h : α → D) : ∀ (as : List α) (i : Nat) (acc : List D), acc.length + as.length ≤ 16777216 → (∀ j, nxt (i + j) st = some ((as.map f)[j]?)) →
    (∀ a ∈ as, ∃ env1, t.set (f a) envw = some env1 ∧ fe env1 st = .ok (h a) st) → lcG t yesB fe envw nxt as.length i st acc = .ok (acc ++ as.map h) st
  | [], i, acc, _, hn, _ => by
    have := hn 0
    simp only [Nat.add_zero, List.map_nil, List.getElem?_nil] at this
    simp [lcG, this]
  | a :: as, i, acc, hl, hn, hx => by
    obtain ⟨env1, h1, h2⟩ := hx a List.mem_cons_self
    simp only [List.length_cons] at hl
    have n0 := hn 0
    simp only [Nat.add_zero, List.map_cons, List.getElem?_cons_zero] at n0
    rw [List.length_cons]
    unfold lcG
    rw [n0]
    simp only
    rw [turnC_yes h1 h2 (by omega), lcG_t9 f h as (i + 1) _ (by simp; omega) (fun j => by
      have := hn (j + 1)
      rw [List.map_cons, List.getElem?_cons_succ, show i + (j + 1) = i + 1 + j by omega] at this
      exact this) fun y hy => hx y (List.mem_cons_of_mem _ hy)]
    simp
theorem rp12_ok {ts : List Int} (hT : Trk ts) (hs : ts.sum.natAbs < big) {ms : List P2} (hm : ∀ q ∈ ms, MatOk ts q) (h8 : ms.length ≤ 100) {l : List (P2 × P2)} (h : Led ts l) (hl : l.length ≤ 10000) (base : Sto) (o0 o1 o3 o4 o6 o7 o8 o9 o10 o11 o12 : Option D) :
    rp12 [o0, o1, some (tupI ts), o3, o4, some (.lst (ms.map pairD)), o6, o7, o8, o9, o10, o11, o12, some (.mut base.length), none, none] (base ++ [.dn (ledL l)]) = .nx [o0, o1, some (tupI ts), o3, o4, some (.lst (ms.map pairD)), o6, o7, o8, o9, o10, o11, o12, some (.mut base.length), none, none] (base ++ [.dn (ledL l)]) := by
  have gG : (base ++ [MO.gn (ledL l)])[base.length]? = some (.gn (ledL l)) := by simp
  have lc := lcG_t9 (t := .tp [.nm 10, .nm 11]) (fe := callE anyF (consA (lcE (iterE (varE 5)) (.nm 15) (yesB) (andE (binE inNF (tupE (consA (varE 11) (consA (varE 15) (nilA)))) (varE 13)) (notE (callE F_can_follow (consA (varE 2) (consA (varE 10) (consA (varE 15) (nilA))))))) [15]) (nilA)))
    (envw := [o0, o1, some (tupI ts), o3, o4, some (.lst (ms.map pairD)), o6, o7, o8, o9, none, none, o12, some (.mut base.length), none, none]) (st := base ++ [.gn (ledL l)]) (nxt := nNxt base.length) kkD (fun _ => .bl false) l 0 [] (by simp; omega)
    (fun j => by
      unfold nNxt
      rw [gG, Nat.zero_add]
      show some (((ledL l)[j]?).map (·.1)) = _
      unfold ledL
      rw [List.getElem?_map, List.getElem?_map]
      cases l[j]? <;> rfl)
    (by
      intro g hg
      obtain ⟨g1, g2, g3⟩ := h g hg
      refine ⟨[o0, o1, some (tupI ts), o3, o4, some (.lst (ms.map pairD)), o6, o7, o8, o9, some (pairD g.1), some (pairD g.2), o12, some (.mut base.length), none, none], by simp [kkD, Tg.set, Tg.sets], ?_⟩
      have inner := lc_typed (t := .nm 15) (fe := andE (binE inNF (tupE (consA (varE 11) (consA (varE 15) (nilA)))) (varE 13)) (notE (callE F_can_follow (consA (varE 2) (consA (varE 10) (consA (varE 15) (nilA)))))))
        (envw := [o0, o1, some (tupI ts), o3, o4, some (.lst (ms.map pairD)), o6, o7, o8, o9, some (pairD g.1), some (pairD g.2), o12, some (.mut base.length), none, none]) (st := base ++ [.gn (ledL l)]) pairD (fun _ => D.bl false) ms [] (by simp; omega) (by
          intro q hq
          have hqm := hm q hq
          refine ⟨[o0, o1, some (tupI ts), o3, o4, some (.lst (ms.map pairD)), o6, o7, o8, o9, some (pairD g.1), some (pairD g.2), o12, some (.mut base.length), none, some (pairD q)], by simp, ?_⟩
          have cf := f_cf hT hs g1 hqm (base ++ [.gn (ledL l)])
          have hin : inNF (.tup [pairD g.2, pairD q]) (.mut base.length) (base ++ [.gn (ledL l)]) = .ok (.bl (decide ((g.2, q) ∈ l))) (base ++ [.gn (ledL l)]) := by
            have g2' : nkO (.tup [pairD g.2, pairD q]) = some (kk (g.2, q)) := kk_eq (g.2, q)
            have : hasND (.mut base.length) (.tup [pairD g.2, pairD q]) (base ++ [.gn (ledL l)]) = some (decide ((g.2, q) ∈ l)) := by
              unfold hasND
              simp only [gG, g2']
              rw [if_pos (show isTupD (.tup [pairD g.2, pairD q]) = true from rfl)]
              show some (hasN (ledL l) (kk (g.2, q))) = _
              rw [led_has]
            unfold inNF
            rw [this]
          generalize base ++ [MO.gn (ledL l)] = s1 at *
          by_cases c : (g.2, q) ∈ l
          · have hf := follow_tr hT g1 g2 hqm g3 (h _ c).2.2
            rw [hf] at cf
            rw [decide_eq_true c] at hin
            generalize base.length = n at *
            generalize ms.map pairD = md at *
            generalize pairD g.1 = x1 at *
            generalize pairD g.2 = x2 at *
            generalize pairD q = x3 at *
            generalize tupI ts = td at *
            simp [hin, cf]
          · rw [decide_eq_false c] at hin
            generalize base.length = n at *
            generalize ms.map pairD = md at *
            generalize pairD g.1 = x1 at *
            generalize pairD g.2 = x2 at *
            generalize pairD q = x3 at *
            generalize tupI ts = td at *
            simp [hin])
      rw [List.nil_append] at inner
      have it : iterD (.lst (ms.map pairD)) (base ++ [.gn (ledL l)]) = .ok (.frz (ms.map pairD)) (base ++ [.gn (ledL l)]) := rfl
      have an : anyF [.lst (ms.map fun _ => D.bl false)] (base ++ [.gn (ledL l)]) = .ok (.bl false) (base ++ [.gn (ledL l)]) := by
        have := anyF_bools (base ++ [.gn (ledL l)]) (ms.map fun _ => false)
        rw [List.map_map] at this
        have e : ((ms.map fun _ => false).any id) = false := by
          rw [List.any_eq_false]
          intro x hx
          obtain ⟨_, _, rfl⟩ := List.mem_map.mp hx
          simp
        rw [e] at this
        exact this
      generalize base ++ [MO.gn (ledL l)] = s1 at *
      generalize ms.map (fun _ => D.bl false) = fl at *
      generalize base.length = n at *
      generalize ms.map pairD = md at *
      generalize pairD g.1 = x1 at *
      generalize pairD g.2 = x2 at *
      generalize tupI ts = td at *
      simp [-lcE_eq, lcE, lcL, iterE, it, wipeE, inner, R.bind, an])
  rw [List.nil_append] at lc
  have an : anyF [.lst (l.map fun _ => D.bl false)] (base ++ [.dn (ledL l)]) = .ok (.bl false) (base ++ [.dn (ledL l)]) := by
    have := anyF_bools (base ++ [.dn (ledL l)]) (l.map fun _ => false)
    rw [List.map_map] at this
    have e : ((l.map fun _ => false).any id) = false := by
      rw [List.any_eq_false]
      intro x hx
      obtain ⟨_, _, rfl⟩ := List.mem_map.mp hx
      simp
    rw [e] at this
    exact this
  have gD : (base ++ [MO.dn (ledL l)])[base.length]? = some (.dn (ledL l)) := by simp
  have wk : walkedAt (base ++ [MO.dn (ledL l)]) base.length = false := by unfold walkedAt; rw [gD]; rfl
  have sG : (base ++ [MO.dn (ledL l)]).set base.length (.gn (ledL l)) = base ++ [.gn (ledL l)] := by simp
  have sD : (base ++ [MO.gn (ledL l)]).set base.length (.dn (ledL l)) = base ++ [.dn (ledL l)] := by simp
  have ll : (ledL l).length = l.length := by unfold ledL; simp
  have fin : finN base.length (l.map fun _ => D.bl false) (base ++ [.gn (ledL l)]) = .ok (.lst (l.map fun _ => D.bl false)) (base ++ [.dn (ledL l)]) := by
    unfold finN
    simp only [gG, sD]
  unfold rp12
  have whole : lcNE (varE 13) (.tp [.nm 10, .nm 11]) (yesB) (callE anyF (consA (lcE (iterE (varE 5)) (.nm 15) (yesB) (andE (binE inNF (tupE (consA (varE 11) (consA (varE 15) (nilA)))) (varE 13)) (notE (callE F_can_follow (consA (varE 2) (consA (varE 10) (consA (varE 15) (nilA))))))) [15]) (nilA))) [10, 11]
      [o0, o1, some (tupI ts), o3, o4, some (.lst (ms.map pairD)), o6, o7, o8, o9, o10, o11, o12, some (.mut base.length), none, none] (base ++ [.dn (ledL l)]) = .ok (.lst (l.map fun _ => D.bl false)) (base ++ [.dn (ledL l)]) := by
    unfold lcNE
    show (R.ok (D.mut base.length) (base ++ [MO.dn (ledL l)])).bind _ = _
    show (match (base ++ [MO.dn (ledL l)])[base.length]?, walkedAt (base ++ [MO.dn (ledL l)]) base.length with
      | some (.dn kvs), false => _
      | _, _ => _) = _
    rw [gD, wk]
    show (lcG _ yesB _ (wipeE _ [10, 11]) (nNxt base.length) (ledL l).length 0 ((base ++ [MO.dn (ledL l)]).set base.length (.gn (ledL l))) []).bind (finN base.length) = _
    rw [sG, ll]
    have w : wipeE [o0, o1, some (tupI ts), o3, o4, some (.lst (ms.map pairD)), o6, o7, o8, o9, o10, o11, o12, some (.mut base.length), none, none] [10, 11] = [o0, o1, some (tupI ts), o3, o4, some (.lst (ms.map pairD)), o6, o7, o8, o9, none, none, o12, some (.mut base.length), none, none] := by simp [wipeE]
    rw [w, lc]
    exact fin
  clear lc fin gG gD sG sD wk ll
  generalize l.map (fun _ => D.bl false) = fl at *
  generalize base ++ [MO.dn (ledL l)] = s1 at *
  generalize ms.map pairD = md at *
  generalize tupI ts = td at *
  generalize lcNE (varE 13) (.tp [.nm 10, .nm 11]) (yesB) (callE anyF (consA (lcE (iterE (varE 5)) (.nm 15) (yesB) (andE (binE inNF (tupE (consA (varE 11) (consA (varE 15) (nilA)))) (varE 13)) (notE (callE F_can_follow (consA (varE 2) (consA (varE 10) (consA (varE 15) (nilA))))))) [15]) (nilA))) [10, 11] = W at *
  simp [whole, an]
theorem lc_marks {ts : List Int} (hT : DT ts 10000000000000000000000000) {p : Nat} (o1 o4' o5 o6 o7 o8 o9 o10 o11 o12 o13 o15 : Option D) {st : Sto} (hp : Pool p st) :
    ∃ (ms : List P2) (s' : Sto), lcF (.nm 14) yesB (tupE (consA (callE F__law_great (consA (varE 0) (consA (binE mulD (cE (.int 2)) (varE 4)) (nilA)))) (consA (callE F__law_below (consA (varE 0) (consA (varE 3) (nilA)))) (nilA)))) [some (.mut p), o1, some (tupI ts), some (.int ts.length), some (.int ts.sum), o5, o6, o7, o8, o9, o10, o11, o12, o13, none, o15] (rangeD 0 5) st [] = .ok (ms.map pairD) s' ∧ ms.length = 5 ∧ (∀ q ∈ ms, MatOk ts q) ∧ Pool p s' := by
  have hsp := hT.p
  have h0 := hT.t.pos
  have h8 := hT.t.le
  obtain ⟨s', acc, e, ps, rfl, h1, h2, h3⟩ := lc_inv (t := .nm 14) (tt := yesB) (fe := tupE (consA (callE F__law_great (consA (varE 0) (consA (binE mulD (cE (.int 2)) (varE 4)) (nilA)))) (consA (callE F__law_below (consA (varE 0) (consA (varE 3) (nilA)))) (nilA)))) (envw := [some (.mut p), o1, some (tupI ts), some (.int ts.length), some (.int ts.sum), o5, o6, o7, o8, o9, o10, o11, o12, o13, none, o15])
    (fun j s acc => ∃ ps : List P2, acc = ps.map pairD ∧ ps.length = j ∧ (∀ x ∈ ps, MatOk ts x) ∧ Pool p s) (rangeD 0 5) 0 st [] ⟨[], rfl, rfl, by simp, hp⟩
    (by
      rintro j x s acc hx ⟨ps, rfl, h1, h2, hp⟩
      obtain ⟨rfl, hj⟩ := range_get hx
      obtain ⟨g, s1, e1, g0, g1, hp1, -⟩ := f_great (w := 2 * ts.sum) hp (by omega)
      obtain ⟨v, s2, e2, v0, v1, hp2, -⟩ := f_below (m := ts.length) hp1 (by omega) (by omega)
      have mk : mulD (.int 2) (.int ts.sum) s = .ok (.int (2 * ts.sum)) s := by rw [mulD_int, if_pos (mulOk_lit' (by decide))]
      refine ⟨s2, (ps ++ [(g, v)]).map pairD, fun kk => ?_, ps ++ [(g, v)], rfl, by simp [h1], fun y hy => ?_, hp2⟩
      · have fe : tupE (consA (callE F__law_great (consA (varE 0) (consA (binE mulD (cE (.int 2)) (varE 4)) (nilA)))) (consA (callE F__law_below (consA (varE 0) (consA (varE 3) (nilA)))) (nilA))) [some (.mut p), o1, some (tupI ts), some (.int ts.length), some (.int ts.sum), o5, o6, o7, o8, o9, o10, o11, o12, o13, some (.int (0 + j)), o15] s = .ok (pairD (g, v)) s2 := by
          unfold pairD
          generalize 2 * ts.sum = w at *
          generalize ts.sum = sm at *
          generalize (ts.length : Int) = L at *
          generalize tupI ts = td at *
          simp [-mulD_int, mk, e1, e2]
        rw [turnC_yes (y := pairD (g, v)) (st' := s2) (env1 := [some (.mut p), o1, some (tupI ts), some (.int ts.length), some (.int ts.sum), o5, o6, o7, o8, o9, o10, o11, o12, o13, some (.int (0 + j)), o15]) (by simp) fe (by simp; omega)]
        simp
      · rcases List.mem_append.mp hy with hy | hy
        · exact h2 y hy
        · rw [List.mem_singleton.mp hy]; exact ⟨g0, v0, v1⟩)
  exact ⟨ps, s', e, by simpa using h1, h2, h3⟩
theorem sq_inner {ts : List Int} (hT : Trk ts) (hs : ts.sum.natAbs < big) {p : P2} (hp : MatOk ts p) (lap : Int) (st : Sto) (o0 o3 o4 o5 o6 o7 o8 o9 o13 o14 o15 : Option D) : ∀ (ms : List P2), (∀ q ∈ ms, MatOk ts q) → ∀ (o11 o12 : Option D),
    ∃ q11 q12, loopF (tgT (.nm 11)) r_body11 (ms.map pairD) [o0, some (.int lap), some (tupI ts), o3, o4, o5, o6, o7, o8, o9, some (pairD p), o11, o12, o13, o14, o15] st = .nx [o0, some (.int lap), some (tupI ts), o3, o4, o5, o6, o7, o8, o9, some (pairD p), q11, q12, o13, o14, o15] st := by
  intro ms
  induction ms with
  | nil => intro _ o11 o12; exact ⟨o11, o12, by simp⟩
  | cons q ms ih =>
    intro hm o11 o12
    have hq := hm q List.mem_cons_self
    obtain ⟨q11, q12, e⟩ := ih (fun x hx => hm x (List.mem_cons_of_mem _ hx)) (some (pairD q)) (some (.bl (followB ts p q)))
    refine ⟨q11, q12, ?_⟩
    have cf := f_cf hT hs hp hq st
    have cf2 := f_cf hT hs hq hp st
    have gn := f_gone hT hp hq st
    have sm := f_same_refl (.bl (followB ts p q)) st trivial
    have eq := eqP p q st
    rw [List.map_cons, loopF_cons]
    have step : bindS (tgT (.nm 11) (pairD q) [o0, some (.int lap), some (tupI ts), o3, o4, o5, o6, o7, o8, o9, some (pairD p), o11, o12, o13, o14, o15] st) [o0, some (.int lap), some (tupI ts), o3, o4, o5, o6, o7, o8, o9, some (pairD p), o11, o12, o13, o14, o15] r_body11 = .nx [o0, some (.int lap), some (tupI ts), o3, o4, o5, o6, o7, o8, o9, some (pairD p), some (pairD q), some (.bl (followB ts p q)), o13, o14, o15] st := by
      clear ih e
      cases hf : followB ts p q with
      | false =>
        rw [hf] at cf gn sm
        clear cf2 eq
        generalize pairD p = pd at *
        generalize pairD q = qd at *
        generalize tupI ts = td at *
        unfold r_body11
        by_cases c : lap = 1
        · simp [c, G.pick, cf, gn, sm]
        · simp [c, cf, gn, sm]
      | true =>
        rw [hf] at cf gn sm
        have lt := follow_lt hT hp hq hf
        have hne : ¬ p = q := fun z => by rw [z] at lt; omega
        have hrev : followB ts q p = false := by
          cases h2 : followB ts q p with
          | false => rfl
          | true => have := follow_lt hT hq hp h2; omega
        rw [hrev] at cf2
        rw [decide_eq_false hne] at eq
        generalize pairD p = pd at *
        generalize pairD q = qd at *
        generalize tupI ts = td at *
        unfold r_body11
        by_cases c : lap = 1
        · simp [c, G.pick, cf, gn, sm, eq, cf2]
        · simp [c, cf, gn, sm, eq, cf2]
    rw [step]
    exact e
theorem rp9_ok {ts : List Int} (hT : Trk ts) (hs : ts.sum.natAbs < big) {ms : List P2} (hm : ∀ q ∈ ms, MatOk ts q) (lap : Int) (st : Sto) (o0 o3 o4 o6 o7 o8 o9 o10 o11 o12 o13 o14 o15 : Option D) :
    ∃ q10 q11 q12, rp9 [o0, some (.int lap), some (tupI ts), o3, o4, some (.lst (ms.map pairD)), o6, o7, o8, o9, o10, o11, o12, o13, o14, o15] st = .nx [o0, some (.int lap), some (tupI ts), o3, o4, some (.lst (ms.map pairD)), o6, o7, o8, o9, q10, q11, q12, o13, o14, o15] st := by
  have it : iterD (.lst (ms.map pairD)) st = .ok (.frz (ms.map pairD)) st := rfl
  have out : ∀ (xs : List P2), (∀ q ∈ xs, MatOk ts q) → ∀ o10 o11 o12 : Option D, ∃ q10 q11 q12, loopF (tgT (.nm 10)) r_body10 (xs.map pairD) [o0, some (.int lap), some (tupI ts), o3, o4, some (.lst (ms.map pairD)), o6, o7, o8, o9, o10, o11, o12, o13, o14, o15] st = .nx [o0, some (.int lap), some (tupI ts), o3, o4, some (.lst (ms.map pairD)), o6, o7, o8, o9, q10, q11, q12, o13, o14, o15] st := by
    intro xs
    induction xs with
    | nil => intro _ o10 o11 o12; exact ⟨o10, o11, o12, by simp⟩
    | cons p xs ih =>
      intro hx o10 o11 o12
      obtain ⟨q11, q12, e1⟩ := sq_inner hT hs (hx p List.mem_cons_self) lap st o0 o3 o4 (some (.lst (ms.map pairD))) o6 o7 o8 o9 o13 o14 o15 ms hm o11 o12
      obtain ⟨r10, r11, r12, e2⟩ := ih (fun x hx' => hx x (List.mem_cons_of_mem _ hx')) (some (pairD p)) q11 q12
      refine ⟨r10, r11, r12, ?_⟩
      rw [List.map_cons, loopF_cons]
      have step : bindS (tgT (.nm 10) (pairD p) [o0, some (.int lap), some (tupI ts), o3, o4, some (.lst (ms.map pairD)), o6, o7, o8, o9, o10, o11, o12, o13, o14, o15] st) [o0, some (.int lap), some (tupI ts), o3, o4, some (.lst (ms.map pairD)), o6, o7, o8, o9, o10, o11, o12, o13, o14, o15] r_body10 = .nx [o0, some (.int lap), some (tupI ts), o3, o4, some (.lst (ms.map pairD)), o6, o7, o8, o9, some (pairD p), q11, q12, o13, o14, o15] st := by
        clear ih e2
        unfold r_body10
        generalize ms.map pairD = md at *
        generalize pairD p = pd at *
        generalize tupI ts = td at *
        generalize r_body11 = b11 at *
        simp [it, e1]
      rw [step]
      exact e2
  obtain ⟨q10, q11, q12, e⟩ := out ms hm o10 o11 o12
  refine ⟨q10, q11, q12, ?_⟩
  unfold rp9
  clear out
  generalize ms.map pairD = md at *
  generalize tupI ts = td at *
  generalize r_body10 = b10 at *
  simp [it, e]
theorem f_outer {st : Sto} {p : Nat} {lap : Int} (hp : Pool p st) (o2 o3 o4 o5 o6 o7 o8 o9 o10 o11 o12 o13 : Option D) :
    ∃ q2 q3 q4 q5 q6 q7 q8 q9 q10 q11 q12 q13 st', r_body1 [some (.mut p), some (.int lap), o2, o3, o4, o5, o6, o7, o8, o9, o10, o11, o12, o13, none, none] st = .nx [some (.mut p), some (.int lap), q2, q3, q4, q5, q6, q7, q8, q9, q10, q11, q12, q13, none, none] st' ∧ Pool p st' := by
  have hbig := big_ge
  obtain ⟨w, s1, e1, hw, hp1, -⟩ := f_one.three 3 40 10000000000000000000000000 hp
  obtain ⟨ts, s2, e2, hTw, hp2, -⟩ := f_track.dt (w := w) hp1 (by omega)
  have hT : DT ts 10000000000000000000000000 := .of (by omega) hTw.t.pos (by have := hTw.t.le; omega) (fun x hx => by have := hTw.b x hx; omega)
  have hss := hT.s
  have hsp := hT.p
  have h0 := hT.t.pos
  have h8 := hT.t.le
  have hs : ts.sum.natAbs < big := by omega
  obtain ⟨ms, s3, e3, ml, mo, hp3⟩ := lc_marks hT (some (.int lap)) none o5 o6 o7 o8 o9 o10 o11 o12 o13 none hp2
  obtain ⟨m0, mr, hms⟩ : ∃ m0 mr, ms = m0 :: mr := by
    cases ms with
    | nil => simp at ml
    | cons a b => exact ⟨a, b, rfl⟩
  have hm0 : MatOk ts m0 := mo m0 (by rw [hms]; exact List.mem_cons_self)
  have mn := mnat hm0
  obtain ⟨oi, s4, e4, oi0, oi1, hp4, -⟩ := f_below (m := ts.length) hp3 (by omega) (by omega)
  obtain ⟨o, rfl⟩ := Int.eq_ofNat_of_zero_le oi0
  have ho : o < ts.length := by omega
  have lw := f_law_way s4 hT.t mn.2 ho hs
  rw [mn.1] at lw
  have wp := way_pos hT.t mn.2 ho
  obtain ⟨W, hW⟩ : ∃ W, wayI ts m0.2.toNat o = W := ⟨_, rfl⟩
  rw [hW] at lw wp
  obtain ⟨x, s5, e5, x0, x1, hp5, -⟩ := f_below (m := ts.length) hp4 (by omega) (by omega)
  obtain ⟨J, hJ⟩ : ∃ J : P2, J = (m0.1 + W, (o : Int)) := ⟨_, rfl⟩
  obtain ⟨m8, hm8⟩ : ∃ m8, ms ++ [(m0.1 + W, (o : Int)), (m0.1 + W - 1, (o : Int)), (m0.1 + ts.sum, x)] = m8 := ⟨_, rfl⟩
  have hJm : MatOk ts (m0.1 + W, (o : Int)) := ⟨by have := hm0.1; show (0 : Int) ≤ m0.1 + W; omega, by show (0 : Int) ≤ (o : Int); omega, by show (o : Int) < _; omega⟩
  have hJ1 : MatOk ts (m0.1 + W - 1, (o : Int)) := ⟨by have := hm0.1; show (0 : Int) ≤ m0.1 + W - 1; omega, by show (0 : Int) ≤ (o : Int); omega, by show (o : Int) < _; omega⟩
  have hJ2 : MatOk ts (m0.1 + ts.sum, x) := ⟨by have := hm0.1; show (0 : Int) ≤ m0.1 + ts.sum; omega, x0, x1⟩
  have mo8 : ∀ q ∈ m8, MatOk ts q := fun q hq => by
    rw [← hm8] at hq
    rcases List.mem_append.mp hq with hq | hq
    · exact mo q hq
    · simp only [List.mem_cons, List.not_mem_nil, or_false] at hq
      rcases hq with rfl | rfl | rfl
      · exact hJm
      · exact hJ1
      · exact hJ2
  have l8 : m8.length = 8 := by rw [← hm8, List.length_append, ml]; rfl
  have c1 := f_cf hT.t hs hJm hm0 s5
  have c2 := f_cf hT.t hs hJ1 hm0 s5
  have c3 := f_cf hT.t hs hJ2 hm0 s5
  have f1 : followB ts (m0.1 + W, (o : Int)) m0 = true := by
    unfold followB
    rw [Int.toNat_natCast, hW]
    exact decide_eq_true (by show m0.1 + W - m0.1 ≥ W; omega)
  have f2 : followB ts (m0.1 + W - 1, (o : Int)) m0 = false := by
    unfold followB
    rw [Int.toNat_natCast, hW]
    exact decide_eq_false (by show ¬ (m0.1 + W - 1 - m0.1 ≥ W); omega)
  have f3 : followB ts (m0.1 + ts.sum, x) m0 = true := by
    unfold followB
    have := way_le_sum hT.t mn.2 (mnat hJ2).2
    exact decide_eq_true (by show m0.1 + ts.sum - m0.1 ≥ wayI ts m0.2.toNat x.toNat; have : wayI ts m0.2.toNat x.toNat ≤ ts.sum := this; omega)
  rw [f1] at c1
  rw [f2] at c2
  rw [f3] at c3
  obtain ⟨q10, q11, q12, e9⟩ := rp9_ok hT.t hs mo8 lap s5 (some (.mut p)) (some (.int ts.length)) (some (.int ts.sum)) (some (.int m0.1)) (some (.int m0.2)) (some (.int o)) (some (pairD (m0.1 + W, (o : Int)))) o10 o11 o12 o13 none none
  obtain ⟨l', r10, r11, e11, hled, hll⟩ := led_outer s5 hT.t hs mo8 (by omega) (some (.mut p)) (some (.int lap)) (some (.int ts.length)) (some (.int ts.sum)) (some (.int m0.1)) (some (.int m0.2)) (some (.int o)) (some (pairD (m0.1 + W, (o : Int)))) q12 none none m8 mo8 [] q10 q11 (fun g hg => by cases hg) (by simp; omega)
  have e12 := rp12_ok hT.t hs mo8 (by omega) hled (by simp at hll; omega) s5 (some (.mut p)) (some (.int lap)) (some (.int ts.length)) (some (.int ts.sum)) (some (.int m0.1)) (some (.int m0.2)) (some (.int o)) (some (pairD (m0.1 + W, (o : Int)))) r10 r11 q12
  have r1 : rp1 [some (.mut p), some (.int lap), o2, o3, o4, o5, o6, o7, o8, o9, o10, o11, o12, o13, none, none] st = .nx [some (.mut p), some (.int lap), some (tupI ts), o3, o4, o5, o6, o7, o8, o9, o10, o11, o12, o13, none, none] s2 := by
    generalize tupI ts = td at *
    simp [rp1, e1, e2]
  have r2 : rp2 [some (.mut p), some (.int lap), some (tupI ts), o3, o4, o5, o6, o7, o8, o9, o10, o11, o12, o13, none, none] s2 = .nx [some (.mut p), some (.int lap), some (tupI ts), some (.int ts.length), some (.int ts.sum), o5, o6, o7, o8, o9, o10, o11, o12, o13, none, none] s2 := by
    have ln : lenF [tupI ts] s2 = .ok (.int ts.length) s2 := lenF_tupI ..
    have sm : sumF [tupI ts] s2 = .ok (.int ts.sum) s2 := by simp
    generalize ts.sum = sm_ at *
    generalize (ts.length : Int) = L at *
    generalize tupI ts = td at *
    simp [rp2, ln, sm]
  have r3 : rp3 [some (.mut p), some (.int lap), some (tupI ts), some (.int ts.length), some (.int ts.sum), o5, o6, o7, o8, o9, o10, o11, o12, o13, none, none] s2 = .nx [some (.mut p), some (.int lap), some (tupI ts), some (.int ts.length), some (.int ts.sum), some (.lst (ms.map pairD)), o6, o7, o8, o9, o10, o11, o12, o13, none, none] s3 := by
    have rg : range1F [.int 5] s2 = .ok (.frz (rangeD 0 5)) s2 := rfl
    generalize ms.map pairD = md at *
    generalize ts.sum = sm_ at *
    generalize (ts.length : Int) = L at *
    generalize tupI ts = td at *
    generalize rangeD 0 5 = r5 at *
    simp [-lcE_eq, -range1F_eq, rp3, lcE, lcL, rg, wipeE, e3, R.bind]
  have i0 : ∀ s, ixD (.lst (ms.map pairD)) (.int 0) s = .ok (pairD m0) s := fun s => ixD_lst _ _ _ (by rw [hms]; exact atI_nat' ((m0 :: mr).map pairD) 0 (by simp))
  have r4 : rp4 [some (.mut p), some (.int lap), some (tupI ts), some (.int ts.length), some (.int ts.sum), some (.lst (ms.map pairD)), o6, o7, o8, o9, o10, o11, o12, o13, none, none] s3 = .nx [some (.mut p), some (.int lap), some (tupI ts), some (.int ts.length), some (.int ts.sum), some (.lst (ms.map pairD)), some (.int m0.1), some (.int m0.2), o8, o9, o10, o11, o12, o13, none, none] s3 := by
    have i0 := i0 s3
    clear r1 r2 r3 e1 e2 e3 e4 e5 e9 e11 e12 c1 c2 c3 lw hJm hJ1 hJ2 mo8 mo hm8 hms
    generalize ms.map pairD = md at *
    unfold pairD at i0
    generalize (ts.length : Int) = L at *
    generalize tupI ts = td at *
    simp [rp4, i0]
  have r5 : rp5 [some (.mut p), some (.int lap), some (tupI ts), some (.int ts.length), some (.int ts.sum), some (.lst (ms.map pairD)), some (.int m0.1), some (.int m0.2), o8, o9, o10, o11, o12, o13, none, none] s3 = .nx [some (.mut p), some (.int lap), some (tupI ts), some (.int ts.length), some (.int ts.sum), some (.lst (ms.map pairD)), some (.int m0.1), some (.int m0.2), some (.int o), o9, o10, o11, o12, o13, none, none] s4 := by
    generalize ms.map pairD = md at *
    generalize (ts.length : Int) = L at *
    generalize tupI ts = td at *
    generalize (o : Int) = oo at *
    simp [rp5, e4]
  have r6 : rp6 [some (.mut p), some (.int lap), some (tupI ts), some (.int ts.length), some (.int ts.sum), some (.lst (ms.map pairD)), some (.int m0.1), some (.int m0.2), some (.int o), o9, o10, o11, o12, o13, none, none] s4 = .nx [some (.mut p), some (.int lap), some (tupI ts), some (.int ts.length), some (.int ts.sum), some (.lst (ms.map pairD)), some (.int m0.1), some (.int m0.2), some (.int o), some (pairD (m0.1 + W, (o : Int))), o10, o11, o12, o13, none, none] s4 := by
    clear e9 e11 e12 c1
    generalize ms.map pairD = md at *
    unfold pairD
    dsimp only
    generalize (ts.length : Int) = L at *
    generalize tupI ts = td at *
    generalize (o : Int) = oo at *
    simp [rp6, lw]
  have r7 : rp7 [some (.mut p), some (.int lap), some (tupI ts), some (.int ts.length), some (.int ts.sum), some (.lst (ms.map pairD)), some (.int m0.1), some (.int m0.2), some (.int o), some (pairD (m0.1 + W, (o : Int))), o10, o11, o12, o13, none, none] s4 = .nx [some (.mut p), some (.int lap), some (tupI ts), some (.int ts.length), some (.int ts.sum), some (.lst (m8.map pairD)), some (.int m0.1), some (.int m0.2), some (.int o), some (pairD (m0.1 + W, (o : Int))), o10, o11, o12, o13, none, none] s5 := by
    have y0 := ix_pair0 s4 (m0.1 + W, (o : Int))
    have ad : addD (.lst (ms.map pairD)) (.lst [pairD (m0.1 + W, (o : Int)), .tup [.int (m0.1 + W - 1), .int o], .tup [.int (m0.1 + ts.sum), .int x]]) s5 = .ok (.lst (m8.map pairD)) s5 := by
      have : addD (.lst (ms.map pairD)) (.lst [pairD (m0.1 + W, (o : Int)), pairD (m0.1 + W - 1, (o : Int)), pairD (m0.1 + ts.sum, x)]) s5 = .ok (.lst (ms.map pairD ++ [pairD (m0.1 + W, (o : Int)), pairD (m0.1 + W - 1, (o : Int)), pairD (m0.1 + ts.sum, x)])) s5 := by
        show (if (ms.map pairD).length + 3 ≤ 16777216 then R.ok (D.lst (ms.map pairD ++ [pairD (m0.1 + W, (o : Int)), pairD (m0.1 + W - 1, (o : Int)), pairD (m0.1 + ts.sum, x)])) s5 else R.fail) = _
        rw [if_pos (by rw [List.length_map, ml]; omega)]
      rw [← hm8, List.map_append]
      exact this
    clear e9 e11 e12 c1 c2 c3
    have y0 : ixD (pairD (m0.1 + W, (o : Int))) (.int 0) s4 = .ok (.int (m0.1 + W)) s4 := y0
    generalize m8.map pairD = m8d at *
    generalize ms.map pairD = md at *
    generalize pairD (m0.1 + W, (o : Int)) = jd at *
    generalize m0.1 + W = jw at *
    generalize ts.sum = sm_ at *
    generalize (ts.length : Int) = L at *
    generalize tupI ts = td at *
    generalize (o : Int) = oo at *
    simp [rp7, y0, e5, ad]
  have j0 : ixD (.lst (m8.map pairD)) (.int 0) s5 = .ok (pairD m0) s5 := ixD_lst _ _ _ (by rw [← hm8, hms]; exact atI_nat' (((m0 :: mr) ++ [(m0.1 + W, (o : Int)), (m0.1 + W - 1, (o : Int)), (m0.1 + ts.sum, x)]).map pairD) 0 (by simp))
  have g6 : m8[6]? = some (m0.1 + W - 1, (o : Int)) := by rw [← hm8, List.getElem?_append_right (by omega), ml]; rfl
  have g7 : m8[7]? = some (m0.1 + ts.sum, x) := by rw [← hm8, List.getElem?_append_right (by omega), ml]; rfl
  have j6 : ixD (.lst (m8.map pairD)) (.int 6) s5 = .ok (pairD (m0.1 + W - 1, (o : Int))) s5 := ixD_lst _ _ _ (by
    have := atI_nat' (m8.map pairD) 6 (by rw [List.length_map, l8]; omega)
    rw [List.getElem_map, (List.getElem?_eq_some_iff.mp g6).2] at this
    exact this)
  have j7 : ixD (.lst (m8.map pairD)) (.int 7) s5 = .ok (pairD (m0.1 + ts.sum, x)) s5 := ixD_lst _ _ _ (by
    have := atI_nat' (m8.map pairD) 7 (by rw [List.length_map, l8]; omega)
    rw [List.getElem_map, (List.getElem?_eq_some_iff.mp g7).2] at this
    exact this)
  have r8 : rp8 [some (.mut p), some (.int lap), some (tupI ts), some (.int ts.length), some (.int ts.sum), some (.lst (m8.map pairD)), some (.int m0.1), some (.int m0.2), some (.int o), some (pairD (m0.1 + W, (o : Int))), o10, o11, o12, o13, none, none] s5 = .nx [some (.mut p), some (.int lap), some (tupI ts), some (.int ts.length), some (.int ts.sum), some (.lst (m8.map pairD)), some (.int m0.1), some (.int m0.2), some (.int o), some (pairD (m0.1 + W, (o : Int))), o10, o11, o12, o13, none, none] s5 := by
    clear e9 e11 e12 r1 r2 r3 r4 r5 r6 r7
    generalize m8.map pairD = m8d at *
    generalize pairD (m0.1 + W, (o : Int)) = jd at *
    generalize pairD (m0.1 + W - 1, (o : Int)) = jd1 at *
    generalize pairD (m0.1 + ts.sum, x) = jd2 at *
    generalize pairD m0 = jd0 at *
    generalize tupI ts = td at *
    simp [rp8, j0, j6, j7, c1, c2, c3]
  have r10' : rp10 [some (.mut p), some (.int lap), some (tupI ts), some (.int ts.length), some (.int ts.sum), some (.lst (m8.map pairD)), some (.int m0.1), some (.int m0.2), some (.int o), some (pairD (m0.1 + W, (o : Int))), q10, q11, q12, o13, none, none] s5 = .nx [some (.mut p), some (.int lap), some (tupI ts), some (.int ts.length), some (.int ts.sum), some (.lst (m8.map pairD)), some (.int m0.1), some (.int m0.2), some (.int o), some (pairD (m0.1 + W, (o : Int))), q10, q11, q12, some (.mut s5.length), none, none] (s5 ++ [.dn (ledL [])]) := by
    have l0 : ledL [] = [] := rfl
    rw [l0]
    clear e9 e11 e12 r1 r2 r3 r4 r5 r6 r7 r8
    generalize m8.map pairD = m8d at *
    generalize pairD (m0.1 + W, (o : Int)) = jd at *
    generalize tupI ts = td at *
    simp [rp10, newNE]
  have r11' : rp11 [some (.mut p), some (.int lap), some (tupI ts), some (.int ts.length), some (.int ts.sum), some (.lst (m8.map pairD)), some (.int m0.1), some (.int m0.2), some (.int o), some (pairD (m0.1 + W, (o : Int))), q10, q11, q12, some (.mut s5.length), none, none] (s5 ++ [.dn (ledL [])]) = .nx [some (.mut p), some (.int lap), some (tupI ts), some (.int ts.length), some (.int ts.sum), some (.lst (m8.map pairD)), some (.int m0.1), some (.int m0.2), some (.int o), some (pairD (m0.1 + W, (o : Int))), r10, r11, q12, some (.mut s5.length), none, none] (s5 ++ [.dn (ledL l')]) := by
    have it : iterD (.lst (m8.map pairD)) (s5 ++ [.dn (ledL [])]) = .ok (.frz (m8.map pairD)) (s5 ++ [.dn (ledL [])]) := rfl
    clear e9 e12 r1 r2 r3 r4 r5 r6 r7 r8 r10'
    unfold rp11
    generalize m8.map pairD = m8d at *
    generalize pairD (m0.1 + W, (o : Int)) = jd at *
    generalize tupI ts = td at *
    generalize s5 ++ [MO.dn (ledL [])] = sA at *
    generalize s5 ++ [MO.dn (ledL l')] = sB at *
    generalize r_body10' = b10 at *
    simp [it, e11]
  refine ⟨some (tupI ts), some (.int ts.length), some (.int ts.sum), some (.lst (m8.map pairD)), some (.int m0.1), some (.int m0.2), some (.int o), some (pairD (m0.1 + W, (o : Int))), r10, r11, q12, some (.mut s5.length), s5 ++ [.dn (ledL l')], ?_, pool_push9 hp5 _⟩
  rw [rpeq]
  clear e1 e2 e3 e4 e5 c1 c2 c3 j0 j6 j7 e11
  generalize m8.map pairD = m8d at *
  generalize ms.map pairD = msd at *
  generalize pairD (m0.1 + W, (o : Int)) = jd at *
  generalize tupI ts = td at *
  generalize s5 ++ [MO.dn (ledL [])] = sA at *
  generalize s5 ++ [MO.dn (ledL l')] = sB at *
  generalize rp1 = p1 at *
  generalize rp2 = p2 at *
  generalize rp3 = p3 at *
  generalize rp4 = p4 at *
  generalize rp5 = p5 at *
  generalize rp6 = p6 at *
  generalize rp7 = p7 at *
  generalize rp8 = p8 at *
  generalize rp9 = p9 at *
  generalize rp10 = p10 at *
  generalize rp11 = p11 at *
  generalize rp12 = p12 at *
  simp [r1, r2, r3, r4, r5, r6, r7, r8, e9, r10', r11', e12]
theorem f_right : Right F__law_right := by
  intro st p hp
  obtain ⟨env', s', e, o1, o2, o3, o4, o5, o6, o7, o8, o9, o10, o11, o12, o13, rfl, hp'⟩ := loop_nx (g := tgT (.nm 1)) (body := r_body1)
    (fun j env s => ∃ o1 o2 o3 o4 o5 o6 o7 o8 o9 o10 o11 o12 o13 : Option D, env = [some (.mut p), o1, o2, o3, o4, o5, o6, o7, o8, o9, o10, o11, o12, o13, none, none] ∧ Pool p s)
    (xs := rangeD 0 9) (env := [some (.mut p), none, none, none, none, none, none, none, none, none, none, none, none, none, none, none]) (st := st) ⟨none, none, none, none, none, none, none, none, none, none, none, none, none, rfl, hp⟩
    (by
      rintro j x env s hx ⟨o1, o2, o3, o4, o5, o6, o7, o8, o9, o10, o11, o12, o13, rfl, hp⟩
      obtain ⟨rfl, hj⟩ := range_get hx
      obtain ⟨q2, q3, q4, q5, q6, q7, q8, q9, q10, q11, q12, q13, st', e, hp'⟩ := f_outer (lap := 0 + j) hp o2 o3 o4 o5 o6 o7 o8 o9 o10 o11 o12 o13
      refine ⟨_, st', ?_, some (.int (0 + j)), q2, q3, q4, q5, q6, q7, q8, q9, q10, q11, q12, q13, rfl, hp'⟩
      simp only [Int.zero_add] at e
      generalize r_body1 = rb at *
      simp [e])
  refine ⟨s', ?_⟩
  unfold F__law_right
  rw [r_right_eq]
  generalize r_body1 = rb at *
  simp [runF, e]
theorem law_true (ns : List Int) (h : ns.length ≤ 63) : ∃ st, F_law [.slo (ns.map D.int)] [] = .ok (.bl true) st := lawA_ok (c := 2) f_pool f_right (by decide) ns
end K09
namespace K09
open PySem PySem.Spec PyProof.Rows L2 G Lap
set_option maxHeartbeats 4000000
theorem all_mk {l : PySem.W.OpenLaw} {w : World} {K : PySem.W.Frag} {h : Heap} {mg : Str → Option Value} {fa f0 f1 f2 f3 f4 f5 f6 f7 f8 f9 f10 f11 f12 f13 f14 f15 f16 f17 f18 f19 f20 f21 f22 f23 f24 f25 f26 f27 f28 f29 f30 f31 : Addr} (X : K.In h) (G : h.Ns mainGlobals mg) (hfa : mg "law" = some (.ref fa))
    {od0 an0 od1 an1 od2 an2 od3 an3 od4 an4 od5 an5 od6 an6 od7 an7 od8 an8 od9 an9 od10 an10 od11 an11 od12 an12 od13 an13 od14 an14 od15 an15 od16 an16 od17 an17 od18 an18 od19 an19 od20 an20 od21 an21 od22 an22 od23 an23 od24 an24 od25 an25 od26 an26 od27 an27 od28 an28 od29 an29 od30 an30 od31 an31 : Option Addr} {sl0 sl1 sl2 sl3 sl4 sl5 sl6 sl7 sl8 sl9 sl10 sl11 sl12 sl13 sl14 sl15 sl16 sl17 sl18 sl19 sl20 sl21 sl22 sl23 sl24 sl25 sl26 sl27 sl28 sl29 sl30 sl31 : Array (Option Value)} {oc0 kV0 dc0 pm0 cd0 ct0 oc1 kV1 dc1 pm1 cd1 ct1 oc2 kV2 dc2 pm2 cd2 ct2 oc3 kV3 dc3 pm3 cd3 ct3 oc4 kV4 dc4 pm4 cd4 ct4 oc5 kV5 dc5 pm5 cd5 ct5 oc6 kV6 dc6 pm6 cd6 ct6 oc7 kV7 dc7 pm7 cd7 ct7 oc8 kV8 dc8 pm8 cd8 ct8 oc9 kV9 dc9 pm9 cd9 ct9 oc10 kV10 dc10 pm10 cd10 ct10 oc11 kV11 dc11 pm11 cd11 ct11 oc12 kV12 dc12 pm12 cd12 ct12 oc13 kV13 dc13 pm13 cd13 ct13 oc14 kV14 dc14 pm14 cd14 ct14 oc15 kV15 dc15 pm15 cd15 ct15 oc16 kV16 dc16 pm16 cd16 ct16 oc17 kV17 dc17 pm17 cd17 ct17 oc18 kV18 dc18 pm18 cd18 ct18 oc19 kV19 dc19 pm19 cd19 ct19 oc20 kV20 dc20 pm20 cd20 ct20 oc21 kV21 dc21 pm21 cd21 ct21 oc22 kV22 dc22 pm22 cd22 ct22 oc23 kV23 dc23 pm23 cd23 ct23 oc24 kV24 dc24 pm24 cd24 ct24 oc25 kV25 dc25 pm25 cd25 ct25 oc26 kV26 dc26 pm26 cd26 ct26 oc27 kV27 dc27 pm27 cd27 ct27 oc28 kV28 dc28 pm28 cd28 ct28 oc29 kV29 dc29 pm29 cd29 ct29 oc30 kV30 dc30 pm30 cd30 ct30 oc31 kV31 dc31 pm31 cd31 ct31 : Value}
    {tk_MOST_MATS : Tok}
    (a0 : PySem.W.nsIn K mainGlobals "round_by" = some (some (.ref f0))) (l0 : K.lookup f0 = some ⟨oc0, od0, .func (PySem.W.fnOf "round_by" "round_by" (defArgs s_round_by) (defBody s_round_by) (defScope s_round_by) .none kV0 dc0 pm0 an0 cd0 ct0), sl0⟩) (c0 : PySem.W.codeIn K cd0 "round_by" = true) (k0 : PySem.W.keepIn K (.ref f0) = true)
    (a1 : PySem.W.nsIn K mainGlobals "sectors_from" = some (some (.ref f1))) (l1 : K.lookup f1 = some ⟨oc1, od1, .func (PySem.W.fnOf "sectors_from" "sectors_from" (defArgs s_sectors_from) (defBody s_sectors_from) (defScope s_sectors_from) .none kV1 dc1 pm1 an1 cd1 ct1), sl1⟩) (c1 : PySem.W.codeIn K cd1 "sectors_from" = true) (k1 : PySem.W.keepIn K (.ref f1) = true)
    (a2 : PySem.W.nsIn K mainGlobals "reach_by" = some (some (.ref f2))) (l2 : K.lookup f2 = some ⟨oc2, od2, .func (PySem.W.fnOf "reach_by" "reach_by" (defArgs s_reach_by) (defBody s_reach_by) (defScope s_reach_by) .none kV2 dc2 pm2 an2 cd2 ct2), sl2⟩) (c2 : PySem.W.codeIn K cd2 "reach_by" = true) (k2 : PySem.W.keepIn K (.ref f2) = true)
    (a3 : PySem.W.nsIn K mainGlobals "steps_by" = some (some (.ref f3))) (l3 : K.lookup f3 = some ⟨oc3, od3, .func (PySem.W.fnOf "steps_by" "steps_by" (defArgs s_steps_by) (defBody s_steps_by) (defScope s_steps_by) .none kV3 dc3 pm3 an3 cd3 ct3), sl3⟩) (c3 : PySem.W.codeIn K cd3 "steps_by" = true) (k3 : PySem.W.keepIn K (.ref f3) = true)
    (a4 : PySem.W.nsIn K mainGlobals "way_by" = some (some (.ref f4))) (l4 : K.lookup f4 = some ⟨oc4, od4, .func (PySem.W.fnOf "way_by" "way_by" (defArgs s_way_by) (defBody s_way_by) (defScope s_way_by) .none kV4 dc4 pm4 an4 cd4 ct4), sl4⟩) (c4 : PySem.W.codeIn K cd4 "way_by" = true) (k4 : PySem.W.keepIn K (.ref f4) = true)
    (a5 : PySem.W.nsIn K mainGlobals "can_follow_by" = some (some (.ref f5))) (l5 : K.lookup f5 = some ⟨oc5, od5, .func (PySem.W.fnOf "can_follow_by" "can_follow_by" (defArgs s_can_follow_by) (defBody s_can_follow_by) (defScope s_can_follow_by) .none kV5 dc5 pm5 an5 cd5 ct5), sl5⟩) (c5 : PySem.W.codeIn K cd5 "can_follow_by" = true) (k5 : PySem.W.keepIn K (.ref f5) = true)
    (a6 : PySem.W.nsIn K mainGlobals "is_whole" = some (some (.ref f6))) (l6 : K.lookup f6 = some ⟨oc6, od6, .func (PySem.W.fnOf "is_whole" "is_whole" (defArgs s_is_whole) (defBody s_is_whole) (defScope s_is_whole) .none kV6 dc6 pm6 an6 cd6 ct6), sl6⟩) (c6 : PySem.W.codeIn K cd6 "is_whole" = true) (k6 : PySem.W.keepIn K (.ref f6) = true)
    (a7 : PySem.W.nsIn K mainGlobals "is_between" = some (some (.ref f7))) (l7 : K.lookup f7 = some ⟨oc7, od7, .func (PySem.W.fnOf "is_between" "is_between" (defArgs s_is_between) (defBody s_is_between) (defScope s_is_between) .none kV7 dc7 pm7 an7 cd7 ct7), sl7⟩) (c7 : PySem.W.codeIn K cd7 "is_between" = true) (k7 : PySem.W.keepIn K (.ref f7) = true)
    (a8 : PySem.W.nsIn K mainGlobals "is_up_to" = some (some (.ref f8))) (l8 : K.lookup f8 = some ⟨oc8, od8, .func (PySem.W.fnOf "is_up_to" "is_up_to" (defArgs s_is_up_to) (defBody s_is_up_to) (defScope s_is_up_to) .none kV8 dc8 pm8 an8 cd8 ct8), sl8⟩) (c8 : PySem.W.codeIn K cd8 "is_up_to" = true) (k8 : PySem.W.keepIn K (.ref f8) = true)
    (a9 : PySem.W.nsIn K mainGlobals "is_from" = some (some (.ref f9))) (l9 : K.lookup f9 = some ⟨oc9, od9, .func (PySem.W.fnOf "is_from" "is_from" (defArgs s_is_from) (defBody s_is_from) (defScope s_is_from) .none kV9 dc9 pm9 an9 cd9 ct9), sl9⟩) (c9 : PySem.W.codeIn K cd9 "is_from" = true) (k9 : PySem.W.keepIn K (.ref f9) = true)
    (a10 : PySem.W.nsIn K mainGlobals "is_tuple_up_to" = some (some (.ref f10))) (l10 : K.lookup f10 = some ⟨oc10, od10, .func (PySem.W.fnOf "is_tuple_up_to" "is_tuple_up_to" (defArgs s_is_tuple_up_to) (defBody s_is_tuple_up_to) (defScope s_is_tuple_up_to) .none kV10 dc10 pm10 an10 cd10 ct10), sl10⟩) (c10 : PySem.W.codeIn K cd10 "is_tuple_up_to" = true) (k10 : PySem.W.keepIn K (.ref f10) = true)
    (a11 : PySem.W.nsIn K mainGlobals "is_tuple_of" = some (some (.ref f11))) (l11 : K.lookup f11 = some ⟨oc11, od11, .func (PySem.W.fnOf "is_tuple_of" "is_tuple_of" (defArgs s_is_tuple_of) (defBody s_is_tuple_of) (defScope s_is_tuple_of) .none kV11 dc11 pm11 an11 cd11 ct11), sl11⟩) (c11 : PySem.W.codeIn K cd11 "is_tuple_of" = true) (k11 : PySem.W.keepIn K (.ref f11) = true)
    (a12 : PySem.W.nsIn K mainGlobals "is_pair" = some (some (.ref f12))) (l12 : K.lookup f12 = some ⟨oc12, od12, .func (PySem.W.fnOf "is_pair" "is_pair" (defArgs s_is_pair) (defBody s_is_pair) (defScope s_is_pair) .none kV12 dc12 pm12 an12 cd12 ct12), sl12⟩) (c12 : PySem.W.codeIn K cd12 "is_pair" = true) (k12 : PySem.W.keepIn K (.ref f12) = true)
    (a13 : PySem.W.nsIn K mainGlobals "is_track_of" = some (some (.ref f13))) (l13 : K.lookup f13 = some ⟨oc13, od13, .func (PySem.W.fnOf "is_track_of" "is_track_of" (defArgs s_is_track_of) (defBody s_is_track_of) (defScope s_is_track_of) .none kV13 dc13 pm13 an13 cd13 ct13), sl13⟩) (c13 : PySem.W.codeIn K cd13 "is_track_of" = true) (k13 : PySem.W.keepIn K (.ref f13) = true)
    (a14 : PySem.W.nsIn K mainGlobals "is_mat_of" = some (some (.ref f14))) (l14 : K.lookup f14 = some ⟨oc14, od14, .func (PySem.W.fnOf "is_mat_of" "is_mat_of" (defArgs s_is_mat_of) (defBody s_is_mat_of) (defScope s_is_mat_of) .none kV14 dc14 pm14 an14 cd14 ct14), sl14⟩) (c14 : PySem.W.codeIn K cd14 "is_mat_of" = true) (k14 : PySem.W.keepIn K (.ref f14) = true)
    (a15 : PySem.W.nsIn K mainGlobals "is_mark_of" = some (some (.ref f15))) (l15 : K.lookup f15 = some ⟨oc15, od15, .func (PySem.W.fnOf "is_mark_of" "is_mark_of" (defArgs s_is_mark_of) (defBody s_is_mark_of) (defScope s_is_mark_of) .none kV15 dc15 pm15 an15 cd15 ct15), sl15⟩) (c15 : PySem.W.codeIn K cd15 "is_mark_of" = true) (k15 : PySem.W.keepIn K (.ref f15) = true)
    (a16 : PySem.W.nsIn K mainGlobals "check_track" = some (some (.ref f16))) (l16 : K.lookup f16 = some ⟨oc16, od16, .func (PySem.W.fnOf "check_track" "check_track" (defArgs s_check_track) (defBody s_check_track) (defScope s_check_track) .none kV16 dc16 pm16 an16 cd16 ct16), sl16⟩) (c16 : PySem.W.codeIn K cd16 "check_track" = true) (k16 : PySem.W.keepIn K (.ref f16) = true)
    (a17 : PySem.W.nsIn K mainGlobals "check_mark" = some (some (.ref f17))) (l17 : K.lookup f17 = some ⟨oc17, od17, .func (PySem.W.fnOf "check_mark" "check_mark" (defArgs s_check_mark) (defBody s_check_mark) (defScope s_check_mark) .none kV17 dc17 pm17 an17 cd17 ct17), sl17⟩) (c17 : PySem.W.codeIn K cd17 "check_mark" = true) (k17 : PySem.W.keepIn K (.ref f17) = true)
    (a18 : PySem.W.nsIn K mainGlobals "can_follow" = some (some (.ref f18))) (l18 : K.lookup f18 = some ⟨oc18, od18, .func (PySem.W.fnOf "can_follow" "can_follow" (defArgs s_can_follow) (defBody s_can_follow) (defScope s_can_follow) .none kV18 dc18 pm18 an18 cd18 ct18), sl18⟩) (c18 : PySem.W.codeIn K cd18 "can_follow" = true) (k18 : PySem.W.keepIn K (.ref f18) = true)
    (a19 : PySem.W.nsIn K mainGlobals "_law_pool" = some (some (.ref f19))) (l19 : K.lookup f19 = some ⟨oc19, od19, .func (PySem.W.fnOf "_law_pool" "_law_pool" (defArgs s__law_pool) (defBody s__law_pool) (defScope s__law_pool) .none kV19 dc19 pm19 an19 cd19 ct19), sl19⟩) (c19 : PySem.W.codeIn K cd19 "_law_pool" = true) (k19 : PySem.W.keepIn K (.ref f19) = true)
    (a20 : PySem.W.nsIn K mainGlobals "_law_below" = some (some (.ref f20))) (l20 : K.lookup f20 = some ⟨oc20, od20, .func (PySem.W.fnOf "_law_below" "_law_below" (defArgs s__law_below) (defBody s__law_below) (defScope s__law_below) .none kV20 dc20 pm20 an20 cd20 ct20), sl20⟩) (c20 : PySem.W.codeIn K cd20 "_law_below" = true) (k20 : PySem.W.keepIn K (.ref f20) = true)
    (a21 : PySem.W.nsIn K mainGlobals "_law_one" = some (some (.ref f21))) (l21 : K.lookup f21 = some ⟨oc21, od21, .func (PySem.W.fnOf "_law_one" "_law_one" (defArgs s__law_one) (defBody s__law_one) (defScope s__law_one) .none kV21 dc21 pm21 an21 cd21 ct21), sl21⟩) (c21 : PySem.W.codeIn K cd21 "_law_one" = true) (k21 : PySem.W.keepIn K (.ref f21) = true)
    (a22 : PySem.W.nsIn K mainGlobals "_law_reach" = some (some (.ref f22))) (l22 : K.lookup f22 = some ⟨oc22, od22, .func (PySem.W.fnOf "_law_reach" "_law_reach" (defArgs s__law_reach) (defBody s__law_reach) (defScope s__law_reach) .none kV22 dc22 pm22 an22 cd22 ct22), sl22⟩) (c22 : PySem.W.codeIn K cd22 "_law_reach" = true) (k22 : PySem.W.keepIn K (.ref f22) = true)
    (a23 : PySem.W.nsIn K mainGlobals "_law_steps" = some (some (.ref f23))) (l23 : K.lookup f23 = some ⟨oc23, od23, .func (PySem.W.fnOf "_law_steps" "_law_steps" (defArgs s__law_steps) (defBody s__law_steps) (defScope s__law_steps) .none kV23 dc23 pm23 an23 cd23 ct23), sl23⟩) (c23 : PySem.W.codeIn K cd23 "_law_steps" = true) (k23 : PySem.W.keepIn K (.ref f23) = true)
    (a24 : PySem.W.nsIn K mainGlobals "_law_way" = some (some (.ref f24))) (l24 : K.lookup f24 = some ⟨oc24, od24, .func (PySem.W.fnOf "_law_way" "_law_way" (defArgs s__law_way) (defBody s__law_way) (defScope s__law_way) .none kV24 dc24 pm24 an24 cd24 ct24), sl24⟩) (c24 : PySem.W.codeIn K cd24 "_law_way" = true) (k24 : PySem.W.keepIn K (.ref f24) = true)
    (a25 : PySem.W.nsIn K mainGlobals "_law_great" = some (some (.ref f25))) (l25 : K.lookup f25 = some ⟨oc25, od25, .func (PySem.W.fnOf "_law_great" "_law_great" (defArgs s__law_great) (defBody s__law_great) (defScope s__law_great) .none kV25 dc25 pm25 an25 cd25 ct25), sl25⟩) (c25 : PySem.W.codeIn K cd25 "_law_great" = true) (k25 : PySem.W.keepIn K (.ref f25) = true)
    (a26 : PySem.W.nsIn K mainGlobals "_law_track" = some (some (.ref f26))) (l26 : K.lookup f26 = some ⟨oc26, od26, .func (PySem.W.fnOf "_law_track" "_law_track" (defArgs s__law_track) (defBody s__law_track) (defScope s__law_track) .none kV26 dc26 pm26 an26 cd26 ct26), sl26⟩) (c26 : PySem.W.codeIn K cd26 "_law_track" = true) (k26 : PySem.W.keepIn K (.ref f26) = true)
    (a27 : PySem.W.nsIn K mainGlobals "_law_can_follow" = some (some (.ref f27))) (l27 : K.lookup f27 = some ⟨oc27, od27, .func (PySem.W.fnOf "_law_can_follow" "_law_can_follow" (defArgs s__law_can_follow) (defBody s__law_can_follow) (defScope s__law_can_follow) .none kV27 dc27 pm27 an27 cd27 ct27), sl27⟩) (c27 : PySem.W.codeIn K cd27 "_law_can_follow" = true) (k27 : PySem.W.keepIn K (.ref f27) = true)
    (a28 : PySem.W.nsIn K mainGlobals "_law_same" = some (some (.ref f28))) (l28 : K.lookup f28 = some ⟨oc28, od28, .func (PySem.W.fnOf "_law_same" "_law_same" (defArgs s__law_same) (defBody s__law_same) (defScope s__law_same) .none kV28 dc28 pm28 an28 cd28 ct28), sl28⟩) (c28 : PySem.W.codeIn K cd28 "_law_same" = true) (k28 : PySem.W.keepIn K (.ref f28) = true)
    (a29 : PySem.W.nsIn K mainGlobals "_law_gone" = some (some (.ref f29))) (l29 : K.lookup f29 = some ⟨oc29, od29, .func (PySem.W.fnOf "_law_gone" "_law_gone" (defArgs s__law_gone) (defBody s__law_gone) (defScope s__law_gone) .none kV29 dc29 pm29 an29 cd29 ct29), sl29⟩) (c29 : PySem.W.codeIn K cd29 "_law_gone" = true) (k29 : PySem.W.keepIn K (.ref f29) = true)
    (a30 : PySem.W.nsIn K mainGlobals "_law_right" = some (some (.ref f30))) (l30 : K.lookup f30 = some ⟨oc30, od30, .func (PySem.W.fnOf "_law_right" "_law_right" (defArgs s__law_right) (defBody s__law_right) (defScope s__law_right) .none kV30 dc30 pm30 an30 cd30 ct30), sl30⟩) (c30 : PySem.W.codeIn K cd30 "_law_right" = true) (k30 : PySem.W.keepIn K (.ref f30) = true)
    (a31 : PySem.W.nsIn K mainGlobals "law" = some (some (.ref f31))) (l31 : K.lookup f31 = some ⟨oc31, od31, .func (PySem.W.fnOf "law" "law" (defArgs s_law) (defBody s_law) (defScope s_law) .none kV31 dc31 pm31 an31 cd31 ct31), sl31⟩) (c31 : PySem.W.codeIn K cd31 "law" = true) (k31 : PySem.W.keepIn K (.ref f31) = true)
    {C_InvalidMark I_InvalidMark : Addr} {p0_InvalidMark p1_InvalidMark p2_InvalidMark p3_InvalidMark p4_InvalidMark p5_InvalidMark : Pos} {nm_InvalidMark qn_InvalidMark qi_InvalidMark : Str} {N_InvalidMark : Addr} {bs_InvalidMark bm_InvalidMark sub_InvalidMark : List Value} {sn_InvalidMark : List Str} {ab_InvalidMark : Bool} {col_InvalidMark : Option Bool} {dd_InvalidMark od_InvalidMark an_InvalidMark : Option Addr} {m0_InvalidMark m1_InvalidMark m2_InvalidMark m3_InvalidMark m5_InvalidMark : Option Value} {oc_InvalidMark doc_InvalidMark pm_InvalidMark cdv_InvalidMark ct_InvalidMark : Value} {osl_InvalidMark : Array (Option Value)}
    (ea_InvalidMark : PySem.W.nsIn K mainGlobals "InvalidMark" = some (some (.ref C_InvalidMark))) (eb_InvalidMark : K.lookup C_InvalidMark = some (excClassObj nm_InvalidMark qn_InvalidMark C_InvalidMark N_InvalidMark bs_InvalidMark bm_InvalidMark true sn_InvalidMark sub_InvalidMark ab_InvalidMark col_InvalidMark dd_InvalidMark m0_InvalidMark m1_InvalidMark m2_InvalidMark m3_InvalidMark m5_InvalidMark "ValueError.__new__"))
    (ec_InvalidMark : PySem.W.findIn K (.ref C_InvalidMark) "__init__" = some (some (.ref I_InvalidMark)))
    (ed_InvalidMark : K.lookup I_InvalidMark = some ⟨oc_InvalidMark, od_InvalidMark, .func (PySem.W.fnOf "__init__" qi_InvalidMark (PySem.GX.iA "given" p0_InvalidMark p1_InvalidMark) (PySem.GX.iB "given" p2_InvalidMark p3_InvalidMark p4_InvalidMark p5_InvalidMark) (PySem.GX.iS "given") .none .none doc_InvalidMark pm_InvalidMark an_InvalidMark cdv_InvalidMark ct_InvalidMark), osl_InvalidMark⟩) (ee_InvalidMark : PySem.W.codeIn K cdv_InvalidMark qi_InvalidMark = true)
    (ef_InvalidMark : PySem.W.findIn K (.ref C_InvalidMark) "__setattr__" = some (some (.builtin "object.__setattr__"))) (eg_InvalidMark : PySem.W.findIn K (.ref C_InvalidMark) "given" = some none) (eh_InvalidMark : PySem.W.typeIn K (.ref I_InvalidMark) = some (.type "function")) (ei_InvalidMark : PySem.W.keepIn K (.ref C_InvalidMark) = true) (ej_InvalidMark : PySem.W.subIn K (.ref C_InvalidMark) (.type "BaseException") = some true) (ek_InvalidMark : PySem.W.typeIn K (.ref C_InvalidMark) = some (.type "type"))
    {C_InvalidTrack I_InvalidTrack : Addr} {p0_InvalidTrack p1_InvalidTrack p2_InvalidTrack p3_InvalidTrack p4_InvalidTrack p5_InvalidTrack : Pos} {nm_InvalidTrack qn_InvalidTrack qi_InvalidTrack : Str} {N_InvalidTrack : Addr} {bs_InvalidTrack bm_InvalidTrack sub_InvalidTrack : List Value} {sn_InvalidTrack : List Str} {ab_InvalidTrack : Bool} {col_InvalidTrack : Option Bool} {dd_InvalidTrack od_InvalidTrack an_InvalidTrack : Option Addr} {m0_InvalidTrack m1_InvalidTrack m2_InvalidTrack m3_InvalidTrack m5_InvalidTrack : Option Value} {oc_InvalidTrack doc_InvalidTrack pm_InvalidTrack cdv_InvalidTrack ct_InvalidTrack : Value} {osl_InvalidTrack : Array (Option Value)}
    (ea_InvalidTrack : PySem.W.nsIn K mainGlobals "InvalidTrack" = some (some (.ref C_InvalidTrack))) (eb_InvalidTrack : K.lookup C_InvalidTrack = some (excClassObj nm_InvalidTrack qn_InvalidTrack C_InvalidTrack N_InvalidTrack bs_InvalidTrack bm_InvalidTrack true sn_InvalidTrack sub_InvalidTrack ab_InvalidTrack col_InvalidTrack dd_InvalidTrack m0_InvalidTrack m1_InvalidTrack m2_InvalidTrack m3_InvalidTrack m5_InvalidTrack "ValueError.__new__"))
    (ec_InvalidTrack : PySem.W.findIn K (.ref C_InvalidTrack) "__init__" = some (some (.ref I_InvalidTrack)))
    (ed_InvalidTrack : K.lookup I_InvalidTrack = some ⟨oc_InvalidTrack, od_InvalidTrack, .func (PySem.W.fnOf "__init__" qi_InvalidTrack (PySem.GX.iA "given" p0_InvalidTrack p1_InvalidTrack) (PySem.GX.iB "given" p2_InvalidTrack p3_InvalidTrack p4_InvalidTrack p5_InvalidTrack) (PySem.GX.iS "given") .none .none doc_InvalidTrack pm_InvalidTrack an_InvalidTrack cdv_InvalidTrack ct_InvalidTrack), osl_InvalidTrack⟩) (ee_InvalidTrack : PySem.W.codeIn K cdv_InvalidTrack qi_InvalidTrack = true)
    (ef_InvalidTrack : PySem.W.findIn K (.ref C_InvalidTrack) "__setattr__" = some (some (.builtin "object.__setattr__"))) (eg_InvalidTrack : PySem.W.findIn K (.ref C_InvalidTrack) "given" = some none) (eh_InvalidTrack : PySem.W.typeIn K (.ref I_InvalidTrack) = some (.type "function")) (ei_InvalidTrack : PySem.W.keepIn K (.ref C_InvalidTrack) = true) (ej_InvalidTrack : PySem.W.subIn K (.ref C_InvalidTrack) (.type "BaseException") = some true) (ek_InvalidTrack : PySem.W.typeIn K (.ref C_InvalidTrack) = some (.type "type"))
    (er_InvalidMark : PySem.HandSPX.refsVE bm_InvalidMark = true)
    (er_InvalidTrack : PySem.HandSPX.refsVE bm_InvalidTrack = true)
    (z_list : PySem.W.nsIn K mainGlobals "list" = some none)
    (z_sum : PySem.W.nsIn K mainGlobals "sum" = some none)
    (z_len : PySem.W.nsIn K mainGlobals "len" = some none)
    (z_divmod : PySem.W.nsIn K mainGlobals "divmod" = some none)
    (z_isinstance : PySem.W.nsIn K mainGlobals "isinstance" = some none)
    (z_int : PySem.W.nsIn K mainGlobals "int" = some none)
    (z_bool : PySem.W.nsIn K mainGlobals "bool" = some none)
    (z_tuple : PySem.W.nsIn K mainGlobals "tuple" = some none)
    (z_MOST_MATS : PySem.W.nsIn K mainGlobals "MOST_MATS" = some (some (.int 8 tk_MOST_MATS)))
    (z_all : PySem.W.nsIn K mainGlobals "all" = some none)
    (z_abs : PySem.W.nsIn K mainGlobals "abs" = some none)
    (z_range : PySem.W.nsIn K mainGlobals "range" = some none)
    (z_str : PySem.W.nsIn K mainGlobals "str" = some none)
    (z_zip : PySem.W.nsIn K mainGlobals "zip" = some none)
    (z_any : PySem.W.nsIn K mainGlobals "any" = some none)
    (z_min : PySem.W.nsIn K mainGlobals "min" = some none)
    (z_max : PySem.W.nsIn K mainGlobals "max" = some none)
    : ∃ fd : FuncData, (∀ (s : Shared) (v : Value), BindsTo s fd ⟨[v], []⟩ [("script", v)]) ∧ ∀ base : Heap, K.In base → base.Ns mainGlobals mg → FnG l.prog w K mg base 23 fa fd ["script"] (spG K F_law) := by
  have e := hfa.symm.trans (PySem.W.mg_of X G a31)
  cases e
  have T : Bt mg := ⟨PySem.W.mg_none_of X G z_list, PySem.W.mg_none_of X G z_sum, PySem.W.mg_none_of X G z_len, PySem.W.mg_none_of X G z_divmod, PySem.W.mg_none_of X G z_isinstance, PySem.W.mg_none_of X G z_int, PySem.W.mg_none_of X G z_bool, PySem.W.mg_none_of X G z_tuple, ⟨_, PySem.W.mg_of X G z_MOST_MATS⟩, PySem.W.mg_none_of X G z_all, PySem.W.mg_none_of X G z_abs, PySem.W.mg_none_of X G z_range, PySem.W.mg_none_of X G z_str, PySem.W.mg_none_of X G z_zip, PySem.W.mg_none_of X G z_any, PySem.W.mg_none_of X G z_min, PySem.W.mg_none_of X G z_max⟩
  have NS : ∀ x v, PySem.W.nsIn K mainGlobals x = some (some v) → mg x = some v := fun x v e => PySem.W.mg_of X G e
  have XX : Xt K mg := { ns := NS, r_InvalidMark := ⟨C_InvalidMark, I_InvalidMark, ⟨by decide, NS _ _ ea_InvalidMark, ea_InvalidMark, ⟨_, _, _, _, _, _, _, _, _, _, _, _, _, _, _, eb_InvalidMark, er_InvalidMark⟩, ef_InvalidMark, eg_InvalidMark, ec_InvalidMark, eh_InvalidMark, ei_InvalidMark, ej_InvalidMark, ek_InvalidMark, ⟨_, _, _, _, _, _, _, _, _, _, _, _, _, _, _, ed_InvalidMark, ee_InvalidMark⟩⟩⟩, r_InvalidTrack := ⟨C_InvalidTrack, I_InvalidTrack, ⟨by decide, NS _ _ ea_InvalidTrack, ea_InvalidTrack, ⟨_, _, _, _, _, _, _, _, _, _, _, _, _, _, _, eb_InvalidTrack, er_InvalidTrack⟩, ef_InvalidTrack, eg_InvalidTrack, ec_InvalidTrack, eh_InvalidTrack, ei_InvalidTrack, ej_InvalidTrack, ek_InvalidTrack, ⟨_, _, _, _, _, _, _, _, _, _, _, _, _, _, _, ed_InvalidTrack, ee_InvalidTrack⟩⟩⟩ }
  refine law_fd hfa (fun_mk (st := s_law) l31 c31 k31) (fun s v => .of_eq rfl) fun base _ _ => ?_
  have c_round_by := ok_round_by (P := l.prog) (w := w) (base := base) T XX ⟨_, _, PySem.W.mg_of X G a0, fun_mk l0 c0 k0⟩
  have c_sectors_from := ok_sectors_from (P := l.prog) (w := w) (base := base) T XX ⟨_, _, PySem.W.mg_of X G a1, fun_mk l1 c1 k1⟩
  have c_reach_by := ok_reach_by (P := l.prog) (w := w) (base := base) T XX ⟨_, _, PySem.W.mg_of X G a2, fun_mk l2 c2 k2⟩ c_round_by c_sectors_from
  have c_steps_by := ok_steps_by (P := l.prog) (w := w) (base := base) T XX ⟨_, _, PySem.W.mg_of X G a3, fun_mk l3 c3 k3⟩
  have c_way_by := ok_way_by (P := l.prog) (w := w) (base := base) T XX ⟨_, _, PySem.W.mg_of X G a4, fun_mk l4 c4 k4⟩ c_reach_by c_steps_by
  have c_can_follow_by := ok_can_follow_by (P := l.prog) (w := w) (base := base) T XX ⟨_, _, PySem.W.mg_of X G a5, fun_mk l5 c5 k5⟩ c_way_by
  have c_is_whole := ok_is_whole (P := l.prog) (w := w) (base := base) T XX ⟨_, _, PySem.W.mg_of X G a6, fun_mk l6 c6 k6⟩
  have c_is_between := ok_is_between (P := l.prog) (w := w) (base := base) T XX ⟨_, _, PySem.W.mg_of X G a7, fun_mk l7 c7 k7⟩ c_is_whole
  have c_is_up_to := ok_is_up_to (P := l.prog) (w := w) (base := base) T XX ⟨_, _, PySem.W.mg_of X G a8, fun_mk l8 c8 k8⟩ c_is_between
  have c_is_from := ok_is_from (P := l.prog) (w := w) (base := base) T XX ⟨_, _, PySem.W.mg_of X G a9, fun_mk l9 c9 k9⟩ c_is_whole
  have c_is_tuple_up_to := ok_is_tuple_up_to (P := l.prog) (w := w) (base := base) T XX ⟨_, _, PySem.W.mg_of X G a10, fun_mk l10 c10 k10⟩
  have c_is_tuple_of := ok_is_tuple_of (P := l.prog) (w := w) (base := base) T XX ⟨_, _, PySem.W.mg_of X G a11, fun_mk l11 c11 k11⟩ c_is_tuple_up_to
  have c_is_pair := ok_is_pair (P := l.prog) (w := w) (base := base) T XX ⟨_, _, PySem.W.mg_of X G a12, fun_mk l12 c12 k12⟩ c_is_tuple_of
  have c_is_track_of := ok_is_track_of (P := l.prog) (w := w) (base := base) T XX ⟨_, _, PySem.W.mg_of X G a13, fun_mk l13 c13 k13⟩ c_is_tuple_up_to c_is_from
  have c_is_mat_of := ok_is_mat_of (P := l.prog) (w := w) (base := base) T XX ⟨_, _, PySem.W.mg_of X G a14, fun_mk l14 c14 k14⟩ c_is_up_to
  have c_is_mark_of := ok_is_mark_of (P := l.prog) (w := w) (base := base) T XX ⟨_, _, PySem.W.mg_of X G a15, fun_mk l15 c15 k15⟩ c_is_pair c_is_from c_is_mat_of
  have c_check_track := ok_check_track (P := l.prog) (w := w) (base := base) T XX ⟨_, _, PySem.W.mg_of X G a16, fun_mk l16 c16 k16⟩ c_is_track_of
  have c_check_mark := ok_check_mark (P := l.prog) (w := w) (base := base) T XX ⟨_, _, PySem.W.mg_of X G a17, fun_mk l17 c17 k17⟩ c_is_mark_of
  have c_can_follow := ok_can_follow (P := l.prog) (w := w) (base := base) T XX ⟨_, _, PySem.W.mg_of X G a18, fun_mk l18 c18 k18⟩ c_check_track c_check_mark c_can_follow_by
  have c__law_pool := ok__law_pool (P := l.prog) (w := w) (base := base) T XX ⟨_, _, PySem.W.mg_of X G a19, fun_mk l19 c19 k19⟩
  have c__law_below := ok__law_below (P := l.prog) (w := w) (base := base) T XX ⟨_, _, PySem.W.mg_of X G a20, fun_mk l20 c20 k20⟩
  have c__law_one := ok__law_one (P := l.prog) (w := w) (base := base) T XX ⟨_, _, PySem.W.mg_of X G a21, fun_mk l21 c21 k21⟩ c__law_below
  have c__law_reach := ok__law_reach (P := l.prog) (w := w) (base := base) T XX ⟨_, _, PySem.W.mg_of X G a22, fun_mk l22 c22 k22⟩
  have c__law_steps := ok__law_steps (P := l.prog) (w := w) (base := base) T XX ⟨_, _, PySem.W.mg_of X G a23, fun_mk l23 c23 k23⟩
  have c__law_way := ok__law_way (P := l.prog) (w := w) (base := base) T XX ⟨_, _, PySem.W.mg_of X G a24, fun_mk l24 c24 k24⟩ c__law_reach c__law_steps
  have c__law_great := ok__law_great (P := l.prog) (w := w) (base := base) T XX ⟨_, _, PySem.W.mg_of X G a25, fun_mk l25 c25 k25⟩ c__law_below
  have c__law_track := ok__law_track (P := l.prog) (w := w) (base := base) T XX ⟨_, _, PySem.W.mg_of X G a26, fun_mk l26 c26 k26⟩ c__law_below c__law_great
  have c__law_can_follow := ok__law_can_follow (P := l.prog) (w := w) (base := base) T XX ⟨_, _, PySem.W.mg_of X G a27, fun_mk l27 c27 k27⟩ c__law_way
  have c__law_same := ok__law_same (P := l.prog) (w := w) (base := base) T XX ⟨_, _, PySem.W.mg_of X G a28, fun_mk l28 c28 k28⟩
  have c__law_gone := ok__law_gone (P := l.prog) (w := w) (base := base) T XX ⟨_, _, PySem.W.mg_of X G a29, fun_mk l29 c29 k29⟩
  have c__law_right := ok__law_right (P := l.prog) (w := w) (base := base) T XX ⟨_, _, PySem.W.mg_of X G a30, fun_mk l30 c30 k30⟩ c__law_track c__law_one c__law_below c__law_great c__law_way c_can_follow c__law_same c__law_gone c__law_can_follow
  have c_law := ok_law (P := l.prog) (w := w) (base := base) T XX ⟨_, _, PySem.W.mg_of X G a31, fun_mk l31 c31 k31⟩ c__law_right c__law_pool
  exact c_law
end K09
open PySem PySem.W PyProof.Rows
set_option maxRecDepth 100000 in
set_option maxHeartbeats 0 in
theorem PySem.Challenge.cw_lapmats_k09_whole_who_can_follow_holds : PySem.Challenge.rw_lapmats_k09_whole_who_can_follow.Holds := by
  w_on; o_law; k_head; (case hw => w_witness2)
  k_fill
  refine G.walk_end (l := PySem.Challenge.rw_lapmats_k09_whole_who_can_follow) (n := 63) (k := 23) (x := "script") (F := K09.F_law) rfl (by decide) rfl ⟨rfl, by decide, by decide⟩ (fun w h Y => PySem.W.kIn_of Y) ?F K09.law_true
  case F =>
    intro w mg fa h KX G hmg
    refine' K09.all_mk KX G hmg ?a0 ?l0 ?c0 ?k0 ?a1 ?l1 ?c1 ?k1 ?a2 ?l2 ?c2 ?k2 ?a3 ?l3 ?c3 ?k3 ?a4 ?l4 ?c4 ?k4 ?a5 ?l5 ?c5 ?k5 ?a6 ?l6 ?c6 ?k6 ?a7 ?l7 ?c7 ?k7 ?a8 ?l8 ?c8 ?k8 ?a9 ?l9 ?c9 ?k9 ?a10 ?l10 ?c10 ?k10 ?a11 ?l11 ?c11 ?k11 ?a12 ?l12 ?c12 ?k12 ?a13 ?l13 ?c13 ?k13 ?a14 ?l14 ?c14 ?k14 ?a15 ?l15 ?c15 ?k15 ?a16 ?l16 ?c16 ?k16 ?a17 ?l17 ?c17 ?k17 ?a18 ?l18 ?c18 ?k18 ?a19 ?l19 ?c19 ?k19 ?a20 ?l20 ?c20 ?k20 ?a21 ?l21 ?c21 ?k21 ?a22 ?l22 ?c22 ?k22 ?a23 ?l23 ?c23 ?k23 ?a24 ?l24 ?c24 ?k24 ?a25 ?l25 ?c25 ?k25 ?a26 ?l26 ?c26 ?k26 ?a27 ?l27 ?c27 ?k27 ?a28 ?l28 ?c28 ?k28 ?a29 ?l29 ?c29 ?k29 ?a30 ?l30 ?c30 ?k30 ?a31 ?l31 ?c31 ?k31 ?ea_InvalidMark ?eb_InvalidMark ?ec_InvalidMark ?ed_InvalidMark ?ee_InvalidMark ?ef_InvalidMark ?eg_InvalidMark ?eh_InvalidMark ?ei_InvalidMark ?ej_InvalidMark ?ek_InvalidMark ?ea_InvalidTrack ?eb_InvalidTrack ?ec_InvalidTrack ?ed_InvalidTrack ?ee_InvalidTrack ?ef_InvalidTrack ?eg_InvalidTrack ?eh_InvalidTrack ?ei_InvalidTrack ?ej_InvalidTrack ?ek_InvalidTrack ?er_InvalidMark ?er_InvalidTrack ?z_list ?z_sum ?z_len ?z_divmod ?z_isinstance ?z_int ?z_bool ?z_tuple ?z_MOST_MATS ?z_all ?z_abs ?z_range ?z_str ?z_zip ?z_any ?z_min ?z_max
    (case a0 => k_is)
    (case l0 => k_is)
    (case c0 => k_is)
    (case k0 => k_is)
    (case a1 => k_is)
    (case l1 => k_is)
    (case c1 => k_is)
    (case k1 => k_is)
    (case a2 => k_is)
    (case l2 => k_is)
    (case c2 => k_is)
    (case k2 => k_is)
    (case a3 => k_is)
    (case l3 => k_is)
    (case c3 => k_is)
    (case k3 => k_is)
    (case a4 => k_is)
    (case l4 => k_is)
    (case c4 => k_is)
    (case k4 => k_is)
    (case a5 => k_is)
    (case l5 => k_is)
    (case c5 => k_is)
    (case k5 => k_is)
    (case a6 => k_is)
    (case l6 => k_is)
    (case c6 => k_is)
    (case k6 => k_is)
    (case a7 => k_is)
    (case l7 => k_is)
    (case c7 => k_is)
    (case k7 => k_is)
    (case a8 => k_is)
    (case l8 => k_is)
    (case c8 => k_is)
    (case k8 => k_is)
    (case a9 => k_is)
    (case l9 => k_is)
    (case c9 => k_is)
    (case k9 => k_is)
    (case a10 => k_is)
    (case l10 => k_is)
    (case c10 => k_is)
    (case k10 => k_is)
    (case a11 => k_is)
    (case l11 => k_is)
    (case c11 => k_is)
    (case k11 => k_is)
    (case a12 => k_is)
    (case l12 => k_is)
    (case c12 => k_is)
    (case k12 => k_is)
    (case a13 => k_is)
    (case l13 => k_is)
    (case c13 => k_is)
    (case k13 => k_is)
    (case a14 => k_is)
    (case l14 => k_is)
    (case c14 => k_is)
    (case k14 => k_is)
    (case a15 => k_is)
    (case l15 => k_is)
    (case c15 => k_is)
    (case k15 => k_is)
    (case a16 => k_is)
    (case l16 => k_is)
    (case c16 => k_is)
    (case k16 => k_is)
    (case a17 => k_is)
    (case l17 => k_is)
    (case c17 => k_is)
    (case k17 => k_is)
    (case a18 => k_is)
    (case l18 => k_is)
    (case c18 => k_is)
    (case k18 => k_is)
    (case a19 => k_is)
    (case l19 => k_is)
    (case c19 => k_is)
    (case k19 => k_is)
    (case a20 => k_is)
    (case l20 => k_is)
    (case c20 => k_is)
    (case k20 => k_is)
    (case a21 => k_is)
    (case l21 => k_is)
    (case c21 => k_is)
    (case k21 => k_is)
    (case a22 => k_is)
    (case l22 => k_is)
    (case c22 => k_is)
    (case k22 => k_is)
    (case a23 => k_is)
    (case l23 => k_is)
    (case c23 => k_is)
    (case k23 => k_is)
    (case a24 => k_is)
    (case l24 => k_is)
    (case c24 => k_is)
    (case k24 => k_is)
    (case a25 => k_is)
    (case l25 => k_is)
    (case c25 => k_is)
    (case k25 => k_is)
    (case a26 => k_is)
    (case l26 => k_is)
    (case c26 => k_is)
    (case k26 => k_is)
    (case a27 => k_is)
    (case l27 => k_is)
    (case c27 => k_is)
    (case k27 => k_is)
    (case a28 => k_is)
    (case l28 => k_is)
    (case c28 => k_is)
    (case k28 => k_is)
    (case a29 => k_is)
    (case l29 => k_is)
    (case c29 => k_is)
    (case k29 => k_is)
    (case a30 => k_is)
    (case l30 => k_is)
    (case c30 => k_is)
    (case k30 => k_is)
    (case a31 => k_is)
    (case l31 => k_is)
    (case c31 => k_is)
    (case k31 => k_is)
    (case ea_InvalidMark => k_is)
    (case eb_InvalidMark => k_is)
    (case ec_InvalidMark => k_is)
    (case ed_InvalidMark => k_is)
    (case ee_InvalidMark => k_is)
    (case ef_InvalidMark => k_is)
    (case eg_InvalidMark => k_is)
    (case eh_InvalidMark => k_is)
    (case ei_InvalidMark => k_is)
    (case ej_InvalidMark => k_is)
    (case ek_InvalidMark => k_is)
    (case ea_InvalidTrack => k_is)
    (case eb_InvalidTrack => k_is)
    (case ec_InvalidTrack => k_is)
    (case ed_InvalidTrack => k_is)
    (case ee_InvalidTrack => k_is)
    (case ef_InvalidTrack => k_is)
    (case eg_InvalidTrack => k_is)
    (case eh_InvalidTrack => k_is)
    (case ei_InvalidTrack => k_is)
    (case ej_InvalidTrack => k_is)
    (case ek_InvalidTrack => k_is)
    (case er_InvalidMark => decide +kernel)
    (case er_InvalidTrack => decide +kernel)
    (case z_list => k_is)
    (case z_sum => k_is)
    (case z_len => k_is)
    (case z_divmod => k_is)
    (case z_isinstance => k_is)
    (case z_int => k_is)
    (case z_bool => k_is)
    (case z_tuple => k_is)
    (case z_MOST_MATS => k_is)
    (case z_all => k_is)
    (case z_abs => k_is)
    (case z_range => k_is)
    (case z_str => k_is)
    (case z_zip => k_is)
    (case z_any => k_is)
    (case z_min => k_is)
    (case z_max => k_is)
