import PyProof.Rows.All
import Wide.All
import OpenK.AllK
import Wide.FinOn
import HandS.Call
import HandS.Comp
import HandS.ForExc
import HandS.ForMost
import HandS.Wide
import HandS.Star
import HandS.IsInst
import HandS.Flow
import HandS.TupAny
import HandS.TupMul
import HandS.WideBits
import HandS.SortInts
import HandS.Zip
import HandS.TupLe
import HandS.Deep
import HandS.Style
import KE.GoesEnum
import HandS.TupSets
import PyProof.ListNew
import KE.GoesMore
import KE.GoesZip
import HandS.DictComp
import HandS.Iter
import KE.KEqDict
import HandS.SortRule
import HandS.Conv
import PyProof.ReprRoads
import PyProof.ReprLen
import PyProof.FitsInt
import PyProof.CallFns
import HandS.List
import PySem.Challenge.RW_lapmats_k76_whole_slow_runners
set_option Elab.async false
set_option linter.all false
set_option maxRecDepth 100000
set_option autoImplicit false
namespace G
open PySem PySem.Spec PyProof.Rows L2

/-- data -/
inductive D where
  | non | bl (b : Bool) | int (i : Int) | str (x : Str) | raw (v : V) | dic
  | tup (xs : List D) | lst (xs : List D) | slo (xs : List D) | mut (n : Nat)

/-- mutable objects -/
inductive MO where
  | lst (xs : List D)
  | dk (kvs : List (L2.Key × V)) | dt (kvs : List (List L2.Key × V))
  /-- a dict that a loop walks -/
  | fk (kvs : List (L2.Key × V))

abbrev Sto := List MO
abbrev Env := List (Option D)

/-- the addresses of the mutable objects, in order; those that are being filled -/
structure Mem where
  m : List Addr
  p : List Addr
  f : Addr → Option (Obj × HO)
def Mem.no (M : Mem) (a : Addr) : Prop := a ∉ M.m ∧ a ∉ M.p
def Mem.push (M : Mem) (a : Addr) : Mem := ⟨M.m ++ [a], M.p, M.f⟩
/-- a list that nobody changes, a locked or written one, a tuple at a -/
def FzP (M : Mem) (H : Hp) (a : Addr) (xs : List V) : Prop := H a = some (.lst xs) ∧ M.no a
def FzL (K : PySem.W.Frag) (M : Mem) (H : Hp) (a : Addr) (xs : List V) : Prop :=
  (Rd H a (.lst xs) ∧ M.no a) ∨
    ∃ (o : Obj) (its : Array Value) (n : Nat), K.lookup a = some o ∧ o.cls = .type "list" ∧ o.dict = none ∧ o.data = .seq its n ∧ its.size ≤ sizeLine ∧ Vals xs its.toList
def FzT (K : PySem.W.Frag) (M : Mem) (H : Hp) (a : Addr) (xs : List V) : Prop :=
  (Rd H a (.tup xs) ∧ M.no a) ∨
    ∃ (o : Obj) (its : Array Value) (n : Nat), K.lookup a = some o ∧ o.cls = .type "tuple" ∧ o.data = .seq its n ∧ its.size ≤ sizeLine ∧ Vals xs its.toList
theorem FzL.sq {K : PySem.W.Frag} {M : Mem} {H : Hp} {a : Addr} {xs : List V} (h : FzL K M H a xs) : SqL K H a xs := h.imp And.left id
theorem FzP.sq {K : PySem.W.Frag} {M : Mem} {H : Hp} {a : Addr} {xs : List V} (h : FzP M H a xs) : SqL K H a xs := .of h.1
theorem FzT.sq {K : PySem.W.Frag} {M : Mem} {H : Hp} {a : Addr} {xs : List V} (h : FzT K M H a xs) : SqT K H a xs := h.imp And.left id

section
variable (K : PySem.W.Frag) (M : Mem) (H : Hp)
mutual
def Rep : D → V → Prop
  | .non, v => v = .non
  | .bl b, v => v = .bl b
  | .int i, v => v = .int i
  | .str x, v => v = .str x
  | .raw w, v => v = w
  | .dic, v => ∃ a kvs, v = .ref a ∧ H a = some (.dK kvs) ∧ M.no a
  | .tup xs, v => ∃ a vs, v = .ref a ∧ FzT K M H a vs ∧ RepL xs vs
  | .lst xs, v => ∃ a vs, v = .ref a ∧ FzP M H a vs ∧ RepL xs vs
  | .slo xs, v => ∃ a vs, v = .ref a ∧ FzL K M H a vs ∧ RepL xs vs
  | .mut n, v => ∃ a, v = .ref a ∧ M.m[n]? = some a
def RepL : List D → List V → Prop
  | [], vs => vs = []
  | d :: ds, vs => ∃ v r, vs = v :: r ∧ Rep d v ∧ RepL ds r
end
end

/-- what was there and is not to be changed stands -/
structure Keep (M : Mem) (H : Hp) (M' : Mem) (H' : Hp) : Prop where
  pre : ∀ (n : Nat) (a : Addr), M.m[n]? = some a → M'.m[n]? = some a
  keep : ∀ a o, H a = some o → M.no a → H' a = some o ∧ M'.no a
  ff : M'.f = M.f
theorem Keep.refl {M : Mem} {H : Hp} : Keep M H M H := ⟨fun _ _ h => h, fun _ _ h n => ⟨h, n⟩, rfl⟩
theorem Keep.trans {M : Mem} {H : Hp} {M1 : Mem} {H1 : Hp} {M2 : Mem} {H2 : Hp} (a : Keep M H M1 H1) (b : Keep M1 H1 M2 H2) : Keep M H M2 H2 :=
  ⟨fun n x h => b.pre n x (a.pre n x h), fun x o h n => let ⟨h1, n1⟩ := a.keep x o h n; b.keep x o h1 n1, b.ff.trans a.ff⟩
structure Grow (M : Mem) (H : Hp) (M' : Mem) (H' : Hp) : Prop where
  pre : ∀ (n : Nat) (a : Addr), M.m[n]? = some a → M'.m[n]? = some a
  keep : ∀ a o, H a = some o → M.no a → H' a = some o ∧ M'.no a
  pp : M'.p = M.p
  prot : ∀ a ∈ M.p, H' a = H a
  ff : M'.f = M.f
theorem Grow.k {M : Mem} {H : Hp} {M' : Mem} {H' : Hp} (g : Grow M H M' H') : Keep M H M' H' := ⟨g.pre, g.keep, g.ff⟩
theorem Grow.refl {M : Mem} {H : Hp} : Grow M H M H := ⟨fun _ _ h => h, fun _ _ h n => ⟨h, n⟩, rfl, fun _ _ => rfl, rfl⟩
theorem Grow.trans {M : Mem} {H : Hp} {M1 : Mem} {H1 : Hp} {M2 : Mem} {H2 : Hp} (a : Grow M H M1 H1) (b : Grow M1 H1 M2 H2) : Grow M H M2 H2 :=
  ⟨fun n x h => b.pre n x (a.pre n x h), fun x o h n => let ⟨h1, n1⟩ := a.keep x o h n; b.keep x o h1 n1, b.pp.trans a.pp, fun x h => (b.prot x (by rw [a.pp]; exact h)).trans (a.prot x h), b.ff.trans a.ff⟩
section
variable {K : PySem.W.Frag} {M M' : Mem} {H H' : Hp}
theorem Keep.rdL {a : Addr} {o : HO} (g : Keep M H M' H') (h : Rd H a o) (n : M.no a) : Rd H' a o ∧ M'.no a := by
  rcases h with h | ⟨ob, h⟩
  · exact ⟨.inl (g.keep _ _ h n).1, (g.keep _ _ h n).2⟩
  · exact ⟨.inr ⟨ob, (g.keep _ _ h n).1⟩, (g.keep _ _ h n).2⟩
theorem Keep.fzL {a : Addr} {xs : List V} (g : Keep M H M' H') (h : FzL K M H a xs) : FzL K M' H' a xs := h.imp (fun q => g.rdL q.1 q.2) id
theorem Keep.fzT {a : Addr} {xs : List V} (g : Keep M H M' H') (h : FzT K M H a xs) : FzT K M' H' a xs := h.imp (fun q => g.rdL q.1 q.2) id
mutual
theorem Rep.kp (g : Keep M H M' H') : ∀ {d : D} {v : V}, Rep K M H d v → Rep K M' H' d v
  | .non, _, h => by unfold Rep at h ⊢; exact h
  | .bl _, _, h => by unfold Rep at h ⊢; exact h
  | .int _, _, h => by unfold Rep at h ⊢; exact h
  | .str _, _, h => by unfold Rep at h ⊢; exact h
  | .raw _, _, h => by unfold Rep at h ⊢; exact h
  | .dic, _, h => by
    unfold Rep at h ⊢
    obtain ⟨a, kvs, e, f, n⟩ := h
    exact ⟨a, kvs, e, g.keep _ _ f n⟩
  | .tup xs, _, h => by
    unfold Rep at h ⊢
    obtain ⟨a, vs, e, f, r⟩ := h
    exact ⟨a, vs, e, g.fzT f, RepL.kp g r⟩
  | .lst xs, _, h => by
    unfold Rep at h ⊢
    obtain ⟨a, vs, e, f, r⟩ := h
    exact ⟨a, vs, e, g.keep _ _ f.1 f.2, RepL.kp g r⟩
  | .slo xs, _, h => by
    unfold Rep at h ⊢
    obtain ⟨a, vs, e, f, r⟩ := h
    exact ⟨a, vs, e, g.fzL f, RepL.kp g r⟩
  | .mut n, _, h => by
    unfold Rep at h ⊢
    obtain ⟨a, e, m⟩ := h
    exact ⟨a, e, g.pre n a m⟩
theorem RepL.kp (g : Keep M H M' H') : ∀ {ds : List D} {vs : List V}, RepL K M H ds vs → RepL K M' H' ds vs
  | [], _, h => by unfold RepL at h ⊢; exact h
  | d :: ds, _, h => by
    unfold RepL at h ⊢
    obtain ⟨v, r, e, h1, h2⟩ := h
    exact ⟨v, r, e, Rep.kp g h1, RepL.kp g h2⟩
end
theorem Rep.grow (g : Grow M H M' H') {d : D} {v : V} (h : Rep K M H d v) : Rep K M' H' d v := Rep.kp g.k h
theorem RepL.grow (g : Grow M H M' H') {ds : List D} {vs : List V} (h : RepL K M H ds vs) : RepL K M' H' ds vs := RepL.kp g.k h
theorem Grow.fzL {a : Addr} {xs : List V} (g : Grow M H M' H') (h : FzL K M H a xs) : FzL K M' H' a xs := g.k.fzL h
theorem Grow.fzT {a : Addr} {xs : List V} (g : Grow M H M' H') (h : FzT K M H a xs) : FzT K M' H' a xs := g.k.fzT h
theorem RepL.nil : RepL K M H [] [] := by unfold RepL; rfl
theorem RepL.cons {d : D} {v : V} {ds : List D} {vs : List V} (h : Rep K M H d v) (t : RepL K M H ds vs) : RepL K M H (d :: ds) (v :: vs) := by unfold RepL; exact ⟨v, vs, rfl, h, t⟩
theorem RepL.length : ∀ {ds : List D} {vs : List V}, RepL K M H ds vs → ds.length = vs.length
  | [], _, h => by unfold RepL at h; subst h; rfl
  | d :: ds, _, h => by
    unfold RepL at h
    obtain ⟨v, r, rfl, _, h2⟩ := h
    simp [RepL.length h2]
theorem RepL.append : ∀ {ds es : List D} {vs ws : List V}, RepL K M H ds vs → RepL K M H es ws → RepL K M H (ds ++ es) (vs ++ ws)
  | [], _, _, _, h, q => by unfold RepL at h; subst h; exact q
  | d :: ds, _, _, _, h, q => by
    unfold RepL at h
    obtain ⟨v, r, rfl, h1, h2⟩ := h
    exact .cons h1 (RepL.append h2 q)
theorem RepL.get : ∀ {ds : List D} {vs : List V} {i : Nat} {d : D}, RepL K M H ds vs → ds[i]? = some d → ∃ v, vs[i]? = some v ∧ Rep K M H d v
  | [], _, i, d, h, e => by simp at e
  | x :: ds, _, 0, d, h, e => by
    unfold RepL at h
    obtain ⟨v, r, rfl, h1, h2⟩ := h
    simp at e; subst e
    exact ⟨v, rfl, h1⟩
  | x :: ds, _, i + 1, d, h, e => by
    unfold RepL at h
    obtain ⟨v, r, rfl, h1, h2⟩ := h
    obtain ⟨w, h3, h4⟩ := RepL.get (i := i) h2 (by simpa using e)
    exact ⟨w, by simpa using h3, h4⟩
theorem RepL.get' : ∀ {ds : List D} {vs : List V} {i : Nat} {v : V}, RepL K M H ds vs → vs[i]? = some v → ∃ d, ds[i]? = some d ∧ Rep K M H d v
  | [], _, i, d, h, e => by unfold RepL at h; subst h; simp at e
  | x :: ds, _, 0, d, h, e => by
    unfold RepL at h
    obtain ⟨v, r, rfl, h1, h2⟩ := h
    simp at e; subst e
    exact ⟨x, rfl, h1⟩
  | x :: ds, _, i + 1, d, h, e => by
    unfold RepL at h
    obtain ⟨v, r, rfl, h1, h2⟩ := h
    obtain ⟨w, h3, h4⟩ := RepL.get' (i := i) h2 (by simpa using e)
    exact ⟨w, by simpa using h3, h4⟩
theorem RepL.take : ∀ {ds : List D} {vs : List V} (n : Nat), RepL K M H ds vs → RepL K M H (ds.take n) (vs.take n)
  | _, _, 0, _ => by simp; exact .nil
  | [], _, n + 1, h => by unfold RepL at h; subst h; simp; exact .nil
  | x :: ds, _, n + 1, h => by
    unfold RepL at h
    obtain ⟨v, r, rfl, h1, h2⟩ := h
    simpa using RepL.cons h1 (RepL.take n h2)
theorem RepL.drop : ∀ {ds : List D} {vs : List V} (n : Nat), RepL K M H ds vs → RepL K M H (ds.drop n) (vs.drop n)
  | _, _, 0, h => by simpa using h
  | [], _, n + 1, h => by unfold RepL at h; subst h; simp; exact .nil
  | x :: ds, _, n + 1, h => by
    unfold RepL at h
    obtain ⟨v, r, rfl, h1, h2⟩ := h
    simpa using RepL.drop n h2
theorem RepL.set {d : D} {v : V} (q : Rep K M H d v) : ∀ {ds : List D} {vs : List V} (n : Nat), RepL K M H ds vs → RepL K M H (ds.set n d) (vs.set n v)
  | [], _, n, h => by unfold RepL at h; subst h; simp; exact .nil
  | x :: ds, _, 0, h => by
    unfold RepL at h
    obtain ⟨w, r, rfl, h1, h2⟩ := h
    simpa using RepL.cons q h2
  | x :: ds, _, n + 1, h => by
    unfold RepL at h
    obtain ⟨w, r, rfl, h1, h2⟩ := h
    simpa using RepL.cons h1 (RepL.set q n h2)
theorem RepL.reverse : ∀ {ds : List D} {vs : List V}, RepL K M H ds vs → RepL K M H ds.reverse vs.reverse
  | [], _, h => by unfold RepL at h; subst h; simp; exact .nil
  | x :: ds, _, h => by
    unfold RepL at h
    obtain ⟨w, r, rfl, h1, h2⟩ := h
    simpa using RepL.append (RepL.reverse h2) (RepL.cons h1 .nil)
theorem RepL.replicate {d : D} {v : V} (q : Rep K M H d v) : ∀ (n : Nat), RepL K M H (List.replicate n d) (List.replicate n v)
  | 0 => .nil
  | n + 1 => by rw [List.replicate_succ, List.replicate_succ]; exact .cons q (RepL.replicate q n)
theorem RepL.ints : ∀ (ns : List Int), RepL K M H (ns.map D.int) (ns.map V.int)
  | [] => .nil
  | n :: ns => .cons (by unfold Rep; rfl) (RepL.ints ns)
end

/-- what stands at a mutable address -/
def MoOk (K : PySem.W.Frag) (M : Mem) (H : Hp) (a : Addr) : MO → Prop
  | .lst xs => ∃ vs, H a = some (.lst vs) ∧ RepL K M H xs vs
  | .dk kvs => H a = some (.dK kvs)
  | .dt kvs => H a = some (.dT kvs)
  | .fk kvs => ∃ o, M.f a = some (o, .dK kvs) ∧ H a = some (.frz o (.dK kvs))

structure StOk (K : PySem.W.Frag) (M : Mem) (H : Hp) (st : Sto) : Prop where
  len : M.m.length = st.length
  nd : M.m.Nodup
  pd : ∀ a ∈ M.p, a ∉ M.m ∧ ∃ o : List V, H a = some (.lst o)
  at_ : ∀ (n : Nat) (a : Addr) (mo : MO), M.m[n]? = some a → st[n]? = some mo → MoOk K M H a mo
section
variable {K : PySem.W.Frag} {M M' : Mem} {H H' : Hp} {st : Sto}
theorem MoOk.there {a : Addr} {mo : MO} (h : MoOk K M H a mo) : ∃ o, H a = some o := by
  cases mo with
  | lst xs => obtain ⟨vs, e, _⟩ := h; exact ⟨_, e⟩
  | dk kvs => exact ⟨_, h⟩
  | dt kvs => exact ⟨_, h⟩
  | fk kvs => obtain ⟨o, _, e⟩ := h; exact ⟨_, e⟩
theorem MoOk.kp {a : Addr} {mo : MO} (q : MoOk K M H a mo) (k : Keep M H M' H') (e : H' a = H a) : MoOk K M' H' a mo := by
  cases mo with
  | lst xs => obtain ⟨vs, h, r⟩ := q; exact ⟨vs, e.trans h, r.kp k⟩
  | dk kvs => exact e.trans q
  | dt kvs => exact e.trans q
  | fk kvs => obtain ⟨o, h1, h2⟩ := q; exact ⟨o, by rw [k.ff]; exact h1, e.trans h2⟩
theorem StOk.there (s : StOk K M H st) {a : Addr} (h : a ∈ M.m) : ∃ o, H a = some o := by
  obtain ⟨n, hn, e⟩ := List.mem_iff_getElem.mp h
  have hs : n < st.length := by rw [← s.len]; exact hn
  exact (s.at_ n a st[n] (by rw [List.getElem?_eq_getElem hn, e]) (List.getElem?_eq_getElem hs)).there
theorem StOk.notin (s : StOk K M H st) {a : Addr} (h : H a = none) : M.no a := by
  refine ⟨fun z => ?_, fun z => ?_⟩
  · obtain ⟨o, e⟩ := s.there z
    rw [h] at e; cases e
  · obtain ⟨_, o, e⟩ := s.pd a z
    rw [h] at e; cases e
/-- a new object that is not to be changed -/
theorem Grow.laid (s : StOk K M H st) {p : Addr} {o : HO} (h : H p = none) : Grow M H M (upd H p o) :=
  ⟨fun _ _ h => h, fun a u e n => ⟨by rw [upd_ne (ne_of_none e h)]; exact e, n⟩, rfl, fun a ha => by
    obtain ⟨_, u, e⟩ := s.pd a ha
    rw [upd_ne (ne_of_none e h)], rfl⟩
theorem MoOk.upd {a p : Addr} {mo : MO} {o : HO} {M' : Mem} (q : MoOk K M H a mo) (ne : a ≠ p) (g : Grow M H M' (upd H p o)) : MoOk K M' (upd H p o) a mo := by
  cases mo with
  | lst xs =>
    obtain ⟨vs, e, r⟩ := q
    exact ⟨vs, by rw [upd_ne ne]; exact e, r.grow g⟩
  | dk kvs =>
    show L2.upd H p o a = _
    rw [upd_ne ne]; exact q
  | dt kvs =>
    show L2.upd H p o a = _
    rw [upd_ne ne]; exact q
  | fk kvs =>
    obtain ⟨o', e1, e2⟩ := q
    exact ⟨o', by rw [g.ff]; exact e1, by rw [upd_ne ne]; exact e2⟩
theorem StOk.laid (s : StOk K M H st) {p : Addr} {o : HO} (h : H p = none) : StOk K M (upd H p o) st := by
  have g : Grow M H M (upd H p o) := Grow.laid s h
  refine ⟨s.len, s.nd, fun a ha => ?_, fun n a mo e1 e2 => ?_⟩
  · obtain ⟨h1, u, e⟩ := s.pd a ha
    exact ⟨h1, u, by rw [upd_ne (ne_of_none e h)]; exact e⟩
  · have q := s.at_ n a mo e1 e2
    obtain ⟨u, e⟩ := q.there
    exact q.upd (ne_of_none e h) g
/-- a mutable object is new -/
theorem Grow.push (s : StOk K M H st) {p : Addr} {o : HO} (h : H p = none) : Grow M H (M.push p) (upd H p o) :=
  ⟨fun n a e => by
    show (M.m ++ [p])[n]? = some a
    rw [List.getElem?_append_left (List.getElem?_eq_some_iff.mp e).1]; exact e, fun a u e n => ⟨by rw [upd_ne (ne_of_none e h)]; exact e, by
    refine ⟨fun z => ?_, n.2⟩
    rcases List.mem_append.mp z with z | z
    · exact n.1 z
    · simp at z; subst z; rw [h] at e; cases e⟩, rfl, fun a ha => by
    obtain ⟨_, u, e⟩ := s.pd a ha
    rw [upd_ne (ne_of_none e h)], rfl⟩
theorem StOk.push (s : StOk K M H st) {p : Addr} {o : HO} {mo : MO} (h : H p = none) (r : MoOk K (M.push p) (upd H p o) p mo) : StOk K (M.push p) (upd H p o) (st ++ [mo]) := by
  have g : Grow M H (M.push p) (upd H p o) := Grow.push s h
  refine ⟨by simp [Mem.push, s.len], ?_, fun a ha => ?_, fun n a mo e1 e2 => ?_⟩
  · show (M.m ++ [p]).Nodup
    rw [List.nodup_append]
    exact ⟨s.nd, by simp, fun a ha b hb => by simp at hb; subst hb; rintro rfl; exact (s.notin h).1 ha⟩
  · obtain ⟨h1, u, e⟩ := s.pd a ha
    refine ⟨fun z => ?_, u, by rw [upd_ne (ne_of_none e h)]; exact e⟩
    rcases List.mem_append.mp z with z | z
    · exact h1 z
    · simp at z; subst z; rw [h] at e; cases e
  · have e1 : (M.m ++ [p])[n]? = some a := e1
    by_cases hn : n < M.m.length
    · rw [List.getElem?_append_left hn] at e1
      rw [List.getElem?_append_left (by rw [← s.len]; exact hn)] at e2
      have q := s.at_ n a mo e1 e2
      obtain ⟨u, e⟩ := q.there
      exact q.upd (ne_of_none e h) g
    · have hn' : n = M.m.length := by
        have := (List.getElem?_eq_some_iff.mp e1).1
        simp at this; omega
      subst hn'
      rw [List.getElem?_append_right (Nat.le_refl _)] at e1
      rw [s.len, List.getElem?_append_right (Nat.le_refl _)] at e2
      simp at e1 e2
      subst e1 e2
      exact r
theorem StOk.pushL (s : StOk K M H st) {p : Addr} {xs : List D} {vs : List V} (h : H p = none) (r : RepL K M H xs vs) : StOk K (M.push p) (upd H p (.lst vs)) (st ++ [.lst xs]) :=
  s.push h ⟨vs, upd_same, r.grow (Grow.push s h)⟩
/-- a mutable object is changed -/
theorem Grow.put (s : StOk K M H st) {p : Addr} {o : HO} {n : Nat} (h : M.m[n]? = some p) : Grow M H M (upd H p o) :=
  ⟨fun _ _ h => h, fun a u e ni => ⟨by
    rw [upd_ne]; exact e
    rintro rfl
    exact ni.1 (List.mem_of_getElem? h), ni⟩, rfl, fun a ha => by
    rw [upd_ne]
    rintro rfl
    exact (s.pd a ha).1 (List.mem_of_getElem? h), rfl⟩
theorem StOk.put (s : StOk K M H st) {p : Addr} {n : Nat} {o : HO} {mo : MO} (h : M.m[n]? = some p) (r : MoOk K M (upd H p o) p mo) : StOk K M (upd H p o) (st.set n mo) := by
  have g : Grow M H M (upd H p o) := Grow.put s h
  have hn := (List.getElem?_eq_some_iff.mp h).1
  refine ⟨by simp [s.len], s.nd, fun a ha => ?_, fun k a mo e1 e2 => ?_⟩
  · obtain ⟨h1, u, e⟩ := s.pd a ha
    exact ⟨h1, u, by rw [g.prot a ha]; exact e⟩
  · by_cases hk : n = k
    · subst hk
      rw [h] at e1; cases e1
      rw [List.getElem?_set_self (by rw [← s.len]; exact hn)] at e2
      cases e2
      exact r
    · rw [List.getElem?_set_ne hk] at e2
      have q := s.at_ k a mo e1 e2
      have ha : a ≠ p := by
        rintro rfl
        have hkl := (List.getElem?_eq_some_iff.mp e1).1
        have e3 : M.m[k] = a := by rw [List.getElem?_eq_getElem hkl] at e1; exact Option.some.inj e1
        have e4 : M.m[n] = a := by rw [List.getElem?_eq_getElem hn] at h; exact Option.some.inj h
        exact hk ((List.getElem_inj s.nd).mp (e4.trans e3.symm))
      exact q.upd ha g
theorem StOk.putL (s : StOk K M H st) {p : Addr} {n : Nat} {xs : List D} {vs : List V} (h : M.m[n]? = some p) (r : RepL K M H xs vs) : StOk K M (upd H p (.lst vs)) (st.set n (.lst xs)) :=
  s.put h ⟨vs, upd_same, r.grow (Grow.put s h)⟩
end

/-- the slots -/
structure EnvOk (K : PySem.W.Frag) (M : Mem) (H : Hp) (env : Env) (σ : L2.St) : Prop where
  len : env.length = σ.length
  at_ : ∀ (i : Nat) (d : D), env[i]? = some (some d) → ∃ v : V, σ[i]? = some (some v) ∧ Rep K M H d v
section
variable {K : PySem.W.Frag} {M M' : Mem} {H H' : Hp} {env : Env} {σ : L2.St}
theorem EnvOk.kp (e : EnvOk K M H env σ) (g : Keep M H M' H') : EnvOk K M' H' env σ :=
  ⟨e.len, fun i d h => let ⟨v, h1, h2⟩ := e.at_ i d h; ⟨v, h1, h2.kp g⟩⟩
theorem EnvOk.grow (e : EnvOk K M H env σ) (g : Grow M H M' H') : EnvOk K M' H' env σ := e.kp g.k
theorem EnvOk.set {d : D} {v : V} (e : EnvOk K M H env σ) (i : Nat) (r : Rep K M H d v) : EnvOk K M H (env.set i (some d)) (σ.set i (some v)) :=
  ⟨by simp [e.len], fun j x h => by
    by_cases hj : i = j
    · subst hj
      have hi : i < env.length := by
        have := (List.getElem?_eq_some_iff.mp h).1
        simpa using this
      rw [List.getElem?_set_self hi] at h
      cases h
      exact ⟨v, List.getElem?_set_self (by rw [← e.len]; exact hi), r⟩
    · rw [List.getElem?_set_ne hj] at h
      obtain ⟨w, h1, h2⟩ := e.at_ j x h
      exact ⟨w, by rw [List.getElem?_set_ne hj]; exact h1, h2⟩⟩
theorem EnvOk.none (e : EnvOk K M H env σ) (i : Nat) : EnvOk K M H (env.set i none) (σ.set i none) :=
  ⟨by simp [e.len], fun j x h => by
    by_cases hj : i = j
    · subst hj
      have hi : i < env.length := by
        have := (List.getElem?_eq_some_iff.mp h).1
        simpa using this
      rw [List.getElem?_set_self hi] at h
      cases h
    · rw [List.getElem?_set_ne hj] at h
      obtain ⟨w, h1, h2⟩ := e.at_ j x h
      exact ⟨w, by rw [List.getElem?_set_ne hj]; exact h1, h2⟩⟩
def wipeE (env : Env) : List Nat → Env
  | [] => env
  | v :: vs => (wipeE env vs).set v none
theorem EnvOk.wipe (e : EnvOk K M H env σ) : ∀ (vs : List Nat), EnvOk K M H (wipeE env vs) (L2.wipe σ vs)
  | [] => e
  | v :: vs => (EnvOk.wipe e vs).none v
end
end G

namespace G
open PySem PySem.Spec PyProof.Rows L2

/-- an exception: its class, its one field -/
structure Ex where
  cls : Value
  fld : Option (Str × D)
/-- what comes out -/
inductive R (α : Type) where
  | ok (a : α) (st : Sto) | exc (e : Ex) (st : Sto) | fail
def R.bind {α β : Type} (r : R α) (g : α → Sto → R β) : R β := match r with
  | .ok a st => g a st
  | .exc e st => .exc e st
  | .fail => .fail
@[simp] theorem R.bind_ok {α β : Type} (a : α) (st : Sto) (g : α → Sto → R β) : (R.ok a st).bind g = g a st := rfl
@[simp] theorem R.bind_exc {α β : Type} (e : Ex) (st : Sto) (g : α → Sto → R β) : (R.exc e st : R α).bind g = .exc e st := rfl
@[simp] theorem R.bind_fail {α β : Type} (g : α → Sto → R β) : (R.fail : R α).bind g = .fail := rfl

def RepX (K : PySem.W.Frag) (M : Mem) (H : Hp) (e : Ex) (c : Value) (od : Option Addr) : Prop :=
  c = e.cls ∧ match e.fld with
  | none => od = none
  | some (f, d) => ∃ dd v, od = some dd ∧ H dd = some (.xd [(f, v)]) ∧ M.no dd ∧ Rep K M H d v
theorem RepX.grow {K : PySem.W.Frag} {M : Mem} {H : Hp} {M' : Mem} {H' : Hp} {e : Ex} {c : Value} {od : Option Addr} (g : Grow M H M' H') (h : RepX K M H e c od) : RepX K M' H' e c od := by
  obtain ⟨cls, fld⟩ := e
  cases fld with
  | none => exact h
  | some p =>
    obtain ⟨f, d⟩ := p
    obtain ⟨h1, dd, v, h2, h3, h4, h5⟩ := h
    exact ⟨h1, dd, v, h2, (g.keep _ _ h3 h4).1, (g.keep _ _ h3 h4).2, h5.grow g⟩

abbrev RR (α β : Type) := Mem → Hp → α → β → Prop
section
variable {α β γ δ : Type}
def Post (K : PySem.W.Frag) (rep : RR α β) (M : Mem) (H : Hp) (Q : β → Hp → Prop) (E : XK) : R α → Prop
  | .ok a st => ∀ M' H' b, Grow M H M' H' → StOk K M' H' st → rep M' H' a b → Q b H'
  | .exc e st => ∀ M' H' c od, Grow M H M' H' → StOk K M' H' st → RepX K M' H' e c od → E c od H'
  | .fail => False
theorem Post.mono {K : PySem.W.Frag} {rep : RR α β} {M M1 : Mem} {H H1 : Hp} {Q : β → Hp → Prop} {E : XK} {r : R α} (g : Grow M H M1 H1) (p : Post K rep M H Q E r) : Post K rep M1 H1 Q E r := by
  cases r with
  | ok a st => exact fun M' H' b g' => p M' H' b (g.trans g')
  | exc e st => exact fun M' H' c od g' => p M' H' c od (g.trans g')
  | fail => exact p
theorem Post.bind {K : PySem.W.Frag} {rep : RR α β} {rep' : RR γ δ} {M : Mem} {H : Hp} {Q : δ → Hp → Prop} {E : XK} {r : R α} {g : α → Sto → R γ} (p : Post K rep' M H Q E (r.bind g)) :
    Post K rep M H (fun b H1 => ∃ M1 st1 a, Grow M H M1 H1 ∧ StOk K M1 H1 st1 ∧ rep M1 H1 a b ∧ Post K rep' M1 H1 Q E (g a st1)) E r := by
  cases r with
  | ok a st => exact fun M' H' b g' so h => ⟨M', st, a, g', so, h, Post.mono g' p⟩
  | exc e st => exact p
  | fail => exact p
end

theorem Post.imp {α β : Type} {K : PySem.W.Frag} {rep : RR α β} {M : Mem} {H : Hp} {Q Q' : β → Hp → Prop} {E : XK} {r : R α} (p : Post K rep M H Q E r) (i : ∀ b H', Q b H' → Q' b H') : Post K rep M H Q' E r := by
  cases r with
  | ok a st => exact fun M' H' b g so h => i _ _ (p M' H' b g so h)
  | exc e st => exact p
  | fail => exact p
/-- readings -/
def rd {α β : Type} (K : PySem.W.Frag) (rep : RR α β) (W : WX) (f : Env → Sto → R α) : L2.St → Hp → (β → Hp → Prop) → Prop := fun σ H Q =>
  ∃ env M st, EnvOk K M H env σ ∧ StOk K M H st ∧ Post K rep M H Q (WE W σ) (f env st)
abbrev EvE := Env → Sto → R D
abbrev EvB := Env → Sto → R Bool
abbrev EvA := Env → Sto → R (List D)
abbrev rdE (K : PySem.W.Frag) (W : WX) (f : EvE) : TE := rd K (Rep K) W f
abbrev rdB (K : PySem.W.Frag) (W : WX) (f : EvB) : TT := rd K (fun _ _ a b => a = b) W f
abbrev rdA (K : PySem.W.Frag) (W : WX) (f : EvA) : TA := rd K (RepL K) W f

section
variable {X : Cx}
theorem _root_.L2.PE.imp {e : Expr} {t t' : TE} (h : PE X e t) (i : ∀ σ H Q, t' σ H Q → t σ H Q) : PE X e t' := ⟨fun pins s σ H Q I q => h.run pins s σ H Q I (i σ H Q q)⟩
theorem _root_.L2.PT.imp {e : Expr} {t t' : TT} (h : PT X e t) (i : ∀ σ H Q, t' σ H Q → t σ H Q) : PT X e t' := ⟨fun pins s σ H Q I q => h.run pins s σ H Q I (i σ H Q q)⟩
theorem _root_.L2.PA.imp {e : List Expr} {t t' : TA} (h : PA X e t) (i : ∀ σ H Q, t' σ H Q → t σ H Q) : PA X e t' := ⟨fun pos pins s σ H Q I q => h.run pos pins s σ H Q I (i σ H Q q)⟩
theorem _root_.L2.PS.imp {e : Stmt} {t t' : TS} (h : PS X e t) (i : ∀ D σ H, t' D σ H → t D σ H) : PS X e t' := ⟨fun pins s σ H D I q => h.run pins s σ H D I (i D σ H q)⟩
theorem _root_.L2.PSs.imp {e : List Stmt} {t t' : TS} (h : PSs X e t) (i : ∀ D σ H, t' D σ H → t D σ H) : PSs X e t' := ⟨fun pins s σ H D I q => h.run pins s σ H D I (i D σ H q)⟩
end

/-! ### names, constants -/
def varE (i : Nat) : EvE := fun env st => match env[i]? with
  | some (some d) => .ok d st
  | _ => .fail
def cE (d : D) : EvE := fun _ st => .ok d st
section
variable {X : Cx} {W : WX}
theorem g_var (i : Nat) {x : Str} {pos : Pos} (h : PE X (.Name x pos) (tVar i)) : PE X (.Name x pos) (rdE X.K W (varE i)) := h.imp fun σ H Q ⟨env, M, st, eo, so, p⟩ => by
  unfold varE at p
  split at p
  · rename_i d e
    obtain ⟨v, e1, r⟩ := eo.at_ i d e
    exact ⟨v, e1, p M H v .refl so r⟩
  · exact p.elim
/-- constants: what stands for it everywhere -/
theorem g_c {e : Expr} {d : D} {v : V} (h : PE X e (tC v)) (r : ∀ M H, Rep X.K M H d v) : PE X e (rdE X.K W (cE d)) := h.imp fun σ H Q ⟨env, M, st, eo, so, p⟩ => p M H v .refl so (r M H)
theorem rep_non {K : PySem.W.Frag} : ∀ (M : Mem) (H : Hp), Rep K M H .non .non := fun _ _ => by unfold Rep; rfl
theorem rep_bl {K : PySem.W.Frag} (b : Bool) : ∀ (M : Mem) (H : Hp), Rep K M H (.bl b) (.bl b) := fun _ _ => by unfold Rep; rfl
theorem rep_int {K : PySem.W.Frag} (b : Int) : ∀ (M : Mem) (H : Hp), Rep K M H (.int b) (.int b) := fun _ _ => by unfold Rep; rfl
theorem rep_str {K : PySem.W.Frag} (b : Str) : ∀ (M : Mem) (H : Hp), Rep K M H (.str b) (.str b) := fun _ _ => by unfold Rep; rfl
theorem rep_raw {K : PySem.W.Frag} (b : V) : ∀ (M : Mem) (H : Hp), Rep K M H (.raw b) b := fun _ _ => by unfold Rep; rfl
theorem g_int {i : Int} {j pos} : PE X (.Constant (.int i) j pos) (rdE X.K W (cE (.int i))) := g_c pe_int (rep_int i)
theorem g_bl {i : Bool} {j pos} : PE X (.Constant (.bool i) j pos) (rdE X.K W (cE (.bl i))) := g_c pe_bl (rep_bl i)
theorem g_non {j pos} : PE X (.Constant .none j pos) (rdE X.K W (cE .non)) := g_c pe_non rep_non
theorem g_str {i : Str} {j pos} : PE X (.Constant (.str i) j pos) (rdE X.K W (cE (.str i))) := g_c pe_str (rep_str i)
end

/-! ### operators -/
abbrev F1 := D → Sto → R D
abbrev F2 := D → D → Sto → R D
def unE (f : F1) (fa : EvE) : EvE := fun env st => (fa env st).bind fun a st1 => f a st1
def binE (f : F2) (fa fb : EvE) : EvE := fun env st => (fa env st).bind fun a st1 => (fb env st1).bind fun b st2 => f a b st2
def OpV1 (K : PySem.W.Frag) (r : V → Hp → VK → Prop) (f : F1) : Prop := ∀ (a : D) (x : V) (M : Mem) (H : Hp) (st : Sto) (Q : VK) (E : XK), Rep K M H a x → StOk K M H st → Post K (Rep K) M H Q E (f a st) → r x H Q
def OpV (K : PySem.W.Frag) (r : R2) (f : F2) : Prop := ∀ (a b : D) (x y : V) (M : Mem) (H : Hp) (st : Sto) (Q : VK) (E : XK), Rep K M H a x → Rep K M H b y → StOk K M H st → Post K (Rep K) M H Q E (f a b st) → r x y H Q
section
variable {X : Cx} {W : WX} {a b c : Expr} {fa fb fc : EvE} {pos : Pos}
theorem rd_un {r : V → Hp → VK → Prop} {f : F1} (hv : OpV1 X.K r f) : ∀ σ H Q, rdE X.K W (unE f fa) σ H Q → tUn r (rdE X.K W fa) σ H Q :=
  fun σ H Q ⟨env, M, st, eo, so, p⟩ => ⟨env, M, st, eo, so, Post.imp (Post.bind p) fun x H1 ⟨M1, st1, a, g, so1, ra, p1⟩ => hv a x M1 H1 st1 Q _ ra so1 p1⟩
theorem rd_bin {r : R2} {f : F2} (hv : OpV X.K r f) : ∀ σ H Q, rdE X.K W (binE f fa fb) σ H Q → tOp r (rdE X.K W fa) (rdE X.K W fb) σ H Q :=
  fun σ H Q ⟨env, M, st, eo, so, p⟩ => ⟨env, M, st, eo, so, Post.imp (Post.bind p) fun x H1 ⟨M1, st1, a, g, so1, ra, p1⟩ =>
    ⟨env, M1, st1, eo.grow g, so1, Post.imp (Post.bind p1) fun y H2 ⟨M2, st2, b, g2, so2, rb, p2⟩ => hv a b x y M2 H2 st2 Q _ (ra.grow g2) rb so2 p2⟩⟩
theorem g_op {op : Operator} {r : R2} {f : F2} (ho : OpR X (binaryOp op) r) (hv : OpV X.K r f) (ha : PE X a (rdE X.K W fa)) (hb : PE X b (rdE X.K W fb)) : PE X (.BinOp a op b pos) (rdE X.K W (binE f fa fb)) :=
  (pe_op ho ha hb).imp (rd_bin hv)
theorem g_un {op : UnaryOp} {r : V → Hp → VK → Prop} {f : F1} (ho : UnR X (unaryOp op) r) (hv : OpV1 X.K r f) (ha : PE X a (rdE X.K W fa)) : PE X (.UnaryOp op a pos) (rdE X.K W (unE f fa)) :=
  (pe_un ho ha).imp (rd_un hv)
theorem g_cmp {op : CmpOp} {r : R2} {f : F2} (ho : OpR X (compareOp op) r) (hv : OpV X.K r f) (ha : PE X a (rdE X.K W fa)) (hb : PE X b (rdE X.K W fb)) (hm : behindInMarks op b = false) : PE X (.Compare a [op] [b] pos) (rdE X.K W (binE f fa fb)) :=
  (pe_cmpR ho ha hb hm).imp (rd_bin hv)
/-- a value that is a truth, as a test -/
def boolR : D → Sto → R Bool
  | .bl b, st => .ok b st
  | _, _ => .fail
def tstE (fa : EvE) : EvB := fun env st => (fa env st).bind boolR
theorem rd_tst : ∀ σ H Q, rdB X.K W (tstE fa) σ H Q → rdE X.K W fa σ H (fun x H' => ∃ k, x = .bl k ∧ Q k H') :=
  fun σ H Q ⟨env, M, st, eo, so, p⟩ => ⟨env, M, st, eo, so, Post.imp (Post.bind p) fun x H1 ⟨M1, st1, a, g, so1, ra, p1⟩ => by
    unfold boolR at p1
    cases a with
    | bl k =>
      unfold Rep at ra
      exact ⟨k, ra, p1 M1 H1 k .refl so1 rfl⟩
    | _ => exact p1.elim⟩
theorem g_tcmp {op : CmpOp} {r : R2} {f : F2} (ho : OpR X (compareOp op) r) (hv : OpV X.K r f) (ha : PE X a (rdE X.K W fa)) (hb : PE X b (rdE X.K W fb)) (hm : behindInMarks op b = false) : PT X (.Compare a [op] [b] pos) (rdB X.K W (tstE (binE f fa fb))) :=
  (pt_cmpR ho ha hb hm).imp fun σ H Q h => rd_bin hv _ _ _ (rd_tst _ _ _ h)
/-- an expression whose value is a truth, as a test -/
theorem g_tval {e : Expr} (h : PE X e (rdE X.K W fa)) (he : ∀ whole, isTrue e X.env whole = (do let v ← whole; standAt e.pos; holding [v] (truthy v))) : PT X e (rdB X.K W (tstE fa)) :=
  (pt_val h he).imp fun σ H Q q => rd_tst _ _ _ q
/-- a < b < c -/
def chainE (f f' : F2) (fa fb fc : EvE) : EvE := fun env st => (fa env st).bind fun a st1 => (fb env st1).bind fun b st2 => (f a b st2).bind fun z st3 => match z with
  | .bl true => (fc env st3).bind fun c st4 => f' b c st4
  | .bl false => .ok (.bl false) st3
  | _ => .fail
end
/-! tests -/
def andB (p q : EvB) : EvB := fun env st => (p env st).bind fun b st1 => if b = true then q env st1 else .ok false st1
def orB (p q : EvB) : EvB := fun env st => (p env st).bind fun b st1 => if b = true then .ok true st1 else q env st1
def notB (p : EvB) : EvB := fun env st => (p env st).bind fun b st1 => .ok (!b) st1
def ifE (t : EvB) (fa fb : EvE) : EvE := fun env st => (t env st).bind fun b st1 => if b = true then fa env st1 else fb env st1
def andE (fa fb : EvE) : EvE := fun env st => (fa env st).bind fun a st1 => match a with
  | .bl true => fb env st1
  | .bl false => .ok (.bl false) st1
  | _ => .fail
def orE (fa fb : EvE) : EvE := fun env st => (fa env st).bind fun a st1 => match a with
  | .bl true => .ok (.bl true) st1
  | .bl false => fb env st1
  | _ => .fail
def notE (fa : EvE) : EvE := fun env st => (fa env st).bind fun a st1 => match a with
  | .bl b => .ok (.bl (!b)) st1
  | _ => .fail
section
variable {X : Cx} {W : WX} {a b : Expr} {rest : List Expr} {fa fb : EvE} {p q : EvB} {pos : Pos}
theorem g_and1 (ha : PT X a (rdB X.K W p)) : PW X (.BoolOp .And [a] pos) (rdB X.K W p) := pw_and1 ha
theorem g_or1 (ha : PT X a (rdB X.K W p)) : PW X (.BoolOp .Or [a] pos) (rdB X.K W p) := pw_or1 ha
theorem _root_.L2.PW.imp {e : Expr} {t t' : TT} (h : PW X e t) (i : ∀ σ H Q, t' σ H Q → t σ H Q) : PW X e t' := ⟨fun w pins s σ H Q I q => h.run w pins s σ H Q I (i σ H Q q)⟩
theorem g_and (ha : PT X a (rdB X.K W p)) (hb : PW X (.BoolOp .And (b :: rest) pos) (rdB X.K W q)) : PW X (.BoolOp .And (a :: b :: rest) pos) (rdB X.K W (andB p q)) :=
  PW.imp (pw_and ha hb) fun σ H Q ⟨env, M, st, eo, so, po⟩ => ⟨env, M, st, eo, so, Post.imp (Post.bind (rep := fun _ _ a b => a = b) po) fun x H1 ⟨M1, st1, a, g, so1, ra, p1⟩ => by
    subst ra
    cases a with
    | true => exact ⟨env, M1, st1, eo.grow g, so1, p1⟩
    | false => exact p1 M1 H1 false .refl so1 rfl⟩
theorem g_or (ha : PT X a (rdB X.K W p)) (hb : PW X (.BoolOp .Or (b :: rest) pos) (rdB X.K W q)) : PW X (.BoolOp .Or (a :: b :: rest) pos) (rdB X.K W (orB p q)) :=
  PW.imp (pw_or ha hb) fun σ H Q ⟨env, M, st, eo, so, po⟩ => ⟨env, M, st, eo, so, Post.imp (Post.bind (rep := fun _ _ a b => a = b) po) fun x H1 ⟨M1, st1, a, g, so1, ra, p1⟩ => by
    subst ra
    cases a with
    | false => exact ⟨env, M1, st1, eo.grow g, so1, p1⟩
    | true => exact p1 M1 H1 true .refl so1 rfl⟩
theorem g_tnot (ha : PT X a (rdB X.K W p)) : PT X (.UnaryOp .Not a pos) (rdB X.K W (notB p)) :=
  (pt_not ha).imp fun σ H Q ⟨env, M, st, eo, so, po⟩ => ⟨env, M, st, eo, so, Post.imp (Post.bind (rep := fun _ _ a b => a = b) po) fun x H1 ⟨M1, st1, a, g, so1, ra, p1⟩ => by
    subst ra
    exact p1 M1 H1 _ .refl so1 rfl⟩
theorem g_if {t : Expr} (ht : PT X t (rdB X.K W p)) (ha : PE X a (rdE X.K W fa)) (hb : PE X b (rdE X.K W fb)) : PE X (.IfExp t a b pos) (rdE X.K W (ifE p fa fb)) :=
  (pe_ifExp ht ha hb).imp fun σ H Q ⟨env, M, st, eo, so, po⟩ => ⟨env, M, st, eo, so, Post.imp (Post.bind (rep := fun _ _ a b => a = b) po) fun x H1 ⟨M1, st1, a, g, so1, ra, p1⟩ => by
    subst ra
    cases a with
    | true => exact ⟨env, M1, st1, eo.grow g, so1, p1⟩
    | false => exact ⟨env, M1, st1, eo.grow g, so1, p1⟩⟩
theorem g_one {op : BoolOp} (h : PE X a (rdE X.K W fa)) : PE X (.BoolOp op [a] pos) (rdE X.K W fa) := pe_one h
theorem g_vand (ha : PE X a (rdE X.K W fa)) (hb : PE X (.BoolOp .And (b :: rest) pos) (rdE X.K W fb)) : PE X (.BoolOp .And (a :: b :: rest) pos) (rdE X.K W (andE fa fb)) :=
  (pe_and ha hb).imp fun σ H Q ⟨env, M, st, eo, so, po⟩ => ⟨env, M, st, eo, so, Post.imp (Post.bind (rep := Rep X.K) po) fun x H1 ⟨M1, st1, a, g, so1, ra, p1⟩ => by
    cases a with
    | bl k =>
      unfold Rep at ra
      subst ra
      cases k with
      | true => exact ⟨true, rfl, env, M1, st1, eo.grow g, so1, p1⟩
      | false => exact ⟨false, rfl, p1 M1 H1 _ .refl so1 (rep_bl _ _ _)⟩
    | _ => exact p1.elim⟩
theorem g_vor (ha : PE X a (rdE X.K W fa)) (hb : PE X (.BoolOp .Or (b :: rest) pos) (rdE X.K W fb)) : PE X (.BoolOp .Or (a :: b :: rest) pos) (rdE X.K W (orE fa fb)) :=
  (pe_or ha hb).imp fun σ H Q ⟨env, M, st, eo, so, po⟩ => ⟨env, M, st, eo, so, Post.imp (Post.bind (rep := Rep X.K) po) fun x H1 ⟨M1, st1, a, g, so1, ra, p1⟩ => by
    cases a with
    | bl k =>
      unfold Rep at ra
      subst ra
      cases k with
      | true => exact ⟨true, rfl, p1 M1 H1 _ .refl so1 (rep_bl _ _ _)⟩
      | false => exact ⟨false, rfl, env, M1, st1, eo.grow g, so1, p1⟩
    | _ => exact p1.elim⟩
theorem g_vnot (ha : PE X a (rdE X.K W fa)) : PE X (.UnaryOp .Not a pos) (rdE X.K W (notE fa)) :=
  (pe_not ha).imp fun σ H Q ⟨env, M, st, eo, so, po⟩ => ⟨env, M, st, eo, so, Post.imp (Post.bind (rep := Rep X.K) po) fun x H1 ⟨M1, st1, a, g, so1, ra, p1⟩ => by
    cases a with
    | bl k =>
      unfold Rep at ra
      subst ra
      exact ⟨k, rfl, p1 M1 H1 _ .refl so1 (rep_bl _ _ _)⟩
    | _ => exact p1.elim⟩
theorem g_chain {op op' : CmpOp} {r r' : R2} {f f' : F2} {c : Expr} {fc : EvE} (h0 : PE X (.Compare a [op, op'] [b, c] pos) (tChain r r' (rdE X.K W fa) (rdE X.K W fb) (rdE X.K W fc))) (hv : OpV X.K r f) (hv' : OpV X.K r' f') :
    PE X (.Compare a [op, op'] [b, c] pos) (rdE X.K W (chainE f f' fa fb fc)) :=
  h0.imp fun σ H Q ⟨env, M, st, eo, so, p⟩ => ⟨env, M, st, eo, so, Post.imp (Post.bind p) fun x H1 ⟨M1, st1, a, g, so1, ra, p1⟩ =>
    ⟨env, M1, st1, eo.grow g, so1, Post.imp (Post.bind p1) fun y H2 ⟨M2, st2, b, g2, so2, rb, p2⟩ => hv a b x y M2 H2 st2 _ _ (ra.grow g2) rb so2 (Post.imp (Post.bind (rep := Rep X.K) p2) fun z H3 ⟨M3, st3, zd, g3, so3, rz, p3⟩ => by
      cases zd with
      | bl k =>
        unfold Rep at rz
        subst rz
        cases k with
        | true => exact ⟨true, rfl, iteT ⟨env, M3, st3, (eo.grow g).grow (g2.trans g3), so3, Post.imp (Post.bind p3) fun w H4 ⟨M4, st4, cd, g4, so4, rc, p4⟩ => hv' b cd y w M4 H4 st4 _ _ (rb.grow (g3.trans g4)) rc so4 p4⟩⟩
        | false => exact ⟨false, rfl, iteF (p3 M3 H3 _ .refl so3 (rep_bl _ _ _))⟩
      | _ => exact p3.elim)⟩⟩
end
/-! ### argument lists, displays -/
def nilA : EvA := fun _ st => .ok [] st
def consA (fa : EvE) (fr : EvA) : EvA := fun env st => (fa env st).bind fun a st1 => (fr env st1).bind fun as st2 => .ok (a :: as) st2
/-- the items of a frozen list or tuple -/
def itemsOf : D → Option (List D)
  | .tup xs => some xs
  | .lst xs => some xs
  | .slo xs => some xs
  | _ => none
def starA (fa : EvE) (fr : EvA) : EvA := fun env st => (fa env st).bind fun a st1 => match itemsOf a with
  | some xs => (fr env st1).bind fun as st2 => .ok (xs ++ as) st2
  | none => .fail
def tupE (fs : EvA) : EvE := fun env st => (fs env st).bind fun xs st1 => if xs.length ≤ 16777216 then .ok (.tup xs) st1 else .fail
def lstE (fs : EvA) : EvE := fun env st => (fs env st).bind fun xs st1 => if xs.length ≤ 16777216 then .ok (.lst xs) st1 else .fail
def mutE (fs : EvA) : EvE := fun env st => (fs env st).bind fun xs st1 => if xs.length ≤ 16777216 then .ok (.mut st1.length) (st1 ++ [.lst xs]) else .fail
section
variable {X : Cx} {W : WX} {e : Expr} {es : List Expr} {fa : EvE} {fs : EvA} {pos p : Pos}
theorem g_nil : PA X [] (rdA X.K W nilA) := pa_nil.imp fun σ H Q ⟨env, M, st, eo, so, p⟩ => p M H [] .refl so .nil
theorem g_cons (ha : PE X e (rdE X.K W fa)) (hr : PA X es (rdA X.K W fs)) (hs : starEach (e :: es) X.env = (false, eval e X.env) :: starEach es X.env) : PA X (e :: es) (rdA X.K W (consA fa fs)) :=
  (pa_cons ha hr hs).imp fun σ H Q ⟨env, M, st, eo, so, p⟩ => ⟨env, M, st, eo, so, Post.imp (Post.bind p) fun x H1 ⟨M1, st1, a, g, so1, ra, p1⟩ =>
    ⟨env, M1, st1, eo.grow g, so1, Post.imp (Post.bind (rep := RepL X.K) p1) fun y H2 ⟨M2, st2, b, g2, so2, rb, p2⟩ => p2 M2 H2 _ .refl so2 (.cons (ra.grow g2) rb)⟩⟩
theorem itemsOf_rep {K : PySem.W.Frag} {M : Mem} {H : Hp} {a : D} {xs : List D} {v : V} (h : itemsOf a = some xs) (r : Rep K M H a v) : ∃ t vs, v = .ref t ∧ (SqT K H t vs ∨ SqL K H t vs) ∧ RepL K M H xs vs := by
  cases a with
  | tup ys => cases h; unfold Rep at r; obtain ⟨t, vs, e, f, q⟩ := r; exact ⟨t, vs, e, .inl f.sq, q⟩
  | lst ys => cases h; unfold Rep at r; obtain ⟨t, vs, e, f, q⟩ := r; exact ⟨t, vs, e, .inr f.sq, q⟩
  | slo ys => cases h; unfold Rep at r; obtain ⟨t, vs, e, f, q⟩ := r; exact ⟨t, vs, e, .inr f.sq, q⟩
  | _ => cases h
theorem g_star (ha : PE X e (rdE X.K W fa)) (hr : PA X es (rdA X.K W fs)) (hs : starEach (.Starred e p :: es) X.env = (true, eval e X.env) :: starEach es X.env) : PA X (.Starred e p :: es) (rdA X.K W (starA fa fs)) :=
  (StX.pa_star ha hr hs).imp fun σ H Q ⟨env, M, st, eo, so, p⟩ => ⟨env, M, st, eo, so, Post.imp (Post.bind p) fun x H1 ⟨M1, st1, a, g, so1, ra, p1⟩ => by
    cases h : itemsOf a with
    | none => rw [h] at p1; exact p1.elim
    | some xs =>
      rw [h] at p1
      obtain ⟨t, vs, rfl, sq, q⟩ := itemsOf_rep h ra
      exact ⟨t, vs, rfl, sq, env, M1, st1, eo.grow g, so1, Post.imp (Post.bind (rep := RepL X.K) p1) fun y H2 ⟨M2, st2, b, g2, so2, rb, p2⟩ => p2 M2 H2 _ .refl so2 ((q.grow g2).append rb)⟩⟩
theorem size_le {n : Nat} (h : n ≤ 16777216) : n ≤ sizeLine := by rw [sizeLine_eq]; exact h
theorem rep_tup {K : PySem.W.Frag} {M : Mem} {H : Hp} {st : Sto} {xs : List D} {vs : List V} {p : Addr} (so : StOk K M H st) (r : RepL K M H xs vs) (hp : H p = none) : Rep K M (upd H p (.tup vs)) (.tup xs) (.ref p) := by
  unfold Rep
  exact ⟨p, vs, rfl, .inl ⟨.of upd_same, so.notin hp⟩, r.grow (.laid so hp)⟩
theorem rep_lst {K : PySem.W.Frag} {M : Mem} {H : Hp} {st : Sto} {xs : List D} {vs : List V} {p : Addr} (so : StOk K M H st) (r : RepL K M H xs vs) (hp : H p = none) : Rep K M (upd H p (.lst vs)) (.lst xs) (.ref p) := by
  unfold Rep
  exact ⟨p, vs, rfl, ⟨upd_same, so.notin hp⟩, r.grow (.laid so hp)⟩
theorem rep_mut {K : PySem.W.Frag} {M : Mem} {H : Hp} {st : Sto} {p : Addr} (so : StOk K M H st) {H' : Hp} : Rep K (M.push p) H' (.mut st.length) (.ref p) := by
  unfold Rep
  refine ⟨p, rfl, ?_⟩
  show (M.m ++ [p])[st.length]? = some p
  rw [← so.len, List.getElem?_append_right (Nat.le_refl _)]; simp
theorem g_tup {x1} (h : PA X es (rdA X.K W fs)) : PE X (.Tuple es x1 pos) (rdE X.K W (tupE fs)) :=
  (pe_tup h).imp fun σ H Q ⟨env, M, st, eo, so, p⟩ => ⟨env, M, st, eo, so, Post.imp (Post.bind p) fun vs H1 ⟨M1, st1, xs, g, so1, ra, p1⟩ => by
    by_cases hz : xs.length ≤ 16777216
    · rw [if_pos hz] at p1
      exact ⟨by rw [← ra.length]; exact size_le hz, fun a ha => p1 _ _ _ (.laid so1 ha) (so1.laid ha) (rep_tup so1 ra ha)⟩
    · rw [if_neg hz] at p1; exact p1.elim⟩
theorem g_lst (h : PA X es (rdA X.K W fs)) : PE X (.List es pos) (rdE X.K W (lstE fs)) :=
  (pe_lst h).imp fun σ H Q ⟨env, M, st, eo, so, p⟩ => ⟨env, M, st, eo, so, Post.imp (Post.bind p) fun vs H1 ⟨M1, st1, xs, g, so1, ra, p1⟩ => by
    by_cases hz : xs.length ≤ 16777216
    · rw [if_pos hz] at p1
      exact ⟨by rw [← ra.length]; exact size_le hz, fun a ha => p1 _ _ _ (.laid so1 ha) (so1.laid ha) (rep_lst so1 ra ha)⟩
    · rw [if_neg hz] at p1; exact p1.elim⟩
theorem g_mut (h : PA X es (rdA X.K W fs)) : PE X (.List es pos) (rdE X.K W (mutE fs)) :=
  (pe_lst h).imp fun σ H Q ⟨env, M, st, eo, so, p⟩ => ⟨env, M, st, eo, so, Post.imp (Post.bind p) fun vs H1 ⟨M1, st1, xs, g, so1, ra, p1⟩ => by
    by_cases hz : xs.length ≤ 16777216
    · rw [if_pos hz] at p1
      exact ⟨by rw [← ra.length]; exact size_le hz, fun a ha => p1 _ _ _ (.push so1 ha) (so1.pushL ha ra) (rep_mut so1)⟩
    · rw [if_neg hz] at p1; exact p1.elim⟩
/-- a built-in called, by its values -/
abbrev FA := List D → Sto → R D
def callE (f : FA) (fs : EvA) : EvE := fun env st => (fs env st).bind f
def CallV (K : PySem.W.Frag) (r : List V → Hp → VK → Prop) (f : FA) : Prop := ∀ (as : List D) (xs : List V) (M : Mem) (H : Hp) (st : Sto) (Q : VK) (E : XK), RepL K M H as xs → StOk K M H st → Post K (Rep K) M H Q E (f as st) → r xs H Q
theorem rd_call {r : List V → Hp → VK → Prop} {f : FA} (hv : CallV X.K r f) : ∀ σ H Q, rdE X.K W (callE f fs) σ H Q → tCB r (rdA X.K W fs) σ H Q :=
  fun σ H Q ⟨env, M, st, eo, so, p⟩ => ⟨env, M, st, eo, so, Post.imp (Post.bind p) fun x H1 ⟨M1, st1, a, g, so1, ra, p1⟩ => hv a x M1 H1 st1 Q _ ra so1 p1⟩
end
end G

namespace G
open PySem PySem.Spec PySem.W L2 PyProof.Rows
section
variable {prog : Program} {w : World} {A : Around} {E : Value → Shared → Prop} {s : Shared} {l : Addr} {its : List Value} {ns : List Int} {Q : Value → Shared → Prop}
theorem iter_tupR {items : Array Value} (hl : s.heap.IsTuple l items)
    (h : ∀ s₂ : Shared, s₂ = { s with heap := s.heap.push { cls := .type "tuple_iterator", data := .fields #[.ref l, .int 0 0] } } →
      (s₂.heap.IsTupleIter s.heap.objs.size l 0 ∧ s₂.heap.IsTuple l items) → l ≠ s.heap.objs.size → (∀ b ∈ [s.heap.objs.size, l], b < s₂.heap.objs.size) → Q (.ref s.heap.objs.size) s₂) : wpAny (model prog w) A (pyIter (.ref l)) Q E s := by
  have hlt : l < s.heap.objs.size := by obtain ⟨_, e, _⟩ := hl; exact Heap.lt_size e
  refine wpAny_pyIter_tuple hl (h _ rfl ⟨⟨_, Heap.get?_push_size _ rfl, rfl, rfl⟩, hl.at fun o e => Heap.get?_push_of_some _ e⟩ (Nat.ne_of_lt hlt) fun b hb => ?_)
  show b < (s.heap.push _).objs.size
  rw [Heap.size_push]
  rcases List.mem_cons.mp hb with rfl | hb
  · exact Nat.lt_succ_self _
  · rcases List.mem_cons.mp hb with rfl | hb
    · exact Nat.lt_succ_of_lt hlt
    · cases hb
theorem sum_rawT (hh : A.handled = none) (hl : s.heap.IsTuple l its.toArray) (hi : IntsAre its ns)
    (h : ∀ h' tk t', (∀ b o, s.heap.get? b = some o → h'.get? b = some o) → Q (.int ns.sum t') { s with heap := h', toks := tk }) : wpAny (model prog w) A (call (.builtin "sum") [.ref l]) Q E s := by
  obtain ⟨xs, e⟩ := hi.allInts.items
  have hn : numsOf (intItems xs).toList = ns := by rw [← e]; exact hi.numsOf
  rw [nums_intItems] at hn
  rw [e] at hl
  refine PySem.W.ktm_sumG hh hl fun h' tk t' hk => ?_
  have := h h' tk t' hk
  rw [preSum_eq, List.take_of_length_le (by simp), hn]; exact this
theorem old_of {s₂ : Shared} {o : Obj} {h' : Heap} (e : s₂ = { s with heap := s.heap.push o }) (hk : ∀ b o, b ∉ [s.heap.objs.size] → s₂.heap.get? b = some o → h'.get? b = some o) : ∀ b o, s.heap.get? b = some o → h'.get? b = some o := by
  intro b ob eb
  subst e
  exact hk b ob (fun hmem => absurd (Heap.lt_size eb) ((List.mem_singleton.mp hmem) ▸ Nat.lt_irrefl _)) (Heap.get?_push_of_some _ eb)
theorem max_rawT (hh : A.handled = none) (hl : s.heap.IsTuple l its.toArray) (hi : IntsAre its ns) (hne : 0 < ns.length)
    (h : ∀ h' tk M t', (∀ b o, s.heap.get? b = some o → h'.get? b = some o) → M ∈ ns → (∀ a, a ∈ ns → a ≤ M) → Q (.int M t') { s with heap := h', toks := tk }) : wpAny (model prog w) A (call (.builtin "max") [.ref l]) Q E s := by
  obtain ⟨xs, e⟩ := hi.allInts.items
  have hn : numsOf (intItems xs).toList = ns := by rw [← e]; exact hi.numsOf
  rw [nums_intItems] at hn
  subst hn
  rw [e] at hl
  have hsz : 0 < xs.size := by simpa using hne
  refine call_max_walk (iter_tupR hl fun s₂ e2 st hlI hfp => ?_)
  subst e2
  refine ⟨_, _, _, _, _, _, _, rfl, Walks.tuple (A := A.in1) hh _ l hlI (intItems xs), st, hfp, by simpa [intItems] using hsz, CmpOf.ints_gt (numAt xs) (fun _ _ => intItems_at), fun v h' tk hP hk => ?_⟩
  have hv : (intItems xs)[argBest (fun i j => decide (numAt xs i > numAt xs j)) (xs.size - 1)]? = some v := by simpa [intItems] using hP
  obtain ⟨t, rfl⟩ := intItems_at hv
  obtain ⟨h1, h2⟩ := argBest_gt (numAt xs) (xs.size - 1)
  refine h h' tk _ t (old_of rfl hk) ?_ fun a ha => ?_
  · rw [numAt_eq]; exact PySem.getD_mem (by rw [List.length_map, Array.length_toList]; omega)
  · obtain ⟨j, hj, rfl⟩ := mem_getD ha
    rw [List.length_map, Array.length_toList] at hj
    rw [← numAt_eq]; exact h2 j (by omega)
theorem min_rawT (hh : A.handled = none) (hl : s.heap.IsTuple l its.toArray) (hi : IntsAre its ns) (hne : 0 < ns.length)
    (h : ∀ h' tk M t', (∀ b o, s.heap.get? b = some o → h'.get? b = some o) → M ∈ ns → (∀ a, a ∈ ns → M ≤ a) → Q (.int M t') { s with heap := h', toks := tk }) : wpAny (model prog w) A (call (.builtin "min") [.ref l]) Q E s := by
  obtain ⟨xs, e⟩ := hi.allInts.items
  have hn : numsOf (intItems xs).toList = ns := by rw [← e]; exact hi.numsOf
  rw [nums_intItems] at hn
  subst hn
  rw [e] at hl
  have hsz : 0 < xs.size := by simpa using hne
  refine call_min_walk (iter_tupR hl fun s₂ e2 st hlI hfp => ?_)
  subst e2
  refine ⟨_, _, _, _, _, _, _, rfl, Walks.tuple (A := A.in1) hh _ l hlI (intItems xs), st, hfp, by simpa [intItems] using hsz, CmpOf.ints_lt (numAt xs) (fun _ _ => intItems_at), fun v h' tk hP hk => ?_⟩
  have hv : (intItems xs)[argBest (fun i j => decide (numAt xs i < numAt xs j)) (xs.size - 1)]? = some v := by simpa [intItems] using hP
  obtain ⟨t, rfl⟩ := intItems_at hv
  obtain ⟨h1, h2⟩ := argBest_lt (numAt xs) (xs.size - 1)
  refine h h' tk _ t (old_of rfl hk) ?_ fun a ha => ?_
  · rw [numAt_eq]; exact PySem.getD_mem (by rw [List.length_map, Array.length_toList]; omega)
  · obtain ⟨j, hj, rfl⟩ := mem_getD ha
    rw [List.length_map, Array.length_toList] at hj
    rw [← numAt_eq]; exact h2 j (by omega)
end
section
variable {X : Cx}
theorem tup_is {s : Shared} {a : Addr} {its : List Value} (h : IsTup s.heap a its.toArray) : s.heap.IsTuple a its.toArray := h
def SqB (K : PySem.W.Frag) (H : Hp) (a : Addr) (xs : List V) : Prop := SqL K H a xs ∨ SqT K H a xs
def qSum (K : PySem.W.Frag) : List V → Hp → VK → Prop := fun vs H Q => ∃ (a : Addr) (ns : List Int), vs = [V.ref a] ∧ SqB K H a (ns.map V.int) ∧ Q (.int ns.sum) H
def qAny (K : PySem.W.Frag) : List V → Hp → VK → Prop := fun vs H Q => ∃ (a : Addr) (bs : List Bool), vs = [V.ref a] ∧ SqB K H a (bs.map V.bl) ∧ Q (.bl (bs.any id)) H
def qAll (K : PySem.W.Frag) : List V → Hp → VK → Prop := fun vs H Q => ∃ (a : Addr) (bs : List Bool), vs = [V.ref a] ∧ SqB K H a (bs.map V.bl) ∧ Q (.bl (bs.all id)) H
def qMax (K : PySem.W.Frag) : List V → Hp → VK → Prop := fun vs H Q => ∃ (a : Addr) (ns : List Int), vs = [V.ref a] ∧ SqB K H a (ns.map V.int) ∧ 0 < ns.length ∧ ∀ m, m ∈ ns → (∀ y, y ∈ ns → y ≤ m) → Q (.int m) H
def qMin (K : PySem.W.Frag) : List V → Hp → VK → Prop := fun vs H Q => ∃ (a : Addr) (ns : List Int), vs = [V.ref a] ∧ SqB K H a (ns.map V.int) ∧ 0 < ns.length ∧ ∀ m, m ∈ ns → (∀ y, y ∈ ns → m ≤ y) → Q (.int m) H
theorem cq_sum (hc : X.calm = true) : CallR X (.builtin "sum") (qSum X.K) := by
  intro pins s σ H vs us Q I r h
  obtain ⟨a, ns, rfl, hs | hs, q⟩ := h
  · exact cr_sum hc pins s σ H _ us Q I r ⟨a, ns, rfl, hs, q⟩
  · obtain ⟨its, rv, hl, _⟩ := I.tuple hs
    rw [Vals.ref1 r]
    exact sum_rawT (I.ok.hd hc) (tup_is hl) rv.ints fun h' tk t' hk => ⟨.int _, H, I.kept hk, ⟨_, rfl⟩, q⟩
theorem cq_max (hc : X.calm = true) : CallR X (.builtin "max") (qMax X.K) := by
  intro pins s σ H vs us Q I r h
  obtain ⟨a, ns, rfl, hs | hs, hne, q⟩ := h
  · exact cr_max hc pins s σ H _ us Q I r ⟨a, ns, rfl, hs, hne, q⟩
  · obtain ⟨its, rv, hl, _⟩ := I.tuple hs
    rw [Vals.ref1 r]
    exact max_rawT (I.ok.hd hc) (tup_is hl) rv.ints hne fun h' tk m t' hk h1 h2 => ⟨.int _, H, I.kept hk, ⟨_, rfl⟩, q m h1 h2⟩
theorem cq_min (hc : X.calm = true) : CallR X (.builtin "min") (qMin X.K) := by
  intro pins s σ H vs us Q I r h
  obtain ⟨a, ns, rfl, hs | hs, hne, q⟩ := h
  · exact cr_min hc pins s σ H _ us Q I r ⟨a, ns, rfl, hs, hne, q⟩
  · obtain ⟨its, rv, hl, _⟩ := I.tuple hs
    rw [Vals.ref1 r]
    exact min_rawT (I.ok.hd hc) (tup_is hl) rv.ints hne fun h' tk m t' hk h1 h2 => ⟨.int _, H, I.kept hk, ⟨_, rfl⟩, q m h1 h2⟩
theorem cq_any (hc : X.calm = true) : CallR X (.builtin "any") (qAny X.K) := by
  intro pins s σ H vs us Q I r h
  obtain ⟨a, bs, rfl, hs | hs, q⟩ := h
  · exact cr_any hc pins s σ H _ us Q I r ⟨a, bs, rfl, hs, q⟩
  · obtain ⟨its, rv, hl, _⟩ := I.tuple hs
    rw [Vals.ref1 r]
    have hb := rv.bls
    refine call_any_walk (iter_tupR (tup_is hl) fun s₂ e2 st hne _ => ?_)
    subst e2
    refine ⟨_, _, _, _, _, _, _, rfl, Walks.tuple (A := X.A.in1) (I.ok.hd hc) _ a hne its.toArray, st, truth_bools hb, fun h' tk hk => ?_⟩
    refine ⟨.bl _, H, I.kept (old_of rfl hk), ?_, q⟩
    show Value.bool _ = Value.bool _
    rw [← L2.any_range, hb, List.size_toArray, List.length_map]
theorem cq_all (hc : X.calm = true) : CallR X (.builtin "all") (qAll X.K) := by
  intro pins s σ H vs us Q I r h
  obtain ⟨a, bs, rfl, hs | hs, q⟩ := h
  · exact cr_all hc pins s σ H _ us Q I r ⟨a, bs, rfl, hs, q⟩
  · obtain ⟨its, rv, hl, _⟩ := I.tuple hs
    rw [Vals.ref1 r]
    have hb := rv.bls
    refine call_all_walk (iter_tupR (tup_is hl) fun s₂ e2 st hne _ => ?_)
    subst e2
    refine ⟨_, _, _, _, _, _, _, rfl, Walks.tuple (A := X.A.in1) (I.ok.hd hc) _ a hne its.toArray, st, truth_bools hb, fun h' tk hk => ?_⟩
    refine ⟨.bl _, H, I.kept (old_of rfl hk), ?_, q⟩
    show Value.bool _ = Value.bool _
    rw [← L2.all_range, hb, List.size_toArray, List.length_map]
end
end G

namespace G
open PySem PySem.Spec PyProof.Rows L2
/-! a tuple times 0, times 1 -/
theorem tuple_mul_self (l : Addr) (items : Array Value) (n : Nat) (dd : Option Addr) (sl : Array (Option Value)) (x : Int) (u : Tok) (c0 : (decide (x < -(2 ^ 63)) || decide (x ≥ 2 ^ 63)) = false) (c1 : (items.isEmpty || x == 1) = true) :
    Meets (Builtin.«tuple.__mul__» ⟨[.ref l, .int x u], []⟩) (fun _ R s => s.heap.get? l = some { cls := .type "tuple", dict := dd, data := .seq items n, slots := sl } ∧ R (.ok (.ret (Value.ref l))) s) :=
  .of_wp fun prog w A R s h => by
    obtain ⟨hp, g, d, tk, os⟩ := s
    obtain ⟨hl, h⟩ := h
    have f1 := AutoSeq1.idx_int
    wp_walk using wpAny_loadPart' hl
    repeat (first
      | (refine wpAny_ite_false (decide_eq_false (by rw [c0]; exact Bool.false_ne_true)) ?_; wp_walk using wpAny_loadPart' hl)
      | (refine wpAny_ite_true (decide_eq_true (by rw [c1])) ?_; wp_walk using wpAny_loadPart' hl))
    exact ⟨_, rfl, h⟩
theorem tuple_mul_nil (l : Addr) (items : Array Value) (n : Nat) (dd : Option Addr) (sl : Array (Option Value)) (x : Int) (u : Tok) (c0 : (decide (x < -(2 ^ 63)) || decide (x ≥ 2 ^ 63)) = false) (c1 : (items.isEmpty || x == 1) = false) (c2 : (decide (x ≤ 0) || items.isEmpty) = true) :
    Meets (Builtin.«tuple.__mul__» ⟨[.ref l, .int x u], []⟩) (fun _ R s => s.heap.get? l = some { cls := .type "tuple", dict := dd, data := .seq items n, slots := sl } ∧
      R (.ok (.ret (Value.ref s.heap.objs.size))) { s with heap := s.heap.push { cls := Value.type "tuple", data := Data.seq #[] }, toks := s.toks }) :=
  .of_wp fun prog w A R s h => by
    obtain ⟨hp, g, d, tk, os⟩ := s
    obtain ⟨hl, h⟩ := h
    have f1 := AutoSeq1.idx_int
    wp_walk using wpAny_loadPart' hl
    repeat (first
      | (refine wpAny_ite_false (decide_eq_false (by rw [c0]; exact Bool.false_ne_true)) ?_; wp_walk using wpAny_loadPart' hl)
      | (refine wpAny_ite_false (decide_eq_false (by rw [c1]; exact Bool.false_ne_true)) ?_; wp_walk using wpAny_loadPart' hl)
      | (refine wpAny_ite_true (decide_eq_true (by rw [c2])) ?_; wp_walk using wpAny_loadPart' hl))
    exact ⟨_, rfl, h⟩
def rRepT1 (K : PySem.W.Frag) : R2 := fun x y H Q => ∃ l k xs, x = .ref l ∧ y = .int k ∧ SqT K H l xs ∧ k.natAbs < 2 ^ 62 ∧ ((xs = [] ∨ k = 1) ∧ Q (.ref l) H ∨ (xs ≠ [] ∧ k ≤ 0) ∧ ∀ p, H p = none → Q (.ref p) (upd H p (.tup [])))
theorem op_repT1 {X : Cx} : OpR X (binaryOp .Mult) (rRepT1 X.K) := by
  intro pins s σ H x y v u Q I rx ry h
  obtain ⟨l, k, xs, rfl, rfl, hT, hk, q⟩ := h
  cases rx
  obtain ⟨t, rfl⟩ := ry
  obtain ⟨its, r, ⟨⟨cls, dd, data, sl⟩, ho, hc, n, hd⟩, hs⟩ := I.tuple hT
  simp only at hc hd
  subst hc hd
  have hle : its.length = xs.length := r.length.symm
  have c0 : (decide (k < -(2 ^ 63)) || decide (k ≥ 2 ^ 63)) = false := by
    rw [decide_eq_false (by omega), decide_eq_false (by omega)] <;> rfl
  rcases q with ⟨hc, q⟩ | ⟨⟨hne, hk0⟩, q⟩
  · have c1 : (its.toArray.isEmpty || k == 1) = true := by
      rcases hc with hc | hc
      · subst hc
        have : its = [] := List.eq_nil_of_length_eq_zero hle
        subst this; rfl
      · subst hc; simp
    refine wpAny_binaryOp_repeat_ref (T := "tuple") (U := "int") (by decide) ⟨_, ho, rfl⟩ (fun s' => typeIs_int s' k t) noFill_tuple_mul F.fills_int_mul F.slot_int_rmul repeat_tuple F.slot_int_index.lookup
      (call_meets F.slot_int_rmul (typeIs_int s k t) F.entry_int_rmul (F.args_int_rmul_2 _ _) (int_rmul_tuple k t l its.toArray n dd sl)
        ⟨ho, rfl, ⟨_, ho, rfl⟩, call_meets F.slot_tuple_mul ⟨_, ho, rfl⟩ F.entry_tuple_mul (F.args_tuple_mul_2 _ _) (tuple_mul_self l its.toArray n dd sl k t c0 c1) ⟨ho, ?_⟩⟩)
    exact ⟨.ref l, H, I, rfl, q⟩
  · have hn : its ≠ [] := fun e => hne (by
      rw [e] at hle
      exact List.eq_nil_of_length_eq_zero hle.symm)
    have hi : its.toArray.isEmpty = false := by
      cases its with
      | nil => exact absurd rfl hn
      | cons a b => rfl
    have c1 : (its.toArray.isEmpty || k == 1) = false := by
      rw [hi, Bool.false_or]
      exact beq_eq_false_iff_ne.mpr (by omega)
    have c2 : (decide (k ≤ 0) || its.toArray.isEmpty) = true := by rw [decide_eq_true hk0]; rfl
    refine wpAny_binaryOp_repeat_ref (T := "tuple") (U := "int") (by decide) ⟨_, ho, rfl⟩ (fun s' => typeIs_int s' k t) noFill_tuple_mul F.fills_int_mul F.slot_int_rmul repeat_tuple F.slot_int_index.lookup
      (call_meets F.slot_int_rmul (typeIs_int s k t) F.entry_int_rmul (F.args_int_rmul_2 _ _) (int_rmul_tuple k t l its.toArray n dd sl)
        ⟨ho, rfl, ⟨_, ho, rfl⟩, call_meets F.slot_tuple_mul ⟨_, ho, rfl⟩ F.entry_tuple_mul (F.args_tuple_mul_2 _ _) (tuple_mul_nil l its.toArray n dd sl k t c0 c1 c2) ⟨ho, ?_⟩⟩)
    refine ⟨.ref s.heap.objs.size, _, I.laid (t' := s.toks) (o := .tup []) (fun b ob q => Heap.get?_push_of_some _ q) (Nat.le_refl _) ?_, rfl, q _ (I.hok.fresh (Nat.le_refl _))⟩
    exact ⟨by show 0 ≤ sizeLine; exact Nat.zero_le _, [], .nil, IsTup.new _ _⟩
end G

namespace G
open PySem PySem.Spec PyProof.Rows L2

def big : Nat := 2 ^ 4000
theorem big_log {n : Nat} (h : n < big) : n.log2 < 4000 := PySem.Flt.log2_lt_of (by decide) h

/-! ### data, for == -/
mutual
def toPD : D → Option PyData
  | .non => some .none
  | .bl b => some (.bool b)
  | .int i => some (.int i)
  | .str x => some (.str x)
  | .tup xs => (toPDs xs).map .tuple
  | .lst xs => (toPDs xs).map .list
  | .slo xs => (toPDs xs).map .list
  | _ => none
def toPDs : List D → Option (List PyData)
  | [] => some []
  | x :: xs => match toPD x, toPDs xs with
    | some a, some b => some (a :: b)
    | _, _ => none
end
section
variable {K : PySem.W.Frag} {M : Mem} {H : Hp}
mutual
theorem toPD_rep : ∀ {d : D} {p : PyData} {v : V}, toPD d = some p → Rep K M H d v → Dp K H v p
  | .non, _, _, h, r => by unfold toPD at h; unfold Rep at r; cases h; subst r; exact .non
  | .bl _, _, _, h, r => by unfold toPD at h; unfold Rep at r; cases h; subst r; exact .bl _
  | .int _, _, _, h, r => by unfold toPD at h; unfold Rep at r; cases h; subst r; exact .int _
  | .str _, _, _, h, r => by unfold toPD at h; unfold Rep at r; cases h; subst r; exact .str _
  | .raw _, _, _, h, r => by unfold toPD at h; cases h
  | .dic, _, _, h, r => by unfold toPD at h; cases h
  | .mut _, _, _, h, r => by unfold toPD at h; cases h
  | .tup xs, p, v, h, r => by
    unfold toPD at h; unfold Rep at r
    obtain ⟨a, vs, rfl, f, q⟩ := r
    cases e : toPDs xs with
    | none => rw [e] at h; cases h
    | some ps => rw [e] at h; cases h; exact .tup f.sq (toPDs_rep e q)
  | .lst xs, p, v, h, r => by
    unfold toPD at h; unfold Rep at r
    obtain ⟨a, vs, rfl, f, q⟩ := r
    cases e : toPDs xs with
    | none => rw [e] at h; cases h
    | some ps => rw [e] at h; cases h; exact .lst f.sq (toPDs_rep e q)
  | .slo xs, p, v, h, r => by
    unfold toPD at h; unfold Rep at r
    obtain ⟨a, vs, rfl, f, q⟩ := r
    cases e : toPDs xs with
    | none => rw [e] at h; cases h
    | some ps => rw [e] at h; cases h; exact .lst f.sq (toPDs_rep e q)
theorem toPDs_rep : ∀ {ds : List D} {ps : List PyData} {vs : List V}, toPDs ds = some ps → RepL K M H ds vs → DpAll K H vs ps
  | [], _, _, h, r => by unfold toPDs at h; unfold RepL at r; cases h; subst r; exact .nil
  | d :: ds, ps, vs, h, r => by
    unfold toPDs at h; unfold RepL at r
    obtain ⟨v, rr, rfl, r1, r2⟩ := r
    cases e1 : toPD d with
    | none => rw [e1] at h; cases h
    | some a =>
      cases e2 : toPDs ds with
      | none => rw [e1, e2] at h; cases h
      | some b => rw [e1, e2] at h; cases h; exact .cons (toPD_rep e1 r1) (toPDs_rep e2 r2)
end
end

/-! ### arithmetic -/
def addD : F2 := fun a b st => match a, b with
  | .int i, .int j => .ok (.int (i + j)) st
  | .str x, .str y => if x.length + y.length ≤ 16777216 then .ok (.str (x ++ y)) st else .fail
  | .tup xs, .tup ys => if xs.length + ys.length ≤ 16777216 then .ok (.tup (xs ++ ys)) st else .fail
  | .lst xs, .lst ys => if xs.length + ys.length ≤ 16777216 then .ok (.lst (xs ++ ys)) st else .fail
  | .mut n, .lst ys => (match st[n]? with
    | some (.lst xs) => if xs.length + ys.length ≤ 16777216 then .ok (.lst (xs ++ ys)) st else .fail
    | _ => .fail)
  | .lst xs, .mut n => (match st[n]? with
    | some (.lst ys) => if xs.length + ys.length ≤ 16777216 then .ok (.lst (xs ++ ys)) st else .fail
    | _ => .fail)
  | _, _ => .fail
def subD : F2 := fun a b st => match a, b with
  | .int i, .int j => .ok (.int (i - j)) st
  | _, _ => .fail
def mulOk (i j : Int) : Prop := i.natAbs < 2 ^ 64 ∨ j.natAbs < 2 ^ 64 ∨ (i.natAbs < big ∧ j.natAbs < big)
instance (i j : Int) : Decidable (mulOk i j) := by unfold mulOk; infer_instance
def mulD : F2 := fun a b st => match a, b with
  | .int i, .int j => if mulOk i j then .ok (.int (i * j)) st else .fail
  | .lst xs, .int k => if k.natAbs < 2 ^ 62 ∧ xs.length * k.toNat ≤ 16777216 then .ok (.lst (List.replicate k.toNat xs).flatten) st else .fail
  | .tup xs, .int k => if xs ≠ [] ∧ 2 ≤ k ∧ k ≤ 1000 ∧ xs.length ≤ 1000 then .ok (.tup (List.replicate k.toNat xs).flatten) st else if (xs = [] ∨ k = 1) ∧ k.natAbs < 2 ^ 62 then .ok (.tup xs) st else if (xs ≠ [] ∧ k ≤ 0) ∧ k.natAbs < 2 ^ 62 then .ok (.tup []) st else .fail
  | _, _ => .fail
def fdivD : F2 := fun a b st => match a, b with
  | .int i, .int j => if 0 < j ∧ j.natAbs < big then .ok (.int (i / j)) st else .fail
  | _, _ => .fail
def modD : F2 := fun a b st => match a, b with
  | .int i, .int j => if 0 < j then .ok (.int (i % j)) st else .fail
  | _, _ => .fail
def powD : F2 := fun a b st => match a, b with
  | .int i, .int j => if 0 ≤ j ∧ j ≤ 1000000 ∧ i.natAbs < 2 ^ 64 then .ok (.int (i ^ j.toNat)) st else .fail
  | _, _ => .fail
def negD : F1 := fun a st => match a with
  | .int i => .ok (.int (-i)) st
  | _ => .fail
def cmpI (f : Int → Int → Bool) : F2 := fun a b st => match a, b with
  | .int i, .int j => .ok (.bl (f i j)) st
  | _, _ => .fail
def intsOf : List D → Option (List Int)
  | [] => some []
  | .int i :: r => (intsOf r).map (i :: ·)
  | _ => none
def lexLe : List Int → List Int → Bool
  | [], _ => true
  | _ :: _, [] => false
  | a :: x, b :: y => if a = b then lexLe x y else decide (a ≤ b)
def ltD : F2 := fun a b st => match a, b with
  | .int i, .int j => .ok (.bl (decide (i < j))) st
  | .tup xs, .tup ys => match intsOf xs, intsOf ys with
    | some ns, some ms => .ok (.bl (HT.lexLt ns ms)) st
    | _, _ => .fail
  | _, _ => .fail
def leD : F2 := fun a b st => match a, b with
  | .int i, .int j => .ok (.bl (decide (i ≤ j))) st
  | .tup xs, .tup ys => match intsOf xs, intsOf ys with
    | some ns, some ms => .ok (.bl (lexLe ns ms)) st
    | _, _ => .fail
  | _, _ => .fail
def gtD : F2 := cmpI fun i j => decide (j < i)
def geD : F2 := cmpI fun i j => decide (j ≤ i)
/-- of two scalars, whether they are the same -/
def scalD : D → D → Option Bool
  | .non, .non => some true
  | .int i, .int j => some (decide (i = j))
  | .bl i, .bl j => some (decide (i = j))
  | .str i, .str j => some (decide (i = j))
  | .non, .int _ => some false | .int _, .non => some false
  | .non, .bl _ => some false | .bl _, .non => some false
  | .non, .str _ => some false | .str _, .non => some false
  | .int _, .str _ => some false | .str _, .int _ => some false
  | .bl _, .str _ => some false | .str _, .bl _ => some false
  | _, _ => none
def eqO (a b : D) : Option Bool := match scalD a b with
  | some k => some k
  | none => match toPD a, toPD b with
    | some x, some y => if SeqAt.shaped x = true ∧ SeqAt.shaped y = true then some (PyData.eqv x y) else none
    | _, _ => none
def eqD : F2 := fun a b st => match eqO a b with
  | some k => .ok (.bl k) st
  | none => .fail
def neD : F2 := fun a b st => match eqO a b with
  | some k => .ok (.bl (!k)) st
  | none => .fail
def isNon : D → Option Bool
  | .non => some true
  | .mut _ => some false
  | .raw _ => none
  | _ => some false
def isND : F2 := fun a b st => match b, isNon a with
  | .non, some k => .ok (.bl k) st
  | _, _ => .fail
def notND : F2 := fun a b st => match b, isNon a with
  | .non, some k => .ok (.bl (!k)) st
  | _, _ => .fail

section
variable {K : PySem.W.Frag} {M : Mem} {H : Hp}
theorem rep_int_iff {i : Int} {v : V} : Rep K M H (.int i) v ↔ v = .int i := by unfold Rep; exact Iff.rfl
theorem intsOf_rep : ∀ {ds : List D} {ns : List Int} {vs : List V}, intsOf ds = some ns → RepL K M H ds vs → vs = ns.map V.int
  | [], _, _, h, r => by unfold intsOf at h; unfold RepL at r; cases h; subst r; rfl
  | .int i :: ds, ns, vs, h, r => by
    unfold intsOf at h; unfold RepL at r
    obtain ⟨v, rr, rfl, r1, r2⟩ := r
    rw [rep_int_iff] at r1
    subst r1
    cases e : intsOf ds with
    | none => rw [e] at h; cases h
    | some ms => rw [e] at h; cases h; rw [intsOf_rep e r2]; rfl
  | .non :: ds, ns, vs, h, r => by unfold intsOf at h; cases h
  | .bl _ :: ds, ns, vs, h, r => by unfold intsOf at h; cases h
  | .str _ :: ds, ns, vs, h, r => by unfold intsOf at h; cases h
  | .raw _ :: ds, ns, vs, h, r => by unfold intsOf at h; cases h
  | .dic :: ds, ns, vs, h, r => by unfold intsOf at h; cases h
  | .tup _ :: ds, ns, vs, h, r => by unfold intsOf at h; cases h
  | .lst _ :: ds, ns, vs, h, r => by unfold intsOf at h; cases h
  | .slo _ :: ds, ns, vs, h, r => by unfold intsOf at h; cases h
  | .mut _ :: ds, ns, vs, h, r => by unfold intsOf at h; cases h
@[simp] theorem intsOf_map : ∀ ns : List Int, intsOf (ns.map D.int) = some ns
  | [] => rfl
  | n :: ns => by show (intsOf (ns.map D.int)).map (n :: ·) = some (n :: ns); rw [intsOf_map ns]; rfl
end
section
variable {X : Cx} {K : PySem.W.Frag}
def rOr (r r' : R2) : R2 := fun x y H Q => r x y H Q ∨ r' x y H Q
theorem v_add : OpV K (rOr (rI0 fun i j => .int (i + j)) (rOr (fun x y H Q => ∃ i j, x = .str i ∧ y = .str j ∧ i.length + j.length ≤ sizeLine ∧ Q (.str (i ++ j)) H) (rOr (rCatA K) rCat))) addD := by
  intro a b x y M H st Q E ra rb so p
  unfold addD at p
  split at p
  · unfold Rep at ra rb; subst ra rb
    exact .inl ⟨_, _, rfl, rfl, p M H _ .refl so (rep_int _ _ _)⟩
  · unfold Rep at ra rb; subst ra rb
    split at p
    · rename_i h; exact .inr (.inl ⟨_, _, rfl, rfl, size_le h, p M H _ .refl so (rep_str _ _ _)⟩)
    · exact p.elim
  · rename_i xs ys
    split at p
    · rename_i h
      have ra' := ra; have rb' := rb
      unfold Rep at ra rb
      obtain ⟨t, vs, rfl, f, q⟩ := ra
      obtain ⟨u, ws, rfl, f', q'⟩ := rb
      refine .inr (.inr (.inl ⟨t, u, vs, ws, rfl, rfl, f.sq, f'.sq, by rw [← q.length, ← q'.length]; exact size_le h, fun e => ?_, fun _ e => ?_, fun _ _ a ha => ?_⟩))
      · have : xs = [] := List.length_eq_zero_iff.mp (by rw [q.length, e]; rfl)
        subst this
        exact p M H _ .refl so rb'
      · have : ys = [] := List.length_eq_zero_iff.mp (by rw [q'.length, e]; rfl)
        subst this
        exact p M H _ .refl so (by simpa using ra')
      · exact p M _ _ (.laid so ha) (so.laid ha) (rep_tup so (q.append q') ha)
    · exact p.elim
  · rename_i xs ys
    split at p
    · rename_i h
      unfold Rep at ra rb
      obtain ⟨t, vs, rfl, f, q⟩ := ra
      obtain ⟨u, ws, rfl, f', q'⟩ := rb
      exact .inr (.inr (.inr ⟨t, u, vs, ws, rfl, rfl, f.1, f'.1, by rw [← q.length, ← q'.length]; exact size_le h, fun a ha => p M _ _ (.laid so ha) (so.laid ha) (rep_lst so (q.append q') ha)⟩))
    · exact p.elim
  · rename_i n ys
    split at p
    · rename_i xs e
      split at p
      · rename_i h
        unfold Rep at ra rb
        obtain ⟨t, rfl, m⟩ := ra
        obtain ⟨vs, hv, q⟩ := so.at_ n t _ m e
        obtain ⟨u, ws, rfl, f', q'⟩ := rb
        exact .inr (.inr (.inr ⟨t, u, vs, ws, rfl, rfl, hv, f'.1, by rw [← q.length, ← q'.length]; exact size_le h, fun a ha => p M _ _ (.laid so ha) (so.laid ha) (rep_lst so (q.append q') ha)⟩))
      · exact p.elim
    · exact p.elim
  · rename_i xs n
    split at p
    · rename_i ys e
      split at p
      · rename_i h
        unfold Rep at ra rb
        obtain ⟨t, vs, rfl, f, q⟩ := ra
        obtain ⟨u, rfl, m⟩ := rb
        obtain ⟨ws, hw, q'⟩ := so.at_ n u _ m e
        exact .inr (.inr (.inr ⟨t, u, vs, ws, rfl, rfl, f.1, hw, by rw [← q.length, ← q'.length]; exact size_le h, fun a ha => p M _ _ (.laid so ha) (so.laid ha) (rep_lst so (q.append q') ha)⟩))
      · exact p.elim
    · exact p.elim
  · exact p.elim
theorem o_add : OpR X (binaryOp .Add) (rOr (rI0 fun i j => .int (i + j)) (rOr (fun x y H Q => ∃ i j, x = .str i ∧ y = .str j ∧ i.length + j.length ≤ sizeLine ∧ Q (.str (i ++ j)) H) (rOr (rCatA X.K) rCat))) :=
  OpR.or op_add (OpR.or op_add_str (OpR.or op_catA op_cat))
theorem v_sub : OpV K (rI0 fun i j => .int (i - j)) subD := by
  intro a b x y M H st Q E ra rb so p
  unfold subD at p
  split at p
  · unfold Rep at ra rb; subst ra rb
    exact ⟨_, _, rfl, rfl, p M H _ .refl so (rep_int _ _ _)⟩
  · exact p.elim
theorem cmul_of {i j : Int} (h : mulOk i j) : CMul i j ∨ CMulW i j := by
  rcases h with h | h | h
  · exact .inl (.inl (by omega))
  · exact .inl (.inr (by omega))
  · exact .inr (by have := big_log h.1; have := big_log h.2; unfold CMulW; omega)
theorem RepL.flat {M : Mem} {H : Hp} {xs : List D} {vs : List V} (q : RepL K M H xs vs) : ∀ n, RepL K M H (List.replicate n xs).flatten (List.replicate n vs).flatten
  | 0 => .nil
  | n + 1 => by
    rw [List.replicate_succ, List.replicate_succ, List.flatten_cons, List.flatten_cons]
    exact q.append (RepL.flat q n)
theorem v_mul : OpV K (rOr (rI (fun i j => CMul i j) fun i j => .int (i * j)) (rOr (rI CMulW fun i j => .int (i * j)) (rOr rRep (rOr (rRepT K) (rRepT1 K))))) mulD := by
  intro a b x y M H st Q E ra rb so p
  unfold mulD at p
  split at p
  · split at p
    · rename_i h
      unfold Rep at ra rb; subst ra rb
      rcases cmul_of h with h | h
      · exact .inl ⟨_, _, rfl, rfl, h, p M H _ .refl so (rep_int _ _ _)⟩
      · exact .inr (.inl ⟨_, _, rfl, rfl, h, p M H _ .refl so (rep_int _ _ _)⟩)
    · exact p.elim
  · split at p
    · rename_i h
      unfold Rep at ra rb
      obtain ⟨t, vs, rfl, f, q⟩ := ra
      subst rb
      refine .inr (.inr (.inl ⟨t, _, vs, rfl, rfl, f.1, by omega, by omega, by rw [← q.length]; exact size_le h.2, fun a ha => ?_⟩))
      exact p M _ _ (.laid so ha) (so.laid ha) (rep_lst so (q.flat _) ha)
    · exact p.elim
  · split at p
    · rename_i xs k h
      unfold Rep at ra rb
      obtain ⟨t, vs, rfl, f, q⟩ := ra
      subst rb
      refine .inr (.inr (.inr (.inl ⟨t, _, vs, rfl, rfl, f.sq, fun e => h.1 (List.length_eq_zero_iff.mp (by rw [q.length, e]; rfl)), h.2.1, h.2.2.1, by rw [← q.length]; exact h.2.2.2, fun a ha => ?_⟩)))
      exact p M _ _ (.laid so ha) (so.laid ha) (rep_tup so (q.flat _) ha)
    · rename_i xs k _
      split at p
      · rename_i h
        have ra' := ra
        unfold Rep at ra rb
        obtain ⟨t, vs, rfl, f, q⟩ := ra
        subst rb
        refine .inr (.inr (.inr (.inr ⟨t, _, vs, rfl, rfl, f.sq, h.2, .inl ⟨h.1.imp (fun e => List.length_eq_zero_iff.mp (by rw [← q.length, e]; rfl)) id, p M H _ .refl so ra'⟩⟩)))
      · split at p
        · rename_i h
          unfold Rep at ra rb
          obtain ⟨t, vs, rfl, f, q⟩ := ra
          subst rb
          refine .inr (.inr (.inr (.inr ⟨t, _, vs, rfl, rfl, f.sq, h.2, .inr ⟨⟨fun e => h.1.1 (List.length_eq_zero_iff.mp (by rw [q.length, e]; rfl)), h.1.2⟩, fun a ha => p M _ _ (.laid so ha) (so.laid ha) (rep_tup so .nil ha)⟩⟩)))
        · exact p.elim
  · exact p.elim
theorem o_mul : OpR X (binaryOp .Mult) (rOr (rI (fun i j => CMul i j) fun i j => .int (i * j)) (rOr (rI CMulW fun i j => .int (i * j)) (rOr rRep (rOr (rRepT X.K) (rRepT1 X.K))))) :=
  OpR.or op_mul (OpR.or op_mulW (OpR.or op_rep (OpR.or op_repT op_repT1)))
theorem v_fdiv : OpV K (rI CDivW fun i j => .int (i / j)) fdivD := by
  intro a b x y M H st Q E ra rb so p
  unfold fdivD at p
  split at p
  · split at p
    · rename_i h
      unfold Rep at ra rb; subst ra rb
      exact ⟨_, _, rfl, rfl, ⟨h.1, Nat.lt_trans (big_log h.2) (by decide)⟩, p M H _ .refl so (rep_int _ _ _)⟩
    · exact p.elim
  · exact p.elim
theorem v_mod : OpV K (rI (fun _ j => 0 < j) fun i j => .int (i % j)) modD := by
  intro a b x y M H st Q E ra rb so p
  unfold modD at p
  split at p
  · split at p
    · rename_i h
      unfold Rep at ra rb; subst ra rb
      exact ⟨_, _, rfl, rfl, h, p M H _ .refl so (rep_int _ _ _)⟩
    · exact p.elim
  · exact p.elim
theorem v_pow : OpV K (rI CPow fun i j => .int (i ^ j.toNat)) powD := by
  intro a b x y M H st Q E ra rb so p
  unfold powD at p
  split at p
  · split at p
    · rename_i h
      unfold Rep at ra rb; subst ra rb
      exact ⟨_, _, rfl, rfl, h, p M H _ .refl so (rep_int _ _ _)⟩
    · exact p.elim
  · exact p.elim
theorem v_neg : OpV1 K (rU fun i => .int (-i)) negD := by
  intro a x M H st Q E ra so p
  unfold negD at p
  split at p
  · unfold Rep at ra; subst ra
    exact ⟨_, rfl, p M H _ .refl so (rep_int _ _ _)⟩
  · exact p.elim
theorem v_cmpI (f : Int → Int → Bool) : OpV K (rI0 fun i j => .bl (f i j)) (cmpI f) := by
  intro a b x y M H st Q E ra rb so p
  unfold cmpI at p
  split at p
  · unfold Rep at ra rb; subst ra rb
    exact ⟨_, _, rfl, rfl, p M H _ .refl so (rep_bl _ _ _)⟩
  · exact p.elim
theorem v_lt : OpV K (rOr (rI0 fun i j => .bl (decide (i < j))) (rLtT K)) ltD := by
  intro a b x y M H st Q E ra rb so p
  unfold ltD at p
  split at p
  · unfold Rep at ra rb; subst ra rb
    exact .inl ⟨_, _, rfl, rfl, p M H _ .refl so (rep_bl _ _ _)⟩
  · split at p
    · rename_i e1 e2
      unfold Rep at ra rb
      obtain ⟨t, vs, rfl, f, q⟩ := ra
      obtain ⟨u, ws, rfl, f', q'⟩ := rb
      have h1 := intsOf_rep e1 q
      have h2 := intsOf_rep e2 q'
      subst h1 h2
      exact .inr ⟨t, u, _, _, rfl, rfl, f.sq, f'.sq, p M H _ .refl so (rep_bl _ _ _)⟩
    · exact p.elim
  · exact p.elim
theorem o_lt (hu : X.A.units < cLine) : OpR X (compareOp .Lt) (rOr (rI0 fun i j => .bl (decide (i < j))) (rLtT X.K)) := OpR.or op_lt (op_ltT hu)
theorem lexAt_go (ns0 ms0 : List Int) : ∀ (ns ms : List Int) (i : Nat), ns0.drop i = ns → ms0.drop i = ms → i ≤ ns0.length → i ≤ ms0.length →
    Ob.lexAt (fun j => decide (ns0.getD j 0 = ms0.getD j 0)) (fun j => decide (ns0.getD j 0 ≤ ms0.getD j 0)) (decide (ns0.length ≤ ms0.length)) i (min ns.length ms.length) = lexLe ns ms
  | [], ms, i, h1, h2, h3, h4 => by
    have : ns0.length = i := by have := congrArg List.length h1; simp at this; omega
    simp only [List.length_nil, Nat.zero_min]
    show decide (ns0.length ≤ ms0.length) = true
    simp; omega
  | a :: x, [], i, h1, h2, h3, h4 => by
    have e1 : ms0.length = i := by have := congrArg List.length h2; simp at this; omega
    have e2 : ns0.length = i + (x.length + 1) := by have := congrArg List.length h1; simp at this; omega
    simp only [List.length_nil, Nat.min_zero]
    show decide (ns0.length ≤ ms0.length) = false
    simp; omega
  | a :: x, b :: y, i, h1, h2, h3, h4 => by
    have e1 : ns0.getD i 0 = a := by
      have : ns0[i]? = some a := by rw [← List.head?_drop, h1]; rfl
      simp [List.getD, this]
    have e2 : ms0.getD i 0 = b := by
      have : ms0[i]? = some b := by rw [← List.head?_drop, h2]; rfl
      simp [List.getD, this]
    have l1 : ns0.length = i + (x.length + 1) := by have := congrArg List.length h1; simp at this; omega
    have l2 : ms0.length = i + (y.length + 1) := by have := congrArg List.length h2; simp at this; omega
    have em : min (a :: x).length (b :: y).length = min x.length y.length + 1 := by simp [Nat.succ_min_succ]
    rw [em, Ob.lexAt_succ]
    have ih := lexAt_go ns0 ms0 x y (i + 1) (by rw [← List.drop_drop, h1]; rfl) (by rw [← List.drop_drop, h2]; rfl) (by omega) (by omega)
    rw [e1, e2, ih]
    show (if decide (a = b) = true then lexLe x y else decide (a ≤ b)) = if a = b then lexLe x y else decide (a ≤ b)
    by_cases h : a = b <;> simp [h]
theorem v_le : OpV K (rOr (rI0 fun i j => .bl (decide (i ≤ j))) (rLeT K)) leD := by
  intro a b x y M H st Q E ra rb so p
  unfold leD at p
  split at p
  · unfold Rep at ra rb; subst ra rb
    exact .inl ⟨_, _, rfl, rfl, p M H _ .refl so (rep_bl _ _ _)⟩
  · split at p
    · rename_i ns ms e1 e2
      unfold Rep at ra rb
      obtain ⟨t, vs, rfl, f, q⟩ := ra
      obtain ⟨u, ws, rfl, f', q'⟩ := rb
      have h1 := intsOf_rep e1 q
      have h2 := intsOf_rep e2 q'
      subst h1 h2
      refine .inr ⟨t, u, ns, ms, rfl, rfl, f.sq, f'.sq, p M H _ .refl so ?_⟩
      rw [lexAt_go ns ms ns ms 0 rfl rfl (Nat.zero_le _) (Nat.zero_le _)]
      exact rep_bl _ _ _
    · exact p.elim
  · exact p.elim
theorem o_le (hu : X.A.units < cLine) : OpR X (compareOp .LtE) (rOr (rI0 fun i j => .bl (decide (i ≤ j))) (rLeT X.K)) := OpR.or op_le (op_leT hu)
theorem scalD_rep {M : Mem} {H : Hp} {a b : D} {x y : V} {k : Bool} (h : scalD a b = some k) (ra : Rep K M H a x) (rb : Rep K M H b y) : scal x y = true ∧ decide (x = y) = k := by
  unfold scalD at h
  split at h <;> cases h <;> (unfold Rep at ra rb; subst ra rb; exact ⟨rfl, by simp⟩)
theorem eqO_rep {M : Mem} {H : Hp} {a b : D} {x y : V} {k : Bool} (h : eqO a b = some k) (ra : Rep K M H a x) (rb : Rep K M H b y) :
    (scal x y = true ∧ decide (x = y) = k) ∨ ∃ d e, Dp K H x d ∧ Dp K H y e ∧ SeqAt.shaped d = true ∧ SeqAt.shaped e = true ∧ PyData.eqv d e = k := by
  unfold eqO at h
  split at h
  · rename_i k' e
    cases h
    exact .inl (scalD_rep e ra rb)
  · split at h
    · rename_i d e e1 e2
      split at h
      · rename_i hs
        cases h
        exact .inr ⟨d, e, toPD_rep e1 ra, toPD_rep e2 rb, hs.1, hs.2, rfl⟩
      · cases h
    · cases h
theorem v_eq : OpV K (rOr rEq (rEqD K)) eqD := by
  intro a b x y M H st Q E ra rb so p
  unfold eqD at p
  split at p
  · rename_i k h
    rcases eqO_rep h ra rb with ⟨h1, h2⟩ | ⟨d, e, h1, h2, h3, h4, h5⟩
    · exact .inl ⟨h1, p M H _ .refl so (by rw [h2]; exact rep_bl _ _ _)⟩
    · exact .inr ⟨d, e, h1, h2, h3, h4, p M H _ .refl so (by rw [h5]; exact rep_bl _ _ _)⟩
  · exact p.elim
theorem o_eq (hu : X.A.units + 64 < cLine) : OpR X (compareOp .Eq) (rOr rEq (rEqD X.K)) := OpR.or op_eq (op_eqD hu)
theorem v_ne : OpV K (rOr rNe (rNeD K)) neD := by
  intro a b x y M H st Q E ra rb so p
  unfold neD at p
  split at p
  · rename_i k h
    rcases eqO_rep h ra rb with ⟨h1, h2⟩ | ⟨d, e, h1, h2, h3, h4, h5⟩
    · exact .inl ⟨h1, p M H _ .refl so (by rw [h2]; exact rep_bl _ _ _)⟩
    · exact .inr ⟨d, e, h1, h2, h3, h4, p M H _ .refl so (by rw [h5]; exact rep_bl _ _ _)⟩
  · exact p.elim
theorem o_ne (hu : X.A.units + 64 < cLine) : OpR X (compareOp .NotEq) (rOr rNe (rNeD X.K)) := OpR.or op_ne (op_neD hu)
theorem isNon_rep {M : Mem} {H : Hp} {a : D} {x : V} {k : Bool} (h : isNon a = some k) (ra : Rep K M H a x) : decide (x = .non) = k := by
  cases a with
  | raw v => cases h
  | non => cases h; unfold Rep at ra; subst ra; rfl
  | bl _ => cases h; unfold Rep at ra; subst ra; rfl
  | int _ => cases h; unfold Rep at ra; subst ra; rfl
  | str _ => cases h; unfold Rep at ra; subst ra; rfl
  | tup _ => cases h; unfold Rep at ra; obtain ⟨_, _, rfl, _⟩ := ra; rfl
  | lst _ => cases h; unfold Rep at ra; obtain ⟨_, _, rfl, _⟩ := ra; rfl
  | slo _ => cases h; unfold Rep at ra; obtain ⟨_, _, rfl, _⟩ := ra; rfl
  | dic => cases h; unfold Rep at ra; obtain ⟨_, _, rfl, _⟩ := ra; rfl
  | «mut» _ => cases h; unfold Rep at ra; obtain ⟨_, rfl, _⟩ := ra; rfl
theorem v_isN : OpV K (fun x y H Q => y = .non ∧ Q (.bl (decide (x = .non))) H) isND := by
  intro a b x y M H st Q E ra rb so p
  unfold isND at p
  split at p
  · rename_i k h
    unfold Rep at rb
    exact ⟨rb, p M H _ .refl so (by rw [isNon_rep h ra]; exact rep_bl _ _ _)⟩
  · exact p.elim
theorem v_notN : OpV K (fun x y H Q => y = .non ∧ Q (.bl (!decide (x = .non))) H) notND := by
  intro a b x y M H st Q E ra rb so p
  unfold notND at p
  split at p
  · rename_i k h
    unfold Rep at rb
    exact ⟨rb, p M H _ .refl so (by rw [isNon_rep h ra]; exact rep_bl _ _ _)⟩
  · exact p.elim
end

/-! ### built-ins -/
def lenOf (a : D) (st : Sto) : Option Nat := match a with
  | .mut n => (match st[n]? with
    | some (.lst xs) => some xs.length
    | _ => none)
  | .str x => if x.length ≤ 16777216 then some x.length else none
  | a => (itemsOf a).map List.length
def lenF : FA := fun as st => match as with
  | [a] => (match lenOf a st with
    | some n => .ok (.int n) st
    | none => .fail)
  | _ => .fail
/-- the items of a list or tuple, changeable or not -/
def seqOf (a : D) (st : Sto) : Option (List D) := match a with
  | .mut n => (match st[n]? with
    | some (.lst xs) => some xs
    | _ => none)
  | a => itemsOf a
def listF : FA := fun as st => match as with
  | [a] => (match seqOf a st with
    | some xs => .ok (.lst xs) st
    | none => .fail)
  | _ => .fail
def listMF : FA := fun as st => match as with
  | [a] => (match seqOf a st with
    | some xs => .ok (.mut st.length) (st ++ [.lst xs])
    | none => .fail)
  | _ => .fail
def tupleF : FA := fun as st => match as with
  | [.tup xs] => .ok (.tup xs) st
  | [a] => (match seqOf a st with
    | some xs => .ok (.tup xs) st
    | none => .fail)
  | _ => .fail
def sumF : FA := fun as st => match as with
  | [a] => (match (seqOf a st).bind intsOf with
    | some ns => .ok (.int ns.sum) st
    | none => .fail)
  | _ => .fail
def boolsOf : List D → Option (List Bool)
  | [] => some []
  | .bl i :: r => (boolsOf r).map (i :: ·)
  | _ => none
def allF : FA := fun as st => match as with
  | [a] => (match (seqOf a st).bind boolsOf with
    | some ns => .ok (.bl (ns.all id)) st
    | none => .fail)
  | _ => .fail
def anyF : FA := fun as st => match as with
  | [a] => (match (seqOf a st).bind boolsOf with
    | some ns => .ok (.bl (ns.any id)) st
    | none => .fail)
  | _ => .fail
def absF : FA := fun as st => match as with
  | [.int i] => .ok (.int (if i < 0 then -i else i)) st
  | _ => .fail
def intF : FA := fun as st => match as with
  | [.int i] => .ok (.int i) st
  | [.bl k] => .ok (.int (if k then 1 else 0)) st
  | _ => .fail
def bigI : List Int → Int
  | [] => 0
  | [x] => x
  | x :: r => max x (bigI r)
def smallI : List Int → Int
  | [] => 0
  | [x] => x
  | x :: r => min x (smallI r)
def maxF : FA := fun as st => match as with
  | [.int i, .int j] => .ok (.int (if j > i then j else i)) st
  | [a] => (match (seqOf a st).bind intsOf with
    | some (n :: ns) => .ok (.int (bigI (n :: ns))) st
    | _ => .fail)
  | _ => .fail
def minF : FA := fun as st => match as with
  | [.int i, .int j] => .ok (.int (if j < i then j else i)) st
  | [a] => (match (seqOf a st).bind intsOf with
    | some (n :: ns) => .ok (.int (smallI (n :: ns))) st
    | _ => .fail)
  | _ => .fail
def divmodF : FA := fun as st => match as with
  | [.int i, .int j] => if 0 < j ∧ (j < 1073741824 ∨ i.natAbs < big ∨ j.natAbs < big) then .ok (.tup [.int (i / j), .int (i % j)]) st else .fail
  | _ => .fail

section
variable {K : PySem.W.Frag} {M : Mem} {H : Hp}
theorem RepL.one {a : D} {xs : List V} (h : RepL K M H [a] xs) : ∃ x, xs = [x] ∧ Rep K M H a x := by
  unfold RepL at h
  obtain ⟨v, r, rfl, h1, h2⟩ := h
  unfold RepL at h2
  subst h2
  exact ⟨v, rfl, h1⟩
theorem RepL.two {a b : D} {xs : List V} (h : RepL K M H [a, b] xs) : ∃ x y, xs = [x, y] ∧ Rep K M H a x ∧ Rep K M H b y := by
  unfold RepL at h
  obtain ⟨v, r, rfl, h1, h2⟩ := h
  obtain ⟨y, rfl, h3⟩ := h2.one
  exact ⟨v, y, rfl, h1, h3⟩
theorem seqOf_rep {a : D} {st : Sto} {xs : List D} {v : V} (so : StOk K M H st) (h : seqOf a st = some xs) (r : Rep K M H a v) :
    ∃ t vs, v = .ref t ∧ RepL K M H xs vs ∧ (SqT K H t vs ∨ SqL K H t vs) := by
  unfold seqOf at h
  split at h
  · rename_i n
    split at h
    · rename_i ys e
      cases h
      unfold Rep at r
      obtain ⟨t, rfl, m⟩ := r
      obtain ⟨vs, hv, q⟩ := so.at_ n t _ m e
      exact ⟨t, vs, rfl, q, .inr (.of hv)⟩
    · cases h
  · obtain ⟨t, vs, e, s, q⟩ := itemsOf_rep h r
    exact ⟨t, vs, e, q, s⟩
theorem seqOf_list {a : D} {st : Sto} {xs : List D} {v : V} (so : StOk K M H st) (h : seqOf a st = some xs) (hn : ∀ ys, a ≠ .tup ys) (r : Rep K M H a v) :
    ∃ t vs, v = .ref t ∧ RepL K M H xs vs ∧ SqL K H t vs := by
  unfold seqOf at h
  split at h
  · rename_i n
    split at h
    · rename_i ys e
      cases h
      unfold Rep at r
      obtain ⟨t, rfl, m⟩ := r
      obtain ⟨vs, hv, q⟩ := so.at_ n t _ m e
      exact ⟨t, vs, rfl, q, .of hv⟩
    · cases h
  · cases a with
    | tup ys => exact absurd rfl (hn ys)
    | lst ys => cases h; unfold Rep at r; obtain ⟨t, vs, e, f, q⟩ := r; exact ⟨t, vs, e, q, f.sq⟩
    | slo ys => cases h; unfold Rep at r; obtain ⟨t, vs, e, f, q⟩ := r; exact ⟨t, vs, e, q, f.sq⟩
    | _ => cases h
theorem boolsOf_rep : ∀ {ds : List D} {ns : List Bool} {vs : List V}, boolsOf ds = some ns → RepL K M H ds vs → vs = ns.map V.bl
  | [], _, _, h, r => by unfold boolsOf at h; unfold RepL at r; cases h; subst r; rfl
  | .bl i :: ds, ns, vs, h, r => by
    unfold boolsOf at h; unfold RepL at r
    obtain ⟨v, rr, rfl, r1, r2⟩ := r
    unfold Rep at r1
    subst r1
    cases e : boolsOf ds with
    | none => rw [e] at h; cases h
    | some ms => rw [e] at h; cases h; rw [boolsOf_rep e r2]; rfl
  | .non :: ds, ns, vs, h, r => by unfold boolsOf at h; cases h
  | .int _ :: ds, ns, vs, h, r => by unfold boolsOf at h; cases h
  | .str _ :: ds, ns, vs, h, r => by unfold boolsOf at h; cases h
  | .raw _ :: ds, ns, vs, h, r => by unfold boolsOf at h; cases h
  | .dic :: ds, ns, vs, h, r => by unfold boolsOf at h; cases h
  | .tup _ :: ds, ns, vs, h, r => by unfold boolsOf at h; cases h
  | .lst _ :: ds, ns, vs, h, r => by unfold boolsOf at h; cases h
  | .slo _ :: ds, ns, vs, h, r => by unfold boolsOf at h; cases h
  | .mut _ :: ds, ns, vs, h, r => by unfold boolsOf at h; cases h
@[simp] theorem boolsOf_map : ∀ ns : List Bool, boolsOf (ns.map D.bl) = some ns
  | [] => rfl
  | n :: ns => by show (boolsOf (ns.map D.bl)).map (n :: ·) = some (n :: ns); rw [boolsOf_map ns]; rfl
theorem lenOf_seq {a : D} {st : Sto} {n : Nat} (h : lenOf a st = some n) : (∃ x, a = .str x ∧ x.length ≤ 16777216 ∧ n = x.length) ∨ ∃ xs, seqOf a st = some xs ∧ xs.length = n := by
  unfold lenOf at h
  split at h
  · split at h
    · rename_i e; cases h; exact .inr ⟨_, by simp [seqOf, e], rfl⟩
    · cases h
  · split at h
    · rename_i e; cases h; exact .inl ⟨_, rfl, e, rfl⟩
    · cases h
  · cases a with
    | tup ys => cases h; exact .inr ⟨ys, rfl, rfl⟩
    | lst ys => cases h; exact .inr ⟨ys, rfl, rfl⟩
    | slo ys => cases h; exact .inr ⟨ys, rfl, rfl⟩
    | _ => cases h
theorem v_len : CallV K (fun xs H Q => (∃ p ys, xs = [.ref p] ∧ (SqL K H p ys ∨ SqT K H p ys) ∧ Q (.int ys.length) H) ∨ ∃ z, xs = [.str z] ∧ z.length ≤ sizeLine ∧ Q (.int z.length) H) lenF := by
  intro as xs M H st Q E r so p
  unfold lenF at p
  split at p
  · split at p
    · rename_i n h
      obtain ⟨x, rfl, rx⟩ := r.one
      rcases lenOf_seq h with ⟨z, rfl, hz, rfl⟩ | ⟨ys, h1, rfl⟩
      · unfold Rep at rx; subst rx
        exact .inr ⟨z, rfl, size_le hz, p M H _ .refl so (rep_int _ _ _)⟩
      · obtain ⟨t, vs, rfl, q, s⟩ := seqOf_rep so h1 rx
        exact .inl ⟨t, vs, rfl, s.symm, p M H _ .refl so (by rw [q.length]; exact rep_int _ _ _)⟩
    · exact p.elim
  · exact p.elim
theorem v_list : CallV K (fun xs H Q => ∃ p ys, xs = [.ref p] ∧ (SqL K H p ys ∨ SqT K H p ys) ∧ ∀ l, H l = none → Q (.ref l) (upd H l (.lst ys))) listF := by
  intro as xs M H st Q E r so p
  unfold listF at p
  split at p
  · split at p
    · rename_i h
      obtain ⟨x, rfl, rx⟩ := r.one
      obtain ⟨t, vs, rfl, q, s⟩ := seqOf_rep so h rx
      exact ⟨t, vs, rfl, s.symm, fun l hl => p M _ _ (.laid so hl) (so.laid hl) (rep_lst so q hl)⟩
    · exact p.elim
  · exact p.elim
theorem v_listM : CallV K (fun xs H Q => ∃ p ys, xs = [.ref p] ∧ (SqL K H p ys ∨ SqT K H p ys) ∧ ∀ l, H l = none → Q (.ref l) (upd H l (.lst ys))) listMF := by
  intro as xs M H st Q E r so p
  unfold listMF at p
  split at p
  · split at p
    · rename_i h
      obtain ⟨x, rfl, rx⟩ := r.one
      obtain ⟨t, vs, rfl, q, s⟩ := seqOf_rep so h rx
      exact ⟨t, vs, rfl, s.symm, fun l hl => p _ _ _ (.push so hl) (so.pushL hl q) (rep_mut so)⟩
    · exact p.elim
  · exact p.elim
theorem v_tuple : CallV K (fun xs H Q => ∃ p ys, xs = [.ref p] ∧ ((SqL K H p ys ∧ ∀ l, H l = none → Q (.ref l) (upd H l (.tup ys))) ∨ (SqT K H p ys ∧ Q (.ref p) H))) tupleF := by
  intro as xs M H st Q E r so p
  unfold tupleF at p
  split at p
  · obtain ⟨x, rfl, rx⟩ := r.one
    have rx' := rx
    unfold Rep at rx
    obtain ⟨t, vs, rfl, f, q⟩ := rx
    exact ⟨t, vs, rfl, .inr ⟨f.sq, p M H _ .refl so rx'⟩⟩
  · rename_i hn
    split at p
    · rename_i h
      obtain ⟨x, rfl, rx⟩ := r.one
      obtain ⟨t, vs, rfl, q, s⟩ := seqOf_list so h (fun ys e => hn ys (by rw [e])) rx
      exact ⟨t, vs, rfl, .inl ⟨s, fun l hl => p M _ _ (.laid so hl) (so.laid hl) (rep_tup so q hl)⟩⟩
    · exact p.elim
  · exact p.elim
theorem v_sum : CallV K (qSum K) sumF := by
  intro as xs M H st Q E r so p
  unfold sumF at p
  split at p
  · split at p
    · rename_i ns h
      obtain ⟨x, rfl, rx⟩ := r.one
      obtain ⟨ds, h1, h2⟩ := Option.bind_eq_some_iff.mp h
      obtain ⟨t, vs, rfl, q, s⟩ := seqOf_rep so h1 rx
      have e := intsOf_rep h2 q
      subst e
      exact ⟨t, ns, rfl, s.symm, p M H _ .refl so (rep_int _ _ _)⟩
    · exact p.elim
  · exact p.elim
theorem v_all : CallV K (qAll K) allF := by
  intro as xs M H st Q E r so p
  unfold allF at p
  split at p
  · split at p
    · rename_i ns h
      obtain ⟨x, rfl, rx⟩ := r.one
      obtain ⟨ds, h1, h2⟩ := Option.bind_eq_some_iff.mp h
      obtain ⟨t, vs, rfl, q, s⟩ := seqOf_rep so h1 rx
      have e := boolsOf_rep h2 q
      subst e
      exact ⟨t, ns, rfl, s.symm, p M H _ .refl so (rep_bl _ _ _)⟩
    · exact p.elim
  · exact p.elim
theorem v_any : CallV K (qAny K) anyF := by
  intro as xs M H st Q E r so p
  unfold anyF at p
  split at p
  · split at p
    · rename_i ns h
      obtain ⟨x, rfl, rx⟩ := r.one
      obtain ⟨ds, h1, h2⟩ := Option.bind_eq_some_iff.mp h
      obtain ⟨t, vs, rfl, q, s⟩ := seqOf_rep so h1 rx
      have e := boolsOf_rep h2 q
      subst e
      exact ⟨t, ns, rfl, s.symm, p M H _ .refl so (rep_bl _ _ _)⟩
    · exact p.elim
  · exact p.elim
theorem v_abs : CallV K (fun xs H Q => ∃ i, xs = [.int i] ∧ Q (.int (if i < 0 then -i else i)) H) absF := by
  intro as xs M H st Q E r so p
  unfold absF at p
  split at p
  · obtain ⟨x, rfl, rx⟩ := r.one
    rw [rep_int_iff] at rx; subst rx
    exact ⟨_, rfl, p M H _ .refl so (rep_int _ _ _)⟩
  · exact p.elim
theorem v_int : CallV K (fun xs H Q => (∃ i, xs = [.int i] ∧ Q (.int i) H) ∨ ∃ k, xs = [.bl k] ∧ Q (.int (if k then 1 else 0)) H) intF := by
  intro as xs M H st Q E r so p
  unfold intF at p
  split at p
  · obtain ⟨x, rfl, rx⟩ := r.one
    rw [rep_int_iff] at rx; subst rx
    exact .inl ⟨_, rfl, p M H _ .refl so (rep_int _ _ _)⟩
  · obtain ⟨x, rfl, rx⟩ := r.one
    unfold Rep at rx; subst rx
    exact .inr ⟨_, rfl, p M H _ .refl so (rep_int _ _ _)⟩
  · exact p.elim
theorem bigI_eq : ∀ {ns : List Int} {m : Int}, m ∈ ns → (∀ y, y ∈ ns → y ≤ m) → m = bigI ns
  | [], _, h, _ => by cases h
  | [x], m, h, _ => by simpa [bigI] using h
  | x :: y :: r, m, h, g => by
    show m = max x (bigI (y :: r))
    have gx := g x (by simp)
    by_cases e : m ∈ y :: r
    · rw [← bigI_eq e (fun z hz => g z (List.mem_cons_of_mem _ hz))]; omega
    · have hm : m = x := by rcases List.mem_cons.mp h with h | h; exact h; exact absurd h e
      have : bigI (y :: r) ≤ m := by
        have hb : ∀ (l : List Int) (y : Int), bigI (y :: l) ∈ y :: l := by
          intro l; induction l with
          | nil => intro y; simp [bigI]
          | cons z l ih =>
            intro y
            show max y (bigI (z :: l)) ∈ _
            rcases Int.le_total y (bigI (z :: l)) with k | k
            · rw [Int.max_eq_right k]; exact List.mem_cons_of_mem _ (ih z)
            · rw [Int.max_eq_left k]; exact List.mem_cons_self
        exact g _ (List.mem_cons_of_mem _ (hb r y))
      omega
theorem smallI_eq : ∀ {ns : List Int} {m : Int}, m ∈ ns → (∀ y, y ∈ ns → m ≤ y) → m = smallI ns
  | [], _, h, _ => by cases h
  | [x], m, h, _ => by simpa [smallI] using h
  | x :: y :: r, m, h, g => by
    show m = min x (smallI (y :: r))
    have gx := g x (by simp)
    by_cases e : m ∈ y :: r
    · rw [← smallI_eq e (fun z hz => g z (List.mem_cons_of_mem _ hz))]; omega
    · have hm : m = x := by rcases List.mem_cons.mp h with h | h; exact h; exact absurd h e
      have : m ≤ smallI (y :: r) := by
        have hb : ∀ (l : List Int) (y : Int), smallI (y :: l) ∈ y :: l := by
          intro l; induction l with
          | nil => intro y; simp [smallI]
          | cons z l ih =>
            intro y
            show min y (smallI (z :: l)) ∈ _
            rcases Int.le_total y (smallI (z :: l)) with k | k
            · rw [Int.min_eq_left k]; exact List.mem_cons_self
            · rw [Int.min_eq_right k]; exact List.mem_cons_of_mem _ (ih z)
        exact g _ (List.mem_cons_of_mem _ (hb r y))
      omega
theorem v_max : CallV K (fun xs H Q => (∃ i j, xs = [.int i, .int j] ∧ Q (.int (if j > i then j else i)) H) ∨ qMax K xs H Q) maxF := by
  intro as xs M H st Q E r so p
  unfold maxF at p
  split at p
  · obtain ⟨x, y, rfl, rx, ry⟩ := r.two
    rw [rep_int_iff] at rx ry; subst rx ry
    exact .inl ⟨_, _, rfl, p M H _ .refl so (rep_int _ _ _)⟩
  · split at p
    · rename_i n ns h
      obtain ⟨x, rfl, rx⟩ := r.one
      obtain ⟨ds, h1, h2⟩ := Option.bind_eq_some_iff.mp h
      obtain ⟨t, vs, rfl, q, s⟩ := seqOf_rep so h1 rx
      have e := intsOf_rep h2 q
      subst e
      exact .inr ⟨t, n :: ns, rfl, s.symm, by simp, fun m h1 h2 => by rw [bigI_eq h1 h2]; exact p M H _ .refl so (rep_int _ _ _)⟩
    · exact p.elim
  · exact p.elim
theorem v_min : CallV K (fun xs H Q => (∃ i j, xs = [.int i, .int j] ∧ Q (.int (if j < i then j else i)) H) ∨ qMin K xs H Q) minF := by
  intro as xs M H st Q E r so p
  unfold minF at p
  split at p
  · obtain ⟨x, y, rfl, rx, ry⟩ := r.two
    rw [rep_int_iff] at rx ry; subst rx ry
    exact .inl ⟨_, _, rfl, p M H _ .refl so (rep_int _ _ _)⟩
  · split at p
    · rename_i n ns h
      obtain ⟨x, rfl, rx⟩ := r.one
      obtain ⟨ds, h1, h2⟩ := Option.bind_eq_some_iff.mp h
      obtain ⟨t, vs, rfl, q, s⟩ := seqOf_rep so h1 rx
      have e := intsOf_rep h2 q
      subst e
      exact .inr ⟨t, n :: ns, rfl, s.symm, by simp, fun m h1 h2 => by rw [smallI_eq h1 h2]; exact p M H _ .refl so (rep_int _ _ _)⟩
    · exact p.elim
  · exact p.elim
theorem big_bits {i : Int} (h : i.natAbs < big) : Builtin.Int.intBits i ≤ 4000 := by
  have := big_log h
  unfold Builtin.Int.intBits
  split <;> omega
theorem divp_ok2 {i j : Int} (h : 0 < j) (h2 : j.natAbs < big) : CDivP i j := by
  refine ⟨h, ?_⟩
  have := big_log h2
  unfold Builtin.divisionGoesByPylong
  have e : (decide ((if j == 0 then 0 else j.natAbs.log2 / 30 + 1 : Nat) > 300)) = false := by
    apply decide_eq_false
    split <;> omega
  simp only [e, Bool.false_and]
theorem v_divmod : CallV K (fun xs H Q => (∃ i j, xs = [.int i, .int j] ∧ CDiv i j ∧ ∀ p, H p = none → Q (.ref p) (upd H p (.tup [.int (i / j), .int (i % j)]))) ∨
    ∃ i j, xs = [.int i, .int j] ∧ CDivP i j ∧ ∀ p, H p = none → Q (.ref p) (upd H p (.tup [.int (i / j), .int (i % j)]))) divmodF := by
  intro as xs M H st Q E r so p
  unfold divmodF at p
  split at p
  · split at p
    · rename_i i j h
      obtain ⟨x, y, rfl, rx, ry⟩ := r.two
      rw [rep_int_iff] at rx ry; subst rx ry
      rcases h.2 with h2 | h2 | h2
      · exact .inl ⟨i, j, rfl, ⟨h.1, h2⟩, fun l hl => p M _ _ (.laid so hl) (so.laid hl) (rep_tup so (.ints [i / j, i % j]) hl)⟩
      · exact .inr ⟨i, j, rfl, divp_ok h.1 (by have := big_bits h2; omega), fun l hl => p M _ _ (.laid so hl) (so.laid hl) (rep_tup so (.ints [i / j, i % j]) hl)⟩
      · exact .inr ⟨i, j, rfl, divp_ok2 h.1 h2, fun l hl => p M _ _ (.laid so hl) (so.laid hl) (rep_tup so (.ints [i / j, i % j]) hl)⟩
    · exact p.elim
  · exact p.elim
end
end G

namespace G
open PySem PySem.Spec PyProof.Rows L2

/-! ### subscripts -/
def ixD : F2 := fun a b st => match b with
  | .int i => (match a with
    | .str x => if x.length ≤ 16777216 then (match atI x.cps.toList i with
        | some c => .ok (.str ⟨#[c]⟩) st
        | none => .fail) else .fail
    | a => match (seqOf a st).bind fun xs => atI xs i with
      | some d => .ok d st
      | none => .fail)
  | _ => .fail
def cutD (xs : List D) (lo hi : Option Int) : List D := (xs.drop (HT.sIx xs.length 0 lo)).take (HT.sIx xs.length xs.length hi - HT.sIx xs.length 0 lo)
def sliceD (a : D) (lo hi : Option Int) (st : Sto) : R D := match a with
  | .tup xs => .ok (.tup (cutD xs lo hi)) st
  | .str x => if x.length ≤ 16777216 then .ok (.str (cutS x lo hi)) st else .fail
  | a => match seqOf a st with
    | some xs => .ok (.lst (cutD xs lo hi)) st
    | none => .fail
abbrev EvO := Env → Sto → R (Option Int)
def noO : EvO := fun _ st => .ok none st
def someO (fa : EvE) : EvO := fun env st => (fa env st).bind fun a st1 => match a with
  | .int i => .ok (some i) st1
  | _ => .fail
def sliceE (fa : EvE) (lo hi : EvO) : EvE := fun env st => (fa env st).bind fun a st1 => (lo env st1).bind fun l st2 => (hi env st2).bind fun h st3 => sliceD a l h st3
section
variable {K : PySem.W.Frag}
theorem RepL.atI {M : Mem} {H : Hp} {ds : List D} {vs : List V} {i : Int} {d : D} (r : RepL K M H ds vs) (h : L2.atI ds i = some d) : ∃ v, L2.atI vs i = some v ∧ Rep K M H d v := by
  unfold L2.atI at h ⊢
  rw [r.length] at h
  obtain ⟨j, h1, h2⟩ := Option.bind_eq_some_iff.mp h
  obtain ⟨v, h3, h4⟩ := r.get h2
  exact ⟨v, by rw [h1]; exact h3, h4⟩
theorem RepL.cut {M : Mem} {H : Hp} {ds : List D} {vs : List V} (r : RepL K M H ds vs) (lo hi : Option Int) : RepL K M H (cutD ds lo hi) (cutV vs lo hi) := by
  unfold cutD cutV
  rw [r.length]
  exact (r.drop _).take _
theorem v_ix : OpV K (rIx K) ixD := by
  intro a b x y M H st Q E ra rb so p
  unfold ixD at p
  split at p
  · rename_i i
    rw [rep_int_iff] at rb; subst rb
    split at p
    · unfold Rep at ra; subst ra
      split at p
      · rename_i hz
        split at p
        · rename_i c hc
          exact .inr (.inr ⟨_, i, c, rfl, rfl, size_le hz, hc, p M H _ .refl so (rep_str _ _ _)⟩)
        · exact p.elim
      · exact p.elim
    · split at p
      · rename_i d hd
        obtain ⟨xs, h1, h2⟩ := Option.bind_eq_some_iff.mp hd
        obtain ⟨t, vs, rfl, q, s⟩ := seqOf_rep so h1 ra
        obtain ⟨v, h3, h4⟩ := q.atI h2
        rcases s with s | s
        · exact .inr (.inl ⟨t, vs, i, v, rfl, rfl, s, h3, p M H _ .refl so h4⟩)
        · exact .inl ⟨t, vs, i, v, rfl, rfl, s, h3, p M H _ .refl so h4⟩
      · exact p.elim
  · exact p.elim
def rSl (K : PySem.W.Frag) : V → Option Int → Option Int → Hp → VK → Prop := fun x lo hi H Q => rSlL K x lo hi H Q ∨ (rSlA K x lo hi H Q ∨ rSlS x lo hi H Q)
theorem o_sl {X : Cx} : SlR X (rSl X.K) := SlR.or sl_list (SlR.or sl_tupA sl_str)
theorem v_sl {a : D} {lo hi : Option Int} {x : V} {M : Mem} {H : Hp} {st : Sto} {Q : VK} {E : XK} (ra : Rep K M H a x) (so : StOk K M H st) (p : Post K (Rep K) M H Q E (sliceD a lo hi st)) : rSl K x lo hi H Q := by
  unfold sliceD at p
  split at p
  · rename_i xs
    have ra' := ra
    unfold Rep at ra
    obtain ⟨t, vs, rfl, f, q⟩ := ra
    refine .inr (.inl ⟨t, vs, rfl, f.sq, fun hw => ?_, fun _ l hl => p M _ _ (.laid so hl) (so.laid hl) (rep_tup so (q.cut lo hi) hl)⟩)
    have e : cutD xs lo hi = xs := by
      unfold cutD
      rw [q.length, hw.1, hw.2, List.drop_zero, Nat.sub_zero, ← q.length, List.take_length]
    rw [e] at p
    exact p M H _ .refl so ra'
  · split at p
    · rename_i hz
      unfold Rep at ra; subst ra
      exact .inr (.inr ⟨_, rfl, size_le hz, p M H _ .refl so (rep_str _ _ _)⟩)
    · exact p.elim
  · rename_i hn1 hn2
    split at p
    · rename_i xs h
      obtain ⟨t, vs, rfl, q, s⟩ := seqOf_list so h (fun ys e => hn1 ys e) ra
      exact .inl ⟨t, vs, rfl, s, fun l hl => p M _ _ (.laid so hl) (so.laid hl) (rep_lst so (q.cut lo hi) hl)⟩
    · exact p.elim
end
abbrev rdO (K : PySem.W.Frag) (W : WX) (f : EvO) : TO := rd K (fun _ _ a b => a = b) W f
section
variable {X : Cx} {W : WX} {a b : Expr} {fa fb : EvE} {pos p2 : Pos} {lo hi : Option Expr} {fl fh : EvO}
theorem _root_.L2.PO.imp {e : Option Expr} {t t' : TO} (h : PO X e t) (i : ∀ σ H Q, t' σ H Q → t σ H Q) : PO X e t' := ⟨fun pins s σ H Q I q => h.run pins s σ H Q I (i σ H Q q)⟩
theorem g_no : PO X none (rdO X.K W noO) := po_none.imp fun σ H Q ⟨env, M, st, eo, so, p⟩ => p M H none .refl so rfl
theorem g_some (h : PE X a (rdE X.K W fa)) : PO X (some a) (rdO X.K W (someO fa)) := (po_some h).imp fun σ H Q ⟨env, M, st, eo, so, p⟩ => ⟨env, M, st, eo, so, Post.imp (Post.bind p) fun x H1 ⟨M1, st1, a, g, so1, ra, p1⟩ => by
  cases a with
  | int i =>
    rw [rep_int_iff] at ra; subst ra
    exact ⟨i, rfl, p1 M1 H1 _ .refl so1 rfl⟩
  | _ => exact p1.elim⟩
theorem g_ix (ha : PE X a (rdE X.K W fa)) (hb : PE X b (rdE X.K W fb)) (hs : PlainIx b) : PE X (.Subscript a b pos) (rdE X.K W (binE ixD fa fb)) :=
  (pe_ix ix_seq ha hb hs).imp (rd_bin v_ix)
theorem g_slice (ha : PE X a (rdE X.K W fa)) (hl : PO X lo (rdO X.K W fl)) (hh : PO X hi (rdO X.K W fh)) : PE X (.Subscript a (.Slice lo hi none p2) pos) (rdE X.K W (sliceE fa fl fh)) :=
  (pe_slice o_sl ha hl hh).imp fun σ H Q ⟨env, M, st, eo, so, p⟩ => ⟨env, M, st, eo, so, Post.imp (Post.bind p) fun x H1 ⟨M1, st1, a, g, so1, ra, p1⟩ =>
    ⟨env, M1, st1, eo.grow g, so1, Post.imp (Post.bind (rep := fun _ _ a b => a = b) p1) fun l H2 ⟨M2, st2, l', g2, so2, rl, p2⟩ => by
      subst rl
      exact ⟨env, M2, st2, (eo.grow g).grow g2, so2, Post.imp (Post.bind (rep := fun _ _ a b => a = b) p2) fun h H3 ⟨M3, st3, h', g3, so3, rh, p3⟩ => by
        subst rh
        exact v_sl (ra.grow (g2.trans g3)) so3 p3⟩⟩⟩
end

/-! ### isinstance -/
inductive Tag where
  | non | bl | int | str | tup | lst | dic
def tyName : Tag → String
  | .non => "NoneType" | .bl => "bool" | .int => "int" | .str => "str" | .tup => "tuple" | .lst => "list" | .dic => "dict"
def isiB : Tag → Tag → Bool
  | .non, .non => true | .bl, .bl => true | .int, .int => true | .str, .str => true | .tup, .tup => true | .lst, .lst => true | .dic, .dic => true
  | .bl, .int => true
  | _, _ => false
def tagOf (a : D) (st : Sto) : Option Tag := match a with
  | .non => some .non | .bl _ => some .bl | .int _ => some .int | .str _ => some .str | .tup _ => some .tup | .lst _ => some .lst | .slo _ => some .lst
  | .mut n => (match st[n]? with
    | some (.lst _) => some .lst
    | _ => none)
  | .raw _ => none
  | .dic => some .dic
def isiD (c : Tag) : F1 := fun a st => match tagOf a st with
  | some t => .ok (.bl (isiB t c)) st
  | none => .fail
theorem kit_tag : ∀ t c, kitB (tyName t) (tyName c) = some (isiB t c) := by
  intro t c
  cases t <;> cases c <;> decide +kernel
theorem tagOf_rep {K : PySem.W.Frag} {M : Mem} {H : Hp} {a : D} {st : Sto} {t : Tag} {x : V} (so : StOk K M H st) (h : tagOf a st = some t) (r : Rep K M H a x) : TyX K H x (.type (tyName t)) := by
  unfold tagOf at h
  split at h
  · cases h; unfold Rep at r; subst r; exact .base .non
  · cases h; unfold Rep at r; subst r; exact .base (.bl _)
  · cases h; unfold Rep at r; subst r; exact .base (.int _)
  · cases h; unfold Rep at r; subst r; exact .base (.str _)
  · cases h; unfold Rep at r; obtain ⟨p, vs, rfl, f, q⟩ := r
    rcases f with ⟨f | ⟨o, f⟩, _⟩ | ⟨o, its, n, f1, f2, _⟩
    · exact .base (.tup f)
    · exact .fTuple f
    · exact .kTuple f1 f2
  · cases h; unfold Rep at r; obtain ⟨p, vs, rfl, f, q⟩ := r
    exact .base (.lst f.1)
  · cases h; unfold Rep at r; obtain ⟨p, vs, rfl, f, q⟩ := r
    rcases f with ⟨f | ⟨o, f⟩, _⟩ | ⟨o, its, n, f1, f2, _⟩
    · exact .base (.lst f)
    · exact .base (.frz f)
    · exact .kList f1 f2
  · split at h
    · rename_i e
      cases h; unfold Rep at r; obtain ⟨p, rfl, m⟩ := r
      obtain ⟨vs, hv, _⟩ := so.at_ _ p _ m e
      exact .base (.lst hv)
    · cases h
  · cases h
  · cases h; unfold Rep at r; obtain ⟨p, kvs, rfl, f, n⟩ := r
    exact .base (.dK f)
section
variable {X : Cx} {W : WX} {a : Expr} {fa : EvE} {p q pos : Pos}
theorem g_isi (c : Tag) {nm : Str} (ha : PE X a (rdE X.K W fa)) (h0 : ∀ {te : TE}, PE X a te → PE X (.Call (.Name "isinstance" p) [a, .Name nm q] [] pos) (tCB (rIsi X.K) (tCons te (tCons (tC (.ty (tyName c))) tNil)))) :
    PE X (.Call (.Name "isinstance" p) [a, .Name nm q] [] pos) (rdE X.K W (unE (isiD c) fa)) :=
  (h0 ha).imp fun σ H Q ⟨env, M, st, eo, so, p⟩ => ⟨env, M, st, eo, so, Post.imp (Post.bind p) fun x H1 ⟨M1, st1, a, g, so1, ra, p1⟩ => by
    unfold isiD at p1
    split at p1
    · rename_i t h
      exact ⟨x, .ty (tyName c), .type (tyName t), .type (tyName c), isiB t c, rfl, .ty _, tagOf_rep so1 h ra, kit_ty (kit_tag t c), p1 M1 H1 _ .refl so1 (rep_bl _ _ _)⟩
    · exact p1.elim⟩
end

/-! ### statements -/
inductive S where
  | nx (env : Env) (st : Sto) | ret (d : D) (st : Sto) | brk (env : Env) (st : Sto) | cont (env : Env) (st : Sto) | exc (e : Ex) (env : Env) (st : Sto) | fail
abbrev SvS := Env → Sto → S
def PostS (K : PySem.W.Frag) (M : Mem) (H : Hp) (T : Ends) (W : WX) : S → Prop
  | .nx env st => ∀ M' H' σ', Grow M H M' H' → StOk K M' H' st → EnvOk K M' H' env σ' → T.nx σ' H'
  | .ret d st => ∀ M' H' v, Grow M H M' H' → StOk K M' H' st → Rep K M' H' d v → T.rt v H'
  | .brk env st => ∀ M' H' σ', Grow M H M' H' → StOk K M' H' st → EnvOk K M' H' env σ' → T.bk σ' H'
  | .cont env st => ∀ M' H' σ', Grow M H M' H' → StOk K M' H' st → EnvOk K M' H' env σ' → T.ct σ' H'
  | .exc e env st => ∀ M' H' σ' c od, Grow M H M' H' → StOk K M' H' st → EnvOk K M' H' env σ' → RepX K M' H' e c od → W c od σ' H'
  | .fail => False
theorem PostS.mono {K : PySem.W.Frag} {M M1 : Mem} {H H1 : Hp} {T : Ends} {W : WX} {s : S} (g : Grow M H M1 H1) (p : PostS K M H T W s) : PostS K M1 H1 T W s := by
  cases s with
  | nx env st => exact fun M' H' σ' g' => p M' H' σ' (g.trans g')
  | ret d st => exact fun M' H' v g' => p M' H' v (g.trans g')
  | brk env st => exact fun M' H' σ' g' => p M' H' σ' (g.trans g')
  | cont env st => exact fun M' H' σ' g' => p M' H' σ' (g.trans g')
  | exc e env st => exact fun M' H' σ' c od g' => p M' H' σ' c od (g.trans g')
  | fail => exact p
def rdS (K : PySem.W.Frag) (W : WX) (f : SvS) : TS := fun T σ H => ∃ env M st, EnvOk K M H env σ ∧ StOk K M H st ∧ PostS K M H T W (f env st)
def bindS {α : Type} (r : R α) (env : Env) (k : α → Sto → S) : S := match r with
  | .ok a st => k a st
  | .exc e st => .exc e env st
  | .fail => .fail
@[simp] theorem bindS_ok {α : Type} (a : α) (st : Sto) (env : Env) (k : α → Sto → S) : bindS (.ok a st) env k = k a st := rfl
theorem PostS.bind {α β : Type} {K : PySem.W.Frag} {rep : RR α β} {M : Mem} {H : Hp} {T : Ends} {W : WX} {r : R α} {env : Env} {k : α → Sto → S} {σ : L2.St} (eo : EnvOk K M H env σ) (p : PostS K M H T W (bindS r env k)) :
    Post K rep M H (fun b H1 => ∃ M1 st1 a, Grow M H M1 H1 ∧ StOk K M1 H1 st1 ∧ rep M1 H1 a b ∧ PostS K M1 H1 T W (k a st1)) (WE W σ) r := by
  cases r with
  | ok a st => exact fun M' H' b g so h => ⟨M', st, a, g, so, h, PostS.mono g p⟩
  | exc e st => exact fun M' H' c od g so h => p M' H' σ c od g so (eo.grow g) h
  | fail => exact p
def passS : SvS := fun env st => .nx env st
def failS : SvS := fun _ _ => .fail
def brkS : SvS := fun env st => .brk env st
def contS : SvS := fun env st => .cont env st
def retS (fa : EvE) : SvS := fun env st => bindS (fa env st) env fun d st1 => .ret d st1
def retN : SvS := fun _ st => .ret .non st
def exprS (fa : EvE) : SvS := fun env st => bindS (fa env st) env fun _ st1 => .nx env st1
def ifS (t : EvB) (f g : SvS) : SvS := fun env st => bindS (t env st) env fun b st1 => if b = true then f env st1 else g env st1
def seqS (f g : SvS) : SvS := fun env st => match f env st with
  | .nx env1 st1 => g env1 st1
  | s => s
section
variable {X : Cx} {W : WX} {s : Stmt} {rest : List Stmt} {a : Expr} {fa : EvE} {t : EvB} {f g : SvS} {pos : Pos}
theorem s_nil : PSs X [] (rdS X.K W passS) := pss_nil.imp fun T σ H ⟨env, M, st, eo, so, p⟩ => p M H σ .refl so eo
theorem s_cons (h1 : PS X s (rdS X.K W f)) (h2 : PSs X rest (rdS X.K W g)) : PSs X (s :: rest) (rdS X.K W (seqS f g)) :=
  (pss_cons h1 h2).imp fun T σ H ⟨env, M, st, eo, so, p⟩ => ⟨env, M, st, eo, so, by
    unfold seqS at p
    cases e : f env st with
    | nx env1 st1 =>
      rw [e] at p
      exact fun M' H' σ' gr so' eo' => ⟨env1, M', st1, eo', so', PostS.mono gr p⟩
    | ret d st1 => rw [e] at p; exact p
    | brk env1 st1 => rw [e] at p; exact p
    | cont env1 st1 => rw [e] at p; exact p
    | exc x env1 st1 => rw [e] at p; exact p
    | fail => rw [e] at p; exact p⟩
theorem s_one (h1 : PS X s (rdS X.K W f)) : PSs X [s] (rdS X.K W f) := pss_one h1
theorem s_pass : PS X (.Pass pos) (rdS X.K W passS) := ps_pass.imp fun T σ H ⟨env, M, st, eo, so, p⟩ => p M H σ .refl so eo
theorem s_brk : PS X (.Break pos) (rdS X.K W brkS) := ps_break.imp fun T σ H ⟨env, M, st, eo, so, p⟩ => p M H σ .refl so eo
theorem s_cont : PS X (.Continue pos) (rdS X.K W contS) := ps_continue.imp fun T σ H ⟨env, M, st, eo, so, p⟩ => p M H σ .refl so eo
theorem s_never : PS X s (rdS X.K W failS) := ps_never.imp fun T σ H ⟨env, M, st, eo, so, p⟩ => p
theorem s_ret (h : PE X a (rdE X.K W fa)) : PS X (.Return (some a) pos) (rdS X.K W (retS fa)) :=
  (ps_ret h).imp fun T σ H ⟨env, M, st, eo, so, p⟩ => ⟨env, M, st, eo, so, Post.imp (PostS.bind eo p) fun x H1 ⟨M1, st1, d, g, so1, ra, p1⟩ => p1 M1 H1 x .refl so1 ra⟩
theorem s_retN : PS X (.Return none pos) (rdS X.K W retN) := ps_retN.imp fun T σ H ⟨env, M, st, eo, so, p⟩ => p M H .non .refl so (rep_non _ _)
theorem s_expr (h : PE X a (rdE X.K W fa)) (hs : swapsWith a none pos.line X.env = pure false) : PS X (.Expr a pos) (rdS X.K W (exprS fa)) :=
  (ps_expr h hs).imp fun T σ H ⟨env, M, st, eo, so, p⟩ => ⟨env, M, st, eo, so, Post.imp (PostS.bind eo p) fun x H1 ⟨M1, st1, d, g, so1, ra, p1⟩ => p1 M1 H1 σ .refl so1 (eo.grow g)⟩
theorem s_if {c : Expr} {A B : List Stmt} (hc : PT X c (rdB X.K W t)) (ha : PSs X A (rdS X.K W f)) (hb : PSs X B (rdS X.K W g)) : PS X (.If c A B pos) (rdS X.K W (ifS t f g)) :=
  (ps_if hc ha hb).imp fun T σ H ⟨env, M, st, eo, so, p⟩ => ⟨env, M, st, eo, so, Post.imp (PostS.bind (rep := fun _ _ a b => a = b) eo p) fun x H1 ⟨M1, st1, d, gr, so1, ra, p1⟩ => by
    subst ra
    cases d with
    | true => exact ⟨env, M1, st1, eo.grow gr, so1, p1⟩
    | false => exact ⟨env, M1, st1, eo.grow gr, so1, p1⟩⟩
end

/-! ### targets -/
abbrev TgF := D → Env → Sto → R Env
def rdG (K : PySem.W.Frag) (W : WX) (f : TgF) : TG := fun v σ H Q => ∃ d env M st, Rep K M H d v ∧ EnvOk K M H env σ ∧ StOk K M H st ∧ Post K (EnvOk K) M H Q (WE W σ) (f d env st)
def rdGs (K : PySem.W.Frag) (W : WX) (f : List D → Env → Sto → R Env) : TGs := fun vs σ H Q => ∃ ds env M st, RepL K M H ds vs ∧ EnvOk K M H env σ ∧ StOk K M H st ∧ Post K (EnvOk K) M H Q (WE W σ) (f ds env st)
def nameT (i : Nat) : TgF := fun d env st => .ok (env.set i (some d)) st
def nilT : List D → Env → Sto → R Env := fun ds env st => match ds with
  | [] => .ok env st
  | _ => .fail
/-- only where the first target raises nothing -/
def consT (f : TgF) (fs : List D → Env → Sto → R Env) : List D → Env → Sto → R Env := fun ds env st => match ds with
  | d :: r => (match f d env st with
    | .ok env1 st1 => (match fs r env1 st1 with
      | .ok env2 st2 => .ok env2 st2
      | _ => .fail)
    | _ => .fail)
  | [] => .fail
def tupT (n : Nat) (fs : List D → Env → Sto → R Env) : TgF := fun d env st => match d with
  | .tup xs => if xs.length = n then fs xs env st else .fail
  | _ => .fail
/-- o[i] = v of a mutable list -/
def setD (o i d : D) (st : Sto) : Option Sto := match o, i with
  | .mut n, .int k => (match st[n]? with
    | some (.lst xs) => (ixN xs.length k).map fun j => st.set n (.lst (xs.set j d))
    | _ => none)
  | _, _ => none
def subT (fo fi : EvE) : TgF := fun d env st => (fo env st).bind fun o st1 => (fi env st1).bind fun i st2 => match setD o i d st2 with
  | some st3 => .ok env st3
  | none => .fail
def asgS (fa : EvE) (g : TgF) : SvS := fun env st => bindS (fa env st) env fun d st1 => bindS (g d env st1) env fun env1 st2 => .nx env1 st2
section
variable {X : Cx} {W : WX} {tg a b : Expr} {es : List Expr} {fa fb : EvE} {f : TgF} {fs : List D → Env → Sto → R Env} {pos : Pos}
theorem _root_.L2.PG.imp {t t' : TG} (h : PG X tg t) (i : ∀ v σ H Q, t' v σ H Q → t v σ H Q) : PG X tg t' := ⟨fun pins s σ H v u Q I r q => h.run pins s σ H v u Q I r (i v σ H Q q)⟩
theorem _root_.L2.PGs.imp {t t' : TGs} (h : PGs X es t) (i : ∀ v σ H Q, t' v σ H Q → t v σ H Q) : PGs X es t' := ⟨fun pins s σ H v u Q I r q => h.run pins s σ H v u Q I r (i v σ H Q q)⟩
theorem t_name {i : Nat} (h : PG X tg (gName i)) : PG X tg (rdG X.K W (nameT i)) := h.imp fun v σ H Q ⟨d, env, M, st, r, eo, so, p⟩ => p M H _ .refl so (eo.set i r)
theorem t_nil : PGs X [] (rdGs X.K W nilT) := pgs_nil.imp fun v σ H Q ⟨ds, env, M, st, r, eo, so, p⟩ => by
  cases ds with
  | nil => unfold RepL at r; exact ⟨r, p M H _ .refl so eo⟩
  | cons d ds => exact p.elim
theorem t_cons (h1 : PG X tg (rdG X.K W f)) (h2 : PGs X es (rdGs X.K W fs)) (hs : (assignEach (tg :: es) X.env).map (·.2) = assign tg X.env :: (assignEach es X.env).map (·.2)) : PGs X (tg :: es) (rdGs X.K W (consT f fs)) := (pgs_cons h1 h2 hs).imp fun v σ H Q ⟨ds, env, M, st, r, eo, so, p⟩ => by
  cases ds with
  | nil => exact p.elim
  | cons d ds =>
    unfold RepL at r
    obtain ⟨x, rr, rfl, r1, r2⟩ := r
    unfold consT at p
    cases e : f d env st with
    | exc x s => simp only [e] at p; exact p.elim
    | fail => simp only [e] at p; exact p.elim
    | ok env1 st1 =>
      simp only [e] at p
      refine ⟨x, rr, rfl, d, env, M, st, r1, eo, so, ?_⟩
      rw [e]
      intro M' H' σ' g so' eo'
      refine ⟨ds, env1, M', st1, r2.grow g, eo', so', ?_⟩
      cases e2 : fs ds env1 st1 with
      | exc x s => simp only [e2] at p; exact p.elim
      | fail => simp only [e2] at p; exact p.elim
      | ok env2 st2 =>
        simp only [e2] at p
        exact fun M2 H2 σ2 g2 so2 eo2 => p M2 H2 σ2 (g.trans g2) so2 eo2
theorem t_tup {n : Nat} {k : Nat} (h : PG X (.Tuple es k pos) (gTup X.K n (rdGs X.K W fs))) : PG X (.Tuple es k pos) (rdG X.K W (tupT n fs)) := h.imp fun v σ H Q ⟨d, env, M, st, r, eo, so, p⟩ => by
  unfold tupT at p
  split at p
  · rename_i xs
    split at p
    · rename_i hl
      unfold Rep at r
      obtain ⟨t, vs, rfl, fz, q⟩ := r
      exact ⟨t, vs, rfl, fz.sq, by rw [← q.length]; exact hl, xs, env, M, st, q, eo, so, p⟩
    · exact p.elim
  · exact p.elim
theorem setD_rep {K : PySem.W.Frag} {M : Mem} {H : Hp} {o i d : D} {st st' : Sto} {x y v : V} {Q : Hp → Prop} (so : StOk K M H st) (h : setD o i d st = some st') (r1 : Rep K M H o x) (r2 : Rep K M H i y) (r3 : Rep K M H d v)
    (q : ∀ H', Grow M H M H' → StOk K M H' st' → Q H') : rSetL x y v H Q := by
  unfold setD at h
  split at h
  · rename_i n k
    split at h
    · rename_i xs e
      obtain ⟨j, hj, rfl⟩ := Option.map_eq_some_iff.mp h
      unfold Rep at r1 r2
      obtain ⟨p, rfl, m⟩ := r1
      subst r2
      obtain ⟨vs, hv, rl⟩ := so.at_ n p _ m e
      rw [rl.length] at hj
      exact ⟨p, vs, k, j, rfl, rfl, hv, hj, q _ (.put so m) (so.putL m (rl.set r3 j))⟩
    · cases h
  · cases h
theorem t_sub (ha : PE X a (rdE X.K W fa)) (hb : PE X b (rdE X.K W fb)) (h0 : PG X (.Subscript a b pos) (gSub (rdE X.K W fa) (rdE X.K W fb) rSetL)) : PG X (.Subscript a b pos) (rdG X.K W (subT fa fb)) :=
  h0.imp fun v σ H Q ⟨d, env, M, st, r, eo, so, p⟩ => ⟨env, M, st, eo, so, Post.imp (Post.bind p) fun x H1 ⟨M1, st1, o, g, so1, ro, p1⟩ =>
    ⟨env, M1, st1, eo.grow g, so1, Post.imp (Post.bind (rep := Rep X.K) p1) fun y H2 ⟨M2, st2, i, g2, so2, ri, p2⟩ => by
      split at p2
      · rename_i st3 h
        exact setD_rep so2 h (ro.grow g2) ri (r.grow (g.trans g2)) fun H' g3 so3 => p2 M2 H' σ g3 so3 ((eo.grow (g.trans g2)).grow g3)
      · exact p2.elim⟩⟩
theorem s_asg {sp : Pos} (h0 : PS X (.Assign [tg] a sp) (tAsg (rdE X.K W fa) (rdG X.K W f))) : PS X (.Assign [tg] a sp) (rdS X.K W (asgS fa f)) :=
  h0.imp fun T σ H ⟨env, M, st, eo, so, p⟩ => ⟨env, M, st, eo, so, Post.imp (PostS.bind eo p) fun x H1 ⟨M1, st1, d, g, so1, ra, p1⟩ =>
    ⟨d, env, M1, st1, ra, eo.grow g, so1, Post.imp (PostS.bind (rep := EnvOk X.K) (eo.grow g) p1) fun σ2 H2 ⟨M2, st2, env2, g2, so2, eo2, p2⟩ => p2 M2 H2 σ2 .refl so2 eo2⟩⟩
end
end G

namespace G
open PySem PySem.Spec PyProof.Rows L2

/-! ### what is walked: items that stand, or what is looked up at each turn (at most so many turns) -/
inductive ItD where
  | frz (xs : List D)
  | gen (nxt : Nat → Sto → Option (Option D)) (most : Nat)
abbrev EvI := Env → Sto → R ItD
def ItRep (K : PySem.W.Frag) : RR ItD It := fun M H it J => match it with
  | .frz xs => ∀ i M' H' st', Keep M H M' H' → StOk K M' H' st' → (i = xs.length → J.stop i H') ∧ ∀ d, xs[i]? = some d → J.go i H' ∧ ∀ x H'', J.yld i H' x H'' → Grow M' H' M' H'' ∧ StOk K M' H'' st' ∧ Rep K M' H'' d x
  | .gen nxt _ => ∀ i M' H' st', Keep M H M' H' → StOk K M' H' st' → (nxt i st' = some none → J.stop i H') ∧ ∀ d, nxt i st' = some (some d) → J.go i H' ∧ ∀ x H'', J.yld i H' x H'' → Grow M' H' M' H'' ∧ StOk K M' H'' st' ∧ Rep K M' H'' d x
abbrev rdI (K : PySem.W.Frag) (W : WX) (f : EvI) : TI := rd K (ItRep K) W f
def mutNxt (n : Nat) : Nat → Sto → Option (Option D) := fun i st => match st[n]? with
  | some (.lst ys) => some ys[i]?
  | _ => none
def iterD (d : D) (st : Sto) : R ItD := match d with
  | .mut n => (match st[n]? with
    | some (.lst ys) => .ok (.gen (mutNxt n) ys.length) st
    | _ => .fail)
  | d => (match itemsOf d with
    | some xs => .ok (.frz xs) st
    | none => .fail)
def iterE (fa : EvE) : EvI := fun env st => (fa env st).bind iterD
section
variable {K : PySem.W.Frag} {M M' : Mem} {H H' : Hp}
theorem itt_rep {a : Addr} {xs : List D} {vs : List V} (f : FzT K M H a vs) (q : RepL K M H xs vs) : ItRep K M H (.frz xs) (Itt K a) := fun i M' H' st' g so => by
  have f' := (g.fzT f).sq
  have q' := q.kp g
  refine ⟨fun e => ⟨vs, f', by rw [← q.length]; omega⟩, fun d hd => ?_⟩
  obtain ⟨v, hv, r⟩ := q'.get hd
  refine ⟨⟨vs, v, f', hv⟩, fun x H'' ⟨e, hx⟩ => ?_⟩
  subst e
  have := hx vs f'
  rw [hv] at this; cases this
  exact ⟨.refl, so, r⟩
theorem itl_rep {a : Addr} {xs : List D} {vs : List V} (f : ∀ M' H', Keep M H M' H' → SqL K H' a vs) (q : RepL K M H xs vs) : ItRep K M H (.frz xs) (Itl K a) := fun i M' H' st' g so => by
  have f' := f _ _ g
  have q' := q.kp g
  refine ⟨fun e => ⟨vs, f', by rw [← q.length]; omega⟩, fun d hd => ?_⟩
  obtain ⟨v, hv, r⟩ := q'.get hd
  refine ⟨⟨vs, v, f', hv⟩, fun x H'' ⟨e, hx⟩ => ?_⟩
  subst e
  have := hx vs f'
  rw [hv] at this; cases this
  exact ⟨.refl, so, r⟩
theorem itm_rep {a : Addr} {n k : Nat} (m : M.m[n]? = some a) : ItRep K M H (.gen (mutNxt n) k) (Itl K a) := fun i M' H' st' g so => by
  have m' := g.pre n a m
  unfold mutNxt
  cases e : st'[n]? with
  | none => exact ⟨(by simp), fun d h => by simp at h⟩
  | some mo =>
    cases mo with
    | dk _ => exact ⟨(by simp), fun d h => by simp at h⟩
    | dt _ => exact ⟨(by simp), fun d h => by simp at h⟩
    | fk _ => exact ⟨(by simp), fun d h => by simp at h⟩
    | lst ys =>
      obtain ⟨vs, hv, q⟩ := so.at_ n a _ m' e
      refine ⟨fun h => ⟨vs, .of hv, ?_⟩, fun d h => ?_⟩
      · have h : ys[i]? = none := by simpa using h
        rw [← q.length]; exact List.getElem?_eq_none_iff.mp h
      · have h : ys[i]? = some d := by simpa using h
        obtain ⟨v, h1, r⟩ := q.get h
        refine ⟨⟨vs, v, .of hv, h1⟩, fun x H'' ⟨e, hx⟩ => ?_⟩
        subst e
        have := hx vs (.of hv)
        rw [h1] at this; cases this
        exact ⟨.refl, so, r⟩
theorem itr_rep {lo : Int} {n : Nat} : ItRep K M H (.frz ((List.range n).map fun k => .int (lo + (k : Nat)))) (Itr lo n) := fun i M' H' st' g so => by
  refine ⟨fun e => ?_, fun d hd => ?_⟩
  · have : i = n := by simpa using e
    exact Nat.le_of_eq this.symm
  · rw [List.getElem?_map] at hd
    obtain ⟨k, hk, rfl⟩ := Option.map_eq_some_iff.mp hd
    obtain ⟨hk1, hk2⟩ := List.getElem?_eq_some_iff.mp hk
    have hn : i < n := by simpa using hk1
    simp at hk2
    subst hk2
    refine ⟨hn, fun x H'' ⟨e1, e2⟩ => ?_⟩
    subst e1 e2
    exact ⟨.refl, so, rep_int _ _ _⟩
end
section
variable {X : Cx} {W : WX} {tg l : Expr} {fa : EvE}
theorem g_iter (hl : PE X l (rdE X.K W fa)) : PI X tg l (rdI X.K W (iterE fa)) := ⟨fun pins s σ H R' I ⟨env, M, st, eo, so, p⟩ => by
  unfold iterE at p
  have useL : (∀ d st1, fa env st = .ok d st1 → ∀ M' H' v, Grow M H M' H' → StOk X.K M' H' st1 → Rep X.K M' H' d v → ∃ a, v = .ref a ∧ (∃ xs, SqL X.K H' a xs) ∧ R' (Itl X.K a) H') → (∀ st1, fa env st ≠ .fail) →
      (∀ e st1, fa env st = .exc e st1 → Post X.K (Rep X.K) M H (fun _ _ => False) (WE W σ) (fa env st)) → wpAny (model X.prog X.w) X.A (eval l X.env) (fun v s1 => wpAny (model X.prog X.w) X.A (pyIter v) (PIE X pins σ tg R') X.xe s1) X.xe s := fun h1 h2 h3 =>
    (pi_list hl).run pins s σ H R' I ⟨env, M, st, eo, so, by
      cases e : fa env st with
      | ok d st1 => exact h1 d st1 e
      | exc x st1 => have := h3 x st1 e; rw [e] at this; exact this
      | fail => exact absurd e (h2 st)⟩
  cases e : fa env st with
  | fail => rw [e] at p; exact p.elim
  | exc x st1 =>
    refine useL (fun d st1 e' => by rw [e] at e'; cases e') (fun st1 e' => by rw [e] at e'; cases e') fun x' st1' e' => ?_
    rw [e] at p ⊢
    exact p
  | ok d st1 =>
    rw [e] at p
    have p : Post X.K (ItRep X.K) M H R' (WE W σ) (iterD d st1) := p
    unfold iterD at p
    have fin : (∀ M' H' v, Grow M H M' H' → StOk X.K M' H' st1 → Rep X.K M' H' d v → ∃ a, v = .ref a ∧ (∃ xs, SqL X.K H' a xs) ∧ R' (Itl X.K a) H') → wpAny (model X.prog X.w) X.A (eval l X.env) (fun v s1 => wpAny (model X.prog X.w) X.A (pyIter v) (PIE X pins σ tg R') X.xe s1) X.xe s := fun h =>
      useL (fun d' st1' e' => by rw [e] at e'; cases e'; exact h) (fun st1 e' => by rw [e] at e'; cases e') fun x' st1' e' => by rw [e] at e'; cases e'
    cases d with
    | «mut» n =>
      split at p
      · rename_i n' h
        cases h
        split at p
        · rename_i ys e2
          refine fin fun M' H' v g so' r => ?_
          unfold Rep at r
          obtain ⟨a, rfl, m⟩ := r
          obtain ⟨vs, hv, _⟩ := so'.at_ n a _ m e2
          exact ⟨a, rfl, ⟨vs, .of hv⟩, p M' H' _ g so' (itm_rep m)⟩
        · exact p.elim
      · rename_i h
        exact absurd rfl (h n)
    | tup xs =>
      refine (pi_tup hl).run pins s σ H R' I ⟨env, M, st, eo, so, ?_⟩
      rw [e]
      intro M' H' v g so' r
      unfold Rep at r
      obtain ⟨a, vs, rfl, f, q⟩ := r
      exact ⟨a, rfl, ⟨vs, f.sq⟩, p M' H' _ g so' (itt_rep f q)⟩
    | lst xs =>
      refine fin fun M' H' v g so' r => ?_
      unfold Rep at r
      obtain ⟨a, vs, rfl, f, q⟩ := r
      exact ⟨a, rfl, ⟨vs, f.sq⟩, p M' H' _ g so' (itl_rep (fun M2 H2 g2 => .of (g2.keep _ _ f.1 f.2).1) q)⟩
    | slo xs =>
      refine fin fun M' H' v g so' r => ?_
      unfold Rep at r
      obtain ⟨a, vs, rfl, f, q⟩ := r
      exact ⟨a, rfl, ⟨vs, f.sq⟩, p M' H' _ g so' (itl_rep (fun M2 H2 g2 => (g2.fzL f).sq) q)⟩
    | non => exact p.elim
    | bl _ => exact p.elim
    | int _ => exact p.elim
    | str _ => exact p.elim
    | raw _ => exact p.elim
    | dic => exact p.elim⟩
end
/-- range(n), range(a, b) -/
def range1F (as : List D) (st : Sto) : R ItD := match as with
  | [.int j] => if j.natAbs < 2 ^ 62 then .ok (.frz ((List.range j.toNat).map fun k => .int (0 + (k : Nat)))) st else .fail
  | _ => .fail
def range2F (as : List D) (st : Sto) : R ItD := match as with
  | [.int i, .int j] => if i.natAbs < 2 ^ 62 ∧ j.natAbs < 2 ^ 62 then .ok (.frz ((List.range (j - i).toNat).map fun k => .int (i + (k : Nat)))) st else .fail
  | _ => .fail
/-- enumerate, zip -/
def enumL (xs : List D) : List D := (List.range xs.length).zipWith (fun (i : Nat) x => .tup [.int (i : Nat), x]) xs
def enumNxt (n : Nat) : Nat → Sto → Option (Option D) := fun i st => match st[n]? with
  | some (.lst ys) => some ((ys[i]?).map fun x => .tup [.int (i : Nat), x])
  | _ => none
def zipO : Option D → Option D → Option D
  | some x, some y => some (.tup [x, y])
  | _, _ => none
def zipNxt (n m : Nat) : Nat → Sto → Option (Option D) := fun i st => match st[n]?, st[m]? with
  | some (.lst xs), some (.lst ys) => some (zipO xs[i]? ys[i]?)
  | _, _ => none
def enumF (as : List D) (st : Sto) : R ItD := match as with
  | [.mut n] => (match st[n]? with
    | some (.lst ys) => .ok (.gen (enumNxt n) ys.length) st
    | _ => .fail)
  | [d] => (match itemsOf d with
    | some xs => .ok (.frz (enumL xs)) st
    | none => .fail)
  | _ => .fail
def zipF (as : List D) (st : Sto) : R ItD := match as with
  | [.tup xs, .tup ys] => .ok (.frz (xs.zipWith (fun x y => .tup [x, y]) ys)) st
  | [.lst xs, .lst ys] => .ok (.frz (xs.zipWith (fun x y => .tup [x, y]) ys)) st
  | [.mut n, .mut m] => (match st[n]?, st[m]? with
    | some (.lst xs), some (.lst _) => .ok (.gen (zipNxt n m) xs.length) st
    | _, _ => .fail)
  | _ => .fail
def callI (f : List D → Sto → R ItD) (fs : EvA) : EvI := fun env st => (fs env st).bind f
section
variable {K : PySem.W.Frag} {M M' : Mem} {H H' : Hp}
theorem enumL_get {xs : List D} {i : Nat} {d : D} (h : (enumL xs)[i]? = some d) : ∃ x, xs[i]? = some x ∧ d = .tup [.int (i : Nat), x] := by
  unfold enumL at h
  rw [List.getElem?_zipWith] at h
  cases e : xs[i]? with
  | none => rw [e] at h; cases e2 : (List.range xs.length)[i]? <;> rw [e2] at h <;> simp at h
  | some x =>
    have hl := (List.getElem?_eq_some_iff.mp e).1
    rw [e, List.getElem?_range hl] at h
    simp at h
    exact ⟨x, rfl, h.symm⟩
@[simp] theorem enumL_length (xs : List D) : (enumL xs).length = xs.length := by simp [enumL]
theorem pair_new {st : Sto} {x y : D} {u v : V} {T : Addr} (so : StOk K M H st) (rx : Rep K M H x u) (ry : Rep K M H y v) (hT : H T = none) : Grow M H M (upd H T (.tup [u, v])) ∧ StOk K M (upd H T (.tup [u, v])) st ∧ Rep K M (upd H T (.tup [u, v])) (.tup [x, y]) (.ref T) :=
  ⟨.laid so hT, so.laid hT, rep_tup so (.cons rx (.cons ry .nil)) hT⟩
theorem ite_rep {a : Addr} {xs : List D} {vs : List V} (f : ∀ M' H', Keep M H M' H' → SqL K H' a vs) (q : RepL K M H xs vs) : ItRep K M H (.frz (enumL xs)) (Ite K a) := fun i M' H' st' g so => by
  have f' := f _ _ g
  have q' := q.kp g
  refine ⟨fun e => ⟨vs, f', by rw [← q.length]; simp at e; omega⟩, fun d hd => ?_⟩
  obtain ⟨x, hx, rfl⟩ := enumL_get hd
  obtain ⟨v, hv, r⟩ := q'.get hx
  refine ⟨⟨vs, v, f', hv⟩, fun z H'' ⟨T, y, e1, e2, e3, e4⟩ => ?_⟩
  have := e4 vs f'
  rw [hv] at this; cases this
  subst e1 e3
  exact pair_new so (rep_int _ _ _) r e2
theorem item_rep {a : Addr} {n k : Nat} (m : M.m[n]? = some a) : ItRep K M H (.gen (enumNxt n) k) (Ite K a) := fun i M' H' st' g so => by
  have m' := g.pre n a m
  cases e : st'[n]? with
  | none => exact ⟨fun h => by simp [enumNxt, e] at h, fun d h => by simp [enumNxt, e] at h⟩
  | some mo =>
    cases mo with
    | dk _ => exact ⟨fun h => by simp [enumNxt, e] at h, fun d h => by simp [enumNxt, e] at h⟩
    | dt _ => exact ⟨fun h => by simp [enumNxt, e] at h, fun d h => by simp [enumNxt, e] at h⟩
    | fk _ => exact ⟨fun h => by simp [enumNxt, e] at h, fun d h => by simp [enumNxt, e] at h⟩
    | lst ys =>
      obtain ⟨vs, hv, q⟩ := so.at_ n a _ m' e
      refine ⟨fun h => ⟨vs, .of hv, ?_⟩, fun d h => ?_⟩
      · have h : ys[i]? = none := by simpa [enumNxt, e] using h
        rw [← q.length]; exact List.getElem?_eq_none_iff.mp h
      · obtain ⟨y, e2, rfl⟩ : ∃ y, ys[i]? = some y ∧ D.tup [.int (i : Nat), y] = d := by simpa [enumNxt, e] using h
        obtain ⟨v, h1, r⟩ := q.get e2
        refine ⟨⟨vs, v, .of hv, h1⟩, fun x H'' ⟨T, y', e1, e2, e3, e4⟩ => ?_⟩
        have := e4 vs (.of hv)
        rw [h1] at this; cases this
        subst e1 e3
        exact pair_new so (rep_int _ _ _) r e2
theorem zipO_some {x y : Option D} {d : D} (h : zipO x y = some d) : ∃ a b, x = some a ∧ y = some b ∧ d = .tup [a, b] := by
  unfold zipO at h
  split at h
  · cases h; exact ⟨_, _, rfl, rfl, rfl⟩
  · cases h
theorem zipO_none {x y : Option D} (h : zipO x y = none) : x = none ∨ y = none := by
  cases x with
  | none => exact .inl rfl
  | some a =>
    cases y with
    | none => exact .inr rfl
    | some b => cases h
theorem izm_rep {a b : Addr} {n m k : Nat} (ma : M.m[n]? = some a) (mb : M.m[m]? = some b) : ItRep K M H (.gen (zipNxt n m) k) (Itz K a b) := fun i M' H' st' g so => by
  have ma' := g.pre n a ma
  have mb' := g.pre m b mb
  cases ea : st'[n]? with
  | none => exact ⟨fun h => by simp [zipNxt, ea] at h, fun d h => by simp [zipNxt, ea] at h⟩
  | some mo =>
    cases eb : st'[m]? with
    | none => exact ⟨fun h => by simp [zipNxt, ea, eb] at h, fun d h => by simp [zipNxt, ea, eb] at h⟩
    | some mo2 =>
      cases mo with
      | dk _ => exact ⟨fun h => by simp [zipNxt, ea, eb] at h, fun d h => by simp [zipNxt, ea, eb] at h⟩
      | dt _ => exact ⟨fun h => by simp [zipNxt, ea, eb] at h, fun d h => by simp [zipNxt, ea, eb] at h⟩
      | fk _ => exact ⟨fun h => by simp [zipNxt, ea, eb] at h, fun d h => by simp [zipNxt, ea, eb] at h⟩
      | lst xs =>
        cases mo2 with
        | dk _ => exact ⟨fun h => by simp [zipNxt, ea, eb] at h, fun d h => by simp [zipNxt, ea, eb] at h⟩
        | dt _ => exact ⟨fun h => by simp [zipNxt, ea, eb] at h, fun d h => by simp [zipNxt, ea, eb] at h⟩
        | fk _ => exact ⟨fun h => by simp [zipNxt, ea, eb] at h, fun d h => by simp [zipNxt, ea, eb] at h⟩
        | lst ys =>
          obtain ⟨vs, hv, q⟩ := so.at_ n a _ ma' ea
          obtain ⟨ws, hw, q2⟩ := so.at_ m b _ mb' eb
          refine ⟨fun h => ⟨vs, ws, .of hv, .of hw, ?_⟩, fun d h => ?_⟩
          · have h : zipO xs[i]? ys[i]? = none := by simpa [zipNxt, ea, eb] using h
            rw [← q.length, ← q2.length]
            exact (zipO_none h).imp List.getElem?_eq_none_iff.mp List.getElem?_eq_none_iff.mp
          · have h : zipO xs[i]? ys[i]? = some d := by simpa [zipNxt, ea, eb] using h
            obtain ⟨x, y, e1, e2, rfl⟩ := zipO_some h
            obtain ⟨v, h1, r⟩ := q.get e1
            obtain ⟨w, h2, r2⟩ := q2.get e2
            refine ⟨⟨vs, ws, v, w, .of hv, .of hw, h1, h2⟩, fun z H'' ⟨T, x', y', e1, e2, e3, e4, e5⟩ => ?_⟩
            have := e4 vs (.of hv)
            rw [h1] at this; cases this
            have := e5 ws (.of hw)
            rw [h2] at this; cases this
            subst e1 e3
            exact pair_new so r r2 e2
theorem zipW_get {xs ys : List D} {i : Nat} {d : D} (h : (xs.zipWith (fun x y => D.tup [x, y]) ys)[i]? = some d) : ∃ x y, xs[i]? = some x ∧ ys[i]? = some y ∧ d = .tup [x, y] := by
  rw [List.getElem?_zipWith] at h
  cases e : xs[i]? with
  | none => rw [e] at h; simp at h
  | some x =>
    cases e2 : ys[i]? with
    | none => rw [e, e2] at h; simp at h
    | some y => rw [e, e2] at h; simp at h; exact ⟨x, y, rfl, rfl, h.symm⟩
theorem itz_rep {a b : Addr} {xs ys : List D} {vs ws : List V} (f : ∀ M' H', Keep M H M' H' → SqL K H' a vs) (q : RepL K M H xs vs) (f2 : ∀ M' H', Keep M H M' H' → SqL K H' b ws) (q2 : RepL K M H ys ws) :
    ItRep K M H (.frz (xs.zipWith (fun x y => .tup [x, y]) ys)) (Itz K a b) := fun i M' H' st' g so => by
  have f' := f _ _ g
  have q' := q.kp g
  have f2' := f2 _ _ g
  have q2' := q2.kp g
  refine ⟨fun e => ⟨vs, ws, f', f2', by rw [← q.length, ← q2.length]; simp at e; omega⟩, fun d hd => ?_⟩
  obtain ⟨x, y, hx, hy, rfl⟩ := zipW_get hd
  obtain ⟨v, hv, r⟩ := q'.get hx
  obtain ⟨w, hw, r2⟩ := q2'.get hy
  refine ⟨⟨vs, ws, v, w, f', f2', hv, hw⟩, fun z H'' ⟨T, x', y', e1, e2, e3, e4, e5⟩ => ?_⟩
  have := e4 vs f'
  rw [hv] at this; cases this
  have := e5 ws f2'
  rw [hw] at this; cases this
  subst e1 e3
  exact pair_new so r r2 e2
theorem itzt_rep {a b : Addr} {xs ys : List D} {vs ws : List V} (f : FzT K M H a vs) (q : RepL K M H xs vs) (f2 : FzT K M H b ws) (q2 : RepL K M H ys ws) :
    ItRep K M H (.frz (xs.zipWith (fun x y => .tup [x, y]) ys)) (RZ.ItzT K a b) := fun i M' H' st' g so => by
  have f' := (g.fzT f).sq
  have q' := q.kp g
  have f2' := (g.fzT f2).sq
  have q2' := q2.kp g
  refine ⟨fun e => ⟨vs, ws, f', f2', by rw [← q.length, ← q2.length]; simp at e; omega⟩, fun d hd => ?_⟩
  obtain ⟨x, y, hx, hy, rfl⟩ := zipW_get hd
  obtain ⟨v, hv, r⟩ := q'.get hx
  obtain ⟨w, hw, r2⟩ := q2'.get hy
  refine ⟨⟨vs, ws, v, w, f', f2', hv, hw⟩, fun z H'' ⟨T, x', y', e1, e2, e3, e4, e5⟩ => ?_⟩
  have := e4 vs f'
  rw [hv] at this; cases this
  have := e5 ws f2'
  rw [hw] at this; cases this
  subst e1 e3
  exact pair_new so r r2 e2
end
section
variable {X : Cx} {W : WX} {tg it : Expr} {fs : EvA}
theorem _root_.L2.PI.imp {t t' : TI} (h : PI X tg it t) (i : ∀ σ H R, t' σ H R → t σ H R) : PI X tg it t' := ⟨fun pins s σ H R I q => h.run pins s σ H R I (i σ H R q)⟩
theorem g_range1 (h : PI X tg it (iRng1 (rdA X.K W fs))) : PI X tg it (rdI X.K W (callI range1F fs)) := h.imp fun σ H R' ⟨env, M, st, eo, so, p⟩ => ⟨env, M, st, eo, so, Post.imp (Post.bind p) fun vs H1 ⟨M1, st1, as, g, so1, ra, p1⟩ => by
  unfold range1F at p1
  split at p1
  · split at p1
    · rename_i j hj
      obtain ⟨x, rfl, rx⟩ := ra.one
      rw [rep_int_iff] at rx; subst rx
      exact ⟨j, rfl, by omega, by omega, p1 M1 H1 _ .refl so1 itr_rep⟩
    · exact p1.elim
  · exact p1.elim⟩
theorem g_range2 (h : PI X tg it (iRng2 (rdA X.K W fs))) : PI X tg it (rdI X.K W (callI range2F fs)) := h.imp fun σ H R' ⟨env, M, st, eo, so, p⟩ => ⟨env, M, st, eo, so, Post.imp (Post.bind p) fun vs H1 ⟨M1, st1, as, g, so1, ra, p1⟩ => by
  unfold range2F at p1
  split at p1
  · split at p1
    · rename_i i j hj
      obtain ⟨x, y, rfl, rx, ry⟩ := ra.two
      rw [rep_int_iff] at rx ry; subst rx ry
      exact ⟨i, j, rfl, by omega, p1 M1 H1 _ .refl so1 itr_rep⟩
    · exact p1.elim
  · exact p1.elim⟩
theorem g_zip (h : PI X tg it (RZ.iZipA X.K (rdA X.K W fs))) : PI X tg it (rdI X.K W (callI zipF fs)) := h.imp fun σ H R' ⟨env, M, st, eo, so, p⟩ => ⟨env, M, st, eo, so, Post.imp (Post.bind p) fun vs H1 ⟨M1, st1, as, g, so1, ra, p1⟩ => by
  unfold zipF at p1
  split at p1
  · obtain ⟨x, y, rfl, rx, ry⟩ := ra.two
    unfold Rep at rx ry
    obtain ⟨a, vs, rfl, f, q⟩ := rx
    obtain ⟨b, ws, rfl, f2, q2⟩ := ry
    exact ⟨a, b, vs, ws, rfl, .inr ⟨f.sq, f2.sq, p1 M1 H1 _ .refl so1 (itzt_rep f q f2 q2)⟩⟩
  · obtain ⟨x, y, rfl, rx, ry⟩ := ra.two
    unfold Rep at rx ry
    obtain ⟨a, vs, rfl, f, q⟩ := rx
    obtain ⟨b, ws, rfl, f2, q2⟩ := ry
    exact ⟨a, b, vs, ws, rfl, .inl ⟨f.sq, f2.sq, p1 M1 H1 _ .refl so1 (itz_rep (fun _ _ g => .of (g.keep _ _ f.1 f.2).1) q (fun _ _ g => .of (g.keep _ _ f2.1 f2.2).1) q2)⟩⟩
  · rename_i n m
    obtain ⟨x, y, rfl, rx, ry⟩ := ra.two
    unfold Rep at rx ry
    obtain ⟨a, rfl, ma⟩ := rx
    obtain ⟨b, rfl, mb⟩ := ry
    split at p1
    · rename_i ea eb
      obtain ⟨vs, hv, _⟩ := so1.at_ n a _ ma ea
      obtain ⟨ws, hw, _⟩ := so1.at_ m b _ mb eb
      exact ⟨a, b, vs, ws, rfl, .inl ⟨.of hv, .of hw, p1 M1 H1 _ .refl so1 (izm_rep ma mb)⟩⟩
    · exact p1.elim
  · exact p1.elim⟩
end

/-! ### for, while -/
/-- one turn's end -/
def turnS (s : S) (k : Env → Sto → S) : S := match s with
  | .nx e st => k e st
  | .cont e st => k e st
  | .brk e st => .nx e st
  | s => s
def loopF (g : TgF) (body : SvS) : List D → SvS
  | [], env, st => .nx env st
  | x :: xs, env, st => turnS (bindS (g x env st) env body) (loopF g body xs)
def loopG (g : TgF) (body : SvS) (nxt : Nat → Sto → Option (Option D)) : Nat → Nat → SvS
  | 0, i, env, st => match nxt i st with
    | some none => .nx env st
    | _ => .fail
  | k + 1, i, env, st => match nxt i st with
    | some none => .nx env st
    | some (some x) => turnS (bindS (g x env st) env body) (loopG g body nxt k (i + 1))
    | none => .fail
def forS (it : EvI) (g : TgF) (body : SvS) : SvS := fun env st => bindS (it env st) env fun I st1 => match I with
  | .frz xs => loopF g body xs env st1
  | .gen nxt k => loopG g body nxt k 0 env st1
section
variable {X : Cx} {W : WX} {g : TgF} {body : SvS} {K : PySem.W.Frag}
/-- the turn, for the loops' rules -/
theorem turn_rd {M0 M : Mem} {H0 H : Hp} {T : Ends} {env : Env} {st : Sto} {σ : L2.St} {d : D} {x : V} {k : Env → Sto → S} {N : L2.St → Hp → Prop} (gr : Grow M0 H0 M H) (eo : EnvOk K M H env σ) (so : StOk K M H st) (r : Rep K M H d x)
    (p : PostS K M H T W (turnS (bindS (g d env st) env body) k))
    (hN : ∀ env' M' H' st' σ', Grow M0 H0 M' H' → EnvOk K M' H' env' σ' → StOk K M' H' st' → PostS K M' H' T W (k env' st') → N σ' H') :
    rdG K W g x σ H fun σ2 H2 => rdS K W body { T with nx := N, ct := N, bk := T.nx } σ2 H2 := by
  refine ⟨d, env, M, st, r, eo, so, ?_⟩
  cases e : g d env st with
  | fail => rw [e] at p; exact p.elim
  | exc x st1 => rw [e] at p; exact fun M' H' c od g' so' h => p M' H' σ c od g' so' (eo.grow g') h
  | ok env1 st1 =>
    rw [e] at p
    intro M' H' σ' g' so' eo'
    refine ⟨env1, M', st1, eo', so', ?_⟩
    have p : PostS K M H T W (turnS (body env1 st1) k) := p
    unfold turnS at p
    cases e2 : body env1 st1 with
    | nx env2 st2 => rw [e2] at p; exact fun M2 H2 σ2 g2 so2 eo2 => hN env2 M2 H2 st2 σ2 ((gr.trans g').trans g2) eo2 so2 (PostS.mono (g'.trans g2) p)
    | cont env2 st2 => rw [e2] at p; exact fun M2 H2 σ2 g2 so2 eo2 => hN env2 M2 H2 st2 σ2 ((gr.trans g').trans g2) eo2 so2 (PostS.mono (g'.trans g2) p)
    | brk env2 st2 => rw [e2] at p; exact PostS.mono g' p
    | ret d2 st2 => rw [e2] at p; exact PostS.mono g' p
    | exc c env2 st2 => rw [e2] at p; exact PostS.mono g' p
    | fail => rw [e2] at p; exact p.elim
theorem rd_for {it : EvI} : ∀ T σ H, rdS K W (forS it g body) T σ H → tFor (rdI K W it) (rdG K W g) (rdS K W body) T σ H :=
  fun T σ H ⟨env, M, st, eo, so, p⟩ => ⟨env, M, st, eo, so, Post.imp (PostS.bind eo p) fun J H1 ⟨M1, st1, I, g1, so1, ri, p1⟩ => by
    cases I with
    | frz xs =>
      have p1 : PostS K M1 H1 T W (loopF g body xs env st1) := p1
      refine ⟨fun i m σ' H' => m = xs.length - i ∧ i ≤ xs.length ∧ ∃ env' M' st', Grow M1 H1 M' H' ∧ EnvOk K M' H' env' σ' ∧ StOk K M' H' st' ∧ PostS K M' H' T W (loopF g body (xs.drop i) env' st'),
        ⟨xs.length, by simp, Nat.zero_le _, env, M1, st1, .refl, eo.grow g1, so1, by simpa using p1⟩, ?_⟩
      rintro i m σ' H' ⟨rfl, hi, env', M', st', gr, eo', so', q⟩
      obtain ⟨r1, r2⟩ := ri i M' H' st' gr.k so'
      by_cases hlt : i < xs.length
      · have hd : xs[i]? = some xs[i] := List.getElem?_eq_getElem hlt
        obtain ⟨r3, r4⟩ := r2 _ hd
        refine .inr ⟨r3, _, fun σ2 H2 h => ⟨xs.length - (i + 1), by omega, rfl, hlt, h⟩, fun x H2 hy => ?_⟩
        obtain ⟨g2, so2, rx⟩ := r4 x H2 hy
        rw [List.drop_eq_getElem_cons hlt] at q
        exact turn_rd (gr.trans g2) (eo'.grow g2) so2 rx (PostS.mono g2 q) fun env3 M3 H3 st3 σ3 g3 eo3 so3 p3 => ⟨env3, M3, st3, g3, eo3, so3, p3⟩
      · have e : i = xs.length := by omega
        refine .inl ⟨r1 e, ?_⟩
        rw [e, List.drop_length] at q
        exact q M' H' σ' .refl so' eo'
    | gen nxt k =>
      have p1 : PostS K M1 H1 T W (loopG g body nxt k 0 env st1) := p1
      refine ⟨fun i m σ' H' => ∃ env' M' st', Grow M1 H1 M' H' ∧ EnvOk K M' H' env' σ' ∧ StOk K M' H' st' ∧ PostS K M' H' T W (loopG g body nxt m i env' st'),
        ⟨k, env, M1, st1, .refl, eo.grow g1, so1, p1⟩, ?_⟩
      rintro i m σ' H' ⟨env', M', st', gr, eo', so', q⟩
      obtain ⟨r1, r2⟩ := ri i M' H' st' gr.k so'
      cases m with
      | zero =>
        unfold loopG at q
        cases e : nxt i st' with
        | none => rw [e] at q; exact q.elim
        | some o =>
          cases o with
          | some x => rw [e] at q; exact q.elim
          | none => rw [e] at q; exact .inl ⟨r1 e, q M' H' σ' .refl so' eo'⟩
      | succ m =>
        unfold loopG at q
        cases e : nxt i st' with
        | none => rw [e] at q; exact q.elim
        | some o =>
          cases o with
          | none => rw [e] at q; exact .inl ⟨r1 e, q M' H' σ' .refl so' eo'⟩
          | some d =>
            rw [e] at q
            obtain ⟨r3, r4⟩ := r2 _ e
            refine .inr ⟨r3, _, fun σ2 H2 h => ⟨m, by omega, h⟩, fun x H2 hy => ?_⟩
            obtain ⟨g2, so2, rx⟩ := r4 x H2 hy
            exact turn_rd (gr.trans g2) (eo'.grow g2) so2 rx (PostS.mono g2 q) fun env3 M3 H3 st3 σ3 g3 eo3 so3 p3 => ⟨env3, M3, st3, g3, eo3, so3, p3⟩⟩
theorem s_for {it : EvI} {s : Stmt} (h : PS X s (tFor (rdI X.K W it) (rdG X.K W g) (rdS X.K W body))) : PS X s (rdS X.K W (forS it g body)) := h.imp rd_for
def whileF (t : EvB) (body : SvS) : Nat → SvS
  | 0, _, _ => .fail
  | k + 1, env, st => bindS (t env st) env fun b st1 => if b = true then turnS (body env st1) (whileF t body k) else .nx env st1
theorem s_while {t : EvB} {s : Stmt} (n : Nat) (h : PS X s (tWhile (rdB X.K W t) (rdS X.K W body))) : PS X s (rdS X.K W (whileF t body n)) := h.imp fun T σ H ⟨env, M, st, eo, so, p⟩ => by
  refine ⟨fun m σ' H' => ∃ env' M' st', EnvOk X.K M' H' env' σ' ∧ StOk X.K M' H' st' ∧ PostS X.K M' H' T W (whileF t body m env' st'), ⟨n, env, M, st, eo, so, p⟩, ?_⟩
  rintro m σ' H' ⟨env', M', st', eo', so', q⟩
  cases m with
  | zero => exact q.elim
  | succ m =>
    refine ⟨env', M', st', eo', so', Post.imp (PostS.bind (rep := fun _ _ a b => a = b) eo' q) fun b H1 ⟨M1, st1, a, g1, so1, ra, p1⟩ => ?_⟩
    subst ra
    cases a with
    | false => exact iteF (p1 M1 H1 σ' .refl so1 (eo'.grow g1))
    | true =>
      refine iteT ⟨fun σ2 H2 => ∃ env' M' st', EnvOk X.K M' H2 env' σ2 ∧ StOk X.K M' H2 st' ∧ PostS X.K M' H2 T W (whileF t body m env' st'), fun σ2 H2 h => ⟨m, by omega, h⟩, env', M1, st1, eo'.grow g1, so1, ?_⟩
      have p1 : PostS X.K M1 H1 T W (turnS (body env' st1) (whileF t body m)) := p1
      unfold turnS at p1
      cases e2 : body env' st1 with
      | nx env2 st2 => rw [e2] at p1; exact fun M2 H2 σ2 g2 so2 eo2 => ⟨env2, M2, st2, eo2, so2, PostS.mono g2 p1⟩
      | cont env2 st2 => rw [e2] at p1; exact fun M2 H2 σ2 g2 so2 eo2 => ⟨env2, M2, st2, eo2, so2, PostS.mono g2 p1⟩
      | brk env2 st2 => rw [e2] at p1; exact p1
      | ret d2 st2 => rw [e2] at p1; exact p1
      | exc c env2 st2 => rw [e2] at p1; exact p1
      | fail => rw [e2] at p1; exact p1.elim
end
end G

namespace G
open PySem PySem.Spec PyProof.Rows L2

/-! ### a comprehension's targets -/
inductive Tg where
  | nm (i : Nat) | tp (ts : List Tg)
mutual
def Tg.raw (K : PySem.W.Frag) : Tg → TG
  | .nm i => gName i
  | .tp ts => gTup K ts.length (Tg.raws K ts)
def Tg.raws (K : PySem.W.Frag) : List Tg → TGs
  | [] => gNil
  | t :: ts => gCons (Tg.raw K t) (Tg.raws K ts)
end
mutual
def Tg.set : Tg → D → Env → Option Env
  | .nm i, d, env => some (env.set i (some d))
  | .tp ts, .tup xs, env => Tg.sets ts xs env
  | .tp _, _, _ => none
def Tg.sets : List Tg → List D → Env → Option Env
  | [], [], env => some env
  | t :: ts, x :: xs, env => (Tg.set t x env).bind (Tg.sets ts xs)
  | _, _, _ => none
end
mutual
def Tg.names : Tg → List Nat
  | .nm i => [i]
  | .tp ts => Tg.namess ts
def Tg.namess : List Tg → List Nat
  | [] => []
  | t :: ts => Tg.names t ++ Tg.namess ts
end
theorem Tg.sets_len : ∀ {ts : List Tg} {xs : List D} {env env' : Env}, Tg.sets ts xs env = some env' → xs.length = ts.length
  | [], [], _, _, _ => rfl
  | t :: ts, x :: xs, env, env', h => by
    unfold Tg.sets at h
    obtain ⟨e1, _, h2⟩ := Option.bind_eq_some_iff.mp h
    simp [Tg.sets_len h2]
  | [], _ :: _, _, _, h => by unfold Tg.sets at h; cases h
  | _ :: _, [], _, _, h => by unfold Tg.sets at h; cases h
theorem wipe_in {σ : L2.St} {i : Nat} : ∀ {vs : List Nat}, i ∈ vs → (L2.wipe σ vs)[i]? = if i < σ.length then some none else none
  | v :: vs, h => by
    unfold L2.wipe
    by_cases e : v = i
    · subst e
      by_cases hv : v < σ.length
      · rw [if_pos hv, List.getElem?_set_self (by rw [wipe_length]; exact hv)]
      · rw [if_neg hv, List.getElem?_eq_none (by rw [List.length_set, wipe_length]; omega)]
    · rw [List.getElem?_set_ne e]
      exact wipe_in ((List.mem_cons.mp h).resolve_left fun z => e z.symm)
theorem wipe_set {σ : L2.St} {i : Nat} {o : Option V} {vs : List Nat} (h : i ∈ vs) : L2.wipe (σ.set i o) vs = L2.wipe σ vs := by
  apply List.ext_getElem?
  intro j
  by_cases hj : j ∈ vs
  · rw [wipe_in hj, wipe_in hj, List.length_set]
  · rw [wipe_out hj, wipe_out hj, List.getElem?_set_ne]
    rintro rfl; exact hj h
theorem wipe_wipe {σ : L2.St} {vs : List Nat} : L2.wipe (L2.wipe σ vs) vs = L2.wipe σ vs := by
  apply List.ext_getElem?
  intro j
  by_cases hj : j ∈ vs
  · rw [wipe_in hj, wipe_in hj, wipe_length]
  · rw [wipe_out hj]
section
variable {K : PySem.W.Frag} {M : Mem} {H : Hp}
mutual
theorem Tg.rd : ∀ {t : Tg} {d : D} {env env' : Env} {v : V} {σ : L2.St} {Q : L2.St → Hp → Prop}, Tg.set t d env = some env' → Rep K M H d v → EnvOk K M H env σ →
    (∀ σ', EnvOk K M H env' σ' → (∀ vs : List Nat, (∀ i ∈ Tg.names t, i ∈ vs) → L2.wipe σ' vs = L2.wipe σ vs) → Q σ' H) → Tg.raw K t v σ H Q
  | .nm i, d, env, env', v, σ, Q, h, r, eo, q => by
    unfold Tg.set at h
    cases h
    exact q _ (eo.set i r) fun vs hv => wipe_set (hv i (by simp [Tg.names]))
  | .tp ts, .tup xs, env, env', v, σ, Q, h, r, eo, q => by
    unfold Tg.set at h
    unfold Rep at r
    obtain ⟨a, vs, rfl, f, rl⟩ := r
    unfold Tg.raw
    exact ⟨a, vs, rfl, f.sq, by rw [← rl.length]; exact Tg.sets_len h, Tg.rds h rl eo fun σ' eo' hw => q σ' eo' fun vs hv => hw vs (by simpa [Tg.names] using hv)⟩
  | .tp _, .non, _, _, _, _, _, h, _, _, _ => by unfold Tg.set at h; cases h
  | .tp _, .bl _, _, _, _, _, _, h, _, _, _ => by unfold Tg.set at h; cases h
  | .tp _, .int _, _, _, _, _, _, h, _, _, _ => by unfold Tg.set at h; cases h
  | .tp _, .str _, _, _, _, _, _, h, _, _, _ => by unfold Tg.set at h; cases h
  | .tp _, .raw _, _, _, _, _, _, h, _, _, _ => by unfold Tg.set at h; cases h
  | .tp _, .dic, _, _, _, _, _, h, _, _, _ => by unfold Tg.set at h; cases h
  | .tp _, .lst _, _, _, _, _, _, h, _, _, _ => by unfold Tg.set at h; cases h
  | .tp _, .slo _, _, _, _, _, _, h, _, _, _ => by unfold Tg.set at h; cases h
  | .tp _, .mut _, _, _, _, _, _, h, _, _, _ => by unfold Tg.set at h; cases h
theorem Tg.rds : ∀ {ts : List Tg} {ds : List D} {env env' : Env} {vs : List V} {σ : L2.St} {Q : L2.St → Hp → Prop}, Tg.sets ts ds env = some env' → RepL K M H ds vs → EnvOk K M H env σ →
    (∀ σ', EnvOk K M H env' σ' → (∀ ws : List Nat, (∀ i ∈ Tg.namess ts, i ∈ ws) → L2.wipe σ' ws = L2.wipe σ ws) → Q σ' H) → Tg.raws K ts vs σ H Q
  | [], [], env, env', vs, σ, Q, h, r, eo, q => by
    unfold Tg.sets at h; cases h
    unfold RepL at r; subst r
    unfold Tg.raws
    exact ⟨rfl, q σ eo fun _ _ => rfl⟩
  | t :: ts, x :: xs, env, env', vs, σ, Q, h, r, eo, q => by
    unfold Tg.sets at h
    obtain ⟨e1, h1, h2⟩ := Option.bind_eq_some_iff.mp h
    unfold RepL at r
    obtain ⟨v, rr, rfl, r1, r2⟩ := r
    unfold Tg.raws
    refine ⟨v, rr, rfl, Tg.rd h1 r1 eo fun σ1 eo1 w1 => Tg.rds h2 r2 eo1 fun σ2 eo2 w2 => q σ2 eo2 fun ws hw => ?_⟩
    rw [w2 ws (fun i hi => hw i (by simp [Tg.namess, hi])), w1 ws (fun i hi => hw i (by simp [Tg.namess, hi]))]
  | [], _ :: _, _, _, _, _, _, h, _, _, _ => by unfold Tg.sets at h; cases h
  | _ :: _, [], _, _, _, _, _, h, _, _, _ => by unfold Tg.sets at h; cases h
end
end
/-- as a target of a for -/
def tgT (t : Tg) : TgF := fun d env st => match Tg.set t d env with
  | some env1 => .ok env1 st
  | none => .fail
theorem t_tg {X : Cx} {W : WX} {t : Tg} {e : Expr} (h : PG X e (Tg.raw X.K t)) : PG X e (rdG X.K W (tgT t)) := h.imp fun v σ H Q ⟨d, env, M, st, r, eo, so, p⟩ => by
  unfold tgT at p
  split at p
  · rename_i env1 e
    exact Tg.rd e r eo fun σ' eo' _ => p M H σ' .refl so eo'
  · exact p.elim

/-! ### comprehensions -/
def noX {α : Type} (r : R α) : R α := match r with
  | .ok a st => .ok a st
  | _ => .fail
/-- one element's turn -/
def turnC (t : Tg) (tt : EvB) (fe : EvE) (envw : Env) (x : D) (st : Sto) (acc : List D) (k : Sto → List D → R (List D)) : R (List D) := match t.set x envw with
  | none => .fail
  | some env1 => (noX (tt env1 st)).bind fun b st1 => if b = true then (noX (fe env1 st1)).bind fun y st2 => if acc.length < 16777216 then k st2 (acc ++ [y]) else .fail else k st1 acc
def lcF (t : Tg) (tt : EvB) (fe : EvE) (envw : Env) : List D → Sto → List D → R (List D)
  | [], st, acc => .ok acc st
  | x :: xs, st, acc => turnC t tt fe envw x st acc (lcF t tt fe envw xs)
def lcG (t : Tg) (tt : EvB) (fe : EvE) (envw : Env) (nxt : Nat → Sto → Option (Option D)) : Nat → Nat → Sto → List D → R (List D)
  | 0, i, st, acc => match nxt i st with
    | some none => .ok acc st
    | _ => .fail
  | k + 1, i, st, acc => match nxt i st with
    | some none => .ok acc st
    | some (some x) => turnC t tt fe envw x st acc (lcG t tt fe envw nxt k (i + 1))
    | none => .fail
def lcL (it : EvI) (t : Tg) (tt : EvB) (fe : EvE) (vs : List Nat) : EvA := fun env st => (it env st).bind fun I st1 => match I with
  | .frz xs => lcF t tt fe (wipeE env vs) xs st1 []
  | .gen nxt k => lcG t tt fe (wipeE env vs) nxt k 0 st1 []
def lcE (it : EvI) (t : Tg) (tt : EvB) (fe : EvE) (vs : List Nat) : EvE := fun env st => (lcL it t tt fe vs env st).bind fun xs st1 => .ok (.lst xs) st1
/-- .. to be changed later -/
def lcME (it : EvI) (t : Tg) (tt : EvB) (fe : EvE) (vs : List Nat) : EvE := fun env st => (lcL it t tt fe vs env st).bind fun xs st1 => .ok (.mut st1.length) (st1 ++ [.lst xs])
abbrev W0 : WX := fun _ _ _ _ => False
def yesB : EvB := fun _ st => .ok true st
theorem noX_ok {α : Type} {r : R α} {a : α} {st : Sto} (h : noX r = .ok a st) : r = .ok a st := by
  cases r with
  | ok b s => exact h
  | exc e s => cases h
  | fail => cases h
/-- the memory with D being filled -/
def Mem.hold (M : Mem) (a : Addr) : Mem := ⟨M.m, a :: M.p, M.f⟩
def Mem.free (M : Mem) (p : List Addr) : Mem := ⟨M.m, p, M.f⟩
section
variable {K : PySem.W.Frag} {M M' : Mem} {H H' : Hp} {st : Sto}
theorem StOk.hold (so : StOk K M H st) {a : Addr} {vs : List V} (h : H a = none) : StOk K (M.hold a) (upd H a (.lst vs)) st ∧ Keep M H (M.hold a) (upd H a (.lst vs)) := by
  have k : Keep M H (M.hold a) (upd H a (.lst vs)) := ⟨fun _ _ h => h, fun b o e n => by
    have ne : b ≠ a := ne_of_none e h
    exact ⟨by rw [upd_ne ne]; exact e, n.1, fun z => (List.mem_cons.mp z).elim ne n.2⟩, rfl⟩
  refine ⟨⟨so.len, so.nd, fun b hb => ?_, fun n b mo e1 e2 => ?_⟩, k⟩
  · rcases List.mem_cons.mp hb with rfl | hb
    · exact ⟨(so.notin h).1, _, upd_same⟩
    · obtain ⟨h1, u, e⟩ := so.pd b hb
      exact ⟨h1, u, by rw [upd_ne (ne_of_none e h)]; exact e⟩
  · have q := so.at_ n b mo e1 e2
    obtain ⟨u, e⟩ := q.there
    exact q.kp k (upd_ne (ne_of_none e h))
/-- what is held is filled further -/
theorem Keep.fill {a : Addr} {o : HO} (h : a ∈ M.p) : Keep M H M (upd H a o) := ⟨fun _ _ h => h, fun b u e n => ⟨by rw [upd_ne (fun z : b = a => n.2 (by rw [z]; exact h))]; exact e, n⟩, rfl⟩
theorem StOk.fill (so : StOk K M H st) {a : Addr} {o : List V} (h : a ∈ M.p) : StOk K M (upd H a (.lst o)) st := by
  have k : Keep M H M (upd H a (.lst o)) := .fill h
  refine ⟨so.len, so.nd, fun b hb => ?_, fun n b mo e1 e2 => ?_⟩
  · by_cases e : b = a
    · subst e; exact ⟨(so.pd b hb).1, _, upd_same⟩
    · obtain ⟨h1, u, e'⟩ := so.pd b hb
      exact ⟨h1, u, by rw [upd_ne e]; exact e'⟩
  · have q := so.at_ n b mo e1 e2
    have ne : b ≠ a := fun z => (so.pd a h).1 (by rw [← z]; exact List.mem_of_getElem? e1)
    exact q.kp k (upd_ne ne)
theorem Keep.free {p : List Addr} (h : ∀ a ∈ p, a ∈ M.p) : Keep M H (M.free p) H := ⟨fun _ _ h => h, fun b u e n => ⟨e, n.1, fun z => n.2 (h b z)⟩, rfl⟩
theorem StOk.free (so : StOk K M H st) {p : List Addr} (h : ∀ a ∈ p, a ∈ M.p) : StOk K (M.free p) H st := by
  have k : Keep M H (M.free p) H := .free h
  refine ⟨so.len, so.nd, fun b hb => so.pd b (h b hb), fun n b mo e1 e2 => ?_⟩
  have q := so.at_ n b mo e1 e2
  exact q.kp k rfl
end
section
variable {X : Cx} {W : WX} {K : PySem.W.Frag} {t : Tg} {tt : EvB} {fe : EvE}
/-- what stands between two turns: the list at L is being filled -/
structure Mid (K : PySem.W.Frag) (M1 : Mem) (H1 : Hp) (L : Addr) (M' : Mem) (H' : Hp) (st' : Sto) (acc : List D) : Prop where
  kp : Keep M1 H1 M' H'
  p : M'.p = L :: M1.p
  prot : ∀ a ∈ M1.p, H' a = H1 a
  new : H1 L = none
  so1 : ∀ a ∈ M1.p, ∃ o, H1 a = some o
  so : StOk K M' H' st'
  at_ : ∃ vs, H' L = some (.lst vs) ∧ RepL K M' H' acc vs
theorem Mid.grow {M1 : Mem} {H1 : Hp} {L : Addr} {M' M2 : Mem} {H' H2 : Hp} {st' st2 : Sto} {acc : List D} (m : Mid K M1 H1 L M' H' st' acc) (g : Grow M' H' M2 H2) (so : StOk K M2 H2 st2) : Mid K M1 H1 L M2 H2 st2 acc :=
  ⟨m.kp.trans g.k, g.pp.trans m.p, fun a ha => (g.prot a (by rw [m.p]; exact List.mem_cons_of_mem _ ha)).trans (m.prot a ha), m.new, m.so1, so, let ⟨vs, e, r⟩ := m.at_; ⟨vs, (g.prot L (by rw [m.p]; exact List.mem_cons_self)).trans e, r.grow g⟩⟩
theorem Mid.add {M1 : Mem} {H1 : Hp} {L : Addr} {M' : Mem} {H' : Hp} {st' : Sto} {acc : List D} {d : D} {v : V} (m : Mid K M1 H1 L M' H' st' acc) (r : Rep K M' H' d v) {vs : List V} (e : H' L = some (.lst vs)) : Mid K M1 H1 L M' (upd H' L (.lst (vs ++ [v]))) st' (acc ++ [d]) := by
  have hL : L ∈ M'.p := by rw [m.p]; exact List.mem_cons_self
  obtain ⟨ws, e', rl⟩ := m.at_
  rw [e] at e'; cases e'
  have k : Keep M' H' M' (upd H' L (.lst (vs ++ [v]))) := .fill hL
  refine ⟨m.kp.trans k, m.p, fun a ha => ?_, m.new, m.so1, m.so.fill hL, _, upd_same, (rl.kp k).append (.cons (r.kp k) .nil)⟩
  rw [upd_ne]
  · exact m.prot a ha
  · rintro rfl
    obtain ⟨o, z⟩ := m.so1 a ha
    rw [m.new] at z; cases z
theorem Mid.fin {M1 : Mem} {H1 : Hp} {L : Addr} {M' : Mem} {H' : Hp} {st' : Sto} {acc : List D} (m : Mid K M1 H1 L M' H' st' acc) :
    Grow M1 H1 (M'.free M1.p) H' ∧ StOk K (M'.free M1.p) H' st' ∧ (M'.free M1.p).no L ∧ ∃ vs, H' L = some (.lst vs) ∧ RepL K (M'.free M1.p) H' acc vs := by
  have sub : ∀ a ∈ M1.p, a ∈ M'.p := fun a ha => by rw [m.p]; exact List.mem_cons_of_mem _ ha
  have k : Keep M' H' (M'.free M1.p) H' := .free sub
  obtain ⟨vs, e, r⟩ := m.at_
  refine ⟨⟨(m.kp.trans k).pre, (m.kp.trans k).keep, rfl, m.prot, (m.kp.trans k).ff⟩, m.so.free sub, ⟨(m.so.pd L (by rw [m.p]; exact List.mem_cons_self)).1, fun z => ?_⟩, vs, e, r.kp k⟩
  obtain ⟨o, q⟩ := m.so1 L z
  rw [m.new] at q; cases q
/-- one turn -/
theorem turnC_rd {M1 : Mem} {H1 : Hp} {L : Addr} {M' : Mem} {H' : Hp} {st' : Sto} {acc : List D} {envw : Env} {σw : L2.St} {vs : List Nat} {x : D} {u : V} {k : Sto → List D → R (List D)} {P : R (List D) → Prop} {N : Hp → Prop}
    (m : Mid K M1 H1 L M' H' st' acc) (eo : EnvOk K M' H' envw (L2.wipe σw vs)) (r : Rep K M' H' x u) (hv : ∀ i ∈ Tg.names t, i ∈ vs)
    (hf : ¬ P .fail) (p : P (turnC t tt fe envw x st' acc k))
    (hN : ∀ M2 H2 st2 acc2, Keep M' H' M2 H2 → Mid K M1 H1 L M2 H2 st2 acc2 → P (k st2 acc2) → N H2) :
    Tg.raw K t u (L2.wipe σw vs) H' fun σ2 H2 => L2.wipe σ2 vs = L2.wipe σw vs ∧ rdB K W0 tt σ2 H2 fun b H3 =>
      if b = true then rdE K W0 fe σ2 H3 fun y H4 => ∃ acc, H4 L = some (.lst acc) ∧ acc.length < sizeLine ∧ N (upd H4 L (.lst (acc ++ [y]))) else N H3 := by
  unfold turnC at p
  cases e : t.set x envw with
  | none => rw [e] at p; exact absurd p hf
  | some env1 =>
    rw [e] at p
    refine Tg.rd e r eo fun σ' eo' hw => ⟨(hw vs hv).trans wipe_wipe, env1, M', st', eo', m.so, ?_⟩
    cases e1 : tt env1 st' with
    | exc x s => simp only [e1, noX, R.bind] at p; exact absurd p hf
    | fail => simp only [e1, noX, R.bind] at p; exact absurd p hf
    | ok b st1 =>
      simp only [e1, noX, R.bind] at p
      intro M2 H2 b' g2 so2 hb
      subst hb
      cases b with
      | false => exact iteF (hN M2 H2 st1 acc g2.k (m.grow g2 so2) (by simpa using p))
      | true =>
        simp only [if_true] at p
        refine iteT ⟨env1, M2, st1, eo'.grow g2, so2, ?_⟩
        cases e2 : fe env1 st1 with
        | exc x s => rw [e2] at p; exact absurd p hf
        | fail => rw [e2] at p; exact absurd p hf
        | ok y st2 =>
          rw [e2] at p
          intro M3 H3 yv g3 so3 ry
          have m3 := (m.grow g2 so2).grow g3 so3
          obtain ⟨vs3, e3, r3⟩ := m3.at_
          simp only at p
          by_cases hl : acc.length < 16777216
          · rw [if_pos hl] at p
            have kf : Keep M3 H3 M3 (upd H3 L (.lst (vs3 ++ [yv]))) := .fill (by rw [m3.p]; exact List.mem_cons_self)
            refine ⟨vs3, e3, by rw [← r3.length, sizeLine_eq]; exact hl, hN M3 _ st2 (acc ++ [y]) ((g2.k.trans g3.k).trans kf) (m3.add ry e3) p⟩
          · rw [if_neg hl] at p; exact absurd p hf
theorem Mid.finM {M1 : Mem} {H1 : Hp} {L : Addr} {M' : Mem} {H' : Hp} {st' : Sto} {acc : List D} (m : Mid K M1 H1 L M' H' st' acc) :
    Grow M1 H1 ⟨M'.m ++ [L], M1.p, M'.f⟩ H' ∧ StOk K ⟨M'.m ++ [L], M1.p, M'.f⟩ H' (st' ++ [MO.lst acc]) ∧ Rep K ⟨M'.m ++ [L], M1.p, M'.f⟩ H' (.mut st'.length) (.ref L) := by
  have hL : L ∈ M'.p := by rw [m.p]; exact List.mem_cons_self
  have sub : ∀ a ∈ M1.p, a ∈ M'.p := fun a ha => by rw [m.p]; exact List.mem_cons_of_mem _ ha
  have nL : L ∉ M'.m := (m.so.pd L hL).1
  have k : Keep M' H' ⟨M'.m ++ [L], M1.p, M'.f⟩ H' := ⟨fun n a e => by
    show (M'.m ++ [L])[n]? = some a
    rw [List.getElem?_append_left (List.getElem?_eq_some_iff.mp e).1]; exact e, fun b u e n => ⟨e, by
      show b ∉ M'.m ++ [L]
      intro z
      rcases List.mem_append.mp z with z | z
      · exact n.1 z
      · simp at z; subst z; exact n.2 hL, fun z => n.2 (sub b z)⟩, rfl⟩
  obtain ⟨vs, e, r⟩ := m.at_
  refine ⟨⟨(m.kp.trans k).pre, (m.kp.trans k).keep, rfl, m.prot, (m.kp.trans k).ff⟩, ⟨by simp [m.so.len], ?_, fun a ha => ⟨fun z => ?_, (m.so.pd a (sub a ha)).2⟩, fun n a mo e1 e2 => ?_⟩, ?_⟩
  · show (M'.m ++ [L]).Nodup
    rw [List.nodup_append]
    exact ⟨m.so.nd, by simp, fun a ha b hb => by simp at hb; subst hb; rintro rfl; exact nL ha⟩
  · have z : a ∈ M'.m ++ [L] := z
    rcases List.mem_append.mp z with z | z
    · exact (m.so.pd a (sub a ha)).1 z
    · simp at z; subst z
      obtain ⟨o, q⟩ := m.so1 a ha
      rw [m.new] at q; cases q
  · have e1 : (M'.m ++ [L])[n]? = some a := e1
    by_cases hn : n < M'.m.length
    · rw [List.getElem?_append_left hn] at e1
      rw [List.getElem?_append_left (by rw [← m.so.len]; exact hn)] at e2
      have q := m.so.at_ n a mo e1 e2
      exact q.kp k rfl
    · have hn' : n = M'.m.length := by
        have := (List.getElem?_eq_some_iff.mp e1).1
        simp at this; omega
      subst hn'
      rw [List.getElem?_append_right (Nat.le_refl _)] at e1
      rw [m.so.len, List.getElem?_append_right (Nat.le_refl _)] at e2
      simp at e1 e2
      subst e1 e2
      exact ⟨vs, e, r.kp k⟩
  · unfold Rep
    refine ⟨L, rfl, ?_⟩
    show (M'.m ++ [L])[st'.length]? = some L
    rw [← m.so.len, List.getElem?_append_right (Nat.le_refl _)]; simp
/-- a comprehension's reading, its end told by fin -/
theorem rd_lc0 {it : EvI} {vs : List Nat} {fin : List D → Sto → R D} (hv : ∀ i ∈ Tg.names t, i ∈ vs)
    (hfin : ∀ {M1 : Mem} {H1 : Hp} {L : Addr} {M' : Mem} {H' : Hp} {st' : Sto} {acc : List D} {Q : VK} {E : XK}, Mid K M1 H1 L M' H' st' acc → Post K (Rep K) M1 H1 Q E (fin acc st') → Q (.ref L) H') :
    ∀ σ H Q, rdE K W (fun env st => (lcL it t tt fe vs env st).bind fin) σ H Q → tLc (rdI K W it) (Tg.raw K t) (rdB K W0 tt) (rdE K W0 fe) vs σ H Q :=
  fun σ H Q ⟨env, M, st, eo, so, p⟩ => ⟨env, M, st, eo, so, by
    have p : Post K (Rep K) M H Q (WE W σ) ((it env st).bind fun I st1 => (match I with
      | .frz xs => lcF t tt fe (wipeE env vs) xs st1 []
      | .gen nxt k => lcG t tt fe (wipeE env vs) nxt k 0 st1 []).bind fin) := by
      have p : Post K (Rep K) M H Q (WE W σ) ((lcL it t tt fe vs env st).bind fin) := p
      unfold lcL at p
      cases e : it env st with
      | ok I st1 => rw [e] at p; exact p
      | exc x s => rw [e] at p; exact p
      | fail => rw [e] at p; exact p
    refine Post.imp (Post.bind (rep := ItRep K) p) fun J H1 ⟨M1, st1, I, g1, so1, ri, p1⟩ => ?_
    intro L hL
    obtain ⟨so2, k2⟩ := so1.hold (vs := []) hL
    have m0 : Mid K M1 H1 L (M1.hold L) (upd H1 L (.lst [])) st1 [] := ⟨k2, rfl, fun a ha => by
      obtain ⟨_, o, e⟩ := so1.pd a ha
      rw [upd_ne (ne_of_none e hL)], hL, fun a ha => (let ⟨o, e⟩ := (so1.pd a ha).2; ⟨_, e⟩), so2, [], upd_same, .nil⟩
    have eo1 : EnvOk K (M1.hold L) (upd H1 L (.lst [])) (wipeE env vs) (L2.wipe σ vs) := ((eo.grow g1).kp k2).wipe vs
    cases I with
    | frz xs =>
      have p1 : Post K (Rep K) M1 H1 Q (WE W σ) ((lcF t tt fe (wipeE env vs) xs st1 []).bind fin) := p1
      refine ⟨fun i m H' => m = xs.length - i ∧ i ≤ xs.length ∧ ∃ M' st' acc, Mid K M1 H1 L M' H' st' acc ∧ EnvOk K M' H' (wipeE env vs) (L2.wipe σ vs) ∧ Post K (Rep K) M1 H1 Q (WE W σ) ((lcF t tt fe (wipeE env vs) (xs.drop i) st' acc).bind fin),
        ⟨xs.length, by simp, Nat.zero_le _, _, _, _, m0, eo1, by simpa using p1⟩, ?_⟩
      rintro i m H' ⟨rfl, hi, M', st', acc, md, eo', q⟩
      obtain ⟨r1, r2⟩ := ri i M' H' st' md.kp md.so
      by_cases hlt : i < xs.length
      · have hd : xs[i]? = some xs[i] := List.getElem?_eq_getElem hlt
        obtain ⟨r3, r4⟩ := r2 _ hd
        refine .inr ⟨r3, _, fun H2 h => ⟨xs.length - (i + 1), by omega, rfl, hlt, h⟩, fun x H2 hy => ?_⟩
        obtain ⟨g2, so2, rx⟩ := r4 x H2 hy
        rw [List.drop_eq_getElem_cons hlt] at q
        exact turnC_rd (P := fun r => Post K (Rep K) M1 H1 Q (WE W σ) (r.bind fin)) (md.grow g2 so2) (eo'.grow g2) rx hv (fun z => z) q fun M3 H3 st3 acc3 k3 m3 p3 => ⟨M3, st3, acc3, m3, (eo'.grow g2).kp k3, p3⟩
      · have e : i = xs.length := by omega
        refine .inl ⟨r1 e, ?_⟩
        rw [e, List.drop_length] at q
        exact hfin md q
    | gen nxt k =>
      have p1 : Post K (Rep K) M1 H1 Q (WE W σ) ((lcG t tt fe (wipeE env vs) nxt k 0 st1 []).bind fin) := p1
      refine ⟨fun i m H' => ∃ M' st' acc, Mid K M1 H1 L M' H' st' acc ∧ EnvOk K M' H' (wipeE env vs) (L2.wipe σ vs) ∧ Post K (Rep K) M1 H1 Q (WE W σ) ((lcG t tt fe (wipeE env vs) nxt m i st' acc).bind fin),
        ⟨k, _, _, _, m0, eo1, p1⟩, ?_⟩
      rintro i m H' ⟨M', st', acc, md, eo', q⟩
      obtain ⟨r1, r2⟩ := ri i M' H' st' md.kp md.so
      cases m with
      | zero =>
        unfold lcG at q
        cases e : nxt i st' with
        | none => rw [e] at q; exact q.elim
        | some o =>
          cases o with
          | some x => rw [e] at q; exact q.elim
          | none => rw [e] at q; exact .inl ⟨r1 e, hfin md q⟩
      | succ m =>
        unfold lcG at q
        cases e : nxt i st' with
        | none => rw [e] at q; exact q.elim
        | some o =>
          cases o with
          | none => rw [e] at q; exact .inl ⟨r1 e, hfin md q⟩
          | some d =>
            rw [e] at q
            obtain ⟨r3, r4⟩ := r2 _ e
            refine .inr ⟨r3, _, fun H2 h => ⟨m, by omega, h⟩, fun x H2 hy => ?_⟩
            obtain ⟨g2, so2, rx⟩ := r4 x H2 hy
            exact turnC_rd (P := fun r => Post K (Rep K) M1 H1 Q (WE W σ) (r.bind fin)) (md.grow g2 so2) (eo'.grow g2) rx hv (fun z => z) q fun M3 H3 st3 acc3 k3 m3 p3 => ⟨M3, st3, acc3, m3, (eo'.grow g2).kp k3, p3⟩⟩
theorem rd_lc {it : EvI} {vs : List Nat} (hv : ∀ i ∈ Tg.names t, i ∈ vs) : ∀ σ H Q, rdE K W (lcE it t tt fe vs) σ H Q → tLc (rdI K W it) (Tg.raw K t) (rdB K W0 tt) (rdE K W0 fe) vs σ H Q :=
  rd_lc0 hv fun m q => by
    obtain ⟨f1, f2, f3, ws, f4, f5⟩ := m.fin
    exact q _ _ _ f1 f2 (by unfold Rep; exact ⟨_, ws, rfl, ⟨f4, f3⟩, f5⟩)
theorem rd_lcM {it : EvI} {vs : List Nat} (hv : ∀ i ∈ Tg.names t, i ∈ vs) : ∀ σ H Q, rdE K W (lcME it t tt fe vs) σ H Q → tLc (rdI K W it) (Tg.raw K t) (rdB K W0 tt) (rdE K W0 fe) vs σ H Q :=
  rd_lc0 hv fun m q => by
    obtain ⟨f1, f2, f3⟩ := m.finM
    exact q _ _ _ f1 f2 f3
end
section
variable {X : Cx} {W : WX}
theorem g_yes : PTs X [] (rdB X.K W0 yesB) := ⟨fun pins s σ H Q I ⟨env, M, st, eo, so, p⟩ => pts_nil.run pins s σ H Q I (p M H true .refl so rfl)⟩
theorem g_ifs {c : Expr} {t : EvB} (h : PT X c (rdB X.K W0 t)) : PTs X [c] (rdB X.K W0 t) := pts_one h
end
end G

namespace G
open PySem PySem.Spec PyProof.Rows L2

section
variable {X : Cx} {W : WX}
/-- name = [..] -/
theorem s_setLc {i : Nat} {it : EvI} {t : Tg} {tt : EvB} {fe : EvE} {vs : List Nat} {s : Stmt} (hv : ∀ i ∈ Tg.names t, i ∈ vs)
    (h : PS X s (tAsg (tLc (rdI X.K W it) (Tg.raw X.K t) (rdB X.K W0 tt) (rdE X.K W0 fe) vs) (gName i))) : PS X s (rdS X.K W (asgS (lcE it t tt fe vs) (nameT i))) :=
  h.imp fun T σ H ⟨env, M, st, eo, so, p⟩ => rd_lc hv σ H _ ⟨env, M, st, eo, so, Post.imp (PostS.bind (rep := Rep X.K) eo p) fun x H1 ⟨M1, st1, d, g, so1, ra, p1⟩ => p1 M1 H1 _ .refl so1 ((eo.grow g).set i ra)⟩
theorem s_setLcM {i : Nat} {it : EvI} {t : Tg} {tt : EvB} {fe : EvE} {vs : List Nat} {s : Stmt} (hv : ∀ i ∈ Tg.names t, i ∈ vs)
    (h : PS X s (tAsg (tLc (rdI X.K W it) (Tg.raw X.K t) (rdB X.K W0 tt) (rdE X.K W0 fe) vs) (gName i))) : PS X s (rdS X.K W (asgS (lcME it t tt fe vs) (nameT i))) :=
  h.imp fun T σ H ⟨env, M, st, eo, so, p⟩ => rd_lcM hv σ H _ ⟨env, M, st, eo, so, Post.imp (PostS.bind (rep := Rep X.K) eo p) fun x H1 ⟨M1, st1, d, g, so1, ra, p1⟩ => p1 M1 H1 _ .refl so1 ((eo.grow g).set i ra)⟩
end

/-! ### defs -/
/-- a def's value: n parameters, m slots -/
def runF (n m : Nat) (B : SvS) : FA := fun ds st => if ds.length = n then (match B (ds.map some ++ List.replicate (m - n) none) st with
  | .nx _ st1 => .ok .non st1
  | .ret d st1 => .ok d st1
  | .exc e _ st1 => .exc e st1
  | _ => .fail) else .fail
/-- the promise: it hands back what F says -/
def spG (K : PySem.W.Frag) (F : FA) : Sp := fun vs H Q E => ∃ ds M st, RepL K M H ds vs ∧ StOk K M H st ∧ Post K (Rep K) M H Q E (F ds st)
theorem spG_len {K : PySem.W.Frag} {n m : Nat} {B : SvS} : ∀ vs H Q E, spG K (runF n m B) vs H Q E → vs.length = n := fun vs H Q E ⟨ds, M, st, r, so, p⟩ => by
  unfold runF at p
  split at p
  · rename_i h; rw [← r.length]; exact h
  · exact p.elim
section
variable {K : PySem.W.Frag}
theorem envOk_start {M : Mem} {H : Hp} {N : List Str} {ds : List D} {vs : List V} (r : RepL K M H ds vs) : EnvOk K M H (ds.map some ++ List.replicate (N.length - ds.length) none) (L2.start N vs) := by
  unfold L2.start
  refine ⟨by simp [r.length], fun i d h => ?_⟩
  by_cases hi : i < ds.length
  · rw [List.getElem?_append_left (by simpa using hi), List.getElem?_map] at h
    obtain ⟨x, hx, e⟩ := Option.map_eq_some_iff.mp h
    cases e
    obtain ⟨v, h1, h2⟩ := r.get hx
    exact ⟨v, by rw [List.getElem?_append_left (by simpa [← r.length] using hi), List.getElem?_map, h1]; rfl, h2⟩
  · rw [List.getElem?_append_right (by simp; omega)] at h
    have := List.mem_of_getElem? h
    simp at this
end
section
variable {P : Program} {w : World} {K : PySem.W.Frag} {mg : Str → Option Value} {base : Heap}
abbrev Wd (E : XK) : WX := fun cls d _ H => E cls d H
/-- room for calls, and no text of a list or a tuple is being made meanwhile -/
structure RoomG (k : Nat) (A : Around) : Prop extends L2.Room k A where
  gd : A.guards = some []
theorem RoomG.mono {j k : Nat} {A : Around} (r : RoomG k A) (h : j ≤ k) : RoomG j A := ⟨r.toRoom.mono h, r.gd⟩
theorem RoomG.deeper {k : Nat} {A : Around} (r : RoomG (k + 1) A) (env : PySem.Env) : RoomG k (A.deeper env) := ⟨r.toRoom.deeper env, by have := r.gd; simpa [Around.deeper] using this⟩
/-- what is promised of a def, where no text is being made -/
structure FnG (P : Program) (w : World) (K : PySem.W.Frag) (mg : Str → Option Value) (base : Heap) (k : Nat) (f : Addr) (fd : FuncData) (ps : List Str) (sp : Sp) : Prop where
  len : ∀ vs H Q E, sp vs H Q E → vs.length = ps.length
  run : ∀ (A : Around) (outer : List PySem.Env) (s : Shared) (H : Hp) (args : Args) (us : List Value) (vs : List V) (Q : VK) (E : XK), RoomG k A → Env0 P w K mg base A outer s H → BindsTo s fd args (ps.zip us) → Vals vs us → sp vs H Q E →
    codeAny (model P w) A (.call (.ref f) args) (CR (L2.CX P w) outer P w H s Q E) s
theorem FnG.imp {P : Program} {w : World} {K : PySem.W.Frag} {mg : Str → Option Value} {base : Heap} {k : Nat} {f : Addr} {fd : FuncData} {ps : List Str} {sp sp' : Sp} (F : FnG P w K mg base k f fd ps sp) (h : ∀ vs H Q E, sp' vs H Q E → sp vs H Q E) : FnG P w K mg base k f fd ps sp' :=
  ⟨fun vs H Q E q => F.len vs H Q E (h _ _ _ _ q), fun A outer s H args us vs Q E hr he hb hv hs => F.run A outer s H args us vs Q E hr he hb hv (h _ _ _ _ hs)⟩
/-- THE RULE for a def -/
theorem fn_ok {x qual : Str} {s : Stmt} {f : Addr} {fd : FuncData} {N ps : List Str} {k n m : Nat} {B : SvS} (F : Fun K x qual s f fd) (Sc : FnScope N ps (defScope s)) (hn : ps.length = n) (hm : N.length = m)
    (hbody : ∀ (cdv : Value) (A : Around) (outer : List PySem.Env) (s' : Shared) (H : Hp) (E : XK), RoomG k (A.deeper (envOfC qual (defScope s) s'.heap.objs.size f cdv)) →
      PSs (cxOf (L2.CX P w) P w K mg base N qual (defScope s) f cdv A outer s' H E) (defBody s) (rdS K (Wd E) B)) : FnG P w K mg base (k + 1) f fd ps (spG K (runF n m B)) := by
  subst hn hm
  obtain ⟨oc, od, kV, doc, pm, an, cdv, ct, osl, rfl, lk, hcd⟩ := F.ex
  refine ⟨spG_len, fun A outer s0 H args us vs Q E hr e0 hb rv hsp => ?_⟩
  have hl : vs.length = ps.length := spG_len vs H Q E hsp
  have KX : K.In s0.heap := e0.mod.kin.keeps fun b o e => (e0.bs b o e).1
  have hq : rdS K (Wd E) B { nx := fun _ H' => Q .non H', rt := Q } (L2.start N vs) H := by
    obtain ⟨ds, M, st, r, so, p⟩ := hsp
    unfold runF at p
    split at p
    · rename_i hl
      refine ⟨_, M, st, envOk_start r, so, ?_⟩
      rw [hl]
      cases e : B (ds.map some ++ List.replicate (N.length - ps.length) none) st with
      | nx env st1 => rw [e] at p; exact fun M' H' σ' g so' _ => p M' H' .non g so' (rep_non _ _)
      | ret d st1 => rw [e] at p; exact fun M' H' v g so' r' => p M' H' v g so' r'
      | exc x env st1 => rw [e] at p; exact fun M' H' σ' c od g so' _ h => p M' H' c od g so' h
      | brk env st1 => rw [e] at p; exact p.elim
      | cont env st1 => rw [e] at p; exact p.elim
      | fail => rw [e] at p; exact p.elim
    · exact p.elim
  have local_ : ∀ y ∈ ps.zip us, (defScope s).names.lookup y.1 = some .local ∨ ((defScope s).names.lookup y.1 = some .cell ∧ ((cellsFrom (s0.heap.objs.size + 1) (defScope s).names []).lookup y.1).isSome = true) := by
    rintro ⟨a, v⟩ hy
    rcases Sc.par a (List.of_mem_zip hy).1 with q | q
    · exact .inl q
    · exact .inr ⟨q, PySem.W.cellsFrom_some _ _ _ (.inl q)⟩
  refine codeAny_call_function hr.toRoom.depth (KX _ _ lk) rfl Sc.co Sc.gen rfl (PySem.W.codeRec_of KX hcd) (hb _ _ _ _ (wpAny_newFunctionEnv_cells Sc.kind local_ fun env he s1 x => ?_))
  subst he
  refine ⟨(e0.mod.nolimit.keeps fun b o e => (e0.bs b o e).1).keeps x.toInCall.keep, codeAny_func ?_⟩
  have I := inv_start (CX := L2.CX P w) (E := E) Sc hr.hd e0 hl rv x
  refine wpAny_mono ((hbody cdv A outer s0 H E (hr.deeper _)).run [] s1 (L2.start N vs) H _ I hq) (fun fl s' hs => ?_) fun e s' hs => hs
  cases fl with
  | ret u => obtain ⟨v, σ', H', J, rv, q⟩ := hs; exact ⟨v, H', J.os, J.bare, J.base, J.hok, rv, q⟩
  | next => obtain ⟨σ', H', J, q⟩ := hs; exact ⟨.non, H', J.os, J.bare, J.base, J.hok, (rfl : RelV V.non Value.none), q⟩
  | brk => obtain ⟨_, _, _, q⟩ := hs; exact q.elim
  | cont => obtain ⟨_, _, _, q⟩ := hs; exact q.elim
end

/-! ### calls -/
/-- the keywords' values in the parameters' order -/
def pick {α : Type} (us ws : List α) (ix : List Nat) : List α := us ++ ix.filterMap fun j => ws[j]?
def callKE (F : FA) (fs ks : EvA) (n m : Nat) (ix : List Nat) : EvE := fun env st => (fs env st).bind fun us st1 => (ks env st1).bind fun ws st2 => if us.length = n ∧ ws.length = m then F (pick us ws ix) st2 else .fail
theorem pick_rep {K : PySem.W.Frag} {M : Mem} {H : Hp} {ds es : List D} {vs zs : List V} (r : RepL K M H ds vs) (q : RepL K M H es zs) (ix : List Nat) : RepL K M H (pick ds es ix) (pick vs zs ix) := by
  unfold pick
  refine r.append ?_
  induction ix with
  | nil => exact .nil
  | cons j ix ih =>
    rw [List.filterMap_cons, List.filterMap_cons]
    cases e : es[j]? with
    | none =>
      have : zs[j]? = none := List.getElem?_eq_none_iff.mpr (by rw [← q.length]; exact List.getElem?_eq_none_iff.mp e)
      rw [this]; exact ih
    | some d =>
      obtain ⟨v, h1, h2⟩ := q.get e
      rw [h1]; exact .cons h2 ih
theorem pick_vals {vs zs : List V} {us ws : List Value} (r : Vals vs us) (q : Vals zs ws) (ix : List Nat) : Vals (pick vs zs ix) (pick us ws ix) := by
  unfold pick
  refine r.append ?_
  induction ix with
  | nil => exact .nil
  | cons j ix ih =>
    rw [List.filterMap_cons, List.filterMap_cons]
    cases e : zs[j]? with
    | none => rw [q.none_of e]; exact ih
    | some d =>
      obtain ⟨v, h1, h2⟩ := q.get e
      rw [h1]; exact .cons h2 ih
/-- how keywords bind -/
def KB (K : PySem.W.Frag) (fd : FuncData) (ps : List Str) (n : Nat) (ks : List Str) (ix : List Nat) : Prop :=
  ∀ (s : Shared) (us ws : List Value), K.In s.heap → us.length = n → ws.length = ks.length → BindsTo s fd ⟨us, ks.zip ws⟩ (ps.zip (pick us ws ix))
theorem kb_of {K : PySem.W.Frag} {x qual : Str} {st : Stmt} {f : Addr} {fd : FuncData} {ps ks : List Str} {n : Nat} {ix : List Nat} (F : Fun K x qual st f fd)
    (h : ∀ (kV doc pm : Value) (an : Option Addr) (cdv ct : Value) (us ws : List Value), us.length = n → ws.length = ks.length → bindArgs (PySem.W.fnOf x qual (defArgs st) (defBody st) (defScope st) .none kV doc pm an cdv ct) ⟨us, ks.zip ws⟩ = pure (ps.zip (pick us ws ix))) : KB K fd ps n ks ix := by
  obtain ⟨oc, od, kV, doc, pm, an, cdv, ct, osl, rfl, lk, hcd⟩ := F.ex
  exact fun s us ws _ h1 h2 => .of_eq (h kV doc pm an cdv ct us ws h1 h2)
abbrev rdK (K : PySem.W.Frag) (W : WX) (f : EvA) : TA := rdA K W f
section
variable {X : Cx} {W : WX} {F : FA} {k n : Nat} {f : Addr} {fd : FuncData} {ps ks : List Str} {ix : List Nat} {x : Str} {p pos kpos : Pos} {e : Expr} {es : List Expr} {kws : List Keyword} {fa : EvE} {fs fk : EvA} {nm : Option Str}
theorem _root_.L2.PK.imp {t t' : TA} (h : PK X kws t) (i : ∀ σ H Q, t' σ H Q → t σ H Q) : PK X kws t' := ⟨fun pos pins s σ H Q I q => h.run pos pins s σ H Q I (i σ H Q q)⟩
theorem k_nil : PK X [] (rdA X.K W nilA) := pk_nil.imp fun σ H Q ⟨env, M, st, eo, so, p⟩ => p M H [] .refl so .nil
theorem k_cons (ha : PE X e (rdE X.K W fa)) (hr : PK X kws (rdA X.K W fs)) : PK X (⟨nm, e, kpos⟩ :: kws) (rdA X.K W (consA fa fs)) :=
  (pk_cons ha hr).imp fun σ H Q ⟨env, M, st, eo, so, p⟩ => ⟨env, M, st, eo, so, Post.imp (Post.bind p) fun x H1 ⟨M1, st1, a, g, so1, ra, p1⟩ =>
    ⟨env, M1, st1, eo.grow g, so1, Post.imp (Post.bind (rep := RepL X.K) p1) fun y H2 ⟨M2, st2, b, g2, so2, rb, p2⟩ => p2 M2 H2 _ .refl so2 (.cons (ra.grow g2) rb)⟩⟩
/-- the callee runs, what it lets out taken at the slots -/
theorem run_kw {pins : List (Addr × Obj)} {σ : L2.St} {H : Hp} {s : Shared} {Q : VK} {us ws : List Value} {vs zs : List V} (G : FnG X.prog X.w X.K X.mg X.base k f fd ps (spG X.K F)) (hr : RoomG k X.A) (hb : KB X.K fd ps n ks ix) (tk : Takes X W)
    (I : Inv X pins σ H s) (r : Vals vs us) (rz : Vals zs ws) (h1 : us.length = n) (h2 : ws.length = ks.length) (h : spG X.K F (pick vs zs ix) H Q (WE W σ)) : wpAny (model X.prog X.w) X.A (PySem.call (.ref f) us (ks.zip ws)) (EP X pins σ Q) X.xe s := by
  have hx := passAt tk σ
  refine wpAny_call (codeAny_mono (G.run X.A X.stack s H ⟨us, ks.zip ws⟩ (pick us ws ix) (pick vs zs ix) Q (WE W σ) hr I.env0 (hb s us ws I.kIn h1 h2) (pick_vals r rz ix) h) fun r s' hq => ?_)
  cases r with
  | error e => exact hx pins H s e s' I hq
  | ok fl =>
    cases fl with
    | ret u => exact I.after hq
    | next => exact hq.elim
    | brk => exact hq.elim
    | cont => exact hq.elim
theorem run_pos {pins : List (Addr × Obj)} {σ : L2.St} {H : Hp} {s : Shared} {Q : VK} {us : List Value} {vs : List V} (G : FnG X.prog X.w X.K X.mg X.base k f fd ps (spG X.K F)) (hr : RoomG k X.A) (hb : Binds X.K fd ps []) (tk : Takes X W)
    (I : Inv X pins σ H s) (r : Vals vs us) (h : spG X.K F vs H Q (WE W σ)) : wpAny (model X.prog X.w) X.A (PySem.call (.ref f) us) (EP X pins σ Q) X.xe s := by
  have hx := passAt tk σ
  have bb := hb s us I.kIn (by rw [List.append_nil, ← r.length]; exact G.len _ _ _ _ h)
  rw [List.append_nil] at bb
  refine wpAny_call (codeAny_mono (G.run X.A X.stack s H ⟨us, []⟩ us vs Q (WE W σ) hr I.env0 bb r h) fun r s' hq => ?_)
  cases r with
  | error e => exact hx pins H s e s' I hq
  | ok fl =>
    cases fl with
    | ret u => exact I.after hq
    | next => exact hq.elim
    | brk => exact hq.elim
    | cont => exact hq.elim
/-- f(e, ..) -/
theorem g_call (G : FnG X.prog X.w X.K X.mg X.base k f fd ps (spG X.K F)) (hr : RoomG k X.A) (hg : Gl X x) (hm : X.mg x = some (.ref f)) (hk : PySem.W.keepIn X.K (.ref f) = true) (hb : Binds X.K fd ps []) (tk : Takes X W)
    (ha : PA X (e :: es) (rdA X.K W fs)) (hdb : (x == ("__debug__" : Str)) = false) (he : starEach (e :: es) X.env = (false, eval e X.env) :: starEach es X.env) (hpl : (backTo pos (starEach es X.env)).any (·.1) = false) :
    PE X (.Call (.Name x p) (e :: es) [] pos) (rdE X.K W (callE F fs)) := by
  refine ⟨fun pins s σ H Q I ⟨env, M, st, eo, so, p⟩ => ?_⟩
  refine wpAny_Call_Name_kw (ld_glob I hg hm ?_ hdb)
  refine PySem.W.callWith_K (h₀ := X.base) I.ok.mod.kin hk (thn (ha.run pos pins s σ H _ I ⟨env, M, st, eo, so, Post.bind (rep := RepL X.K) p⟩) fun us s1 ⟨vs, H1, I1, r, M1, st1, ds, g, so1, ra, p1⟩ => ⟨I1.kIn, ?_⟩) he hpl
  exact run_pos G hr hb tk I1 r ⟨ds, M1, st1, ra, so1, p1⟩
/-- f(e, .., k = v, ..) -/
theorem g_callK (G : FnG X.prog X.w X.K X.mg X.base k f fd ps (spG X.K F)) (hr : RoomG k X.A) (hg : Gl X x) (hm : X.mg x = some (.ref f)) (hk : PySem.W.keepIn X.K (.ref f) = true) (hb : KB X.K fd ps n ks ix) (tk : Takes X W)
    (ha : PA X (e :: es) (rdA X.K W fs)) (hkw : PK X kws (rdA X.K W fk)) (hall : (backToKw pos (keywordEach kws X.env)).all (·.1.isSome) = true) (hks : (backToKw pos (keywordEach kws X.env)).filterMap (·.1) = ks)
    (hdb : (x == ("__debug__" : Str)) = false) (he : starEach (e :: es) X.env = (false, eval e X.env) :: starEach es X.env)
    (hpl : ((backTo pos (starEach (e :: es) X.env)).any (·.1) || (backToKw pos (keywordEach kws X.env)).any (·.1.isNone)) = false) :
    PE X (.Call (.Name x p) (e :: es) kws pos) (rdE X.K W (callKE F fs fk n ks.length ix)) := by
  refine ⟨fun pins s σ H Q I ⟨env, M, st, eo, so, p⟩ => ?_⟩
  refine wpAny_Call_Name_kw (ld_glob I hg hm ?_ hdb)
  refine PySem.W.callWith_KW (h₀ := X.base) I.ok.mod.kin hk hall (thn (ha.run pos pins s σ H _ I ⟨env, M, st, eo, so, Post.bind (rep := RepL X.K) p⟩) fun us s1 ⟨vs, H1, I1, r, M1, st1, ds, g, so1, rd1, p1⟩ => ?_) hpl he
  refine thn (hkw.run pos pins s1 σ H1 _ I1 ⟨env, M1, st1, eo.grow g, so1, Post.bind (rep := RepL X.K) p1⟩) fun ws s2 ⟨zs, H2, I2, rz, M2, st2, es', g2, so2, rd2, p2⟩ => ⟨I2.kIn, ?_⟩
  rw [hks]
  split at p2
  · rename_i hl
    exact run_kw G hr hb tk I2 r rz (by show us.length = n; rw [← r.length, ← rd1.length]; exact hl.1) (by rw [← rz.length, ← rd2.length]; exact hl.2) ⟨_, M2, st2, pick_rep (rd1.grow g2) rd2 ix, so2, p2⟩
  · exact p2.elim
/-- f(k = v, ..) -/
theorem g_callK0 (G : FnG X.prog X.w X.K X.mg X.base k f fd ps (spG X.K F)) (hr : RoomG k X.A) (hg : Gl X x) (hm : X.mg x = some (.ref f)) (hk : PySem.W.keepIn X.K (.ref f) = true) (hb : KB X.K fd ps 0 ks ix) (tk : Takes X W)
    (hkw : PK X kws (rdA X.K W fk)) (hall : (backToKw pos (keywordEach kws X.env)).all (·.1.isSome) = true) (hks : (backToKw pos (keywordEach kws X.env)).filterMap (·.1) = ks)
    (hdb : (x == ("__debug__" : Str)) = false)
    (hpl : ((backTo pos (starEach [] X.env)).any (·.1) || (backToKw pos (keywordEach kws X.env)).any (·.1.isNone)) = false) :
    PE X (.Call (.Name x p) [] kws pos) (rdE X.K W (callKE F nilA fk 0 ks.length ix)) := by
  refine ⟨fun pins s σ H Q I ⟨env, M, st, eo, so, p⟩ => ?_⟩
  refine wpAny_Call_Name_kw (ld_glob I hg hm ?_ hdb)
  have p1 : Post X.K (Rep X.K) M H Q (WE W σ) ((fk env st).bind fun ws st2 => if (0 : Nat) = 0 ∧ ws.length = ks.length then F (pick [] ws ix) st2 else .fail) := p
  refine PySem.W.callWith_KW0 (h₀ := X.base) I.ok.mod.kin hk hall ?_ hpl
  refine thn (hkw.run pos pins s σ H _ I ⟨env, M, st, eo, so, Post.bind (rep := RepL X.K) p1⟩) fun ws s2 ⟨zs, H2, I2, rz, M2, st2, es', g2, so2, rd2, p2⟩ => ⟨I2.kIn, ?_⟩
  rw [hks]
  split at p2
  · rename_i hl
    exact run_kw (vs := []) (us := []) G hr hb tk I2 .nil rz rfl (by rw [← rz.length, ← rd2.length]; exact hl.2) ⟨_, M2, st2, pick_rep .nil rd2 ix, so2, p2⟩
  · exact p2.elim
end
/-! ### methods of lists -/
abbrev FM := D → List D → Sto → R D
def isL (d : D) (st : Sto) : Bool := match d with
  | .lst _ => true
  | .slo _ => true
  | .mut n => (match st[n]? with
    | some (.lst _) => true
    | _ => false)
  | _ => false
def methLE (f : FM) (fo : EvE) (fs : EvA) : EvE := fun env st => (fo env st).bind fun o st1 => if isL o st1 = true then (fs env st1).bind fun as st2 => f o as st2 else .fail
def MethV (K : PySem.W.Frag) (r : V → List V → Hp → VK → Prop) (f : FM) : Prop := ∀ (a : D) (as : List D) (x : V) (xs : List V) (M : Mem) (H : Hp) (st : Sto) (Q : VK) (E : XK), Rep K M H a x → RepL K M H as xs → StOk K M H st → Post K (Rep K) M H Q E (f a as st) → r x xs H Q
theorem isL_ty {K : PySem.W.Frag} {M : Mem} {H : Hp} {d : D} {st : Sto} {x : V} (so : StOk K M H st) (h : isL d st = true) (r : Rep K M H d x) : tyV K "list" x H := by
  unfold isL at h
  split at h
  · unfold Rep at r; obtain ⟨a, vs, rfl, f, q⟩ := r; exact .inl ⟨rfl, vs, f.sq⟩
  · unfold Rep at r; obtain ⟨a, vs, rfl, f, q⟩ := r; exact .inl ⟨rfl, vs, f.sq⟩
  · split at h
    · rename_i e
      unfold Rep at r; obtain ⟨a, rfl, m⟩ := r
      obtain ⟨vs, hv, q⟩ := so.at_ _ a _ m e
      exact .inl ⟨rfl, vs, .of hv⟩
    · cases h
  · cases h
section
variable {X : Cx} {W : WX} {f : FM} {fo : EvE} {fs : EvA} {r : V → List V → Hp → VK → Prop} {s : Expr}
theorem g_methL (h : PE X s (tBM X.K "list" r (rdE X.K W fo) (rdA X.K W fs))) (hv : MethV X.K r f) : PE X s (rdE X.K W (methLE f fo fs)) :=
  h.imp fun σ H Q ⟨env, M, st, eo, so, p⟩ => ⟨env, M, st, eo, so, Post.imp (Post.bind p) fun x H1 ⟨M1, st1, a, g, so1, ra, p1⟩ => by
    split at p1
    · rename_i hl
      exact ⟨isL_ty so1 hl ra, env, M1, st1, eo.grow g, so1, Post.imp (Post.bind (rep := RepL X.K) p1) fun xs H2 ⟨M2, st2, as, g2, so2, rs, p2⟩ => hv a as x xs M2 H2 st2 Q _ (ra.grow g2) rs so2 p2⟩
    · exact p1.elim⟩
end
/-- .append -/
def appF : FM := fun d as st => match d, as with
  | .mut n, [x] => (match st[n]? with
    | some (.lst xs) => if xs.length < 16777216 then .ok .non (st.set n (.lst (xs ++ [x]))) else .fail
    | _ => .fail)
  | _, _ => .fail
theorem v_append {K : PySem.W.Frag} : MethV K rAppend appF := by
  intro a as x xs M H st Q E ra rb so p
  unfold appF at p
  split at p
  · split at p
    · rename_i n b _ ys e
      split at p
      · rename_i hl
        unfold Rep at ra
        obtain ⟨t, rfl, m⟩ := ra
        obtain ⟨y, rfl, ry⟩ := rb.one
        obtain ⟨vs, hv, q⟩ := so.at_ n t _ m e
        exact ⟨t, vs, y, rfl, rfl, hv, by rw [← q.length, sizeLine_eq]; exact hl, p M _ _ (.put so m) (so.putL m (q.append (.cons ry .nil))) (rep_non _ _)⟩
      · exact p.elim
    · exact p.elim
  · exact p.elim
end G

namespace G
open PySem PySem.Spec PyProof.Rows L2

/-! ### what the printed texts use -/
theorem bt_len : bootBuiltins "len" = some (.builtin "len") := by decide +kernel
theorem bt_sum : bootBuiltins "sum" = some (.builtin "sum") := by decide +kernel
theorem bt_all : bootBuiltins "all" = some (.builtin "all") := by decide +kernel
theorem bt_any : bootBuiltins "any" = some (.builtin "any") := by decide +kernel
theorem bt_abs : bootBuiltins "abs" = some (.builtin "abs") := by decide +kernel
theorem bt_max : bootBuiltins "max" = some (.builtin "max") := by decide +kernel
theorem bt_min : bootBuiltins "min" = some (.builtin "min") := by decide +kernel
theorem bt_divmod : bootBuiltins "divmod" = some (.builtin "divmod") := by decide +kernel
theorem bt_isinstance : bootBuiltins "isinstance" = some (.builtin "isinstance") := by decide +kernel
theorem bt_sorted : bootBuiltins "sorted" = some (.builtin "sorted") := by decide +kernel
theorem bt_int : bootBuiltins "int" = some (.type "int") := by decide +kernel
theorem bt_bool : bootBuiltins "bool" = some (.type "bool") := by decide +kernel
theorem bt_str : bootBuiltins "str" = some (.type "str") := by decide +kernel
theorem bt_list : bootBuiltins "list" = some (.type "list") := by decide +kernel
theorem bt_tuple : bootBuiltins "tuple" = some (.type "tuple") := by decide +kernel
theorem bt_dict : bootBuiltins "dict" = some (.type "dict") := by decide +kernel
theorem bt_set : bootBuiltins "set" = some (.type "set") := by decide +kernel

section
variable {X : Cx} {W : WX} {s : Expr} {fs : EvA} {f : FA} {r : List V → Hp → VK → Prop}
theorem g_blt (h : PE X s (tCB r (rdA X.K W fs))) (hv : CallV X.K r f) : PE X s (rdE X.K W (callE f fs)) := h.imp (rd_call hv)
theorem c_len : CallR X (.builtin "len") (fun xs H Q => (∃ p ys, xs = [.ref p] ∧ (SqL X.K H p ys ∨ SqT X.K H p ys) ∧ Q (.int ys.length) H) ∨ ∃ z, xs = [.str z] ∧ z.length ≤ sizeLine ∧ Q (.int z.length) H) := CallR.or call_len_seq call_len_str
theorem c_divmod : CallR X (.builtin "divmod") (fun xs H Q => (∃ i j, xs = [.int i, .int j] ∧ CDiv i j ∧ ∀ p, H p = none → Q (.ref p) (upd H p (.tup [.int (i / j), .int (i % j)]))) ∨
    ∃ i j, xs = [.int i, .int j] ∧ CDivP i j ∧ ∀ p, H p = none → Q (.ref p) (upd H p (.tup [.int (i / j), .int (i % j)]))) := CallR.or call_divmod call_divmodW
theorem c_max (hc : X.calm = true) : CallR X (.builtin "max") (fun xs H Q => (∃ i j, xs = [.int i, .int j] ∧ Q (.int (if j > i then j else i)) H) ∨ qMax X.K xs H Q) := CallR.or (call_max2 hc) (cq_max hc)
theorem c_min (hc : X.calm = true) : CallR X (.builtin "min") (fun xs H Q => (∃ i j, xs = [.int i, .int j] ∧ Q (.int (if j < i then j else i)) H) ∨ qMin X.K xs H Q) := CallR.or (call_min2 hc) (cq_min hc)
theorem g_globI {x : Str} {pos : Pos} {i : Int} (hg : Gl X x) (h : ∃ t, X.mg x = some (.int i t)) (hd : (x == ("__debug__" : Str)) = false) : PE X (.Name x pos) (rdE X.K W (cE (.int i))) := by
  obtain ⟨t, h⟩ := h
  exact g_c (v := .int i) (pe_glob hg h ⟨t, rfl⟩ hd) (rep_int i)
theorem g_lc {it : EvI} {t : Tg} {tt : EvB} {fe : EvE} {vs : List Nat} (hv : ∀ i ∈ Tg.names t, i ∈ vs) (h : PE X s (tLc (rdI X.K W it) (Tg.raw X.K t) (rdB X.K W0 tt) (rdE X.K W0 fe) vs)) : PE X s (rdE X.K W (lcE it t tt fe vs)) := h.imp (rd_lc hv)
theorem g_lcM {it : EvI} {t : Tg} {tt : EvB} {fe : EvE} {vs : List Nat} (hv : ∀ i ∈ Tg.names t, i ∈ vs) (h : PE X s (tLc (rdI X.K W it) (Tg.raw X.K t) (rdB X.K W0 tt) (rdE X.K W0 fe) vs)) : PE X s (rdE X.K W (lcME it t tt fe vs)) := h.imp (rd_lcM hv)
theorem s_set {i : Nat} {fa : EvE} {s : Stmt} (h : PS X s (tAsg (rdE X.K W fa) (gName i))) : PS X s (rdS X.K W (asgS fa (nameT i))) :=
  h.imp fun T σ H ⟨env, M, st, eo, so, p⟩ => ⟨env, M, st, eo, so, Post.imp (PostS.bind eo p) fun x H1 ⟨M1, st1, d, g, so1, ra, p1⟩ => p1 M1 H1 _ .refl so1 ((eo.grow g).set i ra)⟩
def parS (i j : Nat) (fs : EvA) : SvS := fun env st => bindS (fs env st) env fun as st1 => match as with
  | [a, b] => .nx ((env.set i (some a)).set j (some b)) st1
  | _ => .fail
def parS3 (i j k : Nat) (fs : EvA) : SvS := fun env st => bindS (fs env st) env fun as st1 => match as with
  | [a, b, c] => .nx (((env.set i (some a)).set j (some b)).set k (some c)) st1
  | _ => .fail
theorem s_par {i j : Nat} {s : Stmt} (h : PS X s (tPar i j (rdA X.K W fs))) : PS X s (rdS X.K W (parS i j fs)) :=
  h.imp fun T σ H ⟨env, M, st, eo, so, p⟩ => ⟨env, M, st, eo, so, Post.imp (PostS.bind eo p) fun vs H1 ⟨M1, st1, ds, g, so1, ra, p1⟩ => by
    match ds, ra, p1 with
    | [a, b], ra, p1 =>
      obtain ⟨x, y, rfl, rx, ry⟩ := ra.two
      exact ⟨x, y, rfl, p1 M1 H1 _ .refl so1 (((eo.grow g).set i rx).set j ry)⟩
    | [], _, p1 => exact p1.elim
    | [_], _, p1 => exact p1.elim
    | _ :: _ :: _ :: _, _, p1 => exact p1.elim⟩
end
/-- a def that stands and keeps its promise -/
structure Kn (P : Program) (w : World) (K : PySem.W.Frag) (mg : Str → Option Value) (base : Heap) (x : Str) (s : Stmt) (ps : List Str) (k : Nat) (F : FA) : Prop where
  ex : ∃ (f : Addr) (fd : FuncData), mg x = some (.ref f) ∧ Fun K x x s f fd ∧ Binds K fd ps [] ∧ FnG P w K mg base k f fd ps (spG K F)
/-- nothing is promised of it -/
theorem fn_fail {P : Program} {w : World} {K : PySem.W.Frag} {mg : Str → Option Value} {base : Heap} {k : Nat} {f : Addr} {fd : FuncData} {ps : List Str} : FnG P w K mg base k f fd ps (spG K fun _ _ => .fail) :=
  ⟨fun _ _ _ _ ⟨_, _, _, _, _, p⟩ => p.elim, fun _ _ _ _ _ _ _ _ _ _ _ _ _ ⟨_, _, _, _, _, p⟩ => p.elim⟩
/-- a def that stands -/
def Std (K : PySem.W.Frag) (mg : Str → Option Value) (x : Str) (s : Stmt) : Prop := ∃ (f : Addr) (fd : FuncData), mg x = some (.ref f) ∧ Fun K x x s f fd
section
variable {P : Program} {w : World} {K : PySem.W.Frag} {mg : Str → Option Value} {base : Heap}
theorem kn_of {x : Str} {s : Stmt} {N ps : List Str} {k n m : Nat} {B : SvS} (S : Std K mg x s) (Sc : FnScope N ps (defScope s)) (hn : ps.length = n) (hm : N.length = m)
    (hb : ∀ (kV doc pm : Value) (an : Option Addr) (cdv ct : Value) (us : List Value), us.length = ps.length → bindArgs (PySem.W.fnOf x x (defArgs s) (defBody s) (defScope s) .none kV doc pm an cdv ct) ⟨us, []⟩ = pure (ps.zip us))
    (hbody : ∀ (f : Addr) (cdv : Value) (A : Around) (outer : List PySem.Env) (s' : Shared) (H : Hp) (E : XK), RoomG k (A.deeper (envOfC x (defScope s) s'.heap.objs.size f cdv)) →
      PSs (cxOf (L2.CX P w) P w K mg base N x (defScope s) f cdv A outer s' H E) (defBody s) (rdS K (Wd E) B)) : Kn P w K mg base x s ps (k + 1) (runF n m B) := by
  obtain ⟨f, fd, hmg, F⟩ := S
  exact ⟨f, fd, hmg, F, F.binds hb, fn_ok F Sc hn hm fun cdv A outer s' H E hr => hbody f cdv A outer s' H E hr⟩
theorem kn_fail {x : Str} {s : Stmt} {ps : List Str} {k : Nat} (S : Std K mg x s)
    (hb : ∀ (kV doc pm : Value) (an : Option Addr) (cdv ct : Value) (us : List Value), us.length = ps.length → bindArgs (PySem.W.fnOf x x (defArgs s) (defBody s) (defScope s) .none kV doc pm an cdv ct) ⟨us, []⟩ = pure (ps.zip us)) : Kn P w K mg base x s ps k fun _ _ => .fail := by
  obtain ⟨f, fd, hmg, F⟩ := S
  exact ⟨f, fd, hmg, F, F.binds hb, fn_fail⟩
end
section
variable {X : Cx} {W : WX} {F : FA} {k : Nat} {ps : List Str} {x : Str} {st : Stmt} {p pos : Pos} {e : Expr} {es : List Expr} {fs fk : EvA}
theorem g_calln (C : Kn X.prog X.w X.K X.mg X.base x st ps k F) (hr : RoomG k X.A) (hg : Gl X x) (tk : Takes X W)
    (ha : PA X (e :: es) (rdA X.K W fs)) (hdb : (x == ("__debug__" : Str)) = false) (he : starEach (e :: es) X.env = (false, eval e X.env) :: starEach es X.env) (hpl : (backTo pos (starEach es X.env)).any (·.1) = false) :
    PE X (.Call (.Name x p) (e :: es) [] pos) (rdE X.K W (callE F fs)) := by
  obtain ⟨f, fd, hm, Fn, hb, G⟩ := C.ex
  exact g_call G hr hg hm Fn.kp hb tk ha hdb he hpl
theorem g_callkn {n : Nat} {ks : List Str} {ix : List Nat} {kws : List Keyword} (C : Kn X.prog X.w X.K X.mg X.base x st ps k F) (hr : RoomG k X.A) (hg : Gl X x) (tk : Takes X W)
    (hkb : ∀ (kV doc pm : Value) (an : Option Addr) (cdv ct : Value) (us ws : List Value), us.length = n → ws.length = ks.length → bindArgs (PySem.W.fnOf x x (defArgs st) (defBody st) (defScope st) .none kV doc pm an cdv ct) ⟨us, ks.zip ws⟩ = pure (ps.zip (pick us ws ix)))
    (ha : PA X (e :: es) (rdA X.K W fs)) (hkw : PK X kws (rdA X.K W fk)) (hall : (backToKw pos (keywordEach kws X.env)).all (·.1.isSome) = true) (hks : (backToKw pos (keywordEach kws X.env)).filterMap (·.1) = ks)
    (hdb : (x == ("__debug__" : Str)) = false) (he : starEach (e :: es) X.env = (false, eval e X.env) :: starEach es X.env)
    (hpl : ((backTo pos (starEach (e :: es) X.env)).any (·.1) || (backToKw pos (keywordEach kws X.env)).any (·.1.isNone)) = false) :
    PE X (.Call (.Name x p) (e :: es) kws pos) (rdE X.K W (callKE F fs fk n ks.length ix)) := by
  obtain ⟨f, fd, hm, Fn, hb, G⟩ := C.ex
  exact g_callK G hr hg hm Fn.kp (kb_of Fn hkb) tk ha hkw hall hks hdb he hpl
theorem g_callkn0 {ks : List Str} {ix : List Nat} {kws : List Keyword} (C : Kn X.prog X.w X.K X.mg X.base x st ps k F) (hr : RoomG k X.A) (hg : Gl X x) (tk : Takes X W)
    (hkb : ∀ (kV doc pm : Value) (an : Option Addr) (cdv ct : Value) (us ws : List Value), us.length = 0 → ws.length = ks.length → bindArgs (PySem.W.fnOf x x (defArgs st) (defBody st) (defScope st) .none kV doc pm an cdv ct) ⟨us, ks.zip ws⟩ = pure (ps.zip (pick us ws ix)))
    (hkw : PK X kws (rdA X.K W fk)) (hall : (backToKw pos (keywordEach kws X.env)).all (·.1.isSome) = true) (hks : (backToKw pos (keywordEach kws X.env)).filterMap (·.1) = ks)
    (hdb : (x == ("__debug__" : Str)) = false)
    (hpl : ((backTo pos (starEach [] X.env)).any (·.1) || (backToKw pos (keywordEach kws X.env)).any (·.1.isNone)) = false) :
    PE X (.Call (.Name x p) [] kws pos) (rdE X.K W (callKE F nilA fk 0 ks.length ix)) := by
  obtain ⟨f, fd, hm, Fn, hb, G⟩ := C.ex
  exact g_callK0 G hr hg hm Fn.kp (kb_of Fn hkb) tk hkw hall hks hdb hpl
end
end G
namespace G
open PySem PySem.Spec PyProof.Rows L2
theorem fun_inj {K : PySem.W.Frag} {x qual : Str} {s s' : Stmt} {f : Addr} {fd fd' : FuncData} (F : Fun K x qual s f fd) (F' : Fun K x qual s' f fd') : fd' = fd := by
  obtain ⟨oc, od, kV, doc, pm, an, cdv, ct, osl, e, lk, hcd⟩ := F.ex
  obtain ⟨oc', od', kV', doc', pm', an', cdv', ct', osl', e', lk', hcd'⟩ := F'.ex
  rw [lk] at lk'
  injection lk' with q
  injection q with _ _ q3 _
  injection q3 with q4
  exact q4.symm
/-- the law itself, for walk_of -/
theorem law_fd {l : PySem.W.OpenLaw} {w : World} {K : PySem.W.Frag} {mg : Str → Option Value} {fa : Addr} {fd : FuncData} {s : Stmt} {k : Nat} {F : FA} (hfa : mg "law" = some (.ref fa)) (Fn : Fun K "law" "law" s fa fd)
    (hb : ∀ (s : Shared) (v : Value), BindsTo s fd ⟨[v], []⟩ [("script", v)])
    (h : ∀ base : Heap, K.In base → base.Ns mainGlobals mg → Kn l.prog w K mg base "law" s ["script"] k F) :
    ∃ fd : FuncData, (∀ (s : Shared) (v : Value), BindsTo s fd ⟨[v], []⟩ [("script", v)]) ∧ ∀ base : Heap, K.In base → base.Ns mainGlobals mg → FnG l.prog w K mg base k fa fd ["script"] (spG K F) := by
  refine ⟨fd, hb, fun base h1 h2 => ?_⟩
  obtain ⟨f, fd', hm, Fn', _, G⟩ := (h base h1 h2).ex
  rw [hfa] at hm
  injection hm with hm
  injection hm with hm
  subst hm
  have e := fun_inj Fn Fn'
  subst e
  exact G
theorem cx_no {P : Program} {w : World} {outer : List PySem.Env} {H : Hp} {s : Shared} {e : Value} {s' : Shared} (h : L2.CX P w outer H s (fun _ _ _ => False) e s') : False := by
  obtain ⟨_, _, _, _, _, _, _, _, _, _, _, _, z⟩ := h
  exact z
/-- the script, as the law's call finds it -/
theorem law_sp {K : PySem.W.Frag} {F : FA} {H : Hp} {a : Addr} {ns : List Int} (hS : SqL K H a (ns.map V.int)) (h : ∃ st, F [.slo (ns.map D.int)] [] = .ok (.bl true) st) : spG K F [.ref a] H (fun v _ => v = .bl true) fun _ _ _ => False := by
  obtain ⟨st, e⟩ := h
  refine ⟨[.slo (ns.map D.int)], ⟨[], [], fun _ => none⟩, [], .cons ?_ .nil, ⟨rfl, List.nodup_nil, fun a h => by simp at h, fun n a mo h => by simp at h⟩, ?_⟩
  · unfold Rep
    exact ⟨a, _, rfl, hS.imp (fun q => ⟨q, by simp [Mem.no]⟩) id, .ints ns⟩
  · rw [e]
    intro M' H' b _ _ r
    unfold Rep at r
    exact r

/-! ### the end: the law's call, where no text is being made -/
section
variable {P : Program} {w : World} {K : PySem.W.Frag} {mg mb : Str → Option Value} {k : Nat} {fa a : Addr} {fd : FuncData} {x : Str} {F : FA} {s : Shared} {vs : List Value} {ns : List Int}
/-- what is tracked at the law's call: the script, if it is none of the module's own lists -/
structure Fst (K : PySem.W.Frag) (P : Program) (w : World) (a : Addr) (h : Heap) (ns : List Int) (H : Hp) : Prop where
  only : ∀ b, H b = none ∨ (b = a ∧ K.lookup a = none ∧ ∃ o xs, H b = some (.frz o (.lst xs)))
  at_ : SqL K H a (ns.map V.int)
  ok : HOk P w H h
theorem fst_of (KX : K.In s.heap) (ha : s.heap.get? a = some { cls := .type "list", data := .seq vs.toArray }) (hi : IntsAre vs ns) (hl : ns.length ≤ sizeLine) : ∃ H, Fst K P w a s.heap ns H := by
  have rv := vals_ints hi
  by_cases hk : K.lookup a = none
  · let u : HO := .frz { cls := .type "list", data := .seq vs.toArray } (.lst (ns.map V.int))
    refine ⟨fun b => if b = a then some u else none, fun b => ?_, .inl (.inr ⟨_, if_pos rfl⟩), fun b o e => ?_⟩
    · by_cases hb : b = a
      · exact .inr ⟨hb, hk, _, _, if_pos hb⟩
      · exact .inl (if_neg hb)
    · by_cases hb : b = a
      · subst hb
        have e := (if_pos rfl).symm.trans e
        cases e
        exact ⟨ha, by rw [List.length_map]; exact hl, vs, _, rv, ha⟩
      · have e := (if_neg hb).symm.trans e
        cases e
  · cases hk2 : K.lookup a with
    | none => exact absurd hk2 hk
    | some o =>
      have e := KX a o hk2
      rw [ha] at e
      cases e
      refine ⟨fun _ => none, fun _ => .inl rfl, .inr ⟨_, vs.toArray, _, hk2, rfl, rfl, rfl, ?_, by simpa using rv⟩, fun _ _ e => nomatch e⟩
      rw [List.size_toArray, hi.length]; exact hl
theorem law_run (KX : K.In s.heap) (hns : s.heap.Ns mainGlobals mg) (hb : s.heap.Ns builtinsNs mb) (hbb : ∀ x : Str, x ≠ "__name__" → mb x = bootBuiltins x) (hlim : s.heap.NoLimit) (hg : s.gens = #[])
    (ha : s.heap.get? a = some { cls := .type "list", data := .seq vs.toArray }) (hi : IntsAre vs ns) (hl : ns.length ≤ sizeLine) (hr : RoomG k callerA)
    (hF : ∀ base : Heap, K.In base → base.Ns mainGlobals mg → FnG P w K mg base k fa fd [x] (spG K F)) (hbind : ∀ (s : Shared) (u : Value), BindsTo s fd ⟨[u], []⟩ [(x, u)]) (ht : ∃ st, F [.slo (ns.map D.int)] [] = .ok (.bl true) st) :
    codeAny (model P w) callerA (.call (.ref fa) ⟨[.ref a], []⟩) (fun r s' => r = .ok (.ret (.bool true)) ∧ OldK s.heap s'.heap ∧ s'.os = s.os ∧ AllBare s'.gens) s := by
  obtain ⟨H, F1⟩ := fst_of (P := P) (w := w) KX ha hi hl
  -- a dict, or an object of the module, is not tracked
  have free : ∀ {b : Addr} {o : Obj}, s.heap.get? b = some o → (b = a → K.lookup a = none → False) → H b = none := fun {b o} e z => (F1.only b).elim id fun ⟨h1, h2, _⟩ => (z h1 h2).elim
  have ns_ : ∀ {b : Addr} {m : Str → Option Value}, s.heap.Ns b m → (hidT s.heap H).Ns b m := fun {b m} ⟨o, es, ep, e, d, r⟩ => ⟨o, es, ep, hidT_get e (free e fun h1 _ => by
    subst h1
    rw [ha] at e
    cases e
    exact nomatch (show Data.seq vs.toArray _ = Data.dict es ep from d)), d, r⟩
  have KB : K.In (hidT s.heap H) := fun b o e => hidT_get (KX b o e) (free (KX b o e) fun h1 h2 => by
    subst h1
    rw [h2] at e; cases e)
  have e0 : Env0 P w K mg (hidT s.heap H) callerA [] s H :=
    ⟨rfl, ⟨KB, ns_ hns, ⟨mb, ns_ hb, hbb⟩, let ⟨mc, h1, h2⟩ := hlim; ⟨mc, ns_ h1, h2⟩⟩, fun b o e => of_hidT e, Nat.le_of_eq (hidT_size _ _), True.intro, fun b hb => (nomatch (show b ∈ ([] : List Addr) from hb)), F1.ok, .of_eq hg⟩
  refine codeAny_mono ((hF _ KB (ns_ hns)).run callerA [] s H ⟨[.ref a], []⟩ [.ref a] [.ref a] (fun v _ => v = .bl true) (fun _ _ _ => False) hr e0 (hbind s (.ref a)) (.cons rfl .nil) (law_sp F1.at_ ht)) fun r s' h => ?_
  cases r with
  | error e => exact (cx_no h).elim
  | ok fl =>
    cases fl with
    | next => exact False.elim h
    | brk => exact False.elim h
    | cont => exact False.elim h
    | ret u =>
      obtain ⟨v, H', os, bare, un, hok', r', q⟩ := h
      have q : v = .bl true := q
      subst q
      obtain rfl : u = Value.bool true := r'
      refine ⟨rfl, OldK.of_keep fun b o e => ?_, os, bare⟩
      rcases F1.only b with z | ⟨_, _, ob, xs, z⟩
      · exact un.keep b o e z (fun m => (nomatch (show b ∈ ([] : List Addr) from m))) (by simp)
      · have k1 := (F1.ok b _ z).1
        have k2 := (hok' b _ (un.frzs b ob _ z)).1
        rw [k1] at e
        cases e
        exact k2
/-- the goal that k_head leaves -/
theorem walk_end {l : PySem.W.OpenLaw} {n k : Nat} {q : Program} {loose : List Str} {XP : (Str → Option Value) → Heap → Prop} {YP : World → Heap → Prop} {d : DefRec} {K : Params → PySem.W.Frag} {x : Str} {F : FA}
    (hn : l.most = some n) (hn2 : n ≤ sizeLine) (hdf : d.params.defaults = []) (hr : L2.Room k callerA) (hY : ∀ (w : World) (h : Heap), YP w h → (K w.params).In h)
    (hF : ∀ (w : World) (mg : Str → Option Value) (fa : Addr) (h : Heap), (K w.params).In h → h.Ns mainGlobals mg → mg d.name = some (.ref fa) →
      ∃ fd : FuncData, (∀ (s : Shared) (u : Value), BindsTo s fd ⟨[u], []⟩ [(x, u)]) ∧ ∀ base : Heap, (K w.params).In base → base.Ns mainGlobals mg → FnG l.prog w (K w.params) mg base k fa fd [x] (spG (K w.params) F))
    (ht : ∀ ns : List Int, ns.length ≤ n → ∃ st, F [.slo (ns.map D.int)] [] = .ok (.bl true) st) : PySem.W.WalkO q loose XP YP l.row.toRowW d [] (fun f vs => PySem.call f vs) := by
  refine Att.attach_call hn hdf fun w s₀ s₁ mg mb fa o pm cd doc a vs ns G Y ho hd hcd hmg hobj hints hlen hg => ?_
  have KX := hY w _ Y
  obtain ⟨fd, hb, F1⟩ := hF w mg fa _ KX G.T.g hmg
  exact law_run KX G.T.g G.T.b G.T.builtins G.T.nolimit hg hobj hints (Nat.le_trans hlen hn2) ⟨hr, rfl⟩ F1 hb (ht ns hlen)
end
end G

namespace G
open PySem PySem.Spec PyProof.Rows L2

/-! ### a def that changes lists of its own alone: they are forgotten, or stand for good, at its end -/
mutual
def rf : D → Bool
  | .mut _ => false
  | .tup xs => rfL xs
  | .lst xs => rfL xs
  | .slo xs => rfL xs
  | _ => true
def rfL : List D → Bool
  | [] => true
  | x :: xs => rf x && rfL xs
end
def rfM : MO → Bool
  | .lst xs => rfL xs
  | _ => true
def rfS (st : Sto) : Bool := st.all rfM
mutual
/-- d with the lists of st that are not below n0 written out, k deep at most -/
def thaw (st : Sto) (n0 : Nat) : Nat → D → Option D
  | k, .tup xs => (thawL st n0 k xs).map .tup
  | k, .lst xs => (thawL st n0 k xs).map .lst
  | k, .slo xs => if rfL xs then some (.slo xs) else none
  | 0, .mut _ => none
  | k + 1, .mut j => if j < n0 then none else match st[j]? with
    | some (.lst xs) => if rfL xs then some (.lst xs) else none
    | _ => none
  | _, d => some d
def thawL (st : Sto) (n0 : Nat) : Nat → List D → Option (List D)
  | _, [] => some []
  | k, x :: xs => match thaw st n0 k x, thawL st n0 k xs with
    | some a, some b => some (a :: b)
    | _, _ => none
end
def fz (n0 : Nat) (r : R D) : R D := match r with
  | .ok d st1 => (match rfS (st1.take n0), thaw st1 n0 1 d with
    | true, some d' => .ok d' (st1.take n0)
    | _, _ => .ok d st1)
  | r => r
def fzF (F : FA) : FA := fun ds st => fz st.length (F ds st)
section
variable {K : PySem.W.Frag} {M : Mem} {H : Hp} {n0 : Nat}
def Mem.cut (M : Mem) (n : Nat) : Mem := ⟨M.m.take n, M.p, M.f⟩
theorem no_cut {a : Addr} (h : M.no a) : (M.cut n0).no a := ⟨fun z => h.1 (List.mem_of_mem_take z), h.2⟩
mutual
theorem rf_rep : ∀ {d : D} {v : V}, rf d = true → Rep K M H d v → Rep K (M.cut n0) H d v
  | .non, _, _, h => by unfold Rep at h ⊢; exact h
  | .bl _, _, _, h => by unfold Rep at h ⊢; exact h
  | .int _, _, _, h => by unfold Rep at h ⊢; exact h
  | .str _, _, _, h => by unfold Rep at h ⊢; exact h
  | .raw _, _, _, h => by unfold Rep at h ⊢; exact h
  | .dic, _, _, h => by
    unfold Rep at h ⊢
    obtain ⟨a, kvs, e, f, n⟩ := h
    exact ⟨a, kvs, e, f, no_cut n⟩
  | .mut _, _, r, h => by unfold rf at r; cases r
  | .tup xs, _, r, h => by
    unfold rf at r; unfold Rep at h ⊢
    obtain ⟨a, vs, e, f, q⟩ := h
    exact ⟨a, vs, e, f.imp (fun z => ⟨z.1, no_cut z.2⟩) id, rfL_rep r q⟩
  | .lst xs, _, r, h => by
    unfold rf at r; unfold Rep at h ⊢
    obtain ⟨a, vs, e, f, q⟩ := h
    exact ⟨a, vs, e, ⟨f.1, no_cut f.2⟩, rfL_rep r q⟩
  | .slo xs, _, r, h => by
    unfold rf at r; unfold Rep at h ⊢
    obtain ⟨a, vs, e, f, q⟩ := h
    exact ⟨a, vs, e, f.imp (fun z => ⟨z.1, no_cut z.2⟩) id, rfL_rep r q⟩
theorem rfL_rep : ∀ {ds : List D} {vs : List V}, rfL ds = true → RepL K M H ds vs → RepL K (M.cut n0) H ds vs
  | [], _, _, h => by unfold RepL at h ⊢; exact h
  | d :: ds, _, r, h => by
    unfold rfL at r; unfold RepL at h ⊢
    rw [Bool.and_eq_true] at r
    obtain ⟨v, rr, e, h1, h2⟩ := h
    exact ⟨v, rr, e, rf_rep r.1 h1, rfL_rep r.2 h2⟩
end
mutual
theorem thaw_rep {st : Sto} (so : StOk K M H st) : ∀ {k : Nat} {d d' : D} {v : V}, thaw st n0 k d = some d' → Rep K M H d v → Rep K (M.cut n0) H d' v
  | k, .non, d', _, e, h => by simp only [thaw] at e; cases e; unfold Rep at h ⊢; exact h
  | k, .bl _, d', _, e, h => by simp only [thaw] at e; cases e; unfold Rep at h ⊢; exact h
  | k, .int _, d', _, e, h => by simp only [thaw] at e; cases e; unfold Rep at h ⊢; exact h
  | k, .str _, d', _, e, h => by simp only [thaw] at e; cases e; unfold Rep at h ⊢; exact h
  | k, .raw _, d', _, e, h => by simp only [thaw] at e; cases e; unfold Rep at h ⊢; exact h
  | k, .dic, d', _, e, h => by
    simp only [thaw] at e; cases e; unfold Rep at h ⊢
    obtain ⟨a, kvs, e, f, n⟩ := h
    exact ⟨a, kvs, e, f, no_cut n⟩
  | k, .tup xs, d', _, e, h => by
    simp only [thaw] at e
    obtain ⟨ys, e1, rfl⟩ := Option.map_eq_some_iff.mp e
    unfold Rep at h ⊢
    obtain ⟨a, vs, e, f, q⟩ := h
    exact ⟨a, vs, e, f.imp (fun z => ⟨z.1, no_cut z.2⟩) id, thawL_rep so e1 q⟩
  | k, .lst xs, d', _, e, h => by
    simp only [thaw] at e
    obtain ⟨ys, e1, rfl⟩ := Option.map_eq_some_iff.mp e
    unfold Rep at h ⊢
    obtain ⟨a, vs, e, f, q⟩ := h
    exact ⟨a, vs, e, ⟨f.1, no_cut f.2⟩, thawL_rep so e1 q⟩
  | k, .slo xs, d', _, e, h => by
    simp only [thaw] at e
    split at e
    · rename_i r
      cases e
      exact rf_rep (by unfold rf; exact r) h
    · cases e
  | 0, .mut j, d', _, e, h => by simp only [thaw] at e; cases e
  | k + 1, .mut j, d', _, e, h => by
    simp only [thaw] at e
    split at e
    · cases e
    · rename_i hj
      split at e
      · rename_i xs e1
        split at e
        · rename_i r
          cases e
          unfold Rep at h ⊢
          obtain ⟨a, rfl, m⟩ := h
          obtain ⟨vs, hv, q⟩ := so.at_ j a _ m e1
          refine ⟨a, vs, rfl, ⟨hv, fun z => ?_, fun z => (so.pd a z).1 (List.mem_of_getElem? m)⟩, rfL_rep r q⟩
          obtain ⟨i, hi, e3⟩ := List.mem_iff_getElem.mp z
          have hi2 : i < M.m.length ∧ i < n0 := by simp [Mem.cut] at hi; omega
          have e4 : M.m[i] = a := by simpa [Mem.cut] using e3
          obtain ⟨hjl, e5⟩ := List.getElem?_eq_some_iff.mp m
          have := (List.getElem_inj so.nd).mp (e4.trans e5.symm)
          omega
        · cases e
      · cases e
theorem thawL_rep {st : Sto} (so : StOk K M H st) : ∀ {k : Nat} {ds ds' : List D} {vs : List V}, thawL st n0 k ds = some ds' → RepL K M H ds vs → RepL K (M.cut n0) H ds' vs
  | k, [], _, _, e, h => by simp only [thawL] at e; cases e; unfold RepL at h ⊢; exact h
  | k, d :: ds, ds', _, e, h => by
    simp only [thawL] at e
    split at e
    · rename_i a b e1 e2
      cases e
      unfold RepL at h ⊢
      obtain ⟨v, rr, e, h1, h2⟩ := h
      exact ⟨v, rr, e, thaw_rep so e1 h1, thawL_rep so e2 h2⟩
    · cases e
end
theorem fz_post {α : Type} {st : Sto} {Q : VK} {E : XK} {r : R D} (so : StOk K M H st) (p : Post K (Rep K) M H Q E (fz st.length r)) : Post K (Rep K) M H Q E r := by
  cases r with
  | exc e s => exact p
  | fail => exact p
  | ok d st1 =>
    unfold fz at p
    simp only at p
    split at p
    · rename_i d' e1 e2
      intro M' H' b g so' rb
      have el : M.m.length = st.length := so.len
      refine p (M'.cut st.length) H' b ⟨fun n a e => ?_, fun a o e n => ⟨(g.keep a o e n).1, no_cut (g.keep a o e n).2⟩, g.pp, g.prot, g.ff⟩ ⟨?_, ?_, fun a ha => ⟨fun z => (so'.pd a ha).1 (List.mem_of_mem_take z), (so'.pd a ha).2⟩, fun n a mo h1 h2 => ?_⟩ (thaw_rep so' e2 rb)
      · have hn := (List.getElem?_eq_some_iff.mp e).1
        show (M'.m.take st.length)[n]? = some a
        rw [List.getElem?_take_of_lt (by omega)]
        exact g.pre n a e
      · simp [Mem.cut, so'.len]
      · exact List.Nodup.sublist (List.take_sublist _ _) so'.nd
      · have h1 : (M'.m.take st.length)[n]? = some a := h1
        have hn : n < st.length := by
          have := (List.getElem?_eq_some_iff.mp h1).1
          simp at this; omega
        rw [List.getElem?_take_of_lt hn] at h1
        have h2' := h2
        rw [List.getElem?_take_of_lt hn] at h2
        have q := so'.at_ n a mo h1 h2
        have hm : rfM mo = true := List.all_eq_true.mp e1 mo (List.mem_of_getElem? h2')
        cases mo with
        | lst xs =>
          obtain ⟨vs, hv, rl⟩ := q
          exact ⟨vs, hv, rfL_rep hm rl⟩
        | dk kvs => exact q
        | dt kvs => exact q
        | fk kvs => exact q
    · exact p
end
theorem kn_fz {P : Program} {w : World} {K : PySem.W.Frag} {mg : Str → Option Value} {base : Heap} {x : Str} {s : Stmt} {ps : List Str} {k : Nat} {F : FA} (h : Kn P w K mg base x s ps k F) : Kn P w K mg base x s ps k (fzF F) := by
  obtain ⟨f, fd, h1, h2, h3, G⟩ := h.ex
  exact ⟨f, fd, h1, h2, h3, G.imp fun vs H Q E ⟨ds, M, st, r, so, p⟩ => ⟨ds, M, st, r, so, fz_post (α := Unit) so p⟩⟩

/-! ### reckoning -/
def rangeD (lo : Int) (n : Nat) : List D := (List.range n).map fun k => .int (lo + (k : Nat))
@[simp] theorem rangeD_length (lo : Int) (n : Nat) : (rangeD lo n).length = n := by simp [rangeD]
section
variable (env : Env) (st : Sto)
@[simp] theorem varE_0 (d : D) (r : Env) : varE 0 (some d :: r) st = .ok d st := rfl
@[simp] theorem varE_s (n : Nat) (o : Option D) (r : Env) : varE (n + 1) (o :: r) st = varE n r st := by
  unfold varE
  simp only [List.getElem?_cons_succ]
@[simp] theorem cE_eq (d : D) : cE d env st = .ok d st := rfl
@[simp] theorem unE_eq (f : F1) (a : EvE) : unE f a env st = (a env st).bind f := rfl
@[simp] theorem binE_eq (f : F2) (a b : EvE) : binE f a b env st = (a env st).bind fun x s1 => (b env s1).bind fun y s2 => f x y s2 := rfl
@[simp] theorem tstE_eq (a : EvE) : tstE a env st = (a env st).bind boolR := rfl
@[simp] theorem boolR_eq (b : Bool) : boolR (.bl b) st = .ok b st := rfl
@[simp] theorem chainE_eq (f g : F2) (a b c : EvE) : chainE f g a b c env st = (a env st).bind fun x s1 => (b env s1).bind fun y s2 => (f x y s2).bind fun z s3 => match z with
  | .bl true => (c env s3).bind fun v s4 => g y v s4
  | .bl false => .ok (.bl false) s3
  | _ => .fail := rfl
@[simp] theorem andB_eq (p q : EvB) : andB p q env st = (p env st).bind fun b s1 => if b = true then q env s1 else .ok false s1 := rfl
@[simp] theorem orB_eq (p q : EvB) : orB p q env st = (p env st).bind fun b s1 => if b = true then .ok true s1 else q env s1 := rfl
@[simp] theorem notB_eq (p : EvB) : notB p env st = (p env st).bind fun b s1 => .ok (!b) s1 := rfl
@[simp] theorem ifE_eq (t : EvB) (a b : EvE) : ifE t a b env st = (t env st).bind fun x s1 => if x = true then a env s1 else b env s1 := rfl
@[simp] theorem andE_eq (a b : EvE) : andE a b env st = (a env st).bind fun x s1 => match x with
  | .bl true => b env s1
  | .bl false => .ok (.bl false) s1
  | _ => .fail := rfl
@[simp] theorem orE_eq (a b : EvE) : orE a b env st = (a env st).bind fun x s1 => match x with
  | .bl true => .ok (.bl true) s1
  | .bl false => b env s1
  | _ => .fail := rfl
@[simp] theorem notE_eq (a : EvE) : notE a env st = (a env st).bind fun x s1 => match x with
  | .bl b => .ok (.bl (!b)) s1
  | _ => .fail := rfl
@[simp] theorem nilA_eq : nilA env st = .ok [] st := rfl
@[simp] theorem consA_eq (a : EvE) (r : EvA) : consA a r env st = (a env st).bind fun x s1 => (r env s1).bind fun xs s2 => .ok (x :: xs) s2 := rfl
@[simp] theorem starA_eq (a : EvE) (r : EvA) : starA a r env st = (a env st).bind fun x s1 => match itemsOf x with
  | some xs => (r env s1).bind fun ys s2 => .ok (xs ++ ys) s2
  | none => .fail := rfl
@[simp] theorem tupE_eq (fs : EvA) : tupE fs env st = (fs env st).bind fun xs s1 => if xs.length ≤ 16777216 then .ok (.tup xs) s1 else .fail := rfl
@[simp] theorem lstE_eq (fs : EvA) : lstE fs env st = (fs env st).bind fun xs s1 => if xs.length ≤ 16777216 then .ok (.lst xs) s1 else .fail := rfl
@[simp] theorem mutE_eq (fs : EvA) : mutE fs env st = (fs env st).bind fun xs s1 => if xs.length ≤ 16777216 then .ok (.mut s1.length) (s1 ++ [.lst xs]) else .fail := rfl
@[simp] theorem callE_eq (f : FA) (fs : EvA) : callE f fs env st = (fs env st).bind f := rfl
@[simp] theorem noO_eq : noO env st = .ok none st := rfl
@[simp] theorem someO_eq (a : EvE) : someO a env st = (a env st).bind fun x s1 => match x with
  | .int i => .ok (some i) s1
  | _ => .fail := rfl
@[simp] theorem sliceE_eq (a : EvE) (l h : EvO) : sliceE a l h env st = (a env st).bind fun x s1 => (l env s1).bind fun l s2 => (h env s2).bind fun h s3 => sliceD x l h s3 := rfl
@[simp] theorem callKE_eq (F : FA) (fs ks : EvA) (n m : Nat) (ix : List Nat) : callKE F fs ks n m ix env st = (fs env st).bind fun us s1 => (ks env s1).bind fun ws s2 => if us.length = n ∧ ws.length = m then F (pick us ws ix) s2 else .fail := rfl
@[simp] theorem methLE_eq (f : FM) (o : EvE) (fs : EvA) : methLE f o fs env st = (o env st).bind fun x s1 => if isL x s1 = true then (fs env s1).bind fun as s2 => f x as s2 else .fail := rfl
@[simp] theorem passS_eq : passS env st = .nx env st := rfl
@[simp] theorem failS_eq : failS env st = .fail := rfl
@[simp] theorem retS_eq (a : EvE) : retS a env st = bindS (a env st) env fun d s1 => .ret d s1 := rfl
@[simp] theorem retN_eq : retN env st = .ret .non st := rfl
@[simp] theorem exprS_eq (a : EvE) : exprS a env st = bindS (a env st) env fun _ s1 => .nx env s1 := rfl
@[simp] theorem ifS_eq (t : EvB) (f g : SvS) : ifS t f g env st = bindS (t env st) env fun b s1 => if b = true then f env s1 else g env s1 := rfl
/-- one behind the other -/
def thenS (s : S) (g : SvS) : S := match s with
  | .nx e s1 => g e s1
  | s => s
@[simp] theorem seqS_eq (f g : SvS) : seqS f g env st = thenS (f env st) g := by
  unfold seqS thenS
  cases f env st <;> rfl
@[simp] theorem thenS_nx (g : SvS) : thenS (.nx env st) g = g env st := rfl
@[simp] theorem thenS_ret (d : D) (g : SvS) : thenS (.ret d st) g = .ret d st := rfl
@[simp] theorem thenS_ite {c : Prop} [Decidable c] (a b : S) (g : SvS) : thenS (if c then a else b) g = if c then thenS a g else thenS b g := by split <;> rfl
@[simp] theorem asgS_eq (a : EvE) (g : TgF) : asgS a g env st = bindS (a env st) env fun d s1 => bindS (g d env s1) env fun e s2 => .nx e s2 := rfl
@[simp] theorem nameT_eq (i : Nat) (d : D) : nameT i d env st = .ok (env.set i (some d)) st := rfl
@[simp] theorem tupT_eq (n : Nat) (fs : List D → Env → Sto → R Env) (xs : List D) : tupT n fs (.tup xs) env st = if xs.length = n then fs xs env st else .fail := rfl
@[simp] theorem nilT_eq : nilT [] env st = .ok env st := rfl
@[simp] theorem consT_eq (f : TgF) (fs : List D → Env → Sto → R Env) (d : D) (r : List D) : consT f fs (d :: r) env st = match f d env st with
    | .ok e s => (match fs r e s with
      | .ok e2 s2 => .ok e2 s2
      | _ => .fail)
    | _ => .fail := rfl
@[simp] theorem parS_eq (i j : Nat) (fs : EvA) : parS i j fs env st = bindS (fs env st) env fun as s1 => match as with
  | [a, b] => .nx ((env.set i (some a)).set j (some b)) s1
  | _ => .fail := rfl
@[simp] theorem forS_eq (it : EvI) (g : TgF) (body : SvS) : forS it g body env st = bindS (it env st) env fun I s1 => match I with
  | .frz xs => loopF g body xs env s1
  | .gen nxt k => loopG g body nxt k 0 env s1 := rfl
@[simp] theorem tgT_nm (i : Nat) (d : D) : tgT (.nm i) d env st = .ok (env.set i (some d)) st := rfl
@[simp] theorem callI_eq (f : List D → Sto → R ItD) (fs : EvA) : callI f fs env st = (fs env st).bind f := rfl
@[simp] theorem iterE_eq (a : EvE) : iterE a env st = (a env st).bind iterD := rfl
@[simp] theorem iterD_tup (xs : List D) : iterD (.tup xs) st = .ok (.frz xs) st := rfl
@[simp] theorem iterD_lst (xs : List D) : iterD (.lst xs) st = .ok (.frz xs) st := rfl
@[simp] theorem iterD_slo (xs : List D) : iterD (.slo xs) st = .ok (.frz xs) st := rfl
@[simp] theorem range1F_eq (j : Int) : range1F [.int j] st = if j.natAbs < 2 ^ 62 then .ok (.frz (rangeD 0 j.toNat)) st else .fail := rfl
@[simp] theorem range2F_eq (i j : Int) : range2F [.int i, .int j] st = if i.natAbs < 2 ^ 62 ∧ j.natAbs < 2 ^ 62 then .ok (.frz (rangeD i (j - i).toNat)) st else .fail := rfl
@[simp] theorem addD_int (i j : Int) : addD (.int i) (.int j) st = .ok (.int (i + j)) st := rfl
@[simp] theorem subD_int (i j : Int) : subD (.int i) (.int j) st = .ok (.int (i - j)) st := rfl
@[simp] theorem mulD_int (i j : Int) : mulD (.int i) (.int j) st = if mulOk i j then .ok (.int (i * j)) st else .fail := rfl
@[simp] theorem fdivD_int (i j : Int) : fdivD (.int i) (.int j) st = if 0 < j ∧ j.natAbs < big then .ok (.int (i / j)) st else .fail := rfl
@[simp] theorem modD_int (i j : Int) : modD (.int i) (.int j) st = if 0 < j then .ok (.int (i % j)) st else .fail := rfl
@[simp] theorem powD_int (i j : Int) : powD (.int i) (.int j) st = if 0 ≤ j ∧ j ≤ 1000000 ∧ i.natAbs < 2 ^ 64 then .ok (.int (i ^ j.toNat)) st else .fail := rfl
@[simp] theorem negD_int (i : Int) : negD (.int i) st = .ok (.int (-i)) st := rfl
@[simp] theorem ltD_int (i j : Int) : ltD (.int i) (.int j) st = .ok (.bl (decide (i < j))) st := rfl
@[simp] theorem leD_int (i j : Int) : leD (.int i) (.int j) st = .ok (.bl (decide (i ≤ j))) st := rfl
@[simp] theorem gtD_int (i j : Int) : gtD (.int i) (.int j) st = .ok (.bl (decide (j < i))) st := rfl
@[simp] theorem geD_int (i j : Int) : geD (.int i) (.int j) st = .ok (.bl (decide (j ≤ i))) st := rfl
@[simp] theorem eqD_int (i j : Int) : eqD (.int i) (.int j) st = .ok (.bl (decide (i = j))) st := rfl
@[simp] theorem neD_int (i j : Int) : neD (.int i) (.int j) st = .ok (.bl (!decide (i = j))) st := rfl
@[simp] theorem absF_int (i : Int) : absF [.int i] st = .ok (.int (if i < 0 then -i else i)) st := rfl
@[simp] theorem intF_int (i : Int) : intF [.int i] st = .ok (.int i) st := rfl
@[simp] theorem maxF_int (i j : Int) : maxF [.int i, .int j] st = .ok (.int (if j > i then j else i)) st := rfl
@[simp] theorem minF_int (i j : Int) : minF [.int i, .int j] st = .ok (.int (if j < i then j else i)) st := rfl
@[simp] theorem divmodF_int (i j : Int) : divmodF [.int i, .int j] st = if 0 < j ∧ (j < 1073741824 ∨ i.natAbs < big ∨ j.natAbs < big) then .ok (.tup [.int (i / j), .int (i % j)]) st else .fail := rfl
@[simp] theorem lenF_tup (xs : List D) : lenF [.tup xs] st = .ok (.int xs.length) st := rfl
@[simp] theorem lenF_lst (xs : List D) : lenF [.lst xs] st = .ok (.int xs.length) st := rfl
@[simp] theorem lenF_slo (xs : List D) : lenF [.slo xs] st = .ok (.int xs.length) st := rfl
@[simp] theorem listF_tup (xs : List D) : listF [.tup xs] st = .ok (.lst xs) st := rfl
@[simp] theorem listF_lst (xs : List D) : listF [.lst xs] st = .ok (.lst xs) st := rfl
@[simp] theorem tupleF_tup (xs : List D) : tupleF [.tup xs] st = .ok (.tup xs) st := rfl
@[simp] theorem tupleF_lst (xs : List D) : tupleF [.lst xs] st = .ok (.tup xs) st := rfl
@[simp] theorem sumF_ints (ns : List Int) : sumF [.lst (ns.map D.int)] st = .ok (.int ns.sum) st := by
  show (match (some (ns.map D.int)).bind intsOf with
    | some ns => R.ok (D.int ns.sum) st
    | none => .fail) = _
  simp
@[simp] theorem allF_bools (ns : List Bool) : allF [.lst (ns.map D.bl)] st = .ok (.bl (ns.all id)) st := by
  show (match (some (ns.map D.bl)).bind boolsOf with
    | some ns => R.ok (D.bl (ns.all id)) st
    | none => .fail) = _
  simp
@[simp] theorem anyF_bools (ns : List Bool) : anyF [.lst (ns.map D.bl)] st = .ok (.bl (ns.any id)) st := by
  show (match (some (ns.map D.bl)).bind boolsOf with
    | some ns => R.ok (D.bl (ns.any id)) st
    | none => .fail) = _
  simp
@[simp] theorem sliceD_tup (xs : List D) (l h : Option Int) : sliceD (.tup xs) l h st = .ok (.tup (cutD xs l h)) st := rfl
@[simp] theorem sliceD_lst (xs : List D) (l h : Option Int) : sliceD (.lst xs) l h st = .ok (.lst (cutD xs l h)) st := rfl
@[simp] theorem sliceD_slo (xs : List D) (l h : Option Int) : sliceD (.slo xs) l h st = .ok (.lst (cutD xs l h)) st := rfl
@[simp] theorem itemsOf_tup (xs : List D) : itemsOf (.tup xs) = some xs := rfl
@[simp] theorem itemsOf_lst (xs : List D) : itemsOf (.lst xs) = some xs := rfl
@[simp] theorem isiD_int (c : Tag) (i : Int) : isiD c (.int i) st = .ok (.bl (isiB .int c)) st := rfl
@[simp] theorem isiD_bl (c : Tag) (i : Bool) : isiD c (.bl i) st = .ok (.bl (isiB .bl c)) st := rfl
@[simp] theorem isiD_str (c : Tag) (i : Str) : isiD c (.str i) st = .ok (.bl (isiB .str c)) st := rfl
@[simp] theorem isiD_non (c : Tag) : isiD c .non st = .ok (.bl (isiB .non c)) st := rfl
@[simp] theorem isiD_tup (c : Tag) (xs : List D) : isiD c (.tup xs) st = .ok (.bl (isiB .tup c)) st := rfl
@[simp] theorem isiD_lst (c : Tag) (xs : List D) : isiD c (.lst xs) st = .ok (.bl (isiB .lst c)) st := rfl
end
theorem runF_eq (n m : Nat) (B : SvS) (ds : List D) (st : Sto) (h : ds.length = n) : runF n m B ds st = match B (ds.map some ++ List.replicate (m - n) none) st with
  | .nx _ st1 => .ok .non st1
  | .ret d st1 => .ok d st1
  | .exc e _ st1 => .exc e st1
  | _ => .fail := by unfold runF; rw [if_pos h]; try (cases B (ds.map some ++ List.replicate (m - n) none) st <;> rfl)
theorem ixD_tup (xs : List D) (i : Int) (st : Sto) {d : D} (h : L2.atI xs i = some d) : ixD (.tup xs) (.int i) st = .ok d st := by
  show (match (some xs).bind fun xs => L2.atI xs i with
      | some d => R.ok d st
      | none => .fail) = _
  simp [h]
theorem ixD_lst (xs : List D) (i : Int) (st : Sto) {d : D} (h : L2.atI xs i = some d) : ixD (.lst xs) (.int i) st = .ok d st := by
  show (match (some xs).bind fun xs => L2.atI xs i with
      | some d => R.ok d st
      | none => .fail) = _
  simp [h]
theorem ixD_slo (xs : List D) (i : Int) (st : Sto) {d : D} (h : L2.atI xs i = some d) : ixD (.slo xs) (.int i) st = .ok d st := by
  show (match (some xs).bind fun xs => L2.atI xs i with
      | some d => R.ok d st
      | none => .fail) = _
  simp [h]
theorem ixD_mut (n : Nat) (xs : List D) (i : Int) (st : Sto) {d : D} (hn : st[n]? = some (.lst xs)) (h : L2.atI xs i = some d) : ixD (.mut n) (.int i) st = .ok d st := by
  have e : seqOf (.mut n) st = some xs := by simp [seqOf, hn]
  show (match (seqOf (.mut n) st).bind fun xs => L2.atI xs i with
      | some d => R.ok d st
      | none => .fail) = _
  simp [e, h]
end G

namespace G
open PySem PySem.Spec PyProof.Rows L2

def tupI (ts : List Int) : D := .tup (ts.map D.int)
def lstI (ts : List Int) : D := .lst (ts.map D.int)
def lstB (ts : List Bool) : D := .lst (ts.map D.bl)
@[simp] theorem cutD_from (xs : List D) (m : Nat) : cutD xs (some (m : Int)) none = xs.drop m := by
  unfold cutD
  rw [HT.sIx_nat, HT.sIx_none]
  by_cases h : m ≤ xs.length
  · rw [Nat.min_eq_left h, List.take_of_length_le (by simp)]
  · rw [Nat.min_eq_right (by omega), List.drop_of_length_le (Nat.le_refl _), List.drop_of_length_le (by omega)]
    simp
@[simp] theorem cutD_to (xs : List D) (m : Nat) : cutD xs none (some (m : Int)) = xs.take m := by
  unfold cutD
  rw [HT.sIx_nat, HT.sIx_none, List.drop_zero, Nat.sub_zero]
  by_cases h : m ≤ xs.length
  · rw [Nat.min_eq_left h]
  · rw [Nat.min_eq_right (by omega), List.take_of_length_le (Nat.le_refl _), List.take_of_length_le (by omega)]
@[simp] theorem cutD_both (xs : List D) (a b : Nat) : cutD xs (some (a : Int)) (some (b : Int)) = (xs.drop a).take (b - a) := by
  unfold cutD
  rw [HT.sIx_nat, HT.sIx_nat]
  apply List.ext_getElem?
  intro i
  rw [List.getElem?_take, List.getElem?_take, List.getElem?_drop, List.getElem?_drop]
  by_cases h1 : a ≤ xs.length
  · rw [show min a xs.length = a by omega]
    by_cases h2 : b ≤ xs.length
    · rw [show min b xs.length = b by omega]
    · rw [show min b xs.length = xs.length by omega]
      by_cases h3 : a + i < xs.length
      · rw [if_pos (by omega), if_pos (by omega)]
      · rw [List.getElem?_eq_none (by omega)]; simp
  · rw [show min a xs.length = xs.length by omega]
    have e1 : xs[xs.length + i]? = none := List.getElem?_eq_none (by omega)
    have e2 : xs[a + i]? = none := List.getElem?_eq_none (by omega)
    rw [e1, e2]
    simp
theorem atI_nat' {α : Type} (xs : List α) (i : Nat) (h : i < xs.length) : L2.atI xs (i : Int) = some xs[i] := by
  unfold L2.atI L2.ixN
  rw [if_pos (by omega), if_pos (by omega)]
  simp [h]
theorem atI_map {α β : Type} (f : α → β) (xs : List α) (i : Int) : L2.atI (xs.map f) i = (L2.atI xs i).map f := by
  unfold L2.atI
  rw [List.length_map]
  cases L2.ixN xs.length i with
  | none => rfl
  | some j => simp
theorem atI_emod {ts : List Int} {i : Int} (h : 0 ≤ i) (hl : i < ts.length) : L2.atI (ts.map D.int) i = some (.int (ts.getD i.toNat 0)) := by
  obtain ⟨k, rfl⟩ := Int.eq_ofNat_of_zero_le h
  rw [atI_map, atI_nat' ts k (by omega)]
  have hk : k < ts.length := by omega
  simp [List.getD, hk]

/-! ### lists of ints -/
def cutL {α : Type} (xs : List α) (lo hi : Option Int) : List α := (xs.drop (HT.sIx xs.length 0 lo)).take (HT.sIx xs.length xs.length hi - HT.sIx xs.length 0 lo)
theorem cutD_map {α : Type} (f : α → D) (xs : List α) (lo hi : Option Int) : cutD (xs.map f) lo hi = (cutL xs lo hi).map f := by
  unfold cutD cutL
  rw [List.length_map, List.map_take, List.map_drop]
theorem cutL_from {α : Type} (xs : List α) (m : Nat) : cutL xs (some (m : Int)) none = xs.drop m := by
  unfold cutL
  rw [HT.sIx_nat, HT.sIx_none]
  by_cases h : m ≤ xs.length
  · rw [Nat.min_eq_left h, List.take_of_length_le (by simp)]
  · rw [Nat.min_eq_right (by omega), List.drop_of_length_le (Nat.le_refl _), List.drop_of_length_le (by omega)]
    simp
theorem cutL_to {α : Type} (xs : List α) (m : Nat) : cutL xs none (some (m : Int)) = xs.take m := by
  unfold cutL
  rw [HT.sIx_nat, HT.sIx_none, List.drop_zero, Nat.sub_zero]
  by_cases h : m ≤ xs.length
  · rw [Nat.min_eq_left h]
  · rw [Nat.min_eq_right (by omega), List.take_of_length_le (Nat.le_refl _), List.take_of_length_le (by omega)]
section
variable (st : Sto) (ts : List Int)
@[simp] theorem lenF_tupI : lenF [tupI ts] st = .ok (.int ts.length) st := by unfold tupI; rw [lenF_tup, List.length_map]
@[simp] theorem lenF_lstI : lenF [lstI ts] st = .ok (.int ts.length) st := by unfold lstI; rw [lenF_lst, List.length_map]
@[simp] theorem listF_tupI : listF [tupI ts] st = .ok (lstI ts) st := rfl
@[simp] theorem listF_lstI : listF [lstI ts] st = .ok (lstI ts) st := rfl
@[simp] theorem tupleF_tupI : tupleF [tupI ts] st = .ok (tupI ts) st := rfl
@[simp] theorem tupleF_lstI : tupleF [lstI ts] st = .ok (tupI ts) st := rfl
@[simp] theorem sumF_tupI : sumF [tupI ts] st = .ok (.int ts.sum) st := by
  show (match (seqOf (D.tup (ts.map D.int)) st).bind intsOf with | some ns => _ | none => _) = _
  simp [seqOf, itemsOf]
@[simp] theorem sumF_lstI : sumF [lstI ts] st = .ok (.int ts.sum) st := sumF_ints st ts
@[simp] theorem sliceD_tupI (l h : Option Int) : sliceD (tupI ts) l h st = .ok (tupI (cutL ts l h)) st := by unfold tupI; rw [sliceD_tup, cutD_map]
@[simp] theorem sliceD_lstI (l h : Option Int) : sliceD (lstI ts) l h st = .ok (lstI (cutL ts l h)) st := by unfold lstI; rw [sliceD_lst, cutD_map]
@[simp] theorem itemsOf_tupI : itemsOf (tupI ts) = some (ts.map D.int) := rfl
@[simp] theorem itemsOf_lstI : itemsOf (lstI ts) = some (ts.map D.int) := rfl
@[simp] theorem iterD_tupI : iterD (tupI ts) st = .ok (.frz (ts.map D.int)) st := rfl
@[simp] theorem iterD_lstI : iterD (lstI ts) st = .ok (.frz (ts.map D.int)) st := rfl
@[simp] theorem isiD_tupI (c : Tag) : isiD c (tupI ts) st = .ok (.bl (isiB .tup c)) st := rfl
@[simp] theorem isiD_lstI (c : Tag) : isiD c (lstI ts) st = .ok (.bl (isiB .lst c)) st := rfl
@[simp] theorem allF_lstB (bs : List Bool) : allF [lstB bs] st = .ok (.bl (bs.all id)) st := allF_bools st bs
@[simp] theorem anyF_lstB (bs : List Bool) : anyF [lstB bs] st = .ok (.bl (bs.any id)) st := anyF_bools st bs
theorem ixD_tupI (i : Int) (h : 0 ≤ i) (hl : i < ts.length) : ixD (tupI ts) (.int i) st = .ok (.int (ts.getD i.toNat 0)) st := ixD_tup _ _ _ (atI_emod h hl)
theorem ixD_lstI (i : Int) (h : 0 ≤ i) (hl : i < ts.length) : ixD (lstI ts) (.int i) st = .ok (.int (ts.getD i.toNat 0)) st := ixD_lst _ _ _ (atI_emod h hl)
theorem divmodF_nat (n m : Nat) (h : 0 < m) (h2 : m < 1073741824 ∨ n < big) : divmodF [.int n, .int m] st = .ok (.tup [.int (n / m : Nat), .int (n % m : Nat)]) st := by
  rw [divmodF_int, if_pos ⟨by omega, h2.imp (fun z => by omega) (fun z => .inl (by simpa using z))⟩]; rfl
theorem lstI_fold : D.lst (ts.map D.int) = lstI ts := rfl
theorem tupI_fold : D.tup (ts.map D.int) = tupI ts := rfl
theorem lstB_fold (bs : List Bool) : D.lst (bs.map D.bl) = lstB bs := rfl
end

/-! ### loops by invariants -/
theorem loopF_nx {g : TgF} {body : SvS} (Inv : Nat → Env → Sto → Prop) : ∀ (xs : List D) (i : Nat) (env : Env) (st : Sto), Inv i env st →
    (∀ j x env st, xs[j]? = some x → Inv (i + j) env st → ∃ env' st', turnS (bindS (g x env st) env body) (fun e s => .nx e s) = .nx env' st' ∧ (∀ k, turnS (bindS (g x env st) env body) k = k env' st') ∧ Inv (i + j + 1) env' st') →
    ∃ env' st', loopF g body xs env st = .nx env' st' ∧ Inv (i + xs.length) env' st'
  | [], i, env, st, h0, _ => ⟨env, st, rfl, h0⟩
  | x :: xs, i, env, st, h0, hs => by
    obtain ⟨e1, s1, _, t1, h1⟩ := hs 0 x env st rfl h0
    obtain ⟨e2, s2, t2, h2⟩ := loopF_nx Inv xs (i + 1) e1 s1 h1 fun j y e s hj hI => by
      have := hs (j + 1) y e s (by simpa using hj) (by rw [show i + (j + 1) = i + 1 + j by omega]; exact hI)
      rw [show i + (j + 1) + 1 = i + 1 + j + 1 by omega] at this
      exact this
    refine ⟨e2, s2, ?_, by rw [show i + (x :: xs).length = i + 1 + xs.length by simp; omega]; exact h2⟩
    unfold loopF
    rw [t1]; exact t2
/-- the turn ends with nx -/
theorem loop_nx {g : TgF} {body : SvS} (Inv : Nat → Env → Sto → Prop) {xs : List D} {env : Env} {st : Sto} (h0 : Inv 0 env st)
    (hs : ∀ j x env st, xs[j]? = some x → Inv j env st → ∃ env' st', bindS (g x env st) env body = .nx env' st' ∧ Inv (j + 1) env' st') :
    ∃ env' st', loopF g body xs env st = .nx env' st' ∧ Inv xs.length env' st' := by
  have := loopF_nx (g := g) (body := body) Inv xs 0 env st h0 fun j x e s hj hI => by
    rw [Nat.zero_add] at hI ⊢
    obtain ⟨e1, s1, t1, h1⟩ := hs j x e s hj hI
    exact ⟨e1, s1, by rw [t1]; rfl, fun k => by rw [t1]; rfl, h1⟩
  simpa using this
theorem range_get {n i : Nat} {lo : Int} {x : D} (h : (rangeD lo n)[i]? = some x) : x = .int (lo + i) ∧ i < n := by
  unfold rangeD at h
  rw [List.getElem?_map] at h
  obtain ⟨k, hk, rfl⟩ := Option.map_eq_some_iff.mp h
  obtain ⟨h1, h2⟩ := List.getElem?_eq_some_iff.mp hk
  simp at h1 h2
  subst h2
  exact ⟨rfl, h1⟩
/-- a comprehension by an invariant of the store and the list so far -/
theorem lc_inv {t : Tg} {tt : EvB} {fe : EvE} {envw : Env} (Inv : Nat → Sto → List D → Prop) : ∀ (xs : List D) (i : Nat) (st : Sto) (acc : List D), Inv i st acc →
    (∀ j x st acc, xs[j]? = some x → Inv (i + j) st acc → ∃ st' acc', (∀ k, turnC t tt fe envw x st acc k = k st' acc') ∧ Inv (i + j + 1) st' acc') →
    ∃ st' acc', lcF t tt fe envw xs st acc = .ok acc' st' ∧ Inv (i + xs.length) st' acc'
  | [], i, st, acc, h0, _ => ⟨st, acc, rfl, h0⟩
  | x :: xs, i, st, acc, h0, hs => by
    obtain ⟨s1, a1, t1, h1⟩ := hs 0 x st acc rfl h0
    obtain ⟨s2, a2, t2, h2⟩ := lc_inv Inv xs (i + 1) s1 a1 h1 fun j y s a hj hI => by
      have := hs (j + 1) y s a (by simpa using hj) (by rw [show i + (j + 1) = i + 1 + j by omega]; exact hI)
      rw [show i + (j + 1) + 1 = i + 1 + j + 1 by omega] at this
      exact this
    refine ⟨s2, a2, ?_, by rw [show i + (x :: xs).length = i + 1 + xs.length by simp; omega]; exact h2⟩
    unfold lcF
    rw [t1]; exact t2
/-- one element, always taken -/
theorem turnC_yes {t : Tg} {fe : EvE} {envw env1 : Env} {x y : D} {st st' : Sto} {acc : List D} {k : Sto → List D → R (List D)} (h1 : t.set x envw = some env1) (h2 : fe env1 st = .ok y st') (h3 : acc.length < 16777216) :
    turnC t yesB fe envw x st acc k = k st' (acc ++ [y]) := by
  unfold turnC yesB noX
  simp [h1, h2, h3, R.bind]
/-- elements that leave the store as it is -/
theorem lc_map {t : Tg} {fe : EvE} {envw : Env} {st : Sto} (h : D → D) : ∀ (xs : List D) (acc : List D), (acc.length + xs.length ≤ 16777216) →
    (∀ x ∈ xs, ∃ env1, t.set x envw = some env1 ∧ fe env1 st = .ok (h x) st) → lcF t yesB fe envw xs st acc = .ok (acc ++ xs.map h) st
  | [], acc, _, _ => by simp [lcF]
  | x :: xs, acc, hl, hx => by
    obtain ⟨env1, h1, h2⟩ := hx x List.mem_cons_self
    simp only [List.length_cons] at hl
    unfold lcF
    rw [turnC_yes h1 h2 (by omega), lc_map h xs (acc ++ [h x]) (by simp; omega) fun y hy => hx y (List.mem_cons_of_mem _ hy)]
    simp
/-- .. with a test -/
theorem turnC_if {t : Tg} {tt : EvB} {fe : EvE} {envw env1 : Env} {x y : D} {st : Sto} {b : Bool} {acc : List D} {k : Sto → List D → R (List D)} (h1 : t.set x envw = some env1) (ht : tt env1 st = .ok b st) (h2 : b = true → fe env1 st = .ok y st) (h3 : acc.length < 16777216) :
    turnC t tt fe envw x st acc k = k st (if b = true then acc ++ [y] else acc) := by
  unfold turnC noX
  cases b with
  | false => simp [h1, ht, R.bind]
  | true => simp [h1, ht, h2 rfl, h3, R.bind]
theorem lc_filter {t : Tg} {tt : EvB} {fe : EvE} {envw : Env} {st : Sto} (p : D → Bool) (h : D → D) : ∀ (xs : List D) (acc : List D), (acc.length + xs.length ≤ 16777216) →
    (∀ x ∈ xs, ∃ env1, t.set x envw = some env1 ∧ tt env1 st = .ok (p x) st ∧ (p x = true → fe env1 st = .ok (h x) st)) → lcF t tt fe envw xs st acc = .ok (acc ++ (xs.filter p).map h) st
  | [], acc, _, _ => by simp [lcF]
  | x :: xs, acc, hl, hx => by
    obtain ⟨env1, h1, ht, h2⟩ := hx x List.mem_cons_self
    simp only [List.length_cons] at hl
    unfold lcF
    rw [turnC_if h1 ht h2 (by omega), lc_filter p h xs _ (by split <;> (try simp only [List.length_append, List.length_cons, List.length_nil]) <;> omega) fun y hy => hx y (List.mem_cons_of_mem _ hy)]
    cases e : p x with
    | false => simp [e]
    | true => simp [e]
@[simp] theorem lcE_eq (it : EvI) (t : Tg) (tt : EvB) (fe : EvE) (vs : List Nat) (env : Env) (st : Sto) : lcE it t tt fe vs env st = ((it env st).bind fun I st1 => match I with
  | .frz xs => lcF t tt fe (wipeE env vs) xs st1 []
  | .gen nxt k => lcG t tt fe (wipeE env vs) nxt k 0 st1 []).bind fun xs st1 => .ok (.lst xs) st1 := rfl
@[simp] theorem wipeE_nil (env : Env) : wipeE env [] = env := rfl
@[simp] theorem wipeE_cons (env : Env) (v : Nat) (vs : List Nat) : wipeE env (v :: vs) = (wipeE env vs).set v none := rfl
@[simp] theorem Tg_nm (i : Nat) (d : D) (env : Env) : Tg.set (.nm i) d env = some (env.set i (some d)) := by simp [Tg.set]

/-! ### pools of the laws' draws -/
def Pool (n : Nat) (st : Sto) : Prop := ∃ a b c : Int, st[n]? = some (.lst [.int a, .int b, .int c])
/-- only the pool has changed -/
def Eff (n : Nat) (st st' : Sto) : Prop := st'.length = st.length ∧ ∀ k, k ≠ n → st'[k]? = st[k]?
theorem Eff.refl {n : Nat} {st : Sto} : Eff n st st := ⟨rfl, fun _ _ => rfl⟩
theorem Eff.trans {n : Nat} {s1 s2 s3 : Sto} (a : Eff n s1 s2) (b : Eff n s2 s3) : Eff n s1 s3 := ⟨b.1.trans a.1, fun k h => (b.2 k h).trans (a.2 k h)⟩
theorem Eff.set {n : Nat} {st : Sto} {mo : MO} : Eff n st (st.set n mo) := ⟨by simp, fun k h => List.getElem?_set_ne (fun e => h e.symm)⟩
theorem at3_0 (a b c : D) : L2.atI [a, b, c] 0 = some a := rfl
theorem at3_1 (a b c : D) : L2.atI [a, b, c] 1 = some b := rfl
theorem at3_2 (a b c : D) : L2.atI [a, b, c] 2 = some c := rfl
theorem ix3_0 : L2.ixN 3 0 = some 0 := rfl
theorem ix3_1 : L2.ixN 3 1 = some 1 := rfl
theorem ix3_2 : L2.ixN 3 2 = some 2 := rfl
theorem setD_mut {n : Nat} {st : Sto} {xs : List D} {k : Int} {d : D} {j : Nat} (h : st[n]? = some (.lst xs)) (hj : L2.ixN xs.length k = some j) : setD (.mut n) (.int k) d st = some (st.set n (.lst (xs.set j d))) := by
  simp [setD, h, hj]
/-- the statement pool[i] = v -/
theorem subT_mut {n : Nat} {env : Env} {st : Sto} {xs : List D} {k : Int} {d : D} {j : Nat} {fo fi : EvE} (ho : fo env st = .ok (.mut n) st) (hi : fi env st = .ok (.int k) st) (h : st[n]? = some (.lst xs)) (hj : L2.ixN xs.length k = some j) :
    subT fo fi d env st = .ok env (st.set n (.lst (xs.set j d))) := by
  unfold subT
  simp [ho, hi, setD_mut h hj]
end G
namespace G
open PySem PySem.Spec PyProof.Rows L2
@[simp] theorem subT_eq (fo fi : EvE) (d : D) (env : Env) (st : Sto) : subT fo fi d env st = (fo env st).bind fun o s1 => (fi env s1).bind fun i s2 => match setD o i d s2 with
  | some s3 => .ok env s3
  | none => .fail := rfl
section
variable {st : Sto} {n : Nat}
theorem p_ix0 {x y z : D} (h : st[n]? = some (.lst [x, y, z])) : ixD (.mut n) (.int 0) st = .ok x st := ixD_mut n _ 0 st h rfl
theorem p_ix1 {x y z : D} (h : st[n]? = some (.lst [x, y, z])) : ixD (.mut n) (.int 1) st = .ok y st := ixD_mut n _ 1 st h rfl
theorem p_ix2 {x y z : D} (h : st[n]? = some (.lst [x, y, z])) : ixD (.mut n) (.int 2) st = .ok z st := ixD_mut n _ 2 st h rfl
theorem p_set0 {x y z : D} (h : st[n]? = some (.lst [x, y, z])) (d : D) : setD (.mut n) (.int 0) d st = some (st.set n (.lst [d, y, z])) := setD_mut (j := 0) h rfl
theorem p_set1 {x y z : D} (h : st[n]? = some (.lst [x, y, z])) (d : D) : setD (.mut n) (.int 1) d st = some (st.set n (.lst [x, d, z])) := setD_mut (j := 1) h rfl
theorem p_set2 {x y z : D} (h : st[n]? = some (.lst [x, y, z])) (d : D) : setD (.mut n) (.int 2) d st = some (st.set n (.lst [x, y, d])) := setD_mut (j := 2) h rfl
theorem p_get (h : n < st.length) (mo : MO) : (st.set n mo)[n]? = some mo := by simp [h]
end
end G
namespace G
section
variable (st : Sto)
@[simp] theorem isND_non : isND .non .non st = .ok (.bl true) st := rfl
@[simp] theorem isND_int (i : Int) : isND (.int i) .non st = .ok (.bl false) st := rfl
@[simp] theorem isND_bl (i : Bool) : isND (.bl i) .non st = .ok (.bl false) st := rfl
@[simp] theorem isND_str (i : PySem.Str) : isND (.str i) .non st = .ok (.bl false) st := rfl
@[simp] theorem isND_tup (i : List D) : isND (.tup i) .non st = .ok (.bl false) st := rfl
@[simp] theorem isND_lst (i : List D) : isND (.lst i) .non st = .ok (.bl false) st := rfl
@[simp] theorem isND_tupI (i : List Int) : isND (tupI i) .non st = .ok (.bl false) st := rfl
@[simp] theorem notND_non : notND .non .non st = .ok (.bl false) st := rfl
@[simp] theorem notND_int (i : Int) : notND (.int i) .non st = .ok (.bl true) st := rfl
@[simp] theorem notND_bl (i : Bool) : notND (.bl i) .non st = .ok (.bl true) st := rfl
@[simp] theorem notND_str (i : PySem.Str) : notND (.str i) .non st = .ok (.bl true) st := rfl
@[simp] theorem notND_tup (i : List D) : notND (.tup i) .non st = .ok (.bl true) st := rfl
@[simp] theorem notND_lst (i : List D) : notND (.lst i) .non st = .ok (.bl true) st := rfl
@[simp] theorem eqD_bl (i j : Bool) : eqD (.bl i) (.bl j) st = .ok (.bl (decide (i = j))) st := rfl
@[simp] theorem neD_bl (i j : Bool) : neD (.bl i) (.bl j) st = .ok (.bl (!decide (i = j))) st := rfl
end
end G

namespace G
open PySem
/-! ### how the laws draw (the first hundred laws' words, whatever their constants) -/
theorem mulOk_lit {i j : Int} (h : j.natAbs < 2 ^ 64) : mulOk i j := .inr (.inl h)
theorem mulOk_lit' {i j : Int} (h : i.natAbs < 2 ^ 64) : mulOk i j := .inl h
def belowA (c1 c2 c3 c4 c5 c6 c7 c8 : Int) : SvS := seqS (ifS (tstE (binE gtD (binE ixD (varE 0) (cE (.int 0))) (cE (.int 0)))) (seqS (asgS (callE divmodF (consA (binE ixD (varE 0) (cE (.int 0))) (consA (varE 1) (nilA)))) (tupT 2 (consT (subT (varE 0) (cE (.int 0))) (consT (nameT 2) (nilT))))) (retS (varE 2))) (passS)) (seqS (asgS (binE addD (binE ixD (varE 0) (cE (.int 2))) (cE (.int 1))) (subT (varE 0) (cE (.int 2)))) (seqS (asgS (binE modD (callE intF (consA (binE addD (binE addD (binE mulD (binE ixD (varE 0) (cE (.int 1))) (cE (.int c1))) (binE mulD (cE (.int c2)) (binE ixD (varE 0) (cE (.int 2))))) (cE (.int c3))) (nilA))) (cE (.int c4))) (nameT 3)) (seqS (asgS (binE modD (callE intF (consA (binE addD (binE mulD (varE 3) (binE addD (binE modD (callE intF (consA (varE 3) (nilA))) (cE (.int c5))) (cE (.int c6)))) (binE ixD (varE 0) (cE (.int 2)))) (nilA))) (cE (.int c7))) (subT (varE 0) (cE (.int 1)))) (retS (binE modD (callE intF (consA (binE fdivD (binE ixD (varE 0) (cE (.int 1))) (cE (.int c8))) (nilA))) (varE 1))))))
/-- a draw: a number from 0 on below m, only the pool changed -/
def Below (F : FA) : Prop := ∀ {st : Sto} {n : Nat} {m : Int}, Pool n st → 0 < m → m < 1073741824 → ∃ v st', F [.mut n, .int m] st = .ok (.int v) st' ∧ 0 ≤ v ∧ v < m ∧ Pool n st' ∧ Eff n st st'
theorem belowA_ok {c1 c2 c3 c4 c5 c6 c7 c8 : Int} (h : c1.natAbs < 2 ^ 64 ∧ c2.natAbs < 2 ^ 64 ∧ 0 < c4 ∧ c4 < 2 ^ 63 ∧ 0 < c5 ∧ 0 < c7 ∧ 0 < c8 ∧ c8.natAbs < 10 ^ 9) : Below (runF 2 4 (belowA c1 c2 c3 c4 c5 c6 c7 c8)) := by
  obtain ⟨k1, k2, k4, k4', k5, k7, k8, k8'⟩ := h
  intro st n m hp h1 h2
  obtain ⟨a, b, c, hp⟩ := hp
  have hn : n < st.length := (List.getElem?_eq_some_iff.mp hp).1
  by_cases ha : 0 < a
  · refine ⟨a % m, st.set n (.lst [.int (a / m), .int b, .int c]), ?_, Int.emod_nonneg _ (by omega), Int.emod_lt_of_pos _ h1, ⟨_, _, _, p_get hn _⟩, .set⟩
    simp [runF, belowA, p_ix0 hp, ha, h1, h2, p_set0 hp]
  · have g := fun x y z => p_get (n := n) hn (MO.lst [x, y, z])
    have s1 : mulOk b c1 := mulOk_lit k1
    have s2 : mulOk c2 (c + 1) := mulOk_lit' k2
    have s3 : c8.natAbs < big := Nat.lt_of_lt_of_le k8' (by unfold big; exact Nat.le_trans (by decide : 10 ^ 9 ≤ 2 ^ 30) (Nat.pow_le_pow_right (by decide) (by decide)))
    generalize hu : (b * c1 + c2 * (c + 1) + c3) % c4 = u
    have u1 : 0 ≤ u := by rw [← hu]; exact Int.emod_nonneg _ (by omega)
    have u2 : u < c4 := by rw [← hu]; exact Int.emod_lt_of_pos _ k4
    have s4 : ∀ j, mulOk u j := fun j => mulOk_lit' (by omega)
    refine ⟨(u * (u % c5 + c6) + (c + 1)) % c7 / c8 % m, st.set n (.lst [.int a, .int ((u * (u % c5 + c6) + (c + 1)) % c7), .int (c + 1)]), ?_, Int.emod_nonneg _ (by omega), Int.emod_lt_of_pos _ h1, ⟨_, _, _, p_get hn _⟩, .set⟩
    simp [runF, belowA, p_ix0 hp, ha, p_ix1 hp, p_ix2 hp, p_set2 hp, p_ix1 (g _ _ _), p_ix2 (g _ _ _), p_set1 (g _ _ _), h1, s1, s2, k4, k5, k7, k8, s3, hu, s4]
end G

namespace G
open PySem
theorem Eff.pool {n m : Nat} {st st' : Sto} (e : Eff n st st') (h : m ≠ n) (p : Pool m st) : Pool m st' := by
  obtain ⟨a, b, c, p⟩ := p
  exact ⟨a, b, c, (e.2 m h).trans p⟩
def greatA (FB : FA) (c1 c2 : Int) : SvS := seqS (asgS (cE (.int 0)) (nameT 2)) (seqS (forS (callI range1F (consA (cE (.int 6)) (nilA))) (tgT (.nm 3)) (asgS (binE addD (binE mulD (varE 2) (cE (.int c1))) (callE FB (consA (varE 0) (consA (cE (.int c2)) (nilA))))) (nameT 2))) (retS (binE modD (callE intF (consA (varE 2) (nilA))) (binE addD (varE 1) (cE (.int 1))))))
def Great (F : FA) : Prop := ∀ {st : Sto} {n : Nat} {w : Int}, Pool n st → 0 ≤ w → ∃ v st', F [.mut n, .int w] st = .ok (.int v) st' ∧ 0 ≤ v ∧ v ≤ w ∧ Pool n st' ∧ Eff n st st'
theorem greatA_ok {FB : FA} (hB : Below FB) {c1 c2 : Int} (h : c1.natAbs < 2 ^ 64 ∧ 0 < c2 ∧ c2 < 1073741824) : Great (runF 2 4 (greatA FB c1 c2)) := by
  obtain ⟨k1, k2, k3⟩ := h
  intro st n w hp hw
  have key := loop_nx (g := tgT (.nm 3)) (body := asgS (binE addD (binE mulD (varE 2) (cE (.int c1))) (callE FB (consA (varE 0) (consA (cE (.int c2)) (nilA))))) (nameT 2))
    (fun _ env s => ∃ (f : Int) (o : Option D), env = [some (.mut n), some (.int w), some (.int f), o] ∧ Pool n s ∧ Eff n st s) (xs := rangeD 0 6) (env := [some (.mut n), some (.int w), some (.int 0), none]) (st := st) ⟨0, none, rfl, hp, .refl⟩
    (by
      rintro j x env s hx ⟨f, o, rfl, hp', he⟩
      obtain ⟨v, s', e1, _, _, hp2, he2⟩ := hB hp' k2 k3
      have m1 : mulOk f c1 := mulOk_lit k1
      exact ⟨[some (.mut n), some (.int w), some (.int (f * c1 + v)), some x], s', by simp [m1, e1], _, _, rfl, hp2, he.trans he2⟩)
  obtain ⟨env', s', e, f, o, rfl, hp', he⟩ := key
  refine ⟨f % (w + 1), s', ?_, Int.emod_nonneg _ (by omega), by have := Int.emod_lt_of_pos f (show 0 < w + 1 by omega); omega, hp', he⟩
  have hw1 : 0 < w + 1 := by omega
  simp [runF, greatA, e, hw1]
def trackA (FB FG : FA) (c1 : Int) : SvS := retS (callE tupleF (consA (lcE (callI range1F (consA (binE addD (cE (.int 1)) (callE FB (consA (varE 0) (consA (cE (.int c1)) (nilA))))) (nilA))) (.nm 2) (yesB) (binE addD (cE (.int 1)) (callE FG (consA (varE 0) (consA (binE subD (varE 1) (cE (.int 1))) (nilA))))) [2]) (nilA)))
/-- a track of up to most sectors, each from 1 to w -/
def Track (F : FA) (most : Int) : Prop := ∀ {st : Sto} {n : Nat} {w : Int}, Pool n st → 1 ≤ w → ∃ ts st', F [.mut n, .int w] st = .ok (tupI ts) st' ∧ 1 ≤ ts.length ∧ (ts.length : Int) ≤ most ∧ (∀ x ∈ ts, 1 ≤ x ∧ x ≤ w) ∧ Pool n st' ∧ Eff n st st'
theorem trackA_ok {FB FG : FA} (hB : Below FB) (hG : Great FG) {c1 : Int} (h : 0 < c1 ∧ c1 < 1000) : Track (runF 2 3 (trackA FB FG c1)) c1 := by
  intro st n w hp hw
  obtain ⟨v, s1, e1, v0, v1, hp1, he1⟩ := hB (m := c1) hp h.1 (by omega)
  have key := lc_inv (t := .nm 2) (tt := yesB) (fe := binE addD (cE (.int 1)) (callE FG (consA (varE 0) (consA (binE subD (varE 1) (cE (.int 1))) (nilA))))) (envw := [some (.mut n), some (.int w), none])
    (fun i s acc => i ≤ 1000 ∧ ∃ ts : List Int, acc = ts.map D.int ∧ ts.length = i ∧ (∀ x ∈ ts, 1 ≤ x ∧ x ≤ w) ∧ Pool n s ∧ Eff n st s) (rangeD 0 (1 + v).toNat) 0 s1 [] ⟨by omega, [], rfl, rfl, by simp, hp1, he1⟩
    (by
      rintro j x s acc hx ⟨hi, ts, rfl, hl, hts, hp', he⟩
      obtain ⟨_, hj⟩ := range_get hx
      obtain ⟨g, s', e2, g0, g1, hp2, he2⟩ := hG (w := w - 1) hp' (by omega)
      refine ⟨s', ts.map D.int ++ [.int (1 + g)], fun k => turnC_yes (env1 := [some (.mut n), some (.int w), some x]) (by simp) (by simp [e2]) (by simp; omega), by omega, ts ++ [1 + g], by simp, by simp [hl], ?_, hp2, he.trans he2⟩
      intro y hy
      rcases List.mem_append.mp hy with hy | hy
      · exact hts y hy
      · simp at hy; omega)
  obtain ⟨s2, acc, e2, _, ts, rfl, hl, hts, hp2, he2⟩ := key
  have hlen : ts.length = (1 + v).toNat := by simpa using hl
  refine ⟨ts, s2, ?_, by omega, by omega, hts, hp2, he2⟩
  have hv : (1 + v).natAbs < 4611686018427387904 := by omega
  simp [runF, trackA, e1, hv, e2, tupI]
/-- one of some things -/
def oneA (FB : FA) : SvS := retS (binE ixD (varE 1) (callE FB (consA (varE 0) (consA (callE lenF (consA (varE 1) (nilA))) (nilA)))))
def One (F : FA) : Prop := ∀ {st : Sto} {n : Nat} {xs : List D}, Pool n st → xs ≠ [] → xs.length < 1000000 → ∃ d st', F [.mut n, .tup xs] st = .ok d st' ∧ d ∈ xs ∧ Pool n st' ∧ Eff n st st'
theorem oneA_ok {FB : FA} (hB : Below FB) : One (runF 2 2 (oneA FB)) := by
  intro st n xs hp h1 h2
  have hl : 0 < xs.length := List.length_pos_iff.mpr h1
  obtain ⟨v, s1, e1, v0, v1, hp1, he1⟩ := hB (m := xs.length) hp (by omega) (by omega)
  obtain ⟨k, rfl⟩ := Int.eq_ofNat_of_zero_le v0
  have hk : k < xs.length := by omega
  refine ⟨xs[k], s1, ?_, List.getElem_mem hk, hp1, he1⟩
  simp [runF, oneA, e1, ixD_tup _ _ s1 (atI_nat' xs k hk)]
def poolA (c1 c2 c3 c4 c5 c6 c7 c8 c9 c10 c11 c12 c13 c14 c15 : Int) : SvS := seqS (asgS (ifE (tstE (binE ltD (varE 1) (callE lenF (consA (varE 0) (nilA))))) (callE intF (consA (binE ixD (varE 0) (varE 1)) (nilA))) (binE addD (binE mulD (cE (.int c1)) (varE 1)) (cE (.int c2)))) (nameT 2)) (seqS (asgS (binE addD (cE (.int c3)) (binE mulD (cE (.int c4)) (varE 1))) (nameT 3)) (seqS (forS (iterE (sliceE (varE 0) (noO) (someO (cE (.int 12))))) (tgT (.nm 4)) (asgS (binE modD (callE intF (consA (binE addD (binE addD (binE mulD (varE 3) (cE (.int c5))) (binE modD (callE intF (consA (varE 4) (nilA))) (cE (.int c6)))) (cE (.int c7))) (nilA))) (cE (.int c8))) (nameT 3))) (seqS (asgS (binE modD (callE intF (consA (binE addD (binE addD (binE mulD (varE 3) (cE (.int c9))) (binE mulD (binE modD (callE intF (consA (varE 2) (nilA))) (cE (.int c10))) (cE (.int c11)))) (cE (.int c12))) (nilA))) (cE (.int c13))) (nameT 3)) (retS (mutE (consA (ifE (orB (tstE (binE ltD (varE 2) (cE (.int 0)))) (tstE (binE geD (varE 2) (binE powD (cE (.int 10)) (cE (.int c14)))))) (binE modD (callE intF (consA (callE absF (consA (varE 2) (nilA))) (nilA))) (binE powD (cE (.int 10)) (cE (.int c15)))) (cE (.int 0))) (consA (varE 3) (consA (cE (.int 0)) (nilA)))))))))
def MkPool (F : FA) : Prop := ∀ {st : Sto} {ns : List Int} {k : Nat}, ∃ a b c : Int, F [.slo (ns.map D.int), .int k] st = .ok (.mut st.length) (st ++ [.lst [.int a, .int b, .int c]])
theorem poolA_ok {c1 c2 c3 c4 c5 c6 c7 c8 c9 c10 c11 c12 c13 c14 c15 : Int} (h : c1.natAbs < 2 ^ 64 ∧ c4.natAbs < 2 ^ 64 ∧ c5.natAbs < 2 ^ 64 ∧ 0 < c6 ∧ 0 < c8 ∧ c9.natAbs < 2 ^ 64 ∧ 0 < c10 ∧ c11.natAbs < 2 ^ 64 ∧ 0 < c13 ∧ 0 ≤ c14 ∧ c14 ≤ 1000000 ∧ 0 ≤ c15 ∧ c15 ≤ 1000000) :
    MkPool (runF 2 5 (poolA c1 c2 c3 c4 c5 c6 c7 c8 c9 c10 c11 c12 c13 c14 c15)) := by
  obtain ⟨k1, k4, k5, k6, k8, k9, k10, k11, k13, k14, k14', k15, k15'⟩ := h
  intro st ns k
  have cell : ∃ z : Int, ∀ env : Env, (ifE (tstE (binE ltD (varE 1) (callE lenF (consA (varE 0) (nilA))))) (callE intF (consA (binE ixD (varE 0) (varE 1)) (nilA))) (binE addD (binE mulD (cE (.int c1)) (varE 1)) (cE (.int c2)))) (some (.slo (ns.map D.int)) :: some (.int k) :: env) st = .ok (.int z) st := by
    by_cases hk : k < ns.length
    · have hk' : (k : Int) < ns.length := by omega
      refine ⟨ns[k], fun env => ?_⟩
      simp [hk, ixD_slo _ _ st (atI_nat' (ns.map D.int) k (by simpa using hk))]
    · have m1 : mulOk c1 (k : Int) := mulOk_lit' k1
      exact ⟨c1 * k + c2, fun env => by simp [hk, m1]⟩
  obtain ⟨z, cell⟩ := cell
  have m2 : mulOk c4 (k : Int) := mulOk_lit' k4
  have key := loop_nx (g := tgT (.nm 4)) (body := asgS (binE modD (callE intF (consA (binE addD (binE addD (binE mulD (varE 3) (cE (.int c5))) (binE modD (callE intF (consA (varE 4) (nilA))) (cE (.int c6)))) (cE (.int c7))) (nilA))) (cE (.int c8))) (nameT 3))
    (fun _ env s => ∃ (f : Int) (o : Option D), env = [some (.slo (ns.map D.int)), some (.int k), some (.int z), some (.int f), o] ∧ s = st) (xs := (ns.take 12).map D.int) (env := [some (.slo (ns.map D.int)), some (.int k), some (.int z), some (.int (c3 + c4 * k)), none]) (st := st) ⟨_, none, rfl, rfl⟩
    (by
      rintro j x env s hx ⟨f, o, rfl, rfl⟩
      rw [List.getElem?_map] at hx
      obtain ⟨y, _, rfl⟩ := Option.map_eq_some_iff.mp hx
      have m3 : mulOk f c5 := mulOk_lit k5
      exact ⟨[some (.slo (ns.map D.int)), some (.int k), some (.int z), some (.int ((f * c5 + y % c6 + c7) % c8)), some (.int y)], s, by simp [m3, k6, k8], _, _, rfl, rfl⟩)
  obtain ⟨env', s', e, f, o, rfl, rfl⟩ := key
  have m4 : mulOk f c9 := mulOk_lit k9
  have m5 : mulOk (z % c10) c11 := mulOk_lit k11
  have p10 : ∀ j : Nat, (0 : Int) < 10 ^ j := fun j => Int.pow_pos (by decide)
  have h12 : cutL ns none (some 12) = ns.take 12 := cutL_to ns 12
  have e' : loopF (tgT (.nm 4)) (asgS (binE modD (callE intF (consA (binE addD (binE addD (binE mulD (varE 3) (cE (.int c5))) (binE modD (callE intF (consA (varE 4) (nilA))) (cE (.int c6)))) (cE (.int c7))) (nilA))) (cE (.int c8))) (nameT 3)) (cutD (ns.map D.int) none (some 12)) [some (.slo (ns.map D.int)), some (.int k), some (.int z), some (.int (c3 + c4 * k)), none] s' = .nx [some (.slo (ns.map D.int)), some (.int k), some (.int z), some (.int f), o] s' := by
    rw [cutD_map, h12]; exact e
  refine ⟨if z < 0 ∨ 10 ^ c14.toNat ≤ z then (if z < 0 then -z else z) % 10 ^ c15.toNat else 0, (f * c9 + z % c10 * c11 + c12) % c13, 0, ?_⟩
  unfold runF poolA
  simp only [List.length_cons, List.length_nil, if_true, seqS_eq, asgS_eq, List.map_cons, List.map_nil, List.cons_append, List.nil_append]
  rw [show (5 - 2 : Nat) = 3 from rfl]
  simp only [List.replicate]
  rw [cell]
  by_cases z1 : z < 0
  · simp [m2, e', m4, m5, k10, k13, z1, p10, k14, k14', k15, k15']
  · by_cases z2 : 10 ^ c14.toNat ≤ z
    · simp [m2, e', m4, m5, k10, k13, z1, z2, p10, k14, k14', k15, k15']
    · simp [m2, e', m4, m5, k10, k13, z1, z2, p10, k14, k14', k15, k15']
end G

namespace G
open PySem
theorem pool_new {st : Sto} {a b c : Int} : Pool st.length (st ++ [.lst [.int a, .int b, .int c]]) := ⟨a, b, c, by simp⟩
def Right (F : FA) : Prop := ∀ {st : Sto} {n : Nat}, Pool n st → ∃ st', F [.mut n] st = .ok (.bl true) st'
def lawA (FP FR : FA) (c : Int) : SvS := retS (callE allF (consA (lcE (callI range1F (consA (callE maxF (consA (cE (.int 1)) (consA (callE minF (consA (callE lenF (consA (varE 0) (nilA))) (consA (cE (.int c)) (nilA)))) (nilA)))) (nilA))) (.nm 1) (yesB) (callE FR (consA (callE FP (consA (varE 0) (consA (varE 1) (nilA)))) (nilA))) [1]) (nilA)))
theorem lawA_ok {FP FR : FA} {c : Int} (hP : MkPool FP) (hR : Right FR) (hc : c ≤ 1000) (ns : List Int) : ∃ st, runF 1 2 (lawA FP FR c) [.slo (ns.map D.int)] [] = .ok (.bl true) st := by
  have h0 : ∀ q : Int, 0 ≤ q → ∃ k : Nat, q = k := fun q h => ⟨q.toNat, by omega⟩
  generalize hq : (max 1 (if c < (ns.length : Int) then c else ns.length) : Int) = q
  have hq1 : 0 ≤ q ∧ q ≤ 1000 ∨ 1000 < ns.length := by split at hq <;> omega
  have hq0 : 1 ≤ q := by omega
  have hqn : q ≤ 1000 := by split at hq <;> omega
  have key := lc_inv (t := .nm 1) (tt := yesB) (fe := callE FR (consA (callE FP (consA (varE 0) (consA (varE 1) (nilA)))) (nilA))) (envw := [some (.slo (ns.map D.int)), none])
    (fun i s acc => acc = (List.replicate i true).map D.bl) (rangeD 0 q.toNat) 0 [] [] rfl
    (by
      rintro j x s acc hx rfl
      obtain ⟨rfl, hj⟩ := range_get hx
      obtain ⟨a, b, c, e1⟩ := hP (st := s) (ns := ns) (k := j)
      obtain ⟨s', e2⟩ := hR (st := s ++ [.lst [.int a, .int b, .int c]]) (n := s.length) pool_new
      refine ⟨s', (List.replicate (0 + j + 1) true).map D.bl, fun k => ?_, rfl⟩
      rw [turnC_yes (y := .bl true) (st' := s') (env1 := [some (.slo (ns.map D.int)), some (.int (0 + j))]) (by simp) (by simp [e1, e2]) (by simp; omega)]
      rw [List.replicate_succ', List.map_append]; rfl)
  obtain ⟨s2, acc, e2, rfl⟩ := key
  refine ⟨s2, ?_⟩
  have hb : q.natAbs < 4611686018427387904 := by omega
  have e : (if (if c < (ns.length : Int) then c else (ns.length : Int)) > 1 then (if c < (ns.length : Int) then c else (ns.length : Int)) else 1) = q := by
    rw [← hq]; split <;> split <;> omega
  simp only [runF, lawA, List.length_cons, List.length_nil]
  simp [e, hb, e2]
  have ea := allF_bools s2 (List.replicate q.toNat true)
  rw [List.map_replicate] at ea
  rw [ea]
  simp
end G

namespace G
open PySem PySem.Spec PyProof.Rows L2
section
variable {X : Cx} {W : WX} {fa fb fc : EvE} {a b c : Expr} {pos : Pos}
theorem rd_chain {r r' : R2} {f f' : F2} (hv : OpV X.K r f) (hv' : OpV X.K r' f') : ∀ σ H Q, rdE X.K W (chainE f f' fa fb fc) σ H Q → tChain r r' (rdE X.K W fa) (rdE X.K W fb) (rdE X.K W fc) σ H Q :=
  fun σ H Q ⟨env, M, st, eo, so, p⟩ => ⟨env, M, st, eo, so, Post.imp (Post.bind p) fun x H1 ⟨M1, st1, a, g, so1, ra, p1⟩ =>
    ⟨env, M1, st1, eo.grow g, so1, Post.imp (Post.bind p1) fun y H2 ⟨M2, st2, b, g2, so2, rb, p2⟩ => hv a b x y M2 H2 st2 _ _ (ra.grow g2) rb so2 (Post.imp (Post.bind (rep := Rep X.K) p2) fun z H3 ⟨M3, st3, zd, g3, so3, rz, p3⟩ => by
      cases zd with
      | bl k =>
        unfold Rep at rz
        subst rz
        cases k with
        | true => exact ⟨true, rfl, iteT ⟨env, M3, st3, (eo.grow g).grow (g2.trans g3), so3, Post.imp (Post.bind p3) fun w H4 ⟨M4, st4, cd, g4, so4, rc, p4⟩ => hv' b cd y w M4 H4 st4 _ _ (rb.grow (g3.trans g4)) rc so4 p4⟩⟩
        | false => exact ⟨false, rfl, iteF (p3 M3 H3 _ .refl so3 (rep_bl _ _ _))⟩
      | _ => exact p3.elim)⟩⟩
theorem g_tchain {op op' : CmpOp} {r r' : R2} {f f' : F2} (h0 : PT X (.Compare a [op, op'] [b, c] pos) (tTest (tChain r r' (rdE X.K W fa) (rdE X.K W fb) (rdE X.K W fc)))) (hv : OpV X.K r f) (hv' : OpV X.K r' f') :
    PT X (.Compare a [op, op'] [b, c] pos) (rdB X.K W (tstE (chainE f f' fa fb fc))) :=
  h0.imp fun σ H Q q => rd_chain hv hv' σ H _ (rd_tst σ H Q q)
theorem s_par3 {i j k : Nat} {fs : EvA} {s : Stmt} (h : PS X s (tPar3 i j k (rdA X.K W fs))) : PS X s (rdS X.K W (parS3 i j k fs)) :=
  h.imp fun T σ H ⟨env, M, st, eo, so, p⟩ => ⟨env, M, st, eo, so, Post.imp (PostS.bind eo p) fun vs H1 ⟨M1, st1, ds, g, so1, ra, p1⟩ => by
    match ds, ra, p1 with
    | [a, b, c], ra, p1 =>
      unfold RepL at ra
      obtain ⟨x, r, rfl, rx, ra⟩ := ra
      obtain ⟨y, z, rfl, ry, rz⟩ := ra.two
      exact ⟨x, y, z, rfl, p1 M1 H1 _ .refl so1 ((((eo.grow g).set i rx).set j ry).set k rz)⟩
    | [], _, p1 => exact p1.elim
    | [_], _, p1 => exact p1.elim
    | [_, _], _, p1 => exact p1.elim
    | _ :: _ :: _ :: _ :: _, _, p1 => exact p1.elim⟩
end
section
variable (k : Env → Sto → S)
@[simp] theorem turnS_nx (env : Env) (st : Sto) : turnS (.nx env st) k = k env st := rfl
@[simp] theorem turnS_ret (d : D) (st : Sto) : turnS (.ret d st) k = .ret d st := rfl
end
@[simp] theorem loopF_nil (g : TgF) (body : SvS) (env : Env) (st : Sto) : loopF g body [] env st = .nx env st := rfl
@[simp] theorem loopF_cons (g : TgF) (body : SvS) (x : D) (xs : List D) (env : Env) (st : Sto) : loopF g body (x :: xs) env st = turnS (bindS (g x env st) env body) (loopF g body xs) := rfl
@[simp] theorem parS3_eq (i j k : Nat) (fs : EvA) (env : Env) (st : Sto) : parS3 i j k fs env st = bindS (fs env st) env fun as st1 => match as with
  | [a, b, c] => .nx (((env.set i (some a)).set j (some b)).set k (some c)) st1
  | _ => .fail := rfl
/-! is True, is False -/
def isBD : F2 := fun a b st => match a, b with
  | .bl x, .bl y => .ok (.bl (decide (x = y))) st
  | _, _ => .fail
def notBD : F2 := fun a b st => match a, b with
  | .bl x, .bl y => .ok (.bl (!decide (x = y))) st
  | _, _ => .fail
def inO (a b : D) (st : Sto) : Option Bool := match toPD a, (seqOf b st).bind toPDs with
  | some d, some ds => if SeqAt.shaped d = true ∧ SeqAt.shaped (.list ds) = true then some (ds.any fun z => PyData.eqv z d) else none
  | _, _ => none
def inD : F2 := fun a b st => match inO a b st with
  | some k => .ok (.bl k) st
  | none => .fail
def notInD : F2 := fun a b st => match inO a b st with
  | some k => .ok (.bl (!k)) st
  | none => .fail
section
variable {K : PySem.W.Frag} {M : Mem} {H : Hp}
theorem v_isB : OpV K rIsB isBD := by
  intro a b x y M H st Q E ra rb so p
  unfold isBD at p
  split at p
  · unfold Rep at ra rb; subst ra rb
    exact ⟨_, _, rfl, rfl, p M H _ .refl so (rep_bl _ _ _)⟩
  · exact p.elim
theorem v_notB : OpV K rNotB notBD := by
  intro a b x y M H st Q E ra rb so p
  unfold notBD at p
  split at p
  · unfold Rep at ra rb; subst ra rb
    exact ⟨_, _, rfl, rfl, p M H _ .refl so (rep_bl _ _ _)⟩
  · exact p.elim
def rInB (K : PySem.W.Frag) : R2 := fun x y H Q => ∃ d ds, Dp K H x d ∧ (Dp K H y (.list ds) ∨ Dp K H y (.tuple ds)) ∧ SeqAt.shaped d = true ∧ SeqAt.shaped (.list ds) = true ∧ Q (.bl (ds.any fun z => PyData.eqv z d)) H
def rNotInB (K : PySem.W.Frag) : R2 := fun x y H Q => ∃ d ds, Dp K H x d ∧ (Dp K H y (.list ds) ∨ Dp K H y (.tuple ds)) ∧ SeqAt.shaped d = true ∧ SeqAt.shaped (.list ds) = true ∧ Q (.bl (!ds.any fun z => PyData.eqv z d)) H
theorem inO_rep {a b : D} {st : Sto} {k : Bool} {x y : V} (h : inO a b st = some k) (ra : Rep K M H a x) (rb : Rep K M H b y) (so : StOk K M H st) :
    ∃ d ds, Dp K H x d ∧ (Dp K H y (.list ds) ∨ Dp K H y (.tuple ds)) ∧ SeqAt.shaped d = true ∧ SeqAt.shaped (.list ds) = true ∧ k = ds.any fun z => PyData.eqv z d := by
  unfold inO at h
  split at h
  · rename_i d ds h1 h2
    split at h
    · rename_i hs
      cases h
      obtain ⟨xs, e1, e2⟩ := Option.bind_eq_some_iff.mp h2
      obtain ⟨t, vs, rfl, q, s⟩ := seqOf_rep so e1 rb
      refine ⟨d, ds, toPD_rep h1 ra, ?_, hs.1, hs.2, rfl⟩
      rcases s with s | s
      · exact .inr (.tup s (toPDs_rep e2 q))
      · exact .inl (.lst s (toPDs_rep e2 q))
    · cases h
  · cases h
theorem v_in : OpV K (rInB K) inD := by
  intro a b x y M H st Q E ra rb so p
  unfold inD at p
  split at p
  · rename_i k h
    obtain ⟨d, ds, h1, h2, h3, h4, rfl⟩ := inO_rep h ra rb so
    exact ⟨d, ds, h1, h2, h3, h4, p M H _ .refl so (rep_bl _ _ _)⟩
  · exact p.elim
theorem v_notIn : OpV K (rNotInB K) notInD := by
  intro a b x y M H st Q E ra rb so p
  unfold notInD at p
  split at p
  · rename_i k h
    obtain ⟨d, ds, h1, h2, h3, h4, rfl⟩ := inO_rep h ra rb so
    exact ⟨d, ds, h1, h2, h3, h4, p M H _ .refl so (rep_bl _ _ _)⟩
  · exact p.elim
end
section
variable {X : Cx}
theorem room65 {k : Nat} {A : Around} (r : RoomG k A) : A.units + 65 < cLine := by have := r.un; omega
theorem o_in (hu : X.A.units + 65 < cLine) : OpR X (compareOp .In) (rInB X.K) := by
  intro pins s σ H x y v u Q I rx ry h
  obtain ⟨d, ds, hd, he, sd, se, q⟩ := h
  obtain ⟨as, r1⟩ := Dp.reads I d x v hd rx
  rcases he with he | he
  · obtain ⟨bs, r2⟩ := Dp.reads I (.list ds) y u he ry
    exact SeqAt.in_list_reads r2 r1 (SeqAt.canLay_of_shaped se) (SeqAt.canLay_of_shaped sd) (room_in_shaped sd hu) ⟨.bl _, H, I, rfl, q⟩
  · obtain ⟨bs, r2⟩ := Dp.reads I (.tuple ds) y u he ry
    exact SeqAt.in_tuple_reads r2 r1 (SeqAt.canLay_of_shaped se) (SeqAt.canLay_of_shaped sd) (room_in_shaped sd hu) ⟨.bl _, H, I, rfl, q⟩
theorem o_notIn (hu : X.A.units + 65 < cLine) : OpR X (compareOp .NotIn) (rNotInB X.K) := by
  intro pins s σ H x y v u Q I rx ry h
  obtain ⟨d, ds, hd, he, sd, se, q⟩ := h
  obtain ⟨as, r1⟩ := Dp.reads I d x v hd rx
  rcases he with he | he
  · obtain ⟨bs, r2⟩ := Dp.reads I (.list ds) y u he ry
    exact SeqAt.notIn_list_reads r2 r1 (SeqAt.canLay_of_shaped se) (SeqAt.canLay_of_shaped sd) (room_in_shaped sd hu) ⟨.bl _, H, I, rfl, q⟩
  · obtain ⟨bs, r2⟩ := Dp.reads I (.tuple ds) y u he ry
    exact SeqAt.notIn_tuple_reads r2 r1 (SeqAt.canLay_of_shaped se) (SeqAt.canLay_of_shaped sd) (room_in_shaped sd hu) ⟨.bl _, H, I, rfl, q⟩
end
section
variable (st : Sto)
@[simp] theorem intF_bl (b : Bool) : intF [.bl b] st = .ok (.int (if b = true then 1 else 0)) st := rfl
@[simp] theorem isBD_bl (x y : Bool) : isBD (.bl x) (.bl y) st = .ok (.bl (decide (x = y))) st := rfl
@[simp] theorem notBD_bl (x y : Bool) : notBD (.bl x) (.bl y) st = .ok (.bl (!decide (x = y))) st := rfl
@[simp] theorem toPDs_ints : ∀ ns : List Int, toPDs (ns.map D.int) = some (ns.map PyData.int)
  | [] => by simp [toPDs]
  | n :: ns => by simp [toPDs, toPD, toPDs_ints ns]
theorem canLayAll_ints : ∀ ns : List Int, PyData.canLayAll0 (ns.map PyData.int) = true
  | [] => by simp [PyData.canLayAll0]
  | n :: ns => by simp [PyData.canLayAll0, PyData.canLay0, canLayAll_ints ns]
theorem depthAll_ints : ∀ ns : List Int, PyData.depthAll (ns.map PyData.int) = 0
  | [] => by simp [PyData.depthAll]
  | n :: ns => by simp [PyData.depthAll, PyData.depth, depthAll_ints ns]
theorem shaped_ints (ns : List Int) : SeqAt.shaped (.list (ns.map PyData.int)) = true := by
  simp [SeqAt.shaped, PyData.canLay0, canLayAll_ints, PyData.depth, depthAll_ints]
theorem inO_ints (i : Int) (b : D) (ns : List Int) (h : seqOf b st = some (ns.map D.int)) : inO (.int i) b st = some (decide (i ∈ ns)) := by
  unfold inO
  rw [h, Option.bind_some, toPDs_ints]
  show (if SeqAt.shaped (.int i) = true ∧ SeqAt.shaped (.list (ns.map PyData.int)) = true then _ else _) = _
  rw [if_pos ⟨by simp [SeqAt.shaped, PyData.canLay0, PyData.depth], shaped_ints ns⟩, List.any_map]
  congr 1
  rw [Bool.eq_iff_iff]
  simp only [List.any_eq_true, Function.comp, decide_eq_true_iff]
  constructor
  · rintro ⟨x, hx, e⟩
    have : x = i := by simpa [PyData.eqv] using e
    exact this ▸ hx
  · exact fun h => ⟨i, h, by simp [PyData.eqv]⟩
theorem inD_ints (i : Int) (b : D) (ns : List Int) (h : seqOf b st = some (ns.map D.int)) : inD (.int i) b st = .ok (.bl (decide (i ∈ ns))) st := by
  unfold inD; rw [inO_ints st i b ns h]
theorem notInD_ints (i : Int) (b : D) (ns : List Int) (h : seqOf b st = some (ns.map D.int)) : notInD (.int i) b st = .ok (.bl (!decide (i ∈ ns))) st := by
  unfold notInD; rw [inO_ints st i b ns h]
@[simp] theorem inD_tupI (i : Int) (ns : List Int) : inD (.int i) (tupI ns) st = .ok (.bl (decide (i ∈ ns))) st := inD_ints st i _ ns rfl
@[simp] theorem inD_lstI (i : Int) (ns : List Int) : inD (.int i) (lstI ns) st = .ok (.bl (decide (i ∈ ns))) st := inD_ints st i _ ns rfl
@[simp] theorem notInD_tupI (i : Int) (ns : List Int) : notInD (.int i) (tupI ns) st = .ok (.bl (!decide (i ∈ ns))) st := notInD_ints st i _ ns rfl
@[simp] theorem notInD_lstI (i : Int) (ns : List Int) : notInD (.int i) (lstI ns) st = .ok (.bl (!decide (i ∈ ns))) st := notInD_ints st i _ ns rfl
@[simp] theorem notInD_tup2 (i a b : Int) : notInD (.int i) (.tup [.int a, .int b]) st = .ok (.bl (!decide (i = a ∨ i = b))) st := by
  rw [notInD_ints st i _ [a, b] rfl]; simp
@[simp] theorem inD_tup2 (i a b : Int) : inD (.int i) (.tup [.int a, .int b]) st = .ok (.bl (decide (i = a ∨ i = b))) st := by
  rw [inD_ints st i _ [a, b] rfl]; simp
end
end G

namespace G
open PySem PySem.Spec PyProof.Rows L2 HT
/-! xs[::-1] of lists and tuples -/
section
variable {prog : Program} {w : World} {A : Around} {E : Value → Shared → Prop} {s : Shared}
theorem places_rev (n : Nat) : Builtin.Slice.slicePlaces ((n : Int) - 1) (-1) (-1) = n := by
  unfold Builtin.Slice.slicePlaces
  rw [if_neg (by decide)]
  by_cases h : (n : Int) - 1 > -1
  · rw [if_pos h, show (-(-1 : Int)) = 1 by decide, Int.ediv_one]; omega
  · rw [if_neg h]; omega
theorem sliceApplied_rev {sl : Addr} {vl vu vs : Value} {n : Nat} {Q : Int × Int × Nat → Shared → Prop} (hs : s.heap.IsSliceOf sl vl vu vs) (pl : IsPart vl none) (pu : IsPart vu none) (ps : IsPart vs (some (-1)))
    (h : Q ((n : Int) - 1, -1, n) s) : wpAny (model prog w) A (Builtin.Slice.sliceApplied (.ref sl) (pure (n : Int))) Q E s := by
  obtain ⟨os, hos, hcs, hds⟩ := id hs
  unfold Builtin.Slice.sliceApplied Builtin.Slice.sliceFields
  refine wpAny_bind (wpAny_bind (wpAny_field hos hds (x := vl) rfl (wpAny_bind (wpAny_field hos hds (x := vu) rfl (wpAny_bind (wpAny_field hos hds (x := vs) rfl (wpAny_pure ?_)))))))
  refine wpAny_bind (slicePart_ ps ?_)
  show wpAny _ _ (if ((-1 : Int) == 0) = true then _ else _) _ _ s
  rw [if_neg (by decide)]
  refine wpAny_bind (slicePart_ pl (wpAny_bind (slicePart_ pu (wpAny_bind (wpAny_pure ?_)))))
  show wpAny _ _ (pure ((n : Int) - 1, (-1 : Int), Builtin.Slice.slicePlaces ((n : Int) - 1) (-1) (-1))) _ _ s
  rw [places_rev]
  exact wpAny_pure h
theorem pick_rev (xs : Array Value) : ((List.range xs.size).filterMap fun (m : Nat) => xs[(((xs.size : Nat) : Int) - 1 + (m : Int) * -1).toNat]?).toArray = xs.toList.reverse.toArray := by
  have e : (fun (m : Nat) => xs[(((xs.size : Nat) : Int) - 1 + (m : Int) * -1).toNat]?) = fun m => xs[xs.size - 1 - m]? := by
    funext m
    congr 1
    omega
  rw [e]
  congr 1
  apply List.ext_getElem?
  intro i
  have hall : ∀ l : List Nat, (∀ m ∈ l, m < xs.size) → l.filterMap (fun m => xs[xs.size - 1 - m]?) = l.map fun m => xs.toList.getD (xs.size - 1 - m) Value.none := by
    intro l hl
    induction l with
    | nil => rfl
    | cons a l ih =>
      have ha := hl a List.mem_cons_self
      have hb : xs.size - 1 - a < xs.size := by omega
      have e1 : xs[xs.size - 1 - a]? = some (xs.toList.getD (xs.size - 1 - a) Value.none) := by
        rw [List.getD_eq_getElem?_getD, Array.getElem?_toList, Array.getElem?_eq_getElem hb]; rfl
      rw [List.filterMap_cons, e1, List.map_cons, ih fun m hm => hl m (List.mem_cons_of_mem _ hm)]
  rw [hall _ fun m hm => List.mem_range.mp hm, List.getElem?_map]
  by_cases hi : i < xs.size
  · rw [List.getElem?_range hi, Option.map_some, List.getElem?_reverse (by simpa using hi), List.getD_eq_getElem?_getD, Array.length_toList, List.getElem?_eq_getElem (by rw [Array.length_toList]; omega)]
    rfl
  · rw [List.getElem?_eq_none (by simp; omega), List.getElem?_eq_none (by simp; omega)]
    rfl
theorem getItem_tuple_rev {t sl : Addr} {items : Array Value} {vl vu vs : Value} {Q : Value → Shared → Prop} (ht : IsTup s.heap t items) (hs : s.heap.IsSliceOf sl vl vu vs) (pl : IsPart vl none) (pu : IsPart vu none) (ps : IsPart vs (some (-1)))
    (h : Q (.ref s.heap.objs.size) { s with heap := s.heap.push { cls := .type "tuple", data := .seq items.toList.reverse.toArray } })
    (hsz : items.size ≤ sizeLine) : wpAny (model prog w) A (getItem (.ref t) (.ref sl)) Q E s := by
  have htake : sizeOk (.seq items.toList.reverse.toArray) := by
    show items.toList.reverse.toArray.size ≤ sizeLine
    rw [List.size_toArray, List.length_reverse, Array.length_toList]
    omega
  obtain ⟨os, hos, hcs, hds⟩ := id hs
  have hTs : s.TypeIs (.ref sl) "slice" := ⟨os, hos, hcs⟩
  unfold getItem
  try with_reducible refine wpAny_holding ?_
  first | refine wpAny_bind (wpAny_pure ?_) | skip
  refine wpAny_bind (wpAny_sequenceKey ht.typeIs (by decide) ?_)
  refine wpAny_bind (wpAny_callSpecial?_slot (name := Str.ofString "__getitem__") ht.typeIs PyProof.Rows.slot_tuple_getitem
    (wpAny_call_entry PyProof.Rows.slot_tuple_getitem ht.typeIs entry_tuple_getitem ?_ (args_tuple_getitem _ _)))
  show wpAny _ _ (Builtin.Tuple.tupleItemsOf (.ref t) >>= _) _ _ s
  refine wpAny_bind (tupleItemsOf_ ht ?_)
  refine wpAny_bind (wpAny_typeOf hTs ?_)
  rw [if_pos (by decide)]
  refine wpAny_bind (sliceApplied_rev hs pl pu ps ?_)
  have hno : ¬ ((((items.size : Nat) : Int) - 1 == 0 && (-1 : Int) == 1 && items.size == items.size) = true) := by
    intro q
    rw [Bool.and_eq_true, Bool.and_eq_true] at q
    exact absurd (eq_of_beq q.1.2) (by decide)
  show wpAny _ _ (if (((items.size : Nat) : Int) - 1 == 0 && (-1 : Int) == 1 && items.size == items.size) = true then _ else _) _ _ s
  rw [if_neg hno, pick_rev]
  first
    | exact wpAny_bind (m := Builtin.Tuple.tupleExact _) (wpAny_newObj_type (wpAny_pure ⟨_, rfl, wpAny_pure h⟩) htake)
    | exact wpAny_bind (m := Builtin.Tuple.tupleExact _) (wpAny_newObj_type (wpAny_bind (wpAny_pure (wpAny_pure ⟨_, rfl, wpAny_pure h⟩))) htake)
    | exact wpAny_bind (wpAny_bind (m := Builtin.Tuple.tupleExact _) (wpAny_newObj_type (wpAny_pure (wpAny_pure ⟨_, rfl, wpAny_pure h⟩)) htake))
    | exact wpAny_bind (wpAny_bind (m := Builtin.Tuple.tupleExact _) (wpAny_newObj_type (wpAny_pure ⟨_, rfl, wpAny_pure h⟩) htake))
end
section
variable {X : Cx}
def tRevB (K : PySem.W.Frag) (te : TE) : TE := fun σ H Q => te σ H fun x H1 => ∃ a xs, x = .ref a ∧ ((SqL K H1 a xs ∧ ∀ p, H1 p = none → Q (.ref p) (upd H1 p (.lst xs.reverse))) ∨ (SqT K H1 a xs ∧ ∀ p, H1 p = none → Q (.ref p) (upd H1 p (.tup xs.reverse))))
theorem pe_revB {e : Expr} {te : TE} {k : Nat} {p1 p2 p3 pos : Pos} (he : PE X e te) : PE X (.Subscript e (.Slice none none (some (.UnaryOp .USub (.Constant (.int 1) k p1) p2)) p3) pos) (tRevB X.K te) := by
  refine ⟨fun pins s σ H Q I h => ?_⟩
  refine Subscript_ (thn (he.run pins s σ H _ I h) fun v s1 ⟨x, H1, I1, r1, q1⟩ => ?_)
  obtain ⟨a, xs, ex, q⟩ := q1
  subst ex
  cases r1
  have hst : PO X (some (.UnaryOp .USub (.Constant (.int 1) k p1) p2)) (tPart (tUn (rU fun i => .int (-i)) (tC (.int 1)))) := po_some (pe_un un_neg pe_int)
  refine wpAny_Slice (thn (po_none.run pins s1 σ H1 (fun o H2 => o = none ∧ H2 = H1) I1 ⟨rfl, rfl⟩) fun vl s2 ⟨l, H2, I2, pl, el, e2⟩ => ?_)
  subst el e2
  refine thn (po_none.run pins s2 σ H2 (fun o H3 => o = none ∧ H3 = H2) I2 ⟨rfl, rfl⟩) fun vu s3 ⟨u, H3, I3, pu, eu, e3⟩ => ?_
  subst eu e3
  refine thn (hst.run pins s3 σ H3 (fun o H4 => o = some (-1) ∧ H4 = H3) I3 ⟨1, rfl, -1, rfl, rfl, rfl⟩) fun vs s4 ⟨o, H4, I4, ps, eo, e4⟩ => ?_
  subst eo e4
  have I5 : Inv X pins σ H4 { s4 with heap := s4.heap.push { cls := .type "slice", data := .fields #[vl, vu, vs] } } := I4.kept (t' := s4.toks) fun b ob q => Heap.get?_push_of_some _ q
  rcases q with ⟨hx, q⟩ | ⟨hx, q⟩
  · obtain ⟨its, r, ht, hz⟩ := I5.list hx
    have hlen := r.length
    show wpAny (model X.prog X.w) X.A (subscriptTail e (.Slice none none (some (.UnaryOp .USub (.Constant (.int 1) k p1) p2)) p3) (.ref a) (.ref s4.heap.objs.size)) (EP X pins σ Q) X.xe { s4 with heap := s4.heap.push { cls := .type "slice", data := .fields #[vl, vu, vs] } }
    refine tail_any (ops := [.ref a, .ref s4.heap.objs.size]) ht.isList.typeIs (PySem.slot_list_getitem.lookup) ?_ (by with_unfolding_all rfl)
    refine wpAny_getItem_list_slice ht.isList (Heap.IsSliceOf.new _ vl vu vs) pl pu ps (by decide) ?_ (by rw [List.size_toArray]; omega)
    rw [PySem.W.krv_pick]
    refine ⟨.ref _, _, I5.laid (t' := s4.toks) (o := .lst xs.reverse) (fun b ob q => Heap.get?_push_of_some _ q) (Nat.le_refl _) ?_, rfl, q _ (I5.hok.fresh (Nat.le_refl _))⟩
    exact ⟨by rw [List.length_reverse]; exact hz, _, 0, r.reverse, Heap.get?_push_size _ rfl⟩
  · obtain ⟨its, r, ht, hz⟩ := I5.tuple hx
    have hlen := r.length
    show wpAny (model X.prog X.w) X.A (subscriptTail e (.Slice none none (some (.UnaryOp .USub (.Constant (.int 1) k p1) p2)) p3) (.ref a) (.ref s4.heap.objs.size)) (EP X pins σ Q) X.xe { s4 with heap := s4.heap.push { cls := .type "slice", data := .fields #[vl, vu, vs] } }
    refine tail_any (ops := [.ref a, .ref s4.heap.objs.size]) ht.typeIs (PyProof.Rows.slot_tuple_getitem.lookup) ?_ (by with_unfolding_all rfl)
    refine getItem_tuple_rev ht (Heap.IsSliceOf.new _ vl vu vs) pl pu ps ?_ (by rw [List.size_toArray]; omega)
    refine ⟨.ref _, _, I5.laid (t' := s4.toks) (o := .tup xs.reverse) (fun b ob q => Heap.get?_push_of_some _ q) (Nat.le_refl _) ?_, rfl, q _ (I5.hok.fresh (Nat.le_refl _))⟩
    exact ⟨by rw [List.length_reverse]; exact hz, _, r.reverse, ⟨_, Heap.get?_push_size _ rfl, rfl, 0, rfl⟩⟩
end
def revE (fa : EvE) : EvE := fun env st => (fa env st).bind fun a st1 => match a with
  | .tup xs => .ok (.tup xs.reverse) st1
  | a => match seqOf a st1 with
    | some xs => .ok (.lst xs.reverse) st1
    | none => .fail
theorem RepL.rev {K : PySem.W.Frag} {M : Mem} {H : Hp} : ∀ {xs : List D} {vs : List V}, RepL K M H xs vs → RepL K M H xs.reverse vs.reverse
  | [], vs, h => by unfold RepL at h; subst h; simp [RepL]
  | x :: xs, vs, h => by
    unfold RepL at h
    obtain ⟨v, r, rfl, h1, h2⟩ := h
    rw [List.reverse_cons, List.reverse_cons]
    exact (RepL.rev h2).append (by unfold RepL; exact ⟨v, [], rfl, h1, by simp [RepL]⟩)
section
variable {X : Cx} {W : WX} {fa : EvE}
theorem g_rev {s : Expr} (h : PE X s (tRevB X.K (rdE X.K W fa))) : PE X s (rdE X.K W (revE fa)) :=
  h.imp fun σ H Q ⟨env, M, st, eo, so, p⟩ => ⟨env, M, st, eo, so, Post.imp (Post.bind p) fun x H1 ⟨M1, st1, a, g, so1, ra, p1⟩ => by
    split at p1
    · rename_i xs
      have ra' := ra
      unfold Rep at ra
      obtain ⟨t, vs, rfl, f, q⟩ := ra
      exact ⟨t, vs, rfl, .inr ⟨f.sq, fun l hl => p1 M1 _ _ (.laid so1 hl) (so1.laid hl) (rep_tup so1 q.rev hl)⟩⟩
    · split at p1
      · rename_i hn _ xs h
        obtain ⟨t, vs, rfl, q, s⟩ := seqOf_list so1 h (fun ys e => hn ys e) ra
        exact ⟨t, vs, rfl, .inl ⟨s, fun l hl => p1 M1 _ _ (.laid so1 hl) (so1.laid hl) (rep_lst so1 q.rev hl)⟩⟩
      · exact p1.elim⟩
end
@[simp] theorem revE_eq (fa : EvE) (env : Env) (st : Sto) : revE fa env st = (fa env st).bind fun a st1 => match a with
  | .tup xs => .ok (.tup xs.reverse) st1
  | a => match seqOf a st1 with
    | some xs => .ok (.lst xs.reverse) st1
    | none => .fail := rfl
end G

namespace G
open PySem PySem.Spec PyProof.Rows L2 HT
/-! enumerate(tuple) -/
set_option maxHeartbeats 1000000 in
theorem meets_enumerate_newT {v : Value} {o : Obj} {H : Heap → Prop} (B : Begins v o H) :
    Meets (Builtin.«enumerate.__new__» ⟨[.type "enumerate", v], []⟩) (fun _ R s => H s.heap ∧
      R (.ok (.ret (.ref (s.heap.push o).objs.size))) { s with heap := (s.heap.push o).push { cls := .type "enumerate", data := .fields #[.none, .bool false, .ref s.heap.objs.size, rawInt 0, .none, .none] } }) :=
  .of_wp fun prog w A R s h => by
    obtain ⟨hp, g, d, tk, os⟩ := s; obtain ⟨h1, h⟩ := h
    have hsub := sub_enumerate
    have q1 : ∀ {A' : Around} {E : Value → Shared → Prop} {Q : Value → Shared → Prop}, Q (.ref hp.objs.size) ⟨hp.push o, g, d, tk, os⟩ → wpAny (model prog w) A' (pyIter v) Q E ⟨hp, g, d, tk, os⟩ :=
      fun q => B.iter prog w _ _ ⟨hp, g, d, tk, os⟩ _ h1 q
    wp_walk using q1
    refine wpAny_stack_any fun st => wpAny_pure ?_
    split
    · rename_i c _ _ _ _ _
      cases (c == Value.type "enumerate")
      · wp_walk using q1
        exact ⟨_, rfl, h⟩
      · wp_walk using q1
        exact ⟨_, rfl, h⟩
    · wp_walk using q1
      exact ⟨_, rfl, h⟩
section
variable {prog : Program} {w : World} {A : Around} {E : Value → Shared → Prop} {s : Shared}
theorem call_enumerate_begins {v : Value} {o : Obj} {H : Heap → Prop} {Q : Value → Shared → Prop} (B : Begins v o H) (h1 : H s.heap)
    (h : ∀ h', IsEnum h' (s.heap.objs.size + 1) s.heap.objs.size 0 .none → h'.get? s.heap.objs.size = some o → h'.objs.size = s.heap.objs.size + 2 →
      (∀ b o, s.heap.get? b = some o → h'.get? b = some o) → Q (.ref (s.heap.objs.size + 1)) { s with heap := h' }) :
    wpAny (model prog w) A (call (.type "enumerate") [v]) Q E s := by
  refine callType_new F.called_enumerate (by decide) (F.typeCall_enumerate_1 _) (F.newCall_enumerate_1 _) (fun obj => F.args_object_init_2 obj _) F.entry_enumerate_new
    (meets_enumerate_newT B) ⟨h1, ?_⟩
  have hz : (s.heap.push o).objs.size = s.heap.objs.size + 1 := Heap.size_push ..
  show _ ∧ _
  rw [hz]
  have he : IsEnum ((s.heap.push o).push { cls := .type "enumerate", data := .fields #[.none, .bool false, .ref s.heap.objs.size, rawInt 0, .none, .none] }) (s.heap.objs.size + 1) s.heap.objs.size 0 .none := by
    have := Heap.get?_push_size (s.heap.push o) (o := { cls := .type "enumerate", data := .fields #[.none, .bool false, .ref s.heap.objs.size, rawInt 0, .none, .none] }) rfl
    rw [hz] at this; exact this
  refine ⟨⟨_, he, rfl⟩, h _ he (Heap.get?_push_of_some _ (Heap.get?_push_size _ B.free)) (by rw [Heap.size_push, hz]) fun b o x => Heap.get?_push_of_some _ (Heap.get?_push_of_some _ x)⟩
end
theorem pyNext_enum_endT {prog : Program} {w : World} {A : Around} {E : Value → Shared → Prop} {s : Shared} {e it l : Addr} {i : Nat} {c : Int} {items : Array Value} {old : Value} {Q : Option Value → Shared → Prop} (hh : A.handled = none)
    (he : IsEnum s.heap e it c old) (hit : s.heap.IsTupleIter it l i) (hl : s.heap.IsTuple l items) (hx : items[i]? = none)
    (hQ : ∀ h', Heap.ExtBut it s.heap h' → Q none { s with heap := h' }) : wpAny (model prog w) A (pyNext (.ref e)) Q E s := by
  have hT : s.TypeIs (.ref e) "enumerate" := ⟨_, he, rfl⟩
  unfold pyNext
  refine wpAny_bind (wpAny_attempt (wpAny_callSpecial?_slot (name := Str.ofString "__next__") hT F.slot_enumerate_next
    (wpAny_call_entry F.slot_enumerate_next hT F.entry_enumerate_next ?_ (F.args_enumerate_next_1 _))))
  show wpAny _ _ (field (.ref e) 2 >>= _) _ _ _
  refine wpAny_bind (wpAny_field he rfl (x := .ref it) rfl ?_)
  refine wpAny_bind (wpAny_nextOf_tuple_end hh hit hl hx fun h' x he' hx' => ?_)
  obtain ⟨o, ho, hc⟩ := hx'
  refine wpAny_bind (wpAny_isInstance (T := "StopIteration") (b := true) ⟨o, ho, hc⟩ isSubtype_stop ?_)
  exact wpAny_pure (hQ _ he')
def IteT (K : PySem.W.Frag) (a : Addr) : It :=
  ⟨fun i H => ∃ (xs : List V) (x : V), SqT K H a xs ∧ xs[i]? = some x, fun i H v H' => ∃ T x, v = .ref T ∧ H T = none ∧ H' = upd H T (.tup [.int (i : Nat), x]) ∧ ∀ xs, SqT K H a xs → xs[i]? = some x, fun i H => ∃ xs : List V, SqT K H a xs ∧ xs.length ≤ i⟩
theorem turn_enumT {P : Program} {w : World} {K : PySem.W.Frag} {elts : List Expr} {kk : Nat} {tpos : Pos} (a e it : Addr) :
    Turn P w K (.Tuple elts kk tpos) (IteT K a) [e, it] e (fun i h => (∃ old, IsEnum h e it ((i : Nat) : Int) old) ∧ h.IsTupleIter it a i ∧ e ≠ it ∧ a ≠ it ∧ e ≠ a) where
  mem := by simp
  obj := fun i h st b hb => by
    obtain ⟨⟨old, he⟩, ⟨o, ho, hc, hd⟩, _⟩ := st
    have e' : b = e ∨ b = it := by simpa using hb
    rcases e' with z | z
    · rw [z]; exact ⟨_, he, fun v q => nomatch q⟩
    · rw [z]; exact ⟨o, ho, fun v q => by rw [hd] at q; cases q⟩
  keep := fun i h h' st k => let ⟨⟨old, he⟩, hi, hne⟩ := st; ⟨⟨old, k e (by simp) _ he⟩, hi.at fun o q => k it (by simp) o q, hne⟩
  item := by
    intro X hP hw hK hc i pins s σ H E I hf st hg
    subst hP hw hK
    obtain ⟨⟨old, he⟩, hit, hne, hna, hea⟩ := st
    obtain ⟨xs, x, hq, hx⟩ := hg
    obtain ⟨its, rv, p, hz⟩ := I.tuple hq
    obtain ⟨u, hu, ru⟩ := rv.get hx
    have hel : e < s.heap.objs.size := Heap.lt_size he
    have hil : it < s.heap.objs.size := by obtain ⟨_, q, _⟩ := hit; exact Heap.lt_size q
    have hlt : i < its.toArray.size := by
      have := (List.getElem?_eq_some_iff.mp hu).1
      simpa using this
    have D := Draws.tuple (prog := X.prog) (w := X.w) (A := X.A.in1) (I.ok.hd hc) it a hna its.toArray
    refine wpAny_pyNext_enum_itemD D he ⟨hit, p⟩ hlt hne (by simp; exact ⟨hne, hea⟩) fun x' h' tk hP ho hst' hT hsz hk => ?_
    have ex : x' = u := by
      have hP' : its[i]? = some x' := by simpa using hP
      rw [hu] at hP'; exact (Option.some.inj hP').symm
    subst ex
    refine ⟨_, rfl, wpAny_letOwnedTupleGo_enum (s := { s with heap := h', toks := tk + 1 }) ho fun h'' he' sb => ?_⟩
    have hT2 : h''.get? s.heap.objs.size = some { cls := .type "tuple", data := .seq #[.int i tk, x'] } := (sb.2 _ (Nat.ne_of_gt hel)).trans hT
    have new : ObjOk X.prog X.w (upd H s.heap.objs.size (.tup [.int (i : Nat), x])) h'' s.heap.objs.size (.tup [.int (i : Nat), x]) :=
      ⟨by show 2 ≤ sizeLine; decide, [.int i tk, x'], .cons ⟨_, rfl⟩ (.cons ru .nil), ⟨_, hT2, rfl, _, rfl⟩⟩
    have I1 : Inv X pins σ (upd H s.heap.objs.size (.tup [.int (i : Nat), x])) { s with heap := h'', toks := tk + 1 } :=
      I.turnedNew (ch := [e, it]) (fun b ob hb q => (sb.2 b (fun z => hb (by simp [z]))).trans (hk b ob (fun z => hb (by simp [z])) (fun z => hb (by simp [z])) q)) hf (Nat.le_refl _) new
    refine ⟨.ref s.heap.objs.size, _, I1, rfl, ⟨_, x, rfl, I.hok.fresh (Nat.le_refl _), rfl, fun ys hy => by rw [I.tuple_inj hy hq]; exact hx⟩, ⟨⟨x', ?_⟩, hst'.1.at fun o q => (sb.2 it (Ne.symm hne)).trans q, hne, hna, hea⟩, fun b hb => ?_⟩
    · have e1 : ((i + 1 : Nat) : Int) = (i : Int) + 1 := by omega
      rw [e1]; exact he'
    · have hb' : b < s.heap.objs.size := by
        have e' : b = e ∨ b = it := by simpa using hb
        rcases e' with z | z
        · rw [z]; exact hel
        · rw [z]; exact hil
      rw [upd_ne (Nat.ne_of_lt hb')]
      exact (hf b hb).1
  done := by
    intro X hP hw hK hc i pins s σ H E I hf st hg
    subst hP hw hK
    obtain ⟨⟨old, he⟩, hit, hne, hna, hea⟩ := st
    obtain ⟨xs, hq, hx⟩ := hg
    obtain ⟨its, rv, p, hz⟩ := I.tuple hq
    obtain ⟨f0, f1, f2, f3, f4, f5⟩ := hf it (by simp)
    have hl := rv.length
    exact pyNext_enum_endT (I.ok.hd hc) he hit p (by simp; omega) fun h' eb => ⟨rfl, I.turned (t' := s.toks) (fun b o hb q => eb b o hb q) f0 f1 f3 f4 f5⟩
  self := fun A i s Q E st h => let ⟨⟨_, he⟩, _⟩ := st; wpAny_pyIter_enum he h
def iEnumB (K : PySem.W.Frag) (ta : TA) : TI := fun σ H R => ta σ H fun vs H1 => ∃ a xs, vs = [.ref a] ∧ ((SqL K H1 a xs ∧ R (Ite K a) H1) ∨ (SqT K H1 a xs ∧ R (IteT K a) H1))
theorem pi_enumB {X : Cx} {e : Expr} {ta : TA} {p pos tpos : Pos} {elts : List Expr} {kk : Nat} (hg : Gl X "enumerate") (hm : X.mg "enumerate" = none) (ha : PA X [e] ta) (hs : starEach [e] X.env = [(false, eval e X.env)] := by rfl) :
    PI X (.Tuple elts kk tpos) (.Call (.Name "enumerate" p) [e] [] pos) (iEnumB X.K ta) := by
  refine ⟨fun pins s σ H R I h => ?_⟩
  refine Call_ (ld_blt I hg hm boot_enumerate (PyProof.Rows.callWith_type1 (thn (ha.run pos pins s σ H _ I h) fun us s1 ⟨vs, H1, I1, r1, q1⟩ => ?_) hs rfl))
  obtain ⟨a, xs, ex, q⟩ := q1
  subst ex
  cases r1 with
  | cons r rr =>
    cases rr
    cases r
    have fp : ∀ b ∈ [s1.heap.objs.size + 1, s1.heap.objs.size], s1.heap.objs.size ≤ b := fun b hb => by
      have e' : b = s1.heap.objs.size + 1 ∨ b = s1.heap.objs.size := by simpa using hb
      rcases e' with z | z
      · rw [z]; exact Nat.le_add_right _ _
      · rw [z]; exact Nat.le_refl _
    rcases q with ⟨hq, q⟩ | ⟨hq, q⟩
    · obtain ⟨its, rv, p', hz⟩ := I1.list hq
      refine call_enumerate_list p'.isList fun h' he hit hsz hk => wpAny_pyIter_enum he ?_
      have I2 : Inv X pins σ H1 { s1 with heap := h' } := I1.kept (t' := s1.toks) hk
      exact ⟨s1.heap.objs.size + 1, [s1.heap.objs.size + 1, s1.heap.objs.size], _, _, H1, rfl, I2, turn_enum a (s1.heap.objs.size + 1) s1.heap.objs.size, ⟨⟨.none, he⟩, hit, Nat.succ_ne_self _⟩, fun b hb => I1.fpOk (fp b hb) (I1.hok.fresh (fp b hb)), q⟩
    · obtain ⟨its, rv, p', hz⟩ := I1.tuple hq
      have hlt : a < s1.heap.objs.size := by obtain ⟨_, e, _⟩ := p'; exact Heap.lt_size e
      refine call_enumerate_begins (begins_tuple a its.toArray) p' fun h' he hit hsz hk => wpAny_pyIter_enum he ?_
      have I2 : Inv X pins σ H1 { s1 with heap := h' } := I1.kept (t' := s1.toks) hk
      exact ⟨s1.heap.objs.size + 1, [s1.heap.objs.size + 1, s1.heap.objs.size], _, _, H1, rfl, I2, turn_enumT a (s1.heap.objs.size + 1) s1.heap.objs.size, ⟨⟨.none, he⟩, ⟨_, hit, rfl, rfl⟩, Nat.succ_ne_self _, Nat.ne_of_lt hlt, Nat.ne_of_gt (Nat.lt_succ_of_lt hlt)⟩, fun b hb => I1.fpOk (fp b hb) (I1.hok.fresh (fp b hb)), q⟩
section
variable {K : PySem.W.Frag} {M : Mem} {H : Hp}
theorem itet_rep {a : Addr} {xs : List D} {vs : List V} (f : ∀ M' H', Keep M H M' H' → SqT K H' a vs) (q : RepL K M H xs vs) : ItRep K M H (.frz (enumL xs)) (IteT K a) := fun i M' H' st' g so => by
  have f' := f _ _ g
  have q' := q.kp g
  refine ⟨fun e => ⟨vs, f', by rw [← q.length]; simp at e; omega⟩, fun d hd => ?_⟩
  obtain ⟨x, hx, rfl⟩ := enumL_get hd
  obtain ⟨v, hv, r⟩ := q'.get hx
  refine ⟨⟨vs, v, f', hv⟩, fun z H'' ⟨T, y, e1, e2, e3, e4⟩ => ?_⟩
  have := e4 vs f'
  rw [hv] at this; cases this
  subst e1 e3
  exact pair_new so (rep_int _ _ _) r e2
variable {X : Cx} {W : WX} {fs : EvA} {tg it : Expr}
theorem g_enum (h : PI X tg it (iEnumB X.K (rdA X.K W fs))) : PI X tg it (rdI X.K W (callI enumF fs)) := h.imp fun σ H R' ⟨env, M, st, eo, so, p⟩ => ⟨env, M, st, eo, so, Post.imp (Post.bind p) fun vs H1 ⟨M1, st1, as, g, so1, ra, p1⟩ => by
  unfold enumF at p1
  split at p1
  · rename_i n
    split at p1
    · rename_i ys e
      obtain ⟨x, rfl, rx⟩ := ra.one
      unfold Rep at rx
      obtain ⟨a, rfl, m⟩ := rx
      obtain ⟨ws, hv, q⟩ := so1.at_ n a _ m e
      exact ⟨a, ws, rfl, .inl ⟨.of hv, p1 M1 H1 _ .refl so1 (item_rep m)⟩⟩
    · exact p1.elim
  · rename_i b hn
    split at p1
    · rename_i ys e
      obtain ⟨x, rfl, rx⟩ := ra.one
      cases b with
      | tup zs =>
        cases e
        unfold Rep at rx
        obtain ⟨a, ws, rfl, f, q⟩ := rx
        exact ⟨a, ws, rfl, .inr ⟨f.sq, p1 M1 H1 _ .refl so1 (itet_rep (fun _ _ g => (g.fzT f).sq) q)⟩⟩
      | lst zs =>
        cases e
        unfold Rep at rx
        obtain ⟨a, ws, rfl, f, q⟩ := rx
        exact ⟨a, ws, rfl, .inl ⟨f.sq, p1 M1 H1 _ .refl so1 (ite_rep (fun _ _ g => .of (g.keep _ _ f.1 f.2).1) q)⟩⟩
      | slo zs =>
        cases e
        unfold Rep at rx
        obtain ⟨a, ws, rfl, f, q⟩ := rx
        exact ⟨a, ws, rfl, .inl ⟨f.sq, p1 M1 H1 _ .refl so1 (ite_rep (fun _ _ g => (g.fzL f).sq) q)⟩⟩
      | _ => cases e
    · exact p1.elim
  · exact p1.elim⟩
end
end G

namespace G
open PySem PySem.Spec PyProof.Rows L2
/-! [e for t in it if tt for t1 in it1 if tt1], both over what stands still -/
def lc2F (t : Tg) (tt : EvB) (it1 : EvI) (t1 : Tg) (tt1 : EvB) (fe : EvE) (vs1 : List Nat) (envw : Env) : List D → Sto → List D → R (List D)
  | [], st, acc => .ok acc st
  | x :: xs, st, acc => match t.set x envw with
    | none => .fail
    | some env1 => (noX (tt env1 st)).bind fun b st1 => if b = true then (noX (it1 env1 st1)).bind fun I st2 => match I with
        | .frz ys => (lcF t1 tt1 fe (wipeE env1 vs1) ys st2 acc).bind fun acc2 st3 => lc2F t tt it1 t1 tt1 fe vs1 envw xs st3 acc2
        | _ => .fail
      else lc2F t tt it1 t1 tt1 fe vs1 envw xs st1 acc
def lc2L (it : EvI) (t : Tg) (tt : EvB) (it1 : EvI) (t1 : Tg) (tt1 : EvB) (fe : EvE) (vs vs1 : List Nat) : EvA := fun env st => (it env st).bind fun I st1 => match I with
  | .frz xs => lc2F t tt it1 t1 tt1 fe vs1 (wipeE env vs) xs st1 []
  | _ => .fail
def lc2E (it : EvI) (t : Tg) (tt : EvB) (it1 : EvI) (t1 : Tg) (tt1 : EvB) (fe : EvE) (vs vs1 : List Nat) : EvE := fun env st => (lc2L it t tt it1 t1 tt1 fe vs vs1 env st).bind fun xs st1 => .ok (.lst xs) st1
section
variable {W : WX} {K : PySem.W.Frag} {t t1 : Tg} {tt tt1 : EvB} {fe : EvE} {it1 : EvI}
theorem rd_lc2 {it : EvI} {vs vs1 : List Nat} (hv : ∀ i ∈ Tg.names t, i ∈ vs) (hv1 : ∀ i ∈ Tg.names t1, i ∈ vs1) :
    ∀ σ H Q, rdE K W (lc2E it t tt it1 t1 tt1 fe vs vs1) σ H Q → tLc2 (rdI K W it) (Tg.raw K t) (rdB K W0 tt) (rdI K W0 it1) (Tg.raw K t1) (rdB K W0 tt1) (rdE K W0 fe) vs vs1 σ H Q :=
  fun σ H Q ⟨env, M, st, eo, so, p⟩ => ⟨env, M, st, eo, so, by
    have p : Post K (Rep K) M H Q (WE W σ) ((it env st).bind fun I st1 => (match I with
      | .frz xs => lc2F t tt it1 t1 tt1 fe vs1 (wipeE env vs) xs st1 []
      | _ => .fail).bind fun xs st1 => .ok (.lst xs) st1) := by
      have p : Post K (Rep K) M H Q (WE W σ) ((lc2L it t tt it1 t1 tt1 fe vs vs1 env st).bind fun xs st1 => .ok (.lst xs) st1) := p
      unfold lc2L at p
      cases e : it env st with
      | ok I st1 => rw [e] at p; exact p
      | exc x s => rw [e] at p; exact p
      | fail => rw [e] at p; exact p
    refine Post.imp (Post.bind (rep := ItRep K) p) fun J H1 ⟨M1, st1, I, g1, so1, ri, p1⟩ => ?_
    intro L hL
    obtain ⟨so2, k2⟩ := so1.hold (vs := []) hL
    have m0 : Mid K M1 H1 L (M1.hold L) (upd H1 L (.lst [])) st1 [] := ⟨k2, rfl, fun a ha => by
      obtain ⟨_, o, e⟩ := so1.pd a ha
      rw [upd_ne (ne_of_none e hL)], hL, fun a ha => (let ⟨o, e⟩ := (so1.pd a ha).2; ⟨_, e⟩), so2, [], upd_same, .nil⟩
    have eo1 : EnvOk K (M1.hold L) (upd H1 L (.lst [])) (wipeE env vs) (L2.wipe σ vs) := ((eo.grow g1).kp k2).wipe vs
    cases I with
    | gen nxt k => exact p1.elim
    | frz xs =>
      have p1 : Post K (Rep K) M1 H1 Q (WE W σ) ((lc2F t tt it1 t1 tt1 fe vs1 (wipeE env vs) xs st1 []).bind fun xs st1 => .ok (.lst xs) st1) := p1
      refine ⟨fun i m H' => m = xs.length - i ∧ i ≤ xs.length ∧ ∃ M' st' acc, Mid K M1 H1 L M' H' st' acc ∧ EnvOk K M' H' (wipeE env vs) (L2.wipe σ vs) ∧ Post K (Rep K) M1 H1 Q (WE W σ) ((lc2F t tt it1 t1 tt1 fe vs1 (wipeE env vs) (xs.drop i) st' acc).bind fun xs st1 => .ok (.lst xs) st1),
        ⟨xs.length, by simp, Nat.zero_le _, _, _, _, m0, eo1, by simpa using p1⟩, ?_⟩
      rintro i m H' ⟨rfl, hi, M', st', acc, md, eo', q⟩
      obtain ⟨r1, r2⟩ := ri i M' H' st' md.kp md.so
      by_cases hlt : i < xs.length
      · have hd : xs[i]? = some xs[i] := List.getElem?_eq_getElem hlt
        obtain ⟨r3, r4⟩ := r2 _ hd
        refine .inr ⟨r3, fun H2 => (∃ M' st' acc, Mid K M1 H1 L M' H2 st' acc ∧ EnvOk K M' H2 (wipeE env vs) (L2.wipe σ vs) ∧ Post K (Rep K) M1 H1 Q (WE W σ) ((lc2F t tt it1 t1 tt1 fe vs1 (wipeE env vs) (xs.drop (i + 1)) st' acc).bind fun xs st1 => .ok (.lst xs) st1)), fun H2 h => ⟨xs.length - (i + 1), by omega, rfl, hlt, h⟩, fun x H2 hy => ?_⟩
        obtain ⟨g2, so2, rx⟩ := r4 x H2 hy
        rw [List.drop_eq_getElem_cons hlt] at q
        have md2 := md.grow g2 so2
        have eo2 := eo'.grow g2
        unfold lc2F at q
        cases e : t.set xs[i] (wipeE env vs) with
        | none => rw [e] at q; exact q.elim
        | some env1 =>
          rw [e] at q
          refine Tg.rd e rx eo2 fun σ' eo3 hw => ⟨(hw vs hv).trans wipe_wipe, env1, M', st', eo3, so2, ?_⟩
          cases e1 : tt env1 st' with
          | exc x s => simp only [e1, noX, R.bind] at q; exact q.elim
          | fail => simp only [e1, noX, R.bind] at q; exact q.elim
          | ok b st2 =>
            simp only [e1, noX, R.bind] at q
            intro M3 H3 b' g3 so3 hb
            subst hb
            have md3 := md2.grow g3 so3
            have ew : EnvOk K M3 H3 (wipeE env vs) (L2.wipe σ vs) := eo2.grow g3
            cases b with
            | false => exact iteF ⟨M3, st2, acc, md3, ew, q⟩
            | true =>
              simp only [if_true] at q
              refine iteT ⟨env1, M3, st2, eo3.grow g3, so3, ?_⟩
              cases e2 : it1 env1 st2 with
              | exc x s => rw [e2] at q; exact q.elim
              | fail => rw [e2] at q; exact q.elim
              | ok I2 st3 =>
                rw [e2] at q
                intro M4 H4 J1 g4 so4 ri1
                have md4 := md3.grow g4 so4
                have ew4 := ew.grow g4
                have eo4 := ((eo3.grow g3).grow g4)
                cases I2 with
                | gen nxt k => exact q.elim
                | frz ys =>
                  have q : Post K (Rep K) M1 H1 Q (WE W σ) (((lcF t1 tt1 fe (wipeE env1 vs1) ys st3 acc).bind fun acc2 st3 => lc2F t tt it1 t1 tt1 fe vs1 (wipeE env vs) (xs.drop (i + 1)) st3 acc2).bind fun xs st1 => .ok (.lst xs) st1) := q
                  refine ⟨fun j k H' => k = ys.length - j ∧ j ≤ ys.length ∧ ∃ M' st' acc', Keep M4 H4 M' H' ∧ Mid K M1 H1 L M' H' st' acc' ∧ EnvOk K M' H' (wipeE env vs) (L2.wipe σ vs) ∧ EnvOk K M' H' (wipeE env1 vs1) (L2.wipe σ' vs1) ∧
                      Post K (Rep K) M1 H1 Q (WE W σ) (((lcF t1 tt1 fe (wipeE env1 vs1) (ys.drop j) st' acc').bind fun acc2 st3 => lc2F t tt it1 t1 tt1 fe vs1 (wipeE env vs) (xs.drop (i + 1)) st3 acc2).bind fun xs st1 => .ok (.lst xs) st1),
                    ⟨ys.length, by simp, Nat.zero_le _, M4, st3, acc, .refl, md4, ew4, eo4.wipe vs1, by simpa using q⟩, ?_⟩
                  rintro j k H5 ⟨rfl, hj, M5, st5, acc5, k5, md5, ew5, ev5, q5⟩
                  obtain ⟨s1, s2⟩ := ri1 j M5 H5 st5 k5 md5.so
                  by_cases hjl : j < ys.length
                  · have hd5 : ys[j]? = some ys[j] := List.getElem?_eq_getElem hjl
                    obtain ⟨s3, s4⟩ := s2 _ hd5
                    refine .inr ⟨s3, fun H' => ∃ M' st' acc', Keep M4 H4 M' H' ∧ Mid K M1 H1 L M' H' st' acc' ∧ EnvOk K M' H' (wipeE env vs) (L2.wipe σ vs) ∧ EnvOk K M' H' (wipeE env1 vs1) (L2.wipe σ' vs1) ∧
                      Post K (Rep K) M1 H1 Q (WE W σ) (((lcF t1 tt1 fe (wipeE env1 vs1) (ys.drop (j + 1)) st' acc').bind fun acc2 st3 => lc2F t tt it1 t1 tt1 fe vs1 (wipeE env vs) (xs.drop (i + 1)) st3 acc2).bind fun xs st1 => .ok (.lst xs) st1), fun H' h => ⟨ys.length - (j + 1), by omega, rfl, hjl, h⟩, fun y H6 hy6 => ?_⟩
                    obtain ⟨g6, so6, ry⟩ := s4 y H6 hy6
                    rw [List.drop_eq_getElem_cons hjl] at q5
                    exact turnC_rd (P := fun r => Post K (Rep K) M1 H1 Q (WE W σ) ((r.bind fun acc2 st3 => lc2F t tt it1 t1 tt1 fe vs1 (wipeE env vs) (xs.drop (i + 1)) st3 acc2).bind fun xs st1 => .ok (.lst xs) st1)) (md5.grow g6 so6) (ev5.grow g6) ry hv1 (fun z => z) q5
                      fun M7 H7 st7 acc7 k7 m7 p7 => ⟨M7, st7, acc7, (k5.trans g6.k).trans k7, m7, (ew5.grow g6).kp k7, (ev5.grow g6).kp k7, p7⟩
                  · have ej : j = ys.length := by omega
                    refine .inl ⟨s1 ej, M5, st5, acc5, md5, ew5, ?_⟩
                    rw [ej, List.drop_length] at q5
                    exact q5
      · have e : i = xs.length := by omega
        refine .inl ⟨r1 e, ?_⟩
        rw [e, List.drop_length] at q
        obtain ⟨f1, f2, f3, ws, f4, f5⟩ := md.fin
        exact q _ _ _ f1 f2 (by unfold Rep; exact ⟨_, ws, rfl, ⟨f4, f3⟩, f5⟩)⟩
end
section
variable {X : Cx} {W : WX} {s : Expr}
theorem g_lc2 {it it1 : EvI} {t t1 : Tg} {tt tt1 : EvB} {fe : EvE} {vs vs1 : List Nat} (hv : ∀ i ∈ Tg.names t, i ∈ vs) (hv1 : ∀ i ∈ Tg.names t1, i ∈ vs1)
    (h : PE X s (tLc2 (rdI X.K W it) (Tg.raw X.K t) (rdB X.K W0 tt) (rdI X.K W0 it1) (Tg.raw X.K t1) (rdB X.K W0 tt1) (rdE X.K W0 fe) vs vs1)) : PE X s (rdE X.K W (lc2E it t tt it1 t1 tt1 fe vs vs1)) := h.imp (rd_lc2 hv hv1)
theorem s_setLc2 {i : Nat} {it it1 : EvI} {t t1 : Tg} {tt tt1 : EvB} {fe : EvE} {vs vs1 : List Nat} {s : Stmt} (hv : ∀ i ∈ Tg.names t, i ∈ vs) (hv1 : ∀ i ∈ Tg.names t1, i ∈ vs1)
    (h : PS X s (tAsg (tLc2 (rdI X.K W it) (Tg.raw X.K t) (rdB X.K W0 tt) (rdI X.K W0 it1) (Tg.raw X.K t1) (rdB X.K W0 tt1) (rdE X.K W0 fe) vs vs1) (gName i))) : PS X s (rdS X.K W (asgS (lc2E it t tt it1 t1 tt1 fe vs vs1) (nameT i))) :=
  h.imp fun T σ H ⟨env, M, st, eo, so, p⟩ => rd_lc2 hv hv1 σ H _ ⟨env, M, st, eo, so, Post.imp (PostS.bind (rep := Rep X.K) eo p) fun x H1 ⟨M1, st1, d, g, so1, ra, p1⟩ => p1 M1 H1 _ .refl so1 ((eo.grow g).set i ra)⟩
@[simp] theorem enumF_tup (xs : List D) (st : Sto) : enumF [.tup xs] st = .ok (.frz (enumL xs)) st := rfl
@[simp] theorem enumF_lst (xs : List D) (st : Sto) : enumF [.lst xs] st = .ok (.frz (enumL xs)) st := rfl
end
end G

namespace G
open PySem PySem.Spec PyProof.Rows L2
/-! sorted(set(a list of pairs of ints from 0 on)) -/
abbrev P2 := Int × Int
def ltP2 (a b : P2) : Prop := a.1 < b.1 ∨ (a.1 = b.1 ∧ a.2 < b.2)
instance (a b : P2) : Decidable (ltP2 a b) := by unfold ltP2; infer_instance
theorem ltP2_irr (a : P2) : ¬ ltP2 a a := by unfold ltP2; omega
theorem ltP2_tr {a b c : P2} (h : ltP2 a b) (g : ltP2 b c) : ltP2 a c := by unfold ltP2 at *; omega
theorem ltP2_tri (a b : P2) : ltP2 a b ∨ a = b ∨ ltP2 b a := by
  unfold ltP2
  rcases Int.lt_trichotomy a.1 b.1 with h | h | h
  · exact .inl (.inl h)
  · rcases Int.lt_trichotomy a.2 b.2 with g | g | g
    · exact .inl (.inr ⟨h, g⟩)
    · exact .inr (.inl (Prod.ext h g))
    · exact .inr (.inr (.inr ⟨h.symm, g⟩))
  · exact .inr (.inr (.inl h))
def insP (p : P2) : List P2 → List P2
  | [] => [p]
  | q :: r => if p = q then q :: r else if ltP2 p q then p :: q :: r else q :: insP p r
def ssP (ps : List P2) : List P2 := ps.foldr insP []
theorem mem_insP {p x : P2} : ∀ {l : List P2}, x ∈ insP p l ↔ x = p ∨ x ∈ l
  | [] => by simp [insP]
  | q :: r => by
    unfold insP
    split
    · rename_i h; subst h; simp
    · split
      · simp
      · simp only [List.mem_cons, mem_insP (l := r)]
        constructor
        · rintro (h | h | h)
          · exact .inr (.inl h)
          · exact .inl h
          · exact .inr (.inr h)
        · rintro (h | h | h)
          · exact .inr (.inl h)
          · exact .inl h
          · exact .inr (.inr h)
theorem sorted_insP {p : P2} : ∀ {l : List P2}, l.Pairwise ltP2 → (insP p l).Pairwise ltP2
  | [], _ => by simp [insP]
  | q :: r, h => by
    obtain ⟨h1, h2⟩ := List.pairwise_cons.mp h
    unfold insP
    split
    · exact h
    · rename_i ne
      split
      · rename_i lt
        exact List.pairwise_cons.mpr ⟨fun x hx => by
          rcases List.mem_cons.mp hx with rfl | hx
          · exact lt
          · exact ltP2_tr lt (h1 x hx), h⟩
      · rename_i nlt
        refine List.pairwise_cons.mpr ⟨fun x hx => ?_, sorted_insP h2⟩
        rcases mem_insP.mp hx with rfl | hx
        · rcases ltP2_tri x q with g | g | g
          · exact absurd g nlt
          · exact absurd g ne
          · exact g
        · exact h1 x hx
theorem mem_ssP {x : P2} : ∀ {ps : List P2}, x ∈ ssP ps ↔ x ∈ ps
  | [] => by simp [ssP]
  | p :: ps => by
    show x ∈ insP p (ssP ps) ↔ _
    rw [mem_insP, mem_ssP (ps := ps), List.mem_cons]
theorem sorted_ssP : ∀ {ps : List P2}, (ssP ps).Pairwise ltP2
  | [] => List.Pairwise.nil
  | p :: ps => sorted_insP (sorted_ssP (ps := ps))
theorem sorted_unique : ∀ {a b : List P2}, a.Pairwise ltP2 → b.Pairwise ltP2 → (∀ x, x ∈ a ↔ x ∈ b) → a = b
  | [], [], _, _, _ => rfl
  | [], y :: b, _, _, h => absurd ((h y).mpr List.mem_cons_self) List.not_mem_nil
  | x :: a, [], _, _, h => absurd ((h x).mp List.mem_cons_self) List.not_mem_nil
  | x :: a, y :: b, ha, hb, h => by
    obtain ⟨a1, a2⟩ := List.pairwise_cons.mp ha
    obtain ⟨b1, b2⟩ := List.pairwise_cons.mp hb
    have e : x = y := by
      rcases List.mem_cons.mp ((h x).mp List.mem_cons_self) with g | g
      · exact g
      · rcases List.mem_cons.mp ((h y).mpr List.mem_cons_self) with g2 | g2
        · exact g2.symm
        · exact absurd (ltP2_tr (b1 x g) (a1 y g2)) (ltP2_irr y)
    subst e
    congr 1
    refine sorted_unique a2 b2 fun z => ⟨fun hz => ?_, fun hz => ?_⟩
    · rcases List.mem_cons.mp ((h z).mp (List.mem_cons_of_mem _ hz)) with g | g
      · subst g; exact absurd (a1 z hz) (ltP2_irr z)
      · exact g
    · rcases List.mem_cons.mp ((h z).mpr (List.mem_cons_of_mem _ hz)) with g | g
      · subst g; exact absurd (b1 z hz) (ltP2_irr z)
      · exact g
def pairD (p : P2) : D := .tup [.int p.1, .int p.2]
def pairsOf : List D → Option (List P2)
  | [] => some []
  | .tup [.int a, .int b] :: r => (pairsOf r).map ((a, b) :: ·)
  | _ => none
theorem pairsOf_some : ∀ {xs : List D} {ps : List P2}, pairsOf xs = some ps → xs = ps.map pairD
  | [], ps, h => by unfold pairsOf at h; cases h; rfl
  | x :: xs, ps, h => by
    unfold pairsOf at h
    split at h
    · rename_i e; cases e
    · rename_i a b r e
      cases e
      cases hr : pairsOf xs with
      | none => rw [hr] at h; cases h
      | some qs => rw [hr] at h; cases h; rw [pairsOf_some hr]; rfl
    · cases h
@[simp] theorem pairsOf_map : ∀ ps : List P2, pairsOf (ps.map pairD) = some ps
  | [] => rfl
  | p :: ps => by
    show (pairsOf (ps.map pairD)).map ((p.1, p.2) :: ·) = _
    rw [pairsOf_map ps]; rfl
theorem bnd_of : ∀ ps : List P2, ∃ B : Int, ∀ q ∈ ps, q.1 < B ∧ q.2 < B
  | [] => ⟨0, by simp⟩
  | q :: ps => by
    obtain ⟨B, hB⟩ := bnd_of ps
    refine ⟨max B (max (q.1 + 1) (q.2 + 1)), fun z hz => ?_⟩
    rcases List.mem_cons.mp hz with rfl | hz
    · omega
    · have := hB z hz; omega
def ssF : FA := fun as st => match as with
  | [.tup _] => .fail
  | [a] => (match (seqOf a st).bind pairsOf with
    | some ps => if ps.length < 64 ∧ ∀ p ∈ ps, 0 ≤ p.1 ∧ 0 ≤ p.2 then .ok (.lst ((ssP ps).map pairD)) st else .fail
    | none => .fail)
  | _ => .fail
theorem code_two (B x y : Int) : TS.code B [x, y] = x * B + y := by
  show x * B ^ 1 + (y * B ^ 0 + 0) = x * B + y
  rw [Int.pow_zero, Int.mul_one, Int.add_zero]
  congr 2
  rw [Int.pow_succ, Int.pow_zero, Int.one_mul]
theorem code_lt {B : Int} {p q : P2} (hp : 0 ≤ p.1 ∧ 0 ≤ p.2 ∧ p.1 < B ∧ p.2 < B) (hq : 0 ≤ q.1 ∧ 0 ≤ q.2 ∧ q.1 < B ∧ q.2 < B) (h : TS.code B [p.1, p.2] ≤ TS.code B [q.1, q.2]) (ne : p ≠ q) : ltP2 p q := by
  rw [code_two, code_two] at h
  rcases ltP2_tri p q with g | g | g
  · exact g
  · exact absurd g ne
  · exfalso
    rcases g with g | ⟨g1, g2⟩
    · have := Int.mul_le_mul_of_nonneg_right (show q.1 + 1 ≤ p.1 by omega) (show 0 ≤ B by omega)
      rw [Int.add_mul] at this
      omega
    · rw [g1] at h; omega
section
variable {K : PySem.W.Frag} {M : Mem} {H : Hp}
theorem pairs_rep : ∀ {ps : List P2} {vs : List V}, RepL K M H (ps.map pairD) vs → ∃ ks : List (Addr × List Int), vs = ks.map (fun p => V.ref p.1) ∧ ks.map (·.2) = ps.map (fun q => [q.1, q.2]) ∧ ∀ p ∈ ks, FzT K M H p.1 (p.2.map V.int)
  | [], vs, h => by
    unfold RepL at h; subst h
    exact ⟨[], rfl, rfl, by simp⟩
  | p :: ps, vs, h => by
    rw [List.map_cons] at h
    unfold RepL at h
    obtain ⟨v, r, rfl, h1, h2⟩ := h
    obtain ⟨ks, rfl, e2, e3⟩ := pairs_rep h2
    unfold pairD Rep at h1
    obtain ⟨t, ws, rfl, f, q⟩ := h1
    obtain ⟨x, y, rfl, rx, ry⟩ := q.two
    rw [rep_int_iff] at rx ry
    subst rx ry
    refine ⟨(t, [p.1, p.2]) :: ks, rfl, by simp [e2], fun k hk => ?_⟩
    rcases List.mem_cons.mp hk with rfl | hk
    · exact f
    · exact e3 k hk
theorem rep_pairs : ∀ {L : List (Addr × List Int)} {M : Mem} {H : Hp}, (∀ p ∈ L, FzT K M H p.1 (p.2.map V.int)) → RepL K M H (L.map fun p => tupI p.2) (L.map fun p => V.ref p.1)
  | [], M, H, _ => by simp [RepL]
  | p :: L, M, H, h => by
    rw [List.map_cons, List.map_cons]
    unfold RepL
    refine ⟨_, _, rfl, ?_, rep_pairs fun q hq => h q (List.mem_cons_of_mem _ hq)⟩
    unfold tupI Rep
    exact ⟨p.1, _, rfl, h p List.mem_cons_self, .ints _⟩
theorem v_ss {P : Program} {w : World} : CallV K (fun vs H Q => rSetOfT K P w vs H fun x H2 => rSortedT K P w [x] H2 Q) ssF := by
  intro as xs M H st Q E r so p
  unfold ssF at p
  split at p
  · exact p.elim
  · rename_i hn
    split at p
    · rename_i ps h
      split at p
      · rename_i hps
        obtain ⟨x, rfl, rx⟩ := r.one
        obtain ⟨ds, h1, h2⟩ := Option.bind_eq_some_iff.mp h
        obtain ⟨t, vs, rfl, q, s⟩ := seqOf_list so h1 (fun ys e => hn ys (by rw [e])) rx
        have e := pairsOf_some h2
        subst e
        obtain ⟨ks, rfl, e2, fz⟩ := pairs_rep q
        have hl : ks.length = ps.length := by have := congrArg List.length e2; simpa using this
        refine ⟨t, ks, rfl, s, fun p hp => (fz p hp).sq, by omega, fun a L hL sub all => ?_⟩
        have so1 : StOk K M (upd H a (SetTO P w a L)) st := so.laid hL
        have g1 : Grow M H M (upd H a (SetTO P w a L)) := .laid so hL
        have fz1 : ∀ p ∈ L, FzT K M (upd H a (SetTO P w a L)) p.1 (p.2.map V.int) := fun p hp => g1.k.fzT (fz p (sub p hp))
        -- each is a pair
        have two : ∀ p ∈ ks, ∃ q ∈ ps, p.2 = [q.1, q.2] := fun p hp => by
          have : p.2 ∈ ks.map (·.2) := List.mem_map.mpr ⟨p, hp, rfl⟩
          rw [e2] at this
          obtain ⟨q, hq, e⟩ := List.mem_map.mp this
          exact ⟨q, hq, e.symm⟩
        obtain ⟨B, hB⟩ := bnd_of ps
        refine ⟨a, L, 2, B, rfl, upd_same, fun p hp => (fz1 p hp).sq, by decide, fun p hp => ?_, fun L' pa pm nd _ pw hpa => ?_⟩
        · obtain ⟨q, hq, e⟩ := two p (sub p hp)
          have := hps.2 q hq
          have := hB q hq
          rw [e]
          refine ⟨rfl, fun m hm => ?_⟩
          rcases List.mem_cons.mp hm with rfl | hm
          · omega
          · rw [List.mem_singleton.mp hm]; omega
        · have key : L'.map (·.2) = (ssP ps).map fun q => [q.1, q.2] := by
            -- decode
            have dec : ∀ p ∈ L', ∃ q ∈ ps, p.2 = [q.1, q.2] := fun p hp => two p (sub p (pm.mem_iff.mp hp))
            have e3 : L'.map (·.2) = (L'.map fun p => (p.2.getD 0 0, p.2.getD 1 0)).map fun q : P2 => [q.1, q.2] := by
              rw [List.map_map]
              apply List.map_congr_left
              intro p hp
              obtain ⟨q, _, e⟩ := dec p hp
              simp [e]
            rw [e3]
            congr 1
            refine sorted_unique ?_ sorted_ssP fun z => ?_
            · rw [List.pairwise_map]
              have nd' : L'.Pairwise fun p q => p.2 ≠ q.2 := by
                have := nd
                unfold List.Nodup at this
                rwa [List.pairwise_map] at this
              refine List.Pairwise.imp_of_mem (fun {p q} hp hq hh => ?_) (pw.and nd')
              obtain ⟨p', hp', ep⟩ := dec p hp
              obtain ⟨q', hq', eq⟩ := dec q hq
              have z1 := hps.2 p' hp'
              have z2 := hps.2 q' hq'
              have z3 := hB p' hp'
              have z4 := hB q' hq'
              rw [ep, eq] at hh
              have : ltP2 p' q' := code_lt ⟨z1.1, z1.2, z3.1, z3.2⟩ ⟨z2.1, z2.2, z4.1, z4.2⟩ hh.1 (fun e => hh.2 (by rw [e]))
              simpa [ep, eq] using this
            · rw [mem_ssP, List.mem_map]
              constructor
              · rintro ⟨p, hp, rfl⟩
                obtain ⟨q, hq, e⟩ := dec p hp
                rw [e]; exact hq
              · intro hz
                have : [z.1, z.2] ∈ ks.map (·.2) := by rw [e2]; exact List.mem_map.mpr ⟨z, hz, rfl⟩
                obtain ⟨k, hk, ek⟩ := List.mem_map.mp this
                have h5 := all k hk
                obtain ⟨l, hl', el⟩ := List.mem_map.mp h5
                refine ⟨l, pm.mem_iff.mpr hl', ?_⟩
                have : l.2 = [z.1, z.2] := by rw [el]; exact ek
                simp [this]
          have g2 : Grow M (upd H a (SetTO P w a L)) M (upd (upd H a (SetTO P w a L)) pa (.lst (L'.map fun q => V.ref q.1))) := .laid so1 hpa
          have rp : RepL K M (upd H a (SetTO P w a L)) ((ssP ps).map pairD) (L'.map fun q => V.ref q.1) := by
            have := rep_pairs (K := K) (L := L') (M := M) (H := upd H a (SetTO P w a L)) fun p hp => fz1 p (pm.mem_iff.mp hp)
            have e4 : (L'.map fun p => tupI p.2) = (ssP ps).map pairD := by
              rw [show (L'.map fun p => tupI p.2) = (L'.map (·.2)).map tupI by rw [List.map_map]; rfl, key, List.map_map]
              rfl
            rwa [e4] at this
          exact p M _ _ (g1.trans g2) (so1.laid hpa) (rep_lst so1 rp hpa)
      · exact p.elim
    · exact p.elim
  · exact p.elim
end
section
variable {X : Cx} {W : WX} {fs : EvA} {s : Expr}
theorem g_ss (h : PE X s (tCB (rSortedT X.K X.prog X.w) (tCons (tCB (rSetOfT X.K X.prog X.w) (rdA X.K W fs)) tNil))) : PE X s (rdE X.K W (callE ssF fs)) :=
  h.imp fun σ H Q q => rd_call (v_ss (P := X.prog) (w := X.w)) σ H Q q
end
@[simp] theorem ssF_pairs (ps : List P2) (st : Sto) : ssF [.lst (ps.map pairD)] st = if ps.length < 64 ∧ ∀ p ∈ ps, 0 ≤ p.1 ∧ 0 ≤ p.2 then .ok (.lst ((ssP ps).map pairD)) st else .fail := by
  show (match (some (ps.map pairD)).bind pairsOf with | some ps => _ | none => _) = _
  rw [Option.bind_some, pairsOf_map]
@[simp] theorem tgT_tp2 (i j : Nat) (a b : D) (env : Env) (st : Sto) : tgT (.tp [.nm i, .nm j]) (.tup [a, b]) env st = .ok ((env.set i (some a)).set j (some b)) st := by simp [tgT, Tg.set, Tg.sets]
@[simp] theorem tgT_tp3 (i j k : Nat) (a b c : D) (env : Env) (st : Sto) : tgT (.tp [.nm i, .nm j, .nm k]) (.tup [a, b, c]) env st = .ok (((env.set i (some a)).set j (some b)).set k (some c)) st := by simp [tgT, Tg.set, Tg.sets]
@[simp] theorem turnS_cont (k : Env → Sto → S) (env : Env) (st : Sto) : turnS (.cont env st) k = k env st := rfl
@[simp] theorem turnS_brk (k : Env → Sto → S) (env : Env) (st : Sto) : turnS (.brk env st) k = .nx env st := rfl
end G

namespace G
open PySem PySem.Spec PyProof.Rows L2
/-! dict displays as mere values -/
def dicE : EvE := fun _ st => .ok .dic st
theorem rep_dic {K : PySem.W.Frag} {M : Mem} {H : Hp} {st : Sto} {p : Addr} {kvs : List (Key × V)} (so : StOk K M H st) (h : H p = none) {H' : Hp} (e : H' p = some (.dK kvs)) : Rep K M H' .dic (.ref p) := by
  unfold Rep
  exact ⟨p, kvs, rfl, e, so.notin h⟩
section
variable {X : Cx} {W : WX} {pos : Pos}
theorem g_dic0 : PE X (.Dict [] [] pos) (rdE X.K W dicE) :=
  pe_dnewK.imp fun σ H Q ⟨env, M, st, eo, so, p⟩ => fun a ha => p M _ (.ref a) (.laid so ha) (so.laid ha) (rep_dic so ha upd_same)
/-- one text key and an int -/
theorem g_dic1 {x : Str} {i : Int} {ke ve : Expr} (hk : PE X ke (tC (.str x))) (hv : PE X ve (tC (.int i))) : PE X (.Dict [some ke] [ve] pos) (rdE X.K W dicE) :=
  (pe_disp (pps_cons hk hv pps_nil) rfl rfl (by simp) (by simp)).imp fun σ H Q ⟨env, M, st, eo, so, p⟩ => fun a ha => by
    have e : ∀ o o' : HO, upd (upd H a o) a o' = upd H a o' := fun o o' => by
      funext b
      unfold upd
      split <;> rfl
    refine ⟨upd_same, [(.inr x, .int i)], rfl, by simp, ?_⟩
    rw [e]
    exact p M _ (.ref a) (.laid so ha) (so.laid ha) (rep_dic so ha upd_same)
end
@[simp] theorem dicE_eq (env : Env) (st : Sto) : dicE env st = .ok .dic st := rfl
@[simp] theorem isiD_dic (c : Tag) (st : Sto) : isiD c .dic st = .ok (.bl (isiB .dic c)) st := rfl
@[simp] theorem isND_dic (st : Sto) : isND .dic .non st = .ok (.bl false) st := rfl
end G

namespace G
open PySem PySem.Spec PyProof.Rows L2
/-! set(a tuple of tuples of ints) -/
section
variable {P : Program} {w : World} {A : Around} {E : Value → Shared → Prop} {s : Shared}
def newSetO (w : World) : Obj := { cls := .type "set", dict := none, data := .set #[] 0 (.fresh 0 0 (!w.params.followText "set-order")) }
set_option maxHeartbeats 3200000 in
theorem set_of_tuple {l : Addr} {items : Array Value} (ks : List (Addr × List Int)) {Q : Value → Shared → Prop} (hh : A.handled = none) (hl : s.heap.IsTuple l items)
    (hit : items.toList = ks.map fun p => Value.ref p.1) (hk : ∀ p ∈ ks, IsT P w s.heap p.2 p.1) (hfew : ks.length < 64) (hu : A.units + 3 < cLine)
    (fin : ∀ (h' : Heap) (tk : Nat) L es ep t, SetTR P w h' s.heap.objs.size L es ep t → Got ks ks.length L → (∀ b o, s.heap.get? b = some o → h'.get? b = some o) → Q (.ref s.heap.objs.size) { s with heap := h', toks := tk }) :
    wpAny (model P w) A (call (.type "set") [.ref l]) Q E s := by
  have hn : items.size = ks.length := by rw [← Array.length_toList, hit, List.length_map]
  obtain ⟨c0, tl0, om⟩ := F.called_set.mro
  have om1 := F.called_set.made; have om2 := F.called_set.sub; have om3 := F.called_set.notType; have om4 := F.called_set.canCreate
  have om5 := F.typeCall_set_1 (.ref l)
  apply wpAny_call; apply codeAny_of_tree
  show wpAny _ _ (callAny (.type "set") _) _ _ _
  apply wpAny_pure
  refine ⟨Code.quiet_builtin _ (by decide +kernel), ?_⟩
  apply codeAny_builtin F.entry_type_call
  rw [Around.under_plain (weight_type_call_type "set" [.ref l] []) rfl]
  repeat (any_goals (first | wp_step | assumption))
  apply codeAny_mono (code_set_led1 (.ref l) (E := E) (Q₁ := fun x s1 => x = .ref s.heap.objs.size ∧ s1 = { s with heap := s.heap.push (newSetO w) }) ⟨rfl, rfl⟩)
  intro r s1 hr
  match r, hr with
  | .error e, hr => exact hr
  | .ok (.ret obj), hr =>
    obtain ⟨rfl, rfl⟩ := hr
    have top : (s.heap.push (newSetO w)).get? s.heap.objs.size = some (newSetO w) := Heap.get?_push_size _ rfl
    have isS : Shared.TypeIs { s with heap := s.heap.push (newSetO w) } (.ref s.heap.objs.size) "set" := ⟨_, top, rfl⟩
    have om6 := F.called_set.init.lookup
    have om7 := F.called_set.init.bind (.ref s.heap.objs.size)
    repeat (any_goals (first | wp_step | assumption))
    have tup1 : (s.heap.push (newSetO w)).IsTuple l items := hl.push _
    have sz1 : (s.heap.push (newSetO w)).objs.size = s.heap.objs.size + 1 := Heap.size_push ..
    have below : ∀ b o, s.heap.get? b = some o → (s.heap.push (newSetO w)).get? b = some o := fun b o e => Heap.get?_push_of_some _ e
    have above : ∀ b, s.heap.objs.size ≤ b → s.heap.get? b = none := fun b hb => by
      cases e : s.heap.get? b with
      | none => rfl
      | some o => exact absurd (Heap.lt_size e) (Nat.not_lt.mpr hb)
    apply codeAny_mono (codeAny_call_builtin (R := wants (fun x s2 => x = .none ∧ ∃ h' tk L es ep t, s2 = { s with heap := h', toks := tk } ∧ SetTR P w h' s.heap.objs.size L es ep t ∧ Got ks ks.length L ∧ ∀ b o, s.heap.get? b = some o → h'.get? b = some o) E) F.called_set.init.plain F.entry_set_init (check_set_init_1 isS ?_))
    · intro r2 s2 h2
      match r2, h2 with
      | .error e, h2 => exact h2
      | .ok (.ret x), h2 =>
        obtain ⟨rfl, h', tk, L, es, ep, t, rfl, a1, a2, a3⟩ := h2
        repeat (any_goals (first | wp_step | assumption))
        exact fin _ _ _ _ _ _ a1 a2 a3
    · obtain ⟨ol, hol, hcl, nl, hdl⟩ := id tup1
      obtain ⟨ocls, odict, odata, oslots⟩ := ol
      simp only at hcl hdl
      subst hcl; subst hdl
      have d1 : (Value.type "tuple" == Value.type "dict") = false := by decide
      have d2 := F.sub_tuple_set
      have d3 := F.sub_tuple_frozenset
      unfold Builtin.«set.__init__» noKeywords Builtin.Frozenset.updateFrom
      generalize hPI : pyIter = PI
      wp_walk
      subst hPI
      apply wpAny_pyIter_tuple tup1
      apply wpAny_bind; apply wpAny_runValue
      have hA : A.in1.in1.in1.handled = none := by simpa using hh
      have lS : l < s.heap.objs.size := by obtain ⟨o, ho, _⟩ := hl; exact Heap.lt_size ho
      have neI : l ≠ (s.heap.push (newSetO w)).objs.size := by rw [sz1]; exact Nat.ne_of_lt (Nat.lt_succ_of_lt lS)
      have sOut : s.heap.objs.size ∉ [(s.heap.push (newSetO w)).objs.size, l] := by
        rw [sz1]
        intro hm
        rcases List.mem_cons.mp hm with e | hm
        · exact Nat.ne_of_lt (Nat.lt_succ_self _) e
        · exact Nat.ne_of_gt lS (List.mem_singleton.mp hm)
      have vals : ∀ (i : Nat) (v : Value), items[i]? = some v → ∃ p, ks[i]? = some p ∧ v = .ref p.1 := fun i v hv => by
        have e : items.toList[i]? = some v := by rw [Array.getElem?_toList, hv]
        rw [hit, List.getElem?_map] at e
        obtain ⟨p, hp, rfl⟩ := Option.map_eq_some_iff.mp e
        exact ⟨p, hp, rfl⟩
      apply set_update_tups ((Walks.tuple hA _ l neI items).toS) s.heap.objs.size sOut ks hn hfew vals s.heap hk (above _ (Nat.le_refl _)) (fun b hb => above b (by rw [List.mem_singleton.mp hb, sz1]; exact Nat.le_succ _)) hu (items.size - 0) 0 _ (by omega) (Nat.zero_le _)
      · exact ⟨⟨_, Heap.get?_push_size _ rfl, rfl, rfl⟩, tup1.push _⟩
      · exact fun b o e => Heap.get?_push_of_some _ (below b o e)
      · exact ⟨[], #[], 0, _, setTR_fresh (Heap.get?_push_of_some _ top), Got.zero ks⟩
      · intro s' L es ep t mv b1 b2 b3
        obtain ⟨h', g2, d2, tk2, os2⟩ := s'
        have m1 : g2 = s.gens := mv.gens
        have m2 : d2 = s.drawn := mv.drawn
        have m3 : os2 = s.os := mv.os
        subst m1 m2 m3
        rw [hn] at b2
        apply wpAny_pure
        show wpAny _ _ (ret Value.none) _ _ _
        exact wpAny_pure ⟨rfl, h', tk2, L, es, ep, t, rfl, b1, b2, b3⟩
end
section
variable {X : Cx}
/-- set(xs), xs a tuple of tuples of ints -/
def rSetTu (K : PySem.W.Frag) (P : Program) (w : World) : List V → Hp → VK → Prop := fun xs H Q => ∃ (l : Addr) (ks : List (Addr × List Int)), xs = [V.ref l] ∧ SqT K H l (ks.map fun p => V.ref p.1) ∧ (∀ p ∈ ks, SqT K H p.1 (p.2.map V.int)) ∧ ks.length < 64 ∧
  ∀ a L, H a = none → (∀ p ∈ L, p ∈ ks) → (∀ p ∈ ks, p.2 ∈ L.map (·.2)) → Q (.ref a) (upd H a (SetTO P w a L))
theorem cr_setTu (hc : X.calm = true) (hu : X.A.units + 64 < cLine) : CallR X (.type "set") (rSetTu X.K X.prog X.w) := by
  rintro pins s σ H xs us Q I r ⟨l, ks, rfl, hl, hk, hf, q⟩
  rw [Vals.ref1 r]
  obtain ⟨its, rv, pl, _⟩ := I.tuple hl
  have e := refs_of_vals rv
  have hn : H s.heap.objs.size = none := I.hok.fresh (Nat.le_refl _)
  apply set_of_tuple (P := X.prog) (w := X.w) ks (I.ok.hd hc) (show s.heap.IsTuple l its.toArray from pl) (by simpa using e) (fun p hp => I.isT (hk p hp)) hf (by omega)
  intro h' tk L es ep t R g kp
  exact ⟨.ref s.heap.objs.size, upd H s.heap.objs.size (SetTO X.prog X.w s.heap.objs.size L), I.laid (t' := tk) kp (Nat.le_refl _) (setTO_new R.t0), rfl, q _ L hn (fun p hp => List.mem_of_mem_take (g.sub p hp)) fun p hp => g.all p (by rw [List.take_length]; exact hp)⟩
def rSetTB (K : PySem.W.Frag) (P : Program) (w : World) : List V → Hp → VK → Prop := fun xs H Q => rSetOfT K P w xs H Q ∨ rSetTu K P w xs H Q
theorem cr_setTB (hc : X.calm = true) (hu : X.A.units + 64 < cLine) : CallR X (.type "set") (rSetTB X.K X.prog X.w) := by
  intro pins s σ H xs us Q I r h
  rcases h with h | h
  · exact cr_setOfT hc hu pins s σ H xs us Q I r h
  · exact cr_setTu hc hu pins s σ H xs us Q I r h
end
end G

namespace G
open PySem PySem.Spec PyProof.Rows L2
/-! sorted(set(a list or a tuple of pairs of ints from 0 on)) -/
def ssBF : FA := fun as st => match as with
  | [a] => (match (seqOf a st).bind pairsOf with
    | some ps => if ps.length < 64 ∧ ∀ p ∈ ps, 0 ≤ p.1 ∧ 0 ≤ p.2 then .ok (.lst ((ssP ps).map pairD)) st else .fail
    | none => .fail)
  | _ => .fail
section
variable {K : PySem.W.Frag} {M : Mem} {H : Hp}
theorem v_ssB {P : Program} {w : World} : CallV K (fun vs H Q => rSetTB K P w vs H fun x H2 => rSortedT K P w [x] H2 Q) ssBF := by
  intro as xs M H st Q E r so p
  unfold ssBF at p
  split at p
  · split at p
    · rename_i ps h
      split at p
      · rename_i hps
        obtain ⟨x, rfl, rx⟩ := r.one
        obtain ⟨ds, h1, h2⟩ := Option.bind_eq_some_iff.mp h
        obtain ⟨t, vs, rfl, q, s⟩ := seqOf_rep so h1 rx
        have e := pairsOf_some h2
        subst e
        obtain ⟨ks, rfl, e2, fz⟩ := pairs_rep q
        have hl : ks.length = ps.length := by have := congrArg List.length e2; simpa using this
        have cont : ∀ a L, H a = none → (∀ p ∈ L, p ∈ ks) → (∀ p ∈ ks, p.2 ∈ L.map (·.2)) → rSortedT K P w [.ref a] (upd H a (SetTO P w a L)) Q := fun a L hL sub all => by
          have so1 : StOk K M (upd H a (SetTO P w a L)) st := so.laid hL
          have g1 : Grow M H M (upd H a (SetTO P w a L)) := .laid so hL
          have fz1 : ∀ p ∈ L, FzT K M (upd H a (SetTO P w a L)) p.1 (p.2.map V.int) := fun p hp => g1.k.fzT (fz p (sub p hp))
          -- each is a pair
          have two : ∀ p ∈ ks, ∃ q ∈ ps, p.2 = [q.1, q.2] := fun p hp => by
            have : p.2 ∈ ks.map (·.2) := List.mem_map.mpr ⟨p, hp, rfl⟩
            rw [e2] at this
            obtain ⟨q, hq, e⟩ := List.mem_map.mp this
            exact ⟨q, hq, e.symm⟩
          obtain ⟨B, hB⟩ := bnd_of ps
          refine ⟨a, L, 2, B, rfl, upd_same, fun p hp => (fz1 p hp).sq, by decide, fun p hp => ?_, fun L' pa pm nd _ pw hpa => ?_⟩
          · obtain ⟨q, hq, e⟩ := two p (sub p hp)
            have := hps.2 q hq
            have := hB q hq
            rw [e]
            refine ⟨rfl, fun m hm => ?_⟩
            rcases List.mem_cons.mp hm with rfl | hm
            · omega
            · rw [List.mem_singleton.mp hm]; omega
          · have key : L'.map (·.2) = (ssP ps).map fun q => [q.1, q.2] := by
              -- decode
              have dec : ∀ p ∈ L', ∃ q ∈ ps, p.2 = [q.1, q.2] := fun p hp => two p (sub p (pm.mem_iff.mp hp))
              have e3 : L'.map (·.2) = (L'.map fun p => (p.2.getD 0 0, p.2.getD 1 0)).map fun q : P2 => [q.1, q.2] := by
                rw [List.map_map]
                apply List.map_congr_left
                intro p hp
                obtain ⟨q, _, e⟩ := dec p hp
                simp [e]
              rw [e3]
              congr 1
              refine sorted_unique ?_ sorted_ssP fun z => ?_
              · rw [List.pairwise_map]
                have nd' : L'.Pairwise fun p q => p.2 ≠ q.2 := by
                  have := nd
                  unfold List.Nodup at this
                  rwa [List.pairwise_map] at this
                refine List.Pairwise.imp_of_mem (fun {p q} hp hq hh => ?_) (pw.and nd')
                obtain ⟨p', hp', ep⟩ := dec p hp
                obtain ⟨q', hq', eq⟩ := dec q hq
                have z1 := hps.2 p' hp'
                have z2 := hps.2 q' hq'
                have z3 := hB p' hp'
                have z4 := hB q' hq'
                rw [ep, eq] at hh
                have : ltP2 p' q' := code_lt ⟨z1.1, z1.2, z3.1, z3.2⟩ ⟨z2.1, z2.2, z4.1, z4.2⟩ hh.1 (fun e => hh.2 (by rw [e]))
                simpa [ep, eq] using this
              · rw [mem_ssP, List.mem_map]
                constructor
                · rintro ⟨p, hp, rfl⟩
                  obtain ⟨q, hq, e⟩ := dec p hp
                  rw [e]; exact hq
                · intro hz
                  have : [z.1, z.2] ∈ ks.map (·.2) := by rw [e2]; exact List.mem_map.mpr ⟨z, hz, rfl⟩
                  obtain ⟨k, hk, ek⟩ := List.mem_map.mp this
                  have h5 := all k hk
                  obtain ⟨l, hl', el⟩ := List.mem_map.mp h5
                  refine ⟨l, pm.mem_iff.mpr hl', ?_⟩
                  have : l.2 = [z.1, z.2] := by rw [el]; exact ek
                  simp [this]
            have g2 : Grow M (upd H a (SetTO P w a L)) M (upd (upd H a (SetTO P w a L)) pa (.lst (L'.map fun q => V.ref q.1))) := .laid so1 hpa
            have rp : RepL K M (upd H a (SetTO P w a L)) ((ssP ps).map pairD) (L'.map fun q => V.ref q.1) := by
              have := rep_pairs (K := K) (L := L') (M := M) (H := upd H a (SetTO P w a L)) fun p hp => fz1 p (pm.mem_iff.mp hp)
              have e4 : (L'.map fun p => tupI p.2) = (ssP ps).map pairD := by
                rw [show (L'.map fun p => tupI p.2) = (L'.map (·.2)).map tupI by rw [List.map_map]; rfl, key, List.map_map]
                rfl
              rwa [e4] at this
            exact p M _ _ (g1.trans g2) (so1.laid hpa) (rep_lst so1 rp hpa)
        rcases s with s | s
        · exact .inr ⟨t, ks, rfl, s, fun p hp => (fz p hp).sq, by omega, cont⟩
        · exact .inl ⟨t, ks, rfl, s, fun p hp => (fz p hp).sq, by omega, cont⟩
      · exact p.elim
    · exact p.elim
  · exact p.elim
end
section
variable {X : Cx} {W : WX} {fs : EvA} {s : Expr}
theorem g_ssB (h : PE X s (tCB (rSortedT X.K X.prog X.w) (tCons (tCB (rSetTB X.K X.prog X.w) (rdA X.K W fs)) tNil))) : PE X s (rdE X.K W (callE ssBF fs)) :=
  h.imp fun σ H Q q => rd_call (v_ssB (P := X.prog) (w := X.w)) σ H Q q
end
@[simp] theorem ssBF_pairs (ps : List P2) (st : Sto) : ssBF [.lst (ps.map pairD)] st = if ps.length < 64 ∧ ∀ p ∈ ps, 0 ≤ p.1 ∧ 0 ≤ p.2 then .ok (.lst ((ssP ps).map pairD)) st else .fail := by
  show (match (some (ps.map pairD)).bind pairsOf with | some ps => _ | none => _) = _
  rw [Option.bind_some, pairsOf_map]
@[simp] theorem ssBF_pairsT (ps : List P2) (st : Sto) : ssBF [.tup (ps.map pairD)] st = if ps.length < 64 ∧ ∀ p ∈ ps, 0 ≤ p.1 ∧ 0 ≤ p.2 then .ok (.lst ((ssP ps).map pairD)) st else .fail := by
  show (match (some (ps.map pairD)).bind pairsOf with | some ps => _ | none => _) = _
  rw [Option.bind_some, pairsOf_map]
end G

namespace G
open PySem PySem.Spec PyProof.Rows L2 HT
/-! zip of three tuples -/
def Itz3 (K : PySem.W.Frag) (a b c : Addr) : It :=
  ⟨fun i H => ∃ (xs ys zs : List V) (x y z : V), SqT K H a xs ∧ SqT K H b ys ∧ SqT K H c zs ∧ xs[i]? = some x ∧ ys[i]? = some y ∧ zs[i]? = some z,
    fun i H v H' => ∃ T x y z, v = .ref T ∧ H T = none ∧ H' = upd H T (.tup [x, y, z]) ∧ (∀ xs, SqT K H a xs → xs[i]? = some x) ∧ (∀ ys, SqT K H b ys → ys[i]? = some y) ∧ ∀ zs, SqT K H c zs → zs[i]? = some z,
    fun i H => ∃ xs ys zs : List V, SqT K H a xs ∧ SqT K H b ys ∧ SqT K H c zs ∧ i ≤ xs.length ∧ i ≤ ys.length ∧ i ≤ zs.length ∧ (i = xs.length ∨ i = ys.length ∨ i = zs.length)⟩
theorem turn_zip3 {P : Program} {w : World} {K : PySem.W.Frag} {elts : List Expr} {kk : Nat} {tpos : Pos} {a b c z TI TO i1 i2 i3 : Addr} (S : ZipSep3 z TI TO i1 i2 i3 [i1, a] [i2, b] [i3, c]) (n1 : a ≠ i1) (n2 : b ≠ i2) (n3 : c ≠ i3) :
    Turn P w K (.Tuple elts kk tpos) (Itz3 K a b c) [z, TI, TO, i1, i2, i3] z (fun i h => IsZip h z TI TO .none ∧ IsTupOf3 h TI (.ref i1) (.ref i2) (.ref i3) ∧ (∃ a1 a2 a3, IsTupOf3 h TO a1 a2 a3) ∧ h.IsTupleIter i1 a i ∧ h.IsTupleIter i2 b i ∧ h.IsTupleIter i3 c i) where
  mem := by simp
  obj := fun i h st d hd => by
    obtain ⟨hz, hTI, ⟨x, y, u, hTO⟩, ⟨o1, e1, _, d1⟩, ⟨o2, e2, _, d2⟩, ⟨o3, e3, _, d3⟩⟩ := st
    have e' : d = z ∨ d = TI ∨ d = TO ∨ d = i1 ∨ d = i2 ∨ d = i3 := by simpa using hd
    rcases e' with q | q | q | q | q | q <;> rw [q]
    · exact ⟨_, hz, fun v q => nomatch q⟩
    · exact ⟨_, hTI, fun v q => nomatch q⟩
    · exact ⟨_, hTO, fun v q => nomatch q⟩
    · exact ⟨o1, e1, fun v q => by rw [d1] at q; cases q⟩
    · exact ⟨o2, e2, fun v q => by rw [d2] at q; cases q⟩
    · exact ⟨o3, e3, fun v q => by rw [d3] at q; cases q⟩
  keep := fun i h h' st k => by
    obtain ⟨hz, hTI, ⟨x, y, u, hTO⟩, h1, h2, h3⟩ := st
    exact ⟨k z (by simp) _ hz, k TI (by simp) _ hTI, ⟨x, y, u, k TO (by simp) _ hTO⟩, h1.at fun o q => k i1 (by simp) o q, h2.at fun o q => k i2 (by simp) o q, h3.at fun o q => k i3 (by simp) o q⟩
  item := by
    intro X hP hw hK hc i pins s σ H E I hf st hg
    subst hP hw hK
    obtain ⟨hz, hTI, hTO, h1, h2, h3⟩ := st
    obtain ⟨xs, ys, zs, x, y, u, qx, qy, qz, hx, hy, hu⟩ := hg
    obtain ⟨ia, ra, pa, _⟩ := I.tuple qx
    obtain ⟨ib, rb, pb, _⟩ := I.tuple qy
    obtain ⟨ic, rc, pc, _⟩ := I.tuple qz
    obtain ⟨va, ea, wa⟩ := ra.get hx
    obtain ⟨vb, eb, wb⟩ := rb.get hy
    obtain ⟨vc, ec, wc⟩ := rc.get hu
    have la : i < ia.toArray.size := by have := (List.getElem?_eq_some_iff.mp ea).1; simpa using this
    have lb : i < ib.toArray.size := by have := (List.getElem?_eq_some_iff.mp eb).1; simpa using this
    have lc : i < ic.toArray.size := by have := (List.getElem?_eq_some_iff.mp ec).1; simpa using this
    have hh := I.ok.hd hc
    have W := WalksT.zipD3 (prog := X.prog) (w := X.w) (A := X.A) S (Draws.tuple (A := X.A.in1) hh i1 a n1 ia.toArray) (Draws.tuple (A := X.A.in1) hh i2 b n2 ib.toArray) (Draws.tuple (A := X.A.in1) hh i3 c n3 ic.toArray)
    have gone : ∀ {d : Addr}, d ∈ [z, TI, TO, i1, i2, i3] → d < s.heap.objs.size := fun {d} hd => by
      have e' : d = z ∨ d = TI ∨ d = TO ∨ d = i1 ∨ d = i2 ∨ d = i3 := by simpa using hd
      rcases e' with q | q | q | q | q | q <;> rw [q]
      · exact Heap.lt_size hz
      · exact Heap.lt_size hTI
      · obtain ⟨_, _, _, e⟩ := hTO; exact Heap.lt_size e
      · obtain ⟨_, e, _⟩ := h1; exact Heap.lt_size e
      · obtain ⟨_, e, _⟩ := h2; exact Heap.lt_size e
      · obtain ⟨_, e, _⟩ := h3; exact Heap.lt_size e
    have wr : ∀ d, d ∈ [z, TO, i1, i2, i3] → d ∈ [z, TI, TO, i1, i2, i3] := fun d hd => by
      have e' : d = z ∨ d = TO ∨ d = i1 ∨ d = i2 ∨ d = i3 := by simpa using hd
      rcases e' with q | q | q | q | q <;> rw [q] <;> simp
    refine W.item i s _ E (by omega) ⟨hz, hTI, hTO, ⟨h1, pa⟩, ⟨h2, pb⟩, ⟨h3, pc⟩⟩ fun T vals h' tk hv hT tu mid kp => ?_
    refine ⟨_, rfl, W.go elts kk tpos i T { s with heap := h', toks := tk } _ E mid fun h'' st2 kp2 => ?_⟩
    obtain ⟨x1, x2, x3, f1, f2, f3, rfl⟩ := hv
    have g1 : x1 = va := by
      have f1' : ia[i]? = some x1 := by simpa using f1
      rw [ea] at f1'; exact (Option.some.inj f1').symm
    have g2 : x2 = vb := by
      have f2' : ib[i]? = some x2 := by simpa using f2
      rw [eb] at f2'; exact (Option.some.inj f2').symm
    have g3 : x3 = vc := by
      have f3' : ic[i]? = some x3 := by simpa using f3
      rw [ec] at f3'; exact (Option.some.inj f3').symm
    subst g1 g2 g3
    have tw := W.apart i T h' mid
    obtain ⟨ot, gt, ct, nt, dt⟩ := tu
    have gt2 := kp2 T ot tw gt
    have new : ObjOk X.prog X.w (upd H T (.tup [x, y, u])) h'' T (.tup [x, y, u]) :=
      ⟨by show 3 ≤ sizeLine; decide, [x1, x2, x3], .cons wa (.cons wb (.cons wc .nil)), ⟨ot, gt2, ct, nt, dt⟩⟩
    have I1 : Inv X pins σ (upd H T (.tup [x, y, u])) { s with heap := h'', toks := tk } :=
      I.turnedNew (ch := [z, TI, TO, i1, i2, i3]) (fun d o hb q => kp2 d o (fun m => hb (wr d m)) (kp d o (fun m => hb (wr d m)) q)) hf hT new
    obtain ⟨s1, s2, s3, ⟨s4, _⟩, ⟨s5, _⟩, ⟨s6, _⟩⟩ := st2
    refine ⟨.ref T, _, I1, rfl, ⟨T, x, y, u, rfl, I.hok.fresh hT, rfl, fun l hl => by rw [I.tuple_inj hl qx]; exact hx, fun l hl => by rw [I.tuple_inj hl qy]; exact hy, fun l hl => by rw [I.tuple_inj hl qz]; exact hu⟩, ⟨s1, s2, s3, s4, s5, s6⟩, fun d hd => ?_⟩
    rw [upd_ne (Nat.ne_of_lt (Nat.lt_of_lt_of_le (gone hd) hT))]
    exact (hf d hd).1
  done := by
    intro X hP hw hK hc i pins s σ H E I hf st hg
    subst hP hw hK
    obtain ⟨hz, hTI, ⟨u1, u2, u3, hTO⟩, h1, h2, h3⟩ := st
    obtain ⟨xs, ys, zs, qx, qy, qz, l1, l2, l3, hend⟩ := hg
    obtain ⟨ia, ra, pa, _⟩ := I.tuple qx
    obtain ⟨ib, rb, pb, _⟩ := I.tuple qy
    obtain ⟨ic, rc, pc, _⟩ := I.tuple qz
    have la := ra.length; have lb := rb.length; have lc := rc.length
    have hh := I.ok.hd hc
    refine wpAny_pyNext_zipD3_end S (Draws.tuple (A := X.A.in1) hh i1 a n1 ia.toArray) (Draws.tuple (A := X.A.in1) hh i2 b n2 ib.toArray) (Draws.tuple (A := X.A.in1) hh i3 c n3 ic.toArray) hz hTI hTO ⟨h1, pa⟩ ⟨h2, pb⟩ ⟨h3, pc⟩ (by simp; omega) (by simp; omega) (by simp; omega) (by simp; omega) fun h' tk kp => ?_
    exact ⟨rfl, I.turnedL (t' := tk) (ch := [z, TI, TO, i1, i2, i3]) (fun d o hb q => kp d o (fun m => hb (by simp [m])) (fun m => hb (by simp [m])) (fun m => hb (by simp [m])) (fun m => hb (by simp [m])) (fun m => hb (by simp [m])) q) hf⟩
  self := fun A i s Q E st h => wpAny_pyIter_zip st.1 h
def iZip3 (K : PySem.W.Frag) (ta : TA) : TI := fun σ H R => ta σ H fun vs H1 => ∃ a b c xs ys zs, vs = [.ref a, .ref b, .ref c] ∧ SqT K H1 a xs ∧ SqT K H1 b ys ∧ SqT K H1 c zs ∧ R (Itz3 K a b c) H1
theorem pi_zip3 {X : Cx} {e e2 e3 : Expr} {ta : TA} {p pos tpos : Pos} {elts : List Expr} {kk : Nat} (hg : Gl X "zip") (hm : X.mg "zip" = none) (ha : PA X [e, e2, e3] ta)
    (hs : starEach [e, e2, e3] X.env = (false, eval e X.env) :: starEach [e2, e3] X.env := by rfl) (hpl : (backTo pos (starEach [e2, e3] X.env)).any (·.1) = false := by rfl) :
    PI X (.Tuple elts kk tpos) (.Call (.Name "zip" p) [e, e2, e3] [] pos) (iZip3 X.K ta) := by
  refine ⟨fun pins s σ H R I h => ?_⟩
  refine Call_ (ld_blt I hg hm PyProof.Rows.boot_zip (PyProof.Rows.callWith_type1 (thn (ha.run pos pins s σ H _ I h) fun us s1 ⟨vs, H1, I1, r1, q1⟩ => ?_) hs hpl))
  obtain ⟨a, b, c, xs, ys, zs, ex, qx, qy, qz, q⟩ := q1
  subst ex
  obtain ⟨v1, v2, v3, rfl, e1, e2, e3⟩ : ∃ v1 v2 v3, us = [v1, v2, v3] ∧ v1 = .ref a ∧ v2 = .ref b ∧ v3 = .ref c := by
    cases r1 with
    | cons r rr =>
      cases rr with
      | cons r' rr =>
        cases rr with
        | cons r'' rr =>
          cases rr; cases r; cases r'; cases r''
          exact ⟨_, _, _, rfl, rfl, rfl, rfl⟩
  subst e1 e2 e3
  obtain ⟨ia, ra, pa, _⟩ := I1.tuple qx
  obtain ⟨ib, rb, pb, _⟩ := I1.tuple qy
  obtain ⟨ic, rc, pc, _⟩ := I1.tuple qz
  have lt : ∀ {d : Addr} {its : Array Value}, s1.heap.IsTuple d its → d < s1.heap.objs.size := fun {d its} t => by obtain ⟨o, e, _⟩ := t; exact Heap.lt_size e
  have hpa := lt pa; have hpb := lt pb; have hpc := lt pc
  refine zip_begins3 (begins_tuple a ia.toArray) (begins_tuple b ib.toArray) (begins_tuple c ic.toArray) pa pb pc fun h' hz hTI hTO g1 g2 g3 hsz kp => wpAny_pyIter_zip hz ?_
  have I2 : Inv X pins σ H1 { s1 with heap := h' } := I1.kept (t' := s1.toks) kp
  have S : ZipSep3 (s1.heap.objs.size + 5) (s1.heap.objs.size + 3) (s1.heap.objs.size + 4) s1.heap.objs.size (s1.heap.objs.size + 1) (s1.heap.objs.size + 2) [s1.heap.objs.size, a] [s1.heap.objs.size + 1, b] [s1.heap.objs.size + 2, c] :=
    zip_sep3 (fun d hd => by rw [List.mem_singleton.mp hd]; exact hpa) (fun d hd => by rw [List.mem_singleton.mp hd]; exact hpb) (fun d hd => by rw [List.mem_singleton.mp hd]; exact hpc)
  have fp : ∀ d ∈ [s1.heap.objs.size + 5, s1.heap.objs.size + 3, s1.heap.objs.size + 4, s1.heap.objs.size, s1.heap.objs.size + 1, s1.heap.objs.size + 2], s1.heap.objs.size ≤ d := fun d hd => by
    have e' : d = s1.heap.objs.size + 5 ∨ d = s1.heap.objs.size + 3 ∨ d = s1.heap.objs.size + 4 ∨ d = s1.heap.objs.size ∨ d = s1.heap.objs.size + 1 ∨ d = s1.heap.objs.size + 2 := by simpa using hd
    rcases e' with q | q | q | q | q | q <;> rw [q]
    · exact Nat.le_add_right _ _
    · exact Nat.le_add_right _ _
    · exact Nat.le_add_right _ _
    · exact Nat.le_refl _
    · exact Nat.le_add_right _ _
    · exact Nat.le_add_right _ _
  exact ⟨s1.heap.objs.size + 5, [s1.heap.objs.size + 5, s1.heap.objs.size + 3, s1.heap.objs.size + 4, s1.heap.objs.size, s1.heap.objs.size + 1, s1.heap.objs.size + 2], _, _, H1, rfl, I2,
    turn_zip3 S (Nat.ne_of_lt hpa) (Nat.ne_of_lt (Nat.lt_of_lt_of_le hpb (Nat.le_add_right _ _))) (Nat.ne_of_lt (Nat.lt_of_lt_of_le hpc (Nat.le_add_right _ _))),
    ⟨hz, hTI, ⟨_, _, _, hTO⟩, ⟨_, g1, rfl, rfl⟩, ⟨_, g2, rfl, rfl⟩, ⟨_, g3, rfl, rfl⟩⟩, fun d hd => I1.fpOk (fp d hd) (I1.hok.fresh (fp d hd)), q⟩
def zip3L : List D → List D → List D → List D
  | x :: xs, y :: ys, z :: zs => .tup [x, y, z] :: zip3L xs ys zs
  | _, _, _ => []
theorem zip3L_get : ∀ {xs ys zs : List D} {i : Nat} {d : D}, (zip3L xs ys zs)[i]? = some d → ∃ x y z, xs[i]? = some x ∧ ys[i]? = some y ∧ zs[i]? = some z ∧ d = .tup [x, y, z]
  | x :: xs, y :: ys, z :: zs, 0, d, h => ⟨x, y, z, rfl, rfl, rfl, by simpa [zip3L] using h.symm⟩
  | x :: xs, y :: ys, z :: zs, i + 1, d, h => by
    have := zip3L_get (xs := xs) (ys := ys) (zs := zs) (i := i) (d := d) (by simpa [zip3L] using h)
    simpa using this
  | [], ys, zs, i, d, h => by simp [zip3L] at h
  | x :: xs, [], zs, i, d, h => by simp [zip3L] at h
  | x :: xs, y :: ys, [], i, d, h => by simp [zip3L] at h
theorem zip3L_len : ∀ xs ys zs : List D, (zip3L xs ys zs).length = min (min xs.length ys.length) zs.length
  | x :: xs, y :: ys, z :: zs => by simp [zip3L, zip3L_len xs ys zs]
  | [], ys, zs => by simp [zip3L]
  | x :: xs, [], zs => by simp [zip3L]
  | x :: xs, y :: ys, [] => by simp [zip3L]
def zip3F (as : List D) (st : Sto) : R ItD := match as with
  | [.tup xs, .tup ys, .tup zs] => .ok (.frz (zip3L xs ys zs)) st
  | _ => .fail
section
variable {K : PySem.W.Frag} {M : Mem} {H : Hp}
theorem RepL.three {a b c : D} {xs : List V} (h : RepL K M H [a, b, c] xs) : ∃ x y z, xs = [x, y, z] ∧ Rep K M H a x ∧ Rep K M H b y ∧ Rep K M H c z := by
  unfold RepL at h
  obtain ⟨v, r, rfl, h1, h2⟩ := h
  obtain ⟨y, z, rfl, h3, h4⟩ := h2.two
  exact ⟨v, y, z, rfl, h1, h3, h4⟩
theorem triple_new {st : Sto} {x y z : D} {u v t : V} {T : Addr} (so : StOk K M H st) (rx : Rep K M H x u) (ry : Rep K M H y v) (rz : Rep K M H z t) (hT : H T = none) : Grow M H M (upd H T (.tup [u, v, t])) ∧ StOk K M (upd H T (.tup [u, v, t])) st ∧ Rep K M (upd H T (.tup [u, v, t])) (.tup [x, y, z]) (.ref T) :=
  ⟨.laid so hT, so.laid hT, rep_tup so (.cons rx (.cons ry (.cons rz .nil))) hT⟩
theorem itz3_rep {a b c : Addr} {xs ys zs : List D} {vs ws us : List V} (f : FzT K M H a vs) (q : RepL K M H xs vs) (f2 : FzT K M H b ws) (q2 : RepL K M H ys ws) (f3 : FzT K M H c us) (q3 : RepL K M H zs us) :
    ItRep K M H (.frz (zip3L xs ys zs)) (Itz3 K a b c) := fun i M' H' st' g so => by
  have f' := (g.fzT f).sq; have q' := q.kp g
  have f2' := (g.fzT f2).sq; have q2' := q2.kp g
  have f3' := (g.fzT f3).sq; have q3' := q3.kp g
  have l1 := q.length; have l2 := q2.length; have l3 := q3.length
  refine ⟨fun e => ⟨vs, ws, us, f', f2', f3', ?_⟩, fun d hd => ?_⟩
  · rw [zip3L_len] at e; omega
  · obtain ⟨x, y, z, hx, hy, hz, rfl⟩ := zip3L_get hd
    obtain ⟨v, hv, r⟩ := q'.get hx
    obtain ⟨w, hw, r2⟩ := q2'.get hy
    obtain ⟨u, hu, r3⟩ := q3'.get hz
    refine ⟨⟨vs, ws, us, v, w, u, f', f2', f3', hv, hw, hu⟩, fun k H'' ⟨T, x', y', z', e1, e2, e3, e4, e5, e6⟩ => ?_⟩
    have h4 := e4 vs f'; rw [hv] at h4; cases h4
    have h5 := e5 ws f2'; rw [hw] at h5; cases h5
    have h6 := e6 us f3'; rw [hu] at h6; cases h6
    subst e1 e3
    exact triple_new so r r2 r3 e2
variable {X : Cx} {W : WX} {fs : EvA} {tg it : Expr}
theorem g_zip3 (h : PI X tg it (iZip3 X.K (rdA X.K W fs))) : PI X tg it (rdI X.K W (callI zip3F fs)) := h.imp fun σ H R' ⟨env, M, st, eo, so, p⟩ => ⟨env, M, st, eo, so, Post.imp (Post.bind p) fun vs H1 ⟨M1, st1, as, g, so1, ra, p1⟩ => by
  unfold zip3F at p1
  split at p1
  · obtain ⟨x, y, z, rfl, rx, ry, rz⟩ := ra.three
    unfold Rep at rx ry rz
    obtain ⟨a, vs, rfl, f, q⟩ := rx
    obtain ⟨b, ws, rfl, f2, q2⟩ := ry
    obtain ⟨c, us, rfl, f3, q3⟩ := rz
    exact ⟨a, b, c, vs, ws, us, rfl, f.sq, f2.sq, f3.sq, p1 M1 H1 _ .refl so1 (itz3_rep f q f2 q2 f3 q3)⟩
  · exact p1.elim⟩
end
@[simp] theorem zip3F_tup (xs ys zs : List D) (st : Sto) : zip3F [.tup xs, .tup ys, .tup zs] st = .ok (.frz (zip3L xs ys zs)) st := rfl
end G

namespace G
open PySem PySem.Spec PyProof.Rows L2
/-! a list times a number, kept as a list that changes -/
def repMD : F2 := fun a b st => match a, b with
  | .lst xs, .int k => if k.natAbs < 2 ^ 62 ∧ xs.length * k.toNat ≤ 16777216 then .ok (.mut st.length) (st ++ [.lst (List.replicate k.toNat xs).flatten]) else .fail
  | _, _ => .fail
theorem v_repM {K : PySem.W.Frag} : OpV K (rOr (rI (fun i j => CMul i j) fun i j => .int (i * j)) (rOr (rI CMulW fun i j => .int (i * j)) (rOr rRep (rOr (rRepT K) (rRepT1 K))))) repMD := by
  intro a b x y M H st Q E ra rb so p
  unfold repMD at p
  split at p
  · split at p
    · rename_i h
      unfold Rep at ra rb
      obtain ⟨t, vs, rfl, f, q⟩ := ra
      subst rb
      refine .inr (.inr (.inl ⟨t, _, vs, rfl, rfl, f.1, by omega, by omega, by rw [← q.length]; exact size_le h.2, fun a ha => ?_⟩))
      exact p (M.push a) _ _ (.push so ha) (so.pushL ha (q.flat _)) (rep_mut so)
    · exact p.elim
  · exact p.elim
@[simp] theorem repMD_int (x : D) (k : Int) (st : Sto) : repMD (.lst [x]) (.int k) st = if k.natAbs < 2 ^ 62 ∧ k.toNat ≤ 16777216 then .ok (.mut st.length) (st ++ [.lst (List.replicate k.toNat x)]) else .fail := by
  have e : (List.replicate k.toNat [x]).flatten = List.replicate k.toNat x := by
    induction k.toNat with
    | zero => rfl
    | succ n ih => rw [List.replicate_succ, List.replicate_succ, List.flatten_cons, ih]; rfl
  unfold repMD
  simp [e]
end G

namespace G
open PySem PySem.Spec PyProof.Rows L2
/-! ### dicts that change -/
section
variable {K : PySem.W.Frag} {M M' : Mem} {H H' : Hp} {st : Sto}
mutual
theorem Rep.ff {f : Addr → Option (Obj × HO)} : ∀ {d : D} {v : V}, Rep K M H d v → Rep K ⟨M.m, M.p, f⟩ H d v
  | .non, _, h => by unfold Rep at h ⊢; exact h
  | .bl _, _, h => by unfold Rep at h ⊢; exact h
  | .int _, _, h => by unfold Rep at h ⊢; exact h
  | .str _, _, h => by unfold Rep at h ⊢; exact h
  | .raw _, _, h => by unfold Rep at h ⊢; exact h
  | .dic, _, h => by unfold Rep at h ⊢; exact h
  | .tup xs, _, h => by
    unfold Rep at h ⊢
    obtain ⟨a, vs, e, f, r⟩ := h
    exact ⟨a, vs, e, f, RepL.ff r⟩
  | .lst xs, _, h => by
    unfold Rep at h ⊢
    obtain ⟨a, vs, e, f, r⟩ := h
    exact ⟨a, vs, e, f, RepL.ff r⟩
  | .slo xs, _, h => by
    unfold Rep at h ⊢
    obtain ⟨a, vs, e, f, r⟩ := h
    exact ⟨a, vs, e, f, RepL.ff r⟩
  | .mut n, _, h => by unfold Rep at h ⊢; exact h
theorem RepL.ff {f : Addr → Option (Obj × HO)} : ∀ {ds : List D} {vs : List V}, RepL K M H ds vs → RepL K ⟨M.m, M.p, f⟩ H ds vs
  | [], _, h => by unfold RepL at h ⊢; exact h
  | d :: ds, _, h => by
    unfold RepL at h ⊢
    obtain ⟨v, r, e, h1, h2⟩ := h
    exact ⟨v, r, e, Rep.ff h1, RepL.ff h2⟩
end
theorem EnvOk.ff {f : Addr → Option (Obj × HO)} {env : Env} {σ : L2.St} (e : EnvOk K M H env σ) : EnvOk K ⟨M.m, M.p, f⟩ H env σ :=
  ⟨e.len, fun i d h => let ⟨v, h1, h2⟩ := e.at_ i d h; ⟨v, h1, h2.ff⟩⟩
theorem StOk.ff {f : Addr → Option (Obj × HO)} (s : StOk K M H st) (h : ∀ (n : Nat) (a : Addr) (kvs : List (L2.Key × V)), M.m[n]? = some a → st[n]? = some (.fk kvs) → f a = M.f a) : StOk K ⟨M.m, M.p, f⟩ H st := by
  refine ⟨s.len, s.nd, s.pd, fun n a mo e1 e2 => ?_⟩
  have q := s.at_ n a mo e1 e2
  cases mo with
  | lst xs => obtain ⟨vs, h1, r⟩ := q; exact ⟨vs, h1, r.ff⟩
  | dk kvs => exact q
  | dt kvs => exact q
  | fk kvs =>
    obtain ⟨o, h1, h2⟩ := q
    exact ⟨o, by rw [← h1]; exact h n a kvs e1 e2, h2⟩
theorem StOk.uniq (s : StOk K M H st) {n k : Nat} {a : Addr} (h : M.m[n]? = some a) (h' : M.m[k]? = some a) : n = k := by
  obtain ⟨h1, e1⟩ := List.getElem?_eq_some_iff.mp h
  obtain ⟨h2, e2⟩ := List.getElem?_eq_some_iff.mp h'
  exact (List.getElem_inj s.nd).mp (e1.trans e2.symm)
theorem StOk.mem (s : StOk K M H st) {n : Nat} {mo : MO} (h : st[n]? = some mo) : ∃ a, M.m[n]? = some a := by
  have := (List.getElem?_eq_some_iff.mp h).1
  rw [← s.len] at this
  exact ⟨M.m[n], List.getElem?_eq_getElem this⟩
end

/-- what a dict holds: plain things -/
def scal : D → Option V
  | .non => some .non
  | .bl b => some (.bl b)
  | .int i => some (.int i)
  | _ => none
def dOf : V → D
  | .non => .non
  | .bl b => .bl b
  | .int i => .int i
  | v => .raw v
theorem scal_rep {K : PySem.W.Frag} {M : Mem} {H : Hp} {d : D} {v x : V} (h : scal d = some v) (r : Rep K M H d x) : x = v := by
  cases d with
  | non => cases h; unfold Rep at r; exact r
  | bl b => cases h; unfold Rep at r; exact r
  | int b => cases h; unfold Rep at r; exact r
  | _ => cases h
theorem dOf_rep {K : PySem.W.Frag} {M : Mem} {H : Hp} (v : V) : Rep K M H (dOf v) v := by
  cases v <;> (unfold dOf Rep; rfl)
def keyOf : D → Option L2.Key
  | .int i => some (.inl i)
  | _ => none
def kD : L2.Key → D
  | .inl i => .int i
  | .inr x => .str x
theorem kD_rep {K : PySem.W.Frag} {M : Mem} {H : Hp} (k : L2.Key) : Rep K M H (kD k) (kV k) := by
  cases k <;> (unfold kD Rep; rfl)
theorem keyOf_rep {K : PySem.W.Frag} {M : Mem} {H : Hp} {d : D} {k : L2.Key} {x : V} (h : keyOf d = some k) (r : Rep K M H d x) : x = kV k := by
  cases d with
  | int b => cases h; unfold Rep at r; exact r
  | _ => cases h
def keysOf : List D → Option (List L2.Key)
  | [] => some []
  | d :: ds => match keyOf d, keysOf ds with
    | some k, some ks => some (k :: ks)
    | _, _ => none
theorem keysOf_rep {K : PySem.W.Frag} {M : Mem} {H : Hp} : ∀ {ds : List D} {ks : List L2.Key} {xs : List V}, keysOf ds = some ks → RepL K M H ds xs → xs = ks.map kV
  | [], ks, xs, h, r => by cases h; unfold RepL at r; exact r
  | d :: ds, ks, xs, h, r => by
    unfold keysOf at h
    split at h
    · rename_i k ks' e1 e2
      cases h
      unfold RepL at r
      obtain ⟨v, rr, rfl, h1, h2⟩ := r
      rw [keyOf_rep e1 h1, keysOf_rep e2 h2]; rfl
    · cases h

/-! new ones -/
def newKE : EvE := fun _ st => .ok (.mut st.length) (st ++ [.dk []])
def newTE : EvE := fun _ st => .ok (.mut st.length) (st ++ [.dt []])
section
variable {X : Cx} {W : WX} {pos : Pos} {fk fv fd fa : EvE} {ke ve : Expr}
theorem g_newK : PE X (.Dict [] [] pos) (rdE X.K W newKE) :=
  pe_dnewK.imp fun σ H Q ⟨env, M, st, eo, so, p⟩ => fun a ha => p (M.push a) _ (.ref a) (.push so ha) (so.push ha (show _ from upd_same)) (rep_mut so)
theorem g_newT : PE X (.Dict [] [] pos) (rdE X.K W newTE) :=
  pe_dnewT.imp fun σ H Q ⟨env, M, st, eo, so, p⟩ => fun a ha => p (M.push a) _ (.ref a) (.push so ha) (so.push ha (show _ from upd_same)) (rep_mut so)
/-- {k: v} -/
def disp1E (fk fv : EvE) : EvE := fun env st => (fk env (st ++ [.dk []])).bind fun k st1 => (fv env st1).bind fun v st2 => match keyOf k, scal v, st2[st.length]? with
  | some k, some v, some (.dk []) => .ok (.mut st.length) (st2.set st.length (.dk [(k, v)]))
  | _, _, _ => .fail
theorem g_disp1 (hk : PE X ke (rdE X.K W fk)) (hv : PE X ve (rdE X.K W fv)) : PE X (.Dict [some ke] [ve] pos) (rdE X.K W (disp1E fk fv)) :=
  (pe_disp (pps_cons hk hv pps_nil) rfl rfl (by simp) (by simp)).imp fun σ H Q ⟨env, M, st, eo, so, p⟩ => fun a ha => by
    have g0 : Grow M H (M.push a) (upd H a (.dK [])) := .push so ha
    have so0 : StOk X.K (M.push a) (upd H a (.dK [])) (st ++ [.dk []]) := so.push ha (show _ from upd_same)
    have am : (M.push a).m[st.length]? = some a := by
      show (M.m ++ [a])[st.length]? = some a
      rw [← so.len, List.getElem?_append_right (Nat.le_refl _)]; simp
    refine ⟨env, M.push a, st ++ [.dk []], eo.grow g0, so0, Post.imp (Post.bind (Post.mono g0 p)) fun x H1 ⟨M1, st1, k, g1, so1, rk, p1⟩ => ⟨env, M1, st1, (eo.grow g0).grow g1, so1, Post.imp (Post.bind p1) fun y H2 ⟨M2, st2, v, g2, so2, rv, p2⟩ => ?_⟩⟩
    split at p2
    · rename_i k' v' e1 e2 e3
      have am2 := g2.pre _ _ (g1.pre _ _ am)
      have hd : H2 a = some (.dK []) := so2.at_ _ a _ am2 e3
      refine ⟨hd, [(k', v')], ?_, by simp, ?_⟩
      · rw [keyOf_rep e1 rk, scal_rep e2 rv]; rfl
      · have hm : mergeK [] [(k', v')] = [(k', v')] := rfl
        rw [hm]
        exact p2 M2 _ _ (.put so2 am2) (so2.put am2 (show _ from upd_same)) (by unfold Rep; exact ⟨a, rfl, am2⟩)
    · exact p2.elim

/-! d[k] = v -/
def putD (d k v : D) (st : Sto) : Option Sto := match d with
  | .mut n => (match st[n]?, keyOf k, scal v with
    | some (.dk kvs), some k, some v => if kvs.length < 16777216 then some (st.set n (.dk (putK kvs k v))) else none
    | _, _, _ => none)
  | _ => none
def putS (fv fd fk : EvE) : SvS := fun env st => bindS (fv env st) env fun v st1 => bindS (fd env st1) env fun d st2 => bindS (fk env st2) env fun k st3 => match putD d k v st3 with
  | some st4 => .nx env st4
  | none => .fail
theorem s_put {s : Stmt} (h : PS X s (sDPut (rdE X.K W fd) (rdE X.K W fk) (rdE X.K W fv))) : PS X s (rdS X.K W (putS fv fd fk)) :=
  h.imp fun T σ H ⟨env, M, st, eo, so, p⟩ => ⟨env, M, st, eo, so, Post.imp (PostS.bind eo p) fun v H1 ⟨M1, st1, vd, g1, so1, rv, p1⟩ =>
    ⟨env, M1, st1, eo.grow g1, so1, Post.imp (PostS.bind (eo.grow g1) p1) fun x H2 ⟨M2, st2, dd, g2, so2, rd, p2⟩ =>
      ⟨env, M2, st2, (eo.grow g1).grow g2, so2, Post.imp (PostS.bind (rep := Rep X.K) ((eo.grow g1).grow g2) p2) fun y H3 ⟨M3, st3, kd, g3, so3, rk, p3⟩ => by
        split at p3
        · rename_i st4 e
          unfold putD at e
          split at e
          · rename_i n
            split at e
            · rename_i kvs k' v' e1 e2 e3
              split at e
              · rename_i hl
                cases e
                have rd := rd.grow g3
                have rv := rv.grow (g2.trans g3)
                unfold Rep at rd
                obtain ⟨a, rfl, am⟩ := rd
                have hd : H3 a = some (.dK kvs) := so3.at_ _ a _ am e1
                refine ⟨a, _, rfl, .inl ⟨kvs, k', hd, keyOf_rep e2 rk, by rw [sizeLine_eq]; exact hl, rfl⟩, ?_⟩
                rw [scal_rep e3 rv]
                have g4 : Grow M3 H3 M3 (upd H3 a (.dK (putK kvs k' v'))) := .put so3 am
                exact p3 M3 _ σ g4 (so3.put am (show _ from upd_same)) (((eo.grow g1).grow g2).grow (g3.trans g4))
              · cases e
            · cases e
          · cases e
        · exact p3.elim⟩⟩⟩

/-! k in d, k not in d -/
def inKD : F2 := fun k d st => match d with
  | .mut n => (match st[n]?, keyOf k with
    | some (.dk kvs), some k => .ok (.bl (valV kvs k).isSome) st
    | _, _ => .fail)
  | _ => .fail
theorem rd_inK : ∀ σ H Q, rdE X.K W (binE inKD fk fd) σ H Q → tDIn (rdE X.K W fk) (rdE X.K W fd) σ H Q :=
  fun σ H Q ⟨env, M, st, eo, so, p⟩ => ⟨env, M, st, eo, so, Post.imp (Post.bind p) fun x H1 ⟨M1, st1, k, g1, so1, rk, p1⟩ =>
    ⟨env, M1, st1, eo.grow g1, so1, Post.imp (Post.bind (rep := Rep X.K) p1) fun y H2 ⟨M2, st2, d, g2, so2, rd, p2⟩ => by
      unfold inKD at p2
      split at p2
      · split at p2
        · rename_i n _ _ _ kvs k' e1 e2
          unfold Rep at rd
          obtain ⟨a, rfl, am⟩ := rd
          have hd : H2 a = some (.dK kvs) := so2.at_ _ a _ am e1
          exact ⟨a, _, rfl, .inl ⟨kvs, k', .inl hd, keyOf_rep e2 (rk.grow g2), rfl⟩, p2 M2 H2 _ .refl so2 (rep_bl _ _ _)⟩
        · exact p2.elim
      · exact p2.elim⟩⟩

theorem g_inK {e : Expr} (h : PE X e (tDIn (rdE X.K W fk) (rdE X.K W fd))) : PE X e (rdE X.K W (binE inKD fk fd)) := h.imp rd_inK
theorem g_tinK {e : Expr} (h : PT X e (tB (tDIn (rdE X.K W fk) (rdE X.K W fd)))) : PT X e (rdB X.K W (tstE (binE inKD fk fd))) :=
  h.imp fun σ H Q q => rd_inK _ _ _ (rd_tst _ _ _ q)
/-! d == {} -/
def rEqD0 : R2 := fun x y H Q => ∃ a b ks, x = .ref a ∧ y = .ref b ∧ H a = some (.dK ks) ∧ H b = some (.dK []) ∧ Q (.bl ks.isEmpty) H
theorem op_eq_d0 {X : Cx} (hu : X.A.units < cLine) : OpR X (compareOp .Eq) rEqD0 := by
  intro pins s σ H x y v u Q I rx ry h
  obtain ⟨a, b, ks, rfl, rfl, ea, eb, q⟩ := h
  obtain rfl : v = Value.ref a := rx
  obtain rfl : u = Value.ref b := ry
  obtain ⟨_, ya, va, ra, da⟩ := (show ObjOk X.prog X.w H s.heap a (.dK ks) from I.hok a _ ea)
  obtain ⟨_, yb, vb, rb, db⟩ := (show ObjOk X.prog X.w H s.heap b (.dK []) from I.hok b _ eb)
  cases rb
  have hl : va.length = ks.length := ra.length.symm
  refine PySem.W.keq_eq (knd := mixKind X.prog X.w) (r := true) ya yb da db hu (fun e => ?_) (fin_bl I q ?_)
  · have e : va = [] := List.eq_nil_of_length_eq_zero e
    subst e
    exact .nil
  · cases ks with
    | nil => cases ra; rfl
    | cons p r => cases ra; rfl
def eq0D : F1 := fun d st => match d with
  | .mut n => (match st[n]? with
    | some (.dk kvs) => .ok (.bl kvs.isEmpty) st
    | _ => .fail)
  | _ => .fail
theorem rd_eq0 : ∀ σ H Q, rdE X.K W (unE eq0D fa) σ H Q → tOp rEqD0 (rdE X.K W fa) tDNewK σ H Q :=
  fun σ H Q ⟨env, M, st, eo, so, p⟩ => ⟨env, M, st, eo, so, Post.imp (Post.bind p) fun x H1 ⟨M1, st1, d, g1, so1, rd, p1⟩ => fun b hb => by
    unfold eq0D at p1
    split at p1
    · split at p1
      · rename_i n _ kvs e1
        unfold Rep at rd
        obtain ⟨a, rfl, am⟩ := rd
        have hd : H1 a = some (.dK kvs) := so1.at_ _ a _ am e1
        exact ⟨a, b, kvs, rfl, rfl, by rw [upd_ne (ne_of_none hd hb)]; exact hd, upd_same, p1 M1 _ _ (.laid so1 hb) (so1.laid hb) (rep_bl _ _ _)⟩
      · exact p1.elim
    · exact p1.elim⟩
theorem g_eq0 {a : Expr} {p2 : Pos} (hu : X.A.units < cLine) (ha : PE X a (rdE X.K W fa)) : PE X (.Compare a [.Eq] [.Dict [] [] p2] pos) (rdE X.K W (unE eq0D fa)) :=
  (pe_cmpR (op_eq_d0 hu) ha pe_dnewK rfl).imp rd_eq0
theorem g_teq0 {a : Expr} {p2 : Pos} (hu : X.A.units < cLine) (ha : PE X a (rdE X.K W fa)) : PT X (.Compare a [.Eq] [.Dict [] [] p2] pos) (rdB X.K W (tstE (unE eq0D fa))) :=
  (pt_cmpR (op_eq_d0 hu) ha pe_dnewK rfl).imp fun σ H Q h => rd_eq0 _ _ _ (rd_tst _ _ _ h)
end
end G

namespace G
open PySem PySem.Spec PyProof.Rows L2
theorem room1 {k : Nat} {A : Around} (r : RoomG k A) : A.units + 1 < cLine := by have := r.un; omega
/-! ### a loop over the keys of a dict: the dict stands still meanwhile -/
def keyNxt (n : Nat) : Nat → Sto → Option (Option D) := fun i st => match st[n]? with
  | some (.fk kvs) => some ((kvs[i]?).map fun p => kD p.1)
  | _ => none
def iterKE (fa : EvE) : EvI := fun env st => (fa env st).bind fun d st1 => match d with
  | .mut n => (match st1[n]? with
    | some (.fk kvs) => .ok (.gen (keyNxt n) kvs.length) st1
    | _ => .fail)
  | _ => .fail
def unlockS (n : Nat) : S → S
  | .nx env st => (match st[n]? with
    | some (.fk kvs) => .nx env (st.set n (.dk kvs))
    | _ => .fail)
  | .ret d st => (match st[n]? with
    | some (.fk kvs) => .ret d (st.set n (.dk kvs))
    | _ => .fail)
  | _ => .fail
def forDS (fa : EvE) (g : TgF) (body : SvS) : SvS := fun env st => match fa env st with
  | .ok (.mut n) _ => (match st[n]? with
    | some (.dk kvs) => unlockS n (forS (iterKE fa) g body env (st.set n (.fk kvs)))
    | _ => .fail)
  | _ => .fail
section
variable {X : Cx} {W : WX} {fa : EvE} {g : TgF} {body : SvS} {K : PySem.W.Frag}
theorem itk_rep {M : Mem} {H : Hp} {a : Addr} {n k : Nat} {od : Obj} {kvs : List (L2.Key × V)} (m : M.m[n]? = some a) (hf : M.f a = some (od, .dK kvs)) : ItRep K M H (.gen (keyNxt n) k) (Itk a od kvs) := fun i M' H' st' g so => by
  have m' := g.pre n a m
  have f' : M'.f a = some (od, .dK kvs) := by rw [g.ff]; exact hf
  unfold keyNxt
  cases e : st'[n]? with
  | none => exact ⟨(by simp), fun d h => by simp at h⟩
  | some mo =>
    cases mo with
    | dk _ => exact ⟨(by simp), fun d h => by simp at h⟩
    | dt _ => exact ⟨(by simp), fun d h => by simp at h⟩
    | lst _ => exact ⟨(by simp), fun d h => by simp at h⟩
    | fk ks =>
      obtain ⟨o, h1, h2⟩ := so.at_ n a _ m' e
      rw [f'] at h1
      injection h1 with h1
      injection h1 with h1 h3
      injection h3 with h3
      subst h1 h3
      refine ⟨fun h => ⟨h2, ?_⟩, fun d h => ?_⟩
      · have h : kvs[i]? = none := by simpa using h
        exact List.getElem?_eq_none_iff.mp h
      · obtain ⟨k1, v1, e2, rfl⟩ : ∃ k1 v1, kvs[i]? = some (k1, v1) ∧ kD k1 = d := by
          have h : (kvs[i]?).map (fun p => kD p.1) = some d := by simpa using h
          obtain ⟨⟨k1, v1⟩, e2, e3⟩ := Option.map_eq_some_iff.mp h
          exact ⟨k1, v1, e2, e3⟩
        refine ⟨⟨h2, (List.getElem?_eq_some_iff.mp e2).1⟩, fun x H'' ⟨eH, k2, v2, e4, ex⟩ => ?_⟩
        subst eH ex
        rw [e2] at e4
        cases e4
        exact ⟨.refl, so, kD_rep k1⟩
theorem rd_iterK : ∀ σ H R, rdI K W (iterKE fa) σ H R → iKeys (rdE K W fa) σ H R := fun σ H R ⟨env, M, st, eo, so, p⟩ =>
  ⟨env, M, st, eo, so, Post.imp (Post.bind p) fun x H1 ⟨M1, st1, d, g1, so1, rd, p1⟩ => by
    split at p1
    · rename_i n
      split at p1
      · rename_i kvs e
        unfold Rep at rd
        obtain ⟨a, rfl, am⟩ := rd
        obtain ⟨o, h1, h2⟩ := so1.at_ _ a _ am e
        exact ⟨a, o, rfl, .inl ⟨kvs, h2, p1 M1 H1 _ .refl so1 (itk_rep am h1)⟩⟩
      · exact p1.elim
    · exact p1.elim⟩
/-- behind the loop -/
theorem unlock_post {M : Mem} {H : Hp} {T T' : Ends} {n : Nat} {d : Addr} {od : Obj} {kvs : List (L2.Key × V)} {s : S} (dm : M.m[n]? = some d) (nd : M.m.Nodup) (np : d ∉ M.p)
    (hT : ∀ σ' H', H' d = some (.frz od (.dK kvs)) → T.nx σ' (upd H' d (.dK kvs)) → T'.nx σ' H') (hR : ∀ v H', H' d = some (.frz od (.dK kvs)) → T.rt v (upd H' d (.dK kvs)) → T'.rt v H')
    (p : PostS K M H T W (unlockS n s)) : PostS K ⟨M.m, M.p, fun a => if a = d then some (od, .dK kvs) else M.f a⟩ (upd H d (.frz od (.dK kvs))) T' W s := by
  have main : ∀ (M' : Mem) (H' : Hp) (st : Sto) (ks : List (L2.Key × V)), st[n]? = some (.fk ks) → Grow ⟨M.m, M.p, fun a => if a = d then some (od, .dK kvs) else M.f a⟩ (upd H d (.frz od (.dK kvs))) M' H' → StOk K M' H' st →
      ks = kvs ∧ H' d = some (.frz od (.dK kvs)) ∧ Grow M H ⟨M'.m, M'.p, M.f⟩ (upd H' d (.dK kvs)) ∧ StOk K ⟨M'.m, M'.p, M.f⟩ (upd H' d (.dK kvs)) (st.set n (.dk ks)) ∧ Grow M' H' M' (upd H' d (.dK kvs)) := by
    intro M' H' st ks e g so
    have dm' : M'.m[n]? = some d := g.pre n d dm
    obtain ⟨o, h1, h2⟩ := so.at_ n d _ dm' e
    have hf : M'.f = fun a => if a = d then some (od, .dK kvs) else M.f a := g.ff
    rw [hf] at h1
    simp only [if_true] at h1
    injection h1 with h1
    injection h1 with h1 h3
    injection h3 with h3
    subst h1 h3
    have gp : Grow M' H' M' (upd H' d (.dK kvs)) := .put so dm'
    have dn : ∀ a, M.no a → a ≠ d := fun a h z => h.1 (by rw [z]; exact List.mem_of_getElem? dm)
    refine ⟨rfl, h2, ⟨g.pre, fun a o' ha hn => ?_, g.pp, fun a ha => ?_, rfl⟩, ?_, gp⟩
    · have ne := dn a hn
      have q := g.keep a o' (by rw [upd_ne ne]; exact ha) hn
      exact ⟨by rw [upd_ne ne]; exact q.1, q.2⟩
    · have ne : a ≠ d := fun z => np (by rw [← z]; exact ha)
      have q := g.prot a ha
      rw [upd_ne ne] at q
      rw [upd_ne ne]
      exact q
    · have so2 : StOk K M' (upd H' d (.dK kvs)) (st.set n (.dk kvs)) := so.put dm' (show _ from upd_same)
      refine so2.ff fun k a kk e1 e2 => ?_
      by_cases ha : a = d
      · subst ha
        have := so.uniq dm' e1
        subst this
        have hn : n < st.length := (List.getElem?_eq_some_iff.mp e).1
        rw [List.getElem?_set_self hn] at e2
        cases e2
      · rw [hf]
        simp [ha]
  cases s with
  | nx env st =>
    have p : PostS K M H T W (match st[n]? with
      | some (.fk kvs) => .nx env (st.set n (.dk kvs))
      | _ => .fail) := p
    intro M' H' σ' gr so eo
    split at p
    · rename_i ks e
      obtain ⟨ek, h1, h2, h3, h4⟩ := main M' H' st ks e gr so
      subst ek
      exact hT σ' H' h1 (p _ _ σ' h2 h3 (eo.grow h4).ff)
    · exact p.elim
  | ret r st =>
    have p : PostS K M H T W (match st[n]? with
      | some (.fk kvs) => .ret r (st.set n (.dk kvs))
      | _ => .fail) := p
    intro M' H' v gr so rr
    split at p
    · rename_i ks e
      obtain ⟨ek, h1, h2, h3, h4⟩ := main M' H' st ks e gr so
      subst ek
      exact hR v H' h1 (p _ _ v h2 h3 (rr.grow h4).ff)
    · exact p.elim
  | brk env st => exact p.elim
  | cont env st => exact p.elim
  | exc e env st => exact p.elim
  | fail => exact p.elim
theorem rd_forD : ∀ T σ H, rdS K W (forDS fa g body) T σ H → tLock (tFor (iKeys (rdE K W fa)) (rdG K W g) (rdS K W body)) T σ H := fun T σ H ⟨env, M, st, eo, so, p⟩ => by
  unfold forDS at p
  split at p
  · rename_i n _ _
    split at p
    · rename_i kvs e
      obtain ⟨d, dm⟩ := so.mem e
      have hd : H d = some (.dK kvs) := so.at_ n d _ dm e
      refine ⟨d, .dK kvs, hd, True.intro, fun od => ?_⟩
      have gp : Grow M H M (upd H d (.frz od (.dK kvs))) := .put so dm
      have eo1 : EnvOk K ⟨M.m, M.p, fun a => if a = d then some (od, .dK kvs) else M.f a⟩ (upd H d (.frz od (.dK kvs))) env σ := (eo.grow gp).ff
      have so1 : StOk K ⟨M.m, M.p, fun a => if a = d then some (od, .dK kvs) else M.f a⟩ (upd H d (.frz od (.dK kvs))) (st.set n (.fk kvs)) := by
        refine ⟨by simp [so.len], so.nd, fun a ha => ?_, fun k a mo e1 e2 => ?_⟩
        · obtain ⟨h1, u, h2⟩ := so.pd a ha
          have ne : a ≠ d := fun z => h1 (by rw [z]; exact List.mem_of_getElem? dm)
          exact ⟨h1, u, by rw [upd_ne ne]; exact h2⟩
        · by_cases hk : n = k
          · subst hk
            have hn : n < st.length := (List.getElem?_eq_some_iff.mp e).1
            rw [List.getElem?_set_self hn] at e2
            cases e2
            have e1 : M.m[n]? = some a := e1
            rw [dm] at e1
            cases e1
            exact ⟨od, by simp, upd_same⟩
          · rw [List.getElem?_set_ne hk] at e2
            have q := so.at_ k a mo e1 e2
            have ne : a ≠ d := fun z => hk (so.uniq dm (by rw [← z]; exact e1))
            have q2 : MoOk K M (upd H d (.frz od (.dK kvs))) a mo := q.upd ne gp
            cases mo with
            | lst xs => obtain ⟨vs, h1, r⟩ := q2; exact ⟨vs, h1, r.ff⟩
            | dk kvs => exact q2
            | dt kvs => exact q2
            | fk kk =>
              obtain ⟨o, h1, h2⟩ := q2
              exact ⟨o, by simp only [ne, if_false]; exact h1, h2⟩
      have q := rd_for (it := iterKE fa) ⟨fun σ' H' => H' d = some (.frz od (.dK kvs)) ∧ T.nx σ' (upd H' d (.dK kvs)), fun v H' => H' d = some (.frz od (.dK kvs)) ∧ T.rt v (upd H' d (.dK kvs)), fun σ' H' => H' d = some (.frz od (.dK kvs)) ∧ T.bk σ' (upd H' d (.dK kvs)), fun σ' H' => H' d = some (.frz od (.dK kvs)) ∧ T.ct σ' (upd H' d (.dK kvs))⟩ σ (upd H d (.frz od (.dK kvs)))
        ⟨env, _, _, eo1, so1, unlock_post (W := W) dm so.nd (fun z => (so.pd d z).1 (List.mem_of_getElem? dm)) (fun _ _ h1 h2 => ⟨h1, h2⟩) (fun _ _ h1 h2 => ⟨h1, h2⟩) p⟩
      exact rd_iterK _ _ _ q
    · exact p.elim
  · exact p.elim
theorem s_forD {s : Stmt} (h : PS X s (tFor (iKeys (rdE X.K W fa)) (rdG X.K W g) (rdS X.K W body))) : PS X s (rdS X.K W (forDS fa g body)) := (ps_lock h).imp rd_forD
end

/-! ### dicts whose keys are written as tuples -/
section
variable {X : Cx} {W : WX} {pos : Pos} {fv fd fa : EvE} {fs : EvA}
def tKeyD (d : D) (ks : List D) (v : D) (st : Sto) : Option Sto := match d with
  | .mut n => (match st[n]?, keysOf ks, scal v with
    | some (.dt kvs), some k, some v => if kvs.length < 16777216 then some (st.set n (.dt (putK kvs k v))) else none
    | _, _, _ => none)
  | _ => none
/-- d[x, y] = v -/
def putTS (fv fd : EvE) (fs : EvA) : SvS := fun env st => bindS (fv env st) env fun v st1 => bindS (fd env st1) env fun d st2 => bindS (fs env st2) env fun ks st3 => match tKeyD d ks v st3 with
  | some st4 => if ks.length ≤ 16777216 then .nx env st4 else .fail
  | none => .fail
theorem s_putT {s : Stmt} (h : PS X s (sDPut (rdE X.K W fd) (tTup (rdA X.K W fs)) (rdE X.K W fv))) : PS X s (rdS X.K W (putTS fv fd fs)) :=
  h.imp fun T σ H ⟨env, M, st, eo, so, p⟩ => ⟨env, M, st, eo, so, Post.imp (PostS.bind eo p) fun v H1 ⟨M1, st1, vd, g1, so1, rv, p1⟩ =>
    ⟨env, M1, st1, eo.grow g1, so1, Post.imp (PostS.bind (eo.grow g1) p1) fun x H2 ⟨M2, st2, dd, g2, so2, rd, p2⟩ =>
      ⟨env, M2, st2, (eo.grow g1).grow g2, so2, Post.imp (PostS.bind (rep := RepL X.K) ((eo.grow g1).grow g2) p2) fun ys H3 ⟨M3, st3, ks, g3, so3, rk, p3⟩ => by
        split at p3
        · rename_i st4 e
          split at p3
          · rename_i hz
            refine ⟨by rw [← rk.length]; exact size_le hz, fun b hb => ?_⟩
            unfold tKeyD at e
            split at e
            · rename_i n
              split at e
              · rename_i kvs k' v' e1 e2 e3
                split at e
                · rename_i hl
                  cases e
                  have rd := rd.grow g3
                  have rv := rv.grow (g2.trans g3)
                  unfold Rep at rd
                  obtain ⟨a, rfl, am⟩ := rd
                  have hd : H3 a = some (.dT kvs) := so3.at_ _ a _ am e1
                  have hd' : upd H3 b (.tup ys) a = some (.dT kvs) := by rw [upd_ne (ne_of_none hd hb)]; exact hd
                  have g4 : Grow M3 H3 M3 (upd H3 b (.tup ys)) := .laid so3 hb
                  have so4 : StOk X.K M3 (upd H3 b (.tup ys)) st3 := so3.laid hb
                  refine ⟨a, _, rfl, .inr ⟨kvs, k', b, hd', rfl, by rw [upd_same, keysOf_rep e2 rk], by rw [sizeLine_eq]; exact hl, rfl⟩, ?_⟩
                  rw [scal_rep e3 rv]
                  have g5 : Grow M3 (upd H3 b (.tup ys)) M3 (upd (upd H3 b (.tup ys)) a (.dT (putK kvs k' v'))) := .put so4 am
                  exact p3 M3 _ σ (g4.trans g5) (so4.put am (show _ from upd_same)) (((eo.grow g1).grow g2).grow (g3.trans (g4.trans g5)))
                · cases e
              · cases e
            · cases e
          · exact p3.elim
        · exact p3.elim⟩⟩⟩
/-- d[x, y] -/
def getTE (fd : EvE) (fs : EvA) : EvE := fun env st => (fd env st).bind fun d st1 => (fs env st1).bind fun ks st2 => match d with
  | .mut n => (match st2[n]?, keysOf ks with
    | some (.dt kvs), some k => (match valV kvs k with
      | some v => if ks.length ≤ 16777216 then .ok (dOf v) st2 else .fail
      | none => .fail)
    | _, _ => .fail)
  | _ => .fail
theorem g_getT {e : Expr} (h : PE X e (tDGet (rdE X.K W fd) (tTup (rdA X.K W fs)))) : PE X e (rdE X.K W (getTE fd fs)) :=
  h.imp fun σ H Q ⟨env, M, st, eo, so, p⟩ => ⟨env, M, st, eo, so, Post.imp (Post.bind p) fun x H1 ⟨M1, st1, d, g1, so1, rd, p1⟩ =>
    ⟨env, M1, st1, eo.grow g1, so1, Post.imp (Post.bind (rep := RepL X.K) p1) fun ys H2 ⟨M2, st2, ks, g2, so2, rk, p2⟩ => by
      split at p2
      · split at p2
        · rename_i n _ _ kvs k' e1 e2
          split at p2
          · rename_i v e3
            split at p2
            · rename_i hz
              have rd := rd.grow g2
              unfold Rep at rd
              obtain ⟨a, rfl, am⟩ := rd
              have hd : H2 a = some (.dT kvs) := so2.at_ _ a _ am e1
              refine ⟨by rw [← rk.length]; exact size_le hz, fun b hb => ⟨a, v, rfl, .inr ⟨kvs, k', b, .inl (by rw [upd_ne (ne_of_none hd hb)]; exact hd), rfl, by rw [upd_same, keysOf_rep e2 rk], e3.symm⟩, ?_⟩⟩
              exact p2 M2 _ _ (.laid so2 hb) (so2.laid hb) (dOf_rep v)
            · exact p2.elim
          · exact p2.elim
        · exact p2.elim
      · exact p2.elim⟩⟩
end
end G

namespace G
open PySem PySem.Spec PyProof.Rows L2
/-! ### sorted(a list of pairs of ints) -/
def insW (p : P2) : List P2 → List P2
  | [] => [p]
  | q :: r => if ltP2 q p then q :: insW p r else p :: q :: r
def srtP (ps : List P2) : List P2 := ps.foldr insW []
abbrev leP2 (a b : P2) : Prop := ¬ ltP2 b a
theorem perm_insW {p : P2} : ∀ {l : List P2}, (insW p l).Perm (p :: l)
  | [] => .refl _
  | q :: r => by
    unfold insW
    split
    · exact ((perm_insW (l := r)).cons q).trans (.swap p q r)
    · exact .refl _
theorem sorted_insW {p : P2} : ∀ {l : List P2}, l.Pairwise leP2 → (insW p l).Pairwise leP2
  | [], _ => by simp [insW]
  | q :: r, h => by
    obtain ⟨h1, h2⟩ := List.pairwise_cons.mp h
    unfold insW
    split
    · rename_i lt
      refine List.pairwise_cons.mpr ⟨fun x hx => ?_, sorted_insW h2⟩
      rcases List.mem_cons.mp (perm_insW.mem_iff.mp hx) with rfl | hx
      · intro z; exact ltP2_irr _ (ltP2_tr z lt)
      · exact h1 x hx
    · rename_i nlt
      refine List.pairwise_cons.mpr ⟨fun x hx => ?_, h⟩
      rcases List.mem_cons.mp hx with rfl | hx
      · exact nlt
      · intro z
        rcases ltP2_tri q p with g | g | g
        · exact nlt g
        · subst g; exact h1 x hx z
        · exact h1 x hx (ltP2_tr z g)
theorem perm_srtP : ∀ {ps : List P2}, (srtP ps).Perm ps
  | [] => .refl _
  | p :: ps => (perm_insW (l := srtP ps)).trans ((perm_srtP (ps := ps)).cons p)
theorem sorted_srtP : ∀ {ps : List P2}, (srtP ps).Pairwise leP2
  | [] => .nil
  | p :: ps => sorted_insW (sorted_srtP (ps := ps))
theorem leP2_anti {a b : P2} (h : leP2 a b) (h' : leP2 b a) : a = b := by
  rcases ltP2_tri a b with g | g | g
  · exact absurd g h'
  · exact g
  · exact absurd g h
theorem sortedW_unique : ∀ {a b : List P2}, a.Pairwise leP2 → b.Pairwise leP2 → a.Perm b → a = b
  | [], b, _, _, h => (List.Perm.eq_nil h.symm).symm
  | x :: a, [], _, _, h => absurd h.length_eq (by simp)
  | x :: a, y :: b, ha, hb, h => by
    obtain ⟨a1, a2⟩ := List.pairwise_cons.mp ha
    obtain ⟨b1, b2⟩ := List.pairwise_cons.mp hb
    have e : x = y := by
      rcases List.mem_cons.mp (h.mem_iff.mp List.mem_cons_self) with g | g
      · exact g
      · rcases List.mem_cons.mp (h.mem_iff.mpr List.mem_cons_self) with g2 | g2
        · exact g2.symm
        · exact leP2_anti (a1 y g2) (b1 x g)
    subst e
    rw [sortedW_unique a2 b2 h.cons_inv]
/-- of unlike ones it is sorted(set(..)) -/
theorem srtP_ssP {ps : List P2} (h : ps.Nodup) : srtP ps = ssP ps := by
  refine sorted_unique ?_ sorted_ssP fun x => ?_
  · have hn : (srtP ps).Nodup := (perm_srtP.nodup_iff).mpr h
    have := List.Pairwise.and (sorted_srtP (ps := ps)) hn
    refine this.imp fun {a b} q => ?_
    rcases ltP2_tri a b with g | g | g
    · exact g
    · exact absurd g q.2
    · exact absurd g q.1
  · rw [mem_ssP]; exact perm_srtP.mem_iff
/-- the pair at u, read off the heap -/
def pairAt (h : Heap) (u : Value) : P2 := match u with
  | .ref t => (match h.get? t with
    | some o => (match o.data with
      | .seq its _ => (match its.toList with
        | [.int a _, .int b _] => (a, b)
        | _ => (0, 0))
      | _ => (0, 0))
    | none => (0, 0))
  | _ => (0, 0)
def rSortedPQ (K : PySem.W.Frag) : List V → Hp → VK → Prop := fun vs H Q => ∃ (a : Addr) (xs : List V) (ps : List P2) (F : V → P2 → Prop), vs = [V.ref a] ∧ SqL K H a xs ∧ Paired F xs ps ∧
  (∀ x p, F x p → ∃ t, x = V.ref t ∧ SqT K H t [.int p.1, .int p.2]) ∧ ∀ ys b, Paired F ys (srtP ps) → H b = none → Q (.ref b) (upd H b (.lst ys))
theorem paired_map {F : V → P2 → Prop} {k : Value → P2} : ∀ {l : List Value}, (∀ u ∈ l, F (backV u) (k u)) → Paired F (l.map backV) (l.map k)
  | [], _ => .nil
  | u :: l, h => .cons (h u List.mem_cons_self) (paired_map fun v hv => h v (List.mem_cons_of_mem _ hv))
theorem paired_len {α β : Type} {F : α → β → Prop} : ∀ {l : List α} {m : List β}, Paired F l m → l.length = m.length
  | _, _, .nil => rfl
  | _, _, .cons _ t => congrArg (· + 1) (paired_len t)
section
variable {X : Cx}
theorem cr_sortedPQ : CallR X (.builtin "sorted") (rSortedPQ X.K) := by
  intro pins s σ H vs us Q I r h
  obtain ⟨a, xs, ps, F, rfl, hs, hx, hF, q⟩ := h
  obtain ⟨its, rv, hl, hz⟩ := I.list hs
  obtain ⟨u, rfl, ru⟩ := vals1 r
  obtain rfl : u = Value.ref a := ru
  have hx' : ∀ x ∈ xs, ∃ p, F x p := by
    clear rv hl hz q
    clear hs
    induction hx with
    | nil => intro x hx; cases hx
    | @cons x p xs ps h t ih =>
      intro y hy
      rcases List.mem_cons.mp hy with rfl | hy
      · exact ⟨p, h⟩
      · exact ih y hy
  obtain ⟨e1, e2⟩ := refs_back rv fun x m => by
    obtain ⟨p, hp⟩ := hx' x m
    obtain ⟨t, e, _⟩ := hF x p hp
    exact ⟨t, e⟩
  have at_ : ∀ t p, F (.ref t) p → ∃ o t1 t2 n, s.heap.get? t = some o ∧ o.cls = .type "tuple" ∧ o.data = .seq #[.int p.1 t1, .int p.2 t2] n ∧ pairAt s.heap (.ref t) = p := by
    intro t p hp
    obtain ⟨t', e, hq⟩ := hF _ p hp
    cases e
    obtain ⟨its2, r2, ⟨o, ho, hc, n, hd⟩, _⟩ := I.tuple hq
    obtain ⟨u1, u2, rfl, ri, rj⟩ := vals2 r2
    obtain ⟨t1, rfl⟩ := ri
    obtain ⟨t2, rfl⟩ := rj
    have hd : o.data = .seq #[.int p.1 t1, .int p.2 t2] n := hd
    refine ⟨o, t1, t2, n, ho, hc, hd, ?_⟩
    unfold pairAt
    simp only [ho, hd]
  have k_is : ∀ {xs : List V} {ps : List P2} {its : List Value}, Paired F xs ps → xs = its.map backV → (∀ u ∈ its, ∃ a, u = Value.ref a) → its.map (pairAt s.heap) = ps ∧ ∀ u ∈ its, F (backV u) (pairAt s.heap u) := by
    intro xs ps its hp
    induction hp generalizing its with
    | nil =>
      intro e _
      cases its with
      | nil => exact ⟨rfl, fun u hu => absurd hu List.not_mem_nil⟩
      | cons u l => cases e
    | @cons x p xs ps h t ih =>
      intro e hr
      cases its with
      | nil => cases e
      | cons u l =>
        rw [List.map_cons] at e
        injection e with e3 e4
        obtain ⟨i1, i2⟩ := ih e4 fun v hv => hr v (List.mem_cons_of_mem _ hv)
        obtain ⟨c, rfl⟩ := hr u List.mem_cons_self
        have hb : backV (Value.ref c) = V.ref c := rfl
        rw [hb] at e3
        subst e3
        obtain ⟨_, _, _, _, _, _, _, hk⟩ := at_ c p h
        refine ⟨by rw [List.map_cons, hk, i1], fun v hv => ?_⟩
        rcases List.mem_cons.mp hv with rfl | hv
        · rw [hk, hb]; exact h
        · exact i2 v hv
  obtain ⟨m1, m2⟩ := k_is hx e1 e2
  refine SrtO.sorted_pairsO (k := pairAt s.heap) hl.isList (by rw [← rv.length]; exact hz) (fun v hv => ?_) fun h' d out h1 h2 kp hd hn => ?_
  · obtain ⟨t, rfl⟩ := e2 v hv
    have hf := m2 _ hv
    obtain ⟨o, t1, t2, n, ho, hc, hd, hk⟩ := at_ t _ hf
    exact ⟨t, o, t1, t2, n, rfl, ho, hc, hd⟩
  · have h3 : ∀ u ∈ out, ∃ a, u = Value.ref a := fun u hu => e2 u (h2.perm.mem_iff.mp hu)
    obtain ⟨n, hn⟩ := hn
    have ho : out.map (pairAt s.heap) = srtP ps := by
      refine sortedW_unique ?_ sorted_srtP ((h2.perm.map _).trans (by rw [m1]; exact perm_srtP.symm))
      refine List.pairwise_map.mpr (List.Pairwise.imp (fun {x y} h => ?_) h1)
      exact SrtO.lexB_no.mp h
    have hb : Paired F (out.map backV) (srtP ps) := by
      rw [← ho]
      exact paired_map fun u hu => m2 u (h2.perm.mem_iff.mp hu)
    have hlen : out.length = xs.length := by rw [h2.perm.length_eq, ← rv.length]
    refine ⟨.ref d, upd H d (.lst (out.map backV)), I.laid (t' := s.toks) kp hd ⟨?_, out, n, vals_back h3, hn⟩, rfl, q _ d hb (I.hok.fresh hd)⟩
    rw [List.length_map, hlen]
    exact hz
end
def srtF : FA := fun as st => match as with
  | [.tup _] => .fail
  | [a] => (match (seqOf a st).bind pairsOf with
    | some ps => .ok (.lst ((srtP ps).map pairD)) st
    | none => .fail)
  | _ => .fail
theorem pair_rep {K : PySem.W.Frag} {M : Mem} {H : Hp} {p : P2} {x : V} (r : Rep K M H (pairD p) x) : ∃ t, x = .ref t ∧ FzT K M H t [.int p.1, .int p.2] := by
  unfold pairD Rep at r
  obtain ⟨a, vs, rfl, f, q⟩ := r
  obtain ⟨x, y, rfl, r1, r2⟩ := RepL.two q
  rw [rep_int_iff] at r1 r2
  subst r1 r2
  exact ⟨a, rfl, f⟩
theorem rep_pair {K : PySem.W.Frag} {M : Mem} {H : Hp} {p : P2} {t : Addr} (f : FzT K M H t [.int p.1, .int p.2]) : Rep K M H (pairD p) (.ref t) := by
  unfold pairD Rep
  exact ⟨t, _, rfl, f, .cons (rep_int _ _ _) (.cons (rep_int _ _ _) .nil)⟩
theorem paired_rep {K : PySem.W.Frag} {M : Mem} {H : Hp} : ∀ {ps : List P2} {xs : List V}, RepL K M H (ps.map pairD) xs → Paired (fun x p => Rep K M H (pairD p) x) xs ps
  | [], xs, r => by unfold RepL at r; simp at r; subst r; exact .nil
  | p :: ps, xs, r => by
    rw [List.map_cons] at r
    unfold RepL at r
    obtain ⟨v, rr, rfl, h1, h2⟩ := r
    exact .cons h1 (paired_rep h2)
theorem rep_paired {K : PySem.W.Frag} {M : Mem} {H : Hp} : ∀ {ps : List P2} {xs : List V}, Paired (fun x p => Rep K M H (pairD p) x) xs ps → RepL K M H (ps.map pairD) xs
  | _, _, .nil => .nil
  | _, _, .cons h t => .cons h (rep_paired t)
theorem v_srt {K : PySem.W.Frag} : CallV K (rSortedPQ K) srtF := by
  intro as xs M H st Q E ra so p
  unfold srtF at p
  split at p
  · exact p.elim
  · rename_i a hnt
    split at p
    · rename_i ps e
      obtain ⟨x, rfl, rx⟩ := ra.one
      obtain ⟨ds, e1, e2⟩ := Option.bind_eq_some_iff.mp e
      have ed := pairsOf_some e2
      subst ed
      obtain ⟨t, vs, rfl, hs, rl⟩ : ∃ t vs, x = .ref t ∧ SqL K H t vs ∧ RepL K M H (ps.map pairD) vs := by
        cases a with
        | «mut» n =>
          unfold Rep at rx
          obtain ⟨t, rfl, m⟩ := rx
          simp only [seqOf] at e1
          split at e1
          · rename_i ys hy
            cases e1
            obtain ⟨vs, hv, rl⟩ := so.at_ n t _ m hy
            exact ⟨t, vs, rfl, .of hv, rl⟩
          · cases e1
        | lst ys => cases e1; unfold Rep at rx; obtain ⟨t, vs, e, f, q⟩ := rx; exact ⟨t, vs, e, f.sq, q⟩
        | slo ys => cases e1; unfold Rep at rx; obtain ⟨t, vs, e, f, q⟩ := rx; exact ⟨t, vs, e, f.sq, q⟩
        | tup ys => exact absurd rfl (hnt ys)
        | _ => cases e1
      refine ⟨t, vs, ps, fun x p => Rep K M H (pairD p) x, rfl, hs, paired_rep rl, fun x p r => ?_, fun ys b hp hb => ?_⟩
      · obtain ⟨t, e, f⟩ := pair_rep r
        exact ⟨t, e, f.sq⟩
      · exact p M _ _ (.laid so hb) (so.laid hb) (rep_lst so (rep_paired hp) hb)
    · exact p.elim
  · exact p.elim
@[simp] theorem srtF_pairs (ps : List P2) (st : Sto) : srtF [.lst (ps.map pairD)] st = .ok (.lst ((srtP ps).map pairD)) st := by
  show (match (some (ps.map pairD)).bind pairsOf with | some ps => _ | none => _) = _
  rw [Option.bind_some, pairsOf_map]
theorem srtF_mut {n : Nat} {ps : List P2} {st : Sto} (h : st[n]? = some (.lst (ps.map pairD))) : srtF [.mut n] st = .ok (.lst ((srtP ps).map pairD)) st := by
  have e : (seqOf (.mut n) st).bind pairsOf = some ps := by simp [seqOf, h]
  unfold srtF
  simp only [e]
/-! ### list(d), d a dict whose keys are tuples -/
def keysL (kvs : List (List L2.Key × V)) : List D := kvs.map fun p => .tup (p.1.map kD)
def listTF : FA := fun as st => match as with
  | [.mut n] => (match st[n]? with
    | some (.dt kvs) => .ok (.lst (keysL kvs)) st
    | _ => .fail)
  | _ => .fail
theorem keysL_rep {K : PySem.W.Frag} {M : Mem} {H : Hp} {st : Sto} (so : StOk K M H st) : ∀ {kvs : List (List L2.Key × V)} {bs : List Addr}, IsKeys H kvs bs → RepL K M H (keysL kvs) (bs.map V.ref)
  | _, _, .nil => .nil
  | _, _, .cons (a := p) (b := b) h t => by
    refine .cons ?_ (keysL_rep so t)
    unfold Rep
    refine ⟨b, p.1.map kV, rfl, .inl ⟨.of h, fun hb => ?_, fun hb => ?_⟩, ?_⟩
    · obtain ⟨n, hn, e⟩ := List.mem_iff_getElem.mp hb
      have hs : n < st.length := by rw [← so.len]; exact hn
      have q := so.at_ n b st[n] (by rw [List.getElem?_eq_getElem hn, e]) (List.getElem?_eq_getElem hs)
      cases e2 : st[n] with
      | lst xs => rw [e2] at q; obtain ⟨vs, hv, _⟩ := q; rw [h] at hv; cases hv
      | dk xs => rw [e2] at q; have q : H b = some (.dK xs) := q; rw [h] at q; cases q
      | dt xs => rw [e2] at q; have q : H b = some (.dT xs) := q; rw [h] at q; cases q
      | fk xs => rw [e2] at q; obtain ⟨o, _, hv⟩ := q; rw [h] at hv; cases hv
    · obtain ⟨_, o, e⟩ := so.pd b hb
      rw [h] at e; cases e
    · clear h t
      induction p.1 with
      | nil => exact .nil
      | cons k ks ih => exact .cons (kD_rep k) ih
theorem v_listT {K : PySem.W.Frag} : CallV K (fun xs H Q => ∃ d kvs, xs = [V.ref d] ∧ Rd H d (.dT kvs) ∧ ∀ p bs, H p = none → IsKeys H kvs bs → Q (.ref p) (upd H p (.lst (bs.map V.ref)))) listTF := by
  intro as xs M H st Q E ra so p
  unfold listTF at p
  split at p
  · split at p
    · rename_i n _ kvs e
      obtain ⟨x, rfl, rx⟩ := ra.one
      unfold Rep at rx
      obtain ⟨t, rfl, m⟩ := rx
      have hd : H t = some (.dT kvs) := so.at_ n t _ m e
      exact ⟨t, kvs, rfl, .of hd, fun b bs hb hk => p M _ _ (.laid so hb) (so.laid hb) (rep_lst so (keysL_rep so hk) hb)⟩
    · exact p.elim
  · exact p.elim
end G

namespace G
open PySem PySem.Spec PyProof.Rows L2 HT
/-! zip of a tuple and a list -/
def Itzm (K : PySem.W.Frag) (a b : Addr) : It :=
  ⟨fun i H => ∃ (xs ys : List V) (x y : V), SqT K H a xs ∧ SqL K H b ys ∧ xs[i]? = some x ∧ ys[i]? = some y,
    fun i H v H' => ∃ T x y, v = .ref T ∧ H T = none ∧ H' = upd H T (.tup [x, y]) ∧ (∀ xs, SqT K H a xs → xs[i]? = some x) ∧ ∀ ys, SqL K H b ys → ys[i]? = some y,
    fun i H => ∃ xs ys : List V, SqT K H a xs ∧ SqL K H b ys ∧ i ≤ xs.length ∧ i ≤ ys.length ∧ (i = xs.length ∨ i = ys.length)⟩
theorem list_inj {X : Cx} {pins : List (Addr × Obj)} {σ : L2.St} {H : Hp} {s : Shared} {a : Addr} {xs ys : List V} (I : Inv X pins σ H s) (h : SqL X.K H a xs) (h' : SqL X.K H a ys) : xs = ys := by
  obtain ⟨its, r, ⟨o, n, e, _, _, d⟩, _⟩ := I.list h
  obtain ⟨its', r', ⟨o', n', e', _, _, d'⟩, _⟩ := I.list h'
  rw [e] at e'; cases e'
  rw [d] at d'
  injection d' with d' _
  have d' : its = its' := by simpa using d'
  subst d'
  exact r.inj r'
theorem turn_zipm {P : Program} {w : World} {K : PySem.W.Frag} {elts : List Expr} {kk : Nat} {tpos : Pos} {a b z TI TO i1 i2 : Addr} (S : ZipSep2 z TI TO i1 i2 [i1, a] [i2, b]) (n1 : a ≠ i1) (n2 : b ≠ i2) :
    Turn P w K (.Tuple elts kk tpos) (Itzm K a b) [z, TI, TO, i1, i2] z (fun i h => IsZip h z TI TO .none ∧ IsTupOf2 h TI (.ref i1) (.ref i2) ∧ (∃ a1 a2, IsTupOf2 h TO a1 a2) ∧ h.IsTupleIter i1 a i ∧ h.IsListIter i2 b i) where
  mem := by simp
  obj := fun i h st d hd => by
    obtain ⟨hz, hTI, ⟨x, y, hTO⟩, ⟨o1, e1, _, d1⟩, ⟨o2, e2, _, d2⟩⟩ := st
    have e' : d = z ∨ d = TI ∨ d = TO ∨ d = i1 ∨ d = i2 := by simpa using hd
    rcases e' with q | q | q | q | q <;> rw [q]
    · exact ⟨_, hz, fun v q => nomatch q⟩
    · exact ⟨_, hTI, fun v q => nomatch q⟩
    · exact ⟨_, hTO, fun v q => nomatch q⟩
    · exact ⟨o1, e1, fun v q => by rw [d1] at q; cases q⟩
    · exact ⟨o2, e2, fun v q => by rw [d2] at q; cases q⟩
  keep := fun i h h' st k => by
    obtain ⟨hz, hTI, ⟨x, y, hTO⟩, h1, h2⟩ := st
    exact ⟨k z (by simp) _ hz, k TI (by simp) _ hTI, ⟨x, y, k TO (by simp) _ hTO⟩, h1.at fun o q => k i1 (by simp) o q, h2.at fun o q => k i2 (by simp) o q⟩
  item := by
    intro X hP hw hK hc i pins s σ H E I hf st hg
    subst hP hw hK
    obtain ⟨hz, hTI, hTO, h1, h2⟩ := st
    obtain ⟨xs, ys, x, y, qx, qy, hx, hy⟩ := hg
    obtain ⟨ia, ra, pa, _⟩ := I.tuple qx
    obtain ⟨ib, rb, pb, _⟩ := I.list qy
    have pb := pb.isList
    obtain ⟨va, ea, wa⟩ := ra.get hx
    obtain ⟨vb, eb, wb⟩ := rb.get hy
    have la : i < ia.toArray.size := by have := (List.getElem?_eq_some_iff.mp ea).1; simpa using this
    have lb : i < ib.toArray.size := by have := (List.getElem?_eq_some_iff.mp eb).1; simpa using this
    have hh := I.ok.hd hc
    have W := WalksT.zipD2 (prog := X.prog) (w := X.w) (A := X.A) S (Draws.tuple (A := X.A.in1) hh i1 a n1 ia.toArray) (Draws.list (A := X.A.in1) hh i2 b n2 ib.toArray)
    have gone : ∀ {d : Addr}, d ∈ [z, TI, TO, i1, i2] → d < s.heap.objs.size := fun {d} hd => by
      have e' : d = z ∨ d = TI ∨ d = TO ∨ d = i1 ∨ d = i2 := by simpa using hd
      rcases e' with q | q | q | q | q <;> rw [q]
      · exact Heap.lt_size hz
      · exact Heap.lt_size hTI
      · obtain ⟨_, _, e⟩ := hTO; exact Heap.lt_size e
      · obtain ⟨_, e, _⟩ := h1; exact Heap.lt_size e
      · obtain ⟨_, e, _⟩ := h2; exact Heap.lt_size e
    have wr : ∀ d, d ∈ [z, TO, i1, i2] → d ∈ [z, TI, TO, i1, i2] := fun d hd => by
      have e' : d = z ∨ d = TO ∨ d = i1 ∨ d = i2 := by simpa using hd
      rcases e' with q | q | q | q <;> rw [q] <;> simp
    refine W.item i s _ E (by omega) ⟨hz, hTI, hTO, ⟨h1, pa⟩, ⟨h2, pb⟩⟩ fun T vals h' tk hv hT tu mid kp => ?_
    refine ⟨_, rfl, W.go elts kk tpos i T { s with heap := h', toks := tk } _ E mid fun h'' st2 kp2 => ?_⟩
    obtain ⟨x1, x2, f1, f2, rfl⟩ := hv
    have g1 : x1 = va := by
      have f1' : ia[i]? = some x1 := by simpa using f1
      rw [ea] at f1'; exact (Option.some.inj f1').symm
    have g2 : x2 = vb := by
      have f2' : ib[i]? = some x2 := by simpa using f2
      rw [eb] at f2'; exact (Option.some.inj f2').symm
    subst g1 g2
    have tw := W.apart i T h' mid
    obtain ⟨ot, gt, ct, nt, dt⟩ := tu
    have gt2 := kp2 T ot tw gt
    have new : ObjOk X.prog X.w (upd H T (.tup [x, y])) h'' T (.tup [x, y]) :=
      ⟨by show 2 ≤ sizeLine; decide, [x1, x2], .cons wa (.cons wb .nil), ⟨ot, gt2, ct, nt, dt⟩⟩
    have I1 : Inv X pins σ (upd H T (.tup [x, y])) { s with heap := h'', toks := tk } :=
      I.turnedNew (ch := [z, TI, TO, i1, i2]) (fun d o hb q => kp2 d o (fun m => hb (wr d m)) (kp d o (fun m => hb (wr d m)) q)) hf hT new
    obtain ⟨s1, s2, s3, ⟨s4, _⟩, ⟨s5, _⟩⟩ := st2
    refine ⟨.ref T, _, I1, rfl, ⟨T, x, y, rfl, I.hok.fresh hT, rfl, fun l hl => by rw [I.tuple_inj hl qx]; exact hx, fun l hl => by rw [list_inj I hl qy]; exact hy⟩, ⟨s1, s2, s3, s4, s5⟩, fun d hd => ?_⟩
    rw [upd_ne (Nat.ne_of_lt (Nat.lt_of_lt_of_le (gone hd) hT))]
    exact (hf d hd).1
  done := by
    intro X hP hw hK hc i pins s σ H E I hf st hg
    subst hP hw hK
    obtain ⟨hz, hTI, ⟨u1, u2, hTO⟩, h1, h2⟩ := st
    obtain ⟨xs, ys, qx, qy, l1, l2, hend⟩ := hg
    obtain ⟨ia, ra, pa, _⟩ := I.tuple qx
    obtain ⟨ib, rb, pb, _⟩ := I.list qy
    have pb := pb.isList
    have la := ra.length; have lb := rb.length
    have hh := I.ok.hd hc
    refine wpAny_pyNext_zipD2_end S (Draws.tuple (A := X.A.in1) hh i1 a n1 ia.toArray) (Draws.list (A := X.A.in1) hh i2 b n2 ib.toArray) hz hTI hTO ⟨h1, pa⟩ ⟨h2, pb⟩ (by simp; omega) (by simp; omega) (by simp; omega) fun h' tk kp => ?_
    exact ⟨rfl, I.turnedL (t' := tk) (ch := [z, TI, TO, i1, i2]) (fun d o hb q => kp d o (fun m => hb (by simp [m])) (fun m => hb (by simp [m])) (fun m => hb (by simp [m])) (fun m => hb (by simp [m])) q) hf⟩
  self := fun A i s Q E st h => wpAny_pyIter_zip st.1 h
def iZipM (K : PySem.W.Frag) (ta : TA) : TI := fun σ H R => ta σ H fun vs H1 => ∃ a b xs ys, vs = [.ref a, .ref b] ∧ SqT K H1 a xs ∧ SqL K H1 b ys ∧ R (Itzm K a b) H1
theorem pi_zipm {X : Cx} {e e2 : Expr} {ta : TA} {p pos tpos : Pos} {elts : List Expr} {kk : Nat} (hg : Gl X "zip") (hm : X.mg "zip" = none) (ha : PA X [e, e2] ta)
    (hs : starEach [e, e2] X.env = (false, eval e X.env) :: starEach [e2] X.env := by rfl) (hpl : (backTo pos (starEach [e2] X.env)).any (·.1) = false := by rfl) :
    PI X (.Tuple elts kk tpos) (.Call (.Name "zip" p) [e, e2] [] pos) (iZipM X.K ta) := by
  refine ⟨fun pins s σ H R I h => ?_⟩
  refine Call_ (ld_blt I hg hm PyProof.Rows.boot_zip (PyProof.Rows.callWith_type1 (thn (ha.run pos pins s σ H _ I h) fun us s1 ⟨vs, H1, I1, r1, q1⟩ => ?_) hs hpl))
  obtain ⟨a, b, xs, ys, ex, qx, qy, q⟩ := q1
  subst ex
  obtain ⟨v1, v2, rfl, e1, e2⟩ : ∃ v1 v2, us = [v1, v2] ∧ v1 = .ref a ∧ v2 = .ref b := by
    cases r1 with
    | cons r rr =>
      cases rr with
      | cons r' rr =>
        cases rr; cases r; cases r'
        exact ⟨_, _, rfl, rfl, rfl⟩
  subst e1 e2
  obtain ⟨ia, ra, pa, _⟩ := I1.tuple qx
  obtain ⟨ib, rb, pb, _⟩ := I1.list qy
  have pb := pb.isList
  have hpa : a < s1.heap.objs.size := by obtain ⟨o, e, _⟩ := pa; exact Heap.lt_size e
  have hpb : b < s1.heap.objs.size := by obtain ⟨o, e, _⟩ := pb; exact Heap.lt_size e
  refine zip_begins2 (begins_tuple a ia.toArray) (begins_list b ib.toArray) pa pb fun h' hz hTI hTO g1 g2 hsz kp => wpAny_pyIter_zip hz ?_
  have I2 : Inv X pins σ H1 { s1 with heap := h' } := I1.kept (t' := s1.toks) kp
  have S : ZipSep2 (s1.heap.objs.size + 4) (s1.heap.objs.size + 2) (s1.heap.objs.size + 3) s1.heap.objs.size (s1.heap.objs.size + 1) [s1.heap.objs.size, a] [s1.heap.objs.size + 1, b] :=
    zip_sep2 (fun d hd => by rw [List.mem_singleton.mp hd]; exact hpa) (fun d hd => by rw [List.mem_singleton.mp hd]; exact hpb)
  have fp : ∀ d ∈ [s1.heap.objs.size + 4, s1.heap.objs.size + 2, s1.heap.objs.size + 3, s1.heap.objs.size, s1.heap.objs.size + 1], s1.heap.objs.size ≤ d := fun d hd => by
    have e' : d = s1.heap.objs.size + 4 ∨ d = s1.heap.objs.size + 2 ∨ d = s1.heap.objs.size + 3 ∨ d = s1.heap.objs.size ∨ d = s1.heap.objs.size + 1 := by simpa using hd
    rcases e' with q | q | q | q | q <;> rw [q]
    · exact Nat.le_add_right _ _
    · exact Nat.le_add_right _ _
    · exact Nat.le_add_right _ _
    · exact Nat.le_refl _
    · exact Nat.le_add_right _ _
  exact ⟨s1.heap.objs.size + 4, [s1.heap.objs.size + 4, s1.heap.objs.size + 2, s1.heap.objs.size + 3, s1.heap.objs.size, s1.heap.objs.size + 1], _, _, H1, rfl, I2,
    turn_zipm S (Nat.ne_of_lt hpa) (Nat.ne_of_lt (Nat.lt_of_lt_of_le hpb (Nat.le_add_right _ _))),
    ⟨hz, hTI, ⟨_, _, hTO⟩, ⟨_, g1, rfl, rfl⟩, ⟨_, g2, rfl, rfl⟩⟩, fun d hd => I1.fpOk (fp d hd) (I1.hok.fresh (fp d hd)), q⟩
def zipMNxt (xs : List D) (m : Nat) : Nat → Sto → Option (Option D) := fun i st => match st[m]? with
  | some (.lst ys) => if i ≤ xs.length ∧ i ≤ ys.length then some (zipO xs[i]? ys[i]?) else none
  | _ => none
def zipMF (as : List D) (st : Sto) : R ItD := match as with
  | [.tup xs, .mut m] => (match st[m]? with
    | some (.lst ys) => .ok (.gen (zipMNxt xs m) xs.length) st
    | _ => .fail)
  | _ => .fail
section
variable {K : PySem.W.Frag} {M : Mem} {H : Hp}
theorem itzmm_rep {a b : Addr} {m k : Nat} {xs : List D} {vs : List V} (f : FzT K M H a vs) (q : RepL K M H xs vs) (mb : M.m[m]? = some b) : ItRep K M H (.gen (zipMNxt xs m) k) (Itzm K a b) := fun i M' H' st' g so => by
  have f' := (g.fzT f).sq; have q' := q.kp g
  have mb' := g.pre m b mb
  unfold zipMNxt
  cases e : st'[m]? with
  | none => exact ⟨(by simp), fun d h => by simp at h⟩
  | some mo =>
    cases mo with
    | dk _ => exact ⟨(by simp), fun d h => by simp at h⟩
    | dt _ => exact ⟨(by simp), fun d h => by simp at h⟩
    | fk _ => exact ⟨(by simp), fun d h => by simp at h⟩
    | lst ys =>
      obtain ⟨ws, hw, q2⟩ := so.at_ m b _ mb' e
      by_cases hle : i ≤ xs.length ∧ i ≤ ys.length
      case neg => exact ⟨fun h => by simp [hle] at h, fun d h => by simp [hle] at h⟩
      simp only [hle, and_self, if_true]
      refine ⟨fun h => ?_, fun d h => ?_⟩
      · have h : zipO xs[i]? ys[i]? = none := by simpa using h
        have l1 := q'.length
        have l2 := q2.length
        have h3 := (zipO_none h).imp List.getElem?_eq_none_iff.mp List.getElem?_eq_none_iff.mp
        exact ⟨vs, ws, f', .of hw, by omega, by omega, by omega⟩
      · have h : zipO xs[i]? ys[i]? = some d := by simpa using h
        obtain ⟨x, y, e1, e2, rfl⟩ := zipO_some h
        obtain ⟨v, h1, r⟩ := q'.get e1
        obtain ⟨w, h2, r2⟩ := q2.get e2
        refine ⟨⟨vs, ws, v, w, f', .of hw, h1, h2⟩, fun z H'' ⟨T, x', y', e1, e2, e3, e4, e5⟩ => ?_⟩
        have := e4 vs f'
        rw [h1] at this; cases this
        have := e5 ws (.of hw)
        rw [h2] at this; cases this
        subst e1 e3
        exact pair_new so r r2 e2
variable {X : Cx} {W : WX} {fs : EvA} {tg it : Expr}
theorem g_zipm (h : PI X tg it (iZipM X.K (rdA X.K W fs))) : PI X tg it (rdI X.K W (callI zipMF fs)) := h.imp fun σ H R' ⟨env, M, st, eo, so, p⟩ => ⟨env, M, st, eo, so, Post.imp (Post.bind p) fun vs H1 ⟨M1, st1, as, g, so1, ra, p1⟩ => by
  unfold zipMF at p1
  split at p1
  · split at p1
    · rename_i _ _ _ m _ ys e
      obtain ⟨x, y, rfl, rx, ry⟩ := ra.two
      unfold Rep at rx ry
      obtain ⟨a, vs, rfl, f, q⟩ := rx
      obtain ⟨b, rfl, mb⟩ := ry
      obtain ⟨ws, hw, _⟩ := so1.at_ m b _ mb e
      exact ⟨a, b, vs, ws, rfl, f.sq, .of hw, p1 M1 H1 _ .refl so1 (itzmm_rep f q mb)⟩
    · exact p1.elim
  · exact p1.elim⟩
end
end G

namespace G
open PySem PySem.Spec PyProof.Rows L2
/-! ### repr of data -/
mutual
def rOk : D → Bool
  | .non => true
  | .bl _ => true
  | .int i => decide (i.natAbs < 2 ^ 400)
  | .tup xs => rOkL xs
  | .lst xs => rOkL xs
  | .slo xs => rOkL xs
  | _ => false
def rOkL : List D → Bool
  | [] => true
  | x :: xs => rOk x && rOkL xs
end
mutual
def rWt : D → Nat
  | .int _ => 401
  | .tup xs => rWtL xs
  | .lst xs => rWtL xs
  | .slo xs => rWtL xs
  | _ => 0
def rWtL : List D → Nat
  | [] => 0
  | x :: xs => rWt x + 1 + rWtL xs
end
mutual
def rDp : D → Nat
  | .tup xs => rDpL xs + 1
  | .lst xs => rDpL xs + 1
  | .slo xs => rDpL xs + 1
  | _ => 0
def rDpL : List D → Nat
  | [] => 0
  | x :: xs => max (rDp x) (rDpL xs)
end
/-- data that can be shown -/
structure ShP (p : PyData) (w d : Nat) : Prop where
  nd : p.hasDict = false
  sh : p.showable = true
  ls : p.leavesShort 500 = true
  wt : p.weight ≤ w
  dp : p.depth ≤ d
structure ShL (ps : List PyData) (w d : Nat) : Prop where
  nd : PyData.hasDictAll ps = false
  sh : PyData.showableAll ps = true
  ls : PyData.leavesShortAll 500 ps = true
  wt : PyData.weightAll ps ≤ w
  dp : PyData.depthAll ps ≤ d
theorem ShL.tup {ps : List PyData} {w d : Nat} (h : ShL ps w d) : ShP (.tuple ps) w (d + 1) :=
  ⟨by simpa [PyData.hasDict] using h.nd, by simpa [PyData.showable] using h.sh, by simpa [PyData.leavesShort] using h.ls, by simpa [PyData.weight] using h.wt, by simpa [PyData.depth] using h.dp⟩
theorem ShL.lst {ps : List PyData} {w d : Nat} (h : ShL ps w d) : ShP (.list ps) w (d + 1) :=
  ⟨by simpa [PyData.hasDict] using h.nd, by simpa [PyData.showable] using h.sh, by simpa [PyData.leavesShort] using h.ls, by simpa [PyData.weight] using h.wt, by simpa [PyData.depth] using h.dp⟩
mutual
theorem toPD_show : ∀ {d : D}, rOk d = true → ∃ p, toPD d = some p ∧ ShP p (rWt d) (rDp d)
  | .non, _ => ⟨.none, rfl, by constructor <;> simp [PyData.hasDict, PyData.showable, PyData.leavesShort, PyData.weight, PyData.depth, rWt, rDp]⟩
  | .bl b, _ => ⟨.bool b, rfl, by constructor <;> simp [PyData.hasDict, PyData.showable, PyData.leavesShort, PyData.weight, PyData.depth, rWt, rDp]⟩
  | .int i, h => by
    have h : i.natAbs < 2 ^ 400 := by simpa [rOk] using h
    have hl : i.natAbs.log2 < 400 := by
      by_cases h0 : i.natAbs = 0
      · rw [h0]; decide
      · exact (Nat.log2_lt h0).mpr h
    have ht := int_text_length_le (a := i) (k := 400) (by decide) hl
    refine ⟨.int i, rfl, by simp [PyData.hasDict], by simp [PyData.showable]; omega, ?_, ?_, by simp [PyData.depth]⟩
    · have : (Str.ofString (toString i)).length ≤ 500 := by rw [PySem.ofString_length]; omega
      unfold PyData.leavesShort PyData.shown
      exact decide_eq_true this
    · unfold PyData.weight rWt
      split <;> omega
  | .tup xs, h => by
    obtain ⟨ps, e, q⟩ := toPDs_show (ds := xs) (by simpa [rOk] using h)
    exact ⟨.tuple ps, by unfold toPD; rw [e]; rfl, by simpa [rWt, rDp] using q.tup⟩
  | .lst xs, h => by
    obtain ⟨ps, e, q⟩ := toPDs_show (ds := xs) (by simpa [rOk] using h)
    exact ⟨.list ps, by unfold toPD; rw [e]; rfl, by simpa [rWt, rDp] using q.lst⟩
  | .slo xs, h => by
    obtain ⟨ps, e, q⟩ := toPDs_show (ds := xs) (by simpa [rOk] using h)
    exact ⟨.list ps, by unfold toPD; rw [e]; rfl, by simpa [rWt, rDp] using q.lst⟩
  | .str _, h => by simp [rOk] at h
  | .raw _, h => by simp [rOk] at h
  | .dic, h => by simp [rOk] at h
  | .mut _, h => by simp [rOk] at h
theorem toPDs_show : ∀ {ds : List D}, rOkL ds = true → ∃ ps, toPDs ds = some ps ∧ ShL ps (rWtL ds) (rDpL ds)
  | [], _ => ⟨[], rfl, by constructor <;> simp [PyData.hasDictAll, PyData.showableAll, PyData.leavesShortAll, PyData.weightAll, PyData.depthAll, rWtL, rDpL]⟩
  | d :: ds, h => by
    have h : rOk d = true ∧ rOkL ds = true := by simpa [rOkL] using h
    obtain ⟨p, e1, q1⟩ := toPD_show h.1
    obtain ⟨ps, e2, q2⟩ := toPDs_show h.2
    refine ⟨p :: ps, by unfold toPDs; rw [e1, e2], ?_⟩
    constructor
    · simp [PyData.hasDictAll, q1.nd, q2.nd]
    · simp [PyData.showableAll, q1.sh, q2.sh]
    · simp [PyData.leavesShortAll, q1.ls, q2.ls]
    · have := q1.wt; have := q2.wt
      simp only [PyData.weightAll, rWtL]; omega
    · have := q1.dp; have := q2.dp
      simp only [PyData.depthAll, rDpL]; omega
end
/-- the text of data -/
def shD (d : D) : Str := match toPD d with
  | some p => p.shown
  | none => Str.ofString ""
def reprF : FA := fun as st => match as with
  | [a] => if rOk a = true ∧ rWt a ≤ 33000 ∧ rDp a ≤ 20 then .ok (.str (shD a)) st else .fail
  | _ => .fail
def rRepr (K : PySem.W.Frag) : List V → Hp → VK → Prop := fun xs H Q => ∃ (x : V) (p : PyData), xs = [x] ∧ Dp K H x p ∧ p.hasDict = false ∧ p.showable = true ∧ p.depth ≤ 20 ∧ p.shown.length ≤ sizeLine ∧ Q (.str p.shown) H
theorem bt_repr : bootBuiltins "repr" = some (.builtin "repr") := by decide +kernel
section
variable {X : Cx}
theorem cr_repr {k : Nat} (hr : RoomG k X.A) : CallR X (.builtin "repr") (rRepr X.K) := by
  intro pins s σ H xs us Q I r h
  obtain ⟨x, p, rfl, hd, h1, h2, h3, h4, q⟩ := h
  obtain ⟨u, rfl, ru⟩ := vals1 r
  obtain ⟨as, rd⟩ := Dp.reads I p x u hd ru
  have fin : ∀ (h' : Heap) (t : Tok) (tk : Nat), (∀ b o, s.heap.get? b = some o → h'.get? b = some o) → EP X pins σ Q (.str p.shown t) { s with heap := h', toks := tk } := fun h' t tk kp =>
    ⟨.str p.shown, H, I.kept (t' := tk) kp, ⟨t, rfl⟩, q⟩
  cases rd with
  | none => exact PySem.P.repr_of_none (fin s.heap _ _ fun _ _ e => e)
  | bool b => exact PySem.P.repr_of_bool (fin s.heap _ _ fun _ _ e => e)
  | int i t => exact PySem.P.repr_of_int (by simpa [PyData.showable] using h2) (fin s.heap _ _ fun _ _ e => e)
  | str y t => exact PySem.P.repr_of_str (fin s.heap _ _ fun _ _ e => e) h4
  | list a1 a2 a3 a4 =>
    exact repr_of_reads' (.list a1 a2 a3 a4) h2 (PyData.noDict_hsm h1) hr.gd (by have := hr.units; omega) (fun _ _ e => e) (fun h' t tk kp => fin h' t tk kp) h4
  | tuple a1 a2 a3 a4 =>
    exact repr_of_reads' (.tuple a1 a2 a3 a4) h2 (PyData.noDict_hsm h1) hr.gd (by have := hr.units; omega) (fun _ _ e => e) (fun h' t tk kp => fin h' t tk kp) h4
  | dict a1 a2 a3 a4 a5 => simp [PyData.hasDict] at h1
end
theorem v_repr {K : PySem.W.Frag} : CallV K (rRepr K) reprF := by
  intro as xs M H st Q E ra so p
  unfold reprF at p
  split at p
  · rename_i a
    split at p
    · rename_i h
      obtain ⟨x, rfl, rx⟩ := ra.one
      obtain ⟨pd, e, sp⟩ := toPD_show h.1
      have sl := PyData.shown_le 500 (by decide) pd sp.ls
      have hw := sp.wt
      refine ⟨x, pd, rfl, toPD_rep e rx, sp.nd, sp.sh, Nat.le_trans sp.dp h.2.2, by rw [sizeLine_eq]; omega, ?_⟩
      have es : shD a = pd.shown := by unfold shD; rw [e]
      rw [es] at p
      exact p M H _ .refl so (rep_str _ _ _)
    · exact p.elim
  · exact p.elim
/-! reckoning -/
theorem reprF_ok {a : D} (st : Sto) (h1 : rOk a = true) (h2 : rWt a ≤ 33000) (h3 : rDp a ≤ 20) : reprF [a] st = .ok (.str (shD a)) st := by
  show (if rOk a = true ∧ rWt a ≤ 33000 ∧ rDp a ≤ 20 then R.ok (D.str (shD a)) st else R.fail) = _
  rw [if_pos ⟨h1, h2, h3⟩]
@[simp] theorem neD_str (x : Str) (st : Sto) : neD (.str x) (.str x) st = .ok (.bl false) st := by
  unfold neD eqO scalD
  simp
@[simp] theorem eqD_str (x : Str) (st : Sto) : eqD (.str x) (.str x) st = .ok (.bl true) st := by
  unfold eqD eqO scalD
  simp
end G

namespace G
open PySem PySem.Spec PyProof.Rows L2
/-! ### sorted(a list of tuples of d ints from 0 on) -/
abbrev nsD (ns : List Int) : D := .tup (ns.map D.int)
def tupsOf : List D → Option (List (List Int))
  | [] => some []
  | .tup xs :: r => (intsOf xs).bind fun ns => (tupsOf r).map (ns :: ·)
  | _ => none
theorem intsOf_eq : ∀ {xs : List D} {ns : List Int}, intsOf xs = some ns → xs = ns.map D.int
  | [], ns, h => by unfold intsOf at h; cases h; rfl
  | x :: xs, ns, h => by
    unfold intsOf at h
    split at h
    · rename_i e; cases e
    · rename_i i r e
      cases e
      cases hr : intsOf xs with
      | none => rw [hr] at h; cases h
      | some qs => rw [hr] at h; cases h; rw [intsOf_eq hr]; rfl
    · cases h
theorem tupsOf_eq : ∀ {xs : List D} {nss : List (List Int)}, tupsOf xs = some nss → xs = nss.map nsD
  | [], nss, h => by unfold tupsOf at h; cases h; rfl
  | x :: xs, nss, h => by
    unfold tupsOf at h
    split at h
    · rename_i e; cases e
    · rename_i i r e
      cases e
      obtain ⟨ns, h1, h2⟩ := Option.bind_eq_some_iff.mp h
      obtain ⟨q, h3, h4⟩ := Option.map_eq_some_iff.mp h2
      subst h4
      rw [intsOf_eq h1, tupsOf_eq h3]; rfl
    · cases h
@[simp] theorem tupsOf_map : ∀ nss : List (List Int), tupsOf (nss.map nsD) = some nss
  | [] => rfl
  | ns :: nss => by
    show (intsOf (ns.map D.int)).bind _ = _
    rw [intsOf_map, Option.bind_some, tupsOf_map nss]; rfl
def cd (ns : List Int) : Int := TS.code (big : Int) ns
def insN (x : List Int) : List (List Int) → List (List Int)
  | [] => [x]
  | y :: r => if cd y < cd x then y :: insN x r else x :: y :: r
def srtN (l : List (List Int)) : List (List Int) := l.foldr insN []
theorem perm_insN {p : List Int} : ∀ {l : List (List Int)}, (insN p l).Perm (p :: l)
  | [] => .refl _
  | q :: r => by
    unfold insN
    split
    · exact ((perm_insN (l := r)).cons q).trans (.swap p q r)
    · exact .refl _
theorem sorted_insN {p : List Int} : ∀ {l : List (List Int)}, l.Pairwise (fun a b => cd a ≤ cd b) → (insN p l).Pairwise (fun a b => cd a ≤ cd b)
  | [], _ => by simp [insN]
  | q :: r, h => by
    obtain ⟨h1, h2⟩ := List.pairwise_cons.mp h
    unfold insN
    split
    · rename_i lt
      refine List.pairwise_cons.mpr ⟨fun x hx => ?_, sorted_insN h2⟩
      rcases List.mem_cons.mp (perm_insN.mem_iff.mp hx) with rfl | hx
      · omega
      · exact h1 x hx
    · rename_i nlt
      refine List.pairwise_cons.mpr ⟨fun x hx => ?_, h⟩
      rcases List.mem_cons.mp hx with rfl | hx
      · omega
      · have := h1 x hx; omega
theorem perm_srtN : ∀ {l : List (List Int)}, (srtN l).Perm l
  | [] => .refl _
  | p :: l => (perm_insN (l := srtN l)).trans ((perm_srtN (l := l)).cons p)
theorem sorted_srtN : ∀ {l : List (List Int)}, (srtN l).Pairwise (fun a b => cd a ≤ cd b)
  | [] => .nil
  | p :: l => sorted_insN (sorted_srtN (l := l))
theorem cd_inj : ∀ {a b : List Int}, a.length = b.length → TS.Bd (big : Int) a → TS.Bd (big : Int) b → cd a = cd b → a = b
  | [], [], _, _, _, _ => rfl
  | [], _ :: _, h, _, _, _ => by simp at h
  | _ :: _, [], h, _, _, _ => by simp at h
  | x :: a, y :: b, hl, ha, hb, e => by
    have hl' : a.length = b.length := by simpa using hl
    have e : TS.code (big : Int) (x :: a) = TS.code (big : Int) (y :: b) := e
    rcases Int.lt_trichotomy x y with h | h | h
    · have := TS.code_lt hl' ha.tail hb.tail h; omega
    · subst h
      have e2 : cd a = cd b := by
        show TS.code (big : Int) a = TS.code (big : Int) b
        have e : x * (big : Int) ^ a.length + TS.code (big : Int) a = x * (big : Int) ^ b.length + TS.code (big : Int) b := e
        rw [hl'] at e
        omega
      rw [cd_inj hl' ha.tail hb.tail e2]
    · have := TS.code_lt hl'.symm hb.tail ha.tail h; omega
theorem sortedN_unique {d : Nat} : ∀ {a b : List (List Int)}, (∀ x ∈ a, x.length = d ∧ TS.Bd (big : Int) x) → a.Pairwise (fun a b => cd a ≤ cd b) → b.Pairwise (fun a b => cd a ≤ cd b) → a.Perm b → a = b
  | [], b, _, _, _, h => (List.Perm.eq_nil h.symm).symm
  | x :: a, [], _, _, _, h => absurd h.length_eq (by simp)
  | x :: a, y :: b, hk, ha, hb, h => by
    obtain ⟨a1, a2⟩ := List.pairwise_cons.mp ha
    obtain ⟨b1, b2⟩ := List.pairwise_cons.mp hb
    have e : x = y := by
      rcases List.mem_cons.mp (h.mem_iff.mp List.mem_cons_self) with g | g
      · exact g
      · rcases List.mem_cons.mp (h.mem_iff.mpr List.mem_cons_self) with g2 | g2
        · exact g2.symm
        · have k1 := hk x List.mem_cons_self
          have k2 := hk y (List.mem_cons_of_mem _ g2)
          have := a1 y g2
          have := b1 x g
          exact cd_inj (by omega) k1.2 k2.2 (by omega)
    subst e
    rw [sortedN_unique (fun z hz => hk z (List.mem_cons_of_mem _ hz)) a2 b2 h.cons_inv]
def srtNF : FA := fun as st => match as with
  | [.lst xs] => (match tupsOf xs with
    | some nss => if nss.length < 64 ∧ 1 ≤ (nss.headD [0]).length ∧ ∀ ns ∈ nss, ns.length = (nss.headD [0]).length ∧ ∀ m ∈ ns, 0 ≤ m ∧ m < (big : Int) then .ok (.lst ((srtN nss).map nsD)) st else .fail
    | none => .fail)
  | _ => .fail
def rSortUA (K : PySem.W.Frag) : List V → Hp → VK → Prop := fun vs H Q => ∃ (d : Nat) (B : Int), 1 ≤ d ∧ rSortU K d B vs H Q
theorem cr_sortUA {X : Cx} : CallR X (.builtin "sorted") (rSortUA X.K) := by
  intro pins s σ H vs us Q I r h
  obtain ⟨d, B, hd, h⟩ := h
  exact cr_sortT hd pins s σ H vs us Q I r h
theorem paired_perm {α β : Type} {F : α → β → Prop} : ∀ {xs ys : List α}, ys.Perm xs → ∀ {ps : List β}, Paired F xs ps → ∃ qs, Paired F ys qs ∧ qs.Perm ps := by
  intro xs ys h
  induction h with
  | nil => intro ps hp; exact ⟨ps, hp, .refl _⟩
  | cons x _ ih =>
    intro ps hp
    cases hp with
    | cons h t =>
      obtain ⟨qs, h1, h2⟩ := ih t
      exact ⟨_ :: qs, .cons h h1, h2.cons _⟩
  | swap x y l =>
    intro ps hp
    cases hp with
    | cons h t =>
      cases t with
      | cons h' t => exact ⟨_, .cons h' (.cons h t), .swap _ _ _⟩
  | trans _ _ ih1 ih2 =>
    intro ps hp
    obtain ⟨qs, h1, h2⟩ := ih2 hp
    obtain ⟨rs, h3, h4⟩ := ih1 h1
    exact ⟨rs, h3, h4.trans h2⟩
theorem ns_rep {K : PySem.W.Frag} {M : Mem} {H : Hp} {ns : List Int} {x : V} (r : Rep K M H (nsD ns) x) : ∃ t, x = .ref t ∧ FzT K M H t (ns.map V.int) := by
  unfold nsD Rep at r
  obtain ⟨a, vs, rfl, f, q⟩ := r
  have : vs = ns.map V.int := by
    clear f
    induction ns generalizing vs with
    | nil => unfold RepL at q; exact q
    | cons n ns ih =>
      rw [List.map_cons] at q
      unfold RepL at q
      obtain ⟨v, rr, rfl, h1, h2⟩ := q
      rw [rep_int_iff] at h1
      rw [h1, ih _ h2]; rfl
  subst this
  exact ⟨a, rfl, f⟩
theorem paired_ns {K : PySem.W.Frag} {M : Mem} {H : Hp} : ∀ {nss : List (List Int)} {xs : List V}, RepL K M H (nss.map nsD) xs → Paired (fun x p => Rep K M H (nsD p) x) xs nss
  | [], xs, r => by unfold RepL at r; simp at r; subst r; exact .nil
  | p :: ps, xs, r => by
    rw [List.map_cons] at r
    unfold RepL at r
    obtain ⟨v, rr, rfl, h1, h2⟩ := r
    exact .cons h1 (paired_ns h2)
theorem ns_paired {K : PySem.W.Frag} {M : Mem} {H : Hp} : ∀ {nss : List (List Int)} {xs : List V}, Paired (fun x p => Rep K M H (nsD p) x) xs nss → RepL K M H (nss.map nsD) xs
  | _, _, .nil => .nil
  | _, _, .cons h t => .cons h (ns_paired t)
theorem paired_mem {α β : Type} {F : α → β → Prop} : ∀ {xs : List α} {ps : List β}, Paired F xs ps → ∀ x ∈ xs, ∃ p ∈ ps, F x p
  | _, _, .nil, x, h => absurd h List.not_mem_nil
  | _, _, .cons h t, x, hx => by
    rcases List.mem_cons.mp hx with rfl | hx
    · exact ⟨_, List.mem_cons_self, h⟩
    · obtain ⟨p, h1, h2⟩ := paired_mem t x hx
      exact ⟨p, List.mem_cons_of_mem _ h1, h2⟩
theorem paired_pw {α β : Type} {F : α → β → Prop} {R : α → α → Prop} {S : β → β → Prop} (h : ∀ x y p q, F x p → F y q → R x y → S p q) : ∀ {xs : List α} {ps : List β}, Paired F xs ps → xs.Pairwise R → ps.Pairwise S
  | _, _, .nil, _ => .nil
  | _, _, .cons (a := x) (l₁ := xs) (b := p) (l₂ := ps) f t, hr => by
    obtain ⟨h1, h2⟩ := List.pairwise_cons.mp hr
    refine List.pairwise_cons.mpr ⟨fun q hq => ?_, paired_pw h t h2⟩
    have : ∃ y ∈ xs, F y q := by
      clear h1 h2 hr f
      induction t with
      | nil => cases hq
      | cons f' t' ih =>
        rcases List.mem_cons.mp hq with rfl | hq
        · exact ⟨_, List.mem_cons_self, f'⟩
        · obtain ⟨y, h1, h2⟩ := ih hq
          exact ⟨y, List.mem_cons_of_mem _ h1, h2⟩
    obtain ⟨y, hy, fy⟩ := this
    exact h x y p q f fy (h1 y hy)
theorem v_srtN {K : PySem.W.Frag} : CallV K (rSortUA K) srtNF := by
  intro as xs M H st Q E ra so p
  unfold srtNF at p
  split at p
  · rename_i ds
    split at p
    · rename_i nss e
      split at p
      · rename_i hc
        obtain ⟨h64, hd, hb⟩ := hc
        obtain ⟨x, rfl, rx⟩ := ra.one
        have ed := tupsOf_eq e
        subst ed
        unfold Rep at rx
        obtain ⟨t, vs, rfl, hs, rl⟩ := rx
        have hp := paired_ns rl
        refine ⟨(nss.headD [0]).length, (big : Int), hd, t, vs, rfl, hs.sq, by rw [paired_len hp]; exact h64, fun x hx => ?_, fun ys b hperm hpw hbn => ?_⟩
        · obtain ⟨ns, h1, h2⟩ := paired_mem hp x hx
          obtain ⟨u, eu, f⟩ := ns_rep h2
          exact ⟨ns, ⟨u, eu, f.sq⟩, (hb ns h1).1, (hb ns h1).2⟩
        · obtain ⟨qs, h1, h2⟩ := paired_perm hperm hp
          have hpq : qs.Pairwise (fun a b => cd a ≤ cd b) := paired_pw (fun x y p q f g r => by
            obtain ⟨u, eu, fu⟩ := ns_rep f
            obtain ⟨v, ev, fv⟩ := ns_rep g
            exact r p q ⟨u, eu, fu.sq⟩ ⟨v, ev, fv.sq⟩) h1 hpw
          have hq : qs = srtN nss := sortedN_unique (d := (nss.headD [0]).length) (fun x hx => hb x (h2.mem_iff.mp hx)) hpq sorted_srtN (h2.trans perm_srtN.symm)
          subst hq
          exact p M _ _ (.laid so hbn) (so.laid hbn) (rep_lst so (ns_paired h1) hbn)
      · exact p.elim
    · exact p.elim
  · exact p.elim
theorem srtNF_ok {nss : List (List Int)} (d : Nat) (st : Sto) (h64 : nss.length < 64) (hd : 1 ≤ d) (h : ∀ ns ∈ nss, ns.length = d ∧ ∀ m ∈ ns, 0 ≤ m ∧ m < (big : Int)) : srtNF [.lst (nss.map nsD)] st = .ok (.lst ((srtN nss).map nsD)) st := by
  show (match tupsOf (nss.map nsD) with | some nss => _ | none => _) = _
  rw [tupsOf_map]
  show (if _ then _ else _) = _
  cases nss with
  | nil => rw [if_pos ⟨by simp, by simp, by simp⟩]
  | cons n l =>
    have e : (n :: l).headD [0] = n := rfl
    have hn := (h n List.mem_cons_self).1
    rw [e, hn]
    exact if_pos ⟨h64, hd, h⟩
end G

namespace G
open PySem PySem.Spec PyProof.Rows L2
/-! ### .index of a list of ints, .extend -/
def lstOf (d : D) (st : Sto) : Option (List D) := match d with
  | .lst xs => some xs
  | .slo xs => some xs
  | .mut n => (match st[n]? with
    | some (.lst xs) => some xs
    | _ => none)
  | _ => none
def indexF : FM := fun d as st => match as with
  | [.int x] => (match (lstOf d st).bind intsOf with
    | some ns => (match ns.findIdx? (fun y => y == x) with
      | some j => .ok (.int (j : Nat)) st
      | none => .fail)
    | none => .fail)
  | _ => .fail
def extF : FM := fun d as st => match d, as with
  | .mut n, [.lst zs] => (match st[n]? with
    | some (.lst xs) => if xs.length + zs.length ≤ 16777216 then .ok .non (st.set n (.lst (xs ++ zs))) else .fail
    | _ => .fail)
  | _, _ => .fail
theorem v_extend {K : PySem.W.Frag} : MethV K rExtend extF := by
  intro a as x xs M H st Q E ra rb so p
  unfold extF at p
  split at p
  · split at p
    · rename_i n zs _ ys e
      split at p
      · rename_i hl
        unfold Rep at ra
        obtain ⟨t, rfl, m⟩ := ra
        obtain ⟨y, rfl, ry⟩ := rb.one
        unfold Rep at ry
        obtain ⟨b, ws, rfl, fz, rz⟩ := ry
        obtain ⟨vs, hv, q⟩ := so.at_ n t _ m e
        exact ⟨t, b, vs, ws, rfl, rfl, hv, fz.1, by rw [← q.length, ← rz.length, sizeLine_eq]; exact hl, p M _ _ (.put so m) (so.putL m (q.append rz)) (rep_non _ _)⟩
      · exact p.elim
    · exact p.elim
  · exact p.elim
theorem repL_ints {K : PySem.W.Frag} {M : Mem} {H : Hp} : ∀ {ns : List Int} {vs : List V}, RepL K M H (ns.map D.int) vs → vs = ns.map V.int
  | [], vs, q => by unfold RepL at q; exact q
  | n :: ns, vs, q => by
    rw [List.map_cons] at q
    unfold RepL at q
    obtain ⟨v, rr, rfl, h1, h2⟩ := q
    rw [rep_int_iff] at h1
    rw [h1, repL_ints h2]; rfl
theorem v_index {K : PySem.W.Frag} : MethV K (rIndex K) indexF := by
  intro a as x xs M H st Q E ra rb so p
  unfold indexF at p
  split at p
  · rename_i i
    split at p
    · rename_i ns e
      split at p
      · rename_i j hj
        obtain ⟨ds, e1, e2⟩ := Option.bind_eq_some_iff.mp e
        have ed := intsOf_eq e2
        subst ed
        obtain ⟨y, rfl, ry⟩ := rb.one
        rw [rep_int_iff] at ry
        subst ry
        have hs : ∃ t, x = .ref t ∧ SqL K H t (ns.map V.int) := by
          cases a with
          | «mut» n =>
            unfold Rep at ra
            obtain ⟨t, rfl, m⟩ := ra
            simp only [lstOf] at e1
            split at e1
            · rename_i ys hy
              cases e1
              obtain ⟨vs, hv, rl⟩ := so.at_ n t _ m hy
              have := repL_ints rl
              subst this
              exact ⟨t, rfl, .of hv⟩
            · cases e1
          | lst ys => cases e1; unfold Rep at ra; obtain ⟨t, vs, e, f, q⟩ := ra; have := repL_ints q; subst this; exact ⟨t, e, f.sq⟩
          | slo ys => cases e1; unfold Rep at ra; obtain ⟨t, vs, e, f, q⟩ := ra; have := repL_ints q; subst this; exact ⟨t, e, f.sq⟩
          | _ => cases e1
        obtain ⟨t, rfl, hs⟩ := hs
        obtain ⟨h1, h2, h3⟩ := List.findIdx?_eq_some_iff_getElem.mp hj
        refine ⟨t, ns.map V.int, .int i, j, .int ns[j], rfl, rfl, hs, rfl, by simp [flatV], by simp [h1], ?_, fun m z' hm hz => ?_, p M H _ .refl so (rep_int _ _ _)⟩
        · have : ns[j] = i := by simpa using h2
          simp [eqV, this]
        · rw [List.getElem?_map] at hz
          obtain ⟨z, hz1, rfl⟩ := Option.map_eq_some_iff.mp hz
          have hm' : m < ns.length := by omega
          rw [List.getElem?_eq_getElem hm'] at hz1
          cases hz1
          have := h3 m hm
          simpa [eqV] using this
      · exact p.elim
    · exact p.elim
  · exact p.elim
theorem indexF_lst {ns : List Int} {x : Int} {j : Nat} (st : Sto) (h : ns.findIdx? (fun y => y == x) = some j) : indexF (.lst (ns.map D.int)) [.int x] st = .ok (.int (j : Nat)) st := by
  show (match (some (ns.map D.int)).bind intsOf with | some ns => _ | none => _) = _
  rw [Option.bind_some, intsOf_map]
  show (match ns.findIdx? (fun y => y == x) with | some j => _ | none => _) = _
  rw [h]
theorem extF_mut {st : Sto} {n : Nat} {xs zs : List D} (h : st[n]? = some (.lst xs)) (hl : xs.length + zs.length ≤ 16777216) : extF (.mut n) [.lst zs] st = .ok .non (st.set n (.lst (xs ++ zs))) := by
  show (match st[n]? with | some (.lst xs) => _ | _ => _) = _
  rw [h]
  exact if_pos hl
end G

namespace Lap
open PySem PySem.Spec PyProof.Rows L2 G
abbrev whileMost : Nat := 100000
def B_round_by : SvS := retS (callE sumF (consA (callE listF (consA (varE 0) (nilA))) (nilA)))
def F_round_by : FA := runF 1 1 B_round_by
def B_sectors_from : SvS := retS (lstE (starA (sliceE (varE 0) (someO (varE 1)) (noO)) (starA (sliceE (varE 0) (noO) (someO (varE 1))) (nilA))))
def F_sectors_from : FA := runF 2 2 B_sectors_from
def B_reach_by : SvS := seqS (asgS (callE divmodF (consA (varE 2) (consA (callE lenF (consA (varE 0) (nilA))) (nilA)))) (tupT 2 (consT (nameT 3) (consT (nameT 4) (nilT))))) (retS (binE addD (binE mulD (varE 3) (callE F_round_by (consA (varE 0) (nilA)))) (callE sumF (consA (sliceE (callE F_sectors_from (consA (varE 0) (consA (varE 1) (nilA)))) (noO) (someO (varE 4))) (nilA)))))
def F_reach_by : FA := runF 3 5 B_reach_by
def B_is_whole : SvS := retS (andE (unE (isiD .int) (varE 0)) (notE (unE (isiD .bl) (varE 0))))
def F_is_whole : FA := runF 1 1 B_is_whole
def B_is_between : SvS := retS (andE (callE F_is_whole (consA (varE 0) (nilA))) (chainE leD leD (varE 1) (varE 0) (varE 2)))
def F_is_between : FA := runF 3 3 B_is_between
def B_is_up_to : SvS := retS (callE F_is_between (consA (varE 0) (consA (cE (.int 0)) (consA (varE 1) (nilA)))))
def F_is_up_to : FA := runF 2 2 B_is_up_to
def B_is_from : SvS := retS (andE (callE F_is_whole (consA (varE 0) (nilA))) (binE geD (varE 0) (varE 1)))
def F_is_from : FA := runF 2 2 B_is_from
def B_is_tuple_up_to : SvS := retS (andE (unE (isiD .tup) (varE 0)) (chainE leD leD (varE 1) (callE lenF (consA (varE 0) (nilA))) (varE 2)))
def F_is_tuple_up_to : FA := runF 3 3 B_is_tuple_up_to
def B_is_track_of : SvS := retS (andE (callE F_is_tuple_up_to (consA (varE 0) (consA (cE (.int 1)) (consA (cE (.int 8)) (nilA))))) (callE allF (consA (lcE (iterE (varE 0)) (.nm 1) (yesB) (callE F_is_from (consA (varE 1) (consA (cE (.int 1)) (nilA)))) [1]) (nilA))))
def F_is_track_of : FA := runF 1 2 B_is_track_of
def B_is_mat_of : SvS := retS (callE F_is_up_to (consA (varE 1) (consA (binE subD (callE lenF (consA (varE 0) (nilA))) (cE (.int 1))) (nilA))))
def F_is_mat_of : FA := runF 2 2 B_is_mat_of
def B_check_track : SvS := ifS (notB (tstE (callE F_is_track_of (consA (varE 0) (nilA))))) (failS) (passS)
def F_check_track : FA := runF 1 1 B_check_track
def B_check_mat : SvS := ifS (notB (tstE (callE F_is_mat_of (consA (varE 0) (consA (varE 1) (nilA)))))) (failS) (passS)
def F_check_mat : FA := runF 2 2 B_check_mat
def B_check_from_nought : SvS := ifS (notB (tstE (callE F_is_from (consA (varE 0) (consA (cE (.int 0)) (nilA)))))) (failS) (passS)
def F_check_from_nought : FA := runF 1 1 B_check_from_nought
def B_round_of : SvS := seqS (exprS (callE F_check_track (consA (varE 0) (nilA)))) (retS (callE F_round_by (consA (varE 0) (nilA))))
def F_round_of : FA := runF 1 1 B_round_of
def B_reach : SvS := seqS (exprS (callE F_check_track (consA (varE 0) (nilA)))) (seqS (exprS (callE F_check_mat (consA (varE 0) (consA (varE 1) (nilA))))) (seqS (exprS (callE F_check_from_nought (consA (varE 2) (nilA)))) (retS (callE F_reach_by (consA (varE 0) (consA (varE 1) (consA (varE 2) (nilA))))))))
def F_reach : FA := runF 3 3 B_reach
def B__law_reach : SvS := seqS (asgS (callE lenF (consA (varE 0) (nilA))) (nameT 3)) (seqS (parS 4 5 (consA (binE fdivD (varE 2) (varE 3)) (consA (binE modD (callE intF (consA (varE 2) (nilA))) (varE 3)) (nilA)))) (retS (binE addD (binE mulD (varE 4) (callE sumF (consA (varE 0) (nilA)))) (callE sumF (consA (lcE (callI range1F (consA (varE 5) (nilA))) (.nm 6) (yesB) (binE ixD (varE 0) (binE modD (callE intF (consA (binE addD (varE 1) (varE 6)) (nilA))) (varE 3))) [6]) (nilA))))))
def F__law_reach : FA := runF 3 7 B__law_reach
def B__law_same (rec : FA) : SvS := seqS (ifS (tstE (binE isND (varE 1) (cE .non))) (retS (binE isND (varE 0) (cE .non))) (passS)) (seqS (ifS (tstE (unE (isiD .bl) (varE 1))) (retS (andE (unE (isiD .bl) (varE 0)) (binE eqD (varE 0) (varE 1)))) (passS)) (seqS (ifS (tstE (unE (isiD .int) (varE 1))) (retS (andE (unE (isiD .int) (varE 0)) (andE (notE (unE (isiD .bl) (varE 0))) (binE eqD (varE 0) (varE 1))))) (passS)) (seqS (ifS (tstE (unE (isiD .str) (varE 1))) (retS (andE (unE (isiD .str) (varE 0)) (binE eqD (varE 0) (varE 1)))) (passS)) (seqS (ifS (orB (notB (tstE (unE (isiD .tup) (varE 0)))) (tstE (binE neD (callE lenF (consA (varE 0) (nilA))) (callE lenF (consA (varE 1) (nilA)))))) (retS (cE (.bl false))) (passS)) (retS (callE allF (consA (lcE (callI zipF (consA (varE 0) (consA (varE 1) (nilA)))) (.tp [.nm 2, .nm 3]) (yesB) (callE rec (consA (varE 2) (consA (varE 3) (nilA)))) [2, 3]) (nilA))))))))
def R__law_same : Nat → FA
  | 0 => fun _ _ => .fail
  | k + 1 => runF 2 4 (B__law_same (R__law_same k))
def F__law_same : FA := R__law_same 20
def B_most_of : SvS := seqS (asgS (callE divmodF (consA (varE 1) (consA (callE sumF (consA (varE 0) (nilA))) (nilA)))) (tupT 2 (consT (nameT 2) (consT (nameT 3) (nilT))))) (seqS (asgS (binE mulD (varE 2) (callE lenF (consA (varE 0) (nilA)))) (nameT 4)) (seqS (forS (iterE (varE 0)) (tgT (.nm 5)) (seqS (ifS (tstE (binE gtD (varE 5) (varE 3))) (retS (varE 4)) (passS)) (parS 3 4 (consA (binE subD (varE 3) (varE 5)) (consA (binE addD (varE 4) (cE (.int 1))) (nilA)))))) (retS (varE 4))))
def F_most_of : FA := runF 2 6 B_most_of
def B_most_steps_by : SvS := retS (callE F_most_of (consA (callE F_sectors_from (consA (varE 0) (consA (varE 1) (nilA)))) (consA (varE 2) (nilA))))
def F_most_steps_by : FA := runF 3 3 B_most_steps_by
def B_most_steps : SvS := seqS (exprS (callE F_check_track (consA (varE 0) (nilA)))) (seqS (exprS (callE F_check_mat (consA (varE 0) (consA (varE 1) (nilA))))) (seqS (exprS (callE F_check_from_nought (consA (varE 2) (nilA)))) (retS (callE F_most_steps_by (consA (varE 0) (consA (varE 1) (consA (varE 2) (nilA))))))))
def F_most_steps : FA := runF 3 3 B_most_steps
def B__law_most_steps : SvS := seqS (asgS (binE fdivD (varE 2) (callE sumF (consA (varE 0) (nilA)))) (nameT 3)) (seqS (parS 4 5 (consA (binE mulD (varE 3) (callE lenF (consA (varE 0) (nilA)))) (consA (binE subD (varE 2) (binE mulD (varE 3) (callE sumF (consA (varE 0) (nilA))))) (nilA)))) (seqS (forS (callI range1F (consA (callE lenF (consA (varE 0) (nilA))) (nilA))) (tgT (.nm 6)) (seqS (asgS (binE subD (varE 5) (binE ixD (varE 0) (binE modD (callE intF (consA (binE addD (varE 1) (varE 6)) (nilA))) (callE lenF (consA (varE 0) (nilA)))))) (nameT 5)) (seqS (ifS (tstE (binE ltD (varE 5) (cE (.int 0)))) (retS (varE 4)) (passS)) (asgS (binE addD (varE 4) (cE (.int 1))) (nameT 4))))) (retS (varE 4))))
def F__law_most_steps : FA := runF 3 7 B__law_most_steps
def B_steps_by : SvS := retS (binE addD (binE modD (binE subD (binE subD (varE 2) (varE 1)) (cE (.int 1))) (callE lenF (consA (varE 0) (nilA)))) (cE (.int 1)))
def F_steps_by : FA := runF 3 3 B_steps_by
def B_way_by : SvS := retS (callE F_reach_by (consA (varE 0) (consA (varE 1) (consA (callE F_steps_by (consA (varE 0) (consA (varE 1) (consA (varE 2) (nilA))))) (nilA)))))
def F_way_by : FA := runF 3 3 B_way_by
def B_check_mats : SvS := seqS (exprS (callE F_check_track (consA (varE 0) (nilA)))) (seqS (exprS (callE F_check_mat (consA (varE 0) (consA (varE 1) (nilA))))) (exprS (callE F_check_mat (consA (varE 0) (consA (varE 2) (nilA))))))
def F_check_mats : FA := runF 3 3 B_check_mats
def B_steps : SvS := seqS (exprS (callE F_check_mats (consA (varE 0) (consA (varE 1) (consA (varE 2) (nilA)))))) (retS (callE F_steps_by (consA (varE 0) (consA (varE 1) (consA (varE 2) (nilA))))))
def F_steps : FA := runF 3 3 B_steps
def B_way : SvS := seqS (exprS (callE F_check_mats (consA (varE 0) (consA (varE 1) (consA (varE 2) (nilA)))))) (retS (callE F_way_by (consA (varE 0) (consA (varE 1) (consA (varE 2) (nilA))))))
def F_way : FA := runF 3 3 B_way
def B_track_without_by : SvS := seqS (asgS (binE addD (binE ixD (varE 0) (binE subD (varE 1) (cE (.int 1)))) (binE ixD (varE 0) (varE 1))) (nameT 2)) (seqS (ifS (tstE (binE eqD (varE 1) (cE (.int 0)))) (retS (binE addD (sliceE (varE 0) (someO (cE (.int 1))) (someO (unE negD (cE (.int 1))))) (tupE (consA (varE 2) (nilA))))) (passS)) (retS (binE addD (binE addD (sliceE (varE 0) (noO) (someO (binE subD (varE 1) (cE (.int 1))))) (tupE (consA (varE 2) (nilA)))) (sliceE (varE 0) (someO (binE addD (varE 1) (cE (.int 1)))) (noO)))))
def F_track_without_by : FA := runF 2 3 B_track_without_by
def B_track_turned_by : SvS := retS (callE tupleF (consA (callE F_sectors_from (consA (varE 0) (consA (binE modD (callE intF (consA (varE 1) (nilA))) (callE lenF (consA (varE 0) (nilA)))) (nilA)))) (nilA)))
def F_track_turned_by : FA := runF 2 2 B_track_turned_by
def B_track_backward_by : SvS := retS (revE (varE 0))
def F_track_backward_by : FA := runF 1 1 B_track_backward_by
def B_check_more : SvS := ifS (tstE (binE eqD (callE lenF (consA (varE 0) (nilA))) (cE (.int 1)))) (failS) (passS)
def F_check_more : FA := runF 1 1 B_check_more
def B_track_without : SvS := seqS (exprS (callE F_check_track (consA (varE 0) (nilA)))) (seqS (exprS (callE F_check_mat (consA (varE 0) (consA (varE 1) (nilA))))) (seqS (exprS (callE F_check_more (consA (varE 0) (nilA)))) (retS (callE F_track_without_by (consA (varE 0) (consA (varE 1) (nilA)))))))
def F_track_without : FA := runF 2 2 B_track_without
def B_track_turned : SvS := seqS (exprS (callE F_check_track (consA (varE 0) (nilA)))) (seqS (exprS (callE F_check_from_nought (consA (varE 1) (nilA)))) (retS (callE F_track_turned_by (consA (varE 0) (consA (varE 1) (nilA))))))
def F_track_turned : FA := runF 2 2 B_track_turned
def B_track_backward : SvS := seqS (exprS (callE F_check_track (consA (varE 0) (nilA)))) (retS (callE F_track_backward_by (consA (varE 0) (nilA))))
def F_track_backward : FA := runF 1 1 B_track_backward
def B_most_back_by : SvS := retS (callE F_most_of (consA (revE (callE F_sectors_from (consA (varE 0) (consA (varE 1) (nilA))))) (consA (varE 2) (nilA))))
def F_most_back_by : FA := runF 3 3 B_most_back_by
def B_can_follow_by : SvS := retS (binE geD (binE subD (binE ixD (varE 1) (cE (.int 0))) (binE ixD (varE 2) (cE (.int 0)))) (callE F_way_by (consA (varE 0) (consA (binE ixD (varE 2) (cE (.int 1))) (consA (binE ixD (varE 1) (cE (.int 1))) (nilA))))))
def F_can_follow_by : FA := runF 3 3 B_can_follow_by
def B_wrong_marks_by : SvS := retS (lcE (callI range2F (consA (cE (.int 1)) (consA (callE lenF (consA (varE 1) (nilA))) (nilA)))) (.nm 2) (notB (tstE (callE F_can_follow_by (consA (varE 0) (consA (binE ixD (varE 1) (varE 2)) (consA (binE ixD (varE 1) (binE subD (varE 2) (cE (.int 1)))) (nilA))))))) (varE 2) [2])
def F_wrong_marks_by : FA := runF 2 3 B_wrong_marks_by
def B_is_row_by : SvS := retS (binE eqD (callE F_wrong_marks_by (consA (varE 0) (consA (varE 1) (nilA)))) (lstE (nilA)))
def F_is_row_by : FA := runF 2 2 B_is_row_by
def B_is_tuple_of : SvS := retS (callE F_is_tuple_up_to (consA (varE 0) (consA (varE 1) (consA (varE 1) (nilA)))))
def F_is_tuple_of : FA := runF 2 2 B_is_tuple_of
def B_is_pair : SvS := retS (callE F_is_tuple_of (consA (varE 0) (consA (cE (.int 2)) (nilA))))
def F_is_pair : FA := runF 1 1 B_is_pair
def B_is_mark_of : SvS := retS (andE (callE F_is_pair (consA (varE 1) (nilA))) (andE (callE F_is_from (consA (binE ixD (varE 1) (cE (.int 0))) (consA (cE (.int 0)) (nilA)))) (callE F_is_mat_of (consA (varE 0) (consA (binE ixD (varE 1) (cE (.int 1))) (nilA))))))
def F_is_mark_of : FA := runF 2 2 B_is_mark_of
def B_wrong_in_bag : SvS := seqS (ifS (notB (tstE (callE F_is_tuple_up_to (consA (varE 1) (consA (cE (.int 0)) (consA (cE (.int 30)) (nilA))))))) (retS (lstE (consA (cE .non) (nilA)))) (passS)) (seqS (forS (callI enumF (consA (varE 1) (nilA))) (tgT (.tp [.nm 2, .nm 3])) (ifS (orB (notB (tstE (callE F_is_mark_of (consA (varE 0) (consA (varE 3) (nilA)))))) (andB (tstE (binE gtD (varE 2) (cE (.int 0)))) (tstE (binE leD (varE 3) (binE ixD (varE 1) (binE subD (varE 2) (cE (.int 1)))))))) (retS (lstE (consA (varE 2) (nilA)))) (passS))) (retS (lstE (nilA))))
def F_wrong_in_bag : FA := runF 2 4 B_wrong_in_bag
def B_is_bag_of : SvS := retS (binE eqD (callE F_wrong_in_bag (consA (varE 0) (consA (varE 1) (nilA)))) (lstE (nilA)))
def F_is_bag_of : FA := runF 2 2 B_is_bag_of
def B_is_full_row : SvS := retS (andE (callE F_is_bag_of (consA (varE 0) (consA (varE 2) (nilA)))) (callE F_is_row_by (consA (varE 0) (consA (tupE (consA (tupE (consA (varE 1) (consA (cE (.int 0)) (nilA)))) (starA (varE 2) (nilA)))) (nilA)))))
def F_is_full_row : FA := runF 3 3 B_is_full_row
def B_is_race_of : SvS := seqS (ifS (orB (notB (tstE (callE F_is_pair (consA (varE 1) (nilA))))) (orB (notB (tstE (callE F_is_from (consA (binE ixD (varE 1) (cE (.int 0))) (consA (cE (.int 0)) (nilA)))))) (notB (tstE (callE F_is_tuple_up_to (consA (binE ixD (varE 1) (cE (.int 1))) (consA (cE (.int 1)) (consA (cE (.int 6)) (nilA))))))))) (retS (cE (.bl false))) (passS)) (retS (callE allF (consA (lcE (iterE (binE ixD (varE 1) (cE (.int 1)))) (.nm 2) (yesB) (callE F_is_full_row (consA (varE 0) (consA (binE ixD (varE 1) (cE (.int 0))) (consA (varE 2) (nilA))))) [2]) (nilA))))
def F_is_race_of : FA := runF 2 3 B_is_race_of
def B_is_runner_of : SvS := retS (callE F_is_up_to (consA (varE 1) (consA (binE subD (callE lenF (consA (binE ixD (varE 0) (cE (.int 1))) (nilA))) (cE (.int 1))) (nilA))))
def F_is_runner_of : FA := runF 2 2 B_is_runner_of
def B_is_time_of : SvS := retS (callE F_is_from (consA (varE 1) (consA (binE ixD (varE 0) (cE (.int 0))) (nilA))))
def F_is_time_of : FA := runF 2 2 B_is_time_of
def B_check_race : SvS := ifS (notB (tstE (callE F_is_race_of (consA (varE 0) (consA (varE 1) (nilA)))))) (failS) (passS)
def F_check_race : FA := runF 2 2 B_check_race
def B_check_runner : SvS := ifS (notB (tstE (callE F_is_runner_of (consA (varE 0) (consA (varE 1) (nilA)))))) (failS) (passS)
def F_check_runner : FA := runF 2 2 B_check_runner
def B_check_time : SvS := ifS (notB (tstE (callE F_is_time_of (consA (varE 0) (consA (varE 1) (nilA)))))) (failS) (passS)
def F_check_time : FA := runF 2 2 B_check_time
def B_extra_by : SvS := retS (binE fdivD (binE subD (binE subD (binE ixD (varE 2) (cE (.int 0))) (binE ixD (varE 1) (cE (.int 0)))) (callE F_way_by (consA (varE 0) (consA (binE ixD (varE 1) (cE (.int 1))) (consA (binE ixD (varE 2) (cE (.int 1))) (nilA)))))) (callE F_round_by (consA (varE 0) (nilA))))
def F_extra_by : FA := runF 3 3 B_extra_by
def B_extras_by : SvS := retS (lcE (callI zipF (consA (varE 1) (consA (sliceE (varE 1) (someO (cE (.int 1))) (noO)) (nilA)))) (.tp [.nm 2, .nm 3]) (yesB) (callE F_extra_by (consA (varE 0) (consA (varE 2) (consA (varE 3) (nilA))))) [2, 3])
def F_extras_by : FA := runF 2 4 B_extras_by
def B_full_row_by : SvS := retS (tupE (consA (tupE (consA (binE ixD (varE 0) (cE (.int 0))) (consA (cE (.int 0)) (nilA)))) (starA (binE ixD (binE ixD (varE 0) (cE (.int 1))) (varE 1)) (nilA))))
def F_full_row_by : FA := runF 2 2 B_full_row_by
def B_last_up_to : SvS := retS (callE maxF (consA (lcE (callI enumF (consA (varE 0) (nilA))) (.tp [.nm 2, .nm 3]) (tstE (binE leD (binE ixD (varE 3) (cE (.int 0))) (varE 1))) (varE 2) [2, 3]) (nilA)))
def F_last_up_to : FA := runF 2 4 B_last_up_to
def B_crossing_of : SvS := retS (binE addD (cE (.int 1)) (callE sumF (consA (lcE (callI zipF (consA (varE 1) (consA (sliceE (varE 1) (someO (cE (.int 1))) (someO (binE addD (varE 2) (cE (.int 1))))) (nilA)))) (.tp [.nm 3, .nm 4]) (yesB) (callE F_steps_by (consA (varE 0) (consA (binE ixD (varE 3) (cE (.int 1))) (consA (binE ixD (varE 4) (cE (.int 1))) (nilA))))) [3, 4]) (nilA))))
def F_crossing_of : FA := runF 3 5 B_crossing_of
def B_extras_ahead : SvS := retS (callE sumF (consA (callE F_extras_by (consA (varE 0) (consA (sliceE (varE 1) (noO) (someO (binE addD (varE 2) (cE (.int 1))))) (nilA)))) (nilA)))
def F_extras_ahead : FA := runF 3 3 B_extras_ahead
def B_steps_in_gap : SvS := seqS (asgS (callE F_steps_by (consA (varE 0) (consA (binE ixD (varE 1) (cE (.int 1))) (consA (binE ixD (varE 2) (cE (.int 1))) (nilA))))) (nameT 3)) (retS (tupE (consA (varE 3) (consA (binE addD (varE 3) (binE mulD (callE lenF (consA (varE 0) (nilA))) (callE F_extra_by (consA (varE 0) (consA (varE 1) (consA (varE 2) (nilA))))))) (nilA)))))
def F_steps_in_gap : FA := runF 3 4 B_steps_in_gap
def B_least_behind : SvS := seqS (ifS (tstE (binE eqD (varE 2) (binE subD (callE lenF (consA (varE 1) (nilA))) (cE (.int 1))))) (retS (cE (.int 0))) (passS)) (seqS (asgS (binE ixD (varE 1) (binE addD (varE 2) (cE (.int 1)))) (nameT 4)) (seqS (asgS (binE addD (cE (.int 1)) (callE F_most_back_by (consA (varE 0) (consA (binE ixD (varE 4) (cE (.int 1))) (consA (binE subD (binE subD (binE ixD (varE 4) (cE (.int 0))) (varE 3)) (cE (.int 1))) (nilA)))))) (nameT 5)) (retS (callE maxF (consA (cE (.int 0)) (consA (binE subD (callE F_steps_by (consA (varE 0) (consA (binE ixD (binE ixD (varE 1) (varE 2)) (cE (.int 1))) (consA (binE ixD (varE 4) (cE (.int 1))) (nilA))))) (varE 5)) (nilA)))))))
def F_least_behind : FA := runF 4 6 B_least_behind
def B_greatest_behind : SvS := seqS (asgS (binE ixD (varE 1) (varE 2)) (nameT 4)) (seqS (asgS (callE F_most_steps_by (consA (varE 0) (consA (binE ixD (varE 4) (cE (.int 1))) (consA (binE subD (varE 3) (binE ixD (varE 4) (cE (.int 0)))) (nilA))))) (nameT 5)) (seqS (ifS (tstE (binE eqD (varE 2) (binE subD (callE lenF (consA (varE 1) (nilA))) (cE (.int 1))))) (retS (varE 5)) (passS)) (retS (callE minF (consA (varE 5) (consA (binE subD (binE ixD (callE F_steps_in_gap (consA (varE 0) (consA (varE 4) (consA (binE ixD (varE 1) (binE addD (varE 2) (cE (.int 1)))) (nilA))))) (cE (.int 1))) (cE (.int 1))) (nilA)))))))
def F_greatest_behind : FA := runF 4 6 B_greatest_behind
def B_span_by : SvS := seqS (asgS (callE F_full_row_by (consA (varE 1) (consA (varE 2) (nilA)))) (nameT 4)) (seqS (asgS (callE F_last_up_to (consA (varE 4) (consA (varE 3) (nilA)))) (nameT 5)) (seqS (asgS (callE F_crossing_of (consA (varE 0) (consA (varE 4) (consA (varE 5) (nilA))))) (nameT 6)) (seqS (asgS (binE addD (varE 6) (binE mulD (callE lenF (consA (varE 0) (nilA))) (callE F_extras_ahead (consA (varE 0) (consA (varE 4) (consA (varE 5) (nilA))))))) (nameT 7)) (retS (tupE (consA (binE addD (varE 6) (callE F_least_behind (consA (varE 0) (consA (varE 4) (consA (varE 5) (consA (varE 3) (nilA))))))) (consA (binE addD (varE 7) (callE F_greatest_behind (consA (varE 0) (consA (varE 4) (consA (varE 5) (consA (varE 3) (nilA))))))) (nilA))))))))
def F_span_by : FA := runF 4 8 B_span_by
def B_check_raced : SvS := seqS (exprS (callE F_check_track (consA (varE 0) (nilA)))) (seqS (exprS (callE F_check_race (consA (varE 0) (consA (varE 1) (nilA))))) (exprS (callE F_check_runner (consA (varE 1) (consA (varE 2) (nilA))))))
def F_check_raced : FA := runF 3 3 B_check_raced
def B_span : SvS := seqS (exprS (callE F_check_raced (consA (varE 0) (consA (varE 1) (consA (varE 2) (nilA)))))) (seqS (exprS (callE F_check_time (consA (varE 1) (consA (varE 3) (nilA))))) (retS (callE F_span_by (consA (varE 0) (consA (varE 1) (consA (varE 2) (consA (varE 3) (nilA))))))))
def F_span : FA := runF 4 4 B_span
def B_spans : SvS := seqS (exprS (callE F_check_track (consA (varE 0) (nilA)))) (seqS (exprS (callE F_check_race (consA (varE 0) (consA (varE 1) (nilA))))) (seqS (exprS (callE F_check_time (consA (varE 1) (consA (varE 2) (nilA))))) (retS (callE tupleF (consA (lcE (callI range1F (consA (callE lenF (consA (binE ixD (varE 1) (cE (.int 1))) (nilA))) (nilA))) (.nm 3) (yesB) (callE F_span_by (consA (varE 0) (consA (varE 1) (consA (varE 3) (consA (varE 2) (nilA)))))) [3]) (nilA))))))
def F_spans : FA := runF 3 4 B_spans
def B__law_steps : SvS := retS (binE addD (binE modD (callE intF (consA (binE subD (binE subD (varE 2) (varE 1)) (cE (.int 1))) (nilA))) (callE lenF (consA (varE 0) (nilA)))) (cE (.int 1)))
def F__law_steps : FA := runF 3 3 B__law_steps
def B__law_reach_v2 : SvS := seqS (asgS (callE lenF (consA (varE 0) (nilA))) (nameT 3)) (seqS (asgS (binE modD (callE intF (consA (varE 2) (nilA))) (varE 3)) (nameT 4)) (retS (binE addD (binE mulD (binE fdivD (varE 2) (varE 3)) (callE sumF (consA (varE 0) (nilA)))) (callE sumF (consA (lcE (callI range1F (consA (varE 4) (nilA))) (.nm 5) (yesB) (binE ixD (varE 0) (binE modD (callE intF (consA (binE addD (varE 1) (varE 5)) (nilA))) (varE 3))) [5]) (nilA))))))
def F__law_reach_v2 : FA := runF 3 6 B__law_reach_v2
def B__law_extra : SvS := retS (binE fdivD (binE subD (binE subD (binE ixD (varE 2) (cE (.int 0))) (binE ixD (varE 1) (cE (.int 0)))) (callE F__law_reach_v2 (consA (varE 0) (consA (binE ixD (varE 1) (cE (.int 1))) (consA (callE F__law_steps (consA (varE 0) (consA (binE ixD (varE 1) (cE (.int 1))) (consA (binE ixD (varE 2) (cE (.int 1))) (nilA))))) (nilA)))))) (callE sumF (consA (varE 0) (nilA))))
def F__law_extra : FA := runF 3 3 B__law_extra
def B__law_place : SvS := seqS (asgS (binE addD (tupE (consA (tupE (consA (binE ixD (varE 1) (cE (.int 0))) (consA (cE (.int 0)) (nilA)))) (nilA))) (binE ixD (binE ixD (varE 1) (cE (.int 1))) (varE 2))) (nameT 4)) (seqS (asgS (tupE (consA (cE (.int 1)) (consA (cE (.int 0)) (consA (cE (.int 0)) (nilA))))) (tupT 3 (consT (nameT 5) (consT (nameT 6) (consT (nameT 7) (nilT)))))) (seqS (whileF (andB (tstE (binE ltD (binE addD (varE 7) (cE (.int 1))) (callE lenF (consA (varE 4) (nilA))))) (tstE (binE leD (binE ixD (binE ixD (varE 4) (binE addD (varE 7) (cE (.int 1)))) (cE (.int 0))) (varE 3)))) (seqS (parS 5 6 (consA (binE addD (varE 5) (callE F__law_steps (consA (varE 0) (consA (binE ixD (binE ixD (varE 4) (varE 7)) (cE (.int 1))) (consA (binE ixD (binE ixD (varE 4) (binE addD (varE 7) (cE (.int 1)))) (cE (.int 1))) (nilA)))))) (consA (binE addD (varE 6) (callE F__law_extra (consA (varE 0) (consA (binE ixD (varE 4) (varE 7)) (consA (binE ixD (varE 4) (binE addD (varE 7) (cE (.int 1)))) (nilA)))))) (nilA)))) (asgS (binE addD (varE 7) (cE (.int 1))) (nameT 7))) whileMost) (retS (tupE (consA (binE ixD (varE 4) (varE 7)) (consA (varE 5) (consA (varE 6) (consA (ifE (tstE (binE ltD (binE addD (varE 7) (cE (.int 1))) (callE lenF (consA (varE 4) (nilA))))) (binE ixD (varE 4) (binE addD (varE 7) (cE (.int 1)))) (cE .non)) (nilA)))))))))
def F__law_place : FA := runF 4 8 B__law_place
def B__law_most : SvS := seqS (parS 3 4 (consA (binE mulD (binE fdivD (varE 2) (callE sumF (consA (varE 0) (nilA)))) (callE lenF (consA (varE 0) (nilA)))) (consA (binE mulD (binE fdivD (varE 2) (callE sumF (consA (varE 0) (nilA)))) (callE sumF (consA (varE 0) (nilA)))) (nilA)))) (seqS (asgS (varE 1) (nameT 5)) (seqS (forS (callI range1F (consA (callE lenF (consA (varE 0) (nilA))) (nilA))) (tgT (.nm 6)) (ifS (tstE (binE leD (binE addD (varE 4) (binE ixD (varE 0) (varE 5))) (varE 2))) (parS3 3 4 5 (consA (binE addD (varE 3) (cE (.int 1))) (consA (binE addD (varE 4) (binE ixD (varE 0) (varE 5))) (consA (binE modD (callE intF (consA (binE addD (varE 5) (cE (.int 1))) (nilA))) (callE lenF (consA (varE 0) (nilA)))) (nilA))))) (brkS))) (retS (varE 3))))
def F__law_most : FA := runF 3 7 B__law_most
def B__law_is_left : SvS := seqS (asgS (callE lenF (consA (varE 0) (nilA))) (nameT 5)) (seqS (asgS (binE modD (callE intF (consA (binE subD (binE subD (callE F__law_steps (consA (varE 0) (consA (binE ixD (varE 1) (cE (.int 1))) (consA (binE ixD (varE 2) (cE (.int 1))) (nilA))))) (cE (.int 1))) (varE 4)) (nilA))) (varE 5)) (nameT 6)) (retS (binE ltD (callE F__law_reach_v2 (consA (varE 0) (consA (binE modD (callE intF (consA (binE addD (binE addD (binE ixD (varE 1) (cE (.int 1))) (varE 4)) (cE (.int 1))) (nilA))) (varE 5)) (consA (varE 6) (nilA))))) (binE subD (binE ixD (varE 2) (cE (.int 0))) (varE 3)))))
def F__law_is_left : FA := runF 5 7 B__law_is_left
def B__law_span : SvS := seqS (asgS (callE F__law_place (consA (varE 0) (consA (varE 1) (consA (varE 2) (consA (varE 3) (nilA)))))) (tupT 4 (consT (nameT 4) (consT (nameT 5) (consT (nameT 6) (consT (nameT 7) (nilT))))))) (seqS (asgS (tupE (consA (callE lenF (consA (varE 0) (nilA))) (consA (callE F__law_most (consA (varE 0) (consA (binE ixD (varE 4) (cE (.int 1))) (consA (binE subD (varE 3) (binE ixD (varE 4) (cE (.int 0)))) (nilA))))) (nilA)))) (tupT 2 (consT (nameT 8) (consT (nameT 9) (nilT))))) (seqS (ifS (tstE (binE isND (varE 7) (cE .non))) (retS (tupE (consA (varE 5) (consA (binE addD (binE addD (varE 5) (binE mulD (varE 8) (varE 6))) (varE 9)) (nilA))))) (passS)) (seqS (asgS (callE F__law_steps (consA (varE 0) (consA (binE ixD (varE 4) (cE (.int 1))) (consA (binE ixD (varE 7) (cE (.int 1))) (nilA))))) (nameT 10)) (seqS (asgS (binE ixD (lcE (callI range1F (consA (callE minF (consA (varE 10) (consA (binE addD (varE 9) (cE (.int 1))) (nilA)))) (nilA))) (.nm 13) (tstE (callE F__law_is_left (consA (varE 0) (consA (varE 4) (consA (varE 7) (consA (varE 3) (consA (varE 13) (nilA)))))))) (varE 13) [13]) (cE (.int 0))) (nameT 11)) (seqS (asgS (callE minF (consA (varE 9) (consA (binE subD (binE addD (varE 10) (binE mulD (varE 8) (callE F__law_extra (consA (varE 0) (consA (varE 4) (consA (varE 7) (nilA))))))) (cE (.int 1))) (nilA)))) (nameT 9)) (seqS (asgS (binE ixD (lcE (callI range1F (consA (callE minF (consA (varE 8) (consA (binE addD (varE 9) (cE (.int 1))) (nilA)))) (nilA))) (.nm 13) (tstE (callE F__law_is_left (consA (varE 0) (consA (varE 4) (consA (varE 7) (consA (varE 3) (consA (binE modD (callE intF (consA (binE subD (varE 9) (varE 13)) (nilA))) (varE 8)) (nilA)))))))) (binE subD (varE 9) (varE 13)) [13]) (cE (.int 0))) (nameT 12)) (retS (tupE (consA (binE addD (varE 5) (varE 11)) (consA (binE addD (binE addD (varE 5) (binE mulD (varE 8) (varE 6))) (varE 12)) (nilA)))))))))))
def F__law_span : FA := runF 4 14 B__law_span
def B_check_other_runner : SvS := ifS (orB (notB (tstE (callE F_is_runner_of (consA (varE 0) (consA (varE 1) (nilA)))))) (tstE (binE eqD (varE 1) (varE 2)))) (failS) (passS)
def F_check_other_runner : FA := runF 3 3 B_check_other_runner
def B_is_ahead_by : SvS := retS (binE gtD (binE ixD (callE F_span_by (consA (varE 0) (consA (varE 1) (consA (varE 2) (consA (varE 4) (nilA)))))) (cE (.int 0))) (binE ixD (callE F_span_by (consA (varE 0) (consA (varE 1) (consA (varE 3) (consA (varE 4) (nilA)))))) (cE (.int 1))))
def F_is_ahead_by : FA := runF 5 5 B_is_ahead_by
def B_is_surely_ahead : SvS := seqS (exprS (callE F_check_raced (consA (varE 0) (consA (varE 1) (consA (varE 2) (nilA)))))) (seqS (exprS (callE F_check_other_runner (consA (varE 1) (consA (varE 3) (consA (varE 2) (nilA)))))) (seqS (exprS (callE F_check_time (consA (varE 1) (consA (varE 4) (nilA))))) (retS (callE F_is_ahead_by (consA (varE 0) (consA (varE 1) (consA (varE 2) (consA (varE 3) (consA (varE 4) (nilA))))))))))
def F_is_surely_ahead : FA := runF 5 5 B_is_surely_ahead
def B__law_comes : SvS := seqS (asgS (callE F__law_place (consA (varE 0) (consA (varE 1) (consA (varE 2) (consA (varE 3) (nilA)))))) (tupT 4 (consT (nameT 5) (consT (nameT 6) (consT (nameT 7) (consT (nameT 8) (nilT))))))) (seqS (parS 9 10 (consA (callE lenF (consA (varE 0) (nilA))) (consA (callE F__law_most (consA (varE 0) (consA (binE ixD (varE 5) (cE (.int 1))) (consA (binE subD (varE 3) (binE ixD (varE 5) (cE (.int 0)))) (nilA))))) (nilA)))) (seqS (asgS (binE subD (varE 4) (varE 6)) (nameT 11)) (seqS (ifS (tstE (binE ltD (varE 11) (cE (.int 0)))) (retS (cE (.bl false))) (passS)) (seqS (ifS (tstE (binE notND (varE 8) (cE .non))) (seqS (asgS (callE minF (consA (varE 10) (consA (binE subD (binE addD (callE F__law_steps (consA (varE 0) (consA (binE ixD (varE 5) (cE (.int 1))) (consA (binE ixD (varE 8) (cE (.int 1))) (nilA))))) (binE mulD (varE 9) (callE F__law_extra (consA (varE 0) (consA (varE 5) (consA (varE 8) (nilA))))))) (cE (.int 1))) (nilA)))) (nameT 10)) (ifS (notB (tstE (callE F__law_is_left (consA (varE 0) (consA (varE 5) (consA (varE 8) (consA (varE 3) (consA (binE modD (callE intF (consA (varE 11) (nilA))) (varE 9)) (nilA))))))))) (retS (cE (.bl false))) (passS))) (passS)) (retS (binE leD (binE subD (varE 11) (binE mulD (varE 9) (callE minF (consA (varE 7) (consA (binE fdivD (varE 11) (varE 9)) (nilA)))))) (varE 10)))))))
def F__law_comes : FA := runF 5 12 B__law_comes
def B_are_apart : SvS := retS (andE (notE (callE F_can_follow_by (consA (varE 0) (consA (varE 1) (consA (varE 2) (nilA)))))) (notE (callE F_can_follow_by (consA (varE 0) (consA (varE 2) (consA (varE 1) (nilA)))))))
def F_are_apart : FA := runF 3 3 B_are_apart
def B_is_crowd_by : SvS := retS (callE allF (consA (lc2E (callI enumF (consA (varE 1) (nilA))) (.tp [.nm 2, .nm 3]) (yesB) (iterE (sliceE (varE 1) (noO) (someO (varE 2)))) (.nm 4) (yesB) (callE F_are_apart (consA (varE 0) (consA (varE 3) (consA (varE 4) (nilA))))) [2, 3, 4] [4]) (nilA)))
def F_is_crowd_by : FA := runF 2 5 B_is_crowd_by
def B_check_bag : SvS := forS (iterE (callE F_wrong_in_bag (consA (varE 0) (consA (varE 1) (nilA))))) (tgT (.nm 2)) (failS)
def F_check_bag : FA := runF 2 3 B_check_bag
def B_check_tracked : SvS := seqS (exprS (callE F_check_track (consA (varE 0) (nilA)))) (exprS (callE F_check_bag (consA (varE 0) (consA (varE 1) (nilA)))))
def F_check_tracked : FA := runF 2 2 B_check_tracked
def B_is_row : SvS := seqS (exprS (callE F_check_tracked (consA (varE 0) (consA (varE 1) (nilA))))) (retS (callE F_is_row_by (consA (varE 0) (consA (varE 1) (nilA)))))
def F_is_row : FA := runF 2 2 B_is_row
def B_is_crowd : SvS := seqS (exprS (callE F_check_tracked (consA (varE 0) (consA (varE 1) (nilA))))) (retS (callE F_is_crowd_by (consA (varE 0) (consA (varE 1) (nilA)))))
def F_is_crowd : FA := runF 2 2 B_is_crowd
def B__law_steps_v2 : SvS := retS (binE addD (cE (.int 1)) (binE modD (callE intF (consA (binE subD (binE subD (varE 2) (varE 1)) (cE (.int 1))) (nilA))) (callE lenF (consA (varE 0) (nilA)))))
def F__law_steps_v2 : FA := runF 3 3 B__law_steps_v2
def B__law_way : SvS := retS (callE F__law_reach (consA (varE 0) (consA (varE 1) (consA (callE F__law_steps_v2 (consA (varE 0) (consA (varE 1) (consA (varE 2) (nilA))))) (nilA)))))
def F__law_way : FA := runF 3 3 B__law_way
def B__law_can_follow : SvS := retS (binE geD (binE subD (binE ixD (varE 1) (cE (.int 0))) (binE ixD (varE 2) (cE (.int 0)))) (callE F__law_way (consA (varE 0) (consA (binE ixD (varE 2) (cE (.int 1))) (consA (binE ixD (varE 1) (cE (.int 1))) (nilA))))))
def F__law_can_follow : FA := runF 3 3 B__law_can_follow
def B__law_is_crowd : SvS := retS (notE (callE anyF (consA (lcE (iterE (varE 1)) (.nm 2) (yesB) (callE anyF (consA (lcE (iterE (varE 1)) (.nm 3) (yesB) (callE F__law_can_follow (consA (varE 0) (consA (varE 2) (consA (varE 3) (nilA))))) [3]) (nilA))) [2]) (nilA))))
def F__law_is_crowd : FA := runF 2 4 B__law_is_crowd
def B_is_mark : SvS := seqS (exprS (callE F_check_track (consA (varE 0) (nilA)))) (retS (callE F_is_mark_of (consA (varE 0) (consA (varE 1) (nilA)))))
def F_is_mark : FA := runF 2 2 B_is_mark
def B_is_bag : SvS := seqS (exprS (callE F_check_track (consA (varE 0) (nilA)))) (retS (callE F_is_bag_of (consA (varE 0) (consA (varE 1) (nilA)))))
def F_is_bag : FA := runF 2 2 B_is_bag
def B_is_track : SvS := retS (callE F_is_track_of (consA (varE 0) (nilA)))
def F_is_track : FA := runF 1 1 B_is_track
def B__law_is_whole : SvS := retS (andE (unE (isiD .int) (varE 0)) (andE (notE (unE (isiD .bl) (varE 0))) (binE geD (varE 0) (varE 1))))
def F__law_is_whole : FA := runF 2 2 B__law_is_whole
def B__law_is_track : SvS := retS (andE (unE (isiD .tup) (varE 0)) (andE (chainE ltD ltD (cE (.int 0)) (callE lenF (consA (varE 0) (nilA))) (cE (.int 9))) (callE allF (consA (lcE (iterE (varE 0)) (.nm 1) (yesB) (callE F__law_is_whole (consA (varE 1) (consA (cE (.int 1)) (nilA)))) [1]) (nilA)))))
def F__law_is_track : FA := runF 1 2 B__law_is_track
def B__law_is_mat : SvS := retS (andE (callE F__law_is_whole (consA (varE 1) (consA (cE (.int 0)) (nilA)))) (binE ltD (varE 1) (callE lenF (consA (varE 0) (nilA)))))
def F__law_is_mat : FA := runF 2 2 B__law_is_mat
def B__law_is_mark : SvS := retS (andE (unE (isiD .tup) (varE 1)) (andE (binE eqD (callE lenF (consA (varE 1) (nilA))) (cE (.int 2))) (andE (callE F__law_is_whole (consA (binE ixD (varE 1) (cE (.int 0))) (consA (cE (.int 0)) (nilA)))) (callE F__law_is_mat (consA (varE 0) (consA (binE ixD (varE 1) (cE (.int 1))) (nilA)))))))
def F__law_is_mark : FA := runF 2 2 B__law_is_mark
def B__law_wrong_bag : SvS := seqS (ifS (orB (notB (tstE (unE (isiD .tup) (varE 1)))) (tstE (binE gtD (callE lenF (consA (varE 1) (nilA))) (cE (.int 30))))) (retS (lstE (consA (cE .non) (nilA)))) (passS)) (seqS (forS (callI enumF (consA (varE 1) (nilA))) (tgT (.tp [.nm 2, .nm 3])) (ifS (orB (notB (tstE (callE F__law_is_mark (consA (varE 0) (consA (varE 3) (nilA)))))) (andB (tstE (binE gtD (varE 2) (cE (.int 0)))) (tstE (binE leD (varE 3) (binE ixD (varE 1) (binE subD (varE 2) (cE (.int 1)))))))) (retS (lstE (consA (varE 2) (nilA)))) (passS))) (retS (lstE (nilA))))
def F__law_wrong_bag : FA := runF 2 4 B__law_wrong_bag
def B__law_bent_marks : SvS := seqS (asgS (varE 1) (tupT 2 (consT (nameT 2) (consT (nameT 3) (nilT))))) (seqS (asgS (callE lenF (consA (varE 0) (nilA))) (nameT 4)) (seqS (asgS (lstE (consA (varE 1) (consA (callE listF (consA (varE 1) (nilA))) (consA (tupE (consA (varE 2) (nilA))) (consA (tupE (consA (varE 2) (consA (varE 3) (consA (cE (.int 0)) (nilA))))) (consA (cE .non) (consA (tupE (nilA)) (consA (cE (.int 5)) (consA (dicE) (consA (tupE (consA (varE 3) (nilA))) (consA (tupE (consA (varE 1) (nilA))) (consA (cE (.str "0@0")) (nilA))))))))))))) (nameT 5)) (retS (binE addD (varE 5) (lstE (consA (tupE (consA (varE 2) (consA (varE 4) (nilA)))) (consA (tupE (consA (varE 2) (consA (unE negD (cE (.int 1))) (nilA)))) (consA (tupE (consA (unE negD (cE (.int 1))) (consA (varE 3) (nilA)))) (consA (tupE (consA (varE 2) (consA (cE (.bl true)) (nilA)))) (consA (tupE (consA (cE (.bl true)) (consA (varE 3) (nilA)))) (consA (tupE (consA (varE 2) (consA (cE .non) (nilA)))) (consA (tupE (consA (cE .non) (consA (varE 3) (nilA)))) (consA (tupE (consA (varE 2) (consA (cE (.str "0")) (nilA)))) (consA (tupE (consA (cE (.str "0")) (consA (varE 3) (nilA)))) (consA (tupE (consA (cE (.int 0)) (consA (cE (.int 0)) (nilA)))) (consA (tupE (consA (binE powD (cE (.int 10)) (cE (.int 29))) (consA (varE 3) (nilA)))) (nilA)))))))))))))))))
def F__law_bent_marks : FA := runF 2 6 B__law_bent_marks
def B_check_fit_row : SvS := ifS (notB (tstE (callE F_is_row_by (consA (varE 0) (consA (varE 1) (nilA)))))) (failS) (passS)
def F_check_fit_row : FA := runF 2 2 B_check_fit_row
def B_wrong_in_extras : SvS := seqS (asgS (callE F_extras_by (consA (varE 0) (consA (varE 1) (nilA)))) (nameT 3)) (seqS (ifS (notB (tstE (callE F_is_tuple_of (consA (varE 2) (consA (callE lenF (consA (varE 3) (nilA))) (nilA)))))) (retS (lstE (consA (cE .non) (nilA)))) (passS)) (retS (sliceE (lcE (callI enumF (consA (varE 2) (nilA))) (.tp [.nm 4, .nm 5]) (notB (tstE (callE F_is_up_to (consA (varE 5) (consA (binE ixD (varE 3) (varE 4)) (nilA)))))) (varE 4) [4, 5]) (noO) (someO (cE (.int 1))))))
def F_wrong_in_extras : FA := runF 3 6 B_wrong_in_extras
def B_check_marks : SvS := seqS (exprS (callE F_check_track (consA (varE 0) (nilA)))) (exprS (callE F_check_bag (consA (varE 0) (consA (varE 1) (nilA)))))
def F_check_marks : FA := runF 2 2 B_check_marks
def B_most_extra : SvS := seqS (exprS (callE F_check_marks (consA (varE 0) (consA (varE 1) (nilA))))) (seqS (ifS (notB (tstE (callE F_is_up_to (consA (varE 2) (consA (binE subD (callE lenF (consA (varE 1) (nilA))) (cE (.int 2))) (nilA)))))) (failS) (passS)) (seqS (exprS (callE F_check_fit_row (consA (varE 0) (consA (varE 1) (nilA))))) (retS (callE F_extra_by (consA (varE 0) (consA (binE ixD (varE 1) (varE 2)) (consA (binE ixD (varE 1) (binE addD (varE 2) (cE (.int 1)))) (nilA))))))))
def F_most_extra : FA := runF 3 3 B_most_extra
def B_all_most : SvS := seqS (exprS (callE F_check_marks (consA (varE 0) (consA (varE 1) (nilA))))) (seqS (exprS (callE F_check_fit_row (consA (varE 0) (consA (varE 1) (nilA))))) (retS (callE tupleF (consA (callE F_extras_by (consA (varE 0) (consA (varE 1) (nilA)))) (nilA)))))
def F_all_most : FA := runF 2 2 B_all_most
def B_do_fit : SvS := seqS (exprS (callE F_check_marks (consA (varE 0) (consA (varE 1) (nilA))))) (seqS (exprS (callE F_check_fit_row (consA (varE 0) (consA (varE 1) (nilA))))) (retS (binE eqD (callE F_wrong_in_extras (consA (varE 0) (consA (varE 1) (consA (varE 2) (nilA))))) (lstE (nilA)))))
def F_do_fit : FA := runF 3 3 B_do_fit
def B__law_most_v2 : SvS := retS (binE fdivD (binE subD (binE subD (binE ixD (varE 2) (cE (.int 0))) (binE ixD (varE 1) (cE (.int 0)))) (callE F__law_way (consA (varE 0) (consA (binE ixD (varE 1) (cE (.int 1))) (consA (binE ixD (varE 2) (cE (.int 1))) (nilA)))))) (callE sumF (consA (varE 0) (nilA))))
def F__law_most_v2 : FA := runF 3 3 B__law_most_v2
def B__law_all_most : SvS := retS (callE tupleF (consA (lcE (callI zipF (consA (varE 1) (consA (sliceE (varE 1) (someO (cE (.int 1))) (noO)) (nilA)))) (.tp [.nm 2, .nm 3]) (yesB) (callE F__law_most_v2 (consA (varE 0) (consA (varE 2) (consA (varE 3) (nilA))))) [2, 3]) (nilA)))
def F__law_all_most : FA := runF 2 4 B__law_all_most
def B__law_do_fit : SvS := seqS (ifS (orB (notB (tstE (unE (isiD .tup) (varE 2)))) (tstE (binE neD (callE lenF (consA (varE 2) (nilA))) (callE maxF (consA (cE (.int 0)) (consA (binE subD (callE lenF (consA (varE 1) (nilA))) (cE (.int 1))) (nilA))))))) (retS (cE (.bl false))) (passS)) (retS (callE allF (consA (lcE (callI zipF (consA (varE 2) (consA (callE F__law_all_most (consA (varE 0) (consA (varE 1) (nilA)))) (nilA)))) (.tp [.nm 3, .nm 4]) (yesB) (andE (unE (isiD .int) (varE 3)) (andE (notE (unE (isiD .bl) (varE 3))) (chainE leD leD (cE (.int 0)) (varE 3) (varE 4)))) [3, 4]) (nilA))))
def F__law_do_fit : FA := runF 3 5 B__law_do_fit
def B_others_of : SvS := retS (lcE (callI range1F (consA (callE lenF (consA (binE ixD (varE 0) (cE (.int 1))) (nilA))) (nilA))) (.nm 2) (tstE (binE neD (varE 2) (varE 1))) (varE 2) [2])
def F_others_of : FA := runF 2 3 B_others_of
def B_place_span_by : SvS := seqS (asgS (callE F_span_by (consA (varE 0) (consA (varE 1) (consA (varE 2) (consA (varE 3) (nilA)))))) (tupT 2 (consT (nameT 4) (consT (nameT 5) (nilT))))) (seqS (asgS (lcE (iterE (callE F_others_of (consA (varE 1) (consA (varE 2) (nilA))))) (.nm 8) (yesB) (callE F_span_by (consA (varE 0) (consA (varE 1) (consA (varE 8) (consA (varE 3) (nilA)))))) [8]) (nameT 6)) (seqS (asgS (binE addD (cE (.int 1)) (callE lenF (consA (lcE (iterE (varE 6)) (.tp [.nm 9, .nm 10]) (tstE (binE gtD (varE 9) (varE 5))) (varE 9) [9, 10]) (nilA)))) (nameT 7)) (retS (tupE (consA (varE 7) (consA (binE addD (cE (.int 1)) (callE lenF (consA (lcE (iterE (varE 6)) (.tp [.nm 9, .nm 10]) (tstE (binE gtD (varE 10) (varE 4))) (varE 10) [9, 10]) (nilA)))) (nilA)))))))
def F_place_span_by : FA := runF 4 11 B_place_span_by
def B_leaders_by : SvS := retS (lcE (callI range1F (consA (callE lenF (consA (binE ixD (varE 1) (cE (.int 1))) (nilA))) (nilA))) (.nm 3) (tstE (binE eqD (binE ixD (callE F_place_span_by (consA (varE 0) (consA (varE 1) (consA (varE 3) (consA (varE 2) (nilA)))))) (cE (.int 0))) (cE (.int 1)))) (varE 3) [3])
def F_leaders_by : FA := runF 3 4 B_leaders_by
def B_ahead_of : SvS := seqS (exprS (callE F_check_raced (consA (varE 0) (consA (varE 1) (consA (varE 2) (nilA)))))) (seqS (exprS (callE F_check_time (consA (varE 1) (consA (varE 3) (nilA))))) (retS (callE tupleF (consA (lcE (iterE (callE F_others_of (consA (varE 1) (consA (varE 2) (nilA))))) (.nm 4) (tstE (callE F_is_ahead_by (consA (varE 0) (consA (varE 1) (consA (varE 2) (consA (varE 4) (consA (varE 3) (nilA)))))))) (varE 4) [4]) (nilA)))))
def F_ahead_of : FA := runF 4 5 B_ahead_of
def B_place_span : SvS := seqS (exprS (callE F_check_raced (consA (varE 0) (consA (varE 1) (consA (varE 2) (nilA)))))) (seqS (exprS (callE F_check_time (consA (varE 1) (consA (varE 3) (nilA))))) (retS (callE F_place_span_by (consA (varE 0) (consA (varE 1) (consA (varE 2) (consA (varE 3) (nilA))))))))
def F_place_span : FA := runF 4 4 B_place_span
def B_leaders : SvS := seqS (exprS (callE F_check_track (consA (varE 0) (nilA)))) (seqS (exprS (callE F_check_race (consA (varE 0) (consA (varE 1) (nilA))))) (seqS (exprS (callE F_check_time (consA (varE 1) (consA (varE 2) (nilA))))) (retS (callE tupleF (consA (callE F_leaders_by (consA (varE 0) (consA (varE 1) (consA (varE 2) (nilA))))) (nilA))))))
def F_leaders : FA := runF 3 3 B_leaders
def B__law_spans : SvS := retS (lcE (callI range1F (consA (callE lenF (consA (binE ixD (varE 1) (cE (.int 1))) (nilA))) (nilA))) (.nm 3) (yesB) (callE F__law_span (consA (varE 0) (consA (varE 1) (consA (varE 3) (consA (varE 2) (nilA)))))) [3])
def F__law_spans : FA := runF 3 4 B__law_spans
def B__law_best : SvS := retS (binE addD (cE (.int 1)) (callE lenF (consA (lcE (callI range1F (consA (callE lenF (consA (varE 0) (nilA))) (nilA))) (.nm 2) (andB (tstE (binE neD (varE 2) (varE 1))) (tstE (binE gtD (binE ixD (binE ixD (varE 0) (varE 2)) (cE (.int 0))) (binE ixD (binE ixD (varE 0) (varE 1)) (cE (.int 1)))))) (varE 2) [2]) (nilA))))
def F__law_best : FA := runF 2 3 B__law_best
def B__law_worst : SvS := retS (binE addD (cE (.int 1)) (callE lenF (consA (lcE (callI range1F (consA (callE lenF (consA (varE 0) (nilA))) (nilA))) (.nm 2) (andB (tstE (binE neD (varE 2) (varE 1))) (tstE (binE gtD (binE ixD (binE ixD (varE 0) (varE 2)) (cE (.int 1))) (binE ixD (binE ixD (varE 0) (varE 1)) (cE (.int 0)))))) (varE 2) [2]) (nilA))))
def F__law_worst : FA := runF 2 3 B__law_worst
def B__law_by_all : SvS := seqS (asgS (mutE (nilA)) (nameT 4)) (seqS (forS (callI range1F (consA (callE lenF (consA (binE ixD (varE 1) (cE (.int 1))) (nilA))) (nilA))) (tgT (.nm 5)) (seqS (asgS (callE F__law_span (consA (varE 0) (consA (varE 1) (consA (varE 5) (consA (varE 3) (nilA)))))) (tupT 2 (consT (nameT 6) (consT (nameT 7) (nilT))))) (exprS (methLE appF (varE 4) (consA (lcE (callI range2F (consA (varE 6) (consA (binE addD (varE 7) (cE (.int 1))) (nilA)))) (.nm 13) (tstE (callE F__law_comes (consA (varE 0) (consA (varE 1) (consA (varE 5) (consA (varE 3) (consA (varE 13) (nilA)))))))) (varE 13) [13]) (nilA)))))) (seqS (asgS (lstE (consA (tupE (nilA)) (nilA))) (nameT 8)) (seqS (forS (iterE (varE 4)) (tgT (.nm 9)) (seqS (asgS (lstE (nilA)) (nameT 10)) (seqS (forS (iterE (varE 8)) (tgT (.nm 11)) (asgS (binE addD (varE 10) (lcE (iterE (varE 9)) (.nm 13) (yesB) (binE addD (varE 11) (tupE (consA (varE 13) (nilA)))) [13])) (nameT 10))) (asgS (varE 10) (nameT 8))))) (seqS (asgS (lcE (iterE (varE 8)) (.nm 11) (yesB) (binE addD (cE (.int 1)) (callE lenF (consA (lcE (iterE (varE 11)) (.nm 13) (tstE (binE gtD (varE 13) (binE ixD (varE 11) (varE 2)))) (varE 13) [13]) (nilA)))) [11]) (nameT 12)) (retS (tupE (consA (callE minF (consA (varE 12) (nilA))) (consA (callE maxF (consA (varE 12) (nilA))) (nilA)))))))))
def F__law_by_all : FA := runF 4 14 B__law_by_all
def B_check_number : SvS := ifS (notB (tstE (callE F_is_from (consA (varE 0) (consA (cE (.int 1)) (nilA)))))) (failS) (passS)
def F_check_number : FA := runF 1 1 B_check_number
def B_earliest_behind : SvS := seqS (asgS (binE ixD (varE 1) (varE 2)) (nameT 4)) (seqS (asgS (binE subD (binE subD (varE 3) (callE F_crossing_of (consA (varE 0) (consA (varE 1) (consA (varE 2) (nilA)))))) (binE mulD (callE lenF (consA (varE 0) (nilA))) (callE F_extras_ahead (consA (varE 0) (consA (varE 1) (consA (varE 2) (nilA))))))) (nameT 5)) (seqS (ifS (tstE (binE leD (varE 5) (cE (.int 0)))) (retS (lstE (consA (binE ixD (varE 4) (cE (.int 0))) (nilA)))) (passS)) (seqS (ifS (andB (tstE (binE ltD (varE 2) (binE subD (callE lenF (consA (varE 1) (nilA))) (cE (.int 1))))) (tstE (binE geD (varE 5) (binE ixD (callE F_steps_in_gap (consA (varE 0) (consA (varE 4) (consA (binE ixD (varE 1) (binE addD (varE 2) (cE (.int 1)))) (nilA))))) (cE (.int 1)))))) (retS (lstE (nilA))) (passS)) (retS (lstE (consA (binE addD (binE ixD (varE 4) (cE (.int 0))) (callE F_reach_by (consA (varE 0) (consA (binE ixD (varE 4) (cE (.int 1))) (consA (varE 5) (nilA)))))) (nilA)))))))
def F_earliest_behind : FA := runF 4 6 B_earliest_behind
def B_latest_behind : SvS := seqS (asgS (binE ixD (varE 1) (varE 2)) (nameT 4)) (seqS (asgS (binE subD (varE 3) (callE F_crossing_of (consA (varE 0) (consA (varE 1) (consA (varE 2) (nilA)))))) (nameT 5)) (seqS (ifS (tstE (binE leD (varE 5) (cE (.int 0)))) (retS (lstE (consA (binE ixD (varE 4) (cE (.int 0))) (nilA)))) (passS)) (seqS (ifS (tstE (binE eqD (varE 2) (binE subD (callE lenF (consA (varE 1) (nilA))) (cE (.int 1))))) (retS (lstE (nilA))) (passS)) (seqS (asgS (binE ixD (varE 1) (binE addD (varE 2) (cE (.int 1)))) (nameT 6)) (seqS (asgS (callE F_steps_by (consA (varE 0) (consA (binE ixD (varE 4) (cE (.int 1))) (consA (binE ixD (varE 6) (cE (.int 1))) (nilA))))) (nameT 7)) (seqS (ifS (tstE (binE geD (varE 5) (varE 7))) (retS (lstE (nilA))) (passS)) (retS (lstE (consA (binE subD (binE ixD (varE 6) (cE (.int 0))) (callE F_reach_by (consA (varE 0) (consA (binE modD (binE addD (binE ixD (varE 4) (cE (.int 1))) (varE 5)) (callE lenF (consA (varE 0) (nilA)))) (consA (binE subD (varE 7) (varE 5)) (nilA)))))) (nilA))))))))))
def F_latest_behind : FA := runF 4 8 B_latest_behind
def B_first_of : SvS := seqS (asgS (lc2E (iterE (varE 0)) (.nm 2) (yesB) (iterE (varE 2)) (.nm 3) (yesB) (varE 3) [2, 3] [3]) (nameT 1)) (retS (ifE (tstE (binE neD (varE 1) (lstE (nilA)))) (binE ixD (varE 1) (cE (.int 0))) (cE .non)))
def F_first_of : FA := runF 1 4 B_first_of
def B_moments_by : SvS := seqS (asgS (callE F_full_row_by (consA (varE 1) (consA (varE 2) (nilA)))) (nameT 4)) (seqS (asgS (callE F_first_of (consA (lcE (callI range1F (consA (callE lenF (consA (varE 4) (nilA))) (nilA))) (.nm 6) (yesB) (callE F_earliest_behind (consA (varE 0) (consA (varE 4) (consA (varE 6) (consA (varE 3) (nilA)))))) [6]) (nilA))) (nameT 5)) (retS (tupE (consA (varE 5) (consA (callE F_first_of (consA (lcE (callI range1F (consA (callE lenF (consA (varE 4) (nilA))) (nilA))) (.nm 6) (yesB) (callE F_latest_behind (consA (varE 0) (consA (varE 4) (consA (varE 6) (consA (varE 3) (nilA)))))) [6]) (nilA))) (nilA))))))
def F_moments_by : FA := runF 4 7 B_moments_by
def B_lead_span_by : SvS := seqS (parS 5 6 (consA (callE F_span_by (consA (varE 0) (consA (varE 1) (consA (varE 2) (consA (varE 4) (nilA)))))) (consA (callE F_span_by (consA (varE 0) (consA (varE 1) (consA (varE 3) (consA (varE 4) (nilA)))))) (nilA)))) (retS (tupE (consA (binE subD (binE ixD (varE 5) (cE (.int 0))) (binE ixD (varE 6) (cE (.int 1)))) (consA (binE subD (binE ixD (varE 5) (cE (.int 1))) (binE ixD (varE 6) (cE (.int 0)))) (nilA)))))
def F_lead_span_by : FA := runF 5 7 B_lead_span_by
def B_has_lapped_by : SvS := retS (binE geD (binE ixD (callE F_lead_span_by (consA (varE 0) (consA (varE 1) (consA (varE 2) (consA (varE 3) (consA (varE 4) (nilA))))))) (cE (.int 0))) (callE lenF (consA (varE 0) (nilA))))
def F_has_lapped_by : FA := runF 5 5 B_has_lapped_by
def B_all_lapped_by : SvS := retS (lcE (iterE (callE F_others_of (consA (varE 1) (consA (varE 2) (nilA))))) (.nm 4) (tstE (callE F_has_lapped_by (consA (varE 0) (consA (varE 1) (consA (varE 2) (consA (varE 4) (consA (varE 3) (nilA)))))))) (varE 4) [4])
def F_all_lapped_by : FA := runF 4 5 B_all_lapped_by
def B_crossings_in : SvS := retS (ifE (tstE (binE gtD (varE 2) (varE 1))) (binE addD (binE fdivD (binE subD (binE subD (varE 2) (cE (.int 1))) (varE 1)) (callE lenF (consA (varE 0) (nilA)))) (cE (.int 1))) (cE (.int 0)))
def F_crossings_in : FA := runF 3 3 B_crossings_in
def B_mat_crossings_by : SvS := seqS (asgS (lcE (callI range1F (consA (callE lenF (consA (binE ixD (varE 1) (cE (.int 1))) (nilA))) (nilA))) (.nm 6) (yesB) (callE F_span_by (consA (varE 0) (consA (varE 1) (consA (varE 6) (consA (varE 3) (nilA)))))) [6]) (nameT 4)) (seqS (asgS (callE sumF (consA (lcE (iterE (varE 4)) (.tp [.nm 7, .nm 8]) (yesB) (callE F_crossings_in (consA (varE 0) (consA (varE 2) (consA (varE 7) (nilA))))) [7, 8]) (nilA))) (nameT 5)) (retS (tupE (consA (varE 5) (consA (callE sumF (consA (lcE (iterE (varE 4)) (.tp [.nm 7, .nm 8]) (yesB) (callE F_crossings_in (consA (varE 0) (consA (varE 2) (consA (varE 8) (nilA))))) [7, 8]) (nilA))) (nilA))))))
def F_mat_crossings_by : FA := runF 4 9 B_mat_crossings_by
def B_timetable_by : SvS := retS (lcE (callI range2F (consA (cE (.int 1)) (consA (binE addD (varE 3) (cE (.int 1))) (nilA)))) (.nm 4) (yesB) (callE F_moments_by (consA (varE 0) (consA (varE 1) (consA (varE 2) (consA (varE 4) (nilA)))))) [4])
def F_timetable_by : FA := runF 4 5 B_timetable_by
def B_check_both : SvS := seqS (exprS (callE F_check_raced (consA (varE 0) (consA (varE 1) (consA (varE 2) (nilA)))))) (seqS (exprS (callE F_check_other_runner (consA (varE 1) (consA (varE 3) (consA (varE 2) (nilA)))))) (exprS (callE F_check_time (consA (varE 1) (consA (varE 4) (nilA))))))
def F_check_both : FA := runF 5 5 B_check_both
def B_lead_span : SvS := seqS (exprS (callE F_check_both (consA (varE 0) (consA (varE 1) (consA (varE 2) (consA (varE 3) (consA (varE 4) (nilA)))))))) (retS (callE F_lead_span_by (consA (varE 0) (consA (varE 1) (consA (varE 2) (consA (varE 3) (consA (varE 4) (nilA))))))))
def F_lead_span : FA := runF 5 5 B_lead_span
def B_has_surely_lapped : SvS := seqS (exprS (callE F_check_both (consA (varE 0) (consA (varE 1) (consA (varE 2) (consA (varE 3) (consA (varE 4) (nilA)))))))) (retS (callE F_has_lapped_by (consA (varE 0) (consA (varE 1) (consA (varE 2) (consA (varE 3) (consA (varE 4) (nilA))))))))
def F_has_surely_lapped : FA := runF 5 5 B_has_surely_lapped
def B_lapped_by : SvS := seqS (exprS (callE F_check_raced (consA (varE 0) (consA (varE 1) (consA (varE 2) (nilA)))))) (seqS (exprS (callE F_check_time (consA (varE 1) (consA (varE 3) (nilA))))) (retS (callE tupleF (consA (callE F_all_lapped_by (consA (varE 0) (consA (varE 1) (consA (varE 2) (consA (varE 3) (nilA)))))) (nilA)))))
def F_lapped_by : FA := runF 4 4 B_lapped_by
def B_mat_crossings : SvS := seqS (exprS (callE F_check_track (consA (varE 0) (nilA)))) (seqS (exprS (callE F_check_race (consA (varE 0) (consA (varE 1) (nilA))))) (seqS (exprS (callE F_check_mat (consA (varE 0) (consA (varE 2) (nilA))))) (seqS (exprS (callE F_check_time (consA (varE 1) (consA (varE 3) (nilA))))) (retS (callE F_mat_crossings_by (consA (varE 0) (consA (varE 1) (consA (varE 2) (consA (varE 3) (nilA))))))))))
def F_mat_crossings : FA := runF 4 4 B_mat_crossings
def B_timetable : SvS := seqS (exprS (callE F_check_raced (consA (varE 0) (consA (varE 1) (consA (varE 2) (nilA)))))) (seqS (ifS (notB (tstE (callE F_is_between (consA (varE 3) (consA (cE (.int 1)) (consA (cE (.int 40)) (nilA))))))) (failS) (passS)) (retS (callE tupleF (consA (callE F_timetable_by (consA (varE 0) (consA (varE 1) (consA (varE 2) (consA (varE 3) (nilA)))))) (nilA)))))
def F_timetable : FA := runF 4 4 B_timetable
def B_moments : SvS := seqS (exprS (callE F_check_raced (consA (varE 0) (consA (varE 1) (consA (varE 2) (nilA)))))) (seqS (exprS (callE F_check_number (consA (varE 3) (nilA)))) (retS (callE F_moments_by (consA (varE 0) (consA (varE 1) (consA (varE 2) (consA (varE 3) (nilA))))))))
def F_moments : FA := runF 4 4 B_moments
def B__law_first : SvS := seqS (parS 5 6 (consA (binE ixD (varE 1) (cE (.int 0))) (consA (cE (.int 1)) (nilA)))) (seqS (whileF (tstE (binE ltD (binE ixD (callE F__law_span (consA (varE 0) (consA (varE 1) (consA (varE 2) (consA (binE addD (varE 5) (varE 6)) (nilA)))))) (varE 4)) (varE 3))) (asgS (binE mulD (cE (.int 2)) (varE 6)) (nameT 6)) whileMost) (seqS (asgS (binE addD (varE 5) (varE 6)) (nameT 7)) (seqS (ifS (tstE (binE geD (binE ixD (callE F__law_span (consA (varE 0) (consA (varE 1) (consA (varE 2) (consA (varE 5) (nilA)))))) (varE 4)) (varE 3))) (retS (varE 5)) (passS)) (seqS (whileF (tstE (binE gtD (binE subD (varE 7) (varE 5)) (cE (.int 1)))) (seqS (asgS (binE fdivD (binE addD (varE 5) (varE 7)) (cE (.int 2))) (nameT 8)) (ifS (tstE (binE geD (binE ixD (callE F__law_span (consA (varE 0) (consA (varE 1) (consA (varE 2) (consA (varE 8) (nilA)))))) (varE 4)) (varE 3))) (asgS (varE 8) (nameT 7)) (asgS (varE 8) (nameT 5)))) whileMost) (retS (varE 7))))))
def F__law_first : FA := runF 5 9 B__law_first
def B__law_moments : SvS := seqS (asgS (binE ixD (binE ixD (varE 1) (cE (.int 1))) (varE 2)) (nameT 4)) (seqS (asgS (ifE (tstE (binE neD (varE 4) (tupE (nilA)))) (binE ixD (binE ixD (varE 4) (unE negD (cE (.int 1)))) (cE (.int 0))) (binE ixD (varE 1) (cE (.int 0)))) (nameT 5)) (seqS (asgS (ifE (tstE (binE geD (binE ixD (callE F__law_span (consA (varE 0) (consA (varE 1) (consA (varE 2) (consA (varE 5) (nilA)))))) (cE (.int 0))) (varE 3))) (callE F__law_first (consA (varE 0) (consA (varE 1) (consA (varE 2) (consA (varE 3) (consA (cE (.int 0)) (nilA))))))) (cE .non)) (nameT 6)) (retS (tupE (consA (callE F__law_first (consA (varE 0) (consA (varE 1) (consA (varE 2) (consA (varE 3) (consA (cE (.int 1)) (nilA))))))) (consA (varE 6) (nilA)))))))
def F__law_moments : FA := runF 4 7 B__law_moments
def B__law_some : SvS := seqS (asgS (callE F__law_span (consA (varE 0) (consA (varE 1) (consA (varE 2) (consA (varE 3) (nilA)))))) (tupT 2 (consT (nameT 4) (consT (nameT 5) (nilT))))) (retS (lcE (callI range2F (consA (varE 4) (consA (binE addD (varE 5) (cE (.int 1))) (nilA)))) (.nm 6) (tstE (callE F__law_comes (consA (varE 0) (consA (varE 1) (consA (varE 2) (consA (varE 3) (consA (varE 6) (nilA)))))))) (varE 6) [6]))
def F__law_some : FA := runF 4 7 B__law_some
def B__law_made : SvS := retS (binE addD (binE fdivD (binE subD (binE subD (varE 2) (cE (.int 1))) (varE 1)) (callE lenF (consA (varE 0) (nilA)))) (cE (.int 1)))
def F__law_made : FA := runF 3 3 B__law_made
def B_wrong_mark : SvS := seqS (exprS (callE F_check_tracked (consA (varE 0) (consA (varE 1) (nilA))))) (seqS (asgS (callE F_wrong_marks_by (consA (varE 0) (consA (varE 1) (nilA)))) (nameT 2)) (retS (ifE (tstE (binE neD (varE 2) (lstE (nilA)))) (binE ixD (varE 2) (cE (.int 0))) (cE .non))))
def F_wrong_mark : FA := runF 2 3 B_wrong_mark
def B__law_wrong : SvS := retS (lcE (callI range2F (consA (cE (.int 1)) (consA (callE lenF (consA (varE 1) (nilA))) (nilA)))) (.nm 2) (notB (tstE (callE F__law_can_follow (consA (varE 0) (consA (binE ixD (varE 1) (varE 2)) (consA (binE ixD (varE 1) (binE subD (varE 2) (cE (.int 1)))) (nilA))))))) (varE 2) [2])
def F__law_wrong : FA := runF 2 3 B__law_wrong
def B_mats_between : SvS := retS (lcE (callI range2F (consA (cE (.int 1)) (consA (callE F_steps_by (consA (varE 0) (consA (varE 1) (consA (varE 2) (nilA))))) (nilA)))) (.nm 3) (yesB) (binE modD (binE addD (varE 1) (varE 3)) (callE lenF (consA (varE 0) (nilA)))) [3])
def F_mats_between : FA := runF 3 4 B_mats_between
def B_missed_by : SvS := seqS (asgS (binE repMD (lstE (consA (callE sumF (consA (callE listF (consA (varE 2) (nilA))) (nilA))) (nilA))) (callE lenF (consA (varE 0) (nilA)))) (nameT 3)) (seqS (forS (callI zipF (consA (varE 1) (consA (sliceE (varE 1) (someO (cE (.int 1))) (noO)) (nilA)))) (tgT (.tp [.nm 4, .nm 5])) (forS (iterE (callE F_mats_between (consA (varE 0) (consA (binE ixD (varE 4) (cE (.int 1))) (consA (binE ixD (varE 5) (cE (.int 1))) (nilA)))))) (tgT (.nm 6)) (asgS (binE addD (binE ixD (varE 3) (varE 6)) (cE (.int 1))) (subT (varE 3) (varE 6))))) (retS (varE 3)))
def F_missed_by : FA := runF 3 7 B_missed_by
def B_missed : SvS := seqS (exprS (callE F_check_marks (consA (varE 0) (consA (varE 1) (nilA))))) (seqS (exprS (callE F_check_fit_row (consA (varE 0) (consA (varE 1) (nilA))))) (seqS (forS (iterE (callE F_wrong_in_extras (consA (varE 0) (consA (varE 1) (consA (varE 2) (nilA)))))) (tgT (.nm 3)) (failS)) (retS (callE tupleF (consA (callE F_missed_by (consA (varE 0) (consA (varE 1) (consA (varE 2) (nilA))))) (nilA))))))
def F_missed : FA := runF 3 4 B_missed
def B__law_walked : SvS := seqS (asgS (callE lenF (consA (varE 0) (nilA))) (nameT 3)) (seqS (asgS (binE repMD (lstE (consA (cE (.int 0)) (nilA))) (varE 3)) (nameT 4)) (seqS (forS (callI zip3F (consA (varE 1) (consA (sliceE (varE 1) (someO (cE (.int 1))) (noO)) (consA (varE 2) (nilA))))) (tgT (.tp [.tp [.nm 5, .nm 6], .tp [.nm 7, .nm 8], .nm 9])) (seqS (asgS (callE minF (consA (varE 9) (consA (cE (.int 3)) (nilA)))) (nameT 10)) (seqS (asgS (binE addD (callE F__law_steps_v2 (consA (varE 0) (consA (varE 6) (consA (varE 8) (nilA))))) (binE mulD (varE 10) (varE 3))) (nameT 11)) (seqS (forS (callI range2F (consA (cE (.int 1)) (consA (varE 11) (nilA)))) (tgT (.nm 12)) (seqS (asgS (binE modD (callE intF (consA (binE addD (varE 6) (varE 12)) (nilA))) (varE 3)) (nameT 13)) (asgS (binE addD (binE ixD (varE 4) (varE 13)) (cE (.int 1))) (subT (varE 4) (varE 13))))) (asgS (lcME (iterE (varE 4)) (.nm 14) (yesB) (binE subD (binE addD (varE 14) (varE 9)) (varE 10)) [14]) (nameT 4)))))) (retS (callE tupleF (consA (varE 4) (nilA))))))
def F__law_walked : FA := runF 3 15 B__law_walked
def B__law_led : SvS := seqS (parS 4 5 (consA (mutE (consA (disp1E (varE 1) (cE (.bl true))) (nilA))) (consA (callE lenF (consA (varE 0) (nilA))) (nilA)))) (seqS (forS (callI range1F (consA (binE subD (varE 3) (varE 1)) (nilA))) (tgT (.nm 6)) (seqS (asgS (newKE) (nameT 7)) (seqS (forDS (binE ixD (varE 4) (unE negD (cE (.int 1)))) (tgT (.nm 8)) (forS (callI range2F (consA (binE addD (varE 8) (binE ixD (varE 0) (binE modD (callE intF (consA (binE addD (varE 2) (varE 6)) (nilA))) (varE 5)))) (consA (binE addD (varE 3) (cE (.int 1))) (nilA)))) (tgT (.nm 9)) (putS (cE (.bl true)) (varE 7) (varE 9)))) (seqS (ifS (tstE (unE eq0D (varE 7))) (retS (varE 4)) (passS)) (exprS (methLE appF (varE 4) (consA (varE 7) (nilA)))))))) (retS (varE 4)))
def F__law_led : FA := runF 4 10 B__law_led
def B__law_crossed : SvS := seqS (asgS (callE lenF (consA (varE 0) (nilA))) (nameT 3)) (seqS (asgS (callE F__law_led (consA (varE 0) (consA (binE ixD (varE 1) (cE (.int 0))) (consA (binE ixD (varE 1) (cE (.int 1))) (consA (binE ixD (varE 2) (cE (.int 0))) (nilA)))))) (nameT 4)) (retS (lcE (callI enumF (consA (varE 4) (nilA))) (.tp [.nm 5, .nm 6]) (andB (tstE (binE gtD (varE 5) (cE (.int 0)))) (andB (tstE (binE eqD (binE modD (callE intF (consA (binE addD (binE ixD (varE 1) (cE (.int 1))) (varE 5)) (nilA))) (varE 3)) (binE ixD (varE 2) (cE (.int 1))))) (tstE (binE inKD (binE ixD (varE 2) (cE (.int 0))) (varE 6))))) (varE 5) [5, 6])))
def F__law_crossed : FA := runF 3 7 B__law_crossed
def B_in_order : SvS := retS (callE tupleF (consA (callE srtF (consA (varE 0) (nilA))) (nilA)))
def F_in_order : FA := runF 1 1 B_in_order
def B_bag_turned_by : SvS := retS (callE F_in_order (consA (lcE (iterE (varE 1)) (.tp [.nm 3, .nm 4]) (yesB) (tupE (consA (varE 3) (consA (binE modD (callE intF (consA (binE subD (varE 4) (varE 2)) (nilA))) (callE lenF (consA (varE 0) (nilA)))) (nilA)))) [3, 4]) (nilA)))
def F_bag_turned_by : FA := runF 3 5 B_bag_turned_by
def B_check_bagged : SvS := seqS (exprS (callE F_check_track (consA (varE 0) (nilA)))) (exprS (callE F_check_bag (consA (varE 0) (consA (varE 1) (nilA)))))
def F_check_bagged : FA := runF 2 2 B_check_bagged
def B_bag_turned : SvS := seqS (exprS (callE F_check_bagged (consA (varE 0) (consA (varE 1) (nilA))))) (seqS (exprS (callE F_check_from_nought (consA (varE 2) (nilA)))) (retS (callE F_bag_turned_by (consA (varE 0) (consA (varE 1) (consA (varE 2) (nilA)))))))
def F_bag_turned : FA := runF 3 3 B_bag_turned
def B__law_way_v2 : SvS := seqS (asgS (binE ixD (varE 0) (varE 1)) (nameT 3)) (seqS (forS (callI range2F (consA (cE (.int 1)) (consA (callE lenF (consA (varE 0) (nilA))) (nilA)))) (tgT (.nm 4)) (seqS (asgS (binE modD (callE intF (consA (binE addD (varE 1) (varE 4)) (nilA))) (callE lenF (consA (varE 0) (nilA)))) (nameT 5)) (seqS (ifS (tstE (binE eqD (varE 5) (varE 2))) (retS (varE 3)) (passS)) (asgS (binE addD (varE 3) (binE ixD (varE 0) (varE 5))) (nameT 3))))) (retS (varE 3)))
def F__law_way_v2 : FA := runF 3 6 B__law_way_v2
def B__law_can_follow_v2 : SvS := retS (binE geD (binE subD (binE ixD (varE 1) (cE (.int 0))) (binE ixD (varE 2) (cE (.int 0)))) (callE F__law_way_v2 (consA (varE 0) (consA (binE ixD (varE 2) (cE (.int 1))) (consA (binE ixD (varE 1) (cE (.int 1))) (nilA))))))
def F__law_can_follow_v2 : FA := runF 3 3 B__law_can_follow_v2
def B__law_is_row : SvS := retS (binE eqD (lcE (callI range2F (consA (cE (.int 1)) (consA (callE lenF (consA (varE 1) (nilA))) (nilA)))) (.nm 2) (notB (tstE (callE F__law_can_follow_v2 (consA (varE 0) (consA (binE ixD (varE 1) (varE 2)) (consA (binE ixD (varE 1) (binE subD (varE 2) (cE (.int 1)))) (nilA))))))) (varE 2) [2]) (lstE (nilA)))
def F__law_is_row : FA := runF 2 3 B__law_is_row
def B__law_track_turned : SvS := seqS (asgS (binE modD (callE intF (consA (varE 1) (nilA))) (callE lenF (consA (varE 0) (nilA)))) (nameT 2)) (retS (binE addD (sliceE (varE 0) (someO (varE 2)) (noO)) (sliceE (varE 0) (noO) (someO (varE 2)))))
def F__law_track_turned : FA := runF 2 3 B__law_track_turned
def B__law_bag_turned : SvS := retS (callE tupleF (consA (callE srtF (consA (lcE (iterE (varE 1)) (.tp [.nm 3, .nm 4]) (yesB) (tupE (consA (varE 3) (consA (binE modD (callE intF (consA (binE subD (varE 4) (varE 2)) (nilA))) (callE lenF (consA (varE 0) (nilA)))) (nilA)))) [3, 4]) (nilA))) (nilA)))
def F__law_bag_turned : FA := runF 3 5 B__law_bag_turned
def B_bag_backward_by : SvS := retS (callE F_in_order (consA (lcE (iterE (varE 1)) (.tp [.nm 2, .nm 3]) (yesB) (tupE (consA (varE 2) (consA (binE modD (callE intF (consA (unE negD (varE 3)) (nilA))) (callE lenF (consA (varE 0) (nilA)))) (nilA)))) [2, 3]) (nilA)))
def F_bag_backward_by : FA := runF 2 4 B_bag_backward_by
def B_is_backward_row_by : SvS := retS (callE F_is_row_by (consA (callE F_track_backward_by (consA (varE 0) (nilA))) (consA (callE F_bag_backward_by (consA (varE 0) (consA (varE 1) (nilA)))) (nilA))))
def F_is_backward_row_by : FA := runF 2 2 B_is_backward_row_by
def B_bag_backward : SvS := seqS (exprS (callE F_check_bagged (consA (varE 0) (consA (varE 1) (nilA))))) (retS (callE F_bag_backward_by (consA (varE 0) (consA (varE 1) (nilA)))))
def F_bag_backward : FA := runF 2 2 B_bag_backward
def B_is_backward_row : SvS := seqS (exprS (callE F_check_bagged (consA (varE 0) (consA (varE 1) (nilA))))) (retS (callE F_is_backward_row_by (consA (varE 0) (consA (varE 1) (nilA)))))
def F_is_backward_row : FA := runF 2 2 B_is_backward_row
def B__law_bag_backward : SvS := retS (callE tupleF (consA (callE srtF (consA (lcE (iterE (varE 1)) (.tp [.nm 2, .nm 3]) (yesB) (tupE (consA (varE 2) (consA (binE modD (callE intF (consA (binE subD (cE (.int 0)) (varE 3)) (nilA))) (callE lenF (consA (varE 0) (nilA)))) (nilA)))) [2, 3]) (nilA))) (nilA)))
def F__law_bag_backward : FA := runF 2 4 B__law_bag_backward
def B__law_is_backward : SvS := seqS (asgS (callE srtNF (consA (lcE (iterE (varE 1)) (.tp [.nm 3, .nm 4]) (yesB) (tupE (consA (varE 3) (consA (binE modD (callE intF (consA (binE subD (cE (.int 0)) (varE 4)) (nilA))) (callE lenF (consA (varE 0) (nilA)))) (consA (varE 4) (nilA))))) [3, 4]) (nilA))) (nameT 2)) (retS (binE eqD (lcE (callI range2F (consA (cE (.int 1)) (consA (callE lenF (consA (varE 2) (nilA))) (nilA)))) (.nm 5) (tstE (binE ltD (binE subD (binE ixD (binE ixD (varE 2) (varE 5)) (cE (.int 0))) (binE ixD (binE ixD (varE 2) (binE subD (varE 5) (cE (.int 1)))) (cE (.int 0)))) (callE F__law_way_v2 (consA (varE 0) (consA (binE ixD (binE ixD (varE 2) (varE 5)) (cE (.int 2))) (consA (binE ixD (binE ixD (varE 2) (binE subD (varE 5) (cE (.int 1)))) (cE (.int 2))) (nilA))))))) (varE 5) [5]) (lstE (nilA))))
def F__law_is_backward : FA := runF 2 6 B__law_is_backward
def B__law_bag_right : SvS := seqS (parS3 2 3 4 (consA (revE (varE 0)) (consA (callE F__law_bag_backward (consA (varE 0) (consA (varE 1) (nilA)))) (consA (callE F__law_is_backward (consA (varE 0) (consA (varE 1) (nilA)))) (nilA))))) (seqS (ifS (tstE (binE neD (callE reprF (consA (lstE (consA (callE F_bag_backward (consA (varE 0) (consA (varE 1) (nilA)))) (consA (callKE F_bag_backward nilA (consA (varE 1) (consA (varE 0) (nilA))) 0 2 [1, 0]) (consA (callE F_is_backward_row (consA (varE 0) (consA (varE 1) (nilA)))) (consA (callKE F_is_backward_row nilA (consA (varE 1) (consA (varE 0) (nilA))) 0 2 [1, 0]) (nilA)))))) (nilA))) (callE reprF (consA (lstE (consA (varE 3) (consA (varE 3) (consA (varE 4) (consA (varE 4) (nilA)))))) (nilA))))) (retS (cE (.bl false))) (passS)) (retS (andE (binE eqD (callE reprF (consA (callE F_is_row (consA (varE 2) (consA (varE 3) (nilA)))) (nilA))) (callE reprF (consA (varE 4) (nilA)))) (binE eqD (callE F_bag_backward (consA (varE 2) (consA (varE 3) (nilA)))) (varE 1)))))
def F__law_bag_right : FA := runF 2 5 B__law_bag_right
def B_bag_without_by : SvS := retS (callE tupleF (consA (lcE (iterE (varE 0)) (.tp [.nm 2, .nm 3]) (tstE (binE neD (varE 3) (varE 1))) (tupE (consA (varE 2) (consA (binE subD (varE 3) (callE intF (consA (binE gtD (varE 3) (varE 1)) (nilA)))) (nilA)))) [2, 3]) (nilA)))
def F_bag_without_by : FA := runF 2 4 B_bag_without_by
def B_bag_without : SvS := seqS (exprS (callE F_check_bagged (consA (varE 0) (consA (varE 1) (nilA))))) (seqS (exprS (callE F_check_mat (consA (varE 0) (consA (varE 2) (nilA))))) (seqS (exprS (callE F_check_more (consA (varE 0) (nilA)))) (retS (callE F_bag_without_by (consA (varE 1) (consA (varE 2) (nilA)))))))
def F_bag_without : FA := runF 3 3 B_bag_without
def B__law_track_without : SvS := seqS (ifS (tstE (binE eqD (varE 1) (cE (.int 0)))) (retS (binE addD (sliceE (varE 0) (someO (cE (.int 1))) (someO (unE negD (cE (.int 1))))) (tupE (consA (binE addD (binE ixD (varE 0) (unE negD (cE (.int 1)))) (binE ixD (varE 0) (cE (.int 0)))) (nilA))))) (passS)) (retS (binE addD (binE addD (sliceE (varE 0) (noO) (someO (binE subD (varE 1) (cE (.int 1))))) (tupE (consA (binE addD (binE ixD (varE 0) (binE subD (varE 1) (cE (.int 1)))) (binE ixD (varE 0) (varE 1))) (nilA)))) (sliceE (varE 0) (someO (binE addD (varE 1) (cE (.int 1)))) (noO))))
def F__law_track_without : FA := runF 2 2 B__law_track_without
def B__law_bag_without : SvS := retS (callE tupleF (consA (lcE (iterE (varE 0)) (.tp [.nm 2, .nm 3]) (tstE (binE neD (varE 3) (varE 1))) (tupE (consA (varE 2) (consA (ifE (tstE (binE ltD (varE 3) (varE 1))) (varE 3) (binE subD (varE 3) (cE (.int 1)))) (nilA)))) [2, 3]) (nilA)))
def F__law_bag_without : FA := runF 2 4 B__law_bag_without
def B_check_mark : SvS := ifS (notB (tstE (callE F_is_mark_of (consA (varE 0) (consA (varE 1) (nilA)))))) (failS) (passS)
def F_check_mark : FA := runF 2 2 B_check_mark
def B_wrong_in_slowest : SvS := seqS (ifS (notB (tstE (callE F_is_tuple_of (consA (varE 1) (consA (callE lenF (consA (varE 0) (nilA))) (nilA)))))) (retS (lstE (consA (cE .non) (nilA)))) (passS)) (retS (sliceE (lcE (callI enumF (consA (varE 1) (nilA))) (.tp [.nm 2, .nm 3]) (notB (tstE (callE F_is_from (consA (varE 3) (consA (binE ixD (varE 0) (varE 2)) (nilA)))))) (varE 2) [2, 3]) (noO) (someO (cE (.int 1)))))
def F_wrong_in_slowest : FA := runF 2 4 B_wrong_in_slowest
def B_rounded_up : SvS := retS (unE negD (binE fdivD (unE negD (varE 0)) (varE 1)))
def F_rounded_up : FA := runF 2 2 B_rounded_up
def B_extra_span_by : SvS := seqS (asgS (binE subD (binE ixD (varE 2) (cE (.int 0))) (binE ixD (varE 3) (cE (.int 0)))) (nameT 4)) (seqS (asgS (binE fdivD (binE subD (varE 4) (callE F_way_by (consA (varE 0) (consA (binE ixD (varE 3) (cE (.int 1))) (consA (binE ixD (varE 2) (cE (.int 1))) (nilA)))))) (callE F_round_by (consA (varE 0) (nilA)))) (nameT 5)) (seqS (asgS (callE maxF (consA (cE (.int 0)) (consA (callE F_rounded_up (consA (binE subD (varE 4) (callE F_way_by (consA (varE 1) (consA (binE ixD (varE 3) (cE (.int 1))) (consA (binE ixD (varE 2) (cE (.int 1))) (nilA)))))) (consA (callE F_round_by (consA (varE 1) (nilA))) (nilA)))) (nilA)))) (nameT 6)) (retS (ifE (tstE (binE leD (varE 6) (varE 5))) (lstE (consA (tupE (consA (varE 6) (consA (varE 5) (nilA)))) (nilA))) (lstE (nilA))))))
def F_extra_span_by : FA := runF 4 7 B_extra_span_by
def B_extra_spans_by : SvS := seqS (asgS (mutE (nilA)) (nameT 3)) (seqS (forS (callI zipF (consA (varE 2) (consA (sliceE (varE 2) (someO (cE (.int 1))) (noO)) (nilA)))) (tgT (.tp [.nm 4, .nm 5])) (exprS (methLE extF (varE 3) (consA (callE F_extra_span_by (consA (varE 0) (consA (varE 1) (consA (varE 5) (consA (varE 4) (nilA)))))) (nilA))))) (retS (ifE (tstE (binE eqD (callE lenF (consA (varE 3) (nilA))) (callE maxF (consA (cE (.int 0)) (consA (binE subD (callE lenF (consA (varE 2) (nilA))) (cE (.int 1))) (nilA)))))) (varE 3) (cE .non))))
def F_extra_spans_by : FA := runF 3 6 B_extra_spans_by
def B_is_steady_by : SvS := retS (binE notND (callE F_extra_spans_by (consA (varE 0) (consA (varE 1) (consA (varE 2) (nilA))))) (cE .non))
def F_is_steady_by : FA := runF 3 3 B_is_steady_by
def B_least_crossings : SvS := retS (callE sumF (consA (lcE (callI zipF (consA (varE 1) (consA (sliceE (varE 1) (someO (cE (.int 1))) (noO)) (nilA)))) (.tp [.nm 2, .nm 3]) (yesB) (callE F_steps_by (consA (varE 0) (consA (binE ixD (varE 2) (cE (.int 1))) (consA (binE ixD (varE 3) (cE (.int 1))) (nilA))))) [2, 3]) (nilA)))
def F_least_crossings : FA := runF 2 4 B_least_crossings
def B_crossings_by : SvS := seqS (parS 3 4 (consA (callE F_extra_spans_by (consA (varE 0) (consA (varE 1) (consA (varE 2) (nilA))))) (consA (callE F_least_crossings (consA (varE 0) (consA (varE 2) (nilA)))) (nilA)))) (seqS (parS 5 6 (consA (callE sumF (consA (lcE (iterE (varE 3)) (.tp [.nm 7, .nm 8]) (yesB) (varE 7) [7, 8]) (nilA))) (consA (callE sumF (consA (lcE (iterE (varE 3)) (.tp [.nm 7, .nm 8]) (yesB) (varE 8) [7, 8]) (nilA))) (nilA)))) (retS (tupE (consA (binE addD (varE 4) (binE mulD (callE lenF (consA (varE 0) (nilA))) (varE 5))) (consA (binE addD (varE 4) (binE mulD (callE lenF (consA (varE 0) (nilA))) (varE 6))) (nilA))))))
def F_crossings_by : FA := runF 3 9 B_crossings_by
def B_check_slowest : SvS := seqS (exprS (callE F_check_track (consA (varE 0) (nilA)))) (forS (iterE (callE F_wrong_in_slowest (consA (varE 0) (consA (varE 1) (nilA))))) (tgT (.nm 2)) (failS))
def F_check_slowest : FA := runF 2 3 B_check_slowest
def B_extra_span : SvS := seqS (exprS (callE F_check_slowest (consA (varE 0) (consA (varE 1) (nilA))))) (seqS (exprS (callE F_check_mark (consA (varE 0) (consA (varE 2) (nilA))))) (seqS (exprS (callE F_check_mark (consA (varE 0) (consA (varE 3) (nilA))))) (seqS (asgS (callE F_extra_span_by (consA (varE 0) (consA (varE 1) (consA (varE 2) (consA (varE 3) (nilA)))))) (nameT 4)) (retS (ifE (tstE (binE neD (varE 4) (lstE (nilA)))) (binE ixD (varE 4) (cE (.int 0))) (cE .non))))))
def F_extra_span : FA := runF 4 5 B_extra_span
def B_is_steady : SvS := seqS (exprS (callE F_check_slowest (consA (varE 0) (consA (varE 1) (nilA))))) (seqS (exprS (callE F_check_bag (consA (varE 0) (consA (varE 2) (nilA))))) (retS (callE F_is_steady_by (consA (varE 0) (consA (varE 1) (consA (varE 2) (nilA)))))))
def F_is_steady : FA := runF 3 3 B_is_steady
def B_crossings : SvS := seqS (exprS (callE F_check_slowest (consA (varE 0) (consA (varE 1) (nilA))))) (seqS (exprS (callE F_check_bag (consA (varE 0) (consA (varE 2) (nilA))))) (seqS (ifS (orB (tstE (binE eqD (varE 2) (tupE (nilA)))) (notB (tstE (callE F_is_steady_by (consA (varE 0) (consA (varE 1) (consA (varE 2) (nilA)))))))) (failS) (passS)) (retS (callE F_crossings_by (consA (varE 0) (consA (varE 1) (consA (varE 2) (nilA))))))))
def F_crossings : FA := runF 3 3 B_crossings
def B__law_steps_v3 : SvS := seqS (asgS (binE modD (callE intF (consA (binE subD (varE 2) (varE 1)) (nilA))) (callE lenF (consA (varE 0) (nilA)))) (nameT 3)) (retS (ifE (tstE (binE gtD (varE 3) (cE (.int 0)))) (varE 3) (callE lenF (consA (varE 0) (nilA)))))
def F__law_steps_v3 : FA := runF 3 4 B__law_steps_v3
def B__law_span_v2 : SvS := seqS (parS3 4 5 6 (consA (binE subD (binE ixD (varE 2) (cE (.int 0))) (binE ixD (varE 3) (cE (.int 0)))) (consA (callE F__law_way_v2 (consA (varE 0) (consA (binE ixD (varE 3) (cE (.int 1))) (consA (binE ixD (varE 2) (cE (.int 1))) (nilA))))) (consA (callE F__law_way_v2 (consA (varE 1) (consA (binE ixD (varE 3) (cE (.int 1))) (consA (binE ixD (varE 2) (cE (.int 1))) (nilA))))) (nilA))))) (seqS (asgS (binE fdivD (binE subD (varE 4) (varE 5)) (callE sumF (consA (varE 0) (nilA)))) (nameT 7)) (seqS (asgS (callE maxF (consA (cE (.int 0)) (consA (binE subD (cE (.int 0)) (binE fdivD (binE subD (varE 6) (varE 4)) (callE sumF (consA (varE 1) (nilA))))) (nilA)))) (nameT 8)) (retS (ifE (tstE (binE leD (varE 8) (varE 7))) (tupE (consA (varE 8) (consA (varE 7) (nilA)))) (cE .non)))))
def F__law_span_v2 : FA := runF 4 9 B__law_span_v2
def B__law_can : SvS := seqS (asgS (binE subD (binE ixD (varE 2) (cE (.int 0))) (binE ixD (varE 3) (cE (.int 0)))) (nameT 5)) (seqS (ifS (tstE (binE ltD (varE 5) (binE addD (callE F__law_way_v2 (consA (varE 0) (consA (binE ixD (varE 3) (cE (.int 1))) (consA (binE ixD (varE 2) (cE (.int 1))) (nilA))))) (binE mulD (varE 4) (callE sumF (consA (varE 0) (nilA))))))) (retS (cE (.bl false))) (passS)) (retS (binE leD (varE 5) (binE addD (callE F__law_way_v2 (consA (varE 1) (consA (binE ixD (varE 3) (cE (.int 1))) (consA (binE ixD (varE 2) (cE (.int 1))) (nilA))))) (binE mulD (varE 4) (callE sumF (consA (varE 1) (nilA))))))))
def F__law_can : FA := runF 5 6 B__law_can
def B__law_bag_right_v2 : SvS := seqS (asgS (lcE (callI range2F (consA (cE (.int 1)) (consA (callE lenF (consA (varE 2) (nilA))) (nilA)))) (.nm 7) (yesB) (callE F__law_span_v2 (consA (varE 0) (consA (varE 1) (consA (binE ixD (varE 2) (varE 7)) (consA (binE ixD (varE 2) (binE subD (varE 7) (cE (.int 1)))) (nilA)))))) [7]) (nameT 3)) (seqS (asgS (binE notInD (cE .non) (varE 3)) (nameT 4)) (seqS (ifS (tstE (binE neD (callE reprF (consA (lstE (consA (callE F_is_steady (consA (varE 0) (consA (varE 1) (consA (varE 2) (nilA))))) (consA (callKE F_is_steady nilA (consA (varE 2) (consA (varE 1) (consA (varE 0) (nilA)))) 0 3 [2, 1, 0]) (nilA)))) (nilA))) (callE reprF (consA (lstE (consA (varE 4) (consA (varE 4) (nilA)))) (nilA))))) (retS (cE (.bl false))) (passS)) (seqS (ifS (orB (notB (tstE (varE 4))) (tstE (binE eqD (varE 2) (tupE (nilA))))) (retS (cE (.bl true))) (passS)) (seqS (asgS (callE sumF (consA (lcE (callI range2F (consA (cE (.int 1)) (consA (callE lenF (consA (varE 2) (nilA))) (nilA)))) (.nm 7) (yesB) (callE F__law_steps_v3 (consA (varE 0) (consA (binE ixD (binE ixD (varE 2) (binE subD (varE 7) (cE (.int 1)))) (cE (.int 1))) (consA (binE ixD (binE ixD (varE 2) (varE 7)) (cE (.int 1))) (nilA))))) [7]) (nilA))) (nameT 5)) (seqS (asgS (tupE (consA (binE addD (varE 5) (binE mulD (callE lenF (consA (varE 0) (nilA))) (callE sumF (consA (lcE (iterE (varE 3)) (.nm 8) (yesB) (binE ixD (varE 8) (cE (.int 0))) [8]) (nilA))))) (consA (binE addD (varE 5) (binE mulD (callE lenF (consA (varE 0) (nilA))) (callE sumF (consA (lcE (iterE (varE 3)) (.nm 8) (yesB) (binE ixD (varE 8) (cE (.int 1))) [8]) (nilA))))) (nilA)))) (nameT 6)) (retS (binE eqD (callE reprF (consA (lstE (consA (callE F_crossings (consA (varE 0) (consA (varE 1) (consA (varE 2) (nilA))))) (consA (callKE F_crossings nilA (consA (varE 2) (consA (varE 1) (consA (varE 0) (nilA)))) 0 3 [2, 1, 0]) (nilA)))) (nilA))) (callE reprF (consA (lstE (consA (varE 6) (consA (varE 6) (nilA)))) (nilA))))))))))
def F__law_bag_right_v2 : FA := runF 3 9 B__law_bag_right_v2
end Lap

namespace K76
open PySem PySem.Spec PyProof.Rows L2 G Lap
set_option maxHeartbeats 4000000
def topS (i : Nat) : Stmt := PySem.Challenge.pw_lapmats_k76_whole_slow_runners.main.body.getD i (.Pass ⟨0, 0, 0, 0⟩)
/-- what the names of the module hold that are no defs -/
structure Bt (mg : Str → Option Value) : Prop where
  list : mg "list" = none
  sum : mg "sum" = none
  len : mg "len" = none
  divmod : mg "divmod" = none
  range : mg "range" = none
  isinstance : mg "isinstance" = none
  int : mg "int" = none
  bool : mg "bool" = none
  tuple : mg "tuple" = none
  MOST_MATS : ∃ t, mg "MOST_MATS" = some (.int 8 t)
  all : mg "all" = none
  MOST_MARKS : ∃ t, mg "MOST_MARKS" = some (.int 30 t)
  enumerate : mg "enumerate" = none
  max : mg "max" = none
  zip : mg "zip" = none
  abs : mg "abs" = none
  sorted : mg "sorted" = none
  repr : mg "repr" = none
  min : mg "min" = none
abbrev s_round_by : Stmt := topS 8
theorem sc_round_by : FnScope ["track"] ["track"] (defScope s_round_by) := ⟨rfl, rfl, rfl, by decide +kernel, rfl, by decide +kernel, by decide +kernel⟩
abbrev s_sectors_from : Stmt := topS 9
theorem sc_sectors_from : FnScope ["track", "mat"] ["track", "mat"] (defScope s_sectors_from) := ⟨rfl, rfl, rfl, by decide +kernel, rfl, by decide +kernel, by decide +kernel⟩
abbrev s_reach_by : Stmt := topS 10
theorem sc_reach_by : FnScope ["track", "mat", "number", "rounds", "rest"] ["track", "mat", "number"] (defScope s_reach_by) := ⟨rfl, rfl, rfl, by decide +kernel, rfl, by decide +kernel, by decide +kernel⟩
abbrev s_steps_by : Stmt := topS 11
theorem sc_steps_by : FnScope ["track", "one", "other"] ["track", "one", "other"] (defScope s_steps_by) := ⟨rfl, rfl, rfl, by decide +kernel, rfl, by decide +kernel, by decide +kernel⟩
abbrev s_way_by : Stmt := topS 12
theorem sc_way_by : FnScope ["track", "one", "other"] ["track", "one", "other"] (defScope s_way_by) := ⟨rfl, rfl, rfl, by decide +kernel, rfl, by decide +kernel, by decide +kernel⟩
abbrev s_can_follow_by : Stmt := topS 14
theorem sc_can_follow_by : FnScope ["track", "mark", "other"] ["track", "mark", "other"] (defScope s_can_follow_by) := ⟨rfl, rfl, rfl, by decide +kernel, rfl, by decide +kernel, by decide +kernel⟩
abbrev s_wrong_marks_by : Stmt := topS 15
theorem sc_wrong_marks_by : FnScope ["track", "bag", "at"] ["track", "bag"] (defScope s_wrong_marks_by) := ⟨rfl, rfl, rfl, by decide +kernel, rfl, by decide +kernel, by decide +kernel⟩
abbrev s_is_row_by : Stmt := topS 16
theorem sc_is_row_by : FnScope ["track", "bag"] ["track", "bag"] (defScope s_is_row_by) := ⟨rfl, rfl, rfl, by decide +kernel, rfl, by decide +kernel, by decide +kernel⟩
abbrev s_is_whole : Stmt := topS 18
theorem sc_is_whole : FnScope ["value"] ["value"] (defScope s_is_whole) := ⟨rfl, rfl, rfl, by decide +kernel, rfl, by decide +kernel, by decide +kernel⟩
abbrev s_is_between : Stmt := topS 19
theorem sc_is_between : FnScope ["value", "low", "high"] ["value", "low", "high"] (defScope s_is_between) := ⟨rfl, rfl, rfl, by decide +kernel, rfl, by decide +kernel, by decide +kernel⟩
abbrev s_is_up_to : Stmt := topS 20
theorem sc_is_up_to : FnScope ["value", "most"] ["value", "most"] (defScope s_is_up_to) := ⟨rfl, rfl, rfl, by decide +kernel, rfl, by decide +kernel, by decide +kernel⟩
abbrev s_is_from : Stmt := topS 21
theorem sc_is_from : FnScope ["value", "least"] ["value", "least"] (defScope s_is_from) := ⟨rfl, rfl, rfl, by decide +kernel, rfl, by decide +kernel, by decide +kernel⟩
abbrev s_is_tuple_up_to : Stmt := topS 22
theorem sc_is_tuple_up_to : FnScope ["value", "low", "high"] ["value", "low", "high"] (defScope s_is_tuple_up_to) := ⟨rfl, rfl, rfl, by decide +kernel, rfl, by decide +kernel, by decide +kernel⟩
abbrev s_is_tuple_of : Stmt := topS 23
theorem sc_is_tuple_of : FnScope ["value", "many"] ["value", "many"] (defScope s_is_tuple_of) := ⟨rfl, rfl, rfl, by decide +kernel, rfl, by decide +kernel, by decide +kernel⟩
abbrev s_is_pair : Stmt := topS 24
theorem sc_is_pair : FnScope ["value"] ["value"] (defScope s_is_pair) := ⟨rfl, rfl, rfl, by decide +kernel, rfl, by decide +kernel, by decide +kernel⟩
abbrev s_is_track_of : Stmt := topS 28
theorem sc_is_track_of : FnScope ["value", "each"] ["value"] (defScope s_is_track_of) := ⟨rfl, rfl, rfl, by decide +kernel, rfl, by decide +kernel, by decide +kernel⟩
abbrev s_is_mat_of : Stmt := topS 29
theorem sc_is_mat_of : FnScope ["track", "value"] ["track", "value"] (defScope s_is_mat_of) := ⟨rfl, rfl, rfl, by decide +kernel, rfl, by decide +kernel, by decide +kernel⟩
abbrev s_is_mark_of : Stmt := topS 30
theorem sc_is_mark_of : FnScope ["track", "value"] ["track", "value"] (defScope s_is_mark_of) := ⟨rfl, rfl, rfl, by decide +kernel, rfl, by decide +kernel, by decide +kernel⟩
abbrev s_wrong_in_bag : Stmt := topS 31
theorem sc_wrong_in_bag : FnScope ["track", "value", "index", "mark"] ["track", "value"] (defScope s_wrong_in_bag) := ⟨rfl, rfl, rfl, by decide +kernel, rfl, by decide +kernel, by decide +kernel⟩
abbrev s_check_track : Stmt := topS 32
theorem sc_check_track : FnScope ["track"] ["track"] (defScope s_check_track) := ⟨rfl, rfl, rfl, by decide +kernel, rfl, by decide +kernel, by decide +kernel⟩
abbrev s_check_mark : Stmt := topS 33
theorem sc_check_mark : FnScope ["track", "mark"] ["track", "mark"] (defScope s_check_mark) := ⟨rfl, rfl, rfl, by decide +kernel, rfl, by decide +kernel, by decide +kernel⟩
abbrev s_check_bag : Stmt := topS 34
theorem sc_check_bag : FnScope ["track", "bag", "index"] ["track", "bag"] (defScope s_check_bag) := ⟨rfl, rfl, rfl, by decide +kernel, rfl, by decide +kernel, by decide +kernel⟩
abbrev s_wrong_in_slowest : Stmt := topS 36
theorem sc_wrong_in_slowest : FnScope ["track", "value", "index", "each"] ["track", "value"] (defScope s_wrong_in_slowest) := ⟨rfl, rfl, rfl, by decide +kernel, rfl, by decide +kernel, by decide +kernel⟩
abbrev s_rounded_up : Stmt := topS 37
theorem sc_rounded_up : FnScope ["number", "divisor"] ["number", "divisor"] (defScope s_rounded_up) := ⟨rfl, rfl, rfl, by decide +kernel, rfl, by decide +kernel, by decide +kernel⟩
abbrev s_extra_span_by : Stmt := topS 38
theorem sc_extra_span_by : FnScope ["track", "slowest", "mark", "other", "time", "most", "least"] ["track", "slowest", "mark", "other"] (defScope s_extra_span_by) := ⟨rfl, rfl, rfl, by decide +kernel, rfl, by decide +kernel, by decide +kernel⟩
abbrev s_extra_spans_by : Stmt := topS 39
theorem sc_extra_spans_by : FnScope ["track", "slowest", "bag", "found", "one", "two"] ["track", "slowest", "bag"] (defScope s_extra_spans_by) := ⟨rfl, rfl, rfl, by decide +kernel, rfl, by decide +kernel, by decide +kernel⟩
abbrev s_is_steady_by : Stmt := topS 40
theorem sc_is_steady_by : FnScope ["track", "slowest", "bag"] ["track", "slowest", "bag"] (defScope s_is_steady_by) := ⟨rfl, rfl, rfl, by decide +kernel, rfl, by decide +kernel, by decide +kernel⟩
abbrev s_least_crossings : Stmt := topS 41
theorem sc_least_crossings : FnScope ["track", "bag", "one", "two"] ["track", "bag"] (defScope s_least_crossings) := ⟨rfl, rfl, rfl, by decide +kernel, rfl, by decide +kernel, by decide +kernel⟩
abbrev s_crossings_by : Stmt := topS 42
theorem sc_crossings_by : FnScope ["track", "slowest", "bag", "spans", "count", "least", "most", "low", "high"] ["track", "slowest", "bag"] (defScope s_crossings_by) := ⟨rfl, rfl, rfl, by decide +kernel, rfl, by decide +kernel, by decide +kernel⟩
abbrev s_check_slowest : Stmt := topS 44
theorem sc_check_slowest : FnScope ["track", "slowest", "index"] ["track", "slowest"] (defScope s_check_slowest) := ⟨rfl, rfl, rfl, by decide +kernel, rfl, by decide +kernel, by decide +kernel⟩
abbrev s_extra_span : Stmt := topS 45
theorem sc_extra_span : FnScope ["track", "slowest", "mark", "other", "found"] ["track", "slowest", "mark", "other"] (defScope s_extra_span) := ⟨rfl, rfl, rfl, by decide +kernel, rfl, by decide +kernel, by decide +kernel⟩
abbrev s_is_steady : Stmt := topS 46
theorem sc_is_steady : FnScope ["track", "slowest", "bag"] ["track", "slowest", "bag"] (defScope s_is_steady) := ⟨rfl, rfl, rfl, by decide +kernel, rfl, by decide +kernel, by decide +kernel⟩
abbrev s_crossings : Stmt := topS 47
theorem sc_crossings : FnScope ["track", "slowest", "bag"] ["track", "slowest", "bag"] (defScope s_crossings) := ⟨rfl, rfl, rfl, by decide +kernel, rfl, by decide +kernel, by decide +kernel⟩
abbrev s_check_tracked : Stmt := topS 49
theorem sc_check_tracked : FnScope ["track", "bag"] ["track", "bag"] (defScope s_check_tracked) := ⟨rfl, rfl, rfl, by decide +kernel, rfl, by decide +kernel, by decide +kernel⟩
abbrev s_is_row : Stmt := topS 50
theorem sc_is_row : FnScope ["track", "bag"] ["track", "bag"] (defScope s_is_row) := ⟨rfl, rfl, rfl, by decide +kernel, rfl, by decide +kernel, by decide +kernel⟩
abbrev s__law_pool : Stmt := topS 52
theorem sc__law_pool : FnScope ["script", "turn", "own", "stirred", "cell"] ["script", "turn"] (defScope s__law_pool) := ⟨rfl, rfl, rfl, by decide +kernel, rfl, by decide +kernel, by decide +kernel⟩
def B__law_pool : SvS := seqS (parS 2 3 (consA (ifE (tstE (binE ltD (varE 1) (callE lenF (consA (varE 0) (nilA))))) (callE intF (consA (binE ixD (varE 0) (varE 1)) (nilA))) (binE addD (binE mulD (cE (.int 70001)) (varE 1)) (cE (.int 1306)))) (consA (binE addD (cE (.int 418953)) (binE mulD (cE (.int 5087)) (varE 1))) (nilA)))) (seqS (forS (iterE (sliceE (varE 0) (noO) (someO (cE (.int 63))))) (tgT (.nm 4)) (asgS (binE modD (callE intF (consA (binE addD (binE addD (binE mulD (varE 3) (cE (.int 48271))) (binE modD (callE intF (consA (varE 4) (nilA))) (cE (.int 2147483563)))) (cE (.int 261))) (nilA))) (cE (.int 2147483563))) (nameT 3))) (retS (mutE (consA (binE modD (callE intF (consA (binE addD (varE 3) (binE mulD (varE 2) (cE (.int 1013)))) (nilA))) (cE (.int 2147483563))) (consA (ifE (orB (tstE (binE ltD (varE 2) (cE (.int 0)))) (tstE (binE geD (varE 2) (binE powD (cE (.int 10)) (cE (.int 18)))))) (callE absF (consA (varE 2) (nilA))) (cE (.int 0))) (consA (cE (.int 0)) (nilA)))))))
def F__law_pool : FA := runF 2 5 B__law_pool
abbrev s__law_draw : Stmt := topS 53
theorem sc__law_draw : FnScope ["pool", "many", "figure", "held"] ["pool", "many"] (defScope s__law_draw) := ⟨rfl, rfl, rfl, by decide +kernel, rfl, by decide +kernel, by decide +kernel⟩
def B__law_draw : SvS := seqS (ifS (tstE (binE gtD (binE ixD (varE 0) (cE (.int 1))) (cE (.int 0)))) (seqS (asgS (callE divmodF (consA (binE ixD (varE 0) (cE (.int 1))) (consA (varE 1) (nilA)))) (tupT 2 (consT (subT (varE 0) (cE (.int 1))) (consT (nameT 2) (nilT))))) (retS (varE 2))) (passS)) (seqS (asgS (binE addD (binE ixD (varE 0) (cE (.int 2))) (cE (.int 1))) (subT (varE 0) (cE (.int 2)))) (seqS (asgS (callE intF (consA (binE ixD (varE 0) (cE (.int 0))) (nilA))) (nameT 3)) (seqS (asgS (binE modD (callE intF (consA (binE addD (binE addD (binE mulD (varE 3) (binE addD (binE modD (varE 3) (cE (.int 20011))) (cE (.int 30011)))) (binE mulD (cE (.int 70001)) (binE ixD (varE 0) (cE (.int 2))))) (cE (.int 9))) (nilA))) (cE (.int 2147483563))) (subT (varE 0) (cE (.int 0)))) (retS (binE modD (callE intF (consA (binE fdivD (binE ixD (varE 0) (cE (.int 0))) (cE (.int 128))) (nilA))) (varE 1))))))
def F__law_draw : FA := runF 2 4 B__law_draw
abbrev s__law_pick : Stmt := topS 54
theorem sc__law_pick : FnScope ["pool", "some"] ["pool", "some"] (defScope s__law_pick) := ⟨rfl, rfl, rfl, by decide +kernel, rfl, by decide +kernel, by decide +kernel⟩
def B__law_pick : SvS := retS (binE ixD (varE 1) (callE F__law_draw (consA (varE 0) (consA (callE lenF (consA (varE 1) (nilA))) (nilA)))))
def F__law_pick : FA := runF 2 2 B__law_pick
abbrev s__law_way : Stmt := topS 55
theorem sc__law_way : FnScope ["track", "one", "two", "found", "step", "here"] ["track", "one", "two"] (defScope s__law_way) := ⟨rfl, rfl, rfl, by decide +kernel, rfl, by decide +kernel, by decide +kernel⟩
abbrev s__law_steps : Stmt := topS 56
theorem sc__law_steps : FnScope ["track", "one", "two", "found"] ["track", "one", "two"] (defScope s__law_steps) := ⟨rfl, rfl, rfl, by decide +kernel, rfl, by decide +kernel, by decide +kernel⟩
abbrev s__law_track : Stmt := topS 57
theorem sc__law_track : FnScope ["pool", "most", "high", "mat"] ["pool", "most"] (defScope s__law_track) := ⟨rfl, rfl, rfl, by decide +kernel, rfl, by decide +kernel, by decide +kernel⟩
def B__law_track : SvS := seqS (asgS (callE F__law_pick (consA (varE 0) (consA (lstE (consA (cE (.int 1)) (consA (cE (.int 4)) (consA (cE (.int 40)) (consA (binE powD (cE (.int 10)) (cE (.int 9))) (nilA)))))) (nilA)))) (nameT 2)) (retS (callE tupleF (consA (lcE (callI range1F (consA (binE addD (cE (.int 1)) (callE F__law_draw (consA (varE 0) (consA (varE 1) (nilA))))) (nilA))) (.nm 3) (yesB) (binE addD (cE (.int 1)) (callE F__law_draw (consA (varE 0) (consA (varE 2) (nilA))))) [3]) (nilA))))
def F__law_track : FA := runF 2 4 B__law_track
abbrev s__law_drawn_row : Stmt := topS 58
theorem sc__law_drawn_row : FnScope ["pool", "track", "start", "many", "found", "here", "high", "step", "mat", "later"] ["pool", "track", "start", "many"] (defScope s__law_drawn_row) := ⟨rfl, rfl, rfl, by decide +kernel, rfl, by decide +kernel, by decide +kernel⟩
def B__law_drawn_row : SvS := seqS (parS3 4 5 6 (consA (mutE (nilA)) (consA (varE 2) (consA (callE F__law_pick (consA (varE 0) (consA (lstE (consA (cE (.int 1)) (consA (cE (.int 3)) (consA (binE mulD (cE (.int 2)) (callE sumF (consA (varE 1) (nilA)))) (nilA))))) (nilA)))) (nilA))))) (seqS (forS (callI range1F (consA (varE 3) (nilA))) (tgT (.nm 7)) (seqS (asgS (callE F__law_draw (consA (varE 0) (consA (callE lenF (consA (varE 1) (nilA))) (nilA)))) (nameT 8)) (seqS (asgS (binE addD (binE addD (binE ixD (varE 5) (cE (.int 0))) (callE F__law_way_v2 (consA (varE 1) (consA (binE ixD (varE 5) (cE (.int 1))) (consA (varE 8) (nilA)))))) (callE F__law_pick (consA (varE 0) (consA (lstE (consA (cE (.int 0)) (consA (callE F__law_draw (consA (varE 0) (consA (varE 6) (nilA)))) (consA (binE mulD (callE sumF (consA (varE 1) (nilA))) (callE F__law_draw (consA (varE 0) (consA (cE (.int 3)) (nilA))))) (nilA))))) (nilA))))) (nameT 9)) (seqS (asgS (tupE (consA (varE 9) (consA (varE 8) (nilA)))) (nameT 5)) (exprS (methLE appF (varE 4) (consA (varE 5) (nilA)))))))) (retS (callE tupleF (consA (varE 4) (nilA)))))
def F__law_drawn_row : FA := runF 4 10 B__law_drawn_row
abbrev s__law_drawn_bag : Stmt := topS 59
theorem sc__law_drawn_bag : FnScope ["pool", "track", "many", "found", "high", "step"] ["pool", "track", "many"] (defScope s__law_drawn_bag) := ⟨rfl, rfl, rfl, by decide +kernel, rfl, by decide +kernel, by decide +kernel⟩
def B__law_drawn_bag : SvS := seqS (parS 3 4 (consA (newTE) (consA (callE F__law_pick (consA (varE 0) (consA (lstE (consA (cE (.int 3)) (consA (cE (.int 20)) (consA (binE mulD (cE (.int 5)) (callE sumF (consA (varE 1) (nilA)))) (nilA))))) (nilA)))) (nilA)))) (seqS (forS (callI range1F (consA (varE 2) (nilA))) (tgT (.nm 5)) (putTS (cE (.bl true)) (varE 3) (consA (callE F__law_draw (consA (varE 0) (consA (varE 4) (nilA)))) (consA (callE F__law_draw (consA (varE 0) (consA (callE lenF (consA (varE 1) (nilA))) (nilA)))) (nilA))))) (retS (callE tupleF (consA (callE srtF (consA (callE listTF (consA (varE 3) (nilA))) (nilA))) (nilA)))))
def F__law_drawn_bag : FA := runF 3 6 B__law_drawn_bag
abbrev s__law_span : Stmt := topS 60
theorem sc__law_span : FnScope ["track", "slowest", "mark", "other", "time", "way", "slow", "most", "least"] ["track", "slowest", "mark", "other"] (defScope s__law_span) := ⟨rfl, rfl, rfl, by decide +kernel, rfl, by decide +kernel, by decide +kernel⟩
abbrev s__law_can : Stmt := topS 61
theorem sc__law_can : FnScope ["track", "slowest", "mark", "other", "extra", "time"] ["track", "slowest", "mark", "other", "extra"] (defScope s__law_can) := ⟨rfl, rfl, rfl, by decide +kernel, rfl, by decide +kernel, by decide +kernel⟩
abbrev s__law_timed_row : Stmt := topS 62
theorem sc__law_timed_row : FnScope ["pool", "track", "slowest", "many", "found", "here", "step", "mat", "extra", "low", "high"] ["pool", "track", "slowest", "many"] (defScope s__law_timed_row) := ⟨rfl, rfl, rfl, by decide +kernel, rfl, by decide +kernel, by decide +kernel⟩
def B__law_timed_row : SvS := seqS (parS 4 5 (consA (mutE (nilA)) (consA (tupE (consA (callE F__law_draw (consA (varE 0) (consA (cE (.int 9)) (nilA)))) (consA (callE F__law_draw (consA (varE 0) (consA (callE lenF (consA (varE 1) (nilA))) (nilA)))) (nilA)))) (nilA)))) (seqS (forS (callI range1F (consA (varE 3) (nilA))) (tgT (.nm 6)) (seqS (exprS (methLE appF (varE 4) (consA (varE 5) (nilA)))) (seqS (parS 7 8 (consA (callE F__law_draw (consA (varE 0) (consA (callE lenF (consA (varE 1) (nilA))) (nilA)))) (consA (callE F__law_pick (consA (varE 0) (consA (lstE (consA (cE (.int 0)) (consA (cE (.int 0)) (consA (cE (.int 1)) (consA (cE (.int 3)) (nilA)))))) (nilA)))) (nilA)))) (seqS (asgS (binE addD (callE F__law_way_v2 (consA (varE 1) (consA (binE ixD (varE 5) (cE (.int 1))) (consA (varE 7) (nilA))))) (binE mulD (varE 8) (callE sumF (consA (varE 1) (nilA))))) (nameT 9)) (seqS (asgS (binE addD (callE F__law_way_v2 (consA (varE 2) (consA (binE ixD (varE 5) (cE (.int 1))) (consA (varE 7) (nilA))))) (binE mulD (varE 8) (callE sumF (consA (varE 2) (nilA))))) (nameT 10)) (asgS (tupE (consA (binE addD (binE addD (binE ixD (varE 5) (cE (.int 0))) (varE 9)) (callE F__law_draw (consA (varE 0) (consA (binE addD (binE subD (varE 10) (varE 9)) (cE (.int 1))) (nilA))))) (consA (varE 7) (nilA)))) (nameT 5))))))) (retS (callE tupleF (consA (varE 4) (nilA)))))
def F__law_timed_row : FA := runF 4 11 B__law_timed_row
abbrev s__law_bag_right : Stmt := topS 63
theorem sc__law_bag_right : FnScope ["track", "slowest", "bag", "spans", "is_so", "steps", "due", "k", "each"] ["track", "slowest", "bag"] (defScope s__law_bag_right) := ⟨rfl, rfl, rfl, by decide +kernel, rfl, by decide +kernel, by decide +kernel⟩
abbrev s__law_marks_right : Stmt := topS 64
theorem sc__law_marks_right : FnScope ["pool", "track", "slowest", "mark", "other", "due", "some", "each"] ["pool", "track", "slowest", "mark", "other"] (defScope s__law_marks_right) := ⟨rfl, rfl, rfl, by decide +kernel, rfl, by decide +kernel, by decide +kernel⟩
def B__law_marks_right : SvS := seqS (asgS (callE F__law_span_v2 (consA (varE 1) (consA (varE 2) (consA (varE 3) (consA (varE 4) (nilA)))))) (nameT 5)) (seqS (ifS (tstE (binE neD (callE reprF (consA (lstE (consA (callE F_extra_span (consA (varE 1) (consA (varE 2) (consA (varE 3) (consA (varE 4) (nilA)))))) (consA (callKE F_extra_span nilA (consA (varE 4) (consA (varE 3) (consA (varE 2) (consA (varE 1) (nilA))))) 0 4 [3, 2, 1, 0]) (nilA)))) (nilA))) (callE reprF (consA (lstE (consA (varE 5) (consA (varE 5) (nilA)))) (nilA))))) (retS (cE (.bl false))) (passS)) (seqS (asgS (binE addD (lstE (consA (cE (.int 0)) (consA (cE (.int 1)) (consA (cE (.int 2)) (consA (callE F__law_draw (consA (varE 0) (consA (cE (.int 9)) (nilA)))) (nilA)))))) (ifE (tstE (binE notND (varE 5) (cE .non))) (lstE (consA (binE subD (binE ixD (varE 5) (cE (.int 0))) (cE (.int 1))) (consA (binE ixD (varE 5) (cE (.int 0))) (consA (binE ixD (varE 5) (cE (.int 1))) (consA (binE addD (binE ixD (varE 5) (cE (.int 1))) (cE (.int 1))) (nilA)))))) (lstE (nilA)))) (nameT 6)) (retS (binE eqD (lcE (iterE (varE 6)) (.nm 7) (andB (tstE (binE geD (varE 7) (cE (.int 0)))) (tstE (binE neD (callE F__law_can (consA (varE 1) (consA (varE 2) (consA (varE 3) (consA (varE 4) (consA (varE 7) (nilA))))))) (andE (binE notND (varE 5) (cE .non)) (chainE leD leD (binE ixD (varE 5) (cE (.int 0))) (varE 7) (binE ixD (varE 5) (cE (.int 1)))))))) (varE 7) [7]) (lstE (nilA))))))
def F__law_marks_right : FA := runF 5 8 B__law_marks_right
abbrev s__law_right : Stmt := topS 65
theorem sc__law_right : FnScope ["pool", "turn", "track", "wide", "slowest", "row", "bag", "lap", "mark", "other", "far", "each"] ["pool"] (defScope s__law_right) := ⟨rfl, rfl, rfl, by decide +kernel, rfl, by decide +kernel, by decide +kernel⟩
def B__law_right : SvS := seqS (forS (callI range1F (consA (cE (.int 6)) (nilA))) (tgT (.nm 1)) (seqS (asgS (tupE (consA (callE F__law_track (consA (varE 0) (consA (cE (.int 8)) (nilA)))) (consA (callE F__law_pick (consA (varE 0) (consA (lstE (consA (cE (.int 1)) (consA (cE (.int 3)) (consA (cE (.int 40)) (consA (binE powD (cE (.int 10)) (cE (.int 27))) (nilA)))))) (nilA)))) (nilA)))) (tupT 2 (consT (nameT 2) (consT (nameT 3) (nilT))))) (seqS (asgS (callE tupleF (consA (lcE (iterE (varE 2)) (.nm 11) (yesB) (binE addD (varE 11) (callE F__law_draw (consA (varE 0) (consA (varE 3) (nilA))))) [11]) (nilA))) (nameT 4)) (seqS (asgS (callE F__law_timed_row (consA (varE 0) (consA (varE 2) (consA (varE 4) (consA (binE addD (cE (.int 2)) (callE F__law_draw (consA (varE 0) (consA (cE (.int 6)) (nilA))))) (nilA)))))) (nameT 5)) (seqS (forS (iterE (lstE (consA (varE 5) (consA (callE F__law_drawn_row (consA (varE 0) (consA (varE 2) (consA (tupE (consA (cE (.int 0)) (consA (cE (.int 0)) (nilA)))) (consA (cE (.int 5)) (nilA)))))) (consA (callE F__law_drawn_bag (consA (varE 0) (consA (varE 2) (consA (cE (.int 3)) (nilA))))) (consA (tupE (nilA)) (consA (sliceE (varE 5) (noO) (someO (cE (.int 1)))) (nilA)))))))) (tgT (.nm 6)) (ifS (notB (tstE (callE F__law_bag_right_v2 (consA (varE 2) (consA (varE 4) (consA (varE 6) (nilA))))))) (retS (cE (.bl false))) (passS))) (seqS (ifS (orB (tstE (binE notBD (callE F_is_steady (consA (varE 2) (consA (varE 4) (consA (varE 5) (nilA))))) (cE (.bl true)))) (tstE (binE notBD (callE F_is_row (consA (varE 2) (consA (varE 5) (nilA)))) (cE (.bl true))))) (retS (cE (.bl false))) (passS)) (seqS (forS (callI range1F (consA (cE (.int 5)) (nilA))) (tgT (.nm 7)) (seqS (parS 8 9 (consA (tupE (consA (callE F__law_draw (consA (varE 0) (consA (callE F__law_pick (consA (varE 0) (consA (lstE (consA (cE (.int 9)) (consA (binE mulD (cE (.int 9)) (callE sumF (consA (varE 4) (nilA)))) (nilA)))) (nilA)))) (nilA)))) (consA (callE F__law_draw (consA (varE 0) (consA (callE lenF (consA (varE 2) (nilA))) (nilA)))) (nilA)))) (consA (tupE (consA (callE F__law_draw (consA (varE 0) (consA (cE (.int 9)) (nilA)))) (consA (callE F__law_draw (consA (varE 0) (consA (callE lenF (consA (varE 2) (nilA))) (nilA)))) (nilA)))) (nilA)))) (ifS (notB (tstE (callE F__law_marks_right (consA (varE 0) (consA (varE 2) (consA (varE 4) (consA (varE 8) (consA (varE 9) (nilA))))))))) (retS (cE (.bl false))) (passS)))) (seqS (parS 6 10 (consA (callE F__law_drawn_bag (consA (varE 0) (consA (varE 2) (consA (cE (.int 4)) (nilA))))) (consA (callE tupleF (consA (lcE (iterE (varE 2)) (.nm 11) (yesB) (binE addD (varE 11) (binE powD (cE (.int 10)) (cE (.int 29)))) [11]) (nilA))) (nilA)))) (ifS (tstE (binE neD (callE F_is_steady (consA (varE 2) (consA (varE 10) (consA (varE 6) (nilA))))) (callE F_is_row (consA (varE 2) (consA (varE 6) (nilA)))))) (retS (cE (.bl false))) (passS)))))))))) (seqS (asgS (tupE (consA (tupE (consA (cE (.int 20)) (consA (cE (.int 30)) (consA (cE (.int 40)) (nilA))))) (consA (tupE (consA (tupE (consA (cE (.int 0)) (consA (cE (.int 0)) (nilA)))) (consA (tupE (consA (cE (.int 15)) (consA (cE (.int 1)) (nilA)))) (consA (tupE (consA (cE (.int 200)) (consA (cE (.int 1)) (nilA)))) (nilA))))) (nilA)))) (tupT 2 (consT (nameT 3) (consT (nameT 6) (nilT))))) (retS (andE (binE eqD (callE F_extra_span (consA (tupE (consA (cE (.int 10)) (consA (cE (.int 20)) (consA (cE (.int 30)) (nilA))))) (consA (varE 3) (consA (tupE (consA (cE (.int 200)) (consA (cE (.int 1)) (nilA)))) (consA (tupE (consA (cE (.int 0)) (consA (cE (.int 0)) (nilA)))) (nilA)))))) (tupE (consA (cE (.int 2)) (consA (cE (.int 3)) (nilA))))) (binE eqD (callE F_crossings (consA (tupE (consA (cE (.int 10)) (consA (cE (.int 20)) (consA (cE (.int 30)) (nilA))))) (consA (varE 3) (consA (varE 6) (nilA))))) (tupE (consA (cE (.int 10)) (consA (cE (.int 10)) (nilA))))))))
def F__law_right : FA := runF 1 12 B__law_right
abbrev s_law : Stmt := topS 66
theorem sc_law : FnScope ["script", "turn"] ["script"] (defScope s_law) := ⟨rfl, rfl, rfl, by decide +kernel, rfl, by decide +kernel, by decide +kernel⟩
def B_law : SvS := seqS (forS (callI range1F (consA (callE maxF (consA (cE (.int 2)) (consA (callE minF (consA (callE lenF (consA (varE 0) (nilA))) (consA (cE (.int 3)) (nilA)))) (nilA)))) (nilA))) (tgT (.nm 1)) (ifS (notB (tstE (callE F__law_right (consA (callE F__law_pool (consA (varE 0) (consA (varE 1) (nilA)))) (nilA))))) (retS (cE (.bl false))) (passS))) (retS (cE (.bl true)))
def F_law : FA := runF 1 2 B_law
section
variable {P : Program} {w : World} {K : PySem.W.Frag} {mg : Str → Option Value} {base : Heap}
theorem ok_round_by (T : Bt mg) (S : Std K mg "round_by" s_round_by) : Kn P w K mg base "round_by" s_round_by ["track"] 1 F_round_by := by
  refine kn_of (N := ["track"]) (k := 0) (B := B_round_by) S sc_round_by rfl rfl (fun _ _ _ _ _ _ us hl => match us, hl with | [_], _ => rfl) fun f cdv A outer s' H E hr => ?_
  have nd := sc_round_by.nd
  have tk : Takes (cxOf (L2.CX P w) P w K mg base ["track"] "round_by" (defScope s_round_by) f cdv A outer s' H E) (Wd E) := takes_of rfl rfl rfl rfl
  exact s_one (s_ret (g_blt (pe_callB (cq_sum rfl) (by rfl) T.sum bt_sum (g_cons (g_blt (pe_callTy call_list_of (by rfl) T.list bt_list (g_cons (g_var 0 (pv 0)) (g_nil) rfl)) v_list) (g_nil) rfl)) v_sum))
theorem ok_sectors_from (T : Bt mg) (S : Std K mg "sectors_from" s_sectors_from) : Kn P w K mg base "sectors_from" s_sectors_from ["track", "mat"] 1 F_sectors_from := by
  refine kn_of (N := ["track", "mat"]) (k := 0) (B := B_sectors_from) S sc_sectors_from rfl rfl (fun _ _ _ _ _ _ us hl => match us, hl with | [_, _], _ => rfl) fun f cdv A outer s' H E hr => ?_
  have nd := sc_sectors_from.nd
  have tk : Takes (cxOf (L2.CX P w) P w K mg base ["track", "mat"] "sectors_from" (defScope s_sectors_from) f cdv A outer s' H E) (Wd E) := takes_of rfl rfl rfl rfl
  exact s_one (s_ret (g_lst (g_star (g_slice (g_var 0 (pv 0)) (g_some (g_var 1 (pv 1))) (g_no)) (g_star (g_slice (g_var 0 (pv 0)) (g_no) (g_some (g_var 1 (pv 1)))) (g_nil) rfl) rfl)))
theorem ok_reach_by (T : Bt mg) (S : Std K mg "reach_by" s_reach_by) (c_round_by : Kn P w K mg base "round_by" s_round_by ["track"] 1 F_round_by) (c_sectors_from : Kn P w K mg base "sectors_from" s_sectors_from ["track", "mat"] 1 F_sectors_from) : Kn P w K mg base "reach_by" s_reach_by ["track", "mat", "number"] 2 F_reach_by := by
  refine kn_of (N := ["track", "mat", "number", "rounds", "rest"]) (k := 1) (B := B_reach_by) S sc_reach_by rfl rfl (fun _ _ _ _ _ _ us hl => match us, hl with | [_, _, _], _ => rfl) fun f cdv A outer s' H E hr => ?_
  have nd := sc_reach_by.nd
  have tk : Takes (cxOf (L2.CX P w) P w K mg base ["track", "mat", "number", "rounds", "rest"] "reach_by" (defScope s_reach_by) f cdv A outer s' H E) (Wd E) := takes_of rfl rfl rfl rfl
  exact s_cons (s_asg (ps_asg (g_blt (pe_callB c_divmod (by rfl) T.divmod bt_divmod (g_cons (g_var 2 (pv 2)) (g_cons (g_blt (pe_callB c_len (by rfl) T.len bt_len (g_cons (g_var 0 (pv 0)) (g_nil) rfl)) v_len) (g_nil) rfl) rfl)) v_divmod) (t_tup (pg_tup rfl (t_cons (t_name (pg_name (i := 3) nd rfl (.inl rfl))) (t_cons (t_name (pg_name (i := 4) nd rfl (.inl rfl))) (t_nil) rfl) rfl))))) (s_one (s_ret (g_op o_add v_add (g_op o_mul v_mul (g_var 3 (pv 3)) (g_calln c_round_by (hr.mono (by decide)) (by rfl) tk (g_cons (g_var 0 (pv 0)) (g_nil) rfl) (by decide) rfl rfl)) (g_blt (pe_callB (cq_sum rfl) (by rfl) T.sum bt_sum (g_cons (g_slice (g_calln c_sectors_from (hr.mono (by decide)) (by rfl) tk (g_cons (g_var 0 (pv 0)) (g_cons (g_var 1 (pv 1)) (g_nil) rfl) rfl) (by decide) rfl rfl) (g_no) (g_some (g_var 4 (pv 4)))) (g_nil) rfl)) v_sum))))
theorem ok_steps_by (T : Bt mg) (S : Std K mg "steps_by" s_steps_by) : Kn P w K mg base "steps_by" s_steps_by ["track", "one", "other"] 1 F_steps_by := by
  refine kn_of (N := ["track", "one", "other"]) (k := 0) (B := B_steps_by) S sc_steps_by rfl rfl (fun _ _ _ _ _ _ us hl => match us, hl with | [_, _, _], _ => rfl) fun f cdv A outer s' H E hr => ?_
  have nd := sc_steps_by.nd
  have tk : Takes (cxOf (L2.CX P w) P w K mg base ["track", "one", "other"] "steps_by" (defScope s_steps_by) f cdv A outer s' H E) (Wd E) := takes_of rfl rfl rfl rfl
  exact s_one (s_ret (g_op o_add v_add (g_op op_mod v_mod (g_op op_sub v_sub (g_op op_sub v_sub (g_var 2 (pv 2)) (g_var 1 (pv 1))) (g_int)) (g_blt (pe_callB c_len (by rfl) T.len bt_len (g_cons (g_var 0 (pv 0)) (g_nil) rfl)) v_len)) (g_int)))
theorem ok_way_by (T : Bt mg) (S : Std K mg "way_by" s_way_by) (c_reach_by : Kn P w K mg base "reach_by" s_reach_by ["track", "mat", "number"] 2 F_reach_by) (c_steps_by : Kn P w K mg base "steps_by" s_steps_by ["track", "one", "other"] 1 F_steps_by) : Kn P w K mg base "way_by" s_way_by ["track", "one", "other"] 3 F_way_by := by
  refine kn_of (N := ["track", "one", "other"]) (k := 2) (B := B_way_by) S sc_way_by rfl rfl (fun _ _ _ _ _ _ us hl => match us, hl with | [_, _, _], _ => rfl) fun f cdv A outer s' H E hr => ?_
  have nd := sc_way_by.nd
  have tk : Takes (cxOf (L2.CX P w) P w K mg base ["track", "one", "other"] "way_by" (defScope s_way_by) f cdv A outer s' H E) (Wd E) := takes_of rfl rfl rfl rfl
  exact s_one (s_ret (g_calln c_reach_by (hr.mono (by decide)) (by rfl) tk (g_cons (g_var 0 (pv 0)) (g_cons (g_var 1 (pv 1)) (g_cons (g_calln c_steps_by (hr.mono (by decide)) (by rfl) tk (g_cons (g_var 0 (pv 0)) (g_cons (g_var 1 (pv 1)) (g_cons (g_var 2 (pv 2)) (g_nil) rfl) rfl) rfl) (by decide) rfl rfl) (g_nil) rfl) rfl) rfl) (by decide) rfl rfl))
theorem ok_can_follow_by (T : Bt mg) (S : Std K mg "can_follow_by" s_can_follow_by) (c_way_by : Kn P w K mg base "way_by" s_way_by ["track", "one", "other"] 3 F_way_by) : Kn P w K mg base "can_follow_by" s_can_follow_by ["track", "mark", "other"] 4 F_can_follow_by := by
  refine kn_of (N := ["track", "mark", "other"]) (k := 3) (B := B_can_follow_by) S sc_can_follow_by rfl rfl (fun _ _ _ _ _ _ us hl => match us, hl with | [_, _, _], _ => rfl) fun f cdv A outer s' H E hr => ?_
  have nd := sc_can_follow_by.nd
  have tk : Takes (cxOf (L2.CX P w) P w K mg base ["track", "mark", "other"] "can_follow_by" (defScope s_can_follow_by) f cdv A outer s' H E) (Wd E) := takes_of rfl rfl rfl rfl
  exact s_one (s_ret (g_cmp op_ge (v_cmpI _) (g_op op_sub v_sub (g_ix (g_var 1 (pv 1)) (g_int) (fun _ _ => rfl)) (g_ix (g_var 2 (pv 2)) (g_int) (fun _ _ => rfl))) (g_calln c_way_by (hr.mono (by decide)) (by rfl) tk (g_cons (g_var 0 (pv 0)) (g_cons (g_ix (g_var 2 (pv 2)) (g_int) (fun _ _ => rfl)) (g_cons (g_ix (g_var 1 (pv 1)) (g_int) (fun _ _ => rfl)) (g_nil) rfl) rfl) rfl) (by decide) rfl rfl) (nomark _)))
theorem ok_wrong_marks_by (T : Bt mg) (S : Std K mg "wrong_marks_by" s_wrong_marks_by) (c_can_follow_by : Kn P w K mg base "can_follow_by" s_can_follow_by ["track", "mark", "other"] 4 F_can_follow_by) : Kn P w K mg base "wrong_marks_by" s_wrong_marks_by ["track", "bag"] 5 F_wrong_marks_by := by
  refine kn_of (N := ["track", "bag", "at"]) (k := 4) (B := B_wrong_marks_by) S sc_wrong_marks_by rfl rfl (fun _ _ _ _ _ _ us hl => match us, hl with | [_, _], _ => rfl) fun f cdv A outer s' H E hr => ?_
  have nd := sc_wrong_marks_by.nd
  have tk : Takes (cxOf (L2.CX P w) P w K mg base ["track", "bag", "at"] "wrong_marks_by" (defScope s_wrong_marks_by) f cdv A outer s' H E) (Wd E) := takes_of rfl rfl rfl rfl
  exact s_one (s_ret (g_lc (by decide) (pe_lc (own := [("at", 2)]) rfl nd (g_range2 (pi_range2 (by rfl) T.range (g_cons (g_int) (g_cons (g_blt (pe_callB c_len (by rfl) T.len bt_len (g_cons (g_var 1 (pv 1)) (g_nil) rfl)) v_len) (g_nil) rfl) rfl))) (blkOk_by (N := ["track", "bag", "at"]) (sc := defScope s_wrong_marks_by) (by decide +kernel)) (fun _ _ _ _ _ => pg_name (i := 2) nd rfl (by first | exact .inl rfl | exact .inr rfl)) (fun _ _ _ _ _ => g_ifs (g_tnot (g_tval (g_calln c_can_follow_by (hr.mono (by decide)) (by rfl) takes0 (g_cons (g_var 0 (pv 0)) (g_cons (g_ix (g_var 1 (pv 1)) (g_var 2 (pv 2)) (fun _ _ => rfl)) (g_cons (g_ix (g_var 1 (pv 1)) (g_op op_sub v_sub (g_var 2 (pv 2)) (g_int)) (fun _ _ => rfl)) (g_nil) rfl) rfl) rfl) (by decide) rfl rfl) (by intro _; rfl)))) (fun _ _ _ _ _ => g_var 2 (pv 2)))))
theorem ok_is_row_by (T : Bt mg) (S : Std K mg "is_row_by" s_is_row_by) (c_wrong_marks_by : Kn P w K mg base "wrong_marks_by" s_wrong_marks_by ["track", "bag"] 5 F_wrong_marks_by) : Kn P w K mg base "is_row_by" s_is_row_by ["track", "bag"] 6 F_is_row_by := by
  refine kn_of (N := ["track", "bag"]) (k := 5) (B := B_is_row_by) S sc_is_row_by rfl rfl (fun _ _ _ _ _ _ us hl => match us, hl with | [_, _], _ => rfl) fun f cdv A outer s' H E hr => ?_
  have nd := sc_is_row_by.nd
  have tk : Takes (cxOf (L2.CX P w) P w K mg base ["track", "bag"] "is_row_by" (defScope s_is_row_by) f cdv A outer s' H E) (Wd E) := takes_of rfl rfl rfl rfl
  exact s_one (s_ret (g_cmp (o_eq hr.units) v_eq (g_calln c_wrong_marks_by (hr.mono (by decide)) (by rfl) tk (g_cons (g_var 0 (pv 0)) (g_cons (g_var 1 (pv 1)) (g_nil) rfl) rfl) (by decide) rfl rfl) (g_lst (g_nil)) (nomark _)))
theorem ok_is_whole (T : Bt mg) (S : Std K mg "is_whole" s_is_whole) : Kn P w K mg base "is_whole" s_is_whole ["value"] 1 F_is_whole := by
  refine kn_of (N := ["value"]) (k := 0) (B := B_is_whole) S sc_is_whole rfl rfl (fun _ _ _ _ _ _ us hl => match us, hl with | [_], _ => rfl) fun f cdv A outer s' H E hr => ?_
  have nd := sc_is_whole.nd
  have tk : Takes (cxOf (L2.CX P w) P w K mg base ["value"] "is_whole" (defScope s_is_whole) f cdv A outer s' H E) (Wd E) := takes_of rfl rfl rfl rfl
  exact s_one (s_ret (g_vand (g_isi .int (g_var 0 (pv 0)) (fun h => pe_callB call_isi (by rfl) T.isinstance bt_isinstance (pa_cons h (pa_cons (pe_bltn (by rfl) T.int bt_int rfl) pa_nil)))) (g_one (g_vnot (g_isi .bl (g_var 0 (pv 0)) (fun h => pe_callB call_isi (by rfl) T.isinstance bt_isinstance (pa_cons h (pa_cons (pe_bltn (by rfl) T.bool bt_bool rfl) pa_nil))))))))
theorem ok_is_between (T : Bt mg) (S : Std K mg "is_between" s_is_between) (c_is_whole : Kn P w K mg base "is_whole" s_is_whole ["value"] 1 F_is_whole) : Kn P w K mg base "is_between" s_is_between ["value", "low", "high"] 2 F_is_between := by
  refine kn_of (N := ["value", "low", "high"]) (k := 1) (B := B_is_between) S sc_is_between rfl rfl (fun _ _ _ _ _ _ us hl => match us, hl with | [_, _, _], _ => rfl) fun f cdv A outer s' H E hr => ?_
  have nd := sc_is_between.nd
  have tk : Takes (cxOf (L2.CX P w) P w K mg base ["value", "low", "high"] "is_between" (defScope s_is_between) f cdv A outer s' H E) (Wd E) := takes_of rfl rfl rfl rfl
  exact s_one (s_ret (g_vand (g_calln c_is_whole (hr.mono (by decide)) (by rfl) tk (g_cons (g_var 0 (pv 0)) (g_nil) rfl) (by decide) rfl rfl) (g_one (g_chain (pe_chain (o_le hr.units0) (o_le hr.units0) (g_var 1 (pv 1)) (g_var 0 (pv 0)) (g_var 2 (pv 2))) v_le v_le))))
theorem ok_is_up_to (T : Bt mg) (S : Std K mg "is_up_to" s_is_up_to) (c_is_between : Kn P w K mg base "is_between" s_is_between ["value", "low", "high"] 2 F_is_between) : Kn P w K mg base "is_up_to" s_is_up_to ["value", "most"] 3 F_is_up_to := by
  refine kn_of (N := ["value", "most"]) (k := 2) (B := B_is_up_to) S sc_is_up_to rfl rfl (fun _ _ _ _ _ _ us hl => match us, hl with | [_, _], _ => rfl) fun f cdv A outer s' H E hr => ?_
  have nd := sc_is_up_to.nd
  have tk : Takes (cxOf (L2.CX P w) P w K mg base ["value", "most"] "is_up_to" (defScope s_is_up_to) f cdv A outer s' H E) (Wd E) := takes_of rfl rfl rfl rfl
  exact s_one (s_ret (g_calln c_is_between (hr.mono (by decide)) (by rfl) tk (g_cons (g_var 0 (pv 0)) (g_cons (g_int) (g_cons (g_var 1 (pv 1)) (g_nil) rfl) rfl) rfl) (by decide) rfl rfl))
theorem ok_is_from (T : Bt mg) (S : Std K mg "is_from" s_is_from) (c_is_whole : Kn P w K mg base "is_whole" s_is_whole ["value"] 1 F_is_whole) : Kn P w K mg base "is_from" s_is_from ["value", "least"] 2 F_is_from := by
  refine kn_of (N := ["value", "least"]) (k := 1) (B := B_is_from) S sc_is_from rfl rfl (fun _ _ _ _ _ _ us hl => match us, hl with | [_, _], _ => rfl) fun f cdv A outer s' H E hr => ?_
  have nd := sc_is_from.nd
  have tk : Takes (cxOf (L2.CX P w) P w K mg base ["value", "least"] "is_from" (defScope s_is_from) f cdv A outer s' H E) (Wd E) := takes_of rfl rfl rfl rfl
  exact s_one (s_ret (g_vand (g_calln c_is_whole (hr.mono (by decide)) (by rfl) tk (g_cons (g_var 0 (pv 0)) (g_nil) rfl) (by decide) rfl rfl) (g_one (g_cmp op_ge (v_cmpI _) (g_var 0 (pv 0)) (g_var 1 (pv 1)) (nomark _)))))
theorem ok_is_tuple_up_to (T : Bt mg) (S : Std K mg "is_tuple_up_to" s_is_tuple_up_to) : Kn P w K mg base "is_tuple_up_to" s_is_tuple_up_to ["value", "low", "high"] 1 F_is_tuple_up_to := by
  refine kn_of (N := ["value", "low", "high"]) (k := 0) (B := B_is_tuple_up_to) S sc_is_tuple_up_to rfl rfl (fun _ _ _ _ _ _ us hl => match us, hl with | [_, _, _], _ => rfl) fun f cdv A outer s' H E hr => ?_
  have nd := sc_is_tuple_up_to.nd
  have tk : Takes (cxOf (L2.CX P w) P w K mg base ["value", "low", "high"] "is_tuple_up_to" (defScope s_is_tuple_up_to) f cdv A outer s' H E) (Wd E) := takes_of rfl rfl rfl rfl
  exact s_one (s_ret (g_vand (g_isi .tup (g_var 0 (pv 0)) (fun h => pe_callB call_isi (by rfl) T.isinstance bt_isinstance (pa_cons h (pa_cons (pe_bltn (by rfl) T.tuple bt_tuple rfl) pa_nil)))) (g_one (g_chain (pe_chain (o_le hr.units0) (o_le hr.units0) (g_var 1 (pv 1)) (g_blt (pe_callB c_len (by rfl) T.len bt_len (g_cons (g_var 0 (pv 0)) (g_nil) rfl)) v_len) (g_var 2 (pv 2))) v_le v_le))))
theorem ok_is_tuple_of (T : Bt mg) (S : Std K mg "is_tuple_of" s_is_tuple_of) (c_is_tuple_up_to : Kn P w K mg base "is_tuple_up_to" s_is_tuple_up_to ["value", "low", "high"] 1 F_is_tuple_up_to) : Kn P w K mg base "is_tuple_of" s_is_tuple_of ["value", "many"] 2 F_is_tuple_of := by
  refine kn_of (N := ["value", "many"]) (k := 1) (B := B_is_tuple_of) S sc_is_tuple_of rfl rfl (fun _ _ _ _ _ _ us hl => match us, hl with | [_, _], _ => rfl) fun f cdv A outer s' H E hr => ?_
  have nd := sc_is_tuple_of.nd
  have tk : Takes (cxOf (L2.CX P w) P w K mg base ["value", "many"] "is_tuple_of" (defScope s_is_tuple_of) f cdv A outer s' H E) (Wd E) := takes_of rfl rfl rfl rfl
  exact s_one (s_ret (g_calln c_is_tuple_up_to (hr.mono (by decide)) (by rfl) tk (g_cons (g_var 0 (pv 0)) (g_cons (g_var 1 (pv 1)) (g_cons (g_var 1 (pv 1)) (g_nil) rfl) rfl) rfl) (by decide) rfl rfl))
theorem ok_is_pair (T : Bt mg) (S : Std K mg "is_pair" s_is_pair) (c_is_tuple_of : Kn P w K mg base "is_tuple_of" s_is_tuple_of ["value", "many"] 2 F_is_tuple_of) : Kn P w K mg base "is_pair" s_is_pair ["value"] 3 F_is_pair := by
  refine kn_of (N := ["value"]) (k := 2) (B := B_is_pair) S sc_is_pair rfl rfl (fun _ _ _ _ _ _ us hl => match us, hl with | [_], _ => rfl) fun f cdv A outer s' H E hr => ?_
  have nd := sc_is_pair.nd
  have tk : Takes (cxOf (L2.CX P w) P w K mg base ["value"] "is_pair" (defScope s_is_pair) f cdv A outer s' H E) (Wd E) := takes_of rfl rfl rfl rfl
  exact s_one (s_ret (g_calln c_is_tuple_of (hr.mono (by decide)) (by rfl) tk (g_cons (g_var 0 (pv 0)) (g_cons (g_int) (g_nil) rfl) rfl) (by decide) rfl rfl))
theorem ok_is_track_of (T : Bt mg) (S : Std K mg "is_track_of" s_is_track_of) (c_is_tuple_up_to : Kn P w K mg base "is_tuple_up_to" s_is_tuple_up_to ["value", "low", "high"] 1 F_is_tuple_up_to) (c_is_from : Kn P w K mg base "is_from" s_is_from ["value", "least"] 2 F_is_from) : Kn P w K mg base "is_track_of" s_is_track_of ["value"] 3 F_is_track_of := by
  refine kn_of (N := ["value", "each"]) (k := 2) (B := B_is_track_of) S sc_is_track_of rfl rfl (fun _ _ _ _ _ _ us hl => match us, hl with | [_], _ => rfl) fun f cdv A outer s' H E hr => ?_
  have nd := sc_is_track_of.nd
  have tk : Takes (cxOf (L2.CX P w) P w K mg base ["value", "each"] "is_track_of" (defScope s_is_track_of) f cdv A outer s' H E) (Wd E) := takes_of rfl rfl rfl rfl
  exact s_one (s_ret (g_vand (g_calln c_is_tuple_up_to (hr.mono (by decide)) (by rfl) tk (g_cons (g_var 0 (pv 0)) (g_cons (g_int) (g_cons (g_globI (by rfl) T.MOST_MATS (by decide)) (g_nil) rfl) rfl) rfl) (by decide) rfl rfl) (g_one (g_blt (pe_callB (cq_all rfl) (by rfl) T.all bt_all (g_cons (g_lc (by decide) (pe_lc (own := [("each", 1)]) rfl nd (g_iter (g_var 0 (pv 0))) (blkOk_by (N := ["value", "each"]) (sc := defScope s_is_track_of) (by decide +kernel)) (fun _ _ _ _ _ => pg_name (i := 1) nd rfl (by first | exact .inl rfl | exact .inr rfl)) (fun _ _ _ _ _ => g_yes) (fun _ _ _ _ _ => g_calln c_is_from (hr.mono (by decide)) (by rfl) takes0 (g_cons (g_var 1 (pv 1)) (g_cons (g_int) (g_nil) rfl) rfl) (by decide) rfl rfl))) (g_nil) rfl)) v_all))))
theorem ok_is_mat_of (T : Bt mg) (S : Std K mg "is_mat_of" s_is_mat_of) (c_is_up_to : Kn P w K mg base "is_up_to" s_is_up_to ["value", "most"] 3 F_is_up_to) : Kn P w K mg base "is_mat_of" s_is_mat_of ["track", "value"] 4 F_is_mat_of := by
  refine kn_of (N := ["track", "value"]) (k := 3) (B := B_is_mat_of) S sc_is_mat_of rfl rfl (fun _ _ _ _ _ _ us hl => match us, hl with | [_, _], _ => rfl) fun f cdv A outer s' H E hr => ?_
  have nd := sc_is_mat_of.nd
  have tk : Takes (cxOf (L2.CX P w) P w K mg base ["track", "value"] "is_mat_of" (defScope s_is_mat_of) f cdv A outer s' H E) (Wd E) := takes_of rfl rfl rfl rfl
  exact s_one (s_ret (g_calln c_is_up_to (hr.mono (by decide)) (by rfl) tk (g_cons (g_var 1 (pv 1)) (g_cons (g_op op_sub v_sub (g_blt (pe_callB c_len (by rfl) T.len bt_len (g_cons (g_var 0 (pv 0)) (g_nil) rfl)) v_len) (g_int)) (g_nil) rfl) rfl) (by decide) rfl rfl))
theorem ok_is_mark_of (T : Bt mg) (S : Std K mg "is_mark_of" s_is_mark_of) (c_is_pair : Kn P w K mg base "is_pair" s_is_pair ["value"] 3 F_is_pair) (c_is_from : Kn P w K mg base "is_from" s_is_from ["value", "least"] 2 F_is_from) (c_is_mat_of : Kn P w K mg base "is_mat_of" s_is_mat_of ["track", "value"] 4 F_is_mat_of) : Kn P w K mg base "is_mark_of" s_is_mark_of ["track", "value"] 5 F_is_mark_of := by
  refine kn_of (N := ["track", "value"]) (k := 4) (B := B_is_mark_of) S sc_is_mark_of rfl rfl (fun _ _ _ _ _ _ us hl => match us, hl with | [_, _], _ => rfl) fun f cdv A outer s' H E hr => ?_
  have nd := sc_is_mark_of.nd
  have tk : Takes (cxOf (L2.CX P w) P w K mg base ["track", "value"] "is_mark_of" (defScope s_is_mark_of) f cdv A outer s' H E) (Wd E) := takes_of rfl rfl rfl rfl
  exact s_one (s_ret (g_vand (g_calln c_is_pair (hr.mono (by decide)) (by rfl) tk (g_cons (g_var 1 (pv 1)) (g_nil) rfl) (by decide) rfl rfl) (g_vand (g_calln c_is_from (hr.mono (by decide)) (by rfl) tk (g_cons (g_ix (g_var 1 (pv 1)) (g_int) (fun _ _ => rfl)) (g_cons (g_int) (g_nil) rfl) rfl) (by decide) rfl rfl) (g_one (g_calln c_is_mat_of (hr.mono (by decide)) (by rfl) tk (g_cons (g_var 0 (pv 0)) (g_cons (g_ix (g_var 1 (pv 1)) (g_int) (fun _ _ => rfl)) (g_nil) rfl) rfl) (by decide) rfl rfl)))))
theorem ok_wrong_in_bag (T : Bt mg) (S : Std K mg "wrong_in_bag" s_wrong_in_bag) (c_is_tuple_up_to : Kn P w K mg base "is_tuple_up_to" s_is_tuple_up_to ["value", "low", "high"] 1 F_is_tuple_up_to) (c_is_mark_of : Kn P w K mg base "is_mark_of" s_is_mark_of ["track", "value"] 5 F_is_mark_of) : Kn P w K mg base "wrong_in_bag" s_wrong_in_bag ["track", "value"] 6 F_wrong_in_bag := by
  refine kn_of (N := ["track", "value", "index", "mark"]) (k := 5) (B := B_wrong_in_bag) S sc_wrong_in_bag rfl rfl (fun _ _ _ _ _ _ us hl => match us, hl with | [_, _], _ => rfl) fun f cdv A outer s' H E hr => ?_
  have nd := sc_wrong_in_bag.nd
  have tk : Takes (cxOf (L2.CX P w) P w K mg base ["track", "value", "index", "mark"] "wrong_in_bag" (defScope s_wrong_in_bag) f cdv A outer s' H E) (Wd E) := takes_of rfl rfl rfl rfl
  exact s_cons (s_if (g_tnot (g_tval (g_calln c_is_tuple_up_to (hr.mono (by decide)) (by rfl) tk (g_cons (g_var 1 (pv 1)) (g_cons (g_int) (g_cons (g_globI (by rfl) T.MOST_MARKS (by decide)) (g_nil) rfl) rfl) rfl) (by decide) rfl rfl) (by intro _; rfl))) (s_one (s_ret (g_lst (g_cons (g_non) (g_nil) rfl)))) (s_nil)) (s_cons (s_for (ps_for (passes_of rfl) rfl (g_enum (pi_enumB (by rfl) T.enumerate (g_cons (g_var 1 (pv 1)) (g_nil) rfl))) (t_tg (t := .tp [.nm 2, .nm 3]) (pg_tup rfl (pgs_cons (pg_name (i := 2) nd rfl (by first | exact .inl rfl | exact .inr rfl)) (pgs_cons (pg_name (i := 3) nd rfl (by first | exact .inl rfl | exact .inr rfl)) (pgs_nil))))) (s_one (s_if ((g_or (g_tnot (g_tval (g_calln c_is_mark_of (hr.mono (by decide)) (by rfl) tk (g_cons (g_var 0 (pv 0)) (g_cons (g_var 3 (pv 3)) (g_nil) rfl) rfl) (by decide) rfl rfl) (by intro _; rfl))) (g_or1 ((g_and (g_tcmp op_gt (v_cmpI _) (g_var 2 (pv 2)) (g_int) (nomark _)) (g_and1 (g_tcmp (o_le hr.units0) v_le (g_var 3 (pv 3)) (g_ix (g_var 1 (pv 1)) (g_op op_sub v_sub (g_var 2 (pv 2)) (g_int)) (fun _ _ => rfl)) (nomark _)))).pt))).pt) (s_one (s_ret (g_lst (g_cons (g_var 2 (pv 2)) (g_nil) rfl)))) (s_nil))))) (s_one (s_ret (g_lst (g_nil)))))
theorem ok_check_track (T : Bt mg) (S : Std K mg "check_track" s_check_track) (c_is_track_of : Kn P w K mg base "is_track_of" s_is_track_of ["value"] 3 F_is_track_of) : Kn P w K mg base "check_track" s_check_track ["track"] 4 F_check_track := by
  refine kn_of (N := ["track"]) (k := 3) (B := B_check_track) S sc_check_track rfl rfl (fun _ _ _ _ _ _ us hl => match us, hl with | [_], _ => rfl) fun f cdv A outer s' H E hr => ?_
  have nd := sc_check_track.nd
  have tk : Takes (cxOf (L2.CX P w) P w K mg base ["track"] "check_track" (defScope s_check_track) f cdv A outer s' H E) (Wd E) := takes_of rfl rfl rfl rfl
  exact s_one (s_if (g_tnot (g_tval (g_calln c_is_track_of (hr.mono (by decide)) (by rfl) tk (g_cons (g_var 0 (pv 0)) (g_nil) rfl) (by decide) rfl rfl) (by intro _; rfl))) (s_one (s_never)) (s_nil))
theorem ok_check_mark (T : Bt mg) (S : Std K mg "check_mark" s_check_mark) (c_is_mark_of : Kn P w K mg base "is_mark_of" s_is_mark_of ["track", "value"] 5 F_is_mark_of) : Kn P w K mg base "check_mark" s_check_mark ["track", "mark"] 6 F_check_mark := by
  refine kn_of (N := ["track", "mark"]) (k := 5) (B := B_check_mark) S sc_check_mark rfl rfl (fun _ _ _ _ _ _ us hl => match us, hl with | [_, _], _ => rfl) fun f cdv A outer s' H E hr => ?_
  have nd := sc_check_mark.nd
  have tk : Takes (cxOf (L2.CX P w) P w K mg base ["track", "mark"] "check_mark" (defScope s_check_mark) f cdv A outer s' H E) (Wd E) := takes_of rfl rfl rfl rfl
  exact s_one (s_if (g_tnot (g_tval (g_calln c_is_mark_of (hr.mono (by decide)) (by rfl) tk (g_cons (g_var 0 (pv 0)) (g_cons (g_var 1 (pv 1)) (g_nil) rfl) rfl) (by decide) rfl rfl) (by intro _; rfl))) (s_one (s_never)) (s_nil))
theorem ok_check_bag (T : Bt mg) (S : Std K mg "check_bag" s_check_bag) (c_wrong_in_bag : Kn P w K mg base "wrong_in_bag" s_wrong_in_bag ["track", "value"] 6 F_wrong_in_bag) : Kn P w K mg base "check_bag" s_check_bag ["track", "bag"] 7 F_check_bag := by
  refine kn_of (N := ["track", "bag", "index"]) (k := 6) (B := B_check_bag) S sc_check_bag rfl rfl (fun _ _ _ _ _ _ us hl => match us, hl with | [_, _], _ => rfl) fun f cdv A outer s' H E hr => ?_
  have nd := sc_check_bag.nd
  have tk : Takes (cxOf (L2.CX P w) P w K mg base ["track", "bag", "index"] "check_bag" (defScope s_check_bag) f cdv A outer s' H E) (Wd E) := takes_of rfl rfl rfl rfl
  exact s_one (s_for (ps_for (passes_of rfl) rfl (g_iter (g_calln c_wrong_in_bag (hr.mono (by decide)) (by rfl) tk (g_cons (g_var 0 (pv 0)) (g_cons (g_var 1 (pv 1)) (g_nil) rfl) rfl) (by decide) rfl rfl)) (t_tg (t := .nm 2) (pg_name (i := 2) nd rfl (by first | exact .inl rfl | exact .inr rfl))) (s_one (s_never))))
theorem ok_wrong_in_slowest (T : Bt mg) (S : Std K mg "wrong_in_slowest" s_wrong_in_slowest) (c_is_tuple_of : Kn P w K mg base "is_tuple_of" s_is_tuple_of ["value", "many"] 2 F_is_tuple_of) (c_is_from : Kn P w K mg base "is_from" s_is_from ["value", "least"] 2 F_is_from) : Kn P w K mg base "wrong_in_slowest" s_wrong_in_slowest ["track", "value"] 3 F_wrong_in_slowest := by
  refine kn_of (N := ["track", "value", "index", "each"]) (k := 2) (B := B_wrong_in_slowest) S sc_wrong_in_slowest rfl rfl (fun _ _ _ _ _ _ us hl => match us, hl with | [_, _], _ => rfl) fun f cdv A outer s' H E hr => ?_
  have nd := sc_wrong_in_slowest.nd
  have tk : Takes (cxOf (L2.CX P w) P w K mg base ["track", "value", "index", "each"] "wrong_in_slowest" (defScope s_wrong_in_slowest) f cdv A outer s' H E) (Wd E) := takes_of rfl rfl rfl rfl
  exact s_cons (s_if (g_tnot (g_tval (g_calln c_is_tuple_of (hr.mono (by decide)) (by rfl) tk (g_cons (g_var 1 (pv 1)) (g_cons (g_blt (pe_callB c_len (by rfl) T.len bt_len (g_cons (g_var 0 (pv 0)) (g_nil) rfl)) v_len) (g_nil) rfl) rfl) (by decide) rfl rfl) (by intro _; rfl))) (s_one (s_ret (g_lst (g_cons (g_non) (g_nil) rfl)))) (s_nil)) (s_one (s_ret (g_slice (g_lc (by decide) (pe_lc (own := [("index", 2), ("each", 3)]) rfl nd (g_enum (pi_enumB (by rfl) T.enumerate (g_cons (g_var 1 (pv 1)) (g_nil) rfl))) (blkOk_by (N := ["track", "value", "index", "each"]) (sc := defScope s_wrong_in_slowest) (by decide +kernel)) (fun _ _ _ _ _ => pg_tup rfl (pgs_cons (pg_name (i := 2) nd rfl (by first | exact .inl rfl | exact .inr rfl)) (pgs_cons (pg_name (i := 3) nd rfl (by first | exact .inl rfl | exact .inr rfl)) (pgs_nil)))) (fun _ _ _ _ _ => g_ifs (g_tnot (g_tval (g_calln c_is_from (hr.mono (by decide)) (by rfl) takes0 (g_cons (g_var 3 (pv 3)) (g_cons (g_ix (g_var 0 (pv 0)) (g_var 2 (pv 2)) (fun _ _ => rfl)) (g_nil) rfl) rfl) (by decide) rfl rfl) (by intro _; rfl)))) (fun _ _ _ _ _ => g_var 2 (pv 2)))) (g_no) (g_some (g_int)))))
theorem ok_rounded_up (T : Bt mg) (S : Std K mg "rounded_up" s_rounded_up) : Kn P w K mg base "rounded_up" s_rounded_up ["number", "divisor"] 1 F_rounded_up := by
  refine kn_of (N := ["number", "divisor"]) (k := 0) (B := B_rounded_up) S sc_rounded_up rfl rfl (fun _ _ _ _ _ _ us hl => match us, hl with | [_, _], _ => rfl) fun f cdv A outer s' H E hr => ?_
  have nd := sc_rounded_up.nd
  have tk : Takes (cxOf (L2.CX P w) P w K mg base ["number", "divisor"] "rounded_up" (defScope s_rounded_up) f cdv A outer s' H E) (Wd E) := takes_of rfl rfl rfl rfl
  exact s_one (s_ret (g_un un_neg v_neg (g_op op_fdivW v_fdiv (g_un un_neg v_neg (g_var 0 (pv 0))) (g_var 1 (pv 1)))))
theorem ok_extra_span_by (T : Bt mg) (S : Std K mg "extra_span_by" s_extra_span_by) (c_way_by : Kn P w K mg base "way_by" s_way_by ["track", "one", "other"] 3 F_way_by) (c_round_by : Kn P w K mg base "round_by" s_round_by ["track"] 1 F_round_by) (c_rounded_up : Kn P w K mg base "rounded_up" s_rounded_up ["number", "divisor"] 1 F_rounded_up) : Kn P w K mg base "extra_span_by" s_extra_span_by ["track", "slowest", "mark", "other"] 4 F_extra_span_by := by
  refine kn_of (N := ["track", "slowest", "mark", "other", "time", "most", "least"]) (k := 3) (B := B_extra_span_by) S sc_extra_span_by rfl rfl (fun _ _ _ _ _ _ us hl => match us, hl with | [_, _, _, _], _ => rfl) fun f cdv A outer s' H E hr => ?_
  have nd := sc_extra_span_by.nd
  have tk : Takes (cxOf (L2.CX P w) P w K mg base ["track", "slowest", "mark", "other", "time", "most", "least"] "extra_span_by" (defScope s_extra_span_by) f cdv A outer s' H E) (Wd E) := takes_of rfl rfl rfl rfl
  exact s_cons (s_set (ps_set (i := 4) nd rfl (.inl rfl) (g_op op_sub v_sub (g_ix (g_var 2 (pv 2)) (g_int) (fun _ _ => rfl)) (g_ix (g_var 3 (pv 3)) (g_int) (fun _ _ => rfl))))) (s_cons (s_set (ps_set (i := 5) nd rfl (.inl rfl) (g_op op_fdivW v_fdiv (g_op op_sub v_sub (g_var 4 (pv 4)) (g_calln c_way_by (hr.mono (by decide)) (by rfl) tk (g_cons (g_var 0 (pv 0)) (g_cons (g_ix (g_var 3 (pv 3)) (g_int) (fun _ _ => rfl)) (g_cons (g_ix (g_var 2 (pv 2)) (g_int) (fun _ _ => rfl)) (g_nil) rfl) rfl) rfl) (by decide) rfl rfl)) (g_calln c_round_by (hr.mono (by decide)) (by rfl) tk (g_cons (g_var 0 (pv 0)) (g_nil) rfl) (by decide) rfl rfl)))) (s_cons (s_set (ps_set (i := 6) nd rfl (.inl rfl) (g_blt (pe_callB (c_max rfl) (by rfl) T.max bt_max (g_cons (g_int) (g_cons (g_calln c_rounded_up (hr.mono (by decide)) (by rfl) tk (g_cons (g_op op_sub v_sub (g_var 4 (pv 4)) (g_calln c_way_by (hr.mono (by decide)) (by rfl) tk (g_cons (g_var 1 (pv 1)) (g_cons (g_ix (g_var 3 (pv 3)) (g_int) (fun _ _ => rfl)) (g_cons (g_ix (g_var 2 (pv 2)) (g_int) (fun _ _ => rfl)) (g_nil) rfl) rfl) rfl) (by decide) rfl rfl)) (g_cons (g_calln c_round_by (hr.mono (by decide)) (by rfl) tk (g_cons (g_var 1 (pv 1)) (g_nil) rfl) (by decide) rfl rfl) (g_nil) rfl) rfl) (by decide) rfl rfl) (g_nil) rfl) rfl)) v_max))) (s_one (s_ret (g_if (g_tcmp (o_le hr.units0) v_le (g_var 6 (pv 6)) (g_var 5 (pv 5)) (nomark _)) (g_lst (g_cons (g_tup (g_cons (g_var 6 (pv 6)) (g_cons (g_var 5 (pv 5)) (g_nil) rfl) rfl)) (g_nil) rfl)) (g_lst (g_nil)))))))
theorem ok_extra_spans_by (T : Bt mg) (S : Std K mg "extra_spans_by" s_extra_spans_by) (c_extra_span_by : Kn P w K mg base "extra_span_by" s_extra_span_by ["track", "slowest", "mark", "other"] 4 F_extra_span_by) : Kn P w K mg base "extra_spans_by" s_extra_spans_by ["track", "slowest", "bag"] 5 F_extra_spans_by := by
  refine kn_of (N := ["track", "slowest", "bag", "found", "one", "two"]) (k := 4) (B := B_extra_spans_by) S sc_extra_spans_by rfl rfl (fun _ _ _ _ _ _ us hl => match us, hl with | [_, _, _], _ => rfl) fun f cdv A outer s' H E hr => ?_
  have nd := sc_extra_spans_by.nd
  have tk : Takes (cxOf (L2.CX P w) P w K mg base ["track", "slowest", "bag", "found", "one", "two"] "extra_spans_by" (defScope s_extra_spans_by) f cdv A outer s' H E) (Wd E) := takes_of rfl rfl rfl rfl
  exact s_cons (s_set (ps_set (i := 3) nd rfl (.inl rfl) (g_mut (g_nil)))) (s_cons (s_for (ps_for (passes_of rfl) rfl (g_zip (RZ.pi_zipA (by rfl) T.zip (g_cons (g_var 2 (pv 2)) (g_cons (g_slice (g_var 2 (pv 2)) (g_some (g_int)) (g_no)) (g_nil) rfl) rfl))) (t_tg (t := .tp [.nm 4, .nm 5]) (pg_tup rfl (pgs_cons (pg_name (i := 4) nd rfl (by first | exact .inl rfl | exact .inr rfl)) (pgs_cons (pg_name (i := 5) nd rfl (by first | exact .inl rfl | exact .inr rfl)) (pgs_nil))))) (s_one (s_expr (g_methL (pe_bm PySem.F.plainAttrs_list PySem.F.slot_list_extend PySem.F.type_list_extend mt_extend (g_var 3 (pv 3)) (g_cons (g_calln c_extra_span_by (hr.mono (by decide)) (by rfl) tk (g_cons (g_var 0 (pv 0)) (g_cons (g_var 1 (pv 1)) (g_cons (g_var 5 (pv 5)) (g_cons (g_var 4 (pv 4)) (g_nil) rfl) rfl) rfl) rfl) (by decide) rfl rfl) (g_nil) rfl)) v_extend) rfl)))) (s_one (s_ret (g_if (g_tcmp (o_eq hr.units) v_eq (g_blt (pe_callB c_len (by rfl) T.len bt_len (g_cons (g_var 3 (pv 3)) (g_nil) rfl)) v_len) (g_blt (pe_callB (c_max rfl) (by rfl) T.max bt_max (g_cons (g_int) (g_cons (g_op op_sub v_sub (g_blt (pe_callB c_len (by rfl) T.len bt_len (g_cons (g_var 2 (pv 2)) (g_nil) rfl)) v_len) (g_int)) (g_nil) rfl) rfl)) v_max) (nomark _)) (g_var 3 (pv 3)) (g_non)))))
theorem ok_is_steady_by (T : Bt mg) (S : Std K mg "is_steady_by" s_is_steady_by) (c_extra_spans_by : Kn P w K mg base "extra_spans_by" s_extra_spans_by ["track", "slowest", "bag"] 5 F_extra_spans_by) : Kn P w K mg base "is_steady_by" s_is_steady_by ["track", "slowest", "bag"] 6 F_is_steady_by := by
  refine kn_of (N := ["track", "slowest", "bag"]) (k := 5) (B := B_is_steady_by) S sc_is_steady_by rfl rfl (fun _ _ _ _ _ _ us hl => match us, hl with | [_, _, _], _ => rfl) fun f cdv A outer s' H E hr => ?_
  have nd := sc_is_steady_by.nd
  have tk : Takes (cxOf (L2.CX P w) P w K mg base ["track", "slowest", "bag"] "is_steady_by" (defScope s_is_steady_by) f cdv A outer s' H E) (Wd E) := takes_of rfl rfl rfl rfl
  exact s_one (s_ret (g_cmp op_notN v_notN (g_calln c_extra_spans_by (hr.mono (by decide)) (by rfl) tk (g_cons (g_var 0 (pv 0)) (g_cons (g_var 1 (pv 1)) (g_cons (g_var 2 (pv 2)) (g_nil) rfl) rfl) rfl) (by decide) rfl rfl) (g_non) (nomark _)))
theorem ok_least_crossings (T : Bt mg) (S : Std K mg "least_crossings" s_least_crossings) (c_steps_by : Kn P w K mg base "steps_by" s_steps_by ["track", "one", "other"] 1 F_steps_by) : Kn P w K mg base "least_crossings" s_least_crossings ["track", "bag"] 2 F_least_crossings := by
  refine kn_of (N := ["track", "bag", "one", "two"]) (k := 1) (B := B_least_crossings) S sc_least_crossings rfl rfl (fun _ _ _ _ _ _ us hl => match us, hl with | [_, _], _ => rfl) fun f cdv A outer s' H E hr => ?_
  have nd := sc_least_crossings.nd
  have tk : Takes (cxOf (L2.CX P w) P w K mg base ["track", "bag", "one", "two"] "least_crossings" (defScope s_least_crossings) f cdv A outer s' H E) (Wd E) := takes_of rfl rfl rfl rfl
  exact s_one (s_ret (g_blt (pe_callB (cq_sum rfl) (by rfl) T.sum bt_sum (g_cons (g_lc (by decide) (pe_lc (own := [("one", 2), ("two", 3)]) rfl nd (g_zip (RZ.pi_zipA (by rfl) T.zip (g_cons (g_var 1 (pv 1)) (g_cons (g_slice (g_var 1 (pv 1)) (g_some (g_int)) (g_no)) (g_nil) rfl) rfl))) (blkOk_by (N := ["track", "bag", "one", "two"]) (sc := defScope s_least_crossings) (by decide +kernel)) (fun _ _ _ _ _ => pg_tup rfl (pgs_cons (pg_name (i := 2) nd rfl (by first | exact .inl rfl | exact .inr rfl)) (pgs_cons (pg_name (i := 3) nd rfl (by first | exact .inl rfl | exact .inr rfl)) (pgs_nil)))) (fun _ _ _ _ _ => g_yes) (fun _ _ _ _ _ => g_calln c_steps_by (hr.mono (by decide)) (by rfl) takes0 (g_cons (g_var 0 (pv 0)) (g_cons (g_ix (g_var 2 (pv 2)) (g_int) (fun _ _ => rfl)) (g_cons (g_ix (g_var 3 (pv 3)) (g_int) (fun _ _ => rfl)) (g_nil) rfl) rfl) rfl) (by decide) rfl rfl))) (g_nil) rfl)) v_sum))
theorem ok_crossings_by (T : Bt mg) (S : Std K mg "crossings_by" s_crossings_by) (c_extra_spans_by : Kn P w K mg base "extra_spans_by" s_extra_spans_by ["track", "slowest", "bag"] 5 F_extra_spans_by) (c_least_crossings : Kn P w K mg base "least_crossings" s_least_crossings ["track", "bag"] 2 F_least_crossings) : Kn P w K mg base "crossings_by" s_crossings_by ["track", "slowest", "bag"] 6 F_crossings_by := by
  refine kn_of (N := ["track", "slowest", "bag", "spans", "count", "least", "most", "low", "high"]) (k := 5) (B := B_crossings_by) S sc_crossings_by rfl rfl (fun _ _ _ _ _ _ us hl => match us, hl with | [_, _, _], _ => rfl) fun f cdv A outer s' H E hr => ?_
  have nd := sc_crossings_by.nd
  have tk : Takes (cxOf (L2.CX P w) P w K mg base ["track", "slowest", "bag", "spans", "count", "least", "most", "low", "high"] "crossings_by" (defScope s_crossings_by) f cdv A outer s' H E) (Wd E) := takes_of rfl rfl rfl rfl
  exact s_cons (s_par (ps_par (i := 3) (j := 4) rfl nd rfl rfl (by decide) rfl rfl (g_cons (g_calln c_extra_spans_by (hr.mono (by decide)) (by rfl) tk (g_cons (g_var 0 (pv 0)) (g_cons (g_var 1 (pv 1)) (g_cons (g_var 2 (pv 2)) (g_nil) rfl) rfl) rfl) (by decide) rfl rfl) (g_cons (g_calln c_least_crossings (hr.mono (by decide)) (by rfl) tk (g_cons (g_var 0 (pv 0)) (g_cons (g_var 2 (pv 2)) (g_nil) rfl) rfl) (by decide) rfl rfl) (g_nil) rfl) rfl) (by rfl))) (s_cons (s_par (ps_par (i := 5) (j := 6) rfl nd rfl rfl (by decide) rfl rfl (g_cons (g_blt (pe_callB (cq_sum rfl) (by rfl) T.sum bt_sum (g_cons (g_lc (by decide) (pe_lc (own := [("low", 7), ("high", 8)]) rfl nd (g_iter (g_var 3 (pv 3))) (blkOk_by (N := ["track", "slowest", "bag", "spans", "count", "least", "most", "low", "high"]) (sc := defScope s_crossings_by) (by decide +kernel)) (fun _ _ _ _ _ => pg_tup rfl (pgs_cons (pg_name (i := 7) nd rfl (by first | exact .inl rfl | exact .inr rfl)) (pgs_cons (pg_name (i := 8) nd rfl (by first | exact .inl rfl | exact .inr rfl)) (pgs_nil)))) (fun _ _ _ _ _ => g_yes) (fun _ _ _ _ _ => g_var 7 (pv 7)))) (g_nil) rfl)) v_sum) (g_cons (g_blt (pe_callB (cq_sum rfl) (by rfl) T.sum bt_sum (g_cons (g_lc (by decide) (pe_lc (own := [("low", 7), ("high", 8)]) rfl nd (g_iter (g_var 3 (pv 3))) (blkOk_by (N := ["track", "slowest", "bag", "spans", "count", "least", "most", "low", "high"]) (sc := defScope s_crossings_by) (by decide +kernel)) (fun _ _ _ _ _ => pg_tup rfl (pgs_cons (pg_name (i := 7) nd rfl (by first | exact .inl rfl | exact .inr rfl)) (pgs_cons (pg_name (i := 8) nd rfl (by first | exact .inl rfl | exact .inr rfl)) (pgs_nil)))) (fun _ _ _ _ _ => g_yes) (fun _ _ _ _ _ => g_var 8 (pv 8)))) (g_nil) rfl)) v_sum) (g_nil) rfl) rfl) (by rfl))) (s_one (s_ret (g_tup (g_cons (g_op o_add v_add (g_var 4 (pv 4)) (g_op o_mul v_mul (g_blt (pe_callB c_len (by rfl) T.len bt_len (g_cons (g_var 0 (pv 0)) (g_nil) rfl)) v_len) (g_var 5 (pv 5)))) (g_cons (g_op o_add v_add (g_var 4 (pv 4)) (g_op o_mul v_mul (g_blt (pe_callB c_len (by rfl) T.len bt_len (g_cons (g_var 0 (pv 0)) (g_nil) rfl)) v_len) (g_var 6 (pv 6)))) (g_nil) rfl) rfl)))))
theorem ok_check_slowest (T : Bt mg) (S : Std K mg "check_slowest" s_check_slowest) (c_check_track : Kn P w K mg base "check_track" s_check_track ["track"] 4 F_check_track) (c_wrong_in_slowest : Kn P w K mg base "wrong_in_slowest" s_wrong_in_slowest ["track", "value"] 3 F_wrong_in_slowest) : Kn P w K mg base "check_slowest" s_check_slowest ["track", "slowest"] 5 F_check_slowest := by
  refine kn_of (N := ["track", "slowest", "index"]) (k := 4) (B := B_check_slowest) S sc_check_slowest rfl rfl (fun _ _ _ _ _ _ us hl => match us, hl with | [_, _], _ => rfl) fun f cdv A outer s' H E hr => ?_
  have nd := sc_check_slowest.nd
  have tk : Takes (cxOf (L2.CX P w) P w K mg base ["track", "slowest", "index"] "check_slowest" (defScope s_check_slowest) f cdv A outer s' H E) (Wd E) := takes_of rfl rfl rfl rfl
  exact s_cons (s_expr (g_calln c_check_track (hr.mono (by decide)) (by rfl) tk (g_cons (g_var 0 (pv 0)) (g_nil) rfl) (by decide) rfl rfl) rfl) (s_one (s_for (ps_for (passes_of rfl) rfl (g_iter (g_calln c_wrong_in_slowest (hr.mono (by decide)) (by rfl) tk (g_cons (g_var 0 (pv 0)) (g_cons (g_var 1 (pv 1)) (g_nil) rfl) rfl) (by decide) rfl rfl)) (t_tg (t := .nm 2) (pg_name (i := 2) nd rfl (by first | exact .inl rfl | exact .inr rfl))) (s_one (s_never)))))
theorem ok_extra_span (T : Bt mg) (S : Std K mg "extra_span" s_extra_span) (c_check_slowest : Kn P w K mg base "check_slowest" s_check_slowest ["track", "slowest"] 5 F_check_slowest) (c_check_mark : Kn P w K mg base "check_mark" s_check_mark ["track", "mark"] 6 F_check_mark) (c_extra_span_by : Kn P w K mg base "extra_span_by" s_extra_span_by ["track", "slowest", "mark", "other"] 4 F_extra_span_by) : Kn P w K mg base "extra_span" s_extra_span ["track", "slowest", "mark", "other"] 7 F_extra_span := by
  refine kn_of (N := ["track", "slowest", "mark", "other", "found"]) (k := 6) (B := B_extra_span) S sc_extra_span rfl rfl (fun _ _ _ _ _ _ us hl => match us, hl with | [_, _, _, _], _ => rfl) fun f cdv A outer s' H E hr => ?_
  have nd := sc_extra_span.nd
  have tk : Takes (cxOf (L2.CX P w) P w K mg base ["track", "slowest", "mark", "other", "found"] "extra_span" (defScope s_extra_span) f cdv A outer s' H E) (Wd E) := takes_of rfl rfl rfl rfl
  exact s_cons (s_expr (g_calln c_check_slowest (hr.mono (by decide)) (by rfl) tk (g_cons (g_var 0 (pv 0)) (g_cons (g_var 1 (pv 1)) (g_nil) rfl) rfl) (by decide) rfl rfl) rfl) (s_cons (s_expr (g_calln c_check_mark (hr.mono (by decide)) (by rfl) tk (g_cons (g_var 0 (pv 0)) (g_cons (g_var 2 (pv 2)) (g_nil) rfl) rfl) (by decide) rfl rfl) rfl) (s_cons (s_expr (g_calln c_check_mark (hr.mono (by decide)) (by rfl) tk (g_cons (g_var 0 (pv 0)) (g_cons (g_var 3 (pv 3)) (g_nil) rfl) rfl) (by decide) rfl rfl) rfl) (s_cons (s_set (ps_set (i := 4) nd rfl (.inl rfl) (g_calln c_extra_span_by (hr.mono (by decide)) (by rfl) tk (g_cons (g_var 0 (pv 0)) (g_cons (g_var 1 (pv 1)) (g_cons (g_var 2 (pv 2)) (g_cons (g_var 3 (pv 3)) (g_nil) rfl) rfl) rfl) rfl) (by decide) rfl rfl))) (s_one (s_ret (g_if (g_tcmp (o_ne hr.units) v_ne (g_var 4 (pv 4)) (g_lst (g_nil)) (nomark _)) (g_ix (g_var 4 (pv 4)) (g_int) (fun _ _ => rfl)) (g_non)))))))
theorem ok_is_steady (T : Bt mg) (S : Std K mg "is_steady" s_is_steady) (c_check_slowest : Kn P w K mg base "check_slowest" s_check_slowest ["track", "slowest"] 5 F_check_slowest) (c_check_bag : Kn P w K mg base "check_bag" s_check_bag ["track", "bag"] 7 F_check_bag) (c_is_steady_by : Kn P w K mg base "is_steady_by" s_is_steady_by ["track", "slowest", "bag"] 6 F_is_steady_by) : Kn P w K mg base "is_steady" s_is_steady ["track", "slowest", "bag"] 8 F_is_steady := by
  refine kn_of (N := ["track", "slowest", "bag"]) (k := 7) (B := B_is_steady) S sc_is_steady rfl rfl (fun _ _ _ _ _ _ us hl => match us, hl with | [_, _, _], _ => rfl) fun f cdv A outer s' H E hr => ?_
  have nd := sc_is_steady.nd
  have tk : Takes (cxOf (L2.CX P w) P w K mg base ["track", "slowest", "bag"] "is_steady" (defScope s_is_steady) f cdv A outer s' H E) (Wd E) := takes_of rfl rfl rfl rfl
  exact s_cons (s_expr (g_calln c_check_slowest (hr.mono (by decide)) (by rfl) tk (g_cons (g_var 0 (pv 0)) (g_cons (g_var 1 (pv 1)) (g_nil) rfl) rfl) (by decide) rfl rfl) rfl) (s_cons (s_expr (g_calln c_check_bag (hr.mono (by decide)) (by rfl) tk (g_cons (g_var 0 (pv 0)) (g_cons (g_var 2 (pv 2)) (g_nil) rfl) rfl) (by decide) rfl rfl) rfl) (s_one (s_ret (g_calln c_is_steady_by (hr.mono (by decide)) (by rfl) tk (g_cons (g_var 0 (pv 0)) (g_cons (g_var 1 (pv 1)) (g_cons (g_var 2 (pv 2)) (g_nil) rfl) rfl) rfl) (by decide) rfl rfl))))
theorem ok_crossings (T : Bt mg) (S : Std K mg "crossings" s_crossings) (c_check_slowest : Kn P w K mg base "check_slowest" s_check_slowest ["track", "slowest"] 5 F_check_slowest) (c_check_bag : Kn P w K mg base "check_bag" s_check_bag ["track", "bag"] 7 F_check_bag) (c_is_steady_by : Kn P w K mg base "is_steady_by" s_is_steady_by ["track", "slowest", "bag"] 6 F_is_steady_by) (c_crossings_by : Kn P w K mg base "crossings_by" s_crossings_by ["track", "slowest", "bag"] 6 F_crossings_by) : Kn P w K mg base "crossings" s_crossings ["track", "slowest", "bag"] 8 F_crossings := by
  refine kn_of (N := ["track", "slowest", "bag"]) (k := 7) (B := B_crossings) S sc_crossings rfl rfl (fun _ _ _ _ _ _ us hl => match us, hl with | [_, _, _], _ => rfl) fun f cdv A outer s' H E hr => ?_
  have nd := sc_crossings.nd
  have tk : Takes (cxOf (L2.CX P w) P w K mg base ["track", "slowest", "bag"] "crossings" (defScope s_crossings) f cdv A outer s' H E) (Wd E) := takes_of rfl rfl rfl rfl
  exact s_cons (s_expr (g_calln c_check_slowest (hr.mono (by decide)) (by rfl) tk (g_cons (g_var 0 (pv 0)) (g_cons (g_var 1 (pv 1)) (g_nil) rfl) rfl) (by decide) rfl rfl) rfl) (s_cons (s_expr (g_calln c_check_bag (hr.mono (by decide)) (by rfl) tk (g_cons (g_var 0 (pv 0)) (g_cons (g_var 2 (pv 2)) (g_nil) rfl) rfl) (by decide) rfl rfl) rfl) (s_cons (s_if ((g_or (g_tcmp (o_eq hr.units) v_eq (g_var 2 (pv 2)) (g_tup (g_nil)) (nomark _)) (g_or1 (g_tnot (g_tval (g_calln c_is_steady_by (hr.mono (by decide)) (by rfl) tk (g_cons (g_var 0 (pv 0)) (g_cons (g_var 1 (pv 1)) (g_cons (g_var 2 (pv 2)) (g_nil) rfl) rfl) rfl) (by decide) rfl rfl) (by intro _; rfl))))).pt) (s_one (s_never)) (s_nil)) (s_one (s_ret (g_calln c_crossings_by (hr.mono (by decide)) (by rfl) tk (g_cons (g_var 0 (pv 0)) (g_cons (g_var 1 (pv 1)) (g_cons (g_var 2 (pv 2)) (g_nil) rfl) rfl) rfl) (by decide) rfl rfl)))))
theorem ok_check_tracked (T : Bt mg) (S : Std K mg "check_tracked" s_check_tracked) (c_check_track : Kn P w K mg base "check_track" s_check_track ["track"] 4 F_check_track) (c_check_bag : Kn P w K mg base "check_bag" s_check_bag ["track", "bag"] 7 F_check_bag) : Kn P w K mg base "check_tracked" s_check_tracked ["track", "bag"] 8 F_check_tracked := by
  refine kn_of (N := ["track", "bag"]) (k := 7) (B := B_check_tracked) S sc_check_tracked rfl rfl (fun _ _ _ _ _ _ us hl => match us, hl with | [_, _], _ => rfl) fun f cdv A outer s' H E hr => ?_
  have nd := sc_check_tracked.nd
  have tk : Takes (cxOf (L2.CX P w) P w K mg base ["track", "bag"] "check_tracked" (defScope s_check_tracked) f cdv A outer s' H E) (Wd E) := takes_of rfl rfl rfl rfl
  exact s_cons (s_expr (g_calln c_check_track (hr.mono (by decide)) (by rfl) tk (g_cons (g_var 0 (pv 0)) (g_nil) rfl) (by decide) rfl rfl) rfl) (s_one (s_expr (g_calln c_check_bag (hr.mono (by decide)) (by rfl) tk (g_cons (g_var 0 (pv 0)) (g_cons (g_var 1 (pv 1)) (g_nil) rfl) rfl) (by decide) rfl rfl) rfl))
theorem ok_is_row (T : Bt mg) (S : Std K mg "is_row" s_is_row) (c_check_tracked : Kn P w K mg base "check_tracked" s_check_tracked ["track", "bag"] 8 F_check_tracked) (c_is_row_by : Kn P w K mg base "is_row_by" s_is_row_by ["track", "bag"] 6 F_is_row_by) : Kn P w K mg base "is_row" s_is_row ["track", "bag"] 9 F_is_row := by
  refine kn_of (N := ["track", "bag"]) (k := 8) (B := B_is_row) S sc_is_row rfl rfl (fun _ _ _ _ _ _ us hl => match us, hl with | [_, _], _ => rfl) fun f cdv A outer s' H E hr => ?_
  have nd := sc_is_row.nd
  have tk : Takes (cxOf (L2.CX P w) P w K mg base ["track", "bag"] "is_row" (defScope s_is_row) f cdv A outer s' H E) (Wd E) := takes_of rfl rfl rfl rfl
  exact s_cons (s_expr (g_calln c_check_tracked (hr.mono (by decide)) (by rfl) tk (g_cons (g_var 0 (pv 0)) (g_cons (g_var 1 (pv 1)) (g_nil) rfl) rfl) (by decide) rfl rfl) rfl) (s_one (s_ret (g_calln c_is_row_by (hr.mono (by decide)) (by rfl) tk (g_cons (g_var 0 (pv 0)) (g_cons (g_var 1 (pv 1)) (g_nil) rfl) rfl) (by decide) rfl rfl)))
theorem ok__law_pool (T : Bt mg) (S : Std K mg "_law_pool" s__law_pool) : Kn P w K mg base "_law_pool" s__law_pool ["script", "turn"] 1 F__law_pool := by
  refine kn_of (N := ["script", "turn", "own", "stirred", "cell"]) (k := 0) (B := B__law_pool) S sc__law_pool rfl rfl (fun _ _ _ _ _ _ us hl => match us, hl with | [_, _], _ => rfl) fun f cdv A outer s' H E hr => ?_
  have nd := sc__law_pool.nd
  have tk : Takes (cxOf (L2.CX P w) P w K mg base ["script", "turn", "own", "stirred", "cell"] "_law_pool" (defScope s__law_pool) f cdv A outer s' H E) (Wd E) := takes_of rfl rfl rfl rfl
  exact s_cons (s_par (ps_par (i := 2) (j := 3) rfl nd rfl rfl (by decide) rfl rfl (g_cons (g_if (g_tcmp (o_lt hr.units0) v_lt (g_var 1 (pv 1)) (g_blt (pe_callB c_len (by rfl) T.len bt_len (g_cons (g_var 0 (pv 0)) (g_nil) rfl)) v_len) (nomark _)) (g_blt (pe_callTy call_int1 (by rfl) T.int bt_int (g_cons (g_ix (g_var 0 (pv 0)) (g_var 1 (pv 1)) (fun _ _ => rfl)) (g_nil) rfl)) v_int) (g_op o_add v_add (g_op o_mul v_mul (g_int) (g_var 1 (pv 1))) (g_int))) (g_cons (g_op o_add v_add (g_int) (g_op o_mul v_mul (g_int) (g_var 1 (pv 1)))) (g_nil) rfl) rfl) (by rfl))) (s_cons (s_for (ps_for (passes_of rfl) rfl (g_iter (g_slice (g_var 0 (pv 0)) (g_no) (g_some (g_int)))) (t_tg (t := .nm 4) (pg_name (i := 4) nd rfl (by first | exact .inl rfl | exact .inr rfl))) (s_one (s_set (ps_set (i := 3) nd rfl (.inl rfl) (g_op op_mod v_mod (g_blt (pe_callTy call_int1 (by rfl) T.int bt_int (g_cons (g_op o_add v_add (g_op o_add v_add (g_op o_mul v_mul (g_var 3 (pv 3)) (g_int)) (g_op op_mod v_mod (g_blt (pe_callTy call_int1 (by rfl) T.int bt_int (g_cons (g_var 4 (pv 4)) (g_nil) rfl)) v_int) (g_int))) (g_int)) (g_nil) rfl)) v_int) (g_int))))))) (s_one (s_ret (g_mut (g_cons (g_op op_mod v_mod (g_blt (pe_callTy call_int1 (by rfl) T.int bt_int (g_cons (g_op o_add v_add (g_var 3 (pv 3)) (g_op o_mul v_mul (g_var 2 (pv 2)) (g_int))) (g_nil) rfl)) v_int) (g_int)) (g_cons (g_if ((g_or (g_tcmp (o_lt hr.units0) v_lt (g_var 2 (pv 2)) (g_int) (nomark _)) (g_or1 (g_tcmp op_ge (v_cmpI _) (g_var 2 (pv 2)) (g_op op_pow v_pow (g_int) (g_int)) (nomark _)))).pt) (g_blt (pe_callB call_abs (by rfl) T.abs bt_abs (g_cons (g_var 2 (pv 2)) (g_nil) rfl)) v_abs) (g_int)) (g_cons (g_int) (g_nil) rfl) rfl) rfl)))))
theorem ok__law_draw (T : Bt mg) (S : Std K mg "_law_draw" s__law_draw) : Kn P w K mg base "_law_draw" s__law_draw ["pool", "many"] 1 F__law_draw := by
  refine kn_of (N := ["pool", "many", "figure", "held"]) (k := 0) (B := B__law_draw) S sc__law_draw rfl rfl (fun _ _ _ _ _ _ us hl => match us, hl with | [_, _], _ => rfl) fun f cdv A outer s' H E hr => ?_
  have nd := sc__law_draw.nd
  have tk : Takes (cxOf (L2.CX P w) P w K mg base ["pool", "many", "figure", "held"] "_law_draw" (defScope s__law_draw) f cdv A outer s' H E) (Wd E) := takes_of rfl rfl rfl rfl
  exact s_cons (s_if (g_tcmp op_gt (v_cmpI _) (g_ix (g_var 0 (pv 0)) (g_int) (fun _ _ => rfl)) (g_int) (nomark _)) (s_cons (s_asg (ps_asg (g_blt (pe_callB c_divmod (by rfl) T.divmod bt_divmod (g_cons (g_ix (g_var 0 (pv 0)) (g_int) (fun _ _ => rfl)) (g_cons (g_var 1 (pv 1)) (g_nil) rfl) rfl)) v_divmod) (t_tup (pg_tup rfl (t_cons (t_sub (g_var 0 (pv 0)) (g_int) (pg_sub (g_var 0 (pv 0)) (g_int) set_list)) (t_cons (t_name (pg_name (i := 2) nd rfl (.inl rfl))) (t_nil) rfl) rfl))))) (s_one (s_ret (g_var 2 (pv 2))))) (s_nil)) (s_cons (s_asg (ps_asg (g_op o_add v_add (g_ix (g_var 0 (pv 0)) (g_int) (fun _ _ => rfl)) (g_int)) (t_sub (g_var 0 (pv 0)) (g_int) (pg_sub (g_var 0 (pv 0)) (g_int) set_list)))) (s_cons (s_set (ps_set (i := 3) nd rfl (.inl rfl) (g_blt (pe_callTy call_int1 (by rfl) T.int bt_int (g_cons (g_ix (g_var 0 (pv 0)) (g_int) (fun _ _ => rfl)) (g_nil) rfl)) v_int))) (s_cons (s_asg (ps_asg (g_op op_mod v_mod (g_blt (pe_callTy call_int1 (by rfl) T.int bt_int (g_cons (g_op o_add v_add (g_op o_add v_add (g_op o_mul v_mul (g_var 3 (pv 3)) (g_op o_add v_add (g_op op_mod v_mod (g_var 3 (pv 3)) (g_int)) (g_int))) (g_op o_mul v_mul (g_int) (g_ix (g_var 0 (pv 0)) (g_int) (fun _ _ => rfl)))) (g_int)) (g_nil) rfl)) v_int) (g_int)) (t_sub (g_var 0 (pv 0)) (g_int) (pg_sub (g_var 0 (pv 0)) (g_int) set_list)))) (s_one (s_ret (g_op op_mod v_mod (g_blt (pe_callTy call_int1 (by rfl) T.int bt_int (g_cons (g_op op_fdivW v_fdiv (g_ix (g_var 0 (pv 0)) (g_int) (fun _ _ => rfl)) (g_int)) (g_nil) rfl)) v_int) (g_var 1 (pv 1))))))))
theorem ok__law_pick (T : Bt mg) (S : Std K mg "_law_pick" s__law_pick) (c__law_draw : Kn P w K mg base "_law_draw" s__law_draw ["pool", "many"] 1 F__law_draw) : Kn P w K mg base "_law_pick" s__law_pick ["pool", "some"] 2 F__law_pick := by
  refine kn_of (N := ["pool", "some"]) (k := 1) (B := B__law_pick) S sc__law_pick rfl rfl (fun _ _ _ _ _ _ us hl => match us, hl with | [_, _], _ => rfl) fun f cdv A outer s' H E hr => ?_
  have nd := sc__law_pick.nd
  have tk : Takes (cxOf (L2.CX P w) P w K mg base ["pool", "some"] "_law_pick" (defScope s__law_pick) f cdv A outer s' H E) (Wd E) := takes_of rfl rfl rfl rfl
  exact s_one (s_ret (g_ix (g_var 1 (pv 1)) (g_calln c__law_draw (hr.mono (by decide)) (by rfl) tk (g_cons (g_var 0 (pv 0)) (g_cons (g_blt (pe_callB c_len (by rfl) T.len bt_len (g_cons (g_var 1 (pv 1)) (g_nil) rfl)) v_len) (g_nil) rfl) rfl) (by decide) rfl rfl) (fun _ _ => rfl)))
theorem ok__law_way (T : Bt mg) (S : Std K mg "_law_way" s__law_way) : Kn P w K mg base "_law_way" s__law_way ["track", "one", "two"] 1 F__law_way_v2 := by
  refine kn_of (N := ["track", "one", "two", "found", "step", "here"]) (k := 0) (B := B__law_way_v2) S sc__law_way rfl rfl (fun _ _ _ _ _ _ us hl => match us, hl with | [_, _, _], _ => rfl) fun f cdv A outer s' H E hr => ?_
  have nd := sc__law_way.nd
  have tk : Takes (cxOf (L2.CX P w) P w K mg base ["track", "one", "two", "found", "step", "here"] "_law_way" (defScope s__law_way) f cdv A outer s' H E) (Wd E) := takes_of rfl rfl rfl rfl
  exact s_cons (s_set (ps_set (i := 3) nd rfl (.inl rfl) (g_ix (g_var 0 (pv 0)) (g_var 1 (pv 1)) (fun _ _ => rfl)))) (s_cons (s_for (ps_for (passes_of rfl) rfl (g_range2 (pi_range2 (by rfl) T.range (g_cons (g_int) (g_cons (g_blt (pe_callB c_len (by rfl) T.len bt_len (g_cons (g_var 0 (pv 0)) (g_nil) rfl)) v_len) (g_nil) rfl) rfl))) (t_tg (t := .nm 4) (pg_name (i := 4) nd rfl (by first | exact .inl rfl | exact .inr rfl))) (s_cons (s_set (ps_set (i := 5) nd rfl (.inl rfl) (g_op op_mod v_mod (g_blt (pe_callTy call_int1 (by rfl) T.int bt_int (g_cons (g_op o_add v_add (g_var 1 (pv 1)) (g_var 4 (pv 4))) (g_nil) rfl)) v_int) (g_blt (pe_callB c_len (by rfl) T.len bt_len (g_cons (g_var 0 (pv 0)) (g_nil) rfl)) v_len)))) (s_cons (s_if (g_tcmp (o_eq hr.units) v_eq (g_var 5 (pv 5)) (g_var 2 (pv 2)) (nomark _)) (s_one (s_ret (g_var 3 (pv 3)))) (s_nil)) (s_one (s_set (ps_set (i := 3) nd rfl (.inl rfl) (g_op o_add v_add (g_var 3 (pv 3)) (g_ix (g_var 0 (pv 0)) (g_var 5 (pv 5)) (fun _ _ => rfl)))))))))) (s_one (s_ret (g_var 3 (pv 3)))))
theorem ok__law_steps (T : Bt mg) (S : Std K mg "_law_steps" s__law_steps) : Kn P w K mg base "_law_steps" s__law_steps ["track", "one", "two"] 1 F__law_steps_v3 := by
  refine kn_of (N := ["track", "one", "two", "found"]) (k := 0) (B := B__law_steps_v3) S sc__law_steps rfl rfl (fun _ _ _ _ _ _ us hl => match us, hl with | [_, _, _], _ => rfl) fun f cdv A outer s' H E hr => ?_
  have nd := sc__law_steps.nd
  have tk : Takes (cxOf (L2.CX P w) P w K mg base ["track", "one", "two", "found"] "_law_steps" (defScope s__law_steps) f cdv A outer s' H E) (Wd E) := takes_of rfl rfl rfl rfl
  exact s_cons (s_set (ps_set (i := 3) nd rfl (.inl rfl) (g_op op_mod v_mod (g_blt (pe_callTy call_int1 (by rfl) T.int bt_int (g_cons (g_op op_sub v_sub (g_var 2 (pv 2)) (g_var 1 (pv 1))) (g_nil) rfl)) v_int) (g_blt (pe_callB c_len (by rfl) T.len bt_len (g_cons (g_var 0 (pv 0)) (g_nil) rfl)) v_len)))) (s_one (s_ret (g_if (g_tcmp op_gt (v_cmpI _) (g_var 3 (pv 3)) (g_int) (nomark _)) (g_var 3 (pv 3)) (g_blt (pe_callB c_len (by rfl) T.len bt_len (g_cons (g_var 0 (pv 0)) (g_nil) rfl)) v_len))))
theorem ok__law_track (T : Bt mg) (S : Std K mg "_law_track" s__law_track) (c__law_pick : Kn P w K mg base "_law_pick" s__law_pick ["pool", "some"] 2 F__law_pick) (c__law_draw : Kn P w K mg base "_law_draw" s__law_draw ["pool", "many"] 1 F__law_draw) : Kn P w K mg base "_law_track" s__law_track ["pool", "most"] 3 F__law_track := by
  refine kn_of (N := ["pool", "most", "high", "mat"]) (k := 2) (B := B__law_track) S sc__law_track rfl rfl (fun _ _ _ _ _ _ us hl => match us, hl with | [_, _], _ => rfl) fun f cdv A outer s' H E hr => ?_
  have nd := sc__law_track.nd
  have tk : Takes (cxOf (L2.CX P w) P w K mg base ["pool", "most", "high", "mat"] "_law_track" (defScope s__law_track) f cdv A outer s' H E) (Wd E) := takes_of rfl rfl rfl rfl
  exact s_cons (s_set (ps_set (i := 2) nd rfl (.inr rfl) (g_calln c__law_pick (hr.mono (by decide)) (by rfl) tk (g_cons (g_var 0 (pv 0)) (g_cons (g_lst (g_cons (g_int) (g_cons (g_int) (g_cons (g_int) (g_cons (g_op op_pow v_pow (g_int) (g_int)) (g_nil) rfl) rfl) rfl) rfl)) (g_nil) rfl) rfl) (by decide) rfl rfl))) (s_one (s_ret (g_blt (pe_callTy call_tuple_of (by rfl) T.tuple bt_tuple (g_cons (g_lc (by decide) (pe_lc (own := [("mat", 3)]) rfl nd (g_range1 (pi_range1 (by rfl) T.range (g_cons (g_op o_add v_add (g_int) (g_calln c__law_draw (hr.mono (by decide)) (by rfl) tk (g_cons (g_var 0 (pv 0)) (g_cons (g_var 1 (pv 1)) (g_nil) rfl) rfl) (by decide) rfl rfl)) (g_nil) rfl))) (blkOk_by (N := ["pool", "most", "high", "mat"]) (sc := defScope s__law_track) (by decide +kernel)) (fun _ _ _ _ _ => pg_name (i := 3) nd rfl (by first | exact .inl rfl | exact .inr rfl)) (fun _ _ _ _ _ => g_yes) (fun _ _ _ _ _ => g_op o_add v_add (g_int) (g_calln c__law_draw (hr.mono (by decide)) (by rfl) takes0 (g_cons (g_var 0 (pv 0)) (g_cons (g_var 2 (pv 2)) (g_nil) rfl) rfl) (by decide) rfl rfl)))) (g_nil) rfl)) v_tuple)))
theorem ok__law_drawn_row (T : Bt mg) (S : Std K mg "_law_drawn_row" s__law_drawn_row) (c__law_pick : Kn P w K mg base "_law_pick" s__law_pick ["pool", "some"] 2 F__law_pick) (c__law_draw : Kn P w K mg base "_law_draw" s__law_draw ["pool", "many"] 1 F__law_draw) (c__law_way : Kn P w K mg base "_law_way" s__law_way ["track", "one", "two"] 1 F__law_way_v2) : Kn P w K mg base "_law_drawn_row" s__law_drawn_row ["pool", "track", "start", "many"] 3 F__law_drawn_row := by
  refine kn_of (N := ["pool", "track", "start", "many", "found", "here", "high", "step", "mat", "later"]) (k := 2) (B := B__law_drawn_row) S sc__law_drawn_row rfl rfl (fun _ _ _ _ _ _ us hl => match us, hl with | [_, _, _, _], _ => rfl) fun f cdv A outer s' H E hr => ?_
  have nd := sc__law_drawn_row.nd
  have tk : Takes (cxOf (L2.CX P w) P w K mg base ["pool", "track", "start", "many", "found", "here", "high", "step", "mat", "later"] "_law_drawn_row" (defScope s__law_drawn_row) f cdv A outer s' H E) (Wd E) := takes_of rfl rfl rfl rfl
  exact s_cons (s_par3 (ps_par3 (i := 4) (j := 5) (l := 6) rfl nd rfl rfl rfl (by decide) (by decide) (by decide) rfl rfl rfl (g_cons (g_mut (g_nil)) (g_cons (g_var 2 (pv 2)) (g_cons (g_calln c__law_pick (hr.mono (by decide)) (by rfl) tk (g_cons (g_var 0 (pv 0)) (g_cons (g_lst (g_cons (g_int) (g_cons (g_int) (g_cons (g_op o_mul v_mul (g_int) (g_blt (pe_callB (cq_sum rfl) (by rfl) T.sum bt_sum (g_cons (g_var 1 (pv 1)) (g_nil) rfl)) v_sum)) (g_nil) rfl) rfl) rfl)) (g_nil) rfl) rfl) (by decide) rfl rfl) (g_nil) rfl) rfl) rfl) (by rfl))) (s_cons (s_for (ps_for (passes_of rfl) rfl (g_range1 (pi_range1 (by rfl) T.range (g_cons (g_var 3 (pv 3)) (g_nil) rfl))) (t_tg (t := .nm 7) (pg_name (i := 7) nd rfl (by first | exact .inl rfl | exact .inr rfl))) (s_cons (s_set (ps_set (i := 8) nd rfl (.inl rfl) (g_calln c__law_draw (hr.mono (by decide)) (by rfl) tk (g_cons (g_var 0 (pv 0)) (g_cons (g_blt (pe_callB c_len (by rfl) T.len bt_len (g_cons (g_var 1 (pv 1)) (g_nil) rfl)) v_len) (g_nil) rfl) rfl) (by decide) rfl rfl))) (s_cons (s_set (ps_set (i := 9) nd rfl (.inl rfl) (g_op o_add v_add (g_op o_add v_add (g_ix (g_var 5 (pv 5)) (g_int) (fun _ _ => rfl)) (g_calln c__law_way (hr.mono (by decide)) (by rfl) tk (g_cons (g_var 1 (pv 1)) (g_cons (g_ix (g_var 5 (pv 5)) (g_int) (fun _ _ => rfl)) (g_cons (g_var 8 (pv 8)) (g_nil) rfl) rfl) rfl) (by decide) rfl rfl)) (g_calln c__law_pick (hr.mono (by decide)) (by rfl) tk (g_cons (g_var 0 (pv 0)) (g_cons (g_lst (g_cons (g_int) (g_cons (g_calln c__law_draw (hr.mono (by decide)) (by rfl) tk (g_cons (g_var 0 (pv 0)) (g_cons (g_var 6 (pv 6)) (g_nil) rfl) rfl) (by decide) rfl rfl) (g_cons (g_op o_mul v_mul (g_blt (pe_callB (cq_sum rfl) (by rfl) T.sum bt_sum (g_cons (g_var 1 (pv 1)) (g_nil) rfl)) v_sum) (g_calln c__law_draw (hr.mono (by decide)) (by rfl) tk (g_cons (g_var 0 (pv 0)) (g_cons (g_int) (g_nil) rfl) rfl) (by decide) rfl rfl)) (g_nil) rfl) rfl) rfl)) (g_nil) rfl) rfl) (by decide) rfl rfl)))) (s_cons (s_set (ps_set (i := 5) nd rfl (.inl rfl) (g_tup (g_cons (g_var 9 (pv 9)) (g_cons (g_var 8 (pv 8)) (g_nil) rfl) rfl)))) (s_one (s_expr (g_methL (pe_bm PySem.F.plainAttrs_list PySem.F.slot_list_append PySem.F.type_list_append mt_append (g_var 4 (pv 4)) (g_cons (g_var 5 (pv 5)) (g_nil) rfl)) v_append) rfl))))))) (s_one (s_ret (g_blt (pe_callTy call_tuple_of (by rfl) T.tuple bt_tuple (g_cons (g_var 4 (pv 4)) (g_nil) rfl)) v_tuple))))
theorem ok__law_drawn_bag (T : Bt mg) (S : Std K mg "_law_drawn_bag" s__law_drawn_bag) (c__law_pick : Kn P w K mg base "_law_pick" s__law_pick ["pool", "some"] 2 F__law_pick) (c__law_draw : Kn P w K mg base "_law_draw" s__law_draw ["pool", "many"] 1 F__law_draw) : Kn P w K mg base "_law_drawn_bag" s__law_drawn_bag ["pool", "track", "many"] 3 F__law_drawn_bag := by
  refine kn_of (N := ["pool", "track", "many", "found", "high", "step"]) (k := 2) (B := B__law_drawn_bag) S sc__law_drawn_bag rfl rfl (fun _ _ _ _ _ _ us hl => match us, hl with | [_, _, _], _ => rfl) fun f cdv A outer s' H E hr => ?_
  have nd := sc__law_drawn_bag.nd
  have tk : Takes (cxOf (L2.CX P w) P w K mg base ["pool", "track", "many", "found", "high", "step"] "_law_drawn_bag" (defScope s__law_drawn_bag) f cdv A outer s' H E) (Wd E) := takes_of rfl rfl rfl rfl
  exact s_cons (s_par (ps_par (i := 3) (j := 4) rfl nd rfl rfl (by decide) rfl rfl (g_cons (g_newT) (g_cons (g_calln c__law_pick (hr.mono (by decide)) (by rfl) tk (g_cons (g_var 0 (pv 0)) (g_cons (g_lst (g_cons (g_int) (g_cons (g_int) (g_cons (g_op o_mul v_mul (g_int) (g_blt (pe_callB (cq_sum rfl) (by rfl) T.sum bt_sum (g_cons (g_var 1 (pv 1)) (g_nil) rfl)) v_sum)) (g_nil) rfl) rfl) rfl)) (g_nil) rfl) rfl) (by decide) rfl rfl) (g_nil) rfl) rfl) (by rfl))) (s_cons (s_for (ps_for (passes_of rfl) rfl (g_range1 (pi_range1 (by rfl) T.range (g_cons (g_var 2 (pv 2)) (g_nil) rfl))) (t_tg (t := .nm 5) (pg_name (i := 5) nd rfl (by first | exact .inl rfl | exact .inr rfl))) (s_one (s_putT (ps_dput (room1 hr) (g_var 3 (pv 3)) (pe_tup (g_cons (g_calln c__law_draw (hr.mono (by decide)) (by rfl) tk (g_cons (g_var 0 (pv 0)) (g_cons (g_var 4 (pv 4)) (g_nil) rfl) rfl) (by decide) rfl rfl) (g_cons (g_calln c__law_draw (hr.mono (by decide)) (by rfl) tk (g_cons (g_var 0 (pv 0)) (g_cons (g_blt (pe_callB c_len (by rfl) T.len bt_len (g_cons (g_var 1 (pv 1)) (g_nil) rfl)) v_len) (g_nil) rfl) rfl) (by decide) rfl rfl) (g_nil) rfl) rfl)) (g_bl) rfl))))) (s_one (s_ret (g_blt (pe_callTy call_tuple_of (by rfl) T.tuple bt_tuple (g_cons (g_blt (pe_callB cr_sortedPQ (by rfl) T.sorted bt_sorted (g_cons (g_blt (pe_callTy (call_list_dT rfl) (by rfl) T.list bt_list (g_cons (g_var 3 (pv 3)) (g_nil) rfl)) v_listT) (g_nil) rfl)) v_srt) (g_nil) rfl)) v_tuple))))
theorem ok__law_span (T : Bt mg) (S : Std K mg "_law_span" s__law_span) (c__law_way : Kn P w K mg base "_law_way" s__law_way ["track", "one", "two"] 1 F__law_way_v2) : Kn P w K mg base "_law_span" s__law_span ["track", "slowest", "mark", "other"] 2 F__law_span_v2 := by
  refine kn_of (N := ["track", "slowest", "mark", "other", "time", "way", "slow", "most", "least"]) (k := 1) (B := B__law_span_v2) S sc__law_span rfl rfl (fun _ _ _ _ _ _ us hl => match us, hl with | [_, _, _, _], _ => rfl) fun f cdv A outer s' H E hr => ?_
  have nd := sc__law_span.nd
  have tk : Takes (cxOf (L2.CX P w) P w K mg base ["track", "slowest", "mark", "other", "time", "way", "slow", "most", "least"] "_law_span" (defScope s__law_span) f cdv A outer s' H E) (Wd E) := takes_of rfl rfl rfl rfl
  exact s_cons (s_par3 (ps_par3 (i := 4) (j := 5) (l := 6) rfl nd rfl rfl rfl (by decide) (by decide) (by decide) rfl rfl rfl (g_cons (g_op op_sub v_sub (g_ix (g_var 2 (pv 2)) (g_int) (fun _ _ => rfl)) (g_ix (g_var 3 (pv 3)) (g_int) (fun _ _ => rfl))) (g_cons (g_calln c__law_way (hr.mono (by decide)) (by rfl) tk (g_cons (g_var 0 (pv 0)) (g_cons (g_ix (g_var 3 (pv 3)) (g_int) (fun _ _ => rfl)) (g_cons (g_ix (g_var 2 (pv 2)) (g_int) (fun _ _ => rfl)) (g_nil) rfl) rfl) rfl) (by decide) rfl rfl) (g_cons (g_calln c__law_way (hr.mono (by decide)) (by rfl) tk (g_cons (g_var 1 (pv 1)) (g_cons (g_ix (g_var 3 (pv 3)) (g_int) (fun _ _ => rfl)) (g_cons (g_ix (g_var 2 (pv 2)) (g_int) (fun _ _ => rfl)) (g_nil) rfl) rfl) rfl) (by decide) rfl rfl) (g_nil) rfl) rfl) rfl) (by rfl))) (s_cons (s_set (ps_set (i := 7) nd rfl (.inl rfl) (g_op op_fdivW v_fdiv (g_op op_sub v_sub (g_var 4 (pv 4)) (g_var 5 (pv 5))) (g_blt (pe_callB (cq_sum rfl) (by rfl) T.sum bt_sum (g_cons (g_var 0 (pv 0)) (g_nil) rfl)) v_sum)))) (s_cons (s_set (ps_set (i := 8) nd rfl (.inl rfl) (g_blt (pe_callB (c_max rfl) (by rfl) T.max bt_max (g_cons (g_int) (g_cons (g_op op_sub v_sub (g_int) (g_op op_fdivW v_fdiv (g_op op_sub v_sub (g_var 6 (pv 6)) (g_var 4 (pv 4))) (g_blt (pe_callB (cq_sum rfl) (by rfl) T.sum bt_sum (g_cons (g_var 1 (pv 1)) (g_nil) rfl)) v_sum))) (g_nil) rfl) rfl)) v_max))) (s_one (s_ret (g_if (g_tcmp (o_le hr.units0) v_le (g_var 8 (pv 8)) (g_var 7 (pv 7)) (nomark _)) (g_tup (g_cons (g_var 8 (pv 8)) (g_cons (g_var 7 (pv 7)) (g_nil) rfl) rfl)) (g_non))))))
theorem ok__law_can (T : Bt mg) (S : Std K mg "_law_can" s__law_can) (c__law_way : Kn P w K mg base "_law_way" s__law_way ["track", "one", "two"] 1 F__law_way_v2) : Kn P w K mg base "_law_can" s__law_can ["track", "slowest", "mark", "other", "extra"] 2 F__law_can := by
  refine kn_of (N := ["track", "slowest", "mark", "other", "extra", "time"]) (k := 1) (B := B__law_can) S sc__law_can rfl rfl (fun _ _ _ _ _ _ us hl => match us, hl with | [_, _, _, _, _], _ => rfl) fun f cdv A outer s' H E hr => ?_
  have nd := sc__law_can.nd
  have tk : Takes (cxOf (L2.CX P w) P w K mg base ["track", "slowest", "mark", "other", "extra", "time"] "_law_can" (defScope s__law_can) f cdv A outer s' H E) (Wd E) := takes_of rfl rfl rfl rfl
  exact s_cons (s_set (ps_set (i := 5) nd rfl (.inl rfl) (g_op op_sub v_sub (g_ix (g_var 2 (pv 2)) (g_int) (fun _ _ => rfl)) (g_ix (g_var 3 (pv 3)) (g_int) (fun _ _ => rfl))))) (s_cons (s_if (g_tcmp (o_lt hr.units0) v_lt (g_var 5 (pv 5)) (g_op o_add v_add (g_calln c__law_way (hr.mono (by decide)) (by rfl) tk (g_cons (g_var 0 (pv 0)) (g_cons (g_ix (g_var 3 (pv 3)) (g_int) (fun _ _ => rfl)) (g_cons (g_ix (g_var 2 (pv 2)) (g_int) (fun _ _ => rfl)) (g_nil) rfl) rfl) rfl) (by decide) rfl rfl) (g_op o_mul v_mul (g_var 4 (pv 4)) (g_blt (pe_callB (cq_sum rfl) (by rfl) T.sum bt_sum (g_cons (g_var 0 (pv 0)) (g_nil) rfl)) v_sum))) (nomark _)) (s_one (s_ret (g_bl))) (s_nil)) (s_one (s_ret (g_cmp (o_le hr.units0) v_le (g_var 5 (pv 5)) (g_op o_add v_add (g_calln c__law_way (hr.mono (by decide)) (by rfl) tk (g_cons (g_var 1 (pv 1)) (g_cons (g_ix (g_var 3 (pv 3)) (g_int) (fun _ _ => rfl)) (g_cons (g_ix (g_var 2 (pv 2)) (g_int) (fun _ _ => rfl)) (g_nil) rfl) rfl) rfl) (by decide) rfl rfl) (g_op o_mul v_mul (g_var 4 (pv 4)) (g_blt (pe_callB (cq_sum rfl) (by rfl) T.sum bt_sum (g_cons (g_var 1 (pv 1)) (g_nil) rfl)) v_sum))) (nomark _)))))
theorem ok__law_timed_row (T : Bt mg) (S : Std K mg "_law_timed_row" s__law_timed_row) (c__law_draw : Kn P w K mg base "_law_draw" s__law_draw ["pool", "many"] 1 F__law_draw) (c__law_pick : Kn P w K mg base "_law_pick" s__law_pick ["pool", "some"] 2 F__law_pick) (c__law_way : Kn P w K mg base "_law_way" s__law_way ["track", "one", "two"] 1 F__law_way_v2) : Kn P w K mg base "_law_timed_row" s__law_timed_row ["pool", "track", "slowest", "many"] 3 F__law_timed_row := by
  refine kn_of (N := ["pool", "track", "slowest", "many", "found", "here", "step", "mat", "extra", "low", "high"]) (k := 2) (B := B__law_timed_row) S sc__law_timed_row rfl rfl (fun _ _ _ _ _ _ us hl => match us, hl with | [_, _, _, _], _ => rfl) fun f cdv A outer s' H E hr => ?_
  have nd := sc__law_timed_row.nd
  have tk : Takes (cxOf (L2.CX P w) P w K mg base ["pool", "track", "slowest", "many", "found", "here", "step", "mat", "extra", "low", "high"] "_law_timed_row" (defScope s__law_timed_row) f cdv A outer s' H E) (Wd E) := takes_of rfl rfl rfl rfl
  exact s_cons (s_par (ps_par (i := 4) (j := 5) rfl nd rfl rfl (by decide) rfl rfl (g_cons (g_mut (g_nil)) (g_cons (g_tup (g_cons (g_calln c__law_draw (hr.mono (by decide)) (by rfl) tk (g_cons (g_var 0 (pv 0)) (g_cons (g_int) (g_nil) rfl) rfl) (by decide) rfl rfl) (g_cons (g_calln c__law_draw (hr.mono (by decide)) (by rfl) tk (g_cons (g_var 0 (pv 0)) (g_cons (g_blt (pe_callB c_len (by rfl) T.len bt_len (g_cons (g_var 1 (pv 1)) (g_nil) rfl)) v_len) (g_nil) rfl) rfl) (by decide) rfl rfl) (g_nil) rfl) rfl)) (g_nil) rfl) rfl) (by rfl))) (s_cons (s_for (ps_for (passes_of rfl) rfl (g_range1 (pi_range1 (by rfl) T.range (g_cons (g_var 3 (pv 3)) (g_nil) rfl))) (t_tg (t := .nm 6) (pg_name (i := 6) nd rfl (by first | exact .inl rfl | exact .inr rfl))) (s_cons (s_expr (g_methL (pe_bm PySem.F.plainAttrs_list PySem.F.slot_list_append PySem.F.type_list_append mt_append (g_var 4 (pv 4)) (g_cons (g_var 5 (pv 5)) (g_nil) rfl)) v_append) rfl) (s_cons (s_par (ps_par (i := 7) (j := 8) rfl nd rfl rfl (by decide) rfl rfl (g_cons (g_calln c__law_draw (hr.mono (by decide)) (by rfl) tk (g_cons (g_var 0 (pv 0)) (g_cons (g_blt (pe_callB c_len (by rfl) T.len bt_len (g_cons (g_var 1 (pv 1)) (g_nil) rfl)) v_len) (g_nil) rfl) rfl) (by decide) rfl rfl) (g_cons (g_calln c__law_pick (hr.mono (by decide)) (by rfl) tk (g_cons (g_var 0 (pv 0)) (g_cons (g_lst (g_cons (g_int) (g_cons (g_int) (g_cons (g_int) (g_cons (g_int) (g_nil) rfl) rfl) rfl) rfl)) (g_nil) rfl) rfl) (by decide) rfl rfl) (g_nil) rfl) rfl) (by rfl))) (s_cons (s_set (ps_set (i := 9) nd rfl (.inl rfl) (g_op o_add v_add (g_calln c__law_way (hr.mono (by decide)) (by rfl) tk (g_cons (g_var 1 (pv 1)) (g_cons (g_ix (g_var 5 (pv 5)) (g_int) (fun _ _ => rfl)) (g_cons (g_var 7 (pv 7)) (g_nil) rfl) rfl) rfl) (by decide) rfl rfl) (g_op o_mul v_mul (g_var 8 (pv 8)) (g_blt (pe_callB (cq_sum rfl) (by rfl) T.sum bt_sum (g_cons (g_var 1 (pv 1)) (g_nil) rfl)) v_sum))))) (s_cons (s_set (ps_set (i := 10) nd rfl (.inl rfl) (g_op o_add v_add (g_calln c__law_way (hr.mono (by decide)) (by rfl) tk (g_cons (g_var 2 (pv 2)) (g_cons (g_ix (g_var 5 (pv 5)) (g_int) (fun _ _ => rfl)) (g_cons (g_var 7 (pv 7)) (g_nil) rfl) rfl) rfl) (by decide) rfl rfl) (g_op o_mul v_mul (g_var 8 (pv 8)) (g_blt (pe_callB (cq_sum rfl) (by rfl) T.sum bt_sum (g_cons (g_var 2 (pv 2)) (g_nil) rfl)) v_sum))))) (s_one (s_set (ps_set (i := 5) nd rfl (.inl rfl) (g_tup (g_cons (g_op o_add v_add (g_op o_add v_add (g_ix (g_var 5 (pv 5)) (g_int) (fun _ _ => rfl)) (g_var 9 (pv 9))) (g_calln c__law_draw (hr.mono (by decide)) (by rfl) tk (g_cons (g_var 0 (pv 0)) (g_cons (g_op o_add v_add (g_op op_sub v_sub (g_var 10 (pv 10)) (g_var 9 (pv 9))) (g_int)) (g_nil) rfl) rfl) (by decide) rfl rfl)) (g_cons (g_var 7 (pv 7)) (g_nil) rfl) rfl))))))))))) (s_one (s_ret (g_blt (pe_callTy call_tuple_of (by rfl) T.tuple bt_tuple (g_cons (g_var 4 (pv 4)) (g_nil) rfl)) v_tuple))))
theorem ok__law_bag_right (T : Bt mg) (S : Std K mg "_law_bag_right" s__law_bag_right) (c__law_span : Kn P w K mg base "_law_span" s__law_span ["track", "slowest", "mark", "other"] 2 F__law_span_v2) (c_is_steady : Kn P w K mg base "is_steady" s_is_steady ["track", "slowest", "bag"] 8 F_is_steady) (c__law_steps : Kn P w K mg base "_law_steps" s__law_steps ["track", "one", "two"] 1 F__law_steps_v3) (c_crossings : Kn P w K mg base "crossings" s_crossings ["track", "slowest", "bag"] 8 F_crossings) : Kn P w K mg base "_law_bag_right" s__law_bag_right ["track", "slowest", "bag"] 9 F__law_bag_right_v2 := by
  refine kn_of (N := ["track", "slowest", "bag", "spans", "is_so", "steps", "due", "k", "each"]) (k := 8) (B := B__law_bag_right_v2) S sc__law_bag_right rfl rfl (fun _ _ _ _ _ _ us hl => match us, hl with | [_, _, _], _ => rfl) fun f cdv A outer s' H E hr => ?_
  have nd := sc__law_bag_right.nd
  have tk : Takes (cxOf (L2.CX P w) P w K mg base ["track", "slowest", "bag", "spans", "is_so", "steps", "due", "k", "each"] "_law_bag_right" (defScope s__law_bag_right) f cdv A outer s' H E) (Wd E) := takes_of rfl rfl rfl rfl
  exact s_cons (s_setLc (by decide) (ps_setLc (i := 3) (own := [("k", 7)]) rfl nd rfl rfl (sw_true rfl rfl rfl (by decide +kernel)) (g_range2 (pi_range2 (by rfl) T.range (g_cons (g_int) (g_cons (g_blt (pe_callB c_len (by rfl) T.len bt_len (g_cons (g_var 2 (pv 2)) (g_nil) rfl)) v_len) (g_nil) rfl) rfl))) (blkOk_by (N := ["track", "slowest", "bag", "spans", "is_so", "steps", "due", "k", "each"]) (sc := defScope s__law_bag_right) (by decide +kernel)) (fun _ _ _ _ _ => pg_name (i := 7) nd rfl (by first | exact .inl rfl | exact .inr rfl)) (fun _ _ _ _ _ => g_yes) (fun _ _ _ _ _ => g_calln c__law_span (hr.mono (by decide)) (by rfl) takes0 (g_cons (g_var 0 (pv 0)) (g_cons (g_var 1 (pv 1)) (g_cons (g_ix (g_var 2 (pv 2)) (g_var 7 (pv 7)) (fun _ _ => rfl)) (g_cons (g_ix (g_var 2 (pv 2)) (g_op op_sub v_sub (g_var 7 (pv 7)) (g_int)) (fun _ _ => rfl)) (g_nil) rfl) rfl) rfl) rfl) (by decide) rfl rfl))) (s_cons (s_set (ps_set (i := 4) nd rfl (.inl rfl) (g_cmp (o_notIn (room65 hr)) v_notIn (g_non) (g_var 3 (pv 3)) (by with_unfolding_all rfl)))) (s_cons (s_if (g_tcmp (o_ne hr.units) v_ne (g_blt (pe_callB (cr_repr hr) (by rfl) T.repr bt_repr (g_cons (g_lst (g_cons (g_calln c_is_steady (hr.mono (by decide)) (by rfl) tk (g_cons (g_var 0 (pv 0)) (g_cons (g_var 1 (pv 1)) (g_cons (g_var 2 (pv 2)) (g_nil) rfl) rfl) rfl) (by decide) rfl rfl) (g_cons (g_callkn0 (ks := ["bag", "slowest", "track"]) (ix := [2, 1, 0]) c_is_steady (hr.mono (by decide)) (by rfl) tk (fun _ _ _ _ _ _ us ws h1 h2 => match us, ws, h1, h2 with | [], [_, _, _], _, _ => rfl) (k_cons (g_var 2 (pv 2)) (k_cons (g_var 1 (pv 1)) (k_cons (g_var 0 (pv 0)) (k_nil)))) rfl rfl (by decide) rfl) (g_nil) rfl) rfl)) (g_nil) rfl)) v_repr) (g_blt (pe_callB (cr_repr hr) (by rfl) T.repr bt_repr (g_cons (g_lst (g_cons (g_var 4 (pv 4)) (g_cons (g_var 4 (pv 4)) (g_nil) rfl) rfl)) (g_nil) rfl)) v_repr) (nomark _)) (s_one (s_ret (g_bl))) (s_nil)) (s_cons (s_if ((g_or (g_tnot (g_tval (g_var 4 (pv 4)) (by intro _; rfl))) (g_or1 (g_tcmp (o_eq hr.units) v_eq (g_var 2 (pv 2)) (g_tup (g_nil)) (nomark _)))).pt) (s_one (s_ret (g_bl))) (s_nil)) (s_cons (s_set (ps_set (i := 5) nd rfl (.inl rfl) (g_blt (pe_callB (cq_sum rfl) (by rfl) T.sum bt_sum (g_cons (g_lc (by decide) (pe_lc (own := [("k", 7)]) rfl nd (g_range2 (pi_range2 (by rfl) T.range (g_cons (g_int) (g_cons (g_blt (pe_callB c_len (by rfl) T.len bt_len (g_cons (g_var 2 (pv 2)) (g_nil) rfl)) v_len) (g_nil) rfl) rfl))) (blkOk_by (N := ["track", "slowest", "bag", "spans", "is_so", "steps", "due", "k", "each"]) (sc := defScope s__law_bag_right) (by decide +kernel)) (fun _ _ _ _ _ => pg_name (i := 7) nd rfl (by first | exact .inl rfl | exact .inr rfl)) (fun _ _ _ _ _ => g_yes) (fun _ _ _ _ _ => g_calln c__law_steps (hr.mono (by decide)) (by rfl) takes0 (g_cons (g_var 0 (pv 0)) (g_cons (g_ix (g_ix (g_var 2 (pv 2)) (g_op op_sub v_sub (g_var 7 (pv 7)) (g_int)) (fun _ _ => rfl)) (g_int) (fun _ _ => rfl)) (g_cons (g_ix (g_ix (g_var 2 (pv 2)) (g_var 7 (pv 7)) (fun _ _ => rfl)) (g_int) (fun _ _ => rfl)) (g_nil) rfl) rfl) rfl) (by decide) rfl rfl))) (g_nil) rfl)) v_sum))) (s_cons (s_set (ps_set (i := 6) nd rfl (.inl rfl) (g_tup (g_cons (g_op o_add v_add (g_var 5 (pv 5)) (g_op o_mul v_mul (g_blt (pe_callB c_len (by rfl) T.len bt_len (g_cons (g_var 0 (pv 0)) (g_nil) rfl)) v_len) (g_blt (pe_callB (cq_sum rfl) (by rfl) T.sum bt_sum (g_cons (g_lc (by decide) (pe_lc (own := [("each", 8)]) rfl nd (g_iter (g_var 3 (pv 3))) (blkOk_by (N := ["track", "slowest", "bag", "spans", "is_so", "steps", "due", "k", "each"]) (sc := defScope s__law_bag_right) (by decide +kernel)) (fun _ _ _ _ _ => pg_name (i := 8) nd rfl (by first | exact .inl rfl | exact .inr rfl)) (fun _ _ _ _ _ => g_yes) (fun _ _ _ _ _ => g_ix (g_var 8 (pv 8)) (g_int) (fun _ _ => rfl)))) (g_nil) rfl)) v_sum))) (g_cons (g_op o_add v_add (g_var 5 (pv 5)) (g_op o_mul v_mul (g_blt (pe_callB c_len (by rfl) T.len bt_len (g_cons (g_var 0 (pv 0)) (g_nil) rfl)) v_len) (g_blt (pe_callB (cq_sum rfl) (by rfl) T.sum bt_sum (g_cons (g_lc (by decide) (pe_lc (own := [("each", 8)]) rfl nd (g_iter (g_var 3 (pv 3))) (blkOk_by (N := ["track", "slowest", "bag", "spans", "is_so", "steps", "due", "k", "each"]) (sc := defScope s__law_bag_right) (by decide +kernel)) (fun _ _ _ _ _ => pg_name (i := 8) nd rfl (by first | exact .inl rfl | exact .inr rfl)) (fun _ _ _ _ _ => g_yes) (fun _ _ _ _ _ => g_ix (g_var 8 (pv 8)) (g_int) (fun _ _ => rfl)))) (g_nil) rfl)) v_sum))) (g_nil) rfl) rfl)))) (s_one (s_ret (g_cmp (o_eq hr.units) v_eq (g_blt (pe_callB (cr_repr hr) (by rfl) T.repr bt_repr (g_cons (g_lst (g_cons (g_calln c_crossings (hr.mono (by decide)) (by rfl) tk (g_cons (g_var 0 (pv 0)) (g_cons (g_var 1 (pv 1)) (g_cons (g_var 2 (pv 2)) (g_nil) rfl) rfl) rfl) (by decide) rfl rfl) (g_cons (g_callkn0 (ks := ["bag", "slowest", "track"]) (ix := [2, 1, 0]) c_crossings (hr.mono (by decide)) (by rfl) tk (fun _ _ _ _ _ _ us ws h1 h2 => match us, ws, h1, h2 with | [], [_, _, _], _, _ => rfl) (k_cons (g_var 2 (pv 2)) (k_cons (g_var 1 (pv 1)) (k_cons (g_var 0 (pv 0)) (k_nil)))) rfl rfl (by decide) rfl) (g_nil) rfl) rfl)) (g_nil) rfl)) v_repr) (g_blt (pe_callB (cr_repr hr) (by rfl) T.repr bt_repr (g_cons (g_lst (g_cons (g_var 6 (pv 6)) (g_cons (g_var 6 (pv 6)) (g_nil) rfl) rfl)) (g_nil) rfl)) v_repr) (nomark _)))))))))
theorem ok__law_marks_right (T : Bt mg) (S : Std K mg "_law_marks_right" s__law_marks_right) (c__law_span : Kn P w K mg base "_law_span" s__law_span ["track", "slowest", "mark", "other"] 2 F__law_span_v2) (c_extra_span : Kn P w K mg base "extra_span" s_extra_span ["track", "slowest", "mark", "other"] 7 F_extra_span) (c__law_draw : Kn P w K mg base "_law_draw" s__law_draw ["pool", "many"] 1 F__law_draw) (c__law_can : Kn P w K mg base "_law_can" s__law_can ["track", "slowest", "mark", "other", "extra"] 2 F__law_can) : Kn P w K mg base "_law_marks_right" s__law_marks_right ["pool", "track", "slowest", "mark", "other"] 8 F__law_marks_right := by
  refine kn_of (N := ["pool", "track", "slowest", "mark", "other", "due", "some", "each"]) (k := 7) (B := B__law_marks_right) S sc__law_marks_right rfl rfl (fun _ _ _ _ _ _ us hl => match us, hl with | [_, _, _, _, _], _ => rfl) fun f cdv A outer s' H E hr => ?_
  have nd := sc__law_marks_right.nd
  have tk : Takes (cxOf (L2.CX P w) P w K mg base ["pool", "track", "slowest", "mark", "other", "due", "some", "each"] "_law_marks_right" (defScope s__law_marks_right) f cdv A outer s' H E) (Wd E) := takes_of rfl rfl rfl rfl
  exact s_cons (s_set (ps_set (i := 5) nd rfl (.inr rfl) (g_calln c__law_span (hr.mono (by decide)) (by rfl) tk (g_cons (g_var 1 (pv 1)) (g_cons (g_var 2 (pv 2)) (g_cons (g_var 3 (pv 3)) (g_cons (g_var 4 (pv 4)) (g_nil) rfl) rfl) rfl) rfl) (by decide) rfl rfl))) (s_cons (s_if (g_tcmp (o_ne hr.units) v_ne (g_blt (pe_callB (cr_repr hr) (by rfl) T.repr bt_repr (g_cons (g_lst (g_cons (g_calln c_extra_span (hr.mono (by decide)) (by rfl) tk (g_cons (g_var 1 (pv 1)) (g_cons (g_var 2 (pv 2)) (g_cons (g_var 3 (pv 3)) (g_cons (g_var 4 (pv 4)) (g_nil) rfl) rfl) rfl) rfl) (by decide) rfl rfl) (g_cons (g_callkn0 (ks := ["other", "mark", "slowest", "track"]) (ix := [3, 2, 1, 0]) c_extra_span (hr.mono (by decide)) (by rfl) tk (fun _ _ _ _ _ _ us ws h1 h2 => match us, ws, h1, h2 with | [], [_, _, _, _], _, _ => rfl) (k_cons (g_var 4 (pv 4)) (k_cons (g_var 3 (pv 3)) (k_cons (g_var 2 (pv 2)) (k_cons (g_var 1 (pv 1)) (k_nil))))) rfl rfl (by decide) rfl) (g_nil) rfl) rfl)) (g_nil) rfl)) v_repr) (g_blt (pe_callB (cr_repr hr) (by rfl) T.repr bt_repr (g_cons (g_lst (g_cons (g_var 5 (pv 5)) (g_cons (g_var 5 (pv 5)) (g_nil) rfl) rfl)) (g_nil) rfl)) v_repr) (nomark _)) (s_one (s_ret (g_bl))) (s_nil)) (s_cons (s_set (ps_set (i := 6) nd rfl (.inl rfl) (g_op o_add v_add (g_lst (g_cons (g_int) (g_cons (g_int) (g_cons (g_int) (g_cons (g_calln c__law_draw (hr.mono (by decide)) (by rfl) tk (g_cons (g_var 0 (pv 0)) (g_cons (g_int) (g_nil) rfl) rfl) (by decide) rfl rfl) (g_nil) rfl) rfl) rfl) rfl)) (g_if (g_tcmp op_notN v_notN (g_var 5 (pv 5)) (g_non) (nomark _)) (g_lst (g_cons (g_op op_sub v_sub (g_ix (g_var 5 (pv 5)) (g_int) (fun _ _ => rfl)) (g_int)) (g_cons (g_ix (g_var 5 (pv 5)) (g_int) (fun _ _ => rfl)) (g_cons (g_ix (g_var 5 (pv 5)) (g_int) (fun _ _ => rfl)) (g_cons (g_op o_add v_add (g_ix (g_var 5 (pv 5)) (g_int) (fun _ _ => rfl)) (g_int)) (g_nil) rfl) rfl) rfl) rfl)) (g_lst (g_nil)))))) (s_one (s_ret (g_cmp (o_eq hr.units) v_eq (g_lc (by decide) (pe_lc (own := [("each", 7)]) rfl nd (g_iter (g_var 6 (pv 6))) (blkOk_by (N := ["pool", "track", "slowest", "mark", "other", "due", "some", "each"]) (sc := defScope s__law_marks_right) (by decide +kernel)) (fun _ _ _ _ _ => pg_name (i := 7) nd rfl (by first | exact .inl rfl | exact .inr rfl)) (fun _ _ _ _ _ => g_ifs ((g_and (g_tcmp op_ge (v_cmpI _) (g_var 7 (pv 7)) (g_int) (nomark _)) (g_and1 (g_tcmp (o_ne hr.units) v_ne (g_calln c__law_can (hr.mono (by decide)) (by rfl) takes0 (g_cons (g_var 1 (pv 1)) (g_cons (g_var 2 (pv 2)) (g_cons (g_var 3 (pv 3)) (g_cons (g_var 4 (pv 4)) (g_cons (g_var 7 (pv 7)) (g_nil) rfl) rfl) rfl) rfl) rfl) (by decide) rfl rfl) (g_vand (g_cmp op_notN v_notN (g_var 5 (pv 5)) (g_non) (nomark _)) (g_one (g_chain (pe_chain (o_le hr.units0) (o_le hr.units0) (g_ix (g_var 5 (pv 5)) (g_int) (fun _ _ => rfl)) (g_var 7 (pv 7)) (g_ix (g_var 5 (pv 5)) (g_int) (fun _ _ => rfl))) v_le v_le))) (nomark _)))).pt)) (fun _ _ _ _ _ => g_var 7 (pv 7)))) (g_lst (g_nil)) (nomark _))))))
theorem ok__law_right (T : Bt mg) (S : Std K mg "_law_right" s__law_right) (c__law_track : Kn P w K mg base "_law_track" s__law_track ["pool", "most"] 3 F__law_track) (c__law_pick : Kn P w K mg base "_law_pick" s__law_pick ["pool", "some"] 2 F__law_pick) (c__law_draw : Kn P w K mg base "_law_draw" s__law_draw ["pool", "many"] 1 F__law_draw) (c__law_timed_row : Kn P w K mg base "_law_timed_row" s__law_timed_row ["pool", "track", "slowest", "many"] 3 F__law_timed_row) (c__law_drawn_bag : Kn P w K mg base "_law_drawn_bag" s__law_drawn_bag ["pool", "track", "many"] 3 F__law_drawn_bag) (c__law_drawn_row : Kn P w K mg base "_law_drawn_row" s__law_drawn_row ["pool", "track", "start", "many"] 3 F__law_drawn_row) (c__law_bag_right : Kn P w K mg base "_law_bag_right" s__law_bag_right ["track", "slowest", "bag"] 9 F__law_bag_right_v2) (c_is_steady : Kn P w K mg base "is_steady" s_is_steady ["track", "slowest", "bag"] 8 F_is_steady) (c_is_row : Kn P w K mg base "is_row" s_is_row ["track", "bag"] 9 F_is_row) (c__law_marks_right : Kn P w K mg base "_law_marks_right" s__law_marks_right ["pool", "track", "slowest", "mark", "other"] 8 F__law_marks_right) (c_extra_span : Kn P w K mg base "extra_span" s_extra_span ["track", "slowest", "mark", "other"] 7 F_extra_span) (c_crossings : Kn P w K mg base "crossings" s_crossings ["track", "slowest", "bag"] 8 F_crossings) : Kn P w K mg base "_law_right" s__law_right ["pool"] 10 F__law_right := by
  refine kn_of (N := ["pool", "turn", "track", "wide", "slowest", "row", "bag", "lap", "mark", "other", "far", "each"]) (k := 9) (B := B__law_right) S sc__law_right rfl rfl (fun _ _ _ _ _ _ us hl => match us, hl with | [_], _ => rfl) fun f cdv A outer s' H E hr => ?_
  have nd := sc__law_right.nd
  have tk : Takes (cxOf (L2.CX P w) P w K mg base ["pool", "turn", "track", "wide", "slowest", "row", "bag", "lap", "mark", "other", "far", "each"] "_law_right" (defScope s__law_right) f cdv A outer s' H E) (Wd E) := takes_of rfl rfl rfl rfl
  exact s_cons (s_for (ps_for (passes_of rfl) rfl (g_range1 (pi_range1 (by rfl) T.range (g_cons (g_int) (g_nil) rfl))) (t_tg (t := .nm 1) (pg_name (i := 1) nd rfl (by first | exact .inl rfl | exact .inr rfl))) (s_cons (s_asg (ps_asg (g_tup (g_cons (g_calln c__law_track (hr.mono (by decide)) (by rfl) tk (g_cons (g_var 0 (pv 0)) (g_cons (g_int) (g_nil) rfl) rfl) (by decide) rfl rfl) (g_cons (g_calln c__law_pick (hr.mono (by decide)) (by rfl) tk (g_cons (g_var 0 (pv 0)) (g_cons (g_lst (g_cons (g_int) (g_cons (g_int) (g_cons (g_int) (g_cons (g_op op_pow v_pow (g_int) (g_int)) (g_nil) rfl) rfl) rfl) rfl)) (g_nil) rfl) rfl) (by decide) rfl rfl) (g_nil) rfl) rfl)) (t_tup (pg_tup rfl (t_cons (t_name (pg_name (i := 2) nd rfl (.inl rfl))) (t_cons (t_name (pg_name (i := 3) nd rfl (.inr rfl))) (t_nil) rfl) rfl))))) (s_cons (s_set (ps_set (i := 4) nd rfl (.inl rfl) (g_blt (pe_callTy call_tuple_of (by rfl) T.tuple bt_tuple (g_cons (g_lc (by decide) (pe_lc (own := [("each", 11)]) rfl nd (g_iter (g_var 2 (pv 2))) (blkOk_by (N := ["pool", "turn", "track", "wide", "slowest", "row", "bag", "lap", "mark", "other", "far", "each"]) (sc := defScope s__law_right) (by decide +kernel)) (fun _ _ _ _ _ => pg_name (i := 11) nd rfl (by first | exact .inl rfl | exact .inr rfl)) (fun _ _ _ _ _ => g_yes) (fun _ _ _ _ _ => g_op o_add v_add (g_var 11 (pv 11)) (g_calln c__law_draw (hr.mono (by decide)) (by rfl) takes0 (g_cons (g_var 0 (pv 0)) (g_cons (g_var 3 (pv 3)) (g_nil) rfl) rfl) (by decide) rfl rfl)))) (g_nil) rfl)) v_tuple))) (s_cons (s_set (ps_set (i := 5) nd rfl (.inl rfl) (g_calln c__law_timed_row (hr.mono (by decide)) (by rfl) tk (g_cons (g_var 0 (pv 0)) (g_cons (g_var 2 (pv 2)) (g_cons (g_var 4 (pv 4)) (g_cons (g_op o_add v_add (g_int) (g_calln c__law_draw (hr.mono (by decide)) (by rfl) tk (g_cons (g_var 0 (pv 0)) (g_cons (g_int) (g_nil) rfl) rfl) (by decide) rfl rfl)) (g_nil) rfl) rfl) rfl) rfl) (by decide) rfl rfl))) (s_cons (s_for (ps_for (passes_of rfl) rfl (g_iter (g_lst (g_cons (g_var 5 (pv 5)) (g_cons (g_calln c__law_drawn_row (hr.mono (by decide)) (by rfl) tk (g_cons (g_var 0 (pv 0)) (g_cons (g_var 2 (pv 2)) (g_cons (g_tup (g_cons (g_int) (g_cons (g_int) (g_nil) rfl) rfl)) (g_cons (g_int) (g_nil) rfl) rfl) rfl) rfl) (by decide) rfl rfl) (g_cons (g_calln c__law_drawn_bag (hr.mono (by decide)) (by rfl) tk (g_cons (g_var 0 (pv 0)) (g_cons (g_var 2 (pv 2)) (g_cons (g_int) (g_nil) rfl) rfl) rfl) (by decide) rfl rfl) (g_cons (g_tup (g_nil)) (g_cons (g_slice (g_var 5 (pv 5)) (g_no) (g_some (g_int))) (g_nil) rfl) rfl) rfl) rfl) rfl))) (t_tg (t := .nm 6) (pg_name (i := 6) nd rfl (by first | exact .inl rfl | exact .inr rfl))) (s_one (s_if (g_tnot (g_tval (g_calln c__law_bag_right (hr.mono (by decide)) (by rfl) tk (g_cons (g_var 2 (pv 2)) (g_cons (g_var 4 (pv 4)) (g_cons (g_var 6 (pv 6)) (g_nil) rfl) rfl) rfl) (by decide) rfl rfl) (by intro _; rfl))) (s_one (s_ret (g_bl))) (s_nil))))) (s_cons (s_if ((g_or (g_tcmp op_notBl v_notB (g_calln c_is_steady (hr.mono (by decide)) (by rfl) tk (g_cons (g_var 2 (pv 2)) (g_cons (g_var 4 (pv 4)) (g_cons (g_var 5 (pv 5)) (g_nil) rfl) rfl) rfl) (by decide) rfl rfl) (g_bl) (nomark _)) (g_or1 (g_tcmp op_notBl v_notB (g_calln c_is_row (hr.mono (by decide)) (by rfl) tk (g_cons (g_var 2 (pv 2)) (g_cons (g_var 5 (pv 5)) (g_nil) rfl) rfl) (by decide) rfl rfl) (g_bl) (nomark _)))).pt) (s_one (s_ret (g_bl))) (s_nil)) (s_cons (s_for (ps_for (passes_of rfl) rfl (g_range1 (pi_range1 (by rfl) T.range (g_cons (g_int) (g_nil) rfl))) (t_tg (t := .nm 7) (pg_name (i := 7) nd rfl (by first | exact .inl rfl | exact .inr rfl))) (s_cons (s_par (ps_par (i := 8) (j := 9) rfl nd rfl rfl (by decide) rfl rfl (g_cons (g_tup (g_cons (g_calln c__law_draw (hr.mono (by decide)) (by rfl) tk (g_cons (g_var 0 (pv 0)) (g_cons (g_calln c__law_pick (hr.mono (by decide)) (by rfl) tk (g_cons (g_var 0 (pv 0)) (g_cons (g_lst (g_cons (g_int) (g_cons (g_op o_mul v_mul (g_int) (g_blt (pe_callB (cq_sum rfl) (by rfl) T.sum bt_sum (g_cons (g_var 4 (pv 4)) (g_nil) rfl)) v_sum)) (g_nil) rfl) rfl)) (g_nil) rfl) rfl) (by decide) rfl rfl) (g_nil) rfl) rfl) (by decide) rfl rfl) (g_cons (g_calln c__law_draw (hr.mono (by decide)) (by rfl) tk (g_cons (g_var 0 (pv 0)) (g_cons (g_blt (pe_callB c_len (by rfl) T.len bt_len (g_cons (g_var 2 (pv 2)) (g_nil) rfl)) v_len) (g_nil) rfl) rfl) (by decide) rfl rfl) (g_nil) rfl) rfl)) (g_cons (g_tup (g_cons (g_calln c__law_draw (hr.mono (by decide)) (by rfl) tk (g_cons (g_var 0 (pv 0)) (g_cons (g_int) (g_nil) rfl) rfl) (by decide) rfl rfl) (g_cons (g_calln c__law_draw (hr.mono (by decide)) (by rfl) tk (g_cons (g_var 0 (pv 0)) (g_cons (g_blt (pe_callB c_len (by rfl) T.len bt_len (g_cons (g_var 2 (pv 2)) (g_nil) rfl)) v_len) (g_nil) rfl) rfl) (by decide) rfl rfl) (g_nil) rfl) rfl)) (g_nil) rfl) rfl) (by rfl))) (s_one (s_if (g_tnot (g_tval (g_calln c__law_marks_right (hr.mono (by decide)) (by rfl) tk (g_cons (g_var 0 (pv 0)) (g_cons (g_var 2 (pv 2)) (g_cons (g_var 4 (pv 4)) (g_cons (g_var 8 (pv 8)) (g_cons (g_var 9 (pv 9)) (g_nil) rfl) rfl) rfl) rfl) rfl) (by decide) rfl rfl) (by intro _; rfl))) (s_one (s_ret (g_bl))) (s_nil)))))) (s_cons (s_par (ps_par (i := 6) (j := 10) rfl nd rfl rfl (by decide) rfl rfl (g_cons (g_calln c__law_drawn_bag (hr.mono (by decide)) (by rfl) tk (g_cons (g_var 0 (pv 0)) (g_cons (g_var 2 (pv 2)) (g_cons (g_int) (g_nil) rfl) rfl) rfl) (by decide) rfl rfl) (g_cons (g_blt (pe_callTy call_tuple_of (by rfl) T.tuple bt_tuple (g_cons (g_lc (by decide) (pe_lc (own := [("each", 11)]) rfl nd (g_iter (g_var 2 (pv 2))) (blkOk_by (N := ["pool", "turn", "track", "wide", "slowest", "row", "bag", "lap", "mark", "other", "far", "each"]) (sc := defScope s__law_right) (by decide +kernel)) (fun _ _ _ _ _ => pg_name (i := 11) nd rfl (by first | exact .inl rfl | exact .inr rfl)) (fun _ _ _ _ _ => g_yes) (fun _ _ _ _ _ => g_op o_add v_add (g_var 11 (pv 11)) (g_op op_pow v_pow (g_int) (g_int))))) (g_nil) rfl)) v_tuple) (g_nil) rfl) rfl) (by rfl))) (s_one (s_if (g_tcmp (o_ne hr.units) v_ne (g_calln c_is_steady (hr.mono (by decide)) (by rfl) tk (g_cons (g_var 2 (pv 2)) (g_cons (g_var 10 (pv 10)) (g_cons (g_var 6 (pv 6)) (g_nil) rfl) rfl) rfl) (by decide) rfl rfl) (g_calln c_is_row (hr.mono (by decide)) (by rfl) tk (g_cons (g_var 2 (pv 2)) (g_cons (g_var 6 (pv 6)) (g_nil) rfl) rfl) (by decide) rfl rfl) (nomark _)) (s_one (s_ret (g_bl))) (s_nil)))))))))))) (s_cons (s_asg (ps_asg (g_tup (g_cons (g_tup (g_cons (g_int) (g_cons (g_int) (g_cons (g_int) (g_nil) rfl) rfl) rfl)) (g_cons (g_tup (g_cons (g_tup (g_cons (g_int) (g_cons (g_int) (g_nil) rfl) rfl)) (g_cons (g_tup (g_cons (g_int) (g_cons (g_int) (g_nil) rfl) rfl)) (g_cons (g_tup (g_cons (g_int) (g_cons (g_int) (g_nil) rfl) rfl)) (g_nil) rfl) rfl) rfl)) (g_nil) rfl) rfl)) (t_tup (pg_tup rfl (t_cons (t_name (pg_name (i := 3) nd rfl (.inr rfl))) (t_cons (t_name (pg_name (i := 6) nd rfl (.inl rfl))) (t_nil) rfl) rfl))))) (s_one (s_ret (g_vand (g_cmp (o_eq hr.units) v_eq (g_calln c_extra_span (hr.mono (by decide)) (by rfl) tk (g_cons (g_tup (g_cons (g_int) (g_cons (g_int) (g_cons (g_int) (g_nil) rfl) rfl) rfl)) (g_cons (g_var 3 (pv 3)) (g_cons (g_tup (g_cons (g_int) (g_cons (g_int) (g_nil) rfl) rfl)) (g_cons (g_tup (g_cons (g_int) (g_cons (g_int) (g_nil) rfl) rfl)) (g_nil) rfl) rfl) rfl) rfl) (by decide) rfl rfl) (g_tup (g_cons (g_int) (g_cons (g_int) (g_nil) rfl) rfl)) (nomark _)) (g_one (g_cmp (o_eq hr.units) v_eq (g_calln c_crossings (hr.mono (by decide)) (by rfl) tk (g_cons (g_tup (g_cons (g_int) (g_cons (g_int) (g_cons (g_int) (g_nil) rfl) rfl) rfl)) (g_cons (g_var 3 (pv 3)) (g_cons (g_var 6 (pv 6)) (g_nil) rfl) rfl) rfl) (by decide) rfl rfl) (g_tup (g_cons (g_int) (g_cons (g_int) (g_nil) rfl) rfl)) (nomark _)))))))
theorem ok_law (T : Bt mg) (S : Std K mg "law" s_law) (c__law_right : Kn P w K mg base "_law_right" s__law_right ["pool"] 10 F__law_right) (c__law_pool : Kn P w K mg base "_law_pool" s__law_pool ["script", "turn"] 1 F__law_pool) : Kn P w K mg base "law" s_law ["script"] 11 F_law := by
  refine kn_of (N := ["script", "turn"]) (k := 10) (B := B_law) S sc_law rfl rfl (fun _ _ _ _ _ _ us hl => match us, hl with | [_], _ => rfl) fun f cdv A outer s' H E hr => ?_
  have nd := sc_law.nd
  have tk : Takes (cxOf (L2.CX P w) P w K mg base ["script", "turn"] "law" (defScope s_law) f cdv A outer s' H E) (Wd E) := takes_of rfl rfl rfl rfl
  exact s_cons (s_for (ps_for (passes_of rfl) rfl (g_range1 (pi_range1 (by rfl) T.range (g_cons (g_blt (pe_callB (c_max rfl) (by rfl) T.max bt_max (g_cons (g_int) (g_cons (g_blt (pe_callB (c_min rfl) (by rfl) T.min bt_min (g_cons (g_blt (pe_callB c_len (by rfl) T.len bt_len (g_cons (g_var 0 (pv 0)) (g_nil) rfl)) v_len) (g_cons (g_int) (g_nil) rfl) rfl)) v_min) (g_nil) rfl) rfl)) v_max) (g_nil) rfl))) (t_tg (t := .nm 1) (pg_name (i := 1) nd rfl (by first | exact .inl rfl | exact .inr rfl))) (s_one (s_if (g_tnot (g_tval (g_calln c__law_right (hr.mono (by decide)) (by rfl) tk (g_cons (g_calln c__law_pool (hr.mono (by decide)) (by rfl) tk (g_cons (g_var 0 (pv 0)) (g_cons (g_var 1 (pv 1)) (g_nil) rfl) rfl) (by decide) rfl rfl) (g_nil) rfl) (by decide) rfl rfl) (by intro _; rfl))) (s_one (s_ret (g_bl))) (s_nil))))) (s_one (s_ret (g_bl)))
end
end K76

namespace Lap
open PySem G
theorem big_ge : 2 ^ 1000 ≤ big := by unfold big; exact Nat.pow_le_pow_right (by decide) (by decide)
section
variable (st : Sto)
theorem f_round_by (ts : List Int) : F_round_by [tupI ts] st = .ok (.int ts.sum) st := by
  simp [F_round_by, runF, B_round_by]
theorem f_sectors_from (ts : List Int) (m : Nat) (hl : ts.length ≤ 100) : F_sectors_from [tupI ts, .int m] st = .ok (lstI (ts.drop m ++ ts.take m)) st := by
  have : ts.length - m + min m ts.length ≤ 16777216 := by omega
  simp [F_sectors_from, runF, B_sectors_from, cutL_from, cutL_to, this, lstI]
def reachI (ts : List Int) (m n : Nat) : Int := ((n / ts.length : Nat) : Int) * ts.sum + ((ts.drop m ++ ts.take m).take (n % ts.length)).sum
theorem f_reach_by (ts : List Int) (m n : Nat) (h0 : 0 < ts.length) (hl : ts.length ≤ 100) (hn : n < big) (hs : ts.sum.natAbs < big) : F_reach_by [tupI ts, .int m, .int n] st = .ok (.int (reachI ts m n)) st := by
  have hd := divmodF_nat st n ts.length h0 (.inl (by omega))
  have hq : n / ts.length ≤ n := Nat.div_le_self _ _
  unfold reachI
  generalize n / ts.length = q at hd hq ⊢
  generalize n % ts.length = r at hd ⊢
  have h2 : mulOk (q : Int) ts.sum := .inr (.inr ⟨by omega, hs⟩)
  simp [-divmodF_int, F_reach_by, runF, B_reach_by, f_round_by, f_sectors_from, hl, hd, h2, cutL_to]
theorem f_is_whole_int (i : Int) : F_is_whole [.int i] st = .ok (.bl true) st := by
  simp [F_is_whole, runF, B_is_whole, isiB]
theorem f_is_between (v lo hi : Int) : F_is_between [.int v, .int lo, .int hi] st = .ok (.bl (decide (lo ≤ v ∧ v ≤ hi))) st := by
  by_cases h : lo ≤ v <;> simp [F_is_between, runF, B_is_between, f_is_whole_int, h]
theorem f_is_up_to (v m : Int) : F_is_up_to [.int v, .int m] st = .ok (.bl (decide (0 ≤ v ∧ v ≤ m))) st := by
  simp [F_is_up_to, runF, B_is_up_to, f_is_between]
theorem f_is_from (v l : Int) : F_is_from [.int v, .int l] st = .ok (.bl (decide (l ≤ v))) st := by
  simp [F_is_from, runF, B_is_from, f_is_whole_int]
theorem f_is_tuple_up_to (ts : List Int) (lo hi : Int) : F_is_tuple_up_to [tupI ts, .int lo, .int hi] st = .ok (.bl (decide (lo ≤ ts.length ∧ (ts.length : Int) ≤ hi))) st := by
  by_cases h : lo ≤ ts.length <;> simp [F_is_tuple_up_to, runF, B_is_tuple_up_to, isiB, h]
structure Trk (ts : List Int) : Prop where
  pos : 1 ≤ ts.length
  le : ts.length ≤ 8
  one : ∀ x ∈ ts, 1 ≤ x
theorem f_is_track_of {ts : List Int} (h : Trk ts) : F_is_track_of [tupI ts] st = .ok (.bl true) st := by
  have e : lcE (iterE (varE 0)) (.nm 1) yesB (callE F_is_from (consA (varE 1) (consA (cE (.int 1)) nilA))) [1] [some (tupI ts), none] st = .ok (lstB (ts.map fun x => decide (1 ≤ x))) st := by
    have := lc_map (t := .nm 1) (fe := callE F_is_from (consA (varE 1) (consA (cE (.int 1)) nilA))) (envw := [some (tupI ts), none]) (st := st) (fun d => match d with | .int x => .bl (decide (1 ≤ x)) | d => d) (ts.map D.int) [] (by have := h.le; simp; omega) (by
      intro x hx
      obtain ⟨y, _, rfl⟩ := List.mem_map.mp hx
      exact ⟨[some (tupI ts), some (.int y)], by simp, by simp [f_is_from]⟩)
    simp [this, lstB]
  have h2 : (ts.length : Int) ≤ 8 := by have := h.le; omega
  have h3 : (1 : Int) ≤ ts.length := by have := h.pos; omega
  have h4 := h.one
  simp [-lcE_eq, F_is_track_of, runF, B_is_track_of, f_is_tuple_up_to, h2, h3, e]
  simpa using h4
theorem f_is_mat_of {ts : List Int} (v : Int) : F_is_mat_of [tupI ts, .int v] st = .ok (.bl (decide (0 ≤ v ∧ v ≤ ts.length - 1))) st := by
  simp [F_is_mat_of, runF, B_is_mat_of, f_is_up_to]
theorem f_check_track {ts : List Int} (h : Trk ts) : F_check_track [tupI ts] st = .ok .non st := by
  simp [F_check_track, runF, B_check_track, f_is_track_of st h]
theorem f_check_mat {ts : List Int} {m : Nat} (h : m < ts.length) : F_check_mat [tupI ts, .int m] st = .ok .non st := by
  have : (m : Int) ≤ ts.length - 1 := by omega
  simp [F_check_mat, runF, B_check_mat, f_is_mat_of, this]
theorem f_check_from_nought (n : Nat) : F_check_from_nought [.int n] st = .ok .non st := by
  simp [F_check_from_nought, runF, B_check_from_nought, f_is_from]
theorem f_round_of {ts : List Int} (h : Trk ts) : F_round_of [tupI ts] st = .ok (.int ts.sum) st := by
  simp [F_round_of, runF, B_round_of, f_check_track st h, f_round_by]
theorem f_reach {ts : List Int} {m n : Nat} (h : Trk ts) (hm : m < ts.length) (hn : n < big) (hs : ts.sum.natAbs < big) : F_reach [tupI ts, .int m, .int n] st = .ok (.int (reachI ts m n)) st := by
  have h1 := h.pos
  have h2 := h.le
  simp [F_reach, runF, B_reach, f_check_track st h, f_check_mat st hm, f_check_from_nought, f_reach_by st ts m n (by omega) (by omega) hn hs]
theorem f_law_same (a b : Int) : F__law_same [.int a, .int b] st = .ok (.bl (decide (a = b))) st := by
  show runF 2 4 (B__law_same (R__law_same 19)) [.int a, .int b] st = _
  generalize R__law_same 19 = r
  simp [runF, B__law_same, isiB]
end
/-! mathematics of the walk round a track -/
def at_ (ts : List Int) (i : Nat) : Int := ts.getD (i % ts.length) 0
def walkI (ts : List Int) (m n : Nat) : Int := ((List.range n).map fun i => at_ ts (m + i)).sum
theorem at_mod (ts : List Int) (a b : Nat) : at_ ts (a % ts.length + b) = at_ ts (a + b) := by
  unfold at_; rw [Nat.mod_add_mod]
theorem walk_succ (ts : List Int) (m n : Nat) : walkI ts m (n + 1) = walkI ts m n + at_ ts (m + n) := by
  unfold walkI; rw [List.range_succ]; simp
theorem walk_add (ts : List Int) (m a b : Nat) : walkI ts m (a + b) = walkI ts m a + walkI ts (m + a) b := by
  induction b with
  | zero => simp [walkI]
  | succ b ih => rw [← Nat.add_assoc, walk_succ, ih, walk_succ, Nat.add_assoc m a b]; omega
theorem walk_mod (ts : List Int) (a n : Nat) : walkI ts (a % ts.length) n = walkI ts a n := by
  unfold walkI; congr 1; apply List.map_congr_left; intro i _; exact at_mod ts a i
theorem rest_eq (ts : List Int) (m r : Nat) (hm : m < ts.length) (hr : r ≤ ts.length) : (ts.drop m ++ ts.take m).take r = (List.range r).map fun i => at_ ts (m + i) := by
  apply List.ext_getElem?
  intro i
  by_cases hi : i < r
  · rw [List.getElem?_take, if_pos hi, List.getElem?_map, List.getElem?_range hi, Option.map_some]
    unfold at_
    by_cases h : m + i < ts.length
    · rw [Nat.mod_eq_of_lt h, List.getElem?_append_left (by simp; omega), List.getElem?_drop, List.getD_eq_getElem?_getD, List.getElem?_eq_getElem h]; rfl
    · have e : (m + i) % ts.length = m + i - ts.length := by rw [Nat.mod_eq_sub_mod (by omega), Nat.mod_eq_of_lt (by omega)]
      rw [e, List.getElem?_append_right (by simp; omega), List.length_drop, List.getElem?_take, if_pos (by omega), List.getD_eq_getElem?_getD, show i - (ts.length - m) = m + i - ts.length by omega, List.getElem?_eq_getElem (by omega)]; rfl
  · rw [List.getElem?_eq_none (by simp; omega), List.getElem?_eq_none (by simp; omega)]
theorem sum_perm (ts : List Int) (m : Nat) : (ts.drop m ++ ts.take m).sum = ts.sum := by
  have := List.take_append_drop m ts
  conv => rhs; rw [← this]
  rw [List.sum_append, List.sum_append]; omega
theorem walk_round (ts : List Int) (m : Nat) (h : 0 < ts.length) : walkI ts m ts.length = ts.sum := by
  rw [← walk_mod]
  have hm : m % ts.length < ts.length := Nat.mod_lt _ h
  unfold walkI
  rw [← rest_eq ts _ _ hm (Nat.le_refl _), List.take_of_length_le (by simp; omega), sum_perm]
theorem walk_rounds (ts : List Int) (m : Nat) (h : 0 < ts.length) : ∀ q : Nat, walkI ts m (ts.length * q) = (q : Int) * ts.sum
  | 0 => by simp [walkI]
  | q + 1 => by rw [Nat.mul_succ, walk_add, walk_rounds ts m h q, walk_round ts _ h]; push_cast; rw [Int.add_mul]; omega
theorem reachI_eq (ts : List Int) (m n : Nat) (hm : m < ts.length) : reachI ts m n = walkI ts m n := by
  have h : 0 < ts.length := by omega
  have hr := Nat.mod_lt n h
  unfold reachI
  rw [rest_eq ts m _ hm (by omega)]
  conv => rhs; rw [← Nat.div_add_mod n ts.length, walk_add, walk_rounds ts m h]
  congr 1
  rw [← walk_mod, Nat.add_mul_mod_self_left, walk_mod]; rfl

/-! the law's own words -/
section
variable (st : Sto)
theorem f_law_reach (ts : List Int) (m n : Nat) (hm : m < ts.length) (hl : ts.length ≤ 100) (hn : n < big) (hs : ts.sum.natAbs < big) : F__law_reach [tupI ts, .int m, .int n] st = .ok (.int (walkI ts m n)) st := by
  rw [← reachI_eq ts m n hm]
  have h0 : 0 < ts.length := by omega
  have hq : n / ts.length ≤ n := Nat.div_le_self _ _
  have hr := Nat.mod_lt n h0
  unfold reachI
  rw [rest_eq ts m _ hm (by omega)]
  have e1 : (n : Int) / (ts.length : Int) = ((n / ts.length : Nat) : Int) := by simp
  have e2 : (n : Int) % (ts.length : Int) = ((n % ts.length : Nat) : Int) := by simp
  generalize n / ts.length = q at e1 hq ⊢
  generalize n % ts.length = r at e2 hr ⊢
  have h2 : mulOk (q : Int) ts.sum := .inr (.inr ⟨by omega, hs⟩)
  have hlen : (0 : Int) < ts.length := by omega
  have e3 : lcE (callI range1F (consA (varE 5) (nilA))) (.nm 6) (yesB) (binE ixD (varE 0) (binE modD (callE intF (consA (binE addD (varE 1) (varE 6)) (nilA))) (varE 3))) [6] [some (tupI ts), some (.int m), some (.int n), some (.int ts.length), some (.int q), some (.int r), none] st = .ok (lstI ((List.range r).map fun i => at_ ts (m + i))) st := by
    have := lc_map (t := .nm 6) (fe := binE ixD (varE 0) (binE modD (callE intF (consA (binE addD (varE 1) (varE 6)) (nilA))) (varE 3))) (envw := [some (tupI ts), some (.int m), some (.int n), some (.int ts.length), some (.int q), some (.int r), none]) (st := st) (fun d => match d with | .int x => .int (at_ ts (m + x.toNat)) | d => d) (rangeD 0 r) [] (by simp; omega) (by
      intro x hx
      obtain ⟨j, hj⟩ := List.mem_iff_getElem?.mp hx
      obtain ⟨rfl, hj⟩ := range_get hj
      refine ⟨[some (tupI ts), some (.int m), some (.int n), some (.int ts.length), some (.int q), some (.int r), some (.int (0 + j))], by simp, ?_⟩
      have e4 : ((m : Int) + j) % (ts.length : Int) = (((m + j) % ts.length : Nat) : Int) := by simp
      have hb := Nat.mod_lt (m + j) h0
      have e5 := ixD_tupI st ts (((m + j) % ts.length : Nat) : Int) (by omega) (by omega)
      simp [-Int.natCast_emod, h0, e4, e5, at_])
    have hb : r < 4611686018427387904 := by omega
    simp [this, hb]
    simp [lstI, rangeD]
  have hd : fdivD (.int n) (.int ts.length) st = .ok (.int q) st := by
    simp [h0, e1, -Int.natCast_ediv]
    have := big_ge
    omega
  simp [-lcE_eq, -Int.natCast_emod, -Int.natCast_ediv, F__law_reach, runF, B__law_reach, e2, h0, h2, e3, hd]
end
theorem sum_le {ts : List Int} {w : Int} (h : ∀ x ∈ ts, 1 ≤ x ∧ x ≤ w) : 0 ≤ ts.sum ∧ ts.sum ≤ ts.length * w := by
  induction ts with
  | nil => simp
  | cons x ts ih =>
    obtain ⟨a, b⟩ := ih fun y hy => h y (List.mem_cons_of_mem _ hy)
    obtain ⟨c, d⟩ := h x List.mem_cons_self
    simp only [List.sum_cons, List.length_cons]
    push_cast
    rw [Int.add_mul]; omega

section
variable (st : Sto)
theorem f_reachW {ts : List Int} {m n : Nat} (h : Trk ts) (hm : m < ts.length) (hn : n < big) (hs : ts.sum.natAbs < big) : F_reach [tupI ts, .int m, .int n] st = .ok (.int (walkI ts m n)) st := by
  rw [f_reach st h hm hn hs, reachI_eq ts m n hm]
end
end Lap

namespace Lap
open PySem G
/-! most_steps -/
/-- how many sectors, from the first on, can be gone within r -/
def cntI : List Int → Int → Nat
  | [], _ => 0
  | x :: xs, r => if x > r then 0 else cntI xs (r - x) + 1
theorem cnt_le : ∀ (xs : List Int) (r : Int), cntI xs r ≤ xs.length
  | [], _ => Nat.le_refl _
  | x :: xs, r => by
    unfold cntI
    split
    · exact Nat.zero_le _
    · have := cnt_le xs (r - x); simp only [List.length_cons]; omega
theorem cnt_lo : ∀ (xs : List Int) (r : Int), 0 ≤ r → (xs.take (cntI xs r)).sum ≤ r
  | [], _, h => by simpa [cntI] using h
  | x :: xs, r, h => by
    unfold cntI
    split
    · simpa using h
    · have := cnt_lo xs (r - x) (by omega)
      simp only [List.take_succ_cons, List.sum_cons]; omega
theorem cnt_hi : ∀ (xs : List Int) (r : Int), cntI xs r < xs.length → r < (xs.take (cntI xs r + 1)).sum
  | [], _, h => by simp at h
  | x :: xs, r, h => by
    unfold cntI at h ⊢
    split
    · simp; omega
    · rename_i hx
      rw [if_neg hx] at h
      have := cnt_hi xs (r - x) (by simpa using h)
      rw [List.take_succ_cons, List.sum_cons]; omega
def mostI (ts : List Int) (m t : Nat) : Nat := (t / ts.sum.toNat) * ts.length + cntI (ts.drop m ++ ts.take m) ((t % ts.sum.toNat : Nat) : Int)
theorem at_ge {ts : List Int} (h : Trk ts) (i : Nat) : 1 ≤ at_ ts i := by
  have hl : i % ts.length < ts.length := Nat.mod_lt _ h.pos
  unfold at_
  rw [List.getD_eq_getElem?_getD, List.getElem?_eq_getElem hl]
  exact h.one _ (List.getElem_mem hl)
theorem walk_mono {ts : List Int} (h : Trk ts) (m a b : Nat) : walkI ts m a + b ≤ walkI ts m (a + b) := by
  induction b with
  | zero => simp
  | succ b ih =>
    have := at_ge h (m + (a + b))
    rw [← Nat.add_assoc, walk_succ]; push_cast; omega
theorem walk_uniq {ts : List Int} (h : Trk ts) {m a b : Nat} {t : Int} (a1 : walkI ts m a ≤ t) (a2 : t < walkI ts m (a + 1)) (b1 : walkI ts m b ≤ t) (b2 : t < walkI ts m (b + 1)) : a = b := by
  rcases Nat.lt_trichotomy a b with k | k | k
  · obtain ⟨c, rfl⟩ := Nat.exists_eq_add_of_lt k
    have := walk_mono h m (a + 1) c
    rw [show a + 1 + c = a + c + 1 by omega] at this
    omega
  · exact k
  · obtain ⟨c, rfl⟩ := Nat.exists_eq_add_of_lt k
    have := walk_mono h m (b + 1) c
    rw [show b + 1 + c = b + c + 1 by omega] at this
    omega
theorem sum_pos {ts : List Int} (h : Trk ts) : (ts.length : Int) ≤ ts.sum := by
  have := walk_mono h 0 0 ts.length
  rw [Nat.zero_add, walk_round ts 0 h.pos] at this
  simpa [walkI] using this
theorem walk_full (ts : List Int) (m q c : Nat) (h : 0 < ts.length) : walkI ts m (q * ts.length + c) = q * ts.sum + walkI ts m c := by
  rw [walk_add, Nat.mul_comm, walk_rounds ts m h, ← walk_mod ts (m + ts.length * q), Nat.add_mul_mod_self_left, walk_mod]
theorem most_spec {ts : List Int} (h : Trk ts) {m : Nat} (hm : m < ts.length) (t : Nat) : walkI ts m (mostI ts m t) ≤ t ∧ (t : Int) < walkI ts m (mostI ts m t + 1) := by
  have h1 := sum_pos h
  have h2 := h.pos
  have hS : 0 < ts.sum.toNat := by omega
  have hr := Nat.mod_lt t hS
  have ht := Nat.div_add_mod t ts.sum.toNat
  have hlen : (ts.drop m ++ ts.take m).length = ts.length := by simp; omega
  unfold mostI
  generalize hq : t / ts.sum.toNat = q at *
  generalize hrr : t % ts.sum.toNat = r at *
  have c1 := cnt_le (ts.drop m ++ ts.take m) r
  have c2 := cnt_lo (ts.drop m ++ ts.take m) r (by omega)
  have c3 := cnt_hi (ts.drop m ++ ts.take m) r
  generalize cntI (ts.drop m ++ ts.take m) r = c at *
  rw [hlen] at c1 c3
  have tk : ∀ k, k ≤ ts.length → ((ts.drop m ++ ts.take m).take k).sum = walkI ts m k := fun k hk => by rw [rest_eq ts m k hm hk]; rfl
  have hc : c < ts.length := by
    rcases Nat.lt_or_ge c ts.length with k | k
    · exact k
    · have e : c = ts.length := by omega
      subst e
      rw [tk _ (Nat.le_refl _), walk_round ts m h2] at c2
      omega
  rw [tk _ c1] at c2
  have c3 := c3 hc
  rw [tk (c + 1) hc] at c3
  have hS2 : (ts.sum.toNat : Int) = ts.sum := by omega
  have ht2 : (t : Int) = q * ts.sum + r := by
    rw [← ht, Int.mul_comm, ← hS2]; push_cast; rfl
  rw [Nat.add_assoc, walk_full ts m q c h2, walk_full ts m q (c + 1) h2]
  omega
theorem most_eq {ts : List Int} (h : Trk ts) {m : Nat} (hm : m < ts.length) {t J : Nat} (a : walkI ts m J ≤ t) (b : (t : Int) < walkI ts m (J + 1)) : mostI ts m t = J :=
  walk_uniq h (most_spec h hm t).1 (most_spec h hm t).2 a b
theorem walk_le {ts : List Int} {w : Int} (h : ∀ x ∈ ts, 1 ≤ x ∧ x ≤ w) (h0 : 0 < ts.length) (m n : Nat) : walkI ts m n ≤ n * w := by
  induction n with
  | zero => simp [walkI]
  | succ n ih =>
    have hl : (m + n) % ts.length < ts.length := Nat.mod_lt _ h0
    have : at_ ts (m + n) ≤ w := by
      unfold at_
      rw [List.getD_eq_getElem?_getD, List.getElem?_eq_getElem hl]
      exact (h _ (List.getElem_mem hl)).2
    rw [walk_succ]; push_cast; rw [Int.add_mul]; omega
theorem walk_le_of {ts : List Int} (h : Trk ts) (m : Nat) {a b : Nat} (hab : a ≤ b) : walkI ts m a ≤ walkI ts m b := by
  obtain ⟨c, rfl⟩ := Nat.exists_eq_add_of_le hab
  have := walk_mono h m a c
  omega
theorem walk_ge {ts : List Int} (h : Trk ts) (m n : Nat) : (n : Int) ≤ walkI ts m n := by
  have := walk_mono h m 0 n
  simpa [walkI] using this
theorem most_le {ts : List Int} (h : Trk ts) {m : Nat} (hm : m < ts.length) (t : Nat) : mostI ts m t ≤ t := by
  have := (most_spec h hm t).1
  have := walk_ge h m (mostI ts m t)
  omega
/-- counted one by one -/
theorem most_step {ts : List Int} (h : Trk ts) {m : Nat} (hm : m < ts.length) (t j : Nat) : min (j + 1) (mostI ts m t) = min j (mostI ts m t) + if walkI ts m (j + 1) ≤ t then 1 else 0 := by
  obtain ⟨h1, h2⟩ := most_spec h hm t
  by_cases hj : j + 1 ≤ mostI ts m t
  · have := walk_le_of h m hj
    rw [if_pos (by omega)]; omega
  · have := walk_le_of h m (show mostI ts m t + 1 ≤ j + 1 by omega)
    rw [if_neg (by omega)]; omega
section
variable (st : Sto)
theorem loop_most (xs : List Int) : ∀ (s t : D) (q : Option D) (r f : Int) (o : Option D),
    thenS (loopF (tgT (.nm 5)) (seqS (ifS (tstE (binE gtD (varE 5) (varE 3))) (retS (varE 4)) (passS)) (parS 3 4 (consA (binE subD (varE 3) (varE 5)) (consA (binE addD (varE 4) (cE (.int 1))) (nilA))))) (xs.map D.int) [some s, some t, q, some (.int r), some (.int f), o] st) (retS (varE 4)) = .ret (.int (f + cntI xs r)) st := by
  induction xs with
  | nil => intro s t q r f o; simp [loopF, cntI]
  | cons x xs ih =>
    intro s t q r f o
    rw [List.map_cons]
    by_cases hx : x > r
    · simp [loopF, cntI, hx]
    · simp [loopF, cntI, hx]
      rw [ih]; congr 2; omega
theorem rot_sum (ts : List Int) (m : Nat) : (ts.drop m).sum + (ts.take m).sum = ts.sum := by rw [← sum_perm ts m, List.sum_append]
theorem f_most_steps_by {ts : List Int} (h : Trk ts) {m t : Nat} (hm : m < ts.length) (ht : t < big) (hs : ts.sum.natAbs < big) : F_most_steps_by [tupI ts, .int m, .int t] st = .ok (.int (mostI ts m t)) st := by
  have h1 := sum_pos h
  have h2 := h.pos
  have h3 := h.le
  have hS : 0 < ts.sum.toNat := by omega
  have hS2 : ts.sum = (ts.sum.toNat : Int) := by omega
  have hd := divmodF_nat st t ts.sum.toNat hS (.inr ht)
  rw [← hS2] at hd
  have hq : t / ts.sum.toNat ≤ t := Nat.div_le_self _ _
  have hl := loop_most st (ts.drop m ++ ts.take m) (lstI (ts.drop m ++ ts.take m)) (.int t) (some (.int (t / ts.sum.toNat : Nat))) (t % ts.sum.toNat : Nat) ((t / ts.sum.toNat : Nat) * ts.length) none
  have hm1 : mulOk ((t / ts.sum.toNat : Nat) : Int) (ts.length : Int) := .inr (.inl (by omega))
  have hlen : (ts.drop m ++ ts.take m).length = ts.length := by simp; omega
  have e : F_sectors_from [tupI ts, .int m] st = .ok (lstI (ts.drop m ++ ts.take m)) st := f_sectors_from st ts m (by omega)
  have hsum : (ts.drop m ++ ts.take m).sum = ts.sum := sum_perm ts m
  unfold mostI
  rw [Int.natCast_add, Int.natCast_mul]
  generalize (t / ts.sum.toNat : Nat) = q at *
  generalize (t % ts.sum.toNat : Nat) = r at *
  generalize ts.drop m ++ ts.take m = rot at *
  have e2 : F_most_of [lstI rot, .int t] st = .ok (.int (q * ts.length + cntI rot r)) st := by
    simp [-divmodF_int, F_most_of, runF, B_most_of, hsum, hd, hlen, hm1, -loopF_cons, hl]
  simp [F_most_steps_by, runF, B_most_steps_by, e, e2]
theorem f_most_steps {ts : List Int} (h : Trk ts) {m t : Nat} (hm : m < ts.length) (ht : t < big) (hs : ts.sum.natAbs < big) : F_most_steps [tupI ts, .int m, .int t] st = .ok (.int (mostI ts m t)) st := by
  simp [F_most_steps, runF, B_most_steps, f_check_track st h, f_check_mat st hm, f_check_from_nought, f_most_steps_by st h hm ht hs]
theorem rangeD_succ (lo : Int) (n : Nat) : rangeD lo (n + 1) = .int lo :: rangeD (lo + 1) n := by
  unfold rangeD
  rw [List.range_succ_eq_map, List.map_cons, List.map_map]
  congr 1
  · simp
  · apply List.map_congr_left
    intro a _
    simp only [Function.comp]
    congr 1
    push_cast; omega
/-- the law's own way of counting -/
theorem loop_law_most (ts : List Int) (m : Nat) (h0 : 0 < ts.length) (n : Nat) : ∀ (j : Nat) (t q : D) (r f : Int) (o : Option D),
    thenS (loopF (tgT (.nm 6)) (seqS (asgS (binE subD (varE 5) (binE ixD (varE 0) (binE modD (callE intF (consA (binE addD (varE 1) (varE 6)) (nilA))) (callE lenF (consA (varE 0) (nilA)))))) (nameT 5)) (seqS (ifS (tstE (binE ltD (varE 5) (cE (.int 0)))) (retS (varE 4)) (passS)) (asgS (binE addD (varE 4) (cE (.int 1))) (nameT 4)))) (rangeD j n)
      [some (tupI ts), some (.int m), some t, some q, some (.int f), some (.int r), o] st) (retS (varE 4)) = .ret (.int (f + cntI ((List.range n).map fun i => at_ ts (m + j + i)) r)) st := by
  induction n with
  | zero => intro j t q r f o; simp [rangeD, cntI]
  | succ n ih =>
    intro j t q r f o
    rw [rangeD_succ, List.range_succ_eq_map]
    have hb := Nat.mod_lt (m + j) h0
    have e4 : ((m : Int) + j) % (ts.length : Int) = (((m + j) % ts.length : Nat) : Int) := by simp
    have e5 := ixD_tupI st ts (((m + j) % ts.length : Nat) : Int) (by omega) (by omega)
    rw [Int.toNat_natCast, show ts.getD ((m + j) % ts.length) 0 = at_ ts (m + j) from rfl] at e5
    have e6 : (List.map (fun i => at_ ts (m + j + i)) (List.map Nat.succ (List.range n))) = (List.range n).map fun i => at_ ts (m + (j + 1) + i) := by
      rw [List.map_map]; apply List.map_congr_left; intro i _; simp only [Function.comp]; congr 1; omega
    have ih' := ih (j + 1) t q (r - at_ ts (m + j)) (f + 1) (some (.int j))
    rw [← e6] at ih'
    rw [List.map_cons, Nat.add_zero]
    generalize (List.map (fun i => at_ ts (m + j + i)) (List.map Nat.succ (List.range n))) = l at *
    generalize at_ ts (m + j) = x at *
    by_cases hx : x > r
    · have hx' : r - x < 0 := by omega
      simp [-Int.natCast_emod, e4, e5, h0, hx, hx', cntI]
    · have hx' : ¬ (r - x < 0) := by omega
      simp [-Int.natCast_emod, e4, e5, h0, hx, hx', cntI]
      rw [show ((j : Int) + 1) = ((j + 1 : Nat) : Int) by push_cast; rfl, ih']; congr 2; push_cast; omega
theorem f_law_most_steps {ts : List Int} (h : Trk ts) {m t : Nat} (hm : m < ts.length) (ht : t < big) (hs : ts.sum.natAbs < big) : F__law_most_steps [tupI ts, .int m, .int t] st = .ok (.int (mostI ts m t)) st := by
  have h1 := sum_pos h
  have h2 := h.pos
  have h3 := h.le
  have hS : 0 < ts.sum.toNat := by omega
  have hS2 : ts.sum = (ts.sum.toNat : Int) := by omega
  have hr := Nat.mod_lt t hS
  have hq : t / ts.sum.toNat ≤ t := Nat.div_le_self _ _
  have hdm := Nat.div_add_mod t ts.sum.toNat
  have e1 : (t : Int) / ts.sum = ((t / ts.sum.toNat : Nat) : Int) := by rw [hS2]; simp
  have e3 : ts.drop m ++ ts.take m = (List.range ts.length).map fun i => at_ ts (m + 0 + i) := by
    have := rest_eq ts m ts.length hm (Nat.le_refl _)
    rw [List.take_of_length_le (by simp; omega)] at this
    exact this
  unfold mostI
  rw [e3, Int.natCast_add, Int.natCast_mul]
  generalize (t / ts.sum.toNat : Nat) = q at *
  generalize (t % ts.sum.toNat : Nat) = r at *
  have hl := loop_law_most st ts m h2 ts.length 0 (.int t) (.int q) r (q * ts.length) none
  have hm1 : mulOk (q : Int) (ts.length : Int) := .inr (.inl (by omega))
  have hm2 : mulOk (q : Int) ts.sum := .inr (.inr ⟨by omega, hs⟩)
  have e2 : (t : Int) - (q : Int) * ts.sum = (r : Int) := by
    have : (t : Int) = ts.sum.toNat * q + r := by rw [← hdm]; push_cast; rfl
    rw [← hS2, Int.mul_comm] at this; omega
  have hd : fdivD (.int t) (.int ts.sum) st = .ok (.int q) st := by
    rw [fdivD_int, if_pos ⟨by omega, hs⟩, e1]
  have hz : ((0 : Nat) : Int) = 0 := rfl
  rw [hz] at hl
  have hb : ts.length < 4611686018427387904 := by omega
  simp [-fdivD_int, F__law_most_steps, runF, B__law_most_steps, hd, hm1, hm2, e2, hb, -loopF_cons, hl]
end
end Lap

namespace Lap
open PySem G
/-! steps, way -/
def stepsN (M m o : Nat) : Nat := (o + M - m - 1) % M + 1
theorem steps_cases {M m o : Nat} (hm : m < M) (ho : o < M) : (m < o ∧ stepsN M m o = o - m) ∨ (o ≤ m ∧ stepsN M m o = o + M - m) := by
  unfold stepsN
  by_cases h : m < o
  · refine .inl ⟨h, ?_⟩
    rw [show o + M - m - 1 = (o - m - 1) + M by omega, Nat.add_mod_right, Nat.mod_eq_of_lt (by omega)]; omega
  · refine .inr ⟨by omega, ?_⟩
    rw [Nat.mod_eq_of_lt (by omega)]; omega
theorem steps_to {M m o : Nat} (hm : m < M) (ho : o < M) : (m + stepsN M m o) % M = o := by
  rcases steps_cases hm ho with ⟨h, e⟩ | ⟨h, e⟩
  · rw [e, show m + (o - m) = o by omega, Nat.mod_eq_of_lt ho]
  · rw [e, show m + (o + M - m) = o + M by omega, Nat.add_mod_right, Nat.mod_eq_of_lt ho]
theorem steps_rng {M m o : Nat} (hm : m < M) (ho : o < M) : 1 ≤ stepsN M m o ∧ stepsN M m o ≤ M := by
  rcases steps_cases hm ho with ⟨h, e⟩ | ⟨h, e⟩ <;> omega
theorem steps_int {M m o : Nat} (hm : m < M) (ho : o < M) : ((o : Int) - m - 1) % M + 1 = (stepsN M m o : Nat) := by
  unfold stepsN
  have : ((o : Int) - m - 1) % M = ((o + M - m - 1 : Nat) : Int) % M := by
    rw [show ((o + M - m - 1 : Nat) : Int) = (o - m - 1) + M by omega, Int.add_emod_right]
  rw [this]; push_cast; rfl
/-- one step further leads there only at the last one -/
theorem steps_first {M m o d : Nat} (hm : m < M) (ho : o < M) (hd : 1 ≤ d) (h : d ≤ stepsN M m o) : (m + d) % M = o ↔ d = stepsN M m o := by
  constructor
  · intro e
    rcases steps_cases hm ho with ⟨h1, e1⟩ | ⟨h1, e1⟩
    · rw [Nat.mod_eq_of_lt (by omega)] at e; omega
    · by_cases k : m + d < M
      · rw [Nat.mod_eq_of_lt k] at e; omega
      · rw [Nat.mod_eq_sub_mod (by omega), Nat.mod_eq_of_lt (by omega)] at e; omega
  · rintro rfl; exact steps_to hm ho
theorem steps_back {M m o : Nat} (hm : m < M) (ho : o < M) : stepsN M m o + stepsN M o m = if m = o then 2 * M else M := by
  rcases steps_cases hm ho with ⟨h, e⟩ | ⟨h, e⟩ <;> rcases steps_cases ho hm with ⟨h2, e2⟩ | ⟨h2, e2⟩ <;> split <;> omega
theorem steps_over {M a b c : Nat} (ha : a < M) (hb : b < M) (hc : c < M) : stepsN M a b + stepsN M b c = stepsN M a c ∨ stepsN M a b + stepsN M b c = stepsN M a c + M := by
  rcases steps_cases ha hb with ⟨h, e⟩ | ⟨h, e⟩ <;> rcases steps_cases hb hc with ⟨h2, e2⟩ | ⟨h2, e2⟩ <;> rcases steps_cases ha hc with ⟨h3, e3⟩ | ⟨h3, e3⟩ <;> omega
def wayI (ts : List Int) (m o : Nat) : Int := walkI ts m (stepsN ts.length m o)
theorem walk_there (ts : List Int) {m o : Nat} (hm : m < ts.length) (ho : o < ts.length) (n : Nat) : walkI ts (m + stepsN ts.length m o) n = walkI ts o n := by
  rw [← walk_mod ts (m + _), steps_to hm ho]
theorem way_back {ts : List Int} {m o : Nat} (hm : m < ts.length) (ho : o < ts.length) : wayI ts m o + wayI ts o m = ts.sum * if m = o then 2 else 1 := by
  have h0 : 0 < ts.length := by omega
  unfold wayI
  rw [← walk_there ts hm ho, ← walk_add, steps_back hm ho]
  split
  · rw [Nat.mul_comm, walk_rounds ts m h0]; push_cast; omega
  · rw [walk_round ts m h0]; omega
theorem way_over {ts : List Int} {a b c : Nat} (ha : a < ts.length) (hb : b < ts.length) (hc : c < ts.length) : wayI ts a b + wayI ts b c - wayI ts a c = 0 ∨ wayI ts a b + wayI ts b c - wayI ts a c = ts.sum := by
  have h0 : 0 < ts.length := by omega
  unfold wayI
  rw [← walk_there ts ha hb, ← walk_add]
  rcases steps_over ha hb hc with e | e
  · rw [e]; left; omega
  · rw [e, walk_add, walk_round ts _ h0]; right; omega
section
variable (st : Sto)
theorem f_steps_by {ts : List Int} {m o : Nat} (hm : m < ts.length) (ho : o < ts.length) : F_steps_by [tupI ts, .int m, .int o] st = .ok (.int (stepsN ts.length m o)) st := by
  have h0 : 0 < ts.length := by omega
  rw [← steps_int hm ho]
  simp [F_steps_by, runF, B_steps_by, h0]
theorem f_check_mats {ts : List Int} (h : Trk ts) {m o : Nat} (hm : m < ts.length) (ho : o < ts.length) : F_check_mats [tupI ts, .int m, .int o] st = .ok .non st := by
  simp [F_check_mats, runF, B_check_mats, f_check_track st h, f_check_mat st hm, f_check_mat st ho]
theorem f_steps {ts : List Int} (h : Trk ts) {m o : Nat} (hm : m < ts.length) (ho : o < ts.length) : F_steps [tupI ts, .int m, .int o] st = .ok (.int (stepsN ts.length m o)) st := by
  simp [F_steps, runF, B_steps, f_check_mats st h hm ho, f_steps_by st hm ho]
theorem f_way_by {ts : List Int} (h : Trk ts) {m o : Nat} (hm : m < ts.length) (ho : o < ts.length) (hs : ts.sum.natAbs < big) : F_way_by [tupI ts, .int m, .int o] st = .ok (.int (wayI ts m o)) st := by
  have hb := big_ge
  have hr := steps_rng hm ho
  have h8 := h.le
  have := f_reach_by st ts m (stepsN ts.length m o) (by omega) (by omega) (by omega) hs
  rw [reachI_eq ts _ _ hm] at this
  simp [F_way_by, runF, B_way_by, f_steps_by st hm ho, this, wayI]
theorem f_way {ts : List Int} (h : Trk ts) {m o : Nat} (hm : m < ts.length) (ho : o < ts.length) (hs : ts.sum.natAbs < big) : F_way [tupI ts, .int m, .int o] st = .ok (.int (wayI ts m o)) st := by
  simp [F_way, runF, B_way, f_check_mats st h hm ho, f_way_by st h hm ho hs]
end
/-! draws -/
theorem _root_.G.One.two {F : FA} (hF : One F) {st : Sto} {n : Nat} (a b : Int) (hp : Pool n st) : ∃ w st', F [.mut n, .tup [.int a, .int b]] st = .ok (.int w) st' ∧ (w = a ∨ w = b) ∧ Pool n st' ∧ Eff n st st' := by
  obtain ⟨d, s1, e1, hd, hp1, he⟩ := hF (xs := [.int a, .int b]) hp (by simp) (by simp)
  rcases hd with _ | ⟨_, _ | ⟨_, hd⟩⟩
  · exact ⟨a, s1, e1, .inl rfl, hp1, he⟩
  · exact ⟨b, s1, e1, .inr rfl, hp1, he⟩
  · cases hd
theorem _root_.G.One.three {F : FA} (hF : One F) {st : Sto} {n : Nat} (a b c : Int) (hp : Pool n st) : ∃ w st', F [.mut n, .tup [.int a, .int b, .int c]] st = .ok (.int w) st' ∧ (w = a ∨ w = b ∨ w = c) ∧ Pool n st' ∧ Eff n st st' := by
  obtain ⟨d, s1, e1, hd, hp1, he⟩ := hF (xs := [.int a, .int b, .int c]) hp (by simp) (by simp)
  rcases hd with _ | ⟨_, _ | ⟨_, _ | ⟨_, hd⟩⟩⟩
  · exact ⟨a, s1, e1, .inl rfl, hp1, he⟩
  · exact ⟨b, s1, e1, .inr (.inl rfl), hp1, he⟩
  · exact ⟨c, s1, e1, .inr (.inr rfl), hp1, he⟩
  · cases hd
/-- a drawn track with all that is wanted of it -/
structure DT (ts : List Int) (w : Int) : Prop where
  t : Trk ts
  b : ∀ x ∈ ts, 1 ≤ x ∧ x ≤ w
  s : ts.sum ≤ 8 * w
  p : (ts.length : Int) ≤ ts.sum
  w : 1 ≤ w
theorem DT.of {ts : List Int} {w : Int} (hw : 1 ≤ w) (t1 : 1 ≤ ts.length) (t2 : (ts.length : Int) ≤ 8) (t3 : ∀ x ∈ ts, 1 ≤ x ∧ x ≤ w) : DT ts w := by
  have hT : Trk ts := ⟨t1, by omega, fun x hx => (t3 x hx).1⟩
  refine ⟨hT, t3, ?_, sum_pos hT, hw⟩
  have := (sum_le t3).2
  have := Int.mul_le_mul_of_nonneg_right t2 (show 0 ≤ w by omega)
  omega
theorem _root_.G.Track.dt {F : FA} (hF : Track F 8) {st : Sto} {n : Nat} {w : Int} (hp : Pool n st) (hw : 1 ≤ w) : ∃ ts st', F [.mut n, .int w] st = .ok (tupI ts) st' ∧ DT ts w ∧ Pool n st' ∧ Eff n st st' := by
  obtain ⟨ts, s2, e2, t1, t2, t3, hp2, he⟩ := hF hp hw
  exact ⟨ts, s2, e2, .of hw t1 t2 t3, hp2, he⟩
end Lap

namespace Lap
open PySem G
/-! marks, bags -/
def bagD (b : List P2) : D := .tup (b.map pairD)
def MatOk (ts : List Int) (p : P2) : Prop := 0 ≤ p.1 ∧ 0 ≤ p.2 ∧ p.2 < ts.length
instance (ts : List Int) (p : P2) : Decidable (MatOk ts p) := by unfold MatOk; infer_instance
structure BagOk (ts : List Int) (b : List P2) : Prop where
  len : b.length ≤ 30
  ok : ∀ p ∈ b, MatOk ts p
  up : b.Pairwise ltP2
theorem BagOk.sub {ts : List Int} {b c : List P2} (h : BagOk ts b) (s : c.Sublist b) : BagOk ts c :=
  ⟨Nat.le_trans s.length_le h.len, fun p hp => h.ok p (s.subset hp), h.up.sublist s⟩
def followB (ts : List Int) (p q : P2) : Bool := decide (p.1 - q.1 ≥ wayI ts q.2.toNat p.2.toNat)
theorem way_pos {ts : List Int} (h : Trk ts) {m o : Nat} (hm : m < ts.length) (ho : o < ts.length) : 1 ≤ wayI ts m o := by
  have := walk_ge h m (stepsN ts.length m o)
  have := (steps_rng hm ho).1
  unfold wayI; omega
theorem follow_lt {ts : List Int} (h : Trk ts) {p q : P2} (hp : MatOk ts p) (hq : MatOk ts q) (f : followB ts p q = true) : q.1 < p.1 := by
  obtain ⟨a, b, c⟩ := hp
  obtain ⟨d, e, g⟩ := hq
  have := way_pos h (m := q.2.toNat) (o := p.2.toNat) (by omega) (by omega)
  unfold followB at f
  have := of_decide_eq_true f
  omega
theorem follow_tr {ts : List Int} (h : Trk ts) {p q r : P2} (hp : MatOk ts p) (hq : MatOk ts q) (hr : MatOk ts r) (f : followB ts p q = true) (g : followB ts q r = true) : followB ts p r = true := by
  obtain ⟨a, b, c⟩ := hp
  obtain ⟨d, e, i⟩ := hq
  obtain ⟨j, k, l⟩ := hr
  have hs := sum_pos h
  have := way_over (ts := ts) (a := r.2.toNat) (b := q.2.toNat) (c := p.2.toNat) (by omega) (by omega) (by omega)
  unfold followB at *
  have f := of_decide_eq_true f
  have g := of_decide_eq_true g
  apply decide_eq_true
  omega
theorem follow_irr {ts : List Int} (h : Trk ts) {p : P2} (hp : MatOk ts p) : followB ts p p = false := by
  cases e : followB ts p p with
  | false => rfl
  | true => exact absurd (follow_lt h hp hp e) (by omega)
section
variable (st : Sto)
@[simp] theorem ix_pair0 (p : P2) : ixD (pairD p) (.int 0) st = .ok (.int p.1) st := ixD_tup _ _ _ rfl
@[simp] theorem ix_pair1 (p : P2) : ixD (pairD p) (.int 1) st = .ok (.int p.2) st := ixD_tup _ _ _ rfl
@[simp] theorem len_bag (b : List P2) : lenF [bagD b] st = .ok (.int b.length) st := by unfold bagD; rw [lenF_tup, List.length_map]
@[simp] theorem isi_bag (c : Tag) (b : List P2) : isiD c (bagD b) st = .ok (.bl (isiB .tup c)) st := rfl
@[simp] theorem isi_pair (c : Tag) (b : P2) : isiD c (pairD b) st = .ok (.bl (isiB .tup c)) st := rfl
@[simp] theorem len_pair (p : P2) : lenF [pairD p] st = .ok (.int 2) st := by unfold pairD; rw [lenF_tup]; rfl
@[simp] theorem iter_bag (b : List P2) : iterD (bagD b) st = .ok (.frz (b.map pairD)) st := rfl
theorem ix_bag (b : List P2) (i : Nat) (h : i < b.length) : ixD (bagD b) (.int i) st = .ok (pairD b[i]) st := by
  unfold bagD
  have := atI_nat' (b.map pairD) i (by simpa using h)
  rw [List.getElem_map] at this
  exact ixD_tup _ _ _ this
@[simp] theorem slice_bag (b : List P2) (l h : Option Int) : sliceD (bagD b) l h st = .ok (bagD (cutL b l h)) st := by unfold bagD; rw [sliceD_tup, cutD_map]
theorem le_pair (p q : P2) : leD (pairD p) (pairD q) st = .ok (.bl (!decide (ltP2 q p))) st := by
  show R.ok (D.bl (lexLe [p.1, p.2] [q.1, q.2])) st = _
  have e : lexLe [p.1, p.2] [q.1, q.2] = if p.1 = q.1 then (if p.2 = q.2 then true else decide (p.2 ≤ q.2)) else decide (p.1 ≤ q.1) := rfl
  rw [e]
  refine congrArg (fun b => R.ok (D.bl b) st) ?_
  rcases ltP2_tri p q with h | h | h
  · have h' : ¬ ltP2 q p := fun z => ltP2_irr p (ltP2_tr h z)
    rw [decide_eq_false h']
    unfold ltP2 at h
    split
    · split
      · rfl
      · exact decide_eq_true (by omega)
    · exact decide_eq_true (by omega)
  · subst h
    rw [if_pos rfl, if_pos rfl, decide_eq_false (ltP2_irr p)]; rfl
  · rw [decide_eq_true h]
    unfold ltP2 at h
    split
    · split
      · omega
      · exact decide_eq_false (by omega)
    · exact decide_eq_false (by omega)
theorem f_is_pair (p : P2) : F_is_pair [pairD p] st = .ok (.bl true) st := by
  simp [F_is_pair, runF, B_is_pair, F_is_tuple_of, B_is_tuple_of, F_is_tuple_up_to, B_is_tuple_up_to, isiB]
theorem f_is_mark_of {ts : List Int} (p : P2) : F_is_mark_of [tupI ts, pairD p] st = .ok (.bl (decide (MatOk ts p))) st := by
  have e : decide (MatOk ts p) = (decide (0 ≤ p.1) && decide (0 ≤ p.2 ∧ p.2 ≤ ts.length - 1)) := by
    unfold MatOk
    by_cases h1 : 0 ≤ p.1 <;> by_cases h2 : 0 ≤ p.2 <;> by_cases h3 : p.2 < ts.length <;> simp [h1, h2, h3] <;> omega
  rw [e]
  by_cases h : 0 ≤ p.1 <;> simp [F_is_mark_of, runF, B_is_mark_of, f_is_pair, f_is_from, f_is_mat_of, h]
theorem f_wrong_in_bag {ts : List Int} {b : List P2} (h : BagOk ts b) : F_wrong_in_bag [tupI ts, bagD b] st = .ok (.lst []) st := by
  have h30 := h.len
  have e0 : F_is_tuple_up_to [bagD b, .int 0, .int 30] st = .ok (.bl true) st := by
    have : (b.length : Int) ≤ 30 := by omega
    simp [F_is_tuple_up_to, runF, B_is_tuple_up_to, isiB, this]
  obtain ⟨env', s', e, q2, q3, rfl, rfl⟩ := loop_nx (g := tgT (.tp [.nm 2, .nm 3])) (body := ifS (orB (notB (tstE (callE F_is_mark_of (consA (varE 0) (consA (varE 3) (nilA)))))) (andB (tstE (binE gtD (varE 2) (cE (.int 0)))) (tstE (binE leD (varE 3) (binE ixD (varE 1) (binE subD (varE 2) (cE (.int 1)))))))) (retS (lstE (consA (varE 2) (nilA)))) (passS))
    (fun j env s => ∃ q2 q3 : Option D, env = [some (tupI ts), some (bagD b), q2, q3] ∧ s = st)
    (xs := enumL (b.map pairD)) (env := [some (tupI ts), some (bagD b), none, none]) (st := st) ⟨_, _, rfl, rfl⟩
    (by
      rintro j x env s hx ⟨q2, q3, rfl, rfl⟩
      obtain ⟨y, hy, rfl⟩ := enumL_get hx
      rw [List.getElem?_map] at hy
      obtain ⟨p, hp, rfl⟩ := Option.map_eq_some_iff.mp hy
      obtain ⟨hj, ep⟩ := List.getElem?_eq_some_iff.mp hp
      have hm : MatOk ts p := h.ok p (List.mem_of_getElem? hp)
      refine ⟨_, s, ?_, some (.int j), some (pairD p), rfl, rfl⟩
      by_cases h0 : 0 < j
      · have k1 : (j : Int) - 1 = ((j - 1 : Nat) : Int) := by omega
        have k2 := ix_bag s b (j - 1) (by omega)
        have k3 : ltP2 b[j - 1] p := by
          rw [← ep]
          exact List.pairwise_iff_getElem.mp h.up (j - 1) j (by omega) hj (by omega)
        have k4 : 0 < (j : Int) := by omega
        have k5 := le_pair s p b[j - 1]
        rw [decide_eq_true k3] at k5
        simp [Tg.set, Tg.sets, f_is_mark_of, hm, h0, k1, k2, k5]
      · have k4 : ¬ 0 < (j : Int) := by omega
        simp [Tg.set, Tg.sets, f_is_mark_of, hm, h0, k4])
  have ee : enumF [bagD b] s' = .ok (.frz (enumL (b.map pairD))) s' := rfl
  simp [F_wrong_in_bag, runF, B_wrong_in_bag, e0, ee, e]
theorem f_check_bag {ts : List Int} {b : List P2} (h : BagOk ts b) : F_check_bag [tupI ts, bagD b] st = .ok .non st := by
  simp [F_check_bag, runF, B_check_bag, f_wrong_in_bag st h]
theorem f_check_tracked {ts : List Int} {b : List P2} (hT : Trk ts) (h : BagOk ts b) : F_check_tracked [tupI ts, bagD b] st = .ok .non st := by
  simp [F_check_tracked, runF, B_check_tracked, f_check_track st hT, f_check_bag st h]
theorem f_can_follow_by {ts : List Int} (hT : Trk ts) (hs : ts.sum.natAbs < big) {p q : P2} (hp : MatOk ts p) (hq : MatOk ts q) : F_can_follow_by [tupI ts, pairD p, pairD q] st = .ok (.bl (followB ts p q)) st := by
  obtain ⟨a, b, c⟩ := hp
  obtain ⟨d, e, g⟩ := hq
  have := f_way_by st hT (m := q.2.toNat) (o := p.2.toNat) (by omega) (by omega) hs
  rw [show ((q.2.toNat : Nat) : Int) = q.2 by omega, show ((p.2.toNat : Nat) : Int) = p.2 by omega] at this
  simp [F_can_follow_by, runF, B_can_follow_by, this, followB]
/-- every two marks one way and the other -/
def apartB (ts : List Int) (p q : P2) : Bool := !followB ts p q && !followB ts q p
theorem f_are_apart {ts : List Int} (hT : Trk ts) (hs : ts.sum.natAbs < big) {p q : P2} (hp : MatOk ts p) (hq : MatOk ts q) : F_are_apart [tupI ts, pairD p, pairD q] st = .ok (.bl (apartB ts p q)) st := by
  unfold apartB
  cases h : followB ts p q <;> simp [F_are_apart, runF, B_are_apart, f_can_follow_by st hT hs hp hq, f_can_follow_by st hT hs hq hp, h]
end
end Lap

namespace Lap
open PySem G
theorem eqD_strS (x y : Str) (st : Sto) : eqD (.str x) (.str y) st = .ok (.bl (decide (x = y))) st := rfl
/-- data of ints, truths, texts, none and tuples of them, no deeper than k -/
def Pur : Nat → D → Prop
  | _, .non => True
  | _, .bl _ => True
  | _, .int _ => True
  | _, .str _ => True
  | k + 1, .tup xs => xs.length ≤ 10000 ∧ ∀ x ∈ xs, Pur k x
  | _, _ => False
theorem pur_ints (k : Nat) (ts : List Int) (h : ts.length ≤ 10000) : Pur (k + 1) (tupI ts) := by
  unfold tupI
  show _ ∧ _
  refine ⟨by simpa using h, fun x hx => ?_⟩
  obtain ⟨y, _, rfl⟩ := List.mem_map.mp hx
  cases k <;> exact trivial
theorem zip_self (xs : List D) : xs.zipWith (fun x y => D.tup [x, y]) xs = xs.map fun x => .tup [x, x] := by
  induction xs with
  | nil => rfl
  | cons x xs ih => simp [ih]
theorem same_refl : ∀ (k : Nat) (d : D) (st : Sto), Pur k d → R__law_same (k + 1) [d, d] st = .ok (.bl true) st
  | k, .non, st, _ => by
    show runF 2 4 (B__law_same (R__law_same k)) [_, _] st = _
    generalize R__law_same k = r
    simp [runF, B__law_same]
  | k, .bl b, st, _ => by
    show runF 2 4 (B__law_same (R__law_same k)) [_, _] st = _
    generalize R__law_same k = r
    simp [runF, B__law_same, isiB]
  | k, .int i, st, _ => by
    show runF 2 4 (B__law_same (R__law_same k)) [_, _] st = _
    generalize R__law_same k = r
    simp [runF, B__law_same, isiB]
  | k, .str s, st, _ => by
    show runF 2 4 (B__law_same (R__law_same k)) [_, _] st = _
    generalize R__law_same k = r
    simp [runF, B__law_same, isiB, eqD_strS]
  | 0, .tup xs, st, h => h.elim
  | k + 1, .tup xs, st, h => by
    obtain ⟨hl, hx⟩ := h
    show runF 2 4 (B__law_same (R__law_same (k + 1))) [_, _] st = _
    have ih := fun d st => same_refl k d st
    generalize R__law_same (k + 1) = r at ih ⊢
    have e := lc_map (t := .tp [.nm 2, .nm 3]) (fe := callE r (consA (varE 2) (consA (varE 3) (nilA)))) (envw := [some (.tup xs), some (.tup xs), none, none]) (st := st) (fun _ => .bl true) (xs.map fun x => .tup [x, x]) [] (by simp; omega) (by
      intro x hx'
      obtain ⟨y, hy, rfl⟩ := List.mem_map.mp hx'
      refine ⟨[some (.tup xs), some (.tup xs), some y, some y], by simp [Tg.set, Tg.sets], ?_⟩
      simp [ih y st (hx y hy)])
    have e2 : (List.map (fun _ => D.bl true) (xs.map fun x => D.tup [x, x])) = (List.replicate xs.length true).map D.bl := by
      rw [List.map_map, List.map_replicate, List.eq_replicate_iff]
      simp
    rw [e2, List.nil_append] at e
    have ea := allF_bools st (List.replicate xs.length true)
    have ez : zipF [.tup xs, .tup xs] st = .ok (.frz (xs.map fun x => .tup [x, x])) st := by
      show R.ok (ItD.frz (xs.zipWith (fun x y => D.tup [x, y]) xs)) st = _
      rw [zip_self]
    rw [List.map_replicate] at e ea
    simp [runF, B__law_same, isiB, ez, e]
    rw [ea]
    simp
  | 0, .raw _, _, h => h.elim
  | 0, .dic, _, h => h.elim
  | _ + 1, .dic, _, h => h.elim
  | _ + 1, .raw _, _, h => h.elim
  | 0, .lst _, _, h => h.elim
  | _ + 1, .lst _, _, h => h.elim
  | 0, .slo _, _, h => h.elim
  | _ + 1, .slo _, _, h => h.elim
  | 0, .mut _, _, h => h.elim
  | _ + 1, .mut _, _, h => h.elim
theorem f_same_refl (d : D) (st : Sto) (h : Pur 19 d) : F__law_same [d, d] st = .ok (.bl true) st := same_refl 19 d st h
end Lap

namespace Lap
open PySem G
theorem lc_typed {α : Type} {t : Tg} {fe : EvE} {envw : G.Env} {st : Sto} (f h : α → D) : ∀ (as : List α) (acc : List D), acc.length + as.length ≤ 16777216 →
    (∀ a ∈ as, ∃ env1, t.set (f a) envw = some env1 ∧ fe env1 st = .ok (h a) st) → lcF t yesB fe envw (as.map f) st acc = .ok (acc ++ as.map h) st
  | [], acc, _, _ => by simp [lcF]
  | a :: as, acc, hl, hx => by
    obtain ⟨env1, h1, h2⟩ := hx a List.mem_cons_self
    simp only [List.length_cons] at hl
    rw [List.map_cons]
    unfold lcF
    rw [turnC_yes h1 h2 (by omega), lc_typed f h as (acc ++ [h a]) (by simp; omega) fun y hy => hx y (List.mem_cons_of_mem _ hy)]
    simp
theorem lc_typedF {α : Type} {t : Tg} {tt : EvB} {fe : EvE} {envw : G.Env} {st : Sto} (f h : α → D) (p : α → Bool) : ∀ (as : List α) (acc : List D), acc.length + as.length ≤ 16777216 →
    (∀ a ∈ as, ∃ env1, t.set (f a) envw = some env1 ∧ tt env1 st = .ok (p a) st ∧ (p a = true → fe env1 st = .ok (h a) st)) → lcF t tt fe envw (as.map f) st acc = .ok (acc ++ (as.filter p).map h) st
  | [], acc, _, _ => by simp [lcF]
  | a :: as, acc, hl, hx => by
    obtain ⟨env1, h1, ht, h2⟩ := hx a List.mem_cons_self
    simp only [List.length_cons] at hl
    rw [List.map_cons]
    unfold lcF
    rw [turnC_if h1 ht h2 (by omega), lc_typedF f h p as _ (by split <;> (try simp only [List.length_append, List.length_cons, List.length_nil]) <;> omega) fun y hy => hx y (List.mem_cons_of_mem _ hy)]
    cases e : p a with
    | false => simp [e]
    | true => simp [e]
theorem lc2_typed {α β : Type} {t t1 : Tg} {it1 : EvI} {fe : EvE} {vs1 : List Nat} {envw : G.Env} {st : Sto} (f : α → D) (gs : α → List β) (g : β → D) (h : α → β → D) : ∀ (as : List α) (acc : List D), acc.length + (as.flatMap gs).length ≤ 16777216 →
    (∀ a ∈ as, ∃ env1, t.set (f a) envw = some env1 ∧ it1 env1 st = .ok (.frz ((gs a).map g)) st ∧ ∀ b ∈ gs a, ∃ env2, t1.set (g b) (wipeE env1 vs1) = some env2 ∧ fe env2 st = .ok (h a b) st) →
    lc2F t yesB it1 t1 yesB fe vs1 envw (as.map f) st acc = .ok (acc ++ as.flatMap fun a => (gs a).map (h a)) st
  | [], acc, _, _ => by simp [lc2F]
  | a :: as, acc, hl, hx => by
    obtain ⟨env1, e1, e2, e3⟩ := hx a List.mem_cons_self
    rw [List.flatMap_cons, List.length_append] at hl
    have i1 := lc_typed (t := t1) (fe := fe) (envw := wipeE env1 vs1) (st := st) g (h a) (gs a) acc (by omega) e3
    have i2 := lc2_typed f gs g h as (acc ++ (gs a).map (h a)) (by rw [List.length_append, List.length_map]; omega) fun y hy => hx y (List.mem_cons_of_mem _ hy)
    rw [List.map_cons, List.flatMap_cons]
    unfold lc2F
    have hy : noX (yesB env1 st) = .ok true st := rfl
    have e2' : noX (it1 env1 st) = .ok (.frz ((gs a).map g)) st := by rw [e2]; rfl
    simp only [e1, hy]
    show (R.bind (noX (it1 env1 st)) fun I st2 => _) = _
    rw [e2']
    show (R.bind (lcF t1 yesB fe (wipeE env1 vs1) ((gs a).map g) st acc) fun acc2 st3 => _) = _
    rw [i1]
    refine Eq.trans i2 ?_
    rw [List.append_assoc]
theorem enumL_typed {α : Type} (f : α → D) (z : α) (xs : List α) : enumL (xs.map f) = (List.range xs.length).map fun (i : Nat) => D.tup [.int i, f (xs.getD i z)] := by
  apply List.ext_getElem?
  intro i
  rw [List.getElem?_map]
  by_cases hi : i < xs.length
  · rw [List.getElem?_range hi]
    unfold enumL
    rw [List.getElem?_zipWith, List.length_map, List.getElem?_range hi, List.getElem?_map, List.getElem?_eq_getElem hi]
    simp [List.getD, hi]
  · rw [List.getElem?_eq_none (by simp; omega), List.getElem?_eq_none (by simp; omega)]; rfl
def RowP (ts : List Int) (b : List P2) : Prop := b.Pairwise fun q p => followB ts p q = true
def CrowdP (ts : List Int) (b : List P2) : Prop := ∀ p ∈ b, ∀ q ∈ b, followB ts p q = false
instance (ts : List Int) (b : List P2) : Decidable (CrowdP ts b) := by unfold CrowdP; infer_instance
theorem row_snoc {ts : List Int} (hT : Trk ts) {b : List P2} {p : P2} (hb : ∀ q ∈ b, MatOk ts q) (hp : MatOk ts p) (h : RowP ts b) (hl : b = [] ∨ ∃ q, b.getLast? = some q ∧ followB ts p q = true) : RowP ts (b ++ [p]) := by
  unfold RowP
  rw [List.pairwise_append]
  refine ⟨h, List.pairwise_singleton _ _, fun q hq r hr => ?_⟩
  rw [List.mem_singleton.mp hr]
  rcases hl with rfl | ⟨l, el, f⟩
  · cases hq
  · obtain ⟨b', rfl⟩ := List.getLast?_eq_some_iff.mp el
    rcases List.mem_append.mp hq with hq' | hq'
    · have := (List.pairwise_append.mp h).2.2 q hq' l (by simp)
      exact follow_tr hT hp (hb l (by simp)) (hb q hq) f this
    · rw [List.mem_singleton.mp hq']; exact f
/-- a crowd and a row have one mark in common at most -/
theorem crowd_row {ts : List Int} {c r : List P2} (hc : CrowdP ts c) (hr : RowP ts r) (hu : c.Pairwise ltP2) : (c.filter fun p => decide (p ∈ r)).length ≤ 1 := by
  rcases Nat.lt_or_ge 1 (c.filter fun p => decide (p ∈ r)).length with h | h
  · exfalso
    have hs : (c.filter fun p => decide (p ∈ r)).Pairwise ltP2 := hu.sublist List.filter_sublist
    have h01 : ltP2 (c.filter fun p => decide (p ∈ r))[0] (c.filter fun p => decide (p ∈ r))[1] := List.pairwise_iff_getElem.mp hs 0 1 (by omega) h (by omega)
    have m0 := List.mem_filter.mp (List.getElem_mem (l := c.filter fun p => decide (p ∈ r)) (n := 0) (by omega))
    have m1 := List.mem_filter.mp (List.getElem_mem (l := c.filter fun p => decide (p ∈ r)) (n := 1) h)
    generalize (c.filter fun p => decide (p ∈ r))[0] = x at *
    generalize (c.filter fun p => decide (p ∈ r))[1] = y at *
    obtain ⟨i, hi, ei⟩ := List.getElem_of_mem (of_decide_eq_true m0.2)
    obtain ⟨j, hj, ej⟩ := List.getElem_of_mem (of_decide_eq_true m1.2)
    rcases Nat.lt_trichotomy i j with k | k | k
    · have := List.pairwise_iff_getElem.mp hr i j hi hj k
      rw [ei, ej, hc y m1.1 x m0.1] at this; cases this
    · subst k
      rw [ei] at ej; subst ej
      exact ltP2_irr _ h01
    · have := List.pairwise_iff_getElem.mp hr j i hj hi k
      rw [ei, ej, hc x m0.1 y m1.1] at this; cases this
  · exact h
theorem crowd_iff {ts : List Int} (hT : Trk ts) {b : List P2} (hb : ∀ q ∈ b, MatOk ts q) : CrowdP ts b ↔ b.Pairwise fun q p => apartB ts p q = true := by
  constructor
  · intro h
    rw [List.pairwise_iff_getElem]
    intro i j hi hj _
    unfold apartB
    rw [h _ (List.getElem_mem hj) _ (List.getElem_mem hi), h _ (List.getElem_mem hi) _ (List.getElem_mem hj)]; rfl
  · intro h p hp q hq
    obtain ⟨i, hi, rfl⟩ := List.getElem_of_mem hp
    obtain ⟨j, hj, rfl⟩ := List.getElem_of_mem hq
    rcases Nat.lt_trichotomy i j with k | k | k
    · have := List.pairwise_iff_getElem.mp h i j hi hj k
      unfold apartB at this
      simp at this; exact this.2
    · subst k; exact follow_irr hT (hb _ hp)
    · have := List.pairwise_iff_getElem.mp h j i hj hi k
      unfold apartB at this
      simp at this; exact this.1
section
variable (st : Sto)
theorem f_is_crowd_by {ts : List Int} (hT : Trk ts) (hs : ts.sum.natAbs < big) {b : List P2} (h : BagOk ts b) : F_is_crowd_by [tupI ts, bagD b] st = .ok (.bl (decide (CrowdP ts b))) st := by
  have h30 := h.len
  have e := lc2_typed (t := .tp [.nm 2, .nm 3]) (t1 := .nm 4) (it1 := iterE (sliceE (varE 1) (noO) (someO (varE 2)))) (fe := callE F_are_apart (consA (varE 0) (consA (varE 3) (consA (varE 4) (nilA))))) (vs1 := [4]) (envw := [some (tupI ts), some (bagD b), none, none, none]) (st := st)
    (fun (i : Nat) => D.tup [.int i, pairD (b.getD i (0, 0))]) (fun i => b.take i) pairD (fun i q => .bl (apartB ts (b.getD i (0, 0)) q)) (List.range b.length) [] (by
      rw [List.length_flatMap]
      have : ∀ l : List Nat, (∀ x ∈ l, x ≤ 30) → l.sum ≤ l.length * 30 := by
        intro l
        induction l with
        | nil => intro; simp
        | cons x l ih =>
          intro hl
          have := ih fun y hy => hl y (List.mem_cons_of_mem _ hy)
          have := hl x List.mem_cons_self
          simp only [List.sum_cons, List.length_cons]; omega
      have := this ((List.range b.length).map fun a => (b.take a).length) (fun x hx => by
        obtain ⟨d, _, rfl⟩ := List.mem_map.mp hx
        rw [List.length_take]; omega)
      rw [List.length_map, List.length_range] at this
      simp only [List.length_nil]; omega) (by
      intro j hj
      have hj := List.mem_range.mp hj
      have eb : b.getD j (0, 0) = b[j] := by simp [List.getD, hj]
      rw [eb]
      have hm : MatOk ts b[j] := h.ok _ (List.getElem_mem hj)
      refine ⟨[some (tupI ts), some (bagD b), some (.int j), some (pairD b[j]), none], by simp [Tg.set, Tg.sets], ?_, fun q hq => ?_⟩
      · have := cutL_to b j
        simp [this]
      · have hq' : MatOk ts q := h.ok q (List.mem_of_mem_take hq)
        refine ⟨[some (tupI ts), some (bagD b), some (.int j), some (pairD b[j]), some (pairD q)], by simp, ?_⟩
        have := f_are_apart st hT hs hm hq'
        simp [this])
  rw [List.nil_append] at e
  have e2 : ((List.range b.length).flatMap fun i => (b.take i).map fun q => D.bl (apartB ts (b.getD i (0, 0)) q)) = ((List.range b.length).flatMap fun i => (b.take i).map fun q => apartB ts (b.getD i (0, 0)) q).map D.bl := by
    rw [List.map_flatMap]
    congr 1
    funext i
    rw [List.map_map]; rfl
  rw [e2] at e
  have ea := allF_bools st ((List.range b.length).flatMap fun i => (b.take i).map fun q => apartB ts (b.getD i (0, 0)) q)
  have eq : ((List.range b.length).flatMap fun i => (b.take i).map fun q => apartB ts (b.getD i (0, 0)) q).all id = decide (CrowdP ts b) := by
    rw [Bool.eq_iff_iff, decide_eq_true_iff, crowd_iff hT h.ok, List.pairwise_iff_getElem, List.all_eq_true]
    constructor
    · intro z i j hi hj hij
      have := z (apartB ts b[j] b[i]) (List.mem_flatMap.mpr ⟨j, List.mem_range.mpr hj, List.mem_map.mpr ⟨b[i], List.mem_take_iff_getElem.mpr ⟨i, by omega, rfl⟩, by simp [List.getD, hj]⟩⟩)
      exact this
    · intro z x hx
      obtain ⟨j, hj, hx⟩ := List.mem_flatMap.mp hx
      have hj := List.mem_range.mp hj
      obtain ⟨q, hq, rfl⟩ := List.mem_map.mp hx
      obtain ⟨i, hi, rfl⟩ := List.mem_take_iff_getElem.mp hq
      have := z i j (by omega) hj (by omega)
      simpa [List.getD, hj] using this
  rw [eq] at ea
  have ee : enumF [bagD b] st = .ok (.frz ((List.range b.length).map fun (i : Nat) => D.tup [.int i, pairD (b.getD i (0, 0))])) st := by
    show R.ok (ItD.frz (enumL (b.map pairD))) st = _
    rw [enumL_typed pairD (0, 0)]
  have el : lc2E (callI enumF (consA (varE 1) (nilA))) (.tp [.nm 2, .nm 3]) (yesB) (iterE (sliceE (varE 1) (noO) (someO (varE 2)))) (.nm 4) (yesB) (callE F_are_apart (consA (varE 0) (consA (varE 3) (consA (varE 4) (nilA))))) [2, 3, 4] [4] [some (tupI ts), some (bagD b), none, none, none] st = .ok (.lst (((List.range b.length).flatMap fun i => (b.take i).map fun q => apartB ts (b.getD i (0, 0)) q).map D.bl)) st := by
    show (R.bind (R.bind ((callI enumF (consA (varE 1) nilA)) [some (tupI ts), some (bagD b), none, none, none] st) _) _) = _
    have : callI enumF (consA (varE 1) nilA) [some (tupI ts), some (bagD b), none, none, none] st = .ok (.frz ((List.range b.length).map fun (i : Nat) => D.tup [.int i, pairD (b.getD i (0, 0))])) st := by
      simp [ee]
    rw [this]
    show R.bind (lc2F _ _ _ _ _ _ _ _ _ st []) _ = _
    rw [show wipeE [some (tupI ts), some (bagD b), none, none, none] [2, 3, 4] = [some (tupI ts), some (bagD b), none, none, none] from rfl, e]; rfl
  generalize ((List.range b.length).flatMap fun i => (b.take i).map fun q => apartB ts (b.getD i (0, 0)) q).map D.bl = bs at el ea
  simp [F_is_crowd_by, runF, B_is_crowd_by, el, ea]
theorem f_is_crowd {ts : List Int} (hT : Trk ts) (hs : ts.sum.natAbs < big) {b : List P2} (h : BagOk ts b) : F_is_crowd [tupI ts, bagD b] st = .ok (.bl (decide (CrowdP ts b))) st := by
  simp [F_is_crowd, runF, B_is_crowd, f_check_tracked st hT h, f_is_crowd_by st hT hs h]
end
end Lap

namespace Lap
open PySem G
/-! things of any kind -/
mutual
def Thing : D → Bool
  | .non => true
  | .bl _ => true
  | .int _ => true
  | .str _ => true
  | .dic => true
  | .tup xs => ThingL xs
  | .lst xs => ThingL xs
  | _ => false
def ThingL : List D → Bool
  | [] => true
  | x :: xs => Thing x && ThingL xs
end
theorem thingL_all : ∀ {xs : List D}, ThingL xs = true ↔ ∀ x ∈ xs, Thing x = true
  | [] => by simp [ThingL]
  | x :: xs => by simp [ThingL, thingL_all (xs := xs)]
def fromB : D → Int → Bool
  | .int i, l => decide (l ≤ i)
  | _, _ => false
def upB : D → Int → Bool
  | .int i, m => decide (0 ≤ i ∧ i ≤ m)
  | _, _ => false
section
variable (st : Sto)
theorem t_is_whole (d : D) (h : Thing d = true) : F_is_whole [d] st = .ok (.bl (match d with | .int _ => true | _ => false)) st := by
  cases d <;> first | (simp [F_is_whole, runF, B_is_whole, isiB]; done) | (simp [Thing] at h)
theorem t_is_from (d : D) (l : Int) (h : Thing d = true) : F_is_from [d, .int l] st = .ok (.bl (fromB d l)) st := by
  have e := t_is_whole st d h
  cases d <;> first | (simp [F_is_from, runF, B_is_from, e, fromB]; done) | (simp [Thing] at h)
theorem t_law_is_whole (d : D) (l : Int) (h : Thing d = true) : F__law_is_whole [d, .int l] st = .ok (.bl (fromB d l)) st := by
  cases d <;> first | (simp [F__law_is_whole, runF, B__law_is_whole, isiB, fromB]; done) | (simp [Thing] at h)
theorem t_is_up_to (d : D) (m : Int) (h : Thing d = true) : F_is_up_to [d, .int m] st = .ok (.bl (upB d m)) st := by
  have e := t_is_whole st d h
  cases d with
  | int i => exact f_is_up_to st i m
  | _ => first | (simp [F_is_up_to, runF, B_is_up_to, F_is_between, B_is_between, e, upB]; done) | (simp [Thing] at h)
def isTrackB : D → Bool
  | .tup xs => decide (1 ≤ xs.length ∧ xs.length ≤ 8) && xs.all fun x => fromB x 1
  | _ => false
theorem all_of (f : D → Bool) (xs : List D) : allF [.lst (xs.map fun x => D.bl (f x))] st = .ok (.bl (xs.all f)) st := by
  have := allF_bools st (xs.map f)
  rw [List.map_map] at this
  rw [show (xs.map f).all id = xs.all f by rw [List.all_map]; rfl] at this
  exact this
theorem t_is_track (d : D) (h : Thing d = true) : F_is_track [d] st = .ok (.bl (isTrackB d)) st := by
  have e : F_is_track_of [d] st = .ok (.bl (isTrackB d)) st := by
    cases d with
    | tup xs =>
      have hx := thingL_all.mp (show ThingL xs = true by simpa [Thing] using h)
      by_cases h1 : 1 ≤ xs.length <;> by_cases h8 : xs.length ≤ 8
      · have e1 := lc_typed (t := .nm 1) (fe := callE F_is_from (consA (varE 1) (consA (cE (.int 1)) nilA))) (envw := [some (.tup xs), none]) (st := st) id (fun x => .bl (fromB x 1)) xs [] (by simp; omega) (by
          intro x hx'
          exact ⟨[some (.tup xs), some x], by simp, by simp [t_is_from st x 1 (hx x hx')]⟩)
        rw [List.map_id, List.nil_append] at e1
        have e2 := all_of st (fun x => fromB x 1) xs
        have c1 : (1 : Int) ≤ xs.length := by omega
        have c2 : (xs.length : Int) ≤ 8 := by omega
        generalize (xs.map fun x => D.bl (fromB x 1)) = l at *
        simp [F_is_track_of, runF, B_is_track_of, F_is_tuple_up_to, B_is_tuple_up_to, isiB, c1, c2, e1, e2, isTrackB, h1, h8]
      all_goals
        have c : ¬ ((1 : Int) ≤ xs.length ∧ (xs.length : Int) ≤ 8) := by omega
        by_cases c1 : (1 : Int) ≤ xs.length <;> by_cases c2 : (xs.length : Int) ≤ 8
        · exact absurd ⟨c1, c2⟩ c
        all_goals simp [F_is_track_of, runF, B_is_track_of, F_is_tuple_up_to, B_is_tuple_up_to, isiB, c1, c2, isTrackB, h1, h8]
    | _ => first | (simp [F_is_track_of, runF, B_is_track_of, F_is_tuple_up_to, B_is_tuple_up_to, isiB, isTrackB]; done) | (simp [Thing] at h)
  simp [F_is_track, runF, B_is_track, e]
theorem t_law_is_track (d : D) (h : Thing d = true) : F__law_is_track [d] st = .ok (.bl (isTrackB d)) st := by
  cases d with
  | tup xs =>
    have hx := thingL_all.mp (show ThingL xs = true by simpa [Thing] using h)
    by_cases c1 : (0 : Int) < xs.length <;> by_cases c2 : (xs.length : Int) < 9
    · have e1 := lc_typed (t := .nm 1) (fe := callE F__law_is_whole (consA (varE 1) (consA (cE (.int 1)) nilA))) (envw := [some (.tup xs), none]) (st := st) id (fun x => .bl (fromB x 1)) xs [] (by simp; omega) (by
        intro x hx'
        exact ⟨[some (.tup xs), some x], by simp, by simp [t_law_is_whole st x 1 (hx x hx')]⟩)
      rw [List.map_id, List.nil_append] at e1
      have e2 := all_of st (fun x => fromB x 1) xs
      have h1 : 1 ≤ xs.length := by omega
      have h8 : xs.length ≤ 8 := by omega
      have c1' : 0 < xs.length := h1
      generalize (xs.map fun x => D.bl (fromB x 1)) = l at *
      simp [F__law_is_track, runF, B__law_is_track, isiB, c1, c1', c2, e1, e2, isTrackB, h1, h8]
    all_goals
      have h18 : decide (1 ≤ xs.length ∧ xs.length ≤ 8) = false := decide_eq_false (by omega)
      have hB : isTrackB (.tup xs) = false := by show (decide (1 ≤ xs.length ∧ xs.length ≤ 8) && xs.all fun x => fromB x 1) = false; rw [h18]; rfl
      rw [hB]
      by_cases c1' : 0 < xs.length
      · have c2' : ¬ ((xs.length : Int) < 9) := by omega
        simp [F__law_is_track, runF, B__law_is_track, isiB, c1', c2']
      · simp [F__law_is_track, runF, B__law_is_track, isiB, c1']
  | _ => first | (simp [F__law_is_track, runF, B__law_is_track, isiB, isTrackB]; done) | (simp [Thing] at h)
/-- a mark of the track -/
def isMarkB (ts : List Int) : D → Bool
  | .tup [a, b] => fromB a 0 && upB b (ts.length - 1)
  | _ => false
def isPairB : D → Bool
  | .tup [_, _] => true
  | _ => false
theorem t_is_pair (d : D) (h : Thing d = true) : F_is_pair [d] st = .ok (.bl (isPairB d)) st := by
  cases d with
  | tup xs =>
    match xs with
    | [] => simp [F_is_pair, runF, B_is_pair, F_is_tuple_of, B_is_tuple_of, F_is_tuple_up_to, B_is_tuple_up_to, isiB, isPairB]
    | [a] => simp [F_is_pair, runF, B_is_pair, F_is_tuple_of, B_is_tuple_of, F_is_tuple_up_to, B_is_tuple_up_to, isiB, isPairB]
    | [a, b] => simp [F_is_pair, runF, B_is_pair, F_is_tuple_of, B_is_tuple_of, F_is_tuple_up_to, B_is_tuple_up_to, isiB, isPairB]
    | a :: b :: c :: r =>
      have c1 : (2 : Int) ≤ ((r.length : Int) + 1 + 1 + 1) := by omega
      have c2 : ¬ (((r.length : Int) + 1 + 1 + 1) ≤ 2) := by omega
      simp [F_is_pair, runF, B_is_pair, F_is_tuple_of, B_is_tuple_of, F_is_tuple_up_to, B_is_tuple_up_to, isiB, isPairB, c1, c2]
  | _ => first | (simp [F_is_pair, runF, B_is_pair, F_is_tuple_of, B_is_tuple_of, F_is_tuple_up_to, B_is_tuple_up_to, isiB, isPairB]; done) | (simp [Thing] at h)
theorem ix_two0 (a b : D) : ixD (.tup [a, b]) (.int 0) st = .ok a st := ixD_tup _ _ _ rfl
theorem ix_two1 (a b : D) : ixD (.tup [a, b]) (.int 1) st = .ok b st := ixD_tup _ _ _ rfl
theorem t_is_mark_of {ts : List Int} (d : D) (h : Thing d = true) : F_is_mark_of [tupI ts, d] st = .ok (.bl (isMarkB ts d)) st := by
  have ep := t_is_pair st d h
  have no : (∀ a b, d ≠ .tup [a, b]) → F_is_mark_of [tupI ts, d] st = .ok (.bl (isMarkB ts d)) st := fun hn => by
    have e1 : isPairB d = false := by
      unfold isPairB
      split
      · exact absurd rfl (hn _ _)
      · rfl
    have e2 : isMarkB ts d = false := by
      unfold isMarkB
      split
      · exact absurd rfl (hn _ _)
      · rfl
    rw [e1] at ep
    rw [e2]
    simp [F_is_mark_of, runF, B_is_mark_of, ep]
  cases d with
  | tup xs =>
    match xs, h, ep, no with
    | [a, b], h, ep, _ =>
      have hx := thingL_all.mp (show ThingL [a, b] = true by simpa [Thing] using h)
      have ea := t_is_from st a 0 (hx a (by simp))
      have eb := t_is_up_to st b (ts.length - 1) (hx b (by simp))
      rw [show isPairB (.tup [a, b]) = true from rfl] at ep
      have em : F_is_mat_of [tupI ts, b] st = .ok (.bl (upB b (ts.length - 1))) st := by simp [F_is_mat_of, runF, B_is_mat_of, eb]
      show _ = R.ok (D.bl (fromB a 0 && upB b (ts.length - 1))) st
      cases hf : fromB a 0 <;> simp [F_is_mark_of, runF, B_is_mark_of, ep, ix_two0, ix_two1, ea, em, hf]
    | [], _, _, no => exact no (by simp)
    | [_], _, _, no => exact no (by simp)
    | _ :: _ :: _ :: _, _, _, no => exact no (by simp)
  | _ => exact no (by simp)
theorem t_law_is_mark {ts : List Int} (d : D) (h : Thing d = true) : F__law_is_mark [tupI ts, d] st = .ok (.bl (isMarkB ts d)) st := by
  cases d with
  | tup xs =>
    match xs, h with
    | [a, b], h =>
      have hx := thingL_all.mp (show ThingL [a, b] = true by simpa [Thing] using h)
      have ea := t_law_is_whole st a 0 (hx a (by simp))
      have eb := t_law_is_whole st b 0 (hx b (by simp))
      have em : F__law_is_mat [tupI ts, b] st = .ok (.bl (upB b (ts.length - 1))) st := by
        cases b with
        | int i =>
          by_cases h0 : 0 ≤ i
          · have e : decide (0 ≤ i ∧ i ≤ (ts.length : Int) - 1) = decide (i < (ts.length : Int)) := by rw [Bool.eq_iff_iff, decide_eq_true_iff, decide_eq_true_iff]; omega
            simp [F__law_is_mat, runF, B__law_is_mat, eb, fromB, upB, h0]
            omega
          · simp [F__law_is_mat, runF, B__law_is_mat, eb, fromB, upB, h0]
        | _ => simp [F__law_is_mat, runF, B__law_is_mat, eb, fromB, upB]
      show _ = R.ok (D.bl (fromB a 0 && upB b (ts.length - 1))) st
      cases hf : fromB a 0 <;> simp [F__law_is_mark, runF, B__law_is_mark, isiB, ix_two0, ix_two1, ea, em, hf]
    | [], _ => simp [F__law_is_mark, runF, B__law_is_mark, isiB, isMarkB]
    | [_], _ => simp [F__law_is_mark, runF, B__law_is_mark, isiB, isMarkB]
    | a :: b :: c :: r, _ =>
      have c2 : ¬ (((r.length : Int) + 1 + 1 + 1) = 2) := by omega
      simp [F__law_is_mark, runF, B__law_is_mark, isiB, isMarkB, c2]
  | _ => first | (simp [F__law_is_mark, runF, B__law_is_mark, isiB, isMarkB]; done) | (simp [Thing] at h)
end
/-! bags of anything -/
def leB : D → D → Bool
  | .tup [.int a, .int b], .tup [.int c, .int d] => !decide (ltP2 (c, d) (a, b))
  | _, _ => true
def wrongL (ts : List Int) : Option D → Nat → List D → List D
  | _, _, [] => []
  | prev, j, x :: xs => if isMarkB ts x && !(match prev with | some p => leB x p | none => false) then wrongL ts (some x) (j + 1) xs else [.int j]
def wrongD (ts : List Int) : D → List D
  | .tup xs => if xs.length ≤ 30 then wrongL ts none 0 xs else [.non]
  | _ => [.non]
def enumG : Nat → List D → List D
  | _, [] => []
  | j, x :: xs => .tup [.int j, x] :: enumG (j + 1) xs
theorem enumG_get : ∀ (xs : List D) (j i : Nat), (enumG j xs)[i]? = (xs[i]?).map fun x => .tup [.int ((j + i : Nat) : Int), x]
  | [], _, _ => by simp [enumG]
  | x :: xs, j, 0 => by simp [enumG]
  | x :: xs, j, i + 1 => by
    simp only [enumG, List.getElem?_cons_succ]
    rw [enumG_get xs (j + 1) i, show j + 1 + i = j + (i + 1) by omega]
theorem enumL_G (xs : List D) : enumL xs = enumG 0 xs := by
  apply List.ext_getElem?
  intro i
  rw [enumG_get]
  unfold enumL
  rw [List.getElem?_zipWith]
  by_cases hi : i < xs.length
  · rw [List.getElem?_range hi, List.getElem?_eq_getElem hi]; simp
  · rw [List.getElem?_eq_none (by simp; omega), List.getElem?_eq_none (by omega)]; rfl
def bagBody (FM : FA) : SvS := ifS (orB (notB (tstE (callE FM (consA (varE 0) (consA (varE 3) (nilA)))))) (andB (tstE (binE gtD (varE 2) (cE (.int 0)))) (tstE (binE leD (varE 3) (binE ixD (varE 1) (binE subD (varE 2) (cE (.int 1)))))))) (retS (lstE (consA (varE 2) (nilA)))) (passS)
theorem mark_form {ts : List Int} {d : D} (h : isMarkB ts d = true) : ∃ p : P2, d = pairD p := by
  unfold isMarkB at h
  split at h
  · rename_i a b
    rw [Bool.and_eq_true] at h
    cases a with
    | int i =>
      cases b with
      | int j => exact ⟨(i, j), rfl⟩
      | _ => simp [upB] at h
    | _ => simp [fromB] at h
  · cases h
section
variable (st : Sto)
theorem t_loop {ts : List Int} {FM : FA} (hF : ∀ d, Thing d = true → FM [tupI ts, d] st = .ok (.bl (isMarkB ts d)) st) : ∀ (suf pre : List D) (q2 q3 : Option D), (∀ d ∈ suf, Thing d = true) → (∀ d ∈ pre, isMarkB ts d = true) →
    thenS (loopF (tgT (.tp [.nm 2, .nm 3])) (bagBody FM) (enumG pre.length suf) [some (tupI ts), some (.tup (pre ++ suf)), q2, q3] st) (retS (lstE (nilA))) = .ret (.lst (wrongL ts pre.getLast? pre.length suf)) st := by
  intro suf
  induction suf with
  | nil => intro pre q2 q3 _ _; simp [enumG, wrongL]
  | cons x suf ih =>
    intro pre q2 q3 hs hp
    have hx := hF x (hs x List.mem_cons_self)
    have ih' := ih (pre ++ [x]) (some (.int pre.length)) (some x) (fun d hd => hs d (List.mem_cons_of_mem _ hd))
    rw [List.append_assoc, List.length_append, List.getLast?_concat] at ih'
    simp only [List.singleton_append, List.length_cons, List.length_nil, Nat.zero_add] at ih'
    unfold enumG wrongL
    cases hm : isMarkB ts x with
    | false =>
      rw [hm] at hx
      simp [bagBody, hx]
    | true =>
      rw [hm] at hx
      have ih'' := ih' fun d hd => by
        rcases List.mem_append.mp hd with hd | hd
        · exact hp d hd
        · rw [List.mem_singleton.mp hd]; exact hm
      rcases List.eq_nil_or_concat pre with rfl | ⟨pre', y, rfl⟩
      · simp [bagBody, hx]
        simp at ih''
        exact ih''
      · rw [List.concat_eq_append] at *
        obtain ⟨p, rfl⟩ := mark_form hm
        obtain ⟨q, rfl⟩ := mark_form (hp y (by simp))
        have hl : ((pre' ++ [pairD q]).length : Int) - 1 = (pre'.length : Int) := by rw [List.length_append]; simp
        have h0 : 0 < (pre' ++ [pairD q]).length := by rw [List.length_append]; simp
        have hix : ixD (.tup (pre' ++ [pairD q] ++ pairD p :: suf)) (.int (pre'.length : Int)) st = .ok (pairD q) st := by
          have := atI_nat' (pre' ++ [pairD q] ++ pairD p :: suf) pre'.length (by simp)
          rw [List.getElem_append_left (by simp), List.getElem_append_right (by simp)] at this
          simp only [Nat.sub_self, List.getElem_cons_zero] at this
          exact ixD_tup _ _ _ this
        have hle := le_pair st p q
        have hlB : leB (pairD p) (pairD q) = !decide (ltP2 q p) := rfl
        rw [List.getLast?_concat]
        simp only [hlB]
        generalize hpr : pre' ++ [pairD q] = pre at *
        cases hd : decide (ltP2 q p) with
        | false =>
          rw [hd] at hle
          simp [bagBody, hx, h0, hl, hix, hle]
        | true =>
          rw [hd] at hle
          simp [bagBody, hx, h0, hl, hix, hle]
          simpa [bagBody] using ih''
theorem t_len30 (d : D) : True := trivial
theorem wrong_cases {ts : List Int} : ∀ (xs : List D) (prev : Option D) (j : Nat), wrongL ts prev j xs = [] ∨ ∃ k : Nat, wrongL ts prev j xs = [.int k]
  | [], _, _ => .inl rfl
  | x :: xs, prev, j => by
    unfold wrongL
    generalize (isMarkB ts x && !(match prev with | some p => leB x p | none => false)) = b
    cases b with
    | true => exact wrong_cases xs (some x) (j + 1)
    | false => exact .inr ⟨j, rfl⟩
theorem t_wrong_in_bag {ts : List Int} (d : D) (h : Thing d = true) : F_wrong_in_bag [tupI ts, d] st = .ok (.lst (wrongD ts d)) st := by
  cases d with
  | tup xs =>
    have hx := thingL_all.mp (show ThingL xs = true by simpa [Thing] using h)
    have key := t_loop st (ts := ts) (FM := F_is_mark_of) (fun d hd => t_is_mark_of st d hd) xs [] none none hx (by simp)
    simp only [List.nil_append, List.length_nil, List.getLast?_nil] at key
    unfold bagBody at key
    by_cases h30 : xs.length ≤ 30
    · have c2 : (xs.length : Int) ≤ 30 := by omega
      have ee : enumF [.tup xs] st = .ok (.frz (enumG 0 xs)) st := by show R.ok (ItD.frz (enumL xs)) st = _; rw [enumL_G]
      have hw : wrongD ts (.tup xs) = wrongL ts none 0 xs := if_pos h30
      rw [hw]
      generalize wrongL ts none 0 xs = wl at *
      simp [-enumF_tup, F_wrong_in_bag, runF, B_wrong_in_bag, F_is_tuple_up_to, B_is_tuple_up_to, isiB, c2, ee, key]
    · have c2 : ¬ (xs.length : Int) ≤ 30 := by omega
      have hw : wrongD ts (.tup xs) = [.non] := if_neg h30
      rw [hw]
      simp [F_wrong_in_bag, runF, B_wrong_in_bag, F_is_tuple_up_to, B_is_tuple_up_to, isiB, c2]
  | _ => first | (simp [F_wrong_in_bag, runF, B_wrong_in_bag, F_is_tuple_up_to, B_is_tuple_up_to, isiB, wrongD]; done) | (simp [Thing] at h)
theorem t_law_wrong_bag {ts : List Int} (d : D) (h : Thing d = true) : F__law_wrong_bag [tupI ts, d] st = .ok (.lst (wrongD ts d)) st := by
  cases d with
  | tup xs =>
    have hx := thingL_all.mp (show ThingL xs = true by simpa [Thing] using h)
    have key := t_loop st (ts := ts) (FM := F__law_is_mark) (fun d hd => t_law_is_mark st d hd) xs [] none none hx (by simp)
    simp only [List.nil_append, List.length_nil, List.getLast?_nil] at key
    unfold bagBody at key
    by_cases h30 : xs.length ≤ 30
    · have c2 : ¬ (30 < (xs.length : Int)) := by omega
      have ee : enumF [.tup xs] st = .ok (.frz (enumG 0 xs)) st := by show R.ok (ItD.frz (enumL xs)) st = _; rw [enumL_G]
      have hw : wrongD ts (.tup xs) = wrongL ts none 0 xs := if_pos h30
      rw [hw]
      generalize wrongL ts none 0 xs = wl at *
      simp [-enumF_tup, F__law_wrong_bag, runF, B__law_wrong_bag, isiB, c2, ee, key]
    · have c2 : (30 < (xs.length : Int)) := by omega
      have hw : wrongD ts (.tup xs) = [.non] := if_neg h30
      rw [hw]
      simp [F__law_wrong_bag, runF, B__law_wrong_bag, isiB, c2]
  | _ => first | (simp [F__law_wrong_bag, runF, B__law_wrong_bag, isiB, wrongD]; done) | (simp [Thing] at h)
theorem eq_wrong {ts : List Int} (d : D) : eqD (.lst (wrongD ts d)) (.lst []) st = .ok (.bl (wrongD ts d).isEmpty) st := by
  have c : wrongD ts d = [] ∨ wrongD ts d = [.non] ∨ ∃ k : Nat, wrongD ts d = [.int k] := by
    unfold wrongD
    split
    · split
      · rcases wrong_cases (ts := ts) _ none 0 with h | ⟨k, h⟩
        · exact .inl h
        · exact .inr (.inr ⟨k, h⟩)
      · exact .inr (.inl rfl)
    · exact .inr (.inl rfl)
  rcases c with h | h | ⟨k, h⟩ <;> rw [h] <;> rfl
theorem t_is_bag {ts : List Int} (hT : Trk ts) (d : D) (h : Thing d = true) : F_is_bag [tupI ts, d] st = .ok (.bl (wrongD ts d).isEmpty) st := by
  have e := eq_wrong st (ts := ts) d
  have w := t_wrong_in_bag st (ts := ts) d h
  generalize wrongD ts d = wl at *
  simp [F_is_bag, runF, B_is_bag, f_check_track st hT, F_is_bag_of, B_is_bag_of, w, e]
theorem t_is_mark {ts : List Int} (hT : Trk ts) (d : D) (h : Thing d = true) : F_is_mark [tupI ts, d] st = .ok (.bl (isMarkB ts d)) st := by
  simp [F_is_mark, runF, B_is_mark, f_check_track st hT, t_is_mark_of st d h]
end
end Lap

namespace Lap
open PySem G
section
variable (st : Sto)
theorem f_law_steps2 {ts : List Int} {m o : Nat} (hm : m < ts.length) (ho : o < ts.length) : F__law_steps_v2 [tupI ts, .int m, .int o] st = .ok (.int (stepsN ts.length m o)) st := by
  have h0 : 0 < ts.length := by omega
  rw [← steps_int hm ho, Int.add_comm]
  simp [F__law_steps_v2, runF, B__law_steps_v2, h0]
theorem f_law_way {ts : List Int} (h : Trk ts) {m o : Nat} (hm : m < ts.length) (ho : o < ts.length) (hs : ts.sum.natAbs < big) : F__law_way [tupI ts, .int m, .int o] st = .ok (.int (wayI ts m o)) st := by
  have hb := big_ge
  have hr := steps_rng hm ho
  have h8 := h.le
  have := f_law_reach st ts m (stepsN ts.length m o) hm (by omega) (by omega) hs
  simp [F__law_way, runF, B__law_way, f_law_steps2 st hm ho, this, wayI]
theorem f_law_can_follow {ts : List Int} (hT : Trk ts) (hs : ts.sum.natAbs < big) {p q : P2} (hp : MatOk ts p) (hq : MatOk ts q) : F__law_can_follow [tupI ts, pairD p, pairD q] st = .ok (.bl (followB ts p q)) st := by
  obtain ⟨a, b, c⟩ := hp
  obtain ⟨d, e, g⟩ := hq
  have := f_law_way st hT (m := q.2.toNat) (o := p.2.toNat) (by omega) (by omega) hs
  rw [show ((q.2.toNat : Nat) : Int) = q.2 by omega, show ((p.2.toNat : Nat) : Int) = p.2 by omega] at this
  simp [F__law_can_follow, runF, B__law_can_follow, this, followB]
theorem f_law_is_crowd {ts : List Int} (hT : Trk ts) (hs : ts.sum.natAbs < big) {b : List P2} (hb : ∀ p ∈ b, MatOk ts p) (h30 : b.length ≤ 1000) : F__law_is_crowd [tupI ts, bagD b] st = .ok (.bl (decide (CrowdP ts b))) st := by
  have inner : ∀ p ∈ b, lcE (iterE (varE 1)) (.nm 3) (yesB) (callE F__law_can_follow (consA (varE 0) (consA (varE 2) (consA (varE 3) (nilA))))) [3] [some (tupI ts), some (bagD b), some (pairD p), none] st = .ok (.lst ((b.map fun q => followB ts p q).map D.bl)) st := fun p hp => by
    have := lc_typed (t := .nm 3) (fe := callE F__law_can_follow (consA (varE 0) (consA (varE 2) (consA (varE 3) (nilA))))) (envw := [some (tupI ts), some (bagD b), some (pairD p), none]) (st := st) pairD (fun q => D.bl (followB ts p q)) b [] (by simp; omega) (by
      intro q hq
      refine ⟨[some (tupI ts), some (bagD b), some (pairD p), some (pairD q)], by simp, ?_⟩
      have := f_law_can_follow st hT hs (hb p hp) (hb q hq)
      simp [this])
    simp [this]
  have outer : lcE (iterE (varE 1)) (.nm 2) (yesB) (callE anyF (consA (lcE (iterE (varE 1)) (.nm 3) (yesB) (callE F__law_can_follow (consA (varE 0) (consA (varE 2) (consA (varE 3) (nilA))))) [3]) (nilA))) [2] [some (tupI ts), some (bagD b), none, none] st = .ok (.lst ((b.map fun p => b.any fun q => followB ts p q).map D.bl)) st := by
    have := lc_typed (t := .nm 2) (fe := callE anyF (consA (lcE (iterE (varE 1)) (.nm 3) (yesB) (callE F__law_can_follow (consA (varE 0) (consA (varE 2) (consA (varE 3) (nilA))))) [3]) (nilA))) (envw := [some (tupI ts), some (bagD b), none, none]) (st := st) pairD (fun p => D.bl (b.any fun q => followB ts p q)) b [] (by simp; omega) (by
      intro p hp
      refine ⟨[some (tupI ts), some (bagD b), some (pairD p), none], by simp, ?_⟩
      have i := inner p hp
      have ea := anyF_bools st (b.map fun q => followB ts p q)
      have e2 : (b.map fun q => followB ts p q).any id = b.any fun q => followB ts p q := by rw [List.any_map]; rfl
      rw [e2] at ea
      generalize (b.map fun q => followB ts p q).map D.bl = l at *
      simp [-lcE_eq, i, ea])
    simp [-List.map_map, this]
    rw [List.map_map]; rfl
  have ea := anyF_bools st (b.map fun p => b.any fun q => followB ts p q)
  have e2 : (b.map fun p => b.any fun q => followB ts p q).any id = !decide (CrowdP ts b) := by
    rw [List.any_map]
    by_cases hc : CrowdP ts b
    · rw [decide_eq_true hc]
      refine List.any_eq_false.mpr fun p hp => ?_
      simp only [Function.comp, id]
      rw [List.any_eq_false.mpr fun q hq => by rw [hc p hp q hq]; decide]; decide
    · rw [decide_eq_false hc]
      have : ∃ p ∈ b, ∃ q ∈ b, followB ts p q = true := by
        unfold CrowdP at hc
        apply Classical.byContradiction
        intro hn
        exact hc fun p hp q hq => by
          cases e : followB ts p q with
          | false => rfl
          | true => exact absurd ⟨p, hp, q, hq, e⟩ hn
      obtain ⟨p, hp, q, hq, e⟩ := this
      exact List.any_eq_true.mpr ⟨p, hp, List.any_eq_true.mpr ⟨q, hq, e⟩⟩
  rw [e2] at ea
  generalize (b.map fun p => b.any fun q => followB ts p q).map D.bl = l at *
  simp [-lcE_eq, F__law_is_crowd, runF, B__law_is_crowd, outer, ea]
theorem f_is_row_true {ts : List Int} (hT : Trk ts) (hs : ts.sum.natAbs < big) {b : List P2} (h : BagOk ts b) (hr : RowP ts b) : F_is_row [tupI ts, bagD b] st = .ok (.bl true) st := by
  have h30 := h.len
  have e := lc_typedF (t := .nm 2) (tt := notB (tstE (callE F_can_follow_by (consA (varE 0) (consA (binE ixD (varE 1) (varE 2)) (consA (binE ixD (varE 1) (binE subD (varE 2) (cE (.int 1)))) (nilA))))))) (fe := varE 2) (envw := [some (tupI ts), some (bagD b), none]) (st := st)
    (fun (i : Nat) => D.int (1 + i)) (fun (i : Nat) => D.int (1 + i)) (fun _ => false) (List.range (b.length - 1)) [] (by simp; omega) (by
      intro i hi
      have hi := List.mem_range.mp hi
      refine ⟨[some (tupI ts), some (bagD b), some (.int (1 + i))], by simp, ?_, fun z => by cases z⟩
      have k1 : (1 : Int) + i = ((i + 1 : Nat) : Int) := by push_cast; omega
      have k2 : ((i + 1 : Nat) : Int) - 1 = (i : Int) := by push_cast; omega
      have x1 := ix_bag st b (i + 1) (by omega)
      have x2 := ix_bag st b i (by omega)
      have f := f_can_follow_by st hT hs (h.ok _ (List.getElem_mem (l := b) (n := i + 1) (by omega))) (h.ok _ (List.getElem_mem (l := b) (n := i) (by omega)))
      have g : followB ts b[i + 1] b[i] = true := List.pairwise_iff_getElem.mp hr i (i + 1) (by omega) (by omega) (by omega)
      rw [g] at f
      simp [-Int.natCast_add, k1, k2, x1, x2, f])
  have er : rangeD 1 (b.length - 1) = (List.range (b.length - 1)).map fun (i : Nat) => D.int (1 + i) := rfl
  have e1 : F_wrong_marks_by [tupI ts, bagD b] st = .ok (.lst []) st := by
    have k : (b.length : Int) - 1 = ((b.length : Int) - 1) := rfl
    have k2 : ((b.length : Int) - 1).toNat = b.length - 1 := by omega
    have k3 : b.length < 4611686018427387904 := by omega
    rw [← er] at e
    simp [F_wrong_marks_by, runF, B_wrong_marks_by, k2, k3, e]
  have e2 : eqD (.lst []) (.lst []) st = .ok (.bl true) st := rfl
  have e3 : F_is_row_by [tupI ts, bagD b] st = .ok (.bl true) st := by
    simp [F_is_row_by, runF, B_is_row_by, e1, e2]
  simp [F_is_row, runF, B_is_row, f_check_tracked st hT h, e3]
def pairPD (p : P2) : PyData := .tuple [.int p.1, .int p.2]
theorem toPD_pair (p : P2) : toPD (pairD p) = some (pairPD p) := by simp [pairD, toPD, toPDs, pairPD]
theorem toPDs_pairs : ∀ b : List P2, toPDs (b.map pairD) = some (b.map pairPD)
  | [] => by simp [toPDs]
  | p :: b => by simp [toPDs, toPD_pair, toPDs_pairs b]
theorem canLay_pairs : ∀ b : List P2, PyData.canLayAll0 (b.map pairPD) = true
  | [] => by simp [PyData.canLayAll0]
  | p :: b => by simp [PyData.canLayAll0, pairPD, PyData.canLay0, canLay_pairs b]
theorem depth_pairs : ∀ b : List P2, PyData.depthAll (b.map pairPD) ≤ 1
  | [] => by simp [PyData.depthAll]
  | p :: b => by
    have := depth_pairs b
    simp [PyData.depthAll, pairPD, PyData.depth] at this ⊢
    omega
theorem shaped_pairs (b : List P2) : SeqAt.shaped (.list (b.map pairPD)) = true ∧ SeqAt.shaped (.tuple (b.map pairPD)) = true := by
  have := depth_pairs b
  constructor <;> simp [SeqAt.shaped, PyData.canLay0, canLay_pairs, PyData.depth] <;> omega
theorem shaped_pair (p : P2) : SeqAt.shaped (pairPD p) = true := by simp [SeqAt.shaped, pairPD, PyData.canLay0, PyData.canLayAll0, PyData.depth, PyData.depthAll]
theorem eqv_pair (p q : P2) : PyData.eqv (pairPD p) (pairPD q) = decide (p = q) := by
  have : PyData.eqv (pairPD p) (pairPD q) = (decide (p.1 = q.1) && decide (p.2 = q.2)) := by
    simp [pairPD, PyData.eqv, PyData.eqvAll]
    rw [Bool.eq_iff_iff]; simp
  rw [this, Bool.eq_iff_iff]
  simp [Prod.ext_iff]
theorem in_bag (p : P2) (b : List P2) : inD (pairD p) (bagD b) st = .ok (.bl (decide (p ∈ b))) st := by
  have e : inO (pairD p) (bagD b) st = some (decide (p ∈ b)) := by
    unfold inO
    rw [toPD_pair, show seqOf (bagD b) st = some (b.map pairD) from rfl, Option.bind_some, toPDs_pairs]
    show (if SeqAt.shaped (pairPD p) = true ∧ SeqAt.shaped (.list (b.map pairPD)) = true then _ else _) = _
    rw [if_pos ⟨shaped_pair p, (shaped_pairs b).1⟩, List.any_map]
    congr 1
    rw [Bool.eq_iff_iff, decide_eq_true_iff, List.any_eq_true]
    constructor
    · rintro ⟨x, hx, e⟩
      simp only [Function.comp, eqv_pair] at e
      exact of_decide_eq_true e ▸ hx
    · exact fun h => ⟨p, h, by simp [Function.comp, eqv_pair]⟩
  unfold inD; rw [e]
theorem eq_bag_nil (b : List P2) : eqD (bagD b) (.tup []) st = .ok (.bl (decide (b = []))) st := by
  have e : eqO (bagD b) (.tup []) = some (decide (b = [])) := by
    unfold eqO
    have h1 : scalD (bagD b) (.tup []) = none := rfl
    have h2 : toPD (bagD b) = some (.tuple (b.map pairPD)) := by unfold bagD toPD; rw [toPDs_pairs]; rfl
    have h3 : toPD (.tup []) = some (.tuple []) := by simp [toPD, toPDs]
    rw [h1, h2, h3]
    show (if SeqAt.shaped (.tuple (b.map pairPD)) = true ∧ SeqAt.shaped (.tuple []) = true then _ else _) = _
    rw [if_pos ⟨(shaped_pairs b).2, by simp [SeqAt.shaped, PyData.canLay0, PyData.canLayAll0, PyData.depth, PyData.depthAll]⟩]
    cases b with
    | nil => simp [PyData.eqv, PyData.eqvAll]
    | cons p b => simp [PyData.eqv, PyData.eqvAll]
  unfold eqD; rw [e]
theorem add_bag (b : List P2) (p : P2) (h : b.length < 1000000) : addD (bagD b) (.tup [pairD p]) st = .ok (bagD (b ++ [p])) st := by
  have : b.length + 1 ≤ 16777216 := by omega
  unfold bagD addD
  simp [this]
theorem ix_bag_last (b : List P2) (p : P2) : ixD (bagD (b ++ [p])) (.int (-1)) st = .ok (pairD p) st := by
  refine ixD_tup _ _ _ ?_
  unfold L2.atI L2.ixN
  have hz : ((-1 : Int) + ((b.length + 1 : Nat) : Int)).toNat = b.length := by omega
  have hz' : (((b.length + 1 : Nat) : Int) + -1).toNat = b.length := by omega
  rw [List.length_map, List.length_append, List.length_singleton, if_neg (by omega), if_pos (by omega)]
  have hz2 : ((-1 : Int) + ((b.length : Int) + 1)).toNat = b.length := by omega
  simp [hz2]
theorem length_insP (p : P2) : ∀ l : List P2, (insP p l).length ≤ l.length + 1
  | [] => by simp [insP]
  | q :: r => by
    unfold insP
    split
    · simp
    · split
      · simp
      · have := length_insP p r
        simp only [List.length_cons]; omega
theorem length_ssP : ∀ l : List P2, (ssP l).length ≤ l.length
  | [] => Nat.le_refl _
  | p :: l => by
    have h1 := length_insP p (ssP l)
    have h2 := length_ssP l
    show (insP p (ssP l)).length ≤ _
    simp only [List.length_cons]; omega
theorem bag_of {ts : List Int} {ps : List P2} (h : ∀ p ∈ ps, MatOk ts p) (hl : ps.length ≤ 30) : BagOk ts (ssP ps) :=
  ⟨Nat.le_trans (length_ssP ps) hl, fun p hp => h p (mem_ssP.mp hp), sorted_ssP⟩
theorem crowd_row2 {ts : List Int} (hT : Trk ts) {r : List P2} (hb : ∀ p ∈ r, MatOk ts p) (hr : RowP ts r) : decide (CrowdP ts r) = decide (r.length < 2) := by
  rw [Bool.eq_iff_iff, decide_eq_true_iff, decide_eq_true_iff]
  constructor
  · intro h
    rcases Nat.lt_or_ge r.length 2 with k | k
    · exact k
    · have := List.pairwise_iff_getElem.mp hr 0 1 (by omega) (by omega) (by omega)
      rw [h _ (List.getElem_mem _) _ (List.getElem_mem _)] at this
      cases this
  · intro h p hp q hq
    match r, h, hp, hq with
    | [x], _, hp, hq =>
      rw [List.mem_singleton.mp hp, List.mem_singleton.mp hq]
      exact follow_irr hT (hb x (by simp))
theorem oneL {FB : FA} (hB : Below FB) {n : Nat} {xs : List D} (hp : Pool n st) (h1 : xs ≠ []) (h2 : xs.length < 1000000) : ∃ d st', runF 2 2 (oneA FB) [.mut n, .lst xs] st = .ok d st' ∧ d ∈ xs ∧ Pool n st' ∧ Eff n st st' := by
  have hl : 0 < xs.length := List.length_pos_iff.mpr h1
  obtain ⟨v, s1, e1, v0, v1, hp1, he1⟩ := hB (m := xs.length) hp (by omega) (by omega)
  obtain ⟨k, rfl⟩ := Int.eq_ofNat_of_zero_le v0
  have hk : k < xs.length := by omega
  refine ⟨xs[k], s1, ?_, List.getElem_mem hk, hp1, he1⟩
  simp [runF, oneA, e1, ixD_lst _ _ s1 (atI_nat' xs k hk)]
end
end Lap

namespace Lap
open PySem G
/-! rows drawn by the laws k10 to k19 -/
def rowBody (FB FG : FA) : SvS := (seqS (asgS (binE addD (cE (.int 1)) (callE FB (consA (varE 0) (consA (binE addD (callE lenF (consA (varE 1) (nilA))) (cE (.int 2))) (nilA))))) (nameT 9)) (seqS (asgS (binE addD (binE addD (varE 5) (callE F__law_reach (consA (varE 1) (consA (varE 6) (consA (varE 9) (nilA)))))) (ifE (tstE (binE gtD (callE FB (consA (varE 0) (consA (cE (.int 3)) (nilA)))) (cE (.int 0)))) (callE FG (consA (varE 0) (consA (varE 3) (nilA)))) (cE (.int 0)))) (nameT 5)) (seqS (asgS (binE modD (callE intF (consA (binE addD (varE 6) (varE 9)) (nilA))) (callE lenF (consA (varE 1) (nilA)))) (nameT 6)) (exprS (methLE appF (varE 7) (consA (tupE (consA (varE 5) (consA (varE 6) (nilA)))) (nilA)))))))
def rowA (FB FG : FA) : SvS := seqS (asgS (varE 4) (tupT 2 (consT (nameT 5) (consT (nameT 6) (nilT))))) (seqS (asgS (mutE (nilA)) (nameT 7)) (seqS (forS (callI range1F (consA (varE 2) (nilA))) (tgT (.nm 8)) (rowBody FB FG)) (retS (callE tupleF (consA (varE 7) (nilA))))))
/-- a gap of any steps keeps the next mark's time late enough -/
theorem walk_ge_way {ts : List Int} (hT : Trk ts) {m s : Nat} (hm : m < ts.length) (hs : 1 ≤ s) : wayI ts m ((m + s) % ts.length) ≤ walkI ts m s := by
  have h0 : 0 < ts.length := hT.pos
  have ho := Nat.mod_lt (m + s) h0
  unfold wayI
  refine walk_le_of hT m ?_
  rcases Nat.lt_or_ge s (stepsN ts.length m ((m + s) % ts.length)) with h | h
  · have := (steps_first hm ho hs (by omega)).mp rfl
    omega
  · exact h
structure RowOk (ts : List Int) (b : List P2) : Prop where
  ok : ∀ p ∈ b, MatOk ts p
  row : RowP ts b
theorem RowOk.bag {ts : List Int} (hT : Trk ts) {b : List P2} (h : RowOk ts b) (hl : b.length ≤ 30) : BagOk ts b :=
  ⟨hl, h.ok, by
    refine List.Pairwise.imp_of_mem (fun {p q} hp hq f => ?_) h.row
    exact .inl (follow_lt hT (h.ok q hq) (h.ok p hp) f)⟩
theorem app_mut {st : Sto} {q : Nat} {xs : List D} (x : D) (h : st[q]? = some (.lst xs)) (hl : xs.length < 1000000) : appF (.mut q) [x] st = .ok .non (st.set q (.lst (xs ++ [x]))) := by
  have : xs.length < 16777216 := by omega
  simp [appF, h, this]
theorem isL_mut {st : Sto} {q : Nat} {xs : List D} (h : st[q]? = some (.lst xs)) : isL (.mut q) st = true := by simp [isL, h]
theorem set_other {st : Sto} {n q : Nat} {mo : MO} (h : n ≠ q) (hp : Pool n st) : Pool n (st.set q mo) := by
  obtain ⟨a, b, c, hp⟩ := hp
  exact ⟨a, b, c, by rw [List.getElem?_set_ne (fun z => h z.symm)]; exact hp⟩
structure RowAt (ts : List Int) (n q j : Nat) (b0 : P2) (c : Int) (b : List P2) (t : Int) (m : Nat) (s : Sto) : Prop where
  pool : Pool n s
  at_ : s[q]? = some (.lst (b.map pairD))
  len : b.length = j
  ok : RowOk ts b
  t0 : 0 ≤ t
  m0 : m < ts.length
  last : (b = [] ∧ b0 = (t, (m : Int))) ∨ b.getLast? = some (t, (m : Int))
  ge : b0.1 ≤ t
  le : t ≤ b0.1 + j * c
  all : ∀ p ∈ b, b0.1 ≤ p.1 ∧ p.1 ≤ t
theorem f_row_turn {FB FG : FA} (hB : Below FB) (hG : Great FG) {ts : List Int} {w : Int} (hT : DT ts w) (hs : ts.sum.natAbs < big) {st : Sto} {n q j : Nat} {b0 : P2} {b : List P2} {t : Int} {m : Nat} {slack : Int} (hsl : 0 ≤ slack) (hnq : n ≠ q) (hj : j < 1000) (h : RowAt ts n q j b0 (10 * w + slack) b t m st) (o2 o4 o8 o9 : Option D) :
    ∃ b' t' m' q9 st', rowBody FB FG [some (.mut n), some (tupI ts), o2, some (.int slack), o4, some (.int t), some (.int (m : Nat)), some (.mut q), o8, o9] st =
      .nx [some (.mut n), some (tupI ts), o2, some (.int slack), o4, some (.int t'), some (.int (m' : Nat)), some (.mut q), o8, q9] st' ∧ RowAt ts n q (j + 1) b0 (10 * w + slack) b' t' m' st' := by
  have hbig := big_ge
  have h0 : 0 < ts.length := hT.t.pos
  have h8 := hT.t.le
  obtain ⟨hp, hat, hlen, hok, ht, hm, hlast, hge, hle, hall⟩ := h
  obtain ⟨si, s1, e1, a0, a1, hp1, ef1⟩ := hB (m := (ts.length : Int) + 2) hp (by omega) (by omega)
  obtain ⟨s, rfl⟩ := Int.eq_ofNat_of_zero_le a0
  have r1 := f_law_reach s1 ts m (s + 1) hm (by omega) (by omega) hs
  have k1 : (1 : Int) + s = ((s + 1 : Nat) : Int) := by push_cast; omega
  obtain ⟨c, s2, e2, c0, c1, hp2, ef2⟩ := hB (m := 3) hp1 (by omega) (by omega)
  have hm' := Nat.mod_lt (m + (s + 1)) h0
  have k2 : ((m : Int) + ((s + 1 : Nat) : Int)) % (ts.length : Int) = (((m + (s + 1)) % ts.length : Nat) : Int) := by simp
  have hw := walk_ge_way hT.t hm (s := s + 1) (by omega)
  have hw0 := walk_ge hT.t m (s + 1)
  have at1 : s1[q]? = some (.lst (b.map pairD)) := (ef1.2 q (fun z => hnq z.symm)).trans hat
  have at2 : s2[q]? = some (.lst (b.map pairD)) := (ef2.2 q (fun z => hnq z.symm)).trans at1
  have hwl : walkI ts m (s + 1) ≤ 10 * w := by
    have := walk_le hT.b h0 m (s + 1)
    have k : ((s + 1 : Nat) : Int) ≤ 10 := by omega
    have hw1 := hT.w
    exact Int.le_trans this (Int.mul_le_mul_of_nonneg_right k (by omega))
  have fin : ∀ (g : Int) (s3 : Sto), 0 ≤ g → g ≤ slack → Pool n s3 → s3[q]? = some (.lst (b.map pairD)) → RowAt ts n q (j + 1) b0 (10 * w + slack) (b ++ [(t + walkI ts m (s + 1) + g, (((m + (s + 1)) % ts.length : Nat) : Int))]) (t + walkI ts m (s + 1) + g) ((m + (s + 1)) % ts.length) (s3.set q (.lst ((b ++ [(t + walkI ts m (s + 1) + g, (((m + (s + 1)) % ts.length : Nat) : Int))]).map pairD))) := fun g s3 hg hgs hp3 at3 => by
    have mo : MatOk ts (t + walkI ts m (s + 1) + g, (((m + (s + 1)) % ts.length : Nat) : Int)) := ⟨by show 0 ≤ t + walkI ts m (s + 1) + g; omega, by show (0 : Int) ≤ _; omega, by show ((_ : Nat) : Int) < _; omega⟩
    refine ⟨set_other hnq hp3, ?_, by simp [hlen], ⟨fun p hp => ?_, ?_⟩, by omega, hm', .inr (by simp), by omega, by rw [Int.natCast_add, Int.add_mul]; omega, fun p hp => ?_⟩
    · have hq := (List.getElem?_eq_some_iff.mp at3).1
      simp [hq]
    · rcases List.mem_append.mp hp with hp | hp
      · exact hok.ok p hp
      · rw [List.mem_singleton.mp hp]; exact mo
    · refine row_snoc hT.t hok.ok mo hok.row ?_
      rcases hlast with ⟨h1, _⟩ | h1
      · exact .inl h1
      · refine .inr ⟨_, h1, ?_⟩
        unfold followB
        apply decide_eq_true
        simp only [Int.toNat_natCast]
        omega
    · rcases List.mem_append.mp hp with hp | hp
      · have := hall p hp; omega
      · rw [List.mem_singleton.mp hp]; exact ⟨by show b0.1 ≤ t + walkI ts m (s + 1) + g; omega, Int.le_refl _⟩
  by_cases hc : 0 < c
  · obtain ⟨g, s3, e3, g0, g1, hp3, ef3⟩ := hG (w := slack) hp2 hsl
    have at3 : s3[q]? = some (.lst (b.map pairD)) := (ef3.2 q (fun z => hnq z.symm)).trans at2
    have ap := app_mut (pairD (t + walkI ts m (s + 1) + g, (((m + (s + 1)) % ts.length : Nat) : Int))) at3 (by simp; omega)
    have il := isL_mut at3
    refine ⟨_, _, _, some (.int ((s + 1 : Nat) : Int)), _, ?_, fin g s3 g0 g1 hp3 at3⟩
    rw [List.map_append, List.map_singleton]
    unfold pairD at ap ⊢
    simp only at ap ⊢
    generalize walkI ts m (s + 1) = wk at *
    generalize (m + (s + 1)) % ts.length = mm at *
    simp [-Int.natCast_add, -Int.natCast_emod, rowBody, e1, k1, r1, e2, hc, e3, k2, h0, il, ap]
  · have ap := app_mut (pairD (t + walkI ts m (s + 1) + 0, (((m + (s + 1)) % ts.length : Nat) : Int))) at2 (by simp; omega)
    have il := isL_mut at2
    refine ⟨_, _, _, some (.int ((s + 1 : Nat) : Int)), _, ?_, fin 0 s2 (by omega) hsl hp2 at2⟩
    rw [List.map_append, List.map_singleton]
    unfold pairD at ap ⊢
    simp only [Int.add_zero] at ap ⊢
    generalize walkI ts m (s + 1) = wk at *
    generalize (m + (s + 1)) % ts.length = mm at *
    simp [-Int.natCast_add, -Int.natCast_emod, rowBody, e1, k1, r1, e2, hc, k2, h0, il, ap]
/-- a row drawn: marks that follow one another from a beginning on; the pool and one list more -/
theorem rowA_ok {FB FG : FA} (hB : Below FB) (hG : Great FG) {ts : List Int} {w : Int} (hT : DT ts w) (hs : ts.sum.natAbs < big) {st : Sto} {n k : Nat} {t0 : Int} {m0 : Nat} {slack : Int} (hp : Pool n st) (hsl : 0 ≤ slack) (hk : k < 1000) (ht : 0 ≤ t0) (hm : m0 < ts.length) :
    ∃ b st', runF 5 10 (rowA FB FG) [.mut n, tupI ts, .int k, .int slack, .tup [.int t0, .int m0]] st = .ok (bagD b) st' ∧ Pool n st' ∧ b.length = k ∧ RowOk ts b ∧ ∀ p ∈ b, t0 ≤ p.1 ∧ p.1 ≤ t0 + k * (10 * w + slack) := by
  have hn : n < st.length := by obtain ⟨a, b, c, h⟩ := hp; exact (List.getElem?_eq_some_iff.mp h).1
  have hp1 : Pool n (st ++ [.lst []]) := by
    obtain ⟨a, b, c, h⟩ := hp
    exact ⟨a, b, c, by rw [List.getElem?_append_left hn]; exact h⟩
  obtain ⟨env', s', e, b, t, m, o8, o9, rfl, h⟩ := loop_nx (g := tgT (.nm 8)) (body := rowBody FB FG)
    (fun j env s => ∃ (b : List P2) (t : Int) (m : Nat) (o8 o9 : Option D), env = [some (.mut n), some (tupI ts), some (.int k), some (.int slack), some (.tup [.int t0, .int m0]), some (.int t), some (.int (m : Nat)), some (.mut st.length), o8, o9] ∧ RowAt ts n st.length j (t0, (m0 : Int)) (10 * w + slack) b t m s)
    (xs := rangeD 0 k) (env := [some (.mut n), some (tupI ts), some (.int k), some (.int slack), some (.tup [.int t0, .int m0]), some (.int t0), some (.int m0), some (.mut st.length), none, none]) (st := st ++ [.lst []])
    ⟨[], t0, m0, none, none, rfl, ⟨hp1, by simp, rfl, ⟨by simp, List.Pairwise.nil⟩, ht, hm, .inl ⟨rfl, rfl⟩, Int.le_refl _, by simp, by simp⟩⟩
    (by
      rintro j x env s hx ⟨b, t, m, o8, o9, rfl, h⟩
      obtain ⟨rfl, hj⟩ := range_get hx
      obtain ⟨b', t', m', q9, st', e, h'⟩ := f_row_turn hB hG hT hs hsl (by omega) (by omega) h (some (.int k)) (some (.tup [.int t0, .int m0])) (some (.int (0 + j))) o9
      refine ⟨_, st', ?_, b', t', m', some (.int (0 + j)), q9, rfl, h'⟩
      simp only [Int.zero_add] at e ⊢
      simp [e])
  refine ⟨b, s', ?_, h.pool, by have := h.len; simpa using this, h.ok, fun p hp => by
    have h1 := h.all p hp
    have h2 := h.le
    simp only [rangeD_length] at h2
    exact ⟨h1.1, by omega⟩⟩
  have hat := h.at_
  have tf : tupleF [.mut st.length] s' = .ok (bagD b) s' := by
    show (match seqOf (.mut st.length) s' with | some xs => _ | none => _) = _
    have : seqOf (.mut st.length) s' = some (b.map pairD) := by simp [seqOf, hat]
    rw [this]; rfl
  have k8 : k < 4611686018427387904 := by omega
  simp [runF, rowA, k8, e, tf]
end Lap

namespace Lap
open PySem G
/-! extra rounds -/
def gapsL (b : List P2) : List (P2 × P2) := b.zip (b.drop 1)
def extraI (ts : List Int) (p q : P2) : Int := (q.1 - p.1 - wayI ts p.2.toNat q.2.toNat) / ts.sum
def extrasI (ts : List Int) (b : List P2) : List Int := (gapsL b).map fun g => extraI ts g.1 g.2
theorem gaps_len (b : List P2) : (gapsL b).length = b.length - 1 := by unfold gapsL; simp
theorem extras_len (ts : List Int) (b : List P2) : (extrasI ts b).length = b.length - 1 := by unfold extrasI; rw [List.length_map, gaps_len]
theorem gaps_get (b : List P2) (i : Nat) (h : i + 1 < b.length) : (gapsL b)[i]'(by rw [gaps_len]; omega) = (b[i], b[i + 1]) := by
  unfold gapsL
  simp [Nat.add_comm 1 i]
theorem extras_get (ts : List Int) (b : List P2) (i : Nat) (h : i + 1 < b.length) : (extrasI ts b)[i]'(by rw [extras_len]; omega) = extraI ts b[i] b[i + 1] := by
  unfold extrasI
  rw [List.getElem_map, gaps_get b i h]
theorem gaps_mem {b : List P2} {g : P2 × P2} (h : g ∈ gapsL b) : g.1 ∈ b ∧ g.2 ∈ b := by
  have := List.of_mem_zip h
  exact ⟨this.1, List.mem_of_mem_drop this.2⟩
theorem zip_pairs : ∀ (xs ys : List P2), (xs.map pairD).zipWith (fun x y => D.tup [x, y]) (ys.map pairD) = (xs.zip ys).map fun g => D.tup [pairD g.1, pairD g.2]
  | [], _ => by simp
  | _ :: _, [] => by simp
  | x :: xs, y :: ys => by simp [zip_pairs xs ys]
theorem toPDs_ints : ∀ b : List Int, toPDs (b.map D.int) = some (b.map PyData.int)
  | [] => by simp [toPDs]
  | p :: b => by simp [toPDs, toPD, toPDs_ints b]
theorem canLay_ints : ∀ b : List Int, PyData.canLayAll0 (b.map PyData.int) = true
  | [] => rfl
  | p :: b => by simp [PyData.canLayAll0, PyData.canLay0, canLay_ints b]
theorem depth_ints : ∀ b : List Int, PyData.depthAll (b.map PyData.int) = 0
  | [] => rfl
  | p :: b => by simp [PyData.depthAll, PyData.depth, depth_ints b]
theorem shaped_ints (b : List Int) : SeqAt.shaped (.tuple (b.map PyData.int)) = true := by
  simp [SeqAt.shaped, PyData.canLay0, canLay_ints, PyData.depth, depth_ints]
theorem eqv_ints : ∀ a b : List Int, PyData.eqvAll (a.map PyData.int) (b.map PyData.int) = decide (a = b)
  | [], [] => by simp [PyData.eqvAll]
  | [], _ :: _ => by simp [PyData.eqvAll]
  | _ :: _, [] => by simp [PyData.eqvAll]
  | x :: a, y :: b => by
    simp only [List.map_cons, PyData.eqvAll, eqv_ints a b, PyData.eqv]
    by_cases h : x = y <;> by_cases g : a = b <;> simp [h, g]
theorem eqO_ints (a b : List Int) : eqO (tupI a) (tupI b) = some (decide (a = b)) := by
  unfold eqO
  have h1 : scalD (tupI a) (tupI b) = none := rfl
  have h2 : ∀ a, toPD (tupI a) = some (.tuple (a.map PyData.int)) := fun a => by unfold tupI toPD; rw [toPDs_ints]; rfl
  rw [h1, h2, h2]
  show (if SeqAt.shaped (.tuple (a.map PyData.int)) = true ∧ SeqAt.shaped (.tuple (b.map PyData.int)) = true then _ else _) = _
  rw [if_pos ⟨shaped_ints a, shaped_ints b⟩]
  simp [PyData.eqv, eqv_ints]
theorem eq_tupI (a b : List Int) (st : Sto) : eqD (tupI a) (tupI b) st = .ok (.bl (decide (a = b))) st := by unfold eqD; rw [eqO_ints]
theorem ne_tupI (a b : List Int) (st : Sto) : neD (tupI a) (tupI b) st = .ok (.bl (!decide (a = b))) st := by unfold neD; rw [eqO_ints]
section
variable (st : Sto)
theorem zip_gaps (b : List P2) : zipF [bagD b, bagD (cutL b (some 1) none)] st = .ok (.frz ((gapsL b).map fun g => D.tup [pairD g.1, pairD g.2])) st := by
  have : cutL b (some 1) none = b.drop 1 := cutL_from b 1
  rw [this]
  unfold gapsL
  rw [← zip_pairs]
  rfl
theorem f_extra_by {ts : List Int} (hT : Trk ts) (hs : ts.sum.natAbs < big) {p q : P2} (hp : MatOk ts p) (hq : MatOk ts q) : F_extra_by [tupI ts, pairD p, pairD q] st = .ok (.int (extraI ts p q)) st := by
  have hsp := sum_pos hT
  have h0 := hT.pos
  obtain ⟨p1, p2⟩ := p; obtain ⟨q1, q2⟩ := q
  obtain ⟨_, a, b⟩ := hp; obtain ⟨_, c, d⟩ := hq
  simp only at a b c d
  obtain ⟨p2, rfl⟩ := Int.eq_ofNat_of_zero_le a
  obtain ⟨q2, rfl⟩ := Int.eq_ofNat_of_zero_le c
  have e := f_way_by st hT (m := p2) (o := q2) (by omega) (by omega) hs
  have k : 0 < ts.sum ∧ ts.sum.natAbs < big := ⟨by omega, hs⟩
  have r := f_round_by st ts
  unfold extraI
  simp only [Int.toNat_natCast]
  generalize wayI ts p2 q2 = w at *
  have fd : ∀ x : Int, fdivD (.int x) (.int ts.sum) st = .ok (.int (x / ts.sum)) st := fun x => by rw [fdivD_int, if_pos k]
  simp [-fdivD_int, F_extra_by, runF, B_extra_by, e, r, fd]
theorem f_law_most2 {ts : List Int} (hT : Trk ts) (hs : ts.sum.natAbs < big) {p q : P2} (hp : MatOk ts p) (hq : MatOk ts q) : F__law_most_v2 [tupI ts, pairD p, pairD q] st = .ok (.int (extraI ts p q)) st := by
  have hsp := sum_pos hT
  have h0 := hT.pos
  obtain ⟨p1, p2⟩ := p; obtain ⟨q1, q2⟩ := q
  obtain ⟨_, a, b⟩ := hp; obtain ⟨_, c, d⟩ := hq
  simp only at a b c d
  obtain ⟨p2, rfl⟩ := Int.eq_ofNat_of_zero_le a
  obtain ⟨q2, rfl⟩ := Int.eq_ofNat_of_zero_le c
  have e := f_law_way st hT (m := p2) (o := q2) (by omega) (by omega) hs
  have k : 0 < ts.sum ∧ ts.sum.natAbs < big := ⟨by omega, hs⟩
  unfold extraI
  simp only [Int.toNat_natCast]
  generalize wayI ts p2 q2 = w at *
  have fd : ∀ x : Int, fdivD (.int x) (.int ts.sum) st = .ok (.int (x / ts.sum)) st := fun x => by rw [fdivD_int, if_pos k]
  simp [-fdivD_int, F__law_most_v2, runF, B__law_most_v2, e, fd]
theorem f_extras_by {ts : List Int} (hT : Trk ts) (hs : ts.sum.natAbs < big) {b : List P2} (hb : ∀ p ∈ b, MatOk ts p) (hl : b.length ≤ 1000) : F_extras_by [tupI ts, bagD b] st = .ok (lstI (extrasI ts b)) st := by
  have e := lc_typed (t := .tp [.nm 2, .nm 3]) (fe := callE F_extra_by (consA (varE 0) (consA (varE 2) (consA (varE 3) (nilA))))) (envw := [some (tupI ts), some (bagD b), none, none]) (st := st)
    (fun g : P2 × P2 => D.tup [pairD g.1, pairD g.2]) (fun g => .int (extraI ts g.1 g.2)) (gapsL b) [] (by simp [gaps_len]; omega) (by
      intro g hg
      have := gaps_mem hg
      refine ⟨[some (tupI ts), some (bagD b), some (pairD g.1), some (pairD g.2)], by simp [Tg.set, Tg.sets], ?_⟩
      simp [f_extra_by st hT hs (hb _ this.1) (hb _ this.2)])
  have z := zip_gaps st b
  rw [List.nil_append, show ((gapsL b).map fun g : P2 × P2 => D.int (extraI ts g.1 g.2)) = (extrasI ts b).map D.int by unfold extrasI; rw [List.map_map]; rfl] at e
  generalize extrasI ts b = l at *
  generalize (gapsL b).map (fun g : P2 × P2 => D.tup [pairD g.1, pairD g.2]) = zz at *
  simp [-lcE_eq, F_extras_by, runF, B_extras_by, z]
  simp [z, e, lstI]
theorem f_law_all_most {ts : List Int} (hT : Trk ts) (hs : ts.sum.natAbs < big) {b : List P2} (hb : ∀ p ∈ b, MatOk ts p) (hl : b.length ≤ 1000) : F__law_all_most [tupI ts, bagD b] st = .ok (tupI (extrasI ts b)) st := by
  have e := lc_typed (t := .tp [.nm 2, .nm 3]) (fe := callE F__law_most_v2 (consA (varE 0) (consA (varE 2) (consA (varE 3) (nilA))))) (envw := [some (tupI ts), some (bagD b), none, none]) (st := st)
    (fun g : P2 × P2 => D.tup [pairD g.1, pairD g.2]) (fun g => .int (extraI ts g.1 g.2)) (gapsL b) [] (by simp [gaps_len]; omega) (by
      intro g hg
      have := gaps_mem hg
      refine ⟨[some (tupI ts), some (bagD b), some (pairD g.1), some (pairD g.2)], by simp [Tg.set, Tg.sets], ?_⟩
      simp [f_law_most2 st hT hs (hb _ this.1) (hb _ this.2)])
  have z := zip_gaps st b
  rw [List.nil_append, show ((gapsL b).map fun g : P2 × P2 => D.int (extraI ts g.1 g.2)) = (extrasI ts b).map D.int by unfold extrasI; rw [List.map_map]; rfl] at e
  generalize extrasI ts b = l at *
  generalize (gapsL b).map (fun g : P2 × P2 => D.tup [pairD g.1, pairD g.2]) = zz at *
  have tf : tupleF [.lst (l.map D.int)] st = .ok (tupI l) st := rfl
  simp [F__law_all_most, runF, B__law_all_most, z, e, tf]
theorem f_is_row_by_true {ts : List Int} (hT : Trk ts) (hs : ts.sum.natAbs < big) {b : List P2} (h : BagOk ts b) (hr : RowP ts b) : F_is_row_by [tupI ts, bagD b] st = .ok (.bl true) st := by
  have x := f_is_row_true st hT hs h hr
  have y := f_check_tracked st hT h
  simp [F_is_row, runF, B_is_row, y] at x
  cases e : F_is_row_by [tupI ts, bagD b] st with
  | ok a s => rw [e] at x; simpa using x
  | exc s => rw [e] at x; cases x
  | fail => rw [e] at x; cases x
theorem f_check_marks {ts : List Int} (hT : Trk ts) {b : List P2} (h : BagOk ts b) : F_check_marks [tupI ts, bagD b] st = .ok .non st := by
  simp [F_check_marks, runF, B_check_marks, f_check_track st hT, f_check_bag st h]
theorem f_check_fit_row {ts : List Int} (hT : Trk ts) (hs : ts.sum.natAbs < big) {b : List P2} (h : BagOk ts b) (hr : RowP ts b) : F_check_fit_row [tupI ts, bagD b] st = .ok .non st := by
  simp [F_check_fit_row, runF, B_check_fit_row, f_is_row_by_true st hT hs h hr]
theorem f_all_most {ts : List Int} (hT : Trk ts) (hs : ts.sum.natAbs < big) {b : List P2} (h : BagOk ts b) (hr : RowP ts b) : F_all_most [tupI ts, bagD b] st = .ok (tupI (extrasI ts b)) st := by
  have e := f_extras_by st hT hs h.ok (by have := h.len; omega)
  have tf : tupleF [lstI (extrasI ts b)] st = .ok (tupI (extrasI ts b)) st := rfl
  simp [F_all_most, runF, B_all_most, f_check_marks st hT h, f_check_fit_row st hT hs h hr, e, tf]
theorem f_most_extra {ts : List Int} (hT : Trk ts) (hs : ts.sum.natAbs < big) {b : List P2} (h : BagOk ts b) (hr : RowP ts b) (i : Nat) (hi : i + 1 < b.length) : F_most_extra [tupI ts, bagD b, .int i] st = .ok (.int (extraI ts b[i] b[i + 1])) st := by
  have e := f_extra_by st hT hs (h.ok _ (List.getElem_mem (l := b) (n := i) (by omega))) (h.ok _ (List.getElem_mem (l := b) (n := i + 1) (by omega)))
  have u := f_is_up_to st i ((b.length : Int) - 2)
  have k : ((0 : Int) ≤ i ∧ (i : Int) ≤ (b.length : Int) - 2) := by omega
  simp only [k, and_self, decide_true] at u
  have k1 : (i : Int) + 1 = ((i + 1 : Nat) : Int) := by push_cast; rfl
  have x1 := ix_bag st b (i + 1) (by omega)
  have x2 := ix_bag st b i (by omega)
  simp [-Int.natCast_add, F_most_extra, runF, B_most_extra, f_check_marks st hT h, f_check_fit_row st hT hs h hr, u, k1, x1, x2, e]
/-! whether a thing is extras that fit -/
def fitB (es : List Int) : D → Bool
  | .tup xs => decide (xs.length = es.length) && (xs.zip es).all fun g => upB g.1 g.2
  | _ => false
def tupOfB : D → Int → Bool
  | .tup xs, k => decide (k ≤ xs.length ∧ (xs.length : Int) ≤ k)
  | _, _ => false
theorem t_is_tuple_of (d : D) (k : Int) (h : Thing d = true) : F_is_tuple_of [d, .int k] st = .ok (.bl (tupOfB d k)) st := by
  cases d with
  | tup xs =>
    by_cases c1 : k ≤ xs.length <;> by_cases c2 : (xs.length : Int) ≤ k <;> simp [F_is_tuple_of, runF, B_is_tuple_of, F_is_tuple_up_to, B_is_tuple_up_to, isiB, tupOfB, c1, c2]
  | _ => first | (simp [F_is_tuple_of, runF, B_is_tuple_of, F_is_tuple_up_to, B_is_tuple_up_to, isiB, tupOfB]; done) | (simp [Thing] at h)
theorem all_zip (xs : List D) (es : List Int) (h : xs.length = es.length) : ((xs.zip es).all fun g => upB g.1 g.2) = (List.range xs.length).all fun i => upB (xs.getD i .non) (es.getD i 0) := by
  rw [Bool.eq_iff_iff, List.all_eq_true, List.all_eq_true]
  constructor
  · intro z i hi
    have hi := List.mem_range.mp hi
    have := z (xs[i], es[i]) (List.mem_iff_getElem.mpr ⟨i, by simp; omega, by simp⟩)
    simpa [hi, (show i < es.length by omega)] using this
  · intro z g hg
    obtain ⟨i, hi, rfl⟩ := List.mem_iff_getElem.mp hg
    have hi' : i < xs.length := by simp at hi; omega
    have := z i (List.mem_range.mpr hi')
    simpa [hi', (show i < es.length by omega)] using this
theorem f_wrong_in_extras {ts : List Int} (hT : Trk ts) (hs : ts.sum.natAbs < big) {b : List P2} (hb : ∀ p ∈ b, MatOk ts p) (hl : b.length ≤ 1000) (d : D) (h : Thing d = true) :
    ∃ l, F_wrong_in_extras [tupI ts, bagD b, d] st = .ok (.lst l) st ∧ l.isEmpty = fitB (extrasI ts b) d ∧ (l = [] ∨ l = [.non] ∨ ∃ i : Int, l = [.int i]) := by
  have e := f_extras_by st hT hs hb hl
  have el := extras_len ts b
  have t := t_is_tuple_of st d (extrasI ts b).length h
  generalize hes : extrasI ts b = es at *
  have ln : lenF [lstI es] st = .ok (.int es.length) st := by unfold lstI; rw [lenF_lst, List.length_map]
  by_cases hf : ∃ xs, d = .tup xs ∧ xs.length = es.length
  · obtain ⟨xs, rfl, hx⟩ := hf
    have hxs := thingL_all.mp (show ThingL xs = true by simpa [Thing] using h)
    have lc := lc_typedF (t := .tp [.nm 4, .nm 5]) (tt := notB (tstE (callE F_is_up_to (consA (varE 5) (consA (binE ixD (varE 3) (varE 4)) (nilA)))))) (fe := varE 4) (envw := [some (tupI ts), some (bagD b), some (.tup xs), some (lstI es), none, none]) (st := st)
      (fun (i : Nat) => D.tup [.int i, xs.getD i .non]) (fun (i : Nat) => D.int i) (fun i => !upB (xs.getD i .non) (es.getD i 0)) (List.range xs.length) [] (by simp; omega) (by
        intro i hi
        have hi := List.mem_range.mp hi
        refine ⟨[some (tupI ts), some (bagD b), some (.tup xs), some (lstI es), some (.int i), some (xs.getD i .non)], by simp [Tg.set, Tg.sets], ?_, fun _ => by simp⟩
        have x1 := ixD_lstI st (ts := es) i (by omega) (by omega)
        simp only [Int.toNat_natCast] at x1
        have x2 := t_is_up_to st (xs.getD i .non) (es.getD i 0) (hxs _ (by rw [List.getD_eq_getElem?_getD, List.getElem?_eq_getElem hi]; exact List.getElem_mem hi))
        generalize xs.getD i .non = x at *
        generalize es.getD i 0 = ee at *
        simp [x1, x2])
    rw [List.nil_append] at lc
    have en : enumL xs = (List.range xs.length).map fun (i : Nat) => D.tup [.int i, xs.getD i .non] := by
      have := enumL_typed id D.non xs
      rw [List.map_id] at this
      exact this
    have k : ((es.length : Int) ≤ xs.length ∧ (xs.length : Int) ≤ es.length) := by omega
    simp only [tupOfB, k, and_self, decide_true] at t
    have af : fitB es (.tup xs) = ((List.range xs.length).filter fun i => !upB (xs.getD i .non) (es.getD i 0)).isEmpty := by
      show (decide (xs.length = es.length) && (xs.zip es).all fun g => upB g.1 g.2) = _
      rw [all_zip xs es hx]
      simp only [hx, decide_true, Bool.true_and]
      rw [Bool.eq_iff_iff, List.all_eq_true, List.isEmpty_iff, List.filter_eq_nil_iff]
      simp
    rw [af]
    generalize (List.range xs.length).filter (fun i => !upB (xs.getD i .non) (es.getD i 0)) = fl at *
    rw [← en] at lc
    have sl := cutL_to (fl.map fun (i : Nat) => D.int i) 1
    refine ⟨(fl.map fun (i : Nat) => D.int i).take 1, ?_, ?_, ?_⟩
    · rw [show ((1 : Nat) : Int) = 1 from rfl] at sl
      generalize (fl.map fun (i : Nat) => D.int i) = fd at *
      simp [-lcE_eq, F_wrong_in_extras, runF, B_wrong_in_extras, e, ln, t]
      simp [lc]
      exact sl
    · cases fl <;> rfl
    · cases fl with
      | nil => exact .inl rfl
      | cons i fl => exact .inr (.inr ⟨i, rfl⟩)
  · have t0 : F_is_tuple_of [d, .int es.length] st = .ok (.bl false) st := by
      rw [t]
      cases d with
      | tup xs =>
        have : ¬ ((es.length : Int) ≤ xs.length ∧ (xs.length : Int) ≤ es.length) := fun z => hf ⟨xs, rfl, by omega⟩
        simp only [tupOfB, this, decide_false]
      | _ => rfl
    refine ⟨[.non], by simp [F_wrong_in_extras, runF, B_wrong_in_extras, e, ln, t0], ?_, .inr (.inl rfl)⟩
    cases d with
    | tup xs =>
      have : ¬ (xs.length = es.length) := fun z => hf ⟨xs, rfl, z⟩
      simp [fitB, this]
    | _ => rfl
theorem t_do_fit {ts : List Int} (hT : Trk ts) (hs : ts.sum.natAbs < big) {b : List P2} (h : BagOk ts b) (hr : RowP ts b) (d : D) (hd : Thing d = true) : F_do_fit [tupI ts, bagD b, d] st = .ok (.bl (fitB (extrasI ts b) d)) st := by
  obtain ⟨l, e, hl, hc⟩ := f_wrong_in_extras st hT hs h.ok (by have := h.len; omega) d hd
  rw [← hl]
  have q : eqD (.lst l) (.lst []) st = .ok (.bl l.isEmpty) st := by
    rcases hc with rfl | rfl | ⟨i, rfl⟩ <;> rfl
  simp [F_do_fit, runF, B_do_fit, f_check_marks st hT h, f_check_fit_row st hT hs h hr, e, q]
theorem t_law_do_fit {ts : List Int} (hT : Trk ts) (hs : ts.sum.natAbs < big) {b : List P2} (h : BagOk ts b) (d : D) (hd : Thing d = true) : F__law_do_fit [tupI ts, bagD b, d] st = .ok (.bl (fitB (extrasI ts b) d)) st := by
  have e := f_law_all_most st hT hs h.ok (by have := h.len; omega)
  have el := extras_len ts b
  generalize hes : extrasI ts b = es at *
  cases d with
  | tup xs =>
    have hxs := thingL_all.mp (show ThingL xs = true by simpa [Thing] using hd)
    have me : ((es.length : Int) = if 1 < (b.length : Int) then (b.length : Int) - 1 else 0) := by
      split <;> omega
    by_cases hx : xs.length = es.length
    · have lc := lc_typed (t := .tp [.nm 3, .nm 4]) (fe := (andE (unE (isiD .int) (varE 3)) (andE (notE (unE (isiD .bl) (varE 3))) (chainE leD leD (cE (.int 0)) (varE 3) (varE 4))))) (envw := [some (tupI ts), some (bagD b), some (.tup xs), none, none]) (st := st)
        (fun g : D × Int => D.tup [g.1, .int g.2]) (fun g => .bl (upB g.1 g.2)) (xs.zip es) [] (by have := h.len; simp; omega) (by
          rintro ⟨x, m⟩ hg
          refine ⟨[some (tupI ts), some (bagD b), some (.tup xs), some x, some (.int m)], by simp [Tg.set, Tg.sets], ?_⟩
          have hx := hxs x (List.of_mem_zip hg).1
          cases x with
          | int i => by_cases c1 : 0 ≤ i <;> by_cases c2 : i ≤ m <;> simp [isiB, upB, c1, c2]
          | _ => first | (simp [isiB, upB]; done) | (simp [Thing] at hx))
      rw [List.nil_append] at lc
      have zf : zipF [.tup xs, tupI es] st = .ok (.frz ((xs.zip es).map fun g : D × Int => D.tup [g.1, .int g.2])) st := by
        show R.ok (ItD.frz _) st = _
        congr 2
        rw [List.zipWith_map_right, List.zip, List.map_zipWith]
      have al : allF [.lst ((xs.zip es).map fun g : D × Int => D.bl (upB g.1 g.2))] st = .ok (.bl ((xs.zip es).all fun g => upB g.1 g.2)) st := by
        have := allF_bools st ((xs.zip es).map fun g : D × Int => upB g.1 g.2)
        rw [List.map_map, List.all_map] at this
        exact this
      have ef : fitB es (.tup xs) = (xs.zip es).all fun g => upB g.1 g.2 := by simp [fitB, hx]
      rw [ef]
      generalize ((xs.zip es).map fun g : D × Int => D.bl (upB g.1 g.2)) = l1 at *
      generalize ((xs.zip es).map fun g : D × Int => D.tup [g.1, .int g.2]) = l2 at *
      simp [F__law_do_fit, runF, B__law_do_fit, isiB, ← me, hx, e, zf, lc, al]
    · have ef : fitB es (.tup xs) = false := by simp [fitB, hx]
      have k : ¬ ((xs.length : Int) = es.length) := by omega
      rw [ef]
      simp [F__law_do_fit, runF, B__law_do_fit, isiB, ← me, k]
  | _ => first | (simp [F__law_do_fit, runF, B__law_do_fit, isiB, fitB]; done) | (simp [Thing] at hd)
theorem fit_ints {es xs : List Int} (h : xs.length = es.length) (hx : ∀ i, (h1 : i < xs.length) → (h2 : i < es.length) → 0 ≤ xs[i] ∧ xs[i] ≤ es[i]) : fitB es (tupI xs) = true := by
  show (decide ((xs.map D.int).length = es.length) && _) = true
  rw [Bool.and_eq_true]
  refine ⟨by simp [h], ?_⟩
  rw [List.all_eq_true]
  rintro ⟨x, e⟩ hg
  obtain ⟨i, hi, hh⟩ := List.mem_iff_getElem.mp hg
  simp at hi hh
  obtain ⟨rfl, rfl⟩ := hh
  simpa [upB] using hx i (by omega) (by omega)
end
end Lap

namespace Lap
open PySem G
/-! rows and wrong marks of any bag -/
def pat (row : List P2) (i : Nat) : P2 := row.getD i (0, 0)
theorem pat_get {row : List P2} {i : Nat} (h : i < row.length) : pat row i = row[i] := by unfold pat; rw [List.getD_eq_getElem?_getD, List.getElem?_eq_getElem h]; rfl
def wrongI (ts : List Int) (b : List P2) : List Int := ((List.range (b.length - 1)).filter fun i => !followB ts (pat b (i + 1)) (pat b i)).map fun (i : Nat) => (1 + (i : Int))
def headD : List Int → D
  | [] => .non
  | x :: _ => .int x
theorem wrong_nil {ts : List Int} {b : List P2} : wrongI ts b = [] ↔ ∀ i, i + 1 < b.length → followB ts (pat b (i + 1)) (pat b i) = true := by
  unfold wrongI
  rw [List.map_eq_nil_iff, List.filter_eq_nil_iff]
  constructor
  · intro h i hi
    have := h i (List.mem_range.mpr (by omega))
    simpa using this
  · intro h i hi
    have := h i (by have := List.mem_range.mp hi; omega)
    simp [this]
theorem rowP_iff {ts : List Int} (hT : Trk ts) {b : List P2} (hb : ∀ p ∈ b, MatOk ts p) : wrongI ts b = [] ↔ RowP ts b := by
  rw [wrong_nil]
  constructor
  · intro h
    refine List.pairwise_iff_getElem.mpr fun i j hi hj hij => ?_
    have key : ∀ d i, (hd : i + d + 1 < b.length) → followB ts b[i + d + 1] (b[i]'(by omega)) = true := by
      intro d
      induction d with
      | zero =>
        intro i hd
        have := h i (by omega)
        rw [pat_get (by omega), pat_get (by omega)] at this
        exact this
      | succ d ih =>
        intro i hd
        have a := ih i (by omega)
        have c := h (i + d + 1) (by omega)
        rw [pat_get (by omega), pat_get (by omega)] at c
        exact follow_tr hT (hb _ (List.getElem_mem (by omega))) (hb _ (List.getElem_mem (by omega))) (hb _ (List.getElem_mem (by omega))) c a
    have := key (j - i - 1) i (by omega)
    have e : i + (j - i - 1) + 1 = j := by omega
    simpa [e] using this
  · intro h i hi
    rw [pat_get (by omega), pat_get (by omega)]
    exact List.pairwise_iff_getElem.mp h i (i + 1) (by omega) (by omega) (by omega)
theorem wrong_shift (ts : List Int) (b : List P2) (c : Int) : wrongI ts (b.map fun p => (p.1 + c, p.2)) = wrongI ts b := by
  unfold wrongI
  rw [List.length_map]
  congr 1
  apply List.filter_congr
  intro i hi
  have := List.mem_range.mp hi
  rw [pat_get (by simp; omega), pat_get (by simp; omega), pat_get (by omega), pat_get (by omega), List.getElem_map, List.getElem_map]
  unfold followB
  simp only
  congr 2
  rw [eq_iff_iff]
  constructor <;> intro h <;> omega
theorem eqO_lstI_nil (l : List Int) : eqO (lstI l) (.lst []) = some (decide (l = [])) := by
  unfold eqO
  have h1 : scalD (lstI l) (.lst []) = none := rfl
  have h2 : toPD (lstI l) = some (.list (l.map PyData.int)) := by unfold lstI toPD; rw [toPDs_ints]; rfl
  have h3 : toPD (.lst []) = some (.list []) := by simp [toPD, toPDs]
  rw [h1, h2, h3]
  show (if SeqAt.shaped (.list (l.map PyData.int)) = true ∧ SeqAt.shaped (.list []) = true then _ else _) = _
  rw [if_pos ⟨by simp [SeqAt.shaped, PyData.canLay0, canLay_ints, PyData.depth, depth_ints], by simp [SeqAt.shaped, PyData.canLay0, PyData.canLayAll0, PyData.depth, PyData.depthAll]⟩]
  cases l with
  | nil => simp [PyData.eqv, PyData.eqvAll]
  | cons p b => simp [PyData.eqv, PyData.eqvAll]
section
variable (st : Sto)
theorem eq_lstI_nil (l : List Int) : eqD (lstI l) (.lst []) st = .ok (.bl (decide (l = []))) st := by unfold eqD; rw [eqO_lstI_nil]
theorem ne_lstI_nil (l : List Int) : neD (lstI l) (.lst []) st = .ok (.bl (!decide (l = []))) st := by unfold neD; rw [eqO_lstI_nil]
theorem wrong_lc {ts : List Int} {FC : FA} {b : List P2} (hF : ∀ p ∈ b, ∀ q ∈ b, FC [tupI ts, pairD p, pairD q] st = .ok (.bl (followB ts p q)) st) (h30 : b.length ≤ 1000) :
    lcF (.nm 2) (notB (tstE (callE FC (consA (varE 0) (consA (binE ixD (varE 1) (varE 2)) (consA (binE ixD (varE 1) (binE subD (varE 2) (cE (.int 1)))) (nilA))))))) (varE 2) [some (tupI ts), some (bagD b), none] (rangeD 1 (b.length - 1)) st [] = .ok ((wrongI ts b).map D.int) st := by
  have e := lc_typedF (t := .nm 2) (tt := notB (tstE (callE FC (consA (varE 0) (consA (binE ixD (varE 1) (varE 2)) (consA (binE ixD (varE 1) (binE subD (varE 2) (cE (.int 1)))) (nilA))))))) (fe := varE 2) (envw := [some (tupI ts), some (bagD b), none]) (st := st)
    (fun (i : Nat) => D.int (1 + i)) (fun (i : Nat) => D.int (1 + i)) (fun i => !followB ts (pat b (i + 1)) (pat b i)) (List.range (b.length - 1)) [] (by simp; omega) (by
      intro i hi
      have hi := List.mem_range.mp hi
      refine ⟨[some (tupI ts), some (bagD b), some (.int (1 + i))], by simp, ?_, fun z => by simp⟩
      have k1 : (1 : Int) + i = ((i + 1 : Nat) : Int) := by push_cast; omega
      have k2 : ((i + 1 : Nat) : Int) - 1 = (i : Int) := by push_cast; omega
      have x1 := ix_bag st b (i + 1) (by omega)
      have x2 := ix_bag st b i (by omega)
      have f := hF _ (List.getElem_mem (l := b) (n := i + 1) (by omega)) _ (List.getElem_mem (l := b) (n := i) (by omega))
      rw [pat_get (by omega), pat_get (by omega)]
      generalize followB ts b[i + 1] b[i] = v at *
      simp [-Int.natCast_add, k1, k2, x1, x2, f])
  rw [List.nil_append] at e
  have er : rangeD 1 (b.length - 1) = (List.range (b.length - 1)).map fun (i : Nat) => D.int (1 + i) := rfl
  rw [er, e]
  unfold wrongI
  rw [List.map_map]; rfl
theorem f_wrong_marks_by {ts : List Int} (hT : Trk ts) (hs : ts.sum.natAbs < big) {b : List P2} (hb : ∀ p ∈ b, MatOk ts p) (h30 : b.length ≤ 1000) : F_wrong_marks_by [tupI ts, bagD b] st = .ok (lstI (wrongI ts b)) st := by
  have e := wrong_lc st (FC := F_can_follow_by) (fun p hp q hq => f_can_follow_by st hT hs (hb p hp) (hb q hq)) h30
  have k2 : ((b.length : Int) - 1).toNat = b.length - 1 := by omega
  have k3 : b.length < 4611686018427387904 := by omega
  unfold lstI
  generalize (wrongI ts b).map D.int = l at *
  simp [F_wrong_marks_by, runF, B_wrong_marks_by, k2, k3, e]
theorem f_law_wrong {ts : List Int} (hT : Trk ts) (hs : ts.sum.natAbs < big) {b : List P2} (hb : ∀ p ∈ b, MatOk ts p) (h30 : b.length ≤ 1000) : F__law_wrong [tupI ts, bagD b] st = .ok (lstI (wrongI ts b)) st := by
  have e := wrong_lc st (FC := F__law_can_follow) (fun p hp q hq => f_law_can_follow st hT hs (hb p hp) (hb q hq)) h30
  have k2 : ((b.length : Int) - 1).toNat = b.length - 1 := by omega
  have k3 : b.length < 4611686018427387904 := by omega
  unfold lstI
  generalize (wrongI ts b).map D.int = l at *
  simp [F__law_wrong, runF, B__law_wrong, k2, k3, e]
theorem f_is_row_gen {ts : List Int} (hT : Trk ts) (hs : ts.sum.natAbs < big) {b : List P2} (h : BagOk ts b) : F_is_row [tupI ts, bagD b] st = .ok (.bl (decide (wrongI ts b = []))) st := by
  have e := f_wrong_marks_by st hT hs h.ok (by have := h.len; omega)
  have e2 := eq_lstI_nil st (wrongI ts b)
  have e0 := f_check_tracked st hT h
  generalize decide (wrongI ts b = []) = v at *
  generalize lstI (wrongI ts b) = l at *
  simp [F_is_row, runF, B_is_row, F_is_row_by, B_is_row_by, e0, e, e2]
theorem f_wrong_mark {ts : List Int} (hT : Trk ts) (hs : ts.sum.natAbs < big) {b : List P2} (h : BagOk ts b) : F_wrong_mark [tupI ts, bagD b] st = .ok (headD (wrongI ts b)) st := by
  have e := f_wrong_marks_by st hT hs h.ok (by have := h.len; omega)
  have e2 := ne_lstI_nil st (wrongI ts b)
  have e0 := f_check_tracked st hT h
  generalize wrongI ts b = w at *
  cases w with
  | nil =>
    simp at e2
    simp [F_wrong_mark, runF, B_wrong_mark, e0, e, e2, headD]
  | cons x xs =>
    simp at e2
    have ix := ixD_lstI st (ts := x :: xs) 0 (by omega) (by simp)
    simp at ix
    generalize lstI (x :: xs) = l at *
    simp [F_wrong_mark, runF, B_wrong_mark, e0, e, e2, ix, headD]
theorem f_law_head (l : List Int) {fe ft : EvE} {env : G.Env} (he : fe env st = .ok (lstI l) st) : (ifE (tstE (binE neD fe (lstE (nilA)))) (binE ixD fe (cE (.int 0))) (cE .non)) env st = .ok (headD l) st := by
  have e2 := ne_lstI_nil st l
  cases l with
  | nil =>
    simp at e2
    simp [he, e2, headD]
  | cons x xs =>
    simp at e2
    have ix := ixD_lstI st (ts := x :: xs) 0 (by omega) (by simp)
    simp at ix
    generalize lstI (x :: xs) = l at *
    simp [he, e2, ix, headD]
end
end Lap

namespace Lap
open PySem PySem.Spec PyProof.Rows L2 G
/-! all courses on a small track (_law_led, _law_crossed) -/
def kvL (lo : Int) (n : Nat) : List (L2.Key × V) := (List.range n).map fun i => (.inl (lo + (i : Nat)), .bl true)
@[simp] theorem kvL_len (lo : Int) (n : Nat) : (kvL lo n).length = n := by simp [kvL]
theorem kvL_isSome (lo x : Int) (n : Nat) : (valV (kvL lo n) (.inl x)).isSome = decide (lo ≤ x ∧ x < lo + n) := by
  rw [← valV_any, kvL, List.any_map]
  rw [Bool.eq_iff_iff, List.any_eq_true, decide_eq_true_iff]
  constructor
  · rintro ⟨i, hi, h⟩
    have hi := List.mem_range.mp hi
    have h : (Sum.inl (lo + (i : Nat)) : L2.Key) = .inl x := by simpa using h
    injection h with h
    omega
  · intro h
    refine ⟨(x - lo).toNat, List.mem_range.mpr (by omega), ?_⟩
    have : lo + (((x - lo).toNat : Nat) : Int) = x := by omega
    exact decide_eq_true (congrArg Sum.inl this)
theorem put_kvL (lo : Int) (n i : Nat) (h : i ≤ n) : putK (kvL lo n) (.inl (lo + (i : Nat))) (.bl true) = kvL lo (max n (i + 1)) := by
  have hs := kvL_isSome lo (lo + (i : Nat)) n
  by_cases hi : i < n
  · have e : (valV (kvL lo n) (.inl (lo + (i : Nat)))).isSome = true := by rw [hs]; simp; omega
    unfold putK
    rw [valV_any, if_pos e, show max n (i + 1) = n by omega]
    have : ∀ p ∈ kvL lo n, (if p.1 = (.inl (lo + (i : Nat)) : L2.Key) then (p.1, V.bl true) else p) = p := by
      intro p hp
      unfold kvL at hp
      obtain ⟨j, _, rfl⟩ := List.mem_map.mp hp
      simp
    rw [List.map_congr_left this]; simp
  · have hi : i = n := by omega
    subst hi
    have e : valV (kvL lo i) (.inl (lo + (i : Nat))) = none := by
      have : (valV (kvL lo i) (.inl (lo + (i : Nat)))).isSome = false := by rw [hs]; simp
      simpa using this
    rw [putK_new _ e, show max i (i + 1) = i + 1 by omega]
    unfold kvL
    rw [List.range_succ, List.map_append]; rfl
theorem set_same {st : Sto} {q : Nat} {mo : MO} (h : st[q]? = some mo) : st.set q mo = st := by
  apply List.ext_getElem?
  intro j
  by_cases hj : q = j
  · subst hj
    rw [List.getElem?_set_self (List.getElem?_eq_some_iff.mp h).1, h]
  · rw [List.getElem?_set_ne hj]
theorem set_set {st : Sto} {q : Nat} {a b : MO} : (st.set q a).set q b = st.set q b := by simp
/-- loops that may return -/
theorem loop_rx {g : TgF} {body : SvS} (Inv : Nat → G.Env → Sto → Prop) (Out : D → Sto → Prop) : ∀ (xs : List D) (i : Nat) (env : G.Env) (st : Sto), Inv i env st →
    (∀ j x env s, xs[j]? = some x → Inv (i + j) env s → (∃ env' s', bindS (g x env s) env body = .nx env' s' ∧ Inv (i + j + 1) env' s') ∨ ∃ d s', bindS (g x env s) env body = .ret d s' ∧ Out d s') →
    (∃ env' s', loopF g body xs env st = .nx env' s' ∧ Inv (i + xs.length) env' s') ∨ ∃ d s', loopF g body xs env st = .ret d s' ∧ Out d s'
  | [], i, env, st, h0, _ => .inl ⟨env, st, rfl, h0⟩
  | x :: xs, i, env, st, h0, hs => by
    have e0 : loopF g body (x :: xs) env st = turnS (bindS (g x env st) env body) (loopF g body xs) := rfl
    rcases hs 0 x env st rfl h0 with ⟨e1, s1, t1, h1⟩ | ⟨d, s1, t1, h1⟩
    · have := loop_rx Inv Out xs (i + 1) e1 s1 h1 fun j y e s hj hI => by
        have := hs (j + 1) y e s (by simpa using hj) (by rw [show i + (j + 1) = i + 1 + j by omega]; exact hI)
        rw [show i + (j + 1) + 1 = i + 1 + j + 1 by omega] at this
        exact this
      rw [e0, t1, show i + (x :: xs).length = i + 1 + xs.length by simp; omega]
      exact this
    · exact .inr ⟨d, s1, by rw [e0, t1]; rfl, h1⟩
/-- a loop that draws its things from the store, whatever they are -/
theorem loopG_any {g : TgF} {body : SvS} {xs : List D} {nxt : Nat → Sto → Option (Option D)} (Inv : Nat → G.Env → Sto → Prop) : ∀ (k i : Nat) (env : G.Env) (st : Sto), i + k = xs.length → Inv i env st → (∀ j env s, Inv j env s → nxt j s = some xs[j]?) →
    (∀ j x env s, xs[j]? = some x → Inv j env s → ∃ env' s', bindS (g x env s) env body = .nx env' s' ∧ Inv (j + 1) env' s') →
    ∃ env' st', loopG g body nxt k i env st = .nx env' st' ∧ Inv xs.length env' st'
  | 0, i, env, st, hk, h0, hq, _ => by
    have hi : i = xs.length := by omega
    have q := hq i env st h0
    refine ⟨env, st, ?_, by rw [← hi]; exact h0⟩
    unfold loopG
    rw [q]
    simp [hi]
  | k + 1, i, env, st, hk, h0, hq, hs => by
    have hi : i < xs.length := by omega
    have q := hq i env st h0
    obtain ⟨e1, s1, t1, h1⟩ := hs i xs[i] env st (List.getElem?_eq_getElem hi) h0
    obtain ⟨e2, s2, t2, h2⟩ := loopG_any Inv k (i + 1) e1 s1 (by omega) h1 hq hs
    refine ⟨e2, s2, ?_, h2⟩
    unfold loopG
    rw [q, List.getElem?_eq_getElem hi]
    show turnS _ _ = _
    rw [t1]; exact t2
/-- a comprehension that draws its things from the store, which it does not change -/
theorem lcG_filt {α : Type} {nxt : Nat → Sto → Option (Option D)} {t : Tg} {tt : EvB} {fe : EvE} {envw : G.Env} {st : Sto} (f h : α → D) (p : α → Bool) (as : List α) (hl : as.length ≤ 16777216) (hn : ∀ i, i ≤ as.length → nxt i st = some (as.map f)[i]?)
    (hfe : ∀ a ∈ as, ∃ env1, t.set (f a) envw = some env1 ∧ tt env1 st = .ok (p a) st ∧ (p a = true → fe env1 st = .ok (h a) st)) :
    ∀ (k i : Nat) (acc : List D), i + k = as.length → acc = ((as.take i).filter p).map h → lcG t tt fe envw nxt k i st acc = .ok ((as.filter p).map h) st
  | 0, i, acc, hk, ha => by
    have hi : i = as.length := by omega
    unfold lcG
    rw [hn i (by omega), ha, hi, List.take_length]
    simp
  | k + 1, i, acc, hk, ha => by
    have hi : i < as.length := by omega
    have e : nxt i st = some (some (f as[i])) := by rw [hn i (by omega)]; simp [hi]
    obtain ⟨env1, h1, ht, h2⟩ := hfe as[i] (List.getElem_mem hi)
    unfold lcG
    rw [e]
    show turnC _ _ _ _ _ _ _ _ = _
    have hf : ((as.take i).filter p).length ≤ i := Nat.le_trans (List.length_filter_le _ _) (by rw [List.length_take]; omega)
    rw [turnC_if h1 ht h2 (by rw [ha]; simp only [List.length_map]; omega)]
    refine lcG_filt f h p as hl hn hfe k (i + 1) _ (by omega) ?_
    rw [ha, List.take_succ, List.getElem?_eq_getElem hi, List.filter_append]
    cases hp : p as[i] with
    | false => simp [hp]
    | true => simp [hp]

def e_body9 : SvS := putS (cE (.bl true)) (varE 7) (varE 9)
def e_body8 : SvS := forS (callI range2F (consA (binE addD (varE 8) (binE ixD (varE 0) (binE modD (callE intF (consA (binE addD (varE 2) (varE 6)) (nilA))) (varE 5)))) (consA (binE addD (varE 3) (cE (.int 1))) (nilA)))) (tgT (.nm 9)) e_body9
def e_body6 : SvS := seqS (asgS (newKE) (nameT 7)) (seqS (forDS (binE ixD (varE 4) (unE negD (cE (.int 1)))) (tgT (.nm 8)) e_body8) (seqS (ifS (tstE (unE eq0D (varE 7))) (retS (varE 4)) (passS)) (exprS (methLE appF (varE 4) (consA (varE 7) (nilA))))))
theorem led_eq : B__law_led = seqS (parS 4 5 (consA (mutE (consA (disp1E (varE 1) (cE (.bl true))) (nilA))) (consA (callE lenF (consA (varE 0) (nilA))) (nilA)))) (seqS (forS (callI range1F (consA (binE subD (varE 3) (varE 1)) (nilA))) (tgT (.nm 6)) e_body6) (retS (varE 4))) := rfl
theorem led_in {st : Sto} {q n c i0 : Nat} {lo : Int} (hq : st[q]? = some (.dk (kvL lo n))) (hi : i0 ≤ n ∨ c = 0) (hb : n + i0 + c ≤ 10000000) (o0 o1 o2 o3 o4 o5 o6 o8 o9 : Option D) :
    ∃ o9', loopF (tgT (.nm 9)) e_body9 (rangeD (lo + (i0 : Nat)) c) [o0, o1, o2, o3, o4, o5, o6, some (.mut q), o8, o9] st = .nx [o0, o1, o2, o3, o4, o5, o6, some (.mut q), o8, o9'] (st.set q (.dk (kvL lo (if c = 0 then n else max n (i0 + c))))) := by
  by_cases hc : c = 0
  · subst hc
    exact ⟨o9, by rw [if_pos rfl, set_same hq]; rfl⟩
  · have hi : i0 ≤ n := hi.resolve_right hc
    rw [if_neg hc]
    have hql := (List.getElem?_eq_some_iff.mp hq).1
    obtain ⟨env', s', e, o9', rfl, hs⟩ := loop_nx (g := tgT (.nm 9)) (body := e_body9)
      (fun j env s => ∃ o9 : Option D, env = [o0, o1, o2, o3, o4, o5, o6, some (.mut q), o8, o9] ∧ s = st.set q (.dk (kvL lo (max n (i0 + j)))))
      (xs := rangeD (lo + (i0 : Nat)) c) (env := [o0, o1, o2, o3, o4, o5, o6, some (.mut q), o8, o9]) (st := st) ⟨o9, rfl, by rw [show max n (i0 + 0) = n by omega, set_same hq]⟩
      (by
        rintro j x env s hx ⟨o9, rfl, rfl⟩
        obtain ⟨rfl, hj⟩ := range_get hx
        refine ⟨_, _, ?_, some (.int (lo + (i0 : Nat) + (j : Nat))), rfl, rfl⟩
        have e1 : (st.set q (.dk (kvL lo (max n (i0 + j)))))[q]? = some (.dk (kvL lo (max n (i0 + j)))) := List.getElem?_set_self hql
        have e2 : lo + (i0 : Int) + (j : Int) = lo + ((i0 + j : Nat) : Int) := by push_cast; omega
        have e3 := put_kvL lo (max n (i0 + j)) (i0 + j) (by omega)
        have hlt : (kvL lo (max n (i0 + j))).length < 16777216 := by rw [kvL_len]; omega
        have e4 : putD (.mut q) (.int (lo + (i0 : Int) + (j : Int))) (.bl true) (st.set q (.dk (kvL lo (max n (i0 + j))))) = some (st.set q (.dk (kvL lo (max n (i0 + (j + 1)))))) := by
          unfold putD
          simp only [e1, G.keyOf, G.scal, hlt, if_true]
          rw [e2, e3, set_set]
          rw [show max (max n (i0 + j)) (i0 + j + 1) = max n (i0 + (j + 1)) by omega]
        simp [e_body9, putS, e4])
    rw [rangeD_length] at hs
    subst hs
    exact ⟨o9', e⟩
/-- one lap's inner loops -/
theorem at_le {ts : List Int} (hT : Trk ts) (hw : ∀ x ∈ ts, 1 ≤ x ∧ x ≤ 1000) (i : Nat) : at_ ts i ≤ 1000 := by
  have := walk_le hw hT.pos i 1
  rw [show walkI ts i 1 = at_ ts i by simp [walkI]] at this
  omega
theorem led_keys {st : Sto} {q a N m k : Nat} {ts : List Int} {lok L : Int} (hT : Trk ts) (hw : ∀ x ∈ ts, 1 ≤ x ∧ x ≤ 1000) (hq : st[q]? = some (.dk [])) (ha : st[a]? = some (.fk (kvL lok N))) (hqa : q ≠ a) (h0 : 0 ≤ lok) (hL : 0 ≤ L) (hL2 : L ≤ 1000000) (hl2 : lok ≤ 1000000) (hN : N ≤ 1000001) (hN1 : 1 ≤ N)
    (hm : m < ts.length) (o1 o4 o8 o9 : Option D) :
    ∃ o8' o9', loopG (tgT (.nm 8)) e_body8 (keyNxt a) N 0 [some (tupI ts), o1, some (.int m), some (.int L), o4, some (.int ts.length), some (.int k), some (.mut q), o8, o9] st =
      .nx [some (tupI ts), o1, some (.int m), some (.int L), o4, some (.int ts.length), some (.int k), some (.mut q), o8', o9'] (st.set q (.dk (kvL (lok + at_ ts (m + k)) (L + 1 - (lok + at_ ts (m + k))).toNat))) := by
  have hd := at_ge hT (m + k)
  have hd9 := at_le hT hw (m + k)
  have hql := (List.getElem?_eq_some_iff.mp hq).1
  have hp0 := hT.pos
  have hsz : at_ ts (m + k) = ts.getD ((m + k) % ts.length) 0 := rfl
  generalize hdd : at_ ts (m + k) = d at *
  generalize hC : (L + 1 - (lok + d)).toNat = C
  have hx : ∀ j, keyNxt a j (st.set q (.dk [])) = keyNxt a j st := fun j => by unfold keyNxt; rw [List.getElem?_set_ne hqa]
  obtain ⟨env', s', e, o8', o9', rfl, hs⟩ := loopG_any (g := tgT (.nm 8)) (body := e_body8) (xs := (kvL lok N).map fun p => kD p.1) (nxt := keyNxt a)
    (fun j env s => ∃ o8 o9 : Option D, env = [some (tupI ts), o1, some (.int m), some (.int L), o4, some (.int ts.length), some (.int k), some (.mut q), o8, o9] ∧ s = st.set q (.dk (kvL (lok + d) (if j = 0 then 0 else C))))
    N 0 [some (tupI ts), o1, some (.int m), some (.int L), o4, some (.int ts.length), some (.int k), some (.mut q), o8, o9] st (by simp) ⟨o8, o9, rfl, by rw [if_pos rfl]; exact (set_same hq).symm⟩
    (by
      rintro j env s ⟨o8, o9, rfl, rfl⟩
      unfold keyNxt
      rw [List.getElem?_set_ne hqa, ha, List.getElem?_map])
    (by
      rintro j x env s hx ⟨o8, o9, rfl, rfl⟩
      rw [List.getElem?_map] at hx
      obtain ⟨⟨k1, v1⟩, hk, rfl⟩ := Option.map_eq_some_iff.mp hx
      unfold kvL at hk
      rw [List.getElem?_map] at hk
      obtain ⟨i, hi, he⟩ := Option.map_eq_some_iff.mp hk
      obtain ⟨hi1, hi2⟩ := List.getElem?_eq_some_iff.mp hi
      simp only [List.length_range] at hi1
      simp only [List.getElem_range] at hi2
      subst hi2
      cases he
      have e1 : (st.set q (.dk (kvL (lok + d) (if j = 0 then 0 else C))))[q]? = some (.dk (kvL (lok + d) (if j = 0 then 0 else C))) := List.getElem?_set_self hql
      have hcc : (L + 1 - (lok + (j : Nat) + d)).toNat = C - j := by omega
      obtain ⟨o9', e2⟩ := led_in (c := C - j) (i0 := j) (lo := lok + d) e1 (by split <;> omega) (by split <;> omega) (some (tupI ts)) o1 (some (.int m)) (some (.int L)) o4 (some (.int ts.length)) (some (.int k)) (some (.int (lok + (j : Nat)))) o9
      refine ⟨_, _, ?_, some (.int (lok + (j : Nat))), o9', rfl, rfl⟩
      have hnew : (if C - j = 0 then (if j = 0 then 0 else C) else max (if j = 0 then 0 else C) (j + (C - j))) = C ∨ (C - j = 0 ∧ j = 0 ∧ C = 0) := by
        by_cases hj0 : j = 0
        · subst hj0
          by_cases hC0 : C = 0
          · exact .inr ⟨by omega, rfl, hC0⟩
          · left; simp [hC0]
        · left
          simp only [hj0, if_false]
          split <;> omega
      have hset : (st.set q (.dk (kvL (lok + d) (if j = 0 then 0 else C)))).set q (.dk (kvL (lok + d) (if C - j = 0 then (if j = 0 then 0 else C) else max (if j = 0 then 0 else C) (j + (C - j))))) = st.set q (.dk (kvL (lok + d) (if j + 1 = 0 then 0 else C))) := by
        rw [set_set, if_neg (Nat.succ_ne_zero j)]
        rcases hnew with h | ⟨_, h, h2⟩
        · rw [h]
        · subst h h2; rfl
      rw [hset] at e2
      generalize st.set q (.dk (kvL (lok + d) (if j = 0 then 0 else C))) = s0 at *
      have x1 := ixD_tupI s0 (ts := ts) (((m + k : Nat) : Int) % ts.length) (Int.emod_nonneg _ (by omega)) (Int.emod_lt_of_pos _ (by omega))
      rw [show ((((m + k : Nat) : Int) % ts.length)).toNat = (m + k) % ts.length by rw [show ((m + k : Nat) : Int) % (ts.length : Int) = (((m + k) % ts.length : Nat) : Int) by push_cast; rfl]; rfl, ← hsz] at x1
      have k1 : (m : Int) + (k : Int) = ((m + k : Nat) : Int) := by push_cast; rfl
      have b1 : (lok + (j : Int) + d).natAbs < 2 ^ 62 := by omega
      have b2 : (L + 1).natAbs < 2 ^ 62 := by omega
      have r1 : range2F [.int (lok + (j : Int) + d), .int (L + 1)] s0 = .ok (.frz (rangeD (lok + d + (j : Nat)) (C - j))) s0 := by
        rw [range2F_eq, if_pos ⟨b1, b2⟩, show L + 1 - (lok + (j : Int) + d) = L + 1 - (lok + (j : Nat) + d) by rfl, hcc, show lok + (j : Int) + d = lok + d + (j : Nat) by omega]
      have hkD : kD (Sum.inl (lok + (j : Nat))) = .int (lok + (j : Int)) := rfl
      rw [hkD]
      have hp1 : 0 < ts.length := hp0
      simp [-Int.natCast_add, -Int.natCast_emod, e_body8, k1, x1, hp1, r1, e2])
  have hlen : ((kvL lok N).map fun p => kD p.1).length = N := by simp
  rw [hlen, if_neg (by omega)] at hs
  subst hs
  exact ⟨o8', o9', e⟩

theorem forDS_nx {fa : EvE} {g : TgF} {body : SvS} {env env' : G.Env} {st st' : Sto} {n : Nat} {kvs : List (L2.Key × V)} (h1 : fa env st = .ok (.mut n) st) (h2 : st[n]? = some (.dk kvs))
    (h3 : fa env (st.set n (.fk kvs)) = .ok (.mut n) (st.set n (.fk kvs))) (h4 : loopG g body (keyNxt n) kvs.length 0 env (st.set n (.fk kvs)) = .nx env' st') (h5 : st'[n]? = some (.fk kvs)) :
    forDS fa g body env st = .nx env' (st'.set n (.dk kvs)) := by
  have hn := (List.getElem?_eq_some_iff.mp h2).1
  have e : (st.set n (.fk kvs))[n]? = some (.fk kvs) := List.getElem?_set_self hn
  have e1 : iterKE fa env (st.set n (.fk kvs)) = .ok (.gen (keyNxt n) kvs.length) (st.set n (.fk kvs)) := by
    unfold iterKE
    rw [h3]
    simp [e]
  unfold forDS
  rw [h1]
  simp only [h2, forS_eq, e1, bindS_ok, h4]
  unfold unlockS
  simp only [h5]
def aI (n0 j : Nat) : Nat := if j = 0 then n0 else n0 + 1 + j
def refs (n0 k : Nat) : List D := (List.range (k + 1)).map fun j => D.mut (aI n0 j)
def loK (ts : List Int) (t : Int) (m k : Nat) : Int := t + walkI ts m k
def cntK (ts : List Int) (t : Int) (m : Nat) (L : Int) (k : Nat) : Nat := if k = 0 then 1 else (L + 1 - loK ts t m k).toNat
structure Led (ts : List Int) (t : Int) (m : Nat) (L : Int) (n0 k : Nat) (st s : Sto) : Prop where
  len : n0 + 2 + k ≤ s.length
  kp : ∀ i, i < n0 → s[i]? = st[i]?
  rows : s[n0 + 1]? = some (.lst (refs n0 k))
  at_ : ∀ j, j ≤ k → s[aI n0 j]? = some (.dk (kvL (loK ts t m j) (cntK ts t m L j)))
theorem aI_ne (n0 j : Nat) : aI n0 j ≠ n0 + 1 := by unfold aI; split <;> omega
theorem aI_inj {n0 i j : Nat} (h : aI n0 i = aI n0 j) : i = j := by unfold aI at h; split at h <;> split at h <;> omega
theorem aI_ge (n0 j : Nat) : n0 ≤ aI n0 j := by unfold aI; split <;> omega
theorem aI_le (n0 j k : Nat) (h : j ≤ k) : aI n0 j < n0 + 2 + k := by unfold aI; split <;> omega
theorem refs_last (n0 k : Nat) : L2.atI (refs n0 k) (-1) = some (.mut (aI n0 k)) := by
  unfold L2.atI L2.ixN
  have hl : (refs n0 k).length = k + 1 := by simp [refs]
  rw [if_neg (by omega), if_pos (by rw [hl]; omega)]
  simp only [hl]
  have : ((-1 : Int) + ((k : Int) + 1)).toNat = k := by omega
  simp [this, refs]
theorem led_step {st s : Sto} {ts : List Int} {t L : Int} {m n0 k : Nat} (hT : Trk ts) (hw : ∀ x ∈ ts, 1 ≤ x ∧ x ≤ 1000) (h0 : 0 ≤ t) (h1 : t ≤ 100000) (hL : 0 ≤ L) (hL2 : L ≤ 100000) (hm : m < ts.length) (hk : k ≤ 100000)
    (hs : s.length = n0 + 2 + k) (hl : Led ts t m L n0 k st s) (hc : 1 ≤ cntK ts t m L k) (o7 o8 o9 : Option D) :
    (∃ o7' o8' o9' s', e_body6 [some (tupI ts), some (.int t), some (.int m), some (.int L), some (.mut (n0 + 1)), some (.int ts.length), some (.int k), o7, o8, o9] s =
      .nx [some (tupI ts), some (.int t), some (.int m), some (.int L), some (.mut (n0 + 1)), some (.int ts.length), some (.int k), o7', o8', o9'] s' ∧ s'.length = n0 + 2 + (k + 1) ∧ Led ts t m L n0 (k + 1) st s' ∧ 1 ≤ cntK ts t m L (k + 1)) ∨
    ∃ s', e_body6 [some (tupI ts), some (.int t), some (.int m), some (.int L), some (.mut (n0 + 1)), some (.int ts.length), some (.int k), o7, o8, o9] s = .ret (.mut (n0 + 1)) s' ∧ Led ts t m L n0 k st s' ∧ cntK ts t m L (k + 1) = 0 := by
  have hlo : loK ts t m (k + 1) = loK ts t m k + at_ ts (m + k) := by unfold loK; rw [walk_succ]; omega
  have hg := walk_ge hT m k
  have hlk : loK ts t m k ≤ 100000 := by
    by_cases hk0 : k = 0
    · subst hk0; unfold loK; simp [walkI]; omega
    · unfold cntK at hc; rw [if_neg hk0] at hc; omega
  have hlk0 : 0 ≤ loK ts t m k := by unfold loK; omega
  have hcm : cntK ts t m L k ≤ 1000001 := by unfold cntK; split <;> omega
  have hck : cntK ts t m L (k + 1) = (L + 1 - (loK ts t m k + at_ ts (m + k))).toNat := by unfold cntK; rw [if_neg (by omega), hlo]
  have ha := hl.at_ k (Nat.le_refl _)
  have han : aI n0 k < s.length := (List.getElem?_eq_some_iff.mp ha).1
  have hrn : n0 + 1 < s.length := (List.getElem?_eq_some_iff.mp hl.rows).1
  have hqa : s.length ≠ aI n0 k := by omega
  have hqr : s.length ≠ n0 + 1 := by omega
  have har := aI_ne n0 k
  have haq : aI n0 (k + 1) = s.length := by rw [hs]; unfold aI; rw [if_neg (by omega)]; omega
  generalize hs1 : s ++ [MO.dk []] = s1
  have g1 : ∀ i, i < s.length → s1[i]? = s[i]? := fun i hi => by rw [← hs1, List.getElem?_append_left hi]
  have gq : s1[s.length]? = some (.dk []) := by rw [← hs1]; simp
  have l1 : s1.length = s.length + 1 := by rw [← hs1]; simp
  have gr : s1[n0 + 1]? = some (.lst (refs n0 k)) := by rw [g1 _ hrn]; exact hl.rows
  have ga : s1[aI n0 k]? = some (.dk (kvL (loK ts t m k) (cntK ts t m L k))) := by rw [g1 _ han]; exact ha
  generalize hkv : kvL (loK ts t m k) (cntK ts t m L k) = kv at *
  have hkl : kv.length = cntK ts t m L k := by rw [← hkv, kvL_len]
  have gqf : (s1.set (aI n0 k) (.fk kv))[s.length]? = some (.dk []) := by rw [List.getElem?_set_ne (fun z => hqa z.symm)]; exact gq
  have gaf : (s1.set (aI n0 k) (.fk kv))[aI n0 k]? = some (.fk kv) := List.getElem?_set_self (by omega)
  have grf : (s1.set (aI n0 k) (.fk kv))[n0 + 1]? = some (.lst (refs n0 k)) := by rw [List.getElem?_set_ne har]; exact gr
  obtain ⟨o8', o9', e⟩ := led_keys (m := m) (k := k) (ts := ts) (lok := loK ts t m k) (L := L) (N := cntK ts t m L k) hT hw gqf (by rw [hkv]; exact gaf) hqa hlk0 hL (by omega) (by omega) hcm hc hm (some (.int t)) (some (.mut (n0 + 1))) o8 o9
  rw [← hck, ← hlo] at e
  have hfd := forDS_nx (fa := binE ixD (varE 4) (unE negD (cE (.int 1)))) (g := tgT (.nm 8)) (body := e_body8)
    (env := [some (tupI ts), some (.int t), some (.int m), some (.int L), some (.mut (n0 + 1)), some (.int ts.length), some (.int k), some (.mut s.length), o8, o9]) (st := s1) (n := aI n0 k) (kvs := kv)
    (by have := ixD_mut (n0 + 1) (refs n0 k) (-1) s1 gr (refs_last n0 k); simp [this]) ga
    (by have := ixD_mut (n0 + 1) (refs n0 k) (-1) _ grf (refs_last n0 k); simp [this]) (by rw [hkl]; exact e)
    (by rw [List.getElem?_set_ne hqa]; exact gaf)
  generalize hs4 : ((s1.set (aI n0 k) (.fk kv)).set s.length (.dk (kvL (loK ts t m (k + 1)) (cntK ts t m L (k + 1))))).set (aI n0 k) (.dk kv) = s4 at *
  have l4 : s4.length = s.length + 1 := by rw [← hs4]; simp [l1]
  have q4 : s4[s.length]? = some (.dk (kvL (loK ts t m (k + 1)) (cntK ts t m L (k + 1)))) := by
    rw [← hs4, List.getElem?_set_ne (fun z => hqa z.symm), List.getElem?_set_self (by simp; omega)]
  have o4 : ∀ i, i < s.length → s4[i]? = s[i]? := by
    intro i hi
    rw [← hs4]
    by_cases hia : aI n0 k = i
    · subst hia
      rw [List.getElem?_set_self (by simp; omega), ha]
    · rw [List.getElem?_set_ne hia, List.getElem?_set_ne (by omega), List.getElem?_set_ne hia, g1 i hi]
  have r4 : s4[n0 + 1]? = some (.lst (refs n0 k)) := by rw [o4 _ hrn]; exact hl.rows
  have ld4 : Led ts t m L n0 k st s4 := ⟨by omega, fun i hi => by rw [o4 i (by omega)]; exact hl.kp i hi, r4, fun j hj => by
    have := aI_le n0 j k hj
    rw [o4 _ (by omega)]; exact hl.at_ j hj⟩
  have em : eq0D (.mut s.length) s4 = .ok (.bl (decide (cntK ts t m L (k + 1) = 0))) s4 := by
    unfold eq0D
    simp only [q4]
    congr 2
    generalize cntK ts t m L (k + 1) = c
    cases c with
    | zero => rfl
    | succ c => simp [kvL, List.range_succ_eq_map]
  have en : newKE [some (tupI ts), some (.int t), some (.int m), some (.int L), some (.mut (n0 + 1)), some (.int ts.length), some (.int k), o7, o8, o9] s = .ok (.mut s.length) s1 := by rw [← hs1]; rfl
  by_cases hz : cntK ts t m L (k + 1) = 0
  · right
    refine ⟨s4, ?_, ld4, hz⟩
    rw [hz] at em
    simp only [decide_true] at em
    simp [e_body6, en, hfd, em]
  · left
    simp only [hz, decide_false] at em
    refine ⟨some (.mut s.length), o8', o9', s4.set (n0 + 1) (.lst (refs n0 k ++ [.mut s.length])), ?_, by simp; omega, ⟨by simp; omega, fun i hi => ?_, ?_, fun j hj => ?_⟩, by omega⟩
    · have il : isL (.mut (n0 + 1)) s4 = true := by unfold isL; simp [r4]
      have ap : appF (.mut (n0 + 1)) [.mut s.length] s4 = .ok .non (s4.set (n0 + 1) (.lst (refs n0 k ++ [.mut s.length]))) := by
        unfold appF
        have hrl : (refs n0 k).length < 16777216 := by simp [refs]; omega
        simp [r4, hrl]
      simp [e_body6, en, hfd, em, il, ap]
    · rw [List.getElem?_set_ne (by omega)]; exact ld4.kp i hi
    · rw [List.getElem?_set_self (by omega)]
      unfold refs
      rw [List.range_succ (n := k + 1), List.map_append, ← haq]; rfl
    · rw [List.getElem?_set_ne (fun z => aI_ne n0 j z.symm)]
      by_cases hjk : j = k + 1
      · subst hjk; rw [haq]; exact q4
      · have := aI_le n0 j k (by omega)
        rw [o4 _ (by omega)]; exact hl.at_ j (by omega)
theorem f_led (st : Sto) {ts : List Int} {t L : Int} {m : Nat} (hT : Trk ts) (hw : ∀ x ∈ ts, 1 ≤ x ∧ x ≤ 1000) (h0 : 0 ≤ t) (h1 : t ≤ 100000) (hL : 0 ≤ L) (hL2 : L ≤ 100000) (hm : m < ts.length) :
    ∃ k s', F__law_led [tupI ts, .int t, .int m, .int L] st = .ok (.mut (st.length + 1)) s' ∧ Led ts t m L st.length k st s' ∧ k ≤ (L - t).toNat ∧ (k = (L - t).toNat ∨ cntK ts t m L (k + 1) = 0) := by
  have dd : disp1E (varE 1) (cE (.bl true)) [some (tupI ts), some (.int t), some (.int m), some (.int L), none, none, none, none, none, none] st = .ok (.mut st.length) (st ++ [.dk (kvL t 1)]) := by
    unfold disp1E
    have e1 : (st ++ [MO.dk []])[st.length]? = some (.dk []) := by simp
    simp [e1, G.keyOf, G.scal, kvL]
  have hl0 : Led ts t m L st.length 0 st (st ++ [.dk (kvL t 1)] ++ [.lst [.mut st.length]]) := by
    refine ⟨by simp, fun i hi => ?_, ?_, fun j hj => ?_⟩
    · rw [List.getElem?_append_left (by simp; omega), List.getElem?_append_left hi]
    · rw [List.getElem?_append_right (by simp)]; simp [refs, aI]
    · obtain rfl : j = 0 := by omega
      rw [show aI st.length 0 = st.length from rfl, List.getElem?_append_left (by simp), List.getElem?_append_right (Nat.le_refl _)]
      simp [loK, cntK, walkI]
  have hlp := loop_rx (g := tgT (.nm 6)) (body := e_body6)
    (fun k env s => ∃ o6 o7 o8 o9 : Option D, env = [some (tupI ts), some (.int t), some (.int m), some (.int L), some (.mut (st.length + 1)), some (.int ts.length), o6, o7, o8, o9] ∧ s.length = st.length + 2 + k ∧ Led ts t m L st.length k st s ∧ 1 ≤ cntK ts t m L k)
    (fun d s => ∃ k, d = .mut (st.length + 1) ∧ Led ts t m L st.length k st s ∧ k ≤ (L - t).toNat ∧ cntK ts t m L (k + 1) = 0)
    (rangeD 0 (L - t).toNat) 0 [some (tupI ts), some (.int t), some (.int m), some (.int L), some (.mut (st.length + 1)), some (.int ts.length), none, none, none, none] (st ++ [.dk (kvL t 1)] ++ [.lst [.mut st.length]])
    ⟨none, none, none, none, rfl, by simp, hl0, by simp [cntK]⟩
    (by
      rintro j x env s hx ⟨o6, o7, o8, o9, rfl, hs, hl, hc⟩
      obtain ⟨rfl, hj⟩ := range_get hx
      rw [Nat.zero_add] at hs hl hc
      rcases led_step hT hw h0 h1 hL hL2 hm (by omega) hs hl hc o7 o8 o9 with ⟨o7', o8', o9', s', e, h1, h2, h3⟩ | ⟨s', e, h1, h2⟩
      · left
        refine ⟨_, s', ?_, some (.int j), o7', o8', o9', rfl, by rw [Nat.zero_add]; exact h1, by rw [Nat.zero_add]; exact h2, by rw [Nat.zero_add]; exact h3⟩
        simp [e]
      · right
        refine ⟨_, s', ?_, j, rfl, h1, by omega, h2⟩
        simp [e])
  have k1 : (L - t).natAbs < 4611686018427387904 := by omega
  rcases hlp with ⟨env', s', e, o6, o7, o8, o9, rfl, hs, hl, hc⟩ | ⟨d, s', e, k, rfl, hl, h1, h2⟩
  · rw [rangeD_length, Nat.zero_add] at hl
    simp only [List.append_assoc, List.cons_append, List.nil_append] at e
    refine ⟨_, s', ?_, hl, Nat.le_refl _, .inl rfl⟩
    unfold F__law_led
    rw [led_eq]
    simp [runF, dd, k1, e]
  · simp only [List.append_assoc, List.cons_append, List.nil_append] at e
    refine ⟨k, s', ?_, hl, h1, .inr h2⟩
    unfold F__law_led
    rw [led_eq]
    simp [runF, dd, k1, e]

/-- the numbers of crossings that lead from a mark to another one -/
def crossB (ts : List Int) (p q : P2) (j : Nat) : Bool := decide (1 ≤ j) && (decide ((p.2.toNat + j) % ts.length = q.2.toNat) && decide (walkI ts p.2.toNat j ≤ q.1 - p.1))
def crossL (ts : List Int) (p q : P2) : List Nat := (List.range ((q.1 - p.1).toNat + 1)).filter (crossB ts p q)
theorem f_crossed (st : Sto) {ts : List Int} {p q : P2} (hT : Trk ts) (hw : ∀ x ∈ ts, 1 ≤ x ∧ x ≤ 1000) (hp : MatOk ts p) (hq : MatOk ts q) (h1 : p.1 ≤ 100000) (h2 : q.1 ≤ 100000) :
    ∃ s', F__law_crossed [tupI ts, pairD p, pairD q] st = .ok (.lst ((crossL ts p q).map fun j : Nat => D.int j)) s' ∧ st.length ≤ s'.length ∧ ∀ i, i < st.length → s'[i]? = st[i]? := by
  obtain ⟨t, mi⟩ := p
  obtain ⟨L, oi⟩ := q
  obtain ⟨t0, m0, m1⟩ := hp
  obtain ⟨L0, o0, o1⟩ := hq
  simp only at t0 m0 m1 L0 o0 o1 h1 h2
  obtain ⟨m, rfl⟩ := Int.eq_ofNat_of_zero_le m0
  obtain ⟨o, rfl⟩ := Int.eq_ofNat_of_zero_le o0
  have hm : m < ts.length := by omega
  have hp1 : 0 < ts.length := hT.pos
  obtain ⟨k, s', e, hl, hk, hd⟩ := f_led st hT hw t0 h1 L0 h2 hm
  have hX : (L - t).toNat ≤ 100000 := by omega
  have en : enumF [.mut (st.length + 1)] s' = .ok (.gen (enumNxt (st.length + 1)) (k + 1)) s' := by
    unfold enumF
    simp only [hl.rows]
    simp [refs]
  have hnx : ∀ i, enumNxt (st.length + 1) i s' = some ((List.range (k + 1)).map fun j => D.tup [.int (j : Nat), .mut (aI st.length j)])[i]? := by
    intro i
    unfold enumNxt
    simp only [hl.rows]
    unfold refs
    rw [List.getElem?_map, List.getElem?_map]
    by_cases hi : i < k + 1
    · rw [List.getElem?_range hi]; rfl
    · rw [List.getElem?_eq_none (by simp; omega)]; rfl
  have lc := lcG_filt (nxt := enumNxt (st.length + 1)) (t := .tp [.nm 5, .nm 6])
    (tt := andB (tstE (binE gtD (varE 5) (cE (.int 0)))) (andB (tstE (binE eqD (binE modD (callE intF (consA (binE addD (binE ixD (varE 1) (cE (.int 1))) (varE 5)) (nilA))) (varE 3)) (binE ixD (varE 2) (cE (.int 1))))) (tstE (binE inKD (binE ixD (varE 2) (cE (.int 0))) (varE 6)))))
    (fe := varE 5) (envw := [some (tupI ts), some (pairD (t, m)), some (pairD (L, o)), some (.int ts.length), some (.mut (st.length + 1)), none, none]) (st := s')
    (fun j : Nat => D.tup [.int (j : Nat), .mut (aI st.length j)]) (fun j : Nat => D.int (j : Nat)) (crossB ts (t, m) (L, o)) (List.range (k + 1)) (by simp; omega) (fun i _ => hnx i)
    (by
      intro j hj
      have hj := List.mem_range.mp hj
      refine ⟨[some (tupI ts), some (pairD (t, m)), some (pairD (L, o)), some (.int ts.length), some (.mut (st.length + 1)), some (.int (j : Nat)), some (.mut (aI st.length j))], by simp [Tg.set, Tg.sets], ?_, fun z => by simp⟩
      have hat := hl.at_ j (by omega)
      have hin : inKD (.int L) (.mut (aI st.length j)) s' = .ok (.bl (decide (loK ts t m j ≤ L ∧ L < loK ts t m j + cntK ts t m L j))) s' := by
        unfold inKD
        simp only [hat, G.keyOf]
        rw [kvL_isSome]
      have k1 : (m : Int) + (j : Int) = ((m + j : Nat) : Int) := by push_cast; rfl
      have k2 : (((m + j : Nat) : Int) % (ts.length : Int) = (o : Int)) ↔ (m + j) % ts.length = o := by
        rw [show ((m + j : Nat) : Int) % (ts.length : Int) = (((m + j) % ts.length : Nat) : Int) by push_cast; rfl]
        omega
      have hc : crossB ts (t, m) (L, o) j = (decide (1 ≤ j) && (decide ((m + j) % ts.length = o) && decide (walkI ts m j ≤ L - t))) := rfl
      rw [hc]
      by_cases hj0 : j = 0
      · subst hj0; simp
      · have hj1 : 1 ≤ j := by omega
        have hj2 : (0 : Int) < j := by omega
        have h3 : (loK ts t m j ≤ L ∧ L < loK ts t m j + cntK ts t m L j) ↔ walkI ts m j ≤ L - t := by
          unfold cntK loK
          rw [if_neg hj0]
          omega
        rw [show decide (loK ts t m j ≤ L ∧ L < loK ts t m j + cntK ts t m L j) = decide (walkI ts m j ≤ L - t) by rw [Bool.eq_iff_iff]; simp only [decide_eq_true_iff]; exact h3] at hin
        generalize decide (walkI ts m j ≤ L - t) = b3 at *
        by_cases hb : (m + j) % ts.length = o
        · have hb' := k2.mpr hb
          simp only [hb, hj1, decide_true, Bool.true_and]
          simp [-Int.natCast_add, -Int.natCast_emod, hj0, hj2, k1, hp1, hb', hin]
        · have hb' : ¬ (((m + j : Nat) : Int) % (ts.length : Int) = (o : Int)) := fun z => hb (k2.mp z)
          simp only [hb, hj1, decide_true, decide_false, Bool.true_and, Bool.false_and]
          simp [-Int.natCast_add, -Int.natCast_emod, hj2, k1, hp1, hb'])
    (k + 1) 0 [] (by simp) (by simp)
  have hcr : (List.range (k + 1)).filter (crossB ts (t, m) (L, o)) = crossL ts (t, m) (L, o) := by
    unfold crossL
    rw [show ((L, (o : Int)) : P2).1 - ((t, (m : Int)) : P2).1 = L - t from rfl]
    have hra := List.range_add (n := k + 1) (m := (L - t).toNat - k)
    rw [show (L - t).toNat + 1 = (k + 1) + ((L - t).toNat - k) by omega, hra, List.filter_append]
    have : ((List.range ((L - t).toNat - k)).map fun x => k + 1 + x).filter (crossB ts (t, m) (L, o)) = [] := by
      rw [List.filter_eq_nil_iff]
      intro j hj
      obtain ⟨x, hx, rfl⟩ := List.mem_map.mp hj
      have hx := List.mem_range.mp hx
      have h5 := walk_mono hT m (k + 1) x
      have hcz : cntK ts t m L (k + 1) = 0 := by
        rcases hd with h | h
        · omega
        · exact h
      have h6 : L < t + walkI ts m (k + 1) := by
        unfold cntK loK at hcz
        rw [if_neg (by omega)] at hcz
        omega
      unfold crossB
      simp only [Bool.and_eq_true, decide_eq_true_iff]
      rintro ⟨_, _, h7⟩
      have h7 : walkI ts m (k + 1 + x) ≤ L - t := h7
      omega
    rw [this, List.append_nil]
  rw [hcr] at lc
  refine ⟨s', ?_, by have := hl.len; omega, hl.kp⟩
  unfold F__law_crossed
  generalize (crossL ts (t, m) (L, o)).map (fun j : Nat => D.int (j : Nat)) = res at *
  simp [runF, B__law_crossed, e, en, lc]
/-- no course leads there just where the mark can not follow -/
theorem cross_nil {ts : List Int} {p q : P2} (hT : Trk ts) (hp : MatOk ts p) (hq : MatOk ts q) : crossL ts p q = [] ↔ followB ts q p = false := by
  obtain ⟨t, mi⟩ := p
  obtain ⟨L, oi⟩ := q
  obtain ⟨t0, m0, m1⟩ := hp
  obtain ⟨L0, o0, o1⟩ := hq
  simp only at t0 m0 m1 L0 o0 o1
  obtain ⟨m, rfl⟩ := Int.eq_ofNat_of_zero_le m0
  obtain ⟨o, rfl⟩ := Int.eq_ofNat_of_zero_le o0
  have hm : m < ts.length := by omega
  have ho : o < ts.length := by omega
  unfold crossL
  rw [List.filter_eq_nil_iff]
  have hf : followB ts (L, (o : Int)) (t, (m : Int)) = decide (L - t ≥ wayI ts m o) := rfl
  rw [hf, decide_eq_false_iff_not]
  have hst := steps_rng hm ho
  have hto := steps_to hm ho
  constructor
  · intro h hway
    have hwd : wayI ts m o = walkI ts m (stepsN ts.length m o) := rfl
    have hg := walk_ge hT m (stepsN ts.length m o)
    refine h (stepsN ts.length m o) (List.mem_range.mpr ?_) ?_
    · show _ < (L - t).toNat + 1
      omega
    · unfold crossB
      simp only [Bool.and_eq_true, decide_eq_true_iff]
      refine ⟨hst.1, hto, ?_⟩
      show walkI ts m _ ≤ L - t
      omega
  · intro hno j hj hc
    unfold crossB at hc
    simp only [Bool.and_eq_true, decide_eq_true_iff] at hc
    obtain ⟨c1, c2, c3⟩ := hc
    have c2 : (m + j) % ts.length = o := c2
    have c3 : walkI ts m j ≤ L - t := c3
    have := walk_ge_way hT hm c1
    rw [c2] at this
    omega
end Lap

namespace Lap
open PySem G
/-! small tracks and rows drawn by k11 and k18 -/
def smBody (FB : FA) : SvS := seqS (exprS (methLE appF (varE 6) (consA (tupE (consA (varE 4) (consA (varE 5) (nilA)))) (nilA)))) (seqS (asgS (binE addD (cE (.int 1)) (callE FB (consA (varE 0) (consA (binE addD (callE lenF (consA (varE 3) (nilA))) (cE (.int 1))) (nilA))))) (nameT 8)) (seqS (asgS (binE addD (binE addD (varE 4) (callE F__law_reach (consA (varE 3) (consA (varE 5) (consA (varE 8) (nilA)))))) (callE FB (consA (varE 0) (consA (varE 2) (nilA))))) (nameT 4)) (asgS (binE modD (callE intF (consA (binE addD (varE 5) (varE 8)) (nilA))) (callE lenF (consA (varE 3) (nilA)))) (nameT 5))))
def smFe (FB : FA) : EvE := (binE addD (cE (.int 1)) (callE FB (consA (varE 0) (consA (cE (.int 3)) (nilA)))))
def smallA (FB : FA) : SvS := seqS (asgS (callE tupleF (consA (lcE (callI range1F (consA (binE addD (cE (.int 1)) (callE FB (consA (varE 0) (consA (cE (.int 4)) (nilA))))) (nilA))) (.nm 7) (yesB) (smFe FB) [7]) (nilA))) (nameT 3)) (seqS (parS3 4 5 6 (consA (callE FB (consA (varE 0) (consA (cE (.int 4)) (nilA)))) (consA (callE FB (consA (varE 0) (consA (callE lenF (consA (varE 3) (nilA))) (nilA)))) (consA (mutE (nilA)) (nilA))))) (seqS (forS (callI range1F (consA (varE 1) (nilA))) (tgT (.nm 7)) (smBody FB)) (retS (tupE (consA (varE 3) (consA (callE tupleF (consA (varE 6) (nilA))) (nilA)))))))
structure SmRow (ts : List Int) (n q j : Nat) (b : List P2) (t : Int) (m : Nat) (s : Sto) : Prop where
  pool : Pool n s
  at_ : s[q]? = some (.lst (b.map pairD))
  len : b.length = j
  ok : RowOk ts (b ++ [(t, (m : Int))])
  m0 : m < ts.length
  le : ∀ p ∈ b ++ [(t, (m : Int))], p.1 ≤ 3 + 25 * j
theorem sm_turn {FB : FA} (hB : Below FB) {ts : List Int} (hT : Trk ts) (h4 : ts.length ≤ 4) (hw : ∀ x ∈ ts, 1 ≤ x ∧ x ≤ 3) {st : Sto} {n q j : Nat} {b : List P2} {t : Int} {m : Nat} {slack : Int} (hsl : 1 ≤ slack) (hs7 : slack ≤ 7) (hnq : n ≠ q) (hj : j < 100) (h : SmRow ts n q j b t m st) (o1 o7 o8 : Option D) :
    ∃ b' t' m' q8 st', smBody FB [some (.mut n), o1, some (.int slack), some (tupI ts), some (.int t), some (.int (m : Nat)), some (.mut q), o7, o8] st =
      .nx [some (.mut n), o1, some (.int slack), some (tupI ts), some (.int t'), some (.int (m' : Nat)), some (.mut q), o7, q8] st' ∧ SmRow ts n q (j + 1) b' t' m' st' := by
  have hbig := big_ge
  have h0 : 0 < ts.length := hT.pos
  obtain ⟨hp, hat, hlen, hok, hm, hle⟩ := h
  have hsum : ts.sum.natAbs < big := by
    have h1 := walk_le hw h0 0 ts.length
    rw [walk_round ts 0 h0] at h1
    have h2 := sum_pos hT
    have h3 : (ts.length : Int) * 3 ≤ 12 := by omega
    omega
  have ap := app_mut (pairD (t, (m : Int))) hat (by simp; omega)
  have il := isL_mut hat
  generalize hs0 : st.set q (.lst (b.map pairD ++ [pairD (t, (m : Int))])) = s0 at *
  have hq := (List.getElem?_eq_some_iff.mp hat).1
  have hp0 : Pool n s0 := by rw [← hs0]; exact set_other hnq hp
  have at0 : s0[q]? = some (.lst ((b ++ [(t, (m : Int))]).map pairD)) := by rw [← hs0]; simp [hq]
  obtain ⟨si, s1, e1, a0, a1, hp1, ef1⟩ := hB (m := (ts.length : Int) + 1) hp0 (by omega) (by omega)
  obtain ⟨s, rfl⟩ := Int.eq_ofNat_of_zero_le a0
  have r1 := f_law_reach s1 ts m (s + 1) hm (by have := hT.le; omega) (by omega) hsum
  have k1 : (1 : Int) + s = ((s + 1 : Nat) : Int) := by push_cast; omega
  obtain ⟨g, s2, e2, g0, g1, hp2, ef2⟩ := hB (m := slack) hp1 (by omega) (by omega)
  have hm' := Nat.mod_lt (m + (s + 1)) h0
  have k2 : ((m : Int) + ((s + 1 : Nat) : Int)) % (ts.length : Int) = (((m + (s + 1)) % ts.length : Nat) : Int) := by simp
  have hwg := walk_ge_way hT hm (s := s + 1) (by omega)
  have hw0 := walk_ge hT m (s + 1)
  have hwl : walkI ts m (s + 1) ≤ 15 := by
    have := walk_le hw h0 m (s + 1)
    omega
  have at1 : s1[q]? = some (.lst ((b ++ [(t, (m : Int))]).map pairD)) := (ef1.2 q (fun z => hnq z.symm)).trans at0
  have at2 : s2[q]? = some (.lst ((b ++ [(t, (m : Int))]).map pairD)) := (ef2.2 q (fun z => hnq z.symm)).trans at1
  have mt := hok.ok (t, (m : Int)) (by simp)
  have ht0 : 0 ≤ t := mt.1
  have mo : MatOk ts (t + walkI ts m (s + 1) + g, (((m + (s + 1)) % ts.length : Nat) : Int)) := ⟨by show 0 ≤ t + walkI ts m (s + 1) + g; omega, by show (0 : Int) ≤ _; omega, by show ((_ : Nat) : Int) < _; omega⟩
  refine ⟨b ++ [(t, (m : Int))], t + walkI ts m (s + 1) + g, (m + (s + 1)) % ts.length, some (.int ((s + 1 : Nat) : Int)), s2, ?_, hp2, at2, by simp [hlen], ⟨fun p hp => ?_, ?_⟩, hm', fun p hp => ?_⟩
  · unfold pairD at ap
    simp only at ap
    generalize walkI ts m (s + 1) = wk at *
    generalize (m + (s + 1)) % ts.length = mm at *
    simp [-Int.natCast_add, -Int.natCast_emod, smBody, il, ap, e1, k1, r1, e2, k2, h0]
  · rcases List.mem_append.mp hp with hp | hp
    · exact hok.ok p hp
    · rw [List.mem_singleton.mp hp]; exact mo
  · refine row_snoc hT hok.ok mo hok.row (.inr ⟨(t, (m : Int)), by simp, ?_⟩)
    unfold followB
    apply decide_eq_true
    simp only [Int.toNat_natCast]
    omega
  · rcases List.mem_append.mp hp with hp | hp
    · have := hle p hp; push_cast; omega
    · rw [List.mem_singleton.mp hp]
      have := hle (t, (m : Int)) (by simp)
      simp only at this
      show t + walkI ts m (s + 1) + g ≤ _
      push_cast
      omega
theorem smallA_ok {FB : FA} (hB : Below FB) {st : Sto} {n k : Nat} {slack : Int} (hp : Pool n st) (hsl : 1 ≤ slack) (hs7 : slack ≤ 7) (hk : k < 100) :
    ∃ ts b st', runF 3 9 (smallA FB) [.mut n, .int k, .int slack] st = .ok (.tup [tupI ts, bagD b]) st' ∧ Pool n st' ∧ Trk ts ∧ ts.length ≤ 4 ∧ (∀ x ∈ ts, 1 ≤ x ∧ x ≤ 3) ∧ b.length = k ∧ RowOk ts b ∧ ∀ p ∈ b, p.1 ≤ 3 + 25 * k := by
  obtain ⟨v, s1, e1, v0, v1, hp1, ef1⟩ := hB (m := 4) hp (by omega) (by omega)
  obtain ⟨u, rfl⟩ := Int.eq_ofNat_of_zero_le v0
  have k1 : (1 : Int) + u = ((u + 1 : Nat) : Int) := by push_cast; omega
  obtain ⟨s2, acc, e2, ts, rfl, hts, hlt, hp2, ef2⟩ := lc_inv (t := .nm 7) (tt := yesB) (fe := smFe FB) (envw := [some (.mut n), some (.int k), some (.int slack), none, none, none, none, none, none])
    (fun j s acc => ∃ ts : List Int, acc = ts.map D.int ∧ (∀ x ∈ ts, 1 ≤ x ∧ x ≤ 3) ∧ ts.length = j ∧ Pool n s ∧ Eff n s1 s) (rangeD 0 (u + 1)) 0 s1 [] ⟨[], rfl, by simp, rfl, hp1, .refl⟩
    (by
      rintro j x s acc hx ⟨ts, rfl, h1, h2, hp, ef⟩
      obtain ⟨rfl, hj⟩ := range_get hx
      obtain ⟨g, s2, e2, g0, g1, hp2, ef2⟩ := hB (m := 3) hp (by omega) (by omega)
      refine ⟨s2, (ts ++ [1 + g]).map D.int, fun kk => ?_, ts ++ [1 + g], rfl, fun p hp => ?_, by simp [h2], hp2, ef.trans ef2⟩
      · rw [turnC_yes (y := .int (1 + g)) (st' := s2) (env1 := [some (.mut n), some (.int k), some (.int slack), none, none, none, none, some (.int (0 + j)), none]) (by simp) (by simp [smFe, e2]) (by simp; omega)]
        simp
      · rcases List.mem_append.mp hp with hp | hp
        · exact h1 p hp
        · rw [List.mem_singleton.mp hp]; omega)
  rw [rangeD_length] at hlt
  have hT : Trk ts := ⟨by omega, by omega, fun x hx => (hts x hx).1⟩
  have h0 : 0 < ts.length := hT.pos
  obtain ⟨t, s3, e3, t0, t1, hp3, ef3⟩ := hB (m := 4) hp2 (by omega) (by omega)
  obtain ⟨mi, s4, e4, m0, m1, hp4, ef4⟩ := hB (m := ts.length) hp3 (by omega) (by omega)
  obtain ⟨m, rfl⟩ := Int.eq_ofNat_of_zero_le m0
  have hn : n < s4.length := by obtain ⟨a, b, c, h⟩ := hp4; exact (List.getElem?_eq_some_iff.mp h).1
  have hp5 : Pool n (s4 ++ [.lst []]) := by
    obtain ⟨a, b, c, h⟩ := hp4
    exact ⟨a, b, c, by rw [List.getElem?_append_left hn]; exact h⟩
  have mo : MatOk ts (t, (m : Int)) := ⟨t0, by show (0 : Int) ≤ (m : Int); omega, by show (m : Int) < _; omega⟩
  obtain ⟨env', s', e, b, t', m', o7, o8, rfl, h⟩ := loop_nx (g := tgT (.nm 7)) (body := smBody FB)
    (fun j env s => ∃ (b : List P2) (t : Int) (m : Nat) (o7 o8 : Option D), env = [some (.mut n), some (.int k), some (.int slack), some (tupI ts), some (.int t), some (.int (m : Nat)), some (.mut s4.length), o7, o8] ∧ SmRow ts n s4.length j b t m s)
    (xs := rangeD 0 k) (env := [some (.mut n), some (.int k), some (.int slack), some (tupI ts), some (.int t), some (.int m), some (.mut s4.length), none, none]) (st := s4 ++ [.lst []])
    ⟨[], t, m, none, none, rfl, ⟨hp5, by simp, rfl, ⟨by simpa using mo, by simp [RowP]⟩, by omega, by simp; omega⟩⟩
    (by
      rintro j x env s hx ⟨b, t, m, o7, o8, rfl, h⟩
      obtain ⟨rfl, hj⟩ := range_get hx
      obtain ⟨b', t', m', q8, st', e, h'⟩ := sm_turn hB hT (by omega) hts hsl hs7 (by omega) (by omega) h (some (.int k)) (some (.int (0 + j))) o8
      refine ⟨_, st', ?_, b', t', m', some (.int (0 + j)), q8, rfl, h'⟩
      simp only [Int.zero_add] at e ⊢
      simp [e])
  rw [rangeD_length] at h
  have hat := h.at_
  have tf : tupleF [.mut s4.length] s' = .ok (bagD b) s' := by
    show (match seqOf (.mut s4.length) s' with | some xs => _ | none => _) = _
    have : seqOf (.mut s4.length) s' = some (b.map pairD) := by simp [seqOf, hat]
    rw [this]; rfl
  have tf1 : tupleF [.lst (ts.map D.int)] s2 = .ok (tupI ts) s2 := rfl
  refine ⟨ts, b, s', ?_, h.pool, hT, by omega, hts, h.len, ⟨fun p hp => h.ok.ok p (by simp [hp]), h.ok.row.sublist (List.sublist_append_left _ _)⟩, fun p hp => h.le p (by simp [hp])⟩
  have k8 : k < 4611686018427387904 := by omega
  have k9 : (((u + 1 : Nat) : Int)).natAbs < 4611686018427387904 := by omega
  have k10 : u + 1 < 4611686018427387904 := by omega
  have ln : lenF [tupI ts] s3 = .ok (.int ts.length) s3 := by simp [tupI]
  have ps : ∀ (env : G.Env) (st : Sto) (fs : EvA), parS3 4 5 6 fs env st = bindS (fs env st) env fun as s1 => match as with
    | [a, b, c] => .nx (((env.set 4 (some a)).set 5 (some b)).set 6 (some c)) s1
    | _ => .fail := fun _ _ _ => rfl
  generalize tupI ts = tsd at *
  simp [-Int.natCast_add, ln, ps, runF, smallA, e1, k1, k9, k10, e2, tf1, e3, e4, k8, e, tf]
end Lap

namespace Lap
open PySem G
/-! tracks turned, backward, with a mat left out -/
def preI (ts : List Int) (k : Nat) : Int := (ts.take k).sum
theorem walk_pre (ts : List Int) (k : Nat) (h0 : 0 < ts.length) (hk : k ≤ ts.length) : walkI ts 0 k = preI ts k := by
  have := rest_eq ts 0 k h0 hk
  rw [List.drop_zero, List.take_zero, List.append_nil] at this
  unfold preI walkI; rw [this]
theorem way_pre {ts : List Int} {m o : Nat} (hm : m < ts.length) (ho : o < ts.length) : wayI ts m o = preI ts o - preI ts m + if m < o then 0 else ts.sum := by
  have h0 : 0 < ts.length := by omega
  unfold wayI
  rcases steps_cases hm ho with ⟨h, e⟩ | ⟨h, e⟩
  · rw [e, if_pos h]
    have := walk_add ts 0 m (o - m)
    rw [show m + (o - m) = o by omega, walk_pre ts o h0 (by omega), walk_pre ts m h0 (by omega), Nat.zero_add] at this
    omega
  · rw [e, if_neg (by omega)]
    have h1 := walk_add ts 0 m (o + ts.length - m)
    rw [show m + (o + ts.length - m) = o + ts.length by omega, walk_pre ts m h0 (by omega), Nat.zero_add] at h1
    have h2 := walk_add ts 0 o ts.length
    rw [walk_round ts _ h0, walk_pre ts o h0 (by omega)] at h2
    omega
def turnL (ts : List Int) (k : Nat) : List Int := ts.drop k ++ ts.take k
theorem turn_len (ts : List Int) (k : Nat) (h : k < ts.length) : (turnL ts k).length = ts.length := by unfold turnL; simp; omega
theorem turn_at {ts : List Int} {k : Nat} (h : k < ts.length) (i : Nat) : at_ (turnL ts k) i = at_ ts (k + i) := by
  have hi := Nat.mod_lt i (show 0 < ts.length by omega)
  have e := rest_eq ts k ts.length h (Nat.le_refl _)
  rw [List.take_of_length_le (by simp; omega)] at e
  have e2 : turnL ts k = (List.range ts.length).map fun i => at_ ts (k + i) := e
  unfold at_
  rw [turn_len ts k h]
  conv => lhs; rw [e2]
  rw [List.getD_eq_getElem?_getD, List.getElem?_map, List.getElem?_range hi, Option.map_some, Option.getD_some]
  unfold at_
  rw [Nat.add_mod_mod]
theorem turn_walk {ts : List Int} {k : Nat} (h : k < ts.length) (m n : Nat) : walkI (turnL ts k) m n = walkI ts (k + m) n := by
  unfold walkI
  congr 1
  apply List.map_congr_left
  intro i _
  rw [turn_at h, Nat.add_assoc]
theorem turn_trk {ts : List Int} {w : Int} {k : Nat} (h : DT ts w) (hk : k < ts.length) : DT (turnL ts k) w := by
  refine .of h.w (by rw [turn_len ts k hk]; exact h.t.pos) (by rw [turn_len ts k hk]; have := h.t.le; omega) fun x hx => ?_
  unfold turnL at hx
  rcases List.mem_append.mp hx with hx | hx
  · exact h.b x (List.mem_of_mem_drop hx)
  · exact h.b x (List.mem_of_mem_take hx)
theorem turn_sum (ts : List Int) (k : Nat) : (turnL ts k).sum = ts.sum := sum_perm ts k
theorem mod_two {M x : Nat} (h : x < 2 * M) : x % M = if x < M then x else x - M := by
  split
  · rename_i q; exact Nat.mod_eq_of_lt q
  · rw [Nat.mod_eq_sub_mod (by omega), Nat.mod_eq_of_lt (by omega)]
theorem turn_steps {M m o k : Nat} (hm : m < M) (ho : o < M) : stepsN M ((m + k) % M) ((o + k) % M) = stepsN M m o := by
  have h0 : 0 < M := by omega
  have hk := Nat.mod_lt k h0
  rw [← Nat.add_mod_mod m k, ← Nat.add_mod_mod o k]
  generalize k % M = k' at *
  have a := Nat.mod_lt (m + k') h0
  have b := Nat.mod_lt (o + k') h0
  have ea := mod_two (M := M) (x := m + k') (by omega)
  have eb := mod_two (M := M) (x := o + k') (by omega)
  generalize (m + k') % M = m' at *
  generalize (o + k') % M = o' at *
  rcases steps_cases hm ho with ⟨h, e⟩ | ⟨h, e⟩ <;> rcases steps_cases a b with ⟨h2, e2⟩ | ⟨h2, e2⟩ <;> split at ea <;> split at eb <;> omega
theorem turn_way {ts : List Int} {m o k : Nat} (hm : m < ts.length) (ho : o < ts.length) : wayI (turnL ts (k % ts.length)) m o = wayI ts ((m + k) % ts.length) ((o + k) % ts.length) := by
  have h0 : 0 < ts.length := by omega
  have hk := Nat.mod_lt k h0
  unfold wayI
  rw [turn_len ts _ hk, turn_walk hk, turn_steps hm ho, ← walk_mod ts (k % ts.length + m), Nat.mod_add_mod, Nat.add_comm k m]
theorem turn_walk' {ts : List Int} {k : Nat} (h0 : 0 < ts.length) (m n : Nat) : walkI (turnL ts (k % ts.length)) m n = walkI ts ((m + k) % ts.length) n := by
  rw [turn_walk (Nat.mod_lt k h0), ← walk_mod ts (k % ts.length + m), Nat.mod_add_mod, Nat.add_comm k m]
theorem turn_most {ts : List Int} {w : Int} (h : DT ts w) {m k : Nat} (hm : m < ts.length) (t : Nat) : mostI (turnL ts (k % ts.length)) m t = mostI ts ((m + k) % ts.length) t := by
  have h0 : 0 < ts.length := h.t.pos
  have hk := Nat.mod_lt k h0
  obtain ⟨a, b⟩ := most_spec (turn_trk h hk).t (m := m) (by rw [turn_len ts _ hk]; exact hm) t
  rw [turn_walk' h0] at a b
  exact (most_eq h.t (Nat.mod_lt _ h0) a b).symm
/-! backward -/
theorem pre_rev (ts : List Int) (k : Nat) (hk : k ≤ ts.length) : preI ts.reverse k = ts.sum - preI ts (ts.length - k) := by
  unfold preI
  rw [List.take_reverse, List.sum_reverse]
  have := List.take_append_drop (ts.length - k) ts
  conv => rhs; arg 1; rw [← this, List.sum_append]
  omega
theorem rev_way {ts : List Int} {m o : Nat} (hm : m < ts.length) (ho : o < ts.length) : wayI ts.reverse ((ts.length - m) % ts.length) ((ts.length - o) % ts.length) = wayI ts o m := by
  have h0 : 0 < ts.length := by omega
  have e : ∀ x, x < ts.length → (ts.length - x) % ts.length = if x = 0 then 0 else ts.length - x := fun x hx => by
    split
    · rename_i q; subst q; simp
    · exact Nat.mod_eq_of_lt (by omega)
  have a := Nat.mod_lt (ts.length - m) h0
  have b := Nat.mod_lt (ts.length - o) h0
  rw [way_pre (by simpa using a) (by simpa using b), way_pre ho hm, pre_rev ts _ (by omega), pre_rev ts _ (by omega), List.sum_reverse]
  have hM : preI ts ts.length = ts.sum := by unfold preI; rw [List.take_length]
  have hz : preI ts 0 = 0 := rfl
  rw [e m hm, e o ho]
  by_cases m0 : m = 0 <;> by_cases o0 : o = 0
  · subst m0 o0; simp
  · subst m0
    rw [if_pos rfl, if_neg o0, show ts.length - (ts.length - o) = o by omega, Nat.sub_zero, hM, hz]
    rw [if_pos (by omega), if_neg (by omega)]; omega
  · subst o0
    rw [if_neg m0, if_pos rfl, show ts.length - (ts.length - m) = m by omega, Nat.sub_zero, hM, hz]
    rw [if_neg (by omega), if_pos (by omega)]; omega
  · rw [if_neg m0, if_neg o0, show ts.length - (ts.length - o) = o by omega, show ts.length - (ts.length - m) = m by omega]
    by_cases q : o < m
    · rw [if_pos q, if_pos (by omega)]; omega
    · rw [if_neg q, if_neg (by omega)]; omega
theorem rev_trk {ts : List Int} {w : Int} (h : DT ts w) : DT ts.reverse w := by
  refine .of h.w (by rw [List.length_reverse]; exact h.t.pos) (by rw [List.length_reverse]; have := h.t.le; omega) fun x hx => h.b x (List.mem_reverse.mp hx)
/-! a mat left out -/
def lessL (ts : List Int) (g : Nat) : List Int :=
  if g = 0 then (ts.drop 1).take (ts.length - 2) ++ [ts.getD (ts.length - 1) 0 + ts.getD 0 0] else ts.take (g - 1) ++ [ts.getD (g - 1) 0 + ts.getD g 0] ++ ts.drop (g + 1)
theorem less_len {ts : List Int} {g : Nat} (h2 : 2 ≤ ts.length) (hg : g < ts.length) : (lessL ts g).length = ts.length - 1 := by
  unfold lessL
  split <;> simp <;> omega
theorem pre_succ (ts : List Int) (k : Nat) (hk : k < ts.length) : preI ts (k + 1) = preI ts k + ts.getD k 0 := by
  unfold preI
  rw [List.take_succ, List.sum_append, List.getD_eq_getElem?_getD, List.getElem?_eq_getElem hk]; simp
/-- where a mat of the track without g lies -/
theorem less_pre {ts : List Int} {g : Nat} (h2 : 2 ≤ ts.length) (hg : g < ts.length) (i : Nat) (hi : i < ts.length - 1) :
    preI (lessL ts g) i = preI ts (if i < g then i else i + 1) - if g = 0 then ts.getD 0 0 else 0 := by
  unfold lessL
  by_cases g0 : g = 0
  · subst g0
    rw [if_pos rfl, if_pos rfl, if_neg (by omega)]
    have h1 := pre_succ ts 0 (by omega)
    have hd : ∀ j, j ≤ ts.length - 1 → ((ts.drop 1).take j).sum = preI ts (j + 1) - ts.getD 0 0 := fun j hj => by
      cases ts with
      | nil => simp at h2
      | cons x r => unfold preI; simp; omega
    unfold preI
    rw [List.take_append_of_le_length (by simp; omega), List.take_take, Nat.min_eq_left (by omega), hd i (by omega)]; rfl
  · rw [if_neg g0, if_neg g0]
    unfold preI
    by_cases q : i < g
    · rw [if_pos q, List.append_assoc, List.take_append_of_le_length (by simp; omega), List.take_take, Nat.min_eq_left (by omega)]; simp
    · rw [if_neg q]
      have e1 := pre_succ ts (g - 1) (by omega)
      have e2 := pre_succ ts g hg
      rw [show g - 1 + 1 = g by omega] at e1
      rw [List.take_append, List.take_of_length_le (by simp; omega), List.sum_append, List.sum_append]
      have e3 : (ts.take (i + 1)).sum = (ts.take (g + 1)).sum + ((ts.drop (g + 1)).take (i - g)).sum := by
        rw [← List.sum_append, ← List.take_add]; congr 2; omega
      rw [e3]
      unfold preI at e1 e2
      rw [show i - (List.take (g - 1) ts ++ [ts.getD (g - 1) 0 + ts.getD g 0]).length = i - g by simp; omega]
      simp only [List.sum_cons, List.sum_nil]
      omega
theorem less_sum {ts : List Int} {g : Nat} (h2 : 2 ≤ ts.length) (hg : g < ts.length) : (lessL ts g).sum = ts.sum := by
  have hM : preI ts ts.length = ts.sum := by unfold preI; rw [List.take_length]
  have e2 := pre_succ ts (ts.length - 1) (by omega)
  rw [show ts.length - 1 + 1 = ts.length by omega, hM] at e2
  by_cases g0 : g = 0
  · have h1 := less_pre h2 hg (ts.length - 2) (by omega)
    rw [if_neg (by omega), if_pos g0, show ts.length - 2 + 1 = ts.length - 1 by omega] at h1
    have e : (lessL ts g).sum = preI (lessL ts g) (ts.length - 2) + (ts.getD (ts.length - 1) 0 + ts.getD 0 0) := by
      unfold preI lessL
      rw [if_pos g0, List.sum_append, List.take_append_of_le_length (by simp; omega), List.take_take, Nat.min_self]; simp
    omega
  · have e1 := pre_succ ts (g - 1) (by omega)
    have e3 := pre_succ ts g hg
    rw [show g - 1 + 1 = g by omega] at e1
    have e4 := List.take_append_drop (g + 1) ts
    have e5 : ts.sum = preI ts (g + 1) + (ts.drop (g + 1)).sum := by
      conv => lhs; rw [← e4, List.sum_append]
      rfl
    unfold lessL
    rw [if_neg g0, List.sum_append, List.sum_append]
    unfold preI at e1 e3 e5
    simp only [List.sum_cons, List.sum_nil]
    omega
/-- ways of the mats that stay -/
def lessM (g m : Nat) : Nat := if g < m then m - 1 else m
theorem less_way {ts : List Int} {g m o : Nat} (h2 : 2 ≤ ts.length) (hg : g < ts.length) (hm : m < ts.length) (ho : o < ts.length) (gm : g ≠ m) (go : g ≠ o) :
    wayI (lessL ts g) (lessM g m) (lessM g o) = wayI ts m o := by
  have a : lessM g m < ts.length - 1 := by unfold lessM; split <;> omega
  have b : lessM g o < ts.length - 1 := by unfold lessM; split <;> omega
  rw [way_pre (by rw [less_len h2 hg]; exact a) (by rw [less_len h2 hg]; exact b), way_pre hm ho, less_pre h2 hg _ a, less_pre h2 hg _ b, less_sum h2 hg]
  have ea : (if lessM g m < g then lessM g m else lessM g m + 1) = m := by unfold lessM; split <;> split <;> omega
  have eb : (if lessM g o < g then lessM g o else lessM g o + 1) = o := by unfold lessM; split <;> split <;> omega
  have ec : (lessM g m < lessM g o) ↔ (m < o) := by unfold lessM; split <;> split <;> omega
  rw [ea, eb]
  by_cases q : m < o
  · rw [if_pos q, if_pos (ec.mpr q)]; omega
  · rw [if_neg q, if_neg (fun z => q (ec.mp z))]; omega
theorem less_steps {M g m o : Nat} (hg : g < M) (hm : m < M) (ho : o < M) (gm : g ≠ m) (go : g ≠ o) :
    (stepsN (M - 1) (lessM g m) (lessM g o) : Int) = stepsN M m o - (if ((g : Int) - m) % M < ((o : Int) - m) % M ∨ m = o then 1 else 0) := by
  have a : lessM g m < M - 1 := by unfold lessM; split <;> omega
  have b : lessM g o < M - 1 := by unfold lessM; split <;> omega
  have ex : ∀ x : Nat, x < M → ((x : Int) - m) % M = if m ≤ x then (x : Int) - m else x - m + M := fun x hx => by
    split
    · exact Int.emod_eq_of_lt (by omega) (by omega)
    · rw [← Int.add_emod_right]; exact Int.emod_eq_of_lt (by omega) (by omega)
  rw [ex g hg, ex o ho]
  rcases steps_cases hm ho with ⟨h, e⟩ | ⟨h, e⟩ <;> rcases steps_cases a b with ⟨h2, e2⟩ | ⟨h2, e2⟩ <;> rw [e, e2] <;> unfold lessM at * <;> split at h2 <;> split at h2 <;> (repeat' split) <;> omega
theorem less_trk {ts : List Int} {w : Int} {g : Nat} (h : DT ts w) (h2 : 2 ≤ ts.length) (hg : g < ts.length) : DT (lessL ts g) (2 * w) := by
  have hw := h.w
  have h8 := h.t.le
  refine .of (by omega) (by rw [less_len h2 hg]; omega) (by rw [less_len h2 hg]; omega) fun x hx => ?_
  have old : ∀ j, j < ts.length → 1 ≤ ts.getD j 0 ∧ ts.getD j 0 ≤ w := fun j hj => by
    rw [List.getD_eq_getElem?_getD, List.getElem?_eq_getElem hj]; exact h.b _ (List.getElem_mem hj)
  unfold lessL at hx
  split at hx
  · rcases List.mem_append.mp hx with hx | hx
    · have := h.b x (List.mem_of_mem_drop (List.mem_of_mem_take hx)); omega
    · have := old (ts.length - 1) (by omega)
      have := old 0 (by omega)
      simp only [List.mem_singleton] at hx; omega
  · rcases List.mem_append.mp hx with hx | hx
    · rcases List.mem_append.mp hx with hx | hx
      · have := h.b x (List.mem_of_mem_take hx); omega
      · have := old (g - 1) (by omega)
        have := old g hg
        simp only [List.mem_singleton] at hx; omega
    · have := h.b x (List.mem_of_mem_drop hx); omega
section
variable (st : Sto)
theorem f_track_turned {ts : List Int} (h : Trk ts) (k : Nat) : F_track_turned [tupI ts, .int k] st = .ok (tupI (turnL ts (k % ts.length))) st := by
  have h0 : 0 < ts.length := h.pos
  have h8 := h.le
  have e : F_sectors_from [tupI ts, .int ((k % ts.length : Nat) : Int)] st = _ := f_sectors_from st ts (k % ts.length) (by omega)
  have e2 : (k : Int) % (ts.length : Int) = ((k % ts.length : Nat) : Int) := by simp
  have e3 : F_track_turned_by [tupI ts, .int k] st = .ok (tupI (turnL ts (k % ts.length))) st := by
    simp [-Int.natCast_emod, F_track_turned_by, runF, B_track_turned_by, h0, e2, e, turnL]
  simp [F_track_turned, runF, B_track_turned, f_check_track st h, f_check_from_nought, e3]
theorem f_track_backward {ts : List Int} (h : Trk ts) : F_track_backward [tupI ts] st = .ok (tupI ts.reverse) st := by
  have e3 : F_track_backward_by [tupI ts] st = .ok (tupI ts.reverse) st := by
    simp [F_track_backward_by, runF, B_track_backward_by, tupI]
  simp [F_track_backward, runF, B_track_backward, f_check_track st h, e3]
theorem add_tupI (xs ys : List Int) (h : xs.length + ys.length ≤ 16777216) : addD (tupI xs) (tupI ys) st = .ok (tupI (xs ++ ys)) st := by
  unfold tupI addD
  simp [h]
theorem add_tupI1 (xs : List Int) (y : Int) (h : xs.length < 16777216) : addD (tupI xs) (.tup [.int y]) st = .ok (tupI (xs ++ [y])) st := add_tupI st xs [y] (by simp; omega)
theorem ix_last (ts : List Int) (h : 0 < ts.length) : ixD (tupI ts) (.int (-1)) st = .ok (.int (ts.getD (ts.length - 1) 0)) st := by
  refine ixD_tup _ _ _ ?_
  unfold L2.atI L2.ixN
  have h1 : ts.length - 1 < ts.length := by omega
  have hz : ((-1 : Int) + (ts.length : Int)).toNat = ts.length - 1 := by omega
  rw [List.length_map, if_neg (by omega), if_pos (by omega)]
  have hz' : ((ts.length : Int) + -1).toNat = ts.length - 1 := by omega
  simp [hz, hz', h1]
theorem cut_mid (ts : List Int) (h : 2 ≤ ts.length) : cutL ts (some 1) (some (-1)) = (ts.drop 1).take (ts.length - 2) := by
  unfold cutL HT.sIx
  have hz : min 1 ts.length = 1 := by omega
  have hy : ((-1 : Int) + (ts.length : Int)).toNat = ts.length - 1 := by omega
  simp [hz, hy]
  omega
theorem f_track_without {ts : List Int} (h : Trk ts) (h2 : 2 ≤ ts.length) {g : Nat} (hg : g < ts.length) : F_track_without [tupI ts, .int g] st = .ok (tupI (lessL ts g)) st := by
  have h8 := h.le
  have e1 : ixD (tupI ts) (.int g) st = .ok (.int (ts.getD g 0)) st := by
    have := ixD_tupI st ts (g : Int) (by omega) (by omega); rwa [Int.toNat_natCast] at this
  have h1 : ¬ ((ts.length : Int) = 1) := by omega
  have e5 : F_track_without_by [tupI ts, .int g] st = .ok (tupI (lessL ts g)) st := by
    by_cases g0 : g = 0
    · subst g0
      have e2 := ix_last st ts (by omega)
      have e3 := cut_mid ts h2
      have e4 := add_tupI1 st ((ts.drop 1).take (ts.length - 2)) (ts.getD (ts.length - 1) 0 + ts.getD 0 0) (by simp; omega)
      simp only [Int.natCast_zero] at e1
      unfold lessL
      rw [if_pos rfl]
      generalize ts.getD 0 0 = x0 at *
      generalize ts.getD (ts.length - 1) 0 = x1 at *
      simp [-List.drop_one, F_track_without_by, runF, B_track_without_by, e1, e2, e3, e4]
    · have g1 : ((g : Int) - 1) = ((g - 1 : Nat) : Int) := by omega
      have g2 : ((g : Int) + 1) = ((g + 1 : Nat) : Int) := by omega
      have g3 : ¬ ((g : Int) = 0) := by omega
      have e2 : ixD (tupI ts) (.int ((g - 1 : Nat) : Int)) st = .ok (.int (ts.getD (g - 1) 0)) st := by
        have := ixD_tupI st ts ((g - 1 : Nat) : Int) (by omega) (by omega); rwa [Int.toNat_natCast] at this
      have e4 := add_tupI1 st (ts.take (g - 1)) (ts.getD (g - 1) 0 + ts.getD g 0) (by simp; omega)
      have e6 := add_tupI st (ts.take (g - 1) ++ [ts.getD (g - 1) 0 + ts.getD g 0]) (ts.drop (g + 1)) (by simp; omega)
      have e7 := cutL_to ts (g - 1)
      have e8 := cutL_from ts (g + 1)
      unfold lessL
      rw [if_neg g0]
      generalize ts.getD g 0 = x0 at *
      generalize ts.getD (g - 1) 0 = x1 at *
      simp [-Int.natCast_add, F_track_without_by, runF, B_track_without_by, e1, e2, g1, g2, g3, e4, e6, e7, e8]
      simp [g0]
  have e9 : F_check_more [tupI ts] st = .ok .non st := by simp [F_check_more, runF, B_check_more, h1]
  simp [F_track_without, runF, B_track_without, f_check_track st h, f_check_mat st hg, e9, e5]
end
end Lap

namespace Lap
open PySem G
/-! crossings missed -/
def addAt (l : List Int) (i : Nat) : List Int := l.set i (l.getD i 0 + 1)
def bumps (l : List Int) (is : List Nat) : List Int := is.foldl addAt l
theorem bumps_len (is : List Nat) : ∀ l, (bumps l is).length = l.length := by
  induction is with
  | nil => intro l; rfl
  | cons i is ih => intro l; show (bumps (addAt l i) is).length = _; rw [ih]; simp [addAt]
theorem bumps_get (is : List Nat) : ∀ (l : List Int) (j : Nat), j < l.length → (bumps l is).getD j 0 = l.getD j 0 + (is.count j : Nat) := by
  induction is with
  | nil => intro l j _; simp [bumps]
  | cons i is ih =>
    intro l j hj
    show (bumps (addAt l i) is).getD j 0 = _
    rw [ih (addAt l i) j (by simpa [addAt] using hj)]
    unfold addAt
    by_cases h : i = j
    · subst h
      simp [List.getD_eq_getElem?_getD, hj, List.count_cons]
      omega
    · have h' : ¬ j = i := fun z => h z.symm
      simp [List.getD_eq_getElem?_getD, List.getElem?_set_ne h, List.count_cons, h, h']
/-- the mats of so many steps from a mat on, the last one left out -/
def stepL (M m n : Nat) : List Nat := (List.range (n - 1)).map fun k => (m + (k + 1)) % M
def betweenL (M : Nat) (g : P2 × P2) : List Nat := stepL M g.1.2.toNat (stepsN M g.1.2.toNat g.2.2.toNat)
theorem count_round {M : Nat} (hM : 0 < M) (m i : Nat) (hi : i < M) : ((List.range M).map fun k => (m + k) % M).count i = 1 := by
  have hinj : ∀ a ∈ List.range M, ∀ b ∈ List.range M, (m + a) % M = (m + b) % M → a = b := fun a ha b hb h => by
    have ha := List.mem_range.mp ha
    have hb := List.mem_range.mp hb
    have d1 := Nat.div_add_mod (m + a) M
    have d2 := Nat.div_add_mod (m + b) M
    rw [h] at d1
    generalize (m + b) % M = r at *
    generalize (m + a) / M = x at *
    generalize (m + b) / M = y at *
    rcases Nat.lt_trichotomy x y with g | g | g
    · have := Nat.mul_le_mul_left M (show x + 1 ≤ y from g)
      rw [Nat.mul_add, Nat.mul_one] at this
      omega
    · subst g; omega
    · have := Nat.mul_le_mul_left M (show y + 1 ≤ x from g)
      rw [Nat.mul_add, Nat.mul_one] at this
      omega
  have nd : ((List.range M).map fun k => (m + k) % M).Nodup := by
    unfold List.Nodup
    rw [List.pairwise_map]
    exact List.Pairwise.imp_of_mem (fun {a b} ha hb hne h => hne (hinj a ha b hb h)) (List.nodup_range (n := M))
  have mem : i ∈ (List.range M).map fun k => (m + k) % M := by
    rw [List.mem_map]
    refine ⟨(i + M - m % M) % M, List.mem_range.mpr (Nat.mod_lt _ hM), ?_⟩
    have hm := Nat.mod_lt m hM
    rw [Nat.add_mod_mod, Nat.add_mod]
    have e : m % M + (i + M - m % M) % M = m % M + (i + M - m % M) % M := rfl
    have : (m + (i + M - m % M)) % M = i := by
      have d := Nat.div_add_mod m M
      rw [show m + (i + M - m % M) = i + M * (m / M + 1) by rw [Nat.mul_add, Nat.mul_one]; omega, Nat.add_mul_mod_self_left, Nat.mod_eq_of_lt hi]
    rw [← Nat.add_mod]; exact this
  rw [nd.count, if_pos mem]
theorem stepL_add {M : Nat} (hM : 0 < M) (m n f : Nat) (hn : 1 ≤ n) (i : Nat) (hi : i < M) : (stepL M m (n + f * M)).count i = (stepL M m n).count i + f := by
  induction f with
  | zero => simp
  | succ f ih =>
    have e : n + (f + 1) * M - 1 = (n + f * M - 1) + M := by rw [Nat.add_mul, Nat.one_mul]; omega
    unfold stepL at *
    rw [e, List.range_add, List.map_append, List.count_append, ih, List.map_map]
    have : (List.map ((fun k => (m + (k + 1)) % M) ∘ fun x => n + f * M - 1 + x) (List.range M)) = (List.range M).map fun k => (m + (n + f * M) + k) % M := by
      apply List.map_congr_left
      intro k _
      simp only [Function.comp]
      congr 1
      omega
    rw [this, count_round hM _ i hi]
    omega
def missF (M : Nat) (gs : List (P2 × P2)) (s : Int) (i : Nat) : Int := s + (gs.map fun g => ((betweenL M g).count i : Int)).sum
def missL (M : Nat) (gs : List (P2 × P2)) (s : Int) : List Int := (List.range M).map (missF M gs s)
theorem miss_len (M : Nat) (gs : List (P2 × P2)) (s : Int) : (missL M gs s).length = M := by simp [missL]
theorem miss_get {M : Nat} {gs : List (P2 × P2)} {s : Int} {i : Nat} (h : i < M) : (missL M gs s).getD i 0 = missF M gs s i := by
  unfold missL; simp [List.getD_eq_getElem?_getD, h]
theorem list_eqI {a b : List Int} (hl : a.length = b.length) (h : ∀ i, i < a.length → a.getD i 0 = b.getD i 0) : a = b := by
  refine List.ext_getElem hl fun i h1 h2 => ?_
  have := h i h1
  simpa [List.getD_eq_getElem?_getD, h1, h2] using this
theorem miss_nil (M : Nat) (s : Int) : missL M [] s = List.replicate M s := by
  refine list_eqI (by simp [missL]) fun i hi => ?_
  rw [miss_len] at hi
  rw [miss_get hi]
  simp [missF, List.getD_eq_getElem?_getD, hi]
theorem miss_snoc (M : Nat) (gs : List (P2 × P2)) (g : P2 × P2) (s : Int) : missL M (gs ++ [g]) s = bumps (missL M gs s) (betweenL M g) := by
  refine list_eqI (by rw [bumps_len, miss_len, miss_len]) fun i hi => ?_
  rw [miss_len] at hi
  rw [miss_get hi, bumps_get _ _ _ (by rw [miss_len]; exact hi), miss_get hi]
  unfold missF
  simp [List.map_append, List.sum_append]
  omega
theorem mem_stepL {M : Nat} (hM : 0 < M) {m n j : Nat} (h : j ∈ stepL M m n) : j < M := by
  unfold stepL at h
  obtain ⟨k, _, rfl⟩ := List.mem_map.mp h
  exact Nat.mod_lt _ hM
/-! the program -/
theorem setD_at {st : Sto} {q : Nat} {l : List Int} {i : Nat} (h : st[q]? = some (.lst (l.map D.int))) (hi : i < l.length) (v : Int) : setD (.mut q) (.int i) (.int v) st = some (st.set q (.lst ((l.set i v).map D.int))) := by
  have := setD_mut (d := .int v) h (j := i) (k := (i : Int)) (by unfold L2.ixN; simp [hi])
  rw [this, List.map_set]
theorem ix_mutI {st : Sto} {q : Nat} {l : List Int} {i : Nat} (h : st[q]? = some (.lst (l.map D.int))) (hi : i < l.length) : ixD (.mut q) (.int i) st = .ok (.int (l.getD i 0)) st := by
  show (match (seqOf (.mut q) st).bind fun xs => L2.atI xs (i : Int) with | some d => R.ok d st | none => .fail) = _
  have : seqOf (.mut q) st = some (l.map D.int) := by simp [seqOf, h]
  rw [this, Option.bind_some, atI_nat' _ i (by simpa using hi)]
  simp [List.getD_eq_getElem?_getD, hi]
/-- a loop that adds one at each index -/
theorem bump_loop {g : TgF} {body : SvS} {q : Nat} (Env0 : G.Env → Prop) {st0 : Sto} (l0 : List Int) (is : List Nat) (xs : List D) (hx : xs.length = is.length) (h : ∀ i ∈ is, i < l0.length) {env : G.Env} {st : Sto} (he : Env0 env) (hq : st[q]? = some (.lst (l0.map D.int))) (hk : ∀ k, k ≠ q → st[k]? = st0[k]?) (hl : st.length = st0.length)
    (step : ∀ (j : Nat) (x : D) (i : Nat) (l : List Int) (env : G.Env) (s : Sto), xs[j]? = some x → is[j]? = some i → Env0 env → s[q]? = some (.lst (l.map D.int)) → i < l.length → ∃ env', bindS (g x env s) env body = .nx env' (s.set q (.lst ((addAt l i).map D.int))) ∧ Env0 env') :
    ∃ env' st', loopF g body xs env st = .nx env' st' ∧ Env0 env' ∧ st'[q]? = some (.lst ((bumps l0 is).map D.int)) ∧ (∀ k, k ≠ q → st'[k]? = st0[k]?) ∧ st'.length = st0.length := by
  have key := loop_nx (g := g) (body := body) (fun j env s => Env0 env ∧ s[q]? = some (.lst ((bumps l0 (is.take j)).map D.int)) ∧ (∀ k, k ≠ q → s[k]? = st0[k]?) ∧ s.length = st0.length) (xs := xs) (env := env) (st := st) ⟨he, hq, hk, hl⟩
    (by
      rintro j x env s hxj ⟨he, hq, hk, hl⟩
      have hj := (List.getElem?_eq_some_iff.mp hxj).1
      have hi : is[j]? = some is[j] := List.getElem?_eq_getElem (by omega)
      obtain ⟨env', e, he'⟩ := step j x is[j] _ env s hxj hi he hq (by rw [bumps_len]; exact h _ (List.getElem_mem _))
      have hql := (List.getElem?_eq_some_iff.mp hq).1
      refine ⟨env', _, e, he', ?_, fun k hk2 => ?_, by simpa using hl⟩
      · rw [List.take_succ, hi]
        have : bumps l0 (is.take j ++ (some is[j]).toList) = addAt (bumps l0 (is.take j)) is[j] := by
          unfold bumps; rw [List.foldl_append]; rfl
        rw [this]
        simp [hql]
      · rw [List.getElem?_set_ne (fun z => hk2 z.symm)]; exact hk k hk2)
  obtain ⟨env', st', e, a, b, c, d⟩ := key
  rw [hx, List.take_length] at b
  exact ⟨env', st', e, a, b, c, d⟩
theorem f_mats_between (st : Sto) {ts : List Int} (hT : Trk ts) {g : P2 × P2} (hp : MatOk ts g.1) (hq : MatOk ts g.2) : F_mats_between [tupI ts, .int g.1.2, .int g.2.2] st = .ok (.lst ((betweenL ts.length g).map fun (i : Nat) => D.int i)) st := by
  have h0 : 0 < ts.length := hT.pos
  have h8 := hT.le
  have m1 : ((g.1.2.toNat : Nat) : Int) = g.1.2 ∧ g.1.2.toNat < ts.length := by have := hp.2; omega
  have m2 : ((g.2.2.toNat : Nat) : Int) = g.2.2 ∧ g.2.2.toNat < ts.length := by have := hq.2; omega
  have e1 := f_steps_by st m1.2 m2.2
  have hr := steps_rng m1.2 m2.2
  unfold betweenL
  rw [m1.1, m2.1] at e1
  generalize stepsN ts.length g.1.2.toNat g.2.2.toNat = S at *
  have lc := lc_typed (t := .nm 3) (fe := binE modD (binE addD (varE 1) (varE 3)) (callE lenF (consA (varE 0) (nilA)))) (envw := [some (tupI ts), some (.int g.1.2), some (.int g.2.2), none]) (st := st) (fun (i : Nat) => D.int (1 + i)) (fun (i : Nat) => D.int (((g.1.2.toNat + (i + 1)) % ts.length : Nat) : Int)) (List.range (S - 1)) [] (by simp; omega) (by
    intro i _
    refine ⟨[some (tupI ts), some (.int g.1.2), some (.int g.2.2), some (.int (1 + i))], by simp, ?_⟩
    have : (g.1.2 + (1 + (i : Int))) % (ts.length : Int) = (((g.1.2.toNat + (i + 1)) % ts.length : Nat) : Int) := by
      rw [← m1.1]
      push_cast
      congr 1
      omega
    generalize (g.1.2.toNat + (i + 1)) % ts.length = z at *
    simp [h0, this])
  rw [List.nil_append, show (List.range (S - 1)).map (fun (i : Nat) => D.int (1 + i)) = rangeD 1 (S - 1) from rfl] at lc
  have er : (stepL ts.length g.1.2.toNat S).map (fun (i : Nat) => D.int i) = (List.range (S - 1)).map (fun (i : Nat) => D.int (((g.1.2.toNat + (i + 1)) % ts.length : Nat) : Int)) := by
    unfold stepL; rw [List.map_map]; rfl
  rw [er]
  have k1 : ((S : Int) - 1).toNat = S - 1 := by omega
  have k2 : S < 4611686018427387904 := by omega
  generalize (List.range (S - 1)).map (fun (i : Nat) => D.int (((g.1.2.toNat + (i + 1)) % ts.length : Nat) : Int)) = l at *
  simp [F_mats_between, runF, B_mats_between, e1, k1, k2, lc]
theorem lcG_typed {α : Type} {n : Nat} {t : Tg} {fe : EvE} {envw : G.Env} {st : Sto} (f h : α → D) (as : List α) (hl : as.length ≤ 16777216) (hst : st[n]? = some (.lst (as.map f))) (hfe : ∀ a ∈ as, ∃ env1, t.set (f a) envw = some env1 ∧ fe env1 st = .ok (h a) st) :
    ∀ (k i : Nat) (acc : List D), i + k = as.length → acc = (as.take i).map h → lcG t yesB fe envw (mutNxt n) k i st acc = .ok (as.map h) st
  | 0, i, acc, hk, ha => by
    have hi : i = as.length := by omega
    unfold lcG mutNxt
    rw [hst, ha, hi, List.take_length]
    simp
  | k + 1, i, acc, hk, ha => by
    have hi : i < as.length := by omega
    have e : mutNxt n i st = some (some (f as[i])) := by unfold mutNxt; rw [hst]; simp [hi]
    obtain ⟨env1, h1, h2⟩ := hfe as[i] (List.getElem_mem hi)
    unfold lcG
    rw [e]
    show turnC _ _ _ _ _ _ _ _ = _
    rw [turnC_yes h1 h2 (by rw [ha]; simp; omega)]
    refine lcG_typed f h as hl hst hfe k (i + 1) _ (by omega) ?_
    rw [ha, List.take_succ, List.getElem?_eq_getElem hi, List.map_append]
    rfl
def mBody6 : SvS := (asgS (binE addD (binE ixD (varE 3) (varE 6)) (cE (.int 1))) (subT (varE 3) (varE 6)))
def mBody4 : SvS := (forS (iterE (callE F_mats_between (consA (varE 0) (consA (binE ixD (varE 4) (cE (.int 1))) (consA (binE ixD (varE 5) (cE (.int 1))) (nilA)))))) (tgT (.nm 6)) mBody6)
theorem m_eq : B_missed_by = seqS (asgS (binE repMD (lstE (consA (callE sumF (consA (callE listF (consA (varE 2) (nilA))) (nilA))) (nilA))) (callE lenF (consA (varE 0) (nilA)))) (nameT 3)) (seqS (forS (callI zipF (consA (varE 1) (consA (sliceE (varE 1) (someO (cE (.int 1))) (noO)) (nilA)))) (tgT (.tp [.nm 4, .nm 5])) mBody4) (retS (varE 3))) := rfl
theorem rep_st (st : Sto) (x : Int) (M : Nat) (hM : M ≤ 100) : repMD (.lst [.int x]) (.int M) st = .ok (.mut st.length) (st ++ [.lst ((List.replicate M x).map D.int)]) := by
  rw [repMD_int, if_pos ⟨by omega, by omega⟩]
  simp
theorem f_missed_by {st : Sto} {ts : List Int} (hT : Trk ts) {row : List P2} (hr : ∀ p ∈ row, MatOk ts p) (es : List Int) :
    ∃ st', F_missed_by [tupI ts, bagD row, tupI es] st = .ok (.mut st.length) st' ∧ st'[st.length]? = some (.lst ((missL ts.length (gapsL row) es.sum).map D.int)) ∧ (∀ k, k < st.length → st'[k]? = st[k]?) ∧ st.length ≤ st'.length := by
  have h0 : 0 < ts.length := hT.pos
  have h8 := hT.le
  have r1 := rep_st st es.sum ts.length (by omega)
  have hg : ∀ g ∈ gapsL row, MatOk ts g.1 ∧ MatOk ts g.2 := fun g hgm => ⟨hr _ (gaps_mem hgm).1, hr _ (gaps_mem hgm).2⟩
  obtain ⟨env', s2, e2, q4, q5, q6, rfl, hq, hk, hl⟩ := loop_nx (g := tgT (.tp [.nm 4, .nm 5])) (body := mBody4)
    (fun j env s => ∃ q4 q5 q6 : Option D, env = [some (tupI ts), some (bagD row), some (tupI es), some (.mut st.length), q4, q5, q6] ∧ s[st.length]? = some (.lst ((missL ts.length ((gapsL row).take j) es.sum).map D.int)) ∧ (∀ k, k ≠ st.length → s[k]? = (st ++ [MO.lst []])[k]?) ∧ s.length = st.length + 1)
    (xs := (gapsL row).map fun g => D.tup [pairD g.1, pairD g.2]) (env := [some (tupI ts), some (bagD row), some (tupI es), some (.mut st.length), none, none, none]) (st := st ++ [.lst ((List.replicate ts.length es.sum).map D.int)])
    ⟨_, _, _, rfl, by rw [List.take_zero, miss_nil]; simp, fun k hk => by
      rcases Nat.lt_or_ge k st.length with h | h
      · rw [List.getElem?_append_left h, List.getElem?_append_left h]
      · rw [List.getElem?_append_right h, List.getElem?_append_right h]
        have : k - st.length ≠ 0 := by omega
        cases e : k - st.length with
        | zero => exact absurd e this
        | succ n => simp, by simp⟩
    (by
      rintro j x env s hx ⟨q4, q5, q6, rfl, hq, hk, hl⟩
      rw [List.getElem?_map] at hx
      obtain ⟨g, hgj, rfl⟩ := Option.map_eq_some_iff.mp hx
      have hgo := hg g (List.mem_of_getElem? hgj)
      have mb := f_mats_between s hT hgo.1 hgo.2
      obtain ⟨env', s2, e2, ⟨q6', rfl⟩, hq2, hk2, hl2⟩ := bump_loop (g := tgT (.nm 6)) (body := mBody6) (q := st.length) (fun env => ∃ q6 : Option D, env = [some (tupI ts), some (bagD row), some (tupI es), some (.mut st.length), some (pairD g.1), some (pairD g.2), q6]) (st0 := s) (missL ts.length ((gapsL row).take j) es.sum) (betweenL ts.length g) ((betweenL ts.length g).map fun (i : Nat) => D.int i) (by simp) (fun i hi => by rw [miss_len]; exact mem_stepL h0 hi)
        (env := [some (tupI ts), some (bagD row), some (tupI es), some (.mut st.length), some (pairD g.1), some (pairD g.2), q6]) (st := s) ⟨q6, rfl⟩ hq (fun _ _ => rfl) rfl
        (by
          rintro jj x i l env s' hx hi ⟨q6, rfl⟩ hq hil
          rw [List.getElem?_map, hi] at hx
          cases hx
          have ix := ix_mutI hq hil
          have sd := setD_at hq hil (l.getD i 0 + 1)
          refine ⟨[some (tupI ts), some (bagD row), some (tupI es), some (.mut st.length), some (pairD g.1), some (pairD g.2), some (.int i)], ?_, some (.int i), rfl⟩
          rw [show addAt l i = l.set i (l.getD i 0 + 1) from rfl]
          generalize (l.set i (l.getD i 0 + 1)).map D.int = ll at *
          generalize l.getD i 0 = gv at *
          simp [mBody6, ix, sd])
      rw [← miss_snoc, show (gapsL row).take j ++ [g] = (gapsL row).take (j + 1) by rw [List.take_succ, hgj]; rfl] at hq2
      refine ⟨_, s2, ?_, some (pairD g.1), some (pairD g.2), q6', rfl, hq2, fun k hk3 => (hk2 k hk3).trans (hk k hk3), hl2.trans hl⟩
      have it : iterD (.lst ((betweenL ts.length g).map fun (i : Nat) => D.int i)) s = .ok (.frz ((betweenL ts.length g).map fun (i : Nat) => D.int i)) s := rfl
      generalize (betweenL ts.length g).map (fun (i : Nat) => D.int i) = bl at *
      simp [mBody4, mb, e2])
  rw [List.length_map, List.take_length] at hq
  have z := zip_gaps (st ++ [.lst ((List.replicate ts.length es.sum).map D.int)]) row
  have lf : listF [tupI es] st = .ok (lstI es) st := rfl
  refine ⟨s2, ?_, hq, fun k hk1 => ?_, by omega⟩
  · unfold F_missed_by
    rw [m_eq]
    generalize (List.replicate ts.length es.sum).map D.int = rp at *
    generalize (gapsL row).map (fun g : P2 × P2 => D.tup [pairD g.1, pairD g.2]) = zz at *
    simp [runF, lf, r1, z, e2, -repMD_int]
  · rw [hk k (by omega), List.getElem?_append_left hk1]
theorem f_missed {st : Sto} {ts : List Int} (hT : Trk ts) (hs : ts.sum.natAbs < big) {row : List P2} (h : BagOk ts row) (hr : RowP ts row) (es : List Int) (hf : fitB (extrasI ts row) (tupI es) = true) :
    ∃ st', F_missed [tupI ts, bagD row, tupI es] st = .ok (tupI (missL ts.length (gapsL row) es.sum)) st' ∧ (∀ k, k < st.length → st'[k]? = st[k]?) ∧ st.length ≤ st'.length := by
  have hth : Thing (tupI es) = true := by
    show ThingL _ = true
    exact thingL_all.mpr fun x hx => by obtain ⟨i, _, rfl⟩ := List.mem_map.mp hx; rfl
  obtain ⟨l, e, hl, -⟩ := f_wrong_in_extras st hT hs h.ok (by have := h.len; omega) (tupI es) hth
  rw [hf] at hl
  have hl' : l = [] := List.isEmpty_iff.mp hl
  subst hl'
  obtain ⟨s1, e1, hq, hk, hle⟩ := f_missed_by (st := st) hT h.ok es
  have tf : tupleF [.mut st.length] s1 = .ok (tupI (missL ts.length (gapsL row) es.sum)) s1 := by
    show (match seqOf (.mut st.length) s1 with | some xs => _ | none => _) = _
    have : seqOf (.mut st.length) s1 = some ((missL ts.length (gapsL row) es.sum).map D.int) := by simp [seqOf, hq]
    rw [this]; rfl
  refine ⟨s1, ?_, hk, hle⟩
  generalize tupI (missL ts.length (gapsL row) es.sum) = mi at *
  simp [F_missed, runF, B_missed, f_check_marks st hT h, f_check_fit_row st hT hs h hr, e, e1, tf, loopF]
end Lap

namespace Lap
open PySem G
/-! courses and extra rounds -/
theorem nat_sorted_unique : ∀ {a b : List Nat}, a.Pairwise (· < ·) → b.Pairwise (· < ·) → (∀ x, x ∈ a ↔ x ∈ b) → a = b
  | [], [], _, _, _ => rfl
  | [], y :: b, _, _, h => absurd ((h y).mpr List.mem_cons_self) List.not_mem_nil
  | x :: a, [], _, _, h => absurd ((h x).mp List.mem_cons_self) List.not_mem_nil
  | x :: a, y :: b, ha, hb, h => by
    obtain ⟨a1, a2⟩ := List.pairwise_cons.mp ha
    obtain ⟨b1, b2⟩ := List.pairwise_cons.mp hb
    have e : x = y := by
      rcases List.mem_cons.mp ((h x).mp List.mem_cons_self) with g | g
      · exact g
      · rcases List.mem_cons.mp ((h y).mpr List.mem_cons_self) with g2 | g2
        · exact g2.symm
        · have := b1 x g; have := a1 y g2; omega
    subst e
    congr 1
    refine nat_sorted_unique a2 b2 fun z => ⟨fun hz => ?_, fun hz => ?_⟩
    · rcases List.mem_cons.mp ((h z).mp (List.mem_cons_of_mem _ hz)) with g | g
      · subst g; exact absurd (a1 z hz) (Nat.lt_irrefl z)
      · exact g
    · rcases List.mem_cons.mp ((h z).mpr (List.mem_cons_of_mem _ hz)) with g | g
      · subst g; exact absurd (b1 z hz) (Nat.lt_irrefl z)
      · exact g
theorem extra_nn {ts : List Int} {p q : P2} (hT : Trk ts) (h : followB ts q p = true) : 0 ≤ extraI ts p q := by
  have hw : q.1 - p.1 ≥ wayI ts p.2.toNat q.2.toNat := of_decide_eq_true h
  have := sum_pos hT
  have := hT.pos
  exact Int.ediv_nonneg (by omega) (by omega)
theorem crossL_eq {ts : List Int} {p q : P2} (hT : Trk ts) (hp : MatOk ts p) (hq : MatOk ts q) (h : followB ts q p = true) :
    crossL ts p q = (List.range (extraI ts p q + 1).toNat).map fun e => stepsN ts.length p.2.toNat q.2.toNat + ts.length * e := by
  have hex := extra_nn hT h
  have hsp := sum_pos hT
  have h0 : 0 < ts.length := hT.pos
  obtain ⟨t, mi⟩ := p
  obtain ⟨L, oi⟩ := q
  obtain ⟨t0, m0, m1⟩ := hp
  obtain ⟨L0, o0, o1⟩ := hq
  simp only at t0 m0 m1 L0 o0 o1
  obtain ⟨m, rfl⟩ := Int.eq_ofNat_of_zero_le m0
  obtain ⟨o, rfl⟩ := Int.eq_ofNat_of_zero_le o0
  have hm : m < ts.length := by omega
  have ho : o < ts.length := by omega
  have hst := steps_rng hm ho
  have hto := steps_to hm ho
  have hx : extraI ts (t, (m : Int)) (L, (o : Int)) = (L - t - wayI ts m o) / ts.sum := rfl
  have hway : wayI ts m o = walkI ts m (stepsN ts.length m o) := rfl
  rw [hx] at hex ⊢
  simp only [Int.toNat_natCast]
  generalize hS : stepsN ts.length m o = S at *
  have wf : ∀ e : Nat, walkI ts m (S + ts.length * e) = (e : Int) * ts.sum + wayI ts m o := by
    intro e
    rw [Nat.add_comm, Nat.mul_comm, walk_full ts m e S h0, hway]
  refine nat_sorted_unique ?_ ?_ fun j => ?_
  · exact List.Pairwise.filter _ List.pairwise_lt_range
  · rw [List.pairwise_map]
    refine List.pairwise_lt_range.imp fun {a b} hab => ?_
    have := Nat.mul_lt_mul_of_pos_left hab h0
    omega
  · unfold crossL crossB
    rw [List.mem_filter, List.mem_map]
    simp only [List.mem_range, Bool.and_eq_true, decide_eq_true_iff]
    constructor
    · rintro ⟨h1, h2, h3, h4⟩
      have h3 : (m + j) % ts.length = o := h3
      have h4 : walkI ts m j ≤ L - t := h4
      have hjS : S ≤ j := by
        rcases Nat.lt_or_ge j S with hlt | hge
        · have := (steps_first hm ho h2 (by omega)).mp h3
          omega
        · exact hge
      have hmod : (j - S) % ts.length = 0 := by
        have := Nat.sub_mod_eq_zero_of_mod_eq (h3.trans hto.symm)
        rw [show m + j - (m + S) = j - S by omega] at this
        exact this
      have hje : S + ts.length * ((j - S) / ts.length) = j := by
        have := Nat.div_add_mod (j - S) ts.length
        omega
      refine ⟨(j - S) / ts.length, ?_, hje⟩
      generalize (j - S) / ts.length = e at *
      have := wf e
      rw [hje] at this
      have h5 : (e : Int) ≤ (L - t - wayI ts m o) / ts.sum := (Int.le_ediv_iff_mul_le (by omega)).mpr (by omega)
      omega
    · rintro ⟨e, he, rfl⟩
      have h5 : (e : Int) ≤ (L - t - wayI ts m o) / ts.sum := by omega
      have h6 := (Int.le_ediv_iff_mul_le (by omega)).mp h5
      have h7 := wf e
      have h8 := walk_ge hT m (S + ts.length * e)
      refine ⟨?_, by omega, ?_, ?_⟩
      · show _ < (L - t).toNat + 1
        omega
      · show (m + (S + ts.length * e)) % ts.length = o
        rw [← Nat.add_assoc, Nat.add_mul_mod_self_left]; exact hto
      · show walkI ts m (S + ts.length * e) ≤ L - t
        omega
theorem crossL_len {ts : List Int} {p q : P2} (hT : Trk ts) (hp : MatOk ts p) (hq : MatOk ts q) (h : followB ts q p = true) : ((crossL ts p q).length : Int) = extraI ts p q + 1 := by
  have := extra_nn hT h
  rw [crossL_eq hT hp hq h]
  simp
  omega
theorem extra_le {ts : List Int} {p q : P2} (hT : Trk ts) (hp : MatOk ts p) (hq : MatOk ts q) (h : followB ts q p = true) : extraI ts p q + 1 ≤ q.1 - p.1 := by
  have hw : q.1 - p.1 ≥ wayI ts p.2.toNat q.2.toNat := of_decide_eq_true h
  have h1 := sum_pos hT
  have h2 := hT.pos
  have h3 := way_pos hT (m := p.2.toNat) (o := q.2.toNat) (by have := hp.2; omega) (by have := hq.2; omega)
  have h5 : extraI ts p q * ts.sum ≤ q.1 - p.1 - wayI ts p.2.toNat q.2.toNat := Int.ediv_mul_le _ (by omega)
  have h4 := extra_nn hT h
  have : extraI ts p q ≤ extraI ts p q * ts.sum := by
    have := Int.mul_le_mul_of_nonneg_left (show (1 : Int) ≤ ts.sum by omega) h4
    omega
  omega
theorem miss_more (M : Nat) (hM : 0 < M) (gs : List (P2 × P2)) (g : P2 × P2) (s : Int) (x : Nat) (hn : 1 ≤ stepsN M g.1.2.toNat g.2.2.toNat) : bumps (missL M gs s) (stepL M g.1.2.toNat (stepsN M g.1.2.toNat g.2.2.toNat + x * M)) = missL M (gs ++ [g]) (s + x) := by
  refine list_eqI (by rw [bumps_len, miss_len, miss_len]) fun i hi => ?_
  rw [bumps_len, miss_len] at hi
  rw [miss_get hi, bumps_get _ _ _ (by rw [miss_len]; exact hi), miss_get hi, stepL_add hM _ _ _ hn i hi]
  unfold missF
  simp [List.map_append, List.sum_append, betweenL]
  omega
theorem eqO_intsL (a b : List Int) : eqO (lstI a) (lstI b) = some (decide (a = b)) := by
  unfold eqO
  have h1 : scalD (lstI a) (lstI b) = none := rfl
  have h2 : ∀ a, toPD (lstI a) = some (.list (a.map PyData.int)) := fun a => by unfold lstI toPD; rw [toPDs_ints]; rfl
  rw [h1, h2, h2]
  show (if SeqAt.shaped (.list (a.map PyData.int)) = true ∧ SeqAt.shaped (.list (b.map PyData.int)) = true then _ else _) = _
  rw [if_pos ⟨by simp [SeqAt.shaped, PyData.canLay0, canLay_ints, PyData.depth, depth_ints], by simp [SeqAt.shaped, PyData.canLay0, canLay_ints, PyData.depth, depth_ints]⟩]
  simp [PyData.eqv, eqv_ints]
theorem ne_lstI (a b : List Int) (st : Sto) : neD (lstI a) (lstI b) st = .ok (.bl (!decide (a = b))) st := by unfold neD; rw [eqO_intsL]
/-- one of a list of any length -/
theorem oneA_lst {FB : FA} (hB : Below FB) {st : Sto} {n : Nat} {xs : List D} (hp : Pool n st) (h1 : xs ≠ []) (h2 : xs.length < 1000000000) :
    ∃ d st', runF 2 2 (oneA FB) [.mut n, .lst xs] st = .ok d st' ∧ d ∈ xs ∧ Pool n st' ∧ Eff n st st' := by
  have hl : 0 < xs.length := List.length_pos_iff.mpr h1
  obtain ⟨v, s1, e1, v0, v1, hp1, he1⟩ := hB (m := xs.length) hp (by omega) (by omega)
  obtain ⟨k, rfl⟩ := Int.eq_ofNat_of_zero_le v0
  have hk : k < xs.length := by omega
  have x1 : ixD (.lst xs) (.int k) s1 = .ok xs[k] s1 := ixD_lst _ _ _ (by
    rw [atI_nat' _ k hk])
  refine ⟨xs[k], s1, ?_, List.getElem_mem hk, hp1, he1⟩
  simp [runF, oneA, e1, x1]
end Lap

namespace Lap
open PySem G
/-! the draws of k60 to k79 -/
def poolK (a1 a2 a3 M : Int) : SvS := seqS (parS 2 3 (consA (ifE (tstE (binE ltD (varE 1) (callE lenF (consA (varE 0) (nilA))))) (callE intF (consA (binE ixD (varE 0) (varE 1)) (nilA))) (binE addD (binE mulD (cE (.int 70001)) (varE 1)) (cE (.int a1)))) (consA (binE addD (cE (.int a2)) (binE mulD (cE (.int 5087)) (varE 1))) (nilA)))) (seqS (forS (iterE (sliceE (varE 0) (noO) (someO (cE (.int 63))))) (tgT (.nm 4)) (asgS (binE modD (callE intF (consA (binE addD (binE addD (binE mulD (varE 3) (cE (.int 48271))) (binE modD (callE intF (consA (varE 4) (nilA))) (cE (.int M)))) (cE (.int a3))) (nilA))) (cE (.int M))) (nameT 3))) (retS (mutE (consA (binE modD (callE intF (consA (binE addD (varE 3) (binE mulD (varE 2) (cE (.int 1013)))) (nilA))) (cE (.int M))) (consA (ifE (orB (tstE (binE ltD (varE 2) (cE (.int 0)))) (tstE (binE geD (varE 2) (binE powD (cE (.int 10)) (cE (.int 18)))))) (callE absF (consA (varE 2) (nilA))) (cE (.int 0))) (consA (cE (.int 0)) (nilA)))))))
def drawK (M : Int) : SvS := seqS (ifS (tstE (binE gtD (binE ixD (varE 0) (cE (.int 1))) (cE (.int 0)))) (seqS (asgS (callE divmodF (consA (binE ixD (varE 0) (cE (.int 1))) (consA (varE 1) (nilA)))) (tupT 2 (consT (subT (varE 0) (cE (.int 1))) (consT (nameT 2) (nilT))))) (retS (varE 2))) (passS)) (seqS (asgS (binE addD (binE ixD (varE 0) (cE (.int 2))) (cE (.int 1))) (subT (varE 0) (cE (.int 2)))) (seqS (asgS (callE intF (consA (binE ixD (varE 0) (cE (.int 0))) (nilA))) (nameT 3)) (seqS (asgS (binE modD (callE intF (consA (binE addD (binE addD (binE mulD (varE 3) (binE addD (binE modD (varE 3) (cE (.int 20011))) (cE (.int 30011)))) (binE mulD (cE (.int 70001)) (binE ixD (varE 0) (cE (.int 2))))) (cE (.int 9))) (nilA))) (cE (.int M))) (subT (varE 0) (cE (.int 0)))) (retS (binE modD (callE intF (consA (binE fdivD (binE ixD (varE 0) (cE (.int 0))) (cE (.int 128))) (nilA))) (varE 1))))))
def trackK (FD FP : FA) : SvS := seqS (asgS (callE FP (consA (varE 0) (consA (lstE (consA (cE (.int 1)) (consA (cE (.int 4)) (consA (cE (.int 40)) (consA (binE powD (cE (.int 10)) (cE (.int 9))) (nilA)))))) (nilA)))) (nameT 2)) (retS (callE tupleF (consA (lcE (callI range1F (consA (binE addD (cE (.int 1)) (callE FD (consA (varE 0) (consA (varE 1) (nilA))))) (nilA))) (.nm 3) (yesB) (binE addD (cE (.int 1)) (callE FD (consA (varE 0) (consA (varE 2) (nilA))))) [3]) (nilA))))
def rowK (FD FP : FA) : SvS := seqS (parS3 4 5 6 (consA (mutE (nilA)) (consA (varE 2) (consA (callE FP (consA (varE 0) (consA (lstE (consA (cE (.int 1)) (consA (cE (.int 3)) (consA (binE mulD (cE (.int 2)) (callE sumF (consA (varE 1) (nilA)))) (nilA))))) (nilA)))) (nilA))))) (seqS (forS (callI range1F (consA (varE 3) (nilA))) (tgT (.nm 7)) (seqS (asgS (callE FD (consA (varE 0) (consA (callE lenF (consA (varE 1) (nilA))) (nilA)))) (nameT 8)) (seqS (asgS (binE addD (binE addD (binE ixD (varE 5) (cE (.int 0))) (callE F__law_way_v2 (consA (varE 1) (consA (binE ixD (varE 5) (cE (.int 1))) (consA (varE 8) (nilA)))))) (callE FP (consA (varE 0) (consA (lstE (consA (cE (.int 0)) (consA (callE FD (consA (varE 0) (consA (varE 6) (nilA)))) (consA (binE mulD (callE sumF (consA (varE 1) (nilA))) (callE FD (consA (varE 0) (consA (cE (.int 3)) (nilA))))) (nilA))))) (nilA))))) (nameT 9)) (seqS (asgS (tupE (consA (varE 9) (consA (varE 8) (nilA)))) (nameT 5)) (exprS (methLE appF (varE 4) (consA (varE 5) (nilA)))))))) (retS (callE tupleF (consA (varE 4) (nilA)))))
def bagK (FD FP : FA) : SvS := seqS (parS 3 4 (consA (newTE) (consA (callE FP (consA (varE 0) (consA (lstE (consA (cE (.int 3)) (consA (cE (.int 20)) (consA (binE mulD (cE (.int 5)) (callE sumF (consA (varE 1) (nilA)))) (nilA))))) (nilA)))) (nilA)))) (seqS (forS (callI range1F (consA (varE 2) (nilA))) (tgT (.nm 5)) (putTS (cE (.bl true)) (varE 3) (consA (callE FD (consA (varE 0) (consA (varE 4) (nilA)))) (consA (callE FD (consA (varE 0) (consA (callE lenF (consA (varE 1) (nilA))) (nilA)))) (nilA))))) (retS (callE tupleF (consA (callE srtF (consA (callE listTF (consA (varE 3) (nilA))) (nilA))) (nilA)))))
def lawK (FR FP : FA) : SvS := seqS (forS (callI range1F (consA (callE maxF (consA (cE (.int 2)) (consA (callE minF (consA (callE lenF (consA (varE 0) (nilA))) (consA (cE (.int 3)) (nilA)))) (nilA)))) (nilA))) (tgT (.nm 1)) (ifS (notB (tstE (callE FR (consA (callE FP (consA (varE 0) (consA (varE 1) (nilA)))) (nilA))))) (retS (cE (.bl false))) (passS))) (retS (cE (.bl true)))
def Draw (F : FA) : Prop := ∀ {st : Sto} {n : Nat} {m : Int}, Pool n st → 0 < m → m.natAbs < big → ∃ v st', F [.mut n, .int m] st = .ok (.int v) st' ∧ 0 ≤ v ∧ v < m ∧ Pool n st' ∧ Eff n st st'
theorem Draw.below {F : FA} (h : Draw F) : Below F := fun hp h1 h2 => h hp h1 (by have := big_ge; omega)
theorem drawK_ok {M : Int} (hM : 0 < M) : Draw (runF 2 4 (drawK M)) := by
  intro st n m hp h1 h2
  obtain ⟨a, b, c, hp⟩ := hp
  have hn : n < st.length := (List.getElem?_eq_some_iff.mp hp).1
  by_cases hb : 0 < b
  · refine ⟨b % m, st.set n (.lst [.int a, .int (b / m), .int c]), ?_, Int.emod_nonneg _ (by omega), Int.emod_lt_of_pos _ h1, ⟨_, _, _, p_get hn _⟩, .set⟩
    simp [runF, drawK, p_ix1 hp, hb, h1, h2, p_set1 hp]
  · have g := fun x y z => p_get (n := n) hn (MO.lst [x, y, z])
    have s1 : mulOk a (a % 20011 + 30011) := mulOk_lit (by have := Int.emod_nonneg a (show (20011 : Int) ≠ 0 by decide); have := Int.emod_lt_of_pos a (show (0 : Int) < 20011 by decide); omega)
    have s2 : mulOk 70001 (c + 1) := mulOk_lit' (by decide)
    have s3 : (128 : Int).natAbs < big := by have := big_ge; omega
    refine ⟨(a * (a % 20011 + 30011) + 70001 * (c + 1) + 9) % M / 128 % m, st.set n (.lst [.int ((a * (a % 20011 + 30011) + 70001 * (c + 1) + 9) % M), .int b, .int (c + 1)]), ?_, Int.emod_nonneg _ (by omega), Int.emod_lt_of_pos _ h1, ⟨_, _, _, p_get hn _⟩, .set⟩
    have s3' : (128 : Nat) < big := s3
    simp [runF, drawK, p_ix1 hp, hb, p_ix2 hp, p_set2 hp, p_ix0 (g _ _ _), p_ix2 (g _ _ _), p_set0 (g _ _ _), h1, s1, s2, s3', hM]
theorem poolK_ok {a1 a2 a3 M : Int} (hM : 0 < M) : MkPool (runF 2 5 (poolK a1 a2 a3 M)) := by
  intro st ns k
  have cell : ∃ z : Int, ∀ env : G.Env, (ifE (tstE (binE ltD (varE 1) (callE lenF (consA (varE 0) (nilA))))) (callE intF (consA (binE ixD (varE 0) (varE 1)) (nilA))) (binE addD (binE mulD (cE (.int 70001)) (varE 1)) (cE (.int a1)))) (some (.slo (ns.map D.int)) :: some (.int k) :: env) st = .ok (.int z) st := by
    by_cases hk : k < ns.length
    · have hk' : (k : Int) < ns.length := by omega
      refine ⟨ns[k], fun env => ?_⟩
      simp [hk, ixD_slo _ _ st (atI_nat' (ns.map D.int) k (by simpa using hk))]
    · have m1 : mulOk 70001 (k : Int) := mulOk_lit' (by decide)
      exact ⟨70001 * k + a1, fun env => by simp [hk, m1]⟩
  obtain ⟨z, cell⟩ := cell
  have m2 : mulOk 5087 (k : Int) := mulOk_lit' (by decide)
  have hM2 : ∀ f : Int, mulOk f 48271 := fun f => mulOk_lit (by decide)
  have key := loop_nx (g := tgT (.nm 4)) (body := asgS (binE modD (callE intF (consA (binE addD (binE addD (binE mulD (varE 3) (cE (.int 48271))) (binE modD (callE intF (consA (varE 4) (nilA))) (cE (.int M)))) (cE (.int a3))) (nilA))) (cE (.int M))) (nameT 3))
    (fun _ env s => ∃ (f : Int) (o : Option D), env = [some (.slo (ns.map D.int)), some (.int k), some (.int z), some (.int f), o] ∧ s = st) (xs := (ns.take 63).map D.int) (env := [some (.slo (ns.map D.int)), some (.int k), some (.int z), some (.int (a2 + 5087 * k)), none]) (st := st) ⟨_, none, rfl, rfl⟩
    (by
      rintro j x env s hx ⟨f, o, rfl, rfl⟩
      rw [List.getElem?_map] at hx
      obtain ⟨y, _, rfl⟩ := Option.map_eq_some_iff.mp hx
      exact ⟨[some (.slo (ns.map D.int)), some (.int k), some (.int z), some (.int ((f * 48271 + y % M + a3) % M)), some (.int y)], s, by simp [hM2, hM], _, _, rfl, rfl⟩)
  obtain ⟨env', s', e, f, o, rfl, rfl⟩ := key
  have m4 : mulOk z 1013 := mulOk_lit (by decide)
  have h12 : cutL ns none (some 63) = ns.take 63 := cutL_to ns 63
  have e' : loopF (tgT (.nm 4)) (asgS (binE modD (callE intF (consA (binE addD (binE addD (binE mulD (varE 3) (cE (.int 48271))) (binE modD (callE intF (consA (varE 4) (nilA))) (cE (.int M)))) (cE (.int a3))) (nilA))) (cE (.int M))) (nameT 3)) (cutD (ns.map D.int) none (some 63)) [some (.slo (ns.map D.int)), some (.int k), some (.int z), some (.int (a2 + 5087 * k)), none] s' = .nx [some (.slo (ns.map D.int)), some (.int k), some (.int z), some (.int f), o] s' := by
    rw [cutD_map, h12]; exact e
  refine ⟨(f + z * 1013) % M, if z < 0 ∨ 10 ^ 18 ≤ z then (if z < 0 then -z else z) else 0, 0, ?_⟩
  have ps : ∀ (env : G.Env) (st : Sto) (fs : EvA), parS 2 3 fs env st = bindS (fs env st) env fun as s1 => match as with
    | [a, b] => .nx ((env.set 2 (some a)).set 3 (some b)) s1
    | _ => .fail := fun _ _ _ => rfl
  unfold runF poolK
  simp only [List.length_cons, List.length_nil, if_true, seqS_eq, ps, consA_eq, List.map_cons, List.map_nil, List.cons_append, List.nil_append]
  rw [show (5 - 2 : Nat) = 3 from rfl]
  simp only [List.replicate]
  rw [cell]
  by_cases z1 : z < 0
  · simp [m2, e', m4, hM, z1]
  · by_cases z2 : (1000000000000000000 : Int) ≤ z
    · simp [m2, e', m4, hM, z1, z2]
    · simp [m2, e', m4, hM, z1, z2]
theorem lawK_ok {FP FR : FA} (hP : MkPool FP) (hR : Right FR) (ns : List Int) : ∃ st, runF 1 2 (lawK FR FP) [.slo (ns.map D.int)] [] = .ok (.bl true) st := by
  generalize hq : (if (if (3 : Int) < (ns.length : Int) then (3 : Int) else (ns.length : Int)) > 2 then (if (3 : Int) < (ns.length : Int) then (3 : Int) else (ns.length : Int)) else 2) = q
  have hq2 : 2 ≤ q ∧ q ≤ 3 := by split at hq <;> split at hq <;> omega
  obtain ⟨env', s', e, o, rfl⟩ := loop_nx (g := tgT (.nm 1)) (body := (ifS (notB (tstE (callE FR (consA (callE FP (consA (varE 0) (consA (varE 1) (nilA)))) (nilA))))) (retS (cE (.bl false))) (passS)))
    (fun j env s => ∃ o : Option D, env = [some (.slo (ns.map D.int)), o]) (xs := rangeD 0 q.toNat) (env := [some (.slo (ns.map D.int)), none]) (st := []) ⟨none, rfl⟩
    (by
      rintro j x env s hx ⟨o, rfl⟩
      obtain ⟨rfl, hj⟩ := range_get hx
      obtain ⟨a, b, c, e1⟩ := hP (st := s) (ns := ns) (k := j)
      obtain ⟨s', e2⟩ := hR (st := s ++ [.lst [.int a, .int b, .int c]]) (n := s.length) pool_new
      refine ⟨[some (.slo (ns.map D.int)), some (.int (0 + j))], s', ?_, _, rfl⟩
      simp [e1, e2])
  refine ⟨s', ?_⟩
  have hb : q.natAbs < 4611686018427387904 := by omega
  simp only [runF, lawK, List.length_cons, List.length_nil]
  simp [hq, hb, e]

abbrev pickK (FD : FA) : FA := runF 2 2 (oneA FD)
def TrackK (F : FA) : Prop := ∀ {st : Sto} {n : Nat} {most : Int}, Pool n st → 0 < most → most ≤ 8 → ∃ ts st', F [.mut n, .int most] st = .ok (tupI ts) st' ∧ Trk ts ∧ (∀ x ∈ ts, 1 ≤ x ∧ x ≤ 1000000000) ∧ (ts.length : Int) ≤ most ∧ Pool n st' ∧ Eff n st st'
theorem trackK_ok {FD : FA} (hD : Draw FD) : TrackK (runF 2 4 (trackK FD (pickK FD))) := by
  intro st n most hp h1 h2
  have hbig := big_ge
  obtain ⟨d, s1, e1, hd, hp1, ef1⟩ := oneA_lst hD.below (xs := [.int 1, .int 4, .int 40, .int 1000000000]) hp (by simp) (by simp)
  obtain ⟨w, rfl, w1, w2⟩ : ∃ w : Int, d = .int w ∧ 1 ≤ w ∧ w ≤ 1000000000 := by
    simp at hd
    rcases hd with rfl | rfl | rfl | rfl
    · exact ⟨1, rfl, by omega, by omega⟩
    · exact ⟨4, rfl, by omega, by omega⟩
    · exact ⟨40, rfl, by omega, by omega⟩
    · exact ⟨1000000000, rfl, by omega, by omega⟩
  obtain ⟨v, s2, e2, v0, v1, hp2, ef2⟩ := hD (m := most) hp1 h1 (by omega)
  obtain ⟨u, rfl⟩ := Int.eq_ofNat_of_zero_le v0
  have k1 : (1 : Int) + u = ((u + 1 : Nat) : Int) := by push_cast; omega
  obtain ⟨s3, acc, e3, ts, rfl, hts, hlt, hp3, ef3⟩ := lc_inv (t := .nm 3) (tt := yesB) (fe := (binE addD (cE (.int 1)) (callE FD (consA (varE 0) (consA (varE 2) (nilA)))))) (envw := [some (.mut n), some (.int most), some (.int w), none])
    (fun j s acc => ∃ ts : List Int, acc = ts.map D.int ∧ (∀ x ∈ ts, 1 ≤ x ∧ x ≤ 1000000000) ∧ ts.length = j ∧ Pool n s ∧ Eff n s2 s) (rangeD 0 (u + 1)) 0 s2 [] ⟨[], rfl, by simp, rfl, hp2, .refl⟩
    (by
      rintro j x s acc hx ⟨ts, rfl, h1, h2, hp, ef⟩
      obtain ⟨rfl, hj⟩ := range_get hx
      obtain ⟨g, s2, e2, g0, g1, hp2, ef2⟩ := hD (m := w) hp (by omega) (by omega)
      refine ⟨s2, (ts ++ [1 + g]).map D.int, fun k => ?_, ts ++ [1 + g], rfl, fun p hp => ?_, by simp [h2], hp2, ef.trans ef2⟩
      · rw [turnC_yes (y := .int (1 + g)) (st' := s2) (env1 := [some (.mut n), some (.int most), some (.int w), some (.int (0 + j))]) (by simp) (by simp [e2]) (by simp; omega)]
        simp
      · rcases List.mem_append.mp hp with hp | hp
        · exact h1 p hp
        · rw [List.mem_singleton.mp hp]; omega)
  rw [rangeD_length, Nat.zero_add] at hlt
  have tf1 : tupleF [.lst (ts.map D.int)] s3 = .ok (tupI ts) s3 := rfl
  refine ⟨ts, s3, ?_, ⟨by omega, by omega, fun x hx => (hts x hx).1⟩, hts, by omega, hp3, ef1.trans (ef2.trans ef3)⟩
  have k9 : (((u + 1 : Nat) : Int)).natAbs < 4611686018427387904 := by omega
  have k10 : u + 1 < 4611686018427387904 := by omega
  generalize tupI ts = tsd at *
  simp [-Int.natCast_add, runF, trackK, e1, e2, k1, k9, k10, e3, tf1]
/-- the way, gone sector by sector -/
theorem loop_wayK (ts : List Int) (m o : Nat) (hm : m < ts.length) (ho : o < ts.length) (st : Sto) : ∀ (n j : Nat) (o5 : Option D) (o4 : Option D), j + n = ts.length → 1 ≤ j → (∀ i, 1 ≤ i → i < j → (m + i) % ts.length ≠ o) →
    ∃ S : S, loopF (tgT (.nm 4)) (seqS (asgS (binE modD (callE intF (consA (binE addD (varE 1) (varE 4)) (nilA))) (callE lenF (consA (varE 0) (nilA)))) (nameT 5)) (seqS (ifS (tstE (binE eqD (varE 5) (varE 2))) (retS (varE 3)) (passS)) (asgS (binE addD (varE 3) (binE ixD (varE 0) (varE 5))) (nameT 3)))) (rangeD j n) [some (tupI ts), some (.int m), some (.int o), some (.int (walkI ts m j)), o4, o5] st = S ∧
      (S = .ret (.int (wayI ts m o)) st ∨ (∃ q4 q5, S = .nx [some (tupI ts), some (.int m), some (.int o), some (.int (wayI ts m o)), q4, q5] st)) := by
  intro n
  induction n with
  | zero =>
    intro j o5 o4 hj h1 hno
    refine ⟨_, rfl, .inr ⟨o4, o5, ?_⟩⟩
    have hst := steps_rng hm ho
    have hto := steps_to hm ho
    have : stepsN ts.length m o = j := by
      rcases Nat.lt_or_ge (stepsN ts.length m o) j with h | h
      · exact absurd hto (hno _ hst.1 h)
      · omega
    unfold wayI
    rw [this]; rfl
  | succ n ih =>
    intro j o5 o4 hj h1 hno
    have h0 : 0 < ts.length := by omega
    have er : rangeD (j : Int) (n + 1) = .int j :: rangeD ((j + 1 : Nat) : Int) n := by
      unfold rangeD
      rw [List.range_succ_eq_map, List.map_cons, List.map_map]
      congr 1
      simp
      intro a _
      omega
    rw [er]
    have k1 : (m : Int) + (j : Int) = ((m + j : Nat) : Int) := by push_cast; rfl
    have k2 : ((m + j : Nat) : Int) % (ts.length : Int) = (((m + j) % ts.length : Nat) : Int) := by push_cast; rfl
    have hml := Nat.mod_lt (m + j) h0
    have ln : lenF [tupI ts] st = .ok (.int ts.length) st := by simp [tupI]
    have x1 := ixD_tupI st (ts := ts) (((m + j) % ts.length : Nat) : Int) (by omega) (by omega)
    simp only [Int.toNat_natCast] at x1
    by_cases hb : (m + j) % ts.length = o
    · refine ⟨_, rfl, .inl ?_⟩
      have hst : stepsN ts.length m o = j := by
        have hr := steps_rng hm ho
        have hto := steps_to hm ho
        rcases Nat.lt_trichotomy (stepsN ts.length m o) j with h | h | h
        · exact absurd hto (hno _ hr.1 h)
        · exact h
        · exact ((steps_first hm ho h1 (by omega)).mp hb).symm
      have hw : walkI ts m j = wayI ts m o := by unfold wayI; rw [hst]
      rw [hw]
      generalize tupI ts = tsd at *
      simp [-Int.natCast_add, -Int.natCast_emod, loopF, k1, ln, h0, k2, hb]
    · have hb' : ¬ ((((m + j) % ts.length : Nat) : Int) = (o : Int)) := by omega
      obtain ⟨S, e, hS⟩ := ih (j + 1) (some (.int (((m + j) % ts.length : Nat) : Int))) (some (.int j)) (by omega) (by omega) (fun i i1 i2 => by
        rcases Nat.lt_or_ge i j with h | h
        · exact hno i i1 h
        · rw [show i = j by omega]; exact hb)
      have hw : walkI ts m (j + 1) = walkI ts m j + ts.getD ((m + j) % ts.length) 0 := by rw [walk_succ]; rfl
      rw [hw] at e
      refine ⟨S, ?_, hS⟩
      rw [← e]
      generalize walkI ts m j = wk at *
      generalize ts.getD ((m + j) % ts.length) 0 = sv at *
      generalize hsx : (m + j) % ts.length = mm at *
      generalize rangeD ((j + 1 : Nat) : Int) n = rr at *
      generalize tupI ts = tsd at *
      simp [-Int.natCast_add, -Int.natCast_emod, loopF, k1, ln, h0, k2, hb, hb', x1]
theorem f_law_wayK (st : Sto) {ts : List Int} {m o : Nat} (hm : m < ts.length) (ho : o < ts.length) (hl : ts.length ≤ 100) : F__law_way_v2 [tupI ts, .int m, .int o] st = .ok (.int (wayI ts m o)) st := by
  have h0 : 0 < ts.length := by omega
  have x1 := ixD_tupI st (ts := ts) (m : Int) (by omega) (by omega)
  simp only [Int.toNat_natCast] at x1
  have hw1 : walkI ts m 1 = ts.getD m 0 := by simp [walkI, at_, Nat.mod_eq_of_lt hm]
  obtain ⟨S, e, hS⟩ := loop_wayK ts m o hm ho st (ts.length - 1) 1 none none (by omega) (by omega) (fun i i1 i2 => by omega)
  rw [hw1] at e
  have k1 : ((ts.length : Int) - 1).toNat = ts.length - 1 := by omega
  have k2 : ts.length < 4611686018427387904 := by omega
  have ln : lenF [tupI ts] st = .ok (.int ts.length) st := by simp [tupI]
  have e : loopF (tgT (.nm 4)) (seqS (asgS (binE modD (callE intF (consA (binE addD (varE 1) (varE 4)) (nilA))) (callE lenF (consA (varE 0) (nilA)))) (nameT 5)) (seqS (ifS (tstE (binE eqD (varE 5) (varE 2))) (retS (varE 3)) (passS)) (asgS (binE addD (varE 3) (binE ixD (varE 0) (varE 5))) (nameT 3)))) (rangeD 1 (ts.length - 1)) [some (tupI ts), some (.int m), some (.int o), some (.int (ts.getD m 0)), none, none] st = S := e
  generalize ts.getD m 0 = g at *
  generalize wayI ts m o = wy at *
  generalize hrr : rangeD 1 (ts.length - 1) = rr at *
  rcases hS with rfl | ⟨q4, q5, rfl⟩
  · generalize tupI ts = tsd at *
    simp [F__law_way_v2, runF, B__law_way_v2, x1, ln, k1, k2, hrr, e]
  · generalize tupI ts = tsd at *
    simp [F__law_way_v2, runF, B__law_way_v2, x1, ln, k1, k2, hrr, e]

/-- rows -/
def rowBodyK (FD FP : FA) : SvS := seqS (asgS (callE FD (consA (varE 0) (consA (callE lenF (consA (varE 1) (nilA))) (nilA)))) (nameT 8)) (seqS (asgS (binE addD (binE addD (binE ixD (varE 5) (cE (.int 0))) (callE F__law_way_v2 (consA (varE 1) (consA (binE ixD (varE 5) (cE (.int 1))) (consA (varE 8) (nilA)))))) (callE FP (consA (varE 0) (consA (lstE (consA (cE (.int 0)) (consA (callE FD (consA (varE 0) (consA (varE 6) (nilA)))) (consA (binE mulD (callE sumF (consA (varE 1) (nilA))) (callE FD (consA (varE 0) (consA (cE (.int 3)) (nilA))))) (nilA))))) (nilA))))) (nameT 9)) (seqS (asgS (tupE (consA (varE 9) (consA (varE 8) (nilA)))) (nameT 5)) (exprS (methLE appF (varE 4) (consA (varE 5) (nilA))))))
theorem rowK_eq (FD FP : FA) : rowK FD FP = seqS (parS3 4 5 6 (consA (mutE (nilA)) (consA (varE 2) (consA (callE FP (consA (varE 0) (consA (lstE (consA (cE (.int 1)) (consA (cE (.int 3)) (consA (binE mulD (cE (.int 2)) (callE sumF (consA (varE 1) (nilA)))) (nilA))))) (nilA)))) (nilA))))) (seqS (forS (callI range1F (consA (varE 3) (nilA))) (tgT (.nm 7)) (rowBodyK FD FP)) (retS (callE tupleF (consA (varE 4) (nilA))))) := rfl
theorem way_le_sum {ts : List Int} (hT : Trk ts) {m o : Nat} (hm : m < ts.length) (ho : o < ts.length) : wayI ts m o ≤ ts.sum := by
  unfold wayI
  have := walk_le_of hT m (steps_rng hm ho).2
  rw [walk_round ts m hT.pos] at this
  exact this
theorem rowK_turn {FD : FA} (hD : Draw FD) {ts : List Int} (hT : Trk ts) (hs : ts.sum ≤ 1000000000000) {st : Sto} {n q j : Nat} {b0 : P2} {b : List P2} {t : Int} {m : Nat} {w : Int} (w0 : 1 ≤ w) (w1 : w ≤ 2 * ts.sum ∨ w ≤ 3) (hnq : n ≠ q) (hj : j < 1000) (h : RowAt ts n q j b0 (3 * ts.sum + 3) b t m st) (o2 o3 o7 o8 o9 : Option D) :
    ∃ b' t' m' q8 q9 st', rowBodyK FD (pickK FD) [some (.mut n), some (tupI ts), o2, o3, some (.mut q), some (pairD (t, (m : Int))), some (.int w), o7, o8, o9] st =
      .nx [some (.mut n), some (tupI ts), o2, o3, some (.mut q), some (pairD (t', ((m' : Nat) : Int))), some (.int w), o7, q8, q9] st' ∧ RowAt ts n q (j + 1) b0 (3 * ts.sum + 3) b' t' m' st' := by
  have hbig := big_ge
  have h0 : 0 < ts.length := hT.pos
  have h8 := hT.le
  have hsp := sum_pos hT
  obtain ⟨hp, hat, hlen, hok, ht, hm, hlast, hge, hle, hall⟩ := h
  obtain ⟨oi, s1, e1, a0, a1, hp1, ef1⟩ := hD (m := (ts.length : Int)) hp (by omega) (by omega)
  obtain ⟨o, rfl⟩ := Int.eq_ofNat_of_zero_le a0
  have ho : o < ts.length := by omega
  have r1 := f_law_wayK s1 hm ho (by omega)
  obtain ⟨g, s2, e2, g0, g1, hp2, ef2⟩ := hD (m := w) hp1 (by omega) (by omega)
  obtain ⟨x, s3, e3, x0, x1, hp3, ef3⟩ := hD (m := 3) hp2 (by omega) (by omega)
  have mk : mulOk ts.sum x := mulOk_lit (by omega)
  obtain ⟨d, s4, e4, hd, hp4, ef4⟩ := oneA_lst hD.below (xs := [.int 0, .int g, .int (ts.sum * x)]) hp3 (by simp) (by simp)
  obtain ⟨k, rfl, kk0, kk1⟩ : ∃ k : Int, d = .int k ∧ 0 ≤ k ∧ k ≤ 2 * ts.sum + 3 := by
    simp at hd
    have hx : ts.sum * x ≤ ts.sum * 2 := Int.mul_le_mul_of_nonneg_left (by omega) (by omega)
    have hx0 : 0 ≤ ts.sum * x := Int.mul_nonneg (by omega) x0
    rcases hd with rfl | rfl | rfl
    · exact ⟨0, rfl, by omega, by omega⟩
    · exact ⟨g, rfl, g0, by omega⟩
    · exact ⟨_, rfl, hx0, by omega⟩
  have hw1 := way_pos hT hm ho
  have hw2 := way_le_sum hT hm ho
  have at4 : s4[q]? = some (.lst (b.map pairD)) := by
    rw [ef4.2 q (fun z => hnq z.symm), ef3.2 q (fun z => hnq z.symm), ef2.2 q (fun z => hnq z.symm), ef1.2 q (fun z => hnq z.symm)]; exact hat
  have mo : MatOk ts (t + wayI ts m o + k, ((o : Nat) : Int)) := ⟨by show 0 ≤ t + wayI ts m o + k; omega, by show (0 : Int) ≤ _; omega, by show ((_ : Nat) : Int) < _; omega⟩
  have ap := app_mut (pairD (t + wayI ts m o + k, ((o : Nat) : Int))) at4 (by simp; omega)
  have il := isL_mut at4
  have hq := (List.getElem?_eq_some_iff.mp at4).1
  refine ⟨b ++ [(t + wayI ts m o + k, ((o : Nat) : Int))], t + wayI ts m o + k, o, some (.int o), some (.int (t + wayI ts m o + k)), s4.set q (.lst ((b ++ [(t + wayI ts m o + k, ((o : Nat) : Int))]).map pairD)), ?_, set_other hnq hp4, by simp [hq], by simp [hlen], ⟨fun p hp => ?_, ?_⟩, by omega, ho, .inr (by simp), by omega, ?_, fun p hp => ?_⟩
  · rw [List.map_append, List.map_singleton]
    have y0 : ∀ s, ixD (pairD (t, (m : Int))) (.int 0) s = .ok (.int t) s := fun s => ix_pair0 s _
    have y1 : ∀ s, ixD (pairD (t, (m : Int))) (.int 1) s = .ok (.int m) s := fun s => ix_pair1 s _
    have ln : lenF [tupI ts] st = .ok (.int ts.length) st := by simp [tupI]
    have sm : sumF [tupI ts] s2 = .ok (.int ts.sum) s2 := by simp
    have hpd : pairD (t + wayI ts m o + k, ((o : Nat) : Int)) = .tup [.int (t + wayI ts m o + k), .int o] := rfl
    rw [hpd] at ap ⊢
    generalize wayI ts m o = wk at *
    generalize pairD (t, (m : Int)) = pt at *
    generalize htd : tupI ts = tsd at *
    simp [-Int.natCast_add, rowBodyK, ln, e1, y0, y1, r1, e2, sm, e3, mk, e4, il, ap]
  · rcases List.mem_append.mp hp with hp | hp
    · exact hok.ok p hp
    · rw [List.mem_singleton.mp hp]; exact mo
  · refine row_snoc hT hok.ok mo hok.row ?_
    rcases hlast with ⟨h1, _⟩ | h1
    · exact .inl h1
    · refine .inr ⟨_, h1, ?_⟩
      unfold followB
      apply decide_eq_true
      simp only [Int.toNat_natCast]
      omega
  · rw [Int.natCast_add, Int.add_mul]; omega
  · rcases List.mem_append.mp hp with hp | hp
    · have := hall p hp; omega
    · rw [List.mem_singleton.mp hp]; exact ⟨by show b0.1 ≤ t + wayI ts m o + k; omega, Int.le_refl _⟩
theorem rowK_ok {FD : FA} (hD : Draw FD) {ts : List Int} (hT : Trk ts) (hs : ts.sum ≤ 1000000000000) {st : Sto} {n k : Nat} {p0 : P2} (hp : Pool n st) (hk : k < 1000) (h0 : MatOk ts p0) :
    ∃ b st', runF 4 10 (rowK FD (pickK FD)) [.mut n, tupI ts, pairD p0, .int k] st = .ok (bagD b) st' ∧ Pool n st' ∧ b.length = k ∧ RowOk ts b ∧ ∀ p ∈ b, p0.1 ≤ p.1 ∧ p.1 ≤ p0.1 + k * (3 * ts.sum + 3) := by
  have hbig := big_ge
  have hsp := sum_pos hT
  have hl0 := hT.pos
  obtain ⟨t0, mi⟩ := p0
  obtain ⟨p1, p2, p3⟩ := h0
  simp only at p1 p2 p3
  obtain ⟨m0, rfl⟩ := Int.eq_ofNat_of_zero_le p2
  have hn : n < st.length := by obtain ⟨a, b, c, h⟩ := hp; exact (List.getElem?_eq_some_iff.mp h).1
  have hp1 : Pool n (st ++ [.lst []]) := by
    obtain ⟨a, b, c, h⟩ := hp
    exact ⟨a, b, c, by rw [List.getElem?_append_left hn]; exact h⟩
  have mk : mulOk 2 ts.sum := mulOk_lit' (by decide)
  obtain ⟨d, s1, e1, hd, hp2, ef⟩ := oneA_lst hD.below (xs := [.int 1, .int 3, .int (2 * ts.sum)]) hp1 (by simp) (by simp)
  obtain ⟨w, rfl, w0, w1⟩ : ∃ w : Int, d = .int w ∧ 1 ≤ w ∧ (w ≤ 2 * ts.sum ∨ w ≤ 3) := by
    simp at hd
    rcases hd with rfl | rfl | rfl
    · exact ⟨1, rfl, by omega, by omega⟩
    · exact ⟨3, rfl, by omega, by omega⟩
    · exact ⟨_, rfl, by omega, by omega⟩
  have hq1 : s1[st.length]? = some (.lst []) := by rw [ef.2 _ (by omega)]; simp
  obtain ⟨env', s', e, b, t, m, o7, o8, o9, rfl, h⟩ := loop_nx (g := tgT (.nm 7)) (body := rowBodyK FD (pickK FD))
    (fun j env s => ∃ (b : List P2) (t : Int) (m : Nat) (o7 o8 o9 : Option D), env = [some (.mut n), some (tupI ts), some (pairD (t0, (m0 : Int))), some (.int k), some (.mut st.length), some (pairD (t, ((m : Nat) : Int))), some (.int w), o7, o8, o9] ∧ RowAt ts n st.length j (t0, (m0 : Int)) (3 * ts.sum + 3) b t m s)
    (xs := rangeD 0 k) (env := [some (.mut n), some (tupI ts), some (pairD (t0, (m0 : Int))), some (.int k), some (.mut st.length), some (pairD (t0, (m0 : Int))), some (.int w), none, none, none]) (st := s1)
    ⟨[], t0, m0, none, none, none, rfl, ⟨hp2, by simpa using hq1, rfl, ⟨by simp, List.Pairwise.nil⟩, p1, by omega, .inl ⟨rfl, rfl⟩, Int.le_refl _, by simp, by simp⟩⟩
    (by
      rintro j x env s hx ⟨b, t, m, o7, o8, o9, rfl, h⟩
      obtain ⟨rfl, hj⟩ := range_get hx
      obtain ⟨b', t', m', q8, q9, st', e, h'⟩ := rowK_turn hD hT hs w0 w1 (by omega) (by omega) h (some (pairD (t0, (m0 : Int)))) (some (.int k)) (some (.int (0 + j))) o8 o9
      refine ⟨_, st', ?_, b', t', m', some (.int (0 + j)), q8, q9, rfl, h'⟩
      simp only [Int.zero_add] at e ⊢
      simp [e])
  rw [rangeD_length] at h
  have hat := h.at_
  have tf : tupleF [.mut st.length] s' = .ok (bagD b) s' := by
    show (match seqOf (.mut st.length) s' with | some xs => _ | none => _) = _
    have : seqOf (.mut st.length) s' = some (b.map pairD) := by simp [seqOf, hat]
    rw [this]; rfl
  refine ⟨b, s', ?_, h.pool, h.len, h.ok, fun p hp => by
    have h1 := h.all p hp
    have h2 := h.le
    simp only at h1 h2 ⊢
    exact ⟨h1.1, by omega⟩⟩
  have k8 : k < 4611686018427387904 := by omega
  have sm : sumF [tupI ts] (st ++ [.lst []]) = .ok (.int ts.sum) (st ++ [.lst []]) := by simp
  have ps : ∀ (env : G.Env) (st : Sto) (fs : EvA), parS3 4 5 6 fs env st = bindS (fs env st) env fun as s1 => match as with
    | [a, b, c] => .nx (((env.set 4 (some a)).set 5 (some b)).set 6 (some c)) s1
    | _ => .fail := fun _ _ _ => rfl
  rw [rowK_eq]
  generalize pairD (t0, (m0 : Int)) = pt at *
  generalize tupI ts = tsd at *
  simp [runF, ps, sm, mk, e1, k8, e, tf]
/-- bags -/
def kpL (ps : List P2) : List (List L2.Key × L2.V) := ps.map fun p => ([.inl p.1, .inl p.2], .bl true)
theorem kpL_get (ps : List P2) (p : P2) : (L2.valV (kpL ps) [.inl p.1, .inl p.2]).isSome = decide (p ∈ ps) := by
  rw [← L2.valV_any, kpL, List.any_map]
  rw [Bool.eq_iff_iff, List.any_eq_true, decide_eq_true_iff]
  constructor
  · rintro ⟨q, hq, h⟩
    have h : ([.inl q.1, .inl q.2] : List L2.Key) = [.inl p.1, .inl p.2] := by simpa using h
    injection h with h1 h2
    injection h1 with h1
    injection h2 with h2 _
    injection h2 with h2
    rw [show p = q from Prod.ext h1.symm h2.symm]; exact hq
  · intro h
    exact ⟨p, h, by simp⟩
theorem kpL_put (ps : List P2) (p : P2) : L2.putK (kpL ps) [.inl p.1, .inl p.2] (.bl true) = kpL (if p ∈ ps then ps else ps ++ [p]) := by
  have hg := kpL_get ps p
  by_cases h : p ∈ ps
  · rw [if_pos h]
    have e : (L2.valV (kpL ps) [.inl p.1, .inl p.2]).isSome = true := by rw [hg]; exact decide_eq_true h
    unfold L2.putK
    rw [L2.valV_any, if_pos e]
    have : ∀ q ∈ kpL ps, (if q.1 = ([.inl p.1, .inl p.2] : List L2.Key) then (q.1, L2.V.bl true) else q) = q := by
      intro q hq
      unfold kpL at hq
      obtain ⟨r, _, rfl⟩ := List.mem_map.mp hq
      simp
    rw [List.map_congr_left this]; simp
  · rw [if_neg h]
    have e : L2.valV (kpL ps) [.inl p.1, .inl p.2] = none := by
      have : (L2.valV (kpL ps) [.inl p.1, .inl p.2]).isSome = false := by rw [hg]; exact decide_eq_false h
      simpa using this
    rw [L2.putK_new _ e]
    unfold kpL
    rw [List.map_append]; rfl
theorem keysL_kp (ps : List P2) : keysL (kpL ps) = ps.map pairD := by
  unfold keysL kpL
  rw [List.map_map]
  rfl
theorem bagK_ok {FD : FA} (hD : Draw FD) {ts : List Int} (hT : Trk ts) (hs : ts.sum ≤ 1000000000000) {st : Sto} {n k : Nat} (hp : Pool n st) (hk : k ≤ 30) :
    ∃ b st', runF 3 6 (bagK FD (pickK FD)) [.mut n, tupI ts, .int k] st = .ok (bagD b) st' ∧ Pool n st' ∧ b.length ≤ k ∧ BagOk ts b ∧ ∀ p ∈ b, p.1 ≤ 5 * ts.sum + 20 := by
  have hbig := big_ge
  have hsp := sum_pos hT
  have hl0 := hT.pos
  have h8 := hT.le
  have hn : n < st.length := by obtain ⟨a, b, c, h⟩ := hp; exact (List.getElem?_eq_some_iff.mp h).1
  have hp1 : Pool n (st ++ [.dt []]) := by
    obtain ⟨a, b, c, h⟩ := hp
    exact ⟨a, b, c, by rw [List.getElem?_append_left hn]; exact h⟩
  have mk : mulOk 5 ts.sum := mulOk_lit' (by decide)
  obtain ⟨d, s1, e1, hd, hp2, ef⟩ := oneA_lst hD.below (xs := [.int 3, .int 20, .int (5 * ts.sum)]) hp1 (by simp) (by simp)
  obtain ⟨w, rfl, w0, w1⟩ : ∃ w : Int, d = .int w ∧ 1 ≤ w ∧ w ≤ 5 * ts.sum + 20 := by
    simp at hd
    rcases hd with rfl | rfl | rfl
    · exact ⟨3, rfl, by omega, by omega⟩
    · exact ⟨20, rfl, by omega, by omega⟩
    · exact ⟨_, rfl, by omega, by omega⟩
  have hq1 : s1[st.length]? = some (.dt (kpL [])) := by rw [ef.2 _ (by omega)]; simp [kpL]
  have ln : ∀ s, lenF [tupI ts] s = .ok (.int ts.length) s := fun s => by simp [tupI]
  obtain ⟨env', s', e, ps, o5, rfl, hq, hp', hnd, hl, hok⟩ := loop_nx (g := tgT (.nm 5)) (body := putTS (cE (.bl true)) (varE 3) (consA (callE FD (consA (varE 0) (consA (varE 4) (nilA)))) (consA (callE FD (consA (varE 0) (consA (callE lenF (consA (varE 1) (nilA))) (nilA)))) (nilA))))
    (fun j env s => ∃ (ps : List P2) (o5 : Option D), env = [some (.mut n), some (tupI ts), some (.int k), some (.mut st.length), some (.int w), o5] ∧ s[st.length]? = some (.dt (kpL ps)) ∧ Pool n s ∧ ps.Nodup ∧ ps.length ≤ j ∧ ∀ p ∈ ps, MatOk ts p ∧ p.1 ≤ 5 * ts.sum + 20)
    (xs := rangeD 0 k) (env := [some (.mut n), some (tupI ts), some (.int k), some (.mut st.length), some (.int w), none]) (st := s1)
    ⟨[], none, rfl, hq1, hp2, .nil, Nat.le_refl _, by simp⟩
    (by
      rintro j x env s hx ⟨ps, o5, rfl, hq, hp, hnd, hl, hok⟩
      obtain ⟨rfl, hj⟩ := range_get hx
      obtain ⟨g, s2, e2, g0, g1, hp2, ef2⟩ := hD (m := w) hp (by omega) (by omega)
      obtain ⟨m, s3, e3, m0, m1, hp3, ef3⟩ := hD (m := ts.length) hp2 (by omega) (by omega)
      have hq3 : s3[st.length]? = some (.dt (kpL ps)) := by rw [ef3.2 _ (by omega), ef2.2 _ (by omega)]; exact hq
      have hql := (List.getElem?_eq_some_iff.mp hq3).1
      have hpl : (kpL ps).length < 16777216 := by simp [kpL]; omega
      have hput := kpL_put ps (g, m)
      simp only at hput
      have tk : tKeyD (.mut st.length) [.int g, .int m] (.bl true) s3 = some (s3.set st.length (.dt (kpL (if (g, m) ∈ ps then ps else ps ++ [(g, m)])))) := by
        unfold tKeyD
        simp only [hq3, keysOf, G.keyOf, G.scal, hpl, if_true, hput]
      refine ⟨_, _, ?_, if (g, m) ∈ ps then ps else ps ++ [(g, m)], some (.int (0 + j)), rfl, List.getElem?_set_self hql, set_other (by omega) hp3, ?_, ?_, ?_⟩
      · generalize (if (g, m) ∈ ps then ps else ps ++ [(g, m)]) = np at *
        simp [putTS, e2, ln, e3, tk]
      · split
        · exact hnd
        · rename_i h
          rw [List.nodup_append]
          exact ⟨hnd, by simp, fun a ha b hb => by rw [List.mem_singleton.mp hb]; rintro rfl; exact h ha⟩
      · split
        · omega
        · simp; omega
      · intro p hp
        split at hp
        · exact hok p hp
        · rcases List.mem_append.mp hp with hp | hp
          · exact hok p hp
          · rw [List.mem_singleton.mp hp]; exact ⟨⟨g0, m0, m1⟩, by show g ≤ _; omega⟩)
  rw [rangeD_length] at hl
  have lt : listTF [.mut st.length] s' = .ok (.lst (ps.map pairD)) s' := by
    unfold listTF
    simp only [hq]
    rw [keysL_kp]
  have sr := srtF_pairs ps s'
  rw [srtP_ssP hnd] at sr
  have tf : tupleF [.lst ((ssP ps).map pairD)] s' = .ok (bagD (ssP ps)) s' := rfl
  refine ⟨ssP ps, s', ?_, hp', Nat.le_trans (length_ssP ps) hl, bag_of (fun p hp => (hok p hp).1) (by omega), fun p hp => (hok p (mem_ssP.mp hp)).2⟩
  have k8 : k < 4611686018427387904 := by omega
  have sm : sumF [tupI ts] (st ++ [.dt []]) = .ok (.int ts.sum) (st ++ [.dt []]) := by simp
  have pss : ∀ (env : G.Env) (st : Sto) (fs : EvA), parS 3 4 fs env st = bindS (fs env st) env fun as s1 => match as with
    | [a, b] => .nx ((env.set 3 (some a)).set 4 (some b)) s1
    | _ => .fail := fun _ _ _ => rfl
  generalize (ssP ps).map pairD = sd at *
  generalize ps.map pairD = pd at *
  generalize tupI ts = tsd at *
  simp [runF, bagK, pss, newKE, newTE, sm, mk, e1, k8, e, lt, sr, tf]
end Lap

namespace Lap
open PySem G
/-! bags called otherwise (turned, backward, without a mat), and texts of bags -/
def allP (ts : List Int) (b : List P2) : Prop := ∀ p ∈ b, ∀ q ∈ b, p ≠ q → followB ts p q = true ∨ followB ts q p = true
theorem rowP_all {ts : List Int} {b : List P2} (hT : Trk ts) (h : BagOk ts b) : RowP ts b ↔ allP ts b := by
  constructor
  · intro hr p hp q hq hne
    obtain ⟨i, hi, rfl⟩ := List.mem_iff_getElem.mp hp
    obtain ⟨j, hj, rfl⟩ := List.mem_iff_getElem.mp hq
    have hr := List.pairwise_iff_getElem.mp hr
    rcases Nat.lt_trichotomy i j with hlt | hlt | hlt
    · exact .inr (hr i j hi hj hlt)
    · subst hlt; exact absurd rfl hne
    · exact .inl (hr j i hj hi hlt)
  · intro ha
    refine List.pairwise_iff_getElem.mpr fun i j hi hj hij => ?_
    have hup := List.pairwise_iff_getElem.mp h.up i j hi hj hij
    have hm := List.getElem_mem hi
    have hm2 := List.getElem_mem hj
    have hne : b[j] ≠ b[i] := fun z => by rw [z] at hup; exact ltP2_irr _ hup
    rcases ha _ hm2 _ hm hne with f | f
    · exact f
    · exfalso
      have f' : b[i].1 - b[j].1 ≥ wayI ts b[j].2.toNat b[i].2.toNat := of_decide_eq_true f
      have := way_pos hT (m := b[j].2.toNat) (o := b[i].2.toNat) (by have := (h.ok _ hm2).2; omega) (by have := (h.ok _ hm).2; omega)
      unfold ltP2 at hup
      omega
theorem bag_nodup {ts : List Int} {b : List P2} (h : BagOk ts b) : b.Nodup := h.up.imp fun {a b} q z => by subst z; exact ltP2_irr _ q
theorem map_nodup {b : List P2} {T : P2 → P2} (h : b.Nodup) (inj : ∀ p ∈ b, ∀ q ∈ b, T p = T q → p = q) : (b.map T).Nodup := by
  refine List.pairwise_map.mpr (List.Pairwise.imp_of_mem (fun {a c} ha hc q z => q (inj a ha c hc z)) h)
/-- a bag whose marks are called otherwise -/
theorem map_bag {ts ts' : List Int} {b : List P2} {T : P2 → P2} (h : BagOk ts b) (inj : ∀ p ∈ b, ∀ q ∈ b, T p = T q → p = q) (hm : ∀ p ∈ b, MatOk ts' (T p)) : BagOk ts' (srtP (b.map T)) := by
  rw [srtP_ssP (map_nodup (bag_nodup h) inj)]
  refine bag_of (fun p hp => ?_) (by rw [List.length_map]; exact h.len)
  obtain ⟨q, hq, rfl⟩ := List.mem_map.mp hp
  exact hm q hq
theorem map_row {ts ts' : List Int} {b : List P2} {T : P2 → P2} (hT : Trk ts) (hT' : Trk ts') (h : BagOk ts b) (inj : ∀ p ∈ b, ∀ q ∈ b, T p = T q → p = q) (hm : ∀ p ∈ b, MatOk ts' (T p)) (hf : ∀ p ∈ b, ∀ q ∈ b, followB ts' (T p) (T q) = followB ts p q) :
    RowP ts' (srtP (b.map T)) ↔ RowP ts b := by
  rw [rowP_all hT' (map_bag h inj hm), rowP_all hT h]
  have hmem : ∀ x, x ∈ srtP (b.map T) ↔ ∃ p ∈ b, T p = x := fun x => by rw [perm_srtP.mem_iff, List.mem_map]
  constructor
  · intro ha p hp q hq hne
    have := ha (T p) ((hmem _).mpr ⟨p, hp, rfl⟩) (T q) ((hmem _).mpr ⟨q, hq, rfl⟩) (fun z => hne (inj p hp q hq z))
    rwa [hf p hp q hq, hf q hq p hp] at this
  · intro ha x hx y hy hne
    obtain ⟨p, hp, rfl⟩ := (hmem x).mp hx
    obtain ⟨q, hq, rfl⟩ := (hmem y).mp hy
    rw [hf p hp q hq, hf q hq p hp]
    exact ha p hp q hq fun z => hne (by rw [z])
theorem srtP_perm {a b : List P2} (h : a.Perm b) : srtP a = srtP b := sortedW_unique sorted_srtP sorted_srtP (perm_srtP.trans (h.trans perm_srtP.symm))
/-! == of bags -/
theorem eqv_pairs : ∀ a b : List P2, PyData.eqvAll (a.map pairPD) (b.map pairPD) = decide (a = b)
  | [], [] => by simp [PyData.eqvAll]
  | [], _ :: _ => by simp [PyData.eqvAll]
  | _ :: _, [] => by simp [PyData.eqvAll]
  | x :: a, y :: b => by
    simp only [List.map_cons, PyData.eqvAll, eqv_pairs a b, eqv_pair]
    by_cases h : x = y <;> by_cases g : a = b <;> simp [h, g]
theorem eqO_bags (a b : List P2) : eqO (bagD a) (bagD b) = some (decide (a = b)) := by
  unfold eqO
  have h1 : scalD (bagD a) (bagD b) = none := rfl
  have h2 : ∀ b, toPD (bagD b) = some (.tuple (b.map pairPD)) := fun b => by unfold bagD toPD; rw [toPDs_pairs]; rfl
  rw [h1, h2, h2]
  show (if SeqAt.shaped (.tuple (a.map pairPD)) = true ∧ SeqAt.shaped (.tuple (b.map pairPD)) = true then _ else _) = _
  rw [if_pos ⟨(shaped_pairs a).2, (shaped_pairs b).2⟩]
  simp [PyData.eqv, eqv_pairs]
theorem ne_bags (a b : List P2) (st : Sto) : neD (bagD a) (bagD b) st = .ok (.bl (!decide (a = b))) st := by unfold neD; rw [eqO_bags]
theorem eq_bags (a b : List P2) (st : Sto) : eqD (bagD a) (bagD b) st = .ok (.bl (decide (a = b))) st := by unfold eqD; rw [eqO_bags]
@[simp] theorem neD_bl (a b : Bool) (st : Sto) : neD (.bl a) (.bl b) st = .ok (.bl (!decide (a = b))) st := by unfold neD eqO scalD; simp
/-! texts -/
theorem r_ints : ∀ ns : List Int, (∀ x ∈ ns, x.natAbs < 2 ^ 400) → rOkL (ns.map D.int) = true ∧ rWtL (ns.map D.int) = 402 * ns.length ∧ rDpL (ns.map D.int) = 0
  | [], _ => by simp [rOkL, rWtL, rDpL]
  | n :: ns, h => by
    obtain ⟨h1, h2, h3⟩ := r_ints ns fun x hx => h x (List.mem_cons_of_mem _ hx)
    have := h n List.mem_cons_self
    simp only [List.map_cons, rOkL, rOk, rWtL, rWt, rDpL, rDp, h1, h2, h3, List.length_cons]
    refine ⟨by simpa using this, by omega, by simp⟩
theorem r_tupI {ns : List Int} (h : ∀ x ∈ ns, x.natAbs < 2 ^ 400) : rOk (tupI ns) = true ∧ rWt (tupI ns) = 402 * ns.length ∧ rDp (tupI ns) = 1 := by
  obtain ⟨h1, h2, h3⟩ := r_ints ns h
  unfold tupI
  simp [rOk, rWt, rDp, h1, h2, h3]
theorem r_pairs : ∀ b : List P2, (∀ p ∈ b, p.1.natAbs < 2 ^ 400 ∧ p.2.natAbs < 2 ^ 400) → rOkL (b.map pairD) = true ∧ rWtL (b.map pairD) = 805 * b.length ∧ rDpL (b.map pairD) ≤ 1
  | [], _ => by simp [rOkL, rWtL, rDpL]
  | p :: b, h => by
    obtain ⟨h1, h2, h3⟩ := r_pairs b fun x hx => h x (List.mem_cons_of_mem _ hx)
    have hp := h p List.mem_cons_self
    have q1 : rOk (pairD p) = true := by simp [pairD, rOk, rOkL, hp.1, hp.2]
    have q2 : rWt (pairD p) = 804 := by simp [pairD, rWt, rWtL]
    have q3 : rDp (pairD p) = 1 := by simp [pairD, rDp, rDpL]
    simp only [List.map_cons, rOkL, rWtL, rDpL, h1, h2, q1, q2, q3, List.length_cons]
    refine ⟨by simp, by omega, by omega⟩
theorem r_bag {b : List P2} (h : ∀ p ∈ b, p.1.natAbs < 2 ^ 400 ∧ p.2.natAbs < 2 ^ 400) : rOk (bagD b) = true ∧ rWt (bagD b) = 805 * b.length ∧ rDp (bagD b) ≤ 2 := by
  obtain ⟨h1, h2, h3⟩ := r_pairs b h
  unfold bagD
  simp only [rOk, rWt, rDp]
  exact ⟨h1, h2, by omega⟩
theorem repr_bl (b : Bool) (st : Sto) : reprF [.bl b] st = .ok (.str (shD (.bl b))) st := reprF_ok st rfl (by simp [rWt]) (by simp [rDp])
theorem repr_two {a b : D} (st : Sto) (ha : rOk a = true ∧ rWt a ≤ 15000 ∧ rDp a ≤ 10) (hb : rOk b = true ∧ rWt b ≤ 15000 ∧ rDp b ≤ 10) : reprF [.lst [a, b]] st = .ok (.str (shD (.lst [a, b]))) st :=
  reprF_ok st (by simp [rOk, rOkL, ha.1, hb.1]) (by simp only [rWt, rWtL]; omega) (by simp only [rDp, rDpL]; omega)
theorem repr_three {a b c : D} (st : Sto) (ha : rOk a = true ∧ rWt a ≤ 10000 ∧ rDp a ≤ 10) (hb : rOk b = true ∧ rWt b ≤ 10000 ∧ rDp b ≤ 10) (hc : rOk c = true ∧ rWt c ≤ 10000 ∧ rDp c ≤ 10) : reprF [.lst [a, b, c]] st = .ok (.str (shD (.lst [a, b, c]))) st :=
  reprF_ok st (by simp [rOk, rOkL, ha.1, hb.1, hc.1]) (by simp only [rWt, rWtL]; omega) (by simp only [rDp, rDpL]; omega)
/-! the law's rows -/
theorem f_law_can_followK (st : Sto) {ts : List Int} (hl : ts.length ≤ 100) {p q : P2} (hp : MatOk ts p) (hq : MatOk ts q) : F__law_can_follow_v2 [tupI ts, pairD p, pairD q] st = .ok (.bl (followB ts p q)) st := by
  have p2 := hp.2
  have q2 := hq.2
  obtain ⟨m, hm⟩ := Int.eq_ofNat_of_zero_le p2.1
  obtain ⟨o, ho⟩ := Int.eq_ofNat_of_zero_le q2.1
  have e := f_law_wayK st (ts := ts) (m := o) (o := m) (by rw [ho] at q2; omega) (by rw [hm] at p2; omega) hl
  rw [← hm, ← ho] at e
  have hf : followB ts p q = decide (wayI ts o m ≤ p.1 - q.1) := by
    unfold followB
    rw [hm, ho]
    rfl
  rw [hf]
  generalize wayI ts o m = w at *
  simp [F__law_can_follow_v2, runF, B__law_can_follow_v2, e]
theorem f_law_is_row (st : Sto) {ts : List Int} (hl : ts.length ≤ 100) {b : List P2} (hb : ∀ p ∈ b, MatOk ts p) (h30 : b.length ≤ 1000) : F__law_is_row [tupI ts, bagD b] st = .ok (.bl (decide (wrongI ts b = []))) st := by
  have e := wrong_lc st (FC := F__law_can_follow_v2) (fun p hp q hq => f_law_can_followK st hl (hb p hp) (hb q hq)) h30
  have e2 := eq_lstI_nil st (wrongI ts b)
  have k2 : ((b.length : Int) - 1).toNat = b.length - 1 := by omega
  have k3 : b.length < 4611686018427387904 := by omega
  unfold lstI at e2
  generalize decide (wrongI ts b = []) = v at *
  generalize (wrongI ts b).map D.int = l at *
  simp [F__law_is_row, runF, B__law_is_row, k2, k3, e, e2]
end Lap

namespace Lap
open PySem G
/-! bags turned -/
def turnT (M : Nat) (k : Int) (p : P2) : P2 := (p.1, (p.2 - k) % (M : Int))
def turnB (ts : List Int) (k : Int) (b : List P2) : List P2 := srtP (b.map (turnT ts.length k))
theorem list_at {a b : List Int} (hl : a.length = b.length) (h : ∀ i, at_ a i = at_ b i) : a = b := by
  refine List.ext_getElem hl fun i h1 h2 => ?_
  have := h i
  unfold at_ at this
  rw [Nat.mod_eq_of_lt h1, Nat.mod_eq_of_lt h2] at this
  simpa [List.getD_eq_getElem?_getD, h1, h2] using this
theorem turn_two {ts : List Int} (h0 : 0 < ts.length) (k j : Nat) : turnL (turnL ts (k % ts.length)) (j % ts.length) = turnL ts ((k + j) % ts.length) := by
  have m1 := Nat.mod_lt k h0
  have m2 := Nat.mod_lt j h0
  have m3 := Nat.mod_lt (k + j) h0
  have l1 : (turnL ts (k % ts.length)).length = ts.length := turn_len ts _ m1
  refine list_at (by rw [turn_len _ _ (by rw [l1]; exact m2), l1, turn_len ts _ m3]) fun i => ?_
  rw [turn_at (by rw [l1]; exact m2), turn_at m1, turn_at m3]
  unfold at_
  congr 1
  rw [Nat.mod_add_mod, Nat.mod_add_mod, show k + (j % ts.length + i) = j % ts.length + (k + i) by omega, Nat.mod_add_mod]
  congr 1
  omega
theorem turnT_ok {ts : List Int} (h0 : 0 < ts.length) {r : Nat} (hr : r < ts.length) (k : Int) {p : P2} (h : MatOk ts p) : MatOk (turnL ts r) (turnT ts.length k p) := by
  refine ⟨h.1, Int.emod_nonneg _ (by omega), ?_⟩
  rw [turn_len ts r hr]
  exact Int.emod_lt_of_pos _ (by omega)
theorem turnT_inj {ts : List Int} (k : Int) {p q : P2} (hp : MatOk ts p) (hq : MatOk ts q) (h : turnT ts.length k p = turnT ts.length k q) : p = q := by
  unfold turnT at h
  have h1 := congrArg Prod.fst h
  have h2 := congrArg Prod.snd h
  simp only at h1 h2
  have p2 := hp.2
  have q2 := hq.2
  have e : ((p.2 - k) - (q.2 - k)) % (ts.length : Int) = 0 := Int.emod_eq_emod_iff_emod_sub_eq_zero.mp h2
  rw [show p.2 - k - (q.2 - k) = p.2 - q.2 by omega] at e
  have : p.2 - q.2 = 0 := by
    by_cases hd : 0 ≤ p.2 - q.2
    · rwa [Int.emod_eq_of_lt hd (by omega)] at e
    · rw [← Int.add_emod_right, Int.emod_eq_of_lt (by omega) (by omega)] at e
      omega
  exact Prod.ext h1 (by omega)
theorem back_mod {M : Nat} (h0 : 0 < M) (k m : Nat) (hm : m < M) : ((((m : Int) - (k : Int)) % (M : Int)).toNat + k) % M = m := by
  have h1 := Int.emod_nonneg ((m : Int) - k) (show (M : Int) ≠ 0 by omega)
  have h2 : ((((m : Int) - (k : Int)) % (M : Int)).toNat : Int) = ((m : Int) - k) % M := by omega
  have h3 : (((((m : Int) - (k : Int)) % (M : Int)).toNat + k : Nat) : Int) % (M : Int) = (m : Int) := by
    rw [Int.natCast_add, h2, Int.emod_add_emod, show (m : Int) - k + k = m by omega, Int.emod_eq_of_lt (by omega) (by omega)]
  have h4 : ((((((m : Int) - (k : Int)) % (M : Int)).toNat + k) % M : Nat) : Int) = (m : Int) := by rw [Int.natCast_emod]; exact h3
  omega
theorem turn_wayK {ts : List Int} (h0 : 0 < ts.length) (k m o : Nat) (hm : m < ts.length) (ho : o < ts.length) :
    wayI (turnL ts (k % ts.length)) (((m : Int) - (k : Int)) % (ts.length : Int)).toNat (((o : Int) - (k : Int)) % (ts.length : Int)).toNat = wayI ts m o := by
  have a1 := Int.emod_nonneg ((m : Int) - k) (show (ts.length : Int) ≠ 0 by omega)
  have a2 := Int.emod_lt_of_pos ((m : Int) - k) (show (0 : Int) < ts.length by omega)
  have b1 := Int.emod_nonneg ((o : Int) - k) (show (ts.length : Int) ≠ 0 by omega)
  have b2 := Int.emod_lt_of_pos ((o : Int) - k) (show (0 : Int) < ts.length by omega)
  rw [turn_way (by omega) (by omega), back_mod h0 k m hm, back_mod h0 k o ho]
theorem turnT_follow {ts : List Int} (h0 : 0 < ts.length) (k : Nat) {p q : P2} (hp : MatOk ts p) (hq : MatOk ts q) : followB (turnL ts (k % ts.length)) (turnT ts.length k p) (turnT ts.length k q) = followB ts p q := by
  have p2 := hp.2
  have q2 := hq.2
  obtain ⟨m, hm⟩ := Int.eq_ofNat_of_zero_le p2.1
  obtain ⟨o, ho⟩ := Int.eq_ofNat_of_zero_le q2.1
  unfold followB turnT
  simp only
  rw [hm, ho, turn_wayK h0 k o m (by rw [ho] at q2; omega) (by rw [hm] at p2; omega)]
  rfl
theorem turnB_two {ts : List Int} (h0 : 0 < ts.length) (k j : Nat) (b : List P2) : turnB (turnL ts (k % ts.length)) j (turnB ts k b) = turnB ts ((k : Int) + (j : Int)) b := by
  unfold turnB
  rw [turn_len ts _ (Nat.mod_lt k h0)]
  refine srtP_perm ((perm_srtP.map _).trans ?_)
  rw [List.map_map]
  have : (turnT ts.length (j : Int) ∘ turnT ts.length (k : Int)) = turnT ts.length ((k : Int) + (j : Int)) := by
    funext p
    unfold turnT
    simp only [Function.comp]
    congr 1
    rw [Int.sub_emod, Int.emod_emod, ← Int.sub_emod]
    congr 1
    omega
  rw [this]
section
variable (st : Sto)
theorem f_turned_lc {ts : List Int} (h0 : 0 < ts.length) (b : List P2) (hb : b.length ≤ 1000) (k : Int) (envw : G.Env) (hl : 4 < envw.length) (e0 : envw[0]? = some (some (tupI ts))) (e2 : envw[2]? = some (some (.int k))) :
    lcF (.tp [.nm 3, .nm 4]) yesB (tupE (consA (varE 3) (consA (binE modD (callE intF (consA (binE subD (varE 4) (varE 2)) (nilA))) (callE lenF (consA (varE 0) (nilA)))) (nilA)))) envw (b.map pairD) st [] = .ok ((b.map (turnT ts.length k)).map pairD) st := by
  have e := lc_typed (t := .tp [.nm 3, .nm 4]) (fe := tupE (consA (varE 3) (consA (binE modD (callE intF (consA (binE subD (varE 4) (varE 2)) (nilA))) (callE lenF (consA (varE 0) (nilA)))) (nilA)))) (envw := envw) (st := st) pairD (fun p => pairD (turnT ts.length k p)) b [] (by simp; omega) (by
    intro p hp
    have ln : lenF [tupI ts] st = .ok (.int ts.length) st := by simp [tupI]
    refine ⟨(envw.set 3 (some (.int p.1))).set 4 (some (.int p.2)), by simp [pairD, Tg.set, Tg.sets], ?_⟩
    have v0 : varE 0 ((envw.set 3 (some (.int p.1))).set 4 (some (.int p.2))) st = .ok (tupI ts) st := by unfold varE; rw [List.getElem?_set_ne (by decide), List.getElem?_set_ne (by decide), e0]
    have v2 : varE 2 ((envw.set 3 (some (.int p.1))).set 4 (some (.int p.2))) st = .ok (.int k) st := by unfold varE; rw [List.getElem?_set_ne (by decide), List.getElem?_set_ne (by decide), e2]
    have v3 : varE 3 ((envw.set 3 (some (.int p.1))).set 4 (some (.int p.2))) st = .ok (.int p.1) st := by unfold varE; rw [List.getElem?_set_ne (by decide), List.getElem?_set_self (by omega)]
    have v4 : varE 4 ((envw.set 3 (some (.int p.1))).set 4 (some (.int p.2))) st = .ok (.int p.2) st := by unfold varE; rw [List.getElem?_set_self (by simp; omega)]
    generalize tupI ts = tsd at *
    simp [v0, v2, v3, v4, ln, h0]
    rfl)
  rw [List.nil_append] at e
  rw [e, List.map_map]; rfl
theorem f_bag_turned {ts : List Int} (hT : Trk ts) {b : List P2} (hb : BagOk ts b) (k : Nat) : F_bag_turned [tupI ts, bagD b, .int k] st = .ok (bagD (turnB ts k b)) st := by
  have h0 : 0 < ts.length := hT.pos
  have e := f_turned_lc st h0 b (by have := hb.len; omega) k [some (tupI ts), some (bagD b), some (.int k), none, none] (by simp) rfl rfl
  have sr := srtF_pairs (b.map (turnT ts.length k)) st
  have tf : tupleF [.lst ((srtP (b.map (turnT ts.length k))).map pairD)] st = .ok (bagD (turnB ts k b)) st := rfl
  have ib : iterD (bagD b) st = .ok (.frz (b.map pairD)) st := rfl
  have c1 := f_check_track st hT
  have c2 := f_check_bag st hb
  generalize bagD (turnB ts k b) = res at *
  generalize (srtP (b.map (turnT ts.length k))).map pairD = r1 at *
  generalize (b.map (turnT ts.length k)).map pairD = r2 at *
  simp [F_bag_turned, runF, B_bag_turned, F_check_bagged, B_check_bagged, c1, c2, f_check_from_nought, F_bag_turned_by, B_bag_turned_by, ib, e, F_in_order, B_in_order, sr, tf]
theorem f_law_bag_turned {ts : List Int} (h0 : 0 < ts.length) {b : List P2} (hb : b.length ≤ 1000) (k : Int) : F__law_bag_turned [tupI ts, bagD b, .int k] st = .ok (bagD (turnB ts k b)) st := by
  have e := f_turned_lc st h0 b hb k [some (tupI ts), some (bagD b), some (.int k), none, none] (by simp) rfl rfl
  have sr := srtF_pairs (b.map (turnT ts.length k)) st
  have tf : tupleF [.lst ((srtP (b.map (turnT ts.length k))).map pairD)] st = .ok (bagD (turnB ts k b)) st := rfl
  have ib : iterD (bagD b) st = .ok (.frz (b.map pairD)) st := rfl
  generalize bagD (turnB ts k b) = res at *
  generalize (srtP (b.map (turnT ts.length k))).map pairD = r1 at *
  generalize (b.map (turnT ts.length k)).map pairD = r2 at *
  simp [F__law_bag_turned, runF, B__law_bag_turned, ib, e, sr, tf]
theorem f_law_track_turned {ts : List Int} (hT : Trk ts) (k : Nat) : F__law_track_turned [tupI ts, .int k] st = .ok (tupI (turnL ts (k % ts.length))) st := by
  have h0 : 0 < ts.length := hT.pos
  have h8 := hT.le
  have e2 : (k : Int) % (ts.length : Int) = ((k % ts.length : Nat) : Int) := by simp
  have ln : lenF [tupI ts] st = .ok (.int ts.length) st := by simp [tupI]
  have m1 := Nat.mod_lt k h0
  have c1 : sliceD (tupI ts) (some ((k % ts.length : Nat) : Int)) none st = .ok (tupI (ts.drop (k % ts.length))) st := by
    unfold tupI
    rw [sliceD_tup, cutD_map, cutL_from]
  have c2 : sliceD (tupI ts) none (some ((k % ts.length : Nat) : Int)) st = .ok (tupI (ts.take (k % ts.length))) st := by
    unfold tupI
    rw [sliceD_tup, cutD_map, cutL_to]
  have ad := add_tupI st (ts.drop (k % ts.length)) (ts.take (k % ts.length)) (by simp; omega)
  rw [show ts.drop (k % ts.length) ++ ts.take (k % ts.length) = turnL ts (k % ts.length) from rfl] at ad
  generalize tupI (turnL ts (k % ts.length)) = r at *
  generalize tupI (ts.drop (k % ts.length)) = r1 at *
  generalize tupI (ts.take (k % ts.length)) = r2 at *
  generalize tupI ts = tsd at *
  simp [-Int.natCast_emod, F__law_track_turned, runF, B__law_track_turned, ln, h0, e2, c1, c2, ad]
end
end Lap

namespace Lap
open PySem G
/-! bags backward -/
def backT (M : Nat) (p : P2) : P2 := (p.1, (-p.2) % (M : Int))
def backB (ts : List Int) (b : List P2) : List P2 := srtP (b.map (backT ts.length))
theorem neg_mod {M : Nat} {m : Int} (h1 : 0 ≤ m) (h2 : m < M) : (-m) % (M : Int) = if m = 0 then 0 else M - m := by
  split
  · rename_i h; subst h; simp
  · rw [← Int.add_emod_right, Int.emod_eq_of_lt (by omega) (by omega)]; omega
theorem neg_nat {M m : Nat} (hm : m < M) : ((-(m : Int)) % (M : Int)).toNat = (M - m) % M := by
  rw [neg_mod (by omega) (by omega)]
  split
  · rename_i h
    have : m = 0 := by omega
    subst this; simp
  · rw [Nat.mod_eq_of_lt (by omega)]; omega
theorem backT_back {M : Nat} {p : P2} (h1 : 0 ≤ p.2) (h2 : p.2 < M) : backT M (backT M p) = p := by
  unfold backT
  refine Prod.ext rfl ?_
  show (-((-p.2) % (M : Int))) % (M : Int) = p.2
  rw [neg_mod h1 h2]
  split
  · rename_i h; rw [h]; simp
  · rw [neg_mod (by omega) (by omega), if_neg (by omega)]; omega
theorem backT_ok {ts : List Int} (h0 : 0 < ts.length) {p : P2} (h : MatOk ts p) : MatOk ts.reverse (backT ts.length p) := by
  refine ⟨h.1, Int.emod_nonneg _ (by omega), ?_⟩
  rw [List.length_reverse]
  exact Int.emod_lt_of_pos _ (by omega)
theorem backT_inj {ts : List Int} {p q : P2} (hp : MatOk ts p) (hq : MatOk ts q) (h : backT ts.length p = backT ts.length q) : p = q := by
  rw [← backT_back hp.2.1 hp.2.2, h, backT_back hq.2.1 hq.2.2]
theorem backT_way {ts : List Int} {m o : Int} (hm : 0 ≤ m ∧ m < ts.length) (ho : 0 ≤ o ∧ o < ts.length) : wayI ts.reverse ((-m) % (ts.length : Int)).toNat ((-o) % (ts.length : Int)).toNat = wayI ts o.toNat m.toNat := by
  obtain ⟨m, rfl⟩ := Int.eq_ofNat_of_zero_le hm.1
  obtain ⟨o, rfl⟩ := Int.eq_ofNat_of_zero_le ho.1
  rw [neg_nat (by omega), neg_nat (by omega), rev_way (by omega) (by omega)]
  rfl
theorem backT_follow {ts : List Int} {p q : P2} (hp : MatOk ts p) (hq : MatOk ts q) : followB ts.reverse (backT ts.length p) (backT ts.length q) = decide (p.1 - q.1 ≥ wayI ts p.2.toNat q.2.toNat) := by
  unfold followB backT
  simp only
  rw [backT_way hq.2 hp.2]
theorem srtP_bag {ts : List Int} {b : List P2} (h : BagOk ts b) : srtP b = b := by
  refine sortedW_unique sorted_srtP ?_ perm_srtP
  exact h.up.imp fun {a c} q z => ltP2_irr _ (ltP2_tr q z)
theorem backB_bag {ts : List Int} (h0 : 0 < ts.length) {b : List P2} (h : BagOk ts b) : BagOk ts.reverse (backB ts b) :=
  map_bag h (fun p hp q hq e => backT_inj (h.ok p hp) (h.ok q hq) e) fun p hp => backT_ok h0 (h.ok p hp)
theorem backB_back {ts : List Int} {b : List P2} (h : BagOk ts b) : backB ts.reverse (backB ts b) = b := by
  unfold backB
  rw [List.length_reverse, srtP_perm (perm_srtP.map _), List.map_map]
  have : b.map (backT ts.length ∘ backT ts.length) = b := by
    conv => rhs; rw [← List.map_id b]
    exact List.map_congr_left fun p hp => backT_back (h.ok p hp).2.1 (h.ok p hp).2.2
  rw [this, srtP_bag h]
theorem backB_len (ts : List Int) (b : List P2) : (backB ts b).length = b.length := by unfold backB; rw [perm_srtP.length_eq, List.length_map]
theorem backB_two {b : List P2} (ts : List Int) (hl : ts.length = 2) (h : BagOk ts b) : backB ts b = b := by
  unfold backB
  rw [hl]
  have : b.map (backT 2) = b := by
    conv => rhs; rw [← List.map_id b]
    refine List.map_congr_left fun p hp => ?_
    have := (h.ok p hp).2
    unfold backT
    refine Prod.ext rfl ?_
    show (-p.2) % ((2 : Nat) : Int) = p.2
    rw [neg_mod this.1 (by omega)]
    split <;> omega
  rw [this, srtP_bag h]
/-- a mark as the law's triple -/
def triN (M : Nat) (q : P2) : List Int := [q.1, q.2, (-q.2) % (M : Int)]
theorem cd_tri {M : Nat} {x y : P2} (hx : TS.Bd (big : Int) (triN M x)) (hy : TS.Bd (big : Int) (triN M y)) (h : leP2 x y) : cd (triN M x) ≤ cd (triN M y) := by
  rcases ltP2_tri x y with g | g | g
  · unfold cd triN
    rcases g with g | ⟨g1, g2⟩
    · exact Int.le_of_lt (TS.code_lt (by simp) hx.tail hy.tail g)
    · rw [g1]
      exact Int.le_of_lt ((TS.code_same (by simp)).mpr (TS.code_lt (by simp) hx.tail.tail hy.tail.tail g2))
  · subst g; exact Int.le_refl _
  · exact absurd g h
theorem srtN_tri {ts : List Int} {b : List P2} (h8 : ts.length ≤ 100) (hb : ∀ p ∈ b, MatOk ts p) (ht : ∀ p ∈ b, p.1 < (big : Int)) :
    srtN (b.map fun p => [p.1, (-p.2) % (ts.length : Int), p.2]) = (backB ts b).map (triN ts.length) ∧ ∀ ns ∈ b.map fun p => [p.1, (-p.2) % (ts.length : Int), p.2], ns.length = 3 ∧ ∀ m ∈ ns, 0 ≤ m ∧ m < (big : Int) := by
  have hbig := big_ge
  have hk : ∀ ns ∈ b.map fun p => [p.1, (-p.2) % (ts.length : Int), p.2], ns.length = 3 ∧ ∀ m ∈ ns, 0 ≤ m ∧ m < (big : Int) := by
    intro ns hns
    obtain ⟨p, hp, rfl⟩ := List.mem_map.mp hns
    have h1 := hb p hp
    have h2 := ht p hp
    have h3 := h1.2
    have a := Int.emod_nonneg (-p.2) (show (ts.length : Int) ≠ 0 by omega)
    have c := Int.emod_lt_of_pos (-p.2) (show (0 : Int) < ts.length by omega)
    refine ⟨rfl, fun m hm => ?_⟩
    simp only [List.mem_cons, List.not_mem_nil, or_false] at hm
    rcases hm with rfl | rfl | rfl
    · exact ⟨h1.1, h2⟩
    · omega
    · omega
  refine ⟨?_, hk⟩
  have em : (b.map fun p => [p.1, (-p.2) % (ts.length : Int), p.2]) = (b.map (backT ts.length)).map (triN ts.length) := by
    rw [List.map_map]
    refine List.map_congr_left fun p hp => ?_
    have h1 := hb p hp
    have := congrArg Prod.snd (backT_back h1.2.1 h1.2.2)
    show _ = [_, _, (-((-p.2) % (ts.length : Int))) % (ts.length : Int)]
    have this : (-((-p.2) % (ts.length : Int))) % (ts.length : Int) = p.2 := this
    rw [this]; rfl
  have pm : ((backB ts b).map (triN ts.length)).Perm (b.map fun p => [p.1, (-p.2) % (ts.length : Int), p.2]) := by
    rw [em]; exact (perm_srtP (ps := b.map (backT ts.length))).map _
  refine sortedN_unique (d := 3) (fun x hx => hk x (perm_srtN.mem_iff.mp hx)) sorted_srtN ?_ (perm_srtN.trans pm.symm)
  refine List.pairwise_map.mpr (List.Pairwise.imp_of_mem (fun {x y} hx hy q => ?_) (sorted_srtP (ps := b.map (backT ts.length))))
  exact cd_tri (hk _ (pm.mem_iff.mp (List.mem_map.mpr ⟨x, hx, rfl⟩))).2 (hk _ (pm.mem_iff.mp (List.mem_map.mpr ⟨y, hy, rfl⟩))).2 q
section
variable (st : Sto)
theorem f_back_lc {ts : List Int} (h0 : 0 < ts.length) (b : List P2) (hb : b.length ≤ 1000) {fe : EvE} (hfe : fe = unE negD (varE 3) ∨ fe = binE subD (cE (.int 0)) (varE 3)) :
    lcF (.tp [.nm 2, .nm 3]) yesB (tupE (consA (varE 2) (consA (binE modD (callE intF (consA fe (nilA))) (callE lenF (consA (varE 0) (nilA)))) (nilA)))) [some (tupI ts), some (bagD b), none, none] (b.map pairD) st [] = .ok ((b.map (backT ts.length)).map pairD) st := by
  have e := lc_typed (t := .tp [.nm 2, .nm 3]) (fe := tupE (consA (varE 2) (consA (binE modD (callE intF (consA fe (nilA))) (callE lenF (consA (varE 0) (nilA)))) (nilA)))) (envw := [some (tupI ts), some (bagD b), none, none]) (st := st) pairD (fun p => pairD (backT ts.length p)) b [] (by simp; omega) (by
    intro p hp
    have ln : lenF [tupI ts] st = .ok (.int ts.length) st := by simp [tupI]
    refine ⟨[some (tupI ts), some (bagD b), some (.int p.1), some (.int p.2)], by simp [pairD, Tg.set, Tg.sets], ?_⟩
    generalize tupI ts = tsd at *
    rcases hfe with rfl | rfl
    · simp [ln, h0]; rfl
    · simp [ln, h0]; rfl)
  rw [List.nil_append] at e
  rw [e, List.map_map]; rfl
theorem f_bag_backward_by {ts : List Int} (hT : Trk ts) {b : List P2} (hb : BagOk ts b) : F_bag_backward_by [tupI ts, bagD b] st = .ok (bagD (backB ts b)) st := by
  have h0 : 0 < ts.length := hT.pos
  have e := f_back_lc st h0 b (by have := hb.len; omega) (.inl rfl)
  have sr := srtF_pairs (b.map (backT ts.length)) st
  have tf : tupleF [.lst ((srtP (b.map (backT ts.length))).map pairD)] st = .ok (bagD (backB ts b)) st := rfl
  have ib : iterD (bagD b) st = .ok (.frz (b.map pairD)) st := rfl
  generalize bagD (backB ts b) = res at *
  generalize (srtP (b.map (backT ts.length))).map pairD = r1 at *
  generalize (b.map (backT ts.length)).map pairD = r2 at *
  simp [F_bag_backward_by, runF, B_bag_backward_by, ib, e, F_in_order, B_in_order, sr, tf]
theorem f_bag_backward {ts : List Int} (hT : Trk ts) {b : List P2} (hb : BagOk ts b) : F_bag_backward [tupI ts, bagD b] st = .ok (bagD (backB ts b)) st := by
  have e := f_bag_backward_by st hT hb
  have c1 := f_check_track st hT
  have c2 := f_check_bag st hb
  simp [F_bag_backward, runF, B_bag_backward, F_check_bagged, B_check_bagged, c1, c2, e]
theorem f_law_bag_backward {ts : List Int} (hT : Trk ts) {b : List P2} (hb : BagOk ts b) : F__law_bag_backward [tupI ts, bagD b] st = .ok (bagD (backB ts b)) st := by
  have h0 : 0 < ts.length := hT.pos
  have e := f_back_lc st h0 b (by have := hb.len; omega) (.inr rfl)
  have sr := srtF_pairs (b.map (backT ts.length)) st
  have tf : tupleF [.lst ((srtP (b.map (backT ts.length))).map pairD)] st = .ok (bagD (backB ts b)) st := rfl
  have ib : iterD (bagD b) st = .ok (.frz (b.map pairD)) st := rfl
  generalize bagD (backB ts b) = res at *
  generalize (srtP (b.map (backT ts.length))).map pairD = r1 at *
  generalize (b.map (backT ts.length)).map pairD = r2 at *
  simp [F__law_bag_backward, runF, B__law_bag_backward, ib, e, sr, tf]
theorem f_is_row_by_gen {ts : List Int} (hT : Trk ts) (hs : ts.sum.natAbs < big) {b : List P2} (hb : ∀ p ∈ b, MatOk ts p) (hl : b.length ≤ 1000) : F_is_row_by [tupI ts, bagD b] st = .ok (.bl (decide (wrongI ts b = []))) st := by
  have e := f_wrong_marks_by st hT hs hb hl
  have e2 := eq_lstI_nil st (wrongI ts b)
  generalize decide (wrongI ts b = []) = v at *
  generalize lstI (wrongI ts b) = l at *
  simp [F_is_row_by, runF, B_is_row_by, e, e2]
theorem rev_t {ts : List Int} (hT : Trk ts) : Trk ts.reverse := ⟨by rw [List.length_reverse]; exact hT.pos, by rw [List.length_reverse]; exact hT.le, fun x hx => hT.one x (List.mem_reverse.mp hx)⟩
theorem f_is_backward_row {ts : List Int} (hT : Trk ts) (hs : ts.sum.natAbs < big) {b : List P2} (hb : BagOk ts b) : F_is_backward_row [tupI ts, bagD b] st = .ok (.bl (decide (wrongI ts.reverse (backB ts b) = []))) st := by
  have h0 : 0 < ts.length := hT.pos
  have bb := backB_bag h0 hb
  have e1 := f_bag_backward_by st hT hb
  have e2 : F_track_backward_by [tupI ts] st = .ok (tupI ts.reverse) st := by
    simp [F_track_backward_by, runF, B_track_backward_by, tupI]
  have e3 := f_is_row_by_gen st (rev_t hT) (by rw [List.sum_reverse]; exact hs) bb.ok (by have := bb.len; omega)
  have c1 := f_check_track st hT
  have c2 := f_check_bag st hb
  generalize decide (wrongI ts.reverse (backB ts b) = []) = v at *
  simp [F_is_backward_row, runF, B_is_backward_row, F_is_backward_row_by, B_is_backward_row_by, F_check_bagged, B_check_bagged, c1, c2, e1, e2, e3]
theorem ix_lstD (xs : List D) (i : Nat) (h : i < xs.length) : ixD (.lst xs) (.int i) st = .ok xs[i] st := by
  refine ixD_lst _ _ _ ?_
  unfold L2.atI L2.ixN
  rw [if_pos (by omega)]
  simp [h]
theorem f_law_is_backward {ts : List Int} (hT : Trk ts) {b : List P2} (hb : BagOk ts b) (ht : ∀ p ∈ b, p.1 < (big : Int)) : F__law_is_backward [tupI ts, bagD b] st = .ok (.bl (decide (wrongI ts.reverse (backB ts b) = []))) st := by
  have h0 : 0 < ts.length := hT.pos
  have h8 := hT.le
  have h30 := hb.len
  have bb := backB_bag h0 hb
  have bl := backB_len ts b
  obtain ⟨s1, s2⟩ := srtN_tri (ts := ts) (by omega) hb.ok ht
  have so := srtNF_ok 3 st (by simp; omega) (by decide) s2
  rw [s1] at so
  have e := lc_typed (t := .tp [.nm 3, .nm 4]) (fe := tupE (consA (varE 3) (consA (binE modD (callE intF (consA (binE subD (cE (.int 0)) (varE 4)) (nilA))) (callE lenF (consA (varE 0) (nilA)))) (consA (varE 4) (nilA))))) (envw := [some (tupI ts), some (bagD b), none, none, none, none]) (st := st) pairD (fun p => nsD [p.1, (-p.2) % (ts.length : Int), p.2]) b [] (by simp; omega) (by
    intro p hp
    have ln : lenF [tupI ts] st = .ok (.int ts.length) st := by simp [tupI]
    refine ⟨[some (tupI ts), some (bagD b), none, some (.int p.1), some (.int p.2), none], by simp [pairD, Tg.set, Tg.sets], ?_⟩
    generalize tupI ts = tsd at *
    simp [ln, h0])
  rw [List.nil_append] at e
  have em : (b.map fun p => nsD [p.1, (-p.2) % (ts.length : Int), p.2]) = (b.map fun p => [p.1, (-p.2) % (ts.length : Int), p.2]).map nsD := by rw [List.map_map]; rfl
  rw [em] at e
  have ib : iterD (bagD b) st = .ok (.frz (b.map pairD)) st := rfl
  generalize hc : backB ts b = c at *
  have e2 := lc_typedF (t := .nm 5) (tt := tstE (binE ltD (binE subD (binE ixD (binE ixD (varE 2) (varE 5)) (cE (.int 0))) (binE ixD (binE ixD (varE 2) (binE subD (varE 5) (cE (.int 1)))) (cE (.int 0)))) (callE F__law_way_v2 (consA (varE 0) (consA (binE ixD (binE ixD (varE 2) (varE 5)) (cE (.int 2))) (consA (binE ixD (binE ixD (varE 2) (binE subD (varE 5) (cE (.int 1)))) (cE (.int 2))) (nilA)))))))
    (fe := varE 5) (envw := [some (tupI ts), some (bagD b), some (.lst ((c.map (triN ts.length)).map nsD)), none, none, none]) (st := st)
    (fun (i : Nat) => D.int (1 + i)) (fun (i : Nat) => D.int (1 + i)) (fun i => !followB ts.reverse (pat c (i + 1)) (pat c i)) (List.range (c.length - 1)) [] (by simp; omega) (by
      intro i hi
      have hi := List.mem_range.mp hi
      refine ⟨[some (tupI ts), some (bagD b), some (.lst ((c.map (triN ts.length)).map nsD)), none, none, some (.int (1 + i))], by simp, ?_, fun z => by simp⟩
      have k1 : (1 : Int) + i = ((i + 1 : Nat) : Int) := by push_cast; omega
      have k2 : ((i + 1 : Nat) : Int) - 1 = (i : Int) := by push_cast; omega
      have x1 := ix_lstD st ((c.map (triN ts.length)).map nsD) (i + 1) (by simp; omega)
      have x2 := ix_lstD st ((c.map (triN ts.length)).map nsD) i (by simp; omega)
      rw [List.getElem_map, List.getElem_map] at x1 x2
      have m1 := bb.ok _ (List.getElem_mem (l := c) (n := i + 1) (by omega))
      have m2 := bb.ok _ (List.getElem_mem (l := c) (n := i) (by omega))
      rw [pat_get (by omega), pat_get (by omega)]
      generalize c[i + 1] = q1 at *
      generalize c[i] = q2 at *
      obtain ⟨_, a1, a2⟩ := m1
      obtain ⟨_, b1, b2⟩ := m2
      rw [List.length_reverse] at a2 b2
      have y1 := Int.emod_nonneg (-q1.2) (show (ts.length : Int) ≠ 0 by omega)
      have y2 := Int.emod_lt_of_pos (-q1.2) (show (0 : Int) < ts.length by omega)
      have z1 := Int.emod_nonneg (-q2.2) (show (ts.length : Int) ≠ 0 by omega)
      have z2 := Int.emod_lt_of_pos (-q2.2) (show (0 : Int) < ts.length by omega)
      have w := f_law_wayK st (ts := ts) (m := ((-q1.2) % (ts.length : Int)).toNat) (o := ((-q2.2) % (ts.length : Int)).toNat) (by omega) (by omega) (by omega)
      have wr := backT_way (ts := ts.reverse) (m := q1.2) (o := q2.2) ⟨a1, by rw [List.length_reverse]; omega⟩ ⟨b1, by rw [List.length_reverse]; omega⟩
      rw [List.reverse_reverse, List.length_reverse] at wr
      rw [wr] at w
      rw [show ((((-q1.2) % (ts.length : Int)).toNat : Nat) : Int) = (-q1.2) % ts.length by omega, show ((((-q2.2) % (ts.length : Int)).toNat : Nat) : Int) = (-q2.2) % ts.length by omega] at w
      have f0 : ∀ q : P2, ixD (nsD (triN ts.length q)) (.int 0) st = .ok (.int q.1) st := fun q => ixD_tup _ _ _ rfl
      have f2 : ∀ q : P2, ixD (nsD (triN ts.length q)) (.int 2) st = .ok (.int ((-q.2) % (ts.length : Int))) st := fun q => ixD_tup _ _ _ rfl
      have hv : (!followB ts.reverse q1 q2) = decide (q1.1 - q2.1 < wayI ts.reverse q2.2.toNat q1.2.toNat) := by
        unfold followB
        rw [← decide_not]
        congr 1
        rw [eq_iff_iff]
        omega
      rw [hv]
      have g1 := f0 q1
      have g2 := f2 q1
      have g3 := f0 q2
      have g4 := f2 q2
      generalize nsD (triN ts.length q1) = d1 at *
      generalize nsD (triN ts.length q2) = d2 at *
      generalize wayI ts.reverse q2.2.toNat q1.2.toNat = ww at *
      generalize tupI ts = tsd at *
      generalize (c.map (triN ts.length)).map nsD = cl at *
      simp [-Int.natCast_add, k1, k2, x1, x2, w, g1, g2, g3, g4])
  rw [List.nil_append] at e2
  have er : rangeD 1 (c.length - 1) = (List.range (c.length - 1)).map fun (i : Nat) => D.int (1 + i) := rfl
  rw [← er] at e2
  have ew : ((List.range (c.length - 1)).filter fun i => !followB ts.reverse (pat c (i + 1)) (pat c i)).map (fun (i : Nat) => D.int (1 + i)) = (wrongI ts.reverse c).map D.int := by
    unfold wrongI
    rw [List.map_map]; rfl
  rw [ew] at e2
  have e3 := eq_lstI_nil st (wrongI ts.reverse c)
  unfold lstI at e3
  have ln : ((c.map (triN ts.length)).map nsD).length = c.length := by simp
  have k2 : ((c.length : Int) - 1).toNat = c.length - 1 := by omega
  have k3 : c.length < 4611686018427387904 := by omega
  generalize decide (wrongI ts.reverse c = []) = v at *
  generalize (wrongI ts.reverse c).map D.int = l at *
  generalize (c.map (triN ts.length)).map nsD = cl at *
  generalize (b.map fun p => [p.1, (-p.2) % (ts.length : Int), p.2]).map nsD = bl at *
  simp [F__law_is_backward, runF, B__law_is_backward, ib, e, so, ln, k2, k3, e2, e3]
end
end Lap

namespace Lap
open PySem G
/-! slowest sectors -/
structure Slow (ts ss : List Int) : Prop where
  len : ss.length = ts.length
  ge : ∀ i, i < ts.length → ts.getD i 0 ≤ ss.getD i 0
theorem getD_mem {ts : List Int} {i : Nat} (h : i < ts.length) : ts.getD i 0 ∈ ts := by
  rw [List.getD_eq_getElem?_getD, List.getElem?_eq_getElem h]
  exact List.getElem_mem h
theorem Slow.trk {ts ss : List Int} (h : Slow ts ss) (hT : Trk ts) : Trk ss := by
  refine ⟨by rw [h.len]; exact hT.pos, by rw [h.len]; exact hT.le, fun x hx => ?_⟩
  obtain ⟨i, hi, rfl⟩ := List.mem_iff_getElem.mp hx
  have hi' : i < ts.length := by rw [← h.len]; exact hi
  have a := h.ge i hi'
  have b := hT.one _ (getD_mem hi')
  have c : ss.getD i 0 = ss[i] := by rw [List.getD_eq_getElem?_getD, List.getElem?_eq_getElem hi]; rfl
  omega
theorem Slow.walk {ts ss : List Int} (h : Slow ts ss) (h0 : 0 < ts.length) (m n : Nat) : walkI ts m n ≤ walkI ss m n := by
  induction n with
  | zero => simp [walkI]
  | succ n ih =>
    rw [walk_succ, walk_succ]
    have := h.ge ((m + n) % ts.length) (Nat.mod_lt _ h0)
    unfold at_
    rw [h.len]
    omega
theorem Slow.way {ts ss : List Int} (h : Slow ts ss) (h0 : 0 < ts.length) (m o : Nat) : wayI ts m o ≤ wayI ss m o := by
  unfold wayI
  rw [h.len]
  exact h.walk h0 _ _
theorem Slow.sum {ts ss : List Int} (h : Slow ts ss) (h0 : 0 < ts.length) : ts.sum ≤ ss.sum := by
  have := h.walk h0 0 ts.length
  rw [walk_round ts 0 h0] at this
  rw [← h.len, walk_round ss 0 (by rw [h.len]; exact h0)] at this
  exact this
def spanI (ts ss : List Int) (p q : P2) : Option P2 :=
  if (if (wayI ss q.2.toNat p.2.toNat - (p.1 - q.1)) / ss.sum < 0 then -((wayI ss q.2.toNat p.2.toNat - (p.1 - q.1)) / ss.sum) else 0) ≤ (p.1 - q.1 - wayI ts q.2.toNat p.2.toNat) / ts.sum
  then some (if (wayI ss q.2.toNat p.2.toNat - (p.1 - q.1)) / ss.sum < 0 then -((wayI ss q.2.toNat p.2.toNat - (p.1 - q.1)) / ss.sum) else 0, (p.1 - q.1 - wayI ts q.2.toNat p.2.toNat) / ts.sum) else none
def canB (ts ss : List Int) (p q : P2) (e : Int) : Bool := decide (wayI ts q.2.toNat p.2.toNat + e * ts.sum ≤ p.1 - q.1) && decide (p.1 - q.1 ≤ wayI ss q.2.toNat p.2.toNat + e * ss.sum)
theorem can_span {ts ss : List Int} (h1 : 0 < ts.sum) (h2 : 0 < ss.sum) (p q : P2) (e : Int) (he : 0 ≤ e) : canB ts ss p q e = (match spanI ts ss p q with
    | some d => decide (d.1 ≤ e) && decide (e ≤ d.2)
    | none => false) := by
  unfold canB spanI
  generalize wayI ts q.2.toNat p.2.toNat = w
  generalize wayI ss q.2.toNat p.2.toNat = v
  generalize p.1 - q.1 = t
  have a : w + e * ts.sum ≤ t ↔ e ≤ (t - w) / ts.sum := by rw [Int.le_ediv_iff_mul_le h1]; omega
  have b : t ≤ v + e * ss.sum ↔ -e ≤ (v - t) / ss.sum := by rw [Int.le_ediv_iff_mul_le h2, Int.neg_mul]; omega
  have a' : decide (w + e * ts.sum ≤ t) = decide (e ≤ (t - w) / ts.sum) := by rw [decide_eq_decide]; exact a
  have b' : decide (t ≤ v + e * ss.sum) = decide (-e ≤ (v - t) / ss.sum) := by rw [decide_eq_decide]; exact b
  rw [a', b']
  generalize (t - w) / ts.sum = x
  generalize (v - t) / ss.sum = y
  by_cases z : (if y < 0 then -y else 0) ≤ x
  · rw [if_pos z]
    rw [Bool.eq_iff_iff]
    simp only [Bool.and_eq_true, decide_eq_true_eq]
    split <;> omega
  · rw [if_neg z]
    rw [Bool.eq_iff_iff]
    simp only [Bool.and_eq_true, decide_eq_true_eq]
    split at z <;> constructor <;> intro h <;> first | omega | cases h
def optL (o : Option P2) : List D := (o.map pairD).toList
def optD (o : Option P2) : D := match o with
  | some p => pairD p
  | none => .non
def spansI (ts ss : List Int) (b : List P2) : List (Option P2) := (gapsL b).map fun g => spanI ts ss g.2 g.1
theorem range_gaps {α : Type} (f : P2 → P2 → α) (b : List P2) : (List.range (b.length - 1)).map (fun i => f (pat b i) (pat b (i + 1))) = (gapsL b).map fun g => f g.1 g.2 := by
  refine List.ext_getElem (by rw [List.length_map, List.length_map, List.length_range, gaps_len]) fun i h1 h2 => ?_
  have hi : i < b.length - 1 := by simpa using h1
  rw [List.getElem_map, List.getElem_map, List.getElem_range, gaps_get b i (by omega), pat_get (by omega), pat_get (by omega)]
theorem set_last {α : Type} (l : List α) (x y : α) : (l ++ [x]).set l.length y = l ++ [y] := by
  rw [List.set_append_right _ _ (Nat.le_refl _), Nat.sub_self]; rfl
theorem thing_tupI (ns : List Int) : Thing (tupI ns) = true := by
  unfold tupI
  simp only [Thing]
  exact thingL_all.mpr fun x hx => by obtain ⟨n, _, rfl⟩ := List.mem_map.mp hx; rfl
section
variable (st : Sto)
theorem f_wrong_in_slowest {ts ss : List Int} (hT : Trk ts) (h : Slow ts ss) : F_wrong_in_slowest [tupI ts, tupI ss] st = .ok (.lst []) st := by
  have h8 := hT.le
  have hl := h.len
  have t1 := t_is_tuple_of st (tupI ss) ts.length (thing_tupI ss)
  have t2 : tupOfB (tupI ss) ts.length = true := by unfold tupI tupOfB; simp; omega
  rw [t2] at t1
  have e := lc_typedF (t := .tp [.nm 2, .nm 3]) (tt := notB (tstE (callE F_is_from (consA (varE 3) (consA (binE ixD (varE 0) (varE 2)) (nilA)))))) (fe := varE 2) (envw := [some (tupI ts), some (tupI ss), none, none]) (st := st)
    (fun (i : Nat) => D.tup [.int i, .int (ss.getD i 0)]) (fun (i : Nat) => D.int i) (fun _ => false) (List.range ss.length) [] (by simp; omega) (by
      intro i hi
      have hi := List.mem_range.mp hi
      refine ⟨[some (tupI ts), some (tupI ss), some (.int i), some (.int (ss.getD i 0))], by simp [Tg.set, Tg.sets], ?_, fun z => by cases z⟩
      have x := ixD_tupI st ts (i : Int) (by omega) (by omega)
      rw [Int.toNat_natCast] at x
      have f := t_is_from st (.int (ss.getD i 0)) (ts.getD i 0) rfl
      have g : fromB (.int (ss.getD i 0)) (ts.getD i 0) = true := by unfold fromB; exact decide_eq_true (h.ge i (by omega))
      rw [g] at f
      generalize ss.getD i 0 = a at *
      generalize ts.getD i 0 = b at *
      simp [x, f])
  have en : enumL (ss.map D.int) = (List.range ss.length).map fun (i : Nat) => D.tup [.int i, .int (ss.getD i 0)] := enumL_typed D.int 0 ss
  rw [← en] at e
  have ef : enumF [tupI ss] st = .ok (.frz (enumL (ss.map D.int))) st := rfl
  rw [List.filter_eq_nil_iff.mpr (fun _ _ => by simp)] at e
  simp only [List.map_nil, List.nil_append] at e
  generalize enumL (ss.map D.int) = en0 at *
  generalize tupI ss = sd at *
  simp [F_wrong_in_slowest, runF, B_wrong_in_slowest, t1, ef, e, cutD]
theorem f_check_slowest {ts ss : List Int} (hT : Trk ts) (h : Slow ts ss) : F_check_slowest [tupI ts, tupI ss] st = .ok .non st := by
  have e := f_wrong_in_slowest st hT h
  have c := f_check_track st hT
  simp [F_check_slowest, runF, B_check_slowest, e, c]
theorem f_extra_span_by {ts ss : List Int} (hT : Trk ts) (h : Slow ts ss) (hs : ts.sum.natAbs < big) (hs2 : ss.sum.natAbs < big) {p q : P2} (hp : MatOk ts p) (hq : MatOk ts q) : F_extra_span_by [tupI ts, tupI ss, pairD p, pairD q] st = .ok (.lst (optL (spanI ts ss p q))) st := by
  have hsp := sum_pos hT
  have h0 := hT.pos
  have hss := h.sum h0
  have hl := h.len
  have hp2 := hp.2
  have hq2 := hq.2
  have e := f_way_by st hT (m := q.2.toNat) (o := p.2.toNat) (by omega) (by omega) hs
  have e2 := f_way_by st (h.trk hT) (m := q.2.toNat) (o := p.2.toNat) (by omega) (by omega) hs2
  rw [Int.toNat_of_nonneg hp2.1, Int.toNat_of_nonneg hq2.1] at e e2
  have r := f_round_by st ts
  have r2 := f_round_by st ss
  have fd : ∀ x : Int, fdivD (.int x) (.int ts.sum) st = .ok (.int (x / ts.sum)) st := fun x => by rw [fdivD_int, if_pos ⟨by omega, hs⟩]
  have fd2 : ∀ x : Int, fdivD (.int x) (.int ss.sum) st = .ok (.int (x / ss.sum)) st := fun x => by rw [fdivD_int, if_pos ⟨by omega, hs2⟩]
  unfold spanI
  generalize wayI ts q.2.toNat p.2.toNat = w at *
  generalize wayI ss q.2.toNat p.2.toNat = v at *
  generalize hy : (v - (p.1 - q.1)) / ss.sum = y at *
  generalize hx : (p.1 - q.1 - w) / ts.sum = x at *
  have hy' : -(p.1 - q.1 - v) / ss.sum = y := by rw [← hy]; congr 1; omega
  by_cases z : (if y < 0 then -y else 0) ≤ x
  · rw [if_pos z]
    show _ = R.ok (D.lst [D.tup [.int (if y < 0 then -y else 0), .int x]]) st
    simp [-fdivD_int, F_extra_span_by, runF, B_extra_span_by, F_rounded_up, B_rounded_up, e, e2, r, r2, fd, fd2, hx, hy, hy', z]
  · rw [if_neg z]
    simp [-fdivD_int, F_extra_span_by, runF, B_extra_span_by, F_rounded_up, B_rounded_up, e, e2, r, r2, fd, fd2, hx, hy, hy', z, optL]
theorem f_law_span {ts ss : List Int} (hT : Trk ts) (h : Slow ts ss) (hs : ts.sum.natAbs < big) (hs2 : ss.sum.natAbs < big) {p q : P2} (hp : MatOk ts p) (hq : MatOk ts q) : F__law_span_v2 [tupI ts, tupI ss, pairD p, pairD q] st = .ok (optD (spanI ts ss p q)) st := by
  have hsp := sum_pos hT
  have h0 := hT.pos
  have h8 := hT.le
  have hss := h.sum h0
  have hl := h.len
  have hp2 := hp.2
  have hq2 := hq.2
  have e := f_law_wayK st (ts := ts) (m := q.2.toNat) (o := p.2.toNat) (by omega) (by omega) (by omega)
  have e2 := f_law_wayK st (ts := ss) (m := q.2.toNat) (o := p.2.toNat) (by omega) (by omega) (by omega)
  rw [Int.toNat_of_nonneg hp2.1, Int.toNat_of_nonneg hq2.1] at e e2
  have r : sumF [tupI ts] st = .ok (.int ts.sum) st := by simp
  have r2 : sumF [tupI ss] st = .ok (.int ss.sum) st := by simp
  have fd : ∀ x : Int, fdivD (.int x) (.int ts.sum) st = .ok (.int (x / ts.sum)) st := fun x => by rw [fdivD_int, if_pos ⟨by omega, hs⟩]
  have fd2 : ∀ x : Int, fdivD (.int x) (.int ss.sum) st = .ok (.int (x / ss.sum)) st := fun x => by rw [fdivD_int, if_pos ⟨by omega, hs2⟩]
  have p3 : ∀ (env : G.Env) (st : Sto) (fs : EvA), parS3 4 5 6 fs env st = bindS (fs env st) env fun as s1 => match as with
    | [a, b, c] => .nx (((env.set 4 (some a)).set 5 (some b)).set 6 (some c)) s1
    | _ => .fail := fun _ _ _ => rfl
  unfold spanI
  generalize wayI ts q.2.toNat p.2.toNat = w at *
  generalize wayI ss q.2.toNat p.2.toNat = v at *
  generalize hy : (v - (p.1 - q.1)) / ss.sum = y at *
  generalize hx : (p.1 - q.1 - w) / ts.sum = x at *
  generalize ts.sum = S1 at *
  generalize ss.sum = S2 at *
  generalize tupI ts = tsd at *
  generalize tupI ss = ssd at *
  by_cases z : (if y < 0 then -y else 0) ≤ x
  · rw [if_pos z]
    show _ = R.ok (D.tup [.int (if y < 0 then -y else 0), .int x]) st
    simp [-fdivD_int, F__law_span_v2, runF, B__law_span_v2, p3, e, e2, r, r2, fd, fd2, hx, hy, z]
  · rw [if_neg z]
    simp [-fdivD_int, F__law_span_v2, runF, B__law_span_v2, p3, e, e2, r, r2, fd, fd2, hx, hy, z, optD]
theorem f_law_can {ts ss : List Int} (hT : Trk ts) (h : Slow ts ss) {p q : P2} (hp : MatOk ts p) (hq : MatOk ts q) (x : Int) (hx : mulOk x ts.sum) (hx2 : mulOk x ss.sum) : F__law_can [tupI ts, tupI ss, pairD p, pairD q, .int x] st = .ok (.bl (canB ts ss p q x)) st := by
  have h0 := hT.pos
  have h8 := hT.le
  have hl := h.len
  have hp2 := hp.2
  have hq2 := hq.2
  have e := f_law_wayK st (ts := ts) (m := q.2.toNat) (o := p.2.toNat) (by omega) (by omega) (by omega)
  have e2 := f_law_wayK st (ts := ss) (m := q.2.toNat) (o := p.2.toNat) (by omega) (by omega) (by omega)
  rw [Int.toNat_of_nonneg hp2.1, Int.toNat_of_nonneg hq2.1] at e e2
  have r : sumF [tupI ts] st = .ok (.int ts.sum) st := by simp
  have r2 : sumF [tupI ss] st = .ok (.int ss.sum) st := by simp
  unfold canB
  generalize wayI ts q.2.toNat p.2.toNat = w at *
  generalize wayI ss q.2.toNat p.2.toNat = v at *
  generalize ts.sum = S1 at *
  generalize ss.sum = S2 at *
  generalize tupI ts = tsd at *
  generalize tupI ss = ssd at *
  by_cases z : p.1 - q.1 < w + x * S1
  · have z' : ¬ (w + x * S1 ≤ p.1 - q.1) := by omega
    simp [F__law_can, runF, B__law_can, e, e2, r, r2, hx, hx2, z, z']
  · have z' : w + x * S1 ≤ p.1 - q.1 := by omega
    simp [F__law_can, runF, B__law_can, e, e2, r, r2, hx, hx2, z, z']
/-- all gaps' spans, in a list of its own -/
def slowBody : SvS := (exprS (methLE extF (varE 3) (consA (callE F_extra_span_by (consA (varE 0) (consA (varE 1) (consA (varE 5) (consA (varE 4) (nilA)))))) (nilA))))
def gotS (ts ss : List Int) (b : List P2) : List P2 := (gapsL b).filterMap fun g => spanI ts ss g.2 g.1
theorem got_all {ts ss : List Int} {b : List P2} : (gotS ts ss b).length = b.length - 1 ↔ ∀ g ∈ gapsL b, (spanI ts ss g.2 g.1).isSome = true := by
  unfold gotS
  rw [← gaps_len]
  generalize gapsL b = l
  induction l with
  | nil => simp
  | cons g l ih =>
    have hle : (l.filterMap fun g => spanI ts ss g.2 g.1).length ≤ l.length := List.length_filterMap_le _ _
    cases e : spanI ts ss g.2 g.1 with
    | none =>
      rw [List.filterMap_cons_none (f := fun g : P2 × P2 => spanI ts ss g.2 g.1) e]
      constructor
      · intro h; rw [List.length_cons] at h; omega
      · intro h
        have := h g List.mem_cons_self
        rw [e] at this; cases this
    | some p =>
      rw [List.filterMap_cons_some (f := fun g : P2 × P2 => spanI ts ss g.2 g.1) e, List.length_cons, List.length_cons]
      constructor
      · intro h x hx
        rcases List.mem_cons.mp hx with rfl | hx
        · rw [e]; rfl
        · exact ih.mp (by omega) x hx
      · intro h
        have := ih.mpr fun x hx => h x (List.mem_cons_of_mem _ hx)
        omega
theorem f_extra_spans_by {ts ss : List Int} (hT : Trk ts) (h : Slow ts ss) (hs : ts.sum.natAbs < big) (hs2 : ss.sum.natAbs < big) {b : List P2} (hb : ∀ p ∈ b, MatOk ts p) (hl : b.length ≤ 1000) :
    F_extra_spans_by [tupI ts, tupI ss, bagD b] st = .ok (if (gotS ts ss b).length = b.length - 1 then .mut st.length else .non) (st ++ [.lst ((gotS ts ss b).map pairD)]) := by
  have z := zip_gaps st b
  have z2 := zip_gaps (st ++ [.lst []]) b
  obtain ⟨env', s', e, q4, q5, rfl, hs'⟩ := loop_nx (g := tgT (.tp [.nm 4, .nm 5])) (body := slowBody)
    (fun j env s => ∃ o4 o5 : Option D, env = [some (tupI ts), some (tupI ss), some (bagD b), some (.mut st.length), o4, o5] ∧ s = st ++ [.lst ((((gapsL b).take j).filterMap fun g => spanI ts ss g.2 g.1).map pairD)])
    (xs := (gapsL b).map fun g => D.tup [pairD g.1, pairD g.2]) (env := [some (tupI ts), some (tupI ss), some (bagD b), some (.mut st.length), none, none]) (st := st ++ [.lst []])
    ⟨none, none, rfl, by simp⟩
    (by
      rintro j x env s hx ⟨o4, o5, rfl, rfl⟩
      rw [List.getElem?_map] at hx
      obtain ⟨g, hg, rfl⟩ := Option.map_eq_some_iff.mp hx
      have hm := gaps_mem (List.mem_of_getElem? hg)
      have hj := (List.getElem?_eq_some_iff.mp hg).1
      have hjl : j < b.length - 1 := by rw [gaps_len] at hj; exact hj
      have hle : (((gapsL b).take j).filterMap fun g => spanI ts ss g.2 g.1).length ≤ 1000 := by
        refine Nat.le_trans (List.length_filterMap_le _ _) ?_
        rw [List.length_take]; omega
      have e1 := f_extra_span_by (st ++ [.lst ((((gapsL b).take j).filterMap fun g => spanI ts ss g.2 g.1).map pairD)]) hT h hs hs2 (hb _ hm.2) (hb _ hm.1)
      have ol : (optL (spanI ts ss g.2 g.1)).length ≤ 1 := by unfold optL; cases spanI ts ss g.2 g.1 <;> simp
      have e2 := extF_mut (st := st ++ [.lst ((((gapsL b).take j).filterMap fun g => spanI ts ss g.2 g.1).map pairD)]) (n := st.length) (xs := (((gapsL b).take j).filterMap fun g => spanI ts ss g.2 g.1).map pairD) (zs := optL (spanI ts ss g.2 g.1)) (by simp) (by rw [List.length_map]; omega)
      rw [set_last] at e2
      have il : isL (.mut st.length) (st ++ [.lst ((((gapsL b).take j).filterMap fun g => spanI ts ss g.2 g.1).map pairD)]) = true := by simp [isL]
      have e3 : (((gapsL b).take (j + 1)).filterMap fun g => spanI ts ss g.2 g.1).map pairD = (((gapsL b).take j).filterMap fun g => spanI ts ss g.2 g.1).map pairD ++ optL (spanI ts ss g.2 g.1) := by
        rw [List.take_succ, hg, List.filterMap_append, List.map_append]
        congr 1
        unfold optL
        cases e : spanI ts ss g.2 g.1 <;> simp [e]
      refine ⟨[some (tupI ts), some (tupI ss), some (bagD b), some (.mut st.length), some (pairD g.1), some (pairD g.2)], _, ?_, some (pairD g.1), some (pairD g.2), rfl, rfl⟩
      rw [e3]
      generalize (((gapsL b).take j).filterMap fun g => spanI ts ss g.2 g.1).map pairD = acc at *
      generalize optL (spanI ts ss g.2 g.1) = ol at *
      generalize bagD b = bd at *
      generalize tupI ts = tsd at *
      generalize tupI ss = ssd at *
      simp [slowBody, Tg.set, Tg.sets, il, e1, e2])
  rw [List.length_map, List.take_length] at hs'
  have hs' : s' = st ++ [.lst ((gotS ts ss b).map pairD)] := hs'
  subst hs'
  have ln : ∀ s, lenF [bagD b] s = .ok (.int b.length) s := fun s => by simp [bagD]
  have lm : lenF [.mut st.length] (st ++ [.lst ((gotS ts ss b).map pairD)]) = .ok (.int (gotS ts ss b).length) (st ++ [.lst ((gotS ts ss b).map pairD)]) := by simp [lenF, lenOf]
  have sl : sliceD (bagD b) (some 1) none (st ++ [.lst []]) = .ok (bagD (cutL b (some 1) none)) (st ++ [.lst []]) := slice_bag _ _ _ _
  have hm : (if (1 : Int) < (b.length : Int) then (b.length : Int) - 1 else 0) = ((b.length - 1 : Nat) : Int) := by split <;> omega
  unfold F_extra_spans_by
  rw [show B_extra_spans_by = seqS (asgS (mutE (nilA)) (nameT 3)) (seqS (forS (callI zipF (consA (varE 2) (consA (sliceE (varE 2) (someO (cE (.int 1))) (noO)) (nilA)))) (tgT (.tp [.nm 4, .nm 5])) slowBody) (retS (ifE (tstE (binE eqD (callE lenF (consA (varE 3) (nilA))) (callE maxF (consA (cE (.int 0)) (consA (binE subD (callE lenF (consA (varE 2) (nilA))) (cE (.int 1))) (nilA)))))) (varE 3) (cE .non)))) from rfl]
  generalize (gapsL b).map (fun g => D.tup [pairD g.1, pairD g.2]) = zz at *
  generalize (gotS ts ss b).map pairD = gd at *
  generalize (gotS ts ss b).length = gl at *
  generalize hbl : b.length - 1 = bl at *
  generalize bagD (cutL b (some 1) none) = bc at *
  generalize hbd : bagD b = bd at *
  by_cases hc : gl = bl
  · have hc' : ((gl : Int) = (bl : Int)) := by omega
    simp [runF, z2, sl, e, lm, ln, hm, hc', hc]
  · have hc' : ¬ ((gl : Int) = (bl : Int)) := by omega
    simp [runF, z2, sl, e, lm, ln, hm, hc', hc]
def SteadyP (ts ss : List Int) (b : List P2) : Prop := ∀ g ∈ gapsL b, (spanI ts ss g.2 g.1).isSome = true
instance (ts ss : List Int) (b : List P2) : Decidable (SteadyP ts ss b) := by unfold SteadyP; infer_instance
theorem f_is_steady_by {ts ss : List Int} (hT : Trk ts) (h : Slow ts ss) (hs : ts.sum.natAbs < big) (hs2 : ss.sum.natAbs < big) {b : List P2} (hb : ∀ p ∈ b, MatOk ts p) (hl : b.length ≤ 1000) :
    ∃ l, F_is_steady_by [tupI ts, tupI ss, bagD b] st = .ok (.bl (decide (SteadyP ts ss b))) (st ++ l) := by
  have e := f_extra_spans_by st hT h hs hs2 hb hl
  refine ⟨[.lst ((gotS ts ss b).map pairD)], ?_⟩
  by_cases c : (gotS ts ss b).length = b.length - 1
  · rw [if_pos c] at e
    have d : SteadyP ts ss b := got_all.mp c
    have n : ∀ k s, notND (.mut k) .non s = .ok (.bl true) s := fun _ _ => rfl
    simp [F_is_steady_by, runF, B_is_steady_by, e, d, n]
  · rw [if_neg c] at e
    have d : ¬ SteadyP ts ss b := fun z => c (got_all.mpr z)
    simp [F_is_steady_by, runF, B_is_steady_by, e, d]
theorem f_is_steady {ts ss : List Int} (hT : Trk ts) (h : Slow ts ss) (hs : ts.sum.natAbs < big) (hs2 : ss.sum.natAbs < big) {b : List P2} (hb : BagOk ts b) :
    ∃ l, F_is_steady [tupI ts, tupI ss, bagD b] st = .ok (.bl (decide (SteadyP ts ss b))) (st ++ l) := by
  obtain ⟨l, e⟩ := f_is_steady_by st hT h hs hs2 hb.ok (by have := hb.len; omega)
  have c1 := f_check_slowest st hT h
  have c2 := f_check_bag st hb
  refine ⟨l, ?_⟩
  generalize decide (SteadyP ts ss b) = v at *
  simp [F_is_steady, runF, B_is_steady, c1, c2, e]
theorem f_extra_span {ts ss : List Int} (hT : Trk ts) (h : Slow ts ss) (hs : ts.sum.natAbs < big) (hs2 : ss.sum.natAbs < big) {p q : P2} (hp : MatOk ts p) (hq : MatOk ts q) : F_extra_span [tupI ts, tupI ss, pairD p, pairD q] st = .ok (optD (spanI ts ss p q)) st := by
  have e := f_extra_span_by st hT h hs hs2 hp hq
  have c1 := f_check_slowest st hT h
  have c2 := f_is_mark_of st (ts := ts) p
  have c3 := f_is_mark_of st (ts := ts) q
  rw [decide_eq_true hp] at c2
  rw [decide_eq_true hq] at c3
  generalize hsp : spanI ts ss p q = o at *
  cases o with
  | none =>
    simp [optL] at e
    have n : neD (.lst []) (.lst []) st = .ok (.bl false) st := by rfl
    simp [F_extra_span, runF, B_extra_span, F_check_mark, B_check_mark, c1, c2, c3, e, n, optD]
  | some d =>
    simp [optL] at e
    have n : neD (.lst [pairD d]) (.lst []) st = .ok (.bl true) st := by
      have : eqO (.lst [pairD d]) (.lst []) = some false := by
        unfold eqO
        have h1 : scalD (.lst [pairD d]) (.lst []) = none := rfl
        have h2 : toPD (.lst [pairD d]) = some (.list ([d].map pairPD)) := by
          have := toPDs_pairs [d]
          unfold toPD; rw [show [pairD d] = [d].map pairD from rfl, this]; rfl
        have h3 : toPD (.lst []) = some (.list []) := by simp [toPD, toPDs]
        rw [h1, h2, h3]
        show (if SeqAt.shaped (.list ([d].map pairPD)) = true ∧ SeqAt.shaped (.list []) = true then _ else _) = _
        rw [if_pos ⟨(shaped_pairs [d]).1, by simp [SeqAt.shaped, PyData.canLay0, PyData.canLayAll0, PyData.depth, PyData.depthAll]⟩]
        simp [PyData.eqv, PyData.eqvAll]
      unfold neD; rw [this]; rfl
    have ix := ix_lstD st [pairD d] 0 (by simp)
    simp at ix
    simp [F_extra_span, runF, B_extra_span, F_check_mark, B_check_mark, c1, c2, c3, e, n, ix, optD]
/-- crossings of a steady row -/
def stepsG (ts : List Int) (b : List P2) : Int := ((gapsL b).map fun g => ((stepsN ts.length g.1.2.toNat g.2.2.toNat : Nat) : Int)).sum
theorem f_least_crossings {ts : List Int} (hT : Trk ts) {b : List P2} (hb : ∀ p ∈ b, MatOk ts p) (hl : b.length ≤ 1000) : F_least_crossings [tupI ts, bagD b] st = .ok (.int (stepsG ts b)) st := by
  have e := lc_typed (t := .tp [.nm 2, .nm 3]) (fe := callE F_steps_by (consA (varE 0) (consA (binE ixD (varE 2) (cE (.int 1))) (consA (binE ixD (varE 3) (cE (.int 1))) (nilA))))) (envw := [some (tupI ts), some (bagD b), none, none]) (st := st)
    (fun g : P2 × P2 => D.tup [pairD g.1, pairD g.2]) (fun g => .int ((stepsN ts.length g.1.2.toNat g.2.2.toNat : Nat) : Int)) (gapsL b) [] (by simp [gaps_len]; omega) (by
      intro g hg
      have hm := gaps_mem hg
      have h1 := (hb _ hm.1).2
      have h2 := (hb _ hm.2).2
      refine ⟨[some (tupI ts), some (bagD b), some (pairD g.1), some (pairD g.2)], by simp [Tg.set, Tg.sets], ?_⟩
      have := f_steps_by st (ts := ts) (m := g.1.2.toNat) (o := g.2.2.toNat) (by omega) (by omega)
      rw [Int.toNat_of_nonneg h1.1, Int.toNat_of_nonneg h2.1] at this
      generalize stepsN ts.length g.1.2.toNat g.2.2.toNat = k at *
      simp [this])
  have z := zip_gaps st b
  rw [List.nil_append] at e
  have sm : sumF [.lst ((gapsL b).map fun g => D.int ((stepsN ts.length g.1.2.toNat g.2.2.toNat : Nat) : Int))] st = .ok (.int (stepsG ts b)) st := by
    have : ((gapsL b).map fun g => D.int ((stepsN ts.length g.1.2.toNat g.2.2.toNat : Nat) : Int)) = ((gapsL b).map fun g => ((stepsN ts.length g.1.2.toNat g.2.2.toNat : Nat) : Int)).map D.int := by rw [List.map_map]; rfl
    rw [this]
    have := sumF_lstI st ((gapsL b).map fun g => ((stepsN ts.length g.1.2.toNat g.2.2.toNat : Nat) : Int))
    exact this
  have sl : sliceD (bagD b) (some 1) none st = .ok (bagD (cutL b (some 1) none)) st := slice_bag _ _ _ _
  generalize (gapsL b).map (fun g : P2 × P2 => D.tup [pairD g.1, pairD g.2]) = zz at *
  generalize ((gapsL b).map fun g => D.int ((stepsN ts.length g.1.2.toNat g.2.2.toNat : Nat) : Int)) = gg at *
  generalize bagD (cutL b (some 1) none) = bc at *
  generalize bagD b = bd at *
  simp [F_least_crossings, runF, B_least_crossings, sl, z, e, sm]
theorem got_map {ts ss : List Int} {b : List P2} (h : SteadyP ts ss b) : spansI ts ss b = (gotS ts ss b).map some := by
  unfold spansI gotS
  have h : ∀ g ∈ gapsL b, (spanI ts ss g.2 g.1).isSome = true := h
  generalize gapsL b = l at *
  induction l with
  | nil => rfl
  | cons g l ih =>
    have h1 := h g List.mem_cons_self
    obtain ⟨p, e⟩ := Option.isSome_iff_exists.mp h1
    rw [List.map_cons, List.filterMap_cons_some (f := fun g : P2 × P2 => spanI ts ss g.2 g.1) e, List.map_cons, ih fun x hx => h x (List.mem_cons_of_mem _ hx), e]
def crossD (ts ss : List Int) (b : List P2) : D := .tup [.int (stepsG ts b + ts.length * ((gotS ts ss b).map Prod.fst).sum), .int (stepsG ts b + ts.length * ((gotS ts ss b).map Prod.snd).sum)]
theorem mulOk_len {n : Nat} (h : n ≤ 100) (x : Int) : mulOk n x := by
  have : (100 : Nat) < 2 ^ 64 := by decide
  exact .inl (by omega)
theorem f_crossings_by {ts ss : List Int} (hT : Trk ts) (h : Slow ts ss) (hs : ts.sum.natAbs < big) (hs2 : ss.sum.natAbs < big) {b : List P2} (hb : ∀ p ∈ b, MatOk ts p) (hl : b.length ≤ 1000) (hst : SteadyP ts ss b) :
    ∃ l, F_crossings_by [tupI ts, tupI ss, bagD b] st = .ok (crossD ts ss b) (st ++ l) := by
  have h8 := hT.le
  have c := got_all.mpr hst
  have e := f_extra_spans_by st hT h hs hs2 hb hl
  rw [if_pos c] at e
  have e2 := f_least_crossings (st ++ [.lst ((gotS ts ss b).map pairD)]) hT hb hl
  have hgl : (gotS ts ss b).length ≤ 1000 := by omega
  have l1 := lcG_typed (n := st.length) (t := .tp [.nm 7, .nm 8]) (fe := varE 7) (envw := [some (tupI ts), some (tupI ss), some (bagD b), some (.mut st.length), some (.int (stepsG ts b)), none, none, none, none]) (st := st ++ [.lst ((gotS ts ss b).map pairD)])
    pairD (fun p => .int p.1) (gotS ts ss b) (by omega) (by simp) (fun p _ => ⟨[some (tupI ts), some (tupI ss), some (bagD b), some (.mut st.length), some (.int (stepsG ts b)), none, none, some (.int p.1), some (.int p.2)], by simp [pairD, Tg.set, Tg.sets], by simp⟩)
    (gotS ts ss b).length 0 [] (by omega) rfl
  have l2 := lcG_typed (n := st.length) (t := .tp [.nm 7, .nm 8]) (fe := varE 8) (envw := [some (tupI ts), some (tupI ss), some (bagD b), some (.mut st.length), some (.int (stepsG ts b)), none, none, none, none]) (st := st ++ [.lst ((gotS ts ss b).map pairD)])
    pairD (fun p => .int p.2) (gotS ts ss b) (by omega) (by simp) (fun p _ => ⟨[some (tupI ts), some (tupI ss), some (bagD b), some (.mut st.length), some (.int (stepsG ts b)), none, none, some (.int p.1), some (.int p.2)], by simp [pairD, Tg.set, Tg.sets], by simp⟩)
    (gotS ts ss b).length 0 [] (by omega) rfl
  have s1 : sumF [.lst ((gotS ts ss b).map fun p => D.int p.1)] (st ++ [.lst ((gotS ts ss b).map pairD)]) = .ok (.int ((gotS ts ss b).map Prod.fst).sum) (st ++ [.lst ((gotS ts ss b).map pairD)]) := by
    have : ((gotS ts ss b).map fun p => D.int p.1) = ((gotS ts ss b).map Prod.fst).map D.int := by rw [List.map_map]; rfl
    rw [this]
    exact sumF_lstI _ ((gotS ts ss b).map Prod.fst)
  have s2 : sumF [.lst ((gotS ts ss b).map fun p => D.int p.2)] (st ++ [.lst ((gotS ts ss b).map pairD)]) = .ok (.int ((gotS ts ss b).map Prod.snd).sum) (st ++ [.lst ((gotS ts ss b).map pairD)]) := by
    have : ((gotS ts ss b).map fun p => D.int p.2) = ((gotS ts ss b).map Prod.snd).map D.int := by rw [List.map_map]; rfl
    rw [this]
    exact sumF_lstI _ ((gotS ts ss b).map Prod.snd)
  have it : iterD (.mut st.length) (st ++ [.lst ((gotS ts ss b).map pairD)]) = .ok (.gen (mutNxt st.length) (gotS ts ss b).length) (st ++ [.lst ((gotS ts ss b).map pairD)]) := by simp [iterD]
  have ln : ∀ s, lenF [tupI ts] s = .ok (.int ts.length) s := fun s => by simp [tupI]
  have m1 := mulOk_len (n := ts.length) (by omega)
  have p1 : ∀ (env : G.Env) (st : Sto) (fs : EvA), parS 3 4 fs env st = bindS (fs env st) env fun as s1 => match as with
    | [a, b] => .nx ((env.set 3 (some a)).set 4 (some b)) s1
    | _ => .fail := fun _ _ _ => rfl
  have p2 : ∀ (env : G.Env) (st : Sto) (fs : EvA), parS 5 6 fs env st = bindS (fs env st) env fun as s1 => match as with
    | [a, b] => .nx ((env.set 5 (some a)).set 6 (some b)) s1
    | _ => .fail := fun _ _ _ => rfl
  refine ⟨[.lst ((gotS ts ss b).map pairD)], ?_⟩
  unfold crossD
  generalize ((gotS ts ss b).map fun p => D.int p.1) = z1 at *
  generalize ((gotS ts ss b).map fun p => D.int p.2) = z2 at *
  generalize ((gotS ts ss b).map Prod.fst).sum = y1 at *
  generalize ((gotS ts ss b).map Prod.snd).sum = y2 at *
  generalize (gotS ts ss b).map pairD = gd at *
  generalize (gotS ts ss b).length = gl at *
  generalize stepsG ts b = sg at *
  generalize bagD b = bd at *
  generalize tupI ss = ssd at *
  generalize tupI ts = tsd at *
  simp [F_crossings_by, runF, B_crossings_by, p1, p2, e, e2, it, l1, l2, s1, s2, ln, m1]
theorem f_crossings {ts ss : List Int} (hT : Trk ts) (h : Slow ts ss) (hs : ts.sum.natAbs < big) (hs2 : ss.sum.natAbs < big) {b : List P2} (hb : BagOk ts b) (hst : SteadyP ts ss b) (hne : b ≠ []) :
    ∃ l, F_crossings [tupI ts, tupI ss, bagD b] st = .ok (crossD ts ss b) (st ++ l) := by
  have hlen := hb.len
  obtain ⟨l1, e1⟩ := f_is_steady_by st hT h hs hs2 hb.ok (by omega)
  rw [decide_eq_true hst] at e1
  obtain ⟨l2, e2⟩ := f_crossings_by (st ++ l1) hT h hs hs2 hb.ok (by omega) hst
  have c1 := f_check_slowest st hT h
  have c2 := f_check_bag st hb
  have q := eq_bag_nil st b
  rw [decide_eq_false hne] at q
  refine ⟨l1 ++ l2, ?_⟩
  generalize crossD ts ss b = cd at *
  generalize bagD b = bd at *
  simp [F_crossings, runF, B_crossings, c1, c2, q, e1, e2]
end
end Lap

namespace K76
open PySem G Lap
theorem f_draw : Draw F__law_draw := drawK_ok (M := 2147483563) (by decide)
theorem f_pool : MkPool F__law_pool := poolK_ok (M := 2147483563) (by decide)
theorem f_track : TrackK F__law_track := trackK_ok f_draw
theorem row_eq : F__law_drawn_row = runF 4 10 (rowK F__law_draw (pickK F__law_draw)) := rfl
theorem bag_eq : F__law_drawn_bag = runF 3 6 (bagK F__law_draw (pickK F__law_draw)) := rfl
def t_body6 : SvS := (seqS (exprS (methLE appF (varE 4) (consA (varE 5) (nilA)))) (seqS (parS 7 8 (consA (callE F__law_draw (consA (varE 0) (consA (callE lenF (consA (varE 1) (nilA))) (nilA)))) (consA (callE F__law_pick (consA (varE 0) (consA (lstE (consA (cE (.int 0)) (consA (cE (.int 0)) (consA (cE (.int 1)) (consA (cE (.int 3)) (nilA)))))) (nilA)))) (nilA)))) (seqS (asgS (binE addD (callE F__law_way_v2 (consA (varE 1) (consA (binE ixD (varE 5) (cE (.int 1))) (consA (varE 7) (nilA))))) (binE mulD (varE 8) (callE sumF (consA (varE 1) (nilA))))) (nameT 9)) (seqS (asgS (binE addD (callE F__law_way_v2 (consA (varE 2) (consA (binE ixD (varE 5) (cE (.int 1))) (consA (varE 7) (nilA))))) (binE mulD (varE 8) (callE sumF (consA (varE 2) (nilA))))) (nameT 10)) (asgS (tupE (consA (binE addD (binE addD (binE ixD (varE 5) (cE (.int 0))) (varE 9)) (callE F__law_draw (consA (varE 0) (consA (binE addD (binE subD (varE 10) (varE 9)) (cE (.int 1))) (nilA))))) (consA (varE 7) (nilA)))) (nameT 5))))))
theorem t_right_eq : B__law_timed_row = seqS (parS 4 5 (consA (mutE (nilA)) (consA (tupE (consA (callE F__law_draw (consA (varE 0) (consA (cE (.int 9)) (nilA)))) (consA (callE F__law_draw (consA (varE 0) (consA (callE lenF (consA (varE 1) (nilA))) (nilA)))) (nilA)))) (nilA)))) (seqS (forS (callI range1F (consA (varE 3) (nilA))) (tgT (.nm 6)) t_body6) (retS (callE tupleF (consA (varE 4) (nilA))))) := rfl
--  def F__law_timed_row : FA := runF 4 11 B__law_timed_row

def r_body6 : SvS := (ifS (notB (tstE (callE F__law_bag_right_v2 (consA (varE 2) (consA (varE 4) (consA (varE 6) (nilA))))))) (retS (cE (.bl false))) (passS))
def r_body7 : SvS := (seqS (parS 8 9 (consA (tupE (consA (callE F__law_draw (consA (varE 0) (consA (callE F__law_pick (consA (varE 0) (consA (lstE (consA (cE (.int 9)) (consA (binE mulD (cE (.int 9)) (callE sumF (consA (varE 4) (nilA)))) (nilA)))) (nilA)))) (nilA)))) (consA (callE F__law_draw (consA (varE 0) (consA (callE lenF (consA (varE 2) (nilA))) (nilA)))) (nilA)))) (consA (tupE (consA (callE F__law_draw (consA (varE 0) (consA (cE (.int 9)) (nilA)))) (consA (callE F__law_draw (consA (varE 0) (consA (callE lenF (consA (varE 2) (nilA))) (nilA)))) (nilA)))) (nilA)))) (ifS (notB (tstE (callE F__law_marks_right (consA (varE 0) (consA (varE 2) (consA (varE 4) (consA (varE 8) (consA (varE 9) (nilA))))))))) (retS (cE (.bl false))) (passS)))
def r_body1 : SvS := (seqS (asgS (tupE (consA (callE F__law_track (consA (varE 0) (consA (cE (.int 8)) (nilA)))) (consA (callE F__law_pick (consA (varE 0) (consA (lstE (consA (cE (.int 1)) (consA (cE (.int 3)) (consA (cE (.int 40)) (consA (binE powD (cE (.int 10)) (cE (.int 27))) (nilA)))))) (nilA)))) (nilA)))) (tupT 2 (consT (nameT 2) (consT (nameT 3) (nilT))))) (seqS (asgS (callE tupleF (consA (lcE (iterE (varE 2)) (.nm 11) (yesB) (binE addD (varE 11) (callE F__law_draw (consA (varE 0) (consA (varE 3) (nilA))))) [11]) (nilA))) (nameT 4)) (seqS (asgS (callE F__law_timed_row (consA (varE 0) (consA (varE 2) (consA (varE 4) (consA (binE addD (cE (.int 2)) (callE F__law_draw (consA (varE 0) (consA (cE (.int 6)) (nilA))))) (nilA)))))) (nameT 5)) (seqS (forS (iterE (lstE (consA (varE 5) (consA (callE F__law_drawn_row (consA (varE 0) (consA (varE 2) (consA (tupE (consA (cE (.int 0)) (consA (cE (.int 0)) (nilA)))) (consA (cE (.int 5)) (nilA)))))) (consA (callE F__law_drawn_bag (consA (varE 0) (consA (varE 2) (consA (cE (.int 3)) (nilA))))) (consA (tupE (nilA)) (consA (sliceE (varE 5) (noO) (someO (cE (.int 1)))) (nilA)))))))) (tgT (.nm 6)) r_body6) (seqS (ifS (orB (tstE (binE notBD (callE F_is_steady (consA (varE 2) (consA (varE 4) (consA (varE 5) (nilA))))) (cE (.bl true)))) (tstE (binE notBD (callE F_is_row (consA (varE 2) (consA (varE 5) (nilA)))) (cE (.bl true))))) (retS (cE (.bl false))) (passS)) (seqS (forS (callI range1F (consA (cE (.int 5)) (nilA))) (tgT (.nm 7)) r_body7) (seqS (parS 6 10 (consA (callE F__law_drawn_bag (consA (varE 0) (consA (varE 2) (consA (cE (.int 4)) (nilA))))) (consA (callE tupleF (consA (lcE (iterE (varE 2)) (.nm 11) (yesB) (binE addD (varE 11) (binE powD (cE (.int 10)) (cE (.int 29)))) [11]) (nilA))) (nilA)))) (ifS (tstE (binE neD (callE F_is_steady (consA (varE 2) (consA (varE 10) (consA (varE 6) (nilA))))) (callE F_is_row (consA (varE 2) (consA (varE 6) (nilA)))))) (retS (cE (.bl false))) (passS)))))))))
theorem r_right_eq : B__law_right = seqS (forS (callI range1F (consA (cE (.int 6)) (nilA))) (tgT (.nm 1)) r_body1) (seqS (asgS (tupE (consA (tupE (consA (cE (.int 20)) (consA (cE (.int 30)) (consA (cE (.int 40)) (nilA))))) (consA (tupE (consA (tupE (consA (cE (.int 0)) (consA (cE (.int 0)) (nilA)))) (consA (tupE (consA (cE (.int 15)) (consA (cE (.int 1)) (nilA)))) (consA (tupE (consA (cE (.int 200)) (consA (cE (.int 1)) (nilA)))) (nilA))))) (nilA)))) (tupT 2 (consT (nameT 3) (consT (nameT 6) (nilT))))) (retS (andE (binE eqD (callE F_extra_span (consA (tupE (consA (cE (.int 10)) (consA (cE (.int 20)) (consA (cE (.int 30)) (nilA))))) (consA (varE 3) (consA (tupE (consA (cE (.int 200)) (consA (cE (.int 1)) (nilA)))) (consA (tupE (consA (cE (.int 0)) (consA (cE (.int 0)) (nilA)))) (nilA)))))) (tupE (consA (cE (.int 2)) (consA (cE (.int 3)) (nilA))))) (binE eqD (callE F_crossings (consA (tupE (consA (cE (.int 10)) (consA (cE (.int 20)) (consA (cE (.int 30)) (nilA))))) (consA (varE 3) (consA (varE 6) (nilA))))) (tupE (consA (cE (.int 10)) (consA (cE (.int 10)) (nilA)))))))) := rfl
--  def F__law_right : FA := runF 1 12 B__law_right
/-! ways are bounded -/
theorem span_bd {ts ss : List Int} (hT : Trk ts) {p q d : P2} (hp : MatOk ts p) (hq : MatOk ts q) (h : spanI ts ss p q = some d) : 0 ≤ d.1 ∧ d.1 ≤ d.2 ∧ d.2 ≤ p.1 - q.1 ∧ wayI ts q.2.toNat p.2.toNat ≤ p.1 - q.1 := by
  have hsp := sum_pos hT
  have h0 := hT.pos
  have hw := way_pos hT (m := q.2.toNat) (o := p.2.toNat) (by have := hq.2; omega) (by have := hp.2; omega)
  unfold spanI at h
  generalize wayI ts q.2.toNat p.2.toNat = w at *
  generalize (wayI ss q.2.toNat p.2.toNat - (p.1 - q.1)) / ss.sum = y at *
  have key : ∀ x, (p.1 - q.1 - w) / ts.sum = x → 0 ≤ x → x ≤ p.1 - q.1 ∧ w ≤ p.1 - q.1 := fun x e hx => by
    rw [← e] at hx ⊢
    have := Int.mul_le_of_le_ediv (show 0 < ts.sum by omega) hx
    have := Int.ediv_le_self ts.sum (show 0 ≤ p.1 - q.1 - w by omega)
    omega
  generalize (p.1 - q.1 - w) / ts.sum = x at *
  have key := key x rfl
  by_cases z : (if y < 0 then -y else 0) ≤ x
  · rw [if_pos z] at h
    have h := (Option.some.inj h).symm
    subst h
    simp only
    split at z <;> split <;> have := key (by omega) <;> omega
  · rw [if_neg z] at h; cases h
theorem steady_row {ts ss : List Int} (hT : Trk ts) {b : List P2} (hb : ∀ p ∈ b, MatOk ts p) (h : SteadyP ts ss b) : RowP ts b := by
  rw [← rowP_iff hT hb, wrong_nil]
  intro i hi
  have hg : (b[i], b[i + 1]) ∈ gapsL b := by
    rw [← gaps_get b i hi]
    exact List.getElem_mem _
  obtain ⟨d, e⟩ := Option.isSome_iff_exists.mp (h _ hg)
  have := span_bd hT (hb _ (List.getElem_mem _)) (hb _ (List.getElem_mem _)) e
  rw [pat_get hi, pat_get (by omega)]
  unfold followB
  exact decide_eq_true (by omega)
theorem steady_of {ts ss : List Int} {b : List P2} (h : ∀ i, i + 1 < b.length → (spanI ts ss (pat b (i + 1)) (pat b i)).isSome = true) : SteadyP ts ss b := by
  intro g hg
  obtain ⟨i, hi, rfl⟩ := List.mem_iff_getElem.mp hg
  rw [gaps_len] at hi
  rw [gaps_get b i (by omega)]
  have := h i (by omega)
  rwa [pat_get (by omega), pat_get (by omega)] at this
/-- with slowest sectors beyond all times steady is row -/
theorem far_span {ts ss : List Int} (hT : Trk ts) (h : Slow ts ss) {p q : P2} (hp : MatOk ts p) (hq : MatOk ts q) (hf : p.1 - q.1 ≤ wayI ss q.2.toNat p.2.toNat) : (spanI ts ss p q).isSome = followB ts p q := by
  have hsp := sum_pos hT
  have h0 := hT.pos
  have hss := h.sum h0
  have hy : ¬ (wayI ss q.2.toNat p.2.toNat - (p.1 - q.1)) / ss.sum < 0 := by
    have := Int.ediv_nonneg (a := wayI ss q.2.toNat p.2.toNat - (p.1 - q.1)) (b := ss.sum) (by omega) (by omega)
    omega
  unfold spanI followB
  simp only [if_neg hy]
  generalize wayI ts q.2.toNat p.2.toNat = w at *
  by_cases z : p.1 - q.1 ≥ w
  · have := Int.ediv_nonneg (a := p.1 - q.1 - w) (b := ts.sum) (by omega) (by omega)
    rw [if_pos this, decide_eq_true z]; rfl
  · have : ¬ 0 ≤ (p.1 - q.1 - w) / ts.sum := fun c => by
      have := Int.mul_le_of_le_ediv (show 0 < ts.sum by omega) c
      omega
    rw [if_neg this, decide_eq_false z]; rfl
theorem far_steady {ts ss : List Int} (hT : Trk ts) (h : Slow ts ss) {b : List P2} (hb : ∀ p ∈ b, MatOk ts p) (hf : ∀ p ∈ b, ∀ q ∈ b, p.1 - q.1 ≤ wayI ss q.2.toNat p.2.toNat) : decide (SteadyP ts ss b) = decide (wrongI ts b = []) := by
  rw [decide_eq_decide, wrong_nil]
  constructor
  · intro hs i hi
    have hg : (b[i], b[i + 1]) ∈ gapsL b := by
      rw [← gaps_get b i hi]
      exact List.getElem_mem _
    rw [pat_get hi, pat_get (by omega)]
    have e := far_span hT h (p := b[i + 1]) (q := b[i]) (hb _ (List.getElem_mem _)) (hb _ (List.getElem_mem _)) (hf _ (List.getElem_mem _) _ (List.getElem_mem _))
    have k := hs _ hg
    rw [← e]
    exact k
  · intro hr
    refine steady_of fun i hi => ?_
    have := hr i hi
    rw [pat_get hi, pat_get (by omega)] at this ⊢
    have e := far_span hT h (p := b[i + 1]) (q := b[i]) (hb _ (List.getElem_mem _)) (hb _ (List.getElem_mem _)) (hf _ (List.getElem_mem _) _ (List.getElem_mem _))
    rw [e]
    exact this
/-! timed rows -/
theorem pat_app {c : List P2} {x : P2} {i : Nat} (h : i < c.length) : pat (c ++ [x]) i = pat c i := by
  unfold pat
  rw [List.getD_eq_getElem?_getD, List.getD_eq_getElem?_getD, List.getElem?_append_left h]
theorem pat_end (c : List P2) (x : P2) : pat (c ++ [x]) c.length = x := by unfold pat; simp
structure TimedAt (ts ss : List Int) (n q j : Nat) (c : List P2) (s : Sto) : Prop where
  pool : Pool n s
  at_ : s[q]? = some (.lst ((c.take j).map pairD))
  len : c.length = j + 1
  ok : ∀ p ∈ c, MatOk ts p
  st : ∀ i, i < j → (spanI ts ss (pat c (i + 1)) (pat c i)).isSome = true
  bd : ∀ p ∈ c, p.1 ≤ 8 + j * (4 * ss.sum)
theorem timed_turn {FD : FA} (hD : Draw FD) {ts ss : List Int} (hT : Trk ts) (h : Slow ts ss) (hs2 : ss.sum ≤ 10000000000000000000000000000) {st : Sto} {n q j : Nat} {c : List P2} (hnq : n ≠ q) (hj : j < 30) (hI : TimedAt ts ss n q j c st) (o3 o6 o7 o8 o9 o10 : Option D) (hFD : F__law_draw = FD) :
    ∃ c' q7 q8 q9 q10 st', t_body6 [some (.mut n), some (tupI ts), some (tupI ss), o3, some (.mut q), some (pairD (pat c j)), o6, o7, o8, o9, o10] st =
      .nx [some (.mut n), some (tupI ts), some (tupI ss), o3, some (.mut q), some (pairD (pat c' (j + 1))), o6, q7, q8, q9, q10] st' ∧ TimedAt ts ss n q (j + 1) c' st' := by
  subst hFD
  have hbig := big_ge
  have h0 : 0 < ts.length := hT.pos
  have h8 := hT.le
  have hsp := sum_pos hT
  have hss := h.sum h0
  have hl := h.len
  obtain ⟨hp, hat, hlen, hok, hst, hbd⟩ := hI
  have hq := (List.getElem?_eq_some_iff.mp hat).1
  have hm : pat c j ∈ c := by rw [pat_get (by omega)]; exact List.getElem_mem _
  have hpm := hok _ hm
  have hpb := hbd _ hm
  generalize hpt : pat c j = pt at *
  have ap := app_mut (pairD pt) hat (by simp; omega)
  have il := isL_mut hat
  have hps := set_other (mo := .lst (((c.take j).map pairD) ++ [pairD pt])) hnq hp
  obtain ⟨oi, s1, e1, a0, a1, hp1, ef1⟩ := hD (m := (ts.length : Int)) hps (by omega) (by omega)
  obtain ⟨d, s2, e2, hd, hp2, ef2⟩ := oneA_lst hD.below (xs := [.int 0, .int 0, .int 1, .int 3]) hp1 (by simp) (by simp)
  obtain ⟨x, rfl, x0, x3⟩ : ∃ x : Int, d = .int x ∧ 0 ≤ x ∧ x ≤ 3 := by
    simp at hd
    rcases hd with rfl | rfl | rfl
    · exact ⟨0, rfl, by omega, by omega⟩
    · exact ⟨1, rfl, by omega, by omega⟩
    · exact ⟨3, rfl, by omega, by omega⟩
  have e2 : F__law_pick [.mut n, .lst [.int 0, .int 0, .int 1, .int 3]] s1 = .ok (.int x) s2 := e2
  have hpm2 := hpm.2
  have mo : ∀ t, 0 ≤ t → MatOk ts (t, oi) := fun t ht => ⟨ht, a0, a1⟩
  have w1 := f_law_wayK s2 (ts := ts) (m := pt.2.toNat) (o := oi.toNat) (by omega) (by omega) (by omega)
  have w2 := f_law_wayK s2 (ts := ss) (m := pt.2.toNat) (o := oi.toNat) (by omega) (by omega) (by omega)
  rw [Int.toNat_of_nonneg a0, Int.toNat_of_nonneg hpm2.1] at w1 w2
  have v1 := way_pos hT (m := pt.2.toNat) (o := oi.toNat) (by omega) (by omega)
  have v2 := way_le_sum (h.trk hT) (m := pt.2.toNat) (o := oi.toNat) (by omega) (by omega)
  have v3 := h.way h0 pt.2.toNat oi.toNat
  have q1 : x * ts.sum ≤ x * ss.sum := Int.mul_le_mul_of_nonneg_left hss x0
  have q2 : x * ss.sum ≤ 3 * ss.sum := Int.mul_le_mul_of_nonneg_right x3 (by omega)
  have q3 : 0 ≤ x * ts.sum := Int.mul_nonneg x0 (by omega)
  have m1 : mulOk x ts.sum := mulOk_lit' (by omega)
  have m2 : mulOk x ss.sum := mulOk_lit' (by omega)
  have sm1 : sumF [tupI ts] s2 = .ok (.int ts.sum) s2 := by simp
  have sm2 : sumF [tupI ss] s2 = .ok (.int ss.sum) s2 := by simp
  obtain ⟨g, s3, e3, g0, g1, hp3, ef3⟩ := hD (m := wayI ss pt.2.toNat oi.toNat + x * ss.sum - (wayI ts pt.2.toNat oi.toNat + x * ts.sum) + 1) hp2 (by omega) (by omega)
  have at3 : s3[q]? = some (.lst (((c.take j).map pairD) ++ [pairD pt])) := by
    rw [ef3.2 q (fun z => hnq z.symm), ef2.2 q (fun z => hnq z.symm), ef1.2 q (fun z => hnq z.symm)]
    simp [hq]
  have ln : ∀ s, lenF [tupI ts] s = .ok (.int ts.length) s := fun s => by simp [tupI]
  have p1 : ∀ (env : G.Env) (st : Sto) (fs : EvA), parS 7 8 fs env st = bindS (fs env st) env fun as s1 => match as with
    | [a, b] => .nx ((env.set 7 (some a)).set 8 (some b)) s1
    | _ => .fail := fun _ _ _ => rfl
  have can : canB ts ss (pt.1 + (wayI ts pt.2.toNat oi.toNat + x * ts.sum) + g, oi) pt x = true := by
    unfold canB
    simp only [Bool.and_eq_true, decide_eq_true_eq]
    constructor <;> omega
  have spn : (spanI ts ss (pt.1 + (wayI ts pt.2.toNat oi.toNat + x * ts.sum) + g, oi) pt).isSome = true := by
    rw [can_span (by omega) (by omega) _ _ x x0] at can
    cases e : spanI ts ss (pt.1 + (wayI ts pt.2.toNat oi.toNat + x * ts.sum) + g, oi) pt with
    | none => rw [e] at can; cases can
    | some d => rfl
  have tk : (c ++ [(pt.1 + (wayI ts pt.2.toNat oi.toNat + x * ts.sum) + g, oi)]).take (j + 1) = c.take j ++ [pt] := by
    rw [List.take_append_of_le_length (by omega), List.take_succ, List.getElem?_eq_getElem (by omega), ← hpt, pat_get (by omega)]
    rfl
  refine ⟨c ++ [(pt.1 + (wayI ts pt.2.toNat oi.toNat + x * ts.sum) + g, oi)], some (.int oi), some (.int x), some (.int (wayI ts pt.2.toNat oi.toNat + x * ts.sum)), some (.int (wayI ss pt.2.toNat oi.toNat + x * ss.sum)), s3, ?_, hp3, ?_, by simp [hlen], fun p hp => ?_, fun i hi => ?_, fun p hp => ?_⟩
  · rw [show j + 1 = c.length by omega, pat_end]
    have y0 : ∀ s, ixD (pairD pt) (.int 0) s = .ok (.int pt.1) s := fun s => ix_pair0 s _
    have y1 : ∀ s, ixD (pairD pt) (.int 1) s = .ok (.int pt.2) s := fun s => ix_pair1 s _
    have hpd : pairD (pt.1 + (wayI ts pt.2.toNat oi.toNat + x * ts.sum) + g, oi) = .tup [.int (pt.1 + (wayI ts pt.2.toNat oi.toNat + x * ts.sum) + g), .int oi] := rfl
    rw [hpd]
    clear can spn hpd tk
    generalize (c.take j).map pairD = acc at *
    generalize wayI ts pt.2.toNat oi.toNat = wk at *
    generalize wayI ss pt.2.toNat oi.toNat = wv at *
    generalize pairD pt = ptd at *
    generalize ts.sum = S1 at *
    generalize ss.sum = S2 at *
    generalize tupI ts = tsd at *
    generalize tupI ss = ssd at *
    simp [t_body6, p1, il, ap, ln, e1, e2, y0, y1, w1, w2, sm1, sm2, m1, m2, e3]
  · rw [tk, List.map_append]; exact at3
  · rcases List.mem_append.mp hp with hp | hp
    · exact hok p hp
    · rw [List.mem_singleton.mp hp]; exact mo _ (by have := hpm.1; omega)
  · by_cases z : i < j
    · rw [pat_app (by omega), pat_app (by omega)]; exact hst i z
    · have : i = j := by omega
      subst this
      rw [show i + 1 = c.length by omega, pat_end, pat_app (by omega), hpt]
      exact spn
  · rw [Int.natCast_add, Int.add_mul]
    rcases List.mem_append.mp hp with hp | hp
    · have := hbd p hp; omega
    · rw [List.mem_singleton.mp hp]
      show pt.1 + _ + g ≤ _
      omega
theorem f_timed {FD : FA} (hD : Draw FD) (hFD : F__law_draw = FD) {ts ss : List Int} (hT : Trk ts) (h : Slow ts ss) (hs2 : ss.sum ≤ 10000000000000000000000000000) {st : Sto} {n k : Nat} (hp : Pool n st) (hk : k < 30) :
    ∃ b st', F__law_timed_row [.mut n, tupI ts, tupI ss, .int k] st = .ok (bagD b) st' ∧ Pool n st' ∧ b.length = k ∧ BagOk ts b ∧ SteadyP ts ss b ∧ ∀ p ∈ b, p.1 ≤ 8 + k * (4 * ss.sum) := by
  subst hFD
  have hbig := big_ge
  have h0 : 0 < ts.length := hT.pos
  have h8 := hT.le
  have hn : n < st.length := by obtain ⟨a, b, c, h⟩ := hp; exact (List.getElem?_eq_some_iff.mp h).1
  have hp1 : Pool n (st ++ [.lst []]) := by
    obtain ⟨a, b, c, h⟩ := hp
    exact ⟨a, b, c, by rw [List.getElem?_append_left hn]; exact h⟩
  obtain ⟨t, s1, e1, a0, a1, hp2, ef1⟩ := hD (m := 9) hp1 (by omega) (by omega)
  obtain ⟨m, s2, e2, b0, b1, hp3, ef2⟩ := hD (m := (ts.length : Int)) hp2 (by omega) (by omega)
  have hq1 : s2[st.length]? = some (.lst []) := by rw [ef2.2 _ (by omega), ef1.2 _ (by omega)]; simp
  obtain ⟨env', s', e, c, o6, o7, o8, o9, o10, rfl, h'⟩ := loop_nx (g := tgT (.nm 6)) (body := t_body6)
    (fun j env s => ∃ (c : List P2) (o6 o7 o8 o9 o10 : Option D), env = [some (.mut n), some (tupI ts), some (tupI ss), some (.int k), some (.mut st.length), some (pairD (pat c j)), o6, o7, o8, o9, o10] ∧ TimedAt ts ss n st.length j c s)
    (xs := rangeD 0 k) (env := [some (.mut n), some (tupI ts), some (tupI ss), some (.int k), some (.mut st.length), some (.tup [.int t, .int m]), none, none, none, none, none]) (st := s2)
    ⟨[(t, m)], none, none, none, none, none, rfl, ⟨hp3, by simpa using hq1, rfl, fun p hp => by rw [List.mem_singleton.mp hp]; exact ⟨a0, b0, b1⟩, fun i hi => by omega, fun p hp => by
      rw [List.mem_singleton.mp hp]
      show t ≤ _
      simp; omega⟩⟩
    (by
      rintro j x env s hx ⟨c, o6, o7, o8, o9, o10, rfl, hI⟩
      obtain ⟨rfl, hj⟩ := range_get hx
      obtain ⟨c', q7, q8, q9, q10, st', e, hI'⟩ := timed_turn hD hT h hs2 (by omega) (by omega) hI (some (.int k)) (some (.int (0 + j))) o7 o8 o9 o10 rfl
      refine ⟨_, st', ?_, c', some (.int (0 + j)), q7, q8, q9, q10, rfl, hI'⟩
      simp only [Int.zero_add] at e ⊢
      simp [e])
  rw [rangeD_length] at h'
  have hat := h'.at_
  have hlen := h'.len
  have tf : tupleF [.mut st.length] s' = .ok (bagD (c.take k)) s' := by
    show (match seqOf (.mut st.length) s' with | some xs => _ | none => _) = _
    have : seqOf (.mut st.length) s' = some ((c.take k).map pairD) := by simp [seqOf, hat]
    rw [this]; rfl
  have lk : (c.take k).length = k := by rw [List.length_take]; omega
  have ok : ∀ p ∈ c.take k, MatOk ts p := fun p hp => h'.ok p (List.mem_of_mem_take hp)
  have stp : SteadyP ts ss (c.take k) := steady_of fun i hi => by
    rw [lk] at hi
    have := h'.st i (by omega)
    have g : ∀ i, i < k → pat (c.take k) i = pat c i := fun i hi => by rw [pat_get (by omega), pat_get (by omega), List.getElem_take]
    rw [g _ (by omega), g _ (by omega)]
    exact this
  have bg : BagOk ts (c.take k) := RowOk.bag hT ⟨ok, steady_row hT ok stp⟩ (by omega)
  refine ⟨c.take k, s', ?_, h'.pool, lk, bg, stp, fun p hp => h'.bd p (List.mem_of_mem_take hp)⟩
  have ln : ∀ s, lenF [tupI ts] s = .ok (.int ts.length) s := fun s => by simp [tupI]
  have p1 : ∀ (env : G.Env) (st : Sto) (fs : EvA), parS 4 5 fs env st = bindS (fs env st) env fun as s1 => match as with
    | [a, b] => .nx ((env.set 4 (some a)).set 5 (some b)) s1
    | _ => .fail := fun _ _ _ => rfl
  have k8 : k < 4611686018427387904 := by omega
  unfold F__law_timed_row
  rw [t_right_eq]
  generalize bagD (c.take k) = bd at *
  generalize pairD (pat c k) = pd at *
  generalize tupI ss = ssd at *
  generalize tupI ts = tsd at *
  simp [runF, p1, e1, ln, e2, k8, e, tf]
/-! the law's own looks -/
def optPD (o : Option P2) : PyData := match o with
  | some p => pairPD p
  | none => .none
theorem toPD_opt (o : Option P2) : toPD (optD o) = some (optPD o) := by
  cases o with
  | none => rfl
  | some p => exact toPD_pair p
theorem toPDs_opt : ∀ os : List (Option P2), toPDs (os.map optD) = some (os.map optPD)
  | [] => by simp [toPDs]
  | o :: os => by rw [List.map_cons, List.map_cons]; unfold toPDs; rw [toPD_opt, toPDs_opt os]
theorem canLay_opt : ∀ os : List (Option P2), PyData.canLayAll0 (os.map optPD) = true
  | [] => by simp [PyData.canLayAll0]
  | o :: os => by
    have := canLay_opt os
    cases o <;> simp [PyData.canLayAll0, optPD, pairPD, PyData.canLay0, this]
theorem depth_opt : ∀ os : List (Option P2), PyData.depthAll (os.map optPD) ≤ 1
  | [] => by simp [PyData.depthAll]
  | o :: os => by
    have := depth_opt os
    cases o <;> simp [PyData.depthAll, optPD, pairPD, PyData.depth, this]
theorem notIn_opt (os : List (Option P2)) (st : Sto) : notInD .non (.lst (os.map optD)) st = .ok (.bl (os.all Option.isSome)) st := by
  have e : inO .non (.lst (os.map optD)) st = some (os.any fun o => !o.isSome) := by
    unfold inO
    rw [show toPD .non = some .none from rfl, show seqOf (.lst (os.map optD)) st = some (os.map optD) from rfl, Option.bind_some, toPDs_opt]
    have hd := depth_opt os
    show (if SeqAt.shaped .none = true ∧ SeqAt.shaped (.list (os.map optPD)) = true then _ else _) = _
    rw [if_pos ⟨by simp [SeqAt.shaped, PyData.canLay0, PyData.depth], by simp [SeqAt.shaped, PyData.canLay0, canLay_opt, PyData.depth]; omega⟩, List.any_map]
    congr 1
    congr 1
    funext o
    cases o <;> simp [Function.comp, optPD, pairPD, PyData.eqv]
  unfold notInD; rw [e]
  show R.ok (D.bl (!(os.any fun o => !o.isSome))) st = _
  congr 2
  rw [List.not_any_eq_all_not]
  congr 1
  funext o
  simp
theorem steady_all (ts ss : List Int) (b : List P2) : decide (SteadyP ts ss b) = (spansI ts ss b).all Option.isSome := by
  rw [Bool.eq_iff_iff, decide_eq_true_iff, List.all_eq_true]
  unfold spansI SteadyP
  constructor
  · intro h o ho
    obtain ⟨g, hg, rfl⟩ := List.mem_map.mp ho
    exact h g hg
  · intro h g hg
    exact h _ (List.mem_map.mpr ⟨g, hg, rfl⟩)
theorem sum_bd {B : Int} : ∀ {l : List Int}, (∀ x ∈ l, 0 ≤ x ∧ x ≤ B) → 0 ≤ l.sum ∧ l.sum ≤ l.length * B
  | [], _ => by simp
  | x :: l, h => by
    have h1 := sum_bd (l := l) fun y hy => h y (List.mem_cons_of_mem _ hy)
    have h2 := h x List.mem_cons_self
    rw [List.sum_cons, List.length_cons, Int.natCast_add, Int.add_mul]
    omega
theorem small400 {x : Int} (h0 : 0 ≤ x) (h : x ≤ 10000000000000000000000000000000000000) : x.natAbs < 2 ^ 400 := by
  have h1 : (10000000000000000000000000000000000000 : Nat) < 2 ^ 400 := by decide
  omega
theorem cross_r {ts ss : List Int} (hT : Trk ts) {b : List P2} (hb : ∀ p ∈ b, MatOk ts p) (hl : b.length ≤ 30) (ht : ∀ p ∈ b, p.1 ≤ 1000000000000000000000000000000) : rOk (crossD ts ss b) = true ∧ rWt (crossD ts ss b) ≤ 15000 ∧ rDp (crossD ts ss b) ≤ 10 := by
  have h8 := hT.le
  have hg : ∀ d ∈ gotS ts ss b, 0 ≤ d.1 ∧ d.1 ≤ d.2 ∧ d.2 ≤ 1000000000000000000000000000000 := fun d hd => by
    obtain ⟨g, hg, e⟩ := List.mem_filterMap.mp hd
    have hm := gaps_mem hg
    have := span_bd hT (hb _ hm.2) (hb _ hm.1) e
    have := ht _ hm.2
    have := (hb _ hm.1).1
    omega
  have hgl : (gotS ts ss b).length ≤ 29 := by
    have := List.length_filterMap_le (fun g : P2 × P2 => spanI ts ss g.2 g.1) (gapsL b)
    rw [gaps_len] at this
    unfold gotS; omega
  have b1 := sum_bd (B := 1000000000000000000000000000000) (l := (gotS ts ss b).map Prod.fst) fun x hx => by
    obtain ⟨d, hd, rfl⟩ := List.mem_map.mp hx
    have := hg d hd; omega
  have b2 := sum_bd (B := 1000000000000000000000000000000) (l := (gotS ts ss b).map Prod.snd) fun x hx => by
    obtain ⟨d, hd, rfl⟩ := List.mem_map.mp hx
    have := hg d hd; omega
  have b3 := sum_bd (B := 8) (l := (gapsL b).map fun g => ((stepsN ts.length g.1.2.toNat g.2.2.toNat : Nat) : Int)) fun x hx => by
    obtain ⟨g, hg, rfl⟩ := List.mem_map.mp hx
    have hm := gaps_mem hg
    have h1 := (hb _ hm.1).2
    have h2 := (hb _ hm.2).2
    have := (steps_rng (M := ts.length) (m := g.1.2.toNat) (o := g.2.2.toNat) (by omega) (by omega)).2
    omega
  rw [List.length_map] at b1 b2 b3
  rw [gaps_len] at b3
  have c1 : ((gotS ts ss b).length : Int) * 1000000000000000000000000000000 ≤ 29 * 1000000000000000000000000000000 := Int.mul_le_mul_of_nonneg_right (by omega) (by omega)
  unfold crossD stepsG
  generalize ((gotS ts ss b).map Prod.fst).sum = y1 at *
  generalize ((gotS ts ss b).map Prod.snd).sum = y2 at *
  generalize ((gapsL b).map fun g => ((stepsN ts.length g.1.2.toNat g.2.2.toNat : Nat) : Int)).sum = sg at *
  have k : ∀ y : Int, 0 ≤ y → y ≤ 29 * 1000000000000000000000000000000 → 0 ≤ (ts.length : Int) * y ∧ (ts.length : Int) * y ≤ 8 * (29 * 1000000000000000000000000000000) := fun y h0 h1 => by
    refine ⟨Int.mul_nonneg (by omega) h0, Int.le_trans (Int.mul_le_mul_of_nonneg_right (show (ts.length : Int) ≤ 8 by omega) h0) (Int.mul_le_mul_of_nonneg_left h1 (by omega))⟩
  have k1 := k y1 b1.1 (by omega)
  have k2 := k y2 b2.1 (by omega)
  have s1 := small400 (x := sg + ts.length * y1) (by omega) (by omega)
  have s2 := small400 (x := sg + ts.length * y2) (by omega) (by omega)
  refine ⟨?_, by simp [rWt, rWtL], by simp [rDp, rDpL]⟩
  simp only [rOk, rOkL, Bool.and_true, Bool.and_eq_true, decide_eq_true_eq]
  exact ⟨s1, s2⟩
theorem f_law_steps3 (st : Sto) {ts : List Int} {m o : Nat} (hm : m < ts.length) (ho : o < ts.length) : F__law_steps_v3 [tupI ts, .int m, .int o] st = .ok (.int (stepsN ts.length m o)) st := by
  have h0 : 0 < ts.length := by omega
  have ln : lenF [tupI ts] st = .ok (.int ts.length) st := by simp [tupI]
  have e : ((o : Int) - m) % (ts.length : Int) = if m ≤ o then (o : Int) - m else o - m + ts.length := by
    split
    · exact Int.emod_eq_of_lt (by omega) (by omega)
    · rw [← Int.add_emod_right]; exact Int.emod_eq_of_lt (by omega) (by omega)
  generalize tupI ts = tsd at *
  rcases steps_cases hm ho with ⟨h, e2⟩ | ⟨h, e2⟩
  · rw [if_pos (by omega)] at e
    rw [e2]
    have : (0 : Int) < o - m := by omega
    simp [F__law_steps_v3, runF, B__law_steps_v3, ln, h0, e, this, h]
    omega
  · rw [e2]
    by_cases z : m = o
    · subst z
      rw [if_pos (Nat.le_refl _), Int.sub_self] at e
      simp [F__law_steps_v3, runF, B__law_steps_v3, ln, h0, e]
    · rw [if_neg (by omega)] at e
      have : (0 : Int) < o - m + ts.length := by omega
      simp [F__law_steps_v3, runF, B__law_steps_v3, ln, h0, e, this]
      omega
theorem f_law_bag_right {ts ss : List Int} (hT : Trk ts) (h : Slow ts ss) (hs : ts.sum.natAbs < big) (hs2 : ss.sum.natAbs < big) (st : Sto) {b : List P2} (hb : BagOk ts b) (ht : ∀ p ∈ b, p.1 ≤ 1000000000000000000000000000000) :
    ∃ l, F__law_bag_right_v2 [tupI ts, tupI ss, bagD b] st = .ok (.bl true) (st ++ l) := by
  have h8 := hT.le
  have h0 := hT.pos
  have h30 := hb.len
  have c1 := lc_typed (t := .nm 7) (fe := callE F__law_span_v2 (consA (varE 0) (consA (varE 1) (consA (binE ixD (varE 2) (varE 7)) (consA (binE ixD (varE 2) (binE subD (varE 7) (cE (.int 1)))) (nilA)))))) (envw := [some (tupI ts), some (tupI ss), some (bagD b), none, none, none, none, none, none]) (st := st)
    (fun (i : Nat) => D.int (1 + i)) (fun (i : Nat) => optD (spanI ts ss (pat b (i + 1)) (pat b i))) (List.range (b.length - 1)) [] (by simp; omega) (by
      intro i hi
      have hi := List.mem_range.mp hi
      refine ⟨[some (tupI ts), some (tupI ss), some (bagD b), none, none, none, none, some (.int (1 + i)), none], by simp, ?_⟩
      have k1 : (1 : Int) + i = ((i + 1 : Nat) : Int) := by push_cast; omega
      have k2 : ((i + 1 : Nat) : Int) - 1 = (i : Int) := by push_cast; omega
      have x1 := ix_bag st b (i + 1) (by omega)
      have x2 := ix_bag st b i (by omega)
      have e := f_law_span st hT h hs hs2 (hb.ok b[i + 1] (List.getElem_mem (by omega))) (hb.ok b[i] (List.getElem_mem (by omega)))
      rw [pat_get (by omega), pat_get (by omega)]
      generalize optD (spanI ts ss b[i + 1] b[i]) = v at *
      simp [-Int.natCast_add, k1, k2, x1, x2, e])
  rw [List.nil_append, range_gaps (fun q p => optD (spanI ts ss p q))] at c1
  have er : rangeD 1 (b.length - 1) = (List.range (b.length - 1)).map fun (i : Nat) => D.int (1 + i) := rfl
  rw [← er] at c1
  have sp : ((gapsL b).map fun g => optD (spanI ts ss g.2 g.1)) = (spansI ts ss b).map optD := by unfold spansI; rw [List.map_map]; rfl
  rw [sp] at c1
  have ni := notIn_opt (spansI ts ss b) st
  rw [← steady_all] at ni
  obtain ⟨l1, e1⟩ := f_is_steady st hT h hs hs2 hb
  obtain ⟨l2, e2⟩ := f_is_steady (st ++ l1) hT h hs hs2 hb
  rw [List.append_assoc] at e2
  have rbl : ∀ v : Bool, rOk (.bl v) = true ∧ rWt (.bl v) ≤ 15000 ∧ rDp (.bl v) ≤ 10 := fun v => ⟨rfl, by simp [rWt], by simp [rDp]⟩
  have rb := fun s => repr_two s (rbl (decide (SteadyP ts ss b))) (rbl (decide (SteadyP ts ss b)))
  have ln : ∀ s, lenF [bagD b] s = .ok (.int b.length) s := fun s => by simp [bagD]
  have lt : ∀ s, lenF [tupI ts] s = .ok (.int ts.length) s := fun s => by simp [tupI]
  have k3 : ((b.length : Int) - 1).toNat = b.length - 1 := by omega
  have k4 : b.length < 4611686018427387904 := by omega
  have m1 := mulOk_len (n := ts.length) (by omega)
  have qn := fun s => eq_bag_nil s b
  by_cases hst : SteadyP ts ss b
  · rw [decide_eq_true hst] at *
    by_cases hne : b = []
    · subst hne
      simp only [decide_true] at qn
      refine ⟨l1 ++ l2, ?_⟩
      generalize shD (.lst [.bl true, .bl true]) = z1 at *
      generalize (spansI ts ss []).map optD = sd at *
      generalize bagD [] = bd at *
      generalize tupI ts = tsd at *
      generalize tupI ss = ssd at *
      simp at c1
      simp [F__law_bag_right_v2, runF, B__law_bag_right_v2, ln, c1, ni, e1, e2, pick, rb, qn]
    · simp only [decide_eq_false hne] at qn
      have c2 := fun s => lc_typed (t := .nm 7) (fe := callE F__law_steps_v3 (consA (varE 0) (consA (binE ixD (binE ixD (varE 2) (binE subD (varE 7) (cE (.int 1)))) (cE (.int 1))) (consA (binE ixD (binE ixD (varE 2) (varE 7)) (cE (.int 1))) (nilA))))) (envw := [some (tupI ts), some (tupI ss), some (bagD b), some (.lst ((spansI ts ss b).map optD)), some (.bl true), none, none, none, none]) (st := s)
        (fun (i : Nat) => D.int (1 + i)) (fun (i : Nat) => D.int ((stepsN ts.length (pat b i).2.toNat (pat b (i + 1)).2.toNat : Nat) : Int)) (List.range (b.length - 1)) [] (by simp; omega) (by
          intro i hi
          have hi := List.mem_range.mp hi
          refine ⟨[some (tupI ts), some (tupI ss), some (bagD b), some (.lst ((spansI ts ss b).map optD)), some (.bl true), none, none, some (.int (1 + i)), none], by simp, ?_⟩
          have k1 : (1 : Int) + i = ((i + 1 : Nat) : Int) := by push_cast; omega
          have k2 : ((i + 1 : Nat) : Int) - 1 = (i : Int) := by push_cast; omega
          have x1 := ix_bag s b (i + 1) (by omega)
          have x2 := ix_bag s b i (by omega)
          have h1 := (hb.ok b[i + 1] (List.getElem_mem (by omega))).2
          have h2 := (hb.ok b[i] (List.getElem_mem (by omega))).2
          have e := f_law_steps3 s (ts := ts) (m := b[i].2.toNat) (o := b[i + 1].2.toNat) (by omega) (by omega)
          rw [Int.toNat_of_nonneg h1.1, Int.toNat_of_nonneg h2.1] at e
          rw [pat_get (by omega), pat_get (by omega)]
          generalize stepsN ts.length b[i].2.toNat b[i + 1].2.toNat = v at *
          generalize (spansI ts ss b).map optD = sd at *
          simp [-Int.natCast_add, k1, k2, x1, x2, e])
      simp only [List.nil_append, range_gaps (fun q p => D.int ((stepsN ts.length q.2.toNat p.2.toNat : Nat) : Int))] at c2
      simp only [← er] at c2
      have sm : ∀ s, sumF [.lst ((gapsL b).map fun g => D.int ((stepsN ts.length g.1.2.toNat g.2.2.toNat : Nat) : Int))] s = .ok (.int (stepsG ts b)) s := fun s => by
        have : ((gapsL b).map fun g => D.int ((stepsN ts.length g.1.2.toNat g.2.2.toNat : Nat) : Int)) = ((gapsL b).map fun g => ((stepsN ts.length g.1.2.toNat g.2.2.toNat : Nat) : Int)).map D.int := by rw [List.map_map]; rfl
        rw [this]
        exact sumF_lstI s ((gapsL b).map fun g => ((stepsN ts.length g.1.2.toNat g.2.2.toNat : Nat) : Int))
      have so : (spansI ts ss b).map optD = (gotS ts ss b).map pairD := by rw [got_map hst, List.map_map]; rfl
      have hgl : (gotS ts ss b).length ≤ 1000 := by have := got_all.mpr hst; omega
      have c3 := fun s => lc_typed (t := .nm 8) (fe := binE ixD (varE 8) (cE (.int 0))) (envw := [some (tupI ts), some (tupI ss), some (bagD b), some (.lst ((gotS ts ss b).map pairD)), some (.bl true), some (.int (stepsG ts b)), none, none, none]) (st := s)
        pairD (fun p => .int p.1) (gotS ts ss b) [] (by simp; omega) (fun p _ => ⟨[some (tupI ts), some (tupI ss), some (bagD b), some (.lst ((gotS ts ss b).map pairD)), some (.bl true), some (.int (stepsG ts b)), none, none, some (pairD p)], by simp, by simp⟩)
      have c4 := fun s => lc_typed (t := .nm 8) (fe := binE ixD (varE 8) (cE (.int 1))) (envw := [some (tupI ts), some (tupI ss), some (bagD b), some (.lst ((gotS ts ss b).map pairD)), some (.bl true), some (.int (stepsG ts b)), none, none, none]) (st := s)
        pairD (fun p => .int p.2) (gotS ts ss b) [] (by simp; omega) (fun p _ => ⟨[some (tupI ts), some (tupI ss), some (bagD b), some (.lst ((gotS ts ss b).map pairD)), some (.bl true), some (.int (stepsG ts b)), none, none, some (pairD p)], by simp, by simp⟩)
      simp only [List.nil_append] at c3 c4
      have s1 : ∀ s, sumF [.lst ((gotS ts ss b).map fun p => D.int p.1)] s = .ok (.int ((gotS ts ss b).map Prod.fst).sum) s := fun s => by
        have : ((gotS ts ss b).map fun p => D.int p.1) = ((gotS ts ss b).map Prod.fst).map D.int := by rw [List.map_map]; rfl
        rw [this]
        exact sumF_lstI _ ((gotS ts ss b).map Prod.fst)
      have s2 : ∀ s, sumF [.lst ((gotS ts ss b).map fun p => D.int p.2)] s = .ok (.int ((gotS ts ss b).map Prod.snd).sum) s := fun s => by
        have : ((gotS ts ss b).map fun p => D.int p.2) = ((gotS ts ss b).map Prod.snd).map D.int := by rw [List.map_map]; rfl
        rw [this]
        exact sumF_lstI _ ((gotS ts ss b).map Prod.snd)
      obtain ⟨l3, e3⟩ := f_crossings (st ++ (l1 ++ l2)) hT h hs hs2 hb hst hne
      obtain ⟨l4, e4⟩ := f_crossings (st ++ (l1 ++ l2) ++ l3) hT h hs hs2 hb hst hne
      have cr := cross_r (ss := ss) hT hb.ok h30 ht
      have rc := fun s => repr_two s cr cr
      rw [so] at c1 c2 ni
      refine ⟨l1 ++ l2 ++ l3 ++ l4, ?_⟩
      have hcd : D.tup [.int (stepsG ts b + ts.length * ((gotS ts ss b).map Prod.fst).sum), .int (stepsG ts b + ts.length * ((gotS ts ss b).map Prod.snd).sum)] = crossD ts ss b := rfl
      simp only [List.append_assoc] at *
      generalize shD (.lst [.bl true, .bl true]) = z1 at *
      generalize shD (.lst [crossD ts ss b, crossD ts ss b]) = z2 at *
      generalize crossD ts ss b = cd at *
      generalize ((gotS ts ss b).map Prod.fst).sum = y1 at *
      generalize ((gotS ts ss b).map Prod.snd).sum = y2 at *
      generalize ((gotS ts ss b).map fun p => D.int p.1) = w1 at *
      generalize ((gotS ts ss b).map fun p => D.int p.2) = w2 at *
      generalize (gotS ts ss b).map pairD = gd at *
      generalize ((gapsL b).map fun g => D.int ((stepsN ts.length g.1.2.toNat g.2.2.toNat : Nat) : Int)) = gs at *
      generalize stepsG ts b = sg at *
      generalize bagD b = bd at *
      generalize tupI ts = tsd at *
      generalize tupI ss = ssd at *
      simp [F__law_bag_right_v2, runF, B__law_bag_right_v2, ln, lt, k3, k4, c1, ni, e1, e2, pick, rb, qn, c2, sm, c3, c4, s1, s2, m1, hcd, e3, e4, rc]
  · rw [decide_eq_false hst] at *
    refine ⟨l1 ++ l2, ?_⟩
    generalize shD (.lst [.bl false, .bl false]) = z1 at *
    generalize (spansI ts ss b).map optD = sd at *
    generalize bagD b = bd at *
    generalize tupI ts = tsd at *
    generalize tupI ss = ssd at *
    simp [F__law_bag_right_v2, runF, B__law_bag_right_v2, ln, k3, k4, c1, ni, e1, e2, pick, rb]
theorem sum_cap {ts : List Int} (hT : Trk ts) {w : Int} (h : ∀ x ∈ ts, x ≤ w) (hw : 0 ≤ w) : ts.sum ≤ 8 * w := by
  have h8 := hT.le
  have b := sum_bd (B := w) (l := ts) fun x hx => ⟨by have := hT.one x hx; omega, h x hx⟩
  have : (ts.length : Int) * w ≤ 8 * w := Int.mul_le_mul_of_nonneg_right (by omega) hw
  omega
theorem f_marks_right {ts ss : List Int} (hT : Trk ts) (h : Slow ts ss) (hs : ts.sum.natAbs < big) (hs2 : ss.sum.natAbs < big) {st : Sto} {n : Nat} (hpl : Pool n st) {p q : P2} (hp : MatOk ts p) (hq : MatOk ts q) (ht : p.1 ≤ 1000000000000000000000000000000) :
    ∃ st', F__law_marks_right [.mut n, tupI ts, tupI ss, pairD p, pairD q] st = .ok (.bl true) st' ∧ Pool n st' := by
  have hbig := big_ge
  have hsp := sum_pos hT
  have h0 := hT.pos
  have hss := h.sum h0
  have e1 := f_law_span st hT h hs hs2 hp hq
  have e2 := f_extra_span st hT h hs hs2 hp hq
  have hr : rOk (optD (spanI ts ss p q)) = true ∧ rWt (optD (spanI ts ss p q)) ≤ 15000 ∧ rDp (optD (spanI ts ss p q)) ≤ 10 := by
    cases e : spanI ts ss p q with
    | none => exact ⟨rfl, by simp [optD, rWt], by simp [optD, rDp]⟩
    | some d =>
      have := span_bd hT hp hq e
      have := hq.1
      have s1 := small400 (x := d.1) (by omega) (by omega)
      have s2 := small400 (x := d.2) (by omega) (by omega)
      refine ⟨?_, by simp [optD, pairD, rWt, rWtL], by simp [optD, pairD, rDp, rDpL]⟩
      simp only [optD, pairD, rOk, rOkL, Bool.and_true, Bool.and_eq_true, decide_eq_true_eq]
      exact ⟨s1, s2⟩
  have rp := repr_two st hr hr
  obtain ⟨g, s1, e3, g0, g1, hp1, -⟩ := f_draw (m := 9) hpl (by omega) (by omega)
  have all : ∀ xs : List Int, xs.length ≤ 100 → (∀ x ∈ xs, x ≤ 10000000000000000000000000000000) → ∀ o5 o6 : Option D, o5 = some (optD (spanI ts ss p q)) →
      lcF (.nm 7) (andB (tstE (binE geD (varE 7) (cE (.int 0)))) (tstE (binE neD (callE F__law_can (consA (varE 1) (consA (varE 2) (consA (varE 3) (consA (varE 4) (consA (varE 7) (nilA))))))) (andE (binE notND (varE 5) (cE .non)) (chainE leD leD (binE ixD (varE 5) (cE (.int 0))) (varE 7) (binE ixD (varE 5) (cE (.int 1)))))))) (varE 7)
        [some (.mut n), some (tupI ts), some (tupI ss), some (pairD p), some (pairD q), o5, o6, none] (xs.map D.int) s1 [] = .ok [] s1 := by
    intro xs hl hx o5 o6 ho5
    subst ho5
    have e := lc_typedF (t := .nm 7) (tt := andB (tstE (binE geD (varE 7) (cE (.int 0)))) (tstE (binE neD (callE F__law_can (consA (varE 1) (consA (varE 2) (consA (varE 3) (consA (varE 4) (consA (varE 7) (nilA))))))) (andE (binE notND (varE 5) (cE .non)) (chainE leD leD (binE ixD (varE 5) (cE (.int 0))) (varE 7) (binE ixD (varE 5) (cE (.int 1)))))))) (fe := varE 7)
      (envw := [some (.mut n), some (tupI ts), some (tupI ss), some (pairD p), some (pairD q), some (optD (spanI ts ss p q)), o6, none]) (st := s1) D.int D.int (fun _ => false) xs [] (by simp; omega) (by
        intro x hxm
        refine ⟨[some (.mut n), some (tupI ts), some (tupI ss), some (pairD p), some (pairD q), some (optD (spanI ts ss p q)), o6, some (.int x)], by simp, ?_, fun z => by cases z⟩
        by_cases x0 : 0 ≤ x
        · have hxb := hx x hxm
          have c := f_law_can s1 hT h hp hq x (.inr (.inr ⟨by omega, hs⟩)) (.inr (.inr ⟨by omega, hs2⟩))
          rw [can_span (by omega) (by omega) p q x x0] at c
          cases e : spanI ts ss p q with
          | none =>
            rw [e] at c
            have nn : notND .non .non s1 = .ok (.bl false) s1 := rfl
            generalize pairD p = pd at *
            generalize pairD q = qd at *
            generalize tupI ts = tsd at *
            generalize tupI ss = ssd at *
            simp [x0, c, optD, nn]
          | some d =>
            rw [e] at c
            have nn : ∀ d, notND (pairD d) .non s1 = .ok (.bl true) s1 := fun _ => rfl
            have i0 := ix_pair0 s1 d
            have i1 := ix_pair1 s1 d
            have nn := nn d
            simp only [optD]
            generalize pairD d = dd at *
            generalize pairD p = pd at *
            generalize pairD q = qd at *
            generalize tupI ts = tsd at *
            generalize tupI ss = ssd at *
            by_cases a : d.1 ≤ x <;> by_cases b : x ≤ d.2 <;> simp [a, b] at c <;> simp [x0, c, nn, i0, i1, a, b]
        · simp [x0])
    rw [List.filter_eq_nil_iff.mpr (fun _ _ => by simp)] at e
    simpa using e
  refine ⟨s1, ?_, hp1⟩
  cases e : spanI ts ss p q with
  | none =>
    rw [e] at e1 e2 rp all
    have a := all [0, 1, 2, g] (by simp) (by simp; omega)
    have nn : notND .non .non s1 = .ok (.bl false) s1 := rfl
    have ad : addD (.lst [.int 0, .int 1, .int 2, .int g]) (.lst []) s1 = .ok (.lst [.int 0, .int 1, .int 2, .int g]) s1 := rfl
    simp only [optD, List.map_cons, List.map_nil] at *
    generalize shD (.lst [.non, .non]) = z at *
    generalize pairD p = pd at *
    generalize pairD q = qd at *
    generalize tupI ts = tsd at *
    generalize tupI ss = ssd at *
    have eq0 : eqD (.lst []) (.lst []) s1 = .ok (.bl true) s1 := rfl
    simp [F__law_marks_right, runF, B__law_marks_right, e1, e2, pick, rp, e3, nn, ad, a, eq0]
  | some d =>
    have hb := span_bd hT hp hq e
    have := hq.1
    rw [e] at e1 e2 rp all
    have a := all [0, 1, 2, g, d.1 - 1, d.1, d.2, d.2 + 1] (by simp) (by simp; omega)
    have nn : ∀ d, notND (pairD d) .non s1 = .ok (.bl true) s1 := fun _ => rfl
    have ad : addD (.lst [.int 0, .int 1, .int 2, .int g]) (.lst [.int (d.1 - 1), .int d.1, .int d.2, .int (d.2 + 1)]) s1 = .ok (.lst [.int 0, .int 1, .int 2, .int g, .int (d.1 - 1), .int d.1, .int d.2, .int (d.2 + 1)]) s1 := rfl
    have i0 := ix_pair0 s1 d
    have i1 := ix_pair1 s1 d
    have nn := nn d
    simp only [optD, List.map_cons, List.map_nil] at *
    generalize shD (.lst [pairD d, pairD d]) = z at *
    generalize pairD d = dd at *
    generalize pairD p = pd at *
    generalize pairD q = qd at *
    generalize tupI ts = tsd at *
    generalize tupI ss = ssd at *
    have eq0 : eqD (.lst []) (.lst []) s1 = .ok (.bl true) s1 := rfl
    simp [F__law_marks_right, runF, B__law_marks_right, e1, e2, pick, rp, e3, nn, i0, i1, ad, a, eq0]
theorem Pool.ext {n : Nat} {st : Sto} (h : Pool n st) (l : Sto) : Pool n (st ++ l) := by
  obtain ⟨a, b, c, h⟩ := h
  exact ⟨a, b, c, by rw [List.getElem?_append_left (List.getElem?_eq_some_iff.mp h).1]; exact h⟩
theorem add_slow {ts gs : List Int} (hl : gs.length = ts.length) (hg : ∀ x ∈ gs, 0 ≤ x) : Slow ts ((ts.zip gs).map fun g => g.1 + g.2) := by
  refine ⟨by simp [hl], fun i hi => ?_⟩
  have := hg gs[i] (List.getElem_mem _)
  have e1 : ts.getD i 0 = ts[i] := by rw [List.getD_eq_getElem?_getD, List.getElem?_eq_getElem hi]; rfl
  have e2 : ((ts.zip gs).map fun g => g.1 + g.2).getD i 0 = ts[i] + gs[i] := by
    rw [List.getD_eq_getElem?_getD, List.getElem?_eq_getElem (by simp; omega)]; simp
  omega
theorem slow_comp {st : Sto} {p : Nat} {ts : List Int} (h8 : ts.length ≤ 8) (hw : ∀ x ∈ ts, 1 ≤ x ∧ x ≤ 1000000000) {w : Int} (w1 : 1 ≤ w) (w2 : w ≤ 1000000000000000000000000000) (hp : Pool p st) {o1 o4 o5 o6 o7 o8 o9 o10 : Option D} :
    ∃ (ss : List Int) (st' : Sto), lcF (.nm 11) yesB (binE addD (varE 11) (callE F__law_draw (consA (varE 0) (consA (varE 3) (nilA))))) [some (.mut p), o1, some (tupI ts), some (.int w), o4, o5, o6, o7, o8, o9, o10, none] (ts.map D.int) st [] = .ok (ss.map D.int) st' ∧ Pool p st' ∧ Slow ts ss ∧ ∀ x ∈ ss, x ≤ 1000000000 + w := by
  have hbig := big_ge
  obtain ⟨s3, acc, e3, ss, rfl, hsl, hge, hle, hp3⟩ := lc_inv (t := .nm 11) (tt := yesB) (fe := binE addD (varE 11) (callE F__law_draw (consA (varE 0) (consA (varE 3) (nilA))))) (envw := [some (.mut p), o1, some (tupI ts), some (.int w), o4, o5, o6, o7, o8, o9, o10, none])
    (fun j s acc => ∃ ss : List Int, acc = ss.map D.int ∧ ss.length = j ∧ (∀ i, i < j → ts.getD i 0 ≤ ss.getD i 0) ∧ (∀ x ∈ ss, x ≤ 1000000000 + w) ∧ Pool p s) (ts.map D.int) 0 st [] ⟨[], rfl, rfl, fun i hi => by omega, by simp, hp⟩
    (by
      rintro j x s acc hx ⟨ss, rfl, h1, h2, h3, hp⟩
      rw [List.getElem?_map] at hx
      obtain ⟨t, ht, rfl⟩ := Option.map_eq_some_iff.mp hx
      have hj := (List.getElem?_eq_some_iff.mp ht).1
      have htm := hw t (List.mem_of_getElem? ht)
      obtain ⟨g, s2, e2, g0, g1, hp2, ef2⟩ := f_draw (m := w) hp (by omega) (by omega)
      refine ⟨s2, (ss ++ [t + g]).map D.int, fun k => ?_, ss ++ [t + g], rfl, by simp [h1], fun i hi => ?_, fun y hy => ?_, hp2⟩
      · rw [turnC_yes (y := .int (t + g)) (st' := s2) (env1 := [some (.mut p), o1, some (tupI ts), some (.int w), o4, o5, o6, o7, o8, o9, o10, some (.int t)]) (by simp) (by simp [e2]) (by simp; omega)]
        simp
      · by_cases z : i < ss.length
        · have := h2 i (by omega)
          rw [List.getD_eq_getElem?_getD (l := ss ++ [t + g]), List.getElem?_append_left z, ← List.getD_eq_getElem?_getD]
          exact this
        · have : i = ss.length := by omega
          subst this
          rw [List.getD_eq_getElem?_getD, List.getD_eq_getElem?_getD, List.getElem?_append_right (Nat.le_refl _), show ss.length = j by omega, ht]
          simp; omega
      · rcases List.mem_append.mp hy with hy | hy
        · exact h3 y hy
        · rw [List.mem_singleton.mp hy]; omega)
  rw [List.length_map, Nat.zero_add] at hsl hge
  exact ⟨ss, s3, e3, hp3, ⟨hsl, hge⟩, hle⟩
theorem f_outer {st : Sto} {p : Nat} {turn : Int} (hp : Pool p st) (o2 o3 o4 o5 o6 o7 o8 o9 o10 : Option D) :
    ∃ q2 q3 q4 q5 q6 q7 q8 q9 q10 st', r_body1 [some (.mut p), some (.int turn), o2, o3, o4, o5, o6, o7, o8, o9, o10, none] st = .nx [some (.mut p), some (.int turn), q2, q3, q4, q5, q6, q7, q8, q9, q10, none] st' ∧ Pool p st' := by
  have hbig := big_ge
  obtain ⟨ts, s1, e1, hT, hw, hl, hp1, -⟩ := f_track (most := 8) hp (by omega) (by omega)
  have D1 : DT ts 1000000000 := .of (by omega) hT.pos (by omega) hw
  have hs12 : ts.sum ≤ 1000000000000 := by have := D1.s; omega
  have hsp := D1.p
  have hs : ts.sum.natAbs < big := by omega
  have h0 : 0 < ts.length := hT.pos
  have h8 := hT.le
  obtain ⟨d, s2, e2, hd, hp2, -⟩ := oneA_lst f_draw.below (xs := [.int 1, .int 3, .int 40, .int 1000000000000000000000000000]) hp1 (by simp) (by simp)
  obtain ⟨w, rfl, w1, w2⟩ : ∃ w : Int, d = .int w ∧ 1 ≤ w ∧ w ≤ 1000000000000000000000000000 := by
    simp at hd
    rcases hd with rfl | rfl | rfl | rfl
    · exact ⟨1, rfl, by omega, by omega⟩
    · exact ⟨3, rfl, by omega, by omega⟩
    · exact ⟨40, rfl, by omega, by omega⟩
    · exact ⟨_, rfl, by omega, by omega⟩
  have e2 : F__law_pick [.mut p, .lst [.int 1, .int 3, .int 40, .int 1000000000000000000000000000]] s1 = .ok (.int w) s2 := e2
  obtain ⟨ss, s3, e3, hp3, hS, hsb⟩ := slow_comp h8 hw w1 w2 hp2 (o1 := some (.int turn)) (o4 := o4) (o5 := o5) (o6 := o6) (o7 := o7) (o8 := o8) (o9 := o9) (o10 := o10)
  have hST := hS.trk hT
  have hss := hS.sum h0
  have hsc := sum_cap hST hsb (by omega)
  have hs2 : ss.sum.natAbs < big := by omega
  have tf : tupleF [.lst (ss.map D.int)] s3 = .ok (tupI ss) s3 := rfl
  obtain ⟨kk, s4, e4, k0, k1, hp4, -⟩ := f_draw (m := 6) hp3 (by omega) (by omega)
  obtain ⟨k, rfl⟩ := Int.eq_ofNat_of_zero_le k0
  obtain ⟨row, s5, e5, hp5, l5, bg5, st5, tm5⟩ := f_timed f_draw rfl hT hS (by omega) (k := 2 + k) hp4 (by omega)
  have kk2 : (2 : Int) + k = ((2 + k : Nat) : Int) := by push_cast; rfl
  have T5 : ∀ q ∈ row, q.1 ≤ 1000000000000000000000000000000 := fun q hq => by
    have := tm5 q hq
    have : ((2 + k : Nat) : Int) * (4 * ss.sum) ≤ 8 * (4 * ss.sum) := Int.mul_le_mul_of_nonneg_right (by omega) (by omega)
    omega
  obtain ⟨b1, s6, e6, hp6, l6, ok6, tm6⟩ := rowK_ok f_draw hT hs12 (p0 := (0, 0)) (k := 5) hp5 (by omega) ⟨by decide, by decide, by show (0 : Int) < _; omega⟩
  obtain ⟨b2, s7, e7, hp7, l7, ok7, tm7⟩ := bagK_ok f_draw hT hs12 (k := 3) hp6 (by omega)
  rw [← row_eq] at e6
  rw [← bag_eq] at e7
  have pp : pairD (0, 0) = .tup [.int 0, .int 0] := rfl
  rw [pp] at e6
  have e6 : F__law_drawn_row [.mut p, tupI ts, .tup [.int 0, .int 0], .int 5] s5 = .ok (bagD b1) s6 := e6
  have e7 : F__law_drawn_bag [.mut p, tupI ts, .int 3] s6 = .ok (bagD b2) s7 := e7
  have sl : ∀ s, sliceD (bagD row) none (some 1) s = .ok (bagD (row.take 1)) s := fun s => by rw [slice_bag, show (1 : Int) = ((1 : Nat) : Int) from rfl, cutL_to]
  have bgs : BagOk ts (row.take 1) := bg5.sub (List.take_sublist _ _)
  obtain ⟨env', s8, e8, q6, rfl, hp8⟩ := loop_nx (g := tgT (.nm 6)) (body := r_body6)
    (fun j env s => ∃ o6 : Option D, env = [some (.mut p), some (.int turn), some (tupI ts), some (.int w), some (tupI ss), some (bagD row), o6, o7, o8, o9, o10, none] ∧ Pool p s)
    (xs := [bagD row, bagD b1, bagD b2, .tup [], bagD (row.take 1)]) (env := [some (.mut p), some (.int turn), some (tupI ts), some (.int w), some (tupI ss), some (bagD row), o6, o7, o8, o9, o10, none]) (st := s7)
    ⟨_, rfl, hp7⟩
    (by
      rintro j x env s hx ⟨o6, rfl, hps⟩
      obtain ⟨c, rfl, hc, hct⟩ : ∃ c, x = bagD c ∧ BagOk ts c ∧ (∀ p ∈ c, p.1 ≤ 1000000000000000000000000000000) := by
        have hx := List.mem_of_getElem? hx
        simp only [List.mem_cons, List.not_mem_nil, or_false] at hx
        rcases hx with rfl | rfl | rfl | rfl | rfl
        · exact ⟨_, rfl, bg5, T5⟩
        · exact ⟨_, rfl, ok6.bag hT (by omega), fun p hp => by have := (tm6 p hp).2; simp only at this; omega⟩
        · exact ⟨_, rfl, ok7, fun p hp => by have := tm7 p hp; omega⟩
        · exact ⟨[], rfl, ⟨by simp, by simp, List.Pairwise.nil⟩, by simp⟩
        · exact ⟨_, rfl, bgs, fun p hp => T5 p (List.mem_of_mem_take hp)⟩
      obtain ⟨l, e⟩ := f_law_bag_right hT hS hs hs2 s hc hct
      refine ⟨_, s ++ l, ?_, some (bagD c), rfl, Pool.ext hps l⟩
      generalize bagD c = cd at *
      generalize bagD row = rd at *
      generalize tupI ss = ssd at *
      generalize tupI ts = tsd at *
      simp [r_body6, e])
  obtain ⟨l9, e9⟩ := f_is_steady s8 hT hS hs hs2 bg5
  rw [decide_eq_true st5] at e9
  have e10 := f_is_row_gen (s8 ++ l9) hT hs bg5
  rw [decide_eq_true ((rowP_iff hT bg5.ok).mpr (steady_row hT bg5.ok st5))] at e10
  obtain ⟨env', s11, e11, q7, q8, q9, rfl, hp11⟩ := loop_nx (g := tgT (.nm 7)) (body := r_body7)
    (fun j env s => ∃ o7 o8 o9 : Option D, env = [some (.mut p), some (.int turn), some (tupI ts), some (.int w), some (tupI ss), some (bagD row), q6, o7, o8, o9, o10, none] ∧ Pool p s)
    (xs := rangeD 0 5) (env := [some (.mut p), some (.int turn), some (tupI ts), some (.int w), some (tupI ss), some (bagD row), q6, o7, o8, o9, o10, none]) (st := s8 ++ l9)
    ⟨_, _, _, rfl, Pool.ext hp8 l9⟩
    (by
      rintro j x env s hx ⟨o7, o8, o9, rfl, hps⟩
      obtain ⟨rfl, hj⟩ := range_get hx
      have mk : mulOk 9 ss.sum := mulOk_lit' (by decide)
      obtain ⟨d, t1, x1, hd, hq1, -⟩ := oneA_lst f_draw.below (xs := [.int 9, .int (9 * ss.sum)]) hps (by simp) (by simp)
      obtain ⟨m, rfl, m1, m2⟩ : ∃ w : Int, d = .int w ∧ 1 ≤ w ∧ w ≤ 100000000000000000000000000000 := by
        simp at hd
        rcases hd with rfl | rfl
        · exact ⟨9, rfl, by omega, by omega⟩
        · exact ⟨_, rfl, by omega, by omega⟩
      have x1 : F__law_pick [.mut p, .lst [.int 9, .int (9 * ss.sum)]] s = .ok (.int m) t1 := x1
      obtain ⟨a, t2, x2, a0, a1, hq2, -⟩ := f_draw (m := m) hq1 (by omega) (by omega)
      obtain ⟨b, t3, x3, b0, b1, hq3, -⟩ := f_draw (m := ts.length) hq2 (by omega) (by omega)
      obtain ⟨c, t4, x4, c0, c1, hq4, -⟩ := f_draw (m := 9) hq3 (by omega) (by omega)
      obtain ⟨e, t5, x5, f0, f1, hq5, -⟩ := f_draw (m := ts.length) hq4 (by omega) (by omega)
      obtain ⟨t6, x6, hq6⟩ := f_marks_right hT hS hs hs2 hq5 (p := (a, b)) (q := (c, e)) ⟨a0, b0, b1⟩ ⟨c0, f0, f1⟩ (by show a ≤ _; omega)
      have p1 : ∀ (env : G.Env) (st : Sto) (fs : EvA), parS 8 9 fs env st = bindS (fs env st) env fun as s1 => match as with
        | [a, b] => .nx ((env.set 8 (some a)).set 9 (some b)) s1
        | _ => .fail := fun _ _ _ => rfl
      have pa : pairD (a, b) = .tup [.int a, .int b] := rfl
      have pb : pairD (c, e) = .tup [.int c, .int e] := rfl
      rw [pa, pb] at x6
      have ln : ∀ s, lenF [tupI ts] s = .ok (.int ts.length) s := fun s => by simp [tupI]
      have sm : ∀ s, sumF [tupI ss] s = .ok (.int ss.sum) s := fun s => by simp
      refine ⟨_, t6, ?_, some (.int (0 + j)), some (.tup [.int a, .int b]), some (.tup [.int c, .int e]), rfl, hq6⟩
      generalize bagD row = rd at *
      generalize ss.sum = S2 at *
      generalize tupI ss = ssd at *
      generalize tupI ts = tsd at *
      simp [r_body7, p1, sm, mk, x1, x2, ln, x3, x4, x5, x6])
  obtain ⟨b3, s12, e12, hp12, l12, ok12, tm12⟩ := bagK_ok f_draw hT hs12 (k := 4) hp11 (by omega)
  rw [← bag_eq] at e12
  have e12 : F__law_drawn_bag [.mut p, tupI ts, .int 4] s11 = .ok (bagD b3) s12 := e12
  obtain ⟨fs, hfs⟩ : ∃ fs : List Int, fs = ts.map fun x => x + 100000000000000000000000000000 := ⟨_, rfl⟩
  have hF : Slow ts fs := by
    refine ⟨by rw [hfs, List.length_map], fun i hi => ?_⟩
    rw [hfs, List.getD_eq_getElem?_getD, List.getD_eq_getElem?_getD, List.getElem?_map, List.getElem?_eq_getElem hi]
    simp
    omega
  have hFT := hF.trk hT
  have hfb : ∀ x ∈ fs, 100000000000000000000000000000 ≤ x ∧ x ≤ 200000000000000000000000000000 := fun x hx => by
    rw [hfs] at hx
    obtain ⟨y, hy, rfl⟩ := List.mem_map.mp hx
    have := hw y hy
    omega
  have hfc := sum_cap hFT (fun x hx => (hfb x hx).2) (by omega)
  have hfp := sum_pos hFT
  have hsf : fs.sum.natAbs < big := by omega
  have lcf := lc_typed (t := .nm 11) (fe := binE addD (varE 11) (binE powD (cE (.int 10)) (cE (.int 29)))) (envw := [some (.mut p), some (.int turn), some (tupI ts), some (.int w), some (tupI ss), some (bagD row), q6, q7, q8, q9, o10, none]) (st := s12)
    D.int (fun x => D.int (x + 100000000000000000000000000000)) ts [] (by simp; omega) (fun x _ => ⟨[some (.mut p), some (.int turn), some (tupI ts), some (.int w), some (tupI ss), some (bagD row), q6, q7, q8, q9, o10, some (.int x)], by simp, by simp⟩)
  rw [List.nil_append, show (ts.map fun x => D.int (x + 100000000000000000000000000000)) = fs.map D.int by rw [hfs, List.map_map]; rfl] at lcf
  have tf2 : tupleF [.lst (fs.map D.int)] s12 = .ok (tupI fs) s12 := rfl
  obtain ⟨l13, e13⟩ := f_is_steady s12 hT hF hs hsf ok12
  have far := far_steady hT hF ok12.ok (fun q hq r hr => by
    have h1 := tm12 q hq
    have h2 := (ok12.ok r hr).1
    have h3 := (ok12.ok q hq).2
    have h4 := (ok12.ok r hr).2
    have h5 := walk_le_of hFT r.2.toNat (steps_rng (M := fs.length) (m := r.2.toNat) (o := q.2.toNat) (by rw [hF.len]; omega) (by rw [hF.len]; omega)).1
    have h6 : walkI fs r.2.toNat 1 = fs.getD (r.2.toNat % fs.length) 0 := by simp [walkI, at_]
    have h7 := (hfb _ (getD_mem (ts := fs) (i := r.2.toNat % fs.length) (Nat.mod_lt _ (by rw [hF.len]; omega)))).1
    unfold wayI
    omega)
  rw [far] at e13
  have e14 := f_is_row_gen (s12 ++ l13) hT hs ok12
  refine ⟨some (tupI ts), some (.int w), some (tupI ss), some (bagD row), some (bagD b3), q7, q8, q9, some (tupI fs), s12 ++ l13, ?_, Pool.ext hp12 l13⟩
  have p1 : ∀ (env : G.Env) (st : Sto) (fs : EvA), parS 6 10 fs env st = bindS (fs env st) env fun as s1 => match as with
    | [a, b] => .nx ((env.set 6 (some a)).set 10 (some b)) s1
    | _ => .fail := fun _ _ _ => rfl
  generalize decide (wrongI ts b3 = []) = v at *
  generalize bagD (row.take 1) = rt at *
  generalize bagD row = rd at *
  generalize bagD b1 = d1 at *
  generalize bagD b2 = d2 at *
  generalize bagD b3 = d3 at *
  generalize fs.map D.int = fsl at *
  generalize ss.map D.int = ssl at *
  generalize tupI fs = fsd at *
  generalize tupI ss = ssd at *
  have it : ∀ s, iterD (tupI ts) s = .ok (.frz (ts.map D.int)) s := fun s => rfl
  generalize ts.map D.int = tsl at *
  generalize tupI ts = tsd at *
  simp [-Int.natCast_add, r_body1, p1, e1, e2, it, e3, tf, e4, kk2, e5, e6, e7, sl, e8, e9, e10, e11, e12, lcf, tf2, e13, e14]
theorem f_right : Right F__law_right := by
  intro st p hp
  have hbig := big_ge
  obtain ⟨env', s', e, o1, o2, o3, o4, o5, o6, o7, o8, o9, o10, rfl, hp'⟩ := loop_nx (g := tgT (.nm 1)) (body := r_body1)
    (fun j env s => ∃ o1 o2 o3 o4 o5 o6 o7 o8 o9 o10 : Option D, env = [some (.mut p), o1, o2, o3, o4, o5, o6, o7, o8, o9, o10, none] ∧ Pool p s)
    (xs := rangeD 0 6) (env := [some (.mut p), none, none, none, none, none, none, none, none, none, none, none]) (st := st) ⟨_, _, _, _, _, _, _, _, _, _, rfl, hp⟩
    (by
      rintro j x env s hx ⟨o1, o2, o3, o4, o5, o6, o7, o8, o9, o10, rfl, hp⟩
      obtain ⟨rfl, hj⟩ := range_get hx
      obtain ⟨q2, q3, q4, q5, q6, q7, q8, q9, q10, st', e, hp'⟩ := f_outer (turn := 0 + j) hp o2 o3 o4 o5 o6 o7 o8 o9 o10
      refine ⟨_, st', ?_, some (.int (0 + j)), q2, q3, q4, q5, q6, q7, q8, q9, q10, rfl, hp'⟩
      simp only [Int.zero_add] at e
      simp [e])
  have hT : Trk [10, 20, 30] := ⟨by decide, by decide, by decide⟩
  have hS : Slow [10, 20, 30] [20, 30, 40] := ⟨rfl, fun i hi => by
    have : i = 0 ∨ i = 1 ∨ i = 2 := by simp at hi; omega
    rcases this with rfl | rfl | rfl <;> decide⟩
  have h1 : ([10, 20, 30] : List Int).sum.natAbs < big := by
    show 60 < big
    omega
  have h2 : ([20, 30, 40] : List Int).sum.natAbs < big := by
    show 90 < big
    omega
  have t1 := f_extra_span s' hT hS h1 h2 (p := (200, 1)) (q := (0, 0)) (by decide) (by decide)
  rw [show spanI [10, 20, 30] [20, 30, 40] (200, 1) (0, 0) = some (2, 3) by decide] at t1
  have hb : BagOk [10, 20, 30] [(0, 0), (15, 1), (200, 1)] := ⟨by decide, by decide, by decide⟩
  obtain ⟨l, t2⟩ := f_crossings s' hT hS h1 h2 hb (by decide) (by decide)
  rw [show crossD [10, 20, 30] [20, 30, 40] [(0, 0), (15, 1), (200, 1)] = .tup [.int 10, .int 10] by
    unfold crossD
    rw [show stepsG [10, 20, 30] [(0, 0), (15, 1), (200, 1)] = 4 by decide, show ((gotS [10, 20, 30] [20, 30, 40] [(0, 0), (15, 1), (200, 1)]).map Prod.fst).sum = 2 by decide, show ((gotS [10, 20, 30] [20, 30, 40] [(0, 0), (15, 1), (200, 1)]).map Prod.snd).sum = 2 by decide]
    rfl] at t2
  simp [tupI, bagD, pairD, optD] at t1 t2
  have q1 : ∀ s, eqD (.tup [.int 2, .int 3]) (.tup [.int 2, .int 3]) s = .ok (.bl true) s := fun s => by simpa [tupI] using eq_tupI [2, 3] [2, 3] s
  have q2 : ∀ s, eqD (.tup [.int 10, .int 10]) (.tup [.int 10, .int 10]) s = .ok (.bl true) s := fun s => by simpa [tupI] using eq_tupI [10, 10] [10, 10] s
  refine ⟨s' ++ l, ?_⟩
  unfold F__law_right
  rw [r_right_eq]
  simp [runF, e, t1, t2, q1, q2]
theorem law_true (ns : List Int) (h : ns.length ≤ 63) : ∃ st, F_law [.slo (ns.map D.int)] [] = .ok (.bl true) st := lawK_ok f_pool f_right ns
end K76

namespace K76
open PySem PySem.Spec PyProof.Rows L2 G Lap
set_option maxHeartbeats 4000000
theorem all_mk {l : PySem.W.OpenLaw} {w : World} {K : PySem.W.Frag} {h : Heap} {mg : Str → Option Value} {fa f0 f1 f2 f3 f4 f5 f6 f7 f8 f9 f10 f11 f12 f13 f14 f15 f16 f17 f18 f19 f20 f21 f22 f23 f24 f25 f26 f27 f28 f29 f30 f31 f32 f33 f34 f35 f36 f37 f38 f39 f40 f41 f42 f43 f44 f45 f46 f47 f48 f49 : Addr} (X : K.In h) (G : h.Ns mainGlobals mg) (hfa : mg "law" = some (.ref fa))
    {od0 an0 od1 an1 od2 an2 od3 an3 od4 an4 od5 an5 od6 an6 od7 an7 od8 an8 od9 an9 od10 an10 od11 an11 od12 an12 od13 an13 od14 an14 od15 an15 od16 an16 od17 an17 od18 an18 od19 an19 od20 an20 od21 an21 od22 an22 od23 an23 od24 an24 od25 an25 od26 an26 od27 an27 od28 an28 od29 an29 od30 an30 od31 an31 od32 an32 od33 an33 od34 an34 od35 an35 od36 an36 od37 an37 od38 an38 od39 an39 od40 an40 od41 an41 od42 an42 od43 an43 od44 an44 od45 an45 od46 an46 od47 an47 od48 an48 od49 an49 : Option Addr} {sl0 sl1 sl2 sl3 sl4 sl5 sl6 sl7 sl8 sl9 sl10 sl11 sl12 sl13 sl14 sl15 sl16 sl17 sl18 sl19 sl20 sl21 sl22 sl23 sl24 sl25 sl26 sl27 sl28 sl29 sl30 sl31 sl32 sl33 sl34 sl35 sl36 sl37 sl38 sl39 sl40 sl41 sl42 sl43 sl44 sl45 sl46 sl47 sl48 sl49 : Array (Option Value)} {oc0 kV0 dc0 pm0 cd0 ct0 oc1 kV1 dc1 pm1 cd1 ct1 oc2 kV2 dc2 pm2 cd2 ct2 oc3 kV3 dc3 pm3 cd3 ct3 oc4 kV4 dc4 pm4 cd4 ct4 oc5 kV5 dc5 pm5 cd5 ct5 oc6 kV6 dc6 pm6 cd6 ct6 oc7 kV7 dc7 pm7 cd7 ct7 oc8 kV8 dc8 pm8 cd8 ct8 oc9 kV9 dc9 pm9 cd9 ct9 oc10 kV10 dc10 pm10 cd10 ct10 oc11 kV11 dc11 pm11 cd11 ct11 oc12 kV12 dc12 pm12 cd12 ct12 oc13 kV13 dc13 pm13 cd13 ct13 oc14 kV14 dc14 pm14 cd14 ct14 oc15 kV15 dc15 pm15 cd15 ct15 oc16 kV16 dc16 pm16 cd16 ct16 oc17 kV17 dc17 pm17 cd17 ct17 oc18 kV18 dc18 pm18 cd18 ct18 oc19 kV19 dc19 pm19 cd19 ct19 oc20 kV20 dc20 pm20 cd20 ct20 oc21 kV21 dc21 pm21 cd21 ct21 oc22 kV22 dc22 pm22 cd22 ct22 oc23 kV23 dc23 pm23 cd23 ct23 oc24 kV24 dc24 pm24 cd24 ct24 oc25 kV25 dc25 pm25 cd25 ct25 oc26 kV26 dc26 pm26 cd26 ct26 oc27 kV27 dc27 pm27 cd27 ct27 oc28 kV28 dc28 pm28 cd28 ct28 oc29 kV29 dc29 pm29 cd29 ct29 oc30 kV30 dc30 pm30 cd30 ct30 oc31 kV31 dc31 pm31 cd31 ct31 oc32 kV32 dc32 pm32 cd32 ct32 oc33 kV33 dc33 pm33 cd33 ct33 oc34 kV34 dc34 pm34 cd34 ct34 oc35 kV35 dc35 pm35 cd35 ct35 oc36 kV36 dc36 pm36 cd36 ct36 oc37 kV37 dc37 pm37 cd37 ct37 oc38 kV38 dc38 pm38 cd38 ct38 oc39 kV39 dc39 pm39 cd39 ct39 oc40 kV40 dc40 pm40 cd40 ct40 oc41 kV41 dc41 pm41 cd41 ct41 oc42 kV42 dc42 pm42 cd42 ct42 oc43 kV43 dc43 pm43 cd43 ct43 oc44 kV44 dc44 pm44 cd44 ct44 oc45 kV45 dc45 pm45 cd45 ct45 oc46 kV46 dc46 pm46 cd46 ct46 oc47 kV47 dc47 pm47 cd47 ct47 oc48 kV48 dc48 pm48 cd48 ct48 oc49 kV49 dc49 pm49 cd49 ct49 : Value}
    {tk_MOST_MATS tk_MOST_MARKS : Tok}
    (a0 : PySem.W.nsIn K mainGlobals "round_by" = some (some (.ref f0))) (l0 : K.lookup f0 = some ⟨oc0, od0, .func (PySem.W.fnOf "round_by" "round_by" (defArgs s_round_by) (defBody s_round_by) (defScope s_round_by) .none kV0 dc0 pm0 an0 cd0 ct0), sl0⟩) (c0 : PySem.W.codeIn K cd0 "round_by" = true) (k0 : PySem.W.keepIn K (.ref f0) = true)
    (a1 : PySem.W.nsIn K mainGlobals "sectors_from" = some (some (.ref f1))) (l1 : K.lookup f1 = some ⟨oc1, od1, .func (PySem.W.fnOf "sectors_from" "sectors_from" (defArgs s_sectors_from) (defBody s_sectors_from) (defScope s_sectors_from) .none kV1 dc1 pm1 an1 cd1 ct1), sl1⟩) (c1 : PySem.W.codeIn K cd1 "sectors_from" = true) (k1 : PySem.W.keepIn K (.ref f1) = true)
    (a2 : PySem.W.nsIn K mainGlobals "reach_by" = some (some (.ref f2))) (l2 : K.lookup f2 = some ⟨oc2, od2, .func (PySem.W.fnOf "reach_by" "reach_by" (defArgs s_reach_by) (defBody s_reach_by) (defScope s_reach_by) .none kV2 dc2 pm2 an2 cd2 ct2), sl2⟩) (c2 : PySem.W.codeIn K cd2 "reach_by" = true) (k2 : PySem.W.keepIn K (.ref f2) = true)
    (a3 : PySem.W.nsIn K mainGlobals "steps_by" = some (some (.ref f3))) (l3 : K.lookup f3 = some ⟨oc3, od3, .func (PySem.W.fnOf "steps_by" "steps_by" (defArgs s_steps_by) (defBody s_steps_by) (defScope s_steps_by) .none kV3 dc3 pm3 an3 cd3 ct3), sl3⟩) (c3 : PySem.W.codeIn K cd3 "steps_by" = true) (k3 : PySem.W.keepIn K (.ref f3) = true)
    (a4 : PySem.W.nsIn K mainGlobals "way_by" = some (some (.ref f4))) (l4 : K.lookup f4 = some ⟨oc4, od4, .func (PySem.W.fnOf "way_by" "way_by" (defArgs s_way_by) (defBody s_way_by) (defScope s_way_by) .none kV4 dc4 pm4 an4 cd4 ct4), sl4⟩) (c4 : PySem.W.codeIn K cd4 "way_by" = true) (k4 : PySem.W.keepIn K (.ref f4) = true)
    (a5 : PySem.W.nsIn K mainGlobals "can_follow_by" = some (some (.ref f5))) (l5 : K.lookup f5 = some ⟨oc5, od5, .func (PySem.W.fnOf "can_follow_by" "can_follow_by" (defArgs s_can_follow_by) (defBody s_can_follow_by) (defScope s_can_follow_by) .none kV5 dc5 pm5 an5 cd5 ct5), sl5⟩) (c5 : PySem.W.codeIn K cd5 "can_follow_by" = true) (k5 : PySem.W.keepIn K (.ref f5) = true)
    (a6 : PySem.W.nsIn K mainGlobals "wrong_marks_by" = some (some (.ref f6))) (l6 : K.lookup f6 = some ⟨oc6, od6, .func (PySem.W.fnOf "wrong_marks_by" "wrong_marks_by" (defArgs s_wrong_marks_by) (defBody s_wrong_marks_by) (defScope s_wrong_marks_by) .none kV6 dc6 pm6 an6 cd6 ct6), sl6⟩) (c6 : PySem.W.codeIn K cd6 "wrong_marks_by" = true) (k6 : PySem.W.keepIn K (.ref f6) = true)
    (a7 : PySem.W.nsIn K mainGlobals "is_row_by" = some (some (.ref f7))) (l7 : K.lookup f7 = some ⟨oc7, od7, .func (PySem.W.fnOf "is_row_by" "is_row_by" (defArgs s_is_row_by) (defBody s_is_row_by) (defScope s_is_row_by) .none kV7 dc7 pm7 an7 cd7 ct7), sl7⟩) (c7 : PySem.W.codeIn K cd7 "is_row_by" = true) (k7 : PySem.W.keepIn K (.ref f7) = true)
    (a8 : PySem.W.nsIn K mainGlobals "is_whole" = some (some (.ref f8))) (l8 : K.lookup f8 = some ⟨oc8, od8, .func (PySem.W.fnOf "is_whole" "is_whole" (defArgs s_is_whole) (defBody s_is_whole) (defScope s_is_whole) .none kV8 dc8 pm8 an8 cd8 ct8), sl8⟩) (c8 : PySem.W.codeIn K cd8 "is_whole" = true) (k8 : PySem.W.keepIn K (.ref f8) = true)
    (a9 : PySem.W.nsIn K mainGlobals "is_between" = some (some (.ref f9))) (l9 : K.lookup f9 = some ⟨oc9, od9, .func (PySem.W.fnOf "is_between" "is_between" (defArgs s_is_between) (defBody s_is_between) (defScope s_is_between) .none kV9 dc9 pm9 an9 cd9 ct9), sl9⟩) (c9 : PySem.W.codeIn K cd9 "is_between" = true) (k9 : PySem.W.keepIn K (.ref f9) = true)
    (a10 : PySem.W.nsIn K mainGlobals "is_up_to" = some (some (.ref f10))) (l10 : K.lookup f10 = some ⟨oc10, od10, .func (PySem.W.fnOf "is_up_to" "is_up_to" (defArgs s_is_up_to) (defBody s_is_up_to) (defScope s_is_up_to) .none kV10 dc10 pm10 an10 cd10 ct10), sl10⟩) (c10 : PySem.W.codeIn K cd10 "is_up_to" = true) (k10 : PySem.W.keepIn K (.ref f10) = true)
    (a11 : PySem.W.nsIn K mainGlobals "is_from" = some (some (.ref f11))) (l11 : K.lookup f11 = some ⟨oc11, od11, .func (PySem.W.fnOf "is_from" "is_from" (defArgs s_is_from) (defBody s_is_from) (defScope s_is_from) .none kV11 dc11 pm11 an11 cd11 ct11), sl11⟩) (c11 : PySem.W.codeIn K cd11 "is_from" = true) (k11 : PySem.W.keepIn K (.ref f11) = true)
    (a12 : PySem.W.nsIn K mainGlobals "is_tuple_up_to" = some (some (.ref f12))) (l12 : K.lookup f12 = some ⟨oc12, od12, .func (PySem.W.fnOf "is_tuple_up_to" "is_tuple_up_to" (defArgs s_is_tuple_up_to) (defBody s_is_tuple_up_to) (defScope s_is_tuple_up_to) .none kV12 dc12 pm12 an12 cd12 ct12), sl12⟩) (c12 : PySem.W.codeIn K cd12 "is_tuple_up_to" = true) (k12 : PySem.W.keepIn K (.ref f12) = true)
    (a13 : PySem.W.nsIn K mainGlobals "is_tuple_of" = some (some (.ref f13))) (l13 : K.lookup f13 = some ⟨oc13, od13, .func (PySem.W.fnOf "is_tuple_of" "is_tuple_of" (defArgs s_is_tuple_of) (defBody s_is_tuple_of) (defScope s_is_tuple_of) .none kV13 dc13 pm13 an13 cd13 ct13), sl13⟩) (c13 : PySem.W.codeIn K cd13 "is_tuple_of" = true) (k13 : PySem.W.keepIn K (.ref f13) = true)
    (a14 : PySem.W.nsIn K mainGlobals "is_pair" = some (some (.ref f14))) (l14 : K.lookup f14 = some ⟨oc14, od14, .func (PySem.W.fnOf "is_pair" "is_pair" (defArgs s_is_pair) (defBody s_is_pair) (defScope s_is_pair) .none kV14 dc14 pm14 an14 cd14 ct14), sl14⟩) (c14 : PySem.W.codeIn K cd14 "is_pair" = true) (k14 : PySem.W.keepIn K (.ref f14) = true)
    (a15 : PySem.W.nsIn K mainGlobals "is_track_of" = some (some (.ref f15))) (l15 : K.lookup f15 = some ⟨oc15, od15, .func (PySem.W.fnOf "is_track_of" "is_track_of" (defArgs s_is_track_of) (defBody s_is_track_of) (defScope s_is_track_of) .none kV15 dc15 pm15 an15 cd15 ct15), sl15⟩) (c15 : PySem.W.codeIn K cd15 "is_track_of" = true) (k15 : PySem.W.keepIn K (.ref f15) = true)
    (a16 : PySem.W.nsIn K mainGlobals "is_mat_of" = some (some (.ref f16))) (l16 : K.lookup f16 = some ⟨oc16, od16, .func (PySem.W.fnOf "is_mat_of" "is_mat_of" (defArgs s_is_mat_of) (defBody s_is_mat_of) (defScope s_is_mat_of) .none kV16 dc16 pm16 an16 cd16 ct16), sl16⟩) (c16 : PySem.W.codeIn K cd16 "is_mat_of" = true) (k16 : PySem.W.keepIn K (.ref f16) = true)
    (a17 : PySem.W.nsIn K mainGlobals "is_mark_of" = some (some (.ref f17))) (l17 : K.lookup f17 = some ⟨oc17, od17, .func (PySem.W.fnOf "is_mark_of" "is_mark_of" (defArgs s_is_mark_of) (defBody s_is_mark_of) (defScope s_is_mark_of) .none kV17 dc17 pm17 an17 cd17 ct17), sl17⟩) (c17 : PySem.W.codeIn K cd17 "is_mark_of" = true) (k17 : PySem.W.keepIn K (.ref f17) = true)
    (a18 : PySem.W.nsIn K mainGlobals "wrong_in_bag" = some (some (.ref f18))) (l18 : K.lookup f18 = some ⟨oc18, od18, .func (PySem.W.fnOf "wrong_in_bag" "wrong_in_bag" (defArgs s_wrong_in_bag) (defBody s_wrong_in_bag) (defScope s_wrong_in_bag) .none kV18 dc18 pm18 an18 cd18 ct18), sl18⟩) (c18 : PySem.W.codeIn K cd18 "wrong_in_bag" = true) (k18 : PySem.W.keepIn K (.ref f18) = true)
    (a19 : PySem.W.nsIn K mainGlobals "check_track" = some (some (.ref f19))) (l19 : K.lookup f19 = some ⟨oc19, od19, .func (PySem.W.fnOf "check_track" "check_track" (defArgs s_check_track) (defBody s_check_track) (defScope s_check_track) .none kV19 dc19 pm19 an19 cd19 ct19), sl19⟩) (c19 : PySem.W.codeIn K cd19 "check_track" = true) (k19 : PySem.W.keepIn K (.ref f19) = true)
    (a20 : PySem.W.nsIn K mainGlobals "check_mark" = some (some (.ref f20))) (l20 : K.lookup f20 = some ⟨oc20, od20, .func (PySem.W.fnOf "check_mark" "check_mark" (defArgs s_check_mark) (defBody s_check_mark) (defScope s_check_mark) .none kV20 dc20 pm20 an20 cd20 ct20), sl20⟩) (c20 : PySem.W.codeIn K cd20 "check_mark" = true) (k20 : PySem.W.keepIn K (.ref f20) = true)
    (a21 : PySem.W.nsIn K mainGlobals "check_bag" = some (some (.ref f21))) (l21 : K.lookup f21 = some ⟨oc21, od21, .func (PySem.W.fnOf "check_bag" "check_bag" (defArgs s_check_bag) (defBody s_check_bag) (defScope s_check_bag) .none kV21 dc21 pm21 an21 cd21 ct21), sl21⟩) (c21 : PySem.W.codeIn K cd21 "check_bag" = true) (k21 : PySem.W.keepIn K (.ref f21) = true)
    (a22 : PySem.W.nsIn K mainGlobals "wrong_in_slowest" = some (some (.ref f22))) (l22 : K.lookup f22 = some ⟨oc22, od22, .func (PySem.W.fnOf "wrong_in_slowest" "wrong_in_slowest" (defArgs s_wrong_in_slowest) (defBody s_wrong_in_slowest) (defScope s_wrong_in_slowest) .none kV22 dc22 pm22 an22 cd22 ct22), sl22⟩) (c22 : PySem.W.codeIn K cd22 "wrong_in_slowest" = true) (k22 : PySem.W.keepIn K (.ref f22) = true)
    (a23 : PySem.W.nsIn K mainGlobals "rounded_up" = some (some (.ref f23))) (l23 : K.lookup f23 = some ⟨oc23, od23, .func (PySem.W.fnOf "rounded_up" "rounded_up" (defArgs s_rounded_up) (defBody s_rounded_up) (defScope s_rounded_up) .none kV23 dc23 pm23 an23 cd23 ct23), sl23⟩) (c23 : PySem.W.codeIn K cd23 "rounded_up" = true) (k23 : PySem.W.keepIn K (.ref f23) = true)
    (a24 : PySem.W.nsIn K mainGlobals "extra_span_by" = some (some (.ref f24))) (l24 : K.lookup f24 = some ⟨oc24, od24, .func (PySem.W.fnOf "extra_span_by" "extra_span_by" (defArgs s_extra_span_by) (defBody s_extra_span_by) (defScope s_extra_span_by) .none kV24 dc24 pm24 an24 cd24 ct24), sl24⟩) (c24 : PySem.W.codeIn K cd24 "extra_span_by" = true) (k24 : PySem.W.keepIn K (.ref f24) = true)
    (a25 : PySem.W.nsIn K mainGlobals "extra_spans_by" = some (some (.ref f25))) (l25 : K.lookup f25 = some ⟨oc25, od25, .func (PySem.W.fnOf "extra_spans_by" "extra_spans_by" (defArgs s_extra_spans_by) (defBody s_extra_spans_by) (defScope s_extra_spans_by) .none kV25 dc25 pm25 an25 cd25 ct25), sl25⟩) (c25 : PySem.W.codeIn K cd25 "extra_spans_by" = true) (k25 : PySem.W.keepIn K (.ref f25) = true)
    (a26 : PySem.W.nsIn K mainGlobals "is_steady_by" = some (some (.ref f26))) (l26 : K.lookup f26 = some ⟨oc26, od26, .func (PySem.W.fnOf "is_steady_by" "is_steady_by" (defArgs s_is_steady_by) (defBody s_is_steady_by) (defScope s_is_steady_by) .none kV26 dc26 pm26 an26 cd26 ct26), sl26⟩) (c26 : PySem.W.codeIn K cd26 "is_steady_by" = true) (k26 : PySem.W.keepIn K (.ref f26) = true)
    (a27 : PySem.W.nsIn K mainGlobals "least_crossings" = some (some (.ref f27))) (l27 : K.lookup f27 = some ⟨oc27, od27, .func (PySem.W.fnOf "least_crossings" "least_crossings" (defArgs s_least_crossings) (defBody s_least_crossings) (defScope s_least_crossings) .none kV27 dc27 pm27 an27 cd27 ct27), sl27⟩) (c27 : PySem.W.codeIn K cd27 "least_crossings" = true) (k27 : PySem.W.keepIn K (.ref f27) = true)
    (a28 : PySem.W.nsIn K mainGlobals "crossings_by" = some (some (.ref f28))) (l28 : K.lookup f28 = some ⟨oc28, od28, .func (PySem.W.fnOf "crossings_by" "crossings_by" (defArgs s_crossings_by) (defBody s_crossings_by) (defScope s_crossings_by) .none kV28 dc28 pm28 an28 cd28 ct28), sl28⟩) (c28 : PySem.W.codeIn K cd28 "crossings_by" = true) (k28 : PySem.W.keepIn K (.ref f28) = true)
    (a29 : PySem.W.nsIn K mainGlobals "check_slowest" = some (some (.ref f29))) (l29 : K.lookup f29 = some ⟨oc29, od29, .func (PySem.W.fnOf "check_slowest" "check_slowest" (defArgs s_check_slowest) (defBody s_check_slowest) (defScope s_check_slowest) .none kV29 dc29 pm29 an29 cd29 ct29), sl29⟩) (c29 : PySem.W.codeIn K cd29 "check_slowest" = true) (k29 : PySem.W.keepIn K (.ref f29) = true)
    (a30 : PySem.W.nsIn K mainGlobals "extra_span" = some (some (.ref f30))) (l30 : K.lookup f30 = some ⟨oc30, od30, .func (PySem.W.fnOf "extra_span" "extra_span" (defArgs s_extra_span) (defBody s_extra_span) (defScope s_extra_span) .none kV30 dc30 pm30 an30 cd30 ct30), sl30⟩) (c30 : PySem.W.codeIn K cd30 "extra_span" = true) (k30 : PySem.W.keepIn K (.ref f30) = true)
    (a31 : PySem.W.nsIn K mainGlobals "is_steady" = some (some (.ref f31))) (l31 : K.lookup f31 = some ⟨oc31, od31, .func (PySem.W.fnOf "is_steady" "is_steady" (defArgs s_is_steady) (defBody s_is_steady) (defScope s_is_steady) .none kV31 dc31 pm31 an31 cd31 ct31), sl31⟩) (c31 : PySem.W.codeIn K cd31 "is_steady" = true) (k31 : PySem.W.keepIn K (.ref f31) = true)
    (a32 : PySem.W.nsIn K mainGlobals "crossings" = some (some (.ref f32))) (l32 : K.lookup f32 = some ⟨oc32, od32, .func (PySem.W.fnOf "crossings" "crossings" (defArgs s_crossings) (defBody s_crossings) (defScope s_crossings) .none kV32 dc32 pm32 an32 cd32 ct32), sl32⟩) (c32 : PySem.W.codeIn K cd32 "crossings" = true) (k32 : PySem.W.keepIn K (.ref f32) = true)
    (a33 : PySem.W.nsIn K mainGlobals "check_tracked" = some (some (.ref f33))) (l33 : K.lookup f33 = some ⟨oc33, od33, .func (PySem.W.fnOf "check_tracked" "check_tracked" (defArgs s_check_tracked) (defBody s_check_tracked) (defScope s_check_tracked) .none kV33 dc33 pm33 an33 cd33 ct33), sl33⟩) (c33 : PySem.W.codeIn K cd33 "check_tracked" = true) (k33 : PySem.W.keepIn K (.ref f33) = true)
    (a34 : PySem.W.nsIn K mainGlobals "is_row" = some (some (.ref f34))) (l34 : K.lookup f34 = some ⟨oc34, od34, .func (PySem.W.fnOf "is_row" "is_row" (defArgs s_is_row) (defBody s_is_row) (defScope s_is_row) .none kV34 dc34 pm34 an34 cd34 ct34), sl34⟩) (c34 : PySem.W.codeIn K cd34 "is_row" = true) (k34 : PySem.W.keepIn K (.ref f34) = true)
    (a35 : PySem.W.nsIn K mainGlobals "_law_pool" = some (some (.ref f35))) (l35 : K.lookup f35 = some ⟨oc35, od35, .func (PySem.W.fnOf "_law_pool" "_law_pool" (defArgs s__law_pool) (defBody s__law_pool) (defScope s__law_pool) .none kV35 dc35 pm35 an35 cd35 ct35), sl35⟩) (c35 : PySem.W.codeIn K cd35 "_law_pool" = true) (k35 : PySem.W.keepIn K (.ref f35) = true)
    (a36 : PySem.W.nsIn K mainGlobals "_law_draw" = some (some (.ref f36))) (l36 : K.lookup f36 = some ⟨oc36, od36, .func (PySem.W.fnOf "_law_draw" "_law_draw" (defArgs s__law_draw) (defBody s__law_draw) (defScope s__law_draw) .none kV36 dc36 pm36 an36 cd36 ct36), sl36⟩) (c36 : PySem.W.codeIn K cd36 "_law_draw" = true) (k36 : PySem.W.keepIn K (.ref f36) = true)
    (a37 : PySem.W.nsIn K mainGlobals "_law_pick" = some (some (.ref f37))) (l37 : K.lookup f37 = some ⟨oc37, od37, .func (PySem.W.fnOf "_law_pick" "_law_pick" (defArgs s__law_pick) (defBody s__law_pick) (defScope s__law_pick) .none kV37 dc37 pm37 an37 cd37 ct37), sl37⟩) (c37 : PySem.W.codeIn K cd37 "_law_pick" = true) (k37 : PySem.W.keepIn K (.ref f37) = true)
    (a38 : PySem.W.nsIn K mainGlobals "_law_way" = some (some (.ref f38))) (l38 : K.lookup f38 = some ⟨oc38, od38, .func (PySem.W.fnOf "_law_way" "_law_way" (defArgs s__law_way) (defBody s__law_way) (defScope s__law_way) .none kV38 dc38 pm38 an38 cd38 ct38), sl38⟩) (c38 : PySem.W.codeIn K cd38 "_law_way" = true) (k38 : PySem.W.keepIn K (.ref f38) = true)
    (a39 : PySem.W.nsIn K mainGlobals "_law_steps" = some (some (.ref f39))) (l39 : K.lookup f39 = some ⟨oc39, od39, .func (PySem.W.fnOf "_law_steps" "_law_steps" (defArgs s__law_steps) (defBody s__law_steps) (defScope s__law_steps) .none kV39 dc39 pm39 an39 cd39 ct39), sl39⟩) (c39 : PySem.W.codeIn K cd39 "_law_steps" = true) (k39 : PySem.W.keepIn K (.ref f39) = true)
    (a40 : PySem.W.nsIn K mainGlobals "_law_track" = some (some (.ref f40))) (l40 : K.lookup f40 = some ⟨oc40, od40, .func (PySem.W.fnOf "_law_track" "_law_track" (defArgs s__law_track) (defBody s__law_track) (defScope s__law_track) .none kV40 dc40 pm40 an40 cd40 ct40), sl40⟩) (c40 : PySem.W.codeIn K cd40 "_law_track" = true) (k40 : PySem.W.keepIn K (.ref f40) = true)
    (a41 : PySem.W.nsIn K mainGlobals "_law_drawn_row" = some (some (.ref f41))) (l41 : K.lookup f41 = some ⟨oc41, od41, .func (PySem.W.fnOf "_law_drawn_row" "_law_drawn_row" (defArgs s__law_drawn_row) (defBody s__law_drawn_row) (defScope s__law_drawn_row) .none kV41 dc41 pm41 an41 cd41 ct41), sl41⟩) (c41 : PySem.W.codeIn K cd41 "_law_drawn_row" = true) (k41 : PySem.W.keepIn K (.ref f41) = true)
    (a42 : PySem.W.nsIn K mainGlobals "_law_drawn_bag" = some (some (.ref f42))) (l42 : K.lookup f42 = some ⟨oc42, od42, .func (PySem.W.fnOf "_law_drawn_bag" "_law_drawn_bag" (defArgs s__law_drawn_bag) (defBody s__law_drawn_bag) (defScope s__law_drawn_bag) .none kV42 dc42 pm42 an42 cd42 ct42), sl42⟩) (c42 : PySem.W.codeIn K cd42 "_law_drawn_bag" = true) (k42 : PySem.W.keepIn K (.ref f42) = true)
    (a43 : PySem.W.nsIn K mainGlobals "_law_span" = some (some (.ref f43))) (l43 : K.lookup f43 = some ⟨oc43, od43, .func (PySem.W.fnOf "_law_span" "_law_span" (defArgs s__law_span) (defBody s__law_span) (defScope s__law_span) .none kV43 dc43 pm43 an43 cd43 ct43), sl43⟩) (c43 : PySem.W.codeIn K cd43 "_law_span" = true) (k43 : PySem.W.keepIn K (.ref f43) = true)
    (a44 : PySem.W.nsIn K mainGlobals "_law_can" = some (some (.ref f44))) (l44 : K.lookup f44 = some ⟨oc44, od44, .func (PySem.W.fnOf "_law_can" "_law_can" (defArgs s__law_can) (defBody s__law_can) (defScope s__law_can) .none kV44 dc44 pm44 an44 cd44 ct44), sl44⟩) (c44 : PySem.W.codeIn K cd44 "_law_can" = true) (k44 : PySem.W.keepIn K (.ref f44) = true)
    (a45 : PySem.W.nsIn K mainGlobals "_law_timed_row" = some (some (.ref f45))) (l45 : K.lookup f45 = some ⟨oc45, od45, .func (PySem.W.fnOf "_law_timed_row" "_law_timed_row" (defArgs s__law_timed_row) (defBody s__law_timed_row) (defScope s__law_timed_row) .none kV45 dc45 pm45 an45 cd45 ct45), sl45⟩) (c45 : PySem.W.codeIn K cd45 "_law_timed_row" = true) (k45 : PySem.W.keepIn K (.ref f45) = true)
    (a46 : PySem.W.nsIn K mainGlobals "_law_bag_right" = some (some (.ref f46))) (l46 : K.lookup f46 = some ⟨oc46, od46, .func (PySem.W.fnOf "_law_bag_right" "_law_bag_right" (defArgs s__law_bag_right) (defBody s__law_bag_right) (defScope s__law_bag_right) .none kV46 dc46 pm46 an46 cd46 ct46), sl46⟩) (c46 : PySem.W.codeIn K cd46 "_law_bag_right" = true) (k46 : PySem.W.keepIn K (.ref f46) = true)
    (a47 : PySem.W.nsIn K mainGlobals "_law_marks_right" = some (some (.ref f47))) (l47 : K.lookup f47 = some ⟨oc47, od47, .func (PySem.W.fnOf "_law_marks_right" "_law_marks_right" (defArgs s__law_marks_right) (defBody s__law_marks_right) (defScope s__law_marks_right) .none kV47 dc47 pm47 an47 cd47 ct47), sl47⟩) (c47 : PySem.W.codeIn K cd47 "_law_marks_right" = true) (k47 : PySem.W.keepIn K (.ref f47) = true)
    (a48 : PySem.W.nsIn K mainGlobals "_law_right" = some (some (.ref f48))) (l48 : K.lookup f48 = some ⟨oc48, od48, .func (PySem.W.fnOf "_law_right" "_law_right" (defArgs s__law_right) (defBody s__law_right) (defScope s__law_right) .none kV48 dc48 pm48 an48 cd48 ct48), sl48⟩) (c48 : PySem.W.codeIn K cd48 "_law_right" = true) (k48 : PySem.W.keepIn K (.ref f48) = true)
    (a49 : PySem.W.nsIn K mainGlobals "law" = some (some (.ref f49))) (l49 : K.lookup f49 = some ⟨oc49, od49, .func (PySem.W.fnOf "law" "law" (defArgs s_law) (defBody s_law) (defScope s_law) .none kV49 dc49 pm49 an49 cd49 ct49), sl49⟩) (c49 : PySem.W.codeIn K cd49 "law" = true) (k49 : PySem.W.keepIn K (.ref f49) = true)
    (z_list : PySem.W.nsIn K mainGlobals "list" = some none)
    (z_sum : PySem.W.nsIn K mainGlobals "sum" = some none)
    (z_len : PySem.W.nsIn K mainGlobals "len" = some none)
    (z_divmod : PySem.W.nsIn K mainGlobals "divmod" = some none)
    (z_range : PySem.W.nsIn K mainGlobals "range" = some none)
    (z_isinstance : PySem.W.nsIn K mainGlobals "isinstance" = some none)
    (z_int : PySem.W.nsIn K mainGlobals "int" = some none)
    (z_bool : PySem.W.nsIn K mainGlobals "bool" = some none)
    (z_tuple : PySem.W.nsIn K mainGlobals "tuple" = some none)
    (z_MOST_MATS : PySem.W.nsIn K mainGlobals "MOST_MATS" = some (some (.int 8 tk_MOST_MATS)))
    (z_all : PySem.W.nsIn K mainGlobals "all" = some none)
    (z_MOST_MARKS : PySem.W.nsIn K mainGlobals "MOST_MARKS" = some (some (.int 30 tk_MOST_MARKS)))
    (z_enumerate : PySem.W.nsIn K mainGlobals "enumerate" = some none)
    (z_max : PySem.W.nsIn K mainGlobals "max" = some none)
    (z_zip : PySem.W.nsIn K mainGlobals "zip" = some none)
    (z_abs : PySem.W.nsIn K mainGlobals "abs" = some none)
    (z_sorted : PySem.W.nsIn K mainGlobals "sorted" = some none)
    (z_repr : PySem.W.nsIn K mainGlobals "repr" = some none)
    (z_min : PySem.W.nsIn K mainGlobals "min" = some none)
    : ∃ fd : FuncData, (∀ (s : Shared) (v : Value), BindsTo s fd ⟨[v], []⟩ [("script", v)]) ∧ ∀ base : Heap, K.In base → base.Ns mainGlobals mg → FnG l.prog w K mg base 11 fa fd ["script"] (spG K F_law) := by
  have e := hfa.symm.trans (PySem.W.mg_of X G a49)
  cases e
  have T : Bt mg := ⟨PySem.W.mg_none_of X G z_list, PySem.W.mg_none_of X G z_sum, PySem.W.mg_none_of X G z_len, PySem.W.mg_none_of X G z_divmod, PySem.W.mg_none_of X G z_range, PySem.W.mg_none_of X G z_isinstance, PySem.W.mg_none_of X G z_int, PySem.W.mg_none_of X G z_bool, PySem.W.mg_none_of X G z_tuple, ⟨_, PySem.W.mg_of X G z_MOST_MATS⟩, PySem.W.mg_none_of X G z_all, ⟨_, PySem.W.mg_of X G z_MOST_MARKS⟩, PySem.W.mg_none_of X G z_enumerate, PySem.W.mg_none_of X G z_max, PySem.W.mg_none_of X G z_zip, PySem.W.mg_none_of X G z_abs, PySem.W.mg_none_of X G z_sorted, PySem.W.mg_none_of X G z_repr, PySem.W.mg_none_of X G z_min⟩
  refine law_fd hfa (fun_mk (st := s_law) l49 c49 k49) (fun s v => .of_eq rfl) fun base _ _ => ?_
  have c_round_by := ok_round_by (P := l.prog) (w := w) (base := base) T ⟨_, _, PySem.W.mg_of X G a0, fun_mk l0 c0 k0⟩
  have c_sectors_from := ok_sectors_from (P := l.prog) (w := w) (base := base) T ⟨_, _, PySem.W.mg_of X G a1, fun_mk l1 c1 k1⟩
  have c_reach_by := ok_reach_by (P := l.prog) (w := w) (base := base) T ⟨_, _, PySem.W.mg_of X G a2, fun_mk l2 c2 k2⟩ c_round_by c_sectors_from
  have c_steps_by := ok_steps_by (P := l.prog) (w := w) (base := base) T ⟨_, _, PySem.W.mg_of X G a3, fun_mk l3 c3 k3⟩
  have c_way_by := ok_way_by (P := l.prog) (w := w) (base := base) T ⟨_, _, PySem.W.mg_of X G a4, fun_mk l4 c4 k4⟩ c_reach_by c_steps_by
  have c_can_follow_by := ok_can_follow_by (P := l.prog) (w := w) (base := base) T ⟨_, _, PySem.W.mg_of X G a5, fun_mk l5 c5 k5⟩ c_way_by
  have c_wrong_marks_by := ok_wrong_marks_by (P := l.prog) (w := w) (base := base) T ⟨_, _, PySem.W.mg_of X G a6, fun_mk l6 c6 k6⟩ c_can_follow_by
  have c_is_row_by := ok_is_row_by (P := l.prog) (w := w) (base := base) T ⟨_, _, PySem.W.mg_of X G a7, fun_mk l7 c7 k7⟩ c_wrong_marks_by
  have c_is_whole := ok_is_whole (P := l.prog) (w := w) (base := base) T ⟨_, _, PySem.W.mg_of X G a8, fun_mk l8 c8 k8⟩
  have c_is_between := ok_is_between (P := l.prog) (w := w) (base := base) T ⟨_, _, PySem.W.mg_of X G a9, fun_mk l9 c9 k9⟩ c_is_whole
  have c_is_up_to := ok_is_up_to (P := l.prog) (w := w) (base := base) T ⟨_, _, PySem.W.mg_of X G a10, fun_mk l10 c10 k10⟩ c_is_between
  have c_is_from := ok_is_from (P := l.prog) (w := w) (base := base) T ⟨_, _, PySem.W.mg_of X G a11, fun_mk l11 c11 k11⟩ c_is_whole
  have c_is_tuple_up_to := ok_is_tuple_up_to (P := l.prog) (w := w) (base := base) T ⟨_, _, PySem.W.mg_of X G a12, fun_mk l12 c12 k12⟩
  have c_is_tuple_of := ok_is_tuple_of (P := l.prog) (w := w) (base := base) T ⟨_, _, PySem.W.mg_of X G a13, fun_mk l13 c13 k13⟩ c_is_tuple_up_to
  have c_is_pair := ok_is_pair (P := l.prog) (w := w) (base := base) T ⟨_, _, PySem.W.mg_of X G a14, fun_mk l14 c14 k14⟩ c_is_tuple_of
  have c_is_track_of := ok_is_track_of (P := l.prog) (w := w) (base := base) T ⟨_, _, PySem.W.mg_of X G a15, fun_mk l15 c15 k15⟩ c_is_tuple_up_to c_is_from
  have c_is_mat_of := ok_is_mat_of (P := l.prog) (w := w) (base := base) T ⟨_, _, PySem.W.mg_of X G a16, fun_mk l16 c16 k16⟩ c_is_up_to
  have c_is_mark_of := ok_is_mark_of (P := l.prog) (w := w) (base := base) T ⟨_, _, PySem.W.mg_of X G a17, fun_mk l17 c17 k17⟩ c_is_pair c_is_from c_is_mat_of
  have c_wrong_in_bag := ok_wrong_in_bag (P := l.prog) (w := w) (base := base) T ⟨_, _, PySem.W.mg_of X G a18, fun_mk l18 c18 k18⟩ c_is_tuple_up_to c_is_mark_of
  have c_check_track := ok_check_track (P := l.prog) (w := w) (base := base) T ⟨_, _, PySem.W.mg_of X G a19, fun_mk l19 c19 k19⟩ c_is_track_of
  have c_check_mark := ok_check_mark (P := l.prog) (w := w) (base := base) T ⟨_, _, PySem.W.mg_of X G a20, fun_mk l20 c20 k20⟩ c_is_mark_of
  have c_check_bag := ok_check_bag (P := l.prog) (w := w) (base := base) T ⟨_, _, PySem.W.mg_of X G a21, fun_mk l21 c21 k21⟩ c_wrong_in_bag
  have c_wrong_in_slowest := ok_wrong_in_slowest (P := l.prog) (w := w) (base := base) T ⟨_, _, PySem.W.mg_of X G a22, fun_mk l22 c22 k22⟩ c_is_tuple_of c_is_from
  have c_rounded_up := ok_rounded_up (P := l.prog) (w := w) (base := base) T ⟨_, _, PySem.W.mg_of X G a23, fun_mk l23 c23 k23⟩
  have c_extra_span_by := ok_extra_span_by (P := l.prog) (w := w) (base := base) T ⟨_, _, PySem.W.mg_of X G a24, fun_mk l24 c24 k24⟩ c_way_by c_round_by c_rounded_up
  have c_extra_spans_by := ok_extra_spans_by (P := l.prog) (w := w) (base := base) T ⟨_, _, PySem.W.mg_of X G a25, fun_mk l25 c25 k25⟩ c_extra_span_by
  have c_is_steady_by := ok_is_steady_by (P := l.prog) (w := w) (base := base) T ⟨_, _, PySem.W.mg_of X G a26, fun_mk l26 c26 k26⟩ c_extra_spans_by
  have c_least_crossings := ok_least_crossings (P := l.prog) (w := w) (base := base) T ⟨_, _, PySem.W.mg_of X G a27, fun_mk l27 c27 k27⟩ c_steps_by
  have c_crossings_by := ok_crossings_by (P := l.prog) (w := w) (base := base) T ⟨_, _, PySem.W.mg_of X G a28, fun_mk l28 c28 k28⟩ c_extra_spans_by c_least_crossings
  have c_check_slowest := ok_check_slowest (P := l.prog) (w := w) (base := base) T ⟨_, _, PySem.W.mg_of X G a29, fun_mk l29 c29 k29⟩ c_check_track c_wrong_in_slowest
  have c_extra_span := ok_extra_span (P := l.prog) (w := w) (base := base) T ⟨_, _, PySem.W.mg_of X G a30, fun_mk l30 c30 k30⟩ c_check_slowest c_check_mark c_extra_span_by
  have c_is_steady := ok_is_steady (P := l.prog) (w := w) (base := base) T ⟨_, _, PySem.W.mg_of X G a31, fun_mk l31 c31 k31⟩ c_check_slowest c_check_bag c_is_steady_by
  have c_crossings := ok_crossings (P := l.prog) (w := w) (base := base) T ⟨_, _, PySem.W.mg_of X G a32, fun_mk l32 c32 k32⟩ c_check_slowest c_check_bag c_is_steady_by c_crossings_by
  have c_check_tracked := ok_check_tracked (P := l.prog) (w := w) (base := base) T ⟨_, _, PySem.W.mg_of X G a33, fun_mk l33 c33 k33⟩ c_check_track c_check_bag
  have c_is_row := ok_is_row (P := l.prog) (w := w) (base := base) T ⟨_, _, PySem.W.mg_of X G a34, fun_mk l34 c34 k34⟩ c_check_tracked c_is_row_by
  have c__law_pool := ok__law_pool (P := l.prog) (w := w) (base := base) T ⟨_, _, PySem.W.mg_of X G a35, fun_mk l35 c35 k35⟩
  have c__law_draw := ok__law_draw (P := l.prog) (w := w) (base := base) T ⟨_, _, PySem.W.mg_of X G a36, fun_mk l36 c36 k36⟩
  have c__law_pick := ok__law_pick (P := l.prog) (w := w) (base := base) T ⟨_, _, PySem.W.mg_of X G a37, fun_mk l37 c37 k37⟩ c__law_draw
  have c__law_way := ok__law_way (P := l.prog) (w := w) (base := base) T ⟨_, _, PySem.W.mg_of X G a38, fun_mk l38 c38 k38⟩
  have c__law_steps := ok__law_steps (P := l.prog) (w := w) (base := base) T ⟨_, _, PySem.W.mg_of X G a39, fun_mk l39 c39 k39⟩
  have c__law_track := ok__law_track (P := l.prog) (w := w) (base := base) T ⟨_, _, PySem.W.mg_of X G a40, fun_mk l40 c40 k40⟩ c__law_pick c__law_draw
  have c__law_drawn_row := ok__law_drawn_row (P := l.prog) (w := w) (base := base) T ⟨_, _, PySem.W.mg_of X G a41, fun_mk l41 c41 k41⟩ c__law_pick c__law_draw c__law_way
  have c__law_drawn_bag := ok__law_drawn_bag (P := l.prog) (w := w) (base := base) T ⟨_, _, PySem.W.mg_of X G a42, fun_mk l42 c42 k42⟩ c__law_pick c__law_draw
  have c__law_span := ok__law_span (P := l.prog) (w := w) (base := base) T ⟨_, _, PySem.W.mg_of X G a43, fun_mk l43 c43 k43⟩ c__law_way
  have c__law_can := ok__law_can (P := l.prog) (w := w) (base := base) T ⟨_, _, PySem.W.mg_of X G a44, fun_mk l44 c44 k44⟩ c__law_way
  have c__law_timed_row := ok__law_timed_row (P := l.prog) (w := w) (base := base) T ⟨_, _, PySem.W.mg_of X G a45, fun_mk l45 c45 k45⟩ c__law_draw c__law_pick c__law_way
  have c__law_bag_right := ok__law_bag_right (P := l.prog) (w := w) (base := base) T ⟨_, _, PySem.W.mg_of X G a46, fun_mk l46 c46 k46⟩ c__law_span c_is_steady c__law_steps c_crossings
  have c__law_marks_right := ok__law_marks_right (P := l.prog) (w := w) (base := base) T ⟨_, _, PySem.W.mg_of X G a47, fun_mk l47 c47 k47⟩ c__law_span c_extra_span c__law_draw c__law_can
  have c__law_right := ok__law_right (P := l.prog) (w := w) (base := base) T ⟨_, _, PySem.W.mg_of X G a48, fun_mk l48 c48 k48⟩ c__law_track c__law_pick c__law_draw c__law_timed_row c__law_drawn_bag c__law_drawn_row c__law_bag_right c_is_steady c_is_row c__law_marks_right c_extra_span c_crossings
  have c_law := ok_law (P := l.prog) (w := w) (base := base) T ⟨_, _, PySem.W.mg_of X G a49, fun_mk l49 c49 k49⟩ c__law_right c__law_pool
  exact c_law
end K76
open PySem PySem.W PyProof.Rows
set_option maxRecDepth 100000 in
set_option maxHeartbeats 0 in
theorem PySem.Challenge.cw_lapmats_k76_whole_slow_runners_holds : PySem.Challenge.rw_lapmats_k76_whole_slow_runners.Holds := by
  w_on; o_law; k_head; (case hw => w_witness2)
  k_fill
  refine G.walk_end (l := PySem.Challenge.rw_lapmats_k76_whole_slow_runners) (n := 63) (k := 11) (x := "script") (F := K76.F_law) rfl (by decide) rfl ⟨rfl, by decide, by decide⟩ (fun w h Y => PySem.W.kIn_of Y) ?F K76.law_true
  case F =>
    intro w mg fa h KX G hmg
    refine' K76.all_mk KX G hmg ?a0 ?l0 ?c0 ?k0 ?a1 ?l1 ?c1 ?k1 ?a2 ?l2 ?c2 ?k2 ?a3 ?l3 ?c3 ?k3 ?a4 ?l4 ?c4 ?k4 ?a5 ?l5 ?c5 ?k5 ?a6 ?l6 ?c6 ?k6 ?a7 ?l7 ?c7 ?k7 ?a8 ?l8 ?c8 ?k8 ?a9 ?l9 ?c9 ?k9 ?a10 ?l10 ?c10 ?k10 ?a11 ?l11 ?c11 ?k11 ?a12 ?l12 ?c12 ?k12 ?a13 ?l13 ?c13 ?k13 ?a14 ?l14 ?c14 ?k14 ?a15 ?l15 ?c15 ?k15 ?a16 ?l16 ?c16 ?k16 ?a17 ?l17 ?c17 ?k17 ?a18 ?l18 ?c18 ?k18 ?a19 ?l19 ?c19 ?k19 ?a20 ?l20 ?c20 ?k20 ?a21 ?l21 ?c21 ?k21 ?a22 ?l22 ?c22 ?k22 ?a23 ?l23 ?c23 ?k23 ?a24 ?l24 ?c24 ?k24 ?a25 ?l25 ?c25 ?k25 ?a26 ?l26 ?c26 ?k26 ?a27 ?l27 ?c27 ?k27 ?a28 ?l28 ?c28 ?k28 ?a29 ?l29 ?c29 ?k29 ?a30 ?l30 ?c30 ?k30 ?a31 ?l31 ?c31 ?k31 ?a32 ?l32 ?c32 ?k32 ?a33 ?l33 ?c33 ?k33 ?a34 ?l34 ?c34 ?k34 ?a35 ?l35 ?c35 ?k35 ?a36 ?l36 ?c36 ?k36 ?a37 ?l37 ?c37 ?k37 ?a38 ?l38 ?c38 ?k38 ?a39 ?l39 ?c39 ?k39 ?a40 ?l40 ?c40 ?k40 ?a41 ?l41 ?c41 ?k41 ?a42 ?l42 ?c42 ?k42 ?a43 ?l43 ?c43 ?k43 ?a44 ?l44 ?c44 ?k44 ?a45 ?l45 ?c45 ?k45 ?a46 ?l46 ?c46 ?k46 ?a47 ?l47 ?c47 ?k47 ?a48 ?l48 ?c48 ?k48 ?a49 ?l49 ?c49 ?k49 ?z_list ?z_sum ?z_len ?z_divmod ?z_range ?z_isinstance ?z_int ?z_bool ?z_tuple ?z_MOST_MATS ?z_all ?z_MOST_MARKS ?z_enumerate ?z_max ?z_zip ?z_abs ?z_sorted ?z_repr ?z_min
    (case a0 => k_is)
    (case l0 => k_is)
    (case c0 => k_is)
    (case k0 => k_is)
    (case a1 => k_is)
    (case l1 => k_is)
    (case c1 => k_is)
    (case k1 => k_is)
    (case a2 => k_is)
    (case l2 => k_is)
    (case c2 => k_is)
    (case k2 => k_is)
    (case a3 => k_is)
    (case l3 => k_is)
    (case c3 => k_is)
    (case k3 => k_is)
    (case a4 => k_is)
    (case l4 => k_is)
    (case c4 => k_is)
    (case k4 => k_is)
    (case a5 => k_is)
    (case l5 => k_is)
    (case c5 => k_is)
    (case k5 => k_is)
    (case a6 => k_is)
    (case l6 => k_is)
    (case c6 => k_is)
    (case k6 => k_is)
    (case a7 => k_is)
    (case l7 => k_is)
    (case c7 => k_is)
    (case k7 => k_is)
    (case a8 => k_is)
    (case l8 => k_is)
    (case c8 => k_is)
    (case k8 => k_is)
    (case a9 => k_is)
    (case l9 => k_is)
    (case c9 => k_is)
    (case k9 => k_is)
    (case a10 => k_is)
    (case l10 => k_is)
    (case c10 => k_is)
    (case k10 => k_is)
    (case a11 => k_is)
    (case l11 => k_is)
    (case c11 => k_is)
    (case k11 => k_is)
    (case a12 => k_is)
    (case l12 => k_is)
    (case c12 => k_is)
    (case k12 => k_is)
    (case a13 => k_is)
    (case l13 => k_is)
    (case c13 => k_is)
    (case k13 => k_is)
    (case a14 => k_is)
    (case l14 => k_is)
    (case c14 => k_is)
    (case k14 => k_is)
    (case a15 => k_is)
    (case l15 => k_is)
    (case c15 => k_is)
    (case k15 => k_is)
    (case a16 => k_is)
    (case l16 => k_is)
    (case c16 => k_is)
    (case k16 => k_is)
    (case a17 => k_is)
    (case l17 => k_is)
    (case c17 => k_is)
    (case k17 => k_is)
    (case a18 => k_is)
    (case l18 => k_is)
    (case c18 => k_is)
    (case k18 => k_is)
    (case a19 => k_is)
    (case l19 => k_is)
    (case c19 => k_is)
    (case k19 => k_is)
    (case a20 => k_is)
    (case l20 => k_is)
    (case c20 => k_is)
    (case k20 => k_is)
    (case a21 => k_is)
    (case l21 => k_is)
    (case c21 => k_is)
    (case k21 => k_is)
    (case a22 => k_is)
    (case l22 => k_is)
    (case c22 => k_is)
    (case k22 => k_is)
    (case a23 => k_is)
    (case l23 => k_is)
    (case c23 => k_is)
    (case k23 => k_is)
    (case a24 => k_is)
    (case l24 => k_is)
    (case c24 => k_is)
    (case k24 => k_is)
    (case a25 => k_is)
    (case l25 => k_is)
    (case c25 => k_is)
    (case k25 => k_is)
    (case a26 => k_is)
    (case l26 => k_is)
    (case c26 => k_is)
    (case k26 => k_is)
    (case a27 => k_is)
    (case l27 => k_is)
    (case c27 => k_is)
    (case k27 => k_is)
    (case a28 => k_is)
    (case l28 => k_is)
    (case c28 => k_is)
    (case k28 => k_is)
    (case a29 => k_is)
    (case l29 => k_is)
    (case c29 => k_is)
    (case k29 => k_is)
    (case a30 => k_is)
    (case l30 => k_is)
    (case c30 => k_is)
    (case k30 => k_is)
    (case a31 => k_is)
    (case l31 => k_is)
    (case c31 => k_is)
    (case k31 => k_is)
    (case a32 => k_is)
    (case l32 => k_is)
    (case c32 => k_is)
    (case k32 => k_is)
    (case a33 => k_is)
    (case l33 => k_is)
    (case c33 => k_is)
    (case k33 => k_is)
    (case a34 => k_is)
    (case l34 => k_is)
    (case c34 => k_is)
    (case k34 => k_is)
    (case a35 => k_is)
    (case l35 => k_is)
    (case c35 => k_is)
    (case k35 => k_is)
    (case a36 => k_is)
    (case l36 => k_is)
    (case c36 => k_is)
    (case k36 => k_is)
    (case a37 => k_is)
    (case l37 => k_is)
    (case c37 => k_is)
    (case k37 => k_is)
    (case a38 => k_is)
    (case l38 => k_is)
    (case c38 => k_is)
    (case k38 => k_is)
    (case a39 => k_is)
    (case l39 => k_is)
    (case c39 => k_is)
    (case k39 => k_is)
    (case a40 => k_is)
    (case l40 => k_is)
    (case c40 => k_is)
    (case k40 => k_is)
    (case a41 => k_is)
    (case l41 => k_is)
    (case c41 => k_is)
    (case k41 => k_is)
    (case a42 => k_is)
    (case l42 => k_is)
    (case c42 => k_is)
    (case k42 => k_is)
    (case a43 => k_is)
    (case l43 => k_is)
    (case c43 => k_is)
    (case k43 => k_is)
    (case a44 => k_is)
    (case l44 => k_is)
    (case c44 => k_is)
    (case k44 => k_is)
    (case a45 => k_is)
    (case l45 => k_is)
    (case c45 => k_is)
    (case k45 => k_is)
    (case a46 => k_is)
    (case l46 => k_is)
    (case c46 => k_is)
    (case k46 => k_is)
    (case a47 => k_is)
    (case l47 => k_is)
    (case c47 => k_is)
    (case k47 => k_is)
    (case a48 => k_is)
    (case l48 => k_is)
    (case c48 => k_is)
    (case k48 => k_is)
    (case a49 => k_is)
    (case l49 => k_is)
    (case c49 => k_is)
    (case k49 => k_is)
    (case z_list => k_is)
    (case z_sum => k_is)
    (case z_len => k_is)
    (case z_divmod => k_is)
    (case z_range => k_is)
    (case z_isinstance => k_is)
    (case z_int => k_is)
    (case z_bool => k_is)
    (case z_tuple => k_is)
    (case z_MOST_MATS => k_is)
    (case z_all => k_is)
    (case z_MOST_MARKS => k_is)
    (case z_enumerate => k_is)
    (case z_max => k_is)
    (case z_zip => k_is)
    (case z_abs => k_is)
    (case z_sorted => k_is)
    (case z_repr => k_is)
    (case z_min => k_is)

