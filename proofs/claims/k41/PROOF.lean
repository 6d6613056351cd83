import PyProof.Rows.All
import Wide.All
import OpenK.AllK
import Wide.FinOn
import HandS.Call
import HandS.Comp
import HandS.ForExc
import HandS.ForMost
import HandS.Wide
import HandS.Star
import HandS.IsInst
import HandS.Flow
import HandS.TupAny
import HandS.TupMul
import HandS.WideBits
import HandS.SortInts
import HandS.Zip
import HandS.TupLe
import HandS.Deep
import HandS.Style
import KE.GoesEnum
import HandS.TupSets
import PyProof.ListNew
import KE.GoesMore
import KE.GoesZip
import HandS.DictComp
import HandS.Iter
import KE.KEqDict
import HandS.SortRule
import HandS.Conv
import PyProof.ReprRoads
import PyProof.ReprLen
import PyProof.FitsInt
import PyProof.CallFns
import HandS.List
import KE.KDictWalk
import HandS.ExcField
import HandS.ExcIs
import HandS.TryMany
import HandS.ExcOwn
import HandS.ForSpec
import KE.KExcIs
import HandS.Gcd
import HandS.WordsDict
import HandS.TupLen
import HandS.Small
import HandS.More
import PyProof.SumAny
import HandS.Sort
import KE.KDictZip
import KE.KDictSum
import KE.DataMinMax
import PySem.Challenge.RW_lapmats_k41_whole_least_misses_and_windo
set_option Elab.async false
set_option linter.all false
set_option maxRecDepth 100000
set_option autoImplicit false
namespace G
open PySem PySem.Spec PyProof.Rows L2
inductive D where
  | non | bl (b : Bool) | int (i : Int) | str (x : Str) | raw (v : V) | dic
  | tup (xs : List D) | lst (xs : List D) | slo (xs : List D) | mut (n : Nat)
  /-- a def of the module, by its name; a caught error: where it is, its class, its dict, its class's name, its field -/
  | emp | rg (lo hi : Int) | fn (x : Str) | exv (a : Addr) (c : Value) (od : Option Addr) (cl f : Str) (d : D)
inductive MO where
  | lst (xs : List D)
  | dk (kvs : List (L2.Key × V)) | dt (kvs : List (List L2.Key × V))
  /-- a dict that a loop walks -/
  | fk (kvs : List (L2.Key × V))
  /-- dicts of any things; walked ones -/
  | dd (kvs : List (L2.Key × D)) | de (kvs : List (List L2.Key × D)) | fd (kvs : List (L2.Key × D)) | fe (kvs : List (List L2.Key × D))
abbrev Sto := List MO
abbrev Env := List (Option D)
structure Mem where
  m : List Addr
  p : List Addr
  f : Addr → Option (Obj × HO)
def Mem.no (M : Mem) (a : Addr) : Prop := a ∉ M.m ∧ a ∉ M.p
def Mem.push (M : Mem) (a : Addr) : Mem := ⟨M.m ++ [a], M.p, M.f⟩
def FzP (M : Mem) (H : Hp) (a : Addr) (xs : List V) : Prop := H a = some (.lst xs) ∧ M.no a
def FzL (K : PySem.W.Frag) (M : Mem) (H : Hp) (a : Addr) (xs : List V) : Prop :=
  (Rd H a (.lst xs) ∧ M.no a) ∨
    ∃ (o : Obj) (its : Array Value) (n : Nat), K.lookup a = some o ∧ o.cls = .type "list" ∧ o.dict = none ∧ o.data = .seq its n ∧ its.size ≤ sizeLine ∧ Vals xs its.toList
def FzT (K : PySem.W.Frag) (M : Mem) (H : Hp) (a : Addr) (xs : List V) : Prop := H a = some (.tup xs) ∧ M.no a
theorem FzL.sq {K : PySem.W.Frag} {M : Mem} {H : Hp} {a : Addr} {xs : List V} (h : FzL K M H a xs) : SqL K H a xs := h.imp And.left id
theorem FzP.sq {K : PySem.W.Frag} {M : Mem} {H : Hp} {a : Addr} {xs : List V} (h : FzP M H a xs) : SqL K H a xs := .of h.1
theorem FzT.sq {K : PySem.W.Frag} {M : Mem} {H : Hp} {a : Addr} {xs : List V} (h : FzT K M H a xs) : SqT K H a xs := .inl (.of h.1)
section
variable (K : PySem.W.Frag) (M : Mem) (H : Hp)
mutual
def Rep : D → V → Prop
  | .non, v => v = .non
  | .bl b, v => v = .bl b
  | .int i, v => v = .int i
  | .str x, v => v = .str x
  | .raw w, v => v = w
  | .dic, v => ∃ a kvs, v = .ref a ∧ H a = some (.dK kvs) ∧ M.no a
  | .tup xs, v => ∃ a vs, v = .ref a ∧ FzT K M H a vs ∧ RepL xs vs
  | .lst xs, v => ∃ a vs, v = .ref a ∧ FzP M H a vs ∧ RepL xs vs
  | .slo xs, v => ∃ a vs, v = .ref a ∧ FzL K M H a vs ∧ RepL xs vs
  | .mut n, v => ∃ a, v = .ref a ∧ M.m[n]? = some a
  | .emp, v => ∃ a, v = .ref a ∧ H a = some (.dK []) ∧ M.no a
  | .rg lo hi, v => ∃ a, v = .ref a ∧ H a = some (.rng lo hi) ∧ M.no a
  | .fn x, v => ∃ a, v = .ref a ∧ PySem.W.nsIn K mainGlobals x = some (some (.ref a))
  | .exv a c od cl f d, v => v = .ref a ∧ PySem.W.nsIn K mainGlobals cl = some (some c) ∧ ((f = "" ∧ od = none) ∨ (f ≠ "" ∧ ∃ dd w, od = some dd ∧ H dd = some (.xd [(f, w)]) ∧ M.no dd ∧ Rep d w))
def RepL : List D → List V → Prop
  | [], vs => vs = []
  | d :: ds, vs => ∃ v r, vs = v :: r ∧ Rep d v ∧ RepL ds r
end
end
structure Keep (M : Mem) (H : Hp) (M' : Mem) (H' : Hp) : Prop where
  pre : ∀ (n : Nat) (a : Addr), M.m[n]? = some a → M'.m[n]? = some a
  keep : ∀ a o, H a = some o → M.no a → H' a = some o ∧ M'.no a
  ff : M'.f = M.f
theorem Keep.refl {M : Mem} {H : Hp} : Keep M H M H := ⟨fun _ _ h => h, fun _ _ h n => ⟨h, n⟩, rfl⟩
theorem Keep.trans {M : Mem} {H : Hp} {M1 : Mem} {H1 : Hp} {M2 : Mem} {H2 : Hp} (a : Keep M H M1 H1) (b : Keep M1 H1 M2 H2) : Keep M H M2 H2 :=
  ⟨fun n x h => b.pre n x (a.pre n x h), fun x o h n => let ⟨h1, n1⟩ := a.keep x o h n; b.keep x o h1 n1, b.ff.trans a.ff⟩
structure Grow (M : Mem) (H : Hp) (M' : Mem) (H' : Hp) : Prop where
  pre : ∀ (n : Nat) (a : Addr), M.m[n]? = some a → M'.m[n]? = some a
  keep : ∀ a o, H a = some o → M.no a → H' a = some o ∧ M'.no a
  pp : M'.p = M.p
  prot : ∀ a ∈ M.p, H' a = H a
  ff : M'.f = M.f
theorem Grow.k {M : Mem} {H : Hp} {M' : Mem} {H' : Hp} (g : Grow M H M' H') : Keep M H M' H' := ⟨g.pre, g.keep, g.ff⟩
theorem Grow.refl {M : Mem} {H : Hp} : Grow M H M H := ⟨fun _ _ h => h, fun _ _ h n => ⟨h, n⟩, rfl, fun _ _ => rfl, rfl⟩
theorem Grow.trans {M : Mem} {H : Hp} {M1 : Mem} {H1 : Hp} {M2 : Mem} {H2 : Hp} (a : Grow M H M1 H1) (b : Grow M1 H1 M2 H2) : Grow M H M2 H2 :=
  ⟨fun n x h => b.pre n x (a.pre n x h), fun x o h n => let ⟨h1, n1⟩ := a.keep x o h n; b.keep x o h1 n1, b.pp.trans a.pp, fun x h => (b.prot x (by rw [a.pp]; exact h)).trans (a.prot x h), b.ff.trans a.ff⟩
section
variable {K : PySem.W.Frag} {M M' : Mem} {H H' : Hp}
theorem Keep.rdL {a : Addr} {o : HO} (g : Keep M H M' H') (h : Rd H a o) (n : M.no a) : Rd H' a o ∧ M'.no a := by
  rcases h with h | ⟨ob, h⟩
  · exact ⟨.inl (g.keep _ _ h n).1, (g.keep _ _ h n).2⟩
  · exact ⟨.inr ⟨ob, (g.keep _ _ h n).1⟩, (g.keep _ _ h n).2⟩
theorem Keep.fzL {a : Addr} {xs : List V} (g : Keep M H M' H') (h : FzL K M H a xs) : FzL K M' H' a xs := h.imp (fun q => g.rdL q.1 q.2) id
theorem Keep.fzT {a : Addr} {xs : List V} (g : Keep M H M' H') (h : FzT K M H a xs) : FzT K M' H' a xs := g.keep _ _ h.1 h.2
mutual
theorem Rep.kp (g : Keep M H M' H') : ∀ {d : D} {v : V}, Rep K M H d v → Rep K M' H' d v
  | .non, _, h => by unfold Rep at h ⊢; exact h
  | .bl _, _, h => by unfold Rep at h ⊢; exact h
  | .int _, _, h => by unfold Rep at h ⊢; exact h
  | .str _, _, h => by unfold Rep at h ⊢; exact h
  | .raw _, _, h => by unfold Rep at h ⊢; exact h
  | .dic, _, h => by
    unfold Rep at h ⊢
    obtain ⟨a, kvs, e, f, n⟩ := h
    exact ⟨a, kvs, e, g.keep _ _ f n⟩
  | .tup xs, _, h => by
    unfold Rep at h ⊢
    obtain ⟨a, vs, e, f, r⟩ := h
    exact ⟨a, vs, e, g.fzT f, RepL.kp g r⟩
  | .lst xs, _, h => by
    unfold Rep at h ⊢
    obtain ⟨a, vs, e, f, r⟩ := h
    exact ⟨a, vs, e, g.keep _ _ f.1 f.2, RepL.kp g r⟩
  | .slo xs, _, h => by
    unfold Rep at h ⊢
    obtain ⟨a, vs, e, f, r⟩ := h
    exact ⟨a, vs, e, g.fzL f, RepL.kp g r⟩
  | .mut n, _, h => by
    unfold Rep at h ⊢
    obtain ⟨a, e, m⟩ := h
    exact ⟨a, e, g.pre n a m⟩
  | .fn _, _, h => by unfold Rep at h ⊢; exact h
  | .emp, _, h => by
    unfold Rep at h ⊢
    obtain ⟨a, e, f, n⟩ := h
    exact ⟨a, e, g.keep _ _ f n⟩
  | .rg .., _, h => by
    unfold Rep at h ⊢
    obtain ⟨a, e, f, n⟩ := h
    exact ⟨a, e, g.keep _ _ f n⟩
  | .exv a c od cl f d, _, h => by
    unfold Rep at h ⊢
    obtain ⟨h1, h2, h3⟩ := h
    refine ⟨h1, h2, h3.imp id ?_⟩
    rintro ⟨h4, dd, w, h5, h6, h7, h8⟩
    exact ⟨h4, dd, w, h5, (g.keep _ _ h6 h7).1, (g.keep _ _ h6 h7).2, Rep.kp g h8⟩
theorem RepL.kp (g : Keep M H M' H') : ∀ {ds : List D} {vs : List V}, RepL K M H ds vs → RepL K M' H' ds vs
  | [], _, h => by unfold RepL at h ⊢; exact h
  | d :: ds, _, h => by
    unfold RepL at h ⊢
    obtain ⟨v, r, e, h1, h2⟩ := h
    exact ⟨v, r, e, Rep.kp g h1, RepL.kp g h2⟩
end
theorem Rep.grow (g : Grow M H M' H') {d : D} {v : V} (h : Rep K M H d v) : Rep K M' H' d v := Rep.kp g.k h
theorem RepL.grow (g : Grow M H M' H') {ds : List D} {vs : List V} (h : RepL K M H ds vs) : RepL K M' H' ds vs := RepL.kp g.k h
theorem Grow.fzL {a : Addr} {xs : List V} (g : Grow M H M' H') (h : FzL K M H a xs) : FzL K M' H' a xs := g.k.fzL h
theorem Grow.fzT {a : Addr} {xs : List V} (g : Grow M H M' H') (h : FzT K M H a xs) : FzT K M' H' a xs := g.k.fzT h
theorem RepL.nil : RepL K M H [] [] := by unfold RepL; rfl
theorem RepL.cons {d : D} {v : V} {ds : List D} {vs : List V} (h : Rep K M H d v) (t : RepL K M H ds vs) : RepL K M H (d :: ds) (v :: vs) := by unfold RepL; exact ⟨v, vs, rfl, h, t⟩
theorem RepL.length : ∀ {ds : List D} {vs : List V}, RepL K M H ds vs → ds.length = vs.length
  | [], _, h => by unfold RepL at h; subst h; rfl
  | d :: ds, _, h => by
    unfold RepL at h
    obtain ⟨v, r, rfl, _, h2⟩ := h
    simp [RepL.length h2]
theorem RepL.append : ∀ {ds es : List D} {vs ws : List V}, RepL K M H ds vs → RepL K M H es ws → RepL K M H (ds ++ es) (vs ++ ws)
  | [], _, _, _, h, q => by unfold RepL at h; subst h; exact q
  | d :: ds, _, _, _, h, q => by
    unfold RepL at h
    obtain ⟨v, r, rfl, h1, h2⟩ := h
    exact .cons h1 (RepL.append h2 q)
theorem RepL.get : ∀ {ds : List D} {vs : List V} {i : Nat} {d : D}, RepL K M H ds vs → ds[i]? = some d → ∃ v, vs[i]? = some v ∧ Rep K M H d v
  | [], _, i, d, h, e => by simp at e
  | x :: ds, _, 0, d, h, e => by
    unfold RepL at h
    obtain ⟨v, r, rfl, h1, h2⟩ := h
    simp at e; subst e
    exact ⟨v, rfl, h1⟩
  | x :: ds, _, i + 1, d, h, e => by
    unfold RepL at h
    obtain ⟨v, r, rfl, h1, h2⟩ := h
    obtain ⟨w, h3, h4⟩ := RepL.get (i := i) h2 (by simpa using e)
    exact ⟨w, by simpa using h3, h4⟩
theorem RepL.take : ∀ {ds : List D} {vs : List V} (n : Nat), RepL K M H ds vs → RepL K M H (ds.take n) (vs.take n)
  | _, _, 0, _ => by simp; exact .nil
  | [], _, n + 1, h => by unfold RepL at h; subst h; simp; exact .nil
  | x :: ds, _, n + 1, h => by
    unfold RepL at h
    obtain ⟨v, r, rfl, h1, h2⟩ := h
    simpa using RepL.cons h1 (RepL.take n h2)
theorem RepL.drop : ∀ {ds : List D} {vs : List V} (n : Nat), RepL K M H ds vs → RepL K M H (ds.drop n) (vs.drop n)
  | _, _, 0, h => by simpa using h
  | [], _, n + 1, h => by unfold RepL at h; subst h; simp; exact .nil
  | x :: ds, _, n + 1, h => by
    unfold RepL at h
    obtain ⟨v, r, rfl, h1, h2⟩ := h
    simpa using RepL.drop n h2
theorem RepL.set {d : D} {v : V} (q : Rep K M H d v) : ∀ {ds : List D} {vs : List V} (n : Nat), RepL K M H ds vs → RepL K M H (ds.set n d) (vs.set n v)
  | [], _, n, h => by unfold RepL at h; subst h; simp; exact .nil
  | x :: ds, _, 0, h => by
    unfold RepL at h
    obtain ⟨w, r, rfl, h1, h2⟩ := h
    simpa using RepL.cons q h2
  | x :: ds, _, n + 1, h => by
    unfold RepL at h
    obtain ⟨w, r, rfl, h1, h2⟩ := h
    simpa using RepL.cons h1 (RepL.set q n h2)
theorem RepL.replicate {d : D} {v : V} (q : Rep K M H d v) : ∀ (n : Nat), RepL K M H (List.replicate n d) (List.replicate n v)
  | 0 => .nil
  | n + 1 => by rw [List.replicate_succ, List.replicate_succ]; exact .cons q (RepL.replicate q n)
theorem RepL.ints : ∀ (ns : List Int), RepL K M H (ns.map D.int) (ns.map V.int)
  | [] => .nil
  | n :: ns => .cons (by unfold Rep; rfl) (RepL.ints ns)
end
def RepKV {κ : Type} (K : PySem.W.Frag) (M : Mem) (H : Hp) (kvs : List (κ × D)) (ws : List (κ × V)) : Prop := ws.map (·.1) = kvs.map (·.1) ∧ RepL K M H (kvs.map (·.2)) (ws.map (·.2))
theorem RepKV.kp {κ : Type} {K : PySem.W.Frag} {M M' : Mem} {H H' : Hp} (g : Keep M H M' H') {kvs : List (κ × D)} {ws : List (κ × V)} (r : RepKV K M H kvs ws) : RepKV K M' H' kvs ws := ⟨r.1, r.2.kp g⟩
theorem RepKV.grow {κ : Type} {K : PySem.W.Frag} {M M' : Mem} {H H' : Hp} (g : Grow M H M' H') {kvs : List (κ × D)} {ws : List (κ × V)} (r : RepKV K M H kvs ws) : RepKV K M' H' kvs ws := r.kp g.k
def MoOk (K : PySem.W.Frag) (M : Mem) (H : Hp) (a : Addr) : MO → Prop
  | .lst xs => ∃ vs, H a = some (.lst vs) ∧ RepL K M H xs vs
  | .dk kvs => H a = some (.dK kvs)
  | .dt kvs => H a = some (.dT kvs)
  | .fk kvs => ∃ o, M.f a = some (o, .dK kvs) ∧ H a = some (.frz o (.dK kvs))
  | .dd kvs => ∃ ws, H a = some (.dK ws) ∧ RepKV K M H kvs ws
  | .de kvs => ∃ ws, H a = some (.dT ws) ∧ RepKV K M H kvs ws
  | .fd kvs => ∃ o ws, M.f a = some (o, .dK ws) ∧ H a = some (.frz o (.dK ws)) ∧ RepKV K M H kvs ws
  | .fe kvs => ∃ o ws, M.f a = some (o, .dT ws) ∧ H a = some (.frz o (.dT ws)) ∧ RepKV K M H kvs ws
structure StOk (K : PySem.W.Frag) (M : Mem) (H : Hp) (st : Sto) : Prop where
  len : M.m.length = st.length
  nd : M.m.Nodup
  pd : ∀ a ∈ M.p, a ∉ M.m ∧ ∃ o : List V, H a = some (.lst o)
  at_ : ∀ (n : Nat) (a : Addr) (mo : MO), M.m[n]? = some a → st[n]? = some mo → MoOk K M H a mo
section
variable {K : PySem.W.Frag} {M M' : Mem} {H H' : Hp} {st : Sto}
theorem MoOk.there {a : Addr} {mo : MO} (h : MoOk K M H a mo) : ∃ o, H a = some o := by
  cases mo with
  | lst xs => obtain ⟨vs, e, _⟩ := h; exact ⟨_, e⟩
  | dk kvs => exact ⟨_, h⟩
  | dt kvs => exact ⟨_, h⟩
  | fk kvs => obtain ⟨o, _, e⟩ := h; exact ⟨_, e⟩
  | dd kvs => obtain ⟨ws, e, _⟩ := h; exact ⟨_, e⟩
  | de kvs => obtain ⟨ws, e, _⟩ := h; exact ⟨_, e⟩
  | fd kvs => obtain ⟨o, ws, _, e, _⟩ := h; exact ⟨_, e⟩
  | fe kvs => obtain ⟨o, ws, _, e, _⟩ := h; exact ⟨_, e⟩
theorem MoOk.kp {a : Addr} {mo : MO} (q : MoOk K M H a mo) (k : Keep M H M' H') (e : H' a = H a) : MoOk K M' H' a mo := by
  cases mo with
  | lst xs => obtain ⟨vs, h, r⟩ := q; exact ⟨vs, e.trans h, r.kp k⟩
  | dk kvs => exact e.trans q
  | dt kvs => exact e.trans q
  | fk kvs => obtain ⟨o, h1, h2⟩ := q; exact ⟨o, by rw [k.ff]; exact h1, e.trans h2⟩
  | dd kvs => obtain ⟨ws, h, r⟩ := q; exact ⟨ws, e.trans h, r.kp k⟩
  | de kvs => obtain ⟨ws, h, r⟩ := q; exact ⟨ws, e.trans h, r.kp k⟩
  | fd kvs => obtain ⟨o, ws, h1, h2, r⟩ := q; exact ⟨o, ws, by rw [k.ff]; exact h1, e.trans h2, r.kp k⟩
  | fe kvs => obtain ⟨o, ws, h1, h2, r⟩ := q; exact ⟨o, ws, by rw [k.ff]; exact h1, e.trans h2, r.kp k⟩
theorem StOk.there (s : StOk K M H st) {a : Addr} (h : a ∈ M.m) : ∃ o, H a = some o := by
  obtain ⟨n, hn, e⟩ := List.mem_iff_getElem.mp h
  have hs : n < st.length := by rw [← s.len]; exact hn
  exact (s.at_ n a st[n] (by rw [List.getElem?_eq_getElem hn, e]) (List.getElem?_eq_getElem hs)).there
theorem StOk.notin (s : StOk K M H st) {a : Addr} (h : H a = none) : M.no a := by
  refine ⟨fun z => ?_, fun z => ?_⟩
  · obtain ⟨o, e⟩ := s.there z
    rw [h] at e; cases e
  · obtain ⟨_, o, e⟩ := s.pd a z
    rw [h] at e; cases e
theorem Grow.laid (s : StOk K M H st) {p : Addr} {o : HO} (h : H p = none) : Grow M H M (upd H p o) :=
  ⟨fun _ _ h => h, fun a u e n => ⟨by rw [upd_ne (ne_of_none e h)]; exact e, n⟩, rfl, fun a ha => by
    obtain ⟨_, u, e⟩ := s.pd a ha
    rw [upd_ne (ne_of_none e h)], rfl⟩
theorem MoOk.upd {a p : Addr} {mo : MO} {o : HO} {M' : Mem} (q : MoOk K M H a mo) (ne : a ≠ p) (g : Grow M H M' (upd H p o)) : MoOk K M' (upd H p o) a mo := by
  cases mo with
  | lst xs =>
    obtain ⟨vs, e, r⟩ := q
    exact ⟨vs, by rw [upd_ne ne]; exact e, r.grow g⟩
  | dk kvs =>
    show L2.upd H p o a = _
    rw [upd_ne ne]; exact q
  | dt kvs =>
    show L2.upd H p o a = _
    rw [upd_ne ne]; exact q
  | fk kvs =>
    obtain ⟨o', e1, e2⟩ := q
    exact ⟨o', by rw [g.ff]; exact e1, by rw [upd_ne ne]; exact e2⟩
  | dd kvs =>
    obtain ⟨ws, e, r⟩ := q
    exact ⟨ws, by rw [upd_ne ne]; exact e, r.grow g⟩
  | de kvs =>
    obtain ⟨ws, e, r⟩ := q
    exact ⟨ws, by rw [upd_ne ne]; exact e, r.grow g⟩
  | fd kvs =>
    obtain ⟨o', ws, e1, e2, r⟩ := q
    exact ⟨o', ws, by rw [g.ff]; exact e1, by rw [upd_ne ne]; exact e2, r.grow g⟩
  | fe kvs =>
    obtain ⟨o', ws, e1, e2, r⟩ := q
    exact ⟨o', ws, by rw [g.ff]; exact e1, by rw [upd_ne ne]; exact e2, r.grow g⟩
theorem StOk.laid (s : StOk K M H st) {p : Addr} {o : HO} (h : H p = none) : StOk K M (upd H p o) st := by
  have g : Grow M H M (upd H p o) := Grow.laid s h
  refine ⟨s.len, s.nd, fun a ha => ?_, fun n a mo e1 e2 => ?_⟩
  · obtain ⟨h1, u, e⟩ := s.pd a ha
    exact ⟨h1, u, by rw [upd_ne (ne_of_none e h)]; exact e⟩
  · have q := s.at_ n a mo e1 e2
    obtain ⟨u, e⟩ := q.there
    exact q.upd (ne_of_none e h) g
theorem Grow.push (s : StOk K M H st) {p : Addr} {o : HO} (h : H p = none) : Grow M H (M.push p) (upd H p o) :=
  ⟨fun n a e => by
    show (M.m ++ [p])[n]? = some a
    rw [List.getElem?_append_left (List.getElem?_eq_some_iff.mp e).1]; exact e, fun a u e n => ⟨by rw [upd_ne (ne_of_none e h)]; exact e, by
    refine ⟨fun z => ?_, n.2⟩
    rcases List.mem_append.mp z with z | z
    · exact n.1 z
    · simp at z; subst z; rw [h] at e; cases e⟩, rfl, fun a ha => by
    obtain ⟨_, u, e⟩ := s.pd a ha
    rw [upd_ne (ne_of_none e h)], rfl⟩
theorem StOk.push (s : StOk K M H st) {p : Addr} {o : HO} {mo : MO} (h : H p = none) (r : MoOk K (M.push p) (upd H p o) p mo) : StOk K (M.push p) (upd H p o) (st ++ [mo]) := by
  have g : Grow M H (M.push p) (upd H p o) := Grow.push s h
  refine ⟨by simp [Mem.push, s.len], ?_, fun a ha => ?_, fun n a mo e1 e2 => ?_⟩
  · show (M.m ++ [p]).Nodup
    rw [List.nodup_append]
    exact ⟨s.nd, by simp, fun a ha b hb => by simp at hb; subst hb; rintro rfl; exact (s.notin h).1 ha⟩
  · obtain ⟨h1, u, e⟩ := s.pd a ha
    refine ⟨fun z => ?_, u, by rw [upd_ne (ne_of_none e h)]; exact e⟩
    rcases List.mem_append.mp z with z | z
    · exact h1 z
    · simp at z; subst z; rw [h] at e; cases e
  · have e1 : (M.m ++ [p])[n]? = some a := e1
    by_cases hn : n < M.m.length
    · rw [List.getElem?_append_left hn] at e1
      rw [List.getElem?_append_left (by rw [← s.len]; exact hn)] at e2
      have q := s.at_ n a mo e1 e2
      obtain ⟨u, e⟩ := q.there
      exact q.upd (ne_of_none e h) g
    · have hn' : n = M.m.length := by
        have := (List.getElem?_eq_some_iff.mp e1).1
        simp at this; omega
      subst hn'
      rw [List.getElem?_append_right (Nat.le_refl _)] at e1
      rw [s.len, List.getElem?_append_right (Nat.le_refl _)] at e2
      simp at e1 e2
      subst e1 e2
      exact r
theorem StOk.pushL (s : StOk K M H st) {p : Addr} {xs : List D} {vs : List V} (h : H p = none) (r : RepL K M H xs vs) : StOk K (M.push p) (upd H p (.lst vs)) (st ++ [.lst xs]) :=
  s.push h ⟨vs, upd_same, r.grow (Grow.push s h)⟩
theorem Grow.put (s : StOk K M H st) {p : Addr} {o : HO} {n : Nat} (h : M.m[n]? = some p) : Grow M H M (upd H p o) :=
  ⟨fun _ _ h => h, fun a u e ni => ⟨by
    rw [upd_ne]; exact e
    rintro rfl
    exact ni.1 (List.mem_of_getElem? h), ni⟩, rfl, fun a ha => by
    rw [upd_ne]
    rintro rfl
    exact (s.pd a ha).1 (List.mem_of_getElem? h), rfl⟩
theorem StOk.put (s : StOk K M H st) {p : Addr} {n : Nat} {o : HO} {mo : MO} (h : M.m[n]? = some p) (r : MoOk K M (upd H p o) p mo) : StOk K M (upd H p o) (st.set n mo) := by
  have g : Grow M H M (upd H p o) := Grow.put s h
  have hn := (List.getElem?_eq_some_iff.mp h).1
  refine ⟨by simp [s.len], s.nd, fun a ha => ?_, fun k a mo e1 e2 => ?_⟩
  · obtain ⟨h1, u, e⟩ := s.pd a ha
    exact ⟨h1, u, by rw [g.prot a ha]; exact e⟩
  · by_cases hk : n = k
    · subst hk
      rw [h] at e1; cases e1
      rw [List.getElem?_set_self (by rw [← s.len]; exact hn)] at e2
      cases e2
      exact r
    · rw [List.getElem?_set_ne hk] at e2
      have q := s.at_ k a mo e1 e2
      have ha : a ≠ p := by
        rintro rfl
        have hkl := (List.getElem?_eq_some_iff.mp e1).1
        have e3 : M.m[k] = a := by rw [List.getElem?_eq_getElem hkl] at e1; exact Option.some.inj e1
        have e4 : M.m[n] = a := by rw [List.getElem?_eq_getElem hn] at h; exact Option.some.inj h
        exact hk ((List.getElem_inj s.nd).mp (e4.trans e3.symm))
      exact q.upd ha g
theorem StOk.putL (s : StOk K M H st) {p : Addr} {n : Nat} {xs : List D} {vs : List V} (h : M.m[n]? = some p) (r : RepL K M H xs vs) : StOk K M (upd H p (.lst vs)) (st.set n (.lst xs)) :=
  s.put h ⟨vs, upd_same, r.grow (Grow.put s h)⟩
end
structure EnvOk (K : PySem.W.Frag) (M : Mem) (H : Hp) (env : Env) (σ : L2.St) : Prop where
  len : env.length = σ.length
  at_ : ∀ (i : Nat) (d : D), env[i]? = some (some d) → ∃ v : V, σ[i]? = some (some v) ∧ Rep K M H d v
section
variable {K : PySem.W.Frag} {M M' : Mem} {H H' : Hp} {env : Env} {σ : L2.St}
theorem EnvOk.kp (e : EnvOk K M H env σ) (g : Keep M H M' H') : EnvOk K M' H' env σ :=
  ⟨e.len, fun i d h => let ⟨v, h1, h2⟩ := e.at_ i d h; ⟨v, h1, h2.kp g⟩⟩
theorem EnvOk.grow (e : EnvOk K M H env σ) (g : Grow M H M' H') : EnvOk K M' H' env σ := e.kp g.k
theorem EnvOk.set {d : D} {v : V} (e : EnvOk K M H env σ) (i : Nat) (r : Rep K M H d v) : EnvOk K M H (env.set i (some d)) (σ.set i (some v)) :=
  ⟨by simp [e.len], fun j x h => by
    by_cases hj : i = j
    · subst hj
      have hi : i < env.length := by
        have := (List.getElem?_eq_some_iff.mp h).1
        simpa using this
      rw [List.getElem?_set_self hi] at h
      cases h
      exact ⟨v, List.getElem?_set_self (by rw [← e.len]; exact hi), r⟩
    · rw [List.getElem?_set_ne hj] at h
      obtain ⟨w, h1, h2⟩ := e.at_ j x h
      exact ⟨w, by rw [List.getElem?_set_ne hj]; exact h1, h2⟩⟩
theorem EnvOk.none (e : EnvOk K M H env σ) (i : Nat) : EnvOk K M H (env.set i none) (σ.set i none) :=
  ⟨by simp [e.len], fun j x h => by
    by_cases hj : i = j
    · subst hj
      have hi : i < env.length := by
        have := (List.getElem?_eq_some_iff.mp h).1
        simpa using this
      rw [List.getElem?_set_self hi] at h
      cases h
    · rw [List.getElem?_set_ne hj] at h
      obtain ⟨w, h1, h2⟩ := e.at_ j x h
      exact ⟨w, by rw [List.getElem?_set_ne hj]; exact h1, h2⟩⟩
def wipeE (env : Env) : List Nat → Env
  | [] => env
  | v :: vs => (wipeE env vs).set v none
theorem EnvOk.wipe (e : EnvOk K M H env σ) : ∀ (vs : List Nat), EnvOk K M H (wipeE env vs) (L2.wipe σ vs)
  | [] => e
  | v :: vs => (EnvOk.wipe e vs).none v
end
end G
namespace G
open PySem PySem.Spec PyProof.Rows L2
structure Ex where
  cls : Str
  f : Str
  d : D
inductive R (α : Type) where
  | ok (a : α) (st : Sto) | exc (e : Ex) (st : Sto) | fail
def R.bind {α β : Type} (r : R α) (g : α → Sto → R β) : R β := match r with
  | .ok a st => g a st
  | .exc e st => .exc e st
  | .fail => .fail
@[simp] theorem R.bind_ok {α β : Type} (a : α) (st : Sto) (g : α → Sto → R β) : (R.ok a st).bind g = g a st := rfl
@[simp] theorem R.bind_exc {α β : Type} (e : Ex) (st : Sto) (g : α → Sto → R β) : (R.exc e st : R α).bind g = .exc e st := rfl
@[simp] theorem R.bind_fail {α β : Type} (g : α → Sto → R β) : (R.fail : R α).bind g = .fail := rfl
def RepX (K : PySem.W.Frag) (M : Mem) (H : Hp) (e : Ex) (c : Value) (od : Option Addr) : Prop :=
  PySem.W.nsIn K mainGlobals e.cls = some (some c) ∧ ((e.f = "" ∧ od = none) ∨ (e.f ≠ "" ∧ ∃ dd w, od = some dd ∧ H dd = some (.xd [(e.f, w)]) ∧ M.no dd ∧ Rep K M H e.d w))
theorem RepX.grow {K : PySem.W.Frag} {M : Mem} {H : Hp} {M' : Mem} {H' : Hp} {e : Ex} {c : Value} {od : Option Addr} (g : Grow M H M' H') (h : RepX K M H e c od) : RepX K M' H' e c od := by
  obtain ⟨h2, h3⟩ := h
  refine ⟨h2, h3.imp id ?_⟩
  rintro ⟨h4, dd, w, h5, h6, h7, h8⟩
  exact ⟨h4, dd, w, h5, (g.keep _ _ h6 h7).1, (g.keep _ _ h6 h7).2, h8.grow g⟩
abbrev RR (α β : Type) := Mem → Hp → α → β → Prop
section
variable {α β γ δ : Type}
def Post (K : PySem.W.Frag) (rep : RR α β) (M : Mem) (H : Hp) (Q : β → Hp → Prop) (E : XK) : R α → Prop
  | .ok a st => ∀ M' H' b, Grow M H M' H' → StOk K M' H' st → rep M' H' a b → Q b H'
  | .exc e st => ∀ M' H' c od, Grow M H M' H' → StOk K M' H' st → RepX K M' H' e c od → E c od H'
  | .fail => False
theorem Post.mono {K : PySem.W.Frag} {rep : RR α β} {M M1 : Mem} {H H1 : Hp} {Q : β → Hp → Prop} {E : XK} {r : R α} (g : Grow M H M1 H1) (p : Post K rep M H Q E r) : Post K rep M1 H1 Q E r := by
  cases r with
  | ok a st => exact fun M' H' b g' => p M' H' b (g.trans g')
  | exc e st => exact fun M' H' c od g' => p M' H' c od (g.trans g')
  | fail => exact p
theorem Post.bind {K : PySem.W.Frag} {rep : RR α β} {rep' : RR γ δ} {M : Mem} {H : Hp} {Q : δ → Hp → Prop} {E : XK} {r : R α} {g : α → Sto → R γ} (p : Post K rep' M H Q E (r.bind g)) :
    Post K rep M H (fun b H1 => ∃ M1 st1 a, Grow M H M1 H1 ∧ StOk K M1 H1 st1 ∧ rep M1 H1 a b ∧ Post K rep' M1 H1 Q E (g a st1)) E r := by
  cases r with
  | ok a st => exact fun M' H' b g' so h => ⟨M', st, a, g', so, h, Post.mono g' p⟩
  | exc e st => exact p
  | fail => exact p
end
theorem Post.imp {α β : Type} {K : PySem.W.Frag} {rep : RR α β} {M : Mem} {H : Hp} {Q Q' : β → Hp → Prop} {E : XK} {r : R α} (p : Post K rep M H Q E r) (i : ∀ b H', Q b H' → Q' b H') : Post K rep M H Q' E r := by
  cases r with
  | ok a st => exact fun M' H' b g so h => i _ _ (p M' H' b g so h)
  | exc e st => exact p
  | fail => exact p
def rd {α β : Type} (K : PySem.W.Frag) (rep : RR α β) (W : WX) (f : Env → Sto → R α) : L2.St → Hp → (β → Hp → Prop) → Prop := fun σ H Q =>
  ∃ env M st, EnvOk K M H env σ ∧ StOk K M H st ∧ Post K rep M H Q (WE W σ) (f env st)
abbrev EvE := Env → Sto → R D
abbrev EvB := Env → Sto → R Bool
abbrev EvA := Env → Sto → R (List D)
abbrev rdE (K : PySem.W.Frag) (W : WX) (f : EvE) : TE := rd K (Rep K) W f
abbrev rdB (K : PySem.W.Frag) (W : WX) (f : EvB) : TT := rd K (fun _ _ a b => a = b) W f
abbrev rdA (K : PySem.W.Frag) (W : WX) (f : EvA) : TA := rd K (RepL K) W f
section
variable {X : Cx}
theorem _root_.L2.PE.imp {e : Expr} {t t' : TE} (h : PE X e t) (i : ∀ σ H Q, t' σ H Q → t σ H Q) : PE X e t' := ⟨fun pins s σ H Q I q => h.run pins s σ H Q I (i σ H Q q)⟩
theorem _root_.L2.PT.imp {e : Expr} {t t' : TT} (h : PT X e t) (i : ∀ σ H Q, t' σ H Q → t σ H Q) : PT X e t' := ⟨fun pins s σ H Q I q => h.run pins s σ H Q I (i σ H Q q)⟩
theorem _root_.L2.PA.imp {e : List Expr} {t t' : TA} (h : PA X e t) (i : ∀ σ H Q, t' σ H Q → t σ H Q) : PA X e t' := ⟨fun pos pins s σ H Q I q => h.run pos pins s σ H Q I (i σ H Q q)⟩
theorem _root_.L2.PS.imp {e : Stmt} {t t' : TS} (h : PS X e t) (i : ∀ D σ H, t' D σ H → t D σ H) : PS X e t' := ⟨fun pins s σ H D I q => h.run pins s σ H D I (i D σ H q)⟩
theorem _root_.L2.PSs.imp {e : List Stmt} {t t' : TS} (h : PSs X e t) (i : ∀ D σ H, t' D σ H → t D σ H) : PSs X e t' := ⟨fun pins s σ H D I q => h.run pins s σ H D I (i D σ H q)⟩
end
def varE (i : Nat) : EvE := fun env st => match env[i]? with
  | some (some d) => .ok d st
  | _ => .fail
def cE (d : D) : EvE := fun _ st => .ok d st
section
variable {X : Cx} {W : WX}
theorem g_var (i : Nat) {x : Str} {pos : Pos} (h : PE X (.Name x pos) (tVar i)) : PE X (.Name x pos) (rdE X.K W (varE i)) := h.imp fun σ H Q ⟨env, M, st, eo, so, p⟩ => by
  unfold varE at p
  split at p
  · rename_i d e
    obtain ⟨v, e1, r⟩ := eo.at_ i d e
    exact ⟨v, e1, p M H v .refl so r⟩
  · exact p.elim
theorem g_c {e : Expr} {d : D} {v : V} (h : PE X e (tC v)) (r : ∀ M H, Rep X.K M H d v) : PE X e (rdE X.K W (cE d)) := h.imp fun σ H Q ⟨env, M, st, eo, so, p⟩ => p M H v .refl so (r M H)
theorem rep_non {K : PySem.W.Frag} : ∀ (M : Mem) (H : Hp), Rep K M H .non .non := fun _ _ => by unfold Rep; rfl
theorem rep_bl {K : PySem.W.Frag} (b : Bool) : ∀ (M : Mem) (H : Hp), Rep K M H (.bl b) (.bl b) := fun _ _ => by unfold Rep; rfl
theorem rep_int {K : PySem.W.Frag} (b : Int) : ∀ (M : Mem) (H : Hp), Rep K M H (.int b) (.int b) := fun _ _ => by unfold Rep; rfl
theorem rep_str {K : PySem.W.Frag} (b : Str) : ∀ (M : Mem) (H : Hp), Rep K M H (.str b) (.str b) := fun _ _ => by unfold Rep; rfl
theorem g_int {i : Int} {j pos} : PE X (.Constant (.int i) j pos) (rdE X.K W (cE (.int i))) := g_c pe_int (rep_int i)
theorem g_bl {i : Bool} {j pos} : PE X (.Constant (.bool i) j pos) (rdE X.K W (cE (.bl i))) := g_c pe_bl (rep_bl i)
theorem g_non {j pos} : PE X (.Constant .none j pos) (rdE X.K W (cE .non)) := g_c pe_non rep_non
end
abbrev F1 := D → Sto → R D
abbrev F2 := D → D → Sto → R D
def unE (f : F1) (fa : EvE) : EvE := fun env st => (fa env st).bind fun a st1 => f a st1
def binE (f : F2) (fa fb : EvE) : EvE := fun env st => (fa env st).bind fun a st1 => (fb env st1).bind fun b st2 => f a b st2
def OpV1 (K : PySem.W.Frag) (r : V → Hp → VK → Prop) (f : F1) : Prop := ∀ (a : D) (x : V) (M : Mem) (H : Hp) (st : Sto) (Q : VK) (E : XK), Rep K M H a x → StOk K M H st → Post K (Rep K) M H Q E (f a st) → r x H Q
def OpV (K : PySem.W.Frag) (r : R2) (f : F2) : Prop := ∀ (a b : D) (x y : V) (M : Mem) (H : Hp) (st : Sto) (Q : VK) (E : XK), Rep K M H a x → Rep K M H b y → StOk K M H st → Post K (Rep K) M H Q E (f a b st) → r x y H Q
section
variable {X : Cx} {W : WX} {a b c : Expr} {fa fb fc : EvE} {pos : Pos}
theorem rd_un {r : V → Hp → VK → Prop} {f : F1} (hv : OpV1 X.K r f) : ∀ σ H Q, rdE X.K W (unE f fa) σ H Q → tUn r (rdE X.K W fa) σ H Q :=
  fun σ H Q ⟨env, M, st, eo, so, p⟩ => ⟨env, M, st, eo, so, Post.imp (Post.bind p) fun x H1 ⟨M1, st1, a, g, so1, ra, p1⟩ => hv a x M1 H1 st1 Q _ ra so1 p1⟩
theorem rd_bin {r : R2} {f : F2} (hv : OpV X.K r f) : ∀ σ H Q, rdE X.K W (binE f fa fb) σ H Q → tOp r (rdE X.K W fa) (rdE X.K W fb) σ H Q :=
  fun σ H Q ⟨env, M, st, eo, so, p⟩ => ⟨env, M, st, eo, so, Post.imp (Post.bind p) fun x H1 ⟨M1, st1, a, g, so1, ra, p1⟩ =>
    ⟨env, M1, st1, eo.grow g, so1, Post.imp (Post.bind p1) fun y H2 ⟨M2, st2, b, g2, so2, rb, p2⟩ => hv a b x y M2 H2 st2 Q _ (ra.grow g2) rb so2 p2⟩⟩
theorem g_op {op : Operator} {r : R2} {f : F2} (ho : OpR X (binaryOp op) r) (hv : OpV X.K r f) (ha : PE X a (rdE X.K W fa)) (hb : PE X b (rdE X.K W fb)) : PE X (.BinOp a op b pos) (rdE X.K W (binE f fa fb)) :=
  (pe_op ho ha hb).imp (rd_bin hv)
theorem g_un {op : UnaryOp} {r : V → Hp → VK → Prop} {f : F1} (ho : UnR X (unaryOp op) r) (hv : OpV1 X.K r f) (ha : PE X a (rdE X.K W fa)) : PE X (.UnaryOp op a pos) (rdE X.K W (unE f fa)) :=
  (pe_un ho ha).imp (rd_un hv)
theorem g_cmp {op : CmpOp} {r : R2} {f : F2} (ho : OpR X (compareOp op) r) (hv : OpV X.K r f) (ha : PE X a (rdE X.K W fa)) (hb : PE X b (rdE X.K W fb)) (hm : behindInMarks op b = false) : PE X (.Compare a [op] [b] pos) (rdE X.K W (binE f fa fb)) :=
  (pe_cmpR ho ha hb hm).imp (rd_bin hv)
def boolR : D → Sto → R Bool
  | .bl b, st => .ok b st
  | _, _ => .fail
def tstE (fa : EvE) : EvB := fun env st => (fa env st).bind boolR
theorem rd_tst : ∀ σ H Q, rdB X.K W (tstE fa) σ H Q → rdE X.K W fa σ H (fun x H' => ∃ k, x = .bl k ∧ Q k H') :=
  fun σ H Q ⟨env, M, st, eo, so, p⟩ => ⟨env, M, st, eo, so, Post.imp (Post.bind p) fun x H1 ⟨M1, st1, a, g, so1, ra, p1⟩ => by
    unfold boolR at p1
    cases a with
    | bl k =>
      unfold Rep at ra
      exact ⟨k, ra, p1 M1 H1 k .refl so1 rfl⟩
    | _ => exact p1.elim⟩
theorem g_tcmp {op : CmpOp} {r : R2} {f : F2} (ho : OpR X (compareOp op) r) (hv : OpV X.K r f) (ha : PE X a (rdE X.K W fa)) (hb : PE X b (rdE X.K W fb)) (hm : behindInMarks op b = false) : PT X (.Compare a [op] [b] pos) (rdB X.K W (tstE (binE f fa fb))) :=
  (pt_cmpR ho ha hb hm).imp fun σ H Q h => rd_bin hv _ _ _ (rd_tst _ _ _ h)
theorem g_tval {e : Expr} (h : PE X e (rdE X.K W fa)) (he : ∀ whole, isTrue e X.env whole = (do let v ← whole; standAt e.pos; holding [v] (truthy v))) : PT X e (rdB X.K W (tstE fa)) :=
  (pt_val h he).imp fun σ H Q q => rd_tst _ _ _ q
def chainE (f f' : F2) (fa fb fc : EvE) : EvE := fun env st => (fa env st).bind fun a st1 => (fb env st1).bind fun b st2 => (f a b st2).bind fun z st3 => match z with
  | .bl true => (fc env st3).bind fun c st4 => f' b c st4
  | .bl false => .ok (.bl false) st3
  | _ => .fail
end
def andB (p q : EvB) : EvB := fun env st => (p env st).bind fun b st1 => if b = true then q env st1 else .ok false st1
def orB (p q : EvB) : EvB := fun env st => (p env st).bind fun b st1 => if b = true then .ok true st1 else q env st1
def notB (p : EvB) : EvB := fun env st => (p env st).bind fun b st1 => .ok (!b) st1
def ifE (t : EvB) (fa fb : EvE) : EvE := fun env st => (t env st).bind fun b st1 => if b = true then fa env st1 else fb env st1
def andE (fa fb : EvE) : EvE := fun env st => (fa env st).bind fun a st1 => match a with
  | .bl true => fb env st1
  | .bl false => .ok (.bl false) st1
  | _ => .fail
def notE (fa : EvE) : EvE := fun env st => (fa env st).bind fun a st1 => match a with
  | .bl b => .ok (.bl (!b)) st1
  | _ => .fail
section
variable {X : Cx} {W : WX} {a b : Expr} {rest : List Expr} {fa fb : EvE} {p q : EvB} {pos : Pos}
theorem g_and1 (ha : PT X a (rdB X.K W p)) : PW X (.BoolOp .And [a] pos) (rdB X.K W p) := pw_and1 ha
theorem g_or1 (ha : PT X a (rdB X.K W p)) : PW X (.BoolOp .Or [a] pos) (rdB X.K W p) := pw_or1 ha
theorem _root_.L2.PW.imp {e : Expr} {t t' : TT} (h : PW X e t) (i : ∀ σ H Q, t' σ H Q → t σ H Q) : PW X e t' := ⟨fun w pins s σ H Q I q => h.run w pins s σ H Q I (i σ H Q q)⟩
theorem g_and (ha : PT X a (rdB X.K W p)) (hb : PW X (.BoolOp .And (b :: rest) pos) (rdB X.K W q)) : PW X (.BoolOp .And (a :: b :: rest) pos) (rdB X.K W (andB p q)) :=
  PW.imp (pw_and ha hb) fun σ H Q ⟨env, M, st, eo, so, po⟩ => ⟨env, M, st, eo, so, Post.imp (Post.bind (rep := fun _ _ a b => a = b) po) fun x H1 ⟨M1, st1, a, g, so1, ra, p1⟩ => by
    subst ra
    cases a with
    | true => exact ⟨env, M1, st1, eo.grow g, so1, p1⟩
    | false => exact p1 M1 H1 false .refl so1 rfl⟩
theorem g_or (ha : PT X a (rdB X.K W p)) (hb : PW X (.BoolOp .Or (b :: rest) pos) (rdB X.K W q)) : PW X (.BoolOp .Or (a :: b :: rest) pos) (rdB X.K W (orB p q)) :=
  PW.imp (pw_or ha hb) fun σ H Q ⟨env, M, st, eo, so, po⟩ => ⟨env, M, st, eo, so, Post.imp (Post.bind (rep := fun _ _ a b => a = b) po) fun x H1 ⟨M1, st1, a, g, so1, ra, p1⟩ => by
    subst ra
    cases a with
    | false => exact ⟨env, M1, st1, eo.grow g, so1, p1⟩
    | true => exact p1 M1 H1 true .refl so1 rfl⟩
theorem g_tnot (ha : PT X a (rdB X.K W p)) : PT X (.UnaryOp .Not a pos) (rdB X.K W (notB p)) :=
  (pt_not ha).imp fun σ H Q ⟨env, M, st, eo, so, po⟩ => ⟨env, M, st, eo, so, Post.imp (Post.bind (rep := fun _ _ a b => a = b) po) fun x H1 ⟨M1, st1, a, g, so1, ra, p1⟩ => by
    subst ra
    exact p1 M1 H1 _ .refl so1 rfl⟩
theorem g_if {t : Expr} (ht : PT X t (rdB X.K W p)) (ha : PE X a (rdE X.K W fa)) (hb : PE X b (rdE X.K W fb)) : PE X (.IfExp t a b pos) (rdE X.K W (ifE p fa fb)) :=
  (pe_ifExp ht ha hb).imp fun σ H Q ⟨env, M, st, eo, so, po⟩ => ⟨env, M, st, eo, so, Post.imp (Post.bind (rep := fun _ _ a b => a = b) po) fun x H1 ⟨M1, st1, a, g, so1, ra, p1⟩ => by
    subst ra
    cases a with
    | true => exact ⟨env, M1, st1, eo.grow g, so1, p1⟩
    | false => exact ⟨env, M1, st1, eo.grow g, so1, p1⟩⟩
theorem g_one {op : BoolOp} (h : PE X a (rdE X.K W fa)) : PE X (.BoolOp op [a] pos) (rdE X.K W fa) := pe_one h
theorem g_vand (ha : PE X a (rdE X.K W fa)) (hb : PE X (.BoolOp .And (b :: rest) pos) (rdE X.K W fb)) : PE X (.BoolOp .And (a :: b :: rest) pos) (rdE X.K W (andE fa fb)) :=
  (pe_and ha hb).imp fun σ H Q ⟨env, M, st, eo, so, po⟩ => ⟨env, M, st, eo, so, Post.imp (Post.bind (rep := Rep X.K) po) fun x H1 ⟨M1, st1, a, g, so1, ra, p1⟩ => by
    cases a with
    | bl k =>
      unfold Rep at ra
      subst ra
      cases k with
      | true => exact ⟨true, rfl, env, M1, st1, eo.grow g, so1, p1⟩
      | false => exact ⟨false, rfl, p1 M1 H1 _ .refl so1 (rep_bl _ _ _)⟩
    | _ => exact p1.elim⟩
theorem g_vnot (ha : PE X a (rdE X.K W fa)) : PE X (.UnaryOp .Not a pos) (rdE X.K W (notE fa)) :=
  (pe_not ha).imp fun σ H Q ⟨env, M, st, eo, so, po⟩ => ⟨env, M, st, eo, so, Post.imp (Post.bind (rep := Rep X.K) po) fun x H1 ⟨M1, st1, a, g, so1, ra, p1⟩ => by
    cases a with
    | bl k =>
      unfold Rep at ra
      subst ra
      exact ⟨k, rfl, p1 M1 H1 _ .refl so1 (rep_bl _ _ _)⟩
    | _ => exact p1.elim⟩
theorem g_chain {op op' : CmpOp} {r r' : R2} {f f' : F2} {c : Expr} {fc : EvE} (h0 : PE X (.Compare a [op, op'] [b, c] pos) (tChain r r' (rdE X.K W fa) (rdE X.K W fb) (rdE X.K W fc))) (hv : OpV X.K r f) (hv' : OpV X.K r' f') :
    PE X (.Compare a [op, op'] [b, c] pos) (rdE X.K W (chainE f f' fa fb fc)) :=
  h0.imp fun σ H Q ⟨env, M, st, eo, so, p⟩ => ⟨env, M, st, eo, so, Post.imp (Post.bind p) fun x H1 ⟨M1, st1, a, g, so1, ra, p1⟩ =>
    ⟨env, M1, st1, eo.grow g, so1, Post.imp (Post.bind p1) fun y H2 ⟨M2, st2, b, g2, so2, rb, p2⟩ => hv a b x y M2 H2 st2 _ _ (ra.grow g2) rb so2 (Post.imp (Post.bind (rep := Rep X.K) p2) fun z H3 ⟨M3, st3, zd, g3, so3, rz, p3⟩ => by
      cases zd with
      | bl k =>
        unfold Rep at rz
        subst rz
        cases k with
        | true => exact ⟨true, rfl, iteT ⟨env, M3, st3, (eo.grow g).grow (g2.trans g3), so3, Post.imp (Post.bind p3) fun w H4 ⟨M4, st4, cd, g4, so4, rc, p4⟩ => hv' b cd y w M4 H4 st4 _ _ (rb.grow (g3.trans g4)) rc so4 p4⟩⟩
        | false => exact ⟨false, rfl, iteF (p3 M3 H3 _ .refl so3 (rep_bl _ _ _))⟩
      | _ => exact p3.elim)⟩⟩
end
def nilA : EvA := fun _ st => .ok [] st
def consA (fa : EvE) (fr : EvA) : EvA := fun env st => (fa env st).bind fun a st1 => (fr env st1).bind fun as st2 => .ok (a :: as) st2
def itemsOf : D → Option (List D)
  | .tup xs => some xs
  | .lst xs => some xs
  | .slo xs => some xs
  | _ => none
def starA (fa : EvE) (fr : EvA) : EvA := fun env st => (fa env st).bind fun a st1 => match itemsOf a with
  | some xs => (fr env st1).bind fun as st2 => .ok (xs ++ as) st2
  | none => .fail
def tupE (fs : EvA) : EvE := fun env st => (fs env st).bind fun xs st1 => if xs.length ≤ 16777216 then .ok (.tup xs) st1 else .fail
def lstE (fs : EvA) : EvE := fun env st => (fs env st).bind fun xs st1 => if xs.length ≤ 16777216 then .ok (.lst xs) st1 else .fail
def mutE (fs : EvA) : EvE := fun env st => (fs env st).bind fun xs st1 => if xs.length ≤ 16777216 then .ok (.mut st1.length) (st1 ++ [.lst xs]) else .fail
section
variable {X : Cx} {W : WX} {e : Expr} {es : List Expr} {fa : EvE} {fs : EvA} {pos p : Pos}
theorem g_nil : PA X [] (rdA X.K W nilA) := pa_nil.imp fun σ H Q ⟨env, M, st, eo, so, p⟩ => p M H [] .refl so .nil
theorem g_cons (ha : PE X e (rdE X.K W fa)) (hr : PA X es (rdA X.K W fs)) (hs : starEach (e :: es) X.env = (false, eval e X.env) :: starEach es X.env) : PA X (e :: es) (rdA X.K W (consA fa fs)) :=
  (pa_cons ha hr hs).imp fun σ H Q ⟨env, M, st, eo, so, p⟩ => ⟨env, M, st, eo, so, Post.imp (Post.bind p) fun x H1 ⟨M1, st1, a, g, so1, ra, p1⟩ =>
    ⟨env, M1, st1, eo.grow g, so1, Post.imp (Post.bind (rep := RepL X.K) p1) fun y H2 ⟨M2, st2, b, g2, so2, rb, p2⟩ => p2 M2 H2 _ .refl so2 (.cons (ra.grow g2) rb)⟩⟩
theorem itemsOf_rep {K : PySem.W.Frag} {M : Mem} {H : Hp} {a : D} {xs : List D} {v : V} (h : itemsOf a = some xs) (r : Rep K M H a v) : ∃ t vs, v = .ref t ∧ (SqT K H t vs ∨ SqL K H t vs) ∧ RepL K M H xs vs := by
  cases a with
  | tup ys => cases h; unfold Rep at r; obtain ⟨t, vs, e, f, q⟩ := r; exact ⟨t, vs, e, .inl f.sq, q⟩
  | lst ys => cases h; unfold Rep at r; obtain ⟨t, vs, e, f, q⟩ := r; exact ⟨t, vs, e, .inr f.sq, q⟩
  | slo ys => cases h; unfold Rep at r; obtain ⟨t, vs, e, f, q⟩ := r; exact ⟨t, vs, e, .inr f.sq, q⟩
  | _ => cases h
theorem g_star (ha : PE X e (rdE X.K W fa)) (hr : PA X es (rdA X.K W fs)) (hs : starEach (.Starred e p :: es) X.env = (true, eval e X.env) :: starEach es X.env) : PA X (.Starred e p :: es) (rdA X.K W (starA fa fs)) :=
  (StX.pa_star ha hr hs).imp fun σ H Q ⟨env, M, st, eo, so, p⟩ => ⟨env, M, st, eo, so, Post.imp (Post.bind p) fun x H1 ⟨M1, st1, a, g, so1, ra, p1⟩ => by
    cases h : itemsOf a with
    | none => rw [h] at p1; exact p1.elim
    | some xs =>
      rw [h] at p1
      obtain ⟨t, vs, rfl, sq, q⟩ := itemsOf_rep h ra
      exact ⟨t, vs, rfl, sq, env, M1, st1, eo.grow g, so1, Post.imp (Post.bind (rep := RepL X.K) p1) fun y H2 ⟨M2, st2, b, g2, so2, rb, p2⟩ => p2 M2 H2 _ .refl so2 ((q.grow g2).append rb)⟩⟩
theorem size_le {n : Nat} (h : n ≤ 16777216) : n ≤ sizeLine := by rw [sizeLine_eq]; exact h
theorem rep_tup {K : PySem.W.Frag} {M : Mem} {H : Hp} {st : Sto} {xs : List D} {vs : List V} {p : Addr} (so : StOk K M H st) (r : RepL K M H xs vs) (hp : H p = none) : Rep K M (upd H p (.tup vs)) (.tup xs) (.ref p) := by
  unfold Rep
  exact ⟨p, vs, rfl, ⟨upd_same, so.notin hp⟩, r.grow (.laid so hp)⟩
theorem rep_lst {K : PySem.W.Frag} {M : Mem} {H : Hp} {st : Sto} {xs : List D} {vs : List V} {p : Addr} (so : StOk K M H st) (r : RepL K M H xs vs) (hp : H p = none) : Rep K M (upd H p (.lst vs)) (.lst xs) (.ref p) := by
  unfold Rep
  exact ⟨p, vs, rfl, ⟨upd_same, so.notin hp⟩, r.grow (.laid so hp)⟩
theorem rep_mut {K : PySem.W.Frag} {M : Mem} {H : Hp} {st : Sto} {p : Addr} (so : StOk K M H st) {H' : Hp} : Rep K (M.push p) H' (.mut st.length) (.ref p) := by
  unfold Rep
  refine ⟨p, rfl, ?_⟩
  show (M.m ++ [p])[st.length]? = some p
  rw [← so.len, List.getElem?_append_right (Nat.le_refl _)]; simp
theorem g_tup {x1} (h : PA X es (rdA X.K W fs)) : PE X (.Tuple es x1 pos) (rdE X.K W (tupE fs)) :=
  (pe_tup h).imp fun σ H Q ⟨env, M, st, eo, so, p⟩ => ⟨env, M, st, eo, so, Post.imp (Post.bind p) fun vs H1 ⟨M1, st1, xs, g, so1, ra, p1⟩ => by
    by_cases hz : xs.length ≤ 16777216
    · rw [if_pos hz] at p1
      exact ⟨by rw [← ra.length]; exact size_le hz, fun a ha => p1 _ _ _ (.laid so1 ha) (so1.laid ha) (rep_tup so1 ra ha)⟩
    · rw [if_neg hz] at p1; exact p1.elim⟩
theorem g_lst (h : PA X es (rdA X.K W fs)) : PE X (.List es pos) (rdE X.K W (lstE fs)) :=
  (pe_lst h).imp fun σ H Q ⟨env, M, st, eo, so, p⟩ => ⟨env, M, st, eo, so, Post.imp (Post.bind p) fun vs H1 ⟨M1, st1, xs, g, so1, ra, p1⟩ => by
    by_cases hz : xs.length ≤ 16777216
    · rw [if_pos hz] at p1
      exact ⟨by rw [← ra.length]; exact size_le hz, fun a ha => p1 _ _ _ (.laid so1 ha) (so1.laid ha) (rep_lst so1 ra ha)⟩
    · rw [if_neg hz] at p1; exact p1.elim⟩
theorem g_mut (h : PA X es (rdA X.K W fs)) : PE X (.List es pos) (rdE X.K W (mutE fs)) :=
  (pe_lst h).imp fun σ H Q ⟨env, M, st, eo, so, p⟩ => ⟨env, M, st, eo, so, Post.imp (Post.bind p) fun vs H1 ⟨M1, st1, xs, g, so1, ra, p1⟩ => by
    by_cases hz : xs.length ≤ 16777216
    · rw [if_pos hz] at p1
      exact ⟨by rw [← ra.length]; exact size_le hz, fun a ha => p1 _ _ _ (.push so1 ha) (so1.pushL ha ra) (rep_mut so1)⟩
    · rw [if_neg hz] at p1; exact p1.elim⟩
abbrev FA := List D → Sto → R D
def callE (f : FA) (fs : EvA) : EvE := fun env st => (fs env st).bind f
def CallV (K : PySem.W.Frag) (r : List V → Hp → VK → Prop) (f : FA) : Prop := ∀ (as : List D) (xs : List V) (M : Mem) (H : Hp) (st : Sto) (Q : VK) (E : XK), RepL K M H as xs → StOk K M H st → Post K (Rep K) M H Q E (f as st) → r xs H Q
theorem rd_call {r : List V → Hp → VK → Prop} {f : FA} (hv : CallV X.K r f) : ∀ σ H Q, rdE X.K W (callE f fs) σ H Q → tCB r (rdA X.K W fs) σ H Q :=
  fun σ H Q ⟨env, M, st, eo, so, p⟩ => ⟨env, M, st, eo, so, Post.imp (Post.bind p) fun x H1 ⟨M1, st1, a, g, so1, ra, p1⟩ => hv a x M1 H1 st1 Q _ ra so1 p1⟩
end
end G
namespace G
open PySem PySem.Spec PySem.W L2 PyProof.Rows
section
variable {prog : Program} {w : World} {A : Around} {E : Value → Shared → Prop} {s : Shared} {l : Addr} {its : List Value} {ns : List Int} {Q : Value → Shared → Prop}
theorem iter_tupR {items : Array Value} (hl : s.heap.IsTuple l items)
    (h : ∀ s₂ : Shared, s₂ = { s with heap := s.heap.push { cls := .type "tuple_iterator", data := .fields #[.ref l, .int 0 0] } } →
      (s₂.heap.IsTupleIter s.heap.objs.size l 0 ∧ s₂.heap.IsTuple l items) → l ≠ s.heap.objs.size → (∀ b ∈ [s.heap.objs.size, l], b < s₂.heap.objs.size) → Q (.ref s.heap.objs.size) s₂) : wpAny (model prog w) A (pyIter (.ref l)) Q E s := by
  have hlt : l < s.heap.objs.size := by obtain ⟨_, e, _⟩ := hl; exact Heap.lt_size e
  refine wpAny_pyIter_tuple hl (h _ rfl ⟨⟨_, Heap.get?_push_size _ rfl, rfl, rfl⟩, hl.at fun o e => Heap.get?_push_of_some _ e⟩ (Nat.ne_of_lt hlt) fun b hb => ?_)
  show b < (s.heap.push _).objs.size
  rw [Heap.size_push]
  rcases List.mem_cons.mp hb with rfl | hb
  · exact Nat.lt_succ_self _
  · rcases List.mem_cons.mp hb with rfl | hb
    · exact Nat.lt_succ_of_lt hlt
    · cases hb
theorem sum_rawT (hh : A.handled = none) (hl : s.heap.IsTuple l its.toArray) (hi : IntsAre its ns)
    (h : ∀ h' tk t', (∀ b o, s.heap.get? b = some o → h'.get? b = some o) → Q (.int ns.sum t') { s with heap := h', toks := tk }) : wpAny (model prog w) A (call (.builtin "sum") [.ref l]) Q E s := by
  obtain ⟨xs, e⟩ := hi.allInts.items
  have hn : numsOf (intItems xs).toList = ns := by rw [← e]; exact hi.numsOf
  rw [nums_intItems] at hn
  rw [e] at hl
  refine PySem.W.ktm_sumG hh hl fun h' tk t' hk => ?_
  have := h h' tk t' hk
  rw [preSum_eq, List.take_of_length_le (by simp), hn]; exact this
theorem old_of {s₂ : Shared} {o : Obj} {h' : Heap} (e : s₂ = { s with heap := s.heap.push o }) (hk : ∀ b o, b ∉ [s.heap.objs.size] → s₂.heap.get? b = some o → h'.get? b = some o) : ∀ b o, s.heap.get? b = some o → h'.get? b = some o := by
  intro b ob eb
  subst e
  exact hk b ob (fun hmem => absurd (Heap.lt_size eb) ((List.mem_singleton.mp hmem) ▸ Nat.lt_irrefl _)) (Heap.get?_push_of_some _ eb)
theorem max_rawT (hh : A.handled = none) (hl : s.heap.IsTuple l its.toArray) (hi : IntsAre its ns) (hne : 0 < ns.length)
    (h : ∀ h' tk M t', (∀ b o, s.heap.get? b = some o → h'.get? b = some o) → M ∈ ns → (∀ a, a ∈ ns → a ≤ M) → Q (.int M t') { s with heap := h', toks := tk }) : wpAny (model prog w) A (call (.builtin "max") [.ref l]) Q E s := by
  obtain ⟨xs, e⟩ := hi.allInts.items
  have hn : numsOf (intItems xs).toList = ns := by rw [← e]; exact hi.numsOf
  rw [nums_intItems] at hn
  subst hn
  rw [e] at hl
  have hsz : 0 < xs.size := by simpa using hne
  refine call_max_walk (iter_tupR hl fun s₂ e2 st hlI hfp => ?_)
  subst e2
  refine ⟨_, _, _, _, _, _, _, rfl, Walks.tuple (A := A.in1) hh _ l hlI (intItems xs), st, hfp, by simpa [intItems] using hsz, CmpOf.ints_gt (numAt xs) (fun _ _ => intItems_at), fun v h' tk hP hk => ?_⟩
  have hv : (intItems xs)[argBest (fun i j => decide (numAt xs i > numAt xs j)) (xs.size - 1)]? = some v := by simpa [intItems] using hP
  obtain ⟨t, rfl⟩ := intItems_at hv
  obtain ⟨h1, h2⟩ := argBest_gt (numAt xs) (xs.size - 1)
  refine h h' tk _ t (old_of rfl hk) ?_ fun a ha => ?_
  · rw [numAt_eq]; exact PySem.getD_mem (by rw [List.length_map, Array.length_toList]; omega)
  · obtain ⟨j, hj, rfl⟩ := mem_getD ha
    rw [List.length_map, Array.length_toList] at hj
    rw [← numAt_eq]; exact h2 j (by omega)
theorem min_rawT (hh : A.handled = none) (hl : s.heap.IsTuple l its.toArray) (hi : IntsAre its ns) (hne : 0 < ns.length)
    (h : ∀ h' tk M t', (∀ b o, s.heap.get? b = some o → h'.get? b = some o) → M ∈ ns → (∀ a, a ∈ ns → M ≤ a) → Q (.int M t') { s with heap := h', toks := tk }) : wpAny (model prog w) A (call (.builtin "min") [.ref l]) Q E s := by
  obtain ⟨xs, e⟩ := hi.allInts.items
  have hn : numsOf (intItems xs).toList = ns := by rw [← e]; exact hi.numsOf
  rw [nums_intItems] at hn
  subst hn
  rw [e] at hl
  have hsz : 0 < xs.size := by simpa using hne
  refine call_min_walk (iter_tupR hl fun s₂ e2 st hlI hfp => ?_)
  subst e2
  refine ⟨_, _, _, _, _, _, _, rfl, Walks.tuple (A := A.in1) hh _ l hlI (intItems xs), st, hfp, by simpa [intItems] using hsz, CmpOf.ints_lt (numAt xs) (fun _ _ => intItems_at), fun v h' tk hP hk => ?_⟩
  have hv : (intItems xs)[argBest (fun i j => decide (numAt xs i < numAt xs j)) (xs.size - 1)]? = some v := by simpa [intItems] using hP
  obtain ⟨t, rfl⟩ := intItems_at hv
  obtain ⟨h1, h2⟩ := argBest_lt (numAt xs) (xs.size - 1)
  refine h h' tk _ t (old_of rfl hk) ?_ fun a ha => ?_
  · rw [numAt_eq]; exact PySem.getD_mem (by rw [List.length_map, Array.length_toList]; omega)
  · obtain ⟨j, hj, rfl⟩ := mem_getD ha
    rw [List.length_map, Array.length_toList] at hj
    rw [← numAt_eq]; exact h2 j (by omega)
end
section
variable {X : Cx}
theorem tup_is {s : Shared} {a : Addr} {its : List Value} (h : IsTup s.heap a its.toArray) : s.heap.IsTuple a its.toArray := h
def SqB (K : PySem.W.Frag) (H : Hp) (a : Addr) (xs : List V) : Prop := SqL K H a xs ∨ SqT K H a xs
def qSum (K : PySem.W.Frag) : List V → Hp → VK → Prop := fun vs H Q => ∃ (a : Addr) (ns : List Int), vs = [V.ref a] ∧ SqB K H a (ns.map V.int) ∧ Q (.int ns.sum) H
def qAny (K : PySem.W.Frag) : List V → Hp → VK → Prop := fun vs H Q => ∃ (a : Addr) (bs : List Bool), vs = [V.ref a] ∧ SqB K H a (bs.map V.bl) ∧ Q (.bl (bs.any id)) H
def qAll (K : PySem.W.Frag) : List V → Hp → VK → Prop := fun vs H Q => ∃ (a : Addr) (bs : List Bool), vs = [V.ref a] ∧ SqB K H a (bs.map V.bl) ∧ Q (.bl (bs.all id)) H
def qMax (K : PySem.W.Frag) : List V → Hp → VK → Prop := fun vs H Q => ∃ (a : Addr) (ns : List Int), vs = [V.ref a] ∧ SqB K H a (ns.map V.int) ∧ 0 < ns.length ∧ ∀ m, m ∈ ns → (∀ y, y ∈ ns → y ≤ m) → Q (.int m) H
def qMin (K : PySem.W.Frag) : List V → Hp → VK → Prop := fun vs H Q => ∃ (a : Addr) (ns : List Int), vs = [V.ref a] ∧ SqB K H a (ns.map V.int) ∧ 0 < ns.length ∧ ∀ m, m ∈ ns → (∀ y, y ∈ ns → m ≤ y) → Q (.int m) H
theorem cq_sum (hc : X.calm = true) : CallR X (.builtin "sum") (qSum X.K) := by
  intro pins s σ H vs us Q I r h
  obtain ⟨a, ns, rfl, hs | hs, q⟩ := h
  · exact cr_sum hc pins s σ H _ us Q I r ⟨a, ns, rfl, hs, q⟩
  · obtain ⟨its, rv, hl, _⟩ := I.tuple hs
    rw [Vals.ref1 r]
    exact sum_rawT (I.ok.hd hc) (tup_is hl) rv.ints fun h' tk t' hk => ⟨.int _, H, I.kept hk, ⟨_, rfl⟩, q⟩
theorem cq_max (hc : X.calm = true) : CallR X (.builtin "max") (qMax X.K) := by
  intro pins s σ H vs us Q I r h
  obtain ⟨a, ns, rfl, hs | hs, hne, q⟩ := h
  · exact cr_max hc pins s σ H _ us Q I r ⟨a, ns, rfl, hs, hne, q⟩
  · obtain ⟨its, rv, hl, _⟩ := I.tuple hs
    rw [Vals.ref1 r]
    exact max_rawT (I.ok.hd hc) (tup_is hl) rv.ints hne fun h' tk m t' hk h1 h2 => ⟨.int _, H, I.kept hk, ⟨_, rfl⟩, q m h1 h2⟩
theorem cq_min (hc : X.calm = true) : CallR X (.builtin "min") (qMin X.K) := by
  intro pins s σ H vs us Q I r h
  obtain ⟨a, ns, rfl, hs | hs, hne, q⟩ := h
  · exact cr_min hc pins s σ H _ us Q I r ⟨a, ns, rfl, hs, hne, q⟩
  · obtain ⟨its, rv, hl, _⟩ := I.tuple hs
    rw [Vals.ref1 r]
    exact min_rawT (I.ok.hd hc) (tup_is hl) rv.ints hne fun h' tk m t' hk h1 h2 => ⟨.int _, H, I.kept hk, ⟨_, rfl⟩, q m h1 h2⟩
theorem cq_any (hc : X.calm = true) : CallR X (.builtin "any") (qAny X.K) := by
  intro pins s σ H vs us Q I r h
  obtain ⟨a, bs, rfl, hs | hs, q⟩ := h
  · exact cr_any hc pins s σ H _ us Q I r ⟨a, bs, rfl, hs, q⟩
  · obtain ⟨its, rv, hl, _⟩ := I.tuple hs
    rw [Vals.ref1 r]
    have hb := rv.bls
    refine call_any_walk (iter_tupR (tup_is hl) fun s₂ e2 st hne _ => ?_)
    subst e2
    refine ⟨_, _, _, _, _, _, _, rfl, Walks.tuple (A := X.A.in1) (I.ok.hd hc) _ a hne its.toArray, st, truth_bools hb, fun h' tk hk => ?_⟩
    refine ⟨.bl _, H, I.kept (old_of rfl hk), ?_, q⟩
    show Value.bool _ = Value.bool _
    rw [← L2.any_range, hb, List.size_toArray, List.length_map]
theorem cq_all (hc : X.calm = true) : CallR X (.builtin "all") (qAll X.K) := by
  intro pins s σ H vs us Q I r h
  obtain ⟨a, bs, rfl, hs | hs, q⟩ := h
  · exact cr_all hc pins s σ H _ us Q I r ⟨a, bs, rfl, hs, q⟩
  · obtain ⟨its, rv, hl, _⟩ := I.tuple hs
    rw [Vals.ref1 r]
    have hb := rv.bls
    refine call_all_walk (iter_tupR (tup_is hl) fun s₂ e2 st hne _ => ?_)
    subst e2
    refine ⟨_, _, _, _, _, _, _, rfl, Walks.tuple (A := X.A.in1) (I.ok.hd hc) _ a hne its.toArray, st, truth_bools hb, fun h' tk hk => ?_⟩
    refine ⟨.bl _, H, I.kept (old_of rfl hk), ?_, q⟩
    show Value.bool _ = Value.bool _
    rw [← L2.all_range, hb, List.size_toArray, List.length_map]
end
end G
namespace G
open PySem PySem.Spec PyProof.Rows L2
theorem tuple_mul_self (l : Addr) (items : Array Value) (n : Nat) (dd : Option Addr) (sl : Array (Option Value)) (x : Int) (u : Tok) (c0 : (decide (x < -(2 ^ 63)) || decide (x ≥ 2 ^ 63)) = false) (c1 : (items.isEmpty || x == 1) = true) :
    Meets (Builtin.«tuple.__mul__» ⟨[.ref l, .int x u], []⟩) (fun _ R s => s.heap.get? l = some { cls := .type "tuple", dict := dd, data := .seq items n, slots := sl } ∧ R (.ok (.ret (Value.ref l))) s) :=
  .of_wp fun prog w A R s h => by
    obtain ⟨hp, g, d, tk, os⟩ := s
    obtain ⟨hl, h⟩ := h
    have f1 := AutoSeq1.idx_int
    wp_walk using wpAny_loadPart' hl
    repeat (first
      | (refine wpAny_ite_false (decide_eq_false (by rw [c0]; exact Bool.false_ne_true)) ?_; wp_walk using wpAny_loadPart' hl)
      | (refine wpAny_ite_true (decide_eq_true (by rw [c1])) ?_; wp_walk using wpAny_loadPart' hl))
    exact ⟨_, rfl, h⟩
theorem tuple_mul_nil (l : Addr) (items : Array Value) (n : Nat) (dd : Option Addr) (sl : Array (Option Value)) (x : Int) (u : Tok) (c0 : (decide (x < -(2 ^ 63)) || decide (x ≥ 2 ^ 63)) = false) (c1 : (items.isEmpty || x == 1) = false) (c2 : (decide (x ≤ 0) || items.isEmpty) = true) :
    Meets (Builtin.«tuple.__mul__» ⟨[.ref l, .int x u], []⟩) (fun _ R s => s.heap.get? l = some { cls := .type "tuple", dict := dd, data := .seq items n, slots := sl } ∧
      R (.ok (.ret (Value.ref s.heap.objs.size))) { s with heap := s.heap.push { cls := Value.type "tuple", data := Data.seq #[] }, toks := s.toks }) :=
  .of_wp fun prog w A R s h => by
    obtain ⟨hp, g, d, tk, os⟩ := s
    obtain ⟨hl, h⟩ := h
    have f1 := AutoSeq1.idx_int
    wp_walk using wpAny_loadPart' hl
    repeat (first
      | (refine wpAny_ite_false (decide_eq_false (by rw [c0]; exact Bool.false_ne_true)) ?_; wp_walk using wpAny_loadPart' hl)
      | (refine wpAny_ite_false (decide_eq_false (by rw [c1]; exact Bool.false_ne_true)) ?_; wp_walk using wpAny_loadPart' hl)
      | (refine wpAny_ite_true (decide_eq_true (by rw [c2])) ?_; wp_walk using wpAny_loadPart' hl))
    exact ⟨_, rfl, h⟩
def rRepT1 (K : PySem.W.Frag) : R2 := fun x y H Q => ∃ l k xs, x = .ref l ∧ y = .int k ∧ SqT K H l xs ∧ k.natAbs < 2 ^ 62 ∧ ((xs = [] ∨ k = 1) ∧ Q (.ref l) H ∨ (xs ≠ [] ∧ k ≤ 0) ∧ ∀ p, H p = none → Q (.ref p) (upd H p (.tup [])))
theorem op_repT1 {X : Cx} : OpR X (binaryOp .Mult) (rRepT1 X.K) := by
  intro pins s σ H x y v u Q I rx ry h
  obtain ⟨l, k, xs, rfl, rfl, hT, hk, q⟩ := h
  cases rx
  obtain ⟨t, rfl⟩ := ry
  obtain ⟨its, r, ⟨⟨cls, dd, data, sl⟩, ho, hc, n, hd⟩, hs⟩ := I.tuple hT
  simp only at hc hd
  subst hc hd
  have hle : its.length = xs.length := r.length.symm
  have c0 : (decide (k < -(2 ^ 63)) || decide (k ≥ 2 ^ 63)) = false := by
    rw [decide_eq_false (by omega), decide_eq_false (by omega)] <;> rfl
  rcases q with ⟨hc, q⟩ | ⟨⟨hne, hk0⟩, q⟩
  · have c1 : (its.toArray.isEmpty || k == 1) = true := by
      rcases hc with hc | hc
      · subst hc
        have : its = [] := List.eq_nil_of_length_eq_zero hle
        subst this; rfl
      · subst hc; simp
    refine wpAny_binaryOp_repeat_ref (T := "tuple") (U := "int") (by decide) ⟨_, ho, rfl⟩ (fun s' => typeIs_int s' k t) noFill_tuple_mul F.fills_int_mul F.slot_int_rmul repeat_tuple F.slot_int_index.lookup
      (call_meets F.slot_int_rmul (typeIs_int s k t) F.entry_int_rmul (F.args_int_rmul_2 _ _) (int_rmul_tuple k t l its.toArray n dd sl)
        ⟨ho, rfl, ⟨_, ho, rfl⟩, call_meets F.slot_tuple_mul ⟨_, ho, rfl⟩ F.entry_tuple_mul (F.args_tuple_mul_2 _ _) (tuple_mul_self l its.toArray n dd sl k t c0 c1) ⟨ho, ?_⟩⟩)
    exact ⟨.ref l, H, I, rfl, q⟩
  · have hn : its ≠ [] := fun e => hne (by
      rw [e] at hle
      exact List.eq_nil_of_length_eq_zero hle.symm)
    have hi : its.toArray.isEmpty = false := by
      cases its with
      | nil => exact absurd rfl hn
      | cons a b => rfl
    have c1 : (its.toArray.isEmpty || k == 1) = false := by
      rw [hi, Bool.false_or]
      exact beq_eq_false_iff_ne.mpr (by omega)
    have c2 : (decide (k ≤ 0) || its.toArray.isEmpty) = true := by rw [decide_eq_true hk0]; rfl
    refine wpAny_binaryOp_repeat_ref (T := "tuple") (U := "int") (by decide) ⟨_, ho, rfl⟩ (fun s' => typeIs_int s' k t) noFill_tuple_mul F.fills_int_mul F.slot_int_rmul repeat_tuple F.slot_int_index.lookup
      (call_meets F.slot_int_rmul (typeIs_int s k t) F.entry_int_rmul (F.args_int_rmul_2 _ _) (int_rmul_tuple k t l its.toArray n dd sl)
        ⟨ho, rfl, ⟨_, ho, rfl⟩, call_meets F.slot_tuple_mul ⟨_, ho, rfl⟩ F.entry_tuple_mul (F.args_tuple_mul_2 _ _) (tuple_mul_nil l its.toArray n dd sl k t c0 c1 c2) ⟨ho, ?_⟩⟩)
    refine ⟨.ref s.heap.objs.size, _, I.laid (t' := s.toks) (o := .tup []) (fun b ob q => Heap.get?_push_of_some _ q) (Nat.le_refl _) ?_, rfl, q _ (I.hok.fresh (Nat.le_refl _))⟩
    exact ⟨by show 0 ≤ sizeLine; exact Nat.zero_le _, [], .nil, IsTup.new _ _⟩
end G
namespace G
open PySem PySem.Spec PyProof.Rows L2
def big : Nat := 2 ^ 4000
theorem big_log {n : Nat} (h : n < big) : n.log2 < 4000 := PySem.Flt.log2_lt_of (by decide) h
mutual
def toPD : D → Option PyData
  | .non => some .none
  | .bl b => some (.bool b)
  | .int i => some (.int i)
  | .str x => some (.str x)
  | .tup xs => (toPDs xs).map .tuple
  | .lst xs => (toPDs xs).map .list
  | .slo xs => (toPDs xs).map .list
  | _ => none
def toPDs : List D → Option (List PyData)
  | [] => some []
  | x :: xs => match toPD x, toPDs xs with
    | some a, some b => some (a :: b)
    | _, _ => none
end
section
variable {K : PySem.W.Frag} {M : Mem} {H : Hp}
mutual
theorem toPD_rep : ∀ {d : D} {p : PyData} {v : V}, toPD d = some p → Rep K M H d v → Dp K H v p
  | .non, _, _, h, r => by unfold toPD at h; unfold Rep at r; cases h; subst r; exact .non
  | .bl _, _, _, h, r => by unfold toPD at h; unfold Rep at r; cases h; subst r; exact .bl _
  | .int _, _, _, h, r => by unfold toPD at h; unfold Rep at r; cases h; subst r; exact .int _
  | .str _, _, _, h, r => by unfold toPD at h; unfold Rep at r; cases h; subst r; exact .str _
  | .raw _, _, _, h, r => by unfold toPD at h; cases h
  | .dic, _, _, h, r => by unfold toPD at h; cases h
  | .fn _, _, _, h, r => by unfold toPD at h; cases h
  | .emp, _, _, h, r => by unfold toPD at h; cases h
  | .rg .., _, _, h, r => by unfold toPD at h; cases h
  | .exv .., _, _, h, r => by unfold toPD at h; cases h
  | .mut _, _, _, h, r => by unfold toPD at h; cases h
  | .tup xs, p, v, h, r => by
    unfold toPD at h; unfold Rep at r
    obtain ⟨a, vs, rfl, f, q⟩ := r
    cases e : toPDs xs with
    | none => rw [e] at h; cases h
    | some ps => rw [e] at h; cases h; exact .tup f.sq (toPDs_rep e q)
  | .lst xs, p, v, h, r => by
    unfold toPD at h; unfold Rep at r
    obtain ⟨a, vs, rfl, f, q⟩ := r
    cases e : toPDs xs with
    | none => rw [e] at h; cases h
    | some ps => rw [e] at h; cases h; exact .lst f.sq (toPDs_rep e q)
  | .slo xs, p, v, h, r => by
    unfold toPD at h; unfold Rep at r
    obtain ⟨a, vs, rfl, f, q⟩ := r
    cases e : toPDs xs with
    | none => rw [e] at h; cases h
    | some ps => rw [e] at h; cases h; exact .lst f.sq (toPDs_rep e q)
theorem toPDs_rep : ∀ {ds : List D} {ps : List PyData} {vs : List V}, toPDs ds = some ps → RepL K M H ds vs → DpAll K H vs ps
  | [], _, _, h, r => by unfold toPDs at h; unfold RepL at r; cases h; subst r; exact .nil
  | d :: ds, ps, vs, h, r => by
    unfold toPDs at h; unfold RepL at r
    obtain ⟨v, rr, rfl, r1, r2⟩ := r
    cases e1 : toPD d with
    | none => rw [e1] at h; cases h
    | some a =>
      cases e2 : toPDs ds with
      | none => rw [e1, e2] at h; cases h
      | some b => rw [e1, e2] at h; cases h; exact .cons (toPD_rep e1 r1) (toPDs_rep e2 r2)
end
end
def addD : F2 := fun a b st => match a, b with
  | .int i, .int j => .ok (.int (i + j)) st
  | .str x, .str y => if x.length + y.length ≤ 16777216 then .ok (.str (x ++ y)) st else .fail
  | .tup xs, .tup ys => if xs.length + ys.length ≤ 16777216 then .ok (.tup (xs ++ ys)) st else .fail
  | .lst xs, .lst ys => if xs.length + ys.length ≤ 16777216 then .ok (.lst (xs ++ ys)) st else .fail
  | .mut n, .lst ys => (match st[n]? with
    | some (.lst xs) => if xs.length + ys.length ≤ 16777216 then .ok (.lst (xs ++ ys)) st else .fail
    | _ => .fail)
  | .lst xs, .mut n => (match st[n]? with
    | some (.lst ys) => if xs.length + ys.length ≤ 16777216 then .ok (.lst (xs ++ ys)) st else .fail
    | _ => .fail)
  | _, _ => .fail
def subD : F2 := fun a b st => match a, b with
  | .int i, .int j => .ok (.int (i - j)) st
  | _, _ => .fail
def mulOk (i j : Int) : Prop := i.natAbs < 2 ^ 64 ∨ j.natAbs < 2 ^ 64 ∨ (i.natAbs < big ∧ j.natAbs < big)
instance (i j : Int) : Decidable (mulOk i j) := by unfold mulOk; infer_instance
def mulD : F2 := fun a b st => match a, b with
  | .int i, .int j => if mulOk i j then .ok (.int (i * j)) st else .fail
  | .lst xs, .int k => if k.natAbs < 2 ^ 62 ∧ xs.length * k.toNat ≤ 16777216 then .ok (.lst (List.replicate k.toNat xs).flatten) st else .fail
  | .tup xs, .int k => if xs ≠ [] ∧ 2 ≤ k ∧ k ≤ 1000 ∧ xs.length ≤ 1000 then .ok (.tup (List.replicate k.toNat xs).flatten) st else if (xs = [] ∨ k = 1) ∧ k.natAbs < 2 ^ 62 then .ok (.tup xs) st else if (xs ≠ [] ∧ k ≤ 0) ∧ k.natAbs < 2 ^ 62 then .ok (.tup []) st else .fail
  | _, _ => .fail
def fdivD : F2 := fun a b st => match a, b with
  | .int i, .int j => if 0 < j ∧ j.natAbs < big then .ok (.int (i / j)) st else .fail
  | _, _ => .fail
def modD : F2 := fun a b st => match a, b with
  | .int i, .int j => if 0 < j then .ok (.int (i % j)) st else .fail
  | _, _ => .fail
def powD : F2 := fun a b st => match a, b with
  | .int i, .int j => if 0 ≤ j ∧ j ≤ 1000000 ∧ i.natAbs < 2 ^ 64 then .ok (.int (i ^ j.toNat)) st else .fail
  | _, _ => .fail
def negD : F1 := fun a st => match a with
  | .int i => .ok (.int (-i)) st
  | _ => .fail
def cmpI (f : Int → Int → Bool) : F2 := fun a b st => match a, b with
  | .int i, .int j => .ok (.bl (f i j)) st
  | _, _ => .fail
def intsOf : List D → Option (List Int)
  | [] => some []
  | .int i :: r => (intsOf r).map (i :: ·)
  | _ => none
def lexLe : List Int → List Int → Bool
  | [], _ => true
  | _ :: _, [] => false
  | a :: x, b :: y => if a = b then lexLe x y else decide (a ≤ b)
def ltD : F2 := fun a b st => match a, b with
  | .int i, .int j => .ok (.bl (decide (i < j))) st
  | .tup xs, .tup ys => match intsOf xs, intsOf ys with
    | some ns, some ms => .ok (.bl (HT.lexLt ns ms)) st
    | _, _ => .fail
  | _, _ => .fail
def leD : F2 := fun a b st => match a, b with
  | .int i, .int j => .ok (.bl (decide (i ≤ j))) st
  | .tup xs, .tup ys => match intsOf xs, intsOf ys with
    | some ns, some ms => .ok (.bl (lexLe ns ms)) st
    | _, _ => .fail
  | _, _ => .fail
def gtD : F2 := cmpI fun i j => decide (j < i)
def geD : F2 := cmpI fun i j => decide (j ≤ i)
def scalD : D → D → Option Bool
  | .non, .non => some true
  | .int i, .int j => some (decide (i = j))
  | .bl i, .bl j => some (decide (i = j))
  | .str i, .str j => some (decide (i = j))
  | .non, .int _ => some false | .int _, .non => some false
  | .non, .bl _ => some false | .bl _, .non => some false
  | .non, .str _ => some false | .str _, .non => some false
  | .int _, .str _ => some false | .str _, .int _ => some false
  | .bl _, .str _ => some false | .str _, .bl _ => some false
  | _, _ => none
def eqO (a b : D) : Option Bool := match scalD a b with
  | some k => some k
  | none => match toPD a, toPD b with
    | some x, some y => if SeqAt.shaped x = true ∧ SeqAt.shaped y = true then some (PyData.eqv x y) else none
    | _, _ => none
def eqD : F2 := fun a b st => match eqO a b with
  | some k => .ok (.bl k) st
  | none => .fail
def isNon : D → Option Bool
  | .non => some true
  | .mut _ => some false
  | .raw _ => none
  | .exv .. => none
  | _ => some false
def isND : F2 := fun a b st => match b, isNon a with
  | .non, some k => .ok (.bl k) st
  | _, _ => .fail
section
variable {K : PySem.W.Frag} {M : Mem} {H : Hp}
theorem rep_int_iff {i : Int} {v : V} : Rep K M H (.int i) v ↔ v = .int i := by unfold Rep; exact Iff.rfl
theorem intsOf_rep : ∀ {ds : List D} {ns : List Int} {vs : List V}, intsOf ds = some ns → RepL K M H ds vs → vs = ns.map V.int
  | [], _, _, h, r => by unfold intsOf at h; unfold RepL at r; cases h; subst r; rfl
  | .int i :: ds, ns, vs, h, r => by
    unfold intsOf at h; unfold RepL at r
    obtain ⟨v, rr, rfl, r1, r2⟩ := r
    rw [rep_int_iff] at r1
    subst r1
    cases e : intsOf ds with
    | none => rw [e] at h; cases h
    | some ms => rw [e] at h; cases h; rw [intsOf_rep e r2]; rfl
  | .non :: ds, ns, vs, h, r => by unfold intsOf at h; cases h
  | .bl _ :: ds, ns, vs, h, r => by unfold intsOf at h; cases h
  | .str _ :: ds, ns, vs, h, r => by unfold intsOf at h; cases h
  | .raw _ :: ds, ns, vs, h, r => by unfold intsOf at h; cases h
  | .dic :: ds, ns, vs, h, r => by unfold intsOf at h; cases h
  | .fn _ :: ds, ns, vs, h, r => by unfold intsOf at h; cases h
  | .emp :: ds, ns, vs, h, r => by unfold intsOf at h; cases h
  | .rg .. :: ds, ns, vs, h, r => by unfold intsOf at h; cases h
  | .exv .. :: ds, ns, vs, h, r => by unfold intsOf at h; cases h
  | .tup _ :: ds, ns, vs, h, r => by unfold intsOf at h; cases h
  | .lst _ :: ds, ns, vs, h, r => by unfold intsOf at h; cases h
  | .slo _ :: ds, ns, vs, h, r => by unfold intsOf at h; cases h
  | .mut _ :: ds, ns, vs, h, r => by unfold intsOf at h; cases h
@[simp] theorem intsOf_map : ∀ ns : List Int, intsOf (ns.map D.int) = some ns
  | [] => rfl
  | n :: ns => by show (intsOf (ns.map D.int)).map (n :: ·) = some (n :: ns); rw [intsOf_map ns]; rfl
end
section
variable {X : Cx} {K : PySem.W.Frag}
def rOr (r r' : R2) : R2 := fun x y H Q => r x y H Q ∨ r' x y H Q
theorem v_add : OpV K (rOr (rI0 fun i j => .int (i + j)) (rOr (fun x y H Q => ∃ i j, x = .str i ∧ y = .str j ∧ i.length + j.length ≤ sizeLine ∧ Q (.str (i ++ j)) H) (rOr (rCatA K) rCat))) addD := by
  intro a b x y M H st Q E ra rb so p
  unfold addD at p
  split at p
  · unfold Rep at ra rb; subst ra rb
    exact .inl ⟨_, _, rfl, rfl, p M H _ .refl so (rep_int _ _ _)⟩
  · unfold Rep at ra rb; subst ra rb
    split at p
    · rename_i h; exact .inr (.inl ⟨_, _, rfl, rfl, size_le h, p M H _ .refl so (rep_str _ _ _)⟩)
    · exact p.elim
  · rename_i xs ys
    split at p
    · rename_i h
      have ra' := ra; have rb' := rb
      unfold Rep at ra rb
      obtain ⟨t, vs, rfl, f, q⟩ := ra
      obtain ⟨u, ws, rfl, f', q'⟩ := rb
      refine .inr (.inr (.inl ⟨t, u, vs, ws, rfl, rfl, f.sq, f'.sq, by rw [← q.length, ← q'.length]; exact size_le h, fun e => ?_, fun _ e => ?_, fun _ _ a ha => ?_⟩))
      · have : xs = [] := List.length_eq_zero_iff.mp (by rw [q.length, e]; rfl)
        subst this
        exact p M H _ .refl so rb'
      · have : ys = [] := List.length_eq_zero_iff.mp (by rw [q'.length, e]; rfl)
        subst this
        exact p M H _ .refl so (by simpa using ra')
      · exact p M _ _ (.laid so ha) (so.laid ha) (rep_tup so (q.append q') ha)
    · exact p.elim
  · rename_i xs ys
    split at p
    · rename_i h
      unfold Rep at ra rb
      obtain ⟨t, vs, rfl, f, q⟩ := ra
      obtain ⟨u, ws, rfl, f', q'⟩ := rb
      exact .inr (.inr (.inr ⟨t, u, vs, ws, rfl, rfl, f.1, f'.1, by rw [← q.length, ← q'.length]; exact size_le h, fun a ha => p M _ _ (.laid so ha) (so.laid ha) (rep_lst so (q.append q') ha)⟩))
    · exact p.elim
  · rename_i n ys
    split at p
    · rename_i xs e
      split at p
      · rename_i h
        unfold Rep at ra rb
        obtain ⟨t, rfl, m⟩ := ra
        obtain ⟨vs, hv, q⟩ := so.at_ n t _ m e
        obtain ⟨u, ws, rfl, f', q'⟩ := rb
        exact .inr (.inr (.inr ⟨t, u, vs, ws, rfl, rfl, hv, f'.1, by rw [← q.length, ← q'.length]; exact size_le h, fun a ha => p M _ _ (.laid so ha) (so.laid ha) (rep_lst so (q.append q') ha)⟩))
      · exact p.elim
    · exact p.elim
  · rename_i xs n
    split at p
    · rename_i ys e
      split at p
      · rename_i h
        unfold Rep at ra rb
        obtain ⟨t, vs, rfl, f, q⟩ := ra
        obtain ⟨u, rfl, m⟩ := rb
        obtain ⟨ws, hw, q'⟩ := so.at_ n u _ m e
        exact .inr (.inr (.inr ⟨t, u, vs, ws, rfl, rfl, f.1, hw, by rw [← q.length, ← q'.length]; exact size_le h, fun a ha => p M _ _ (.laid so ha) (so.laid ha) (rep_lst so (q.append q') ha)⟩))
      · exact p.elim
    · exact p.elim
  · exact p.elim
theorem o_add : OpR X (binaryOp .Add) (rOr (rI0 fun i j => .int (i + j)) (rOr (fun x y H Q => ∃ i j, x = .str i ∧ y = .str j ∧ i.length + j.length ≤ sizeLine ∧ Q (.str (i ++ j)) H) (rOr (rCatA X.K) rCat))) :=
  OpR.or op_add (OpR.or op_add_str (OpR.or op_catA op_cat))
theorem v_sub : OpV K (rI0 fun i j => .int (i - j)) subD := by
  intro a b x y M H st Q E ra rb so p
  unfold subD at p
  split at p
  · unfold Rep at ra rb; subst ra rb
    exact ⟨_, _, rfl, rfl, p M H _ .refl so (rep_int _ _ _)⟩
  · exact p.elim
theorem cmul_of {i j : Int} (h : mulOk i j) : CMul i j ∨ CMulW i j := by
  rcases h with h | h | h
  · exact .inl (.inl (by omega))
  · exact .inl (.inr (by omega))
  · exact .inr (by have := big_log h.1; have := big_log h.2; unfold CMulW; omega)
theorem RepL.flat {M : Mem} {H : Hp} {xs : List D} {vs : List V} (q : RepL K M H xs vs) : ∀ n, RepL K M H (List.replicate n xs).flatten (List.replicate n vs).flatten
  | 0 => .nil
  | n + 1 => by
    rw [List.replicate_succ, List.replicate_succ, List.flatten_cons, List.flatten_cons]
    exact q.append (RepL.flat q n)
theorem v_mul : OpV K (rOr (rI (fun i j => CMul i j) fun i j => .int (i * j)) (rOr (rI CMulW fun i j => .int (i * j)) (rOr rRep (rOr (rRepT K) (rRepT1 K))))) mulD := by
  intro a b x y M H st Q E ra rb so p
  unfold mulD at p
  split at p
  · split at p
    · rename_i h
      unfold Rep at ra rb; subst ra rb
      rcases cmul_of h with h | h
      · exact .inl ⟨_, _, rfl, rfl, h, p M H _ .refl so (rep_int _ _ _)⟩
      · exact .inr (.inl ⟨_, _, rfl, rfl, h, p M H _ .refl so (rep_int _ _ _)⟩)
    · exact p.elim
  · split at p
    · rename_i h
      unfold Rep at ra rb
      obtain ⟨t, vs, rfl, f, q⟩ := ra
      subst rb
      refine .inr (.inr (.inl ⟨t, _, vs, rfl, rfl, f.1, by omega, by omega, by rw [← q.length]; exact size_le h.2, fun a ha => ?_⟩))
      exact p M _ _ (.laid so ha) (so.laid ha) (rep_lst so (q.flat _) ha)
    · exact p.elim
  · split at p
    · rename_i xs k h
      unfold Rep at ra rb
      obtain ⟨t, vs, rfl, f, q⟩ := ra
      subst rb
      refine .inr (.inr (.inr (.inl ⟨t, _, vs, rfl, rfl, f.sq, fun e => h.1 (List.length_eq_zero_iff.mp (by rw [q.length, e]; rfl)), h.2.1, h.2.2.1, by rw [← q.length]; exact h.2.2.2, fun a ha => ?_⟩)))
      exact p M _ _ (.laid so ha) (so.laid ha) (rep_tup so (q.flat _) ha)
    · rename_i xs k _
      split at p
      · rename_i h
        have ra' := ra
        unfold Rep at ra rb
        obtain ⟨t, vs, rfl, f, q⟩ := ra
        subst rb
        refine .inr (.inr (.inr (.inr ⟨t, _, vs, rfl, rfl, f.sq, h.2, .inl ⟨h.1.imp (fun e => List.length_eq_zero_iff.mp (by rw [← q.length, e]; rfl)) id, p M H _ .refl so ra'⟩⟩)))
      · split at p
        · rename_i h
          unfold Rep at ra rb
          obtain ⟨t, vs, rfl, f, q⟩ := ra
          subst rb
          refine .inr (.inr (.inr (.inr ⟨t, _, vs, rfl, rfl, f.sq, h.2, .inr ⟨⟨fun e => h.1.1 (List.length_eq_zero_iff.mp (by rw [q.length, e]; rfl)), h.1.2⟩, fun a ha => p M _ _ (.laid so ha) (so.laid ha) (rep_tup so .nil ha)⟩⟩)))
        · exact p.elim
  · exact p.elim
theorem o_mul : OpR X (binaryOp .Mult) (rOr (rI (fun i j => CMul i j) fun i j => .int (i * j)) (rOr (rI CMulW fun i j => .int (i * j)) (rOr rRep (rOr (rRepT X.K) (rRepT1 X.K))))) :=
  OpR.or op_mul (OpR.or op_mulW (OpR.or op_rep (OpR.or op_repT op_repT1)))
theorem v_fdiv : OpV K (rI CDivW fun i j => .int (i / j)) fdivD := by
  intro a b x y M H st Q E ra rb so p
  unfold fdivD at p
  split at p
  · split at p
    · rename_i h
      unfold Rep at ra rb; subst ra rb
      exact ⟨_, _, rfl, rfl, ⟨h.1, Nat.lt_trans (big_log h.2) (by decide)⟩, p M H _ .refl so (rep_int _ _ _)⟩
    · exact p.elim
  · exact p.elim
theorem v_mod : OpV K (rI (fun _ j => 0 < j) fun i j => .int (i % j)) modD := by
  intro a b x y M H st Q E ra rb so p
  unfold modD at p
  split at p
  · split at p
    · rename_i h
      unfold Rep at ra rb; subst ra rb
      exact ⟨_, _, rfl, rfl, h, p M H _ .refl so (rep_int _ _ _)⟩
    · exact p.elim
  · exact p.elim
theorem v_pow : OpV K (rI CPow fun i j => .int (i ^ j.toNat)) powD := by
  intro a b x y M H st Q E ra rb so p
  unfold powD at p
  split at p
  · split at p
    · rename_i h
      unfold Rep at ra rb; subst ra rb
      exact ⟨_, _, rfl, rfl, h, p M H _ .refl so (rep_int _ _ _)⟩
    · exact p.elim
  · exact p.elim
theorem v_neg : OpV1 K (rU fun i => .int (-i)) negD := by
  intro a x M H st Q E ra so p
  unfold negD at p
  split at p
  · unfold Rep at ra; subst ra
    exact ⟨_, rfl, p M H _ .refl so (rep_int _ _ _)⟩
  · exact p.elim
theorem v_cmpI (f : Int → Int → Bool) : OpV K (rI0 fun i j => .bl (f i j)) (cmpI f) := by
  intro a b x y M H st Q E ra rb so p
  unfold cmpI at p
  split at p
  · unfold Rep at ra rb; subst ra rb
    exact ⟨_, _, rfl, rfl, p M H _ .refl so (rep_bl _ _ _)⟩
  · exact p.elim
theorem v_lt : OpV K (rOr (rI0 fun i j => .bl (decide (i < j))) (rLtT K)) ltD := by
  intro a b x y M H st Q E ra rb so p
  unfold ltD at p
  split at p
  · unfold Rep at ra rb; subst ra rb
    exact .inl ⟨_, _, rfl, rfl, p M H _ .refl so (rep_bl _ _ _)⟩
  · split at p
    · rename_i e1 e2
      unfold Rep at ra rb
      obtain ⟨t, vs, rfl, f, q⟩ := ra
      obtain ⟨u, ws, rfl, f', q'⟩ := rb
      have h1 := intsOf_rep e1 q
      have h2 := intsOf_rep e2 q'
      subst h1 h2
      exact .inr ⟨t, u, _, _, rfl, rfl, f.sq, f'.sq, p M H _ .refl so (rep_bl _ _ _)⟩
    · exact p.elim
  · exact p.elim
theorem o_lt (hu : X.A.units < cLine) : OpR X (compareOp .Lt) (rOr (rI0 fun i j => .bl (decide (i < j))) (rLtT X.K)) := OpR.or op_lt (op_ltT hu)
theorem lexAt_go (ns0 ms0 : List Int) : ∀ (ns ms : List Int) (i : Nat), ns0.drop i = ns → ms0.drop i = ms → i ≤ ns0.length → i ≤ ms0.length →
    Ob.lexAt (fun j => decide (ns0.getD j 0 = ms0.getD j 0)) (fun j => decide (ns0.getD j 0 ≤ ms0.getD j 0)) (decide (ns0.length ≤ ms0.length)) i (min ns.length ms.length) = lexLe ns ms
  | [], ms, i, h1, h2, h3, h4 => by
    have : ns0.length = i := by have := congrArg List.length h1; simp at this; omega
    simp only [List.length_nil, Nat.zero_min]
    show decide (ns0.length ≤ ms0.length) = true
    simp; omega
  | a :: x, [], i, h1, h2, h3, h4 => by
    have e1 : ms0.length = i := by have := congrArg List.length h2; simp at this; omega
    have e2 : ns0.length = i + (x.length + 1) := by have := congrArg List.length h1; simp at this; omega
    simp only [List.length_nil, Nat.min_zero]
    show decide (ns0.length ≤ ms0.length) = false
    simp; omega
  | a :: x, b :: y, i, h1, h2, h3, h4 => by
    have e1 : ns0.getD i 0 = a := by
      have : ns0[i]? = some a := by rw [← List.head?_drop, h1]; rfl
      simp [List.getD, this]
    have e2 : ms0.getD i 0 = b := by
      have : ms0[i]? = some b := by rw [← List.head?_drop, h2]; rfl
      simp [List.getD, this]
    have l1 : ns0.length = i + (x.length + 1) := by have := congrArg List.length h1; simp at this; omega
    have l2 : ms0.length = i + (y.length + 1) := by have := congrArg List.length h2; simp at this; omega
    have em : min (a :: x).length (b :: y).length = min x.length y.length + 1 := by simp [Nat.succ_min_succ]
    rw [em, Ob.lexAt_succ]
    have ih := lexAt_go ns0 ms0 x y (i + 1) (by rw [← List.drop_drop, h1]; rfl) (by rw [← List.drop_drop, h2]; rfl) (by omega) (by omega)
    rw [e1, e2, ih]
    show (if decide (a = b) = true then lexLe x y else decide (a ≤ b)) = if a = b then lexLe x y else decide (a ≤ b)
    by_cases h : a = b <;> simp [h]
theorem v_le : OpV K (rOr (rI0 fun i j => .bl (decide (i ≤ j))) (rLeT K)) leD := by
  intro a b x y M H st Q E ra rb so p
  unfold leD at p
  split at p
  · unfold Rep at ra rb; subst ra rb
    exact .inl ⟨_, _, rfl, rfl, p M H _ .refl so (rep_bl _ _ _)⟩
  · split at p
    · rename_i ns ms e1 e2
      unfold Rep at ra rb
      obtain ⟨t, vs, rfl, f, q⟩ := ra
      obtain ⟨u, ws, rfl, f', q'⟩ := rb
      have h1 := intsOf_rep e1 q
      have h2 := intsOf_rep e2 q'
      subst h1 h2
      refine .inr ⟨t, u, ns, ms, rfl, rfl, f.sq, f'.sq, p M H _ .refl so ?_⟩
      rw [lexAt_go ns ms ns ms 0 rfl rfl (Nat.zero_le _) (Nat.zero_le _)]
      exact rep_bl _ _ _
    · exact p.elim
  · exact p.elim
theorem o_le (hu : X.A.units < cLine) : OpR X (compareOp .LtE) (rOr (rI0 fun i j => .bl (decide (i ≤ j))) (rLeT X.K)) := OpR.or op_le (op_leT hu)
theorem scalD_rep {M : Mem} {H : Hp} {a b : D} {x y : V} {k : Bool} (h : scalD a b = some k) (ra : Rep K M H a x) (rb : Rep K M H b y) : scal x y = true ∧ decide (x = y) = k := by
  unfold scalD at h
  split at h <;> cases h <;> (unfold Rep at ra rb; subst ra rb; exact ⟨rfl, by simp⟩)
theorem eqO_rep {M : Mem} {H : Hp} {a b : D} {x y : V} {k : Bool} (h : eqO a b = some k) (ra : Rep K M H a x) (rb : Rep K M H b y) :
    (scal x y = true ∧ decide (x = y) = k) ∨ ∃ d e, Dp K H x d ∧ Dp K H y e ∧ SeqAt.shaped d = true ∧ SeqAt.shaped e = true ∧ PyData.eqv d e = k := by
  unfold eqO at h
  split at h
  · rename_i k' e
    cases h
    exact .inl (scalD_rep e ra rb)
  · split at h
    · rename_i d e e1 e2
      split at h
      · rename_i hs
        cases h
        exact .inr ⟨d, e, toPD_rep e1 ra, toPD_rep e2 rb, hs.1, hs.2, rfl⟩
      · cases h
    · cases h
theorem v_eq : OpV K (rOr rEq (rEqD K)) eqD := by
  intro a b x y M H st Q E ra rb so p
  unfold eqD at p
  split at p
  · rename_i k h
    rcases eqO_rep h ra rb with ⟨h1, h2⟩ | ⟨d, e, h1, h2, h3, h4, h5⟩
    · exact .inl ⟨h1, p M H _ .refl so (by rw [h2]; exact rep_bl _ _ _)⟩
    · exact .inr ⟨d, e, h1, h2, h3, h4, p M H _ .refl so (by rw [h5]; exact rep_bl _ _ _)⟩
  · exact p.elim
theorem o_eq (hu : X.A.units + 64 < cLine) : OpR X (compareOp .Eq) (rOr rEq (rEqD X.K)) := OpR.or op_eq (op_eqD hu)
theorem isNon_rep {M : Mem} {H : Hp} {a : D} {x : V} {k : Bool} (h : isNon a = some k) (ra : Rep K M H a x) : decide (x = .non) = k := by
  cases a with
  | raw v => cases h
  | non => cases h; unfold Rep at ra; subst ra; rfl
  | bl _ => cases h; unfold Rep at ra; subst ra; rfl
  | int _ => cases h; unfold Rep at ra; subst ra; rfl
  | str _ => cases h; unfold Rep at ra; subst ra; rfl
  | tup _ => cases h; unfold Rep at ra; obtain ⟨_, _, rfl, _⟩ := ra; rfl
  | lst _ => cases h; unfold Rep at ra; obtain ⟨_, _, rfl, _⟩ := ra; rfl
  | slo _ => cases h; unfold Rep at ra; obtain ⟨_, _, rfl, _⟩ := ra; rfl
  | dic => cases h; unfold Rep at ra; obtain ⟨_, _, rfl, _⟩ := ra; rfl
  | «mut» _ => cases h; unfold Rep at ra; obtain ⟨_, rfl, _⟩ := ra; rfl
  | emp => cases h; unfold Rep at ra; obtain ⟨_, rfl, _⟩ := ra; rfl
  | rg _ _ => cases h; unfold Rep at ra; obtain ⟨_, rfl, _⟩ := ra; rfl
  | fn _ => cases h; unfold Rep at ra; obtain ⟨_, rfl, _⟩ := ra; rfl
  | exv => cases h
theorem v_isN : OpV K (fun x y H Q => y = .non ∧ Q (.bl (decide (x = .non))) H) isND := by
  intro a b x y M H st Q E ra rb so p
  unfold isND at p
  split at p
  · rename_i k h
    unfold Rep at rb
    exact ⟨rb, p M H _ .refl so (by rw [isNon_rep h ra]; exact rep_bl _ _ _)⟩
  · exact p.elim
end
def lenOf (a : D) (st : Sto) : Option Nat := match a with
  | .mut n => (match st[n]? with
    | some (.lst xs) => some xs.length
    | _ => none)
  | .str x => if x.length ≤ 16777216 then some x.length else none
  | a => (itemsOf a).map List.length
def lenF : FA := fun as st => match as with
  | [a] => (match lenOf a st with
    | some n => .ok (.int n) st
    | none => .fail)
  | _ => .fail
def seqOf (a : D) (st : Sto) : Option (List D) := match a with
  | .mut n => (match st[n]? with
    | some (.lst xs) => some xs
    | _ => none)
  | a => itemsOf a
def listF : FA := fun as st => match as with
  | [a] => (match seqOf a st with
    | some xs => .ok (.lst xs) st
    | none => .fail)
  | _ => .fail
def tupleF : FA := fun as st => match as with
  | [.tup xs] => .ok (.tup xs) st
  | [a] => (match seqOf a st with
    | some xs => .ok (.tup xs) st
    | none => .fail)
  | _ => .fail
def sumF : FA := fun as st => match as with
  | [a] => (match (seqOf a st).bind intsOf with
    | some ns => .ok (.int ns.sum) st
    | none => .fail)
  | _ => .fail
def boolsOf : List D → Option (List Bool)
  | [] => some []
  | .bl i :: r => (boolsOf r).map (i :: ·)
  | _ => none
def allF : FA := fun as st => match as with
  | [a] => (match (seqOf a st).bind boolsOf with
    | some ns => .ok (.bl (ns.all id)) st
    | none => .fail)
  | _ => .fail
def anyF : FA := fun as st => match as with
  | [a] => (match (seqOf a st).bind boolsOf with
    | some ns => .ok (.bl (ns.any id)) st
    | none => .fail)
  | _ => .fail
def absF : FA := fun as st => match as with
  | [.int i] => .ok (.int (if i < 0 then -i else i)) st
  | _ => .fail
def intF : FA := fun as st => match as with
  | [.int i] => .ok (.int i) st
  | [.bl k] => .ok (.int (if k then 1 else 0)) st
  | _ => .fail
def bigI : List Int → Int
  | [] => 0
  | [x] => x
  | x :: r => max x (bigI r)
def smallI : List Int → Int
  | [] => 0
  | [x] => x
  | x :: r => min x (smallI r)
def maxF : FA := fun as st => match as with
  | [.int i, .int j] => .ok (.int (if j > i then j else i)) st
  | [a] => (match (seqOf a st).bind intsOf with
    | some (n :: ns) => .ok (.int (bigI (n :: ns))) st
    | _ => .fail)
  | _ => .fail
def minF : FA := fun as st => match as with
  | [.int i, .int j] => .ok (.int (if j < i then j else i)) st
  | [a] => (match (seqOf a st).bind intsOf with
    | some (n :: ns) => .ok (.int (smallI (n :: ns))) st
    | _ => .fail)
  | _ => .fail
def divmodF : FA := fun as st => match as with
  | [.int i, .int j] => if 0 < j ∧ (j < 1073741824 ∨ i.natAbs < big ∨ j.natAbs < big) then .ok (.tup [.int (i / j), .int (i % j)]) st else .fail
  | _ => .fail
section
variable {K : PySem.W.Frag} {M : Mem} {H : Hp}
theorem RepL.one {a : D} {xs : List V} (h : RepL K M H [a] xs) : ∃ x, xs = [x] ∧ Rep K M H a x := by
  unfold RepL at h
  obtain ⟨v, r, rfl, h1, h2⟩ := h
  unfold RepL at h2
  subst h2
  exact ⟨v, rfl, h1⟩
theorem RepL.two {a b : D} {xs : List V} (h : RepL K M H [a, b] xs) : ∃ x y, xs = [x, y] ∧ Rep K M H a x ∧ Rep K M H b y := by
  unfold RepL at h
  obtain ⟨v, r, rfl, h1, h2⟩ := h
  obtain ⟨y, rfl, h3⟩ := h2.one
  exact ⟨v, y, rfl, h1, h3⟩
theorem seqOf_rep {a : D} {st : Sto} {xs : List D} {v : V} (so : StOk K M H st) (h : seqOf a st = some xs) (r : Rep K M H a v) :
    ∃ t vs, v = .ref t ∧ RepL K M H xs vs ∧ (SqT K H t vs ∨ SqL K H t vs) := by
  unfold seqOf at h
  split at h
  · rename_i n
    split at h
    · rename_i ys e
      cases h
      unfold Rep at r
      obtain ⟨t, rfl, m⟩ := r
      obtain ⟨vs, hv, q⟩ := so.at_ n t _ m e
      exact ⟨t, vs, rfl, q, .inr (.of hv)⟩
    · cases h
  · obtain ⟨t, vs, e, s, q⟩ := itemsOf_rep h r
    exact ⟨t, vs, e, q, s⟩
theorem seqOf_list {a : D} {st : Sto} {xs : List D} {v : V} (so : StOk K M H st) (h : seqOf a st = some xs) (hn : ∀ ys, a ≠ .tup ys) (r : Rep K M H a v) :
    ∃ t vs, v = .ref t ∧ RepL K M H xs vs ∧ SqL K H t vs := by
  unfold seqOf at h
  split at h
  · rename_i n
    split at h
    · rename_i ys e
      cases h
      unfold Rep at r
      obtain ⟨t, rfl, m⟩ := r
      obtain ⟨vs, hv, q⟩ := so.at_ n t _ m e
      exact ⟨t, vs, rfl, q, .of hv⟩
    · cases h
  · cases a with
    | tup ys => exact absurd rfl (hn ys)
    | lst ys => cases h; unfold Rep at r; obtain ⟨t, vs, e, f, q⟩ := r; exact ⟨t, vs, e, q, f.sq⟩
    | slo ys => cases h; unfold Rep at r; obtain ⟨t, vs, e, f, q⟩ := r; exact ⟨t, vs, e, q, f.sq⟩
    | _ => cases h
theorem boolsOf_rep : ∀ {ds : List D} {ns : List Bool} {vs : List V}, boolsOf ds = some ns → RepL K M H ds vs → vs = ns.map V.bl
  | [], _, _, h, r => by unfold boolsOf at h; unfold RepL at r; cases h; subst r; rfl
  | .bl i :: ds, ns, vs, h, r => by
    unfold boolsOf at h; unfold RepL at r
    obtain ⟨v, rr, rfl, r1, r2⟩ := r
    unfold Rep at r1
    subst r1
    cases e : boolsOf ds with
    | none => rw [e] at h; cases h
    | some ms => rw [e] at h; cases h; rw [boolsOf_rep e r2]; rfl
  | .non :: ds, ns, vs, h, r => by unfold boolsOf at h; cases h
  | .int _ :: ds, ns, vs, h, r => by unfold boolsOf at h; cases h
  | .str _ :: ds, ns, vs, h, r => by unfold boolsOf at h; cases h
  | .raw _ :: ds, ns, vs, h, r => by unfold boolsOf at h; cases h
  | .dic :: ds, ns, vs, h, r => by unfold boolsOf at h; cases h
  | .fn _ :: ds, ns, vs, h, r => by unfold boolsOf at h; cases h
  | .emp :: ds, ns, vs, h, r => by unfold boolsOf at h; cases h
  | .rg .. :: ds, ns, vs, h, r => by unfold boolsOf at h; cases h
  | .exv .. :: ds, ns, vs, h, r => by unfold boolsOf at h; cases h
  | .tup _ :: ds, ns, vs, h, r => by unfold boolsOf at h; cases h
  | .lst _ :: ds, ns, vs, h, r => by unfold boolsOf at h; cases h
  | .slo _ :: ds, ns, vs, h, r => by unfold boolsOf at h; cases h
  | .mut _ :: ds, ns, vs, h, r => by unfold boolsOf at h; cases h
@[simp] theorem boolsOf_map : ∀ ns : List Bool, boolsOf (ns.map D.bl) = some ns
  | [] => rfl
  | n :: ns => by show (boolsOf (ns.map D.bl)).map (n :: ·) = some (n :: ns); rw [boolsOf_map ns]; rfl
theorem lenOf_seq {a : D} {st : Sto} {n : Nat} (h : lenOf a st = some n) : (∃ x, a = .str x ∧ x.length ≤ 16777216 ∧ n = x.length) ∨ ∃ xs, seqOf a st = some xs ∧ xs.length = n := by
  unfold lenOf at h
  split at h
  · split at h
    · rename_i e; cases h; exact .inr ⟨_, by simp [seqOf, e], rfl⟩
    · cases h
  · split at h
    · rename_i e; cases h; exact .inl ⟨_, rfl, e, rfl⟩
    · cases h
  · cases a with
    | tup ys => cases h; exact .inr ⟨ys, rfl, rfl⟩
    | lst ys => cases h; exact .inr ⟨ys, rfl, rfl⟩
    | slo ys => cases h; exact .inr ⟨ys, rfl, rfl⟩
    | _ => cases h
theorem v_len : CallV K (fun xs H Q => (∃ p ys, xs = [.ref p] ∧ (SqL K H p ys ∨ SqT K H p ys) ∧ Q (.int ys.length) H) ∨ ∃ z, xs = [.str z] ∧ z.length ≤ sizeLine ∧ Q (.int z.length) H) lenF := by
  intro as xs M H st Q E r so p
  unfold lenF at p
  split at p
  · split at p
    · rename_i n h
      obtain ⟨x, rfl, rx⟩ := r.one
      rcases lenOf_seq h with ⟨z, rfl, hz, rfl⟩ | ⟨ys, h1, rfl⟩
      · unfold Rep at rx; subst rx
        exact .inr ⟨z, rfl, size_le hz, p M H _ .refl so (rep_int _ _ _)⟩
      · obtain ⟨t, vs, rfl, q, s⟩ := seqOf_rep so h1 rx
        exact .inl ⟨t, vs, rfl, s.symm, p M H _ .refl so (by rw [q.length]; exact rep_int _ _ _)⟩
    · exact p.elim
  · exact p.elim
theorem v_list : CallV K (fun xs H Q => ∃ p ys, xs = [.ref p] ∧ (SqL K H p ys ∨ SqT K H p ys) ∧ ∀ l, H l = none → Q (.ref l) (upd H l (.lst ys))) listF := by
  intro as xs M H st Q E r so p
  unfold listF at p
  split at p
  · split at p
    · rename_i h
      obtain ⟨x, rfl, rx⟩ := r.one
      obtain ⟨t, vs, rfl, q, s⟩ := seqOf_rep so h rx
      exact ⟨t, vs, rfl, s.symm, fun l hl => p M _ _ (.laid so hl) (so.laid hl) (rep_lst so q hl)⟩
    · exact p.elim
  · exact p.elim
theorem v_tuple : CallV K (fun xs H Q => ∃ p ys, xs = [.ref p] ∧ ((SqL K H p ys ∧ ∀ l, H l = none → Q (.ref l) (upd H l (.tup ys))) ∨ (SqT K H p ys ∧ Q (.ref p) H))) tupleF := by
  intro as xs M H st Q E r so p
  unfold tupleF at p
  split at p
  · obtain ⟨x, rfl, rx⟩ := r.one
    have rx' := rx
    unfold Rep at rx
    obtain ⟨t, vs, rfl, f, q⟩ := rx
    exact ⟨t, vs, rfl, .inr ⟨f.sq, p M H _ .refl so rx'⟩⟩
  · rename_i hn
    split at p
    · rename_i h
      obtain ⟨x, rfl, rx⟩ := r.one
      obtain ⟨t, vs, rfl, q, s⟩ := seqOf_list so h (fun ys e => hn ys (by rw [e])) rx
      exact ⟨t, vs, rfl, .inl ⟨s, fun l hl => p M _ _ (.laid so hl) (so.laid hl) (rep_tup so q hl)⟩⟩
    · exact p.elim
  · exact p.elim
theorem v_sum : CallV K (qSum K) sumF := by
  intro as xs M H st Q E r so p
  unfold sumF at p
  split at p
  · split at p
    · rename_i ns h
      obtain ⟨x, rfl, rx⟩ := r.one
      obtain ⟨ds, h1, h2⟩ := Option.bind_eq_some_iff.mp h
      obtain ⟨t, vs, rfl, q, s⟩ := seqOf_rep so h1 rx
      have e := intsOf_rep h2 q
      subst e
      exact ⟨t, ns, rfl, s.symm, p M H _ .refl so (rep_int _ _ _)⟩
    · exact p.elim
  · exact p.elim
theorem v_all : CallV K (qAll K) allF := by
  intro as xs M H st Q E r so p
  unfold allF at p
  split at p
  · split at p
    · rename_i ns h
      obtain ⟨x, rfl, rx⟩ := r.one
      obtain ⟨ds, h1, h2⟩ := Option.bind_eq_some_iff.mp h
      obtain ⟨t, vs, rfl, q, s⟩ := seqOf_rep so h1 rx
      have e := boolsOf_rep h2 q
      subst e
      exact ⟨t, ns, rfl, s.symm, p M H _ .refl so (rep_bl _ _ _)⟩
    · exact p.elim
  · exact p.elim
theorem v_any : CallV K (qAny K) anyF := by
  intro as xs M H st Q E r so p
  unfold anyF at p
  split at p
  · split at p
    · rename_i ns h
      obtain ⟨x, rfl, rx⟩ := r.one
      obtain ⟨ds, h1, h2⟩ := Option.bind_eq_some_iff.mp h
      obtain ⟨t, vs, rfl, q, s⟩ := seqOf_rep so h1 rx
      have e := boolsOf_rep h2 q
      subst e
      exact ⟨t, ns, rfl, s.symm, p M H _ .refl so (rep_bl _ _ _)⟩
    · exact p.elim
  · exact p.elim
theorem v_abs : CallV K (fun xs H Q => ∃ i, xs = [.int i] ∧ Q (.int (if i < 0 then -i else i)) H) absF := by
  intro as xs M H st Q E r so p
  unfold absF at p
  split at p
  · obtain ⟨x, rfl, rx⟩ := r.one
    rw [rep_int_iff] at rx; subst rx
    exact ⟨_, rfl, p M H _ .refl so (rep_int _ _ _)⟩
  · exact p.elim
theorem v_int : CallV K (fun xs H Q => (∃ i, xs = [.int i] ∧ Q (.int i) H) ∨ ∃ k, xs = [.bl k] ∧ Q (.int (if k then 1 else 0)) H) intF := by
  intro as xs M H st Q E r so p
  unfold intF at p
  split at p
  · obtain ⟨x, rfl, rx⟩ := r.one
    rw [rep_int_iff] at rx; subst rx
    exact .inl ⟨_, rfl, p M H _ .refl so (rep_int _ _ _)⟩
  · obtain ⟨x, rfl, rx⟩ := r.one
    unfold Rep at rx; subst rx
    exact .inr ⟨_, rfl, p M H _ .refl so (rep_int _ _ _)⟩
  · exact p.elim
theorem bigI_eq : ∀ {ns : List Int} {m : Int}, m ∈ ns → (∀ y, y ∈ ns → y ≤ m) → m = bigI ns
  | [], _, h, _ => by cases h
  | [x], m, h, _ => by simpa [bigI] using h
  | x :: y :: r, m, h, g => by
    show m = max x (bigI (y :: r))
    have gx := g x (by simp)
    by_cases e : m ∈ y :: r
    · rw [← bigI_eq e (fun z hz => g z (List.mem_cons_of_mem _ hz))]; omega
    · have hm : m = x := by rcases List.mem_cons.mp h with h | h; exact h; exact absurd h e
      have : bigI (y :: r) ≤ m := by
        have hb : ∀ (l : List Int) (y : Int), bigI (y :: l) ∈ y :: l := by
          intro l; induction l with
          | nil => intro y; simp [bigI]
          | cons z l ih =>
            intro y
            show max y (bigI (z :: l)) ∈ _
            rcases Int.le_total y (bigI (z :: l)) with k | k
            · rw [Int.max_eq_right k]; exact List.mem_cons_of_mem _ (ih z)
            · rw [Int.max_eq_left k]; exact List.mem_cons_self
        exact g _ (List.mem_cons_of_mem _ (hb r y))
      omega
theorem smallI_eq : ∀ {ns : List Int} {m : Int}, m ∈ ns → (∀ y, y ∈ ns → m ≤ y) → m = smallI ns
  | [], _, h, _ => by cases h
  | [x], m, h, _ => by simpa [smallI] using h
  | x :: y :: r, m, h, g => by
    show m = min x (smallI (y :: r))
    have gx := g x (by simp)
    by_cases e : m ∈ y :: r
    · rw [← smallI_eq e (fun z hz => g z (List.mem_cons_of_mem _ hz))]; omega
    · have hm : m = x := by rcases List.mem_cons.mp h with h | h; exact h; exact absurd h e
      have : m ≤ smallI (y :: r) := by
        have hb : ∀ (l : List Int) (y : Int), smallI (y :: l) ∈ y :: l := by
          intro l; induction l with
          | nil => intro y; simp [smallI]
          | cons z l ih =>
            intro y
            show min y (smallI (z :: l)) ∈ _
            rcases Int.le_total y (smallI (z :: l)) with k | k
            · rw [Int.min_eq_left k]; exact List.mem_cons_self
            · rw [Int.min_eq_right k]; exact List.mem_cons_of_mem _ (ih z)
        exact g _ (List.mem_cons_of_mem _ (hb r y))
      omega
theorem v_max : CallV K (fun xs H Q => (∃ i j, xs = [.int i, .int j] ∧ Q (.int (if j > i then j else i)) H) ∨ qMax K xs H Q) maxF := by
  intro as xs M H st Q E r so p
  unfold maxF at p
  split at p
  · obtain ⟨x, y, rfl, rx, ry⟩ := r.two
    rw [rep_int_iff] at rx ry; subst rx ry
    exact .inl ⟨_, _, rfl, p M H _ .refl so (rep_int _ _ _)⟩
  · split at p
    · rename_i n ns h
      obtain ⟨x, rfl, rx⟩ := r.one
      obtain ⟨ds, h1, h2⟩ := Option.bind_eq_some_iff.mp h
      obtain ⟨t, vs, rfl, q, s⟩ := seqOf_rep so h1 rx
      have e := intsOf_rep h2 q
      subst e
      exact .inr ⟨t, n :: ns, rfl, s.symm, by simp, fun m h1 h2 => by rw [bigI_eq h1 h2]; exact p M H _ .refl so (rep_int _ _ _)⟩
    · exact p.elim
  · exact p.elim
theorem v_min : CallV K (fun xs H Q => (∃ i j, xs = [.int i, .int j] ∧ Q (.int (if j < i then j else i)) H) ∨ qMin K xs H Q) minF := by
  intro as xs M H st Q E r so p
  unfold minF at p
  split at p
  · obtain ⟨x, y, rfl, rx, ry⟩ := r.two
    rw [rep_int_iff] at rx ry; subst rx ry
    exact .inl ⟨_, _, rfl, p M H _ .refl so (rep_int _ _ _)⟩
  · split at p
    · rename_i n ns h
      obtain ⟨x, rfl, rx⟩ := r.one
      obtain ⟨ds, h1, h2⟩ := Option.bind_eq_some_iff.mp h
      obtain ⟨t, vs, rfl, q, s⟩ := seqOf_rep so h1 rx
      have e := intsOf_rep h2 q
      subst e
      exact .inr ⟨t, n :: ns, rfl, s.symm, by simp, fun m h1 h2 => by rw [smallI_eq h1 h2]; exact p M H _ .refl so (rep_int _ _ _)⟩
    · exact p.elim
  · exact p.elim
theorem big_bits {i : Int} (h : i.natAbs < big) : Builtin.Int.intBits i ≤ 4000 := by
  have := big_log h
  unfold Builtin.Int.intBits
  split <;> omega
theorem divp_ok2 {i j : Int} (h : 0 < j) (h2 : j.natAbs < big) : CDivP i j := by
  refine ⟨h, ?_⟩
  have := big_log h2
  unfold Builtin.divisionGoesByPylong
  have e : (decide ((if j == 0 then 0 else j.natAbs.log2 / 30 + 1 : Nat) > 300)) = false := by
    apply decide_eq_false
    split <;> omega
  simp only [e, Bool.false_and]
theorem v_divmod : CallV K (fun xs H Q => (∃ i j, xs = [.int i, .int j] ∧ CDiv i j ∧ ∀ p, H p = none → Q (.ref p) (upd H p (.tup [.int (i / j), .int (i % j)]))) ∨
    ∃ i j, xs = [.int i, .int j] ∧ CDivP i j ∧ ∀ p, H p = none → Q (.ref p) (upd H p (.tup [.int (i / j), .int (i % j)]))) divmodF := by
  intro as xs M H st Q E r so p
  unfold divmodF at p
  split at p
  · split at p
    · rename_i i j h
      obtain ⟨x, y, rfl, rx, ry⟩ := r.two
      rw [rep_int_iff] at rx ry; subst rx ry
      rcases h.2 with h2 | h2 | h2
      · exact .inl ⟨i, j, rfl, ⟨h.1, h2⟩, fun l hl => p M _ _ (.laid so hl) (so.laid hl) (rep_tup so (.ints [i / j, i % j]) hl)⟩
      · exact .inr ⟨i, j, rfl, divp_ok h.1 (by have := big_bits h2; omega), fun l hl => p M _ _ (.laid so hl) (so.laid hl) (rep_tup so (.ints [i / j, i % j]) hl)⟩
      · exact .inr ⟨i, j, rfl, divp_ok2 h.1 h2, fun l hl => p M _ _ (.laid so hl) (so.laid hl) (rep_tup so (.ints [i / j, i % j]) hl)⟩
    · exact p.elim
  · exact p.elim
end
end G
namespace G
open PySem PySem.Spec PyProof.Rows L2
def ixD : F2 := fun a b st => match b with
  | .int i => (match a with
    | .str x => if x.length ≤ 16777216 then (match atI x.cps.toList i with
        | some c => .ok (.str ⟨#[c]⟩) st
        | none => .fail) else .fail
    | a => match (seqOf a st).bind fun xs => atI xs i with
      | some d => .ok d st
      | none => .fail)
  | _ => .fail
def cutD (xs : List D) (lo hi : Option Int) : List D := (xs.drop (HT.sIx xs.length 0 lo)).take (HT.sIx xs.length xs.length hi - HT.sIx xs.length 0 lo)
def sliceD (a : D) (lo hi : Option Int) (st : Sto) : R D := match a with
  | .tup xs => .ok (.tup (cutD xs lo hi)) st
  | .str x => if x.length ≤ 16777216 then .ok (.str (cutS x lo hi)) st else .fail
  | a => match seqOf a st with
    | some xs => .ok (.lst (cutD xs lo hi)) st
    | none => .fail
abbrev EvO := Env → Sto → R (Option Int)
def noO : EvO := fun _ st => .ok none st
def someO (fa : EvE) : EvO := fun env st => (fa env st).bind fun a st1 => match a with
  | .int i => .ok (some i) st1
  | _ => .fail
def sliceE (fa : EvE) (lo hi : EvO) : EvE := fun env st => (fa env st).bind fun a st1 => (lo env st1).bind fun l st2 => (hi env st2).bind fun h st3 => sliceD a l h st3
section
variable {K : PySem.W.Frag}
theorem RepL.atI {M : Mem} {H : Hp} {ds : List D} {vs : List V} {i : Int} {d : D} (r : RepL K M H ds vs) (h : L2.atI ds i = some d) : ∃ v, L2.atI vs i = some v ∧ Rep K M H d v := by
  unfold L2.atI at h ⊢
  rw [r.length] at h
  obtain ⟨j, h1, h2⟩ := Option.bind_eq_some_iff.mp h
  obtain ⟨v, h3, h4⟩ := r.get h2
  exact ⟨v, by rw [h1]; exact h3, h4⟩
theorem RepL.cut {M : Mem} {H : Hp} {ds : List D} {vs : List V} (r : RepL K M H ds vs) (lo hi : Option Int) : RepL K M H (cutD ds lo hi) (cutV vs lo hi) := by
  unfold cutD cutV
  rw [r.length]
  exact (r.drop _).take _
theorem v_ix : OpV K (rIx K) ixD := by
  intro a b x y M H st Q E ra rb so p
  unfold ixD at p
  split at p
  · rename_i i
    rw [rep_int_iff] at rb; subst rb
    split at p
    · unfold Rep at ra; subst ra
      split at p
      · rename_i hz
        split at p
        · rename_i c hc
          exact .inr (.inr ⟨_, i, c, rfl, rfl, size_le hz, hc, p M H _ .refl so (rep_str _ _ _)⟩)
        · exact p.elim
      · exact p.elim
    · split at p
      · rename_i d hd
        obtain ⟨xs, h1, h2⟩ := Option.bind_eq_some_iff.mp hd
        obtain ⟨t, vs, rfl, q, s⟩ := seqOf_rep so h1 ra
        obtain ⟨v, h3, h4⟩ := q.atI h2
        rcases s with s | s
        · exact .inr (.inl ⟨t, vs, i, v, rfl, rfl, s, h3, p M H _ .refl so h4⟩)
        · exact .inl ⟨t, vs, i, v, rfl, rfl, s, h3, p M H _ .refl so h4⟩
      · exact p.elim
  · exact p.elim
def rSl (K : PySem.W.Frag) : V → Option Int → Option Int → Hp → VK → Prop := fun x lo hi H Q => rSlL K x lo hi H Q ∨ (rSlA K x lo hi H Q ∨ rSlS x lo hi H Q)
theorem o_sl {X : Cx} : SlR X (rSl X.K) := SlR.or sl_list (SlR.or sl_tupA sl_str)
theorem v_sl {a : D} {lo hi : Option Int} {x : V} {M : Mem} {H : Hp} {st : Sto} {Q : VK} {E : XK} (ra : Rep K M H a x) (so : StOk K M H st) (p : Post K (Rep K) M H Q E (sliceD a lo hi st)) : rSl K x lo hi H Q := by
  unfold sliceD at p
  split at p
  · rename_i xs
    have ra' := ra
    unfold Rep at ra
    obtain ⟨t, vs, rfl, f, q⟩ := ra
    refine .inr (.inl ⟨t, vs, rfl, f.sq, fun hw => ?_, fun _ l hl => p M _ _ (.laid so hl) (so.laid hl) (rep_tup so (q.cut lo hi) hl)⟩)
    have e : cutD xs lo hi = xs := by
      unfold cutD
      rw [q.length, hw.1, hw.2, List.drop_zero, Nat.sub_zero, ← q.length, List.take_length]
    rw [e] at p
    exact p M H _ .refl so ra'
  · split at p
    · rename_i hz
      unfold Rep at ra; subst ra
      exact .inr (.inr ⟨_, rfl, size_le hz, p M H _ .refl so (rep_str _ _ _)⟩)
    · exact p.elim
  · rename_i hn1 hn2
    split at p
    · rename_i xs h
      obtain ⟨t, vs, rfl, q, s⟩ := seqOf_list so h (fun ys e => hn1 ys e) ra
      exact .inl ⟨t, vs, rfl, s, fun l hl => p M _ _ (.laid so hl) (so.laid hl) (rep_lst so (q.cut lo hi) hl)⟩
    · exact p.elim
end
abbrev rdO (K : PySem.W.Frag) (W : WX) (f : EvO) : TO := rd K (fun _ _ a b => a = b) W f
section
variable {X : Cx} {W : WX} {a b : Expr} {fa fb : EvE} {pos p2 : Pos} {lo hi : Option Expr} {fl fh : EvO}
theorem _root_.L2.PO.imp {e : Option Expr} {t t' : TO} (h : PO X e t) (i : ∀ σ H Q, t' σ H Q → t σ H Q) : PO X e t' := ⟨fun pins s σ H Q I q => h.run pins s σ H Q I (i σ H Q q)⟩
theorem g_no : PO X none (rdO X.K W noO) := po_none.imp fun σ H Q ⟨env, M, st, eo, so, p⟩ => p M H none .refl so rfl
theorem g_some (h : PE X a (rdE X.K W fa)) : PO X (some a) (rdO X.K W (someO fa)) := (po_some h).imp fun σ H Q ⟨env, M, st, eo, so, p⟩ => ⟨env, M, st, eo, so, Post.imp (Post.bind p) fun x H1 ⟨M1, st1, a, g, so1, ra, p1⟩ => by
  cases a with
  | int i =>
    rw [rep_int_iff] at ra; subst ra
    exact ⟨i, rfl, p1 M1 H1 _ .refl so1 rfl⟩
  | _ => exact p1.elim⟩
theorem g_ix (ha : PE X a (rdE X.K W fa)) (hb : PE X b (rdE X.K W fb)) (hs : PlainIx b) : PE X (.Subscript a b pos) (rdE X.K W (binE ixD fa fb)) :=
  (pe_ix ix_seq ha hb hs).imp (rd_bin v_ix)
theorem g_slice (ha : PE X a (rdE X.K W fa)) (hl : PO X lo (rdO X.K W fl)) (hh : PO X hi (rdO X.K W fh)) : PE X (.Subscript a (.Slice lo hi none p2) pos) (rdE X.K W (sliceE fa fl fh)) :=
  (pe_slice o_sl ha hl hh).imp fun σ H Q ⟨env, M, st, eo, so, p⟩ => ⟨env, M, st, eo, so, Post.imp (Post.bind p) fun x H1 ⟨M1, st1, a, g, so1, ra, p1⟩ =>
    ⟨env, M1, st1, eo.grow g, so1, Post.imp (Post.bind (rep := fun _ _ a b => a = b) p1) fun l H2 ⟨M2, st2, l', g2, so2, rl, p2⟩ => by
      subst rl
      exact ⟨env, M2, st2, (eo.grow g).grow g2, so2, Post.imp (Post.bind (rep := fun _ _ a b => a = b) p2) fun h H3 ⟨M3, st3, h', g3, so3, rh, p3⟩ => by
        subst rh
        exact v_sl (ra.grow (g2.trans g3)) so3 p3⟩⟩⟩
end
inductive Tag where
  | non | bl | int | str | tup | lst | dic
def tyName : Tag → String
  | .non => "NoneType" | .bl => "bool" | .int => "int" | .str => "str" | .tup => "tuple" | .lst => "list" | .dic => "dict"
def isiB : Tag → Tag → Bool
  | .non, .non => true | .bl, .bl => true | .int, .int => true | .str, .str => true | .tup, .tup => true | .lst, .lst => true | .dic, .dic => true
  | .bl, .int => true
  | _, _ => false
def tagOf (a : D) (st : Sto) : Option Tag := match a with
  | .non => some .non | .bl _ => some .bl | .int _ => some .int | .str _ => some .str | .tup _ => some .tup | .lst _ => some .lst | .slo _ => some .lst
  | .mut n => (match st[n]? with
    | some (.lst _) => some .lst
    | _ => none)
  | .raw _ => none
  | .fn _ => none
  | .exv .. => none
  | .rg .. => none
  | .dic => some .dic
  | .emp => some .dic
def isiD (c : Tag) : F1 := fun a st => match tagOf a st with
  | some t => .ok (.bl (isiB t c)) st
  | none => .fail
theorem kit_tag : ∀ t c, kitB (tyName t) (tyName c) = some (isiB t c) := by
  intro t c
  cases t <;> cases c <;> decide +kernel
theorem tagOf_rep {K : PySem.W.Frag} {M : Mem} {H : Hp} {a : D} {st : Sto} {t : Tag} {x : V} (so : StOk K M H st) (h : tagOf a st = some t) (r : Rep K M H a x) : TyX K H x (.type (tyName t)) := by
  unfold tagOf at h
  split at h
  · cases h; unfold Rep at r; subst r; exact .base .non
  · cases h; unfold Rep at r; subst r; exact .base (.bl _)
  · cases h; unfold Rep at r; subst r; exact .base (.int _)
  · cases h; unfold Rep at r; subst r; exact .base (.str _)
  · cases h; unfold Rep at r; obtain ⟨p, vs, rfl, f, q⟩ := r
    exact .base (.tup f.1)
  · cases h; unfold Rep at r; obtain ⟨p, vs, rfl, f, q⟩ := r
    exact .base (.lst f.1)
  · cases h; unfold Rep at r; obtain ⟨p, vs, rfl, f, q⟩ := r
    rcases f with ⟨f | ⟨o, f⟩, _⟩ | ⟨o, its, n, f1, f2, _⟩
    · exact .base (.lst f)
    · exact .base (.frz f)
    · exact .kList f1 f2
  · split at h
    · rename_i e
      cases h; unfold Rep at r; obtain ⟨p, rfl, m⟩ := r
      obtain ⟨vs, hv, _⟩ := so.at_ _ p _ m e
      exact .base (.lst hv)
    · cases h
  · cases h
  · cases h
  · cases h
  · cases h
  · cases h; unfold Rep at r; obtain ⟨p, kvs, rfl, f, n⟩ := r
    exact .base (.dK f)
  · cases h; unfold Rep at r; obtain ⟨p, rfl, f, n⟩ := r
    exact .base (.dK f)
section
variable {X : Cx} {W : WX} {a : Expr} {fa : EvE} {p q pos : Pos}
theorem g_isi (c : Tag) {nm : Str} (ha : PE X a (rdE X.K W fa)) (h0 : ∀ {te : TE}, PE X a te → PE X (.Call (.Name "isinstance" p) [a, .Name nm q] [] pos) (tCB (rIsi X.K) (tCons te (tCons (tC (.ty (tyName c))) tNil)))) :
    PE X (.Call (.Name "isinstance" p) [a, .Name nm q] [] pos) (rdE X.K W (unE (isiD c) fa)) :=
  (h0 ha).imp fun σ H Q ⟨env, M, st, eo, so, p⟩ => ⟨env, M, st, eo, so, Post.imp (Post.bind p) fun x H1 ⟨M1, st1, a, g, so1, ra, p1⟩ => by
    unfold isiD at p1
    split at p1
    · rename_i t h
      exact ⟨x, .ty (tyName c), .type (tyName t), .type (tyName c), isiB t c, rfl, .ty _, tagOf_rep so1 h ra, kit_ty (kit_tag t c), p1 M1 H1 _ .refl so1 (rep_bl _ _ _)⟩
    · exact p1.elim⟩
end
inductive S where
  | nx (env : Env) (st : Sto) | ret (d : D) (st : Sto) | brk (env : Env) (st : Sto) | cont (env : Env) (st : Sto) | exc (e : Ex) (env : Env) (st : Sto) | fail
abbrev SvS := Env → Sto → S
def PostS (K : PySem.W.Frag) (M : Mem) (H : Hp) (T : Ends) (W : WX) : S → Prop
  | .nx env st => ∀ M' H' σ', Grow M H M' H' → StOk K M' H' st → EnvOk K M' H' env σ' → T.nx σ' H'
  | .ret d st => ∀ M' H' v, Grow M H M' H' → StOk K M' H' st → Rep K M' H' d v → T.rt v H'
  | .brk env st => ∀ M' H' σ', Grow M H M' H' → StOk K M' H' st → EnvOk K M' H' env σ' → T.bk σ' H'
  | .cont env st => ∀ M' H' σ', Grow M H M' H' → StOk K M' H' st → EnvOk K M' H' env σ' → T.ct σ' H'
  | .exc e env st => ∀ M' H' σ' c od, Grow M H M' H' → StOk K M' H' st → EnvOk K M' H' env σ' → RepX K M' H' e c od → W c od σ' H'
  | .fail => False
theorem PostS.mono {K : PySem.W.Frag} {M M1 : Mem} {H H1 : Hp} {T : Ends} {W : WX} {s : S} (g : Grow M H M1 H1) (p : PostS K M H T W s) : PostS K M1 H1 T W s := by
  cases s with
  | nx env st => exact fun M' H' σ' g' => p M' H' σ' (g.trans g')
  | ret d st => exact fun M' H' v g' => p M' H' v (g.trans g')
  | brk env st => exact fun M' H' σ' g' => p M' H' σ' (g.trans g')
  | cont env st => exact fun M' H' σ' g' => p M' H' σ' (g.trans g')
  | exc e env st => exact fun M' H' σ' c od g' => p M' H' σ' c od (g.trans g')
  | fail => exact p
def rdS (K : PySem.W.Frag) (W : WX) (f : SvS) : TS := fun T σ H => ∃ env M st, EnvOk K M H env σ ∧ StOk K M H st ∧ PostS K M H T W (f env st)
def bindS {α : Type} (r : R α) (env : Env) (k : α → Sto → S) : S := match r with
  | .ok a st => k a st
  | .exc e st => .exc e env st
  | .fail => .fail
@[simp] theorem bindS_ok {α : Type} (a : α) (st : Sto) (env : Env) (k : α → Sto → S) : bindS (.ok a st) env k = k a st := rfl
theorem PostS.bind {α β : Type} {K : PySem.W.Frag} {rep : RR α β} {M : Mem} {H : Hp} {T : Ends} {W : WX} {r : R α} {env : Env} {k : α → Sto → S} {σ : L2.St} (eo : EnvOk K M H env σ) (p : PostS K M H T W (bindS r env k)) :
    Post K rep M H (fun b H1 => ∃ M1 st1 a, Grow M H M1 H1 ∧ StOk K M1 H1 st1 ∧ rep M1 H1 a b ∧ PostS K M1 H1 T W (k a st1)) (WE W σ) r := by
  cases r with
  | ok a st => exact fun M' H' b g so h => ⟨M', st, a, g, so, h, PostS.mono g p⟩
  | exc e st => exact fun M' H' c od g so h => p M' H' σ c od g so (eo.grow g) h
  | fail => exact p
def passS : SvS := fun env st => .nx env st
def retS (fa : EvE) : SvS := fun env st => bindS (fa env st) env fun d st1 => .ret d st1
def exprS (fa : EvE) : SvS := fun env st => bindS (fa env st) env fun _ st1 => .nx env st1
def ifS (t : EvB) (f g : SvS) : SvS := fun env st => bindS (t env st) env fun b st1 => if b = true then f env st1 else g env st1
def seqS (f g : SvS) : SvS := fun env st => match f env st with
  | .nx env1 st1 => g env1 st1
  | s => s
section
variable {X : Cx} {W : WX} {s : Stmt} {rest : List Stmt} {a : Expr} {fa : EvE} {t : EvB} {f g : SvS} {pos : Pos}
theorem s_nil : PSs X [] (rdS X.K W passS) := pss_nil.imp fun T σ H ⟨env, M, st, eo, so, p⟩ => p M H σ .refl so eo
theorem s_cons (h1 : PS X s (rdS X.K W f)) (h2 : PSs X rest (rdS X.K W g)) : PSs X (s :: rest) (rdS X.K W (seqS f g)) :=
  (pss_cons h1 h2).imp fun T σ H ⟨env, M, st, eo, so, p⟩ => ⟨env, M, st, eo, so, by
    unfold seqS at p
    cases e : f env st with
    | nx env1 st1 =>
      rw [e] at p
      exact fun M' H' σ' gr so' eo' => ⟨env1, M', st1, eo', so', PostS.mono gr p⟩
    | ret d st1 => rw [e] at p; exact p
    | brk env1 st1 => rw [e] at p; exact p
    | cont env1 st1 => rw [e] at p; exact p
    | exc x env1 st1 => rw [e] at p; exact p
    | fail => rw [e] at p; exact p⟩
theorem s_one (h1 : PS X s (rdS X.K W f)) : PSs X [s] (rdS X.K W f) := pss_one h1
theorem s_ret (h : PE X a (rdE X.K W fa)) : PS X (.Return (some a) pos) (rdS X.K W (retS fa)) :=
  (ps_ret h).imp fun T σ H ⟨env, M, st, eo, so, p⟩ => ⟨env, M, st, eo, so, Post.imp (PostS.bind eo p) fun x H1 ⟨M1, st1, d, g, so1, ra, p1⟩ => p1 M1 H1 x .refl so1 ra⟩
theorem s_expr (h : PE X a (rdE X.K W fa)) (hs : swapsWith a none pos.line X.env = pure false) : PS X (.Expr a pos) (rdS X.K W (exprS fa)) :=
  (ps_expr h hs).imp fun T σ H ⟨env, M, st, eo, so, p⟩ => ⟨env, M, st, eo, so, Post.imp (PostS.bind eo p) fun x H1 ⟨M1, st1, d, g, so1, ra, p1⟩ => p1 M1 H1 σ .refl so1 (eo.grow g)⟩
theorem s_if {c : Expr} {A B : List Stmt} (hc : PT X c (rdB X.K W t)) (ha : PSs X A (rdS X.K W f)) (hb : PSs X B (rdS X.K W g)) : PS X (.If c A B pos) (rdS X.K W (ifS t f g)) :=
  (ps_if hc ha hb).imp fun T σ H ⟨env, M, st, eo, so, p⟩ => ⟨env, M, st, eo, so, Post.imp (PostS.bind (rep := fun _ _ a b => a = b) eo p) fun x H1 ⟨M1, st1, d, gr, so1, ra, p1⟩ => by
    subst ra
    cases d with
    | true => exact ⟨env, M1, st1, eo.grow gr, so1, p1⟩
    | false => exact ⟨env, M1, st1, eo.grow gr, so1, p1⟩⟩
end
abbrev TgF := D → Env → Sto → R Env
def rdG (K : PySem.W.Frag) (W : WX) (f : TgF) : TG := fun v σ H Q => ∃ d env M st, Rep K M H d v ∧ EnvOk K M H env σ ∧ StOk K M H st ∧ Post K (EnvOk K) M H Q (WE W σ) (f d env st)
def rdGs (K : PySem.W.Frag) (W : WX) (f : List D → Env → Sto → R Env) : TGs := fun vs σ H Q => ∃ ds env M st, RepL K M H ds vs ∧ EnvOk K M H env σ ∧ StOk K M H st ∧ Post K (EnvOk K) M H Q (WE W σ) (f ds env st)
def nameT (i : Nat) : TgF := fun d env st => .ok (env.set i (some d)) st
def nilT : List D → Env → Sto → R Env := fun ds env st => match ds with
  | [] => .ok env st
  | _ => .fail
def consT (f : TgF) (fs : List D → Env → Sto → R Env) : List D → Env → Sto → R Env := fun ds env st => match ds with
  | d :: r => (match f d env st with
    | .ok env1 st1 => (match fs r env1 st1 with
      | .ok env2 st2 => .ok env2 st2
      | _ => .fail)
    | _ => .fail)
  | [] => .fail
def tupT (n : Nat) (fs : List D → Env → Sto → R Env) : TgF := fun d env st => match d with
  | .tup xs => if xs.length = n then fs xs env st else .fail
  | _ => .fail
def setD (o i d : D) (st : Sto) : Option Sto := match o, i with
  | .mut n, .int k => (match st[n]? with
    | some (.lst xs) => (ixN xs.length k).map fun j => st.set n (.lst (xs.set j d))
    | _ => none)
  | _, _ => none
def subT (fo fi : EvE) : TgF := fun d env st => (fo env st).bind fun o st1 => (fi env st1).bind fun i st2 => match setD o i d st2 with
  | some st3 => .ok env st3
  | none => .fail
def asgS (fa : EvE) (g : TgF) : SvS := fun env st => bindS (fa env st) env fun d st1 => bindS (g d env st1) env fun env1 st2 => .nx env1 st2
section
variable {X : Cx} {W : WX} {tg a b : Expr} {es : List Expr} {fa fb : EvE} {f : TgF} {fs : List D → Env → Sto → R Env} {pos : Pos}
theorem _root_.L2.PG.imp {t t' : TG} (h : PG X tg t) (i : ∀ v σ H Q, t' v σ H Q → t v σ H Q) : PG X tg t' := ⟨fun pins s σ H v u Q I r q => h.run pins s σ H v u Q I r (i v σ H Q q)⟩
theorem _root_.L2.PGs.imp {t t' : TGs} (h : PGs X es t) (i : ∀ v σ H Q, t' v σ H Q → t v σ H Q) : PGs X es t' := ⟨fun pins s σ H v u Q I r q => h.run pins s σ H v u Q I r (i v σ H Q q)⟩
theorem t_name {i : Nat} (h : PG X tg (gName i)) : PG X tg (rdG X.K W (nameT i)) := h.imp fun v σ H Q ⟨d, env, M, st, r, eo, so, p⟩ => p M H _ .refl so (eo.set i r)
theorem t_nil : PGs X [] (rdGs X.K W nilT) := pgs_nil.imp fun v σ H Q ⟨ds, env, M, st, r, eo, so, p⟩ => by
  cases ds with
  | nil => unfold RepL at r; exact ⟨r, p M H _ .refl so eo⟩
  | cons d ds => exact p.elim
theorem t_cons (h1 : PG X tg (rdG X.K W f)) (h2 : PGs X es (rdGs X.K W fs)) (hs : (assignEach (tg :: es) X.env).map (·.2) = assign tg X.env :: (assignEach es X.env).map (·.2)) : PGs X (tg :: es) (rdGs X.K W (consT f fs)) := (pgs_cons h1 h2 hs).imp fun v σ H Q ⟨ds, env, M, st, r, eo, so, p⟩ => by
  cases ds with
  | nil => exact p.elim
  | cons d ds =>
    unfold RepL at r
    obtain ⟨x, rr, rfl, r1, r2⟩ := r
    unfold consT at p
    cases e : f d env st with
    | exc x s => simp only [e] at p; exact p.elim
    | fail => simp only [e] at p; exact p.elim
    | ok env1 st1 =>
      simp only [e] at p
      refine ⟨x, rr, rfl, d, env, M, st, r1, eo, so, ?_⟩
      rw [e]
      intro M' H' σ' g so' eo'
      refine ⟨ds, env1, M', st1, r2.grow g, eo', so', ?_⟩
      cases e2 : fs ds env1 st1 with
      | exc x s => simp only [e2] at p; exact p.elim
      | fail => simp only [e2] at p; exact p.elim
      | ok env2 st2 =>
        simp only [e2] at p
        exact fun M2 H2 σ2 g2 so2 eo2 => p M2 H2 σ2 (g.trans g2) so2 eo2
theorem t_tup {n : Nat} {k : Nat} (h : PG X (.Tuple es k pos) (gTup X.K n (rdGs X.K W fs))) : PG X (.Tuple es k pos) (rdG X.K W (tupT n fs)) := h.imp fun v σ H Q ⟨d, env, M, st, r, eo, so, p⟩ => by
  unfold tupT at p
  split at p
  · rename_i xs
    split at p
    · rename_i hl
      unfold Rep at r
      obtain ⟨t, vs, rfl, fz, q⟩ := r
      exact ⟨t, vs, rfl, fz.sq, by rw [← q.length]; exact hl, xs, env, M, st, q, eo, so, p⟩
    · exact p.elim
  · exact p.elim
theorem setD_rep {K : PySem.W.Frag} {M : Mem} {H : Hp} {o i d : D} {st st' : Sto} {x y v : V} {Q : Hp → Prop} (so : StOk K M H st) (h : setD o i d st = some st') (r1 : Rep K M H o x) (r2 : Rep K M H i y) (r3 : Rep K M H d v)
    (q : ∀ H', Grow M H M H' → StOk K M H' st' → Q H') : rSetL x y v H Q := by
  unfold setD at h
  split at h
  · rename_i n k
    split at h
    · rename_i xs e
      obtain ⟨j, hj, rfl⟩ := Option.map_eq_some_iff.mp h
      unfold Rep at r1 r2
      obtain ⟨p, rfl, m⟩ := r1
      subst r2
      obtain ⟨vs, hv, rl⟩ := so.at_ n p _ m e
      rw [rl.length] at hj
      exact ⟨p, vs, k, j, rfl, rfl, hv, hj, q _ (.put so m) (so.putL m (rl.set r3 j))⟩
    · cases h
  · cases h
theorem t_sub (ha : PE X a (rdE X.K W fa)) (hb : PE X b (rdE X.K W fb)) (h0 : PG X (.Subscript a b pos) (gSub (rdE X.K W fa) (rdE X.K W fb) rSetL)) : PG X (.Subscript a b pos) (rdG X.K W (subT fa fb)) :=
  h0.imp fun v σ H Q ⟨d, env, M, st, r, eo, so, p⟩ => ⟨env, M, st, eo, so, Post.imp (Post.bind p) fun x H1 ⟨M1, st1, o, g, so1, ro, p1⟩ =>
    ⟨env, M1, st1, eo.grow g, so1, Post.imp (Post.bind (rep := Rep X.K) p1) fun y H2 ⟨M2, st2, i, g2, so2, ri, p2⟩ => by
      split at p2
      · rename_i st3 h
        exact setD_rep so2 h (ro.grow g2) ri (r.grow (g.trans g2)) fun H' g3 so3 => p2 M2 H' σ g3 so3 ((eo.grow (g.trans g2)).grow g3)
      · exact p2.elim⟩⟩
theorem s_asg {sp : Pos} (h0 : PS X (.Assign [tg] a sp) (tAsg (rdE X.K W fa) (rdG X.K W f))) : PS X (.Assign [tg] a sp) (rdS X.K W (asgS fa f)) :=
  h0.imp fun T σ H ⟨env, M, st, eo, so, p⟩ => ⟨env, M, st, eo, so, Post.imp (PostS.bind eo p) fun x H1 ⟨M1, st1, d, g, so1, ra, p1⟩ =>
    ⟨d, env, M1, st1, ra, eo.grow g, so1, Post.imp (PostS.bind (rep := EnvOk X.K) (eo.grow g) p1) fun σ2 H2 ⟨M2, st2, env2, g2, so2, eo2, p2⟩ => p2 M2 H2 σ2 .refl so2 eo2⟩⟩
end
end G
namespace G
open PySem PySem.Spec PyProof.Rows L2
inductive ItD where
  | frz (xs : List D)
  | gen (nxt : Nat → Sto → Option (Option D)) (most : Nat)
abbrev EvI := Env → Sto → R ItD
def ItRep (K : PySem.W.Frag) : RR ItD It := fun M H it J => match it with
  | .frz xs => ∀ i M' H' st', Keep M H M' H' → StOk K M' H' st' → (i = xs.length → J.stop i H') ∧ ∀ d, xs[i]? = some d → J.go i H' ∧ ∀ x H'', J.yld i H' x H'' → Grow M' H' M' H'' ∧ StOk K M' H'' st' ∧ Rep K M' H'' d x
  | .gen nxt _ => ∀ i M' H' st', Keep M H M' H' → StOk K M' H' st' → (nxt i st' = some none → J.stop i H') ∧ ∀ d, nxt i st' = some (some d) → J.go i H' ∧ ∀ x H'', J.yld i H' x H'' → Grow M' H' M' H'' ∧ StOk K M' H'' st' ∧ Rep K M' H'' d x
abbrev rdI (K : PySem.W.Frag) (W : WX) (f : EvI) : TI := rd K (ItRep K) W f
def mutNxt (n : Nat) : Nat → Sto → Option (Option D) := fun i st => match st[n]? with
  | some (.lst ys) => some ys[i]?
  | _ => none
def iterD (d : D) (st : Sto) : R ItD := match d with
  | .mut n => (match st[n]? with
    | some (.lst ys) => .ok (.gen (mutNxt n) ys.length) st
    | _ => .fail)
  | d => (match itemsOf d with
    | some xs => .ok (.frz xs) st
    | none => .fail)
def iterE (fa : EvE) : EvI := fun env st => (fa env st).bind iterD
section
variable {K : PySem.W.Frag} {M M' : Mem} {H H' : Hp}
theorem itt_rep {a : Addr} {xs : List D} {vs : List V} (f : FzT K M H a vs) (q : RepL K M H xs vs) : ItRep K M H (.frz xs) (Itt K a) := fun i M' H' st' g so => by
  have f' := (g.fzT f).sq
  have q' := q.kp g
  refine ⟨fun e => ⟨vs, f', by rw [← q.length]; omega⟩, fun d hd => ?_⟩
  obtain ⟨v, hv, r⟩ := q'.get hd
  refine ⟨⟨vs, v, f', hv⟩, fun x H'' ⟨e, hx⟩ => ?_⟩
  subst e
  have := hx vs f'
  rw [hv] at this; cases this
  exact ⟨.refl, so, r⟩
theorem itl_rep {a : Addr} {xs : List D} {vs : List V} (f : ∀ M' H', Keep M H M' H' → SqL K H' a vs) (q : RepL K M H xs vs) : ItRep K M H (.frz xs) (Itl K a) := fun i M' H' st' g so => by
  have f' := f _ _ g
  have q' := q.kp g
  refine ⟨fun e => ⟨vs, f', by rw [← q.length]; omega⟩, fun d hd => ?_⟩
  obtain ⟨v, hv, r⟩ := q'.get hd
  refine ⟨⟨vs, v, f', hv⟩, fun x H'' ⟨e, hx⟩ => ?_⟩
  subst e
  have := hx vs f'
  rw [hv] at this; cases this
  exact ⟨.refl, so, r⟩
theorem itm_rep {a : Addr} {n k : Nat} (m : M.m[n]? = some a) : ItRep K M H (.gen (mutNxt n) k) (Itl K a) := fun i M' H' st' g so => by
  have m' := g.pre n a m
  unfold mutNxt
  cases e : st'[n]? with
  | none => exact ⟨(by simp), fun d h => by simp at h⟩
  | some mo =>
    cases mo with
    | dk _ => exact ⟨(by simp), fun d h => by simp at h⟩
    | dt _ => exact ⟨(by simp), fun d h => by simp at h⟩
    | fk _ => exact ⟨(by simp), fun d h => by simp at h⟩
    | dd _ => exact ⟨(by simp), fun d h => by simp at h⟩
    | de _ => exact ⟨(by simp), fun d h => by simp at h⟩
    | fd _ => exact ⟨(by simp), fun d h => by simp at h⟩
    | fe _ => exact ⟨(by simp), fun d h => by simp at h⟩
    | lst ys =>
      obtain ⟨vs, hv, q⟩ := so.at_ n a _ m' e
      refine ⟨fun h => ⟨vs, .of hv, ?_⟩, fun d h => ?_⟩
      · have h : ys[i]? = none := by simpa using h
        rw [← q.length]; exact List.getElem?_eq_none_iff.mp h
      · have h : ys[i]? = some d := by simpa using h
        obtain ⟨v, h1, r⟩ := q.get h
        refine ⟨⟨vs, v, .of hv, h1⟩, fun x H'' ⟨e, hx⟩ => ?_⟩
        subst e
        have := hx vs (.of hv)
        rw [h1] at this; cases this
        exact ⟨.refl, so, r⟩
theorem itr_rep {lo : Int} {n : Nat} : ItRep K M H (.frz ((List.range n).map fun k => .int (lo + (k : Nat)))) (Itr lo n) := fun i M' H' st' g so => by
  refine ⟨fun e => ?_, fun d hd => ?_⟩
  · have : i = n := by simpa using e
    exact Nat.le_of_eq this.symm
  · rw [List.getElem?_map] at hd
    obtain ⟨k, hk, rfl⟩ := Option.map_eq_some_iff.mp hd
    obtain ⟨hk1, hk2⟩ := List.getElem?_eq_some_iff.mp hk
    have hn : i < n := by simpa using hk1
    simp at hk2
    subst hk2
    refine ⟨hn, fun x H'' ⟨e1, e2⟩ => ?_⟩
    subst e1 e2
    exact ⟨.refl, so, rep_int _ _ _⟩
end
section
variable {X : Cx} {W : WX} {tg l : Expr} {fa : EvE}
theorem g_iter (hl : PE X l (rdE X.K W fa)) : PI X tg l (rdI X.K W (iterE fa)) := ⟨fun pins s σ H R' I ⟨env, M, st, eo, so, p⟩ => by
  unfold iterE at p
  have useL : (∀ d st1, fa env st = .ok d st1 → ∀ M' H' v, Grow M H M' H' → StOk X.K M' H' st1 → Rep X.K M' H' d v → ∃ a, v = .ref a ∧ (∃ xs, SqL X.K H' a xs) ∧ R' (Itl X.K a) H') → (∀ st1, fa env st ≠ .fail) →
      (∀ e st1, fa env st = .exc e st1 → Post X.K (Rep X.K) M H (fun _ _ => False) (WE W σ) (fa env st)) → wpAny (model X.prog X.w) X.A (eval l X.env) (fun v s1 => wpAny (model X.prog X.w) X.A (pyIter v) (PIE X pins σ tg R') X.xe s1) X.xe s := fun h1 h2 h3 =>
    (pi_list hl).run pins s σ H R' I ⟨env, M, st, eo, so, by
      cases e : fa env st with
      | ok d st1 => exact h1 d st1 e
      | exc x st1 => have := h3 x st1 e; rw [e] at this; exact this
      | fail => exact absurd e (h2 st)⟩
  cases e : fa env st with
  | fail => rw [e] at p; exact p.elim
  | exc x st1 =>
    refine useL (fun d st1 e' => by rw [e] at e'; cases e') (fun st1 e' => by rw [e] at e'; cases e') fun x' st1' e' => ?_
    rw [e] at p ⊢
    exact p
  | ok d st1 =>
    rw [e] at p
    have p : Post X.K (ItRep X.K) M H R' (WE W σ) (iterD d st1) := p
    unfold iterD at p
    have fin : (∀ M' H' v, Grow M H M' H' → StOk X.K M' H' st1 → Rep X.K M' H' d v → ∃ a, v = .ref a ∧ (∃ xs, SqL X.K H' a xs) ∧ R' (Itl X.K a) H') → wpAny (model X.prog X.w) X.A (eval l X.env) (fun v s1 => wpAny (model X.prog X.w) X.A (pyIter v) (PIE X pins σ tg R') X.xe s1) X.xe s := fun h =>
      useL (fun d' st1' e' => by rw [e] at e'; cases e'; exact h) (fun st1 e' => by rw [e] at e'; cases e') fun x' st1' e' => by rw [e] at e'; cases e'
    cases d with
    | «mut» n =>
      split at p
      · rename_i n' h
        cases h
        split at p
        · rename_i ys e2
          refine fin fun M' H' v g so' r => ?_
          unfold Rep at r
          obtain ⟨a, rfl, m⟩ := r
          obtain ⟨vs, hv, _⟩ := so'.at_ n a _ m e2
          exact ⟨a, rfl, ⟨vs, .of hv⟩, p M' H' _ g so' (itm_rep m)⟩
        · exact p.elim
      · rename_i h
        exact absurd rfl (h n)
    | tup xs =>
      refine (pi_tup hl).run pins s σ H R' I ⟨env, M, st, eo, so, ?_⟩
      rw [e]
      intro M' H' v g so' r
      unfold Rep at r
      obtain ⟨a, vs, rfl, f, q⟩ := r
      exact ⟨a, rfl, ⟨vs, f.sq⟩, p M' H' _ g so' (itt_rep f q)⟩
    | lst xs =>
      refine fin fun M' H' v g so' r => ?_
      unfold Rep at r
      obtain ⟨a, vs, rfl, f, q⟩ := r
      exact ⟨a, rfl, ⟨vs, f.sq⟩, p M' H' _ g so' (itl_rep (fun M2 H2 g2 => .of (g2.keep _ _ f.1 f.2).1) q)⟩
    | slo xs =>
      refine fin fun M' H' v g so' r => ?_
      unfold Rep at r
      obtain ⟨a, vs, rfl, f, q⟩ := r
      exact ⟨a, rfl, ⟨vs, f.sq⟩, p M' H' _ g so' (itl_rep (fun M2 H2 g2 => (g2.fzL f).sq) q)⟩
    | non => exact p.elim
    | bl _ => exact p.elim
    | int _ => exact p.elim
    | str _ => exact p.elim
    | raw _ => exact p.elim
    | fn _ => exact p.elim
    | emp => exact p.elim
    | rg _ _ => exact p.elim
    | exv => exact p.elim
    | dic => exact p.elim⟩
end
def range1F (as : List D) (st : Sto) : R ItD := match as with
  | [.int j] => if j.natAbs < 2 ^ 62 then .ok (.frz ((List.range j.toNat).map fun k => .int (0 + (k : Nat)))) st else .fail
  | _ => .fail
def range2F (as : List D) (st : Sto) : R ItD := match as with
  | [.int i, .int j] => if i.natAbs < 2 ^ 62 ∧ j.natAbs < 2 ^ 62 then .ok (.frz ((List.range (j - i).toNat).map fun k => .int (i + (k : Nat)))) st else .fail
  | _ => .fail
def enumL (xs : List D) : List D := (List.range xs.length).zipWith (fun (i : Nat) x => .tup [.int (i : Nat), x]) xs
def enumNxt (n : Nat) : Nat → Sto → Option (Option D) := fun i st => match st[n]? with
  | some (.lst ys) => some ((ys[i]?).map fun x => .tup [.int (i : Nat), x])
  | _ => none
def zipO : Option D → Option D → Option D
  | some x, some y => some (.tup [x, y])
  | _, _ => none
def zipNxt (n m : Nat) : Nat → Sto → Option (Option D) := fun i st => match st[n]?, st[m]? with
  | some (.lst xs), some (.lst ys) => some (zipO xs[i]? ys[i]?)
  | _, _ => none
def enumF (as : List D) (st : Sto) : R ItD := match as with
  | [.mut n] => (match st[n]? with
    | some (.lst ys) => .ok (.gen (enumNxt n) ys.length) st
    | _ => .fail)
  | [d] => (match itemsOf d with
    | some xs => .ok (.frz (enumL xs)) st
    | none => .fail)
  | _ => .fail
def zipF (as : List D) (st : Sto) : R ItD := match as with
  | [.tup xs, .tup ys] => .ok (.frz (xs.zipWith (fun x y => .tup [x, y]) ys)) st
  | [.lst xs, .lst ys] => .ok (.frz (xs.zipWith (fun x y => .tup [x, y]) ys)) st
  | [.mut n, .mut m] => (match st[n]?, st[m]? with
    | some (.lst xs), some (.lst _) => .ok (.gen (zipNxt n m) xs.length) st
    | _, _ => .fail)
  | _ => .fail
def callI (f : List D → Sto → R ItD) (fs : EvA) : EvI := fun env st => (fs env st).bind f
section
variable {K : PySem.W.Frag} {M M' : Mem} {H H' : Hp}
theorem enumL_get {xs : List D} {i : Nat} {d : D} (h : (enumL xs)[i]? = some d) : ∃ x, xs[i]? = some x ∧ d = .tup [.int (i : Nat), x] := by
  unfold enumL at h
  rw [List.getElem?_zipWith] at h
  cases e : xs[i]? with
  | none => rw [e] at h; cases e2 : (List.range xs.length)[i]? <;> rw [e2] at h <;> simp at h
  | some x =>
    have hl := (List.getElem?_eq_some_iff.mp e).1
    rw [e, List.getElem?_range hl] at h
    simp at h
    exact ⟨x, rfl, h.symm⟩
@[simp] theorem enumL_length (xs : List D) : (enumL xs).length = xs.length := by simp [enumL]
theorem pair_new {st : Sto} {x y : D} {u v : V} {T : Addr} (so : StOk K M H st) (rx : Rep K M H x u) (ry : Rep K M H y v) (hT : H T = none) : Grow M H M (upd H T (.tup [u, v])) ∧ StOk K M (upd H T (.tup [u, v])) st ∧ Rep K M (upd H T (.tup [u, v])) (.tup [x, y]) (.ref T) :=
  ⟨.laid so hT, so.laid hT, rep_tup so (.cons rx (.cons ry .nil)) hT⟩
theorem ite_rep {a : Addr} {xs : List D} {vs : List V} (f : ∀ M' H', Keep M H M' H' → SqL K H' a vs) (q : RepL K M H xs vs) : ItRep K M H (.frz (enumL xs)) (Ite K a) := fun i M' H' st' g so => by
  have f' := f _ _ g
  have q' := q.kp g
  refine ⟨fun e => ⟨vs, f', by rw [← q.length]; simp at e; omega⟩, fun d hd => ?_⟩
  obtain ⟨x, hx, rfl⟩ := enumL_get hd
  obtain ⟨v, hv, r⟩ := q'.get hx
  refine ⟨⟨vs, v, f', hv⟩, fun z H'' ⟨T, y, e1, e2, e3, e4⟩ => ?_⟩
  have := e4 vs f'
  rw [hv] at this; cases this
  subst e1 e3
  exact pair_new so (rep_int _ _ _) r e2
theorem item_rep {a : Addr} {n k : Nat} (m : M.m[n]? = some a) : ItRep K M H (.gen (enumNxt n) k) (Ite K a) := fun i M' H' st' g so => by
  have m' := g.pre n a m
  cases e : st'[n]? with
  | none => exact ⟨fun h => by simp [enumNxt, e] at h, fun d h => by simp [enumNxt, e] at h⟩
  | some mo =>
    cases mo with
    | dk _ => exact ⟨fun h => by simp [enumNxt, e] at h, fun d h => by simp [enumNxt, e] at h⟩
    | dt _ => exact ⟨fun h => by simp [enumNxt, e] at h, fun d h => by simp [enumNxt, e] at h⟩
    | fk _ => exact ⟨fun h => by simp [enumNxt, e] at h, fun d h => by simp [enumNxt, e] at h⟩
    | dd _ => exact ⟨fun h => by simp [enumNxt, e] at h, fun d h => by simp [enumNxt, e] at h⟩
    | de _ => exact ⟨fun h => by simp [enumNxt, e] at h, fun d h => by simp [enumNxt, e] at h⟩
    | fd _ => exact ⟨fun h => by simp [enumNxt, e] at h, fun d h => by simp [enumNxt, e] at h⟩
    | fe _ => exact ⟨fun h => by simp [enumNxt, e] at h, fun d h => by simp [enumNxt, e] at h⟩
    | lst ys =>
      obtain ⟨vs, hv, q⟩ := so.at_ n a _ m' e
      refine ⟨fun h => ⟨vs, .of hv, ?_⟩, fun d h => ?_⟩
      · have h : ys[i]? = none := by simpa [enumNxt, e] using h
        rw [← q.length]; exact List.getElem?_eq_none_iff.mp h
      · obtain ⟨y, e2, rfl⟩ : ∃ y, ys[i]? = some y ∧ D.tup [.int (i : Nat), y] = d := by simpa [enumNxt, e] using h
        obtain ⟨v, h1, r⟩ := q.get e2
        refine ⟨⟨vs, v, .of hv, h1⟩, fun x H'' ⟨T, y', e1, e2, e3, e4⟩ => ?_⟩
        have := e4 vs (.of hv)
        rw [h1] at this; cases this
        subst e1 e3
        exact pair_new so (rep_int _ _ _) r e2
theorem zipO_some {x y : Option D} {d : D} (h : zipO x y = some d) : ∃ a b, x = some a ∧ y = some b ∧ d = .tup [a, b] := by
  unfold zipO at h
  split at h
  · cases h; exact ⟨_, _, rfl, rfl, rfl⟩
  · cases h
theorem zipO_none {x y : Option D} (h : zipO x y = none) : x = none ∨ y = none := by
  cases x with
  | none => exact .inl rfl
  | some a =>
    cases y with
    | none => exact .inr rfl
    | some b => cases h
theorem izm_rep {a b : Addr} {n m k : Nat} (ma : M.m[n]? = some a) (mb : M.m[m]? = some b) : ItRep K M H (.gen (zipNxt n m) k) (Itz K a b) := fun i M' H' st' g so => by
  have ma' := g.pre n a ma
  have mb' := g.pre m b mb
  cases ea : st'[n]? with
  | none => exact ⟨fun h => by simp [zipNxt, ea] at h, fun d h => by simp [zipNxt, ea] at h⟩
  | some mo =>
    cases eb : st'[m]? with
    | none => exact ⟨fun h => by simp [zipNxt, ea, eb] at h, fun d h => by simp [zipNxt, ea, eb] at h⟩
    | some mo2 =>
      cases mo with
      | dk _ => exact ⟨fun h => by simp [zipNxt, ea, eb] at h, fun d h => by simp [zipNxt, ea, eb] at h⟩
      | dt _ => exact ⟨fun h => by simp [zipNxt, ea, eb] at h, fun d h => by simp [zipNxt, ea, eb] at h⟩
      | fk _ => exact ⟨fun h => by simp [zipNxt, ea, eb] at h, fun d h => by simp [zipNxt, ea, eb] at h⟩
      | dd _ => exact ⟨fun h => by simp [zipNxt, ea, eb] at h, fun d h => by simp [zipNxt, ea, eb] at h⟩
      | de _ => exact ⟨fun h => by simp [zipNxt, ea, eb] at h, fun d h => by simp [zipNxt, ea, eb] at h⟩
      | fd _ => exact ⟨fun h => by simp [zipNxt, ea, eb] at h, fun d h => by simp [zipNxt, ea, eb] at h⟩
      | fe _ => exact ⟨fun h => by simp [zipNxt, ea, eb] at h, fun d h => by simp [zipNxt, ea, eb] at h⟩
      | lst xs =>
        cases mo2 with
        | dk _ => exact ⟨fun h => by simp [zipNxt, ea, eb] at h, fun d h => by simp [zipNxt, ea, eb] at h⟩
        | dt _ => exact ⟨fun h => by simp [zipNxt, ea, eb] at h, fun d h => by simp [zipNxt, ea, eb] at h⟩
        | fk _ => exact ⟨fun h => by simp [zipNxt, ea, eb] at h, fun d h => by simp [zipNxt, ea, eb] at h⟩
        | dd _ => exact ⟨fun h => by simp [zipNxt, ea, eb] at h, fun d h => by simp [zipNxt, ea, eb] at h⟩
        | de _ => exact ⟨fun h => by simp [zipNxt, ea, eb] at h, fun d h => by simp [zipNxt, ea, eb] at h⟩
        | fd _ => exact ⟨fun h => by simp [zipNxt, ea, eb] at h, fun d h => by simp [zipNxt, ea, eb] at h⟩
        | fe _ => exact ⟨fun h => by simp [zipNxt, ea, eb] at h, fun d h => by simp [zipNxt, ea, eb] at h⟩
        | lst ys =>
          obtain ⟨vs, hv, q⟩ := so.at_ n a _ ma' ea
          obtain ⟨ws, hw, q2⟩ := so.at_ m b _ mb' eb
          refine ⟨fun h => ⟨vs, ws, .of hv, .of hw, ?_⟩, fun d h => ?_⟩
          · have h : zipO xs[i]? ys[i]? = none := by simpa [zipNxt, ea, eb] using h
            rw [← q.length, ← q2.length]
            exact (zipO_none h).imp List.getElem?_eq_none_iff.mp List.getElem?_eq_none_iff.mp
          · have h : zipO xs[i]? ys[i]? = some d := by simpa [zipNxt, ea, eb] using h
            obtain ⟨x, y, e1, e2, rfl⟩ := zipO_some h
            obtain ⟨v, h1, r⟩ := q.get e1
            obtain ⟨w, h2, r2⟩ := q2.get e2
            refine ⟨⟨vs, ws, v, w, .of hv, .of hw, h1, h2⟩, fun z H'' ⟨T, x', y', e1, e2, e3, e4, e5⟩ => ?_⟩
            have := e4 vs (.of hv)
            rw [h1] at this; cases this
            have := e5 ws (.of hw)
            rw [h2] at this; cases this
            subst e1 e3
            exact pair_new so r r2 e2
theorem zipW_get {xs ys : List D} {i : Nat} {d : D} (h : (xs.zipWith (fun x y => D.tup [x, y]) ys)[i]? = some d) : ∃ x y, xs[i]? = some x ∧ ys[i]? = some y ∧ d = .tup [x, y] := by
  rw [List.getElem?_zipWith] at h
  cases e : xs[i]? with
  | none => rw [e] at h; simp at h
  | some x =>
    cases e2 : ys[i]? with
    | none => rw [e, e2] at h; simp at h
    | some y => rw [e, e2] at h; simp at h; exact ⟨x, y, rfl, rfl, h.symm⟩
theorem itz_rep {a b : Addr} {xs ys : List D} {vs ws : List V} (f : ∀ M' H', Keep M H M' H' → SqL K H' a vs) (q : RepL K M H xs vs) (f2 : ∀ M' H', Keep M H M' H' → SqL K H' b ws) (q2 : RepL K M H ys ws) :
    ItRep K M H (.frz (xs.zipWith (fun x y => .tup [x, y]) ys)) (Itz K a b) := fun i M' H' st' g so => by
  have f' := f _ _ g
  have q' := q.kp g
  have f2' := f2 _ _ g
  have q2' := q2.kp g
  refine ⟨fun e => ⟨vs, ws, f', f2', by rw [← q.length, ← q2.length]; simp at e; omega⟩, fun d hd => ?_⟩
  obtain ⟨x, y, hx, hy, rfl⟩ := zipW_get hd
  obtain ⟨v, hv, r⟩ := q'.get hx
  obtain ⟨w, hw, r2⟩ := q2'.get hy
  refine ⟨⟨vs, ws, v, w, f', f2', hv, hw⟩, fun z H'' ⟨T, x', y', e1, e2, e3, e4, e5⟩ => ?_⟩
  have := e4 vs f'
  rw [hv] at this; cases this
  have := e5 ws f2'
  rw [hw] at this; cases this
  subst e1 e3
  exact pair_new so r r2 e2
theorem itzt_rep {a b : Addr} {xs ys : List D} {vs ws : List V} (f : FzT K M H a vs) (q : RepL K M H xs vs) (f2 : FzT K M H b ws) (q2 : RepL K M H ys ws) :
    ItRep K M H (.frz (xs.zipWith (fun x y => .tup [x, y]) ys)) (RZ.ItzT K a b) := fun i M' H' st' g so => by
  have f' := (g.fzT f).sq
  have q' := q.kp g
  have f2' := (g.fzT f2).sq
  have q2' := q2.kp g
  refine ⟨fun e => ⟨vs, ws, f', f2', by rw [← q.length, ← q2.length]; simp at e; omega⟩, fun d hd => ?_⟩
  obtain ⟨x, y, hx, hy, rfl⟩ := zipW_get hd
  obtain ⟨v, hv, r⟩ := q'.get hx
  obtain ⟨w, hw, r2⟩ := q2'.get hy
  refine ⟨⟨vs, ws, v, w, f', f2', hv, hw⟩, fun z H'' ⟨T, x', y', e1, e2, e3, e4, e5⟩ => ?_⟩
  have := e4 vs f'
  rw [hv] at this; cases this
  have := e5 ws f2'
  rw [hw] at this; cases this
  subst e1 e3
  exact pair_new so r r2 e2
end
section
variable {X : Cx} {W : WX} {tg it : Expr} {fs : EvA}
theorem _root_.L2.PI.imp {t t' : TI} (h : PI X tg it t) (i : ∀ σ H R, t' σ H R → t σ H R) : PI X tg it t' := ⟨fun pins s σ H R I q => h.run pins s σ H R I (i σ H R q)⟩
theorem g_range1 (h : PI X tg it (iRng1 (rdA X.K W fs))) : PI X tg it (rdI X.K W (callI range1F fs)) := h.imp fun σ H R' ⟨env, M, st, eo, so, p⟩ => ⟨env, M, st, eo, so, Post.imp (Post.bind p) fun vs H1 ⟨M1, st1, as, g, so1, ra, p1⟩ => by
  unfold range1F at p1
  split at p1
  · split at p1
    · rename_i j hj
      obtain ⟨x, rfl, rx⟩ := ra.one
      rw [rep_int_iff] at rx; subst rx
      exact ⟨j, rfl, by omega, by omega, p1 M1 H1 _ .refl so1 itr_rep⟩
    · exact p1.elim
  · exact p1.elim⟩
theorem g_range2 (h : PI X tg it (iRng2 (rdA X.K W fs))) : PI X tg it (rdI X.K W (callI range2F fs)) := h.imp fun σ H R' ⟨env, M, st, eo, so, p⟩ => ⟨env, M, st, eo, so, Post.imp (Post.bind p) fun vs H1 ⟨M1, st1, as, g, so1, ra, p1⟩ => by
  unfold range2F at p1
  split at p1
  · split at p1
    · rename_i i j hj
      obtain ⟨x, y, rfl, rx, ry⟩ := ra.two
      rw [rep_int_iff] at rx ry; subst rx ry
      exact ⟨i, j, rfl, by omega, p1 M1 H1 _ .refl so1 itr_rep⟩
    · exact p1.elim
  · exact p1.elim⟩
theorem g_zip (h : PI X tg it (RZ.iZipA X.K (rdA X.K W fs))) : PI X tg it (rdI X.K W (callI zipF fs)) := h.imp fun σ H R' ⟨env, M, st, eo, so, p⟩ => ⟨env, M, st, eo, so, Post.imp (Post.bind p) fun vs H1 ⟨M1, st1, as, g, so1, ra, p1⟩ => by
  unfold zipF at p1
  split at p1
  · obtain ⟨x, y, rfl, rx, ry⟩ := ra.two
    unfold Rep at rx ry
    obtain ⟨a, vs, rfl, f, q⟩ := rx
    obtain ⟨b, ws, rfl, f2, q2⟩ := ry
    exact ⟨a, b, vs, ws, rfl, .inr ⟨f.sq, f2.sq, p1 M1 H1 _ .refl so1 (itzt_rep f q f2 q2)⟩⟩
  · obtain ⟨x, y, rfl, rx, ry⟩ := ra.two
    unfold Rep at rx ry
    obtain ⟨a, vs, rfl, f, q⟩ := rx
    obtain ⟨b, ws, rfl, f2, q2⟩ := ry
    exact ⟨a, b, vs, ws, rfl, .inl ⟨f.sq, f2.sq, p1 M1 H1 _ .refl so1 (itz_rep (fun _ _ g => .of (g.keep _ _ f.1 f.2).1) q (fun _ _ g => .of (g.keep _ _ f2.1 f2.2).1) q2)⟩⟩
  · rename_i n m
    obtain ⟨x, y, rfl, rx, ry⟩ := ra.two
    unfold Rep at rx ry
    obtain ⟨a, rfl, ma⟩ := rx
    obtain ⟨b, rfl, mb⟩ := ry
    split at p1
    · rename_i ea eb
      obtain ⟨vs, hv, _⟩ := so1.at_ n a _ ma ea
      obtain ⟨ws, hw, _⟩ := so1.at_ m b _ mb eb
      exact ⟨a, b, vs, ws, rfl, .inl ⟨.of hv, .of hw, p1 M1 H1 _ .refl so1 (izm_rep ma mb)⟩⟩
    · exact p1.elim
  · exact p1.elim⟩
end
def turnS (s : S) (k : Env → Sto → S) : S := match s with
  | .nx e st => k e st
  | .cont e st => k e st
  | .brk e st => .nx e st
  | s => s
def loopF (g : TgF) (body : SvS) : List D → SvS
  | [], env, st => .nx env st
  | x :: xs, env, st => turnS (bindS (g x env st) env body) (loopF g body xs)
def loopG (g : TgF) (body : SvS) (nxt : Nat → Sto → Option (Option D)) : Nat → Nat → SvS
  | 0, i, env, st => match nxt i st with
    | some none => .nx env st
    | _ => .fail
  | k + 1, i, env, st => match nxt i st with
    | some none => .nx env st
    | some (some x) => turnS (bindS (g x env st) env body) (loopG g body nxt k (i + 1))
    | none => .fail
def forS (it : EvI) (g : TgF) (body : SvS) : SvS := fun env st => bindS (it env st) env fun I st1 => match I with
  | .frz xs => loopF g body xs env st1
  | .gen nxt k => loopG g body nxt k 0 env st1
section
variable {X : Cx} {W : WX} {g : TgF} {body : SvS} {K : PySem.W.Frag}
theorem turn_rd {M0 M : Mem} {H0 H : Hp} {T : Ends} {env : Env} {st : Sto} {σ : L2.St} {d : D} {x : V} {k : Env → Sto → S} {N : L2.St → Hp → Prop} (gr : Grow M0 H0 M H) (eo : EnvOk K M H env σ) (so : StOk K M H st) (r : Rep K M H d x)
    (p : PostS K M H T W (turnS (bindS (g d env st) env body) k))
    (hN : ∀ env' M' H' st' σ', Grow M0 H0 M' H' → EnvOk K M' H' env' σ' → StOk K M' H' st' → PostS K M' H' T W (k env' st') → N σ' H') :
    rdG K W g x σ H fun σ2 H2 => rdS K W body { T with nx := N, ct := N, bk := T.nx } σ2 H2 := by
  refine ⟨d, env, M, st, r, eo, so, ?_⟩
  cases e : g d env st with
  | fail => rw [e] at p; exact p.elim
  | exc x st1 => rw [e] at p; exact fun M' H' c od g' so' h => p M' H' σ c od g' so' (eo.grow g') h
  | ok env1 st1 =>
    rw [e] at p
    intro M' H' σ' g' so' eo'
    refine ⟨env1, M', st1, eo', so', ?_⟩
    have p : PostS K M H T W (turnS (body env1 st1) k) := p
    unfold turnS at p
    cases e2 : body env1 st1 with
    | nx env2 st2 => rw [e2] at p; exact fun M2 H2 σ2 g2 so2 eo2 => hN env2 M2 H2 st2 σ2 ((gr.trans g').trans g2) eo2 so2 (PostS.mono (g'.trans g2) p)
    | cont env2 st2 => rw [e2] at p; exact fun M2 H2 σ2 g2 so2 eo2 => hN env2 M2 H2 st2 σ2 ((gr.trans g').trans g2) eo2 so2 (PostS.mono (g'.trans g2) p)
    | brk env2 st2 => rw [e2] at p; exact PostS.mono g' p
    | ret d2 st2 => rw [e2] at p; exact PostS.mono g' p
    | exc c env2 st2 => rw [e2] at p; exact PostS.mono g' p
    | fail => rw [e2] at p; exact p.elim
theorem rd_for {it : EvI} : ∀ T σ H, rdS K W (forS it g body) T σ H → tFor (rdI K W it) (rdG K W g) (rdS K W body) T σ H :=
  fun T σ H ⟨env, M, st, eo, so, p⟩ => ⟨env, M, st, eo, so, Post.imp (PostS.bind eo p) fun J H1 ⟨M1, st1, I, g1, so1, ri, p1⟩ => by
    cases I with
    | frz xs =>
      have p1 : PostS K M1 H1 T W (loopF g body xs env st1) := p1
      refine ⟨fun i m σ' H' => m = xs.length - i ∧ i ≤ xs.length ∧ ∃ env' M' st', Grow M1 H1 M' H' ∧ EnvOk K M' H' env' σ' ∧ StOk K M' H' st' ∧ PostS K M' H' T W (loopF g body (xs.drop i) env' st'),
        ⟨xs.length, by simp, Nat.zero_le _, env, M1, st1, .refl, eo.grow g1, so1, by simpa using p1⟩, ?_⟩
      rintro i m σ' H' ⟨rfl, hi, env', M', st', gr, eo', so', q⟩
      obtain ⟨r1, r2⟩ := ri i M' H' st' gr.k so'
      by_cases hlt : i < xs.length
      · have hd : xs[i]? = some xs[i] := List.getElem?_eq_getElem hlt
        obtain ⟨r3, r4⟩ := r2 _ hd
        refine .inr ⟨r3, _, fun σ2 H2 h => ⟨xs.length - (i + 1), by omega, rfl, hlt, h⟩, fun x H2 hy => ?_⟩
        obtain ⟨g2, so2, rx⟩ := r4 x H2 hy
        rw [List.drop_eq_getElem_cons hlt] at q
        exact turn_rd (gr.trans g2) (eo'.grow g2) so2 rx (PostS.mono g2 q) fun env3 M3 H3 st3 σ3 g3 eo3 so3 p3 => ⟨env3, M3, st3, g3, eo3, so3, p3⟩
      · have e : i = xs.length := by omega
        refine .inl ⟨r1 e, ?_⟩
        rw [e, List.drop_length] at q
        exact q M' H' σ' .refl so' eo'
    | gen nxt k =>
      have p1 : PostS K M1 H1 T W (loopG g body nxt k 0 env st1) := p1
      refine ⟨fun i m σ' H' => ∃ env' M' st', Grow M1 H1 M' H' ∧ EnvOk K M' H' env' σ' ∧ StOk K M' H' st' ∧ PostS K M' H' T W (loopG g body nxt m i env' st'),
        ⟨k, env, M1, st1, .refl, eo.grow g1, so1, p1⟩, ?_⟩
      rintro i m σ' H' ⟨env', M', st', gr, eo', so', q⟩
      obtain ⟨r1, r2⟩ := ri i M' H' st' gr.k so'
      cases m with
      | zero =>
        unfold loopG at q
        cases e : nxt i st' with
        | none => rw [e] at q; exact q.elim
        | some o =>
          cases o with
          | some x => rw [e] at q; exact q.elim
          | none => rw [e] at q; exact .inl ⟨r1 e, q M' H' σ' .refl so' eo'⟩
      | succ m =>
        unfold loopG at q
        cases e : nxt i st' with
        | none => rw [e] at q; exact q.elim
        | some o =>
          cases o with
          | none => rw [e] at q; exact .inl ⟨r1 e, q M' H' σ' .refl so' eo'⟩
          | some d =>
            rw [e] at q
            obtain ⟨r3, r4⟩ := r2 _ e
            refine .inr ⟨r3, _, fun σ2 H2 h => ⟨m, by omega, h⟩, fun x H2 hy => ?_⟩
            obtain ⟨g2, so2, rx⟩ := r4 x H2 hy
            exact turn_rd (gr.trans g2) (eo'.grow g2) so2 rx (PostS.mono g2 q) fun env3 M3 H3 st3 σ3 g3 eo3 so3 p3 => ⟨env3, M3, st3, g3, eo3, so3, p3⟩⟩
theorem s_for {it : EvI} {s : Stmt} (h : PS X s (tFor (rdI X.K W it) (rdG X.K W g) (rdS X.K W body))) : PS X s (rdS X.K W (forS it g body)) := h.imp rd_for
end
end G
namespace G
open PySem PySem.Spec PyProof.Rows L2
inductive Tg where
  | nm (i : Nat) | tp (ts : List Tg)
def gTL (K : PySem.W.Frag) (n : Nat) (t : TGs) : TG := fun v σ H Q => ∃ a xs, v = .ref a ∧ (SqT K H a xs ∨ SqL K H a xs) ∧ xs.length = n ∧ t xs σ H Q
theorem pg_tl {X : Cx} {pos : Pos} {es : List Expr} {k : Nat} {t : TGs} {n : Nat} (hc : X.calm = true) (h : PGs X es t)
    (hn : (assignEach es X.env).length = n := by rfl) (hst : (assignEach es X.env).findIdx? (·.1) = none := by rfl) : PG X (.Tuple es k pos) (gTL X.K n t) := by
  refine ⟨fun pins s σ H v u Q I r hw => ?_⟩
  obtain ⟨a, xs, e1, hq, hl, hw⟩ := hw
  rcases hq with hq | hq
  · exact (pg_tup hc h hn hst).run pins s σ H v u Q I r ⟨a, xs, e1, hq, hl, hw⟩
  · exact (pg_lst hc h hn hst).run pins s σ H v u Q I r ⟨a, xs, e1, hq, hl, hw⟩
mutual
def Tg.raw (K : PySem.W.Frag) : Tg → TG
  | .nm i => gName i
  | .tp ts => gTL K ts.length (Tg.raws K ts)
def Tg.raws (K : PySem.W.Frag) : List Tg → TGs
  | [] => gNil
  | t :: ts => gCons (Tg.raw K t) (Tg.raws K ts)
end
mutual
def Tg.set : Tg → D → Env → Option Env
  | .nm i, d, env => some (env.set i (some d))
  | .tp ts, .tup xs, env => Tg.sets ts xs env
  | .tp ts, .lst xs, env => Tg.sets ts xs env
  | .tp _, _, _ => none
def Tg.sets : List Tg → List D → Env → Option Env
  | [], [], env => some env
  | t :: ts, x :: xs, env => (Tg.set t x env).bind (Tg.sets ts xs)
  | _, _, _ => none
end
mutual
def Tg.names : Tg → List Nat
  | .nm i => [i]
  | .tp ts => Tg.namess ts
def Tg.namess : List Tg → List Nat
  | [] => []
  | t :: ts => Tg.names t ++ Tg.namess ts
end
theorem Tg.sets_len : ∀ {ts : List Tg} {xs : List D} {env env' : Env}, Tg.sets ts xs env = some env' → xs.length = ts.length
  | [], [], _, _, _ => rfl
  | t :: ts, x :: xs, env, env', h => by
    unfold Tg.sets at h
    obtain ⟨e1, _, h2⟩ := Option.bind_eq_some_iff.mp h
    simp [Tg.sets_len h2]
  | [], _ :: _, _, _, h => by unfold Tg.sets at h; cases h
  | _ :: _, [], _, _, h => by unfold Tg.sets at h; cases h
theorem wipe_in {σ : L2.St} {i : Nat} : ∀ {vs : List Nat}, i ∈ vs → (L2.wipe σ vs)[i]? = if i < σ.length then some none else none
  | v :: vs, h => by
    unfold L2.wipe
    by_cases e : v = i
    · subst e
      by_cases hv : v < σ.length
      · rw [if_pos hv, List.getElem?_set_self (by rw [wipe_length]; exact hv)]
      · rw [if_neg hv, List.getElem?_eq_none (by rw [List.length_set, wipe_length]; omega)]
    · rw [List.getElem?_set_ne e]
      exact wipe_in ((List.mem_cons.mp h).resolve_left fun z => e z.symm)
theorem wipe_set {σ : L2.St} {i : Nat} {o : Option V} {vs : List Nat} (h : i ∈ vs) : L2.wipe (σ.set i o) vs = L2.wipe σ vs := by
  apply List.ext_getElem?
  intro j
  by_cases hj : j ∈ vs
  · rw [wipe_in hj, wipe_in hj, List.length_set]
  · rw [wipe_out hj, wipe_out hj, List.getElem?_set_ne]
    rintro rfl; exact hj h
theorem wipe_wipe {σ : L2.St} {vs : List Nat} : L2.wipe (L2.wipe σ vs) vs = L2.wipe σ vs := by
  apply List.ext_getElem?
  intro j
  by_cases hj : j ∈ vs
  · rw [wipe_in hj, wipe_in hj, wipe_length]
  · rw [wipe_out hj]
section
variable {K : PySem.W.Frag} {M : Mem} {H : Hp}
mutual
theorem Tg.rd : ∀ {t : Tg} {d : D} {env env' : Env} {v : V} {σ : L2.St} {Q : L2.St → Hp → Prop}, Tg.set t d env = some env' → Rep K M H d v → EnvOk K M H env σ →
    (∀ σ', EnvOk K M H env' σ' → (∀ vs : List Nat, (∀ i ∈ Tg.names t, i ∈ vs) → L2.wipe σ' vs = L2.wipe σ vs) → Q σ' H) → Tg.raw K t v σ H Q
  | .nm i, d, env, env', v, σ, Q, h, r, eo, q => by
    unfold Tg.set at h
    cases h
    exact q _ (eo.set i r) fun vs hv => wipe_set (hv i (by simp [Tg.names]))
  | .tp ts, .tup xs, env, env', v, σ, Q, h, r, eo, q => by
    unfold Tg.set at h
    unfold Rep at r
    obtain ⟨a, vs, rfl, f, rl⟩ := r
    unfold Tg.raw
    exact ⟨a, vs, rfl, .inl f.sq, by rw [← rl.length]; exact Tg.sets_len h, Tg.rds h rl eo fun σ' eo' hw => q σ' eo' fun vs hv => hw vs (by simpa [Tg.names] using hv)⟩
  | .tp ts, .lst xs, env, env', v, σ, Q, h, r, eo, q => by
    unfold Tg.set at h
    unfold Rep at r
    obtain ⟨a, vs, rfl, f, rl⟩ := r
    unfold Tg.raw
    exact ⟨a, vs, rfl, .inr f.sq, by rw [← rl.length]; exact Tg.sets_len h, Tg.rds h rl eo fun σ' eo' hw => q σ' eo' fun vs hv => hw vs (by simpa [Tg.names] using hv)⟩
  | .tp _, .non, _, _, _, _, _, h, _, _, _ => by unfold Tg.set at h; cases h
  | .tp _, .bl _, _, _, _, _, _, h, _, _, _ => by unfold Tg.set at h; cases h
  | .tp _, .int _, _, _, _, _, _, h, _, _, _ => by unfold Tg.set at h; cases h
  | .tp _, .str _, _, _, _, _, _, h, _, _, _ => by unfold Tg.set at h; cases h
  | .tp _, .raw _, _, _, _, _, _, h, _, _, _ => by unfold Tg.set at h; cases h
  | .tp _, .dic, _, _, _, _, _, h, _, _, _ => by unfold Tg.set at h; cases h
  | .tp _, .fn _, _, _, _, _, _, h, _, _, _ => by unfold Tg.set at h; cases h
  | .tp _, .emp, _, _, _, _, _, h, _, _, _ => by unfold Tg.set at h; cases h
  | .tp _, .rg .., _, _, _, _, _, h, _, _, _ => by unfold Tg.set at h; cases h
  | .tp _, .exv .., _, _, _, _, _, h, _, _, _ => by unfold Tg.set at h; cases h
  | .tp _, .slo _, _, _, _, _, _, h, _, _, _ => by unfold Tg.set at h; cases h
  | .tp _, .mut _, _, _, _, _, _, h, _, _, _ => by unfold Tg.set at h; cases h
theorem Tg.rds : ∀ {ts : List Tg} {ds : List D} {env env' : Env} {vs : List V} {σ : L2.St} {Q : L2.St → Hp → Prop}, Tg.sets ts ds env = some env' → RepL K M H ds vs → EnvOk K M H env σ →
    (∀ σ', EnvOk K M H env' σ' → (∀ ws : List Nat, (∀ i ∈ Tg.namess ts, i ∈ ws) → L2.wipe σ' ws = L2.wipe σ ws) → Q σ' H) → Tg.raws K ts vs σ H Q
  | [], [], env, env', vs, σ, Q, h, r, eo, q => by
    unfold Tg.sets at h; cases h
    unfold RepL at r; subst r
    unfold Tg.raws
    exact ⟨rfl, q σ eo fun _ _ => rfl⟩
  | t :: ts, x :: xs, env, env', vs, σ, Q, h, r, eo, q => by
    unfold Tg.sets at h
    obtain ⟨e1, h1, h2⟩ := Option.bind_eq_some_iff.mp h
    unfold RepL at r
    obtain ⟨v, rr, rfl, r1, r2⟩ := r
    unfold Tg.raws
    refine ⟨v, rr, rfl, Tg.rd h1 r1 eo fun σ1 eo1 w1 => Tg.rds h2 r2 eo1 fun σ2 eo2 w2 => q σ2 eo2 fun ws hw => ?_⟩
    rw [w2 ws (fun i hi => hw i (by simp [Tg.namess, hi])), w1 ws (fun i hi => hw i (by simp [Tg.namess, hi]))]
  | [], _ :: _, _, _, _, _, _, h, _, _, _ => by unfold Tg.sets at h; cases h
  | _ :: _, [], _, _, _, _, _, h, _, _, _ => by unfold Tg.sets at h; cases h
end
end
def tgT (t : Tg) : TgF := fun d env st => match Tg.set t d env with
  | some env1 => .ok env1 st
  | none => .fail
theorem t_tg {X : Cx} {W : WX} {t : Tg} {e : Expr} (h : PG X e (Tg.raw X.K t)) : PG X e (rdG X.K W (tgT t)) := h.imp fun v σ H Q ⟨d, env, M, st, r, eo, so, p⟩ => by
  unfold tgT at p
  split at p
  · rename_i env1 e
    exact Tg.rd e r eo fun σ' eo' _ => p M H σ' .refl so eo'
  · exact p.elim
def noX {α : Type} (r : R α) : R α := match r with
  | .ok a st => .ok a st
  | _ => .fail
def turnC (t : Tg) (tt : EvB) (fe : EvE) (envw : Env) (x : D) (st : Sto) (acc : List D) (k : Sto → List D → R (List D)) : R (List D) := match t.set x envw with
  | none => .fail
  | some env1 => (noX (tt env1 st)).bind fun b st1 => if b = true then (noX (fe env1 st1)).bind fun y st2 => if acc.length < 16777216 then k st2 (acc ++ [y]) else .fail else k st1 acc
def lcF (t : Tg) (tt : EvB) (fe : EvE) (envw : Env) : List D → Sto → List D → R (List D)
  | [], st, acc => .ok acc st
  | x :: xs, st, acc => turnC t tt fe envw x st acc (lcF t tt fe envw xs)
def lcG (t : Tg) (tt : EvB) (fe : EvE) (envw : Env) (nxt : Nat → Sto → Option (Option D)) : Nat → Nat → Sto → List D → R (List D)
  | 0, i, st, acc => match nxt i st with
    | some none => .ok acc st
    | _ => .fail
  | k + 1, i, st, acc => match nxt i st with
    | some none => .ok acc st
    | some (some x) => turnC t tt fe envw x st acc (lcG t tt fe envw nxt k (i + 1))
    | none => .fail
def lcL (it : EvI) (t : Tg) (tt : EvB) (fe : EvE) (vs : List Nat) : EvA := fun env st => (it env st).bind fun I st1 => match I with
  | .frz xs => lcF t tt fe (wipeE env vs) xs st1 []
  | .gen nxt k => lcG t tt fe (wipeE env vs) nxt k 0 st1 []
def lcE (it : EvI) (t : Tg) (tt : EvB) (fe : EvE) (vs : List Nat) : EvE := fun env st => (lcL it t tt fe vs env st).bind fun xs st1 => .ok (.lst xs) st1
def lcME (it : EvI) (t : Tg) (tt : EvB) (fe : EvE) (vs : List Nat) : EvE := fun env st => (lcL it t tt fe vs env st).bind fun xs st1 => .ok (.mut st1.length) (st1 ++ [.lst xs])
abbrev W0 : WX := fun _ _ _ _ => False
def yesB : EvB := fun _ st => .ok true st
def Mem.hold (M : Mem) (a : Addr) : Mem := ⟨M.m, a :: M.p, M.f⟩
def Mem.free (M : Mem) (p : List Addr) : Mem := ⟨M.m, p, M.f⟩
section
variable {K : PySem.W.Frag} {M M' : Mem} {H H' : Hp} {st : Sto}
theorem StOk.hold (so : StOk K M H st) {a : Addr} {vs : List V} (h : H a = none) : StOk K (M.hold a) (upd H a (.lst vs)) st ∧ Keep M H (M.hold a) (upd H a (.lst vs)) := by
  have k : Keep M H (M.hold a) (upd H a (.lst vs)) := ⟨fun _ _ h => h, fun b o e n => by
    have ne : b ≠ a := ne_of_none e h
    exact ⟨by rw [upd_ne ne]; exact e, n.1, fun z => (List.mem_cons.mp z).elim ne n.2⟩, rfl⟩
  refine ⟨⟨so.len, so.nd, fun b hb => ?_, fun n b mo e1 e2 => ?_⟩, k⟩
  · rcases List.mem_cons.mp hb with rfl | hb
    · exact ⟨(so.notin h).1, _, upd_same⟩
    · obtain ⟨h1, u, e⟩ := so.pd b hb
      exact ⟨h1, u, by rw [upd_ne (ne_of_none e h)]; exact e⟩
  · have q := so.at_ n b mo e1 e2
    obtain ⟨u, e⟩ := q.there
    exact q.kp k (upd_ne (ne_of_none e h))
theorem Keep.fill {a : Addr} {o : HO} (h : a ∈ M.p) : Keep M H M (upd H a o) := ⟨fun _ _ h => h, fun b u e n => ⟨by rw [upd_ne (fun z : b = a => n.2 (by rw [z]; exact h))]; exact e, n⟩, rfl⟩
theorem StOk.fill (so : StOk K M H st) {a : Addr} {o : List V} (h : a ∈ M.p) : StOk K M (upd H a (.lst o)) st := by
  have k : Keep M H M (upd H a (.lst o)) := .fill h
  refine ⟨so.len, so.nd, fun b hb => ?_, fun n b mo e1 e2 => ?_⟩
  · by_cases e : b = a
    · subst e; exact ⟨(so.pd b hb).1, _, upd_same⟩
    · obtain ⟨h1, u, e'⟩ := so.pd b hb
      exact ⟨h1, u, by rw [upd_ne e]; exact e'⟩
  · have q := so.at_ n b mo e1 e2
    have ne : b ≠ a := fun z => (so.pd a h).1 (by rw [← z]; exact List.mem_of_getElem? e1)
    exact q.kp k (upd_ne ne)
theorem Keep.free {p : List Addr} (h : ∀ a ∈ p, a ∈ M.p) : Keep M H (M.free p) H := ⟨fun _ _ h => h, fun b u e n => ⟨e, n.1, fun z => n.2 (h b z)⟩, rfl⟩
theorem StOk.free (so : StOk K M H st) {p : List Addr} (h : ∀ a ∈ p, a ∈ M.p) : StOk K (M.free p) H st := by
  have k : Keep M H (M.free p) H := .free h
  refine ⟨so.len, so.nd, fun b hb => so.pd b (h b hb), fun n b mo e1 e2 => ?_⟩
  have q := so.at_ n b mo e1 e2
  exact q.kp k rfl
end
section
variable {X : Cx} {W : WX} {K : PySem.W.Frag} {t : Tg} {tt : EvB} {fe : EvE}
structure Mid (K : PySem.W.Frag) (M1 : Mem) (H1 : Hp) (L : Addr) (M' : Mem) (H' : Hp) (st' : Sto) (acc : List D) : Prop where
  kp : Keep M1 H1 M' H'
  p : M'.p = L :: M1.p
  prot : ∀ a ∈ M1.p, H' a = H1 a
  new : H1 L = none
  so1 : ∀ a ∈ M1.p, ∃ o, H1 a = some o
  so : StOk K M' H' st'
  at_ : ∃ vs, H' L = some (.lst vs) ∧ RepL K M' H' acc vs
theorem Mid.grow {M1 : Mem} {H1 : Hp} {L : Addr} {M' M2 : Mem} {H' H2 : Hp} {st' st2 : Sto} {acc : List D} (m : Mid K M1 H1 L M' H' st' acc) (g : Grow M' H' M2 H2) (so : StOk K M2 H2 st2) : Mid K M1 H1 L M2 H2 st2 acc :=
  ⟨m.kp.trans g.k, g.pp.trans m.p, fun a ha => (g.prot a (by rw [m.p]; exact List.mem_cons_of_mem _ ha)).trans (m.prot a ha), m.new, m.so1, so, let ⟨vs, e, r⟩ := m.at_; ⟨vs, (g.prot L (by rw [m.p]; exact List.mem_cons_self)).trans e, r.grow g⟩⟩
theorem Mid.add {M1 : Mem} {H1 : Hp} {L : Addr} {M' : Mem} {H' : Hp} {st' : Sto} {acc : List D} {d : D} {v : V} (m : Mid K M1 H1 L M' H' st' acc) (r : Rep K M' H' d v) {vs : List V} (e : H' L = some (.lst vs)) : Mid K M1 H1 L M' (upd H' L (.lst (vs ++ [v]))) st' (acc ++ [d]) := by
  have hL : L ∈ M'.p := by rw [m.p]; exact List.mem_cons_self
  obtain ⟨ws, e', rl⟩ := m.at_
  rw [e] at e'; cases e'
  have k : Keep M' H' M' (upd H' L (.lst (vs ++ [v]))) := .fill hL
  refine ⟨m.kp.trans k, m.p, fun a ha => ?_, m.new, m.so1, m.so.fill hL, _, upd_same, (rl.kp k).append (.cons (r.kp k) .nil)⟩
  rw [upd_ne]
  · exact m.prot a ha
  · rintro rfl
    obtain ⟨o, z⟩ := m.so1 a ha
    rw [m.new] at z; cases z
theorem Mid.fin {M1 : Mem} {H1 : Hp} {L : Addr} {M' : Mem} {H' : Hp} {st' : Sto} {acc : List D} (m : Mid K M1 H1 L M' H' st' acc) :
    Grow M1 H1 (M'.free M1.p) H' ∧ StOk K (M'.free M1.p) H' st' ∧ (M'.free M1.p).no L ∧ ∃ vs, H' L = some (.lst vs) ∧ RepL K (M'.free M1.p) H' acc vs := by
  have sub : ∀ a ∈ M1.p, a ∈ M'.p := fun a ha => by rw [m.p]; exact List.mem_cons_of_mem _ ha
  have k : Keep M' H' (M'.free M1.p) H' := .free sub
  obtain ⟨vs, e, r⟩ := m.at_
  refine ⟨⟨(m.kp.trans k).pre, (m.kp.trans k).keep, rfl, m.prot, (m.kp.trans k).ff⟩, m.so.free sub, ⟨(m.so.pd L (by rw [m.p]; exact List.mem_cons_self)).1, fun z => ?_⟩, vs, e, r.kp k⟩
  obtain ⟨o, q⟩ := m.so1 L z
  rw [m.new] at q; cases q
theorem turnC_rd {M1 : Mem} {H1 : Hp} {L : Addr} {M' : Mem} {H' : Hp} {st' : Sto} {acc : List D} {envw : Env} {σw : L2.St} {vs : List Nat} {x : D} {u : V} {k : Sto → List D → R (List D)} {P : R (List D) → Prop} {N : Hp → Prop}
    (m : Mid K M1 H1 L M' H' st' acc) (eo : EnvOk K M' H' envw (L2.wipe σw vs)) (r : Rep K M' H' x u) (hv : ∀ i ∈ Tg.names t, i ∈ vs)
    (hf : ¬ P .fail) (p : P (turnC t tt fe envw x st' acc k))
    (hN : ∀ M2 H2 st2 acc2, Keep M' H' M2 H2 → Mid K M1 H1 L M2 H2 st2 acc2 → P (k st2 acc2) → N H2) :
    Tg.raw K t u (L2.wipe σw vs) H' fun σ2 H2 => L2.wipe σ2 vs = L2.wipe σw vs ∧ rdB K W0 tt σ2 H2 fun b H3 =>
      if b = true then rdE K W0 fe σ2 H3 fun y H4 => ∃ acc, H4 L = some (.lst acc) ∧ acc.length < sizeLine ∧ N (upd H4 L (.lst (acc ++ [y]))) else N H3 := by
  unfold turnC at p
  cases e : t.set x envw with
  | none => rw [e] at p; exact absurd p hf
  | some env1 =>
    rw [e] at p
    refine Tg.rd e r eo fun σ' eo' hw => ⟨(hw vs hv).trans wipe_wipe, env1, M', st', eo', m.so, ?_⟩
    cases e1 : tt env1 st' with
    | exc x s => simp only [e1, noX, R.bind] at p; exact absurd p hf
    | fail => simp only [e1, noX, R.bind] at p; exact absurd p hf
    | ok b st1 =>
      simp only [e1, noX, R.bind] at p
      intro M2 H2 b' g2 so2 hb
      subst hb
      cases b with
      | false => exact iteF (hN M2 H2 st1 acc g2.k (m.grow g2 so2) (by simpa using p))
      | true =>
        simp only [if_true] at p
        refine iteT ⟨env1, M2, st1, eo'.grow g2, so2, ?_⟩
        cases e2 : fe env1 st1 with
        | exc x s => rw [e2] at p; exact absurd p hf
        | fail => rw [e2] at p; exact absurd p hf
        | ok y st2 =>
          rw [e2] at p
          intro M3 H3 yv g3 so3 ry
          have m3 := (m.grow g2 so2).grow g3 so3
          obtain ⟨vs3, e3, r3⟩ := m3.at_
          simp only at p
          by_cases hl : acc.length < 16777216
          · rw [if_pos hl] at p
            have kf : Keep M3 H3 M3 (upd H3 L (.lst (vs3 ++ [yv]))) := .fill (by rw [m3.p]; exact List.mem_cons_self)
            refine ⟨vs3, e3, by rw [← r3.length, sizeLine_eq]; exact hl, hN M3 _ st2 (acc ++ [y]) ((g2.k.trans g3.k).trans kf) (m3.add ry e3) p⟩
          · rw [if_neg hl] at p; exact absurd p hf
theorem Mid.finM {M1 : Mem} {H1 : Hp} {L : Addr} {M' : Mem} {H' : Hp} {st' : Sto} {acc : List D} (m : Mid K M1 H1 L M' H' st' acc) :
    Grow M1 H1 ⟨M'.m ++ [L], M1.p, M'.f⟩ H' ∧ StOk K ⟨M'.m ++ [L], M1.p, M'.f⟩ H' (st' ++ [MO.lst acc]) ∧ Rep K ⟨M'.m ++ [L], M1.p, M'.f⟩ H' (.mut st'.length) (.ref L) := by
  have hL : L ∈ M'.p := by rw [m.p]; exact List.mem_cons_self
  have sub : ∀ a ∈ M1.p, a ∈ M'.p := fun a ha => by rw [m.p]; exact List.mem_cons_of_mem _ ha
  have nL : L ∉ M'.m := (m.so.pd L hL).1
  have k : Keep M' H' ⟨M'.m ++ [L], M1.p, M'.f⟩ H' := ⟨fun n a e => by
    show (M'.m ++ [L])[n]? = some a
    rw [List.getElem?_append_left (List.getElem?_eq_some_iff.mp e).1]; exact e, fun b u e n => ⟨e, by
      show b ∉ M'.m ++ [L]
      intro z
      rcases List.mem_append.mp z with z | z
      · exact n.1 z
      · simp at z; subst z; exact n.2 hL, fun z => n.2 (sub b z)⟩, rfl⟩
  obtain ⟨vs, e, r⟩ := m.at_
  refine ⟨⟨(m.kp.trans k).pre, (m.kp.trans k).keep, rfl, m.prot, (m.kp.trans k).ff⟩, ⟨by simp [m.so.len], ?_, fun a ha => ⟨fun z => ?_, (m.so.pd a (sub a ha)).2⟩, fun n a mo e1 e2 => ?_⟩, ?_⟩
  · show (M'.m ++ [L]).Nodup
    rw [List.nodup_append]
    exact ⟨m.so.nd, by simp, fun a ha b hb => by simp at hb; subst hb; rintro rfl; exact nL ha⟩
  · have z : a ∈ M'.m ++ [L] := z
    rcases List.mem_append.mp z with z | z
    · exact (m.so.pd a (sub a ha)).1 z
    · simp at z; subst z
      obtain ⟨o, q⟩ := m.so1 a ha
      rw [m.new] at q; cases q
  · have e1 : (M'.m ++ [L])[n]? = some a := e1
    by_cases hn : n < M'.m.length
    · rw [List.getElem?_append_left hn] at e1
      rw [List.getElem?_append_left (by rw [← m.so.len]; exact hn)] at e2
      have q := m.so.at_ n a mo e1 e2
      exact q.kp k rfl
    · have hn' : n = M'.m.length := by
        have := (List.getElem?_eq_some_iff.mp e1).1
        simp at this; omega
      subst hn'
      rw [List.getElem?_append_right (Nat.le_refl _)] at e1
      rw [m.so.len, List.getElem?_append_right (Nat.le_refl _)] at e2
      simp at e1 e2
      subst e1 e2
      exact ⟨vs, e, r.kp k⟩
  · unfold Rep
    refine ⟨L, rfl, ?_⟩
    show (M'.m ++ [L])[st'.length]? = some L
    rw [← m.so.len, List.getElem?_append_right (Nat.le_refl _)]; simp
theorem rd_lc0 {it : EvI} {vs : List Nat} {fin : List D → Sto → R D} (hv : ∀ i ∈ Tg.names t, i ∈ vs)
    (hfin : ∀ {M1 : Mem} {H1 : Hp} {L : Addr} {M' : Mem} {H' : Hp} {st' : Sto} {acc : List D} {Q : VK} {E : XK}, Mid K M1 H1 L M' H' st' acc → Post K (Rep K) M1 H1 Q E (fin acc st') → Q (.ref L) H') :
    ∀ σ H Q, rdE K W (fun env st => (lcL it t tt fe vs env st).bind fin) σ H Q → tLc (rdI K W it) (Tg.raw K t) (rdB K W0 tt) (rdE K W0 fe) vs σ H Q :=
  fun σ H Q ⟨env, M, st, eo, so, p⟩ => ⟨env, M, st, eo, so, by
    have p : Post K (Rep K) M H Q (WE W σ) ((it env st).bind fun I st1 => (match I with
      | .frz xs => lcF t tt fe (wipeE env vs) xs st1 []
      | .gen nxt k => lcG t tt fe (wipeE env vs) nxt k 0 st1 []).bind fin) := by
      have p : Post K (Rep K) M H Q (WE W σ) ((lcL it t tt fe vs env st).bind fin) := p
      unfold lcL at p
      cases e : it env st with
      | ok I st1 => rw [e] at p; exact p
      | exc x s => rw [e] at p; exact p
      | fail => rw [e] at p; exact p
    refine Post.imp (Post.bind (rep := ItRep K) p) fun J H1 ⟨M1, st1, I, g1, so1, ri, p1⟩ => ?_
    intro L hL
    obtain ⟨so2, k2⟩ := so1.hold (vs := []) hL
    have m0 : Mid K M1 H1 L (M1.hold L) (upd H1 L (.lst [])) st1 [] := ⟨k2, rfl, fun a ha => by
      obtain ⟨_, o, e⟩ := so1.pd a ha
      rw [upd_ne (ne_of_none e hL)], hL, fun a ha => (let ⟨o, e⟩ := (so1.pd a ha).2; ⟨_, e⟩), so2, [], upd_same, .nil⟩
    have eo1 : EnvOk K (M1.hold L) (upd H1 L (.lst [])) (wipeE env vs) (L2.wipe σ vs) := ((eo.grow g1).kp k2).wipe vs
    cases I with
    | frz xs =>
      have p1 : Post K (Rep K) M1 H1 Q (WE W σ) ((lcF t tt fe (wipeE env vs) xs st1 []).bind fin) := p1
      refine ⟨fun i m H' => m = xs.length - i ∧ i ≤ xs.length ∧ ∃ M' st' acc, Mid K M1 H1 L M' H' st' acc ∧ EnvOk K M' H' (wipeE env vs) (L2.wipe σ vs) ∧ Post K (Rep K) M1 H1 Q (WE W σ) ((lcF t tt fe (wipeE env vs) (xs.drop i) st' acc).bind fin),
        ⟨xs.length, by simp, Nat.zero_le _, _, _, _, m0, eo1, by simpa using p1⟩, ?_⟩
      rintro i m H' ⟨rfl, hi, M', st', acc, md, eo', q⟩
      obtain ⟨r1, r2⟩ := ri i M' H' st' md.kp md.so
      by_cases hlt : i < xs.length
      · have hd : xs[i]? = some xs[i] := List.getElem?_eq_getElem hlt
        obtain ⟨r3, r4⟩ := r2 _ hd
        refine .inr ⟨r3, _, fun H2 h => ⟨xs.length - (i + 1), by omega, rfl, hlt, h⟩, fun x H2 hy => ?_⟩
        obtain ⟨g2, so2, rx⟩ := r4 x H2 hy
        rw [List.drop_eq_getElem_cons hlt] at q
        exact turnC_rd (P := fun r => Post K (Rep K) M1 H1 Q (WE W σ) (r.bind fin)) (md.grow g2 so2) (eo'.grow g2) rx hv (fun z => z) q fun M3 H3 st3 acc3 k3 m3 p3 => ⟨M3, st3, acc3, m3, (eo'.grow g2).kp k3, p3⟩
      · have e : i = xs.length := by omega
        refine .inl ⟨r1 e, ?_⟩
        rw [e, List.drop_length] at q
        exact hfin md q
    | gen nxt k =>
      have p1 : Post K (Rep K) M1 H1 Q (WE W σ) ((lcG t tt fe (wipeE env vs) nxt k 0 st1 []).bind fin) := p1
      refine ⟨fun i m H' => ∃ M' st' acc, Mid K M1 H1 L M' H' st' acc ∧ EnvOk K M' H' (wipeE env vs) (L2.wipe σ vs) ∧ Post K (Rep K) M1 H1 Q (WE W σ) ((lcG t tt fe (wipeE env vs) nxt m i st' acc).bind fin),
        ⟨k, _, _, _, m0, eo1, p1⟩, ?_⟩
      rintro i m H' ⟨M', st', acc, md, eo', q⟩
      obtain ⟨r1, r2⟩ := ri i M' H' st' md.kp md.so
      cases m with
      | zero =>
        unfold lcG at q
        cases e : nxt i st' with
        | none => rw [e] at q; exact q.elim
        | some o =>
          cases o with
          | some x => rw [e] at q; exact q.elim
          | none => rw [e] at q; exact .inl ⟨r1 e, hfin md q⟩
      | succ m =>
        unfold lcG at q
        cases e : nxt i st' with
        | none => rw [e] at q; exact q.elim
        | some o =>
          cases o with
          | none => rw [e] at q; exact .inl ⟨r1 e, hfin md q⟩
          | some d =>
            rw [e] at q
            obtain ⟨r3, r4⟩ := r2 _ e
            refine .inr ⟨r3, _, fun H2 h => ⟨m, by omega, h⟩, fun x H2 hy => ?_⟩
            obtain ⟨g2, so2, rx⟩ := r4 x H2 hy
            exact turnC_rd (P := fun r => Post K (Rep K) M1 H1 Q (WE W σ) (r.bind fin)) (md.grow g2 so2) (eo'.grow g2) rx hv (fun z => z) q fun M3 H3 st3 acc3 k3 m3 p3 => ⟨M3, st3, acc3, m3, (eo'.grow g2).kp k3, p3⟩⟩
theorem rd_lc {it : EvI} {vs : List Nat} (hv : ∀ i ∈ Tg.names t, i ∈ vs) : ∀ σ H Q, rdE K W (lcE it t tt fe vs) σ H Q → tLc (rdI K W it) (Tg.raw K t) (rdB K W0 tt) (rdE K W0 fe) vs σ H Q :=
  rd_lc0 hv fun m q => by
    obtain ⟨f1, f2, f3, ws, f4, f5⟩ := m.fin
    exact q _ _ _ f1 f2 (by unfold Rep; exact ⟨_, ws, rfl, ⟨f4, f3⟩, f5⟩)
theorem rd_lcM {it : EvI} {vs : List Nat} (hv : ∀ i ∈ Tg.names t, i ∈ vs) : ∀ σ H Q, rdE K W (lcME it t tt fe vs) σ H Q → tLc (rdI K W it) (Tg.raw K t) (rdB K W0 tt) (rdE K W0 fe) vs σ H Q :=
  rd_lc0 hv fun m q => by
    obtain ⟨f1, f2, f3⟩ := m.finM
    exact q _ _ _ f1 f2 f3
end
section
variable {X : Cx} {W : WX}
theorem g_yes : PTs X [] (rdB X.K W0 yesB) := ⟨fun pins s σ H Q I ⟨env, M, st, eo, so, p⟩ => pts_nil.run pins s σ H Q I (p M H true .refl so rfl)⟩
theorem g_ifs {c : Expr} {t : EvB} (h : PT X c (rdB X.K W0 t)) : PTs X [c] (rdB X.K W0 t) := pts_one h
end
end G
namespace G
open PySem PySem.Spec PyProof.Rows L2
section
variable {X : Cx} {W : WX}
theorem s_setLc {i : Nat} {it : EvI} {t : Tg} {tt : EvB} {fe : EvE} {vs : List Nat} {s : Stmt} (hv : ∀ i ∈ Tg.names t, i ∈ vs)
    (h : PS X s (tAsg (tLc (rdI X.K W it) (Tg.raw X.K t) (rdB X.K W0 tt) (rdE X.K W0 fe) vs) (gName i))) : PS X s (rdS X.K W (asgS (lcE it t tt fe vs) (nameT i))) :=
  h.imp fun T σ H ⟨env, M, st, eo, so, p⟩ => rd_lc hv σ H _ ⟨env, M, st, eo, so, Post.imp (PostS.bind (rep := Rep X.K) eo p) fun x H1 ⟨M1, st1, d, g, so1, ra, p1⟩ => p1 M1 H1 _ .refl so1 ((eo.grow g).set i ra)⟩
theorem s_setLcM {i : Nat} {it : EvI} {t : Tg} {tt : EvB} {fe : EvE} {vs : List Nat} {s : Stmt} (hv : ∀ i ∈ Tg.names t, i ∈ vs)
    (h : PS X s (tAsg (tLc (rdI X.K W it) (Tg.raw X.K t) (rdB X.K W0 tt) (rdE X.K W0 fe) vs) (gName i))) : PS X s (rdS X.K W (asgS (lcME it t tt fe vs) (nameT i))) :=
  h.imp fun T σ H ⟨env, M, st, eo, so, p⟩ => rd_lcM hv σ H _ ⟨env, M, st, eo, so, Post.imp (PostS.bind (rep := Rep X.K) eo p) fun x H1 ⟨M1, st1, d, g, so1, ra, p1⟩ => p1 M1 H1 _ .refl so1 ((eo.grow g).set i ra)⟩
end
def runF (n m : Nat) (B : SvS) : FA := fun ds st => if ds.length = n then (match B (ds.map some ++ List.replicate (m - n) none) st with
  | .nx _ st1 => .ok .non st1
  | .ret d st1 => .ok d st1
  | .exc e _ st1 => .exc e st1
  | _ => .fail) else .fail
def spG (K : PySem.W.Frag) (F : FA) : Sp := fun vs H Q E => ∃ ds M st, RepL K M H ds vs ∧ StOk K M H st ∧ Post K (Rep K) M H Q E (F ds st)
theorem spG_len {K : PySem.W.Frag} {n m : Nat} {B : SvS} : ∀ vs H Q E, spG K (runF n m B) vs H Q E → vs.length = n := fun vs H Q E ⟨ds, M, st, r, so, p⟩ => by
  unfold runF at p
  split at p
  · rename_i h; rw [← r.length]; exact h
  · exact p.elim
section
variable {K : PySem.W.Frag}
theorem envOk_start {M : Mem} {H : Hp} {N : List Str} {ds : List D} {vs : List V} (r : RepL K M H ds vs) : EnvOk K M H (ds.map some ++ List.replicate (N.length - ds.length) none) (L2.start N vs) := by
  unfold L2.start
  refine ⟨by simp [r.length], fun i d h => ?_⟩
  by_cases hi : i < ds.length
  · rw [List.getElem?_append_left (by simpa using hi), List.getElem?_map] at h
    obtain ⟨x, hx, e⟩ := Option.map_eq_some_iff.mp h
    cases e
    obtain ⟨v, h1, h2⟩ := r.get hx
    exact ⟨v, by rw [List.getElem?_append_left (by simpa [← r.length] using hi), List.getElem?_map, h1]; rfl, h2⟩
  · rw [List.getElem?_append_right (by simp; omega)] at h
    have := List.mem_of_getElem? h
    simp at this
end
section
variable {P : Program} {w : World} {K : PySem.W.Frag} {mg : Str → Option Value} {base : Heap}
abbrev Wd (E : XK) : WX := fun cls d _ H => E cls d H
structure RoomG (k : Nat) (A : Around) : Prop extends L2.Room k A where
  gd : A.guards = some []
theorem RoomG.mono {j k : Nat} {A : Around} (r : RoomG k A) (h : j ≤ k) : RoomG j A := ⟨r.toRoom.mono h, r.gd⟩
theorem RoomG.deeper {k : Nat} {A : Around} (r : RoomG (k + 1) A) (env : PySem.Env) : RoomG k (A.deeper env) := ⟨r.toRoom.deeper env, by have := r.gd; simpa [Around.deeper] using this⟩
structure FnG (P : Program) (w : World) (K : PySem.W.Frag) (mg : Str → Option Value) (base : Heap) (k : Nat) (f : Addr) (fd : FuncData) (ps : List Str) (sp : Sp) : Prop where
  len : ∀ vs H Q E, sp vs H Q E → vs.length = ps.length
  run : ∀ (A : Around) (outer : List PySem.Env) (s : Shared) (H : Hp) (args : Args) (us : List Value) (vs : List V) (Q : VK) (E : XK), RoomG k A → Env0 P w K mg base A outer s H → BindsTo s fd args (ps.zip us) → Vals vs us → sp vs H Q E →
    codeAny (model P w) A (.call (.ref f) args) (CR (L2.CX P w) outer P w H s Q E) s
theorem FnG.imp {P : Program} {w : World} {K : PySem.W.Frag} {mg : Str → Option Value} {base : Heap} {k : Nat} {f : Addr} {fd : FuncData} {ps : List Str} {sp sp' : Sp} (F : FnG P w K mg base k f fd ps sp) (h : ∀ vs H Q E, sp' vs H Q E → sp vs H Q E) : FnG P w K mg base k f fd ps sp' :=
  ⟨fun vs H Q E q => F.len vs H Q E (h _ _ _ _ q), fun A outer s H args us vs Q E hr he hb hv hs => F.run A outer s H args us vs Q E hr he hb hv (h _ _ _ _ hs)⟩
theorem fn_ok {x qual : Str} {s : Stmt} {f : Addr} {fd : FuncData} {N ps : List Str} {k n m : Nat} {B : SvS} (F : Fun K x qual s f fd) (Sc : FnScope N ps (defScope s)) (hn : ps.length = n) (hm : N.length = m)
    (hbody : ∀ (cdv : Value) (A : Around) (outer : List PySem.Env) (s' : Shared) (H : Hp) (E : XK), RoomG k (A.deeper (envOfC qual (defScope s) s'.heap.objs.size f cdv)) →
      PSs (cxOf (L2.CX P w) P w K mg base N qual (defScope s) f cdv A outer s' H E) (defBody s) (rdS K (Wd E) B)) : FnG P w K mg base (k + 1) f fd ps (spG K (runF n m B)) := by
  subst hn hm
  obtain ⟨oc, od, kV, doc, pm, an, cdv, ct, osl, rfl, lk, hcd⟩ := F.ex
  refine ⟨spG_len, fun A outer s0 H args us vs Q E hr e0 hb rv hsp => ?_⟩
  have hl : vs.length = ps.length := spG_len vs H Q E hsp
  have KX : K.In s0.heap := e0.mod.kin.keeps fun b o e => (e0.bs b o e).1
  have hq : rdS K (Wd E) B { nx := fun _ H' => Q .non H', rt := Q } (L2.start N vs) H := by
    obtain ⟨ds, M, st, r, so, p⟩ := hsp
    unfold runF at p
    split at p
    · rename_i hl
      refine ⟨_, M, st, envOk_start r, so, ?_⟩
      rw [hl]
      cases e : B (ds.map some ++ List.replicate (N.length - ps.length) none) st with
      | nx env st1 => rw [e] at p; exact fun M' H' σ' g so' _ => p M' H' .non g so' (rep_non _ _)
      | ret d st1 => rw [e] at p; exact fun M' H' v g so' r' => p M' H' v g so' r'
      | exc x env st1 => rw [e] at p; exact fun M' H' σ' c od g so' _ h => p M' H' c od g so' h
      | brk env st1 => rw [e] at p; exact p.elim
      | cont env st1 => rw [e] at p; exact p.elim
      | fail => rw [e] at p; exact p.elim
    · exact p.elim
  have local_ : ∀ y ∈ ps.zip us, (defScope s).names.lookup y.1 = some .local ∨ ((defScope s).names.lookup y.1 = some .cell ∧ ((cellsFrom (s0.heap.objs.size + 1) (defScope s).names []).lookup y.1).isSome = true) := by
    rintro ⟨a, v⟩ hy
    rcases Sc.par a (List.of_mem_zip hy).1 with q | q
    · exact .inl q
    · exact .inr ⟨q, PySem.W.cellsFrom_some _ _ _ (.inl q)⟩
  refine codeAny_call_function hr.toRoom.depth (KX _ _ lk) rfl Sc.co Sc.gen rfl (PySem.W.codeRec_of KX hcd) (hb _ _ _ _ (wpAny_newFunctionEnv_cells Sc.kind local_ fun env he s1 x => ?_))
  subst he
  refine ⟨(e0.mod.nolimit.keeps fun b o e => (e0.bs b o e).1).keeps x.toInCall.keep, codeAny_func ?_⟩
  have I := inv_start (CX := L2.CX P w) (E := E) Sc hr.hd e0 hl rv x
  refine wpAny_mono ((hbody cdv A outer s0 H E (hr.deeper _)).run [] s1 (L2.start N vs) H _ I hq) (fun fl s' hs => ?_) fun e s' hs => hs
  cases fl with
  | ret u => obtain ⟨v, σ', H', J, rv, q⟩ := hs; exact ⟨v, H', J.os, J.bare, J.base, J.hok, rv, q⟩
  | next => obtain ⟨σ', H', J, q⟩ := hs; exact ⟨.non, H', J.os, J.bare, J.base, J.hok, (rfl : RelV V.non Value.none), q⟩
  | brk => obtain ⟨_, _, _, q⟩ := hs; exact q.elim
  | cont => obtain ⟨_, _, _, q⟩ := hs; exact q.elim
end
def pick {α : Type} (us ws : List α) (ix : List Nat) : List α := us ++ ix.filterMap fun j => ws[j]?
def callKE (F : FA) (fs ks : EvA) (n m : Nat) (ix : List Nat) : EvE := fun env st => (fs env st).bind fun us st1 => (ks env st1).bind fun ws st2 => if us.length = n ∧ ws.length = m then F (pick us ws ix) st2 else .fail
theorem pick_rep {K : PySem.W.Frag} {M : Mem} {H : Hp} {ds es : List D} {vs zs : List V} (r : RepL K M H ds vs) (q : RepL K M H es zs) (ix : List Nat) : RepL K M H (pick ds es ix) (pick vs zs ix) := by
  unfold pick
  refine r.append ?_
  induction ix with
  | nil => exact .nil
  | cons j ix ih =>
    rw [List.filterMap_cons, List.filterMap_cons]
    cases e : es[j]? with
    | none =>
      have : zs[j]? = none := List.getElem?_eq_none_iff.mpr (by rw [← q.length]; exact List.getElem?_eq_none_iff.mp e)
      rw [this]; exact ih
    | some d =>
      obtain ⟨v, h1, h2⟩ := q.get e
      rw [h1]; exact .cons h2 ih
theorem pick_vals {vs zs : List V} {us ws : List Value} (r : Vals vs us) (q : Vals zs ws) (ix : List Nat) : Vals (pick vs zs ix) (pick us ws ix) := by
  unfold pick
  refine r.append ?_
  induction ix with
  | nil => exact .nil
  | cons j ix ih =>
    rw [List.filterMap_cons, List.filterMap_cons]
    cases e : zs[j]? with
    | none => rw [q.none_of e]; exact ih
    | some d =>
      obtain ⟨v, h1, h2⟩ := q.get e
      rw [h1]; exact .cons h2 ih
def KB (K : PySem.W.Frag) (fd : FuncData) (ps : List Str) (n : Nat) (ks : List Str) (ix : List Nat) : Prop :=
  ∀ (s : Shared) (us ws : List Value), K.In s.heap → us.length = n → ws.length = ks.length → BindsTo s fd ⟨us, ks.zip ws⟩ (ps.zip (pick us ws ix))
theorem kb_of {K : PySem.W.Frag} {x qual : Str} {st : Stmt} {f : Addr} {fd : FuncData} {ps ks : List Str} {n : Nat} {ix : List Nat} (F : Fun K x qual st f fd)
    (h : ∀ (kV doc pm : Value) (an : Option Addr) (cdv ct : Value) (us ws : List Value), us.length = n → ws.length = ks.length → bindArgs (PySem.W.fnOf x qual (defArgs st) (defBody st) (defScope st) .none kV doc pm an cdv ct) ⟨us, ks.zip ws⟩ = pure (ps.zip (pick us ws ix))) : KB K fd ps n ks ix := by
  obtain ⟨oc, od, kV, doc, pm, an, cdv, ct, osl, rfl, lk, hcd⟩ := F.ex
  exact fun s us ws _ h1 h2 => .of_eq (h kV doc pm an cdv ct us ws h1 h2)
section
variable {X : Cx} {W : WX} {F : FA} {k n : Nat} {f : Addr} {fd : FuncData} {ps ks : List Str} {ix : List Nat} {x : Str} {p pos kpos : Pos} {e : Expr} {es : List Expr} {kws : List Keyword} {fa : EvE} {fs fk : EvA} {nm : Option Str}
theorem _root_.L2.PK.imp {t t' : TA} (h : PK X kws t) (i : ∀ σ H Q, t' σ H Q → t σ H Q) : PK X kws t' := ⟨fun pos pins s σ H Q I q => h.run pos pins s σ H Q I (i σ H Q q)⟩
theorem k_nil : PK X [] (rdA X.K W nilA) := pk_nil.imp fun σ H Q ⟨env, M, st, eo, so, p⟩ => p M H [] .refl so .nil
theorem k_cons (ha : PE X e (rdE X.K W fa)) (hr : PK X kws (rdA X.K W fs)) : PK X (⟨nm, e, kpos⟩ :: kws) (rdA X.K W (consA fa fs)) :=
  (pk_cons ha hr).imp fun σ H Q ⟨env, M, st, eo, so, p⟩ => ⟨env, M, st, eo, so, Post.imp (Post.bind p) fun x H1 ⟨M1, st1, a, g, so1, ra, p1⟩ =>
    ⟨env, M1, st1, eo.grow g, so1, Post.imp (Post.bind (rep := RepL X.K) p1) fun y H2 ⟨M2, st2, b, g2, so2, rb, p2⟩ => p2 M2 H2 _ .refl so2 (.cons (ra.grow g2) rb)⟩⟩
theorem run_kw {pins : List (Addr × Obj)} {σ : L2.St} {H : Hp} {s : Shared} {Q : VK} {us ws : List Value} {vs zs : List V} (G : FnG X.prog X.w X.K X.mg X.base k f fd ps (spG X.K F)) (hr : RoomG k X.A) (hb : KB X.K fd ps n ks ix) (tk : Takes X W)
    (I : Inv X pins σ H s) (r : Vals vs us) (rz : Vals zs ws) (h1 : us.length = n) (h2 : ws.length = ks.length) (h : spG X.K F (pick vs zs ix) H Q (WE W σ)) : wpAny (model X.prog X.w) X.A (PySem.call (.ref f) us (ks.zip ws)) (EP X pins σ Q) X.xe s := by
  have hx := passAt tk σ
  refine wpAny_call (codeAny_mono (G.run X.A X.stack s H ⟨us, ks.zip ws⟩ (pick us ws ix) (pick vs zs ix) Q (WE W σ) hr I.env0 (hb s us ws I.kIn h1 h2) (pick_vals r rz ix) h) fun r s' hq => ?_)
  cases r with
  | error e => exact hx pins H s e s' I hq
  | ok fl =>
    cases fl with
    | ret u => exact I.after hq
    | next => exact hq.elim
    | brk => exact hq.elim
    | cont => exact hq.elim
theorem run_pos {pins : List (Addr × Obj)} {σ : L2.St} {H : Hp} {s : Shared} {Q : VK} {us : List Value} {vs : List V} (G : FnG X.prog X.w X.K X.mg X.base k f fd ps (spG X.K F)) (hr : RoomG k X.A) (hb : Binds X.K fd ps []) (tk : Takes X W)
    (I : Inv X pins σ H s) (r : Vals vs us) (h : spG X.K F vs H Q (WE W σ)) : wpAny (model X.prog X.w) X.A (PySem.call (.ref f) us) (EP X pins σ Q) X.xe s := by
  have hx := passAt tk σ
  have bb := hb s us I.kIn (by rw [List.append_nil, ← r.length]; exact G.len _ _ _ _ h)
  rw [List.append_nil] at bb
  refine wpAny_call (codeAny_mono (G.run X.A X.stack s H ⟨us, []⟩ us vs Q (WE W σ) hr I.env0 bb r h) fun r s' hq => ?_)
  cases r with
  | error e => exact hx pins H s e s' I hq
  | ok fl =>
    cases fl with
    | ret u => exact I.after hq
    | next => exact hq.elim
    | brk => exact hq.elim
    | cont => exact hq.elim
theorem g_call (G : FnG X.prog X.w X.K X.mg X.base k f fd ps (spG X.K F)) (hr : RoomG k X.A) (hg : Gl X x) (hm : X.mg x = some (.ref f)) (hk : PySem.W.keepIn X.K (.ref f) = true) (hb : Binds X.K fd ps []) (tk : Takes X W)
    (ha : PA X (e :: es) (rdA X.K W fs)) (hdb : (x == ("__debug__" : Str)) = false) (he : starEach (e :: es) X.env = (false, eval e X.env) :: starEach es X.env) (hpl : (backTo pos (starEach es X.env)).any (·.1) = false) :
    PE X (.Call (.Name x p) (e :: es) [] pos) (rdE X.K W (callE F fs)) := by
  refine ⟨fun pins s σ H Q I ⟨env, M, st, eo, so, p⟩ => ?_⟩
  refine wpAny_Call_Name_kw (ld_glob I hg hm ?_ hdb)
  refine PySem.W.callWith_K (h₀ := X.base) I.ok.mod.kin hk (thn (ha.run pos pins s σ H _ I ⟨env, M, st, eo, so, Post.bind (rep := RepL X.K) p⟩) fun us s1 ⟨vs, H1, I1, r, M1, st1, ds, g, so1, ra, p1⟩ => ⟨I1.kIn, ?_⟩) he hpl
  exact run_pos G hr hb tk I1 r ⟨ds, M1, st1, ra, so1, p1⟩
theorem g_callK0 (G : FnG X.prog X.w X.K X.mg X.base k f fd ps (spG X.K F)) (hr : RoomG k X.A) (hg : Gl X x) (hm : X.mg x = some (.ref f)) (hk : PySem.W.keepIn X.K (.ref f) = true) (hb : KB X.K fd ps 0 ks ix) (tk : Takes X W)
    (hkw : PK X kws (rdA X.K W fk)) (hall : (backToKw pos (keywordEach kws X.env)).all (·.1.isSome) = true) (hks : (backToKw pos (keywordEach kws X.env)).filterMap (·.1) = ks)
    (hdb : (x == ("__debug__" : Str)) = false)
    (hpl : ((backTo pos (starEach [] X.env)).any (·.1) || (backToKw pos (keywordEach kws X.env)).any (·.1.isNone)) = false) :
    PE X (.Call (.Name x p) [] kws pos) (rdE X.K W (callKE F nilA fk 0 ks.length ix)) := by
  refine ⟨fun pins s σ H Q I ⟨env, M, st, eo, so, p⟩ => ?_⟩
  refine wpAny_Call_Name_kw (ld_glob I hg hm ?_ hdb)
  have p1 : Post X.K (Rep X.K) M H Q (WE W σ) ((fk env st).bind fun ws st2 => if (0 : Nat) = 0 ∧ ws.length = ks.length then F (pick [] ws ix) st2 else .fail) := p
  refine PySem.W.callWith_KW0 (h₀ := X.base) I.ok.mod.kin hk hall ?_ hpl
  refine thn (hkw.run pos pins s σ H _ I ⟨env, M, st, eo, so, Post.bind (rep := RepL X.K) p1⟩) fun ws s2 ⟨zs, H2, I2, rz, M2, st2, es', g2, so2, rd2, p2⟩ => ⟨I2.kIn, ?_⟩
  rw [hks]
  split at p2
  · rename_i hl
    exact run_kw (vs := []) (us := []) G hr hb tk I2 .nil rz rfl (by rw [← rz.length, ← rd2.length]; exact hl.2) ⟨_, M2, st2, pick_rep .nil rd2 ix, so2, p2⟩
  · exact p2.elim
end
abbrev FM := D → List D → Sto → R D
def isL (d : D) (st : Sto) : Bool := match d with
  | .lst _ => true
  | .slo _ => true
  | .mut n => (match st[n]? with
    | some (.lst _) => true
    | _ => false)
  | _ => false
def methLE (f : FM) (fo : EvE) (fs : EvA) : EvE := fun env st => (fo env st).bind fun o st1 => if isL o st1 = true then (fs env st1).bind fun as st2 => f o as st2 else .fail
def MethV (K : PySem.W.Frag) (r : V → List V → Hp → VK → Prop) (f : FM) : Prop := ∀ (a : D) (as : List D) (x : V) (xs : List V) (M : Mem) (H : Hp) (st : Sto) (Q : VK) (E : XK), Rep K M H a x → RepL K M H as xs → StOk K M H st → Post K (Rep K) M H Q E (f a as st) → r x xs H Q
theorem isL_ty {K : PySem.W.Frag} {M : Mem} {H : Hp} {d : D} {st : Sto} {x : V} (so : StOk K M H st) (h : isL d st = true) (r : Rep K M H d x) : tyV K "list" x H := by
  unfold isL at h
  split at h
  · unfold Rep at r; obtain ⟨a, vs, rfl, f, q⟩ := r; exact .inl ⟨rfl, vs, f.sq⟩
  · unfold Rep at r; obtain ⟨a, vs, rfl, f, q⟩ := r; exact .inl ⟨rfl, vs, f.sq⟩
  · split at h
    · rename_i e
      unfold Rep at r; obtain ⟨a, rfl, m⟩ := r
      obtain ⟨vs, hv, q⟩ := so.at_ _ a _ m e
      exact .inl ⟨rfl, vs, .of hv⟩
    · cases h
  · cases h
section
variable {X : Cx} {W : WX} {f : FM} {fo : EvE} {fs : EvA} {r : V → List V → Hp → VK → Prop} {s : Expr}
theorem g_methL (h : PE X s (tBM X.K "list" r (rdE X.K W fo) (rdA X.K W fs))) (hv : MethV X.K r f) : PE X s (rdE X.K W (methLE f fo fs)) :=
  h.imp fun σ H Q ⟨env, M, st, eo, so, p⟩ => ⟨env, M, st, eo, so, Post.imp (Post.bind p) fun x H1 ⟨M1, st1, a, g, so1, ra, p1⟩ => by
    split at p1
    · rename_i hl
      exact ⟨isL_ty so1 hl ra, env, M1, st1, eo.grow g, so1, Post.imp (Post.bind (rep := RepL X.K) p1) fun xs H2 ⟨M2, st2, as, g2, so2, rs, p2⟩ => hv a as x xs M2 H2 st2 Q _ (ra.grow g2) rs so2 p2⟩
    · exact p1.elim⟩
end
def appF : FM := fun d as st => match d, as with
  | .mut n, [x] => (match st[n]? with
    | some (.lst xs) => if xs.length < 16777216 then .ok .non (st.set n (.lst (xs ++ [x]))) else .fail
    | _ => .fail)
  | _, _ => .fail
theorem v_append {K : PySem.W.Frag} : MethV K rAppend appF := by
  intro a as x xs M H st Q E ra rb so p
  unfold appF at p
  split at p
  · split at p
    · rename_i n b _ ys e
      split at p
      · rename_i hl
        unfold Rep at ra
        obtain ⟨t, rfl, m⟩ := ra
        obtain ⟨y, rfl, ry⟩ := rb.one
        obtain ⟨vs, hv, q⟩ := so.at_ n t _ m e
        exact ⟨t, vs, y, rfl, rfl, hv, by rw [← q.length, sizeLine_eq]; exact hl, p M _ _ (.put so m) (so.putL m (q.append (.cons ry .nil))) (rep_non _ _)⟩
      · exact p.elim
    · exact p.elim
  · exact p.elim
end G
namespace G
open PySem PySem.Spec PyProof.Rows L2
theorem bt_len : bootBuiltins "len" = some (.builtin "len") := by decide +kernel
theorem bt_sum : bootBuiltins "sum" = some (.builtin "sum") := by decide +kernel
theorem bt_all : bootBuiltins "all" = some (.builtin "all") := by decide +kernel
theorem bt_any : bootBuiltins "any" = some (.builtin "any") := by decide +kernel
theorem bt_abs : bootBuiltins "abs" = some (.builtin "abs") := by decide +kernel
theorem bt_max : bootBuiltins "max" = some (.builtin "max") := by decide +kernel
theorem bt_min : bootBuiltins "min" = some (.builtin "min") := by decide +kernel
theorem bt_divmod : bootBuiltins "divmod" = some (.builtin "divmod") := by decide +kernel
theorem bt_isinstance : bootBuiltins "isinstance" = some (.builtin "isinstance") := by decide +kernel
theorem bt_sorted : bootBuiltins "sorted" = some (.builtin "sorted") := by decide +kernel
theorem bt_int : bootBuiltins "int" = some (.type "int") := by decide +kernel
theorem bt_bool : bootBuiltins "bool" = some (.type "bool") := by decide +kernel
theorem bt_str : bootBuiltins "str" = some (.type "str") := by decide +kernel
theorem bt_list : bootBuiltins "list" = some (.type "list") := by decide +kernel
theorem bt_tuple : bootBuiltins "tuple" = some (.type "tuple") := by decide +kernel
theorem bt_dict : bootBuiltins "dict" = some (.type "dict") := by decide +kernel
section
variable {X : Cx} {W : WX} {s : Expr} {fs : EvA} {f : FA} {r : List V → Hp → VK → Prop}
theorem g_blt (h : PE X s (tCB r (rdA X.K W fs))) (hv : CallV X.K r f) : PE X s (rdE X.K W (callE f fs)) := h.imp (rd_call hv)
theorem c_len : CallR X (.builtin "len") (fun xs H Q => (∃ p ys, xs = [.ref p] ∧ (SqL X.K H p ys ∨ SqT X.K H p ys) ∧ Q (.int ys.length) H) ∨ ∃ z, xs = [.str z] ∧ z.length ≤ sizeLine ∧ Q (.int z.length) H) := CallR.or call_len_seq call_len_str
theorem c_divmod : CallR X (.builtin "divmod") (fun xs H Q => (∃ i j, xs = [.int i, .int j] ∧ CDiv i j ∧ ∀ p, H p = none → Q (.ref p) (upd H p (.tup [.int (i / j), .int (i % j)]))) ∨
    ∃ i j, xs = [.int i, .int j] ∧ CDivP i j ∧ ∀ p, H p = none → Q (.ref p) (upd H p (.tup [.int (i / j), .int (i % j)]))) := CallR.or call_divmod call_divmodW
theorem c_max (hc : X.calm = true) : CallR X (.builtin "max") (fun xs H Q => (∃ i j, xs = [.int i, .int j] ∧ Q (.int (if j > i then j else i)) H) ∨ qMax X.K xs H Q) := CallR.or (call_max2 hc) (cq_max hc)
theorem c_min (hc : X.calm = true) : CallR X (.builtin "min") (fun xs H Q => (∃ i j, xs = [.int i, .int j] ∧ Q (.int (if j < i then j else i)) H) ∨ qMin X.K xs H Q) := CallR.or (call_min2 hc) (cq_min hc)
theorem g_globI {x : Str} {pos : Pos} {i : Int} (hg : Gl X x) (h : ∃ t, X.mg x = some (.int i t)) (hd : (x == ("__debug__" : Str)) = false) : PE X (.Name x pos) (rdE X.K W (cE (.int i))) := by
  obtain ⟨t, h⟩ := h
  exact g_c (v := .int i) (pe_glob hg h ⟨t, rfl⟩ hd) (rep_int i)
theorem g_lc {it : EvI} {t : Tg} {tt : EvB} {fe : EvE} {vs : List Nat} (hv : ∀ i ∈ Tg.names t, i ∈ vs) (h : PE X s (tLc (rdI X.K W it) (Tg.raw X.K t) (rdB X.K W0 tt) (rdE X.K W0 fe) vs)) : PE X s (rdE X.K W (lcE it t tt fe vs)) := h.imp (rd_lc hv)
theorem s_set {i : Nat} {fa : EvE} {s : Stmt} (h : PS X s (tAsg (rdE X.K W fa) (gName i))) : PS X s (rdS X.K W (asgS fa (nameT i))) :=
  h.imp fun T σ H ⟨env, M, st, eo, so, p⟩ => ⟨env, M, st, eo, so, Post.imp (PostS.bind eo p) fun x H1 ⟨M1, st1, d, g, so1, ra, p1⟩ => p1 M1 H1 _ .refl so1 ((eo.grow g).set i ra)⟩
def parS (i j : Nat) (fs : EvA) : SvS := fun env st => bindS (fs env st) env fun as st1 => match as with
  | [a, b] => .nx ((env.set i (some a)).set j (some b)) st1
  | _ => .fail
def parS3 (i j k : Nat) (fs : EvA) : SvS := fun env st => bindS (fs env st) env fun as st1 => match as with
  | [a, b, c] => .nx (((env.set i (some a)).set j (some b)).set k (some c)) st1
  | _ => .fail
theorem s_par {i j : Nat} {s : Stmt} (h : PS X s (tPar i j (rdA X.K W fs))) : PS X s (rdS X.K W (parS i j fs)) :=
  h.imp fun T σ H ⟨env, M, st, eo, so, p⟩ => ⟨env, M, st, eo, so, Post.imp (PostS.bind eo p) fun vs H1 ⟨M1, st1, ds, g, so1, ra, p1⟩ => by
    match ds, ra, p1 with
    | [a, b], ra, p1 =>
      obtain ⟨x, y, rfl, rx, ry⟩ := ra.two
      exact ⟨x, y, rfl, p1 M1 H1 _ .refl so1 (((eo.grow g).set i rx).set j ry)⟩
    | [], _, p1 => exact p1.elim
    | [_], _, p1 => exact p1.elim
    | _ :: _ :: _ :: _, _, p1 => exact p1.elim⟩
end
structure Kn (P : Program) (w : World) (K : PySem.W.Frag) (mg : Str → Option Value) (base : Heap) (x : Str) (s : Stmt) (ps : List Str) (k : Nat) (F : FA) : Prop where
  ex : ∃ (f : Addr) (fd : FuncData) (z : Str), mg x = some (.ref f) ∧ Fun K z z s f fd ∧ Binds K fd ps [] ∧ FnG P w K mg base k f fd ps (spG K F)
theorem fn_fail {P : Program} {w : World} {K : PySem.W.Frag} {mg : Str → Option Value} {base : Heap} {k : Nat} {f : Addr} {fd : FuncData} {ps : List Str} : FnG P w K mg base k f fd ps (spG K fun _ _ => .fail) :=
  ⟨fun _ _ _ _ ⟨_, _, _, _, _, p⟩ => p.elim, fun _ _ _ _ _ _ _ _ _ _ _ _ _ ⟨_, _, _, _, _, p⟩ => p.elim⟩
def Std (K : PySem.W.Frag) (mg : Str → Option Value) (x z : Str) (s : Stmt) : Prop := ∃ (f : Addr) (fd : FuncData), mg x = some (.ref f) ∧ Fun K z z s f fd
section
variable {P : Program} {w : World} {K : PySem.W.Frag} {mg : Str → Option Value} {base : Heap}
theorem kn_of {x z : Str} {s : Stmt} {N ps : List Str} {k n m : Nat} {B : SvS} (S : Std K mg x z s) (Sc : FnScope N ps (defScope s)) (hn : ps.length = n) (hm : N.length = m)
    (hb : ∀ (kV doc pm : Value) (an : Option Addr) (cdv ct : Value) (us : List Value), us.length = ps.length → bindArgs (PySem.W.fnOf z z (defArgs s) (defBody s) (defScope s) .none kV doc pm an cdv ct) ⟨us, []⟩ = pure (ps.zip us))
    (hbody : ∀ (f : Addr) (cdv : Value) (A : Around) (outer : List PySem.Env) (s' : Shared) (H : Hp) (E : XK), RoomG k (A.deeper (envOfC z (defScope s) s'.heap.objs.size f cdv)) →
      PSs (cxOf (L2.CX P w) P w K mg base N z (defScope s) f cdv A outer s' H E) (defBody s) (rdS K (Wd E) B)) : Kn P w K mg base x s ps (k + 1) (runF n m B) := by
  obtain ⟨f, fd, hmg, F⟩ := S
  exact ⟨f, fd, z, hmg, F, F.binds hb, fn_ok F Sc hn hm fun cdv A outer s' H E hr => hbody f cdv A outer s' H E hr⟩
theorem kn_fail {x z : Str} {s : Stmt} {ps : List Str} {k : Nat} (S : Std K mg x z s)
    (hb : ∀ (kV doc pm : Value) (an : Option Addr) (cdv ct : Value) (us : List Value), us.length = ps.length → bindArgs (PySem.W.fnOf z z (defArgs s) (defBody s) (defScope s) .none kV doc pm an cdv ct) ⟨us, []⟩ = pure (ps.zip us)) : Kn P w K mg base x s ps k fun _ _ => .fail := by
  obtain ⟨f, fd, hmg, F⟩ := S
  exact ⟨f, fd, z, hmg, F, F.binds hb, fn_fail⟩
end
section
variable {X : Cx} {W : WX} {F : FA} {k : Nat} {ps : List Str} {x : Str} {st : Stmt} {p pos : Pos} {e : Expr} {es : List Expr} {fs fk : EvA}
theorem g_calln (C : Kn X.prog X.w X.K X.mg X.base x st ps k F) (hr : RoomG k X.A) (hg : Gl X x) (tk : Takes X W)
    (ha : PA X (e :: es) (rdA X.K W fs)) (hdb : (x == ("__debug__" : Str)) = false) (he : starEach (e :: es) X.env = (false, eval e X.env) :: starEach es X.env) (hpl : (backTo pos (starEach es X.env)).any (·.1) = false) :
    PE X (.Call (.Name x p) (e :: es) [] pos) (rdE X.K W (callE F fs)) := by
  obtain ⟨f, fd, z, hm, Fn, hb, G⟩ := C.ex
  exact g_call G hr hg hm Fn.kp hb tk ha hdb he hpl
theorem g_callkn0 {ks : List Str} {ix : List Nat} {kws : List Keyword} (C : Kn X.prog X.w X.K X.mg X.base x st ps k F) (hr : RoomG k X.A) (hg : Gl X x) (tk : Takes X W)
    (hkb : ∀ (z : Str) (kV doc pm : Value) (an : Option Addr) (cdv ct : Value) (us ws : List Value), us.length = 0 → ws.length = ks.length → bindArgs (PySem.W.fnOf z z (defArgs st) (defBody st) (defScope st) .none kV doc pm an cdv ct) ⟨us, ks.zip ws⟩ = pure (ps.zip (pick us ws ix)))
    (hkw : PK X kws (rdA X.K W fk)) (hall : (backToKw pos (keywordEach kws X.env)).all (·.1.isSome) = true) (hks : (backToKw pos (keywordEach kws X.env)).filterMap (·.1) = ks)
    (hdb : (x == ("__debug__" : Str)) = false)
    (hpl : ((backTo pos (starEach [] X.env)).any (·.1) || (backToKw pos (keywordEach kws X.env)).any (·.1.isNone)) = false) :
    PE X (.Call (.Name x p) [] kws pos) (rdE X.K W (callKE F nilA fk 0 ks.length ix)) := by
  obtain ⟨f, fd, z, hm, Fn, hb, G⟩ := C.ex
  exact g_callK0 G hr hg hm Fn.kp (kb_of Fn (hkb z)) tk hkw hall hks hdb hpl
end
end G
namespace G
open PySem PySem.Spec PyProof.Rows L2
theorem fun_inj {K : PySem.W.Frag} {x qual x' qual' : Str} {s s' : Stmt} {f : Addr} {fd fd' : FuncData} (F : Fun K x qual s f fd) (F' : Fun K x' qual' s' f fd') : fd' = fd := by
  obtain ⟨oc, od, kV, doc, pm, an, cdv, ct, osl, e, lk, hcd⟩ := F.ex
  obtain ⟨oc', od', kV', doc', pm', an', cdv', ct', osl', e', lk', hcd'⟩ := F'.ex
  rw [lk] at lk'
  injection lk' with q
  injection q with _ _ q3 _
  injection q3 with q4
  exact q4.symm
theorem law_fd {l : PySem.W.OpenLaw} {w : World} {K : PySem.W.Frag} {mg : Str → Option Value} {fa : Addr} {fd : FuncData} {s : Stmt} {k : Nat} {F : FA} (hfa : mg "law" = some (.ref fa)) (Fn : Fun K "law" "law" s fa fd)
    (hb : ∀ (s : Shared) (v : Value), BindsTo s fd ⟨[v], []⟩ [("script", v)])
    (h : ∀ base : Heap, K.In base → base.Ns mainGlobals mg → Kn l.prog w K mg base "law" s ["script"] k F) :
    ∃ fd : FuncData, (∀ (s : Shared) (v : Value), BindsTo s fd ⟨[v], []⟩ [("script", v)]) ∧ ∀ base : Heap, K.In base → base.Ns mainGlobals mg → FnG l.prog w K mg base k fa fd ["script"] (spG K F) := by
  refine ⟨fd, hb, fun base h1 h2 => ?_⟩
  obtain ⟨f, fd', z, hm, Fn', _, G⟩ := (h base h1 h2).ex
  rw [hfa] at hm
  injection hm with hm
  injection hm with hm
  subst hm
  have e := fun_inj Fn Fn'
  subst e
  exact G
theorem cx_no {P : Program} {w : World} {outer : List PySem.Env} {H : Hp} {s : Shared} {e : Value} {s' : Shared} (h : L2.CX P w outer H s (fun _ _ _ => False) e s') : False := by
  obtain ⟨_, _, _, _, _, _, _, _, _, _, _, _, z⟩ := h
  exact z
theorem law_sp {K : PySem.W.Frag} {F : FA} {H : Hp} {a : Addr} {ns : List Int} (hS : SqL K H a (ns.map V.int)) (h : ∃ st, F [.slo (ns.map D.int)] [] = .ok (.bl true) st) : spG K F [.ref a] H (fun v _ => v = .bl true) fun _ _ _ => False := by
  obtain ⟨st, e⟩ := h
  refine ⟨[.slo (ns.map D.int)], ⟨[], [], fun _ => none⟩, [], .cons ?_ .nil, ⟨rfl, List.nodup_nil, fun a h => by simp at h, fun n a mo h => by simp at h⟩, ?_⟩
  · unfold Rep
    exact ⟨a, _, rfl, hS.imp (fun q => ⟨q, by simp [Mem.no]⟩) id, .ints ns⟩
  · rw [e]
    intro M' H' b _ _ r
    unfold Rep at r
    exact r
section
variable {P : Program} {w : World} {K : PySem.W.Frag} {mg mb : Str → Option Value} {k : Nat} {fa a : Addr} {fd : FuncData} {x : Str} {F : FA} {s : Shared} {vs : List Value} {ns : List Int}
structure Fst (K : PySem.W.Frag) (P : Program) (w : World) (a : Addr) (h : Heap) (ns : List Int) (H : Hp) : Prop where
  only : ∀ b, H b = none ∨ (b = a ∧ K.lookup a = none ∧ ∃ o xs, H b = some (.frz o (.lst xs)))
  at_ : SqL K H a (ns.map V.int)
  ok : HOk P w H h
theorem fst_of (KX : K.In s.heap) (ha : s.heap.get? a = some { cls := .type "list", data := .seq vs.toArray }) (hi : IntsAre vs ns) (hl : ns.length ≤ sizeLine) : ∃ H, Fst K P w a s.heap ns H := by
  have rv := vals_ints hi
  by_cases hk : K.lookup a = none
  · let u : HO := .frz { cls := .type "list", data := .seq vs.toArray } (.lst (ns.map V.int))
    refine ⟨fun b => if b = a then some u else none, fun b => ?_, .inl (.inr ⟨_, if_pos rfl⟩), fun b o e => ?_⟩
    · by_cases hb : b = a
      · exact .inr ⟨hb, hk, _, _, if_pos hb⟩
      · exact .inl (if_neg hb)
    · by_cases hb : b = a
      · subst hb
        have e := (if_pos rfl).symm.trans e
        cases e
        exact ⟨ha, by rw [List.length_map]; exact hl, vs, _, rv, ha⟩
      · have e := (if_neg hb).symm.trans e
        cases e
  · cases hk2 : K.lookup a with
    | none => exact absurd hk2 hk
    | some o =>
      have e := KX a o hk2
      rw [ha] at e
      cases e
      refine ⟨fun _ => none, fun _ => .inl rfl, .inr ⟨_, vs.toArray, _, hk2, rfl, rfl, rfl, ?_, by simpa using rv⟩, fun _ _ e => nomatch e⟩
      rw [List.size_toArray, hi.length]; exact hl
theorem law_run (KX : K.In s.heap) (hns : s.heap.Ns mainGlobals mg) (hb : s.heap.Ns builtinsNs mb) (hbb : ∀ x : Str, x ≠ "__name__" → mb x = bootBuiltins x) (hlim : s.heap.NoLimit) (hg : s.gens = #[])
    (ha : s.heap.get? a = some { cls := .type "list", data := .seq vs.toArray }) (hi : IntsAre vs ns) (hl : ns.length ≤ sizeLine) (hr : RoomG k callerA)
    (hF : ∀ base : Heap, K.In base → base.Ns mainGlobals mg → FnG P w K mg base k fa fd [x] (spG K F)) (hbind : ∀ (s : Shared) (u : Value), BindsTo s fd ⟨[u], []⟩ [(x, u)]) (ht : ∃ st, F [.slo (ns.map D.int)] [] = .ok (.bl true) st) :
    codeAny (model P w) callerA (.call (.ref fa) ⟨[.ref a], []⟩) (fun r s' => r = .ok (.ret (.bool true)) ∧ OldK s.heap s'.heap ∧ s'.os = s.os ∧ AllBare s'.gens) s := by
  obtain ⟨H, F1⟩ := fst_of (P := P) (w := w) KX ha hi hl
  -- a dict, or an object of the module, is not tracked
  have free : ∀ {b : Addr} {o : Obj}, s.heap.get? b = some o → (b = a → K.lookup a = none → False) → H b = none := fun {b o} e z => (F1.only b).elim id fun ⟨h1, h2, _⟩ => (z h1 h2).elim
  have ns_ : ∀ {b : Addr} {m : Str → Option Value}, s.heap.Ns b m → (hidT s.heap H).Ns b m := fun {b m} ⟨o, es, ep, e, d, r⟩ => ⟨o, es, ep, hidT_get e (free e fun h1 _ => by
    subst h1
    rw [ha] at e
    cases e
    exact nomatch (show Data.seq vs.toArray _ = Data.dict es ep from d)), d, r⟩
  have KB : K.In (hidT s.heap H) := fun b o e => hidT_get (KX b o e) (free (KX b o e) fun h1 h2 => by
    subst h1
    rw [h2] at e; cases e)
  have e0 : Env0 P w K mg (hidT s.heap H) callerA [] s H :=
    ⟨rfl, ⟨KB, ns_ hns, ⟨mb, ns_ hb, hbb⟩, let ⟨mc, h1, h2⟩ := hlim; ⟨mc, ns_ h1, h2⟩⟩, fun b o e => of_hidT e, Nat.le_of_eq (hidT_size _ _), True.intro, fun b hb => (nomatch (show b ∈ ([] : List Addr) from hb)), F1.ok, .of_eq hg⟩
  refine codeAny_mono ((hF _ KB (ns_ hns)).run callerA [] s H ⟨[.ref a], []⟩ [.ref a] [.ref a] (fun v _ => v = .bl true) (fun _ _ _ => False) hr e0 (hbind s (.ref a)) (.cons rfl .nil) (law_sp F1.at_ ht)) fun r s' h => ?_
  cases r with
  | error e => exact (cx_no h).elim
  | ok fl =>
    cases fl with
    | next => exact False.elim h
    | brk => exact False.elim h
    | cont => exact False.elim h
    | ret u =>
      obtain ⟨v, H', os, bare, un, hok', r', q⟩ := h
      have q : v = .bl true := q
      subst q
      obtain rfl : u = Value.bool true := r'
      refine ⟨rfl, OldK.of_keep fun b o e => ?_, os, bare⟩
      rcases F1.only b with z | ⟨_, _, ob, xs, z⟩
      · exact un.keep b o e z (fun m => (nomatch (show b ∈ ([] : List Addr) from m))) (by simp)
      · have k1 := (F1.ok b _ z).1
        have k2 := (hok' b _ (un.frzs b ob _ z)).1
        rw [k1] at e
        cases e
        exact k2
theorem walk_end {l : PySem.W.OpenLaw} {n k : Nat} {q : Program} {loose : List Str} {XP : (Str → Option Value) → Heap → Prop} {YP : World → Heap → Prop} {d : DefRec} {K : Params → PySem.W.Frag} {x : Str} {F : FA}
    (hn : l.most = some n) (hn2 : n ≤ sizeLine) (hdf : d.params.defaults = []) (hr : L2.Room k callerA) (hY : ∀ (w : World) (h : Heap), YP w h → (K w.params).In h)
    (hF : ∀ (w : World) (mg : Str → Option Value) (fa : Addr) (h : Heap), (K w.params).In h → h.Ns mainGlobals mg → mg d.name = some (.ref fa) →
      ∃ fd : FuncData, (∀ (s : Shared) (u : Value), BindsTo s fd ⟨[u], []⟩ [(x, u)]) ∧ ∀ base : Heap, (K w.params).In base → base.Ns mainGlobals mg → FnG l.prog w (K w.params) mg base k fa fd [x] (spG (K w.params) F))
    (ht : ∀ ns : List Int, ns.length ≤ n → ∃ st, F [.slo (ns.map D.int)] [] = .ok (.bl true) st) : PySem.W.WalkO q loose XP YP l.row.toRowW d [] (fun f vs => PySem.call f vs) := by
  refine Att.attach_call hn hdf fun w s₀ s₁ mg mb fa o pm cd doc a vs ns G Y ho hd hcd hmg hobj hints hlen hg => ?_
  have KX := hY w _ Y
  obtain ⟨fd, hb, F1⟩ := hF w mg fa _ KX G.T.g hmg
  exact law_run KX G.T.g G.T.b G.T.builtins G.T.nolimit hg hobj hints (Nat.le_trans hlen hn2) ⟨hr, rfl⟩ F1 hb (ht ns hlen)
end
end G
namespace G
open PySem PySem.Spec PyProof.Rows L2
mutual
def rf : D → Bool
  | .mut _ => false
  | .exv .. => false
  | .tup xs => rfL xs
  | .lst xs => rfL xs
  | .slo xs => rfL xs
  | _ => true
def rfL : List D → Bool
  | [] => true
  | x :: xs => rf x && rfL xs
end
def rfM : MO → Bool
  | .lst xs => rfL xs
  | .dd kvs => rfL (kvs.map (·.2))
  | .de kvs => rfL (kvs.map (·.2))
  | .fd kvs => rfL (kvs.map (·.2))
  | .fe kvs => rfL (kvs.map (·.2))
  | _ => true
def rfS (st : Sto) : Bool := st.all rfM
mutual
/-- d with the lists of st that are not below n0 written out, k deep at most -/
def thaw (st : Sto) (n0 : Nat) : Nat → D → Option D
  | k, .tup xs => (thawL st n0 k xs).map .tup
  | k, .lst xs => (thawL st n0 k xs).map .lst
  | k, .slo xs => if rfL xs then some (.slo xs) else none
  | 0, .mut _ => none
  | _, .exv .. => none
  | k + 1, .mut j => if j < n0 then none else match st[j]? with
    | some (.lst xs) => if rfL xs then some (.lst xs) else none
    | _ => none
  | _, d => some d
def thawL (st : Sto) (n0 : Nat) : Nat → List D → Option (List D)
  | _, [] => some []
  | k, x :: xs => match thaw st n0 k x, thawL st n0 k xs with
    | some a, some b => some (a :: b)
    | _, _ => none
end
def fz (n0 : Nat) (r : R D) : R D := match r with
  | .ok d st1 => (match rfS (st1.take n0), thaw st1 n0 1 d with
    | true, some d' => .ok d' (st1.take n0)
    | _, _ => .ok d st1)
  | r => r
section
variable {K : PySem.W.Frag} {M : Mem} {H : Hp} {n0 : Nat}
def Mem.cut (M : Mem) (n : Nat) : Mem := ⟨M.m.take n, M.p, M.f⟩
end
def rangeD (lo : Int) (n : Nat) : List D := (List.range n).map fun k => .int (lo + (k : Nat))
@[simp] theorem rangeD_length (lo : Int) (n : Nat) : (rangeD lo n).length = n := by simp [rangeD]
section
variable (env : Env) (st : Sto)
@[simp] theorem varE_0 (d : D) (r : Env) : varE 0 (some d :: r) st = .ok d st := rfl
@[simp] theorem varE_s (n : Nat) (o : Option D) (r : Env) : varE (n + 1) (o :: r) st = varE n r st := by
  unfold varE
  simp only [List.getElem?_cons_succ]
@[simp] theorem cE_eq (d : D) : cE d env st = .ok d st := rfl
@[simp] theorem unE_eq (f : F1) (a : EvE) : unE f a env st = (a env st).bind f := rfl
@[simp] theorem binE_eq (f : F2) (a b : EvE) : binE f a b env st = (a env st).bind fun x s1 => (b env s1).bind fun y s2 => f x y s2 := rfl
@[simp] theorem tstE_eq (a : EvE) : tstE a env st = (a env st).bind boolR := rfl
@[simp] theorem boolR_eq (b : Bool) : boolR (.bl b) st = .ok b st := rfl
@[simp] theorem chainE_eq (f g : F2) (a b c : EvE) : chainE f g a b c env st = (a env st).bind fun x s1 => (b env s1).bind fun y s2 => (f x y s2).bind fun z s3 => match z with
  | .bl true => (c env s3).bind fun v s4 => g y v s4
  | .bl false => .ok (.bl false) s3
  | _ => .fail := rfl
@[simp] theorem andB_eq (p q : EvB) : andB p q env st = (p env st).bind fun b s1 => if b = true then q env s1 else .ok false s1 := rfl
@[simp] theorem orB_eq (p q : EvB) : orB p q env st = (p env st).bind fun b s1 => if b = true then .ok true s1 else q env s1 := rfl
@[simp] theorem notB_eq (p : EvB) : notB p env st = (p env st).bind fun b s1 => .ok (!b) s1 := rfl
@[simp] theorem ifE_eq (t : EvB) (a b : EvE) : ifE t a b env st = (t env st).bind fun x s1 => if x = true then a env s1 else b env s1 := rfl
@[simp] theorem andE_eq (a b : EvE) : andE a b env st = (a env st).bind fun x s1 => match x with
  | .bl true => b env s1
  | .bl false => .ok (.bl false) s1
  | _ => .fail := rfl
@[simp] theorem notE_eq (a : EvE) : notE a env st = (a env st).bind fun x s1 => match x with
  | .bl b => .ok (.bl (!b)) s1
  | _ => .fail := rfl
@[simp] theorem nilA_eq : nilA env st = .ok [] st := rfl
@[simp] theorem consA_eq (a : EvE) (r : EvA) : consA a r env st = (a env st).bind fun x s1 => (r env s1).bind fun xs s2 => .ok (x :: xs) s2 := rfl
@[simp] theorem starA_eq (a : EvE) (r : EvA) : starA a r env st = (a env st).bind fun x s1 => match itemsOf x with
  | some xs => (r env s1).bind fun ys s2 => .ok (xs ++ ys) s2
  | none => .fail := rfl
@[simp] theorem tupE_eq (fs : EvA) : tupE fs env st = (fs env st).bind fun xs s1 => if xs.length ≤ 16777216 then .ok (.tup xs) s1 else .fail := rfl
@[simp] theorem lstE_eq (fs : EvA) : lstE fs env st = (fs env st).bind fun xs s1 => if xs.length ≤ 16777216 then .ok (.lst xs) s1 else .fail := rfl
@[simp] theorem mutE_eq (fs : EvA) : mutE fs env st = (fs env st).bind fun xs s1 => if xs.length ≤ 16777216 then .ok (.mut s1.length) (s1 ++ [.lst xs]) else .fail := rfl
@[simp] theorem callE_eq (f : FA) (fs : EvA) : callE f fs env st = (fs env st).bind f := rfl
@[simp] theorem noO_eq : noO env st = .ok none st := rfl
@[simp] theorem someO_eq (a : EvE) : someO a env st = (a env st).bind fun x s1 => match x with
  | .int i => .ok (some i) s1
  | _ => .fail := rfl
@[simp] theorem sliceE_eq (a : EvE) (l h : EvO) : sliceE a l h env st = (a env st).bind fun x s1 => (l env s1).bind fun l s2 => (h env s2).bind fun h s3 => sliceD x l h s3 := rfl
@[simp] theorem callKE_eq (F : FA) (fs ks : EvA) (n m : Nat) (ix : List Nat) : callKE F fs ks n m ix env st = (fs env st).bind fun us s1 => (ks env s1).bind fun ws s2 => if us.length = n ∧ ws.length = m then F (pick us ws ix) s2 else .fail := rfl
@[simp] theorem methLE_eq (f : FM) (o : EvE) (fs : EvA) : methLE f o fs env st = (o env st).bind fun x s1 => if isL x s1 = true then (fs env s1).bind fun as s2 => f x as s2 else .fail := rfl
@[simp] theorem passS_eq : passS env st = .nx env st := rfl
@[simp] theorem retS_eq (a : EvE) : retS a env st = bindS (a env st) env fun d s1 => .ret d s1 := rfl
@[simp] theorem exprS_eq (a : EvE) : exprS a env st = bindS (a env st) env fun _ s1 => .nx env s1 := rfl
@[simp] theorem ifS_eq (t : EvB) (f g : SvS) : ifS t f g env st = bindS (t env st) env fun b s1 => if b = true then f env s1 else g env s1 := rfl
def thenS (s : S) (g : SvS) : S := match s with
  | .nx e s1 => g e s1
  | s => s
@[simp] theorem seqS_eq (f g : SvS) : seqS f g env st = thenS (f env st) g := by
  unfold seqS thenS
  cases f env st <;> rfl
@[simp] theorem thenS_nx (g : SvS) : thenS (.nx env st) g = g env st := rfl
@[simp] theorem thenS_ret (d : D) (g : SvS) : thenS (.ret d st) g = .ret d st := rfl
@[simp] theorem thenS_ite {c : Prop} [Decidable c] (a b : S) (g : SvS) : thenS (if c then a else b) g = if c then thenS a g else thenS b g := by split <;> rfl
@[simp] theorem asgS_eq (a : EvE) (g : TgF) : asgS a g env st = bindS (a env st) env fun d s1 => bindS (g d env s1) env fun e s2 => .nx e s2 := rfl
@[simp] theorem nameT_eq (i : Nat) (d : D) : nameT i d env st = .ok (env.set i (some d)) st := rfl
@[simp] theorem tupT_eq (n : Nat) (fs : List D → Env → Sto → R Env) (xs : List D) : tupT n fs (.tup xs) env st = if xs.length = n then fs xs env st else .fail := rfl
@[simp] theorem nilT_eq : nilT [] env st = .ok env st := rfl
@[simp] theorem consT_eq (f : TgF) (fs : List D → Env → Sto → R Env) (d : D) (r : List D) : consT f fs (d :: r) env st = match f d env st with
    | .ok e s => (match fs r e s with
      | .ok e2 s2 => .ok e2 s2
      | _ => .fail)
    | _ => .fail := rfl
@[simp] theorem parS_eq (i j : Nat) (fs : EvA) : parS i j fs env st = bindS (fs env st) env fun as s1 => match as with
  | [a, b] => .nx ((env.set i (some a)).set j (some b)) s1
  | _ => .fail := rfl
@[simp] theorem forS_eq (it : EvI) (g : TgF) (body : SvS) : forS it g body env st = bindS (it env st) env fun I s1 => match I with
  | .frz xs => loopF g body xs env s1
  | .gen nxt k => loopG g body nxt k 0 env s1 := rfl
@[simp] theorem tgT_nm (i : Nat) (d : D) : tgT (.nm i) d env st = .ok (env.set i (some d)) st := rfl
@[simp] theorem callI_eq (f : List D → Sto → R ItD) (fs : EvA) : callI f fs env st = (fs env st).bind f := rfl
@[simp] theorem iterE_eq (a : EvE) : iterE a env st = (a env st).bind iterD := rfl
@[simp] theorem iterD_tup (xs : List D) : iterD (.tup xs) st = .ok (.frz xs) st := rfl
@[simp] theorem iterD_lst (xs : List D) : iterD (.lst xs) st = .ok (.frz xs) st := rfl
@[simp] theorem iterD_slo (xs : List D) : iterD (.slo xs) st = .ok (.frz xs) st := rfl
@[simp] theorem range1F_eq (j : Int) : range1F [.int j] st = if j.natAbs < 2 ^ 62 then .ok (.frz (rangeD 0 j.toNat)) st else .fail := rfl
@[simp] theorem range2F_eq (i j : Int) : range2F [.int i, .int j] st = if i.natAbs < 2 ^ 62 ∧ j.natAbs < 2 ^ 62 then .ok (.frz (rangeD i (j - i).toNat)) st else .fail := rfl
@[simp] theorem addD_int (i j : Int) : addD (.int i) (.int j) st = .ok (.int (i + j)) st := rfl
@[simp] theorem subD_int (i j : Int) : subD (.int i) (.int j) st = .ok (.int (i - j)) st := rfl
@[simp] theorem mulD_int (i j : Int) : mulD (.int i) (.int j) st = if mulOk i j then .ok (.int (i * j)) st else .fail := rfl
@[simp] theorem fdivD_int (i j : Int) : fdivD (.int i) (.int j) st = if 0 < j ∧ j.natAbs < big then .ok (.int (i / j)) st else .fail := rfl
@[simp] theorem modD_int (i j : Int) : modD (.int i) (.int j) st = if 0 < j then .ok (.int (i % j)) st else .fail := rfl
@[simp] theorem powD_int (i j : Int) : powD (.int i) (.int j) st = if 0 ≤ j ∧ j ≤ 1000000 ∧ i.natAbs < 2 ^ 64 then .ok (.int (i ^ j.toNat)) st else .fail := rfl
@[simp] theorem negD_int (i : Int) : negD (.int i) st = .ok (.int (-i)) st := rfl
@[simp] theorem ltD_int (i j : Int) : ltD (.int i) (.int j) st = .ok (.bl (decide (i < j))) st := rfl
@[simp] theorem leD_int (i j : Int) : leD (.int i) (.int j) st = .ok (.bl (decide (i ≤ j))) st := rfl
@[simp] theorem gtD_int (i j : Int) : gtD (.int i) (.int j) st = .ok (.bl (decide (j < i))) st := rfl
@[simp] theorem geD_int (i j : Int) : geD (.int i) (.int j) st = .ok (.bl (decide (j ≤ i))) st := rfl
@[simp] theorem eqD_int (i j : Int) : eqD (.int i) (.int j) st = .ok (.bl (decide (i = j))) st := rfl
@[simp] theorem absF_int (i : Int) : absF [.int i] st = .ok (.int (if i < 0 then -i else i)) st := rfl
@[simp] theorem intF_int (i : Int) : intF [.int i] st = .ok (.int i) st := rfl
@[simp] theorem maxF_int (i j : Int) : maxF [.int i, .int j] st = .ok (.int (if j > i then j else i)) st := rfl
@[simp] theorem minF_int (i j : Int) : minF [.int i, .int j] st = .ok (.int (if j < i then j else i)) st := rfl
@[simp] theorem divmodF_int (i j : Int) : divmodF [.int i, .int j] st = if 0 < j ∧ (j < 1073741824 ∨ i.natAbs < big ∨ j.natAbs < big) then .ok (.tup [.int (i / j), .int (i % j)]) st else .fail := rfl
@[simp] theorem lenF_tup (xs : List D) : lenF [.tup xs] st = .ok (.int xs.length) st := rfl
@[simp] theorem lenF_lst (xs : List D) : lenF [.lst xs] st = .ok (.int xs.length) st := rfl
@[simp] theorem lenF_slo (xs : List D) : lenF [.slo xs] st = .ok (.int xs.length) st := rfl
@[simp] theorem listF_tup (xs : List D) : listF [.tup xs] st = .ok (.lst xs) st := rfl
@[simp] theorem listF_lst (xs : List D) : listF [.lst xs] st = .ok (.lst xs) st := rfl
@[simp] theorem tupleF_tup (xs : List D) : tupleF [.tup xs] st = .ok (.tup xs) st := rfl
@[simp] theorem tupleF_lst (xs : List D) : tupleF [.lst xs] st = .ok (.tup xs) st := rfl
@[simp] theorem sumF_ints (ns : List Int) : sumF [.lst (ns.map D.int)] st = .ok (.int ns.sum) st := by
  show (match (some (ns.map D.int)).bind intsOf with
    | some ns => R.ok (D.int ns.sum) st
    | none => .fail) = _
  simp
@[simp] theorem allF_bools (ns : List Bool) : allF [.lst (ns.map D.bl)] st = .ok (.bl (ns.all id)) st := by
  show (match (some (ns.map D.bl)).bind boolsOf with
    | some ns => R.ok (D.bl (ns.all id)) st
    | none => .fail) = _
  simp
@[simp] theorem anyF_bools (ns : List Bool) : anyF [.lst (ns.map D.bl)] st = .ok (.bl (ns.any id)) st := by
  show (match (some (ns.map D.bl)).bind boolsOf with
    | some ns => R.ok (D.bl (ns.any id)) st
    | none => .fail) = _
  simp
@[simp] theorem sliceD_tup (xs : List D) (l h : Option Int) : sliceD (.tup xs) l h st = .ok (.tup (cutD xs l h)) st := rfl
@[simp] theorem sliceD_lst (xs : List D) (l h : Option Int) : sliceD (.lst xs) l h st = .ok (.lst (cutD xs l h)) st := rfl
@[simp] theorem sliceD_slo (xs : List D) (l h : Option Int) : sliceD (.slo xs) l h st = .ok (.lst (cutD xs l h)) st := rfl
@[simp] theorem itemsOf_tup (xs : List D) : itemsOf (.tup xs) = some xs := rfl
@[simp] theorem itemsOf_lst (xs : List D) : itemsOf (.lst xs) = some xs := rfl
@[simp] theorem isiD_int (c : Tag) (i : Int) : isiD c (.int i) st = .ok (.bl (isiB .int c)) st := rfl
@[simp] theorem isiD_bl (c : Tag) (i : Bool) : isiD c (.bl i) st = .ok (.bl (isiB .bl c)) st := rfl
@[simp] theorem isiD_str (c : Tag) (i : Str) : isiD c (.str i) st = .ok (.bl (isiB .str c)) st := rfl
@[simp] theorem isiD_non (c : Tag) : isiD c .non st = .ok (.bl (isiB .non c)) st := rfl
@[simp] theorem isiD_tup (c : Tag) (xs : List D) : isiD c (.tup xs) st = .ok (.bl (isiB .tup c)) st := rfl
@[simp] theorem isiD_lst (c : Tag) (xs : List D) : isiD c (.lst xs) st = .ok (.bl (isiB .lst c)) st := rfl
end
theorem ixD_tup (xs : List D) (i : Int) (st : Sto) {d : D} (h : L2.atI xs i = some d) : ixD (.tup xs) (.int i) st = .ok d st := by
  show (match (some xs).bind fun xs => L2.atI xs i with
      | some d => R.ok d st
      | none => .fail) = _
  simp [h]
theorem ixD_lst (xs : List D) (i : Int) (st : Sto) {d : D} (h : L2.atI xs i = some d) : ixD (.lst xs) (.int i) st = .ok d st := by
  show (match (some xs).bind fun xs => L2.atI xs i with
      | some d => R.ok d st
      | none => .fail) = _
  simp [h]
theorem ixD_slo (xs : List D) (i : Int) (st : Sto) {d : D} (h : L2.atI xs i = some d) : ixD (.slo xs) (.int i) st = .ok d st := by
  show (match (some xs).bind fun xs => L2.atI xs i with
      | some d => R.ok d st
      | none => .fail) = _
  simp [h]
theorem ixD_mut (n : Nat) (xs : List D) (i : Int) (st : Sto) {d : D} (hn : st[n]? = some (.lst xs)) (h : L2.atI xs i = some d) : ixD (.mut n) (.int i) st = .ok d st := by
  have e : seqOf (.mut n) st = some xs := by simp [seqOf, hn]
  show (match (seqOf (.mut n) st).bind fun xs => L2.atI xs i with
      | some d => R.ok d st
      | none => .fail) = _
  simp [e, h]
end G
namespace G
open PySem PySem.Spec PyProof.Rows L2
def tupI (ts : List Int) : D := .tup (ts.map D.int)
def lstI (ts : List Int) : D := .lst (ts.map D.int)
def lstB (ts : List Bool) : D := .lst (ts.map D.bl)
@[simp] theorem cutD_from (xs : List D) (m : Nat) : cutD xs (some (m : Int)) none = xs.drop m := by
  unfold cutD
  rw [HT.sIx_nat, HT.sIx_none]
  by_cases h : m ≤ xs.length
  · rw [Nat.min_eq_left h, List.take_of_length_le (by simp)]
  · rw [Nat.min_eq_right (by omega), List.drop_of_length_le (Nat.le_refl _), List.drop_of_length_le (by omega)]
    simp
@[simp] theorem cutD_to (xs : List D) (m : Nat) : cutD xs none (some (m : Int)) = xs.take m := by
  unfold cutD
  rw [HT.sIx_nat, HT.sIx_none, List.drop_zero, Nat.sub_zero]
  by_cases h : m ≤ xs.length
  · rw [Nat.min_eq_left h]
  · rw [Nat.min_eq_right (by omega), List.take_of_length_le (Nat.le_refl _), List.take_of_length_le (by omega)]
@[simp] theorem cutD_both (xs : List D) (a b : Nat) : cutD xs (some (a : Int)) (some (b : Int)) = (xs.drop a).take (b - a) := by
  unfold cutD
  rw [HT.sIx_nat, HT.sIx_nat]
  apply List.ext_getElem?
  intro i
  rw [List.getElem?_take, List.getElem?_take, List.getElem?_drop, List.getElem?_drop]
  by_cases h1 : a ≤ xs.length
  · rw [show min a xs.length = a by omega]
    by_cases h2 : b ≤ xs.length
    · rw [show min b xs.length = b by omega]
    · rw [show min b xs.length = xs.length by omega]
      by_cases h3 : a + i < xs.length
      · rw [if_pos (by omega), if_pos (by omega)]
      · rw [List.getElem?_eq_none (by omega)]; simp
  · rw [show min a xs.length = xs.length by omega]
    have e1 : xs[xs.length + i]? = none := List.getElem?_eq_none (by omega)
    have e2 : xs[a + i]? = none := List.getElem?_eq_none (by omega)
    rw [e1, e2]
    simp
theorem atI_nat' {α : Type} (xs : List α) (i : Nat) (h : i < xs.length) : L2.atI xs (i : Int) = some xs[i] := by
  unfold L2.atI L2.ixN
  rw [if_pos (by omega), if_pos (by omega)]
  simp [h]
theorem atI_map {α β : Type} (f : α → β) (xs : List α) (i : Int) : L2.atI (xs.map f) i = (L2.atI xs i).map f := by
  unfold L2.atI
  rw [List.length_map]
  cases L2.ixN xs.length i with
  | none => rfl
  | some j => simp
theorem atI_emod {ts : List Int} {i : Int} (h : 0 ≤ i) (hl : i < ts.length) : L2.atI (ts.map D.int) i = some (.int (ts.getD i.toNat 0)) := by
  obtain ⟨k, rfl⟩ := Int.eq_ofNat_of_zero_le h
  rw [atI_map, atI_nat' ts k (by omega)]
  have hk : k < ts.length := by omega
  simp [List.getD, hk]
def cutL {α : Type} (xs : List α) (lo hi : Option Int) : List α := (xs.drop (HT.sIx xs.length 0 lo)).take (HT.sIx xs.length xs.length hi - HT.sIx xs.length 0 lo)
theorem cutD_map {α : Type} (f : α → D) (xs : List α) (lo hi : Option Int) : cutD (xs.map f) lo hi = (cutL xs lo hi).map f := by
  unfold cutD cutL
  rw [List.length_map, List.map_take, List.map_drop]
theorem cutL_from {α : Type} (xs : List α) (m : Nat) : cutL xs (some (m : Int)) none = xs.drop m := by
  unfold cutL
  rw [HT.sIx_nat, HT.sIx_none]
  by_cases h : m ≤ xs.length
  · rw [Nat.min_eq_left h, List.take_of_length_le (by simp)]
  · rw [Nat.min_eq_right (by omega), List.drop_of_length_le (Nat.le_refl _), List.drop_of_length_le (by omega)]
    simp
theorem cutL_to {α : Type} (xs : List α) (m : Nat) : cutL xs none (some (m : Int)) = xs.take m := by
  unfold cutL
  rw [HT.sIx_nat, HT.sIx_none, List.drop_zero, Nat.sub_zero]
  by_cases h : m ≤ xs.length
  · rw [Nat.min_eq_left h]
  · rw [Nat.min_eq_right (by omega), List.take_of_length_le (Nat.le_refl _), List.take_of_length_le (by omega)]
section
variable (st : Sto) (ts : List Int)
@[simp] theorem lenF_tupI : lenF [tupI ts] st = .ok (.int ts.length) st := by unfold tupI; rw [lenF_tup, List.length_map]
@[simp] theorem lenF_lstI : lenF [lstI ts] st = .ok (.int ts.length) st := by unfold lstI; rw [lenF_lst, List.length_map]
@[simp] theorem listF_tupI : listF [tupI ts] st = .ok (lstI ts) st := rfl
@[simp] theorem listF_lstI : listF [lstI ts] st = .ok (lstI ts) st := rfl
@[simp] theorem tupleF_tupI : tupleF [tupI ts] st = .ok (tupI ts) st := rfl
@[simp] theorem tupleF_lstI : tupleF [lstI ts] st = .ok (tupI ts) st := rfl
@[simp] theorem sumF_tupI : sumF [tupI ts] st = .ok (.int ts.sum) st := by
  show (match (seqOf (D.tup (ts.map D.int)) st).bind intsOf with | some ns => _ | none => _) = _
  simp [seqOf, itemsOf]
@[simp] theorem sumF_lstI : sumF [lstI ts] st = .ok (.int ts.sum) st := sumF_ints st ts
@[simp] theorem sliceD_tupI (l h : Option Int) : sliceD (tupI ts) l h st = .ok (tupI (cutL ts l h)) st := by unfold tupI; rw [sliceD_tup, cutD_map]
@[simp] theorem sliceD_lstI (l h : Option Int) : sliceD (lstI ts) l h st = .ok (lstI (cutL ts l h)) st := by unfold lstI; rw [sliceD_lst, cutD_map]
@[simp] theorem itemsOf_tupI : itemsOf (tupI ts) = some (ts.map D.int) := rfl
@[simp] theorem itemsOf_lstI : itemsOf (lstI ts) = some (ts.map D.int) := rfl
@[simp] theorem iterD_tupI : iterD (tupI ts) st = .ok (.frz (ts.map D.int)) st := rfl
@[simp] theorem iterD_lstI : iterD (lstI ts) st = .ok (.frz (ts.map D.int)) st := rfl
@[simp] theorem isiD_tupI (c : Tag) : isiD c (tupI ts) st = .ok (.bl (isiB .tup c)) st := rfl
@[simp] theorem isiD_lstI (c : Tag) : isiD c (lstI ts) st = .ok (.bl (isiB .lst c)) st := rfl
@[simp] theorem allF_lstB (bs : List Bool) : allF [lstB bs] st = .ok (.bl (bs.all id)) st := allF_bools st bs
@[simp] theorem anyF_lstB (bs : List Bool) : anyF [lstB bs] st = .ok (.bl (bs.any id)) st := anyF_bools st bs
theorem ixD_tupI (i : Int) (h : 0 ≤ i) (hl : i < ts.length) : ixD (tupI ts) (.int i) st = .ok (.int (ts.getD i.toNat 0)) st := ixD_tup _ _ _ (atI_emod h hl)
theorem ixD_lstI (i : Int) (h : 0 ≤ i) (hl : i < ts.length) : ixD (lstI ts) (.int i) st = .ok (.int (ts.getD i.toNat 0)) st := ixD_lst _ _ _ (atI_emod h hl)
theorem divmodF_nat (n m : Nat) (h : 0 < m) (h2 : m < 1073741824 ∨ n < big) : divmodF [.int n, .int m] st = .ok (.tup [.int (n / m : Nat), .int (n % m : Nat)]) st := by
  rw [divmodF_int, if_pos ⟨by omega, h2.imp (fun z => by omega) (fun z => .inl (by simpa using z))⟩]; rfl
end
theorem loopF_nx {g : TgF} {body : SvS} (Inv : Nat → Env → Sto → Prop) : ∀ (xs : List D) (i : Nat) (env : Env) (st : Sto), Inv i env st →
    (∀ j x env st, xs[j]? = some x → Inv (i + j) env st → ∃ env' st', turnS (bindS (g x env st) env body) (fun e s => .nx e s) = .nx env' st' ∧ (∀ k, turnS (bindS (g x env st) env body) k = k env' st') ∧ Inv (i + j + 1) env' st') →
    ∃ env' st', loopF g body xs env st = .nx env' st' ∧ Inv (i + xs.length) env' st'
  | [], i, env, st, h0, _ => ⟨env, st, rfl, h0⟩
  | x :: xs, i, env, st, h0, hs => by
    obtain ⟨e1, s1, _, t1, h1⟩ := hs 0 x env st rfl h0
    obtain ⟨e2, s2, t2, h2⟩ := loopF_nx Inv xs (i + 1) e1 s1 h1 fun j y e s hj hI => by
      have := hs (j + 1) y e s (by simpa using hj) (by rw [show i + (j + 1) = i + 1 + j by omega]; exact hI)
      rw [show i + (j + 1) + 1 = i + 1 + j + 1 by omega] at this
      exact this
    refine ⟨e2, s2, ?_, by rw [show i + (x :: xs).length = i + 1 + xs.length by simp; omega]; exact h2⟩
    unfold loopF
    rw [t1]; exact t2
theorem loop_nx {g : TgF} {body : SvS} (Inv : Nat → Env → Sto → Prop) {xs : List D} {env : Env} {st : Sto} (h0 : Inv 0 env st)
    (hs : ∀ j x env st, xs[j]? = some x → Inv j env st → ∃ env' st', bindS (g x env st) env body = .nx env' st' ∧ Inv (j + 1) env' st') :
    ∃ env' st', loopF g body xs env st = .nx env' st' ∧ Inv xs.length env' st' := by
  have := loopF_nx (g := g) (body := body) Inv xs 0 env st h0 fun j x e s hj hI => by
    rw [Nat.zero_add] at hI ⊢
    obtain ⟨e1, s1, t1, h1⟩ := hs j x e s hj hI
    exact ⟨e1, s1, by rw [t1]; rfl, fun k => by rw [t1]; rfl, h1⟩
  simpa using this
theorem range_get {n i : Nat} {lo : Int} {x : D} (h : (rangeD lo n)[i]? = some x) : x = .int (lo + i) ∧ i < n := by
  unfold rangeD at h
  rw [List.getElem?_map] at h
  obtain ⟨k, hk, rfl⟩ := Option.map_eq_some_iff.mp h
  obtain ⟨h1, h2⟩ := List.getElem?_eq_some_iff.mp hk
  simp at h1 h2
  subst h2
  exact ⟨rfl, h1⟩
theorem lc_inv {t : Tg} {tt : EvB} {fe : EvE} {envw : Env} (Inv : Nat → Sto → List D → Prop) : ∀ (xs : List D) (i : Nat) (st : Sto) (acc : List D), Inv i st acc →
    (∀ j x st acc, xs[j]? = some x → Inv (i + j) st acc → ∃ st' acc', (∀ k, turnC t tt fe envw x st acc k = k st' acc') ∧ Inv (i + j + 1) st' acc') →
    ∃ st' acc', lcF t tt fe envw xs st acc = .ok acc' st' ∧ Inv (i + xs.length) st' acc'
  | [], i, st, acc, h0, _ => ⟨st, acc, rfl, h0⟩
  | x :: xs, i, st, acc, h0, hs => by
    obtain ⟨s1, a1, t1, h1⟩ := hs 0 x st acc rfl h0
    obtain ⟨s2, a2, t2, h2⟩ := lc_inv Inv xs (i + 1) s1 a1 h1 fun j y s a hj hI => by
      have := hs (j + 1) y s a (by simpa using hj) (by rw [show i + (j + 1) = i + 1 + j by omega]; exact hI)
      rw [show i + (j + 1) + 1 = i + 1 + j + 1 by omega] at this
      exact this
    refine ⟨s2, a2, ?_, by rw [show i + (x :: xs).length = i + 1 + xs.length by simp; omega]; exact h2⟩
    unfold lcF
    rw [t1]; exact t2
theorem turnC_yes {t : Tg} {fe : EvE} {envw env1 : Env} {x y : D} {st st' : Sto} {acc : List D} {k : Sto → List D → R (List D)} (h1 : t.set x envw = some env1) (h2 : fe env1 st = .ok y st') (h3 : acc.length < 16777216) :
    turnC t yesB fe envw x st acc k = k st' (acc ++ [y]) := by
  unfold turnC yesB noX
  simp [h1, h2, h3, R.bind]
theorem lc_map {t : Tg} {fe : EvE} {envw : Env} {st : Sto} (h : D → D) : ∀ (xs : List D) (acc : List D), (acc.length + xs.length ≤ 16777216) →
    (∀ x ∈ xs, ∃ env1, t.set x envw = some env1 ∧ fe env1 st = .ok (h x) st) → lcF t yesB fe envw xs st acc = .ok (acc ++ xs.map h) st
  | [], acc, _, _ => by simp [lcF]
  | x :: xs, acc, hl, hx => by
    obtain ⟨env1, h1, h2⟩ := hx x List.mem_cons_self
    simp only [List.length_cons] at hl
    unfold lcF
    rw [turnC_yes h1 h2 (by omega), lc_map h xs (acc ++ [h x]) (by simp; omega) fun y hy => hx y (List.mem_cons_of_mem _ hy)]
    simp
theorem turnC_if {t : Tg} {tt : EvB} {fe : EvE} {envw env1 : Env} {x y : D} {st : Sto} {b : Bool} {acc : List D} {k : Sto → List D → R (List D)} (h1 : t.set x envw = some env1) (ht : tt env1 st = .ok b st) (h2 : b = true → fe env1 st = .ok y st) (h3 : acc.length < 16777216) :
    turnC t tt fe envw x st acc k = k st (if b = true then acc ++ [y] else acc) := by
  unfold turnC noX
  cases b with
  | false => simp [h1, ht, R.bind]
  | true => simp [h1, ht, h2 rfl, h3, R.bind]
@[simp] theorem lcE_eq (it : EvI) (t : Tg) (tt : EvB) (fe : EvE) (vs : List Nat) (env : Env) (st : Sto) : lcE it t tt fe vs env st = ((it env st).bind fun I st1 => match I with
  | .frz xs => lcF t tt fe (wipeE env vs) xs st1 []
  | .gen nxt k => lcG t tt fe (wipeE env vs) nxt k 0 st1 []).bind fun xs st1 => .ok (.lst xs) st1 := rfl
@[simp] theorem wipeE_nil (env : Env) : wipeE env [] = env := rfl
@[simp] theorem wipeE_cons (env : Env) (v : Nat) (vs : List Nat) : wipeE env (v :: vs) = (wipeE env vs).set v none := rfl
@[simp] theorem Tg_nm (i : Nat) (d : D) (env : Env) : Tg.set (.nm i) d env = some (env.set i (some d)) := by simp [Tg.set]
def Pool (n : Nat) (st : Sto) : Prop := ∃ a b c : Int, st[n]? = some (.lst [.int a, .int b, .int c])
def Eff (n : Nat) (st st' : Sto) : Prop := st'.length = st.length ∧ ∀ k, k ≠ n → st'[k]? = st[k]?
theorem Eff.refl {n : Nat} {st : Sto} : Eff n st st := ⟨rfl, fun _ _ => rfl⟩
theorem Eff.trans {n : Nat} {s1 s2 s3 : Sto} (a : Eff n s1 s2) (b : Eff n s2 s3) : Eff n s1 s3 := ⟨b.1.trans a.1, fun k h => (b.2 k h).trans (a.2 k h)⟩
theorem Eff.set {n : Nat} {st : Sto} {mo : MO} : Eff n st (st.set n mo) := ⟨by simp, fun k h => List.getElem?_set_ne (fun e => h e.symm)⟩
theorem setD_mut {n : Nat} {st : Sto} {xs : List D} {k : Int} {d : D} {j : Nat} (h : st[n]? = some (.lst xs)) (hj : L2.ixN xs.length k = some j) : setD (.mut n) (.int k) d st = some (st.set n (.lst (xs.set j d))) := by
  simp [setD, h, hj]
end G
namespace G
open PySem PySem.Spec PyProof.Rows L2
@[simp] theorem subT_eq (fo fi : EvE) (d : D) (env : Env) (st : Sto) : subT fo fi d env st = (fo env st).bind fun o s1 => (fi env s1).bind fun i s2 => match setD o i d s2 with
  | some s3 => .ok env s3
  | none => .fail := rfl
section
variable {st : Sto} {n : Nat}
theorem p_ix0 {x y z : D} (h : st[n]? = some (.lst [x, y, z])) : ixD (.mut n) (.int 0) st = .ok x st := ixD_mut n _ 0 st h rfl
theorem p_ix1 {x y z : D} (h : st[n]? = some (.lst [x, y, z])) : ixD (.mut n) (.int 1) st = .ok y st := ixD_mut n _ 1 st h rfl
theorem p_ix2 {x y z : D} (h : st[n]? = some (.lst [x, y, z])) : ixD (.mut n) (.int 2) st = .ok z st := ixD_mut n _ 2 st h rfl
theorem p_set0 {x y z : D} (h : st[n]? = some (.lst [x, y, z])) (d : D) : setD (.mut n) (.int 0) d st = some (st.set n (.lst [d, y, z])) := setD_mut (j := 0) h rfl
theorem p_set1 {x y z : D} (h : st[n]? = some (.lst [x, y, z])) (d : D) : setD (.mut n) (.int 1) d st = some (st.set n (.lst [x, d, z])) := setD_mut (j := 1) h rfl
theorem p_set2 {x y z : D} (h : st[n]? = some (.lst [x, y, z])) (d : D) : setD (.mut n) (.int 2) d st = some (st.set n (.lst [x, y, d])) := setD_mut (j := 2) h rfl
theorem p_get (h : n < st.length) (mo : MO) : (st.set n mo)[n]? = some mo := by simp [h]
end
end G
namespace G
section
variable (st : Sto)
@[simp] theorem isND_non : isND .non .non st = .ok (.bl true) st := rfl
@[simp] theorem isND_int (i : Int) : isND (.int i) .non st = .ok (.bl false) st := rfl
@[simp] theorem isND_bl (i : Bool) : isND (.bl i) .non st = .ok (.bl false) st := rfl
@[simp] theorem isND_str (i : PySem.Str) : isND (.str i) .non st = .ok (.bl false) st := rfl
@[simp] theorem isND_tup (i : List D) : isND (.tup i) .non st = .ok (.bl false) st := rfl
@[simp] theorem isND_lst (i : List D) : isND (.lst i) .non st = .ok (.bl false) st := rfl
@[simp] theorem isND_tupI (i : List Int) : isND (tupI i) .non st = .ok (.bl false) st := rfl
@[simp] theorem eqD_bl (i j : Bool) : eqD (.bl i) (.bl j) st = .ok (.bl (decide (i = j))) st := rfl
end
end G
namespace G
open PySem
theorem mulOk_lit {i j : Int} (h : j.natAbs < 2 ^ 64) : mulOk i j := .inr (.inl h)
theorem mulOk_lit' {i j : Int} (h : i.natAbs < 2 ^ 64) : mulOk i j := .inl h
def Below (F : FA) : Prop := ∀ {st : Sto} {n : Nat} {m : Int}, Pool n st → 0 < m → m < 1073741824 → ∃ v st', F [.mut n, .int m] st = .ok (.int v) st' ∧ 0 ≤ v ∧ v < m ∧ Pool n st' ∧ Eff n st st'
end G
namespace G
open PySem
theorem Eff.pool {n m : Nat} {st st' : Sto} (e : Eff n st st') (h : m ≠ n) (p : Pool m st) : Pool m st' := by
  obtain ⟨a, b, c, p⟩ := p
  exact ⟨a, b, c, (e.2 m h).trans p⟩
def Track (F : FA) (most : Int) : Prop := ∀ {st : Sto} {n : Nat} {w : Int}, Pool n st → 1 ≤ w → ∃ ts st', F [.mut n, .int w] st = .ok (tupI ts) st' ∧ 1 ≤ ts.length ∧ (ts.length : Int) ≤ most ∧ (∀ x ∈ ts, 1 ≤ x ∧ x ≤ w) ∧ Pool n st' ∧ Eff n st st'
def oneA (FB : FA) : SvS := retS (binE ixD (varE 1) (callE FB (consA (varE 0) (consA (callE lenF (consA (varE 1) (nilA))) (nilA)))))
def One (F : FA) : Prop := ∀ {st : Sto} {n : Nat} {xs : List D}, Pool n st → xs ≠ [] → xs.length < 1000000 → ∃ d st', F [.mut n, .tup xs] st = .ok d st' ∧ d ∈ xs ∧ Pool n st' ∧ Eff n st st'
theorem oneA_ok {FB : FA} (hB : Below FB) : One (runF 2 2 (oneA FB)) := by
  intro st n xs hp h1 h2
  have hl : 0 < xs.length := List.length_pos_iff.mpr h1
  obtain ⟨v, s1, e1, v0, v1, hp1, he1⟩ := hB (m := xs.length) hp (by omega) (by omega)
  obtain ⟨k, rfl⟩ := Int.eq_ofNat_of_zero_le v0
  have hk : k < xs.length := by omega
  refine ⟨xs[k], s1, ?_, List.getElem_mem hk, hp1, he1⟩
  simp [runF, oneA, e1, ixD_tup _ _ s1 (atI_nat' xs k hk)]
def MkPool (F : FA) : Prop := ∀ {st : Sto} {ns : List Int} {k : Nat}, ∃ a b c : Int, F [.slo (ns.map D.int), .int k] st = .ok (.mut st.length) (st ++ [.lst [.int a, .int b, .int c]])
end G
namespace G
open PySem
theorem pool_new {st : Sto} {a b c : Int} : Pool st.length (st ++ [.lst [.int a, .int b, .int c]]) := ⟨a, b, c, by simp⟩
end G
namespace G
open PySem PySem.Spec PyProof.Rows L2
section
variable (k : Env → Sto → S)
@[simp] theorem turnS_nx (env : Env) (st : Sto) : turnS (.nx env st) k = k env st := rfl
@[simp] theorem turnS_ret (d : D) (st : Sto) : turnS (.ret d st) k = .ret d st := rfl
end
@[simp] theorem loopF_nil (g : TgF) (body : SvS) (env : Env) (st : Sto) : loopF g body [] env st = .nx env st := rfl
@[simp] theorem loopF_cons (g : TgF) (body : SvS) (x : D) (xs : List D) (env : Env) (st : Sto) : loopF g body (x :: xs) env st = turnS (bindS (g x env st) env body) (loopF g body xs) := rfl
@[simp] theorem parS3_eq (i j k : Nat) (fs : EvA) (env : Env) (st : Sto) : parS3 i j k fs env st = bindS (fs env st) env fun as st1 => match as with
  | [a, b, c] => .nx (((env.set i (some a)).set j (some b)).set k (some c)) st1
  | _ => .fail := rfl
def inO (a b : D) (st : Sto) : Option Bool := match toPD a, (seqOf b st).bind toPDs with
  | some d, some ds => if SeqAt.shaped d = true ∧ SeqAt.shaped (.list ds) = true then some (ds.any fun z => PyData.eqv z d) else none
  | _, _ => none
def inD : F2 := fun a b st => match inO a b st with
  | some k => .ok (.bl k) st
  | none => .fail
section
variable {K : PySem.W.Frag} {M : Mem} {H : Hp}
def rInB (K : PySem.W.Frag) : R2 := fun x y H Q => ∃ d ds, Dp K H x d ∧ (Dp K H y (.list ds) ∨ Dp K H y (.tuple ds)) ∧ SeqAt.shaped d = true ∧ SeqAt.shaped (.list ds) = true ∧ Q (.bl (ds.any fun z => PyData.eqv z d)) H
theorem inO_rep {a b : D} {st : Sto} {k : Bool} {x y : V} (h : inO a b st = some k) (ra : Rep K M H a x) (rb : Rep K M H b y) (so : StOk K M H st) :
    ∃ d ds, Dp K H x d ∧ (Dp K H y (.list ds) ∨ Dp K H y (.tuple ds)) ∧ SeqAt.shaped d = true ∧ SeqAt.shaped (.list ds) = true ∧ k = ds.any fun z => PyData.eqv z d := by
  unfold inO at h
  split at h
  · rename_i d ds h1 h2
    split at h
    · rename_i hs
      cases h
      obtain ⟨xs, e1, e2⟩ := Option.bind_eq_some_iff.mp h2
      obtain ⟨t, vs, rfl, q, s⟩ := seqOf_rep so e1 rb
      refine ⟨d, ds, toPD_rep h1 ra, ?_, hs.1, hs.2, rfl⟩
      rcases s with s | s
      · exact .inr (.tup s (toPDs_rep e2 q))
      · exact .inl (.lst s (toPDs_rep e2 q))
    · cases h
  · cases h
theorem v_in : OpV K (rInB K) inD := by
  intro a b x y M H st Q E ra rb so p
  unfold inD at p
  split at p
  · rename_i k h
    obtain ⟨d, ds, h1, h2, h3, h4, rfl⟩ := inO_rep h ra rb so
    exact ⟨d, ds, h1, h2, h3, h4, p M H _ .refl so (rep_bl _ _ _)⟩
  · exact p.elim
end
section
variable {X : Cx}
theorem room65 {k : Nat} {A : Around} (r : RoomG k A) : A.units + 65 < cLine := by have := r.un; omega
theorem o_in (hu : X.A.units + 65 < cLine) : OpR X (compareOp .In) (rInB X.K) := by
  intro pins s σ H x y v u Q I rx ry h
  obtain ⟨d, ds, hd, he, sd, se, q⟩ := h
  obtain ⟨as, r1⟩ := Dp.reads I d x v hd rx
  rcases he with he | he
  · obtain ⟨bs, r2⟩ := Dp.reads I (.list ds) y u he ry
    exact SeqAt.in_list_reads r2 r1 (SeqAt.canLay_of_shaped se) (SeqAt.canLay_of_shaped sd) (room_in_shaped sd hu) ⟨.bl _, H, I, rfl, q⟩
  · obtain ⟨bs, r2⟩ := Dp.reads I (.tuple ds) y u he ry
    exact SeqAt.in_tuple_reads r2 r1 (SeqAt.canLay_of_shaped se) (SeqAt.canLay_of_shaped sd) (room_in_shaped sd hu) ⟨.bl _, H, I, rfl, q⟩
end
section
variable (st : Sto)
@[simp] theorem intF_bl (b : Bool) : intF [.bl b] st = .ok (.int (if b = true then 1 else 0)) st := rfl
@[simp] theorem toPDs_ints : ∀ ns : List Int, toPDs (ns.map D.int) = some (ns.map PyData.int)
  | [] => by simp [toPDs]
  | n :: ns => by simp [toPDs, toPD, toPDs_ints ns]
theorem canLayAll_ints : ∀ ns : List Int, PyData.canLayAll0 (ns.map PyData.int) = true
  | [] => by simp [PyData.canLayAll0]
  | n :: ns => by simp [PyData.canLayAll0, PyData.canLay0, canLayAll_ints ns]
theorem depthAll_ints : ∀ ns : List Int, PyData.depthAll (ns.map PyData.int) = 0
  | [] => by simp [PyData.depthAll]
  | n :: ns => by simp [PyData.depthAll, PyData.depth, depthAll_ints ns]
theorem shaped_ints (ns : List Int) : SeqAt.shaped (.list (ns.map PyData.int)) = true := by
  simp [SeqAt.shaped, PyData.canLay0, canLayAll_ints, PyData.depth, depthAll_ints]
theorem inO_ints (i : Int) (b : D) (ns : List Int) (h : seqOf b st = some (ns.map D.int)) : inO (.int i) b st = some (decide (i ∈ ns)) := by
  unfold inO
  rw [h, Option.bind_some, toPDs_ints]
  show (if SeqAt.shaped (.int i) = true ∧ SeqAt.shaped (.list (ns.map PyData.int)) = true then _ else _) = _
  rw [if_pos ⟨by simp [SeqAt.shaped, PyData.canLay0, PyData.depth], shaped_ints ns⟩, List.any_map]
  congr 1
  rw [Bool.eq_iff_iff]
  simp only [List.any_eq_true, Function.comp, decide_eq_true_iff]
  constructor
  · rintro ⟨x, hx, e⟩
    have : x = i := by simpa [PyData.eqv] using e
    exact this ▸ hx
  · exact fun h => ⟨i, h, by simp [PyData.eqv]⟩
theorem inD_ints (i : Int) (b : D) (ns : List Int) (h : seqOf b st = some (ns.map D.int)) : inD (.int i) b st = .ok (.bl (decide (i ∈ ns))) st := by
  unfold inD; rw [inO_ints st i b ns h]
@[simp] theorem inD_tupI (i : Int) (ns : List Int) : inD (.int i) (tupI ns) st = .ok (.bl (decide (i ∈ ns))) st := inD_ints st i _ ns rfl
@[simp] theorem inD_lstI (i : Int) (ns : List Int) : inD (.int i) (lstI ns) st = .ok (.bl (decide (i ∈ ns))) st := inD_ints st i _ ns rfl
@[simp] theorem inD_tup2 (i a b : Int) : inD (.int i) (.tup [.int a, .int b]) st = .ok (.bl (decide (i = a ∨ i = b))) st := by
  rw [inD_ints st i _ [a, b] rfl]; simp
end
end G
namespace G
open PySem PySem.Spec PyProof.Rows L2 HT
set_option maxHeartbeats 1000000 in
theorem meets_enumerate_newT {v : Value} {o : Obj} {H : Heap → Prop} (B : Begins v o H) :
    Meets (Builtin.«enumerate.__new__» ⟨[.type "enumerate", v], []⟩) (fun _ R s => H s.heap ∧
      R (.ok (.ret (.ref (s.heap.push o).objs.size))) { s with heap := (s.heap.push o).push { cls := .type "enumerate", data := .fields #[.none, .bool false, .ref s.heap.objs.size, rawInt 0, .none, .none] } }) :=
  .of_wp fun prog w A R s h => by
    obtain ⟨hp, g, d, tk, os⟩ := s; obtain ⟨h1, h⟩ := h
    have hsub := sub_enumerate
    have q1 : ∀ {A' : Around} {E : Value → Shared → Prop} {Q : Value → Shared → Prop}, Q (.ref hp.objs.size) ⟨hp.push o, g, d, tk, os⟩ → wpAny (model prog w) A' (pyIter v) Q E ⟨hp, g, d, tk, os⟩ :=
      fun q => B.iter prog w _ _ ⟨hp, g, d, tk, os⟩ _ h1 q
    wp_walk using q1
    refine wpAny_stack_any fun st => wpAny_pure ?_
    split
    · rename_i c _ _ _ _ _
      cases (c == Value.type "enumerate")
      · wp_walk using q1
        exact ⟨_, rfl, h⟩
      · wp_walk using q1
        exact ⟨_, rfl, h⟩
    · wp_walk using q1
      exact ⟨_, rfl, h⟩
section
variable {prog : Program} {w : World} {A : Around} {E : Value → Shared → Prop} {s : Shared}
theorem call_enumerate_begins {v : Value} {o : Obj} {H : Heap → Prop} {Q : Value → Shared → Prop} (B : Begins v o H) (h1 : H s.heap)
    (h : ∀ h', IsEnum h' (s.heap.objs.size + 1) s.heap.objs.size 0 .none → h'.get? s.heap.objs.size = some o → h'.objs.size = s.heap.objs.size + 2 →
      (∀ b o, s.heap.get? b = some o → h'.get? b = some o) → Q (.ref (s.heap.objs.size + 1)) { s with heap := h' }) :
    wpAny (model prog w) A (call (.type "enumerate") [v]) Q E s := by
  refine callType_new F.called_enumerate (by decide) (F.typeCall_enumerate_1 _) (F.newCall_enumerate_1 _) (fun obj => F.args_object_init_2 obj _) F.entry_enumerate_new
    (meets_enumerate_newT B) ⟨h1, ?_⟩
  have hz : (s.heap.push o).objs.size = s.heap.objs.size + 1 := Heap.size_push ..
  show _ ∧ _
  rw [hz]
  have he : IsEnum ((s.heap.push o).push { cls := .type "enumerate", data := .fields #[.none, .bool false, .ref s.heap.objs.size, rawInt 0, .none, .none] }) (s.heap.objs.size + 1) s.heap.objs.size 0 .none := by
    have := Heap.get?_push_size (s.heap.push o) (o := { cls := .type "enumerate", data := .fields #[.none, .bool false, .ref s.heap.objs.size, rawInt 0, .none, .none] }) rfl
    rw [hz] at this; exact this
  refine ⟨⟨_, he, rfl⟩, h _ he (Heap.get?_push_of_some _ (Heap.get?_push_size _ B.free)) (by rw [Heap.size_push, hz]) fun b o x => Heap.get?_push_of_some _ (Heap.get?_push_of_some _ x)⟩
end
theorem pyNext_enum_endT {prog : Program} {w : World} {A : Around} {E : Value → Shared → Prop} {s : Shared} {e it l : Addr} {i : Nat} {c : Int} {items : Array Value} {old : Value} {Q : Option Value → Shared → Prop} (hh : A.handled = none)
    (he : IsEnum s.heap e it c old) (hit : s.heap.IsTupleIter it l i) (hl : s.heap.IsTuple l items) (hx : items[i]? = none)
    (hQ : ∀ h', Heap.ExtBut it s.heap h' → Q none { s with heap := h' }) : wpAny (model prog w) A (pyNext (.ref e)) Q E s := by
  have hT : s.TypeIs (.ref e) "enumerate" := ⟨_, he, rfl⟩
  unfold pyNext
  refine wpAny_bind (wpAny_attempt (wpAny_callSpecial?_slot (name := Str.ofString "__next__") hT F.slot_enumerate_next
    (wpAny_call_entry F.slot_enumerate_next hT F.entry_enumerate_next ?_ (F.args_enumerate_next_1 _))))
  show wpAny _ _ (field (.ref e) 2 >>= _) _ _ _
  refine wpAny_bind (wpAny_field he rfl (x := .ref it) rfl ?_)
  refine wpAny_bind (wpAny_nextOf_tuple_end hh hit hl hx fun h' x he' hx' => ?_)
  obtain ⟨o, ho, hc⟩ := hx'
  refine wpAny_bind (wpAny_isInstance (T := "StopIteration") (b := true) ⟨o, ho, hc⟩ isSubtype_stop ?_)
  exact wpAny_pure (hQ _ he')
def IteT (K : PySem.W.Frag) (a : Addr) : It :=
  ⟨fun i H => ∃ (xs : List V) (x : V), SqT K H a xs ∧ xs[i]? = some x, fun i H v H' => ∃ T x, v = .ref T ∧ H T = none ∧ H' = upd H T (.tup [.int (i : Nat), x]) ∧ ∀ xs, SqT K H a xs → xs[i]? = some x, fun i H => ∃ xs : List V, SqT K H a xs ∧ xs.length ≤ i⟩
theorem turn_enumT {P : Program} {w : World} {K : PySem.W.Frag} {elts : List Expr} {kk : Nat} {tpos : Pos} (a e it : Addr) :
    Turn P w K (.Tuple elts kk tpos) (IteT K a) [e, it] e (fun i h => (∃ old, IsEnum h e it ((i : Nat) : Int) old) ∧ h.IsTupleIter it a i ∧ e ≠ it ∧ a ≠ it ∧ e ≠ a) where
  mem := by simp
  obj := fun i h st b hb => by
    obtain ⟨⟨old, he⟩, ⟨o, ho, hc, hd⟩, _⟩ := st
    have e' : b = e ∨ b = it := by simpa using hb
    rcases e' with z | z
    · rw [z]; exact ⟨_, he, fun v q => nomatch q⟩
    · rw [z]; exact ⟨o, ho, fun v q => by rw [hd] at q; cases q⟩
  keep := fun i h h' st k => let ⟨⟨old, he⟩, hi, hne⟩ := st; ⟨⟨old, k e (by simp) _ he⟩, hi.at fun o q => k it (by simp) o q, hne⟩
  item := by
    intro X hP hw hK hc i pins s σ H E I hf st hg
    subst hP hw hK
    obtain ⟨⟨old, he⟩, hit, hne, hna, hea⟩ := st
    obtain ⟨xs, x, hq, hx⟩ := hg
    obtain ⟨its, rv, p, hz⟩ := I.tuple hq
    obtain ⟨u, hu, ru⟩ := rv.get hx
    have hel : e < s.heap.objs.size := Heap.lt_size he
    have hil : it < s.heap.objs.size := by obtain ⟨_, q, _⟩ := hit; exact Heap.lt_size q
    have hlt : i < its.toArray.size := by
      have := (List.getElem?_eq_some_iff.mp hu).1
      simpa using this
    have D := Draws.tuple (prog := X.prog) (w := X.w) (A := X.A.in1) (I.ok.hd hc) it a hna its.toArray
    refine wpAny_pyNext_enum_itemD D he ⟨hit, p⟩ hlt hne (by simp; exact ⟨hne, hea⟩) fun x' h' tk hP ho hst' hT hsz hk => ?_
    have ex : x' = u := by
      have hP' : its[i]? = some x' := by simpa using hP
      rw [hu] at hP'; exact (Option.some.inj hP').symm
    subst ex
    refine ⟨_, rfl, wpAny_letOwnedTupleGo_enum (s := { s with heap := h', toks := tk + 1 }) ho fun h'' he' sb => ?_⟩
    have hT2 : h''.get? s.heap.objs.size = some { cls := .type "tuple", data := .seq #[.int i tk, x'] } := (sb.2 _ (Nat.ne_of_gt hel)).trans hT
    have new : ObjOk X.prog X.w (upd H s.heap.objs.size (.tup [.int (i : Nat), x])) h'' s.heap.objs.size (.tup [.int (i : Nat), x]) :=
      ⟨by show 2 ≤ sizeLine; decide, [.int i tk, x'], .cons ⟨_, rfl⟩ (.cons ru .nil), ⟨_, hT2, rfl, _, rfl⟩⟩
    have I1 : Inv X pins σ (upd H s.heap.objs.size (.tup [.int (i : Nat), x])) { s with heap := h'', toks := tk + 1 } :=
      I.turnedNew (ch := [e, it]) (fun b ob hb q => (sb.2 b (fun z => hb (by simp [z]))).trans (hk b ob (fun z => hb (by simp [z])) (fun z => hb (by simp [z])) q)) hf (Nat.le_refl _) new
    refine ⟨.ref s.heap.objs.size, _, I1, rfl, ⟨_, x, rfl, I.hok.fresh (Nat.le_refl _), rfl, fun ys hy => by rw [I.tuple_inj hy hq]; exact hx⟩, ⟨⟨x', ?_⟩, hst'.1.at fun o q => (sb.2 it (Ne.symm hne)).trans q, hne, hna, hea⟩, fun b hb => ?_⟩
    · have e1 : ((i + 1 : Nat) : Int) = (i : Int) + 1 := by omega
      rw [e1]; exact he'
    · have hb' : b < s.heap.objs.size := by
        have e' : b = e ∨ b = it := by simpa using hb
        rcases e' with z | z
        · rw [z]; exact hel
        · rw [z]; exact hil
      rw [upd_ne (Nat.ne_of_lt hb')]
      exact (hf b hb).1
  done := by
    intro X hP hw hK hc i pins s σ H E I hf st hg
    subst hP hw hK
    obtain ⟨⟨old, he⟩, hit, hne, hna, hea⟩ := st
    obtain ⟨xs, hq, hx⟩ := hg
    obtain ⟨its, rv, p, hz⟩ := I.tuple hq
    obtain ⟨f0, f1, f2, f3, f4, f5⟩ := hf it (by simp)
    have hl := rv.length
    exact pyNext_enum_endT (I.ok.hd hc) he hit p (by simp; omega) fun h' eb => ⟨rfl, I.turned (t' := s.toks) (fun b o hb q => eb b o hb q) f0 f1 f3 f4 f5⟩
  self := fun A i s Q E st h => let ⟨⟨_, he⟩, _⟩ := st; wpAny_pyIter_enum he h
def iEnumB (K : PySem.W.Frag) (ta : TA) : TI := fun σ H R => ta σ H fun vs H1 => ∃ a xs, vs = [.ref a] ∧ ((SqL K H1 a xs ∧ R (Ite K a) H1) ∨ (SqT K H1 a xs ∧ R (IteT K a) H1))
theorem pi_enumB {X : Cx} {e : Expr} {ta : TA} {p pos tpos : Pos} {elts : List Expr} {kk : Nat} (hg : Gl X "enumerate") (hm : X.mg "enumerate" = none) (ha : PA X [e] ta) (hs : starEach [e] X.env = [(false, eval e X.env)] := by rfl) :
    PI X (.Tuple elts kk tpos) (.Call (.Name "enumerate" p) [e] [] pos) (iEnumB X.K ta) := by
  refine ⟨fun pins s σ H R I h => ?_⟩
  refine Call_ (ld_blt I hg hm boot_enumerate (PyProof.Rows.callWith_type1 (thn (ha.run pos pins s σ H _ I h) fun us s1 ⟨vs, H1, I1, r1, q1⟩ => ?_) hs rfl))
  obtain ⟨a, xs, ex, q⟩ := q1
  subst ex
  cases r1 with
  | cons r rr =>
    cases rr
    cases r
    have fp : ∀ b ∈ [s1.heap.objs.size + 1, s1.heap.objs.size], s1.heap.objs.size ≤ b := fun b hb => by
      have e' : b = s1.heap.objs.size + 1 ∨ b = s1.heap.objs.size := by simpa using hb
      rcases e' with z | z
      · rw [z]; exact Nat.le_add_right _ _
      · rw [z]; exact Nat.le_refl _
    rcases q with ⟨hq, q⟩ | ⟨hq, q⟩
    · obtain ⟨its, rv, p', hz⟩ := I1.list hq
      refine call_enumerate_list p'.isList fun h' he hit hsz hk => wpAny_pyIter_enum he ?_
      have I2 : Inv X pins σ H1 { s1 with heap := h' } := I1.kept (t' := s1.toks) hk
      exact ⟨s1.heap.objs.size + 1, [s1.heap.objs.size + 1, s1.heap.objs.size], _, _, H1, rfl, I2, turn_enum a (s1.heap.objs.size + 1) s1.heap.objs.size, ⟨⟨.none, he⟩, hit, Nat.succ_ne_self _⟩, fun b hb => I1.fpOk (fp b hb) (I1.hok.fresh (fp b hb)), q⟩
    · obtain ⟨its, rv, p', hz⟩ := I1.tuple hq
      have hlt : a < s1.heap.objs.size := by obtain ⟨_, e, _⟩ := p'; exact Heap.lt_size e
      refine call_enumerate_begins (begins_tuple a its.toArray) p' fun h' he hit hsz hk => wpAny_pyIter_enum he ?_
      have I2 : Inv X pins σ H1 { s1 with heap := h' } := I1.kept (t' := s1.toks) hk
      exact ⟨s1.heap.objs.size + 1, [s1.heap.objs.size + 1, s1.heap.objs.size], _, _, H1, rfl, I2, turn_enumT a (s1.heap.objs.size + 1) s1.heap.objs.size, ⟨⟨.none, he⟩, ⟨_, hit, rfl, rfl⟩, Nat.succ_ne_self _, Nat.ne_of_lt hlt, Nat.ne_of_gt (Nat.lt_succ_of_lt hlt)⟩, fun b hb => I1.fpOk (fp b hb) (I1.hok.fresh (fp b hb)), q⟩
section
variable {K : PySem.W.Frag} {M : Mem} {H : Hp}
theorem itet_rep {a : Addr} {xs : List D} {vs : List V} (f : ∀ M' H', Keep M H M' H' → SqT K H' a vs) (q : RepL K M H xs vs) : ItRep K M H (.frz (enumL xs)) (IteT K a) := fun i M' H' st' g so => by
  have f' := f _ _ g
  have q' := q.kp g
  refine ⟨fun e => ⟨vs, f', by rw [← q.length]; simp at e; omega⟩, fun d hd => ?_⟩
  obtain ⟨x, hx, rfl⟩ := enumL_get hd
  obtain ⟨v, hv, r⟩ := q'.get hx
  refine ⟨⟨vs, v, f', hv⟩, fun z H'' ⟨T, y, e1, e2, e3, e4⟩ => ?_⟩
  have := e4 vs f'
  rw [hv] at this; cases this
  subst e1 e3
  exact pair_new so (rep_int _ _ _) r e2
variable {X : Cx} {W : WX} {fs : EvA} {tg it : Expr}
theorem g_enum (h : PI X tg it (iEnumB X.K (rdA X.K W fs))) : PI X tg it (rdI X.K W (callI enumF fs)) := h.imp fun σ H R' ⟨env, M, st, eo, so, p⟩ => ⟨env, M, st, eo, so, Post.imp (Post.bind p) fun vs H1 ⟨M1, st1, as, g, so1, ra, p1⟩ => by
  unfold enumF at p1
  split at p1
  · rename_i n
    split at p1
    · rename_i ys e
      obtain ⟨x, rfl, rx⟩ := ra.one
      unfold Rep at rx
      obtain ⟨a, rfl, m⟩ := rx
      obtain ⟨ws, hv, q⟩ := so1.at_ n a _ m e
      exact ⟨a, ws, rfl, .inl ⟨.of hv, p1 M1 H1 _ .refl so1 (item_rep m)⟩⟩
    · exact p1.elim
  · rename_i b hn
    split at p1
    · rename_i ys e
      obtain ⟨x, rfl, rx⟩ := ra.one
      cases b with
      | tup zs =>
        cases e
        unfold Rep at rx
        obtain ⟨a, ws, rfl, f, q⟩ := rx
        exact ⟨a, ws, rfl, .inr ⟨f.sq, p1 M1 H1 _ .refl so1 (itet_rep (fun _ _ g => (g.fzT f).sq) q)⟩⟩
      | lst zs =>
        cases e
        unfold Rep at rx
        obtain ⟨a, ws, rfl, f, q⟩ := rx
        exact ⟨a, ws, rfl, .inl ⟨f.sq, p1 M1 H1 _ .refl so1 (ite_rep (fun _ _ g => .of (g.keep _ _ f.1 f.2).1) q)⟩⟩
      | slo zs =>
        cases e
        unfold Rep at rx
        obtain ⟨a, ws, rfl, f, q⟩ := rx
        exact ⟨a, ws, rfl, .inl ⟨f.sq, p1 M1 H1 _ .refl so1 (ite_rep (fun _ _ g => (g.fzL f).sq) q)⟩⟩
      | _ => cases e
    · exact p1.elim
  · exact p1.elim⟩
end
end G
namespace G
open PySem PySem.Spec PyProof.Rows L2
section
variable {X : Cx} {W : WX} {s : Expr}
@[simp] theorem enumF_tup (xs : List D) (st : Sto) : enumF [.tup xs] st = .ok (.frz (enumL xs)) st := rfl
@[simp] theorem enumF_lst (xs : List D) (st : Sto) : enumF [.lst xs] st = .ok (.frz (enumL xs)) st := rfl
end
end G
namespace G
open PySem PySem.Spec PyProof.Rows L2
abbrev P2 := Int × Int
def ltP2 (a b : P2) : Prop := a.1 < b.1 ∨ (a.1 = b.1 ∧ a.2 < b.2)
instance (a b : P2) : Decidable (ltP2 a b) := by unfold ltP2; infer_instance
theorem ltP2_irr (a : P2) : ¬ ltP2 a a := by unfold ltP2; omega
theorem ltP2_tr {a b c : P2} (h : ltP2 a b) (g : ltP2 b c) : ltP2 a c := by unfold ltP2 at *; omega
theorem ltP2_tri (a b : P2) : ltP2 a b ∨ a = b ∨ ltP2 b a := by
  unfold ltP2
  rcases Int.lt_trichotomy a.1 b.1 with h | h | h
  · exact .inl (.inl h)
  · rcases Int.lt_trichotomy a.2 b.2 with g | g | g
    · exact .inl (.inr ⟨h, g⟩)
    · exact .inr (.inl (Prod.ext h g))
    · exact .inr (.inr (.inr ⟨h.symm, g⟩))
  · exact .inr (.inr (.inl h))
def pairD (p : P2) : D := .tup [.int p.1, .int p.2]
theorem code_two (B x y : Int) : TS.code B [x, y] = x * B + y := by
  show x * B ^ 1 + (y * B ^ 0 + 0) = x * B + y
  rw [Int.pow_zero, Int.mul_one, Int.add_zero]
  congr 2
  rw [Int.pow_succ, Int.pow_zero, Int.one_mul]
theorem code_lt {B : Int} {p q : P2} (hp : 0 ≤ p.1 ∧ 0 ≤ p.2 ∧ p.1 < B ∧ p.2 < B) (hq : 0 ≤ q.1 ∧ 0 ≤ q.2 ∧ q.1 < B ∧ q.2 < B) (h : TS.code B [p.1, p.2] ≤ TS.code B [q.1, q.2]) (ne : p ≠ q) : ltP2 p q := by
  rw [code_two, code_two] at h
  rcases ltP2_tri p q with g | g | g
  · exact g
  · exact absurd g ne
  · exfalso
    rcases g with g | ⟨g1, g2⟩
    · have := Int.mul_le_mul_of_nonneg_right (show q.1 + 1 ≤ p.1 by omega) (show 0 ≤ B by omega)
      rw [Int.add_mul] at this
      omega
    · rw [g1] at h; omega
@[simp] theorem tgT_tp2 (i j : Nat) (a b : D) (env : Env) (st : Sto) : tgT (.tp [.nm i, .nm j]) (.tup [a, b]) env st = .ok ((env.set i (some a)).set j (some b)) st := by simp [tgT, Tg.set, Tg.sets]
@[simp] theorem tgT_tp3 (i j k : Nat) (a b c : D) (env : Env) (st : Sto) : tgT (.tp [.nm i, .nm j, .nm k]) (.tup [a, b, c]) env st = .ok (((env.set i (some a)).set j (some b)).set k (some c)) st := by simp [tgT, Tg.set, Tg.sets]
@[simp] theorem turnS_cont (k : Env → Sto → S) (env : Env) (st : Sto) : turnS (.cont env st) k = k env st := rfl
@[simp] theorem turnS_brk (k : Env → Sto → S) (env : Env) (st : Sto) : turnS (.brk env st) k = .nx env st := rfl
end G
namespace G
open PySem PySem.Spec PyProof.Rows L2
@[simp] theorem isiD_emp (c : Tag) (st : Sto) : isiD c .emp st = .ok (.bl (isiB .dic c)) st := rfl
@[simp] theorem isND_emp (st : Sto) : isND .emp .non st = .ok (.bl false) st := rfl
@[simp] theorem isiD_dic (c : Tag) (st : Sto) : isiD c .dic st = .ok (.bl (isiB .dic c)) st := rfl
@[simp] theorem isND_dic (st : Sto) : isND .dic .non st = .ok (.bl false) st := rfl
end G
namespace G
open PySem PySem.Spec PyProof.Rows L2 HT
section
variable {K : PySem.W.Frag} {M : Mem} {H : Hp}
theorem RepL.three {a b c : D} {xs : List V} (h : RepL K M H [a, b, c] xs) : ∃ x y z, xs = [x, y, z] ∧ Rep K M H a x ∧ Rep K M H b y ∧ Rep K M H c z := by
  unfold RepL at h
  obtain ⟨v, r, rfl, h1, h2⟩ := h
  obtain ⟨y, z, rfl, h3, h4⟩ := h2.two
  exact ⟨v, y, z, rfl, h1, h3, h4⟩
variable {X : Cx} {W : WX} {fs : EvA} {tg it : Expr}
end
end G
namespace G
open PySem PySem.Spec PyProof.Rows L2
def repMD : F2 := fun a b st => match a, b with
  | .lst xs, .int k => if k.natAbs < 2 ^ 62 ∧ xs.length * k.toNat ≤ 16777216 then .ok (.mut st.length) (st ++ [.lst (List.replicate k.toNat xs).flatten]) else .fail
  | _, _ => .fail
theorem v_repM {K : PySem.W.Frag} : OpV K (rOr (rI (fun i j => CMul i j) fun i j => .int (i * j)) (rOr (rI CMulW fun i j => .int (i * j)) (rOr rRep (rOr (rRepT K) (rRepT1 K))))) repMD := by
  intro a b x y M H st Q E ra rb so p
  unfold repMD at p
  split at p
  · split at p
    · rename_i h
      unfold Rep at ra rb
      obtain ⟨t, vs, rfl, f, q⟩ := ra
      subst rb
      refine .inr (.inr (.inl ⟨t, _, vs, rfl, rfl, f.1, by omega, by omega, by rw [← q.length]; exact size_le h.2, fun a ha => ?_⟩))
      exact p (M.push a) _ _ (.push so ha) (so.pushL ha (q.flat _)) (rep_mut so)
    · exact p.elim
  · exact p.elim
@[simp] theorem repMD_int (x : D) (k : Int) (st : Sto) : repMD (.lst [x]) (.int k) st = if k.natAbs < 2 ^ 62 ∧ k.toNat ≤ 16777216 then .ok (.mut st.length) (st ++ [.lst (List.replicate k.toNat x)]) else .fail := by
  have e : (List.replicate k.toNat [x]).flatten = List.replicate k.toNat x := by
    induction k.toNat with
    | zero => rfl
    | succ n ih => rw [List.replicate_succ, List.replicate_succ, List.flatten_cons, ih]; rfl
  unfold repMD
  simp [e]
end G
namespace G
open PySem PySem.Spec PyProof.Rows L2
section
variable {K : PySem.W.Frag} {M M' : Mem} {H H' : Hp} {st : Sto}
mutual
theorem Rep.ff {f : Addr → Option (Obj × HO)} : ∀ {d : D} {v : V}, Rep K M H d v → Rep K ⟨M.m, M.p, f⟩ H d v
  | .non, _, h => by unfold Rep at h ⊢; exact h
  | .bl _, _, h => by unfold Rep at h ⊢; exact h
  | .int _, _, h => by unfold Rep at h ⊢; exact h
  | .str _, _, h => by unfold Rep at h ⊢; exact h
  | .raw _, _, h => by unfold Rep at h ⊢; exact h
  | .dic, _, h => by unfold Rep at h ⊢; exact h
  | .fn _, _, h => by unfold Rep at h ⊢; exact h
  | .emp, _, h => by unfold Rep at h ⊢; exact h
  | .rg .., _, h => by unfold Rep at h ⊢; exact h
  | .exv .., _, h => by
    unfold Rep at h ⊢
    obtain ⟨h1, h2, h3⟩ := h
    refine ⟨h1, h2, h3.imp id ?_⟩
    rintro ⟨h4, dd, w, h5, h6, h7, h8⟩
    exact ⟨h4, dd, w, h5, h6, h7, Rep.ff h8⟩
  | .tup xs, _, h => by
    unfold Rep at h ⊢
    obtain ⟨a, vs, e, f, r⟩ := h
    exact ⟨a, vs, e, f, RepL.ff r⟩
  | .lst xs, _, h => by
    unfold Rep at h ⊢
    obtain ⟨a, vs, e, f, r⟩ := h
    exact ⟨a, vs, e, f, RepL.ff r⟩
  | .slo xs, _, h => by
    unfold Rep at h ⊢
    obtain ⟨a, vs, e, f, r⟩ := h
    exact ⟨a, vs, e, f, RepL.ff r⟩
  | .mut n, _, h => by unfold Rep at h ⊢; exact h
theorem RepL.ff {f : Addr → Option (Obj × HO)} : ∀ {ds : List D} {vs : List V}, RepL K M H ds vs → RepL K ⟨M.m, M.p, f⟩ H ds vs
  | [], _, h => by unfold RepL at h ⊢; exact h
  | d :: ds, _, h => by
    unfold RepL at h ⊢
    obtain ⟨v, r, e, h1, h2⟩ := h
    exact ⟨v, r, e, Rep.ff h1, RepL.ff h2⟩
end
theorem EnvOk.ff {f : Addr → Option (Obj × HO)} {env : Env} {σ : L2.St} (e : EnvOk K M H env σ) : EnvOk K ⟨M.m, M.p, f⟩ H env σ :=
  ⟨e.len, fun i d h => let ⟨v, h1, h2⟩ := e.at_ i d h; ⟨v, h1, h2.ff⟩⟩
def MO.walked : MO → Bool
  | .fk _ => true
  | .fd _ => true
  | .fe _ => true
  | _ => false
theorem StOk.ff {f : Addr → Option (Obj × HO)} (s : StOk K M H st) (h : ∀ (n : Nat) (a : Addr) (mo : MO), M.m[n]? = some a → st[n]? = some mo → mo.walked = true → f a = M.f a) : StOk K ⟨M.m, M.p, f⟩ H st := by
  refine ⟨s.len, s.nd, s.pd, fun n a mo e1 e2 => ?_⟩
  have q := s.at_ n a mo e1 e2
  cases mo with
  | lst xs => obtain ⟨vs, h1, r⟩ := q; exact ⟨vs, h1, r.ff⟩
  | dk kvs => exact q
  | dt kvs => exact q
  | fk kvs =>
    obtain ⟨o, h1, h2⟩ := q
    exact ⟨o, by rw [← h1]; exact h n a _ e1 e2 rfl, h2⟩
  | dd kvs => obtain ⟨ws, h1, r⟩ := q; exact ⟨ws, h1, r.1, r.2.ff⟩
  | de kvs => obtain ⟨ws, h1, r⟩ := q; exact ⟨ws, h1, r.1, r.2.ff⟩
  | fd kvs =>
    obtain ⟨o, ws, h1, h2, r⟩ := q
    exact ⟨o, ws, by rw [← h1]; exact h n a _ e1 e2 rfl, h2, r.1, r.2.ff⟩
  | fe kvs =>
    obtain ⟨o, ws, h1, h2, r⟩ := q
    exact ⟨o, ws, by rw [← h1]; exact h n a _ e1 e2 rfl, h2, r.1, r.2.ff⟩
theorem StOk.mem (s : StOk K M H st) {n : Nat} {mo : MO} (h : st[n]? = some mo) : ∃ a, M.m[n]? = some a := by
  have := (List.getElem?_eq_some_iff.mp h).1
  rw [← s.len] at this
  exact ⟨M.m[n], List.getElem?_eq_getElem this⟩
end
def scal : D → Option V
  | .non => some .non
  | .bl b => some (.bl b)
  | .int i => some (.int i)
  | _ => none
def keyOf : D → Option L2.Key
  | .int i => some (.inl i)
  | _ => none
end G
namespace G
open PySem PySem.Spec PyProof.Rows L2
theorem paired_len {α β : Type} {F : α → β → Prop} : ∀ {l : List α} {m : List β}, Paired F l m → l.length = m.length
  | _, _, .nil => rfl
  | _, _, .cons _ t => congrArg (· + 1) (paired_len t)
end G
namespace G
open PySem PySem.Spec PyProof.Rows L2
structure ShP (p : PyData) (w d : Nat) : Prop where
  nd : p.hasDict = false
  sh : p.showable = true
  ls : p.leavesShort 500 = true
  wt : p.weight ≤ w
  dp : p.depth ≤ d
structure ShL (ps : List PyData) (w d : Nat) : Prop where
  nd : PyData.hasDictAll ps = false
  sh : PyData.showableAll ps = true
  ls : PyData.leavesShortAll 500 ps = true
  wt : PyData.weightAll ps ≤ w
  dp : PyData.depthAll ps ≤ d
theorem ShL.tup {ps : List PyData} {w d : Nat} (h : ShL ps w d) : ShP (.tuple ps) w (d + 1) :=
  ⟨by simpa [PyData.hasDict] using h.nd, by simpa [PyData.showable] using h.sh, by simpa [PyData.leavesShort] using h.ls, by simpa [PyData.weight] using h.wt, by simpa [PyData.depth] using h.dp⟩
theorem ShL.lst {ps : List PyData} {w d : Nat} (h : ShL ps w d) : ShP (.list ps) w (d + 1) :=
  ⟨by simpa [PyData.hasDict] using h.nd, by simpa [PyData.showable] using h.sh, by simpa [PyData.leavesShort] using h.ls, by simpa [PyData.weight] using h.wt, by simpa [PyData.depth] using h.dp⟩
@[simp] theorem eqD_str (x : Str) (st : Sto) : eqD (.str x) (.str x) st = .ok (.bl true) st := by
  unfold eqD eqO scalD
  simp
end G
namespace G
open PySem PySem.Spec PyProof.Rows L2
abbrev nsD (ns : List Int) : D := .tup (ns.map D.int)
def tupsOf : List D → Option (List (List Int))
  | [] => some []
  | .tup xs :: r => (intsOf xs).bind fun ns => (tupsOf r).map (ns :: ·)
  | _ => none
theorem intsOf_eq : ∀ {xs : List D} {ns : List Int}, intsOf xs = some ns → xs = ns.map D.int
  | [], ns, h => by unfold intsOf at h; cases h; rfl
  | x :: xs, ns, h => by
    unfold intsOf at h
    split at h
    · rename_i e; cases e
    · rename_i i r e
      cases e
      cases hr : intsOf xs with
      | none => rw [hr] at h; cases h
      | some qs => rw [hr] at h; cases h; rw [intsOf_eq hr]; rfl
    · cases h
theorem tupsOf_eq : ∀ {xs : List D} {nss : List (List Int)}, tupsOf xs = some nss → xs = nss.map nsD
  | [], nss, h => by unfold tupsOf at h; cases h; rfl
  | x :: xs, nss, h => by
    unfold tupsOf at h
    split at h
    · rename_i e; cases e
    · rename_i i r e
      cases e
      obtain ⟨ns, h1, h2⟩ := Option.bind_eq_some_iff.mp h
      obtain ⟨q, h3, h4⟩ := Option.map_eq_some_iff.mp h2
      subst h4
      rw [intsOf_eq h1, tupsOf_eq h3]; rfl
    · cases h
@[simp] theorem tupsOf_map : ∀ nss : List (List Int), tupsOf (nss.map nsD) = some nss
  | [] => rfl
  | ns :: nss => by
    show (intsOf (ns.map D.int)).bind _ = _
    rw [intsOf_map, Option.bind_some, tupsOf_map nss]; rfl
def cd (ns : List Int) : Int := TS.code (big : Int) ns
def insN (x : List Int) : List (List Int) → List (List Int)
  | [] => [x]
  | y :: r => if cd y < cd x then y :: insN x r else x :: y :: r
def srtN (l : List (List Int)) : List (List Int) := l.foldr insN []
theorem perm_insN {p : List Int} : ∀ {l : List (List Int)}, (insN p l).Perm (p :: l)
  | [] => .refl _
  | q :: r => by
    unfold insN
    split
    · exact ((perm_insN (l := r)).cons q).trans (.swap p q r)
    · exact .refl _
theorem sorted_insN {p : List Int} : ∀ {l : List (List Int)}, l.Pairwise (fun a b => cd a ≤ cd b) → (insN p l).Pairwise (fun a b => cd a ≤ cd b)
  | [], _ => by simp [insN]
  | q :: r, h => by
    obtain ⟨h1, h2⟩ := List.pairwise_cons.mp h
    unfold insN
    split
    · rename_i lt
      refine List.pairwise_cons.mpr ⟨fun x hx => ?_, sorted_insN h2⟩
      rcases List.mem_cons.mp (perm_insN.mem_iff.mp hx) with rfl | hx
      · omega
      · exact h1 x hx
    · rename_i nlt
      refine List.pairwise_cons.mpr ⟨fun x hx => ?_, h⟩
      rcases List.mem_cons.mp hx with rfl | hx
      · omega
      · have := h1 x hx; omega
theorem perm_srtN : ∀ {l : List (List Int)}, (srtN l).Perm l
  | [] => .refl _
  | p :: l => (perm_insN (l := srtN l)).trans ((perm_srtN (l := l)).cons p)
theorem sorted_srtN : ∀ {l : List (List Int)}, (srtN l).Pairwise (fun a b => cd a ≤ cd b)
  | [] => .nil
  | p :: l => sorted_insN (sorted_srtN (l := l))
theorem cd_inj : ∀ {a b : List Int}, a.length = b.length → TS.Bd (big : Int) a → TS.Bd (big : Int) b → cd a = cd b → a = b
  | [], [], _, _, _, _ => rfl
  | [], _ :: _, h, _, _, _ => by simp at h
  | _ :: _, [], h, _, _, _ => by simp at h
  | x :: a, y :: b, hl, ha, hb, e => by
    have hl' : a.length = b.length := by simpa using hl
    have e : TS.code (big : Int) (x :: a) = TS.code (big : Int) (y :: b) := e
    rcases Int.lt_trichotomy x y with h | h | h
    · have := TS.code_lt hl' ha.tail hb.tail h; omega
    · subst h
      have e2 : cd a = cd b := by
        show TS.code (big : Int) a = TS.code (big : Int) b
        have e : x * (big : Int) ^ a.length + TS.code (big : Int) a = x * (big : Int) ^ b.length + TS.code (big : Int) b := e
        rw [hl'] at e
        omega
      rw [cd_inj hl' ha.tail hb.tail e2]
    · have := TS.code_lt hl'.symm hb.tail ha.tail h; omega
theorem sortedN_unique {d : Nat} : ∀ {a b : List (List Int)}, (∀ x ∈ a, x.length = d ∧ TS.Bd (big : Int) x) → a.Pairwise (fun a b => cd a ≤ cd b) → b.Pairwise (fun a b => cd a ≤ cd b) → a.Perm b → a = b
  | [], b, _, _, _, h => (List.Perm.eq_nil h.symm).symm
  | x :: a, [], _, _, _, h => absurd h.length_eq (by simp)
  | x :: a, y :: b, hk, ha, hb, h => by
    obtain ⟨a1, a2⟩ := List.pairwise_cons.mp ha
    obtain ⟨b1, b2⟩ := List.pairwise_cons.mp hb
    have e : x = y := by
      rcases List.mem_cons.mp (h.mem_iff.mp List.mem_cons_self) with g | g
      · exact g
      · rcases List.mem_cons.mp (h.mem_iff.mpr List.mem_cons_self) with g2 | g2
        · exact g2.symm
        · have k1 := hk x List.mem_cons_self
          have k2 := hk y (List.mem_cons_of_mem _ g2)
          have := a1 y g2
          have := b1 x g
          exact cd_inj (by omega) k1.2 k2.2 (by omega)
    subst e
    rw [sortedN_unique (fun z hz => hk z (List.mem_cons_of_mem _ hz)) a2 b2 h.cons_inv]
def srtNF : FA := fun as st => match as with
  | [.lst xs] => (match tupsOf xs with
    | some nss => if nss.length < 64 ∧ 1 ≤ (nss.headD [0]).length ∧ ∀ ns ∈ nss, ns.length = (nss.headD [0]).length ∧ ∀ m ∈ ns, 0 ≤ m ∧ m < (big : Int) then .ok (.lst ((srtN nss).map nsD)) st else .fail
    | none => .fail)
  | _ => .fail
def rSortUA (K : PySem.W.Frag) : List V → Hp → VK → Prop := fun vs H Q => ∃ (d : Nat) (B : Int), 1 ≤ d ∧ rSortU K d B vs H Q
theorem cr_sortUA {X : Cx} : CallR X (.builtin "sorted") (rSortUA X.K) := by
  intro pins s σ H vs us Q I r h
  obtain ⟨d, B, hd, h⟩ := h
  exact cr_sortT hd pins s σ H vs us Q I r h
theorem paired_perm {α β : Type} {F : α → β → Prop} : ∀ {xs ys : List α}, ys.Perm xs → ∀ {ps : List β}, Paired F xs ps → ∃ qs, Paired F ys qs ∧ qs.Perm ps := by
  intro xs ys h
  induction h with
  | nil => intro ps hp; exact ⟨ps, hp, .refl _⟩
  | cons x _ ih =>
    intro ps hp
    cases hp with
    | cons h t =>
      obtain ⟨qs, h1, h2⟩ := ih t
      exact ⟨_ :: qs, .cons h h1, h2.cons _⟩
  | swap x y l =>
    intro ps hp
    cases hp with
    | cons h t =>
      cases t with
      | cons h' t => exact ⟨_, .cons h' (.cons h t), .swap _ _ _⟩
  | trans _ _ ih1 ih2 =>
    intro ps hp
    obtain ⟨qs, h1, h2⟩ := ih2 hp
    obtain ⟨rs, h3, h4⟩ := ih1 h1
    exact ⟨rs, h3, h4.trans h2⟩
theorem ns_rep {K : PySem.W.Frag} {M : Mem} {H : Hp} {ns : List Int} {x : V} (r : Rep K M H (nsD ns) x) : ∃ t, x = .ref t ∧ FzT K M H t (ns.map V.int) := by
  unfold nsD Rep at r
  obtain ⟨a, vs, rfl, f, q⟩ := r
  have : vs = ns.map V.int := by
    clear f
    induction ns generalizing vs with
    | nil => unfold RepL at q; exact q
    | cons n ns ih =>
      rw [List.map_cons] at q
      unfold RepL at q
      obtain ⟨v, rr, rfl, h1, h2⟩ := q
      rw [rep_int_iff] at h1
      rw [h1, ih _ h2]; rfl
  subst this
  exact ⟨a, rfl, f⟩
theorem paired_ns {K : PySem.W.Frag} {M : Mem} {H : Hp} : ∀ {nss : List (List Int)} {xs : List V}, RepL K M H (nss.map nsD) xs → Paired (fun x p => Rep K M H (nsD p) x) xs nss
  | [], xs, r => by unfold RepL at r; simp at r; subst r; exact .nil
  | p :: ps, xs, r => by
    rw [List.map_cons] at r
    unfold RepL at r
    obtain ⟨v, rr, rfl, h1, h2⟩ := r
    exact .cons h1 (paired_ns h2)
theorem ns_paired {K : PySem.W.Frag} {M : Mem} {H : Hp} : ∀ {nss : List (List Int)} {xs : List V}, Paired (fun x p => Rep K M H (nsD p) x) xs nss → RepL K M H (nss.map nsD) xs
  | _, _, .nil => .nil
  | _, _, .cons h t => .cons h (ns_paired t)
theorem paired_mem {α β : Type} {F : α → β → Prop} : ∀ {xs : List α} {ps : List β}, Paired F xs ps → ∀ x ∈ xs, ∃ p ∈ ps, F x p
  | _, _, .nil, x, h => absurd h List.not_mem_nil
  | _, _, .cons h t, x, hx => by
    rcases List.mem_cons.mp hx with rfl | hx
    · exact ⟨_, List.mem_cons_self, h⟩
    · obtain ⟨p, h1, h2⟩ := paired_mem t x hx
      exact ⟨p, List.mem_cons_of_mem _ h1, h2⟩
theorem paired_pw {α β : Type} {F : α → β → Prop} {R : α → α → Prop} {S : β → β → Prop} (h : ∀ x y p q, F x p → F y q → R x y → S p q) : ∀ {xs : List α} {ps : List β}, Paired F xs ps → xs.Pairwise R → ps.Pairwise S
  | _, _, .nil, _ => .nil
  | _, _, .cons (a := x) (l₁ := xs) (b := p) (l₂ := ps) f t, hr => by
    obtain ⟨h1, h2⟩ := List.pairwise_cons.mp hr
    refine List.pairwise_cons.mpr ⟨fun q hq => ?_, paired_pw h t h2⟩
    have : ∃ y ∈ xs, F y q := by
      clear h1 h2 hr f
      induction t with
      | nil => cases hq
      | cons f' t' ih =>
        rcases List.mem_cons.mp hq with rfl | hq
        · exact ⟨_, List.mem_cons_self, f'⟩
        · obtain ⟨y, h1, h2⟩ := ih hq
          exact ⟨y, List.mem_cons_of_mem _ h1, h2⟩
    obtain ⟨y, hy, fy⟩ := this
    exact h x y p q f fy (h1 y hy)
theorem srtNF_ok {nss : List (List Int)} (d : Nat) (st : Sto) (h64 : nss.length < 64) (hd : 1 ≤ d) (h : ∀ ns ∈ nss, ns.length = d ∧ ∀ m ∈ ns, 0 ≤ m ∧ m < (big : Int)) : srtNF [.lst (nss.map nsD)] st = .ok (.lst ((srtN nss).map nsD)) st := by
  show (match tupsOf (nss.map nsD) with | some nss => _ | none => _) = _
  rw [tupsOf_map]
  show (if _ then _ else _) = _
  cases nss with
  | nil => rw [if_pos ⟨by simp, by simp, by simp⟩]
  | cons n l =>
    have e : (n :: l).headD [0] = n := rfl
    have hn := (h n List.mem_cons_self).1
    rw [e, hn]
    exact if_pos ⟨h64, hd, h⟩
end G
namespace G
open PySem PySem.Spec PyProof.Rows L2
def listRgE (fa : EvE) : EvE := fun env st => (fa env st).bind fun a st1 => match a with
  | .int n => if 0 ≤ n ∧ n ≤ 16777216 then .ok (.lst ((List.range n.toNat).map fun i => .int (i : Nat))) st1 else .fail
  | _ => .fail
theorem rep_rg {K : PySem.W.Frag} {M : Mem} {H : Hp} (n : Int) : RepL K M H ((List.range n.toNat).map fun i => D.int (i : Nat)) (rgV 0 n) := by
  have e1 : ((List.range n.toNat).map fun i => D.int (i : Nat)) = ((List.range n.toNat).map fun i => ((i : Nat) : Int)).map D.int := by rw [List.map_map]; rfl
  have e2 : rgV 0 n = ((List.range n.toNat).map fun i => ((i : Nat) : Int)).map V.int := by
    unfold rgV
    rw [List.map_map, show n - 0 = n by omega]
    exact List.map_congr_left fun i _ => by simp
  rw [e1, e2]
  exact RepL.ints _
theorem g_listRg {X : Cx} {W : WX} {s : Expr} {fa : EvE} (h : PE X s (tLstRg (tRg1 (rdE X.K W fa)))) : PE X s (rdE X.K W (listRgE fa)) :=
  h.imp fun σ H Q ⟨env, M, st, eo, so, p⟩ => ⟨env, M, st, eo, so, Post.imp (Post.bind p) fun x H1 ⟨M1, st1, a, g, so1, ra, p1⟩ => by
    split at p1
    · rename_i n
      split at p1
      · rename_i hn
        rw [rep_int_iff] at ra
        subst ra
        exact ⟨n, rfl, RgOk.of_le (by omega) hn.2 (by omega) hn.1, fun q hq => p1 M1 _ _ (.laid so1 hq) (so1.laid hq) (rep_lst so1 (rep_rg n) hq)⟩
      · exact p1.elim
    · exact p1.elim⟩
@[simp] theorem listRgE_eq (fa : EvE) (env : Env) (st : Sto) : listRgE fa env st = (fa env st).bind fun a st1 => match a with
  | .int n => if 0 ≤ n ∧ n ≤ 16777216 then .ok (.lst ((List.range n.toNat).map fun i => .int (i : Nat))) st1 else .fail
  | _ => .fail := rfl
end G
namespace G
open PySem PySem.Spec PyProof.Rows L2
section
variable {κ β : Type} [DecidableEq κ]
def vGet (kvs : List (κ × β)) (k : κ) : Option β := (kvs.find? fun kv => decide (kv.1 = k)).map (·.2)
def vPut (kvs : List (κ × β)) (k : κ) (v : β) : List (κ × β) :=
  if (kvs.any fun kv => decide (kv.1 = k)) = true then kvs.map (fun kv => if kv.1 = k then (kv.1, v) else kv) else kvs ++ [(k, v)]
theorem vGet_pos {p : κ × β} {r : List (κ × β)} {k : κ} (e : p.1 = k) : vGet (p :: r) k = some p.2 := by simp [vGet, List.find?_cons, e]
theorem vGet_neg {p : κ × β} {r : List (κ × β)} {k : κ} (e : ¬ p.1 = k) : vGet (p :: r) k = vGet r k := by simp [vGet, List.find?_cons, e]
theorem vGet_any (k : κ) : ∀ kvs : List (κ × β), (kvs.any fun kv => decide (kv.1 = k)) = (vGet kvs k).isSome
  | [] => rfl
  | p :: r => by
    rw [List.any_cons]
    by_cases e : p.1 = k
    · simp only [vGet_pos e, decide_eq_true e, Bool.true_or, Option.isSome_some]
    · rw [vGet_neg e, decide_eq_false e, Bool.false_or]; exact vGet_any k r
theorem vPut_keys (kvs : List (κ × β)) (k : κ) (v : β) : (vPut kvs k v).map (·.1) = if k ∈ kvs.map (·.1) then kvs.map (·.1) else kvs.map (·.1) ++ [k] := by
  have hm : (kvs.any fun kv => decide (kv.1 = k)) = true ↔ k ∈ kvs.map (·.1) := by
    rw [List.any_eq_true, List.mem_map]
    constructor
    · rintro ⟨x, h1, h2⟩; exact ⟨x, h1, of_decide_eq_true h2⟩
    · rintro ⟨x, h1, h2⟩; exact ⟨x, h1, decide_eq_true h2⟩
  unfold vPut
  by_cases h : k ∈ kvs.map (·.1)
  · rw [if_pos (hm.mpr h), if_pos h, List.map_map]
    refine List.map_congr_left fun p _ => ?_
    show (if p.1 = k then (p.1, v) else p).1 = p.1
    split <;> rfl
  · rw [if_neg (fun z => h (hm.mp z)), if_neg h]; simp
end
section
variable {K : PySem.W.Frag} {M : Mem} {H : Hp} {κ : Type} [DecidableEq κ]
theorem RepKV.cons {k : κ} {d : D} {v : V} {kvs : List (κ × D)} {ws : List (κ × V)} (r : Rep K M H d v) (q : RepKV K M H kvs ws) : RepKV K M H ((k, d) :: kvs) ((k, v) :: ws) :=
  ⟨by simp [q.1], by simpa using RepL.cons r q.2⟩
theorem RepKV.inv {k : κ} {d : D} {kvs : List (κ × D)} {ws : List (κ × V)} (r : RepKV K M H ((k, d) :: kvs) ws) : ∃ v ws', ws = (k, v) :: ws' ∧ Rep K M H d v ∧ RepKV K M H kvs ws' := by
  obtain ⟨h1, h2⟩ := r
  cases ws with
  | nil => simp at h1
  | cons p ws' =>
    obtain ⟨k', v⟩ := p
    simp only [List.map_cons, List.cons.injEq] at h1
    obtain ⟨rfl, h1⟩ := h1
    simp only [List.map_cons] at h2
    unfold RepL at h2
    obtain ⟨v', r', e, r1, r2⟩ := h2
    injection e with e1 e2
    subst e1 e2
    exact ⟨_, _, rfl, r1, h1, r2⟩
theorem RepKV.nil_inv {ws : List (κ × V)} (r : RepKV K M H ([] : List (κ × D)) ws) : ws = [] := by
  have := r.1
  simpa using this
theorem RepKV.len {kvs : List (κ × D)} {ws : List (κ × V)} (r : RepKV K M H kvs ws) : ws.length = kvs.length := by
  have := congrArg List.length r.1
  simpa using this
theorem RepKV.get : ∀ {kvs : List (κ × D)} {ws : List (κ × V)} (_ : RepKV K M H kvs ws) (k : κ), (vGet kvs k = none → valV ws k = none) ∧ ∀ d, vGet kvs k = some d → ∃ v, valV ws k = some v ∧ Rep K M H d v
  | [], ws, r, k => by rw [r.nil_inv]; exact ⟨fun _ => rfl, fun d h => by cases h⟩
  | (k', d') :: kvs, ws, r, k => by
    obtain ⟨v, ws', rfl, r1, r2⟩ := r.inv
    by_cases e : k' = k
    · rw [vGet_pos (p := (k', d')) e, valV_pos (p := (k', v)) e]
      exact ⟨fun h => (nomatch h), fun d h => by cases h; exact ⟨v, rfl, r1⟩⟩
    · rw [vGet_neg (p := (k', d')) e, valV_neg (p := (k', v)) e]
      exact r2.get k
theorem RepKV.isS {kvs : List (κ × D)} {ws : List (κ × V)} (r : RepKV K M H kvs ws) (k : κ) : (valV ws k).isSome = (vGet kvs k).isSome := by
  obtain ⟨h1, h2⟩ := r.get k
  cases e : vGet kvs k with
  | none => rw [h1 e]; rfl
  | some d => obtain ⟨v, e2, _⟩ := h2 d e; rw [e2]; rfl
theorem RepKV.mapv {k : κ} {d : D} {v : V} (rv : Rep K M H d v) : ∀ {kvs : List (κ × D)} {ws : List (κ × V)}, RepKV K M H kvs ws → RepKV K M H (kvs.map fun kv => if kv.1 = k then (kv.1, d) else kv) (ws.map fun kv => if kv.1 = k then (kv.1, v) else kv)
  | [], ws, r => by rw [r.nil_inv]; exact ⟨rfl, .nil⟩
  | (k', d') :: kvs, ws, r => by
    obtain ⟨v', ws', rfl, r1, r2⟩ := r.inv
    rw [List.map_cons, List.map_cons]
    by_cases e : k' = k
    · simp only [e, if_true]
      exact .cons rv (r2.mapv rv)
    · simp only [e, if_false]
      exact .cons r1 (r2.mapv rv)
theorem RepKV.snoc {k : κ} {d : D} {v : V} (rv : Rep K M H d v) : ∀ {kvs : List (κ × D)} {ws : List (κ × V)}, RepKV K M H kvs ws → RepKV K M H (kvs ++ [(k, d)]) (ws ++ [(k, v)])
  | [], ws, r => by rw [r.nil_inv]; exact .cons rv ⟨rfl, .nil⟩
  | (k', d') :: kvs, ws, r => by
    obtain ⟨v', ws', rfl, r1, r2⟩ := r.inv
    exact .cons r1 (r2.snoc rv)
theorem RepKV.put {k : κ} {d : D} {v : V} {kvs : List (κ × D)} {ws : List (κ × V)} (r : RepKV K M H kvs ws) (rv : Rep K M H d v) : RepKV K M H (vPut kvs k d) (putK ws k v) := by
  have e : (ws.any fun kv => decide (kv.1 = k)) = (kvs.any fun kv => decide (kv.1 = k)) := by rw [valV_any, vGet_any, r.isS]
  unfold vPut putK
  rw [e]
  split
  · exact r.mapv rv
  · exact r.snoc rv
theorem RepKV.at : ∀ {kvs : List (κ × D)} {ws : List (κ × V)}, RepKV K M H kvs ws → ∀ {i : Nat} {k : κ} {d : D}, kvs[i]? = some (k, d) → ∃ v, ws[i]? = some (k, v) ∧ Rep K M H d v
  | [], ws, r, i, k, d, h => by simp at h
  | (k', d') :: kvs, ws, r, 0, k, d, h => by
    obtain ⟨v', ws', rfl, r1, r2⟩ := r.inv
    simp only [List.getElem?_cons_zero, Option.some.injEq, Prod.mk.injEq] at h
    obtain ⟨rfl, rfl⟩ := h
    exact ⟨v', rfl, r1⟩
  | (k', d') :: kvs, ws, r, i + 1, k, d, h => by
    obtain ⟨v', ws', rfl, r1, r2⟩ := r.inv
    simp only [List.getElem?_cons_succ] at h ⊢
    exact r2.at h
end
end G
set_option maxHeartbeats 2000000
namespace PySem
namespace GX
open PySem.W PySem.Calls PyProof.Rows PySem.HandSPX
def iA (f : Str) (p1 p2 : Pos) : Arguments := { posonlyargs := [], args := [{ arg := "self", annotation := none, pos := p1 }, { arg := f, annotation := none, pos := p2 }], vararg := none, kwonlyargs := [], kw_defaults := [], kwarg := none, defaults := [] }
def iB (f : Str) (q1 q2 q3 q4 : Pos) : List Stmt := [.Assign [.Attribute (.Name "self" q1) f q2] (.Name f q3) q4]
def iS (f : Str) : Scope := { kind := .function, names := [("self", .local), (f, .local)], isGenerator := false, isCoroutine := false, more := [] }
structure XI (K : Frag) (mg : Str → Option Value) (x : Str) (C fI : Addr) (f : Str) : Prop where
  hf : f = "given" ∨ f = "index" ∨ f = "reason"
  gC : mg x = some (.ref C)
  nC : nsIn K mainGlobals x = some (some (.ref C))
  cls : ∃ nm q N bs bm sn sub ab col dd k0 k1 k2 k3 k5, K.lookup C = some (excClassObj nm q C N bs bm true sn sub ab col dd k0 k1 k2 k3 k5 "ValueError.__new__") ∧ refsVE bm = true
  sa : findIn K (.ref C) "__setattr__" = some (some (.builtin "object.__setattr__"))
  noN : findIn K (.ref C) f = some none
  iC : findIn K (.ref C) "__init__" = some (some (.ref fI))
  tC : typeIn K (.ref fI) = some (.type "function")
  kC : keepIn K (.ref C) = true
  exC : subIn K (.ref C) (.type "BaseException") = some true
  tyC : typeIn K (.ref C) = some (.type "type")
  fn : ∃ (oc : Value) (od : Option Addr) (q : Str) (doc pm : Value) (an : Option Addr) (cdv ct : Value) (osl : Array (Option Value)) (p1 p2 q1 q2 q3 q4 : Pos),
    K.lookup fI = some ⟨oc, od, .func (fnOf "__init__" q (iA f p1 p2) (iB f q1 q2 q3 q4) (iS f) .none .none doc pm an cdv ct), osl⟩ ∧ codeIn K cdv q = true
theorem one_size (v : Value) : [v].length ≤ sizeLine := by
  rw [sizeLine_eq]
  exact (by decide : 1 ≤ 16777216)
theorem ldC {M : Model} {s : Shared} {name : Str} {scope : Scope} {L a : Addr} {cd : Value} {m : Str → Option Value} {x : Str} {pos : Pos} {v : Value} {Q : Value → Shared → Prop} {A : Around} {E : Value → Shared → Prop} (hn : s.heap.Ns L m) (hv : m x = some v) (h : Q v s)
    (hk : scope.kind = .function := by rfl) (hl : (envOfC name scope L a cd).kindOf x = some .local := by rfl) (hd : (x == ("__debug__" : Str)) = false := by decide) :
    wpAny M A (eval (.Name x pos) (envOfC name scope L a cd)) Q E s := wpAny_Name (wpAny_loadName_local hk hl hn hv h) hd
structure InitEnd (f : Str) (h h' : Heap) (x C dx t1 : Addr) (v : Value) : Prop where
  keep : ∀ b o, b ≠ x → h.get? b = some o → h'.get? b = some o
  obj : h'.get? x = some { cls := .ref C, dict := some dx, data := .fields #[.ref t1, .none, .none, .none, .bool false, .none] }
  dbig : h.objs.size ≤ dx
  dne : dx ≠ x
  ns : h'.Ns1 dx (fun y => if y = f then some v else none)
structure OwnMade (f : Str) (h h' : Heap) (e C d : Addr) (v : Value) : Prop where
  keep : ∀ b o, h.get? b = some o → h'.get? b = some o
  new : h.objs.size ≤ e
  obj : ∃ oe vs, h'.get? e = some oe ∧ oe.cls = .ref C ∧ oe.dict = some d ∧ oe.data = .fields vs ∧ vs[1]? = some .none
  dbig : h.objs.size ≤ d
  dne : d ≠ e
  ns : h'.Ns1 d (fun y => if y = f then some v else none)
section
variable {prog : Program} {w : World} {A : Around} {E : Value → Shared → Prop} {R : Result → Shared → Prop} {s : Shared} {K : Frag} {mg : Str → Option Value} {C fI : Addr} {cn f : Str}
theorem xi_init (T : XI K mg cn C fI f) {x t0 : Addr} {v : Value} (X : K.In s.heap) (hlim : s.heap.NoLimit) (hx : s.heap.get? x = some (excO C t0)) (hnx : K.lookup x = none) (hroom : A.depth < recursionLimit)
    (hq : ∀ h' tk dx, InitEnd f s.heap h' x C dx t0 v → R (.ok (.ret .none)) { s with heap := h', toks := tk }) :
    codeAny (model prog w) A (.call (.ref fI) ⟨[.ref x, v], []⟩) R s := by
  obtain ⟨oc, od, q, doc, pm, an, cdv, ct, osl, p1, p2, q1, q2, q3, q4, ho, hcd⟩ := T.fn
  obtain ⟨nm, qn, N, bs, bm, sn, sub, ab, col, dd, k0, k1, k2, k3, k5, hC, hbm⟩ := T.cls
  have hcl : clsIn K C = some { name := nm, bases := bs, mro := .ref C :: bm, ns := N, qualname := qn, hasDict := true, slotNames := sn, subclasses := sub, abstract := ab, collection := col, hasDel := false } := by unfold clsIn; rw [hC] <;> rfl
  have hsa := T.sa
  have hno := T.noN
  rcases T.hf with rfl | rfl | rfl
  all_goals (
    refine Att.call_fn (binds := [("self", .ref x), (_, v)]) X hlim ho hcd hroom (BindsTo.of_eq (by first | rfl | with_unfolding_all rfl)) (by first | rfl | decide | with_unfolding_all rfl) (fun s₁ IC => ?_) rfl rfl rfl
    obtain ⟨h₁, tk₁, rfl⟩ := IC.toInCall.same
    have k : ∀ b o, s.heap.get? b = some o → h₁.get? b = some o := IC.toInCall.keep
    have hn := IC.toInCall.ns
    have hxL : s.heap.objs.size ≠ x := Nat.ne_of_gt (Heap.lt_size hx)
    have X₁ : K.In h₁ := X.keeps k
    have hx₁ := k _ _ hx
    show wpAny _ _ (execs _ _) _ _ _
    refine wpAny_execs_cons (plainObj_wpAny_Assign_Attribute ?_)
    refine ldC (v := v) hn (by first | rfl | with_unfolding_all rfl | kernel_rfl) (ldC (v := .ref x) hn (by first | rfl | with_unfolding_all rfl | kernel_rfl) ?_)
    refine set_plain X₁ (ox := excO C t0) (od := none) ⟨hx₁, rfl, rfl, trivial⟩ hsa ?_
    refine exc_osa X₁ hx₁ hcl (show refsVE (.ref C :: bm) = true from hbm) rfl hno (fun h₃ tk₃ dx k₃ dn dne hx₃ hn₃ => ?_)
    show wpAny _ _ (execs _ _) _ _ _
    have z : s.heap.objs.size < h₁.objs.size := hn.lt
    exact wpAny_execs_nil (hq h₃ tk₃ dx ⟨fun b o hb e => k₃ b o hb (k b o e), hx₃, Nat.le_of_lt (Nat.lt_of_lt_of_le z dn), dne, hn₃⟩))
theorem xi_made (T : XI K mg cn C fI f) {v : Value} (X : K.In s.heap) (hlim : s.heap.NoLimit) (hroom : A.depth + 1 < recursionLimit)
    (hq : ∀ h' tk e d, OwnMade f s.heap h' e C d v → R (.ok (.ret (.ref e))) { s with heap := h', toks := tk }) :
    codeAny (model prog w) A (.call (.ref C) ⟨[v], []⟩) R s := by
  obtain ⟨nm, q, N, bs, bm, sn, sub, ab, col, dd, k0, k1, k2, k3, k5, hC, hbm⟩ := T.cls
  obtain ⟨hp, g, dr, tk, os⟩ := s
  have k : ∀ b o, hp.get? b = some o → ((hp.push (kdv_tup [v])).push (excO C hp.objs.size)).get? b = some o := fun b o e => Heap.get?_push_of_some _ (Heap.get?_push_of_some _ e)
  have hget : ((hp.push (kdv_tup [v])).push (excO C hp.objs.size)).get? (hp.objs.size + 1) = some (excO C hp.objs.size) := by heap_get
  have hnx : K.lookup (hp.objs.size + 1) = none := by
    cases e : K.lookup (hp.objs.size + 1) with
    | none => rfl
    | some o =>
      have z : hp.get? (hp.objs.size + 1) = some o := X _ _ e
      exact absurd (Nat.lt_of_succ_lt (Heap.lt_size z)) (Nat.lt_irrefl _)
  refine call_own F.excBase_ValueError (fun X => refsVE_contains X bm hbm) (X _ _ hC) (looks_findIn X T.iC) (fun self => bind_fn X self T.tC) (one_size v) ?_
  refine xi_init (s := ⟨(hp.push (kdv_tup [v])).push (excO C hp.objs.size), g, dr, tk, os⟩) T (X.keeps k) (hlim.keeps k) hget hnx ?_ fun h' tk' dx ⟨k', hx, dn, dne, hns⟩ => ?_
  · show A.depth + 1 < recursionLimit
    exact hroom
  · have old : ∀ b o, hp.get? b = some o → h'.get? b = some o := fun b o e => k' b o (Nat.ne_of_lt (Nat.lt_succ_of_lt (Heap.lt_size e))) (k b o e)
    have z : hp.objs.size + 1 + 1 ≤ dx := by
      first
        | (simpa only [Heap.size_push] using dn)
        | exact dn
        | (have q := dn; rw [Heap.size_push, Heap.size_push] at q; exact q)
    exact ⟨rfl, hq h' tk' (hp.objs.size + 1) dx ⟨old, Nat.le_succ _, ⟨_, _, hx, rfl, rfl, rfl, rfl⟩, Nat.le_trans (Nat.le_trans (Nat.le_succ _) (Nat.le_succ _)) z, dne, hns⟩⟩
end
end GX
end PySem
namespace G
open PySem PySem.Spec PyProof.Rows L2
theorem relO_one {f : Str} {v : V} {v' : Value} (r : RelV v v') (y : Str) : RelO (List.lookup y [(f, v)]) (if y = f then some v' else none) := by
  by_cases hw : y = f
  · subst hw
    rw [if_pos rfl]
    have q : List.lookup y [(y, v)] = some v := by simp [List.lookup]
    rw [q]
    exact r
  · rw [if_neg hw]
    have qw : (y == f) = false := by simpa using hw
    have q2 : List.lookup y [(f, v)] = none := by simp [List.lookup, qw]
    rw [q2]
    trivial
section
variable {X : Cx} {C fI : Addr} {cn f : Str}
def tMkX (C : Addr) (f : Str) (ta : TA) : L2.St → Hp → XK → Prop := fun σ H Q => ta σ H fun vs H1 => ∃ v, vs = [v] ∧ ∀ d, H1 d = none → Q (.ref C) (some d) (upd H1 d (.xd [(f, v)]))
theorem pmk_xi {a : Expr} {ta : TA} {p pos : Pos} {k : Nat} (T : PySem.GX.XI X.K X.mg cn C fI f) (hr : RoomG k X.A) (ha : PA X [a] ta) (hg : Gl X cn) (hdb : (cn == ("__debug__" : Str)) = false)
    (he : starEach (a :: []) X.env = (false, eval a X.env) :: starEach [] X.env) (hpl : (backTo pos (starEach [] X.env)).any (·.1) = false) :
    PMk X (.Call (.Name cn p) [a] [] pos) (tMkX C f ta) := by
  intro pins s σ H Q I h
  refine wpAny_Call_Name_kw (ld_glob I hg T.gC ?_ hdb)
  refine PySem.W.callWith_K (h₀ := X.base) I.ok.mod.kin T.kC (thn (ha.run pos pins s σ H _ I h) fun us s1 hh => ?_) he hpl
  obtain ⟨vs, H1, I1, r1, v, ev, q1⟩ := hh
  subst ev
  refine ⟨I1.kIn, ?_⟩
  cases r1 with
  | cons rv rn =>
    rename_i v' us'
    cases rn
    show wpAny _ _ (call (.ref C) [v']) _ _ _
    have hlim := I1.nolimit
    obtain ⟨hp, g, dr, tk, os⟩ := s1
    refine wpAny_call (PySem.GX.xi_made T I1.kIn hlim (by have := hr.dp; omega) fun h' tk' e d M => ?_)
    show MkP X pins σ Q (.ref e) ⟨h', g, dr, tk', os⟩
    obtain ⟨oe, fv, hoe, hc, hd, hdat, h1⟩ := M.obj
    have hns := M.ns
    obtain ⟨G', g1, g2⟩ := restrict h' fun b => decide (b ≠ e)
    have gk : ∀ b, b ≠ e → G'.get? b = h'.get? b := fun b hb => g1 b (decide_eq_true hb)
    have ge : G'.get? e = none := g2 e (by simp)
    have old : ∀ b o, hp.get? b = some o → G'.get? b = some o := fun b o q => (gk b (Nat.ne_of_lt (Nat.lt_of_lt_of_le (Heap.lt_size q) M.new))).trans (M.keep b o q)
    have ob : ObjOk X.prog X.w (upd H1 d (.xd [(f, v)])) G' d (.xd [(f, v)]) :=
      ⟨_, hns.at (fun o q => (gk d M.dne).trans q), fun f => relO_one rv f⟩
    have J : Inv X pins σ (upd H1 d (.xd [(f, v)])) ⟨G', g, dr, tk', os⟩ := I1.laid (t' := tk') old M.dbig ob
    refine ⟨e, oe, fv, ⟨G', g, dr, tk', os⟩, _, .ref C, some d, rfl, J, fun b o q => ?_, ge, hoe, ⟨hc, hd⟩, hdat, h1, ?_, rfl, I1.bare, raises_own T.exC T.tyC, q1 d (I1.hok.fresh M.dbig)⟩
    · by_cases hb : b = e
      · have q' : G'.get? b = some o := q
        rw [hb, ge] at q'; cases q'
      · exact (gk b hb).symm.trans q
    · rw [upd_ne (Ne.symm M.dne)]
      exact I1.hok.fresh M.new
end
def RX (K : PySem.W.Frag) (mg : Str → Option Value) (x f : Str) : Prop := ∃ C fI, PySem.GX.XI K mg x C fI f
def RX0 (K : PySem.W.Frag) (mg : Str → Option Value) (x : Str) : Prop := ∃ C, mg x = some (.ref C) ∧ PySem.W.nsIn K mainGlobals x = some (some (.ref C)) ∧ PySem.W.keepIn K (.ref C) = true ∧ PySem.W.subIn K (.ref C) (.type "BaseException") = some true ∧ PySem.W.typeIn K (.ref C) = some (.type "type") ∧
  PySem.W.excIn K C [.type "ValueError", .type "Exception", .type "BaseException", .type "object"] "ValueError.__new__" = true
def raiseS (cl f : Str) (fa : EvE) : SvS := fun env st => bindS (fa env st) env fun d st1 => .exc ⟨cl, f, d⟩ env st1
def raise0S (cl : Str) : SvS := fun env st => .exc ⟨cl, "", .non⟩ env st
section
variable {X : Cx} {W : WX} {x f : Str} {a : Expr} {fa : EvE} {p pos pos2 : Pos} {k : Nat}
theorem s_raise (hc : X.calm = true) (T : RX X.K X.mg x f) (hr : RoomG k X.A) (tk : Takes X W) (ha : PE X a (rdE X.K W fa)) (hg : Gl X x) (hdb : (x == ("__debug__" : Str)) = false)
    (he : starEach (a :: []) X.env = (false, eval a X.env) :: starEach [] X.env) (hpl : (backTo pos (starEach [] X.env)).any (·.1) = false) :
    PS X (.Raise (some (.Call (.Name x p) [a] [] pos)) none pos2) (rdS X.K W (raiseS x f fa)) := by
  obtain ⟨C, fI, T⟩ := T
  refine (ps_raise hc tk (pmk_xi T hr (pa_cons ha pa_nil he) hg hdb he hpl)).imp ?_
  rintro D σ H ⟨env, M, st, eo, so, po⟩
  refine ⟨env, M, st, eo, so, Post.imp (PostS.bind eo po) fun v H1 ⟨M1, st1, d, g, so1, ra, p1⟩ => ⟨v, rfl, fun dd hd => ?_⟩⟩
  refine p1 M1 _ σ (.ref C) (some dd) (.laid so1 hd) (so1.laid hd) ((eo.grow g).grow (.laid so1 hd)) ⟨T.nC, .inr ⟨?_, dd, v, rfl, upd_same, so1.notin hd, ra.grow (.laid so1 hd)⟩⟩
  show f ≠ ""
  rcases T.hf with rfl | rfl | rfl <;> decide
theorem pmk_own0 {C : Addr} {bmB : List Value} {B newId initId : String} (F : ExcBaseFacts B newId initId bmB) (q : PySem.W.excIn X.K C bmB newId = true) (gC : X.mg x = some (.ref C))
    (kC : PySem.W.keepIn X.K (.ref C) = true) (r : Raises X (.ref C)) (hg : Gl X x) (hdb : (x == ("__debug__" : Str)) = false) :
    PMk X (.Call (.Name x p) [] [] pos) (fun _ H Q => Q (.ref C) none H) := by
  intro pins s σ H Q I h
  refine wpAny_Call_Name_kw (ld_glob I hg gC ?_ hdb)
  refine PySem.W.callWith_K0 I.kIn kC ?_
  show wpAny _ _ (call (.ref C) []) _ _ _
  obtain ⟨bm, N, nm, qn, bs, hdct, sn, sub, ab, col, dd, k0, k1, k2, k3, k5, mN, hC, hN, hni, T⟩ := exc_obj I.kIn q
  refine wpAny_call_exc_subT F T hC hN hni (fun h' e hm => ?_) (by show 0 ≤ sizeLine; exact Nat.zero_le _)
  exact mk_of I hm r h (I.hok.gone hm.new)
theorem s_raise0 (hc : X.calm = true) (T : RX0 X.K X.mg x) (tk : Takes X W) (hg : Gl X x) (hdb : (x == ("__debug__" : Str)) = false) :
    PS X (.Raise (some (.Call (.Name x p) [] [] pos)) none pos2) (rdS X.K W (raise0S x)) := by
  obtain ⟨C, gC, nC, kC, exC, tyC, q⟩ := T
  refine (ps_raise hc tk (pmk_own0 PySem.F.excBase_ValueError q gC kC (raises_own exC tyC) hg hdb)).imp ?_
  rintro D σ H ⟨env, M, st, eo, so, po⟩
  exact po M H σ (.ref C) none .refl so eo ⟨nC, .inl ⟨rfl, rfl⟩⟩
end
end G
set_option maxHeartbeats 2000000
namespace L2
open PySem PySem.Spec PyProof.Rows
abbrev CTS := Value × Option Nat × (Addr → Value → Option Addr → TS)
inductive HdsA (X : Cx) : List ExceptHandler → List CTS → Prop
  | nil : HdsA X [] []
  | cons {x : Str} {c : Value} {ts : Addr → Value → Option Addr → TS} {b₀ : Stmt} {suite : List Stmt} {np pos' : Pos} {hds : List ExceptHandler} {l : List CTS} (hc : Names X x c)
      (hsu : ∀ (a : Addr) (oe : Obj) (cls : Value) (d : Option Addr) (pn : List (Addr × Obj)), Zc cls d oe → (∃ vs, oe.data = .fields vs) → PSs (X.suite a ((a, oe) :: pn)) (b₀ :: suite) (ts a cls d)) (r : HdsA X hds l) :
      HdsA X (.ExceptHandler (some (.Name x np)) none (b₀ :: suite) pos' :: hds) ((c, none, ts) :: l)
  | consA {x n : Str} {i : Nat} {c : Value} {ts : Addr → Value → Option Addr → TS} {b₀ : Stmt} {suite : List Stmt} {np pos' : Pos} {hds : List ExceptHandler} {l : List CTS} (hc : Names X x c) (hi : X.N[i]? = some n) (hln : X.env.kindOf n = some .local)
      (hsu : ∀ (a : Addr) (oe : Obj) (cls : Value) (d : Option Addr) (pn : List (Addr × Obj)), Zc cls d oe → (∃ vs, oe.data = .fields vs) → PSs (X.suite a ((a, oe) :: pn)) (b₀ :: suite) (ts a cls d)) (r : HdsA X hds l) :
      HdsA X (.ExceptHandler (some (.Name x np)) (some n) (b₀ :: suite) pos' :: hds) ((c, some i, ts) :: l)
end L2
set_option maxHeartbeats 2000000
namespace G
open PySem PySem.Spec PyProof.Rows L2
abbrev Tab := List (Str × Str)
def excTest (tab : Tab) (e c : Str) : Option Bool :=
  if (tab.map (·.1)).contains e then if c = "LapError" ∨ c = "ValueError" then some true else if (tab.map (·.1)).contains c then some (decide (e = c)) else none else none
def clsV (K : PySem.W.Frag) (c : Str) : Option Value := if c = "ValueError" then some (.type "ValueError") else match PySem.W.nsIn K mainGlobals c with
  | some (some v) => some v
  | _ => none
def allN (tab : Tab) : List Str := [("LapError" : Str), ("ValueError" : Str)] ++ tab.map (·.1)
def rowB (K : PySem.W.Frag) (tab : Tab) (x f : Str) : Bool := match PySem.W.nsIn K mainGlobals x with
  | some (some (.ref C)) =>
    (PySem.W.findIn K (.ref C) "__getattribute__" == some (some (.builtin "BaseException.__getattribute__"))) && (PySem.W.findIn K (.ref C) "__getattr__" == some none) && (PySem.W.subIn K (.ref C) (.type "BaseException") == some true) &&
    PySem.W.hasDictIn K C && (PySem.W.findIn K (.ref C) "__class__" == some (some (.builtin "object.__class__"))) && (PySem.W.mroIn K C (.type "object") == some true) && (f == "" || PySem.W.findIn K (.ref C) f == some none) &&
    (allN tab).all fun c => match clsV K c with
      | some v => (PySem.W.exmOne K (.ref C) v == excTest tab x c) && (PySem.W.kitOne K (.ref C) v == excTest tab x c)
      | none => false
  | _ => false
def tabB (K : PySem.W.Frag) (tab : Tab) : Bool :=
  (tab.all fun p => rowB K tab p.1 p.2) && (PySem.W.specialIn K (.builtin "object.__class__") "__get__" == some (some (.builtin "getset_descriptor.__get__"))) && (PySem.W.takesIn K (.builtin "object.__class__") == some true)
structure XT (K : PySem.W.Frag) (mg : Str → Option Value) (tab : Tab) : Prop where
  ns : ∀ x v, PySem.W.nsIn K mainGlobals x = some (some v) → mg x = some v
  ve : mg "ValueError" = none
  tb : tabB K tab = true
section
variable {K : PySem.W.Frag} {mg : Str → Option Value} {tab : Tab} {x f : Str} {C : Addr}
theorem XT.row (T : XT K mg tab) (hm : (x, f) ∈ tab) : rowB K tab x f = true := by
  have := T.tb
  unfold tabB at this
  rw [Bool.and_eq_true, Bool.and_eq_true] at this
  exact List.all_eq_true.mp this.1.1 _ hm
structure RowOk (K : PySem.W.Frag) (tab : Tab) (x f : Str) (C : Addr) : Prop where
  ga : PySem.W.findIn K (.ref C) "__getattribute__" = some (some (.builtin "BaseException.__getattribute__"))
  gg : PySem.W.findIn K (.ref C) "__getattr__" = some none
  exC : PySem.W.subIn K (.ref C) (.type "BaseException") = some true
  hd : PySem.W.hasDictIn K C = true
  ha : PySem.W.findIn K (.ref C) "__class__" = some (some (.builtin "object.__class__"))
  hm : PySem.W.mroIn K C (.type "object") = some true
  no : f ≠ "" → PySem.W.findIn K (.ref C) f = some none
  ts : ∀ c ∈ allN tab, ∃ v, clsV K c = some v ∧ PySem.W.exmOne K (.ref C) v = excTest tab x c ∧ PySem.W.kitOne K (.ref C) v = excTest tab x c
theorem XT.at_ (T : XT K mg tab) (hm : (x, f) ∈ tab) : ∃ C, PySem.W.nsIn K mainGlobals x = some (some (.ref C)) ∧ RowOk K tab x f C := by
  have h := T.row hm
  unfold rowB at h
  split at h
  · rename_i C e
    simp only [Bool.and_eq_true, Bool.or_eq_true, beq_iff_eq] at h
    obtain ⟨⟨⟨⟨⟨⟨⟨h1, h2⟩, h3⟩, h4⟩, h5⟩, h6⟩, h7⟩, h8⟩ := h
    refine ⟨C, e, h1, h2, h3, h4, h5, h6, fun nf => h7.resolve_left nf, fun c hc => ?_⟩
    have := List.all_eq_true.mp h8 c hc
    split at this
    · rename_i v ev
      simp only [Bool.and_eq_true, beq_iff_eq] at this
      exact ⟨v, ev, this⟩
    · cases this
  · cases h
end
abbrev SvX := Addr → Value → Option Addr → SvS
def clrS (i : Nat) : S → S
  | .nx env st => .nx (env.set i none) st
  | .brk env st => .brk (env.set i none) st
  | .cont env st => .cont (env.set i none) st
  | .ret d st => .ret d st
  | _ => .fail
abbrev Hdl := Str × Option Nat × SvX
def IndX (oi : Option Nat) (B : SvX) : Prop := match oi with
  | none => ∀ (a : Addr) (c : Value) (od : Option Addr) (env : Env) (st : Sto), B a c od env st = B 0 .none none env st
  | some i => ∀ (a : Addr) (c : Value) (od : Option Addr) (cl f : Str) (d : D) (env : Env) (st : Sto), clrS i (B a c od (env.set i (some (.exv a c od cl f d))) st) = clrS i (B 0 .none none (env.set i (some (.exv 0 .none none cl f d))) st)
inductive HdsG (X : Cx) : List ExceptHandler → List Hdl → Prop
  | nil : HdsG X [] []
  | cons {x : Str} {B : SvX} {b₀ : Stmt} {suite : List Stmt} {np pos' : Pos} {hds : List ExceptHandler} {l : List Hdl} (hg : Gl X x) (hd : (x == ("__debug__" : Str)) = false) (ind : IndX none B)
      (hsu : ∀ (a : Addr) (oe : Obj) (cls : Value) (d : Option Addr) (pn : List (Addr × Obj)), Zc cls d oe → (∃ vs, oe.data = .fields vs) → PSs (X.suite a ((a, oe) :: pn)) (b₀ :: suite) (rdS X.K W0 (B a cls d))) (r : HdsG X hds l) :
      HdsG X (.ExceptHandler (some (.Name x np)) none (b₀ :: suite) pos' :: hds) ((x, none, B) :: l)
  | consA {x n : Str} {i : Nat} {B : SvX} {b₀ : Stmt} {suite : List Stmt} {np pos' : Pos} {hds : List ExceptHandler} {l : List Hdl} (hg : Gl X x) (hd : (x == ("__debug__" : Str)) = false) (hi : X.N[i]? = some n) (hln : X.env.kindOf n = some .local) (ind : IndX (some i) B)
      (hsu : ∀ (a : Addr) (oe : Obj) (cls : Value) (d : Option Addr) (pn : List (Addr × Obj)), Zc cls d oe → (∃ vs, oe.data = .fields vs) → PSs (X.suite a ((a, oe) :: pn)) (b₀ :: suite) (rdS X.K W0 (B a cls d))) (r : HdsG X hds l) :
      HdsG X (.ExceptHandler (some (.Name x np)) (some n) (b₀ :: suite) pos' :: hds) ((x, some i, B) :: l)
theorem boot_VE : bootBuiltins "ValueError" = some (.type "ValueError") := by decide +kernel
section
variable {X : Cx} {tab : Tab}
theorem XT.names (T : XT X.K X.mg tab) {x : Str} (hg : Gl X x) (hd : (x == ("__debug__" : Str)) = false) {v : Value} (hv : clsV X.K x = some v) : Names X x v := by
  unfold clsV at hv
  split at hv
  · rename_i e
    subst e
    cases hv
    exact ⟨hg, hd, .inr ⟨T.ve, boot_VE, by decide⟩⟩
  · split at hv
    · rename_i u e
      cases hv
      exact ⟨hg, hd, .inl (T.ns _ _ e)⟩
    · cases hv
def valsH (K : PySem.W.Frag) (Q : SvX → Addr → Value → Option Addr → TS) (l : List Hdl) : List CTS := l.map fun h => ((clsV K h.1).getD .none, h.2.1, Q h.2.2)
theorem HdsG.ok (T : XT X.K X.mg tab) {hds : List ExceptHandler} {l : List Hdl} (h : HdsG X hds l) (hk : ∀ q ∈ l, (clsV X.K q.1).isSome = true) : HdsA X hds (valsH X.K (fun B a c d => rdS X.K W0 (B a c d)) l) := by
  induction h with
  | nil => exact .nil
  | cons hg hd ind hsu r ih =>
    obtain ⟨v, hv⟩ := Option.isSome_iff_exists.mp (hk _ List.mem_cons_self)
    refine HdsA.cons ?_ hsu (ih fun q hq => hk q (List.mem_cons_of_mem _ hq))
    show Names X _ ((clsV X.K _).getD .none)
    rw [hv]
    exact T.names hg hd hv
  | consA hg hd hi hln ind hsu r ih =>
    obtain ⟨v, hv⟩ := Option.isSome_iff_exists.mp (hk _ List.mem_cons_self)
    refine HdsA.consA ?_ hi hln hsu (ih fun q hq => hk q (List.mem_cons_of_mem _ hq))
    show Names X _ ((clsV X.K _).getD .none)
    rw [hv]
    exact T.names hg hd hv
theorem HdsG.ind {hds : List ExceptHandler} {l : List Hdl} (h : HdsG X hds l) : ∀ q ∈ l, IndX q.2.1 q.2.2 := by
  induction h with
  | nil => intro q hq; cases hq
  | cons hg hd ind hsu r ih =>
    intro q hq
    rcases List.mem_cons.mp hq with rfl | hq
    · exact ind
    · exact ih q hq
  | consA hg hd hi hln ind hsu r ih =>
    intro q hq
    rcases List.mem_cons.mp hq with rfl | hq
    · exact ind
    · exact ih q hq
end
end G
set_option maxHeartbeats 2000000
namespace G
open PySem PySem.Spec PyProof.Rows L2
section
variable {X : Cx} {tab : Tab} {W : WX} {a : Addr} {oe : Obj} {cls : Value} {d : Option Addr} {pn : List (Addr × Obj)} {e : Expr} {pos p q : Pos} {nm : Str} {i : Nat}
abbrev FTab := List (Str × FA)
inductive TabOk (P : Program) (w : World) (K : PySem.W.Frag) (mg : Str → Option Value) (base : Heap) (k : Nat) : FTab → Prop
  | nil : TabOk P w K mg base k []
  | cons {x : Str} {st : Stmt} {ps : List Str} {j : Nat} {F : FA} {r : FTab} (h : Kn P w K mg base x st ps j F) (hj : j ≤ k) (t : TabOk P w K mg base k r) : TabOk P w K mg base k ((x, F) :: r)
theorem TabOk.at_ {P : Program} {w : World} {K : PySem.W.Frag} {mg : Str → Option Value} {base : Heap} {k : Nat} {tab : FTab} (h : TabOk P w K mg base k tab) {x : Str} {F : FA} (e : tab.lookup x = some F) : ∃ st ps j, j ≤ k ∧ Kn P w K mg base x st ps j F := by
  induction h with
  | nil => cases e
  | @cons y st ps j G r h hj t ih =>
    rw [List.lookup] at e
    split at e
    · rename_i ey
      cases e
      have : x = y := by simpa using ey
      subst this
      exact ⟨st, ps, j, hj, h⟩
    · exact ih e
end
end G
namespace G
open PySem PySem.Spec PyProof.Rows L2
inductive SR (i : Nat) (x y : D) : S → S → Prop
  | nx (env : Env) (st : Sto) : SR i x y (.nx (env.set i (some x)) st) (.nx (env.set i (some y)) st)
  | ret (d : D) (st : Sto) : SR i x y (.ret d st) (.ret d st)
  | exc (e e' : Ex) (env env' : Env) (st st' : Sto) : SR i x y (.exc e env st) (.exc e' env' st')
  | fail : SR i x y .fail .fail
def IS (i : Nat) (B : SvX) : Prop := ∀ (a : Addr) (c : Value) (od : Option Addr) (cl g : Str) (d : D) (env : Env) (st : Sto),
  SR i (.exv a c od cl g d) (.exv 0 .none none cl g d) (B a c od (env.set i (some (.exv a c od cl g d))) st) (B 0 .none none (env.set i (some (.exv 0 .none none cl g d))) st)
theorem IS.ok {i : Nat} {B : SvX} (h : IS i B) : IndX (some i) B := by
  intro a c od cl g d env st
  have q := h a c od cl g d env st
  revert q
  generalize B a c od (env.set i (some (.exv a c od cl g d))) st = s
  generalize B 0 .none none (env.set i (some (.exv 0 .none none cl g d))) st = s'
  intro q
  cases q with
  | nx env st => show S.nx _ _ = S.nx _ _; rw [List.set_set, List.set_set]
  | ret d st => rfl
  | exc e e' env env' st st' => rfl
  | fail => rfl
end G
namespace G
open PySem PySem.Spec PyProof.Rows L2
@[simp] theorem bindS_exc {α : Type} (e : Ex) (st : Sto) (env : Env) (k : α → Sto → S) : bindS (.exc e st : R α) env k = .exc e env st := rfl
@[simp] theorem bindS_fail {α : Type} (env : Env) (k : α → Sto → S) : bindS (.fail : R α) env k = .fail := rfl
@[simp] theorem thenS_exc (e : Ex) (env : Env) (st : Sto) (g : SvS) : thenS (.exc e env st) g = .exc e env st := rfl
@[simp] theorem turnS_exc (e : Ex) (env : Env) (st : Sto) (g : SvS) : turnS (.exc e env st) g = .exc e env st := rfl
@[simp] theorem raiseS_eq (cl f : Str) (fa : EvE) (env : Env) (st : Sto) : raiseS cl f fa env st = bindS (fa env st) env fun d st1 => .exc ⟨cl, f, d⟩ env st1 := rfl
@[simp] theorem raise0S_eq (cl : Str) (env : Env) (st : Sto) : raise0S cl env st = .exc ⟨cl, "", .non⟩ env st := rfl
end G
namespace G
open PySem PySem.Spec PyProof.Rows L2
def isi2D (c1 c2 : Tag) : F1 := fun a st => match tagOf a st with
  | some t => .ok (.bl (isiB t c1 || isiB t c2)) st
  | none => .fail
theorem kit_any2 {K : PySem.W.Frag} (t c1 c2 : Tag) : PySem.W.kitAny K (.type (tyName t)) [.type (tyName c1), .type (tyName c2)] = some (isiB t c1 || isiB t c2) := by
  refine kitAny_cons (kit_ty (kit_tag t c1)) (fun h => ?_) (fun h => by rw [h]; rfl)
  rw [h, Bool.false_or]
  refine kitAny_cons (kit_ty (kit_tag t c2)) (fun h => ?_) (fun h => h)
  rw [h]; rfl
section
variable {X : Cx} {W : WX} {a : Expr} {fa : EvE} {p q1 q2 pos : Pos}
theorem g_isi2 (c1 c2 : Tag) {n1 n2 : Str} {x1 : Nat} {pt : Pos} (ha : PE X a (rdE X.K W fa)) (h0 : ∀ {te : TE}, PE X a te → PE X (.Call (.Name "isinstance" p) [a, .Tuple [.Name n1 q1, .Name n2 q2] x1 pt] [] pos) (tCB (rIsiT X.K) (tCons te (tCons (tTup (tCons (tC (.ty (tyName c1))) (tCons (tC (.ty (tyName c2))) tNil))) tNil)))) :
    PE X (.Call (.Name "isinstance" p) [a, .Tuple [.Name n1 q1, .Name n2 q2] x1 pt] [] pos) (rdE X.K W (unE (isi2D c1 c2) fa)) :=
  (h0 ha).imp fun σ H Q ⟨env, M, st, eo, so, p⟩ => ⟨env, M, st, eo, so, Post.imp (Post.bind p) fun x H1 ⟨M1, st1, a, g, so1, ra, p1⟩ => by
    unfold isi2D at p1
    split at p1
    · rename_i t h
      exact ⟨by rw [sizeLine_eq]; simp, fun tp htp => ⟨x, tp, [.ty (tyName c1), .ty (tyName c2)], .type (tyName t), [.type (tyName c1), .type (tyName c2)], isiB t c1 || isiB t c2, rfl, upd_same, .cons (.ty _) (.cons (.ty _) .nil), tagOf_rep (so1.laid htp) h (ra.grow (.laid so1 htp)), kit_any2 t c1 c2, p1 _ _ _ (.laid so1 htp) (so1.laid htp) (rep_bl _ _ _)⟩⟩
    · exact p1.elim⟩
end
section
variable {st : Sto}
@[simp] theorem isi2D_int (c e : Tag) (i : Int) : isi2D c e (.int i) st = .ok (.bl (isiB .int c || isiB .int e)) st := rfl
@[simp] theorem isi2D_bl (c e : Tag) (i : Bool) : isi2D c e (.bl i) st = .ok (.bl (isiB .bl c || isiB .bl e)) st := rfl
@[simp] theorem isi2D_str (c e : Tag) (i : Str) : isi2D c e (.str i) st = .ok (.bl (isiB .str c || isiB .str e)) st := rfl
@[simp] theorem isi2D_non (c e : Tag) : isi2D c e .non st = .ok (.bl (isiB .non c || isiB .non e)) st := rfl
@[simp] theorem isi2D_tup (c e : Tag) (xs : List D) : isi2D c e (.tup xs) st = .ok (.bl (isiB .tup c || isiB .tup e)) st := rfl
@[simp] theorem isi2D_lst (c e : Tag) (xs : List D) : isi2D c e (.lst xs) st = .ok (.bl (isiB .lst c || isiB .lst e)) st := rfl
end
end G
namespace G
open PySem PySem.Spec PyProof.Rows L2
section
variable {X : Cx} {W : WX} {fa fk fv : EvE} {t : Tg} {tt : EvB} {vs : List Nat} {i : Nat} {s : Stmt}
def putL (d k v : D) (st : Sto) : Option Sto := match d with
  | .mut n => (match st[n]? with
    | some (.dd kvs) => (match keyOf k with
      | some k => if kvs.length < 16777216 then some (st.set n (.dd (vPut kvs k v))) else none
      | none => none)
    | _ => none)
  | _ => none
end
end G
namespace G
open PySem PySem.Spec PyProof.Rows L2 HT
abbrev ZipSt (h : Heap) (z TI TO : Addr) (f0 : Value) (f : Bool) : Prop := h.get? z = some { cls := .type "zip", dict := none, data := .fields #[f0, .bool f, .bool false, .ref TI, .ref TO], slots := #[] }
def ZipO (h : Heap) (z TI TO : Addr) : Prop := ∃ f0 f, ZipSt h z TI TO f0 f ∧ (f0 = .none ∨ ∃ T : Addr, f0 = rawInt T)
section
variable {prog : Program} {w : World} {A : Around} {E : Value → Shared → Prop} {s : Shared} {z TI TO i1 i2 : Addr} {fp1 fp2 : List Addr} {n1 n2 i : Nat} {P1 P2 : Nat → Value → Prop} {St1 St2 : Nat → Heap → Prop}
theorem not_alive {a : Addr} {Q : Option Obj → Shared → Prop} (ho : s.heap.get? a = none) (h : Q none s) : wpAny (model prog w) A (loadIfAlive a) Q E s := by
  have h' : Q (s.heap.get? a) s := by rw [ho]; exact h
  exact fun _ _ _ => h'
theorem zip_own {f0 : Value} {f : Bool} {Q : Bool → Shared → Prop} (hz : ZipSt s.heap z TI TO f0 f) (h0 : f0 = .none ∨ ∃ T : Addr, f0 = rawInt T) (free : Q true s)
    (held : ∀ (h' : Heap) (T : Addr), ZipSt h' z TI TO (rawInt T) true → Heap.SameBut z s.heap h' → Q false { s with heap := h' }) : wpAny (model prog w) A (Builtin.SmallTypes.ownedTupleIsFree (.ref z)) Q E s := by
  rcases h0 with rfl | ⟨T, rfl⟩
  · unfold Builtin.SmallTypes.ownedTupleIsFree
    exact wpAny_bind (wpAny_field hz rfl (x := .none) rfl (wpAny_pure free))
  · cases hT : s.heap.get? T with
    | some oT => exact wpAny_tupleHeld_zip hz hT fun h' hz' hs' => held h' T hz' hs'
    | none =>
      unfold Builtin.SmallTypes.ownedTupleIsFree
      refine wpAny_bind (wpAny_field hz rfl (x := rawInt T) rfl ?_)
      show wpAny _ _ (loadIfAlive ((T : Int).toNat) >>= _) _ _ _
      rw [Int.toNat_natCast]
      refine wpAny_bind (not_alive hT ?_)
      simp only [Option.isNone_none, if_true]
      exact wpAny_pure free
structure Drawn (s : Shared) (z TI TO i1 i2 : Addr) (x1 x2 : Value) (h' : Heap) : Prop where
  st : ZipO h' z TI TO
  two : IsTupOf2 h' s.heap.objs.size x1 x2
  sz : h'.objs.size = s.heap.objs.size + 1
  to : ∃ b1 b2, IsTupOf2 h' TO b1 b2
  kp : ∀ c o, c ≠ z → c ≠ TO → c ≠ i1 → c ≠ i2 → s.heap.get? c = some o → h'.get? c = some o
theorem zipO_item {a1 a2 : Value} {Q : Value → Shared → Prop} (S : ZipSep2 z TI TO i1 i2 fp1 fp2) (D1 : Draws prog w A i1 fp1 n1 P1 St1) (D2 : Draws prog w A i2 fp2 n2 P2 St2)
    (hz : ZipO s.heap z TI TO) (hTI : IsTupOf2 s.heap TI (.ref i1) (.ref i2)) (hTO : IsTupOf2 s.heap TO a1 a2) (st1 : St1 i s.heap) (st2 : St2 i s.heap) (l1 : i < n1) (l2 : i < n2)
    (hQ : ∀ x1 x2 h' tk, P1 i x1 → P2 i x2 → St1 (i + 1) h' → St2 (i + 1) h' → Drawn s z TI TO i1 i2 x1 x2 h' → Q (.ref s.heap.objs.size) { s with heap := h', toks := tk }) :
    wpAny (model prog w) A (Builtin.«zip.__next__» ⟨[.ref z], []⟩) (fun fin s' => ∃ v, fin = .done (.ret v) ∧ Q v s') E s := by
  obtain ⟨f0, f, hz, h0⟩ := hz
  obtain ⟨hp, gs, dr, tk0, os⟩ := s
  have zi1 := S.zi1; have zi2 := S.zi2; have Ti1 := S.Ti1; have Ti2 := S.Ti2
  show wpAny _ _ (field (.ref z) 2 >>= _) _ _ _
  refine wpAny_bind (wpAny_field hz rfl (x := .bool false) rfl ?_)
  show wpAny _ _ (field (.ref z) 3 >>= _) _ _ _
  refine wpAny_bind (wpAny_field hz rfl (x := .ref TI) rfl (wpAny_bind (wpAny_seqItems hTI rfl ?_)))
  show wpAny _ _ (Builtin.SmallTypes.ownedTupleIsFree (.ref z) >>= _) _ _ _
  refine wpAny_bind (zip_own hz h0 ?_ fun g0 T hz0 hs0 => ?_)
  · -- the own tuple is taken again
    simp only [if_true]
    refine wpAny_bind (wpAny_rule (wpAny_bind (wpAny_field hz rfl (x := .ref TO) rfl (wpAny_bind (wpAny_setField_rec hz (by simp) fun g0 hz0 hs0 => ?_)))))
    replace hz0 : ZipSt g0 z TI TO .ellipsis f := hz0
    replace hs0 : Heap.SameBut z hp g0 := hs0
    refine wpAny_bind ?_
    simp only [List.zipIdx_cons, List.zipIdx_nil, List.forIn_cons, List.forIn_nil]
    refine wpAny_bind (wpAny_bind (wpAny_onRaise ?_))
    show wpAny _ _ (Builtin.SmallTypes.nextOf (.ref i1) >>= _) _ _ ⟨g0, gs, dr, tk0, os⟩
    refine wpAny_bind (D1.item i _ _ _ l1 (D1.over st1 hs0 S.zf1) fun x1 p1 tk1 hx1 sn1 hp1 => wpAny_pure ?_)
    replace hp1 : Heap.SameBut i1 g0 p1 := hp1
    have hU1 : IsTupOf2 p1 TO a1 a2 := hp1.extBut _ _ Ti1 (hs0.extBut _ _ S.TOz hTO)
    refine wpAny_bind (wpAny_seqItems (s := ⟨p1, gs, dr, tk1, os⟩) hU1 rfl (wpAny_bind (updateSeq_IsTupOf2 (s := ⟨p1, gs, dr, tk1, os⟩) hU1 fun g1 hT1 hs1 => ?_)))
    replace hT1 : IsTupOf2 g1 TO x1 a2 := hT1
    replace hs1 : Heap.SameBut TO p1 g1 := hs1
    refine wpAny_bind (wpAny_letGo (wpAny_pure (wpAny_bind (wpAny_bind (wpAny_onRaise ?_)))))
    show wpAny _ _ (Builtin.SmallTypes.nextOf (.ref i2) >>= _) _ _ ⟨g1, gs, dr, tk1, os⟩
    refine wpAny_bind (D2.item i _ _ _ l2 (D2.over (D2.over (D2.over st2 hs0 S.zf2) hp1 S.sep1_2) hs1 S.Tf2) fun x2 p2 tk2 hx2 sn2 hp2 => wpAny_pure ?_)
    replace hp2 : Heap.SameBut i2 g1 p2 := hp2
    have hU2 : IsTupOf2 p2 TO x1 a2 := hp2.extBut _ _ Ti2 hT1
    refine wpAny_bind (wpAny_seqItems (s := ⟨p2, gs, dr, tk2, os⟩) hU2 rfl (wpAny_bind (updateSeq_IsTupOf2 (s := ⟨p2, gs, dr, tk2, os⟩) hU2 fun g2 hT2 hs2 => ?_)))
    replace hT2 : IsTupOf2 g2 TO x1 x2 := hT2
    replace hs2 : Heap.SameBut TO p2 g2 := hs2
    refine wpAny_bind (wpAny_letGo (wpAny_pure (wpAny_pure (wpAny_bind (wpAny_seqItems (s := ⟨g2, gs, dr, tk2, os⟩) hT2 rfl (wpAny_bind (wpAny_newTuple ?_)))))))
    have hsz : g2.objs.size = hp.objs.size := by rw [hs2.1, hp2.1, hs1.1, hp1.1, hs0.1]
    have hzz : ZipSt g2 z TI TO .ellipsis f := hs2.extBut _ _ S.TOz.symm (hp2.extBut _ _ zi2 (hs1.extBut _ _ S.TOz.symm (hp1.extBut _ _ zi1 hz0)))
    have hkk : ∀ c o, c ≠ z → c ≠ TO → c ≠ i1 → c ≠ i2 → hp.get? c = some o → g2.get? c = some o := fun c o cz cT c1 c2 e =>
      hs2.extBut _ _ cT (hp2.extBut _ _ c2 (hs1.extBut _ _ cT (hp1.extBut _ _ c1 (hs0.extBut _ _ cz e))))
    have hj1 : St1 (i + 1) g2 := D1.over (D1.over (D1.over sn1 hs1 S.Tf1) hp2 S.sep2_1) hs2 S.Tf1
    have hj2 : St2 (i + 1) g2 := D2.over sn2 hs2 S.Tf2
    have hzlt : z < g2.objs.size := Heap.lt_size hzz
    show wpAny _ _ (Builtin.SmallTypes.ownedTupleHandOut (.ref z) (.ref g2.objs.size) >>= _) _ _ ⟨g2.push { cls := .type "tuple", data := .seq #[x1, x2] }, gs, dr, tk2, os⟩
    refine wpAny_bind ?_
    unfold Builtin.SmallTypes.ownedTupleHandOut
    have hz6 : ZipSt (g2.push { cls := .type "tuple", data := .seq #[x1, x2] }) z TI TO .ellipsis f := Heap.get?_push_of_some _ hzz
    refine wpAny_bind (wpAny_setField_rec hz6 (by simp) fun h7 hz7 hs7 => ?_)
    replace hz7 : ZipSt h7 z TI TO (rawInt g2.objs.size) f := hz7
    refine wpAny_setField_rec hz7 (by simp) fun h8 hz8 hs8 => ?_
    replace hz8 : ZipSt h8 z TI TO (rawInt g2.objs.size) false := hz8
    replace hs7 : Heap.SameBut z (g2.push { cls := .type "tuple", data := .seq #[x1, x2] }) h7 := hs7
    replace hs8 : Heap.SameBut z h7 h8 := hs8
    have up : ∀ c o, c ≠ z → g2.get? c = some o → h8.get? c = some o := fun c o c1 e => hs8.extBut _ _ c1 (hs7.extBut _ _ c1 (Heap.get?_push_of_some _ e))
    have hT8 : IsTupOf2 h8 g2.objs.size x1 x2 := hs8.extBut _ _ (Nat.ne_of_gt hzlt) (hs7.extBut _ _ (Nat.ne_of_gt hzlt) (Heap.get?_push_size _ rfl))
    have sz8 : h8.objs.size = g2.objs.size + 1 := by rw [hs8.1, hs7.1, Heap.size_push]
    rw [hsz] at hT8 sz8
    refine wpAny_pure ⟨_, rfl, ?_⟩
    show Q (.ref g2.objs.size) ⟨h8, gs, dr, tk2, os⟩
    rw [hsz]
    exact hQ x1 x2 h8 tk2 hx1 hx2 (D1.frame _ _ _ hj1 fun b hb o e => up b o (fun q => S.zf1 (q ▸ hb)) e) (D2.frame _ _ _ hj2 fun b hb o e => up b o (fun q => S.zf2 (q ▸ hb)) e)
      ⟨⟨_, _, hz8, .inr ⟨_, rfl⟩⟩, hT8, sz8, ⟨_, _, up _ _ S.TOz hT2⟩, fun c o cz cT c1 c2 e => up c o cz (hkk c o cz cT c1 c2 e)⟩
  · -- it is out: a new one
    replace hs0 : Heap.SameBut z hp g0 := hs0
    simp only [Bool.false_eq_true, if_false]
    refine wpAny_bind ?_
    rw [← Array.forIn_toList]
    simp only [List.forIn_cons, List.forIn_nil]
    refine wpAny_bind (wpAny_bind (wpAny_holding ?_))
    show wpAny _ _ (Builtin.SmallTypes.nextOf (.ref i1) >>= _) _ _ ⟨g0, gs, dr, tk0, os⟩
    refine wpAny_bind (D1.item i _ _ _ l1 (D1.over st1 hs0 S.zf1) fun x1 p1 tk1 hx1 sn1 hp1 => wpAny_pure ?_)
    replace hp1 : Heap.SameBut i1 g0 p1 := hp1
    refine wpAny_pure (wpAny_bind (wpAny_bind (wpAny_holding ?_)))
    show wpAny _ _ (Builtin.SmallTypes.nextOf (.ref i2) >>= _) _ _ ⟨p1, gs, dr, tk1, os⟩
    refine wpAny_bind (D2.item i _ _ _ l2 (D2.over (D2.over st2 hs0 S.zf2) hp1 S.sep1_2) fun x2 p2 tk2 hx2 sn2 hp2 => wpAny_pure ?_)
    replace hp2 : Heap.SameBut i2 p1 p2 := hp2
    refine wpAny_pure (wpAny_pure ?_)
    show wpAny _ _ (newTuple [x1, x2] >>= _) _ _ ⟨p2, gs, dr, tk2, os⟩
    refine wpAny_bind (wpAny_newTuple ?_)
    have hsz : p2.objs.size = hp.objs.size := by rw [hp2.1, hp1.1, hs0.1]
    have hzz : ZipSt p2 z TI TO (rawInt T) true := hp2.extBut _ _ zi2 (hp1.extBut _ _ zi1 hz0)
    have hkk : ∀ c o, c ≠ z → c ≠ i1 → c ≠ i2 → hp.get? c = some o → p2.get? c = some o := fun c o cz c1 c2 e => hp2.extBut _ _ c2 (hp1.extBut _ _ c1 (hs0.extBut _ _ cz e))
    have up : ∀ c o, p2.get? c = some o → (p2.push { cls := .type "tuple", data := .seq #[x1, x2] }).get? c = some o := fun c o e => Heap.get?_push_of_some _ e
    have hT8 : IsTupOf2 (p2.push { cls := .type "tuple", data := .seq #[x1, x2] }) p2.objs.size x1 x2 := Heap.get?_push_size _ rfl
    have sz8 : (p2.push { cls := .type "tuple", data := .seq #[x1, x2] }).objs.size = p2.objs.size + 1 := Heap.size_push ..
    refine wpAny_pure ⟨_, rfl, ?_⟩
    show Q (.ref p2.objs.size) ⟨_, gs, dr, tk2, os⟩
    rw [hsz] at hT8 sz8 ⊢
    exact hQ x1 x2 _ tk2 hx1 hx2 (D1.frame _ _ _ (D1.over sn1 hp2 S.sep2_1) fun b _ o e => up b o e) (D2.frame _ _ _ sn2 fun b _ o e => up b o e)
      ⟨⟨_, _, up _ _ hzz, .inr ⟨_, rfl⟩⟩, hT8, sz8, ⟨_, _, up _ _ (hkk TO _ S.TOz Ti1 Ti2 hTO)⟩, fun c o cz _ c1 c2 e => up c o (hkk c o cz c1 c2 e)⟩
theorem zipO_end {a1 a2 : Value} {Q : Fin → Shared → Prop} (S : ZipSep2 z TI TO i1 i2 fp1 fp2) (D1 : Draws prog w A i1 fp1 n1 P1 St1) (D2 : Draws prog w A i2 fp2 n2 P2 St2)
    (hz : ZipO s.heap z TI TO) (hTI : IsTupOf2 s.heap TI (.ref i1) (.ref i2)) (hTO : IsTupOf2 s.heap TO a1 a2) (st1 : St1 i s.heap) (st2 : St2 i s.heap) (l1 : i ≤ n1) (l2 : i ≤ n2) (hend : i = n1 ∨ i = n2)
    (hE : ∀ h' tk e, (∀ c o, c ≠ z → c ≠ TO → c ≠ i1 → c ≠ i2 → s.heap.get? c = some o → h'.get? c = some o) → (∃ o, h'.get? e = some o ∧ o.cls = .type "StopIteration") → E (.ref e) { s with heap := h', toks := tk }) :
    wpAny (model prog w) A (Builtin.«zip.__next__» ⟨[.ref z], []⟩) Q E s := by
  obtain ⟨f0, f, hz, h0⟩ := hz
  obtain ⟨hp, gs, dr, tk0, os⟩ := s
  have zi1 := S.zi1; have zi2 := S.zi2; have Ti1 := S.Ti1; have Ti2 := S.Ti2
  show wpAny _ _ (field (.ref z) 2 >>= _) _ _ _
  refine wpAny_bind (wpAny_field hz rfl (x := .bool false) rfl ?_)
  show wpAny _ _ (field (.ref z) 3 >>= _) _ _ _
  refine wpAny_bind (wpAny_field hz rfl (x := .ref TI) rfl (wpAny_bind (wpAny_seqItems hTI rfl ?_)))
  show wpAny _ _ (Builtin.SmallTypes.ownedTupleIsFree (.ref z) >>= _) _ _ _
  refine wpAny_bind (zip_own hz h0 ?_ fun g0 T hz0 hs0 => ?_)
  · simp only [if_true]
    refine wpAny_bind (wpAny_rule (wpAny_bind (wpAny_field hz rfl (x := .ref TO) rfl (wpAny_bind (wpAny_setField_rec hz (by simp) fun g0 hz0 hs0 => ?_)))))
    replace hz0 : ZipSt g0 z TI TO .ellipsis f := hz0
    replace hs0 : Heap.SameBut z hp g0 := hs0
    refine wpAny_bind ?_
    simp only [List.zipIdx_cons, List.zipIdx_nil, List.forIn_cons, List.forIn_nil]
    refine wpAny_bind (wpAny_bind (wpAny_onRaise ?_))
    show wpAny _ _ (Builtin.SmallTypes.nextOf (.ref i1) >>= _) _ _ ⟨g0, gs, dr, tk0, os⟩
    by_cases hlt1 : i < n1
    · refine wpAny_bind (D1.item i _ _ _ hlt1 (D1.over st1 hs0 S.zf1) fun x1 p1 tk1 hx1 sn1 hp1 => wpAny_pure ?_)
      replace hp1 : Heap.SameBut i1 g0 p1 := hp1
      have hU1 : IsTupOf2 p1 TO a1 a2 := hp1.extBut _ _ Ti1 (hs0.extBut _ _ S.TOz hTO)
      refine wpAny_bind (wpAny_seqItems (s := ⟨p1, gs, dr, tk1, os⟩) hU1 rfl (wpAny_bind (updateSeq_IsTupOf2 (s := ⟨p1, gs, dr, tk1, os⟩) hU1 fun g1 hT1 hs1 => ?_)))
      replace hs1 : Heap.SameBut TO p1 g1 := hs1
      refine wpAny_bind (wpAny_letGo (wpAny_pure ?_))
      have hi2 : i = n2 := by omega
      refine wpAny_bind (wpAny_bind (wpAny_onRaise ?_))
      show wpAny _ _ (Builtin.SmallTypes.nextOf (.ref i2) >>= _) _ _ ⟨g1, gs, dr, tk1, os⟩
      refine wpAny_bind (D2.done ⟨g1, gs, dr, tk1, os⟩ _ _ (by rw [← hi2]; exact D2.over (D2.over (D2.over st2 hs0 S.zf2) hp1 S.sep1_2) hs1 S.Tf2) fun q e hq he => ?_)
      replace hq : Heap.ExtBut i2 g1 q := hq
      obtain ⟨oe, hoe, hce⟩ := he
      replace hoe : q.get? e = some oe := hoe
      have hzq : ZipSt q z TI TO .ellipsis f := hq _ _ zi2 (hs1.extBut _ _ S.TOz.symm (hp1.extBut _ _ zi1 hz0))
      have hez : e ≠ z := fun x => by subst x; rw [hzq] at hoe; cases hoe; simp at hce
      refine wpAny_setField_rec (s := ⟨q, gs, dr, tk1, os⟩) hzq (by simp) fun q' _ hq' => ?_
      replace hq' : Heap.SameBut z q q' := hq'
      exact hE q' tk1 e (fun c o cz cT c1 c2 x => hq'.extBut _ _ cz (hq _ _ c2 (hs1.extBut _ _ cT (hp1.extBut _ _ c1 (hs0.extBut _ _ cz x))))) ⟨oe, hq'.extBut _ _ hez hoe, hce⟩
    · have hi1 : i = n1 := by omega
      refine wpAny_bind (D1.done ⟨g0, gs, dr, tk0, os⟩ _ _ (by rw [← hi1]; exact D1.over st1 hs0 S.zf1) fun q e hq he => ?_)
      replace hq : Heap.ExtBut i1 g0 q := hq
      obtain ⟨oe, hoe, hce⟩ := he
      replace hoe : q.get? e = some oe := hoe
      have hzq : ZipSt q z TI TO .ellipsis f := hq _ _ zi1 hz0
      have hez : e ≠ z := fun x => by subst x; rw [hzq] at hoe; cases hoe; simp at hce
      refine wpAny_setField_rec (s := ⟨q, gs, dr, tk0, os⟩) hzq (by simp) fun q' _ hq' => ?_
      replace hq' : Heap.SameBut z q q' := hq'
      exact hE q' tk0 e (fun c o cz cT c1 c2 x => hq'.extBut _ _ cz (hq _ _ c1 (hs0.extBut _ _ cz x))) ⟨oe, hq'.extBut _ _ hez hoe, hce⟩
  · replace hs0 : Heap.SameBut z hp g0 := hs0
    simp only [Bool.false_eq_true, if_false]
    refine wpAny_bind ?_
    rw [← Array.forIn_toList]
    simp only [List.forIn_cons, List.forIn_nil]
    refine wpAny_bind (wpAny_bind (wpAny_holding ?_))
    show wpAny _ _ (Builtin.SmallTypes.nextOf (.ref i1) >>= _) _ _ ⟨g0, gs, dr, tk0, os⟩
    by_cases hlt1 : i < n1
    · refine wpAny_bind (D1.item i _ _ _ hlt1 (D1.over st1 hs0 S.zf1) fun x1 p1 tk1 hx1 sn1 hp1 => wpAny_pure ?_)
      replace hp1 : Heap.SameBut i1 g0 p1 := hp1
      have hi2 : i = n2 := by omega
      refine wpAny_pure (wpAny_bind (wpAny_bind (wpAny_holding ?_)))
      show wpAny _ _ (Builtin.SmallTypes.nextOf (.ref i2) >>= _) _ _ ⟨p1, gs, dr, tk1, os⟩
      refine wpAny_bind (D2.done ⟨p1, gs, dr, tk1, os⟩ _ _ (by rw [← hi2]; exact D2.over (D2.over st2 hs0 S.zf2) hp1 S.sep1_2) fun q e hq he => ?_)
      replace hq : Heap.ExtBut i2 p1 q := hq
      exact hE q tk1 e (fun c o cz _ c1 c2 x => hq _ _ c2 (hp1.extBut _ _ c1 (hs0.extBut _ _ cz x))) he
    · have hi1 : i = n1 := by omega
      refine wpAny_bind (D1.done ⟨g0, gs, dr, tk0, os⟩ _ _ (by rw [← hi1]; exact D1.over st1 hs0 S.zf1) fun q e hq he => ?_)
      replace hq : Heap.ExtBut i1 g0 q := hq
      exact hE q tk0 e (fun c o cz _ c1 c2 x => hq _ _ c1 (hs0.extBut _ _ cz x)) he
theorem nextOf_zipO {a1 a2 : Value} {Q : Value → Shared → Prop} (S : ZipSep2 z TI TO i1 i2 fp1 fp2) (D1 : Draws prog w A.in1 i1 fp1 n1 P1 St1) (D2 : Draws prog w A.in1 i2 fp2 n2 P2 St2)
    (hz : ZipO s.heap z TI TO) (hTI : IsTupOf2 s.heap TI (.ref i1) (.ref i2)) (hTO : IsTupOf2 s.heap TO a1 a2) (st1 : St1 i s.heap) (st2 : St2 i s.heap) (l1 : i < n1) (l2 : i < n2)
    (hQ : ∀ x1 x2 h' tk, P1 i x1 → P2 i x2 → St1 (i + 1) h' → St2 (i + 1) h' → Drawn s z TI TO i1 i2 x1 x2 h' → Q (.ref s.heap.objs.size) { s with heap := h', toks := tk }) :
    wpAny (model prog w) A (Builtin.SmallTypes.nextOf (.ref z)) Q E s := by
  have hT : s.TypeIs (.ref z) "zip" := by
    obtain ⟨f0, f, hz, _⟩ := hz
    exact ⟨_, hz, rfl⟩
  unfold Builtin.SmallTypes.nextOf
  exact wpAny_bind (wpAny_callSpecial?_slot (name := Str.ofString "__next__") hT F.slot_zip_next (wpAny_call_entry F.slot_zip_next hT F.entry_zip_next
    (zipO_item S D1 D2 hz hTI hTO st1 st2 l1 l2 fun x1 x2 h' tk y1 y2 y3 y4 y5 => wpAny_pure (hQ x1 x2 h' tk y1 y2 y3 y4 y5)) (F.args_zip_next_1 _)))
theorem nextOf_zipO_end {a1 a2 : Value} {Q : Value → Shared → Prop} (S : ZipSep2 z TI TO i1 i2 fp1 fp2) (D1 : Draws prog w A.in1 i1 fp1 n1 P1 St1) (D2 : Draws prog w A.in1 i2 fp2 n2 P2 St2)
    (hz : ZipO s.heap z TI TO) (hTI : IsTupOf2 s.heap TI (.ref i1) (.ref i2)) (hTO : IsTupOf2 s.heap TO a1 a2) (st1 : St1 i s.heap) (st2 : St2 i s.heap) (l1 : i ≤ n1) (l2 : i ≤ n2) (hend : i = n1 ∨ i = n2)
    (hE : ∀ h' tk e, (∀ c o, c ≠ z → c ≠ TO → c ≠ i1 → c ≠ i2 → s.heap.get? c = some o → h'.get? c = some o) → (∃ o, h'.get? e = some o ∧ o.cls = .type "StopIteration") → E (.ref e) { s with heap := h', toks := tk }) :
    wpAny (model prog w) A (Builtin.SmallTypes.nextOf (.ref z)) Q E s := by
  have hT : s.TypeIs (.ref z) "zip" := by
    obtain ⟨f0, f, hz, _⟩ := hz
    exact ⟨_, hz, rfl⟩
  unfold Builtin.SmallTypes.nextOf
  exact wpAny_bind (wpAny_callSpecial?_slot (name := Str.ofString "__next__") hT F.slot_zip_next (wpAny_call_entry F.slot_zip_next hT F.entry_zip_next
    (zipO_end S D1 D2 hz hTI hTO st1 st2 l1 l2 hend hE) (F.args_zip_next_1 _)))
theorem enum_over {e it : Addr} {c : Int} {old : Value} {Q : Value → Shared → Prop} (J : Value → Heap → Nat → Prop) (he : IsEnum s.heap e it c old)
    (inner : ∀ Q' : Value → Shared → Prop, (∀ x h1 tk, J x h1 tk → Q' x { s with heap := h1, toks := tk }) → wpAny (model prog w) A (Builtin.SmallTypes.nextOf (.ref it)) Q' E s)
    (hJ : ∀ x h1 tk, J x h1 tk → IsEnum h1 e it c old)
    (hQ : ∀ x h1 tk h', J x h1 tk → IsEnumOut h' e it (c + 1) x h1.objs.size → h'.get? h1.objs.size = some { cls := .type "tuple", data := .seq #[.int c tk, x] } → h'.objs.size = h1.objs.size + 1 →
      (∀ b o, b ≠ e → h1.get? b = some o → h'.get? b = some o) → Q (.ref h1.objs.size) { s with heap := h', toks := tk + 1 }) :
    wpAny (model prog w) A (Builtin.«enumerate.__next__» ⟨[.ref e], []⟩) (fun fin s' => ∃ v, fin = .done (.ret v) ∧ Q v s') E s := by
  obtain ⟨hp, gs, dr, tk0, os⟩ := s
  show wpAny _ _ (field (.ref e) 2 >>= _) _ _ _
  refine wpAny_bind (wpAny_field he rfl (x := .ref it) rfl (wpAny_bind (inner _ fun x h1 tk hj => ?_)))
  have e1 := hJ x h1 tk hj
  have hel : e < h1.objs.size := Heap.lt_size e1
  show wpAny _ _ (field (.ref e) 3 >>= _) _ _ ⟨h1, gs, dr, tk, os⟩
  refine wpAny_bind (wpAny_field e1 rfl (x := rawInt c) rfl ?_)
  show wpAny _ _ (field (.ref e) 4 >>= _) _ _ ⟨h1, gs, dr, tk, os⟩
  refine wpAny_bind (wpAny_field e1 rfl (x := .none) rfl ?_)
  show wpAny _ _ (mkInt c >>= _) _ _ ⟨h1, gs, dr, tk, os⟩
  refine wpAny_bind (wpAny_mkInt ?_)
  show wpAny _ _ (setField (.ref e) 3 (rawInt (c + 1)) >>= _) _ _ ⟨h1, gs, dr, tk + 1, os⟩
  refine wpAny_bind (wpAny_setField_rec e1 (by simp) fun h2 e2 k2 => ?_)
  replace k2 : Heap.SameBut e h1 h2 := k2
  replace e2 : IsEnum h2 e it (c + 1) old := e2
  show wpAny _ _ (setField (.ref e) 4 .none >>= _) _ _ ⟨h2, gs, dr, tk + 1, os⟩
  refine wpAny_bind (wpAny_setField_rec e2 (by simp) fun h3 e3 k3 => ?_)
  replace k3 : Heap.SameBut e h2 h3 := k3
  replace e3 : IsEnum h3 e it (c + 1) old := e3
  have z3 : h3.objs.size = h1.objs.size := by rw [k3.1, k2.1]
  show wpAny _ _ (newTuple [.int c tk, x] >>= _) _ _ ⟨h3, gs, dr, tk + 1, os⟩
  refine wpAny_bind (wpAny_newTuple ?_)
  rw [z3]
  have e4 : IsEnum (h3.push { cls := .type "tuple", data := .seq #[.int c tk, x] }) e it (c + 1) old := Heap.get?_push_of_some _ e3
  have t4 : (h3.push { cls := .type "tuple", data := .seq #[.int c tk, x] }).get? h1.objs.size = some { cls := .type "tuple", data := .seq #[.int c tk, x] } := by rw [← z3]; exact Heap.get?_push_size _ rfl
  have s4 : (h3.push { cls := .type "tuple", data := .seq #[.int c tk, x] }).objs.size = h1.objs.size + 1 := by rw [Heap.size_push, z3]
  have o4 : ∀ b o, b ≠ e → h1.get? b = some o → (h3.push { cls := .type "tuple", data := .seq #[.int c tk, x] }).get? b = some o := fun b o hb q => Heap.get?_push_of_some _ (k3.extBut b o hb (k2.extBut b o hb q))
  show wpAny _ _ (Builtin.SmallTypes.ownedTupleIsFree (.ref e) >>= _) _ _ ⟨h3.push { cls := .type "tuple", data := .seq #[.int c tk, x] }, gs, dr, tk + 1, os⟩
  generalize h3.push { cls := .type "tuple", data := .seq #[.int c tk, x] } = h4 at *
  refine wpAny_bind ?_
  unfold Builtin.SmallTypes.ownedTupleIsFree
  refine wpAny_bind (wpAny_field e4 rfl (x := .none) rfl (wpAny_pure ?_))
  simp only [if_true]
  refine wpAny_bind (wpAny_rule (wpAny_bind (wpAny_field e4 rfl (x := old) rfl (wpAny_bind (wpAny_setField_rec e4 (by simp) fun h5 e5 k5 => ?_)))))
  replace k5 : Heap.SameBut e h4 h5 := k5
  replace e5 : IsEnum h5 e it (c + 1) x := e5
  show wpAny _ _ (Builtin.SmallTypes.ownedTupleHandOut (.ref e) (.ref h1.objs.size) >>= _) _ _ ⟨h5, gs, dr, tk + 1, os⟩
  refine wpAny_bind ?_
  unfold Builtin.SmallTypes.ownedTupleHandOut
  refine wpAny_bind (wpAny_setField_rec e5 (by simp) fun h6 e6 k6 => ?_)
  replace k6 : Heap.SameBut e h5 h6 := k6
  replace e6 : IsEnumOut h6 e it (c + 1) x h1.objs.size := e6
  refine wpAny_setField_rec e6 (by simp) fun h7 e7 k7 => ?_
  replace k7 : Heap.SameBut e h6 h7 := k7
  replace e7 : IsEnumOut h7 e it (c + 1) x h1.objs.size := e7
  have o7 : ∀ b o, b ≠ e → h4.get? b = some o → h7.get? b = some o := fun b o hb q => k7.extBut b o hb (k6.extBut b o hb (k5.extBut b o hb q))
  refine wpAny_bind (wpAny_letGo (wpAny_pure ⟨_, rfl, hQ x h1 tk h7 hj e7 (o7 _ _ (Nat.ne_of_gt hel) t4) ?_ fun b o hb q => o7 b o hb (o4 b o hb q)⟩))
  show h7.objs.size = h1.objs.size + 1
  rw [k7.1, k6.1, k5.1, s4]
theorem enum_over_end {e it : Addr} {c : Int} {old : Value} {Q : Option Value → Shared → Prop} (J : Heap → Prop) (he : IsEnum s.heap e it c old)
    (inner : ∀ (Q' : Value → Shared → Prop) (E' : Value → Shared → Prop), (∀ h' tk x, J h' → (∃ o, h'.get? x = some o ∧ o.cls = .type "StopIteration") → E' (.ref x) { s with heap := h', toks := tk }) → wpAny (model prog w) A.in1 (Builtin.SmallTypes.nextOf (.ref it)) Q' E' s)
    (hQ : ∀ h' tk, J h' → Q none { s with heap := h', toks := tk }) : wpAny (model prog w) A (pyNext (.ref e)) Q E s := by
  have hT : s.TypeIs (.ref e) "enumerate" := ⟨_, he, rfl⟩
  unfold pyNext
  refine wpAny_bind (wpAny_attempt (wpAny_callSpecial?_slot (name := Str.ofString "__next__") hT F.slot_enumerate_next (wpAny_call_entry F.slot_enumerate_next hT F.entry_enumerate_next ?_ (F.args_enumerate_next_1 _))))
  show wpAny _ _ (field (.ref e) 2 >>= _) _ _ _
  refine wpAny_bind (wpAny_field he rfl (x := .ref it) rfl (wpAny_bind (inner _ _ fun h' tk x hj hx' => ?_)))
  obtain ⟨o, ho, hc⟩ := hx'
  exact wpAny_bind (wpAny_isInstance (T := "StopIteration") (b := true) ⟨o, ho, hc⟩ isSubtype_stop (wpAny_pure (hQ _ _ hj)))
end
def IteZ (K : PySem.W.Frag) (a b : Addr) : It :=
  ⟨fun i H => ∃ (xs ys : List V) (x y : V), SqT K H a xs ∧ SqT K H b ys ∧ xs[i]? = some x ∧ ys[i]? = some y,
    fun i H v H' => ∃ T U x y, v = .ref T ∧ H U = none ∧ H T = none ∧ T ≠ U ∧ H' = upd (upd H U (.tup [x, y])) T (.tup [.int (i : Nat), .ref U]) ∧ (∀ xs, SqT K H a xs → xs[i]? = some x) ∧ ∀ ys, SqT K H b ys → ys[i]? = some y,
    fun i H => ∃ xs ys : List V, SqT K H a xs ∧ SqT K H b ys ∧ i ≤ xs.length ∧ i ≤ ys.length ∧ (i = xs.length ∨ i = ys.length)⟩
theorem turn_enumZ {P : Program} {w : World} {K : PySem.W.Frag} {elts : List Expr} {kk : Nat} {tpos : Pos} {a b e z TI TO i1 i2 : Addr} (S : ZipSep2 z TI TO i1 i2 [i1, a] [i2, b]) (n1 : a ≠ i1) (n2 : b ≠ i2) (ez : e ≠ z) (eT : e ≠ TO) (e1 : e ≠ i1) (e2 : e ≠ i2) :
    Turn P w K (.Tuple elts kk tpos) (IteZ K a b) [e, z, TI, TO, i1, i2] e (fun i h => (∃ old, IsEnum h e z ((i : Nat) : Int) old) ∧ ZipO h z TI TO ∧ IsTupOf2 h TI (.ref i1) (.ref i2) ∧ (∃ a1 a2, IsTupOf2 h TO a1 a2) ∧ h.IsTupleIter i1 a i ∧ h.IsTupleIter i2 b i) where
  mem := by simp
  obj := fun i h st d hd => by
    obtain ⟨⟨old, he⟩, ⟨f0, f, hz, _⟩, hTI, ⟨x, y, hTO⟩, ⟨o1, e1, _, d1⟩, ⟨o2, e2, _, d2⟩⟩ := st
    have e' : d = e ∨ d = z ∨ d = TI ∨ d = TO ∨ d = i1 ∨ d = i2 := by simpa using hd
    rcases e' with q | q | q | q | q | q <;> rw [q]
    · exact ⟨_, he, fun v q => nomatch q⟩
    · exact ⟨_, hz, fun v q => nomatch q⟩
    · exact ⟨_, hTI, fun v q => nomatch q⟩
    · exact ⟨_, hTO, fun v q => nomatch q⟩
    · exact ⟨o1, e1, fun v q => by rw [d1] at q; cases q⟩
    · exact ⟨o2, e2, fun v q => by rw [d2] at q; cases q⟩
  keep := fun i h h' st k => by
    obtain ⟨⟨old, he⟩, ⟨f0, f, hz, h0⟩, hTI, ⟨x, y, hTO⟩, h1, h2⟩ := st
    exact ⟨⟨old, k e (by simp) _ he⟩, ⟨f0, f, k z (by simp) _ hz, h0⟩, k TI (by simp) _ hTI, ⟨x, y, k TO (by simp) _ hTO⟩, h1.at fun o q => k i1 (by simp) o q, h2.at fun o q => k i2 (by simp) o q⟩
  item := by
    intro X hP hw hK hc i pins s σ H E I hf st hg
    subst hP hw hK
    obtain ⟨⟨old, he⟩, hz, hTI, ⟨t1, t2, hTO⟩, h1, h2⟩ := st
    obtain ⟨xs, ys, x, y, qx, qy, hx, hy⟩ := hg
    obtain ⟨ia, ra, pa, _⟩ := I.tuple qx
    obtain ⟨ib, rb, pb, _⟩ := I.tuple qy
    obtain ⟨va, ea, wa⟩ := ra.get hx
    obtain ⟨vb, eb, wb⟩ := rb.get hy
    have la : i < ia.toArray.size := by have := (List.getElem?_eq_some_iff.mp ea).1; simpa using this
    have lb : i < ib.toArray.size := by have := (List.getElem?_eq_some_iff.mp eb).1; simpa using this
    have hh := I.ok.hd hc
    have gone : ∀ {d : Addr}, d ∈ [e, z, TI, TO, i1, i2] → d < s.heap.objs.size := fun {d} hd => by
      have e' : d = e ∨ d = z ∨ d = TI ∨ d = TO ∨ d = i1 ∨ d = i2 := by simpa using hd
      rcases e' with q | q | q | q | q | q <;> rw [q]
      · exact Heap.lt_size he
      · obtain ⟨_, _, q, _⟩ := hz; exact Heap.lt_size q
      · exact Heap.lt_size hTI
      · exact Heap.lt_size hTO
      · obtain ⟨_, q, _⟩ := h1; exact Heap.lt_size q
      · obtain ⟨_, q, _⟩ := h2; exact Heap.lt_size q
    have hT : s.TypeIs (.ref e) "enumerate" := ⟨_, he, rfl⟩
    unfold pyNext
    refine wpAny_bind (wpAny_attempt (wpAny_callSpecial?_slot (name := Str.ofString "__next__") hT F.slot_enumerate_next (wpAny_call_entry F.slot_enumerate_next hT F.entry_enumerate_next
      (enum_over (fun v h1 tk => ∃ x1 x2, v = .ref s.heap.objs.size ∧ ia[i]? = some x1 ∧ ib[i]? = some x2 ∧ h1.IsTupleIter i1 a (i + 1) ∧ h1.IsTupleIter i2 b (i + 1) ∧ Drawn s z TI TO i1 i2 x1 x2 h1) he
        (fun Q' hj => nextOf_zipO S (Draws.tuple (A := X.A.in1.in1) hh i1 a n1 ia.toArray) (Draws.tuple (A := X.A.in1.in1) hh i2 b n2 ib.toArray) hz hTI hTO ⟨h1, pa⟩ ⟨h2, pb⟩ la lb fun x1 x2 h' tk y1 y2 y3 y4 y5 => hj _ _ _ ⟨x1, x2, rfl, by simpa using y1, by simpa using y2, y3.1, y4.1, y5⟩)
        (fun v h1 tk hj => by obtain ⟨_, _, _, _, _, _, _, dr⟩ := hj; exact dr.kp _ _ ez eT e1 e2 he) ?_) (F.args_enumerate_next_1 _))))
    rintro v hp1 tk hp2 ⟨x1, x2, rfl, g1, g2, it1, it2, dr⟩ eo ht hsz kp
    rw [ea] at g1; cases g1
    rw [eb] at g2; cases g2
    have hTI1 : IsTupOf2 hp1 TI (.ref i1) (.ref i2) := dr.kp _ _ S.TIz S.TITO S.TIi1 S.TIi2 hTI
    refine wpAny_pure ⟨_, rfl, ?_⟩
    refine wpAny_letOwnedTupleGo_enum (s := { s with heap := hp2, toks := tk + 1 }) eo fun hp3 he3 sb => ?_
    replace sb : Heap.SameBut e hp2 hp3 := sb
    have up : ∀ c o, c ≠ e → hp1.get? c = some o → hp3.get? c = some o := fun c o hc q => (sb.2 c hc).trans (kp c o hc q)
    have ne_of : ∀ {d : Addr}, d ∈ [e, z, TI, TO, i1, i2] → d ≠ s.heap.objs.size := fun {d} hd => Nat.ne_of_lt (gone hd)
    -- the pair
    have newU : ObjOk X.prog X.w (upd H s.heap.objs.size (.tup [x, y])) hp1 s.heap.objs.size (.tup [x, y]) :=
      ⟨by show 2 ≤ sizeLine; decide, [va, vb], .cons wa (.cons wb .nil), ⟨_, dr.two, rfl, _, rfl⟩⟩
    have I1 : Inv X pins σ (upd H s.heap.objs.size (.tup [x, y])) { s with heap := hp1, toks := tk } :=
      I.turnedNew (ch := [e, z, TI, TO, i1, i2]) (fun c o hc q => dr.kp c o (fun m => hc (by simp [m])) (fun m => hc (by simp [m])) (fun m => hc (by simp [m])) (fun m => hc (by simp [m])) q) hf (Nat.le_refl _) newU
    have hf1 : ∀ d ∈ [e], FpOk X pins (upd H s.heap.objs.size (.tup [x, y])) d := fun d hd => by
      have hd' : d ∈ [e, z, TI, TO, i1, i2] := by rw [List.mem_singleton.mp hd]; simp
      obtain ⟨q0, q1⟩ := hf d hd'
      exact ⟨by rw [upd_ne (ne_of hd')]; exact q0, q1⟩
    have hsz1 : hp1.objs.size = s.heap.objs.size + 1 := dr.sz
    have hne : hp1.objs.size ≠ s.heap.objs.size := by rw [hsz1]; exact Nat.succ_ne_self _
    have hTlt : e ≠ hp1.objs.size := by rw [hsz1]; exact Nat.ne_of_lt (Nat.lt_succ_of_lt (gone (by simp)))
    have ht3 : hp3.get? hp1.objs.size = some { cls := .type "tuple", data := .seq #[.int ((i : Nat) : Int) tk, .ref s.heap.objs.size] } := (sb.2 _ (Ne.symm hTlt)).trans ht
    have newT : ObjOk X.prog X.w (upd (upd H s.heap.objs.size (.tup [x, y])) hp1.objs.size (.tup [.int (i : Nat), .ref s.heap.objs.size])) hp3 hp1.objs.size (.tup [.int (i : Nat), .ref s.heap.objs.size]) :=
      ⟨by show 2 ≤ sizeLine; decide, [.int (i : Nat) tk, .ref s.heap.objs.size], .cons ⟨_, rfl⟩ (.cons rfl .nil), ⟨_, ht3, rfl, _, rfl⟩⟩
    have I2 : Inv X pins σ (upd (upd H s.heap.objs.size (.tup [x, y])) hp1.objs.size (.tup [.int (i : Nat), .ref s.heap.objs.size])) { s with heap := hp3, toks := tk + 1 } :=
      I1.turnedNew (t' := tk + 1) (h' := hp3) (ch := [e]) (fun c o hc q => up c o (fun m => hc (by simp [m])) q) hf1 (Nat.le_refl _) newT
    have nT : H hp1.objs.size = none := I.hok.fresh (by rw [hsz1]; exact Nat.le_succ _)
    have st0 : ∃ old, IsEnum hp3 e z ((i + 1 : Nat) : Int) old := ⟨_, by rw [show ((i + 1 : Nat) : Int) = (i : Int) + 1 by omega]; exact he3⟩
    refine ⟨.ref hp1.objs.size, _, I2, rfl, ⟨hp1.objs.size, s.heap.objs.size, x, y, rfl, I.hok.fresh (Nat.le_refl _), nT, hne, rfl, fun l hl => by rw [I.tuple_inj hl qx]; exact hx, fun l hl => by rw [I.tuple_inj hl qy]; exact hy⟩, ⟨st0, ?_, up _ _ ?_ hTI1, ?_, it1.at fun o q => up i1 o (Ne.symm e1) q, it2.at fun o q => up i2 o (Ne.symm e2) q⟩, fun d hd => ?_⟩
    · obtain ⟨f0, f, q, q0⟩ := dr.st
      exact ⟨f0, f, up z _ (Ne.symm ez) q, q0⟩
    · intro q
      have h := he
      rw [← q] at h
      have := congrArg Obj.cls (Option.some.inj (hTI.symm.trans h))
      simp at this
    · obtain ⟨b1, b2, q⟩ := dr.to
      exact ⟨b1, b2, up TO _ (Ne.symm eT) q⟩
    · rw [upd_ne (by rw [hsz1]; exact Nat.ne_of_lt (Nat.lt_succ_of_lt (gone hd))), upd_ne (ne_of hd)]
      exact (hf d hd).1
  done := by
    intro X hP hw hK hc i pins s σ H E I hf st hg
    subst hP hw hK
    obtain ⟨⟨old, he⟩, hz, hTI, ⟨t1, t2, hTO⟩, h1, h2⟩ := st
    obtain ⟨xs, ys, qx, qy, l1, l2, hend⟩ := hg
    obtain ⟨ia, ra, pa, _⟩ := I.tuple qx
    obtain ⟨ib, rb, pb, _⟩ := I.tuple qy
    have la := ra.length; have lb := rb.length
    have hh := I.ok.hd hc
    refine enum_over_end (fun h' => ∀ c o, c ≠ z → c ≠ TO → c ≠ i1 → c ≠ i2 → s.heap.get? c = some o → h'.get? c = some o) he
      (fun Q' E' hj => nextOf_zipO_end S (Draws.tuple (A := X.A.in1.in1) hh i1 a n1 ia.toArray) (Draws.tuple (A := X.A.in1.in1) hh i2 b n2 ib.toArray) hz hTI hTO ⟨h1, pa⟩ ⟨h2, pb⟩ (by simp; omega) (by simp; omega) (by simp; omega) fun h' tk x k q => hj h' tk x k q) fun h' tk kp => ?_
    exact ⟨rfl, I.turnedL (t' := tk) (ch := [e, z, TI, TO, i1, i2]) (fun c o hc q => kp c o (fun m => hc (by simp [m])) (fun m => hc (by simp [m])) (fun m => hc (by simp [m])) (fun m => hc (by simp [m])) q) hf⟩
  self := fun A i s Q E st h => let ⟨⟨_, he⟩, _⟩ := st; wpAny_pyIter_enum he h
set_option maxHeartbeats 1000000 in
theorem meets_enumerate_newI {v : Value} {Hh : Heap → Prop} (B : ∀ (prog : Program) (w : World) (A : Around) (E : Value → Shared → Prop) (s : Shared) (Q : Value → Shared → Prop), Hh s.heap → Q v s → wpAny (model prog w) A (pyIter v) Q E s) :
    Meets (Builtin.«enumerate.__new__» ⟨[.type "enumerate", v], []⟩) (fun _ R s => Hh s.heap ∧
      R (.ok (.ret (.ref s.heap.objs.size))) { s with heap := s.heap.push { cls := .type "enumerate", data := .fields #[.none, .bool false, v, rawInt 0, .none, .none] } }) :=
  .of_wp fun prog w A R s h => by
    obtain ⟨hp, g, d, tk, os⟩ := s; obtain ⟨h1, h⟩ := h
    have hsub := sub_enumerate
    have q1 : ∀ {A' : Around} {E : Value → Shared → Prop} {Q : Value → Shared → Prop}, Q v ⟨hp, g, d, tk, os⟩ → wpAny (model prog w) A' (pyIter v) Q E ⟨hp, g, d, tk, os⟩ :=
      fun q => B prog w _ _ ⟨hp, g, d, tk, os⟩ _ h1 q
    wp_walk using q1
    refine wpAny_stack_any fun st => wpAny_pure ?_
    split
    · rename_i c _ _ _ _ _
      cases (c == Value.type "enumerate")
      · wp_walk using q1
        exact ⟨_, rfl, h⟩
      · wp_walk using q1
        exact ⟨_, rfl, h⟩
    · wp_walk using q1
      exact ⟨_, rfl, h⟩
section
variable {prog : Program} {w : World} {A : Around} {E : Value → Shared → Prop} {s : Shared}
theorem call_enumerate_zip {z TI TO : Addr} {f0 : Value} {Q : Value → Shared → Prop} (hz : IsZip s.heap z TI TO f0)
    (h : ∀ h', IsEnum h' s.heap.objs.size z 0 .none → h'.objs.size = s.heap.objs.size + 1 → (∀ b o, s.heap.get? b = some o → h'.get? b = some o) → Q (.ref s.heap.objs.size) { s with heap := h' }) :
    wpAny (model prog w) A (call (.type "enumerate") [.ref z]) Q E s := by
  refine callType_new F.called_enumerate (by decide) (F.typeCall_enumerate_1 _) (F.newCall_enumerate_1 _) (fun obj => F.args_object_init_2 obj _) F.entry_enumerate_new
    (meets_enumerate_newI (Hh := fun h => IsZip h z TI TO f0) fun prog w A E s Q hz q => wpAny_pyIter_zip hz q) ⟨hz, ?_⟩
  have he : IsEnum (s.heap.push { cls := .type "enumerate", data := .fields #[.none, .bool false, .ref z, rawInt 0, .none, .none] }) s.heap.objs.size z 0 .none := Heap.get?_push_size _ rfl
  exact ⟨⟨_, he, rfl⟩, h _ he (Heap.size_push ..) fun b o x => Heap.get?_push_of_some _ x⟩
end
def iEnumZ (K : PySem.W.Frag) (ta : TA) : TI := fun σ H R => ta σ H fun vs H1 => ∃ a b xs ys, vs = [.ref a, .ref b] ∧ SqT K H1 a xs ∧ SqT K H1 b ys ∧ R (IteZ K a b) H1
theorem pi_enumZ {X : Cx} {e1 e2 : Expr} {ta : TA} {p p2 pos pos2 tpos : Pos} {elts : List Expr} {kk : Nat} (hg : Gl X "enumerate") (hm : X.mg "enumerate" = none) (hg2 : Gl X "zip") (hm2 : X.mg "zip" = none) (ha : PA X [e1, e2] ta)
    (hs2 : starEach [e1, e2] X.env = (false, eval e1 X.env) :: starEach [e2] X.env := by rfl) (hpl : (backTo pos2 (starEach [e2] X.env)).any (·.1) = false := by rfl) :
    PI X (.Tuple elts kk tpos) (.Call (.Name "enumerate" p) [.Call (.Name "zip" p2) [e1, e2] [] pos2] [] pos) (iEnumZ X.K ta) := by
  refine ⟨fun pins s σ H R I h => ?_⟩
  refine Call_ (ld_blt I hg hm boot_enumerate (PyProof.Rows.callWith_type1 ?_ rfl rfl))
  show wpAny _ _ (spliced ((false, eval (.Call (.Name "zip" p2) [e1, e2] [] pos2) X.env) :: backTo pos (starEach [] X.env))) _ _ s
  refine Calls.spliced_cons (Call_ (ld_blt I hg2 hm2 PyProof.Rows.boot_zip (PyProof.Rows.callWith_type1 (thn (ha.run pos2 pins s σ H _ I h) fun us s1 ⟨vs, H1, I1, r1, q1⟩ => ?_) hs2 hpl)))
  obtain ⟨a, b, xs, ys, ex, qx, qy, q⟩ := q1
  subst ex
  obtain ⟨v1, v2, rfl, e1, e2⟩ : ∃ v1 v2, us = [v1, v2] ∧ v1 = .ref a ∧ v2 = .ref b := by
    cases r1 with
    | cons r rr =>
      cases rr with
      | cons r' rr =>
        cases rr; cases r; cases r'
        exact ⟨_, _, rfl, rfl, rfl⟩
  subst e1 e2
  obtain ⟨ia, ra, pa, _⟩ := I1.tuple qx
  obtain ⟨ib, rb, pb, _⟩ := I1.tuple qy
  have hpa : a < s1.heap.objs.size := by obtain ⟨o, e, _⟩ := pa; exact Heap.lt_size e
  have hpb : b < s1.heap.objs.size := by obtain ⟨o, e, _⟩ := pb; exact Heap.lt_size e
  refine zip_begins2 (begins_tuple a ia.toArray) (begins_tuple b ib.toArray) pa pb fun h' hz hTI hTO g1 g2 hsz kp => ?_
  refine Calls.spliced_nil ?_
  refine call_enumerate_zip (s := { s1 with heap := h' }) hz fun h2 he hsz2 kp2 => wpAny_pyIter_enum he ?_
  have kpp : ∀ b o, s1.heap.get? b = some o → h2.get? b = some o := fun b o x => kp2 b o (kp b o x)
  have I2 : Inv X pins σ H1 { s1 with heap := h2 } := I1.kept (t' := s1.toks) kpp
  have S : ZipSep2 (s1.heap.objs.size + 4) (s1.heap.objs.size + 2) (s1.heap.objs.size + 3) s1.heap.objs.size (s1.heap.objs.size + 1) [s1.heap.objs.size, a] [s1.heap.objs.size + 1, b] :=
    zip_sep2 (fun d hd => by rw [List.mem_singleton.mp hd]; exact hpa) (fun d hd => by rw [List.mem_singleton.mp hd]; exact hpb)
  have hsz' : h'.objs.size = s1.heap.objs.size + 5 := hsz
  rw [show ({ s1 with heap := h' } : Shared).heap.objs.size = s1.heap.objs.size + 5 from hsz'] at he ⊢
  have fp : ∀ d ∈ [s1.heap.objs.size + 5, s1.heap.objs.size + 4, s1.heap.objs.size + 2, s1.heap.objs.size + 3, s1.heap.objs.size, s1.heap.objs.size + 1], s1.heap.objs.size ≤ d := fun d hd => by
    have e' : d = s1.heap.objs.size + 5 ∨ d = s1.heap.objs.size + 4 ∨ d = s1.heap.objs.size + 2 ∨ d = s1.heap.objs.size + 3 ∨ d = s1.heap.objs.size ∨ d = s1.heap.objs.size + 1 := by simpa using hd
    rcases e' with q | q | q | q | q | q <;> rw [q]
    · exact Nat.le_add_right _ _
    · exact Nat.le_add_right _ _
    · exact Nat.le_add_right _ _
    · exact Nat.le_add_right _ _
    · exact Nat.le_refl _
    · exact Nat.le_add_right _ _
  have nn : ∀ {i j : Nat}, i ≠ j → s1.heap.objs.size + i ≠ s1.heap.objs.size + j := fun h z => h (Nat.add_left_cancel z)
  exact ⟨s1.heap.objs.size + 5, [s1.heap.objs.size + 5, s1.heap.objs.size + 4, s1.heap.objs.size + 2, s1.heap.objs.size + 3, s1.heap.objs.size, s1.heap.objs.size + 1], _, _, H1, rfl, I2,
    turn_enumZ S (Nat.ne_of_lt hpa) (Nat.ne_of_lt (Nat.lt_of_lt_of_le hpb (Nat.le_add_right _ _))) (nn (i := 5) (j := 4) (by decide)) (nn (i := 5) (j := 3) (by decide)) (nn (i := 5) (j := 0) (by decide)) (nn (i := 5) (j := 1) (by decide)),
    ⟨⟨.none, he⟩, ⟨.none, false, kp2 _ _ hz, .inl rfl⟩, kp2 _ _ hTI, ⟨_, _, kp2 _ _ hTO⟩, ⟨_, kp2 _ _ g1, rfl, rfl⟩, ⟨_, kp2 _ _ g2, rfl, rfl⟩⟩, fun d hd => I1.fpOk (fp d hd) (I1.hok.fresh (fp d hd)), q⟩
def enzF (as : List D) (st : Sto) : R ItD := match as with
  | [.tup xs, .tup ys] => .ok (.frz (enumL (xs.zipWith (fun x y => .tup [x, y]) ys))) st
  | _ => .fail
section
variable {K : PySem.W.Frag} {M : Mem} {H : Hp}
theorem itez_rep {a b : Addr} {xs ys : List D} {vs ws : List V} (fa : FzT K M H a vs) (qa : RepL K M H xs vs) (fb : FzT K M H b ws) (qb : RepL K M H ys ws) : ItRep K M H (.frz (enumL (xs.zipWith (fun x y => .tup [x, y]) ys))) (IteZ K a b) := fun i M' H' st' g so => by
  have fa' := (g.fzT fa).sq
  have fb' := (g.fzT fb).sq
  have qa' := qa.kp g
  have qb' := qb.kp g
  have la := qa.length
  have lb := qb.length
  have hlen : (enumL (xs.zipWith (fun x y => D.tup [x, y]) ys)).length = min xs.length ys.length := by unfold enumL; simp
  refine ⟨fun e => ⟨vs, ws, fa', fb', by omega, by omega, by omega⟩, fun d hd => ?_⟩
  obtain ⟨p, hp, rfl⟩ := enumL_get hd
  rw [List.getElem?_zipWith] at hp
  cases hx : xs[i]? with
  | none => simp [hx] at hp
  | some x =>
    cases hy : ys[i]? with
    | none => simp [hx, hy] at hp
    | some y =>
      simp [hx, hy] at hp
      subst hp
      obtain ⟨v, hv, rx⟩ := qa'.get hx
      obtain ⟨w, hw, ry⟩ := qb'.get hy
      refine ⟨⟨vs, ws, v, w, fa', fb', hv, hw⟩, fun u H'' ⟨T, U, x', y', e1, hU, hT, hne, e2, e3, e4⟩ => ?_⟩
      have h3 := e3 vs fa'
      rw [hv] at h3; cases h3
      have h4 := e4 ws fb'
      rw [hw] at h4; cases h4
      subst e1 e2
      obtain ⟨g1, so1, r1⟩ := pair_new so rx ry hU
      obtain ⟨g2, so2, r2⟩ := pair_new so1 (rep_int _ _ _) r1 (T := T) (by rw [upd_ne hne]; exact hT)
      exact ⟨g1.trans g2, so2, r2⟩
variable {X : Cx} {W : WX} {fs : EvA} {tg it : Expr}
theorem g_enumz (h : PI X tg it (iEnumZ X.K (rdA X.K W fs))) : PI X tg it (rdI X.K W (callI enzF fs)) := h.imp fun σ H R' ⟨env, M, st, eo, so, p⟩ => ⟨env, M, st, eo, so, Post.imp (Post.bind p) fun vs H1 ⟨M1, st1, as, g, so1, ra, p1⟩ => by
  unfold enzF at p1
  split at p1
  · obtain ⟨x, y, rfl, rx, ry⟩ := ra.two
    unfold Rep at rx ry
    obtain ⟨a, vs, rfl, f, q⟩ := rx
    obtain ⟨b, ws, rfl, f2, q2⟩ := ry
    exact ⟨a, b, vs, ws, rfl, f.sq, f2.sq, p1 M1 H1 _ .refl so1 (itez_rep f q f2 q2)⟩
  · exact p1.elim⟩
end
end G
namespace DcT
open PySem PySem.Spec PyProof.Rows
abbrev dc2 (kx vx t0 i0 t1 i1 : Expr) (ifs0 ifs1 : List Expr) (scope : Scope) (pos : Pos) : Expr := .DictComp kx vx [⟨t0, i0, ifs0, 0⟩, ⟨t1, i1, ifs1, 0⟩] scope pos
end DcT
namespace G
open PySem PySem.Spec PyProof.Rows L2
def srtNQ : FA := fun as st => match as with
  | [.mut n] => (match st[n]? with
    | some (.lst xs) => srtNF [.lst xs] st
    | _ => .fail)
  | _ => .fail
theorem v_srtNQ {K : PySem.W.Frag} : CallV K (rSortUA K) srtNQ := by
  intro as xs M H st Q E ra so p
  unfold srtNQ at p
  split at p
  · split at p
    · rename_i n _ ds e0
      obtain ⟨x, rfl, rx⟩ := ra.one
      unfold Rep at rx
      obtain ⟨t, rfl, m⟩ := rx
      obtain ⟨vs, hv, rl⟩ := so.at_ n t _ m e0
      unfold srtNF at p
      split at p
      · rename_i ds' eq
        cases eq
        split at p
        · rename_i nss e
          split at p
          · rename_i hc
            obtain ⟨h64, hd, hb⟩ := hc
            have ed := tupsOf_eq e
            subst ed
            have hp := paired_ns rl
            refine ⟨(nss.headD [0]).length, (big : Int), hd, t, vs, rfl, .of hv, by rw [paired_len hp]; exact h64, fun x hx => ?_, fun ys b hperm hpw hbn => ?_⟩
            · obtain ⟨ns, h1, h2⟩ := paired_mem hp x hx
              obtain ⟨u, eu, f⟩ := ns_rep h2
              exact ⟨ns, ⟨u, eu, f.sq⟩, (hb ns h1).1, (hb ns h1).2⟩
            · obtain ⟨qs, h1, h2⟩ := paired_perm hperm hp
              have hpq : qs.Pairwise (fun a b => cd a ≤ cd b) := paired_pw (fun x y p q f g r => by
                obtain ⟨u, eu, fu⟩ := ns_rep f
                obtain ⟨v, ev, fv⟩ := ns_rep g
                exact r p q ⟨u, eu, fu.sq⟩ ⟨v, ev, fv.sq⟩) h1 hpw
              have hq : qs = srtN nss := sortedN_unique (d := (nss.headD [0]).length) (fun x hx => hb x (h2.mem_iff.mp hx)) hpq sorted_srtN (h2.trans perm_srtN.symm)
              subst hq
              exact p M _ _ (.laid so hbn) (so.laid hbn) (rep_lst so (ns_paired h1) hbn)
          · exact p.elim
        · exact p.elim
      · rename_i hh; exact absurd rfl (hh ds)
    · exact p.elim
  · exact p.elim
end G
namespace G
open PySem PySem.Spec PyProof.Rows L2
def lc2JF (t : Tg) (tt : EvB) (it1 : EvI) (t1 : Tg) (tt1 : EvB) (fe : EvE) (vs1 : List Nat) (envw : Env) : List D → Sto → List D → R (List D)
  | [], st, acc => .ok acc st
  | x :: xs, st, acc => match t.set x envw with
    | none => .fail
    | some env1 => (noX (tt env1 st)).bind fun b st1 => if b = true then (noX (it1 env1 st1)).bind fun I st2 => match I with
        | .gen nxt k => (lcG t1 tt1 fe (wipeE env1 vs1) nxt k 0 st2 acc).bind fun acc2 st3 => lc2JF t tt it1 t1 tt1 fe vs1 envw xs st3 acc2
        | _ => .fail
      else lc2JF t tt it1 t1 tt1 fe vs1 envw xs st1 acc
def lc2JL (it : EvI) (t : Tg) (tt : EvB) (it1 : EvI) (t1 : Tg) (tt1 : EvB) (fe : EvE) (vs vs1 : List Nat) : EvA := fun env st => (it env st).bind fun I st1 => match I with
  | .frz xs => lc2JF t tt it1 t1 tt1 fe vs1 (wipeE env vs) xs st1 []
  | _ => .fail
def lc2JE (it : EvI) (t : Tg) (tt : EvB) (it1 : EvI) (t1 : Tg) (tt1 : EvB) (fe : EvE) (vs vs1 : List Nat) : EvE := fun env st => (lc2JL it t tt it1 t1 tt1 fe vs vs1 env st).bind fun xs st1 => .ok (.lst xs) st1
section
variable {W : WX} {K : PySem.W.Frag} {t t1 : Tg} {tt tt1 : EvB} {fe : EvE} {it1 : EvI}
theorem rd_lc2J {it : EvI} {vs vs1 : List Nat} (hv : ∀ i ∈ Tg.names t, i ∈ vs) (hv1 : ∀ i ∈ Tg.names t1, i ∈ vs1) :
    ∀ σ H Q, rdE K W (lc2JE it t tt it1 t1 tt1 fe vs vs1) σ H Q → tLc2 (rdI K W it) (Tg.raw K t) (rdB K W0 tt) (rdI K W0 it1) (Tg.raw K t1) (rdB K W0 tt1) (rdE K W0 fe) vs vs1 σ H Q :=
  fun σ H Q ⟨env, M, st, eo, so, p⟩ => ⟨env, M, st, eo, so, by
    have p : Post K (Rep K) M H Q (WE W σ) ((it env st).bind fun I st1 => (match I with
      | .frz xs => lc2JF t tt it1 t1 tt1 fe vs1 (wipeE env vs) xs st1 []
      | _ => .fail).bind fun xs st1 => .ok (.lst xs) st1) := by
      have p : Post K (Rep K) M H Q (WE W σ) ((lc2JL it t tt it1 t1 tt1 fe vs vs1 env st).bind fun xs st1 => .ok (.lst xs) st1) := p
      unfold lc2JL at p
      cases e : it env st with
      | ok I st1 => rw [e] at p; exact p
      | exc x s => rw [e] at p; exact p
      | fail => rw [e] at p; exact p
    refine Post.imp (Post.bind (rep := ItRep K) p) fun J H1 ⟨M1, st1, I, g1, so1, ri, p1⟩ => ?_
    intro L hL
    obtain ⟨so2, k2⟩ := so1.hold (vs := []) hL
    have m0 : Mid K M1 H1 L (M1.hold L) (upd H1 L (.lst [])) st1 [] := ⟨k2, rfl, fun a ha => by
      obtain ⟨_, o, e⟩ := so1.pd a ha
      rw [upd_ne (ne_of_none e hL)], hL, fun a ha => (let ⟨o, e⟩ := (so1.pd a ha).2; ⟨_, e⟩), so2, [], upd_same, .nil⟩
    have eo1 : EnvOk K (M1.hold L) (upd H1 L (.lst [])) (wipeE env vs) (L2.wipe σ vs) := ((eo.grow g1).kp k2).wipe vs
    cases I with
    | gen nxt k => exact p1.elim
    | frz xs =>
      have p1 : Post K (Rep K) M1 H1 Q (WE W σ) ((lc2JF t tt it1 t1 tt1 fe vs1 (wipeE env vs) xs st1 []).bind fun xs st1 => .ok (.lst xs) st1) := p1
      refine ⟨fun i m H' => m = xs.length - i ∧ i ≤ xs.length ∧ ∃ M' st' acc, Mid K M1 H1 L M' H' st' acc ∧ EnvOk K M' H' (wipeE env vs) (L2.wipe σ vs) ∧ Post K (Rep K) M1 H1 Q (WE W σ) ((lc2JF t tt it1 t1 tt1 fe vs1 (wipeE env vs) (xs.drop i) st' acc).bind fun xs st1 => .ok (.lst xs) st1),
        ⟨xs.length, by simp, Nat.zero_le _, _, _, _, m0, eo1, by simpa using p1⟩, ?_⟩
      rintro i m H' ⟨rfl, hi, M', st', acc, md, eo', q⟩
      obtain ⟨r1, r2⟩ := ri i M' H' st' md.kp md.so
      by_cases hlt : i < xs.length
      · have hd : xs[i]? = some xs[i] := List.getElem?_eq_getElem hlt
        obtain ⟨r3, r4⟩ := r2 _ hd
        refine .inr ⟨r3, fun H2 => (∃ M' st' acc, Mid K M1 H1 L M' H2 st' acc ∧ EnvOk K M' H2 (wipeE env vs) (L2.wipe σ vs) ∧ Post K (Rep K) M1 H1 Q (WE W σ) ((lc2JF t tt it1 t1 tt1 fe vs1 (wipeE env vs) (xs.drop (i + 1)) st' acc).bind fun xs st1 => .ok (.lst xs) st1)), fun H2 h => ⟨xs.length - (i + 1), by omega, rfl, hlt, h⟩, fun x H2 hy => ?_⟩
        obtain ⟨g2, so2, rx⟩ := r4 x H2 hy
        rw [List.drop_eq_getElem_cons hlt] at q
        have md2 := md.grow g2 so2
        have eo2 := eo'.grow g2
        unfold lc2JF at q
        cases e : t.set xs[i] (wipeE env vs) with
        | none => rw [e] at q; exact q.elim
        | some env1 =>
          rw [e] at q
          refine Tg.rd e rx eo2 fun σ' eo3 hw => ⟨(hw vs hv).trans wipe_wipe, env1, M', st', eo3, so2, ?_⟩
          cases e1 : tt env1 st' with
          | exc x s => simp only [e1, noX, R.bind] at q; exact q.elim
          | fail => simp only [e1, noX, R.bind] at q; exact q.elim
          | ok b st2 =>
            simp only [e1, noX, R.bind] at q
            intro M3 H3 b' g3 so3 hb
            subst hb
            have md3 := md2.grow g3 so3
            have ew : EnvOk K M3 H3 (wipeE env vs) (L2.wipe σ vs) := eo2.grow g3
            cases b with
            | false => exact iteF ⟨M3, st2, acc, md3, ew, q⟩
            | true =>
              simp only [if_true] at q
              refine iteT ⟨env1, M3, st2, eo3.grow g3, so3, ?_⟩
              cases e2 : it1 env1 st2 with
              | exc x s => rw [e2] at q; exact q.elim
              | fail => rw [e2] at q; exact q.elim
              | ok I2 st3 =>
                rw [e2] at q
                intro M4 H4 J1 g4 so4 ri1
                have md4 := md3.grow g4 so4
                have ew4 := ew.grow g4
                have eo4 := ((eo3.grow g3).grow g4)
                cases I2 with
                | frz ys => exact q.elim
                | gen nxt k0 =>
                  have q : Post K (Rep K) M1 H1 Q (WE W σ) (((lcG t1 tt1 fe (wipeE env1 vs1) nxt k0 0 st3 acc).bind fun acc2 st3 => lc2JF t tt it1 t1 tt1 fe vs1 (wipeE env vs) (xs.drop (i + 1)) st3 acc2).bind fun xs st1 => .ok (.lst xs) st1) := q
                  refine ⟨fun j k H' => ∃ M' st' acc', Keep M4 H4 M' H' ∧ Mid K M1 H1 L M' H' st' acc' ∧ EnvOk K M' H' (wipeE env vs) (L2.wipe σ vs) ∧ EnvOk K M' H' (wipeE env1 vs1) (L2.wipe σ' vs1) ∧
                      Post K (Rep K) M1 H1 Q (WE W σ) (((lcG t1 tt1 fe (wipeE env1 vs1) nxt k j st' acc').bind fun acc2 st3 => lc2JF t tt it1 t1 tt1 fe vs1 (wipeE env vs) (xs.drop (i + 1)) st3 acc2).bind fun xs st1 => .ok (.lst xs) st1),
                    ⟨k0, M4, st3, acc, .refl, md4, ew4, eo4.wipe vs1, q⟩, ?_⟩
                  rintro j k H5 ⟨M5, st5, acc5, k5, md5, ew5, ev5, q5⟩
                  obtain ⟨s1, s2⟩ := ri1 j M5 H5 st5 k5 md5.so
                  cases k with
                  | zero =>
                    unfold lcG at q5
                    cases e5 : nxt j st5 with
                    | none => rw [e5] at q5; exact q5.elim
                    | some o =>
                      cases o with
                      | some x => rw [e5] at q5; exact q5.elim
                      | none => rw [e5] at q5; exact .inl ⟨s1 e5, M5, st5, acc5, md5, ew5, q5⟩
                  | succ k =>
                    unfold lcG at q5
                    cases e5 : nxt j st5 with
                    | none => rw [e5] at q5; exact q5.elim
                    | some o =>
                      cases o with
                      | none => rw [e5] at q5; exact .inl ⟨s1 e5, M5, st5, acc5, md5, ew5, q5⟩
                      | some d =>
                        rw [e5] at q5
                        obtain ⟨s3, s4⟩ := s2 _ e5
                        refine .inr ⟨s3, fun H' => ∃ M' st' acc', Keep M4 H4 M' H' ∧ Mid K M1 H1 L M' H' st' acc' ∧ EnvOk K M' H' (wipeE env vs) (L2.wipe σ vs) ∧ EnvOk K M' H' (wipeE env1 vs1) (L2.wipe σ' vs1) ∧
                          Post K (Rep K) M1 H1 Q (WE W σ) (((lcG t1 tt1 fe (wipeE env1 vs1) nxt k (j + 1) st' acc').bind fun acc2 st3 => lc2JF t tt it1 t1 tt1 fe vs1 (wipeE env vs) (xs.drop (i + 1)) st3 acc2).bind fun xs st1 => .ok (.lst xs) st1), fun H' h => ⟨k, by omega, h⟩, fun y H6 hy6 => ?_⟩
                        obtain ⟨g6, so6, ry⟩ := s4 y H6 hy6
                        exact turnC_rd (P := fun r => Post K (Rep K) M1 H1 Q (WE W σ) ((r.bind fun acc2 st3 => lc2JF t tt it1 t1 tt1 fe vs1 (wipeE env vs) (xs.drop (i + 1)) st3 acc2).bind fun xs st1 => .ok (.lst xs) st1)) (md5.grow g6 so6) (ev5.grow g6) ry hv1 (fun z => z) q5
                          fun M7 H7 st7 acc7 k7 m7 p7 => ⟨M7, st7, acc7, (k5.trans g6.k).trans k7, m7, (ew5.grow g6).kp k7, (ev5.grow g6).kp k7, p7⟩
      · have e : i = xs.length := by omega
        refine .inl ⟨r1 e, ?_⟩
        rw [e, List.drop_length] at q
        obtain ⟨f1, f2, f3, ws, f4, f5⟩ := md.fin
        exact q _ _ _ f1 f2 (by unfold Rep; exact ⟨_, ws, rfl, ⟨f4, f3⟩, f5⟩)⟩
end
section
variable {X : Cx} {W : WX} {s : Expr}
theorem g_lc2J {it it1 : EvI} {t t1 : Tg} {tt tt1 : EvB} {fe : EvE} {vs vs1 : List Nat} (hv : ∀ i ∈ Tg.names t, i ∈ vs) (hv1 : ∀ i ∈ Tg.names t1, i ∈ vs1)
    (h : PE X s (tLc2 (rdI X.K W it) (Tg.raw X.K t) (rdB X.K W0 tt) (rdI X.K W0 it1) (Tg.raw X.K t1) (rdB X.K W0 tt1) (rdE X.K W0 fe) vs vs1)) : PE X s (rdE X.K W (lc2JE it t tt it1 t1 tt1 fe vs vs1)) := h.imp (rd_lc2J hv hv1)
end
end G
namespace G
open PySem PySem.Spec PyProof.Rows L2
def tIfT (t u v : TT) : TT := fun σ H Q => t σ H fun c H1 => if c = true then u σ H1 Q else v σ H1 Q
def ifB (t p q : EvB) : EvB := fun env st => (t env st).bind fun b st1 => if b = true then p env st1 else q env st1
section
variable {X : Cx} {W : WX} {c a b : Expr} {t p q : EvB} {pos : Pos}
theorem pt_ifExp {tc ta tb : TT} (hc : PT X c tc) (ha : PT X a ta) (hb : PT X b tb) : PT X (.IfExp c a b pos) (tIfT tc ta tb) := by
  refine ⟨fun pins s σ H Q I h => ?_⟩
  show wpAny _ _ (do if ← isTrue c X.env (eval c X.env) then isTrue a X.env (eval a X.env) else isTrue b X.env (eval b X.env)) _ _ _
  refine wpAny_bind (thn (hc.run pins s σ H _ I h) fun d s1 ⟨H1, I1, q1⟩ => ?_)
  cases d with
  | true => exact ha.run pins s1 σ H1 Q I1 q1
  | false => exact hb.run pins s1 σ H1 Q I1 q1
theorem g_tif (ht : PT X c (rdB X.K W t)) (ha : PT X a (rdB X.K W p)) (hb : PT X b (rdB X.K W q)) : PT X (.IfExp c a b pos) (rdB X.K W (ifB t p q)) :=
  (pt_ifExp ht ha hb).imp fun σ H Q ⟨env, M, st, eo, so, po⟩ => ⟨env, M, st, eo, so, Post.imp (Post.bind (rep := fun _ _ a b => a = b) po) fun x H1 ⟨M1, st1, a, g, so1, ra, p1⟩ => by
    subst ra
    cases a with
    | true => exact ⟨env, M1, st1, eo.grow g, so1, p1⟩
    | false => exact ⟨env, M1, st1, eo.grow g, so1, p1⟩⟩
end
@[simp] theorem ifB_eq (t p q : EvB) (env : Env) (st : Sto) : ifB t p q env st = (t env st).bind fun b st1 => if b = true then p env st1 else q env st1 := rfl
end G
namespace Lap
open PySem PySem.Spec PyProof.Rows L2 G
def B_round_by : SvS := retS (callE sumF (consA (callE listF (consA (varE 0) (nilA))) (nilA)))
def F_round_by : FA := runF 1 1 B_round_by
def B_sectors_from : SvS := retS (lstE (starA (sliceE (varE 0) (someO (varE 1)) (noO)) (starA (sliceE (varE 0) (noO) (someO (varE 1))) (nilA))))
def F_sectors_from : FA := runF 2 2 B_sectors_from
def B_reach_by : SvS := seqS (asgS (callE divmodF (consA (varE 2) (consA (callE lenF (consA (varE 0) (nilA))) (nilA)))) (tupT 2 (consT (nameT 3) (consT (nameT 4) (nilT))))) (retS (binE addD (binE mulD (varE 3) (callE F_round_by (consA (varE 0) (nilA)))) (callE sumF (consA (sliceE (callE F_sectors_from (consA (varE 0) (consA (varE 1) (nilA)))) (noO) (someO (varE 4))) (nilA)))))
def F_reach_by : FA := runF 3 5 B_reach_by
def B_is_whole : SvS := retS (andE (unE (isiD .int) (varE 0)) (notE (unE (isiD .bl) (varE 0))))
def F_is_whole : FA := runF 1 1 B_is_whole
def B_is_between : SvS := retS (andE (callE F_is_whole (consA (varE 0) (nilA))) (chainE leD leD (varE 1) (varE 0) (varE 2)))
def F_is_between : FA := runF 3 3 B_is_between
def B_is_up_to : SvS := retS (callE F_is_between (consA (varE 0) (consA (cE (.int 0)) (consA (varE 1) (nilA)))))
def F_is_up_to : FA := runF 2 2 B_is_up_to
def B_is_from : SvS := retS (andE (callE F_is_whole (consA (varE 0) (nilA))) (binE geD (varE 0) (varE 1)))
def F_is_from : FA := runF 2 2 B_is_from
def B_is_tuple_up_to : SvS := retS (andE (unE (isiD .tup) (varE 0)) (chainE leD leD (varE 1) (callE lenF (consA (varE 0) (nilA))) (varE 2)))
def F_is_tuple_up_to : FA := runF 3 3 B_is_tuple_up_to
def B_is_track_of : SvS := retS (andE (callE F_is_tuple_up_to (consA (varE 0) (consA (cE (.int 1)) (consA (cE (.int 8)) (nilA))))) (callE allF (consA (lcE (iterE (varE 0)) (.nm 1) (yesB) (callE F_is_from (consA (varE 1) (consA (cE (.int 1)) (nilA)))) [1]) (nilA))))
def F_is_track_of : FA := runF 1 2 B_is_track_of
def B_is_mat_of : SvS := retS (callE F_is_up_to (consA (varE 1) (consA (binE subD (callE lenF (consA (varE 0) (nilA))) (cE (.int 1))) (nilA))))
def F_is_mat_of : FA := runF 2 2 B_is_mat_of
def B_check_track : SvS := ifS (notB (tstE (callE F_is_track_of (consA (varE 0) (nilA))))) (raiseS "InvalidTrack" "given" (varE 0)) (passS)
def F_check_track : FA := runF 1 1 B_check_track
def B_check_mat : SvS := ifS (notB (tstE (callE F_is_mat_of (consA (varE 0) (consA (varE 1) (nilA)))))) (raiseS "InvalidMat" "given" (varE 1)) (passS)
def F_check_mat : FA := runF 2 2 B_check_mat
def B_steps_by : SvS := retS (binE addD (binE modD (binE subD (binE subD (varE 2) (varE 1)) (cE (.int 1))) (callE lenF (consA (varE 0) (nilA)))) (cE (.int 1)))
def F_steps_by : FA := runF 3 3 B_steps_by
def B_way_by : SvS := retS (callE F_reach_by (consA (varE 0) (consA (varE 1) (consA (callE F_steps_by (consA (varE 0) (consA (varE 1) (consA (varE 2) (nilA))))) (nilA)))))
def F_way_by : FA := runF 3 3 B_way_by
def B_can_follow_by : SvS := retS (binE geD (binE subD (binE ixD (varE 1) (cE (.int 0))) (binE ixD (varE 2) (cE (.int 0)))) (callE F_way_by (consA (varE 0) (consA (binE ixD (varE 2) (cE (.int 1))) (consA (binE ixD (varE 1) (cE (.int 1))) (nilA))))))
def F_can_follow_by : FA := runF 3 3 B_can_follow_by
def B_wrong_marks_by : SvS := retS (lcE (callI range2F (consA (cE (.int 1)) (consA (callE lenF (consA (varE 1) (nilA))) (nilA)))) (.nm 2) (notB (tstE (callE F_can_follow_by (consA (varE 0) (consA (binE ixD (varE 1) (varE 2)) (consA (binE ixD (varE 1) (binE subD (varE 2) (cE (.int 1)))) (nilA))))))) (varE 2) [2])
def F_wrong_marks_by : FA := runF 2 3 B_wrong_marks_by
def B_is_row_by : SvS := retS (binE eqD (callE F_wrong_marks_by (consA (varE 0) (consA (varE 1) (nilA)))) (lstE (nilA)))
def F_is_row_by : FA := runF 2 2 B_is_row_by
def B_is_tuple_of : SvS := retS (callE F_is_tuple_up_to (consA (varE 0) (consA (varE 1) (consA (varE 1) (nilA)))))
def F_is_tuple_of : FA := runF 2 2 B_is_tuple_of
def B_is_pair : SvS := retS (callE F_is_tuple_of (consA (varE 0) (consA (cE (.int 2)) (nilA))))
def F_is_pair : FA := runF 1 1 B_is_pair
def B_is_mark_of : SvS := retS (andE (callE F_is_pair (consA (varE 1) (nilA))) (andE (callE F_is_from (consA (binE ixD (varE 1) (cE (.int 0))) (consA (cE (.int 0)) (nilA)))) (callE F_is_mat_of (consA (varE 0) (consA (binE ixD (varE 1) (cE (.int 1))) (nilA))))))
def F_is_mark_of : FA := runF 2 2 B_is_mark_of
def B_wrong_in_bag : SvS := seqS (ifS (notB (tstE (callE F_is_tuple_up_to (consA (varE 1) (consA (cE (.int 0)) (consA (cE (.int 30)) (nilA))))))) (retS (lstE (consA (cE .non) (nilA)))) (passS)) (seqS (forS (callI enumF (consA (varE 1) (nilA))) (tgT (.tp [.nm 2, .nm 3])) (ifS (orB (notB (tstE (callE F_is_mark_of (consA (varE 0) (consA (varE 3) (nilA)))))) (andB (tstE (binE gtD (varE 2) (cE (.int 0)))) (tstE (binE leD (varE 3) (binE ixD (varE 1) (binE subD (varE 2) (cE (.int 1)))))))) (retS (lstE (consA (varE 2) (nilA)))) (passS))) (retS (lstE (nilA))))
def F_wrong_in_bag : FA := runF 2 4 B_wrong_in_bag
def B_is_bag_of : SvS := retS (binE eqD (callE F_wrong_in_bag (consA (varE 0) (consA (varE 1) (nilA)))) (lstE (nilA)))
def F_is_bag_of : FA := runF 2 2 B_is_bag_of
def B_is_full_row : SvS := retS (andE (callE F_is_bag_of (consA (varE 0) (consA (varE 2) (nilA)))) (callE F_is_row_by (consA (varE 0) (consA (tupE (consA (tupE (consA (varE 1) (consA (cE (.int 0)) (nilA)))) (starA (varE 2) (nilA)))) (nilA)))))
def F_is_full_row : FA := runF 3 3 B_is_full_row
def B_is_race_of : SvS := seqS (ifS (orB (notB (tstE (callE F_is_pair (consA (varE 1) (nilA))))) (orB (notB (tstE (callE F_is_from (consA (binE ixD (varE 1) (cE (.int 0))) (consA (cE (.int 0)) (nilA)))))) (notB (tstE (callE F_is_tuple_up_to (consA (binE ixD (varE 1) (cE (.int 1))) (consA (cE (.int 1)) (consA (cE (.int 6)) (nilA))))))))) (retS (cE (.bl false))) (passS)) (retS (callE allF (consA (lcE (iterE (binE ixD (varE 1) (cE (.int 1)))) (.nm 2) (yesB) (callE F_is_full_row (consA (varE 0) (consA (binE ixD (varE 1) (cE (.int 0))) (consA (varE 2) (nilA))))) [2]) (nilA))))
def F_is_race_of : FA := runF 2 3 B_is_race_of
def B_is_runner_of : SvS := retS (callE F_is_up_to (consA (varE 1) (consA (binE subD (callE lenF (consA (binE ixD (varE 0) (cE (.int 1))) (nilA))) (cE (.int 1))) (nilA))))
def F_is_runner_of : FA := runF 2 2 B_is_runner_of
def B_check_race : SvS := ifS (notB (tstE (callE F_is_race_of (consA (varE 0) (consA (varE 1) (nilA)))))) (raiseS "InvalidRace" "given" (varE 1)) (passS)
def F_check_race : FA := runF 2 2 B_check_race
def B_check_runner : SvS := ifS (notB (tstE (callE F_is_runner_of (consA (varE 0) (consA (varE 1) (nilA)))))) (raiseS "InvalidRunner" "given" (varE 1)) (passS)
def F_check_runner : FA := runF 2 2 B_check_runner
def B_extra_by : SvS := retS (binE fdivD (binE subD (binE subD (binE ixD (varE 2) (cE (.int 0))) (binE ixD (varE 1) (cE (.int 0)))) (callE F_way_by (consA (varE 0) (consA (binE ixD (varE 1) (cE (.int 1))) (consA (binE ixD (varE 2) (cE (.int 1))) (nilA)))))) (callE F_round_by (consA (varE 0) (nilA))))
def F_extra_by : FA := runF 3 3 B_extra_by
def B_extras_by : SvS := retS (lcE (callI zipF (consA (varE 1) (consA (sliceE (varE 1) (someO (cE (.int 1))) (noO)) (nilA)))) (.tp [.nm 2, .nm 3]) (yesB) (callE F_extra_by (consA (varE 0) (consA (varE 2) (consA (varE 3) (nilA))))) [2, 3])
def F_extras_by : FA := runF 2 4 B_extras_by
def B_full_row_by : SvS := retS (tupE (consA (tupE (consA (binE ixD (varE 0) (cE (.int 0))) (consA (cE (.int 0)) (nilA)))) (starA (binE ixD (binE ixD (varE 0) (cE (.int 1))) (varE 1)) (nilA))))
def F_full_row_by : FA := runF 2 2 B_full_row_by
def B__law_reach_v2 : SvS := seqS (asgS (callE lenF (consA (varE 0) (nilA))) (nameT 3)) (seqS (asgS (binE modD (callE intF (consA (varE 2) (nilA))) (varE 3)) (nameT 4)) (retS (binE addD (binE mulD (binE fdivD (varE 2) (varE 3)) (callE sumF (consA (varE 0) (nilA)))) (callE sumF (consA (lcE (callI range1F (consA (varE 4) (nilA))) (.nm 5) (yesB) (binE ixD (varE 0) (binE modD (callE intF (consA (binE addD (varE 1) (varE 5)) (nilA))) (varE 3))) [5]) (nilA))))))
def F__law_reach_v2 : FA := runF 3 6 B__law_reach_v2
def B_check_bag : SvS := forS (iterE (callE F_wrong_in_bag (consA (varE 0) (consA (varE 1) (nilA))))) (tgT (.nm 2)) (raiseS "InvalidBag" "index" (varE 2))
def F_check_bag : FA := runF 2 3 B_check_bag
def B_check_tracked : SvS := seqS (exprS (callE F_check_track (consA (varE 0) (nilA)))) (exprS (callE F_check_bag (consA (varE 0) (consA (varE 1) (nilA)))))
def F_check_tracked : FA := runF 2 2 B_check_tracked
def B_is_row : SvS := seqS (exprS (callE F_check_tracked (consA (varE 0) (consA (varE 1) (nilA))))) (retS (callE F_is_row_by (consA (varE 0) (consA (varE 1) (nilA)))))
def F_is_row : FA := runF 2 2 B_is_row
def B_check_fit_row : SvS := ifS (notB (tstE (callE F_is_row_by (consA (varE 0) (consA (varE 1) (nilA)))))) (raise0S "Unfit") (passS)
def F_check_fit_row : FA := runF 2 2 B_check_fit_row
def B_wrong_in_extras : SvS := seqS (asgS (callE F_extras_by (consA (varE 0) (consA (varE 1) (nilA)))) (nameT 3)) (seqS (ifS (notB (tstE (callE F_is_tuple_of (consA (varE 2) (consA (callE lenF (consA (varE 3) (nilA))) (nilA)))))) (retS (lstE (consA (cE .non) (nilA)))) (passS)) (retS (sliceE (lcE (callI enumF (consA (varE 2) (nilA))) (.tp [.nm 4, .nm 5]) (notB (tstE (callE F_is_up_to (consA (varE 5) (consA (binE ixD (varE 3) (varE 4)) (nilA)))))) (varE 4) [4, 5]) (noO) (someO (cE (.int 1))))))
def F_wrong_in_extras : FA := runF 3 6 B_wrong_in_extras
def B_check_marks : SvS := seqS (exprS (callE F_check_track (consA (varE 0) (nilA)))) (exprS (callE F_check_bag (consA (varE 0) (consA (varE 1) (nilA)))))
def F_check_marks : FA := runF 2 2 B_check_marks
def B_all_most : SvS := seqS (exprS (callE F_check_marks (consA (varE 0) (consA (varE 1) (nilA))))) (seqS (exprS (callE F_check_fit_row (consA (varE 0) (consA (varE 1) (nilA))))) (retS (callE tupleF (consA (callE F_extras_by (consA (varE 0) (consA (varE 1) (nilA)))) (nilA)))))
def F_all_most : FA := runF 2 2 B_all_most
def B_mats_between : SvS := retS (lcE (callI range2F (consA (cE (.int 1)) (consA (callE F_steps_by (consA (varE 0) (consA (varE 1) (consA (varE 2) (nilA))))) (nilA)))) (.nm 3) (yesB) (binE modD (binE addD (varE 1) (varE 3)) (callE lenF (consA (varE 0) (nilA)))) [3])
def F_mats_between : FA := runF 3 4 B_mats_between
def B_missed_by : SvS := seqS (asgS (binE repMD (lstE (consA (callE sumF (consA (callE listF (consA (varE 2) (nilA))) (nilA))) (nilA))) (callE lenF (consA (varE 0) (nilA)))) (nameT 3)) (seqS (forS (callI zipF (consA (varE 1) (consA (sliceE (varE 1) (someO (cE (.int 1))) (noO)) (nilA)))) (tgT (.tp [.nm 4, .nm 5])) (forS (iterE (callE F_mats_between (consA (varE 0) (consA (binE ixD (varE 4) (cE (.int 1))) (consA (binE ixD (varE 5) (cE (.int 1))) (nilA)))))) (tgT (.nm 6)) (asgS (binE addD (binE ixD (varE 3) (varE 6)) (cE (.int 1))) (subT (varE 3) (varE 6))))) (retS (varE 3)))
def F_missed_by : FA := runF 3 7 B_missed_by
def B_missed : SvS := seqS (exprS (callE F_check_marks (consA (varE 0) (consA (varE 1) (nilA))))) (seqS (exprS (callE F_check_fit_row (consA (varE 0) (consA (varE 1) (nilA))))) (seqS (forS (iterE (callE F_wrong_in_extras (consA (varE 0) (consA (varE 1) (consA (varE 2) (nilA)))))) (tgT (.nm 3)) (raiseS "InvalidExtras" "index" (varE 3))) (retS (callE tupleF (consA (callE F_missed_by (consA (varE 0) (consA (varE 1) (consA (varE 2) (nilA))))) (nilA))))))
def F_missed : FA := runF 3 4 B_missed
def B_check_mark : SvS := ifS (notB (tstE (callE F_is_mark_of (consA (varE 0) (consA (varE 1) (nilA)))))) (raiseS "InvalidMark" "given" (varE 1)) (passS)
def F_check_mark : FA := runF 2 2 B_check_mark
def B_check_raced_races : SvS := seqS (exprS (callE F_check_track (consA (varE 0) (nilA)))) (seqS (exprS (callE F_check_race (consA (varE 0) (consA (varE 1) (nilA))))) (exprS (callE F_check_runner (consA (varE 1) (consA (varE 2) (nilA))))))
def F_check_raced_races : FA := runF 3 3 B_check_raced_races
def B_full_row : SvS := seqS (exprS (callE F_check_raced_races (consA (varE 0) (consA (varE 1) (consA (varE 2) (nilA)))))) (retS (callE F_full_row_by (consA (varE 1) (consA (varE 2) (nilA)))))
def F_full_row : FA := runF 3 3 B_full_row
def B__law_full : SvS := retS (binE addD (tupE (consA (tupE (consA (binE ixD (varE 0) (cE (.int 0))) (consA (cE (.int 0)) (nilA)))) (nilA))) (binE ixD (binE ixD (varE 0) (cE (.int 1))) (varE 1)))
def F__law_full : FA := runF 2 2 B__law_full
def B_can_follow : SvS := seqS (exprS (callE F_check_track (consA (varE 0) (nilA)))) (seqS (exprS (callE F_check_mark (consA (varE 0) (consA (varE 1) (nilA))))) (seqS (exprS (callE F_check_mark (consA (varE 0) (consA (varE 2) (nilA))))) (retS (callE F_can_follow_by (consA (varE 0) (consA (varE 1) (consA (varE 2) (nilA))))))))
def F_can_follow : FA := runF 3 3 B_can_follow
def B__law_take : SvS := seqS (ifS (tstE (binE gtD (binE ixD (varE 0) (cE (.int 0))) (cE (.int 0)))) (seqS (asgS (callE divmodF (consA (binE ixD (varE 0) (cE (.int 0))) (consA (varE 1) (nilA)))) (tupT 2 (consT (subT (varE 0) (cE (.int 0))) (consT (nameT 2) (nilT))))) (retS (varE 2))) (passS)) (seqS (asgS (binE addD (binE ixD (varE 0) (cE (.int 2))) (cE (.int 1))) (subT (varE 0) (cE (.int 2)))) (seqS (asgS (binE modD (callE intF (consA (binE addD (binE addD (binE mulD (binE ixD (varE 0) (cE (.int 1))) (cE (.int 39373))) (binE mulD (binE ixD (varE 0) (cE (.int 2))) (cE (.int 30323)))) (cE (.int 11))) (nilA))) (cE (.int 2147483543))) (subT (varE 0) (cE (.int 1)))) (retS (binE modD (callE intF (consA (binE fdivD (binE ixD (varE 0) (cE (.int 1))) (cE (.int 128))) (nilA))) (varE 1)))))
def F__law_take : FA := runF 2 3 B__law_take
def B__law_of : SvS := retS (binE ixD (varE 1) (callE F__law_take (consA (varE 0) (consA (callE lenF (consA (varE 1) (nilA))) (nilA)))))
def F__law_of : FA := runF 2 2 B__law_of
def B__law_same_v2 (rec : FA) : SvS := seqS (ifS (orB (andB (tstE (unE (isiD .tup) (varE 1))) (notB (tstE (unE (isiD .tup) (varE 0))))) (andB (tstE (unE (isiD .lst) (varE 1))) (notB (tstE (unE (isiD .lst) (varE 0)))))) (retS (cE (.bl false))) (passS)) (seqS (ifS (tstE (unE (isi2D .tup .lst) (varE 1))) (retS (andE (binE eqD (callE lenF (consA (varE 0) (nilA))) (callE lenF (consA (varE 1) (nilA)))) (callE allF (consA (lcE (callI range1F (consA (callE lenF (consA (varE 1) (nilA))) (nilA))) (.nm 2) (yesB) (callE rec (consA (binE ixD (varE 0) (varE 2)) (consA (binE ixD (varE 1) (varE 2)) (nilA)))) [2]) (nilA))))) (passS)) (seqS (ifS (orB (tstE (binE isND (varE 1) (cE .non))) (tstE (binE isND (varE 0) (cE .non)))) (retS (andE (binE isND (varE 1) (cE .non)) (binE isND (varE 0) (cE .non)))) (passS)) (seqS (ifS (orB (tstE (unE (isiD .bl) (varE 1))) (tstE (unE (isiD .bl) (varE 0)))) (retS (andE (unE (isiD .bl) (varE 1)) (andE (unE (isiD .bl) (varE 0)) (binE eqD (varE 1) (varE 0))))) (passS)) (seqS (ifS (tstE (unE (isiD .int) (varE 1))) (retS (andE (unE (isiD .int) (varE 0)) (binE eqD (varE 0) (varE 1)))) (passS)) (seqS (ifS (tstE (unE (isiD .str) (varE 1))) (retS (andE (unE (isiD .str) (varE 0)) (binE eqD (varE 0) (varE 1)))) (passS)) (retS (andE (unE (isiD .dic) (varE 1)) (andE (unE (isiD .dic) (varE 0)) (andE (binE eqD (callE lenF (consA (varE 0) (nilA))) (callE lenF (consA (varE 1) (nilA)))) (binE eqD (varE 0) (varE 1)))))))))))
def R__law_same_v2 : Nat → FA
  | 0 => fun _ _ => .fail
  | k + 1 => runF 2 3 (B__law_same_v2 (R__law_same_v2 k))
def F__law_same_v2 : FA := R__law_same_v2 20
def B__law_track : SvS := seqS (asgS (callE F__law_of (consA (varE 0) (consA (tupE (consA (cE (.int 3)) (consA (cE (.int 9)) (consA (cE (.int 40)) (nilA))))) (nilA)))) (nameT 1)) (retS (callE tupleF (consA (lcE (callI range1F (consA (binE addD (cE (.int 1)) (callE F__law_take (consA (varE 0) (consA (callE F__law_of (consA (varE 0) (consA (tupE (consA (cE (.int 3)) (consA (cE (.int 4)) (consA (cE (.int 8)) (nilA))))) (nilA)))) (nilA))))) (nilA))) (.nm 2) (yesB) (binE addD (cE (.int 1)) (callE F__law_take (consA (varE 0) (consA (varE 1) (nilA))))) [2]) (nilA))))
def F__law_track : FA := runF 1 3 B__law_track
def B__law_reach_v3 : SvS := seqS (asgS (callE lenF (consA (varE 0) (nilA))) (nameT 3)) (seqS (asgS (binE mulD (binE fdivD (varE 2) (varE 3)) (callE sumF (consA (varE 0) (nilA)))) (nameT 4)) (seqS (forS (callI range1F (consA (binE modD (callE intF (consA (varE 2) (nilA))) (varE 3)) (nilA))) (tgT (.nm 5)) (asgS (binE addD (varE 4) (binE ixD (varE 0) (binE modD (callE intF (consA (binE addD (varE 1) (varE 5)) (nilA))) (varE 3)))) (nameT 4))) (retS (varE 4))))
def F__law_reach_v3 : FA := runF 3 6 B__law_reach_v3
def B__law_steps_v4 : SvS := seqS (asgS (callE lenF (consA (varE 0) (nilA))) (nameT 3)) (seqS (asgS (binE modD (callE intF (consA (binE subD (varE 2) (varE 1)) (nilA))) (varE 3)) (nameT 4)) (retS (ifE (tstE (binE gtD (varE 4) (cE (.int 0)))) (varE 4) (varE 3))))
def F__law_steps_v4 : FA := runF 3 5 B__law_steps_v4
def B__law_way_v3 : SvS := retS (callE F__law_reach_v3 (consA (varE 0) (consA (varE 1) (consA (callE F__law_steps_v4 (consA (varE 0) (consA (varE 1) (consA (varE 2) (nilA))))) (nilA)))))
def F__law_way_v3 : FA := runF 3 3 B__law_way_v3
def B__law_course : SvS := seqS (asgS (tupE (consA (mutE (nilA)) (consA (varE 2) (consA (cE (.int 0)) (consA (callE F__law_of (consA (varE 0) (consA (tupE (consA (cE (.int 1)) (consA (cE (.int 4)) (consA (cE (.int 30)) (nilA))))) (nilA)))) (consA (callE F__law_of (consA (varE 0) (consA (tupE (consA (cE (.int 2)) (consA (cE (.int 4)) (consA (cE (.int 8)) (nilA))))) (nilA)))) (nilA))))))) (tupT 5 (consT (nameT 4) (consT (nameT 5) (consT (nameT 6) (consT (nameT 7) (consT (nameT 8) (nilT)))))))) (seqS (forS (callI range1F (consA (cE (.int 60)) (nilA))) (tgT (.nm 9)) (seqS (parS 5 6 (consA (binE addD (binE addD (varE 5) (binE ixD (varE 1) (varE 6))) (callE F__law_take (consA (varE 0) (consA (varE 7) (nilA))))) (consA (binE modD (callE intF (consA (binE addD (varE 6) (cE (.int 1))) (nilA))) (callE lenF (consA (varE 1) (nilA)))) (nilA)))) (ifS (andB (tstE (binE gtD (callE F__law_take (consA (varE 0) (consA (varE 8) (nilA)))) (cE (.int 0)))) (tstE (binE ltD (callE lenF (consA (varE 4) (nilA))) (varE 3)))) (exprS (methLE appF (varE 4) (consA (tupE (consA (varE 5) (consA (varE 6) (nilA)))) (nilA)))) (passS)))) (retS (callE tupleF (consA (sliceE (varE 4) (noO) (someO (callE F__law_take (consA (varE 0) (consA (binE addD (varE 3) (cE (.int 1))) (nilA)))))) (nilA)))))
def F__law_course : FA := runF 4 10 B__law_course
def B__law_well : SvS := seqS (asgS (ifE (tstE (binE ltD (varE 1) (callE lenF (consA (varE 0) (nilA))))) (callE intF (consA (binE ixD (varE 0) (varE 1)) (nilA))) (cE (.int 0))) (nameT 2)) (seqS (asgS (binE addD (cE (.int 52027)) (binE mulD (cE (.int 6971)) (varE 1))) (nameT 3)) (seqS (forS (iterE (binE addD (sliceE (varE 0) (noO) (someO (cE (.int 8)))) (lstE (consA (varE 2) (nilA))))) (tgT (.nm 4)) (asgS (binE modD (callE intF (consA (binE addD (binE addD (binE mulD (varE 3) (cE (.int 44497))) (binE modD (callE intF (consA (varE 4) (nilA))) (cE (.int 2147483587)))) (cE (.int 29))) (nilA))) (cE (.int 2147483563))) (nameT 3))) (retS (mutE (consA (ifE (orB (tstE (binE ltD (varE 2) (cE (.int 0)))) (tstE (binE geD (varE 2) (binE powD (cE (.int 10)) (cE (.int 18)))))) (callE absF (consA (varE 2) (nilA))) (cE (.int 0))) (consA (varE 3) (consA (cE (.int 0)) (nilA))))))))
def F__law_well : FA := runF 2 5 B__law_well
def B_full_rows_of : SvS := retS (lcE (callI range1F (consA (callE lenF (consA (binE ixD (varE 0) (cE (.int 1))) (nilA))) (nilA))) (.nm 1) (yesB) (callE F_full_row_by (consA (varE 0) (consA (varE 1) (nilA)))) [1])
def F_full_rows_of : FA := runF 1 2 B_full_rows_of
def B_windows_in : SvS := seqS (asgS (mutE (nilA)) (nameT 4)) (seqS (forS (callI enzF (consA (varE 3) (consA (sliceE (varE 3) (someO (cE (.int 1))) (noO)) (nilA)))) (tgT (.tp [.nm 5, .tp [.nm 6, .nm 7]])) (ifS (tstE (binE inD (varE 1) (callE F_mats_between (consA (varE 0) (consA (binE ixD (varE 6) (cE (.int 1))) (consA (binE ixD (varE 7) (cE (.int 1))) (nilA))))))) (exprS (methLE appF (varE 4) (consA (tupE (consA (varE 2) (consA (varE 5) (consA (binE addD (binE ixD (varE 6) (cE (.int 0))) (callE F_way_by (consA (varE 0) (consA (binE ixD (varE 6) (cE (.int 1))) (consA (varE 1) (nilA)))))) (consA (binE subD (binE ixD (varE 7) (cE (.int 0))) (callE F_way_by (consA (varE 0) (consA (varE 1) (consA (binE ixD (varE 7) (cE (.int 1))) (nilA)))))) (nilA)))))) (nilA)))) (passS))) (retS (varE 4)))
def F_windows_in : FA := runF 4 8 B_windows_in
def B_check_raced_v2 : SvS := seqS (exprS (callE F_check_track (consA (varE 0) (nilA)))) (exprS (callE F_check_race (consA (varE 0) (consA (varE 1) (nilA)))))
def F_check_raced_v2 : FA := runF 2 2 B_check_raced_v2
def B_check_looked_at : SvS := seqS (exprS (callE F_check_raced_v2 (consA (varE 0) (consA (varE 1) (nilA))))) (exprS (callE F_check_mat (consA (varE 0) (consA (varE 2) (nilA)))))
def F_check_looked_at : FA := runF 3 3 B_check_looked_at
def B__law_race : SvS := seqS (asgS (callE F__law_of (consA (varE 0) (consA (tupE (consA (cE (.int 0)) (consA (cE (.int 7)) (consA (binE addD (binE powD (cE (.int 10)) (cE (.int 20))) (cE (.int 3))) (nilA))))) (nilA)))) (nameT 3)) (retS (tupE (consA (varE 3) (consA (callE tupleF (consA (lcE (callI range1F (consA (binE addD (cE (.int 1)) (callE F__law_take (consA (varE 0) (consA (cE (.int 4)) (nilA))))) (nilA))) (.nm 4) (yesB) (callE F__law_course (consA (varE 0) (consA (varE 1) (consA (varE 3) (consA (varE 2) (nilA)))))) [4]) (nilA))) (nilA)))))
def F__law_race : FA := runF 3 5 B__law_race
def B__law_windows : SvS := seqS (asgS (mutE (nilA)) (nameT 3)) (seqS (forS (callI range1F (consA (callE lenF (consA (binE ixD (varE 1) (cE (.int 1))) (nilA))) (nilA))) (tgT (.nm 4)) (seqS (asgS (callE F__law_full (consA (varE 1) (consA (varE 4) (nilA)))) (nameT 5)) (forS (callI range1F (consA (binE subD (callE lenF (consA (varE 5) (nilA))) (cE (.int 1))) (nilA))) (tgT (.nm 6)) (seqS (asgS (tupE (consA (binE ixD (varE 5) (varE 6)) (consA (binE ixD (varE 5) (binE addD (varE 6) (cE (.int 1)))) (nilA)))) (tupT 2 (consT (tupT 2 (consT (nameT 7) (consT (nameT 8) (nilT)))) (consT (tupT 2 (consT (nameT 9) (consT (nameT 10) (nilT)))) (nilT))))) (seqS (asgS (callE F__law_steps_v4 (consA (varE 0) (consA (varE 8) (consA (varE 2) (nilA))))) (nameT 11)) (ifS (tstE (binE ltD (varE 11) (callE F__law_steps_v4 (consA (varE 0) (consA (varE 8) (consA (varE 10) (nilA))))))) (exprS (methLE appF (varE 3) (consA (tupE (consA (varE 4) (consA (varE 6) (consA (binE addD (varE 7) (callE F__law_reach_v3 (consA (varE 0) (consA (varE 8) (consA (varE 11) (nilA)))))) (consA (binE subD (varE 9) (callE F__law_way_v3 (consA (varE 0) (consA (varE 2) (consA (varE 10) (nilA)))))) (nilA)))))) (nilA)))) (passS))))))) (retS (callE tupleF (consA (callE srtNQ (consA (varE 3) (nilA))) (nilA)))))
def F__law_windows : FA := runF 3 12 B__law_windows
def B_no_extras : SvS := retS (binE mulD (tupE (consA (cE (.int 0)) (nilA))) (binE subD (callE lenF (consA (varE 0) (nilA))) (cE (.int 1))))
def F_no_extras : FA := runF 1 1 B_no_extras
def B_least_misses_by : SvS := seqS (asgS (lcE (iterE (callE F_full_rows_of (consA (varE 1) (nilA)))) (.nm 3) (yesB) (callE F_missed_by (consA (varE 0) (consA (varE 3) (consA (callE F_no_extras (consA (varE 3) (nilA))) (nilA))))) [3]) (nameT 2)) (retS (callE tupleF (consA (lcE (callI range1F (consA (callE lenF (consA (varE 0) (nilA))) (nilA))) (.nm 4) (yesB) (callE sumF (consA (lcE (iterE (varE 2)) (.nm 3) (yesB) (binE ixD (varE 3) (varE 4)) [3]) (nilA))) [4]) (nilA))))
def F_least_misses_by : FA := runF 2 5 B_least_misses_by
def B_least_misses : SvS := seqS (exprS (callE F_check_raced_v2 (consA (varE 0) (consA (varE 1) (nilA))))) (retS (callE F_least_misses_by (consA (varE 0) (consA (varE 1) (nilA)))))
def F_least_misses : FA := runF 2 2 B_least_misses
def B_windows_by : SvS := retS (lc2JE (callI enumF (consA (callE F_full_rows_of (consA (varE 1) (nilA))) (nilA))) (.tp [.nm 3, .nm 4]) (yesB) (iterE (callE F_windows_in (consA (varE 0) (consA (varE 2) (consA (varE 3) (consA (varE 4) (nilA))))))) (.nm 5) (yesB) (varE 5) [3, 4, 5] [5])
def F_windows_by : FA := runF 3 6 B_windows_by
def B_windows : SvS := seqS (exprS (callE F_check_looked_at (consA (varE 0) (consA (varE 1) (consA (varE 2) (nilA)))))) (retS (callE tupleF (consA (callE F_windows_by (consA (varE 0) (consA (varE 1) (consA (varE 2) (nilA))))) (nilA))))
def F_windows : FA := runF 3 3 B_windows
end Lap
namespace Lap
open PySem PySem.Spec PyProof.Rows L2 G
def B_check_raced_misses : SvS := seqS (exprS (callE F_check_track (consA (varE 0) (nilA)))) (exprS (callE F_check_race (consA (varE 0) (consA (varE 1) (nilA)))))
def F_check_raced_misses : FA := runF 2 2 B_check_raced_misses
def B_check_looked_at_v2 : SvS := seqS (exprS (callE F_check_raced_misses (consA (varE 0) (consA (varE 1) (nilA))))) (exprS (callE F_check_mat (consA (varE 0) (consA (varE 2) (nilA)))))
def F_check_looked_at_v2 : FA := runF 3 3 B_check_looked_at_v2
def B_least_misses_v2 : SvS := seqS (exprS (callE F_check_raced_misses (consA (varE 0) (consA (varE 1) (nilA))))) (retS (callE F_least_misses_by (consA (varE 0) (consA (varE 1) (nilA)))))
def F_least_misses_v2 : FA := runF 2 2 B_least_misses_v2
def B_windows_v2 : SvS := seqS (exprS (callE F_check_looked_at_v2 (consA (varE 0) (consA (varE 1) (consA (varE 2) (nilA)))))) (retS (callE tupleF (consA (callE F_windows_by (consA (varE 0) (consA (varE 1) (consA (varE 2) (nilA))))) (nilA))))
def F_windows_v2 : FA := runF 3 3 B_windows_v2
def B__law_missed : SvS := seqS (asgS (lcME (iterE (varE 0)) (.nm 7) (yesB) (cE (.int 0)) [7]) (nameT 3)) (seqS (forS (callI range1F (consA (binE subD (callE lenF (consA (varE 1) (nilA))) (cE (.int 1))) (nilA))) (tgT (.nm 4)) (seqS (parS 5 6 (consA (binE ixD (binE ixD (varE 1) (varE 4)) (cE (.int 1))) (consA (binE ixD (binE ixD (varE 1) (binE addD (varE 4) (cE (.int 1)))) (cE (.int 1))) (nilA)))) (forS (callI range1F (consA (callE lenF (consA (varE 0) (nilA))) (nilA))) (tgT (.nm 7)) (asgS (binE addD (binE addD (binE ixD (varE 3) (varE 7)) (binE ixD (varE 2) (varE 4))) (ifE (tstE (binE ltD (callE F__law_steps_v4 (consA (varE 0) (consA (varE 5) (consA (varE 7) (nilA))))) (callE F__law_steps_v4 (consA (varE 0) (consA (varE 5) (consA (varE 6) (nilA))))))) (cE (.int 1)) (cE (.int 0)))) (subT (varE 3) (varE 7)))))) (retS (callE tupleF (consA (varE 3) (nilA)))))
def F__law_missed : FA := runF 3 8 B__law_missed
def B__law_is_told_v5 : SvS := seqS (asgS (lcE (callI range1F (consA (callE lenF (consA (binE ixD (varE 2) (cE (.int 1))) (nilA))) (nilA))) (.nm 7) (yesB) (callE F__law_full (consA (varE 2) (consA (varE 7) (nilA)))) [7]) (nameT 3)) (seqS (asgS (lcE (iterE (varE 3)) (.nm 8) (yesB) (callE F__law_missed (consA (varE 1) (consA (varE 8) (consA (binE mulD (tupE (consA (cE (.int 0)) (nilA))) (callE lenF (consA (varE 8) (nilA)))) (nilA))))) [8]) (nameT 4)) (seqS (asgS (callE tupleF (consA (lcE (callI range1F (consA (callE lenF (consA (varE 1) (nilA))) (nilA))) (.nm 11) (yesB) (callE sumF (consA (lcE (iterE (varE 4)) (.nm 12) (yesB) (binE ixD (varE 12) (varE 11)) [12]) (nilA))) [11]) (nilA))) (nameT 5)) (seqS (asgS (ifE (tstE (binE eqD (callE F__law_take (consA (varE 0) (consA (cE (.int 2)) (nilA)))) (cE (.int 0)))) (callE F_least_misses_v2 (consA (varE 1) (consA (varE 2) (nilA)))) (callKE F_least_misses_v2 nilA (consA (varE 2) (consA (varE 1) (nilA))) 0 2 [1, 0])) (nameT 6)) (seqS (ifS (orB (notB (tstE (callE F__law_same_v2 (consA (varE 6) (consA (varE 5) (nilA)))))) (notB (tstE (callE allF (consA (lcE (callI range1F (consA (callE lenF (consA (varE 1) (nilA))) (nilA))) (.nm 11) (yesB) (binE eqD (callE lenF (consA (callE F_windows_v2 (consA (varE 1) (consA (varE 2) (consA (varE 11) (nilA))))) (nilA))) (binE ixD (varE 5) (varE 11))) [11]) (nilA)))))) (retS (cE (.bl false))) (passS)) (seqS (forS (callI range1F (consA (callE lenF (consA (varE 3) (nilA))) (nilA))) (tgT (.nm 7)) (seqS (asgS (callE F_full_row (consA (varE 1) (consA (varE 2) (consA (varE 7) (nilA))))) (nameT 8)) (seqS (ifS (orB (notB (tstE (callE F__law_same_v2 (consA (varE 8) (consA (binE ixD (varE 3) (varE 7)) (nilA)))))) (notB (tstE (callE F__law_same_v2 (consA (callE F_missed (consA (varE 1) (consA (varE 8) (consA (binE mulD (tupE (consA (cE (.int 0)) (nilA))) (binE subD (callE lenF (consA (varE 8) (nilA))) (cE (.int 1)))) (nilA))))) (consA (binE ixD (varE 4) (varE 7)) (nilA))))))) (retS (cE (.bl false))) (passS)) (seqS (asgS (callE F_all_most (consA (varE 1) (consA (varE 8) (nilA)))) (nameT 9)) (seqS (asgS (callE tupleF (consA (lcE (iterE (varE 9)) (.nm 13) (yesB) (callE F__law_take (consA (varE 0) (consA (binE addD (callE minF (consA (varE 13) (consA (cE (.int 50)) (nilA)))) (cE (.int 1))) (nilA)))) [13]) (nilA))) (nameT 10)) (ifS (notB (tstE (callE F__law_same_v2 (consA (callE F_missed (consA (varE 1) (consA (varE 8) (consA (varE 10) (nilA))))) (consA (callE F__law_missed (consA (varE 1) (consA (varE 8) (consA (binE addD (varE 10) (tupE (consA (cE (.int 0)) (nilA)))) (nilA))))) (nilA)))))) (retS (cE (.bl false))) (passS))))))) (retS (cE (.bl true))))))))
def F__law_is_told_v5 : FA := runF 3 14 B__law_is_told_v5
def B__law_right_v7 : SvS := seqS (forS (callI range1F (consA (cE (.int 12)) (nilA))) (tgT (.nm 1)) (seqS (asgS (callE F__law_track (consA (varE 0) (nilA))) (nameT 2)) (ifS (notB (tstE (callE F__law_is_told_v5 (consA (varE 0) (consA (varE 2) (consA (callE F__law_race (consA (varE 0) (consA (varE 2) (consA (cE (.int 6)) (nilA))))) (nilA))))))) (retS (cE (.bl false))) (passS)))) (retS (cE (.bl true)))
def F__law_right_v7 : FA := runF 1 3 B__law_right_v7
def B__law_far_v2 : SvS := seqS (asgS (varE 1) (tupT 2 (consT (nameT 2) (consT (nameT 3) (nilT))))) (seqS (asgS (callE F__law_take (consA (varE 0) (consA (callE lenF (consA (varE 3) (nilA))) (nilA)))) (nameT 4)) (seqS (ifS (orB (tstE (binE eqD (binE ixD (varE 3) (varE 4)) (tupE (nilA)))) (tstE (binE gtD (callE F__law_take (consA (varE 0) (consA (cE (.int 3)) (nilA)))) (cE (.int 0))))) (retS (varE 1)) (passS)) (seqS (asgS (binE ixD (binE ixD (varE 3) (varE 4)) (unE negD (cE (.int 1)))) (tupT 2 (consT (nameT 5) (consT (nameT 6) (nilT))))) (retS (tupE (consA (varE 2) (consA (binE addD (binE addD (sliceE (varE 3) (noO) (someO (varE 4))) (tupE (consA (binE addD (sliceE (binE ixD (varE 3) (varE 4)) (noO) (someO (unE negD (cE (.int 1))))) (tupE (consA (tupE (consA (binE addD (binE addD (varE 5) (binE powD (cE (.int 10)) (cE (.int 29)))) (callE F__law_take (consA (varE 0) (consA (cE (.int 999)) (nilA))))) (consA (varE 6) (nilA)))) (nilA)))) (nilA)))) (sliceE (varE 3) (someO (binE addD (varE 4) (cE (.int 1)))) (noO))) (nilA))))))))
def F__law_far_v2 : FA := runF 2 7 B__law_far_v2
def B__law_windows_right : SvS := seqS (forS (callI range1F (consA (cE (.int 12)) (nilA))) (tgT (.nm 1)) (seqS (asgS (callE F__law_track (consA (varE 0) (nilA))) (nameT 2)) (seqS (asgS (callE F__law_far_v2 (consA (varE 0) (consA (callE F__law_race (consA (varE 0) (consA (varE 2) (consA (cE (.int 6)) (nilA))))) (nilA)))) (nameT 3)) (forS (iterE (ifE (tstE (binE ltD (callE lenF (consA (varE 2) (nilA))) (cE (.int 4)))) (listRgE (callE lenF (consA (varE 2) (nilA)))) (lcE (callI range1F (consA (cE (.int 3)) (nilA))) (.nm 13) (yesB) (callE F__law_take (consA (varE 0) (consA (callE lenF (consA (varE 2) (nilA))) (nilA)))) [13]))) (tgT (.nm 4)) (seqS (asgS (callE tupleF (consA (callE F__law_windows (consA (varE 2) (consA (varE 3) (consA (varE 4) (nilA))))) (nilA))) (nameT 5)) (seqS (asgS (ifE (tstE (binE eqD (callE F__law_take (consA (varE 0) (consA (cE (.int 2)) (nilA)))) (cE (.int 0)))) (callE F_windows_v2 (consA (varE 2) (consA (varE 3) (consA (varE 4) (nilA))))) (callKE F_windows_v2 nilA (consA (varE 4) (consA (varE 3) (consA (varE 2) (nilA)))) 0 3 [2, 1, 0])) (nameT 6)) (seqS (ifS (orB (notB (tstE (callE F__law_same_v2 (consA (varE 6) (consA (varE 5) (nilA)))))) (tstE (callE anyF (consA (lcE (iterE (varE 6)) (.nm 14) (yesB) (binE gtD (binE ixD (varE 14) (cE (.int 2))) (binE ixD (varE 14) (cE (.int 3)))) [14]) (nilA))))) (retS (cE (.bl false))) (passS)) (forS (iterE (sliceE (varE 6) (noO) (someO (cE (.int 3))))) (tgT (.tp [.nm 7, .nm 8, .nm 9, .nm 10])) (seqS (asgS (callE F_full_row (consA (varE 2) (consA (varE 3) (consA (varE 7) (nilA))))) (nameT 11)) (seqS (forS (iterE (tupE (consA (varE 9) (consA (varE 10) (nilA))))) (tgT (.nm 12)) (ifS (notB (tstE (callE F__law_same_v2 (consA (lstE (consA (callE F_can_follow (consA (varE 2) (consA (tupE (consA (varE 12) (consA (varE 4) (nilA)))) (consA (binE ixD (varE 11) (varE 8)) (nilA))))) (consA (callE F_can_follow (consA (varE 2) (consA (binE ixD (varE 11) (binE addD (varE 8) (cE (.int 1)))) (consA (tupE (consA (varE 12) (consA (varE 4) (nilA)))) (nilA))))) (nilA)))) (consA (lstE (consA (cE (.bl true)) (consA (cE (.bl true)) (nilA)))) (nilA)))))) (retS (cE (.bl false))) (passS))) (seqS (ifS (ifB (tstE (binE gtD (varE 9) (cE (.int 0)))) (tstE (callE F_can_follow (consA (varE 2) (consA (tupE (consA (binE subD (varE 9) (cE (.int 1))) (consA (varE 4) (nilA)))) (consA (binE ixD (varE 11) (varE 8)) (nilA)))))) (tstE (cE (.bl false)))) (retS (cE (.bl false))) (passS)) (ifS (tstE (callE F_can_follow (consA (varE 2) (consA (binE ixD (varE 11) (binE addD (varE 8) (cE (.int 1)))) (consA (tupE (consA (binE addD (varE 10) (cE (.int 1))) (consA (varE 4) (nilA)))) (nilA)))))) (retS (cE (.bl false))) (passS))))))))))))) (retS (cE (.bl true)))
def F__law_windows_right : FA := runF 1 15 B__law_windows_right
end Lap
namespace K41
open PySem PySem.Spec PyProof.Rows L2 G Lap
set_option maxHeartbeats 4000000
def topS (i : Nat) : Stmt := PySem.Challenge.pw_lapmats_k41_whole_least_misses_and_windo.main.body.getD i (.Pass ⟨0, 0, 0, 0⟩)
structure Bt (mg : Str → Option Value) : Prop where
  list : mg "list" = none
  sum : mg "sum" = none
  len : mg "len" = none
  divmod : mg "divmod" = none
  range : mg "range" = none
  isinstance : mg "isinstance" = none
  int : mg "int" = none
  bool : mg "bool" = none
  tuple : mg "tuple" = none
  MOST_MATS : ∃ t, mg "MOST_MATS" = some (.int 8 t)
  all : mg "all" = none
  MOST_MARKS : ∃ t, mg "MOST_MARKS" = some (.int 30 t)
  enumerate : mg "enumerate" = none
  MOST_RUNNERS : ∃ t, mg "MOST_RUNNERS" = some (.int 6 t)
  zip : mg "zip" = none
  abs : mg "abs" = none
  str : mg "str" = none
  dict : mg "dict" = none
  sorted : mg "sorted" = none
  min : mg "min" = none
  any : mg "any" = none
  max : mg "max" = none
structure Xt (K : PySem.W.Frag) (mg : Str → Option Value) : Prop where
  ns : ∀ x v, PySem.W.nsIn K mainGlobals x = some (some v) → mg x = some v
  r_InvalidBag : RX K mg "InvalidBag" "index"
  r_InvalidExtras : RX K mg "InvalidExtras" "index"
  r_InvalidMark : RX K mg "InvalidMark" "given"
  r_InvalidMat : RX K mg "InvalidMat" "given"
  r_InvalidRace : RX K mg "InvalidRace" "given"
  r_InvalidRunner : RX K mg "InvalidRunner" "given"
  r_InvalidTrack : RX K mg "InvalidTrack" "given"
  r_Unfit : RX0 K mg "Unfit"
abbrev s_round_by : Stmt := topS 11
theorem sc_round_by : FnScope ["track"] ["track"] (defScope s_round_by) := ⟨rfl, rfl, rfl, by decide +kernel, rfl, by decide +kernel, by decide +kernel⟩
abbrev s_sectors_from : Stmt := topS 12
theorem sc_sectors_from : FnScope ["track", "mat"] ["track", "mat"] (defScope s_sectors_from) := ⟨rfl, rfl, rfl, by decide +kernel, rfl, by decide +kernel, by decide +kernel⟩
abbrev s_reach_by : Stmt := topS 13
theorem sc_reach_by : FnScope ["track", "mat", "number", "rounds", "rest"] ["track", "mat", "number"] (defScope s_reach_by) := ⟨rfl, rfl, rfl, by decide +kernel, rfl, by decide +kernel, by decide +kernel⟩
abbrev s_steps_by : Stmt := topS 14
theorem sc_steps_by : FnScope ["track", "one", "other"] ["track", "one", "other"] (defScope s_steps_by) := ⟨rfl, rfl, rfl, by decide +kernel, rfl, by decide +kernel, by decide +kernel⟩
abbrev s_way_by : Stmt := topS 15
theorem sc_way_by : FnScope ["track", "one", "other"] ["track", "one", "other"] (defScope s_way_by) := ⟨rfl, rfl, rfl, by decide +kernel, rfl, by decide +kernel, by decide +kernel⟩
abbrev s_can_follow_by : Stmt := topS 17
theorem sc_can_follow_by : FnScope ["track", "mark", "other"] ["track", "mark", "other"] (defScope s_can_follow_by) := ⟨rfl, rfl, rfl, by decide +kernel, rfl, by decide +kernel, by decide +kernel⟩
abbrev s_wrong_marks_by : Stmt := topS 18
theorem sc_wrong_marks_by : FnScope ["track", "bag", "at"] ["track", "bag"] (defScope s_wrong_marks_by) := ⟨rfl, rfl, rfl, by decide +kernel, rfl, by decide +kernel, by decide +kernel⟩
abbrev s_is_row_by : Stmt := topS 19
theorem sc_is_row_by : FnScope ["track", "bag"] ["track", "bag"] (defScope s_is_row_by) := ⟨rfl, rfl, rfl, by decide +kernel, rfl, by decide +kernel, by decide +kernel⟩
abbrev s_is_whole : Stmt := topS 21
theorem sc_is_whole : FnScope ["value"] ["value"] (defScope s_is_whole) := ⟨rfl, rfl, rfl, by decide +kernel, rfl, by decide +kernel, by decide +kernel⟩
abbrev s_is_between : Stmt := topS 22
theorem sc_is_between : FnScope ["value", "low", "high"] ["value", "low", "high"] (defScope s_is_between) := ⟨rfl, rfl, rfl, by decide +kernel, rfl, by decide +kernel, by decide +kernel⟩
abbrev s_is_up_to : Stmt := topS 23
theorem sc_is_up_to : FnScope ["value", "most"] ["value", "most"] (defScope s_is_up_to) := ⟨rfl, rfl, rfl, by decide +kernel, rfl, by decide +kernel, by decide +kernel⟩
abbrev s_is_from : Stmt := topS 24
theorem sc_is_from : FnScope ["value", "least"] ["value", "least"] (defScope s_is_from) := ⟨rfl, rfl, rfl, by decide +kernel, rfl, by decide +kernel, by decide +kernel⟩
abbrev s_is_tuple_up_to : Stmt := topS 25
theorem sc_is_tuple_up_to : FnScope ["value", "low", "high"] ["value", "low", "high"] (defScope s_is_tuple_up_to) := ⟨rfl, rfl, rfl, by decide +kernel, rfl, by decide +kernel, by decide +kernel⟩
abbrev s_is_tuple_of : Stmt := topS 26
theorem sc_is_tuple_of : FnScope ["value", "many"] ["value", "many"] (defScope s_is_tuple_of) := ⟨rfl, rfl, rfl, by decide +kernel, rfl, by decide +kernel, by decide +kernel⟩
abbrev s_is_pair : Stmt := topS 27
theorem sc_is_pair : FnScope ["value"] ["value"] (defScope s_is_pair) := ⟨rfl, rfl, rfl, by decide +kernel, rfl, by decide +kernel, by decide +kernel⟩
abbrev s_is_track_of : Stmt := topS 32
theorem sc_is_track_of : FnScope ["value", "each"] ["value"] (defScope s_is_track_of) := ⟨rfl, rfl, rfl, by decide +kernel, rfl, by decide +kernel, by decide +kernel⟩
abbrev s_is_mat_of : Stmt := topS 33
theorem sc_is_mat_of : FnScope ["track", "value"] ["track", "value"] (defScope s_is_mat_of) := ⟨rfl, rfl, rfl, by decide +kernel, rfl, by decide +kernel, by decide +kernel⟩
abbrev s_is_mark_of : Stmt := topS 34
theorem sc_is_mark_of : FnScope ["track", "value"] ["track", "value"] (defScope s_is_mark_of) := ⟨rfl, rfl, rfl, by decide +kernel, rfl, by decide +kernel, by decide +kernel⟩
abbrev s_wrong_in_bag : Stmt := topS 35
theorem sc_wrong_in_bag : FnScope ["track", "value", "index", "mark"] ["track", "value"] (defScope s_wrong_in_bag) := ⟨rfl, rfl, rfl, by decide +kernel, rfl, by decide +kernel, by decide +kernel⟩
abbrev s_is_bag_of : Stmt := topS 36
theorem sc_is_bag_of : FnScope ["track", "value"] ["track", "value"] (defScope s_is_bag_of) := ⟨rfl, rfl, rfl, by decide +kernel, rfl, by decide +kernel, by decide +kernel⟩
abbrev s_is_full_row : Stmt := topS 37
theorem sc_is_full_row : FnScope ["track", "start", "value"] ["track", "start", "value"] (defScope s_is_full_row) := ⟨rfl, rfl, rfl, by decide +kernel, rfl, by decide +kernel, by decide +kernel⟩
abbrev s_is_race_of : Stmt := topS 38
theorem sc_is_race_of : FnScope ["track", "value", "row"] ["track", "value"] (defScope s_is_race_of) := ⟨rfl, rfl, rfl, by decide +kernel, rfl, by decide +kernel, by decide +kernel⟩
abbrev s_is_runner_of : Stmt := topS 39
theorem sc_is_runner_of : FnScope ["race", "value"] ["race", "value"] (defScope s_is_runner_of) := ⟨rfl, rfl, rfl, by decide +kernel, rfl, by decide +kernel, by decide +kernel⟩
abbrev s_check_track : Stmt := topS 40
theorem sc_check_track : FnScope ["track"] ["track"] (defScope s_check_track) := ⟨rfl, rfl, rfl, by decide +kernel, rfl, by decide +kernel, by decide +kernel⟩
abbrev s_check_mat : Stmt := topS 41
theorem sc_check_mat : FnScope ["track", "mat"] ["track", "mat"] (defScope s_check_mat) := ⟨rfl, rfl, rfl, by decide +kernel, rfl, by decide +kernel, by decide +kernel⟩
abbrev s_check_mark : Stmt := topS 42
theorem sc_check_mark : FnScope ["track", "mark"] ["track", "mark"] (defScope s_check_mark) := ⟨rfl, rfl, rfl, by decide +kernel, rfl, by decide +kernel, by decide +kernel⟩
abbrev s_check_bag : Stmt := topS 43
theorem sc_check_bag : FnScope ["track", "bag", "index"] ["track", "bag"] (defScope s_check_bag) := ⟨rfl, rfl, rfl, by decide +kernel, rfl, by decide +kernel, by decide +kernel⟩
abbrev s_check_fit_row : Stmt := topS 44
theorem sc_check_fit_row : FnScope ["track", "row"] ["track", "row"] (defScope s_check_fit_row) := ⟨rfl, rfl, rfl, by decide +kernel, rfl, by decide +kernel, by decide +kernel⟩
abbrev s_check_race : Stmt := topS 45
theorem sc_check_race : FnScope ["track", "race"] ["track", "race"] (defScope s_check_race) := ⟨rfl, rfl, rfl, by decide +kernel, rfl, by decide +kernel, by decide +kernel⟩
abbrev s_check_runner : Stmt := topS 46
theorem sc_check_runner : FnScope ["race", "runner"] ["race", "runner"] (defScope s_check_runner) := ⟨rfl, rfl, rfl, by decide +kernel, rfl, by decide +kernel, by decide +kernel⟩
abbrev s_extra_by : Stmt := topS 48
theorem sc_extra_by : FnScope ["track", "one", "two"] ["track", "one", "two"] (defScope s_extra_by) := ⟨rfl, rfl, rfl, by decide +kernel, rfl, by decide +kernel, by decide +kernel⟩
abbrev s_extras_by : Stmt := topS 49
theorem sc_extras_by : FnScope ["track", "row", "one", "two"] ["track", "row"] (defScope s_extras_by) := ⟨rfl, rfl, rfl, by decide +kernel, rfl, by decide +kernel, by decide +kernel⟩
abbrev s_wrong_in_extras : Stmt := topS 50
theorem sc_wrong_in_extras : FnScope ["track", "row", "value", "most", "index", "each"] ["track", "row", "value"] (defScope s_wrong_in_extras) := ⟨rfl, rfl, rfl, by decide +kernel, rfl, by decide +kernel, by decide +kernel⟩
abbrev s_mats_between : Stmt := topS 51
theorem sc_mats_between : FnScope ["track", "one", "other", "step"] ["track", "one", "other"] (defScope s_mats_between) := ⟨rfl, rfl, rfl, by decide +kernel, rfl, by decide +kernel, by decide +kernel⟩
abbrev s_missed_by : Stmt := topS 52
theorem sc_missed_by : FnScope ["track", "row", "extras", "found", "one", "two", "mat"] ["track", "row", "extras"] (defScope s_missed_by) := ⟨rfl, rfl, rfl, by decide +kernel, rfl, by decide +kernel, by decide +kernel⟩
abbrev s_full_row_by : Stmt := topS 54
theorem sc_full_row_by : FnScope ["race", "runner"] ["race", "runner"] (defScope s_full_row_by) := ⟨rfl, rfl, rfl, by decide +kernel, rfl, by decide +kernel, by decide +kernel⟩
abbrev s_full_rows_of : Stmt := topS 56
theorem sc_full_rows_of : FnScope ["race", "runner"] ["race"] (defScope s_full_rows_of) := ⟨rfl, rfl, rfl, by decide +kernel, rfl, by decide +kernel, by decide +kernel⟩
abbrev s_no_extras : Stmt := topS 57
theorem sc_no_extras : FnScope ["row"] ["row"] (defScope s_no_extras) := ⟨rfl, rfl, rfl, by decide +kernel, rfl, by decide +kernel, by decide +kernel⟩
abbrev s_least_misses_by : Stmt := topS 58
theorem sc_least_misses_by : FnScope ["track", "race", "rows", "row", "mat"] ["track", "race"] (defScope s_least_misses_by) := ⟨rfl, rfl, rfl, by decide +kernel, rfl, by decide +kernel, by decide +kernel⟩
abbrev s_windows_in : Stmt := topS 59
theorem sc_windows_in : FnScope ["track", "mat", "runner", "row", "found", "gap", "one", "two"] ["track", "mat", "runner", "row"] (defScope s_windows_in) := ⟨rfl, rfl, rfl, by decide +kernel, rfl, by decide +kernel, by decide +kernel⟩
abbrev s_windows_by : Stmt := topS 60
theorem sc_windows_by : FnScope ["track", "race", "mat", "runner", "row", "window"] ["track", "race", "mat"] (defScope s_windows_by) := ⟨rfl, rfl, rfl, by decide +kernel, rfl, by decide +kernel, by decide +kernel⟩
abbrev s_check_raced_misses : Stmt := topS 62
theorem sc_check_raced_misses : FnScope ["track", "race"] ["track", "race"] (defScope s_check_raced_misses) := ⟨rfl, rfl, rfl, by decide +kernel, rfl, by decide +kernel, by decide +kernel⟩
abbrev s_check_looked_at : Stmt := topS 64
theorem sc_check_looked_at : FnScope ["track", "race", "mat"] ["track", "race", "mat"] (defScope s_check_looked_at) := ⟨rfl, rfl, rfl, by decide +kernel, rfl, by decide +kernel, by decide +kernel⟩
abbrev s_least_misses : Stmt := topS 65
theorem sc_least_misses : FnScope ["track", "race"] ["track", "race"] (defScope s_least_misses) := ⟨rfl, rfl, rfl, by decide +kernel, rfl, by decide +kernel, by decide +kernel⟩
abbrev s_windows : Stmt := topS 66
theorem sc_windows : FnScope ["track", "race", "mat"] ["track", "race", "mat"] (defScope s_windows) := ⟨rfl, rfl, rfl, by decide +kernel, rfl, by decide +kernel, by decide +kernel⟩
abbrev s_check_marks : Stmt := topS 68
theorem sc_check_marks : FnScope ["track", "row"] ["track", "row"] (defScope s_check_marks) := ⟨rfl, rfl, rfl, by decide +kernel, rfl, by decide +kernel, by decide +kernel⟩
abbrev s_all_most : Stmt := topS 69
theorem sc_all_most : FnScope ["track", "row"] ["track", "row"] (defScope s_all_most) := ⟨rfl, rfl, rfl, by decide +kernel, rfl, by decide +kernel, by decide +kernel⟩
abbrev s_missed : Stmt := topS 70
theorem sc_missed : FnScope ["track", "row", "extras", "index"] ["track", "row", "extras"] (defScope s_missed) := ⟨rfl, rfl, rfl, by decide +kernel, rfl, by decide +kernel, by decide +kernel⟩
abbrev s_can_follow : Stmt := topS 72
theorem sc_can_follow : FnScope ["track", "mark", "other"] ["track", "mark", "other"] (defScope s_can_follow) := ⟨rfl, rfl, rfl, by decide +kernel, rfl, by decide +kernel, by decide +kernel⟩
abbrev s_check_raced_races : Stmt := topS 74
theorem sc_check_raced_races : FnScope ["track", "race", "runner"] ["track", "race", "runner"] (defScope s_check_raced_races) := ⟨rfl, rfl, rfl, by decide +kernel, rfl, by decide +kernel, by decide +kernel⟩
abbrev s_full_row : Stmt := topS 76
theorem sc_full_row : FnScope ["track", "race", "runner"] ["track", "race", "runner"] (defScope s_full_row) := ⟨rfl, rfl, rfl, by decide +kernel, rfl, by decide +kernel, by decide +kernel⟩
abbrev s__law_well : Stmt := topS 78
theorem sc__law_well : FnScope ["script", "lap", "own", "stir", "each"] ["script", "lap"] (defScope s__law_well) := ⟨rfl, rfl, rfl, by decide +kernel, rfl, by decide +kernel, by decide +kernel⟩
abbrev s__law_take : Stmt := topS 79
theorem sc__law_take : FnScope ["well", "many", "digit"] ["well", "many"] (defScope s__law_take) := ⟨rfl, rfl, rfl, by decide +kernel, rfl, by decide +kernel, by decide +kernel⟩
abbrev s__law_of : Stmt := topS 80
theorem sc__law_of : FnScope ["well", "things"] ["well", "things"] (defScope s__law_of) := ⟨rfl, rfl, rfl, by decide +kernel, rfl, by decide +kernel, by decide +kernel⟩
abbrev s__law_same : Stmt := topS 81
theorem sc__law_same : FnScope ["told", "due", "at"] ["told", "due"] (defScope s__law_same) := ⟨rfl, rfl, rfl, by decide +kernel, rfl, by decide +kernel, by decide +kernel⟩
abbrev s__law_track : Stmt := topS 82
theorem sc__law_track : FnScope ["well", "wide", "mat"] ["well"] (defScope s__law_track) := ⟨rfl, rfl, rfl, by decide +kernel, rfl, by decide +kernel, by decide +kernel⟩
abbrev s__law_reach : Stmt := topS 83
theorem sc__law_reach : FnScope ["track", "mat", "number", "many", "found", "k"] ["track", "mat", "number"] (defScope s__law_reach) := ⟨rfl, rfl, rfl, by decide +kernel, rfl, by decide +kernel, by decide +kernel⟩
abbrev s__law_steps : Stmt := topS 84
theorem sc__law_steps : FnScope ["track", "one", "other", "many", "found"] ["track", "one", "other"] (defScope s__law_steps) := ⟨rfl, rfl, rfl, by decide +kernel, rfl, by decide +kernel, by decide +kernel⟩
abbrev s__law_way : Stmt := topS 85
theorem sc__law_way : FnScope ["track", "one", "other"] ["track", "one", "other"] (defScope s__law_way) := ⟨rfl, rfl, rfl, by decide +kernel, rfl, by decide +kernel, by decide +kernel⟩
abbrev s__law_course : Stmt := topS 86
theorem sc__law_course : FnScope ["well", "track", "start", "most", "found", "time", "mat", "slow", "share", "turn"] ["well", "track", "start", "most"] (defScope s__law_course) := ⟨rfl, rfl, rfl, by decide +kernel, rfl, by decide +kernel, by decide +kernel⟩
abbrev s__law_race : Stmt := topS 87
theorem sc__law_race : FnScope ["well", "track", "most", "start", "runner"] ["well", "track", "most"] (defScope s__law_race) := ⟨rfl, rfl, rfl, by decide +kernel, rfl, by decide +kernel, by decide +kernel⟩
abbrev s__law_full : Stmt := topS 88
theorem sc__law_full : FnScope ["race", "runner"] ["race", "runner"] (defScope s__law_full) := ⟨rfl, rfl, rfl, by decide +kernel, rfl, by decide +kernel, by decide +kernel⟩
abbrev s__law_windows : Stmt := topS 89
theorem sc__law_windows : FnScope ["track", "race", "mat", "found", "runner", "row", "gap", "time", "one", "later", "two", "steps"] ["track", "race", "mat"] (defScope s__law_windows) := ⟨rfl, rfl, rfl, by decide +kernel, rfl, by decide +kernel, by decide +kernel⟩
abbrev s__law_missed : Stmt := topS 90
theorem sc__law_missed : FnScope ["track", "row", "extras", "found", "gap", "one", "two", "mat"] ["track", "row", "extras"] (defScope s__law_missed) := ⟨rfl, rfl, rfl, by decide +kernel, rfl, by decide +kernel, by decide +kernel⟩
abbrev s__law_is_told : Stmt := topS 91
theorem sc__law_is_told : FnScope ["well", "track", "race", "rows", "parts", "due", "told", "runner", "row", "most", "extras", "mat", "part", "number"] ["well", "track", "race"] (defScope s__law_is_told) := ⟨rfl, rfl, rfl, by decide +kernel, rfl, by decide +kernel, by decide +kernel⟩
abbrev s__law_right : Stmt := topS 92
theorem sc__law_right : FnScope ["well", "turn", "track"] ["well"] (defScope s__law_right) := ⟨rfl, rfl, rfl, by decide +kernel, rfl, by decide +kernel, by decide +kernel⟩
abbrev s__law_far : Stmt := topS 93
theorem sc__law_far : FnScope ["well", "race", "start", "rows", "at", "time", "mat"] ["well", "race"] (defScope s__law_far) := ⟨rfl, rfl, rfl, by decide +kernel, rfl, by decide +kernel, by decide +kernel⟩
abbrev s__law_windows_right : Stmt := topS 94
theorem sc__law_windows_right : FnScope ["well", "turn", "track", "race", "mat", "due", "told", "runner", "gap", "low", "high", "row", "time", "each", "window"] ["well"] (defScope s__law_windows_right) := ⟨rfl, rfl, rfl, by decide +kernel, rfl, by decide +kernel, by decide +kernel⟩
abbrev s_law : Stmt := topS 95
theorem sc_law : FnScope ["script", "lap", "well"] ["script"] (defScope s_law) := ⟨rfl, rfl, rfl, by decide +kernel, rfl, by decide +kernel, by decide +kernel⟩
def B_law : SvS := seqS (forS (callI range1F (consA (callE maxF (consA (cE (.int 2)) (consA (callE minF (consA (callE lenF (consA (varE 0) (nilA))) (consA (cE (.int 3)) (nilA)))) (nilA)))) (nilA))) (tgT (.nm 1)) (seqS (asgS (callE F__law_well (consA (varE 0) (consA (varE 1) (nilA)))) (nameT 2)) (ifS (orB (notB (tstE (callE F__law_right_v7 (consA (varE 2) (nilA))))) (notB (tstE (callE F__law_windows_right (consA (varE 2) (nilA)))))) (retS (cE (.bl false))) (passS)))) (retS (cE (.bl true)))
def F_law : FA := runF 1 3 B_law
section
variable {P : Program} {w : World} {K : PySem.W.Frag} {mg : Str → Option Value} {base : Heap}
theorem ok_round_by (T : Bt mg) (XX : Xt K mg) (S : Std K mg "round_by" "round_by" s_round_by) : Kn P w K mg base "round_by" s_round_by ["track"] 1 F_round_by := by
  refine kn_of (N := ["track"]) (k := 0) (B := B_round_by) S sc_round_by rfl rfl (fun _ _ _ _ _ _ us hl => match us, hl with | [_], _ => rfl) fun f cdv A outer s' H E hr => ?_
  have nd := sc_round_by.nd
  have tk : Takes (cxOf (L2.CX P w) P w K mg base ["track"] "round_by" (defScope s_round_by) f cdv A outer s' H E) (Wd E) := takes_of rfl rfl rfl rfl
  exact s_one (s_ret (g_blt (pe_callB (cq_sum rfl) (by rfl) T.sum bt_sum (g_cons (g_blt (pe_callTy call_list_of (by rfl) T.list bt_list (g_cons (g_var 0 (pv 0)) (g_nil) rfl)) v_list) (g_nil) rfl)) v_sum))
theorem ok_sectors_from (T : Bt mg) (XX : Xt K mg) (S : Std K mg "sectors_from" "sectors_from" s_sectors_from) : Kn P w K mg base "sectors_from" s_sectors_from ["track", "mat"] 1 F_sectors_from := by
  refine kn_of (N := ["track", "mat"]) (k := 0) (B := B_sectors_from) S sc_sectors_from rfl rfl (fun _ _ _ _ _ _ us hl => match us, hl with | [_, _], _ => rfl) fun f cdv A outer s' H E hr => ?_
  have nd := sc_sectors_from.nd
  have tk : Takes (cxOf (L2.CX P w) P w K mg base ["track", "mat"] "sectors_from" (defScope s_sectors_from) f cdv A outer s' H E) (Wd E) := takes_of rfl rfl rfl rfl
  exact s_one (s_ret (g_lst (g_star (g_slice (g_var 0 (pv 0)) (g_some (g_var 1 (pv 1))) (g_no)) (g_star (g_slice (g_var 0 (pv 0)) (g_no) (g_some (g_var 1 (pv 1)))) (g_nil) rfl) rfl)))
theorem ok_reach_by (T : Bt mg) (XX : Xt K mg) (S : Std K mg "reach_by" "reach_by" s_reach_by) (c_round_by : Kn P w K mg base "round_by" s_round_by ["track"] 1 F_round_by) (c_sectors_from : Kn P w K mg base "sectors_from" s_sectors_from ["track", "mat"] 1 F_sectors_from) : Kn P w K mg base "reach_by" s_reach_by ["track", "mat", "number"] 2 F_reach_by := by
  refine kn_of (N := ["track", "mat", "number", "rounds", "rest"]) (k := 1) (B := B_reach_by) S sc_reach_by rfl rfl (fun _ _ _ _ _ _ us hl => match us, hl with | [_, _, _], _ => rfl) fun f cdv A outer s' H E hr => ?_
  have nd := sc_reach_by.nd
  have tk : Takes (cxOf (L2.CX P w) P w K mg base ["track", "mat", "number", "rounds", "rest"] "reach_by" (defScope s_reach_by) f cdv A outer s' H E) (Wd E) := takes_of rfl rfl rfl rfl
  exact s_cons (s_asg (ps_asg (g_blt (pe_callB c_divmod (by rfl) T.divmod bt_divmod (g_cons (g_var 2 (pv 2)) (g_cons (g_blt (pe_callB c_len (by rfl) T.len bt_len (g_cons (g_var 0 (pv 0)) (g_nil) rfl)) v_len) (g_nil) rfl) rfl)) v_divmod) (t_tup (pg_tup rfl (t_cons (t_name (pg_name (i := 3) nd rfl (.inl rfl))) (t_cons (t_name (pg_name (i := 4) nd rfl (.inl rfl))) (t_nil) rfl) rfl))))) (s_one (s_ret (g_op o_add v_add (g_op o_mul v_mul (g_var 3 (pv 3)) (g_calln c_round_by (hr.mono (by decide)) (by rfl) tk (g_cons (g_var 0 (pv 0)) (g_nil) rfl) (by decide) rfl rfl)) (g_blt (pe_callB (cq_sum rfl) (by rfl) T.sum bt_sum (g_cons (g_slice (g_calln c_sectors_from (hr.mono (by decide)) (by rfl) tk (g_cons (g_var 0 (pv 0)) (g_cons (g_var 1 (pv 1)) (g_nil) rfl) rfl) (by decide) rfl rfl) (g_no) (g_some (g_var 4 (pv 4)))) (g_nil) rfl)) v_sum))))
theorem ok_steps_by (T : Bt mg) (XX : Xt K mg) (S : Std K mg "steps_by" "steps_by" s_steps_by) : Kn P w K mg base "steps_by" s_steps_by ["track", "one", "other"] 1 F_steps_by := by
  refine kn_of (N := ["track", "one", "other"]) (k := 0) (B := B_steps_by) S sc_steps_by rfl rfl (fun _ _ _ _ _ _ us hl => match us, hl with | [_, _, _], _ => rfl) fun f cdv A outer s' H E hr => ?_
  have nd := sc_steps_by.nd
  have tk : Takes (cxOf (L2.CX P w) P w K mg base ["track", "one", "other"] "steps_by" (defScope s_steps_by) f cdv A outer s' H E) (Wd E) := takes_of rfl rfl rfl rfl
  exact s_one (s_ret (g_op o_add v_add (g_op op_mod v_mod (g_op op_sub v_sub (g_op op_sub v_sub (g_var 2 (pv 2)) (g_var 1 (pv 1))) (g_int)) (g_blt (pe_callB c_len (by rfl) T.len bt_len (g_cons (g_var 0 (pv 0)) (g_nil) rfl)) v_len)) (g_int)))
theorem ok_way_by (T : Bt mg) (XX : Xt K mg) (S : Std K mg "way_by" "way_by" s_way_by) (c_reach_by : Kn P w K mg base "reach_by" s_reach_by ["track", "mat", "number"] 2 F_reach_by) (c_steps_by : Kn P w K mg base "steps_by" s_steps_by ["track", "one", "other"] 1 F_steps_by) : Kn P w K mg base "way_by" s_way_by ["track", "one", "other"] 3 F_way_by := by
  refine kn_of (N := ["track", "one", "other"]) (k := 2) (B := B_way_by) S sc_way_by rfl rfl (fun _ _ _ _ _ _ us hl => match us, hl with | [_, _, _], _ => rfl) fun f cdv A outer s' H E hr => ?_
  have nd := sc_way_by.nd
  have tk : Takes (cxOf (L2.CX P w) P w K mg base ["track", "one", "other"] "way_by" (defScope s_way_by) f cdv A outer s' H E) (Wd E) := takes_of rfl rfl rfl rfl
  exact s_one (s_ret (g_calln c_reach_by (hr.mono (by decide)) (by rfl) tk (g_cons (g_var 0 (pv 0)) (g_cons (g_var 1 (pv 1)) (g_cons (g_calln c_steps_by (hr.mono (by decide)) (by rfl) tk (g_cons (g_var 0 (pv 0)) (g_cons (g_var 1 (pv 1)) (g_cons (g_var 2 (pv 2)) (g_nil) rfl) rfl) rfl) (by decide) rfl rfl) (g_nil) rfl) rfl) rfl) (by decide) rfl rfl))
theorem ok_can_follow_by (T : Bt mg) (XX : Xt K mg) (S : Std K mg "can_follow_by" "can_follow_by" s_can_follow_by) (c_way_by : Kn P w K mg base "way_by" s_way_by ["track", "one", "other"] 3 F_way_by) : Kn P w K mg base "can_follow_by" s_can_follow_by ["track", "mark", "other"] 4 F_can_follow_by := by
  refine kn_of (N := ["track", "mark", "other"]) (k := 3) (B := B_can_follow_by) S sc_can_follow_by rfl rfl (fun _ _ _ _ _ _ us hl => match us, hl with | [_, _, _], _ => rfl) fun f cdv A outer s' H E hr => ?_
  have nd := sc_can_follow_by.nd
  have tk : Takes (cxOf (L2.CX P w) P w K mg base ["track", "mark", "other"] "can_follow_by" (defScope s_can_follow_by) f cdv A outer s' H E) (Wd E) := takes_of rfl rfl rfl rfl
  exact s_one (s_ret (g_cmp op_ge (v_cmpI _) (g_op op_sub v_sub (g_ix (g_var 1 (pv 1)) (g_int) (fun _ _ => rfl)) (g_ix (g_var 2 (pv 2)) (g_int) (fun _ _ => rfl))) (g_calln c_way_by (hr.mono (by decide)) (by rfl) tk (g_cons (g_var 0 (pv 0)) (g_cons (g_ix (g_var 2 (pv 2)) (g_int) (fun _ _ => rfl)) (g_cons (g_ix (g_var 1 (pv 1)) (g_int) (fun _ _ => rfl)) (g_nil) rfl) rfl) rfl) (by decide) rfl rfl) (nomark _)))
theorem ok_wrong_marks_by (T : Bt mg) (XX : Xt K mg) (S : Std K mg "wrong_marks_by" "wrong_marks_by" s_wrong_marks_by) (c_can_follow_by : Kn P w K mg base "can_follow_by" s_can_follow_by ["track", "mark", "other"] 4 F_can_follow_by) : Kn P w K mg base "wrong_marks_by" s_wrong_marks_by ["track", "bag"] 5 F_wrong_marks_by := by
  refine kn_of (N := ["track", "bag", "at"]) (k := 4) (B := B_wrong_marks_by) S sc_wrong_marks_by rfl rfl (fun _ _ _ _ _ _ us hl => match us, hl with | [_, _], _ => rfl) fun f cdv A outer s' H E hr => ?_
  have nd := sc_wrong_marks_by.nd
  have tk : Takes (cxOf (L2.CX P w) P w K mg base ["track", "bag", "at"] "wrong_marks_by" (defScope s_wrong_marks_by) f cdv A outer s' H E) (Wd E) := takes_of rfl rfl rfl rfl
  exact s_one (s_ret (g_lc (by decide) (pe_lc (own := [("at", 2)]) rfl nd (g_range2 (pi_range2 (by rfl) T.range (g_cons (g_int) (g_cons (g_blt (pe_callB c_len (by rfl) T.len bt_len (g_cons (g_var 1 (pv 1)) (g_nil) rfl)) v_len) (g_nil) rfl) rfl))) (blkOk_by (N := ["track", "bag", "at"]) (sc := defScope s_wrong_marks_by) (by decide +kernel)) (fun _ _ _ _ _ => pg_name (i := 2) nd rfl (by first | exact .inl rfl | exact .inr rfl)) (fun _ _ _ _ _ => g_ifs (g_tnot (g_tval (g_calln c_can_follow_by (hr.mono (by decide)) (by rfl) takes0 (g_cons (g_var 0 (pv 0)) (g_cons (g_ix (g_var 1 (pv 1)) (g_var 2 (pv 2)) (fun _ _ => rfl)) (g_cons (g_ix (g_var 1 (pv 1)) (g_op op_sub v_sub (g_var 2 (pv 2)) (g_int)) (fun _ _ => rfl)) (g_nil) rfl) rfl) rfl) (by decide) rfl rfl) (by intro _; rfl)))) (fun _ _ _ _ _ => g_var 2 (pv 2)))))
theorem ok_is_row_by (T : Bt mg) (XX : Xt K mg) (S : Std K mg "is_row_by" "is_row_by" s_is_row_by) (c_wrong_marks_by : Kn P w K mg base "wrong_marks_by" s_wrong_marks_by ["track", "bag"] 5 F_wrong_marks_by) : Kn P w K mg base "is_row_by" s_is_row_by ["track", "bag"] 6 F_is_row_by := by
  refine kn_of (N := ["track", "bag"]) (k := 5) (B := B_is_row_by) S sc_is_row_by rfl rfl (fun _ _ _ _ _ _ us hl => match us, hl with | [_, _], _ => rfl) fun f cdv A outer s' H E hr => ?_
  have nd := sc_is_row_by.nd
  have tk : Takes (cxOf (L2.CX P w) P w K mg base ["track", "bag"] "is_row_by" (defScope s_is_row_by) f cdv A outer s' H E) (Wd E) := takes_of rfl rfl rfl rfl
  exact s_one (s_ret (g_cmp (o_eq hr.units) v_eq (g_calln c_wrong_marks_by (hr.mono (by decide)) (by rfl) tk (g_cons (g_var 0 (pv 0)) (g_cons (g_var 1 (pv 1)) (g_nil) rfl) rfl) (by decide) rfl rfl) (g_lst (g_nil)) (nomark _)))
theorem ok_is_whole (T : Bt mg) (XX : Xt K mg) (S : Std K mg "is_whole" "is_whole" s_is_whole) : Kn P w K mg base "is_whole" s_is_whole ["value"] 1 F_is_whole := by
  refine kn_of (N := ["value"]) (k := 0) (B := B_is_whole) S sc_is_whole rfl rfl (fun _ _ _ _ _ _ us hl => match us, hl with | [_], _ => rfl) fun f cdv A outer s' H E hr => ?_
  have nd := sc_is_whole.nd
  have tk : Takes (cxOf (L2.CX P w) P w K mg base ["value"] "is_whole" (defScope s_is_whole) f cdv A outer s' H E) (Wd E) := takes_of rfl rfl rfl rfl
  exact s_one (s_ret (g_vand (g_isi .int (g_var 0 (pv 0)) (fun h => pe_callB call_isi (by rfl) T.isinstance bt_isinstance (pa_cons h (pa_cons (pe_bltn (by rfl) T.int bt_int rfl) pa_nil)))) (g_one (g_vnot (g_isi .bl (g_var 0 (pv 0)) (fun h => pe_callB call_isi (by rfl) T.isinstance bt_isinstance (pa_cons h (pa_cons (pe_bltn (by rfl) T.bool bt_bool rfl) pa_nil))))))))
theorem ok_is_between (T : Bt mg) (XX : Xt K mg) (S : Std K mg "is_between" "is_between" s_is_between) (c_is_whole : Kn P w K mg base "is_whole" s_is_whole ["value"] 1 F_is_whole) : Kn P w K mg base "is_between" s_is_between ["value", "low", "high"] 2 F_is_between := by
  refine kn_of (N := ["value", "low", "high"]) (k := 1) (B := B_is_between) S sc_is_between rfl rfl (fun _ _ _ _ _ _ us hl => match us, hl with | [_, _, _], _ => rfl) fun f cdv A outer s' H E hr => ?_
  have nd := sc_is_between.nd
  have tk : Takes (cxOf (L2.CX P w) P w K mg base ["value", "low", "high"] "is_between" (defScope s_is_between) f cdv A outer s' H E) (Wd E) := takes_of rfl rfl rfl rfl
  exact s_one (s_ret (g_vand (g_calln c_is_whole (hr.mono (by decide)) (by rfl) tk (g_cons (g_var 0 (pv 0)) (g_nil) rfl) (by decide) rfl rfl) (g_one (g_chain (pe_chain (o_le hr.units0) (o_le hr.units0) (g_var 1 (pv 1)) (g_var 0 (pv 0)) (g_var 2 (pv 2))) v_le v_le))))
theorem ok_is_up_to (T : Bt mg) (XX : Xt K mg) (S : Std K mg "is_up_to" "is_up_to" s_is_up_to) (c_is_between : Kn P w K mg base "is_between" s_is_between ["value", "low", "high"] 2 F_is_between) : Kn P w K mg base "is_up_to" s_is_up_to ["value", "most"] 3 F_is_up_to := by
  refine kn_of (N := ["value", "most"]) (k := 2) (B := B_is_up_to) S sc_is_up_to rfl rfl (fun _ _ _ _ _ _ us hl => match us, hl with | [_, _], _ => rfl) fun f cdv A outer s' H E hr => ?_
  have nd := sc_is_up_to.nd
  have tk : Takes (cxOf (L2.CX P w) P w K mg base ["value", "most"] "is_up_to" (defScope s_is_up_to) f cdv A outer s' H E) (Wd E) := takes_of rfl rfl rfl rfl
  exact s_one (s_ret (g_calln c_is_between (hr.mono (by decide)) (by rfl) tk (g_cons (g_var 0 (pv 0)) (g_cons (g_int) (g_cons (g_var 1 (pv 1)) (g_nil) rfl) rfl) rfl) (by decide) rfl rfl))
theorem ok_is_from (T : Bt mg) (XX : Xt K mg) (S : Std K mg "is_from" "is_from" s_is_from) (c_is_whole : Kn P w K mg base "is_whole" s_is_whole ["value"] 1 F_is_whole) : Kn P w K mg base "is_from" s_is_from ["value", "least"] 2 F_is_from := by
  refine kn_of (N := ["value", "least"]) (k := 1) (B := B_is_from) S sc_is_from rfl rfl (fun _ _ _ _ _ _ us hl => match us, hl with | [_, _], _ => rfl) fun f cdv A outer s' H E hr => ?_
  have nd := sc_is_from.nd
  have tk : Takes (cxOf (L2.CX P w) P w K mg base ["value", "least"] "is_from" (defScope s_is_from) f cdv A outer s' H E) (Wd E) := takes_of rfl rfl rfl rfl
  exact s_one (s_ret (g_vand (g_calln c_is_whole (hr.mono (by decide)) (by rfl) tk (g_cons (g_var 0 (pv 0)) (g_nil) rfl) (by decide) rfl rfl) (g_one (g_cmp op_ge (v_cmpI _) (g_var 0 (pv 0)) (g_var 1 (pv 1)) (nomark _)))))
theorem ok_is_tuple_up_to (T : Bt mg) (XX : Xt K mg) (S : Std K mg "is_tuple_up_to" "is_tuple_up_to" s_is_tuple_up_to) : Kn P w K mg base "is_tuple_up_to" s_is_tuple_up_to ["value", "low", "high"] 1 F_is_tuple_up_to := by
  refine kn_of (N := ["value", "low", "high"]) (k := 0) (B := B_is_tuple_up_to) S sc_is_tuple_up_to rfl rfl (fun _ _ _ _ _ _ us hl => match us, hl with | [_, _, _], _ => rfl) fun f cdv A outer s' H E hr => ?_
  have nd := sc_is_tuple_up_to.nd
  have tk : Takes (cxOf (L2.CX P w) P w K mg base ["value", "low", "high"] "is_tuple_up_to" (defScope s_is_tuple_up_to) f cdv A outer s' H E) (Wd E) := takes_of rfl rfl rfl rfl
  exact s_one (s_ret (g_vand (g_isi .tup (g_var 0 (pv 0)) (fun h => pe_callB call_isi (by rfl) T.isinstance bt_isinstance (pa_cons h (pa_cons (pe_bltn (by rfl) T.tuple bt_tuple rfl) pa_nil)))) (g_one (g_chain (pe_chain (o_le hr.units0) (o_le hr.units0) (g_var 1 (pv 1)) (g_blt (pe_callB c_len (by rfl) T.len bt_len (g_cons (g_var 0 (pv 0)) (g_nil) rfl)) v_len) (g_var 2 (pv 2))) v_le v_le))))
theorem ok_is_tuple_of (T : Bt mg) (XX : Xt K mg) (S : Std K mg "is_tuple_of" "is_tuple_of" s_is_tuple_of) (c_is_tuple_up_to : Kn P w K mg base "is_tuple_up_to" s_is_tuple_up_to ["value", "low", "high"] 1 F_is_tuple_up_to) : Kn P w K mg base "is_tuple_of" s_is_tuple_of ["value", "many"] 2 F_is_tuple_of := by
  refine kn_of (N := ["value", "many"]) (k := 1) (B := B_is_tuple_of) S sc_is_tuple_of rfl rfl (fun _ _ _ _ _ _ us hl => match us, hl with | [_, _], _ => rfl) fun f cdv A outer s' H E hr => ?_
  have nd := sc_is_tuple_of.nd
  have tk : Takes (cxOf (L2.CX P w) P w K mg base ["value", "many"] "is_tuple_of" (defScope s_is_tuple_of) f cdv A outer s' H E) (Wd E) := takes_of rfl rfl rfl rfl
  exact s_one (s_ret (g_calln c_is_tuple_up_to (hr.mono (by decide)) (by rfl) tk (g_cons (g_var 0 (pv 0)) (g_cons (g_var 1 (pv 1)) (g_cons (g_var 1 (pv 1)) (g_nil) rfl) rfl) rfl) (by decide) rfl rfl))
theorem ok_is_pair (T : Bt mg) (XX : Xt K mg) (S : Std K mg "is_pair" "is_pair" s_is_pair) (c_is_tuple_of : Kn P w K mg base "is_tuple_of" s_is_tuple_of ["value", "many"] 2 F_is_tuple_of) : Kn P w K mg base "is_pair" s_is_pair ["value"] 3 F_is_pair := by
  refine kn_of (N := ["value"]) (k := 2) (B := B_is_pair) S sc_is_pair rfl rfl (fun _ _ _ _ _ _ us hl => match us, hl with | [_], _ => rfl) fun f cdv A outer s' H E hr => ?_
  have nd := sc_is_pair.nd
  have tk : Takes (cxOf (L2.CX P w) P w K mg base ["value"] "is_pair" (defScope s_is_pair) f cdv A outer s' H E) (Wd E) := takes_of rfl rfl rfl rfl
  exact s_one (s_ret (g_calln c_is_tuple_of (hr.mono (by decide)) (by rfl) tk (g_cons (g_var 0 (pv 0)) (g_cons (g_int) (g_nil) rfl) rfl) (by decide) rfl rfl))
theorem ok_is_track_of (T : Bt mg) (XX : Xt K mg) (S : Std K mg "is_track_of" "is_track_of" s_is_track_of) (c_is_tuple_up_to : Kn P w K mg base "is_tuple_up_to" s_is_tuple_up_to ["value", "low", "high"] 1 F_is_tuple_up_to) (c_is_from : Kn P w K mg base "is_from" s_is_from ["value", "least"] 2 F_is_from) : Kn P w K mg base "is_track_of" s_is_track_of ["value"] 3 F_is_track_of := by
  refine kn_of (N := ["value", "each"]) (k := 2) (B := B_is_track_of) S sc_is_track_of rfl rfl (fun _ _ _ _ _ _ us hl => match us, hl with | [_], _ => rfl) fun f cdv A outer s' H E hr => ?_
  have nd := sc_is_track_of.nd
  have tk : Takes (cxOf (L2.CX P w) P w K mg base ["value", "each"] "is_track_of" (defScope s_is_track_of) f cdv A outer s' H E) (Wd E) := takes_of rfl rfl rfl rfl
  exact s_one (s_ret (g_vand (g_calln c_is_tuple_up_to (hr.mono (by decide)) (by rfl) tk (g_cons (g_var 0 (pv 0)) (g_cons (g_int) (g_cons (g_globI (by rfl) T.MOST_MATS (by decide)) (g_nil) rfl) rfl) rfl) (by decide) rfl rfl) (g_one (g_blt (pe_callB (cq_all rfl) (by rfl) T.all bt_all (g_cons (g_lc (by decide) (pe_lc (own := [("each", 1)]) rfl nd (g_iter (g_var 0 (pv 0))) (blkOk_by (N := ["value", "each"]) (sc := defScope s_is_track_of) (by decide +kernel)) (fun _ _ _ _ _ => pg_name (i := 1) nd rfl (by first | exact .inl rfl | exact .inr rfl)) (fun _ _ _ _ _ => g_yes) (fun _ _ _ _ _ => g_calln c_is_from (hr.mono (by decide)) (by rfl) takes0 (g_cons (g_var 1 (pv 1)) (g_cons (g_int) (g_nil) rfl) rfl) (by decide) rfl rfl))) (g_nil) rfl)) v_all))))
theorem ok_is_mat_of (T : Bt mg) (XX : Xt K mg) (S : Std K mg "is_mat_of" "is_mat_of" s_is_mat_of) (c_is_up_to : Kn P w K mg base "is_up_to" s_is_up_to ["value", "most"] 3 F_is_up_to) : Kn P w K mg base "is_mat_of" s_is_mat_of ["track", "value"] 4 F_is_mat_of := by
  refine kn_of (N := ["track", "value"]) (k := 3) (B := B_is_mat_of) S sc_is_mat_of rfl rfl (fun _ _ _ _ _ _ us hl => match us, hl with | [_, _], _ => rfl) fun f cdv A outer s' H E hr => ?_
  have nd := sc_is_mat_of.nd
  have tk : Takes (cxOf (L2.CX P w) P w K mg base ["track", "value"] "is_mat_of" (defScope s_is_mat_of) f cdv A outer s' H E) (Wd E) := takes_of rfl rfl rfl rfl
  exact s_one (s_ret (g_calln c_is_up_to (hr.mono (by decide)) (by rfl) tk (g_cons (g_var 1 (pv 1)) (g_cons (g_op op_sub v_sub (g_blt (pe_callB c_len (by rfl) T.len bt_len (g_cons (g_var 0 (pv 0)) (g_nil) rfl)) v_len) (g_int)) (g_nil) rfl) rfl) (by decide) rfl rfl))
theorem ok_is_mark_of (T : Bt mg) (XX : Xt K mg) (S : Std K mg "is_mark_of" "is_mark_of" s_is_mark_of) (c_is_pair : Kn P w K mg base "is_pair" s_is_pair ["value"] 3 F_is_pair) (c_is_from : Kn P w K mg base "is_from" s_is_from ["value", "least"] 2 F_is_from) (c_is_mat_of : Kn P w K mg base "is_mat_of" s_is_mat_of ["track", "value"] 4 F_is_mat_of) : Kn P w K mg base "is_mark_of" s_is_mark_of ["track", "value"] 5 F_is_mark_of := by
  refine kn_of (N := ["track", "value"]) (k := 4) (B := B_is_mark_of) S sc_is_mark_of rfl rfl (fun _ _ _ _ _ _ us hl => match us, hl with | [_, _], _ => rfl) fun f cdv A outer s' H E hr => ?_
  have nd := sc_is_mark_of.nd
  have tk : Takes (cxOf (L2.CX P w) P w K mg base ["track", "value"] "is_mark_of" (defScope s_is_mark_of) f cdv A outer s' H E) (Wd E) := takes_of rfl rfl rfl rfl
  exact s_one (s_ret (g_vand (g_calln c_is_pair (hr.mono (by decide)) (by rfl) tk (g_cons (g_var 1 (pv 1)) (g_nil) rfl) (by decide) rfl rfl) (g_vand (g_calln c_is_from (hr.mono (by decide)) (by rfl) tk (g_cons (g_ix (g_var 1 (pv 1)) (g_int) (fun _ _ => rfl)) (g_cons (g_int) (g_nil) rfl) rfl) (by decide) rfl rfl) (g_one (g_calln c_is_mat_of (hr.mono (by decide)) (by rfl) tk (g_cons (g_var 0 (pv 0)) (g_cons (g_ix (g_var 1 (pv 1)) (g_int) (fun _ _ => rfl)) (g_nil) rfl) rfl) (by decide) rfl rfl)))))
theorem ok_wrong_in_bag (T : Bt mg) (XX : Xt K mg) (S : Std K mg "wrong_in_bag" "wrong_in_bag" s_wrong_in_bag) (c_is_tuple_up_to : Kn P w K mg base "is_tuple_up_to" s_is_tuple_up_to ["value", "low", "high"] 1 F_is_tuple_up_to) (c_is_mark_of : Kn P w K mg base "is_mark_of" s_is_mark_of ["track", "value"] 5 F_is_mark_of) : Kn P w K mg base "wrong_in_bag" s_wrong_in_bag ["track", "value"] 6 F_wrong_in_bag := by
  refine kn_of (N := ["track", "value", "index", "mark"]) (k := 5) (B := B_wrong_in_bag) S sc_wrong_in_bag rfl rfl (fun _ _ _ _ _ _ us hl => match us, hl with | [_, _], _ => rfl) fun f cdv A outer s' H E hr => ?_
  have nd := sc_wrong_in_bag.nd
  have tk : Takes (cxOf (L2.CX P w) P w K mg base ["track", "value", "index", "mark"] "wrong_in_bag" (defScope s_wrong_in_bag) f cdv A outer s' H E) (Wd E) := takes_of rfl rfl rfl rfl
  exact s_cons (s_if (g_tnot (g_tval (g_calln c_is_tuple_up_to (hr.mono (by decide)) (by rfl) tk (g_cons (g_var 1 (pv 1)) (g_cons (g_int) (g_cons (g_globI (by rfl) T.MOST_MARKS (by decide)) (g_nil) rfl) rfl) rfl) (by decide) rfl rfl) (by intro _; rfl))) (s_one (s_ret (g_lst (g_cons (g_non) (g_nil) rfl)))) (s_nil)) (s_cons (s_for (ps_for (passes_of rfl) rfl (g_enum (pi_enumB (by rfl) T.enumerate (g_cons (g_var 1 (pv 1)) (g_nil) rfl))) (t_tg (t := .tp [.nm 2, .nm 3]) (pg_tl rfl (pgs_cons (pg_name (i := 2) nd rfl (by first | exact .inl rfl | exact .inr rfl)) (pgs_cons (pg_name (i := 3) nd rfl (by first | exact .inl rfl | exact .inr rfl)) (pgs_nil))))) (s_one (s_if ((g_or (g_tnot (g_tval (g_calln c_is_mark_of (hr.mono (by decide)) (by rfl) tk (g_cons (g_var 0 (pv 0)) (g_cons (g_var 3 (pv 3)) (g_nil) rfl) rfl) (by decide) rfl rfl) (by intro _; rfl))) (g_or1 ((g_and (g_tcmp op_gt (v_cmpI _) (g_var 2 (pv 2)) (g_int) (nomark _)) (g_and1 (g_tcmp (o_le hr.units0) v_le (g_var 3 (pv 3)) (g_ix (g_var 1 (pv 1)) (g_op op_sub v_sub (g_var 2 (pv 2)) (g_int)) (fun _ _ => rfl)) (nomark _)))).pt))).pt) (s_one (s_ret (g_lst (g_cons (g_var 2 (pv 2)) (g_nil) rfl)))) (s_nil))))) (s_one (s_ret (g_lst (g_nil)))))
theorem ok_is_bag_of (T : Bt mg) (XX : Xt K mg) (S : Std K mg "is_bag_of" "is_bag_of" s_is_bag_of) (c_wrong_in_bag : Kn P w K mg base "wrong_in_bag" s_wrong_in_bag ["track", "value"] 6 F_wrong_in_bag) : Kn P w K mg base "is_bag_of" s_is_bag_of ["track", "value"] 7 F_is_bag_of := by
  refine kn_of (N := ["track", "value"]) (k := 6) (B := B_is_bag_of) S sc_is_bag_of rfl rfl (fun _ _ _ _ _ _ us hl => match us, hl with | [_, _], _ => rfl) fun f cdv A outer s' H E hr => ?_
  have nd := sc_is_bag_of.nd
  have tk : Takes (cxOf (L2.CX P w) P w K mg base ["track", "value"] "is_bag_of" (defScope s_is_bag_of) f cdv A outer s' H E) (Wd E) := takes_of rfl rfl rfl rfl
  exact s_one (s_ret (g_cmp (o_eq hr.units) v_eq (g_calln c_wrong_in_bag (hr.mono (by decide)) (by rfl) tk (g_cons (g_var 0 (pv 0)) (g_cons (g_var 1 (pv 1)) (g_nil) rfl) rfl) (by decide) rfl rfl) (g_lst (g_nil)) (nomark _)))
theorem ok_is_full_row (T : Bt mg) (XX : Xt K mg) (S : Std K mg "is_full_row" "is_full_row" s_is_full_row) (c_is_bag_of : Kn P w K mg base "is_bag_of" s_is_bag_of ["track", "value"] 7 F_is_bag_of) (c_is_row_by : Kn P w K mg base "is_row_by" s_is_row_by ["track", "bag"] 6 F_is_row_by) : Kn P w K mg base "is_full_row" s_is_full_row ["track", "start", "value"] 8 F_is_full_row := by
  refine kn_of (N := ["track", "start", "value"]) (k := 7) (B := B_is_full_row) S sc_is_full_row rfl rfl (fun _ _ _ _ _ _ us hl => match us, hl with | [_, _, _], _ => rfl) fun f cdv A outer s' H E hr => ?_
  have nd := sc_is_full_row.nd
  have tk : Takes (cxOf (L2.CX P w) P w K mg base ["track", "start", "value"] "is_full_row" (defScope s_is_full_row) f cdv A outer s' H E) (Wd E) := takes_of rfl rfl rfl rfl
  exact s_one (s_ret (g_vand (g_calln c_is_bag_of (hr.mono (by decide)) (by rfl) tk (g_cons (g_var 0 (pv 0)) (g_cons (g_var 2 (pv 2)) (g_nil) rfl) rfl) (by decide) rfl rfl) (g_one (g_calln c_is_row_by (hr.mono (by decide)) (by rfl) tk (g_cons (g_var 0 (pv 0)) (g_cons (g_tup (g_cons (g_tup (g_cons (g_var 1 (pv 1)) (g_cons (g_int) (g_nil) rfl) rfl)) (g_star (g_var 2 (pv 2)) (g_nil) rfl) rfl)) (g_nil) rfl) rfl) (by decide) rfl rfl))))
theorem ok_is_race_of (T : Bt mg) (XX : Xt K mg) (S : Std K mg "is_race_of" "is_race_of" s_is_race_of) (c_is_pair : Kn P w K mg base "is_pair" s_is_pair ["value"] 3 F_is_pair) (c_is_from : Kn P w K mg base "is_from" s_is_from ["value", "least"] 2 F_is_from) (c_is_tuple_up_to : Kn P w K mg base "is_tuple_up_to" s_is_tuple_up_to ["value", "low", "high"] 1 F_is_tuple_up_to) (c_is_full_row : Kn P w K mg base "is_full_row" s_is_full_row ["track", "start", "value"] 8 F_is_full_row) : Kn P w K mg base "is_race_of" s_is_race_of ["track", "value"] 9 F_is_race_of := by
  refine kn_of (N := ["track", "value", "row"]) (k := 8) (B := B_is_race_of) S sc_is_race_of rfl rfl (fun _ _ _ _ _ _ us hl => match us, hl with | [_, _], _ => rfl) fun f cdv A outer s' H E hr => ?_
  have nd := sc_is_race_of.nd
  have tk : Takes (cxOf (L2.CX P w) P w K mg base ["track", "value", "row"] "is_race_of" (defScope s_is_race_of) f cdv A outer s' H E) (Wd E) := takes_of rfl rfl rfl rfl
  exact s_cons (s_if ((g_or (g_tnot (g_tval (g_calln c_is_pair (hr.mono (by decide)) (by rfl) tk (g_cons (g_var 1 (pv 1)) (g_nil) rfl) (by decide) rfl rfl) (by intro _; rfl))) (g_or (g_tnot (g_tval (g_calln c_is_from (hr.mono (by decide)) (by rfl) tk (g_cons (g_ix (g_var 1 (pv 1)) (g_int) (fun _ _ => rfl)) (g_cons (g_int) (g_nil) rfl) rfl) (by decide) rfl rfl) (by intro _; rfl))) (g_or1 (g_tnot (g_tval (g_calln c_is_tuple_up_to (hr.mono (by decide)) (by rfl) tk (g_cons (g_ix (g_var 1 (pv 1)) (g_int) (fun _ _ => rfl)) (g_cons (g_int) (g_cons (g_globI (by rfl) T.MOST_RUNNERS (by decide)) (g_nil) rfl) rfl) rfl) (by decide) rfl rfl) (by intro _; rfl)))))).pt) (s_one (s_ret (g_bl))) (s_nil)) (s_one (s_ret (g_blt (pe_callB (cq_all rfl) (by rfl) T.all bt_all (g_cons (g_lc (by decide) (pe_lc (own := [("row", 2)]) rfl nd (g_iter (g_ix (g_var 1 (pv 1)) (g_int) (fun _ _ => rfl))) (blkOk_by (N := ["track", "value", "row"]) (sc := defScope s_is_race_of) (by decide +kernel)) (fun _ _ _ _ _ => pg_name (i := 2) nd rfl (by first | exact .inl rfl | exact .inr rfl)) (fun _ _ _ _ _ => g_yes) (fun _ _ _ _ _ => g_calln c_is_full_row (hr.mono (by decide)) (by rfl) takes0 (g_cons (g_var 0 (pv 0)) (g_cons (g_ix (g_var 1 (pv 1)) (g_int) (fun _ _ => rfl)) (g_cons (g_var 2 (pv 2)) (g_nil) rfl) rfl) rfl) (by decide) rfl rfl))) (g_nil) rfl)) v_all)))
theorem ok_is_runner_of (T : Bt mg) (XX : Xt K mg) (S : Std K mg "is_runner_of" "is_runner_of" s_is_runner_of) (c_is_up_to : Kn P w K mg base "is_up_to" s_is_up_to ["value", "most"] 3 F_is_up_to) : Kn P w K mg base "is_runner_of" s_is_runner_of ["race", "value"] 4 F_is_runner_of := by
  refine kn_of (N := ["race", "value"]) (k := 3) (B := B_is_runner_of) S sc_is_runner_of rfl rfl (fun _ _ _ _ _ _ us hl => match us, hl with | [_, _], _ => rfl) fun f cdv A outer s' H E hr => ?_
  have nd := sc_is_runner_of.nd
  have tk : Takes (cxOf (L2.CX P w) P w K mg base ["race", "value"] "is_runner_of" (defScope s_is_runner_of) f cdv A outer s' H E) (Wd E) := takes_of rfl rfl rfl rfl
  exact s_one (s_ret (g_calln c_is_up_to (hr.mono (by decide)) (by rfl) tk (g_cons (g_var 1 (pv 1)) (g_cons (g_op op_sub v_sub (g_blt (pe_callB c_len (by rfl) T.len bt_len (g_cons (g_ix (g_var 0 (pv 0)) (g_int) (fun _ _ => rfl)) (g_nil) rfl)) v_len) (g_int)) (g_nil) rfl) rfl) (by decide) rfl rfl))
theorem ok_check_track (T : Bt mg) (XX : Xt K mg) (S : Std K mg "check_track" "check_track" s_check_track) (c_is_track_of : Kn P w K mg base "is_track_of" s_is_track_of ["value"] 3 F_is_track_of) : Kn P w K mg base "check_track" s_check_track ["track"] 4 F_check_track := by
  refine kn_of (N := ["track"]) (k := 3) (B := B_check_track) S sc_check_track rfl rfl (fun _ _ _ _ _ _ us hl => match us, hl with | [_], _ => rfl) fun f cdv A outer s' H E hr => ?_
  have nd := sc_check_track.nd
  have tk : Takes (cxOf (L2.CX P w) P w K mg base ["track"] "check_track" (defScope s_check_track) f cdv A outer s' H E) (Wd E) := takes_of rfl rfl rfl rfl
  exact s_one (s_if (g_tnot (g_tval (g_calln c_is_track_of (hr.mono (by decide)) (by rfl) tk (g_cons (g_var 0 (pv 0)) (g_nil) rfl) (by decide) rfl rfl) (by intro _; rfl))) (s_one (s_raise rfl XX.r_InvalidTrack hr tk (g_var 0 (pv 0)) (by rfl) (by decide) rfl rfl)) (s_nil))
theorem ok_check_mat (T : Bt mg) (XX : Xt K mg) (S : Std K mg "check_mat" "check_mat" s_check_mat) (c_is_mat_of : Kn P w K mg base "is_mat_of" s_is_mat_of ["track", "value"] 4 F_is_mat_of) : Kn P w K mg base "check_mat" s_check_mat ["track", "mat"] 5 F_check_mat := by
  refine kn_of (N := ["track", "mat"]) (k := 4) (B := B_check_mat) S sc_check_mat rfl rfl (fun _ _ _ _ _ _ us hl => match us, hl with | [_, _], _ => rfl) fun f cdv A outer s' H E hr => ?_
  have nd := sc_check_mat.nd
  have tk : Takes (cxOf (L2.CX P w) P w K mg base ["track", "mat"] "check_mat" (defScope s_check_mat) f cdv A outer s' H E) (Wd E) := takes_of rfl rfl rfl rfl
  exact s_one (s_if (g_tnot (g_tval (g_calln c_is_mat_of (hr.mono (by decide)) (by rfl) tk (g_cons (g_var 0 (pv 0)) (g_cons (g_var 1 (pv 1)) (g_nil) rfl) rfl) (by decide) rfl rfl) (by intro _; rfl))) (s_one (s_raise rfl XX.r_InvalidMat hr tk (g_var 1 (pv 1)) (by rfl) (by decide) rfl rfl)) (s_nil))
theorem ok_check_mark (T : Bt mg) (XX : Xt K mg) (S : Std K mg "check_mark" "check_mark" s_check_mark) (c_is_mark_of : Kn P w K mg base "is_mark_of" s_is_mark_of ["track", "value"] 5 F_is_mark_of) : Kn P w K mg base "check_mark" s_check_mark ["track", "mark"] 6 F_check_mark := by
  refine kn_of (N := ["track", "mark"]) (k := 5) (B := B_check_mark) S sc_check_mark rfl rfl (fun _ _ _ _ _ _ us hl => match us, hl with | [_, _], _ => rfl) fun f cdv A outer s' H E hr => ?_
  have nd := sc_check_mark.nd
  have tk : Takes (cxOf (L2.CX P w) P w K mg base ["track", "mark"] "check_mark" (defScope s_check_mark) f cdv A outer s' H E) (Wd E) := takes_of rfl rfl rfl rfl
  exact s_one (s_if (g_tnot (g_tval (g_calln c_is_mark_of (hr.mono (by decide)) (by rfl) tk (g_cons (g_var 0 (pv 0)) (g_cons (g_var 1 (pv 1)) (g_nil) rfl) rfl) (by decide) rfl rfl) (by intro _; rfl))) (s_one (s_raise rfl XX.r_InvalidMark hr tk (g_var 1 (pv 1)) (by rfl) (by decide) rfl rfl)) (s_nil))
theorem ok_check_bag (T : Bt mg) (XX : Xt K mg) (S : Std K mg "check_bag" "check_bag" s_check_bag) (c_wrong_in_bag : Kn P w K mg base "wrong_in_bag" s_wrong_in_bag ["track", "value"] 6 F_wrong_in_bag) : Kn P w K mg base "check_bag" s_check_bag ["track", "bag"] 7 F_check_bag := by
  refine kn_of (N := ["track", "bag", "index"]) (k := 6) (B := B_check_bag) S sc_check_bag rfl rfl (fun _ _ _ _ _ _ us hl => match us, hl with | [_, _], _ => rfl) fun f cdv A outer s' H E hr => ?_
  have nd := sc_check_bag.nd
  have tk : Takes (cxOf (L2.CX P w) P w K mg base ["track", "bag", "index"] "check_bag" (defScope s_check_bag) f cdv A outer s' H E) (Wd E) := takes_of rfl rfl rfl rfl
  exact s_one (s_for (ps_for (passes_of rfl) rfl (g_iter (g_calln c_wrong_in_bag (hr.mono (by decide)) (by rfl) tk (g_cons (g_var 0 (pv 0)) (g_cons (g_var 1 (pv 1)) (g_nil) rfl) rfl) (by decide) rfl rfl)) (t_tg (t := .nm 2) (pg_name (i := 2) nd rfl (by first | exact .inl rfl | exact .inr rfl))) (s_one (s_raise rfl XX.r_InvalidBag hr tk (g_var 2 (pv 2)) (by rfl) (by decide) rfl rfl))))
theorem ok_check_fit_row (T : Bt mg) (XX : Xt K mg) (S : Std K mg "check_fit_row" "check_fit_row" s_check_fit_row) (c_is_row_by : Kn P w K mg base "is_row_by" s_is_row_by ["track", "bag"] 6 F_is_row_by) : Kn P w K mg base "check_fit_row" s_check_fit_row ["track", "row"] 7 F_check_fit_row := by
  refine kn_of (N := ["track", "row"]) (k := 6) (B := B_check_fit_row) S sc_check_fit_row rfl rfl (fun _ _ _ _ _ _ us hl => match us, hl with | [_, _], _ => rfl) fun f cdv A outer s' H E hr => ?_
  have nd := sc_check_fit_row.nd
  have tk : Takes (cxOf (L2.CX P w) P w K mg base ["track", "row"] "check_fit_row" (defScope s_check_fit_row) f cdv A outer s' H E) (Wd E) := takes_of rfl rfl rfl rfl
  exact s_one (s_if (g_tnot (g_tval (g_calln c_is_row_by (hr.mono (by decide)) (by rfl) tk (g_cons (g_var 0 (pv 0)) (g_cons (g_var 1 (pv 1)) (g_nil) rfl) rfl) (by decide) rfl rfl) (by intro _; rfl))) (s_one (s_raise0 rfl XX.r_Unfit tk (by rfl) (by decide))) (s_nil))
theorem ok_check_race (T : Bt mg) (XX : Xt K mg) (S : Std K mg "check_race" "check_race" s_check_race) (c_is_race_of : Kn P w K mg base "is_race_of" s_is_race_of ["track", "value"] 9 F_is_race_of) : Kn P w K mg base "check_race" s_check_race ["track", "race"] 10 F_check_race := by
  refine kn_of (N := ["track", "race"]) (k := 9) (B := B_check_race) S sc_check_race rfl rfl (fun _ _ _ _ _ _ us hl => match us, hl with | [_, _], _ => rfl) fun f cdv A outer s' H E hr => ?_
  have nd := sc_check_race.nd
  have tk : Takes (cxOf (L2.CX P w) P w K mg base ["track", "race"] "check_race" (defScope s_check_race) f cdv A outer s' H E) (Wd E) := takes_of rfl rfl rfl rfl
  exact s_one (s_if (g_tnot (g_tval (g_calln c_is_race_of (hr.mono (by decide)) (by rfl) tk (g_cons (g_var 0 (pv 0)) (g_cons (g_var 1 (pv 1)) (g_nil) rfl) rfl) (by decide) rfl rfl) (by intro _; rfl))) (s_one (s_raise rfl XX.r_InvalidRace hr tk (g_var 1 (pv 1)) (by rfl) (by decide) rfl rfl)) (s_nil))
theorem ok_check_runner (T : Bt mg) (XX : Xt K mg) (S : Std K mg "check_runner" "check_runner" s_check_runner) (c_is_runner_of : Kn P w K mg base "is_runner_of" s_is_runner_of ["race", "value"] 4 F_is_runner_of) : Kn P w K mg base "check_runner" s_check_runner ["race", "runner"] 5 F_check_runner := by
  refine kn_of (N := ["race", "runner"]) (k := 4) (B := B_check_runner) S sc_check_runner rfl rfl (fun _ _ _ _ _ _ us hl => match us, hl with | [_, _], _ => rfl) fun f cdv A outer s' H E hr => ?_
  have nd := sc_check_runner.nd
  have tk : Takes (cxOf (L2.CX P w) P w K mg base ["race", "runner"] "check_runner" (defScope s_check_runner) f cdv A outer s' H E) (Wd E) := takes_of rfl rfl rfl rfl
  exact s_one (s_if (g_tnot (g_tval (g_calln c_is_runner_of (hr.mono (by decide)) (by rfl) tk (g_cons (g_var 0 (pv 0)) (g_cons (g_var 1 (pv 1)) (g_nil) rfl) rfl) (by decide) rfl rfl) (by intro _; rfl))) (s_one (s_raise rfl XX.r_InvalidRunner hr tk (g_var 1 (pv 1)) (by rfl) (by decide) rfl rfl)) (s_nil))
theorem ok_extra_by (T : Bt mg) (XX : Xt K mg) (S : Std K mg "extra_by" "extra_by" s_extra_by) (c_way_by : Kn P w K mg base "way_by" s_way_by ["track", "one", "other"] 3 F_way_by) (c_round_by : Kn P w K mg base "round_by" s_round_by ["track"] 1 F_round_by) : Kn P w K mg base "extra_by" s_extra_by ["track", "one", "two"] 4 F_extra_by := by
  refine kn_of (N := ["track", "one", "two"]) (k := 3) (B := B_extra_by) S sc_extra_by rfl rfl (fun _ _ _ _ _ _ us hl => match us, hl with | [_, _, _], _ => rfl) fun f cdv A outer s' H E hr => ?_
  have nd := sc_extra_by.nd
  have tk : Takes (cxOf (L2.CX P w) P w K mg base ["track", "one", "two"] "extra_by" (defScope s_extra_by) f cdv A outer s' H E) (Wd E) := takes_of rfl rfl rfl rfl
  exact s_one (s_ret (g_op op_fdivW v_fdiv (g_op op_sub v_sub (g_op op_sub v_sub (g_ix (g_var 2 (pv 2)) (g_int) (fun _ _ => rfl)) (g_ix (g_var 1 (pv 1)) (g_int) (fun _ _ => rfl))) (g_calln c_way_by (hr.mono (by decide)) (by rfl) tk (g_cons (g_var 0 (pv 0)) (g_cons (g_ix (g_var 1 (pv 1)) (g_int) (fun _ _ => rfl)) (g_cons (g_ix (g_var 2 (pv 2)) (g_int) (fun _ _ => rfl)) (g_nil) rfl) rfl) rfl) (by decide) rfl rfl)) (g_calln c_round_by (hr.mono (by decide)) (by rfl) tk (g_cons (g_var 0 (pv 0)) (g_nil) rfl) (by decide) rfl rfl)))
theorem ok_extras_by (T : Bt mg) (XX : Xt K mg) (S : Std K mg "extras_by" "extras_by" s_extras_by) (c_extra_by : Kn P w K mg base "extra_by" s_extra_by ["track", "one", "two"] 4 F_extra_by) : Kn P w K mg base "extras_by" s_extras_by ["track", "row"] 5 F_extras_by := by
  refine kn_of (N := ["track", "row", "one", "two"]) (k := 4) (B := B_extras_by) S sc_extras_by rfl rfl (fun _ _ _ _ _ _ us hl => match us, hl with | [_, _], _ => rfl) fun f cdv A outer s' H E hr => ?_
  have nd := sc_extras_by.nd
  have tk : Takes (cxOf (L2.CX P w) P w K mg base ["track", "row", "one", "two"] "extras_by" (defScope s_extras_by) f cdv A outer s' H E) (Wd E) := takes_of rfl rfl rfl rfl
  exact s_one (s_ret (g_lc (by decide) (pe_lc (own := [("one", 2), ("two", 3)]) rfl nd (g_zip (RZ.pi_zipA (by rfl) T.zip (g_cons (g_var 1 (pv 1)) (g_cons (g_slice (g_var 1 (pv 1)) (g_some (g_int)) (g_no)) (g_nil) rfl) rfl))) (blkOk_by (N := ["track", "row", "one", "two"]) (sc := defScope s_extras_by) (by decide +kernel)) (fun _ _ _ _ _ => pg_tl rfl (pgs_cons (pg_name (i := 2) nd rfl (by first | exact .inl rfl | exact .inr rfl)) (pgs_cons (pg_name (i := 3) nd rfl (by first | exact .inl rfl | exact .inr rfl)) (pgs_nil)))) (fun _ _ _ _ _ => g_yes) (fun _ _ _ _ _ => g_calln c_extra_by (hr.mono (by decide)) (by rfl) takes0 (g_cons (g_var 0 (pv 0)) (g_cons (g_var 2 (pv 2)) (g_cons (g_var 3 (pv 3)) (g_nil) rfl) rfl) rfl) (by decide) rfl rfl))))
theorem ok_wrong_in_extras (T : Bt mg) (XX : Xt K mg) (S : Std K mg "wrong_in_extras" "wrong_in_extras" s_wrong_in_extras) (c_extras_by : Kn P w K mg base "extras_by" s_extras_by ["track", "row"] 5 F_extras_by) (c_is_tuple_of : Kn P w K mg base "is_tuple_of" s_is_tuple_of ["value", "many"] 2 F_is_tuple_of) (c_is_up_to : Kn P w K mg base "is_up_to" s_is_up_to ["value", "most"] 3 F_is_up_to) : Kn P w K mg base "wrong_in_extras" s_wrong_in_extras ["track", "row", "value"] 6 F_wrong_in_extras := by
  refine kn_of (N := ["track", "row", "value", "most", "index", "each"]) (k := 5) (B := B_wrong_in_extras) S sc_wrong_in_extras rfl rfl (fun _ _ _ _ _ _ us hl => match us, hl with | [_, _, _], _ => rfl) fun f cdv A outer s' H E hr => ?_
  have nd := sc_wrong_in_extras.nd
  have tk : Takes (cxOf (L2.CX P w) P w K mg base ["track", "row", "value", "most", "index", "each"] "wrong_in_extras" (defScope s_wrong_in_extras) f cdv A outer s' H E) (Wd E) := takes_of rfl rfl rfl rfl
  exact s_cons (s_set (ps_set (i := 3) nd rfl (.inr rfl) (g_calln c_extras_by (hr.mono (by decide)) (by rfl) tk (g_cons (g_var 0 (pv 0)) (g_cons (g_var 1 (pv 1)) (g_nil) rfl) rfl) (by decide) rfl rfl))) (s_cons (s_if (g_tnot (g_tval (g_calln c_is_tuple_of (hr.mono (by decide)) (by rfl) tk (g_cons (g_var 2 (pv 2)) (g_cons (g_blt (pe_callB c_len (by rfl) T.len bt_len (g_cons (g_var 3 (pv 3)) (g_nil) rfl)) v_len) (g_nil) rfl) rfl) (by decide) rfl rfl) (by intro _; rfl))) (s_one (s_ret (g_lst (g_cons (g_non) (g_nil) rfl)))) (s_nil)) (s_one (s_ret (g_slice (g_lc (by decide) (pe_lc (own := [("index", 4), ("each", 5)]) rfl nd (g_enum (pi_enumB (by rfl) T.enumerate (g_cons (g_var 2 (pv 2)) (g_nil) rfl))) (blkOk_by (N := ["track", "row", "value", "most", "index", "each"]) (sc := defScope s_wrong_in_extras) (by decide +kernel)) (fun _ _ _ _ _ => pg_tl rfl (pgs_cons (pg_name (i := 4) nd rfl (by first | exact .inl rfl | exact .inr rfl)) (pgs_cons (pg_name (i := 5) nd rfl (by first | exact .inl rfl | exact .inr rfl)) (pgs_nil)))) (fun _ _ _ _ _ => g_ifs (g_tnot (g_tval (g_calln c_is_up_to (hr.mono (by decide)) (by rfl) takes0 (g_cons (g_var 5 (pv 5)) (g_cons (g_ix (g_var 3 (pv 3)) (g_var 4 (pv 4)) (fun _ _ => rfl)) (g_nil) rfl) rfl) (by decide) rfl rfl) (by intro _; rfl)))) (fun _ _ _ _ _ => g_var 4 (pv 4)))) (g_no) (g_some (g_int))))))
theorem ok_mats_between (T : Bt mg) (XX : Xt K mg) (S : Std K mg "mats_between" "mats_between" s_mats_between) (c_steps_by : Kn P w K mg base "steps_by" s_steps_by ["track", "one", "other"] 1 F_steps_by) : Kn P w K mg base "mats_between" s_mats_between ["track", "one", "other"] 2 F_mats_between := by
  refine kn_of (N := ["track", "one", "other", "step"]) (k := 1) (B := B_mats_between) S sc_mats_between rfl rfl (fun _ _ _ _ _ _ us hl => match us, hl with | [_, _, _], _ => rfl) fun f cdv A outer s' H E hr => ?_
  have nd := sc_mats_between.nd
  have tk : Takes (cxOf (L2.CX P w) P w K mg base ["track", "one", "other", "step"] "mats_between" (defScope s_mats_between) f cdv A outer s' H E) (Wd E) := takes_of rfl rfl rfl rfl
  exact s_one (s_ret (g_lc (by decide) (pe_lc (own := [("step", 3)]) rfl nd (g_range2 (pi_range2 (by rfl) T.range (g_cons (g_int) (g_cons (g_calln c_steps_by (hr.mono (by decide)) (by rfl) tk (g_cons (g_var 0 (pv 0)) (g_cons (g_var 1 (pv 1)) (g_cons (g_var 2 (pv 2)) (g_nil) rfl) rfl) rfl) (by decide) rfl rfl) (g_nil) rfl) rfl))) (blkOk_by (N := ["track", "one", "other", "step"]) (sc := defScope s_mats_between) (by decide +kernel)) (fun _ _ _ _ _ => pg_name (i := 3) nd rfl (by first | exact .inl rfl | exact .inr rfl)) (fun _ _ _ _ _ => g_yes) (fun _ _ _ _ _ => g_op op_mod v_mod (g_op o_add v_add (g_var 1 (pv 1)) (g_var 3 (pv 3))) (g_blt (pe_callB c_len (by rfl) T.len bt_len (g_cons (g_var 0 (pv 0)) (g_nil) rfl)) v_len)))))
theorem ok_missed_by (T : Bt mg) (XX : Xt K mg) (S : Std K mg "missed_by" "missed_by" s_missed_by) (c_mats_between : Kn P w K mg base "mats_between" s_mats_between ["track", "one", "other"] 2 F_mats_between) : Kn P w K mg base "missed_by" s_missed_by ["track", "row", "extras"] 3 F_missed_by := by
  refine kn_of (N := ["track", "row", "extras", "found", "one", "two", "mat"]) (k := 2) (B := B_missed_by) S sc_missed_by rfl rfl (fun _ _ _ _ _ _ us hl => match us, hl with | [_, _, _], _ => rfl) fun f cdv A outer s' H E hr => ?_
  have nd := sc_missed_by.nd
  have tk : Takes (cxOf (L2.CX P w) P w K mg base ["track", "row", "extras", "found", "one", "two", "mat"] "missed_by" (defScope s_missed_by) f cdv A outer s' H E) (Wd E) := takes_of rfl rfl rfl rfl
  exact s_cons (s_set (ps_set (i := 3) nd rfl (.inl rfl) (g_op o_mul v_repM (g_lst (g_cons (g_blt (pe_callB (cq_sum rfl) (by rfl) T.sum bt_sum (g_cons (g_blt (pe_callTy call_list_of (by rfl) T.list bt_list (g_cons (g_var 2 (pv 2)) (g_nil) rfl)) v_list) (g_nil) rfl)) v_sum) (g_nil) rfl)) (g_blt (pe_callB c_len (by rfl) T.len bt_len (g_cons (g_var 0 (pv 0)) (g_nil) rfl)) v_len)))) (s_cons (s_for (ps_for (passes_of rfl) rfl (g_zip (RZ.pi_zipA (by rfl) T.zip (g_cons (g_var 1 (pv 1)) (g_cons (g_slice (g_var 1 (pv 1)) (g_some (g_int)) (g_no)) (g_nil) rfl) rfl))) (t_tg (t := .tp [.nm 4, .nm 5]) (pg_tl rfl (pgs_cons (pg_name (i := 4) nd rfl (by first | exact .inl rfl | exact .inr rfl)) (pgs_cons (pg_name (i := 5) nd rfl (by first | exact .inl rfl | exact .inr rfl)) (pgs_nil))))) (s_one (s_for (ps_for (passes_of rfl) rfl (g_iter (g_calln c_mats_between (hr.mono (by decide)) (by rfl) tk (g_cons (g_var 0 (pv 0)) (g_cons (g_ix (g_var 4 (pv 4)) (g_int) (fun _ _ => rfl)) (g_cons (g_ix (g_var 5 (pv 5)) (g_int) (fun _ _ => rfl)) (g_nil) rfl) rfl) rfl) (by decide) rfl rfl)) (t_tg (t := .nm 6) (pg_name (i := 6) nd rfl (by first | exact .inl rfl | exact .inr rfl))) (s_one (s_asg (ps_asg (g_op o_add v_add (g_ix (g_var 3 (pv 3)) (g_var 6 (pv 6)) (fun _ _ => rfl)) (g_int)) (t_sub (g_var 3 (pv 3)) (g_var 6 (pv 6)) (pg_sub (g_var 3 (pv 3)) (g_var 6 (pv 6)) set_list)))))))))) (s_one (s_ret (g_var 3 (pv 3)))))
theorem ok_full_row_by (T : Bt mg) (XX : Xt K mg) (S : Std K mg "full_row_by" "full_row_by" s_full_row_by) : Kn P w K mg base "full_row_by" s_full_row_by ["race", "runner"] 1 F_full_row_by := by
  refine kn_of (N := ["race", "runner"]) (k := 0) (B := B_full_row_by) S sc_full_row_by rfl rfl (fun _ _ _ _ _ _ us hl => match us, hl with | [_, _], _ => rfl) fun f cdv A outer s' H E hr => ?_
  have nd := sc_full_row_by.nd
  have tk : Takes (cxOf (L2.CX P w) P w K mg base ["race", "runner"] "full_row_by" (defScope s_full_row_by) f cdv A outer s' H E) (Wd E) := takes_of rfl rfl rfl rfl
  exact s_one (s_ret (g_tup (g_cons (g_tup (g_cons (g_ix (g_var 0 (pv 0)) (g_int) (fun _ _ => rfl)) (g_cons (g_int) (g_nil) rfl) rfl)) (g_star (g_ix (g_ix (g_var 0 (pv 0)) (g_int) (fun _ _ => rfl)) (g_var 1 (pv 1)) (fun _ _ => rfl)) (g_nil) rfl) rfl)))
theorem ok_full_rows_of (T : Bt mg) (XX : Xt K mg) (S : Std K mg "full_rows_of" "full_rows_of" s_full_rows_of) (c_full_row_by : Kn P w K mg base "full_row_by" s_full_row_by ["race", "runner"] 1 F_full_row_by) : Kn P w K mg base "full_rows_of" s_full_rows_of ["race"] 2 F_full_rows_of := by
  refine kn_of (N := ["race", "runner"]) (k := 1) (B := B_full_rows_of) S sc_full_rows_of rfl rfl (fun _ _ _ _ _ _ us hl => match us, hl with | [_], _ => rfl) fun f cdv A outer s' H E hr => ?_
  have nd := sc_full_rows_of.nd
  have tk : Takes (cxOf (L2.CX P w) P w K mg base ["race", "runner"] "full_rows_of" (defScope s_full_rows_of) f cdv A outer s' H E) (Wd E) := takes_of rfl rfl rfl rfl
  exact s_one (s_ret (g_lc (by decide) (pe_lc (own := [("runner", 1)]) rfl nd (g_range1 (pi_range1 (by rfl) T.range (g_cons (g_blt (pe_callB c_len (by rfl) T.len bt_len (g_cons (g_ix (g_var 0 (pv 0)) (g_int) (fun _ _ => rfl)) (g_nil) rfl)) v_len) (g_nil) rfl))) (blkOk_by (N := ["race", "runner"]) (sc := defScope s_full_rows_of) (by decide +kernel)) (fun _ _ _ _ _ => pg_name (i := 1) nd rfl (by first | exact .inl rfl | exact .inr rfl)) (fun _ _ _ _ _ => g_yes) (fun _ _ _ _ _ => g_calln c_full_row_by (hr.mono (by decide)) (by rfl) takes0 (g_cons (g_var 0 (pv 0)) (g_cons (g_var 1 (pv 1)) (g_nil) rfl) rfl) (by decide) rfl rfl))))
theorem ok_no_extras (T : Bt mg) (XX : Xt K mg) (S : Std K mg "no_extras" "no_extras" s_no_extras) : Kn P w K mg base "no_extras" s_no_extras ["row"] 1 F_no_extras := by
  refine kn_of (N := ["row"]) (k := 0) (B := B_no_extras) S sc_no_extras rfl rfl (fun _ _ _ _ _ _ us hl => match us, hl with | [_], _ => rfl) fun f cdv A outer s' H E hr => ?_
  have nd := sc_no_extras.nd
  have tk : Takes (cxOf (L2.CX P w) P w K mg base ["row"] "no_extras" (defScope s_no_extras) f cdv A outer s' H E) (Wd E) := takes_of rfl rfl rfl rfl
  exact s_one (s_ret (g_op o_mul v_mul (g_tup (g_cons (g_int) (g_nil) rfl)) (g_op op_sub v_sub (g_blt (pe_callB c_len (by rfl) T.len bt_len (g_cons (g_var 0 (pv 0)) (g_nil) rfl)) v_len) (g_int))))
theorem ok_least_misses_by (T : Bt mg) (XX : Xt K mg) (S : Std K mg "least_misses_by" "least_misses_by" s_least_misses_by) (c_full_rows_of : Kn P w K mg base "full_rows_of" s_full_rows_of ["race"] 2 F_full_rows_of) (c_missed_by : Kn P w K mg base "missed_by" s_missed_by ["track", "row", "extras"] 3 F_missed_by) (c_no_extras : Kn P w K mg base "no_extras" s_no_extras ["row"] 1 F_no_extras) : Kn P w K mg base "least_misses_by" s_least_misses_by ["track", "race"] 4 F_least_misses_by := by
  refine kn_of (N := ["track", "race", "rows", "row", "mat"]) (k := 3) (B := B_least_misses_by) S sc_least_misses_by rfl rfl (fun _ _ _ _ _ _ us hl => match us, hl with | [_, _], _ => rfl) fun f cdv A outer s' H E hr => ?_
  have nd := sc_least_misses_by.nd
  have tk : Takes (cxOf (L2.CX P w) P w K mg base ["track", "race", "rows", "row", "mat"] "least_misses_by" (defScope s_least_misses_by) f cdv A outer s' H E) (Wd E) := takes_of rfl rfl rfl rfl
  exact s_cons (s_set (ps_set (i := 2) nd rfl (.inr rfl) (g_lc (by decide) (pe_lc (own := [("row", 3)]) rfl nd (g_iter (g_calln c_full_rows_of (hr.mono (by decide)) (by rfl) tk (g_cons (g_var 1 (pv 1)) (g_nil) rfl) (by decide) rfl rfl)) (blkOk_by (N := ["track", "race", "rows", "row", "mat"]) (sc := defScope s_least_misses_by) (by decide +kernel)) (fun _ _ _ _ _ => pg_name (i := 3) nd rfl (by first | exact .inl rfl | exact .inr rfl)) (fun _ _ _ _ _ => g_yes) (fun _ _ _ _ _ => g_calln c_missed_by (hr.mono (by decide)) (by rfl) takes0 (g_cons (g_var 0 (pv 0)) (g_cons (g_var 3 (pv 3)) (g_cons (g_calln c_no_extras (hr.mono (by decide)) (by rfl) takes0 (g_cons (g_var 3 (pv 3)) (g_nil) rfl) (by decide) rfl rfl) (g_nil) rfl) rfl) rfl) (by decide) rfl rfl))))) (s_one (s_ret (g_blt (pe_callTy call_tuple_of (by rfl) T.tuple bt_tuple (g_cons (g_lc (by decide) (pe_lc (own := [("mat", 4)]) rfl nd (g_range1 (pi_range1 (by rfl) T.range (g_cons (g_blt (pe_callB c_len (by rfl) T.len bt_len (g_cons (g_var 0 (pv 0)) (g_nil) rfl)) v_len) (g_nil) rfl))) (blkOk_by (N := ["track", "race", "rows", "row", "mat"]) (sc := defScope s_least_misses_by) (by decide +kernel)) (fun _ _ _ _ _ => pg_name (i := 4) nd rfl (by first | exact .inl rfl | exact .inr rfl)) (fun _ _ _ _ _ => g_yes) (fun _ _ _ _ _ => g_blt (pe_callB (cq_sum rfl) (by rfl) T.sum bt_sum (g_cons (g_lc (by decide) (pe_lc (own := [("row", 3)]) rfl nd (g_iter (g_var 2 (pv 2))) (blkOk_by (N := ["track", "race", "rows", "row", "mat"]) (sc := relS _ (defScope s_least_misses_by)) (by decide +kernel)) (fun _ _ _ _ _ => pg_name (i := 3) nd rfl (by first | exact .inl rfl | exact .inr rfl)) (fun _ _ _ _ _ => g_yes) (fun _ _ _ _ _ => g_ix (g_var 3 (pv 3)) (g_var 4 (pv 4)) (fun _ _ => rfl)))) (g_nil) rfl)) v_sum))) (g_nil) rfl)) v_tuple)))
theorem ok_windows_in (T : Bt mg) (XX : Xt K mg) (S : Std K mg "windows_in" "windows_in" s_windows_in) (c_mats_between : Kn P w K mg base "mats_between" s_mats_between ["track", "one", "other"] 2 F_mats_between) (c_way_by : Kn P w K mg base "way_by" s_way_by ["track", "one", "other"] 3 F_way_by) : Kn P w K mg base "windows_in" s_windows_in ["track", "mat", "runner", "row"] 4 F_windows_in := by
  refine kn_of (N := ["track", "mat", "runner", "row", "found", "gap", "one", "two"]) (k := 3) (B := B_windows_in) S sc_windows_in rfl rfl (fun _ _ _ _ _ _ us hl => match us, hl with | [_, _, _, _], _ => rfl) fun f cdv A outer s' H E hr => ?_
  have nd := sc_windows_in.nd
  have tk : Takes (cxOf (L2.CX P w) P w K mg base ["track", "mat", "runner", "row", "found", "gap", "one", "two"] "windows_in" (defScope s_windows_in) f cdv A outer s' H E) (Wd E) := takes_of rfl rfl rfl rfl
  exact s_cons (s_set (ps_set (i := 4) nd rfl (.inl rfl) (g_mut (g_nil)))) (s_cons (s_for (ps_for (passes_of rfl) rfl (g_enumz (pi_enumZ (by rfl) T.enumerate (by rfl) T.zip (g_cons (g_var 3 (pv 3)) (g_cons (g_slice (g_var 3 (pv 3)) (g_some (g_int)) (g_no)) (g_nil) rfl) rfl))) (t_tg (t := .tp [.nm 5, .tp [.nm 6, .nm 7]]) (pg_tl rfl (pgs_cons (pg_name (i := 5) nd rfl (by first | exact .inl rfl | exact .inr rfl)) (pgs_cons (pg_tl rfl (pgs_cons (pg_name (i := 6) nd rfl (by first | exact .inl rfl | exact .inr rfl)) (pgs_cons (pg_name (i := 7) nd rfl (by first | exact .inl rfl | exact .inr rfl)) (pgs_nil)))) (pgs_nil))))) (s_one (s_if (g_tcmp (o_in (room65 hr)) v_in (g_var 1 (pv 1)) (g_calln c_mats_between (hr.mono (by decide)) (by rfl) tk (g_cons (g_var 0 (pv 0)) (g_cons (g_ix (g_var 6 (pv 6)) (g_int) (fun _ _ => rfl)) (g_cons (g_ix (g_var 7 (pv 7)) (g_int) (fun _ _ => rfl)) (g_nil) rfl) rfl) rfl) (by decide) rfl rfl) (by with_unfolding_all rfl)) (s_one (s_expr (g_methL (pe_bm PySem.F.plainAttrs_list PySem.F.slot_list_append PySem.F.type_list_append mt_append (g_var 4 (pv 4)) (g_cons (g_tup (g_cons (g_var 2 (pv 2)) (g_cons (g_var 5 (pv 5)) (g_cons (g_op o_add v_add (g_ix (g_var 6 (pv 6)) (g_int) (fun _ _ => rfl)) (g_calln c_way_by (hr.mono (by decide)) (by rfl) tk (g_cons (g_var 0 (pv 0)) (g_cons (g_ix (g_var 6 (pv 6)) (g_int) (fun _ _ => rfl)) (g_cons (g_var 1 (pv 1)) (g_nil) rfl) rfl) rfl) (by decide) rfl rfl)) (g_cons (g_op op_sub v_sub (g_ix (g_var 7 (pv 7)) (g_int) (fun _ _ => rfl)) (g_calln c_way_by (hr.mono (by decide)) (by rfl) tk (g_cons (g_var 0 (pv 0)) (g_cons (g_var 1 (pv 1)) (g_cons (g_ix (g_var 7 (pv 7)) (g_int) (fun _ _ => rfl)) (g_nil) rfl) rfl) rfl) (by decide) rfl rfl)) (g_nil) rfl) rfl) rfl) rfl)) (g_nil) rfl)) v_append) rfl)) (s_nil))))) (s_one (s_ret (g_var 4 (pv 4)))))
theorem ok_windows_by (T : Bt mg) (XX : Xt K mg) (S : Std K mg "windows_by" "windows_by" s_windows_by) (c_full_rows_of : Kn P w K mg base "full_rows_of" s_full_rows_of ["race"] 2 F_full_rows_of) (c_windows_in : Kn P w K mg base "windows_in" s_windows_in ["track", "mat", "runner", "row"] 4 F_windows_in) : Kn P w K mg base "windows_by" s_windows_by ["track", "race", "mat"] 5 F_windows_by := by
  refine kn_of (N := ["track", "race", "mat", "runner", "row", "window"]) (k := 4) (B := B_windows_by) S sc_windows_by rfl rfl (fun _ _ _ _ _ _ us hl => match us, hl with | [_, _, _], _ => rfl) fun f cdv A outer s' H E hr => ?_
  have nd := sc_windows_by.nd
  have tk : Takes (cxOf (L2.CX P w) P w K mg base ["track", "race", "mat", "runner", "row", "window"] "windows_by" (defScope s_windows_by) f cdv A outer s' H E) (Wd E) := takes_of rfl rfl rfl rfl
  exact s_one (s_ret (g_lc2J (by decide) (by decide) (pe_lc2 (own := [("runner", 3), ("row", 4), ("window", 5)]) (vs1 := [5]) rfl nd (g_enum (pi_enumB (by rfl) T.enumerate (g_cons (g_calln c_full_rows_of (hr.mono (by decide)) (by rfl) tk (g_cons (g_var 1 (pv 1)) (g_nil) rfl) (by decide) rfl rfl) (g_nil) rfl))) (blkOk_by (N := ["track", "race", "mat", "runner", "row", "window"]) (sc := defScope s_windows_by) (by decide +kernel)) (by decide) (fun _ _ _ _ _ => pg_tl rfl (pgs_cons (pg_name (i := 3) nd rfl (by first | exact .inl rfl | exact .inr rfl)) (pgs_cons (pg_name (i := 4) nd rfl (by first | exact .inl rfl | exact .inr rfl)) (pgs_nil)))) (fun _ _ _ _ _ => g_yes) (fun _ _ _ _ _ => g_iter (g_calln c_windows_in (hr.mono (by decide)) (by rfl) takes0 (g_cons (g_var 0 (pv 0)) (g_cons (g_var 2 (pv 2)) (g_cons (g_var 3 (pv 3)) (g_cons (g_var 4 (pv 4)) (g_nil) rfl) rfl) rfl) rfl) (by decide) rfl rfl)) (fun _ _ _ _ _ => pg_name (i := 5) nd rfl (by first | exact .inl rfl | exact .inr rfl)) (fun _ _ _ _ _ => g_yes) (fun _ _ _ _ _ => g_var 5 (pv 5)))))
theorem ok_check_raced_misses (T : Bt mg) (XX : Xt K mg) (S : Std K mg "check_raced_misses" "check_raced" s_check_raced_misses) (c_check_track : Kn P w K mg base "check_track" s_check_track ["track"] 4 F_check_track) (c_check_race : Kn P w K mg base "check_race" s_check_race ["track", "race"] 10 F_check_race) : Kn P w K mg base "check_raced_misses" s_check_raced_misses ["track", "race"] 11 F_check_raced_misses := by
  refine kn_of (N := ["track", "race"]) (k := 10) (B := B_check_raced_misses) S sc_check_raced_misses rfl rfl (fun _ _ _ _ _ _ us hl => match us, hl with | [_, _], _ => rfl) fun f cdv A outer s' H E hr => ?_
  have nd := sc_check_raced_misses.nd
  have tk : Takes (cxOf (L2.CX P w) P w K mg base ["track", "race"] "check_raced" (defScope s_check_raced_misses) f cdv A outer s' H E) (Wd E) := takes_of rfl rfl rfl rfl
  exact s_cons (s_expr (g_calln c_check_track (hr.mono (by decide)) (by rfl) tk (g_cons (g_var 0 (pv 0)) (g_nil) rfl) (by decide) rfl rfl) rfl) (s_one (s_expr (g_calln c_check_race (hr.mono (by decide)) (by rfl) tk (g_cons (g_var 0 (pv 0)) (g_cons (g_var 1 (pv 1)) (g_nil) rfl) rfl) (by decide) rfl rfl) rfl))
theorem ok_check_looked_at (T : Bt mg) (XX : Xt K mg) (S : Std K mg "check_looked_at" "check_looked_at" s_check_looked_at) (c_check_raced_misses : Kn P w K mg base "check_raced_misses" s_check_raced_misses ["track", "race"] 11 F_check_raced_misses) (c_check_mat : Kn P w K mg base "check_mat" s_check_mat ["track", "mat"] 5 F_check_mat) : Kn P w K mg base "check_looked_at" s_check_looked_at ["track", "race", "mat"] 12 F_check_looked_at_v2 := by
  refine kn_of (N := ["track", "race", "mat"]) (k := 11) (B := B_check_looked_at_v2) S sc_check_looked_at rfl rfl (fun _ _ _ _ _ _ us hl => match us, hl with | [_, _, _], _ => rfl) fun f cdv A outer s' H E hr => ?_
  have nd := sc_check_looked_at.nd
  have tk : Takes (cxOf (L2.CX P w) P w K mg base ["track", "race", "mat"] "check_looked_at" (defScope s_check_looked_at) f cdv A outer s' H E) (Wd E) := takes_of rfl rfl rfl rfl
  exact s_cons (s_expr (g_calln c_check_raced_misses (hr.mono (by decide)) (by rfl) tk (g_cons (g_var 0 (pv 0)) (g_cons (g_var 1 (pv 1)) (g_nil) rfl) rfl) (by decide) rfl rfl) rfl) (s_one (s_expr (g_calln c_check_mat (hr.mono (by decide)) (by rfl) tk (g_cons (g_var 0 (pv 0)) (g_cons (g_var 2 (pv 2)) (g_nil) rfl) rfl) (by decide) rfl rfl) rfl))
theorem ok_least_misses (T : Bt mg) (XX : Xt K mg) (S : Std K mg "least_misses" "least_misses" s_least_misses) (c_check_raced_misses : Kn P w K mg base "check_raced_misses" s_check_raced_misses ["track", "race"] 11 F_check_raced_misses) (c_least_misses_by : Kn P w K mg base "least_misses_by" s_least_misses_by ["track", "race"] 4 F_least_misses_by) : Kn P w K mg base "least_misses" s_least_misses ["track", "race"] 12 F_least_misses_v2 := by
  refine kn_of (N := ["track", "race"]) (k := 11) (B := B_least_misses_v2) S sc_least_misses rfl rfl (fun _ _ _ _ _ _ us hl => match us, hl with | [_, _], _ => rfl) fun f cdv A outer s' H E hr => ?_
  have nd := sc_least_misses.nd
  have tk : Takes (cxOf (L2.CX P w) P w K mg base ["track", "race"] "least_misses" (defScope s_least_misses) f cdv A outer s' H E) (Wd E) := takes_of rfl rfl rfl rfl
  exact s_cons (s_expr (g_calln c_check_raced_misses (hr.mono (by decide)) (by rfl) tk (g_cons (g_var 0 (pv 0)) (g_cons (g_var 1 (pv 1)) (g_nil) rfl) rfl) (by decide) rfl rfl) rfl) (s_one (s_ret (g_calln c_least_misses_by (hr.mono (by decide)) (by rfl) tk (g_cons (g_var 0 (pv 0)) (g_cons (g_var 1 (pv 1)) (g_nil) rfl) rfl) (by decide) rfl rfl)))
theorem ok_windows (T : Bt mg) (XX : Xt K mg) (S : Std K mg "windows" "windows" s_windows) (c_check_looked_at : Kn P w K mg base "check_looked_at" s_check_looked_at ["track", "race", "mat"] 12 F_check_looked_at_v2) (c_windows_by : Kn P w K mg base "windows_by" s_windows_by ["track", "race", "mat"] 5 F_windows_by) : Kn P w K mg base "windows" s_windows ["track", "race", "mat"] 13 F_windows_v2 := by
  refine kn_of (N := ["track", "race", "mat"]) (k := 12) (B := B_windows_v2) S sc_windows rfl rfl (fun _ _ _ _ _ _ us hl => match us, hl with | [_, _, _], _ => rfl) fun f cdv A outer s' H E hr => ?_
  have nd := sc_windows.nd
  have tk : Takes (cxOf (L2.CX P w) P w K mg base ["track", "race", "mat"] "windows" (defScope s_windows) f cdv A outer s' H E) (Wd E) := takes_of rfl rfl rfl rfl
  exact s_cons (s_expr (g_calln c_check_looked_at (hr.mono (by decide)) (by rfl) tk (g_cons (g_var 0 (pv 0)) (g_cons (g_var 1 (pv 1)) (g_cons (g_var 2 (pv 2)) (g_nil) rfl) rfl) rfl) (by decide) rfl rfl) rfl) (s_one (s_ret (g_blt (pe_callTy call_tuple_of (by rfl) T.tuple bt_tuple (g_cons (g_calln c_windows_by (hr.mono (by decide)) (by rfl) tk (g_cons (g_var 0 (pv 0)) (g_cons (g_var 1 (pv 1)) (g_cons (g_var 2 (pv 2)) (g_nil) rfl) rfl) rfl) (by decide) rfl rfl) (g_nil) rfl)) v_tuple)))
theorem ok_check_marks (T : Bt mg) (XX : Xt K mg) (S : Std K mg "check_marks" "check_marks" s_check_marks) (c_check_track : Kn P w K mg base "check_track" s_check_track ["track"] 4 F_check_track) (c_check_bag : Kn P w K mg base "check_bag" s_check_bag ["track", "bag"] 7 F_check_bag) : Kn P w K mg base "check_marks" s_check_marks ["track", "row"] 8 F_check_marks := by
  refine kn_of (N := ["track", "row"]) (k := 7) (B := B_check_marks) S sc_check_marks rfl rfl (fun _ _ _ _ _ _ us hl => match us, hl with | [_, _], _ => rfl) fun f cdv A outer s' H E hr => ?_
  have nd := sc_check_marks.nd
  have tk : Takes (cxOf (L2.CX P w) P w K mg base ["track", "row"] "check_marks" (defScope s_check_marks) f cdv A outer s' H E) (Wd E) := takes_of rfl rfl rfl rfl
  exact s_cons (s_expr (g_calln c_check_track (hr.mono (by decide)) (by rfl) tk (g_cons (g_var 0 (pv 0)) (g_nil) rfl) (by decide) rfl rfl) rfl) (s_one (s_expr (g_calln c_check_bag (hr.mono (by decide)) (by rfl) tk (g_cons (g_var 0 (pv 0)) (g_cons (g_var 1 (pv 1)) (g_nil) rfl) rfl) (by decide) rfl rfl) rfl))
theorem ok_all_most (T : Bt mg) (XX : Xt K mg) (S : Std K mg "all_most" "all_most" s_all_most) (c_check_marks : Kn P w K mg base "check_marks" s_check_marks ["track", "row"] 8 F_check_marks) (c_check_fit_row : Kn P w K mg base "check_fit_row" s_check_fit_row ["track", "row"] 7 F_check_fit_row) (c_extras_by : Kn P w K mg base "extras_by" s_extras_by ["track", "row"] 5 F_extras_by) : Kn P w K mg base "all_most" s_all_most ["track", "row"] 9 F_all_most := by
  refine kn_of (N := ["track", "row"]) (k := 8) (B := B_all_most) S sc_all_most rfl rfl (fun _ _ _ _ _ _ us hl => match us, hl with | [_, _], _ => rfl) fun f cdv A outer s' H E hr => ?_
  have nd := sc_all_most.nd
  have tk : Takes (cxOf (L2.CX P w) P w K mg base ["track", "row"] "all_most" (defScope s_all_most) f cdv A outer s' H E) (Wd E) := takes_of rfl rfl rfl rfl
  exact s_cons (s_expr (g_calln c_check_marks (hr.mono (by decide)) (by rfl) tk (g_cons (g_var 0 (pv 0)) (g_cons (g_var 1 (pv 1)) (g_nil) rfl) rfl) (by decide) rfl rfl) rfl) (s_cons (s_expr (g_calln c_check_fit_row (hr.mono (by decide)) (by rfl) tk (g_cons (g_var 0 (pv 0)) (g_cons (g_var 1 (pv 1)) (g_nil) rfl) rfl) (by decide) rfl rfl) rfl) (s_one (s_ret (g_blt (pe_callTy call_tuple_of (by rfl) T.tuple bt_tuple (g_cons (g_calln c_extras_by (hr.mono (by decide)) (by rfl) tk (g_cons (g_var 0 (pv 0)) (g_cons (g_var 1 (pv 1)) (g_nil) rfl) rfl) (by decide) rfl rfl) (g_nil) rfl)) v_tuple))))
theorem ok_missed (T : Bt mg) (XX : Xt K mg) (S : Std K mg "missed" "missed" s_missed) (c_check_marks : Kn P w K mg base "check_marks" s_check_marks ["track", "row"] 8 F_check_marks) (c_check_fit_row : Kn P w K mg base "check_fit_row" s_check_fit_row ["track", "row"] 7 F_check_fit_row) (c_wrong_in_extras : Kn P w K mg base "wrong_in_extras" s_wrong_in_extras ["track", "row", "value"] 6 F_wrong_in_extras) (c_missed_by : Kn P w K mg base "missed_by" s_missed_by ["track", "row", "extras"] 3 F_missed_by) : Kn P w K mg base "missed" s_missed ["track", "row", "extras"] 9 F_missed := by
  refine kn_of (N := ["track", "row", "extras", "index"]) (k := 8) (B := B_missed) S sc_missed rfl rfl (fun _ _ _ _ _ _ us hl => match us, hl with | [_, _, _], _ => rfl) fun f cdv A outer s' H E hr => ?_
  have nd := sc_missed.nd
  have tk : Takes (cxOf (L2.CX P w) P w K mg base ["track", "row", "extras", "index"] "missed" (defScope s_missed) f cdv A outer s' H E) (Wd E) := takes_of rfl rfl rfl rfl
  exact s_cons (s_expr (g_calln c_check_marks (hr.mono (by decide)) (by rfl) tk (g_cons (g_var 0 (pv 0)) (g_cons (g_var 1 (pv 1)) (g_nil) rfl) rfl) (by decide) rfl rfl) rfl) (s_cons (s_expr (g_calln c_check_fit_row (hr.mono (by decide)) (by rfl) tk (g_cons (g_var 0 (pv 0)) (g_cons (g_var 1 (pv 1)) (g_nil) rfl) rfl) (by decide) rfl rfl) rfl) (s_cons (s_for (ps_for (passes_of rfl) rfl (g_iter (g_calln c_wrong_in_extras (hr.mono (by decide)) (by rfl) tk (g_cons (g_var 0 (pv 0)) (g_cons (g_var 1 (pv 1)) (g_cons (g_var 2 (pv 2)) (g_nil) rfl) rfl) rfl) (by decide) rfl rfl)) (t_tg (t := .nm 3) (pg_name (i := 3) nd rfl (by first | exact .inl rfl | exact .inr rfl))) (s_one (s_raise rfl XX.r_InvalidExtras hr tk (g_var 3 (pv 3)) (by rfl) (by decide) rfl rfl)))) (s_one (s_ret (g_blt (pe_callTy call_tuple_of (by rfl) T.tuple bt_tuple (g_cons (g_calln c_missed_by (hr.mono (by decide)) (by rfl) tk (g_cons (g_var 0 (pv 0)) (g_cons (g_var 1 (pv 1)) (g_cons (g_var 2 (pv 2)) (g_nil) rfl) rfl) rfl) (by decide) rfl rfl) (g_nil) rfl)) v_tuple)))))
theorem ok_can_follow (T : Bt mg) (XX : Xt K mg) (S : Std K mg "can_follow" "can_follow" s_can_follow) (c_check_track : Kn P w K mg base "check_track" s_check_track ["track"] 4 F_check_track) (c_check_mark : Kn P w K mg base "check_mark" s_check_mark ["track", "mark"] 6 F_check_mark) (c_can_follow_by : Kn P w K mg base "can_follow_by" s_can_follow_by ["track", "mark", "other"] 4 F_can_follow_by) : Kn P w K mg base "can_follow" s_can_follow ["track", "mark", "other"] 7 F_can_follow := by
  refine kn_of (N := ["track", "mark", "other"]) (k := 6) (B := B_can_follow) S sc_can_follow rfl rfl (fun _ _ _ _ _ _ us hl => match us, hl with | [_, _, _], _ => rfl) fun f cdv A outer s' H E hr => ?_
  have nd := sc_can_follow.nd
  have tk : Takes (cxOf (L2.CX P w) P w K mg base ["track", "mark", "other"] "can_follow" (defScope s_can_follow) f cdv A outer s' H E) (Wd E) := takes_of rfl rfl rfl rfl
  exact s_cons (s_expr (g_calln c_check_track (hr.mono (by decide)) (by rfl) tk (g_cons (g_var 0 (pv 0)) (g_nil) rfl) (by decide) rfl rfl) rfl) (s_cons (s_expr (g_calln c_check_mark (hr.mono (by decide)) (by rfl) tk (g_cons (g_var 0 (pv 0)) (g_cons (g_var 1 (pv 1)) (g_nil) rfl) rfl) (by decide) rfl rfl) rfl) (s_cons (s_expr (g_calln c_check_mark (hr.mono (by decide)) (by rfl) tk (g_cons (g_var 0 (pv 0)) (g_cons (g_var 2 (pv 2)) (g_nil) rfl) rfl) (by decide) rfl rfl) rfl) (s_one (s_ret (g_calln c_can_follow_by (hr.mono (by decide)) (by rfl) tk (g_cons (g_var 0 (pv 0)) (g_cons (g_var 1 (pv 1)) (g_cons (g_var 2 (pv 2)) (g_nil) rfl) rfl) rfl) (by decide) rfl rfl)))))
theorem ok_check_raced_races (T : Bt mg) (XX : Xt K mg) (S : Std K mg "check_raced_races" "check_raced" s_check_raced_races) (c_check_track : Kn P w K mg base "check_track" s_check_track ["track"] 4 F_check_track) (c_check_race : Kn P w K mg base "check_race" s_check_race ["track", "race"] 10 F_check_race) (c_check_runner : Kn P w K mg base "check_runner" s_check_runner ["race", "runner"] 5 F_check_runner) : Kn P w K mg base "check_raced_races" s_check_raced_races ["track", "race", "runner"] 11 F_check_raced_races := by
  refine kn_of (N := ["track", "race", "runner"]) (k := 10) (B := B_check_raced_races) S sc_check_raced_races rfl rfl (fun _ _ _ _ _ _ us hl => match us, hl with | [_, _, _], _ => rfl) fun f cdv A outer s' H E hr => ?_
  have nd := sc_check_raced_races.nd
  have tk : Takes (cxOf (L2.CX P w) P w K mg base ["track", "race", "runner"] "check_raced" (defScope s_check_raced_races) f cdv A outer s' H E) (Wd E) := takes_of rfl rfl rfl rfl
  exact s_cons (s_expr (g_calln c_check_track (hr.mono (by decide)) (by rfl) tk (g_cons (g_var 0 (pv 0)) (g_nil) rfl) (by decide) rfl rfl) rfl) (s_cons (s_expr (g_calln c_check_race (hr.mono (by decide)) (by rfl) tk (g_cons (g_var 0 (pv 0)) (g_cons (g_var 1 (pv 1)) (g_nil) rfl) rfl) (by decide) rfl rfl) rfl) (s_one (s_expr (g_calln c_check_runner (hr.mono (by decide)) (by rfl) tk (g_cons (g_var 1 (pv 1)) (g_cons (g_var 2 (pv 2)) (g_nil) rfl) rfl) (by decide) rfl rfl) rfl)))
theorem ok_full_row (T : Bt mg) (XX : Xt K mg) (S : Std K mg "full_row" "full_row" s_full_row) (c_check_raced_races : Kn P w K mg base "check_raced_races" s_check_raced_races ["track", "race", "runner"] 11 F_check_raced_races) (c_full_row_by : Kn P w K mg base "full_row_by" s_full_row_by ["race", "runner"] 1 F_full_row_by) : Kn P w K mg base "full_row" s_full_row ["track", "race", "runner"] 12 F_full_row := by
  refine kn_of (N := ["track", "race", "runner"]) (k := 11) (B := B_full_row) S sc_full_row rfl rfl (fun _ _ _ _ _ _ us hl => match us, hl with | [_, _, _], _ => rfl) fun f cdv A outer s' H E hr => ?_
  have nd := sc_full_row.nd
  have tk : Takes (cxOf (L2.CX P w) P w K mg base ["track", "race", "runner"] "full_row" (defScope s_full_row) f cdv A outer s' H E) (Wd E) := takes_of rfl rfl rfl rfl
  exact s_cons (s_expr (g_calln c_check_raced_races (hr.mono (by decide)) (by rfl) tk (g_cons (g_var 0 (pv 0)) (g_cons (g_var 1 (pv 1)) (g_cons (g_var 2 (pv 2)) (g_nil) rfl) rfl) rfl) (by decide) rfl rfl) rfl) (s_one (s_ret (g_calln c_full_row_by (hr.mono (by decide)) (by rfl) tk (g_cons (g_var 1 (pv 1)) (g_cons (g_var 2 (pv 2)) (g_nil) rfl) rfl) (by decide) rfl rfl)))
theorem ok__law_well (T : Bt mg) (XX : Xt K mg) (S : Std K mg "_law_well" "_law_well" s__law_well) : Kn P w K mg base "_law_well" s__law_well ["script", "lap"] 1 F__law_well := by
  refine kn_of (N := ["script", "lap", "own", "stir", "each"]) (k := 0) (B := B__law_well) S sc__law_well rfl rfl (fun _ _ _ _ _ _ us hl => match us, hl with | [_, _], _ => rfl) fun f cdv A outer s' H E hr => ?_
  have nd := sc__law_well.nd
  have tk : Takes (cxOf (L2.CX P w) P w K mg base ["script", "lap", "own", "stir", "each"] "_law_well" (defScope s__law_well) f cdv A outer s' H E) (Wd E) := takes_of rfl rfl rfl rfl
  exact s_cons (s_set (ps_set (i := 2) nd rfl (.inl rfl) (g_if (g_tcmp (o_lt hr.units0) v_lt (g_var 1 (pv 1)) (g_blt (pe_callB c_len (by rfl) T.len bt_len (g_cons (g_var 0 (pv 0)) (g_nil) rfl)) v_len) (nomark _)) (g_blt (pe_callTy call_int1 (by rfl) T.int bt_int (g_cons (g_ix (g_var 0 (pv 0)) (g_var 1 (pv 1)) (fun _ _ => rfl)) (g_nil) rfl)) v_int) (g_int)))) (s_cons (s_set (ps_set (i := 3) nd rfl (.inl rfl) (g_op o_add v_add (g_int) (g_op o_mul v_mul (g_int) (g_var 1 (pv 1)))))) (s_cons (s_for (ps_for (passes_of rfl) rfl (g_iter (g_op o_add v_add (g_slice (g_var 0 (pv 0)) (g_no) (g_some (g_int))) (g_lst (g_cons (g_var 2 (pv 2)) (g_nil) rfl)))) (t_tg (t := .nm 4) (pg_name (i := 4) nd rfl (by first | exact .inl rfl | exact .inr rfl))) (s_one (s_set (ps_set (i := 3) nd rfl (.inl rfl) (g_op op_mod v_mod (g_blt (pe_callTy call_int1 (by rfl) T.int bt_int (g_cons (g_op o_add v_add (g_op o_add v_add (g_op o_mul v_mul (g_var 3 (pv 3)) (g_int)) (g_op op_mod v_mod (g_blt (pe_callTy call_int1 (by rfl) T.int bt_int (g_cons (g_var 4 (pv 4)) (g_nil) rfl)) v_int) (g_int))) (g_int)) (g_nil) rfl)) v_int) (g_int))))))) (s_one (s_ret (g_mut (g_cons (g_if ((g_or (g_tcmp (o_lt hr.units0) v_lt (g_var 2 (pv 2)) (g_int) (nomark _)) (g_or1 (g_tcmp op_ge (v_cmpI _) (g_var 2 (pv 2)) (g_op op_pow v_pow (g_int) (g_int)) (nomark _)))).pt) (g_blt (pe_callB call_abs (by rfl) T.abs bt_abs (g_cons (g_var 2 (pv 2)) (g_nil) rfl)) v_abs) (g_int)) (g_cons (g_var 3 (pv 3)) (g_cons (g_int) (g_nil) rfl) rfl) rfl))))))
theorem ok__law_take (T : Bt mg) (XX : Xt K mg) (S : Std K mg "_law_take" "_law_take" s__law_take) : Kn P w K mg base "_law_take" s__law_take ["well", "many"] 1 F__law_take := by
  refine kn_of (N := ["well", "many", "digit"]) (k := 0) (B := B__law_take) S sc__law_take rfl rfl (fun _ _ _ _ _ _ us hl => match us, hl with | [_, _], _ => rfl) fun f cdv A outer s' H E hr => ?_
  have nd := sc__law_take.nd
  have tk : Takes (cxOf (L2.CX P w) P w K mg base ["well", "many", "digit"] "_law_take" (defScope s__law_take) f cdv A outer s' H E) (Wd E) := takes_of rfl rfl rfl rfl
  exact s_cons (s_if (g_tcmp op_gt (v_cmpI _) (g_ix (g_var 0 (pv 0)) (g_int) (fun _ _ => rfl)) (g_int) (nomark _)) (s_cons (s_asg (ps_asg (g_blt (pe_callB c_divmod (by rfl) T.divmod bt_divmod (g_cons (g_ix (g_var 0 (pv 0)) (g_int) (fun _ _ => rfl)) (g_cons (g_var 1 (pv 1)) (g_nil) rfl) rfl)) v_divmod) (t_tup (pg_tup rfl (t_cons (t_sub (g_var 0 (pv 0)) (g_int) (pg_sub (g_var 0 (pv 0)) (g_int) set_list)) (t_cons (t_name (pg_name (i := 2) nd rfl (.inl rfl))) (t_nil) rfl) rfl))))) (s_one (s_ret (g_var 2 (pv 2))))) (s_nil)) (s_cons (s_asg (ps_asg (g_op o_add v_add (g_ix (g_var 0 (pv 0)) (g_int) (fun _ _ => rfl)) (g_int)) (t_sub (g_var 0 (pv 0)) (g_int) (pg_sub (g_var 0 (pv 0)) (g_int) set_list)))) (s_cons (s_asg (ps_asg (g_op op_mod v_mod (g_blt (pe_callTy call_int1 (by rfl) T.int bt_int (g_cons (g_op o_add v_add (g_op o_add v_add (g_op o_mul v_mul (g_ix (g_var 0 (pv 0)) (g_int) (fun _ _ => rfl)) (g_int)) (g_op o_mul v_mul (g_ix (g_var 0 (pv 0)) (g_int) (fun _ _ => rfl)) (g_int))) (g_int)) (g_nil) rfl)) v_int) (g_int)) (t_sub (g_var 0 (pv 0)) (g_int) (pg_sub (g_var 0 (pv 0)) (g_int) set_list)))) (s_one (s_ret (g_op op_mod v_mod (g_blt (pe_callTy call_int1 (by rfl) T.int bt_int (g_cons (g_op op_fdivW v_fdiv (g_ix (g_var 0 (pv 0)) (g_int) (fun _ _ => rfl)) (g_int)) (g_nil) rfl)) v_int) (g_var 1 (pv 1)))))))
theorem ok__law_of (T : Bt mg) (XX : Xt K mg) (S : Std K mg "_law_of" "_law_of" s__law_of) (c__law_take : Kn P w K mg base "_law_take" s__law_take ["well", "many"] 1 F__law_take) : Kn P w K mg base "_law_of" s__law_of ["well", "things"] 2 F__law_of := by
  refine kn_of (N := ["well", "things"]) (k := 1) (B := B__law_of) S sc__law_of rfl rfl (fun _ _ _ _ _ _ us hl => match us, hl with | [_, _], _ => rfl) fun f cdv A outer s' H E hr => ?_
  have nd := sc__law_of.nd
  have tk : Takes (cxOf (L2.CX P w) P w K mg base ["well", "things"] "_law_of" (defScope s__law_of) f cdv A outer s' H E) (Wd E) := takes_of rfl rfl rfl rfl
  exact s_one (s_ret (g_ix (g_var 1 (pv 1)) (g_calln c__law_take (hr.mono (by decide)) (by rfl) tk (g_cons (g_var 0 (pv 0)) (g_cons (g_blt (pe_callB c_len (by rfl) T.len bt_len (g_cons (g_var 1 (pv 1)) (g_nil) rfl)) v_len) (g_nil) rfl) rfl) (by decide) rfl rfl) (fun _ _ => rfl)))
theorem ok__law_same (T : Bt mg) (XX : Xt K mg) (S : Std K mg "_law_same" "_law_same" s__law_same) : Kn P w K mg base "_law_same" s__law_same ["told", "due"] 21 F__law_same_v2 := by
  have all : ∀ n, Kn P w K mg base "_law_same" s__law_same ["told", "due"] (1 + n) (R__law_same_v2 n) := by
    intro n
    induction n with
    | zero => exact kn_fail S (fun _ _ _ _ _ _ us hl => match us, hl with | [_, _], _ => rfl)
    | succ j c__law_same =>
      refine kn_of (N := ["told", "due", "at"]) (k := 1 + j) (B := B__law_same_v2 (R__law_same_v2 j)) S sc__law_same rfl rfl (fun _ _ _ _ _ _ us hl => match us, hl with | [_, _], _ => rfl) fun f cdv A outer s' H E hr => ?_
      have nd := sc__law_same.nd
      have tk : Takes (cxOf (L2.CX P w) P w K mg base ["told", "due", "at"] "_law_same" (defScope s__law_same) f cdv A outer s' H E) (Wd E) := takes_of rfl rfl rfl rfl
      exact s_cons (s_if ((g_or ((g_and (g_tval (g_isi .tup (g_var 1 (pv 1)) (fun h => pe_callB call_isi (by rfl) T.isinstance bt_isinstance (pa_cons h (pa_cons (pe_bltn (by rfl) T.tuple bt_tuple rfl) pa_nil)))) (by intro _; rfl)) (g_and1 (g_tnot (g_tval (g_isi .tup (g_var 0 (pv 0)) (fun h => pe_callB call_isi (by rfl) T.isinstance bt_isinstance (pa_cons h (pa_cons (pe_bltn (by rfl) T.tuple bt_tuple rfl) pa_nil)))) (by intro _; rfl))))).pt) (g_or1 ((g_and (g_tval (g_isi .lst (g_var 1 (pv 1)) (fun h => pe_callB call_isi (by rfl) T.isinstance bt_isinstance (pa_cons h (pa_cons (pe_bltn (by rfl) T.list bt_list rfl) pa_nil)))) (by intro _; rfl)) (g_and1 (g_tnot (g_tval (g_isi .lst (g_var 0 (pv 0)) (fun h => pe_callB call_isi (by rfl) T.isinstance bt_isinstance (pa_cons h (pa_cons (pe_bltn (by rfl) T.list bt_list rfl) pa_nil)))) (by intro _; rfl))))).pt))).pt) (s_one (s_ret (g_bl))) (s_nil)) (s_cons (s_if (g_tval (g_isi2 .tup .lst (g_var 1 (pv 1)) (fun h => pe_callB call_isiT (by rfl) T.isinstance bt_isinstance (pa_cons h (pa_cons (pe_tup (pa_cons (pe_bltn (by rfl) T.tuple bt_tuple rfl) (pa_cons (pe_bltn (by rfl) T.list bt_list rfl) pa_nil))) pa_nil)))) (by intro _; rfl)) (s_one (s_ret (g_vand (g_cmp (o_eq hr.units) v_eq (g_blt (pe_callB c_len (by rfl) T.len bt_len (g_cons (g_var 0 (pv 0)) (g_nil) rfl)) v_len) (g_blt (pe_callB c_len (by rfl) T.len bt_len (g_cons (g_var 1 (pv 1)) (g_nil) rfl)) v_len) (nomark _)) (g_one (g_blt (pe_callB (cq_all rfl) (by rfl) T.all bt_all (g_cons (g_lc (by decide) (pe_lc (own := [("at", 2)]) rfl nd (g_range1 (pi_range1 (by rfl) T.range (g_cons (g_blt (pe_callB c_len (by rfl) T.len bt_len (g_cons (g_var 1 (pv 1)) (g_nil) rfl)) v_len) (g_nil) rfl))) (blkOk_by (N := ["told", "due", "at"]) (sc := defScope s__law_same) (by decide +kernel)) (fun _ _ _ _ _ => pg_name (i := 2) nd rfl (by first | exact .inl rfl | exact .inr rfl)) (fun _ _ _ _ _ => g_yes) (fun _ _ _ _ _ => g_calln c__law_same (hr.mono (by omega)) (by rfl) takes0 (g_cons (g_ix (g_var 0 (pv 0)) (g_var 2 (pv 2)) (fun _ _ => rfl)) (g_cons (g_ix (g_var 1 (pv 1)) (g_var 2 (pv 2)) (fun _ _ => rfl)) (g_nil) rfl) rfl) (by decide) rfl rfl))) (g_nil) rfl)) v_all))))) (s_nil)) (s_cons (s_if ((g_or (g_tcmp op_isN v_isN (g_var 1 (pv 1)) (g_non) (nomark _)) (g_or1 (g_tcmp op_isN v_isN (g_var 0 (pv 0)) (g_non) (nomark _)))).pt) (s_one (s_ret (g_vand (g_cmp op_isN v_isN (g_var 1 (pv 1)) (g_non) (nomark _)) (g_one (g_cmp op_isN v_isN (g_var 0 (pv 0)) (g_non) (nomark _)))))) (s_nil)) (s_cons (s_if ((g_or (g_tval (g_isi .bl (g_var 1 (pv 1)) (fun h => pe_callB call_isi (by rfl) T.isinstance bt_isinstance (pa_cons h (pa_cons (pe_bltn (by rfl) T.bool bt_bool rfl) pa_nil)))) (by intro _; rfl)) (g_or1 (g_tval (g_isi .bl (g_var 0 (pv 0)) (fun h => pe_callB call_isi (by rfl) T.isinstance bt_isinstance (pa_cons h (pa_cons (pe_bltn (by rfl) T.bool bt_bool rfl) pa_nil)))) (by intro _; rfl)))).pt) (s_one (s_ret (g_vand (g_isi .bl (g_var 1 (pv 1)) (fun h => pe_callB call_isi (by rfl) T.isinstance bt_isinstance (pa_cons h (pa_cons (pe_bltn (by rfl) T.bool bt_bool rfl) pa_nil)))) (g_vand (g_isi .bl (g_var 0 (pv 0)) (fun h => pe_callB call_isi (by rfl) T.isinstance bt_isinstance (pa_cons h (pa_cons (pe_bltn (by rfl) T.bool bt_bool rfl) pa_nil)))) (g_one (g_cmp (o_eq hr.units) v_eq (g_var 1 (pv 1)) (g_var 0 (pv 0)) (nomark _))))))) (s_nil)) (s_cons (s_if (g_tval (g_isi .int (g_var 1 (pv 1)) (fun h => pe_callB call_isi (by rfl) T.isinstance bt_isinstance (pa_cons h (pa_cons (pe_bltn (by rfl) T.int bt_int rfl) pa_nil)))) (by intro _; rfl)) (s_one (s_ret (g_vand (g_isi .int (g_var 0 (pv 0)) (fun h => pe_callB call_isi (by rfl) T.isinstance bt_isinstance (pa_cons h (pa_cons (pe_bltn (by rfl) T.int bt_int rfl) pa_nil)))) (g_one (g_cmp (o_eq hr.units) v_eq (g_var 0 (pv 0)) (g_var 1 (pv 1)) (nomark _)))))) (s_nil)) (s_cons (s_if (g_tval (g_isi .str (g_var 1 (pv 1)) (fun h => pe_callB call_isi (by rfl) T.isinstance bt_isinstance (pa_cons h (pa_cons (pe_bltn (by rfl) T.str bt_str rfl) pa_nil)))) (by intro _; rfl)) (s_one (s_ret (g_vand (g_isi .str (g_var 0 (pv 0)) (fun h => pe_callB call_isi (by rfl) T.isinstance bt_isinstance (pa_cons h (pa_cons (pe_bltn (by rfl) T.str bt_str rfl) pa_nil)))) (g_one (g_cmp (o_eq hr.units) v_eq (g_var 0 (pv 0)) (g_var 1 (pv 1)) (nomark _)))))) (s_nil)) (s_one (s_ret (g_vand (g_isi .dic (g_var 1 (pv 1)) (fun h => pe_callB call_isi (by rfl) T.isinstance bt_isinstance (pa_cons h (pa_cons (pe_bltn (by rfl) T.dict bt_dict rfl) pa_nil)))) (g_vand (g_isi .dic (g_var 0 (pv 0)) (fun h => pe_callB call_isi (by rfl) T.isinstance bt_isinstance (pa_cons h (pa_cons (pe_bltn (by rfl) T.dict bt_dict rfl) pa_nil)))) (g_vand (g_cmp (o_eq hr.units) v_eq (g_blt (pe_callB c_len (by rfl) T.len bt_len (g_cons (g_var 0 (pv 0)) (g_nil) rfl)) v_len) (g_blt (pe_callB c_len (by rfl) T.len bt_len (g_cons (g_var 1 (pv 1)) (g_nil) rfl)) v_len) (nomark _)) (g_one (g_cmp (o_eq hr.units) v_eq (g_var 0 (pv 0)) (g_var 1 (pv 1)) (nomark _)))))))))))))
  exact all 20
theorem ok__law_track (T : Bt mg) (XX : Xt K mg) (S : Std K mg "_law_track" "_law_track" s__law_track) (c__law_of : Kn P w K mg base "_law_of" s__law_of ["well", "things"] 2 F__law_of) (c__law_take : Kn P w K mg base "_law_take" s__law_take ["well", "many"] 1 F__law_take) : Kn P w K mg base "_law_track" s__law_track ["well"] 3 F__law_track := by
  refine kn_of (N := ["well", "wide", "mat"]) (k := 2) (B := B__law_track) S sc__law_track rfl rfl (fun _ _ _ _ _ _ us hl => match us, hl with | [_], _ => rfl) fun f cdv A outer s' H E hr => ?_
  have nd := sc__law_track.nd
  have tk : Takes (cxOf (L2.CX P w) P w K mg base ["well", "wide", "mat"] "_law_track" (defScope s__law_track) f cdv A outer s' H E) (Wd E) := takes_of rfl rfl rfl rfl
  exact s_cons (s_set (ps_set (i := 1) nd rfl (.inr rfl) (g_calln c__law_of (hr.mono (by decide)) (by rfl) tk (g_cons (g_var 0 (pv 0)) (g_cons (g_tup (g_cons (g_int) (g_cons (g_int) (g_cons (g_int) (g_nil) rfl) rfl) rfl)) (g_nil) rfl) rfl) (by decide) rfl rfl))) (s_one (s_ret (g_blt (pe_callTy call_tuple_of (by rfl) T.tuple bt_tuple (g_cons (g_lc (by decide) (pe_lc (own := [("mat", 2)]) rfl nd (g_range1 (pi_range1 (by rfl) T.range (g_cons (g_op o_add v_add (g_int) (g_calln c__law_take (hr.mono (by decide)) (by rfl) tk (g_cons (g_var 0 (pv 0)) (g_cons (g_calln c__law_of (hr.mono (by decide)) (by rfl) tk (g_cons (g_var 0 (pv 0)) (g_cons (g_tup (g_cons (g_int) (g_cons (g_int) (g_cons (g_int) (g_nil) rfl) rfl) rfl)) (g_nil) rfl) rfl) (by decide) rfl rfl) (g_nil) rfl) rfl) (by decide) rfl rfl)) (g_nil) rfl))) (blkOk_by (N := ["well", "wide", "mat"]) (sc := defScope s__law_track) (by decide +kernel)) (fun _ _ _ _ _ => pg_name (i := 2) nd rfl (by first | exact .inl rfl | exact .inr rfl)) (fun _ _ _ _ _ => g_yes) (fun _ _ _ _ _ => g_op o_add v_add (g_int) (g_calln c__law_take (hr.mono (by decide)) (by rfl) takes0 (g_cons (g_var 0 (pv 0)) (g_cons (g_var 1 (pv 1)) (g_nil) rfl) rfl) (by decide) rfl rfl)))) (g_nil) rfl)) v_tuple)))
theorem ok__law_reach (T : Bt mg) (XX : Xt K mg) (S : Std K mg "_law_reach" "_law_reach" s__law_reach) : Kn P w K mg base "_law_reach" s__law_reach ["track", "mat", "number"] 1 F__law_reach_v3 := by
  refine kn_of (N := ["track", "mat", "number", "many", "found", "k"]) (k := 0) (B := B__law_reach_v3) S sc__law_reach rfl rfl (fun _ _ _ _ _ _ us hl => match us, hl with | [_, _, _], _ => rfl) fun f cdv A outer s' H E hr => ?_
  have nd := sc__law_reach.nd
  have tk : Takes (cxOf (L2.CX P w) P w K mg base ["track", "mat", "number", "many", "found", "k"] "_law_reach" (defScope s__law_reach) f cdv A outer s' H E) (Wd E) := takes_of rfl rfl rfl rfl
  exact s_cons (s_set (ps_set (i := 3) nd rfl (.inl rfl) (g_blt (pe_callB c_len (by rfl) T.len bt_len (g_cons (g_var 0 (pv 0)) (g_nil) rfl)) v_len))) (s_cons (s_set (ps_set (i := 4) nd rfl (.inl rfl) (g_op o_mul v_mul (g_op op_fdivW v_fdiv (g_var 2 (pv 2)) (g_var 3 (pv 3))) (g_blt (pe_callB (cq_sum rfl) (by rfl) T.sum bt_sum (g_cons (g_var 0 (pv 0)) (g_nil) rfl)) v_sum)))) (s_cons (s_for (ps_for (passes_of rfl) rfl (g_range1 (pi_range1 (by rfl) T.range (g_cons (g_op op_mod v_mod (g_blt (pe_callTy call_int1 (by rfl) T.int bt_int (g_cons (g_var 2 (pv 2)) (g_nil) rfl)) v_int) (g_var 3 (pv 3))) (g_nil) rfl))) (t_tg (t := .nm 5) (pg_name (i := 5) nd rfl (by first | exact .inl rfl | exact .inr rfl))) (s_one (s_set (ps_set (i := 4) nd rfl (.inl rfl) (g_op o_add v_add (g_var 4 (pv 4)) (g_ix (g_var 0 (pv 0)) (g_op op_mod v_mod (g_blt (pe_callTy call_int1 (by rfl) T.int bt_int (g_cons (g_op o_add v_add (g_var 1 (pv 1)) (g_var 5 (pv 5))) (g_nil) rfl)) v_int) (g_var 3 (pv 3))) (fun _ _ => rfl)))))))) (s_one (s_ret (g_var 4 (pv 4))))))
theorem ok__law_steps (T : Bt mg) (XX : Xt K mg) (S : Std K mg "_law_steps" "_law_steps" s__law_steps) : Kn P w K mg base "_law_steps" s__law_steps ["track", "one", "other"] 1 F__law_steps_v4 := by
  refine kn_of (N := ["track", "one", "other", "many", "found"]) (k := 0) (B := B__law_steps_v4) S sc__law_steps rfl rfl (fun _ _ _ _ _ _ us hl => match us, hl with | [_, _, _], _ => rfl) fun f cdv A outer s' H E hr => ?_
  have nd := sc__law_steps.nd
  have tk : Takes (cxOf (L2.CX P w) P w K mg base ["track", "one", "other", "many", "found"] "_law_steps" (defScope s__law_steps) f cdv A outer s' H E) (Wd E) := takes_of rfl rfl rfl rfl
  exact s_cons (s_set (ps_set (i := 3) nd rfl (.inl rfl) (g_blt (pe_callB c_len (by rfl) T.len bt_len (g_cons (g_var 0 (pv 0)) (g_nil) rfl)) v_len))) (s_cons (s_set (ps_set (i := 4) nd rfl (.inl rfl) (g_op op_mod v_mod (g_blt (pe_callTy call_int1 (by rfl) T.int bt_int (g_cons (g_op op_sub v_sub (g_var 2 (pv 2)) (g_var 1 (pv 1))) (g_nil) rfl)) v_int) (g_var 3 (pv 3))))) (s_one (s_ret (g_if (g_tcmp op_gt (v_cmpI _) (g_var 4 (pv 4)) (g_int) (nomark _)) (g_var 4 (pv 4)) (g_var 3 (pv 3))))))
theorem ok__law_way (T : Bt mg) (XX : Xt K mg) (S : Std K mg "_law_way" "_law_way" s__law_way) (c__law_reach : Kn P w K mg base "_law_reach" s__law_reach ["track", "mat", "number"] 1 F__law_reach_v3) (c__law_steps : Kn P w K mg base "_law_steps" s__law_steps ["track", "one", "other"] 1 F__law_steps_v4) : Kn P w K mg base "_law_way" s__law_way ["track", "one", "other"] 2 F__law_way_v3 := by
  refine kn_of (N := ["track", "one", "other"]) (k := 1) (B := B__law_way_v3) S sc__law_way rfl rfl (fun _ _ _ _ _ _ us hl => match us, hl with | [_, _, _], _ => rfl) fun f cdv A outer s' H E hr => ?_
  have nd := sc__law_way.nd
  have tk : Takes (cxOf (L2.CX P w) P w K mg base ["track", "one", "other"] "_law_way" (defScope s__law_way) f cdv A outer s' H E) (Wd E) := takes_of rfl rfl rfl rfl
  exact s_one (s_ret (g_calln c__law_reach (hr.mono (by decide)) (by rfl) tk (g_cons (g_var 0 (pv 0)) (g_cons (g_var 1 (pv 1)) (g_cons (g_calln c__law_steps (hr.mono (by decide)) (by rfl) tk (g_cons (g_var 0 (pv 0)) (g_cons (g_var 1 (pv 1)) (g_cons (g_var 2 (pv 2)) (g_nil) rfl) rfl) rfl) (by decide) rfl rfl) (g_nil) rfl) rfl) rfl) (by decide) rfl rfl))
theorem ok__law_course (T : Bt mg) (XX : Xt K mg) (S : Std K mg "_law_course" "_law_course" s__law_course) (c__law_of : Kn P w K mg base "_law_of" s__law_of ["well", "things"] 2 F__law_of) (c__law_take : Kn P w K mg base "_law_take" s__law_take ["well", "many"] 1 F__law_take) : Kn P w K mg base "_law_course" s__law_course ["well", "track", "start", "most"] 3 F__law_course := by
  refine kn_of (N := ["well", "track", "start", "most", "found", "time", "mat", "slow", "share", "turn"]) (k := 2) (B := B__law_course) S sc__law_course rfl rfl (fun _ _ _ _ _ _ us hl => match us, hl with | [_, _, _, _], _ => rfl) fun f cdv A outer s' H E hr => ?_
  have nd := sc__law_course.nd
  have tk : Takes (cxOf (L2.CX P w) P w K mg base ["well", "track", "start", "most", "found", "time", "mat", "slow", "share", "turn"] "_law_course" (defScope s__law_course) f cdv A outer s' H E) (Wd E) := takes_of rfl rfl rfl rfl
  exact s_cons (s_asg (ps_asg (g_tup (g_cons (g_mut (g_nil)) (g_cons (g_var 2 (pv 2)) (g_cons (g_int) (g_cons (g_calln c__law_of (hr.mono (by decide)) (by rfl) tk (g_cons (g_var 0 (pv 0)) (g_cons (g_tup (g_cons (g_int) (g_cons (g_int) (g_cons (g_int) (g_nil) rfl) rfl) rfl)) (g_nil) rfl) rfl) (by decide) rfl rfl) (g_cons (g_calln c__law_of (hr.mono (by decide)) (by rfl) tk (g_cons (g_var 0 (pv 0)) (g_cons (g_tup (g_cons (g_int) (g_cons (g_int) (g_cons (g_int) (g_nil) rfl) rfl) rfl)) (g_nil) rfl) rfl) (by decide) rfl rfl) (g_nil) rfl) rfl) rfl) rfl) rfl)) (t_tup (pg_tup rfl (t_cons (t_name (pg_name (i := 4) nd rfl (.inl rfl))) (t_cons (t_name (pg_name (i := 5) nd rfl (.inl rfl))) (t_cons (t_name (pg_name (i := 6) nd rfl (.inl rfl))) (t_cons (t_name (pg_name (i := 7) nd rfl (.inl rfl))) (t_cons (t_name (pg_name (i := 8) nd rfl (.inl rfl))) (t_nil) rfl) rfl) rfl) rfl) rfl))))) (s_cons (s_for (ps_for (passes_of rfl) rfl (g_range1 (pi_range1 (by rfl) T.range (g_cons (g_int) (g_nil) rfl))) (t_tg (t := .nm 9) (pg_name (i := 9) nd rfl (by first | exact .inl rfl | exact .inr rfl))) (s_cons (s_par (ps_par (i := 5) (j := 6) rfl nd rfl rfl (by decide) rfl rfl (g_cons (g_op o_add v_add (g_op o_add v_add (g_var 5 (pv 5)) (g_ix (g_var 1 (pv 1)) (g_var 6 (pv 6)) (fun _ _ => rfl))) (g_calln c__law_take (hr.mono (by decide)) (by rfl) tk (g_cons (g_var 0 (pv 0)) (g_cons (g_var 7 (pv 7)) (g_nil) rfl) rfl) (by decide) rfl rfl)) (g_cons (g_op op_mod v_mod (g_blt (pe_callTy call_int1 (by rfl) T.int bt_int (g_cons (g_op o_add v_add (g_var 6 (pv 6)) (g_int)) (g_nil) rfl)) v_int) (g_blt (pe_callB c_len (by rfl) T.len bt_len (g_cons (g_var 1 (pv 1)) (g_nil) rfl)) v_len)) (g_nil) rfl) rfl) (by rfl))) (s_one (s_if ((g_and (g_tcmp op_gt (v_cmpI _) (g_calln c__law_take (hr.mono (by decide)) (by rfl) tk (g_cons (g_var 0 (pv 0)) (g_cons (g_var 8 (pv 8)) (g_nil) rfl) rfl) (by decide) rfl rfl) (g_int) (nomark _)) (g_and1 (g_tcmp (o_lt hr.units0) v_lt (g_blt (pe_callB c_len (by rfl) T.len bt_len (g_cons (g_var 4 (pv 4)) (g_nil) rfl)) v_len) (g_var 3 (pv 3)) (nomark _)))).pt) (s_one (s_expr (g_methL (pe_bm PySem.F.plainAttrs_list PySem.F.slot_list_append PySem.F.type_list_append mt_append (g_var 4 (pv 4)) (g_cons (g_tup (g_cons (g_var 5 (pv 5)) (g_cons (g_var 6 (pv 6)) (g_nil) rfl) rfl)) (g_nil) rfl)) v_append) rfl)) (s_nil)))))) (s_one (s_ret (g_blt (pe_callTy call_tuple_of (by rfl) T.tuple bt_tuple (g_cons (g_slice (g_var 4 (pv 4)) (g_no) (g_some (g_calln c__law_take (hr.mono (by decide)) (by rfl) tk (g_cons (g_var 0 (pv 0)) (g_cons (g_op o_add v_add (g_var 3 (pv 3)) (g_int)) (g_nil) rfl) rfl) (by decide) rfl rfl))) (g_nil) rfl)) v_tuple))))
theorem ok__law_race (T : Bt mg) (XX : Xt K mg) (S : Std K mg "_law_race" "_law_race" s__law_race) (c__law_of : Kn P w K mg base "_law_of" s__law_of ["well", "things"] 2 F__law_of) (c__law_take : Kn P w K mg base "_law_take" s__law_take ["well", "many"] 1 F__law_take) (c__law_course : Kn P w K mg base "_law_course" s__law_course ["well", "track", "start", "most"] 3 F__law_course) : Kn P w K mg base "_law_race" s__law_race ["well", "track", "most"] 4 F__law_race := by
  refine kn_of (N := ["well", "track", "most", "start", "runner"]) (k := 3) (B := B__law_race) S sc__law_race rfl rfl (fun _ _ _ _ _ _ us hl => match us, hl with | [_, _, _], _ => rfl) fun f cdv A outer s' H E hr => ?_
  have nd := sc__law_race.nd
  have tk : Takes (cxOf (L2.CX P w) P w K mg base ["well", "track", "most", "start", "runner"] "_law_race" (defScope s__law_race) f cdv A outer s' H E) (Wd E) := takes_of rfl rfl rfl rfl
  exact s_cons (s_set (ps_set (i := 3) nd rfl (.inr rfl) (g_calln c__law_of (hr.mono (by decide)) (by rfl) tk (g_cons (g_var 0 (pv 0)) (g_cons (g_tup (g_cons (g_int) (g_cons (g_int) (g_cons (g_op o_add v_add (g_op op_pow v_pow (g_int) (g_int)) (g_int)) (g_nil) rfl) rfl) rfl)) (g_nil) rfl) rfl) (by decide) rfl rfl))) (s_one (s_ret (g_tup (g_cons (g_var 3 (pv 3)) (g_cons (g_blt (pe_callTy call_tuple_of (by rfl) T.tuple bt_tuple (g_cons (g_lc (by decide) (pe_lc (own := [("runner", 4)]) rfl nd (g_range1 (pi_range1 (by rfl) T.range (g_cons (g_op o_add v_add (g_int) (g_calln c__law_take (hr.mono (by decide)) (by rfl) tk (g_cons (g_var 0 (pv 0)) (g_cons (g_int) (g_nil) rfl) rfl) (by decide) rfl rfl)) (g_nil) rfl))) (blkOk_by (N := ["well", "track", "most", "start", "runner"]) (sc := defScope s__law_race) (by decide +kernel)) (fun _ _ _ _ _ => pg_name (i := 4) nd rfl (by first | exact .inl rfl | exact .inr rfl)) (fun _ _ _ _ _ => g_yes) (fun _ _ _ _ _ => g_calln c__law_course (hr.mono (by decide)) (by rfl) takes0 (g_cons (g_var 0 (pv 0)) (g_cons (g_var 1 (pv 1)) (g_cons (g_var 3 (pv 3)) (g_cons (g_var 2 (pv 2)) (g_nil) rfl) rfl) rfl) rfl) (by decide) rfl rfl))) (g_nil) rfl)) v_tuple) (g_nil) rfl) rfl))))
theorem ok__law_full (T : Bt mg) (XX : Xt K mg) (S : Std K mg "_law_full" "_law_full" s__law_full) : Kn P w K mg base "_law_full" s__law_full ["race", "runner"] 1 F__law_full := by
  refine kn_of (N := ["race", "runner"]) (k := 0) (B := B__law_full) S sc__law_full rfl rfl (fun _ _ _ _ _ _ us hl => match us, hl with | [_, _], _ => rfl) fun f cdv A outer s' H E hr => ?_
  have nd := sc__law_full.nd
  have tk : Takes (cxOf (L2.CX P w) P w K mg base ["race", "runner"] "_law_full" (defScope s__law_full) f cdv A outer s' H E) (Wd E) := takes_of rfl rfl rfl rfl
  exact s_one (s_ret (g_op o_add v_add (g_tup (g_cons (g_tup (g_cons (g_ix (g_var 0 (pv 0)) (g_int) (fun _ _ => rfl)) (g_cons (g_int) (g_nil) rfl) rfl)) (g_nil) rfl)) (g_ix (g_ix (g_var 0 (pv 0)) (g_int) (fun _ _ => rfl)) (g_var 1 (pv 1)) (fun _ _ => rfl))))
theorem ok__law_windows (T : Bt mg) (XX : Xt K mg) (S : Std K mg "_law_windows" "_law_windows" s__law_windows) (c__law_full : Kn P w K mg base "_law_full" s__law_full ["race", "runner"] 1 F__law_full) (c__law_steps : Kn P w K mg base "_law_steps" s__law_steps ["track", "one", "other"] 1 F__law_steps_v4) (c__law_way : Kn P w K mg base "_law_way" s__law_way ["track", "one", "other"] 2 F__law_way_v3) (c__law_reach : Kn P w K mg base "_law_reach" s__law_reach ["track", "mat", "number"] 1 F__law_reach_v3) : Kn P w K mg base "_law_windows" s__law_windows ["track", "race", "mat"] 3 F__law_windows := by
  refine kn_of (N := ["track", "race", "mat", "found", "runner", "row", "gap", "time", "one", "later", "two", "steps"]) (k := 2) (B := B__law_windows) S sc__law_windows rfl rfl (fun _ _ _ _ _ _ us hl => match us, hl with | [_, _, _], _ => rfl) fun f cdv A outer s' H E hr => ?_
  have nd := sc__law_windows.nd
  have tk : Takes (cxOf (L2.CX P w) P w K mg base ["track", "race", "mat", "found", "runner", "row", "gap", "time", "one", "later", "two", "steps"] "_law_windows" (defScope s__law_windows) f cdv A outer s' H E) (Wd E) := takes_of rfl rfl rfl rfl
  exact s_cons (s_set (ps_set (i := 3) nd rfl (.inl rfl) (g_mut (g_nil)))) (s_cons (s_for (ps_for (passes_of rfl) rfl (g_range1 (pi_range1 (by rfl) T.range (g_cons (g_blt (pe_callB c_len (by rfl) T.len bt_len (g_cons (g_ix (g_var 1 (pv 1)) (g_int) (fun _ _ => rfl)) (g_nil) rfl)) v_len) (g_nil) rfl))) (t_tg (t := .nm 4) (pg_name (i := 4) nd rfl (by first | exact .inl rfl | exact .inr rfl))) (s_cons (s_set (ps_set (i := 5) nd rfl (.inl rfl) (g_calln c__law_full (hr.mono (by decide)) (by rfl) tk (g_cons (g_var 1 (pv 1)) (g_cons (g_var 4 (pv 4)) (g_nil) rfl) rfl) (by decide) rfl rfl))) (s_one (s_for (ps_for (passes_of rfl) rfl (g_range1 (pi_range1 (by rfl) T.range (g_cons (g_op op_sub v_sub (g_blt (pe_callB c_len (by rfl) T.len bt_len (g_cons (g_var 5 (pv 5)) (g_nil) rfl)) v_len) (g_int)) (g_nil) rfl))) (t_tg (t := .nm 6) (pg_name (i := 6) nd rfl (by first | exact .inl rfl | exact .inr rfl))) (s_cons (s_asg (ps_asg (g_tup (g_cons (g_ix (g_var 5 (pv 5)) (g_var 6 (pv 6)) (fun _ _ => rfl)) (g_cons (g_ix (g_var 5 (pv 5)) (g_op o_add v_add (g_var 6 (pv 6)) (g_int)) (fun _ _ => rfl)) (g_nil) rfl) rfl)) (t_tup (pg_tup rfl (t_cons (t_tup (pg_tup rfl (t_cons (t_name (pg_name (i := 7) nd rfl (.inl rfl))) (t_cons (t_name (pg_name (i := 8) nd rfl (.inl rfl))) (t_nil) rfl) rfl))) (t_cons (t_tup (pg_tup rfl (t_cons (t_name (pg_name (i := 9) nd rfl (.inl rfl))) (t_cons (t_name (pg_name (i := 10) nd rfl (.inl rfl))) (t_nil) rfl) rfl))) (t_nil) rfl) rfl))))) (s_cons (s_set (ps_set (i := 11) nd rfl (.inl rfl) (g_calln c__law_steps (hr.mono (by decide)) (by rfl) tk (g_cons (g_var 0 (pv 0)) (g_cons (g_var 8 (pv 8)) (g_cons (g_var 2 (pv 2)) (g_nil) rfl) rfl) rfl) (by decide) rfl rfl))) (s_one (s_if (g_tcmp (o_lt hr.units0) v_lt (g_var 11 (pv 11)) (g_calln c__law_steps (hr.mono (by decide)) (by rfl) tk (g_cons (g_var 0 (pv 0)) (g_cons (g_var 8 (pv 8)) (g_cons (g_var 10 (pv 10)) (g_nil) rfl) rfl) rfl) (by decide) rfl rfl) (nomark _)) (s_one (s_expr (g_methL (pe_bm PySem.F.plainAttrs_list PySem.F.slot_list_append PySem.F.type_list_append mt_append (g_var 3 (pv 3)) (g_cons (g_tup (g_cons (g_var 4 (pv 4)) (g_cons (g_var 6 (pv 6)) (g_cons (g_op o_add v_add (g_var 7 (pv 7)) (g_calln c__law_reach (hr.mono (by decide)) (by rfl) tk (g_cons (g_var 0 (pv 0)) (g_cons (g_var 8 (pv 8)) (g_cons (g_var 11 (pv 11)) (g_nil) rfl) rfl) rfl) (by decide) rfl rfl)) (g_cons (g_op op_sub v_sub (g_var 9 (pv 9)) (g_calln c__law_way (hr.mono (by decide)) (by rfl) tk (g_cons (g_var 0 (pv 0)) (g_cons (g_var 2 (pv 2)) (g_cons (g_var 10 (pv 10)) (g_nil) rfl) rfl) rfl) (by decide) rfl rfl)) (g_nil) rfl) rfl) rfl) rfl)) (g_nil) rfl)) v_append) rfl)) (s_nil))))))))))) (s_one (s_ret (g_blt (pe_callTy call_tuple_of (by rfl) T.tuple bt_tuple (g_cons (g_blt (pe_callB cr_sortUA (by rfl) T.sorted bt_sorted (g_cons (g_var 3 (pv 3)) (g_nil) rfl)) v_srtNQ) (g_nil) rfl)) v_tuple))))
theorem ok__law_missed (T : Bt mg) (XX : Xt K mg) (S : Std K mg "_law_missed" "_law_missed" s__law_missed) (c__law_steps : Kn P w K mg base "_law_steps" s__law_steps ["track", "one", "other"] 1 F__law_steps_v4) : Kn P w K mg base "_law_missed" s__law_missed ["track", "row", "extras"] 2 F__law_missed := by
  refine kn_of (N := ["track", "row", "extras", "found", "gap", "one", "two", "mat"]) (k := 1) (B := B__law_missed) S sc__law_missed rfl rfl (fun _ _ _ _ _ _ us hl => match us, hl with | [_, _, _], _ => rfl) fun f cdv A outer s' H E hr => ?_
  have nd := sc__law_missed.nd
  have tk : Takes (cxOf (L2.CX P w) P w K mg base ["track", "row", "extras", "found", "gap", "one", "two", "mat"] "_law_missed" (defScope s__law_missed) f cdv A outer s' H E) (Wd E) := takes_of rfl rfl rfl rfl
  exact s_cons (s_setLcM (by decide) (ps_setLc (i := 3) (own := [("mat", 7)]) rfl nd rfl rfl (sw_true rfl rfl rfl (by decide +kernel)) (g_iter (g_var 0 (pv 0))) (blkOk_by (N := ["track", "row", "extras", "found", "gap", "one", "two", "mat"]) (sc := defScope s__law_missed) (by decide +kernel)) (fun _ _ _ _ _ => pg_name (i := 7) nd rfl (by first | exact .inl rfl | exact .inr rfl)) (fun _ _ _ _ _ => g_yes) (fun _ _ _ _ _ => g_int))) (s_cons (s_for (ps_for (passes_of rfl) rfl (g_range1 (pi_range1 (by rfl) T.range (g_cons (g_op op_sub v_sub (g_blt (pe_callB c_len (by rfl) T.len bt_len (g_cons (g_var 1 (pv 1)) (g_nil) rfl)) v_len) (g_int)) (g_nil) rfl))) (t_tg (t := .nm 4) (pg_name (i := 4) nd rfl (by first | exact .inl rfl | exact .inr rfl))) (s_cons (s_par (ps_par (i := 5) (j := 6) rfl nd rfl rfl (by decide) rfl rfl (g_cons (g_ix (g_ix (g_var 1 (pv 1)) (g_var 4 (pv 4)) (fun _ _ => rfl)) (g_int) (fun _ _ => rfl)) (g_cons (g_ix (g_ix (g_var 1 (pv 1)) (g_op o_add v_add (g_var 4 (pv 4)) (g_int)) (fun _ _ => rfl)) (g_int) (fun _ _ => rfl)) (g_nil) rfl) rfl) (by rfl))) (s_one (s_for (ps_for (passes_of rfl) rfl (g_range1 (pi_range1 (by rfl) T.range (g_cons (g_blt (pe_callB c_len (by rfl) T.len bt_len (g_cons (g_var 0 (pv 0)) (g_nil) rfl)) v_len) (g_nil) rfl))) (t_tg (t := .nm 7) (pg_name (i := 7) nd rfl (by first | exact .inl rfl | exact .inr rfl))) (s_one (s_asg (ps_asg (g_op o_add v_add (g_op o_add v_add (g_ix (g_var 3 (pv 3)) (g_var 7 (pv 7)) (fun _ _ => rfl)) (g_ix (g_var 2 (pv 2)) (g_var 4 (pv 4)) (fun _ _ => rfl))) (g_if (g_tcmp (o_lt hr.units0) v_lt (g_calln c__law_steps (hr.mono (by decide)) (by rfl) tk (g_cons (g_var 0 (pv 0)) (g_cons (g_var 5 (pv 5)) (g_cons (g_var 7 (pv 7)) (g_nil) rfl) rfl) rfl) (by decide) rfl rfl) (g_calln c__law_steps (hr.mono (by decide)) (by rfl) tk (g_cons (g_var 0 (pv 0)) (g_cons (g_var 5 (pv 5)) (g_cons (g_var 6 (pv 6)) (g_nil) rfl) rfl) rfl) (by decide) rfl rfl) (nomark _)) (g_int) (g_int))) (t_sub (g_var 3 (pv 3)) (g_var 7 (pv 7)) (pg_sub (g_var 3 (pv 3)) (g_var 7 (pv 7)) set_list))))))))))) (s_one (s_ret (g_blt (pe_callTy call_tuple_of (by rfl) T.tuple bt_tuple (g_cons (g_var 3 (pv 3)) (g_nil) rfl)) v_tuple))))
theorem ok__law_is_told (T : Bt mg) (XX : Xt K mg) (S : Std K mg "_law_is_told" "_law_is_told" s__law_is_told) (c__law_full : Kn P w K mg base "_law_full" s__law_full ["race", "runner"] 1 F__law_full) (c__law_missed : Kn P w K mg base "_law_missed" s__law_missed ["track", "row", "extras"] 2 F__law_missed) (c__law_take : Kn P w K mg base "_law_take" s__law_take ["well", "many"] 1 F__law_take) (c_least_misses : Kn P w K mg base "least_misses" s_least_misses ["track", "race"] 12 F_least_misses_v2) (c__law_same : Kn P w K mg base "_law_same" s__law_same ["told", "due"] 21 F__law_same_v2) (c_windows : Kn P w K mg base "windows" s_windows ["track", "race", "mat"] 13 F_windows_v2) (c_full_row : Kn P w K mg base "full_row" s_full_row ["track", "race", "runner"] 12 F_full_row) (c_missed : Kn P w K mg base "missed" s_missed ["track", "row", "extras"] 9 F_missed) (c_all_most : Kn P w K mg base "all_most" s_all_most ["track", "row"] 9 F_all_most) : Kn P w K mg base "_law_is_told" s__law_is_told ["well", "track", "race"] 22 F__law_is_told_v5 := by
  refine kn_of (N := ["well", "track", "race", "rows", "parts", "due", "told", "runner", "row", "most", "extras", "mat", "part", "number"]) (k := 21) (B := B__law_is_told_v5) S sc__law_is_told rfl rfl (fun _ _ _ _ _ _ us hl => match us, hl with | [_, _, _], _ => rfl) fun f cdv A outer s' H E hr => ?_
  have nd := sc__law_is_told.nd
  have tk : Takes (cxOf (L2.CX P w) P w K mg base ["well", "track", "race", "rows", "parts", "due", "told", "runner", "row", "most", "extras", "mat", "part", "number"] "_law_is_told" (defScope s__law_is_told) f cdv A outer s' H E) (Wd E) := takes_of rfl rfl rfl rfl
  exact s_cons (s_setLc (by decide) (ps_setLc (i := 3) (own := [("runner", 7)]) rfl nd rfl rfl (sw_true rfl rfl rfl (by decide +kernel)) (g_range1 (pi_range1 (by rfl) T.range (g_cons (g_blt (pe_callB c_len (by rfl) T.len bt_len (g_cons (g_ix (g_var 2 (pv 2)) (g_int) (fun _ _ => rfl)) (g_nil) rfl)) v_len) (g_nil) rfl))) (blkOk_by (N := ["well", "track", "race", "rows", "parts", "due", "told", "runner", "row", "most", "extras", "mat", "part", "number"]) (sc := defScope s__law_is_told) (by decide +kernel)) (fun _ _ _ _ _ => pg_name (i := 7) nd rfl (by first | exact .inl rfl | exact .inr rfl)) (fun _ _ _ _ _ => g_yes) (fun _ _ _ _ _ => g_calln c__law_full (hr.mono (by decide)) (by rfl) takes0 (g_cons (g_var 2 (pv 2)) (g_cons (g_var 7 (pv 7)) (g_nil) rfl) rfl) (by decide) rfl rfl))) (s_cons (s_set (ps_set (i := 4) nd rfl (.inr rfl) (g_lc (by decide) (pe_lc (own := [("row", 8)]) rfl nd (g_iter (g_var 3 (pv 3))) (blkOk_by (N := ["well", "track", "race", "rows", "parts", "due", "told", "runner", "row", "most", "extras", "mat", "part", "number"]) (sc := defScope s__law_is_told) (by decide +kernel)) (fun _ _ _ _ _ => pg_name (i := 8) nd rfl (by first | exact .inl rfl | exact .inr rfl)) (fun _ _ _ _ _ => g_yes) (fun _ _ _ _ _ => g_calln c__law_missed (hr.mono (by decide)) (by rfl) takes0 (g_cons (g_var 1 (pv 1)) (g_cons (g_var 8 (pv 8)) (g_cons (g_op o_mul v_mul (g_tup (g_cons (g_int) (g_nil) rfl)) (g_blt (pe_callB c_len (by rfl) T.len bt_len (g_cons (g_var 8 (pv 8)) (g_nil) rfl)) v_len)) (g_nil) rfl) rfl) rfl) (by decide) rfl rfl))))) (s_cons (s_set (ps_set (i := 5) nd rfl (.inr rfl) (g_blt (pe_callTy call_tuple_of (by rfl) T.tuple bt_tuple (g_cons (g_lc (by decide) (pe_lc (own := [("mat", 11)]) rfl nd (g_range1 (pi_range1 (by rfl) T.range (g_cons (g_blt (pe_callB c_len (by rfl) T.len bt_len (g_cons (g_var 1 (pv 1)) (g_nil) rfl)) v_len) (g_nil) rfl))) (blkOk_by (N := ["well", "track", "race", "rows", "parts", "due", "told", "runner", "row", "most", "extras", "mat", "part", "number"]) (sc := defScope s__law_is_told) (by decide +kernel)) (fun _ _ _ _ _ => pg_name (i := 11) nd rfl (by first | exact .inl rfl | exact .inr rfl)) (fun _ _ _ _ _ => g_yes) (fun _ _ _ _ _ => g_blt (pe_callB (cq_sum rfl) (by rfl) T.sum bt_sum (g_cons (g_lc (by decide) (pe_lc (own := [("part", 12)]) rfl nd (g_iter (g_var 4 (pv 4))) (blkOk_by (N := ["well", "track", "race", "rows", "parts", "due", "told", "runner", "row", "most", "extras", "mat", "part", "number"]) (sc := relS _ (defScope s__law_is_told)) (by decide +kernel)) (fun _ _ _ _ _ => pg_name (i := 12) nd rfl (by first | exact .inl rfl | exact .inr rfl)) (fun _ _ _ _ _ => g_yes) (fun _ _ _ _ _ => g_ix (g_var 12 (pv 12)) (g_var 11 (pv 11)) (fun _ _ => rfl)))) (g_nil) rfl)) v_sum))) (g_nil) rfl)) v_tuple))) (s_cons (s_set (ps_set (i := 6) nd rfl (.inl rfl) (g_if (g_tcmp (o_eq hr.units) v_eq (g_calln c__law_take (hr.mono (by decide)) (by rfl) tk (g_cons (g_var 0 (pv 0)) (g_cons (g_int) (g_nil) rfl) rfl) (by decide) rfl rfl) (g_int) (nomark _)) (g_calln c_least_misses (hr.mono (by decide)) (by rfl) tk (g_cons (g_var 1 (pv 1)) (g_cons (g_var 2 (pv 2)) (g_nil) rfl) rfl) (by decide) rfl rfl) (g_callkn0 (ks := ["race", "track"]) (ix := [1, 0]) c_least_misses (hr.mono (by decide)) (by rfl) tk (fun _ _ _ _ _ _ _ us ws h1 h2 => match us, ws, h1, h2 with | [], [_, _], _, _ => rfl) (k_cons (g_var 2 (pv 2)) (k_cons (g_var 1 (pv 1)) (k_nil))) rfl rfl (by decide) rfl)))) (s_cons (s_if ((g_or (g_tnot (g_tval (g_calln c__law_same (hr.mono (by decide)) (by rfl) tk (g_cons (g_var 6 (pv 6)) (g_cons (g_var 5 (pv 5)) (g_nil) rfl) rfl) (by decide) rfl rfl) (by intro _; rfl))) (g_or1 (g_tnot (g_tval (g_blt (pe_callB (cq_all rfl) (by rfl) T.all bt_all (g_cons (g_lc (by decide) (pe_lc (own := [("mat", 11)]) rfl nd (g_range1 (pi_range1 (by rfl) T.range (g_cons (g_blt (pe_callB c_len (by rfl) T.len bt_len (g_cons (g_var 1 (pv 1)) (g_nil) rfl)) v_len) (g_nil) rfl))) (blkOk_by (N := ["well", "track", "race", "rows", "parts", "due", "told", "runner", "row", "most", "extras", "mat", "part", "number"]) (sc := defScope s__law_is_told) (by decide +kernel)) (fun _ _ _ _ _ => pg_name (i := 11) nd rfl (by first | exact .inl rfl | exact .inr rfl)) (fun _ _ _ _ _ => g_yes) (fun _ _ _ _ _ => g_cmp (o_eq hr.units) v_eq (g_blt (pe_callB c_len (by rfl) T.len bt_len (g_cons (g_calln c_windows (hr.mono (by decide)) (by rfl) takes0 (g_cons (g_var 1 (pv 1)) (g_cons (g_var 2 (pv 2)) (g_cons (g_var 11 (pv 11)) (g_nil) rfl) rfl) rfl) (by decide) rfl rfl) (g_nil) rfl)) v_len) (g_ix (g_var 5 (pv 5)) (g_var 11 (pv 11)) (fun _ _ => rfl)) (nomark _)))) (g_nil) rfl)) v_all) (by intro _; rfl))))).pt) (s_one (s_ret (g_bl))) (s_nil)) (s_cons (s_for (ps_for (passes_of rfl) rfl (g_range1 (pi_range1 (by rfl) T.range (g_cons (g_blt (pe_callB c_len (by rfl) T.len bt_len (g_cons (g_var 3 (pv 3)) (g_nil) rfl)) v_len) (g_nil) rfl))) (t_tg (t := .nm 7) (pg_name (i := 7) nd rfl (by first | exact .inl rfl | exact .inr rfl))) (s_cons (s_set (ps_set (i := 8) nd rfl (.inl rfl) (g_calln c_full_row (hr.mono (by decide)) (by rfl) tk (g_cons (g_var 1 (pv 1)) (g_cons (g_var 2 (pv 2)) (g_cons (g_var 7 (pv 7)) (g_nil) rfl) rfl) rfl) (by decide) rfl rfl))) (s_cons (s_if ((g_or (g_tnot (g_tval (g_calln c__law_same (hr.mono (by decide)) (by rfl) tk (g_cons (g_var 8 (pv 8)) (g_cons (g_ix (g_var 3 (pv 3)) (g_var 7 (pv 7)) (fun _ _ => rfl)) (g_nil) rfl) rfl) (by decide) rfl rfl) (by intro _; rfl))) (g_or1 (g_tnot (g_tval (g_calln c__law_same (hr.mono (by decide)) (by rfl) tk (g_cons (g_calln c_missed (hr.mono (by decide)) (by rfl) tk (g_cons (g_var 1 (pv 1)) (g_cons (g_var 8 (pv 8)) (g_cons (g_op o_mul v_mul (g_tup (g_cons (g_int) (g_nil) rfl)) (g_op op_sub v_sub (g_blt (pe_callB c_len (by rfl) T.len bt_len (g_cons (g_var 8 (pv 8)) (g_nil) rfl)) v_len) (g_int))) (g_nil) rfl) rfl) rfl) (by decide) rfl rfl) (g_cons (g_ix (g_var 4 (pv 4)) (g_var 7 (pv 7)) (fun _ _ => rfl)) (g_nil) rfl) rfl) (by decide) rfl rfl) (by intro _; rfl))))).pt) (s_one (s_ret (g_bl))) (s_nil)) (s_cons (s_set (ps_set (i := 9) nd rfl (.inl rfl) (g_calln c_all_most (hr.mono (by decide)) (by rfl) tk (g_cons (g_var 1 (pv 1)) (g_cons (g_var 8 (pv 8)) (g_nil) rfl) rfl) (by decide) rfl rfl))) (s_cons (s_set (ps_set (i := 10) nd rfl (.inl rfl) (g_blt (pe_callTy call_tuple_of (by rfl) T.tuple bt_tuple (g_cons (g_lc (by decide) (pe_lc (own := [("number", 13)]) rfl nd (g_iter (g_var 9 (pv 9))) (blkOk_by (N := ["well", "track", "race", "rows", "parts", "due", "told", "runner", "row", "most", "extras", "mat", "part", "number"]) (sc := defScope s__law_is_told) (by decide +kernel)) (fun _ _ _ _ _ => pg_name (i := 13) nd rfl (by first | exact .inl rfl | exact .inr rfl)) (fun _ _ _ _ _ => g_yes) (fun _ _ _ _ _ => g_calln c__law_take (hr.mono (by decide)) (by rfl) takes0 (g_cons (g_var 0 (pv 0)) (g_cons (g_op o_add v_add (g_blt (pe_callB (c_min rfl) (by rfl) T.min bt_min (g_cons (g_var 13 (pv 13)) (g_cons (g_int) (g_nil) rfl) rfl)) v_min) (g_int)) (g_nil) rfl) rfl) (by decide) rfl rfl))) (g_nil) rfl)) v_tuple))) (s_one (s_if (g_tnot (g_tval (g_calln c__law_same (hr.mono (by decide)) (by rfl) tk (g_cons (g_calln c_missed (hr.mono (by decide)) (by rfl) tk (g_cons (g_var 1 (pv 1)) (g_cons (g_var 8 (pv 8)) (g_cons (g_var 10 (pv 10)) (g_nil) rfl) rfl) rfl) (by decide) rfl rfl) (g_cons (g_calln c__law_missed (hr.mono (by decide)) (by rfl) tk (g_cons (g_var 1 (pv 1)) (g_cons (g_var 8 (pv 8)) (g_cons (g_op o_add v_add (g_var 10 (pv 10)) (g_tup (g_cons (g_int) (g_nil) rfl))) (g_nil) rfl) rfl) rfl) (by decide) rfl rfl) (g_nil) rfl) rfl) (by decide) rfl rfl) (by intro _; rfl))) (s_one (s_ret (g_bl))) (s_nil))))))))) (s_one (s_ret (g_bl))))))))
theorem ok__law_right (T : Bt mg) (XX : Xt K mg) (S : Std K mg "_law_right" "_law_right" s__law_right) (c__law_track : Kn P w K mg base "_law_track" s__law_track ["well"] 3 F__law_track) (c__law_is_told : Kn P w K mg base "_law_is_told" s__law_is_told ["well", "track", "race"] 22 F__law_is_told_v5) (c__law_race : Kn P w K mg base "_law_race" s__law_race ["well", "track", "most"] 4 F__law_race) : Kn P w K mg base "_law_right" s__law_right ["well"] 23 F__law_right_v7 := by
  refine kn_of (N := ["well", "turn", "track"]) (k := 22) (B := B__law_right_v7) S sc__law_right rfl rfl (fun _ _ _ _ _ _ us hl => match us, hl with | [_], _ => rfl) fun f cdv A outer s' H E hr => ?_
  have nd := sc__law_right.nd
  have tk : Takes (cxOf (L2.CX P w) P w K mg base ["well", "turn", "track"] "_law_right" (defScope s__law_right) f cdv A outer s' H E) (Wd E) := takes_of rfl rfl rfl rfl
  exact s_cons (s_for (ps_for (passes_of rfl) rfl (g_range1 (pi_range1 (by rfl) T.range (g_cons (g_int) (g_nil) rfl))) (t_tg (t := .nm 1) (pg_name (i := 1) nd rfl (by first | exact .inl rfl | exact .inr rfl))) (s_cons (s_set (ps_set (i := 2) nd rfl (.inl rfl) (g_calln c__law_track (hr.mono (by decide)) (by rfl) tk (g_cons (g_var 0 (pv 0)) (g_nil) rfl) (by decide) rfl rfl))) (s_one (s_if (g_tnot (g_tval (g_calln c__law_is_told (hr.mono (by decide)) (by rfl) tk (g_cons (g_var 0 (pv 0)) (g_cons (g_var 2 (pv 2)) (g_cons (g_calln c__law_race (hr.mono (by decide)) (by rfl) tk (g_cons (g_var 0 (pv 0)) (g_cons (g_var 2 (pv 2)) (g_cons (g_int) (g_nil) rfl) rfl) rfl) (by decide) rfl rfl) (g_nil) rfl) rfl) rfl) (by decide) rfl rfl) (by intro _; rfl))) (s_one (s_ret (g_bl))) (s_nil)))))) (s_one (s_ret (g_bl)))
theorem ok__law_far (T : Bt mg) (XX : Xt K mg) (S : Std K mg "_law_far" "_law_far" s__law_far) (c__law_take : Kn P w K mg base "_law_take" s__law_take ["well", "many"] 1 F__law_take) : Kn P w K mg base "_law_far" s__law_far ["well", "race"] 2 F__law_far_v2 := by
  refine kn_of (N := ["well", "race", "start", "rows", "at", "time", "mat"]) (k := 1) (B := B__law_far_v2) S sc__law_far rfl rfl (fun _ _ _ _ _ _ us hl => match us, hl with | [_, _], _ => rfl) fun f cdv A outer s' H E hr => ?_
  have nd := sc__law_far.nd
  have tk : Takes (cxOf (L2.CX P w) P w K mg base ["well", "race", "start", "rows", "at", "time", "mat"] "_law_far" (defScope s__law_far) f cdv A outer s' H E) (Wd E) := takes_of rfl rfl rfl rfl
  exact s_cons (s_asg (ps_asg (g_var 1 (pv 1)) (t_tup (pg_tup rfl (t_cons (t_name (pg_name (i := 2) nd rfl (.inl rfl))) (t_cons (t_name (pg_name (i := 3) nd rfl (.inl rfl))) (t_nil) rfl) rfl))))) (s_cons (s_set (ps_set (i := 4) nd rfl (.inl rfl) (g_calln c__law_take (hr.mono (by decide)) (by rfl) tk (g_cons (g_var 0 (pv 0)) (g_cons (g_blt (pe_callB c_len (by rfl) T.len bt_len (g_cons (g_var 3 (pv 3)) (g_nil) rfl)) v_len) (g_nil) rfl) rfl) (by decide) rfl rfl))) (s_cons (s_if ((g_or (g_tcmp (o_eq hr.units) v_eq (g_ix (g_var 3 (pv 3)) (g_var 4 (pv 4)) (fun _ _ => rfl)) (g_tup (g_nil)) (nomark _)) (g_or1 (g_tcmp op_gt (v_cmpI _) (g_calln c__law_take (hr.mono (by decide)) (by rfl) tk (g_cons (g_var 0 (pv 0)) (g_cons (g_int) (g_nil) rfl) rfl) (by decide) rfl rfl) (g_int) (nomark _)))).pt) (s_one (s_ret (g_var 1 (pv 1)))) (s_nil)) (s_cons (s_asg (ps_asg (g_ix (g_ix (g_var 3 (pv 3)) (g_var 4 (pv 4)) (fun _ _ => rfl)) (g_un un_neg v_neg (g_int)) (fun _ _ => rfl)) (t_tup (pg_tup rfl (t_cons (t_name (pg_name (i := 5) nd rfl (.inl rfl))) (t_cons (t_name (pg_name (i := 6) nd rfl (.inl rfl))) (t_nil) rfl) rfl))))) (s_one (s_ret (g_tup (g_cons (g_var 2 (pv 2)) (g_cons (g_op o_add v_add (g_op o_add v_add (g_slice (g_var 3 (pv 3)) (g_no) (g_some (g_var 4 (pv 4)))) (g_tup (g_cons (g_op o_add v_add (g_slice (g_ix (g_var 3 (pv 3)) (g_var 4 (pv 4)) (fun _ _ => rfl)) (g_no) (g_some (g_un un_neg v_neg (g_int)))) (g_tup (g_cons (g_tup (g_cons (g_op o_add v_add (g_op o_add v_add (g_var 5 (pv 5)) (g_op op_pow v_pow (g_int) (g_int))) (g_calln c__law_take (hr.mono (by decide)) (by rfl) tk (g_cons (g_var 0 (pv 0)) (g_cons (g_int) (g_nil) rfl) rfl) (by decide) rfl rfl)) (g_cons (g_var 6 (pv 6)) (g_nil) rfl) rfl)) (g_nil) rfl))) (g_nil) rfl))) (g_slice (g_var 3 (pv 3)) (g_some (g_op o_add v_add (g_var 4 (pv 4)) (g_int))) (g_no))) (g_nil) rfl) rfl)))))))
theorem ok__law_windows_right (T : Bt mg) (XX : Xt K mg) (S : Std K mg "_law_windows_right" "_law_windows_right" s__law_windows_right) (c__law_track : Kn P w K mg base "_law_track" s__law_track ["well"] 3 F__law_track) (c__law_far : Kn P w K mg base "_law_far" s__law_far ["well", "race"] 2 F__law_far_v2) (c__law_race : Kn P w K mg base "_law_race" s__law_race ["well", "track", "most"] 4 F__law_race) (c__law_take : Kn P w K mg base "_law_take" s__law_take ["well", "many"] 1 F__law_take) (c__law_windows : Kn P w K mg base "_law_windows" s__law_windows ["track", "race", "mat"] 3 F__law_windows) (c_windows : Kn P w K mg base "windows" s_windows ["track", "race", "mat"] 13 F_windows_v2) (c__law_same : Kn P w K mg base "_law_same" s__law_same ["told", "due"] 21 F__law_same_v2) (c_full_row : Kn P w K mg base "full_row" s_full_row ["track", "race", "runner"] 12 F_full_row) (c_can_follow : Kn P w K mg base "can_follow" s_can_follow ["track", "mark", "other"] 7 F_can_follow) : Kn P w K mg base "_law_windows_right" s__law_windows_right ["well"] 22 F__law_windows_right := by
  refine kn_of (N := ["well", "turn", "track", "race", "mat", "due", "told", "runner", "gap", "low", "high", "row", "time", "each", "window"]) (k := 21) (B := B__law_windows_right) S sc__law_windows_right rfl rfl (fun _ _ _ _ _ _ us hl => match us, hl with | [_], _ => rfl) fun f cdv A outer s' H E hr => ?_
  have nd := sc__law_windows_right.nd
  have tk : Takes (cxOf (L2.CX P w) P w K mg base ["well", "turn", "track", "race", "mat", "due", "told", "runner", "gap", "low", "high", "row", "time", "each", "window"] "_law_windows_right" (defScope s__law_windows_right) f cdv A outer s' H E) (Wd E) := takes_of rfl rfl rfl rfl
  exact s_cons (s_for (ps_for (passes_of rfl) rfl (g_range1 (pi_range1 (by rfl) T.range (g_cons (g_int) (g_nil) rfl))) (t_tg (t := .nm 1) (pg_name (i := 1) nd rfl (by first | exact .inl rfl | exact .inr rfl))) (s_cons (s_set (ps_set (i := 2) nd rfl (.inr rfl) (g_calln c__law_track (hr.mono (by decide)) (by rfl) tk (g_cons (g_var 0 (pv 0)) (g_nil) rfl) (by decide) rfl rfl))) (s_cons (s_set (ps_set (i := 3) nd rfl (.inl rfl) (g_calln c__law_far (hr.mono (by decide)) (by rfl) tk (g_cons (g_var 0 (pv 0)) (g_cons (g_calln c__law_race (hr.mono (by decide)) (by rfl) tk (g_cons (g_var 0 (pv 0)) (g_cons (g_var 2 (pv 2)) (g_cons (g_int) (g_nil) rfl) rfl) rfl) (by decide) rfl rfl) (g_nil) rfl) rfl) (by decide) rfl rfl))) (s_one (s_for (ps_for (passes_of rfl) rfl (g_iter (g_if (g_tcmp (o_lt hr.units0) v_lt (g_blt (pe_callB c_len (by rfl) T.len bt_len (g_cons (g_var 2 (pv 2)) (g_nil) rfl)) v_len) (g_int) (nomark _)) (g_listRg (pe_listRg rfl (by rfl) T.list (prg_1 (by rfl) T.range (g_blt (pe_callB c_len (by rfl) T.len bt_len (g_cons (g_var 2 (pv 2)) (g_nil) rfl)) v_len)))) (g_lc (by decide) (pe_lc (own := [("each", 13)]) rfl nd (g_range1 (pi_range1 (by rfl) T.range (g_cons (g_int) (g_nil) rfl))) (blkOk_by (N := ["well", "turn", "track", "race", "mat", "due", "told", "runner", "gap", "low", "high", "row", "time", "each", "window"]) (sc := defScope s__law_windows_right) (by decide +kernel)) (fun _ _ _ _ _ => pg_name (i := 13) nd rfl (by first | exact .inl rfl | exact .inr rfl)) (fun _ _ _ _ _ => g_yes) (fun _ _ _ _ _ => g_calln c__law_take (hr.mono (by decide)) (by rfl) takes0 (g_cons (g_var 0 (pv 0)) (g_cons (g_blt (pe_callB c_len (by rfl) T.len bt_len (g_cons (g_var 2 (pv 2)) (g_nil) rfl)) v_len) (g_nil) rfl) rfl) (by decide) rfl rfl))))) (t_tg (t := .nm 4) (pg_name (i := 4) nd rfl (by first | exact .inl rfl | exact .inr rfl))) (s_cons (s_set (ps_set (i := 5) nd rfl (.inl rfl) (g_blt (pe_callTy call_tuple_of (by rfl) T.tuple bt_tuple (g_cons (g_calln c__law_windows (hr.mono (by decide)) (by rfl) tk (g_cons (g_var 2 (pv 2)) (g_cons (g_var 3 (pv 3)) (g_cons (g_var 4 (pv 4)) (g_nil) rfl) rfl) rfl) (by decide) rfl rfl) (g_nil) rfl)) v_tuple))) (s_cons (s_set (ps_set (i := 6) nd rfl (.inl rfl) (g_if (g_tcmp (o_eq hr.units) v_eq (g_calln c__law_take (hr.mono (by decide)) (by rfl) tk (g_cons (g_var 0 (pv 0)) (g_cons (g_int) (g_nil) rfl) rfl) (by decide) rfl rfl) (g_int) (nomark _)) (g_calln c_windows (hr.mono (by decide)) (by rfl) tk (g_cons (g_var 2 (pv 2)) (g_cons (g_var 3 (pv 3)) (g_cons (g_var 4 (pv 4)) (g_nil) rfl) rfl) rfl) (by decide) rfl rfl) (g_callkn0 (ks := ["mat", "race", "track"]) (ix := [2, 1, 0]) c_windows (hr.mono (by decide)) (by rfl) tk (fun _ _ _ _ _ _ _ us ws h1 h2 => match us, ws, h1, h2 with | [], [_, _, _], _, _ => rfl) (k_cons (g_var 4 (pv 4)) (k_cons (g_var 3 (pv 3)) (k_cons (g_var 2 (pv 2)) (k_nil)))) rfl rfl (by decide) rfl)))) (s_cons (s_if ((g_or (g_tnot (g_tval (g_calln c__law_same (hr.mono (by decide)) (by rfl) tk (g_cons (g_var 6 (pv 6)) (g_cons (g_var 5 (pv 5)) (g_nil) rfl) rfl) (by decide) rfl rfl) (by intro _; rfl))) (g_or1 (g_tval (g_blt (pe_callB (cq_any rfl) (by rfl) T.any bt_any (g_cons (g_lc (by decide) (pe_lc (own := [("window", 14)]) rfl nd (g_iter (g_var 6 (pv 6))) (blkOk_by (N := ["well", "turn", "track", "race", "mat", "due", "told", "runner", "gap", "low", "high", "row", "time", "each", "window"]) (sc := defScope s__law_windows_right) (by decide +kernel)) (fun _ _ _ _ _ => pg_name (i := 14) nd rfl (by first | exact .inl rfl | exact .inr rfl)) (fun _ _ _ _ _ => g_yes) (fun _ _ _ _ _ => g_cmp op_gt (v_cmpI _) (g_ix (g_var 14 (pv 14)) (g_int) (fun _ _ => rfl)) (g_ix (g_var 14 (pv 14)) (g_int) (fun _ _ => rfl)) (nomark _)))) (g_nil) rfl)) v_any) (by intro _; rfl)))).pt) (s_one (s_ret (g_bl))) (s_nil)) (s_one (s_for (ps_for (passes_of rfl) rfl (g_iter (g_slice (g_var 6 (pv 6)) (g_no) (g_some (g_int)))) (t_tg (t := .tp [.nm 7, .nm 8, .nm 9, .nm 10]) (pg_tl rfl (pgs_cons (pg_name (i := 7) nd rfl (by first | exact .inl rfl | exact .inr rfl)) (pgs_cons (pg_name (i := 8) nd rfl (by first | exact .inl rfl | exact .inr rfl)) (pgs_cons (pg_name (i := 9) nd rfl (by first | exact .inl rfl | exact .inr rfl)) (pgs_cons (pg_name (i := 10) nd rfl (by first | exact .inl rfl | exact .inr rfl)) (pgs_nil))))))) (s_cons (s_set (ps_set (i := 11) nd rfl (.inl rfl) (g_calln c_full_row (hr.mono (by decide)) (by rfl) tk (g_cons (g_var 2 (pv 2)) (g_cons (g_var 3 (pv 3)) (g_cons (g_var 7 (pv 7)) (g_nil) rfl) rfl) rfl) (by decide) rfl rfl))) (s_cons (s_for (ps_for (passes_of rfl) rfl (g_iter (g_tup (g_cons (g_var 9 (pv 9)) (g_cons (g_var 10 (pv 10)) (g_nil) rfl) rfl))) (t_tg (t := .nm 12) (pg_name (i := 12) nd rfl (by first | exact .inl rfl | exact .inr rfl))) (s_one (s_if (g_tnot (g_tval (g_calln c__law_same (hr.mono (by decide)) (by rfl) tk (g_cons (g_lst (g_cons (g_calln c_can_follow (hr.mono (by decide)) (by rfl) tk (g_cons (g_var 2 (pv 2)) (g_cons (g_tup (g_cons (g_var 12 (pv 12)) (g_cons (g_var 4 (pv 4)) (g_nil) rfl) rfl)) (g_cons (g_ix (g_var 11 (pv 11)) (g_var 8 (pv 8)) (fun _ _ => rfl)) (g_nil) rfl) rfl) rfl) (by decide) rfl rfl) (g_cons (g_calln c_can_follow (hr.mono (by decide)) (by rfl) tk (g_cons (g_var 2 (pv 2)) (g_cons (g_ix (g_var 11 (pv 11)) (g_op o_add v_add (g_var 8 (pv 8)) (g_int)) (fun _ _ => rfl)) (g_cons (g_tup (g_cons (g_var 12 (pv 12)) (g_cons (g_var 4 (pv 4)) (g_nil) rfl) rfl)) (g_nil) rfl) rfl) rfl) (by decide) rfl rfl) (g_nil) rfl) rfl)) (g_cons (g_lst (g_cons (g_bl) (g_cons (g_bl) (g_nil) rfl) rfl)) (g_nil) rfl) rfl) (by decide) rfl rfl) (by intro _; rfl))) (s_one (s_ret (g_bl))) (s_nil))))) (s_cons (s_if (g_tif (g_tcmp op_gt (v_cmpI _) (g_var 9 (pv 9)) (g_int) (nomark _)) (g_tval (g_calln c_can_follow (hr.mono (by decide)) (by rfl) tk (g_cons (g_var 2 (pv 2)) (g_cons (g_tup (g_cons (g_op op_sub v_sub (g_var 9 (pv 9)) (g_int)) (g_cons (g_var 4 (pv 4)) (g_nil) rfl) rfl)) (g_cons (g_ix (g_var 11 (pv 11)) (g_var 8 (pv 8)) (fun _ _ => rfl)) (g_nil) rfl) rfl) rfl) (by decide) rfl rfl) (by intro _; rfl)) (g_tval (g_bl) (by intro _; rfl))) (s_one (s_ret (g_bl))) (s_nil)) (s_one (s_if (g_tval (g_calln c_can_follow (hr.mono (by decide)) (by rfl) tk (g_cons (g_var 2 (pv 2)) (g_cons (g_ix (g_var 11 (pv 11)) (g_op o_add v_add (g_var 8 (pv 8)) (g_int)) (fun _ _ => rfl)) (g_cons (g_tup (g_cons (g_op o_add v_add (g_var 10 (pv 10)) (g_int)) (g_cons (g_var 4 (pv 4)) (g_nil) rfl) rfl)) (g_nil) rfl) rfl) rfl) (by decide) rfl rfl) (by intro _; rfl)) (s_one (s_ret (g_bl))) (s_nil))))))))))))))))))) (s_one (s_ret (g_bl)))
theorem ok_law (T : Bt mg) (XX : Xt K mg) (S : Std K mg "law" "law" s_law) (c__law_well : Kn P w K mg base "_law_well" s__law_well ["script", "lap"] 1 F__law_well) (c__law_right : Kn P w K mg base "_law_right" s__law_right ["well"] 23 F__law_right_v7) (c__law_windows_right : Kn P w K mg base "_law_windows_right" s__law_windows_right ["well"] 22 F__law_windows_right) : Kn P w K mg base "law" s_law ["script"] 24 F_law := by
  refine kn_of (N := ["script", "lap", "well"]) (k := 23) (B := B_law) S sc_law rfl rfl (fun _ _ _ _ _ _ us hl => match us, hl with | [_], _ => rfl) fun f cdv A outer s' H E hr => ?_
  have nd := sc_law.nd
  have tk : Takes (cxOf (L2.CX P w) P w K mg base ["script", "lap", "well"] "law" (defScope s_law) f cdv A outer s' H E) (Wd E) := takes_of rfl rfl rfl rfl
  exact s_cons (s_for (ps_for (passes_of rfl) rfl (g_range1 (pi_range1 (by rfl) T.range (g_cons (g_blt (pe_callB (c_max rfl) (by rfl) T.max bt_max (g_cons (g_int) (g_cons (g_blt (pe_callB (c_min rfl) (by rfl) T.min bt_min (g_cons (g_blt (pe_callB c_len (by rfl) T.len bt_len (g_cons (g_var 0 (pv 0)) (g_nil) rfl)) v_len) (g_cons (g_int) (g_nil) rfl) rfl)) v_min) (g_nil) rfl) rfl)) v_max) (g_nil) rfl))) (t_tg (t := .nm 1) (pg_name (i := 1) nd rfl (by first | exact .inl rfl | exact .inr rfl))) (s_cons (s_set (ps_set (i := 2) nd rfl (.inl rfl) (g_calln c__law_well (hr.mono (by decide)) (by rfl) tk (g_cons (g_var 0 (pv 0)) (g_cons (g_var 1 (pv 1)) (g_nil) rfl) rfl) (by decide) rfl rfl))) (s_one (s_if ((g_or (g_tnot (g_tval (g_calln c__law_right (hr.mono (by decide)) (by rfl) tk (g_cons (g_var 2 (pv 2)) (g_nil) rfl) (by decide) rfl rfl) (by intro _; rfl))) (g_or1 (g_tnot (g_tval (g_calln c__law_windows_right (hr.mono (by decide)) (by rfl) tk (g_cons (g_var 2 (pv 2)) (g_nil) rfl) (by decide) rfl rfl) (by intro _; rfl))))).pt) (s_one (s_ret (g_bl))) (s_nil)))))) (s_one (s_ret (g_bl)))
end
end K41
namespace Lap
open PySem G
theorem big_ge : 2 ^ 1000 ≤ big := by unfold big; exact Nat.pow_le_pow_right (by decide) (by decide)
section
variable (st : Sto)
theorem f_round_by (ts : List Int) : F_round_by [tupI ts] st = .ok (.int ts.sum) st := by
  simp [F_round_by, runF, B_round_by]
theorem f_sectors_from (ts : List Int) (m : Nat) (hl : ts.length ≤ 100) : F_sectors_from [tupI ts, .int m] st = .ok (lstI (ts.drop m ++ ts.take m)) st := by
  have : ts.length - m + min m ts.length ≤ 16777216 := by omega
  simp [F_sectors_from, runF, B_sectors_from, cutL_from, cutL_to, this, lstI]
def reachI (ts : List Int) (m n : Nat) : Int := ((n / ts.length : Nat) : Int) * ts.sum + ((ts.drop m ++ ts.take m).take (n % ts.length)).sum
theorem f_reach_by (ts : List Int) (m n : Nat) (h0 : 0 < ts.length) (hl : ts.length ≤ 100) (hn : n < big) (hs : ts.sum.natAbs < big) : F_reach_by [tupI ts, .int m, .int n] st = .ok (.int (reachI ts m n)) st := by
  have hd := divmodF_nat st n ts.length h0 (.inl (by omega))
  have hq : n / ts.length ≤ n := Nat.div_le_self _ _
  unfold reachI
  generalize n / ts.length = q at hd hq ⊢
  generalize n % ts.length = r at hd ⊢
  have h2 : mulOk (q : Int) ts.sum := .inr (.inr ⟨by omega, hs⟩)
  simp [-divmodF_int, F_reach_by, runF, B_reach_by, f_round_by, f_sectors_from, hl, hd, h2, cutL_to]
theorem f_is_whole_int (i : Int) : F_is_whole [.int i] st = .ok (.bl true) st := by
  simp [F_is_whole, runF, B_is_whole, isiB]
theorem f_is_between (v lo hi : Int) : F_is_between [.int v, .int lo, .int hi] st = .ok (.bl (decide (lo ≤ v ∧ v ≤ hi))) st := by
  by_cases h : lo ≤ v <;> simp [F_is_between, runF, B_is_between, f_is_whole_int, h]
theorem f_is_up_to (v m : Int) : F_is_up_to [.int v, .int m] st = .ok (.bl (decide (0 ≤ v ∧ v ≤ m))) st := by
  simp [F_is_up_to, runF, B_is_up_to, f_is_between]
theorem f_is_from (v l : Int) : F_is_from [.int v, .int l] st = .ok (.bl (decide (l ≤ v))) st := by
  simp [F_is_from, runF, B_is_from, f_is_whole_int]
theorem f_is_tuple_up_to (ts : List Int) (lo hi : Int) : F_is_tuple_up_to [tupI ts, .int lo, .int hi] st = .ok (.bl (decide (lo ≤ ts.length ∧ (ts.length : Int) ≤ hi))) st := by
  by_cases h : lo ≤ ts.length <;> simp [F_is_tuple_up_to, runF, B_is_tuple_up_to, isiB, h]
structure Trk (ts : List Int) : Prop where
  pos : 1 ≤ ts.length
  le : ts.length ≤ 8
  one : ∀ x ∈ ts, 1 ≤ x
theorem f_is_track_of {ts : List Int} (h : Trk ts) : F_is_track_of [tupI ts] st = .ok (.bl true) st := by
  have e : lcE (iterE (varE 0)) (.nm 1) yesB (callE F_is_from (consA (varE 1) (consA (cE (.int 1)) nilA))) [1] [some (tupI ts), none] st = .ok (lstB (ts.map fun x => decide (1 ≤ x))) st := by
    have := lc_map (t := .nm 1) (fe := callE F_is_from (consA (varE 1) (consA (cE (.int 1)) nilA))) (envw := [some (tupI ts), none]) (st := st) (fun d => match d with | .int x => .bl (decide (1 ≤ x)) | d => d) (ts.map D.int) [] (by have := h.le; simp; omega) (by
      intro x hx
      obtain ⟨y, _, rfl⟩ := List.mem_map.mp hx
      exact ⟨[some (tupI ts), some (.int y)], by simp, by simp [f_is_from]⟩)
    simp [this, lstB]
  have h2 : (ts.length : Int) ≤ 8 := by have := h.le; omega
  have h3 : (1 : Int) ≤ ts.length := by have := h.pos; omega
  have h4 := h.one
  simp [-lcE_eq, F_is_track_of, runF, B_is_track_of, f_is_tuple_up_to, h2, h3, e]
  simpa using h4
theorem f_is_mat_of {ts : List Int} (v : Int) : F_is_mat_of [tupI ts, .int v] st = .ok (.bl (decide (0 ≤ v ∧ v ≤ ts.length - 1))) st := by
  simp [F_is_mat_of, runF, B_is_mat_of, f_is_up_to]
theorem f_check_track {ts : List Int} (h : Trk ts) : F_check_track [tupI ts] st = .ok .non st := by
  simp [F_check_track, runF, B_check_track, f_is_track_of st h]
theorem f_check_mat {ts : List Int} {m : Nat} (h : m < ts.length) : F_check_mat [tupI ts, .int m] st = .ok .non st := by
  have : (m : Int) ≤ ts.length - 1 := by omega
  simp [F_check_mat, runF, B_check_mat, f_is_mat_of, this]
end
def at_ (ts : List Int) (i : Nat) : Int := ts.getD (i % ts.length) 0
def walkI (ts : List Int) (m n : Nat) : Int := ((List.range n).map fun i => at_ ts (m + i)).sum
theorem at_mod (ts : List Int) (a b : Nat) : at_ ts (a % ts.length + b) = at_ ts (a + b) := by
  unfold at_; rw [Nat.mod_add_mod]
theorem walk_succ (ts : List Int) (m n : Nat) : walkI ts m (n + 1) = walkI ts m n + at_ ts (m + n) := by
  unfold walkI; rw [List.range_succ]; simp
theorem walk_add (ts : List Int) (m a b : Nat) : walkI ts m (a + b) = walkI ts m a + walkI ts (m + a) b := by
  induction b with
  | zero => simp [walkI]
  | succ b ih => rw [← Nat.add_assoc, walk_succ, ih, walk_succ, Nat.add_assoc m a b]; omega
theorem walk_mod (ts : List Int) (a n : Nat) : walkI ts (a % ts.length) n = walkI ts a n := by
  unfold walkI; congr 1; apply List.map_congr_left; intro i _; exact at_mod ts a i
theorem rest_eq (ts : List Int) (m r : Nat) (hm : m < ts.length) (hr : r ≤ ts.length) : (ts.drop m ++ ts.take m).take r = (List.range r).map fun i => at_ ts (m + i) := by
  apply List.ext_getElem?
  intro i
  by_cases hi : i < r
  · rw [List.getElem?_take, if_pos hi, List.getElem?_map, List.getElem?_range hi, Option.map_some]
    unfold at_
    by_cases h : m + i < ts.length
    · rw [Nat.mod_eq_of_lt h, List.getElem?_append_left (by simp; omega), List.getElem?_drop, List.getD_eq_getElem?_getD, List.getElem?_eq_getElem h]; rfl
    · have e : (m + i) % ts.length = m + i - ts.length := by rw [Nat.mod_eq_sub_mod (by omega), Nat.mod_eq_of_lt (by omega)]
      rw [e, List.getElem?_append_right (by simp; omega), List.length_drop, List.getElem?_take, if_pos (by omega), List.getD_eq_getElem?_getD, show i - (ts.length - m) = m + i - ts.length by omega, List.getElem?_eq_getElem (by omega)]; rfl
  · rw [List.getElem?_eq_none (by simp; omega), List.getElem?_eq_none (by simp; omega)]
theorem sum_perm (ts : List Int) (m : Nat) : (ts.drop m ++ ts.take m).sum = ts.sum := by
  have := List.take_append_drop m ts
  conv => rhs; rw [← this]
  rw [List.sum_append, List.sum_append]; omega
theorem walk_round (ts : List Int) (m : Nat) (h : 0 < ts.length) : walkI ts m ts.length = ts.sum := by
  rw [← walk_mod]
  have hm : m % ts.length < ts.length := Nat.mod_lt _ h
  unfold walkI
  rw [← rest_eq ts _ _ hm (Nat.le_refl _), List.take_of_length_le (by simp; omega), sum_perm]
theorem walk_rounds (ts : List Int) (m : Nat) (h : 0 < ts.length) : ∀ q : Nat, walkI ts m (ts.length * q) = (q : Int) * ts.sum
  | 0 => by simp [walkI]
  | q + 1 => by rw [Nat.mul_succ, walk_add, walk_rounds ts m h q, walk_round ts _ h]; push_cast; rw [Int.add_mul]; omega
theorem reachI_eq (ts : List Int) (m n : Nat) (hm : m < ts.length) : reachI ts m n = walkI ts m n := by
  have h : 0 < ts.length := by omega
  have hr := Nat.mod_lt n h
  unfold reachI
  rw [rest_eq ts m _ hm (by omega)]
  conv => rhs; rw [← Nat.div_add_mod n ts.length, walk_add, walk_rounds ts m h]
  congr 1
  rw [← walk_mod, Nat.add_mul_mod_self_left, walk_mod]; rfl
theorem sum_le {ts : List Int} {w : Int} (h : ∀ x ∈ ts, 1 ≤ x ∧ x ≤ w) : 0 ≤ ts.sum ∧ ts.sum ≤ ts.length * w := by
  induction ts with
  | nil => simp
  | cons x ts ih =>
    obtain ⟨a, b⟩ := ih fun y hy => h y (List.mem_cons_of_mem _ hy)
    obtain ⟨c, d⟩ := h x List.mem_cons_self
    simp only [List.sum_cons, List.length_cons]
    push_cast
    rw [Int.add_mul]; omega
end Lap
namespace Lap
open PySem G
theorem at_ge {ts : List Int} (h : Trk ts) (i : Nat) : 1 ≤ at_ ts i := by
  have hl : i % ts.length < ts.length := Nat.mod_lt _ h.pos
  unfold at_
  rw [List.getD_eq_getElem?_getD, List.getElem?_eq_getElem hl]
  exact h.one _ (List.getElem_mem hl)
theorem walk_mono {ts : List Int} (h : Trk ts) (m a b : Nat) : walkI ts m a + b ≤ walkI ts m (a + b) := by
  induction b with
  | zero => simp
  | succ b ih =>
    have := at_ge h (m + (a + b))
    rw [← Nat.add_assoc, walk_succ]; push_cast; omega
theorem sum_pos {ts : List Int} (h : Trk ts) : (ts.length : Int) ≤ ts.sum := by
  have := walk_mono h 0 0 ts.length
  rw [Nat.zero_add, walk_round ts 0 h.pos] at this
  simpa [walkI] using this
theorem walk_le_of {ts : List Int} (h : Trk ts) (m : Nat) {a b : Nat} (hab : a ≤ b) : walkI ts m a ≤ walkI ts m b := by
  obtain ⟨c, rfl⟩ := Nat.exists_eq_add_of_le hab
  have := walk_mono h m a c
  omega
theorem walk_ge {ts : List Int} (h : Trk ts) (m n : Nat) : (n : Int) ≤ walkI ts m n := by
  have := walk_mono h m 0 n
  simpa [walkI] using this
end Lap
namespace Lap
open PySem G
def stepsN (M m o : Nat) : Nat := (o + M - m - 1) % M + 1
theorem steps_cases {M m o : Nat} (hm : m < M) (ho : o < M) : (m < o ∧ stepsN M m o = o - m) ∨ (o ≤ m ∧ stepsN M m o = o + M - m) := by
  unfold stepsN
  by_cases h : m < o
  · refine .inl ⟨h, ?_⟩
    rw [show o + M - m - 1 = (o - m - 1) + M by omega, Nat.add_mod_right, Nat.mod_eq_of_lt (by omega)]; omega
  · refine .inr ⟨by omega, ?_⟩
    rw [Nat.mod_eq_of_lt (by omega)]; omega
theorem steps_to {M m o : Nat} (hm : m < M) (ho : o < M) : (m + stepsN M m o) % M = o := by
  rcases steps_cases hm ho with ⟨h, e⟩ | ⟨h, e⟩
  · rw [e, show m + (o - m) = o by omega, Nat.mod_eq_of_lt ho]
  · rw [e, show m + (o + M - m) = o + M by omega, Nat.add_mod_right, Nat.mod_eq_of_lt ho]
theorem steps_rng {M m o : Nat} (hm : m < M) (ho : o < M) : 1 ≤ stepsN M m o ∧ stepsN M m o ≤ M := by
  rcases steps_cases hm ho with ⟨h, e⟩ | ⟨h, e⟩ <;> omega
theorem steps_int {M m o : Nat} (hm : m < M) (ho : o < M) : ((o : Int) - m - 1) % M + 1 = (stepsN M m o : Nat) := by
  unfold stepsN
  have : ((o : Int) - m - 1) % M = ((o + M - m - 1 : Nat) : Int) % M := by
    rw [show ((o + M - m - 1 : Nat) : Int) = (o - m - 1) + M by omega, Int.add_emod_right]
  rw [this]; push_cast; rfl
theorem steps_first {M m o d : Nat} (hm : m < M) (ho : o < M) (hd : 1 ≤ d) (h : d ≤ stepsN M m o) : (m + d) % M = o ↔ d = stepsN M m o := by
  constructor
  · intro e
    rcases steps_cases hm ho with ⟨h1, e1⟩ | ⟨h1, e1⟩
    · rw [Nat.mod_eq_of_lt (by omega)] at e; omega
    · by_cases k : m + d < M
      · rw [Nat.mod_eq_of_lt k] at e; omega
      · rw [Nat.mod_eq_sub_mod (by omega), Nat.mod_eq_of_lt (by omega)] at e; omega
  · rintro rfl; exact steps_to hm ho
theorem steps_over {M a b c : Nat} (ha : a < M) (hb : b < M) (hc : c < M) : stepsN M a b + stepsN M b c = stepsN M a c ∨ stepsN M a b + stepsN M b c = stepsN M a c + M := by
  rcases steps_cases ha hb with ⟨h, e⟩ | ⟨h, e⟩ <;> rcases steps_cases hb hc with ⟨h2, e2⟩ | ⟨h2, e2⟩ <;> rcases steps_cases ha hc with ⟨h3, e3⟩ | ⟨h3, e3⟩ <;> omega
def wayI (ts : List Int) (m o : Nat) : Int := walkI ts m (stepsN ts.length m o)
theorem walk_there (ts : List Int) {m o : Nat} (hm : m < ts.length) (ho : o < ts.length) (n : Nat) : walkI ts (m + stepsN ts.length m o) n = walkI ts o n := by
  rw [← walk_mod ts (m + _), steps_to hm ho]
theorem way_over {ts : List Int} {a b c : Nat} (ha : a < ts.length) (hb : b < ts.length) (hc : c < ts.length) : wayI ts a b + wayI ts b c - wayI ts a c = 0 ∨ wayI ts a b + wayI ts b c - wayI ts a c = ts.sum := by
  have h0 : 0 < ts.length := by omega
  unfold wayI
  rw [← walk_there ts ha hb, ← walk_add]
  rcases steps_over ha hb hc with e | e
  · rw [e]; left; omega
  · rw [e, walk_add, walk_round ts _ h0]; right; omega
section
variable (st : Sto)
theorem f_steps_by {ts : List Int} {m o : Nat} (hm : m < ts.length) (ho : o < ts.length) : F_steps_by [tupI ts, .int m, .int o] st = .ok (.int (stepsN ts.length m o)) st := by
  have h0 : 0 < ts.length := by omega
  rw [← steps_int hm ho]
  simp [F_steps_by, runF, B_steps_by, h0]
theorem f_way_by {ts : List Int} (h : Trk ts) {m o : Nat} (hm : m < ts.length) (ho : o < ts.length) (hs : ts.sum.natAbs < big) : F_way_by [tupI ts, .int m, .int o] st = .ok (.int (wayI ts m o)) st := by
  have hb := big_ge
  have hr := steps_rng hm ho
  have h8 := h.le
  have := f_reach_by st ts m (stepsN ts.length m o) (by omega) (by omega) (by omega) hs
  rw [reachI_eq ts _ _ hm] at this
  simp [F_way_by, runF, B_way_by, f_steps_by st hm ho, this, wayI]
end
theorem _root_.G.One.two {F : FA} (hF : One F) {st : Sto} {n : Nat} (a b : Int) (hp : Pool n st) : ∃ w st', F [.mut n, .tup [.int a, .int b]] st = .ok (.int w) st' ∧ (w = a ∨ w = b) ∧ Pool n st' ∧ Eff n st st' := by
  obtain ⟨d, s1, e1, hd, hp1, he⟩ := hF (xs := [.int a, .int b]) hp (by simp) (by simp)
  rcases hd with _ | ⟨_, _ | ⟨_, hd⟩⟩
  · exact ⟨a, s1, e1, .inl rfl, hp1, he⟩
  · exact ⟨b, s1, e1, .inr rfl, hp1, he⟩
  · cases hd
theorem _root_.G.One.three {F : FA} (hF : One F) {st : Sto} {n : Nat} (a b c : Int) (hp : Pool n st) : ∃ w st', F [.mut n, .tup [.int a, .int b, .int c]] st = .ok (.int w) st' ∧ (w = a ∨ w = b ∨ w = c) ∧ Pool n st' ∧ Eff n st st' := by
  obtain ⟨d, s1, e1, hd, hp1, he⟩ := hF (xs := [.int a, .int b, .int c]) hp (by simp) (by simp)
  rcases hd with _ | ⟨_, _ | ⟨_, _ | ⟨_, hd⟩⟩⟩
  · exact ⟨a, s1, e1, .inl rfl, hp1, he⟩
  · exact ⟨b, s1, e1, .inr (.inl rfl), hp1, he⟩
  · exact ⟨c, s1, e1, .inr (.inr rfl), hp1, he⟩
  · cases hd
structure DT (ts : List Int) (w : Int) : Prop where
  t : Trk ts
  b : ∀ x ∈ ts, 1 ≤ x ∧ x ≤ w
  s : ts.sum ≤ 8 * w
  p : (ts.length : Int) ≤ ts.sum
  w : 1 ≤ w
theorem DT.of {ts : List Int} {w : Int} (hw : 1 ≤ w) (t1 : 1 ≤ ts.length) (t2 : (ts.length : Int) ≤ 8) (t3 : ∀ x ∈ ts, 1 ≤ x ∧ x ≤ w) : DT ts w := by
  have hT : Trk ts := ⟨t1, by omega, fun x hx => (t3 x hx).1⟩
  refine ⟨hT, t3, ?_, sum_pos hT, hw⟩
  have := (sum_le t3).2
  have := Int.mul_le_mul_of_nonneg_right t2 (show 0 ≤ w by omega)
  omega
theorem _root_.G.Track.dt {F : FA} (hF : Track F 8) {st : Sto} {n : Nat} {w : Int} (hp : Pool n st) (hw : 1 ≤ w) : ∃ ts st', F [.mut n, .int w] st = .ok (tupI ts) st' ∧ DT ts w ∧ Pool n st' ∧ Eff n st st' := by
  obtain ⟨ts, s2, e2, t1, t2, t3, hp2, he⟩ := hF hp hw
  exact ⟨ts, s2, e2, .of hw t1 t2 t3, hp2, he⟩
end Lap
namespace Lap
open PySem G
def bagD (b : List P2) : D := .tup (b.map pairD)
def MatOk (ts : List Int) (p : P2) : Prop := 0 ≤ p.1 ∧ 0 ≤ p.2 ∧ p.2 < ts.length
instance (ts : List Int) (p : P2) : Decidable (MatOk ts p) := by unfold MatOk; infer_instance
structure BagOk (ts : List Int) (b : List P2) : Prop where
  len : b.length ≤ 30
  ok : ∀ p ∈ b, MatOk ts p
  up : b.Pairwise ltP2
theorem BagOk.sub {ts : List Int} {b c : List P2} (h : BagOk ts b) (s : c.Sublist b) : BagOk ts c :=
  ⟨Nat.le_trans s.length_le h.len, fun p hp => h.ok p (s.subset hp), h.up.sublist s⟩
def followB (ts : List Int) (p q : P2) : Bool := decide (p.1 - q.1 ≥ wayI ts q.2.toNat p.2.toNat)
theorem way_pos {ts : List Int} (h : Trk ts) {m o : Nat} (hm : m < ts.length) (ho : o < ts.length) : 1 ≤ wayI ts m o := by
  have := walk_ge h m (stepsN ts.length m o)
  have := (steps_rng hm ho).1
  unfold wayI; omega
theorem follow_lt {ts : List Int} (h : Trk ts) {p q : P2} (hp : MatOk ts p) (hq : MatOk ts q) (f : followB ts p q = true) : q.1 < p.1 := by
  obtain ⟨a, b, c⟩ := hp
  obtain ⟨d, e, g⟩ := hq
  have := way_pos h (m := q.2.toNat) (o := p.2.toNat) (by omega) (by omega)
  unfold followB at f
  have := of_decide_eq_true f
  omega
theorem follow_tr {ts : List Int} (h : Trk ts) {p q r : P2} (hp : MatOk ts p) (hq : MatOk ts q) (hr : MatOk ts r) (f : followB ts p q = true) (g : followB ts q r = true) : followB ts p r = true := by
  obtain ⟨a, b, c⟩ := hp
  obtain ⟨d, e, i⟩ := hq
  obtain ⟨j, k, l⟩ := hr
  have hs := sum_pos h
  have := way_over (ts := ts) (a := r.2.toNat) (b := q.2.toNat) (c := p.2.toNat) (by omega) (by omega) (by omega)
  unfold followB at *
  have f := of_decide_eq_true f
  have g := of_decide_eq_true g
  apply decide_eq_true
  omega
section
variable (st : Sto)
@[simp] theorem ix_pair0 (p : P2) : ixD (pairD p) (.int 0) st = .ok (.int p.1) st := ixD_tup _ _ _ rfl
@[simp] theorem ix_pair1 (p : P2) : ixD (pairD p) (.int 1) st = .ok (.int p.2) st := ixD_tup _ _ _ rfl
@[simp] theorem len_bag (b : List P2) : lenF [bagD b] st = .ok (.int b.length) st := by unfold bagD; rw [lenF_tup, List.length_map]
@[simp] theorem isi_bag (c : Tag) (b : List P2) : isiD c (bagD b) st = .ok (.bl (isiB .tup c)) st := rfl
@[simp] theorem isi_pair (c : Tag) (b : P2) : isiD c (pairD b) st = .ok (.bl (isiB .tup c)) st := rfl
@[simp] theorem len_pair (p : P2) : lenF [pairD p] st = .ok (.int 2) st := by unfold pairD; rw [lenF_tup]; rfl
@[simp] theorem iter_bag (b : List P2) : iterD (bagD b) st = .ok (.frz (b.map pairD)) st := rfl
theorem ix_bag (b : List P2) (i : Nat) (h : i < b.length) : ixD (bagD b) (.int i) st = .ok (pairD b[i]) st := by
  unfold bagD
  have := atI_nat' (b.map pairD) i (by simpa using h)
  rw [List.getElem_map] at this
  exact ixD_tup _ _ _ this
@[simp] theorem slice_bag (b : List P2) (l h : Option Int) : sliceD (bagD b) l h st = .ok (bagD (cutL b l h)) st := by unfold bagD; rw [sliceD_tup, cutD_map]
theorem le_pair (p q : P2) : leD (pairD p) (pairD q) st = .ok (.bl (!decide (ltP2 q p))) st := by
  show R.ok (D.bl (lexLe [p.1, p.2] [q.1, q.2])) st = _
  have e : lexLe [p.1, p.2] [q.1, q.2] = if p.1 = q.1 then (if p.2 = q.2 then true else decide (p.2 ≤ q.2)) else decide (p.1 ≤ q.1) := rfl
  rw [e]
  refine congrArg (fun b => R.ok (D.bl b) st) ?_
  rcases ltP2_tri p q with h | h | h
  · have h' : ¬ ltP2 q p := fun z => ltP2_irr p (ltP2_tr h z)
    rw [decide_eq_false h']
    unfold ltP2 at h
    split
    · split
      · rfl
      · exact decide_eq_true (by omega)
    · exact decide_eq_true (by omega)
  · subst h
    rw [if_pos rfl, if_pos rfl, decide_eq_false (ltP2_irr p)]; rfl
  · rw [decide_eq_true h]
    unfold ltP2 at h
    split
    · split
      · omega
      · exact decide_eq_false (by omega)
    · exact decide_eq_false (by omega)
theorem f_is_pair (p : P2) : F_is_pair [pairD p] st = .ok (.bl true) st := by
  simp [F_is_pair, runF, B_is_pair, F_is_tuple_of, B_is_tuple_of, F_is_tuple_up_to, B_is_tuple_up_to, isiB]
theorem f_is_mark_of {ts : List Int} (p : P2) : F_is_mark_of [tupI ts, pairD p] st = .ok (.bl (decide (MatOk ts p))) st := by
  have e : decide (MatOk ts p) = (decide (0 ≤ p.1) && decide (0 ≤ p.2 ∧ p.2 ≤ ts.length - 1)) := by
    unfold MatOk
    by_cases h1 : 0 ≤ p.1 <;> by_cases h2 : 0 ≤ p.2 <;> by_cases h3 : p.2 < ts.length <;> simp [h1, h2, h3] <;> omega
  rw [e]
  by_cases h : 0 ≤ p.1 <;> simp [F_is_mark_of, runF, B_is_mark_of, f_is_pair, f_is_from, f_is_mat_of, h]
theorem f_wrong_in_bag {ts : List Int} {b : List P2} (h : BagOk ts b) : F_wrong_in_bag [tupI ts, bagD b] st = .ok (.lst []) st := by
  have h30 := h.len
  have e0 : F_is_tuple_up_to [bagD b, .int 0, .int 30] st = .ok (.bl true) st := by
    have : (b.length : Int) ≤ 30 := by omega
    simp [F_is_tuple_up_to, runF, B_is_tuple_up_to, isiB, this]
  obtain ⟨env', s', e, q2, q3, rfl, rfl⟩ := loop_nx (g := tgT (.tp [.nm 2, .nm 3])) (body := ifS (orB (notB (tstE (callE F_is_mark_of (consA (varE 0) (consA (varE 3) (nilA)))))) (andB (tstE (binE gtD (varE 2) (cE (.int 0)))) (tstE (binE leD (varE 3) (binE ixD (varE 1) (binE subD (varE 2) (cE (.int 1)))))))) (retS (lstE (consA (varE 2) (nilA)))) (passS))
    (fun j env s => ∃ q2 q3 : Option D, env = [some (tupI ts), some (bagD b), q2, q3] ∧ s = st)
    (xs := enumL (b.map pairD)) (env := [some (tupI ts), some (bagD b), none, none]) (st := st) ⟨_, _, rfl, rfl⟩
    (by
      rintro j x env s hx ⟨q2, q3, rfl, rfl⟩
      obtain ⟨y, hy, rfl⟩ := enumL_get hx
      rw [List.getElem?_map] at hy
      obtain ⟨p, hp, rfl⟩ := Option.map_eq_some_iff.mp hy
      obtain ⟨hj, ep⟩ := List.getElem?_eq_some_iff.mp hp
      have hm : MatOk ts p := h.ok p (List.mem_of_getElem? hp)
      refine ⟨_, s, ?_, some (.int j), some (pairD p), rfl, rfl⟩
      by_cases h0 : 0 < j
      · have k1 : (j : Int) - 1 = ((j - 1 : Nat) : Int) := by omega
        have k2 := ix_bag s b (j - 1) (by omega)
        have k3 : ltP2 b[j - 1] p := by
          rw [← ep]
          exact List.pairwise_iff_getElem.mp h.up (j - 1) j (by omega) hj (by omega)
        have k4 : 0 < (j : Int) := by omega
        have k5 := le_pair s p b[j - 1]
        rw [decide_eq_true k3] at k5
        simp [Tg.set, Tg.sets, f_is_mark_of, hm, h0, k1, k2, k5]
      · have k4 : ¬ 0 < (j : Int) := by omega
        simp [Tg.set, Tg.sets, f_is_mark_of, hm, h0, k4])
  have ee : enumF [bagD b] s' = .ok (.frz (enumL (b.map pairD))) s' := rfl
  simp [F_wrong_in_bag, runF, B_wrong_in_bag, e0, ee, e]
theorem f_check_bag {ts : List Int} {b : List P2} (h : BagOk ts b) : F_check_bag [tupI ts, bagD b] st = .ok .non st := by
  simp [F_check_bag, runF, B_check_bag, f_wrong_in_bag st h]
theorem f_check_tracked {ts : List Int} {b : List P2} (hT : Trk ts) (h : BagOk ts b) : F_check_tracked [tupI ts, bagD b] st = .ok .non st := by
  simp [F_check_tracked, runF, B_check_tracked, f_check_track st hT, f_check_bag st h]
theorem f_can_follow_by {ts : List Int} (hT : Trk ts) (hs : ts.sum.natAbs < big) {p q : P2} (hp : MatOk ts p) (hq : MatOk ts q) : F_can_follow_by [tupI ts, pairD p, pairD q] st = .ok (.bl (followB ts p q)) st := by
  obtain ⟨a, b, c⟩ := hp
  obtain ⟨d, e, g⟩ := hq
  have := f_way_by st hT (m := q.2.toNat) (o := p.2.toNat) (by omega) (by omega) hs
  rw [show ((q.2.toNat : Nat) : Int) = q.2 by omega, show ((p.2.toNat : Nat) : Int) = p.2 by omega] at this
  simp [F_can_follow_by, runF, B_can_follow_by, this, followB]
end
end Lap
namespace Lap
open PySem G
theorem lc_typed {α : Type} {t : Tg} {fe : EvE} {envw : G.Env} {st : Sto} (f h : α → D) : ∀ (as : List α) (acc : List D), acc.length + as.length ≤ 16777216 →
    (∀ a ∈ as, ∃ env1, t.set (f a) envw = some env1 ∧ fe env1 st = .ok (h a) st) → lcF t yesB fe envw (as.map f) st acc = .ok (acc ++ as.map h) st
  | [], acc, _, _ => by simp [lcF]
  | a :: as, acc, hl, hx => by
    obtain ⟨env1, h1, h2⟩ := hx a List.mem_cons_self
    simp only [List.length_cons] at hl
    rw [List.map_cons]
    unfold lcF
    rw [turnC_yes h1 h2 (by omega), lc_typed f h as (acc ++ [h a]) (by simp; omega) fun y hy => hx y (List.mem_cons_of_mem _ hy)]
    simp
theorem lc_typedF {α : Type} {t : Tg} {tt : EvB} {fe : EvE} {envw : G.Env} {st : Sto} (f h : α → D) (p : α → Bool) : ∀ (as : List α) (acc : List D), acc.length + as.length ≤ 16777216 →
    (∀ a ∈ as, ∃ env1, t.set (f a) envw = some env1 ∧ tt env1 st = .ok (p a) st ∧ (p a = true → fe env1 st = .ok (h a) st)) → lcF t tt fe envw (as.map f) st acc = .ok (acc ++ (as.filter p).map h) st
  | [], acc, _, _ => by simp [lcF]
  | a :: as, acc, hl, hx => by
    obtain ⟨env1, h1, ht, h2⟩ := hx a List.mem_cons_self
    simp only [List.length_cons] at hl
    rw [List.map_cons]
    unfold lcF
    rw [turnC_if h1 ht h2 (by omega), lc_typedF f h p as _ (by split <;> (try simp only [List.length_append, List.length_cons, List.length_nil]) <;> omega) fun y hy => hx y (List.mem_cons_of_mem _ hy)]
    cases e : p a with
    | false => simp [e]
    | true => simp [e]
theorem enumL_typed {α : Type} (f : α → D) (z : α) (xs : List α) : enumL (xs.map f) = (List.range xs.length).map fun (i : Nat) => D.tup [.int i, f (xs.getD i z)] := by
  apply List.ext_getElem?
  intro i
  rw [List.getElem?_map]
  by_cases hi : i < xs.length
  · rw [List.getElem?_range hi]
    unfold enumL
    rw [List.getElem?_zipWith, List.length_map, List.getElem?_range hi, List.getElem?_map, List.getElem?_eq_getElem hi]
    simp [List.getD, hi]
  · rw [List.getElem?_eq_none (by simp; omega), List.getElem?_eq_none (by simp; omega)]; rfl
def RowP (ts : List Int) (b : List P2) : Prop := b.Pairwise fun q p => followB ts p q = true
theorem row_snoc {ts : List Int} (hT : Trk ts) {b : List P2} {p : P2} (hb : ∀ q ∈ b, MatOk ts q) (hp : MatOk ts p) (h : RowP ts b) (hl : b = [] ∨ ∃ q, b.getLast? = some q ∧ followB ts p q = true) : RowP ts (b ++ [p]) := by
  unfold RowP
  rw [List.pairwise_append]
  refine ⟨h, List.pairwise_singleton _ _, fun q hq r hr => ?_⟩
  rw [List.mem_singleton.mp hr]
  rcases hl with rfl | ⟨l, el, f⟩
  · cases hq
  · obtain ⟨b', rfl⟩ := List.getLast?_eq_some_iff.mp el
    rcases List.mem_append.mp hq with hq' | hq'
    · have := (List.pairwise_append.mp h).2.2 q hq' l (by simp)
      exact follow_tr hT hp (hb l (by simp)) (hb q hq) f this
    · rw [List.mem_singleton.mp hq']; exact f
end Lap
namespace Lap
open PySem G
theorem all_trues (n : Nat) (st : Sto) : allF [.lst (List.replicate n (.bl true))] st = .ok (.bl true) st := by
  have := allF_bools st (List.replicate n true)
  rw [List.map_replicate] at this
  rw [this]
  simp
theorem pool_keep {p : Nat} {st st' : Sto} (hp : Pool p st) (h : ∀ k, k < st.length → st'[k]? = st[k]?) : Pool p st' := by
  obtain ⟨a, b, c, e⟩ := hp
  have hn := (List.getElem?_eq_some_iff.mp e).1
  exact ⟨a, b, c, by rw [h p hn]; exact e⟩
end Lap
namespace Lap
open PySem G
section
variable (st : Sto)
theorem f_is_row_true {ts : List Int} (hT : Trk ts) (hs : ts.sum.natAbs < big) {b : List P2} (h : BagOk ts b) (hr : RowP ts b) : F_is_row [tupI ts, bagD b] st = .ok (.bl true) st := by
  have h30 := h.len
  have e := lc_typedF (t := .nm 2) (tt := notB (tstE (callE F_can_follow_by (consA (varE 0) (consA (binE ixD (varE 1) (varE 2)) (consA (binE ixD (varE 1) (binE subD (varE 2) (cE (.int 1)))) (nilA))))))) (fe := varE 2) (envw := [some (tupI ts), some (bagD b), none]) (st := st)
    (fun (i : Nat) => D.int (1 + i)) (fun (i : Nat) => D.int (1 + i)) (fun _ => false) (List.range (b.length - 1)) [] (by simp; omega) (by
      intro i hi
      have hi := List.mem_range.mp hi
      refine ⟨[some (tupI ts), some (bagD b), some (.int (1 + i))], by simp, ?_, fun z => by cases z⟩
      have k1 : (1 : Int) + i = ((i + 1 : Nat) : Int) := by push_cast; omega
      have k2 : ((i + 1 : Nat) : Int) - 1 = (i : Int) := by push_cast; omega
      have x1 := ix_bag st b (i + 1) (by omega)
      have x2 := ix_bag st b i (by omega)
      have f := f_can_follow_by st hT hs (h.ok _ (List.getElem_mem (l := b) (n := i + 1) (by omega))) (h.ok _ (List.getElem_mem (l := b) (n := i) (by omega)))
      have g : followB ts b[i + 1] b[i] = true := List.pairwise_iff_getElem.mp hr i (i + 1) (by omega) (by omega) (by omega)
      rw [g] at f
      simp [-Int.natCast_add, k1, k2, x1, x2, f])
  have er : rangeD 1 (b.length - 1) = (List.range (b.length - 1)).map fun (i : Nat) => D.int (1 + i) := rfl
  have e1 : F_wrong_marks_by [tupI ts, bagD b] st = .ok (.lst []) st := by
    have k : (b.length : Int) - 1 = ((b.length : Int) - 1) := rfl
    have k2 : ((b.length : Int) - 1).toNat = b.length - 1 := by omega
    have k3 : b.length < 4611686018427387904 := by omega
    rw [← er] at e
    simp [F_wrong_marks_by, runF, B_wrong_marks_by, k2, k3, e]
  have e2 : eqD (.lst []) (.lst []) st = .ok (.bl true) st := rfl
  have e3 : F_is_row_by [tupI ts, bagD b] st = .ok (.bl true) st := by
    simp [F_is_row_by, runF, B_is_row_by, e1, e2]
  simp [F_is_row, runF, B_is_row, f_check_tracked st hT h, e3]
def pairPD (p : P2) : PyData := .tuple [.int p.1, .int p.2]
theorem toPD_pair (p : P2) : toPD (pairD p) = some (pairPD p) := by simp [pairD, toPD, toPDs, pairPD]
theorem toPDs_pairs : ∀ b : List P2, toPDs (b.map pairD) = some (b.map pairPD)
  | [] => by simp [toPDs]
  | p :: b => by simp [toPDs, toPD_pair, toPDs_pairs b]
theorem canLay_pairs : ∀ b : List P2, PyData.canLayAll0 (b.map pairPD) = true
  | [] => by simp [PyData.canLayAll0]
  | p :: b => by simp [PyData.canLayAll0, pairPD, PyData.canLay0, canLay_pairs b]
theorem depth_pairs : ∀ b : List P2, PyData.depthAll (b.map pairPD) ≤ 1
  | [] => by simp [PyData.depthAll]
  | p :: b => by
    have := depth_pairs b
    simp [PyData.depthAll, pairPD, PyData.depth] at this ⊢
    omega
theorem shaped_pairs (b : List P2) : SeqAt.shaped (.list (b.map pairPD)) = true ∧ SeqAt.shaped (.tuple (b.map pairPD)) = true := by
  have := depth_pairs b
  constructor <;> simp [SeqAt.shaped, PyData.canLay0, canLay_pairs, PyData.depth] <;> omega
theorem eq_bag_nil (b : List P2) : eqD (bagD b) (.tup []) st = .ok (.bl (decide (b = []))) st := by
  have e : eqO (bagD b) (.tup []) = some (decide (b = [])) := by
    unfold eqO
    have h1 : scalD (bagD b) (.tup []) = none := rfl
    have h2 : toPD (bagD b) = some (.tuple (b.map pairPD)) := by unfold bagD toPD; rw [toPDs_pairs]; rfl
    have h3 : toPD (.tup []) = some (.tuple []) := by simp [toPD, toPDs]
    rw [h1, h2, h3]
    show (if SeqAt.shaped (.tuple (b.map pairPD)) = true ∧ SeqAt.shaped (.tuple []) = true then _ else _) = _
    rw [if_pos ⟨(shaped_pairs b).2, by simp [SeqAt.shaped, PyData.canLay0, PyData.canLayAll0, PyData.depth, PyData.depthAll]⟩]
    cases b with
    | nil => simp [PyData.eqv, PyData.eqvAll]
    | cons p b => simp [PyData.eqv, PyData.eqvAll]
  unfold eqD; rw [e]
theorem ix_bag_last (b : List P2) (p : P2) : ixD (bagD (b ++ [p])) (.int (-1)) st = .ok (pairD p) st := by
  refine ixD_tup _ _ _ ?_
  unfold L2.atI L2.ixN
  have hz : ((-1 : Int) + ((b.length + 1 : Nat) : Int)).toNat = b.length := by omega
  have hz' : (((b.length + 1 : Nat) : Int) + -1).toNat = b.length := by omega
  rw [List.length_map, List.length_append, List.length_singleton, if_neg (by omega), if_pos (by omega)]
  have hz2 : ((-1 : Int) + ((b.length : Int) + 1)).toNat = b.length := by omega
  simp [hz2]
end
end Lap
namespace Lap
open PySem G
theorem walk_ge_way {ts : List Int} (hT : Trk ts) {m s : Nat} (hm : m < ts.length) (hs : 1 ≤ s) : wayI ts m ((m + s) % ts.length) ≤ walkI ts m s := by
  have h0 : 0 < ts.length := hT.pos
  have ho := Nat.mod_lt (m + s) h0
  unfold wayI
  refine walk_le_of hT m ?_
  rcases Nat.lt_or_ge s (stepsN ts.length m ((m + s) % ts.length)) with h | h
  · have := (steps_first hm ho hs (by omega)).mp rfl
    omega
  · exact h
structure RowOk (ts : List Int) (b : List P2) : Prop where
  ok : ∀ p ∈ b, MatOk ts p
  row : RowP ts b
theorem RowOk.bag {ts : List Int} (hT : Trk ts) {b : List P2} (h : RowOk ts b) (hl : b.length ≤ 30) : BagOk ts b :=
  ⟨hl, h.ok, by
    refine List.Pairwise.imp_of_mem (fun {p q} hp hq f => ?_) h.row
    exact .inl (follow_lt hT (h.ok q hq) (h.ok p hp) f)⟩
theorem app_mut {st : Sto} {q : Nat} {xs : List D} (x : D) (h : st[q]? = some (.lst xs)) (hl : xs.length < 1000000) : appF (.mut q) [x] st = .ok .non (st.set q (.lst (xs ++ [x]))) := by
  have : xs.length < 16777216 := by omega
  simp [appF, h, this]
theorem isL_mut {st : Sto} {q : Nat} {xs : List D} (h : st[q]? = some (.lst xs)) : isL (.mut q) st = true := by simp [isL, h]
theorem set_other {st : Sto} {n q : Nat} {mo : MO} (h : n ≠ q) (hp : Pool n st) : Pool n (st.set q mo) := by
  obtain ⟨a, b, c, hp⟩ := hp
  exact ⟨a, b, c, by rw [List.getElem?_set_ne (fun z => h z.symm)]; exact hp⟩
end Lap
namespace Lap
open PySem G
mutual
def Thing : D → Bool
  | .non => true
  | .bl _ => true
  | .int _ => true
  | .str _ => true
  | .dic => true
  | .emp => true
  | .tup xs => ThingL xs
  | .lst xs => ThingL xs
  | _ => false
def ThingL : List D → Bool
  | [] => true
  | x :: xs => Thing x && ThingL xs
end
theorem thingL_all : ∀ {xs : List D}, ThingL xs = true ↔ ∀ x ∈ xs, Thing x = true
  | [] => by simp [ThingL]
  | x :: xs => by simp [ThingL, thingL_all (xs := xs)]
def upB : D → Int → Bool
  | .int i, m => decide (0 ≤ i ∧ i ≤ m)
  | _, _ => false
section
variable (st : Sto)
theorem t_is_whole (d : D) (h : Thing d = true) : F_is_whole [d] st = .ok (.bl (match d with | .int _ => true | _ => false)) st := by
  cases d <;> first | (simp [F_is_whole, runF, B_is_whole, isiB]; done) | (simp [Thing] at h)
theorem t_is_up_to (d : D) (m : Int) (h : Thing d = true) : F_is_up_to [d, .int m] st = .ok (.bl (upB d m)) st := by
  have e := t_is_whole st d h
  cases d with
  | int i => exact f_is_up_to st i m
  | _ => first | (simp [F_is_up_to, runF, B_is_up_to, F_is_between, B_is_between, e, upB]; done) | (simp [Thing] at h)
theorem all_of (f : D → Bool) (xs : List D) : allF [.lst (xs.map fun x => D.bl (f x))] st = .ok (.bl (xs.all f)) st := by
  have := allF_bools st (xs.map f)
  rw [List.map_map] at this
  rw [show (xs.map f).all id = xs.all f by rw [List.all_map]; rfl] at this
  exact this
def isPairB : D → Bool
  | .tup [_, _] => true
  | _ => false
theorem t_is_pair (d : D) (h : Thing d = true) : F_is_pair [d] st = .ok (.bl (isPairB d)) st := by
  cases d with
  | tup xs =>
    match xs with
    | [] => simp [F_is_pair, runF, B_is_pair, F_is_tuple_of, B_is_tuple_of, F_is_tuple_up_to, B_is_tuple_up_to, isiB, isPairB]
    | [a] => simp [F_is_pair, runF, B_is_pair, F_is_tuple_of, B_is_tuple_of, F_is_tuple_up_to, B_is_tuple_up_to, isiB, isPairB]
    | [a, b] => simp [F_is_pair, runF, B_is_pair, F_is_tuple_of, B_is_tuple_of, F_is_tuple_up_to, B_is_tuple_up_to, isiB, isPairB]
    | a :: b :: c :: r =>
      have c1 : (2 : Int) ≤ ((r.length : Int) + 1 + 1 + 1) := by omega
      have c2 : ¬ (((r.length : Int) + 1 + 1 + 1) ≤ 2) := by omega
      simp [F_is_pair, runF, B_is_pair, F_is_tuple_of, B_is_tuple_of, F_is_tuple_up_to, B_is_tuple_up_to, isiB, isPairB, c1, c2]
  | _ => first | (simp [F_is_pair, runF, B_is_pair, F_is_tuple_of, B_is_tuple_of, F_is_tuple_up_to, B_is_tuple_up_to, isiB, isPairB]; done) | (simp [Thing] at h)
end
end Lap
namespace Lap
open PySem G
def gapsL (b : List P2) : List (P2 × P2) := b.zip (b.drop 1)
def extraI (ts : List Int) (p q : P2) : Int := (q.1 - p.1 - wayI ts p.2.toNat q.2.toNat) / ts.sum
def extrasI (ts : List Int) (b : List P2) : List Int := (gapsL b).map fun g => extraI ts g.1 g.2
theorem gaps_len (b : List P2) : (gapsL b).length = b.length - 1 := by unfold gapsL; simp
theorem extras_len (ts : List Int) (b : List P2) : (extrasI ts b).length = b.length - 1 := by unfold extrasI; rw [List.length_map, gaps_len]
theorem gaps_get (b : List P2) (i : Nat) (h : i + 1 < b.length) : (gapsL b)[i]'(by rw [gaps_len]; omega) = (b[i], b[i + 1]) := by
  unfold gapsL
  simp [Nat.add_comm 1 i]
theorem gaps_mem {b : List P2} {g : P2 × P2} (h : g ∈ gapsL b) : g.1 ∈ b ∧ g.2 ∈ b := by
  have := List.of_mem_zip h
  exact ⟨this.1, List.mem_of_mem_drop this.2⟩
theorem zip_pairs : ∀ (xs ys : List P2), (xs.map pairD).zipWith (fun x y => D.tup [x, y]) (ys.map pairD) = (xs.zip ys).map fun g => D.tup [pairD g.1, pairD g.2]
  | [], _ => by simp
  | _ :: _, [] => by simp
  | x :: xs, y :: ys => by simp [zip_pairs xs ys]
theorem toPDs_ints : ∀ b : List Int, toPDs (b.map D.int) = some (b.map PyData.int)
  | [] => by simp [toPDs]
  | p :: b => by simp [toPDs, toPD, toPDs_ints b]
theorem canLay_ints : ∀ b : List Int, PyData.canLayAll0 (b.map PyData.int) = true
  | [] => rfl
  | p :: b => by simp [PyData.canLayAll0, PyData.canLay0, canLay_ints b]
theorem depth_ints : ∀ b : List Int, PyData.depthAll (b.map PyData.int) = 0
  | [] => rfl
  | p :: b => by simp [PyData.depthAll, PyData.depth, depth_ints b]
theorem shaped_ints (b : List Int) : SeqAt.shaped (.tuple (b.map PyData.int)) = true := by
  simp [SeqAt.shaped, PyData.canLay0, canLay_ints, PyData.depth, depth_ints]
section
variable (st : Sto)
theorem zip_gaps (b : List P2) : zipF [bagD b, bagD (cutL b (some 1) none)] st = .ok (.frz ((gapsL b).map fun g => D.tup [pairD g.1, pairD g.2])) st := by
  have : cutL b (some 1) none = b.drop 1 := cutL_from b 1
  rw [this]
  unfold gapsL
  rw [← zip_pairs]
  rfl
theorem f_extra_by {ts : List Int} (hT : Trk ts) (hs : ts.sum.natAbs < big) {p q : P2} (hp : MatOk ts p) (hq : MatOk ts q) : F_extra_by [tupI ts, pairD p, pairD q] st = .ok (.int (extraI ts p q)) st := by
  have hsp := sum_pos hT
  have h0 := hT.pos
  obtain ⟨p1, p2⟩ := p; obtain ⟨q1, q2⟩ := q
  obtain ⟨_, a, b⟩ := hp; obtain ⟨_, c, d⟩ := hq
  simp only at a b c d
  obtain ⟨p2, rfl⟩ := Int.eq_ofNat_of_zero_le a
  obtain ⟨q2, rfl⟩ := Int.eq_ofNat_of_zero_le c
  have e := f_way_by st hT (m := p2) (o := q2) (by omega) (by omega) hs
  have k : 0 < ts.sum ∧ ts.sum.natAbs < big := ⟨by omega, hs⟩
  have r := f_round_by st ts
  unfold extraI
  simp only [Int.toNat_natCast]
  generalize wayI ts p2 q2 = w at *
  have fd : ∀ x : Int, fdivD (.int x) (.int ts.sum) st = .ok (.int (x / ts.sum)) st := fun x => by rw [fdivD_int, if_pos k]
  simp [-fdivD_int, F_extra_by, runF, B_extra_by, e, r, fd]
theorem f_extras_by {ts : List Int} (hT : Trk ts) (hs : ts.sum.natAbs < big) {b : List P2} (hb : ∀ p ∈ b, MatOk ts p) (hl : b.length ≤ 1000) : F_extras_by [tupI ts, bagD b] st = .ok (lstI (extrasI ts b)) st := by
  have e := lc_typed (t := .tp [.nm 2, .nm 3]) (fe := callE F_extra_by (consA (varE 0) (consA (varE 2) (consA (varE 3) (nilA))))) (envw := [some (tupI ts), some (bagD b), none, none]) (st := st)
    (fun g : P2 × P2 => D.tup [pairD g.1, pairD g.2]) (fun g => .int (extraI ts g.1 g.2)) (gapsL b) [] (by simp [gaps_len]; omega) (by
      intro g hg
      have := gaps_mem hg
      refine ⟨[some (tupI ts), some (bagD b), some (pairD g.1), some (pairD g.2)], by simp [Tg.set, Tg.sets], ?_⟩
      simp [f_extra_by st hT hs (hb _ this.1) (hb _ this.2)])
  have z := zip_gaps st b
  rw [List.nil_append, show ((gapsL b).map fun g : P2 × P2 => D.int (extraI ts g.1 g.2)) = (extrasI ts b).map D.int by unfold extrasI; rw [List.map_map]; rfl] at e
  generalize extrasI ts b = l at *
  generalize (gapsL b).map (fun g : P2 × P2 => D.tup [pairD g.1, pairD g.2]) = zz at *
  simp [-lcE_eq, F_extras_by, runF, B_extras_by, z]
  simp [z, e, lstI]
theorem f_is_row_by_true {ts : List Int} (hT : Trk ts) (hs : ts.sum.natAbs < big) {b : List P2} (h : BagOk ts b) (hr : RowP ts b) : F_is_row_by [tupI ts, bagD b] st = .ok (.bl true) st := by
  have x := f_is_row_true st hT hs h hr
  have y := f_check_tracked st hT h
  simp [F_is_row, runF, B_is_row, y] at x
  cases e : F_is_row_by [tupI ts, bagD b] st with
  | ok a s => rw [e] at x; simpa using x
  | exc s => rw [e] at x; cases x
  | fail => rw [e] at x; cases x
theorem f_check_marks {ts : List Int} (hT : Trk ts) {b : List P2} (h : BagOk ts b) : F_check_marks [tupI ts, bagD b] st = .ok .non st := by
  simp [F_check_marks, runF, B_check_marks, f_check_track st hT, f_check_bag st h]
theorem f_check_fit_row {ts : List Int} (hT : Trk ts) (hs : ts.sum.natAbs < big) {b : List P2} (h : BagOk ts b) (hr : RowP ts b) : F_check_fit_row [tupI ts, bagD b] st = .ok .non st := by
  simp [F_check_fit_row, runF, B_check_fit_row, f_is_row_by_true st hT hs h hr]
theorem f_all_most {ts : List Int} (hT : Trk ts) (hs : ts.sum.natAbs < big) {b : List P2} (h : BagOk ts b) (hr : RowP ts b) : F_all_most [tupI ts, bagD b] st = .ok (tupI (extrasI ts b)) st := by
  have e := f_extras_by st hT hs h.ok (by have := h.len; omega)
  have tf : tupleF [lstI (extrasI ts b)] st = .ok (tupI (extrasI ts b)) st := rfl
  simp [F_all_most, runF, B_all_most, f_check_marks st hT h, f_check_fit_row st hT hs h hr, e, tf]
def fitB (es : List Int) : D → Bool
  | .tup xs => decide (xs.length = es.length) && (xs.zip es).all fun g => upB g.1 g.2
  | _ => false
def tupOfB : D → Int → Bool
  | .tup xs, k => decide (k ≤ xs.length ∧ (xs.length : Int) ≤ k)
  | _, _ => false
theorem t_is_tuple_of (d : D) (k : Int) (h : Thing d = true) : F_is_tuple_of [d, .int k] st = .ok (.bl (tupOfB d k)) st := by
  cases d with
  | tup xs =>
    by_cases c1 : k ≤ xs.length <;> by_cases c2 : (xs.length : Int) ≤ k <;> simp [F_is_tuple_of, runF, B_is_tuple_of, F_is_tuple_up_to, B_is_tuple_up_to, isiB, tupOfB, c1, c2]
  | _ => first | (simp [F_is_tuple_of, runF, B_is_tuple_of, F_is_tuple_up_to, B_is_tuple_up_to, isiB, tupOfB]; done) | (simp [Thing] at h)
theorem all_zip (xs : List D) (es : List Int) (h : xs.length = es.length) : ((xs.zip es).all fun g => upB g.1 g.2) = (List.range xs.length).all fun i => upB (xs.getD i .non) (es.getD i 0) := by
  rw [Bool.eq_iff_iff, List.all_eq_true, List.all_eq_true]
  constructor
  · intro z i hi
    have hi := List.mem_range.mp hi
    have := z (xs[i], es[i]) (List.mem_iff_getElem.mpr ⟨i, by simp; omega, by simp⟩)
    simpa [hi, (show i < es.length by omega)] using this
  · intro z g hg
    obtain ⟨i, hi, rfl⟩ := List.mem_iff_getElem.mp hg
    have hi' : i < xs.length := by simp at hi; omega
    have := z i (List.mem_range.mpr hi')
    simpa [hi', (show i < es.length by omega)] using this
theorem f_wrong_in_extras {ts : List Int} (hT : Trk ts) (hs : ts.sum.natAbs < big) {b : List P2} (hb : ∀ p ∈ b, MatOk ts p) (hl : b.length ≤ 1000) (d : D) (h : Thing d = true) :
    ∃ l, F_wrong_in_extras [tupI ts, bagD b, d] st = .ok (.lst l) st ∧ l.isEmpty = fitB (extrasI ts b) d ∧ (l = [] ∨ l = [.non] ∨ ∃ i : Int, l = [.int i]) := by
  have e := f_extras_by st hT hs hb hl
  have el := extras_len ts b
  have t := t_is_tuple_of st d (extrasI ts b).length h
  generalize hes : extrasI ts b = es at *
  have ln : lenF [lstI es] st = .ok (.int es.length) st := by unfold lstI; rw [lenF_lst, List.length_map]
  by_cases hf : ∃ xs, d = .tup xs ∧ xs.length = es.length
  · obtain ⟨xs, rfl, hx⟩ := hf
    have hxs := thingL_all.mp (show ThingL xs = true by simpa [Thing] using h)
    have lc := lc_typedF (t := .tp [.nm 4, .nm 5]) (tt := notB (tstE (callE F_is_up_to (consA (varE 5) (consA (binE ixD (varE 3) (varE 4)) (nilA)))))) (fe := varE 4) (envw := [some (tupI ts), some (bagD b), some (.tup xs), some (lstI es), none, none]) (st := st)
      (fun (i : Nat) => D.tup [.int i, xs.getD i .non]) (fun (i : Nat) => D.int i) (fun i => !upB (xs.getD i .non) (es.getD i 0)) (List.range xs.length) [] (by simp; omega) (by
        intro i hi
        have hi := List.mem_range.mp hi
        refine ⟨[some (tupI ts), some (bagD b), some (.tup xs), some (lstI es), some (.int i), some (xs.getD i .non)], by simp [Tg.set, Tg.sets], ?_, fun _ => by simp⟩
        have x1 := ixD_lstI st (ts := es) i (by omega) (by omega)
        simp only [Int.toNat_natCast] at x1
        have x2 := t_is_up_to st (xs.getD i .non) (es.getD i 0) (hxs _ (by rw [List.getD_eq_getElem?_getD, List.getElem?_eq_getElem hi]; exact List.getElem_mem hi))
        generalize xs.getD i .non = x at *
        generalize es.getD i 0 = ee at *
        simp [x1, x2])
    rw [List.nil_append] at lc
    have en : enumL xs = (List.range xs.length).map fun (i : Nat) => D.tup [.int i, xs.getD i .non] := by
      have := enumL_typed id D.non xs
      rw [List.map_id] at this
      exact this
    have k : ((es.length : Int) ≤ xs.length ∧ (xs.length : Int) ≤ es.length) := by omega
    simp only [tupOfB, k, and_self, decide_true] at t
    have af : fitB es (.tup xs) = ((List.range xs.length).filter fun i => !upB (xs.getD i .non) (es.getD i 0)).isEmpty := by
      show (decide (xs.length = es.length) && (xs.zip es).all fun g => upB g.1 g.2) = _
      rw [all_zip xs es hx]
      simp only [hx, decide_true, Bool.true_and]
      rw [Bool.eq_iff_iff, List.all_eq_true, List.isEmpty_iff, List.filter_eq_nil_iff]
      simp
    rw [af]
    generalize (List.range xs.length).filter (fun i => !upB (xs.getD i .non) (es.getD i 0)) = fl at *
    rw [← en] at lc
    have sl := cutL_to (fl.map fun (i : Nat) => D.int i) 1
    refine ⟨(fl.map fun (i : Nat) => D.int i).take 1, ?_, ?_, ?_⟩
    · rw [show ((1 : Nat) : Int) = 1 from rfl] at sl
      generalize (fl.map fun (i : Nat) => D.int i) = fd at *
      simp [-lcE_eq, F_wrong_in_extras, runF, B_wrong_in_extras, e, ln, t]
      simp [lc]
      exact sl
    · cases fl <;> rfl
    · cases fl with
      | nil => exact .inl rfl
      | cons i fl => exact .inr (.inr ⟨i, rfl⟩)
  · have t0 : F_is_tuple_of [d, .int es.length] st = .ok (.bl false) st := by
      rw [t]
      cases d with
      | tup xs =>
        have : ¬ ((es.length : Int) ≤ xs.length ∧ (xs.length : Int) ≤ es.length) := fun z => hf ⟨xs, rfl, by omega⟩
        simp only [tupOfB, this, decide_false]
      | _ => rfl
    refine ⟨[.non], by simp [F_wrong_in_extras, runF, B_wrong_in_extras, e, ln, t0], ?_, .inr (.inl rfl)⟩
    cases d with
    | tup xs =>
      have : ¬ (xs.length = es.length) := fun z => hf ⟨xs, rfl, z⟩
      simp [fitB, this]
    | _ => rfl
end
end Lap
namespace Lap
open PySem G
def pat (row : List P2) (i : Nat) : P2 := row.getD i (0, 0)
theorem pat_get {row : List P2} {i : Nat} (h : i < row.length) : pat row i = row[i] := by unfold pat; rw [List.getD_eq_getElem?_getD, List.getElem?_eq_getElem h]; rfl
def headD : List Int → D
  | [] => .non
  | x :: _ => .int x
end Lap
namespace Lap
open PySem PySem.Spec PyProof.Rows L2 G
theorem set_same {st : Sto} {q : Nat} {mo : MO} (h : st[q]? = some mo) : st.set q mo = st := by
  apply List.ext_getElem?
  intro j
  by_cases hj : q = j
  · subst hj
    rw [List.getElem?_set_self (List.getElem?_eq_some_iff.mp h).1, h]
  · rw [List.getElem?_set_ne hj]
theorem set_set {st : Sto} {q : Nat} {a b : MO} : (st.set q a).set q b = st.set q b := by simp
end Lap
namespace Lap
open PySem G
def addAt (l : List Int) (i : Nat) : List Int := l.set i (l.getD i 0 + 1)
def bumps (l : List Int) (is : List Nat) : List Int := is.foldl addAt l
theorem bumps_len (is : List Nat) : ∀ l, (bumps l is).length = l.length := by
  induction is with
  | nil => intro l; rfl
  | cons i is ih => intro l; show (bumps (addAt l i) is).length = _; rw [ih]; simp [addAt]
theorem bumps_get (is : List Nat) : ∀ (l : List Int) (j : Nat), j < l.length → (bumps l is).getD j 0 = l.getD j 0 + (is.count j : Nat) := by
  induction is with
  | nil => intro l j _; simp [bumps]
  | cons i is ih =>
    intro l j hj
    show (bumps (addAt l i) is).getD j 0 = _
    rw [ih (addAt l i) j (by simpa [addAt] using hj)]
    unfold addAt
    by_cases h : i = j
    · subst h
      simp [List.getD_eq_getElem?_getD, hj, List.count_cons]
      omega
    · have h' : ¬ j = i := fun z => h z.symm
      simp [List.getD_eq_getElem?_getD, List.getElem?_set_ne h, List.count_cons, h, h']
def stepL (M m n : Nat) : List Nat := (List.range (n - 1)).map fun k => (m + (k + 1)) % M
def betweenL (M : Nat) (g : P2 × P2) : List Nat := stepL M g.1.2.toNat (stepsN M g.1.2.toNat g.2.2.toNat)
def missF (M : Nat) (gs : List (P2 × P2)) (s : Int) (i : Nat) : Int := s + (gs.map fun g => ((betweenL M g).count i : Int)).sum
def missL (M : Nat) (gs : List (P2 × P2)) (s : Int) : List Int := (List.range M).map (missF M gs s)
theorem miss_len (M : Nat) (gs : List (P2 × P2)) (s : Int) : (missL M gs s).length = M := by simp [missL]
theorem miss_get {M : Nat} {gs : List (P2 × P2)} {s : Int} {i : Nat} (h : i < M) : (missL M gs s).getD i 0 = missF M gs s i := by
  unfold missL; simp [List.getD_eq_getElem?_getD, h]
theorem list_eqI {a b : List Int} (hl : a.length = b.length) (h : ∀ i, i < a.length → a.getD i 0 = b.getD i 0) : a = b := by
  refine List.ext_getElem hl fun i h1 h2 => ?_
  have := h i h1
  simpa [List.getD_eq_getElem?_getD, h1, h2] using this
theorem miss_nil (M : Nat) (s : Int) : missL M [] s = List.replicate M s := by
  refine list_eqI (by simp [missL]) fun i hi => ?_
  rw [miss_len] at hi
  rw [miss_get hi]
  simp [missF, List.getD_eq_getElem?_getD, hi]
theorem miss_snoc (M : Nat) (gs : List (P2 × P2)) (g : P2 × P2) (s : Int) : missL M (gs ++ [g]) s = bumps (missL M gs s) (betweenL M g) := by
  refine list_eqI (by rw [bumps_len, miss_len, miss_len]) fun i hi => ?_
  rw [miss_len] at hi
  rw [miss_get hi, bumps_get _ _ _ (by rw [miss_len]; exact hi), miss_get hi]
  unfold missF
  simp [List.map_append, List.sum_append]
  omega
theorem mem_stepL {M : Nat} (hM : 0 < M) {m n j : Nat} (h : j ∈ stepL M m n) : j < M := by
  unfold stepL at h
  obtain ⟨k, _, rfl⟩ := List.mem_map.mp h
  exact Nat.mod_lt _ hM
theorem setD_at {st : Sto} {q : Nat} {l : List Int} {i : Nat} (h : st[q]? = some (.lst (l.map D.int))) (hi : i < l.length) (v : Int) : setD (.mut q) (.int i) (.int v) st = some (st.set q (.lst ((l.set i v).map D.int))) := by
  have := setD_mut (d := .int v) h (j := i) (k := (i : Int)) (by unfold L2.ixN; simp [hi])
  rw [this, List.map_set]
theorem ix_mutI {st : Sto} {q : Nat} {l : List Int} {i : Nat} (h : st[q]? = some (.lst (l.map D.int))) (hi : i < l.length) : ixD (.mut q) (.int i) st = .ok (.int (l.getD i 0)) st := by
  show (match (seqOf (.mut q) st).bind fun xs => L2.atI xs (i : Int) with | some d => R.ok d st | none => .fail) = _
  have : seqOf (.mut q) st = some (l.map D.int) := by simp [seqOf, h]
  rw [this, Option.bind_some, atI_nat' _ i (by simpa using hi)]
  simp [List.getD_eq_getElem?_getD, hi]
theorem bump_loop {g : TgF} {body : SvS} {q : Nat} (Env0 : G.Env → Prop) {st0 : Sto} (l0 : List Int) (is : List Nat) (xs : List D) (hx : xs.length = is.length) (h : ∀ i ∈ is, i < l0.length) {env : G.Env} {st : Sto} (he : Env0 env) (hq : st[q]? = some (.lst (l0.map D.int))) (hk : ∀ k, k ≠ q → st[k]? = st0[k]?) (hl : st.length = st0.length)
    (step : ∀ (j : Nat) (x : D) (i : Nat) (l : List Int) (env : G.Env) (s : Sto), xs[j]? = some x → is[j]? = some i → Env0 env → s[q]? = some (.lst (l.map D.int)) → i < l.length → ∃ env', bindS (g x env s) env body = .nx env' (s.set q (.lst ((addAt l i).map D.int))) ∧ Env0 env') :
    ∃ env' st', loopF g body xs env st = .nx env' st' ∧ Env0 env' ∧ st'[q]? = some (.lst ((bumps l0 is).map D.int)) ∧ (∀ k, k ≠ q → st'[k]? = st0[k]?) ∧ st'.length = st0.length := by
  have key := loop_nx (g := g) (body := body) (fun j env s => Env0 env ∧ s[q]? = some (.lst ((bumps l0 (is.take j)).map D.int)) ∧ (∀ k, k ≠ q → s[k]? = st0[k]?) ∧ s.length = st0.length) (xs := xs) (env := env) (st := st) ⟨he, hq, hk, hl⟩
    (by
      rintro j x env s hxj ⟨he, hq, hk, hl⟩
      have hj := (List.getElem?_eq_some_iff.mp hxj).1
      have hi : is[j]? = some is[j] := List.getElem?_eq_getElem (by omega)
      obtain ⟨env', e, he'⟩ := step j x is[j] _ env s hxj hi he hq (by rw [bumps_len]; exact h _ (List.getElem_mem _))
      have hql := (List.getElem?_eq_some_iff.mp hq).1
      refine ⟨env', _, e, he', ?_, fun k hk2 => ?_, by simpa using hl⟩
      · rw [List.take_succ, hi]
        have : bumps l0 (is.take j ++ (some is[j]).toList) = addAt (bumps l0 (is.take j)) is[j] := by
          unfold bumps; rw [List.foldl_append]; rfl
        rw [this]
        simp [hql]
      · rw [List.getElem?_set_ne (fun z => hk2 z.symm)]; exact hk k hk2)
  obtain ⟨env', st', e, a, b, c, d⟩ := key
  rw [hx, List.take_length] at b
  exact ⟨env', st', e, a, b, c, d⟩
theorem f_mats_between (st : Sto) {ts : List Int} (hT : Trk ts) {g : P2 × P2} (hp : MatOk ts g.1) (hq : MatOk ts g.2) : F_mats_between [tupI ts, .int g.1.2, .int g.2.2] st = .ok (.lst ((betweenL ts.length g).map fun (i : Nat) => D.int i)) st := by
  have h0 : 0 < ts.length := hT.pos
  have h8 := hT.le
  have m1 : ((g.1.2.toNat : Nat) : Int) = g.1.2 ∧ g.1.2.toNat < ts.length := by have := hp.2; omega
  have m2 : ((g.2.2.toNat : Nat) : Int) = g.2.2 ∧ g.2.2.toNat < ts.length := by have := hq.2; omega
  have e1 := f_steps_by st m1.2 m2.2
  have hr := steps_rng m1.2 m2.2
  unfold betweenL
  rw [m1.1, m2.1] at e1
  generalize stepsN ts.length g.1.2.toNat g.2.2.toNat = S at *
  have lc := lc_typed (t := .nm 3) (fe := binE modD (binE addD (varE 1) (varE 3)) (callE lenF (consA (varE 0) (nilA)))) (envw := [some (tupI ts), some (.int g.1.2), some (.int g.2.2), none]) (st := st) (fun (i : Nat) => D.int (1 + i)) (fun (i : Nat) => D.int (((g.1.2.toNat + (i + 1)) % ts.length : Nat) : Int)) (List.range (S - 1)) [] (by simp; omega) (by
    intro i _
    refine ⟨[some (tupI ts), some (.int g.1.2), some (.int g.2.2), some (.int (1 + i))], by simp, ?_⟩
    have : (g.1.2 + (1 + (i : Int))) % (ts.length : Int) = (((g.1.2.toNat + (i + 1)) % ts.length : Nat) : Int) := by
      rw [← m1.1]
      push_cast
      congr 1
      omega
    generalize (g.1.2.toNat + (i + 1)) % ts.length = z at *
    simp [h0, this])
  rw [List.nil_append, show (List.range (S - 1)).map (fun (i : Nat) => D.int (1 + i)) = rangeD 1 (S - 1) from rfl] at lc
  have er : (stepL ts.length g.1.2.toNat S).map (fun (i : Nat) => D.int i) = (List.range (S - 1)).map (fun (i : Nat) => D.int (((g.1.2.toNat + (i + 1)) % ts.length : Nat) : Int)) := by
    unfold stepL; rw [List.map_map]; rfl
  rw [er]
  have k1 : ((S : Int) - 1).toNat = S - 1 := by omega
  have k2 : S < 4611686018427387904 := by omega
  generalize (List.range (S - 1)).map (fun (i : Nat) => D.int (((g.1.2.toNat + (i + 1)) % ts.length : Nat) : Int)) = l at *
  simp [F_mats_between, runF, B_mats_between, e1, k1, k2, lc]
def mBody6 : SvS := (asgS (binE addD (binE ixD (varE 3) (varE 6)) (cE (.int 1))) (subT (varE 3) (varE 6)))
def mBody4 : SvS := (forS (iterE (callE F_mats_between (consA (varE 0) (consA (binE ixD (varE 4) (cE (.int 1))) (consA (binE ixD (varE 5) (cE (.int 1))) (nilA)))))) (tgT (.nm 6)) mBody6)
theorem m_eq : B_missed_by = seqS (asgS (binE repMD (lstE (consA (callE sumF (consA (callE listF (consA (varE 2) (nilA))) (nilA))) (nilA))) (callE lenF (consA (varE 0) (nilA)))) (nameT 3)) (seqS (forS (callI zipF (consA (varE 1) (consA (sliceE (varE 1) (someO (cE (.int 1))) (noO)) (nilA)))) (tgT (.tp [.nm 4, .nm 5])) mBody4) (retS (varE 3))) := rfl
theorem rep_st (st : Sto) (x : Int) (M : Nat) (hM : M ≤ 100) : repMD (.lst [.int x]) (.int M) st = .ok (.mut st.length) (st ++ [.lst ((List.replicate M x).map D.int)]) := by
  rw [repMD_int, if_pos ⟨by omega, by omega⟩]
  simp
theorem f_missed_by {st : Sto} {ts : List Int} (hT : Trk ts) {row : List P2} (hr : ∀ p ∈ row, MatOk ts p) (es : List Int) :
    ∃ st', F_missed_by [tupI ts, bagD row, tupI es] st = .ok (.mut st.length) st' ∧ st'[st.length]? = some (.lst ((missL ts.length (gapsL row) es.sum).map D.int)) ∧ (∀ k, k < st.length → st'[k]? = st[k]?) ∧ st.length ≤ st'.length := by
  have h0 : 0 < ts.length := hT.pos
  have h8 := hT.le
  have r1 := rep_st st es.sum ts.length (by omega)
  have hg : ∀ g ∈ gapsL row, MatOk ts g.1 ∧ MatOk ts g.2 := fun g hgm => ⟨hr _ (gaps_mem hgm).1, hr _ (gaps_mem hgm).2⟩
  obtain ⟨env', s2, e2, q4, q5, q6, rfl, hq, hk, hl⟩ := loop_nx (g := tgT (.tp [.nm 4, .nm 5])) (body := mBody4)
    (fun j env s => ∃ q4 q5 q6 : Option D, env = [some (tupI ts), some (bagD row), some (tupI es), some (.mut st.length), q4, q5, q6] ∧ s[st.length]? = some (.lst ((missL ts.length ((gapsL row).take j) es.sum).map D.int)) ∧ (∀ k, k ≠ st.length → s[k]? = (st ++ [MO.lst []])[k]?) ∧ s.length = st.length + 1)
    (xs := (gapsL row).map fun g => D.tup [pairD g.1, pairD g.2]) (env := [some (tupI ts), some (bagD row), some (tupI es), some (.mut st.length), none, none, none]) (st := st ++ [.lst ((List.replicate ts.length es.sum).map D.int)])
    ⟨_, _, _, rfl, by rw [List.take_zero, miss_nil]; simp, fun k hk => by
      rcases Nat.lt_or_ge k st.length with h | h
      · rw [List.getElem?_append_left h, List.getElem?_append_left h]
      · rw [List.getElem?_append_right h, List.getElem?_append_right h]
        have : k - st.length ≠ 0 := by omega
        cases e : k - st.length with
        | zero => exact absurd e this
        | succ n => simp, by simp⟩
    (by
      rintro j x env s hx ⟨q4, q5, q6, rfl, hq, hk, hl⟩
      rw [List.getElem?_map] at hx
      obtain ⟨g, hgj, rfl⟩ := Option.map_eq_some_iff.mp hx
      have hgo := hg g (List.mem_of_getElem? hgj)
      have mb := f_mats_between s hT hgo.1 hgo.2
      obtain ⟨env', s2, e2, ⟨q6', rfl⟩, hq2, hk2, hl2⟩ := bump_loop (g := tgT (.nm 6)) (body := mBody6) (q := st.length) (fun env => ∃ q6 : Option D, env = [some (tupI ts), some (bagD row), some (tupI es), some (.mut st.length), some (pairD g.1), some (pairD g.2), q6]) (st0 := s) (missL ts.length ((gapsL row).take j) es.sum) (betweenL ts.length g) ((betweenL ts.length g).map fun (i : Nat) => D.int i) (by simp) (fun i hi => by rw [miss_len]; exact mem_stepL h0 hi)
        (env := [some (tupI ts), some (bagD row), some (tupI es), some (.mut st.length), some (pairD g.1), some (pairD g.2), q6]) (st := s) ⟨q6, rfl⟩ hq (fun _ _ => rfl) rfl
        (by
          rintro jj x i l env s' hx hi ⟨q6, rfl⟩ hq hil
          rw [List.getElem?_map, hi] at hx
          cases hx
          have ix := ix_mutI hq hil
          have sd := setD_at hq hil (l.getD i 0 + 1)
          refine ⟨[some (tupI ts), some (bagD row), some (tupI es), some (.mut st.length), some (pairD g.1), some (pairD g.2), some (.int i)], ?_, some (.int i), rfl⟩
          rw [show addAt l i = l.set i (l.getD i 0 + 1) from rfl]
          generalize (l.set i (l.getD i 0 + 1)).map D.int = ll at *
          generalize l.getD i 0 = gv at *
          simp [mBody6, ix, sd])
      rw [← miss_snoc, show (gapsL row).take j ++ [g] = (gapsL row).take (j + 1) by rw [List.take_succ, hgj]; rfl] at hq2
      refine ⟨_, s2, ?_, some (pairD g.1), some (pairD g.2), q6', rfl, hq2, fun k hk3 => (hk2 k hk3).trans (hk k hk3), hl2.trans hl⟩
      have it : iterD (.lst ((betweenL ts.length g).map fun (i : Nat) => D.int i)) s = .ok (.frz ((betweenL ts.length g).map fun (i : Nat) => D.int i)) s := rfl
      generalize (betweenL ts.length g).map (fun (i : Nat) => D.int i) = bl at *
      simp [mBody4, mb, e2])
  rw [List.length_map, List.take_length] at hq
  have z := zip_gaps (st ++ [.lst ((List.replicate ts.length es.sum).map D.int)]) row
  have lf : listF [tupI es] st = .ok (lstI es) st := rfl
  refine ⟨s2, ?_, hq, fun k hk1 => ?_, by omega⟩
  · unfold F_missed_by
    rw [m_eq]
    generalize (List.replicate ts.length es.sum).map D.int = rp at *
    generalize (gapsL row).map (fun g : P2 × P2 => D.tup [pairD g.1, pairD g.2]) = zz at *
    simp [runF, lf, r1, z, e2, -repMD_int]
  · rw [hk k (by omega), List.getElem?_append_left hk1]
theorem f_missed {st : Sto} {ts : List Int} (hT : Trk ts) (hs : ts.sum.natAbs < big) {row : List P2} (h : BagOk ts row) (hr : RowP ts row) (es : List Int) (hf : fitB (extrasI ts row) (tupI es) = true) :
    ∃ st', F_missed [tupI ts, bagD row, tupI es] st = .ok (tupI (missL ts.length (gapsL row) es.sum)) st' ∧ (∀ k, k < st.length → st'[k]? = st[k]?) ∧ st.length ≤ st'.length := by
  have hth : Thing (tupI es) = true := by
    show ThingL _ = true
    exact thingL_all.mpr fun x hx => by obtain ⟨i, _, rfl⟩ := List.mem_map.mp hx; rfl
  obtain ⟨l, e, hl, -⟩ := f_wrong_in_extras st hT hs h.ok (by have := h.len; omega) (tupI es) hth
  rw [hf] at hl
  have hl' : l = [] := List.isEmpty_iff.mp hl
  subst hl'
  obtain ⟨s1, e1, hq, hk, hle⟩ := f_missed_by (st := st) hT h.ok es
  have tf : tupleF [.mut st.length] s1 = .ok (tupI (missL ts.length (gapsL row) es.sum)) s1 := by
    show (match seqOf (.mut st.length) s1 with | some xs => _ | none => _) = _
    have : seqOf (.mut st.length) s1 = some ((missL ts.length (gapsL row) es.sum).map D.int) := by simp [seqOf, hq]
    rw [this]; rfl
  refine ⟨s1, ?_, hk, hle⟩
  generalize tupI (missL ts.length (gapsL row) es.sum) = mi at *
  simp [F_missed, runF, B_missed, f_check_marks st hT h, f_check_fit_row st hT hs h hr, e, e1, tf, loopF]
end Lap
namespace Lap
open PySem G
theorem extra_nn {ts : List Int} {p q : P2} (hT : Trk ts) (h : followB ts q p = true) : 0 ≤ extraI ts p q := by
  have hw : q.1 - p.1 ≥ wayI ts p.2.toNat q.2.toNat := of_decide_eq_true h
  have := sum_pos hT
  have := hT.pos
  exact Int.ediv_nonneg (by omega) (by omega)
end Lap
namespace Lap
open PySem G
def Draw (F : FA) : Prop := ∀ {st : Sto} {n : Nat} {m : Int}, Pool n st → 0 < m → m.natAbs < big → ∃ v st', F [.mut n, .int m] st = .ok (.int v) st' ∧ 0 ≤ v ∧ v < m ∧ Pool n st' ∧ Eff n st st'
theorem Draw.below {F : FA} (h : Draw F) : Below F := fun hp h1 h2 => h hp h1 (by have := big_ge; omega)
def KpK (n : Nat) (st st' : Sto) : Prop := st.length ≤ st'.length ∧ ∀ k, k < st.length → k ≠ n → st'[k]? = st[k]?
theorem KpK.trans {n : Nat} {a b c : Sto} (h : KpK n a b) (g : KpK n b c) : KpK n a c := ⟨Nat.le_trans h.1 g.1, fun k h1 h2 => (g.2 k (Nat.lt_of_lt_of_le h1 h.1) h2).trans (h.2 k h1 h2)⟩
end Lap
namespace Lap
open PySem G
def EffG (p : Nat) (s s' : Sto) : Prop := s.length ≤ s'.length ∧ ∀ k, k < s.length → k ≠ p → s'[k]? = s[k]?
theorem EffG.refl {p : Nat} {s : Sto} : EffG p s s := ⟨Nat.le_refl _, fun _ _ _ => rfl⟩
theorem EffG.trans {p : Nat} {a b c : Sto} (h : EffG p a b) (g : EffG p b c) : EffG p a c := ⟨Nat.le_trans h.1 g.1, fun k h1 h2 => (g.2 k (Nat.lt_of_lt_of_le h1 h.1) h2).trans (h.2 k h1 h2)⟩
theorem EffG.of {p : Nat} {a b : Sto} (h : Eff p a b) : EffG p a b := ⟨by rw [h.1]; exact Nat.le_refl _, fun k _ h2 => h.2 k h2⟩
theorem EffG.push {p : Nat} {a : Sto} (m : MO) : EffG p a (a ++ [m]) := ⟨by simp, fun k h _ => List.getElem?_append_left h⟩
theorem EffG.setNew {p q : Nat} {a b : Sto} (h : EffG p a b) (hq : a.length ≤ q) (m : MO) : EffG p a (b.set q m) := ⟨by rw [List.length_set]; exact h.1, fun k h1 h2 => by rw [List.getElem?_set_ne (by omega)]; exact h.2 k h1 h2⟩
theorem pool_push {p : Nat} {st : Sto} (hp : Pool p st) (m : MO) : Pool p (st ++ [m]) := pool_keep hp fun k h => List.getElem?_append_left h
theorem pool_lt {p : Nat} {st : Sto} (hp : Pool p st) : p < st.length := by obtain ⟨a, b, c, e⟩ := hp; exact (List.getElem?_eq_some_iff.mp e).1
theorem w_take : Draw F__law_take := by
  intro st n m hp h1 h2
  obtain ⟨a, b, c, hp⟩ := hp
  have hn : n < st.length := (List.getElem?_eq_some_iff.mp hp).1
  by_cases ha : 0 < a
  · refine ⟨a % m, st.set n (.lst [.int (a / m), .int b, .int c]), ?_, Int.emod_nonneg _ (by omega), Int.emod_lt_of_pos _ h1, ⟨_, _, _, p_get hn _⟩, .set⟩
    simp [runF, F__law_take, B__law_take, p_ix0 hp, ha, h1, h2, p_set0 hp]
  · have g := fun x y z => p_get (n := n) hn (MO.lst [x, y, z])
    have s1 : ∀ x, mulOk x 39373 := fun x => mulOk_lit (by decide)
    have s2 : ∀ x, mulOk x 30323 := fun x => mulOk_lit (by decide)
    have s3 : (128 : Int).natAbs < big := by have := big_ge; omega
    have s3' : (128 : Nat) < big := s3
    refine ⟨(b * 39373 + (c + 1) * 30323 + 11) % 2147483543 / 128 % m, st.set n (.lst [.int a, .int ((b * 39373 + (c + 1) * 30323 + 11) % 2147483543), .int (c + 1)]), ?_, Int.emod_nonneg _ (by omega), Int.emod_lt_of_pos _ h1, ⟨_, _, _, p_get hn _⟩, .set⟩
    simp [runF, F__law_take, B__law_take, p_ix0 hp, ha, p_ix2 hp, p_set2 hp, p_ix1 (g _ _ _), p_ix2 (g _ _ _), p_set1 (g _ _ _), h1, s1, s2, s3']
theorem w_below : Below F__law_take := w_take.below
theorem w_of : One F__law_of := oneA_ok w_below
theorem w_well : MkPool F__law_well := by
  intro st ns k
  have cell : ∃ z : Int, ∀ env : G.Env, (ifE (tstE (binE ltD (varE 1) (callE lenF (consA (varE 0) (nilA))))) (callE intF (consA (binE ixD (varE 0) (varE 1)) (nilA))) (cE (.int 0))) (some (.slo (ns.map D.int)) :: some (.int k) :: env) st = .ok (.int z) st := by
    by_cases hk : k < ns.length
    · have hk' : (k : Int) < ns.length := by omega
      refine ⟨ns[k], fun env => ?_⟩
      simp [hk, ixD_slo _ _ st (atI_nat' (ns.map D.int) k (by simpa using hk))]
    · exact ⟨0, fun env => by simp [hk]⟩
  obtain ⟨z, cell⟩ := cell
  have m2 : mulOk 6971 (k : Int) := mulOk_lit' (by decide)
  have hM2 : ∀ f : Int, mulOk f 44497 := fun f => mulOk_lit (by decide)
  have key := loop_nx (g := tgT (.nm 4)) (body := (asgS (binE modD (callE intF (consA (binE addD (binE addD (binE mulD (varE 3) (cE (.int 44497))) (binE modD (callE intF (consA (varE 4) (nilA))) (cE (.int 2147483587)))) (cE (.int 29))) (nilA))) (cE (.int 2147483563))) (nameT 3)))
    (fun _ env s => ∃ (f : Int) (o : Option D), env = [some (.slo (ns.map D.int)), some (.int k), some (.int z), some (.int f), o] ∧ s = st) (xs := (ns.take 8 ++ [z]).map D.int) (env := [some (.slo (ns.map D.int)), some (.int k), some (.int z), some (.int (52027 + 6971 * k)), none]) (st := st) ⟨_, none, rfl, rfl⟩
    (by
      rintro j x env s hx ⟨f, o, rfl, rfl⟩
      rw [List.getElem?_map] at hx
      obtain ⟨y, _, rfl⟩ := Option.map_eq_some_iff.mp hx
      exact ⟨[some (.slo (ns.map D.int)), some (.int k), some (.int z), some (.int ((f * 44497 + y % 2147483587 + 29) % 2147483563)), some (.int y)], s, by simp [hM2], _, _, rfl, rfl⟩)
  obtain ⟨env', s', e, f, o, rfl, rfl⟩ := key
  have h12 : cutL ns none (some 8) = ns.take 8 := cutL_to ns 8
  have sl : cutD (ns.map D.int) none (some 8) = (ns.take 8).map D.int := by rw [cutD_map, h12]
  have ad : addD (.lst ((ns.take 8).map D.int)) (.lst [.int z]) s' = .ok (.lst ((ns.take 8 ++ [z]).map D.int)) s' := by
    have : ((ns.take 8).map D.int).length + [D.int z].length ≤ 16777216 := by simp; omega
    simp [addD, this]
    omega
  refine ⟨if z < 0 ∨ 10 ^ 18 ≤ z then (if z < 0 then -z else z) else 0, f, 0, ?_⟩
  unfold F__law_well B__law_well
  generalize (ns.take 8 ++ [z]).map D.int = xs at *
  generalize (ns.take 8).map D.int = x8 at *
  simp only [runF, List.length_cons, List.length_nil, if_true, seqS_eq, asgS_eq, List.map_cons, List.map_nil, List.cons_append, List.nil_append]
  rw [show (5 - 2 : Nat) = 3 from rfl]
  simp only [List.replicate]
  rw [cell]
  by_cases z1 : z < 0
  · simp [m2, sl, ad, e, z1]
  · by_cases z2 : (1000000000000000000 : Int) ≤ z
    · simp [m2, sl, ad, e, z1, z2]
    · simp [m2, sl, ad, e, z1, z2]
end Lap
namespace Lap
open PySem G
theorem walk_div (ts : List Int) (m n : Nat) (hm : m < ts.length) : walkI ts m n = ((n / ts.length : Nat) : Int) * ts.sum + walkI ts m (n % ts.length) := by
  have h0 : 0 < ts.length := by omega
  have hr := Nat.mod_lt n h0
  rw [← reachI_eq ts m n hm, ← reachI_eq ts m (n % ts.length) hm]
  unfold reachI
  rw [Nat.mod_mod, Nat.div_eq_of_lt hr]
  simp
section
variable (st : Sto)
theorem w_reach (ts : List Int) (m n : Nat) (hm : m < ts.length) (hl : ts.length ≤ 100) (hn : n < big) (hs : ts.sum.natAbs < big) : F__law_reach_v3 [tupI ts, .int m, .int n] st = .ok (.int (walkI ts m n)) st := by
  rw [walk_div ts m n hm]
  have h0 : 0 < ts.length := by omega
  have hq : n / ts.length ≤ n := Nat.div_le_self _ _
  have hr := Nat.mod_lt n h0
  have e1 : (n : Int) / (ts.length : Int) = ((n / ts.length : Nat) : Int) := by simp
  have e2 : (n : Int) % (ts.length : Int) = ((n % ts.length : Nat) : Int) := by simp
  generalize n / ts.length = q at e1 hq ⊢
  generalize n % ts.length = r at e2 hr ⊢
  have h2 : mulOk (q : Int) ts.sum := .inr (.inr ⟨by omega, hs⟩)
  obtain ⟨env', s', e, ⟨o, rfl⟩, hs'⟩ := loop_nx (g := tgT (.nm 5)) (body := (asgS (binE addD (varE 4) (binE ixD (varE 0) (binE modD (callE intF (consA (binE addD (varE 1) (varE 5)) (nilA))) (varE 3)))) (nameT 4)))
    (fun j env s => (∃ o : Option D, env = [some (tupI ts), some (.int m), some (.int n), some (.int ts.length), some (.int ((q : Int) * ts.sum + walkI ts m j)), o]) ∧ s = st) (xs := rangeD 0 r) (env := [some (tupI ts), some (.int m), some (.int n), some (.int ts.length), some (.int ((q : Int) * ts.sum)), none]) (st := st) ⟨⟨none, by simp [walkI]⟩, rfl⟩
    (by
      rintro j x env s hx ⟨⟨o, rfl⟩, rfl⟩
      obtain ⟨rfl, hj⟩ := range_get hx
      have e4 : ((m : Int) + j) % (ts.length : Int) = (((m + j) % ts.length : Nat) : Int) := by simp
      have hb := Nat.mod_lt (m + j) h0
      have e5 := ixD_tupI s ts (((m + j) % ts.length : Nat) : Int) (by omega) (by omega)
      refine ⟨_, s, ?_, ⟨some (.int (0 + j)), rfl⟩, rfl⟩
      rw [walk_succ]
      unfold at_
      simp [-Int.natCast_emod, h0, e4, e5]
      omega)
  rw [show (rangeD 0 r).length = r by simp [rangeD]] at e
  have hd : fdivD (.int n) (.int ts.length) st = .ok (.int q) st := by
    simp [h0, e1, -Int.natCast_ediv]
    have := big_ge
    omega
  have hb : r < 4611686018427387904 := by omega
  subst hs'
  generalize walkI ts m r = wk at *
  simp [-Int.natCast_emod, -Int.natCast_ediv, F__law_reach_v3, runF, B__law_reach_v3, e2, h0, h2, hd, hb, e]
theorem w_steps {ts : List Int} {m o : Nat} (hm : m < ts.length) (ho : o < ts.length) : F__law_steps_v4 [tupI ts, .int m, .int o] st = .ok (.int (stepsN ts.length m o)) st := by
  have h0 : 0 < ts.length := by omega
  have lt : lenF [tupI ts] st = .ok (.int ts.length) st := by unfold tupI; rw [lenF_tup, List.length_map]
  have key : ((o : Int) - m) % (ts.length : Int) = ((if m = o then 0 else stepsN ts.length m o : Nat) : Int) := by
    rcases steps_cases hm ho with ⟨h, e⟩ | ⟨h, e⟩
    · rw [if_neg (by omega), e, Int.emod_eq_of_lt (by omega) (by omega)]; omega
    · by_cases z : m = o
      · rw [if_pos z]; subst z; simp
      · rw [if_neg z, e]
        have : ((o : Int) - m) = ((o : Int) - m + ts.length) + ts.length * (-1) := by omega
        rw [this, Int.add_mul_emod_self_left, Int.emod_eq_of_lt (by omega) (by omega)]
        omega
  have md : modD (.int ((o : Int) - m)) (.int ts.length) st = .ok (.int ((if m = o then 0 else stepsN ts.length m o : Nat) : Int)) st := by
    rw [← key]
    have : (0 : Int) < ts.length := by omega
    simp [modD, this, h0]
  have hr := steps_rng hm ho
  by_cases z : m = o
  · subst z
    have e : stepsN ts.length m m = ts.length := by rcases steps_cases hm hm with ⟨h, e⟩ | ⟨h, e⟩ <;> omega
    rw [if_pos rfl, Int.sub_self] at md
    rw [e]
    clear key hr
    generalize (ts.length : Int) = L at *
    generalize tupI ts = td at *
    simp [-modD_int, F__law_steps_v4, runF, B__law_steps_v4, lt, md]
  · rw [if_neg z] at md
    have : (0 : Int) < (stepsN ts.length m o : Nat) := by omega
    generalize ((stepsN ts.length m o : Nat) : Int) = sn at *
    clear hr key
    generalize (ts.length : Int) = L at *
    generalize tupI ts = td at *
    simp [-modD_int, F__law_steps_v4, runF, B__law_steps_v4, lt, md, this]
theorem w_way {ts : List Int} (h : Trk ts) {m o : Nat} (hm : m < ts.length) (ho : o < ts.length) (hs : ts.sum.natAbs < big) : F__law_way_v3 [tupI ts, .int m, .int o] st = .ok (.int (wayI ts m o)) st := by
  have hb := big_ge
  have hr := steps_rng hm ho
  have h8 := h.le
  have e1 := w_steps st hm ho
  have e2 := w_reach st ts m (stepsN ts.length m o) hm (by omega) (by omega) hs
  unfold wayI
  generalize stepsN ts.length m o = sn at *
  generalize walkI ts m sn = wk at *
  generalize tupI ts = td at *
  simp [F__law_way_v3, runF, B__law_way_v3, e1, e2]
end
theorem w_track {st : Sto} {p : Nat} (hp : Pool p st) : ∃ ts st', F__law_track [.mut p] st = .ok (tupI ts) st' ∧ DT ts 40 ∧ Pool p st' ∧ Eff p st st' := by
  obtain ⟨w, s1, e1, hw, hp1, ef1⟩ := w_of.three 3 9 40 hp
  obtain ⟨u, s2, e2, hu, hp2, ef2⟩ := w_of.three 3 4 8 hp1
  obtain ⟨ki, s3, e3, k0, k1, hp3, ef3⟩ := w_below (m := u) hp2 (by omega) (by omega)
  obtain ⟨k, rfl⟩ := Int.eq_ofNat_of_zero_le k0
  have kk : (1 : Int) + k = ((k + 1 : Nat) : Int) := by push_cast; omega
  obtain ⟨s4, acc, e4, ⟨ts, rfl, hts, hlt⟩, hp4, ef4⟩ := lc_inv (t := .nm 2) (tt := yesB) (fe := binE addD (cE (.int 1)) (callE F__law_take (consA (varE 0) (consA (varE 1) (nilA))))) (envw := [some (.mut p), some (.int w), none])
    (fun j s acc => (∃ ts : List Int, acc = ts.map D.int ∧ (∀ x ∈ ts, 1 ≤ x ∧ x ≤ 40) ∧ ts.length = j) ∧ Pool p s ∧ Eff p st s) (rangeD 0 (k + 1)) 0 s3 [] ⟨⟨[], rfl, by simp, rfl⟩, hp3, (ef1.trans ef2).trans ef3⟩
    (by
      rintro j x s acc hx ⟨⟨ts, rfl, h1, h2⟩, hp, ef⟩
      obtain ⟨rfl, hj⟩ := range_get hx
      obtain ⟨v, s2, e2, v0, v1, hp2, ef2⟩ := w_below (m := w) hp (by omega) (by omega)
      refine ⟨s2, (ts ++ [1 + v]).map D.int, fun k => ?_, ⟨ts ++ [1 + v], rfl, fun y hy => ?_, by simp [h2]⟩, hp2, ef.trans ef2⟩
      · rw [turnC_yes (y := .int (1 + v)) (st' := s2) (env1 := [some (.mut p), some (.int w), some (.int (0 + j))]) (by simp) (by simp [e2]) (by simp; omega)]
        simp
      · rcases List.mem_append.mp hy with hy | hy
        · exact h1 y hy
        · rw [List.mem_singleton.mp hy]; omega)
  have hl : ts.length = k + 1 := by rw [hlt]; simp [rangeD]
  refine ⟨ts, s4, ?_, .of (by decide) (by omega) (by omega) hts, hp4, ef4⟩
  have tf : tupleF [.lst (ts.map D.int)] s4 = .ok (tupI ts) s4 := rfl
  have rg : range1F [.int ((k + 1 : Nat) : Int)] s3 = .ok (.frz (rangeD 0 (k + 1))) s3 := by rw [range1F_eq, if_pos (by omega)]; simp
  generalize rangeD 0 (k + 1) = rgd at *
  generalize ts.map D.int = tl at *
  generalize tupI ts = td at *
  simp [-range1F_eq, -Int.natCast_add, F__law_track, runF, B__law_track, e1, e2, e3, kk, rg, e4, tf]
end Lap
namespace Lap
open PySem G
theorem len_mutD {st : Sto} {q : Nat} {xs : List D} (h : st[q]? = some (.lst xs)) : lenF [.mut q] st = .ok (.int xs.length) st := by
  have : lenOf (.mut q) st = some xs.length := by simp [lenOf, h]
  unfold lenF
  simp [this]
def cBody : SvS := (seqS (parS 5 6 (consA (binE addD (binE addD (varE 5) (binE ixD (varE 1) (varE 6))) (callE F__law_take (consA (varE 0) (consA (varE 7) (nilA))))) (consA (binE modD (callE intF (consA (binE addD (varE 6) (cE (.int 1))) (nilA))) (callE lenF (consA (varE 1) (nilA)))) (nilA)))) (ifS (andB (tstE (binE gtD (callE F__law_take (consA (varE 0) (consA (varE 8) (nilA)))) (cE (.int 0)))) (tstE (binE ltD (callE lenF (consA (varE 4) (nilA))) (varE 3)))) (exprS (methLE appF (varE 4) (consA (tupE (consA (varE 5) (consA (varE 6) (nilA)))) (nilA)))) (passS)))
theorem c_eq : B__law_course = seqS (asgS (tupE (consA (mutE (nilA)) (consA (varE 2) (consA (cE (.int 0)) (consA (callE F__law_of (consA (varE 0) (consA (tupE (consA (cE (.int 1)) (consA (cE (.int 4)) (consA (cE (.int 30)) (nilA))))) (nilA)))) (consA (callE F__law_of (consA (varE 0) (consA (tupE (consA (cE (.int 2)) (consA (cE (.int 4)) (consA (cE (.int 8)) (nilA))))) (nilA)))) (nilA))))))) (tupT 5 (consT (nameT 4) (consT (nameT 5) (consT (nameT 6) (consT (nameT 7) (consT (nameT 8) (nilT)))))))) (seqS (forS (callI range1F (consA (cE (.int 60)) (nilA))) (tgT (.nm 9)) cBody) (retS (callE tupleF (consA (sliceE (varE 4) (noO) (someO (callE F__law_take (consA (varE 0) (consA (binE addD (varE 3) (cE (.int 1))) (nilA)))))) (nilA))))) := rfl
end Lap
namespace Lap
open PySem G
def fullL (t0 : Int) (b : List P2) : List P2 := (t0, 0) :: b
structure RowsOk (ts : List Int) (row : List P2) : Prop where
  ok : RowOk ts row
  n : row.length ≤ 31
  tb : ∀ p ∈ row, p.1.natAbs < big
structure RaceOk (ts : List Int) (t0 : Int) (bs : List (List P2)) : Prop where
  n1 : 1 ≤ bs.length
  n6 : bs.length ≤ 6
  bag : ∀ b ∈ bs, BagOk ts b
  row : ∀ b ∈ bs, RowsOk ts (fullL t0 b)
  s0 : 0 ≤ t0
def raceD (t0 : Int) (bs : List (List P2)) : D := .tup [.int t0, .tup (bs.map bagD)]
section
variable (st : Sto)
theorem f_is_row_by2 {ts : List Int} (hT : Trk ts) (hs : ts.sum.natAbs < big) {b : List P2} (hok : ∀ p ∈ b, MatOk ts p) (h30 : b.length ≤ 1000) (hr : RowP ts b) : F_is_row_by [tupI ts, bagD b] st = .ok (.bl true) st := by
  have e := lc_typedF (t := .nm 2) (tt := notB (tstE (callE F_can_follow_by (consA (varE 0) (consA (binE ixD (varE 1) (varE 2)) (consA (binE ixD (varE 1) (binE subD (varE 2) (cE (.int 1)))) (nilA))))))) (fe := varE 2) (envw := [some (tupI ts), some (bagD b), none]) (st := st)
    (fun (i : Nat) => D.int (1 + i)) (fun (i : Nat) => D.int (1 + i)) (fun _ => false) (List.range (b.length - 1)) [] (by simp; omega) (by
      intro i hi
      have hi := List.mem_range.mp hi
      refine ⟨[some (tupI ts), some (bagD b), some (.int (1 + i))], by simp, ?_, fun z => by cases z⟩
      have k1 : (1 : Int) + i = ((i + 1 : Nat) : Int) := by push_cast; omega
      have k2 : ((i + 1 : Nat) : Int) - 1 = (i : Int) := by push_cast; omega
      have x1 := ix_bag st b (i + 1) (by omega)
      have x2 := ix_bag st b i (by omega)
      have f := f_can_follow_by st hT hs (hok _ (List.getElem_mem (l := b) (n := i + 1) (by omega))) (hok _ (List.getElem_mem (l := b) (n := i) (by omega)))
      have g : followB ts b[i + 1] b[i] = true := List.pairwise_iff_getElem.mp hr i (i + 1) (by omega) (by omega) (by omega)
      rw [g] at f
      simp [-Int.natCast_add, k1, k2, x1, x2, f])
  have er : rangeD 1 (b.length - 1) = (List.range (b.length - 1)).map fun (i : Nat) => D.int (1 + i) := rfl
  have e1 : F_wrong_marks_by [tupI ts, bagD b] st = .ok (.lst []) st := by
    have k2 : ((b.length : Int) - 1).toNat = b.length - 1 := by omega
    have k3 : b.length < 4611686018427387904 := by omega
    rw [← er] at e
    simp [F_wrong_marks_by, runF, B_wrong_marks_by, k2, k3, e]
  have e2 : eqD (.lst []) (.lst []) st = .ok (.bl true) st := rfl
  simp [F_is_row_by, runF, B_is_row_by, e1, e2]
theorem f_is_full_row {ts : List Int} (hT : Trk ts) (hs : ts.sum.natAbs < big) {t0 : Int} {b : List P2} (hb : BagOk ts b) (h : RowsOk ts (fullL t0 b)) : F_is_full_row [tupI ts, .int t0, bagD b] st = .ok (.bl true) st := by
  have x1 := f_wrong_in_bag st hb
  have e2 : eqD (.lst []) (.lst []) st = .ok (.bl true) st := rfl
  have x2 : F_is_bag_of [tupI ts, bagD b] st = .ok (.bl true) st := by simp [F_is_bag_of, runF, B_is_bag_of, x1, e2]
  have x3 := f_is_row_by2 st hT hs h.ok.ok (by have := h.n; omega) h.ok.row
  have it : itemsOf (bagD b) = some (b.map pairD) := rfl
  have eb : D.tup (D.tup [.int t0, .int 0] :: b.map pairD) = bagD (fullL t0 b) := rfl
  have := hb.len
  have k : b.length + 1 ≤ 16777216 := by omega
  simp [F_is_full_row, runF, B_is_full_row, x2, it, k, eb, x3]
theorem ix_race0 (t0 : Int) (bs : List (List P2)) : ixD (raceD t0 bs) (.int 0) st = .ok (.int t0) st := ixD_tup _ _ _ rfl
theorem ix_race1 (t0 : Int) (bs : List (List P2)) : ixD (raceD t0 bs) (.int 1) st = .ok (.tup (bs.map bagD)) st := ixD_tup _ _ _ rfl
theorem ix_bags (bs : List (List P2)) (i : Nat) (h : i < bs.length) : ixD (.tup (bs.map bagD)) (.int i) st = .ok (bagD bs[i]) st := by
  refine ixD_tup _ _ _ ?_
  have := atI_nat' (bs.map bagD) i (by simpa using h)
  rw [List.getElem_map] at this
  exact this
theorem sum_ints (ns : List Int) : sumF [.lst (ns.map D.int)] st = .ok (.int ns.sum) st := sumF_lstI st ns
theorem mat_nat {ts : List Int} {p : P2} (h : MatOk ts p) : ((p.2.toNat : Nat) : Int) = p.2 ∧ p.2.toNat < ts.length := by have := h.2; omega
theorem f_full_row_by {t0 : Int} {bs : List (List P2)} {r : Nat} (hr : r < bs.length) (hl : bs[r].length ≤ 30) : F_full_row_by [raceD t0 bs, .int r] st = .ok (bagD (fullL t0 bs[r])) st := by
  have it : itemsOf (bagD bs[r]) = some (bs[r].map pairD) := rfl
  have eb : D.tup (D.tup [.int t0, .int 0] :: bs[r].map pairD) = bagD (fullL t0 bs[r]) := rfl
  have k : bs[r].length + 1 ≤ 16777216 := by omega
  have x0 := ix_race0 st t0 bs
  have x1 := ix_race1 st t0 bs
  have x2 := ix_bags st bs r hr
  generalize raceD t0 bs = rd at *
  simp [F_full_row_by, runF, B_full_row_by, x0, x1, x2, it, k, eb]
theorem thing_bag (b : List P2) : Thing (bagD b) = true := by
  show ThingL (b.map pairD) = true
  exact thingL_all.mpr fun x hx => by obtain ⟨p, _, rfl⟩ := List.mem_map.mp hx; rfl
theorem f_check_race {ts : List Int} (hT : Trk ts) (hs : ts.sum.natAbs < big) {t0 : Int} {bs : List (List P2)} (h : RaceOk ts t0 bs) : F_check_race [tupI ts, raceD t0 bs] st = .ok .non st := by
  have h1 := h.n1
  have h6 := h.n6
  have x0 := ix_race0 st t0 bs
  have x1 := ix_race1 st t0 bs
  have hth : Thing (raceD t0 bs) = true := by
    show ThingL [.int t0, .tup (bs.map bagD)] = true
    have : Thing (.tup (bs.map bagD)) = true := by
      show ThingL _ = true
      exact thingL_all.mpr fun x hx => by obtain ⟨p, _, rfl⟩ := List.mem_map.mp hx; exact thing_bag p
    simp [ThingL, this]; rfl
  have x2 := t_is_pair st (raceD t0 bs) hth
  rw [show isPairB (raceD t0 bs) = true from rfl] at x2
  have x3 := f_is_from st t0 0
  simp only [h.s0, decide_true] at x3
  have x4 : F_is_tuple_up_to [.tup (bs.map bagD), .int 1, .int 6] st = .ok (.bl true) st := by
    have c1 : (1 : Int) ≤ bs.length := by omega
    have c2 : (bs.length : Int) ≤ 6 := by omega
    simp [F_is_tuple_up_to, runF, B_is_tuple_up_to, isiB, c1, c2]
  have e := lc_typed (t := .nm 2) (fe := callE F_is_full_row (consA (varE 0) (consA (binE ixD (varE 1) (cE (.int 0))) (consA (varE 2) (nilA))))) (envw := [some (tupI ts), some (raceD t0 bs), none]) (st := st) bagD (fun _ => .bl true) bs [] (by simp; omega) (by
    intro b hb
    refine ⟨[some (tupI ts), some (raceD t0 bs), some (bagD b)], by simp, ?_⟩
    simp [x0, f_is_full_row st hT hs (h.bag b hb) (h.row b hb)])
  have al := all_of st (fun _ : D => true) (bs.map bagD)
  rw [List.map_map] at al
  rw [List.nil_append] at e
  rw [show ((fun _ : D => D.bl true) ∘ bagD) = fun _ : List P2 => D.bl true from rfl] at al
  have e2 : ((bs.map bagD).all fun _ => true) = true := by simp
  rw [e2] at al
  generalize bs.map (fun _ : List P2 => D.bl true) = l1 at *
  generalize bs.map bagD = l2 at *
  generalize raceD t0 bs = rd at *
  simp [F_check_race, runF, B_check_race, F_is_race_of, B_is_race_of, x2, x0, x3, x1, x4, e, al]
theorem f_check_runner {t0 : Int} {bs : List (List P2)} {r : Nat} (hr : r < bs.length) : F_check_runner [raceD t0 bs, .int r] st = .ok .non st := by
  have x1 := ix_race1 st t0 bs
  have u := f_is_up_to st r ((bs.length : Int) - 1)
  have k : ((0 : Int) ≤ r ∧ (r : Int) ≤ (bs.length : Int) - 1) := by omega
  simp only [k, and_self, decide_true] at u
  generalize raceD t0 bs = rd at *
  simp [F_check_runner, runF, B_check_runner, F_is_runner_of, B_is_runner_of, x1, u]
end
end Lap
namespace Lap
open PySem G
def PurS : Nat → D → Prop
  | _, .non => True
  | _, .bl _ => True
  | _, .int _ => True
  | _, .str _ => True
  | k + 1, .tup xs => xs.length ≤ 10000 ∧ ∀ x ∈ xs, PurS k x
  | k + 1, .lst xs => xs.length ≤ 10000 ∧ ∀ x ∈ xs, PurS k x
  | _, _ => False
theorem same2_lc (r : FA) (d : D) (xs : List D) (st : Sto) (hl : xs.length ≤ 10000) (hix : ∀ i, (h : i < xs.length) → ixD d (.int i) st = .ok xs[i] st) (ih : ∀ x ∈ xs, r [x, x] st = .ok (.bl true) st) :
    lcF (.nm 2) yesB (callE r (consA (binE ixD (varE 0) (varE 2)) (consA (binE ixD (varE 1) (varE 2)) (nilA)))) [some d, some d, none] (rangeD 0 xs.length) st [] = .ok (List.replicate xs.length (.bl true)) st := by
  have e := lc_typed (t := .nm 2) (fe := callE r (consA (binE ixD (varE 0) (varE 2)) (consA (binE ixD (varE 1) (varE 2)) (nilA)))) (envw := [some d, some d, none]) (st := st) (fun (i : Nat) => D.int (0 + i)) (fun _ => .bl true) (List.range xs.length) [] (by simp; omega) (by
    intro i hi
    have hi := List.mem_range.mp hi
    refine ⟨[some d, some d, some (.int (0 + i))], by simp, ?_⟩
    rw [Int.zero_add]
    have x := hix i hi
    have y := ih _ (List.getElem_mem hi)
    generalize xs[i] = z at *
    simp [x, y])
  rw [List.nil_append, List.map_const', List.length_range] at e
  exact e
theorem same2_refl : ∀ (k : Nat) (d : D) (st : Sto), PurS k d → R__law_same_v2 (k + 1) [d, d] st = .ok (.bl true) st
  | k, .non, st, _ => by
    show runF 2 3 (B__law_same_v2 (R__law_same_v2 k)) [_, _] st = _
    generalize R__law_same_v2 k = r
    simp [runF, B__law_same_v2, isiB]
  | k, .bl b, st, _ => by
    show runF 2 3 (B__law_same_v2 (R__law_same_v2 k)) [_, _] st = _
    generalize R__law_same_v2 k = r
    simp [runF, B__law_same_v2, isiB]
  | k, .int i, st, _ => by
    show runF 2 3 (B__law_same_v2 (R__law_same_v2 k)) [_, _] st = _
    generalize R__law_same_v2 k = r
    simp [runF, B__law_same_v2, isiB]
  | k, .str s, st, _ => by
    show runF 2 3 (B__law_same_v2 (R__law_same_v2 k)) [_, _] st = _
    generalize R__law_same_v2 k = r
    have es : eqD (.str s) (.str s) st = .ok (.bl true) st := by
      show R.ok (D.bl (decide (s = s))) st = _
      simp
    simp [runF, B__law_same_v2, isiB, es]
  | 0, .tup xs, st, h => h.elim
  | 0, .lst xs, st, h => h.elim
  | k + 1, .tup xs, st, h => by
    obtain ⟨hl, hx⟩ := h
    show runF 2 3 (B__law_same_v2 (R__law_same_v2 (k + 1))) [_, _] st = _
    have ih := fun d hd => same2_refl k d st (hx d hd)
    generalize R__law_same_v2 (k + 1) = r at ih ⊢
    have e := same2_lc r (.tup xs) xs st hl (fun i h => ixD_tup _ _ _ (atI_nat' xs i h)) ih
    have al := all_trues xs.length st
    have rg : range1F [.int (xs.length : Int)] st = .ok (.frz (rangeD 0 xs.length)) st := by rw [range1F_eq, if_pos (by omega)]; simp
    have ln : lenF [.tup xs] st = .ok (.int xs.length) st := lenF_tup ..
    have i1 : ∀ c, isiD c (.tup xs) st = .ok (.bl (isiB .tup c)) st := fun _ => rfl
    have i2 : isi2D .tup .lst (.tup xs) st = .ok (.bl true) st := rfl
    generalize List.replicate xs.length (D.bl true) = rl at *
    generalize rangeD 0 xs.length = rgd at *
    clear hl
    generalize (xs.length : Int) = L at *
    generalize D.tup xs = td at *
    simp [-range1F_eq, runF, B__law_same_v2, i1, i2, isiB, ln, rg, e, al]
  | k + 1, .lst xs, st, h => by
    obtain ⟨hl, hx⟩ := h
    show runF 2 3 (B__law_same_v2 (R__law_same_v2 (k + 1))) [_, _] st = _
    have ih := fun d hd => same2_refl k d st (hx d hd)
    generalize R__law_same_v2 (k + 1) = r at ih ⊢
    have e := same2_lc r (.lst xs) xs st hl (fun i h => ixD_lst _ _ _ (atI_nat' xs i h)) ih
    have al := all_trues xs.length st
    have rg : range1F [.int (xs.length : Int)] st = .ok (.frz (rangeD 0 xs.length)) st := by rw [range1F_eq, if_pos (by omega)]; simp
    have ln : lenF [.lst xs] st = .ok (.int xs.length) st := lenF_lst ..
    have i1 : ∀ c, isiD c (.lst xs) st = .ok (.bl (isiB .lst c)) st := fun _ => rfl
    have i2 : isi2D .tup .lst (.lst xs) st = .ok (.bl true) st := rfl
    generalize List.replicate xs.length (D.bl true) = rl at *
    generalize rangeD 0 xs.length = rgd at *
    clear hl
    generalize (xs.length : Int) = L at *
    generalize D.lst xs = td at *
    simp [-range1F_eq, runF, B__law_same_v2, i1, i2, isiB, ln, rg, e, al]
  | 0, .raw _, _, h => h.elim
  | 0, .dic, _, h => h.elim
  | _ + 1, .dic, _, h => h.elim
  | 0, .emp, _, h => h.elim
  | _ + 1, .emp, _, h => h.elim
  | 0, .fn _, _, h => h.elim
  | _ + 1, .fn _, _, h => h.elim
  | 0, .exv .., _, h => h.elim
  | 0, .rg .., _, h => h.elim
  | _ + 1, .rg .., _, h => h.elim
  | _ + 1, .exv .., _, h => h.elim
  | _ + 1, .raw _, _, h => h.elim
  | 0, .slo _, _, h => h.elim
  | _ + 1, .slo _, _, h => h.elim
  | 0, .mut _, _, h => h.elim
  | _ + 1, .mut _, _, h => h.elim
theorem w_same (d : D) (st : Sto) (h : PurS 19 d) : F__law_same_v2 [d, d] st = .ok (.bl true) st := same2_refl 19 d st h
end Lap
namespace Lap
open PySem G
structure CAr (ts : List Int) (p q j : Nat) (s0 : Sto) (start : Int) (most : Nat) (b : List P2) (t : Int) (m : Nat) (s : Sto) : Prop where
  pool : Pool p s
  at_ : s[q]? = some (.lst (b.map pairD))
  eff : EffG p s0 s
  len : b.length ≤ most
  ok : RowOk ts (fullL start b)
  hm : m < ts.length
  ge : start ≤ t
  le : t ≤ start + j * 70
  all : ∀ x ∈ b, start ≤ x.1 ∧ x.1 ≤ t
  last : ∃ (x : P2) (k : Nat), (fullL start b).getLast? = some x ∧ m = (x.2.toNat + k) % ts.length ∧ x.1 + walkI ts x.2.toNat k ≤ t
theorem cr_turn {ts : List Int} (hT : DT ts 40) {p q j : Nat} {s0 st : Sto} {start : Int} (h0s : 0 ≤ start) {most : Nat} (hmost : most ≤ 1000) (hpq : p ≠ q) (hq0 : s0.length ≤ q) {b : List P2} {t : Int} {m : Nat} (h : CAr ts p q j s0 start most b t m st) {slow share : Int} (hs1 : 1 ≤ slow ∧ slow ≤ 30) (hs2 : 1 ≤ share ∧ share ≤ 30) (o9 : Option D) :
    ∃ b' t' m' st', cBody [some (.mut p), some (tupI ts), some (.int start), some (.int most), some (.mut q), some (.int t), some (.int m), some (.int slow), some (.int share), o9] st =
      .nx [some (.mut p), some (tupI ts), some (.int start), some (.int most), some (.mut q), some (.int t'), some (.int (m' : Nat)), some (.int slow), some (.int share), o9] st' ∧ CAr ts p q (j + 1) s0 start most b' t' m' st' := by
  have h0 : 0 < ts.length := hT.t.pos
  have h8 := hT.t.le
  obtain ⟨hp, hat, hef, hlen, hok, hm, hge, hle, hall, hlast⟩ := h
  have ix := ixD_tupI st ts (m : Int) (by omega) (by omega)
  rw [Int.toNat_natCast] at ix
  have hb := hT.b (ts.getD m 0) (by rw [List.getD_eq_getElem?_getD, List.getElem?_eq_getElem hm]; exact List.getElem_mem hm)
  obtain ⟨d, s1, e1, d0, d1, hp1, ef1⟩ := w_below (m := slow) hp (by omega) (by omega)
  obtain ⟨v, s2, e2, v0, v1, hp2, ef2⟩ := w_below (m := share) hp1 (by omega) (by omega)
  have hm' := Nat.mod_lt (m + 1) h0
  have k2 : ((m : Int) + 1) % (ts.length : Int) = (((m + 1) % ts.length : Nat) : Int) := by push_cast; rfl
  have at2 : s2[q]? = some (.lst (b.map pairD)) := by rw [ef2.2 q (fun z => hpq z.symm), ef1.2 q (fun z => hpq z.symm)]; exact hat
  have eff2 := (hef.trans (.of ef1)).trans (.of ef2)
  have lm : lenF [.mut q] s2 = .ok (.int b.length) s2 := by rw [len_mutD at2, List.length_map]
  have lt : lenF [tupI ts] s1 = .ok (.int ts.length) s1 := lenF_tupI ..
  have hat_ : at_ ts m = ts.getD m 0 := by unfold at_; rw [Nat.mod_eq_of_lt hm]
  -- the last one is followed by what comes now
  have step : ∃ (x : P2) (k : Nat), (fullL start b).getLast? = some x ∧ (m + 1) % ts.length = (x.2.toNat + (k + 1)) % ts.length ∧ x.1 + walkI ts x.2.toNat (k + 1) ≤ t + ts.getD m 0 + d := by
    obtain ⟨x, k, hx, hmk, hw⟩ := hlast
    · refine ⟨x, k, hx, ?_, ?_⟩
      · rw [hmk]; simp [Nat.add_assoc]
      · rw [walk_succ]
        have : at_ ts (x.2.toNat + k) = ts.getD m 0 := by unfold at_; rw [← hmk]
        omega
  have hjm : ((j + 1 : Nat) : Int) * 70 = (j : Int) * 70 + 70 := by push_cast; omega
  by_cases hc : 0 < v ∧ b.length < most
  · have ap := app_mut (pairD (t + ts.getD m 0 + d, (((m + 1) % ts.length : Nat) : Int))) at2 (by simp; omega)
    have il := isL_mut at2
    have mo : MatOk ts (t + ts.getD m 0 + d, (((m + 1) % ts.length : Nat) : Int)) := ⟨by show 0 ≤ t + ts.getD m 0 + d; omega, by show (0 : Int) ≤ _; omega, by show ((_ : Nat) : Int) < _; omega⟩
    have hlt : (b.length : Int) < most := by omega
    refine ⟨b ++ [(t + ts.getD m 0 + d, (((m + 1) % ts.length : Nat) : Int))], t + ts.getD m 0 + d, (m + 1) % ts.length, s2.set q (.lst (b.map pairD ++ [pairD (t + ts.getD m 0 + d, (((m + 1) % ts.length : Nat) : Int))])), ?_, ?_⟩
    · clear hlast step hall hok k2
      have k2 : ((m : Int) + 1) % (ts.length : Int) = (((m + 1) % ts.length : Nat) : Int) := by push_cast; rfl
      have md : modD (.int ((m : Int) + 1)) (.int ts.length) s1 = .ok (.int (((m + 1) % ts.length : Nat) : Int)) s1 := by
        rw [← k2]; have : (0 : Int) < ts.length := by omega
        simp [modD, this, h0]
      unfold pairD at ap ⊢
      simp only at ap ⊢
      generalize (((m + 1) % ts.length : Nat) : Int) = mm at *
      generalize ts.getD m 0 = tm at *
      generalize (ts.length : Int) = L at *
      generalize (b.length : Int) = BL at *
      generalize (most : Int) = MO' at *
      generalize tupI ts = td at *
      simp [-modD_int, cBody, ix, e1, lt, md, e2, hc.1, lm, hlt, il, ap]
    · refine ⟨set_other hpq hp2, ?_, eff2.setNew hq0 _, by simp; omega, ⟨fun y hy => ?_, ?_⟩, hm', by omega, by omega, fun y hy => ?_, ⟨(t + ts.getD m 0 + d, (((m + 1) % ts.length : Nat) : Int)), 0, List.getLast?_concat (l := fullL start b), by show (m + 1) % ts.length = ((m + 1) % ts.length + 0) % ts.length; exact (Nat.mod_mod (m + 1) ts.length).symm, by simp [walkI]⟩⟩
      · have hq := (List.getElem?_eq_some_iff.mp at2).1
        simp [hq]
      · rcases List.mem_append.mp (show y ∈ fullL start b ++ [_] from hy) with hy | hy
        · exact hok.ok y hy
        · rw [List.mem_singleton.mp hy]; exact mo
      · refine row_snoc (b := fullL start b) hT.t hok.ok mo hok.row ?_
        obtain ⟨x, k, hx, hmk, hw⟩ := step
        · refine .inr ⟨x, hx, ?_⟩
          have hxo := hok.ok x (List.mem_of_getLast? hx)
          have := walk_ge_way hT.t (m := x.2.toNat) (s := k + 1) (by have := hxo.2; omega) (by omega)
          rw [← hmk] at this
          unfold followB
          apply decide_eq_true
          simp only [Int.toNat_natCast]
          omega
      · rcases List.mem_append.mp hy with hy | hy
        · have := hall y hy; omega
        · rw [List.mem_singleton.mp hy]; exact ⟨by show start ≤ t + ts.getD m 0 + d; omega, Int.le_refl _⟩
  · refine ⟨b, t + ts.getD m 0 + d, (m + 1) % ts.length, s2, ?_, hp2, at2, eff2, hlen, hok, hm', by omega, by omega, fun y hy => by have := hall y hy; omega, ?_⟩
    · have md : modD (.int ((m : Int) + 1)) (.int ts.length) s1 = .ok (.int (((m + 1) % ts.length : Nat) : Int)) s1 := by
        rw [← k2]; have : (0 : Int) < ts.length := by omega
        simp [modD, this, h0]
      clear hlast step hall hok k2
      by_cases hv : 0 < v
      · have hlt : ¬ ((b.length : Int) < most) := by omega
        clear hc
        generalize (((m + 1) % ts.length : Nat) : Int) = mm at *
        generalize ts.getD m 0 = tm at *
        generalize (ts.length : Int) = L at *
        generalize (b.length : Int) = BL at *
        generalize (most : Int) = MO' at *
        generalize tupI ts = td at *
        simp [-modD_int, cBody, ix, e1, lt, md, e2, hv, lm, hlt]
      · clear hc
        generalize (((m + 1) % ts.length : Nat) : Int) = mm at *
        generalize ts.getD m 0 = tm at *
        generalize (ts.length : Int) = L at *
        generalize (b.length : Int) = BL at *
        generalize (most : Int) = MO' at *
        generalize tupI ts = td at *
        simp [-modD_int, cBody, ix, e1, lt, md, e2, hv]
    · obtain ⟨x, k, hx, hmk, hw⟩ := step
      · exact ⟨x, k + 1, hx, hmk, hw⟩
theorem w_courseR {ts : List Int} (hT : DT ts 40) {p : Nat} {st : Sto} (hp : Pool p st) {start : Int} (h0s : 0 ≤ start) (most : Nat) (hmost : most ≤ 1000) :
    ∃ b st', F__law_course [.mut p, tupI ts, .int start, .int most] st = .ok (bagD b) st' ∧ Pool p st' ∧ EffG p st st' ∧ RowOk ts (fullL start b) ∧ b.length ≤ most ∧ ∀ x ∈ b, start ≤ x.1 ∧ x.1 ≤ start + 4200 := by
  have hpl := pool_lt hp
  have hp0 := pool_push hp (.lst [])
  obtain ⟨slow, s1, e1, w1, hp1, ef1⟩ := w_of.three 1 4 30 hp0
  obtain ⟨share, s2, e2, w2, hp2, ef2⟩ := w_of.three 2 4 8 hp1
  have hpq : p ≠ st.length := by omega
  have eff2 : EffG p st s2 := ((EffG.push _).trans (.of ef1)).trans (.of ef2)
  have at2 : s2[st.length]? = some (.lst []) := by
    rw [ef2.2 _ (fun z => hpq z.symm), ef1.2 _ (fun z => hpq z.symm)]; simp
  obtain ⟨env', s3, e3, ⟨b, t, m, o9, rfl, hC⟩⟩ := loop_nx (g := tgT (.nm 9)) (body := cBody)
    (fun j env s => ∃ b t m o9, env = [some (.mut p), some (tupI ts), some (.int start), some (.int most), some (.mut st.length), some (.int t), some (.int (m : Nat)), some (.int slow), some (.int share), o9] ∧ CAr ts p st.length j st start most b t m s)
    (xs := rangeD 0 60) (env := [some (.mut p), some (tupI ts), some (.int start), some (.int most), some (.mut st.length), some (.int start), some (.int (0 : Nat)), some (.int slow), some (.int share), none]) (st := s2)
    ⟨[], start, 0, none, rfl, hp2, at2, eff2, by simp, ⟨by intro y hy; rw [List.mem_singleton.mp hy]; have := hT.t.pos; exact ⟨h0s, by simp, by show (0 : Int) < ts.length; omega⟩, List.pairwise_singleton _ _⟩, hT.t.pos, by omega, by omega, by simp, ⟨(start, 0), 0, rfl, by simp, by simp [walkI]⟩⟩
    (by
      rintro j x env s hx ⟨b, t, m, o9, rfl, hC⟩
      obtain ⟨b', t', m', s', e, hC'⟩ := cr_turn hT h0s hmost hpq (Nat.le_refl _) hC (slow := slow) (share := share) (by omega) (by omega) (some x)
      refine ⟨_, s', ?_, b', t', m', some x, rfl, hC'⟩
      generalize cBody = cb at *
      generalize tupI ts = td at *
      simp [e])
  obtain ⟨v, s4, e4, v0, v1, hp4, ef4⟩ := w_below (m := (most : Int) + 1) hC.pool (by omega) (by omega)
  obtain ⟨v, rfl⟩ := Int.eq_ofNat_of_zero_le v0
  have at4 : s4[st.length]? = some (.lst (b.map pairD)) := by rw [ef4.2 _ (fun z => hpq z.symm)]; exact hC.at_
  refine ⟨b.take v, s4, ?_, hp4, hC.eff.trans (.of ef4), ⟨fun x hx => by
    rcases List.mem_cons.mp hx with e | hx
    · exact hC.ok.ok x (by rw [e]; exact List.mem_cons_self)
    · exact hC.ok.ok x (List.mem_cons_of_mem _ (List.mem_of_mem_take hx)), hC.ok.row.sublist (List.Sublist.cons_cons _ (List.take_sublist _ _))⟩, by have := hC.len; rw [List.length_take]; omega, fun x hx => ?_⟩
  · have sl : sliceD (.mut st.length) none (some (v : Int)) s4 = .ok (.lst ((b.take v).map pairD)) s4 := by
      unfold sliceD
      simp [seqOf, at4]
    have tf : tupleF [.lst ((b.take v).map pairD)] s4 = .ok (bagD (b.take v)) s4 := rfl
    have rg : range1F [.int 60] s2 = .ok (.frz (rangeD 0 60)) s2 := rfl
    unfold F__law_course
    rw [c_eq]
    clear hC
    generalize (b.take v).map pairD = bl at *
    generalize bagD (b.take v) = bd at *
    generalize cBody = cb at *
    generalize rangeD 0 60 = rgd at *
    generalize tupI ts = td at *
    generalize (most : Int) = MO' at *
    simp at e3
    simp [-range1F_eq, runF, e1, e2, rg, e3, e4, sl, tf]
  · have := hC.all x (List.mem_of_mem_take hx)
    have h2 := hC.le
    simp [rangeD] at h2
    omega
end Lap
namespace Lap
def mxH (f : Nat → Nat → Bool) (g : Nat → Nat) (k j : Nat) : Nat := (List.range k).foldl (fun a i => if f i j = true then max a (g i) else a) 0
def hgts (f : Nat → Nat → Bool) : Nat → List Nat
  | 0 => []
  | n + 1 => hgts f n ++ [1 + mxH f (fun i => (hgts f n).getD i 0) n n]
def hgt (f : Nat → Nat → Bool) (j : Nat) : Nat := (hgts f (j + 1)).getD j 0
end Lap
namespace Lap
structure Mtg (f : Nat → Nat → Bool) (n : Nat) (L : List (Nat × Nat)) : Prop where
  k : (L.map (·.1)).Nodup
  v : (L.map (·.2)).Nodup
  ok : ∀ p ∈ L, f p.1 p.2 = true ∧ p.1 < n ∧ p.2 < n
theorem pair_k {L : List (Nat × Nat)} (h : (L.map (·.1)).Nodup) {i a b : Nat} (h1 : (i, a) ∈ L) (h2 : (i, b) ∈ L) : a = b := by
  induction L with
  | nil => cases h1
  | cons p L ih =>
    rw [List.map_cons, List.nodup_cons] at h
    rcases List.mem_cons.mp h1 with e1 | h1 <;> rcases List.mem_cons.mp h2 with e2 | h2
    · rw [← e1] at e2; exact (congrArg Prod.snd e2).symm
    · exact absurd (List.mem_map.mpr ⟨_, h2, rfl⟩) (by rw [← e1] at h; exact h.1)
    · exact absurd (List.mem_map.mpr ⟨_, h1, rfl⟩) (by rw [← e2] at h; exact h.1)
    · exact ih h.2 h1 h2
theorem pair_v {L : List (Nat × Nat)} (h : (L.map (·.2)).Nodup) {i a b : Nat} (h1 : (a, i) ∈ L) (h2 : (b, i) ∈ L) : a = b := by
  induction L with
  | nil => cases h1
  | cons p L ih =>
    rw [List.map_cons, List.nodup_cons] at h
    rcases List.mem_cons.mp h1 with e1 | h1 <;> rcases List.mem_cons.mp h2 with e2 | h2
    · rw [← e1] at e2; exact (congrArg Prod.fst e2).symm
    · exact absurd (List.mem_map.mpr ⟨_, h2, rfl⟩) (by rw [← e1] at h; exact h.1)
    · exact absurd (List.mem_map.mpr ⟨_, h1, rfl⟩) (by rw [← e2] at h; exact h.1)
    · exact ih h.2 h1 h2
inductive UpL (L : List (Nat × Nat)) : Nat → Nat → Nat → Prop
  | refl (r : Nat) : UpL L 0 r r
  | step {k r x y : Nat} : UpL L k r x → (x, y) ∈ L → UpL L (k + 1) r y
section
variable {f : Nat → Nat → Bool} (hf : ∀ i j, f i j = true → i < j) (htr : ∀ i j k, f i j = true → f j k = true → f i k = true) {n : Nat} {L : List (Nat × Nat)} (hM : Mtg f n L)
include hM
theorem UpL.det {r : Nat} : ∀ {k x y : Nat}, UpL L k r x → UpL L k r y → x = y
  | 0, _, _, .refl _, .refl _ => rfl
  | k + 1, _, _, .step a b, .step c d => by
    have e := UpL.det a c
    rw [e] at b
    exact pair_k hM.k b d
include htr
theorem UpL.more {r : Nat} {k x : Nat} (a : UpL L k r x) : ∀ {m y : Nat}, UpL L (k + m) r y → x = y ∨ f x y = true
  | 0, y, b => .inl (UpL.det hM a b)
  | m + 1, y, .step (x := z) b c => by
    have h := (hM.ok _ c).1
    rcases UpL.more a (m := m) b with e | e
    · rw [e]; exact .inr h
    · exact .inr (htr _ _ _ e h)
include hf
end
end Lap
namespace Lap
open PySem G
def Kp (n : Nat) (st st' : Sto) : Prop := st.length ≤ st'.length ∧ ∀ k, k < st.length → k ≠ n → st'[k]? = st[k]?
theorem Kp.refl {n : Nat} {st : Sto} : Kp n st st := ⟨Nat.le_refl _, fun _ _ _ => rfl⟩
theorem Kp.trans {n : Nat} {s1 s2 s3 : Sto} (a : Kp n s1 s2) (b : Kp n s2 s3) : Kp n s1 s3 := ⟨Nat.le_trans a.1 b.1, fun k h1 h2 => (b.2 k (Nat.lt_of_lt_of_le h1 a.1) h2).trans (a.2 k h1 h2)⟩
theorem _root_.G.Eff.kp {n : Nat} {st st' : Sto} (e : Eff n st st') : Kp n st st' := ⟨by rw [e.1]; exact Nat.le_refl _, fun k _ h => e.2 k h⟩
theorem Kp.set {n q : Nat} {st st' : Sto} {mo : MO} (e : Kp n st st') (h : st.length ≤ q) : Kp n st (st'.set q mo) := ⟨by simpa using e.1, fun k h1 h2 => by rw [List.getElem?_set_ne (by omega)]; exact e.2 k h1 h2⟩
def wayW (way : Nat) : Int := if way = 2 then 1000000000000000000 else if way = 0 then 3 else 30
def moreW (way : Nat) : Int := if way < 2 then 6 else 10000000000000000000
def rowBodyB (FB FG FO : FA) : SvS := (seqS (asgS (binE addD (cE (.int 1)) (callE FB (consA (varE 0) (consA (callE FO (consA (varE 0) (consA (tupE (consA (cE (.int 1)) (consA (cE (.int 2)) (consA (callE lenF (consA (varE 1) (nilA))) (consA (binE addD (binE mulD (cE (.int 2)) (callE lenF (consA (varE 1) (nilA)))) (cE (.int 2))) (nilA)))))) (nilA)))) (nilA))))) (nameT 9)) (seqS (asgS (ifE (tstE (binE ltD (varE 4) (cE (.int 2)))) (callE FB (consA (varE 0) (consA (callE FO (consA (varE 0) (consA (tupE (consA (cE (.int 1)) (consA (cE (.int 3)) (consA (cE (.int 6)) (nilA))))) (nilA)))) (nilA)))) (ifE (tstE (binE eqD (callE FB (consA (varE 0) (consA (cE (.int 2)) (nilA)))) (cE (.int 0)))) (callE FG (consA (varE 0) (consA (binE powD (cE (.int 10)) (cE (.int 19))) (nilA)))) (cE (.int 0)))) (nameT 10)) (seqS (parS 6 7 (consA (binE addD (binE addD (varE 6) (callE F__law_reach_v2 (consA (varE 1) (consA (varE 7) (consA (varE 9) (nilA)))))) (varE 10)) (consA (binE modD (callE intF (consA (binE addD (varE 7) (varE 9)) (nilA))) (callE lenF (consA (varE 1) (nilA)))) (nilA)))) (exprS (methLE appF (varE 5) (consA (tupE (consA (varE 6) (consA (varE 7) (nilA)))) (nilA)))))))
def rowB (FB FG FO : FA) : SvS := seqS (parS3 5 6 7 (consA (mutE (nilA)) (consA (varE 2) (consA (cE (.int 0)) (nilA))))) (seqS (forS (callI range1F (consA (varE 3) (nilA))) (tgT (.nm 8)) (rowBodyB FB FG FO)) (retS (callE tupleF (consA (varE 5) (nilA)))))
structure RaceBd (way : Nat) (most : Nat) (w t0 : Int) (bs : List (List P2)) : Prop where
  len : ∀ b ∈ bs, b.length ≤ most
  sb : 0 ≤ t0 ∧ t0 ≤ (if way < 2 then 8 else 100000000000000000000)
  tm : ∀ b ∈ bs, ∀ p ∈ b, p.1 ≤ t0 + most * (18 * w + moreW way)
end Lap
namespace Lap
open PySem G
structure Rc (ts : List Int) (t0 : Int) (bs : List (List P2)) (T : Int) : Prop where
  t : Trk ts
  s : ts.sum.natAbs < big
  r : RaceOk ts t0 bs
  tT : t0 ≤ T
  tm : ∀ b ∈ bs, ∀ p ∈ b, p.1 ≤ T
  Tb : T ≤ 10 ^ 25
theorem Rc.of {ts : List Int} {way k : Nat} {t0 : Int} {bs : List (List P2)} (hT : DT ts (wayW way)) (hw : way < 3) (hk : k ≤ 30) (h : RaceOk ts t0 bs) (hb : RaceBd way k (wayW way) t0 bs) : Rc ts t0 bs (t0 + k * (18 * wayW way + moreW way)) := by
  have hbig := big_ge
  have hww : 1 ≤ wayW way ∧ wayW way ≤ 1000000000000000000 := by unfold wayW; split <;> (try split) <;> omega
  have hmw : 0 ≤ moreW way ∧ moreW way ≤ 10000000000000000000 := by unfold moreW; split <;> omega
  have hsp := hT.p
  have hss := hT.s
  have ht := hb.sb
  have ht' : t0 ≤ 100000000000000000000 := by have := ht.2; split at this <;> omega
  have ck : (k : Int) * (18 * wayW way + moreW way) ≤ 30 * (18 * wayW way + moreW way) := Int.mul_le_mul_of_nonneg_right (by omega) (by omega)
  have ck0 : 0 ≤ (k : Int) * (18 * wayW way + moreW way) := Int.mul_nonneg (by omega) (by omega)
  exact ⟨hT.t, by omega, h, by omega, hb.tm, by omega⟩
theorem Rc.tb {ts : List Int} {t0 T : Int} {bs : List (List P2)} (h : Rc ts t0 bs T) {t : Int} (h1 : t0 ≤ t) (h2 : t ≤ T + 30) : t.natAbs < big := by
  have := h.r.s0
  have := h.Tb
  have := big_ge
  omega
theorem Rc.row {ts : List Int} {t0 T : Int} {bs : List (List P2)} (h : Rc ts t0 bs T) {r : Nat} (hr : r < bs.length) : RowOk ts (fullL t0 bs[r]) := (h.r.row _ (List.getElem_mem hr)).ok
theorem Rc.l30 {ts : List Int} {t0 T : Int} {bs : List (List P2)} (h : Rc ts t0 bs T) {r : Nat} (hr : r < bs.length) : bs[r].length ≤ 30 := (h.r.bag _ (List.getElem_mem hr)).len
end Lap
namespace Lap
open PySem G
structure Slow (ts ss : List Int) : Prop where
  len : ss.length = ts.length
  ge : ∀ i, i < ts.length → ts.getD i 0 ≤ ss.getD i 0
theorem getD_mem {ts : List Int} {i : Nat} (h : i < ts.length) : ts.getD i 0 ∈ ts := by
  rw [List.getD_eq_getElem?_getD, List.getElem?_eq_getElem h]
  exact List.getElem_mem h
theorem Slow.walk {ts ss : List Int} (h : Slow ts ss) (h0 : 0 < ts.length) (m n : Nat) : walkI ts m n ≤ walkI ss m n := by
  induction n with
  | zero => simp [walkI]
  | succ n ih =>
    rw [walk_succ, walk_succ]
    have := h.ge ((m + n) % ts.length) (Nat.mod_lt _ h0)
    unfold at_
    rw [h.len]
    omega
theorem Slow.way {ts ss : List Int} (h : Slow ts ss) (h0 : 0 < ts.length) (m o : Nat) : wayI ts m o ≤ wayI ss m o := by
  unfold wayI
  rw [h.len]
  exact h.walk h0 _ _
theorem Slow.sum {ts ss : List Int} (h : Slow ts ss) (h0 : 0 < ts.length) : ts.sum ≤ ss.sum := by
  have := h.walk h0 0 ts.length
  rw [walk_round ts 0 h0] at this
  rw [← h.len, walk_round ss 0 (by rw [h.len]; exact h0)] at this
  exact this
end Lap
namespace Lap
open PySem G
def evenL (M : Nat) : List Int := List.replicate M 1
theorem even_len (M : Nat) : (evenL M).length = M := by simp [evenL]
def gapsA (bs : List (List P2)) : List (P2 × P2) := bs.flatMap gapsL
structure BagsOk (M : Nat) (bs : List (List P2)) : Prop where
  h1 : 1 ≤ M
  h8 : M ≤ 8
  n1 : 1 ≤ bs.length
  n6 : bs.length ≤ 6
  ok : ∀ b ∈ bs, BagOk (evenL M) b
theorem BagsOk.gap {M : Nat} {bs : List (List P2)} (h : BagsOk M bs) {g : P2 × P2} (hg : g ∈ gapsA bs) : MatOk (evenL M) g.1 ∧ MatOk (evenL M) g.2 := by
  obtain ⟨b, hb, hg⟩ := List.mem_flatMap.mp hg
  have := gaps_mem hg
  exact ⟨(h.ok b hb).ok _ this.1, (h.ok b hb).ok _ this.2⟩
theorem BagsOk.mats {M : Nat} {bs : List (List P2)} (h : BagsOk M bs) {g : P2 × P2} (hg : g ∈ gapsA bs) : (0 ≤ g.1.2 ∧ g.1.2.toNat < M ∧ (g.1.2.toNat : Int) = g.1.2) ∧ (0 ≤ g.2.2 ∧ g.2.2.toNat < M ∧ (g.2.2.toNat : Int) = g.2.2) := by
  have q := h.gap hg
  have a := q.1.2
  have b := q.2.2
  rw [even_len] at a b
  omega
theorem BagsOk.len {M : Nat} {bs : List (List P2)} (h : BagsOk M bs) : (gapsA bs).length ≤ 1000 := by
  have : ∀ l : List (List P2), (∀ b ∈ l, BagOk (evenL M) b) → (l.flatMap gapsL).length ≤ l.length * 30 := by
    intro l
    induction l with
    | nil => simp
    | cons b l ih =>
      intro hl
      have i := ih fun c hc => hl c (List.mem_cons_of_mem _ hc)
      have := (hl b List.mem_cons_self).len
      rw [List.flatMap_cons, List.length_append, gaps_len, List.length_cons]
      omega
  have := this bs h.ok
  have := h.n6
  unfold gapsA; omega
section
variable (st : Sto)
theorem mul_even (M : Nat) (x : D) (h1 : 1 ≤ M) (h8 : M ≤ 100) : mulD (.tup [x]) (.int M) st = .ok (.tup (List.replicate M x)) st := by
  by_cases z : M = 1
  · subst z
    rfl
  · have : (([x] : List D) ≠ [] ∧ (2 : Int) ≤ M ∧ (M : Int) ≤ 1000 ∧ ([x] : List D).length ≤ 1000) := ⟨by simp, by omega, by omega, by simp⟩
    show (if _ then _ else _) = _
    rw [if_pos this, Int.toNat_natCast]
    have hf : ∀ n, (List.replicate n [x]).flatten = List.replicate n x := by
      intro n
      induction n with
      | zero => rfl
      | succ n ih => rw [List.replicate_succ, List.flatten_cons, ih, List.replicate_succ]; rfl
    rw [hf]
theorem mul_evenI {M : Nat} (x : Int) (h1 : 1 ≤ M) (h8 : M ≤ 100) : mulD (.tup [.int x]) (.int M) st = .ok (tupI (List.replicate M x)) st := by
  rw [mul_even st M _ h1 h8]
  unfold tupI
  rw [List.map_replicate]
end
end Lap
namespace Lap
open PySem G
theorem _root_.G.Pool.ext {n : Nat} {st : Sto} (h : Pool n st) (l : Sto) : Pool n (st ++ l) := by
  obtain ⟨a, b, c, h⟩ := h
  exact ⟨a, b, c, by rw [List.getElem?_append_left (List.getElem?_eq_some_iff.mp h).1]; exact h⟩
end Lap
namespace Lap
open PySem G
structure RaceIn (ts : List Int) (t0 : Int) (bs : List (List P2)) : Prop where
  n1 : 1 ≤ bs.length
  n6 : bs.length ≤ 6
  bag : ∀ b ∈ bs, BagOk ts b
  s0 : 0 ≤ t0
theorem full_ok {ts : List Int} (hT : Trk ts) {t0 : Int} (h0 : 0 ≤ t0) {b : List P2} (hb : ∀ p ∈ b, MatOk ts p) : ∀ p ∈ fullL t0 b, MatOk ts p := fun p hp => by
  rcases List.mem_cons.mp hp with rfl | hp
  · exact ⟨h0, Int.le_refl 0, by show (0 : Int) < _; have := hT.pos; omega⟩
  · exact hb p hp
structure Put (ts : List Int) (t0 : Int) (b : List P2) (m : P2) : Prop where
  bag : BagOk ts b
  row : RowP ts (fullL t0 b)
  s0 : 0 ≤ t0
  mo : MatOk ts m
  new : m ∉ fullL t0 b
theorem row_up {ts : List Int} (hT : Trk ts) {l : List P2} (hok : ∀ p ∈ l, MatOk ts p) (hr : RowP ts l) : l.Pairwise ltP2 :=
  List.Pairwise.imp_of_mem (fun {p q} hp hq f => .inl (follow_lt hT (hok q hq) (hok p hp) f)) hr
theorem Put.up {ts : List Int} (hT : Trk ts) {t0 : Int} {b : List P2} {m : P2} (h : Put ts t0 b m) : (fullL t0 b).Pairwise ltP2 := row_up hT (full_ok hT h.s0 h.bag.ok) h.row
end Lap
namespace Lap
open PySem G
structure LogOk (ts : List Int) (log : List (List P2)) (N : Nat := 6) : Prop where
  n1 : 1 ≤ log.length
  n6 : log.length ≤ min N 8
  len : ∀ b ∈ log, b.length ≤ 30
  ok : ∀ b ∈ log, ∀ p ∈ b, MatOk ts p
def gapsN (log : List (List P2)) : List (Nat × Nat) := (List.range log.length).flatMap fun r => (List.range ((log.getD r []).length - 1)).map fun i => (r, i)
def mkI (log : List (List P2)) (r i : Nat) : P2 := pat (log.getD r []) i
def slackI (ts : List Int) (log : List (List P2)) (g : Nat × Nat) : Int := (mkI log g.1 (g.2 + 1)).1 - (mkI log g.1 g.2).1 - wayI ts (mkI log g.1 g.2).2.toNat (mkI log g.1 (g.2 + 1)).2.toNat
theorem gap_mem {log : List (List P2)} {g : Nat × Nat} : g ∈ gapsN log ↔ g.1 < log.length ∧ g.2 + 1 < (log.getD g.1 []).length := by
  unfold gapsN
  rw [List.mem_flatMap]
  constructor
  · rintro ⟨r, hr, h⟩
    obtain ⟨i, hi, rfl⟩ := List.mem_map.mp h
    have a := List.mem_range.mp hr
    have b := List.mem_range.mp hi
    exact ⟨a, by show i + 1 < (log.getD r []).length; omega⟩
  · rintro ⟨a, b⟩
    exact ⟨g.1, List.mem_range.mpr a, List.mem_map.mpr ⟨g.2, List.mem_range.mpr (by omega), rfl⟩⟩
theorem getD_get {log : List (List P2)} {r : Nat} (h : r < log.length) : log.getD r [] = log[r] := by rw [List.getD_eq_getElem?_getD, List.getElem?_eq_getElem h]; rfl
structure GapAt (ts : List Int) (log : List (List P2)) (g : Nat × Nat) : Prop where
  r : g.1 < log.length
  i : g.2 + 1 < (log.getD g.1 []).length
  m1 : MatOk ts (mkI log g.1 g.2)
  m2 : MatOk ts (mkI log g.1 (g.2 + 1))
  l : (log.getD g.1 []).length ≤ 30
theorem LogOk.at_ {ts : List Int} {log : List (List P2)} {N : Nat} (h : LogOk ts log N) {g : Nat × Nat} (hg : g ∈ gapsN log) : GapAt ts log g := by
  obtain ⟨a, b⟩ := gap_mem.mp hg
  have hm : log.getD g.1 [] ∈ log := by rw [getD_get a]; exact List.getElem_mem a
  refine ⟨a, b, ?_, ?_, h.len _ hm⟩ <;> unfold mkI <;> rw [pat_get (by omega)] <;> exact h.ok _ hm _ (List.getElem_mem _)
end Lap
namespace Lap
abbrev Mt := Nat → Nat → Option Int
def updM (m : Mt) (i j : Nat) (v : Option Int) : Mt := fun a b => if a = i ∧ b = j then v else m a b
def RM (m : Mt) (i j : Nat) (x : Int) : Prop := ∃ y, m i j = some y ∧ y ≤ x
def LeM (m' m : Mt) : Prop := ∀ i j x, RM m i j x → RM m' i j x
theorem LeM.refl (m : Mt) : LeM m m := fun _ _ _ h => h
theorem LeM.trans {a b c : Mt} (h : LeM a b) (g : LeM b c) : LeM a c := fun i j x q => h i j x (g i j x q)
end Lap
namespace Lap
open PySem PySem.Spec PyProof.Rows L2 G
def ov (o : Option Int) : V := match o with
  | none => .non
  | some y => .int y
def od (o : Option Int) : D := match o with
  | none => .non
  | some y => .int y
abbrev KV := List (List L2.Key × V)
def kij (i j : Nat) : List L2.Key := [.inl (i : Int), .inl (j : Int)]
theorem kij_inj {i j a b : Nat} : kij i j = kij a b ↔ i = a ∧ j = b := by
  unfold kij
  constructor
  · intro h
    have h1 := (List.cons.inj h).1
    have h2 := (List.cons.inj (List.cons.inj h).2).1
    exact ⟨by have := Sum.inl.inj h1; omega, by have := Sum.inl.inj h2; omega⟩
  · rintro ⟨rfl, rfl⟩; rfl
def FarOk (M : Nat) (m : Mt) (kvs : KV) : Prop := (∀ i j, i < M → j < M → L2.valV kvs (kij i j) = some (ov (m i j))) ∧ kvs.length ≤ 100
theorem putK_old {kvs : KV} {k : List L2.Key} {v y : V} (h : L2.valV kvs k = some y) : (L2.putK kvs k v).length = kvs.length := by
  unfold L2.putK
  rw [L2.valV_any, h, Option.isSome_some, if_pos rfl, List.length_map]
theorem FarOk.put {M : Nat} {m : Mt} {kvs : KV} (h : FarOk M m kvs) {i j : Nat} (hi : i < M) (hj : j < M) (o : Option Int) : FarOk M (updM m i j o) (L2.putK kvs (kij i j) (ov o)) := by
  refine ⟨fun a b ha hb => ?_, ?_⟩
  · rw [L2.valV_put]
    unfold updM
    by_cases q : a = i ∧ b = j
    · rw [if_pos (kij_inj.mpr q), if_pos q]
    · rw [if_neg (fun z => q (kij_inj.mp z)), if_neg q]
      exact h.1 a b ha hb
  · rw [putK_old (h.1 i j hi hj)]
    exact h.2
def m0M : Mt := fun i j => if i = j then some 0 else none
end Lap
namespace Lap
open PySem PySem.Spec PyProof.Rows L2 G
def InitOk (M i j : Nat) (kvs : KV) : Prop := (∀ a b, a < M → b < M → (a < i ∨ a = i ∧ b < j) → valV kvs (kij a b) = some (ov (m0M a b))) ∧ kvs.length ≤ 8 * i + j
theorem InitOk.put {M i j : Nat} {kvs : KV} (h : InitOk M i j kvs) : InitOk M i (j + 1) (putK kvs (kij i j) (ov (m0M i j))) := by
  refine ⟨fun a b ha hb hab => ?_, ?_⟩
  · rw [valV_put]
    by_cases q : a = i ∧ b = j
    · rw [if_pos (kij_inj.mpr q), q.1, q.2]
    · rw [if_neg (fun z => q (kij_inj.mp z))]
      exact h.1 a b ha hb (by omega)
  · have := length_putK kvs (kij i j) (ov (m0M i j))
    have := h.2
    omega
theorem set_end (st : Sto) (a b : MO) : (st ++ [a]).set st.length b = st ++ [b] := by simp
theorem get_end (st : Sto) (a : MO) : (st ++ [a])[st.length]? = some a := by simp
end Lap
namespace Lap
open PySem G
def mats (log : List (List P2)) (g : Nat × Nat) : Nat × Nat := ((mkI log g.1 g.2).2.toNat, (mkI log g.1 (g.2 + 1)).2.toNat)
def EdgeG (ts : List Int) (log : List (List P2)) (i j : Nat) (s : Int) : Prop := ∃ g ∈ gapsN log, mats log g = (i, j) ∧ slackI ts log g = s
inductive Wk (ts : List Int) (log : List (List P2)) : Nat → Nat → List Nat → Int → Prop
  | nil (a : Nat) : Wk ts log a a [] 0
  | snoc {a u v : Nat} {l : List Nat} {x s : Int} : Wk ts log a u l x → EdgeG ts log u v s → Wk ts log a v (v :: l) (x + s)
section
variable {ts : List Int} {log : List (List P2)}
theorem Wk.trans {a b c : Nat} {l l' : List Nat} {x y : Int} (h : Wk ts log a b l x) (g : Wk ts log b c l' y) : Wk ts log a c (l' ++ l) (x + y) := by
  induction g with
  | nil => simpa using h
  | snoc w e ih =>
    have := Wk.snoc ih e
    rw [List.cons_append, ← Int.add_assoc]
    exact this
theorem edge_lt {N : Nat} (h : LogOk ts log N) {i j : Nat} {s : Int} (e : EdgeG ts log i j s) : i < ts.length ∧ j < ts.length := by
  obtain ⟨g, hg, hm, _⟩ := e
  have q := h.at_ hg
  have a := q.m1.2
  have b := q.m2.2
  unfold mats at hm
  have e1 := congrArg Prod.fst hm
  have e2 := congrArg Prod.snd hm
  simp only at e1 e2
  omega
theorem Wk.lt {N : Nat} (h : LogOk ts log N) {a b : Nat} {l : List Nat} {x : Int} (w : Wk ts log a b l x) : ∀ v ∈ l, v < ts.length := by
  induction w with
  | nil => simp
  | snoc w e ih =>
    intro v hv
    rcases List.mem_cons.mp hv with rfl | hv
    · exact (edge_lt h e).2
    · exact ih v hv
theorem Wk.split {a b : Nat} {l : List Nat} {x : Int} (w : Wk ts log a b l x) {v : Nat} (hv : v ∈ l) : ∃ l1 l2 x1 x2, l = l2 ++ l1 ∧ Wk ts log a v l1 x1 ∧ Wk ts log v b l2 x2 ∧ x = x1 + x2 ∧ l1 ≠ [] := by
  induction w with
  | nil => cases hv
  | @snoc u b l x s w e ih =>
    by_cases z : v = b
    · subst z
      exact ⟨v :: l, [], x + s, 0, rfl, .snoc w e, .nil v, by omega, by simp⟩
    · rcases List.mem_cons.mp hv with h | hv
      · exact absurd h z
      · obtain ⟨l1, l2, x1, x2, rfl, w1, w2, rfl, ne⟩ := ih hv
        exact ⟨l1, b :: l2, x1, x2 + s, rfl, w1, .snoc w2 e, by omega, ne⟩
end
end Lap
namespace Lap
open PySem G
section
variable {κ β : Type} [DecidableEq κ]
def betterB (acc : List (κ × (Int × β))) (k : κ) (t : Int) : Bool := match vGet acc k with
  | none => true
  | some c => decide (t < c.1)
def mp (acc : List (κ × (Int × β))) (k : κ) (c : Int × β) : List (κ × (Int × β)) := if betterB acc k c.1 = true then vPut acc k c else acc
variable {α : Type}
end
end Lap
namespace Lap
open PySem PySem.Spec PyProof.Rows L2 G
def kk (p : Nat × Nat) : List Key := kij p.1 p.2
def ki (i : Nat) : Key := .inl (i : Int)
end Lap
namespace Lap
open PySem G
section
variable {β : Type}
theorem vGet_memN {l : List (Nat × β)} {i : Nat} {v : β} (h : vGet l i = some v) : (i, v) ∈ l := by
  unfold vGet at h
  obtain ⟨p, hp, rfl⟩ := Option.map_eq_some_iff.mp h
  have h1 := List.mem_of_find?_eq_some hp
  have h2 : p.1 = i := by simpa using List.find?_some hp
  rw [← h2]; exact h1
theorem vGet_isSome {l : List (Nat × β)} {i : Nat} : (vGet l i).isSome = true ↔ i ∈ l.map (·.1) := by
  rw [← vGet_any, List.any_eq_true, List.mem_map]
  constructor
  · rintro ⟨x, h1, h2⟩; exact ⟨x, h1, of_decide_eq_true h2⟩
  · rintro ⟨x, h1, h2⟩; exact ⟨x, h1, decide_eq_true h2⟩
theorem vGet_none {l : List (Nat × β)} {i : Nat} : vGet l i = none ↔ i ∉ l.map (·.1) := by
  rw [← vGet_isSome]
  cases vGet l i <;> simp
theorem mem_key {l : List (Nat × β)} {i : Nat} {v : β} (h : (i, v) ∈ l) : i ∈ l.map (·.1) := List.mem_map.mpr ⟨_, h, rfl⟩
theorem nodup_val : ∀ {l : List (Nat × β)}, (l.map (·.1)).Nodup → ∀ {i : Nat} {a b : β}, (i, a) ∈ l → (i, b) ∈ l → a = b
  | p :: l, h, i, a, b, h1, h2 => by
    rw [List.map_cons, List.nodup_cons] at h
    rcases List.mem_cons.mp h1 with e1 | h1 <;> rcases List.mem_cons.mp h2 with e2 | h2
    · rw [← e1] at e2; exact (congrArg Prod.snd e2).symm
    · rw [← e1] at h; exact absurd (mem_key h2) h.1
    · rw [← e2] at h; exact absurd (mem_key h1) h.1
    · exact nodup_val h.2 h1 h2
theorem vGet_of {l : List (Nat × β)} (hn : (l.map (·.1)).Nodup) {i : Nat} {v : β} (h : (i, v) ∈ l) : vGet l i = some v := by
  cases e : vGet l i with
  | none => exact absurd (mem_key h) (vGet_none.mp e)
  | some w => rw [nodup_val hn (vGet_memN e) h]
theorem vPut_new {l : List (Nat × β)} {i : Nat} {v : β} (h : i ∉ l.map (·.1)) : vPut l i v = l ++ [(i, v)] := by
  unfold vPut
  rw [vGet_any, if_neg]
  intro z
  exact h (vGet_isSome.mp z)
theorem vPut_old {l : List (Nat × β)} {i : Nat} {v : β} (h : i ∈ l.map (·.1)) : vPut l i v = l.map fun kv => if kv.1 = i then (kv.1, v) else kv := by
  unfold vPut
  rw [vGet_any, if_pos (vGet_isSome.mpr h)]
end
structure CI (f : Nat → Nat → Bool) (n : Nat) (L : List (Nat × Nat)) (A : List (Nat × Option Nat)) (F : List (Nat × Nat)) (w : List Nat) : Prop where
  a_w : A.map (·.1) = w
  w_nd : w.Nodup
  w_lt : ∀ i ∈ w, i < n
  st : ∀ i, i < n → i ∉ L.map (·.1) → i ∈ w
  f_nd : (F.map (·.1)).Nodup
  f_ok : ∀ j i, (j, i) ∈ F → f i j = true ∧ j < n ∧ i ∈ w
  a_non : ∀ i, (i, none) ∈ A → i ∉ L.map (·.1)
  a_som : ∀ i j, (i, some j) ∈ A → (i, j) ∈ L ∧ j ∈ F.map (·.1)
  back : ∀ i j, (i, j) ∈ L → j ∈ F.map (·.1) → i ∈ w
  rank : ∀ m i j, A[m]? = some (i, some j) → ∀ o, (j, o) ∈ F → o ∈ w.take m
section
variable {f : Nat → Nat → Bool} {n : Nat} {L : List (Nat × Nat)} (hM : Mtg f n L) {A : List (Nat × Option Nat)} {F : List (Nat × Nat)} {w : List Nat} (h : CI f n L A F w)
include hM h
theorem CI.add {i j : Nat} (hi : i ∈ w) (hj : j < n) (hf : f i j = true) (hn : j ∉ F.map (·.1)) (hb : ∀ i', (i', j) ∈ L → i' ∈ w) : CI f n L A (F ++ [(j, i)]) w := by
  refine ⟨h.a_w, h.w_nd, h.w_lt, h.st, ?_, fun j' i' hm => ?_, h.a_non, fun i' j' hm => ?_, fun i' j' hm hF => ?_, fun m i' j' hm o ho => ?_⟩
  · rw [List.map_append, List.nodup_append]
    exact ⟨h.f_nd, by simp, fun a ha b hb' => by simp at hb'; rw [hb']; intro e; exact hn (e ▸ ha)⟩
  · rcases List.mem_append.mp hm with hm | hm
    · exact h.f_ok j' i' hm
    · rw [List.mem_singleton] at hm; cases hm; exact ⟨hf, hj, hi⟩
  · have := h.a_som i' j' hm
    exact ⟨this.1, by rw [List.map_append]; exact List.mem_append_left _ this.2⟩
  · rw [List.map_append] at hF
    rcases List.mem_append.mp hF with hF | hF
    · exact h.back i' j' hm hF
    · simp at hF; subst hF; exact hb i' hm
  · rcases List.mem_append.mp ho with ho | ho
    · exact h.rank m i' j' hm o ho
    · rw [List.mem_singleton] at ho
      cases ho
      exact absurd (h.a_som i' j (List.mem_of_getElem? hm)).2 hn
end
structure LI (f : Nat → Nat → Bool) (n : Nat) (L : List (Nat × Nat)) (F : List (Nat × Nat)) (w : List Nat) (m : Nat) (j : Nat) (G : List (Nat × Nat)) : Prop where
  mt : Mtg f n G
  len : G.length = L.length
  free : j ∉ G.map (·.2)
  same : ∀ i ∈ w.take m, ∀ y, (i, y) ∈ G ↔ (i, y) ∈ L
  at_ : ∃ o, (j, o) ∈ F ∧ o ∈ w.take m
section
variable {f : Nat → Nat → Bool} {n : Nat} {L : List (Nat × Nat)} (hM : Mtg f n L) {A : List (Nat × Option Nat)} {F : List (Nat × Nat)} {w : List Nat} (h : CI f n L A F w)
include hM h
theorem LI.step {m j : Nat} {G : List (Nat × Nat)} (l : LI f n L F w m j G) : ∃ o x, vGet F j = some o ∧ vGet A o = some x ∧
    (x = none ∧ Mtg f n (vPut G o j) ∧ (vPut G o j).length = L.length + 1 ∨ ∃ j1 p, x = some j1 ∧ p < m ∧ LI f n L F w p j1 (vPut G o j)) := by
  obtain ⟨o, ho, hom⟩ := l.at_
  have hfo := h.f_ok j o ho
  obtain ⟨p, hp, rfl⟩ := List.mem_iff_getElem.mp hom
  have hpm : p < m := by rw [List.length_take] at hp; omega
  have hpw : p < w.length := by rw [List.length_take] at hp; omega
  rw [List.getElem_take] at ho hom hfo
  have hlen : A.length = w.length := by have := congrArg List.length h.a_w; simpa using this
  have hAk : (A.map (·.1)).Nodup := by rw [h.a_w]; exact h.w_nd
  have hpA : p < A.length := by omega
  have hA1 : A[p].1 = w[p] := by
    have : (A.map (·.1))[p]'(by simpa using hpA) = w[p] := by simp only [h.a_w]
    rw [List.getElem_map] at this; exact this
  have hAm : (w[p], A[p].2) ∈ A := by
    rw [← hA1]; exact List.getElem_mem hpA
  have hAp : A[p]? = some (w[p], A[p].2) := by rw [List.getElem?_eq_getElem hpA, ← hA1]
  refine ⟨w[p], A[p].2, vGet_of h.f_nd ho, vGet_of hAk hAm, ?_⟩
  have sub : ∀ i ∈ w.take p, i ∈ w.take m ∧ i ≠ w[p] := fun i hi => by
    obtain ⟨k, hk, e⟩ := List.mem_iff_getElem.mp hi
    rw [List.getElem_take] at e
    have hkp : k < p := by rw [List.length_take] at hk; omega
    refine ⟨?_, fun z => ?_⟩
    · rw [← e]
      exact List.mem_iff_getElem.mpr ⟨k, by rw [List.length_take]; omega, by rw [List.getElem_take]⟩
    · rw [← e] at z
      exact absurd z (List.pairwise_iff_getElem.mp h.w_nd k p (by omega) hpw hkp)
  cases hx : A[p].2 with
  | none =>
    rw [hx] at hAm
    have hno := h.a_non _ hAm
    have hnG : w[p] ∉ G.map (·.1) := fun z => by
      obtain ⟨e, he, e1⟩ := List.mem_map.mp z
      have he' : (w[p], e.2) ∈ G := by rw [← e1]; exact he
      exact hno (mem_key ((l.same _ hom _).mp he'))
    refine .inl ⟨rfl, ?_, ?_⟩
    · rw [vPut_new hnG]
      refine ⟨?_, ?_, fun e he => ?_⟩
      · rw [List.map_append, List.nodup_append]
        exact ⟨l.mt.k, by simp, fun a ha b hb => by simp at hb; rw [hb]; intro e; exact hnG (e ▸ ha)⟩
      · rw [List.map_append, List.nodup_append]
        exact ⟨l.mt.v, by simp, fun a ha b hb => by simp at hb; rw [hb]; intro e; exact l.free (e ▸ ha)⟩
      · rcases List.mem_append.mp he with he | he
        · exact l.mt.ok e he
        · rw [List.mem_singleton.mp he]; exact ⟨hfo.1, h.w_lt _ hfo.2.2, hfo.2.1⟩
    · rw [vPut_new hnG, List.length_append, l.len]; rfl
  | some j1 =>
    rw [hx] at hAm hAp
    have hs := h.a_som _ _ hAm
    have hG1 : (w[p], j1) ∈ G := (l.same _ hom _).mpr hs.1
    have hk := mem_key hG1
    obtain ⟨⟨j1', o1⟩, ho1, e1⟩ := List.mem_map.mp hs.2
    simp only at e1
    subst e1
    have hj : j ≠ j1' := fun e => l.free (List.mem_map.mpr ⟨_, hG1, e.symm⟩)
    have hput := vPut_old (v := j) hk
    have mem_new : ∀ a b, (a, b) ∈ vPut G w[p] j ↔ (a ≠ w[p] ∧ (a, b) ∈ G) ∨ (a = w[p] ∧ b = j) := fun a b => by
      rw [hput, List.mem_map]
      constructor
      · rintro ⟨e, he, e2⟩
        by_cases z : e.1 = w[p]
        · rw [if_pos z] at e2
          cases e2
          exact .inr ⟨z, rfl⟩
        · rw [if_neg z] at e2
          subst e2
          exact .inl ⟨z, he⟩
      · rintro (⟨z, he⟩ | ⟨rfl, rfl⟩)
        · exact ⟨_, he, if_neg z⟩
        · exact ⟨_, hG1, if_pos rfl⟩
    have keys : (vPut G w[p] j).map (·.1) = G.map (·.1) := by rw [vPut_keys, if_pos hk]
    have hmt : Mtg f n (vPut G w[p] j) := by
      refine ⟨by rw [keys]; exact l.mt.k, ?_, fun e he => ?_⟩
      · have gk := l.mt.k
        have gv := l.mt.v
        have gf := l.free
        rw [hput]
        clear keys mem_new hput hk hG1 hAm hAp hx
        have hnd : ∀ G : List (Nat × Nat), (G.map (·.1)).Nodup → (G.map (·.2)).Nodup → j ∉ G.map (·.2) → ((G.map fun kv => if kv.1 = w[p] then (kv.1, j) else kv).map (·.2)).Nodup := by
          intro G
          induction G with
          | nil => exact fun _ _ _ => List.Pairwise.nil
          | cons e G ih =>
            intro k v fr
            rw [List.map_cons, List.nodup_cons] at k v
            have fr1 : j ≠ e.2 := fun z => fr (by rw [List.map_cons, z]; exact List.mem_cons_self)
            have fr2 : j ∉ G.map (·.2) := fun z => fr (by rw [List.map_cons]; exact List.mem_cons_of_mem _ z)
            rw [List.map_cons, List.map_cons, List.nodup_cons]
            refine ⟨fun z => ?_, ih k.2 v.2 fr2⟩
            obtain ⟨a, ha, ea⟩ := List.mem_map.mp z
            obtain ⟨b, hb, eb⟩ := List.mem_map.mp ha
            by_cases q1 : e.1 = w[p] <;> by_cases q2 : b.1 = w[p]
            · exact k.1 (List.mem_map.mpr ⟨b, hb, q2.trans q1.symm⟩)
            · rw [if_pos q1] at ea; rw [if_neg q2] at eb
              subst eb
              exact fr2 (List.mem_map.mpr ⟨b, hb, ea⟩)
            · rw [if_neg q1] at ea; rw [if_pos q2] at eb
              subst eb
              exact fr1 ea
            · rw [if_neg q1] at ea; rw [if_neg q2] at eb
              subst eb
              exact v.1 (List.mem_map.mpr ⟨b, hb, ea⟩)
        exact hnd G gk gv gf
      · obtain ⟨a, b⟩ := e
        rcases (mem_new a b).mp he with ⟨_, z⟩ | ⟨rfl, rfl⟩
        · exact l.mt.ok _ z
        · exact ⟨hfo.1, h.w_lt _ hfo.2.2, hfo.2.1⟩
    refine .inr ⟨j1', p, rfl, hpm, hmt, ?_, fun z => ?_, fun i hi y => ?_, o1, ho1, ?_⟩
    · have := congrArg List.length keys
      simp only [List.length_map] at this
      rw [this, l.len]
    · obtain ⟨⟨a, b⟩, he, rfl⟩ := List.mem_map.mp z
      rcases (mem_new a b).mp he with ⟨ne, z⟩ | ⟨_, e⟩
      · exact ne (pair_v l.mt.v z hG1)
      · exact hj e.symm
    · have hs := sub i hi
      rw [mem_new, ← l.same i hs.1 y]
      exact ⟨fun z => z.elim (fun z => z.2) (fun z => absurd z.1 hs.2), fun z => .inl ⟨hs.2, z⟩⟩
    · exact h.rank p _ _ hAp o1 ho1
end
end Lap
namespace Lap
open PySem G
def kP (p : P2) : List L2.Key := [.inl p.1, .inl p.2]
def kvS (ks : List P2) : List (List L2.Key × D) := ks.map fun p => (kP p, .bl true)
def addP (ks : List P2) (p : P2) : List P2 := if p ∈ ks then ks else ks ++ [p]
theorem addP_nodup {ks : List P2} (h : ks.Nodup) (p : P2) : (addP ks p).Nodup := by
  unfold addP
  split
  · exact h
  · rename_i hn
    rw [List.nodup_append]
    exact ⟨h, by simp, fun x hx y hy => by rw [List.mem_singleton.mp hy]; intro z; exact hn (z ▸ hx)⟩
theorem addP_len (ks : List P2) (p : P2) : (addP ks p).length ≤ ks.length + 1 := by
  unfold addP; split <;> simp
theorem addP_mem {ks : List P2} {p x : P2} : x ∈ addP ks p ↔ x ∈ ks ∨ x = p := by
  unfold addP
  split
  · rename_i h
    exact ⟨.inl, fun z => z.elim id fun e => e ▸ h⟩
  · simp
structure DAt (ts : List Int) (p q : Nat) (s0 : Sto) (start : Int) (n : Nat) (ks : List P2) (s : Sto) : Prop where
  pool : Pool p s
  at_ : s[q]? = some (.de (kvS ks))
  eff : EffG p s0 s
  nd : ks.Nodup
  len : ks.length ≤ n
  ok : ∀ x ∈ ks, MatOk ts x ∧ start ≤ x.1 ∧ x.1 ≤ start + 5000
theorem DAt.put {ts : List Int} {p q : Nat} {s0 : Sto} {start : Int} {n : Nat} {ks : List P2} {s : Sto} (h : DAt ts p q s0 start n ks s) (hpq : p ≠ q) (hq0 : s0.length ≤ q) {x : P2} (hx : MatOk ts x ∧ start ≤ x.1 ∧ x.1 ≤ start + 5000) : DAt ts p q s0 start (n + 1) (addP ks x) (s.set q (.de (kvS (addP ks x)))) :=
  ⟨set_other hpq h.pool, by rw [List.getElem?_set_self (List.getElem?_eq_some_iff.mp h.at_).1], h.eff.setNew hq0 _, addP_nodup h.nd _, by have := addP_len ks x; have := h.len; omega, fun y hy => by
    rcases addP_mem.mp hy with hy | rfl
    · exact h.ok y hy
    · exact hx⟩
end Lap
namespace Lap
open PySem G
def hL (f : Nat → Nat → Bool) (n k : Nat) (P : List Nat) : List Int := (List.range n).map fun j => ((1 + if j ∈ P then mxH f (hgt f) (k + 1) j else mxH f (hgt f) k j : Nat) : Int)
end Lap
namespace Lap
open PySem G
theorem bigI_ge : ∀ {l : List Int} {x : Int}, x ∈ l → x ≤ bigI l
  | [y], x, h => by rw [List.mem_singleton.mp h]; exact Int.le_refl _
  | y :: z :: l, x, h => by
    have := fun h => bigI_ge (l := z :: l) (x := x) h
    show x ≤ max y (bigI (z :: l))
    rcases List.mem_cons.mp h with rfl | h
    · omega
    · have := this h; omega
theorem bigI_mem : ∀ {l : List Int}, l ≠ [] → bigI l ∈ l
  | [y], _ => by simp [bigI]
  | y :: z :: l, _ => by
    have := bigI_mem (l := z :: l) (by simp)
    show max y (bigI (z :: l)) ∈ _
    rcases Int.le_total y (bigI (z :: l)) with h | h
    · rw [Int.max_eq_right h]; exact List.mem_cons_of_mem _ this
    · rw [Int.max_eq_left h]; exact List.mem_cons_self
end Lap
namespace Lap
open PySem G
theorem bigI_eq {l : List Int} {x : Int} (h1 : x ∈ l) (h2 : ∀ y ∈ l, y ≤ x) : bigI l = x := by
  have := bigI_mem (l := l) (by intro z; rw [z] at h1; cases h1)
  have a := h2 _ this
  have b := bigI_ge h1
  omega
end Lap
namespace Lap
open PySem G
section
variable {f : Nat → Nat → Bool} (hf : ∀ i j, f i j = true → i < j) (htr : ∀ i j k, f i j = true → f j k = true → f i k = true) {n : Nat} {L : List (Nat × Nat)} (hM : Mtg f n L)
include hf htr hM
omit hf htr in
omit hf htr in
end
end Lap
namespace Lap
open PySem G
section
variable (st : Sto)
theorem _root_.Lap.RaceOk.in {ts : List Int} {t0 : Int} {bs : List (List P2)} (h : RaceOk ts t0 bs) : RaceIn ts t0 bs := ⟨h.n1, h.n6, h.bag, h.s0⟩
end
end Lap
namespace Lap
open PySem G
abbrev Wd := Int × Int × Int × Int
def wns (w : Wd) : List Int := [w.1, w.2.1, w.2.2.1, w.2.2.2]
def winD (w : Wd) : D := .tup [.int w.1, .int w.2.1, .int w.2.2.1, .int w.2.2.2]
def winA (ts : List Int) (m : Nat) (r i : Int) (g : P2 × P2) : List Wd :=
  if m ∈ betweenL ts.length g then [(r, i, g.1.1 + wayI ts g.1.2.toNat m, g.2.1 - wayI ts m g.2.2.toNat)] else []
def winG (ts : List Int) (m : Nat) (r : Int) : Int → List (P2 × P2) → List Wd
  | _, [] => []
  | i, g :: gs => winA ts m r i g ++ winG ts m r (i + 1) gs
def winR (ts : List Int) (m : Nat) : Int → List (List P2) → List Wd
  | _, [] => []
  | r, row :: rows => winG ts m r 0 (gapsL row) ++ winR ts m (r + 1) rows
theorem winA_mem {ts : List Int} {m : Nat} {r i : Int} {g : P2 × P2} {w : Wd} (h : w ∈ winA ts m r i g) : w = (r, i, g.1.1 + wayI ts g.1.2.toNat m, g.2.1 - wayI ts m g.2.2.toNat) := by
  unfold winA at h
  split at h
  · exact List.mem_singleton.mp h
  · cases h
def ltW (a b : Wd) : Prop := a.1 < b.1 ∨ (a.1 = b.1 ∧ a.2.1 < b.2.1)
theorem winG_mem {ts : List Int} {m : Nat} {r : Int} : ∀ (gs : List (P2 × P2)) (i : Int), ∀ w ∈ winG ts m r i gs, w.1 = r ∧ i ≤ w.2.1 ∧ w.2.1 < i + gs.length ∧ ∃ g ∈ gs, w.2.2 = (g.1.1 + wayI ts g.1.2.toNat m, g.2.1 - wayI ts m g.2.2.toNat)
  | [], i, w, h => by cases h
  | g :: gs, i, w, h => by
    unfold winG at h
    rcases List.mem_append.mp h with h | h
    · have e := winA_mem h
      subst e
      exact ⟨rfl, Int.le_refl _, by show i < i + ((g :: gs).length : Int); simp only [List.length_cons]; omega, g, List.mem_cons_self, rfl⟩
    · obtain ⟨a, b, c, g', hg, e⟩ := winG_mem gs (i + 1) w h
      exact ⟨a, by omega, by simp only [List.length_cons]; push_cast; omega, g', List.mem_cons_of_mem _ hg, e⟩
theorem winG_sorted {ts : List Int} {m : Nat} {r : Int} : ∀ (gs : List (P2 × P2)) (i : Int), (winG ts m r i gs).Pairwise ltW
  | [], i => .nil
  | g :: gs, i => by
    unfold winG
    refine List.pairwise_append.mpr ⟨?_, winG_sorted gs (i + 1), fun a ha b hb => ?_⟩
    · unfold winA; split
      · exact List.pairwise_singleton _ _
      · exact .nil
    · rw [winA_mem ha]
      obtain ⟨h1, h2, _⟩ := winG_mem gs (i + 1) b hb
      exact .inr ⟨h1.symm, by show i < b.2.1; omega⟩
theorem winG_len {ts : List Int} {m : Nat} {r : Int} : ∀ (gs : List (P2 × P2)) (i : Int), (winG ts m r i gs).length ≤ gs.length
  | [], i => Nat.le_refl _
  | g :: gs, i => by
    unfold winG
    have := winG_len (ts := ts) (m := m) (r := r) gs (i + 1)
    have h : (winA ts m r i g).length ≤ 1 := by unfold winA; split <;> simp
    rw [List.length_append, List.length_cons]
    omega
theorem winR_mem {ts : List Int} {m : Nat} : ∀ (rows : List (List P2)) (r : Int), ∀ w ∈ winR ts m r rows, r ≤ w.1 ∧ w.1 < r + rows.length ∧ 0 ≤ w.2.1 ∧ ∃ row ∈ rows, w.2.1 < (gapsL row).length ∧ ∃ g ∈ gapsL row, w.2.2 = (g.1.1 + wayI ts g.1.2.toNat m, g.2.1 - wayI ts m g.2.2.toNat)
  | [], r, w, h => by cases h
  | row :: rows, r, w, h => by
    unfold winR at h
    rcases List.mem_append.mp h with h | h
    · obtain ⟨a, b, c, d⟩ := winG_mem _ _ w h
      exact ⟨by omega, by simp only [List.length_cons]; push_cast; omega, b, row, List.mem_cons_self, by omega, d⟩
    · obtain ⟨a, b, c, row', hr, d⟩ := winR_mem rows (r + 1) w h
      exact ⟨by omega, by simp only [List.length_cons]; push_cast; omega, c, row', List.mem_cons_of_mem _ hr, d⟩
theorem winR_sorted {ts : List Int} {m : Nat} : ∀ (rows : List (List P2)) (r : Int), (winR ts m r rows).Pairwise ltW
  | [], r => .nil
  | row :: rows, r => by
    unfold winR
    refine List.pairwise_append.mpr ⟨winG_sorted _ _, winR_sorted rows (r + 1), fun a ha b hb => ?_⟩
    obtain ⟨h1, _⟩ := winG_mem _ _ a ha
    obtain ⟨h2, _⟩ := winR_mem rows (r + 1) b hb
    exact .inl (by omega)
theorem winR_len {ts : List Int} {m : Nat} (k : Nat) : ∀ (rows : List (List P2)) (r : Int), (∀ row ∈ rows, (gapsL row).length ≤ k) → (winR ts m r rows).length ≤ k * rows.length
  | [], r, _ => Nat.zero_le _
  | row :: rows, r, h => by
    unfold winR
    have h1 := winG_len (ts := ts) (m := m) (r := r) (gapsL row) 0
    have h2 := winR_len (ts := ts) (m := m) k rows (r + 1) fun x hx => h x (List.mem_cons_of_mem _ hx)
    have h3 := h row List.mem_cons_self
    rw [List.length_append, List.length_cons, Nat.mul_add]
    omega
theorem cd_lt {a b : Wd} (h : ltW a b) (ha : TS.Bd (big : Int) (wns a)) (hb : TS.Bd (big : Int) (wns b)) : cd (wns a) ≤ cd (wns b) := by
  obtain ⟨a1, a2, a3, a4⟩ := a
  obtain ⟨b1, b2, b3, b4⟩ := b
  rcases h with h | ⟨h1, h2⟩
  · exact Int.le_of_lt (TS.code_lt (r := [a2, a3, a4]) (q := [b2, b3, b4]) rfl ha.tail hb.tail h)
  · have h1 : a1 = b1 := h1
    subst h1
    have := TS.code_lt (r := [a3, a4]) (q := [b3, b4]) rfl ha.tail.tail hb.tail.tail (show a2 < b2 from h2)
    show a1 * (big : Int) ^ 3 + TS.code (big : Int) [a2, a3, a4] ≤ a1 * (big : Int) ^ 3 + TS.code (big : Int) [b2, b3, b4]
    omega
theorem win_sorted {ws : List Wd} (hs : ws.Pairwise ltW) (hb : ∀ w ∈ ws, ∀ x ∈ wns w, 0 ≤ x ∧ x < (big : Int)) : srtN (ws.map wns) = ws.map wns := by
  refine (sortedN_unique (d := 4) (fun x hx => ?_) ?_ sorted_srtN perm_srtN.symm).symm
  · obtain ⟨w, hw, rfl⟩ := List.mem_map.mp hx
    exact ⟨rfl, hb w hw⟩
  · rw [List.pairwise_map]
    exact List.Pairwise.imp_of_mem (fun {a b} h1 h2 h => cd_lt h (hb a h1) (hb b h2)) hs
end Lap
namespace Lap
open PySem G
theorem winG_snoc {ts : List Int} {m : Nat} {r : Int} (g : P2 × P2) : ∀ (gs : List (P2 × P2)) (i : Int), winG ts m r i (gs ++ [g]) = winG ts m r i gs ++ winA ts m r (i + gs.length) g
  | [], i => by simp [winG]
  | x :: gs, i => by
    show winA ts m r i x ++ winG ts m r (i + 1) (gs ++ [g]) = (winA ts m r i x ++ winG ts m r (i + 1) gs) ++ _
    rw [winG_snoc g gs (i + 1), List.append_assoc]
    simp only [List.length_cons]
    rw [show i + 1 + (gs.length : Int) = i + ((gs.length + 1 : Nat) : Int) by push_cast; omega]
theorem between_iff {M a m b : Nat} (ha : a < M) (hm : m < M) (hb : b < M) : m ∈ stepL M a (stepsN M a b) ↔ stepsN M a m < stepsN M a b := by
  have r1 := steps_rng ha hm
  have r2 := steps_rng ha hb
  unfold stepL
  rw [List.mem_map]
  constructor
  · rintro ⟨k, hk, e⟩
    have hk := List.mem_range.mp hk
    rcases Nat.lt_or_ge (stepsN M a m) (k + 1) with h | h
    · omega
    · have := (steps_first ha hm (d := k + 1) (by omega) h).mp e
      omega
  · intro h
    refine ⟨stepsN M a m - 1, List.mem_range.mpr (by omega), ?_⟩
    rw [show stepsN M a m - 1 + 1 = stepsN M a m by omega]
    exact (steps_first ha hm (by omega) (Nat.le_refl _)).mpr rfl
section
variable {st : Sto} {ts : List Int}
theorem way_p (hT : Trk ts) (hs : ts.sum.natAbs < big) {p : P2} (hp : MatOk ts p) {m : Nat} (hm : m < ts.length) (st : Sto) : F_way_by [tupI ts, .int p.2, .int m] st = .ok (.int (wayI ts p.2.toNat m)) st := by
  have := f_way_by st hT (mat_nat hp).2 hm hs
  rw [(mat_nat hp).1] at this
  exact this
theorem way_q (hT : Trk ts) (hs : ts.sum.natAbs < big) {p : P2} (hp : MatOk ts p) {m : Nat} (hm : m < ts.length) (st : Sto) : F_way_by [tupI ts, .int m, .int p.2] st = .ok (.int (wayI ts m p.2.toNat)) st := by
  have := f_way_by st hT hm (mat_nat hp).2 hs
  rw [(mat_nat hp).1] at this
  exact this
def wiBody : SvS := (ifS (tstE (binE inD (varE 1) (callE F_mats_between (consA (varE 0) (consA (binE ixD (varE 6) (cE (.int 1))) (consA (binE ixD (varE 7) (cE (.int 1))) (nilA))))))) (exprS (methLE appF (varE 4) (consA (tupE (consA (varE 2) (consA (varE 5) (consA (binE addD (binE ixD (varE 6) (cE (.int 0))) (callE F_way_by (consA (varE 0) (consA (binE ixD (varE 6) (cE (.int 1))) (consA (varE 1) (nilA)))))) (consA (binE subD (binE ixD (varE 7) (cE (.int 0))) (callE F_way_by (consA (varE 0) (consA (varE 1) (consA (binE ixD (varE 7) (cE (.int 1))) (nilA)))))) (nilA)))))) (nilA)))) (passS))
theorem wi_turn (hT : Trk ts) (hs : ts.sum.natAbs < big) {m : Nat} (hm : m < ts.length) {q : Nat} {r i : Int} {g : P2 × P2} (hp : MatOk ts g.1) (hq : MatOk ts g.2) (rd : D) {ws : List Wd} (hl : ws.length < 1000000) {s : Sto} (hat : s[q]? = some (.lst (ws.map winD))) :
    wiBody [some (tupI ts), some (.int m), some (.int r), some rd, some (.mut q), some (.int i), some (pairD g.1), some (pairD g.2)] s =
      .nx [some (tupI ts), some (.int m), some (.int r), some rd, some (.mut q), some (.int i), some (pairD g.1), some (pairD g.2)] (s.set q (.lst ((ws ++ winA ts m r i g).map winD))) := by
  have mb := f_mats_between s hT hp hq
  have ib := inD_ints s (m : Int) (.lst ((betweenL ts.length g).map fun (i : Nat) => D.int i)) ((betweenL ts.length g).map fun (i : Nat) => (i : Int)) (by show some _ = some _; rw [List.map_map]; rfl)
  have dc : decide ((m : Int) ∈ (betweenL ts.length g).map fun (i : Nat) => (i : Int)) = decide (m ∈ betweenL ts.length g) := by
    congr 1
    rw [List.mem_map]
    exact propext ⟨fun ⟨a, h, e⟩ => by rw [← Int.ofNat_inj.mp e]; exact h, fun h => ⟨m, h, rfl⟩⟩
  rw [dc] at ib
  have w1 := way_p hT hs hp hm s
  have w2 := way_q hT hs hq hm s
  have il := isL_mut hat
  have e1 : ixD (pairD g.1) (.int 1) s = .ok (.int g.1.2) s := ixD_tup _ _ _ rfl
  have e2 : ixD (pairD g.2) (.int 1) s = .ok (.int g.2.2) s := ixD_tup _ _ _ rfl
  have e3 : ixD (pairD g.1) (.int 0) s = .ok (.int g.1.1) s := ixD_tup _ _ _ rfl
  have e4 : ixD (pairD g.2) (.int 0) s = .ok (.int g.2.1) s := ixD_tup _ _ _ rfl
  unfold winA
  by_cases c : m ∈ betweenL ts.length g
  · rw [if_pos c]
    rw [decide_eq_true c] at ib
    have ap := app_mut (winD (r, i, g.1.1 + wayI ts g.1.2.toNat m, g.2.1 - wayI ts m g.2.2.toNat)) hat (by rw [List.length_map]; exact hl)
    rw [show ws.map winD ++ [winD (r, i, g.1.1 + wayI ts g.1.2.toNat m, g.2.1 - wayI ts m g.2.2.toNat)] = (ws ++ [(r, i, g.1.1 + wayI ts g.1.2.toNat m, g.2.1 - wayI ts m g.2.2.toNat)]).map winD by simp] at ap
    unfold winD at ap ⊢
    simp only at ap
    generalize (ws ++ [(r, i, g.1.1 + wayI ts g.1.2.toNat m, g.2.1 - wayI ts m g.2.2.toNat)]).map _ = wl at *
    generalize wayI ts g.1.2.toNat m = y1 at *
    generalize wayI ts m g.2.2.toNat = y2 at *
    generalize (betweenL ts.length g).map (fun (i : Nat) => D.int i) = bl at *
    generalize pairD g.1 = p1 at *
    generalize pairD g.2 = p2 at *
    generalize g.1.1 = a1 at *
    generalize g.1.2 = a2 at *
    generalize g.2.1 = b1 at *
    generalize g.2.2 = b2 at *
    generalize (m : Int) = mi at *
    generalize tupI ts = td at *
    simp [wiBody, e1, e2, e3, e4, mb, ib, w1, w2, il, ap]
  · rw [if_neg c, List.append_nil]
    rw [decide_eq_false c] at ib
    have same : s.set q (.lst (ws.map winD)) = s := by
      have hq := (List.getElem?_eq_some_iff.mp hat)
      obtain ⟨h1, h2⟩ := hq
      rw [← h2]; exact List.set_getElem_self h1
    rw [same]
    generalize (betweenL ts.length g).map (fun (i : Nat) => D.int i) = bl at *
    generalize pairD g.1 = p1 at *
    generalize pairD g.2 = p2 at *
    generalize (m : Int) = mi at *
    generalize tupI ts = td at *
    simp [wiBody, e1, e2, mb, ib]
theorem f_windows_in (hT : Trk ts) (hs : ts.sum.natAbs < big) {m : Nat} (hm : m < ts.length) (r : Int) {row : List P2} (hr : ∀ p ∈ row, MatOk ts p) (hl : row.length ≤ 31) (st : Sto) :
    F_windows_in [tupI ts, .int m, .int r, bagD row] st = .ok (.mut st.length) (st ++ [.lst ((winG ts m r 0 (gapsL row)).map winD)]) := by
  have en : ∀ st : Sto, enzF [bagD row, bagD (row.drop 1)] st = .ok (.frz (enumL ((gapsL row).map fun g => D.tup [pairD g.1, pairD g.2]))) st := fun st => by
    unfold gapsL
    rw [← zip_pairs]; rfl
  have sl : ∀ st : Sto, sliceD (bagD row) (some 1) none st = .ok (bagD (row.drop 1)) st := fun st => by
    rw [slice_bag]; congr 2; exact cutL_from row 1
  obtain ⟨env', s', e, ⟨o5, o6, o7, rfl, rfl⟩⟩ := loop_nx (g := tgT (.tp [.nm 5, .tp [.nm 6, .nm 7]])) (body := wiBody)
    (fun j env s => ∃ o5 o6 o7 : Option D, env = [some (tupI ts), some (.int m), some (.int r), some (bagD row), some (.mut st.length), o5, o6, o7] ∧ s = st ++ [.lst ((winG ts m r 0 ((gapsL row).take j)).map winD)])
    (xs := enumL ((gapsL row).map fun g => D.tup [pairD g.1, pairD g.2])) (env := [some (tupI ts), some (.int m), some (.int r), some (bagD row), some (.mut st.length), none, none, none]) (st := st ++ [.lst []])
    ⟨none, none, none, rfl, by simp [winG]⟩
    (by
      rintro j x env s hx ⟨o5, o6, o7, rfl, rfl⟩
      obtain ⟨y, hy, rfl⟩ := enumL_get hx
      rw [List.getElem?_map] at hy
      obtain ⟨g, hg, rfl⟩ := Option.map_eq_some_iff.mp hy
      obtain ⟨h1, h2⟩ := gaps_mem (List.mem_of_getElem? hg)
      have hgl := gaps_len row
      have hwl := winG_len (ts := ts) (m := m) (r := r) ((gapsL row).take j) 0
      have hjl := (List.getElem?_eq_some_iff.mp hg).1
      have t := wi_turn (m := m) (r := r) (i := j) (g := g) hT hs hm (hr _ h1) (hr _ h2) (bagD row) (ws := winG ts m r 0 ((gapsL row).take j)) (q := st.length) (by rw [List.length_take] at hwl; omega) (s := st ++ [.lst ((winG ts m r 0 ((gapsL row).take j)).map winD)]) (by simp)
      refine ⟨_, st ++ [MO.lst ((winG ts m r 0 ((gapsL row).take j) ++ winA ts m r j g).map winD)], ?_, some (.int j), some (pairD g.1), some (pairD g.2), rfl, ?_⟩
      rotate_left
      · rw [List.take_succ, hg, Option.toList, winG_snoc, List.length_take, Nat.min_eq_left (by omega), Int.zero_add]
      · rw [show (st ++ [MO.lst ((winG ts m r 0 ((gapsL row).take j)).map winD)]).set st.length (.lst ((winG ts m r 0 ((gapsL row).take j) ++ winA ts m r j g).map winD)) = st ++ [.lst ((winG ts m r 0 ((gapsL row).take j) ++ winA ts m r j g).map winD)] by simp] at t
        generalize st ++ [MO.lst ((winG ts m r 0 ((gapsL row).take j)).map winD)] = s1 at *
        generalize st ++ [MO.lst ((winG ts m r 0 ((gapsL row).take j) ++ winA ts m r j g).map winD)] = s2 at *
        generalize wiBody = wb at *
        generalize pairD g.1 = p1 at *
        generalize pairD g.2 = p2 at *
        generalize tupI ts = td at *
        generalize bagD row = bd at *
        simp [tgT, Tg.set, Tg.sets, t])
  rw [show (enumL ((gapsL row).map fun g => D.tup [pairD g.1, pairD g.2])).length = (gapsL row).length by simp, List.take_length] at e
  unfold F_windows_in
  have eb : B_windows_in = seqS (asgS (mutE (nilA)) (nameT 4)) (seqS (forS (callI enzF (consA (varE 3) (consA (sliceE (varE 3) (someO (cE (.int 1))) (noO)) (nilA)))) (tgT (.tp [.nm 5, .tp [.nm 6, .nm 7]])) wiBody) (retS (varE 4))) := rfl
  rw [eb]
  generalize enumL ((gapsL row).map fun g => D.tup [pairD g.1, pairD g.2]) = el at *
  generalize (winG ts m r 0 (gapsL row)).map winD = wl at *
  generalize wiBody = wb at *
  generalize bagD (row.drop 1) = bd1 at *
  generalize bagD row = bd at *
  generalize tupI ts = td at *
  simp [runF, en, sl, e]
end
end Lap
namespace Lap
open PySem G
theorem lcG_tF {α : Type} {t : Tg} {tt : EvB} {fe : EvE} {envw : G.Env} {st : Sto} {nxt : Nat → Sto → Option (Option D)} (f h : α → D) (p : α → Bool) : ∀ (as : List α) (i : Nat) (acc : List D), acc.length + as.length ≤ 16777216 → (∀ j, nxt (i + j) st = some ((as.map f)[j]?)) →
    (∀ a ∈ as, ∃ env1, t.set (f a) envw = some env1 ∧ tt env1 st = .ok (p a) st ∧ (p a = true → fe env1 st = .ok (h a) st)) → lcG t tt fe envw nxt as.length i st acc = .ok (acc ++ (as.filter p).map h) st
  | [], i, acc, _, hn, _ => by
    have := hn 0
    simp only [Nat.add_zero, List.map_nil, List.getElem?_nil] at this
    simp [lcG, this]
  | a :: as, i, acc, hl, hn, hx => by
    obtain ⟨env1, h1, ht, h2⟩ := hx a List.mem_cons_self
    simp only [List.length_cons] at hl
    have n0 := hn 0
    simp only [Nat.add_zero, List.map_cons, List.getElem?_cons_zero] at n0
    rw [List.length_cons]
    unfold lcG
    rw [n0]
    simp only
    rw [turnC_if h1 ht h2 (by omega), lcG_tF f h p as (i + 1) _ (by split <;> (try simp only [List.length_append, List.length_cons, List.length_nil]) <;> omega) (fun j => by
      have := hn (j + 1)
      rw [List.map_cons, List.getElem?_cons_succ, show i + (j + 1) = i + 1 + j by omega] at this
      exact this) fun y hy => hx y (List.mem_cons_of_mem _ hy)]
    cases e : p a with
    | false => simp [e]
    | true => simp [e]
def eR : Nat → List (List P2) → List D
  | _, [] => []
  | r, row :: rows => .tup [.int r, bagD row] :: eR (r + 1) rows
theorem eR_eq (rows : List (List P2)) : enumL (rows.map bagD) = eR 0 rows := by
  unfold enumL
  rw [List.length_map, List.range_eq_range']
  generalize 0 = r
  induction rows generalizing r with
  | nil => rfl
  | cons row rows ih =>
    rw [List.length_cons, List.range'_succ, List.map_cons, List.zipWith_cons_cons, ih]; rfl
abbrev rowsF (t0 : Int) (bs : List (List P2)) : List (List P2) := bs.map (fullL t0)
theorem f_full_rows_of {ts : List Int} {t0 : Int} {bs : List (List P2)} (h : RaceOk ts t0 bs) (st : Sto) : F_full_rows_of [raceD t0 bs] st = .ok (.lst ((rowsF t0 bs).map bagD)) st := by
  have n6 := h.n6
  have e := lc_typed (t := .nm 1) (fe := callE F_full_row_by (consA (varE 0) (consA (varE 1) (nilA)))) (envw := [some (raceD t0 bs), none]) (st := st) (fun (i : Nat) => D.int (0 + i)) (fun i => bagD (fullL t0 (bs.getD i []))) (List.range bs.length) [] (by simp; omega) (by
    intro i hi
    have hi := List.mem_range.mp hi
    have f := f_full_row_by st (t0 := t0) hi (h.bag _ (List.getElem_mem hi)).1
    refine ⟨[some (raceD t0 bs), some (.int (0 + i))], by simp, ?_⟩
    rw [List.getD_eq_getElem?_getD, List.getElem?_eq_getElem hi, Option.getD_some]
    generalize raceD t0 bs = rd at *
    simp [f])
  rw [List.nil_append, show (List.range bs.length).map (fun (i : Nat) => D.int (0 + i)) = rangeD 0 bs.length from rfl] at e
  have e2 : (List.range bs.length).map (fun i => bagD (fullL t0 (bs.getD i []))) = (rowsF t0 bs).map bagD := by
    unfold rowsF
    rw [List.map_map]
    apply List.ext_getElem?
    intro i
    rw [List.getElem?_map, List.getElem?_map]
    by_cases hi : i < bs.length
    · rw [List.getElem?_range hi, List.getElem?_eq_getElem hi]
      simp [List.getD_eq_getElem?_getD, List.getElem?_eq_getElem hi]
    · rw [List.getElem?_eq_none (by simp; omega), List.getElem?_eq_none (by omega)]; rfl
  rw [e2] at e
  have x1 := ix_race1 st t0 bs
  have ll : lenF [.tup (bs.map bagD)] st = .ok (.int bs.length) st := by simp
  have rg : range1F [.int (bs.length : Nat)] st = .ok (.frz (rangeD 0 bs.length)) st := by
    have : bs.length < 4611686018427387904 := by omega
    simp [this]
  generalize (rowsF t0 bs).map bagD = rl at *
  generalize raceD t0 bs = rd at *
  generalize D.tup (bs.map bagD) = bd at *
  generalize rangeD 0 bs.length = rr at *
  generalize (bs.length : Int) = bl at *
  simp [-range1F_eq, F_full_rows_of, runF, B_full_rows_of, x1, ll, rg, e]
theorem wb_rows {ts : List Int} (hT : Trk ts) (hs : ts.sum.natAbs < big) {m : Nat} (hm : m < ts.length) (d1 : D) (o3 o4 o5 : Option D) : ∀ (rows : List (List P2)) (r : Nat) (st : Sto) (acc : List D), (∀ row ∈ rows, row.length ≤ 31 ∧ ∀ p ∈ row, MatOk ts p) → acc.length + 40 * rows.length ≤ 16777216 →
    ∃ ex, lc2JF (.tp [.nm 3, .nm 4]) yesB (iterE (callE F_windows_in (consA (varE 0) (consA (varE 2) (consA (varE 3) (consA (varE 4) (nilA))))))) (.nm 5) yesB (varE 5) [5] [some (tupI ts), some d1, some (.int m), o3, o4, o5] (eR r rows) st acc = .ok (acc ++ (winR ts m r rows).map winD) (st ++ ex)
  | [], r, st, acc, _, _ => ⟨[], by simp [eR, lc2JF, winR]⟩
  | row :: rows, r, st, acc, h, hl => by
    obtain ⟨h1, h2⟩ := h row List.mem_cons_self
    have wi := f_windows_in hT hs hm r h2 h1 st
    have hg := gaps_len row
    have hw := winG_len (ts := ts) (m := m) (r := r) (gapsL row) 0
    simp only [List.length_cons] at hl
    have lg := lcG_tF (t := .nm 5) (tt := yesB) (fe := varE 5) (envw := [some (tupI ts), some d1, some (.int m), some (.int r), some (bagD row), none]) (st := st ++ [.lst ((winG ts m r 0 (gapsL row)).map winD)]) (nxt := mutNxt st.length) winD winD (fun _ => true) (winG ts m r 0 (gapsL row)) 0 acc (by omega)
      (fun j => by unfold mutNxt; simp) (fun a _ => ⟨[some (tupI ts), some d1, some (.int m), some (.int r), some (bagD row), some (winD a)], by simp, rfl, fun _ => by simp⟩)
    rw [List.filter_eq_self.mpr (fun _ _ => rfl)] at lg
    obtain ⟨ex, ih⟩ := wb_rows hT hs hm d1 o3 o4 o5 rows (r + 1) (st ++ [.lst ((winG ts m r 0 (gapsL row)).map winD)]) (acc ++ (winG ts m r 0 (gapsL row)).map winD) (fun x hx => h x (List.mem_cons_of_mem _ hx)) (by rw [List.length_append, List.length_map]; omega)
    refine ⟨.lst ((winG ts m r 0 (gapsL row)).map winD) :: ex, ?_⟩
    have it : iterE (callE F_windows_in (consA (varE 0) (consA (varE 2) (consA (varE 3) (consA (varE 4) (nilA)))))) [some (tupI ts), some d1, some (.int m), some (.int r), some (bagD row), o5] st = .ok (.gen (mutNxt st.length) (winG ts m r 0 (gapsL row)).length) (st ++ [.lst ((winG ts m r 0 (gapsL row)).map winD)]) := by
      generalize (winG ts m r 0 (gapsL row)) = wl at *
      generalize tupI ts = td at *
      generalize bagD row = bd at *
      simp [iterE, iterD, wi]
    unfold eR lc2JF
    rw [show Tg.set (.tp [.nm 3, .nm 4]) (D.tup [D.int (r : Nat), bagD row]) [some (tupI ts), some d1, some (.int m), o3, o4, o5] = some [some (tupI ts), some d1, some (.int m), some (.int r), some (bagD row), o5] by simp [Tg.set, Tg.sets]]
    simp only
    rw [show yesB [some (tupI ts), some d1, some (.int m), some (.int r), some (bagD row), o5] st = .ok true st from rfl]
    simp only [noX, R.bind, if_true, it]
    rw [show wipeE [some (tupI ts), some d1, some (.int m), some (.int r), some (bagD row), o5] [5] = [some (tupI ts), some d1, some (.int m), some (.int r), some (bagD row), none] from rfl, lg]
    simp only
    rw [ih, List.append_assoc, List.append_assoc, ← List.map_append]
    rfl
theorem f_windows_by {ts : List Int} (hT : Trk ts) (hs : ts.sum.natAbs < big) {t0 : Int} {bs : List (List P2)} (h : RaceOk ts t0 bs) {m : Nat} (hm : m < ts.length) (st : Sto) :
    ∃ ex, F_windows_by [tupI ts, raceD t0 bs, .int m] st = .ok (.lst ((winR ts m 0 (rowsF t0 bs)).map winD)) (st ++ ex) := by
  have n6 := h.n6
  obtain ⟨ex, e⟩ := wb_rows hT hs hm (raceD t0 bs) none none none (rowsF t0 bs) 0 st [] (fun row hr => by
    obtain ⟨b, hb, rfl⟩ := List.mem_map.mp hr
    exact ⟨(h.row b hb).n, (h.row b hb).ok.ok⟩) (by simp; omega)
  refine ⟨ex, ?_⟩
  have fr := f_full_rows_of h st
  have en : enumF [.lst ((rowsF t0 bs).map bagD)] st = .ok (.frz (eR 0 (rowsF t0 bs))) st := by rw [enumF_lst, eR_eq]
  rw [List.nil_append] at e
  have e : lc2JF (.tp [.nm 3, .nm 4]) yesB (iterE (callE F_windows_in (consA (varE 0) (consA (varE 2) (consA (varE 3) (consA (varE 4) (nilA))))))) (.nm 5) yesB (varE 5) [5] [some (tupI ts), some (raceD t0 bs), some (.int m), none, none, none] (eR 0 (rowsF t0 bs)) st [] = .ok ((winR ts m 0 (rowsF t0 bs)).map winD) (st ++ ex) := e
  generalize eR 0 (rowsF t0 bs) = er at *
  generalize (winR ts m 0 (rowsF t0 bs)).map winD = wl at *
  generalize (rowsF t0 bs).map bagD = rl at *
  generalize raceD t0 bs = rd at *
  generalize tupI ts = td at *
  simp [F_windows_by, runF, B_windows_by, lc2JE, lc2JL, fr, en, wipeE]
  simp [e, R.bind]
end Lap
namespace Lap
open PySem G
theorem rowsF_len {ts : List Int} {t0 : Int} {bs : List (List P2)} (h : RaceOk ts t0 bs) : ∀ r ∈ rowsF t0 bs, r.length ≤ 31 := fun r hr => by
  obtain ⟨b, hb, rfl⟩ := List.mem_map.mp hr
  exact (h.row b hb).n
end Lap
namespace Lap
open PySem G
def StD (d : D) (st : Sto) (xs : List D) : Prop := d = .lst xs ∨ ∃ n, d = .mut n ∧ st[n]? = some (.lst xs)
theorem StD.ix {d : D} {st : Sto} {Q : List P2} (h : StD d st (Q.map pairD)) {i : Nat} (hi : i < Q.length) : ixD d (.int i) st = .ok (pairD (Q.getD i (0, 0))) st := by
  have a : L2.atI (Q.map pairD) (i : Int) = some (pairD (Q.getD i (0, 0))) := by
    rw [atI_nat' _ _ (by rw [List.length_map]; exact hi), List.getElem_map, List.getD_eq_getElem?_getD, List.getElem?_eq_getElem hi]; rfl
  rcases h with rfl | ⟨n, rfl, e⟩
  · exact ixD_lst _ _ _ a
  · exact ixD_mut n _ _ _ e a
end Lap
namespace Lap
open PySem G
theorem f_looked {ts : List Int} (hT : Trk ts) (hs : ts.sum.natAbs < big) {t0 : Int} {bs : List (List P2)} (h : RaceOk ts t0 bs) {m : Nat} (hm : m < ts.length) (st : Sto) : F_check_looked_at [tupI ts, raceD t0 bs, .int m] st = .ok .non st := by
  have e1 := f_check_track (st := st) hT
  have e2 := f_check_race (st := st) hT hs h
  have e3 := f_check_mat (st := st) hm
  generalize tupI ts = td at *
  generalize raceD t0 bs = rd at *
  have e4 : F_check_raced_v2 [td, rd] st = .ok .non st := by simp [F_check_raced_v2, runF, B_check_raced_v2, e1, e2]
  simp [F_check_looked_at, runF, B_check_looked_at, e4, e3]
theorem t_windows {ts : List Int} (hT : Trk ts) (hs : ts.sum.natAbs < big) {t0 : Int} {bs : List (List P2)} (h : RaceOk ts t0 bs) {m : Nat} (hm : m < ts.length) (st : Sto) :
    ∃ ex, F_windows [tupI ts, raceD t0 bs, .int m] st = .ok (.tup ((winR ts m 0 (rowsF t0 bs)).map winD)) (st ++ ex) := by
  obtain ⟨ex, e⟩ := f_windows_by hT hs h hm st
  have c := f_looked hT hs h hm st
  refine ⟨ex, ?_⟩
  have tf : tupleF [.lst ((winR ts m 0 (rowsF t0 bs)).map winD)] (st ++ ex) = .ok (.tup ((winR ts m 0 (rowsF t0 bs)).map winD)) (st ++ ex) := rfl
  generalize (winR ts m 0 (rowsF t0 bs)).map winD = wl at *
  generalize tupI ts = td at *
  generalize raceD t0 bs = rd at *
  generalize st ++ ex = s1 at *
  simp [F_windows, runF, B_windows, c, e, tf]
end Lap
namespace Lap
open PySem G
def ww_body6 : SvS := (seqS (asgS (tupE (consA (binE ixD (varE 5) (varE 6)) (consA (binE ixD (varE 5) (binE addD (varE 6) (cE (.int 1)))) (nilA)))) (tupT 2 (consT (tupT 2 (consT (nameT 7) (consT (nameT 8) (nilT)))) (consT (tupT 2 (consT (nameT 9) (consT (nameT 10) (nilT)))) (nilT))))) (seqS (asgS (callE F__law_steps_v4 (consA (varE 0) (consA (varE 8) (consA (varE 2) (nilA))))) (nameT 11)) (ifS (tstE (binE ltD (varE 11) (callE F__law_steps_v4 (consA (varE 0) (consA (varE 8) (consA (varE 10) (nilA))))))) (exprS (methLE appF (varE 3) (consA (tupE (consA (varE 4) (consA (varE 6) (consA (binE addD (varE 7) (callE F__law_reach_v3 (consA (varE 0) (consA (varE 8) (consA (varE 11) (nilA)))))) (consA (binE subD (varE 9) (callE F__law_way_v3 (consA (varE 0) (consA (varE 2) (consA (varE 10) (nilA)))))) (nilA)))))) (nilA)))) (passS))))
def ww_body4 : SvS := (seqS (asgS (callE F__law_full (consA (varE 1) (consA (varE 4) (nilA)))) (nameT 5)) (forS (callI range1F (consA (binE subD (callE lenF (consA (varE 5) (nilA))) (cE (.int 1))) (nilA))) (tgT (.nm 6)) ww_body6))
theorem ww_right_eq : B__law_windows = seqS (asgS (mutE (nilA)) (nameT 3)) (seqS (forS (callI range1F (consA (callE lenF (consA (binE ixD (varE 1) (cE (.int 1))) (nilA))) (nilA))) (tgT (.nm 4)) ww_body4) (retS (callE tupleF (consA (callE srtNQ (consA (varE 3) (nilA))) (nilA))))) := rfl
theorem w_full (st : Sto) {t0 : Int} {bs : List (List P2)} {r : Nat} (hr : r < bs.length) (hl : bs[r].length ≤ 30) : F__law_full [raceD t0 bs, .int r] st = .ok (bagD (fullL t0 bs[r])) st := by
  have x0 := ix_race0 st t0 bs
  have x1 := ix_race1 st t0 bs
  have x2 := ix_bags st bs r hr
  have ad : addD (.tup [.tup [.int t0, .int 0]]) (bagD bs[r]) st = .ok (bagD (fullL t0 bs[r])) st := by
    show (if _ then _ else _) = _
    rw [if_pos (by simp; omega)]; rfl
  generalize raceD t0 bs = rd at *
  generalize bagD bs[r] = b1 at *
  simp [F__law_full, runF, B__law_full, x0, x1, x2, ad]
theorem ww_turn {ts : List Int} (hT : Trk ts) (hs : ts.sum.natAbs < big) {m : Nat} (hm : m < ts.length) {q : Nat} {r : Int} {i : Nat} {g : P2 × P2} (hp : MatOk ts g.1) (hq : MatOk ts g.2) (rd : D) {row : List P2} (hi : i + 1 < row.length) (hg : g = (row[i], row[i + 1])) {ws : List Wd} (hl : ws.length < 1000000) {s : Sto} (hat : s[q]? = some (.lst (ws.map winD))) (o7 o8 o9 o10 o11 : Option D) :
    ∃ o11', ww_body6 [some (tupI ts), some rd, some (.int m), some (.mut q), some (.int r), some (bagD row), some (.int i), o7, o8, o9, o10, o11] s =
      .nx [some (tupI ts), some rd, some (.int m), some (.mut q), some (.int r), some (bagD row), some (.int i), some (.int g.1.1), some (.int g.1.2), some (.int g.2.1), some (.int g.2.2), o11'] (s.set q (.lst ((ws ++ winA ts m r i g).map winD))) := by
  have hbg := big_ge
  have h8 := hT.le
  have x1 := ix_bag s row i (by omega)
  have x2 := ix_bag s row (i + 1) hi
  have k1 : (i : Int) + 1 = ((i + 1 : Nat) : Int) := by push_cast; rfl
  rw [show row[i] = g.1 by rw [hg]] at x1
  rw [show row[i + 1] = g.2 by rw [hg]] at x2
  obtain ⟨a1, a2⟩ := mat_nat hp
  obtain ⟨b1, b2⟩ := mat_nat hq
  have s1 := w_steps s a2 hm
  have s2 := w_steps s a2 b2
  have rg := steps_rng a2 hm
  have re := w_reach s ts g.1.2.toNat (stepsN ts.length g.1.2.toNat m) a2 (by omega) (by omega) hs
  have wy := w_way s hT hm b2 hs
  rw [a1] at s1 s2 re
  rw [b1] at s2 wy
  have lt : ((stepsN ts.length g.1.2.toNat m : Nat) : Int) < (stepsN ts.length g.1.2.toNat g.2.2.toNat : Nat) ↔ m ∈ betweenL ts.length g := by
    unfold betweenL
    rw [between_iff a2 hm b2]
    omega
  have il := isL_mut hat
  rw [show walkI ts g.1.2.toNat (stepsN ts.length g.1.2.toNat m) = wayI ts g.1.2.toNat m from rfl] at re
  have ep : ∀ p : P2, pairD p = .tup [.int p.1, .int p.2] := fun _ => rfl
  rw [ep] at x1 x2
  refine ⟨some (.int (stepsN ts.length g.1.2.toNat m : Nat)), ?_⟩
  unfold winA
  by_cases c : m ∈ betweenL ts.length g
  · rw [if_pos c]
    have lt := lt.mpr c
    have ap := app_mut (winD (r, i, g.1.1 + wayI ts g.1.2.toNat m, g.2.1 - wayI ts m g.2.2.toNat)) hat (by rw [List.length_map]; exact hl)
    rw [show ws.map winD ++ [winD (r, i, g.1.1 + wayI ts g.1.2.toNat m, g.2.1 - wayI ts m g.2.2.toNat)] = (ws ++ [((r, (i : Int), g.1.1 + wayI ts g.1.2.toNat m, g.2.1 - wayI ts m g.2.2.toNat) : Wd)]).map winD by simp, show winD (r, i, g.1.1 + wayI ts g.1.2.toNat m, g.2.1 - wayI ts m g.2.2.toNat) = .tup [.int r, .int i, .int (g.1.1 + wayI ts g.1.2.toNat m), .int (g.2.1 - wayI ts m g.2.2.toNat)] from rfl] at ap
    clear hg hp hq a1 a2 b1 b2 rg
    generalize (ws ++ [((r, (i : Int), g.1.1 + wayI ts g.1.2.toNat m, g.2.1 - wayI ts m g.2.2.toNat) : Wd)]).map winD = wl at *
    generalize wayI ts g.1.2.toNat m = y1 at *
    generalize wayI ts m g.2.2.toNat = y2 at *
    generalize ((stepsN ts.length g.1.2.toNat m : Nat) : Int) = n1 at *
    generalize ((stepsN ts.length g.1.2.toNat g.2.2.toNat : Nat) : Int) = n2 at *
    generalize g.1.1 = z1 at *
    generalize g.1.2 = z2 at *
    generalize g.2.1 = z3 at *
    generalize g.2.2 = z4 at *
    generalize ((i + 1 : Nat) : Int) = i1 at *
    generalize (i : Int) = i0 at *
    generalize (m : Int) = mi at *
    generalize tupI ts = td at *
    generalize bagD row = bd at *
    simp [ww_body6, x1, x2, k1, s1, s2, lt, re, wy, il, ap]
  · rw [if_neg c, List.append_nil]
    have lt : ¬ _ := fun z => c (lt.mp z)
    have same : s.set q (.lst (ws.map winD)) = s := by
      obtain ⟨h1, h2⟩ := List.getElem?_eq_some_iff.mp hat
      rw [← h2]; exact List.set_getElem_self h1
    rw [same]
    clear hg hp hq a1 a2 b1 b2 rg
    generalize ((stepsN ts.length g.1.2.toNat m : Nat) : Int) = n1 at *
    generalize ((stepsN ts.length g.1.2.toNat g.2.2.toNat : Nat) : Int) = n2 at *
    generalize g.1.1 = z1 at *
    generalize g.1.2 = z2 at *
    generalize g.2.1 = z3 at *
    generalize g.2.2 = z4 at *
    generalize ((i + 1 : Nat) : Int) = i1 at *
    generalize (i : Int) = i0 at *
    generalize (m : Int) = mi at *
    generalize tupI ts = td at *
    generalize bagD row = bd at *
    simp [ww_body6, x1, x2, k1, s1, s2, lt]
theorem ww_row {ts : List Int} (hT : Trk ts) (hs : ts.sum.natAbs < big) {m : Nat} (hm : m < ts.length) {t0 : Int} {bs : List (List P2)} (h : RaceOk ts t0 bs) {r : Nat} (hr : r < bs.length) (st : Sto) {ws : List Wd} (hl : ws.length ≤ 1000) (o5 o6 o7 o8 o9 o10 o11 : Option D) :
    ∃ o6' o7' o8' o9' o10' o11', ww_body4 [some (tupI ts), some (raceD t0 bs), some (.int m), some (.mut st.length), some (.int r), o5, o6, o7, o8, o9, o10, o11] (st ++ [.lst (ws.map winD)]) =
      .nx [some (tupI ts), some (raceD t0 bs), some (.int m), some (.mut st.length), some (.int r), some (bagD (fullL t0 bs[r])), o6', o7', o8', o9', o10', o11'] (st ++ [.lst ((ws ++ winG ts m r 0 (gapsL (fullL t0 bs[r]))).map winD)]) := by
  have hro := h.row _ (List.getElem_mem hr)
  have hn := hro.n
  have e1 := w_full (st ++ [.lst (ws.map winD)]) (t0 := t0) hr (h.bag _ (List.getElem_mem hr)).1
  generalize fullL t0 bs[r] = row at *
  have gl := gaps_len row
  obtain ⟨env', s', e, o6', o7', o8', o9', o10', o11', rfl, rfl⟩ := loop_nx (g := tgT (.nm 6)) (body := ww_body6)
    (fun j env s => ∃ o6 o7 o8 o9 o10 o11 : Option D, env = [some (tupI ts), some (raceD t0 bs), some (.int m), some (.mut st.length), some (.int r), some (bagD row), o6, o7, o8, o9, o10, o11] ∧ s = st ++ [.lst ((ws ++ winG ts m r 0 ((gapsL row).take j)).map winD)])
    (xs := rangeD 0 (row.length - 1)) (env := [some (tupI ts), some (raceD t0 bs), some (.int m), some (.mut st.length), some (.int r), some (bagD row), o6, o7, o8, o9, o10, o11]) (st := st ++ [.lst (ws.map winD)]) ⟨o6, o7, o8, o9, o10, o11, rfl, by simp [winG]⟩
    (by
      rintro j x env s hx ⟨o6, o7, o8, o9, o10, o11, rfl, rfl⟩
      obtain ⟨rfl, hj⟩ := range_get hx
      have hwl := winG_len (ts := ts) (m := m) (r := r) ((gapsL row).take j) 0
      rw [List.length_take] at hwl
      obtain ⟨o11', tu⟩ := ww_turn (g := (row[j], row[j + 1])) hT hs hm (r := r) (i := j) (q := st.length) (hro.ok.ok _ (List.getElem_mem (by omega))) (hro.ok.ok _ (List.getElem_mem (by omega))) (raceD t0 bs) (by omega) rfl (ws := ws ++ winG ts m r 0 ((gapsL row).take j)) (by rw [List.length_append]; omega) (s := st ++ [.lst ((ws ++ winG ts m r 0 ((gapsL row).take j)).map winD)]) (by simp) o7 o8 o9 o10 o11
      have hgj : (gapsL row)[j]? = some (row[j], row[j + 1]) := by
        rw [List.getElem?_eq_getElem (by omega), gaps_get row j (by omega)]
      refine ⟨_, st ++ [.lst ((ws ++ winG ts m r 0 ((gapsL row).take j) ++ winA ts m r j (row[j], row[j + 1])).map winD)], ?_, some (.int j), some (.int row[j].1), some (.int row[j].2), some (.int row[j + 1].1), some (.int row[j + 1].2), o11', rfl, ?_⟩
      rotate_left
      · rw [List.take_succ, hgj, Option.toList, winG_snoc, List.length_take, Nat.min_eq_left (by omega), Int.zero_add, List.append_assoc]
      · rw [show (st ++ [MO.lst ((ws ++ winG ts m r 0 ((gapsL row).take j)).map winD)]).set st.length (.lst ((ws ++ winG ts m r 0 ((gapsL row).take j) ++ winA ts m r j (row[j], row[j + 1])).map winD)) = st ++ [.lst ((ws ++ winG ts m r 0 ((gapsL row).take j) ++ winA ts m r j (row[j], row[j + 1])).map winD)] by simp] at tu
        rw [Int.zero_add]
        generalize st ++ [MO.lst ((ws ++ winG ts m r 0 ((gapsL row).take j) ++ winA ts m r j (row[j], row[j + 1])).map winD)] = s2 at *
        generalize st ++ [MO.lst ((ws ++ winG ts m r 0 ((gapsL row).take j)).map winD)] = s1 at *
        generalize ww_body6 = wb at *
        generalize tupI ts = td at *
        generalize bagD row = bd at *
        generalize raceD t0 bs = rd at *
        simp only [tgT, Tg.set, bindS]
        exact tu)
  rw [show (rangeD 0 (row.length - 1)).length = (gapsL row).length by rw [gl]; simp, List.take_length] at e
  refine ⟨o6', o7', o8', o9', o10', o11', ?_⟩
  have ln : lenF [bagD row] (st ++ [.lst (ws.map winD)]) = .ok (.int row.length) (st ++ [.lst (ws.map winD)]) := by unfold bagD; rw [lenF_tup, List.length_map]
  have rg : range1F [.int ((row.length : Int) - 1)] (st ++ [.lst (ws.map winD)]) = .ok (.frz (rangeD 0 (row.length - 1))) (st ++ [.lst (ws.map winD)]) := by
    have k : ((row.length : Int) - 1).toNat = row.length - 1 := by omega
    have k2 : (row.length : Int) - 1 < 4611686018427387904 := by omega
    simp [k, k2]
    omega
  unfold ww_body4
  generalize st ++ [MO.lst ((ws ++ winG ts m r 0 (gapsL row)).map winD)] = s2 at *
  generalize st ++ [MO.lst (ws.map winD)] = s1 at *
  generalize rangeD 0 (row.length - 1) = rr at *
  generalize (row.length : Int) = rl at *
  generalize bagD row = bd at *
  generalize ww_body6 = wb at *
  generalize tupI ts = td at *
  generalize raceD t0 bs = rd at *
  simp [-range1F_eq, e1, ln, rg, e]
end Lap
namespace Lap
open PySem G
theorem winR_snoc {ts : List Int} {m : Nat} (row : List P2) : ∀ (rows : List (List P2)) (r : Int), winR ts m r (rows ++ [row]) = winR ts m r rows ++ winG ts m (r + rows.length) 0 (gapsL row)
  | [], r => by simp [winR]
  | x :: rows, r => by
    show winG ts m r 0 (gapsL x) ++ winR ts m (r + 1) (rows ++ [row]) = (winG ts m r 0 (gapsL x) ++ winR ts m (r + 1) rows) ++ _
    rw [winR_snoc row rows (r + 1), List.append_assoc]
    simp only [List.length_cons]
    rw [show r + 1 + (rows.length : Int) = r + ((rows.length + 1 : Nat) : Int) by push_cast; omega]
theorem srtNQ_at {st : Sto} {n : Nat} {ws : List Wd} (h : st[n]? = some (.lst (ws.map winD))) (h64 : ws.length < 64) (hs : ws.Pairwise ltW) (hb : ∀ w ∈ ws, ∀ x ∈ wns w, 0 ≤ x ∧ x < (big : Int)) : srtNQ [.mut n] st = .ok (.lst (ws.map winD)) st := by
  have e : ws.map winD = (ws.map wns).map nsD := by rw [List.map_map]; rfl
  unfold srtNQ
  simp only [h]
  rw [e, srtNF_ok 4 st (by rw [List.length_map]; exact h64) (by omega) (fun ns hn => by
    obtain ⟨w, hw, rfl⟩ := List.mem_map.mp hn
    exact ⟨rfl, hb w hw⟩), win_sorted hs hb]
theorem w_windows {ts : List Int} (hT : Trk ts) (hs : ts.sum.natAbs < big) {m : Nat} (hm : m < ts.length) {t0 : Int} {bs : List (List P2)} (h : RaceOk ts t0 bs) (h64 : (winR ts m 0 (rowsF t0 bs)).length < 64) (hb : ∀ w ∈ winR ts m 0 (rowsF t0 bs), ∀ x ∈ wns w, 0 ≤ x ∧ x < (big : Int)) (st : Sto) :
    ∃ ex, F__law_windows [tupI ts, raceD t0 bs, .int m] st = .ok (.tup ((winR ts m 0 (rowsF t0 bs)).map winD)) (st ++ ex) := by
  have n6 := h.n6
  obtain ⟨env', s', e, o4, o5, o6, o7, o8, o9, o10, o11, rfl, rfl⟩ := loop_nx (g := tgT (.nm 4)) (body := ww_body4)
    (fun j env s => ∃ o4 o5 o6 o7 o8 o9 o10 o11 : Option D, env = [some (tupI ts), some (raceD t0 bs), some (.int m), some (.mut st.length), o4, o5, o6, o7, o8, o9, o10, o11] ∧ s = st ++ [.lst ((winR ts m 0 ((rowsF t0 bs).take j)).map winD)])
    (xs := rangeD 0 bs.length) (env := [some (tupI ts), some (raceD t0 bs), some (.int m), some (.mut st.length), none, none, none, none, none, none, none, none]) (st := st ++ [.lst []]) ⟨none, none, none, none, none, none, none, none, rfl, by simp [winR]⟩
    (by
      rintro j x env s hx ⟨o4, o5, o6, o7, o8, o9, o10, o11, rfl, rfl⟩
      obtain ⟨rfl, hj⟩ := range_get hx
      have wl : (winR ts m 0 ((rowsF t0 bs).take j)).length ≤ 30 * ((rowsF t0 bs).take j).length := winR_len 30 _ _ fun row hr => by
        have := rowsF_len h row (List.mem_of_mem_take hr)
        rw [gaps_len]; omega
      rw [List.length_take, List.length_map] at wl
      obtain ⟨o6', o7', o8', o9', o10', o11', tu⟩ := ww_row hT hs hm h (r := j) hj st (ws := winR ts m 0 ((rowsF t0 bs).take j)) (by omega) o5 o6 o7 o8 o9 o10 o11
      refine ⟨[some (tupI ts), some (raceD t0 bs), some (.int m), some (.mut st.length), some (.int j), some (bagD (fullL t0 bs[j])), o6', o7', o8', o9', o10', o11'], st ++ [.lst ((winR ts m 0 ((rowsF t0 bs).take j) ++ winG ts m j 0 (gapsL (fullL t0 bs[j]))).map winD)], ?_, some (.int j), some (bagD (fullL t0 bs[j])), o6', o7', o8', o9', o10', o11', rfl, ?_⟩
      rotate_left
      · have hg : (rowsF t0 bs)[j]? = some (fullL t0 bs[j]) := by rw [List.getElem?_map, List.getElem?_eq_getElem hj]; rfl
        rw [List.take_succ, hg, Option.toList, winR_snoc, List.length_take, List.length_map, Nat.min_eq_left (by omega), Int.zero_add]
      · rw [Int.zero_add]
        generalize ww_body4 = wb at *
        generalize tupI ts = td at *
        generalize bagD (fullL t0 bs[j]) = bd at *
        generalize raceD t0 bs = rd at *
        simp only [tgT, Tg.set, bindS]
        exact tu)
  rw [show (rangeD 0 bs.length).length = (rowsF t0 bs).length by simp, List.take_length] at e
  refine ⟨[.lst ((winR ts m 0 (rowsF t0 bs)).map winD)], ?_⟩
  have so := srtNQ_at (st := st ++ [.lst ((winR ts m 0 (rowsF t0 bs)).map winD)]) (n := st.length) (by simp) h64 (winR_sorted _ _) hb
  have x1 := ix_race1 (st ++ [.lst []]) t0 bs
  have ll : lenF [.tup (bs.map bagD)] (st ++ [.lst []]) = .ok (.int bs.length) (st ++ [.lst []]) := by rw [lenF_tup, List.length_map]
  have rg : range1F [.int (bs.length : Nat)] (st ++ [.lst []]) = .ok (.frz (rangeD 0 bs.length)) (st ++ [.lst []]) := by
    have : bs.length < 4611686018427387904 := by omega
    simp [this]
  have tf : tupleF [.lst ((winR ts m 0 (rowsF t0 bs)).map winD)] (st ++ [.lst ((winR ts m 0 (rowsF t0 bs)).map winD)]) = .ok (.tup ((winR ts m 0 (rowsF t0 bs)).map winD)) (st ++ [.lst ((winR ts m 0 (rowsF t0 bs)).map winD)]) := rfl
  unfold F__law_windows
  rw [ww_right_eq]
  generalize (winR ts m 0 (rowsF t0 bs)).map winD = wl at *
  generalize rangeD 0 bs.length = rr at *
  generalize (bs.length : Int) = bl at *
  generalize D.tup (bs.map bagD) = bd at *
  generalize ww_body4 = wb at *
  generalize tupI ts = td at *
  generalize raceD t0 bs = rd at *
  generalize hs2 : st ++ [MO.lst wl] = s2 at *
  simp [-range1F_eq, runF, x1, ll, rg, e, so, tf]
end Lap
namespace Lap
open PySem G
theorem pool_app {p : Nat} {st : Sto} (hp : Pool p st) (ex : Sto) : Pool p (st ++ ex) := pool_keep hp fun k h => List.getElem?_append_left h
theorem winG_mem2 {ts : List Int} {m : Nat} {r : Int} : ∀ (gs : List (P2 × P2)) (i : Int), ∀ w ∈ winG ts m r i gs, ∃ g ∈ gs, m ∈ betweenL ts.length g ∧ w.2.2 = (g.1.1 + wayI ts g.1.2.toNat m, g.2.1 - wayI ts m g.2.2.toNat)
  | [], i, w, h => by cases h
  | g :: gs, i, w, h => by
    unfold winG at h
    rcases List.mem_append.mp h with h | h
    · unfold winA at h
      split at h
      · rename_i c
        rw [List.mem_singleton.mp h]
        exact ⟨g, List.mem_cons_self, c, rfl⟩
      · cases h
    · obtain ⟨g', hg, e⟩ := winG_mem2 gs (i + 1) w h
      exact ⟨g', List.mem_cons_of_mem _ hg, e⟩
theorem winR_mem2 {ts : List Int} {m : Nat} : ∀ (rows : List (List P2)) (r : Int), ∀ w ∈ winR ts m r rows, ∃ row ∈ rows, ∃ g ∈ gapsL row, m ∈ betweenL ts.length g ∧ w.2.2 = (g.1.1 + wayI ts g.1.2.toNat m, g.2.1 - wayI ts m g.2.2.toNat)
  | [], r, w, h => by cases h
  | row :: rows, r, w, h => by
    unfold winR at h
    rcases List.mem_append.mp h with h | h
    · exact ⟨row, List.mem_cons_self, winG_mem2 _ _ w h⟩
    · obtain ⟨row', hr, d⟩ := winR_mem2 rows (r + 1) w h
      exact ⟨row', List.mem_cons_of_mem _ hr, d⟩
theorem way_split {ts : List Int} (hT : Trk ts) {a m b : Nat} (ha : a < ts.length) (hm : m < ts.length) (hb : b < ts.length) (h : stepsN ts.length a m < stepsN ts.length a b) : wayI ts a m + wayI ts m b ≤ wayI ts a b := by
  obtain ⟨d, hd⟩ : ∃ d, stepsN ts.length a b = stepsN ts.length a m + d := ⟨_, (Nat.add_sub_cancel' (Nat.le_of_lt h)).symm⟩
  have e1 : wayI ts a b = wayI ts a m + walkI ts m d := by
    show walkI ts a (stepsN ts.length a b) = walkI ts a (stepsN ts.length a m) + _
    rw [hd, walk_add, walk_there ts ha hm]
  have e2 := walk_ge_way hT (m := m) (s := d) hm (by omega)
  have e3 : (m + d) % ts.length = b := by
    rw [← steps_to ha hb, hd, ← Nat.add_assoc, Nat.add_mod (a + _), steps_to ha hm, Nat.add_mod m d, Nat.mod_eq_of_lt hm]
  rw [e3] at e2
  omega
theorem gap_follow {ts : List Int} {row : List P2} (h : RowOk ts row) {g : P2 × P2} (hg : g ∈ gapsL row) : MatOk ts g.1 ∧ MatOk ts g.2 ∧ wayI ts g.1.2.toNat g.2.2.toNat ≤ g.2.1 - g.1.1 := by
  obtain ⟨i, hi, e⟩ := List.mem_iff_getElem.mp hg
  have gl := gaps_len row
  rw [gaps_get row i (by omega)] at e
  subst e
  refine ⟨h.ok _ (List.getElem_mem _), h.ok _ (List.getElem_mem _), ?_⟩
  have := List.pairwise_iff_getElem.mp h.row i (i + 1) (by omega) (by omega) (by omega)
  unfold followB at this
  have := of_decide_eq_true this
  show wayI ts row[i].2.toNat row[i + 1].2.toNat ≤ row[i + 1].1 - row[i].1
  omega
theorem win_bd {ts : List Int} (hT : Trk ts) {t0 : Int} {bs : List (List P2)} (h : RaceOk ts t0 bs) {m : Nat} (hm : m < ts.length) (hbg : ∀ row ∈ rowsF t0 bs, ∀ p ∈ row, p.1 < (big : Int)) : ∀ w ∈ winR ts m 0 (rowsF t0 bs), ∀ x ∈ wns w, 0 ≤ x ∧ x < (big : Int) := by
  intro w hw
  have hb := big_ge
  have n6 := h.n6
  obtain ⟨h1, h2, h3, row, hr, h4, -⟩ := winR_mem _ _ w hw
  have hl := rowsF_len h row hr
  rw [gaps_len] at h4
  rw [List.length_map] at h2
  obtain ⟨row', hr', g, hg, hmb, e⟩ := winR_mem2 _ _ w hw
  have hro : RowOk ts row' := by
    obtain ⟨b, hb, rfl⟩ := List.mem_map.mp hr'
    exact (h.row b hb).ok
  obtain ⟨p1, p2, fo⟩ := gap_follow hro hg
  have a2 := (mat_nat p1).2
  have b2 := (mat_nat p2).2
  have sp := way_split hT a2 hm b2 ((between_iff a2 hm b2).mp hmb)
  have w1 := way_pos hT a2 hm
  have w2 := way_pos hT hm b2
  have t1 := p1.1
  have gm := gaps_mem hg
  have u := hbg row' hr' g.2 gm.2
  have e1 : w.2.2.1 = g.1.1 + wayI ts g.1.2.toNat m := by rw [e]
  have e2 : w.2.2.2 = g.2.1 - wayI ts m g.2.2.toNat := by rw [e]
  intro x hx
  unfold wns at hx
  simp only [List.mem_cons, List.not_mem_nil, or_false] at hx
  rcases hx with rfl | rfl | rfl | rfl
  · exact ⟨h1, by omega⟩
  · exact ⟨h3, by omega⟩
  · rw [e1]; omega
  · rw [e2]; omega
structure RaceW (ts : List Int) (t0 : Int) (bs : List (List P2)) (k : Nat) : Prop where
  ok : RaceOk ts t0 bs
  len : ∀ b ∈ bs, b.length ≤ k
  tm : ∀ row ∈ rowsF t0 bs, ∀ p ∈ row, p.1 ≤ 100000000000000010000
theorem RaceW.big {ts : List Int} {t0 : Int} {bs : List (List P2)} {k : Nat} (h : RaceW ts t0 bs k) : ∀ row ∈ rowsF t0 bs, ∀ p ∈ row, p.1 < (big : Int) := fun row hr p hp => by
  have := h.tm row hr p hp
  have := big_ge
  omega
theorem race_ok {ts : List Int} (hT : Trk ts) {t0 : Int} (h0 : 0 ≤ t0) {bs : List (List P2)} (n1 : 1 ≤ bs.length) (n6 : bs.length ≤ 6) (hl : ∀ b ∈ bs, b.length ≤ 30) (hr : ∀ b ∈ bs, RowOk ts (fullL t0 b)) (ht : ∀ b ∈ bs, ∀ x ∈ fullL t0 b, x.1 ≤ 100000000000000010000) : RaceOk ts t0 bs where
  n1 := n1
  n6 := n6
  bag := fun b hb => RowOk.bag hT ⟨fun p hp => (hr b hb).ok p (List.mem_cons_of_mem _ hp), (List.pairwise_cons.mp (hr b hb).row).2⟩ (hl b hb)
  row := fun b hb => ⟨hr b hb, by show (b.length + 1) ≤ 31; have := hl b hb; omega, fun p hp => by
    have := ht b hb p hp
    have := ((hr b hb).ok p hp).1
    have := big_ge
    omega⟩
  s0 := h0
theorem w_race {ts : List Int} (hT : DT ts 40) {p : Nat} {st : Sto} (hp : Pool p st) (k : Nat) (hk : k ≤ 30) :
    ∃ t0 bs st', F__law_race [.mut p, tupI ts, .int k] st = .ok (raceD t0 bs) st' ∧ Pool p st' ∧ RaceW ts t0 bs k ∧ bs.length ≤ 4 := by
  obtain ⟨t0, s1, e1, w1, hp1, -⟩ := w_of.three 0 7 100000000000000000003 hp
  obtain ⟨n, s2, e2, n0, n4, hp2, -⟩ := w_below (m := 4) hp1 (by omega) (by omega)
  obtain ⟨n, rfl⟩ := Int.eq_ofNat_of_zero_le n0
  have h0 : 0 ≤ t0 := by omega
  obtain ⟨s', acc, e, bs, rfl, h1, h2, h3⟩ := lc_inv (t := .nm 4) (tt := yesB) (fe := callE F__law_course (consA (varE 0) (consA (varE 1) (consA (varE 3) (consA (varE 2) (nilA)))))) (envw := [some (.mut p), some (tupI ts), some (.int k), some (.int t0), none])
    (fun j s acc => ∃ bs : List (List P2), acc = bs.map bagD ∧ (∀ b ∈ bs, RowOk ts (fullL t0 b) ∧ b.length ≤ k ∧ ∀ x ∈ b, x.1 ≤ t0 + 4200) ∧ bs.length = j ∧ Pool p s) (rangeD 0 (n + 1)) 0 s2 [] ⟨[], rfl, by simp, rfl, hp2⟩
    (by
      rintro j x s acc hx ⟨bs, rfl, h1, h2, hp⟩
      obtain ⟨rfl, hj⟩ := range_get hx
      obtain ⟨b, s3, e3, hp3, -, r1, r2, r3⟩ := w_courseR hT hp h0 k (by omega)
      refine ⟨s3, (bs ++ [b]).map bagD, fun kk => ?_, bs ++ [b], rfl, fun y hy => ?_, by simp [h2], hp3⟩
      · rw [turnC_yes (y := bagD b) (st' := s3) (env1 := [some (.mut p), some (tupI ts), some (.int k), some (.int t0), some (.int (0 + j))]) (by simp) (by
          generalize bagD b = bd at *
          generalize tupI ts = td at *
          generalize (k : Int) = ki at *
          simp [e3]) (by simp; omega)]
        simp
      · rcases List.mem_append.mp hy with hy | hy
        · exact h1 y hy
        · rw [List.mem_singleton.mp hy]; exact ⟨r1, r2, fun x hx => (r3 x hx).2⟩)
  rw [Nat.zero_add, rangeD_length] at h2
  have ht : ∀ b ∈ bs, ∀ x ∈ fullL t0 b, x.1 ≤ 100000000000000010000 := fun b hb x hx => by
    rcases List.mem_cons.mp hx with rfl | hx
    · show t0 ≤ _; omega
    · have := (h1 b hb).2.2 x hx; omega
  refine ⟨t0, bs, s', ?_, h3, ⟨race_ok hT.t h0 (by omega) (by omega) (fun b hb => by have := (h1 b hb).2.1; omega) (fun b hb => (h1 b hb).1) ht, fun b hb => (h1 b hb).2.1, fun row hr p hp => by
    obtain ⟨b, hb, rfl⟩ := List.mem_map.mp hr
    exact ht b hb p hp⟩, by omega⟩
  have pw : powD (.int 10) (.int 20) st = .ok (.int 100000000000000000000) st := rfl
  have rg : range1F [.int (1 + (n : Int))] s2 = .ok (.frz (rangeD 0 (n + 1))) s2 := by
    have k1 : (1 + (n : Int)).toNat = n + 1 := by omega
    have k2 : 1 + (n : Int) < 4611686018427387904 := by omega
    simp [k1, k2]
    omega
  have tf : tupleF [.lst (bs.map bagD)] s' = .ok (.tup (bs.map bagD)) s' := rfl
  unfold raceD
  generalize bs.map bagD = bl at *
  generalize rangeD 0 (n + 1) = rr at *
  generalize (n : Int) = ni at *
  generalize (k : Int) = ki at *
  generalize tupI ts = td at *
  have e2 : F__law_take [.mut p, .int 4] s1 = .ok (.int ni) s2 := e2
  simp [-range1F_eq, F__law_race, runF, B__law_race, pw, e1, e2, rg, e, tf]
end Lap
namespace Lap
open PySem G
abbrev Wrd := List (Str × Str × Str)
structure Wr where
  th : D
  w : Str
  kp : D
theorem cutD_to (xs : List D) (m : Nat) : cutD xs none (some (m : Int)) = xs.take m := by
  have := cutD_map id xs none (some (m : Int))
  rwa [List.map_id, List.map_id, cutL_to] at this
theorem cutD_from (xs : List D) (m : Nat) : cutD xs (some (m : Int)) none = xs.drop m := by
  have := cutD_map id xs (some (m : Int)) none
  rwa [List.map_id, List.map_id, cutL_from] at this
theorem add_tup (xs ys : List D) (st : Sto) (h : xs.length + ys.length ≤ 1000) : addD (.tup xs) (.tup ys) st = .ok (.tup (xs ++ ys)) st := by
  show (if xs.length + ys.length ≤ 16777216 then R.ok (D.tup (xs ++ ys)) st else R.fail) = _
  rw [if_pos (by omega)]
end Lap
namespace Lap
open PySem G
section
variable (st : Sto) {ts : List Int}
theorem p29 : powD (.int 10) (.int 29) st = .ok (.int 100000000000000000000000000000) st := rfl
end
end Lap
namespace Lap
open PySem G
theorem f_no_extras (row : List P2) (h1 : 1 ≤ row.length) (hl : row.length ≤ 31) (st : Sto) : F_no_extras [bagD row] st = .ok (tupI (List.replicate (row.length - 1) 0)) st := by
  have ln : lenF [bagD row] st = .ok (.int row.length) st := by unfold bagD; rw [lenF_tup, List.length_map]
  have k : (row.length : Int) - 1 = ((row.length - 1 : Nat) : Int) := by omega
  have mu : mulD (.tup [.int 0]) (.int ((row.length - 1 : Nat) : Int)) st = .ok (tupI (List.replicate (row.length - 1) 0)) st := by
    by_cases c : 1 ≤ row.length - 1
    · exact mul_evenI st 0 c (by omega)
    · have : row.length - 1 = 0 := by omega
      rw [this]; rfl
  generalize tupI (List.replicate (row.length - 1) 0) = tr at *
  generalize ((row.length - 1 : Nat) : Int) = k1 at *
  generalize bagD row = bd at *
  simp [-mulD_int, F_no_extras, runF, B_no_extras, ln, k, mu]
def rdL (s : Sto) (q : Nat) : List Int := match s[q]? with
  | some (.lst xs) => (intsOf xs).getD []
  | _ => []
end Lap
namespace Lap
open PySem G
theorem stepL_nodup {M a n : Nat} (hM : 0 < M) (hn : n ≤ M) : (stepL M a n).Nodup := by
  unfold stepL
  show List.Pairwise (· ≠ ·) _
  rw [List.pairwise_map]
  refine List.Pairwise.imp_of_mem (fun {x y} hx hy hne h => hne ?_) (List.nodup_range (n := n - 1))
  have hx := List.mem_range.mp hx
  have hy := List.mem_range.mp hy
  have key : ∀ x y : Nat, x < n - 1 → y < n - 1 → x ≤ y → (a + (x + 1)) % M = (a + (y + 1)) % M → x = y := fun x y hx hy hle e => by
    have e2 := Nat.sub_mod_eq_zero_of_mod_eq e.symm
    rw [show a + (y + 1) - (a + (x + 1)) = y - x by omega, Nat.mod_eq_of_lt (by omega)] at e2
    omega
  rcases Nat.le_total x y with c | c
  · exact key x y hx hy c h
  · exact (key y x hy hx c h.symm).symm
def bwI (M : Nat) (g : P2 × P2) (i : Nat) : Int := if stepsN M g.1.2.toNat i < stepsN M g.1.2.toNat g.2.2.toNat then 1 else 0
theorem between_cnt {M : Nat} {g : P2 × P2} (h1 : g.1.2.toNat < M) (h2 : g.2.2.toNat < M) {i : Nat} (hi : i < M) : ((betweenL M g).count i : Int) = bwI M g i := by
  have nd := stepL_nodup (M := M) (a := g.1.2.toNat) (n := stepsN M g.1.2.toNat g.2.2.toNat) (by omega) (steps_rng h1 h2).2
  unfold betweenL bwI
  rw [nd.count]
  by_cases c : stepsN M g.1.2.toNat i < stepsN M g.1.2.toNat g.2.2.toNat
  · rw [if_pos ((between_iff h1 hi h2).mpr c), if_pos c]; rfl
  · rw [if_neg (fun z => c ((between_iff h1 hi h2).mp z)), if_neg c]; rfl
theorem missF_snoc (M : Nat) (gs : List (P2 × P2)) (g : P2 × P2) (s e : Int) (i : Nat) : missF M (gs ++ [g]) (s + e) i = missF M gs s i + e + ((betweenL M g).count i : Nat) := by
  unfold missF
  rw [List.map_append, List.sum_append]
  simp
  omega
def lm_body7 : SvS := (asgS (binE addD (binE addD (binE ixD (varE 3) (varE 7)) (binE ixD (varE 2) (varE 4))) (ifE (tstE (binE ltD (callE F__law_steps_v4 (consA (varE 0) (consA (varE 5) (consA (varE 7) (nilA))))) (callE F__law_steps_v4 (consA (varE 0) (consA (varE 5) (consA (varE 6) (nilA))))))) (cE (.int 1)) (cE (.int 0)))) (subT (varE 3) (varE 7)))
def lm_body4 : SvS := (seqS (parS 5 6 (consA (binE ixD (binE ixD (varE 1) (varE 4)) (cE (.int 1))) (consA (binE ixD (binE ixD (varE 1) (binE addD (varE 4) (cE (.int 1)))) (cE (.int 1))) (nilA)))) (forS (callI range1F (consA (callE lenF (consA (varE 0) (nilA))) (nilA))) (tgT (.nm 7)) lm_body7))
theorem lm_right_eq : B__law_missed = seqS (asgS (lcME (iterE (varE 0)) (.nm 7) (yesB) (cE (.int 0)) [7]) (nameT 3)) (seqS (forS (callI range1F (consA (binE subD (callE lenF (consA (varE 1) (nilA))) (cE (.int 1))) (nilA))) (tgT (.nm 4)) lm_body4) (retS (callE tupleF (consA (varE 3) (nilA))))) := rfl
theorem lm_inner {ts : List Int} (hT : Trk ts) {row : List P2} (hr : ∀ p ∈ row, MatOk ts p) {es : List Int} {j : Nat} (hj : j + 1 < row.length) (he : j < es.length) (s : Int) {q : Nat} {st : Sto} (hq : st[q]? = some (.lst ((missL ts.length ((gapsL row).take j) s).map D.int))) (o7 : Option D) (bd : D) :
    ∃ o7', loopF (tgT (.nm 7)) lm_body7 (rangeD 0 ts.length) [some (tupI ts), some bd, some (tupI es), some (.mut q), some (.int j), some (.int row[j].2), some (.int row[j + 1].2), o7] st = .nx [some (tupI ts), some bd, some (tupI es), some (.mut q), some (.int j), some (.int row[j].2), some (.int row[j + 1].2), o7'] (st.set q (.lst ((missL ts.length ((gapsL row).take (j + 1)) (s + es[j])).map D.int))) := by
  have hql := (List.getElem?_eq_some_iff.mp hq).1
  obtain ⟨_, p1, p2⟩ := hr _ (List.getElem_mem (show j < row.length by omega))
  obtain ⟨_, q1, q2⟩ := hr _ (List.getElem_mem hj)
  have gl : (gapsL row).length = row.length - 1 := gaps_len row
  have hg : (gapsL row)[j]'(by omega) = (row[j], row[j + 1]) := gaps_get row j hj
  have tk : (gapsL row).take (j + 1) = (gapsL row).take j ++ [(row[j], row[j + 1])] := by
    rw [List.take_add_one, List.getElem?_eq_getElem (by omega), hg]; rfl
  have fin : ((List.range ts.length).map fun i => if i < ts.length then missF ts.length ((gapsL row).take (j + 1)) (s + es[j]) i else missF ts.length ((gapsL row).take j) s i) = missL ts.length ((gapsL row).take (j + 1)) (s + es[j]) := by
    unfold missL
    refine List.map_congr_left fun i hi => ?_
    rw [if_pos (List.mem_range.mp hi)]
  obtain ⟨env', s', e, ⟨o7', rfl⟩, rfl⟩ := loop_nx (g := tgT (.nm 7)) (body := lm_body7)
    (fun k env st' => (∃ o7 : Option D, env = [some (tupI ts), some bd, some (tupI es), some (.mut q), some (.int j), some (.int row[j].2), some (.int row[j + 1].2), o7]) ∧ st' = st.set q (.lst (((List.range ts.length).map fun i => if i < k then missF ts.length ((gapsL row).take (j + 1)) (s + es[j]) i else missF ts.length ((gapsL row).take j) s i).map D.int)))
    (xs := rangeD 0 ts.length) (env := [some (tupI ts), some bd, some (tupI es), some (.mut q), some (.int j), some (.int row[j].2), some (.int row[j + 1].2), o7]) (st := st) ⟨⟨o7, rfl⟩, by
      have e0 : ((List.range ts.length).map fun i => if i < 0 then missF ts.length ((gapsL row).take (j + 1)) (s + es[j]) i else missF ts.length ((gapsL row).take j) s i) = missL ts.length ((gapsL row).take j) s := by
        unfold missL
        refine List.map_congr_left fun i hi => ?_
        rw [if_neg (by omega)]
      rw [e0]
      exact (set_same hq).symm⟩
    (by
      rintro k x env st' hx ⟨⟨o7, rfl⟩, rfl⟩
      obtain ⟨rfl, hk⟩ := range_get hx
      generalize hl : (List.range ts.length).map (fun i => if i < k then missF ts.length ((gapsL row).take (j + 1)) (s + es[j]) i else missF ts.length ((gapsL row).take j) s i) = l
      have hll : l.length = ts.length := by rw [← hl]; simp
      have hlk : l.getD k 0 = missF ts.length ((gapsL row).take j) s k := by
        rw [← hl, List.getD_eq_getElem?_getD, List.getElem?_map, List.getElem?_range hk, Option.map_some, Option.getD_some, if_neg (by omega)]
      have at_ : (st.set q (.lst (l.map D.int)))[q]? = some (.lst (l.map D.int)) := List.getElem?_set_self hql
      have ix := ix_mutI at_ (i := k) (by omega)
      rw [hlk] at ix
      have ie : ∀ s2 : Sto, ixD (tupI es) (.int (j : Nat)) s2 = .ok (.int es[j]) s2 := fun s2 => by
        unfold tupI
        refine ixD_tup _ _ _ ?_
        rw [atI_nat' _ j (by rw [List.length_map]; exact he)]; simp
      have f1 := w_steps (st.set q (.lst (l.map D.int))) (ts := ts) (m := row[j].2.toNat) (o := k) (by omega) hk
      have f2 := w_steps (st.set q (.lst (l.map D.int))) (ts := ts) (m := row[j].2.toNat) (o := row[j + 1].2.toNat) (by omega) (by omega)
      rw [show ((row[j].2.toNat : Nat) : Int) = row[j].2 by omega] at f1 f2
      rw [show ((row[j + 1].2.toNat : Nat) : Int) = row[j + 1].2 by omega] at f2
      have bc := between_cnt (M := ts.length) (g := (row[j], row[j + 1])) (by show row[j].2.toNat < _; omega) (by show row[j + 1].2.toNat < _; omega) hk
      have sd := setD_at at_ (i := k) (by omega) (missF ts.length ((gapsL row).take j) s k + es[j] + bwI ts.length (row[j], row[j + 1]) k)
      rw [List.set_set] at sd
      have nl : l.set k (missF ts.length ((gapsL row).take j) s k + es[j] + bwI ts.length (row[j], row[j + 1]) k) = (List.range ts.length).map fun i => if i < k + 1 then missF ts.length ((gapsL row).take (j + 1)) (s + es[j]) i else missF ts.length ((gapsL row).take j) s i := by
        rw [← bc, ← missF_snoc, ← tk, ← hl]
        refine List.ext_getElem (by simp) fun i h1 h2 => ?_
        rw [List.getElem_set]
        simp only [List.length_set, List.length_map, List.length_range] at h1
        by_cases c : k = i
        · subst c
          rw [if_pos rfl, List.getElem_map, List.getElem_range, if_pos (by omega)]
        · rw [if_neg c, List.getElem_map, List.getElem_map, List.getElem_range]
          by_cases d : i < k
          · rw [if_pos d, if_pos (by omega)]
          · rw [if_neg d, if_neg (by omega)]
      rw [nl] at sd
      refine ⟨[some (tupI ts), some bd, some (tupI es), some (.mut q), some (.int j), some (.int row[j].2), some (.int row[j + 1].2), some (.int (k : Nat))], _, ?_, ⟨some (.int (k : Nat)), rfl⟩, rfl⟩
      rw [Int.zero_add]
      unfold lm_body7
      have lt : ∀ s2 : Sto, ltD (.int ((stepsN ts.length row[j].2.toNat k : Nat) : Int)) (.int ((stepsN ts.length row[j].2.toNat row[j + 1].2.toNat : Nat) : Int)) s2 = .ok (.bl (decide (stepsN ts.length row[j].2.toNat k < stepsN ts.length row[j].2.toNat row[j + 1].2.toNat))) s2 := fun s2 => by
        show R.ok (D.bl (decide _)) s2 = _
        congr 2
        simp
      have cI : bwI ts.length (row[j], row[j + 1]) k = if stepsN ts.length row[j].2.toNat k < stepsN ts.length row[j].2.toNat row[j + 1].2.toNat then 1 else 0 := rfl
      rw [cI] at sd
      clear nl hl hll hlk at_ bc cI hq fin tk hx hk hg
      generalize ((List.range ts.length).map fun i => if i < k + 1 then missF ts.length ((gapsL row).take (j + 1)) (s + es[j]) i else missF ts.length ((gapsL row).take j) s i) = l2 at *
      generalize missF ts.length ((gapsL row).take j) s k = v0 at *
      generalize ((stepsN ts.length row[j].2.toNat row[j + 1].2.toNat : Nat) : Int) = sn2 at *
      generalize ((stepsN ts.length row[j].2.toNat k : Nat) : Int) = sn1 at *
      generalize st.set q (.lst (l.map D.int)) = s1 at *
      generalize st.set q (.lst (l2.map D.int)) = s2 at *
      generalize row[j].2 = m1 at *
      generalize row[j + 1].2 = m2 at *
      generalize es[j] = ev at *
      generalize tupI es = ed at *
      generalize tupI ts = td at *
      generalize (j : Int) = ji at *
      generalize (k : Int) = ki at *
      generalize D.mut q = md at *
      by_cases c : stepsN ts.length m1.toNat k < stepsN ts.length m1.toNat m2.toNat
      · rw [if_pos c] at sd
        rw [decide_eq_true c] at lt
        simp [-ltD_int, ix, ie, f1, f2, lt, sd]
      · rw [if_neg c] at sd
        rw [decide_eq_false c] at lt
        simp only [Int.add_zero] at sd
        simp [-ltD_int, ix, ie, f1, f2, lt, sd])
  refine ⟨o7', ?_⟩
  rw [e, rangeD_length, fin]
theorem f_law_missed {ts : List Int} (hT : Trk ts) {row : List P2} (hr : ∀ p ∈ row, MatOk ts p) (hl : row.length ≤ 1000) {es : List Int} (he : row.length - 1 ≤ es.length) (st : Sto) :
    ∃ ex, F__law_missed [tupI ts, bagD row, tupI es] st = .ok (tupI (missL ts.length (gapsL row) ((es.take (row.length - 1)).sum))) (st ++ ex) := by
  have h8 := hT.le
  have lc := lc_typed (t := .nm 7) (fe := cE (.int 0)) (envw := [some (tupI ts), some (bagD row), some (tupI es), none, none, none, none, none]) (st := st) D.int (fun _ => D.int 0) ts [] (by simp; omega) (fun x _ => ⟨[some (tupI ts), some (bagD row), some (tupI es), none, none, none, none, some (.int x)], by simp, by simp⟩)
  rw [List.nil_append] at lc
  have l0 : ts.map (fun _ => D.int 0) = (missL ts.length [] 0).map D.int := by
    rw [miss_nil]
    refine List.ext_getElem (by simp) fun i h1 h2 => by simp
  rw [l0] at lc
  have it : iterD (tupI ts) st = .ok (.frz (ts.map D.int)) st := rfl
  have gl : (gapsL row).length = row.length - 1 := gaps_len row
  obtain ⟨env', s', e, ⟨o4, o5, o6, o7, rfl⟩, rfl⟩ := loop_nx (g := tgT (.nm 4)) (body := lm_body4)
    (fun j env s => (∃ o4 o5 o6 o7 : Option D, env = [some (tupI ts), some (bagD row), some (tupI es), some (.mut st.length), o4, o5, o6, o7]) ∧ s = st ++ [.lst ((missL ts.length ((gapsL row).take j) ((es.take j).sum)).map D.int)])
    (xs := rangeD 0 (row.length - 1)) (env := [some (tupI ts), some (bagD row), some (tupI es), some (.mut st.length), none, none, none, none]) (st := st ++ [.lst ((missL ts.length [] 0).map D.int)]) ⟨⟨none, none, none, none, rfl⟩, by simp⟩
    (by
      rintro j x env s hx ⟨⟨o4, o5, o6, o7, rfl⟩, rfl⟩
      obtain ⟨rfl, hj⟩ := range_get hx
      have hj1 : j + 1 < row.length := by omega
      obtain ⟨o7', e⟩ := lm_inner hT hr hj1 (es := es) (by omega) ((es.take j).sum) (get_end st (.lst ((missL ts.length ((gapsL row).take j) ((es.take j).sum)).map D.int))) o7 (bagD row)
      rw [set_end] at e
      have sm : (es.take j).sum + es[j]'(by omega) = (es.take (j + 1)).sum := by
        rw [List.take_add_one, List.getElem?_eq_getElem (by omega), List.sum_append]
        simp
      rw [sm] at e
      have x1 : ∀ s2, ixD (bagD row) (.int (j : Int)) s2 = .ok (pairD row[j]) s2 := fun s2 => ix_bag s2 row j (by omega)
      have x2 : ∀ s2, ixD (bagD row) (.int ((j : Int) + 1)) s2 = .ok (pairD row[j + 1]) s2 := fun s2 => by
        have := ix_bag s2 row (j + 1) hj1
        rw [show ((j + 1 : Nat) : Int) = (j : Int) + 1 by push_cast; rfl] at this
        exact this
      have y1 : ∀ s2, ixD (pairD row[j]) (.int 1) s2 = .ok (.int row[j].2) s2 := fun s2 => ix_pair1 s2 _
      have y2 : ∀ s2, ixD (pairD row[j + 1]) (.int 1) s2 = .ok (.int row[j + 1].2) s2 := fun s2 => ix_pair1 s2 _
      have lt : ∀ s2, lenF [tupI ts] s2 = .ok (.int ts.length) s2 := fun s2 => lenF_tupI ..
      have rg : ∀ s2, range1F [.int (ts.length : Int)] s2 = .ok (.frz (rangeD 0 ts.length)) s2 := fun s2 => by
        have : ts.length < 4611686018427387904 := by omega
        simp [this]
      refine ⟨[some (tupI ts), some (bagD row), some (tupI es), some (.mut st.length), some (.int (j : Nat)), some (.int row[j].2), some (.int row[j + 1].2), o7'], _, ?_, ⟨some (.int (j : Nat)), some (.int row[j].2), some (.int row[j + 1].2), o7', rfl⟩, rfl⟩
      rw [Int.zero_add]
      unfold lm_body4
      generalize st ++ [.lst ((missL ts.length ((gapsL row).take j) ((es.take j).sum)).map D.int)] = s1 at *
      generalize st ++ [.lst ((missL ts.length ((gapsL row).take (j + 1)) ((es.take (j + 1)).sum)).map D.int)] = s2 at *
      generalize rangeD 0 ts.length = rr at *
      generalize (ts.length : Int) = L at *
      generalize row[j].2 = m1 at *
      generalize row[j + 1].2 = m2 at *
      generalize pairD row[j] = pj at *
      generalize pairD row[j + 1] = pk at *
      generalize bagD row = bd at *
      generalize tupI es = ed at *
      generalize tupI ts = td at *
      generalize (j : Int) = ji at *
      generalize D.mut st.length = md at *
      generalize lm_body7 = b7 at *
      simp [-range1F_eq, parS, x1, x2, y1, y2, lt, rg, e])
  rw [rangeD_length, ← gl, List.take_length] at e
  refine ⟨[.lst ((missL ts.length (gapsL row) ((es.take (gapsL row).length).sum)).map D.int)], ?_⟩
  rw [← gl]
  have ln : ∀ s2, lenF [bagD row] s2 = .ok (.int row.length) s2 := fun s2 => by unfold bagD; rw [lenF_tup, List.length_map]
  have rg : ∀ s2, range1F [.int ((row.length : Int) - 1)] s2 = .ok (.frz (rangeD 0 (gapsL row).length)) s2 := fun s2 => by
    rw [range1F_eq, if_pos (by omega), gl]
    congr 2
    congr 1
    omega
  have tf : tupleF [.mut st.length] (st ++ [.lst ((missL ts.length (gapsL row) ((es.take (gapsL row).length).sum)).map D.int)]) = .ok (tupI (missL ts.length (gapsL row) ((es.take (gapsL row).length).sum))) (st ++ [.lst ((missL ts.length (gapsL row) ((es.take (gapsL row).length).sum)).map D.int)]) := by
    show (match seqOf (.mut st.length) _ with | some xs => _ | none => _) = _
    rw [show seqOf (.mut st.length) (st ++ [.lst ((missL ts.length (gapsL row) ((es.take (gapsL row).length).sum)).map D.int)]) = some ((missL ts.length (gapsL row) ((es.take (gapsL row).length).sum)).map D.int) by simp [seqOf]]
    rfl
  unfold F__law_missed
  rw [lm_right_eq]
  generalize tupI (missL ts.length (gapsL row) ((es.take (gapsL row).length).sum)) = res at *
  generalize st ++ [.lst ((missL ts.length (gapsL row) ((es.take (gapsL row).length).sum)).map D.int)] = s2 at *
  generalize (missL ts.length [] 0).map D.int = z0 at *
  generalize rangeD 0 (gapsL row).length = rr at *
  generalize (row.length : Int) = L at *
  generalize ts.map D.int = tl at *
  generalize bagD row = bd at *
  generalize tupI es = ed at *
  generalize tupI ts = td at *
  generalize lm_body4 = b4 at *
  simp [-range1F_eq, runF, lcME, lcL, iterE, it, wipeE, lc, R.bind, ln, rg, e, tf]
end Lap
namespace Lap
open PySem G
theorem rep0_sum (n : Nat) : (List.replicate n (0 : Int)).sum = 0 := by
  induction n with
  | zero => rfl
  | succ n ih => rw [List.replicate_succ, List.sum_cons, ih]; rfl
def dueL (M : Nat) (rows : List (List P2)) : List Int := (List.range M).map fun i => (rows.map fun row => missF M (gapsL row) 0 i).sum
theorem f_least_val {ts : List Int} (hT : Trk ts) {t0 : Int} {bs : List (List P2)} (h : RaceOk ts t0 bs) (st : Sto) :
    ∃ st', F_least_misses_by [tupI ts, raceD t0 bs] st = .ok (tupI (dueL ts.length (rowsF t0 bs))) st' ∧ (∀ k, k < st.length → st'[k]? = st[k]?) ∧ st.length ≤ st'.length := by
  have n6 := h.n6
  have h8 := hT.le
  have fr := f_full_rows_of h st
  obtain ⟨s', acc, e, ps, rfl, hps, hq, hk, hl⟩ := lc_inv (t := .nm 3) (tt := yesB) (fe := callE F_missed_by (consA (varE 0) (consA (varE 3) (consA (callE F_no_extras (consA (varE 3) (nilA))) (nilA))))) (envw := [some (tupI ts), some (raceD t0 bs), none, none, none])
    (fun j s acc => ∃ ps : List (Nat × List P2), acc = ps.map (fun p => D.mut p.1) ∧ ps.map (·.2) = (rowsF t0 bs).take j ∧ (∀ p ∈ ps, p.1 < s.length ∧ s[p.1]? = some (.lst ((missL ts.length (gapsL p.2) 0).map D.int))) ∧ (∀ k, k < st.length → s[k]? = st[k]?) ∧ st.length ≤ s.length) ((rowsF t0 bs).map bagD) 0 st [] ⟨[], rfl, by simp, by simp, fun _ _ => rfl, Nat.le_refl _⟩
    (by
      rintro j x s acc hx ⟨ps, rfl, hps, hq, hk, hl⟩
      rw [List.getElem?_map] at hx
      obtain ⟨row, hrow, rfl⟩ := Option.map_eq_some_iff.mp hx
      have hm := List.mem_of_getElem? hrow
      obtain ⟨b, hb, rfl⟩ := List.mem_map.mp hm
      have hro := h.row b hb
      have hj := (List.getElem?_eq_some_iff.mp hrow).1
      rw [List.length_map] at hj
      obtain ⟨s2, e2, a2, k2, l2⟩ := f_missed_by (st := s) hT hro.ok.ok (List.replicate ((fullL t0 b).length - 1) 0)
      have ne := f_no_extras (fullL t0 b) (by show 1 ≤ b.length + 1; omega) hro.n s
      have z : (List.replicate ((fullL t0 b).length - 1) (0 : Int)).sum = 0 := by
        rw [rep0_sum]
      rw [z] at a2
      have pl : ps.length = j := by
        have := congrArg List.length hps
        rw [List.length_map, List.length_take, List.length_map] at this
        omega
      refine ⟨s2, (ps ++ [(s.length, fullL t0 b)]).map (fun p => D.mut p.1), fun kk => ?_, ps ++ [(s.length, fullL t0 b)], rfl, ?_, fun p hp => ?_, fun k hkk => by rw [k2 k (by omega)]; exact hk k hkk, by omega⟩
      · rw [turnC_yes (y := D.mut s.length) (st' := s2) (env1 := [some (tupI ts), some (raceD t0 bs), none, some (bagD (fullL t0 b)), none]) (by simp) (by
          generalize tupI (List.replicate ((fullL t0 b).length - 1) 0) = tr at *
          generalize bagD (fullL t0 b) = bd at *
          generalize tupI ts = td at *
          simp [ne, e2]) (by simp; omega)]
        simp
      · rw [List.map_append, hps, Nat.zero_add, List.take_add_one, hrow]; rfl
      · rcases List.mem_append.mp hp with hp | hp
        · obtain ⟨h1, h2⟩ := hq p hp
          exact ⟨by omega, by rw [k2 p.1 h1]; exact h2⟩
        · rw [List.mem_singleton.mp hp]
          exact ⟨(List.getElem?_eq_some_iff.mp a2).1, a2⟩)
  rw [Nat.zero_add, List.length_map, List.take_length] at hps
  have pl : ps.length ≤ 6 := by
    have := congrArg List.length hps
    rw [List.length_map, List.length_map] at this
    omega
  have inner : ∀ i, i < ts.length → lcE (iterE (varE 2)) (.nm 3) (yesB) (binE ixD (varE 3) (varE 4)) [3] [some (tupI ts), some (raceD t0 bs), some (.lst (ps.map fun p => D.mut p.1)), none, some (.int (0 + (i : Int)))] s' = .ok (.lst (((rowsF t0 bs).map fun row => missF ts.length (gapsL row) 0 i).map D.int)) s' := fun i hi => by
    have lc := lc_typed (t := .nm 3) (fe := binE ixD (varE 3) (varE 4)) (envw := [some (tupI ts), some (raceD t0 bs), some (.lst (ps.map fun p => D.mut p.1)), none, some (.int (0 + (i : Int)))]) (st := s') (fun p : Nat × List P2 => D.mut p.1) (fun p => D.int (missF ts.length (gapsL p.2) 0 i)) ps [] (by simp; omega) (by
      intro p hp
      obtain ⟨h1, h2⟩ := hq p hp
      refine ⟨[some (tupI ts), some (raceD t0 bs), some (.lst (ps.map fun p => D.mut p.1)), some (.mut p.1), some (.int (0 + (i : Int)))], by simp, ?_⟩
      have ix := ix_mutI h2 (i := i) (by rw [miss_len]; exact hi)
      rw [miss_get hi] at ix
      rw [Int.zero_add]
      generalize D.lst (ps.map fun p => D.mut p.1) = ql at *
      generalize missF ts.length (gapsL p.2) 0 i = y at *
      simp [ix])
    rw [List.nil_append, show ps.map (fun p => D.int (missF ts.length (gapsL p.2) 0 i)) = ((rowsF t0 bs).map fun row => missF ts.length (gapsL row) 0 i).map D.int by rw [← hps, List.map_map, List.map_map]; rfl] at lc
    have it : iterD (.lst (ps.map fun p => D.mut p.1)) s' = .ok (.frz (ps.map fun p => D.mut p.1)) s' := rfl
    generalize ((rowsF t0 bs).map fun row => missF ts.length (gapsL row) 0 i).map D.int = fl at *
    generalize (0 + (i : Int)) = ii at *
    generalize ps.map (fun p => D.mut p.1) = ql at *
    simp [-lcE_eq, lcE, lcL, it, wipeE, iterE]
    simp [lc, R.bind]
  have lc2 := lc_typed (t := .nm 4) (fe := callE sumF (consA (lcE (iterE (varE 2)) (.nm 3) (yesB) (binE ixD (varE 3) (varE 4)) [3]) (nilA))) (envw := [some (tupI ts), some (raceD t0 bs), some (.lst (ps.map fun p => D.mut p.1)), none, none]) (st := s') (fun (i : Nat) => D.int (0 + i)) (fun i => D.int ((rowsF t0 bs).map fun row => missF ts.length (gapsL row) 0 i).sum) (List.range ts.length) [] (by simp; omega) (by
    intro i hi
    have hi := List.mem_range.mp hi
    refine ⟨[some (tupI ts), some (raceD t0 bs), some (.lst (ps.map fun p => D.mut p.1)), none, some (.int (0 + (i : Int)))], by simp, ?_⟩
    have q1 := inner i hi
    have q2 := sum_ints s' ((rowsF t0 bs).map fun row => missF ts.length (gapsL row) 0 i)
    generalize ((rowsF t0 bs).map fun row => missF ts.length (gapsL row) 0 i).sum = sm at *
    generalize ((rowsF t0 bs).map fun row => missF ts.length (gapsL row) 0 i).map D.int = fl at *
    generalize (0 + (i : Int)) = ii at *
    generalize D.lst (ps.map fun p => D.mut p.1) = ql at *
    simp [-lcE_eq, q1, q2])
  rw [List.nil_append, show (List.range ts.length).map (fun (i : Nat) => D.int (0 + i)) = rangeD 0 ts.length from rfl] at lc2
  refine ⟨s', ?_, hk, hl⟩
  · have lt : lenF [tupI ts] s' = .ok (.int ts.length) s' := lenF_tupI ..
    have rg : range1F [.int (ts.length : Nat)] s' = .ok (.frz (rangeD 0 ts.length)) s' := by
      have : ts.length < 4611686018427387904 := by omega
      simp [this]
    have it : ∀ l s, iterD (.lst l) s = .ok (.frz l) s := fun _ _ => rfl
    have tf : ∀ l s, tupleF [.lst l] s = .ok (.tup l) s := fun _ _ => rfl
    have fin : tupI (dueL ts.length (rowsF t0 bs)) = .tup ((List.range ts.length).map fun i => D.int ((rowsF t0 bs).map fun row => missF ts.length (gapsL row) 0 i).sum) := by
      unfold tupI dueL
      rw [List.map_map]; rfl
    rw [fin]
    clear inner hq fin
    generalize (List.range ts.length).map (fun i => D.int ((rowsF t0 bs).map fun row => missF ts.length (gapsL row) 0 i).sum) = fin at *
    generalize rangeD 0 ts.length = rr at *
    generalize (rowsF t0 bs).map bagD = rl at *
    generalize ps.map (fun p => D.mut p.1) = ql at *
    generalize (ts.length : Int) = L at *
    generalize raceD t0 bs = rd at *
    generalize tupI ts = td at *
    simp [-lcE_eq, -range1F_eq, F_least_misses_by, runF, B_least_misses_by, lcE, lcL, fr, it, wipeE, iterE]
    simp [-range1F_eq, e, R.bind, lt, rg, wipeE]
    simp [lc2, tf]
theorem least_v2 : F_least_misses_v2 = F_least_misses := rfl
theorem windows_v2 : F_windows_v2 = F_windows := rfl
theorem t_least_val {ts : List Int} (hT : Trk ts) (hs : ts.sum.natAbs < big) {t0 : Int} {bs : List (List P2)} (h : RaceOk ts t0 bs) (st : Sto) :
    ∃ st', F_least_misses [tupI ts, raceD t0 bs] st = .ok (tupI (dueL ts.length (rowsF t0 bs))) st' ∧ (∀ k, k < st.length → st'[k]? = st[k]?) ∧ st.length ≤ st'.length := by
  obtain ⟨s', e, hk, hl⟩ := f_least_val hT h st
  have e1 := f_check_track (st := st) hT
  have e2 := f_check_race (st := st) hT hs h
  refine ⟨s', ?_, hk, hl⟩
  generalize tupI (dueL ts.length (rowsF t0 bs)) = dd at *
  generalize tupI ts = td at *
  generalize raceD t0 bs = rd at *
  have e4 : F_check_raced_v2 [td, rd] st = .ok .non st := by simp [F_check_raced_v2, runF, B_check_raced_v2, e1, e2]
  simp [F_least_misses, runF, B_least_misses, e4, e]
theorem winG_count {ts : List Int} {m : Nat} {r : Int} : ∀ (gs : List (P2 × P2)) (i s : Int), (∀ g ∈ gs, g.1.2.toNat < ts.length ∧ g.2.2.toNat < ts.length) → m < ts.length → s + ((winG ts m r i gs).length : Int) = missF ts.length gs s m
  | [], i, s, _, _ => by simp [winG, missF]
  | g :: gs, i, s, hg, hm => by
    have ih := winG_count (r := r) gs (i + 1) (s + ((betweenL ts.length g).count m : Nat)) (fun x hx => hg x (List.mem_cons_of_mem _ hx)) hm
    have h0 := hg g List.mem_cons_self
    have nd := stepL_nodup (M := ts.length) (a := g.1.2.toNat) (n := stepsN ts.length g.1.2.toNat g.2.2.toNat) (by omega) (steps_rng h0.1 h0.2).2
    have e : ((winA ts m r i g).length : Int) = ((betweenL ts.length g).count m : Nat) := by
      unfold winA betweenL
      rw [nd.count]
      by_cases c : m ∈ stepL ts.length g.1.2.toNat (stepsN ts.length g.1.2.toNat g.2.2.toNat)
      · rw [if_pos c, if_pos c]; rfl
      · rw [if_neg c, if_neg c]; rfl
    unfold winG
    rw [List.length_append, Int.natCast_add, e]
    unfold missF at ih ⊢
    rw [List.map_cons, List.sum_cons]
    omega
theorem winR_count {ts : List Int} {m : Nat} (hm : m < ts.length) : ∀ (rows : List (List P2)) (r : Int), (∀ row ∈ rows, ∀ p ∈ row, MatOk ts p) → ((winR ts m r rows).length : Int) = (rows.map fun row => missF ts.length (gapsL row) 0 m).sum
  | [], r, _ => by simp [winR]
  | row :: rows, r, h => by
    have ih := winR_count hm rows (r + 1) fun x hx => h x (List.mem_cons_of_mem _ hx)
    have hr := h row List.mem_cons_self
    have hg : ∀ g ∈ gapsL row, g.1.2.toNat < ts.length ∧ g.2.2.toNat < ts.length := fun g hg => by
      have := gaps_mem hg
      have a := (hr _ this.1).2
      have b := (hr _ this.2).2
      omega
    have c := winG_count (r := r) (gapsL row) 0 0 hg hm
    unfold winR
    rw [List.length_append, Int.natCast_add, List.map_cons, List.sum_cons, ih]
    omega
end Lap
namespace Lap
open PySem G
def t_1 : SvS := asgS (lcE (callI range1F (consA (callE lenF (consA (binE ixD (varE 2) (cE (.int 1))) (nilA))) (nilA))) (.nm 7) (yesB) (callE F__law_full (consA (varE 2) (consA (varE 7) (nilA)))) [7]) (nameT 3)
def t_2 : SvS := asgS (lcE (iterE (varE 3)) (.nm 8) (yesB) (callE F__law_missed (consA (varE 1) (consA (varE 8) (consA (binE mulD (tupE (consA (cE (.int 0)) (nilA))) (callE lenF (consA (varE 8) (nilA)))) (nilA))))) [8]) (nameT 4)
def t_3 : SvS := asgS (callE tupleF (consA (lcE (callI range1F (consA (callE lenF (consA (varE 1) (nilA))) (nilA))) (.nm 11) (yesB) (callE sumF (consA (lcE (iterE (varE 4)) (.nm 12) (yesB) (binE ixD (varE 12) (varE 11)) [12]) (nilA))) [11]) (nilA))) (nameT 5)
def t_4 : SvS := asgS (ifE (tstE (binE eqD (callE F__law_take (consA (varE 0) (consA (cE (.int 2)) (nilA)))) (cE (.int 0)))) (callE F_least_misses_v2 (consA (varE 1) (consA (varE 2) (nilA)))) (callKE F_least_misses_v2 nilA (consA (varE 2) (consA (varE 1) (nilA))) 0 2 [1, 0])) (nameT 6)
def t_5 : SvS := ifS (orB (notB (tstE (callE F__law_same_v2 (consA (varE 6) (consA (varE 5) (nilA)))))) (notB (tstE (callE allF (consA (lcE (callI range1F (consA (callE lenF (consA (varE 1) (nilA))) (nilA))) (.nm 11) (yesB) (binE eqD (callE lenF (consA (callE F_windows_v2 (consA (varE 1) (consA (varE 2) (consA (varE 11) (nilA))))) (nilA))) (binE ixD (varE 5) (varE 11))) [11]) (nilA)))))) (retS (cE (.bl false))) (passS)
def t_6 : SvS := forS (callI range1F (consA (callE lenF (consA (varE 3) (nilA))) (nilA))) (tgT (.nm 7)) (seqS (asgS (callE F_full_row (consA (varE 1) (consA (varE 2) (consA (varE 7) (nilA))))) (nameT 8)) (seqS (ifS (orB (notB (tstE (callE F__law_same_v2 (consA (varE 8) (consA (binE ixD (varE 3) (varE 7)) (nilA)))))) (notB (tstE (callE F__law_same_v2 (consA (callE F_missed (consA (varE 1) (consA (varE 8) (consA (binE mulD (tupE (consA (cE (.int 0)) (nilA))) (binE subD (callE lenF (consA (varE 8) (nilA))) (cE (.int 1)))) (nilA))))) (consA (binE ixD (varE 4) (varE 7)) (nilA))))))) (retS (cE (.bl false))) (passS)) (seqS (asgS (callE F_all_most (consA (varE 1) (consA (varE 8) (nilA)))) (nameT 9)) (seqS (asgS (callE tupleF (consA (lcE (iterE (varE 9)) (.nm 13) (yesB) (callE F__law_take (consA (varE 0) (consA (binE addD (callE minF (consA (varE 13) (consA (cE (.int 50)) (nilA)))) (cE (.int 1))) (nilA)))) [13]) (nilA))) (nameT 10)) (ifS (notB (tstE (callE F__law_same_v2 (consA (callE F_missed (consA (varE 1) (consA (varE 8) (consA (varE 10) (nilA))))) (consA (callE F__law_missed (consA (varE 1) (consA (varE 8) (consA (binE addD (varE 10) (tupE (consA (cE (.int 0)) (nilA)))) (nilA))))) (nilA)))))) (retS (cE (.bl false))) (passS))))))
def t_7 : SvS := retS (cE (.bl true))
theorem t_eq : B__law_is_told_v5 = seqS t_1 (seqS t_2 (seqS t_3 (seqS t_4 (seqS t_5 (seqS t_6 t_7))))) := rfl
def tb_body7 : SvS := (seqS (asgS (callE F_full_row (consA (varE 1) (consA (varE 2) (consA (varE 7) (nilA))))) (nameT 8)) (seqS (ifS (orB (notB (tstE (callE F__law_same_v2 (consA (varE 8) (consA (binE ixD (varE 3) (varE 7)) (nilA)))))) (notB (tstE (callE F__law_same_v2 (consA (callE F_missed (consA (varE 1) (consA (varE 8) (consA (binE mulD (tupE (consA (cE (.int 0)) (nilA))) (binE subD (callE lenF (consA (varE 8) (nilA))) (cE (.int 1)))) (nilA))))) (consA (binE ixD (varE 4) (varE 7)) (nilA))))))) (retS (cE (.bl false))) (passS)) (seqS (asgS (callE F_all_most (consA (varE 1) (consA (varE 8) (nilA)))) (nameT 9)) (seqS (asgS (callE tupleF (consA (lcE (iterE (varE 9)) (.nm 13) (yesB) (callE F__law_take (consA (varE 0) (consA (binE addD (callE minF (consA (varE 13) (consA (cE (.int 50)) (nilA)))) (cE (.int 1))) (nilA)))) [13]) (nilA))) (nameT 10)) (ifS (notB (tstE (callE F__law_same_v2 (consA (callE F_missed (consA (varE 1) (consA (varE 8) (consA (varE 10) (nilA))))) (consA (callE F__law_missed (consA (varE 1) (consA (varE 8) (consA (binE addD (varE 10) (tupE (consA (cE (.int 0)) (nilA)))) (nilA))))) (nilA)))))) (retS (cE (.bl false))) (passS))))))
theorem t6_eq : t_6 = forS (callI range1F (consA (callE lenF (consA (varE 3) (nilA))) (nilA))) (tgT (.nm 7)) tb_body7 := rfl
theorem purS_ints (l : List Int) (h : l.length ≤ 10000) : PurS 19 (tupI l) := by
  refine ⟨by rw [List.length_map]; exact h, fun x hx => ?_⟩
  obtain ⟨i, -, rfl⟩ := List.mem_map.mp hx
  trivial
theorem purS_bag (b : List P2) (h : b.length ≤ 10000) : PurS 19 (bagD b) := by
  refine ⟨by rw [List.length_map]; exact h, fun x hx => ?_⟩
  obtain ⟨p, -, rfl⟩ := List.mem_map.mp hx
  exact ⟨by simp, fun y hy => by
    simp only [List.mem_cons, List.not_mem_nil, or_false] at hy
    rcases hy with rfl | rfl <;> trivial⟩
def partD (M : Nat) (row : List P2) : D := tupI (missL M (gapsL row) 0)
section
variable {ts : List Int} {t0 : Int} {bs : List (List P2)}
theorem f_full_row_t (hT : Trk ts) (hs : ts.sum.natAbs < big) (h : RaceOk ts t0 bs) {r : Nat} (hr : r < bs.length) (st : Sto) : F_full_row [tupI ts, raceD t0 bs, .int r] st = .ok (bagD (fullL t0 bs[r])) st := by
  have e1 := f_check_track (st := st) hT
  have e2 := f_check_race (st := st) hT hs h
  have e3 := f_check_runner st (t0 := t0) hr
  have e4 := f_full_row_by st (t0 := t0) hr (h.bag _ (List.getElem_mem hr)).1
  generalize bagD (fullL t0 bs[r]) = bd at *
  generalize tupI ts = td at *
  generalize raceD t0 bs = rd at *
  have e5 : F_check_raced_races [td, rd, .int r] st = .ok .non st := by simp [F_check_raced_races, runF, B_check_raced_races, e1, e2, e3]
  simp [F_full_row, runF, B_full_row, e5, e4]
theorem zeros_mul {n : Nat} (h1 : 1 ≤ n) (h : n ≤ 100) (st : Sto) : mulD (.tup [.int 0]) (.int (n : Int)) st = .ok (tupI (List.replicate n 0)) st := mul_evenI st 0 h1 h
theorem f_rows (h : RaceOk ts t0 bs) (o0 o1 o3 o4 o5 o6 o8 o9 o10 o11 o12 o13 : Option D) (st : Sto) : lcF (.nm 7) yesB (callE F__law_full (consA (varE 2) (consA (varE 7) (nilA)))) [o0, o1, some (raceD t0 bs), o3, o4, o5, o6, none, o8, o9, o10, o11, o12, o13] (rangeD 0 bs.length) st [] = .ok ((rowsF t0 bs).map bagD) st := by
  have n6 := h.n6
  have e := lc_typed (t := .nm 7) (fe := callE F__law_full (consA (varE 2) (consA (varE 7) (nilA)))) (envw := [o0, o1, some (raceD t0 bs), o3, o4, o5, o6, none, o8, o9, o10, o11, o12, o13]) (st := st) (fun (i : Nat) => D.int (0 + i)) (fun i => bagD (fullL t0 (bs.getD i []))) (List.range bs.length) [] (by simp; omega) (by
    intro i hi
    have hi := List.mem_range.mp hi
    have f := w_full st (t0 := t0) hi (h.bag _ (List.getElem_mem hi)).1
    refine ⟨[o0, o1, some (raceD t0 bs), o3, o4, o5, o6, some (.int (0 + i)), o8, o9, o10, o11, o12, o13], by simp, ?_⟩
    rw [List.getD_eq_getElem?_getD, List.getElem?_eq_getElem hi, Option.getD_some, Int.zero_add]
    generalize bagD (fullL t0 bs[i]) = bd at *
    generalize raceD t0 bs = rd at *
    simp [f])
  rw [List.nil_append] at e
  rw [show (List.range bs.length).map (fun (i : Nat) => D.int (0 + i)) = rangeD 0 bs.length from rfl] at e
  rw [e]
  congr 1
  refine List.ext_getElem (by simp) fun i h1 h2 => ?_
  simp only [List.length_map, List.length_range] at h1
  simp [List.getD_eq_getElem?_getD, h1]
theorem f_parts (hT : Trk ts) (h : RaceOk ts t0 bs) (o0 o2 o3 o4 o5 o6 o7 o9 o10 o11 o12 o13 : Option D) (st : Sto) : ∃ ex, lcF (.nm 8) yesB (callE F__law_missed (consA (varE 1) (consA (varE 8) (consA (binE mulD (tupE (consA (cE (.int 0)) (nilA))) (callE lenF (consA (varE 8) (nilA)))) (nilA))))) [o0, some (tupI ts), o2, o3, o4, o5, o6, o7, none, o9, o10, o11, o12, o13] ((rowsF t0 bs).map bagD) st [] = .ok ((rowsF t0 bs).map (partD ts.length)) (st ++ ex) := by
  have n6 := h.n6
  obtain ⟨s', acc, e, ⟨ex, rfl⟩, rfl⟩ := lc_inv (t := .nm 8) (tt := yesB) (fe := callE F__law_missed (consA (varE 1) (consA (varE 8) (consA (binE mulD (tupE (consA (cE (.int 0)) (nilA))) (callE lenF (consA (varE 8) (nilA)))) (nilA))))) (envw := [o0, some (tupI ts), o2, o3, o4, o5, o6, o7, none, o9, o10, o11, o12, o13])
    (fun j s acc => (∃ ex, s = st ++ ex) ∧ acc = ((rowsF t0 bs).take j).map (partD ts.length)) ((rowsF t0 bs).map bagD) 0 st [] ⟨⟨[], by simp⟩, by simp⟩
    (by
      rintro j x s acc hx ⟨⟨ex, rfl⟩, rfl⟩
      rw [List.getElem?_map] at hx
      obtain ⟨row, hrow, rfl⟩ := Option.map_eq_some_iff.mp hx
      obtain ⟨b, hb, rfl⟩ := List.mem_map.mp (List.mem_of_getElem? hrow)
      have hro := h.row b hb
      have hl : (fullL t0 b).length = b.length + 1 := rfl
      have hn := hro.n
      have hj := (List.getElem?_eq_some_iff.mp hrow).1
      rw [List.length_map] at hj
      obtain ⟨ex2, e2⟩ := f_law_missed hT hro.ok.ok (by omega) (es := List.replicate (fullL t0 b).length 0) (by rw [List.length_replicate]; omega) (st ++ ex)
      rw [List.take_replicate, rep0_sum] at e2
      have mu := zeros_mul (n := (fullL t0 b).length) (by omega) (by omega) (st ++ ex)
      have ln : ∀ s2, lenF [bagD (fullL t0 b)] s2 = .ok (.int (fullL t0 b).length) s2 := fun s2 => by unfold bagD; rw [lenF_tup, List.length_map]
      refine ⟨st ++ ex ++ ex2, _, fun kk => ?_, ⟨ex ++ ex2, by simp⟩, rfl⟩
      rw [turnC_yes (y := partD ts.length (fullL t0 b)) (st' := st ++ ex ++ ex2) (env1 := [o0, some (tupI ts), o2, o3, o4, o5, o6, o7, some (bagD (fullL t0 b)), o9, o10, o11, o12, o13]) (by simp) (by
        show _ = R.ok (tupI (missL ts.length (gapsL (fullL t0 b)) 0)) _
        generalize tupI (missL ts.length (gapsL (fullL t0 b)) 0) = res at *
        generalize tupI (List.replicate (fullL t0 b).length 0) = zd at *
        generalize ((fullL t0 b).length : Int) = L at *
        generalize bagD (fullL t0 b) = bd at *
        generalize tupI ts = td at *
        generalize st ++ ex ++ ex2 = s2 at *
        generalize st ++ ex = s1 at *
        simp [ln, mu, e2]) (by simp; omega)]
      rw [Nat.zero_add, List.take_add_one, hrow]
      simp)
  rw [Nat.zero_add, List.length_map, List.take_length] at e
  exact ⟨ex, e⟩
theorem f_due (h8 : ts.length ≤ 8) (n6 : bs.length ≤ 6) (o0 o2 o3 o5 o6 o7 o8 o9 o10 o13 : Option D) (st : Sto) :
    lcF (.nm 11) yesB (callE sumF (consA (lcE (iterE (varE 4)) (.nm 12) (yesB) (binE ixD (varE 12) (varE 11)) [12]) (nilA))) [o0, some (tupI ts), o2, o3, some (.lst ((rowsF t0 bs).map (partD ts.length))), o5, o6, o7, o8, o9, o10, none, none, o13] (rangeD 0 ts.length) st [] = .ok ((dueL ts.length (rowsF t0 bs)).map D.int) st := by
  have lc2 := lc_typed (t := .nm 11) (fe := callE sumF (consA (lcE (iterE (varE 4)) (.nm 12) (yesB) (binE ixD (varE 12) (varE 11)) [12]) (nilA))) (envw := [o0, some (tupI ts), o2, o3, some (.lst ((rowsF t0 bs).map (partD ts.length))), o5, o6, o7, o8, o9, o10, none, none, o13]) (st := st) (fun (i : Nat) => D.int (0 + i)) (fun i => D.int ((rowsF t0 bs).map fun row => missF ts.length (gapsL row) 0 i).sum) (List.range ts.length) [] (by simp; omega) (by
    intro i hi
    have hi := List.mem_range.mp hi
    refine ⟨[o0, some (tupI ts), o2, o3, some (.lst ((rowsF t0 bs).map (partD ts.length))), o5, o6, o7, o8, o9, o10, some (.int (0 + (i : Int))), none, o13], by simp, ?_⟩
    have lc := lc_typed (t := .nm 12) (fe := binE ixD (varE 12) (varE 11)) (envw := [o0, some (tupI ts), o2, o3, some (.lst ((rowsF t0 bs).map (partD ts.length))), o5, o6, o7, o8, o9, o10, some (.int (0 + (i : Int))), none, o13]) (st := st) (partD ts.length) (fun row => D.int (missF ts.length (gapsL row) 0 i)) (rowsF t0 bs) [] (by simp; omega) (by
      intro row hrow
      refine ⟨[o0, some (tupI ts), o2, o3, some (.lst ((rowsF t0 bs).map (partD ts.length))), o5, o6, o7, o8, o9, o10, some (.int (0 + (i : Int))), some (partD ts.length row), o13], by simp, ?_⟩
      have ix : ixD (partD ts.length row) (.int (i : Int)) st = .ok (.int (missF ts.length (gapsL row) 0 i)) st := by
        unfold partD tupI
        refine ixD_tup _ _ _ ?_
        rw [atI_nat' _ i (by rw [List.length_map, miss_len]; exact hi)]
        simp [missL]
      rw [Int.zero_add]
      generalize partD ts.length row = pd at *
      generalize D.lst ((rowsF t0 bs).map (partD ts.length)) = ld at *
      simp [ix])
    rw [List.nil_append, show (rowsF t0 bs).map (fun row => D.int (missF ts.length (gapsL row) 0 i)) = ((rowsF t0 bs).map fun row => missF ts.length (gapsL row) 0 i).map D.int by simp only [List.map_map]; rfl] at lc
    have it : iterD (.lst ((rowsF t0 bs).map (partD ts.length))) st = .ok (.frz ((rowsF t0 bs).map (partD ts.length))) st := rfl
    have q2 := sum_ints st ((rowsF t0 bs).map fun row => missF ts.length (gapsL row) 0 i)
    generalize ((rowsF t0 bs).map fun row => missF ts.length (gapsL row) 0 i).sum = sm at *
    generalize ((rowsF t0 bs).map fun row => missF ts.length (gapsL row) 0 i).map D.int = fl at *
    generalize (0 + (i : Int)) = ii at *
    generalize (rowsF t0 bs).map (partD ts.length) = ld at *
    simp [-lcE_eq, lcE, lcL, iterE, it, wipeE, lc, R.bind, q2])
  rw [List.nil_append, show (List.range ts.length).map (fun (i : Nat) => D.int (0 + i)) = rangeD 0 ts.length from rfl] at lc2
  rw [lc2]
  congr 1
  unfold dueL
  rw [List.map_map]; rfl
theorem f_counts (hT : Trk ts) (hs : ts.sum.natAbs < big) (h : RaceOk ts t0 bs) (o0 o3 o4 o6 o7 o8 o9 o10 o12 o13 : Option D) (st : Sto) :
    ∃ ex, lcF (.nm 11) yesB (binE eqD (callE lenF (consA (callE F_windows_v2 (consA (varE 1) (consA (varE 2) (consA (varE 11) (nilA))))) (nilA))) (binE ixD (varE 5) (varE 11))) [o0, some (tupI ts), some (raceD t0 bs), o3, o4, some (tupI (dueL ts.length (rowsF t0 bs))), o6, o7, o8, o9, o10, none, o12, o13] (rangeD 0 ts.length) st [] = .ok (List.replicate ts.length (.bl true)) (st ++ ex) := by
  have h8 := hT.le
  obtain ⟨s', acc, e, ⟨ex, rfl⟩, rfl⟩ := lc_inv (t := .nm 11) (tt := yesB) (fe := binE eqD (callE lenF (consA (callE F_windows_v2 (consA (varE 1) (consA (varE 2) (consA (varE 11) (nilA))))) (nilA))) (binE ixD (varE 5) (varE 11))) (envw := [o0, some (tupI ts), some (raceD t0 bs), o3, o4, some (tupI (dueL ts.length (rowsF t0 bs))), o6, o7, o8, o9, o10, none, o12, o13])
    (fun j s acc => (∃ ex, s = st ++ ex) ∧ acc = List.replicate j (D.bl true)) (rangeD 0 ts.length) 0 st [] ⟨⟨[], by simp⟩, rfl⟩
    (by
      rintro j x s acc hx ⟨⟨ex, rfl⟩, rfl⟩
      obtain ⟨rfl, hj⟩ := range_get hx
      obtain ⟨ex2, e2⟩ := t_windows hT hs h hj (st ++ ex)
      have ct := winR_count hj (rowsF t0 bs) 0 fun row hr p hp => by
        obtain ⟨b, hb, rfl⟩ := List.mem_map.mp hr
        exact (h.row b hb).ok.ok p hp
      have ln : ∀ s2, lenF [.tup ((winR ts j 0 (rowsF t0 bs)).map winD)] s2 = .ok (.int (winR ts j 0 (rowsF t0 bs)).length) s2 := fun s2 => by rw [lenF_tup, List.length_map]
      have ix : ∀ s2, ixD (tupI (dueL ts.length (rowsF t0 bs))) (.int (j : Int)) s2 = .ok (.int (winR ts j 0 (rowsF t0 bs)).length) s2 := fun s2 => by
        unfold tupI
        refine ixD_tup _ _ _ ?_
        rw [atI_nat' _ j (by rw [List.length_map]; unfold dueL; simpa using hj), ct]
        simp [dueL]
      have eq : ∀ (v : Int) s2, eqD (.int v) (.int v) s2 = .ok (.bl true) s2 := fun v s2 => by simp
      refine ⟨st ++ ex ++ ex2, List.replicate (j + 1) (.bl true), fun kk => ?_, ⟨ex ++ ex2, by simp⟩, by rw [Nat.zero_add]⟩
      have e2 : F_windows_v2 [tupI ts, raceD t0 bs, .int (j : Int)] (st ++ ex) = .ok (.tup ((winR ts j 0 (rowsF t0 bs)).map winD)) (st ++ ex ++ ex2) := by rw [windows_v2]; exact e2
      rw [turnC_yes (y := .bl true) (st' := st ++ ex ++ ex2) (env1 := [o0, some (tupI ts), some (raceD t0 bs), o3, o4, some (tupI (dueL ts.length (rowsF t0 bs))), o6, o7, o8, o9, o10, some (.int (0 + j)), o12, o13]) (by simp) (by
        rw [Int.zero_add]
        generalize D.tup ((winR ts j 0 (rowsF t0 bs)).map winD) = wd at *
        generalize ((winR ts j 0 (rowsF t0 bs)).length : Int) = wl at *
        generalize tupI (dueL ts.length (rowsF t0 bs)) = dd at *
        generalize tupI ts = td at *
        generalize raceD t0 bs = rd at *
        generalize st ++ ex ++ ex2 = s2 at *
        generalize st ++ ex = s1 at *
        generalize (j : Int) = ji at *
        simp [e2, ln, ix, eq]) (by simp; omega)]
      rw [Nat.zero_add, List.replicate_succ'])
  rw [Nat.zero_add, rangeD_length] at e
  exact ⟨ex, e⟩
end
end Lap
namespace Lap
open PySem G
theorem fit_of {ts : List Int} {row : List P2} {es : List Int} (hl : es.length = (extrasI ts row).length) (h : ∀ i (h1 : i < es.length), 0 ≤ es[i] ∧ es[i] ≤ (extrasI ts row)[i]'(by omega)) : fitB (extrasI ts row) (tupI es) = true := by
  show (decide ((es.map D.int).length = (extrasI ts row).length) && ((es.map D.int).zip (extrasI ts row)).all fun g => upB g.1 g.2) = true
  rw [decide_eq_true (by rw [List.length_map]; exact hl), Bool.true_and, List.all_eq_true]
  intro g hg
  obtain ⟨i, hi, e⟩ := List.mem_iff_getElem.mp hg
  rw [List.length_zip, List.length_map] at hi
  rw [List.getElem_zip, List.getElem_map] at e
  subst e
  have := h i (by omega)
  exact decide_eq_true this
section
variable {ts : List Int} {t0 : Int} {bs : List (List P2)} {p : Nat}
theorem extras_nn (hT : Trk ts) {row : List P2} (hr : RowOk ts row) {i : Nat} (hi : i < (extrasI ts row).length) : 0 ≤ (extrasI ts row)[i] := by
  have hi2 : i + 1 < row.length := by rw [extras_len] at hi; omega
  have e : (extrasI ts row)[i] = extraI ts row[i] row[i + 1] := by simp [extrasI, gaps_get row i hi2]
  rw [e]
  exact extra_nn hT (List.pairwise_iff_getElem.mp hr.row i (i + 1) (by omega) hi2 (by omega))
theorem f_extras (hT : Trk ts) {row : List P2} (hr : RowOk ts row) (hl : row.length ≤ 100) {st : Sto} (hp : Pool p st) (o1 o2 o3 o4 o5 o6 o7 o8 o9 o10 o11 o12 : Option D) :
    ∃ es st', lcF (.nm 13) yesB (callE F__law_take (consA (varE 0) (consA (binE addD (callE minF (consA (varE 13) (consA (cE (.int 50)) (nilA)))) (cE (.int 1))) (nilA)))) [some (.mut p), o1, o2, o3, o4, o5, o6, o7, o8, o9, o10, o11, o12, none] ((extrasI ts row).map D.int) st [] = .ok (es.map D.int) st' ∧ Pool p st' ∧ es.length = (extrasI ts row).length ∧ fitB (extrasI ts row) (tupI es) = true := by
  obtain ⟨s', acc, e, es, rfl, hp', hl', hf⟩ := lc_inv (t := .nm 13) (tt := yesB) (fe := callE F__law_take (consA (varE 0) (consA (binE addD (callE minF (consA (varE 13) (consA (cE (.int 50)) (nilA)))) (cE (.int 1))) (nilA)))) (envw := [some (.mut p), o1, o2, o3, o4, o5, o6, o7, o8, o9, o10, o11, o12, none])
    (fun j s acc => ∃ es : List Int, acc = es.map D.int ∧ Pool p s ∧ es.length = j ∧ ∀ i (h1 : i < es.length) (h2 : i < (extrasI ts row).length), 0 ≤ es[i] ∧ es[i] ≤ (extrasI ts row)[i]) ((extrasI ts row).map D.int) 0 st [] ⟨[], rfl, hp, rfl, by simp⟩
    (by
      rintro j x s acc hx ⟨es, rfl, hp, hl', hf⟩
      rw [List.getElem?_map] at hx
      obtain ⟨v, hv, rfl⟩ := Option.map_eq_some_iff.mp hx
      obtain ⟨hj, hv⟩ := List.getElem?_eq_some_iff.mp hv
      have v0 := extras_nn hT hr hj
      have hjl : j < row.length := by rw [extras_len] at hj; omega
      rw [hv] at v0
      obtain ⟨w, s2, e2, w0, w1, hp2, -⟩ := w_below (m := (if (50 : Int) < v then 50 else v) + 1) hp (by split <;> omega) (by split <;> omega)
      have wv : w ≤ v := by
        revert w1
        split <;> omega
      refine ⟨s2, (es ++ [w]).map D.int, fun kk => ?_, es ++ [w], rfl, hp2, by simp [hl'], fun i h1 h2 => ?_⟩
      · rw [turnC_yes (y := .int w) (st' := s2) (env1 := [some (.mut p), o1, o2, o3, o4, o5, o6, o7, o8, o9, o10, o11, o12, some (.int v)]) (by simp) (by
          have m : minF [.int v, .int 50] s = .ok (.int (if (50 : Int) < v then 50 else v)) s := rfl
          generalize (if (50 : Int) < v then 50 else v) = mv at *
          simp [-minF_int, m, e2]) (by simp; omega)]
        simp
      · rw [List.length_append, List.length_singleton] at h1
        by_cases c : i < es.length
        · rw [List.getElem_append_left c]
          exact hf i c h2
        · have : i = j := by omega
          rw [Nat.zero_add] at hl'
          subst this
          subst hl'
          rw [List.getElem_append_right (Nat.le_refl _)]
          simp only [Nat.sub_self, List.getElem_singleton]
          exact ⟨w0, by rw [hv]; exact wv⟩)
  rw [Nat.zero_add, List.length_map] at hl'
  exact ⟨es, s', e, hp', hl', fit_of hl' fun i h1 => hf i h1 (by omega)⟩
theorem zeros0 {n : Nat} (h : n ≤ 100) (st : Sto) : mulD (.tup [.int 0]) (.int (n : Int)) st = .ok (tupI (List.replicate n 0)) st := by
  by_cases c : 1 ≤ n
  · exact zeros_mul c h st
  · have : n = 0 := by omega
    subst this; rfl
theorem ix_lstN {α : Type} (f : α → D) (xs : List α) {i : Nat} (h : i < xs.length) (st : Sto) : ixD (.lst (xs.map f)) (.int (i : Int)) st = .ok (f xs[i]) st := by
  refine ixD_lst _ _ _ ?_
  rw [atI_nat' _ i (by rw [List.length_map]; exact h)]
  simp
theorem f_runner (hT : Trk ts) (hs : ts.sum.natAbs < big) (h : RaceOk ts t0 bs) (h6 : ∀ b ∈ bs, b.length ≤ 6) {r : Nat} (hr : r < bs.length) {st : Sto} (hp : Pool p st) (o5 o6 o8 o9 o10 o11 o12 : Option D) :
    ∃ o8' o9' o10' st', tb_body7 [some (.mut p), some (tupI ts), some (raceD t0 bs), some (.lst ((rowsF t0 bs).map bagD)), some (.lst ((rowsF t0 bs).map (partD ts.length))), o5, o6, some (.int r), o8, o9, o10, o11, o12, none] st = .nx [some (.mut p), some (tupI ts), some (raceD t0 bs), some (.lst ((rowsF t0 bs).map bagD)), some (.lst ((rowsF t0 bs).map (partD ts.length))), o5, o6, some (.int r), o8', o9', o10', o11, o12, none] st' ∧ Pool p st' := by
  have hro := h.row _ (List.getElem_mem hr)
  have hb6 := h6 _ (List.getElem_mem hr)
  have hlen : (fullL t0 bs[r]).length = bs[r].length + 1 := rfl
  have hbag := hro.ok.bag hT (by omega)
  have el : (extrasI ts (fullL t0 bs[r])).length = bs[r].length := by rw [extras_len]; rfl
  have ff := f_full_row_t hT hs h hr st
  have hg : (rowsF t0 bs)[r]'(by rw [List.length_map]; exact hr) = fullL t0 bs[r] := by rw [List.getElem_map]
  have i3 : ∀ s, ixD (.lst ((rowsF t0 bs).map bagD)) (.int (r : Int)) s = .ok (bagD (fullL t0 bs[r])) s := fun s => by
    have := ix_lstN bagD (rowsF t0 bs) (i := r) (by rw [List.length_map]; exact hr) s
    rw [hg] at this
    exact this
  have i4 : ∀ s, ixD (.lst ((rowsF t0 bs).map (partD ts.length))) (.int (r : Int)) s = .ok (tupI (missL ts.length (gapsL (fullL t0 bs[r])) 0)) s := fun s => by
    have := ix_lstN (partD ts.length) (rowsF t0 bs) (i := r) (by rw [List.length_map]; exact hr) s
    rw [hg] at this
    exact this
  have ln : ∀ s2, lenF [bagD (fullL t0 bs[r])] s2 = .ok (.int (fullL t0 bs[r]).length) s2 := fun s2 => by unfold bagD; rw [lenF_tup, List.length_map]
  have ln1 : ((fullL t0 bs[r]).length : Int) - 1 = (bs[r].length : Int) := by rw [hlen]; push_cast; omega
  have zr := zeros0 (n := bs[r].length) (by omega)
  obtain ⟨s1, e1, k1, l1⟩ := f_missed (st := st) hT hs hbag hro.ok.row (List.replicate bs[r].length 0) (fit_of (by rw [List.length_replicate, el]) fun i h1 => by
    rw [List.getElem_replicate]
    exact ⟨Int.le_refl _, extras_nn hT hro.ok _⟩)
  rw [rep0_sum] at e1
  have hp1 : Pool p s1 := pool_keep hp fun i hi => k1 i hi
  have sm1 := fun s => w_same (bagD (fullL t0 bs[r])) s (purS_bag _ (by omega))
  have h8 := hT.le
  have sm2 := fun v s => w_same (tupI (missL ts.length (gapsL (fullL t0 bs[r])) v)) s (purS_ints _ (by rw [miss_len]; omega))
  have am := f_all_most (st := s1) hT hs hbag hro.ok.row
  obtain ⟨es, s2, e2, hp2, hel, hfit⟩ := f_extras hT hro.ok (by omega) hp1 (some (tupI ts)) (some (raceD t0 bs)) (some (.lst ((rowsF t0 bs).map bagD))) (some (.lst ((rowsF t0 bs).map (partD ts.length)))) o5 o6 (some (.int r)) (some (bagD (fullL t0 bs[r]))) (some (tupI (extrasI ts (fullL t0 bs[r])))) o10 o11 o12
  obtain ⟨s3, e3, k3, l3⟩ := f_missed (st := s2) hT hs hbag hro.ok.row es hfit
  obtain ⟨ex, e4⟩ := f_law_missed hT hro.ok.ok (by omega) (es := es ++ [0]) (by rw [List.length_append, hel, el, hlen]; simp) s3
  have tk : (es ++ [0]).take ((fullL t0 bs[r]).length - 1) = es := by
    rw [List.take_append_of_le_length (by rw [hel, el, hlen]; omega), List.take_of_length_le (by rw [hel, el, hlen]; omega)]
  rw [tk] at e4
  have ad : ∀ s, addD (tupI es) (.tup [.int 0]) s = .ok (tupI (es ++ [0])) s := fun s => by
    have := add_tup (es.map D.int) [.int 0] s (by rw [List.length_map, hel, el]; simp; omega)
    unfold tupI
    rw [List.map_append]
    exact this
  have it : ∀ s, iterD (tupI (extrasI ts (fullL t0 bs[r]))) s = .ok (.frz ((extrasI ts (fullL t0 bs[r])).map D.int)) s := fun _ => rfl
  have tf : ∀ s, tupleF [.lst (es.map D.int)] s = .ok (tupI es) s := fun _ => rfl
  refine ⟨some (bagD (fullL t0 bs[r])), some (tupI (extrasI ts (fullL t0 bs[r]))), some (tupI es), s3 ++ ex, ?_, pool_app (pool_keep hp2 fun i hi => k3 i hi) ex⟩
  unfold tb_body7
  clear hp1 hp2 hp k1 k3 hfit hel tk hg el hbag hro
  have sm0 := sm2 0 s1
  have sm3 := sm2 es.sum (s3 ++ ex)
  clear sm2
  generalize tupI (missL ts.length (gapsL (fullL t0 bs[r])) 0) = d0 at *
  generalize tupI (missL ts.length (gapsL (fullL t0 bs[r])) es.sum) = d1 at *
  generalize (extrasI ts (fullL t0 bs[r])).map D.int = xl at *
  generalize tupI (extrasI ts (fullL t0 bs[r])) = xd at *
  generalize bagD (fullL t0 bs[r]) = bd at *
  generalize ((fullL t0 bs[r]).length : Int) = L1 at *
  generalize (bs[r].length : Int) = L0 at *
  generalize tupI (List.replicate bs[r].length 0) = zd at *
  generalize tupI (es ++ [0]) = ed0 at *
  generalize tupI es = ed at *
  generalize es.map D.int = el at *
  generalize D.lst ((rowsF t0 bs).map bagD) = rl at *
  generalize D.lst ((rowsF t0 bs).map (partD ts.length)) = pl at *
  generalize tupI ts = td at *
  generalize raceD t0 bs = rd at *
  generalize (r : Int) = ri at *
  generalize s3 ++ ex = s4 at *
  simp [-lcE_eq, ff, i3, i4, sm1, ln, ln1, zr, e1, sm0, am, lcE, lcL, iterE, it, wipeE, e2, R.bind, tf, e3, ad, e4, sm3]
theorem f_is_told5 (hT : Trk ts) (hs : ts.sum.natAbs < big) (h : RaceOk ts t0 bs) (h6 : ∀ b ∈ bs, b.length ≤ 6) {st : Sto} (hp : Pool p st) :
    ∃ st', F__law_is_told_v5 [.mut p, tupI ts, raceD t0 bs] st = .ok (.bl true) st' ∧ Pool p st' := by
  have h8 := hT.le
  have n6 := h.n6
  have x1 := ix_race1 st t0 bs
  have ll : lenF [.tup (bs.map bagD)] st = .ok (.int bs.length) st := by rw [lenF_tup, List.length_map]
  have rgb : ∀ s, range1F [.int (bs.length : Nat)] s = .ok (.frz (rangeD 0 bs.length)) s := fun s => by
    have : bs.length < 4611686018427387904 := by omega
    simp [this]
  have lt : ∀ s, lenF [tupI ts] s = .ok (.int ts.length) s := fun s => lenF_tupI ..
  have rgt : ∀ s, range1F [.int (ts.length : Nat)] s = .ok (.frz (rangeD 0 ts.length)) s := fun s => by
    have : ts.length < 4611686018427387904 := by omega
    simp [this]
  have it : ∀ l s, iterD (.lst l) s = .ok (.frz l) s := fun _ _ => rfl
  have q1 : t_1 [some (.mut p), some (tupI ts), some (raceD t0 bs), none, none, none, none, none, none, none, none, none, none, none] st = .nx [some (.mut p), some (tupI ts), some (raceD t0 bs), some (.lst ((rowsF t0 bs).map bagD)), none, none, none, none, none, none, none, none, none, none] st := by
    have e := f_rows h (some (.mut p)) (some (tupI ts)) none none none none none none none none none none st
    unfold t_1
    generalize rangeD 0 bs.length = rr at *
    generalize (bs.length : Int) = L at *
    generalize (rowsF t0 bs).map bagD = rl at *
    generalize D.tup (bs.map bagD) = bd at *
    generalize raceD t0 bs = rd at *
    generalize tupI ts = td at *
    simp [-range1F_eq, -lcE_eq, lcE, lcL, x1, ll, rgb, wipeE, e, R.bind]
  obtain ⟨ex1, e2⟩ := f_parts hT h (some (.mut p)) (some (raceD t0 bs)) (some (.lst ((rowsF t0 bs).map bagD))) none none none none none none none none none st
  have q2 : t_2 [some (.mut p), some (tupI ts), some (raceD t0 bs), some (.lst ((rowsF t0 bs).map bagD)), none, none, none, none, none, none, none, none, none, none] st = .nx [some (.mut p), some (tupI ts), some (raceD t0 bs), some (.lst ((rowsF t0 bs).map bagD)), some (.lst ((rowsF t0 bs).map (partD ts.length))), none, none, none, none, none, none, none, none, none] (st ++ ex1) := by
    unfold t_2
    generalize (rowsF t0 bs).map (partD ts.length) = pl at *
    generalize (rowsF t0 bs).map bagD = rl at *
    generalize raceD t0 bs = rd at *
    generalize tupI ts = td at *
    generalize st ++ ex1 = s1 at *
    simp [-lcE_eq, lcE, lcL, iterE, it, wipeE, e2, R.bind]
  have e3 := f_due (t0 := t0) h8 n6 (some (.mut p)) (some (raceD t0 bs)) (some (.lst ((rowsF t0 bs).map bagD))) none none none none none none none (st ++ ex1)
  have q3 : t_3 [some (.mut p), some (tupI ts), some (raceD t0 bs), some (.lst ((rowsF t0 bs).map bagD)), some (.lst ((rowsF t0 bs).map (partD ts.length))), none, none, none, none, none, none, none, none, none] (st ++ ex1) = .nx [some (.mut p), some (tupI ts), some (raceD t0 bs), some (.lst ((rowsF t0 bs).map bagD)), some (.lst ((rowsF t0 bs).map (partD ts.length))), some (tupI (dueL ts.length (rowsF t0 bs))), none, none, none, none, none, none, none, none] (st ++ ex1) := by
    have tf : ∀ s, tupleF [.lst ((dueL ts.length (rowsF t0 bs)).map D.int)] s = .ok (tupI (dueL ts.length (rowsF t0 bs))) s := fun _ => rfl
    unfold t_3
    generalize tupI (dueL ts.length (rowsF t0 bs)) = dd at *
    generalize (dueL ts.length (rowsF t0 bs)).map D.int = dl at *
    generalize rangeD 0 ts.length = rr at *
    generalize (ts.length : Int) = L at *
    generalize D.lst ((rowsF t0 bs).map (partD ts.length)) = pl at *
    generalize D.lst ((rowsF t0 bs).map bagD) = rl at *
    generalize raceD t0 bs = rd at *
    generalize tupI ts = td at *
    generalize st ++ ex1 = s1 at *
    generalize hf : callE sumF (consA (lcE (iterE (varE 4)) (.nm 12) (yesB) (binE ixD (varE 12) (varE 11)) [12]) (nilA)) = fe at *
    simp [-range1F_eq, -lcE_eq, lcE, lcL, lt, rgt, wipeE, e3, R.bind, tf]
  have hp1 := pool_app hp ex1
  obtain ⟨v, s2, e4, v0, v1, hp2, -⟩ := w_below (m := 2) hp1 (by omega) (by omega)
  obtain ⟨s3, e5, k5, l5⟩ := t_least_val hT hs h s2
  have hp3 : Pool p s3 := pool_keep hp2 fun i hi => k5 i hi
  have q4 : t_4 [some (.mut p), some (tupI ts), some (raceD t0 bs), some (.lst ((rowsF t0 bs).map bagD)), some (.lst ((rowsF t0 bs).map (partD ts.length))), some (tupI (dueL ts.length (rowsF t0 bs))), none, none, none, none, none, none, none, none] (st ++ ex1) = .nx [some (.mut p), some (tupI ts), some (raceD t0 bs), some (.lst ((rowsF t0 bs).map bagD)), some (.lst ((rowsF t0 bs).map (partD ts.length))), some (tupI (dueL ts.length (rowsF t0 bs))), some (tupI (dueL ts.length (rowsF t0 bs))), none, none, none, none, none, none, none] s3 := by
    unfold t_4
    rw [least_v2]
    clear q1 q2 q3 e2 e3
    generalize tupI (dueL ts.length (rowsF t0 bs)) = dd at *
    generalize D.lst ((rowsF t0 bs).map (partD ts.length)) = pl at *
    generalize D.lst ((rowsF t0 bs).map bagD) = rl at *
    generalize raceD t0 bs = rd at *
    generalize tupI ts = td at *
    generalize st ++ ex1 = s1 at *
    by_cases c : v = 0
    · subst c
      simp [e4, e5]
    · have pk : pick [] [td, rd] [1, 0] = [rd, td] := rfl
      have pk2 : pick [] [rd, td] [1, 0] = [td, rd] := rfl
      simp [e4, c, pk2, e5]
  obtain ⟨ex4, e6⟩ := f_counts hT hs h (some (.mut p)) (some (.lst ((rowsF t0 bs).map bagD))) (some (.lst ((rowsF t0 bs).map (partD ts.length)))) (some (tupI (dueL ts.length (rowsF t0 bs)))) none none none none none none s3
  have q5 : t_5 [some (.mut p), some (tupI ts), some (raceD t0 bs), some (.lst ((rowsF t0 bs).map bagD)), some (.lst ((rowsF t0 bs).map (partD ts.length))), some (tupI (dueL ts.length (rowsF t0 bs))), some (tupI (dueL ts.length (rowsF t0 bs))), none, none, none, none, none, none, none] s3 = .nx [some (.mut p), some (tupI ts), some (raceD t0 bs), some (.lst ((rowsF t0 bs).map bagD)), some (.lst ((rowsF t0 bs).map (partD ts.length))), some (tupI (dueL ts.length (rowsF t0 bs))), some (tupI (dueL ts.length (rowsF t0 bs))), none, none, none, none, none, none, none] (s3 ++ ex4) := by
    have sm := w_same (tupI (dueL ts.length (rowsF t0 bs))) s3 (purS_ints _ (by unfold dueL; simp; omega))
    have al := all_trues ts.length (s3 ++ ex4)
    unfold t_5
    clear q1 q2 q3 q4 e2 e3 e5
    generalize List.replicate ts.length (D.bl true) = tl at *
    generalize tupI (dueL ts.length (rowsF t0 bs)) = dd at *
    generalize rangeD 0 ts.length = rr at *
    generalize (ts.length : Int) = L at *
    generalize D.lst ((rowsF t0 bs).map (partD ts.length)) = pl at *
    generalize D.lst ((rowsF t0 bs).map bagD) = rl at *
    generalize raceD t0 bs = rd at *
    generalize tupI ts = td at *
    generalize s3 ++ ex4 = s4 at *
    generalize hf : binE eqD (callE lenF (consA (callE F_windows_v2 (consA (varE 1) (consA (varE 2) (consA (varE 11) (nilA))))) (nilA))) (binE ixD (varE 5) (varE 11)) = fe at *
    simp [-range1F_eq, -lcE_eq, sm, lcE, lcL, lt, rgt, wipeE, e6, R.bind, al]
  have hp4 := pool_app hp3 ex4
  obtain ⟨env', s5, e7, ⟨o7, o8, o9, o10, rfl⟩, hp5⟩ := loop_nx (g := tgT (.nm 7)) (body := tb_body7)
    (fun j env s => (∃ o7 o8 o9 o10 : Option D, env = [some (.mut p), some (tupI ts), some (raceD t0 bs), some (.lst ((rowsF t0 bs).map bagD)), some (.lst ((rowsF t0 bs).map (partD ts.length))), some (tupI (dueL ts.length (rowsF t0 bs))), some (tupI (dueL ts.length (rowsF t0 bs))), o7, o8, o9, o10, none, none, none]) ∧ Pool p s)
    (xs := rangeD 0 bs.length) (env := [some (.mut p), some (tupI ts), some (raceD t0 bs), some (.lst ((rowsF t0 bs).map bagD)), some (.lst ((rowsF t0 bs).map (partD ts.length))), some (tupI (dueL ts.length (rowsF t0 bs))), some (tupI (dueL ts.length (rowsF t0 bs))), none, none, none, none, none, none, none]) (st := s3 ++ ex4) ⟨⟨none, none, none, none, rfl⟩, hp4⟩
    (by
      rintro j x env s hx ⟨⟨o7, o8, o9, o10, rfl⟩, hp⟩
      obtain ⟨rfl, hj⟩ := range_get hx
      obtain ⟨o8', o9', o10', s', e, hp'⟩ := f_runner hT hs h h6 hj hp (some (tupI (dueL ts.length (rowsF t0 bs)))) (some (tupI (dueL ts.length (rowsF t0 bs)))) o8 o9 o10 none none
      refine ⟨_, s', ?_, ⟨some (.int (j : Nat)), o8', o9', o10', rfl⟩, hp'⟩
      rw [Int.zero_add]
      generalize tb_body7 = b7 at *
      generalize tupI (dueL ts.length (rowsF t0 bs)) = dd at *
      generalize D.lst ((rowsF t0 bs).map (partD ts.length)) = pl at *
      generalize D.lst ((rowsF t0 bs).map bagD) = rl at *
      generalize raceD t0 bs = rd at *
      generalize tupI ts = td at *
      generalize (j : Int) = ji at *
      simp [e])
  have q6 : t_6 [some (.mut p), some (tupI ts), some (raceD t0 bs), some (.lst ((rowsF t0 bs).map bagD)), some (.lst ((rowsF t0 bs).map (partD ts.length))), some (tupI (dueL ts.length (rowsF t0 bs))), some (tupI (dueL ts.length (rowsF t0 bs))), none, none, none, none, none, none, none] (s3 ++ ex4) = .nx [some (.mut p), some (tupI ts), some (raceD t0 bs), some (.lst ((rowsF t0 bs).map bagD)), some (.lst ((rowsF t0 bs).map (partD ts.length))), some (tupI (dueL ts.length (rowsF t0 bs))), some (tupI (dueL ts.length (rowsF t0 bs))), o7, o8, o9, o10, none, none, none] s5 := by
    have lr : ∀ s, lenF [.lst ((rowsF t0 bs).map bagD)] s = .ok (.int bs.length) s := fun s => by rw [lenF_lst, List.length_map, List.length_map]
    rw [t6_eq]
    clear q1 q2 q3 q4 q5 e2 e3 e5 e6
    generalize tb_body7 = b7 at *
    generalize rangeD 0 bs.length = rr at *
    generalize (bs.length : Int) = L at *
    generalize tupI (dueL ts.length (rowsF t0 bs)) = dd at *
    generalize D.lst ((rowsF t0 bs).map (partD ts.length)) = pl at *
    generalize D.lst ((rowsF t0 bs).map bagD) = rl at *
    generalize raceD t0 bs = rd at *
    generalize tupI ts = td at *
    generalize s3 ++ ex4 = s4 at *
    simp [-range1F_eq, lr, rgb, e7]
  refine ⟨s5, ?_, hp5⟩
  unfold F__law_is_told_v5
  rw [t_eq]
  clear e2 e3 e4 e5 e6 e7
  unfold t_7
  generalize t_1 = c1 at *
  generalize t_2 = c2 at *
  generalize t_3 = c3 at *
  generalize t_4 = c4 at *
  generalize t_5 = c5 at *
  generalize t_6 = c6 at *
  generalize tupI (dueL ts.length (rowsF t0 bs)) = dd at *
  generalize D.lst ((rowsF t0 bs).map (partD ts.length)) = pl at *
  generalize D.lst ((rowsF t0 bs).map bagD) = rl at *
  generalize raceD t0 bs = rd at *
  generalize tupI ts = td at *
  generalize s3 ++ ex4 = s4 at *
  generalize st ++ ex1 = s1 at *
  simp [runF, q1, q2, q3, q4, q5, q6]
theorem f_right7 {p : Nat} {st : Sto} (hp : Pool p st) : ∃ st', F__law_right_v7 [.mut p] st = .ok (.bl true) st' ∧ Pool p st' := by
  have hbg := big_ge
  obtain ⟨env', s', e, ⟨o1, o2, rfl⟩, hp'⟩ := loop_nx (g := tgT (.nm 1)) (body := seqS (asgS (callE F__law_track (consA (varE 0) (nilA))) (nameT 2)) (ifS (notB (tstE (callE F__law_is_told_v5 (consA (varE 0) (consA (varE 2) (consA (callE F__law_race (consA (varE 0) (consA (varE 2) (consA (cE (.int 6)) (nilA))))) (nilA))))))) (retS (cE (.bl false))) (passS)))
    (fun j env s => (∃ o1 o2 : Option D, env = [some (.mut p), o1, o2]) ∧ Pool p s)
    (xs := rangeD 0 12) (env := [some (.mut p), none, none]) (st := st) ⟨⟨none, none, rfl⟩, hp⟩
    (by
      rintro j x env s hx ⟨⟨o1, o2, rfl⟩, hp⟩
      obtain ⟨rfl, hj⟩ := range_get hx
      obtain ⟨ts, s1, e1, hT, hp1, -⟩ := w_track hp
      obtain ⟨t0, bs, s2, e2, hp2, hR, h4⟩ := w_race hT hp1 6 (by omega)
      have hss := hT.s
      have hsp := hT.p
      have hs : ts.sum.natAbs < big := by omega
      obtain ⟨s3, e3, hp3⟩ := f_is_told5 hT.t hs hR.ok (fun b hb => hR.len b hb) hp2
      refine ⟨[some (.mut p), some (.int (0 + j)), some (tupI ts)], s3, ?_, ⟨some (.int (0 + j)), some (tupI ts), rfl⟩, hp3⟩
      have e2 : F__law_race [.mut p, tupI ts, .int 6] s1 = .ok (raceD t0 bs) s2 := e2
      generalize tupI ts = td at *
      generalize raceD t0 bs = rd at *
      simp [e1, e2, e3])
  refine ⟨s', ?_, hp'⟩
  unfold F__law_right_v7 B__law_right_v7
  generalize hB : (seqS (asgS (callE F__law_track (consA (varE 0) (nilA))) (nameT 2)) (ifS (notB (tstE (callE F__law_is_told_v5 (consA (varE 0) (consA (varE 2) (consA (callE F__law_race (consA (varE 0) (consA (varE 2) (consA (cE (.int 6)) (nilA))))) (nilA))))))) (retS (cE (.bl false))) (passS))) = b1 at *
  simp [runF, e]
end
end Lap
namespace Lap
open PySem G
def fa_1 : SvS := asgS (varE 1) (tupT 2 (consT (nameT 2) (consT (nameT 3) (nilT))))
def fa_2 : SvS := asgS (callE F__law_take (consA (varE 0) (consA (callE lenF (consA (varE 3) (nilA))) (nilA)))) (nameT 4)
def fa_3 : SvS := ifS (orB (tstE (binE eqD (binE ixD (varE 3) (varE 4)) (tupE (nilA)))) (tstE (binE gtD (callE F__law_take (consA (varE 0) (consA (cE (.int 3)) (nilA)))) (cE (.int 0))))) (retS (varE 1)) (passS)
def fa_4 : SvS := asgS (binE ixD (binE ixD (varE 3) (varE 4)) (unE negD (cE (.int 1)))) (tupT 2 (consT (nameT 5) (consT (nameT 6) (nilT))))
def fa_5 : SvS := retS (tupE (consA (varE 2) (consA (binE addD (binE addD (sliceE (varE 3) (noO) (someO (varE 4))) (tupE (consA (binE addD (sliceE (binE ixD (varE 3) (varE 4)) (noO) (someO (unE negD (cE (.int 1))))) (tupE (consA (tupE (consA (binE addD (binE addD (varE 5) (binE powD (cE (.int 10)) (cE (.int 29)))) (callE F__law_take (consA (varE 0) (consA (cE (.int 999)) (nilA))))) (consA (varE 6) (nilA)))) (nilA)))) (nilA)))) (sliceE (varE 3) (someO (binE addD (varE 4) (cE (.int 1)))) (noO))) (nilA))))
theorem fa_eq : B__law_far_v2 = seqS fa_1 (seqS fa_2 (seqS fa_3 (seqS fa_4 fa_5))) := rfl
theorem cutD_end (xs : List D) : cutD xs none (some (-1)) = xs.take (xs.length - 1) := by
  unfold cutD
  simp [HT.sIx]
  congr 1
  omega
structure RaceB (ts : List Int) (t0 : Int) (bs : List (List P2)) : Prop where
  ok : RaceOk ts t0 bs
  l6 : ∀ b ∈ bs, b.length ≤ 6
  n4 : bs.length ≤ 4
  tm : ∀ row ∈ rowsF t0 bs, ∀ p ∈ row, p.1 < (big : Int)
theorem far_row {ts : List Int} (hT : Trk ts) {t0 : Int} {c : List P2} {q : P2} {w : Int} (h : RowOk ts (fullL t0 (c ++ [q]))) (hw : 0 ≤ w) : RowOk ts (fullL t0 (c ++ [(q.1 + w, q.2)])) := by
  have e1 : fullL t0 (c ++ [q]) = fullL t0 c ++ [q] := rfl
  have e2 : fullL t0 (c ++ [(q.1 + w, q.2)]) = fullL t0 c ++ [(q.1 + w, q.2)] := rfl
  rw [e1] at h
  rw [e2]
  obtain ⟨ho, hr⟩ := h
  have hq := ho q (by simp)
  obtain ⟨r1, -, r3⟩ := List.pairwise_append.mp hr
  refine ⟨fun p hp => ?_, List.pairwise_append.mpr ⟨r1, List.pairwise_singleton _ _, fun a ha b hb => ?_⟩⟩
  · rcases List.mem_append.mp hp with hp | hp
    · exact ho p (List.mem_append_left _ hp)
    · rw [List.mem_singleton.mp hp]
      obtain ⟨a, b, c⟩ := hq
      exact ⟨by show 0 ≤ q.1 + w; omega, b, c⟩
  · rw [List.mem_singleton.mp hb]
    have := of_decide_eq_true (r3 a ha q (by simp))
    refine decide_eq_true ?_
    show q.1 + w - a.1 ≥ wayI ts a.2.toNat q.2.toNat
    omega
theorem f_far2 {ts : List Int} (hT : Trk ts) {t0 : Int} {bs : List (List P2)} (h : RaceW ts t0 bs 6) (h4 : bs.length ≤ 4) {p : Nat} {st : Sto} (hp : Pool p st) :
    ∃ bs' st', F__law_far_v2 [.mut p, raceD t0 bs] st = .ok (raceD t0 bs') st' ∧ Pool p st' ∧ RaceB ts t0 bs' := by
  have hbg := big_ge
  have n1 := h.ok.n1
  have ll : lenF [.tup (bs.map bagD)] st = .ok (.int bs.length) st := by rw [lenF_tup, List.length_map]
  obtain ⟨r, s1, e1, r0, r1, hp1, -⟩ := w_below (m := (bs.length : Int)) hp (by omega) (by omega)
  obtain ⟨r, rfl⟩ := Int.eq_ofNat_of_zero_le r0
  have hr : r < bs.length := by omega
  have base : RaceB ts t0 bs := ⟨h.ok, h.len, h4, h.big⟩
  have q1 : fa_1 [some (.mut p), some (raceD t0 bs), none, none, none, none, none] st = .nx [some (.mut p), some (raceD t0 bs), some (.int t0), some (.tup (bs.map bagD)), none, none, none] st := by
    unfold fa_1 raceD
    generalize D.tup (bs.map bagD) = rd at *
    simp
  have q2 : fa_2 [some (.mut p), some (raceD t0 bs), some (.int t0), some (.tup (bs.map bagD)), none, none, none] st = .nx [some (.mut p), some (raceD t0 bs), some (.int t0), some (.tup (bs.map bagD)), some (.int (r : Nat)), none, none] s1 := by
    have e1 : F__law_take [.mut p, .int (bs.length : Int)] st = .ok (.int (r : Int)) s1 := e1
    unfold fa_2
    generalize (bs.length : Int) = L at *
    generalize (r : Int) = ri at *
    generalize D.tup (bs.map bagD) = bd at *
    generalize raceD t0 bs = rd at *
    simp [ll, e1]
  have x3 : ∀ s, ixD (.tup (bs.map bagD)) (.int (r : Int)) s = .ok (bagD bs[r]) s := fun s => by
    refine ixD_tup _ _ _ ?_
    rw [atI_nat' _ r (by rw [List.length_map]; exact hr)]
    simp
  have eqn := eq_bag_nil s1 bs[r]
  unfold F__law_far_v2
  rw [fa_eq]
  by_cases c0 : bs[r] = []
  · rw [decide_eq_true c0] at eqn
    refine ⟨bs, s1, ?_, hp1, base⟩
    unfold fa_3
    generalize fa_1 = c1 at *
    generalize fa_2 = c2 at *
    generalize (r : Int) = ri at *
    generalize bagD bs[r] = bb at *
    generalize D.tup (bs.map bagD) = bd at *
    generalize raceD t0 bs = rd at *
    simp [runF, q1, q2, x3, eqn]
  · rw [decide_eq_false c0] at eqn
    obtain ⟨v, s2, e2, v0, v1, hp2, -⟩ := w_below (m := 3) hp1 (by omega) (by omega)
    by_cases cv : 0 < v
    · refine ⟨bs, s2, ?_, hp2, base⟩
      unfold fa_3
      generalize fa_1 = c1 at *
      generalize fa_2 = c2 at *
      generalize (r : Int) = ri at *
      generalize bagD bs[r] = bb at *
      generalize D.tup (bs.map bagD) = bd at *
      generalize raceD t0 bs = rd at *
      simp [runF, q1, q2, x3, eqn, e2, cv]
    · have q3 : fa_3 [some (.mut p), some (raceD t0 bs), some (.int t0), some (.tup (bs.map bagD)), some (.int (r : Nat)), none, none] s1 = .nx [some (.mut p), some (raceD t0 bs), some (.int t0), some (.tup (bs.map bagD)), some (.int (r : Nat)), none, none] s2 := by
        unfold fa_3
        generalize (r : Int) = ri at *
        generalize bagD bs[r] = bb at *
        generalize D.tup (bs.map bagD) = bd at *
        generalize raceD t0 bs = rd at *
        simp [x3, eqn, e2, cv]
      obtain ⟨c, q, hb⟩ : ∃ c q, bs[r] = c ++ [q] := ⟨bs[r].dropLast, bs[r].getLast c0, (List.dropLast_concat_getLast c0).symm⟩
      have xl : ∀ s, ixD (bagD bs[r]) (.int (-1)) s = .ok (pairD q) s := fun s => by rw [hb]; exact ix_bag_last s c q
      have q4 : fa_4 [some (.mut p), some (raceD t0 bs), some (.int t0), some (.tup (bs.map bagD)), some (.int (r : Nat)), none, none] s2 = .nx [some (.mut p), some (raceD t0 bs), some (.int t0), some (.tup (bs.map bagD)), some (.int (r : Nat)), some (.int q.1), some (.int q.2)] s2 := by
        have xl : ∀ s, ixD (bagD bs[r]) (.int (-1)) s = .ok (.tup [.int q.1, .int q.2]) s := xl
        unfold fa_4
        generalize (r : Int) = ri at *
        generalize bagD bs[r] = bb at *
        generalize D.tup (bs.map bagD) = bd at *
        generalize raceD t0 bs = rd at *
        generalize q.1 = t1 at *
        generalize q.2 = m1 at *
        simp [x3, xl]
      obtain ⟨w, s3, e3, w0, w1, hp3, -⟩ := w_below (m := 999) hp2 (by omega) (by omega)
      have hlen : bs[r].length = c.length + 1 := by rw [hb]; simp
      have hl6 := h.len _ (List.getElem_mem hr)
      have hro := h.ok.row _ (List.getElem_mem hr)
      rw [hb] at hro
      have frow := far_row hT (w := 100000000000000000000000000000 + w) hro.ok (by omega)
      have htm : ∀ x ∈ fullL t0 (c ++ [q]), x.1 ≤ 100000000000000010000 := h.tm _ (List.mem_map.mpr ⟨bs[r], List.getElem_mem hr, by rw [hb]⟩)
      refine ⟨bs.take r ++ [c ++ [(q.1 + (100000000000000000000000000000 + w), q.2)]] ++ bs.drop (r + 1), s3, ?_, hp3, ?_⟩
      · have p29 : ∀ s, powD (.int 10) (.int 29) s = .ok (.int 100000000000000000000000000000) s := fun _ => rfl
        have s1' : ∀ s, sliceD (.tup (bs.map bagD)) none (some (r : Int)) s = .ok (.tup ((bs.take r).map bagD)) s := fun s => by rw [sliceD_tup, Lap.cutD_to, List.map_take]
        have s2' : ∀ s, sliceD (.tup (bs.map bagD)) (some ((r : Int) + 1)) none s = .ok (.tup ((bs.drop (r + 1)).map bagD)) s := fun s => by
          rw [sliceD_tup, show (r : Int) + 1 = ((r + 1 : Nat) : Int) by push_cast; rfl, Lap.cutD_from, List.map_drop]
        have s3' : ∀ s, sliceD (bagD bs[r]) none (some (-1)) s = .ok (.tup (c.map pairD)) s := fun s => by
          rw [hb]
          unfold bagD
          rw [sliceD_tup, cutD_end]
          simp
        have a1 : ∀ s, addD (.tup (c.map pairD)) (.tup [.tup [.int (q.1 + 100000000000000000000000000000 + w), .int q.2]]) s = .ok (bagD (c ++ [(q.1 + (100000000000000000000000000000 + w), q.2)])) s := fun s => by
          rw [add_tup _ _ _ (by simp; omega), show q.1 + 100000000000000000000000000000 + w = q.1 + (100000000000000000000000000000 + w) by omega]
          unfold bagD
          rw [List.map_append]; rfl
        have a2 : ∀ s, addD (.tup ((bs.take r).map bagD)) (.tup [bagD (c ++ [(q.1 + (100000000000000000000000000000 + w), q.2)])]) s = .ok (.tup ((bs.take r ++ [c ++ [(q.1 + (100000000000000000000000000000 + w), q.2)]]).map bagD)) s := fun s => by
          rw [add_tup _ _ _ (by simp; omega), List.map_append]; rfl
        have a3 : ∀ s, addD (.tup ((bs.take r ++ [c ++ [(q.1 + (100000000000000000000000000000 + w), q.2)]]).map bagD)) (.tup ((bs.drop (r + 1)).map bagD)) s = .ok (.tup ((bs.take r ++ [c ++ [(q.1 + (100000000000000000000000000000 + w), q.2)]] ++ bs.drop (r + 1)).map bagD)) s := fun s => by
          rw [add_tup _ _ _ (by simp; omega), ← List.map_append]
        unfold fa_5
        show _ = R.ok (D.tup [.int t0, .tup ((bs.take r ++ [c ++ [(q.1 + (100000000000000000000000000000 + w), q.2)]] ++ bs.drop (r + 1)).map bagD)]) s3
        clear frow htm hro
        generalize bagD (c ++ [(q.1 + (100000000000000000000000000000 + w), q.2)]) = nb at *
        generalize D.tup ((bs.take r ++ [c ++ [(q.1 + (100000000000000000000000000000 + w), q.2)]] ++ bs.drop (r + 1)).map bagD) = fin at *
        generalize D.tup ((bs.take r ++ [c ++ [(q.1 + (100000000000000000000000000000 + w), q.2)]]).map bagD) = f2 at *
        generalize D.tup ((bs.take r).map bagD) = f1 at *
        generalize D.tup ((bs.drop (r + 1)).map bagD) = f3 at *
        generalize D.tup (c.map pairD) = cd at *
        generalize fa_1 = c1 at *
        generalize fa_2 = c2 at *
        generalize fa_3 = c3 at *
        generalize fa_4 = c4 at *
        generalize (r : Int) = ri at *
        generalize bagD bs[r] = bb at *
        generalize D.tup (bs.map bagD) = bd at *
        generalize raceD t0 bs = rd at *
        generalize q.1 = t1 at *
        generalize q.2 = m1 at *
        simp [runF, q1, q2, q3, q4, s1', x3, s3', p29, e3, a1, a2, s2', a3]
      · have mem : ∀ b ∈ bs.take r ++ [c ++ [(q.1 + (100000000000000000000000000000 + w), q.2)]] ++ bs.drop (r + 1), b ∈ bs ∨ b = c ++ [(q.1 + (100000000000000000000000000000 + w), q.2)] := fun b hb => by
          rcases List.mem_append.mp hb with hb | hb
          · rcases List.mem_append.mp hb with hb | hb
            · exact .inl (List.mem_of_mem_take hb)
            · exact .inr (List.mem_singleton.mp hb)
          · exact .inl (List.mem_of_mem_drop hb)
        have nl : (c ++ [(q.1 + (100000000000000000000000000000 + w), q.2)]).length ≤ 6 := by rw [List.length_append]; simp; omega
        have ntm : ∀ x ∈ fullL t0 (c ++ [(q.1 + (100000000000000000000000000000 + w), q.2)]), x.1 ≤ 200000000000000000000000000000 := fun x hx => by
          have e2 : fullL t0 (c ++ [(q.1 + (100000000000000000000000000000 + w), q.2)]) = fullL t0 c ++ [(q.1 + (100000000000000000000000000000 + w), q.2)] := rfl
          rw [e2] at hx
          rcases List.mem_append.mp hx with hx | hx
          · have := htm x (by rw [show fullL t0 (c ++ [q]) = fullL t0 c ++ [q] from rfl]; exact List.mem_append_left _ hx)
            omega
          · rw [List.mem_singleton.mp hx]
            have := htm q (by rw [show fullL t0 (c ++ [q]) = fullL t0 c ++ [q] from rfl]; simp)
            show q.1 + (100000000000000000000000000000 + w) ≤ _
            omega
        have rk : RowOk ts (c ++ [(q.1 + (100000000000000000000000000000 + w), q.2)]) := ⟨fun p hp => frow.ok p (List.mem_cons_of_mem _ hp), (List.pairwise_cons.mp frow.row).2⟩
        refine ⟨⟨by simp; omega, by simp; omega, fun b hb => ?_, fun b hb => ?_, h.ok.s0⟩, fun b hb => ?_, by simp; omega, fun row hr2 x hx => ?_⟩
        · rcases mem b hb with hb | rfl
          · exact h.ok.bag b hb
          · exact rk.bag hT (by omega)
        · rcases mem b hb with hb | rfl
          · exact h.ok.row b hb
          · refine ⟨frow, by show (c ++ [(q.1 + (100000000000000000000000000000 + w), q.2)]).length + 1 ≤ 31; omega, fun x hx => ?_⟩
            have := ntm x hx
            have := (frow.ok x hx).1
            omega
        · rcases mem b hb with hb | rfl
          · exact h.len b hb
          · exact nl
        · obtain ⟨b, hb, rfl⟩ := List.mem_map.mp hr2
          rcases mem b hb with hb | rfl
          · exact h.big _ (List.mem_map.mpr ⟨b, hb, rfl⟩) x hx
          · have := ntm x hx
            omega
end Lap
namespace Lap
open PySem G
def v_body12 : SvS := (ifS (notB (tstE (callE F__law_same_v2 (consA (lstE (consA (callE F_can_follow (consA (varE 2) (consA (tupE (consA (varE 12) (consA (varE 4) (nilA)))) (consA (binE ixD (varE 11) (varE 8)) (nilA))))) (consA (callE F_can_follow (consA (varE 2) (consA (binE ixD (varE 11) (binE addD (varE 8) (cE (.int 1)))) (consA (tupE (consA (varE 12) (consA (varE 4) (nilA)))) (nilA))))) (nilA)))) (consA (lstE (consA (cE (.bl true)) (consA (cE (.bl true)) (nilA)))) (nilA)))))) (retS (cE (.bl false))) (passS))
def v_body7 : SvS := (seqS (asgS (callE F_full_row (consA (varE 2) (consA (varE 3) (consA (varE 7) (nilA))))) (nameT 11)) (seqS (forS (iterE (tupE (consA (varE 9) (consA (varE 10) (nilA))))) (tgT (.nm 12)) v_body12) (seqS (ifS (ifB (tstE (binE gtD (varE 9) (cE (.int 0)))) (tstE (callE F_can_follow (consA (varE 2) (consA (tupE (consA (binE subD (varE 9) (cE (.int 1))) (consA (varE 4) (nilA)))) (consA (binE ixD (varE 11) (varE 8)) (nilA)))))) (tstE (cE (.bl false)))) (retS (cE (.bl false))) (passS)) (ifS (tstE (callE F_can_follow (consA (varE 2) (consA (binE ixD (varE 11) (binE addD (varE 8) (cE (.int 1)))) (consA (tupE (consA (binE addD (varE 10) (cE (.int 1))) (consA (varE 4) (nilA)))) (nilA)))))) (retS (cE (.bl false))) (passS)))))
def v_body4 : SvS := (seqS (asgS (callE tupleF (consA (callE F__law_windows (consA (varE 2) (consA (varE 3) (consA (varE 4) (nilA))))) (nilA))) (nameT 5)) (seqS (asgS (ifE (tstE (binE eqD (callE F__law_take (consA (varE 0) (consA (cE (.int 2)) (nilA)))) (cE (.int 0)))) (callE F_windows_v2 (consA (varE 2) (consA (varE 3) (consA (varE 4) (nilA))))) (callKE F_windows_v2 nilA (consA (varE 4) (consA (varE 3) (consA (varE 2) (nilA)))) 0 3 [2, 1, 0])) (nameT 6)) (seqS (ifS (orB (notB (tstE (callE F__law_same_v2 (consA (varE 6) (consA (varE 5) (nilA)))))) (tstE (callE anyF (consA (lcE (iterE (varE 6)) (.nm 14) (yesB) (binE gtD (binE ixD (varE 14) (cE (.int 2))) (binE ixD (varE 14) (cE (.int 3)))) [14]) (nilA))))) (retS (cE (.bl false))) (passS)) (forS (iterE (sliceE (varE 6) (noO) (someO (cE (.int 3))))) (tgT (.tp [.nm 7, .nm 8, .nm 9, .nm 10])) v_body7))))
def v_body1 : SvS := (seqS (asgS (callE F__law_track (consA (varE 0) (nilA))) (nameT 2)) (seqS (asgS (callE F__law_far_v2 (consA (varE 0) (consA (callE F__law_race (consA (varE 0) (consA (varE 2) (consA (cE (.int 6)) (nilA))))) (nilA)))) (nameT 3)) (forS (iterE (ifE (tstE (binE ltD (callE lenF (consA (varE 2) (nilA))) (cE (.int 4)))) (listRgE (callE lenF (consA (varE 2) (nilA)))) (lcE (callI range1F (consA (cE (.int 3)) (nilA))) (.nm 13) (yesB) (callE F__law_take (consA (varE 0) (consA (callE lenF (consA (varE 2) (nilA))) (nilA)))) [13]))) (tgT (.nm 4)) v_body4)))
theorem v_right_eq : B__law_windows_right = seqS (forS (callI range1F (consA (cE (.int 12)) (nilA))) (tgT (.nm 1)) v_body1) (retS (cE (.bl true))) := rfl
theorem winG_at {ts : List Int} {m : Nat} {r : Int} : ∀ (gs : List (P2 × P2)) (i : Nat), ∀ w ∈ winG ts m r i gs, ∃ (j : Nat) (hj : j < gs.length), w = (r, ((i + j : Nat) : Int), gs[j].1.1 + wayI ts gs[j].1.2.toNat m, gs[j].2.1 - wayI ts m gs[j].2.2.toNat) ∧ m ∈ betweenL ts.length gs[j]
  | [], i, w, h => by cases h
  | g :: gs, i, w, h => by
    unfold winG at h
    rcases List.mem_append.mp h with h | h
    · unfold winA at h
      split at h
      · rename_i c
        rw [List.mem_singleton.mp h]
        exact ⟨0, by simp, by simp, c⟩
      · cases h
    · rw [show (i : Int) + 1 = ((i + 1 : Nat) : Int) by push_cast; rfl] at h
      obtain ⟨j, hj, e, c⟩ := winG_at gs (i + 1) w h
      refine ⟨j + 1, by simp; omega, ?_, by simpa using c⟩
      rw [e]
      simp
      omega
theorem winR_at {ts : List Int} {m : Nat} : ∀ (rows : List (List P2)) (r : Nat), ∀ w ∈ winR ts m r rows, ∃ (k i : Nat) (hk : k < rows.length) (hi : i + 1 < rows[k].length), w = (((r + k : Nat) : Int), (i : Int), rows[k][i].1 + wayI ts rows[k][i].2.toNat m, rows[k][i + 1].1 - wayI ts m rows[k][i + 1].2.toNat) ∧ m ∈ betweenL ts.length (rows[k][i], rows[k][i + 1])
  | [], r, w, h => by cases h
  | row :: rows, r, w, h => by
    unfold winR at h
    rcases List.mem_append.mp h with h | h
    · obtain ⟨j, hj, e, c⟩ := winG_at (gapsL row) 0 w h
      have hj2 : j + 1 < row.length := by rw [gaps_len] at hj; omega
      rw [gaps_get row j hj2] at e c
      refine ⟨0, j, by simp, hj2, ?_, c⟩
      rw [e]
      simp
    · rw [show (r : Int) + 1 = ((r + 1 : Nat) : Int) by push_cast; rfl] at h
      obtain ⟨k, i, hk, hi, e, c⟩ := winR_at rows (r + 1) w h
      refine ⟨k + 1, i, by simp; omega, by simpa using hi, ?_, by simpa using c⟩
      rw [e]
      simp
      omega
theorem f_can_follow_t {ts : List Int} (hT : Trk ts) (hs : ts.sum.natAbs < big) {p q : P2} (hp : MatOk ts p) (hq : MatOk ts q) (st : Sto) : F_can_follow [tupI ts, pairD p, pairD q] st = .ok (.bl (followB ts p q)) st := by
  have e1 := f_check_track (st := st) hT
  have e2 := f_is_mark_of st (ts := ts) p
  have e3 := f_is_mark_of st (ts := ts) q
  rw [decide_eq_true hp] at e2
  rw [decide_eq_true hq] at e3
  have e4 := f_can_follow_by st hT hs hp hq
  generalize followB ts p q = v at *
  generalize tupI ts = td at *
  generalize pairD p = pd at *
  generalize pairD q = qd at *
  have c1 : F_check_mark [td, pd] st = .ok .non st := by simp [F_check_mark, runF, B_check_mark, e2]
  have c2 : F_check_mark [td, qd] st = .ok .non st := by simp [F_check_mark, runF, B_check_mark, e3]
  simp [F_can_follow, runF, B_can_follow, e1, c1, c2, e4]
structure WinOk (ts : List Int) (m : Nat) (a b : P2) (lo hi : Int) : Prop where
  ma : MatOk ts a
  mb : MatOk ts b
  lo_ : lo = a.1 + wayI ts a.2.toNat m
  hi_ : hi = b.1 - wayI ts m b.2.toNat
  le : lo ≤ hi
theorem win_ok {ts : List Int} (hT : Trk ts) {m : Nat} (hm : m < ts.length) {row : List P2} (hro : RowOk ts row) {i : Nat} (hi : i + 1 < row.length) (hb : m ∈ betweenL ts.length (row[i], row[i + 1])) : WinOk ts m row[i] row[i + 1] (row[i].1 + wayI ts row[i].2.toNat m) (row[i + 1].1 - wayI ts m row[i + 1].2.toNat) := by
  have hg : (row[i], row[i + 1]) ∈ gapsL row := by
    rw [← gaps_get row i hi]
    exact List.getElem_mem _
  obtain ⟨p1, p2, fo⟩ := gap_follow hro hg
  have a2 := (mat_nat p1).2
  have b2 := (mat_nat p2).2
  have sp := way_split hT a2 hm b2 ((between_iff a2 hm b2).mp hb)
  have fo : wayI ts row[i].2.toNat row[i + 1].2.toNat ≤ row[i + 1].1 - row[i].1 := fo
  have sp : wayI ts row[i].2.toNat m + wayI ts m row[i + 1].2.toNat ≤ wayI ts row[i].2.toNat row[i + 1].2.toNat := sp
  exact ⟨p1, p2, rfl, rfl, by omega⟩
section
variable {ts : List Int} {t0 : Int} {bs : List (List P2)} {m : Nat}
theorem v_12 (hT : Trk ts) (hs : ts.sum.natAbs < big) (hm : m < ts.length) {row : List P2} {i : Nat} (hi : i + 1 < row.length) {lo hi' : Int} (h : WinOk ts m row[i] row[i + 1] lo hi') {t : Int} (h1 : lo ≤ t) (h2 : t ≤ hi') (o0 o1 o3 o5 o6 o7 o9 o10 o13 o14 : Option D) (st : Sto) :
    v_body12 [o0, o1, some (tupI ts), o3, some (.int m), o5, o6, o7, some (.int i), o9, o10, some (bagD row), some (.int t), o13, o14] st = .nx [o0, o1, some (tupI ts), o3, some (.int m), o5, o6, o7, some (.int i), o9, o10, some (bagD row), some (.int t), o13, o14] st := by
  have w1 := way_pos hT (mat_nat h.ma).2 hm
  have a1 := h.ma.1
  have e1 := h.lo_
  have e2 := h.hi_
  have mt : MatOk ts (t, ((m : Nat) : Int)) := ⟨by show 0 ≤ t; omega, by show (0 : Int) ≤ m; omega, by show (m : Int) < ts.length; omega⟩
  have x1 : ixD (bagD row) (.int (i : Int)) st = .ok (pairD row[i]) st := ix_bag st row i (by omega)
  have x2 : ixD (bagD row) (.int ((i : Int) + 1)) st = .ok (pairD row[i + 1]) st := by
    have := ix_bag st row (i + 1) hi
    rw [show ((i + 1 : Nat) : Int) = (i : Int) + 1 by push_cast; rfl] at this
    exact this
  have f1 := f_can_follow_t hT hs mt h.ma st
  have f2 := f_can_follow_t hT hs h.mb mt st
  have b1 : followB ts (t, ((m : Nat) : Int)) row[i] = true := decide_eq_true (by show t - row[i].1 ≥ wayI ts row[i].2.toNat ((m : Int).toNat); rw [Int.toNat_natCast]; omega)
  have b2 : followB ts row[i + 1] (t, ((m : Nat) : Int)) = true := decide_eq_true (by show row[i + 1].1 - t ≥ wayI ts ((m : Int).toNat) row[i + 1].2.toNat; rw [Int.toNat_natCast]; omega)
  rw [b1] at f1
  rw [b2] at f2
  have f1 : F_can_follow [tupI ts, .tup [.int t, .int (m : Int)], pairD row[i]] st = .ok (.bl true) st := f1
  have f2 : F_can_follow [tupI ts, pairD row[i + 1], .tup [.int t, .int (m : Int)]] st = .ok (.bl true) st := f2
  have sm := w_same (.lst [.bl true, .bl true]) st ⟨by simp, fun x hx => by
    simp only [List.mem_cons, List.not_mem_nil, or_false] at hx
    rcases hx with rfl | rfl <;> trivial⟩
  unfold v_body12
  clear w1 a1 e1 e2 mt b1 b2 h1 h2 h
  generalize pairD row[i] = pa at *
  generalize pairD row[i + 1] = pb at *
  generalize bagD row = bd at *
  generalize tupI ts = td at *
  generalize (m : Int) = mi at *
  generalize (i : Int) = ii at *
  simp [x1, x2, f1, f2, sm]
theorem v_7 (hT : Trk ts) (hs : ts.sum.natAbs < big) (h : RaceB ts t0 bs) (hm : m < ts.length) {w : Wd} (hw : w ∈ winR ts m 0 (rowsF t0 bs)) (o0 o1 o5 o6 o11 o12 o13 o14 : Option D) (st : Sto) :
    ∃ o11' o12', v_body7 [o0, o1, some (tupI ts), some (raceD t0 bs), some (.int m), o5, o6, some (.int w.1), some (.int w.2.1), some (.int w.2.2.1), some (.int w.2.2.2), o11, o12, o13, o14] st = .nx [o0, o1, some (tupI ts), some (raceD t0 bs), some (.int m), o5, o6, some (.int w.1), some (.int w.2.1), some (.int w.2.2.1), some (.int w.2.2.2), o11', o12', o13, o14] st := by
  obtain ⟨k, i, hk, hi, e, c⟩ := winR_at (rowsF t0 bs) 0 w (by simpa using hw)
  rw [List.length_map] at hk
  have hg : (rowsF t0 bs)[k]'(by rw [List.length_map]; exact hk) = fullL t0 bs[k] := by rw [List.getElem_map]
  simp only [hg] at hi e c
  have hro := (h.ok.row _ (List.getElem_mem hk)).ok
  have wo := win_ok hT hm hro hi c
  have ff := f_full_row_t hT hs h.ok hk st
  rw [Nat.zero_add] at e
  subst e
  obtain ⟨lo, hlo⟩ : ∃ lo, (fullL t0 bs[k])[i].1 + wayI ts (fullL t0 bs[k])[i].2.toNat m = lo := ⟨_, rfl⟩
  obtain ⟨hi', hhi⟩ : ∃ hi', (fullL t0 bs[k])[i + 1].1 - wayI ts m (fullL t0 bs[k])[i + 1].2.toNat = hi' := ⟨_, rfl⟩
  rw [hlo, hhi] at wo
  show ∃ o11' o12', v_body7 [o0, o1, some (tupI ts), some (raceD t0 bs), some (.int m), o5, o6, some (.int (k : Int)), some (.int (i : Int)), some (.int ((fullL t0 bs[k])[i].1 + wayI ts (fullL t0 bs[k])[i].2.toNat m)), some (.int ((fullL t0 bs[k])[i + 1].1 - wayI ts m (fullL t0 bs[k])[i + 1].2.toNat)), o11, o12, o13, o14] st = .nx [o0, o1, some (tupI ts), some (raceD t0 bs), some (.int m), o5, o6, some (.int (k : Int)), some (.int (i : Int)), some (.int ((fullL t0 bs[k])[i].1 + wayI ts (fullL t0 bs[k])[i].2.toNat m)), some (.int ((fullL t0 bs[k])[i + 1].1 - wayI ts m (fullL t0 bs[k])[i + 1].2.toNat)), o11', o12', o13, o14] st
  rw [hlo, hhi]
  clear hlo hhi c
  generalize fullL t0 bs[k] = row at *
  have e1 := wo.lo_
  have e2 := wo.hi_
  have le := wo.le
  have wp1 := way_pos hT (mat_nat wo.ma).2 hm
  have wp2 := way_pos hT hm (mat_nat wo.mb).2
  have a1 := wo.ma.1
  have b1 := v_12 hT hs hm hi wo (Int.le_refl _) le o0 o1 (some (raceD t0 bs)) o5 o6 (some (.int (k : Int))) (some (.int lo)) (some (.int hi')) o13 o14 st
  have b2 := v_12 hT hs hm hi wo le (Int.le_refl _) o0 o1 (some (raceD t0 bs)) o5 o6 (some (.int (k : Int))) (some (.int lo)) (some (.int hi')) o13 o14 st
  have x1 : ixD (bagD row) (.int (i : Int)) st = .ok (pairD row[i]) st := ix_bag st row i (by omega)
  have x2 : ixD (bagD row) (.int ((i : Int) + 1)) st = .ok (pairD row[i + 1]) st := by
    have := ix_bag st row (i + 1) hi
    rw [show ((i + 1 : Nat) : Int) = (i : Int) + 1 by push_cast; rfl] at this
    exact this
  have m2 : MatOk ts (hi' + 1, ((m : Nat) : Int)) := ⟨by show 0 ≤ hi' + 1; omega, by show (0 : Int) ≤ m; omega, by show (m : Int) < ts.length; omega⟩
  have f2 := f_can_follow_t hT hs wo.mb m2 st
  have n2 : followB ts row[i + 1] (hi' + 1, ((m : Nat) : Int)) = false := decide_eq_false (by show ¬ row[i + 1].1 - (hi' + 1) ≥ wayI ts ((m : Int).toNat) row[i + 1].2.toNat; rw [Int.toNat_natCast]; omega)
  rw [n2] at f2
  have f2 : F_can_follow [tupI ts, pairD row[i + 1], .tup [.int (hi' + 1), .int (m : Int)]] st = .ok (.bl false) st := f2
  have m1 : MatOk ts (lo - 1, ((m : Nat) : Int)) := ⟨by show 0 ≤ lo - 1; omega, by show (0 : Int) ≤ m; omega, by show (m : Int) < ts.length; omega⟩
  have f1 := f_can_follow_t hT hs m1 wo.ma st
  have n1 : followB ts (lo - 1, ((m : Nat) : Int)) row[i] = false := decide_eq_false (by show ¬ (lo - 1) - row[i].1 ≥ wayI ts row[i].2.toNat ((m : Int).toNat); rw [Int.toNat_natCast]; omega)
  rw [n1] at f1
  have f1 : F_can_follow [tupI ts, .tup [.int (lo - 1), .int (m : Int)], pairD row[i]] st = .ok (.bl false) st := f1
  have gt : gtD (.int lo) (.int 0) st = .ok (.bl true) st := by
    show R.ok (D.bl (decide (0 < lo))) st = _
    rw [decide_eq_true (by omega)]
  have it : iterD (.tup [.int lo, .int hi']) st = .ok (.frz [.int lo, .int hi']) st := rfl
  refine ⟨some (bagD row), some (.int hi'), ?_⟩
  unfold v_body7
  clear e1 e2 le wp1 wp2 a1 m1 m2 n1 n2 wo
  generalize pairD row[i] = pa at *
  generalize pairD row[i + 1] = pb at *
  generalize bagD row = bd at *
  generalize raceD t0 bs = rd at *
  generalize tupI ts = td at *
  generalize (m : Int) = mi at *
  generalize (i : Int) = ii at *
  generalize (k : Int) = ki at *
  generalize v_body12 = b12 at *
  simp [-gtD_int, ff, it, b1, b2, gt, x1, f1, x2, f2]
end
end Lap
namespace Lap
open PySem G
theorem purS_wins (ws : List Wd) (h : ws.length ≤ 10000) : PurS 19 (.tup (ws.map winD)) := by
  refine ⟨by rw [List.length_map]; exact h, fun x hx => ?_⟩
  obtain ⟨w, -, rfl⟩ := List.mem_map.mp hx
  exact ⟨by simp, fun y hy => by
    simp only [List.mem_cons, List.not_mem_nil, or_false] at hy
    rcases hy with rfl | rfl | rfl | rfl <;> trivial⟩
section
variable {ts : List Int} {t0 : Int} {bs : List (List P2)} {m p : Nat}
theorem v_none (ws : List Wd) (hl : ws.length ≤ 1000) (hle : ∀ w ∈ ws, w.2.2.1 ≤ w.2.2.2) (o0 o1 o2 o3 o4 o5 o6 o7 o8 o9 o10 o11 o12 o13 : Option D) (st : Sto) :
    lcF (.nm 14) yesB (binE gtD (binE ixD (varE 14) (cE (.int 2))) (binE ixD (varE 14) (cE (.int 3)))) [o0, o1, o2, o3, o4, o5, o6, o7, o8, o9, o10, o11, o12, o13, none] (ws.map winD) st [] = .ok ((ws.map fun _ => false).map D.bl) st := by
  have e := lc_typed (t := .nm 14) (fe := binE gtD (binE ixD (varE 14) (cE (.int 2))) (binE ixD (varE 14) (cE (.int 3)))) (envw := [o0, o1, o2, o3, o4, o5, o6, o7, o8, o9, o10, o11, o12, o13, none]) (st := st) winD (fun _ => D.bl false) ws [] (by simp; omega) (by
    intro w hw
    refine ⟨[o0, o1, o2, o3, o4, o5, o6, o7, o8, o9, o10, o11, o12, o13, some (winD w)], by simp, ?_⟩
    have x2 : ixD (winD w) (.int 2) st = .ok (.int w.2.2.1) st := ixD_tup _ _ _ rfl
    have x3 : ixD (winD w) (.int 3) st = .ok (.int w.2.2.2) st := ixD_tup _ _ _ rfl
    have gt : gtD (.int w.2.2.1) (.int w.2.2.2) st = .ok (.bl false) st := by
      show R.ok (D.bl (decide (w.2.2.2 < w.2.2.1))) st = _
      rw [decide_eq_false (by have := hle w hw; omega)]
    generalize winD w = wd at *
    simp [-gtD_int, x2, x3, gt])
  rw [List.nil_append] at e
  rw [e, List.map_map]; rfl
theorem v_4 (hT : Trk ts) (hs : ts.sum.natAbs < big) (h : RaceB ts t0 bs) (hm : m < ts.length) {st : Sto} (hp : Pool p st) (o1 o5 o6 o7 o8 o9 o10 o11 o12 : Option D) :
    ∃ o5' o6' o7' o8' o9' o10' o11' o12' st', v_body4 [some (.mut p), o1, some (tupI ts), some (raceD t0 bs), some (.int m), o5, o6, o7, o8, o9, o10, o11, o12, none, none] st = .nx [some (.mut p), o1, some (tupI ts), some (raceD t0 bs), some (.int m), o5', o6', o7', o8', o9', o10', o11', o12', none, none] st' ∧ Pool p st' := by
  have hbg := big_ge
  have n4 := h.n4
  have wl : (winR ts m 0 (rowsF t0 bs)).length ≤ 6 * (rowsF t0 bs).length := winR_len 6 _ _ fun row hr => by
    obtain ⟨b, hb, rfl⟩ := List.mem_map.mp hr
    have := h.l6 b hb
    rw [gaps_len]
    show b.length + 1 - 1 ≤ 6
    omega
  rw [List.length_map] at wl
  have hbd := win_bd hT h.ok hm h.tm
  obtain ⟨ex1, e1⟩ := w_windows hT hs hm h.ok (by omega) hbd st
  have tf1 : ∀ s, tupleF [.tup ((winR ts m 0 (rowsF t0 bs)).map winD)] s = .ok (.tup ((winR ts m 0 (rowsF t0 bs)).map winD)) s := fun _ => rfl
  obtain ⟨v, s2, e2, v0, v1, hp2, -⟩ := w_below (m := 2) (pool_app hp ex1) (by omega) (by omega)
  obtain ⟨ex2, e3⟩ := t_windows hT hs h.ok hm s2
  have e3 : F_windows_v2 [tupI ts, raceD t0 bs, .int (m : Int)] s2 = .ok (.tup ((winR ts m 0 (rowsF t0 bs)).map winD)) (s2 ++ ex2) := by rw [windows_v2]; exact e3
  have sm := w_same _ (s2 ++ ex2) (purS_wins (winR ts m 0 (rowsF t0 bs)) (by omega))
  have hle : ∀ w ∈ winR ts m 0 (rowsF t0 bs), w.2.2.1 ≤ w.2.2.2 := fun w hw => by
    obtain ⟨k, i, hk, hi, e, c⟩ := winR_at (rowsF t0 bs) 0 w (by simpa using hw)
    obtain ⟨b, hb, hbe⟩ := List.mem_map.mp (List.getElem_mem hk)
    have hro := (h.ok.row b hb).ok
    rw [hbe] at hro
    have := (win_ok hT hm hro hi c).le
    rw [e]
    exact this
  have vn := v_none (winR ts m 0 (rowsF t0 bs)) (by omega) hle (some (.mut p)) o1 (some (tupI ts)) (some (raceD t0 bs)) (some (.int m)) (some (.tup ((winR ts m 0 (rowsF t0 bs)).map winD))) (some (.tup ((winR ts m 0 (rowsF t0 bs)).map winD))) o7 o8 o9 o10 o11 o12 none (s2 ++ ex2)
  have an : anyF [.lst (((winR ts m 0 (rowsF t0 bs)).map fun _ => false).map D.bl)] (s2 ++ ex2) = .ok (.bl false) (s2 ++ ex2) := by
    rw [anyF_bools]
    congr 2
    simp
  have it : ∀ l s, iterD (.tup l) s = .ok (.frz l) s := fun _ _ => rfl
  have sl : sliceD (.tup ((winR ts m 0 (rowsF t0 bs)).map winD)) none (some 3) (s2 ++ ex2) = .ok (.tup (((winR ts m 0 (rowsF t0 bs)).take 3).map winD)) (s2 ++ ex2) := by
    rw [sliceD_tup]
    have := Lap.cutD_to ((winR ts m 0 (rowsF t0 bs)).map winD) 3
    rw [← List.map_take] at this
    exact congrArg (fun x => R.ok (D.tup x) (s2 ++ ex2)) this
  obtain ⟨env', s', e4, ⟨o7', o8', o9', o10', o11', o12', rfl⟩, rfl⟩ := loop_nx (g := tgT (.tp [.nm 7, .nm 8, .nm 9, .nm 10])) (body := v_body7)
    (fun j env s => (∃ o7 o8 o9 o10 o11 o12 : Option D, env = [some (.mut p), o1, some (tupI ts), some (raceD t0 bs), some (.int m), some (.tup ((winR ts m 0 (rowsF t0 bs)).map winD)), some (.tup ((winR ts m 0 (rowsF t0 bs)).map winD)), o7, o8, o9, o10, o11, o12, none, none]) ∧ s = s2 ++ ex2)
    (xs := ((winR ts m 0 (rowsF t0 bs)).take 3).map winD) (env := [some (.mut p), o1, some (tupI ts), some (raceD t0 bs), some (.int m), some (.tup ((winR ts m 0 (rowsF t0 bs)).map winD)), some (.tup ((winR ts m 0 (rowsF t0 bs)).map winD)), o7, o8, o9, o10, o11, o12, none, none]) (st := s2 ++ ex2) ⟨⟨o7, o8, o9, o10, o11, o12, rfl⟩, rfl⟩
    (by
      rintro j x env s hx ⟨⟨o7, o8, o9, o10, o11, o12, rfl⟩, rfl⟩
      rw [List.getElem?_map] at hx
      obtain ⟨w, hw, rfl⟩ := Option.map_eq_some_iff.mp hx
      have hw := List.mem_of_mem_take (List.mem_of_getElem? hw)
      obtain ⟨o11', o12', e⟩ := v_7 hT hs h hm hw (some (.mut p)) o1 (some (.tup ((winR ts m 0 (rowsF t0 bs)).map winD))) (some (.tup ((winR ts m 0 (rowsF t0 bs)).map winD))) o11 o12 none none (s2 ++ ex2)
      refine ⟨_, s2 ++ ex2, ?_, ⟨some (.int w.1), some (.int w.2.1), some (.int w.2.2.1), some (.int w.2.2.2), o11', o12', rfl⟩, rfl⟩
      generalize v_body7 = b7 at *
      generalize D.tup ((winR ts m 0 (rowsF t0 bs)).map winD) = wd at *
      rw [show winD w = .tup [.int w.1, .int w.2.1, .int w.2.2.1, .int w.2.2.2] from rfl]
      generalize raceD t0 bs = rd at *
      generalize tupI ts = td at *
      generalize (m : Int) = mi at *
      generalize w.1 = w1 at *
      generalize w.2.1 = w2 at *
      generalize w.2.2.1 = w3 at *
      generalize w.2.2.2 = w4 at *
      generalize s2 ++ ex2 = s3 at *
      simp [tgT, Tg.set, Tg.sets, e])
  refine ⟨some (.tup ((winR ts m 0 (rowsF t0 bs)).map winD)), some (.tup ((winR ts m 0 (rowsF t0 bs)).map winD)), o7', o8', o9', o10', o11', o12', s2 ++ ex2, ?_, pool_app hp2 ex2⟩
  unfold v_body4
  clear hbd hle wl
  generalize ((winR ts m 0 (rowsF t0 bs)).map fun _ => false).map D.bl = fl at *
  generalize ((winR ts m 0 (rowsF t0 bs)).take 3).map winD = t3 at *
  generalize (winR ts m 0 (rowsF t0 bs)).map winD = wl at *
  generalize v_body7 = b7 at *
  generalize raceD t0 bs = rd at *
  generalize tupI ts = td at *
  generalize (m : Int) = mi at *
  generalize s2 ++ ex2 = s3 at *
  generalize st ++ ex1 = s1 at *
  by_cases c : v = 0
  · subst c
    simp [-lcE_eq, e1, tf1, e2, e3, sm, lcE, lcL, iterE, it, wipeE, vn, R.bind, an, sl, e4]
  · have pk : pick [] [.int mi, rd, td] [2, 1, 0] = [td, rd, .int mi] := rfl
    simp [-lcE_eq, e1, tf1, e2, c, pk, e3, sm, lcE, lcL, iterE, it, wipeE, vn, R.bind, an, sl, e4]
theorem v_mats (hT : Trk ts) {st : Sto} (hp : Pool p st) (o1 o3 o4 o5 o6 o7 o8 o9 o10 o11 o12 : Option D) :
    ∃ (ms : List Nat) (st' : Sto), (iterE (ifE (tstE (binE ltD (callE lenF (consA (varE 2) (nilA))) (cE (.int 4)))) (listRgE (callE lenF (consA (varE 2) (nilA)))) (lcE (callI range1F (consA (cE (.int 3)) (nilA))) (.nm 13) (yesB) (callE F__law_take (consA (varE 0) (consA (callE lenF (consA (varE 2) (nilA))) (nilA)))) [13]))) [some (.mut p), o1, some (tupI ts), o3, o4, o5, o6, o7, o8, o9, o10, o11, o12, none, none] st = .ok (.frz (ms.map fun (i : Nat) => D.int i)) st' ∧ Pool p st' ∧ ∀ i ∈ ms, i < ts.length := by
  have hbg := big_ge
  have h8 := hT.le
  have h1 := hT.pos
  have lt : ∀ s, lenF [tupI ts] s = .ok (.int ts.length) s := fun s => lenF_tupI ..
  have it : ∀ l s, iterD (.lst l) s = .ok (.frz l) s := fun _ _ => rfl
  by_cases c : (ts.length : Int) < 4
  · refine ⟨List.range ts.length, st, ?_, hp, fun i hi => List.mem_range.mp hi⟩
    have k2 : (0 : Int) ≤ ts.length ∧ (ts.length : Int) ≤ 16777216 := by omega
    have k3 : (ts.length : Int).toNat = ts.length := by omega
    simp [-lcE_eq, iterE, lt, c, k2, k3, it]
  · obtain ⟨s', acc, e, ms, rfl, hp', hms, -⟩ := lc_inv (t := .nm 13) (tt := yesB) (fe := callE F__law_take (consA (varE 0) (consA (callE lenF (consA (varE 2) (nilA))) (nilA)))) (envw := [some (.mut p), o1, some (tupI ts), o3, o4, o5, o6, o7, o8, o9, o10, o11, o12, none, none])
      (fun j s acc => ∃ ms : List Nat, acc = ms.map (fun (i : Nat) => D.int i) ∧ Pool p s ∧ (∀ i ∈ ms, i < ts.length) ∧ ms.length = j) (rangeD 0 3) 0 st [] ⟨[], rfl, hp, by simp, rfl⟩
      (by
        rintro j x s acc hx ⟨ms, rfl, hp, hms, hml⟩
        obtain ⟨rfl, hj⟩ := range_get hx
        obtain ⟨v, s2, e2, v0, v1, hp2, -⟩ := w_below (m := (ts.length : Int)) hp (by omega) (by omega)
        obtain ⟨v, rfl⟩ := Int.eq_ofNat_of_zero_le v0
        refine ⟨s2, (ms ++ [v]).map (fun (i : Nat) => D.int i), fun kk => ?_, ms ++ [v], rfl, hp2, fun i hi => ?_, by simp [hml]⟩
        · rw [turnC_yes (y := .int (v : Nat)) (st' := s2) (env1 := [some (.mut p), o1, some (tupI ts), o3, o4, o5, o6, o7, o8, o9, o10, o11, o12, some (.int (0 + j)), none]) (by simp) (by
            have e2 : F__law_take [.mut p, .int (ts.length : Int)] s = .ok (.int (v : Int)) s2 := e2
            generalize (ts.length : Int) = L at *
            generalize tupI ts = td at *
            generalize (v : Int) = vi at *
            simp [lt, e2]) (by simp; omega)]
          simp
        · rcases List.mem_append.mp hi with hi | hi
          · exact hms i hi
          · rw [List.mem_singleton.mp hi]; omega)
    refine ⟨ms, s', ?_, hp', hms⟩
    have rg : ∀ s, range1F [.int 3] s = .ok (.frz (rangeD 0 3)) s := fun s => rfl
    generalize ms.map (fun (i : Nat) => D.int i) = ml at *
    generalize (ts.length : Int) = L at *
    generalize tupI ts = td at *
    generalize rangeD 0 3 = rr at *
    simp [-lcE_eq, -range1F_eq, -listRgE_eq, iterE, lt, c, lcE, lcL, rg, wipeE, e, R.bind, it]
theorem f_windows_right {p : Nat} {st : Sto} (hp : Pool p st) : ∃ st', F__law_windows_right [.mut p] st = .ok (.bl true) st' ∧ Pool p st' := by
  have hbg := big_ge
  obtain ⟨env', s', e, ⟨o1, o2, o3, o4, o5, o6, o7, o8, o9, o10, o11, o12, rfl⟩, hp'⟩ := loop_nx (g := tgT (.nm 1)) (body := v_body1)
    (fun j env s => (∃ o1 o2 o3 o4 o5 o6 o7 o8 o9 o10 o11 o12 : Option D, env = [some (.mut p), o1, o2, o3, o4, o5, o6, o7, o8, o9, o10, o11, o12, none, none]) ∧ Pool p s)
    (xs := rangeD 0 12) (env := [some (.mut p), none, none, none, none, none, none, none, none, none, none, none, none, none, none]) (st := st) ⟨⟨none, none, none, none, none, none, none, none, none, none, none, none, rfl⟩, hp⟩
    (by
      rintro j x env s hx ⟨⟨o1, o2, o3, o4, o5, o6, o7, o8, o9, o10, o11, o12, rfl⟩, hp⟩
      obtain ⟨rfl, hj⟩ := range_get hx
      obtain ⟨ts, s1, e1, hT, hp1, -⟩ := w_track hp
      obtain ⟨t0, bs, s2, e2, hp2, hR, h4⟩ := w_race hT hp1 6 (by omega)
      have hss := hT.s
      have hsp := hT.p
      have hs : ts.sum.natAbs < big := by omega
      obtain ⟨bs', s3, e3, hp3, hB⟩ := f_far2 hT.t hR h4 hp2
      obtain ⟨ms, s4, e4, hp4, hms⟩ := v_mats hT.t hp3 (some (.int (0 + j))) (some (raceD t0 bs')) o4 o5 o6 o7 o8 o9 o10 o11 o12
      obtain ⟨env2, s5, e5, ⟨q4, q5, q6, q7, q8, q9, q10, q11, q12, rfl⟩, hp5⟩ := loop_nx (g := tgT (.nm 4)) (body := v_body4)
        (fun j2 env s => (∃ o4 o5 o6 o7 o8 o9 o10 o11 o12 : Option D, env = [some (.mut p), some (.int (0 + j)), some (tupI ts), some (raceD t0 bs'), o4, o5, o6, o7, o8, o9, o10, o11, o12, none, none]) ∧ Pool p s)
        (xs := ms.map fun (i : Nat) => D.int i) (env := [some (.mut p), some (.int (0 + j)), some (tupI ts), some (raceD t0 bs'), o4, o5, o6, o7, o8, o9, o10, o11, o12, none, none]) (st := s4) ⟨⟨o4, o5, o6, o7, o8, o9, o10, o11, o12, rfl⟩, hp4⟩
        (by
          rintro j2 x env s hx ⟨⟨o4, o5, o6, o7, o8, o9, o10, o11, o12, rfl⟩, hp⟩
          rw [List.getElem?_map] at hx
          obtain ⟨i, hi, rfl⟩ := Option.map_eq_some_iff.mp hx
          obtain ⟨o5', o6', o7', o8', o9', o10', o11', o12', s', e, hp'⟩ := v_4 hT.t hs hB (hms i (List.mem_of_getElem? hi)) hp (some (.int (0 + j))) o5 o6 o7 o8 o9 o10 o11 o12
          refine ⟨_, s', ?_, ⟨some (.int (i : Nat)), o5', o6', o7', o8', o9', o10', o11', o12', rfl⟩, hp'⟩
          generalize v_body4 = b4 at *
          generalize raceD t0 bs' = rd at *
          generalize tupI ts = td at *
          generalize (i : Int) = ii at *
          generalize (0 + (j : Int)) = ji at *
          simp [e])
      refine ⟨[some (.mut p), some (.int (0 + j)), some (tupI ts), some (raceD t0 bs'), q4, q5, q6, q7, q8, q9, q10, q11, q12, none, none], s5, ?_, ⟨some (.int (0 + j)), some (tupI ts), some (raceD t0 bs'), q4, q5, q6, q7, q8, q9, q10, q11, q12, rfl⟩, hp5⟩
      have e2 : F__law_race [.mut p, tupI ts, .int 6] s1 = .ok (raceD t0 bs) s2 := e2
      unfold v_body1
      clear hT hR hB hms
      generalize ms.map (fun (i : Nat) => D.int i) = ml at *
      generalize iterE (ifE (tstE (binE ltD (callE lenF (consA (varE 2) (nilA))) (cE (.int 4)))) (listRgE (callE lenF (consA (varE 2) (nilA)))) (lcE (callI range1F (consA (cE (.int 3)) (nilA))) (.nm 13) (yesB) (callE F__law_take (consA (varE 0) (consA (callE lenF (consA (varE 2) (nilA))) (nilA)))) [13])) = src at *
      generalize v_body4 = b4 at *
      generalize tupI ts = td at *
      generalize raceD t0 bs = rd at *
      generalize raceD t0 bs' = rd2 at *
      generalize (0 + (j : Int)) = ji at *
      simp [e1, e2, e3, e4, e5])
  refine ⟨s', ?_, hp'⟩
  unfold F__law_windows_right
  rw [v_right_eq]
  generalize v_body1 = b1 at *
  simp [runF, e]
end
end Lap
namespace K41
open PySem G Lap
def l_body1 : SvS := (seqS (asgS (callE F__law_well (consA (varE 0) (consA (varE 1) (nilA)))) (nameT 2)) (ifS (orB (notB (tstE (callE F__law_right_v7 (consA (varE 2) (nilA))))) (notB (tstE (callE F__law_windows_right (consA (varE 2) (nilA)))))) (retS (cE (.bl false))) (passS)))
theorem l_right_eq : B_law = seqS (forS (callI range1F (consA (callE maxF (consA (cE (.int 2)) (consA (callE minF (consA (callE lenF (consA (varE 0) (nilA))) (consA (cE (.int 3)) (nilA)))) (nilA)))) (nilA))) (tgT (.nm 1)) l_body1) (retS (cE (.bl true))) := rfl
theorem law_true (ns : List Int) (h : ns.length ≤ 63) : ∃ st, F_law [.slo (ns.map D.int)] [] = .ok (.bl true) st := by
  generalize hq : (if (if (3 : Int) < (ns.length : Int) then (3 : Int) else (ns.length : Int)) > 2 then (if (3 : Int) < (ns.length : Int) then (3 : Int) else (ns.length : Int)) else 2) = q
  have hq2 : 2 ≤ q ∧ q ≤ 3 := by split at hq <;> split at hq <;> omega
  obtain ⟨env', s', e, o, o2, rfl⟩ := loop_nx (g := tgT (.nm 1)) (body := l_body1)
    (fun j env s => ∃ o o2 : Option D, env = [some (.slo (ns.map D.int)), o, o2]) (xs := rangeD 0 q.toNat) (env := [some (.slo (ns.map D.int)), none, none]) (st := []) ⟨none, none, rfl⟩
    (by
      rintro j x env s hx ⟨o, o2, rfl⟩
      obtain ⟨rfl, hj⟩ := range_get hx
      obtain ⟨a, b, c, e1⟩ := w_well (st := s) (ns := ns) (k := j)
      obtain ⟨s1, e2, hp1⟩ := f_right7 (st := s ++ [.lst [.int a, .int b, .int c]]) (p := s.length) pool_new
      obtain ⟨s2, e3, -⟩ := f_windows_right hp1
      refine ⟨[some (.slo (ns.map D.int)), some (.int (0 + j)), some (.mut s.length)], s2, ?_, _, _, rfl⟩
      unfold l_body1
      simp [e1, e2, e3])
  refine ⟨s', ?_⟩
  have hb : q.natAbs < 4611686018427387904 := by omega
  unfold F_law
  rw [l_right_eq]
  generalize l_body1 = b1 at *
  simp only [runF, List.length_cons, List.length_nil]
  simp [hq, hb, e]
end K41
namespace K41
open PySem PySem.Spec PyProof.Rows L2 G Lap
set_option maxHeartbeats 4000000
theorem all_mk {l : PySem.W.OpenLaw} {w : World} {K : PySem.W.Frag} {h : Heap} {mg : Str → Option Value} {fa f0 f1 f2 f3 f4 f5 f6 f7 f8 f9 f10 f11 f12 f13 f14 f15 f16 f17 f18 f19 f20 f21 f22 f23 f24 f25 f26 f27 f28 f29 f30 f31 f32 f33 f34 f35 f36 f37 f38 f39 f40 f41 f42 f43 f44 f45 f46 f47 f48 f49 f50 f51 f52 f53 f54 f55 f56 f57 f58 f59 f60 f61 f62 f63 f64 f65 f66 f67 f68 : Addr} (X : K.In h) (G : h.Ns mainGlobals mg) (hfa : mg "law" = some (.ref fa))
    {od0 an0 od1 an1 od2 an2 od3 an3 od4 an4 od5 an5 od6 an6 od7 an7 od8 an8 od9 an9 od10 an10 od11 an11 od12 an12 od13 an13 od14 an14 od15 an15 od16 an16 od17 an17 od18 an18 od19 an19 od20 an20 od21 an21 od22 an22 od23 an23 od24 an24 od25 an25 od26 an26 od27 an27 od28 an28 od29 an29 od30 an30 od31 an31 od32 an32 od33 an33 od34 an34 od35 an35 od36 an36 od37 an37 od38 an38 od39 an39 od40 an40 od41 an41 od42 an42 od43 an43 od44 an44 od45 an45 od46 an46 od47 an47 od48 an48 od49 an49 od50 an50 od51 an51 od52 an52 od53 an53 od54 an54 od55 an55 od56 an56 od57 an57 od58 an58 od59 an59 od60 an60 od61 an61 od62 an62 od63 an63 od64 an64 od65 an65 od66 an66 od67 an67 od68 an68 : Option Addr} {sl0 sl1 sl2 sl3 sl4 sl5 sl6 sl7 sl8 sl9 sl10 sl11 sl12 sl13 sl14 sl15 sl16 sl17 sl18 sl19 sl20 sl21 sl22 sl23 sl24 sl25 sl26 sl27 sl28 sl29 sl30 sl31 sl32 sl33 sl34 sl35 sl36 sl37 sl38 sl39 sl40 sl41 sl42 sl43 sl44 sl45 sl46 sl47 sl48 sl49 sl50 sl51 sl52 sl53 sl54 sl55 sl56 sl57 sl58 sl59 sl60 sl61 sl62 sl63 sl64 sl65 sl66 sl67 sl68 : Array (Option Value)} {oc0 kV0 dc0 pm0 cd0 ct0 oc1 kV1 dc1 pm1 cd1 ct1 oc2 kV2 dc2 pm2 cd2 ct2 oc3 kV3 dc3 pm3 cd3 ct3 oc4 kV4 dc4 pm4 cd4 ct4 oc5 kV5 dc5 pm5 cd5 ct5 oc6 kV6 dc6 pm6 cd6 ct6 oc7 kV7 dc7 pm7 cd7 ct7 oc8 kV8 dc8 pm8 cd8 ct8 oc9 kV9 dc9 pm9 cd9 ct9 oc10 kV10 dc10 pm10 cd10 ct10 oc11 kV11 dc11 pm11 cd11 ct11 oc12 kV12 dc12 pm12 cd12 ct12 oc13 kV13 dc13 pm13 cd13 ct13 oc14 kV14 dc14 pm14 cd14 ct14 oc15 kV15 dc15 pm15 cd15 ct15 oc16 kV16 dc16 pm16 cd16 ct16 oc17 kV17 dc17 pm17 cd17 ct17 oc18 kV18 dc18 pm18 cd18 ct18 oc19 kV19 dc19 pm19 cd19 ct19 oc20 kV20 dc20 pm20 cd20 ct20 oc21 kV21 dc21 pm21 cd21 ct21 oc22 kV22 dc22 pm22 cd22 ct22 oc23 kV23 dc23 pm23 cd23 ct23 oc24 kV24 dc24 pm24 cd24 ct24 oc25 kV25 dc25 pm25 cd25 ct25 oc26 kV26 dc26 pm26 cd26 ct26 oc27 kV27 dc27 pm27 cd27 ct27 oc28 kV28 dc28 pm28 cd28 ct28 oc29 kV29 dc29 pm29 cd29 ct29 oc30 kV30 dc30 pm30 cd30 ct30 oc31 kV31 dc31 pm31 cd31 ct31 oc32 kV32 dc32 pm32 cd32 ct32 oc33 kV33 dc33 pm33 cd33 ct33 oc34 kV34 dc34 pm34 cd34 ct34 oc35 kV35 dc35 pm35 cd35 ct35 oc36 kV36 dc36 pm36 cd36 ct36 oc37 kV37 dc37 pm37 cd37 ct37 oc38 kV38 dc38 pm38 cd38 ct38 oc39 kV39 dc39 pm39 cd39 ct39 oc40 kV40 dc40 pm40 cd40 ct40 oc41 kV41 dc41 pm41 cd41 ct41 oc42 kV42 dc42 pm42 cd42 ct42 oc43 kV43 dc43 pm43 cd43 ct43 oc44 kV44 dc44 pm44 cd44 ct44 oc45 kV45 dc45 pm45 cd45 ct45 oc46 kV46 dc46 pm46 cd46 ct46 oc47 kV47 dc47 pm47 cd47 ct47 oc48 kV48 dc48 pm48 cd48 ct48 oc49 kV49 dc49 pm49 cd49 ct49 oc50 kV50 dc50 pm50 cd50 ct50 oc51 kV51 dc51 pm51 cd51 ct51 oc52 kV52 dc52 pm52 cd52 ct52 oc53 kV53 dc53 pm53 cd53 ct53 oc54 kV54 dc54 pm54 cd54 ct54 oc55 kV55 dc55 pm55 cd55 ct55 oc56 kV56 dc56 pm56 cd56 ct56 oc57 kV57 dc57 pm57 cd57 ct57 oc58 kV58 dc58 pm58 cd58 ct58 oc59 kV59 dc59 pm59 cd59 ct59 oc60 kV60 dc60 pm60 cd60 ct60 oc61 kV61 dc61 pm61 cd61 ct61 oc62 kV62 dc62 pm62 cd62 ct62 oc63 kV63 dc63 pm63 cd63 ct63 oc64 kV64 dc64 pm64 cd64 ct64 oc65 kV65 dc65 pm65 cd65 ct65 oc66 kV66 dc66 pm66 cd66 ct66 oc67 kV67 dc67 pm67 cd67 ct67 oc68 kV68 dc68 pm68 cd68 ct68 : Value}
    {tk_MOST_MATS tk_MOST_MARKS tk_MOST_RUNNERS : Tok}
    (a0 : PySem.W.nsIn K mainGlobals "round_by" = some (some (.ref f0))) (l0 : K.lookup f0 = some ⟨oc0, od0, .func (PySem.W.fnOf "round_by" "round_by" (defArgs s_round_by) (defBody s_round_by) (defScope s_round_by) .none kV0 dc0 pm0 an0 cd0 ct0), sl0⟩) (c0 : PySem.W.codeIn K cd0 "round_by" = true) (k0 : PySem.W.keepIn K (.ref f0) = true)
    (a1 : PySem.W.nsIn K mainGlobals "sectors_from" = some (some (.ref f1))) (l1 : K.lookup f1 = some ⟨oc1, od1, .func (PySem.W.fnOf "sectors_from" "sectors_from" (defArgs s_sectors_from) (defBody s_sectors_from) (defScope s_sectors_from) .none kV1 dc1 pm1 an1 cd1 ct1), sl1⟩) (c1 : PySem.W.codeIn K cd1 "sectors_from" = true) (k1 : PySem.W.keepIn K (.ref f1) = true)
    (a2 : PySem.W.nsIn K mainGlobals "reach_by" = some (some (.ref f2))) (l2 : K.lookup f2 = some ⟨oc2, od2, .func (PySem.W.fnOf "reach_by" "reach_by" (defArgs s_reach_by) (defBody s_reach_by) (defScope s_reach_by) .none kV2 dc2 pm2 an2 cd2 ct2), sl2⟩) (c2 : PySem.W.codeIn K cd2 "reach_by" = true) (k2 : PySem.W.keepIn K (.ref f2) = true)
    (a3 : PySem.W.nsIn K mainGlobals "steps_by" = some (some (.ref f3))) (l3 : K.lookup f3 = some ⟨oc3, od3, .func (PySem.W.fnOf "steps_by" "steps_by" (defArgs s_steps_by) (defBody s_steps_by) (defScope s_steps_by) .none kV3 dc3 pm3 an3 cd3 ct3), sl3⟩) (c3 : PySem.W.codeIn K cd3 "steps_by" = true) (k3 : PySem.W.keepIn K (.ref f3) = true)
    (a4 : PySem.W.nsIn K mainGlobals "way_by" = some (some (.ref f4))) (l4 : K.lookup f4 = some ⟨oc4, od4, .func (PySem.W.fnOf "way_by" "way_by" (defArgs s_way_by) (defBody s_way_by) (defScope s_way_by) .none kV4 dc4 pm4 an4 cd4 ct4), sl4⟩) (c4 : PySem.W.codeIn K cd4 "way_by" = true) (k4 : PySem.W.keepIn K (.ref f4) = true)
    (a5 : PySem.W.nsIn K mainGlobals "can_follow_by" = some (some (.ref f5))) (l5 : K.lookup f5 = some ⟨oc5, od5, .func (PySem.W.fnOf "can_follow_by" "can_follow_by" (defArgs s_can_follow_by) (defBody s_can_follow_by) (defScope s_can_follow_by) .none kV5 dc5 pm5 an5 cd5 ct5), sl5⟩) (c5 : PySem.W.codeIn K cd5 "can_follow_by" = true) (k5 : PySem.W.keepIn K (.ref f5) = true)
    (a6 : PySem.W.nsIn K mainGlobals "wrong_marks_by" = some (some (.ref f6))) (l6 : K.lookup f6 = some ⟨oc6, od6, .func (PySem.W.fnOf "wrong_marks_by" "wrong_marks_by" (defArgs s_wrong_marks_by) (defBody s_wrong_marks_by) (defScope s_wrong_marks_by) .none kV6 dc6 pm6 an6 cd6 ct6), sl6⟩) (c6 : PySem.W.codeIn K cd6 "wrong_marks_by" = true) (k6 : PySem.W.keepIn K (.ref f6) = true)
    (a7 : PySem.W.nsIn K mainGlobals "is_row_by" = some (some (.ref f7))) (l7 : K.lookup f7 = some ⟨oc7, od7, .func (PySem.W.fnOf "is_row_by" "is_row_by" (defArgs s_is_row_by) (defBody s_is_row_by) (defScope s_is_row_by) .none kV7 dc7 pm7 an7 cd7 ct7), sl7⟩) (c7 : PySem.W.codeIn K cd7 "is_row_by" = true) (k7 : PySem.W.keepIn K (.ref f7) = true)
    (a8 : PySem.W.nsIn K mainGlobals "is_whole" = some (some (.ref f8))) (l8 : K.lookup f8 = some ⟨oc8, od8, .func (PySem.W.fnOf "is_whole" "is_whole" (defArgs s_is_whole) (defBody s_is_whole) (defScope s_is_whole) .none kV8 dc8 pm8 an8 cd8 ct8), sl8⟩) (c8 : PySem.W.codeIn K cd8 "is_whole" = true) (k8 : PySem.W.keepIn K (.ref f8) = true)
    (a9 : PySem.W.nsIn K mainGlobals "is_between" = some (some (.ref f9))) (l9 : K.lookup f9 = some ⟨oc9, od9, .func (PySem.W.fnOf "is_between" "is_between" (defArgs s_is_between) (defBody s_is_between) (defScope s_is_between) .none kV9 dc9 pm9 an9 cd9 ct9), sl9⟩) (c9 : PySem.W.codeIn K cd9 "is_between" = true) (k9 : PySem.W.keepIn K (.ref f9) = true)
    (a10 : PySem.W.nsIn K mainGlobals "is_up_to" = some (some (.ref f10))) (l10 : K.lookup f10 = some ⟨oc10, od10, .func (PySem.W.fnOf "is_up_to" "is_up_to" (defArgs s_is_up_to) (defBody s_is_up_to) (defScope s_is_up_to) .none kV10 dc10 pm10 an10 cd10 ct10), sl10⟩) (c10 : PySem.W.codeIn K cd10 "is_up_to" = true) (k10 : PySem.W.keepIn K (.ref f10) = true)
    (a11 : PySem.W.nsIn K mainGlobals "is_from" = some (some (.ref f11))) (l11 : K.lookup f11 = some ⟨oc11, od11, .func (PySem.W.fnOf "is_from" "is_from" (defArgs s_is_from) (defBody s_is_from) (defScope s_is_from) .none kV11 dc11 pm11 an11 cd11 ct11), sl11⟩) (c11 : PySem.W.codeIn K cd11 "is_from" = true) (k11 : PySem.W.keepIn K (.ref f11) = true)
    (a12 : PySem.W.nsIn K mainGlobals "is_tuple_up_to" = some (some (.ref f12))) (l12 : K.lookup f12 = some ⟨oc12, od12, .func (PySem.W.fnOf "is_tuple_up_to" "is_tuple_up_to" (defArgs s_is_tuple_up_to) (defBody s_is_tuple_up_to) (defScope s_is_tuple_up_to) .none kV12 dc12 pm12 an12 cd12 ct12), sl12⟩) (c12 : PySem.W.codeIn K cd12 "is_tuple_up_to" = true) (k12 : PySem.W.keepIn K (.ref f12) = true)
    (a13 : PySem.W.nsIn K mainGlobals "is_tuple_of" = some (some (.ref f13))) (l13 : K.lookup f13 = some ⟨oc13, od13, .func (PySem.W.fnOf "is_tuple_of" "is_tuple_of" (defArgs s_is_tuple_of) (defBody s_is_tuple_of) (defScope s_is_tuple_of) .none kV13 dc13 pm13 an13 cd13 ct13), sl13⟩) (c13 : PySem.W.codeIn K cd13 "is_tuple_of" = true) (k13 : PySem.W.keepIn K (.ref f13) = true)
    (a14 : PySem.W.nsIn K mainGlobals "is_pair" = some (some (.ref f14))) (l14 : K.lookup f14 = some ⟨oc14, od14, .func (PySem.W.fnOf "is_pair" "is_pair" (defArgs s_is_pair) (defBody s_is_pair) (defScope s_is_pair) .none kV14 dc14 pm14 an14 cd14 ct14), sl14⟩) (c14 : PySem.W.codeIn K cd14 "is_pair" = true) (k14 : PySem.W.keepIn K (.ref f14) = true)
    (a15 : PySem.W.nsIn K mainGlobals "is_track_of" = some (some (.ref f15))) (l15 : K.lookup f15 = some ⟨oc15, od15, .func (PySem.W.fnOf "is_track_of" "is_track_of" (defArgs s_is_track_of) (defBody s_is_track_of) (defScope s_is_track_of) .none kV15 dc15 pm15 an15 cd15 ct15), sl15⟩) (c15 : PySem.W.codeIn K cd15 "is_track_of" = true) (k15 : PySem.W.keepIn K (.ref f15) = true)
    (a16 : PySem.W.nsIn K mainGlobals "is_mat_of" = some (some (.ref f16))) (l16 : K.lookup f16 = some ⟨oc16, od16, .func (PySem.W.fnOf "is_mat_of" "is_mat_of" (defArgs s_is_mat_of) (defBody s_is_mat_of) (defScope s_is_mat_of) .none kV16 dc16 pm16 an16 cd16 ct16), sl16⟩) (c16 : PySem.W.codeIn K cd16 "is_mat_of" = true) (k16 : PySem.W.keepIn K (.ref f16) = true)
    (a17 : PySem.W.nsIn K mainGlobals "is_mark_of" = some (some (.ref f17))) (l17 : K.lookup f17 = some ⟨oc17, od17, .func (PySem.W.fnOf "is_mark_of" "is_mark_of" (defArgs s_is_mark_of) (defBody s_is_mark_of) (defScope s_is_mark_of) .none kV17 dc17 pm17 an17 cd17 ct17), sl17⟩) (c17 : PySem.W.codeIn K cd17 "is_mark_of" = true) (k17 : PySem.W.keepIn K (.ref f17) = true)
    (a18 : PySem.W.nsIn K mainGlobals "wrong_in_bag" = some (some (.ref f18))) (l18 : K.lookup f18 = some ⟨oc18, od18, .func (PySem.W.fnOf "wrong_in_bag" "wrong_in_bag" (defArgs s_wrong_in_bag) (defBody s_wrong_in_bag) (defScope s_wrong_in_bag) .none kV18 dc18 pm18 an18 cd18 ct18), sl18⟩) (c18 : PySem.W.codeIn K cd18 "wrong_in_bag" = true) (k18 : PySem.W.keepIn K (.ref f18) = true)
    (a19 : PySem.W.nsIn K mainGlobals "is_bag_of" = some (some (.ref f19))) (l19 : K.lookup f19 = some ⟨oc19, od19, .func (PySem.W.fnOf "is_bag_of" "is_bag_of" (defArgs s_is_bag_of) (defBody s_is_bag_of) (defScope s_is_bag_of) .none kV19 dc19 pm19 an19 cd19 ct19), sl19⟩) (c19 : PySem.W.codeIn K cd19 "is_bag_of" = true) (k19 : PySem.W.keepIn K (.ref f19) = true)
    (a20 : PySem.W.nsIn K mainGlobals "is_full_row" = some (some (.ref f20))) (l20 : K.lookup f20 = some ⟨oc20, od20, .func (PySem.W.fnOf "is_full_row" "is_full_row" (defArgs s_is_full_row) (defBody s_is_full_row) (defScope s_is_full_row) .none kV20 dc20 pm20 an20 cd20 ct20), sl20⟩) (c20 : PySem.W.codeIn K cd20 "is_full_row" = true) (k20 : PySem.W.keepIn K (.ref f20) = true)
    (a21 : PySem.W.nsIn K mainGlobals "is_race_of" = some (some (.ref f21))) (l21 : K.lookup f21 = some ⟨oc21, od21, .func (PySem.W.fnOf "is_race_of" "is_race_of" (defArgs s_is_race_of) (defBody s_is_race_of) (defScope s_is_race_of) .none kV21 dc21 pm21 an21 cd21 ct21), sl21⟩) (c21 : PySem.W.codeIn K cd21 "is_race_of" = true) (k21 : PySem.W.keepIn K (.ref f21) = true)
    (a22 : PySem.W.nsIn K mainGlobals "is_runner_of" = some (some (.ref f22))) (l22 : K.lookup f22 = some ⟨oc22, od22, .func (PySem.W.fnOf "is_runner_of" "is_runner_of" (defArgs s_is_runner_of) (defBody s_is_runner_of) (defScope s_is_runner_of) .none kV22 dc22 pm22 an22 cd22 ct22), sl22⟩) (c22 : PySem.W.codeIn K cd22 "is_runner_of" = true) (k22 : PySem.W.keepIn K (.ref f22) = true)
    (a23 : PySem.W.nsIn K mainGlobals "check_track" = some (some (.ref f23))) (l23 : K.lookup f23 = some ⟨oc23, od23, .func (PySem.W.fnOf "check_track" "check_track" (defArgs s_check_track) (defBody s_check_track) (defScope s_check_track) .none kV23 dc23 pm23 an23 cd23 ct23), sl23⟩) (c23 : PySem.W.codeIn K cd23 "check_track" = true) (k23 : PySem.W.keepIn K (.ref f23) = true)
    (a24 : PySem.W.nsIn K mainGlobals "check_mat" = some (some (.ref f24))) (l24 : K.lookup f24 = some ⟨oc24, od24, .func (PySem.W.fnOf "check_mat" "check_mat" (defArgs s_check_mat) (defBody s_check_mat) (defScope s_check_mat) .none kV24 dc24 pm24 an24 cd24 ct24), sl24⟩) (c24 : PySem.W.codeIn K cd24 "check_mat" = true) (k24 : PySem.W.keepIn K (.ref f24) = true)
    (a25 : PySem.W.nsIn K mainGlobals "check_mark" = some (some (.ref f25))) (l25 : K.lookup f25 = some ⟨oc25, od25, .func (PySem.W.fnOf "check_mark" "check_mark" (defArgs s_check_mark) (defBody s_check_mark) (defScope s_check_mark) .none kV25 dc25 pm25 an25 cd25 ct25), sl25⟩) (c25 : PySem.W.codeIn K cd25 "check_mark" = true) (k25 : PySem.W.keepIn K (.ref f25) = true)
    (a26 : PySem.W.nsIn K mainGlobals "check_bag" = some (some (.ref f26))) (l26 : K.lookup f26 = some ⟨oc26, od26, .func (PySem.W.fnOf "check_bag" "check_bag" (defArgs s_check_bag) (defBody s_check_bag) (defScope s_check_bag) .none kV26 dc26 pm26 an26 cd26 ct26), sl26⟩) (c26 : PySem.W.codeIn K cd26 "check_bag" = true) (k26 : PySem.W.keepIn K (.ref f26) = true)
    (a27 : PySem.W.nsIn K mainGlobals "check_fit_row" = some (some (.ref f27))) (l27 : K.lookup f27 = some ⟨oc27, od27, .func (PySem.W.fnOf "check_fit_row" "check_fit_row" (defArgs s_check_fit_row) (defBody s_check_fit_row) (defScope s_check_fit_row) .none kV27 dc27 pm27 an27 cd27 ct27), sl27⟩) (c27 : PySem.W.codeIn K cd27 "check_fit_row" = true) (k27 : PySem.W.keepIn K (.ref f27) = true)
    (a28 : PySem.W.nsIn K mainGlobals "check_race" = some (some (.ref f28))) (l28 : K.lookup f28 = some ⟨oc28, od28, .func (PySem.W.fnOf "check_race" "check_race" (defArgs s_check_race) (defBody s_check_race) (defScope s_check_race) .none kV28 dc28 pm28 an28 cd28 ct28), sl28⟩) (c28 : PySem.W.codeIn K cd28 "check_race" = true) (k28 : PySem.W.keepIn K (.ref f28) = true)
    (a29 : PySem.W.nsIn K mainGlobals "check_runner" = some (some (.ref f29))) (l29 : K.lookup f29 = some ⟨oc29, od29, .func (PySem.W.fnOf "check_runner" "check_runner" (defArgs s_check_runner) (defBody s_check_runner) (defScope s_check_runner) .none kV29 dc29 pm29 an29 cd29 ct29), sl29⟩) (c29 : PySem.W.codeIn K cd29 "check_runner" = true) (k29 : PySem.W.keepIn K (.ref f29) = true)
    (a30 : PySem.W.nsIn K mainGlobals "extra_by" = some (some (.ref f30))) (l30 : K.lookup f30 = some ⟨oc30, od30, .func (PySem.W.fnOf "extra_by" "extra_by" (defArgs s_extra_by) (defBody s_extra_by) (defScope s_extra_by) .none kV30 dc30 pm30 an30 cd30 ct30), sl30⟩) (c30 : PySem.W.codeIn K cd30 "extra_by" = true) (k30 : PySem.W.keepIn K (.ref f30) = true)
    (a31 : PySem.W.nsIn K mainGlobals "extras_by" = some (some (.ref f31))) (l31 : K.lookup f31 = some ⟨oc31, od31, .func (PySem.W.fnOf "extras_by" "extras_by" (defArgs s_extras_by) (defBody s_extras_by) (defScope s_extras_by) .none kV31 dc31 pm31 an31 cd31 ct31), sl31⟩) (c31 : PySem.W.codeIn K cd31 "extras_by" = true) (k31 : PySem.W.keepIn K (.ref f31) = true)
    (a32 : PySem.W.nsIn K mainGlobals "wrong_in_extras" = some (some (.ref f32))) (l32 : K.lookup f32 = some ⟨oc32, od32, .func (PySem.W.fnOf "wrong_in_extras" "wrong_in_extras" (defArgs s_wrong_in_extras) (defBody s_wrong_in_extras) (defScope s_wrong_in_extras) .none kV32 dc32 pm32 an32 cd32 ct32), sl32⟩) (c32 : PySem.W.codeIn K cd32 "wrong_in_extras" = true) (k32 : PySem.W.keepIn K (.ref f32) = true)
    (a33 : PySem.W.nsIn K mainGlobals "mats_between" = some (some (.ref f33))) (l33 : K.lookup f33 = some ⟨oc33, od33, .func (PySem.W.fnOf "mats_between" "mats_between" (defArgs s_mats_between) (defBody s_mats_between) (defScope s_mats_between) .none kV33 dc33 pm33 an33 cd33 ct33), sl33⟩) (c33 : PySem.W.codeIn K cd33 "mats_between" = true) (k33 : PySem.W.keepIn K (.ref f33) = true)
    (a34 : PySem.W.nsIn K mainGlobals "missed_by" = some (some (.ref f34))) (l34 : K.lookup f34 = some ⟨oc34, od34, .func (PySem.W.fnOf "missed_by" "missed_by" (defArgs s_missed_by) (defBody s_missed_by) (defScope s_missed_by) .none kV34 dc34 pm34 an34 cd34 ct34), sl34⟩) (c34 : PySem.W.codeIn K cd34 "missed_by" = true) (k34 : PySem.W.keepIn K (.ref f34) = true)
    (a35 : PySem.W.nsIn K mainGlobals "full_row_by" = some (some (.ref f35))) (l35 : K.lookup f35 = some ⟨oc35, od35, .func (PySem.W.fnOf "full_row_by" "full_row_by" (defArgs s_full_row_by) (defBody s_full_row_by) (defScope s_full_row_by) .none kV35 dc35 pm35 an35 cd35 ct35), sl35⟩) (c35 : PySem.W.codeIn K cd35 "full_row_by" = true) (k35 : PySem.W.keepIn K (.ref f35) = true)
    (a36 : PySem.W.nsIn K mainGlobals "full_rows_of" = some (some (.ref f36))) (l36 : K.lookup f36 = some ⟨oc36, od36, .func (PySem.W.fnOf "full_rows_of" "full_rows_of" (defArgs s_full_rows_of) (defBody s_full_rows_of) (defScope s_full_rows_of) .none kV36 dc36 pm36 an36 cd36 ct36), sl36⟩) (c36 : PySem.W.codeIn K cd36 "full_rows_of" = true) (k36 : PySem.W.keepIn K (.ref f36) = true)
    (a37 : PySem.W.nsIn K mainGlobals "no_extras" = some (some (.ref f37))) (l37 : K.lookup f37 = some ⟨oc37, od37, .func (PySem.W.fnOf "no_extras" "no_extras" (defArgs s_no_extras) (defBody s_no_extras) (defScope s_no_extras) .none kV37 dc37 pm37 an37 cd37 ct37), sl37⟩) (c37 : PySem.W.codeIn K cd37 "no_extras" = true) (k37 : PySem.W.keepIn K (.ref f37) = true)
    (a38 : PySem.W.nsIn K mainGlobals "least_misses_by" = some (some (.ref f38))) (l38 : K.lookup f38 = some ⟨oc38, od38, .func (PySem.W.fnOf "least_misses_by" "least_misses_by" (defArgs s_least_misses_by) (defBody s_least_misses_by) (defScope s_least_misses_by) .none kV38 dc38 pm38 an38 cd38 ct38), sl38⟩) (c38 : PySem.W.codeIn K cd38 "least_misses_by" = true) (k38 : PySem.W.keepIn K (.ref f38) = true)
    (a39 : PySem.W.nsIn K mainGlobals "windows_in" = some (some (.ref f39))) (l39 : K.lookup f39 = some ⟨oc39, od39, .func (PySem.W.fnOf "windows_in" "windows_in" (defArgs s_windows_in) (defBody s_windows_in) (defScope s_windows_in) .none kV39 dc39 pm39 an39 cd39 ct39), sl39⟩) (c39 : PySem.W.codeIn K cd39 "windows_in" = true) (k39 : PySem.W.keepIn K (.ref f39) = true)
    (a40 : PySem.W.nsIn K mainGlobals "windows_by" = some (some (.ref f40))) (l40 : K.lookup f40 = some ⟨oc40, od40, .func (PySem.W.fnOf "windows_by" "windows_by" (defArgs s_windows_by) (defBody s_windows_by) (defScope s_windows_by) .none kV40 dc40 pm40 an40 cd40 ct40), sl40⟩) (c40 : PySem.W.codeIn K cd40 "windows_by" = true) (k40 : PySem.W.keepIn K (.ref f40) = true)
    (a41 : PySem.W.nsIn K mainGlobals "check_raced_misses" = some (some (.ref f41))) (l41 : K.lookup f41 = some ⟨oc41, od41, .func (PySem.W.fnOf "check_raced" "check_raced" (defArgs s_check_raced_misses) (defBody s_check_raced_misses) (defScope s_check_raced_misses) .none kV41 dc41 pm41 an41 cd41 ct41), sl41⟩) (c41 : PySem.W.codeIn K cd41 "check_raced" = true) (k41 : PySem.W.keepIn K (.ref f41) = true)
    (a42 : PySem.W.nsIn K mainGlobals "check_looked_at" = some (some (.ref f42))) (l42 : K.lookup f42 = some ⟨oc42, od42, .func (PySem.W.fnOf "check_looked_at" "check_looked_at" (defArgs s_check_looked_at) (defBody s_check_looked_at) (defScope s_check_looked_at) .none kV42 dc42 pm42 an42 cd42 ct42), sl42⟩) (c42 : PySem.W.codeIn K cd42 "check_looked_at" = true) (k42 : PySem.W.keepIn K (.ref f42) = true)
    (a43 : PySem.W.nsIn K mainGlobals "least_misses" = some (some (.ref f43))) (l43 : K.lookup f43 = some ⟨oc43, od43, .func (PySem.W.fnOf "least_misses" "least_misses" (defArgs s_least_misses) (defBody s_least_misses) (defScope s_least_misses) .none kV43 dc43 pm43 an43 cd43 ct43), sl43⟩) (c43 : PySem.W.codeIn K cd43 "least_misses" = true) (k43 : PySem.W.keepIn K (.ref f43) = true)
    (a44 : PySem.W.nsIn K mainGlobals "windows" = some (some (.ref f44))) (l44 : K.lookup f44 = some ⟨oc44, od44, .func (PySem.W.fnOf "windows" "windows" (defArgs s_windows) (defBody s_windows) (defScope s_windows) .none kV44 dc44 pm44 an44 cd44 ct44), sl44⟩) (c44 : PySem.W.codeIn K cd44 "windows" = true) (k44 : PySem.W.keepIn K (.ref f44) = true)
    (a45 : PySem.W.nsIn K mainGlobals "check_marks" = some (some (.ref f45))) (l45 : K.lookup f45 = some ⟨oc45, od45, .func (PySem.W.fnOf "check_marks" "check_marks" (defArgs s_check_marks) (defBody s_check_marks) (defScope s_check_marks) .none kV45 dc45 pm45 an45 cd45 ct45), sl45⟩) (c45 : PySem.W.codeIn K cd45 "check_marks" = true) (k45 : PySem.W.keepIn K (.ref f45) = true)
    (a46 : PySem.W.nsIn K mainGlobals "all_most" = some (some (.ref f46))) (l46 : K.lookup f46 = some ⟨oc46, od46, .func (PySem.W.fnOf "all_most" "all_most" (defArgs s_all_most) (defBody s_all_most) (defScope s_all_most) .none kV46 dc46 pm46 an46 cd46 ct46), sl46⟩) (c46 : PySem.W.codeIn K cd46 "all_most" = true) (k46 : PySem.W.keepIn K (.ref f46) = true)
    (a47 : PySem.W.nsIn K mainGlobals "missed" = some (some (.ref f47))) (l47 : K.lookup f47 = some ⟨oc47, od47, .func (PySem.W.fnOf "missed" "missed" (defArgs s_missed) (defBody s_missed) (defScope s_missed) .none kV47 dc47 pm47 an47 cd47 ct47), sl47⟩) (c47 : PySem.W.codeIn K cd47 "missed" = true) (k47 : PySem.W.keepIn K (.ref f47) = true)
    (a48 : PySem.W.nsIn K mainGlobals "can_follow" = some (some (.ref f48))) (l48 : K.lookup f48 = some ⟨oc48, od48, .func (PySem.W.fnOf "can_follow" "can_follow" (defArgs s_can_follow) (defBody s_can_follow) (defScope s_can_follow) .none kV48 dc48 pm48 an48 cd48 ct48), sl48⟩) (c48 : PySem.W.codeIn K cd48 "can_follow" = true) (k48 : PySem.W.keepIn K (.ref f48) = true)
    (a49 : PySem.W.nsIn K mainGlobals "check_raced_races" = some (some (.ref f49))) (l49 : K.lookup f49 = some ⟨oc49, od49, .func (PySem.W.fnOf "check_raced" "check_raced" (defArgs s_check_raced_races) (defBody s_check_raced_races) (defScope s_check_raced_races) .none kV49 dc49 pm49 an49 cd49 ct49), sl49⟩) (c49 : PySem.W.codeIn K cd49 "check_raced" = true) (k49 : PySem.W.keepIn K (.ref f49) = true)
    (a50 : PySem.W.nsIn K mainGlobals "full_row" = some (some (.ref f50))) (l50 : K.lookup f50 = some ⟨oc50, od50, .func (PySem.W.fnOf "full_row" "full_row" (defArgs s_full_row) (defBody s_full_row) (defScope s_full_row) .none kV50 dc50 pm50 an50 cd50 ct50), sl50⟩) (c50 : PySem.W.codeIn K cd50 "full_row" = true) (k50 : PySem.W.keepIn K (.ref f50) = true)
    (a51 : PySem.W.nsIn K mainGlobals "_law_well" = some (some (.ref f51))) (l51 : K.lookup f51 = some ⟨oc51, od51, .func (PySem.W.fnOf "_law_well" "_law_well" (defArgs s__law_well) (defBody s__law_well) (defScope s__law_well) .none kV51 dc51 pm51 an51 cd51 ct51), sl51⟩) (c51 : PySem.W.codeIn K cd51 "_law_well" = true) (k51 : PySem.W.keepIn K (.ref f51) = true)
    (a52 : PySem.W.nsIn K mainGlobals "_law_take" = some (some (.ref f52))) (l52 : K.lookup f52 = some ⟨oc52, od52, .func (PySem.W.fnOf "_law_take" "_law_take" (defArgs s__law_take) (defBody s__law_take) (defScope s__law_take) .none kV52 dc52 pm52 an52 cd52 ct52), sl52⟩) (c52 : PySem.W.codeIn K cd52 "_law_take" = true) (k52 : PySem.W.keepIn K (.ref f52) = true)
    (a53 : PySem.W.nsIn K mainGlobals "_law_of" = some (some (.ref f53))) (l53 : K.lookup f53 = some ⟨oc53, od53, .func (PySem.W.fnOf "_law_of" "_law_of" (defArgs s__law_of) (defBody s__law_of) (defScope s__law_of) .none kV53 dc53 pm53 an53 cd53 ct53), sl53⟩) (c53 : PySem.W.codeIn K cd53 "_law_of" = true) (k53 : PySem.W.keepIn K (.ref f53) = true)
    (a54 : PySem.W.nsIn K mainGlobals "_law_same" = some (some (.ref f54))) (l54 : K.lookup f54 = some ⟨oc54, od54, .func (PySem.W.fnOf "_law_same" "_law_same" (defArgs s__law_same) (defBody s__law_same) (defScope s__law_same) .none kV54 dc54 pm54 an54 cd54 ct54), sl54⟩) (c54 : PySem.W.codeIn K cd54 "_law_same" = true) (k54 : PySem.W.keepIn K (.ref f54) = true)
    (a55 : PySem.W.nsIn K mainGlobals "_law_track" = some (some (.ref f55))) (l55 : K.lookup f55 = some ⟨oc55, od55, .func (PySem.W.fnOf "_law_track" "_law_track" (defArgs s__law_track) (defBody s__law_track) (defScope s__law_track) .none kV55 dc55 pm55 an55 cd55 ct55), sl55⟩) (c55 : PySem.W.codeIn K cd55 "_law_track" = true) (k55 : PySem.W.keepIn K (.ref f55) = true)
    (a56 : PySem.W.nsIn K mainGlobals "_law_reach" = some (some (.ref f56))) (l56 : K.lookup f56 = some ⟨oc56, od56, .func (PySem.W.fnOf "_law_reach" "_law_reach" (defArgs s__law_reach) (defBody s__law_reach) (defScope s__law_reach) .none kV56 dc56 pm56 an56 cd56 ct56), sl56⟩) (c56 : PySem.W.codeIn K cd56 "_law_reach" = true) (k56 : PySem.W.keepIn K (.ref f56) = true)
    (a57 : PySem.W.nsIn K mainGlobals "_law_steps" = some (some (.ref f57))) (l57 : K.lookup f57 = some ⟨oc57, od57, .func (PySem.W.fnOf "_law_steps" "_law_steps" (defArgs s__law_steps) (defBody s__law_steps) (defScope s__law_steps) .none kV57 dc57 pm57 an57 cd57 ct57), sl57⟩) (c57 : PySem.W.codeIn K cd57 "_law_steps" = true) (k57 : PySem.W.keepIn K (.ref f57) = true)
    (a58 : PySem.W.nsIn K mainGlobals "_law_way" = some (some (.ref f58))) (l58 : K.lookup f58 = some ⟨oc58, od58, .func (PySem.W.fnOf "_law_way" "_law_way" (defArgs s__law_way) (defBody s__law_way) (defScope s__law_way) .none kV58 dc58 pm58 an58 cd58 ct58), sl58⟩) (c58 : PySem.W.codeIn K cd58 "_law_way" = true) (k58 : PySem.W.keepIn K (.ref f58) = true)
    (a59 : PySem.W.nsIn K mainGlobals "_law_course" = some (some (.ref f59))) (l59 : K.lookup f59 = some ⟨oc59, od59, .func (PySem.W.fnOf "_law_course" "_law_course" (defArgs s__law_course) (defBody s__law_course) (defScope s__law_course) .none kV59 dc59 pm59 an59 cd59 ct59), sl59⟩) (c59 : PySem.W.codeIn K cd59 "_law_course" = true) (k59 : PySem.W.keepIn K (.ref f59) = true)
    (a60 : PySem.W.nsIn K mainGlobals "_law_race" = some (some (.ref f60))) (l60 : K.lookup f60 = some ⟨oc60, od60, .func (PySem.W.fnOf "_law_race" "_law_race" (defArgs s__law_race) (defBody s__law_race) (defScope s__law_race) .none kV60 dc60 pm60 an60 cd60 ct60), sl60⟩) (c60 : PySem.W.codeIn K cd60 "_law_race" = true) (k60 : PySem.W.keepIn K (.ref f60) = true)
    (a61 : PySem.W.nsIn K mainGlobals "_law_full" = some (some (.ref f61))) (l61 : K.lookup f61 = some ⟨oc61, od61, .func (PySem.W.fnOf "_law_full" "_law_full" (defArgs s__law_full) (defBody s__law_full) (defScope s__law_full) .none kV61 dc61 pm61 an61 cd61 ct61), sl61⟩) (c61 : PySem.W.codeIn K cd61 "_law_full" = true) (k61 : PySem.W.keepIn K (.ref f61) = true)
    (a62 : PySem.W.nsIn K mainGlobals "_law_windows" = some (some (.ref f62))) (l62 : K.lookup f62 = some ⟨oc62, od62, .func (PySem.W.fnOf "_law_windows" "_law_windows" (defArgs s__law_windows) (defBody s__law_windows) (defScope s__law_windows) .none kV62 dc62 pm62 an62 cd62 ct62), sl62⟩) (c62 : PySem.W.codeIn K cd62 "_law_windows" = true) (k62 : PySem.W.keepIn K (.ref f62) = true)
    (a63 : PySem.W.nsIn K mainGlobals "_law_missed" = some (some (.ref f63))) (l63 : K.lookup f63 = some ⟨oc63, od63, .func (PySem.W.fnOf "_law_missed" "_law_missed" (defArgs s__law_missed) (defBody s__law_missed) (defScope s__law_missed) .none kV63 dc63 pm63 an63 cd63 ct63), sl63⟩) (c63 : PySem.W.codeIn K cd63 "_law_missed" = true) (k63 : PySem.W.keepIn K (.ref f63) = true)
    (a64 : PySem.W.nsIn K mainGlobals "_law_is_told" = some (some (.ref f64))) (l64 : K.lookup f64 = some ⟨oc64, od64, .func (PySem.W.fnOf "_law_is_told" "_law_is_told" (defArgs s__law_is_told) (defBody s__law_is_told) (defScope s__law_is_told) .none kV64 dc64 pm64 an64 cd64 ct64), sl64⟩) (c64 : PySem.W.codeIn K cd64 "_law_is_told" = true) (k64 : PySem.W.keepIn K (.ref f64) = true)
    (a65 : PySem.W.nsIn K mainGlobals "_law_right" = some (some (.ref f65))) (l65 : K.lookup f65 = some ⟨oc65, od65, .func (PySem.W.fnOf "_law_right" "_law_right" (defArgs s__law_right) (defBody s__law_right) (defScope s__law_right) .none kV65 dc65 pm65 an65 cd65 ct65), sl65⟩) (c65 : PySem.W.codeIn K cd65 "_law_right" = true) (k65 : PySem.W.keepIn K (.ref f65) = true)
    (a66 : PySem.W.nsIn K mainGlobals "_law_far" = some (some (.ref f66))) (l66 : K.lookup f66 = some ⟨oc66, od66, .func (PySem.W.fnOf "_law_far" "_law_far" (defArgs s__law_far) (defBody s__law_far) (defScope s__law_far) .none kV66 dc66 pm66 an66 cd66 ct66), sl66⟩) (c66 : PySem.W.codeIn K cd66 "_law_far" = true) (k66 : PySem.W.keepIn K (.ref f66) = true)
    (a67 : PySem.W.nsIn K mainGlobals "_law_windows_right" = some (some (.ref f67))) (l67 : K.lookup f67 = some ⟨oc67, od67, .func (PySem.W.fnOf "_law_windows_right" "_law_windows_right" (defArgs s__law_windows_right) (defBody s__law_windows_right) (defScope s__law_windows_right) .none kV67 dc67 pm67 an67 cd67 ct67), sl67⟩) (c67 : PySem.W.codeIn K cd67 "_law_windows_right" = true) (k67 : PySem.W.keepIn K (.ref f67) = true)
    (a68 : PySem.W.nsIn K mainGlobals "law" = some (some (.ref f68))) (l68 : K.lookup f68 = some ⟨oc68, od68, .func (PySem.W.fnOf "law" "law" (defArgs s_law) (defBody s_law) (defScope s_law) .none kV68 dc68 pm68 an68 cd68 ct68), sl68⟩) (c68 : PySem.W.codeIn K cd68 "law" = true) (k68 : PySem.W.keepIn K (.ref f68) = true)
    {C_InvalidBag I_InvalidBag : Addr} {p0_InvalidBag p1_InvalidBag p2_InvalidBag p3_InvalidBag p4_InvalidBag p5_InvalidBag : Pos} {nm_InvalidBag qn_InvalidBag qi_InvalidBag : Str} {N_InvalidBag : Addr} {bs_InvalidBag bm_InvalidBag sub_InvalidBag : List Value} {sn_InvalidBag : List Str} {ab_InvalidBag : Bool} {col_InvalidBag : Option Bool} {dd_InvalidBag od_InvalidBag an_InvalidBag : Option Addr} {m0_InvalidBag m1_InvalidBag m2_InvalidBag m3_InvalidBag m5_InvalidBag : Option Value} {oc_InvalidBag doc_InvalidBag pm_InvalidBag cdv_InvalidBag ct_InvalidBag : Value} {osl_InvalidBag : Array (Option Value)}
    (ea_InvalidBag : PySem.W.nsIn K mainGlobals "InvalidBag" = some (some (.ref C_InvalidBag))) (eb_InvalidBag : K.lookup C_InvalidBag = some (excClassObj nm_InvalidBag qn_InvalidBag C_InvalidBag N_InvalidBag bs_InvalidBag bm_InvalidBag true sn_InvalidBag sub_InvalidBag ab_InvalidBag col_InvalidBag dd_InvalidBag m0_InvalidBag m1_InvalidBag m2_InvalidBag m3_InvalidBag m5_InvalidBag "ValueError.__new__"))
    (ec_InvalidBag : PySem.W.findIn K (.ref C_InvalidBag) "__init__" = some (some (.ref I_InvalidBag)))
    (ed_InvalidBag : K.lookup I_InvalidBag = some ⟨oc_InvalidBag, od_InvalidBag, .func (PySem.W.fnOf "__init__" qi_InvalidBag (PySem.GX.iA "index" p0_InvalidBag p1_InvalidBag) (PySem.GX.iB "index" p2_InvalidBag p3_InvalidBag p4_InvalidBag p5_InvalidBag) (PySem.GX.iS "index") .none .none doc_InvalidBag pm_InvalidBag an_InvalidBag cdv_InvalidBag ct_InvalidBag), osl_InvalidBag⟩) (ee_InvalidBag : PySem.W.codeIn K cdv_InvalidBag qi_InvalidBag = true)
    (ef_InvalidBag : PySem.W.findIn K (.ref C_InvalidBag) "__setattr__" = some (some (.builtin "object.__setattr__"))) (eg_InvalidBag : PySem.W.findIn K (.ref C_InvalidBag) "index" = some none) (eh_InvalidBag : PySem.W.typeIn K (.ref I_InvalidBag) = some (.type "function")) (ei_InvalidBag : PySem.W.keepIn K (.ref C_InvalidBag) = true) (ej_InvalidBag : PySem.W.subIn K (.ref C_InvalidBag) (.type "BaseException") = some true) (ek_InvalidBag : PySem.W.typeIn K (.ref C_InvalidBag) = some (.type "type"))
    {C_InvalidExtras I_InvalidExtras : Addr} {p0_InvalidExtras p1_InvalidExtras p2_InvalidExtras p3_InvalidExtras p4_InvalidExtras p5_InvalidExtras : Pos} {nm_InvalidExtras qn_InvalidExtras qi_InvalidExtras : Str} {N_InvalidExtras : Addr} {bs_InvalidExtras bm_InvalidExtras sub_InvalidExtras : List Value} {sn_InvalidExtras : List Str} {ab_InvalidExtras : Bool} {col_InvalidExtras : Option Bool} {dd_InvalidExtras od_InvalidExtras an_InvalidExtras : Option Addr} {m0_InvalidExtras m1_InvalidExtras m2_InvalidExtras m3_InvalidExtras m5_InvalidExtras : Option Value} {oc_InvalidExtras doc_InvalidExtras pm_InvalidExtras cdv_InvalidExtras ct_InvalidExtras : Value} {osl_InvalidExtras : Array (Option Value)}
    (ea_InvalidExtras : PySem.W.nsIn K mainGlobals "InvalidExtras" = some (some (.ref C_InvalidExtras))) (eb_InvalidExtras : K.lookup C_InvalidExtras = some (excClassObj nm_InvalidExtras qn_InvalidExtras C_InvalidExtras N_InvalidExtras bs_InvalidExtras bm_InvalidExtras true sn_InvalidExtras sub_InvalidExtras ab_InvalidExtras col_InvalidExtras dd_InvalidExtras m0_InvalidExtras m1_InvalidExtras m2_InvalidExtras m3_InvalidExtras m5_InvalidExtras "ValueError.__new__"))
    (ec_InvalidExtras : PySem.W.findIn K (.ref C_InvalidExtras) "__init__" = some (some (.ref I_InvalidExtras)))
    (ed_InvalidExtras : K.lookup I_InvalidExtras = some ⟨oc_InvalidExtras, od_InvalidExtras, .func (PySem.W.fnOf "__init__" qi_InvalidExtras (PySem.GX.iA "index" p0_InvalidExtras p1_InvalidExtras) (PySem.GX.iB "index" p2_InvalidExtras p3_InvalidExtras p4_InvalidExtras p5_InvalidExtras) (PySem.GX.iS "index") .none .none doc_InvalidExtras pm_InvalidExtras an_InvalidExtras cdv_InvalidExtras ct_InvalidExtras), osl_InvalidExtras⟩) (ee_InvalidExtras : PySem.W.codeIn K cdv_InvalidExtras qi_InvalidExtras = true)
    (ef_InvalidExtras : PySem.W.findIn K (.ref C_InvalidExtras) "__setattr__" = some (some (.builtin "object.__setattr__"))) (eg_InvalidExtras : PySem.W.findIn K (.ref C_InvalidExtras) "index" = some none) (eh_InvalidExtras : PySem.W.typeIn K (.ref I_InvalidExtras) = some (.type "function")) (ei_InvalidExtras : PySem.W.keepIn K (.ref C_InvalidExtras) = true) (ej_InvalidExtras : PySem.W.subIn K (.ref C_InvalidExtras) (.type "BaseException") = some true) (ek_InvalidExtras : PySem.W.typeIn K (.ref C_InvalidExtras) = some (.type "type"))
    {C_InvalidMark I_InvalidMark : Addr} {p0_InvalidMark p1_InvalidMark p2_InvalidMark p3_InvalidMark p4_InvalidMark p5_InvalidMark : Pos} {nm_InvalidMark qn_InvalidMark qi_InvalidMark : Str} {N_InvalidMark : Addr} {bs_InvalidMark bm_InvalidMark sub_InvalidMark : List Value} {sn_InvalidMark : List Str} {ab_InvalidMark : Bool} {col_InvalidMark : Option Bool} {dd_InvalidMark od_InvalidMark an_InvalidMark : Option Addr} {m0_InvalidMark m1_InvalidMark m2_InvalidMark m3_InvalidMark m5_InvalidMark : Option Value} {oc_InvalidMark doc_InvalidMark pm_InvalidMark cdv_InvalidMark ct_InvalidMark : Value} {osl_InvalidMark : Array (Option Value)}
    (ea_InvalidMark : PySem.W.nsIn K mainGlobals "InvalidMark" = some (some (.ref C_InvalidMark))) (eb_InvalidMark : K.lookup C_InvalidMark = some (excClassObj nm_InvalidMark qn_InvalidMark C_InvalidMark N_InvalidMark bs_InvalidMark bm_InvalidMark true sn_InvalidMark sub_InvalidMark ab_InvalidMark col_InvalidMark dd_InvalidMark m0_InvalidMark m1_InvalidMark m2_InvalidMark m3_InvalidMark m5_InvalidMark "ValueError.__new__"))
    (ec_InvalidMark : PySem.W.findIn K (.ref C_InvalidMark) "__init__" = some (some (.ref I_InvalidMark)))
    (ed_InvalidMark : K.lookup I_InvalidMark = some ⟨oc_InvalidMark, od_InvalidMark, .func (PySem.W.fnOf "__init__" qi_InvalidMark (PySem.GX.iA "given" p0_InvalidMark p1_InvalidMark) (PySem.GX.iB "given" p2_InvalidMark p3_InvalidMark p4_InvalidMark p5_InvalidMark) (PySem.GX.iS "given") .none .none doc_InvalidMark pm_InvalidMark an_InvalidMark cdv_InvalidMark ct_InvalidMark), osl_InvalidMark⟩) (ee_InvalidMark : PySem.W.codeIn K cdv_InvalidMark qi_InvalidMark = true)
    (ef_InvalidMark : PySem.W.findIn K (.ref C_InvalidMark) "__setattr__" = some (some (.builtin "object.__setattr__"))) (eg_InvalidMark : PySem.W.findIn K (.ref C_InvalidMark) "given" = some none) (eh_InvalidMark : PySem.W.typeIn K (.ref I_InvalidMark) = some (.type "function")) (ei_InvalidMark : PySem.W.keepIn K (.ref C_InvalidMark) = true) (ej_InvalidMark : PySem.W.subIn K (.ref C_InvalidMark) (.type "BaseException") = some true) (ek_InvalidMark : PySem.W.typeIn K (.ref C_InvalidMark) = some (.type "type"))
    {C_InvalidMat I_InvalidMat : Addr} {p0_InvalidMat p1_InvalidMat p2_InvalidMat p3_InvalidMat p4_InvalidMat p5_InvalidMat : Pos} {nm_InvalidMat qn_InvalidMat qi_InvalidMat : Str} {N_InvalidMat : Addr} {bs_InvalidMat bm_InvalidMat sub_InvalidMat : List Value} {sn_InvalidMat : List Str} {ab_InvalidMat : Bool} {col_InvalidMat : Option Bool} {dd_InvalidMat od_InvalidMat an_InvalidMat : Option Addr} {m0_InvalidMat m1_InvalidMat m2_InvalidMat m3_InvalidMat m5_InvalidMat : Option Value} {oc_InvalidMat doc_InvalidMat pm_InvalidMat cdv_InvalidMat ct_InvalidMat : Value} {osl_InvalidMat : Array (Option Value)}
    (ea_InvalidMat : PySem.W.nsIn K mainGlobals "InvalidMat" = some (some (.ref C_InvalidMat))) (eb_InvalidMat : K.lookup C_InvalidMat = some (excClassObj nm_InvalidMat qn_InvalidMat C_InvalidMat N_InvalidMat bs_InvalidMat bm_InvalidMat true sn_InvalidMat sub_InvalidMat ab_InvalidMat col_InvalidMat dd_InvalidMat m0_InvalidMat m1_InvalidMat m2_InvalidMat m3_InvalidMat m5_InvalidMat "ValueError.__new__"))
    (ec_InvalidMat : PySem.W.findIn K (.ref C_InvalidMat) "__init__" = some (some (.ref I_InvalidMat)))
    (ed_InvalidMat : K.lookup I_InvalidMat = some ⟨oc_InvalidMat, od_InvalidMat, .func (PySem.W.fnOf "__init__" qi_InvalidMat (PySem.GX.iA "given" p0_InvalidMat p1_InvalidMat) (PySem.GX.iB "given" p2_InvalidMat p3_InvalidMat p4_InvalidMat p5_InvalidMat) (PySem.GX.iS "given") .none .none doc_InvalidMat pm_InvalidMat an_InvalidMat cdv_InvalidMat ct_InvalidMat), osl_InvalidMat⟩) (ee_InvalidMat : PySem.W.codeIn K cdv_InvalidMat qi_InvalidMat = true)
    (ef_InvalidMat : PySem.W.findIn K (.ref C_InvalidMat) "__setattr__" = some (some (.builtin "object.__setattr__"))) (eg_InvalidMat : PySem.W.findIn K (.ref C_InvalidMat) "given" = some none) (eh_InvalidMat : PySem.W.typeIn K (.ref I_InvalidMat) = some (.type "function")) (ei_InvalidMat : PySem.W.keepIn K (.ref C_InvalidMat) = true) (ej_InvalidMat : PySem.W.subIn K (.ref C_InvalidMat) (.type "BaseException") = some true) (ek_InvalidMat : PySem.W.typeIn K (.ref C_InvalidMat) = some (.type "type"))
    {C_InvalidRace I_InvalidRace : Addr} {p0_InvalidRace p1_InvalidRace p2_InvalidRace p3_InvalidRace p4_InvalidRace p5_InvalidRace : Pos} {nm_InvalidRace qn_InvalidRace qi_InvalidRace : Str} {N_InvalidRace : Addr} {bs_InvalidRace bm_InvalidRace sub_InvalidRace : List Value} {sn_InvalidRace : List Str} {ab_InvalidRace : Bool} {col_InvalidRace : Option Bool} {dd_InvalidRace od_InvalidRace an_InvalidRace : Option Addr} {m0_InvalidRace m1_InvalidRace m2_InvalidRace m3_InvalidRace m5_InvalidRace : Option Value} {oc_InvalidRace doc_InvalidRace pm_InvalidRace cdv_InvalidRace ct_InvalidRace : Value} {osl_InvalidRace : Array (Option Value)}
    (ea_InvalidRace : PySem.W.nsIn K mainGlobals "InvalidRace" = some (some (.ref C_InvalidRace))) (eb_InvalidRace : K.lookup C_InvalidRace = some (excClassObj nm_InvalidRace qn_InvalidRace C_InvalidRace N_InvalidRace bs_InvalidRace bm_InvalidRace true sn_InvalidRace sub_InvalidRace ab_InvalidRace col_InvalidRace dd_InvalidRace m0_InvalidRace m1_InvalidRace m2_InvalidRace m3_InvalidRace m5_InvalidRace "ValueError.__new__"))
    (ec_InvalidRace : PySem.W.findIn K (.ref C_InvalidRace) "__init__" = some (some (.ref I_InvalidRace)))
    (ed_InvalidRace : K.lookup I_InvalidRace = some ⟨oc_InvalidRace, od_InvalidRace, .func (PySem.W.fnOf "__init__" qi_InvalidRace (PySem.GX.iA "given" p0_InvalidRace p1_InvalidRace) (PySem.GX.iB "given" p2_InvalidRace p3_InvalidRace p4_InvalidRace p5_InvalidRace) (PySem.GX.iS "given") .none .none doc_InvalidRace pm_InvalidRace an_InvalidRace cdv_InvalidRace ct_InvalidRace), osl_InvalidRace⟩) (ee_InvalidRace : PySem.W.codeIn K cdv_InvalidRace qi_InvalidRace = true)
    (ef_InvalidRace : PySem.W.findIn K (.ref C_InvalidRace) "__setattr__" = some (some (.builtin "object.__setattr__"))) (eg_InvalidRace : PySem.W.findIn K (.ref C_InvalidRace) "given" = some none) (eh_InvalidRace : PySem.W.typeIn K (.ref I_InvalidRace) = some (.type "function")) (ei_InvalidRace : PySem.W.keepIn K (.ref C_InvalidRace) = true) (ej_InvalidRace : PySem.W.subIn K (.ref C_InvalidRace) (.type "BaseException") = some true) (ek_InvalidRace : PySem.W.typeIn K (.ref C_InvalidRace) = some (.type "type"))
    {C_InvalidRunner I_InvalidRunner : Addr} {p0_InvalidRunner p1_InvalidRunner p2_InvalidRunner p3_InvalidRunner p4_InvalidRunner p5_InvalidRunner : Pos} {nm_InvalidRunner qn_InvalidRunner qi_InvalidRunner : Str} {N_InvalidRunner : Addr} {bs_InvalidRunner bm_InvalidRunner sub_InvalidRunner : List Value} {sn_InvalidRunner : List Str} {ab_InvalidRunner : Bool} {col_InvalidRunner : Option Bool} {dd_InvalidRunner od_InvalidRunner an_InvalidRunner : Option Addr} {m0_InvalidRunner m1_InvalidRunner m2_InvalidRunner m3_InvalidRunner m5_InvalidRunner : Option Value} {oc_InvalidRunner doc_InvalidRunner pm_InvalidRunner cdv_InvalidRunner ct_InvalidRunner : Value} {osl_InvalidRunner : Array (Option Value)}
    (ea_InvalidRunner : PySem.W.nsIn K mainGlobals "InvalidRunner" = some (some (.ref C_InvalidRunner))) (eb_InvalidRunner : K.lookup C_InvalidRunner = some (excClassObj nm_InvalidRunner qn_InvalidRunner C_InvalidRunner N_InvalidRunner bs_InvalidRunner bm_InvalidRunner true sn_InvalidRunner sub_InvalidRunner ab_InvalidRunner col_InvalidRunner dd_InvalidRunner m0_InvalidRunner m1_InvalidRunner m2_InvalidRunner m3_InvalidRunner m5_InvalidRunner "ValueError.__new__"))
    (ec_InvalidRunner : PySem.W.findIn K (.ref C_InvalidRunner) "__init__" = some (some (.ref I_InvalidRunner)))
    (ed_InvalidRunner : K.lookup I_InvalidRunner = some ⟨oc_InvalidRunner, od_InvalidRunner, .func (PySem.W.fnOf "__init__" qi_InvalidRunner (PySem.GX.iA "given" p0_InvalidRunner p1_InvalidRunner) (PySem.GX.iB "given" p2_InvalidRunner p3_InvalidRunner p4_InvalidRunner p5_InvalidRunner) (PySem.GX.iS "given") .none .none doc_InvalidRunner pm_InvalidRunner an_InvalidRunner cdv_InvalidRunner ct_InvalidRunner), osl_InvalidRunner⟩) (ee_InvalidRunner : PySem.W.codeIn K cdv_InvalidRunner qi_InvalidRunner = true)
    (ef_InvalidRunner : PySem.W.findIn K (.ref C_InvalidRunner) "__setattr__" = some (some (.builtin "object.__setattr__"))) (eg_InvalidRunner : PySem.W.findIn K (.ref C_InvalidRunner) "given" = some none) (eh_InvalidRunner : PySem.W.typeIn K (.ref I_InvalidRunner) = some (.type "function")) (ei_InvalidRunner : PySem.W.keepIn K (.ref C_InvalidRunner) = true) (ej_InvalidRunner : PySem.W.subIn K (.ref C_InvalidRunner) (.type "BaseException") = some true) (ek_InvalidRunner : PySem.W.typeIn K (.ref C_InvalidRunner) = some (.type "type"))
    {C_InvalidTrack I_InvalidTrack : Addr} {p0_InvalidTrack p1_InvalidTrack p2_InvalidTrack p3_InvalidTrack p4_InvalidTrack p5_InvalidTrack : Pos} {nm_InvalidTrack qn_InvalidTrack qi_InvalidTrack : Str} {N_InvalidTrack : Addr} {bs_InvalidTrack bm_InvalidTrack sub_InvalidTrack : List Value} {sn_InvalidTrack : List Str} {ab_InvalidTrack : Bool} {col_InvalidTrack : Option Bool} {dd_InvalidTrack od_InvalidTrack an_InvalidTrack : Option Addr} {m0_InvalidTrack m1_InvalidTrack m2_InvalidTrack m3_InvalidTrack m5_InvalidTrack : Option Value} {oc_InvalidTrack doc_InvalidTrack pm_InvalidTrack cdv_InvalidTrack ct_InvalidTrack : Value} {osl_InvalidTrack : Array (Option Value)}
    (ea_InvalidTrack : PySem.W.nsIn K mainGlobals "InvalidTrack" = some (some (.ref C_InvalidTrack))) (eb_InvalidTrack : K.lookup C_InvalidTrack = some (excClassObj nm_InvalidTrack qn_InvalidTrack C_InvalidTrack N_InvalidTrack bs_InvalidTrack bm_InvalidTrack true sn_InvalidTrack sub_InvalidTrack ab_InvalidTrack col_InvalidTrack dd_InvalidTrack m0_InvalidTrack m1_InvalidTrack m2_InvalidTrack m3_InvalidTrack m5_InvalidTrack "ValueError.__new__"))
    (ec_InvalidTrack : PySem.W.findIn K (.ref C_InvalidTrack) "__init__" = some (some (.ref I_InvalidTrack)))
    (ed_InvalidTrack : K.lookup I_InvalidTrack = some ⟨oc_InvalidTrack, od_InvalidTrack, .func (PySem.W.fnOf "__init__" qi_InvalidTrack (PySem.GX.iA "given" p0_InvalidTrack p1_InvalidTrack) (PySem.GX.iB "given" p2_InvalidTrack p3_InvalidTrack p4_InvalidTrack p5_InvalidTrack) (PySem.GX.iS "given") .none .none doc_InvalidTrack pm_InvalidTrack an_InvalidTrack cdv_InvalidTrack ct_InvalidTrack), osl_InvalidTrack⟩) (ee_InvalidTrack : PySem.W.codeIn K cdv_InvalidTrack qi_InvalidTrack = true)
    (ef_InvalidTrack : PySem.W.findIn K (.ref C_InvalidTrack) "__setattr__" = some (some (.builtin "object.__setattr__"))) (eg_InvalidTrack : PySem.W.findIn K (.ref C_InvalidTrack) "given" = some none) (eh_InvalidTrack : PySem.W.typeIn K (.ref I_InvalidTrack) = some (.type "function")) (ei_InvalidTrack : PySem.W.keepIn K (.ref C_InvalidTrack) = true) (ej_InvalidTrack : PySem.W.subIn K (.ref C_InvalidTrack) (.type "BaseException") = some true) (ek_InvalidTrack : PySem.W.typeIn K (.ref C_InvalidTrack) = some (.type "type"))
    {C_Unfit : Addr} (ea_Unfit : PySem.W.nsIn K mainGlobals "Unfit" = some (some (.ref C_Unfit))) (ei_Unfit : PySem.W.keepIn K (.ref C_Unfit) = true) (ej_Unfit : PySem.W.subIn K (.ref C_Unfit) (.type "BaseException") = some true) (ek_Unfit : PySem.W.typeIn K (.ref C_Unfit) = some (.type "type"))
    (ex_Unfit : PySem.W.excIn K C_Unfit [.type "ValueError", .type "Exception", .type "BaseException", .type "object"] "ValueError.__new__" = true)
    (er_InvalidBag : PySem.HandSPX.refsVE bm_InvalidBag = true)
    (er_InvalidExtras : PySem.HandSPX.refsVE bm_InvalidExtras = true)
    (er_InvalidMark : PySem.HandSPX.refsVE bm_InvalidMark = true)
    (er_InvalidMat : PySem.HandSPX.refsVE bm_InvalidMat = true)
    (er_InvalidRace : PySem.HandSPX.refsVE bm_InvalidRace = true)
    (er_InvalidRunner : PySem.HandSPX.refsVE bm_InvalidRunner = true)
    (er_InvalidTrack : PySem.HandSPX.refsVE bm_InvalidTrack = true)
    (z_list : PySem.W.nsIn K mainGlobals "list" = some none)
    (z_sum : PySem.W.nsIn K mainGlobals "sum" = some none)
    (z_len : PySem.W.nsIn K mainGlobals "len" = some none)
    (z_divmod : PySem.W.nsIn K mainGlobals "divmod" = some none)
    (z_range : PySem.W.nsIn K mainGlobals "range" = some none)
    (z_isinstance : PySem.W.nsIn K mainGlobals "isinstance" = some none)
    (z_int : PySem.W.nsIn K mainGlobals "int" = some none)
    (z_bool : PySem.W.nsIn K mainGlobals "bool" = some none)
    (z_tuple : PySem.W.nsIn K mainGlobals "tuple" = some none)
    (z_MOST_MATS : PySem.W.nsIn K mainGlobals "MOST_MATS" = some (some (.int 8 tk_MOST_MATS)))
    (z_all : PySem.W.nsIn K mainGlobals "all" = some none)
    (z_MOST_MARKS : PySem.W.nsIn K mainGlobals "MOST_MARKS" = some (some (.int 30 tk_MOST_MARKS)))
    (z_enumerate : PySem.W.nsIn K mainGlobals "enumerate" = some none)
    (z_MOST_RUNNERS : PySem.W.nsIn K mainGlobals "MOST_RUNNERS" = some (some (.int 6 tk_MOST_RUNNERS)))
    (z_zip : PySem.W.nsIn K mainGlobals "zip" = some none)
    (z_abs : PySem.W.nsIn K mainGlobals "abs" = some none)
    (z_str : PySem.W.nsIn K mainGlobals "str" = some none)
    (z_dict : PySem.W.nsIn K mainGlobals "dict" = some none)
    (z_sorted : PySem.W.nsIn K mainGlobals "sorted" = some none)
    (z_min : PySem.W.nsIn K mainGlobals "min" = some none)
    (z_any : PySem.W.nsIn K mainGlobals "any" = some none)
    (z_max : PySem.W.nsIn K mainGlobals "max" = some none)
    : ∃ fd : FuncData, (∀ (s : Shared) (v : Value), BindsTo s fd ⟨[v], []⟩ [("script", v)]) ∧ ∀ base : Heap, K.In base → base.Ns mainGlobals mg → FnG l.prog w K mg base 24 fa fd ["script"] (spG K F_law) := by
  have e := hfa.symm.trans (PySem.W.mg_of X G a68)
  cases e
  have T : Bt mg := ⟨PySem.W.mg_none_of X G z_list, PySem.W.mg_none_of X G z_sum, PySem.W.mg_none_of X G z_len, PySem.W.mg_none_of X G z_divmod, PySem.W.mg_none_of X G z_range, PySem.W.mg_none_of X G z_isinstance, PySem.W.mg_none_of X G z_int, PySem.W.mg_none_of X G z_bool, PySem.W.mg_none_of X G z_tuple, ⟨_, PySem.W.mg_of X G z_MOST_MATS⟩, PySem.W.mg_none_of X G z_all, ⟨_, PySem.W.mg_of X G z_MOST_MARKS⟩, PySem.W.mg_none_of X G z_enumerate, ⟨_, PySem.W.mg_of X G z_MOST_RUNNERS⟩, PySem.W.mg_none_of X G z_zip, PySem.W.mg_none_of X G z_abs, PySem.W.mg_none_of X G z_str, PySem.W.mg_none_of X G z_dict, PySem.W.mg_none_of X G z_sorted, PySem.W.mg_none_of X G z_min, PySem.W.mg_none_of X G z_any, PySem.W.mg_none_of X G z_max⟩
  have NS : ∀ x v, PySem.W.nsIn K mainGlobals x = some (some v) → mg x = some v := fun x v e => PySem.W.mg_of X G e
  have XX : Xt K mg := { ns := NS, r_InvalidBag := ⟨C_InvalidBag, I_InvalidBag, ⟨by decide, NS _ _ ea_InvalidBag, ea_InvalidBag, ⟨_, _, _, _, _, _, _, _, _, _, _, _, _, _, _, eb_InvalidBag, er_InvalidBag⟩, ef_InvalidBag, eg_InvalidBag, ec_InvalidBag, eh_InvalidBag, ei_InvalidBag, ej_InvalidBag, ek_InvalidBag, ⟨_, _, _, _, _, _, _, _, _, _, _, _, _, _, _, ed_InvalidBag, ee_InvalidBag⟩⟩⟩, r_InvalidExtras := ⟨C_InvalidExtras, I_InvalidExtras, ⟨by decide, NS _ _ ea_InvalidExtras, ea_InvalidExtras, ⟨_, _, _, _, _, _, _, _, _, _, _, _, _, _, _, eb_InvalidExtras, er_InvalidExtras⟩, ef_InvalidExtras, eg_InvalidExtras, ec_InvalidExtras, eh_InvalidExtras, ei_InvalidExtras, ej_InvalidExtras, ek_InvalidExtras, ⟨_, _, _, _, _, _, _, _, _, _, _, _, _, _, _, ed_InvalidExtras, ee_InvalidExtras⟩⟩⟩, r_InvalidMark := ⟨C_InvalidMark, I_InvalidMark, ⟨by decide, NS _ _ ea_InvalidMark, ea_InvalidMark, ⟨_, _, _, _, _, _, _, _, _, _, _, _, _, _, _, eb_InvalidMark, er_InvalidMark⟩, ef_InvalidMark, eg_InvalidMark, ec_InvalidMark, eh_InvalidMark, ei_InvalidMark, ej_InvalidMark, ek_InvalidMark, ⟨_, _, _, _, _, _, _, _, _, _, _, _, _, _, _, ed_InvalidMark, ee_InvalidMark⟩⟩⟩, r_InvalidMat := ⟨C_InvalidMat, I_InvalidMat, ⟨by decide, NS _ _ ea_InvalidMat, ea_InvalidMat, ⟨_, _, _, _, _, _, _, _, _, _, _, _, _, _, _, eb_InvalidMat, er_InvalidMat⟩, ef_InvalidMat, eg_InvalidMat, ec_InvalidMat, eh_InvalidMat, ei_InvalidMat, ej_InvalidMat, ek_InvalidMat, ⟨_, _, _, _, _, _, _, _, _, _, _, _, _, _, _, ed_InvalidMat, ee_InvalidMat⟩⟩⟩, r_InvalidRace := ⟨C_InvalidRace, I_InvalidRace, ⟨by decide, NS _ _ ea_InvalidRace, ea_InvalidRace, ⟨_, _, _, _, _, _, _, _, _, _, _, _, _, _, _, eb_InvalidRace, er_InvalidRace⟩, ef_InvalidRace, eg_InvalidRace, ec_InvalidRace, eh_InvalidRace, ei_InvalidRace, ej_InvalidRace, ek_InvalidRace, ⟨_, _, _, _, _, _, _, _, _, _, _, _, _, _, _, ed_InvalidRace, ee_InvalidRace⟩⟩⟩, r_InvalidRunner := ⟨C_InvalidRunner, I_InvalidRunner, ⟨by decide, NS _ _ ea_InvalidRunner, ea_InvalidRunner, ⟨_, _, _, _, _, _, _, _, _, _, _, _, _, _, _, eb_InvalidRunner, er_InvalidRunner⟩, ef_InvalidRunner, eg_InvalidRunner, ec_InvalidRunner, eh_InvalidRunner, ei_InvalidRunner, ej_InvalidRunner, ek_InvalidRunner, ⟨_, _, _, _, _, _, _, _, _, _, _, _, _, _, _, ed_InvalidRunner, ee_InvalidRunner⟩⟩⟩, r_InvalidTrack := ⟨C_InvalidTrack, I_InvalidTrack, ⟨by decide, NS _ _ ea_InvalidTrack, ea_InvalidTrack, ⟨_, _, _, _, _, _, _, _, _, _, _, _, _, _, _, eb_InvalidTrack, er_InvalidTrack⟩, ef_InvalidTrack, eg_InvalidTrack, ec_InvalidTrack, eh_InvalidTrack, ei_InvalidTrack, ej_InvalidTrack, ek_InvalidTrack, ⟨_, _, _, _, _, _, _, _, _, _, _, _, _, _, _, ed_InvalidTrack, ee_InvalidTrack⟩⟩⟩, r_Unfit := ⟨C_Unfit, NS _ _ ea_Unfit, ea_Unfit, ei_Unfit, ej_Unfit, ek_Unfit, ex_Unfit⟩ }
  refine law_fd hfa (fun_mk (st := s_law) l68 c68 k68) (fun s v => .of_eq rfl) fun base _ _ => ?_
  have c_round_by := ok_round_by (P := l.prog) (w := w) (base := base) T XX ⟨_, _, PySem.W.mg_of X G a0, fun_mk l0 c0 k0⟩
  have c_sectors_from := ok_sectors_from (P := l.prog) (w := w) (base := base) T XX ⟨_, _, PySem.W.mg_of X G a1, fun_mk l1 c1 k1⟩
  have c_reach_by := ok_reach_by (P := l.prog) (w := w) (base := base) T XX ⟨_, _, PySem.W.mg_of X G a2, fun_mk l2 c2 k2⟩ c_round_by c_sectors_from
  have c_steps_by := ok_steps_by (P := l.prog) (w := w) (base := base) T XX ⟨_, _, PySem.W.mg_of X G a3, fun_mk l3 c3 k3⟩
  have c_way_by := ok_way_by (P := l.prog) (w := w) (base := base) T XX ⟨_, _, PySem.W.mg_of X G a4, fun_mk l4 c4 k4⟩ c_reach_by c_steps_by
  have c_can_follow_by := ok_can_follow_by (P := l.prog) (w := w) (base := base) T XX ⟨_, _, PySem.W.mg_of X G a5, fun_mk l5 c5 k5⟩ c_way_by
  have c_wrong_marks_by := ok_wrong_marks_by (P := l.prog) (w := w) (base := base) T XX ⟨_, _, PySem.W.mg_of X G a6, fun_mk l6 c6 k6⟩ c_can_follow_by
  have c_is_row_by := ok_is_row_by (P := l.prog) (w := w) (base := base) T XX ⟨_, _, PySem.W.mg_of X G a7, fun_mk l7 c7 k7⟩ c_wrong_marks_by
  have c_is_whole := ok_is_whole (P := l.prog) (w := w) (base := base) T XX ⟨_, _, PySem.W.mg_of X G a8, fun_mk l8 c8 k8⟩
  have c_is_between := ok_is_between (P := l.prog) (w := w) (base := base) T XX ⟨_, _, PySem.W.mg_of X G a9, fun_mk l9 c9 k9⟩ c_is_whole
  have c_is_up_to := ok_is_up_to (P := l.prog) (w := w) (base := base) T XX ⟨_, _, PySem.W.mg_of X G a10, fun_mk l10 c10 k10⟩ c_is_between
  have c_is_from := ok_is_from (P := l.prog) (w := w) (base := base) T XX ⟨_, _, PySem.W.mg_of X G a11, fun_mk l11 c11 k11⟩ c_is_whole
  have c_is_tuple_up_to := ok_is_tuple_up_to (P := l.prog) (w := w) (base := base) T XX ⟨_, _, PySem.W.mg_of X G a12, fun_mk l12 c12 k12⟩
  have c_is_tuple_of := ok_is_tuple_of (P := l.prog) (w := w) (base := base) T XX ⟨_, _, PySem.W.mg_of X G a13, fun_mk l13 c13 k13⟩ c_is_tuple_up_to
  have c_is_pair := ok_is_pair (P := l.prog) (w := w) (base := base) T XX ⟨_, _, PySem.W.mg_of X G a14, fun_mk l14 c14 k14⟩ c_is_tuple_of
  have c_is_track_of := ok_is_track_of (P := l.prog) (w := w) (base := base) T XX ⟨_, _, PySem.W.mg_of X G a15, fun_mk l15 c15 k15⟩ c_is_tuple_up_to c_is_from
  have c_is_mat_of := ok_is_mat_of (P := l.prog) (w := w) (base := base) T XX ⟨_, _, PySem.W.mg_of X G a16, fun_mk l16 c16 k16⟩ c_is_up_to
  have c_is_mark_of := ok_is_mark_of (P := l.prog) (w := w) (base := base) T XX ⟨_, _, PySem.W.mg_of X G a17, fun_mk l17 c17 k17⟩ c_is_pair c_is_from c_is_mat_of
  have c_wrong_in_bag := ok_wrong_in_bag (P := l.prog) (w := w) (base := base) T XX ⟨_, _, PySem.W.mg_of X G a18, fun_mk l18 c18 k18⟩ c_is_tuple_up_to c_is_mark_of
  have c_is_bag_of := ok_is_bag_of (P := l.prog) (w := w) (base := base) T XX ⟨_, _, PySem.W.mg_of X G a19, fun_mk l19 c19 k19⟩ c_wrong_in_bag
  have c_is_full_row := ok_is_full_row (P := l.prog) (w := w) (base := base) T XX ⟨_, _, PySem.W.mg_of X G a20, fun_mk l20 c20 k20⟩ c_is_bag_of c_is_row_by
  have c_is_race_of := ok_is_race_of (P := l.prog) (w := w) (base := base) T XX ⟨_, _, PySem.W.mg_of X G a21, fun_mk l21 c21 k21⟩ c_is_pair c_is_from c_is_tuple_up_to c_is_full_row
  have c_is_runner_of := ok_is_runner_of (P := l.prog) (w := w) (base := base) T XX ⟨_, _, PySem.W.mg_of X G a22, fun_mk l22 c22 k22⟩ c_is_up_to
  have c_check_track := ok_check_track (P := l.prog) (w := w) (base := base) T XX ⟨_, _, PySem.W.mg_of X G a23, fun_mk l23 c23 k23⟩ c_is_track_of
  have c_check_mat := ok_check_mat (P := l.prog) (w := w) (base := base) T XX ⟨_, _, PySem.W.mg_of X G a24, fun_mk l24 c24 k24⟩ c_is_mat_of
  have c_check_mark := ok_check_mark (P := l.prog) (w := w) (base := base) T XX ⟨_, _, PySem.W.mg_of X G a25, fun_mk l25 c25 k25⟩ c_is_mark_of
  have c_check_bag := ok_check_bag (P := l.prog) (w := w) (base := base) T XX ⟨_, _, PySem.W.mg_of X G a26, fun_mk l26 c26 k26⟩ c_wrong_in_bag
  have c_check_fit_row := ok_check_fit_row (P := l.prog) (w := w) (base := base) T XX ⟨_, _, PySem.W.mg_of X G a27, fun_mk l27 c27 k27⟩ c_is_row_by
  have c_check_race := ok_check_race (P := l.prog) (w := w) (base := base) T XX ⟨_, _, PySem.W.mg_of X G a28, fun_mk l28 c28 k28⟩ c_is_race_of
  have c_check_runner := ok_check_runner (P := l.prog) (w := w) (base := base) T XX ⟨_, _, PySem.W.mg_of X G a29, fun_mk l29 c29 k29⟩ c_is_runner_of
  have c_extra_by := ok_extra_by (P := l.prog) (w := w) (base := base) T XX ⟨_, _, PySem.W.mg_of X G a30, fun_mk l30 c30 k30⟩ c_way_by c_round_by
  have c_extras_by := ok_extras_by (P := l.prog) (w := w) (base := base) T XX ⟨_, _, PySem.W.mg_of X G a31, fun_mk l31 c31 k31⟩ c_extra_by
  have c_wrong_in_extras := ok_wrong_in_extras (P := l.prog) (w := w) (base := base) T XX ⟨_, _, PySem.W.mg_of X G a32, fun_mk l32 c32 k32⟩ c_extras_by c_is_tuple_of c_is_up_to
  have c_mats_between := ok_mats_between (P := l.prog) (w := w) (base := base) T XX ⟨_, _, PySem.W.mg_of X G a33, fun_mk l33 c33 k33⟩ c_steps_by
  have c_missed_by := ok_missed_by (P := l.prog) (w := w) (base := base) T XX ⟨_, _, PySem.W.mg_of X G a34, fun_mk l34 c34 k34⟩ c_mats_between
  have c_full_row_by := ok_full_row_by (P := l.prog) (w := w) (base := base) T XX ⟨_, _, PySem.W.mg_of X G a35, fun_mk l35 c35 k35⟩
  have c_full_rows_of := ok_full_rows_of (P := l.prog) (w := w) (base := base) T XX ⟨_, _, PySem.W.mg_of X G a36, fun_mk l36 c36 k36⟩ c_full_row_by
  have c_no_extras := ok_no_extras (P := l.prog) (w := w) (base := base) T XX ⟨_, _, PySem.W.mg_of X G a37, fun_mk l37 c37 k37⟩
  have c_least_misses_by := ok_least_misses_by (P := l.prog) (w := w) (base := base) T XX ⟨_, _, PySem.W.mg_of X G a38, fun_mk l38 c38 k38⟩ c_full_rows_of c_missed_by c_no_extras
  have c_windows_in := ok_windows_in (P := l.prog) (w := w) (base := base) T XX ⟨_, _, PySem.W.mg_of X G a39, fun_mk l39 c39 k39⟩ c_mats_between c_way_by
  have c_windows_by := ok_windows_by (P := l.prog) (w := w) (base := base) T XX ⟨_, _, PySem.W.mg_of X G a40, fun_mk l40 c40 k40⟩ c_full_rows_of c_windows_in
  have c_check_raced_misses := ok_check_raced_misses (P := l.prog) (w := w) (base := base) T XX ⟨_, _, PySem.W.mg_of X G a41, fun_mk l41 c41 k41⟩ c_check_track c_check_race
  have c_check_looked_at := ok_check_looked_at (P := l.prog) (w := w) (base := base) T XX ⟨_, _, PySem.W.mg_of X G a42, fun_mk l42 c42 k42⟩ c_check_raced_misses c_check_mat
  have c_least_misses := ok_least_misses (P := l.prog) (w := w) (base := base) T XX ⟨_, _, PySem.W.mg_of X G a43, fun_mk l43 c43 k43⟩ c_check_raced_misses c_least_misses_by
  have c_windows := ok_windows (P := l.prog) (w := w) (base := base) T XX ⟨_, _, PySem.W.mg_of X G a44, fun_mk l44 c44 k44⟩ c_check_looked_at c_windows_by
  have c_check_marks := ok_check_marks (P := l.prog) (w := w) (base := base) T XX ⟨_, _, PySem.W.mg_of X G a45, fun_mk l45 c45 k45⟩ c_check_track c_check_bag
  have c_all_most := ok_all_most (P := l.prog) (w := w) (base := base) T XX ⟨_, _, PySem.W.mg_of X G a46, fun_mk l46 c46 k46⟩ c_check_marks c_check_fit_row c_extras_by
  have c_missed := ok_missed (P := l.prog) (w := w) (base := base) T XX ⟨_, _, PySem.W.mg_of X G a47, fun_mk l47 c47 k47⟩ c_check_marks c_check_fit_row c_wrong_in_extras c_missed_by
  have c_can_follow := ok_can_follow (P := l.prog) (w := w) (base := base) T XX ⟨_, _, PySem.W.mg_of X G a48, fun_mk l48 c48 k48⟩ c_check_track c_check_mark c_can_follow_by
  have c_check_raced_races := ok_check_raced_races (P := l.prog) (w := w) (base := base) T XX ⟨_, _, PySem.W.mg_of X G a49, fun_mk l49 c49 k49⟩ c_check_track c_check_race c_check_runner
  have c_full_row := ok_full_row (P := l.prog) (w := w) (base := base) T XX ⟨_, _, PySem.W.mg_of X G a50, fun_mk l50 c50 k50⟩ c_check_raced_races c_full_row_by
  have c__law_well := ok__law_well (P := l.prog) (w := w) (base := base) T XX ⟨_, _, PySem.W.mg_of X G a51, fun_mk l51 c51 k51⟩
  have c__law_take := ok__law_take (P := l.prog) (w := w) (base := base) T XX ⟨_, _, PySem.W.mg_of X G a52, fun_mk l52 c52 k52⟩
  have c__law_of := ok__law_of (P := l.prog) (w := w) (base := base) T XX ⟨_, _, PySem.W.mg_of X G a53, fun_mk l53 c53 k53⟩ c__law_take
  have c__law_same := ok__law_same (P := l.prog) (w := w) (base := base) T XX ⟨_, _, PySem.W.mg_of X G a54, fun_mk l54 c54 k54⟩
  have c__law_track := ok__law_track (P := l.prog) (w := w) (base := base) T XX ⟨_, _, PySem.W.mg_of X G a55, fun_mk l55 c55 k55⟩ c__law_of c__law_take
  have c__law_reach := ok__law_reach (P := l.prog) (w := w) (base := base) T XX ⟨_, _, PySem.W.mg_of X G a56, fun_mk l56 c56 k56⟩
  have c__law_steps := ok__law_steps (P := l.prog) (w := w) (base := base) T XX ⟨_, _, PySem.W.mg_of X G a57, fun_mk l57 c57 k57⟩
  have c__law_way := ok__law_way (P := l.prog) (w := w) (base := base) T XX ⟨_, _, PySem.W.mg_of X G a58, fun_mk l58 c58 k58⟩ c__law_reach c__law_steps
  have c__law_course := ok__law_course (P := l.prog) (w := w) (base := base) T XX ⟨_, _, PySem.W.mg_of X G a59, fun_mk l59 c59 k59⟩ c__law_of c__law_take
  have c__law_race := ok__law_race (P := l.prog) (w := w) (base := base) T XX ⟨_, _, PySem.W.mg_of X G a60, fun_mk l60 c60 k60⟩ c__law_of c__law_take c__law_course
  have c__law_full := ok__law_full (P := l.prog) (w := w) (base := base) T XX ⟨_, _, PySem.W.mg_of X G a61, fun_mk l61 c61 k61⟩
  have c__law_windows := ok__law_windows (P := l.prog) (w := w) (base := base) T XX ⟨_, _, PySem.W.mg_of X G a62, fun_mk l62 c62 k62⟩ c__law_full c__law_steps c__law_way c__law_reach
  have c__law_missed := ok__law_missed (P := l.prog) (w := w) (base := base) T XX ⟨_, _, PySem.W.mg_of X G a63, fun_mk l63 c63 k63⟩ c__law_steps
  have c__law_is_told := ok__law_is_told (P := l.prog) (w := w) (base := base) T XX ⟨_, _, PySem.W.mg_of X G a64, fun_mk l64 c64 k64⟩ c__law_full c__law_missed c__law_take c_least_misses c__law_same c_windows c_full_row c_missed c_all_most
  have c__law_right := ok__law_right (P := l.prog) (w := w) (base := base) T XX ⟨_, _, PySem.W.mg_of X G a65, fun_mk l65 c65 k65⟩ c__law_track c__law_is_told c__law_race
  have c__law_far := ok__law_far (P := l.prog) (w := w) (base := base) T XX ⟨_, _, PySem.W.mg_of X G a66, fun_mk l66 c66 k66⟩ c__law_take
  have c__law_windows_right := ok__law_windows_right (P := l.prog) (w := w) (base := base) T XX ⟨_, _, PySem.W.mg_of X G a67, fun_mk l67 c67 k67⟩ c__law_track c__law_far c__law_race c__law_take c__law_windows c_windows c__law_same c_full_row c_can_follow
  have c_law := ok_law (P := l.prog) (w := w) (base := base) T XX ⟨_, _, PySem.W.mg_of X G a68, fun_mk l68 c68 k68⟩ c__law_well c__law_right c__law_windows_right
  exact c_law
end K41
open PySem PySem.W PyProof.Rows
set_option maxRecDepth 100000 in
set_option maxHeartbeats 0 in
theorem PySem.Challenge.cw_lapmats_k41_whole_least_misses_and_windo_holds : PySem.Challenge.rw_lapmats_k41_whole_least_misses_and_windo.Holds := by
  w_on; o_law; k_head; (case hw => w_witness2)
  k_fill
  refine G.walk_end (l := PySem.Challenge.rw_lapmats_k41_whole_least_misses_and_windo) (n := 63) (k := 24) (x := "script") (F := K41.F_law) rfl (by decide) rfl ⟨rfl, by decide, by decide⟩ (fun w h Y => PySem.W.kIn_of Y) ?F K41.law_true
  case F =>
    intro w mg fa h KX G hmg
    refine' K41.all_mk KX G hmg ?a0 ?l0 ?c0 ?k0 ?a1 ?l1 ?c1 ?k1 ?a2 ?l2 ?c2 ?k2 ?a3 ?l3 ?c3 ?k3 ?a4 ?l4 ?c4 ?k4 ?a5 ?l5 ?c5 ?k5 ?a6 ?l6 ?c6 ?k6 ?a7 ?l7 ?c7 ?k7 ?a8 ?l8 ?c8 ?k8 ?a9 ?l9 ?c9 ?k9 ?a10 ?l10 ?c10 ?k10 ?a11 ?l11 ?c11 ?k11 ?a12 ?l12 ?c12 ?k12 ?a13 ?l13 ?c13 ?k13 ?a14 ?l14 ?c14 ?k14 ?a15 ?l15 ?c15 ?k15 ?a16 ?l16 ?c16 ?k16 ?a17 ?l17 ?c17 ?k17 ?a18 ?l18 ?c18 ?k18 ?a19 ?l19 ?c19 ?k19 ?a20 ?l20 ?c20 ?k20 ?a21 ?l21 ?c21 ?k21 ?a22 ?l22 ?c22 ?k22 ?a23 ?l23 ?c23 ?k23 ?a24 ?l24 ?c24 ?k24 ?a25 ?l25 ?c25 ?k25 ?a26 ?l26 ?c26 ?k26 ?a27 ?l27 ?c27 ?k27 ?a28 ?l28 ?c28 ?k28 ?a29 ?l29 ?c29 ?k29 ?a30 ?l30 ?c30 ?k30 ?a31 ?l31 ?c31 ?k31 ?a32 ?l32 ?c32 ?k32 ?a33 ?l33 ?c33 ?k33 ?a34 ?l34 ?c34 ?k34 ?a35 ?l35 ?c35 ?k35 ?a36 ?l36 ?c36 ?k36 ?a37 ?l37 ?c37 ?k37 ?a38 ?l38 ?c38 ?k38 ?a39 ?l39 ?c39 ?k39 ?a40 ?l40 ?c40 ?k40 ?a41 ?l41 ?c41 ?k41 ?a42 ?l42 ?c42 ?k42 ?a43 ?l43 ?c43 ?k43 ?a44 ?l44 ?c44 ?k44 ?a45 ?l45 ?c45 ?k45 ?a46 ?l46 ?c46 ?k46 ?a47 ?l47 ?c47 ?k47 ?a48 ?l48 ?c48 ?k48 ?a49 ?l49 ?c49 ?k49 ?a50 ?l50 ?c50 ?k50 ?a51 ?l51 ?c51 ?k51 ?a52 ?l52 ?c52 ?k52 ?a53 ?l53 ?c53 ?k53 ?a54 ?l54 ?c54 ?k54 ?a55 ?l55 ?c55 ?k55 ?a56 ?l56 ?c56 ?k56 ?a57 ?l57 ?c57 ?k57 ?a58 ?l58 ?c58 ?k58 ?a59 ?l59 ?c59 ?k59 ?a60 ?l60 ?c60 ?k60 ?a61 ?l61 ?c61 ?k61 ?a62 ?l62 ?c62 ?k62 ?a63 ?l63 ?c63 ?k63 ?a64 ?l64 ?c64 ?k64 ?a65 ?l65 ?c65 ?k65 ?a66 ?l66 ?c66 ?k66 ?a67 ?l67 ?c67 ?k67 ?a68 ?l68 ?c68 ?k68 ?ea_InvalidBag ?eb_InvalidBag ?ec_InvalidBag ?ed_InvalidBag ?ee_InvalidBag ?ef_InvalidBag ?eg_InvalidBag ?eh_InvalidBag ?ei_InvalidBag ?ej_InvalidBag ?ek_InvalidBag ?ea_InvalidExtras ?eb_InvalidExtras ?ec_InvalidExtras ?ed_InvalidExtras ?ee_InvalidExtras ?ef_InvalidExtras ?eg_InvalidExtras ?eh_InvalidExtras ?ei_InvalidExtras ?ej_InvalidExtras ?ek_InvalidExtras ?ea_InvalidMark ?eb_InvalidMark ?ec_InvalidMark ?ed_InvalidMark ?ee_InvalidMark ?ef_InvalidMark ?eg_InvalidMark ?eh_InvalidMark ?ei_InvalidMark ?ej_InvalidMark ?ek_InvalidMark ?ea_InvalidMat ?eb_InvalidMat ?ec_InvalidMat ?ed_InvalidMat ?ee_InvalidMat ?ef_InvalidMat ?eg_InvalidMat ?eh_InvalidMat ?ei_InvalidMat ?ej_InvalidMat ?ek_InvalidMat ?ea_InvalidRace ?eb_InvalidRace ?ec_InvalidRace ?ed_InvalidRace ?ee_InvalidRace ?ef_InvalidRace ?eg_InvalidRace ?eh_InvalidRace ?ei_InvalidRace ?ej_InvalidRace ?ek_InvalidRace ?ea_InvalidRunner ?eb_InvalidRunner ?ec_InvalidRunner ?ed_InvalidRunner ?ee_InvalidRunner ?ef_InvalidRunner ?eg_InvalidRunner ?eh_InvalidRunner ?ei_InvalidRunner ?ej_InvalidRunner ?ek_InvalidRunner ?ea_InvalidTrack ?eb_InvalidTrack ?ec_InvalidTrack ?ed_InvalidTrack ?ee_InvalidTrack ?ef_InvalidTrack ?eg_InvalidTrack ?eh_InvalidTrack ?ei_InvalidTrack ?ej_InvalidTrack ?ek_InvalidTrack ?ea_Unfit ?ei_Unfit ?ej_Unfit ?ek_Unfit ?ex_Unfit ?er_InvalidBag ?er_InvalidExtras ?er_InvalidMark ?er_InvalidMat ?er_InvalidRace ?er_InvalidRunner ?er_InvalidTrack ?z_list ?z_sum ?z_len ?z_divmod ?z_range ?z_isinstance ?z_int ?z_bool ?z_tuple ?z_MOST_MATS ?z_all ?z_MOST_MARKS ?z_enumerate ?z_MOST_RUNNERS ?z_zip ?z_abs ?z_str ?z_dict ?z_sorted ?z_min ?z_any ?z_max
    (case a0 => k_is)
    (case l0 => k_is)
    (case c0 => k_is)
    (case k0 => k_is)
    (case a1 => k_is)
    (case l1 => k_is)
    (case c1 => k_is)
    (case k1 => k_is)
    (case a2 => k_is)
    (case l2 => k_is)
    (case c2 => k_is)
    (case k2 => k_is)
    (case a3 => k_is)
    (case l3 => k_is)
    (case c3 => k_is)
    (case k3 => k_is)
    (case a4 => k_is)
    (case l4 => k_is)
    (case c4 => k_is)
    (case k4 => k_is)
    (case a5 => k_is)
    (case l5 => k_is)
    (case c5 => k_is)
    (case k5 => k_is)
    (case a6 => k_is)
    (case l6 => k_is)
    (case c6 => k_is)
    (case k6 => k_is)
    (case a7 => k_is)
    (case l7 => k_is)
    (case c7 => k_is)
    (case k7 => k_is)
    (case a8 => k_is)
    (case l8 => k_is)
    (case c8 => k_is)
    (case k8 => k_is)
    (case a9 => k_is)
    (case l9 => k_is)
    (case c9 => k_is)
    (case k9 => k_is)
    (case a10 => k_is)
    (case l10 => k_is)
    (case c10 => k_is)
    (case k10 => k_is)
    (case a11 => k_is)
    (case l11 => k_is)
    (case c11 => k_is)
    (case k11 => k_is)
    (case a12 => k_is)
    (case l12 => k_is)
    (case c12 => k_is)
    (case k12 => k_is)
    (case a13 => k_is)
    (case l13 => k_is)
    (case c13 => k_is)
    (case k13 => k_is)
    (case a14 => k_is)
    (case l14 => k_is)
    (case c14 => k_is)
    (case k14 => k_is)
    (case a15 => k_is)
    (case l15 => k_is)
    (case c15 => k_is)
    (case k15 => k_is)
    (case a16 => k_is)
    (case l16 => k_is)
    (case c16 => k_is)
    (case k16 => k_is)
    (case a17 => k_is)
    (case l17 => k_is)
    (case c17 => k_is)
    (case k17 => k_is)
    (case a18 => k_is)
    (case l18 => k_is)
    (case c18 => k_is)
    (case k18 => k_is)
    (case a19 => k_is)
    (case l19 => k_is)
    (case c19 => k_is)
    (case k19 => k_is)
    (case a20 => k_is)
    (case l20 => k_is)
    (case c20 => k_is)
    (case k20 => k_is)
    (case a21 => k_is)
    (case l21 => k_is)
    (case c21 => k_is)
    (case k21 => k_is)
    (case a22 => k_is)
    (case l22 => k_is)
    (case c22 => k_is)
    (case k22 => k_is)
    (case a23 => k_is)
    (case l23 => k_is)
    (case c23 => k_is)
    (case k23 => k_is)
    (case a24 => k_is)
    (case l24 => k_is)
    (case c24 => k_is)
    (case k24 => k_is)
    (case a25 => k_is)
    (case l25 => k_is)
    (case c25 => k_is)
    (case k25 => k_is)
    (case a26 => k_is)
    (case l26 => k_is)
    (case c26 => k_is)
    (case k26 => k_is)
    (case a27 => k_is)
    (case l27 => k_is)
    (case c27 => k_is)
    (case k27 => k_is)
    (case a28 => k_is)
    (case l28 => k_is)
    (case c28 => k_is)
    (case k28 => k_is)
    (case a29 => k_is)
    (case l29 => k_is)
    (case c29 => k_is)
    (case k29 => k_is)
    (case a30 => k_is)
    (case l30 => k_is)
    (case c30 => k_is)
    (case k30 => k_is)
    (case a31 => k_is)
    (case l31 => k_is)
    (case c31 => k_is)
    (case k31 => k_is)
    (case a32 => k_is)
    (case l32 => k_is)
    (case c32 => k_is)
    (case k32 => k_is)
    (case a33 => k_is)
    (case l33 => k_is)
    (case c33 => k_is)
    (case k33 => k_is)
    (case a34 => k_is)
    (case l34 => k_is)
    (case c34 => k_is)
    (case k34 => k_is)
    (case a35 => k_is)
    (case l35 => k_is)
    (case c35 => k_is)
    (case k35 => k_is)
    (case a36 => k_is)
    (case l36 => k_is)
    (case c36 => k_is)
    (case k36 => k_is)
    (case a37 => k_is)
    (case l37 => k_is)
    (case c37 => k_is)
    (case k37 => k_is)
    (case a38 => k_is)
    (case l38 => k_is)
    (case c38 => k_is)
    (case k38 => k_is)
    (case a39 => k_is)
    (case l39 => k_is)
    (case c39 => k_is)
    (case k39 => k_is)
    (case a40 => k_is)
    (case l40 => k_is)
    (case c40 => k_is)
    (case k40 => k_is)
    (case a41 => k_is)
    (case l41 => k_is)
    (case c41 => k_is)
    (case k41 => k_is)
    (case a42 => k_is)
    (case l42 => k_is)
    (case c42 => k_is)
    (case k42 => k_is)
    (case a43 => k_is)
    (case l43 => k_is)
    (case c43 => k_is)
    (case k43 => k_is)
    (case a44 => k_is)
    (case l44 => k_is)
    (case c44 => k_is)
    (case k44 => k_is)
    (case a45 => k_is)
    (case l45 => k_is)
    (case c45 => k_is)
    (case k45 => k_is)
    (case a46 => k_is)
    (case l46 => k_is)
    (case c46 => k_is)
    (case k46 => k_is)
    (case a47 => k_is)
    (case l47 => k_is)
    (case c47 => k_is)
    (case k47 => k_is)
    (case a48 => k_is)
    (case l48 => k_is)
    (case c48 => k_is)
    (case k48 => k_is)
    (case a49 => k_is)
    (case l49 => k_is)
    (case c49 => k_is)
    (case k49 => k_is)
    (case a50 => k_is)
    (case l50 => k_is)
    (case c50 => k_is)
    (case k50 => k_is)
    (case a51 => k_is)
    (case l51 => k_is)
    (case c51 => k_is)
    (case k51 => k_is)
    (case a52 => k_is)
    (case l52 => k_is)
    (case c52 => k_is)
    (case k52 => k_is)
    (case a53 => k_is)
    (case l53 => k_is)
    (case c53 => k_is)
    (case k53 => k_is)
    (case a54 => k_is)
    (case l54 => k_is)
    (case c54 => k_is)
    (case k54 => k_is)
    (case a55 => k_is)
    (case l55 => k_is)
    (case c55 => k_is)
    (case k55 => k_is)
    (case a56 => k_is)
    (case l56 => k_is)
    (case c56 => k_is)
    (case k56 => k_is)
    (case a57 => k_is)
    (case l57 => k_is)
    (case c57 => k_is)
    (case k57 => k_is)
    (case a58 => k_is)
    (case l58 => k_is)
    (case c58 => k_is)
    (case k58 => k_is)
    (case a59 => k_is)
    (case l59 => k_is)
    (case c59 => k_is)
    (case k59 => k_is)
    (case a60 => k_is)
    (case l60 => k_is)
    (case c60 => k_is)
    (case k60 => k_is)
    (case a61 => k_is)
    (case l61 => k_is)
    (case c61 => k_is)
    (case k61 => k_is)
    (case a62 => k_is)
    (case l62 => k_is)
    (case c62 => k_is)
    (case k62 => k_is)
    (case a63 => k_is)
    (case l63 => k_is)
    (case c63 => k_is)
    (case k63 => k_is)
    (case a64 => k_is)
    (case l64 => k_is)
    (case c64 => k_is)
    (case k64 => k_is)
    (case a65 => k_is)
    (case l65 => k_is)
    (case c65 => k_is)
    (case k65 => k_is)
    (case a66 => k_is)
    (case l66 => k_is)
    (case c66 => k_is)
    (case k66 => k_is)
    (case a67 => k_is)
    (case l67 => k_is)
    (case c67 => k_is)
    (case k67 => k_is)
    (case a68 => k_is)
    (case l68 => k_is)
    (case c68 => k_is)
    (case k68 => k_is)
    (case ea_InvalidBag => k_is)
    (case eb_InvalidBag => k_is)
    (case ec_InvalidBag => k_is)
    (case ed_InvalidBag => k_is)
    (case ee_InvalidBag => k_is)
    (case ef_InvalidBag => k_is)
    (case eg_InvalidBag => k_is)
    (case eh_InvalidBag => k_is)
    (case ei_InvalidBag => k_is)
    (case ej_InvalidBag => k_is)
    (case ek_InvalidBag => k_is)
    (case ea_InvalidExtras => k_is)
    (case eb_InvalidExtras => k_is)
    (case ec_InvalidExtras => k_is)
    (case ed_InvalidExtras => k_is)
    (case ee_InvalidExtras => k_is)
    (case ef_InvalidExtras => k_is)
    (case eg_InvalidExtras => k_is)
    (case eh_InvalidExtras => k_is)
    (case ei_InvalidExtras => k_is)
    (case ej_InvalidExtras => k_is)
    (case ek_InvalidExtras => k_is)
    (case ea_InvalidMark => k_is)
    (case eb_InvalidMark => k_is)
    (case ec_InvalidMark => k_is)
    (case ed_InvalidMark => k_is)
    (case ee_InvalidMark => k_is)
    (case ef_InvalidMark => k_is)
    (case eg_InvalidMark => k_is)
    (case eh_InvalidMark => k_is)
    (case ei_InvalidMark => k_is)
    (case ej_InvalidMark => k_is)
    (case ek_InvalidMark => k_is)
    (case ea_InvalidMat => k_is)
    (case eb_InvalidMat => k_is)
    (case ec_InvalidMat => k_is)
    (case ed_InvalidMat => k_is)
    (case ee_InvalidMat => k_is)
    (case ef_InvalidMat => k_is)
    (case eg_InvalidMat => k_is)
    (case eh_InvalidMat => k_is)
    (case ei_InvalidMat => k_is)
    (case ej_InvalidMat => k_is)
    (case ek_InvalidMat => k_is)
    (case ea_InvalidRace => k_is)
    (case eb_InvalidRace => k_is)
    (case ec_InvalidRace => k_is)
    (case ed_InvalidRace => k_is)
    (case ee_InvalidRace => k_is)
    (case ef_InvalidRace => k_is)
    (case eg_InvalidRace => k_is)
    (case eh_InvalidRace => k_is)
    (case ei_InvalidRace => k_is)
    (case ej_InvalidRace => k_is)
    (case ek_InvalidRace => k_is)
    (case ea_InvalidRunner => k_is)
    (case eb_InvalidRunner => k_is)
    (case ec_InvalidRunner => k_is)
    (case ed_InvalidRunner => k_is)
    (case ee_InvalidRunner => k_is)
    (case ef_InvalidRunner => k_is)
    (case eg_InvalidRunner => k_is)
    (case eh_InvalidRunner => k_is)
    (case ei_InvalidRunner => k_is)
    (case ej_InvalidRunner => k_is)
    (case ek_InvalidRunner => k_is)
    (case ea_InvalidTrack => k_is)
    (case eb_InvalidTrack => k_is)
    (case ec_InvalidTrack => k_is)
    (case ed_InvalidTrack => k_is)
    (case ee_InvalidTrack => k_is)
    (case ef_InvalidTrack => k_is)
    (case eg_InvalidTrack => k_is)
    (case eh_InvalidTrack => k_is)
    (case ei_InvalidTrack => k_is)
    (case ej_InvalidTrack => k_is)
    (case ek_InvalidTrack => k_is)
    (case ea_Unfit => k_is)
    (case ei_Unfit => k_is)
    (case ej_Unfit => k_is)
    (case ek_Unfit => k_is)
    (case ex_Unfit => k_exc)
    (case er_InvalidBag => decide +kernel)
    (case er_InvalidExtras => decide +kernel)
    (case er_InvalidMark => decide +kernel)
    (case er_InvalidMat => decide +kernel)
    (case er_InvalidRace => decide +kernel)
    (case er_InvalidRunner => decide +kernel)
    (case er_InvalidTrack => decide +kernel)
    (case z_list => k_is)
    (case z_sum => k_is)
    (case z_len => k_is)
    (case z_divmod => k_is)
    (case z_range => k_is)
    (case z_isinstance => k_is)
    (case z_int => k_is)
    (case z_bool => k_is)
    (case z_tuple => k_is)
    (case z_MOST_MATS => k_is)
    (case z_all => k_is)
    (case z_MOST_MARKS => k_is)
    (case z_enumerate => k_is)
    (case z_MOST_RUNNERS => k_is)
    (case z_zip => k_is)
    (case z_abs => k_is)
    (case z_str => k_is)
    (case z_dict => k_is)
    (case z_sorted => k_is)
    (case z_min => k_is)
    (case z_any => k_is)
    (case z_max => k_is)
