import PyProof.Rows.All
import Wide.All
import OpenK.AllK
import Wide.FinOn
import HandS.Call
import HandS.Comp
import HandS.ForExc
import HandS.ForMost
import HandS.Wide
import HandS.Star
import HandS.IsInst
import HandS.Flow
import HandS.TupAny
import HandS.TupMul
import HandS.WideBits
import HandS.SortInts
import HandS.Zip
import HandS.TupLe
import HandS.Deep
import HandS.Style
import KE.GoesEnum
import HandS.TupSets
import PyProof.ListNew
import KE.GoesMore
import KE.GoesZip
import HandS.DictComp
import HandS.Iter
import KE.KEqDict
import HandS.SortRule
import HandS.Conv
import PyProof.ReprRoads
import PyProof.ReprLen
import PyProof.FitsInt
import PyProof.CallFns
import HandS.List
import KE.KDictWalk
import HandS.ExcField
import HandS.ExcIs
import HandS.TryMany
import HandS.ExcOwn
import HandS.ForSpec
import KE.KExcIs
import HandS.Gcd
import HandS.WordsDict
import HandS.TupLen
import HandS.Small
import HandS.More
import PyProof.SumAny
import HandS.Sort
import KE.KDictZip
import KE.KDictSum
import PySem.Challenge.RW_lapmats_k40_misses_refused
set_option Elab.async false
set_option linter.all false
set_option maxRecDepth 100000
set_option autoImplicit false
namespace G
open PySem PySem.Spec PyProof.Rows L2
inductive D where
  | non | bl (b : Bool) | int (i : Int) | str (x : Str) | raw (v : V) | dic
  | tup (xs : List D) | lst (xs : List D) | slo (xs : List D) | mut (n : Nat)
  /-- a def of the module, by its name; a caught error: where it is, its class, its dict, its class's name, its field -/
  | emp | rg (lo hi : Int) | fn (x : Str) | exv (a : Addr) (c : Value) (od : Option Addr) (cl f : Str) (d : D)
inductive MO where
  | lst (xs : List D)
  | dk (kvs : List (L2.Key × V)) | dt (kvs : List (List L2.Key × V))
  /-- a dict that a loop walks -/
  | fk (kvs : List (L2.Key × V))
  /-- dicts of any things; walked ones -/
  | dd (kvs : List (L2.Key × D)) | de (kvs : List (List L2.Key × D)) | fd (kvs : List (L2.Key × D)) | fe (kvs : List (List L2.Key × D))
abbrev Sto := List MO
abbrev Env := List (Option D)
structure Mem where
  m : List Addr
  p : List Addr
  f : Addr → Option (Obj × HO)
def Mem.no (M : Mem) (a : Addr) : Prop := a ∉ M.m ∧ a ∉ M.p
def Mem.push (M : Mem) (a : Addr) : Mem := ⟨M.m ++ [a], M.p, M.f⟩
def FzP (M : Mem) (H : Hp) (a : Addr) (xs : List V) : Prop := H a = some (.lst xs) ∧ M.no a
def FzL (K : PySem.W.Frag) (M : Mem) (H : Hp) (a : Addr) (xs : List V) : Prop :=
  (Rd H a (.lst xs) ∧ M.no a) ∨
    ∃ (o : Obj) (its : Array Value) (n : Nat), K.lookup a = some o ∧ o.cls = .type "list" ∧ o.dict = none ∧ o.data = .seq its n ∧ its.size ≤ sizeLine ∧ Vals xs its.toList
def FzT (K : PySem.W.Frag) (M : Mem) (H : Hp) (a : Addr) (xs : List V) : Prop := H a = some (.tup xs) ∧ M.no a
theorem FzL.sq {K : PySem.W.Frag} {M : Mem} {H : Hp} {a : Addr} {xs : List V} (h : FzL K M H a xs) : SqL K H a xs := h.imp And.left id
theorem FzP.sq {K : PySem.W.Frag} {M : Mem} {H : Hp} {a : Addr} {xs : List V} (h : FzP M H a xs) : SqL K H a xs := .of h.1
theorem FzT.sq {K : PySem.W.Frag} {M : Mem} {H : Hp} {a : Addr} {xs : List V} (h : FzT K M H a xs) : SqT K H a xs := .inl (.of h.1)
section
variable (K : PySem.W.Frag) (M : Mem) (H : Hp)
mutual
def Rep : D → V → Prop
  | .non, v => v = .non
  | .bl b, v => v = .bl b
  | .int i, v => v = .int i
  | .str x, v => v = .str x
  | .raw w, v => v = w
  | .dic, v => ∃ a kvs, v = .ref a ∧ H a = some (.dK kvs) ∧ M.no a
  | .tup xs, v => ∃ a vs, v = .ref a ∧ FzT K M H a vs ∧ RepL xs vs
  | .lst xs, v => ∃ a vs, v = .ref a ∧ FzP M H a vs ∧ RepL xs vs
  | .slo xs, v => ∃ a vs, v = .ref a ∧ FzL K M H a vs ∧ RepL xs vs
  | .mut n, v => ∃ a, v = .ref a ∧ M.m[n]? = some a
  | .emp, v => ∃ a, v = .ref a ∧ H a = some (.dK []) ∧ M.no a
  | .rg lo hi, v => ∃ a, v = .ref a ∧ H a = some (.rng lo hi) ∧ M.no a
  | .fn x, v => ∃ a, v = .ref a ∧ PySem.W.nsIn K mainGlobals x = some (some (.ref a))
  | .exv a c od cl f d, v => v = .ref a ∧ PySem.W.nsIn K mainGlobals cl = some (some c) ∧ ((f = "" ∧ od = none) ∨ (f ≠ "" ∧ ∃ dd w, od = some dd ∧ H dd = some (.xd [(f, w)]) ∧ M.no dd ∧ Rep d w))
def RepL : List D → List V → Prop
  | [], vs => vs = []
  | d :: ds, vs => ∃ v r, vs = v :: r ∧ Rep d v ∧ RepL ds r
end
end
structure Keep (M : Mem) (H : Hp) (M' : Mem) (H' : Hp) : Prop where
  pre : ∀ (n : Nat) (a : Addr), M.m[n]? = some a → M'.m[n]? = some a
  keep : ∀ a o, H a = some o → M.no a → H' a = some o ∧ M'.no a
  ff : M'.f = M.f
theorem Keep.refl {M : Mem} {H : Hp} : Keep M H M H := ⟨fun _ _ h => h, fun _ _ h n => ⟨h, n⟩, rfl⟩
theorem Keep.trans {M : Mem} {H : Hp} {M1 : Mem} {H1 : Hp} {M2 : Mem} {H2 : Hp} (a : Keep M H M1 H1) (b : Keep M1 H1 M2 H2) : Keep M H M2 H2 :=
  ⟨fun n x h => b.pre n x (a.pre n x h), fun x o h n => let ⟨h1, n1⟩ := a.keep x o h n; b.keep x o h1 n1, b.ff.trans a.ff⟩
structure Grow (M : Mem) (H : Hp) (M' : Mem) (H' : Hp) : Prop where
  pre : ∀ (n : Nat) (a : Addr), M.m[n]? = some a → M'.m[n]? = some a
  keep : ∀ a o, H a = some o → M.no a → H' a = some o ∧ M'.no a
  pp : M'.p = M.p
  prot : ∀ a ∈ M.p, H' a = H a
  ff : M'.f = M.f
theorem Grow.k {M : Mem} {H : Hp} {M' : Mem} {H' : Hp} (g : Grow M H M' H') : Keep M H M' H' := ⟨g.pre, g.keep, g.ff⟩
theorem Grow.refl {M : Mem} {H : Hp} : Grow M H M H := ⟨fun _ _ h => h, fun _ _ h n => ⟨h, n⟩, rfl, fun _ _ => rfl, rfl⟩
theorem Grow.trans {M : Mem} {H : Hp} {M1 : Mem} {H1 : Hp} {M2 : Mem} {H2 : Hp} (a : Grow M H M1 H1) (b : Grow M1 H1 M2 H2) : Grow M H M2 H2 :=
  ⟨fun n x h => b.pre n x (a.pre n x h), fun x o h n => let ⟨h1, n1⟩ := a.keep x o h n; b.keep x o h1 n1, b.pp.trans a.pp, fun x h => (b.prot x (by rw [a.pp]; exact h)).trans (a.prot x h), b.ff.trans a.ff⟩
section
variable {K : PySem.W.Frag} {M M' : Mem} {H H' : Hp}
theorem Keep.rdL {a : Addr} {o : HO} (g : Keep M H M' H') (h : Rd H a o) (n : M.no a) : Rd H' a o ∧ M'.no a := by
  rcases h with h | ⟨ob, h⟩
  · exact ⟨.inl (g.keep _ _ h n).1, (g.keep _ _ h n).2⟩
  · exact ⟨.inr ⟨ob, (g.keep _ _ h n).1⟩, (g.keep _ _ h n).2⟩
theorem Keep.fzL {a : Addr} {xs : List V} (g : Keep M H M' H') (h : FzL K M H a xs) : FzL K M' H' a xs := h.imp (fun q => g.rdL q.1 q.2) id
theorem Keep.fzT {a : Addr} {xs : List V} (g : Keep M H M' H') (h : FzT K M H a xs) : FzT K M' H' a xs := g.keep _ _ h.1 h.2
mutual
theorem Rep.kp (g : Keep M H M' H') : ∀ {d : D} {v : V}, Rep K M H d v → Rep K M' H' d v
  | .non, _, h => by unfold Rep at h ⊢; exact h
  | .bl _, _, h => by unfold Rep at h ⊢; exact h
  | .int _, _, h => by unfold Rep at h ⊢; exact h
  | .str _, _, h => by unfold Rep at h ⊢; exact h
  | .raw _, _, h => by unfold Rep at h ⊢; exact h
  | .dic, _, h => by
    unfold Rep at h ⊢
    obtain ⟨a, kvs, e, f, n⟩ := h
    exact ⟨a, kvs, e, g.keep _ _ f n⟩
  | .tup xs, _, h => by
    unfold Rep at h ⊢
    obtain ⟨a, vs, e, f, r⟩ := h
    exact ⟨a, vs, e, g.fzT f, RepL.kp g r⟩
  | .lst xs, _, h => by
    unfold Rep at h ⊢
    obtain ⟨a, vs, e, f, r⟩ := h
    exact ⟨a, vs, e, g.keep _ _ f.1 f.2, RepL.kp g r⟩
  | .slo xs, _, h => by
    unfold Rep at h ⊢
    obtain ⟨a, vs, e, f, r⟩ := h
    exact ⟨a, vs, e, g.fzL f, RepL.kp g r⟩
  | .mut n, _, h => by
    unfold Rep at h ⊢
    obtain ⟨a, e, m⟩ := h
    exact ⟨a, e, g.pre n a m⟩
  | .fn _, _, h => by unfold Rep at h ⊢; exact h
  | .emp, _, h => by
    unfold Rep at h ⊢
    obtain ⟨a, e, f, n⟩ := h
    exact ⟨a, e, g.keep _ _ f n⟩
  | .rg .., _, h => by
    unfold Rep at h ⊢
    obtain ⟨a, e, f, n⟩ := h
    exact ⟨a, e, g.keep _ _ f n⟩
  | .exv a c od cl f d, _, h => by
    unfold Rep at h ⊢
    obtain ⟨h1, h2, h3⟩ := h
    refine ⟨h1, h2, h3.imp id ?_⟩
    rintro ⟨h4, dd, w, h5, h6, h7, h8⟩
    exact ⟨h4, dd, w, h5, (g.keep _ _ h6 h7).1, (g.keep _ _ h6 h7).2, Rep.kp g h8⟩
theorem RepL.kp (g : Keep M H M' H') : ∀ {ds : List D} {vs : List V}, RepL K M H ds vs → RepL K M' H' ds vs
  | [], _, h => by unfold RepL at h ⊢; exact h
  | d :: ds, _, h => by
    unfold RepL at h ⊢
    obtain ⟨v, r, e, h1, h2⟩ := h
    exact ⟨v, r, e, Rep.kp g h1, RepL.kp g h2⟩
end
theorem Rep.grow (g : Grow M H M' H') {d : D} {v : V} (h : Rep K M H d v) : Rep K M' H' d v := Rep.kp g.k h
theorem RepL.grow (g : Grow M H M' H') {ds : List D} {vs : List V} (h : RepL K M H ds vs) : RepL K M' H' ds vs := RepL.kp g.k h
theorem Grow.fzL {a : Addr} {xs : List V} (g : Grow M H M' H') (h : FzL K M H a xs) : FzL K M' H' a xs := g.k.fzL h
theorem Grow.fzT {a : Addr} {xs : List V} (g : Grow M H M' H') (h : FzT K M H a xs) : FzT K M' H' a xs := g.k.fzT h
theorem RepL.nil : RepL K M H [] [] := by unfold RepL; rfl
theorem RepL.cons {d : D} {v : V} {ds : List D} {vs : List V} (h : Rep K M H d v) (t : RepL K M H ds vs) : RepL K M H (d :: ds) (v :: vs) := by unfold RepL; exact ⟨v, vs, rfl, h, t⟩
theorem RepL.length : ∀ {ds : List D} {vs : List V}, RepL K M H ds vs → ds.length = vs.length
  | [], _, h => by unfold RepL at h; subst h; rfl
  | d :: ds, _, h => by
    unfold RepL at h
    obtain ⟨v, r, rfl, _, h2⟩ := h
    simp [RepL.length h2]
theorem RepL.append : ∀ {ds es : List D} {vs ws : List V}, RepL K M H ds vs → RepL K M H es ws → RepL K M H (ds ++ es) (vs ++ ws)
  | [], _, _, _, h, q => by unfold RepL at h; subst h; exact q
  | d :: ds, _, _, _, h, q => by
    unfold RepL at h
    obtain ⟨v, r, rfl, h1, h2⟩ := h
    exact .cons h1 (RepL.append h2 q)
theorem RepL.get : ∀ {ds : List D} {vs : List V} {i : Nat} {d : D}, RepL K M H ds vs → ds[i]? = some d → ∃ v, vs[i]? = some v ∧ Rep K M H d v
  | [], _, i, d, h, e => by simp at e
  | x :: ds, _, 0, d, h, e => by
    unfold RepL at h
    obtain ⟨v, r, rfl, h1, h2⟩ := h
    simp at e; subst e
    exact ⟨v, rfl, h1⟩
  | x :: ds, _, i + 1, d, h, e => by
    unfold RepL at h
    obtain ⟨v, r, rfl, h1, h2⟩ := h
    obtain ⟨w, h3, h4⟩ := RepL.get (i := i) h2 (by simpa using e)
    exact ⟨w, by simpa using h3, h4⟩
theorem RepL.take : ∀ {ds : List D} {vs : List V} (n : Nat), RepL K M H ds vs → RepL K M H (ds.take n) (vs.take n)
  | _, _, 0, _ => by simp; exact .nil
  | [], _, n + 1, h => by unfold RepL at h; subst h; simp; exact .nil
  | x :: ds, _, n + 1, h => by
    unfold RepL at h
    obtain ⟨v, r, rfl, h1, h2⟩ := h
    simpa using RepL.cons h1 (RepL.take n h2)
theorem RepL.drop : ∀ {ds : List D} {vs : List V} (n : Nat), RepL K M H ds vs → RepL K M H (ds.drop n) (vs.drop n)
  | _, _, 0, h => by simpa using h
  | [], _, n + 1, h => by unfold RepL at h; subst h; simp; exact .nil
  | x :: ds, _, n + 1, h => by
    unfold RepL at h
    obtain ⟨v, r, rfl, h1, h2⟩ := h
    simpa using RepL.drop n h2
theorem RepL.set {d : D} {v : V} (q : Rep K M H d v) : ∀ {ds : List D} {vs : List V} (n : Nat), RepL K M H ds vs → RepL K M H (ds.set n d) (vs.set n v)
  | [], _, n, h => by unfold RepL at h; subst h; simp; exact .nil
  | x :: ds, _, 0, h => by
    unfold RepL at h
    obtain ⟨w, r, rfl, h1, h2⟩ := h
    simpa using RepL.cons q h2
  | x :: ds, _, n + 1, h => by
    unfold RepL at h
    obtain ⟨w, r, rfl, h1, h2⟩ := h
    simpa using RepL.cons h1 (RepL.set q n h2)
theorem RepL.reverse : ∀ {ds : List D} {vs : List V}, RepL K M H ds vs → RepL K M H ds.reverse vs.reverse
  | [], _, h => by unfold RepL at h; subst h; simp; exact .nil
  | x :: ds, _, h => by
    unfold RepL at h
    obtain ⟨w, r, rfl, h1, h2⟩ := h
    simpa using RepL.append (RepL.reverse h2) (RepL.cons h1 .nil)
theorem RepL.replicate {d : D} {v : V} (q : Rep K M H d v) : ∀ (n : Nat), RepL K M H (List.replicate n d) (List.replicate n v)
  | 0 => .nil
  | n + 1 => by rw [List.replicate_succ, List.replicate_succ]; exact .cons q (RepL.replicate q n)
theorem RepL.ints : ∀ (ns : List Int), RepL K M H (ns.map D.int) (ns.map V.int)
  | [] => .nil
  | n :: ns => .cons (by unfold Rep; rfl) (RepL.ints ns)
end
def RepKV {κ : Type} (K : PySem.W.Frag) (M : Mem) (H : Hp) (kvs : List (κ × D)) (ws : List (κ × V)) : Prop := ws.map (·.1) = kvs.map (·.1) ∧ RepL K M H (kvs.map (·.2)) (ws.map (·.2))
theorem RepKV.kp {κ : Type} {K : PySem.W.Frag} {M M' : Mem} {H H' : Hp} (g : Keep M H M' H') {kvs : List (κ × D)} {ws : List (κ × V)} (r : RepKV K M H kvs ws) : RepKV K M' H' kvs ws := ⟨r.1, r.2.kp g⟩
theorem RepKV.grow {κ : Type} {K : PySem.W.Frag} {M M' : Mem} {H H' : Hp} (g : Grow M H M' H') {kvs : List (κ × D)} {ws : List (κ × V)} (r : RepKV K M H kvs ws) : RepKV K M' H' kvs ws := r.kp g.k
def MoOk (K : PySem.W.Frag) (M : Mem) (H : Hp) (a : Addr) : MO → Prop
  | .lst xs => ∃ vs, H a = some (.lst vs) ∧ RepL K M H xs vs
  | .dk kvs => H a = some (.dK kvs)
  | .dt kvs => H a = some (.dT kvs)
  | .fk kvs => ∃ o, M.f a = some (o, .dK kvs) ∧ H a = some (.frz o (.dK kvs))
  | .dd kvs => ∃ ws, H a = some (.dK ws) ∧ RepKV K M H kvs ws
  | .de kvs => ∃ ws, H a = some (.dT ws) ∧ RepKV K M H kvs ws
  | .fd kvs => ∃ o ws, M.f a = some (o, .dK ws) ∧ H a = some (.frz o (.dK ws)) ∧ RepKV K M H kvs ws
  | .fe kvs => ∃ o ws, M.f a = some (o, .dT ws) ∧ H a = some (.frz o (.dT ws)) ∧ RepKV K M H kvs ws
structure StOk (K : PySem.W.Frag) (M : Mem) (H : Hp) (st : Sto) : Prop where
  len : M.m.length = st.length
  nd : M.m.Nodup
  pd : ∀ a ∈ M.p, a ∉ M.m ∧ ∃ o : List V, H a = some (.lst o)
  at_ : ∀ (n : Nat) (a : Addr) (mo : MO), M.m[n]? = some a → st[n]? = some mo → MoOk K M H a mo
section
variable {K : PySem.W.Frag} {M M' : Mem} {H H' : Hp} {st : Sto}
theorem MoOk.there {a : Addr} {mo : MO} (h : MoOk K M H a mo) : ∃ o, H a = some o := by
  cases mo with
  | lst xs => obtain ⟨vs, e, _⟩ := h; exact ⟨_, e⟩
  | dk kvs => exact ⟨_, h⟩
  | dt kvs => exact ⟨_, h⟩
  | fk kvs => obtain ⟨o, _, e⟩ := h; exact ⟨_, e⟩
  | dd kvs => obtain ⟨ws, e, _⟩ := h; exact ⟨_, e⟩
  | de kvs => obtain ⟨ws, e, _⟩ := h; exact ⟨_, e⟩
  | fd kvs => obtain ⟨o, ws, _, e, _⟩ := h; exact ⟨_, e⟩
  | fe kvs => obtain ⟨o, ws, _, e, _⟩ := h; exact ⟨_, e⟩
theorem MoOk.kp {a : Addr} {mo : MO} (q : MoOk K M H a mo) (k : Keep M H M' H') (e : H' a = H a) : MoOk K M' H' a mo := by
  cases mo with
  | lst xs => obtain ⟨vs, h, r⟩ := q; exact ⟨vs, e.trans h, r.kp k⟩
  | dk kvs => exact e.trans q
  | dt kvs => exact e.trans q
  | fk kvs => obtain ⟨o, h1, h2⟩ := q; exact ⟨o, by rw [k.ff]; exact h1, e.trans h2⟩
  | dd kvs => obtain ⟨ws, h, r⟩ := q; exact ⟨ws, e.trans h, r.kp k⟩
  | de kvs => obtain ⟨ws, h, r⟩ := q; exact ⟨ws, e.trans h, r.kp k⟩
  | fd kvs => obtain ⟨o, ws, h1, h2, r⟩ := q; exact ⟨o, ws, by rw [k.ff]; exact h1, e.trans h2, r.kp k⟩
  | fe kvs => obtain ⟨o, ws, h1, h2, r⟩ := q; exact ⟨o, ws, by rw [k.ff]; exact h1, e.trans h2, r.kp k⟩
theorem StOk.there (s : StOk K M H st) {a : Addr} (h : a ∈ M.m) : ∃ o, H a = some o := by
  obtain ⟨n, hn, e⟩ := List.mem_iff_getElem.mp h
  have hs : n < st.length := by rw [← s.len]; exact hn
  exact (s.at_ n a st[n] (by rw [List.getElem?_eq_getElem hn, e]) (List.getElem?_eq_getElem hs)).there
theorem StOk.notin (s : StOk K M H st) {a : Addr} (h : H a = none) : M.no a := by
  refine ⟨fun z => ?_, fun z => ?_⟩
  · obtain ⟨o, e⟩ := s.there z
    rw [h] at e; cases e
  · obtain ⟨_, o, e⟩ := s.pd a z
    rw [h] at e; cases e
theorem Grow.laid (s : StOk K M H st) {p : Addr} {o : HO} (h : H p = none) : Grow M H M (upd H p o) :=
  ⟨fun _ _ h => h, fun a u e n => ⟨by rw [upd_ne (ne_of_none e h)]; exact e, n⟩, rfl, fun a ha => by
    obtain ⟨_, u, e⟩ := s.pd a ha
    rw [upd_ne (ne_of_none e h)], rfl⟩
theorem MoOk.upd {a p : Addr} {mo : MO} {o : HO} {M' : Mem} (q : MoOk K M H a mo) (ne : a ≠ p) (g : Grow M H M' (upd H p o)) : MoOk K M' (upd H p o) a mo := by
  cases mo with
  | lst xs =>
    obtain ⟨vs, e, r⟩ := q
    exact ⟨vs, by rw [upd_ne ne]; exact e, r.grow g⟩
  | dk kvs =>
    show L2.upd H p o a = _
    rw [upd_ne ne]; exact q
  | dt kvs =>
    show L2.upd H p o a = _
    rw [upd_ne ne]; exact q
  | fk kvs =>
    obtain ⟨o', e1, e2⟩ := q
    exact ⟨o', by rw [g.ff]; exact e1, by rw [upd_ne ne]; exact e2⟩
  | dd kvs =>
    obtain ⟨ws, e, r⟩ := q
    exact ⟨ws, by rw [upd_ne ne]; exact e, r.grow g⟩
  | de kvs =>
    obtain ⟨ws, e, r⟩ := q
    exact ⟨ws, by rw [upd_ne ne]; exact e, r.grow g⟩
  | fd kvs =>
    obtain ⟨o', ws, e1, e2, r⟩ := q
    exact ⟨o', ws, by rw [g.ff]; exact e1, by rw [upd_ne ne]; exact e2, r.grow g⟩
  | fe kvs =>
    obtain ⟨o', ws, e1, e2, r⟩ := q
    exact ⟨o', ws, by rw [g.ff]; exact e1, by rw [upd_ne ne]; exact e2, r.grow g⟩
theorem StOk.laid (s : StOk K M H st) {p : Addr} {o : HO} (h : H p = none) : StOk K M (upd H p o) st := by
  have g : Grow M H M (upd H p o) := Grow.laid s h
  refine ⟨s.len, s.nd, fun a ha => ?_, fun n a mo e1 e2 => ?_⟩
  · obtain ⟨h1, u, e⟩ := s.pd a ha
    exact ⟨h1, u, by rw [upd_ne (ne_of_none e h)]; exact e⟩
  · have q := s.at_ n a mo e1 e2
    obtain ⟨u, e⟩ := q.there
    exact q.upd (ne_of_none e h) g
theorem Grow.push (s : StOk K M H st) {p : Addr} {o : HO} (h : H p = none) : Grow M H (M.push p) (upd H p o) :=
  ⟨fun n a e => by
    show (M.m ++ [p])[n]? = some a
    rw [List.getElem?_append_left (List.getElem?_eq_some_iff.mp e).1]; exact e, fun a u e n => ⟨by rw [upd_ne (ne_of_none e h)]; exact e, by
    refine ⟨fun z => ?_, n.2⟩
    rcases List.mem_append.mp z with z | z
    · exact n.1 z
    · simp at z; subst z; rw [h] at e; cases e⟩, rfl, fun a ha => by
    obtain ⟨_, u, e⟩ := s.pd a ha
    rw [upd_ne (ne_of_none e h)], rfl⟩
theorem StOk.push (s : StOk K M H st) {p : Addr} {o : HO} {mo : MO} (h : H p = none) (r : MoOk K (M.push p) (upd H p o) p mo) : StOk K (M.push p) (upd H p o) (st ++ [mo]) := by
  have g : Grow M H (M.push p) (upd H p o) := Grow.push s h
  refine ⟨by simp [Mem.push, s.len], ?_, fun a ha => ?_, fun n a mo e1 e2 => ?_⟩
  · show (M.m ++ [p]).Nodup
    rw [List.nodup_append]
    exact ⟨s.nd, by simp, fun a ha b hb => by simp at hb; subst hb; rintro rfl; exact (s.notin h).1 ha⟩
  · obtain ⟨h1, u, e⟩ := s.pd a ha
    refine ⟨fun z => ?_, u, by rw [upd_ne (ne_of_none e h)]; exact e⟩
    rcases List.mem_append.mp z with z | z
    · exact h1 z
    · simp at z; subst z; rw [h] at e; cases e
  · have e1 : (M.m ++ [p])[n]? = some a := e1
    by_cases hn : n < M.m.length
    · rw [List.getElem?_append_left hn] at e1
      rw [List.getElem?_append_left (by rw [← s.len]; exact hn)] at e2
      have q := s.at_ n a mo e1 e2
      obtain ⟨u, e⟩ := q.there
      exact q.upd (ne_of_none e h) g
    · have hn' : n = M.m.length := by
        have := (List.getElem?_eq_some_iff.mp e1).1
        simp at this; omega
      subst hn'
      rw [List.getElem?_append_right (Nat.le_refl _)] at e1
      rw [s.len, List.getElem?_append_right (Nat.le_refl _)] at e2
      simp at e1 e2
      subst e1 e2
      exact r
theorem StOk.pushL (s : StOk K M H st) {p : Addr} {xs : List D} {vs : List V} (h : H p = none) (r : RepL K M H xs vs) : StOk K (M.push p) (upd H p (.lst vs)) (st ++ [.lst xs]) :=
  s.push h ⟨vs, upd_same, r.grow (Grow.push s h)⟩
theorem Grow.put (s : StOk K M H st) {p : Addr} {o : HO} {n : Nat} (h : M.m[n]? = some p) : Grow M H M (upd H p o) :=
  ⟨fun _ _ h => h, fun a u e ni => ⟨by
    rw [upd_ne]; exact e
    rintro rfl
    exact ni.1 (List.mem_of_getElem? h), ni⟩, rfl, fun a ha => by
    rw [upd_ne]
    rintro rfl
    exact (s.pd a ha).1 (List.mem_of_getElem? h), rfl⟩
theorem StOk.put (s : StOk K M H st) {p : Addr} {n : Nat} {o : HO} {mo : MO} (h : M.m[n]? = some p) (r : MoOk K M (upd H p o) p mo) : StOk K M (upd H p o) (st.set n mo) := by
  have g : Grow M H M (upd H p o) := Grow.put s h
  have hn := (List.getElem?_eq_some_iff.mp h).1
  refine ⟨by simp [s.len], s.nd, fun a ha => ?_, fun k a mo e1 e2 => ?_⟩
  · obtain ⟨h1, u, e⟩ := s.pd a ha
    exact ⟨h1, u, by rw [g.prot a ha]; exact e⟩
  · by_cases hk : n = k
    · subst hk
      rw [h] at e1; cases e1
      rw [List.getElem?_set_self (by rw [← s.len]; exact hn)] at e2
      cases e2
      exact r
    · rw [List.getElem?_set_ne hk] at e2
      have q := s.at_ k a mo e1 e2
      have ha : a ≠ p := by
        rintro rfl
        have hkl := (List.getElem?_eq_some_iff.mp e1).1
        have e3 : M.m[k] = a := by rw [List.getElem?_eq_getElem hkl] at e1; exact Option.some.inj e1
        have e4 : M.m[n] = a := by rw [List.getElem?_eq_getElem hn] at h; exact Option.some.inj h
        exact hk ((List.getElem_inj s.nd).mp (e4.trans e3.symm))
      exact q.upd ha g
theorem StOk.putL (s : StOk K M H st) {p : Addr} {n : Nat} {xs : List D} {vs : List V} (h : M.m[n]? = some p) (r : RepL K M H xs vs) : StOk K M (upd H p (.lst vs)) (st.set n (.lst xs)) :=
  s.put h ⟨vs, upd_same, r.grow (Grow.put s h)⟩
end
structure EnvOk (K : PySem.W.Frag) (M : Mem) (H : Hp) (env : Env) (σ : L2.St) : Prop where
  len : env.length = σ.length
  at_ : ∀ (i : Nat) (d : D), env[i]? = some (some d) → ∃ v : V, σ[i]? = some (some v) ∧ Rep K M H d v
section
variable {K : PySem.W.Frag} {M M' : Mem} {H H' : Hp} {env : Env} {σ : L2.St}
theorem EnvOk.kp (e : EnvOk K M H env σ) (g : Keep M H M' H') : EnvOk K M' H' env σ :=
  ⟨e.len, fun i d h => let ⟨v, h1, h2⟩ := e.at_ i d h; ⟨v, h1, h2.kp g⟩⟩
theorem EnvOk.grow (e : EnvOk K M H env σ) (g : Grow M H M' H') : EnvOk K M' H' env σ := e.kp g.k
theorem EnvOk.set {d : D} {v : V} (e : EnvOk K M H env σ) (i : Nat) (r : Rep K M H d v) : EnvOk K M H (env.set i (some d)) (σ.set i (some v)) :=
  ⟨by simp [e.len], fun j x h => by
    by_cases hj : i = j
    · subst hj
      have hi : i < env.length := by
        have := (List.getElem?_eq_some_iff.mp h).1
        simpa using this
      rw [List.getElem?_set_self hi] at h
      cases h
      exact ⟨v, List.getElem?_set_self (by rw [← e.len]; exact hi), r⟩
    · rw [List.getElem?_set_ne hj] at h
      obtain ⟨w, h1, h2⟩ := e.at_ j x h
      exact ⟨w, by rw [List.getElem?_set_ne hj]; exact h1, h2⟩⟩
theorem EnvOk.none (e : EnvOk K M H env σ) (i : Nat) : EnvOk K M H (env.set i none) (σ.set i none) :=
  ⟨by simp [e.len], fun j x h => by
    by_cases hj : i = j
    · subst hj
      have hi : i < env.length := by
        have := (List.getElem?_eq_some_iff.mp h).1
        simpa using this
      rw [List.getElem?_set_self hi] at h
      cases h
    · rw [List.getElem?_set_ne hj] at h
      obtain ⟨w, h1, h2⟩ := e.at_ j x h
      exact ⟨w, by rw [List.getElem?_set_ne hj]; exact h1, h2⟩⟩
def wipeE (env : Env) : List Nat → Env
  | [] => env
  | v :: vs => (wipeE env vs).set v none
theorem EnvOk.wipe (e : EnvOk K M H env σ) : ∀ (vs : List Nat), EnvOk K M H (wipeE env vs) (L2.wipe σ vs)
  | [] => e
  | v :: vs => (EnvOk.wipe e vs).none v
end
end G
namespace G
open PySem PySem.Spec PyProof.Rows L2
structure Ex where
  cls : Str
  f : Str
  d : D
inductive R (α : Type) where
  | ok (a : α) (st : Sto) | exc (e : Ex) (st : Sto) | fail
def R.bind {α β : Type} (r : R α) (g : α → Sto → R β) : R β := match r with
  | .ok a st => g a st
  | .exc e st => .exc e st
  | .fail => .fail
@[simp] theorem R.bind_ok {α β : Type} (a : α) (st : Sto) (g : α → Sto → R β) : (R.ok a st).bind g = g a st := rfl
@[simp] theorem R.bind_exc {α β : Type} (e : Ex) (st : Sto) (g : α → Sto → R β) : (R.exc e st : R α).bind g = .exc e st := rfl
@[simp] theorem R.bind_fail {α β : Type} (g : α → Sto → R β) : (R.fail : R α).bind g = .fail := rfl
def RepX (K : PySem.W.Frag) (M : Mem) (H : Hp) (e : Ex) (c : Value) (od : Option Addr) : Prop :=
  PySem.W.nsIn K mainGlobals e.cls = some (some c) ∧ ((e.f = "" ∧ od = none) ∨ (e.f ≠ "" ∧ ∃ dd w, od = some dd ∧ H dd = some (.xd [(e.f, w)]) ∧ M.no dd ∧ Rep K M H e.d w))
theorem RepX.grow {K : PySem.W.Frag} {M : Mem} {H : Hp} {M' : Mem} {H' : Hp} {e : Ex} {c : Value} {od : Option Addr} (g : Grow M H M' H') (h : RepX K M H e c od) : RepX K M' H' e c od := by
  obtain ⟨h2, h3⟩ := h
  refine ⟨h2, h3.imp id ?_⟩
  rintro ⟨h4, dd, w, h5, h6, h7, h8⟩
  exact ⟨h4, dd, w, h5, (g.keep _ _ h6 h7).1, (g.keep _ _ h6 h7).2, h8.grow g⟩
abbrev RR (α β : Type) := Mem → Hp → α → β → Prop
section
variable {α β γ δ : Type}
def Post (K : PySem.W.Frag) (rep : RR α β) (M : Mem) (H : Hp) (Q : β → Hp → Prop) (E : XK) : R α → Prop
  | .ok a st => ∀ M' H' b, Grow M H M' H' → StOk K M' H' st → rep M' H' a b → Q b H'
  | .exc e st => ∀ M' H' c od, Grow M H M' H' → StOk K M' H' st → RepX K M' H' e c od → E c od H'
  | .fail => False
theorem Post.mono {K : PySem.W.Frag} {rep : RR α β} {M M1 : Mem} {H H1 : Hp} {Q : β → Hp → Prop} {E : XK} {r : R α} (g : Grow M H M1 H1) (p : Post K rep M H Q E r) : Post K rep M1 H1 Q E r := by
  cases r with
  | ok a st => exact fun M' H' b g' => p M' H' b (g.trans g')
  | exc e st => exact fun M' H' c od g' => p M' H' c od (g.trans g')
  | fail => exact p
theorem Post.bind {K : PySem.W.Frag} {rep : RR α β} {rep' : RR γ δ} {M : Mem} {H : Hp} {Q : δ → Hp → Prop} {E : XK} {r : R α} {g : α → Sto → R γ} (p : Post K rep' M H Q E (r.bind g)) :
    Post K rep M H (fun b H1 => ∃ M1 st1 a, Grow M H M1 H1 ∧ StOk K M1 H1 st1 ∧ rep M1 H1 a b ∧ Post K rep' M1 H1 Q E (g a st1)) E r := by
  cases r with
  | ok a st => exact fun M' H' b g' so h => ⟨M', st, a, g', so, h, Post.mono g' p⟩
  | exc e st => exact p
  | fail => exact p
end
theorem Post.imp {α β : Type} {K : PySem.W.Frag} {rep : RR α β} {M : Mem} {H : Hp} {Q Q' : β → Hp → Prop} {E : XK} {r : R α} (p : Post K rep M H Q E r) (i : ∀ b H', Q b H' → Q' b H') : Post K rep M H Q' E r := by
  cases r with
  | ok a st => exact fun M' H' b g so h => i _ _ (p M' H' b g so h)
  | exc e st => exact p
  | fail => exact p
def rd {α β : Type} (K : PySem.W.Frag) (rep : RR α β) (W : WX) (f : Env → Sto → R α) : L2.St → Hp → (β → Hp → Prop) → Prop := fun σ H Q =>
  ∃ env M st, EnvOk K M H env σ ∧ StOk K M H st ∧ Post K rep M H Q (WE W σ) (f env st)
abbrev EvE := Env → Sto → R D
abbrev EvB := Env → Sto → R Bool
abbrev EvA := Env → Sto → R (List D)
abbrev rdE (K : PySem.W.Frag) (W : WX) (f : EvE) : TE := rd K (Rep K) W f
abbrev rdB (K : PySem.W.Frag) (W : WX) (f : EvB) : TT := rd K (fun _ _ a b => a = b) W f
abbrev rdA (K : PySem.W.Frag) (W : WX) (f : EvA) : TA := rd K (RepL K) W f
section
variable {X : Cx}
theorem _root_.L2.PE.imp {e : Expr} {t t' : TE} (h : PE X e t) (i : ∀ σ H Q, t' σ H Q → t σ H Q) : PE X e t' := ⟨fun pins s σ H Q I q => h.run pins s σ H Q I (i σ H Q q)⟩
theorem _root_.L2.PT.imp {e : Expr} {t t' : TT} (h : PT X e t) (i : ∀ σ H Q, t' σ H Q → t σ H Q) : PT X e t' := ⟨fun pins s σ H Q I q => h.run pins s σ H Q I (i σ H Q q)⟩
theorem _root_.L2.PA.imp {e : List Expr} {t t' : TA} (h : PA X e t) (i : ∀ σ H Q, t' σ H Q → t σ H Q) : PA X e t' := ⟨fun pos pins s σ H Q I q => h.run pos pins s σ H Q I (i σ H Q q)⟩
theorem _root_.L2.PS.imp {e : Stmt} {t t' : TS} (h : PS X e t) (i : ∀ D σ H, t' D σ H → t D σ H) : PS X e t' := ⟨fun pins s σ H D I q => h.run pins s σ H D I (i D σ H q)⟩
theorem _root_.L2.PSs.imp {e : List Stmt} {t t' : TS} (h : PSs X e t) (i : ∀ D σ H, t' D σ H → t D σ H) : PSs X e t' := ⟨fun pins s σ H D I q => h.run pins s σ H D I (i D σ H q)⟩
end
def varE (i : Nat) : EvE := fun env st => match env[i]? with
  | some (some d) => .ok d st
  | _ => .fail
def cE (d : D) : EvE := fun _ st => .ok d st
section
variable {X : Cx} {W : WX}
theorem g_var (i : Nat) {x : Str} {pos : Pos} (h : PE X (.Name x pos) (tVar i)) : PE X (.Name x pos) (rdE X.K W (varE i)) := h.imp fun σ H Q ⟨env, M, st, eo, so, p⟩ => by
  unfold varE at p
  split at p
  · rename_i d e
    obtain ⟨v, e1, r⟩ := eo.at_ i d e
    exact ⟨v, e1, p M H v .refl so r⟩
  · exact p.elim
theorem g_c {e : Expr} {d : D} {v : V} (h : PE X e (tC v)) (r : ∀ M H, Rep X.K M H d v) : PE X e (rdE X.K W (cE d)) := h.imp fun σ H Q ⟨env, M, st, eo, so, p⟩ => p M H v .refl so (r M H)
theorem rep_non {K : PySem.W.Frag} : ∀ (M : Mem) (H : Hp), Rep K M H .non .non := fun _ _ => by unfold Rep; rfl
theorem rep_bl {K : PySem.W.Frag} (b : Bool) : ∀ (M : Mem) (H : Hp), Rep K M H (.bl b) (.bl b) := fun _ _ => by unfold Rep; rfl
theorem rep_int {K : PySem.W.Frag} (b : Int) : ∀ (M : Mem) (H : Hp), Rep K M H (.int b) (.int b) := fun _ _ => by unfold Rep; rfl
theorem rep_str {K : PySem.W.Frag} (b : Str) : ∀ (M : Mem) (H : Hp), Rep K M H (.str b) (.str b) := fun _ _ => by unfold Rep; rfl
theorem g_int {i : Int} {j pos} : PE X (.Constant (.int i) j pos) (rdE X.K W (cE (.int i))) := g_c pe_int (rep_int i)
theorem g_bl {i : Bool} {j pos} : PE X (.Constant (.bool i) j pos) (rdE X.K W (cE (.bl i))) := g_c pe_bl (rep_bl i)
theorem g_non {j pos} : PE X (.Constant .none j pos) (rdE X.K W (cE .non)) := g_c pe_non rep_non
theorem g_str {i : Str} {j pos} : PE X (.Constant (.str i) j pos) (rdE X.K W (cE (.str i))) := g_c pe_str (rep_str i)
end
abbrev F1 := D → Sto → R D
abbrev F2 := D → D → Sto → R D
def unE (f : F1) (fa : EvE) : EvE := fun env st => (fa env st).bind fun a st1 => f a st1
def binE (f : F2) (fa fb : EvE) : EvE := fun env st => (fa env st).bind fun a st1 => (fb env st1).bind fun b st2 => f a b st2
def OpV1 (K : PySem.W.Frag) (r : V → Hp → VK → Prop) (f : F1) : Prop := ∀ (a : D) (x : V) (M : Mem) (H : Hp) (st : Sto) (Q : VK) (E : XK), Rep K M H a x → StOk K M H st → Post K (Rep K) M H Q E (f a st) → r x H Q
def OpV (K : PySem.W.Frag) (r : R2) (f : F2) : Prop := ∀ (a b : D) (x y : V) (M : Mem) (H : Hp) (st : Sto) (Q : VK) (E : XK), Rep K M H a x → Rep K M H b y → StOk K M H st → Post K (Rep K) M H Q E (f a b st) → r x y H Q
section
variable {X : Cx} {W : WX} {a b c : Expr} {fa fb fc : EvE} {pos : Pos}
theorem rd_un {r : V → Hp → VK → Prop} {f : F1} (hv : OpV1 X.K r f) : ∀ σ H Q, rdE X.K W (unE f fa) σ H Q → tUn r (rdE X.K W fa) σ H Q :=
  fun σ H Q ⟨env, M, st, eo, so, p⟩ => ⟨env, M, st, eo, so, Post.imp (Post.bind p) fun x H1 ⟨M1, st1, a, g, so1, ra, p1⟩ => hv a x M1 H1 st1 Q _ ra so1 p1⟩
theorem rd_bin {r : R2} {f : F2} (hv : OpV X.K r f) : ∀ σ H Q, rdE X.K W (binE f fa fb) σ H Q → tOp r (rdE X.K W fa) (rdE X.K W fb) σ H Q :=
  fun σ H Q ⟨env, M, st, eo, so, p⟩ => ⟨env, M, st, eo, so, Post.imp (Post.bind p) fun x H1 ⟨M1, st1, a, g, so1, ra, p1⟩ =>
    ⟨env, M1, st1, eo.grow g, so1, Post.imp (Post.bind p1) fun y H2 ⟨M2, st2, b, g2, so2, rb, p2⟩ => hv a b x y M2 H2 st2 Q _ (ra.grow g2) rb so2 p2⟩⟩
theorem g_op {op : Operator} {r : R2} {f : F2} (ho : OpR X (binaryOp op) r) (hv : OpV X.K r f) (ha : PE X a (rdE X.K W fa)) (hb : PE X b (rdE X.K W fb)) : PE X (.BinOp a op b pos) (rdE X.K W (binE f fa fb)) :=
  (pe_op ho ha hb).imp (rd_bin hv)
theorem g_un {op : UnaryOp} {r : V → Hp → VK → Prop} {f : F1} (ho : UnR X (unaryOp op) r) (hv : OpV1 X.K r f) (ha : PE X a (rdE X.K W fa)) : PE X (.UnaryOp op a pos) (rdE X.K W (unE f fa)) :=
  (pe_un ho ha).imp (rd_un hv)
theorem g_cmp {op : CmpOp} {r : R2} {f : F2} (ho : OpR X (compareOp op) r) (hv : OpV X.K r f) (ha : PE X a (rdE X.K W fa)) (hb : PE X b (rdE X.K W fb)) (hm : behindInMarks op b = false) : PE X (.Compare a [op] [b] pos) (rdE X.K W (binE f fa fb)) :=
  (pe_cmpR ho ha hb hm).imp (rd_bin hv)
def boolR : D → Sto → R Bool
  | .bl b, st => .ok b st
  | _, _ => .fail
def tstE (fa : EvE) : EvB := fun env st => (fa env st).bind boolR
theorem rd_tst : ∀ σ H Q, rdB X.K W (tstE fa) σ H Q → rdE X.K W fa σ H (fun x H' => ∃ k, x = .bl k ∧ Q k H') :=
  fun σ H Q ⟨env, M, st, eo, so, p⟩ => ⟨env, M, st, eo, so, Post.imp (Post.bind p) fun x H1 ⟨M1, st1, a, g, so1, ra, p1⟩ => by
    unfold boolR at p1
    cases a with
    | bl k =>
      unfold Rep at ra
      exact ⟨k, ra, p1 M1 H1 k .refl so1 rfl⟩
    | _ => exact p1.elim⟩
theorem g_tcmp {op : CmpOp} {r : R2} {f : F2} (ho : OpR X (compareOp op) r) (hv : OpV X.K r f) (ha : PE X a (rdE X.K W fa)) (hb : PE X b (rdE X.K W fb)) (hm : behindInMarks op b = false) : PT X (.Compare a [op] [b] pos) (rdB X.K W (tstE (binE f fa fb))) :=
  (pt_cmpR ho ha hb hm).imp fun σ H Q h => rd_bin hv _ _ _ (rd_tst _ _ _ h)
theorem g_tval {e : Expr} (h : PE X e (rdE X.K W fa)) (he : ∀ whole, isTrue e X.env whole = (do let v ← whole; standAt e.pos; holding [v] (truthy v))) : PT X e (rdB X.K W (tstE fa)) :=
  (pt_val h he).imp fun σ H Q q => rd_tst _ _ _ q
def chainE (f f' : F2) (fa fb fc : EvE) : EvE := fun env st => (fa env st).bind fun a st1 => (fb env st1).bind fun b st2 => (f a b st2).bind fun z st3 => match z with
  | .bl true => (fc env st3).bind fun c st4 => f' b c st4
  | .bl false => .ok (.bl false) st3
  | _ => .fail
end
def andB (p q : EvB) : EvB := fun env st => (p env st).bind fun b st1 => if b = true then q env st1 else .ok false st1
def orB (p q : EvB) : EvB := fun env st => (p env st).bind fun b st1 => if b = true then .ok true st1 else q env st1
def notB (p : EvB) : EvB := fun env st => (p env st).bind fun b st1 => .ok (!b) st1
def ifE (t : EvB) (fa fb : EvE) : EvE := fun env st => (t env st).bind fun b st1 => if b = true then fa env st1 else fb env st1
def andE (fa fb : EvE) : EvE := fun env st => (fa env st).bind fun a st1 => match a with
  | .bl true => fb env st1
  | .bl false => .ok (.bl false) st1
  | _ => .fail
def notE (fa : EvE) : EvE := fun env st => (fa env st).bind fun a st1 => match a with
  | .bl b => .ok (.bl (!b)) st1
  | _ => .fail
section
variable {X : Cx} {W : WX} {a b : Expr} {rest : List Expr} {fa fb : EvE} {p q : EvB} {pos : Pos}
theorem g_and1 (ha : PT X a (rdB X.K W p)) : PW X (.BoolOp .And [a] pos) (rdB X.K W p) := pw_and1 ha
theorem g_or1 (ha : PT X a (rdB X.K W p)) : PW X (.BoolOp .Or [a] pos) (rdB X.K W p) := pw_or1 ha
theorem _root_.L2.PW.imp {e : Expr} {t t' : TT} (h : PW X e t) (i : ∀ σ H Q, t' σ H Q → t σ H Q) : PW X e t' := ⟨fun w pins s σ H Q I q => h.run w pins s σ H Q I (i σ H Q q)⟩
theorem g_and (ha : PT X a (rdB X.K W p)) (hb : PW X (.BoolOp .And (b :: rest) pos) (rdB X.K W q)) : PW X (.BoolOp .And (a :: b :: rest) pos) (rdB X.K W (andB p q)) :=
  PW.imp (pw_and ha hb) fun σ H Q ⟨env, M, st, eo, so, po⟩ => ⟨env, M, st, eo, so, Post.imp (Post.bind (rep := fun _ _ a b => a = b) po) fun x H1 ⟨M1, st1, a, g, so1, ra, p1⟩ => by
    subst ra
    cases a with
    | true => exact ⟨env, M1, st1, eo.grow g, so1, p1⟩
    | false => exact p1 M1 H1 false .refl so1 rfl⟩
theorem g_or (ha : PT X a (rdB X.K W p)) (hb : PW X (.BoolOp .Or (b :: rest) pos) (rdB X.K W q)) : PW X (.BoolOp .Or (a :: b :: rest) pos) (rdB X.K W (orB p q)) :=
  PW.imp (pw_or ha hb) fun σ H Q ⟨env, M, st, eo, so, po⟩ => ⟨env, M, st, eo, so, Post.imp (Post.bind (rep := fun _ _ a b => a = b) po) fun x H1 ⟨M1, st1, a, g, so1, ra, p1⟩ => by
    subst ra
    cases a with
    | false => exact ⟨env, M1, st1, eo.grow g, so1, p1⟩
    | true => exact p1 M1 H1 true .refl so1 rfl⟩
theorem g_tnot (ha : PT X a (rdB X.K W p)) : PT X (.UnaryOp .Not a pos) (rdB X.K W (notB p)) :=
  (pt_not ha).imp fun σ H Q ⟨env, M, st, eo, so, po⟩ => ⟨env, M, st, eo, so, Post.imp (Post.bind (rep := fun _ _ a b => a = b) po) fun x H1 ⟨M1, st1, a, g, so1, ra, p1⟩ => by
    subst ra
    exact p1 M1 H1 _ .refl so1 rfl⟩
theorem g_if {t : Expr} (ht : PT X t (rdB X.K W p)) (ha : PE X a (rdE X.K W fa)) (hb : PE X b (rdE X.K W fb)) : PE X (.IfExp t a b pos) (rdE X.K W (ifE p fa fb)) :=
  (pe_ifExp ht ha hb).imp fun σ H Q ⟨env, M, st, eo, so, po⟩ => ⟨env, M, st, eo, so, Post.imp (Post.bind (rep := fun _ _ a b => a = b) po) fun x H1 ⟨M1, st1, a, g, so1, ra, p1⟩ => by
    subst ra
    cases a with
    | true => exact ⟨env, M1, st1, eo.grow g, so1, p1⟩
    | false => exact ⟨env, M1, st1, eo.grow g, so1, p1⟩⟩
theorem g_one {op : BoolOp} (h : PE X a (rdE X.K W fa)) : PE X (.BoolOp op [a] pos) (rdE X.K W fa) := pe_one h
theorem g_vand (ha : PE X a (rdE X.K W fa)) (hb : PE X (.BoolOp .And (b :: rest) pos) (rdE X.K W fb)) : PE X (.BoolOp .And (a :: b :: rest) pos) (rdE X.K W (andE fa fb)) :=
  (pe_and ha hb).imp fun σ H Q ⟨env, M, st, eo, so, po⟩ => ⟨env, M, st, eo, so, Post.imp (Post.bind (rep := Rep X.K) po) fun x H1 ⟨M1, st1, a, g, so1, ra, p1⟩ => by
    cases a with
    | bl k =>
      unfold Rep at ra
      subst ra
      cases k with
      | true => exact ⟨true, rfl, env, M1, st1, eo.grow g, so1, p1⟩
      | false => exact ⟨false, rfl, p1 M1 H1 _ .refl so1 (rep_bl _ _ _)⟩
    | _ => exact p1.elim⟩
theorem g_vnot (ha : PE X a (rdE X.K W fa)) : PE X (.UnaryOp .Not a pos) (rdE X.K W (notE fa)) :=
  (pe_not ha).imp fun σ H Q ⟨env, M, st, eo, so, po⟩ => ⟨env, M, st, eo, so, Post.imp (Post.bind (rep := Rep X.K) po) fun x H1 ⟨M1, st1, a, g, so1, ra, p1⟩ => by
    cases a with
    | bl k =>
      unfold Rep at ra
      subst ra
      exact ⟨k, rfl, p1 M1 H1 _ .refl so1 (rep_bl _ _ _)⟩
    | _ => exact p1.elim⟩
theorem g_chain {op op' : CmpOp} {r r' : R2} {f f' : F2} {c : Expr} {fc : EvE} (h0 : PE X (.Compare a [op, op'] [b, c] pos) (tChain r r' (rdE X.K W fa) (rdE X.K W fb) (rdE X.K W fc))) (hv : OpV X.K r f) (hv' : OpV X.K r' f') :
    PE X (.Compare a [op, op'] [b, c] pos) (rdE X.K W (chainE f f' fa fb fc)) :=
  h0.imp fun σ H Q ⟨env, M, st, eo, so, p⟩ => ⟨env, M, st, eo, so, Post.imp (Post.bind p) fun x H1 ⟨M1, st1, a, g, so1, ra, p1⟩ =>
    ⟨env, M1, st1, eo.grow g, so1, Post.imp (Post.bind p1) fun y H2 ⟨M2, st2, b, g2, so2, rb, p2⟩ => hv a b x y M2 H2 st2 _ _ (ra.grow g2) rb so2 (Post.imp (Post.bind (rep := Rep X.K) p2) fun z H3 ⟨M3, st3, zd, g3, so3, rz, p3⟩ => by
      cases zd with
      | bl k =>
        unfold Rep at rz
        subst rz
        cases k with
        | true => exact ⟨true, rfl, iteT ⟨env, M3, st3, (eo.grow g).grow (g2.trans g3), so3, Post.imp (Post.bind p3) fun w H4 ⟨M4, st4, cd, g4, so4, rc, p4⟩ => hv' b cd y w M4 H4 st4 _ _ (rb.grow (g3.trans g4)) rc so4 p4⟩⟩
        | false => exact ⟨false, rfl, iteF (p3 M3 H3 _ .refl so3 (rep_bl _ _ _))⟩
      | _ => exact p3.elim)⟩⟩
end
def nilA : EvA := fun _ st => .ok [] st
def consA (fa : EvE) (fr : EvA) : EvA := fun env st => (fa env st).bind fun a st1 => (fr env st1).bind fun as st2 => .ok (a :: as) st2
def itemsOf : D → Option (List D)
  | .tup xs => some xs
  | .lst xs => some xs
  | .slo xs => some xs
  | _ => none
def starA (fa : EvE) (fr : EvA) : EvA := fun env st => (fa env st).bind fun a st1 => match itemsOf a with
  | some xs => (fr env st1).bind fun as st2 => .ok (xs ++ as) st2
  | none => .fail
def tupE (fs : EvA) : EvE := fun env st => (fs env st).bind fun xs st1 => if xs.length ≤ 16777216 then .ok (.tup xs) st1 else .fail
def lstE (fs : EvA) : EvE := fun env st => (fs env st).bind fun xs st1 => if xs.length ≤ 16777216 then .ok (.lst xs) st1 else .fail
def mutE (fs : EvA) : EvE := fun env st => (fs env st).bind fun xs st1 => if xs.length ≤ 16777216 then .ok (.mut st1.length) (st1 ++ [.lst xs]) else .fail
section
variable {X : Cx} {W : WX} {e : Expr} {es : List Expr} {fa : EvE} {fs : EvA} {pos p : Pos}
theorem g_nil : PA X [] (rdA X.K W nilA) := pa_nil.imp fun σ H Q ⟨env, M, st, eo, so, p⟩ => p M H [] .refl so .nil
theorem g_cons (ha : PE X e (rdE X.K W fa)) (hr : PA X es (rdA X.K W fs)) (hs : starEach (e :: es) X.env = (false, eval e X.env) :: starEach es X.env) : PA X (e :: es) (rdA X.K W (consA fa fs)) :=
  (pa_cons ha hr hs).imp fun σ H Q ⟨env, M, st, eo, so, p⟩ => ⟨env, M, st, eo, so, Post.imp (Post.bind p) fun x H1 ⟨M1, st1, a, g, so1, ra, p1⟩ =>
    ⟨env, M1, st1, eo.grow g, so1, Post.imp (Post.bind (rep := RepL X.K) p1) fun y H2 ⟨M2, st2, b, g2, so2, rb, p2⟩ => p2 M2 H2 _ .refl so2 (.cons (ra.grow g2) rb)⟩⟩
theorem itemsOf_rep {K : PySem.W.Frag} {M : Mem} {H : Hp} {a : D} {xs : List D} {v : V} (h : itemsOf a = some xs) (r : Rep K M H a v) : ∃ t vs, v = .ref t ∧ (SqT K H t vs ∨ SqL K H t vs) ∧ RepL K M H xs vs := by
  cases a with
  | tup ys => cases h; unfold Rep at r; obtain ⟨t, vs, e, f, q⟩ := r; exact ⟨t, vs, e, .inl f.sq, q⟩
  | lst ys => cases h; unfold Rep at r; obtain ⟨t, vs, e, f, q⟩ := r; exact ⟨t, vs, e, .inr f.sq, q⟩
  | slo ys => cases h; unfold Rep at r; obtain ⟨t, vs, e, f, q⟩ := r; exact ⟨t, vs, e, .inr f.sq, q⟩
  | _ => cases h
theorem g_star (ha : PE X e (rdE X.K W fa)) (hr : PA X es (rdA X.K W fs)) (hs : starEach (.Starred e p :: es) X.env = (true, eval e X.env) :: starEach es X.env) : PA X (.Starred e p :: es) (rdA X.K W (starA fa fs)) :=
  (StX.pa_star ha hr hs).imp fun σ H Q ⟨env, M, st, eo, so, p⟩ => ⟨env, M, st, eo, so, Post.imp (Post.bind p) fun x H1 ⟨M1, st1, a, g, so1, ra, p1⟩ => by
    cases h : itemsOf a with
    | none => rw [h] at p1; exact p1.elim
    | some xs =>
      rw [h] at p1
      obtain ⟨t, vs, rfl, sq, q⟩ := itemsOf_rep h ra
      exact ⟨t, vs, rfl, sq, env, M1, st1, eo.grow g, so1, Post.imp (Post.bind (rep := RepL X.K) p1) fun y H2 ⟨M2, st2, b, g2, so2, rb, p2⟩ => p2 M2 H2 _ .refl so2 ((q.grow g2).append rb)⟩⟩
theorem size_le {n : Nat} (h : n ≤ 16777216) : n ≤ sizeLine := by rw [sizeLine_eq]; exact h
theorem rep_tup {K : PySem.W.Frag} {M : Mem} {H : Hp} {st : Sto} {xs : List D} {vs : List V} {p : Addr} (so : StOk K M H st) (r : RepL K M H xs vs) (hp : H p = none) : Rep K M (upd H p (.tup vs)) (.tup xs) (.ref p) := by
  unfold Rep
  exact ⟨p, vs, rfl, ⟨upd_same, so.notin hp⟩, r.grow (.laid so hp)⟩
theorem rep_lst {K : PySem.W.Frag} {M : Mem} {H : Hp} {st : Sto} {xs : List D} {vs : List V} {p : Addr} (so : StOk K M H st) (r : RepL K M H xs vs) (hp : H p = none) : Rep K M (upd H p (.lst vs)) (.lst xs) (.ref p) := by
  unfold Rep
  exact ⟨p, vs, rfl, ⟨upd_same, so.notin hp⟩, r.grow (.laid so hp)⟩
theorem rep_mut {K : PySem.W.Frag} {M : Mem} {H : Hp} {st : Sto} {p : Addr} (so : StOk K M H st) {H' : Hp} : Rep K (M.push p) H' (.mut st.length) (.ref p) := by
  unfold Rep
  refine ⟨p, rfl, ?_⟩
  show (M.m ++ [p])[st.length]? = some p
  rw [← so.len, List.getElem?_append_right (Nat.le_refl _)]; simp
theorem g_tup {x1} (h : PA X es (rdA X.K W fs)) : PE X (.Tuple es x1 pos) (rdE X.K W (tupE fs)) :=
  (pe_tup h).imp fun σ H Q ⟨env, M, st, eo, so, p⟩ => ⟨env, M, st, eo, so, Post.imp (Post.bind p) fun vs H1 ⟨M1, st1, xs, g, so1, ra, p1⟩ => by
    by_cases hz : xs.length ≤ 16777216
    · rw [if_pos hz] at p1
      exact ⟨by rw [← ra.length]; exact size_le hz, fun a ha => p1 _ _ _ (.laid so1 ha) (so1.laid ha) (rep_tup so1 ra ha)⟩
    · rw [if_neg hz] at p1; exact p1.elim⟩
theorem g_lst (h : PA X es (rdA X.K W fs)) : PE X (.List es pos) (rdE X.K W (lstE fs)) :=
  (pe_lst h).imp fun σ H Q ⟨env, M, st, eo, so, p⟩ => ⟨env, M, st, eo, so, Post.imp (Post.bind p) fun vs H1 ⟨M1, st1, xs, g, so1, ra, p1⟩ => by
    by_cases hz : xs.length ≤ 16777216
    · rw [if_pos hz] at p1
      exact ⟨by rw [← ra.length]; exact size_le hz, fun a ha => p1 _ _ _ (.laid so1 ha) (so1.laid ha) (rep_lst so1 ra ha)⟩
    · rw [if_neg hz] at p1; exact p1.elim⟩
theorem g_mut (h : PA X es (rdA X.K W fs)) : PE X (.List es pos) (rdE X.K W (mutE fs)) :=
  (pe_lst h).imp fun σ H Q ⟨env, M, st, eo, so, p⟩ => ⟨env, M, st, eo, so, Post.imp (Post.bind p) fun vs H1 ⟨M1, st1, xs, g, so1, ra, p1⟩ => by
    by_cases hz : xs.length ≤ 16777216
    · rw [if_pos hz] at p1
      exact ⟨by rw [← ra.length]; exact size_le hz, fun a ha => p1 _ _ _ (.push so1 ha) (so1.pushL ha ra) (rep_mut so1)⟩
    · rw [if_neg hz] at p1; exact p1.elim⟩
abbrev FA := List D → Sto → R D
def callE (f : FA) (fs : EvA) : EvE := fun env st => (fs env st).bind f
def CallV (K : PySem.W.Frag) (r : List V → Hp → VK → Prop) (f : FA) : Prop := ∀ (as : List D) (xs : List V) (M : Mem) (H : Hp) (st : Sto) (Q : VK) (E : XK), RepL K M H as xs → StOk K M H st → Post K (Rep K) M H Q E (f as st) → r xs H Q
theorem rd_call {r : List V → Hp → VK → Prop} {f : FA} (hv : CallV X.K r f) : ∀ σ H Q, rdE X.K W (callE f fs) σ H Q → tCB r (rdA X.K W fs) σ H Q :=
  fun σ H Q ⟨env, M, st, eo, so, p⟩ => ⟨env, M, st, eo, so, Post.imp (Post.bind p) fun x H1 ⟨M1, st1, a, g, so1, ra, p1⟩ => hv a x M1 H1 st1 Q _ ra so1 p1⟩
end
end G
namespace G
open PySem PySem.Spec PySem.W L2 PyProof.Rows
section
variable {prog : Program} {w : World} {A : Around} {E : Value → Shared → Prop} {s : Shared} {l : Addr} {its : List Value} {ns : List Int} {Q : Value → Shared → Prop}
theorem iter_tupR {items : Array Value} (hl : s.heap.IsTuple l items)
    (h : ∀ s₂ : Shared, s₂ = { s with heap := s.heap.push { cls := .type "tuple_iterator", data := .fields #[.ref l, .int 0 0] } } →
      (s₂.heap.IsTupleIter s.heap.objs.size l 0 ∧ s₂.heap.IsTuple l items) → l ≠ s.heap.objs.size → (∀ b ∈ [s.heap.objs.size, l], b < s₂.heap.objs.size) → Q (.ref s.heap.objs.size) s₂) : wpAny (model prog w) A (pyIter (.ref l)) Q E s := by
  have hlt : l < s.heap.objs.size := by obtain ⟨_, e, _⟩ := hl; exact Heap.lt_size e
  refine wpAny_pyIter_tuple hl (h _ rfl ⟨⟨_, Heap.get?_push_size _ rfl, rfl, rfl⟩, hl.at fun o e => Heap.get?_push_of_some _ e⟩ (Nat.ne_of_lt hlt) fun b hb => ?_)
  show b < (s.heap.push _).objs.size
  rw [Heap.size_push]
  rcases List.mem_cons.mp hb with rfl | hb
  · exact Nat.lt_succ_self _
  · rcases List.mem_cons.mp hb with rfl | hb
    · exact Nat.lt_succ_of_lt hlt
    · cases hb
theorem sum_rawT (hh : A.handled = none) (hl : s.heap.IsTuple l its.toArray) (hi : IntsAre its ns)
    (h : ∀ h' tk t', (∀ b o, s.heap.get? b = some o → h'.get? b = some o) → Q (.int ns.sum t') { s with heap := h', toks := tk }) : wpAny (model prog w) A (call (.builtin "sum") [.ref l]) Q E s := by
  obtain ⟨xs, e⟩ := hi.allInts.items
  have hn : numsOf (intItems xs).toList = ns := by rw [← e]; exact hi.numsOf
  rw [nums_intItems] at hn
  rw [e] at hl
  refine PySem.W.ktm_sumG hh hl fun h' tk t' hk => ?_
  have := h h' tk t' hk
  rw [preSum_eq, List.take_of_length_le (by simp), hn]; exact this
theorem old_of {s₂ : Shared} {o : Obj} {h' : Heap} (e : s₂ = { s with heap := s.heap.push o }) (hk : ∀ b o, b ∉ [s.heap.objs.size] → s₂.heap.get? b = some o → h'.get? b = some o) : ∀ b o, s.heap.get? b = some o → h'.get? b = some o := by
  intro b ob eb
  subst e
  exact hk b ob (fun hmem => absurd (Heap.lt_size eb) ((List.mem_singleton.mp hmem) ▸ Nat.lt_irrefl _)) (Heap.get?_push_of_some _ eb)
theorem max_rawT (hh : A.handled = none) (hl : s.heap.IsTuple l its.toArray) (hi : IntsAre its ns) (hne : 0 < ns.length)
    (h : ∀ h' tk M t', (∀ b o, s.heap.get? b = some o → h'.get? b = some o) → M ∈ ns → (∀ a, a ∈ ns → a ≤ M) → Q (.int M t') { s with heap := h', toks := tk }) : wpAny (model prog w) A (call (.builtin "max") [.ref l]) Q E s := by
  obtain ⟨xs, e⟩ := hi.allInts.items
  have hn : numsOf (intItems xs).toList = ns := by rw [← e]; exact hi.numsOf
  rw [nums_intItems] at hn
  subst hn
  rw [e] at hl
  have hsz : 0 < xs.size := by simpa using hne
  refine call_max_walk (iter_tupR hl fun s₂ e2 st hlI hfp => ?_)
  subst e2
  refine ⟨_, _, _, _, _, _, _, rfl, Walks.tuple (A := A.in1) hh _ l hlI (intItems xs), st, hfp, by simpa [intItems] using hsz, CmpOf.ints_gt (numAt xs) (fun _ _ => intItems_at), fun v h' tk hP hk => ?_⟩
  have hv : (intItems xs)[argBest (fun i j => decide (numAt xs i > numAt xs j)) (xs.size - 1)]? = some v := by simpa [intItems] using hP
  obtain ⟨t, rfl⟩ := intItems_at hv
  obtain ⟨h1, h2⟩ := argBest_gt (numAt xs) (xs.size - 1)
  refine h h' tk _ t (old_of rfl hk) ?_ fun a ha => ?_
  · rw [numAt_eq]; exact PySem.getD_mem (by rw [List.length_map, Array.length_toList]; omega)
  · obtain ⟨j, hj, rfl⟩ := mem_getD ha
    rw [List.length_map, Array.length_toList] at hj
    rw [← numAt_eq]; exact h2 j (by omega)
theorem min_rawT (hh : A.handled = none) (hl : s.heap.IsTuple l its.toArray) (hi : IntsAre its ns) (hne : 0 < ns.length)
    (h : ∀ h' tk M t', (∀ b o, s.heap.get? b = some o → h'.get? b = some o) → M ∈ ns → (∀ a, a ∈ ns → M ≤ a) → Q (.int M t') { s with heap := h', toks := tk }) : wpAny (model prog w) A (call (.builtin "min") [.ref l]) Q E s := by
  obtain ⟨xs, e⟩ := hi.allInts.items
  have hn : numsOf (intItems xs).toList = ns := by rw [← e]; exact hi.numsOf
  rw [nums_intItems] at hn
  subst hn
  rw [e] at hl
  have hsz : 0 < xs.size := by simpa using hne
  refine call_min_walk (iter_tupR hl fun s₂ e2 st hlI hfp => ?_)
  subst e2
  refine ⟨_, _, _, _, _, _, _, rfl, Walks.tuple (A := A.in1) hh _ l hlI (intItems xs), st, hfp, by simpa [intItems] using hsz, CmpOf.ints_lt (numAt xs) (fun _ _ => intItems_at), fun v h' tk hP hk => ?_⟩
  have hv : (intItems xs)[argBest (fun i j => decide (numAt xs i < numAt xs j)) (xs.size - 1)]? = some v := by simpa [intItems] using hP
  obtain ⟨t, rfl⟩ := intItems_at hv
  obtain ⟨h1, h2⟩ := argBest_lt (numAt xs) (xs.size - 1)
  refine h h' tk _ t (old_of rfl hk) ?_ fun a ha => ?_
  · rw [numAt_eq]; exact PySem.getD_mem (by rw [List.length_map, Array.length_toList]; omega)
  · obtain ⟨j, hj, rfl⟩ := mem_getD ha
    rw [List.length_map, Array.length_toList] at hj
    rw [← numAt_eq]; exact h2 j (by omega)
end
section
variable {X : Cx}
theorem tup_is {s : Shared} {a : Addr} {its : List Value} (h : IsTup s.heap a its.toArray) : s.heap.IsTuple a its.toArray := h
def SqB (K : PySem.W.Frag) (H : Hp) (a : Addr) (xs : List V) : Prop := SqL K H a xs ∨ SqT K H a xs
def qSum (K : PySem.W.Frag) : List V → Hp → VK → Prop := fun vs H Q => ∃ (a : Addr) (ns : List Int), vs = [V.ref a] ∧ SqB K H a (ns.map V.int) ∧ Q (.int ns.sum) H
def qAny (K : PySem.W.Frag) : List V → Hp → VK → Prop := fun vs H Q => ∃ (a : Addr) (bs : List Bool), vs = [V.ref a] ∧ SqB K H a (bs.map V.bl) ∧ Q (.bl (bs.any id)) H
def qAll (K : PySem.W.Frag) : List V → Hp → VK → Prop := fun vs H Q => ∃ (a : Addr) (bs : List Bool), vs = [V.ref a] ∧ SqB K H a (bs.map V.bl) ∧ Q (.bl (bs.all id)) H
def qMax (K : PySem.W.Frag) : List V → Hp → VK → Prop := fun vs H Q => ∃ (a : Addr) (ns : List Int), vs = [V.ref a] ∧ SqB K H a (ns.map V.int) ∧ 0 < ns.length ∧ ∀ m, m ∈ ns → (∀ y, y ∈ ns → y ≤ m) → Q (.int m) H
def qMin (K : PySem.W.Frag) : List V → Hp → VK → Prop := fun vs H Q => ∃ (a : Addr) (ns : List Int), vs = [V.ref a] ∧ SqB K H a (ns.map V.int) ∧ 0 < ns.length ∧ ∀ m, m ∈ ns → (∀ y, y ∈ ns → m ≤ y) → Q (.int m) H
theorem cq_sum (hc : X.calm = true) : CallR X (.builtin "sum") (qSum X.K) := by
  intro pins s σ H vs us Q I r h
  obtain ⟨a, ns, rfl, hs | hs, q⟩ := h
  · exact cr_sum hc pins s σ H _ us Q I r ⟨a, ns, rfl, hs, q⟩
  · obtain ⟨its, rv, hl, _⟩ := I.tuple hs
    rw [Vals.ref1 r]
    exact sum_rawT (I.ok.hd hc) (tup_is hl) rv.ints fun h' tk t' hk => ⟨.int _, H, I.kept hk, ⟨_, rfl⟩, q⟩
theorem cq_max (hc : X.calm = true) : CallR X (.builtin "max") (qMax X.K) := by
  intro pins s σ H vs us Q I r h
  obtain ⟨a, ns, rfl, hs | hs, hne, q⟩ := h
  · exact cr_max hc pins s σ H _ us Q I r ⟨a, ns, rfl, hs, hne, q⟩
  · obtain ⟨its, rv, hl, _⟩ := I.tuple hs
    rw [Vals.ref1 r]
    exact max_rawT (I.ok.hd hc) (tup_is hl) rv.ints hne fun h' tk m t' hk h1 h2 => ⟨.int _, H, I.kept hk, ⟨_, rfl⟩, q m h1 h2⟩
theorem cq_min (hc : X.calm = true) : CallR X (.builtin "min") (qMin X.K) := by
  intro pins s σ H vs us Q I r h
  obtain ⟨a, ns, rfl, hs | hs, hne, q⟩ := h
  · exact cr_min hc pins s σ H _ us Q I r ⟨a, ns, rfl, hs, hne, q⟩
  · obtain ⟨its, rv, hl, _⟩ := I.tuple hs
    rw [Vals.ref1 r]
    exact min_rawT (I.ok.hd hc) (tup_is hl) rv.ints hne fun h' tk m t' hk h1 h2 => ⟨.int _, H, I.kept hk, ⟨_, rfl⟩, q m h1 h2⟩
theorem cq_any (hc : X.calm = true) : CallR X (.builtin "any") (qAny X.K) := by
  intro pins s σ H vs us Q I r h
  obtain ⟨a, bs, rfl, hs | hs, q⟩ := h
  · exact cr_any hc pins s σ H _ us Q I r ⟨a, bs, rfl, hs, q⟩
  · obtain ⟨its, rv, hl, _⟩ := I.tuple hs
    rw [Vals.ref1 r]
    have hb := rv.bls
    refine call_any_walk (iter_tupR (tup_is hl) fun s₂ e2 st hne _ => ?_)
    subst e2
    refine ⟨_, _, _, _, _, _, _, rfl, Walks.tuple (A := X.A.in1) (I.ok.hd hc) _ a hne its.toArray, st, truth_bools hb, fun h' tk hk => ?_⟩
    refine ⟨.bl _, H, I.kept (old_of rfl hk), ?_, q⟩
    show Value.bool _ = Value.bool _
    rw [← L2.any_range, hb, List.size_toArray, List.length_map]
theorem cq_all (hc : X.calm = true) : CallR X (.builtin "all") (qAll X.K) := by
  intro pins s σ H vs us Q I r h
  obtain ⟨a, bs, rfl, hs | hs, q⟩ := h
  · exact cr_all hc pins s σ H _ us Q I r ⟨a, bs, rfl, hs, q⟩
  · obtain ⟨its, rv, hl, _⟩ := I.tuple hs
    rw [Vals.ref1 r]
    have hb := rv.bls
    refine call_all_walk (iter_tupR (tup_is hl) fun s₂ e2 st hne _ => ?_)
    subst e2
    refine ⟨_, _, _, _, _, _, _, rfl, Walks.tuple (A := X.A.in1) (I.ok.hd hc) _ a hne its.toArray, st, truth_bools hb, fun h' tk hk => ?_⟩
    refine ⟨.bl _, H, I.kept (old_of rfl hk), ?_, q⟩
    show Value.bool _ = Value.bool _
    rw [← L2.all_range, hb, List.size_toArray, List.length_map]
end
end G
namespace G
open PySem PySem.Spec PyProof.Rows L2
theorem tuple_mul_self (l : Addr) (items : Array Value) (n : Nat) (dd : Option Addr) (sl : Array (Option Value)) (x : Int) (u : Tok) (c0 : (decide (x < -(2 ^ 63)) || decide (x ≥ 2 ^ 63)) = false) (c1 : (items.isEmpty || x == 1) = true) :
    Meets (Builtin.«tuple.__mul__» ⟨[.ref l, .int x u], []⟩) (fun _ R s => s.heap.get? l = some { cls := .type "tuple", dict := dd, data := .seq items n, slots := sl } ∧ R (.ok (.ret (Value.ref l))) s) :=
  .of_wp fun prog w A R s h => by
    obtain ⟨hp, g, d, tk, os⟩ := s
    obtain ⟨hl, h⟩ := h
    have f1 := AutoSeq1.idx_int
    wp_walk using wpAny_loadPart' hl
    repeat (first
      | (refine wpAny_ite_false (decide_eq_false (by rw [c0]; exact Bool.false_ne_true)) ?_; wp_walk using wpAny_loadPart' hl)
      | (refine wpAny_ite_true (decide_eq_true (by rw [c1])) ?_; wp_walk using wpAny_loadPart' hl))
    exact ⟨_, rfl, h⟩
theorem tuple_mul_nil (l : Addr) (items : Array Value) (n : Nat) (dd : Option Addr) (sl : Array (Option Value)) (x : Int) (u : Tok) (c0 : (decide (x < -(2 ^ 63)) || decide (x ≥ 2 ^ 63)) = false) (c1 : (items.isEmpty || x == 1) = false) (c2 : (decide (x ≤ 0) || items.isEmpty) = true) :
    Meets (Builtin.«tuple.__mul__» ⟨[.ref l, .int x u], []⟩) (fun _ R s => s.heap.get? l = some { cls := .type "tuple", dict := dd, data := .seq items n, slots := sl } ∧
      R (.ok (.ret (Value.ref s.heap.objs.size))) { s with heap := s.heap.push { cls := Value.type "tuple", data := Data.seq #[] }, toks := s.toks }) :=
  .of_wp fun prog w A R s h => by
    obtain ⟨hp, g, d, tk, os⟩ := s
    obtain ⟨hl, h⟩ := h
    have f1 := AutoSeq1.idx_int
    wp_walk using wpAny_loadPart' hl
    repeat (first
      | (refine wpAny_ite_false (decide_eq_false (by rw [c0]; exact Bool.false_ne_true)) ?_; wp_walk using wpAny_loadPart' hl)
      | (refine wpAny_ite_false (decide_eq_false (by rw [c1]; exact Bool.false_ne_true)) ?_; wp_walk using wpAny_loadPart' hl)
      | (refine wpAny_ite_true (decide_eq_true (by rw [c2])) ?_; wp_walk using wpAny_loadPart' hl))
    exact ⟨_, rfl, h⟩
def rRepT1 (K : PySem.W.Frag) : R2 := fun x y H Q => ∃ l k xs, x = .ref l ∧ y = .int k ∧ SqT K H l xs ∧ k.natAbs < 2 ^ 62 ∧ ((xs = [] ∨ k = 1) ∧ Q (.ref l) H ∨ (xs ≠ [] ∧ k ≤ 0) ∧ ∀ p, H p = none → Q (.ref p) (upd H p (.tup [])))
theorem op_repT1 {X : Cx} : OpR X (binaryOp .Mult) (rRepT1 X.K) := by
  intro pins s σ H x y v u Q I rx ry h
  obtain ⟨l, k, xs, rfl, rfl, hT, hk, q⟩ := h
  cases rx
  obtain ⟨t, rfl⟩ := ry
  obtain ⟨its, r, ⟨⟨cls, dd, data, sl⟩, ho, hc, n, hd⟩, hs⟩ := I.tuple hT
  simp only at hc hd
  subst hc hd
  have hle : its.length = xs.length := r.length.symm
  have c0 : (decide (k < -(2 ^ 63)) || decide (k ≥ 2 ^ 63)) = false := by
    rw [decide_eq_false (by omega), decide_eq_false (by omega)] <;> rfl
  rcases q with ⟨hc, q⟩ | ⟨⟨hne, hk0⟩, q⟩
  · have c1 : (its.toArray.isEmpty || k == 1) = true := by
      rcases hc with hc | hc
      · subst hc
        have : its = [] := List.eq_nil_of_length_eq_zero hle
        subst this; rfl
      · subst hc; simp
    refine wpAny_binaryOp_repeat_ref (T := "tuple") (U := "int") (by decide) ⟨_, ho, rfl⟩ (fun s' => typeIs_int s' k t) noFill_tuple_mul F.fills_int_mul F.slot_int_rmul repeat_tuple F.slot_int_index.lookup
      (call_meets F.slot_int_rmul (typeIs_int s k t) F.entry_int_rmul (F.args_int_rmul_2 _ _) (int_rmul_tuple k t l its.toArray n dd sl)
        ⟨ho, rfl, ⟨_, ho, rfl⟩, call_meets F.slot_tuple_mul ⟨_, ho, rfl⟩ F.entry_tuple_mul (F.args_tuple_mul_2 _ _) (tuple_mul_self l its.toArray n dd sl k t c0 c1) ⟨ho, ?_⟩⟩)
    exact ⟨.ref l, H, I, rfl, q⟩
  · have hn : its ≠ [] := fun e => hne (by
      rw [e] at hle
      exact List.eq_nil_of_length_eq_zero hle.symm)
    have hi : its.toArray.isEmpty = false := by
      cases its with
      | nil => exact absurd rfl hn
      | cons a b => rfl
    have c1 : (its.toArray.isEmpty || k == 1) = false := by
      rw [hi, Bool.false_or]
      exact beq_eq_false_iff_ne.mpr (by omega)
    have c2 : (decide (k ≤ 0) || its.toArray.isEmpty) = true := by rw [decide_eq_true hk0]; rfl
    refine wpAny_binaryOp_repeat_ref (T := "tuple") (U := "int") (by decide) ⟨_, ho, rfl⟩ (fun s' => typeIs_int s' k t) noFill_tuple_mul F.fills_int_mul F.slot_int_rmul repeat_tuple F.slot_int_index.lookup
      (call_meets F.slot_int_rmul (typeIs_int s k t) F.entry_int_rmul (F.args_int_rmul_2 _ _) (int_rmul_tuple k t l its.toArray n dd sl)
        ⟨ho, rfl, ⟨_, ho, rfl⟩, call_meets F.slot_tuple_mul ⟨_, ho, rfl⟩ F.entry_tuple_mul (F.args_tuple_mul_2 _ _) (tuple_mul_nil l its.toArray n dd sl k t c0 c1 c2) ⟨ho, ?_⟩⟩)
    refine ⟨.ref s.heap.objs.size, _, I.laid (t' := s.toks) (o := .tup []) (fun b ob q => Heap.get?_push_of_some _ q) (Nat.le_refl _) ?_, rfl, q _ (I.hok.fresh (Nat.le_refl _))⟩
    exact ⟨by show 0 ≤ sizeLine; exact Nat.zero_le _, [], .nil, IsTup.new _ _⟩
end G
namespace G
open PySem PySem.Spec PyProof.Rows L2
def big : Nat := 2 ^ 4000
theorem big_log {n : Nat} (h : n < big) : n.log2 < 4000 := PySem.Flt.log2_lt_of (by decide) h
mutual
def toPD : D → Option PyData
  | .non => some .none
  | .bl b => some (.bool b)
  | .int i => some (.int i)
  | .str x => some (.str x)
  | .tup xs => (toPDs xs).map .tuple
  | .lst xs => (toPDs xs).map .list
  | .slo xs => (toPDs xs).map .list
  | _ => none
def toPDs : List D → Option (List PyData)
  | [] => some []
  | x :: xs => match toPD x, toPDs xs with
    | some a, some b => some (a :: b)
    | _, _ => none
end
section
variable {K : PySem.W.Frag} {M : Mem} {H : Hp}
mutual
theorem toPD_rep : ∀ {d : D} {p : PyData} {v : V}, toPD d = some p → Rep K M H d v → Dp K H v p
  | .non, _, _, h, r => by unfold toPD at h; unfold Rep at r; cases h; subst r; exact .non
  | .bl _, _, _, h, r => by unfold toPD at h; unfold Rep at r; cases h; subst r; exact .bl _
  | .int _, _, _, h, r => by unfold toPD at h; unfold Rep at r; cases h; subst r; exact .int _
  | .str _, _, _, h, r => by unfold toPD at h; unfold Rep at r; cases h; subst r; exact .str _
  | .raw _, _, _, h, r => by unfold toPD at h; cases h
  | .dic, _, _, h, r => by unfold toPD at h; cases h
  | .fn _, _, _, h, r => by unfold toPD at h; cases h
  | .emp, _, _, h, r => by unfold toPD at h; cases h
  | .rg .., _, _, h, r => by unfold toPD at h; cases h
  | .exv .., _, _, h, r => by unfold toPD at h; cases h
  | .mut _, _, _, h, r => by unfold toPD at h; cases h
  | .tup xs, p, v, h, r => by
    unfold toPD at h; unfold Rep at r
    obtain ⟨a, vs, rfl, f, q⟩ := r
    cases e : toPDs xs with
    | none => rw [e] at h; cases h
    | some ps => rw [e] at h; cases h; exact .tup f.sq (toPDs_rep e q)
  | .lst xs, p, v, h, r => by
    unfold toPD at h; unfold Rep at r
    obtain ⟨a, vs, rfl, f, q⟩ := r
    cases e : toPDs xs with
    | none => rw [e] at h; cases h
    | some ps => rw [e] at h; cases h; exact .lst f.sq (toPDs_rep e q)
  | .slo xs, p, v, h, r => by
    unfold toPD at h; unfold Rep at r
    obtain ⟨a, vs, rfl, f, q⟩ := r
    cases e : toPDs xs with
    | none => rw [e] at h; cases h
    | some ps => rw [e] at h; cases h; exact .lst f.sq (toPDs_rep e q)
theorem toPDs_rep : ∀ {ds : List D} {ps : List PyData} {vs : List V}, toPDs ds = some ps → RepL K M H ds vs → DpAll K H vs ps
  | [], _, _, h, r => by unfold toPDs at h; unfold RepL at r; cases h; subst r; exact .nil
  | d :: ds, ps, vs, h, r => by
    unfold toPDs at h; unfold RepL at r
    obtain ⟨v, rr, rfl, r1, r2⟩ := r
    cases e1 : toPD d with
    | none => rw [e1] at h; cases h
    | some a =>
      cases e2 : toPDs ds with
      | none => rw [e1, e2] at h; cases h
      | some b => rw [e1, e2] at h; cases h; exact .cons (toPD_rep e1 r1) (toPDs_rep e2 r2)
end
end
def addD : F2 := fun a b st => match a, b with
  | .int i, .int j => .ok (.int (i + j)) st
  | .str x, .str y => if x.length + y.length ≤ 16777216 then .ok (.str (x ++ y)) st else .fail
  | .tup xs, .tup ys => if xs.length + ys.length ≤ 16777216 then .ok (.tup (xs ++ ys)) st else .fail
  | .lst xs, .lst ys => if xs.length + ys.length ≤ 16777216 then .ok (.lst (xs ++ ys)) st else .fail
  | .mut n, .lst ys => (match st[n]? with
    | some (.lst xs) => if xs.length + ys.length ≤ 16777216 then .ok (.lst (xs ++ ys)) st else .fail
    | _ => .fail)
  | .lst xs, .mut n => (match st[n]? with
    | some (.lst ys) => if xs.length + ys.length ≤ 16777216 then .ok (.lst (xs ++ ys)) st else .fail
    | _ => .fail)
  | _, _ => .fail
def subD : F2 := fun a b st => match a, b with
  | .int i, .int j => .ok (.int (i - j)) st
  | _, _ => .fail
def mulOk (i j : Int) : Prop := i.natAbs < 2 ^ 64 ∨ j.natAbs < 2 ^ 64 ∨ (i.natAbs < big ∧ j.natAbs < big)
instance (i j : Int) : Decidable (mulOk i j) := by unfold mulOk; infer_instance
def mulD : F2 := fun a b st => match a, b with
  | .int i, .int j => if mulOk i j then .ok (.int (i * j)) st else .fail
  | .lst xs, .int k => if k.natAbs < 2 ^ 62 ∧ xs.length * k.toNat ≤ 16777216 then .ok (.lst (List.replicate k.toNat xs).flatten) st else .fail
  | .tup xs, .int k => if xs ≠ [] ∧ 2 ≤ k ∧ k ≤ 1000 ∧ xs.length ≤ 1000 then .ok (.tup (List.replicate k.toNat xs).flatten) st else if (xs = [] ∨ k = 1) ∧ k.natAbs < 2 ^ 62 then .ok (.tup xs) st else if (xs ≠ [] ∧ k ≤ 0) ∧ k.natAbs < 2 ^ 62 then .ok (.tup []) st else .fail
  | _, _ => .fail
def fdivD : F2 := fun a b st => match a, b with
  | .int i, .int j => if 0 < j ∧ j.natAbs < big then .ok (.int (i / j)) st else .fail
  | _, _ => .fail
def modD : F2 := fun a b st => match a, b with
  | .int i, .int j => if 0 < j then .ok (.int (i % j)) st else .fail
  | _, _ => .fail
def powD : F2 := fun a b st => match a, b with
  | .int i, .int j => if 0 ≤ j ∧ j ≤ 1000000 ∧ i.natAbs < 2 ^ 64 then .ok (.int (i ^ j.toNat)) st else .fail
  | _, _ => .fail
def negD : F1 := fun a st => match a with
  | .int i => .ok (.int (-i)) st
  | _ => .fail
def cmpI (f : Int → Int → Bool) : F2 := fun a b st => match a, b with
  | .int i, .int j => .ok (.bl (f i j)) st
  | _, _ => .fail
def intsOf : List D → Option (List Int)
  | [] => some []
  | .int i :: r => (intsOf r).map (i :: ·)
  | _ => none
def lexLe : List Int → List Int → Bool
  | [], _ => true
  | _ :: _, [] => false
  | a :: x, b :: y => if a = b then lexLe x y else decide (a ≤ b)
def ltD : F2 := fun a b st => match a, b with
  | .int i, .int j => .ok (.bl (decide (i < j))) st
  | .tup xs, .tup ys => match intsOf xs, intsOf ys with
    | some ns, some ms => .ok (.bl (HT.lexLt ns ms)) st
    | _, _ => .fail
  | _, _ => .fail
def leD : F2 := fun a b st => match a, b with
  | .int i, .int j => .ok (.bl (decide (i ≤ j))) st
  | .tup xs, .tup ys => match intsOf xs, intsOf ys with
    | some ns, some ms => .ok (.bl (lexLe ns ms)) st
    | _, _ => .fail
  | _, _ => .fail
def gtD : F2 := cmpI fun i j => decide (j < i)
def geD : F2 := cmpI fun i j => decide (j ≤ i)
def scalD : D → D → Option Bool
  | .non, .non => some true
  | .int i, .int j => some (decide (i = j))
  | .bl i, .bl j => some (decide (i = j))
  | .str i, .str j => some (decide (i = j))
  | .non, .int _ => some false | .int _, .non => some false
  | .non, .bl _ => some false | .bl _, .non => some false
  | .non, .str _ => some false | .str _, .non => some false
  | .int _, .str _ => some false | .str _, .int _ => some false
  | .bl _, .str _ => some false | .str _, .bl _ => some false
  | _, _ => none
def eqO (a b : D) : Option Bool := match scalD a b with
  | some k => some k
  | none => match toPD a, toPD b with
    | some x, some y => if SeqAt.shaped x = true ∧ SeqAt.shaped y = true then some (PyData.eqv x y) else none
    | _, _ => none
def eqD : F2 := fun a b st => match eqO a b with
  | some k => .ok (.bl k) st
  | none => .fail
def neD : F2 := fun a b st => match eqO a b with
  | some k => .ok (.bl (!k)) st
  | none => .fail
def isNon : D → Option Bool
  | .non => some true
  | .mut _ => some false
  | .raw _ => none
  | .exv .. => none
  | _ => some false
def isND : F2 := fun a b st => match b, isNon a with
  | .non, some k => .ok (.bl k) st
  | _, _ => .fail
section
variable {K : PySem.W.Frag} {M : Mem} {H : Hp}
theorem rep_int_iff {i : Int} {v : V} : Rep K M H (.int i) v ↔ v = .int i := by unfold Rep; exact Iff.rfl
theorem intsOf_rep : ∀ {ds : List D} {ns : List Int} {vs : List V}, intsOf ds = some ns → RepL K M H ds vs → vs = ns.map V.int
  | [], _, _, h, r => by unfold intsOf at h; unfold RepL at r; cases h; subst r; rfl
  | .int i :: ds, ns, vs, h, r => by
    unfold intsOf at h; unfold RepL at r
    obtain ⟨v, rr, rfl, r1, r2⟩ := r
    rw [rep_int_iff] at r1
    subst r1
    cases e : intsOf ds with
    | none => rw [e] at h; cases h
    | some ms => rw [e] at h; cases h; rw [intsOf_rep e r2]; rfl
  | .non :: ds, ns, vs, h, r => by unfold intsOf at h; cases h
  | .bl _ :: ds, ns, vs, h, r => by unfold intsOf at h; cases h
  | .str _ :: ds, ns, vs, h, r => by unfold intsOf at h; cases h
  | .raw _ :: ds, ns, vs, h, r => by unfold intsOf at h; cases h
  | .dic :: ds, ns, vs, h, r => by unfold intsOf at h; cases h
  | .fn _ :: ds, ns, vs, h, r => by unfold intsOf at h; cases h
  | .emp :: ds, ns, vs, h, r => by unfold intsOf at h; cases h
  | .rg .. :: ds, ns, vs, h, r => by unfold intsOf at h; cases h
  | .exv .. :: ds, ns, vs, h, r => by unfold intsOf at h; cases h
  | .tup _ :: ds, ns, vs, h, r => by unfold intsOf at h; cases h
  | .lst _ :: ds, ns, vs, h, r => by unfold intsOf at h; cases h
  | .slo _ :: ds, ns, vs, h, r => by unfold intsOf at h; cases h
  | .mut _ :: ds, ns, vs, h, r => by unfold intsOf at h; cases h
@[simp] theorem intsOf_map : ∀ ns : List Int, intsOf (ns.map D.int) = some ns
  | [] => rfl
  | n :: ns => by show (intsOf (ns.map D.int)).map (n :: ·) = some (n :: ns); rw [intsOf_map ns]; rfl
end
section
variable {X : Cx} {K : PySem.W.Frag}
def rOr (r r' : R2) : R2 := fun x y H Q => r x y H Q ∨ r' x y H Q
theorem v_add : OpV K (rOr (rI0 fun i j => .int (i + j)) (rOr (fun x y H Q => ∃ i j, x = .str i ∧ y = .str j ∧ i.length + j.length ≤ sizeLine ∧ Q (.str (i ++ j)) H) (rOr (rCatA K) rCat))) addD := by
  intro a b x y M H st Q E ra rb so p
  unfold addD at p
  split at p
  · unfold Rep at ra rb; subst ra rb
    exact .inl ⟨_, _, rfl, rfl, p M H _ .refl so (rep_int _ _ _)⟩
  · unfold Rep at ra rb; subst ra rb
    split at p
    · rename_i h; exact .inr (.inl ⟨_, _, rfl, rfl, size_le h, p M H _ .refl so (rep_str _ _ _)⟩)
    · exact p.elim
  · rename_i xs ys
    split at p
    · rename_i h
      have ra' := ra; have rb' := rb
      unfold Rep at ra rb
      obtain ⟨t, vs, rfl, f, q⟩ := ra
      obtain ⟨u, ws, rfl, f', q'⟩ := rb
      refine .inr (.inr (.inl ⟨t, u, vs, ws, rfl, rfl, f.sq, f'.sq, by rw [← q.length, ← q'.length]; exact size_le h, fun e => ?_, fun _ e => ?_, fun _ _ a ha => ?_⟩))
      · have : xs = [] := List.length_eq_zero_iff.mp (by rw [q.length, e]; rfl)
        subst this
        exact p M H _ .refl so rb'
      · have : ys = [] := List.length_eq_zero_iff.mp (by rw [q'.length, e]; rfl)
        subst this
        exact p M H _ .refl so (by simpa using ra')
      · exact p M _ _ (.laid so ha) (so.laid ha) (rep_tup so (q.append q') ha)
    · exact p.elim
  · rename_i xs ys
    split at p
    · rename_i h
      unfold Rep at ra rb
      obtain ⟨t, vs, rfl, f, q⟩ := ra
      obtain ⟨u, ws, rfl, f', q'⟩ := rb
      exact .inr (.inr (.inr ⟨t, u, vs, ws, rfl, rfl, f.1, f'.1, by rw [← q.length, ← q'.length]; exact size_le h, fun a ha => p M _ _ (.laid so ha) (so.laid ha) (rep_lst so (q.append q') ha)⟩))
    · exact p.elim
  · rename_i n ys
    split at p
    · rename_i xs e
      split at p
      · rename_i h
        unfold Rep at ra rb
        obtain ⟨t, rfl, m⟩ := ra
        obtain ⟨vs, hv, q⟩ := so.at_ n t _ m e
        obtain ⟨u, ws, rfl, f', q'⟩ := rb
        exact .inr (.inr (.inr ⟨t, u, vs, ws, rfl, rfl, hv, f'.1, by rw [← q.length, ← q'.length]; exact size_le h, fun a ha => p M _ _ (.laid so ha) (so.laid ha) (rep_lst so (q.append q') ha)⟩))
      · exact p.elim
    · exact p.elim
  · rename_i xs n
    split at p
    · rename_i ys e
      split at p
      · rename_i h
        unfold Rep at ra rb
        obtain ⟨t, vs, rfl, f, q⟩ := ra
        obtain ⟨u, rfl, m⟩ := rb
        obtain ⟨ws, hw, q'⟩ := so.at_ n u _ m e
        exact .inr (.inr (.inr ⟨t, u, vs, ws, rfl, rfl, f.1, hw, by rw [← q.length, ← q'.length]; exact size_le h, fun a ha => p M _ _ (.laid so ha) (so.laid ha) (rep_lst so (q.append q') ha)⟩))
      · exact p.elim
    · exact p.elim
  · exact p.elim
theorem o_add : OpR X (binaryOp .Add) (rOr (rI0 fun i j => .int (i + j)) (rOr (fun x y H Q => ∃ i j, x = .str i ∧ y = .str j ∧ i.length + j.length ≤ sizeLine ∧ Q (.str (i ++ j)) H) (rOr (rCatA X.K) rCat))) :=
  OpR.or op_add (OpR.or op_add_str (OpR.or op_catA op_cat))
theorem v_sub : OpV K (rI0 fun i j => .int (i - j)) subD := by
  intro a b x y M H st Q E ra rb so p
  unfold subD at p
  split at p
  · unfold Rep at ra rb; subst ra rb
    exact ⟨_, _, rfl, rfl, p M H _ .refl so (rep_int _ _ _)⟩
  · exact p.elim
theorem cmul_of {i j : Int} (h : mulOk i j) : CMul i j ∨ CMulW i j := by
  rcases h with h | h | h
  · exact .inl (.inl (by omega))
  · exact .inl (.inr (by omega))
  · exact .inr (by have := big_log h.1; have := big_log h.2; unfold CMulW; omega)
theorem RepL.flat {M : Mem} {H : Hp} {xs : List D} {vs : List V} (q : RepL K M H xs vs) : ∀ n, RepL K M H (List.replicate n xs).flatten (List.replicate n vs).flatten
  | 0 => .nil
  | n + 1 => by
    rw [List.replicate_succ, List.replicate_succ, List.flatten_cons, List.flatten_cons]
    exact q.append (RepL.flat q n)
theorem v_mul : OpV K (rOr (rI (fun i j => CMul i j) fun i j => .int (i * j)) (rOr (rI CMulW fun i j => .int (i * j)) (rOr rRep (rOr (rRepT K) (rRepT1 K))))) mulD := by
  intro a b x y M H st Q E ra rb so p
  unfold mulD at p
  split at p
  · split at p
    · rename_i h
      unfold Rep at ra rb; subst ra rb
      rcases cmul_of h with h | h
      · exact .inl ⟨_, _, rfl, rfl, h, p M H _ .refl so (rep_int _ _ _)⟩
      · exact .inr (.inl ⟨_, _, rfl, rfl, h, p M H _ .refl so (rep_int _ _ _)⟩)
    · exact p.elim
  · split at p
    · rename_i h
      unfold Rep at ra rb
      obtain ⟨t, vs, rfl, f, q⟩ := ra
      subst rb
      refine .inr (.inr (.inl ⟨t, _, vs, rfl, rfl, f.1, by omega, by omega, by rw [← q.length]; exact size_le h.2, fun a ha => ?_⟩))
      exact p M _ _ (.laid so ha) (so.laid ha) (rep_lst so (q.flat _) ha)
    · exact p.elim
  · split at p
    · rename_i xs k h
      unfold Rep at ra rb
      obtain ⟨t, vs, rfl, f, q⟩ := ra
      subst rb
      refine .inr (.inr (.inr (.inl ⟨t, _, vs, rfl, rfl, f.sq, fun e => h.1 (List.length_eq_zero_iff.mp (by rw [q.length, e]; rfl)), h.2.1, h.2.2.1, by rw [← q.length]; exact h.2.2.2, fun a ha => ?_⟩)))
      exact p M _ _ (.laid so ha) (so.laid ha) (rep_tup so (q.flat _) ha)
    · rename_i xs k _
      split at p
      · rename_i h
        have ra' := ra
        unfold Rep at ra rb
        obtain ⟨t, vs, rfl, f, q⟩ := ra
        subst rb
        refine .inr (.inr (.inr (.inr ⟨t, _, vs, rfl, rfl, f.sq, h.2, .inl ⟨h.1.imp (fun e => List.length_eq_zero_iff.mp (by rw [← q.length, e]; rfl)) id, p M H _ .refl so ra'⟩⟩)))
      · split at p
        · rename_i h
          unfold Rep at ra rb
          obtain ⟨t, vs, rfl, f, q⟩ := ra
          subst rb
          refine .inr (.inr (.inr (.inr ⟨t, _, vs, rfl, rfl, f.sq, h.2, .inr ⟨⟨fun e => h.1.1 (List.length_eq_zero_iff.mp (by rw [q.length, e]; rfl)), h.1.2⟩, fun a ha => p M _ _ (.laid so ha) (so.laid ha) (rep_tup so .nil ha)⟩⟩)))
        · exact p.elim
  · exact p.elim
theorem o_mul : OpR X (binaryOp .Mult) (rOr (rI (fun i j => CMul i j) fun i j => .int (i * j)) (rOr (rI CMulW fun i j => .int (i * j)) (rOr rRep (rOr (rRepT X.K) (rRepT1 X.K))))) :=
  OpR.or op_mul (OpR.or op_mulW (OpR.or op_rep (OpR.or op_repT op_repT1)))
theorem v_fdiv : OpV K (rI CDivW fun i j => .int (i / j)) fdivD := by
  intro a b x y M H st Q E ra rb so p
  unfold fdivD at p
  split at p
  · split at p
    · rename_i h
      unfold Rep at ra rb; subst ra rb
      exact ⟨_, _, rfl, rfl, ⟨h.1, Nat.lt_trans (big_log h.2) (by decide)⟩, p M H _ .refl so (rep_int _ _ _)⟩
    · exact p.elim
  · exact p.elim
theorem v_mod : OpV K (rI (fun _ j => 0 < j) fun i j => .int (i % j)) modD := by
  intro a b x y M H st Q E ra rb so p
  unfold modD at p
  split at p
  · split at p
    · rename_i h
      unfold Rep at ra rb; subst ra rb
      exact ⟨_, _, rfl, rfl, h, p M H _ .refl so (rep_int _ _ _)⟩
    · exact p.elim
  · exact p.elim
theorem v_pow : OpV K (rI CPow fun i j => .int (i ^ j.toNat)) powD := by
  intro a b x y M H st Q E ra rb so p
  unfold powD at p
  split at p
  · split at p
    · rename_i h
      unfold Rep at ra rb; subst ra rb
      exact ⟨_, _, rfl, rfl, h, p M H _ .refl so (rep_int _ _ _)⟩
    · exact p.elim
  · exact p.elim
theorem v_neg : OpV1 K (rU fun i => .int (-i)) negD := by
  intro a x M H st Q E ra so p
  unfold negD at p
  split at p
  · unfold Rep at ra; subst ra
    exact ⟨_, rfl, p M H _ .refl so (rep_int _ _ _)⟩
  · exact p.elim
theorem v_cmpI (f : Int → Int → Bool) : OpV K (rI0 fun i j => .bl (f i j)) (cmpI f) := by
  intro a b x y M H st Q E ra rb so p
  unfold cmpI at p
  split at p
  · unfold Rep at ra rb; subst ra rb
    exact ⟨_, _, rfl, rfl, p M H _ .refl so (rep_bl _ _ _)⟩
  · exact p.elim
theorem v_lt : OpV K (rOr (rI0 fun i j => .bl (decide (i < j))) (rLtT K)) ltD := by
  intro a b x y M H st Q E ra rb so p
  unfold ltD at p
  split at p
  · unfold Rep at ra rb; subst ra rb
    exact .inl ⟨_, _, rfl, rfl, p M H _ .refl so (rep_bl _ _ _)⟩
  · split at p
    · rename_i e1 e2
      unfold Rep at ra rb
      obtain ⟨t, vs, rfl, f, q⟩ := ra
      obtain ⟨u, ws, rfl, f', q'⟩ := rb
      have h1 := intsOf_rep e1 q
      have h2 := intsOf_rep e2 q'
      subst h1 h2
      exact .inr ⟨t, u, _, _, rfl, rfl, f.sq, f'.sq, p M H _ .refl so (rep_bl _ _ _)⟩
    · exact p.elim
  · exact p.elim
theorem o_lt (hu : X.A.units < cLine) : OpR X (compareOp .Lt) (rOr (rI0 fun i j => .bl (decide (i < j))) (rLtT X.K)) := OpR.or op_lt (op_ltT hu)
theorem lexAt_go (ns0 ms0 : List Int) : ∀ (ns ms : List Int) (i : Nat), ns0.drop i = ns → ms0.drop i = ms → i ≤ ns0.length → i ≤ ms0.length →
    Ob.lexAt (fun j => decide (ns0.getD j 0 = ms0.getD j 0)) (fun j => decide (ns0.getD j 0 ≤ ms0.getD j 0)) (decide (ns0.length ≤ ms0.length)) i (min ns.length ms.length) = lexLe ns ms
  | [], ms, i, h1, h2, h3, h4 => by
    have : ns0.length = i := by have := congrArg List.length h1; simp at this; omega
    simp only [List.length_nil, Nat.zero_min]
    show decide (ns0.length ≤ ms0.length) = true
    simp; omega
  | a :: x, [], i, h1, h2, h3, h4 => by
    have e1 : ms0.length = i := by have := congrArg List.length h2; simp at this; omega
    have e2 : ns0.length = i + (x.length + 1) := by have := congrArg List.length h1; simp at this; omega
    simp only [List.length_nil, Nat.min_zero]
    show decide (ns0.length ≤ ms0.length) = false
    simp; omega
  | a :: x, b :: y, i, h1, h2, h3, h4 => by
    have e1 : ns0.getD i 0 = a := by
      have : ns0[i]? = some a := by rw [← List.head?_drop, h1]; rfl
      simp [List.getD, this]
    have e2 : ms0.getD i 0 = b := by
      have : ms0[i]? = some b := by rw [← List.head?_drop, h2]; rfl
      simp [List.getD, this]
    have l1 : ns0.length = i + (x.length + 1) := by have := congrArg List.length h1; simp at this; omega
    have l2 : ms0.length = i + (y.length + 1) := by have := congrArg List.length h2; simp at this; omega
    have em : min (a :: x).length (b :: y).length = min x.length y.length + 1 := by simp [Nat.succ_min_succ]
    rw [em, Ob.lexAt_succ]
    have ih := lexAt_go ns0 ms0 x y (i + 1) (by rw [← List.drop_drop, h1]; rfl) (by rw [← List.drop_drop, h2]; rfl) (by omega) (by omega)
    rw [e1, e2, ih]
    show (if decide (a = b) = true then lexLe x y else decide (a ≤ b)) = if a = b then lexLe x y else decide (a ≤ b)
    by_cases h : a = b <;> simp [h]
theorem v_le : OpV K (rOr (rI0 fun i j => .bl (decide (i ≤ j))) (rLeT K)) leD := by
  intro a b x y M H st Q E ra rb so p
  unfold leD at p
  split at p
  · unfold Rep at ra rb; subst ra rb
    exact .inl ⟨_, _, rfl, rfl, p M H _ .refl so (rep_bl _ _ _)⟩
  · split at p
    · rename_i ns ms e1 e2
      unfold Rep at ra rb
      obtain ⟨t, vs, rfl, f, q⟩ := ra
      obtain ⟨u, ws, rfl, f', q'⟩ := rb
      have h1 := intsOf_rep e1 q
      have h2 := intsOf_rep e2 q'
      subst h1 h2
      refine .inr ⟨t, u, ns, ms, rfl, rfl, f.sq, f'.sq, p M H _ .refl so ?_⟩
      rw [lexAt_go ns ms ns ms 0 rfl rfl (Nat.zero_le _) (Nat.zero_le _)]
      exact rep_bl _ _ _
    · exact p.elim
  · exact p.elim
theorem o_le (hu : X.A.units < cLine) : OpR X (compareOp .LtE) (rOr (rI0 fun i j => .bl (decide (i ≤ j))) (rLeT X.K)) := OpR.or op_le (op_leT hu)
theorem scalD_rep {M : Mem} {H : Hp} {a b : D} {x y : V} {k : Bool} (h : scalD a b = some k) (ra : Rep K M H a x) (rb : Rep K M H b y) : scal x y = true ∧ decide (x = y) = k := by
  unfold scalD at h
  split at h <;> cases h <;> (unfold Rep at ra rb; subst ra rb; exact ⟨rfl, by simp⟩)
theorem eqO_rep {M : Mem} {H : Hp} {a b : D} {x y : V} {k : Bool} (h : eqO a b = some k) (ra : Rep K M H a x) (rb : Rep K M H b y) :
    (scal x y = true ∧ decide (x = y) = k) ∨ ∃ d e, Dp K H x d ∧ Dp K H y e ∧ SeqAt.shaped d = true ∧ SeqAt.shaped e = true ∧ PyData.eqv d e = k := by
  unfold eqO at h
  split at h
  · rename_i k' e
    cases h
    exact .inl (scalD_rep e ra rb)
  · split at h
    · rename_i d e e1 e2
      split at h
      · rename_i hs
        cases h
        exact .inr ⟨d, e, toPD_rep e1 ra, toPD_rep e2 rb, hs.1, hs.2, rfl⟩
      · cases h
    · cases h
theorem v_eq : OpV K (rOr rEq (rEqD K)) eqD := by
  intro a b x y M H st Q E ra rb so p
  unfold eqD at p
  split at p
  · rename_i k h
    rcases eqO_rep h ra rb with ⟨h1, h2⟩ | ⟨d, e, h1, h2, h3, h4, h5⟩
    · exact .inl ⟨h1, p M H _ .refl so (by rw [h2]; exact rep_bl _ _ _)⟩
    · exact .inr ⟨d, e, h1, h2, h3, h4, p M H _ .refl so (by rw [h5]; exact rep_bl _ _ _)⟩
  · exact p.elim
theorem o_eq (hu : X.A.units + 64 < cLine) : OpR X (compareOp .Eq) (rOr rEq (rEqD X.K)) := OpR.or op_eq (op_eqD hu)
theorem v_ne : OpV K (rOr rNe (rNeD K)) neD := by
  intro a b x y M H st Q E ra rb so p
  unfold neD at p
  split at p
  · rename_i k h
    rcases eqO_rep h ra rb with ⟨h1, h2⟩ | ⟨d, e, h1, h2, h3, h4, h5⟩
    · exact .inl ⟨h1, p M H _ .refl so (by rw [h2]; exact rep_bl _ _ _)⟩
    · exact .inr ⟨d, e, h1, h2, h3, h4, p M H _ .refl so (by rw [h5]; exact rep_bl _ _ _)⟩
  · exact p.elim
theorem o_ne (hu : X.A.units + 64 < cLine) : OpR X (compareOp .NotEq) (rOr rNe (rNeD X.K)) := OpR.or op_ne (op_neD hu)
theorem isNon_rep {M : Mem} {H : Hp} {a : D} {x : V} {k : Bool} (h : isNon a = some k) (ra : Rep K M H a x) : decide (x = .non) = k := by
  cases a with
  | raw v => cases h
  | non => cases h; unfold Rep at ra; subst ra; rfl
  | bl _ => cases h; unfold Rep at ra; subst ra; rfl
  | int _ => cases h; unfold Rep at ra; subst ra; rfl
  | str _ => cases h; unfold Rep at ra; subst ra; rfl
  | tup _ => cases h; unfold Rep at ra; obtain ⟨_, _, rfl, _⟩ := ra; rfl
  | lst _ => cases h; unfold Rep at ra; obtain ⟨_, _, rfl, _⟩ := ra; rfl
  | slo _ => cases h; unfold Rep at ra; obtain ⟨_, _, rfl, _⟩ := ra; rfl
  | dic => cases h; unfold Rep at ra; obtain ⟨_, _, rfl, _⟩ := ra; rfl
  | «mut» _ => cases h; unfold Rep at ra; obtain ⟨_, rfl, _⟩ := ra; rfl
  | emp => cases h; unfold Rep at ra; obtain ⟨_, rfl, _⟩ := ra; rfl
  | rg _ _ => cases h; unfold Rep at ra; obtain ⟨_, rfl, _⟩ := ra; rfl
  | fn _ => cases h; unfold Rep at ra; obtain ⟨_, rfl, _⟩ := ra; rfl
  | exv => cases h
theorem v_isN : OpV K (fun x y H Q => y = .non ∧ Q (.bl (decide (x = .non))) H) isND := by
  intro a b x y M H st Q E ra rb so p
  unfold isND at p
  split at p
  · rename_i k h
    unfold Rep at rb
    exact ⟨rb, p M H _ .refl so (by rw [isNon_rep h ra]; exact rep_bl _ _ _)⟩
  · exact p.elim
end
def lenOf (a : D) (st : Sto) : Option Nat := match a with
  | .mut n => (match st[n]? with
    | some (.lst xs) => some xs.length
    | _ => none)
  | .str x => if x.length ≤ 16777216 then some x.length else none
  | a => (itemsOf a).map List.length
def lenF : FA := fun as st => match as with
  | [a] => (match lenOf a st with
    | some n => .ok (.int n) st
    | none => .fail)
  | _ => .fail
def seqOf (a : D) (st : Sto) : Option (List D) := match a with
  | .mut n => (match st[n]? with
    | some (.lst xs) => some xs
    | _ => none)
  | a => itemsOf a
def listF : FA := fun as st => match as with
  | [a] => (match seqOf a st with
    | some xs => .ok (.lst xs) st
    | none => .fail)
  | _ => .fail
def tupleF : FA := fun as st => match as with
  | [.tup xs] => .ok (.tup xs) st
  | [a] => (match seqOf a st with
    | some xs => .ok (.tup xs) st
    | none => .fail)
  | _ => .fail
def sumF : FA := fun as st => match as with
  | [a] => (match (seqOf a st).bind intsOf with
    | some ns => .ok (.int ns.sum) st
    | none => .fail)
  | _ => .fail
def boolsOf : List D → Option (List Bool)
  | [] => some []
  | .bl i :: r => (boolsOf r).map (i :: ·)
  | _ => none
def allF : FA := fun as st => match as with
  | [a] => (match (seqOf a st).bind boolsOf with
    | some ns => .ok (.bl (ns.all id)) st
    | none => .fail)
  | _ => .fail
def anyF : FA := fun as st => match as with
  | [a] => (match (seqOf a st).bind boolsOf with
    | some ns => .ok (.bl (ns.any id)) st
    | none => .fail)
  | _ => .fail
def absF : FA := fun as st => match as with
  | [.int i] => .ok (.int (if i < 0 then -i else i)) st
  | _ => .fail
def intF : FA := fun as st => match as with
  | [.int i] => .ok (.int i) st
  | [.bl k] => .ok (.int (if k then 1 else 0)) st
  | _ => .fail
def bigI : List Int → Int
  | [] => 0
  | [x] => x
  | x :: r => max x (bigI r)
def smallI : List Int → Int
  | [] => 0
  | [x] => x
  | x :: r => min x (smallI r)
def maxF : FA := fun as st => match as with
  | [.int i, .int j] => .ok (.int (if j > i then j else i)) st
  | [a] => (match (seqOf a st).bind intsOf with
    | some (n :: ns) => .ok (.int (bigI (n :: ns))) st
    | _ => .fail)
  | _ => .fail
def minF : FA := fun as st => match as with
  | [.int i, .int j] => .ok (.int (if j < i then j else i)) st
  | [a] => (match (seqOf a st).bind intsOf with
    | some (n :: ns) => .ok (.int (smallI (n :: ns))) st
    | _ => .fail)
  | _ => .fail
def divmodF : FA := fun as st => match as with
  | [.int i, .int j] => if 0 < j ∧ (j < 1073741824 ∨ i.natAbs < big ∨ j.natAbs < big) then .ok (.tup [.int (i / j), .int (i % j)]) st else .fail
  | _ => .fail
section
variable {K : PySem.W.Frag} {M : Mem} {H : Hp}
theorem RepL.one {a : D} {xs : List V} (h : RepL K M H [a] xs) : ∃ x, xs = [x] ∧ Rep K M H a x := by
  unfold RepL at h
  obtain ⟨v, r, rfl, h1, h2⟩ := h
  unfold RepL at h2
  subst h2
  exact ⟨v, rfl, h1⟩
theorem RepL.two {a b : D} {xs : List V} (h : RepL K M H [a, b] xs) : ∃ x y, xs = [x, y] ∧ Rep K M H a x ∧ Rep K M H b y := by
  unfold RepL at h
  obtain ⟨v, r, rfl, h1, h2⟩ := h
  obtain ⟨y, rfl, h3⟩ := h2.one
  exact ⟨v, y, rfl, h1, h3⟩
theorem seqOf_rep {a : D} {st : Sto} {xs : List D} {v : V} (so : StOk K M H st) (h : seqOf a st = some xs) (r : Rep K M H a v) :
    ∃ t vs, v = .ref t ∧ RepL K M H xs vs ∧ (SqT K H t vs ∨ SqL K H t vs) := by
  unfold seqOf at h
  split at h
  · rename_i n
    split at h
    · rename_i ys e
      cases h
      unfold Rep at r
      obtain ⟨t, rfl, m⟩ := r
      obtain ⟨vs, hv, q⟩ := so.at_ n t _ m e
      exact ⟨t, vs, rfl, q, .inr (.of hv)⟩
    · cases h
  · obtain ⟨t, vs, e, s, q⟩ := itemsOf_rep h r
    exact ⟨t, vs, e, q, s⟩
theorem seqOf_list {a : D} {st : Sto} {xs : List D} {v : V} (so : StOk K M H st) (h : seqOf a st = some xs) (hn : ∀ ys, a ≠ .tup ys) (r : Rep K M H a v) :
    ∃ t vs, v = .ref t ∧ RepL K M H xs vs ∧ SqL K H t vs := by
  unfold seqOf at h
  split at h
  · rename_i n
    split at h
    · rename_i ys e
      cases h
      unfold Rep at r
      obtain ⟨t, rfl, m⟩ := r
      obtain ⟨vs, hv, q⟩ := so.at_ n t _ m e
      exact ⟨t, vs, rfl, q, .of hv⟩
    · cases h
  · cases a with
    | tup ys => exact absurd rfl (hn ys)
    | lst ys => cases h; unfold Rep at r; obtain ⟨t, vs, e, f, q⟩ := r; exact ⟨t, vs, e, q, f.sq⟩
    | slo ys => cases h; unfold Rep at r; obtain ⟨t, vs, e, f, q⟩ := r; exact ⟨t, vs, e, q, f.sq⟩
    | _ => cases h
theorem boolsOf_rep : ∀ {ds : List D} {ns : List Bool} {vs : List V}, boolsOf ds = some ns → RepL K M H ds vs → vs = ns.map V.bl
  | [], _, _, h, r => by unfold boolsOf at h; unfold RepL at r; cases h; subst r; rfl
  | .bl i :: ds, ns, vs, h, r => by
    unfold boolsOf at h; unfold RepL at r
    obtain ⟨v, rr, rfl, r1, r2⟩ := r
    unfold Rep at r1
    subst r1
    cases e : boolsOf ds with
    | none => rw [e] at h; cases h
    | some ms => rw [e] at h; cases h; rw [boolsOf_rep e r2]; rfl
  | .non :: ds, ns, vs, h, r => by unfold boolsOf at h; cases h
  | .int _ :: ds, ns, vs, h, r => by unfold boolsOf at h; cases h
  | .str _ :: ds, ns, vs, h, r => by unfold boolsOf at h; cases h
  | .raw _ :: ds, ns, vs, h, r => by unfold boolsOf at h; cases h
  | .dic :: ds, ns, vs, h, r => by unfold boolsOf at h; cases h
  | .fn _ :: ds, ns, vs, h, r => by unfold boolsOf at h; cases h
  | .emp :: ds, ns, vs, h, r => by unfold boolsOf at h; cases h
  | .rg .. :: ds, ns, vs, h, r => by unfold boolsOf at h; cases h
  | .exv .. :: ds, ns, vs, h, r => by unfold boolsOf at h; cases h
  | .tup _ :: ds, ns, vs, h, r => by unfold boolsOf at h; cases h
  | .lst _ :: ds, ns, vs, h, r => by unfold boolsOf at h; cases h
  | .slo _ :: ds, ns, vs, h, r => by unfold boolsOf at h; cases h
  | .mut _ :: ds, ns, vs, h, r => by unfold boolsOf at h; cases h
@[simp] theorem boolsOf_map : ∀ ns : List Bool, boolsOf (ns.map D.bl) = some ns
  | [] => rfl
  | n :: ns => by show (boolsOf (ns.map D.bl)).map (n :: ·) = some (n :: ns); rw [boolsOf_map ns]; rfl
theorem lenOf_seq {a : D} {st : Sto} {n : Nat} (h : lenOf a st = some n) : (∃ x, a = .str x ∧ x.length ≤ 16777216 ∧ n = x.length) ∨ ∃ xs, seqOf a st = some xs ∧ xs.length = n := by
  unfold lenOf at h
  split at h
  · split at h
    · rename_i e; cases h; exact .inr ⟨_, by simp [seqOf, e], rfl⟩
    · cases h
  · split at h
    · rename_i e; cases h; exact .inl ⟨_, rfl, e, rfl⟩
    · cases h
  · cases a with
    | tup ys => cases h; exact .inr ⟨ys, rfl, rfl⟩
    | lst ys => cases h; exact .inr ⟨ys, rfl, rfl⟩
    | slo ys => cases h; exact .inr ⟨ys, rfl, rfl⟩
    | _ => cases h
theorem v_len : CallV K (fun xs H Q => (∃ p ys, xs = [.ref p] ∧ (SqL K H p ys ∨ SqT K H p ys) ∧ Q (.int ys.length) H) ∨ ∃ z, xs = [.str z] ∧ z.length ≤ sizeLine ∧ Q (.int z.length) H) lenF := by
  intro as xs M H st Q E r so p
  unfold lenF at p
  split at p
  · split at p
    · rename_i n h
      obtain ⟨x, rfl, rx⟩ := r.one
      rcases lenOf_seq h with ⟨z, rfl, hz, rfl⟩ | ⟨ys, h1, rfl⟩
      · unfold Rep at rx; subst rx
        exact .inr ⟨z, rfl, size_le hz, p M H _ .refl so (rep_int _ _ _)⟩
      · obtain ⟨t, vs, rfl, q, s⟩ := seqOf_rep so h1 rx
        exact .inl ⟨t, vs, rfl, s.symm, p M H _ .refl so (by rw [q.length]; exact rep_int _ _ _)⟩
    · exact p.elim
  · exact p.elim
theorem v_list : CallV K (fun xs H Q => ∃ p ys, xs = [.ref p] ∧ (SqL K H p ys ∨ SqT K H p ys) ∧ ∀ l, H l = none → Q (.ref l) (upd H l (.lst ys))) listF := by
  intro as xs M H st Q E r so p
  unfold listF at p
  split at p
  · split at p
    · rename_i h
      obtain ⟨x, rfl, rx⟩ := r.one
      obtain ⟨t, vs, rfl, q, s⟩ := seqOf_rep so h rx
      exact ⟨t, vs, rfl, s.symm, fun l hl => p M _ _ (.laid so hl) (so.laid hl) (rep_lst so q hl)⟩
    · exact p.elim
  · exact p.elim
theorem v_tuple : CallV K (fun xs H Q => ∃ p ys, xs = [.ref p] ∧ ((SqL K H p ys ∧ ∀ l, H l = none → Q (.ref l) (upd H l (.tup ys))) ∨ (SqT K H p ys ∧ Q (.ref p) H))) tupleF := by
  intro as xs M H st Q E r so p
  unfold tupleF at p
  split at p
  · obtain ⟨x, rfl, rx⟩ := r.one
    have rx' := rx
    unfold Rep at rx
    obtain ⟨t, vs, rfl, f, q⟩ := rx
    exact ⟨t, vs, rfl, .inr ⟨f.sq, p M H _ .refl so rx'⟩⟩
  · rename_i hn
    split at p
    · rename_i h
      obtain ⟨x, rfl, rx⟩ := r.one
      obtain ⟨t, vs, rfl, q, s⟩ := seqOf_list so h (fun ys e => hn ys (by rw [e])) rx
      exact ⟨t, vs, rfl, .inl ⟨s, fun l hl => p M _ _ (.laid so hl) (so.laid hl) (rep_tup so q hl)⟩⟩
    · exact p.elim
  · exact p.elim
theorem v_sum : CallV K (qSum K) sumF := by
  intro as xs M H st Q E r so p
  unfold sumF at p
  split at p
  · split at p
    · rename_i ns h
      obtain ⟨x, rfl, rx⟩ := r.one
      obtain ⟨ds, h1, h2⟩ := Option.bind_eq_some_iff.mp h
      obtain ⟨t, vs, rfl, q, s⟩ := seqOf_rep so h1 rx
      have e := intsOf_rep h2 q
      subst e
      exact ⟨t, ns, rfl, s.symm, p M H _ .refl so (rep_int _ _ _)⟩
    · exact p.elim
  · exact p.elim
theorem v_all : CallV K (qAll K) allF := by
  intro as xs M H st Q E r so p
  unfold allF at p
  split at p
  · split at p
    · rename_i ns h
      obtain ⟨x, rfl, rx⟩ := r.one
      obtain ⟨ds, h1, h2⟩ := Option.bind_eq_some_iff.mp h
      obtain ⟨t, vs, rfl, q, s⟩ := seqOf_rep so h1 rx
      have e := boolsOf_rep h2 q
      subst e
      exact ⟨t, ns, rfl, s.symm, p M H _ .refl so (rep_bl _ _ _)⟩
    · exact p.elim
  · exact p.elim
theorem v_any : CallV K (qAny K) anyF := by
  intro as xs M H st Q E r so p
  unfold anyF at p
  split at p
  · split at p
    · rename_i ns h
      obtain ⟨x, rfl, rx⟩ := r.one
      obtain ⟨ds, h1, h2⟩ := Option.bind_eq_some_iff.mp h
      obtain ⟨t, vs, rfl, q, s⟩ := seqOf_rep so h1 rx
      have e := boolsOf_rep h2 q
      subst e
      exact ⟨t, ns, rfl, s.symm, p M H _ .refl so (rep_bl _ _ _)⟩
    · exact p.elim
  · exact p.elim
theorem v_abs : CallV K (fun xs H Q => ∃ i, xs = [.int i] ∧ Q (.int (if i < 0 then -i else i)) H) absF := by
  intro as xs M H st Q E r so p
  unfold absF at p
  split at p
  · obtain ⟨x, rfl, rx⟩ := r.one
    rw [rep_int_iff] at rx; subst rx
    exact ⟨_, rfl, p M H _ .refl so (rep_int _ _ _)⟩
  · exact p.elim
theorem v_int : CallV K (fun xs H Q => (∃ i, xs = [.int i] ∧ Q (.int i) H) ∨ ∃ k, xs = [.bl k] ∧ Q (.int (if k then 1 else 0)) H) intF := by
  intro as xs M H st Q E r so p
  unfold intF at p
  split at p
  · obtain ⟨x, rfl, rx⟩ := r.one
    rw [rep_int_iff] at rx; subst rx
    exact .inl ⟨_, rfl, p M H _ .refl so (rep_int _ _ _)⟩
  · obtain ⟨x, rfl, rx⟩ := r.one
    unfold Rep at rx; subst rx
    exact .inr ⟨_, rfl, p M H _ .refl so (rep_int _ _ _)⟩
  · exact p.elim
theorem bigI_eq : ∀ {ns : List Int} {m : Int}, m ∈ ns → (∀ y, y ∈ ns → y ≤ m) → m = bigI ns
  | [], _, h, _ => by cases h
  | [x], m, h, _ => by simpa [bigI] using h
  | x :: y :: r, m, h, g => by
    show m = max x (bigI (y :: r))
    have gx := g x (by simp)
    by_cases e : m ∈ y :: r
    · rw [← bigI_eq e (fun z hz => g z (List.mem_cons_of_mem _ hz))]; omega
    · have hm : m = x := by rcases List.mem_cons.mp h with h | h; exact h; exact absurd h e
      have : bigI (y :: r) ≤ m := by
        have hb : ∀ (l : List Int) (y : Int), bigI (y :: l) ∈ y :: l := by
          intro l; induction l with
          | nil => intro y; simp [bigI]
          | cons z l ih =>
            intro y
            show max y (bigI (z :: l)) ∈ _
            rcases Int.le_total y (bigI (z :: l)) with k | k
            · rw [Int.max_eq_right k]; exact List.mem_cons_of_mem _ (ih z)
            · rw [Int.max_eq_left k]; exact List.mem_cons_self
        exact g _ (List.mem_cons_of_mem _ (hb r y))
      omega
theorem smallI_eq : ∀ {ns : List Int} {m : Int}, m ∈ ns → (∀ y, y ∈ ns → m ≤ y) → m = smallI ns
  | [], _, h, _ => by cases h
  | [x], m, h, _ => by simpa [smallI] using h
  | x :: y :: r, m, h, g => by
    show m = min x (smallI (y :: r))
    have gx := g x (by simp)
    by_cases e : m ∈ y :: r
    · rw [← smallI_eq e (fun z hz => g z (List.mem_cons_of_mem _ hz))]; omega
    · have hm : m = x := by rcases List.mem_cons.mp h with h | h; exact h; exact absurd h e
      have : m ≤ smallI (y :: r) := by
        have hb : ∀ (l : List Int) (y : Int), smallI (y :: l) ∈ y :: l := by
          intro l; induction l with
          | nil => intro y; simp [smallI]
          | cons z l ih =>
            intro y
            show min y (smallI (z :: l)) ∈ _
            rcases Int.le_total y (smallI (z :: l)) with k | k
            · rw [Int.min_eq_left k]; exact List.mem_cons_self
            · rw [Int.min_eq_right k]; exact List.mem_cons_of_mem _ (ih z)
        exact g _ (List.mem_cons_of_mem _ (hb r y))
      omega
theorem v_max : CallV K (fun xs H Q => (∃ i j, xs = [.int i, .int j] ∧ Q (.int (if j > i then j else i)) H) ∨ qMax K xs H Q) maxF := by
  intro as xs M H st Q E r so p
  unfold maxF at p
  split at p
  · obtain ⟨x, y, rfl, rx, ry⟩ := r.two
    rw [rep_int_iff] at rx ry; subst rx ry
    exact .inl ⟨_, _, rfl, p M H _ .refl so (rep_int _ _ _)⟩
  · split at p
    · rename_i n ns h
      obtain ⟨x, rfl, rx⟩ := r.one
      obtain ⟨ds, h1, h2⟩ := Option.bind_eq_some_iff.mp h
      obtain ⟨t, vs, rfl, q, s⟩ := seqOf_rep so h1 rx
      have e := intsOf_rep h2 q
      subst e
      exact .inr ⟨t, n :: ns, rfl, s.symm, by simp, fun m h1 h2 => by rw [bigI_eq h1 h2]; exact p M H _ .refl so (rep_int _ _ _)⟩
    · exact p.elim
  · exact p.elim
theorem v_min : CallV K (fun xs H Q => (∃ i j, xs = [.int i, .int j] ∧ Q (.int (if j < i then j else i)) H) ∨ qMin K xs H Q) minF := by
  intro as xs M H st Q E r so p
  unfold minF at p
  split at p
  · obtain ⟨x, y, rfl, rx, ry⟩ := r.two
    rw [rep_int_iff] at rx ry; subst rx ry
    exact .inl ⟨_, _, rfl, p M H _ .refl so (rep_int _ _ _)⟩
  · split at p
    · rename_i n ns h
      obtain ⟨x, rfl, rx⟩ := r.one
      obtain ⟨ds, h1, h2⟩ := Option.bind_eq_some_iff.mp h
      obtain ⟨t, vs, rfl, q, s⟩ := seqOf_rep so h1 rx
      have e := intsOf_rep h2 q
      subst e
      exact .inr ⟨t, n :: ns, rfl, s.symm, by simp, fun m h1 h2 => by rw [smallI_eq h1 h2]; exact p M H _ .refl so (rep_int _ _ _)⟩
    · exact p.elim
  · exact p.elim
theorem big_bits {i : Int} (h : i.natAbs < big) : Builtin.Int.intBits i ≤ 4000 := by
  have := big_log h
  unfold Builtin.Int.intBits
  split <;> omega
theorem divp_ok2 {i j : Int} (h : 0 < j) (h2 : j.natAbs < big) : CDivP i j := by
  refine ⟨h, ?_⟩
  have := big_log h2
  unfold Builtin.divisionGoesByPylong
  have e : (decide ((if j == 0 then 0 else j.natAbs.log2 / 30 + 1 : Nat) > 300)) = false := by
    apply decide_eq_false
    split <;> omega
  simp only [e, Bool.false_and]
theorem v_divmod : CallV K (fun xs H Q => (∃ i j, xs = [.int i, .int j] ∧ CDiv i j ∧ ∀ p, H p = none → Q (.ref p) (upd H p (.tup [.int (i / j), .int (i % j)]))) ∨
    ∃ i j, xs = [.int i, .int j] ∧ CDivP i j ∧ ∀ p, H p = none → Q (.ref p) (upd H p (.tup [.int (i / j), .int (i % j)]))) divmodF := by
  intro as xs M H st Q E r so p
  unfold divmodF at p
  split at p
  · split at p
    · rename_i i j h
      obtain ⟨x, y, rfl, rx, ry⟩ := r.two
      rw [rep_int_iff] at rx ry; subst rx ry
      rcases h.2 with h2 | h2 | h2
      · exact .inl ⟨i, j, rfl, ⟨h.1, h2⟩, fun l hl => p M _ _ (.laid so hl) (so.laid hl) (rep_tup so (.ints [i / j, i % j]) hl)⟩
      · exact .inr ⟨i, j, rfl, divp_ok h.1 (by have := big_bits h2; omega), fun l hl => p M _ _ (.laid so hl) (so.laid hl) (rep_tup so (.ints [i / j, i % j]) hl)⟩
      · exact .inr ⟨i, j, rfl, divp_ok2 h.1 h2, fun l hl => p M _ _ (.laid so hl) (so.laid hl) (rep_tup so (.ints [i / j, i % j]) hl)⟩
    · exact p.elim
  · exact p.elim
end
end G
namespace G
open PySem PySem.Spec PyProof.Rows L2
def ixD : F2 := fun a b st => match b with
  | .int i => (match a with
    | .str x => if x.length ≤ 16777216 then (match atI x.cps.toList i with
        | some c => .ok (.str ⟨#[c]⟩) st
        | none => .fail) else .fail
    | a => match (seqOf a st).bind fun xs => atI xs i with
      | some d => .ok d st
      | none => .fail)
  | _ => .fail
def cutD (xs : List D) (lo hi : Option Int) : List D := (xs.drop (HT.sIx xs.length 0 lo)).take (HT.sIx xs.length xs.length hi - HT.sIx xs.length 0 lo)
def sliceD (a : D) (lo hi : Option Int) (st : Sto) : R D := match a with
  | .tup xs => .ok (.tup (cutD xs lo hi)) st
  | .str x => if x.length ≤ 16777216 then .ok (.str (cutS x lo hi)) st else .fail
  | a => match seqOf a st with
    | some xs => .ok (.lst (cutD xs lo hi)) st
    | none => .fail
abbrev EvO := Env → Sto → R (Option Int)
def noO : EvO := fun _ st => .ok none st
def someO (fa : EvE) : EvO := fun env st => (fa env st).bind fun a st1 => match a with
  | .int i => .ok (some i) st1
  | _ => .fail
def sliceE (fa : EvE) (lo hi : EvO) : EvE := fun env st => (fa env st).bind fun a st1 => (lo env st1).bind fun l st2 => (hi env st2).bind fun h st3 => sliceD a l h st3
section
variable {K : PySem.W.Frag}
theorem RepL.atI {M : Mem} {H : Hp} {ds : List D} {vs : List V} {i : Int} {d : D} (r : RepL K M H ds vs) (h : L2.atI ds i = some d) : ∃ v, L2.atI vs i = some v ∧ Rep K M H d v := by
  unfold L2.atI at h ⊢
  rw [r.length] at h
  obtain ⟨j, h1, h2⟩ := Option.bind_eq_some_iff.mp h
  obtain ⟨v, h3, h4⟩ := r.get h2
  exact ⟨v, by rw [h1]; exact h3, h4⟩
theorem RepL.cut {M : Mem} {H : Hp} {ds : List D} {vs : List V} (r : RepL K M H ds vs) (lo hi : Option Int) : RepL K M H (cutD ds lo hi) (cutV vs lo hi) := by
  unfold cutD cutV
  rw [r.length]
  exact (r.drop _).take _
theorem v_ix : OpV K (rIx K) ixD := by
  intro a b x y M H st Q E ra rb so p
  unfold ixD at p
  split at p
  · rename_i i
    rw [rep_int_iff] at rb; subst rb
    split at p
    · unfold Rep at ra; subst ra
      split at p
      · rename_i hz
        split at p
        · rename_i c hc
          exact .inr (.inr ⟨_, i, c, rfl, rfl, size_le hz, hc, p M H _ .refl so (rep_str _ _ _)⟩)
        · exact p.elim
      · exact p.elim
    · split at p
      · rename_i d hd
        obtain ⟨xs, h1, h2⟩ := Option.bind_eq_some_iff.mp hd
        obtain ⟨t, vs, rfl, q, s⟩ := seqOf_rep so h1 ra
        obtain ⟨v, h3, h4⟩ := q.atI h2
        rcases s with s | s
        · exact .inr (.inl ⟨t, vs, i, v, rfl, rfl, s, h3, p M H _ .refl so h4⟩)
        · exact .inl ⟨t, vs, i, v, rfl, rfl, s, h3, p M H _ .refl so h4⟩
      · exact p.elim
  · exact p.elim
def rSl (K : PySem.W.Frag) : V → Option Int → Option Int → Hp → VK → Prop := fun x lo hi H Q => rSlL K x lo hi H Q ∨ (rSlA K x lo hi H Q ∨ rSlS x lo hi H Q)
theorem o_sl {X : Cx} : SlR X (rSl X.K) := SlR.or sl_list (SlR.or sl_tupA sl_str)
theorem v_sl {a : D} {lo hi : Option Int} {x : V} {M : Mem} {H : Hp} {st : Sto} {Q : VK} {E : XK} (ra : Rep K M H a x) (so : StOk K M H st) (p : Post K (Rep K) M H Q E (sliceD a lo hi st)) : rSl K x lo hi H Q := by
  unfold sliceD at p
  split at p
  · rename_i xs
    have ra' := ra
    unfold Rep at ra
    obtain ⟨t, vs, rfl, f, q⟩ := ra
    refine .inr (.inl ⟨t, vs, rfl, f.sq, fun hw => ?_, fun _ l hl => p M _ _ (.laid so hl) (so.laid hl) (rep_tup so (q.cut lo hi) hl)⟩)
    have e : cutD xs lo hi = xs := by
      unfold cutD
      rw [q.length, hw.1, hw.2, List.drop_zero, Nat.sub_zero, ← q.length, List.take_length]
    rw [e] at p
    exact p M H _ .refl so ra'
  · split at p
    · rename_i hz
      unfold Rep at ra; subst ra
      exact .inr (.inr ⟨_, rfl, size_le hz, p M H _ .refl so (rep_str _ _ _)⟩)
    · exact p.elim
  · rename_i hn1 hn2
    split at p
    · rename_i xs h
      obtain ⟨t, vs, rfl, q, s⟩ := seqOf_list so h (fun ys e => hn1 ys e) ra
      exact .inl ⟨t, vs, rfl, s, fun l hl => p M _ _ (.laid so hl) (so.laid hl) (rep_lst so (q.cut lo hi) hl)⟩
    · exact p.elim
end
abbrev rdO (K : PySem.W.Frag) (W : WX) (f : EvO) : TO := rd K (fun _ _ a b => a = b) W f
section
variable {X : Cx} {W : WX} {a b : Expr} {fa fb : EvE} {pos p2 : Pos} {lo hi : Option Expr} {fl fh : EvO}
theorem _root_.L2.PO.imp {e : Option Expr} {t t' : TO} (h : PO X e t) (i : ∀ σ H Q, t' σ H Q → t σ H Q) : PO X e t' := ⟨fun pins s σ H Q I q => h.run pins s σ H Q I (i σ H Q q)⟩
theorem g_no : PO X none (rdO X.K W noO) := po_none.imp fun σ H Q ⟨env, M, st, eo, so, p⟩ => p M H none .refl so rfl
theorem g_some (h : PE X a (rdE X.K W fa)) : PO X (some a) (rdO X.K W (someO fa)) := (po_some h).imp fun σ H Q ⟨env, M, st, eo, so, p⟩ => ⟨env, M, st, eo, so, Post.imp (Post.bind p) fun x H1 ⟨M1, st1, a, g, so1, ra, p1⟩ => by
  cases a with
  | int i =>
    rw [rep_int_iff] at ra; subst ra
    exact ⟨i, rfl, p1 M1 H1 _ .refl so1 rfl⟩
  | _ => exact p1.elim⟩
theorem g_ix (ha : PE X a (rdE X.K W fa)) (hb : PE X b (rdE X.K W fb)) (hs : PlainIx b) : PE X (.Subscript a b pos) (rdE X.K W (binE ixD fa fb)) :=
  (pe_ix ix_seq ha hb hs).imp (rd_bin v_ix)
theorem g_slice (ha : PE X a (rdE X.K W fa)) (hl : PO X lo (rdO X.K W fl)) (hh : PO X hi (rdO X.K W fh)) : PE X (.Subscript a (.Slice lo hi none p2) pos) (rdE X.K W (sliceE fa fl fh)) :=
  (pe_slice o_sl ha hl hh).imp fun σ H Q ⟨env, M, st, eo, so, p⟩ => ⟨env, M, st, eo, so, Post.imp (Post.bind p) fun x H1 ⟨M1, st1, a, g, so1, ra, p1⟩ =>
    ⟨env, M1, st1, eo.grow g, so1, Post.imp (Post.bind (rep := fun _ _ a b => a = b) p1) fun l H2 ⟨M2, st2, l', g2, so2, rl, p2⟩ => by
      subst rl
      exact ⟨env, M2, st2, (eo.grow g).grow g2, so2, Post.imp (Post.bind (rep := fun _ _ a b => a = b) p2) fun h H3 ⟨M3, st3, h', g3, so3, rh, p3⟩ => by
        subst rh
        exact v_sl (ra.grow (g2.trans g3)) so3 p3⟩⟩⟩
end
inductive Tag where
  | non | bl | int | str | tup | lst | dic
def tyName : Tag → String
  | .non => "NoneType" | .bl => "bool" | .int => "int" | .str => "str" | .tup => "tuple" | .lst => "list" | .dic => "dict"
def isiB : Tag → Tag → Bool
  | .non, .non => true | .bl, .bl => true | .int, .int => true | .str, .str => true | .tup, .tup => true | .lst, .lst => true | .dic, .dic => true
  | .bl, .int => true
  | _, _ => false
def tagOf (a : D) (st : Sto) : Option Tag := match a with
  | .non => some .non | .bl _ => some .bl | .int _ => some .int | .str _ => some .str | .tup _ => some .tup | .lst _ => some .lst | .slo _ => some .lst
  | .mut n => (match st[n]? with
    | some (.lst _) => some .lst
    | _ => none)
  | .raw _ => none
  | .fn _ => none
  | .exv .. => none
  | .rg .. => none
  | .dic => some .dic
  | .emp => some .dic
def isiD (c : Tag) : F1 := fun a st => match tagOf a st with
  | some t => .ok (.bl (isiB t c)) st
  | none => .fail
theorem kit_tag : ∀ t c, kitB (tyName t) (tyName c) = some (isiB t c) := by
  intro t c
  cases t <;> cases c <;> decide +kernel
theorem tagOf_rep {K : PySem.W.Frag} {M : Mem} {H : Hp} {a : D} {st : Sto} {t : Tag} {x : V} (so : StOk K M H st) (h : tagOf a st = some t) (r : Rep K M H a x) : TyX K H x (.type (tyName t)) := by
  unfold tagOf at h
  split at h
  · cases h; unfold Rep at r; subst r; exact .base .non
  · cases h; unfold Rep at r; subst r; exact .base (.bl _)
  · cases h; unfold Rep at r; subst r; exact .base (.int _)
  · cases h; unfold Rep at r; subst r; exact .base (.str _)
  · cases h; unfold Rep at r; obtain ⟨p, vs, rfl, f, q⟩ := r
    exact .base (.tup f.1)
  · cases h; unfold Rep at r; obtain ⟨p, vs, rfl, f, q⟩ := r
    exact .base (.lst f.1)
  · cases h; unfold Rep at r; obtain ⟨p, vs, rfl, f, q⟩ := r
    rcases f with ⟨f | ⟨o, f⟩, _⟩ | ⟨o, its, n, f1, f2, _⟩
    · exact .base (.lst f)
    · exact .base (.frz f)
    · exact .kList f1 f2
  · split at h
    · rename_i e
      cases h; unfold Rep at r; obtain ⟨p, rfl, m⟩ := r
      obtain ⟨vs, hv, _⟩ := so.at_ _ p _ m e
      exact .base (.lst hv)
    · cases h
  · cases h
  · cases h
  · cases h
  · cases h
  · cases h; unfold Rep at r; obtain ⟨p, kvs, rfl, f, n⟩ := r
    exact .base (.dK f)
  · cases h; unfold Rep at r; obtain ⟨p, rfl, f, n⟩ := r
    exact .base (.dK f)
section
variable {X : Cx} {W : WX} {a : Expr} {fa : EvE} {p q pos : Pos}
theorem g_isi (c : Tag) {nm : Str} (ha : PE X a (rdE X.K W fa)) (h0 : ∀ {te : TE}, PE X a te → PE X (.Call (.Name "isinstance" p) [a, .Name nm q] [] pos) (tCB (rIsi X.K) (tCons te (tCons (tC (.ty (tyName c))) tNil)))) :
    PE X (.Call (.Name "isinstance" p) [a, .Name nm q] [] pos) (rdE X.K W (unE (isiD c) fa)) :=
  (h0 ha).imp fun σ H Q ⟨env, M, st, eo, so, p⟩ => ⟨env, M, st, eo, so, Post.imp (Post.bind p) fun x H1 ⟨M1, st1, a, g, so1, ra, p1⟩ => by
    unfold isiD at p1
    split at p1
    · rename_i t h
      exact ⟨x, .ty (tyName c), .type (tyName t), .type (tyName c), isiB t c, rfl, .ty _, tagOf_rep so1 h ra, kit_ty (kit_tag t c), p1 M1 H1 _ .refl so1 (rep_bl _ _ _)⟩
    · exact p1.elim⟩
end
inductive S where
  | nx (env : Env) (st : Sto) | ret (d : D) (st : Sto) | brk (env : Env) (st : Sto) | cont (env : Env) (st : Sto) | exc (e : Ex) (env : Env) (st : Sto) | fail
abbrev SvS := Env → Sto → S
def PostS (K : PySem.W.Frag) (M : Mem) (H : Hp) (T : Ends) (W : WX) : S → Prop
  | .nx env st => ∀ M' H' σ', Grow M H M' H' → StOk K M' H' st → EnvOk K M' H' env σ' → T.nx σ' H'
  | .ret d st => ∀ M' H' v, Grow M H M' H' → StOk K M' H' st → Rep K M' H' d v → T.rt v H'
  | .brk env st => ∀ M' H' σ', Grow M H M' H' → StOk K M' H' st → EnvOk K M' H' env σ' → T.bk σ' H'
  | .cont env st => ∀ M' H' σ', Grow M H M' H' → StOk K M' H' st → EnvOk K M' H' env σ' → T.ct σ' H'
  | .exc e env st => ∀ M' H' σ' c od, Grow M H M' H' → StOk K M' H' st → EnvOk K M' H' env σ' → RepX K M' H' e c od → W c od σ' H'
  | .fail => False
theorem PostS.mono {K : PySem.W.Frag} {M M1 : Mem} {H H1 : Hp} {T : Ends} {W : WX} {s : S} (g : Grow M H M1 H1) (p : PostS K M H T W s) : PostS K M1 H1 T W s := by
  cases s with
  | nx env st => exact fun M' H' σ' g' => p M' H' σ' (g.trans g')
  | ret d st => exact fun M' H' v g' => p M' H' v (g.trans g')
  | brk env st => exact fun M' H' σ' g' => p M' H' σ' (g.trans g')
  | cont env st => exact fun M' H' σ' g' => p M' H' σ' (g.trans g')
  | exc e env st => exact fun M' H' σ' c od g' => p M' H' σ' c od (g.trans g')
  | fail => exact p
def rdS (K : PySem.W.Frag) (W : WX) (f : SvS) : TS := fun T σ H => ∃ env M st, EnvOk K M H env σ ∧ StOk K M H st ∧ PostS K M H T W (f env st)
def bindS {α : Type} (r : R α) (env : Env) (k : α → Sto → S) : S := match r with
  | .ok a st => k a st
  | .exc e st => .exc e env st
  | .fail => .fail
@[simp] theorem bindS_ok {α : Type} (a : α) (st : Sto) (env : Env) (k : α → Sto → S) : bindS (.ok a st) env k = k a st := rfl
theorem PostS.bind {α β : Type} {K : PySem.W.Frag} {rep : RR α β} {M : Mem} {H : Hp} {T : Ends} {W : WX} {r : R α} {env : Env} {k : α → Sto → S} {σ : L2.St} (eo : EnvOk K M H env σ) (p : PostS K M H T W (bindS r env k)) :
    Post K rep M H (fun b H1 => ∃ M1 st1 a, Grow M H M1 H1 ∧ StOk K M1 H1 st1 ∧ rep M1 H1 a b ∧ PostS K M1 H1 T W (k a st1)) (WE W σ) r := by
  cases r with
  | ok a st => exact fun M' H' b g so h => ⟨M', st, a, g, so, h, PostS.mono g p⟩
  | exc e st => exact fun M' H' c od g so h => p M' H' σ c od g so (eo.grow g) h
  | fail => exact p
def passS : SvS := fun env st => .nx env st
def retS (fa : EvE) : SvS := fun env st => bindS (fa env st) env fun d st1 => .ret d st1
def exprS (fa : EvE) : SvS := fun env st => bindS (fa env st) env fun _ st1 => .nx env st1
def ifS (t : EvB) (f g : SvS) : SvS := fun env st => bindS (t env st) env fun b st1 => if b = true then f env st1 else g env st1
def seqS (f g : SvS) : SvS := fun env st => match f env st with
  | .nx env1 st1 => g env1 st1
  | s => s
section
variable {X : Cx} {W : WX} {s : Stmt} {rest : List Stmt} {a : Expr} {fa : EvE} {t : EvB} {f g : SvS} {pos : Pos}
theorem s_nil : PSs X [] (rdS X.K W passS) := pss_nil.imp fun T σ H ⟨env, M, st, eo, so, p⟩ => p M H σ .refl so eo
theorem s_cons (h1 : PS X s (rdS X.K W f)) (h2 : PSs X rest (rdS X.K W g)) : PSs X (s :: rest) (rdS X.K W (seqS f g)) :=
  (pss_cons h1 h2).imp fun T σ H ⟨env, M, st, eo, so, p⟩ => ⟨env, M, st, eo, so, by
    unfold seqS at p
    cases e : f env st with
    | nx env1 st1 =>
      rw [e] at p
      exact fun M' H' σ' gr so' eo' => ⟨env1, M', st1, eo', so', PostS.mono gr p⟩
    | ret d st1 => rw [e] at p; exact p
    | brk env1 st1 => rw [e] at p; exact p
    | cont env1 st1 => rw [e] at p; exact p
    | exc x env1 st1 => rw [e] at p; exact p
    | fail => rw [e] at p; exact p⟩
theorem s_one (h1 : PS X s (rdS X.K W f)) : PSs X [s] (rdS X.K W f) := pss_one h1
theorem s_ret (h : PE X a (rdE X.K W fa)) : PS X (.Return (some a) pos) (rdS X.K W (retS fa)) :=
  (ps_ret h).imp fun T σ H ⟨env, M, st, eo, so, p⟩ => ⟨env, M, st, eo, so, Post.imp (PostS.bind eo p) fun x H1 ⟨M1, st1, d, g, so1, ra, p1⟩ => p1 M1 H1 x .refl so1 ra⟩
theorem s_expr (h : PE X a (rdE X.K W fa)) (hs : swapsWith a none pos.line X.env = pure false) : PS X (.Expr a pos) (rdS X.K W (exprS fa)) :=
  (ps_expr h hs).imp fun T σ H ⟨env, M, st, eo, so, p⟩ => ⟨env, M, st, eo, so, Post.imp (PostS.bind eo p) fun x H1 ⟨M1, st1, d, g, so1, ra, p1⟩ => p1 M1 H1 σ .refl so1 (eo.grow g)⟩
theorem s_if {c : Expr} {A B : List Stmt} (hc : PT X c (rdB X.K W t)) (ha : PSs X A (rdS X.K W f)) (hb : PSs X B (rdS X.K W g)) : PS X (.If c A B pos) (rdS X.K W (ifS t f g)) :=
  (ps_if hc ha hb).imp fun T σ H ⟨env, M, st, eo, so, p⟩ => ⟨env, M, st, eo, so, Post.imp (PostS.bind (rep := fun _ _ a b => a = b) eo p) fun x H1 ⟨M1, st1, d, gr, so1, ra, p1⟩ => by
    subst ra
    cases d with
    | true => exact ⟨env, M1, st1, eo.grow gr, so1, p1⟩
    | false => exact ⟨env, M1, st1, eo.grow gr, so1, p1⟩⟩
end
abbrev TgF := D → Env → Sto → R Env
def rdG (K : PySem.W.Frag) (W : WX) (f : TgF) : TG := fun v σ H Q => ∃ d env M st, Rep K M H d v ∧ EnvOk K M H env σ ∧ StOk K M H st ∧ Post K (EnvOk K) M H Q (WE W σ) (f d env st)
def rdGs (K : PySem.W.Frag) (W : WX) (f : List D → Env → Sto → R Env) : TGs := fun vs σ H Q => ∃ ds env M st, RepL K M H ds vs ∧ EnvOk K M H env σ ∧ StOk K M H st ∧ Post K (EnvOk K) M H Q (WE W σ) (f ds env st)
def nameT (i : Nat) : TgF := fun d env st => .ok (env.set i (some d)) st
def nilT : List D → Env → Sto → R Env := fun ds env st => match ds with
  | [] => .ok env st
  | _ => .fail
def consT (f : TgF) (fs : List D → Env → Sto → R Env) : List D → Env → Sto → R Env := fun ds env st => match ds with
  | d :: r => (match f d env st with
    | .ok env1 st1 => (match fs r env1 st1 with
      | .ok env2 st2 => .ok env2 st2
      | _ => .fail)
    | _ => .fail)
  | [] => .fail
def tupT (n : Nat) (fs : List D → Env → Sto → R Env) : TgF := fun d env st => match d with
  | .tup xs => if xs.length = n then fs xs env st else .fail
  | _ => .fail
def setD (o i d : D) (st : Sto) : Option Sto := match o, i with
  | .mut n, .int k => (match st[n]? with
    | some (.lst xs) => (ixN xs.length k).map fun j => st.set n (.lst (xs.set j d))
    | _ => none)
  | _, _ => none
def subT (fo fi : EvE) : TgF := fun d env st => (fo env st).bind fun o st1 => (fi env st1).bind fun i st2 => match setD o i d st2 with
  | some st3 => .ok env st3
  | none => .fail
def asgS (fa : EvE) (g : TgF) : SvS := fun env st => bindS (fa env st) env fun d st1 => bindS (g d env st1) env fun env1 st2 => .nx env1 st2
section
variable {X : Cx} {W : WX} {tg a b : Expr} {es : List Expr} {fa fb : EvE} {f : TgF} {fs : List D → Env → Sto → R Env} {pos : Pos}
theorem _root_.L2.PG.imp {t t' : TG} (h : PG X tg t) (i : ∀ v σ H Q, t' v σ H Q → t v σ H Q) : PG X tg t' := ⟨fun pins s σ H v u Q I r q => h.run pins s σ H v u Q I r (i v σ H Q q)⟩
theorem _root_.L2.PGs.imp {t t' : TGs} (h : PGs X es t) (i : ∀ v σ H Q, t' v σ H Q → t v σ H Q) : PGs X es t' := ⟨fun pins s σ H v u Q I r q => h.run pins s σ H v u Q I r (i v σ H Q q)⟩
theorem t_name {i : Nat} (h : PG X tg (gName i)) : PG X tg (rdG X.K W (nameT i)) := h.imp fun v σ H Q ⟨d, env, M, st, r, eo, so, p⟩ => p M H _ .refl so (eo.set i r)
theorem t_nil : PGs X [] (rdGs X.K W nilT) := pgs_nil.imp fun v σ H Q ⟨ds, env, M, st, r, eo, so, p⟩ => by
  cases ds with
  | nil => unfold RepL at r; exact ⟨r, p M H _ .refl so eo⟩
  | cons d ds => exact p.elim
theorem t_cons (h1 : PG X tg (rdG X.K W f)) (h2 : PGs X es (rdGs X.K W fs)) (hs : (assignEach (tg :: es) X.env).map (·.2) = assign tg X.env :: (assignEach es X.env).map (·.2)) : PGs X (tg :: es) (rdGs X.K W (consT f fs)) := (pgs_cons h1 h2 hs).imp fun v σ H Q ⟨ds, env, M, st, r, eo, so, p⟩ => by
  cases ds with
  | nil => exact p.elim
  | cons d ds =>
    unfold RepL at r
    obtain ⟨x, rr, rfl, r1, r2⟩ := r
    unfold consT at p
    cases e : f d env st with
    | exc x s => simp only [e] at p; exact p.elim
    | fail => simp only [e] at p; exact p.elim
    | ok env1 st1 =>
      simp only [e] at p
      refine ⟨x, rr, rfl, d, env, M, st, r1, eo, so, ?_⟩
      rw [e]
      intro M' H' σ' g so' eo'
      refine ⟨ds, env1, M', st1, r2.grow g, eo', so', ?_⟩
      cases e2 : fs ds env1 st1 with
      | exc x s => simp only [e2] at p; exact p.elim
      | fail => simp only [e2] at p; exact p.elim
      | ok env2 st2 =>
        simp only [e2] at p
        exact fun M2 H2 σ2 g2 so2 eo2 => p M2 H2 σ2 (g.trans g2) so2 eo2
theorem t_tup {n : Nat} {k : Nat} (h : PG X (.Tuple es k pos) (gTup X.K n (rdGs X.K W fs))) : PG X (.Tuple es k pos) (rdG X.K W (tupT n fs)) := h.imp fun v σ H Q ⟨d, env, M, st, r, eo, so, p⟩ => by
  unfold tupT at p
  split at p
  · rename_i xs
    split at p
    · rename_i hl
      unfold Rep at r
      obtain ⟨t, vs, rfl, fz, q⟩ := r
      exact ⟨t, vs, rfl, fz.sq, by rw [← q.length]; exact hl, xs, env, M, st, q, eo, so, p⟩
    · exact p.elim
  · exact p.elim
theorem setD_rep {K : PySem.W.Frag} {M : Mem} {H : Hp} {o i d : D} {st st' : Sto} {x y v : V} {Q : Hp → Prop} (so : StOk K M H st) (h : setD o i d st = some st') (r1 : Rep K M H o x) (r2 : Rep K M H i y) (r3 : Rep K M H d v)
    (q : ∀ H', Grow M H M H' → StOk K M H' st' → Q H') : rSetL x y v H Q := by
  unfold setD at h
  split at h
  · rename_i n k
    split at h
    · rename_i xs e
      obtain ⟨j, hj, rfl⟩ := Option.map_eq_some_iff.mp h
      unfold Rep at r1 r2
      obtain ⟨p, rfl, m⟩ := r1
      subst r2
      obtain ⟨vs, hv, rl⟩ := so.at_ n p _ m e
      rw [rl.length] at hj
      exact ⟨p, vs, k, j, rfl, rfl, hv, hj, q _ (.put so m) (so.putL m (rl.set r3 j))⟩
    · cases h
  · cases h
theorem t_sub (ha : PE X a (rdE X.K W fa)) (hb : PE X b (rdE X.K W fb)) (h0 : PG X (.Subscript a b pos) (gSub (rdE X.K W fa) (rdE X.K W fb) rSetL)) : PG X (.Subscript a b pos) (rdG X.K W (subT fa fb)) :=
  h0.imp fun v σ H Q ⟨d, env, M, st, r, eo, so, p⟩ => ⟨env, M, st, eo, so, Post.imp (Post.bind p) fun x H1 ⟨M1, st1, o, g, so1, ro, p1⟩ =>
    ⟨env, M1, st1, eo.grow g, so1, Post.imp (Post.bind (rep := Rep X.K) p1) fun y H2 ⟨M2, st2, i, g2, so2, ri, p2⟩ => by
      split at p2
      · rename_i st3 h
        exact setD_rep so2 h (ro.grow g2) ri (r.grow (g.trans g2)) fun H' g3 so3 => p2 M2 H' σ g3 so3 ((eo.grow (g.trans g2)).grow g3)
      · exact p2.elim⟩⟩
theorem s_asg {sp : Pos} (h0 : PS X (.Assign [tg] a sp) (tAsg (rdE X.K W fa) (rdG X.K W f))) : PS X (.Assign [tg] a sp) (rdS X.K W (asgS fa f)) :=
  h0.imp fun T σ H ⟨env, M, st, eo, so, p⟩ => ⟨env, M, st, eo, so, Post.imp (PostS.bind eo p) fun x H1 ⟨M1, st1, d, g, so1, ra, p1⟩ =>
    ⟨d, env, M1, st1, ra, eo.grow g, so1, Post.imp (PostS.bind (rep := EnvOk X.K) (eo.grow g) p1) fun σ2 H2 ⟨M2, st2, env2, g2, so2, eo2, p2⟩ => p2 M2 H2 σ2 .refl so2 eo2⟩⟩
end
end G
namespace G
open PySem PySem.Spec PyProof.Rows L2
inductive ItD where
  | frz (xs : List D)
  | gen (nxt : Nat → Sto → Option (Option D)) (most : Nat)
abbrev EvI := Env → Sto → R ItD
def ItRep (K : PySem.W.Frag) : RR ItD It := fun M H it J => match it with
  | .frz xs => ∀ i M' H' st', Keep M H M' H' → StOk K M' H' st' → (i = xs.length → J.stop i H') ∧ ∀ d, xs[i]? = some d → J.go i H' ∧ ∀ x H'', J.yld i H' x H'' → Grow M' H' M' H'' ∧ StOk K M' H'' st' ∧ Rep K M' H'' d x
  | .gen nxt _ => ∀ i M' H' st', Keep M H M' H' → StOk K M' H' st' → (nxt i st' = some none → J.stop i H') ∧ ∀ d, nxt i st' = some (some d) → J.go i H' ∧ ∀ x H'', J.yld i H' x H'' → Grow M' H' M' H'' ∧ StOk K M' H'' st' ∧ Rep K M' H'' d x
abbrev rdI (K : PySem.W.Frag) (W : WX) (f : EvI) : TI := rd K (ItRep K) W f
def mutNxt (n : Nat) : Nat → Sto → Option (Option D) := fun i st => match st[n]? with
  | some (.lst ys) => some ys[i]?
  | _ => none
def iterD (d : D) (st : Sto) : R ItD := match d with
  | .mut n => (match st[n]? with
    | some (.lst ys) => .ok (.gen (mutNxt n) ys.length) st
    | _ => .fail)
  | d => (match itemsOf d with
    | some xs => .ok (.frz xs) st
    | none => .fail)
def iterE (fa : EvE) : EvI := fun env st => (fa env st).bind iterD
section
variable {K : PySem.W.Frag} {M M' : Mem} {H H' : Hp}
theorem itt_rep {a : Addr} {xs : List D} {vs : List V} (f : FzT K M H a vs) (q : RepL K M H xs vs) : ItRep K M H (.frz xs) (Itt K a) := fun i M' H' st' g so => by
  have f' := (g.fzT f).sq
  have q' := q.kp g
  refine ⟨fun e => ⟨vs, f', by rw [← q.length]; omega⟩, fun d hd => ?_⟩
  obtain ⟨v, hv, r⟩ := q'.get hd
  refine ⟨⟨vs, v, f', hv⟩, fun x H'' ⟨e, hx⟩ => ?_⟩
  subst e
  have := hx vs f'
  rw [hv] at this; cases this
  exact ⟨.refl, so, r⟩
theorem itl_rep {a : Addr} {xs : List D} {vs : List V} (f : ∀ M' H', Keep M H M' H' → SqL K H' a vs) (q : RepL K M H xs vs) : ItRep K M H (.frz xs) (Itl K a) := fun i M' H' st' g so => by
  have f' := f _ _ g
  have q' := q.kp g
  refine ⟨fun e => ⟨vs, f', by rw [← q.length]; omega⟩, fun d hd => ?_⟩
  obtain ⟨v, hv, r⟩ := q'.get hd
  refine ⟨⟨vs, v, f', hv⟩, fun x H'' ⟨e, hx⟩ => ?_⟩
  subst e
  have := hx vs f'
  rw [hv] at this; cases this
  exact ⟨.refl, so, r⟩
theorem itm_rep {a : Addr} {n k : Nat} (m : M.m[n]? = some a) : ItRep K M H (.gen (mutNxt n) k) (Itl K a) := fun i M' H' st' g so => by
  have m' := g.pre n a m
  unfold mutNxt
  cases e : st'[n]? with
  | none => exact ⟨(by simp), fun d h => by simp at h⟩
  | some mo =>
    cases mo with
    | dk _ => exact ⟨(by simp), fun d h => by simp at h⟩
    | dt _ => exact ⟨(by simp), fun d h => by simp at h⟩
    | fk _ => exact ⟨(by simp), fun d h => by simp at h⟩
    | dd _ => exact ⟨(by simp), fun d h => by simp at h⟩
    | de _ => exact ⟨(by simp), fun d h => by simp at h⟩
    | fd _ => exact ⟨(by simp), fun d h => by simp at h⟩
    | fe _ => exact ⟨(by simp), fun d h => by simp at h⟩
    | lst ys =>
      obtain ⟨vs, hv, q⟩ := so.at_ n a _ m' e
      refine ⟨fun h => ⟨vs, .of hv, ?_⟩, fun d h => ?_⟩
      · have h : ys[i]? = none := by simpa using h
        rw [← q.length]; exact List.getElem?_eq_none_iff.mp h
      · have h : ys[i]? = some d := by simpa using h
        obtain ⟨v, h1, r⟩ := q.get h
        refine ⟨⟨vs, v, .of hv, h1⟩, fun x H'' ⟨e, hx⟩ => ?_⟩
        subst e
        have := hx vs (.of hv)
        rw [h1] at this; cases this
        exact ⟨.refl, so, r⟩
theorem itr_rep {lo : Int} {n : Nat} : ItRep K M H (.frz ((List.range n).map fun k => .int (lo + (k : Nat)))) (Itr lo n) := fun i M' H' st' g so => by
  refine ⟨fun e => ?_, fun d hd => ?_⟩
  · have : i = n := by simpa using e
    exact Nat.le_of_eq this.symm
  · rw [List.getElem?_map] at hd
    obtain ⟨k, hk, rfl⟩ := Option.map_eq_some_iff.mp hd
    obtain ⟨hk1, hk2⟩ := List.getElem?_eq_some_iff.mp hk
    have hn : i < n := by simpa using hk1
    simp at hk2
    subst hk2
    refine ⟨hn, fun x H'' ⟨e1, e2⟩ => ?_⟩
    subst e1 e2
    exact ⟨.refl, so, rep_int _ _ _⟩
end
section
variable {X : Cx} {W : WX} {tg l : Expr} {fa : EvE}
theorem g_iter (hl : PE X l (rdE X.K W fa)) : PI X tg l (rdI X.K W (iterE fa)) := ⟨fun pins s σ H R' I ⟨env, M, st, eo, so, p⟩ => by
  unfold iterE at p
  have useL : (∀ d st1, fa env st = .ok d st1 → ∀ M' H' v, Grow M H M' H' → StOk X.K M' H' st1 → Rep X.K M' H' d v → ∃ a, v = .ref a ∧ (∃ xs, SqL X.K H' a xs) ∧ R' (Itl X.K a) H') → (∀ st1, fa env st ≠ .fail) →
      (∀ e st1, fa env st = .exc e st1 → Post X.K (Rep X.K) M H (fun _ _ => False) (WE W σ) (fa env st)) → wpAny (model X.prog X.w) X.A (eval l X.env) (fun v s1 => wpAny (model X.prog X.w) X.A (pyIter v) (PIE X pins σ tg R') X.xe s1) X.xe s := fun h1 h2 h3 =>
    (pi_list hl).run pins s σ H R' I ⟨env, M, st, eo, so, by
      cases e : fa env st with
      | ok d st1 => exact h1 d st1 e
      | exc x st1 => have := h3 x st1 e; rw [e] at this; exact this
      | fail => exact absurd e (h2 st)⟩
  cases e : fa env st with
  | fail => rw [e] at p; exact p.elim
  | exc x st1 =>
    refine useL (fun d st1 e' => by rw [e] at e'; cases e') (fun st1 e' => by rw [e] at e'; cases e') fun x' st1' e' => ?_
    rw [e] at p ⊢
    exact p
  | ok d st1 =>
    rw [e] at p
    have p : Post X.K (ItRep X.K) M H R' (WE W σ) (iterD d st1) := p
    unfold iterD at p
    have fin : (∀ M' H' v, Grow M H M' H' → StOk X.K M' H' st1 → Rep X.K M' H' d v → ∃ a, v = .ref a ∧ (∃ xs, SqL X.K H' a xs) ∧ R' (Itl X.K a) H') → wpAny (model X.prog X.w) X.A (eval l X.env) (fun v s1 => wpAny (model X.prog X.w) X.A (pyIter v) (PIE X pins σ tg R') X.xe s1) X.xe s := fun h =>
      useL (fun d' st1' e' => by rw [e] at e'; cases e'; exact h) (fun st1 e' => by rw [e] at e'; cases e') fun x' st1' e' => by rw [e] at e'; cases e'
    cases d with
    | «mut» n =>
      split at p
      · rename_i n' h
        cases h
        split at p
        · rename_i ys e2
          refine fin fun M' H' v g so' r => ?_
          unfold Rep at r
          obtain ⟨a, rfl, m⟩ := r
          obtain ⟨vs, hv, _⟩ := so'.at_ n a _ m e2
          exact ⟨a, rfl, ⟨vs, .of hv⟩, p M' H' _ g so' (itm_rep m)⟩
        · exact p.elim
      · rename_i h
        exact absurd rfl (h n)
    | tup xs =>
      refine (pi_tup hl).run pins s σ H R' I ⟨env, M, st, eo, so, ?_⟩
      rw [e]
      intro M' H' v g so' r
      unfold Rep at r
      obtain ⟨a, vs, rfl, f, q⟩ := r
      exact ⟨a, rfl, ⟨vs, f.sq⟩, p M' H' _ g so' (itt_rep f q)⟩
    | lst xs =>
      refine fin fun M' H' v g so' r => ?_
      unfold Rep at r
      obtain ⟨a, vs, rfl, f, q⟩ := r
      exact ⟨a, rfl, ⟨vs, f.sq⟩, p M' H' _ g so' (itl_rep (fun M2 H2 g2 => .of (g2.keep _ _ f.1 f.2).1) q)⟩
    | slo xs =>
      refine fin fun M' H' v g so' r => ?_
      unfold Rep at r
      obtain ⟨a, vs, rfl, f, q⟩ := r
      exact ⟨a, rfl, ⟨vs, f.sq⟩, p M' H' _ g so' (itl_rep (fun M2 H2 g2 => (g2.fzL f).sq) q)⟩
    | non => exact p.elim
    | bl _ => exact p.elim
    | int _ => exact p.elim
    | str _ => exact p.elim
    | raw _ => exact p.elim
    | fn _ => exact p.elim
    | emp => exact p.elim
    | rg _ _ => exact p.elim
    | exv => exact p.elim
    | dic => exact p.elim⟩
end
def range1F (as : List D) (st : Sto) : R ItD := match as with
  | [.int j] => if j.natAbs < 2 ^ 62 then .ok (.frz ((List.range j.toNat).map fun k => .int (0 + (k : Nat)))) st else .fail
  | _ => .fail
def range2F (as : List D) (st : Sto) : R ItD := match as with
  | [.int i, .int j] => if i.natAbs < 2 ^ 62 ∧ j.natAbs < 2 ^ 62 then .ok (.frz ((List.range (j - i).toNat).map fun k => .int (i + (k : Nat)))) st else .fail
  | _ => .fail
def enumL (xs : List D) : List D := (List.range xs.length).zipWith (fun (i : Nat) x => .tup [.int (i : Nat), x]) xs
def enumNxt (n : Nat) : Nat → Sto → Option (Option D) := fun i st => match st[n]? with
  | some (.lst ys) => some ((ys[i]?).map fun x => .tup [.int (i : Nat), x])
  | _ => none
def zipO : Option D → Option D → Option D
  | some x, some y => some (.tup [x, y])
  | _, _ => none
def zipNxt (n m : Nat) : Nat → Sto → Option (Option D) := fun i st => match st[n]?, st[m]? with
  | some (.lst xs), some (.lst ys) => some (zipO xs[i]? ys[i]?)
  | _, _ => none
def enumF (as : List D) (st : Sto) : R ItD := match as with
  | [.mut n] => (match st[n]? with
    | some (.lst ys) => .ok (.gen (enumNxt n) ys.length) st
    | _ => .fail)
  | [d] => (match itemsOf d with
    | some xs => .ok (.frz (enumL xs)) st
    | none => .fail)
  | _ => .fail
def zipF (as : List D) (st : Sto) : R ItD := match as with
  | [.tup xs, .tup ys] => .ok (.frz (xs.zipWith (fun x y => .tup [x, y]) ys)) st
  | [.lst xs, .lst ys] => .ok (.frz (xs.zipWith (fun x y => .tup [x, y]) ys)) st
  | [.mut n, .mut m] => (match st[n]?, st[m]? with
    | some (.lst xs), some (.lst _) => .ok (.gen (zipNxt n m) xs.length) st
    | _, _ => .fail)
  | _ => .fail
def callI (f : List D → Sto → R ItD) (fs : EvA) : EvI := fun env st => (fs env st).bind f
section
variable {K : PySem.W.Frag} {M M' : Mem} {H H' : Hp}
theorem enumL_get {xs : List D} {i : Nat} {d : D} (h : (enumL xs)[i]? = some d) : ∃ x, xs[i]? = some x ∧ d = .tup [.int (i : Nat), x] := by
  unfold enumL at h
  rw [List.getElem?_zipWith] at h
  cases e : xs[i]? with
  | none => rw [e] at h; cases e2 : (List.range xs.length)[i]? <;> rw [e2] at h <;> simp at h
  | some x =>
    have hl := (List.getElem?_eq_some_iff.mp e).1
    rw [e, List.getElem?_range hl] at h
    simp at h
    exact ⟨x, rfl, h.symm⟩
@[simp] theorem enumL_length (xs : List D) : (enumL xs).length = xs.length := by simp [enumL]
theorem pair_new {st : Sto} {x y : D} {u v : V} {T : Addr} (so : StOk K M H st) (rx : Rep K M H x u) (ry : Rep K M H y v) (hT : H T = none) : Grow M H M (upd H T (.tup [u, v])) ∧ StOk K M (upd H T (.tup [u, v])) st ∧ Rep K M (upd H T (.tup [u, v])) (.tup [x, y]) (.ref T) :=
  ⟨.laid so hT, so.laid hT, rep_tup so (.cons rx (.cons ry .nil)) hT⟩
theorem ite_rep {a : Addr} {xs : List D} {vs : List V} (f : ∀ M' H', Keep M H M' H' → SqL K H' a vs) (q : RepL K M H xs vs) : ItRep K M H (.frz (enumL xs)) (Ite K a) := fun i M' H' st' g so => by
  have f' := f _ _ g
  have q' := q.kp g
  refine ⟨fun e => ⟨vs, f', by rw [← q.length]; simp at e; omega⟩, fun d hd => ?_⟩
  obtain ⟨x, hx, rfl⟩ := enumL_get hd
  obtain ⟨v, hv, r⟩ := q'.get hx
  refine ⟨⟨vs, v, f', hv⟩, fun z H'' ⟨T, y, e1, e2, e3, e4⟩ => ?_⟩
  have := e4 vs f'
  rw [hv] at this; cases this
  subst e1 e3
  exact pair_new so (rep_int _ _ _) r e2
theorem item_rep {a : Addr} {n k : Nat} (m : M.m[n]? = some a) : ItRep K M H (.gen (enumNxt n) k) (Ite K a) := fun i M' H' st' g so => by
  have m' := g.pre n a m
  cases e : st'[n]? with
  | none => exact ⟨fun h => by simp [enumNxt, e] at h, fun d h => by simp [enumNxt, e] at h⟩
  | some mo =>
    cases mo with
    | dk _ => exact ⟨fun h => by simp [enumNxt, e] at h, fun d h => by simp [enumNxt, e] at h⟩
    | dt _ => exact ⟨fun h => by simp [enumNxt, e] at h, fun d h => by simp [enumNxt, e] at h⟩
    | fk _ => exact ⟨fun h => by simp [enumNxt, e] at h, fun d h => by simp [enumNxt, e] at h⟩
    | dd _ => exact ⟨fun h => by simp [enumNxt, e] at h, fun d h => by simp [enumNxt, e] at h⟩
    | de _ => exact ⟨fun h => by simp [enumNxt, e] at h, fun d h => by simp [enumNxt, e] at h⟩
    | fd _ => exact ⟨fun h => by simp [enumNxt, e] at h, fun d h => by simp [enumNxt, e] at h⟩
    | fe _ => exact ⟨fun h => by simp [enumNxt, e] at h, fun d h => by simp [enumNxt, e] at h⟩
    | lst ys =>
      obtain ⟨vs, hv, q⟩ := so.at_ n a _ m' e
      refine ⟨fun h => ⟨vs, .of hv, ?_⟩, fun d h => ?_⟩
      · have h : ys[i]? = none := by simpa [enumNxt, e] using h
        rw [← q.length]; exact List.getElem?_eq_none_iff.mp h
      · obtain ⟨y, e2, rfl⟩ : ∃ y, ys[i]? = some y ∧ D.tup [.int (i : Nat), y] = d := by simpa [enumNxt, e] using h
        obtain ⟨v, h1, r⟩ := q.get e2
        refine ⟨⟨vs, v, .of hv, h1⟩, fun x H'' ⟨T, y', e1, e2, e3, e4⟩ => ?_⟩
        have := e4 vs (.of hv)
        rw [h1] at this; cases this
        subst e1 e3
        exact pair_new so (rep_int _ _ _) r e2
theorem zipO_some {x y : Option D} {d : D} (h : zipO x y = some d) : ∃ a b, x = some a ∧ y = some b ∧ d = .tup [a, b] := by
  unfold zipO at h
  split at h
  · cases h; exact ⟨_, _, rfl, rfl, rfl⟩
  · cases h
theorem zipO_none {x y : Option D} (h : zipO x y = none) : x = none ∨ y = none := by
  cases x with
  | none => exact .inl rfl
  | some a =>
    cases y with
    | none => exact .inr rfl
    | some b => cases h
theorem izm_rep {a b : Addr} {n m k : Nat} (ma : M.m[n]? = some a) (mb : M.m[m]? = some b) : ItRep K M H (.gen (zipNxt n m) k) (Itz K a b) := fun i M' H' st' g so => by
  have ma' := g.pre n a ma
  have mb' := g.pre m b mb
  cases ea : st'[n]? with
  | none => exact ⟨fun h => by simp [zipNxt, ea] at h, fun d h => by simp [zipNxt, ea] at h⟩
  | some mo =>
    cases eb : st'[m]? with
    | none => exact ⟨fun h => by simp [zipNxt, ea, eb] at h, fun d h => by simp [zipNxt, ea, eb] at h⟩
    | some mo2 =>
      cases mo with
      | dk _ => exact ⟨fun h => by simp [zipNxt, ea, eb] at h, fun d h => by simp [zipNxt, ea, eb] at h⟩
      | dt _ => exact ⟨fun h => by simp [zipNxt, ea, eb] at h, fun d h => by simp [zipNxt, ea, eb] at h⟩
      | fk _ => exact ⟨fun h => by simp [zipNxt, ea, eb] at h, fun d h => by simp [zipNxt, ea, eb] at h⟩
      | dd _ => exact ⟨fun h => by simp [zipNxt, ea, eb] at h, fun d h => by simp [zipNxt, ea, eb] at h⟩
      | de _ => exact ⟨fun h => by simp [zipNxt, ea, eb] at h, fun d h => by simp [zipNxt, ea, eb] at h⟩
      | fd _ => exact ⟨fun h => by simp [zipNxt, ea, eb] at h, fun d h => by simp [zipNxt, ea, eb] at h⟩
      | fe _ => exact ⟨fun h => by simp [zipNxt, ea, eb] at h, fun d h => by simp [zipNxt, ea, eb] at h⟩
      | lst xs =>
        cases mo2 with
        | dk _ => exact ⟨fun h => by simp [zipNxt, ea, eb] at h, fun d h => by simp [zipNxt, ea, eb] at h⟩
        | dt _ => exact ⟨fun h => by simp [zipNxt, ea, eb] at h, fun d h => by simp [zipNxt, ea, eb] at h⟩
        | fk _ => exact ⟨fun h => by simp [zipNxt, ea, eb] at h, fun d h => by simp [zipNxt, ea, eb] at h⟩
        | dd _ => exact ⟨fun h => by simp [zipNxt, ea, eb] at h, fun d h => by simp [zipNxt, ea, eb] at h⟩
        | de _ => exact ⟨fun h => by simp [zipNxt, ea, eb] at h, fun d h => by simp [zipNxt, ea, eb] at h⟩
        | fd _ => exact ⟨fun h => by simp [zipNxt, ea, eb] at h, fun d h => by simp [zipNxt, ea, eb] at h⟩
        | fe _ => exact ⟨fun h => by simp [zipNxt, ea, eb] at h, fun d h => by simp [zipNxt, ea, eb] at h⟩
        | lst ys =>
          obtain ⟨vs, hv, q⟩ := so.at_ n a _ ma' ea
          obtain ⟨ws, hw, q2⟩ := so.at_ m b _ mb' eb
          refine ⟨fun h => ⟨vs, ws, .of hv, .of hw, ?_⟩, fun d h => ?_⟩
          · have h : zipO xs[i]? ys[i]? = none := by simpa [zipNxt, ea, eb] using h
            rw [← q.length, ← q2.length]
            exact (zipO_none h).imp List.getElem?_eq_none_iff.mp List.getElem?_eq_none_iff.mp
          · have h : zipO xs[i]? ys[i]? = some d := by simpa [zipNxt, ea, eb] using h
            obtain ⟨x, y, e1, e2, rfl⟩ := zipO_some h
            obtain ⟨v, h1, r⟩ := q.get e1
            obtain ⟨w, h2, r2⟩ := q2.get e2
            refine ⟨⟨vs, ws, v, w, .of hv, .of hw, h1, h2⟩, fun z H'' ⟨T, x', y', e1, e2, e3, e4, e5⟩ => ?_⟩
            have := e4 vs (.of hv)
            rw [h1] at this; cases this
            have := e5 ws (.of hw)
            rw [h2] at this; cases this
            subst e1 e3
            exact pair_new so r r2 e2
theorem zipW_get {xs ys : List D} {i : Nat} {d : D} (h : (xs.zipWith (fun x y => D.tup [x, y]) ys)[i]? = some d) : ∃ x y, xs[i]? = some x ∧ ys[i]? = some y ∧ d = .tup [x, y] := by
  rw [List.getElem?_zipWith] at h
  cases e : xs[i]? with
  | none => rw [e] at h; simp at h
  | some x =>
    cases e2 : ys[i]? with
    | none => rw [e, e2] at h; simp at h
    | some y => rw [e, e2] at h; simp at h; exact ⟨x, y, rfl, rfl, h.symm⟩
theorem itz_rep {a b : Addr} {xs ys : List D} {vs ws : List V} (f : ∀ M' H', Keep M H M' H' → SqL K H' a vs) (q : RepL K M H xs vs) (f2 : ∀ M' H', Keep M H M' H' → SqL K H' b ws) (q2 : RepL K M H ys ws) :
    ItRep K M H (.frz (xs.zipWith (fun x y => .tup [x, y]) ys)) (Itz K a b) := fun i M' H' st' g so => by
  have f' := f _ _ g
  have q' := q.kp g
  have f2' := f2 _ _ g
  have q2' := q2.kp g
  refine ⟨fun e => ⟨vs, ws, f', f2', by rw [← q.length, ← q2.length]; simp at e; omega⟩, fun d hd => ?_⟩
  obtain ⟨x, y, hx, hy, rfl⟩ := zipW_get hd
  obtain ⟨v, hv, r⟩ := q'.get hx
  obtain ⟨w, hw, r2⟩ := q2'.get hy
  refine ⟨⟨vs, ws, v, w, f', f2', hv, hw⟩, fun z H'' ⟨T, x', y', e1, e2, e3, e4, e5⟩ => ?_⟩
  have := e4 vs f'
  rw [hv] at this; cases this
  have := e5 ws f2'
  rw [hw] at this; cases this
  subst e1 e3
  exact pair_new so r r2 e2
theorem itzt_rep {a b : Addr} {xs ys : List D} {vs ws : List V} (f : FzT K M H a vs) (q : RepL K M H xs vs) (f2 : FzT K M H b ws) (q2 : RepL K M H ys ws) :
    ItRep K M H (.frz (xs.zipWith (fun x y => .tup [x, y]) ys)) (RZ.ItzT K a b) := fun i M' H' st' g so => by
  have f' := (g.fzT f).sq
  have q' := q.kp g
  have f2' := (g.fzT f2).sq
  have q2' := q2.kp g
  refine ⟨fun e => ⟨vs, ws, f', f2', by rw [← q.length, ← q2.length]; simp at e; omega⟩, fun d hd => ?_⟩
  obtain ⟨x, y, hx, hy, rfl⟩ := zipW_get hd
  obtain ⟨v, hv, r⟩ := q'.get hx
  obtain ⟨w, hw, r2⟩ := q2'.get hy
  refine ⟨⟨vs, ws, v, w, f', f2', hv, hw⟩, fun z H'' ⟨T, x', y', e1, e2, e3, e4, e5⟩ => ?_⟩
  have := e4 vs f'
  rw [hv] at this; cases this
  have := e5 ws f2'
  rw [hw] at this; cases this
  subst e1 e3
  exact pair_new so r r2 e2
end
section
variable {X : Cx} {W : WX} {tg it : Expr} {fs : EvA}
theorem _root_.L2.PI.imp {t t' : TI} (h : PI X tg it t) (i : ∀ σ H R, t' σ H R → t σ H R) : PI X tg it t' := ⟨fun pins s σ H R I q => h.run pins s σ H R I (i σ H R q)⟩
theorem g_range1 (h : PI X tg it (iRng1 (rdA X.K W fs))) : PI X tg it (rdI X.K W (callI range1F fs)) := h.imp fun σ H R' ⟨env, M, st, eo, so, p⟩ => ⟨env, M, st, eo, so, Post.imp (Post.bind p) fun vs H1 ⟨M1, st1, as, g, so1, ra, p1⟩ => by
  unfold range1F at p1
  split at p1
  · split at p1
    · rename_i j hj
      obtain ⟨x, rfl, rx⟩ := ra.one
      rw [rep_int_iff] at rx; subst rx
      exact ⟨j, rfl, by omega, by omega, p1 M1 H1 _ .refl so1 itr_rep⟩
    · exact p1.elim
  · exact p1.elim⟩
theorem g_range2 (h : PI X tg it (iRng2 (rdA X.K W fs))) : PI X tg it (rdI X.K W (callI range2F fs)) := h.imp fun σ H R' ⟨env, M, st, eo, so, p⟩ => ⟨env, M, st, eo, so, Post.imp (Post.bind p) fun vs H1 ⟨M1, st1, as, g, so1, ra, p1⟩ => by
  unfold range2F at p1
  split at p1
  · split at p1
    · rename_i i j hj
      obtain ⟨x, y, rfl, rx, ry⟩ := ra.two
      rw [rep_int_iff] at rx ry; subst rx ry
      exact ⟨i, j, rfl, by omega, p1 M1 H1 _ .refl so1 itr_rep⟩
    · exact p1.elim
  · exact p1.elim⟩
theorem g_zip (h : PI X tg it (RZ.iZipA X.K (rdA X.K W fs))) : PI X tg it (rdI X.K W (callI zipF fs)) := h.imp fun σ H R' ⟨env, M, st, eo, so, p⟩ => ⟨env, M, st, eo, so, Post.imp (Post.bind p) fun vs H1 ⟨M1, st1, as, g, so1, ra, p1⟩ => by
  unfold zipF at p1
  split at p1
  · obtain ⟨x, y, rfl, rx, ry⟩ := ra.two
    unfold Rep at rx ry
    obtain ⟨a, vs, rfl, f, q⟩ := rx
    obtain ⟨b, ws, rfl, f2, q2⟩ := ry
    exact ⟨a, b, vs, ws, rfl, .inr ⟨f.sq, f2.sq, p1 M1 H1 _ .refl so1 (itzt_rep f q f2 q2)⟩⟩
  · obtain ⟨x, y, rfl, rx, ry⟩ := ra.two
    unfold Rep at rx ry
    obtain ⟨a, vs, rfl, f, q⟩ := rx
    obtain ⟨b, ws, rfl, f2, q2⟩ := ry
    exact ⟨a, b, vs, ws, rfl, .inl ⟨f.sq, f2.sq, p1 M1 H1 _ .refl so1 (itz_rep (fun _ _ g => .of (g.keep _ _ f.1 f.2).1) q (fun _ _ g => .of (g.keep _ _ f2.1 f2.2).1) q2)⟩⟩
  · rename_i n m
    obtain ⟨x, y, rfl, rx, ry⟩ := ra.two
    unfold Rep at rx ry
    obtain ⟨a, rfl, ma⟩ := rx
    obtain ⟨b, rfl, mb⟩ := ry
    split at p1
    · rename_i ea eb
      obtain ⟨vs, hv, _⟩ := so1.at_ n a _ ma ea
      obtain ⟨ws, hw, _⟩ := so1.at_ m b _ mb eb
      exact ⟨a, b, vs, ws, rfl, .inl ⟨.of hv, .of hw, p1 M1 H1 _ .refl so1 (izm_rep ma mb)⟩⟩
    · exact p1.elim
  · exact p1.elim⟩
end
def turnS (s : S) (k : Env → Sto → S) : S := match s with
  | .nx e st => k e st
  | .cont e st => k e st
  | .brk e st => .nx e st
  | s => s
def loopF (g : TgF) (body : SvS) : List D → SvS
  | [], env, st => .nx env st
  | x :: xs, env, st => turnS (bindS (g x env st) env body) (loopF g body xs)
def loopG (g : TgF) (body : SvS) (nxt : Nat → Sto → Option (Option D)) : Nat → Nat → SvS
  | 0, i, env, st => match nxt i st with
    | some none => .nx env st
    | _ => .fail
  | k + 1, i, env, st => match nxt i st with
    | some none => .nx env st
    | some (some x) => turnS (bindS (g x env st) env body) (loopG g body nxt k (i + 1))
    | none => .fail
def forS (it : EvI) (g : TgF) (body : SvS) : SvS := fun env st => bindS (it env st) env fun I st1 => match I with
  | .frz xs => loopF g body xs env st1
  | .gen nxt k => loopG g body nxt k 0 env st1
section
variable {X : Cx} {W : WX} {g : TgF} {body : SvS} {K : PySem.W.Frag}
theorem turn_rd {M0 M : Mem} {H0 H : Hp} {T : Ends} {env : Env} {st : Sto} {σ : L2.St} {d : D} {x : V} {k : Env → Sto → S} {N : L2.St → Hp → Prop} (gr : Grow M0 H0 M H) (eo : EnvOk K M H env σ) (so : StOk K M H st) (r : Rep K M H d x)
    (p : PostS K M H T W (turnS (bindS (g d env st) env body) k))
    (hN : ∀ env' M' H' st' σ', Grow M0 H0 M' H' → EnvOk K M' H' env' σ' → StOk K M' H' st' → PostS K M' H' T W (k env' st') → N σ' H') :
    rdG K W g x σ H fun σ2 H2 => rdS K W body { T with nx := N, ct := N, bk := T.nx } σ2 H2 := by
  refine ⟨d, env, M, st, r, eo, so, ?_⟩
  cases e : g d env st with
  | fail => rw [e] at p; exact p.elim
  | exc x st1 => rw [e] at p; exact fun M' H' c od g' so' h => p M' H' σ c od g' so' (eo.grow g') h
  | ok env1 st1 =>
    rw [e] at p
    intro M' H' σ' g' so' eo'
    refine ⟨env1, M', st1, eo', so', ?_⟩
    have p : PostS K M H T W (turnS (body env1 st1) k) := p
    unfold turnS at p
    cases e2 : body env1 st1 with
    | nx env2 st2 => rw [e2] at p; exact fun M2 H2 σ2 g2 so2 eo2 => hN env2 M2 H2 st2 σ2 ((gr.trans g').trans g2) eo2 so2 (PostS.mono (g'.trans g2) p)
    | cont env2 st2 => rw [e2] at p; exact fun M2 H2 σ2 g2 so2 eo2 => hN env2 M2 H2 st2 σ2 ((gr.trans g').trans g2) eo2 so2 (PostS.mono (g'.trans g2) p)
    | brk env2 st2 => rw [e2] at p; exact PostS.mono g' p
    | ret d2 st2 => rw [e2] at p; exact PostS.mono g' p
    | exc c env2 st2 => rw [e2] at p; exact PostS.mono g' p
    | fail => rw [e2] at p; exact p.elim
theorem rd_for {it : EvI} : ∀ T σ H, rdS K W (forS it g body) T σ H → tFor (rdI K W it) (rdG K W g) (rdS K W body) T σ H :=
  fun T σ H ⟨env, M, st, eo, so, p⟩ => ⟨env, M, st, eo, so, Post.imp (PostS.bind eo p) fun J H1 ⟨M1, st1, I, g1, so1, ri, p1⟩ => by
    cases I with
    | frz xs =>
      have p1 : PostS K M1 H1 T W (loopF g body xs env st1) := p1
      refine ⟨fun i m σ' H' => m = xs.length - i ∧ i ≤ xs.length ∧ ∃ env' M' st', Grow M1 H1 M' H' ∧ EnvOk K M' H' env' σ' ∧ StOk K M' H' st' ∧ PostS K M' H' T W (loopF g body (xs.drop i) env' st'),
        ⟨xs.length, by simp, Nat.zero_le _, env, M1, st1, .refl, eo.grow g1, so1, by simpa using p1⟩, ?_⟩
      rintro i m σ' H' ⟨rfl, hi, env', M', st', gr, eo', so', q⟩
      obtain ⟨r1, r2⟩ := ri i M' H' st' gr.k so'
      by_cases hlt : i < xs.length
      · have hd : xs[i]? = some xs[i] := List.getElem?_eq_getElem hlt
        obtain ⟨r3, r4⟩ := r2 _ hd
        refine .inr ⟨r3, _, fun σ2 H2 h => ⟨xs.length - (i + 1), by omega, rfl, hlt, h⟩, fun x H2 hy => ?_⟩
        obtain ⟨g2, so2, rx⟩ := r4 x H2 hy
        rw [List.drop_eq_getElem_cons hlt] at q
        exact turn_rd (gr.trans g2) (eo'.grow g2) so2 rx (PostS.mono g2 q) fun env3 M3 H3 st3 σ3 g3 eo3 so3 p3 => ⟨env3, M3, st3, g3, eo3, so3, p3⟩
      · have e : i = xs.length := by omega
        refine .inl ⟨r1 e, ?_⟩
        rw [e, List.drop_length] at q
        exact q M' H' σ' .refl so' eo'
    | gen nxt k =>
      have p1 : PostS K M1 H1 T W (loopG g body nxt k 0 env st1) := p1
      refine ⟨fun i m σ' H' => ∃ env' M' st', Grow M1 H1 M' H' ∧ EnvOk K M' H' env' σ' ∧ StOk K M' H' st' ∧ PostS K M' H' T W (loopG g body nxt m i env' st'),
        ⟨k, env, M1, st1, .refl, eo.grow g1, so1, p1⟩, ?_⟩
      rintro i m σ' H' ⟨env', M', st', gr, eo', so', q⟩
      obtain ⟨r1, r2⟩ := ri i M' H' st' gr.k so'
      cases m with
      | zero =>
        unfold loopG at q
        cases e : nxt i st' with
        | none => rw [e] at q; exact q.elim
        | some o =>
          cases o with
          | some x => rw [e] at q; exact q.elim
          | none => rw [e] at q; exact .inl ⟨r1 e, q M' H' σ' .refl so' eo'⟩
      | succ m =>
        unfold loopG at q
        cases e : nxt i st' with
        | none => rw [e] at q; exact q.elim
        | some o =>
          cases o with
          | none => rw [e] at q; exact .inl ⟨r1 e, q M' H' σ' .refl so' eo'⟩
          | some d =>
            rw [e] at q
            obtain ⟨r3, r4⟩ := r2 _ e
            refine .inr ⟨r3, _, fun σ2 H2 h => ⟨m, by omega, h⟩, fun x H2 hy => ?_⟩
            obtain ⟨g2, so2, rx⟩ := r4 x H2 hy
            exact turn_rd (gr.trans g2) (eo'.grow g2) so2 rx (PostS.mono g2 q) fun env3 M3 H3 st3 σ3 g3 eo3 so3 p3 => ⟨env3, M3, st3, g3, eo3, so3, p3⟩⟩
theorem s_for {it : EvI} {s : Stmt} (h : PS X s (tFor (rdI X.K W it) (rdG X.K W g) (rdS X.K W body))) : PS X s (rdS X.K W (forS it g body)) := h.imp rd_for
def whileF (t : EvB) (body : SvS) : Nat → SvS
  | 0, _, _ => .fail
  | k + 1, env, st => bindS (t env st) env fun b st1 => if b = true then turnS (body env st1) (whileF t body k) else .nx env st1
end
end G
namespace G
open PySem PySem.Spec PyProof.Rows L2
inductive Tg where
  | nm (i : Nat) | tp (ts : List Tg)
def gTL (K : PySem.W.Frag) (n : Nat) (t : TGs) : TG := fun v σ H Q => ∃ a xs, v = .ref a ∧ (SqT K H a xs ∨ SqL K H a xs) ∧ xs.length = n ∧ t xs σ H Q
theorem pg_tl {X : Cx} {pos : Pos} {es : List Expr} {k : Nat} {t : TGs} {n : Nat} (hc : X.calm = true) (h : PGs X es t)
    (hn : (assignEach es X.env).length = n := by rfl) (hst : (assignEach es X.env).findIdx? (·.1) = none := by rfl) : PG X (.Tuple es k pos) (gTL X.K n t) := by
  refine ⟨fun pins s σ H v u Q I r hw => ?_⟩
  obtain ⟨a, xs, e1, hq, hl, hw⟩ := hw
  rcases hq with hq | hq
  · exact (pg_tup hc h hn hst).run pins s σ H v u Q I r ⟨a, xs, e1, hq, hl, hw⟩
  · exact (pg_lst hc h hn hst).run pins s σ H v u Q I r ⟨a, xs, e1, hq, hl, hw⟩
mutual
def Tg.raw (K : PySem.W.Frag) : Tg → TG
  | .nm i => gName i
  | .tp ts => gTL K ts.length (Tg.raws K ts)
def Tg.raws (K : PySem.W.Frag) : List Tg → TGs
  | [] => gNil
  | t :: ts => gCons (Tg.raw K t) (Tg.raws K ts)
end
mutual
def Tg.set : Tg → D → Env → Option Env
  | .nm i, d, env => some (env.set i (some d))
  | .tp ts, .tup xs, env => Tg.sets ts xs env
  | .tp ts, .lst xs, env => Tg.sets ts xs env
  | .tp _, _, _ => none
def Tg.sets : List Tg → List D → Env → Option Env
  | [], [], env => some env
  | t :: ts, x :: xs, env => (Tg.set t x env).bind (Tg.sets ts xs)
  | _, _, _ => none
end
mutual
def Tg.names : Tg → List Nat
  | .nm i => [i]
  | .tp ts => Tg.namess ts
def Tg.namess : List Tg → List Nat
  | [] => []
  | t :: ts => Tg.names t ++ Tg.namess ts
end
theorem Tg.sets_len : ∀ {ts : List Tg} {xs : List D} {env env' : Env}, Tg.sets ts xs env = some env' → xs.length = ts.length
  | [], [], _, _, _ => rfl
  | t :: ts, x :: xs, env, env', h => by
    unfold Tg.sets at h
    obtain ⟨e1, _, h2⟩ := Option.bind_eq_some_iff.mp h
    simp [Tg.sets_len h2]
  | [], _ :: _, _, _, h => by unfold Tg.sets at h; cases h
  | _ :: _, [], _, _, h => by unfold Tg.sets at h; cases h
theorem wipe_in {σ : L2.St} {i : Nat} : ∀ {vs : List Nat}, i ∈ vs → (L2.wipe σ vs)[i]? = if i < σ.length then some none else none
  | v :: vs, h => by
    unfold L2.wipe
    by_cases e : v = i
    · subst e
      by_cases hv : v < σ.length
      · rw [if_pos hv, List.getElem?_set_self (by rw [wipe_length]; exact hv)]
      · rw [if_neg hv, List.getElem?_eq_none (by rw [List.length_set, wipe_length]; omega)]
    · rw [List.getElem?_set_ne e]
      exact wipe_in ((List.mem_cons.mp h).resolve_left fun z => e z.symm)
theorem wipe_set {σ : L2.St} {i : Nat} {o : Option V} {vs : List Nat} (h : i ∈ vs) : L2.wipe (σ.set i o) vs = L2.wipe σ vs := by
  apply List.ext_getElem?
  intro j
  by_cases hj : j ∈ vs
  · rw [wipe_in hj, wipe_in hj, List.length_set]
  · rw [wipe_out hj, wipe_out hj, List.getElem?_set_ne]
    rintro rfl; exact hj h
theorem wipe_wipe {σ : L2.St} {vs : List Nat} : L2.wipe (L2.wipe σ vs) vs = L2.wipe σ vs := by
  apply List.ext_getElem?
  intro j
  by_cases hj : j ∈ vs
  · rw [wipe_in hj, wipe_in hj, wipe_length]
  · rw [wipe_out hj]
section
variable {K : PySem.W.Frag} {M : Mem} {H : Hp}
mutual
theorem Tg.rd : ∀ {t : Tg} {d : D} {env env' : Env} {v : V} {σ : L2.St} {Q : L2.St → Hp → Prop}, Tg.set t d env = some env' → Rep K M H d v → EnvOk K M H env σ →
    (∀ σ', EnvOk K M H env' σ' → (∀ vs : List Nat, (∀ i ∈ Tg.names t, i ∈ vs) → L2.wipe σ' vs = L2.wipe σ vs) → Q σ' H) → Tg.raw K t v σ H Q
  | .nm i, d, env, env', v, σ, Q, h, r, eo, q => by
    unfold Tg.set at h
    cases h
    exact q _ (eo.set i r) fun vs hv => wipe_set (hv i (by simp [Tg.names]))
  | .tp ts, .tup xs, env, env', v, σ, Q, h, r, eo, q => by
    unfold Tg.set at h
    unfold Rep at r
    obtain ⟨a, vs, rfl, f, rl⟩ := r
    unfold Tg.raw
    exact ⟨a, vs, rfl, .inl f.sq, by rw [← rl.length]; exact Tg.sets_len h, Tg.rds h rl eo fun σ' eo' hw => q σ' eo' fun vs hv => hw vs (by simpa [Tg.names] using hv)⟩
  | .tp ts, .lst xs, env, env', v, σ, Q, h, r, eo, q => by
    unfold Tg.set at h
    unfold Rep at r
    obtain ⟨a, vs, rfl, f, rl⟩ := r
    unfold Tg.raw
    exact ⟨a, vs, rfl, .inr f.sq, by rw [← rl.length]; exact Tg.sets_len h, Tg.rds h rl eo fun σ' eo' hw => q σ' eo' fun vs hv => hw vs (by simpa [Tg.names] using hv)⟩
  | .tp _, .non, _, _, _, _, _, h, _, _, _ => by unfold Tg.set at h; cases h
  | .tp _, .bl _, _, _, _, _, _, h, _, _, _ => by unfold Tg.set at h; cases h
  | .tp _, .int _, _, _, _, _, _, h, _, _, _ => by unfold Tg.set at h; cases h
  | .tp _, .str _, _, _, _, _, _, h, _, _, _ => by unfold Tg.set at h; cases h
  | .tp _, .raw _, _, _, _, _, _, h, _, _, _ => by unfold Tg.set at h; cases h
  | .tp _, .dic, _, _, _, _, _, h, _, _, _ => by unfold Tg.set at h; cases h
  | .tp _, .fn _, _, _, _, _, _, h, _, _, _ => by unfold Tg.set at h; cases h
  | .tp _, .emp, _, _, _, _, _, h, _, _, _ => by unfold Tg.set at h; cases h
  | .tp _, .rg .., _, _, _, _, _, h, _, _, _ => by unfold Tg.set at h; cases h
  | .tp _, .exv .., _, _, _, _, _, h, _, _, _ => by unfold Tg.set at h; cases h
  | .tp _, .slo _, _, _, _, _, _, h, _, _, _ => by unfold Tg.set at h; cases h
  | .tp _, .mut _, _, _, _, _, _, h, _, _, _ => by unfold Tg.set at h; cases h
theorem Tg.rds : ∀ {ts : List Tg} {ds : List D} {env env' : Env} {vs : List V} {σ : L2.St} {Q : L2.St → Hp → Prop}, Tg.sets ts ds env = some env' → RepL K M H ds vs → EnvOk K M H env σ →
    (∀ σ', EnvOk K M H env' σ' → (∀ ws : List Nat, (∀ i ∈ Tg.namess ts, i ∈ ws) → L2.wipe σ' ws = L2.wipe σ ws) → Q σ' H) → Tg.raws K ts vs σ H Q
  | [], [], env, env', vs, σ, Q, h, r, eo, q => by
    unfold Tg.sets at h; cases h
    unfold RepL at r; subst r
    unfold Tg.raws
    exact ⟨rfl, q σ eo fun _ _ => rfl⟩
  | t :: ts, x :: xs, env, env', vs, σ, Q, h, r, eo, q => by
    unfold Tg.sets at h
    obtain ⟨e1, h1, h2⟩ := Option.bind_eq_some_iff.mp h
    unfold RepL at r
    obtain ⟨v, rr, rfl, r1, r2⟩ := r
    unfold Tg.raws
    refine ⟨v, rr, rfl, Tg.rd h1 r1 eo fun σ1 eo1 w1 => Tg.rds h2 r2 eo1 fun σ2 eo2 w2 => q σ2 eo2 fun ws hw => ?_⟩
    rw [w2 ws (fun i hi => hw i (by simp [Tg.namess, hi])), w1 ws (fun i hi => hw i (by simp [Tg.namess, hi]))]
  | [], _ :: _, _, _, _, _, _, h, _, _, _ => by unfold Tg.sets at h; cases h
  | _ :: _, [], _, _, _, _, _, h, _, _, _ => by unfold Tg.sets at h; cases h
end
end
def tgT (t : Tg) : TgF := fun d env st => match Tg.set t d env with
  | some env1 => .ok env1 st
  | none => .fail
theorem t_tg {X : Cx} {W : WX} {t : Tg} {e : Expr} (h : PG X e (Tg.raw X.K t)) : PG X e (rdG X.K W (tgT t)) := h.imp fun v σ H Q ⟨d, env, M, st, r, eo, so, p⟩ => by
  unfold tgT at p
  split at p
  · rename_i env1 e
    exact Tg.rd e r eo fun σ' eo' _ => p M H σ' .refl so eo'
  · exact p.elim
def noX {α : Type} (r : R α) : R α := match r with
  | .ok a st => .ok a st
  | _ => .fail
def turnC (t : Tg) (tt : EvB) (fe : EvE) (envw : Env) (x : D) (st : Sto) (acc : List D) (k : Sto → List D → R (List D)) : R (List D) := match t.set x envw with
  | none => .fail
  | some env1 => (noX (tt env1 st)).bind fun b st1 => if b = true then (noX (fe env1 st1)).bind fun y st2 => if acc.length < 16777216 then k st2 (acc ++ [y]) else .fail else k st1 acc
def lcF (t : Tg) (tt : EvB) (fe : EvE) (envw : Env) : List D → Sto → List D → R (List D)
  | [], st, acc => .ok acc st
  | x :: xs, st, acc => turnC t tt fe envw x st acc (lcF t tt fe envw xs)
def lcG (t : Tg) (tt : EvB) (fe : EvE) (envw : Env) (nxt : Nat → Sto → Option (Option D)) : Nat → Nat → Sto → List D → R (List D)
  | 0, i, st, acc => match nxt i st with
    | some none => .ok acc st
    | _ => .fail
  | k + 1, i, st, acc => match nxt i st with
    | some none => .ok acc st
    | some (some x) => turnC t tt fe envw x st acc (lcG t tt fe envw nxt k (i + 1))
    | none => .fail
def lcL (it : EvI) (t : Tg) (tt : EvB) (fe : EvE) (vs : List Nat) : EvA := fun env st => (it env st).bind fun I st1 => match I with
  | .frz xs => lcF t tt fe (wipeE env vs) xs st1 []
  | .gen nxt k => lcG t tt fe (wipeE env vs) nxt k 0 st1 []
def lcE (it : EvI) (t : Tg) (tt : EvB) (fe : EvE) (vs : List Nat) : EvE := fun env st => (lcL it t tt fe vs env st).bind fun xs st1 => .ok (.lst xs) st1
abbrev W0 : WX := fun _ _ _ _ => False
def yesB : EvB := fun _ st => .ok true st
def Mem.hold (M : Mem) (a : Addr) : Mem := ⟨M.m, a :: M.p, M.f⟩
def Mem.free (M : Mem) (p : List Addr) : Mem := ⟨M.m, p, M.f⟩
section
variable {K : PySem.W.Frag} {M M' : Mem} {H H' : Hp} {st : Sto}
theorem StOk.hold (so : StOk K M H st) {a : Addr} {vs : List V} (h : H a = none) : StOk K (M.hold a) (upd H a (.lst vs)) st ∧ Keep M H (M.hold a) (upd H a (.lst vs)) := by
  have k : Keep M H (M.hold a) (upd H a (.lst vs)) := ⟨fun _ _ h => h, fun b o e n => by
    have ne : b ≠ a := ne_of_none e h
    exact ⟨by rw [upd_ne ne]; exact e, n.1, fun z => (List.mem_cons.mp z).elim ne n.2⟩, rfl⟩
  refine ⟨⟨so.len, so.nd, fun b hb => ?_, fun n b mo e1 e2 => ?_⟩, k⟩
  · rcases List.mem_cons.mp hb with rfl | hb
    · exact ⟨(so.notin h).1, _, upd_same⟩
    · obtain ⟨h1, u, e⟩ := so.pd b hb
      exact ⟨h1, u, by rw [upd_ne (ne_of_none e h)]; exact e⟩
  · have q := so.at_ n b mo e1 e2
    obtain ⟨u, e⟩ := q.there
    exact q.kp k (upd_ne (ne_of_none e h))
theorem Keep.fill {a : Addr} {o : HO} (h : a ∈ M.p) : Keep M H M (upd H a o) := ⟨fun _ _ h => h, fun b u e n => ⟨by rw [upd_ne (fun z : b = a => n.2 (by rw [z]; exact h))]; exact e, n⟩, rfl⟩
theorem StOk.fill (so : StOk K M H st) {a : Addr} {o : List V} (h : a ∈ M.p) : StOk K M (upd H a (.lst o)) st := by
  have k : Keep M H M (upd H a (.lst o)) := .fill h
  refine ⟨so.len, so.nd, fun b hb => ?_, fun n b mo e1 e2 => ?_⟩
  · by_cases e : b = a
    · subst e; exact ⟨(so.pd b hb).1, _, upd_same⟩
    · obtain ⟨h1, u, e'⟩ := so.pd b hb
      exact ⟨h1, u, by rw [upd_ne e]; exact e'⟩
  · have q := so.at_ n b mo e1 e2
    have ne : b ≠ a := fun z => (so.pd a h).1 (by rw [← z]; exact List.mem_of_getElem? e1)
    exact q.kp k (upd_ne ne)
theorem Keep.free {p : List Addr} (h : ∀ a ∈ p, a ∈ M.p) : Keep M H (M.free p) H := ⟨fun _ _ h => h, fun b u e n => ⟨e, n.1, fun z => n.2 (h b z)⟩, rfl⟩
theorem StOk.free (so : StOk K M H st) {p : List Addr} (h : ∀ a ∈ p, a ∈ M.p) : StOk K (M.free p) H st := by
  have k : Keep M H (M.free p) H := .free h
  refine ⟨so.len, so.nd, fun b hb => so.pd b (h b hb), fun n b mo e1 e2 => ?_⟩
  have q := so.at_ n b mo e1 e2
  exact q.kp k rfl
end
section
variable {X : Cx} {W : WX} {K : PySem.W.Frag} {t : Tg} {tt : EvB} {fe : EvE}
structure Mid (K : PySem.W.Frag) (M1 : Mem) (H1 : Hp) (L : Addr) (M' : Mem) (H' : Hp) (st' : Sto) (acc : List D) : Prop where
  kp : Keep M1 H1 M' H'
  p : M'.p = L :: M1.p
  prot : ∀ a ∈ M1.p, H' a = H1 a
  new : H1 L = none
  so1 : ∀ a ∈ M1.p, ∃ o, H1 a = some o
  so : StOk K M' H' st'
  at_ : ∃ vs, H' L = some (.lst vs) ∧ RepL K M' H' acc vs
theorem Mid.grow {M1 : Mem} {H1 : Hp} {L : Addr} {M' M2 : Mem} {H' H2 : Hp} {st' st2 : Sto} {acc : List D} (m : Mid K M1 H1 L M' H' st' acc) (g : Grow M' H' M2 H2) (so : StOk K M2 H2 st2) : Mid K M1 H1 L M2 H2 st2 acc :=
  ⟨m.kp.trans g.k, g.pp.trans m.p, fun a ha => (g.prot a (by rw [m.p]; exact List.mem_cons_of_mem _ ha)).trans (m.prot a ha), m.new, m.so1, so, let ⟨vs, e, r⟩ := m.at_; ⟨vs, (g.prot L (by rw [m.p]; exact List.mem_cons_self)).trans e, r.grow g⟩⟩
theorem Mid.add {M1 : Mem} {H1 : Hp} {L : Addr} {M' : Mem} {H' : Hp} {st' : Sto} {acc : List D} {d : D} {v : V} (m : Mid K M1 H1 L M' H' st' acc) (r : Rep K M' H' d v) {vs : List V} (e : H' L = some (.lst vs)) : Mid K M1 H1 L M' (upd H' L (.lst (vs ++ [v]))) st' (acc ++ [d]) := by
  have hL : L ∈ M'.p := by rw [m.p]; exact List.mem_cons_self
  obtain ⟨ws, e', rl⟩ := m.at_
  rw [e] at e'; cases e'
  have k : Keep M' H' M' (upd H' L (.lst (vs ++ [v]))) := .fill hL
  refine ⟨m.kp.trans k, m.p, fun a ha => ?_, m.new, m.so1, m.so.fill hL, _, upd_same, (rl.kp k).append (.cons (r.kp k) .nil)⟩
  rw [upd_ne]
  · exact m.prot a ha
  · rintro rfl
    obtain ⟨o, z⟩ := m.so1 a ha
    rw [m.new] at z; cases z
theorem Mid.fin {M1 : Mem} {H1 : Hp} {L : Addr} {M' : Mem} {H' : Hp} {st' : Sto} {acc : List D} (m : Mid K M1 H1 L M' H' st' acc) :
    Grow M1 H1 (M'.free M1.p) H' ∧ StOk K (M'.free M1.p) H' st' ∧ (M'.free M1.p).no L ∧ ∃ vs, H' L = some (.lst vs) ∧ RepL K (M'.free M1.p) H' acc vs := by
  have sub : ∀ a ∈ M1.p, a ∈ M'.p := fun a ha => by rw [m.p]; exact List.mem_cons_of_mem _ ha
  have k : Keep M' H' (M'.free M1.p) H' := .free sub
  obtain ⟨vs, e, r⟩ := m.at_
  refine ⟨⟨(m.kp.trans k).pre, (m.kp.trans k).keep, rfl, m.prot, (m.kp.trans k).ff⟩, m.so.free sub, ⟨(m.so.pd L (by rw [m.p]; exact List.mem_cons_self)).1, fun z => ?_⟩, vs, e, r.kp k⟩
  obtain ⟨o, q⟩ := m.so1 L z
  rw [m.new] at q; cases q
theorem turnC_rd {M1 : Mem} {H1 : Hp} {L : Addr} {M' : Mem} {H' : Hp} {st' : Sto} {acc : List D} {envw : Env} {σw : L2.St} {vs : List Nat} {x : D} {u : V} {k : Sto → List D → R (List D)} {P : R (List D) → Prop} {N : Hp → Prop}
    (m : Mid K M1 H1 L M' H' st' acc) (eo : EnvOk K M' H' envw (L2.wipe σw vs)) (r : Rep K M' H' x u) (hv : ∀ i ∈ Tg.names t, i ∈ vs)
    (hf : ¬ P .fail) (p : P (turnC t tt fe envw x st' acc k))
    (hN : ∀ M2 H2 st2 acc2, Keep M' H' M2 H2 → Mid K M1 H1 L M2 H2 st2 acc2 → P (k st2 acc2) → N H2) :
    Tg.raw K t u (L2.wipe σw vs) H' fun σ2 H2 => L2.wipe σ2 vs = L2.wipe σw vs ∧ rdB K W0 tt σ2 H2 fun b H3 =>
      if b = true then rdE K W0 fe σ2 H3 fun y H4 => ∃ acc, H4 L = some (.lst acc) ∧ acc.length < sizeLine ∧ N (upd H4 L (.lst (acc ++ [y]))) else N H3 := by
  unfold turnC at p
  cases e : t.set x envw with
  | none => rw [e] at p; exact absurd p hf
  | some env1 =>
    rw [e] at p
    refine Tg.rd e r eo fun σ' eo' hw => ⟨(hw vs hv).trans wipe_wipe, env1, M', st', eo', m.so, ?_⟩
    cases e1 : tt env1 st' with
    | exc x s => simp only [e1, noX, R.bind] at p; exact absurd p hf
    | fail => simp only [e1, noX, R.bind] at p; exact absurd p hf
    | ok b st1 =>
      simp only [e1, noX, R.bind] at p
      intro M2 H2 b' g2 so2 hb
      subst hb
      cases b with
      | false => exact iteF (hN M2 H2 st1 acc g2.k (m.grow g2 so2) (by simpa using p))
      | true =>
        simp only [if_true] at p
        refine iteT ⟨env1, M2, st1, eo'.grow g2, so2, ?_⟩
        cases e2 : fe env1 st1 with
        | exc x s => rw [e2] at p; exact absurd p hf
        | fail => rw [e2] at p; exact absurd p hf
        | ok y st2 =>
          rw [e2] at p
          intro M3 H3 yv g3 so3 ry
          have m3 := (m.grow g2 so2).grow g3 so3
          obtain ⟨vs3, e3, r3⟩ := m3.at_
          simp only at p
          by_cases hl : acc.length < 16777216
          · rw [if_pos hl] at p
            have kf : Keep M3 H3 M3 (upd H3 L (.lst (vs3 ++ [yv]))) := .fill (by rw [m3.p]; exact List.mem_cons_self)
            refine ⟨vs3, e3, by rw [← r3.length, sizeLine_eq]; exact hl, hN M3 _ st2 (acc ++ [y]) ((g2.k.trans g3.k).trans kf) (m3.add ry e3) p⟩
          · rw [if_neg hl] at p; exact absurd p hf
theorem rd_lc0 {it : EvI} {vs : List Nat} {fin : List D → Sto → R D} (hv : ∀ i ∈ Tg.names t, i ∈ vs)
    (hfin : ∀ {M1 : Mem} {H1 : Hp} {L : Addr} {M' : Mem} {H' : Hp} {st' : Sto} {acc : List D} {Q : VK} {E : XK}, Mid K M1 H1 L M' H' st' acc → Post K (Rep K) M1 H1 Q E (fin acc st') → Q (.ref L) H') :
    ∀ σ H Q, rdE K W (fun env st => (lcL it t tt fe vs env st).bind fin) σ H Q → tLc (rdI K W it) (Tg.raw K t) (rdB K W0 tt) (rdE K W0 fe) vs σ H Q :=
  fun σ H Q ⟨env, M, st, eo, so, p⟩ => ⟨env, M, st, eo, so, by
    have p : Post K (Rep K) M H Q (WE W σ) ((it env st).bind fun I st1 => (match I with
      | .frz xs => lcF t tt fe (wipeE env vs) xs st1 []
      | .gen nxt k => lcG t tt fe (wipeE env vs) nxt k 0 st1 []).bind fin) := by
      have p : Post K (Rep K) M H Q (WE W σ) ((lcL it t tt fe vs env st).bind fin) := p
      unfold lcL at p
      cases e : it env st with
      | ok I st1 => rw [e] at p; exact p
      | exc x s => rw [e] at p; exact p
      | fail => rw [e] at p; exact p
    refine Post.imp (Post.bind (rep := ItRep K) p) fun J H1 ⟨M1, st1, I, g1, so1, ri, p1⟩ => ?_
    intro L hL
    obtain ⟨so2, k2⟩ := so1.hold (vs := []) hL
    have m0 : Mid K M1 H1 L (M1.hold L) (upd H1 L (.lst [])) st1 [] := ⟨k2, rfl, fun a ha => by
      obtain ⟨_, o, e⟩ := so1.pd a ha
      rw [upd_ne (ne_of_none e hL)], hL, fun a ha => (let ⟨o, e⟩ := (so1.pd a ha).2; ⟨_, e⟩), so2, [], upd_same, .nil⟩
    have eo1 : EnvOk K (M1.hold L) (upd H1 L (.lst [])) (wipeE env vs) (L2.wipe σ vs) := ((eo.grow g1).kp k2).wipe vs
    cases I with
    | frz xs =>
      have p1 : Post K (Rep K) M1 H1 Q (WE W σ) ((lcF t tt fe (wipeE env vs) xs st1 []).bind fin) := p1
      refine ⟨fun i m H' => m = xs.length - i ∧ i ≤ xs.length ∧ ∃ M' st' acc, Mid K M1 H1 L M' H' st' acc ∧ EnvOk K M' H' (wipeE env vs) (L2.wipe σ vs) ∧ Post K (Rep K) M1 H1 Q (WE W σ) ((lcF t tt fe (wipeE env vs) (xs.drop i) st' acc).bind fin),
        ⟨xs.length, by simp, Nat.zero_le _, _, _, _, m0, eo1, by simpa using p1⟩, ?_⟩
      rintro i m H' ⟨rfl, hi, M', st', acc, md, eo', q⟩
      obtain ⟨r1, r2⟩ := ri i M' H' st' md.kp md.so
      by_cases hlt : i < xs.length
      · have hd : xs[i]? = some xs[i] := List.getElem?_eq_getElem hlt
        obtain ⟨r3, r4⟩ := r2 _ hd
        refine .inr ⟨r3, _, fun H2 h => ⟨xs.length - (i + 1), by omega, rfl, hlt, h⟩, fun x H2 hy => ?_⟩
        obtain ⟨g2, so2, rx⟩ := r4 x H2 hy
        rw [List.drop_eq_getElem_cons hlt] at q
        exact turnC_rd (P := fun r => Post K (Rep K) M1 H1 Q (WE W σ) (r.bind fin)) (md.grow g2 so2) (eo'.grow g2) rx hv (fun z => z) q fun M3 H3 st3 acc3 k3 m3 p3 => ⟨M3, st3, acc3, m3, (eo'.grow g2).kp k3, p3⟩
      · have e : i = xs.length := by omega
        refine .inl ⟨r1 e, ?_⟩
        rw [e, List.drop_length] at q
        exact hfin md q
    | gen nxt k =>
      have p1 : Post K (Rep K) M1 H1 Q (WE W σ) ((lcG t tt fe (wipeE env vs) nxt k 0 st1 []).bind fin) := p1
      refine ⟨fun i m H' => ∃ M' st' acc, Mid K M1 H1 L M' H' st' acc ∧ EnvOk K M' H' (wipeE env vs) (L2.wipe σ vs) ∧ Post K (Rep K) M1 H1 Q (WE W σ) ((lcG t tt fe (wipeE env vs) nxt m i st' acc).bind fin),
        ⟨k, _, _, _, m0, eo1, p1⟩, ?_⟩
      rintro i m H' ⟨M', st', acc, md, eo', q⟩
      obtain ⟨r1, r2⟩ := ri i M' H' st' md.kp md.so
      cases m with
      | zero =>
        unfold lcG at q
        cases e : nxt i st' with
        | none => rw [e] at q; exact q.elim
        | some o =>
          cases o with
          | some x => rw [e] at q; exact q.elim
          | none => rw [e] at q; exact .inl ⟨r1 e, hfin md q⟩
      | succ m =>
        unfold lcG at q
        cases e : nxt i st' with
        | none => rw [e] at q; exact q.elim
        | some o =>
          cases o with
          | none => rw [e] at q; exact .inl ⟨r1 e, hfin md q⟩
          | some d =>
            rw [e] at q
            obtain ⟨r3, r4⟩ := r2 _ e
            refine .inr ⟨r3, _, fun H2 h => ⟨m, by omega, h⟩, fun x H2 hy => ?_⟩
            obtain ⟨g2, so2, rx⟩ := r4 x H2 hy
            exact turnC_rd (P := fun r => Post K (Rep K) M1 H1 Q (WE W σ) (r.bind fin)) (md.grow g2 so2) (eo'.grow g2) rx hv (fun z => z) q fun M3 H3 st3 acc3 k3 m3 p3 => ⟨M3, st3, acc3, m3, (eo'.grow g2).kp k3, p3⟩⟩
theorem rd_lc {it : EvI} {vs : List Nat} (hv : ∀ i ∈ Tg.names t, i ∈ vs) : ∀ σ H Q, rdE K W (lcE it t tt fe vs) σ H Q → tLc (rdI K W it) (Tg.raw K t) (rdB K W0 tt) (rdE K W0 fe) vs σ H Q :=
  rd_lc0 hv fun m q => by
    obtain ⟨f1, f2, f3, ws, f4, f5⟩ := m.fin
    exact q _ _ _ f1 f2 (by unfold Rep; exact ⟨_, ws, rfl, ⟨f4, f3⟩, f5⟩)
end
section
variable {X : Cx} {W : WX}
theorem g_yes : PTs X [] (rdB X.K W0 yesB) := ⟨fun pins s σ H Q I ⟨env, M, st, eo, so, p⟩ => pts_nil.run pins s σ H Q I (p M H true .refl so rfl)⟩
theorem g_ifs {c : Expr} {t : EvB} (h : PT X c (rdB X.K W0 t)) : PTs X [c] (rdB X.K W0 t) := pts_one h
end
end G
namespace G
open PySem PySem.Spec PyProof.Rows L2
def runF (n m : Nat) (B : SvS) : FA := fun ds st => if ds.length = n then (match B (ds.map some ++ List.replicate (m - n) none) st with
  | .nx _ st1 => .ok .non st1
  | .ret d st1 => .ok d st1
  | .exc e _ st1 => .exc e st1
  | _ => .fail) else .fail
def spG (K : PySem.W.Frag) (F : FA) : Sp := fun vs H Q E => ∃ ds M st, RepL K M H ds vs ∧ StOk K M H st ∧ Post K (Rep K) M H Q E (F ds st)
theorem spG_len {K : PySem.W.Frag} {n m : Nat} {B : SvS} : ∀ vs H Q E, spG K (runF n m B) vs H Q E → vs.length = n := fun vs H Q E ⟨ds, M, st, r, so, p⟩ => by
  unfold runF at p
  split at p
  · rename_i h; rw [← r.length]; exact h
  · exact p.elim
section
variable {K : PySem.W.Frag}
theorem envOk_start {M : Mem} {H : Hp} {N : List Str} {ds : List D} {vs : List V} (r : RepL K M H ds vs) : EnvOk K M H (ds.map some ++ List.replicate (N.length - ds.length) none) (L2.start N vs) := by
  unfold L2.start
  refine ⟨by simp [r.length], fun i d h => ?_⟩
  by_cases hi : i < ds.length
  · rw [List.getElem?_append_left (by simpa using hi), List.getElem?_map] at h
    obtain ⟨x, hx, e⟩ := Option.map_eq_some_iff.mp h
    cases e
    obtain ⟨v, h1, h2⟩ := r.get hx
    exact ⟨v, by rw [List.getElem?_append_left (by simpa [← r.length] using hi), List.getElem?_map, h1]; rfl, h2⟩
  · rw [List.getElem?_append_right (by simp; omega)] at h
    have := List.mem_of_getElem? h
    simp at this
end
section
variable {P : Program} {w : World} {K : PySem.W.Frag} {mg : Str → Option Value} {base : Heap}
abbrev Wd (E : XK) : WX := fun cls d _ H => E cls d H
structure RoomG (k : Nat) (A : Around) : Prop extends L2.Room k A where
  gd : A.guards = some []
theorem RoomG.mono {j k : Nat} {A : Around} (r : RoomG k A) (h : j ≤ k) : RoomG j A := ⟨r.toRoom.mono h, r.gd⟩
theorem RoomG.deeper {k : Nat} {A : Around} (r : RoomG (k + 1) A) (env : PySem.Env) : RoomG k (A.deeper env) := ⟨r.toRoom.deeper env, by have := r.gd; simpa [Around.deeper] using this⟩
structure FnG (P : Program) (w : World) (K : PySem.W.Frag) (mg : Str → Option Value) (base : Heap) (k : Nat) (f : Addr) (fd : FuncData) (ps : List Str) (sp : Sp) : Prop where
  len : ∀ vs H Q E, sp vs H Q E → vs.length = ps.length
  run : ∀ (A : Around) (outer : List PySem.Env) (s : Shared) (H : Hp) (args : Args) (us : List Value) (vs : List V) (Q : VK) (E : XK), RoomG k A → Env0 P w K mg base A outer s H → BindsTo s fd args (ps.zip us) → Vals vs us → sp vs H Q E →
    codeAny (model P w) A (.call (.ref f) args) (CR (L2.CX P w) outer P w H s Q E) s
theorem FnG.imp {P : Program} {w : World} {K : PySem.W.Frag} {mg : Str → Option Value} {base : Heap} {k : Nat} {f : Addr} {fd : FuncData} {ps : List Str} {sp sp' : Sp} (F : FnG P w K mg base k f fd ps sp) (h : ∀ vs H Q E, sp' vs H Q E → sp vs H Q E) : FnG P w K mg base k f fd ps sp' :=
  ⟨fun vs H Q E q => F.len vs H Q E (h _ _ _ _ q), fun A outer s H args us vs Q E hr he hb hv hs => F.run A outer s H args us vs Q E hr he hb hv (h _ _ _ _ hs)⟩
theorem fn_ok {x qual : Str} {s : Stmt} {f : Addr} {fd : FuncData} {N ps : List Str} {k n m : Nat} {B : SvS} (F : Fun K x qual s f fd) (Sc : FnScope N ps (defScope s)) (hn : ps.length = n) (hm : N.length = m)
    (hbody : ∀ (cdv : Value) (A : Around) (outer : List PySem.Env) (s' : Shared) (H : Hp) (E : XK), RoomG k (A.deeper (envOfC qual (defScope s) s'.heap.objs.size f cdv)) →
      PSs (cxOf (L2.CX P w) P w K mg base N qual (defScope s) f cdv A outer s' H E) (defBody s) (rdS K (Wd E) B)) : FnG P w K mg base (k + 1) f fd ps (spG K (runF n m B)) := by
  subst hn hm
  obtain ⟨oc, od, kV, doc, pm, an, cdv, ct, osl, rfl, lk, hcd⟩ := F.ex
  refine ⟨spG_len, fun A outer s0 H args us vs Q E hr e0 hb rv hsp => ?_⟩
  have hl : vs.length = ps.length := spG_len vs H Q E hsp
  have KX : K.In s0.heap := e0.mod.kin.keeps fun b o e => (e0.bs b o e).1
  have hq : rdS K (Wd E) B { nx := fun _ H' => Q .non H', rt := Q } (L2.start N vs) H := by
    obtain ⟨ds, M, st, r, so, p⟩ := hsp
    unfold runF at p
    split at p
    · rename_i hl
      refine ⟨_, M, st, envOk_start r, so, ?_⟩
      rw [hl]
      cases e : B (ds.map some ++ List.replicate (N.length - ps.length) none) st with
      | nx env st1 => rw [e] at p; exact fun M' H' σ' g so' _ => p M' H' .non g so' (rep_non _ _)
      | ret d st1 => rw [e] at p; exact fun M' H' v g so' r' => p M' H' v g so' r'
      | exc x env st1 => rw [e] at p; exact fun M' H' σ' c od g so' _ h => p M' H' c od g so' h
      | brk env st1 => rw [e] at p; exact p.elim
      | cont env st1 => rw [e] at p; exact p.elim
      | fail => rw [e] at p; exact p.elim
    · exact p.elim
  have local_ : ∀ y ∈ ps.zip us, (defScope s).names.lookup y.1 = some .local ∨ ((defScope s).names.lookup y.1 = some .cell ∧ ((cellsFrom (s0.heap.objs.size + 1) (defScope s).names []).lookup y.1).isSome = true) := by
    rintro ⟨a, v⟩ hy
    rcases Sc.par a (List.of_mem_zip hy).1 with q | q
    · exact .inl q
    · exact .inr ⟨q, PySem.W.cellsFrom_some _ _ _ (.inl q)⟩
  refine codeAny_call_function hr.toRoom.depth (KX _ _ lk) rfl Sc.co Sc.gen rfl (PySem.W.codeRec_of KX hcd) (hb _ _ _ _ (wpAny_newFunctionEnv_cells Sc.kind local_ fun env he s1 x => ?_))
  subst he
  refine ⟨(e0.mod.nolimit.keeps fun b o e => (e0.bs b o e).1).keeps x.toInCall.keep, codeAny_func ?_⟩
  have I := inv_start (CX := L2.CX P w) (E := E) Sc hr.hd e0 hl rv x
  refine wpAny_mono ((hbody cdv A outer s0 H E (hr.deeper _)).run [] s1 (L2.start N vs) H _ I hq) (fun fl s' hs => ?_) fun e s' hs => hs
  cases fl with
  | ret u => obtain ⟨v, σ', H', J, rv, q⟩ := hs; exact ⟨v, H', J.os, J.bare, J.base, J.hok, rv, q⟩
  | next => obtain ⟨σ', H', J, q⟩ := hs; exact ⟨.non, H', J.os, J.bare, J.base, J.hok, (rfl : RelV V.non Value.none), q⟩
  | brk => obtain ⟨_, _, _, q⟩ := hs; exact q.elim
  | cont => obtain ⟨_, _, _, q⟩ := hs; exact q.elim
end
def pick {α : Type} (us ws : List α) (ix : List Nat) : List α := us ++ ix.filterMap fun j => ws[j]?
def callKE (F : FA) (fs ks : EvA) (n m : Nat) (ix : List Nat) : EvE := fun env st => (fs env st).bind fun us st1 => (ks env st1).bind fun ws st2 => if us.length = n ∧ ws.length = m then F (pick us ws ix) st2 else .fail
theorem pick_rep {K : PySem.W.Frag} {M : Mem} {H : Hp} {ds es : List D} {vs zs : List V} (r : RepL K M H ds vs) (q : RepL K M H es zs) (ix : List Nat) : RepL K M H (pick ds es ix) (pick vs zs ix) := by
  unfold pick
  refine r.append ?_
  induction ix with
  | nil => exact .nil
  | cons j ix ih =>
    rw [List.filterMap_cons, List.filterMap_cons]
    cases e : es[j]? with
    | none =>
      have : zs[j]? = none := List.getElem?_eq_none_iff.mpr (by rw [← q.length]; exact List.getElem?_eq_none_iff.mp e)
      rw [this]; exact ih
    | some d =>
      obtain ⟨v, h1, h2⟩ := q.get e
      rw [h1]; exact .cons h2 ih
theorem pick_vals {vs zs : List V} {us ws : List Value} (r : Vals vs us) (q : Vals zs ws) (ix : List Nat) : Vals (pick vs zs ix) (pick us ws ix) := by
  unfold pick
  refine r.append ?_
  induction ix with
  | nil => exact .nil
  | cons j ix ih =>
    rw [List.filterMap_cons, List.filterMap_cons]
    cases e : zs[j]? with
    | none => rw [q.none_of e]; exact ih
    | some d =>
      obtain ⟨v, h1, h2⟩ := q.get e
      rw [h1]; exact .cons h2 ih
def KB (K : PySem.W.Frag) (fd : FuncData) (ps : List Str) (n : Nat) (ks : List Str) (ix : List Nat) : Prop :=
  ∀ (s : Shared) (us ws : List Value), K.In s.heap → us.length = n → ws.length = ks.length → BindsTo s fd ⟨us, ks.zip ws⟩ (ps.zip (pick us ws ix))
theorem kb_of {K : PySem.W.Frag} {x qual : Str} {st : Stmt} {f : Addr} {fd : FuncData} {ps ks : List Str} {n : Nat} {ix : List Nat} (F : Fun K x qual st f fd)
    (h : ∀ (kV doc pm : Value) (an : Option Addr) (cdv ct : Value) (us ws : List Value), us.length = n → ws.length = ks.length → bindArgs (PySem.W.fnOf x qual (defArgs st) (defBody st) (defScope st) .none kV doc pm an cdv ct) ⟨us, ks.zip ws⟩ = pure (ps.zip (pick us ws ix))) : KB K fd ps n ks ix := by
  obtain ⟨oc, od, kV, doc, pm, an, cdv, ct, osl, rfl, lk, hcd⟩ := F.ex
  exact fun s us ws _ h1 h2 => .of_eq (h kV doc pm an cdv ct us ws h1 h2)
section
variable {X : Cx} {W : WX} {F : FA} {k n : Nat} {f : Addr} {fd : FuncData} {ps ks : List Str} {ix : List Nat} {x : Str} {p pos kpos : Pos} {e : Expr} {es : List Expr} {kws : List Keyword} {fa : EvE} {fs fk : EvA} {nm : Option Str}
theorem _root_.L2.PK.imp {t t' : TA} (h : PK X kws t) (i : ∀ σ H Q, t' σ H Q → t σ H Q) : PK X kws t' := ⟨fun pos pins s σ H Q I q => h.run pos pins s σ H Q I (i σ H Q q)⟩
theorem k_nil : PK X [] (rdA X.K W nilA) := pk_nil.imp fun σ H Q ⟨env, M, st, eo, so, p⟩ => p M H [] .refl so .nil
theorem k_cons (ha : PE X e (rdE X.K W fa)) (hr : PK X kws (rdA X.K W fs)) : PK X (⟨nm, e, kpos⟩ :: kws) (rdA X.K W (consA fa fs)) :=
  (pk_cons ha hr).imp fun σ H Q ⟨env, M, st, eo, so, p⟩ => ⟨env, M, st, eo, so, Post.imp (Post.bind p) fun x H1 ⟨M1, st1, a, g, so1, ra, p1⟩ =>
    ⟨env, M1, st1, eo.grow g, so1, Post.imp (Post.bind (rep := RepL X.K) p1) fun y H2 ⟨M2, st2, b, g2, so2, rb, p2⟩ => p2 M2 H2 _ .refl so2 (.cons (ra.grow g2) rb)⟩⟩
theorem run_kw {pins : List (Addr × Obj)} {σ : L2.St} {H : Hp} {s : Shared} {Q : VK} {us ws : List Value} {vs zs : List V} (G : FnG X.prog X.w X.K X.mg X.base k f fd ps (spG X.K F)) (hr : RoomG k X.A) (hb : KB X.K fd ps n ks ix) (tk : Takes X W)
    (I : Inv X pins σ H s) (r : Vals vs us) (rz : Vals zs ws) (h1 : us.length = n) (h2 : ws.length = ks.length) (h : spG X.K F (pick vs zs ix) H Q (WE W σ)) : wpAny (model X.prog X.w) X.A (PySem.call (.ref f) us (ks.zip ws)) (EP X pins σ Q) X.xe s := by
  have hx := passAt tk σ
  refine wpAny_call (codeAny_mono (G.run X.A X.stack s H ⟨us, ks.zip ws⟩ (pick us ws ix) (pick vs zs ix) Q (WE W σ) hr I.env0 (hb s us ws I.kIn h1 h2) (pick_vals r rz ix) h) fun r s' hq => ?_)
  cases r with
  | error e => exact hx pins H s e s' I hq
  | ok fl =>
    cases fl with
    | ret u => exact I.after hq
    | next => exact hq.elim
    | brk => exact hq.elim
    | cont => exact hq.elim
theorem run_pos {pins : List (Addr × Obj)} {σ : L2.St} {H : Hp} {s : Shared} {Q : VK} {us : List Value} {vs : List V} (G : FnG X.prog X.w X.K X.mg X.base k f fd ps (spG X.K F)) (hr : RoomG k X.A) (hb : Binds X.K fd ps []) (tk : Takes X W)
    (I : Inv X pins σ H s) (r : Vals vs us) (h : spG X.K F vs H Q (WE W σ)) : wpAny (model X.prog X.w) X.A (PySem.call (.ref f) us) (EP X pins σ Q) X.xe s := by
  have hx := passAt tk σ
  have bb := hb s us I.kIn (by rw [List.append_nil, ← r.length]; exact G.len _ _ _ _ h)
  rw [List.append_nil] at bb
  refine wpAny_call (codeAny_mono (G.run X.A X.stack s H ⟨us, []⟩ us vs Q (WE W σ) hr I.env0 bb r h) fun r s' hq => ?_)
  cases r with
  | error e => exact hx pins H s e s' I hq
  | ok fl =>
    cases fl with
    | ret u => exact I.after hq
    | next => exact hq.elim
    | brk => exact hq.elim
    | cont => exact hq.elim
theorem g_call (G : FnG X.prog X.w X.K X.mg X.base k f fd ps (spG X.K F)) (hr : RoomG k X.A) (hg : Gl X x) (hm : X.mg x = some (.ref f)) (hk : PySem.W.keepIn X.K (.ref f) = true) (hb : Binds X.K fd ps []) (tk : Takes X W)
    (ha : PA X (e :: es) (rdA X.K W fs)) (hdb : (x == ("__debug__" : Str)) = false) (he : starEach (e :: es) X.env = (false, eval e X.env) :: starEach es X.env) (hpl : (backTo pos (starEach es X.env)).any (·.1) = false) :
    PE X (.Call (.Name x p) (e :: es) [] pos) (rdE X.K W (callE F fs)) := by
  refine ⟨fun pins s σ H Q I ⟨env, M, st, eo, so, p⟩ => ?_⟩
  refine wpAny_Call_Name_kw (ld_glob I hg hm ?_ hdb)
  refine PySem.W.callWith_K (h₀ := X.base) I.ok.mod.kin hk (thn (ha.run pos pins s σ H _ I ⟨env, M, st, eo, so, Post.bind (rep := RepL X.K) p⟩) fun us s1 ⟨vs, H1, I1, r, M1, st1, ds, g, so1, ra, p1⟩ => ⟨I1.kIn, ?_⟩) he hpl
  exact run_pos G hr hb tk I1 r ⟨ds, M1, st1, ra, so1, p1⟩
theorem g_callK0 (G : FnG X.prog X.w X.K X.mg X.base k f fd ps (spG X.K F)) (hr : RoomG k X.A) (hg : Gl X x) (hm : X.mg x = some (.ref f)) (hk : PySem.W.keepIn X.K (.ref f) = true) (hb : KB X.K fd ps 0 ks ix) (tk : Takes X W)
    (hkw : PK X kws (rdA X.K W fk)) (hall : (backToKw pos (keywordEach kws X.env)).all (·.1.isSome) = true) (hks : (backToKw pos (keywordEach kws X.env)).filterMap (·.1) = ks)
    (hdb : (x == ("__debug__" : Str)) = false)
    (hpl : ((backTo pos (starEach [] X.env)).any (·.1) || (backToKw pos (keywordEach kws X.env)).any (·.1.isNone)) = false) :
    PE X (.Call (.Name x p) [] kws pos) (rdE X.K W (callKE F nilA fk 0 ks.length ix)) := by
  refine ⟨fun pins s σ H Q I ⟨env, M, st, eo, so, p⟩ => ?_⟩
  refine wpAny_Call_Name_kw (ld_glob I hg hm ?_ hdb)
  have p1 : Post X.K (Rep X.K) M H Q (WE W σ) ((fk env st).bind fun ws st2 => if (0 : Nat) = 0 ∧ ws.length = ks.length then F (pick [] ws ix) st2 else .fail) := p
  refine PySem.W.callWith_KW0 (h₀ := X.base) I.ok.mod.kin hk hall ?_ hpl
  refine thn (hkw.run pos pins s σ H _ I ⟨env, M, st, eo, so, Post.bind (rep := RepL X.K) p1⟩) fun ws s2 ⟨zs, H2, I2, rz, M2, st2, es', g2, so2, rd2, p2⟩ => ⟨I2.kIn, ?_⟩
  rw [hks]
  split at p2
  · rename_i hl
    exact run_kw (vs := []) (us := []) G hr hb tk I2 .nil rz rfl (by rw [← rz.length, ← rd2.length]; exact hl.2) ⟨_, M2, st2, pick_rep .nil rd2 ix, so2, p2⟩
  · exact p2.elim
end
abbrev FM := D → List D → Sto → R D
def isL (d : D) (st : Sto) : Bool := match d with
  | .lst _ => true
  | .slo _ => true
  | .mut n => (match st[n]? with
    | some (.lst _) => true
    | _ => false)
  | _ => false
def methLE (f : FM) (fo : EvE) (fs : EvA) : EvE := fun env st => (fo env st).bind fun o st1 => if isL o st1 = true then (fs env st1).bind fun as st2 => f o as st2 else .fail
def MethV (K : PySem.W.Frag) (r : V → List V → Hp → VK → Prop) (f : FM) : Prop := ∀ (a : D) (as : List D) (x : V) (xs : List V) (M : Mem) (H : Hp) (st : Sto) (Q : VK) (E : XK), Rep K M H a x → RepL K M H as xs → StOk K M H st → Post K (Rep K) M H Q E (f a as st) → r x xs H Q
theorem isL_ty {K : PySem.W.Frag} {M : Mem} {H : Hp} {d : D} {st : Sto} {x : V} (so : StOk K M H st) (h : isL d st = true) (r : Rep K M H d x) : tyV K "list" x H := by
  unfold isL at h
  split at h
  · unfold Rep at r; obtain ⟨a, vs, rfl, f, q⟩ := r; exact .inl ⟨rfl, vs, f.sq⟩
  · unfold Rep at r; obtain ⟨a, vs, rfl, f, q⟩ := r; exact .inl ⟨rfl, vs, f.sq⟩
  · split at h
    · rename_i e
      unfold Rep at r; obtain ⟨a, rfl, m⟩ := r
      obtain ⟨vs, hv, q⟩ := so.at_ _ a _ m e
      exact .inl ⟨rfl, vs, .of hv⟩
    · cases h
  · cases h
section
variable {X : Cx} {W : WX} {f : FM} {fo : EvE} {fs : EvA} {r : V → List V → Hp → VK → Prop} {s : Expr}
theorem g_methL (h : PE X s (tBM X.K "list" r (rdE X.K W fo) (rdA X.K W fs))) (hv : MethV X.K r f) : PE X s (rdE X.K W (methLE f fo fs)) :=
  h.imp fun σ H Q ⟨env, M, st, eo, so, p⟩ => ⟨env, M, st, eo, so, Post.imp (Post.bind p) fun x H1 ⟨M1, st1, a, g, so1, ra, p1⟩ => by
    split at p1
    · rename_i hl
      exact ⟨isL_ty so1 hl ra, env, M1, st1, eo.grow g, so1, Post.imp (Post.bind (rep := RepL X.K) p1) fun xs H2 ⟨M2, st2, as, g2, so2, rs, p2⟩ => hv a as x xs M2 H2 st2 Q _ (ra.grow g2) rs so2 p2⟩
    · exact p1.elim⟩
end
def appF : FM := fun d as st => match d, as with
  | .mut n, [x] => (match st[n]? with
    | some (.lst xs) => if xs.length < 16777216 then .ok .non (st.set n (.lst (xs ++ [x]))) else .fail
    | _ => .fail)
  | _, _ => .fail
theorem v_append {K : PySem.W.Frag} : MethV K rAppend appF := by
  intro a as x xs M H st Q E ra rb so p
  unfold appF at p
  split at p
  · split at p
    · rename_i n b _ ys e
      split at p
      · rename_i hl
        unfold Rep at ra
        obtain ⟨t, rfl, m⟩ := ra
        obtain ⟨y, rfl, ry⟩ := rb.one
        obtain ⟨vs, hv, q⟩ := so.at_ n t _ m e
        exact ⟨t, vs, y, rfl, rfl, hv, by rw [← q.length, sizeLine_eq]; exact hl, p M _ _ (.put so m) (so.putL m (q.append (.cons ry .nil))) (rep_non _ _)⟩
      · exact p.elim
    · exact p.elim
  · exact p.elim
end G
namespace G
open PySem PySem.Spec PyProof.Rows L2
theorem bt_len : bootBuiltins "len" = some (.builtin "len") := by decide +kernel
theorem bt_sum : bootBuiltins "sum" = some (.builtin "sum") := by decide +kernel
theorem bt_all : bootBuiltins "all" = some (.builtin "all") := by decide +kernel
theorem bt_any : bootBuiltins "any" = some (.builtin "any") := by decide +kernel
theorem bt_abs : bootBuiltins "abs" = some (.builtin "abs") := by decide +kernel
theorem bt_max : bootBuiltins "max" = some (.builtin "max") := by decide +kernel
theorem bt_min : bootBuiltins "min" = some (.builtin "min") := by decide +kernel
theorem bt_divmod : bootBuiltins "divmod" = some (.builtin "divmod") := by decide +kernel
theorem bt_isinstance : bootBuiltins "isinstance" = some (.builtin "isinstance") := by decide +kernel
theorem bt_sorted : bootBuiltins "sorted" = some (.builtin "sorted") := by decide +kernel
theorem bt_int : bootBuiltins "int" = some (.type "int") := by decide +kernel
theorem bt_bool : bootBuiltins "bool" = some (.type "bool") := by decide +kernel
theorem bt_str : bootBuiltins "str" = some (.type "str") := by decide +kernel
theorem bt_list : bootBuiltins "list" = some (.type "list") := by decide +kernel
theorem bt_tuple : bootBuiltins "tuple" = some (.type "tuple") := by decide +kernel
theorem bt_dict : bootBuiltins "dict" = some (.type "dict") := by decide +kernel
section
variable {X : Cx} {W : WX} {s : Expr} {fs : EvA} {f : FA} {r : List V → Hp → VK → Prop}
theorem g_blt (h : PE X s (tCB r (rdA X.K W fs))) (hv : CallV X.K r f) : PE X s (rdE X.K W (callE f fs)) := h.imp (rd_call hv)
theorem c_len : CallR X (.builtin "len") (fun xs H Q => (∃ p ys, xs = [.ref p] ∧ (SqL X.K H p ys ∨ SqT X.K H p ys) ∧ Q (.int ys.length) H) ∨ ∃ z, xs = [.str z] ∧ z.length ≤ sizeLine ∧ Q (.int z.length) H) := CallR.or call_len_seq call_len_str
theorem c_divmod : CallR X (.builtin "divmod") (fun xs H Q => (∃ i j, xs = [.int i, .int j] ∧ CDiv i j ∧ ∀ p, H p = none → Q (.ref p) (upd H p (.tup [.int (i / j), .int (i % j)]))) ∨
    ∃ i j, xs = [.int i, .int j] ∧ CDivP i j ∧ ∀ p, H p = none → Q (.ref p) (upd H p (.tup [.int (i / j), .int (i % j)]))) := CallR.or call_divmod call_divmodW
theorem c_max (hc : X.calm = true) : CallR X (.builtin "max") (fun xs H Q => (∃ i j, xs = [.int i, .int j] ∧ Q (.int (if j > i then j else i)) H) ∨ qMax X.K xs H Q) := CallR.or (call_max2 hc) (cq_max hc)
theorem c_min (hc : X.calm = true) : CallR X (.builtin "min") (fun xs H Q => (∃ i j, xs = [.int i, .int j] ∧ Q (.int (if j < i then j else i)) H) ∨ qMin X.K xs H Q) := CallR.or (call_min2 hc) (cq_min hc)
theorem g_globI {x : Str} {pos : Pos} {i : Int} (hg : Gl X x) (h : ∃ t, X.mg x = some (.int i t)) (hd : (x == ("__debug__" : Str)) = false) : PE X (.Name x pos) (rdE X.K W (cE (.int i))) := by
  obtain ⟨t, h⟩ := h
  exact g_c (v := .int i) (pe_glob hg h ⟨t, rfl⟩ hd) (rep_int i)
theorem g_lc {it : EvI} {t : Tg} {tt : EvB} {fe : EvE} {vs : List Nat} (hv : ∀ i ∈ Tg.names t, i ∈ vs) (h : PE X s (tLc (rdI X.K W it) (Tg.raw X.K t) (rdB X.K W0 tt) (rdE X.K W0 fe) vs)) : PE X s (rdE X.K W (lcE it t tt fe vs)) := h.imp (rd_lc hv)
theorem s_set {i : Nat} {fa : EvE} {s : Stmt} (h : PS X s (tAsg (rdE X.K W fa) (gName i))) : PS X s (rdS X.K W (asgS fa (nameT i))) :=
  h.imp fun T σ H ⟨env, M, st, eo, so, p⟩ => ⟨env, M, st, eo, so, Post.imp (PostS.bind eo p) fun x H1 ⟨M1, st1, d, g, so1, ra, p1⟩ => p1 M1 H1 _ .refl so1 ((eo.grow g).set i ra)⟩
def parS (i j : Nat) (fs : EvA) : SvS := fun env st => bindS (fs env st) env fun as st1 => match as with
  | [a, b] => .nx ((env.set i (some a)).set j (some b)) st1
  | _ => .fail
def parS3 (i j k : Nat) (fs : EvA) : SvS := fun env st => bindS (fs env st) env fun as st1 => match as with
  | [a, b, c] => .nx (((env.set i (some a)).set j (some b)).set k (some c)) st1
  | _ => .fail
theorem s_par {i j : Nat} {s : Stmt} (h : PS X s (tPar i j (rdA X.K W fs))) : PS X s (rdS X.K W (parS i j fs)) :=
  h.imp fun T σ H ⟨env, M, st, eo, so, p⟩ => ⟨env, M, st, eo, so, Post.imp (PostS.bind eo p) fun vs H1 ⟨M1, st1, ds, g, so1, ra, p1⟩ => by
    match ds, ra, p1 with
    | [a, b], ra, p1 =>
      obtain ⟨x, y, rfl, rx, ry⟩ := ra.two
      exact ⟨x, y, rfl, p1 M1 H1 _ .refl so1 (((eo.grow g).set i rx).set j ry)⟩
    | [], _, p1 => exact p1.elim
    | [_], _, p1 => exact p1.elim
    | _ :: _ :: _ :: _, _, p1 => exact p1.elim⟩
end
structure Kn (P : Program) (w : World) (K : PySem.W.Frag) (mg : Str → Option Value) (base : Heap) (x : Str) (s : Stmt) (ps : List Str) (k : Nat) (F : FA) : Prop where
  ex : ∃ (f : Addr) (fd : FuncData) (z : Str), mg x = some (.ref f) ∧ Fun K z z s f fd ∧ Binds K fd ps [] ∧ FnG P w K mg base k f fd ps (spG K F)
theorem fn_fail {P : Program} {w : World} {K : PySem.W.Frag} {mg : Str → Option Value} {base : Heap} {k : Nat} {f : Addr} {fd : FuncData} {ps : List Str} : FnG P w K mg base k f fd ps (spG K fun _ _ => .fail) :=
  ⟨fun _ _ _ _ ⟨_, _, _, _, _, p⟩ => p.elim, fun _ _ _ _ _ _ _ _ _ _ _ _ _ ⟨_, _, _, _, _, p⟩ => p.elim⟩
def Std (K : PySem.W.Frag) (mg : Str → Option Value) (x z : Str) (s : Stmt) : Prop := ∃ (f : Addr) (fd : FuncData), mg x = some (.ref f) ∧ Fun K z z s f fd
section
variable {P : Program} {w : World} {K : PySem.W.Frag} {mg : Str → Option Value} {base : Heap}
theorem kn_of {x z : Str} {s : Stmt} {N ps : List Str} {k n m : Nat} {B : SvS} (S : Std K mg x z s) (Sc : FnScope N ps (defScope s)) (hn : ps.length = n) (hm : N.length = m)
    (hb : ∀ (kV doc pm : Value) (an : Option Addr) (cdv ct : Value) (us : List Value), us.length = ps.length → bindArgs (PySem.W.fnOf z z (defArgs s) (defBody s) (defScope s) .none kV doc pm an cdv ct) ⟨us, []⟩ = pure (ps.zip us))
    (hbody : ∀ (f : Addr) (cdv : Value) (A : Around) (outer : List PySem.Env) (s' : Shared) (H : Hp) (E : XK), RoomG k (A.deeper (envOfC z (defScope s) s'.heap.objs.size f cdv)) →
      PSs (cxOf (L2.CX P w) P w K mg base N z (defScope s) f cdv A outer s' H E) (defBody s) (rdS K (Wd E) B)) : Kn P w K mg base x s ps (k + 1) (runF n m B) := by
  obtain ⟨f, fd, hmg, F⟩ := S
  exact ⟨f, fd, z, hmg, F, F.binds hb, fn_ok F Sc hn hm fun cdv A outer s' H E hr => hbody f cdv A outer s' H E hr⟩
theorem kn_fail {x z : Str} {s : Stmt} {ps : List Str} {k : Nat} (S : Std K mg x z s)
    (hb : ∀ (kV doc pm : Value) (an : Option Addr) (cdv ct : Value) (us : List Value), us.length = ps.length → bindArgs (PySem.W.fnOf z z (defArgs s) (defBody s) (defScope s) .none kV doc pm an cdv ct) ⟨us, []⟩ = pure (ps.zip us)) : Kn P w K mg base x s ps k fun _ _ => .fail := by
  obtain ⟨f, fd, hmg, F⟩ := S
  exact ⟨f, fd, z, hmg, F, F.binds hb, fn_fail⟩
end
section
variable {X : Cx} {W : WX} {F : FA} {k : Nat} {ps : List Str} {x : Str} {st : Stmt} {p pos : Pos} {e : Expr} {es : List Expr} {fs fk : EvA}
theorem g_calln (C : Kn X.prog X.w X.K X.mg X.base x st ps k F) (hr : RoomG k X.A) (hg : Gl X x) (tk : Takes X W)
    (ha : PA X (e :: es) (rdA X.K W fs)) (hdb : (x == ("__debug__" : Str)) = false) (he : starEach (e :: es) X.env = (false, eval e X.env) :: starEach es X.env) (hpl : (backTo pos (starEach es X.env)).any (·.1) = false) :
    PE X (.Call (.Name x p) (e :: es) [] pos) (rdE X.K W (callE F fs)) := by
  obtain ⟨f, fd, z, hm, Fn, hb, G⟩ := C.ex
  exact g_call G hr hg hm Fn.kp hb tk ha hdb he hpl
theorem g_callkn0 {ks : List Str} {ix : List Nat} {kws : List Keyword} (C : Kn X.prog X.w X.K X.mg X.base x st ps k F) (hr : RoomG k X.A) (hg : Gl X x) (tk : Takes X W)
    (hkb : ∀ (z : Str) (kV doc pm : Value) (an : Option Addr) (cdv ct : Value) (us ws : List Value), us.length = 0 → ws.length = ks.length → bindArgs (PySem.W.fnOf z z (defArgs st) (defBody st) (defScope st) .none kV doc pm an cdv ct) ⟨us, ks.zip ws⟩ = pure (ps.zip (pick us ws ix)))
    (hkw : PK X kws (rdA X.K W fk)) (hall : (backToKw pos (keywordEach kws X.env)).all (·.1.isSome) = true) (hks : (backToKw pos (keywordEach kws X.env)).filterMap (·.1) = ks)
    (hdb : (x == ("__debug__" : Str)) = false)
    (hpl : ((backTo pos (starEach [] X.env)).any (·.1) || (backToKw pos (keywordEach kws X.env)).any (·.1.isNone)) = false) :
    PE X (.Call (.Name x p) [] kws pos) (rdE X.K W (callKE F nilA fk 0 ks.length ix)) := by
  obtain ⟨f, fd, z, hm, Fn, hb, G⟩ := C.ex
  exact g_callK0 G hr hg hm Fn.kp (kb_of Fn (hkb z)) tk hkw hall hks hdb hpl
end
end G
namespace G
open PySem PySem.Spec PyProof.Rows L2
theorem fun_inj {K : PySem.W.Frag} {x qual x' qual' : Str} {s s' : Stmt} {f : Addr} {fd fd' : FuncData} (F : Fun K x qual s f fd) (F' : Fun K x' qual' s' f fd') : fd' = fd := by
  obtain ⟨oc, od, kV, doc, pm, an, cdv, ct, osl, e, lk, hcd⟩ := F.ex
  obtain ⟨oc', od', kV', doc', pm', an', cdv', ct', osl', e', lk', hcd'⟩ := F'.ex
  rw [lk] at lk'
  injection lk' with q
  injection q with _ _ q3 _
  injection q3 with q4
  exact q4.symm
theorem law_fd {l : PySem.W.OpenLaw} {w : World} {K : PySem.W.Frag} {mg : Str → Option Value} {fa : Addr} {fd : FuncData} {s : Stmt} {k : Nat} {F : FA} (hfa : mg "law" = some (.ref fa)) (Fn : Fun K "law" "law" s fa fd)
    (hb : ∀ (s : Shared) (v : Value), BindsTo s fd ⟨[v], []⟩ [("script", v)])
    (h : ∀ base : Heap, K.In base → base.Ns mainGlobals mg → Kn l.prog w K mg base "law" s ["script"] k F) :
    ∃ fd : FuncData, (∀ (s : Shared) (v : Value), BindsTo s fd ⟨[v], []⟩ [("script", v)]) ∧ ∀ base : Heap, K.In base → base.Ns mainGlobals mg → FnG l.prog w K mg base k fa fd ["script"] (spG K F) := by
  refine ⟨fd, hb, fun base h1 h2 => ?_⟩
  obtain ⟨f, fd', z, hm, Fn', _, G⟩ := (h base h1 h2).ex
  rw [hfa] at hm
  injection hm with hm
  injection hm with hm
  subst hm
  have e := fun_inj Fn Fn'
  subst e
  exact G
theorem cx_no {P : Program} {w : World} {outer : List PySem.Env} {H : Hp} {s : Shared} {e : Value} {s' : Shared} (h : L2.CX P w outer H s (fun _ _ _ => False) e s') : False := by
  obtain ⟨_, _, _, _, _, _, _, _, _, _, _, _, z⟩ := h
  exact z
theorem law_sp {K : PySem.W.Frag} {F : FA} {H : Hp} {a : Addr} {ns : List Int} (hS : SqL K H a (ns.map V.int)) (h : ∃ st, F [.slo (ns.map D.int)] [] = .ok (.bl true) st) : spG K F [.ref a] H (fun v _ => v = .bl true) fun _ _ _ => False := by
  obtain ⟨st, e⟩ := h
  refine ⟨[.slo (ns.map D.int)], ⟨[], [], fun _ => none⟩, [], .cons ?_ .nil, ⟨rfl, List.nodup_nil, fun a h => by simp at h, fun n a mo h => by simp at h⟩, ?_⟩
  · unfold Rep
    exact ⟨a, _, rfl, hS.imp (fun q => ⟨q, by simp [Mem.no]⟩) id, .ints ns⟩
  · rw [e]
    intro M' H' b _ _ r
    unfold Rep at r
    exact r
section
variable {P : Program} {w : World} {K : PySem.W.Frag} {mg mb : Str → Option Value} {k : Nat} {fa a : Addr} {fd : FuncData} {x : Str} {F : FA} {s : Shared} {vs : List Value} {ns : List Int}
structure Fst (K : PySem.W.Frag) (P : Program) (w : World) (a : Addr) (h : Heap) (ns : List Int) (H : Hp) : Prop where
  only : ∀ b, H b = none ∨ (b = a ∧ K.lookup a = none ∧ ∃ o xs, H b = some (.frz o (.lst xs)))
  at_ : SqL K H a (ns.map V.int)
  ok : HOk P w H h
theorem fst_of (KX : K.In s.heap) (ha : s.heap.get? a = some { cls := .type "list", data := .seq vs.toArray }) (hi : IntsAre vs ns) (hl : ns.length ≤ sizeLine) : ∃ H, Fst K P w a s.heap ns H := by
  have rv := vals_ints hi
  by_cases hk : K.lookup a = none
  · let u : HO := .frz { cls := .type "list", data := .seq vs.toArray } (.lst (ns.map V.int))
    refine ⟨fun b => if b = a then some u else none, fun b => ?_, .inl (.inr ⟨_, if_pos rfl⟩), fun b o e => ?_⟩
    · by_cases hb : b = a
      · exact .inr ⟨hb, hk, _, _, if_pos hb⟩
      · exact .inl (if_neg hb)
    · by_cases hb : b = a
      · subst hb
        have e := (if_pos rfl).symm.trans e
        cases e
        exact ⟨ha, by rw [List.length_map]; exact hl, vs, _, rv, ha⟩
      · have e := (if_neg hb).symm.trans e
        cases e
  · cases hk2 : K.lookup a with
    | none => exact absurd hk2 hk
    | some o =>
      have e := KX a o hk2
      rw [ha] at e
      cases e
      refine ⟨fun _ => none, fun _ => .inl rfl, .inr ⟨_, vs.toArray, _, hk2, rfl, rfl, rfl, ?_, by simpa using rv⟩, fun _ _ e => nomatch e⟩
      rw [List.size_toArray, hi.length]; exact hl
theorem law_run (KX : K.In s.heap) (hns : s.heap.Ns mainGlobals mg) (hb : s.heap.Ns builtinsNs mb) (hbb : ∀ x : Str, x ≠ "__name__" → mb x = bootBuiltins x) (hlim : s.heap.NoLimit) (hg : s.gens = #[])
    (ha : s.heap.get? a = some { cls := .type "list", data := .seq vs.toArray }) (hi : IntsAre vs ns) (hl : ns.length ≤ sizeLine) (hr : RoomG k callerA)
    (hF : ∀ base : Heap, K.In base → base.Ns mainGlobals mg → FnG P w K mg base k fa fd [x] (spG K F)) (hbind : ∀ (s : Shared) (u : Value), BindsTo s fd ⟨[u], []⟩ [(x, u)]) (ht : ∃ st, F [.slo (ns.map D.int)] [] = .ok (.bl true) st) :
    codeAny (model P w) callerA (.call (.ref fa) ⟨[.ref a], []⟩) (fun r s' => r = .ok (.ret (.bool true)) ∧ OldK s.heap s'.heap ∧ s'.os = s.os ∧ AllBare s'.gens) s := by
  obtain ⟨H, F1⟩ := fst_of (P := P) (w := w) KX ha hi hl
  -- a dict, or an object of the module, is not tracked
  have free : ∀ {b : Addr} {o : Obj}, s.heap.get? b = some o → (b = a → K.lookup a = none → False) → H b = none := fun {b o} e z => (F1.only b).elim id fun ⟨h1, h2, _⟩ => (z h1 h2).elim
  have ns_ : ∀ {b : Addr} {m : Str → Option Value}, s.heap.Ns b m → (hidT s.heap H).Ns b m := fun {b m} ⟨o, es, ep, e, d, r⟩ => ⟨o, es, ep, hidT_get e (free e fun h1 _ => by
    subst h1
    rw [ha] at e
    cases e
    exact nomatch (show Data.seq vs.toArray _ = Data.dict es ep from d)), d, r⟩
  have KB : K.In (hidT s.heap H) := fun b o e => hidT_get (KX b o e) (free (KX b o e) fun h1 h2 => by
    subst h1
    rw [h2] at e; cases e)
  have e0 : Env0 P w K mg (hidT s.heap H) callerA [] s H :=
    ⟨rfl, ⟨KB, ns_ hns, ⟨mb, ns_ hb, hbb⟩, let ⟨mc, h1, h2⟩ := hlim; ⟨mc, ns_ h1, h2⟩⟩, fun b o e => of_hidT e, Nat.le_of_eq (hidT_size _ _), True.intro, fun b hb => (nomatch (show b ∈ ([] : List Addr) from hb)), F1.ok, .of_eq hg⟩
  refine codeAny_mono ((hF _ KB (ns_ hns)).run callerA [] s H ⟨[.ref a], []⟩ [.ref a] [.ref a] (fun v _ => v = .bl true) (fun _ _ _ => False) hr e0 (hbind s (.ref a)) (.cons rfl .nil) (law_sp F1.at_ ht)) fun r s' h => ?_
  cases r with
  | error e => exact (cx_no h).elim
  | ok fl =>
    cases fl with
    | next => exact False.elim h
    | brk => exact False.elim h
    | cont => exact False.elim h
    | ret u =>
      obtain ⟨v, H', os, bare, un, hok', r', q⟩ := h
      have q : v = .bl true := q
      subst q
      obtain rfl : u = Value.bool true := r'
      refine ⟨rfl, OldK.of_keep fun b o e => ?_, os, bare⟩
      rcases F1.only b with z | ⟨_, _, ob, xs, z⟩
      · exact un.keep b o e z (fun m => (nomatch (show b ∈ ([] : List Addr) from m))) (by simp)
      · have k1 := (F1.ok b _ z).1
        have k2 := (hok' b _ (un.frzs b ob _ z)).1
        rw [k1] at e
        cases e
        exact k2
theorem walk_end {l : PySem.W.OpenLaw} {n k : Nat} {q : Program} {loose : List Str} {XP : (Str → Option Value) → Heap → Prop} {YP : World → Heap → Prop} {d : DefRec} {K : Params → PySem.W.Frag} {x : Str} {F : FA}
    (hn : l.most = some n) (hn2 : n ≤ sizeLine) (hdf : d.params.defaults = []) (hr : L2.Room k callerA) (hY : ∀ (w : World) (h : Heap), YP w h → (K w.params).In h)
    (hF : ∀ (w : World) (mg : Str → Option Value) (fa : Addr) (h : Heap), (K w.params).In h → h.Ns mainGlobals mg → mg d.name = some (.ref fa) →
      ∃ fd : FuncData, (∀ (s : Shared) (u : Value), BindsTo s fd ⟨[u], []⟩ [(x, u)]) ∧ ∀ base : Heap, (K w.params).In base → base.Ns mainGlobals mg → FnG l.prog w (K w.params) mg base k fa fd [x] (spG (K w.params) F))
    (ht : ∀ ns : List Int, ns.length ≤ n → ∃ st, F [.slo (ns.map D.int)] [] = .ok (.bl true) st) : PySem.W.WalkO q loose XP YP l.row.toRowW d [] (fun f vs => PySem.call f vs) := by
  refine Att.attach_call hn hdf fun w s₀ s₁ mg mb fa o pm cd doc a vs ns G Y ho hd hcd hmg hobj hints hlen hg => ?_
  have KX := hY w _ Y
  obtain ⟨fd, hb, F1⟩ := hF w mg fa _ KX G.T.g hmg
  exact law_run KX G.T.g G.T.b G.T.builtins G.T.nolimit hg hobj hints (Nat.le_trans hlen hn2) ⟨hr, rfl⟩ F1 hb (ht ns hlen)
end
end G
namespace G
open PySem PySem.Spec PyProof.Rows L2
mutual
def rf : D → Bool
  | .mut _ => false
  | .exv .. => false
  | .tup xs => rfL xs
  | .lst xs => rfL xs
  | .slo xs => rfL xs
  | _ => true
def rfL : List D → Bool
  | [] => true
  | x :: xs => rf x && rfL xs
end
def rfM : MO → Bool
  | .lst xs => rfL xs
  | .dd kvs => rfL (kvs.map (·.2))
  | .de kvs => rfL (kvs.map (·.2))
  | .fd kvs => rfL (kvs.map (·.2))
  | .fe kvs => rfL (kvs.map (·.2))
  | _ => true
def rfS (st : Sto) : Bool := st.all rfM
mutual
/-- d with the lists of st that are not below n0 written out, k deep at most -/
def thaw (st : Sto) (n0 : Nat) : Nat → D → Option D
  | k, .tup xs => (thawL st n0 k xs).map .tup
  | k, .lst xs => (thawL st n0 k xs).map .lst
  | k, .slo xs => if rfL xs then some (.slo xs) else none
  | 0, .mut _ => none
  | _, .exv .. => none
  | k + 1, .mut j => if j < n0 then none else match st[j]? with
    | some (.lst xs) => if rfL xs then some (.lst xs) else none
    | _ => none
  | _, d => some d
def thawL (st : Sto) (n0 : Nat) : Nat → List D → Option (List D)
  | _, [] => some []
  | k, x :: xs => match thaw st n0 k x, thawL st n0 k xs with
    | some a, some b => some (a :: b)
    | _, _ => none
end
def fz (n0 : Nat) (r : R D) : R D := match r with
  | .ok d st1 => (match rfS (st1.take n0), thaw st1 n0 1 d with
    | true, some d' => .ok d' (st1.take n0)
    | _, _ => .ok d st1)
  | r => r
section
variable {K : PySem.W.Frag} {M : Mem} {H : Hp} {n0 : Nat}
def Mem.cut (M : Mem) (n : Nat) : Mem := ⟨M.m.take n, M.p, M.f⟩
end
def rangeD (lo : Int) (n : Nat) : List D := (List.range n).map fun k => .int (lo + (k : Nat))
@[simp] theorem rangeD_length (lo : Int) (n : Nat) : (rangeD lo n).length = n := by simp [rangeD]
section
variable (env : Env) (st : Sto)
@[simp] theorem varE_0 (d : D) (r : Env) : varE 0 (some d :: r) st = .ok d st := rfl
@[simp] theorem varE_s (n : Nat) (o : Option D) (r : Env) : varE (n + 1) (o :: r) st = varE n r st := by
  unfold varE
  simp only [List.getElem?_cons_succ]
@[simp] theorem cE_eq (d : D) : cE d env st = .ok d st := rfl
@[simp] theorem unE_eq (f : F1) (a : EvE) : unE f a env st = (a env st).bind f := rfl
@[simp] theorem binE_eq (f : F2) (a b : EvE) : binE f a b env st = (a env st).bind fun x s1 => (b env s1).bind fun y s2 => f x y s2 := rfl
@[simp] theorem tstE_eq (a : EvE) : tstE a env st = (a env st).bind boolR := rfl
@[simp] theorem boolR_eq (b : Bool) : boolR (.bl b) st = .ok b st := rfl
@[simp] theorem chainE_eq (f g : F2) (a b c : EvE) : chainE f g a b c env st = (a env st).bind fun x s1 => (b env s1).bind fun y s2 => (f x y s2).bind fun z s3 => match z with
  | .bl true => (c env s3).bind fun v s4 => g y v s4
  | .bl false => .ok (.bl false) s3
  | _ => .fail := rfl
@[simp] theorem andB_eq (p q : EvB) : andB p q env st = (p env st).bind fun b s1 => if b = true then q env s1 else .ok false s1 := rfl
@[simp] theorem orB_eq (p q : EvB) : orB p q env st = (p env st).bind fun b s1 => if b = true then .ok true s1 else q env s1 := rfl
@[simp] theorem notB_eq (p : EvB) : notB p env st = (p env st).bind fun b s1 => .ok (!b) s1 := rfl
@[simp] theorem ifE_eq (t : EvB) (a b : EvE) : ifE t a b env st = (t env st).bind fun x s1 => if x = true then a env s1 else b env s1 := rfl
@[simp] theorem andE_eq (a b : EvE) : andE a b env st = (a env st).bind fun x s1 => match x with
  | .bl true => b env s1
  | .bl false => .ok (.bl false) s1
  | _ => .fail := rfl
@[simp] theorem notE_eq (a : EvE) : notE a env st = (a env st).bind fun x s1 => match x with
  | .bl b => .ok (.bl (!b)) s1
  | _ => .fail := rfl
@[simp] theorem nilA_eq : nilA env st = .ok [] st := rfl
@[simp] theorem consA_eq (a : EvE) (r : EvA) : consA a r env st = (a env st).bind fun x s1 => (r env s1).bind fun xs s2 => .ok (x :: xs) s2 := rfl
@[simp] theorem starA_eq (a : EvE) (r : EvA) : starA a r env st = (a env st).bind fun x s1 => match itemsOf x with
  | some xs => (r env s1).bind fun ys s2 => .ok (xs ++ ys) s2
  | none => .fail := rfl
@[simp] theorem tupE_eq (fs : EvA) : tupE fs env st = (fs env st).bind fun xs s1 => if xs.length ≤ 16777216 then .ok (.tup xs) s1 else .fail := rfl
@[simp] theorem lstE_eq (fs : EvA) : lstE fs env st = (fs env st).bind fun xs s1 => if xs.length ≤ 16777216 then .ok (.lst xs) s1 else .fail := rfl
@[simp] theorem mutE_eq (fs : EvA) : mutE fs env st = (fs env st).bind fun xs s1 => if xs.length ≤ 16777216 then .ok (.mut s1.length) (s1 ++ [.lst xs]) else .fail := rfl
@[simp] theorem callE_eq (f : FA) (fs : EvA) : callE f fs env st = (fs env st).bind f := rfl
@[simp] theorem noO_eq : noO env st = .ok none st := rfl
@[simp] theorem someO_eq (a : EvE) : someO a env st = (a env st).bind fun x s1 => match x with
  | .int i => .ok (some i) s1
  | _ => .fail := rfl
@[simp] theorem sliceE_eq (a : EvE) (l h : EvO) : sliceE a l h env st = (a env st).bind fun x s1 => (l env s1).bind fun l s2 => (h env s2).bind fun h s3 => sliceD x l h s3 := rfl
@[simp] theorem callKE_eq (F : FA) (fs ks : EvA) (n m : Nat) (ix : List Nat) : callKE F fs ks n m ix env st = (fs env st).bind fun us s1 => (ks env s1).bind fun ws s2 => if us.length = n ∧ ws.length = m then F (pick us ws ix) s2 else .fail := rfl
@[simp] theorem methLE_eq (f : FM) (o : EvE) (fs : EvA) : methLE f o fs env st = (o env st).bind fun x s1 => if isL x s1 = true then (fs env s1).bind fun as s2 => f x as s2 else .fail := rfl
@[simp] theorem passS_eq : passS env st = .nx env st := rfl
@[simp] theorem retS_eq (a : EvE) : retS a env st = bindS (a env st) env fun d s1 => .ret d s1 := rfl
@[simp] theorem exprS_eq (a : EvE) : exprS a env st = bindS (a env st) env fun _ s1 => .nx env s1 := rfl
@[simp] theorem ifS_eq (t : EvB) (f g : SvS) : ifS t f g env st = bindS (t env st) env fun b s1 => if b = true then f env s1 else g env s1 := rfl
def thenS (s : S) (g : SvS) : S := match s with
  | .nx e s1 => g e s1
  | s => s
@[simp] theorem seqS_eq (f g : SvS) : seqS f g env st = thenS (f env st) g := by
  unfold seqS thenS
  cases f env st <;> rfl
@[simp] theorem thenS_nx (g : SvS) : thenS (.nx env st) g = g env st := rfl
@[simp] theorem thenS_ret (d : D) (g : SvS) : thenS (.ret d st) g = .ret d st := rfl
@[simp] theorem thenS_ite {c : Prop} [Decidable c] (a b : S) (g : SvS) : thenS (if c then a else b) g = if c then thenS a g else thenS b g := by split <;> rfl
@[simp] theorem asgS_eq (a : EvE) (g : TgF) : asgS a g env st = bindS (a env st) env fun d s1 => bindS (g d env s1) env fun e s2 => .nx e s2 := rfl
@[simp] theorem nameT_eq (i : Nat) (d : D) : nameT i d env st = .ok (env.set i (some d)) st := rfl
@[simp] theorem tupT_eq (n : Nat) (fs : List D → Env → Sto → R Env) (xs : List D) : tupT n fs (.tup xs) env st = if xs.length = n then fs xs env st else .fail := rfl
@[simp] theorem nilT_eq : nilT [] env st = .ok env st := rfl
@[simp] theorem consT_eq (f : TgF) (fs : List D → Env → Sto → R Env) (d : D) (r : List D) : consT f fs (d :: r) env st = match f d env st with
    | .ok e s => (match fs r e s with
      | .ok e2 s2 => .ok e2 s2
      | _ => .fail)
    | _ => .fail := rfl
@[simp] theorem parS_eq (i j : Nat) (fs : EvA) : parS i j fs env st = bindS (fs env st) env fun as s1 => match as with
  | [a, b] => .nx ((env.set i (some a)).set j (some b)) s1
  | _ => .fail := rfl
@[simp] theorem forS_eq (it : EvI) (g : TgF) (body : SvS) : forS it g body env st = bindS (it env st) env fun I s1 => match I with
  | .frz xs => loopF g body xs env s1
  | .gen nxt k => loopG g body nxt k 0 env s1 := rfl
@[simp] theorem tgT_nm (i : Nat) (d : D) : tgT (.nm i) d env st = .ok (env.set i (some d)) st := rfl
@[simp] theorem callI_eq (f : List D → Sto → R ItD) (fs : EvA) : callI f fs env st = (fs env st).bind f := rfl
@[simp] theorem iterE_eq (a : EvE) : iterE a env st = (a env st).bind iterD := rfl
@[simp] theorem iterD_tup (xs : List D) : iterD (.tup xs) st = .ok (.frz xs) st := rfl
@[simp] theorem iterD_lst (xs : List D) : iterD (.lst xs) st = .ok (.frz xs) st := rfl
@[simp] theorem iterD_slo (xs : List D) : iterD (.slo xs) st = .ok (.frz xs) st := rfl
@[simp] theorem range1F_eq (j : Int) : range1F [.int j] st = if j.natAbs < 2 ^ 62 then .ok (.frz (rangeD 0 j.toNat)) st else .fail := rfl
@[simp] theorem range2F_eq (i j : Int) : range2F [.int i, .int j] st = if i.natAbs < 2 ^ 62 ∧ j.natAbs < 2 ^ 62 then .ok (.frz (rangeD i (j - i).toNat)) st else .fail := rfl
@[simp] theorem addD_int (i j : Int) : addD (.int i) (.int j) st = .ok (.int (i + j)) st := rfl
@[simp] theorem subD_int (i j : Int) : subD (.int i) (.int j) st = .ok (.int (i - j)) st := rfl
@[simp] theorem mulD_int (i j : Int) : mulD (.int i) (.int j) st = if mulOk i j then .ok (.int (i * j)) st else .fail := rfl
@[simp] theorem fdivD_int (i j : Int) : fdivD (.int i) (.int j) st = if 0 < j ∧ j.natAbs < big then .ok (.int (i / j)) st else .fail := rfl
@[simp] theorem modD_int (i j : Int) : modD (.int i) (.int j) st = if 0 < j then .ok (.int (i % j)) st else .fail := rfl
@[simp] theorem powD_int (i j : Int) : powD (.int i) (.int j) st = if 0 ≤ j ∧ j ≤ 1000000 ∧ i.natAbs < 2 ^ 64 then .ok (.int (i ^ j.toNat)) st else .fail := rfl
@[simp] theorem negD_int (i : Int) : negD (.int i) st = .ok (.int (-i)) st := rfl
@[simp] theorem ltD_int (i j : Int) : ltD (.int i) (.int j) st = .ok (.bl (decide (i < j))) st := rfl
@[simp] theorem leD_int (i j : Int) : leD (.int i) (.int j) st = .ok (.bl (decide (i ≤ j))) st := rfl
@[simp] theorem gtD_int (i j : Int) : gtD (.int i) (.int j) st = .ok (.bl (decide (j < i))) st := rfl
@[simp] theorem geD_int (i j : Int) : geD (.int i) (.int j) st = .ok (.bl (decide (j ≤ i))) st := rfl
@[simp] theorem eqD_int (i j : Int) : eqD (.int i) (.int j) st = .ok (.bl (decide (i = j))) st := rfl
@[simp] theorem neD_int (i j : Int) : neD (.int i) (.int j) st = .ok (.bl (!decide (i = j))) st := rfl
@[simp] theorem absF_int (i : Int) : absF [.int i] st = .ok (.int (if i < 0 then -i else i)) st := rfl
@[simp] theorem intF_int (i : Int) : intF [.int i] st = .ok (.int i) st := rfl
@[simp] theorem maxF_int (i j : Int) : maxF [.int i, .int j] st = .ok (.int (if j > i then j else i)) st := rfl
@[simp] theorem minF_int (i j : Int) : minF [.int i, .int j] st = .ok (.int (if j < i then j else i)) st := rfl
@[simp] theorem divmodF_int (i j : Int) : divmodF [.int i, .int j] st = if 0 < j ∧ (j < 1073741824 ∨ i.natAbs < big ∨ j.natAbs < big) then .ok (.tup [.int (i / j), .int (i % j)]) st else .fail := rfl
@[simp] theorem lenF_tup (xs : List D) : lenF [.tup xs] st = .ok (.int xs.length) st := rfl
@[simp] theorem lenF_lst (xs : List D) : lenF [.lst xs] st = .ok (.int xs.length) st := rfl
@[simp] theorem lenF_slo (xs : List D) : lenF [.slo xs] st = .ok (.int xs.length) st := rfl
@[simp] theorem listF_tup (xs : List D) : listF [.tup xs] st = .ok (.lst xs) st := rfl
@[simp] theorem listF_lst (xs : List D) : listF [.lst xs] st = .ok (.lst xs) st := rfl
@[simp] theorem tupleF_tup (xs : List D) : tupleF [.tup xs] st = .ok (.tup xs) st := rfl
@[simp] theorem tupleF_lst (xs : List D) : tupleF [.lst xs] st = .ok (.tup xs) st := rfl
@[simp] theorem sumF_ints (ns : List Int) : sumF [.lst (ns.map D.int)] st = .ok (.int ns.sum) st := by
  show (match (some (ns.map D.int)).bind intsOf with
    | some ns => R.ok (D.int ns.sum) st
    | none => .fail) = _
  simp
@[simp] theorem allF_bools (ns : List Bool) : allF [.lst (ns.map D.bl)] st = .ok (.bl (ns.all id)) st := by
  show (match (some (ns.map D.bl)).bind boolsOf with
    | some ns => R.ok (D.bl (ns.all id)) st
    | none => .fail) = _
  simp
@[simp] theorem anyF_bools (ns : List Bool) : anyF [.lst (ns.map D.bl)] st = .ok (.bl (ns.any id)) st := by
  show (match (some (ns.map D.bl)).bind boolsOf with
    | some ns => R.ok (D.bl (ns.any id)) st
    | none => .fail) = _
  simp
@[simp] theorem sliceD_tup (xs : List D) (l h : Option Int) : sliceD (.tup xs) l h st = .ok (.tup (cutD xs l h)) st := rfl
@[simp] theorem sliceD_lst (xs : List D) (l h : Option Int) : sliceD (.lst xs) l h st = .ok (.lst (cutD xs l h)) st := rfl
@[simp] theorem sliceD_slo (xs : List D) (l h : Option Int) : sliceD (.slo xs) l h st = .ok (.lst (cutD xs l h)) st := rfl
@[simp] theorem itemsOf_tup (xs : List D) : itemsOf (.tup xs) = some xs := rfl
@[simp] theorem itemsOf_lst (xs : List D) : itemsOf (.lst xs) = some xs := rfl
@[simp] theorem isiD_int (c : Tag) (i : Int) : isiD c (.int i) st = .ok (.bl (isiB .int c)) st := rfl
@[simp] theorem isiD_bl (c : Tag) (i : Bool) : isiD c (.bl i) st = .ok (.bl (isiB .bl c)) st := rfl
@[simp] theorem isiD_str (c : Tag) (i : Str) : isiD c (.str i) st = .ok (.bl (isiB .str c)) st := rfl
@[simp] theorem isiD_non (c : Tag) : isiD c .non st = .ok (.bl (isiB .non c)) st := rfl
@[simp] theorem isiD_tup (c : Tag) (xs : List D) : isiD c (.tup xs) st = .ok (.bl (isiB .tup c)) st := rfl
@[simp] theorem isiD_lst (c : Tag) (xs : List D) : isiD c (.lst xs) st = .ok (.bl (isiB .lst c)) st := rfl
end
theorem ixD_tup (xs : List D) (i : Int) (st : Sto) {d : D} (h : L2.atI xs i = some d) : ixD (.tup xs) (.int i) st = .ok d st := by
  show (match (some xs).bind fun xs => L2.atI xs i with
      | some d => R.ok d st
      | none => .fail) = _
  simp [h]
theorem ixD_lst (xs : List D) (i : Int) (st : Sto) {d : D} (h : L2.atI xs i = some d) : ixD (.lst xs) (.int i) st = .ok d st := by
  show (match (some xs).bind fun xs => L2.atI xs i with
      | some d => R.ok d st
      | none => .fail) = _
  simp [h]
theorem ixD_slo (xs : List D) (i : Int) (st : Sto) {d : D} (h : L2.atI xs i = some d) : ixD (.slo xs) (.int i) st = .ok d st := by
  show (match (some xs).bind fun xs => L2.atI xs i with
      | some d => R.ok d st
      | none => .fail) = _
  simp [h]
theorem ixD_mut (n : Nat) (xs : List D) (i : Int) (st : Sto) {d : D} (hn : st[n]? = some (.lst xs)) (h : L2.atI xs i = some d) : ixD (.mut n) (.int i) st = .ok d st := by
  have e : seqOf (.mut n) st = some xs := by simp [seqOf, hn]
  show (match (seqOf (.mut n) st).bind fun xs => L2.atI xs i with
      | some d => R.ok d st
      | none => .fail) = _
  simp [e, h]
end G
namespace G
open PySem PySem.Spec PyProof.Rows L2
def tupI (ts : List Int) : D := .tup (ts.map D.int)
def lstI (ts : List Int) : D := .lst (ts.map D.int)
def lstB (ts : List Bool) : D := .lst (ts.map D.bl)
@[simp] theorem cutD_from (xs : List D) (m : Nat) : cutD xs (some (m : Int)) none = xs.drop m := by
  unfold cutD
  rw [HT.sIx_nat, HT.sIx_none]
  by_cases h : m ≤ xs.length
  · rw [Nat.min_eq_left h, List.take_of_length_le (by simp)]
  · rw [Nat.min_eq_right (by omega), List.drop_of_length_le (Nat.le_refl _), List.drop_of_length_le (by omega)]
    simp
@[simp] theorem cutD_to (xs : List D) (m : Nat) : cutD xs none (some (m : Int)) = xs.take m := by
  unfold cutD
  rw [HT.sIx_nat, HT.sIx_none, List.drop_zero, Nat.sub_zero]
  by_cases h : m ≤ xs.length
  · rw [Nat.min_eq_left h]
  · rw [Nat.min_eq_right (by omega), List.take_of_length_le (Nat.le_refl _), List.take_of_length_le (by omega)]
@[simp] theorem cutD_both (xs : List D) (a b : Nat) : cutD xs (some (a : Int)) (some (b : Int)) = (xs.drop a).take (b - a) := by
  unfold cutD
  rw [HT.sIx_nat, HT.sIx_nat]
  apply List.ext_getElem?
  intro i
  rw [List.getElem?_take, List.getElem?_take, List.getElem?_drop, List.getElem?_drop]
  by_cases h1 : a ≤ xs.length
  · rw [show min a xs.length = a by omega]
    by_cases h2 : b ≤ xs.length
    · rw [show min b xs.length = b by omega]
    · rw [show min b xs.length = xs.length by omega]
      by_cases h3 : a + i < xs.length
      · rw [if_pos (by omega), if_pos (by omega)]
      · rw [List.getElem?_eq_none (by omega)]; simp
  · rw [show min a xs.length = xs.length by omega]
    have e1 : xs[xs.length + i]? = none := List.getElem?_eq_none (by omega)
    have e2 : xs[a + i]? = none := List.getElem?_eq_none (by omega)
    rw [e1, e2]
    simp
theorem atI_nat' {α : Type} (xs : List α) (i : Nat) (h : i < xs.length) : L2.atI xs (i : Int) = some xs[i] := by
  unfold L2.atI L2.ixN
  rw [if_pos (by omega), if_pos (by omega)]
  simp [h]
theorem atI_map {α β : Type} (f : α → β) (xs : List α) (i : Int) : L2.atI (xs.map f) i = (L2.atI xs i).map f := by
  unfold L2.atI
  rw [List.length_map]
  cases L2.ixN xs.length i with
  | none => rfl
  | some j => simp
theorem atI_emod {ts : List Int} {i : Int} (h : 0 ≤ i) (hl : i < ts.length) : L2.atI (ts.map D.int) i = some (.int (ts.getD i.toNat 0)) := by
  obtain ⟨k, rfl⟩ := Int.eq_ofNat_of_zero_le h
  rw [atI_map, atI_nat' ts k (by omega)]
  have hk : k < ts.length := by omega
  simp [List.getD, hk]
def cutL {α : Type} (xs : List α) (lo hi : Option Int) : List α := (xs.drop (HT.sIx xs.length 0 lo)).take (HT.sIx xs.length xs.length hi - HT.sIx xs.length 0 lo)
theorem cutD_map {α : Type} (f : α → D) (xs : List α) (lo hi : Option Int) : cutD (xs.map f) lo hi = (cutL xs lo hi).map f := by
  unfold cutD cutL
  rw [List.length_map, List.map_take, List.map_drop]
theorem cutL_from {α : Type} (xs : List α) (m : Nat) : cutL xs (some (m : Int)) none = xs.drop m := by
  unfold cutL
  rw [HT.sIx_nat, HT.sIx_none]
  by_cases h : m ≤ xs.length
  · rw [Nat.min_eq_left h, List.take_of_length_le (by simp)]
  · rw [Nat.min_eq_right (by omega), List.drop_of_length_le (Nat.le_refl _), List.drop_of_length_le (by omega)]
    simp
theorem cutL_to {α : Type} (xs : List α) (m : Nat) : cutL xs none (some (m : Int)) = xs.take m := by
  unfold cutL
  rw [HT.sIx_nat, HT.sIx_none, List.drop_zero, Nat.sub_zero]
  by_cases h : m ≤ xs.length
  · rw [Nat.min_eq_left h]
  · rw [Nat.min_eq_right (by omega), List.take_of_length_le (Nat.le_refl _), List.take_of_length_le (by omega)]
section
variable (st : Sto) (ts : List Int)
@[simp] theorem lenF_tupI : lenF [tupI ts] st = .ok (.int ts.length) st := by unfold tupI; rw [lenF_tup, List.length_map]
@[simp] theorem lenF_lstI : lenF [lstI ts] st = .ok (.int ts.length) st := by unfold lstI; rw [lenF_lst, List.length_map]
@[simp] theorem listF_tupI : listF [tupI ts] st = .ok (lstI ts) st := rfl
@[simp] theorem listF_lstI : listF [lstI ts] st = .ok (lstI ts) st := rfl
@[simp] theorem tupleF_tupI : tupleF [tupI ts] st = .ok (tupI ts) st := rfl
@[simp] theorem tupleF_lstI : tupleF [lstI ts] st = .ok (tupI ts) st := rfl
@[simp] theorem sumF_tupI : sumF [tupI ts] st = .ok (.int ts.sum) st := by
  show (match (seqOf (D.tup (ts.map D.int)) st).bind intsOf with | some ns => _ | none => _) = _
  simp [seqOf, itemsOf]
@[simp] theorem sumF_lstI : sumF [lstI ts] st = .ok (.int ts.sum) st := sumF_ints st ts
@[simp] theorem sliceD_tupI (l h : Option Int) : sliceD (tupI ts) l h st = .ok (tupI (cutL ts l h)) st := by unfold tupI; rw [sliceD_tup, cutD_map]
@[simp] theorem sliceD_lstI (l h : Option Int) : sliceD (lstI ts) l h st = .ok (lstI (cutL ts l h)) st := by unfold lstI; rw [sliceD_lst, cutD_map]
@[simp] theorem itemsOf_tupI : itemsOf (tupI ts) = some (ts.map D.int) := rfl
@[simp] theorem itemsOf_lstI : itemsOf (lstI ts) = some (ts.map D.int) := rfl
@[simp] theorem iterD_tupI : iterD (tupI ts) st = .ok (.frz (ts.map D.int)) st := rfl
@[simp] theorem iterD_lstI : iterD (lstI ts) st = .ok (.frz (ts.map D.int)) st := rfl
@[simp] theorem isiD_tupI (c : Tag) : isiD c (tupI ts) st = .ok (.bl (isiB .tup c)) st := rfl
@[simp] theorem isiD_lstI (c : Tag) : isiD c (lstI ts) st = .ok (.bl (isiB .lst c)) st := rfl
@[simp] theorem allF_lstB (bs : List Bool) : allF [lstB bs] st = .ok (.bl (bs.all id)) st := allF_bools st bs
@[simp] theorem anyF_lstB (bs : List Bool) : anyF [lstB bs] st = .ok (.bl (bs.any id)) st := anyF_bools st bs
theorem ixD_tupI (i : Int) (h : 0 ≤ i) (hl : i < ts.length) : ixD (tupI ts) (.int i) st = .ok (.int (ts.getD i.toNat 0)) st := ixD_tup _ _ _ (atI_emod h hl)
theorem divmodF_nat (n m : Nat) (h : 0 < m) (h2 : m < 1073741824 ∨ n < big) : divmodF [.int n, .int m] st = .ok (.tup [.int (n / m : Nat), .int (n % m : Nat)]) st := by
  rw [divmodF_int, if_pos ⟨by omega, h2.imp (fun z => by omega) (fun z => .inl (by simpa using z))⟩]; rfl
end
theorem loopF_nx {g : TgF} {body : SvS} (Inv : Nat → Env → Sto → Prop) : ∀ (xs : List D) (i : Nat) (env : Env) (st : Sto), Inv i env st →
    (∀ j x env st, xs[j]? = some x → Inv (i + j) env st → ∃ env' st', turnS (bindS (g x env st) env body) (fun e s => .nx e s) = .nx env' st' ∧ (∀ k, turnS (bindS (g x env st) env body) k = k env' st') ∧ Inv (i + j + 1) env' st') →
    ∃ env' st', loopF g body xs env st = .nx env' st' ∧ Inv (i + xs.length) env' st'
  | [], i, env, st, h0, _ => ⟨env, st, rfl, h0⟩
  | x :: xs, i, env, st, h0, hs => by
    obtain ⟨e1, s1, _, t1, h1⟩ := hs 0 x env st rfl h0
    obtain ⟨e2, s2, t2, h2⟩ := loopF_nx Inv xs (i + 1) e1 s1 h1 fun j y e s hj hI => by
      have := hs (j + 1) y e s (by simpa using hj) (by rw [show i + (j + 1) = i + 1 + j by omega]; exact hI)
      rw [show i + (j + 1) + 1 = i + 1 + j + 1 by omega] at this
      exact this
    refine ⟨e2, s2, ?_, by rw [show i + (x :: xs).length = i + 1 + xs.length by simp; omega]; exact h2⟩
    unfold loopF
    rw [t1]; exact t2
theorem loop_nx {g : TgF} {body : SvS} (Inv : Nat → Env → Sto → Prop) {xs : List D} {env : Env} {st : Sto} (h0 : Inv 0 env st)
    (hs : ∀ j x env st, xs[j]? = some x → Inv j env st → ∃ env' st', bindS (g x env st) env body = .nx env' st' ∧ Inv (j + 1) env' st') :
    ∃ env' st', loopF g body xs env st = .nx env' st' ∧ Inv xs.length env' st' := by
  have := loopF_nx (g := g) (body := body) Inv xs 0 env st h0 fun j x e s hj hI => by
    rw [Nat.zero_add] at hI ⊢
    obtain ⟨e1, s1, t1, h1⟩ := hs j x e s hj hI
    exact ⟨e1, s1, by rw [t1]; rfl, fun k => by rw [t1]; rfl, h1⟩
  simpa using this
theorem range_get {n i : Nat} {lo : Int} {x : D} (h : (rangeD lo n)[i]? = some x) : x = .int (lo + i) ∧ i < n := by
  unfold rangeD at h
  rw [List.getElem?_map] at h
  obtain ⟨k, hk, rfl⟩ := Option.map_eq_some_iff.mp h
  obtain ⟨h1, h2⟩ := List.getElem?_eq_some_iff.mp hk
  simp at h1 h2
  subst h2
  exact ⟨rfl, h1⟩
theorem lc_inv {t : Tg} {tt : EvB} {fe : EvE} {envw : Env} (Inv : Nat → Sto → List D → Prop) : ∀ (xs : List D) (i : Nat) (st : Sto) (acc : List D), Inv i st acc →
    (∀ j x st acc, xs[j]? = some x → Inv (i + j) st acc → ∃ st' acc', (∀ k, turnC t tt fe envw x st acc k = k st' acc') ∧ Inv (i + j + 1) st' acc') →
    ∃ st' acc', lcF t tt fe envw xs st acc = .ok acc' st' ∧ Inv (i + xs.length) st' acc'
  | [], i, st, acc, h0, _ => ⟨st, acc, rfl, h0⟩
  | x :: xs, i, st, acc, h0, hs => by
    obtain ⟨s1, a1, t1, h1⟩ := hs 0 x st acc rfl h0
    obtain ⟨s2, a2, t2, h2⟩ := lc_inv Inv xs (i + 1) s1 a1 h1 fun j y s a hj hI => by
      have := hs (j + 1) y s a (by simpa using hj) (by rw [show i + (j + 1) = i + 1 + j by omega]; exact hI)
      rw [show i + (j + 1) + 1 = i + 1 + j + 1 by omega] at this
      exact this
    refine ⟨s2, a2, ?_, by rw [show i + (x :: xs).length = i + 1 + xs.length by simp; omega]; exact h2⟩
    unfold lcF
    rw [t1]; exact t2
theorem turnC_yes {t : Tg} {fe : EvE} {envw env1 : Env} {x y : D} {st st' : Sto} {acc : List D} {k : Sto → List D → R (List D)} (h1 : t.set x envw = some env1) (h2 : fe env1 st = .ok y st') (h3 : acc.length < 16777216) :
    turnC t yesB fe envw x st acc k = k st' (acc ++ [y]) := by
  unfold turnC yesB noX
  simp [h1, h2, h3, R.bind]
theorem lc_map {t : Tg} {fe : EvE} {envw : Env} {st : Sto} (h : D → D) : ∀ (xs : List D) (acc : List D), (acc.length + xs.length ≤ 16777216) →
    (∀ x ∈ xs, ∃ env1, t.set x envw = some env1 ∧ fe env1 st = .ok (h x) st) → lcF t yesB fe envw xs st acc = .ok (acc ++ xs.map h) st
  | [], acc, _, _ => by simp [lcF]
  | x :: xs, acc, hl, hx => by
    obtain ⟨env1, h1, h2⟩ := hx x List.mem_cons_self
    simp only [List.length_cons] at hl
    unfold lcF
    rw [turnC_yes h1 h2 (by omega), lc_map h xs (acc ++ [h x]) (by simp; omega) fun y hy => hx y (List.mem_cons_of_mem _ hy)]
    simp
theorem turnC_if {t : Tg} {tt : EvB} {fe : EvE} {envw env1 : Env} {x y : D} {st : Sto} {b : Bool} {acc : List D} {k : Sto → List D → R (List D)} (h1 : t.set x envw = some env1) (ht : tt env1 st = .ok b st) (h2 : b = true → fe env1 st = .ok y st) (h3 : acc.length < 16777216) :
    turnC t tt fe envw x st acc k = k st (if b = true then acc ++ [y] else acc) := by
  unfold turnC noX
  cases b with
  | false => simp [h1, ht, R.bind]
  | true => simp [h1, ht, h2 rfl, h3, R.bind]
@[simp] theorem lcE_eq (it : EvI) (t : Tg) (tt : EvB) (fe : EvE) (vs : List Nat) (env : Env) (st : Sto) : lcE it t tt fe vs env st = ((it env st).bind fun I st1 => match I with
  | .frz xs => lcF t tt fe (wipeE env vs) xs st1 []
  | .gen nxt k => lcG t tt fe (wipeE env vs) nxt k 0 st1 []).bind fun xs st1 => .ok (.lst xs) st1 := rfl
@[simp] theorem wipeE_nil (env : Env) : wipeE env [] = env := rfl
@[simp] theorem wipeE_cons (env : Env) (v : Nat) (vs : List Nat) : wipeE env (v :: vs) = (wipeE env vs).set v none := rfl
@[simp] theorem Tg_nm (i : Nat) (d : D) (env : Env) : Tg.set (.nm i) d env = some (env.set i (some d)) := by simp [Tg.set]
def Pool (n : Nat) (st : Sto) : Prop := ∃ a b c : Int, st[n]? = some (.lst [.int a, .int b, .int c])
def Eff (n : Nat) (st st' : Sto) : Prop := st'.length = st.length ∧ ∀ k, k ≠ n → st'[k]? = st[k]?
theorem Eff.refl {n : Nat} {st : Sto} : Eff n st st := ⟨rfl, fun _ _ => rfl⟩
theorem Eff.trans {n : Nat} {s1 s2 s3 : Sto} (a : Eff n s1 s2) (b : Eff n s2 s3) : Eff n s1 s3 := ⟨b.1.trans a.1, fun k h => (b.2 k h).trans (a.2 k h)⟩
theorem Eff.set {n : Nat} {st : Sto} {mo : MO} : Eff n st (st.set n mo) := ⟨by simp, fun k h => List.getElem?_set_ne (fun e => h e.symm)⟩
theorem setD_mut {n : Nat} {st : Sto} {xs : List D} {k : Int} {d : D} {j : Nat} (h : st[n]? = some (.lst xs)) (hj : L2.ixN xs.length k = some j) : setD (.mut n) (.int k) d st = some (st.set n (.lst (xs.set j d))) := by
  simp [setD, h, hj]
end G
namespace G
open PySem PySem.Spec PyProof.Rows L2
@[simp] theorem subT_eq (fo fi : EvE) (d : D) (env : Env) (st : Sto) : subT fo fi d env st = (fo env st).bind fun o s1 => (fi env s1).bind fun i s2 => match setD o i d s2 with
  | some s3 => .ok env s3
  | none => .fail := rfl
section
variable {st : Sto} {n : Nat}
theorem p_ix0 {x y z : D} (h : st[n]? = some (.lst [x, y, z])) : ixD (.mut n) (.int 0) st = .ok x st := ixD_mut n _ 0 st h rfl
theorem p_ix1 {x y z : D} (h : st[n]? = some (.lst [x, y, z])) : ixD (.mut n) (.int 1) st = .ok y st := ixD_mut n _ 1 st h rfl
theorem p_ix2 {x y z : D} (h : st[n]? = some (.lst [x, y, z])) : ixD (.mut n) (.int 2) st = .ok z st := ixD_mut n _ 2 st h rfl
theorem p_set0 {x y z : D} (h : st[n]? = some (.lst [x, y, z])) (d : D) : setD (.mut n) (.int 0) d st = some (st.set n (.lst [d, y, z])) := setD_mut (j := 0) h rfl
theorem p_set1 {x y z : D} (h : st[n]? = some (.lst [x, y, z])) (d : D) : setD (.mut n) (.int 1) d st = some (st.set n (.lst [x, d, z])) := setD_mut (j := 1) h rfl
theorem p_set2 {x y z : D} (h : st[n]? = some (.lst [x, y, z])) (d : D) : setD (.mut n) (.int 2) d st = some (st.set n (.lst [x, y, d])) := setD_mut (j := 2) h rfl
theorem p_get (h : n < st.length) (mo : MO) : (st.set n mo)[n]? = some mo := by simp [h]
end
end G
namespace G
section
variable (st : Sto)
@[simp] theorem isND_non : isND .non .non st = .ok (.bl true) st := rfl
@[simp] theorem isND_int (i : Int) : isND (.int i) .non st = .ok (.bl false) st := rfl
@[simp] theorem isND_bl (i : Bool) : isND (.bl i) .non st = .ok (.bl false) st := rfl
@[simp] theorem isND_str (i : PySem.Str) : isND (.str i) .non st = .ok (.bl false) st := rfl
@[simp] theorem isND_tup (i : List D) : isND (.tup i) .non st = .ok (.bl false) st := rfl
@[simp] theorem isND_lst (i : List D) : isND (.lst i) .non st = .ok (.bl false) st := rfl
@[simp] theorem isND_tupI (i : List Int) : isND (tupI i) .non st = .ok (.bl false) st := rfl
@[simp] theorem eqD_bl (i j : Bool) : eqD (.bl i) (.bl j) st = .ok (.bl (decide (i = j))) st := rfl
@[simp] theorem neD_bl (i j : Bool) : neD (.bl i) (.bl j) st = .ok (.bl (!decide (i = j))) st := rfl
end
end G
namespace G
open PySem
theorem mulOk_lit {i j : Int} (h : j.natAbs < 2 ^ 64) : mulOk i j := .inr (.inl h)
theorem mulOk_lit' {i j : Int} (h : i.natAbs < 2 ^ 64) : mulOk i j := .inl h
def Below (F : FA) : Prop := ∀ {st : Sto} {n : Nat} {m : Int}, Pool n st → 0 < m → m < 1073741824 → ∃ v st', F [.mut n, .int m] st = .ok (.int v) st' ∧ 0 ≤ v ∧ v < m ∧ Pool n st' ∧ Eff n st st'
end G
namespace G
open PySem
theorem Eff.pool {n m : Nat} {st st' : Sto} (e : Eff n st st') (h : m ≠ n) (p : Pool m st) : Pool m st' := by
  obtain ⟨a, b, c, p⟩ := p
  exact ⟨a, b, c, (e.2 m h).trans p⟩
def Track (F : FA) (most : Int) : Prop := ∀ {st : Sto} {n : Nat} {w : Int}, Pool n st → 1 ≤ w → ∃ ts st', F [.mut n, .int w] st = .ok (tupI ts) st' ∧ 1 ≤ ts.length ∧ (ts.length : Int) ≤ most ∧ (∀ x ∈ ts, 1 ≤ x ∧ x ≤ w) ∧ Pool n st' ∧ Eff n st st'
def oneA (FB : FA) : SvS := retS (binE ixD (varE 1) (callE FB (consA (varE 0) (consA (callE lenF (consA (varE 1) (nilA))) (nilA)))))
def One (F : FA) : Prop := ∀ {st : Sto} {n : Nat} {xs : List D}, Pool n st → xs ≠ [] → xs.length < 1000000 → ∃ d st', F [.mut n, .tup xs] st = .ok d st' ∧ d ∈ xs ∧ Pool n st' ∧ Eff n st st'
theorem oneA_ok {FB : FA} (hB : Below FB) : One (runF 2 2 (oneA FB)) := by
  intro st n xs hp h1 h2
  have hl : 0 < xs.length := List.length_pos_iff.mpr h1
  obtain ⟨v, s1, e1, v0, v1, hp1, he1⟩ := hB (m := xs.length) hp (by omega) (by omega)
  obtain ⟨k, rfl⟩ := Int.eq_ofNat_of_zero_le v0
  have hk : k < xs.length := by omega
  refine ⟨xs[k], s1, ?_, List.getElem_mem hk, hp1, he1⟩
  simp [runF, oneA, e1, ixD_tup _ _ s1 (atI_nat' xs k hk)]
def MkPool (F : FA) : Prop := ∀ {st : Sto} {ns : List Int} {k : Nat}, ∃ a b c : Int, F [.slo (ns.map D.int), .int k] st = .ok (.mut st.length) (st ++ [.lst [.int a, .int b, .int c]])
end G
namespace G
open PySem
theorem pool_new {st : Sto} {a b c : Int} : Pool st.length (st ++ [.lst [.int a, .int b, .int c]]) := ⟨a, b, c, by simp⟩
def Right (F : FA) : Prop := ∀ {st : Sto} {n : Nat}, Pool n st → ∃ st', F [.mut n] st = .ok (.bl true) st'
end G
namespace G
open PySem PySem.Spec PyProof.Rows L2
section
variable (k : Env → Sto → S)
@[simp] theorem turnS_nx (env : Env) (st : Sto) : turnS (.nx env st) k = k env st := rfl
@[simp] theorem turnS_ret (d : D) (st : Sto) : turnS (.ret d st) k = .ret d st := rfl
end
@[simp] theorem loopF_nil (g : TgF) (body : SvS) (env : Env) (st : Sto) : loopF g body [] env st = .nx env st := rfl
@[simp] theorem loopF_cons (g : TgF) (body : SvS) (x : D) (xs : List D) (env : Env) (st : Sto) : loopF g body (x :: xs) env st = turnS (bindS (g x env st) env body) (loopF g body xs) := rfl
@[simp] theorem parS3_eq (i j k : Nat) (fs : EvA) (env : Env) (st : Sto) : parS3 i j k fs env st = bindS (fs env st) env fun as st1 => match as with
  | [a, b, c] => .nx (((env.set i (some a)).set j (some b)).set k (some c)) st1
  | _ => .fail := rfl
def notBD : F2 := fun a b st => match a, b with
  | .bl x, .bl y => .ok (.bl (!decide (x = y))) st
  | _, _ => .fail
def inO (a b : D) (st : Sto) : Option Bool := match toPD a, (seqOf b st).bind toPDs with
  | some d, some ds => if SeqAt.shaped d = true ∧ SeqAt.shaped (.list ds) = true then some (ds.any fun z => PyData.eqv z d) else none
  | _, _ => none
def inD : F2 := fun a b st => match inO a b st with
  | some k => .ok (.bl k) st
  | none => .fail
def notInD : F2 := fun a b st => match inO a b st with
  | some k => .ok (.bl (!k)) st
  | none => .fail
section
variable {K : PySem.W.Frag} {M : Mem} {H : Hp}
theorem v_notB : OpV K rNotB notBD := by
  intro a b x y M H st Q E ra rb so p
  unfold notBD at p
  split at p
  · unfold Rep at ra rb; subst ra rb
    exact ⟨_, _, rfl, rfl, p M H _ .refl so (rep_bl _ _ _)⟩
  · exact p.elim
def rInB (K : PySem.W.Frag) : R2 := fun x y H Q => ∃ d ds, Dp K H x d ∧ (Dp K H y (.list ds) ∨ Dp K H y (.tuple ds)) ∧ SeqAt.shaped d = true ∧ SeqAt.shaped (.list ds) = true ∧ Q (.bl (ds.any fun z => PyData.eqv z d)) H
theorem inO_rep {a b : D} {st : Sto} {k : Bool} {x y : V} (h : inO a b st = some k) (ra : Rep K M H a x) (rb : Rep K M H b y) (so : StOk K M H st) :
    ∃ d ds, Dp K H x d ∧ (Dp K H y (.list ds) ∨ Dp K H y (.tuple ds)) ∧ SeqAt.shaped d = true ∧ SeqAt.shaped (.list ds) = true ∧ k = ds.any fun z => PyData.eqv z d := by
  unfold inO at h
  split at h
  · rename_i d ds h1 h2
    split at h
    · rename_i hs
      cases h
      obtain ⟨xs, e1, e2⟩ := Option.bind_eq_some_iff.mp h2
      obtain ⟨t, vs, rfl, q, s⟩ := seqOf_rep so e1 rb
      refine ⟨d, ds, toPD_rep h1 ra, ?_, hs.1, hs.2, rfl⟩
      rcases s with s | s
      · exact .inr (.tup s (toPDs_rep e2 q))
      · exact .inl (.lst s (toPDs_rep e2 q))
    · cases h
  · cases h
theorem v_in : OpV K (rInB K) inD := by
  intro a b x y M H st Q E ra rb so p
  unfold inD at p
  split at p
  · rename_i k h
    obtain ⟨d, ds, h1, h2, h3, h4, rfl⟩ := inO_rep h ra rb so
    exact ⟨d, ds, h1, h2, h3, h4, p M H _ .refl so (rep_bl _ _ _)⟩
  · exact p.elim
end
section
variable {X : Cx}
theorem room65 {k : Nat} {A : Around} (r : RoomG k A) : A.units + 65 < cLine := by have := r.un; omega
theorem o_in (hu : X.A.units + 65 < cLine) : OpR X (compareOp .In) (rInB X.K) := by
  intro pins s σ H x y v u Q I rx ry h
  obtain ⟨d, ds, hd, he, sd, se, q⟩ := h
  obtain ⟨as, r1⟩ := Dp.reads I d x v hd rx
  rcases he with he | he
  · obtain ⟨bs, r2⟩ := Dp.reads I (.list ds) y u he ry
    exact SeqAt.in_list_reads r2 r1 (SeqAt.canLay_of_shaped se) (SeqAt.canLay_of_shaped sd) (room_in_shaped sd hu) ⟨.bl _, H, I, rfl, q⟩
  · obtain ⟨bs, r2⟩ := Dp.reads I (.tuple ds) y u he ry
    exact SeqAt.in_tuple_reads r2 r1 (SeqAt.canLay_of_shaped se) (SeqAt.canLay_of_shaped sd) (room_in_shaped sd hu) ⟨.bl _, H, I, rfl, q⟩
end
section
variable (st : Sto)
@[simp] theorem intF_bl (b : Bool) : intF [.bl b] st = .ok (.int (if b = true then 1 else 0)) st := rfl
@[simp] theorem notBD_bl (x y : Bool) : notBD (.bl x) (.bl y) st = .ok (.bl (!decide (x = y))) st := rfl
@[simp] theorem toPDs_ints : ∀ ns : List Int, toPDs (ns.map D.int) = some (ns.map PyData.int)
  | [] => by simp [toPDs]
  | n :: ns => by simp [toPDs, toPD, toPDs_ints ns]
theorem canLayAll_ints : ∀ ns : List Int, PyData.canLayAll0 (ns.map PyData.int) = true
  | [] => by simp [PyData.canLayAll0]
  | n :: ns => by simp [PyData.canLayAll0, PyData.canLay0, canLayAll_ints ns]
theorem depthAll_ints : ∀ ns : List Int, PyData.depthAll (ns.map PyData.int) = 0
  | [] => by simp [PyData.depthAll]
  | n :: ns => by simp [PyData.depthAll, PyData.depth, depthAll_ints ns]
theorem shaped_ints (ns : List Int) : SeqAt.shaped (.list (ns.map PyData.int)) = true := by
  simp [SeqAt.shaped, PyData.canLay0, canLayAll_ints, PyData.depth, depthAll_ints]
theorem inO_ints (i : Int) (b : D) (ns : List Int) (h : seqOf b st = some (ns.map D.int)) : inO (.int i) b st = some (decide (i ∈ ns)) := by
  unfold inO
  rw [h, Option.bind_some, toPDs_ints]
  show (if SeqAt.shaped (.int i) = true ∧ SeqAt.shaped (.list (ns.map PyData.int)) = true then _ else _) = _
  rw [if_pos ⟨by simp [SeqAt.shaped, PyData.canLay0, PyData.depth], shaped_ints ns⟩, List.any_map]
  congr 1
  rw [Bool.eq_iff_iff]
  simp only [List.any_eq_true, Function.comp, decide_eq_true_iff]
  constructor
  · rintro ⟨x, hx, e⟩
    have : x = i := by simpa [PyData.eqv] using e
    exact this ▸ hx
  · exact fun h => ⟨i, h, by simp [PyData.eqv]⟩
theorem inD_ints (i : Int) (b : D) (ns : List Int) (h : seqOf b st = some (ns.map D.int)) : inD (.int i) b st = .ok (.bl (decide (i ∈ ns))) st := by
  unfold inD; rw [inO_ints st i b ns h]
theorem notInD_ints (i : Int) (b : D) (ns : List Int) (h : seqOf b st = some (ns.map D.int)) : notInD (.int i) b st = .ok (.bl (!decide (i ∈ ns))) st := by
  unfold notInD; rw [inO_ints st i b ns h]
@[simp] theorem inD_tupI (i : Int) (ns : List Int) : inD (.int i) (tupI ns) st = .ok (.bl (decide (i ∈ ns))) st := inD_ints st i _ ns rfl
@[simp] theorem inD_lstI (i : Int) (ns : List Int) : inD (.int i) (lstI ns) st = .ok (.bl (decide (i ∈ ns))) st := inD_ints st i _ ns rfl
@[simp] theorem notInD_tupI (i : Int) (ns : List Int) : notInD (.int i) (tupI ns) st = .ok (.bl (!decide (i ∈ ns))) st := notInD_ints st i _ ns rfl
@[simp] theorem notInD_lstI (i : Int) (ns : List Int) : notInD (.int i) (lstI ns) st = .ok (.bl (!decide (i ∈ ns))) st := notInD_ints st i _ ns rfl
@[simp] theorem notInD_tup2 (i a b : Int) : notInD (.int i) (.tup [.int a, .int b]) st = .ok (.bl (!decide (i = a ∨ i = b))) st := by
  rw [notInD_ints st i _ [a, b] rfl]; simp
@[simp] theorem inD_tup2 (i a b : Int) : inD (.int i) (.tup [.int a, .int b]) st = .ok (.bl (decide (i = a ∨ i = b))) st := by
  rw [inD_ints st i _ [a, b] rfl]; simp
end
end G
namespace G
open PySem PySem.Spec PyProof.Rows L2 HT
def revE (fa : EvE) : EvE := fun env st => (fa env st).bind fun a st1 => match a with
  | .tup xs => .ok (.tup xs.reverse) st1
  | a => match seqOf a st1 with
    | some xs => .ok (.lst xs.reverse) st1
    | none => .fail
@[simp] theorem revE_eq (fa : EvE) (env : Env) (st : Sto) : revE fa env st = (fa env st).bind fun a st1 => match a with
  | .tup xs => .ok (.tup xs.reverse) st1
  | a => match seqOf a st1 with
    | some xs => .ok (.lst xs.reverse) st1
    | none => .fail := rfl
end G
namespace G
open PySem PySem.Spec PyProof.Rows L2 HT
set_option maxHeartbeats 1000000 in
theorem meets_enumerate_newT {v : Value} {o : Obj} {H : Heap → Prop} (B : Begins v o H) :
    Meets (Builtin.«enumerate.__new__» ⟨[.type "enumerate", v], []⟩) (fun _ R s => H s.heap ∧
      R (.ok (.ret (.ref (s.heap.push o).objs.size))) { s with heap := (s.heap.push o).push { cls := .type "enumerate", data := .fields #[.none, .bool false, .ref s.heap.objs.size, rawInt 0, .none, .none] } }) :=
  .of_wp fun prog w A R s h => by
    obtain ⟨hp, g, d, tk, os⟩ := s; obtain ⟨h1, h⟩ := h
    have hsub := sub_enumerate
    have q1 : ∀ {A' : Around} {E : Value → Shared → Prop} {Q : Value → Shared → Prop}, Q (.ref hp.objs.size) ⟨hp.push o, g, d, tk, os⟩ → wpAny (model prog w) A' (pyIter v) Q E ⟨hp, g, d, tk, os⟩ :=
      fun q => B.iter prog w _ _ ⟨hp, g, d, tk, os⟩ _ h1 q
    wp_walk using q1
    refine wpAny_stack_any fun st => wpAny_pure ?_
    split
    · rename_i c _ _ _ _ _
      cases (c == Value.type "enumerate")
      · wp_walk using q1
        exact ⟨_, rfl, h⟩
      · wp_walk using q1
        exact ⟨_, rfl, h⟩
    · wp_walk using q1
      exact ⟨_, rfl, h⟩
section
variable {prog : Program} {w : World} {A : Around} {E : Value → Shared → Prop} {s : Shared}
theorem call_enumerate_begins {v : Value} {o : Obj} {H : Heap → Prop} {Q : Value → Shared → Prop} (B : Begins v o H) (h1 : H s.heap)
    (h : ∀ h', IsEnum h' (s.heap.objs.size + 1) s.heap.objs.size 0 .none → h'.get? s.heap.objs.size = some o → h'.objs.size = s.heap.objs.size + 2 →
      (∀ b o, s.heap.get? b = some o → h'.get? b = some o) → Q (.ref (s.heap.objs.size + 1)) { s with heap := h' }) :
    wpAny (model prog w) A (call (.type "enumerate") [v]) Q E s := by
  refine callType_new F.called_enumerate (by decide) (F.typeCall_enumerate_1 _) (F.newCall_enumerate_1 _) (fun obj => F.args_object_init_2 obj _) F.entry_enumerate_new
    (meets_enumerate_newT B) ⟨h1, ?_⟩
  have hz : (s.heap.push o).objs.size = s.heap.objs.size + 1 := Heap.size_push ..
  show _ ∧ _
  rw [hz]
  have he : IsEnum ((s.heap.push o).push { cls := .type "enumerate", data := .fields #[.none, .bool false, .ref s.heap.objs.size, rawInt 0, .none, .none] }) (s.heap.objs.size + 1) s.heap.objs.size 0 .none := by
    have := Heap.get?_push_size (s.heap.push o) (o := { cls := .type "enumerate", data := .fields #[.none, .bool false, .ref s.heap.objs.size, rawInt 0, .none, .none] }) rfl
    rw [hz] at this; exact this
  refine ⟨⟨_, he, rfl⟩, h _ he (Heap.get?_push_of_some _ (Heap.get?_push_size _ B.free)) (by rw [Heap.size_push, hz]) fun b o x => Heap.get?_push_of_some _ (Heap.get?_push_of_some _ x)⟩
end
theorem pyNext_enum_endT {prog : Program} {w : World} {A : Around} {E : Value → Shared → Prop} {s : Shared} {e it l : Addr} {i : Nat} {c : Int} {items : Array Value} {old : Value} {Q : Option Value → Shared → Prop} (hh : A.handled = none)
    (he : IsEnum s.heap e it c old) (hit : s.heap.IsTupleIter it l i) (hl : s.heap.IsTuple l items) (hx : items[i]? = none)
    (hQ : ∀ h', Heap.ExtBut it s.heap h' → Q none { s with heap := h' }) : wpAny (model prog w) A (pyNext (.ref e)) Q E s := by
  have hT : s.TypeIs (.ref e) "enumerate" := ⟨_, he, rfl⟩
  unfold pyNext
  refine wpAny_bind (wpAny_attempt (wpAny_callSpecial?_slot (name := Str.ofString "__next__") hT F.slot_enumerate_next
    (wpAny_call_entry F.slot_enumerate_next hT F.entry_enumerate_next ?_ (F.args_enumerate_next_1 _))))
  show wpAny _ _ (field (.ref e) 2 >>= _) _ _ _
  refine wpAny_bind (wpAny_field he rfl (x := .ref it) rfl ?_)
  refine wpAny_bind (wpAny_nextOf_tuple_end hh hit hl hx fun h' x he' hx' => ?_)
  obtain ⟨o, ho, hc⟩ := hx'
  refine wpAny_bind (wpAny_isInstance (T := "StopIteration") (b := true) ⟨o, ho, hc⟩ isSubtype_stop ?_)
  exact wpAny_pure (hQ _ he')
def IteT (K : PySem.W.Frag) (a : Addr) : It :=
  ⟨fun i H => ∃ (xs : List V) (x : V), SqT K H a xs ∧ xs[i]? = some x, fun i H v H' => ∃ T x, v = .ref T ∧ H T = none ∧ H' = upd H T (.tup [.int (i : Nat), x]) ∧ ∀ xs, SqT K H a xs → xs[i]? = some x, fun i H => ∃ xs : List V, SqT K H a xs ∧ xs.length ≤ i⟩
theorem turn_enumT {P : Program} {w : World} {K : PySem.W.Frag} {elts : List Expr} {kk : Nat} {tpos : Pos} (a e it : Addr) :
    Turn P w K (.Tuple elts kk tpos) (IteT K a) [e, it] e (fun i h => (∃ old, IsEnum h e it ((i : Nat) : Int) old) ∧ h.IsTupleIter it a i ∧ e ≠ it ∧ a ≠ it ∧ e ≠ a) where
  mem := by simp
  obj := fun i h st b hb => by
    obtain ⟨⟨old, he⟩, ⟨o, ho, hc, hd⟩, _⟩ := st
    have e' : b = e ∨ b = it := by simpa using hb
    rcases e' with z | z
    · rw [z]; exact ⟨_, he, fun v q => nomatch q⟩
    · rw [z]; exact ⟨o, ho, fun v q => by rw [hd] at q; cases q⟩
  keep := fun i h h' st k => let ⟨⟨old, he⟩, hi, hne⟩ := st; ⟨⟨old, k e (by simp) _ he⟩, hi.at fun o q => k it (by simp) o q, hne⟩
  item := by
    intro X hP hw hK hc i pins s σ H E I hf st hg
    subst hP hw hK
    obtain ⟨⟨old, he⟩, hit, hne, hna, hea⟩ := st
    obtain ⟨xs, x, hq, hx⟩ := hg
    obtain ⟨its, rv, p, hz⟩ := I.tuple hq
    obtain ⟨u, hu, ru⟩ := rv.get hx
    have hel : e < s.heap.objs.size := Heap.lt_size he
    have hil : it < s.heap.objs.size := by obtain ⟨_, q, _⟩ := hit; exact Heap.lt_size q
    have hlt : i < its.toArray.size := by
      have := (List.getElem?_eq_some_iff.mp hu).1
      simpa using this
    have D := Draws.tuple (prog := X.prog) (w := X.w) (A := X.A.in1) (I.ok.hd hc) it a hna its.toArray
    refine wpAny_pyNext_enum_itemD D he ⟨hit, p⟩ hlt hne (by simp; exact ⟨hne, hea⟩) fun x' h' tk hP ho hst' hT hsz hk => ?_
    have ex : x' = u := by
      have hP' : its[i]? = some x' := by simpa using hP
      rw [hu] at hP'; exact (Option.some.inj hP').symm
    subst ex
    refine ⟨_, rfl, wpAny_letOwnedTupleGo_enum (s := { s with heap := h', toks := tk + 1 }) ho fun h'' he' sb => ?_⟩
    have hT2 : h''.get? s.heap.objs.size = some { cls := .type "tuple", data := .seq #[.int i tk, x'] } := (sb.2 _ (Nat.ne_of_gt hel)).trans hT
    have new : ObjOk X.prog X.w (upd H s.heap.objs.size (.tup [.int (i : Nat), x])) h'' s.heap.objs.size (.tup [.int (i : Nat), x]) :=
      ⟨by show 2 ≤ sizeLine; decide, [.int i tk, x'], .cons ⟨_, rfl⟩ (.cons ru .nil), ⟨_, hT2, rfl, _, rfl⟩⟩
    have I1 : Inv X pins σ (upd H s.heap.objs.size (.tup [.int (i : Nat), x])) { s with heap := h'', toks := tk + 1 } :=
      I.turnedNew (ch := [e, it]) (fun b ob hb q => (sb.2 b (fun z => hb (by simp [z]))).trans (hk b ob (fun z => hb (by simp [z])) (fun z => hb (by simp [z])) q)) hf (Nat.le_refl _) new
    refine ⟨.ref s.heap.objs.size, _, I1, rfl, ⟨_, x, rfl, I.hok.fresh (Nat.le_refl _), rfl, fun ys hy => by rw [I.tuple_inj hy hq]; exact hx⟩, ⟨⟨x', ?_⟩, hst'.1.at fun o q => (sb.2 it (Ne.symm hne)).trans q, hne, hna, hea⟩, fun b hb => ?_⟩
    · have e1 : ((i + 1 : Nat) : Int) = (i : Int) + 1 := by omega
      rw [e1]; exact he'
    · have hb' : b < s.heap.objs.size := by
        have e' : b = e ∨ b = it := by simpa using hb
        rcases e' with z | z
        · rw [z]; exact hel
        · rw [z]; exact hil
      rw [upd_ne (Nat.ne_of_lt hb')]
      exact (hf b hb).1
  done := by
    intro X hP hw hK hc i pins s σ H E I hf st hg
    subst hP hw hK
    obtain ⟨⟨old, he⟩, hit, hne, hna, hea⟩ := st
    obtain ⟨xs, hq, hx⟩ := hg
    obtain ⟨its, rv, p, hz⟩ := I.tuple hq
    obtain ⟨f0, f1, f2, f3, f4, f5⟩ := hf it (by simp)
    have hl := rv.length
    exact pyNext_enum_endT (I.ok.hd hc) he hit p (by simp; omega) fun h' eb => ⟨rfl, I.turned (t' := s.toks) (fun b o hb q => eb b o hb q) f0 f1 f3 f4 f5⟩
  self := fun A i s Q E st h => let ⟨⟨_, he⟩, _⟩ := st; wpAny_pyIter_enum he h
def iEnumB (K : PySem.W.Frag) (ta : TA) : TI := fun σ H R => ta σ H fun vs H1 => ∃ a xs, vs = [.ref a] ∧ ((SqL K H1 a xs ∧ R (Ite K a) H1) ∨ (SqT K H1 a xs ∧ R (IteT K a) H1))
theorem pi_enumB {X : Cx} {e : Expr} {ta : TA} {p pos tpos : Pos} {elts : List Expr} {kk : Nat} (hg : Gl X "enumerate") (hm : X.mg "enumerate" = none) (ha : PA X [e] ta) (hs : starEach [e] X.env = [(false, eval e X.env)] := by rfl) :
    PI X (.Tuple elts kk tpos) (.Call (.Name "enumerate" p) [e] [] pos) (iEnumB X.K ta) := by
  refine ⟨fun pins s σ H R I h => ?_⟩
  refine Call_ (ld_blt I hg hm boot_enumerate (PyProof.Rows.callWith_type1 (thn (ha.run pos pins s σ H _ I h) fun us s1 ⟨vs, H1, I1, r1, q1⟩ => ?_) hs rfl))
  obtain ⟨a, xs, ex, q⟩ := q1
  subst ex
  cases r1 with
  | cons r rr =>
    cases rr
    cases r
    have fp : ∀ b ∈ [s1.heap.objs.size + 1, s1.heap.objs.size], s1.heap.objs.size ≤ b := fun b hb => by
      have e' : b = s1.heap.objs.size + 1 ∨ b = s1.heap.objs.size := by simpa using hb
      rcases e' with z | z
      · rw [z]; exact Nat.le_add_right _ _
      · rw [z]; exact Nat.le_refl _
    rcases q with ⟨hq, q⟩ | ⟨hq, q⟩
    · obtain ⟨its, rv, p', hz⟩ := I1.list hq
      refine call_enumerate_list p'.isList fun h' he hit hsz hk => wpAny_pyIter_enum he ?_
      have I2 : Inv X pins σ H1 { s1 with heap := h' } := I1.kept (t' := s1.toks) hk
      exact ⟨s1.heap.objs.size + 1, [s1.heap.objs.size + 1, s1.heap.objs.size], _, _, H1, rfl, I2, turn_enum a (s1.heap.objs.size + 1) s1.heap.objs.size, ⟨⟨.none, he⟩, hit, Nat.succ_ne_self _⟩, fun b hb => I1.fpOk (fp b hb) (I1.hok.fresh (fp b hb)), q⟩
    · obtain ⟨its, rv, p', hz⟩ := I1.tuple hq
      have hlt : a < s1.heap.objs.size := by obtain ⟨_, e, _⟩ := p'; exact Heap.lt_size e
      refine call_enumerate_begins (begins_tuple a its.toArray) p' fun h' he hit hsz hk => wpAny_pyIter_enum he ?_
      have I2 : Inv X pins σ H1 { s1 with heap := h' } := I1.kept (t' := s1.toks) hk
      exact ⟨s1.heap.objs.size + 1, [s1.heap.objs.size + 1, s1.heap.objs.size], _, _, H1, rfl, I2, turn_enumT a (s1.heap.objs.size + 1) s1.heap.objs.size, ⟨⟨.none, he⟩, ⟨_, hit, rfl, rfl⟩, Nat.succ_ne_self _, Nat.ne_of_lt hlt, Nat.ne_of_gt (Nat.lt_succ_of_lt hlt)⟩, fun b hb => I1.fpOk (fp b hb) (I1.hok.fresh (fp b hb)), q⟩
section
variable {K : PySem.W.Frag} {M : Mem} {H : Hp}
theorem itet_rep {a : Addr} {xs : List D} {vs : List V} (f : ∀ M' H', Keep M H M' H' → SqT K H' a vs) (q : RepL K M H xs vs) : ItRep K M H (.frz (enumL xs)) (IteT K a) := fun i M' H' st' g so => by
  have f' := f _ _ g
  have q' := q.kp g
  refine ⟨fun e => ⟨vs, f', by rw [← q.length]; simp at e; omega⟩, fun d hd => ?_⟩
  obtain ⟨x, hx, rfl⟩ := enumL_get hd
  obtain ⟨v, hv, r⟩ := q'.get hx
  refine ⟨⟨vs, v, f', hv⟩, fun z H'' ⟨T, y, e1, e2, e3, e4⟩ => ?_⟩
  have := e4 vs f'
  rw [hv] at this; cases this
  subst e1 e3
  exact pair_new so (rep_int _ _ _) r e2
variable {X : Cx} {W : WX} {fs : EvA} {tg it : Expr}
theorem g_enum (h : PI X tg it (iEnumB X.K (rdA X.K W fs))) : PI X tg it (rdI X.K W (callI enumF fs)) := h.imp fun σ H R' ⟨env, M, st, eo, so, p⟩ => ⟨env, M, st, eo, so, Post.imp (Post.bind p) fun vs H1 ⟨M1, st1, as, g, so1, ra, p1⟩ => by
  unfold enumF at p1
  split at p1
  · rename_i n
    split at p1
    · rename_i ys e
      obtain ⟨x, rfl, rx⟩ := ra.one
      unfold Rep at rx
      obtain ⟨a, rfl, m⟩ := rx
      obtain ⟨ws, hv, q⟩ := so1.at_ n a _ m e
      exact ⟨a, ws, rfl, .inl ⟨.of hv, p1 M1 H1 _ .refl so1 (item_rep m)⟩⟩
    · exact p1.elim
  · rename_i b hn
    split at p1
    · rename_i ys e
      obtain ⟨x, rfl, rx⟩ := ra.one
      cases b with
      | tup zs =>
        cases e
        unfold Rep at rx
        obtain ⟨a, ws, rfl, f, q⟩ := rx
        exact ⟨a, ws, rfl, .inr ⟨f.sq, p1 M1 H1 _ .refl so1 (itet_rep (fun _ _ g => (g.fzT f).sq) q)⟩⟩
      | lst zs =>
        cases e
        unfold Rep at rx
        obtain ⟨a, ws, rfl, f, q⟩ := rx
        exact ⟨a, ws, rfl, .inl ⟨f.sq, p1 M1 H1 _ .refl so1 (ite_rep (fun _ _ g => .of (g.keep _ _ f.1 f.2).1) q)⟩⟩
      | slo zs =>
        cases e
        unfold Rep at rx
        obtain ⟨a, ws, rfl, f, q⟩ := rx
        exact ⟨a, ws, rfl, .inl ⟨f.sq, p1 M1 H1 _ .refl so1 (ite_rep (fun _ _ g => (g.fzL f).sq) q)⟩⟩
      | _ => cases e
    · exact p1.elim
  · exact p1.elim⟩
end
end G
namespace G
open PySem PySem.Spec PyProof.Rows L2
section
variable {X : Cx} {W : WX} {s : Expr}
@[simp] theorem enumF_tup (xs : List D) (st : Sto) : enumF [.tup xs] st = .ok (.frz (enumL xs)) st := rfl
@[simp] theorem enumF_lst (xs : List D) (st : Sto) : enumF [.lst xs] st = .ok (.frz (enumL xs)) st := rfl
end
end G
namespace G
open PySem PySem.Spec PyProof.Rows L2
abbrev P2 := Int × Int
def ltP2 (a b : P2) : Prop := a.1 < b.1 ∨ (a.1 = b.1 ∧ a.2 < b.2)
instance (a b : P2) : Decidable (ltP2 a b) := by unfold ltP2; infer_instance
theorem ltP2_irr (a : P2) : ¬ ltP2 a a := by unfold ltP2; omega
theorem ltP2_tr {a b c : P2} (h : ltP2 a b) (g : ltP2 b c) : ltP2 a c := by unfold ltP2 at *; omega
theorem ltP2_tri (a b : P2) : ltP2 a b ∨ a = b ∨ ltP2 b a := by
  unfold ltP2
  rcases Int.lt_trichotomy a.1 b.1 with h | h | h
  · exact .inl (.inl h)
  · rcases Int.lt_trichotomy a.2 b.2 with g | g | g
    · exact .inl (.inr ⟨h, g⟩)
    · exact .inr (.inl (Prod.ext h g))
    · exact .inr (.inr (.inr ⟨h.symm, g⟩))
  · exact .inr (.inr (.inl h))
def pairD (p : P2) : D := .tup [.int p.1, .int p.2]
def pairsOf : List D → Option (List P2)
  | [] => some []
  | .tup [.int a, .int b] :: r => (pairsOf r).map ((a, b) :: ·)
  | _ => none
theorem pairsOf_some : ∀ {xs : List D} {ps : List P2}, pairsOf xs = some ps → xs = ps.map pairD
  | [], ps, h => by unfold pairsOf at h; cases h; rfl
  | x :: xs, ps, h => by
    unfold pairsOf at h
    split at h
    · rename_i e; cases e
    · rename_i a b r e
      cases e
      cases hr : pairsOf xs with
      | none => rw [hr] at h; cases h
      | some qs => rw [hr] at h; cases h; rw [pairsOf_some hr]; rfl
    · cases h
@[simp] theorem pairsOf_map : ∀ ps : List P2, pairsOf (ps.map pairD) = some ps
  | [] => rfl
  | p :: ps => by
    show (pairsOf (ps.map pairD)).map ((p.1, p.2) :: ·) = _
    rw [pairsOf_map ps]; rfl
@[simp] theorem tgT_tp2 (i j : Nat) (a b : D) (env : Env) (st : Sto) : tgT (.tp [.nm i, .nm j]) (.tup [a, b]) env st = .ok ((env.set i (some a)).set j (some b)) st := by simp [tgT, Tg.set, Tg.sets]
@[simp] theorem tgT_tp3 (i j k : Nat) (a b c : D) (env : Env) (st : Sto) : tgT (.tp [.nm i, .nm j, .nm k]) (.tup [a, b, c]) env st = .ok (((env.set i (some a)).set j (some b)).set k (some c)) st := by simp [tgT, Tg.set, Tg.sets]
@[simp] theorem turnS_cont (k : Env → Sto → S) (env : Env) (st : Sto) : turnS (.cont env st) k = k env st := rfl
@[simp] theorem turnS_brk (k : Env → Sto → S) (env : Env) (st : Sto) : turnS (.brk env st) k = .nx env st := rfl
end G
namespace G
open PySem PySem.Spec PyProof.Rows L2
def empE : EvE := fun _ st => .ok .emp st
theorem g_emp {X : Cx} {W : WX} {pos : Pos} : PE X (.Dict [] [] pos) (rdE X.K W empE) :=
  pe_dnewK.imp fun σ H Q ⟨env, M, st, eo, so, p⟩ => fun a ha => p M _ (.ref a) (.laid so ha) (so.laid ha) (by unfold Rep; exact ⟨a, rfl, upd_same, so.notin ha⟩)
@[simp] theorem empE_eq (env : Env) (st : Sto) : empE env st = .ok .emp st := rfl
@[simp] theorem isiD_emp (c : Tag) (st : Sto) : isiD c .emp st = .ok (.bl (isiB .dic c)) st := rfl
@[simp] theorem isND_emp (st : Sto) : isND .emp .non st = .ok (.bl false) st := rfl
@[simp] theorem isiD_dic (c : Tag) (st : Sto) : isiD c .dic st = .ok (.bl (isiB .dic c)) st := rfl
@[simp] theorem isND_dic (st : Sto) : isND .dic .non st = .ok (.bl false) st := rfl
end G
namespace G
open PySem PySem.Spec PyProof.Rows L2 HT
section
variable {K : PySem.W.Frag} {M : Mem} {H : Hp}
theorem RepL.three {a b c : D} {xs : List V} (h : RepL K M H [a, b, c] xs) : ∃ x y z, xs = [x, y, z] ∧ Rep K M H a x ∧ Rep K M H b y ∧ Rep K M H c z := by
  unfold RepL at h
  obtain ⟨v, r, rfl, h1, h2⟩ := h
  obtain ⟨y, z, rfl, h3, h4⟩ := h2.two
  exact ⟨v, y, z, rfl, h1, h3, h4⟩
variable {X : Cx} {W : WX} {fs : EvA} {tg it : Expr}
end
end G
namespace G
open PySem PySem.Spec PyProof.Rows L2
def repMD : F2 := fun a b st => match a, b with
  | .lst xs, .int k => if k.natAbs < 2 ^ 62 ∧ xs.length * k.toNat ≤ 16777216 then .ok (.mut st.length) (st ++ [.lst (List.replicate k.toNat xs).flatten]) else .fail
  | _, _ => .fail
theorem v_repM {K : PySem.W.Frag} : OpV K (rOr (rI (fun i j => CMul i j) fun i j => .int (i * j)) (rOr (rI CMulW fun i j => .int (i * j)) (rOr rRep (rOr (rRepT K) (rRepT1 K))))) repMD := by
  intro a b x y M H st Q E ra rb so p
  unfold repMD at p
  split at p
  · split at p
    · rename_i h
      unfold Rep at ra rb
      obtain ⟨t, vs, rfl, f, q⟩ := ra
      subst rb
      refine .inr (.inr (.inl ⟨t, _, vs, rfl, rfl, f.1, by omega, by omega, by rw [← q.length]; exact size_le h.2, fun a ha => ?_⟩))
      exact p (M.push a) _ _ (.push so ha) (so.pushL ha (q.flat _)) (rep_mut so)
    · exact p.elim
  · exact p.elim
@[simp] theorem repMD_int (x : D) (k : Int) (st : Sto) : repMD (.lst [x]) (.int k) st = if k.natAbs < 2 ^ 62 ∧ k.toNat ≤ 16777216 then .ok (.mut st.length) (st ++ [.lst (List.replicate k.toNat x)]) else .fail := by
  have e : (List.replicate k.toNat [x]).flatten = List.replicate k.toNat x := by
    induction k.toNat with
    | zero => rfl
    | succ n ih => rw [List.replicate_succ, List.replicate_succ, List.flatten_cons, ih]; rfl
  unfold repMD
  simp [e]
end G
namespace G
open PySem PySem.Spec PyProof.Rows L2
section
variable {K : PySem.W.Frag} {M M' : Mem} {H H' : Hp} {st : Sto}
mutual
theorem Rep.ff {f : Addr → Option (Obj × HO)} : ∀ {d : D} {v : V}, Rep K M H d v → Rep K ⟨M.m, M.p, f⟩ H d v
  | .non, _, h => by unfold Rep at h ⊢; exact h
  | .bl _, _, h => by unfold Rep at h ⊢; exact h
  | .int _, _, h => by unfold Rep at h ⊢; exact h
  | .str _, _, h => by unfold Rep at h ⊢; exact h
  | .raw _, _, h => by unfold Rep at h ⊢; exact h
  | .dic, _, h => by unfold Rep at h ⊢; exact h
  | .fn _, _, h => by unfold Rep at h ⊢; exact h
  | .emp, _, h => by unfold Rep at h ⊢; exact h
  | .rg .., _, h => by unfold Rep at h ⊢; exact h
  | .exv .., _, h => by
    unfold Rep at h ⊢
    obtain ⟨h1, h2, h3⟩ := h
    refine ⟨h1, h2, h3.imp id ?_⟩
    rintro ⟨h4, dd, w, h5, h6, h7, h8⟩
    exact ⟨h4, dd, w, h5, h6, h7, Rep.ff h8⟩
  | .tup xs, _, h => by
    unfold Rep at h ⊢
    obtain ⟨a, vs, e, f, r⟩ := h
    exact ⟨a, vs, e, f, RepL.ff r⟩
  | .lst xs, _, h => by
    unfold Rep at h ⊢
    obtain ⟨a, vs, e, f, r⟩ := h
    exact ⟨a, vs, e, f, RepL.ff r⟩
  | .slo xs, _, h => by
    unfold Rep at h ⊢
    obtain ⟨a, vs, e, f, r⟩ := h
    exact ⟨a, vs, e, f, RepL.ff r⟩
  | .mut n, _, h => by unfold Rep at h ⊢; exact h
theorem RepL.ff {f : Addr → Option (Obj × HO)} : ∀ {ds : List D} {vs : List V}, RepL K M H ds vs → RepL K ⟨M.m, M.p, f⟩ H ds vs
  | [], _, h => by unfold RepL at h ⊢; exact h
  | d :: ds, _, h => by
    unfold RepL at h ⊢
    obtain ⟨v, r, e, h1, h2⟩ := h
    exact ⟨v, r, e, Rep.ff h1, RepL.ff h2⟩
end
theorem EnvOk.ff {f : Addr → Option (Obj × HO)} {env : Env} {σ : L2.St} (e : EnvOk K M H env σ) : EnvOk K ⟨M.m, M.p, f⟩ H env σ :=
  ⟨e.len, fun i d h => let ⟨v, h1, h2⟩ := e.at_ i d h; ⟨v, h1, h2.ff⟩⟩
def MO.walked : MO → Bool
  | .fk _ => true
  | .fd _ => true
  | .fe _ => true
  | _ => false
theorem StOk.ff {f : Addr → Option (Obj × HO)} (s : StOk K M H st) (h : ∀ (n : Nat) (a : Addr) (mo : MO), M.m[n]? = some a → st[n]? = some mo → mo.walked = true → f a = M.f a) : StOk K ⟨M.m, M.p, f⟩ H st := by
  refine ⟨s.len, s.nd, s.pd, fun n a mo e1 e2 => ?_⟩
  have q := s.at_ n a mo e1 e2
  cases mo with
  | lst xs => obtain ⟨vs, h1, r⟩ := q; exact ⟨vs, h1, r.ff⟩
  | dk kvs => exact q
  | dt kvs => exact q
  | fk kvs =>
    obtain ⟨o, h1, h2⟩ := q
    exact ⟨o, by rw [← h1]; exact h n a _ e1 e2 rfl, h2⟩
  | dd kvs => obtain ⟨ws, h1, r⟩ := q; exact ⟨ws, h1, r.1, r.2.ff⟩
  | de kvs => obtain ⟨ws, h1, r⟩ := q; exact ⟨ws, h1, r.1, r.2.ff⟩
  | fd kvs =>
    obtain ⟨o, ws, h1, h2, r⟩ := q
    exact ⟨o, ws, by rw [← h1]; exact h n a _ e1 e2 rfl, h2, r.1, r.2.ff⟩
  | fe kvs =>
    obtain ⟨o, ws, h1, h2, r⟩ := q
    exact ⟨o, ws, by rw [← h1]; exact h n a _ e1 e2 rfl, h2, r.1, r.2.ff⟩
theorem StOk.uniq (s : StOk K M H st) {n k : Nat} {a : Addr} (h : M.m[n]? = some a) (h' : M.m[k]? = some a) : n = k := by
  obtain ⟨h1, e1⟩ := List.getElem?_eq_some_iff.mp h
  obtain ⟨h2, e2⟩ := List.getElem?_eq_some_iff.mp h'
  exact (List.getElem_inj s.nd).mp (e1.trans e2.symm)
theorem StOk.mem (s : StOk K M H st) {n : Nat} {mo : MO} (h : st[n]? = some mo) : ∃ a, M.m[n]? = some a := by
  have := (List.getElem?_eq_some_iff.mp h).1
  rw [← s.len] at this
  exact ⟨M.m[n], List.getElem?_eq_getElem this⟩
end
def scal : D → Option V
  | .non => some .non
  | .bl b => some (.bl b)
  | .int i => some (.int i)
  | _ => none
def keyOf : D → Option L2.Key
  | .int i => some (.inl i)
  | _ => none
def kD : L2.Key → D
  | .inl i => .int i
  | .inr x => .str x
theorem keyOf_rep {K : PySem.W.Frag} {M : Mem} {H : Hp} {d : D} {k : L2.Key} {x : V} (h : keyOf d = some k) (r : Rep K M H d x) : x = kV k := by
  cases d with
  | int b => cases h; unfold Rep at r; exact r
  | _ => cases h
def keysOf : List D → Option (List L2.Key)
  | [] => some []
  | d :: ds => match keyOf d, keysOf ds with
    | some k, some ks => some (k :: ks)
    | _, _ => none
end G
namespace G
open PySem PySem.Spec PyProof.Rows L2
def insW (p : P2) : List P2 → List P2
  | [] => [p]
  | q :: r => if ltP2 q p then q :: insW p r else p :: q :: r
def srtP (ps : List P2) : List P2 := ps.foldr insW []
abbrev leP2 (a b : P2) : Prop := ¬ ltP2 b a
theorem perm_insW {p : P2} : ∀ {l : List P2}, (insW p l).Perm (p :: l)
  | [] => .refl _
  | q :: r => by
    unfold insW
    split
    · exact ((perm_insW (l := r)).cons q).trans (.swap p q r)
    · exact .refl _
theorem sorted_insW {p : P2} : ∀ {l : List P2}, l.Pairwise leP2 → (insW p l).Pairwise leP2
  | [], _ => by simp [insW]
  | q :: r, h => by
    obtain ⟨h1, h2⟩ := List.pairwise_cons.mp h
    unfold insW
    split
    · rename_i lt
      refine List.pairwise_cons.mpr ⟨fun x hx => ?_, sorted_insW h2⟩
      rcases List.mem_cons.mp (perm_insW.mem_iff.mp hx) with rfl | hx
      · intro z; exact ltP2_irr _ (ltP2_tr z lt)
      · exact h1 x hx
    · rename_i nlt
      refine List.pairwise_cons.mpr ⟨fun x hx => ?_, h⟩
      rcases List.mem_cons.mp hx with rfl | hx
      · exact nlt
      · intro z
        rcases ltP2_tri q p with g | g | g
        · exact nlt g
        · subst g; exact h1 x hx z
        · exact h1 x hx (ltP2_tr z g)
theorem perm_srtP : ∀ {ps : List P2}, (srtP ps).Perm ps
  | [] => .refl _
  | p :: ps => (perm_insW (l := srtP ps)).trans ((perm_srtP (ps := ps)).cons p)
theorem sorted_srtP : ∀ {ps : List P2}, (srtP ps).Pairwise leP2
  | [] => .nil
  | p :: ps => sorted_insW (sorted_srtP (ps := ps))
theorem leP2_anti {a b : P2} (h : leP2 a b) (h' : leP2 b a) : a = b := by
  rcases ltP2_tri a b with g | g | g
  · exact absurd g h'
  · exact g
  · exact absurd g h
theorem sortedW_unique : ∀ {a b : List P2}, a.Pairwise leP2 → b.Pairwise leP2 → a.Perm b → a = b
  | [], b, _, _, h => (List.Perm.eq_nil h.symm).symm
  | x :: a, [], _, _, h => absurd h.length_eq (by simp)
  | x :: a, y :: b, ha, hb, h => by
    obtain ⟨a1, a2⟩ := List.pairwise_cons.mp ha
    obtain ⟨b1, b2⟩ := List.pairwise_cons.mp hb
    have e : x = y := by
      rcases List.mem_cons.mp (h.mem_iff.mp List.mem_cons_self) with g | g
      · exact g
      · rcases List.mem_cons.mp (h.mem_iff.mpr List.mem_cons_self) with g2 | g2
        · exact g2.symm
        · exact leP2_anti (a1 y g2) (b1 x g)
    subst e
    rw [sortedW_unique a2 b2 h.cons_inv]
def pairAt (h : Heap) (u : Value) : P2 := match u with
  | .ref t => (match h.get? t with
    | some o => (match o.data with
      | .seq its _ => (match its.toList with
        | [.int a _, .int b _] => (a, b)
        | _ => (0, 0))
      | _ => (0, 0))
    | none => (0, 0))
  | _ => (0, 0)
def rSortedPQ (K : PySem.W.Frag) : List V → Hp → VK → Prop := fun vs H Q => ∃ (a : Addr) (xs : List V) (ps : List P2) (F : V → P2 → Prop), vs = [V.ref a] ∧ SqL K H a xs ∧ Paired F xs ps ∧
  (∀ x p, F x p → ∃ t, x = V.ref t ∧ SqT K H t [.int p.1, .int p.2]) ∧ ∀ ys b, Paired F ys (srtP ps) → H b = none → Q (.ref b) (upd H b (.lst ys))
theorem paired_map {F : V → P2 → Prop} {k : Value → P2} : ∀ {l : List Value}, (∀ u ∈ l, F (backV u) (k u)) → Paired F (l.map backV) (l.map k)
  | [], _ => .nil
  | u :: l, h => .cons (h u List.mem_cons_self) (paired_map fun v hv => h v (List.mem_cons_of_mem _ hv))
section
variable {X : Cx}
theorem cr_sortedPQ : CallR X (.builtin "sorted") (rSortedPQ X.K) := by
  intro pins s σ H vs us Q I r h
  obtain ⟨a, xs, ps, F, rfl, hs, hx, hF, q⟩ := h
  obtain ⟨its, rv, hl, hz⟩ := I.list hs
  obtain ⟨u, rfl, ru⟩ := vals1 r
  obtain rfl : u = Value.ref a := ru
  have hx' : ∀ x ∈ xs, ∃ p, F x p := by
    clear rv hl hz q
    clear hs
    induction hx with
    | nil => intro x hx; cases hx
    | @cons x p xs ps h t ih =>
      intro y hy
      rcases List.mem_cons.mp hy with rfl | hy
      · exact ⟨p, h⟩
      · exact ih y hy
  obtain ⟨e1, e2⟩ := refs_back rv fun x m => by
    obtain ⟨p, hp⟩ := hx' x m
    obtain ⟨t, e, _⟩ := hF x p hp
    exact ⟨t, e⟩
  have at_ : ∀ t p, F (.ref t) p → ∃ o t1 t2 n, s.heap.get? t = some o ∧ o.cls = .type "tuple" ∧ o.data = .seq #[.int p.1 t1, .int p.2 t2] n ∧ pairAt s.heap (.ref t) = p := by
    intro t p hp
    obtain ⟨t', e, hq⟩ := hF _ p hp
    cases e
    obtain ⟨its2, r2, ⟨o, ho, hc, n, hd⟩, _⟩ := I.tuple hq
    obtain ⟨u1, u2, rfl, ri, rj⟩ := vals2 r2
    obtain ⟨t1, rfl⟩ := ri
    obtain ⟨t2, rfl⟩ := rj
    have hd : o.data = .seq #[.int p.1 t1, .int p.2 t2] n := hd
    refine ⟨o, t1, t2, n, ho, hc, hd, ?_⟩
    unfold pairAt
    simp only [ho, hd]
  have k_is : ∀ {xs : List V} {ps : List P2} {its : List Value}, Paired F xs ps → xs = its.map backV → (∀ u ∈ its, ∃ a, u = Value.ref a) → its.map (pairAt s.heap) = ps ∧ ∀ u ∈ its, F (backV u) (pairAt s.heap u) := by
    intro xs ps its hp
    induction hp generalizing its with
    | nil =>
      intro e _
      cases its with
      | nil => exact ⟨rfl, fun u hu => absurd hu List.not_mem_nil⟩
      | cons u l => cases e
    | @cons x p xs ps h t ih =>
      intro e hr
      cases its with
      | nil => cases e
      | cons u l =>
        rw [List.map_cons] at e
        injection e with e3 e4
        obtain ⟨i1, i2⟩ := ih e4 fun v hv => hr v (List.mem_cons_of_mem _ hv)
        obtain ⟨c, rfl⟩ := hr u List.mem_cons_self
        have hb : backV (Value.ref c) = V.ref c := rfl
        rw [hb] at e3
        subst e3
        obtain ⟨_, _, _, _, _, _, _, hk⟩ := at_ c p h
        refine ⟨by rw [List.map_cons, hk, i1], fun v hv => ?_⟩
        rcases List.mem_cons.mp hv with rfl | hv
        · rw [hk, hb]; exact h
        · exact i2 v hv
  obtain ⟨m1, m2⟩ := k_is hx e1 e2
  refine SrtO.sorted_pairsO (k := pairAt s.heap) hl.isList (by rw [← rv.length]; exact hz) (fun v hv => ?_) fun h' d out h1 h2 kp hd hn => ?_
  · obtain ⟨t, rfl⟩ := e2 v hv
    have hf := m2 _ hv
    obtain ⟨o, t1, t2, n, ho, hc, hd, hk⟩ := at_ t _ hf
    exact ⟨t, o, t1, t2, n, rfl, ho, hc, hd⟩
  · have h3 : ∀ u ∈ out, ∃ a, u = Value.ref a := fun u hu => e2 u (h2.perm.mem_iff.mp hu)
    obtain ⟨n, hn⟩ := hn
    have ho : out.map (pairAt s.heap) = srtP ps := by
      refine sortedW_unique ?_ sorted_srtP ((h2.perm.map _).trans (by rw [m1]; exact perm_srtP.symm))
      refine List.pairwise_map.mpr (List.Pairwise.imp (fun {x y} h => ?_) h1)
      exact SrtO.lexB_no.mp h
    have hb : Paired F (out.map backV) (srtP ps) := by
      rw [← ho]
      exact paired_map fun u hu => m2 u (h2.perm.mem_iff.mp hu)
    have hlen : out.length = xs.length := by rw [h2.perm.length_eq, ← rv.length]
    refine ⟨.ref d, upd H d (.lst (out.map backV)), I.laid (t' := s.toks) kp hd ⟨?_, out, n, vals_back h3, hn⟩, rfl, q _ d hb (I.hok.fresh hd)⟩
    rw [List.length_map, hlen]
    exact hz
end
def srtF : FA := fun as st => match as with
  | [.tup _] => .fail
  | [a] => (match (seqOf a st).bind pairsOf with
    | some ps => .ok (.lst ((srtP ps).map pairD)) st
    | none => .fail)
  | _ => .fail
theorem pair_rep {K : PySem.W.Frag} {M : Mem} {H : Hp} {p : P2} {x : V} (r : Rep K M H (pairD p) x) : ∃ t, x = .ref t ∧ FzT K M H t [.int p.1, .int p.2] := by
  unfold pairD Rep at r
  obtain ⟨a, vs, rfl, f, q⟩ := r
  obtain ⟨x, y, rfl, r1, r2⟩ := RepL.two q
  rw [rep_int_iff] at r1 r2
  subst r1 r2
  exact ⟨a, rfl, f⟩
theorem paired_rep {K : PySem.W.Frag} {M : Mem} {H : Hp} : ∀ {ps : List P2} {xs : List V}, RepL K M H (ps.map pairD) xs → Paired (fun x p => Rep K M H (pairD p) x) xs ps
  | [], xs, r => by unfold RepL at r; simp at r; subst r; exact .nil
  | p :: ps, xs, r => by
    rw [List.map_cons] at r
    unfold RepL at r
    obtain ⟨v, rr, rfl, h1, h2⟩ := r
    exact .cons h1 (paired_rep h2)
theorem rep_paired {K : PySem.W.Frag} {M : Mem} {H : Hp} : ∀ {ps : List P2} {xs : List V}, Paired (fun x p => Rep K M H (pairD p) x) xs ps → RepL K M H (ps.map pairD) xs
  | _, _, .nil => .nil
  | _, _, .cons h t => .cons h (rep_paired t)
theorem v_srt {K : PySem.W.Frag} : CallV K (rSortedPQ K) srtF := by
  intro as xs M H st Q E ra so p
  unfold srtF at p
  split at p
  · exact p.elim
  · rename_i a hnt
    split at p
    · rename_i ps e
      obtain ⟨x, rfl, rx⟩ := ra.one
      obtain ⟨ds, e1, e2⟩ := Option.bind_eq_some_iff.mp e
      have ed := pairsOf_some e2
      subst ed
      obtain ⟨t, vs, rfl, hs, rl⟩ : ∃ t vs, x = .ref t ∧ SqL K H t vs ∧ RepL K M H (ps.map pairD) vs := by
        cases a with
        | «mut» n =>
          unfold Rep at rx
          obtain ⟨t, rfl, m⟩ := rx
          simp only [seqOf] at e1
          split at e1
          · rename_i ys hy
            cases e1
            obtain ⟨vs, hv, rl⟩ := so.at_ n t _ m hy
            exact ⟨t, vs, rfl, .of hv, rl⟩
          · cases e1
        | lst ys => cases e1; unfold Rep at rx; obtain ⟨t, vs, e, f, q⟩ := rx; exact ⟨t, vs, e, f.sq, q⟩
        | slo ys => cases e1; unfold Rep at rx; obtain ⟨t, vs, e, f, q⟩ := rx; exact ⟨t, vs, e, f.sq, q⟩
        | tup ys => exact absurd rfl (hnt ys)
        | _ => cases e1
      refine ⟨t, vs, ps, fun x p => Rep K M H (pairD p) x, rfl, hs, paired_rep rl, fun x p r => ?_, fun ys b hp hb => ?_⟩
      · obtain ⟨t, e, f⟩ := pair_rep r
        exact ⟨t, e, f.sq⟩
      · exact p M _ _ (.laid so hb) (so.laid hb) (rep_lst so (rep_paired hp) hb)
    · exact p.elim
  · exact p.elim
@[simp] theorem srtF_pairs (ps : List P2) (st : Sto) : srtF [.lst (ps.map pairD)] st = .ok (.lst ((srtP ps).map pairD)) st := by
  show (match (some (ps.map pairD)).bind pairsOf with | some ps => _ | none => _) = _
  rw [Option.bind_some, pairsOf_map]
end G
namespace G
open PySem PySem.Spec PyProof.Rows L2
structure ShP (p : PyData) (w d : Nat) : Prop where
  nd : p.hasDict = false
  sh : p.showable = true
  ls : p.leavesShort 500 = true
  wt : p.weight ≤ w
  dp : p.depth ≤ d
structure ShL (ps : List PyData) (w d : Nat) : Prop where
  nd : PyData.hasDictAll ps = false
  sh : PyData.showableAll ps = true
  ls : PyData.leavesShortAll 500 ps = true
  wt : PyData.weightAll ps ≤ w
  dp : PyData.depthAll ps ≤ d
theorem ShL.tup {ps : List PyData} {w d : Nat} (h : ShL ps w d) : ShP (.tuple ps) w (d + 1) :=
  ⟨by simpa [PyData.hasDict] using h.nd, by simpa [PyData.showable] using h.sh, by simpa [PyData.leavesShort] using h.ls, by simpa [PyData.weight] using h.wt, by simpa [PyData.depth] using h.dp⟩
theorem ShL.lst {ps : List PyData} {w d : Nat} (h : ShL ps w d) : ShP (.list ps) w (d + 1) :=
  ⟨by simpa [PyData.hasDict] using h.nd, by simpa [PyData.showable] using h.sh, by simpa [PyData.leavesShort] using h.ls, by simpa [PyData.weight] using h.wt, by simpa [PyData.depth] using h.dp⟩
@[simp] theorem neD_str (x : Str) (st : Sto) : neD (.str x) (.str x) st = .ok (.bl false) st := by
  unfold neD eqO scalD
  simp
@[simp] theorem eqD_str (x : Str) (st : Sto) : eqD (.str x) (.str x) st = .ok (.bl true) st := by
  unfold eqD eqO scalD
  simp
end G
namespace G
open PySem PySem.Spec PyProof.Rows L2
def cd (ns : List Int) : Int := TS.code (big : Int) ns
end G
namespace G
open PySem PySem.Spec PyProof.Rows L2
def lstOf (d : D) (st : Sto) : Option (List D) := match d with
  | .lst xs => some xs
  | .slo xs => some xs
  | .mut n => (match st[n]? with
    | some (.lst xs) => some xs
    | _ => none)
  | _ => none
def indexF : FM := fun d as st => match as with
  | [.int x] => (match (lstOf d st).bind intsOf with
    | some ns => (match ns.findIdx? (fun y => y == x) with
      | some j => .ok (.int (j : Nat)) st
      | none => .fail)
    | none => .fail)
  | _ => .fail
end G
namespace G
open PySem PySem.Spec PyProof.Rows L2
def listRgE (fa : EvE) : EvE := fun env st => (fa env st).bind fun a st1 => match a with
  | .int n => if 0 ≤ n ∧ n ≤ 16777216 then .ok (.lst ((List.range n.toNat).map fun i => .int (i : Nat))) st1 else .fail
  | _ => .fail
@[simp] theorem listRgE_eq (fa : EvE) (env : Env) (st : Sto) : listRgE fa env st = (fa env st).bind fun a st1 => match a with
  | .int n => if 0 ≤ n ∧ n ≤ 16777216 then .ok (.lst ((List.range n.toNat).map fun i => .int (i : Nat))) st1 else .fail
  | _ => .fail := rfl
end G
namespace G
open PySem PySem.Spec PyProof.Rows L2
def thawD (st : Sto) : D → D
  | .mut n => match st[n]? with
    | some (.lst xs) => .lst xs
    | _ => .mut n
  | d => d
def eqMO (a b : D) (st : Sto) : Option Bool := match toPD (thawD st a), toPD (thawD st b) with
  | some x, some y => if SeqAt.shaped x = true ∧ SeqAt.shaped y = true then some (PyData.eqv x y) else none
  | _, _ => none
def eqMD : F2 := fun a b st => match eqMO a b st with
  | some k => .ok (.bl k) st
  | none => .fail
def neMD : F2 := fun a b st => match eqMO a b st with
  | some k => .ok (.bl (!k)) st
  | none => .fail
end G
namespace G
open PySem PySem.Spec PyProof.Rows L2
section
variable {κ β : Type} [DecidableEq κ]
def vGet (kvs : List (κ × β)) (k : κ) : Option β := (kvs.find? fun kv => decide (kv.1 = k)).map (·.2)
def vPut (kvs : List (κ × β)) (k : κ) (v : β) : List (κ × β) :=
  if (kvs.any fun kv => decide (kv.1 = k)) = true then kvs.map (fun kv => if kv.1 = k then (kv.1, v) else kv) else kvs ++ [(k, v)]
theorem vGet_pos {p : κ × β} {r : List (κ × β)} {k : κ} (e : p.1 = k) : vGet (p :: r) k = some p.2 := by simp [vGet, List.find?_cons, e]
theorem vGet_neg {p : κ × β} {r : List (κ × β)} {k : κ} (e : ¬ p.1 = k) : vGet (p :: r) k = vGet r k := by simp [vGet, List.find?_cons, e]
theorem vGet_any (k : κ) : ∀ kvs : List (κ × β), (kvs.any fun kv => decide (kv.1 = k)) = (vGet kvs k).isSome
  | [] => rfl
  | p :: r => by
    rw [List.any_cons]
    by_cases e : p.1 = k
    · simp only [vGet_pos e, decide_eq_true e, Bool.true_or, Option.isSome_some]
    · rw [vGet_neg e, decide_eq_false e, Bool.false_or]; exact vGet_any k r
theorem vPut_keys (kvs : List (κ × β)) (k : κ) (v : β) : (vPut kvs k v).map (·.1) = if k ∈ kvs.map (·.1) then kvs.map (·.1) else kvs.map (·.1) ++ [k] := by
  have hm : (kvs.any fun kv => decide (kv.1 = k)) = true ↔ k ∈ kvs.map (·.1) := by
    rw [List.any_eq_true, List.mem_map]
    constructor
    · rintro ⟨x, h1, h2⟩; exact ⟨x, h1, of_decide_eq_true h2⟩
    · rintro ⟨x, h1, h2⟩; exact ⟨x, h1, decide_eq_true h2⟩
  unfold vPut
  by_cases h : k ∈ kvs.map (·.1)
  · rw [if_pos (hm.mpr h), if_pos h, List.map_map]
    refine List.map_congr_left fun p _ => ?_
    show (if p.1 = k then (p.1, v) else p).1 = p.1
    split <;> rfl
  · rw [if_neg (fun z => h (hm.mp z)), if_neg h]; simp
end
section
variable {K : PySem.W.Frag} {M : Mem} {H : Hp} {κ : Type} [DecidableEq κ]
theorem RepKV.cons {k : κ} {d : D} {v : V} {kvs : List (κ × D)} {ws : List (κ × V)} (r : Rep K M H d v) (q : RepKV K M H kvs ws) : RepKV K M H ((k, d) :: kvs) ((k, v) :: ws) :=
  ⟨by simp [q.1], by simpa using RepL.cons r q.2⟩
theorem RepKV.inv {k : κ} {d : D} {kvs : List (κ × D)} {ws : List (κ × V)} (r : RepKV K M H ((k, d) :: kvs) ws) : ∃ v ws', ws = (k, v) :: ws' ∧ Rep K M H d v ∧ RepKV K M H kvs ws' := by
  obtain ⟨h1, h2⟩ := r
  cases ws with
  | nil => simp at h1
  | cons p ws' =>
    obtain ⟨k', v⟩ := p
    simp only [List.map_cons, List.cons.injEq] at h1
    obtain ⟨rfl, h1⟩ := h1
    simp only [List.map_cons] at h2
    unfold RepL at h2
    obtain ⟨v', r', e, r1, r2⟩ := h2
    injection e with e1 e2
    subst e1 e2
    exact ⟨_, _, rfl, r1, h1, r2⟩
theorem RepKV.nil_inv {ws : List (κ × V)} (r : RepKV K M H ([] : List (κ × D)) ws) : ws = [] := by
  have := r.1
  simpa using this
theorem RepKV.len {kvs : List (κ × D)} {ws : List (κ × V)} (r : RepKV K M H kvs ws) : ws.length = kvs.length := by
  have := congrArg List.length r.1
  simpa using this
theorem RepKV.get : ∀ {kvs : List (κ × D)} {ws : List (κ × V)} (_ : RepKV K M H kvs ws) (k : κ), (vGet kvs k = none → valV ws k = none) ∧ ∀ d, vGet kvs k = some d → ∃ v, valV ws k = some v ∧ Rep K M H d v
  | [], ws, r, k => by rw [r.nil_inv]; exact ⟨fun _ => rfl, fun d h => by cases h⟩
  | (k', d') :: kvs, ws, r, k => by
    obtain ⟨v, ws', rfl, r1, r2⟩ := r.inv
    by_cases e : k' = k
    · rw [vGet_pos (p := (k', d')) e, valV_pos (p := (k', v)) e]
      exact ⟨fun h => (nomatch h), fun d h => by cases h; exact ⟨v, rfl, r1⟩⟩
    · rw [vGet_neg (p := (k', d')) e, valV_neg (p := (k', v)) e]
      exact r2.get k
theorem RepKV.isS {kvs : List (κ × D)} {ws : List (κ × V)} (r : RepKV K M H kvs ws) (k : κ) : (valV ws k).isSome = (vGet kvs k).isSome := by
  obtain ⟨h1, h2⟩ := r.get k
  cases e : vGet kvs k with
  | none => rw [h1 e]; rfl
  | some d => obtain ⟨v, e2, _⟩ := h2 d e; rw [e2]; rfl
theorem RepKV.mapv {k : κ} {d : D} {v : V} (rv : Rep K M H d v) : ∀ {kvs : List (κ × D)} {ws : List (κ × V)}, RepKV K M H kvs ws → RepKV K M H (kvs.map fun kv => if kv.1 = k then (kv.1, d) else kv) (ws.map fun kv => if kv.1 = k then (kv.1, v) else kv)
  | [], ws, r => by rw [r.nil_inv]; exact ⟨rfl, .nil⟩
  | (k', d') :: kvs, ws, r => by
    obtain ⟨v', ws', rfl, r1, r2⟩ := r.inv
    rw [List.map_cons, List.map_cons]
    by_cases e : k' = k
    · simp only [e, if_true]
      exact .cons rv (r2.mapv rv)
    · simp only [e, if_false]
      exact .cons r1 (r2.mapv rv)
theorem RepKV.snoc {k : κ} {d : D} {v : V} (rv : Rep K M H d v) : ∀ {kvs : List (κ × D)} {ws : List (κ × V)}, RepKV K M H kvs ws → RepKV K M H (kvs ++ [(k, d)]) (ws ++ [(k, v)])
  | [], ws, r => by rw [r.nil_inv]; exact .cons rv ⟨rfl, .nil⟩
  | (k', d') :: kvs, ws, r => by
    obtain ⟨v', ws', rfl, r1, r2⟩ := r.inv
    exact .cons r1 (r2.snoc rv)
theorem RepKV.put {k : κ} {d : D} {v : V} {kvs : List (κ × D)} {ws : List (κ × V)} (r : RepKV K M H kvs ws) (rv : Rep K M H d v) : RepKV K M H (vPut kvs k d) (putK ws k v) := by
  have e : (ws.any fun kv => decide (kv.1 = k)) = (kvs.any fun kv => decide (kv.1 = k)) := by rw [valV_any, vGet_any, r.isS]
  unfold vPut putK
  rw [e]
  split
  · exact r.mapv rv
  · exact r.snoc rv
theorem RepKV.at : ∀ {kvs : List (κ × D)} {ws : List (κ × V)}, RepKV K M H kvs ws → ∀ {i : Nat} {k : κ} {d : D}, kvs[i]? = some (k, d) → ∃ v, ws[i]? = some (k, v) ∧ Rep K M H d v
  | [], ws, r, i, k, d, h => by simp at h
  | (k', d') :: kvs, ws, r, 0, k, d, h => by
    obtain ⟨v', ws', rfl, r1, r2⟩ := r.inv
    simp only [List.getElem?_cons_zero, Option.some.injEq, Prod.mk.injEq] at h
    obtain ⟨rfl, rfl⟩ := h
    exact ⟨v', rfl, r1⟩
  | (k', d') :: kvs, ws, r, i + 1, k, d, h => by
    obtain ⟨v', ws', rfl, r1, r2⟩ := r.inv
    simp only [List.getElem?_cons_succ] at h ⊢
    exact r2.at h
def ksOf : D → Option (List L2.Key)
  | .tup ds => keysOf ds
  | _ => none
end
def newEE : EvE := fun _ st => .ok (.mut st.length) (st ++ [.de []])
section
variable {X : Cx} {W : WX} {pos : Pos} {fk fv fd fa : EvE} {ke ve : Expr}
def putDD (d k v : D) (st : Sto) : Option Sto := match d with
  | .mut n => (match st[n]? with
    | some (.dd kvs) => (match keyOf k with
      | some k => if kvs.length < 16777216 then some (st.set n (.dd (vPut kvs k v))) else none
      | none => none)
    | some (.de kvs) => (match ksOf k with
      | some k => if kvs.length < 16777216 then some (st.set n (.de (vPut kvs k v))) else none
      | none => none)
    | _ => none)
  | _ => none
def putDS (fv fd fk : EvE) : SvS := fun env st => bindS (fv env st) env fun v st1 => bindS (fd env st1) env fun d st2 => bindS (fk env st2) env fun k st3 => match putDD d k v st3 with
  | some st4 => .nx env st4
  | none => .fail
end
end G
set_option maxHeartbeats 2000000
namespace PySem
namespace GX
open PySem.W PySem.Calls PyProof.Rows PySem.HandSPX
def iA (f : Str) (p1 p2 : Pos) : Arguments := { posonlyargs := [], args := [{ arg := "self", annotation := none, pos := p1 }, { arg := f, annotation := none, pos := p2 }], vararg := none, kwonlyargs := [], kw_defaults := [], kwarg := none, defaults := [] }
def iB (f : Str) (q1 q2 q3 q4 : Pos) : List Stmt := [.Assign [.Attribute (.Name "self" q1) f q2] (.Name f q3) q4]
def iS (f : Str) : Scope := { kind := .function, names := [("self", .local), (f, .local)], isGenerator := false, isCoroutine := false, more := [] }
structure XI (K : Frag) (mg : Str → Option Value) (x : Str) (C fI : Addr) (f : Str) : Prop where
  hf : f = "given" ∨ f = "index" ∨ f = "reason"
  gC : mg x = some (.ref C)
  nC : nsIn K mainGlobals x = some (some (.ref C))
  cls : ∃ nm q N bs bm sn sub ab col dd k0 k1 k2 k3 k5, K.lookup C = some (excClassObj nm q C N bs bm true sn sub ab col dd k0 k1 k2 k3 k5 "ValueError.__new__") ∧ refsVE bm = true
  sa : findIn K (.ref C) "__setattr__" = some (some (.builtin "object.__setattr__"))
  noN : findIn K (.ref C) f = some none
  iC : findIn K (.ref C) "__init__" = some (some (.ref fI))
  tC : typeIn K (.ref fI) = some (.type "function")
  kC : keepIn K (.ref C) = true
  exC : subIn K (.ref C) (.type "BaseException") = some true
  tyC : typeIn K (.ref C) = some (.type "type")
  fn : ∃ (oc : Value) (od : Option Addr) (q : Str) (doc pm : Value) (an : Option Addr) (cdv ct : Value) (osl : Array (Option Value)) (p1 p2 q1 q2 q3 q4 : Pos),
    K.lookup fI = some ⟨oc, od, .func (fnOf "__init__" q (iA f p1 p2) (iB f q1 q2 q3 q4) (iS f) .none .none doc pm an cdv ct), osl⟩ ∧ codeIn K cdv q = true
theorem one_size (v : Value) : [v].length ≤ sizeLine := by
  rw [sizeLine_eq]
  exact (by decide : 1 ≤ 16777216)
theorem ldC {M : Model} {s : Shared} {name : Str} {scope : Scope} {L a : Addr} {cd : Value} {m : Str → Option Value} {x : Str} {pos : Pos} {v : Value} {Q : Value → Shared → Prop} {A : Around} {E : Value → Shared → Prop} (hn : s.heap.Ns L m) (hv : m x = some v) (h : Q v s)
    (hk : scope.kind = .function := by rfl) (hl : (envOfC name scope L a cd).kindOf x = some .local := by rfl) (hd : (x == ("__debug__" : Str)) = false := by decide) :
    wpAny M A (eval (.Name x pos) (envOfC name scope L a cd)) Q E s := wpAny_Name (wpAny_loadName_local hk hl hn hv h) hd
structure InitEnd (f : Str) (h h' : Heap) (x C dx t1 : Addr) (v : Value) : Prop where
  keep : ∀ b o, b ≠ x → h.get? b = some o → h'.get? b = some o
  obj : h'.get? x = some { cls := .ref C, dict := some dx, data := .fields #[.ref t1, .none, .none, .none, .bool false, .none] }
  dbig : h.objs.size ≤ dx
  dne : dx ≠ x
  ns : h'.Ns1 dx (fun y => if y = f then some v else none)
structure OwnMade (f : Str) (h h' : Heap) (e C d : Addr) (v : Value) : Prop where
  keep : ∀ b o, h.get? b = some o → h'.get? b = some o
  new : h.objs.size ≤ e
  obj : ∃ oe vs, h'.get? e = some oe ∧ oe.cls = .ref C ∧ oe.dict = some d ∧ oe.data = .fields vs ∧ vs[1]? = some .none
  dbig : h.objs.size ≤ d
  dne : d ≠ e
  ns : h'.Ns1 d (fun y => if y = f then some v else none)
section
variable {prog : Program} {w : World} {A : Around} {E : Value → Shared → Prop} {R : Result → Shared → Prop} {s : Shared} {K : Frag} {mg : Str → Option Value} {C fI : Addr} {cn f : Str}
theorem xi_init (T : XI K mg cn C fI f) {x t0 : Addr} {v : Value} (X : K.In s.heap) (hlim : s.heap.NoLimit) (hx : s.heap.get? x = some (excO C t0)) (hnx : K.lookup x = none) (hroom : A.depth < recursionLimit)
    (hq : ∀ h' tk dx, InitEnd f s.heap h' x C dx t0 v → R (.ok (.ret .none)) { s with heap := h', toks := tk }) :
    codeAny (model prog w) A (.call (.ref fI) ⟨[.ref x, v], []⟩) R s := by
  obtain ⟨oc, od, q, doc, pm, an, cdv, ct, osl, p1, p2, q1, q2, q3, q4, ho, hcd⟩ := T.fn
  obtain ⟨nm, qn, N, bs, bm, sn, sub, ab, col, dd, k0, k1, k2, k3, k5, hC, hbm⟩ := T.cls
  have hcl : clsIn K C = some { name := nm, bases := bs, mro := .ref C :: bm, ns := N, qualname := qn, hasDict := true, slotNames := sn, subclasses := sub, abstract := ab, collection := col, hasDel := false } := by unfold clsIn; rw [hC] <;> rfl
  have hsa := T.sa
  have hno := T.noN
  rcases T.hf with rfl | rfl | rfl
  all_goals (
    refine Att.call_fn (binds := [("self", .ref x), (_, v)]) X hlim ho hcd hroom (BindsTo.of_eq (by first | rfl | with_unfolding_all rfl)) (by first | rfl | decide | with_unfolding_all rfl) (fun s₁ IC => ?_) rfl rfl rfl
    obtain ⟨h₁, tk₁, rfl⟩ := IC.toInCall.same
    have k : ∀ b o, s.heap.get? b = some o → h₁.get? b = some o := IC.toInCall.keep
    have hn := IC.toInCall.ns
    have hxL : s.heap.objs.size ≠ x := Nat.ne_of_gt (Heap.lt_size hx)
    have X₁ : K.In h₁ := X.keeps k
    have hx₁ := k _ _ hx
    show wpAny _ _ (execs _ _) _ _ _
    refine wpAny_execs_cons (plainObj_wpAny_Assign_Attribute ?_)
    refine ldC (v := v) hn (by first | rfl | with_unfolding_all rfl | kernel_rfl) (ldC (v := .ref x) hn (by first | rfl | with_unfolding_all rfl | kernel_rfl) ?_)
    refine set_plain X₁ (ox := excO C t0) (od := none) ⟨hx₁, rfl, rfl, trivial⟩ hsa ?_
    refine exc_osa X₁ hx₁ hcl (show refsVE (.ref C :: bm) = true from hbm) rfl hno (fun h₃ tk₃ dx k₃ dn dne hx₃ hn₃ => ?_)
    show wpAny _ _ (execs _ _) _ _ _
    have z : s.heap.objs.size < h₁.objs.size := hn.lt
    exact wpAny_execs_nil (hq h₃ tk₃ dx ⟨fun b o hb e => k₃ b o hb (k b o e), hx₃, Nat.le_of_lt (Nat.lt_of_lt_of_le z dn), dne, hn₃⟩))
theorem xi_made (T : XI K mg cn C fI f) {v : Value} (X : K.In s.heap) (hlim : s.heap.NoLimit) (hroom : A.depth + 1 < recursionLimit)
    (hq : ∀ h' tk e d, OwnMade f s.heap h' e C d v → R (.ok (.ret (.ref e))) { s with heap := h', toks := tk }) :
    codeAny (model prog w) A (.call (.ref C) ⟨[v], []⟩) R s := by
  obtain ⟨nm, q, N, bs, bm, sn, sub, ab, col, dd, k0, k1, k2, k3, k5, hC, hbm⟩ := T.cls
  obtain ⟨hp, g, dr, tk, os⟩ := s
  have k : ∀ b o, hp.get? b = some o → ((hp.push (kdv_tup [v])).push (excO C hp.objs.size)).get? b = some o := fun b o e => Heap.get?_push_of_some _ (Heap.get?_push_of_some _ e)
  have hget : ((hp.push (kdv_tup [v])).push (excO C hp.objs.size)).get? (hp.objs.size + 1) = some (excO C hp.objs.size) := by heap_get
  have hnx : K.lookup (hp.objs.size + 1) = none := by
    cases e : K.lookup (hp.objs.size + 1) with
    | none => rfl
    | some o =>
      have z : hp.get? (hp.objs.size + 1) = some o := X _ _ e
      exact absurd (Nat.lt_of_succ_lt (Heap.lt_size z)) (Nat.lt_irrefl _)
  refine call_own F.excBase_ValueError (fun X => refsVE_contains X bm hbm) (X _ _ hC) (looks_findIn X T.iC) (fun self => bind_fn X self T.tC) (one_size v) ?_
  refine xi_init (s := ⟨(hp.push (kdv_tup [v])).push (excO C hp.objs.size), g, dr, tk, os⟩) T (X.keeps k) (hlim.keeps k) hget hnx ?_ fun h' tk' dx ⟨k', hx, dn, dne, hns⟩ => ?_
  · show A.depth + 1 < recursionLimit
    exact hroom
  · have old : ∀ b o, hp.get? b = some o → h'.get? b = some o := fun b o e => k' b o (Nat.ne_of_lt (Nat.lt_succ_of_lt (Heap.lt_size e))) (k b o e)
    have z : hp.objs.size + 1 + 1 ≤ dx := by
      first
        | (simpa only [Heap.size_push] using dn)
        | exact dn
        | (have q := dn; rw [Heap.size_push, Heap.size_push] at q; exact q)
    exact ⟨rfl, hq h' tk' (hp.objs.size + 1) dx ⟨old, Nat.le_succ _, ⟨_, _, hx, rfl, rfl, rfl, rfl⟩, Nat.le_trans (Nat.le_trans (Nat.le_succ _) (Nat.le_succ _)) z, dne, hns⟩⟩
end
end GX
end PySem
namespace G
open PySem PySem.Spec PyProof.Rows L2
theorem relO_one {f : Str} {v : V} {v' : Value} (r : RelV v v') (y : Str) : RelO (List.lookup y [(f, v)]) (if y = f then some v' else none) := by
  by_cases hw : y = f
  · subst hw
    rw [if_pos rfl]
    have q : List.lookup y [(y, v)] = some v := by simp [List.lookup]
    rw [q]
    exact r
  · rw [if_neg hw]
    have qw : (y == f) = false := by simpa using hw
    have q2 : List.lookup y [(f, v)] = none := by simp [List.lookup, qw]
    rw [q2]
    trivial
section
variable {X : Cx} {C fI : Addr} {cn f : Str}
def tMkX (C : Addr) (f : Str) (ta : TA) : L2.St → Hp → XK → Prop := fun σ H Q => ta σ H fun vs H1 => ∃ v, vs = [v] ∧ ∀ d, H1 d = none → Q (.ref C) (some d) (upd H1 d (.xd [(f, v)]))
theorem pmk_xi {a : Expr} {ta : TA} {p pos : Pos} {k : Nat} (T : PySem.GX.XI X.K X.mg cn C fI f) (hr : RoomG k X.A) (ha : PA X [a] ta) (hg : Gl X cn) (hdb : (cn == ("__debug__" : Str)) = false)
    (he : starEach (a :: []) X.env = (false, eval a X.env) :: starEach [] X.env) (hpl : (backTo pos (starEach [] X.env)).any (·.1) = false) :
    PMk X (.Call (.Name cn p) [a] [] pos) (tMkX C f ta) := by
  intro pins s σ H Q I h
  refine wpAny_Call_Name_kw (ld_glob I hg T.gC ?_ hdb)
  refine PySem.W.callWith_K (h₀ := X.base) I.ok.mod.kin T.kC (thn (ha.run pos pins s σ H _ I h) fun us s1 hh => ?_) he hpl
  obtain ⟨vs, H1, I1, r1, v, ev, q1⟩ := hh
  subst ev
  refine ⟨I1.kIn, ?_⟩
  cases r1 with
  | cons rv rn =>
    rename_i v' us'
    cases rn
    show wpAny _ _ (call (.ref C) [v']) _ _ _
    have hlim := I1.nolimit
    obtain ⟨hp, g, dr, tk, os⟩ := s1
    refine wpAny_call (PySem.GX.xi_made T I1.kIn hlim (by have := hr.dp; omega) fun h' tk' e d M => ?_)
    show MkP X pins σ Q (.ref e) ⟨h', g, dr, tk', os⟩
    obtain ⟨oe, fv, hoe, hc, hd, hdat, h1⟩ := M.obj
    have hns := M.ns
    obtain ⟨G', g1, g2⟩ := restrict h' fun b => decide (b ≠ e)
    have gk : ∀ b, b ≠ e → G'.get? b = h'.get? b := fun b hb => g1 b (decide_eq_true hb)
    have ge : G'.get? e = none := g2 e (by simp)
    have old : ∀ b o, hp.get? b = some o → G'.get? b = some o := fun b o q => (gk b (Nat.ne_of_lt (Nat.lt_of_lt_of_le (Heap.lt_size q) M.new))).trans (M.keep b o q)
    have ob : ObjOk X.prog X.w (upd H1 d (.xd [(f, v)])) G' d (.xd [(f, v)]) :=
      ⟨_, hns.at (fun o q => (gk d M.dne).trans q), fun f => relO_one rv f⟩
    have J : Inv X pins σ (upd H1 d (.xd [(f, v)])) ⟨G', g, dr, tk', os⟩ := I1.laid (t' := tk') old M.dbig ob
    refine ⟨e, oe, fv, ⟨G', g, dr, tk', os⟩, _, .ref C, some d, rfl, J, fun b o q => ?_, ge, hoe, ⟨hc, hd⟩, hdat, h1, ?_, rfl, I1.bare, raises_own T.exC T.tyC, q1 d (I1.hok.fresh M.dbig)⟩
    · by_cases hb : b = e
      · have q' : G'.get? b = some o := q
        rw [hb, ge] at q'; cases q'
      · exact (gk b hb).symm.trans q
    · rw [upd_ne (Ne.symm M.dne)]
      exact I1.hok.fresh M.new
end
def RX (K : PySem.W.Frag) (mg : Str → Option Value) (x f : Str) : Prop := ∃ C fI, PySem.GX.XI K mg x C fI f
def raiseS (cl f : Str) (fa : EvE) : SvS := fun env st => bindS (fa env st) env fun d st1 => .exc ⟨cl, f, d⟩ env st1
section
variable {X : Cx} {W : WX} {x f : Str} {a : Expr} {fa : EvE} {p pos pos2 : Pos} {k : Nat}
theorem s_raise (hc : X.calm = true) (T : RX X.K X.mg x f) (hr : RoomG k X.A) (tk : Takes X W) (ha : PE X a (rdE X.K W fa)) (hg : Gl X x) (hdb : (x == ("__debug__" : Str)) = false)
    (he : starEach (a :: []) X.env = (false, eval a X.env) :: starEach [] X.env) (hpl : (backTo pos (starEach [] X.env)).any (·.1) = false) :
    PS X (.Raise (some (.Call (.Name x p) [a] [] pos)) none pos2) (rdS X.K W (raiseS x f fa)) := by
  obtain ⟨C, fI, T⟩ := T
  refine (ps_raise hc tk (pmk_xi T hr (pa_cons ha pa_nil he) hg hdb he hpl)).imp ?_
  rintro D σ H ⟨env, M, st, eo, so, po⟩
  refine ⟨env, M, st, eo, so, Post.imp (PostS.bind eo po) fun v H1 ⟨M1, st1, d, g, so1, ra, p1⟩ => ⟨v, rfl, fun dd hd => ?_⟩⟩
  refine p1 M1 _ σ (.ref C) (some dd) (.laid so1 hd) (so1.laid hd) ((eo.grow g).grow (.laid so1 hd)) ⟨T.nC, .inr ⟨?_, dd, v, rfl, upd_same, so1.notin hd, ra.grow (.laid so1 hd)⟩⟩
  show f ≠ ""
  rcases T.hf with rfl | rfl | rfl <;> decide
end
end G
set_option maxHeartbeats 2000000
namespace L2
open PySem PySem.Spec PyProof.Rows
abbrev CTS := Value × Option Nat × (Addr → Value → Option Addr → TS)
def atS (oi : Option Nat) (a : Addr) (t : TS) : TS := match oi with
  | none => t
  | some i => fun D σ H => t { nx := fun σ' H' => D.nx (σ'.set i none) H', rt := D.rt, bk := fun σ' H' => D.bk (σ'.set i none) H', ct := fun σ' H' => D.ct (σ'.set i none) H' } (σ.set i (some (.ref a))) H
def wManyA (K : PySem.W.Frag) (Wout : WX) (D : Ends) : List CTS → WX
  | [] => Wout
  | (c, oi, ts) :: r => fun cls d σ H => ∃ b, PySem.W.exmOne K cls c = some b ∧ (b = true → ∀ a, H a = none → atS oi a (ts a cls d) D σ H) ∧ (b = false → wManyA K Wout D r cls d σ H)
inductive HdsA (X : Cx) : List ExceptHandler → List CTS → Prop
  | nil : HdsA X [] []
  | cons {x : Str} {c : Value} {ts : Addr → Value → Option Addr → TS} {b₀ : Stmt} {suite : List Stmt} {np pos' : Pos} {hds : List ExceptHandler} {l : List CTS} (hc : Names X x c)
      (hsu : ∀ (a : Addr) (oe : Obj) (cls : Value) (d : Option Addr) (pn : List (Addr × Obj)), Zc cls d oe → (∃ vs, oe.data = .fields vs) → PSs (X.suite a ((a, oe) :: pn)) (b₀ :: suite) (ts a cls d)) (r : HdsA X hds l) :
      HdsA X (.ExceptHandler (some (.Name x np)) none (b₀ :: suite) pos' :: hds) ((c, none, ts) :: l)
  | consA {x n : Str} {i : Nat} {c : Value} {ts : Addr → Value → Option Addr → TS} {b₀ : Stmt} {suite : List Stmt} {np pos' : Pos} {hds : List ExceptHandler} {l : List CTS} (hc : Names X x c) (hi : X.N[i]? = some n) (hln : X.env.kindOf n = some .local)
      (hsu : ∀ (a : Addr) (oe : Obj) (cls : Value) (d : Option Addr) (pn : List (Addr × Obj)), Zc cls d oe → (∃ vs, oe.data = .fields vs) → PSs (X.suite a ((a, oe) :: pn)) (b₀ :: suite) (ts a cls d)) (r : HdsA X hds l) :
      HdsA X (.ExceptHandler (some (.Name x np)) (some n) (b₀ :: suite) pos' :: hds) ((c, some i, ts) :: l)
section
variable {X : Cx} {body : List Stmt} {h₀ : ExceptHandler} {hds : List ExceptHandler} {l : List CTS} {pos : Pos} {tb : WX → TS} {Wout : WX}
theorem ps_try_manyA (hs : X.stack = X.env :: X.outer) (hf : X.env.frame = some X.env.locals) (hN : X.N.Nodup) (tk : Takes X Wout)
    (hb : ∀ (W : WX) (pn : List (Addr × Obj)) (xe : Value → Shared → Prop), Takes (X.tr pn xe) W → PassesOwn (model X.prog X.w) X.A X.env xe → PSs (X.tr pn xe) body (tb W))
    (hh : HdsA X (h₀ :: hds) l) : PS X (.Try body (h₀ :: hds) [] [] pos) (fun D σ H => tb (wManyA X.K Wout D l) D σ H) := by
  refine ⟨fun pins s σ H D I h => ?_⟩
  have ok := I.ok
  have hfr : X.A.frames = some (X.env :: X.outer) := by rw [ok.frames, hs]
  refine wpAny_Try_except ?_
  refine wpAny_mono ((hb (wManyA X.K Wout D l) (X.pn ++ pins) (fun e s₁ => wpAny (model X.prog X.w) X.A (noteFrame e X.env) (fun _ s₂ => wpAny (model X.prog X.w) X.A (setFlight e none) (fun _ s₃ =>
    wpAny (model X.prog X.w) X.A (handleBy e X.env (h₀ :: hds)) (SP X pins D) X.xe s₃) X.xe s₂) X.xe s₁) (fun u s' xx => ?_) PassesOwn.looking).run [] s σ H D (I.toTry _) h) (fun f s1 hsp => ?_) (fun e s1 he => he)
  · -- the catch
    obtain ⟨a, B, sI, pins', σ', H', cls, d, rfl, J', nb, up, sky, na, os, ag, w⟩ := xx
    have J : Inv X pins σ' H' sI := J'.ofTry ok
    have sky' : Sky B (X.env :: X.outer) a (Zc cls d) X.env.locals s'.heap := by rw [← hs]; exact sky
    show wpAny (model X.prog X.w) X.A (noteFrame (.ref a) X.env) _ _ _
    refine Sky.land Zc.steady hfr hf sky' fun h3 fl3 up3 => ?_
    have J3 : Inv X pins σ' H' { s' with heap := h3 } := J.landed nb fl3.1 (up.trans up3) os ag
    obtain ⟨oe3, vs3, he3, hz3, hd3⟩ := fl3.there
    have notFr : ∀ {h : Heap} {o : Obj} {vs : Array Value}, h.FunFrames B (X.env :: X.outer) → h.get? a = some o → o.data = .fields vs → a ∉ frs (X.env :: X.outer) := fun {h o vs} ff e dd hm => by
      obtain ⟨_, o', e', hnf⟩ := ff.mem hm
      rw [e] at e'; cases e'
      exact hnf _ dd
    have nfr := notFr fl3.2.2.1 he3 hd3
    have nL : a ≠ X.env.locals := fun z => nfr (List.mem_filterMap.mpr ⟨X.env, List.mem_cons_self, by rw [hf, z]⟩)
    have nF : a ∉ X.fs := fun hm => by
      obtain ⟨e, he, q⟩ := List.mem_filterMap.mp hm
      exact nfr (List.mem_filterMap.mpr ⟨e, List.mem_cons_of_mem _ he, q⟩)
    have S3 := J3.suite he3 hd3 na nL nF
    have go : ∀ {hds' : List ExceptHandler} {l' : List CTS}, HdsA X hds' l' → wManyA X.K Wout D l' cls d σ' H' →
        wpAny (model X.prog X.w) X.A (handleBy (.ref a) X.env hds') (SP X pins D) X.xe { s' with heap := h3 } := by
      intro hds' l' hk
      induction hk with
      | nil =>
        intro w
        refine wpAny_handleBy_nil ?_
        obtain ⟨k1, k2, k3, oe, vs, T, oT, ts', he, hz, hd, h1, hr⟩ := id fl3
        unfold PySem.passOn
        refine wpAny_bind (wpAny_field he hd h1 ?_)
        rw [if_neg (show ¬ ((Value.ref T == Value.none) = true) from by simp)]
        have fin : wpAny (model X.prog X.w) X.A (setFlight (.ref a) X.env.frame) (fun _ s4 => wpAny (model X.prog X.w) X.A (throw (.ref a) : Sem Flow) (SP X pins D) X.xe s4) X.xe { s' with heap := h3 } := by
          rw [hf]
          refine HandSPX.setFlight_upZ fl3 fun h4 hh4 up4 => wpAny_throw (tk _ _ ?_)
          exact ⟨a, B, sI, pins, σ', H', cls, d, rfl, J, nb, (up.trans up3).trans up4, .inr (.inr (by rw [hs]; exact hh4)), na, os, ag, w⟩
        first
          | exact wpAny_bind (wpAny_pure (wpAny_bind fin))
          | exact wpAny_bind fin
      | @cons x c ts b₀ suite np pos' hds2 l2 hc hsu r ih =>
        intro w
        obtain ⟨b, hb1, hyes, hno⟩ := w
        refine wpAny_handleBy_cons (codeAny_handlers_test ?_) (by intro q; cases q)
        have LT : PySem.W.Looks (model X.prog X.w) h3 (typeOf (.ref a)) cls := fun A Q E s k q => wpAny_typeOf_ref (k _ _ he3) (by rw [hz3.1]; exact q)
        have LM := PySem.W.exm_one (M := model X.prog X.w) (J3.kIn) LT hb1
        have test : ∀ {Q : Value → Shared → Prop} {E : Value → Shared → Prop}, Q c { s' with heap := h3 } → wpAny (model X.prog X.w) (X.A.mark (some (.ref a))) (eval (.Name x np) X.env) Q E { s' with heap := h3 } := fun {Q E} q => by
          obtain ⟨hg, hdbg, hm | ⟨hm, hv, hnn⟩⟩ := hc
          · exact ld_glob (X := X.suite a ((a, oe3) :: (X.pn ++ pins))) S3 hg hm q hdbg
          · exact ld_blt (X := X.suite a ((a, oe3) :: (X.pn ++ pins))) S3 hg hm hv q hnn hdbg
        refine test (LM.here ?_)
        cases b with
        | true =>
          refine codeAny_handlers_suite ?_
          refine HandSPX.lands_againZ fl3 fun h4 fl4 up4 => ?_
          have J4 : Inv X pins σ' H' { s' with heap := h4 } := J.landed nb fl4.1 ((up.trans up3).trans up4) os ag
          obtain ⟨oe4, vs4, he4, hz4, hd4⟩ := fl4.there
          have S4 := J4.suite he4 hd4 na nL nF
          refine wpAny_mono ((hsu a oe4 cls d (X.pn ++ pins) hz4 ⟨_, hd4⟩).run [] _ _ H' _ S4 (hyes rfl a na)) (fun f s6 hsp => ?_) (fun _ _ z => False.elim z)
          cases f with
          | next =>
            obtain ⟨σ6, H6, S6, q6⟩ := hsp
            exact ⟨_, _, S6.unsuite ok, q6⟩
          | brk =>
            obtain ⟨σ6, H6, S6, q6⟩ := hsp
            exact ⟨_, _, S6.unsuite ok, q6⟩
          | cont =>
            obtain ⟨σ6, H6, S6, q6⟩ := hsp
            exact ⟨_, _, S6.unsuite ok, q6⟩
          | ret u =>
            obtain ⟨v6, σ6, H6, S6, r6, q6⟩ := hsp
            exact ⟨_, _, _, S6.unsuite ok, r6, q6⟩
        | false =>
          show wpAny _ X.A (handleBy (.ref a) X.env hds2) _ _ _
          exact ih (hno rfl)
      | @consA x n i c ts b₀ suite np pos' hds2 l2 hc hi hln hsu r ih =>
        intro w
        obtain ⟨b, hb1, hyes, hno⟩ := w
        have hloc : Loc X.env.scope n := .inl hln
        refine wpAny_handleBy_cons (codeAny_handlers_test ?_) (by intro q; cases q)
        have LT : PySem.W.Looks (model X.prog X.w) h3 (typeOf (.ref a)) cls := fun A Q E s k q => wpAny_typeOf_ref (k _ _ he3) (by rw [hz3.1]; exact q)
        have LM := PySem.W.exm_one (M := model X.prog X.w) (J3.kIn) LT hb1
        have test : ∀ {Q : Value → Shared → Prop} {E : Value → Shared → Prop}, Q c { s' with heap := h3 } → wpAny (model X.prog X.w) (X.A.mark (some (.ref a))) (eval (.Name x np) X.env) Q E { s' with heap := h3 } := fun {Q E} q => by
          obtain ⟨hg, hdbg, hm | ⟨hm, hv, hnn⟩⟩ := hc
          · exact ld_glob (X := X.suite a ((a, oe3) :: (X.pn ++ pins))) S3 hg hm q hdbg
          · exact ld_blt (X := X.suite a ((a, oe3) :: (X.pn ++ pins))) S3 hg hm hv q hnn hdbg
        refine test (LM.here ?_)
        cases b with
        | true =>
          refine codeAny_handlers_suite_as ?_
          refine HandSPX.lands_againZ fl3 fun h4 fl4 up4 => ?_
          have J4 : Inv X pins σ' H' { s' with heap := h4 } := J.landed nb fl4.1 ((up.trans up3).trans up4) os ag
          obtain ⟨oe4, vs4, he4, hz4, hd4⟩ := fl4.there
          have S4 := J4.suite he4 hd4 na nL nF
          refine store_ok (X := X.suite a ((a, oe4) :: (X.pn ++ pins))) (v := .ref a) S4 hN hi hloc rfl (fun s5 S5 => ?_) (.inr hln)
          refine wpAny_mono ((hsu a oe4 cls d (X.pn ++ pins) hz4 ⟨_, hd4⟩).run [] s5 _ H' _ S5 (hyes rfl a na)) (fun f s6 hsp => ?_) (fun _ _ z => False.elim z)
          have end_ : ∀ {σ6 : St} {H6 : Hp} {Q : Shared → Prop}, Inv (X.suite a ((a, oe4) :: (X.pn ++ pins))) [] σ6 H6 s6 → (∀ s7, Inv X pins (σ6.set i none) H6 s7 → Q s7) →
              wpAny (model X.prog X.w) X.A (do bindName X.env n .none; unbindBehindTheSuite X.env n pos') (fun _ s7 => Q s7) X.xe s6 := fun {σ6 H6 Q} S6 hq => gone_ok (S6.unsuite ok) hN hi hln hq
          cases f with
          | next =>
            obtain ⟨σ6, H6, S6, q6⟩ := hsp
            exact end_ S6 fun s7 J7 => ⟨_, _, J7, q6⟩
          | brk =>
            obtain ⟨σ6, H6, S6, q6⟩ := hsp
            exact end_ S6 fun s7 J7 => ⟨_, _, J7, q6⟩
          | cont =>
            obtain ⟨σ6, H6, S6, q6⟩ := hsp
            exact end_ S6 fun s7 J7 => ⟨_, _, J7, q6⟩
          | ret u =>
            obtain ⟨v6, σ6, H6, S6, r6, q6⟩ := hsp
            exact end_ S6 fun s7 J7 => ⟨_, _, _, J7, r6, q6⟩
        | false =>
          show wpAny _ X.A (handleBy (.ref a) X.env hds2) _ _ _
          exact ih (hno rfl)
    exact go hh w
  · cases f with
    | next =>
      obtain ⟨σ', H', J', q⟩ := hsp
      exact wpAny_execs_nil ⟨σ', H', J'.ofTry ok, q⟩
    | brk =>
      obtain ⟨σ', H', J', q⟩ := hsp
      exact ⟨σ', H', J'.ofTry ok, q⟩
    | cont =>
      obtain ⟨σ', H', J', q⟩ := hsp
      exact ⟨σ', H', J'.ofTry ok, q⟩
    | ret u =>
      obtain ⟨v, σ', H', J', r, q⟩ := hsp
      exact ⟨v, σ', H', J'.ofTry ok, r, q⟩
end
end L2
set_option maxHeartbeats 2000000
namespace G
open PySem PySem.Spec PyProof.Rows L2
abbrev Tab := List (Str × Str)
def excTest (tab : Tab) (e c : Str) : Option Bool :=
  if (tab.map (·.1)).contains e then if c = "LapError" ∨ c = "ValueError" then some true else if (tab.map (·.1)).contains c then some (decide (e = c)) else none else none
def clsV (K : PySem.W.Frag) (c : Str) : Option Value := if c = "ValueError" then some (.type "ValueError") else match PySem.W.nsIn K mainGlobals c with
  | some (some v) => some v
  | _ => none
def allN (tab : Tab) : List Str := [("LapError" : Str), ("ValueError" : Str)] ++ tab.map (·.1)
def rowB (K : PySem.W.Frag) (tab : Tab) (x f : Str) : Bool := match PySem.W.nsIn K mainGlobals x with
  | some (some (.ref C)) =>
    (PySem.W.findIn K (.ref C) "__getattribute__" == some (some (.builtin "BaseException.__getattribute__"))) && (PySem.W.findIn K (.ref C) "__getattr__" == some none) && (PySem.W.subIn K (.ref C) (.type "BaseException") == some true) &&
    PySem.W.hasDictIn K C && (PySem.W.findIn K (.ref C) "__class__" == some (some (.builtin "object.__class__"))) && (PySem.W.mroIn K C (.type "object") == some true) && (f == "" || PySem.W.findIn K (.ref C) f == some none) &&
    (allN tab).all fun c => match clsV K c with
      | some v => (PySem.W.exmOne K (.ref C) v == excTest tab x c) && (PySem.W.kitOne K (.ref C) v == excTest tab x c)
      | none => false
  | _ => false
def tabB (K : PySem.W.Frag) (tab : Tab) : Bool :=
  (tab.all fun p => rowB K tab p.1 p.2) && (PySem.W.specialIn K (.builtin "object.__class__") "__get__" == some (some (.builtin "getset_descriptor.__get__"))) && (PySem.W.takesIn K (.builtin "object.__class__") == some true)
structure XT (K : PySem.W.Frag) (mg : Str → Option Value) (tab : Tab) : Prop where
  ns : ∀ x v, PySem.W.nsIn K mainGlobals x = some (some v) → mg x = some v
  ve : mg "ValueError" = none
  tb : tabB K tab = true
section
variable {K : PySem.W.Frag} {mg : Str → Option Value} {tab : Tab} {x f : Str} {C : Addr}
theorem XT.row (T : XT K mg tab) (hm : (x, f) ∈ tab) : rowB K tab x f = true := by
  have := T.tb
  unfold tabB at this
  rw [Bool.and_eq_true, Bool.and_eq_true] at this
  exact List.all_eq_true.mp this.1.1 _ hm
structure RowOk (K : PySem.W.Frag) (tab : Tab) (x f : Str) (C : Addr) : Prop where
  ga : PySem.W.findIn K (.ref C) "__getattribute__" = some (some (.builtin "BaseException.__getattribute__"))
  gg : PySem.W.findIn K (.ref C) "__getattr__" = some none
  exC : PySem.W.subIn K (.ref C) (.type "BaseException") = some true
  hd : PySem.W.hasDictIn K C = true
  ha : PySem.W.findIn K (.ref C) "__class__" = some (some (.builtin "object.__class__"))
  hm : PySem.W.mroIn K C (.type "object") = some true
  no : f ≠ "" → PySem.W.findIn K (.ref C) f = some none
  ts : ∀ c ∈ allN tab, ∃ v, clsV K c = some v ∧ PySem.W.exmOne K (.ref C) v = excTest tab x c ∧ PySem.W.kitOne K (.ref C) v = excTest tab x c
theorem XT.at_ (T : XT K mg tab) (hm : (x, f) ∈ tab) : ∃ C, PySem.W.nsIn K mainGlobals x = some (some (.ref C)) ∧ RowOk K tab x f C := by
  have h := T.row hm
  unfold rowB at h
  split at h
  · rename_i C e
    simp only [Bool.and_eq_true, Bool.or_eq_true, beq_iff_eq] at h
    obtain ⟨⟨⟨⟨⟨⟨⟨h1, h2⟩, h3⟩, h4⟩, h5⟩, h6⟩, h7⟩, h8⟩ := h
    refine ⟨C, e, h1, h2, h3, h4, h5, h6, fun nf => h7.resolve_left nf, fun c hc => ?_⟩
    have := List.all_eq_true.mp h8 c hc
    split at this
    · rename_i v ev
      simp only [Bool.and_eq_true, beq_iff_eq] at this
      exact ⟨v, ev, this⟩
    · cases this
  · cases h
theorem tab_of {tab : Tab} {e c : Str} {b : Bool} (h : excTest tab e c = some b) : (∃ f, (e, f) ∈ tab) ∧ c ∈ allN tab := by
  unfold excTest at h
  split at h
  · rename_i h1
    have h1 : e ∈ tab.map (·.1) := by simpa using h1
    obtain ⟨⟨e', f⟩, hm, rfl⟩ := List.mem_map.mp h1
    refine ⟨⟨f, hm⟩, ?_⟩
    split at h
    · rename_i h2
      rcases h2 with rfl | rfl <;> simp [allN]
    · split at h
      · rename_i h3
        have h3 : c ∈ tab.map (·.1) := by simpa using h3
        exact List.mem_append_right _ h3
      · cases h
  · cases h
end
abbrev SvX := Addr → Value → Option Addr → SvS
def clrS (i : Nat) : S → S
  | .nx env st => .nx (env.set i none) st
  | .brk env st => .brk (env.set i none) st
  | .cont env st => .cont (env.set i none) st
  | .ret d st => .ret d st
  | _ => .fail
def noXS : S → S
  | .exc _ _ _ => .fail
  | s => s
abbrev Hdl := Str × Option Nat × SvX
def runH (oi : Option Nat) (B : SvX) (e : Ex) : SvS := fun env st => match oi with
  | none => noXS (B 0 .none none env st)
  | some i => clrS i (B 0 .none none (env.set i (some (.exv 0 .none none e.cls e.f e.d))) st)
def handS (tab : Tab) : List Hdl → Ex → SvS
  | [], e => fun env st => .exc e env st
  | (c, oi, B) :: r, e => fun env st => match excTest tab e.cls c with
    | some true => runH oi B e env st
    | some false => handS tab r e env st
    | none => .fail
def tryS (tab : Tab) (B : SvS) (hs : List Hdl) : SvS := fun env st => match B env st with
  | .exc e env1 st1 => handS tab hs e env1 st1
  | s => s
def IndX (oi : Option Nat) (B : SvX) : Prop := match oi with
  | none => ∀ (a : Addr) (c : Value) (od : Option Addr) (env : Env) (st : Sto), B a c od env st = B 0 .none none env st
  | some i => ∀ (a : Addr) (c : Value) (od : Option Addr) (cl f : Str) (d : D) (env : Env) (st : Sto), clrS i (B a c od (env.set i (some (.exv a c od cl f d))) st) = clrS i (B 0 .none none (env.set i (some (.exv 0 .none none cl f d))) st)
inductive HdsG (X : Cx) : List ExceptHandler → List Hdl → Prop
  | nil : HdsG X [] []
  | cons {x : Str} {B : SvX} {b₀ : Stmt} {suite : List Stmt} {np pos' : Pos} {hds : List ExceptHandler} {l : List Hdl} (hg : Gl X x) (hd : (x == ("__debug__" : Str)) = false) (ind : IndX none B)
      (hsu : ∀ (a : Addr) (oe : Obj) (cls : Value) (d : Option Addr) (pn : List (Addr × Obj)), Zc cls d oe → (∃ vs, oe.data = .fields vs) → PSs (X.suite a ((a, oe) :: pn)) (b₀ :: suite) (rdS X.K W0 (B a cls d))) (r : HdsG X hds l) :
      HdsG X (.ExceptHandler (some (.Name x np)) none (b₀ :: suite) pos' :: hds) ((x, none, B) :: l)
  | consA {x n : Str} {i : Nat} {B : SvX} {b₀ : Stmt} {suite : List Stmt} {np pos' : Pos} {hds : List ExceptHandler} {l : List Hdl} (hg : Gl X x) (hd : (x == ("__debug__" : Str)) = false) (hi : X.N[i]? = some n) (hln : X.env.kindOf n = some .local) (ind : IndX (some i) B)
      (hsu : ∀ (a : Addr) (oe : Obj) (cls : Value) (d : Option Addr) (pn : List (Addr × Obj)), Zc cls d oe → (∃ vs, oe.data = .fields vs) → PSs (X.suite a ((a, oe) :: pn)) (b₀ :: suite) (rdS X.K W0 (B a cls d))) (r : HdsG X hds l) :
      HdsG X (.ExceptHandler (some (.Name x np)) (some n) (b₀ :: suite) pos' :: hds) ((x, some i, B) :: l)
theorem boot_VE : bootBuiltins "ValueError" = some (.type "ValueError") := by decide +kernel
section
variable {X : Cx} {tab : Tab}
theorem XT.names (T : XT X.K X.mg tab) {x : Str} (hg : Gl X x) (hd : (x == ("__debug__" : Str)) = false) {v : Value} (hv : clsV X.K x = some v) : Names X x v := by
  unfold clsV at hv
  split at hv
  · rename_i e
    subst e
    cases hv
    exact ⟨hg, hd, .inr ⟨T.ve, boot_VE, by decide⟩⟩
  · split at hv
    · rename_i u e
      cases hv
      exact ⟨hg, hd, .inl (T.ns _ _ e)⟩
    · cases hv
def valsH (K : PySem.W.Frag) (Q : SvX → Addr → Value → Option Addr → TS) (l : List Hdl) : List CTS := l.map fun h => ((clsV K h.1).getD .none, h.2.1, Q h.2.2)
theorem HdsG.ok (T : XT X.K X.mg tab) {hds : List ExceptHandler} {l : List Hdl} (h : HdsG X hds l) (hk : ∀ q ∈ l, (clsV X.K q.1).isSome = true) : HdsA X hds (valsH X.K (fun B a c d => rdS X.K W0 (B a c d)) l) := by
  induction h with
  | nil => exact .nil
  | cons hg hd ind hsu r ih =>
    obtain ⟨v, hv⟩ := Option.isSome_iff_exists.mp (hk _ List.mem_cons_self)
    refine HdsA.cons ?_ hsu (ih fun q hq => hk q (List.mem_cons_of_mem _ hq))
    show Names X _ ((clsV X.K _).getD .none)
    rw [hv]
    exact T.names hg hd hv
  | consA hg hd hi hln ind hsu r ih =>
    obtain ⟨v, hv⟩ := Option.isSome_iff_exists.mp (hk _ List.mem_cons_self)
    refine HdsA.consA ?_ hi hln hsu (ih fun q hq => hk q (List.mem_cons_of_mem _ hq))
    show Names X _ ((clsV X.K _).getD .none)
    rw [hv]
    exact T.names hg hd hv
theorem PostS.noXS {K : PySem.W.Frag} {M : Mem} {H : Hp} {T : Ends} {W W' : WX} {s : S} (p : PostS K M H T W (noXS s)) : PostS K M H T W' s := by
  cases s <;> first | exact p | exact p.elim
theorem PostS.clr {K : PySem.W.Frag} {M : Mem} {H : Hp} {T : Ends} {W W' : WX} {s : S} {i : Nat} (p : PostS K M H T W (clrS i s)) :
    PostS K M H { nx := fun σ' H' => T.nx (σ'.set i none) H', rt := T.rt, bk := fun σ' H' => T.bk (σ'.set i none) H', ct := fun σ' H' => T.ct (σ'.set i none) H' } W' s := by
  cases s with
  | nx env st => exact fun M' H' σ' g so eo => p M' H' _ g so (eo.none i)
  | brk env st => exact fun M' H' σ' g so eo => p M' H' _ g so (eo.none i)
  | cont env st => exact fun M' H' σ' g so eo => p M' H' _ g so (eo.none i)
  | ret d st => exact p
  | exc e env st => exact p.elim
  | fail => exact p.elim
theorem hand_ok (T : XT X.K X.mg tab) {Wout : WX} {D : Ends} {l : List Hdl} (hind : ∀ q ∈ l, IndX q.2.1 q.2.2) {e : Ex} {env : Env} {st : Sto} {M : Mem} {H : Hp} {σ : L2.St} {c : Value} {od : Option Addr}
    (p : PostS X.K M H D Wout (handS tab l e env st)) (so : StOk X.K M H st) (eo : EnvOk X.K M H env σ) (rx : RepX X.K M H e c od) :
    wManyA X.K Wout D (valsH X.K (fun B a c d => rdS X.K W0 (B a c d)) l) c od σ H := by
  induction l with
  | nil =>
    unfold handS at p
    exact p M H σ c od .refl so eo rx
  | cons h l ih =>
    obtain ⟨x, oi, B⟩ := h
    have i1 : IndX oi B := hind _ List.mem_cons_self
    unfold handS at p
    cases ht : excTest tab e.cls x with
    | none => simp only [ht] at p; exact p.elim
    | some b =>
      simp only [ht] at p
      obtain ⟨⟨f, hf⟩, hc⟩ := tab_of ht
      obtain ⟨C, hC, R⟩ := T.at_ hf
      have ec : c = .ref C := by
        have := rx.1
        rw [hC] at this
        cases this; rfl
      subst ec
      obtain ⟨v, hv, hx, _⟩ := R.ts x hc
      refine ⟨b, ?_, fun eb a ha => ?_, fun eb => ?_⟩
      · show PySem.W.exmOne X.K (.ref C) ((clsV X.K x).getD .none) = some b
        rw [hv]
        exact hx.trans ht
      · subst eb
        have p : PostS X.K M H D Wout (runH oi B e env st) := p
        unfold runH at p
        cases oi with
        | none =>
          simp only at p
          refine ⟨env, M, st, eo, so, ?_⟩
          have i1 : ∀ (a : Addr) (c : Value) (od : Option Addr) (env : Env) (st : Sto), B a c od env st = B 0 .none none env st := i1
          show PostS X.K M H D W0 (B a (.ref C) od env st)
          rw [i1]
          exact p.noXS
        | some i =>
          simp only at p
          have i1 : ∀ (a : Addr) (c : Value) (od : Option Addr) (cl f : Str) (d : _root_.G.D) (env : Env) (st : Sto), clrS i (B a c od (env.set i (some (.exv a c od cl f d))) st) = clrS i (B 0 .none none (env.set i (some (.exv 0 .none none cl f d))) st) := i1
          rw [← i1 a (.ref C) od] at p
          refine ⟨env.set i (some (.exv a (.ref C) od e.cls e.f e.d)), M, st, eo.set i ?_, so, p.clr⟩
          unfold Rep
          exact ⟨rfl, rx.1, rx.2⟩
      · subst eb
        exact ih (fun q hq => hind q (List.mem_cons_of_mem _ hq)) p
theorem HdsG.ind {hds : List ExceptHandler} {l : List Hdl} (h : HdsG X hds l) : ∀ q ∈ l, IndX q.2.1 q.2.2 := by
  induction h with
  | nil => intro q hq; cases hq
  | cons hg hd ind hsu r ih =>
    intro q hq
    rcases List.mem_cons.mp hq with rfl | hq
    · exact ind
    · exact ih q hq
  | consA hg hd hi hln ind hsu r ih =>
    intro q hq
    rcases List.mem_cons.mp hq with rfl | hq
    · exact ind
    · exact ih q hq
theorem cls_known (T : XT X.K X.mg tab) (ht : tab ≠ []) {c : Str} (h : c = "LapError" ∨ c = "ValueError" ∨ c ∈ tab.map (·.1)) : (clsV X.K c).isSome = true := by
  obtain ⟨p, hp⟩ := List.exists_mem_of_ne_nil _ ht
  obtain ⟨x, f⟩ := p
  obtain ⟨C, _, R⟩ := T.at_ hp
  obtain ⟨v, hv, _⟩ := R.ts c (by rcases h with rfl | rfl | h <;> simp_all [allN])
  rw [hv]; rfl
theorem s_try {W : WX} {body : List Stmt} {B : SvS} {h₀ : ExceptHandler} {hds : List ExceptHandler} {l : List Hdl} {pos : Pos} (T : XT X.K X.mg tab) (ht : tab ≠ []) (hk : ∀ q ∈ l, q.1 = "LapError" ∨ q.1 = "ValueError" ∨ q.1 ∈ tab.map (·.1))
    (hs : X.stack = X.env :: X.outer) (hf : X.env.frame = some X.env.locals) (hN : X.N.Nodup) (tk : Takes X W)
    (hb : ∀ (W : WX) (pn : List (Addr × Obj)) (xe : Value → Shared → Prop), Takes (X.tr pn xe) W → PassesOwn (model X.prog X.w) X.A X.env xe → PSs (X.tr pn xe) body (rdS X.K W B))
    (hh : HdsG X (h₀ :: hds) l) : PS X (.Try body (h₀ :: hds) [] [] pos) (rdS X.K W (tryS tab B l)) := by
  refine (ps_try_manyA (tb := fun W => rdS X.K W B) hs hf hN tk hb (hh.ok T fun q hq => cls_known T ht (hk q hq))).imp ?_
  rintro D σ H ⟨env, M, st, eo, so, p⟩
  refine ⟨env, M, st, eo, so, ?_⟩
  unfold tryS at p
  cases e : B env st with
  | nx env1 st1 => rw [e] at p; exact p
  | ret d st1 => rw [e] at p; exact p
  | brk env1 st1 => rw [e] at p; exact p
  | cont env1 st1 => rw [e] at p; exact p
  | exc x env1 st1 =>
    rw [e] at p
    exact fun M' H' σ' c od g so' eo' rx => hand_ok T hh.ind (PostS.mono g p) so' eo' rx
  | fail => rw [e] at p; exact p
end
def xfE (tab : Tab) (a : Addr) (c : Value) (od : Option Addr) (i : Nat) (f : Str) : EvE := fun env st => match env[i]? with
  | some (some (.exv a' c' od' cl f' d)) => if (a' = a ∧ c' = c ∧ od' = od) ∧ f' = f ∧ f ≠ "" ∧ (cl, f) ∈ tab then .ok d st else .fail
  | _ => .fail
def xiE (tab : Tab) (a : Addr) (c : Value) (od : Option Addr) (i : Nat) (x : Str) : EvE := fun env st => match env[i]? with
  | some (some (.exv a' c' od' cl f' d)) => if (a' = a ∧ c' = c ∧ od' = od) ∧ (f' = "" ∨ f' ≠ "") then (match excTest tab cl x with
    | some b => .ok (.bl b) st
    | none => .fail) else .fail
  | _ => .fail
section
variable {X : Cx} {tab : Tab} {W : WX} {a : Addr} {oe : Obj} {cls : Value} {d : Option Addr} {pn : List (Addr × Obj)} {e : Expr} {pos : Pos} {n : Str} {i : Nat}
theorem g_xf (T : XT X.K X.mg tab) (hz : Zc cls d oe) (hf : ∃ vs, oe.data = .fields vs) (he : PE (X.suite a ((a, oe) :: pn)) e (tVar i)) (hb : attributeBase e n X.env (eval e X.env) = eval e X.env) :
    PE (X.suite a ((a, oe) :: pn)) (.Attribute e n pos) (rdE X.K W (xfE tab a cls d i n)) := by
  by_cases hC : ∃ (cl : Str) (C : Addr), (cl, n) ∈ tab ∧ n ≠ "" ∧ cls = .ref C ∧ PySem.W.nsIn X.K mainGlobals cl = some (some cls)
  · obtain ⟨cl, C, hm, hn, rfl, hns⟩ := hC
    obtain ⟨C', hC', R⟩ := T.at_ hm
    rw [hC'] at hns
    cases hns
    refine (pe_xf ⟨R.ga, R.gg, R.exC, R.hd⟩ (R.no hn) hz hf he hb).imp ?_
    rintro σ H Q ⟨env, M, st, eo, so, p⟩
    unfold xfE at p
    split at p
    · rename_i a' c' od' cl' f' dd hv
      split at p
      · rename_i hh
        obtain ⟨⟨rfl, rfl, rfl⟩, rfl, h2, h3⟩ := hh
        obtain ⟨v, hσ, r⟩ := eo.at_ i _ hv
        unfold Rep at r
        obtain ⟨rfl, _, r3⟩ := r
        rcases r3 with ⟨z, _⟩ | ⟨_, da, w, rfl, hH, hno, rw'⟩
        · exact absurd z h2
        · refine ⟨.ref a', hσ, rfl, rfl, da, _, w, rfl, hH, ?_, p M H w .refl so rw'⟩
          simp [List.lookup]
      · exact p.elim
    · exact p.elim
  · refine ⟨fun pins s σ H Q I h => ?_⟩
    exfalso
    obtain ⟨env, M, st, eo, so, p⟩ := h
    unfold xfE at p
    split at p
    · rename_i a' c' od' cl' f' dd hv
      split at p
      · rename_i hh
        obtain ⟨⟨rfl, rfl, rfl⟩, rfl, h2, h3⟩ := hh
        obtain ⟨v, hσ, r⟩ := eo.at_ i _ hv
        unfold Rep at r
        obtain ⟨C', hC', R⟩ := T.at_ h3
        have e2 := r.2.1
        rw [hC'] at e2
        cases e2
        exact hC ⟨cl', C', h3, h2, rfl, hC'⟩
      · exact p.elim
    · exact p.elim
end
end G
set_option maxHeartbeats 2000000
namespace G
open PySem PySem.Spec PyProof.Rows L2
section
variable {X : Cx} {tab : Tab} {W : WX} {a : Addr} {oe : Obj} {cls : Value} {d : Option Addr} {pn : List (Addr × Obj)} {e : Expr} {pos p q : Pos} {nm : Str} {i : Nat}
abbrev FTab := List (Str × FA)
inductive TabOk (P : Program) (w : World) (K : PySem.W.Frag) (mg : Str → Option Value) (base : Heap) (k : Nat) : FTab → Prop
  | nil : TabOk P w K mg base k []
  | cons {x : Str} {st : Stmt} {ps : List Str} {j : Nat} {F : FA} {r : FTab} (h : Kn P w K mg base x st ps j F) (hj : j ≤ k) (t : TabOk P w K mg base k r) : TabOk P w K mg base k ((x, F) :: r)
theorem TabOk.at_ {P : Program} {w : World} {K : PySem.W.Frag} {mg : Str → Option Value} {base : Heap} {k : Nat} {tab : FTab} (h : TabOk P w K mg base k tab) {x : Str} {F : FA} (e : tab.lookup x = some F) : ∃ st ps j, j ≤ k ∧ Kn P w K mg base x st ps j F := by
  induction h with
  | nil => cases e
  | @cons y st ps j G r h hj t ih =>
    rw [List.lookup] at e
    split at e
    · rename_i ey
      cases e
      have : x = y := by simpa using ey
      subst this
      exact ⟨st, ps, j, hj, h⟩
    · exact ih e
end
end G
namespace G
open PySem PySem.Spec PyProof.Rows L2
def IF {α : Type} (i : Nat) (f : Addr → Value → Option Addr → Env → Sto → α) : Prop := ∀ (a : Addr) (c : Value) (od : Option Addr) (cl g : Str) (d : D) (env : Env) (st : Sto),
  f a c od (env.set i (some (.exv a c od cl g d))) st = f 0 .none none (env.set i (some (.exv 0 .none none cl g d))) st
inductive SR (i : Nat) (x y : D) : S → S → Prop
  | nx (env : Env) (st : Sto) : SR i x y (.nx (env.set i (some x)) st) (.nx (env.set i (some y)) st)
  | ret (d : D) (st : Sto) : SR i x y (.ret d st) (.ret d st)
  | exc (e e' : Ex) (env env' : Env) (st st' : Sto) : SR i x y (.exc e env st) (.exc e' env' st')
  | fail : SR i x y .fail .fail
def IS (i : Nat) (B : SvX) : Prop := ∀ (a : Addr) (c : Value) (od : Option Addr) (cl g : Str) (d : D) (env : Env) (st : Sto),
  SR i (.exv a c od cl g d) (.exv 0 .none none cl g d) (B a c od (env.set i (some (.exv a c od cl g d))) st) (B 0 .none none (env.set i (some (.exv 0 .none none cl g d))) st)
theorem IS.ok {i : Nat} {B : SvX} (h : IS i B) : IndX (some i) B := by
  intro a c od cl g d env st
  have q := h a c od cl g d env st
  revert q
  generalize B a c od (env.set i (some (.exv a c od cl g d))) st = s
  generalize B 0 .none none (env.set i (some (.exv 0 .none none cl g d))) st = s'
  intro q
  cases q with
  | nx env st => show S.nx _ _ = S.nx _ _; rw [List.set_set, List.set_set]
  | ret d st => rfl
  | exc e e' env env' st st' => rfl
  | fail => rfl
section
variable {i : Nat} {tab : Tab}
theorem get_set_self (env : Env) (i : Nat) (x : Option D) : (env.set i x)[i]? = if i < env.length then some x else none := by
  rw [List.getElem?_set]; simp
theorem if_c (dd : D) : IF i (fun _ _ _ => cE dd) := fun _ _ _ _ _ _ _ _ => rfl
theorem if_var {j : Nat} (h : i ≠ j) : IF i (fun _ _ _ => varE j) := by
  intro a c od cl g d env st
  dsimp only
  unfold varE
  rw [List.getElem?_set_ne h, List.getElem?_set_ne h]
theorem if_xf {f : Str} : IF i (fun a c od => xfE tab a c od i f) := by
  intro a c od cl g d env st
  dsimp only
  unfold xfE
  rw [get_set_self, get_set_self]
  by_cases h : i < env.length
  · rw [if_pos h, if_pos h]
    simp
  · rw [if_neg h, if_neg h]
theorem if_xi {x : Str} : IF i (fun a c od => xiE tab a c od i x) := by
  intro a c od cl g d env st
  dsimp only
  unfold xiE
  rw [get_set_self, get_set_self]
  by_cases h : i < env.length
  · rw [if_pos h, if_pos h]
    simp
  · rw [if_neg h, if_neg h]
theorem if_un {F : F1} {f : Addr → Value → Option Addr → EvE} (h : IF i f) : IF i (fun a c od => unE F (f a c od)) := fun a c od cl g d env st => by dsimp only; unfold unE; rw [h]
theorem if_bin {F : F2} {f f' : Addr → Value → Option Addr → EvE} (h : IF i f) (h' : IF i f') : IF i (fun a c od => binE F (f a c od) (f' a c od)) := fun a c od cl g d env st => by
  have e : ∀ st, f' a c od (env.set i (some (.exv a c od cl g d))) st = f' 0 .none none (env.set i (some (.exv 0 .none none cl g d))) st := h' a c od cl g d env
  dsimp only; unfold binE; rw [h]; simp only [e]
theorem if_tst {f : Addr → Value → Option Addr → EvE} (h : IF i f) : IF i (fun a c od => tstE (f a c od)) := fun a c od cl g d env st => by dsimp only; unfold tstE; rw [h]
theorem if_and {f f' : Addr → Value → Option Addr → EvB} (h : IF i f) (h' : IF i f') : IF i (fun a c od => andB (f a c od) (f' a c od)) := fun a c od cl g d env st => by
  have e : ∀ st, f' a c od (env.set i (some (.exv a c od cl g d))) st = f' 0 .none none (env.set i (some (.exv 0 .none none cl g d))) st := h' a c od cl g d env
  dsimp only; unfold andB; rw [h]; simp only [e]
theorem if_if {t : Addr → Value → Option Addr → EvB} {f f' : Addr → Value → Option Addr → EvE} (ht : IF i t) (h : IF i f) (h' : IF i f') : IF i (fun a c od => ifE (t a c od) (f a c od) (f' a c od)) := fun a c od cl g d env st => by
  have e : ∀ st, f a c od (env.set i (some (.exv a c od cl g d))) st = f 0 .none none (env.set i (some (.exv 0 .none none cl g d))) st := h a c od cl g d env
  have e' : ∀ st, f' a c od (env.set i (some (.exv a c od cl g d))) st = f' 0 .none none (env.set i (some (.exv 0 .none none cl g d))) st := h' a c od cl g d env
  dsimp only; unfold ifE; rw [ht]; simp only [e, e']
theorem if_nil : IF i (fun _ _ _ => nilA) := fun _ _ _ _ _ _ _ _ => rfl
theorem if_cons {f : Addr → Value → Option Addr → EvE} {f' : Addr → Value → Option Addr → EvA} (h : IF i f) (h' : IF i f') : IF i (fun a c od => consA (f a c od) (f' a c od)) := fun a c od cl g d env st => by
  have e : ∀ st, f' a c od (env.set i (some (.exv a c od cl g d))) st = f' 0 .none none (env.set i (some (.exv 0 .none none cl g d))) st := h' a c od cl g d env
  dsimp only; unfold consA; rw [h]; simp only [e]
theorem if_tup {f : Addr → Value → Option Addr → EvA} (h : IF i f) : IF i (fun a c od => tupE (f a c od)) := fun a c od cl g d env st => by dsimp only; unfold tupE; rw [h]
theorem if_lst {f : Addr → Value → Option Addr → EvA} (h : IF i f) : IF i (fun a c od => lstE (f a c od)) := fun a c od cl g d env st => by dsimp only; unfold lstE; rw [h]
theorem if_call {F : FA} {f : Addr → Value → Option Addr → EvA} (h : IF i f) : IF i (fun a c od => callE F (f a c od)) := fun a c od cl g d env st => by dsimp only; unfold callE; rw [h]
theorem is_ret {f : Addr → Value → Option Addr → EvE} (h : IF i f) : IS i (fun a c od => retS (f a c od)) := by
  intro a c od cl g d env st
  dsimp only
  unfold retS
  rw [h a c od cl g d env st]
  cases f 0 .none none (env.set i (some (.exv 0 .none none cl g d))) st with
  | ok d st => exact .ret _ _
  | exc e st => exact .exc ..
  | fail => exact .fail
theorem is_set {f : Addr → Value → Option Addr → EvE} {j : Nat} (hj : i ≠ j) (h : IF i f) : IS i (fun a c od => asgS (f a c od) (nameT j)) := by
  intro a c od cl g d env st
  dsimp only
  unfold asgS
  rw [h a c od cl g d env st]
  cases f 0 .none none (env.set i (some (.exv 0 .none none cl g d))) st with
  | ok v st =>
    show SR i _ _ (.nx ((env.set i _).set j (some v)) st) (.nx ((env.set i _).set j (some v)) st)
    rw [List.set_comm _ _ hj, List.set_comm _ _ hj]
    exact .nx _ _
  | exc e st => exact .exc ..
  | fail => exact .fail
theorem is_seq {f f' : SvX} (h : IS i f) (h' : IS i f') : IS i (fun a c od => seqS (f a c od) (f' a c od)) := by
  intro a c od cl g d env st
  dsimp only
  unfold seqS
  have q := h a c od cl g d env st
  revert q
  generalize f a c od (env.set i (some (.exv a c od cl g d))) st = s
  generalize f 0 .none none (env.set i (some (.exv 0 .none none cl g d))) st = s'
  intro q
  cases q with
  | nx env st => exact h' a c od cl g d env st
  | ret d st => exact .ret _ _
  | exc e e' env env' st st' => exact .exc ..
  | fail => exact .fail
end
end G
namespace G
open PySem PySem.Spec PyProof.Rows L2
@[simp] theorem bindS_exc {α : Type} (e : Ex) (st : Sto) (env : Env) (k : α → Sto → S) : bindS (.exc e st : R α) env k = .exc e env st := rfl
@[simp] theorem bindS_fail {α : Type} (env : Env) (k : α → Sto → S) : bindS (.fail : R α) env k = .fail := rfl
@[simp] theorem thenS_exc (e : Ex) (env : Env) (st : Sto) (g : SvS) : thenS (.exc e env st) g = .exc e env st := rfl
@[simp] theorem turnS_exc (e : Ex) (env : Env) (st : Sto) (g : SvS) : turnS (.exc e env st) g = .exc e env st := rfl
@[simp] theorem raiseS_eq (cl f : Str) (fa : EvE) (env : Env) (st : Sto) : raiseS cl f fa env st = bindS (fa env st) env fun d st1 => .exc ⟨cl, f, d⟩ env st1 := rfl
end G
namespace G
open PySem PySem.Spec PyProof.Rows L2
def lenEF : FA := fun as st => match as with
  | [.emp] => .ok (.int 0) st
  | _ => lenF as st
theorem c_lenE {X : Cx} : CallR X (.builtin "len") (fun xs H Q => (∃ a kvs, xs = [V.ref a] ∧ H a = some (.dK kvs) ∧ Q (.int kvs.length) H) ∨ ((∃ p ys, xs = [.ref p] ∧ (SqL X.K H p ys ∨ SqT X.K H p ys) ∧ Q (.int ys.length) H) ∨ ∃ z, xs = [.str z] ∧ z.length ≤ sizeLine ∧ Q (.int z.length) H)) := CallR.or call_lenD c_len
theorem v_lenE {K : PySem.W.Frag} : CallV K (fun xs H Q => (∃ a kvs, xs = [V.ref a] ∧ H a = some (.dK kvs) ∧ Q (.int kvs.length) H) ∨ ((∃ p ys, xs = [.ref p] ∧ (SqL K H p ys ∨ SqT K H p ys) ∧ Q (.int ys.length) H) ∨ ∃ z, xs = [.str z] ∧ z.length ≤ sizeLine ∧ Q (.int z.length) H)) lenEF := by
  intro as xs M H st Q E r so p
  unfold lenEF at p
  split at p
  · obtain ⟨x, rfl, rx⟩ := r.one
    unfold Rep at rx
    obtain ⟨a, rfl, h, _⟩ := rx
    exact .inl ⟨a, [], rfl, h, p M H _ .refl so (rep_int _ _ _)⟩
  · exact .inr (v_len as xs M H st Q E r so p)
@[simp] theorem lenEF_emp (st : Sto) : lenEF [.emp] st = .ok (.int 0) st := rfl
end G
namespace G
open PySem PySem.Spec PyProof.Rows L2
def popAtF : FM := fun d as st => match d, as with
  | .mut n, [.int i] => (match st[n]? with
    | some (.lst xs) => if 0 ≤ i ∧ i < xs.length ∧ xs.length ≤ 16777216 then .ok (xs.getD i.toNat .non) (st.set n (.lst (xs.eraseIdx i.toNat))) else .fail
    | _ => .fail)
  | _, _ => .fail
theorem RepL.eraseIdx {K : PySem.W.Frag} {M : Mem} {H : Hp} : ∀ {ds : List D} {vs : List V} (n : Nat), RepL K M H ds vs → RepL K M H (ds.eraseIdx n) (vs.eraseIdx n)
  | [], _, n, h => by unfold RepL at h; subst h; simp; exact .nil
  | x :: ds, _, 0, h => by
    unfold RepL at h
    obtain ⟨v, r, rfl, h1, h2⟩ := h
    simpa using h2
  | x :: ds, _, n + 1, h => by
    unfold RepL at h
    obtain ⟨v, r, rfl, h1, h2⟩ := h
    simpa using RepL.cons h1 (RepL.eraseIdx n h2)
def isi2D (c1 c2 : Tag) : F1 := fun a st => match tagOf a st with
  | some t => .ok (.bl (isiB t c1 || isiB t c2)) st
  | none => .fail
theorem kit_any2 {K : PySem.W.Frag} (t c1 c2 : Tag) : PySem.W.kitAny K (.type (tyName t)) [.type (tyName c1), .type (tyName c2)] = some (isiB t c1 || isiB t c2) := by
  refine kitAny_cons (kit_ty (kit_tag t c1)) (fun h => ?_) (fun h => by rw [h]; rfl)
  rw [h, Bool.false_or]
  refine kitAny_cons (kit_ty (kit_tag t c2)) (fun h => ?_) (fun h => h)
  rw [h]; rfl
section
variable {X : Cx} {W : WX} {a : Expr} {fa : EvE} {p q1 q2 pos : Pos}
theorem g_isi2 (c1 c2 : Tag) {n1 n2 : Str} {x1 : Nat} {pt : Pos} (ha : PE X a (rdE X.K W fa)) (h0 : ∀ {te : TE}, PE X a te → PE X (.Call (.Name "isinstance" p) [a, .Tuple [.Name n1 q1, .Name n2 q2] x1 pt] [] pos) (tCB (rIsiT X.K) (tCons te (tCons (tTup (tCons (tC (.ty (tyName c1))) (tCons (tC (.ty (tyName c2))) tNil))) tNil)))) :
    PE X (.Call (.Name "isinstance" p) [a, .Tuple [.Name n1 q1, .Name n2 q2] x1 pt] [] pos) (rdE X.K W (unE (isi2D c1 c2) fa)) :=
  (h0 ha).imp fun σ H Q ⟨env, M, st, eo, so, p⟩ => ⟨env, M, st, eo, so, Post.imp (Post.bind p) fun x H1 ⟨M1, st1, a, g, so1, ra, p1⟩ => by
    unfold isi2D at p1
    split at p1
    · rename_i t h
      exact ⟨by rw [sizeLine_eq]; simp, fun tp htp => ⟨x, tp, [.ty (tyName c1), .ty (tyName c2)], .type (tyName t), [.type (tyName c1), .type (tyName c2)], isiB t c1 || isiB t c2, rfl, upd_same, .cons (.ty _) (.cons (.ty _) .nil), tagOf_rep (so1.laid htp) h (ra.grow (.laid so1 htp)), kit_any2 t c1 c2, p1 _ _ _ (.laid so1 htp) (so1.laid htp) (rep_bl _ _ _)⟩⟩
    · exact p1.elim⟩
end
section
variable {st : Sto}
@[simp] theorem isi2D_int (c e : Tag) (i : Int) : isi2D c e (.int i) st = .ok (.bl (isiB .int c || isiB .int e)) st := rfl
@[simp] theorem isi2D_bl (c e : Tag) (i : Bool) : isi2D c e (.bl i) st = .ok (.bl (isiB .bl c || isiB .bl e)) st := rfl
@[simp] theorem isi2D_str (c e : Tag) (i : Str) : isi2D c e (.str i) st = .ok (.bl (isiB .str c || isiB .str e)) st := rfl
@[simp] theorem isi2D_non (c e : Tag) : isi2D c e .non st = .ok (.bl (isiB .non c || isiB .non e)) st := rfl
@[simp] theorem isi2D_tup (c e : Tag) (xs : List D) : isi2D c e (.tup xs) st = .ok (.bl (isiB .tup c || isiB .tup e)) st := rfl
@[simp] theorem isi2D_lst (c e : Tag) (xs : List D) : isi2D c e (.lst xs) st = .ok (.bl (isiB .lst c || isiB .lst e)) st := rfl
end
def srtMF : FA := fun as st => match as with
  | [.tup _] => .fail
  | [a] => (match (seqOf a st).bind pairsOf with
    | some ps => .ok (.mut st.length) (st ++ [.lst ((srtP ps).map pairD)])
    | none => .fail)
  | _ => .fail
def keysD (ks : List (List L2.Key)) : List D := ks.map fun k => .tup (k.map kD)
def listDF : FA := fun as st => match as with
  | [.mut n] => (match st[n]? with
    | some (.de kvs) => .ok (.lst (keysD (kvs.map (·.1)))) st
    | _ => .fail)
  | _ => .fail
def lenDF : FA := fun as st => match as with
  | [.mut n] => (match st[n]? with
    | some (.de kvs) => if kvs.length ≤ 16777216 then .ok (.int kvs.length) st else .fail
    | _ => .fail)
  | _ => .fail
end G
namespace G
open PySem PySem.Spec PyProof.Rows L2
section
variable {X : Cx} {W : WX} {fa fe fk fv : EvE} {t : Tg} {tt : EvB} {K : PySem.W.Frag}
def putK1 (n : Nat) (kd vd : D) (st : Sto) : Option Sto := match st[n]? with
  | some (.dd kvs) => (match keyOf kd with
    | some k => if kvs.length < 16777216 then some (st.set n (.dd (vPut kvs k vd))) else none
    | none => none)
  | _ => none
def turnD (t : Tg) (tt : EvB) (fk fv : EvE) (envw : Env) (n : Nat) (x : D) (st : Sto) (k : Sto → R Unit) : R Unit := match t.set x envw with
  | none => .fail
  | some env1 => (noX (tt env1 st)).bind fun b st1 => if b = true then (noX (fk env1 st1)).bind fun kd st2 => (noX (fv env1 st2)).bind fun vd st3 => (match putK1 n kd vd st3 with | some st4 => k st4 | none => .fail) else k st1
def dcF (t : Tg) (tt : EvB) (fk fv : EvE) (envw : Env) (n : Nat) : List D → Sto → R Unit
  | [], st => .ok () st
  | x :: xs, st => turnD t tt fk fv envw n x st (dcF t tt fk fv envw n xs)
theorem turnD_rd {D0 : Addr} {M' : Mem} {H' : Hp} {st' : Sto} {envw : Env} {σw : L2.St} {vs : List Nat} {n : Nat} {x : D} {u : V} {k : Sto → R Unit} {P : R Unit → Prop} {N : Hp → Prop}
    (so : StOk K M' H' st') (dm : M'.m[n]? = some D0) (eo : EnvOk K M' H' envw (L2.wipe σw vs)) (r : Rep K M' H' x u) (hv : ∀ i ∈ Tg.names t, i ∈ vs)
    (hf : ¬ P .fail) (p : P (turnD t tt fk fv envw n x st' k))
    (hN : ∀ M2 H2 st2, Grow M' H' M2 H2 → StOk K M2 H2 st2 → P (k st2) → N H2) :
    Tg.raw K t u (L2.wipe σw vs) H' fun σ2 H2 => L2.wipe σ2 vs = L2.wipe σw vs ∧ rdB K W0 tt σ2 H2 fun b H3 =>
      if b = true then rdE K W0 fk σ2 H3 fun y H4 => rdE K W0 fv σ2 H4 fun z H5 => ∃ kvs k, y = kV k ∧ H5 D0 = some (.dK kvs) ∧ kvs.length < sizeLine ∧ N (upd H5 D0 (.dK (putK kvs k z))) else N H3 := by
  unfold turnD at p
  cases e : t.set x envw with
  | none => rw [e] at p; exact absurd p hf
  | some env1 =>
    rw [e] at p
    refine Tg.rd e r eo fun σ' eo' hw => ⟨(hw vs hv).trans wipe_wipe, env1, M', st', eo', so, ?_⟩
    cases e1 : tt env1 st' with
    | exc x s => simp only [e1, noX, R.bind] at p; exact absurd p hf
    | fail => simp only [e1, noX, R.bind] at p; exact absurd p hf
    | ok b st1 =>
      simp only [e1, noX, R.bind] at p
      intro M2 H2 b' g2 so2 hb
      subst hb
      cases b with
      | false => exact iteF (hN M2 H2 st1 g2 so2 (by simpa using p))
      | true =>
        simp only [if_true] at p
        refine iteT ⟨env1, M2, st1, eo'.grow g2, so2, ?_⟩
        cases e2 : fk env1 st1 with
        | exc x s => rw [e2] at p; exact absurd p hf
        | fail => rw [e2] at p; exact absurd p hf
        | ok kd st2 =>
          rw [e2] at p
          simp only at p
          intro M3 H3 yv g3 so3 rk
          refine ⟨env1, M3, st2, (eo'.grow g2).grow g3, so3, ?_⟩
          cases e3 : fv env1 st2 with
          | exc x s => rw [e3] at p; exact absurd p hf
          | fail => rw [e3] at p; exact absurd p hf
          | ok vd st3 =>
            rw [e3] at p
            simp only at p
            intro M4 H4 zv g4 so4 rv
            have am : M4.m[n]? = some D0 := g4.pre n _ (g3.pre n _ (g2.pre n _ dm))
            cases e4 : putK1 n kd vd st3 with
            | none => rw [e4] at p; exact absurd p hf
            | some st4 =>
              rw [e4] at p
              simp only at p
              unfold putK1 at e4
              split at e4
              · rename_i kvs ek
                split at e4
                · rename_i k' ek'
                  split at e4
                  · rename_i hl
                    cases e4
                    obtain ⟨ws, hd, rkv⟩ := so4.at_ n D0 _ am ek
                    have g5 : Grow M4 H4 M4 (upd H4 D0 (.dK (putK ws k' zv))) := .put so4 am
                    exact ⟨ws, k', keyOf_rep ek' (rk.grow g4), hd, by rw [sizeLine_eq, rkv.len]; exact hl, hN M4 _ _ ((g2.trans g3).trans (g4.trans g5)) (so4.put (mo := .dd (vPut kvs k' vd)) am ⟨_, upd_same, (rkv.put rv).grow g5⟩) p⟩
                  · cases e4
                · cases e4
              · cases e4
end
end G
namespace G
open PySem PySem.Spec PyProof.Rows L2
section
variable {X : Cx} {W : WX} {fa fk fv : EvE} {t : Tg} {tt : EvB} {vs : List Nat} {i : Nat} {s : Stmt}
def putL (d k v : D) (st : Sto) : Option Sto := match d with
  | .mut n => (match st[n]? with
    | some (.dd kvs) => (match keyOf k with
      | some k => if kvs.length < 16777216 then some (st.set n (.dd (vPut kvs k v))) else none
      | none => none)
    | _ => none)
  | _ => none
end
end G
namespace G
open PySem PySem.Spec PyProof.Rows L2 HT
abbrev ZipSt (h : Heap) (z TI TO : Addr) (f0 : Value) (f : Bool) : Prop := h.get? z = some { cls := .type "zip", dict := none, data := .fields #[f0, .bool f, .bool false, .ref TI, .ref TO], slots := #[] }
def ZipO (h : Heap) (z TI TO : Addr) : Prop := ∃ f0 f, ZipSt h z TI TO f0 f ∧ (f0 = .none ∨ ∃ T : Addr, f0 = rawInt T)
section
variable {prog : Program} {w : World} {A : Around} {E : Value → Shared → Prop} {s : Shared} {z TI TO i1 i2 : Addr} {fp1 fp2 : List Addr} {n1 n2 i : Nat} {P1 P2 : Nat → Value → Prop} {St1 St2 : Nat → Heap → Prop}
theorem not_alive {a : Addr} {Q : Option Obj → Shared → Prop} (ho : s.heap.get? a = none) (h : Q none s) : wpAny (model prog w) A (loadIfAlive a) Q E s := by
  have h' : Q (s.heap.get? a) s := by rw [ho]; exact h
  exact fun _ _ _ => h'
theorem zip_own {f0 : Value} {f : Bool} {Q : Bool → Shared → Prop} (hz : ZipSt s.heap z TI TO f0 f) (h0 : f0 = .none ∨ ∃ T : Addr, f0 = rawInt T) (free : Q true s)
    (held : ∀ (h' : Heap) (T : Addr), ZipSt h' z TI TO (rawInt T) true → Heap.SameBut z s.heap h' → Q false { s with heap := h' }) : wpAny (model prog w) A (Builtin.SmallTypes.ownedTupleIsFree (.ref z)) Q E s := by
  rcases h0 with rfl | ⟨T, rfl⟩
  · unfold Builtin.SmallTypes.ownedTupleIsFree
    exact wpAny_bind (wpAny_field hz rfl (x := .none) rfl (wpAny_pure free))
  · cases hT : s.heap.get? T with
    | some oT => exact wpAny_tupleHeld_zip hz hT fun h' hz' hs' => held h' T hz' hs'
    | none =>
      unfold Builtin.SmallTypes.ownedTupleIsFree
      refine wpAny_bind (wpAny_field hz rfl (x := rawInt T) rfl ?_)
      show wpAny _ _ (loadIfAlive ((T : Int).toNat) >>= _) _ _ _
      rw [Int.toNat_natCast]
      refine wpAny_bind (not_alive hT ?_)
      simp only [Option.isNone_none, if_true]
      exact wpAny_pure free
structure Drawn (s : Shared) (z TI TO i1 i2 : Addr) (x1 x2 : Value) (h' : Heap) : Prop where
  st : ZipO h' z TI TO
  two : IsTupOf2 h' s.heap.objs.size x1 x2
  sz : h'.objs.size = s.heap.objs.size + 1
  to : ∃ b1 b2, IsTupOf2 h' TO b1 b2
  kp : ∀ c o, c ≠ z → c ≠ TO → c ≠ i1 → c ≠ i2 → s.heap.get? c = some o → h'.get? c = some o
theorem zipO_item {a1 a2 : Value} {Q : Value → Shared → Prop} (S : ZipSep2 z TI TO i1 i2 fp1 fp2) (D1 : Draws prog w A i1 fp1 n1 P1 St1) (D2 : Draws prog w A i2 fp2 n2 P2 St2)
    (hz : ZipO s.heap z TI TO) (hTI : IsTupOf2 s.heap TI (.ref i1) (.ref i2)) (hTO : IsTupOf2 s.heap TO a1 a2) (st1 : St1 i s.heap) (st2 : St2 i s.heap) (l1 : i < n1) (l2 : i < n2)
    (hQ : ∀ x1 x2 h' tk, P1 i x1 → P2 i x2 → St1 (i + 1) h' → St2 (i + 1) h' → Drawn s z TI TO i1 i2 x1 x2 h' → Q (.ref s.heap.objs.size) { s with heap := h', toks := tk }) :
    wpAny (model prog w) A (Builtin.«zip.__next__» ⟨[.ref z], []⟩) (fun fin s' => ∃ v, fin = .done (.ret v) ∧ Q v s') E s := by
  obtain ⟨f0, f, hz, h0⟩ := hz
  obtain ⟨hp, gs, dr, tk0, os⟩ := s
  have zi1 := S.zi1; have zi2 := S.zi2; have Ti1 := S.Ti1; have Ti2 := S.Ti2
  show wpAny _ _ (field (.ref z) 2 >>= _) _ _ _
  refine wpAny_bind (wpAny_field hz rfl (x := .bool false) rfl ?_)
  show wpAny _ _ (field (.ref z) 3 >>= _) _ _ _
  refine wpAny_bind (wpAny_field hz rfl (x := .ref TI) rfl (wpAny_bind (wpAny_seqItems hTI rfl ?_)))
  show wpAny _ _ (Builtin.SmallTypes.ownedTupleIsFree (.ref z) >>= _) _ _ _
  refine wpAny_bind (zip_own hz h0 ?_ fun g0 T hz0 hs0 => ?_)
  · -- the own tuple is taken again
    simp only [if_true]
    refine wpAny_bind (wpAny_rule (wpAny_bind (wpAny_field hz rfl (x := .ref TO) rfl (wpAny_bind (wpAny_setField_rec hz (by simp) fun g0 hz0 hs0 => ?_)))))
    replace hz0 : ZipSt g0 z TI TO .ellipsis f := hz0
    replace hs0 : Heap.SameBut z hp g0 := hs0
    refine wpAny_bind ?_
    simp only [List.zipIdx_cons, List.zipIdx_nil, List.forIn_cons, List.forIn_nil]
    refine wpAny_bind (wpAny_bind (wpAny_onRaise ?_))
    show wpAny _ _ (Builtin.SmallTypes.nextOf (.ref i1) >>= _) _ _ ⟨g0, gs, dr, tk0, os⟩
    refine wpAny_bind (D1.item i _ _ _ l1 (D1.over st1 hs0 S.zf1) fun x1 p1 tk1 hx1 sn1 hp1 => wpAny_pure ?_)
    replace hp1 : Heap.SameBut i1 g0 p1 := hp1
    have hU1 : IsTupOf2 p1 TO a1 a2 := hp1.extBut _ _ Ti1 (hs0.extBut _ _ S.TOz hTO)
    refine wpAny_bind (wpAny_seqItems (s := ⟨p1, gs, dr, tk1, os⟩) hU1 rfl (wpAny_bind (updateSeq_IsTupOf2 (s := ⟨p1, gs, dr, tk1, os⟩) hU1 fun g1 hT1 hs1 => ?_)))
    replace hT1 : IsTupOf2 g1 TO x1 a2 := hT1
    replace hs1 : Heap.SameBut TO p1 g1 := hs1
    refine wpAny_bind (wpAny_letGo (wpAny_pure (wpAny_bind (wpAny_bind (wpAny_onRaise ?_)))))
    show wpAny _ _ (Builtin.SmallTypes.nextOf (.ref i2) >>= _) _ _ ⟨g1, gs, dr, tk1, os⟩
    refine wpAny_bind (D2.item i _ _ _ l2 (D2.over (D2.over (D2.over st2 hs0 S.zf2) hp1 S.sep1_2) hs1 S.Tf2) fun x2 p2 tk2 hx2 sn2 hp2 => wpAny_pure ?_)
    replace hp2 : Heap.SameBut i2 g1 p2 := hp2
    have hU2 : IsTupOf2 p2 TO x1 a2 := hp2.extBut _ _ Ti2 hT1
    refine wpAny_bind (wpAny_seqItems (s := ⟨p2, gs, dr, tk2, os⟩) hU2 rfl (wpAny_bind (updateSeq_IsTupOf2 (s := ⟨p2, gs, dr, tk2, os⟩) hU2 fun g2 hT2 hs2 => ?_)))
    replace hT2 : IsTupOf2 g2 TO x1 x2 := hT2
    replace hs2 : Heap.SameBut TO p2 g2 := hs2
    refine wpAny_bind (wpAny_letGo (wpAny_pure (wpAny_pure (wpAny_bind (wpAny_seqItems (s := ⟨g2, gs, dr, tk2, os⟩) hT2 rfl (wpAny_bind (wpAny_newTuple ?_)))))))
    have hsz : g2.objs.size = hp.objs.size := by rw [hs2.1, hp2.1, hs1.1, hp1.1, hs0.1]
    have hzz : ZipSt g2 z TI TO .ellipsis f := hs2.extBut _ _ S.TOz.symm (hp2.extBut _ _ zi2 (hs1.extBut _ _ S.TOz.symm (hp1.extBut _ _ zi1 hz0)))
    have hkk : ∀ c o, c ≠ z → c ≠ TO → c ≠ i1 → c ≠ i2 → hp.get? c = some o → g2.get? c = some o := fun c o cz cT c1 c2 e =>
      hs2.extBut _ _ cT (hp2.extBut _ _ c2 (hs1.extBut _ _ cT (hp1.extBut _ _ c1 (hs0.extBut _ _ cz e))))
    have hj1 : St1 (i + 1) g2 := D1.over (D1.over (D1.over sn1 hs1 S.Tf1) hp2 S.sep2_1) hs2 S.Tf1
    have hj2 : St2 (i + 1) g2 := D2.over sn2 hs2 S.Tf2
    have hzlt : z < g2.objs.size := Heap.lt_size hzz
    show wpAny _ _ (Builtin.SmallTypes.ownedTupleHandOut (.ref z) (.ref g2.objs.size) >>= _) _ _ ⟨g2.push { cls := .type "tuple", data := .seq #[x1, x2] }, gs, dr, tk2, os⟩
    refine wpAny_bind ?_
    unfold Builtin.SmallTypes.ownedTupleHandOut
    have hz6 : ZipSt (g2.push { cls := .type "tuple", data := .seq #[x1, x2] }) z TI TO .ellipsis f := Heap.get?_push_of_some _ hzz
    refine wpAny_bind (wpAny_setField_rec hz6 (by simp) fun h7 hz7 hs7 => ?_)
    replace hz7 : ZipSt h7 z TI TO (rawInt g2.objs.size) f := hz7
    refine wpAny_setField_rec hz7 (by simp) fun h8 hz8 hs8 => ?_
    replace hz8 : ZipSt h8 z TI TO (rawInt g2.objs.size) false := hz8
    replace hs7 : Heap.SameBut z (g2.push { cls := .type "tuple", data := .seq #[x1, x2] }) h7 := hs7
    replace hs8 : Heap.SameBut z h7 h8 := hs8
    have up : ∀ c o, c ≠ z → g2.get? c = some o → h8.get? c = some o := fun c o c1 e => hs8.extBut _ _ c1 (hs7.extBut _ _ c1 (Heap.get?_push_of_some _ e))
    have hT8 : IsTupOf2 h8 g2.objs.size x1 x2 := hs8.extBut _ _ (Nat.ne_of_gt hzlt) (hs7.extBut _ _ (Nat.ne_of_gt hzlt) (Heap.get?_push_size _ rfl))
    have sz8 : h8.objs.size = g2.objs.size + 1 := by rw [hs8.1, hs7.1, Heap.size_push]
    rw [hsz] at hT8 sz8
    refine wpAny_pure ⟨_, rfl, ?_⟩
    show Q (.ref g2.objs.size) ⟨h8, gs, dr, tk2, os⟩
    rw [hsz]
    exact hQ x1 x2 h8 tk2 hx1 hx2 (D1.frame _ _ _ hj1 fun b hb o e => up b o (fun q => S.zf1 (q ▸ hb)) e) (D2.frame _ _ _ hj2 fun b hb o e => up b o (fun q => S.zf2 (q ▸ hb)) e)
      ⟨⟨_, _, hz8, .inr ⟨_, rfl⟩⟩, hT8, sz8, ⟨_, _, up _ _ S.TOz hT2⟩, fun c o cz cT c1 c2 e => up c o cz (hkk c o cz cT c1 c2 e)⟩
  · -- it is out: a new one
    replace hs0 : Heap.SameBut z hp g0 := hs0
    simp only [Bool.false_eq_true, if_false]
    refine wpAny_bind ?_
    rw [← Array.forIn_toList]
    simp only [List.forIn_cons, List.forIn_nil]
    refine wpAny_bind (wpAny_bind (wpAny_holding ?_))
    show wpAny _ _ (Builtin.SmallTypes.nextOf (.ref i1) >>= _) _ _ ⟨g0, gs, dr, tk0, os⟩
    refine wpAny_bind (D1.item i _ _ _ l1 (D1.over st1 hs0 S.zf1) fun x1 p1 tk1 hx1 sn1 hp1 => wpAny_pure ?_)
    replace hp1 : Heap.SameBut i1 g0 p1 := hp1
    refine wpAny_pure (wpAny_bind (wpAny_bind (wpAny_holding ?_)))
    show wpAny _ _ (Builtin.SmallTypes.nextOf (.ref i2) >>= _) _ _ ⟨p1, gs, dr, tk1, os⟩
    refine wpAny_bind (D2.item i _ _ _ l2 (D2.over (D2.over st2 hs0 S.zf2) hp1 S.sep1_2) fun x2 p2 tk2 hx2 sn2 hp2 => wpAny_pure ?_)
    replace hp2 : Heap.SameBut i2 p1 p2 := hp2
    refine wpAny_pure (wpAny_pure ?_)
    show wpAny _ _ (newTuple [x1, x2] >>= _) _ _ ⟨p2, gs, dr, tk2, os⟩
    refine wpAny_bind (wpAny_newTuple ?_)
    have hsz : p2.objs.size = hp.objs.size := by rw [hp2.1, hp1.1, hs0.1]
    have hzz : ZipSt p2 z TI TO (rawInt T) true := hp2.extBut _ _ zi2 (hp1.extBut _ _ zi1 hz0)
    have hkk : ∀ c o, c ≠ z → c ≠ i1 → c ≠ i2 → hp.get? c = some o → p2.get? c = some o := fun c o cz c1 c2 e => hp2.extBut _ _ c2 (hp1.extBut _ _ c1 (hs0.extBut _ _ cz e))
    have up : ∀ c o, p2.get? c = some o → (p2.push { cls := .type "tuple", data := .seq #[x1, x2] }).get? c = some o := fun c o e => Heap.get?_push_of_some _ e
    have hT8 : IsTupOf2 (p2.push { cls := .type "tuple", data := .seq #[x1, x2] }) p2.objs.size x1 x2 := Heap.get?_push_size _ rfl
    have sz8 : (p2.push { cls := .type "tuple", data := .seq #[x1, x2] }).objs.size = p2.objs.size + 1 := Heap.size_push ..
    refine wpAny_pure ⟨_, rfl, ?_⟩
    show Q (.ref p2.objs.size) ⟨_, gs, dr, tk2, os⟩
    rw [hsz] at hT8 sz8 ⊢
    exact hQ x1 x2 _ tk2 hx1 hx2 (D1.frame _ _ _ (D1.over sn1 hp2 S.sep2_1) fun b _ o e => up b o e) (D2.frame _ _ _ sn2 fun b _ o e => up b o e)
      ⟨⟨_, _, up _ _ hzz, .inr ⟨_, rfl⟩⟩, hT8, sz8, ⟨_, _, up _ _ (hkk TO _ S.TOz Ti1 Ti2 hTO)⟩, fun c o cz _ c1 c2 e => up c o (hkk c o cz c1 c2 e)⟩
theorem zipO_end {a1 a2 : Value} {Q : Fin → Shared → Prop} (S : ZipSep2 z TI TO i1 i2 fp1 fp2) (D1 : Draws prog w A i1 fp1 n1 P1 St1) (D2 : Draws prog w A i2 fp2 n2 P2 St2)
    (hz : ZipO s.heap z TI TO) (hTI : IsTupOf2 s.heap TI (.ref i1) (.ref i2)) (hTO : IsTupOf2 s.heap TO a1 a2) (st1 : St1 i s.heap) (st2 : St2 i s.heap) (l1 : i ≤ n1) (l2 : i ≤ n2) (hend : i = n1 ∨ i = n2)
    (hE : ∀ h' tk e, (∀ c o, c ≠ z → c ≠ TO → c ≠ i1 → c ≠ i2 → s.heap.get? c = some o → h'.get? c = some o) → (∃ o, h'.get? e = some o ∧ o.cls = .type "StopIteration") → E (.ref e) { s with heap := h', toks := tk }) :
    wpAny (model prog w) A (Builtin.«zip.__next__» ⟨[.ref z], []⟩) Q E s := by
  obtain ⟨f0, f, hz, h0⟩ := hz
  obtain ⟨hp, gs, dr, tk0, os⟩ := s
  have zi1 := S.zi1; have zi2 := S.zi2; have Ti1 := S.Ti1; have Ti2 := S.Ti2
  show wpAny _ _ (field (.ref z) 2 >>= _) _ _ _
  refine wpAny_bind (wpAny_field hz rfl (x := .bool false) rfl ?_)
  show wpAny _ _ (field (.ref z) 3 >>= _) _ _ _
  refine wpAny_bind (wpAny_field hz rfl (x := .ref TI) rfl (wpAny_bind (wpAny_seqItems hTI rfl ?_)))
  show wpAny _ _ (Builtin.SmallTypes.ownedTupleIsFree (.ref z) >>= _) _ _ _
  refine wpAny_bind (zip_own hz h0 ?_ fun g0 T hz0 hs0 => ?_)
  · simp only [if_true]
    refine wpAny_bind (wpAny_rule (wpAny_bind (wpAny_field hz rfl (x := .ref TO) rfl (wpAny_bind (wpAny_setField_rec hz (by simp) fun g0 hz0 hs0 => ?_)))))
    replace hz0 : ZipSt g0 z TI TO .ellipsis f := hz0
    replace hs0 : Heap.SameBut z hp g0 := hs0
    refine wpAny_bind ?_
    simp only [List.zipIdx_cons, List.zipIdx_nil, List.forIn_cons, List.forIn_nil]
    refine wpAny_bind (wpAny_bind (wpAny_onRaise ?_))
    show wpAny _ _ (Builtin.SmallTypes.nextOf (.ref i1) >>= _) _ _ ⟨g0, gs, dr, tk0, os⟩
    by_cases hlt1 : i < n1
    · refine wpAny_bind (D1.item i _ _ _ hlt1 (D1.over st1 hs0 S.zf1) fun x1 p1 tk1 hx1 sn1 hp1 => wpAny_pure ?_)
      replace hp1 : Heap.SameBut i1 g0 p1 := hp1
      have hU1 : IsTupOf2 p1 TO a1 a2 := hp1.extBut _ _ Ti1 (hs0.extBut _ _ S.TOz hTO)
      refine wpAny_bind (wpAny_seqItems (s := ⟨p1, gs, dr, tk1, os⟩) hU1 rfl (wpAny_bind (updateSeq_IsTupOf2 (s := ⟨p1, gs, dr, tk1, os⟩) hU1 fun g1 hT1 hs1 => ?_)))
      replace hs1 : Heap.SameBut TO p1 g1 := hs1
      refine wpAny_bind (wpAny_letGo (wpAny_pure ?_))
      have hi2 : i = n2 := by omega
      refine wpAny_bind (wpAny_bind (wpAny_onRaise ?_))
      show wpAny _ _ (Builtin.SmallTypes.nextOf (.ref i2) >>= _) _ _ ⟨g1, gs, dr, tk1, os⟩
      refine wpAny_bind (D2.done ⟨g1, gs, dr, tk1, os⟩ _ _ (by rw [← hi2]; exact D2.over (D2.over (D2.over st2 hs0 S.zf2) hp1 S.sep1_2) hs1 S.Tf2) fun q e hq he => ?_)
      replace hq : Heap.ExtBut i2 g1 q := hq
      obtain ⟨oe, hoe, hce⟩ := he
      replace hoe : q.get? e = some oe := hoe
      have hzq : ZipSt q z TI TO .ellipsis f := hq _ _ zi2 (hs1.extBut _ _ S.TOz.symm (hp1.extBut _ _ zi1 hz0))
      have hez : e ≠ z := fun x => by subst x; rw [hzq] at hoe; cases hoe; simp at hce
      refine wpAny_setField_rec (s := ⟨q, gs, dr, tk1, os⟩) hzq (by simp) fun q' _ hq' => ?_
      replace hq' : Heap.SameBut z q q' := hq'
      exact hE q' tk1 e (fun c o cz cT c1 c2 x => hq'.extBut _ _ cz (hq _ _ c2 (hs1.extBut _ _ cT (hp1.extBut _ _ c1 (hs0.extBut _ _ cz x))))) ⟨oe, hq'.extBut _ _ hez hoe, hce⟩
    · have hi1 : i = n1 := by omega
      refine wpAny_bind (D1.done ⟨g0, gs, dr, tk0, os⟩ _ _ (by rw [← hi1]; exact D1.over st1 hs0 S.zf1) fun q e hq he => ?_)
      replace hq : Heap.ExtBut i1 g0 q := hq
      obtain ⟨oe, hoe, hce⟩ := he
      replace hoe : q.get? e = some oe := hoe
      have hzq : ZipSt q z TI TO .ellipsis f := hq _ _ zi1 hz0
      have hez : e ≠ z := fun x => by subst x; rw [hzq] at hoe; cases hoe; simp at hce
      refine wpAny_setField_rec (s := ⟨q, gs, dr, tk0, os⟩) hzq (by simp) fun q' _ hq' => ?_
      replace hq' : Heap.SameBut z q q' := hq'
      exact hE q' tk0 e (fun c o cz cT c1 c2 x => hq'.extBut _ _ cz (hq _ _ c1 (hs0.extBut _ _ cz x))) ⟨oe, hq'.extBut _ _ hez hoe, hce⟩
  · replace hs0 : Heap.SameBut z hp g0 := hs0
    simp only [Bool.false_eq_true, if_false]
    refine wpAny_bind ?_
    rw [← Array.forIn_toList]
    simp only [List.forIn_cons, List.forIn_nil]
    refine wpAny_bind (wpAny_bind (wpAny_holding ?_))
    show wpAny _ _ (Builtin.SmallTypes.nextOf (.ref i1) >>= _) _ _ ⟨g0, gs, dr, tk0, os⟩
    by_cases hlt1 : i < n1
    · refine wpAny_bind (D1.item i _ _ _ hlt1 (D1.over st1 hs0 S.zf1) fun x1 p1 tk1 hx1 sn1 hp1 => wpAny_pure ?_)
      replace hp1 : Heap.SameBut i1 g0 p1 := hp1
      have hi2 : i = n2 := by omega
      refine wpAny_pure (wpAny_bind (wpAny_bind (wpAny_holding ?_)))
      show wpAny _ _ (Builtin.SmallTypes.nextOf (.ref i2) >>= _) _ _ ⟨p1, gs, dr, tk1, os⟩
      refine wpAny_bind (D2.done ⟨p1, gs, dr, tk1, os⟩ _ _ (by rw [← hi2]; exact D2.over (D2.over st2 hs0 S.zf2) hp1 S.sep1_2) fun q e hq he => ?_)
      replace hq : Heap.ExtBut i2 p1 q := hq
      exact hE q tk1 e (fun c o cz _ c1 c2 x => hq _ _ c2 (hp1.extBut _ _ c1 (hs0.extBut _ _ cz x))) he
    · have hi1 : i = n1 := by omega
      refine wpAny_bind (D1.done ⟨g0, gs, dr, tk0, os⟩ _ _ (by rw [← hi1]; exact D1.over st1 hs0 S.zf1) fun q e hq he => ?_)
      replace hq : Heap.ExtBut i1 g0 q := hq
      exact hE q tk0 e (fun c o cz _ c1 c2 x => hq _ _ c1 (hs0.extBut _ _ cz x)) he
theorem nextOf_zipO {a1 a2 : Value} {Q : Value → Shared → Prop} (S : ZipSep2 z TI TO i1 i2 fp1 fp2) (D1 : Draws prog w A.in1 i1 fp1 n1 P1 St1) (D2 : Draws prog w A.in1 i2 fp2 n2 P2 St2)
    (hz : ZipO s.heap z TI TO) (hTI : IsTupOf2 s.heap TI (.ref i1) (.ref i2)) (hTO : IsTupOf2 s.heap TO a1 a2) (st1 : St1 i s.heap) (st2 : St2 i s.heap) (l1 : i < n1) (l2 : i < n2)
    (hQ : ∀ x1 x2 h' tk, P1 i x1 → P2 i x2 → St1 (i + 1) h' → St2 (i + 1) h' → Drawn s z TI TO i1 i2 x1 x2 h' → Q (.ref s.heap.objs.size) { s with heap := h', toks := tk }) :
    wpAny (model prog w) A (Builtin.SmallTypes.nextOf (.ref z)) Q E s := by
  have hT : s.TypeIs (.ref z) "zip" := by
    obtain ⟨f0, f, hz, _⟩ := hz
    exact ⟨_, hz, rfl⟩
  unfold Builtin.SmallTypes.nextOf
  exact wpAny_bind (wpAny_callSpecial?_slot (name := Str.ofString "__next__") hT F.slot_zip_next (wpAny_call_entry F.slot_zip_next hT F.entry_zip_next
    (zipO_item S D1 D2 hz hTI hTO st1 st2 l1 l2 fun x1 x2 h' tk y1 y2 y3 y4 y5 => wpAny_pure (hQ x1 x2 h' tk y1 y2 y3 y4 y5)) (F.args_zip_next_1 _)))
theorem nextOf_zipO_end {a1 a2 : Value} {Q : Value → Shared → Prop} (S : ZipSep2 z TI TO i1 i2 fp1 fp2) (D1 : Draws prog w A.in1 i1 fp1 n1 P1 St1) (D2 : Draws prog w A.in1 i2 fp2 n2 P2 St2)
    (hz : ZipO s.heap z TI TO) (hTI : IsTupOf2 s.heap TI (.ref i1) (.ref i2)) (hTO : IsTupOf2 s.heap TO a1 a2) (st1 : St1 i s.heap) (st2 : St2 i s.heap) (l1 : i ≤ n1) (l2 : i ≤ n2) (hend : i = n1 ∨ i = n2)
    (hE : ∀ h' tk e, (∀ c o, c ≠ z → c ≠ TO → c ≠ i1 → c ≠ i2 → s.heap.get? c = some o → h'.get? c = some o) → (∃ o, h'.get? e = some o ∧ o.cls = .type "StopIteration") → E (.ref e) { s with heap := h', toks := tk }) :
    wpAny (model prog w) A (Builtin.SmallTypes.nextOf (.ref z)) Q E s := by
  have hT : s.TypeIs (.ref z) "zip" := by
    obtain ⟨f0, f, hz, _⟩ := hz
    exact ⟨_, hz, rfl⟩
  unfold Builtin.SmallTypes.nextOf
  exact wpAny_bind (wpAny_callSpecial?_slot (name := Str.ofString "__next__") hT F.slot_zip_next (wpAny_call_entry F.slot_zip_next hT F.entry_zip_next
    (zipO_end S D1 D2 hz hTI hTO st1 st2 l1 l2 hend hE) (F.args_zip_next_1 _)))
theorem enum_over {e it : Addr} {c : Int} {old : Value} {Q : Value → Shared → Prop} (J : Value → Heap → Nat → Prop) (he : IsEnum s.heap e it c old)
    (inner : ∀ Q' : Value → Shared → Prop, (∀ x h1 tk, J x h1 tk → Q' x { s with heap := h1, toks := tk }) → wpAny (model prog w) A (Builtin.SmallTypes.nextOf (.ref it)) Q' E s)
    (hJ : ∀ x h1 tk, J x h1 tk → IsEnum h1 e it c old)
    (hQ : ∀ x h1 tk h', J x h1 tk → IsEnumOut h' e it (c + 1) x h1.objs.size → h'.get? h1.objs.size = some { cls := .type "tuple", data := .seq #[.int c tk, x] } → h'.objs.size = h1.objs.size + 1 →
      (∀ b o, b ≠ e → h1.get? b = some o → h'.get? b = some o) → Q (.ref h1.objs.size) { s with heap := h', toks := tk + 1 }) :
    wpAny (model prog w) A (Builtin.«enumerate.__next__» ⟨[.ref e], []⟩) (fun fin s' => ∃ v, fin = .done (.ret v) ∧ Q v s') E s := by
  obtain ⟨hp, gs, dr, tk0, os⟩ := s
  show wpAny _ _ (field (.ref e) 2 >>= _) _ _ _
  refine wpAny_bind (wpAny_field he rfl (x := .ref it) rfl (wpAny_bind (inner _ fun x h1 tk hj => ?_)))
  have e1 := hJ x h1 tk hj
  have hel : e < h1.objs.size := Heap.lt_size e1
  show wpAny _ _ (field (.ref e) 3 >>= _) _ _ ⟨h1, gs, dr, tk, os⟩
  refine wpAny_bind (wpAny_field e1 rfl (x := rawInt c) rfl ?_)
  show wpAny _ _ (field (.ref e) 4 >>= _) _ _ ⟨h1, gs, dr, tk, os⟩
  refine wpAny_bind (wpAny_field e1 rfl (x := .none) rfl ?_)
  show wpAny _ _ (mkInt c >>= _) _ _ ⟨h1, gs, dr, tk, os⟩
  refine wpAny_bind (wpAny_mkInt ?_)
  show wpAny _ _ (setField (.ref e) 3 (rawInt (c + 1)) >>= _) _ _ ⟨h1, gs, dr, tk + 1, os⟩
  refine wpAny_bind (wpAny_setField_rec e1 (by simp) fun h2 e2 k2 => ?_)
  replace k2 : Heap.SameBut e h1 h2 := k2
  replace e2 : IsEnum h2 e it (c + 1) old := e2
  show wpAny _ _ (setField (.ref e) 4 .none >>= _) _ _ ⟨h2, gs, dr, tk + 1, os⟩
  refine wpAny_bind (wpAny_setField_rec e2 (by simp) fun h3 e3 k3 => ?_)
  replace k3 : Heap.SameBut e h2 h3 := k3
  replace e3 : IsEnum h3 e it (c + 1) old := e3
  have z3 : h3.objs.size = h1.objs.size := by rw [k3.1, k2.1]
  show wpAny _ _ (newTuple [.int c tk, x] >>= _) _ _ ⟨h3, gs, dr, tk + 1, os⟩
  refine wpAny_bind (wpAny_newTuple ?_)
  rw [z3]
  have e4 : IsEnum (h3.push { cls := .type "tuple", data := .seq #[.int c tk, x] }) e it (c + 1) old := Heap.get?_push_of_some _ e3
  have t4 : (h3.push { cls := .type "tuple", data := .seq #[.int c tk, x] }).get? h1.objs.size = some { cls := .type "tuple", data := .seq #[.int c tk, x] } := by rw [← z3]; exact Heap.get?_push_size _ rfl
  have s4 : (h3.push { cls := .type "tuple", data := .seq #[.int c tk, x] }).objs.size = h1.objs.size + 1 := by rw [Heap.size_push, z3]
  have o4 : ∀ b o, b ≠ e → h1.get? b = some o → (h3.push { cls := .type "tuple", data := .seq #[.int c tk, x] }).get? b = some o := fun b o hb q => Heap.get?_push_of_some _ (k3.extBut b o hb (k2.extBut b o hb q))
  show wpAny _ _ (Builtin.SmallTypes.ownedTupleIsFree (.ref e) >>= _) _ _ ⟨h3.push { cls := .type "tuple", data := .seq #[.int c tk, x] }, gs, dr, tk + 1, os⟩
  generalize h3.push { cls := .type "tuple", data := .seq #[.int c tk, x] } = h4 at *
  refine wpAny_bind ?_
  unfold Builtin.SmallTypes.ownedTupleIsFree
  refine wpAny_bind (wpAny_field e4 rfl (x := .none) rfl (wpAny_pure ?_))
  simp only [if_true]
  refine wpAny_bind (wpAny_rule (wpAny_bind (wpAny_field e4 rfl (x := old) rfl (wpAny_bind (wpAny_setField_rec e4 (by simp) fun h5 e5 k5 => ?_)))))
  replace k5 : Heap.SameBut e h4 h5 := k5
  replace e5 : IsEnum h5 e it (c + 1) x := e5
  show wpAny _ _ (Builtin.SmallTypes.ownedTupleHandOut (.ref e) (.ref h1.objs.size) >>= _) _ _ ⟨h5, gs, dr, tk + 1, os⟩
  refine wpAny_bind ?_
  unfold Builtin.SmallTypes.ownedTupleHandOut
  refine wpAny_bind (wpAny_setField_rec e5 (by simp) fun h6 e6 k6 => ?_)
  replace k6 : Heap.SameBut e h5 h6 := k6
  replace e6 : IsEnumOut h6 e it (c + 1) x h1.objs.size := e6
  refine wpAny_setField_rec e6 (by simp) fun h7 e7 k7 => ?_
  replace k7 : Heap.SameBut e h6 h7 := k7
  replace e7 : IsEnumOut h7 e it (c + 1) x h1.objs.size := e7
  have o7 : ∀ b o, b ≠ e → h4.get? b = some o → h7.get? b = some o := fun b o hb q => k7.extBut b o hb (k6.extBut b o hb (k5.extBut b o hb q))
  refine wpAny_bind (wpAny_letGo (wpAny_pure ⟨_, rfl, hQ x h1 tk h7 hj e7 (o7 _ _ (Nat.ne_of_gt hel) t4) ?_ fun b o hb q => o7 b o hb (o4 b o hb q)⟩))
  show h7.objs.size = h1.objs.size + 1
  rw [k7.1, k6.1, k5.1, s4]
theorem enum_over_end {e it : Addr} {c : Int} {old : Value} {Q : Option Value → Shared → Prop} (J : Heap → Prop) (he : IsEnum s.heap e it c old)
    (inner : ∀ (Q' : Value → Shared → Prop) (E' : Value → Shared → Prop), (∀ h' tk x, J h' → (∃ o, h'.get? x = some o ∧ o.cls = .type "StopIteration") → E' (.ref x) { s with heap := h', toks := tk }) → wpAny (model prog w) A.in1 (Builtin.SmallTypes.nextOf (.ref it)) Q' E' s)
    (hQ : ∀ h' tk, J h' → Q none { s with heap := h', toks := tk }) : wpAny (model prog w) A (pyNext (.ref e)) Q E s := by
  have hT : s.TypeIs (.ref e) "enumerate" := ⟨_, he, rfl⟩
  unfold pyNext
  refine wpAny_bind (wpAny_attempt (wpAny_callSpecial?_slot (name := Str.ofString "__next__") hT F.slot_enumerate_next (wpAny_call_entry F.slot_enumerate_next hT F.entry_enumerate_next ?_ (F.args_enumerate_next_1 _))))
  show wpAny _ _ (field (.ref e) 2 >>= _) _ _ _
  refine wpAny_bind (wpAny_field he rfl (x := .ref it) rfl (wpAny_bind (inner _ _ fun h' tk x hj hx' => ?_)))
  obtain ⟨o, ho, hc⟩ := hx'
  exact wpAny_bind (wpAny_isInstance (T := "StopIteration") (b := true) ⟨o, ho, hc⟩ isSubtype_stop (wpAny_pure (hQ _ _ hj)))
end
def IteZ (K : PySem.W.Frag) (a b : Addr) : It :=
  ⟨fun i H => ∃ (xs ys : List V) (x y : V), SqT K H a xs ∧ SqT K H b ys ∧ xs[i]? = some x ∧ ys[i]? = some y,
    fun i H v H' => ∃ T U x y, v = .ref T ∧ H U = none ∧ H T = none ∧ T ≠ U ∧ H' = upd (upd H U (.tup [x, y])) T (.tup [.int (i : Nat), .ref U]) ∧ (∀ xs, SqT K H a xs → xs[i]? = some x) ∧ ∀ ys, SqT K H b ys → ys[i]? = some y,
    fun i H => ∃ xs ys : List V, SqT K H a xs ∧ SqT K H b ys ∧ i ≤ xs.length ∧ i ≤ ys.length ∧ (i = xs.length ∨ i = ys.length)⟩
theorem turn_enumZ {P : Program} {w : World} {K : PySem.W.Frag} {elts : List Expr} {kk : Nat} {tpos : Pos} {a b e z TI TO i1 i2 : Addr} (S : ZipSep2 z TI TO i1 i2 [i1, a] [i2, b]) (n1 : a ≠ i1) (n2 : b ≠ i2) (ez : e ≠ z) (eT : e ≠ TO) (e1 : e ≠ i1) (e2 : e ≠ i2) :
    Turn P w K (.Tuple elts kk tpos) (IteZ K a b) [e, z, TI, TO, i1, i2] e (fun i h => (∃ old, IsEnum h e z ((i : Nat) : Int) old) ∧ ZipO h z TI TO ∧ IsTupOf2 h TI (.ref i1) (.ref i2) ∧ (∃ a1 a2, IsTupOf2 h TO a1 a2) ∧ h.IsTupleIter i1 a i ∧ h.IsTupleIter i2 b i) where
  mem := by simp
  obj := fun i h st d hd => by
    obtain ⟨⟨old, he⟩, ⟨f0, f, hz, _⟩, hTI, ⟨x, y, hTO⟩, ⟨o1, e1, _, d1⟩, ⟨o2, e2, _, d2⟩⟩ := st
    have e' : d = e ∨ d = z ∨ d = TI ∨ d = TO ∨ d = i1 ∨ d = i2 := by simpa using hd
    rcases e' with q | q | q | q | q | q <;> rw [q]
    · exact ⟨_, he, fun v q => nomatch q⟩
    · exact ⟨_, hz, fun v q => nomatch q⟩
    · exact ⟨_, hTI, fun v q => nomatch q⟩
    · exact ⟨_, hTO, fun v q => nomatch q⟩
    · exact ⟨o1, e1, fun v q => by rw [d1] at q; cases q⟩
    · exact ⟨o2, e2, fun v q => by rw [d2] at q; cases q⟩
  keep := fun i h h' st k => by
    obtain ⟨⟨old, he⟩, ⟨f0, f, hz, h0⟩, hTI, ⟨x, y, hTO⟩, h1, h2⟩ := st
    exact ⟨⟨old, k e (by simp) _ he⟩, ⟨f0, f, k z (by simp) _ hz, h0⟩, k TI (by simp) _ hTI, ⟨x, y, k TO (by simp) _ hTO⟩, h1.at fun o q => k i1 (by simp) o q, h2.at fun o q => k i2 (by simp) o q⟩
  item := by
    intro X hP hw hK hc i pins s σ H E I hf st hg
    subst hP hw hK
    obtain ⟨⟨old, he⟩, hz, hTI, ⟨t1, t2, hTO⟩, h1, h2⟩ := st
    obtain ⟨xs, ys, x, y, qx, qy, hx, hy⟩ := hg
    obtain ⟨ia, ra, pa, _⟩ := I.tuple qx
    obtain ⟨ib, rb, pb, _⟩ := I.tuple qy
    obtain ⟨va, ea, wa⟩ := ra.get hx
    obtain ⟨vb, eb, wb⟩ := rb.get hy
    have la : i < ia.toArray.size := by have := (List.getElem?_eq_some_iff.mp ea).1; simpa using this
    have lb : i < ib.toArray.size := by have := (List.getElem?_eq_some_iff.mp eb).1; simpa using this
    have hh := I.ok.hd hc
    have gone : ∀ {d : Addr}, d ∈ [e, z, TI, TO, i1, i2] → d < s.heap.objs.size := fun {d} hd => by
      have e' : d = e ∨ d = z ∨ d = TI ∨ d = TO ∨ d = i1 ∨ d = i2 := by simpa using hd
      rcases e' with q | q | q | q | q | q <;> rw [q]
      · exact Heap.lt_size he
      · obtain ⟨_, _, q, _⟩ := hz; exact Heap.lt_size q
      · exact Heap.lt_size hTI
      · exact Heap.lt_size hTO
      · obtain ⟨_, q, _⟩ := h1; exact Heap.lt_size q
      · obtain ⟨_, q, _⟩ := h2; exact Heap.lt_size q
    have hT : s.TypeIs (.ref e) "enumerate" := ⟨_, he, rfl⟩
    unfold pyNext
    refine wpAny_bind (wpAny_attempt (wpAny_callSpecial?_slot (name := Str.ofString "__next__") hT F.slot_enumerate_next (wpAny_call_entry F.slot_enumerate_next hT F.entry_enumerate_next
      (enum_over (fun v h1 tk => ∃ x1 x2, v = .ref s.heap.objs.size ∧ ia[i]? = some x1 ∧ ib[i]? = some x2 ∧ h1.IsTupleIter i1 a (i + 1) ∧ h1.IsTupleIter i2 b (i + 1) ∧ Drawn s z TI TO i1 i2 x1 x2 h1) he
        (fun Q' hj => nextOf_zipO S (Draws.tuple (A := X.A.in1.in1) hh i1 a n1 ia.toArray) (Draws.tuple (A := X.A.in1.in1) hh i2 b n2 ib.toArray) hz hTI hTO ⟨h1, pa⟩ ⟨h2, pb⟩ la lb fun x1 x2 h' tk y1 y2 y3 y4 y5 => hj _ _ _ ⟨x1, x2, rfl, by simpa using y1, by simpa using y2, y3.1, y4.1, y5⟩)
        (fun v h1 tk hj => by obtain ⟨_, _, _, _, _, _, _, dr⟩ := hj; exact dr.kp _ _ ez eT e1 e2 he) ?_) (F.args_enumerate_next_1 _))))
    rintro v hp1 tk hp2 ⟨x1, x2, rfl, g1, g2, it1, it2, dr⟩ eo ht hsz kp
    rw [ea] at g1; cases g1
    rw [eb] at g2; cases g2
    have hTI1 : IsTupOf2 hp1 TI (.ref i1) (.ref i2) := dr.kp _ _ S.TIz S.TITO S.TIi1 S.TIi2 hTI
    refine wpAny_pure ⟨_, rfl, ?_⟩
    refine wpAny_letOwnedTupleGo_enum (s := { s with heap := hp2, toks := tk + 1 }) eo fun hp3 he3 sb => ?_
    replace sb : Heap.SameBut e hp2 hp3 := sb
    have up : ∀ c o, c ≠ e → hp1.get? c = some o → hp3.get? c = some o := fun c o hc q => (sb.2 c hc).trans (kp c o hc q)
    have ne_of : ∀ {d : Addr}, d ∈ [e, z, TI, TO, i1, i2] → d ≠ s.heap.objs.size := fun {d} hd => Nat.ne_of_lt (gone hd)
    -- the pair
    have newU : ObjOk X.prog X.w (upd H s.heap.objs.size (.tup [x, y])) hp1 s.heap.objs.size (.tup [x, y]) :=
      ⟨by show 2 ≤ sizeLine; decide, [va, vb], .cons wa (.cons wb .nil), ⟨_, dr.two, rfl, _, rfl⟩⟩
    have I1 : Inv X pins σ (upd H s.heap.objs.size (.tup [x, y])) { s with heap := hp1, toks := tk } :=
      I.turnedNew (ch := [e, z, TI, TO, i1, i2]) (fun c o hc q => dr.kp c o (fun m => hc (by simp [m])) (fun m => hc (by simp [m])) (fun m => hc (by simp [m])) (fun m => hc (by simp [m])) q) hf (Nat.le_refl _) newU
    have hf1 : ∀ d ∈ [e], FpOk X pins (upd H s.heap.objs.size (.tup [x, y])) d := fun d hd => by
      have hd' : d ∈ [e, z, TI, TO, i1, i2] := by rw [List.mem_singleton.mp hd]; simp
      obtain ⟨q0, q1⟩ := hf d hd'
      exact ⟨by rw [upd_ne (ne_of hd')]; exact q0, q1⟩
    have hsz1 : hp1.objs.size = s.heap.objs.size + 1 := dr.sz
    have hne : hp1.objs.size ≠ s.heap.objs.size := by rw [hsz1]; exact Nat.succ_ne_self _
    have hTlt : e ≠ hp1.objs.size := by rw [hsz1]; exact Nat.ne_of_lt (Nat.lt_succ_of_lt (gone (by simp)))
    have ht3 : hp3.get? hp1.objs.size = some { cls := .type "tuple", data := .seq #[.int ((i : Nat) : Int) tk, .ref s.heap.objs.size] } := (sb.2 _ (Ne.symm hTlt)).trans ht
    have newT : ObjOk X.prog X.w (upd (upd H s.heap.objs.size (.tup [x, y])) hp1.objs.size (.tup [.int (i : Nat), .ref s.heap.objs.size])) hp3 hp1.objs.size (.tup [.int (i : Nat), .ref s.heap.objs.size]) :=
      ⟨by show 2 ≤ sizeLine; decide, [.int (i : Nat) tk, .ref s.heap.objs.size], .cons ⟨_, rfl⟩ (.cons rfl .nil), ⟨_, ht3, rfl, _, rfl⟩⟩
    have I2 : Inv X pins σ (upd (upd H s.heap.objs.size (.tup [x, y])) hp1.objs.size (.tup [.int (i : Nat), .ref s.heap.objs.size])) { s with heap := hp3, toks := tk + 1 } :=
      I1.turnedNew (t' := tk + 1) (h' := hp3) (ch := [e]) (fun c o hc q => up c o (fun m => hc (by simp [m])) q) hf1 (Nat.le_refl _) newT
    have nT : H hp1.objs.size = none := I.hok.fresh (by rw [hsz1]; exact Nat.le_succ _)
    have st0 : ∃ old, IsEnum hp3 e z ((i + 1 : Nat) : Int) old := ⟨_, by rw [show ((i + 1 : Nat) : Int) = (i : Int) + 1 by omega]; exact he3⟩
    refine ⟨.ref hp1.objs.size, _, I2, rfl, ⟨hp1.objs.size, s.heap.objs.size, x, y, rfl, I.hok.fresh (Nat.le_refl _), nT, hne, rfl, fun l hl => by rw [I.tuple_inj hl qx]; exact hx, fun l hl => by rw [I.tuple_inj hl qy]; exact hy⟩, ⟨st0, ?_, up _ _ ?_ hTI1, ?_, it1.at fun o q => up i1 o (Ne.symm e1) q, it2.at fun o q => up i2 o (Ne.symm e2) q⟩, fun d hd => ?_⟩
    · obtain ⟨f0, f, q, q0⟩ := dr.st
      exact ⟨f0, f, up z _ (Ne.symm ez) q, q0⟩
    · intro q
      have h := he
      rw [← q] at h
      have := congrArg Obj.cls (Option.some.inj (hTI.symm.trans h))
      simp at this
    · obtain ⟨b1, b2, q⟩ := dr.to
      exact ⟨b1, b2, up TO _ (Ne.symm eT) q⟩
    · rw [upd_ne (by rw [hsz1]; exact Nat.ne_of_lt (Nat.lt_succ_of_lt (gone hd))), upd_ne (ne_of hd)]
      exact (hf d hd).1
  done := by
    intro X hP hw hK hc i pins s σ H E I hf st hg
    subst hP hw hK
    obtain ⟨⟨old, he⟩, hz, hTI, ⟨t1, t2, hTO⟩, h1, h2⟩ := st
    obtain ⟨xs, ys, qx, qy, l1, l2, hend⟩ := hg
    obtain ⟨ia, ra, pa, _⟩ := I.tuple qx
    obtain ⟨ib, rb, pb, _⟩ := I.tuple qy
    have la := ra.length; have lb := rb.length
    have hh := I.ok.hd hc
    refine enum_over_end (fun h' => ∀ c o, c ≠ z → c ≠ TO → c ≠ i1 → c ≠ i2 → s.heap.get? c = some o → h'.get? c = some o) he
      (fun Q' E' hj => nextOf_zipO_end S (Draws.tuple (A := X.A.in1.in1) hh i1 a n1 ia.toArray) (Draws.tuple (A := X.A.in1.in1) hh i2 b n2 ib.toArray) hz hTI hTO ⟨h1, pa⟩ ⟨h2, pb⟩ (by simp; omega) (by simp; omega) (by simp; omega) fun h' tk x k q => hj h' tk x k q) fun h' tk kp => ?_
    exact ⟨rfl, I.turnedL (t' := tk) (ch := [e, z, TI, TO, i1, i2]) (fun c o hc q => kp c o (fun m => hc (by simp [m])) (fun m => hc (by simp [m])) (fun m => hc (by simp [m])) (fun m => hc (by simp [m])) q) hf⟩
  self := fun A i s Q E st h => let ⟨⟨_, he⟩, _⟩ := st; wpAny_pyIter_enum he h
set_option maxHeartbeats 1000000 in
theorem meets_enumerate_newI {v : Value} {Hh : Heap → Prop} (B : ∀ (prog : Program) (w : World) (A : Around) (E : Value → Shared → Prop) (s : Shared) (Q : Value → Shared → Prop), Hh s.heap → Q v s → wpAny (model prog w) A (pyIter v) Q E s) :
    Meets (Builtin.«enumerate.__new__» ⟨[.type "enumerate", v], []⟩) (fun _ R s => Hh s.heap ∧
      R (.ok (.ret (.ref s.heap.objs.size))) { s with heap := s.heap.push { cls := .type "enumerate", data := .fields #[.none, .bool false, v, rawInt 0, .none, .none] } }) :=
  .of_wp fun prog w A R s h => by
    obtain ⟨hp, g, d, tk, os⟩ := s; obtain ⟨h1, h⟩ := h
    have hsub := sub_enumerate
    have q1 : ∀ {A' : Around} {E : Value → Shared → Prop} {Q : Value → Shared → Prop}, Q v ⟨hp, g, d, tk, os⟩ → wpAny (model prog w) A' (pyIter v) Q E ⟨hp, g, d, tk, os⟩ :=
      fun q => B prog w _ _ ⟨hp, g, d, tk, os⟩ _ h1 q
    wp_walk using q1
    refine wpAny_stack_any fun st => wpAny_pure ?_
    split
    · rename_i c _ _ _ _ _
      cases (c == Value.type "enumerate")
      · wp_walk using q1
        exact ⟨_, rfl, h⟩
      · wp_walk using q1
        exact ⟨_, rfl, h⟩
    · wp_walk using q1
      exact ⟨_, rfl, h⟩
section
variable {prog : Program} {w : World} {A : Around} {E : Value → Shared → Prop} {s : Shared}
theorem call_enumerate_zip {z TI TO : Addr} {f0 : Value} {Q : Value → Shared → Prop} (hz : IsZip s.heap z TI TO f0)
    (h : ∀ h', IsEnum h' s.heap.objs.size z 0 .none → h'.objs.size = s.heap.objs.size + 1 → (∀ b o, s.heap.get? b = some o → h'.get? b = some o) → Q (.ref s.heap.objs.size) { s with heap := h' }) :
    wpAny (model prog w) A (call (.type "enumerate") [.ref z]) Q E s := by
  refine callType_new F.called_enumerate (by decide) (F.typeCall_enumerate_1 _) (F.newCall_enumerate_1 _) (fun obj => F.args_object_init_2 obj _) F.entry_enumerate_new
    (meets_enumerate_newI (Hh := fun h => IsZip h z TI TO f0) fun prog w A E s Q hz q => wpAny_pyIter_zip hz q) ⟨hz, ?_⟩
  have he : IsEnum (s.heap.push { cls := .type "enumerate", data := .fields #[.none, .bool false, .ref z, rawInt 0, .none, .none] }) s.heap.objs.size z 0 .none := Heap.get?_push_size _ rfl
  exact ⟨⟨_, he, rfl⟩, h _ he (Heap.size_push ..) fun b o x => Heap.get?_push_of_some _ x⟩
end
def iEnumZ (K : PySem.W.Frag) (ta : TA) : TI := fun σ H R => ta σ H fun vs H1 => ∃ a b xs ys, vs = [.ref a, .ref b] ∧ SqT K H1 a xs ∧ SqT K H1 b ys ∧ R (IteZ K a b) H1
theorem pi_enumZ {X : Cx} {e1 e2 : Expr} {ta : TA} {p p2 pos pos2 tpos : Pos} {elts : List Expr} {kk : Nat} (hg : Gl X "enumerate") (hm : X.mg "enumerate" = none) (hg2 : Gl X "zip") (hm2 : X.mg "zip" = none) (ha : PA X [e1, e2] ta)
    (hs2 : starEach [e1, e2] X.env = (false, eval e1 X.env) :: starEach [e2] X.env := by rfl) (hpl : (backTo pos2 (starEach [e2] X.env)).any (·.1) = false := by rfl) :
    PI X (.Tuple elts kk tpos) (.Call (.Name "enumerate" p) [.Call (.Name "zip" p2) [e1, e2] [] pos2] [] pos) (iEnumZ X.K ta) := by
  refine ⟨fun pins s σ H R I h => ?_⟩
  refine Call_ (ld_blt I hg hm boot_enumerate (PyProof.Rows.callWith_type1 ?_ rfl rfl))
  show wpAny _ _ (spliced ((false, eval (.Call (.Name "zip" p2) [e1, e2] [] pos2) X.env) :: backTo pos (starEach [] X.env))) _ _ s
  refine Calls.spliced_cons (Call_ (ld_blt I hg2 hm2 PyProof.Rows.boot_zip (PyProof.Rows.callWith_type1 (thn (ha.run pos2 pins s σ H _ I h) fun us s1 ⟨vs, H1, I1, r1, q1⟩ => ?_) hs2 hpl)))
  obtain ⟨a, b, xs, ys, ex, qx, qy, q⟩ := q1
  subst ex
  obtain ⟨v1, v2, rfl, e1, e2⟩ : ∃ v1 v2, us = [v1, v2] ∧ v1 = .ref a ∧ v2 = .ref b := by
    cases r1 with
    | cons r rr =>
      cases rr with
      | cons r' rr =>
        cases rr; cases r; cases r'
        exact ⟨_, _, rfl, rfl, rfl⟩
  subst e1 e2
  obtain ⟨ia, ra, pa, _⟩ := I1.tuple qx
  obtain ⟨ib, rb, pb, _⟩ := I1.tuple qy
  have hpa : a < s1.heap.objs.size := by obtain ⟨o, e, _⟩ := pa; exact Heap.lt_size e
  have hpb : b < s1.heap.objs.size := by obtain ⟨o, e, _⟩ := pb; exact Heap.lt_size e
  refine zip_begins2 (begins_tuple a ia.toArray) (begins_tuple b ib.toArray) pa pb fun h' hz hTI hTO g1 g2 hsz kp => ?_
  refine Calls.spliced_nil ?_
  refine call_enumerate_zip (s := { s1 with heap := h' }) hz fun h2 he hsz2 kp2 => wpAny_pyIter_enum he ?_
  have kpp : ∀ b o, s1.heap.get? b = some o → h2.get? b = some o := fun b o x => kp2 b o (kp b o x)
  have I2 : Inv X pins σ H1 { s1 with heap := h2 } := I1.kept (t' := s1.toks) kpp
  have S : ZipSep2 (s1.heap.objs.size + 4) (s1.heap.objs.size + 2) (s1.heap.objs.size + 3) s1.heap.objs.size (s1.heap.objs.size + 1) [s1.heap.objs.size, a] [s1.heap.objs.size + 1, b] :=
    zip_sep2 (fun d hd => by rw [List.mem_singleton.mp hd]; exact hpa) (fun d hd => by rw [List.mem_singleton.mp hd]; exact hpb)
  have hsz' : h'.objs.size = s1.heap.objs.size + 5 := hsz
  rw [show ({ s1 with heap := h' } : Shared).heap.objs.size = s1.heap.objs.size + 5 from hsz'] at he ⊢
  have fp : ∀ d ∈ [s1.heap.objs.size + 5, s1.heap.objs.size + 4, s1.heap.objs.size + 2, s1.heap.objs.size + 3, s1.heap.objs.size, s1.heap.objs.size + 1], s1.heap.objs.size ≤ d := fun d hd => by
    have e' : d = s1.heap.objs.size + 5 ∨ d = s1.heap.objs.size + 4 ∨ d = s1.heap.objs.size + 2 ∨ d = s1.heap.objs.size + 3 ∨ d = s1.heap.objs.size ∨ d = s1.heap.objs.size + 1 := by simpa using hd
    rcases e' with q | q | q | q | q | q <;> rw [q]
    · exact Nat.le_add_right _ _
    · exact Nat.le_add_right _ _
    · exact Nat.le_add_right _ _
    · exact Nat.le_add_right _ _
    · exact Nat.le_refl _
    · exact Nat.le_add_right _ _
  have nn : ∀ {i j : Nat}, i ≠ j → s1.heap.objs.size + i ≠ s1.heap.objs.size + j := fun h z => h (Nat.add_left_cancel z)
  exact ⟨s1.heap.objs.size + 5, [s1.heap.objs.size + 5, s1.heap.objs.size + 4, s1.heap.objs.size + 2, s1.heap.objs.size + 3, s1.heap.objs.size, s1.heap.objs.size + 1], _, _, H1, rfl, I2,
    turn_enumZ S (Nat.ne_of_lt hpa) (Nat.ne_of_lt (Nat.lt_of_lt_of_le hpb (Nat.le_add_right _ _))) (nn (i := 5) (j := 4) (by decide)) (nn (i := 5) (j := 3) (by decide)) (nn (i := 5) (j := 0) (by decide)) (nn (i := 5) (j := 1) (by decide)),
    ⟨⟨.none, he⟩, ⟨.none, false, kp2 _ _ hz, .inl rfl⟩, kp2 _ _ hTI, ⟨_, _, kp2 _ _ hTO⟩, ⟨_, kp2 _ _ g1, rfl, rfl⟩, ⟨_, kp2 _ _ g2, rfl, rfl⟩⟩, fun d hd => I1.fpOk (fp d hd) (I1.hok.fresh (fp d hd)), q⟩
def enzF (as : List D) (st : Sto) : R ItD := match as with
  | [.tup xs, .tup ys] => .ok (.frz (enumL (xs.zipWith (fun x y => .tup [x, y]) ys))) st
  | _ => .fail
section
variable {K : PySem.W.Frag} {M : Mem} {H : Hp}
theorem itez_rep {a b : Addr} {xs ys : List D} {vs ws : List V} (fa : FzT K M H a vs) (qa : RepL K M H xs vs) (fb : FzT K M H b ws) (qb : RepL K M H ys ws) : ItRep K M H (.frz (enumL (xs.zipWith (fun x y => .tup [x, y]) ys))) (IteZ K a b) := fun i M' H' st' g so => by
  have fa' := (g.fzT fa).sq
  have fb' := (g.fzT fb).sq
  have qa' := qa.kp g
  have qb' := qb.kp g
  have la := qa.length
  have lb := qb.length
  have hlen : (enumL (xs.zipWith (fun x y => D.tup [x, y]) ys)).length = min xs.length ys.length := by unfold enumL; simp
  refine ⟨fun e => ⟨vs, ws, fa', fb', by omega, by omega, by omega⟩, fun d hd => ?_⟩
  obtain ⟨p, hp, rfl⟩ := enumL_get hd
  rw [List.getElem?_zipWith] at hp
  cases hx : xs[i]? with
  | none => simp [hx] at hp
  | some x =>
    cases hy : ys[i]? with
    | none => simp [hx, hy] at hp
    | some y =>
      simp [hx, hy] at hp
      subst hp
      obtain ⟨v, hv, rx⟩ := qa'.get hx
      obtain ⟨w, hw, ry⟩ := qb'.get hy
      refine ⟨⟨vs, ws, v, w, fa', fb', hv, hw⟩, fun u H'' ⟨T, U, x', y', e1, hU, hT, hne, e2, e3, e4⟩ => ?_⟩
      have h3 := e3 vs fa'
      rw [hv] at h3; cases h3
      have h4 := e4 ws fb'
      rw [hw] at h4; cases h4
      subst e1 e2
      obtain ⟨g1, so1, r1⟩ := pair_new so rx ry hU
      obtain ⟨g2, so2, r2⟩ := pair_new so1 (rep_int _ _ _) r1 (T := T) (by rw [upd_ne hne]; exact hT)
      exact ⟨g1.trans g2, so2, r2⟩
variable {X : Cx} {W : WX} {fs : EvA} {tg it : Expr}
theorem g_enumz (h : PI X tg it (iEnumZ X.K (rdA X.K W fs))) : PI X tg it (rdI X.K W (callI enzF fs)) := h.imp fun σ H R' ⟨env, M, st, eo, so, p⟩ => ⟨env, M, st, eo, so, Post.imp (Post.bind p) fun vs H1 ⟨M1, st1, as, g, so1, ra, p1⟩ => by
  unfold enzF at p1
  split at p1
  · obtain ⟨x, y, rfl, rx, ry⟩ := ra.two
    unfold Rep at rx ry
    obtain ⟨a, vs, rfl, f, q⟩ := rx
    obtain ⟨b, ws, rfl, f2, q2⟩ := ry
    exact ⟨a, b, vs, ws, rfl, f.sq, f2.sq, p1 M1 H1 _ .refl so1 (itez_rep f q f2 q2)⟩
  · exact p1.elim⟩
end
end G
namespace DcT
open PySem PySem.Spec PyProof.Rows
abbrev dc2 (kx vx t0 i0 t1 i1 : Expr) (ifs0 ifs1 : List Expr) (scope : Scope) (pos : Pos) : Expr := .DictComp kx vx [⟨t0, i0, ifs0, 0⟩, ⟨t1, i1, ifs1, 0⟩] scope pos
section
variable {prog : Program} {w : World} {A : Around} {R : Result → Shared → Prop} {s : Shared} {kx vx t0 i0 t1 i1 : Expr} {ifs0 ifs1 : List Expr} {scope : Scope} {pos : Pos} {it acc : Value} {D : Addr} {env : Env}
abbrev tstM (ifs : List Expr) (env : Env) : Sem Bool := forIn ifs true fun c r => if r = true then do let ok ← isTrue c env (eval c env); pure (ForInStep.yield ok) else pure (ForInStep.yield r)
theorem dc2_loop0 (hs : ∀ x, foldedSetIterable i1 env x = pure x) (I : Nat → Shared → Prop)
    (turn : ∀ n s, I n s → wpAny (model prog w) A (pyNext it) (fun r s₁ => match r with
      | none => R (.ok .next) s₁
      | some v => wpAny (model prog w) A (letOwnedTupleGo t0 it v) (fun _ s₂ => wpAny (model prog w) A (assign t0 env v) (fun _ s₃ => wpAny (model prog w) A (tstM ifs0 env) (fun ok s₄ =>
            if ok = true then wpAny (model prog w) A (eval i1 env) (fun x s₅ => wpAny (model prog w) A (pyIter x) (fun j s₆ =>
              codeAny (model prog w) A (.compStart (dc2 kx vx t0 i0 t1 i1 ifs0 ifs1 scope pos) 1 j acc env) (fun r s' => match r with | .ok _ => ∃ m, m < n ∧ I m s' | .error _ => False) s₆) (fun _ _ => False) s₅) (fun _ _ => False) s₄
            else ∃ m, m < n ∧ I m s₄) (fun _ _ => False) s₃) (fun _ _ => False) s₂) (fun _ _ => False) s₁) (fun _ _ => False) s)
    (n : Nat) (h : I n s) : codeAny (model prog w) A (.compLoop (dc2 kx vx t0 i0 t1 i1 ifs0 ifs1 scope pos) 0 it acc env) R s := by
  refine codeAny_loop rfl I (fun n s hI => ?_) n h
  show wpAny _ A ((compTurn (dc2 kx vx t0 i0 t1 i1 ifs0 ifs1 scope pos) 0 it acc env).onRaise (fun x => do noteFrame x env; theTreesLotGoes x)) _ _ s
  refine wpAny_noted ?_
  have e : compTurn (dc2 kx vx t0 i0 t1 i1 ifs0 ifs1 scope pos) 0 it acc env = (do
      standAt i0.pos
      match ← pyNext it with
      | none => pure (.done .next)
      | some v =>
        letOwnedTupleGo t0 it v
        assign t0 env v
        let ok ← tstM ifs0 env
        if ok then
          let x ← eval i1 env
          standAt i1.pos
          let x ← foldedSetIterable i1 env x
          let _ ← runOwn (.compStart (dc2 kx vx t0 i0 t1 i1 ifs0 ifs1 scope pos) 1 (← holding [x] (pyIter x)) acc env) env
        again (.compLoop (dc2 kx vx t0 i0 t1 i1 ifs0 ifs1 scope pos) 0 it acc env)) := by rfl
  rw [e]
  have no : ∀ {α : Type} {m : Sem α} {Q : α → Shared → Prop} {E : Value → Shared → Prop} {s : Shared}, wpAny (model prog w) A m Q (fun _ _ => False) s → wpAny (model prog w) A m Q E s := fun h => wpAny_mono h (fun _ _ x => x) fun _ _ x => x.elim
  refine wpAny_bind (wpAny_standAt (wpAny_bind (wpAny_mono (no (turn n s hI)) (fun r s₁ h₁ => ?_) fun _ _ x => x)))
  cases r with
  | none => exact wpAny_pure h₁
  | some v =>
    refine wpAny_bind (wpAny_mono (no h₁) (fun _ s₂ h₂ => wpAny_bind (wpAny_mono (no h₂) (fun _ s₃ h₃ => wpAny_bind (wpAny_mono (no h₃) (fun ok s₄ h₄ => ?_) fun _ _ x => x)) fun _ _ x => x)) fun _ _ x => x)
    cases ok with
    | false => exact wpAny_pure ⟨rfl, h₄⟩
    | true =>
      refine wpAny_bind (wpAny_mono (no h₄) (fun x s₅ h₅ => ?_) fun _ _ x => x)
      refine wpAny_bind (wpAny_standAt (wpAny_bind (wpAny_of_eq (hs x) (wpAny_bind (wpAny_holding (wpAny_mono (no h₅) (fun j s₆ h₆ => ?_) fun _ _ x => x))))))
      refine wpAny_bind (wpAny_runOwn ?_)
      rw [Around.mark_none]
      refine codeAny_mono h₆ fun r s' hr => ?_
      cases r with
      | ok f => first | exact wpAny_pure ⟨rfl, hr⟩ | exact wpAny_bind (wpAny_pure (wpAny_pure ⟨rfl, hr⟩))
      | error e => exact hr.elim
theorem dc2_loop1 (I : Nat → Shared → Prop)
    (turn : ∀ n s, I n s → wpAny (model prog w) A (pyNext it) (fun r s₁ => match r with
      | none => R (.ok .next) s₁
      | some v => wpAny (model prog w) A (letOwnedTupleGo t1 it v) (fun _ s₂ => wpAny (model prog w) A (assign t1 env v) (fun _ s₃ => wpAny (model prog w) A (tstM ifs1 env) (fun ok s₄ =>
            if ok = true then wpAny (model prog w) A (eval kx env) (fun kv s₅ => wpAny (model prog w) A (eval vx env) (fun vv s₆ =>
              wpAny (model prog w) A (dictSet D kv vv) (fun _ s₇ => ∃ m, m < n ∧ I m s₇) (fun _ _ => False) s₆) (fun _ _ => False) s₅) (fun _ _ => False) s₄
            else ∃ m, m < n ∧ I m s₄) (fun _ _ => False) s₃) (fun _ _ => False) s₂) (fun _ _ => False) s₁) (fun _ _ => False) s)
    (n : Nat) (h : I n s) : codeAny (model prog w) A (.compLoop (dc2 kx vx t0 i0 t1 i1 ifs0 ifs1 scope pos) 1 it (.ref D) env) R s := by
  refine codeAny_loop rfl I (fun n s hI => ?_) n h
  show wpAny _ A ((compTurn (dc2 kx vx t0 i0 t1 i1 ifs0 ifs1 scope pos) 1 it (.ref D) env).onRaise (fun x => do noteFrame x env; theTreesLotGoes x)) _ _ s
  refine wpAny_noted ?_
  have e : compTurn (dc2 kx vx t0 i0 t1 i1 ifs0 ifs1 scope pos) 1 it (.ref D) env = (do
      standAt i1.pos
      match ← pyNext it with
      | none => pure (.done .next)
      | some v =>
        letOwnedTupleGo t1 it v
        assign t1 env v
        let ok ← tstM ifs1 env
        if ok then
          (do
            let kv ← eval kx env
            let vv ← holding [kv] (eval vx env)
            standAt { kx.pos with endLine := vx.pos.endLine, endCol := vx.pos.endCol }
            holding [kv, vv] (dictSet D kv vv))
        again (.compLoop (dc2 kx vx t0 i0 t1 i1 ifs0 ifs1 scope pos) 1 it (.ref D) env)) := by rfl
  rw [e]
  have no : ∀ {α : Type} {m : Sem α} {Q : α → Shared → Prop} {E : Value → Shared → Prop} {s : Shared}, wpAny (model prog w) A m Q (fun _ _ => False) s → wpAny (model prog w) A m Q E s := fun h => wpAny_mono h (fun _ _ x => x) fun _ _ x => x.elim
  refine wpAny_bind (wpAny_standAt (wpAny_bind (wpAny_mono (no (turn n s hI)) (fun r s₁ h₁ => ?_) fun _ _ x => x)))
  cases r with
  | none => exact wpAny_pure h₁
  | some v =>
    refine wpAny_bind (wpAny_mono (no h₁) (fun _ s₂ h₂ => wpAny_bind (wpAny_mono (no h₂) (fun _ s₃ h₃ => wpAny_bind (wpAny_mono (no h₃) (fun ok s₄ h₄ => ?_) fun _ _ x => x)) fun _ _ x => x)) fun _ _ x => x)
    cases ok with
    | false => exact wpAny_pure ⟨rfl, h₄⟩
    | true =>
      refine wpAny_bind (wpAny_bind (wpAny_mono (no h₄) (fun kv s₅ h₅ => wpAny_bind (wpAny_holding (wpAny_mono (no h₅) (fun vv s₆ h₆ => wpAny_bind (wpAny_standAt (wpAny_holding (wpAny_mono (no h₆) (fun _ s₇ h₇ => ?_) fun _ _ x => x)))) fun _ _ x => x))) fun _ _ x => x))
      exact wpAny_pure ⟨rfl, h₇⟩
theorem dc2_start1 (h0 : codeAny (model prog w) A (.compLoop (dc2 kx vx t0 i0 t1 i1 ifs0 ifs1 scope pos) 1 it acc env) R s)
    (h : wpAny (model prog w) A (pyIter it) (fun it' s' => codeAny (model prog w) A (.compLoop (dc2 kx vx t0 i0 t1 i1 ifs0 ifs1 scope pos) 1 it' acc env) R s') (fun _ _ => False) s) :
    codeAny (model prog w) A (.compStart (dc2 kx vx t0 i0 t1 i1 ifs0 ifs1 scope pos) 1 it acc env) R s := by
  refine codeAny_of_tree ?_
  show wpAny _ _ ((compStart (dc2 kx vx t0 i0 t1 i1 ifs0 ifs1 scope pos) 1 it acc env).onRaise (fun x => do noteFrame x env; standAt theWindowsPlace)) _ _ s
  refine wpAny_notedAt ?_
  unfold compStart
  show wpAny _ _ (ask >>= _) _ _ s
  refine wpAny_bind (wpAny_askSetting (wpAny_ite ?_))
  split
  · first | exact wpAny_bind (wpAny_pure (wpAny_pure (And.intro rfl h0))) | exact wpAny_pure (And.intro rfl h0)
  · exact wpAny_bind (wpAny_rule (wpAny_bind (wpAny_standAt (wpAny_bind (wpAny_mono h (fun it' s' h' => wpAny_pure (And.intro rfl h')) fun _ _ x => x.elim)))))
end
end DcT
namespace G
open PySem PySem.Spec PyProof.Rows L2
section
variable {X : Cx}
def tDc2 (wi : TI) (g : TG) (tt : TT) (wi1 : TI) (g1 : TG) (tt1 : TT) (tk tv : TE) (vs vs1 : List Nat) : TE := fun σ H Q => wi σ H fun J H1 => ∀ D, H1 D = none → ∃ W : Nat → Nat → Hp → Prop, (∃ m, W 0 m (upd H1 D (.dK []))) ∧ ∀ i m H, W i m H →
  (J.stop i H ∧ Q (.ref D) H) ∨ (J.go i H ∧ ∃ Nx : Hp → Prop, (∀ H', Nx H' → ∃ m', m' < m ∧ W (i + 1) m' H') ∧ ∀ x H', J.yld i H x H' → g x (wipe σ vs) H' fun σ2 H2 => wipe σ2 vs = wipe σ vs ∧ tt σ2 H2 fun b H3 =>
    if b = true then wi1 σ2 H3 fun J1 H4 => ∃ W1 : Nat → Nat → Hp → Prop, (∃ m, W1 0 m H4) ∧ ∀ j k H, W1 j k H →
      (J1.stop j H ∧ Nx H) ∨ (J1.go j H ∧ ∃ Nx1 : Hp → Prop, (∀ H', Nx1 H' → ∃ k', k' < k ∧ W1 (j + 1) k' H') ∧ ∀ x H', J1.yld j H x H' → g1 x (wipe σ2 vs1) H' fun σ3 H5 => wipe σ3 vs1 = wipe σ2 vs1 ∧ tt1 σ3 H5 fun b H6 =>
        if b = true then tk σ3 H6 fun y H7 => tv σ3 H7 fun z H8 => ∃ kvs k, y = kV k ∧ H8 D = some (.dK kvs) ∧ kvs.length < sizeLine ∧ Nx1 (upd H8 D (.dK (putK kvs k z))) else Nx1 H6)
    else Nx H3)
theorem pe_dc2 {kx vx tg iter tg1 iter1 : Expr} {ifs ifs1 : List Expr} {scope : Scope} {own : List (Str × Nat)} {vs1 : List Nat} {pos : Pos} {wi wi1 : TI} {g g1 : TG} {tt tt1 : TT} {tk tv : TE} (hc : X.calm = true) (hN : X.N.Nodup) (hi : PI X tg iter wi) (ok : BlkOk X.N X.env.scope scope own) (hv : ∀ i ∈ vs1, i ∈ own.map (·.2))
    (hg : ∀ (s : Shared) (H : Hp) (C : Addr) (cl : List (Str × Addr)) (fp : List Addr), PG (X.blk s H scope (compEnvC scope cl C X.env) fp) tg g) (ht : ∀ (s : Shared) (H : Hp) (C : Addr) (cl : List (Str × Addr)) (fp : List Addr), PTs (X.blk s H scope (compEnvC scope cl C X.env) fp) ifs tt)
    (hi1 : ∀ (s : Shared) (H : Hp) (C : Addr) (cl : List (Str × Addr)) (fp : List Addr), PI (X.blk s H scope (compEnvC scope cl C X.env) fp) tg1 iter1 wi1)
    (hg1 : ∀ (s : Shared) (H : Hp) (C : Addr) (cl : List (Str × Addr)) (fp : List Addr), PG (X.blk s H scope (compEnvC scope cl C X.env) fp) tg1 g1) (ht1 : ∀ (s : Shared) (H : Hp) (C : Addr) (cl : List (Str × Addr)) (fp : List Addr), PTs (X.blk s H scope (compEnvC scope cl C X.env) fp) ifs1 tt1)
    (hk : ∀ (s : Shared) (H : Hp) (C : Addr) (cl : List (Str × Addr)) (fp : List Addr), PE (X.blk s H scope (compEnvC scope cl C X.env) fp) kx tk) (he : ∀ (s : Shared) (H : Hp) (C : Addr) (cl : List (Str × Addr)) (fp : List Addr), PE (X.blk s H scope (compEnvC scope cl C X.env) fp) vx tv)
    (hs : ∀ x, foldedSetIterable iter X.env x = pure x := by intro _; rfl) (hs1 : ∀ env x, foldedSetIterable iter1 env x = pure x := by intro _ _; rfl) :
    PE X (.DictComp kx vx [⟨tg, iter, ifs, 0⟩, ⟨tg1, iter1, ifs1, 0⟩] scope pos) (tDc2 wi g tt wi1 g1 tt1 tk tv (own.map (·.2)) vs1) := by
  refine ⟨fun pins s σ H Q I h => ?_⟩
  rw [arm_eval_DictComp]
  have hfree : ∀ y ∈ scope.names, y.2 = .free → ∃ c, X.env.cells.lookup y.1 = some c := fun y hy e => by
    rcases ok.free y hy e with k | k
    · exact I.ok.has _ (.inl k)
    · exact I.ok.has _ (.inr k)
  refine wpAny_comprehension_free (use := none) rfl hs (closure_ok hfree) ok.kind (fun y hy e => by rw [ok.uniq y hy, e]) (thn (hi.run pins s σ H _ I h) fun xv s1 hx => thn hx fun itv s2 h2 => ?_)
  obtain ⟨it, fp, tn, J, H2, e, I2, T, st2, f2, q⟩ := h2
  subst e
  refine wpAny_newObj_type (newEnv_comp ?_)
  obtain ⟨D, hD⟩ : ∃ D, D = s2.heap.objs.size := ⟨_, rfl⟩
  rw [← hD]
  have hDn : H2 D = none := I2.hok.fresh (Nat.le_of_eq hD.symm)
  obtain ⟨W, ⟨m0, w0⟩, turn⟩ := q D hDn
  have up3 : ∀ b o, s2.heap.get? b = some o → (s2.heap.push { cls := .type "dict", data := .dict #[] }).get? b = some o := fun b o e => Heap.get?_push_of_some _ e
  have I3 : Inv X pins σ (upd H2 D (.dK [])) { s2 with heap := s2.heap.push { cls := .type "dict", data := .dict #[] } } := by
    refine I2.laid (t' := s2.toks) up3 (Nat.le_of_eq hD.symm) ?_
    rw [hD]
    exact dk_empty s2.heap I2.big
  have sz : ∀ b ∈ fp, b < s2.heap.objs.size := fun b hb => by
    obtain ⟨o, e, _⟩ := T.obj _ _ st2 b hb
    exact Heap.lt_size e
  have f3 : ∀ b ∈ fp, FpOk X pins (upd H2 D (.dK [])) b ∧ b < (s2.heap.push { cls := .type "dict", data := .dict #[] }).objs.size := fun b hb =>
    ⟨⟨by rw [upd_ne (by rw [hD]; exact Nat.ne_of_lt (sz b hb))]; exact (f2 b hb).1, (f2 b hb).2⟩, by rw [Heap.size_push]; exact Nat.lt_succ_of_lt (sz b hb)⟩
  have st3 : tn 0 (s2.heap.push { cls := .type "dict", data := .dict #[] }) := T.keep _ _ _ st2 fun b _ o e => up3 b o e
  generalize hs3 : ({ s2 with heap := s2.heap.push { cls := .type "dict", data := .dict #[] } } : Shared) = s3 at I3
  have h3 : s3.heap = s2.heap.push { cls := .type "dict", data := .dict #[] } := by rw [← hs3]
  rw [← h3] at f3 st3
  have I4 := block_start I3 ok hN f3
  obtain ⟨cl, hcl⟩ : ∃ cl, cl = cellsFrom (s3.heap.objs.size + 1) scope.names (cloFrom X.env.cells scope.names []) := ⟨_, rfl⟩
  rw [← hcl] at I4
  have pg := hg s3 (upd H2 D (.dK [])) s3.heap.objs.size cl fp
  have pt := ht s3 (upd H2 D (.dK [])) s3.heap.objs.size cl fp
  have pi1 := hi1 s3 (upd H2 D (.dK [])) s3.heap.objs.size cl fp
  have pg1 := hg1 s3 (upd H2 D (.dK [])) s3.heap.objs.size cl fp
  have pt1 := ht1 s3 (upd H2 D (.dK [])) s3.heap.objs.size cl fp
  have pk := hk s3 (upd H2 D (.dK [])) s3.heap.objs.size cl fp
  have pv := he s3 (upd H2 D (.dK [])) s3.heap.objs.size cl fp
  show codeAny _ _ (.compStart (.DictComp kx vx [⟨tg, iter, ifs, 0⟩, ⟨tg1, iter1, ifs1, 0⟩] scope pos) 0 (.ref it) (.ref D) (compEnvC scope (cellsFrom (s3.heap.objs.size + 1) scope.names (cloFrom X.env.cells scope.names [])) s3.heap.objs.size X.env))
    (compPost (model X.prog X.w) X.A X.xe none (EP X pins σ Q) (.ref D) s3.heap.objs.size) { s3 with heap := pushCells (s3.heap.push { cls := .type "dict", data := .dict #[] }) scope.names }
  rw [← hcl]
  have nfp : ∀ b ∈ fp, (upd H2 D (.dK [])) b = none := fun b hb => (f3 b hb).1.1
  have st4 : tn 0 (pushCells (s3.heap.push { cls := .type "dict", data := .dict #[] }) scope.names) := T.keep _ _ _ st3 fun b _ o e => pushCells_keeps _ _ _ _ (Heap.get?_push_of_some _ e)
  generalize hs5 : ({ s3 with heap := pushCells (s3.heap.push { cls := .type "dict", data := .dict #[] }) scope.names } : Shared) = s4 at I4 ⊢
  have st4 : tn 0 s4.heap := by rw [← hs5]; exact st4
  generalize hce : compEnvC scope cl s3.heap.objs.size X.env = ce at I4 pg pt pi1 pg1 pt1 pk pv ⊢
  have cL : ce.locals = s3.heap.objs.size := by subst hce; rfl
  generalize hH3 : upd H2 D (.dK []) = H3 at *
  -- in the block: the walked thing's own objects stay its own
  have stat : ∀ {σ' : L2.St} {H' : Hp} {s' : Shared}, Inv (X.blk s3 H3 scope ce fp) [] σ' H' s' → (∀ b ∈ fp, H' b = none) → ∀ b ∈ fp, FpOk (X.blk s3 H3 scope ce fp) [] H' b := fun {σ' H' s'} I' hn b hb =>
    ⟨hn b hb, (I'.ok.exf b hb).1, I'.ok.exfs b hb, .inl hb, fun x c e => (I'.ok.exf b hb).2 x c e, fun p hp => absurd (show p ∈ ([] : List (Addr × Obj)) ++ [] from hp) (by simp)⟩
  have loop : codeAny (model X.prog X.w) X.A (.compLoop (.DictComp kx vx [⟨tg, iter, ifs, 0⟩, ⟨tg1, iter1, ifs1, 0⟩] scope pos) 0 (.ref it) (.ref D) ce) (compPost (model X.prog X.w) X.A X.xe none (EP X pins σ Q) (.ref D) s3.heap.objs.size) s4 := by
    refine DcT.dc2_loop0 (hs1 ce) (fun n s' => ∃ i H', Inv (X.blk s3 H3 scope ce fp) [] (wipe σ (own.map (·.2))) H' s' ∧ tn i s'.heap ∧ (∀ b ∈ fp, H' b = none) ∧ W i n H') ?_ m0 ⟨0, H3, I4, st4, nfp, w0⟩
    rintro n s5 ⟨i, H5, I5, st5, n5, w5⟩
    rcases turn i n H5 w5 with ⟨stop, qq⟩ | ⟨go, Nx, hNx, step⟩
    · refine thnF (T.done (X.blk s3 H3 scope ce fp) rfl rfl rfl hc i [] s5 _ H5 (fun _ _ => False) I5 (stat I5 n5) st5 stop) fun r s6 ⟨hr, I6⟩ => ?_
      subst hr
      have I7 : Inv X pins σ H5 s6 := I3.call' (ch := fp) I6.os I6.base I6.hok I6.bare fun b hb => ⟨(f3 b hb).1.2.2.2.1, (f3 b hb).1.2.1, (f3 b hb).1.2.2.2.2.1, (f3 b hb).1.2.2.2.2.2⟩
      have nC : H5 s3.heap.objs.size = none := by
        have z : H5 ce.locals = none := I6.free
        rw [cL] at z
        exact z
      obtain ⟨m, hn, _⟩ := I6.loc
      have hn : s6.heap.Ns ce.locals m := hn
      rw [cL] at hn
      refine ⟨m, hn, fun h'' sb => ?_⟩
      obtain ⟨f0, f1, f2, f3, f4, f5⟩ := I3.fpOk (Nat.le_refl _) nC
      exact ⟨.ref D, H5, I7.turned (t' := s6.toks) (fun b o hb e => (sb.2 b hb).trans e) f0 f1 f3 f4 f5, rfl, qq⟩
    · refine thnF (T.item (X.blk s3 H3 scope ce fp) rfl rfl rfl hc i [] s5 _ H5 (fun _ _ => False) I5 (stat I5 n5) st5 go) fun r s6 ⟨u, hr, h6⟩ => ?_
      subst hr
      refine thnF h6 fun _ s7 ⟨x, H7, I7, r7, y7, st7, n7⟩ => ?_
      refine thnF (pg.run _ s7 _ H7 x u _ (I7.pinned (stat I7 n7) (T.obj _ _ st7)) r7 (step x H7 y7)) fun _ s8 ⟨σ8, H8, I8, hw8, q8⟩ => ?_
      refine thnF (pt.run _ s8 σ8 H8 _ I8 q8) fun b s9 ⟨H9, I9, q9⟩ => ?_
      have fin : ∀ {σ9 : L2.St} {s' : Shared} {H' : Hp}, Inv (X.blk s3 H3 scope ce fp) ([] ++ pinsAt fp s7.heap) σ9 H' s' → (wipe σ (own.map (·.2))).length = σ9.length → (∀ (j : Nat) v, (wipe σ (own.map (·.2)))[j]? = some (some v) → σ9[j]? = some (some v)) → Nx H' →
          ∃ m, m < n ∧ ∃ i H', Inv (X.blk s3 H3 scope ce fp) [] (wipe σ (own.map (·.2))) H' s' ∧ tn i s'.heap ∧ (∀ b ∈ fp, H' b = none) ∧ W i m H' := fun {σ9 s' H'} I' hl hk nx => by
        obtain ⟨m', hm, w'⟩ := hNx H' nx
        have pin' : ∀ b ∈ fp, ∀ o, s7.heap.get? b = some o → s'.heap.get? b = some o ∧ H' b = none := fun b hb o e =>
          let z := I'.pin (b, o) (List.mem_append_right _ (List.mem_append_right _ (mem_pinsAt hb e)))
          ⟨z.1, z.2.1⟩
        refine ⟨m', hm, i + 1, H', (I'.unpinned (pins := [])).weak hl hk, T.keep _ _ _ st7 fun b hb o e => (pin' b hb o e).1, fun b hb => ?_, w'⟩
        obtain ⟨o, e, _⟩ := T.obj _ _ st7 b hb
        exact (pin' b hb o e).2
      have hl8 : (wipe σ (own.map (·.2))).length = σ8.length := by rw [← hw8, wipe_length]
      have hk8 : ∀ (j : Nat) v, (wipe σ (own.map (·.2)))[j]? = some (some v) → σ8[j]? = some (some v) := fun j v e => by
        rw [← hw8] at e
        exact (wipe_some e).1
      have hk9 : ∀ (j : Nat) v, (wipe σ (own.map (·.2)))[j]? = some (some v) → (wipe σ8 vs1)[j]? = some (some v) := fun j v e => by
        rw [← hw8] at e
        obtain ⟨e1, e2⟩ := wipe_some e
        rw [wipe_out fun z => e2 (hv j z)]
        exact e1
      cases b with
      | false =>
        simp only [Bool.false_eq_true, if_false] at q9 ⊢
        exact fin I9 hl8 hk8 q9
      | true =>
        simp only [if_true] at q9 ⊢
        refine thnF (pi1.run _ s9 σ8 H9 _ I9 q9) fun xv s10 hx => thnF hx fun itv s11 h11 => ?_
        obtain ⟨it1, fp1, tn1, J1, H11, e1, I11, T1, st11, f11, W1, ⟨m1, w1⟩, turn1⟩ := h11
        subst e1
        have stat1 : ∀ {H' : Hp}, (∀ b ∈ fp1, H' b = none) → ∀ b ∈ fp1, FpOk (X.blk s3 H3 scope ce fp) ([] ++ pinsAt fp s7.heap) H' b := fun hn b hb => ⟨hn b hb, (f11 b hb).2⟩
        have loop1 : codeAny (model X.prog X.w) X.A (.compLoop (.DictComp kx vx [⟨tg, iter, ifs, 0⟩, ⟨tg1, iter1, ifs1, 0⟩] scope pos) 1 (.ref it1) (.ref D) ce)
            (fun r s' => match r with
              | .ok _ => ∃ m, m < n ∧ ∃ i H', Inv (X.blk s3 H3 scope ce fp) [] (wipe σ (own.map (·.2))) H' s' ∧ tn i s'.heap ∧ (∀ b ∈ fp, H' b = none) ∧ W i m H'
              | .error _ => False) s11 := by
          refine DcT.dc2_loop1 (fun k s' => ∃ j H', Inv (X.blk s3 H3 scope ce fp) ([] ++ pinsAt fp s7.heap) (wipe σ8 vs1) H' s' ∧ tn1 j s'.heap ∧ (∀ b ∈ fp1, H' b = none) ∧ W1 j k H') ?_ m1 ⟨0, H11, I11.weak (wipe_length _ _) (fun j v e => (wipe_some e).1), st11, fun b hb => (f11 b hb).1, w1⟩
          rintro k s12 ⟨j, H12, I12, st12, n12, w12⟩
          rcases turn1 j k H12 w12 with ⟨stop1, nx1⟩ | ⟨go1, Nx1, hNx1, step1⟩
          · refine thnF (T1.done (X.blk s3 H3 scope ce fp) rfl rfl rfl hc j _ s12 (wipe σ8 vs1) H12 (fun _ _ => False) I12 (stat1 n12) st12 stop1) fun r s13 ⟨hr, I13⟩ => ?_
            subst hr
            exact fin I13 (hl8.trans (wipe_length σ8 vs1).symm) hk9 nx1
          · refine thnF (T1.item (X.blk s3 H3 scope ce fp) rfl rfl rfl hc j _ s12 (wipe σ8 vs1) H12 (fun _ _ => False) I12 (stat1 n12) st12 go1) fun r s13 ⟨u1, hr, h13⟩ => ?_
            subst hr
            refine thnF h13 fun _ s14 ⟨x1, H14, I14, r14, y14, st14, n14⟩ => ?_
            refine thnF (pg1.run _ s14 (wipe σ8 vs1) H14 x1 u1 _ (I14.pinned (stat1 n14) (T1.obj _ _ st14)) r14 (step1 x1 H14 y14)) fun _ s15 ⟨σ15, H15, I15, hw15, q15⟩ => ?_
            refine thnF (pt1.run _ s15 σ15 H15 _ I15 q15) fun b1 s16 ⟨H16, I16, q16⟩ => ?_
            have fin1 : ∀ {s' : Shared} {H' : Hp}, Inv (X.blk s3 H3 scope ce fp) (([] ++ pinsAt fp s7.heap) ++ pinsAt fp1 s14.heap) σ15 H' s' → Nx1 H' → ∃ m, m < k ∧ ∃ j H', Inv (X.blk s3 H3 scope ce fp) ([] ++ pinsAt fp s7.heap) (wipe σ8 vs1) H' s' ∧ tn1 j s'.heap ∧ (∀ b ∈ fp1, H' b = none) ∧ W1 j m H' := fun {s' H'} I' nx => by
              obtain ⟨m', hm, w'⟩ := hNx1 H' nx
              have pin' : ∀ b ∈ fp1, ∀ o, s14.heap.get? b = some o → s'.heap.get? b = some o ∧ H' b = none := fun b hb o e =>
                let z := I'.pin (b, o) (List.mem_append_right _ (List.mem_append_right _ (mem_pinsAt hb e)))
                ⟨z.1, z.2.1⟩
              refine ⟨m', hm, j + 1, H', I'.unpinned.weak (by rw [← hw15, wipe_length]) (fun j v e => by rw [← hw15] at e; exact (wipe_some e).1), T1.keep _ _ _ st14 fun b hb o e => (pin' b hb o e).1, fun b hb => ?_, w'⟩
              obtain ⟨o, e, _⟩ := T1.obj _ _ st14 b hb
              exact (pin' b hb o e).2
            cases b1 with
            | false =>
              simp only [Bool.false_eq_true, if_false] at q16 ⊢
              exact fin1 I16 q16
            | true =>
              simp only [if_true] at q16 ⊢
              refine thnF (pk.run _ s16 σ15 H16 _ I16 q16) fun z s17 ⟨yk, H17, I17, r17, q17⟩ => ?_
              refine thnF (pv.run _ s17 σ15 H17 _ I17 q17) fun z2 s18 ⟨yv, H18, I18, r18, kvs, k', ek, hD18, hz18, nx⟩ => ?_
              subst ek
              exact d_dictSet (X := X.blk s3 H3 scope ce fp) I18 hD18 hz18 r17 r18 fun s19 I19 => fin1 I19 nx
        exact DcT.dc2_start1 loop1 (T1.self X.A 0 _ _ _ st11 loop1)
  exact codeAny_compStart_dict loop (T.self X.A 0 _ _ _ st4 loop)
end
end G
namespace G
open PySem PySem.Spec PyProof.Rows L2
def dc2F (t : Tg) (tt : EvB) (it1 : EvI) (t1 : Tg) (tt1 : EvB) (fk fv : EvE) (vs1 : List Nat) (envw : Env) (n : Nat) : List D → Sto → R Unit
  | [], st => .ok () st
  | x :: xs, st => match t.set x envw with
    | none => .fail
    | some env1 => (noX (tt env1 st)).bind fun b st1 => if b = true then (noX (it1 env1 st1)).bind fun I st2 => match I with
        | .frz ys => (dcF t1 tt1 fk fv (wipeE env1 vs1) n ys st2).bind fun _ st3 => dc2F t tt it1 t1 tt1 fk fv vs1 envw n xs st3
        | _ => .fail
      else dc2F t tt it1 t1 tt1 fk fv vs1 envw n xs st1
def dc2E (it : EvI) (t : Tg) (tt : EvB) (it1 : EvI) (t1 : Tg) (tt1 : EvB) (fk fv : EvE) (vs vs1 : List Nat) : EvE := fun env st => (it env st).bind fun I st1 => (match I with
    | .frz xs => dc2F t tt it1 t1 tt1 fk fv vs1 (wipeE env vs) st1.length xs (st1 ++ [MO.dd []])
    | _ => .fail).bind fun _ st2 => .ok (.mut st1.length) st2
section
variable {W : WX} {K : PySem.W.Frag} {t t1 : Tg} {tt tt1 : EvB} {fk fv : EvE} {it1 : EvI}
theorem rd_dc2 {it : EvI} {vs vs1 : List Nat} (hv : ∀ i ∈ Tg.names t, i ∈ vs) (hv1 : ∀ i ∈ Tg.names t1, i ∈ vs1) :
    ∀ σ H Q, rdE K W (dc2E it t tt it1 t1 tt1 fk fv vs vs1) σ H Q → tDc2 (rdI K W it) (Tg.raw K t) (rdB K W0 tt) (rdI K W0 it1) (Tg.raw K t1) (rdB K W0 tt1) (rdE K W0 fk) (rdE K W0 fv) vs vs1 σ H Q :=
  fun σ H Q ⟨env, M, st, eo, so, p⟩ => ⟨env, M, st, eo, so, by
    refine Post.imp (Post.bind (rep := ItRep K) p) fun J H1 ⟨M1, st1, I, g1, so1, ri, p1⟩ => ?_
    intro D0 hD
    have g2 : Grow M1 H1 (M1.push D0) (upd H1 D0 (.dK [])) := .push so1 hD
    have so2 : StOk K (M1.push D0) (upd H1 D0 (.dK [])) (st1 ++ [.dd []]) := so1.push hD ⟨[], upd_same, rfl, .nil⟩
    have dm : (M1.push D0).m[st1.length]? = some D0 := by
      have := rep_mut (H' := upd H1 D0 (.dK [])) (p := D0) so1
      unfold Rep at this
      obtain ⟨a, ea, m⟩ := this
      cases ea
      exact m
    have eo2 : EnvOk K (M1.push D0) (upd H1 D0 (.dK [])) (wipeE env vs) (L2.wipe σ vs) := ((eo.grow g1).grow g2).wipe vs
    have hfin : ∀ {M' : Mem} {H' : Hp} {st' : Sto}, Grow (M1.push D0) (upd H1 D0 (.dK [])) M' H' → StOk K M' H' st' → Post K (Rep K) M1 H1 Q (WE W σ) (.ok (.mut st1.length) st') → Q (.ref D0) H' := fun gr so' q =>
      q _ _ _ (g2.trans gr) so' (by unfold Rep; exact ⟨D0, rfl, gr.pre _ _ dm⟩)
    cases I with
    | gen nxt k => exact p1.elim
    | frz xs =>
      have p1 : Post K (Rep K) M1 H1 Q (WE W σ) ((dc2F t tt it1 t1 tt1 fk fv vs1 (wipeE env vs) st1.length xs (st1 ++ [.dd []])).bind fun _ st2 => .ok (.mut st1.length) st2) := p1
      refine ⟨fun i m H' => m = xs.length - i ∧ i ≤ xs.length ∧ ∃ M' st', Grow (M1.push D0) (upd H1 D0 (.dK [])) M' H' ∧ StOk K M' H' st' ∧ EnvOk K M' H' (wipeE env vs) (L2.wipe σ vs) ∧ Post K (Rep K) M1 H1 Q (WE W σ) ((dc2F t tt it1 t1 tt1 fk fv vs1 (wipeE env vs) st1.length (xs.drop i) st').bind fun _ st2 => .ok (.mut st1.length) st2),
        ⟨xs.length, by simp, Nat.zero_le _, _, _, .refl, so2, eo2, by simpa using p1⟩, ?_⟩
      rintro i m H' ⟨rfl, hi, M', st', gr, so', eo', q⟩
      obtain ⟨r1, r2⟩ := ri i M' H' st' (g2.trans gr).k so'
      by_cases hlt : i < xs.length
      · have hd : xs[i]? = some xs[i] := List.getElem?_eq_getElem hlt
        obtain ⟨r3, r4⟩ := r2 _ hd
        refine .inr ⟨r3, fun H2 => (∃ M' st', Grow (M1.push D0) (upd H1 D0 (.dK [])) M' H2 ∧ StOk K M' H2 st' ∧ EnvOk K M' H2 (wipeE env vs) (L2.wipe σ vs) ∧ Post K (Rep K) M1 H1 Q (WE W σ) ((dc2F t tt it1 t1 tt1 fk fv vs1 (wipeE env vs) st1.length (xs.drop (i + 1)) st').bind fun _ st2 => .ok (.mut st1.length) st2)), fun H2 h => ⟨xs.length - (i + 1), by omega, rfl, hlt, h⟩, fun x H2 hy => ?_⟩
        obtain ⟨g3, so3, rx⟩ := r4 x H2 hy
        rw [List.drop_eq_getElem_cons hlt] at q
        have eo3' := eo'.grow g3
        unfold dc2F at q
        cases e : t.set xs[i] (wipeE env vs) with
        | none => rw [e] at q; exact q.elim
        | some env1 =>
          rw [e] at q
          refine Tg.rd e rx eo3' fun σ' eo3 hw => ⟨(hw vs hv).trans wipe_wipe, env1, M', st', eo3, so3, ?_⟩
          cases e1 : tt env1 st' with
          | exc x s => simp only [e1, noX, R.bind] at q; exact q.elim
          | fail => simp only [e1, noX, R.bind] at q; exact q.elim
          | ok b st2 =>
            simp only [e1, noX, R.bind] at q
            intro M3 H3 b' g4 so4 hb
            subst hb
            have ew := eo3'.grow g4
            cases b with
            | false => exact iteF ⟨M3, st2, (gr.trans g3).trans g4, so4, ew, q⟩
            | true =>
              simp only [if_true] at q
              refine iteT ⟨env1, M3, st2, eo3.grow g4, so4, ?_⟩
              cases e2 : it1 env1 st2 with
              | exc x s => rw [e2] at q; exact q.elim
              | fail => rw [e2] at q; exact q.elim
              | ok I2 st3 =>
                rw [e2] at q
                intro M4 H4 J1 g5 so5 ri1
                have ew4 := ew.grow g5
                have eo4 := (eo3.grow g4).grow g5
                have gr4 := ((gr.trans g3).trans g4).trans g5
                cases I2 with
                | gen nxt k => exact q.elim
                | frz ys =>
                  have q : Post K (Rep K) M1 H1 Q (WE W σ) (((dcF t1 tt1 fk fv (wipeE env1 vs1) st1.length ys st3).bind fun _ st3 => dc2F t tt it1 t1 tt1 fk fv vs1 (wipeE env vs) st1.length (xs.drop (i + 1)) st3).bind fun _ st2 => .ok (.mut st1.length) st2) := q
                  refine ⟨fun j k H' => k = ys.length - j ∧ j ≤ ys.length ∧ ∃ M' st', Grow M4 H4 M' H' ∧ StOk K M' H' st' ∧ EnvOk K M' H' (wipeE env vs) (L2.wipe σ vs) ∧ EnvOk K M' H' (wipeE env1 vs1) (L2.wipe σ' vs1) ∧
                      Post K (Rep K) M1 H1 Q (WE W σ) (((dcF t1 tt1 fk fv (wipeE env1 vs1) st1.length (ys.drop j) st').bind fun _ st3 => dc2F t tt it1 t1 tt1 fk fv vs1 (wipeE env vs) st1.length (xs.drop (i + 1)) st3).bind fun _ st2 => .ok (.mut st1.length) st2),
                    ⟨ys.length, by simp, Nat.zero_le _, M4, st3, .refl, so5, ew4, eo4.wipe vs1, by simpa using q⟩, ?_⟩
                  rintro j k H5 ⟨rfl, hj, M5, st5, k5, so5', ew5, ev5, q5⟩
                  obtain ⟨s1, s2⟩ := ri1 j M5 H5 st5 k5.k so5'
                  by_cases hjl : j < ys.length
                  · have hd5 : ys[j]? = some ys[j] := List.getElem?_eq_getElem hjl
                    obtain ⟨s3, s4⟩ := s2 _ hd5
                    refine .inr ⟨s3, fun H' => ∃ M' st', Grow M4 H4 M' H' ∧ StOk K M' H' st' ∧ EnvOk K M' H' (wipeE env vs) (L2.wipe σ vs) ∧ EnvOk K M' H' (wipeE env1 vs1) (L2.wipe σ' vs1) ∧
                      Post K (Rep K) M1 H1 Q (WE W σ) (((dcF t1 tt1 fk fv (wipeE env1 vs1) st1.length (ys.drop (j + 1)) st').bind fun _ st3 => dc2F t tt it1 t1 tt1 fk fv vs1 (wipeE env vs) st1.length (xs.drop (i + 1)) st3).bind fun _ st2 => .ok (.mut st1.length) st2), fun H' h => ⟨ys.length - (j + 1), by omega, rfl, hjl, h⟩, fun y H6 hy6 => ?_⟩
                    obtain ⟨g6, so6, ry⟩ := s4 y H6 hy6
                    rw [List.drop_eq_getElem_cons hjl] at q5
                    exact turnD_rd (P := fun r => Post K (Rep K) M1 H1 Q (WE W σ) ((r.bind fun _ st3 => dc2F t tt it1 t1 tt1 fk fv vs1 (wipeE env vs) st1.length (xs.drop (i + 1)) st3).bind fun _ st2 => .ok (.mut st1.length) st2)) so6 (g6.pre _ _ (k5.pre _ _ (gr4.pre _ _ dm))) (ev5.grow g6) ry hv1 (fun z => z) q5
                      fun M7 H7 st7 k7 m7 p7 => ⟨M7, st7, (k5.trans g6).trans k7, m7, (ew5.grow g6).grow k7, (ev5.grow g6).grow k7, p7⟩
                  · have ej : j = ys.length := by omega
                    refine .inl ⟨s1 ej, M5, st5, gr4.trans k5, so5', ew5, ?_⟩
                    rw [ej, List.drop_length] at q5
                    exact q5
      · have e : i = xs.length := by omega
        refine .inl ⟨r1 e, ?_⟩
        rw [e, List.drop_length] at q
        exact hfin gr so' q⟩
theorem g_dc2 {X : Cx} {e : Expr} {it : EvI} {vs vs1 : List Nat} (hv : ∀ i ∈ Tg.names t, i ∈ vs) (hv1 : ∀ i ∈ Tg.names t1, i ∈ vs1)
    (h : PE X e (tDc2 (rdI X.K W it) (Tg.raw X.K t) (rdB X.K W0 tt) (rdI X.K W0 it1) (Tg.raw X.K t1) (rdB X.K W0 tt1) (rdE X.K W0 fk) (rdE X.K W0 fv) vs vs1)) : PE X e (rdE X.K W (dc2E it t tt it1 t1 tt1 fk fv vs vs1)) := h.imp (rd_dc2 hv hv1)
end
end G
namespace G
open PySem PySem.Spec PyProof.Rows L2
def insI (x : Int) : List Int → List Int
  | [] => [x]
  | y :: r => if x ≤ y then x :: y :: r else y :: insI x r
def srtI (l : List Int) : List Int := l.foldr insI []
theorem insI_perm (x : Int) : ∀ l, (insI x l).Perm (x :: l)
  | [] => .refl _
  | y :: r => by
    unfold insI
    split
    · exact .refl _
    · exact ((insI_perm x r).cons y).trans (.swap x y r)
theorem srtI_perm : ∀ l, (srtI l).Perm l
  | [] => .refl _
  | x :: l => (insI_perm x _).trans ((srtI_perm l).cons x)
theorem insI_sorted (x : Int) : ∀ l, l.Pairwise (· ≤ ·) → (insI x l).Pairwise (· ≤ ·)
  | [], _ => List.pairwise_singleton _ _
  | y :: r, h => by
    obtain ⟨h1, h2⟩ := List.pairwise_cons.mp h
    unfold insI
    split
    · rename_i c
      refine List.pairwise_cons.mpr ⟨fun z hz => ?_, h⟩
      rcases List.mem_cons.mp hz with rfl | hz
      · exact c
      · have := h1 z hz; omega
    · rename_i c
      refine List.pairwise_cons.mpr ⟨fun z hz => ?_, insI_sorted x r h2⟩
      rcases List.mem_cons.mp ((insI_perm x r).mem_iff.mp hz) with rfl | hz
      · omega
      · exact h1 z hz
theorem srtI_sorted : ∀ l, (srtI l).Pairwise (· ≤ ·)
  | [] => .nil
  | x :: l => insI_sorted x _ (srtI_sorted l)
theorem srtI_unique {a l : List Int} (h : a.Perm l) (hs : a.Pairwise (· ≤ ·)) : a = srtI l :=
  List.Perm.eq_of_pairwise (le := (· ≤ ·)) (fun x y _ _ h1 h2 => Int.le_antisymm h1 h2) hs (srtI_sorted l) (h.trans (srtI_perm l).symm)
def keysI : List L2.Key → Option (List Int)
  | [] => some []
  | .inl i :: r => (keysI r).map (i :: ·)
  | .inr _ :: _ => none
theorem keysI_some : ∀ {ks : List L2.Key} {ns : List Int}, keysI ks = some ns → ks.map kV = ns.map V.int
  | [], ns, h => by cases h; rfl
  | .inl i :: r, ns, h => by
    unfold keysI at h
    obtain ⟨m, e, rfl⟩ := Option.map_eq_some_iff.mp h
    rw [List.map_cons, List.map_cons, keysI_some e]; rfl
  | .inr _ :: _, ns, h => by cases h
theorem collect_new {prog : Program} {w : World} {A : Around} {E : Value → Shared → Prop} {s : Shared} {T : String} {r d : Addr} {n : Nat} {P : Nat → Value → Prop} {OK : Heap → Prop} {R : List Value → Shared → Prop} (K : PySem.W.KdlSrc prog w T r d n P OK) (hh : A.handled = none) (hok : OK s.heap) (hn : n ≤ sizeLine)
    (h : ∀ (h' : Heap) (tk : Nat) (acc : Array Value), (∀ b o, s.heap.get? b = some o → h'.get? b = some o) → s.heap.objs.size ≤ h'.objs.size → ItemsOf P acc n → R acc.toList { s with heap := h', toks := tk }) :
    wpAny (model prog w) A (collect (.ref r)) R E s := by
  have hlt := K.there _ hok
  refine wpAny_bind (wpAny_runValue (codeAny_builtin entry_proto_collect' ?_))
  rw [Around.under_plainId PySem.F.plain_proto_collect _]
  refine wpAny_bind (wpAny_newObj_type ?_)
  refine wpAny_pure ⟨plainId_quiet PySem.F.plain_list_iadd _, codeAny_builtin entry_list_iadd' ?_⟩
  rw [Around.under_plainId PySem.F.plain_list_iadd _]
  have key := PySem.W.kdl_extend (A := A) (s := { s with heap := s.heap.push { cls := .type "list", data := .seq ([] : List Value).toArray } })
    (R := fun (q : Result) (s' : Shared) => ∃ (h' : Heap) (tk : Nat) (acc' : Array Value) (c' : Nat), q = .ok (.ret (.ref s.heap.objs.size)) ∧ s' = { s with heap := h', toks := tk } ∧
      (∀ b o, s.heap.get? b = some o → h'.get? b = some o) ∧ h'.get? s.heap.objs.size = some { cls := .type "list", dict := none, data := .seq acc' c', slots := #[] } ∧ ItemsOf P acc' n)
    K hh (K.keep _ _ hok fun b _ o e => Heap.get?_push_of_some _ e) s.heap.objs.size (Nat.ne_of_gt hlt.1) (Nat.ne_of_gt hlt.2) (.ref s.heap.objs.size) 0 (Heap.get?_push_size _ rfl)
    (fun h' tk acc' c' hk hS' hacc => ⟨h', tk, acc', c', rfl, rfl, fun b o e => hk b o (Nat.ne_of_lt (Heap.lt_size e)) (Heap.get?_push_of_some _ e), hS', hacc⟩) hn
  refine wpAny_mono key (fun fin s' x => ?_) fun e s' x => ?_
  · cases fin with
    | done f =>
      obtain ⟨h', tk, acc', c', e, rfl, hk, hS', hacc⟩ := x
      cases e
      exact wpAny_bind (wpAny_load hS' (wpAny_pure (h h' tk acc' hk (Nat.le_of_lt (Heap.lt_size hS')) hacc)))
    | again c₁ =>
      refine ⟨x.1, codeAny_mono x.2 fun q s₂ y => ?_⟩
      obtain ⟨h', tk, acc', c', rfl, rfl, hk, hS', hacc⟩ := y
      exact wpAny_bind (wpAny_load hS' (wpAny_pure (h h' tk acc' hk (Nat.le_of_lt (Heap.lt_size hS')) hacc)))
  · obtain ⟨_, _, _, _, e', _⟩ := x
    cases e'
def rSortedDK : List V → Hp → VK → Prop := fun vs H Q => ∃ (d : Addr) (kvs : List (L2.Key × V)) (ns : List Int), vs = [V.ref d] ∧ H d = some (.dK kvs) ∧ (kvs.map fun kv => kV kv.1) = ns.map V.int ∧
  ∀ (ns' : List Int) (p : Addr), ns'.Perm ns → ns'.Pairwise (· ≤ ·) → H p = none → Q (.ref p) (upd H p (.lst (ns'.map V.int)))
theorem cr_sortedDK {X : Cx} (hc : X.calm = true) : CallR X (.builtin "sorted") rSortedDK := by
  intro pins s σ H vs us Q I r h
  obtain ⟨d, kvs, ns, rfl, hk, hns, q⟩ := h
  rw [Vals.ref1 r]
  obtain ⟨z, lo, ds, rk, hd⟩ := (show ObjOk X.prog X.w H s.heap d (.dK kvs) from I.hok d _ hk)
  obtain ⟨ep, hat⟩ := hd.dictAt
  have hl : kvs.length = ds.length := Paired.length rk
  refine Calls.call_function_entry kind_sorted plain_sorted entry_sorted (args_sorted1 _) ?_
  unfold Builtin.«sorted»
  refine wpAny_bind (m := checkCount "sorted" 1 1 _) (wpAny_pure ?_)
  refine wpAny_bind (collect_new (A := X.A.in1) (PySem.W.kdl_dict (knd := mixKind X.prog X.w) (kvs := ds) (ep := ep) lo) (I.ok.hd hc) hat (by rw [← hl]; exact z) fun h' tk acc hkeep hle hacc => ?_)
  have el : acc.toList.length = acc.size := by simp
  have hal : acc.toList.length = kvs.length := by rw [el, hacc.1, hl]
  have hvals : Vals (ns.map V.int) acc.toList := by
    rw [← hns]
    refine vals_of_at (by rw [List.length_map, hal]) fun j x w h1 h2 => ?_
    obtain ⟨k, y, hky, hi⟩ := hacc.2 j w (by rw [← Array.getElem?_toList]; exact h2)
    have e1 : (kvs.map (·.1))[j]? = some k := by rw [KV.keys rk, List.getElem?_map, hky] <;> rfl
    have e2 : (kvs.map fun kv => kV kv.1)[j]? = some (kV k) := by
      have e3 : (kvs.map fun kv => kV kv.1) = (kvs.map (·.1)).map kV := by rw [List.map_map] <;> rfl
      rw [e3, List.getElem?_map, e1] <;> rfl
    rw [e2] at h1
    cases h1
    exact keyIs_rel hi
  have hz : acc.toList.length ≤ sizeLine := by rw [hal]; exact z
  refine wpAny_bind (wpAny_newList ?_ hz)
  have hoL : (h'.push (seqObj "list" acc.toList.toArray 0)).get? h'.objs.size = some (seqObj "list" acc.toList.toArray 0) := Heap.get?_push_size _ rfl
  have hi := hvals.ints
  show wpAny _ _ _ _ _ { s with heap := h'.push (seqObj "list" acc.toList.toArray 0), toks := tk }
  refine wpAny_bind (wpAny_holding (wpAny_call_entry slot_list_sort ⟨_, hoL, rfl⟩ entry_list_sort (SrtO.list_sort_ord SrtO.swo_int hoL hz (fun h2 => SrtO.ints_sortable hi h2) fun out h1 h2 => ⟨_, rfl, ?_⟩) (args_list_sort _)))
  refine wpAny_pure ⟨_, rfl, ?_⟩
  obtain ⟨k1, k2, k3⟩ := SrtO.ints_out hi h1 h2
  obtain ⟨ep', he'⟩ := PyProof.Rows.sortedHeap_at (vs := acc.toList) (out := out.toArray) hoL
  have hlen : ((out.map SrtO.iv).map V.int).length ≤ sizeLine := by
    rw [List.length_map, k2.length_eq]
    have := hvals.length
    rw [List.length_map] at this
    omega
  have keep2 : ∀ b o, s.heap.get? b = some o → (PyProof.Rows.sortedHeap (h'.push (seqObj "list" acc.toList.toArray 0)) h'.objs.size acc.toList out.toArray).get? b = some o := fun b o e => by
    have e1 := hkeep b o e
    have hb : b < h'.objs.size := Heap.lt_size e1
    rw [PyProof.Rows.sortedHeap_old (Nat.ne_of_lt hb) (by rw [Heap.size_push]; exact Nat.lt_succ_of_lt hb)]
    exact Heap.get?_push_of_some _ e1
  exact ⟨.ref h'.objs.size, upd H h'.objs.size (.lst ((out.map SrtO.iv).map V.int)), I.laid (t' := tk) keep2 hle ⟨hlen, out, ep', vals_of_ints k1, he'⟩, rfl, q _ _ k2 k3 (I.hok.fresh hle)⟩
def sortDF : FA := fun as st => match as with
  | [.mut n] => (match st[n]? with
    | some (.dd kvs) => (match keysI (kvs.map (·.1)) with
      | some ns => .ok (.lst ((srtI ns).map D.int)) st
      | none => .fail)
    | _ => .fail)
  | _ => .fail
theorem ints_repL {K : PySem.W.Frag} {M : Mem} {H : Hp} : ∀ ns : List Int, RepL K M H (ns.map D.int) (ns.map V.int)
  | [] => .nil
  | _ :: ns => .cons rfl (ints_repL ns)
theorem v_sortD {K : PySem.W.Frag} : CallV K rSortedDK sortDF := by
  intro as xs M H st Q E ra so p
  unfold sortDF at p
  split at p
  · split at p
    · split at p
      · rename_i n _ kvs e _ ns hn
        obtain ⟨x, rfl, rx⟩ := ra.one
        unfold Rep at rx
        obtain ⟨t, rfl, m⟩ := rx
        obtain ⟨ws, hv, hk, _⟩ := so.at_ n t _ m e
        refine ⟨t, ws, ns, rfl, hv, ?_, fun ns' b hp hs hb => ?_⟩
        · rw [← keysI_some hn, ← hk, List.map_map]; rfl
        · rw [srtI_unique hp hs]
          exact p M _ _ (.laid so hb) (so.laid hb) (rep_lst so (ints_repL _) hb)
      · exact p.elim
    · exact p.elim
  · exact p.elim
def srtIF : FA := fun as st => match as with
  | [.tup _] => .fail
  | [a] => (match (seqOf a st).bind intsOf with
    | some ns => .ok (.lst ((srtI ns).map D.int)) st
    | none => .fail)
  | _ => .fail
theorem v_srtI {K : PySem.W.Frag} : CallV K (rSortedI K) srtIF := by
  intro as xs M H st Q E ra so p
  unfold srtIF at p
  split at p
  · exact p.elim
  · rename_i a hnt
    split at p
    · rename_i ns e
      obtain ⟨x, rfl, rx⟩ := ra.one
      obtain ⟨ds, e1, e2⟩ := Option.bind_eq_some_iff.mp e
      obtain ⟨t, vs, rfl, hs, rl⟩ : ∃ t vs, x = .ref t ∧ SqL K H t vs ∧ RepL K M H ds vs := by
        cases a with
        | «mut» n =>
          unfold Rep at rx
          obtain ⟨t, rfl, m⟩ := rx
          simp only [seqOf] at e1
          split at e1
          · rename_i ys hy
            cases e1
            obtain ⟨vs, hv, rl⟩ := so.at_ n t _ m hy
            exact ⟨t, vs, rfl, .of hv, rl⟩
          · cases e1
        | lst ys => cases e1; unfold Rep at rx; obtain ⟨t, vs, e, f, q⟩ := rx; exact ⟨t, vs, e, f.sq, q⟩
        | slo ys => cases e1; unfold Rep at rx; obtain ⟨t, vs, e, f, q⟩ := rx; exact ⟨t, vs, e, f.sq, q⟩
        | tup ys => exact absurd rfl (hnt ys)
        | _ => cases e1
      have ev := intsOf_rep e2 rl
      subst ev
      refine ⟨t, ns, rfl, hs, fun ns' b hp hs' hb => ?_⟩
      rw [srtI_unique hp hs']
      exact p M _ _ (.laid so hb) (so.laid hb) (rep_lst so (ints_repL _) hb)
    · exact p.elim
  · exact p.elim
@[simp] theorem srtIF_lst (ns : List Int) (st : Sto) : srtIF [.lst (ns.map D.int)] st = .ok (.lst ((srtI ns).map D.int)) st := by
  show (match (some (ns.map D.int)).bind intsOf with | some ns => _ | none => _) = _
  rw [Option.bind_some, intsOf_map]
end G
namespace G
open PySem PySem.Spec PyProof.Rows L2
def lc2JF (t : Tg) (tt : EvB) (it1 : EvI) (t1 : Tg) (tt1 : EvB) (fe : EvE) (vs1 : List Nat) (envw : Env) : List D → Sto → List D → R (List D)
  | [], st, acc => .ok acc st
  | x :: xs, st, acc => match t.set x envw with
    | none => .fail
    | some env1 => (noX (tt env1 st)).bind fun b st1 => if b = true then (noX (it1 env1 st1)).bind fun I st2 => match I with
        | .gen nxt k => (lcG t1 tt1 fe (wipeE env1 vs1) nxt k 0 st2 acc).bind fun acc2 st3 => lc2JF t tt it1 t1 tt1 fe vs1 envw xs st3 acc2
        | _ => .fail
      else lc2JF t tt it1 t1 tt1 fe vs1 envw xs st1 acc
def lc2JL (it : EvI) (t : Tg) (tt : EvB) (it1 : EvI) (t1 : Tg) (tt1 : EvB) (fe : EvE) (vs vs1 : List Nat) : EvA := fun env st => (it env st).bind fun I st1 => match I with
  | .frz xs => lc2JF t tt it1 t1 tt1 fe vs1 (wipeE env vs) xs st1 []
  | _ => .fail
def lc2JE (it : EvI) (t : Tg) (tt : EvB) (it1 : EvI) (t1 : Tg) (tt1 : EvB) (fe : EvE) (vs vs1 : List Nat) : EvE := fun env st => (lc2JL it t tt it1 t1 tt1 fe vs vs1 env st).bind fun xs st1 => .ok (.lst xs) st1
section
variable {W : WX} {K : PySem.W.Frag} {t t1 : Tg} {tt tt1 : EvB} {fe : EvE} {it1 : EvI}
theorem rd_lc2J {it : EvI} {vs vs1 : List Nat} (hv : ∀ i ∈ Tg.names t, i ∈ vs) (hv1 : ∀ i ∈ Tg.names t1, i ∈ vs1) :
    ∀ σ H Q, rdE K W (lc2JE it t tt it1 t1 tt1 fe vs vs1) σ H Q → tLc2 (rdI K W it) (Tg.raw K t) (rdB K W0 tt) (rdI K W0 it1) (Tg.raw K t1) (rdB K W0 tt1) (rdE K W0 fe) vs vs1 σ H Q :=
  fun σ H Q ⟨env, M, st, eo, so, p⟩ => ⟨env, M, st, eo, so, by
    have p : Post K (Rep K) M H Q (WE W σ) ((it env st).bind fun I st1 => (match I with
      | .frz xs => lc2JF t tt it1 t1 tt1 fe vs1 (wipeE env vs) xs st1 []
      | _ => .fail).bind fun xs st1 => .ok (.lst xs) st1) := by
      have p : Post K (Rep K) M H Q (WE W σ) ((lc2JL it t tt it1 t1 tt1 fe vs vs1 env st).bind fun xs st1 => .ok (.lst xs) st1) := p
      unfold lc2JL at p
      cases e : it env st with
      | ok I st1 => rw [e] at p; exact p
      | exc x s => rw [e] at p; exact p
      | fail => rw [e] at p; exact p
    refine Post.imp (Post.bind (rep := ItRep K) p) fun J H1 ⟨M1, st1, I, g1, so1, ri, p1⟩ => ?_
    intro L hL
    obtain ⟨so2, k2⟩ := so1.hold (vs := []) hL
    have m0 : Mid K M1 H1 L (M1.hold L) (upd H1 L (.lst [])) st1 [] := ⟨k2, rfl, fun a ha => by
      obtain ⟨_, o, e⟩ := so1.pd a ha
      rw [upd_ne (ne_of_none e hL)], hL, fun a ha => (let ⟨o, e⟩ := (so1.pd a ha).2; ⟨_, e⟩), so2, [], upd_same, .nil⟩
    have eo1 : EnvOk K (M1.hold L) (upd H1 L (.lst [])) (wipeE env vs) (L2.wipe σ vs) := ((eo.grow g1).kp k2).wipe vs
    cases I with
    | gen nxt k => exact p1.elim
    | frz xs =>
      have p1 : Post K (Rep K) M1 H1 Q (WE W σ) ((lc2JF t tt it1 t1 tt1 fe vs1 (wipeE env vs) xs st1 []).bind fun xs st1 => .ok (.lst xs) st1) := p1
      refine ⟨fun i m H' => m = xs.length - i ∧ i ≤ xs.length ∧ ∃ M' st' acc, Mid K M1 H1 L M' H' st' acc ∧ EnvOk K M' H' (wipeE env vs) (L2.wipe σ vs) ∧ Post K (Rep K) M1 H1 Q (WE W σ) ((lc2JF t tt it1 t1 tt1 fe vs1 (wipeE env vs) (xs.drop i) st' acc).bind fun xs st1 => .ok (.lst xs) st1),
        ⟨xs.length, by simp, Nat.zero_le _, _, _, _, m0, eo1, by simpa using p1⟩, ?_⟩
      rintro i m H' ⟨rfl, hi, M', st', acc, md, eo', q⟩
      obtain ⟨r1, r2⟩ := ri i M' H' st' md.kp md.so
      by_cases hlt : i < xs.length
      · have hd : xs[i]? = some xs[i] := List.getElem?_eq_getElem hlt
        obtain ⟨r3, r4⟩ := r2 _ hd
        refine .inr ⟨r3, fun H2 => (∃ M' st' acc, Mid K M1 H1 L M' H2 st' acc ∧ EnvOk K M' H2 (wipeE env vs) (L2.wipe σ vs) ∧ Post K (Rep K) M1 H1 Q (WE W σ) ((lc2JF t tt it1 t1 tt1 fe vs1 (wipeE env vs) (xs.drop (i + 1)) st' acc).bind fun xs st1 => .ok (.lst xs) st1)), fun H2 h => ⟨xs.length - (i + 1), by omega, rfl, hlt, h⟩, fun x H2 hy => ?_⟩
        obtain ⟨g2, so2, rx⟩ := r4 x H2 hy
        rw [List.drop_eq_getElem_cons hlt] at q
        have md2 := md.grow g2 so2
        have eo2 := eo'.grow g2
        unfold lc2JF at q
        cases e : t.set xs[i] (wipeE env vs) with
        | none => rw [e] at q; exact q.elim
        | some env1 =>
          rw [e] at q
          refine Tg.rd e rx eo2 fun σ' eo3 hw => ⟨(hw vs hv).trans wipe_wipe, env1, M', st', eo3, so2, ?_⟩
          cases e1 : tt env1 st' with
          | exc x s => simp only [e1, noX, R.bind] at q; exact q.elim
          | fail => simp only [e1, noX, R.bind] at q; exact q.elim
          | ok b st2 =>
            simp only [e1, noX, R.bind] at q
            intro M3 H3 b' g3 so3 hb
            subst hb
            have md3 := md2.grow g3 so3
            have ew : EnvOk K M3 H3 (wipeE env vs) (L2.wipe σ vs) := eo2.grow g3
            cases b with
            | false => exact iteF ⟨M3, st2, acc, md3, ew, q⟩
            | true =>
              simp only [if_true] at q
              refine iteT ⟨env1, M3, st2, eo3.grow g3, so3, ?_⟩
              cases e2 : it1 env1 st2 with
              | exc x s => rw [e2] at q; exact q.elim
              | fail => rw [e2] at q; exact q.elim
              | ok I2 st3 =>
                rw [e2] at q
                intro M4 H4 J1 g4 so4 ri1
                have md4 := md3.grow g4 so4
                have ew4 := ew.grow g4
                have eo4 := ((eo3.grow g3).grow g4)
                cases I2 with
                | frz ys => exact q.elim
                | gen nxt k0 =>
                  have q : Post K (Rep K) M1 H1 Q (WE W σ) (((lcG t1 tt1 fe (wipeE env1 vs1) nxt k0 0 st3 acc).bind fun acc2 st3 => lc2JF t tt it1 t1 tt1 fe vs1 (wipeE env vs) (xs.drop (i + 1)) st3 acc2).bind fun xs st1 => .ok (.lst xs) st1) := q
                  refine ⟨fun j k H' => ∃ M' st' acc', Keep M4 H4 M' H' ∧ Mid K M1 H1 L M' H' st' acc' ∧ EnvOk K M' H' (wipeE env vs) (L2.wipe σ vs) ∧ EnvOk K M' H' (wipeE env1 vs1) (L2.wipe σ' vs1) ∧
                      Post K (Rep K) M1 H1 Q (WE W σ) (((lcG t1 tt1 fe (wipeE env1 vs1) nxt k j st' acc').bind fun acc2 st3 => lc2JF t tt it1 t1 tt1 fe vs1 (wipeE env vs) (xs.drop (i + 1)) st3 acc2).bind fun xs st1 => .ok (.lst xs) st1),
                    ⟨k0, M4, st3, acc, .refl, md4, ew4, eo4.wipe vs1, q⟩, ?_⟩
                  rintro j k H5 ⟨M5, st5, acc5, k5, md5, ew5, ev5, q5⟩
                  obtain ⟨s1, s2⟩ := ri1 j M5 H5 st5 k5 md5.so
                  cases k with
                  | zero =>
                    unfold lcG at q5
                    cases e5 : nxt j st5 with
                    | none => rw [e5] at q5; exact q5.elim
                    | some o =>
                      cases o with
                      | some x => rw [e5] at q5; exact q5.elim
                      | none => rw [e5] at q5; exact .inl ⟨s1 e5, M5, st5, acc5, md5, ew5, q5⟩
                  | succ k =>
                    unfold lcG at q5
                    cases e5 : nxt j st5 with
                    | none => rw [e5] at q5; exact q5.elim
                    | some o =>
                      cases o with
                      | none => rw [e5] at q5; exact .inl ⟨s1 e5, M5, st5, acc5, md5, ew5, q5⟩
                      | some d =>
                        rw [e5] at q5
                        obtain ⟨s3, s4⟩ := s2 _ e5
                        refine .inr ⟨s3, fun H' => ∃ M' st' acc', Keep M4 H4 M' H' ∧ Mid K M1 H1 L M' H' st' acc' ∧ EnvOk K M' H' (wipeE env vs) (L2.wipe σ vs) ∧ EnvOk K M' H' (wipeE env1 vs1) (L2.wipe σ' vs1) ∧
                          Post K (Rep K) M1 H1 Q (WE W σ) (((lcG t1 tt1 fe (wipeE env1 vs1) nxt k (j + 1) st' acc').bind fun acc2 st3 => lc2JF t tt it1 t1 tt1 fe vs1 (wipeE env vs) (xs.drop (i + 1)) st3 acc2).bind fun xs st1 => .ok (.lst xs) st1), fun H' h => ⟨k, by omega, h⟩, fun y H6 hy6 => ?_⟩
                        obtain ⟨g6, so6, ry⟩ := s4 y H6 hy6
                        exact turnC_rd (P := fun r => Post K (Rep K) M1 H1 Q (WE W σ) ((r.bind fun acc2 st3 => lc2JF t tt it1 t1 tt1 fe vs1 (wipeE env vs) (xs.drop (i + 1)) st3 acc2).bind fun xs st1 => .ok (.lst xs) st1)) (md5.grow g6 so6) (ev5.grow g6) ry hv1 (fun z => z) q5
                          fun M7 H7 st7 acc7 k7 m7 p7 => ⟨M7, st7, acc7, (k5.trans g6.k).trans k7, m7, (ew5.grow g6).kp k7, (ev5.grow g6).kp k7, p7⟩
      · have e : i = xs.length := by omega
        refine .inl ⟨r1 e, ?_⟩
        rw [e, List.drop_length] at q
        obtain ⟨f1, f2, f3, ws, f4, f5⟩ := md.fin
        exact q _ _ _ f1 f2 (by unfold Rep; exact ⟨_, ws, rfl, ⟨f4, f3⟩, f5⟩)⟩
end
section
variable {X : Cx} {W : WX} {s : Expr}
theorem g_lc2J {it it1 : EvI} {t t1 : Tg} {tt tt1 : EvB} {fe : EvE} {vs vs1 : List Nat} (hv : ∀ i ∈ Tg.names t, i ∈ vs) (hv1 : ∀ i ∈ Tg.names t1, i ∈ vs1)
    (h : PE X s (tLc2 (rdI X.K W it) (Tg.raw X.K t) (rdB X.K W0 tt) (rdI X.K W0 it1) (Tg.raw X.K t1) (rdB X.K W0 tt1) (rdE X.K W0 fe) vs vs1)) : PE X s (rdE X.K W (lc2JE it t tt it1 t1 tt1 fe vs vs1)) := h.imp (rd_lc2J hv hv1)
end
end G
namespace G
open PySem PySem.Spec PyProof.Rows L2
def eqED : F2 := fun a b st => match a, b with
  | .emp, .emp => .ok (.bl true) st
  | _, _ => eqD a b st
def rEqEm (x y : V) (H : Hp) (Q : VK) : Prop := ∃ a b kvs, x = .ref a ∧ y = .ref b ∧ H a = some (.dK kvs) ∧ H b = some (.dK kvs) ∧ (kvs.map (·.1)).Nodup ∧ (∀ p ∈ kvs, flatB p.2 = true) ∧ Q (.bl true) H
theorem o_eqE {X : Cx} (hu : X.A.units + 64 < cLine) : OpR X (compareOp .Eq) (rOr rEqEm (rOr rEq (rEqD X.K))) := OpR.or (op_eq_dict (by omega)) (o_eq hu)
theorem v_eqE {K : PySem.W.Frag} : OpV K (rOr rEqEm (rOr rEq (rEqD K))) eqED := by
  intro a b x y M H st Q E ra rb so p
  unfold eqED at p
  split at p
  · unfold Rep at ra rb
    obtain ⟨a, rfl, h1, _⟩ := ra
    obtain ⟨b, rfl, h2, _⟩ := rb
    exact .inl ⟨a, b, [], rfl, rfl, h1, h2, .nil, by simp, p M H _ .refl so (rep_bl _ _ _)⟩
  · exact .inr (v_eq _ _ x y M H st Q E ra rb so p)
@[simp] theorem eqED_emp (st : Sto) : eqED .emp .emp st = .ok (.bl true) st := rfl
end G
namespace Lap
open PySem PySem.Spec PyProof.Rows L2 G
abbrev whileMost : Nat := 100000
def B_round_by : SvS := retS (callE sumF (consA (callE listF (consA (varE 0) (nilA))) (nilA)))
def F_round_by : FA := runF 1 1 B_round_by
def B_sectors_from : SvS := retS (lstE (starA (sliceE (varE 0) (someO (varE 1)) (noO)) (starA (sliceE (varE 0) (noO) (someO (varE 1))) (nilA))))
def F_sectors_from : FA := runF 2 2 B_sectors_from
def B_reach_by : SvS := seqS (asgS (callE divmodF (consA (varE 2) (consA (callE lenF (consA (varE 0) (nilA))) (nilA)))) (tupT 2 (consT (nameT 3) (consT (nameT 4) (nilT))))) (retS (binE addD (binE mulD (varE 3) (callE F_round_by (consA (varE 0) (nilA)))) (callE sumF (consA (sliceE (callE F_sectors_from (consA (varE 0) (consA (varE 1) (nilA)))) (noO) (someO (varE 4))) (nilA)))))
def F_reach_by : FA := runF 3 5 B_reach_by
def B_is_whole : SvS := retS (andE (unE (isiD .int) (varE 0)) (notE (unE (isiD .bl) (varE 0))))
def F_is_whole : FA := runF 1 1 B_is_whole
def B_is_between : SvS := retS (andE (callE F_is_whole (consA (varE 0) (nilA))) (chainE leD leD (varE 1) (varE 0) (varE 2)))
def F_is_between : FA := runF 3 3 B_is_between
def B_is_up_to : SvS := retS (callE F_is_between (consA (varE 0) (consA (cE (.int 0)) (consA (varE 1) (nilA)))))
def F_is_up_to : FA := runF 2 2 B_is_up_to
def B_is_from : SvS := retS (andE (callE F_is_whole (consA (varE 0) (nilA))) (binE geD (varE 0) (varE 1)))
def F_is_from : FA := runF 2 2 B_is_from
def B_is_tuple_up_to : SvS := retS (andE (unE (isiD .tup) (varE 0)) (chainE leD leD (varE 1) (callE lenF (consA (varE 0) (nilA))) (varE 2)))
def F_is_tuple_up_to : FA := runF 3 3 B_is_tuple_up_to
def B_is_track_of : SvS := retS (andE (callE F_is_tuple_up_to (consA (varE 0) (consA (cE (.int 1)) (consA (cE (.int 8)) (nilA))))) (callE allF (consA (lcE (iterE (varE 0)) (.nm 1) (yesB) (callE F_is_from (consA (varE 1) (consA (cE (.int 1)) (nilA)))) [1]) (nilA))))
def F_is_track_of : FA := runF 1 2 B_is_track_of
def B_is_mat_of : SvS := retS (callE F_is_up_to (consA (varE 1) (consA (binE subD (callE lenF (consA (varE 0) (nilA))) (cE (.int 1))) (nilA))))
def F_is_mat_of : FA := runF 2 2 B_is_mat_of
def B_check_track : SvS := ifS (notB (tstE (callE F_is_track_of (consA (varE 0) (nilA))))) (raiseS "InvalidTrack" "given" (varE 0)) (passS)
def F_check_track : FA := runF 1 1 B_check_track
def B_check_mat : SvS := ifS (notB (tstE (callE F_is_mat_of (consA (varE 0) (consA (varE 1) (nilA)))))) (raiseS "InvalidMat" "given" (varE 1)) (passS)
def F_check_mat : FA := runF 2 2 B_check_mat
def B_steps_by : SvS := retS (binE addD (binE modD (binE subD (binE subD (varE 2) (varE 1)) (cE (.int 1))) (callE lenF (consA (varE 0) (nilA)))) (cE (.int 1)))
def F_steps_by : FA := runF 3 3 B_steps_by
def B_way_by : SvS := retS (callE F_reach_by (consA (varE 0) (consA (varE 1) (consA (callE F_steps_by (consA (varE 0) (consA (varE 1) (consA (varE 2) (nilA))))) (nilA)))))
def F_way_by : FA := runF 3 3 B_way_by
def B_check_mats : SvS := seqS (exprS (callE F_check_track (consA (varE 0) (nilA)))) (seqS (exprS (callE F_check_mat (consA (varE 0) (consA (varE 1) (nilA))))) (exprS (callE F_check_mat (consA (varE 0) (consA (varE 2) (nilA))))))
def F_check_mats : FA := runF 3 3 B_check_mats
def B_way : SvS := seqS (exprS (callE F_check_mats (consA (varE 0) (consA (varE 1) (consA (varE 2) (nilA)))))) (retS (callE F_way_by (consA (varE 0) (consA (varE 1) (consA (varE 2) (nilA))))))
def F_way : FA := runF 3 3 B_way
def B_can_follow_by : SvS := retS (binE geD (binE subD (binE ixD (varE 1) (cE (.int 0))) (binE ixD (varE 2) (cE (.int 0)))) (callE F_way_by (consA (varE 0) (consA (binE ixD (varE 2) (cE (.int 1))) (consA (binE ixD (varE 1) (cE (.int 1))) (nilA))))))
def F_can_follow_by : FA := runF 3 3 B_can_follow_by
def B_wrong_marks_by : SvS := retS (lcE (callI range2F (consA (cE (.int 1)) (consA (callE lenF (consA (varE 1) (nilA))) (nilA)))) (.nm 2) (notB (tstE (callE F_can_follow_by (consA (varE 0) (consA (binE ixD (varE 1) (varE 2)) (consA (binE ixD (varE 1) (binE subD (varE 2) (cE (.int 1)))) (nilA))))))) (varE 2) [2])
def F_wrong_marks_by : FA := runF 2 3 B_wrong_marks_by
def B_is_row_by : SvS := retS (binE eqD (callE F_wrong_marks_by (consA (varE 0) (consA (varE 1) (nilA)))) (lstE (nilA)))
def F_is_row_by : FA := runF 2 2 B_is_row_by
def B_is_tuple_of : SvS := retS (callE F_is_tuple_up_to (consA (varE 0) (consA (varE 1) (consA (varE 1) (nilA)))))
def F_is_tuple_of : FA := runF 2 2 B_is_tuple_of
def B_is_pair : SvS := retS (callE F_is_tuple_of (consA (varE 0) (consA (cE (.int 2)) (nilA))))
def F_is_pair : FA := runF 1 1 B_is_pair
def B_is_mark_of : SvS := retS (andE (callE F_is_pair (consA (varE 1) (nilA))) (andE (callE F_is_from (consA (binE ixD (varE 1) (cE (.int 0))) (consA (cE (.int 0)) (nilA)))) (callE F_is_mat_of (consA (varE 0) (consA (binE ixD (varE 1) (cE (.int 1))) (nilA))))))
def F_is_mark_of : FA := runF 2 2 B_is_mark_of
def B_wrong_in_bag : SvS := seqS (ifS (notB (tstE (callE F_is_tuple_up_to (consA (varE 1) (consA (cE (.int 0)) (consA (cE (.int 30)) (nilA))))))) (retS (lstE (consA (cE .non) (nilA)))) (passS)) (seqS (forS (callI enumF (consA (varE 1) (nilA))) (tgT (.tp [.nm 2, .nm 3])) (ifS (orB (notB (tstE (callE F_is_mark_of (consA (varE 0) (consA (varE 3) (nilA)))))) (andB (tstE (binE gtD (varE 2) (cE (.int 0)))) (tstE (binE leD (varE 3) (binE ixD (varE 1) (binE subD (varE 2) (cE (.int 1)))))))) (retS (lstE (consA (varE 2) (nilA)))) (passS))) (retS (lstE (nilA))))
def F_wrong_in_bag : FA := runF 2 4 B_wrong_in_bag
def B_is_bag_of : SvS := retS (binE eqD (callE F_wrong_in_bag (consA (varE 0) (consA (varE 1) (nilA)))) (lstE (nilA)))
def F_is_bag_of : FA := runF 2 2 B_is_bag_of
def B_is_full_row : SvS := retS (andE (callE F_is_bag_of (consA (varE 0) (consA (varE 2) (nilA)))) (callE F_is_row_by (consA (varE 0) (consA (tupE (consA (tupE (consA (varE 1) (consA (cE (.int 0)) (nilA)))) (starA (varE 2) (nilA)))) (nilA)))))
def F_is_full_row : FA := runF 3 3 B_is_full_row
def B_is_race_of : SvS := seqS (ifS (orB (notB (tstE (callE F_is_pair (consA (varE 1) (nilA))))) (orB (notB (tstE (callE F_is_from (consA (binE ixD (varE 1) (cE (.int 0))) (consA (cE (.int 0)) (nilA)))))) (notB (tstE (callE F_is_tuple_up_to (consA (binE ixD (varE 1) (cE (.int 1))) (consA (cE (.int 1)) (consA (cE (.int 6)) (nilA))))))))) (retS (cE (.bl false))) (passS)) (retS (callE allF (consA (lcE (iterE (binE ixD (varE 1) (cE (.int 1)))) (.nm 2) (yesB) (callE F_is_full_row (consA (varE 0) (consA (binE ixD (varE 1) (cE (.int 0))) (consA (varE 2) (nilA))))) [2]) (nilA))))
def F_is_race_of : FA := runF 2 3 B_is_race_of
def B_check_race : SvS := ifS (notB (tstE (callE F_is_race_of (consA (varE 0) (consA (varE 1) (nilA)))))) (raiseS "InvalidRace" "given" (varE 1)) (passS)
def F_check_race : FA := runF 2 2 B_check_race
def B_full_row_by : SvS := retS (tupE (consA (tupE (consA (binE ixD (varE 0) (cE (.int 0))) (consA (cE (.int 0)) (nilA)))) (starA (binE ixD (binE ixD (varE 0) (cE (.int 1))) (varE 1)) (nilA))))
def F_full_row_by : FA := runF 2 2 B_full_row_by
def B__law_reach_v2 : SvS := seqS (asgS (callE lenF (consA (varE 0) (nilA))) (nameT 3)) (seqS (asgS (binE modD (callE intF (consA (varE 2) (nilA))) (varE 3)) (nameT 4)) (retS (binE addD (binE mulD (binE fdivD (varE 2) (varE 3)) (callE sumF (consA (varE 0) (nilA)))) (callE sumF (consA (lcE (callI range1F (consA (varE 4) (nilA))) (.nm 5) (yesB) (binE ixD (varE 0) (binE modD (callE intF (consA (binE addD (varE 1) (varE 5)) (nilA))) (varE 3))) [5]) (nilA))))))
def F__law_reach_v2 : FA := runF 3 6 B__law_reach_v2
def B_check_bag : SvS := forS (iterE (callE F_wrong_in_bag (consA (varE 0) (consA (varE 1) (nilA))))) (tgT (.nm 2)) (raiseS "InvalidBag" "index" (varE 2))
def F_check_bag : FA := runF 2 3 B_check_bag
def B_check_tracked : SvS := seqS (exprS (callE F_check_track (consA (varE 0) (nilA)))) (exprS (callE F_check_bag (consA (varE 0) (consA (varE 1) (nilA)))))
def F_check_tracked : FA := runF 2 2 B_check_tracked
def B_is_row : SvS := seqS (exprS (callE F_check_tracked (consA (varE 0) (consA (varE 1) (nilA))))) (retS (callE F_is_row_by (consA (varE 0) (consA (varE 1) (nilA)))))
def F_is_row : FA := runF 2 2 B_is_row
def B_is_track : SvS := retS (callE F_is_track_of (consA (varE 0) (nilA)))
def F_is_track : FA := runF 1 1 B_is_track
def B_check_marks : SvS := seqS (exprS (callE F_check_track (consA (varE 0) (nilA)))) (exprS (callE F_check_bag (consA (varE 0) (consA (varE 1) (nilA)))))
def F_check_marks : FA := runF 2 2 B_check_marks
def B_wrong_mark : SvS := seqS (exprS (callE F_check_tracked (consA (varE 0) (consA (varE 1) (nilA))))) (seqS (asgS (callE F_wrong_marks_by (consA (varE 0) (consA (varE 1) (nilA)))) (nameT 2)) (retS (ifE (tstE (binE neD (varE 2) (lstE (nilA)))) (binE ixD (varE 2) (cE (.int 0))) (cE .non))))
def F_wrong_mark : FA := runF 2 3 B_wrong_mark
def B_mats_between : SvS := retS (lcE (callI range2F (consA (cE (.int 1)) (consA (callE F_steps_by (consA (varE 0) (consA (varE 1) (consA (varE 2) (nilA))))) (nilA)))) (.nm 3) (yesB) (binE modD (binE addD (varE 1) (varE 3)) (callE lenF (consA (varE 0) (nilA)))) [3])
def F_mats_between : FA := runF 3 4 B_mats_between
def B_missed_by : SvS := seqS (asgS (binE repMD (lstE (consA (callE sumF (consA (callE listF (consA (varE 2) (nilA))) (nilA))) (nilA))) (callE lenF (consA (varE 0) (nilA)))) (nameT 3)) (seqS (forS (callI zipF (consA (varE 1) (consA (sliceE (varE 1) (someO (cE (.int 1))) (noO)) (nilA)))) (tgT (.tp [.nm 4, .nm 5])) (forS (iterE (callE F_mats_between (consA (varE 0) (consA (binE ixD (varE 4) (cE (.int 1))) (consA (binE ixD (varE 5) (cE (.int 1))) (nilA)))))) (tgT (.nm 6)) (asgS (binE addD (binE ixD (varE 3) (varE 6)) (cE (.int 1))) (subT (varE 3) (varE 6))))) (retS (varE 3)))
def F_missed_by : FA := runF 3 7 B_missed_by
def B_followers_of : SvS := seqS (asgS (listRgE (callE lenF (consA (varE 1) (nilA)))) (nameT 2)) (retS (lcE (iterE (varE 2)) (.nm 3) (yesB) (lcE (iterE (varE 2)) (.nm 4) (andB (tstE (binE gtD (varE 4) (varE 3))) (tstE (callE F_can_follow_by (consA (varE 0) (consA (binE ixD (varE 1) (varE 4)) (consA (binE ixD (varE 1) (varE 3)) (nilA))))))) (varE 4) [4]) [3]))
def F_followers_of : FA := runF 2 5 B_followers_of
def B_heights_of : SvS := seqS (asgS (binE repMD (lstE (consA (cE (.int 1)) (nilA))) (callE lenF (consA (varE 0) (nilA)))) (nameT 1)) (seqS (forS (callI enumF (consA (varE 0) (nilA))) (tgT (.tp [.nm 2, .nm 3])) (forS (iterE (varE 3)) (tgT (.nm 4)) (asgS (callE maxF (consA (binE ixD (varE 1) (varE 4)) (consA (binE addD (binE ixD (varE 1) (varE 2)) (cE (.int 1))) (nilA)))) (subT (varE 1) (varE 4))))) (retS (varE 1)))
def F_heights_of : FA := runF 1 5 B_heights_of
def B_longest_indexes : SvS := seqS (asgS (callE F_heights_of (consA (varE 0) (nilA))) (nameT 1)) (seqS (ifS (tstE (binE eqMD (varE 1) (lstE (nilA)))) (retS (lstE (nilA))) (passS)) (seqS (asgS (mutE (consA (methLE indexF (varE 1) (consA (callE maxF (consA (varE 1) (nilA))) (nilA))) (nilA))) (nameT 2)) (seqS (whileF (tstE (binE gtD (binE ixD (varE 1) (binE ixD (varE 2) (unE negD (cE (.int 1))))) (cE (.int 1)))) (seqS (asgS (binE subD (binE ixD (varE 1) (binE ixD (varE 2) (unE negD (cE (.int 1))))) (cE (.int 1))) (nameT 3)) (exprS (methLE appF (varE 2) (consA (binE ixD (lcE (callI enumF (consA (varE 1) (nilA))) (.tp [.nm 4, .nm 5]) (andB (tstE (binE eqD (varE 5) (varE 3))) (tstE (binE inD (binE ixD (varE 2) (unE negD (cE (.int 1)))) (binE ixD (varE 0) (varE 4))))) (varE 4) [4, 5]) (cE (.int 0))) (nilA))))) whileMost) (retS (revE (varE 2))))))
def F_longest_indexes : FA := runF 1 6 B_longest_indexes
def B_longest_row_by : SvS := retS (callE tupleF (consA (lcE (iterE (callE F_longest_indexes (consA (callE F_followers_of (consA (varE 0) (consA (varE 1) (nilA)))) (nilA)))) (.nm 2) (yesB) (binE ixD (varE 1) (varE 2)) [2]) (nilA)))
def F_longest_row_by : FA := runF 2 3 B_longest_row_by
def B_false_marks_by : SvS := seqS (asgS (callE F_longest_indexes (consA (callE F_followers_of (consA (varE 0) (consA (varE 1) (nilA)))) (nilA))) (nameT 2)) (retS (callE tupleF (consA (lcE (callI range1F (consA (callE lenF (consA (varE 1) (nilA))) (nilA))) (.nm 3) (tstE (binE notInD (varE 3) (varE 2))) (varE 3) [3]) (nilA))))
def F_false_marks_by : FA := runF 2 4 B_false_marks_by
def B_longest_row : SvS := seqS (exprS (callE F_check_marks (consA (varE 0) (consA (varE 1) (nilA))))) (retS (callE F_longest_row_by (consA (varE 0) (consA (varE 1) (nilA)))))
def F_longest_row : FA := runF 2 2 B_longest_row
def B_false_marks : SvS := seqS (exprS (callE F_check_marks (consA (varE 0) (consA (varE 1) (nilA))))) (retS (callE F_false_marks_by (consA (varE 0) (consA (varE 1) (nilA)))))
def F_false_marks : FA := runF 2 2 B_false_marks
def B__law_take : SvS := seqS (ifS (tstE (binE gtD (binE ixD (varE 0) (cE (.int 0))) (cE (.int 0)))) (seqS (asgS (callE divmodF (consA (binE ixD (varE 0) (cE (.int 0))) (consA (varE 1) (nilA)))) (tupT 2 (consT (subT (varE 0) (cE (.int 0))) (consT (nameT 2) (nilT))))) (retS (varE 2))) (passS)) (seqS (asgS (binE addD (binE ixD (varE 0) (cE (.int 2))) (cE (.int 1))) (subT (varE 0) (cE (.int 2)))) (seqS (asgS (binE modD (callE intF (consA (binE addD (binE addD (binE mulD (binE ixD (varE 0) (cE (.int 1))) (cE (.int 39373))) (binE mulD (binE ixD (varE 0) (cE (.int 2))) (cE (.int 30323)))) (cE (.int 11))) (nilA))) (cE (.int 2147483543))) (subT (varE 0) (cE (.int 1)))) (retS (binE modD (callE intF (consA (binE fdivD (binE ixD (varE 0) (cE (.int 1))) (cE (.int 128))) (nilA))) (varE 1)))))
def F__law_take : FA := runF 2 3 B__law_take
def B__law_of : SvS := retS (binE ixD (varE 1) (callE F__law_take (consA (varE 0) (consA (callE lenF (consA (varE 1) (nilA))) (nilA)))))
def F__law_of : FA := runF 2 2 B__law_of
def B__law_same_v2 (rec : FA) : SvS := seqS (ifS (orB (andB (tstE (unE (isiD .tup) (varE 1))) (notB (tstE (unE (isiD .tup) (varE 0))))) (andB (tstE (unE (isiD .lst) (varE 1))) (notB (tstE (unE (isiD .lst) (varE 0)))))) (retS (cE (.bl false))) (passS)) (seqS (ifS (tstE (unE (isi2D .tup .lst) (varE 1))) (retS (andE (binE eqD (callE lenF (consA (varE 0) (nilA))) (callE lenF (consA (varE 1) (nilA)))) (callE allF (consA (lcE (callI range1F (consA (callE lenF (consA (varE 1) (nilA))) (nilA))) (.nm 2) (yesB) (callE rec (consA (binE ixD (varE 0) (varE 2)) (consA (binE ixD (varE 1) (varE 2)) (nilA)))) [2]) (nilA))))) (passS)) (seqS (ifS (orB (tstE (binE isND (varE 1) (cE .non))) (tstE (binE isND (varE 0) (cE .non)))) (retS (andE (binE isND (varE 1) (cE .non)) (binE isND (varE 0) (cE .non)))) (passS)) (seqS (ifS (orB (tstE (unE (isiD .bl) (varE 1))) (tstE (unE (isiD .bl) (varE 0)))) (retS (andE (unE (isiD .bl) (varE 1)) (andE (unE (isiD .bl) (varE 0)) (binE eqD (varE 1) (varE 0))))) (passS)) (seqS (ifS (tstE (unE (isiD .int) (varE 1))) (retS (andE (unE (isiD .int) (varE 0)) (binE eqD (varE 0) (varE 1)))) (passS)) (seqS (ifS (tstE (unE (isiD .str) (varE 1))) (retS (andE (unE (isiD .str) (varE 0)) (binE eqD (varE 0) (varE 1)))) (passS)) (retS (andE (unE (isiD .dic) (varE 1)) (andE (unE (isiD .dic) (varE 0)) (andE (binE eqD (callE lenF (consA (varE 0) (nilA))) (callE lenF (consA (varE 1) (nilA)))) (binE eqD (varE 0) (varE 1)))))))))))
def R__law_same_v2 : Nat → FA
  | 0 => fun _ _ => .fail
  | k + 1 => runF 2 3 (B__law_same_v2 (R__law_same_v2 k))
def F__law_same_v2 : FA := R__law_same_v2 20
def B__law_track : SvS := seqS (asgS (callE F__law_of (consA (varE 0) (consA (tupE (consA (cE (.int 3)) (consA (cE (.int 9)) (consA (cE (.int 40)) (nilA))))) (nilA)))) (nameT 1)) (retS (callE tupleF (consA (lcE (callI range1F (consA (binE addD (cE (.int 1)) (callE F__law_take (consA (varE 0) (consA (callE F__law_of (consA (varE 0) (consA (tupE (consA (cE (.int 3)) (consA (cE (.int 4)) (consA (cE (.int 8)) (nilA))))) (nilA)))) (nilA))))) (nilA))) (.nm 2) (yesB) (binE addD (cE (.int 1)) (callE F__law_take (consA (varE 0) (consA (varE 1) (nilA))))) [2]) (nilA))))
def F__law_track : FA := runF 1 3 B__law_track
def B__law_reach_v3 : SvS := seqS (asgS (callE lenF (consA (varE 0) (nilA))) (nameT 3)) (seqS (asgS (binE mulD (binE fdivD (varE 2) (varE 3)) (callE sumF (consA (varE 0) (nilA)))) (nameT 4)) (seqS (forS (callI range1F (consA (binE modD (callE intF (consA (varE 2) (nilA))) (varE 3)) (nilA))) (tgT (.nm 5)) (asgS (binE addD (varE 4) (binE ixD (varE 0) (binE modD (callE intF (consA (binE addD (varE 1) (varE 5)) (nilA))) (varE 3)))) (nameT 4))) (retS (varE 4))))
def F__law_reach_v3 : FA := runF 3 6 B__law_reach_v3
def B__law_steps_v4 : SvS := seqS (asgS (callE lenF (consA (varE 0) (nilA))) (nameT 3)) (seqS (asgS (binE modD (callE intF (consA (binE subD (varE 2) (varE 1)) (nilA))) (varE 3)) (nameT 4)) (retS (ifE (tstE (binE gtD (varE 4) (cE (.int 0)))) (varE 4) (varE 3))))
def F__law_steps_v4 : FA := runF 3 5 B__law_steps_v4
def B__law_way_v3 : SvS := retS (callE F__law_reach_v3 (consA (varE 0) (consA (varE 1) (consA (callE F__law_steps_v4 (consA (varE 0) (consA (varE 1) (consA (varE 2) (nilA))))) (nilA)))))
def F__law_way_v3 : FA := runF 3 3 B__law_way_v3
def B__law_follows : SvS := retS (binE geD (binE subD (binE ixD (varE 1) (cE (.int 0))) (binE ixD (varE 2) (cE (.int 0)))) (callE F__law_way_v3 (consA (varE 0) (consA (binE ixD (varE 2) (cE (.int 1))) (consA (binE ixD (varE 1) (cE (.int 1))) (nilA))))))
def F__law_follows : FA := runF 3 3 B__law_follows
def B__law_is_row_v2 : SvS := retS (callE allF (consA (lcE (callI range2F (consA (cE (.int 1)) (consA (callE lenF (consA (varE 1) (nilA))) (nilA)))) (.nm 2) (yesB) (callE F__law_follows (consA (varE 0) (consA (binE ixD (varE 1) (varE 2)) (consA (binE ixD (varE 1) (binE subD (varE 2) (cE (.int 1)))) (nilA))))) [2]) (nilA)))
def F__law_is_row_v2 : FA := runF 2 3 B__law_is_row_v2
def B__law_is_whole_v2 : SvS := retS (andE (unE (isiD .int) (varE 0)) (notE (unE (isiD .bl) (varE 0))))
def F__law_is_whole_v2 : FA := runF 1 1 B__law_is_whole_v2
def B__law_course : SvS := seqS (asgS (tupE (consA (mutE (nilA)) (consA (varE 2) (consA (cE (.int 0)) (consA (callE F__law_of (consA (varE 0) (consA (tupE (consA (cE (.int 1)) (consA (cE (.int 4)) (consA (cE (.int 30)) (nilA))))) (nilA)))) (consA (callE F__law_of (consA (varE 0) (consA (tupE (consA (cE (.int 2)) (consA (cE (.int 4)) (consA (cE (.int 8)) (nilA))))) (nilA)))) (nilA))))))) (tupT 5 (consT (nameT 4) (consT (nameT 5) (consT (nameT 6) (consT (nameT 7) (consT (nameT 8) (nilT)))))))) (seqS (forS (callI range1F (consA (cE (.int 60)) (nilA))) (tgT (.nm 9)) (seqS (parS 5 6 (consA (binE addD (binE addD (varE 5) (binE ixD (varE 1) (varE 6))) (callE F__law_take (consA (varE 0) (consA (varE 7) (nilA))))) (consA (binE modD (callE intF (consA (binE addD (varE 6) (cE (.int 1))) (nilA))) (callE lenF (consA (varE 1) (nilA)))) (nilA)))) (ifS (andB (tstE (binE gtD (callE F__law_take (consA (varE 0) (consA (varE 8) (nilA)))) (cE (.int 0)))) (tstE (binE ltD (callE lenF (consA (varE 4) (nilA))) (varE 3)))) (exprS (methLE appF (varE 4) (consA (tupE (consA (varE 5) (consA (varE 6) (nilA)))) (nilA)))) (passS)))) (retS (callE tupleF (consA (sliceE (varE 4) (noO) (someO (callE F__law_take (consA (varE 0) (consA (binE addD (varE 3) (cE (.int 1))) (nilA)))))) (nilA)))))
def F__law_course : FA := runF 4 10 B__law_course
def B__law_any_bag : SvS := seqS (parS 3 4 (consA (newEE) (consA (callE F__law_of (consA (varE 0) (consA (tupE (consA (cE (.int 0)) (consA (cE (.int 5)) (consA (binE addD (binE powD (cE (.int 10)) (cE (.int 28))) (cE (.int 9))) (nilA))))) (nilA)))) (nilA)))) (seqS (forS (callI range1F (consA (binE addD (cE (.int 1)) (callE F__law_take (consA (varE 0) (consA (cE (.int 4)) (nilA))))) (nilA))) (tgT (.nm 5)) (forS (iterE (callE F__law_course (consA (varE 0) (consA (varE 1) (consA (binE addD (varE 4) (callE F__law_take (consA (varE 0) (consA (cE (.int 30)) (nilA))))) (consA (cE (.int 4)) (nilA))))))) (tgT (.tp [.nm 6, .nm 7])) (putDS (cE (.bl true)) (varE 3) (tupE (consA (varE 6) (consA (varE 7) (nilA))))))) (seqS (forS (callI range1F (consA (callE F__law_take (consA (varE 0) (consA (cE (.int 4)) (nilA)))) (nilA))) (tgT (.nm 8)) (putDS (cE (.bl true)) (varE 3) (tupE (consA (binE addD (varE 4) (callE F__law_take (consA (varE 0) (consA (cE (.int 60)) (nilA))))) (consA (callE F__law_take (consA (varE 0) (consA (callE lenF (consA (varE 1) (nilA))) (nilA)))) (nilA)))))) (seqS (parS 9 10 (consA (callE srtMF (consA (callE listDF (consA (varE 3) (nilA))) (nilA))) (consA (mutE (nilA)) (nilA)))) (seqS (forS (callI range1F (consA (callE F__law_take (consA (varE 0) (consA (binE addD (varE 2) (cE (.int 1))) (nilA)))) (nilA))) (tgT (.nm 8)) (ifS (tstE (binE neMD (varE 9) (lstE (nilA)))) (exprS (methLE appF (varE 10) (consA (methLE popAtF (varE 9) (consA (callE F__law_take (consA (varE 0) (consA (callE lenF (consA (varE 9) (nilA))) (nilA)))) (nilA))) (nilA)))) (passS))) (retS (callE tupleF (consA (callE srtF (consA (varE 10) (nilA))) (nilA))))))))
def F__law_any_bag : FA := runF 3 11 B__law_any_bag
def B__law_lots_of : SvS := seqS (asgS (lstE (consA (tupE (nilA)) (nilA))) (nameT 1)) (seqS (forS (callI range1F (consA (varE 0) (nilA))) (tgT (.nm 2)) (asgS (binE addD (varE 1) (lcE (iterE (varE 1)) (.nm 3) (yesB) (binE addD (varE 3) (tupE (consA (varE 2) (nilA)))) [3])) (nameT 1))) (retS (varE 1)))
def F__law_lots_of : FA := runF 1 4 B__law_lots_of
def B__law_without : SvS := retS (callE tupleF (consA (lcE (callI range1F (consA (callE lenF (consA (varE 0) (nilA))) (nilA))) (.nm 2) (tstE (binE notInD (varE 2) (varE 1))) (binE ixD (varE 0) (varE 2)) [2]) (nilA)))
def F__law_without : FA := runF 2 3 B__law_without
def B__law_is_told : SvS := seqS (asgS (callE minF (consA (lcE (iterE (callE F__law_lots_of (consA (callE lenF (consA (varE 2) (nilA))) (nilA)))) (.nm 5) (tstE (callE F__law_is_row_v2 (consA (varE 1) (consA (callE F__law_without (consA (varE 2) (consA (varE 5) (nilA)))) (nilA))))) (callE lenF (consA (varE 5) (nilA))) [5]) (nilA))) (nameT 3)) (seqS (asgS (ifE (tstE (binE eqD (callE F__law_take (consA (varE 0) (consA (cE (.int 2)) (nilA)))) (cE (.int 0)))) (callE F_false_marks (consA (varE 1) (consA (varE 2) (nilA)))) (callKE F_false_marks nilA (consA (varE 2) (consA (varE 1) (nilA))) 0 2 [1, 0])) (nameT 4)) (seqS (ifS (orB (notB (tstE (unE (isiD .tup) (varE 4)))) (orB (notB (tstE (callE allF (consA (lcE (iterE (varE 4)) (.nm 6) (yesB) (andE (callE F__law_is_whole_v2 (consA (varE 6) (nilA))) (chainE leD ltD (cE (.int 0)) (varE 6) (callE lenF (consA (varE 2) (nilA))))) [6]) (nilA))))) (tstE (callE anyF (consA (lcE (callI range2F (consA (cE (.int 1)) (consA (callE lenF (consA (varE 4) (nilA))) (nilA)))) (.nm 7) (yesB) (binE leD (binE ixD (varE 4) (varE 7)) (binE ixD (varE 4) (binE subD (varE 7) (cE (.int 1))))) [7]) (nilA)))))) (retS (cE (.bl false))) (passS)) (seqS (ifS (orB (tstE (binE neD (callE lenF (consA (varE 4) (nilA))) (varE 3))) (orB (notB (tstE (callE F__law_is_row_v2 (consA (varE 1) (consA (callE F__law_without (consA (varE 2) (consA (varE 4) (nilA)))) (nilA)))))) (tstE (binE neD (binE addD (callE lenF (consA (callE F_longest_row (consA (varE 1) (consA (varE 2) (nilA)))) (nilA))) (varE 3)) (callE lenF (consA (varE 2) (nilA))))))) (retS (cE (.bl false))) (passS)) (retS (callE F__law_same_v2 (consA (lstE (consA (callE F_is_row (consA (varE 1) (consA (varE 2) (nilA)))) (consA (binE isND (callE F_wrong_mark (consA (varE 1) (consA (varE 2) (nilA)))) (cE .non)) (nilA)))) (consA (lstE (consA (binE eqD (varE 3) (cE (.int 0))) (consA (binE eqD (varE 3) (cE (.int 0))) (nilA)))) (nilA))))))))
def F__law_is_told : FA := runF 3 8 B__law_is_told
def B__law_right : SvS := seqS (forS (callI range1F (consA (cE (.int 10)) (nilA))) (tgT (.nm 1)) (seqS (asgS (callE F__law_track (consA (varE 0) (nilA))) (nameT 2)) (seqS (parS 3 4 (consA (callE F__law_any_bag (consA (varE 0) (consA (varE 2) (consA (cE (.int 9)) (nilA))))) (consA (cE (.int 0)) (nilA)))) (seqS (ifS (tstE (binE ltD (varE 1) (cE (.int 5)))) (seqS (asgS (callE F__law_course (consA (varE 0) (consA (varE 2) (consA (callE F__law_take (consA (varE 0) (consA (cE (.int 9)) (nilA)))) (consA (cE (.int 6)) (nilA)))))) (nameT 5)) (seqS (asgS (newEE) (nameT 6)) (seqS (forS (iterE (binE addD (varE 5) (callE tupleF (consA (lcE (callI range1F (consA (binE addD (cE (.int 1)) (callE F__law_take (consA (varE 0) (consA (cE (.int 3)) (nilA))))) (nilA))) (.nm 8) (yesB) (tupE (consA (callE F__law_take (consA (varE 0) (consA (cE (.int 200)) (nilA)))) (consA (callE F__law_take (consA (varE 0) (consA (callE lenF (consA (varE 2) (nilA))) (nilA)))) (nilA)))) [8]) (nilA))))) (tgT (.nm 7)) (putDS (cE (.bl true)) (varE 6) (varE 7))) (parS 3 4 (consA (callE tupleF (consA (callE srtF (consA (callE listDF (consA (varE 6) (nilA))) (nilA))) (nilA))) (consA (binE subD (callE lenDF (consA (varE 6) (nilA))) (callE lenF (consA (varE 5) (nilA)))) (nilA))))))) (passS)) (ifS (orB (notB (tstE (callE F__law_is_told (consA (varE 0) (consA (varE 2) (consA (varE 3) (nilA))))))) (andB (tstE (binE ltD (varE 1) (cE (.int 5)))) (tstE (binE gtD (callE lenF (consA (callE F_false_marks (consA (varE 2) (consA (varE 3) (nilA)))) (nilA))) (varE 4))))) (retS (cE (.bl false))) (passS)))))) (retS (cE (.bl true)))
def F__law_right : FA := runF 1 9 B__law_right
def B__law_well : SvS := seqS (asgS (ifE (tstE (binE ltD (varE 1) (callE lenF (consA (varE 0) (nilA))))) (callE intF (consA (binE ixD (varE 0) (varE 1)) (nilA))) (cE (.int 0))) (nameT 2)) (seqS (asgS (binE addD (cE (.int 52027)) (binE mulD (cE (.int 6971)) (varE 1))) (nameT 3)) (seqS (forS (iterE (binE addD (sliceE (varE 0) (noO) (someO (cE (.int 8)))) (lstE (consA (varE 2) (nilA))))) (tgT (.nm 4)) (asgS (binE modD (callE intF (consA (binE addD (binE addD (binE mulD (varE 3) (cE (.int 44497))) (binE modD (callE intF (consA (varE 4) (nilA))) (cE (.int 2147483587)))) (cE (.int 29))) (nilA))) (cE (.int 2147483563))) (nameT 3))) (retS (mutE (consA (ifE (orB (tstE (binE ltD (varE 2) (cE (.int 0)))) (tstE (binE geD (varE 2) (binE powD (cE (.int 10)) (cE (.int 18)))))) (callE absF (consA (varE 2) (nilA))) (cE (.int 0))) (consA (varE 3) (consA (cE (.int 0)) (nilA))))))))
def F__law_well : FA := runF 2 5 B__law_well
def B_full_rows_of : SvS := retS (lcE (callI range1F (consA (callE lenF (consA (binE ixD (varE 0) (cE (.int 1))) (nilA))) (nilA))) (.nm 1) (yesB) (callE F_full_row_by (consA (varE 0) (consA (varE 1) (nilA)))) [1])
def F_full_rows_of : FA := runF 1 2 B_full_rows_of
def B_windows_in : SvS := seqS (asgS (mutE (nilA)) (nameT 4)) (seqS (forS (callI enzF (consA (varE 3) (consA (sliceE (varE 3) (someO (cE (.int 1))) (noO)) (nilA)))) (tgT (.tp [.nm 5, .tp [.nm 6, .nm 7]])) (ifS (tstE (binE inD (varE 1) (callE F_mats_between (consA (varE 0) (consA (binE ixD (varE 6) (cE (.int 1))) (consA (binE ixD (varE 7) (cE (.int 1))) (nilA))))))) (exprS (methLE appF (varE 4) (consA (tupE (consA (varE 2) (consA (varE 5) (consA (binE addD (binE ixD (varE 6) (cE (.int 0))) (callE F_way_by (consA (varE 0) (consA (binE ixD (varE 6) (cE (.int 1))) (consA (varE 1) (nilA)))))) (consA (binE subD (binE ixD (varE 7) (cE (.int 0))) (callE F_way_by (consA (varE 0) (consA (varE 1) (consA (binE ixD (varE 7) (cE (.int 1))) (nilA)))))) (nilA)))))) (nilA)))) (passS))) (retS (varE 4)))
def F_windows_in : FA := runF 4 8 B_windows_in
def B_marked_times : SvS := retS (callE sortDF (consA (dc2E (iterE (callE F_full_rows_of (consA (varE 0) (nilA)))) (.nm 2) (yesB) (iterE (varE 2)) (.nm 3) (tstE (binE eqD (binE ixD (varE 3) (cE (.int 1))) (varE 1))) (binE ixD (varE 3) (cE (.int 0))) (cE (.bl true)) [2, 3] [3]) (nilA)))
def F_marked_times : FA := runF 2 4 B_marked_times
def B_quiet_stretches : SvS := seqS (parS 2 3 (consA (mutE (nilA)) (consA (cE (.int 0)) (nilA)))) (seqS (forS (iterE (lcE (iterE (varE 0)) (.nm 4) (tstE (binE leD (varE 4) (varE 1))) (varE 4) [4])) (tgT (.nm 4)) (seqS (ifS (tstE (binE ltD (varE 3) (varE 4))) (exprS (methLE appF (varE 2) (consA (tupE (consA (varE 3) (consA (binE subD (varE 4) (cE (.int 1))) (nilA)))) (nilA)))) (passS)) (asgS (binE addD (varE 4) (cE (.int 1))) (nameT 3)))) (retS (ifE (tstE (binE leD (varE 3) (varE 1))) (binE addD (varE 2) (lstE (consA (tupE (consA (varE 3) (consA (varE 1) (nilA)))) (nilA)))) (varE 2))))
def F_quiet_stretches : FA := runF 2 5 B_quiet_stretches
def B_stretches_for : SvS := retS (callE F_quiet_stretches (consA (callE F_marked_times (consA (varE 0) (consA (varE 1) (nilA)))) (consA (callE maxF (consA (binE addD (lstE (consA (cE (.int 0)) (nilA))) (lcE (iterE (varE 2)) (.nm 3) (yesB) (binE ixD (varE 3) (cE (.int 3))) [3])) (nilA))) (nilA))))
def F_stretches_for : FA := runF 3 4 B_stretches_for
def B_do_share : SvS := retS (binE leD (callE maxF (consA (binE ixD (varE 0) (cE (.int 0))) (consA (binE ixD (varE 1) (cE (.int 0))) (nilA)))) (callE minF (consA (binE ixD (varE 0) (cE (.int 1))) (consA (binE ixD (varE 1) (cE (.int 1))) (nilA)))))
def F_do_share : FA := runF 2 2 B_do_share
def B_shared_by : SvS := retS (lcE (callI enumF (consA (varE 0) (nilA))) (.tp [.nm 2, .nm 3]) (tstE (callE F_do_share (consA (varE 3) (consA (tupE (consA (binE ixD (varE 1) (cE (.int 2))) (consA (binE ixD (varE 1) (cE (.int 3))) (nilA)))) (nilA))))) (varE 2) [2, 3])
def F_shared_by : FA := runF 2 4 B_shared_by
def B_chosen_by : SvS := seqS (parS 1 2 (consA (callE srtF (consA (lcE (callI enumF (consA (varE 0) (nilA))) (.tp [.nm 4, .nm 5]) (tstE (binE neD (varE 5) (lstE (nilA)))) (tupE (consA (binE ixD (varE 5) (unE negD (cE (.int 1)))) (consA (varE 4) (nilA)))) [4, 5]) (nilA))) (consA (mutE (nilA)) (nilA)))) (seqS (forS (iterE (varE 1)) (tgT (.tp [.nm 3, .nm 4])) (ifS (notB (tstE (callE anyF (consA (lcE (iterE (varE 2)) (.tp [.nm 6, .nm 7]) (yesB) (binE inD (varE 7) (binE ixD (varE 0) (varE 4))) [6, 7]) (nilA))))) (exprS (methLE appF (varE 2) (consA (tupE (consA (varE 4) (consA (varE 3) (nilA)))) (nilA)))) (passS))) (retS (varE 2)))
def F_chosen_by : FA := runF 1 8 B_chosen_by
def B_check_raced_v2 : SvS := seqS (exprS (callE F_check_track (consA (varE 0) (nilA)))) (exprS (callE F_check_race (consA (varE 0) (consA (varE 1) (nilA)))))
def F_check_raced_v2 : FA := runF 2 2 B_check_raced_v2
def B_check_looked_at : SvS := seqS (exprS (callE F_check_raced_v2 (consA (varE 0) (consA (varE 1) (nilA))))) (exprS (callE F_check_mat (consA (varE 0) (consA (varE 2) (nilA)))))
def F_check_looked_at : FA := runF 3 3 B_check_looked_at
def B__law_race : SvS := seqS (asgS (callE F__law_of (consA (varE 0) (consA (tupE (consA (cE (.int 0)) (consA (cE (.int 7)) (consA (binE addD (binE powD (cE (.int 10)) (cE (.int 20))) (cE (.int 3))) (nilA))))) (nilA)))) (nameT 3)) (retS (tupE (consA (varE 3) (consA (callE tupleF (consA (lcE (callI range1F (consA (binE addD (cE (.int 1)) (callE F__law_take (consA (varE 0) (consA (cE (.int 4)) (nilA))))) (nilA))) (.nm 4) (yesB) (callE F__law_course (consA (varE 0) (consA (varE 1) (consA (varE 3) (consA (varE 2) (nilA)))))) [4]) (nilA))) (nilA)))))
def F__law_race : FA := runF 3 5 B__law_race
def B_is_dead_stretch : SvS := seqS (ifS (orB (notB (tstE (callE F_is_pair (consA (varE 1) (nilA))))) (orB (notB (tstE (callE F_is_whole (consA (binE ixD (varE 1) (cE (.int 0))) (nilA))))) (notB (tstE (callE F_is_from (consA (binE ixD (varE 1) (cE (.int 1))) (consA (binE ixD (varE 1) (cE (.int 0))) (nilA)))))))) (retS (cE (.bl false))) (passS)) (retS (notE (callE anyF (consA (lcE (iterE (varE 0)) (.nm 2) (yesB) (chainE leD leD (binE ixD (varE 1) (cE (.int 0))) (varE 2) (binE ixD (varE 1) (cE (.int 1)))) [2]) (nilA)))))
def F_is_dead_stretch : FA := runF 2 3 B_is_dead_stretch
def B_no_extras : SvS := retS (binE mulD (tupE (consA (cE (.int 0)) (nilA))) (binE subD (callE lenF (consA (varE 0) (nilA))) (cE (.int 1))))
def F_no_extras : FA := runF 1 1 B_no_extras
def B_least_misses_by : SvS := seqS (asgS (lcE (iterE (callE F_full_rows_of (consA (varE 1) (nilA)))) (.nm 3) (yesB) (callE F_missed_by (consA (varE 0) (consA (varE 3) (consA (callE F_no_extras (consA (varE 3) (nilA))) (nilA))))) [3]) (nameT 2)) (retS (callE tupleF (consA (lcE (callI range1F (consA (callE lenF (consA (varE 0) (nilA))) (nilA))) (.nm 4) (yesB) (callE sumF (consA (lcE (iterE (varE 2)) (.nm 3) (yesB) (binE ixD (varE 3) (varE 4)) [3]) (nilA))) [4]) (nilA))))
def F_least_misses_by : FA := runF 2 5 B_least_misses_by
def B_least_misses : SvS := seqS (exprS (callE F_check_raced_v2 (consA (varE 0) (consA (varE 1) (nilA))))) (retS (callE F_least_misses_by (consA (varE 0) (consA (varE 1) (nilA)))))
def F_least_misses : FA := runF 2 2 B_least_misses
def B__law_odd_tracks : SvS := retS (lstE (consA (cE .non) (consA (cE (.int 7)) (consA (cE (.str "")) (consA (tupE (nilA)) (consA (callE listF (consA (varE 0) (nilA))) (consA (binE addD (tupE (consA (cE (.int 0)) (nilA))) (sliceE (varE 0) (someO (cE (.int 1))) (noO))) (consA (binE addD (sliceE (varE 0) (noO) (someO (unE negD (cE (.int 1))))) (tupE (consA (cE (.bl true)) (nilA)))) (consA (binE addD (sliceE (varE 0) (noO) (someO (unE negD (cE (.int 1))))) (tupE (consA (cE .non) (nilA)))) (consA (binE addD (sliceE (varE 0) (noO) (someO (unE negD (cE (.int 1))))) (tupE (consA (binE subD (cE (.int 0)) (cE (.int 3))) (nilA)))) (consA (binE mulD (tupE (consA (cE (.int 1)) (nilA))) (cE (.int 9))) (consA (tupE (consA (cE (.str "1")) (nilA))) (consA (empE) (consA (tupE (consA (varE 0) (nilA))) (nilA)))))))))))))))
def F__law_odd_tracks : FA := runF 1 1 B__law_odd_tracks
def B__law_odd_races : SvS := seqS (asgS (varE 1) (tupT 2 (consT (nameT 2) (consT (nameT 3) (nilT))))) (seqS (asgS (lstE (consA (cE .non) (consA (cE (.int 7)) (consA (cE (.str "")) (consA (tupE (nilA)) (consA (tupE (consA (varE 2) (nilA))) (consA (tupE (consA (varE 2) (consA (varE 3) (consA (tupE (nilA)) (nilA))))) (consA (lstE (consA (varE 2) (consA (varE 3) (nilA)))) (consA (tupE (consA (varE 2) (consA (callE listF (consA (varE 3) (nilA))) (nilA)))) (consA (tupE (consA (binE subD (cE (.int 0)) (cE (.int 1))) (consA (varE 3) (nilA)))) (consA (tupE (consA (cE (.bl true)) (consA (varE 3) (nilA)))) (consA (tupE (consA (cE .non) (consA (varE 3) (nilA)))) (consA (tupE (consA (varE 2) (consA (tupE (nilA)) (nilA)))) (consA (tupE (consA (varE 2) (consA (binE mulD (tupE (consA (tupE (nilA)) (nilA))) (cE (.int 7))) (nilA)))) (consA (empE) (consA (tupE (consA (varE 3) (consA (varE 2) (nilA)))) (nilA))))))))))))))))) (nameT 4)) (seqS (asgS (binE addD (varE 4) (lcE (iterE (tupE (consA (cE .non) (consA (lstE (nilA)) (consA (tupE (consA (tupE (consA (varE 2) (consA (cE (.int 0)) (nilA)))) (nilA))) (consA (tupE (consA (tupE (consA (binE addD (varE 2) (cE (.int 1))) (nilA))) (nilA))) (consA (tupE (consA (tupE (consA (binE addD (varE 2) (cE (.int 9999))) (consA (callE lenF (consA (varE 0) (nilA))) (nilA)))) (nilA))) (consA (tupE (consA (tupE (consA (binE addD (varE 2) (cE (.int 9999))) (consA (cE (.int 0)) (nilA)))) (consA (tupE (consA (binE addD (varE 2) (cE (.int 9999))) (consA (cE (.int 0)) (nilA)))) (nilA)))) (consA (tupE (consA (tupE (consA (binE addD (varE 2) (cE (.int 9999))) (consA (cE (.bl true)) (nilA)))) (nilA))) (nilA)))))))))) (.nm 5) (yesB) (tupE (consA (varE 2) (consA (binE addD (sliceE (varE 3) (noO) (someO (unE negD (cE (.int 1))))) (tupE (consA (varE 5) (nilA)))) (nilA)))) [5])) (nameT 4)) (retS (binE addD (varE 4) (lstE (consA (tupE (consA (varE 2) (consA (ifE (tstE (binE gtD (callE sumF (consA (varE 0) (nilA))) (cE (.int 1)))) (binE addD (sliceE (varE 3) (noO) (someO (unE negD (cE (.int 1))))) (tupE (consA (tupE (consA (tupE (consA (binE addD (varE 2) (binE powD (cE (.int 10)) (cE (.int 25)))) (consA (cE (.int 0)) (nilA)))) (consA (tupE (consA (binE addD (binE addD (varE 2) (binE powD (cE (.int 10)) (cE (.int 25)))) (cE (.int 1))) (consA (cE (.int 0)) (nilA)))) (nilA)))) (nilA)))) (tupE (consA (cE .non) (nilA)))) (nilA)))) (nilA)))))))
def F__law_odd_races : FA := runF 2 6 B__law_odd_races
def B__law_odd_mats : SvS := retS (lstE (consA (cE .non) (consA (callE lenF (consA (varE 0) (nilA))) (consA (binE subD (cE (.int 0)) (cE (.int 1))) (consA (cE (.bl true)) (consA (cE (.bl false)) (consA (cE (.str "0")) (consA (tupE (consA (cE (.int 0)) (nilA))) (consA (lstE (nilA)) (consA (binE powD (cE (.int 10)) (cE (.int 30))) (nilA)))))))))))
def F__law_odd_mats : FA := runF 1 1 B__law_odd_mats
def B_windows_by : SvS := retS (lc2JE (callI enumF (consA (callE F_full_rows_of (consA (varE 1) (nilA))) (nilA))) (.tp [.nm 3, .nm 4]) (yesB) (iterE (callE F_windows_in (consA (varE 0) (consA (varE 2) (consA (varE 3) (consA (varE 4) (nilA))))))) (.nm 5) (yesB) (varE 5) [3, 4, 5] [5])
def F_windows_by : FA := runF 3 6 B_windows_by
def B_shares_of : SvS := seqS (asgS (callE F_windows_by (consA (varE 0) (consA (varE 1) (consA (varE 2) (nilA))))) (nameT 3)) (seqS (asgS (callE F_stretches_for (consA (varE 1) (consA (varE 2) (consA (varE 3) (nilA))))) (nameT 4)) (retS (tupE (consA (varE 4) (consA (lcE (iterE (varE 3)) (.nm 5) (yesB) (callE F_shared_by (consA (varE 4) (consA (varE 5) (nilA)))) [5]) (nilA))))))
def F_shares_of : FA := runF 3 6 B_shares_of
def B_strays_by : SvS := retS (lcE (callI enumF (consA (binE ixD (callE F_shares_of (consA (varE 0) (consA (varE 1) (consA (varE 2) (nilA))))) (cE (.int 1))) (nilA))) (.tp [.nm 3, .nm 4]) (tstE (binE eqD (varE 4) (lstE (nilA)))) (varE 3) [3, 4])
def F_strays_by : FA := runF 3 5 B_strays_by
def B_fewest_dead_by : SvS := seqS (asgS (callE F_shares_of (consA (varE 0) (consA (varE 1) (consA (varE 2) (nilA))))) (tupT 2 (consT (nameT 3) (consT (nameT 4) (nilT))))) (seqS (ifS (tstE (binE inD (lstE (nilA)) (varE 4))) (retS (cE .non)) (passS)) (retS (callE tupleF (consA (lcE (iterE (callE F_chosen_by (consA (varE 4) (nilA)))) (.tp [.nm 5, .nm 6]) (yesB) (binE ixD (varE 3) (varE 6)) [5, 6]) (nilA)))))
def F_fewest_dead_by : FA := runF 3 7 B_fewest_dead_by
def B_windows : SvS := seqS (exprS (callE F_check_looked_at (consA (varE 0) (consA (varE 1) (consA (varE 2) (nilA)))))) (retS (callE tupleF (consA (callE F_windows_by (consA (varE 0) (consA (varE 1) (consA (varE 2) (nilA))))) (nilA))))
def F_windows : FA := runF 3 3 B_windows
def B_strays : SvS := seqS (exprS (callE F_check_looked_at (consA (varE 0) (consA (varE 1) (consA (varE 2) (nilA)))))) (retS (callE tupleF (consA (callE F_strays_by (consA (varE 0) (consA (varE 1) (consA (varE 2) (nilA))))) (nilA))))
def F_strays : FA := runF 3 3 B_strays
def B_fewest_dead : SvS := seqS (exprS (callE F_check_looked_at (consA (varE 0) (consA (varE 1) (consA (varE 2) (nilA)))))) (retS (callE F_fewest_dead_by (consA (varE 0) (consA (varE 1) (consA (varE 2) (nilA))))))
def F_fewest_dead : FA := runF 3 3 B_fewest_dead
def B_apart_by : SvS := retS (callE tupleF (consA (callE srtIF (consA (lcE (iterE (callE F_chosen_by (consA (binE ixD (callE F_shares_of (consA (varE 0) (consA (varE 1) (consA (varE 2) (nilA))))) (cE (.int 1))) (nilA)))) (.tp [.nm 3, .nm 4]) (yesB) (varE 3) [3, 4]) (nilA))) (nilA)))
def F_apart_by : FA := runF 3 5 B_apart_by
def B_do_explain_by : SvS := seqS (asgS (callE F_marked_times (consA (varE 1) (consA (varE 2) (nilA)))) (nameT 4)) (seqS (ifS (orB (notB (tstE (unE (isiD .tup) (varE 3)))) (notB (tstE (callE allF (consA (lcE (iterE (varE 3)) (.nm 5) (yesB) (callE F_is_dead_stretch (consA (varE 4) (consA (varE 5) (nilA)))) [5]) (nilA)))))) (retS (cE (.bl false))) (passS)) (retS (callE allF (consA (lcE (iterE (callE F_windows_by (consA (varE 0) (consA (varE 1) (consA (varE 2) (nilA)))))) (.nm 6) (yesB) (binE neD (callE F_shared_by (consA (varE 3) (consA (varE 6) (nilA)))) (lstE (nilA))) [6]) (nilA)))))
def F_do_explain_by : FA := runF 4 7 B_do_explain_by
def B_do_explain : SvS := seqS (exprS (callE F_check_looked_at (consA (varE 0) (consA (varE 1) (consA (varE 2) (nilA)))))) (retS (callE F_do_explain_by (consA (varE 0) (consA (varE 1) (consA (varE 2) (consA (varE 3) (nilA)))))))
def F_do_explain : FA := runF 4 4 B_do_explain
def B_apart_windows : SvS := seqS (exprS (callE F_check_looked_at (consA (varE 0) (consA (varE 1) (consA (varE 2) (nilA)))))) (retS (callE F_apart_by (consA (varE 0) (consA (varE 1) (consA (varE 2) (nilA))))))
def F_apart_windows : FA := runF 3 3 B_apart_windows
def B__law_done : SvS := seqS (ifS (tstE (binE ltD (varE 0) (cE (.int 3)))) (retS (ifE (tstE (binE eqD (varE 0) (cE (.int 0)))) (callKE F_least_misses nilA (consA (binE ixD (varE 1) (cE (.int 1))) (consA (binE ixD (varE 1) (cE (.int 0))) (nilA))) 0 2 [1, 0]) (ifE (tstE (binE eqD (varE 0) (cE (.int 1)))) (callE F_windows (consA (binE ixD (varE 1) (cE (.int 0))) (consA (binE ixD (varE 1) (cE (.int 1))) (consA (binE ixD (varE 1) (cE (.int 2))) (nilA))))) (callKE F_strays nilA (consA (binE ixD (varE 1) (cE (.int 2))) (consA (binE ixD (varE 1) (cE (.int 1))) (consA (binE ixD (varE 1) (cE (.int 0))) (nilA)))) 0 3 [2, 1, 0])))) (passS)) (seqS (ifS (tstE (binE ltD (varE 0) (cE (.int 5)))) (retS (ifE (tstE (binE eqD (varE 0) (cE (.int 3)))) (callE F_fewest_dead (consA (binE ixD (varE 1) (cE (.int 0))) (consA (binE ixD (varE 1) (cE (.int 1))) (consA (binE ixD (varE 1) (cE (.int 2))) (nilA))))) (callKE F_apart_windows nilA (consA (binE ixD (varE 1) (cE (.int 2))) (consA (binE ixD (varE 1) (cE (.int 1))) (consA (binE ixD (varE 1) (cE (.int 0))) (nilA)))) 0 3 [2, 1, 0]))) (passS)) (retS (callE F_do_explain (consA (binE ixD (varE 1) (cE (.int 0))) (consA (binE ixD (varE 1) (cE (.int 1))) (consA (binE ixD (varE 1) (cE (.int 2))) (consA (binE ixD (varE 1) (cE (.int 3))) (nilA))))))))
def F__law_done : FA := runF 2 2 B__law_done
def B__law_same_v3 (rec : FA) : SvS := seqS (ifS (orB (andB (tstE (unE (isiD .tup) (varE 1))) (notB (tstE (unE (isiD .tup) (varE 0))))) (andB (tstE (unE (isiD .lst) (varE 1))) (notB (tstE (unE (isiD .lst) (varE 0)))))) (retS (cE (.bl false))) (passS)) (seqS (ifS (tstE (unE (isi2D .tup .lst) (varE 1))) (retS (andE (binE eqED (callE lenEF (consA (varE 0) (nilA))) (callE lenEF (consA (varE 1) (nilA)))) (callE allF (consA (lcE (callI range1F (consA (callE lenEF (consA (varE 1) (nilA))) (nilA))) (.nm 2) (yesB) (callE rec (consA (binE ixD (varE 0) (varE 2)) (consA (binE ixD (varE 1) (varE 2)) (nilA)))) [2]) (nilA))))) (passS)) (seqS (ifS (orB (tstE (binE isND (varE 1) (cE .non))) (tstE (binE isND (varE 0) (cE .non)))) (retS (andE (binE isND (varE 1) (cE .non)) (binE isND (varE 0) (cE .non)))) (passS)) (seqS (ifS (orB (tstE (unE (isiD .bl) (varE 1))) (tstE (unE (isiD .bl) (varE 0)))) (retS (andE (unE (isiD .bl) (varE 1)) (andE (unE (isiD .bl) (varE 0)) (binE eqED (varE 1) (varE 0))))) (passS)) (seqS (ifS (tstE (unE (isiD .int) (varE 1))) (retS (andE (unE (isiD .int) (varE 0)) (binE eqED (varE 0) (varE 1)))) (passS)) (seqS (ifS (tstE (unE (isiD .str) (varE 1))) (retS (andE (unE (isiD .str) (varE 0)) (binE eqED (varE 0) (varE 1)))) (passS)) (retS (andE (unE (isiD .dic) (varE 1)) (andE (unE (isiD .dic) (varE 0)) (andE (binE eqED (callE lenEF (consA (varE 0) (nilA))) (callE lenEF (consA (varE 1) (nilA)))) (binE eqED (varE 0) (varE 1)))))))))))
def R__law_same_v3 : Nat → FA
  | 0 => fun _ _ => .fail
  | k + 1 => runF 2 3 (B__law_same_v3 (R__law_same_v3 k))
def F__law_same_v3 : FA := R__law_same_v3 20
end Lap
namespace K40
open PySem PySem.Spec PyProof.Rows L2 G Lap
set_option maxHeartbeats 4000000
def topS (i : Nat) : Stmt := PySem.Challenge.pw_lapmats_k40_misses_refused.main.body.getD i (.Pass ⟨0, 0, 0, 0⟩)
structure Bt (mg : Str → Option Value) : Prop where
  list : mg "list" = none
  sum : mg "sum" = none
  len : mg "len" = none
  divmod : mg "divmod" = none
  range : mg "range" = none
  isinstance : mg "isinstance" = none
  int : mg "int" = none
  bool : mg "bool" = none
  tuple : mg "tuple" = none
  MOST_MATS : ∃ t, mg "MOST_MATS" = some (.int 8 t)
  all : mg "all" = none
  MOST_MARKS : ∃ t, mg "MOST_MARKS" = some (.int 30 t)
  enumerate : mg "enumerate" = none
  MOST_RUNNERS : ∃ t, mg "MOST_RUNNERS" = some (.int 6 t)
  zip : mg "zip" = none
  sorted : mg "sorted" = none
  TO : ∃ t, mg "TO" = some (.int 3 t)
  max : mg "max" = none
  min : mg "min" = none
  FROM : ∃ t, mg "FROM" = some (.int 2 t)
  any : mg "any" = none
  abs : mg "abs" = none
  str : mg "str" = none
  dict : mg "dict" = none
def tabL : Tab := [("InvalidTrack", "given"), ("InvalidMat", "given"), ("InvalidRace", "given")]
structure Xt (K : PySem.W.Frag) (mg : Str → Option Value) : Prop where
  ns : ∀ x v, PySem.W.nsIn K mainGlobals x = some (some v) → mg x = some v
  r_InvalidMat : RX K mg "InvalidMat" "given"
  r_InvalidRace : RX K mg "InvalidRace" "given"
  r_InvalidTrack : RX K mg "InvalidTrack" "given"
  xt : XT K mg tabL
abbrev s_round_by : Stmt := topS 6
theorem sc_round_by : FnScope ["track"] ["track"] (defScope s_round_by) := ⟨rfl, rfl, rfl, by decide +kernel, rfl, by decide +kernel, by decide +kernel⟩
abbrev s_sectors_from : Stmt := topS 7
theorem sc_sectors_from : FnScope ["track", "mat"] ["track", "mat"] (defScope s_sectors_from) := ⟨rfl, rfl, rfl, by decide +kernel, rfl, by decide +kernel, by decide +kernel⟩
abbrev s_reach_by : Stmt := topS 8
theorem sc_reach_by : FnScope ["track", "mat", "number", "rounds", "rest"] ["track", "mat", "number"] (defScope s_reach_by) := ⟨rfl, rfl, rfl, by decide +kernel, rfl, by decide +kernel, by decide +kernel⟩
abbrev s_steps_by : Stmt := topS 9
theorem sc_steps_by : FnScope ["track", "one", "other"] ["track", "one", "other"] (defScope s_steps_by) := ⟨rfl, rfl, rfl, by decide +kernel, rfl, by decide +kernel, by decide +kernel⟩
abbrev s_way_by : Stmt := topS 10
theorem sc_way_by : FnScope ["track", "one", "other"] ["track", "one", "other"] (defScope s_way_by) := ⟨rfl, rfl, rfl, by decide +kernel, rfl, by decide +kernel, by decide +kernel⟩
abbrev s_can_follow_by : Stmt := topS 12
theorem sc_can_follow_by : FnScope ["track", "mark", "other"] ["track", "mark", "other"] (defScope s_can_follow_by) := ⟨rfl, rfl, rfl, by decide +kernel, rfl, by decide +kernel, by decide +kernel⟩
abbrev s_wrong_marks_by : Stmt := topS 13
theorem sc_wrong_marks_by : FnScope ["track", "bag", "at"] ["track", "bag"] (defScope s_wrong_marks_by) := ⟨rfl, rfl, rfl, by decide +kernel, rfl, by decide +kernel, by decide +kernel⟩
abbrev s_is_row_by : Stmt := topS 14
theorem sc_is_row_by : FnScope ["track", "bag"] ["track", "bag"] (defScope s_is_row_by) := ⟨rfl, rfl, rfl, by decide +kernel, rfl, by decide +kernel, by decide +kernel⟩
abbrev s_is_whole : Stmt := topS 16
theorem sc_is_whole : FnScope ["value"] ["value"] (defScope s_is_whole) := ⟨rfl, rfl, rfl, by decide +kernel, rfl, by decide +kernel, by decide +kernel⟩
abbrev s_is_between : Stmt := topS 17
theorem sc_is_between : FnScope ["value", "low", "high"] ["value", "low", "high"] (defScope s_is_between) := ⟨rfl, rfl, rfl, by decide +kernel, rfl, by decide +kernel, by decide +kernel⟩
abbrev s_is_up_to : Stmt := topS 18
theorem sc_is_up_to : FnScope ["value", "most"] ["value", "most"] (defScope s_is_up_to) := ⟨rfl, rfl, rfl, by decide +kernel, rfl, by decide +kernel, by decide +kernel⟩
abbrev s_is_from : Stmt := topS 19
theorem sc_is_from : FnScope ["value", "least"] ["value", "least"] (defScope s_is_from) := ⟨rfl, rfl, rfl, by decide +kernel, rfl, by decide +kernel, by decide +kernel⟩
abbrev s_is_tuple_up_to : Stmt := topS 20
theorem sc_is_tuple_up_to : FnScope ["value", "low", "high"] ["value", "low", "high"] (defScope s_is_tuple_up_to) := ⟨rfl, rfl, rfl, by decide +kernel, rfl, by decide +kernel, by decide +kernel⟩
abbrev s_is_tuple_of : Stmt := topS 21
theorem sc_is_tuple_of : FnScope ["value", "many"] ["value", "many"] (defScope s_is_tuple_of) := ⟨rfl, rfl, rfl, by decide +kernel, rfl, by decide +kernel, by decide +kernel⟩
abbrev s_is_pair : Stmt := topS 22
theorem sc_is_pair : FnScope ["value"] ["value"] (defScope s_is_pair) := ⟨rfl, rfl, rfl, by decide +kernel, rfl, by decide +kernel, by decide +kernel⟩
abbrev s_is_track_of : Stmt := topS 27
theorem sc_is_track_of : FnScope ["value", "each"] ["value"] (defScope s_is_track_of) := ⟨rfl, rfl, rfl, by decide +kernel, rfl, by decide +kernel, by decide +kernel⟩
abbrev s_is_mat_of : Stmt := topS 28
theorem sc_is_mat_of : FnScope ["track", "value"] ["track", "value"] (defScope s_is_mat_of) := ⟨rfl, rfl, rfl, by decide +kernel, rfl, by decide +kernel, by decide +kernel⟩
abbrev s_is_mark_of : Stmt := topS 29
theorem sc_is_mark_of : FnScope ["track", "value"] ["track", "value"] (defScope s_is_mark_of) := ⟨rfl, rfl, rfl, by decide +kernel, rfl, by decide +kernel, by decide +kernel⟩
abbrev s_wrong_in_bag : Stmt := topS 30
theorem sc_wrong_in_bag : FnScope ["track", "value", "index", "mark"] ["track", "value"] (defScope s_wrong_in_bag) := ⟨rfl, rfl, rfl, by decide +kernel, rfl, by decide +kernel, by decide +kernel⟩
abbrev s_is_bag_of : Stmt := topS 31
theorem sc_is_bag_of : FnScope ["track", "value"] ["track", "value"] (defScope s_is_bag_of) := ⟨rfl, rfl, rfl, by decide +kernel, rfl, by decide +kernel, by decide +kernel⟩
abbrev s_is_full_row : Stmt := topS 32
theorem sc_is_full_row : FnScope ["track", "start", "value"] ["track", "start", "value"] (defScope s_is_full_row) := ⟨rfl, rfl, rfl, by decide +kernel, rfl, by decide +kernel, by decide +kernel⟩
abbrev s_is_race_of : Stmt := topS 33
theorem sc_is_race_of : FnScope ["track", "value", "row"] ["track", "value"] (defScope s_is_race_of) := ⟨rfl, rfl, rfl, by decide +kernel, rfl, by decide +kernel, by decide +kernel⟩
abbrev s_check_track : Stmt := topS 34
theorem sc_check_track : FnScope ["track"] ["track"] (defScope s_check_track) := ⟨rfl, rfl, rfl, by decide +kernel, rfl, by decide +kernel, by decide +kernel⟩
abbrev s_check_mat : Stmt := topS 35
theorem sc_check_mat : FnScope ["track", "mat"] ["track", "mat"] (defScope s_check_mat) := ⟨rfl, rfl, rfl, by decide +kernel, rfl, by decide +kernel, by decide +kernel⟩
abbrev s_check_race : Stmt := topS 36
theorem sc_check_race : FnScope ["track", "race"] ["track", "race"] (defScope s_check_race) := ⟨rfl, rfl, rfl, by decide +kernel, rfl, by decide +kernel, by decide +kernel⟩
abbrev s_mats_between : Stmt := topS 38
theorem sc_mats_between : FnScope ["track", "one", "other", "step"] ["track", "one", "other"] (defScope s_mats_between) := ⟨rfl, rfl, rfl, by decide +kernel, rfl, by decide +kernel, by decide +kernel⟩
abbrev s_missed_by : Stmt := topS 39
theorem sc_missed_by : FnScope ["track", "row", "extras", "found", "one", "two", "mat"] ["track", "row", "extras"] (defScope s_missed_by) := ⟨rfl, rfl, rfl, by decide +kernel, rfl, by decide +kernel, by decide +kernel⟩
abbrev s_full_row_by : Stmt := topS 41
theorem sc_full_row_by : FnScope ["race", "runner"] ["race", "runner"] (defScope s_full_row_by) := ⟨rfl, rfl, rfl, by decide +kernel, rfl, by decide +kernel, by decide +kernel⟩
abbrev s_full_rows_of : Stmt := topS 45
theorem sc_full_rows_of : FnScope ["race", "runner"] ["race"] (defScope s_full_rows_of) := ⟨rfl, rfl, rfl, by decide +kernel, rfl, by decide +kernel, by decide +kernel⟩
abbrev s_no_extras : Stmt := topS 46
theorem sc_no_extras : FnScope ["row"] ["row"] (defScope s_no_extras) := ⟨rfl, rfl, rfl, by decide +kernel, rfl, by decide +kernel, by decide +kernel⟩
abbrev s_least_misses_by : Stmt := topS 47
theorem sc_least_misses_by : FnScope ["track", "race", "rows", "row", "mat"] ["track", "race"] (defScope s_least_misses_by) := ⟨rfl, rfl, rfl, by decide +kernel, rfl, by decide +kernel, by decide +kernel⟩
abbrev s_windows_in : Stmt := topS 48
theorem sc_windows_in : FnScope ["track", "mat", "runner", "row", "found", "gap", "one", "two"] ["track", "mat", "runner", "row"] (defScope s_windows_in) := ⟨rfl, rfl, rfl, by decide +kernel, rfl, by decide +kernel, by decide +kernel⟩
abbrev s_windows_by : Stmt := topS 49
theorem sc_windows_by : FnScope ["track", "race", "mat", "runner", "row", "window"] ["track", "race", "mat"] (defScope s_windows_by) := ⟨rfl, rfl, rfl, by decide +kernel, rfl, by decide +kernel, by decide +kernel⟩
abbrev s_marked_times : Stmt := topS 50
theorem sc_marked_times : FnScope ["race", "mat", "row", "mark"] ["race", "mat"] (defScope s_marked_times) := ⟨rfl, rfl, rfl, by decide +kernel, rfl, by decide +kernel, by decide +kernel⟩
abbrev s_quiet_stretches : Stmt := topS 51
theorem sc_quiet_stretches : FnScope ["times", "last", "found", "here", "time"] ["times", "last"] (defScope s_quiet_stretches) := ⟨rfl, rfl, rfl, by decide +kernel, rfl, by decide +kernel, by decide +kernel⟩
abbrev s_stretches_for : Stmt := topS 52
theorem sc_stretches_for : FnScope ["race", "mat", "windows", "window"] ["race", "mat", "windows"] (defScope s_stretches_for) := ⟨rfl, rfl, rfl, by decide +kernel, rfl, by decide +kernel, by decide +kernel⟩
abbrev s_do_share : Stmt := topS 53
theorem sc_do_share : FnScope ["one", "other"] ["one", "other"] (defScope s_do_share) := ⟨rfl, rfl, rfl, by decide +kernel, rfl, by decide +kernel, by decide +kernel⟩
abbrev s_shared_by : Stmt := topS 54
theorem sc_shared_by : FnScope ["stretches", "window", "index", "each"] ["stretches", "window"] (defScope s_shared_by) := ⟨rfl, rfl, rfl, by decide +kernel, rfl, by decide +kernel, by decide +kernel⟩
abbrev s_shares_of : Stmt := topS 55
theorem sc_shares_of : FnScope ["track", "race", "mat", "windows", "stretches", "window"] ["track", "race", "mat"] (defScope s_shares_of) := ⟨rfl, rfl, rfl, by decide +kernel, rfl, by decide +kernel, by decide +kernel⟩
abbrev s_strays_by : Stmt := topS 56
theorem sc_strays_by : FnScope ["track", "race", "mat", "index", "shared"] ["track", "race", "mat"] (defScope s_strays_by) := ⟨rfl, rfl, rfl, by decide +kernel, rfl, by decide +kernel, by decide +kernel⟩
abbrev s_chosen_by : Stmt := topS 57
theorem sc_chosen_by : FnScope ["shares", "rows", "found", "last", "index", "shared", "_", "stretch"] ["shares"] (defScope s_chosen_by) := ⟨rfl, rfl, rfl, by decide +kernel, rfl, by decide +kernel, by decide +kernel⟩
abbrev s_fewest_dead_by : Stmt := topS 58
theorem sc_fewest_dead_by : FnScope ["track", "race", "mat", "stretches", "shares", "_", "stretch"] ["track", "race", "mat"] (defScope s_fewest_dead_by) := ⟨rfl, rfl, rfl, by decide +kernel, rfl, by decide +kernel, by decide +kernel⟩
abbrev s_apart_by : Stmt := topS 59
theorem sc_apart_by : FnScope ["track", "race", "mat", "index", "_"] ["track", "race", "mat"] (defScope s_apart_by) := ⟨rfl, rfl, rfl, by decide +kernel, rfl, by decide +kernel, by decide +kernel⟩
abbrev s_is_dead_stretch : Stmt := topS 60
theorem sc_is_dead_stretch : FnScope ["times", "value", "time"] ["times", "value"] (defScope s_is_dead_stretch) := ⟨rfl, rfl, rfl, by decide +kernel, rfl, by decide +kernel, by decide +kernel⟩
abbrev s_do_explain_by : Stmt := topS 61
theorem sc_do_explain_by : FnScope ["track", "race", "mat", "value", "times", "each", "window"] ["track", "race", "mat", "value"] (defScope s_do_explain_by) := ⟨rfl, rfl, rfl, by decide +kernel, rfl, by decide +kernel, by decide +kernel⟩
abbrev s_check_raced : Stmt := topS 63
theorem sc_check_raced : FnScope ["track", "race"] ["track", "race"] (defScope s_check_raced) := ⟨rfl, rfl, rfl, by decide +kernel, rfl, by decide +kernel, by decide +kernel⟩
abbrev s_check_looked_at : Stmt := topS 64
theorem sc_check_looked_at : FnScope ["track", "race", "mat"] ["track", "race", "mat"] (defScope s_check_looked_at) := ⟨rfl, rfl, rfl, by decide +kernel, rfl, by decide +kernel, by decide +kernel⟩
abbrev s_least_misses : Stmt := topS 65
theorem sc_least_misses : FnScope ["track", "race"] ["track", "race"] (defScope s_least_misses) := ⟨rfl, rfl, rfl, by decide +kernel, rfl, by decide +kernel, by decide +kernel⟩
abbrev s_windows : Stmt := topS 66
theorem sc_windows : FnScope ["track", "race", "mat"] ["track", "race", "mat"] (defScope s_windows) := ⟨rfl, rfl, rfl, by decide +kernel, rfl, by decide +kernel, by decide +kernel⟩
abbrev s_strays : Stmt := topS 67
theorem sc_strays : FnScope ["track", "race", "mat"] ["track", "race", "mat"] (defScope s_strays) := ⟨rfl, rfl, rfl, by decide +kernel, rfl, by decide +kernel, by decide +kernel⟩
abbrev s_fewest_dead : Stmt := topS 68
theorem sc_fewest_dead : FnScope ["track", "race", "mat"] ["track", "race", "mat"] (defScope s_fewest_dead) := ⟨rfl, rfl, rfl, by decide +kernel, rfl, by decide +kernel, by decide +kernel⟩
abbrev s_do_explain : Stmt := topS 69
theorem sc_do_explain : FnScope ["track", "race", "mat", "value"] ["track", "race", "mat", "value"] (defScope s_do_explain) := ⟨rfl, rfl, rfl, by decide +kernel, rfl, by decide +kernel, by decide +kernel⟩
abbrev s_apart_windows : Stmt := topS 70
theorem sc_apart_windows : FnScope ["track", "race", "mat"] ["track", "race", "mat"] (defScope s_apart_windows) := ⟨rfl, rfl, rfl, by decide +kernel, rfl, by decide +kernel, by decide +kernel⟩
abbrev s__law_well : Stmt := topS 72
theorem sc__law_well : FnScope ["script", "lap", "own", "stir", "each"] ["script", "lap"] (defScope s__law_well) := ⟨rfl, rfl, rfl, by decide +kernel, rfl, by decide +kernel, by decide +kernel⟩
abbrev s__law_take : Stmt := topS 73
theorem sc__law_take : FnScope ["well", "many", "digit"] ["well", "many"] (defScope s__law_take) := ⟨rfl, rfl, rfl, by decide +kernel, rfl, by decide +kernel, by decide +kernel⟩
abbrev s__law_of : Stmt := topS 74
theorem sc__law_of : FnScope ["well", "things"] ["well", "things"] (defScope s__law_of) := ⟨rfl, rfl, rfl, by decide +kernel, rfl, by decide +kernel, by decide +kernel⟩
abbrev s__law_same : Stmt := topS 75
theorem sc__law_same : FnScope ["told", "due", "at"] ["told", "due"] (defScope s__law_same) := ⟨rfl, rfl, rfl, by decide +kernel, rfl, by decide +kernel, by decide +kernel⟩
abbrev s__law_track : Stmt := topS 76
theorem sc__law_track : FnScope ["well", "wide", "mat"] ["well"] (defScope s__law_track) := ⟨rfl, rfl, rfl, by decide +kernel, rfl, by decide +kernel, by decide +kernel⟩
abbrev s__law_course : Stmt := topS 77
theorem sc__law_course : FnScope ["well", "track", "start", "most", "found", "time", "mat", "slow", "share", "turn"] ["well", "track", "start", "most"] (defScope s__law_course) := ⟨rfl, rfl, rfl, by decide +kernel, rfl, by decide +kernel, by decide +kernel⟩
abbrev s__law_race : Stmt := topS 78
theorem sc__law_race : FnScope ["well", "track", "most", "start", "runner"] ["well", "track", "most"] (defScope s__law_race) := ⟨rfl, rfl, rfl, by decide +kernel, rfl, by decide +kernel, by decide +kernel⟩
abbrev s__law_odd_tracks : Stmt := topS 79
theorem sc__law_odd_tracks : FnScope ["track"] ["track"] (defScope s__law_odd_tracks) := ⟨rfl, rfl, rfl, by decide +kernel, rfl, by decide +kernel, by decide +kernel⟩
abbrev s__law_odd_races : Stmt := topS 80
theorem sc__law_odd_races : FnScope ["track", "race", "start", "rows", "found", "bad"] ["track", "race"] (defScope s__law_odd_races) := ⟨rfl, rfl, rfl, by decide +kernel, rfl, by decide +kernel, by decide +kernel⟩
abbrev s__law_odd_mats : Stmt := topS 81
theorem sc__law_odd_mats : FnScope ["track"] ["track"] (defScope s__law_odd_mats) := ⟨rfl, rfl, rfl, by decide +kernel, rfl, by decide +kernel, by decide +kernel⟩
abbrev s__law_done : Stmt := topS 82
theorem sc__law_done : FnScope ["way", "a"] ["way", "a"] (defScope s__law_done) := ⟨rfl, rfl, rfl, by decide +kernel, rfl, by decide +kernel, by decide +kernel⟩
abbrev s__law_said : Stmt := topS 83
theorem sc__law_said : FnScope ["way", "things", "e"] ["way", "things"] (defScope s__law_said) := ⟨rfl, rfl, rfl, by decide +kernel, rfl, by decide +kernel, by decide +kernel⟩
def B__law_said : SvS := seqS (tryS tabL (exprS (callE F__law_done (consA (varE 0) (consA (varE 1) (nilA))))) [("InvalidTrack", some 2, fun xa xc xd => retS (tupE (consA (cE (.str "track")) (consA (xfE tabL xa xc xd 2 "given") (nilA))))), ("InvalidRace", some 2, fun xa xc xd => retS (tupE (consA (cE (.str "race")) (consA (xfE tabL xa xc xd 2 "given") (nilA))))), ("InvalidMat", some 2, fun xa xc xd => retS (tupE (consA (cE (.str "mat")) (consA (xfE tabL xa xc xd 2 "given") (nilA))))), ("LapError", none, fun _ _ _ => retS (tupE (consA (cE (.str "other")) (consA (cE .non) (nilA)))))]) (retS (tupE (consA (cE (.str "told")) (consA (cE .non) (nilA)))))
def F__law_said : FA := runF 2 3 B__law_said
abbrev s__law_right : Stmt := topS 84
theorem sc__law_right : FnScope ["well", "turn", "track", "race", "mat", "way", "right", "bad", "value"] ["well"] (defScope s__law_right) := ⟨rfl, rfl, rfl, by decide +kernel, rfl, by decide +kernel, by decide +kernel⟩
def B__law_right : SvS := seqS (forS (callI range1F (consA (cE (.int 2)) (nilA))) (tgT (.nm 1)) (seqS (asgS (callE F__law_track (consA (varE 0) (nilA))) (nameT 2)) (seqS (parS 3 4 (consA (callE F__law_race (consA (varE 0) (consA (varE 2) (consA (cE (.int 4)) (nilA))))) (consA (callE F__law_take (consA (varE 0) (consA (callE lenF (consA (varE 2) (nilA))) (nilA)))) (nilA)))) (seqS (forS (callI range1F (consA (cE (.int 6)) (nilA))) (tgT (.nm 5)) (seqS (asgS (lstE (consA (varE 2) (consA (varE 3) (consA (varE 4) (consA (tupE (nilA)) (nilA)))))) (nameT 6)) (seqS (ifS (tstE (binE neD (callE F__law_said (consA (varE 5) (consA (varE 6) (nilA)))) (tupE (consA (cE (.str "told")) (consA (cE .non) (nilA)))))) (retS (cE (.bl false))) (passS)) (seqS (forS (iterE (callE F__law_odd_tracks (consA (varE 2) (nilA)))) (tgT (.nm 7)) (ifS (notB (tstE (callE F__law_same_v3 (consA (callE F__law_said (consA (varE 5) (consA (lstE (consA (varE 7) (consA (callE F__law_of (consA (varE 0) (consA (tupE (consA (varE 3) (consA (cE .non) (nilA)))) (nilA)))) (consA (callE F__law_of (consA (varE 0) (consA (tupE (consA (varE 4) (consA (cE .non) (nilA)))) (nilA)))) (consA (cE .non) (nilA)))))) (nilA)))) (consA (tupE (consA (cE (.str "track")) (consA (varE 7) (nilA)))) (nilA)))))) (retS (cE (.bl false))) (passS))) (seqS (forS (iterE (callE F__law_odd_races (consA (varE 2) (consA (varE 3) (nilA))))) (tgT (.nm 7)) (ifS (notB (tstE (callE F__law_same_v3 (consA (callE F__law_said (consA (varE 5) (consA (lstE (consA (varE 2) (consA (varE 7) (consA (callE F__law_of (consA (varE 0) (consA (tupE (consA (varE 4) (consA (cE .non) (nilA)))) (nilA)))) (consA (cE .non) (nilA)))))) (nilA)))) (consA (tupE (consA (cE (.str "race")) (consA (varE 7) (nilA)))) (nilA)))))) (retS (cE (.bl false))) (passS))) (forS (iterE (ifE (tstE (binE gtD (varE 5) (cE (.int 0)))) (callE F__law_odd_mats (consA (varE 2) (nilA))) (lstE (nilA)))) (tgT (.nm 7)) (ifS (notB (tstE (callE F__law_same_v3 (consA (callE F__law_said (consA (varE 5) (consA (lstE (consA (varE 2) (consA (varE 3) (consA (varE 7) (consA (cE .non) (nilA)))))) (nilA)))) (consA (tupE (consA (cE (.str "mat")) (consA (varE 7) (nilA)))) (nilA)))))) (retS (cE (.bl false))) (passS)))))))) (forS (iterE (tupE (consA (cE .non) (consA (cE (.int 0)) (consA (cE (.bl true)) (consA (cE (.str "dead")) (consA (lstE (nilA)) (consA (empE) (consA (tupE (consA (cE .non) (nilA))) (consA (tupE (consA (tupE (consA (cE (.int 1)) (consA (cE (.int 2)) (consA (cE (.int 3)) (nilA))))) (nilA))) (consA (tupE (consA (lstE (consA (cE (.int 1)) (consA (cE (.int 2)) (nilA)))) (nilA))) (consA (tupE (consA (tupE (consA (cE (.int 1)) (consA (cE (.bl true)) (nilA)))) (nilA))) (consA (tupE (consA (tupE (consA (cE (.int 2)) (consA (cE (.int 1)) (nilA)))) (nilA))) (nilA)))))))))))))) (tgT (.nm 8)) (ifS (orB (tstE (binE neD (callE F__law_said (consA (cE (.int 5)) (consA (lstE (consA (varE 2) (consA (varE 3) (consA (varE 4) (consA (varE 8) (nilA)))))) (nilA)))) (tupE (consA (cE (.str "told")) (consA (cE .non) (nilA)))))) (tstE (binE notBD (callKE F_do_explain nilA (consA (varE 8) (consA (varE 4) (consA (varE 3) (consA (varE 2) (nilA))))) 0 4 [3, 2, 1, 0]) (cE (.bl false))))) (retS (cE (.bl false))) (passS))))))) (retS (cE (.bl true)))
def F__law_right : FA := runF 1 9 B__law_right
abbrev s_law : Stmt := topS 85
theorem sc_law : FnScope ["script", "lap"] ["script"] (defScope s_law) := ⟨rfl, rfl, rfl, by decide +kernel, rfl, by decide +kernel, by decide +kernel⟩
def B_law : SvS := retS (callE allF (consA (lcE (callI range1F (consA (callE maxF (consA (cE (.int 2)) (consA (callE minF (consA (callE lenF (consA (varE 0) (nilA))) (consA (cE (.int 3)) (nilA)))) (nilA)))) (nilA))) (.nm 1) (yesB) (callE F__law_right (consA (callE F__law_well (consA (varE 0) (consA (varE 1) (nilA)))) (nilA))) [1]) (nilA)))
def F_law : FA := runF 1 2 B_law
section
variable {P : Program} {w : World} {K : PySem.W.Frag} {mg : Str → Option Value} {base : Heap}
theorem ok_round_by (T : Bt mg) (XX : Xt K mg) (S : Std K mg "round_by" "round_by" s_round_by) : Kn P w K mg base "round_by" s_round_by ["track"] 1 F_round_by := by
  refine kn_of (N := ["track"]) (k := 0) (B := B_round_by) S sc_round_by rfl rfl (fun _ _ _ _ _ _ us hl => match us, hl with | [_], _ => rfl) fun f cdv A outer s' H E hr => ?_
  have nd := sc_round_by.nd
  have tk : Takes (cxOf (L2.CX P w) P w K mg base ["track"] "round_by" (defScope s_round_by) f cdv A outer s' H E) (Wd E) := takes_of rfl rfl rfl rfl
  exact s_one (s_ret (g_blt (pe_callB (cq_sum rfl) (by rfl) T.sum bt_sum (g_cons (g_blt (pe_callTy call_list_of (by rfl) T.list bt_list (g_cons (g_var 0 (pv 0)) (g_nil) rfl)) v_list) (g_nil) rfl)) v_sum))
theorem ok_sectors_from (T : Bt mg) (XX : Xt K mg) (S : Std K mg "sectors_from" "sectors_from" s_sectors_from) : Kn P w K mg base "sectors_from" s_sectors_from ["track", "mat"] 1 F_sectors_from := by
  refine kn_of (N := ["track", "mat"]) (k := 0) (B := B_sectors_from) S sc_sectors_from rfl rfl (fun _ _ _ _ _ _ us hl => match us, hl with | [_, _], _ => rfl) fun f cdv A outer s' H E hr => ?_
  have nd := sc_sectors_from.nd
  have tk : Takes (cxOf (L2.CX P w) P w K mg base ["track", "mat"] "sectors_from" (defScope s_sectors_from) f cdv A outer s' H E) (Wd E) := takes_of rfl rfl rfl rfl
  exact s_one (s_ret (g_lst (g_star (g_slice (g_var 0 (pv 0)) (g_some (g_var 1 (pv 1))) (g_no)) (g_star (g_slice (g_var 0 (pv 0)) (g_no) (g_some (g_var 1 (pv 1)))) (g_nil) rfl) rfl)))
theorem ok_reach_by (T : Bt mg) (XX : Xt K mg) (S : Std K mg "reach_by" "reach_by" s_reach_by) (c_round_by : Kn P w K mg base "round_by" s_round_by ["track"] 1 F_round_by) (c_sectors_from : Kn P w K mg base "sectors_from" s_sectors_from ["track", "mat"] 1 F_sectors_from) : Kn P w K mg base "reach_by" s_reach_by ["track", "mat", "number"] 2 F_reach_by := by
  refine kn_of (N := ["track", "mat", "number", "rounds", "rest"]) (k := 1) (B := B_reach_by) S sc_reach_by rfl rfl (fun _ _ _ _ _ _ us hl => match us, hl with | [_, _, _], _ => rfl) fun f cdv A outer s' H E hr => ?_
  have nd := sc_reach_by.nd
  have tk : Takes (cxOf (L2.CX P w) P w K mg base ["track", "mat", "number", "rounds", "rest"] "reach_by" (defScope s_reach_by) f cdv A outer s' H E) (Wd E) := takes_of rfl rfl rfl rfl
  exact s_cons (s_asg (ps_asg (g_blt (pe_callB c_divmod (by rfl) T.divmod bt_divmod (g_cons (g_var 2 (pv 2)) (g_cons (g_blt (pe_callB c_len (by rfl) T.len bt_len (g_cons (g_var 0 (pv 0)) (g_nil) rfl)) v_len) (g_nil) rfl) rfl)) v_divmod) (t_tup (pg_tup rfl (t_cons (t_name (pg_name (i := 3) nd rfl (.inl rfl))) (t_cons (t_name (pg_name (i := 4) nd rfl (.inl rfl))) (t_nil) rfl) rfl))))) (s_one (s_ret (g_op o_add v_add (g_op o_mul v_mul (g_var 3 (pv 3)) (g_calln c_round_by (hr.mono (by decide)) (by rfl) tk (g_cons (g_var 0 (pv 0)) (g_nil) rfl) (by decide) rfl rfl)) (g_blt (pe_callB (cq_sum rfl) (by rfl) T.sum bt_sum (g_cons (g_slice (g_calln c_sectors_from (hr.mono (by decide)) (by rfl) tk (g_cons (g_var 0 (pv 0)) (g_cons (g_var 1 (pv 1)) (g_nil) rfl) rfl) (by decide) rfl rfl) (g_no) (g_some (g_var 4 (pv 4)))) (g_nil) rfl)) v_sum))))
theorem ok_steps_by (T : Bt mg) (XX : Xt K mg) (S : Std K mg "steps_by" "steps_by" s_steps_by) : Kn P w K mg base "steps_by" s_steps_by ["track", "one", "other"] 1 F_steps_by := by
  refine kn_of (N := ["track", "one", "other"]) (k := 0) (B := B_steps_by) S sc_steps_by rfl rfl (fun _ _ _ _ _ _ us hl => match us, hl with | [_, _, _], _ => rfl) fun f cdv A outer s' H E hr => ?_
  have nd := sc_steps_by.nd
  have tk : Takes (cxOf (L2.CX P w) P w K mg base ["track", "one", "other"] "steps_by" (defScope s_steps_by) f cdv A outer s' H E) (Wd E) := takes_of rfl rfl rfl rfl
  exact s_one (s_ret (g_op o_add v_add (g_op op_mod v_mod (g_op op_sub v_sub (g_op op_sub v_sub (g_var 2 (pv 2)) (g_var 1 (pv 1))) (g_int)) (g_blt (pe_callB c_len (by rfl) T.len bt_len (g_cons (g_var 0 (pv 0)) (g_nil) rfl)) v_len)) (g_int)))
theorem ok_way_by (T : Bt mg) (XX : Xt K mg) (S : Std K mg "way_by" "way_by" s_way_by) (c_reach_by : Kn P w K mg base "reach_by" s_reach_by ["track", "mat", "number"] 2 F_reach_by) (c_steps_by : Kn P w K mg base "steps_by" s_steps_by ["track", "one", "other"] 1 F_steps_by) : Kn P w K mg base "way_by" s_way_by ["track", "one", "other"] 3 F_way_by := by
  refine kn_of (N := ["track", "one", "other"]) (k := 2) (B := B_way_by) S sc_way_by rfl rfl (fun _ _ _ _ _ _ us hl => match us, hl with | [_, _, _], _ => rfl) fun f cdv A outer s' H E hr => ?_
  have nd := sc_way_by.nd
  have tk : Takes (cxOf (L2.CX P w) P w K mg base ["track", "one", "other"] "way_by" (defScope s_way_by) f cdv A outer s' H E) (Wd E) := takes_of rfl rfl rfl rfl
  exact s_one (s_ret (g_calln c_reach_by (hr.mono (by decide)) (by rfl) tk (g_cons (g_var 0 (pv 0)) (g_cons (g_var 1 (pv 1)) (g_cons (g_calln c_steps_by (hr.mono (by decide)) (by rfl) tk (g_cons (g_var 0 (pv 0)) (g_cons (g_var 1 (pv 1)) (g_cons (g_var 2 (pv 2)) (g_nil) rfl) rfl) rfl) (by decide) rfl rfl) (g_nil) rfl) rfl) rfl) (by decide) rfl rfl))
theorem ok_can_follow_by (T : Bt mg) (XX : Xt K mg) (S : Std K mg "can_follow_by" "can_follow_by" s_can_follow_by) (c_way_by : Kn P w K mg base "way_by" s_way_by ["track", "one", "other"] 3 F_way_by) : Kn P w K mg base "can_follow_by" s_can_follow_by ["track", "mark", "other"] 4 F_can_follow_by := by
  refine kn_of (N := ["track", "mark", "other"]) (k := 3) (B := B_can_follow_by) S sc_can_follow_by rfl rfl (fun _ _ _ _ _ _ us hl => match us, hl with | [_, _, _], _ => rfl) fun f cdv A outer s' H E hr => ?_
  have nd := sc_can_follow_by.nd
  have tk : Takes (cxOf (L2.CX P w) P w K mg base ["track", "mark", "other"] "can_follow_by" (defScope s_can_follow_by) f cdv A outer s' H E) (Wd E) := takes_of rfl rfl rfl rfl
  exact s_one (s_ret (g_cmp op_ge (v_cmpI _) (g_op op_sub v_sub (g_ix (g_var 1 (pv 1)) (g_int) (fun _ _ => rfl)) (g_ix (g_var 2 (pv 2)) (g_int) (fun _ _ => rfl))) (g_calln c_way_by (hr.mono (by decide)) (by rfl) tk (g_cons (g_var 0 (pv 0)) (g_cons (g_ix (g_var 2 (pv 2)) (g_int) (fun _ _ => rfl)) (g_cons (g_ix (g_var 1 (pv 1)) (g_int) (fun _ _ => rfl)) (g_nil) rfl) rfl) rfl) (by decide) rfl rfl) (nomark _)))
theorem ok_wrong_marks_by (T : Bt mg) (XX : Xt K mg) (S : Std K mg "wrong_marks_by" "wrong_marks_by" s_wrong_marks_by) (c_can_follow_by : Kn P w K mg base "can_follow_by" s_can_follow_by ["track", "mark", "other"] 4 F_can_follow_by) : Kn P w K mg base "wrong_marks_by" s_wrong_marks_by ["track", "bag"] 5 F_wrong_marks_by := by
  refine kn_of (N := ["track", "bag", "at"]) (k := 4) (B := B_wrong_marks_by) S sc_wrong_marks_by rfl rfl (fun _ _ _ _ _ _ us hl => match us, hl with | [_, _], _ => rfl) fun f cdv A outer s' H E hr => ?_
  have nd := sc_wrong_marks_by.nd
  have tk : Takes (cxOf (L2.CX P w) P w K mg base ["track", "bag", "at"] "wrong_marks_by" (defScope s_wrong_marks_by) f cdv A outer s' H E) (Wd E) := takes_of rfl rfl rfl rfl
  exact s_one (s_ret (g_lc (by decide) (pe_lc (own := [("at", 2)]) rfl nd (g_range2 (pi_range2 (by rfl) T.range (g_cons (g_int) (g_cons (g_blt (pe_callB c_len (by rfl) T.len bt_len (g_cons (g_var 1 (pv 1)) (g_nil) rfl)) v_len) (g_nil) rfl) rfl))) (blkOk_by (N := ["track", "bag", "at"]) (sc := defScope s_wrong_marks_by) (by decide +kernel)) (fun _ _ _ _ _ => pg_name (i := 2) nd rfl (by first | exact .inl rfl | exact .inr rfl)) (fun _ _ _ _ _ => g_ifs (g_tnot (g_tval (g_calln c_can_follow_by (hr.mono (by decide)) (by rfl) takes0 (g_cons (g_var 0 (pv 0)) (g_cons (g_ix (g_var 1 (pv 1)) (g_var 2 (pv 2)) (fun _ _ => rfl)) (g_cons (g_ix (g_var 1 (pv 1)) (g_op op_sub v_sub (g_var 2 (pv 2)) (g_int)) (fun _ _ => rfl)) (g_nil) rfl) rfl) rfl) (by decide) rfl rfl) (by intro _; rfl)))) (fun _ _ _ _ _ => g_var 2 (pv 2)))))
theorem ok_is_row_by (T : Bt mg) (XX : Xt K mg) (S : Std K mg "is_row_by" "is_row_by" s_is_row_by) (c_wrong_marks_by : Kn P w K mg base "wrong_marks_by" s_wrong_marks_by ["track", "bag"] 5 F_wrong_marks_by) : Kn P w K mg base "is_row_by" s_is_row_by ["track", "bag"] 6 F_is_row_by := by
  refine kn_of (N := ["track", "bag"]) (k := 5) (B := B_is_row_by) S sc_is_row_by rfl rfl (fun _ _ _ _ _ _ us hl => match us, hl with | [_, _], _ => rfl) fun f cdv A outer s' H E hr => ?_
  have nd := sc_is_row_by.nd
  have tk : Takes (cxOf (L2.CX P w) P w K mg base ["track", "bag"] "is_row_by" (defScope s_is_row_by) f cdv A outer s' H E) (Wd E) := takes_of rfl rfl rfl rfl
  exact s_one (s_ret (g_cmp (o_eq hr.units) v_eq (g_calln c_wrong_marks_by (hr.mono (by decide)) (by rfl) tk (g_cons (g_var 0 (pv 0)) (g_cons (g_var 1 (pv 1)) (g_nil) rfl) rfl) (by decide) rfl rfl) (g_lst (g_nil)) (nomark _)))
theorem ok_is_whole (T : Bt mg) (XX : Xt K mg) (S : Std K mg "is_whole" "is_whole" s_is_whole) : Kn P w K mg base "is_whole" s_is_whole ["value"] 1 F_is_whole := by
  refine kn_of (N := ["value"]) (k := 0) (B := B_is_whole) S sc_is_whole rfl rfl (fun _ _ _ _ _ _ us hl => match us, hl with | [_], _ => rfl) fun f cdv A outer s' H E hr => ?_
  have nd := sc_is_whole.nd
  have tk : Takes (cxOf (L2.CX P w) P w K mg base ["value"] "is_whole" (defScope s_is_whole) f cdv A outer s' H E) (Wd E) := takes_of rfl rfl rfl rfl
  exact s_one (s_ret (g_vand (g_isi .int (g_var 0 (pv 0)) (fun h => pe_callB call_isi (by rfl) T.isinstance bt_isinstance (pa_cons h (pa_cons (pe_bltn (by rfl) T.int bt_int rfl) pa_nil)))) (g_one (g_vnot (g_isi .bl (g_var 0 (pv 0)) (fun h => pe_callB call_isi (by rfl) T.isinstance bt_isinstance (pa_cons h (pa_cons (pe_bltn (by rfl) T.bool bt_bool rfl) pa_nil))))))))
theorem ok_is_between (T : Bt mg) (XX : Xt K mg) (S : Std K mg "is_between" "is_between" s_is_between) (c_is_whole : Kn P w K mg base "is_whole" s_is_whole ["value"] 1 F_is_whole) : Kn P w K mg base "is_between" s_is_between ["value", "low", "high"] 2 F_is_between := by
  refine kn_of (N := ["value", "low", "high"]) (k := 1) (B := B_is_between) S sc_is_between rfl rfl (fun _ _ _ _ _ _ us hl => match us, hl with | [_, _, _], _ => rfl) fun f cdv A outer s' H E hr => ?_
  have nd := sc_is_between.nd
  have tk : Takes (cxOf (L2.CX P w) P w K mg base ["value", "low", "high"] "is_between" (defScope s_is_between) f cdv A outer s' H E) (Wd E) := takes_of rfl rfl rfl rfl
  exact s_one (s_ret (g_vand (g_calln c_is_whole (hr.mono (by decide)) (by rfl) tk (g_cons (g_var 0 (pv 0)) (g_nil) rfl) (by decide) rfl rfl) (g_one (g_chain (pe_chain (o_le hr.units0) (o_le hr.units0) (g_var 1 (pv 1)) (g_var 0 (pv 0)) (g_var 2 (pv 2))) v_le v_le))))
theorem ok_is_up_to (T : Bt mg) (XX : Xt K mg) (S : Std K mg "is_up_to" "is_up_to" s_is_up_to) (c_is_between : Kn P w K mg base "is_between" s_is_between ["value", "low", "high"] 2 F_is_between) : Kn P w K mg base "is_up_to" s_is_up_to ["value", "most"] 3 F_is_up_to := by
  refine kn_of (N := ["value", "most"]) (k := 2) (B := B_is_up_to) S sc_is_up_to rfl rfl (fun _ _ _ _ _ _ us hl => match us, hl with | [_, _], _ => rfl) fun f cdv A outer s' H E hr => ?_
  have nd := sc_is_up_to.nd
  have tk : Takes (cxOf (L2.CX P w) P w K mg base ["value", "most"] "is_up_to" (defScope s_is_up_to) f cdv A outer s' H E) (Wd E) := takes_of rfl rfl rfl rfl
  exact s_one (s_ret (g_calln c_is_between (hr.mono (by decide)) (by rfl) tk (g_cons (g_var 0 (pv 0)) (g_cons (g_int) (g_cons (g_var 1 (pv 1)) (g_nil) rfl) rfl) rfl) (by decide) rfl rfl))
theorem ok_is_from (T : Bt mg) (XX : Xt K mg) (S : Std K mg "is_from" "is_from" s_is_from) (c_is_whole : Kn P w K mg base "is_whole" s_is_whole ["value"] 1 F_is_whole) : Kn P w K mg base "is_from" s_is_from ["value", "least"] 2 F_is_from := by
  refine kn_of (N := ["value", "least"]) (k := 1) (B := B_is_from) S sc_is_from rfl rfl (fun _ _ _ _ _ _ us hl => match us, hl with | [_, _], _ => rfl) fun f cdv A outer s' H E hr => ?_
  have nd := sc_is_from.nd
  have tk : Takes (cxOf (L2.CX P w) P w K mg base ["value", "least"] "is_from" (defScope s_is_from) f cdv A outer s' H E) (Wd E) := takes_of rfl rfl rfl rfl
  exact s_one (s_ret (g_vand (g_calln c_is_whole (hr.mono (by decide)) (by rfl) tk (g_cons (g_var 0 (pv 0)) (g_nil) rfl) (by decide) rfl rfl) (g_one (g_cmp op_ge (v_cmpI _) (g_var 0 (pv 0)) (g_var 1 (pv 1)) (nomark _)))))
theorem ok_is_tuple_up_to (T : Bt mg) (XX : Xt K mg) (S : Std K mg "is_tuple_up_to" "is_tuple_up_to" s_is_tuple_up_to) : Kn P w K mg base "is_tuple_up_to" s_is_tuple_up_to ["value", "low", "high"] 1 F_is_tuple_up_to := by
  refine kn_of (N := ["value", "low", "high"]) (k := 0) (B := B_is_tuple_up_to) S sc_is_tuple_up_to rfl rfl (fun _ _ _ _ _ _ us hl => match us, hl with | [_, _, _], _ => rfl) fun f cdv A outer s' H E hr => ?_
  have nd := sc_is_tuple_up_to.nd
  have tk : Takes (cxOf (L2.CX P w) P w K mg base ["value", "low", "high"] "is_tuple_up_to" (defScope s_is_tuple_up_to) f cdv A outer s' H E) (Wd E) := takes_of rfl rfl rfl rfl
  exact s_one (s_ret (g_vand (g_isi .tup (g_var 0 (pv 0)) (fun h => pe_callB call_isi (by rfl) T.isinstance bt_isinstance (pa_cons h (pa_cons (pe_bltn (by rfl) T.tuple bt_tuple rfl) pa_nil)))) (g_one (g_chain (pe_chain (o_le hr.units0) (o_le hr.units0) (g_var 1 (pv 1)) (g_blt (pe_callB c_len (by rfl) T.len bt_len (g_cons (g_var 0 (pv 0)) (g_nil) rfl)) v_len) (g_var 2 (pv 2))) v_le v_le))))
theorem ok_is_tuple_of (T : Bt mg) (XX : Xt K mg) (S : Std K mg "is_tuple_of" "is_tuple_of" s_is_tuple_of) (c_is_tuple_up_to : Kn P w K mg base "is_tuple_up_to" s_is_tuple_up_to ["value", "low", "high"] 1 F_is_tuple_up_to) : Kn P w K mg base "is_tuple_of" s_is_tuple_of ["value", "many"] 2 F_is_tuple_of := by
  refine kn_of (N := ["value", "many"]) (k := 1) (B := B_is_tuple_of) S sc_is_tuple_of rfl rfl (fun _ _ _ _ _ _ us hl => match us, hl with | [_, _], _ => rfl) fun f cdv A outer s' H E hr => ?_
  have nd := sc_is_tuple_of.nd
  have tk : Takes (cxOf (L2.CX P w) P w K mg base ["value", "many"] "is_tuple_of" (defScope s_is_tuple_of) f cdv A outer s' H E) (Wd E) := takes_of rfl rfl rfl rfl
  exact s_one (s_ret (g_calln c_is_tuple_up_to (hr.mono (by decide)) (by rfl) tk (g_cons (g_var 0 (pv 0)) (g_cons (g_var 1 (pv 1)) (g_cons (g_var 1 (pv 1)) (g_nil) rfl) rfl) rfl) (by decide) rfl rfl))
theorem ok_is_pair (T : Bt mg) (XX : Xt K mg) (S : Std K mg "is_pair" "is_pair" s_is_pair) (c_is_tuple_of : Kn P w K mg base "is_tuple_of" s_is_tuple_of ["value", "many"] 2 F_is_tuple_of) : Kn P w K mg base "is_pair" s_is_pair ["value"] 3 F_is_pair := by
  refine kn_of (N := ["value"]) (k := 2) (B := B_is_pair) S sc_is_pair rfl rfl (fun _ _ _ _ _ _ us hl => match us, hl with | [_], _ => rfl) fun f cdv A outer s' H E hr => ?_
  have nd := sc_is_pair.nd
  have tk : Takes (cxOf (L2.CX P w) P w K mg base ["value"] "is_pair" (defScope s_is_pair) f cdv A outer s' H E) (Wd E) := takes_of rfl rfl rfl rfl
  exact s_one (s_ret (g_calln c_is_tuple_of (hr.mono (by decide)) (by rfl) tk (g_cons (g_var 0 (pv 0)) (g_cons (g_int) (g_nil) rfl) rfl) (by decide) rfl rfl))
theorem ok_is_track_of (T : Bt mg) (XX : Xt K mg) (S : Std K mg "is_track_of" "is_track_of" s_is_track_of) (c_is_tuple_up_to : Kn P w K mg base "is_tuple_up_to" s_is_tuple_up_to ["value", "low", "high"] 1 F_is_tuple_up_to) (c_is_from : Kn P w K mg base "is_from" s_is_from ["value", "least"] 2 F_is_from) : Kn P w K mg base "is_track_of" s_is_track_of ["value"] 3 F_is_track_of := by
  refine kn_of (N := ["value", "each"]) (k := 2) (B := B_is_track_of) S sc_is_track_of rfl rfl (fun _ _ _ _ _ _ us hl => match us, hl with | [_], _ => rfl) fun f cdv A outer s' H E hr => ?_
  have nd := sc_is_track_of.nd
  have tk : Takes (cxOf (L2.CX P w) P w K mg base ["value", "each"] "is_track_of" (defScope s_is_track_of) f cdv A outer s' H E) (Wd E) := takes_of rfl rfl rfl rfl
  exact s_one (s_ret (g_vand (g_calln c_is_tuple_up_to (hr.mono (by decide)) (by rfl) tk (g_cons (g_var 0 (pv 0)) (g_cons (g_int) (g_cons (g_globI (by rfl) T.MOST_MATS (by decide)) (g_nil) rfl) rfl) rfl) (by decide) rfl rfl) (g_one (g_blt (pe_callB (cq_all rfl) (by rfl) T.all bt_all (g_cons (g_lc (by decide) (pe_lc (own := [("each", 1)]) rfl nd (g_iter (g_var 0 (pv 0))) (blkOk_by (N := ["value", "each"]) (sc := defScope s_is_track_of) (by decide +kernel)) (fun _ _ _ _ _ => pg_name (i := 1) nd rfl (by first | exact .inl rfl | exact .inr rfl)) (fun _ _ _ _ _ => g_yes) (fun _ _ _ _ _ => g_calln c_is_from (hr.mono (by decide)) (by rfl) takes0 (g_cons (g_var 1 (pv 1)) (g_cons (g_int) (g_nil) rfl) rfl) (by decide) rfl rfl))) (g_nil) rfl)) v_all))))
theorem ok_is_mat_of (T : Bt mg) (XX : Xt K mg) (S : Std K mg "is_mat_of" "is_mat_of" s_is_mat_of) (c_is_up_to : Kn P w K mg base "is_up_to" s_is_up_to ["value", "most"] 3 F_is_up_to) : Kn P w K mg base "is_mat_of" s_is_mat_of ["track", "value"] 4 F_is_mat_of := by
  refine kn_of (N := ["track", "value"]) (k := 3) (B := B_is_mat_of) S sc_is_mat_of rfl rfl (fun _ _ _ _ _ _ us hl => match us, hl with | [_, _], _ => rfl) fun f cdv A outer s' H E hr => ?_
  have nd := sc_is_mat_of.nd
  have tk : Takes (cxOf (L2.CX P w) P w K mg base ["track", "value"] "is_mat_of" (defScope s_is_mat_of) f cdv A outer s' H E) (Wd E) := takes_of rfl rfl rfl rfl
  exact s_one (s_ret (g_calln c_is_up_to (hr.mono (by decide)) (by rfl) tk (g_cons (g_var 1 (pv 1)) (g_cons (g_op op_sub v_sub (g_blt (pe_callB c_len (by rfl) T.len bt_len (g_cons (g_var 0 (pv 0)) (g_nil) rfl)) v_len) (g_int)) (g_nil) rfl) rfl) (by decide) rfl rfl))
theorem ok_is_mark_of (T : Bt mg) (XX : Xt K mg) (S : Std K mg "is_mark_of" "is_mark_of" s_is_mark_of) (c_is_pair : Kn P w K mg base "is_pair" s_is_pair ["value"] 3 F_is_pair) (c_is_from : Kn P w K mg base "is_from" s_is_from ["value", "least"] 2 F_is_from) (c_is_mat_of : Kn P w K mg base "is_mat_of" s_is_mat_of ["track", "value"] 4 F_is_mat_of) : Kn P w K mg base "is_mark_of" s_is_mark_of ["track", "value"] 5 F_is_mark_of := by
  refine kn_of (N := ["track", "value"]) (k := 4) (B := B_is_mark_of) S sc_is_mark_of rfl rfl (fun _ _ _ _ _ _ us hl => match us, hl with | [_, _], _ => rfl) fun f cdv A outer s' H E hr => ?_
  have nd := sc_is_mark_of.nd
  have tk : Takes (cxOf (L2.CX P w) P w K mg base ["track", "value"] "is_mark_of" (defScope s_is_mark_of) f cdv A outer s' H E) (Wd E) := takes_of rfl rfl rfl rfl
  exact s_one (s_ret (g_vand (g_calln c_is_pair (hr.mono (by decide)) (by rfl) tk (g_cons (g_var 1 (pv 1)) (g_nil) rfl) (by decide) rfl rfl) (g_vand (g_calln c_is_from (hr.mono (by decide)) (by rfl) tk (g_cons (g_ix (g_var 1 (pv 1)) (g_int) (fun _ _ => rfl)) (g_cons (g_int) (g_nil) rfl) rfl) (by decide) rfl rfl) (g_one (g_calln c_is_mat_of (hr.mono (by decide)) (by rfl) tk (g_cons (g_var 0 (pv 0)) (g_cons (g_ix (g_var 1 (pv 1)) (g_int) (fun _ _ => rfl)) (g_nil) rfl) rfl) (by decide) rfl rfl)))))
theorem ok_wrong_in_bag (T : Bt mg) (XX : Xt K mg) (S : Std K mg "wrong_in_bag" "wrong_in_bag" s_wrong_in_bag) (c_is_tuple_up_to : Kn P w K mg base "is_tuple_up_to" s_is_tuple_up_to ["value", "low", "high"] 1 F_is_tuple_up_to) (c_is_mark_of : Kn P w K mg base "is_mark_of" s_is_mark_of ["track", "value"] 5 F_is_mark_of) : Kn P w K mg base "wrong_in_bag" s_wrong_in_bag ["track", "value"] 6 F_wrong_in_bag := by
  refine kn_of (N := ["track", "value", "index", "mark"]) (k := 5) (B := B_wrong_in_bag) S sc_wrong_in_bag rfl rfl (fun _ _ _ _ _ _ us hl => match us, hl with | [_, _], _ => rfl) fun f cdv A outer s' H E hr => ?_
  have nd := sc_wrong_in_bag.nd
  have tk : Takes (cxOf (L2.CX P w) P w K mg base ["track", "value", "index", "mark"] "wrong_in_bag" (defScope s_wrong_in_bag) f cdv A outer s' H E) (Wd E) := takes_of rfl rfl rfl rfl
  exact s_cons (s_if (g_tnot (g_tval (g_calln c_is_tuple_up_to (hr.mono (by decide)) (by rfl) tk (g_cons (g_var 1 (pv 1)) (g_cons (g_int) (g_cons (g_globI (by rfl) T.MOST_MARKS (by decide)) (g_nil) rfl) rfl) rfl) (by decide) rfl rfl) (by intro _; rfl))) (s_one (s_ret (g_lst (g_cons (g_non) (g_nil) rfl)))) (s_nil)) (s_cons (s_for (ps_for (passes_of rfl) rfl (g_enum (pi_enumB (by rfl) T.enumerate (g_cons (g_var 1 (pv 1)) (g_nil) rfl))) (t_tg (t := .tp [.nm 2, .nm 3]) (pg_tl rfl (pgs_cons (pg_name (i := 2) nd rfl (by first | exact .inl rfl | exact .inr rfl)) (pgs_cons (pg_name (i := 3) nd rfl (by first | exact .inl rfl | exact .inr rfl)) (pgs_nil))))) (s_one (s_if ((g_or (g_tnot (g_tval (g_calln c_is_mark_of (hr.mono (by decide)) (by rfl) tk (g_cons (g_var 0 (pv 0)) (g_cons (g_var 3 (pv 3)) (g_nil) rfl) rfl) (by decide) rfl rfl) (by intro _; rfl))) (g_or1 ((g_and (g_tcmp op_gt (v_cmpI _) (g_var 2 (pv 2)) (g_int) (nomark _)) (g_and1 (g_tcmp (o_le hr.units0) v_le (g_var 3 (pv 3)) (g_ix (g_var 1 (pv 1)) (g_op op_sub v_sub (g_var 2 (pv 2)) (g_int)) (fun _ _ => rfl)) (nomark _)))).pt))).pt) (s_one (s_ret (g_lst (g_cons (g_var 2 (pv 2)) (g_nil) rfl)))) (s_nil))))) (s_one (s_ret (g_lst (g_nil)))))
theorem ok_is_bag_of (T : Bt mg) (XX : Xt K mg) (S : Std K mg "is_bag_of" "is_bag_of" s_is_bag_of) (c_wrong_in_bag : Kn P w K mg base "wrong_in_bag" s_wrong_in_bag ["track", "value"] 6 F_wrong_in_bag) : Kn P w K mg base "is_bag_of" s_is_bag_of ["track", "value"] 7 F_is_bag_of := by
  refine kn_of (N := ["track", "value"]) (k := 6) (B := B_is_bag_of) S sc_is_bag_of rfl rfl (fun _ _ _ _ _ _ us hl => match us, hl with | [_, _], _ => rfl) fun f cdv A outer s' H E hr => ?_
  have nd := sc_is_bag_of.nd
  have tk : Takes (cxOf (L2.CX P w) P w K mg base ["track", "value"] "is_bag_of" (defScope s_is_bag_of) f cdv A outer s' H E) (Wd E) := takes_of rfl rfl rfl rfl
  exact s_one (s_ret (g_cmp (o_eq hr.units) v_eq (g_calln c_wrong_in_bag (hr.mono (by decide)) (by rfl) tk (g_cons (g_var 0 (pv 0)) (g_cons (g_var 1 (pv 1)) (g_nil) rfl) rfl) (by decide) rfl rfl) (g_lst (g_nil)) (nomark _)))
theorem ok_is_full_row (T : Bt mg) (XX : Xt K mg) (S : Std K mg "is_full_row" "is_full_row" s_is_full_row) (c_is_bag_of : Kn P w K mg base "is_bag_of" s_is_bag_of ["track", "value"] 7 F_is_bag_of) (c_is_row_by : Kn P w K mg base "is_row_by" s_is_row_by ["track", "bag"] 6 F_is_row_by) : Kn P w K mg base "is_full_row" s_is_full_row ["track", "start", "value"] 8 F_is_full_row := by
  refine kn_of (N := ["track", "start", "value"]) (k := 7) (B := B_is_full_row) S sc_is_full_row rfl rfl (fun _ _ _ _ _ _ us hl => match us, hl with | [_, _, _], _ => rfl) fun f cdv A outer s' H E hr => ?_
  have nd := sc_is_full_row.nd
  have tk : Takes (cxOf (L2.CX P w) P w K mg base ["track", "start", "value"] "is_full_row" (defScope s_is_full_row) f cdv A outer s' H E) (Wd E) := takes_of rfl rfl rfl rfl
  exact s_one (s_ret (g_vand (g_calln c_is_bag_of (hr.mono (by decide)) (by rfl) tk (g_cons (g_var 0 (pv 0)) (g_cons (g_var 2 (pv 2)) (g_nil) rfl) rfl) (by decide) rfl rfl) (g_one (g_calln c_is_row_by (hr.mono (by decide)) (by rfl) tk (g_cons (g_var 0 (pv 0)) (g_cons (g_tup (g_cons (g_tup (g_cons (g_var 1 (pv 1)) (g_cons (g_int) (g_nil) rfl) rfl)) (g_star (g_var 2 (pv 2)) (g_nil) rfl) rfl)) (g_nil) rfl) rfl) (by decide) rfl rfl))))
theorem ok_is_race_of (T : Bt mg) (XX : Xt K mg) (S : Std K mg "is_race_of" "is_race_of" s_is_race_of) (c_is_pair : Kn P w K mg base "is_pair" s_is_pair ["value"] 3 F_is_pair) (c_is_from : Kn P w K mg base "is_from" s_is_from ["value", "least"] 2 F_is_from) (c_is_tuple_up_to : Kn P w K mg base "is_tuple_up_to" s_is_tuple_up_to ["value", "low", "high"] 1 F_is_tuple_up_to) (c_is_full_row : Kn P w K mg base "is_full_row" s_is_full_row ["track", "start", "value"] 8 F_is_full_row) : Kn P w K mg base "is_race_of" s_is_race_of ["track", "value"] 9 F_is_race_of := by
  refine kn_of (N := ["track", "value", "row"]) (k := 8) (B := B_is_race_of) S sc_is_race_of rfl rfl (fun _ _ _ _ _ _ us hl => match us, hl with | [_, _], _ => rfl) fun f cdv A outer s' H E hr => ?_
  have nd := sc_is_race_of.nd
  have tk : Takes (cxOf (L2.CX P w) P w K mg base ["track", "value", "row"] "is_race_of" (defScope s_is_race_of) f cdv A outer s' H E) (Wd E) := takes_of rfl rfl rfl rfl
  exact s_cons (s_if ((g_or (g_tnot (g_tval (g_calln c_is_pair (hr.mono (by decide)) (by rfl) tk (g_cons (g_var 1 (pv 1)) (g_nil) rfl) (by decide) rfl rfl) (by intro _; rfl))) (g_or (g_tnot (g_tval (g_calln c_is_from (hr.mono (by decide)) (by rfl) tk (g_cons (g_ix (g_var 1 (pv 1)) (g_int) (fun _ _ => rfl)) (g_cons (g_int) (g_nil) rfl) rfl) (by decide) rfl rfl) (by intro _; rfl))) (g_or1 (g_tnot (g_tval (g_calln c_is_tuple_up_to (hr.mono (by decide)) (by rfl) tk (g_cons (g_ix (g_var 1 (pv 1)) (g_int) (fun _ _ => rfl)) (g_cons (g_int) (g_cons (g_globI (by rfl) T.MOST_RUNNERS (by decide)) (g_nil) rfl) rfl) rfl) (by decide) rfl rfl) (by intro _; rfl)))))).pt) (s_one (s_ret (g_bl))) (s_nil)) (s_one (s_ret (g_blt (pe_callB (cq_all rfl) (by rfl) T.all bt_all (g_cons (g_lc (by decide) (pe_lc (own := [("row", 2)]) rfl nd (g_iter (g_ix (g_var 1 (pv 1)) (g_int) (fun _ _ => rfl))) (blkOk_by (N := ["track", "value", "row"]) (sc := defScope s_is_race_of) (by decide +kernel)) (fun _ _ _ _ _ => pg_name (i := 2) nd rfl (by first | exact .inl rfl | exact .inr rfl)) (fun _ _ _ _ _ => g_yes) (fun _ _ _ _ _ => g_calln c_is_full_row (hr.mono (by decide)) (by rfl) takes0 (g_cons (g_var 0 (pv 0)) (g_cons (g_ix (g_var 1 (pv 1)) (g_int) (fun _ _ => rfl)) (g_cons (g_var 2 (pv 2)) (g_nil) rfl) rfl) rfl) (by decide) rfl rfl))) (g_nil) rfl)) v_all)))
theorem ok_check_track (T : Bt mg) (XX : Xt K mg) (S : Std K mg "check_track" "check_track" s_check_track) (c_is_track_of : Kn P w K mg base "is_track_of" s_is_track_of ["value"] 3 F_is_track_of) : Kn P w K mg base "check_track" s_check_track ["track"] 4 F_check_track := by
  refine kn_of (N := ["track"]) (k := 3) (B := B_check_track) S sc_check_track rfl rfl (fun _ _ _ _ _ _ us hl => match us, hl with | [_], _ => rfl) fun f cdv A outer s' H E hr => ?_
  have nd := sc_check_track.nd
  have tk : Takes (cxOf (L2.CX P w) P w K mg base ["track"] "check_track" (defScope s_check_track) f cdv A outer s' H E) (Wd E) := takes_of rfl rfl rfl rfl
  exact s_one (s_if (g_tnot (g_tval (g_calln c_is_track_of (hr.mono (by decide)) (by rfl) tk (g_cons (g_var 0 (pv 0)) (g_nil) rfl) (by decide) rfl rfl) (by intro _; rfl))) (s_one (s_raise rfl XX.r_InvalidTrack hr tk (g_var 0 (pv 0)) (by rfl) (by decide) rfl rfl)) (s_nil))
theorem ok_check_mat (T : Bt mg) (XX : Xt K mg) (S : Std K mg "check_mat" "check_mat" s_check_mat) (c_is_mat_of : Kn P w K mg base "is_mat_of" s_is_mat_of ["track", "value"] 4 F_is_mat_of) : Kn P w K mg base "check_mat" s_check_mat ["track", "mat"] 5 F_check_mat := by
  refine kn_of (N := ["track", "mat"]) (k := 4) (B := B_check_mat) S sc_check_mat rfl rfl (fun _ _ _ _ _ _ us hl => match us, hl with | [_, _], _ => rfl) fun f cdv A outer s' H E hr => ?_
  have nd := sc_check_mat.nd
  have tk : Takes (cxOf (L2.CX P w) P w K mg base ["track", "mat"] "check_mat" (defScope s_check_mat) f cdv A outer s' H E) (Wd E) := takes_of rfl rfl rfl rfl
  exact s_one (s_if (g_tnot (g_tval (g_calln c_is_mat_of (hr.mono (by decide)) (by rfl) tk (g_cons (g_var 0 (pv 0)) (g_cons (g_var 1 (pv 1)) (g_nil) rfl) rfl) (by decide) rfl rfl) (by intro _; rfl))) (s_one (s_raise rfl XX.r_InvalidMat hr tk (g_var 1 (pv 1)) (by rfl) (by decide) rfl rfl)) (s_nil))
theorem ok_check_race (T : Bt mg) (XX : Xt K mg) (S : Std K mg "check_race" "check_race" s_check_race) (c_is_race_of : Kn P w K mg base "is_race_of" s_is_race_of ["track", "value"] 9 F_is_race_of) : Kn P w K mg base "check_race" s_check_race ["track", "race"] 10 F_check_race := by
  refine kn_of (N := ["track", "race"]) (k := 9) (B := B_check_race) S sc_check_race rfl rfl (fun _ _ _ _ _ _ us hl => match us, hl with | [_, _], _ => rfl) fun f cdv A outer s' H E hr => ?_
  have nd := sc_check_race.nd
  have tk : Takes (cxOf (L2.CX P w) P w K mg base ["track", "race"] "check_race" (defScope s_check_race) f cdv A outer s' H E) (Wd E) := takes_of rfl rfl rfl rfl
  exact s_one (s_if (g_tnot (g_tval (g_calln c_is_race_of (hr.mono (by decide)) (by rfl) tk (g_cons (g_var 0 (pv 0)) (g_cons (g_var 1 (pv 1)) (g_nil) rfl) rfl) (by decide) rfl rfl) (by intro _; rfl))) (s_one (s_raise rfl XX.r_InvalidRace hr tk (g_var 1 (pv 1)) (by rfl) (by decide) rfl rfl)) (s_nil))
theorem ok_mats_between (T : Bt mg) (XX : Xt K mg) (S : Std K mg "mats_between" "mats_between" s_mats_between) (c_steps_by : Kn P w K mg base "steps_by" s_steps_by ["track", "one", "other"] 1 F_steps_by) : Kn P w K mg base "mats_between" s_mats_between ["track", "one", "other"] 2 F_mats_between := by
  refine kn_of (N := ["track", "one", "other", "step"]) (k := 1) (B := B_mats_between) S sc_mats_between rfl rfl (fun _ _ _ _ _ _ us hl => match us, hl with | [_, _, _], _ => rfl) fun f cdv A outer s' H E hr => ?_
  have nd := sc_mats_between.nd
  have tk : Takes (cxOf (L2.CX P w) P w K mg base ["track", "one", "other", "step"] "mats_between" (defScope s_mats_between) f cdv A outer s' H E) (Wd E) := takes_of rfl rfl rfl rfl
  exact s_one (s_ret (g_lc (by decide) (pe_lc (own := [("step", 3)]) rfl nd (g_range2 (pi_range2 (by rfl) T.range (g_cons (g_int) (g_cons (g_calln c_steps_by (hr.mono (by decide)) (by rfl) tk (g_cons (g_var 0 (pv 0)) (g_cons (g_var 1 (pv 1)) (g_cons (g_var 2 (pv 2)) (g_nil) rfl) rfl) rfl) (by decide) rfl rfl) (g_nil) rfl) rfl))) (blkOk_by (N := ["track", "one", "other", "step"]) (sc := defScope s_mats_between) (by decide +kernel)) (fun _ _ _ _ _ => pg_name (i := 3) nd rfl (by first | exact .inl rfl | exact .inr rfl)) (fun _ _ _ _ _ => g_yes) (fun _ _ _ _ _ => g_op op_mod v_mod (g_op o_add v_add (g_var 1 (pv 1)) (g_var 3 (pv 3))) (g_blt (pe_callB c_len (by rfl) T.len bt_len (g_cons (g_var 0 (pv 0)) (g_nil) rfl)) v_len)))))
theorem ok_missed_by (T : Bt mg) (XX : Xt K mg) (S : Std K mg "missed_by" "missed_by" s_missed_by) (c_mats_between : Kn P w K mg base "mats_between" s_mats_between ["track", "one", "other"] 2 F_mats_between) : Kn P w K mg base "missed_by" s_missed_by ["track", "row", "extras"] 3 F_missed_by := by
  refine kn_of (N := ["track", "row", "extras", "found", "one", "two", "mat"]) (k := 2) (B := B_missed_by) S sc_missed_by rfl rfl (fun _ _ _ _ _ _ us hl => match us, hl with | [_, _, _], _ => rfl) fun f cdv A outer s' H E hr => ?_
  have nd := sc_missed_by.nd
  have tk : Takes (cxOf (L2.CX P w) P w K mg base ["track", "row", "extras", "found", "one", "two", "mat"] "missed_by" (defScope s_missed_by) f cdv A outer s' H E) (Wd E) := takes_of rfl rfl rfl rfl
  exact s_cons (s_set (ps_set (i := 3) nd rfl (.inl rfl) (g_op o_mul v_repM (g_lst (g_cons (g_blt (pe_callB (cq_sum rfl) (by rfl) T.sum bt_sum (g_cons (g_blt (pe_callTy call_list_of (by rfl) T.list bt_list (g_cons (g_var 2 (pv 2)) (g_nil) rfl)) v_list) (g_nil) rfl)) v_sum) (g_nil) rfl)) (g_blt (pe_callB c_len (by rfl) T.len bt_len (g_cons (g_var 0 (pv 0)) (g_nil) rfl)) v_len)))) (s_cons (s_for (ps_for (passes_of rfl) rfl (g_zip (RZ.pi_zipA (by rfl) T.zip (g_cons (g_var 1 (pv 1)) (g_cons (g_slice (g_var 1 (pv 1)) (g_some (g_int)) (g_no)) (g_nil) rfl) rfl))) (t_tg (t := .tp [.nm 4, .nm 5]) (pg_tl rfl (pgs_cons (pg_name (i := 4) nd rfl (by first | exact .inl rfl | exact .inr rfl)) (pgs_cons (pg_name (i := 5) nd rfl (by first | exact .inl rfl | exact .inr rfl)) (pgs_nil))))) (s_one (s_for (ps_for (passes_of rfl) rfl (g_iter (g_calln c_mats_between (hr.mono (by decide)) (by rfl) tk (g_cons (g_var 0 (pv 0)) (g_cons (g_ix (g_var 4 (pv 4)) (g_int) (fun _ _ => rfl)) (g_cons (g_ix (g_var 5 (pv 5)) (g_int) (fun _ _ => rfl)) (g_nil) rfl) rfl) rfl) (by decide) rfl rfl)) (t_tg (t := .nm 6) (pg_name (i := 6) nd rfl (by first | exact .inl rfl | exact .inr rfl))) (s_one (s_asg (ps_asg (g_op o_add v_add (g_ix (g_var 3 (pv 3)) (g_var 6 (pv 6)) (fun _ _ => rfl)) (g_int)) (t_sub (g_var 3 (pv 3)) (g_var 6 (pv 6)) (pg_sub (g_var 3 (pv 3)) (g_var 6 (pv 6)) set_list)))))))))) (s_one (s_ret (g_var 3 (pv 3)))))
theorem ok_full_row_by (T : Bt mg) (XX : Xt K mg) (S : Std K mg "full_row_by" "full_row_by" s_full_row_by) : Kn P w K mg base "full_row_by" s_full_row_by ["race", "runner"] 1 F_full_row_by := by
  refine kn_of (N := ["race", "runner"]) (k := 0) (B := B_full_row_by) S sc_full_row_by rfl rfl (fun _ _ _ _ _ _ us hl => match us, hl with | [_, _], _ => rfl) fun f cdv A outer s' H E hr => ?_
  have nd := sc_full_row_by.nd
  have tk : Takes (cxOf (L2.CX P w) P w K mg base ["race", "runner"] "full_row_by" (defScope s_full_row_by) f cdv A outer s' H E) (Wd E) := takes_of rfl rfl rfl rfl
  exact s_one (s_ret (g_tup (g_cons (g_tup (g_cons (g_ix (g_var 0 (pv 0)) (g_int) (fun _ _ => rfl)) (g_cons (g_int) (g_nil) rfl) rfl)) (g_star (g_ix (g_ix (g_var 0 (pv 0)) (g_int) (fun _ _ => rfl)) (g_var 1 (pv 1)) (fun _ _ => rfl)) (g_nil) rfl) rfl)))
theorem ok_full_rows_of (T : Bt mg) (XX : Xt K mg) (S : Std K mg "full_rows_of" "full_rows_of" s_full_rows_of) (c_full_row_by : Kn P w K mg base "full_row_by" s_full_row_by ["race", "runner"] 1 F_full_row_by) : Kn P w K mg base "full_rows_of" s_full_rows_of ["race"] 2 F_full_rows_of := by
  refine kn_of (N := ["race", "runner"]) (k := 1) (B := B_full_rows_of) S sc_full_rows_of rfl rfl (fun _ _ _ _ _ _ us hl => match us, hl with | [_], _ => rfl) fun f cdv A outer s' H E hr => ?_
  have nd := sc_full_rows_of.nd
  have tk : Takes (cxOf (L2.CX P w) P w K mg base ["race", "runner"] "full_rows_of" (defScope s_full_rows_of) f cdv A outer s' H E) (Wd E) := takes_of rfl rfl rfl rfl
  exact s_one (s_ret (g_lc (by decide) (pe_lc (own := [("runner", 1)]) rfl nd (g_range1 (pi_range1 (by rfl) T.range (g_cons (g_blt (pe_callB c_len (by rfl) T.len bt_len (g_cons (g_ix (g_var 0 (pv 0)) (g_int) (fun _ _ => rfl)) (g_nil) rfl)) v_len) (g_nil) rfl))) (blkOk_by (N := ["race", "runner"]) (sc := defScope s_full_rows_of) (by decide +kernel)) (fun _ _ _ _ _ => pg_name (i := 1) nd rfl (by first | exact .inl rfl | exact .inr rfl)) (fun _ _ _ _ _ => g_yes) (fun _ _ _ _ _ => g_calln c_full_row_by (hr.mono (by decide)) (by rfl) takes0 (g_cons (g_var 0 (pv 0)) (g_cons (g_var 1 (pv 1)) (g_nil) rfl) rfl) (by decide) rfl rfl))))
theorem ok_no_extras (T : Bt mg) (XX : Xt K mg) (S : Std K mg "no_extras" "no_extras" s_no_extras) : Kn P w K mg base "no_extras" s_no_extras ["row"] 1 F_no_extras := by
  refine kn_of (N := ["row"]) (k := 0) (B := B_no_extras) S sc_no_extras rfl rfl (fun _ _ _ _ _ _ us hl => match us, hl with | [_], _ => rfl) fun f cdv A outer s' H E hr => ?_
  have nd := sc_no_extras.nd
  have tk : Takes (cxOf (L2.CX P w) P w K mg base ["row"] "no_extras" (defScope s_no_extras) f cdv A outer s' H E) (Wd E) := takes_of rfl rfl rfl rfl
  exact s_one (s_ret (g_op o_mul v_mul (g_tup (g_cons (g_int) (g_nil) rfl)) (g_op op_sub v_sub (g_blt (pe_callB c_len (by rfl) T.len bt_len (g_cons (g_var 0 (pv 0)) (g_nil) rfl)) v_len) (g_int))))
theorem ok_least_misses_by (T : Bt mg) (XX : Xt K mg) (S : Std K mg "least_misses_by" "least_misses_by" s_least_misses_by) (c_full_rows_of : Kn P w K mg base "full_rows_of" s_full_rows_of ["race"] 2 F_full_rows_of) (c_missed_by : Kn P w K mg base "missed_by" s_missed_by ["track", "row", "extras"] 3 F_missed_by) (c_no_extras : Kn P w K mg base "no_extras" s_no_extras ["row"] 1 F_no_extras) : Kn P w K mg base "least_misses_by" s_least_misses_by ["track", "race"] 4 F_least_misses_by := by
  refine kn_of (N := ["track", "race", "rows", "row", "mat"]) (k := 3) (B := B_least_misses_by) S sc_least_misses_by rfl rfl (fun _ _ _ _ _ _ us hl => match us, hl with | [_, _], _ => rfl) fun f cdv A outer s' H E hr => ?_
  have nd := sc_least_misses_by.nd
  have tk : Takes (cxOf (L2.CX P w) P w K mg base ["track", "race", "rows", "row", "mat"] "least_misses_by" (defScope s_least_misses_by) f cdv A outer s' H E) (Wd E) := takes_of rfl rfl rfl rfl
  exact s_cons (s_set (ps_set (i := 2) nd rfl (.inr rfl) (g_lc (by decide) (pe_lc (own := [("row", 3)]) rfl nd (g_iter (g_calln c_full_rows_of (hr.mono (by decide)) (by rfl) tk (g_cons (g_var 1 (pv 1)) (g_nil) rfl) (by decide) rfl rfl)) (blkOk_by (N := ["track", "race", "rows", "row", "mat"]) (sc := defScope s_least_misses_by) (by decide +kernel)) (fun _ _ _ _ _ => pg_name (i := 3) nd rfl (by first | exact .inl rfl | exact .inr rfl)) (fun _ _ _ _ _ => g_yes) (fun _ _ _ _ _ => g_calln c_missed_by (hr.mono (by decide)) (by rfl) takes0 (g_cons (g_var 0 (pv 0)) (g_cons (g_var 3 (pv 3)) (g_cons (g_calln c_no_extras (hr.mono (by decide)) (by rfl) takes0 (g_cons (g_var 3 (pv 3)) (g_nil) rfl) (by decide) rfl rfl) (g_nil) rfl) rfl) rfl) (by decide) rfl rfl))))) (s_one (s_ret (g_blt (pe_callTy call_tuple_of (by rfl) T.tuple bt_tuple (g_cons (g_lc (by decide) (pe_lc (own := [("mat", 4)]) rfl nd (g_range1 (pi_range1 (by rfl) T.range (g_cons (g_blt (pe_callB c_len (by rfl) T.len bt_len (g_cons (g_var 0 (pv 0)) (g_nil) rfl)) v_len) (g_nil) rfl))) (blkOk_by (N := ["track", "race", "rows", "row", "mat"]) (sc := defScope s_least_misses_by) (by decide +kernel)) (fun _ _ _ _ _ => pg_name (i := 4) nd rfl (by first | exact .inl rfl | exact .inr rfl)) (fun _ _ _ _ _ => g_yes) (fun _ _ _ _ _ => g_blt (pe_callB (cq_sum rfl) (by rfl) T.sum bt_sum (g_cons (g_lc (by decide) (pe_lc (own := [("row", 3)]) rfl nd (g_iter (g_var 2 (pv 2))) (blkOk_by (N := ["track", "race", "rows", "row", "mat"]) (sc := relS _ (defScope s_least_misses_by)) (by decide +kernel)) (fun _ _ _ _ _ => pg_name (i := 3) nd rfl (by first | exact .inl rfl | exact .inr rfl)) (fun _ _ _ _ _ => g_yes) (fun _ _ _ _ _ => g_ix (g_var 3 (pv 3)) (g_var 4 (pv 4)) (fun _ _ => rfl)))) (g_nil) rfl)) v_sum))) (g_nil) rfl)) v_tuple)))
theorem ok_windows_in (T : Bt mg) (XX : Xt K mg) (S : Std K mg "windows_in" "windows_in" s_windows_in) (c_mats_between : Kn P w K mg base "mats_between" s_mats_between ["track", "one", "other"] 2 F_mats_between) (c_way_by : Kn P w K mg base "way_by" s_way_by ["track", "one", "other"] 3 F_way_by) : Kn P w K mg base "windows_in" s_windows_in ["track", "mat", "runner", "row"] 4 F_windows_in := by
  refine kn_of (N := ["track", "mat", "runner", "row", "found", "gap", "one", "two"]) (k := 3) (B := B_windows_in) S sc_windows_in rfl rfl (fun _ _ _ _ _ _ us hl => match us, hl with | [_, _, _, _], _ => rfl) fun f cdv A outer s' H E hr => ?_
  have nd := sc_windows_in.nd
  have tk : Takes (cxOf (L2.CX P w) P w K mg base ["track", "mat", "runner", "row", "found", "gap", "one", "two"] "windows_in" (defScope s_windows_in) f cdv A outer s' H E) (Wd E) := takes_of rfl rfl rfl rfl
  exact s_cons (s_set (ps_set (i := 4) nd rfl (.inl rfl) (g_mut (g_nil)))) (s_cons (s_for (ps_for (passes_of rfl) rfl (g_enumz (pi_enumZ (by rfl) T.enumerate (by rfl) T.zip (g_cons (g_var 3 (pv 3)) (g_cons (g_slice (g_var 3 (pv 3)) (g_some (g_int)) (g_no)) (g_nil) rfl) rfl))) (t_tg (t := .tp [.nm 5, .tp [.nm 6, .nm 7]]) (pg_tl rfl (pgs_cons (pg_name (i := 5) nd rfl (by first | exact .inl rfl | exact .inr rfl)) (pgs_cons (pg_tl rfl (pgs_cons (pg_name (i := 6) nd rfl (by first | exact .inl rfl | exact .inr rfl)) (pgs_cons (pg_name (i := 7) nd rfl (by first | exact .inl rfl | exact .inr rfl)) (pgs_nil)))) (pgs_nil))))) (s_one (s_if (g_tcmp (o_in (room65 hr)) v_in (g_var 1 (pv 1)) (g_calln c_mats_between (hr.mono (by decide)) (by rfl) tk (g_cons (g_var 0 (pv 0)) (g_cons (g_ix (g_var 6 (pv 6)) (g_int) (fun _ _ => rfl)) (g_cons (g_ix (g_var 7 (pv 7)) (g_int) (fun _ _ => rfl)) (g_nil) rfl) rfl) rfl) (by decide) rfl rfl) (by with_unfolding_all rfl)) (s_one (s_expr (g_methL (pe_bm PySem.F.plainAttrs_list PySem.F.slot_list_append PySem.F.type_list_append mt_append (g_var 4 (pv 4)) (g_cons (g_tup (g_cons (g_var 2 (pv 2)) (g_cons (g_var 5 (pv 5)) (g_cons (g_op o_add v_add (g_ix (g_var 6 (pv 6)) (g_int) (fun _ _ => rfl)) (g_calln c_way_by (hr.mono (by decide)) (by rfl) tk (g_cons (g_var 0 (pv 0)) (g_cons (g_ix (g_var 6 (pv 6)) (g_int) (fun _ _ => rfl)) (g_cons (g_var 1 (pv 1)) (g_nil) rfl) rfl) rfl) (by decide) rfl rfl)) (g_cons (g_op op_sub v_sub (g_ix (g_var 7 (pv 7)) (g_int) (fun _ _ => rfl)) (g_calln c_way_by (hr.mono (by decide)) (by rfl) tk (g_cons (g_var 0 (pv 0)) (g_cons (g_var 1 (pv 1)) (g_cons (g_ix (g_var 7 (pv 7)) (g_int) (fun _ _ => rfl)) (g_nil) rfl) rfl) rfl) (by decide) rfl rfl)) (g_nil) rfl) rfl) rfl) rfl)) (g_nil) rfl)) v_append) rfl)) (s_nil))))) (s_one (s_ret (g_var 4 (pv 4)))))
theorem ok_windows_by (T : Bt mg) (XX : Xt K mg) (S : Std K mg "windows_by" "windows_by" s_windows_by) (c_full_rows_of : Kn P w K mg base "full_rows_of" s_full_rows_of ["race"] 2 F_full_rows_of) (c_windows_in : Kn P w K mg base "windows_in" s_windows_in ["track", "mat", "runner", "row"] 4 F_windows_in) : Kn P w K mg base "windows_by" s_windows_by ["track", "race", "mat"] 5 F_windows_by := by
  refine kn_of (N := ["track", "race", "mat", "runner", "row", "window"]) (k := 4) (B := B_windows_by) S sc_windows_by rfl rfl (fun _ _ _ _ _ _ us hl => match us, hl with | [_, _, _], _ => rfl) fun f cdv A outer s' H E hr => ?_
  have nd := sc_windows_by.nd
  have tk : Takes (cxOf (L2.CX P w) P w K mg base ["track", "race", "mat", "runner", "row", "window"] "windows_by" (defScope s_windows_by) f cdv A outer s' H E) (Wd E) := takes_of rfl rfl rfl rfl
  exact s_one (s_ret (g_lc2J (by decide) (by decide) (pe_lc2 (own := [("runner", 3), ("row", 4), ("window", 5)]) (vs1 := [5]) rfl nd (g_enum (pi_enumB (by rfl) T.enumerate (g_cons (g_calln c_full_rows_of (hr.mono (by decide)) (by rfl) tk (g_cons (g_var 1 (pv 1)) (g_nil) rfl) (by decide) rfl rfl) (g_nil) rfl))) (blkOk_by (N := ["track", "race", "mat", "runner", "row", "window"]) (sc := defScope s_windows_by) (by decide +kernel)) (by decide) (fun _ _ _ _ _ => pg_tl rfl (pgs_cons (pg_name (i := 3) nd rfl (by first | exact .inl rfl | exact .inr rfl)) (pgs_cons (pg_name (i := 4) nd rfl (by first | exact .inl rfl | exact .inr rfl)) (pgs_nil)))) (fun _ _ _ _ _ => g_yes) (fun _ _ _ _ _ => g_iter (g_calln c_windows_in (hr.mono (by decide)) (by rfl) takes0 (g_cons (g_var 0 (pv 0)) (g_cons (g_var 2 (pv 2)) (g_cons (g_var 3 (pv 3)) (g_cons (g_var 4 (pv 4)) (g_nil) rfl) rfl) rfl) rfl) (by decide) rfl rfl)) (fun _ _ _ _ _ => pg_name (i := 5) nd rfl (by first | exact .inl rfl | exact .inr rfl)) (fun _ _ _ _ _ => g_yes) (fun _ _ _ _ _ => g_var 5 (pv 5)))))
theorem ok_marked_times (T : Bt mg) (XX : Xt K mg) (S : Std K mg "marked_times" "marked_times" s_marked_times) (c_full_rows_of : Kn P w K mg base "full_rows_of" s_full_rows_of ["race"] 2 F_full_rows_of) : Kn P w K mg base "marked_times" s_marked_times ["race", "mat"] 3 F_marked_times := by
  refine kn_of (N := ["race", "mat", "row", "mark"]) (k := 2) (B := B_marked_times) S sc_marked_times rfl rfl (fun _ _ _ _ _ _ us hl => match us, hl with | [_, _], _ => rfl) fun f cdv A outer s' H E hr => ?_
  have nd := sc_marked_times.nd
  have tk : Takes (cxOf (L2.CX P w) P w K mg base ["race", "mat", "row", "mark"] "marked_times" (defScope s_marked_times) f cdv A outer s' H E) (Wd E) := takes_of rfl rfl rfl rfl
  exact s_one (s_ret (g_blt (pe_callB (cr_sortedDK rfl) (by rfl) T.sorted bt_sorted (g_cons (g_dc2 (by decide) (by decide) (pe_dc2 (own := [("row", 2), ("mark", 3)]) (vs1 := [3]) rfl nd (g_iter (g_calln c_full_rows_of (hr.mono (by decide)) (by rfl) tk (g_cons (g_var 0 (pv 0)) (g_nil) rfl) (by decide) rfl rfl)) (blkOk_by (N := ["race", "mat", "row", "mark"]) (sc := defScope s_marked_times) (by decide +kernel)) (by decide) (fun _ _ _ _ _ => pg_name (i := 2) nd rfl (by first | exact .inl rfl | exact .inr rfl)) (fun _ _ _ _ _ => g_yes) (fun _ _ _ _ _ => g_iter (g_var 2 (pv 2))) (fun _ _ _ _ _ => pg_name (i := 3) nd rfl (by first | exact .inl rfl | exact .inr rfl)) (fun _ _ _ _ _ => g_ifs (g_tcmp (o_eq hr.units) v_eq (g_ix (g_var 3 (pv 3)) (g_int) (fun _ _ => rfl)) (g_var 1 (pv 1)) (nomark _))) (fun _ _ _ _ _ => g_ix (g_var 3 (pv 3)) (g_int) (fun _ _ => rfl)) (fun _ _ _ _ _ => g_bl))) (g_nil) rfl)) v_sortD))
theorem ok_quiet_stretches (T : Bt mg) (XX : Xt K mg) (S : Std K mg "quiet_stretches" "quiet_stretches" s_quiet_stretches) : Kn P w K mg base "quiet_stretches" s_quiet_stretches ["times", "last"] 1 F_quiet_stretches := by
  refine kn_of (N := ["times", "last", "found", "here", "time"]) (k := 0) (B := B_quiet_stretches) S sc_quiet_stretches rfl rfl (fun _ _ _ _ _ _ us hl => match us, hl with | [_, _], _ => rfl) fun f cdv A outer s' H E hr => ?_
  have nd := sc_quiet_stretches.nd
  have tk : Takes (cxOf (L2.CX P w) P w K mg base ["times", "last", "found", "here", "time"] "quiet_stretches" (defScope s_quiet_stretches) f cdv A outer s' H E) (Wd E) := takes_of rfl rfl rfl rfl
  exact s_cons (s_par (ps_par (i := 2) (j := 3) rfl nd rfl rfl (by decide) rfl rfl (g_cons (g_mut (g_nil)) (g_cons (g_int) (g_nil) rfl) rfl) (by rfl))) (s_cons (s_for (ps_for (passes_of rfl) rfl (g_iter (g_lc (by decide) (pe_lc (own := [("time", 4)]) rfl nd (g_iter (g_var 0 (pv 0))) (blkOk_by (N := ["times", "last", "found", "here", "time"]) (sc := defScope s_quiet_stretches) (by decide +kernel)) (fun _ _ _ _ _ => pg_name (i := 4) nd rfl (by first | exact .inl rfl | exact .inr rfl)) (fun _ _ _ _ _ => g_ifs (g_tcmp (o_le hr.units0) v_le (g_var 4 (pv 4)) (g_var 1 (pv 1)) (nomark _))) (fun _ _ _ _ _ => g_var 4 (pv 4))))) (t_tg (t := .nm 4) (pg_name (i := 4) nd rfl (by first | exact .inl rfl | exact .inr rfl))) (s_cons (s_if (g_tcmp (o_lt hr.units0) v_lt (g_var 3 (pv 3)) (g_var 4 (pv 4)) (nomark _)) (s_one (s_expr (g_methL (pe_bm PySem.F.plainAttrs_list PySem.F.slot_list_append PySem.F.type_list_append mt_append (g_var 2 (pv 2)) (g_cons (g_tup (g_cons (g_var 3 (pv 3)) (g_cons (g_op op_sub v_sub (g_var 4 (pv 4)) (g_int)) (g_nil) rfl) rfl)) (g_nil) rfl)) v_append) rfl)) (s_nil)) (s_one (s_set (ps_set (i := 3) nd rfl (.inl rfl) (g_op o_add v_add (g_var 4 (pv 4)) (g_int)))))))) (s_one (s_ret (g_if (g_tcmp (o_le hr.units0) v_le (g_var 3 (pv 3)) (g_var 1 (pv 1)) (nomark _)) (g_op o_add v_add (g_var 2 (pv 2)) (g_lst (g_cons (g_tup (g_cons (g_var 3 (pv 3)) (g_cons (g_var 1 (pv 1)) (g_nil) rfl) rfl)) (g_nil) rfl))) (g_var 2 (pv 2))))))
theorem ok_stretches_for (T : Bt mg) (XX : Xt K mg) (S : Std K mg "stretches_for" "stretches_for" s_stretches_for) (c_quiet_stretches : Kn P w K mg base "quiet_stretches" s_quiet_stretches ["times", "last"] 1 F_quiet_stretches) (c_marked_times : Kn P w K mg base "marked_times" s_marked_times ["race", "mat"] 3 F_marked_times) : Kn P w K mg base "stretches_for" s_stretches_for ["race", "mat", "windows"] 4 F_stretches_for := by
  refine kn_of (N := ["race", "mat", "windows", "window"]) (k := 3) (B := B_stretches_for) S sc_stretches_for rfl rfl (fun _ _ _ _ _ _ us hl => match us, hl with | [_, _, _], _ => rfl) fun f cdv A outer s' H E hr => ?_
  have nd := sc_stretches_for.nd
  have tk : Takes (cxOf (L2.CX P w) P w K mg base ["race", "mat", "windows", "window"] "stretches_for" (defScope s_stretches_for) f cdv A outer s' H E) (Wd E) := takes_of rfl rfl rfl rfl
  exact s_one (s_ret (g_calln c_quiet_stretches (hr.mono (by decide)) (by rfl) tk (g_cons (g_calln c_marked_times (hr.mono (by decide)) (by rfl) tk (g_cons (g_var 0 (pv 0)) (g_cons (g_var 1 (pv 1)) (g_nil) rfl) rfl) (by decide) rfl rfl) (g_cons (g_blt (pe_callB (c_max rfl) (by rfl) T.max bt_max (g_cons (g_op o_add v_add (g_lst (g_cons (g_int) (g_nil) rfl)) (g_lc (by decide) (pe_lc (own := [("window", 3)]) rfl nd (g_iter (g_var 2 (pv 2))) (blkOk_by (N := ["race", "mat", "windows", "window"]) (sc := defScope s_stretches_for) (by decide +kernel)) (fun _ _ _ _ _ => pg_name (i := 3) nd rfl (by first | exact .inl rfl | exact .inr rfl)) (fun _ _ _ _ _ => g_yes) (fun _ _ _ _ _ => g_ix (g_var 3 (pv 3)) (g_globI (by rfl) T.TO (by decide)) (fun _ _ => rfl))))) (g_nil) rfl)) v_max) (g_nil) rfl) rfl) (by decide) rfl rfl))
theorem ok_do_share (T : Bt mg) (XX : Xt K mg) (S : Std K mg "do_share" "do_share" s_do_share) : Kn P w K mg base "do_share" s_do_share ["one", "other"] 1 F_do_share := by
  refine kn_of (N := ["one", "other"]) (k := 0) (B := B_do_share) S sc_do_share rfl rfl (fun _ _ _ _ _ _ us hl => match us, hl with | [_, _], _ => rfl) fun f cdv A outer s' H E hr => ?_
  have nd := sc_do_share.nd
  have tk : Takes (cxOf (L2.CX P w) P w K mg base ["one", "other"] "do_share" (defScope s_do_share) f cdv A outer s' H E) (Wd E) := takes_of rfl rfl rfl rfl
  exact s_one (s_ret (g_cmp (o_le hr.units0) v_le (g_blt (pe_callB (c_max rfl) (by rfl) T.max bt_max (g_cons (g_ix (g_var 0 (pv 0)) (g_int) (fun _ _ => rfl)) (g_cons (g_ix (g_var 1 (pv 1)) (g_int) (fun _ _ => rfl)) (g_nil) rfl) rfl)) v_max) (g_blt (pe_callB (c_min rfl) (by rfl) T.min bt_min (g_cons (g_ix (g_var 0 (pv 0)) (g_int) (fun _ _ => rfl)) (g_cons (g_ix (g_var 1 (pv 1)) (g_int) (fun _ _ => rfl)) (g_nil) rfl) rfl)) v_min) (nomark _)))
theorem ok_shared_by (T : Bt mg) (XX : Xt K mg) (S : Std K mg "shared_by" "shared_by" s_shared_by) (c_do_share : Kn P w K mg base "do_share" s_do_share ["one", "other"] 1 F_do_share) : Kn P w K mg base "shared_by" s_shared_by ["stretches", "window"] 2 F_shared_by := by
  refine kn_of (N := ["stretches", "window", "index", "each"]) (k := 1) (B := B_shared_by) S sc_shared_by rfl rfl (fun _ _ _ _ _ _ us hl => match us, hl with | [_, _], _ => rfl) fun f cdv A outer s' H E hr => ?_
  have nd := sc_shared_by.nd
  have tk : Takes (cxOf (L2.CX P w) P w K mg base ["stretches", "window", "index", "each"] "shared_by" (defScope s_shared_by) f cdv A outer s' H E) (Wd E) := takes_of rfl rfl rfl rfl
  exact s_one (s_ret (g_lc (by decide) (pe_lc (own := [("index", 2), ("each", 3)]) rfl nd (g_enum (pi_enumB (by rfl) T.enumerate (g_cons (g_var 0 (pv 0)) (g_nil) rfl))) (blkOk_by (N := ["stretches", "window", "index", "each"]) (sc := defScope s_shared_by) (by decide +kernel)) (fun _ _ _ _ _ => pg_tl rfl (pgs_cons (pg_name (i := 2) nd rfl (by first | exact .inl rfl | exact .inr rfl)) (pgs_cons (pg_name (i := 3) nd rfl (by first | exact .inl rfl | exact .inr rfl)) (pgs_nil)))) (fun _ _ _ _ _ => g_ifs (g_tval (g_calln c_do_share (hr.mono (by decide)) (by rfl) takes0 (g_cons (g_var 3 (pv 3)) (g_cons (g_tup (g_cons (g_ix (g_var 1 (pv 1)) (g_globI (by rfl) T.FROM (by decide)) (fun _ _ => rfl)) (g_cons (g_ix (g_var 1 (pv 1)) (g_globI (by rfl) T.TO (by decide)) (fun _ _ => rfl)) (g_nil) rfl) rfl)) (g_nil) rfl) rfl) (by decide) rfl rfl) (by intro _; rfl))) (fun _ _ _ _ _ => g_var 2 (pv 2)))))
theorem ok_shares_of (T : Bt mg) (XX : Xt K mg) (S : Std K mg "shares_of" "shares_of" s_shares_of) (c_windows_by : Kn P w K mg base "windows_by" s_windows_by ["track", "race", "mat"] 5 F_windows_by) (c_stretches_for : Kn P w K mg base "stretches_for" s_stretches_for ["race", "mat", "windows"] 4 F_stretches_for) (c_shared_by : Kn P w K mg base "shared_by" s_shared_by ["stretches", "window"] 2 F_shared_by) : Kn P w K mg base "shares_of" s_shares_of ["track", "race", "mat"] 6 F_shares_of := by
  refine kn_of (N := ["track", "race", "mat", "windows", "stretches", "window"]) (k := 5) (B := B_shares_of) S sc_shares_of rfl rfl (fun _ _ _ _ _ _ us hl => match us, hl with | [_, _, _], _ => rfl) fun f cdv A outer s' H E hr => ?_
  have nd := sc_shares_of.nd
  have tk : Takes (cxOf (L2.CX P w) P w K mg base ["track", "race", "mat", "windows", "stretches", "window"] "shares_of" (defScope s_shares_of) f cdv A outer s' H E) (Wd E) := takes_of rfl rfl rfl rfl
  exact s_cons (s_set (ps_set (i := 3) nd rfl (.inl rfl) (g_calln c_windows_by (hr.mono (by decide)) (by rfl) tk (g_cons (g_var 0 (pv 0)) (g_cons (g_var 1 (pv 1)) (g_cons (g_var 2 (pv 2)) (g_nil) rfl) rfl) rfl) (by decide) rfl rfl))) (s_cons (s_set (ps_set (i := 4) nd rfl (.inr rfl) (g_calln c_stretches_for (hr.mono (by decide)) (by rfl) tk (g_cons (g_var 1 (pv 1)) (g_cons (g_var 2 (pv 2)) (g_cons (g_var 3 (pv 3)) (g_nil) rfl) rfl) rfl) (by decide) rfl rfl))) (s_one (s_ret (g_tup (g_cons (g_var 4 (pv 4)) (g_cons (g_lc (by decide) (pe_lc (own := [("window", 5)]) rfl nd (g_iter (g_var 3 (pv 3))) (blkOk_by (N := ["track", "race", "mat", "windows", "stretches", "window"]) (sc := defScope s_shares_of) (by decide +kernel)) (fun _ _ _ _ _ => pg_name (i := 5) nd rfl (by first | exact .inl rfl | exact .inr rfl)) (fun _ _ _ _ _ => g_yes) (fun _ _ _ _ _ => g_calln c_shared_by (hr.mono (by decide)) (by rfl) takes0 (g_cons (g_var 4 (pv 4)) (g_cons (g_var 5 (pv 5)) (g_nil) rfl) rfl) (by decide) rfl rfl))) (g_nil) rfl) rfl)))))
theorem ok_strays_by (T : Bt mg) (XX : Xt K mg) (S : Std K mg "strays_by" "strays_by" s_strays_by) (c_shares_of : Kn P w K mg base "shares_of" s_shares_of ["track", "race", "mat"] 6 F_shares_of) : Kn P w K mg base "strays_by" s_strays_by ["track", "race", "mat"] 7 F_strays_by := by
  refine kn_of (N := ["track", "race", "mat", "index", "shared"]) (k := 6) (B := B_strays_by) S sc_strays_by rfl rfl (fun _ _ _ _ _ _ us hl => match us, hl with | [_, _, _], _ => rfl) fun f cdv A outer s' H E hr => ?_
  have nd := sc_strays_by.nd
  have tk : Takes (cxOf (L2.CX P w) P w K mg base ["track", "race", "mat", "index", "shared"] "strays_by" (defScope s_strays_by) f cdv A outer s' H E) (Wd E) := takes_of rfl rfl rfl rfl
  exact s_one (s_ret (g_lc (by decide) (pe_lc (own := [("index", 3), ("shared", 4)]) rfl nd (g_enum (pi_enumB (by rfl) T.enumerate (g_cons (g_ix (g_calln c_shares_of (hr.mono (by decide)) (by rfl) tk (g_cons (g_var 0 (pv 0)) (g_cons (g_var 1 (pv 1)) (g_cons (g_var 2 (pv 2)) (g_nil) rfl) rfl) rfl) (by decide) rfl rfl) (g_int) (fun _ _ => rfl)) (g_nil) rfl))) (blkOk_by (N := ["track", "race", "mat", "index", "shared"]) (sc := defScope s_strays_by) (by decide +kernel)) (fun _ _ _ _ _ => pg_tl rfl (pgs_cons (pg_name (i := 3) nd rfl (by first | exact .inl rfl | exact .inr rfl)) (pgs_cons (pg_name (i := 4) nd rfl (by first | exact .inl rfl | exact .inr rfl)) (pgs_nil)))) (fun _ _ _ _ _ => g_ifs (g_tcmp (o_eq hr.units) v_eq (g_var 4 (pv 4)) (g_lst (g_nil)) (nomark _))) (fun _ _ _ _ _ => g_var 3 (pv 3)))))
theorem ok_chosen_by (T : Bt mg) (XX : Xt K mg) (S : Std K mg "chosen_by" "chosen_by" s_chosen_by) : Kn P w K mg base "chosen_by" s_chosen_by ["shares"] 1 F_chosen_by := by
  refine kn_of (N := ["shares", "rows", "found", "last", "index", "shared", "_", "stretch"]) (k := 0) (B := B_chosen_by) S sc_chosen_by rfl rfl (fun _ _ _ _ _ _ us hl => match us, hl with | [_], _ => rfl) fun f cdv A outer s' H E hr => ?_
  have nd := sc_chosen_by.nd
  have tk : Takes (cxOf (L2.CX P w) P w K mg base ["shares", "rows", "found", "last", "index", "shared", "_", "stretch"] "chosen_by" (defScope s_chosen_by) f cdv A outer s' H E) (Wd E) := takes_of rfl rfl rfl rfl
  exact s_cons (s_par (ps_par (i := 1) (j := 2) rfl nd rfl rfl (by decide) rfl rfl (g_cons (g_blt (pe_callB cr_sortedPQ (by rfl) T.sorted bt_sorted (g_cons (g_lc (by decide) (pe_lc (own := [("index", 4), ("shared", 5)]) rfl nd (g_enum (pi_enumB (by rfl) T.enumerate (g_cons (g_var 0 (pv 0)) (g_nil) rfl))) (blkOk_by (N := ["shares", "rows", "found", "last", "index", "shared", "_", "stretch"]) (sc := defScope s_chosen_by) (by decide +kernel)) (fun _ _ _ _ _ => pg_tl rfl (pgs_cons (pg_name (i := 4) nd rfl (by first | exact .inl rfl | exact .inr rfl)) (pgs_cons (pg_name (i := 5) nd rfl (by first | exact .inl rfl | exact .inr rfl)) (pgs_nil)))) (fun _ _ _ _ _ => g_ifs (g_tcmp (o_ne hr.units) v_ne (g_var 5 (pv 5)) (g_lst (g_nil)) (nomark _))) (fun _ _ _ _ _ => g_tup (g_cons (g_ix (g_var 5 (pv 5)) (g_un un_neg v_neg (g_int)) (fun _ _ => rfl)) (g_cons (g_var 4 (pv 4)) (g_nil) rfl) rfl)))) (g_nil) rfl)) v_srt) (g_cons (g_mut (g_nil)) (g_nil) rfl) rfl) (by rfl))) (s_cons (s_for (ps_for (passes_of rfl) rfl (g_iter (g_var 1 (pv 1))) (t_tg (t := .tp [.nm 3, .nm 4]) (pg_tl rfl (pgs_cons (pg_name (i := 3) nd rfl (by first | exact .inl rfl | exact .inr rfl)) (pgs_cons (pg_name (i := 4) nd rfl (by first | exact .inl rfl | exact .inr rfl)) (pgs_nil))))) (s_one (s_if (g_tnot (g_tval (g_blt (pe_callB (cq_any rfl) (by rfl) T.any bt_any (g_cons (g_lc (by decide) (pe_lc (own := [("_", 6), ("stretch", 7)]) rfl nd (g_iter (g_var 2 (pv 2))) (blkOk_by (N := ["shares", "rows", "found", "last", "index", "shared", "_", "stretch"]) (sc := defScope s_chosen_by) (by decide +kernel)) (fun _ _ _ _ _ => pg_tl rfl (pgs_cons (pg_name (i := 6) nd rfl (by first | exact .inl rfl | exact .inr rfl)) (pgs_cons (pg_name (i := 7) nd rfl (by first | exact .inl rfl | exact .inr rfl)) (pgs_nil)))) (fun _ _ _ _ _ => g_yes) (fun _ _ _ _ _ => g_cmp (o_in (room65 hr)) v_in (g_var 7 (pv 7)) (g_ix (g_var 0 (pv 0)) (g_var 4 (pv 4)) (fun _ _ => rfl)) (by with_unfolding_all rfl)))) (g_nil) rfl)) v_any) (by intro _; rfl))) (s_one (s_expr (g_methL (pe_bm PySem.F.plainAttrs_list PySem.F.slot_list_append PySem.F.type_list_append mt_append (g_var 2 (pv 2)) (g_cons (g_tup (g_cons (g_var 4 (pv 4)) (g_cons (g_var 3 (pv 3)) (g_nil) rfl) rfl)) (g_nil) rfl)) v_append) rfl)) (s_nil))))) (s_one (s_ret (g_var 2 (pv 2)))))
theorem ok_fewest_dead_by (T : Bt mg) (XX : Xt K mg) (S : Std K mg "fewest_dead_by" "fewest_dead_by" s_fewest_dead_by) (c_shares_of : Kn P w K mg base "shares_of" s_shares_of ["track", "race", "mat"] 6 F_shares_of) (c_chosen_by : Kn P w K mg base "chosen_by" s_chosen_by ["shares"] 1 F_chosen_by) : Kn P w K mg base "fewest_dead_by" s_fewest_dead_by ["track", "race", "mat"] 7 F_fewest_dead_by := by
  refine kn_of (N := ["track", "race", "mat", "stretches", "shares", "_", "stretch"]) (k := 6) (B := B_fewest_dead_by) S sc_fewest_dead_by rfl rfl (fun _ _ _ _ _ _ us hl => match us, hl with | [_, _, _], _ => rfl) fun f cdv A outer s' H E hr => ?_
  have nd := sc_fewest_dead_by.nd
  have tk : Takes (cxOf (L2.CX P w) P w K mg base ["track", "race", "mat", "stretches", "shares", "_", "stretch"] "fewest_dead_by" (defScope s_fewest_dead_by) f cdv A outer s' H E) (Wd E) := takes_of rfl rfl rfl rfl
  exact s_cons (s_asg (ps_asg (g_calln c_shares_of (hr.mono (by decide)) (by rfl) tk (g_cons (g_var 0 (pv 0)) (g_cons (g_var 1 (pv 1)) (g_cons (g_var 2 (pv 2)) (g_nil) rfl) rfl) rfl) (by decide) rfl rfl) (t_tup (pg_tup rfl (t_cons (t_name (pg_name (i := 3) nd rfl (.inr rfl))) (t_cons (t_name (pg_name (i := 4) nd rfl (.inl rfl))) (t_nil) rfl) rfl))))) (s_cons (s_if (g_tcmp (o_in (room65 hr)) v_in (g_lst (g_nil)) (g_var 4 (pv 4)) (by with_unfolding_all rfl)) (s_one (s_ret (g_non))) (s_nil)) (s_one (s_ret (g_blt (pe_callTy call_tuple_of (by rfl) T.tuple bt_tuple (g_cons (g_lc (by decide) (pe_lc (own := [("_", 5), ("stretch", 6)]) rfl nd (g_iter (g_calln c_chosen_by (hr.mono (by decide)) (by rfl) tk (g_cons (g_var 4 (pv 4)) (g_nil) rfl) (by decide) rfl rfl)) (blkOk_by (N := ["track", "race", "mat", "stretches", "shares", "_", "stretch"]) (sc := defScope s_fewest_dead_by) (by decide +kernel)) (fun _ _ _ _ _ => pg_tl rfl (pgs_cons (pg_name (i := 5) nd rfl (by first | exact .inl rfl | exact .inr rfl)) (pgs_cons (pg_name (i := 6) nd rfl (by first | exact .inl rfl | exact .inr rfl)) (pgs_nil)))) (fun _ _ _ _ _ => g_yes) (fun _ _ _ _ _ => g_ix (g_var 3 (pv 3)) (g_var 6 (pv 6)) (fun _ _ => rfl)))) (g_nil) rfl)) v_tuple))))
theorem ok_apart_by (T : Bt mg) (XX : Xt K mg) (S : Std K mg "apart_by" "apart_by" s_apart_by) (c_chosen_by : Kn P w K mg base "chosen_by" s_chosen_by ["shares"] 1 F_chosen_by) (c_shares_of : Kn P w K mg base "shares_of" s_shares_of ["track", "race", "mat"] 6 F_shares_of) : Kn P w K mg base "apart_by" s_apart_by ["track", "race", "mat"] 7 F_apart_by := by
  refine kn_of (N := ["track", "race", "mat", "index", "_"]) (k := 6) (B := B_apart_by) S sc_apart_by rfl rfl (fun _ _ _ _ _ _ us hl => match us, hl with | [_, _, _], _ => rfl) fun f cdv A outer s' H E hr => ?_
  have nd := sc_apart_by.nd
  have tk : Takes (cxOf (L2.CX P w) P w K mg base ["track", "race", "mat", "index", "_"] "apart_by" (defScope s_apart_by) f cdv A outer s' H E) (Wd E) := takes_of rfl rfl rfl rfl
  exact s_one (s_ret (g_blt (pe_callTy call_tuple_of (by rfl) T.tuple bt_tuple (g_cons (g_blt (pe_callB cr_sortedI (by rfl) T.sorted bt_sorted (g_cons (g_lc (by decide) (pe_lc (own := [("index", 3), ("_", 4)]) rfl nd (g_iter (g_calln c_chosen_by (hr.mono (by decide)) (by rfl) tk (g_cons (g_ix (g_calln c_shares_of (hr.mono (by decide)) (by rfl) tk (g_cons (g_var 0 (pv 0)) (g_cons (g_var 1 (pv 1)) (g_cons (g_var 2 (pv 2)) (g_nil) rfl) rfl) rfl) (by decide) rfl rfl) (g_int) (fun _ _ => rfl)) (g_nil) rfl) (by decide) rfl rfl)) (blkOk_by (N := ["track", "race", "mat", "index", "_"]) (sc := defScope s_apart_by) (by decide +kernel)) (fun _ _ _ _ _ => pg_tl rfl (pgs_cons (pg_name (i := 3) nd rfl (by first | exact .inl rfl | exact .inr rfl)) (pgs_cons (pg_name (i := 4) nd rfl (by first | exact .inl rfl | exact .inr rfl)) (pgs_nil)))) (fun _ _ _ _ _ => g_yes) (fun _ _ _ _ _ => g_var 3 (pv 3)))) (g_nil) rfl)) v_srtI) (g_nil) rfl)) v_tuple))
theorem ok_is_dead_stretch (T : Bt mg) (XX : Xt K mg) (S : Std K mg "is_dead_stretch" "is_dead_stretch" s_is_dead_stretch) (c_is_pair : Kn P w K mg base "is_pair" s_is_pair ["value"] 3 F_is_pair) (c_is_whole : Kn P w K mg base "is_whole" s_is_whole ["value"] 1 F_is_whole) (c_is_from : Kn P w K mg base "is_from" s_is_from ["value", "least"] 2 F_is_from) : Kn P w K mg base "is_dead_stretch" s_is_dead_stretch ["times", "value"] 4 F_is_dead_stretch := by
  refine kn_of (N := ["times", "value", "time"]) (k := 3) (B := B_is_dead_stretch) S sc_is_dead_stretch rfl rfl (fun _ _ _ _ _ _ us hl => match us, hl with | [_, _], _ => rfl) fun f cdv A outer s' H E hr => ?_
  have nd := sc_is_dead_stretch.nd
  have tk : Takes (cxOf (L2.CX P w) P w K mg base ["times", "value", "time"] "is_dead_stretch" (defScope s_is_dead_stretch) f cdv A outer s' H E) (Wd E) := takes_of rfl rfl rfl rfl
  exact s_cons (s_if ((g_or (g_tnot (g_tval (g_calln c_is_pair (hr.mono (by decide)) (by rfl) tk (g_cons (g_var 1 (pv 1)) (g_nil) rfl) (by decide) rfl rfl) (by intro _; rfl))) (g_or (g_tnot (g_tval (g_calln c_is_whole (hr.mono (by decide)) (by rfl) tk (g_cons (g_ix (g_var 1 (pv 1)) (g_int) (fun _ _ => rfl)) (g_nil) rfl) (by decide) rfl rfl) (by intro _; rfl))) (g_or1 (g_tnot (g_tval (g_calln c_is_from (hr.mono (by decide)) (by rfl) tk (g_cons (g_ix (g_var 1 (pv 1)) (g_int) (fun _ _ => rfl)) (g_cons (g_ix (g_var 1 (pv 1)) (g_int) (fun _ _ => rfl)) (g_nil) rfl) rfl) (by decide) rfl rfl) (by intro _; rfl)))))).pt) (s_one (s_ret (g_bl))) (s_nil)) (s_one (s_ret (g_vnot (g_blt (pe_callB (cq_any rfl) (by rfl) T.any bt_any (g_cons (g_lc (by decide) (pe_lc (own := [("time", 2)]) rfl nd (g_iter (g_var 0 (pv 0))) (blkOk_by (N := ["times", "value", "time"]) (sc := defScope s_is_dead_stretch) (by decide +kernel)) (fun _ _ _ _ _ => pg_name (i := 2) nd rfl (by first | exact .inl rfl | exact .inr rfl)) (fun _ _ _ _ _ => g_yes) (fun _ _ _ _ _ => g_chain (pe_chain (o_le hr.units0) (o_le hr.units0) (g_ix (g_var 1 (pv 1)) (g_int) (fun _ _ => rfl)) (g_var 2 (pv 2)) (g_ix (g_var 1 (pv 1)) (g_int) (fun _ _ => rfl))) v_le v_le))) (g_nil) rfl)) v_any))))
theorem ok_do_explain_by (T : Bt mg) (XX : Xt K mg) (S : Std K mg "do_explain_by" "do_explain_by" s_do_explain_by) (c_marked_times : Kn P w K mg base "marked_times" s_marked_times ["race", "mat"] 3 F_marked_times) (c_is_dead_stretch : Kn P w K mg base "is_dead_stretch" s_is_dead_stretch ["times", "value"] 4 F_is_dead_stretch) (c_windows_by : Kn P w K mg base "windows_by" s_windows_by ["track", "race", "mat"] 5 F_windows_by) (c_shared_by : Kn P w K mg base "shared_by" s_shared_by ["stretches", "window"] 2 F_shared_by) : Kn P w K mg base "do_explain_by" s_do_explain_by ["track", "race", "mat", "value"] 6 F_do_explain_by := by
  refine kn_of (N := ["track", "race", "mat", "value", "times", "each", "window"]) (k := 5) (B := B_do_explain_by) S sc_do_explain_by rfl rfl (fun _ _ _ _ _ _ us hl => match us, hl with | [_, _, _, _], _ => rfl) fun f cdv A outer s' H E hr => ?_
  have nd := sc_do_explain_by.nd
  have tk : Takes (cxOf (L2.CX P w) P w K mg base ["track", "race", "mat", "value", "times", "each", "window"] "do_explain_by" (defScope s_do_explain_by) f cdv A outer s' H E) (Wd E) := takes_of rfl rfl rfl rfl
  exact s_cons (s_set (ps_set (i := 4) nd rfl (.inr rfl) (g_calln c_marked_times (hr.mono (by decide)) (by rfl) tk (g_cons (g_var 1 (pv 1)) (g_cons (g_var 2 (pv 2)) (g_nil) rfl) rfl) (by decide) rfl rfl))) (s_cons (s_if ((g_or (g_tnot (g_tval (g_isi .tup (g_var 3 (pv 3)) (fun h => pe_callB call_isi (by rfl) T.isinstance bt_isinstance (pa_cons h (pa_cons (pe_bltn (by rfl) T.tuple bt_tuple rfl) pa_nil)))) (by intro _; rfl))) (g_or1 (g_tnot (g_tval (g_blt (pe_callB (cq_all rfl) (by rfl) T.all bt_all (g_cons (g_lc (by decide) (pe_lc (own := [("each", 5)]) rfl nd (g_iter (g_var 3 (pv 3))) (blkOk_by (N := ["track", "race", "mat", "value", "times", "each", "window"]) (sc := defScope s_do_explain_by) (by decide +kernel)) (fun _ _ _ _ _ => pg_name (i := 5) nd rfl (by first | exact .inl rfl | exact .inr rfl)) (fun _ _ _ _ _ => g_yes) (fun _ _ _ _ _ => g_calln c_is_dead_stretch (hr.mono (by decide)) (by rfl) takes0 (g_cons (g_var 4 (pv 4)) (g_cons (g_var 5 (pv 5)) (g_nil) rfl) rfl) (by decide) rfl rfl))) (g_nil) rfl)) v_all) (by intro _; rfl))))).pt) (s_one (s_ret (g_bl))) (s_nil)) (s_one (s_ret (g_blt (pe_callB (cq_all rfl) (by rfl) T.all bt_all (g_cons (g_lc (by decide) (pe_lc (own := [("window", 6)]) rfl nd (g_iter (g_calln c_windows_by (hr.mono (by decide)) (by rfl) tk (g_cons (g_var 0 (pv 0)) (g_cons (g_var 1 (pv 1)) (g_cons (g_var 2 (pv 2)) (g_nil) rfl) rfl) rfl) (by decide) rfl rfl)) (blkOk_by (N := ["track", "race", "mat", "value", "times", "each", "window"]) (sc := defScope s_do_explain_by) (by decide +kernel)) (fun _ _ _ _ _ => pg_name (i := 6) nd rfl (by first | exact .inl rfl | exact .inr rfl)) (fun _ _ _ _ _ => g_yes) (fun _ _ _ _ _ => g_cmp (o_ne hr.units) v_ne (g_calln c_shared_by (hr.mono (by decide)) (by rfl) takes0 (g_cons (g_var 3 (pv 3)) (g_cons (g_var 6 (pv 6)) (g_nil) rfl) rfl) (by decide) rfl rfl) (g_lst (g_nil)) (nomark _)))) (g_nil) rfl)) v_all))))
theorem ok_check_raced (T : Bt mg) (XX : Xt K mg) (S : Std K mg "check_raced" "check_raced" s_check_raced) (c_check_track : Kn P w K mg base "check_track" s_check_track ["track"] 4 F_check_track) (c_check_race : Kn P w K mg base "check_race" s_check_race ["track", "race"] 10 F_check_race) : Kn P w K mg base "check_raced" s_check_raced ["track", "race"] 11 F_check_raced_v2 := by
  refine kn_of (N := ["track", "race"]) (k := 10) (B := B_check_raced_v2) S sc_check_raced rfl rfl (fun _ _ _ _ _ _ us hl => match us, hl with | [_, _], _ => rfl) fun f cdv A outer s' H E hr => ?_
  have nd := sc_check_raced.nd
  have tk : Takes (cxOf (L2.CX P w) P w K mg base ["track", "race"] "check_raced" (defScope s_check_raced) f cdv A outer s' H E) (Wd E) := takes_of rfl rfl rfl rfl
  exact s_cons (s_expr (g_calln c_check_track (hr.mono (by decide)) (by rfl) tk (g_cons (g_var 0 (pv 0)) (g_nil) rfl) (by decide) rfl rfl) rfl) (s_one (s_expr (g_calln c_check_race (hr.mono (by decide)) (by rfl) tk (g_cons (g_var 0 (pv 0)) (g_cons (g_var 1 (pv 1)) (g_nil) rfl) rfl) (by decide) rfl rfl) rfl))
theorem ok_check_looked_at (T : Bt mg) (XX : Xt K mg) (S : Std K mg "check_looked_at" "check_looked_at" s_check_looked_at) (c_check_raced : Kn P w K mg base "check_raced" s_check_raced ["track", "race"] 11 F_check_raced_v2) (c_check_mat : Kn P w K mg base "check_mat" s_check_mat ["track", "mat"] 5 F_check_mat) : Kn P w K mg base "check_looked_at" s_check_looked_at ["track", "race", "mat"] 12 F_check_looked_at := by
  refine kn_of (N := ["track", "race", "mat"]) (k := 11) (B := B_check_looked_at) S sc_check_looked_at rfl rfl (fun _ _ _ _ _ _ us hl => match us, hl with | [_, _, _], _ => rfl) fun f cdv A outer s' H E hr => ?_
  have nd := sc_check_looked_at.nd
  have tk : Takes (cxOf (L2.CX P w) P w K mg base ["track", "race", "mat"] "check_looked_at" (defScope s_check_looked_at) f cdv A outer s' H E) (Wd E) := takes_of rfl rfl rfl rfl
  exact s_cons (s_expr (g_calln c_check_raced (hr.mono (by decide)) (by rfl) tk (g_cons (g_var 0 (pv 0)) (g_cons (g_var 1 (pv 1)) (g_nil) rfl) rfl) (by decide) rfl rfl) rfl) (s_one (s_expr (g_calln c_check_mat (hr.mono (by decide)) (by rfl) tk (g_cons (g_var 0 (pv 0)) (g_cons (g_var 2 (pv 2)) (g_nil) rfl) rfl) (by decide) rfl rfl) rfl))
theorem ok_least_misses (T : Bt mg) (XX : Xt K mg) (S : Std K mg "least_misses" "least_misses" s_least_misses) (c_check_raced : Kn P w K mg base "check_raced" s_check_raced ["track", "race"] 11 F_check_raced_v2) (c_least_misses_by : Kn P w K mg base "least_misses_by" s_least_misses_by ["track", "race"] 4 F_least_misses_by) : Kn P w K mg base "least_misses" s_least_misses ["track", "race"] 12 F_least_misses := by
  refine kn_of (N := ["track", "race"]) (k := 11) (B := B_least_misses) S sc_least_misses rfl rfl (fun _ _ _ _ _ _ us hl => match us, hl with | [_, _], _ => rfl) fun f cdv A outer s' H E hr => ?_
  have nd := sc_least_misses.nd
  have tk : Takes (cxOf (L2.CX P w) P w K mg base ["track", "race"] "least_misses" (defScope s_least_misses) f cdv A outer s' H E) (Wd E) := takes_of rfl rfl rfl rfl
  exact s_cons (s_expr (g_calln c_check_raced (hr.mono (by decide)) (by rfl) tk (g_cons (g_var 0 (pv 0)) (g_cons (g_var 1 (pv 1)) (g_nil) rfl) rfl) (by decide) rfl rfl) rfl) (s_one (s_ret (g_calln c_least_misses_by (hr.mono (by decide)) (by rfl) tk (g_cons (g_var 0 (pv 0)) (g_cons (g_var 1 (pv 1)) (g_nil) rfl) rfl) (by decide) rfl rfl)))
theorem ok_windows (T : Bt mg) (XX : Xt K mg) (S : Std K mg "windows" "windows" s_windows) (c_check_looked_at : Kn P w K mg base "check_looked_at" s_check_looked_at ["track", "race", "mat"] 12 F_check_looked_at) (c_windows_by : Kn P w K mg base "windows_by" s_windows_by ["track", "race", "mat"] 5 F_windows_by) : Kn P w K mg base "windows" s_windows ["track", "race", "mat"] 13 F_windows := by
  refine kn_of (N := ["track", "race", "mat"]) (k := 12) (B := B_windows) S sc_windows rfl rfl (fun _ _ _ _ _ _ us hl => match us, hl with | [_, _, _], _ => rfl) fun f cdv A outer s' H E hr => ?_
  have nd := sc_windows.nd
  have tk : Takes (cxOf (L2.CX P w) P w K mg base ["track", "race", "mat"] "windows" (defScope s_windows) f cdv A outer s' H E) (Wd E) := takes_of rfl rfl rfl rfl
  exact s_cons (s_expr (g_calln c_check_looked_at (hr.mono (by decide)) (by rfl) tk (g_cons (g_var 0 (pv 0)) (g_cons (g_var 1 (pv 1)) (g_cons (g_var 2 (pv 2)) (g_nil) rfl) rfl) rfl) (by decide) rfl rfl) rfl) (s_one (s_ret (g_blt (pe_callTy call_tuple_of (by rfl) T.tuple bt_tuple (g_cons (g_calln c_windows_by (hr.mono (by decide)) (by rfl) tk (g_cons (g_var 0 (pv 0)) (g_cons (g_var 1 (pv 1)) (g_cons (g_var 2 (pv 2)) (g_nil) rfl) rfl) rfl) (by decide) rfl rfl) (g_nil) rfl)) v_tuple)))
theorem ok_strays (T : Bt mg) (XX : Xt K mg) (S : Std K mg "strays" "strays" s_strays) (c_check_looked_at : Kn P w K mg base "check_looked_at" s_check_looked_at ["track", "race", "mat"] 12 F_check_looked_at) (c_strays_by : Kn P w K mg base "strays_by" s_strays_by ["track", "race", "mat"] 7 F_strays_by) : Kn P w K mg base "strays" s_strays ["track", "race", "mat"] 13 F_strays := by
  refine kn_of (N := ["track", "race", "mat"]) (k := 12) (B := B_strays) S sc_strays rfl rfl (fun _ _ _ _ _ _ us hl => match us, hl with | [_, _, _], _ => rfl) fun f cdv A outer s' H E hr => ?_
  have nd := sc_strays.nd
  have tk : Takes (cxOf (L2.CX P w) P w K mg base ["track", "race", "mat"] "strays" (defScope s_strays) f cdv A outer s' H E) (Wd E) := takes_of rfl rfl rfl rfl
  exact s_cons (s_expr (g_calln c_check_looked_at (hr.mono (by decide)) (by rfl) tk (g_cons (g_var 0 (pv 0)) (g_cons (g_var 1 (pv 1)) (g_cons (g_var 2 (pv 2)) (g_nil) rfl) rfl) rfl) (by decide) rfl rfl) rfl) (s_one (s_ret (g_blt (pe_callTy call_tuple_of (by rfl) T.tuple bt_tuple (g_cons (g_calln c_strays_by (hr.mono (by decide)) (by rfl) tk (g_cons (g_var 0 (pv 0)) (g_cons (g_var 1 (pv 1)) (g_cons (g_var 2 (pv 2)) (g_nil) rfl) rfl) rfl) (by decide) rfl rfl) (g_nil) rfl)) v_tuple)))
theorem ok_fewest_dead (T : Bt mg) (XX : Xt K mg) (S : Std K mg "fewest_dead" "fewest_dead" s_fewest_dead) (c_check_looked_at : Kn P w K mg base "check_looked_at" s_check_looked_at ["track", "race", "mat"] 12 F_check_looked_at) (c_fewest_dead_by : Kn P w K mg base "fewest_dead_by" s_fewest_dead_by ["track", "race", "mat"] 7 F_fewest_dead_by) : Kn P w K mg base "fewest_dead" s_fewest_dead ["track", "race", "mat"] 13 F_fewest_dead := by
  refine kn_of (N := ["track", "race", "mat"]) (k := 12) (B := B_fewest_dead) S sc_fewest_dead rfl rfl (fun _ _ _ _ _ _ us hl => match us, hl with | [_, _, _], _ => rfl) fun f cdv A outer s' H E hr => ?_
  have nd := sc_fewest_dead.nd
  have tk : Takes (cxOf (L2.CX P w) P w K mg base ["track", "race", "mat"] "fewest_dead" (defScope s_fewest_dead) f cdv A outer s' H E) (Wd E) := takes_of rfl rfl rfl rfl
  exact s_cons (s_expr (g_calln c_check_looked_at (hr.mono (by decide)) (by rfl) tk (g_cons (g_var 0 (pv 0)) (g_cons (g_var 1 (pv 1)) (g_cons (g_var 2 (pv 2)) (g_nil) rfl) rfl) rfl) (by decide) rfl rfl) rfl) (s_one (s_ret (g_calln c_fewest_dead_by (hr.mono (by decide)) (by rfl) tk (g_cons (g_var 0 (pv 0)) (g_cons (g_var 1 (pv 1)) (g_cons (g_var 2 (pv 2)) (g_nil) rfl) rfl) rfl) (by decide) rfl rfl)))
theorem ok_do_explain (T : Bt mg) (XX : Xt K mg) (S : Std K mg "do_explain" "do_explain" s_do_explain) (c_check_looked_at : Kn P w K mg base "check_looked_at" s_check_looked_at ["track", "race", "mat"] 12 F_check_looked_at) (c_do_explain_by : Kn P w K mg base "do_explain_by" s_do_explain_by ["track", "race", "mat", "value"] 6 F_do_explain_by) : Kn P w K mg base "do_explain" s_do_explain ["track", "race", "mat", "value"] 13 F_do_explain := by
  refine kn_of (N := ["track", "race", "mat", "value"]) (k := 12) (B := B_do_explain) S sc_do_explain rfl rfl (fun _ _ _ _ _ _ us hl => match us, hl with | [_, _, _, _], _ => rfl) fun f cdv A outer s' H E hr => ?_
  have nd := sc_do_explain.nd
  have tk : Takes (cxOf (L2.CX P w) P w K mg base ["track", "race", "mat", "value"] "do_explain" (defScope s_do_explain) f cdv A outer s' H E) (Wd E) := takes_of rfl rfl rfl rfl
  exact s_cons (s_expr (g_calln c_check_looked_at (hr.mono (by decide)) (by rfl) tk (g_cons (g_var 0 (pv 0)) (g_cons (g_var 1 (pv 1)) (g_cons (g_var 2 (pv 2)) (g_nil) rfl) rfl) rfl) (by decide) rfl rfl) rfl) (s_one (s_ret (g_calln c_do_explain_by (hr.mono (by decide)) (by rfl) tk (g_cons (g_var 0 (pv 0)) (g_cons (g_var 1 (pv 1)) (g_cons (g_var 2 (pv 2)) (g_cons (g_var 3 (pv 3)) (g_nil) rfl) rfl) rfl) rfl) (by decide) rfl rfl)))
theorem ok_apart_windows (T : Bt mg) (XX : Xt K mg) (S : Std K mg "apart_windows" "apart_windows" s_apart_windows) (c_check_looked_at : Kn P w K mg base "check_looked_at" s_check_looked_at ["track", "race", "mat"] 12 F_check_looked_at) (c_apart_by : Kn P w K mg base "apart_by" s_apart_by ["track", "race", "mat"] 7 F_apart_by) : Kn P w K mg base "apart_windows" s_apart_windows ["track", "race", "mat"] 13 F_apart_windows := by
  refine kn_of (N := ["track", "race", "mat"]) (k := 12) (B := B_apart_windows) S sc_apart_windows rfl rfl (fun _ _ _ _ _ _ us hl => match us, hl with | [_, _, _], _ => rfl) fun f cdv A outer s' H E hr => ?_
  have nd := sc_apart_windows.nd
  have tk : Takes (cxOf (L2.CX P w) P w K mg base ["track", "race", "mat"] "apart_windows" (defScope s_apart_windows) f cdv A outer s' H E) (Wd E) := takes_of rfl rfl rfl rfl
  exact s_cons (s_expr (g_calln c_check_looked_at (hr.mono (by decide)) (by rfl) tk (g_cons (g_var 0 (pv 0)) (g_cons (g_var 1 (pv 1)) (g_cons (g_var 2 (pv 2)) (g_nil) rfl) rfl) rfl) (by decide) rfl rfl) rfl) (s_one (s_ret (g_calln c_apart_by (hr.mono (by decide)) (by rfl) tk (g_cons (g_var 0 (pv 0)) (g_cons (g_var 1 (pv 1)) (g_cons (g_var 2 (pv 2)) (g_nil) rfl) rfl) rfl) (by decide) rfl rfl)))
theorem ok__law_well (T : Bt mg) (XX : Xt K mg) (S : Std K mg "_law_well" "_law_well" s__law_well) : Kn P w K mg base "_law_well" s__law_well ["script", "lap"] 1 F__law_well := by
  refine kn_of (N := ["script", "lap", "own", "stir", "each"]) (k := 0) (B := B__law_well) S sc__law_well rfl rfl (fun _ _ _ _ _ _ us hl => match us, hl with | [_, _], _ => rfl) fun f cdv A outer s' H E hr => ?_
  have nd := sc__law_well.nd
  have tk : Takes (cxOf (L2.CX P w) P w K mg base ["script", "lap", "own", "stir", "each"] "_law_well" (defScope s__law_well) f cdv A outer s' H E) (Wd E) := takes_of rfl rfl rfl rfl
  exact s_cons (s_set (ps_set (i := 2) nd rfl (.inl rfl) (g_if (g_tcmp (o_lt hr.units0) v_lt (g_var 1 (pv 1)) (g_blt (pe_callB c_len (by rfl) T.len bt_len (g_cons (g_var 0 (pv 0)) (g_nil) rfl)) v_len) (nomark _)) (g_blt (pe_callTy call_int1 (by rfl) T.int bt_int (g_cons (g_ix (g_var 0 (pv 0)) (g_var 1 (pv 1)) (fun _ _ => rfl)) (g_nil) rfl)) v_int) (g_int)))) (s_cons (s_set (ps_set (i := 3) nd rfl (.inl rfl) (g_op o_add v_add (g_int) (g_op o_mul v_mul (g_int) (g_var 1 (pv 1)))))) (s_cons (s_for (ps_for (passes_of rfl) rfl (g_iter (g_op o_add v_add (g_slice (g_var 0 (pv 0)) (g_no) (g_some (g_int))) (g_lst (g_cons (g_var 2 (pv 2)) (g_nil) rfl)))) (t_tg (t := .nm 4) (pg_name (i := 4) nd rfl (by first | exact .inl rfl | exact .inr rfl))) (s_one (s_set (ps_set (i := 3) nd rfl (.inl rfl) (g_op op_mod v_mod (g_blt (pe_callTy call_int1 (by rfl) T.int bt_int (g_cons (g_op o_add v_add (g_op o_add v_add (g_op o_mul v_mul (g_var 3 (pv 3)) (g_int)) (g_op op_mod v_mod (g_blt (pe_callTy call_int1 (by rfl) T.int bt_int (g_cons (g_var 4 (pv 4)) (g_nil) rfl)) v_int) (g_int))) (g_int)) (g_nil) rfl)) v_int) (g_int))))))) (s_one (s_ret (g_mut (g_cons (g_if ((g_or (g_tcmp (o_lt hr.units0) v_lt (g_var 2 (pv 2)) (g_int) (nomark _)) (g_or1 (g_tcmp op_ge (v_cmpI _) (g_var 2 (pv 2)) (g_op op_pow v_pow (g_int) (g_int)) (nomark _)))).pt) (g_blt (pe_callB call_abs (by rfl) T.abs bt_abs (g_cons (g_var 2 (pv 2)) (g_nil) rfl)) v_abs) (g_int)) (g_cons (g_var 3 (pv 3)) (g_cons (g_int) (g_nil) rfl) rfl) rfl))))))
theorem ok__law_take (T : Bt mg) (XX : Xt K mg) (S : Std K mg "_law_take" "_law_take" s__law_take) : Kn P w K mg base "_law_take" s__law_take ["well", "many"] 1 F__law_take := by
  refine kn_of (N := ["well", "many", "digit"]) (k := 0) (B := B__law_take) S sc__law_take rfl rfl (fun _ _ _ _ _ _ us hl => match us, hl with | [_, _], _ => rfl) fun f cdv A outer s' H E hr => ?_
  have nd := sc__law_take.nd
  have tk : Takes (cxOf (L2.CX P w) P w K mg base ["well", "many", "digit"] "_law_take" (defScope s__law_take) f cdv A outer s' H E) (Wd E) := takes_of rfl rfl rfl rfl
  exact s_cons (s_if (g_tcmp op_gt (v_cmpI _) (g_ix (g_var 0 (pv 0)) (g_int) (fun _ _ => rfl)) (g_int) (nomark _)) (s_cons (s_asg (ps_asg (g_blt (pe_callB c_divmod (by rfl) T.divmod bt_divmod (g_cons (g_ix (g_var 0 (pv 0)) (g_int) (fun _ _ => rfl)) (g_cons (g_var 1 (pv 1)) (g_nil) rfl) rfl)) v_divmod) (t_tup (pg_tup rfl (t_cons (t_sub (g_var 0 (pv 0)) (g_int) (pg_sub (g_var 0 (pv 0)) (g_int) set_list)) (t_cons (t_name (pg_name (i := 2) nd rfl (.inl rfl))) (t_nil) rfl) rfl))))) (s_one (s_ret (g_var 2 (pv 2))))) (s_nil)) (s_cons (s_asg (ps_asg (g_op o_add v_add (g_ix (g_var 0 (pv 0)) (g_int) (fun _ _ => rfl)) (g_int)) (t_sub (g_var 0 (pv 0)) (g_int) (pg_sub (g_var 0 (pv 0)) (g_int) set_list)))) (s_cons (s_asg (ps_asg (g_op op_mod v_mod (g_blt (pe_callTy call_int1 (by rfl) T.int bt_int (g_cons (g_op o_add v_add (g_op o_add v_add (g_op o_mul v_mul (g_ix (g_var 0 (pv 0)) (g_int) (fun _ _ => rfl)) (g_int)) (g_op o_mul v_mul (g_ix (g_var 0 (pv 0)) (g_int) (fun _ _ => rfl)) (g_int))) (g_int)) (g_nil) rfl)) v_int) (g_int)) (t_sub (g_var 0 (pv 0)) (g_int) (pg_sub (g_var 0 (pv 0)) (g_int) set_list)))) (s_one (s_ret (g_op op_mod v_mod (g_blt (pe_callTy call_int1 (by rfl) T.int bt_int (g_cons (g_op op_fdivW v_fdiv (g_ix (g_var 0 (pv 0)) (g_int) (fun _ _ => rfl)) (g_int)) (g_nil) rfl)) v_int) (g_var 1 (pv 1)))))))
theorem ok__law_of (T : Bt mg) (XX : Xt K mg) (S : Std K mg "_law_of" "_law_of" s__law_of) (c__law_take : Kn P w K mg base "_law_take" s__law_take ["well", "many"] 1 F__law_take) : Kn P w K mg base "_law_of" s__law_of ["well", "things"] 2 F__law_of := by
  refine kn_of (N := ["well", "things"]) (k := 1) (B := B__law_of) S sc__law_of rfl rfl (fun _ _ _ _ _ _ us hl => match us, hl with | [_, _], _ => rfl) fun f cdv A outer s' H E hr => ?_
  have nd := sc__law_of.nd
  have tk : Takes (cxOf (L2.CX P w) P w K mg base ["well", "things"] "_law_of" (defScope s__law_of) f cdv A outer s' H E) (Wd E) := takes_of rfl rfl rfl rfl
  exact s_one (s_ret (g_ix (g_var 1 (pv 1)) (g_calln c__law_take (hr.mono (by decide)) (by rfl) tk (g_cons (g_var 0 (pv 0)) (g_cons (g_blt (pe_callB c_len (by rfl) T.len bt_len (g_cons (g_var 1 (pv 1)) (g_nil) rfl)) v_len) (g_nil) rfl) rfl) (by decide) rfl rfl) (fun _ _ => rfl)))
theorem ok__law_same (T : Bt mg) (XX : Xt K mg) (S : Std K mg "_law_same" "_law_same" s__law_same) : Kn P w K mg base "_law_same" s__law_same ["told", "due"] 21 F__law_same_v3 := by
  have all : ∀ n, Kn P w K mg base "_law_same" s__law_same ["told", "due"] (1 + n) (R__law_same_v3 n) := by
    intro n
    induction n with
    | zero => exact kn_fail S (fun _ _ _ _ _ _ us hl => match us, hl with | [_, _], _ => rfl)
    | succ j c__law_same =>
      refine kn_of (N := ["told", "due", "at"]) (k := 1 + j) (B := B__law_same_v3 (R__law_same_v3 j)) S sc__law_same rfl rfl (fun _ _ _ _ _ _ us hl => match us, hl with | [_, _], _ => rfl) fun f cdv A outer s' H E hr => ?_
      have nd := sc__law_same.nd
      have tk : Takes (cxOf (L2.CX P w) P w K mg base ["told", "due", "at"] "_law_same" (defScope s__law_same) f cdv A outer s' H E) (Wd E) := takes_of rfl rfl rfl rfl
      exact s_cons (s_if ((g_or ((g_and (g_tval (g_isi .tup (g_var 1 (pv 1)) (fun h => pe_callB call_isi (by rfl) T.isinstance bt_isinstance (pa_cons h (pa_cons (pe_bltn (by rfl) T.tuple bt_tuple rfl) pa_nil)))) (by intro _; rfl)) (g_and1 (g_tnot (g_tval (g_isi .tup (g_var 0 (pv 0)) (fun h => pe_callB call_isi (by rfl) T.isinstance bt_isinstance (pa_cons h (pa_cons (pe_bltn (by rfl) T.tuple bt_tuple rfl) pa_nil)))) (by intro _; rfl))))).pt) (g_or1 ((g_and (g_tval (g_isi .lst (g_var 1 (pv 1)) (fun h => pe_callB call_isi (by rfl) T.isinstance bt_isinstance (pa_cons h (pa_cons (pe_bltn (by rfl) T.list bt_list rfl) pa_nil)))) (by intro _; rfl)) (g_and1 (g_tnot (g_tval (g_isi .lst (g_var 0 (pv 0)) (fun h => pe_callB call_isi (by rfl) T.isinstance bt_isinstance (pa_cons h (pa_cons (pe_bltn (by rfl) T.list bt_list rfl) pa_nil)))) (by intro _; rfl))))).pt))).pt) (s_one (s_ret (g_bl))) (s_nil)) (s_cons (s_if (g_tval (g_isi2 .tup .lst (g_var 1 (pv 1)) (fun h => pe_callB call_isiT (by rfl) T.isinstance bt_isinstance (pa_cons h (pa_cons (pe_tup (pa_cons (pe_bltn (by rfl) T.tuple bt_tuple rfl) (pa_cons (pe_bltn (by rfl) T.list bt_list rfl) pa_nil))) pa_nil)))) (by intro _; rfl)) (s_one (s_ret (g_vand (g_cmp (o_eqE hr.units) v_eqE (g_blt (pe_callB c_lenE (by rfl) T.len bt_len (g_cons (g_var 0 (pv 0)) (g_nil) rfl)) v_lenE) (g_blt (pe_callB c_lenE (by rfl) T.len bt_len (g_cons (g_var 1 (pv 1)) (g_nil) rfl)) v_lenE) (nomark _)) (g_one (g_blt (pe_callB (cq_all rfl) (by rfl) T.all bt_all (g_cons (g_lc (by decide) (pe_lc (own := [("at", 2)]) rfl nd (g_range1 (pi_range1 (by rfl) T.range (g_cons (g_blt (pe_callB c_lenE (by rfl) T.len bt_len (g_cons (g_var 1 (pv 1)) (g_nil) rfl)) v_lenE) (g_nil) rfl))) (blkOk_by (N := ["told", "due", "at"]) (sc := defScope s__law_same) (by decide +kernel)) (fun _ _ _ _ _ => pg_name (i := 2) nd rfl (by first | exact .inl rfl | exact .inr rfl)) (fun _ _ _ _ _ => g_yes) (fun _ _ _ _ _ => g_calln c__law_same (hr.mono (by omega)) (by rfl) takes0 (g_cons (g_ix (g_var 0 (pv 0)) (g_var 2 (pv 2)) (fun _ _ => rfl)) (g_cons (g_ix (g_var 1 (pv 1)) (g_var 2 (pv 2)) (fun _ _ => rfl)) (g_nil) rfl) rfl) (by decide) rfl rfl))) (g_nil) rfl)) v_all))))) (s_nil)) (s_cons (s_if ((g_or (g_tcmp op_isN v_isN (g_var 1 (pv 1)) (g_non) (nomark _)) (g_or1 (g_tcmp op_isN v_isN (g_var 0 (pv 0)) (g_non) (nomark _)))).pt) (s_one (s_ret (g_vand (g_cmp op_isN v_isN (g_var 1 (pv 1)) (g_non) (nomark _)) (g_one (g_cmp op_isN v_isN (g_var 0 (pv 0)) (g_non) (nomark _)))))) (s_nil)) (s_cons (s_if ((g_or (g_tval (g_isi .bl (g_var 1 (pv 1)) (fun h => pe_callB call_isi (by rfl) T.isinstance bt_isinstance (pa_cons h (pa_cons (pe_bltn (by rfl) T.bool bt_bool rfl) pa_nil)))) (by intro _; rfl)) (g_or1 (g_tval (g_isi .bl (g_var 0 (pv 0)) (fun h => pe_callB call_isi (by rfl) T.isinstance bt_isinstance (pa_cons h (pa_cons (pe_bltn (by rfl) T.bool bt_bool rfl) pa_nil)))) (by intro _; rfl)))).pt) (s_one (s_ret (g_vand (g_isi .bl (g_var 1 (pv 1)) (fun h => pe_callB call_isi (by rfl) T.isinstance bt_isinstance (pa_cons h (pa_cons (pe_bltn (by rfl) T.bool bt_bool rfl) pa_nil)))) (g_vand (g_isi .bl (g_var 0 (pv 0)) (fun h => pe_callB call_isi (by rfl) T.isinstance bt_isinstance (pa_cons h (pa_cons (pe_bltn (by rfl) T.bool bt_bool rfl) pa_nil)))) (g_one (g_cmp (o_eqE hr.units) v_eqE (g_var 1 (pv 1)) (g_var 0 (pv 0)) (nomark _))))))) (s_nil)) (s_cons (s_if (g_tval (g_isi .int (g_var 1 (pv 1)) (fun h => pe_callB call_isi (by rfl) T.isinstance bt_isinstance (pa_cons h (pa_cons (pe_bltn (by rfl) T.int bt_int rfl) pa_nil)))) (by intro _; rfl)) (s_one (s_ret (g_vand (g_isi .int (g_var 0 (pv 0)) (fun h => pe_callB call_isi (by rfl) T.isinstance bt_isinstance (pa_cons h (pa_cons (pe_bltn (by rfl) T.int bt_int rfl) pa_nil)))) (g_one (g_cmp (o_eqE hr.units) v_eqE (g_var 0 (pv 0)) (g_var 1 (pv 1)) (nomark _)))))) (s_nil)) (s_cons (s_if (g_tval (g_isi .str (g_var 1 (pv 1)) (fun h => pe_callB call_isi (by rfl) T.isinstance bt_isinstance (pa_cons h (pa_cons (pe_bltn (by rfl) T.str bt_str rfl) pa_nil)))) (by intro _; rfl)) (s_one (s_ret (g_vand (g_isi .str (g_var 0 (pv 0)) (fun h => pe_callB call_isi (by rfl) T.isinstance bt_isinstance (pa_cons h (pa_cons (pe_bltn (by rfl) T.str bt_str rfl) pa_nil)))) (g_one (g_cmp (o_eqE hr.units) v_eqE (g_var 0 (pv 0)) (g_var 1 (pv 1)) (nomark _)))))) (s_nil)) (s_one (s_ret (g_vand (g_isi .dic (g_var 1 (pv 1)) (fun h => pe_callB call_isi (by rfl) T.isinstance bt_isinstance (pa_cons h (pa_cons (pe_bltn (by rfl) T.dict bt_dict rfl) pa_nil)))) (g_vand (g_isi .dic (g_var 0 (pv 0)) (fun h => pe_callB call_isi (by rfl) T.isinstance bt_isinstance (pa_cons h (pa_cons (pe_bltn (by rfl) T.dict bt_dict rfl) pa_nil)))) (g_vand (g_cmp (o_eqE hr.units) v_eqE (g_blt (pe_callB c_lenE (by rfl) T.len bt_len (g_cons (g_var 0 (pv 0)) (g_nil) rfl)) v_lenE) (g_blt (pe_callB c_lenE (by rfl) T.len bt_len (g_cons (g_var 1 (pv 1)) (g_nil) rfl)) v_lenE) (nomark _)) (g_one (g_cmp (o_eqE hr.units) v_eqE (g_var 0 (pv 0)) (g_var 1 (pv 1)) (nomark _)))))))))))))
  exact all 20
theorem ok__law_track (T : Bt mg) (XX : Xt K mg) (S : Std K mg "_law_track" "_law_track" s__law_track) (c__law_of : Kn P w K mg base "_law_of" s__law_of ["well", "things"] 2 F__law_of) (c__law_take : Kn P w K mg base "_law_take" s__law_take ["well", "many"] 1 F__law_take) : Kn P w K mg base "_law_track" s__law_track ["well"] 3 F__law_track := by
  refine kn_of (N := ["well", "wide", "mat"]) (k := 2) (B := B__law_track) S sc__law_track rfl rfl (fun _ _ _ _ _ _ us hl => match us, hl with | [_], _ => rfl) fun f cdv A outer s' H E hr => ?_
  have nd := sc__law_track.nd
  have tk : Takes (cxOf (L2.CX P w) P w K mg base ["well", "wide", "mat"] "_law_track" (defScope s__law_track) f cdv A outer s' H E) (Wd E) := takes_of rfl rfl rfl rfl
  exact s_cons (s_set (ps_set (i := 1) nd rfl (.inr rfl) (g_calln c__law_of (hr.mono (by decide)) (by rfl) tk (g_cons (g_var 0 (pv 0)) (g_cons (g_tup (g_cons (g_int) (g_cons (g_int) (g_cons (g_int) (g_nil) rfl) rfl) rfl)) (g_nil) rfl) rfl) (by decide) rfl rfl))) (s_one (s_ret (g_blt (pe_callTy call_tuple_of (by rfl) T.tuple bt_tuple (g_cons (g_lc (by decide) (pe_lc (own := [("mat", 2)]) rfl nd (g_range1 (pi_range1 (by rfl) T.range (g_cons (g_op o_add v_add (g_int) (g_calln c__law_take (hr.mono (by decide)) (by rfl) tk (g_cons (g_var 0 (pv 0)) (g_cons (g_calln c__law_of (hr.mono (by decide)) (by rfl) tk (g_cons (g_var 0 (pv 0)) (g_cons (g_tup (g_cons (g_int) (g_cons (g_int) (g_cons (g_int) (g_nil) rfl) rfl) rfl)) (g_nil) rfl) rfl) (by decide) rfl rfl) (g_nil) rfl) rfl) (by decide) rfl rfl)) (g_nil) rfl))) (blkOk_by (N := ["well", "wide", "mat"]) (sc := defScope s__law_track) (by decide +kernel)) (fun _ _ _ _ _ => pg_name (i := 2) nd rfl (by first | exact .inl rfl | exact .inr rfl)) (fun _ _ _ _ _ => g_yes) (fun _ _ _ _ _ => g_op o_add v_add (g_int) (g_calln c__law_take (hr.mono (by decide)) (by rfl) takes0 (g_cons (g_var 0 (pv 0)) (g_cons (g_var 1 (pv 1)) (g_nil) rfl) rfl) (by decide) rfl rfl)))) (g_nil) rfl)) v_tuple)))
theorem ok__law_course (T : Bt mg) (XX : Xt K mg) (S : Std K mg "_law_course" "_law_course" s__law_course) (c__law_of : Kn P w K mg base "_law_of" s__law_of ["well", "things"] 2 F__law_of) (c__law_take : Kn P w K mg base "_law_take" s__law_take ["well", "many"] 1 F__law_take) : Kn P w K mg base "_law_course" s__law_course ["well", "track", "start", "most"] 3 F__law_course := by
  refine kn_of (N := ["well", "track", "start", "most", "found", "time", "mat", "slow", "share", "turn"]) (k := 2) (B := B__law_course) S sc__law_course rfl rfl (fun _ _ _ _ _ _ us hl => match us, hl with | [_, _, _, _], _ => rfl) fun f cdv A outer s' H E hr => ?_
  have nd := sc__law_course.nd
  have tk : Takes (cxOf (L2.CX P w) P w K mg base ["well", "track", "start", "most", "found", "time", "mat", "slow", "share", "turn"] "_law_course" (defScope s__law_course) f cdv A outer s' H E) (Wd E) := takes_of rfl rfl rfl rfl
  exact s_cons (s_asg (ps_asg (g_tup (g_cons (g_mut (g_nil)) (g_cons (g_var 2 (pv 2)) (g_cons (g_int) (g_cons (g_calln c__law_of (hr.mono (by decide)) (by rfl) tk (g_cons (g_var 0 (pv 0)) (g_cons (g_tup (g_cons (g_int) (g_cons (g_int) (g_cons (g_int) (g_nil) rfl) rfl) rfl)) (g_nil) rfl) rfl) (by decide) rfl rfl) (g_cons (g_calln c__law_of (hr.mono (by decide)) (by rfl) tk (g_cons (g_var 0 (pv 0)) (g_cons (g_tup (g_cons (g_int) (g_cons (g_int) (g_cons (g_int) (g_nil) rfl) rfl) rfl)) (g_nil) rfl) rfl) (by decide) rfl rfl) (g_nil) rfl) rfl) rfl) rfl) rfl)) (t_tup (pg_tup rfl (t_cons (t_name (pg_name (i := 4) nd rfl (.inl rfl))) (t_cons (t_name (pg_name (i := 5) nd rfl (.inl rfl))) (t_cons (t_name (pg_name (i := 6) nd rfl (.inl rfl))) (t_cons (t_name (pg_name (i := 7) nd rfl (.inl rfl))) (t_cons (t_name (pg_name (i := 8) nd rfl (.inl rfl))) (t_nil) rfl) rfl) rfl) rfl) rfl))))) (s_cons (s_for (ps_for (passes_of rfl) rfl (g_range1 (pi_range1 (by rfl) T.range (g_cons (g_int) (g_nil) rfl))) (t_tg (t := .nm 9) (pg_name (i := 9) nd rfl (by first | exact .inl rfl | exact .inr rfl))) (s_cons (s_par (ps_par (i := 5) (j := 6) rfl nd rfl rfl (by decide) rfl rfl (g_cons (g_op o_add v_add (g_op o_add v_add (g_var 5 (pv 5)) (g_ix (g_var 1 (pv 1)) (g_var 6 (pv 6)) (fun _ _ => rfl))) (g_calln c__law_take (hr.mono (by decide)) (by rfl) tk (g_cons (g_var 0 (pv 0)) (g_cons (g_var 7 (pv 7)) (g_nil) rfl) rfl) (by decide) rfl rfl)) (g_cons (g_op op_mod v_mod (g_blt (pe_callTy call_int1 (by rfl) T.int bt_int (g_cons (g_op o_add v_add (g_var 6 (pv 6)) (g_int)) (g_nil) rfl)) v_int) (g_blt (pe_callB c_len (by rfl) T.len bt_len (g_cons (g_var 1 (pv 1)) (g_nil) rfl)) v_len)) (g_nil) rfl) rfl) (by rfl))) (s_one (s_if ((g_and (g_tcmp op_gt (v_cmpI _) (g_calln c__law_take (hr.mono (by decide)) (by rfl) tk (g_cons (g_var 0 (pv 0)) (g_cons (g_var 8 (pv 8)) (g_nil) rfl) rfl) (by decide) rfl rfl) (g_int) (nomark _)) (g_and1 (g_tcmp (o_lt hr.units0) v_lt (g_blt (pe_callB c_len (by rfl) T.len bt_len (g_cons (g_var 4 (pv 4)) (g_nil) rfl)) v_len) (g_var 3 (pv 3)) (nomark _)))).pt) (s_one (s_expr (g_methL (pe_bm PySem.F.plainAttrs_list PySem.F.slot_list_append PySem.F.type_list_append mt_append (g_var 4 (pv 4)) (g_cons (g_tup (g_cons (g_var 5 (pv 5)) (g_cons (g_var 6 (pv 6)) (g_nil) rfl) rfl)) (g_nil) rfl)) v_append) rfl)) (s_nil)))))) (s_one (s_ret (g_blt (pe_callTy call_tuple_of (by rfl) T.tuple bt_tuple (g_cons (g_slice (g_var 4 (pv 4)) (g_no) (g_some (g_calln c__law_take (hr.mono (by decide)) (by rfl) tk (g_cons (g_var 0 (pv 0)) (g_cons (g_op o_add v_add (g_var 3 (pv 3)) (g_int)) (g_nil) rfl) rfl) (by decide) rfl rfl))) (g_nil) rfl)) v_tuple))))
theorem ok__law_race (T : Bt mg) (XX : Xt K mg) (S : Std K mg "_law_race" "_law_race" s__law_race) (c__law_of : Kn P w K mg base "_law_of" s__law_of ["well", "things"] 2 F__law_of) (c__law_take : Kn P w K mg base "_law_take" s__law_take ["well", "many"] 1 F__law_take) (c__law_course : Kn P w K mg base "_law_course" s__law_course ["well", "track", "start", "most"] 3 F__law_course) : Kn P w K mg base "_law_race" s__law_race ["well", "track", "most"] 4 F__law_race := by
  refine kn_of (N := ["well", "track", "most", "start", "runner"]) (k := 3) (B := B__law_race) S sc__law_race rfl rfl (fun _ _ _ _ _ _ us hl => match us, hl with | [_, _, _], _ => rfl) fun f cdv A outer s' H E hr => ?_
  have nd := sc__law_race.nd
  have tk : Takes (cxOf (L2.CX P w) P w K mg base ["well", "track", "most", "start", "runner"] "_law_race" (defScope s__law_race) f cdv A outer s' H E) (Wd E) := takes_of rfl rfl rfl rfl
  exact s_cons (s_set (ps_set (i := 3) nd rfl (.inr rfl) (g_calln c__law_of (hr.mono (by decide)) (by rfl) tk (g_cons (g_var 0 (pv 0)) (g_cons (g_tup (g_cons (g_int) (g_cons (g_int) (g_cons (g_op o_add v_add (g_op op_pow v_pow (g_int) (g_int)) (g_int)) (g_nil) rfl) rfl) rfl)) (g_nil) rfl) rfl) (by decide) rfl rfl))) (s_one (s_ret (g_tup (g_cons (g_var 3 (pv 3)) (g_cons (g_blt (pe_callTy call_tuple_of (by rfl) T.tuple bt_tuple (g_cons (g_lc (by decide) (pe_lc (own := [("runner", 4)]) rfl nd (g_range1 (pi_range1 (by rfl) T.range (g_cons (g_op o_add v_add (g_int) (g_calln c__law_take (hr.mono (by decide)) (by rfl) tk (g_cons (g_var 0 (pv 0)) (g_cons (g_int) (g_nil) rfl) rfl) (by decide) rfl rfl)) (g_nil) rfl))) (blkOk_by (N := ["well", "track", "most", "start", "runner"]) (sc := defScope s__law_race) (by decide +kernel)) (fun _ _ _ _ _ => pg_name (i := 4) nd rfl (by first | exact .inl rfl | exact .inr rfl)) (fun _ _ _ _ _ => g_yes) (fun _ _ _ _ _ => g_calln c__law_course (hr.mono (by decide)) (by rfl) takes0 (g_cons (g_var 0 (pv 0)) (g_cons (g_var 1 (pv 1)) (g_cons (g_var 3 (pv 3)) (g_cons (g_var 2 (pv 2)) (g_nil) rfl) rfl) rfl) rfl) (by decide) rfl rfl))) (g_nil) rfl)) v_tuple) (g_nil) rfl) rfl))))
theorem ok__law_odd_tracks (T : Bt mg) (XX : Xt K mg) (S : Std K mg "_law_odd_tracks" "_law_odd_tracks" s__law_odd_tracks) : Kn P w K mg base "_law_odd_tracks" s__law_odd_tracks ["track"] 1 F__law_odd_tracks := by
  refine kn_of (N := ["track"]) (k := 0) (B := B__law_odd_tracks) S sc__law_odd_tracks rfl rfl (fun _ _ _ _ _ _ us hl => match us, hl with | [_], _ => rfl) fun f cdv A outer s' H E hr => ?_
  have nd := sc__law_odd_tracks.nd
  have tk : Takes (cxOf (L2.CX P w) P w K mg base ["track"] "_law_odd_tracks" (defScope s__law_odd_tracks) f cdv A outer s' H E) (Wd E) := takes_of rfl rfl rfl rfl
  exact s_one (s_ret (g_lst (g_cons (g_non) (g_cons (g_int) (g_cons (g_str) (g_cons (g_tup (g_nil)) (g_cons (g_blt (pe_callTy call_list_of (by rfl) T.list bt_list (g_cons (g_var 0 (pv 0)) (g_nil) rfl)) v_list) (g_cons (g_op o_add v_add (g_tup (g_cons (g_int) (g_nil) rfl)) (g_slice (g_var 0 (pv 0)) (g_some (g_int)) (g_no))) (g_cons (g_op o_add v_add (g_slice (g_var 0 (pv 0)) (g_no) (g_some (g_un un_neg v_neg (g_int)))) (g_tup (g_cons (g_bl) (g_nil) rfl))) (g_cons (g_op o_add v_add (g_slice (g_var 0 (pv 0)) (g_no) (g_some (g_un un_neg v_neg (g_int)))) (g_tup (g_cons (g_non) (g_nil) rfl))) (g_cons (g_op o_add v_add (g_slice (g_var 0 (pv 0)) (g_no) (g_some (g_un un_neg v_neg (g_int)))) (g_tup (g_cons (g_op op_sub v_sub (g_int) (g_int)) (g_nil) rfl))) (g_cons (g_op o_mul v_mul (g_tup (g_cons (g_int) (g_nil) rfl)) (g_int)) (g_cons (g_tup (g_cons (g_str) (g_nil) rfl)) (g_cons (g_emp) (g_cons (g_tup (g_cons (g_var 0 (pv 0)) (g_nil) rfl)) (g_nil) rfl) rfl) rfl) rfl) rfl) rfl) rfl) rfl) rfl) rfl) rfl) rfl) rfl)))
theorem ok__law_odd_races (T : Bt mg) (XX : Xt K mg) (S : Std K mg "_law_odd_races" "_law_odd_races" s__law_odd_races) : Kn P w K mg base "_law_odd_races" s__law_odd_races ["track", "race"] 1 F__law_odd_races := by
  refine kn_of (N := ["track", "race", "start", "rows", "found", "bad"]) (k := 0) (B := B__law_odd_races) S sc__law_odd_races rfl rfl (fun _ _ _ _ _ _ us hl => match us, hl with | [_, _], _ => rfl) fun f cdv A outer s' H E hr => ?_
  have nd := sc__law_odd_races.nd
  have tk : Takes (cxOf (L2.CX P w) P w K mg base ["track", "race", "start", "rows", "found", "bad"] "_law_odd_races" (defScope s__law_odd_races) f cdv A outer s' H E) (Wd E) := takes_of rfl rfl rfl rfl
  exact s_cons (s_asg (ps_asg (g_var 1 (pv 1)) (t_tup (pg_tup rfl (t_cons (t_name (pg_name (i := 2) nd rfl (.inr rfl))) (t_cons (t_name (pg_name (i := 3) nd rfl (.inr rfl))) (t_nil) rfl) rfl))))) (s_cons (s_set (ps_set (i := 4) nd rfl (.inl rfl) (g_lst (g_cons (g_non) (g_cons (g_int) (g_cons (g_str) (g_cons (g_tup (g_nil)) (g_cons (g_tup (g_cons (g_var 2 (pv 2)) (g_nil) rfl)) (g_cons (g_tup (g_cons (g_var 2 (pv 2)) (g_cons (g_var 3 (pv 3)) (g_cons (g_tup (g_nil)) (g_nil) rfl) rfl) rfl)) (g_cons (g_lst (g_cons (g_var 2 (pv 2)) (g_cons (g_var 3 (pv 3)) (g_nil) rfl) rfl)) (g_cons (g_tup (g_cons (g_var 2 (pv 2)) (g_cons (g_blt (pe_callTy call_list_of (by rfl) T.list bt_list (g_cons (g_var 3 (pv 3)) (g_nil) rfl)) v_list) (g_nil) rfl) rfl)) (g_cons (g_tup (g_cons (g_op op_sub v_sub (g_int) (g_int)) (g_cons (g_var 3 (pv 3)) (g_nil) rfl) rfl)) (g_cons (g_tup (g_cons (g_bl) (g_cons (g_var 3 (pv 3)) (g_nil) rfl) rfl)) (g_cons (g_tup (g_cons (g_non) (g_cons (g_var 3 (pv 3)) (g_nil) rfl) rfl)) (g_cons (g_tup (g_cons (g_var 2 (pv 2)) (g_cons (g_tup (g_nil)) (g_nil) rfl) rfl)) (g_cons (g_tup (g_cons (g_var 2 (pv 2)) (g_cons (g_op o_mul v_mul (g_tup (g_cons (g_tup (g_nil)) (g_nil) rfl)) (g_int)) (g_nil) rfl) rfl)) (g_cons (g_emp) (g_cons (g_tup (g_cons (g_var 3 (pv 3)) (g_cons (g_var 2 (pv 2)) (g_nil) rfl) rfl)) (g_nil) rfl) rfl) rfl) rfl) rfl) rfl) rfl) rfl) rfl) rfl) rfl) rfl) rfl) rfl) rfl)))) (s_cons (s_set (ps_set (i := 4) nd rfl (.inl rfl) (g_op o_add v_add (g_var 4 (pv 4)) (g_lc (by decide) (pe_lc (own := [("bad", 5)]) rfl nd (g_iter (g_tup (g_cons (g_non) (g_cons (g_lst (g_nil)) (g_cons (g_tup (g_cons (g_tup (g_cons (g_var 2 (pv 2)) (g_cons (g_int) (g_nil) rfl) rfl)) (g_nil) rfl)) (g_cons (g_tup (g_cons (g_tup (g_cons (g_op o_add v_add (g_var 2 (pv 2)) (g_int)) (g_nil) rfl)) (g_nil) rfl)) (g_cons (g_tup (g_cons (g_tup (g_cons (g_op o_add v_add (g_var 2 (pv 2)) (g_int)) (g_cons (g_blt (pe_callB c_len (by rfl) T.len bt_len (g_cons (g_var 0 (pv 0)) (g_nil) rfl)) v_len) (g_nil) rfl) rfl)) (g_nil) rfl)) (g_cons (g_tup (g_cons (g_tup (g_cons (g_op o_add v_add (g_var 2 (pv 2)) (g_int)) (g_cons (g_int) (g_nil) rfl) rfl)) (g_cons (g_tup (g_cons (g_op o_add v_add (g_var 2 (pv 2)) (g_int)) (g_cons (g_int) (g_nil) rfl) rfl)) (g_nil) rfl) rfl)) (g_cons (g_tup (g_cons (g_tup (g_cons (g_op o_add v_add (g_var 2 (pv 2)) (g_int)) (g_cons (g_bl) (g_nil) rfl) rfl)) (g_nil) rfl)) (g_nil) rfl) rfl) rfl) rfl) rfl) rfl) rfl))) (blkOk_by (N := ["track", "race", "start", "rows", "found", "bad"]) (sc := defScope s__law_odd_races) (by decide +kernel)) (fun _ _ _ _ _ => pg_name (i := 5) nd rfl (by first | exact .inl rfl | exact .inr rfl)) (fun _ _ _ _ _ => g_yes) (fun _ _ _ _ _ => g_tup (g_cons (g_var 2 (pv 2)) (g_cons (g_op o_add v_add (g_slice (g_var 3 (pv 3)) (g_no) (g_some (g_un un_neg v_neg (g_int)))) (g_tup (g_cons (g_var 5 (pv 5)) (g_nil) rfl))) (g_nil) rfl) rfl))))))) (s_one (s_ret (g_op o_add v_add (g_var 4 (pv 4)) (g_lst (g_cons (g_tup (g_cons (g_var 2 (pv 2)) (g_cons (g_if (g_tcmp op_gt (v_cmpI _) (g_blt (pe_callB (cq_sum rfl) (by rfl) T.sum bt_sum (g_cons (g_var 0 (pv 0)) (g_nil) rfl)) v_sum) (g_int) (nomark _)) (g_op o_add v_add (g_slice (g_var 3 (pv 3)) (g_no) (g_some (g_un un_neg v_neg (g_int)))) (g_tup (g_cons (g_tup (g_cons (g_tup (g_cons (g_op o_add v_add (g_var 2 (pv 2)) (g_op op_pow v_pow (g_int) (g_int))) (g_cons (g_int) (g_nil) rfl) rfl)) (g_cons (g_tup (g_cons (g_op o_add v_add (g_op o_add v_add (g_var 2 (pv 2)) (g_op op_pow v_pow (g_int) (g_int))) (g_int)) (g_cons (g_int) (g_nil) rfl) rfl)) (g_nil) rfl) rfl)) (g_nil) rfl))) (g_tup (g_cons (g_non) (g_nil) rfl))) (g_nil) rfl) rfl)) (g_nil) rfl)))))))
theorem ok__law_odd_mats (T : Bt mg) (XX : Xt K mg) (S : Std K mg "_law_odd_mats" "_law_odd_mats" s__law_odd_mats) : Kn P w K mg base "_law_odd_mats" s__law_odd_mats ["track"] 1 F__law_odd_mats := by
  refine kn_of (N := ["track"]) (k := 0) (B := B__law_odd_mats) S sc__law_odd_mats rfl rfl (fun _ _ _ _ _ _ us hl => match us, hl with | [_], _ => rfl) fun f cdv A outer s' H E hr => ?_
  have nd := sc__law_odd_mats.nd
  have tk : Takes (cxOf (L2.CX P w) P w K mg base ["track"] "_law_odd_mats" (defScope s__law_odd_mats) f cdv A outer s' H E) (Wd E) := takes_of rfl rfl rfl rfl
  exact s_one (s_ret (g_lst (g_cons (g_non) (g_cons (g_blt (pe_callB c_len (by rfl) T.len bt_len (g_cons (g_var 0 (pv 0)) (g_nil) rfl)) v_len) (g_cons (g_op op_sub v_sub (g_int) (g_int)) (g_cons (g_bl) (g_cons (g_bl) (g_cons (g_str) (g_cons (g_tup (g_cons (g_int) (g_nil) rfl)) (g_cons (g_lst (g_nil)) (g_cons (g_op op_pow v_pow (g_int) (g_int)) (g_nil) rfl) rfl) rfl) rfl) rfl) rfl) rfl) rfl) rfl)))
theorem ok__law_done (T : Bt mg) (XX : Xt K mg) (S : Std K mg "_law_done" "_law_done" s__law_done) (c_least_misses : Kn P w K mg base "least_misses" s_least_misses ["track", "race"] 12 F_least_misses) (c_windows : Kn P w K mg base "windows" s_windows ["track", "race", "mat"] 13 F_windows) (c_strays : Kn P w K mg base "strays" s_strays ["track", "race", "mat"] 13 F_strays) (c_fewest_dead : Kn P w K mg base "fewest_dead" s_fewest_dead ["track", "race", "mat"] 13 F_fewest_dead) (c_apart_windows : Kn P w K mg base "apart_windows" s_apart_windows ["track", "race", "mat"] 13 F_apart_windows) (c_do_explain : Kn P w K mg base "do_explain" s_do_explain ["track", "race", "mat", "value"] 13 F_do_explain) : Kn P w K mg base "_law_done" s__law_done ["way", "a"] 14 F__law_done := by
  refine kn_of (N := ["way", "a"]) (k := 13) (B := B__law_done) S sc__law_done rfl rfl (fun _ _ _ _ _ _ us hl => match us, hl with | [_, _], _ => rfl) fun f cdv A outer s' H E hr => ?_
  have nd := sc__law_done.nd
  have tk : Takes (cxOf (L2.CX P w) P w K mg base ["way", "a"] "_law_done" (defScope s__law_done) f cdv A outer s' H E) (Wd E) := takes_of rfl rfl rfl rfl
  exact s_cons (s_if (g_tcmp (o_lt hr.units0) v_lt (g_var 0 (pv 0)) (g_int) (nomark _)) (s_one (s_ret (g_if (g_tcmp (o_eq hr.units) v_eq (g_var 0 (pv 0)) (g_int) (nomark _)) (g_callkn0 (ks := ["race", "track"]) (ix := [1, 0]) c_least_misses (hr.mono (by decide)) (by rfl) tk (fun _ _ _ _ _ _ _ us ws h1 h2 => match us, ws, h1, h2 with | [], [_, _], _, _ => rfl) (k_cons (g_ix (g_var 1 (pv 1)) (g_int) (fun _ _ => rfl)) (k_cons (g_ix (g_var 1 (pv 1)) (g_int) (fun _ _ => rfl)) (k_nil))) rfl rfl (by decide) rfl) (g_if (g_tcmp (o_eq hr.units) v_eq (g_var 0 (pv 0)) (g_int) (nomark _)) (g_calln c_windows (hr.mono (by decide)) (by rfl) tk (g_cons (g_ix (g_var 1 (pv 1)) (g_int) (fun _ _ => rfl)) (g_cons (g_ix (g_var 1 (pv 1)) (g_int) (fun _ _ => rfl)) (g_cons (g_ix (g_var 1 (pv 1)) (g_int) (fun _ _ => rfl)) (g_nil) rfl) rfl) rfl) (by decide) rfl rfl) (g_callkn0 (ks := ["mat", "race", "track"]) (ix := [2, 1, 0]) c_strays (hr.mono (by decide)) (by rfl) tk (fun _ _ _ _ _ _ _ us ws h1 h2 => match us, ws, h1, h2 with | [], [_, _, _], _, _ => rfl) (k_cons (g_ix (g_var 1 (pv 1)) (g_int) (fun _ _ => rfl)) (k_cons (g_ix (g_var 1 (pv 1)) (g_int) (fun _ _ => rfl)) (k_cons (g_ix (g_var 1 (pv 1)) (g_int) (fun _ _ => rfl)) (k_nil)))) rfl rfl (by decide) rfl))))) (s_nil)) (s_cons (s_if (g_tcmp (o_lt hr.units0) v_lt (g_var 0 (pv 0)) (g_int) (nomark _)) (s_one (s_ret (g_if (g_tcmp (o_eq hr.units) v_eq (g_var 0 (pv 0)) (g_int) (nomark _)) (g_calln c_fewest_dead (hr.mono (by decide)) (by rfl) tk (g_cons (g_ix (g_var 1 (pv 1)) (g_int) (fun _ _ => rfl)) (g_cons (g_ix (g_var 1 (pv 1)) (g_int) (fun _ _ => rfl)) (g_cons (g_ix (g_var 1 (pv 1)) (g_int) (fun _ _ => rfl)) (g_nil) rfl) rfl) rfl) (by decide) rfl rfl) (g_callkn0 (ks := ["mat", "race", "track"]) (ix := [2, 1, 0]) c_apart_windows (hr.mono (by decide)) (by rfl) tk (fun _ _ _ _ _ _ _ us ws h1 h2 => match us, ws, h1, h2 with | [], [_, _, _], _, _ => rfl) (k_cons (g_ix (g_var 1 (pv 1)) (g_int) (fun _ _ => rfl)) (k_cons (g_ix (g_var 1 (pv 1)) (g_int) (fun _ _ => rfl)) (k_cons (g_ix (g_var 1 (pv 1)) (g_int) (fun _ _ => rfl)) (k_nil)))) rfl rfl (by decide) rfl)))) (s_nil)) (s_one (s_ret (g_calln c_do_explain (hr.mono (by decide)) (by rfl) tk (g_cons (g_ix (g_var 1 (pv 1)) (g_int) (fun _ _ => rfl)) (g_cons (g_ix (g_var 1 (pv 1)) (g_int) (fun _ _ => rfl)) (g_cons (g_ix (g_var 1 (pv 1)) (g_int) (fun _ _ => rfl)) (g_cons (g_ix (g_var 1 (pv 1)) (g_int) (fun _ _ => rfl)) (g_nil) rfl) rfl) rfl) rfl) (by decide) rfl rfl))))
theorem ok__law_said (T : Bt mg) (XX : Xt K mg) (S : Std K mg "_law_said" "_law_said" s__law_said) (c__law_done : Kn P w K mg base "_law_done" s__law_done ["way", "a"] 14 F__law_done) : Kn P w K mg base "_law_said" s__law_said ["way", "things"] 15 F__law_said := by
  refine kn_of (N := ["way", "things", "e"]) (k := 14) (B := B__law_said) S sc__law_said rfl rfl (fun _ _ _ _ _ _ us hl => match us, hl with | [_, _], _ => rfl) fun f cdv A outer s' H E hr => ?_
  have nd := sc__law_said.nd
  have tk : Takes (cxOf (L2.CX P w) P w K mg base ["way", "things", "e"] "_law_said" (defScope s__law_said) f cdv A outer s' H E) (Wd E) := takes_of rfl rfl rfl rfl
  exact s_cons (s_try XX.xt (by decide) (by decide +kernel) rfl rfl nd tk (fun W pn xe tk hpo => s_one (s_expr (g_calln c__law_done (hr.mono (by decide)) (by rfl) tk (g_cons (g_var 0 (pv 0)) (g_cons (g_var 1 (pv 1)) (g_nil) rfl) rfl) (by decide) rfl rfl) rfl)) (HdsG.consA (by rfl) (by decide) rfl rfl (by apply IS.ok; repeat' (first | exact if_c _ | exact if_var (by decide) | exact if_xf | exact if_xi | exact if_nil | apply is_ret | apply is_set (by decide) | apply is_seq | apply if_cons | apply if_tup | apply if_lst | apply if_call | apply if_and | apply if_tst | apply if_bin | apply if_un | apply if_if)) (fun xa oe xc xd pn hz hf => s_one (s_ret (g_tup (g_cons (g_str) (g_cons (g_xf XX.xt hz hf (pv 2) (by rfl)) (g_nil) rfl) rfl)))) (HdsG.consA (by rfl) (by decide) rfl rfl (by apply IS.ok; repeat' (first | exact if_c _ | exact if_var (by decide) | exact if_xf | exact if_xi | exact if_nil | apply is_ret | apply is_set (by decide) | apply is_seq | apply if_cons | apply if_tup | apply if_lst | apply if_call | apply if_and | apply if_tst | apply if_bin | apply if_un | apply if_if)) (fun xa oe xc xd pn hz hf => s_one (s_ret (g_tup (g_cons (g_str) (g_cons (g_xf XX.xt hz hf (pv 2) (by rfl)) (g_nil) rfl) rfl)))) (HdsG.consA (by rfl) (by decide) rfl rfl (by apply IS.ok; repeat' (first | exact if_c _ | exact if_var (by decide) | exact if_xf | exact if_xi | exact if_nil | apply is_ret | apply is_set (by decide) | apply is_seq | apply if_cons | apply if_tup | apply if_lst | apply if_call | apply if_and | apply if_tst | apply if_bin | apply if_un | apply if_if)) (fun xa oe xc xd pn hz hf => s_one (s_ret (g_tup (g_cons (g_str) (g_cons (g_xf XX.xt hz hf (pv 2) (by rfl)) (g_nil) rfl) rfl)))) (HdsG.cons (by rfl) (by decide) (by intro _ _ _ _ _; rfl) (fun xa oe xc xd pn hz hf => s_one (s_ret (g_tup (g_cons (g_str) (g_cons (g_non) (g_nil) rfl) rfl)))) (HdsG.nil)))))) (s_one (s_ret (g_tup (g_cons (g_str) (g_cons (g_non) (g_nil) rfl) rfl))))
theorem ok__law_right (T : Bt mg) (XX : Xt K mg) (S : Std K mg "_law_right" "_law_right" s__law_right) (c__law_track : Kn P w K mg base "_law_track" s__law_track ["well"] 3 F__law_track) (c__law_race : Kn P w K mg base "_law_race" s__law_race ["well", "track", "most"] 4 F__law_race) (c__law_take : Kn P w K mg base "_law_take" s__law_take ["well", "many"] 1 F__law_take) (c__law_said : Kn P w K mg base "_law_said" s__law_said ["way", "things"] 15 F__law_said) (c__law_odd_tracks : Kn P w K mg base "_law_odd_tracks" s__law_odd_tracks ["track"] 1 F__law_odd_tracks) (c__law_same : Kn P w K mg base "_law_same" s__law_same ["told", "due"] 21 F__law_same_v3) (c__law_of : Kn P w K mg base "_law_of" s__law_of ["well", "things"] 2 F__law_of) (c__law_odd_races : Kn P w K mg base "_law_odd_races" s__law_odd_races ["track", "race"] 1 F__law_odd_races) (c__law_odd_mats : Kn P w K mg base "_law_odd_mats" s__law_odd_mats ["track"] 1 F__law_odd_mats) (c_do_explain : Kn P w K mg base "do_explain" s_do_explain ["track", "race", "mat", "value"] 13 F_do_explain) : Kn P w K mg base "_law_right" s__law_right ["well"] 22 F__law_right := by
  refine kn_of (N := ["well", "turn", "track", "race", "mat", "way", "right", "bad", "value"]) (k := 21) (B := B__law_right) S sc__law_right rfl rfl (fun _ _ _ _ _ _ us hl => match us, hl with | [_], _ => rfl) fun f cdv A outer s' H E hr => ?_
  have nd := sc__law_right.nd
  have tk : Takes (cxOf (L2.CX P w) P w K mg base ["well", "turn", "track", "race", "mat", "way", "right", "bad", "value"] "_law_right" (defScope s__law_right) f cdv A outer s' H E) (Wd E) := takes_of rfl rfl rfl rfl
  exact s_cons (s_for (ps_for (passes_of rfl) rfl (g_range1 (pi_range1 (by rfl) T.range (g_cons (g_int) (g_nil) rfl))) (t_tg (t := .nm 1) (pg_name (i := 1) nd rfl (by first | exact .inl rfl | exact .inr rfl))) (s_cons (s_set (ps_set (i := 2) nd rfl (.inl rfl) (g_calln c__law_track (hr.mono (by decide)) (by rfl) tk (g_cons (g_var 0 (pv 0)) (g_nil) rfl) (by decide) rfl rfl))) (s_cons (s_par (ps_par (i := 3) (j := 4) rfl nd rfl rfl (by decide) rfl rfl (g_cons (g_calln c__law_race (hr.mono (by decide)) (by rfl) tk (g_cons (g_var 0 (pv 0)) (g_cons (g_var 2 (pv 2)) (g_cons (g_int) (g_nil) rfl) rfl) rfl) (by decide) rfl rfl) (g_cons (g_calln c__law_take (hr.mono (by decide)) (by rfl) tk (g_cons (g_var 0 (pv 0)) (g_cons (g_blt (pe_callB c_len (by rfl) T.len bt_len (g_cons (g_var 2 (pv 2)) (g_nil) rfl)) v_len) (g_nil) rfl) rfl) (by decide) rfl rfl) (g_nil) rfl) rfl) (by rfl))) (s_cons (s_for (ps_for (passes_of rfl) rfl (g_range1 (pi_range1 (by rfl) T.range (g_cons (g_int) (g_nil) rfl))) (t_tg (t := .nm 5) (pg_name (i := 5) nd rfl (by first | exact .inl rfl | exact .inr rfl))) (s_cons (s_set (ps_set (i := 6) nd rfl (.inl rfl) (g_lst (g_cons (g_var 2 (pv 2)) (g_cons (g_var 3 (pv 3)) (g_cons (g_var 4 (pv 4)) (g_cons (g_tup (g_nil)) (g_nil) rfl) rfl) rfl) rfl)))) (s_cons (s_if (g_tcmp (o_ne hr.units) v_ne (g_calln c__law_said (hr.mono (by decide)) (by rfl) tk (g_cons (g_var 5 (pv 5)) (g_cons (g_var 6 (pv 6)) (g_nil) rfl) rfl) (by decide) rfl rfl) (g_tup (g_cons (g_str) (g_cons (g_non) (g_nil) rfl) rfl)) (nomark _)) (s_one (s_ret (g_bl))) (s_nil)) (s_cons (s_for (ps_for (passes_of rfl) rfl (g_iter (g_calln c__law_odd_tracks (hr.mono (by decide)) (by rfl) tk (g_cons (g_var 2 (pv 2)) (g_nil) rfl) (by decide) rfl rfl)) (t_tg (t := .nm 7) (pg_name (i := 7) nd rfl (by first | exact .inl rfl | exact .inr rfl))) (s_one (s_if (g_tnot (g_tval (g_calln c__law_same (hr.mono (by decide)) (by rfl) tk (g_cons (g_calln c__law_said (hr.mono (by decide)) (by rfl) tk (g_cons (g_var 5 (pv 5)) (g_cons (g_lst (g_cons (g_var 7 (pv 7)) (g_cons (g_calln c__law_of (hr.mono (by decide)) (by rfl) tk (g_cons (g_var 0 (pv 0)) (g_cons (g_tup (g_cons (g_var 3 (pv 3)) (g_cons (g_non) (g_nil) rfl) rfl)) (g_nil) rfl) rfl) (by decide) rfl rfl) (g_cons (g_calln c__law_of (hr.mono (by decide)) (by rfl) tk (g_cons (g_var 0 (pv 0)) (g_cons (g_tup (g_cons (g_var 4 (pv 4)) (g_cons (g_non) (g_nil) rfl) rfl)) (g_nil) rfl) rfl) (by decide) rfl rfl) (g_cons (g_non) (g_nil) rfl) rfl) rfl) rfl)) (g_nil) rfl) rfl) (by decide) rfl rfl) (g_cons (g_tup (g_cons (g_str) (g_cons (g_var 7 (pv 7)) (g_nil) rfl) rfl)) (g_nil) rfl) rfl) (by decide) rfl rfl) (by intro _; rfl))) (s_one (s_ret (g_bl))) (s_nil))))) (s_cons (s_for (ps_for (passes_of rfl) rfl (g_iter (g_calln c__law_odd_races (hr.mono (by decide)) (by rfl) tk (g_cons (g_var 2 (pv 2)) (g_cons (g_var 3 (pv 3)) (g_nil) rfl) rfl) (by decide) rfl rfl)) (t_tg (t := .nm 7) (pg_name (i := 7) nd rfl (by first | exact .inl rfl | exact .inr rfl))) (s_one (s_if (g_tnot (g_tval (g_calln c__law_same (hr.mono (by decide)) (by rfl) tk (g_cons (g_calln c__law_said (hr.mono (by decide)) (by rfl) tk (g_cons (g_var 5 (pv 5)) (g_cons (g_lst (g_cons (g_var 2 (pv 2)) (g_cons (g_var 7 (pv 7)) (g_cons (g_calln c__law_of (hr.mono (by decide)) (by rfl) tk (g_cons (g_var 0 (pv 0)) (g_cons (g_tup (g_cons (g_var 4 (pv 4)) (g_cons (g_non) (g_nil) rfl) rfl)) (g_nil) rfl) rfl) (by decide) rfl rfl) (g_cons (g_non) (g_nil) rfl) rfl) rfl) rfl)) (g_nil) rfl) rfl) (by decide) rfl rfl) (g_cons (g_tup (g_cons (g_str) (g_cons (g_var 7 (pv 7)) (g_nil) rfl) rfl)) (g_nil) rfl) rfl) (by decide) rfl rfl) (by intro _; rfl))) (s_one (s_ret (g_bl))) (s_nil))))) (s_one (s_for (ps_for (passes_of rfl) rfl (g_iter (g_if (g_tcmp op_gt (v_cmpI _) (g_var 5 (pv 5)) (g_int) (nomark _)) (g_calln c__law_odd_mats (hr.mono (by decide)) (by rfl) tk (g_cons (g_var 2 (pv 2)) (g_nil) rfl) (by decide) rfl rfl) (g_lst (g_nil)))) (t_tg (t := .nm 7) (pg_name (i := 7) nd rfl (by first | exact .inl rfl | exact .inr rfl))) (s_one (s_if (g_tnot (g_tval (g_calln c__law_same (hr.mono (by decide)) (by rfl) tk (g_cons (g_calln c__law_said (hr.mono (by decide)) (by rfl) tk (g_cons (g_var 5 (pv 5)) (g_cons (g_lst (g_cons (g_var 2 (pv 2)) (g_cons (g_var 3 (pv 3)) (g_cons (g_var 7 (pv 7)) (g_cons (g_non) (g_nil) rfl) rfl) rfl) rfl)) (g_nil) rfl) rfl) (by decide) rfl rfl) (g_cons (g_tup (g_cons (g_str) (g_cons (g_var 7 (pv 7)) (g_nil) rfl) rfl)) (g_nil) rfl) rfl) (by decide) rfl rfl) (by intro _; rfl))) (s_one (s_ret (g_bl))) (s_nil)))))))))))) (s_one (s_for (ps_for (passes_of rfl) rfl (g_iter (g_tup (g_cons (g_non) (g_cons (g_int) (g_cons (g_bl) (g_cons (g_str) (g_cons (g_lst (g_nil)) (g_cons (g_emp) (g_cons (g_tup (g_cons (g_non) (g_nil) rfl)) (g_cons (g_tup (g_cons (g_tup (g_cons (g_int) (g_cons (g_int) (g_cons (g_int) (g_nil) rfl) rfl) rfl)) (g_nil) rfl)) (g_cons (g_tup (g_cons (g_lst (g_cons (g_int) (g_cons (g_int) (g_nil) rfl) rfl)) (g_nil) rfl)) (g_cons (g_tup (g_cons (g_tup (g_cons (g_int) (g_cons (g_bl) (g_nil) rfl) rfl)) (g_nil) rfl)) (g_cons (g_tup (g_cons (g_tup (g_cons (g_int) (g_cons (g_int) (g_nil) rfl) rfl)) (g_nil) rfl)) (g_nil) rfl) rfl) rfl) rfl) rfl) rfl) rfl) rfl) rfl) rfl) rfl))) (t_tg (t := .nm 8) (pg_name (i := 8) nd rfl (by first | exact .inl rfl | exact .inr rfl))) (s_one (s_if ((g_or (g_tcmp (o_ne hr.units) v_ne (g_calln c__law_said (hr.mono (by decide)) (by rfl) tk (g_cons (g_int) (g_cons (g_lst (g_cons (g_var 2 (pv 2)) (g_cons (g_var 3 (pv 3)) (g_cons (g_var 4 (pv 4)) (g_cons (g_var 8 (pv 8)) (g_nil) rfl) rfl) rfl) rfl)) (g_nil) rfl) rfl) (by decide) rfl rfl) (g_tup (g_cons (g_str) (g_cons (g_non) (g_nil) rfl) rfl)) (nomark _)) (g_or1 (g_tcmp op_notBl v_notB (g_callkn0 (ks := ["value", "mat", "race", "track"]) (ix := [3, 2, 1, 0]) c_do_explain (hr.mono (by decide)) (by rfl) tk (fun _ _ _ _ _ _ _ us ws h1 h2 => match us, ws, h1, h2 with | [], [_, _, _, _], _, _ => rfl) (k_cons (g_var 8 (pv 8)) (k_cons (g_var 4 (pv 4)) (k_cons (g_var 3 (pv 3)) (k_cons (g_var 2 (pv 2)) (k_nil))))) rfl rfl (by decide) rfl) (g_bl) (nomark _)))).pt) (s_one (s_ret (g_bl))) (s_nil))))))))))) (s_one (s_ret (g_bl)))
theorem ok_law (T : Bt mg) (XX : Xt K mg) (S : Std K mg "law" "law" s_law) (c__law_right : Kn P w K mg base "_law_right" s__law_right ["well"] 22 F__law_right) (c__law_well : Kn P w K mg base "_law_well" s__law_well ["script", "lap"] 1 F__law_well) : Kn P w K mg base "law" s_law ["script"] 23 F_law := by
  refine kn_of (N := ["script", "lap"]) (k := 22) (B := B_law) S sc_law rfl rfl (fun _ _ _ _ _ _ us hl => match us, hl with | [_], _ => rfl) fun f cdv A outer s' H E hr => ?_
  have nd := sc_law.nd
  have tk : Takes (cxOf (L2.CX P w) P w K mg base ["script", "lap"] "law" (defScope s_law) f cdv A outer s' H E) (Wd E) := takes_of rfl rfl rfl rfl
  exact s_one (s_ret (g_blt (pe_callB (cq_all rfl) (by rfl) T.all bt_all (g_cons (g_lc (by decide) (pe_lc (own := [("lap", 1)]) rfl nd (g_range1 (pi_range1 (by rfl) T.range (g_cons (g_blt (pe_callB (c_max rfl) (by rfl) T.max bt_max (g_cons (g_int) (g_cons (g_blt (pe_callB (c_min rfl) (by rfl) T.min bt_min (g_cons (g_blt (pe_callB c_len (by rfl) T.len bt_len (g_cons (g_var 0 (pv 0)) (g_nil) rfl)) v_len) (g_cons (g_int) (g_nil) rfl) rfl)) v_min) (g_nil) rfl) rfl)) v_max) (g_nil) rfl))) (blkOk_by (N := ["script", "lap"]) (sc := defScope s_law) (by decide +kernel)) (fun _ _ _ _ _ => pg_name (i := 1) nd rfl (by first | exact .inl rfl | exact .inr rfl)) (fun _ _ _ _ _ => g_yes) (fun _ _ _ _ _ => g_calln c__law_right (hr.mono (by decide)) (by rfl) takes0 (g_cons (g_calln c__law_well (hr.mono (by decide)) (by rfl) takes0 (g_cons (g_var 0 (pv 0)) (g_cons (g_var 1 (pv 1)) (g_nil) rfl) rfl) (by decide) rfl rfl) (g_nil) rfl) (by decide) rfl rfl))) (g_nil) rfl)) v_all))
end
end K40
namespace Lap
open PySem G
theorem big_ge : 2 ^ 1000 ≤ big := by unfold big; exact Nat.pow_le_pow_right (by decide) (by decide)
section
variable (st : Sto)
theorem f_round_by (ts : List Int) : F_round_by [tupI ts] st = .ok (.int ts.sum) st := by
  simp [F_round_by, runF, B_round_by]
theorem f_sectors_from (ts : List Int) (m : Nat) (hl : ts.length ≤ 100) : F_sectors_from [tupI ts, .int m] st = .ok (lstI (ts.drop m ++ ts.take m)) st := by
  have : ts.length - m + min m ts.length ≤ 16777216 := by omega
  simp [F_sectors_from, runF, B_sectors_from, cutL_from, cutL_to, this, lstI]
def reachI (ts : List Int) (m n : Nat) : Int := ((n / ts.length : Nat) : Int) * ts.sum + ((ts.drop m ++ ts.take m).take (n % ts.length)).sum
theorem f_reach_by (ts : List Int) (m n : Nat) (h0 : 0 < ts.length) (hl : ts.length ≤ 100) (hn : n < big) (hs : ts.sum.natAbs < big) : F_reach_by [tupI ts, .int m, .int n] st = .ok (.int (reachI ts m n)) st := by
  have hd := divmodF_nat st n ts.length h0 (.inl (by omega))
  have hq : n / ts.length ≤ n := Nat.div_le_self _ _
  unfold reachI
  generalize n / ts.length = q at hd hq ⊢
  generalize n % ts.length = r at hd ⊢
  have h2 : mulOk (q : Int) ts.sum := .inr (.inr ⟨by omega, hs⟩)
  simp [-divmodF_int, F_reach_by, runF, B_reach_by, f_round_by, f_sectors_from, hl, hd, h2, cutL_to]
theorem f_is_whole_int (i : Int) : F_is_whole [.int i] st = .ok (.bl true) st := by
  simp [F_is_whole, runF, B_is_whole, isiB]
theorem f_is_between (v lo hi : Int) : F_is_between [.int v, .int lo, .int hi] st = .ok (.bl (decide (lo ≤ v ∧ v ≤ hi))) st := by
  by_cases h : lo ≤ v <;> simp [F_is_between, runF, B_is_between, f_is_whole_int, h]
theorem f_is_up_to (v m : Int) : F_is_up_to [.int v, .int m] st = .ok (.bl (decide (0 ≤ v ∧ v ≤ m))) st := by
  simp [F_is_up_to, runF, B_is_up_to, f_is_between]
theorem f_is_from (v l : Int) : F_is_from [.int v, .int l] st = .ok (.bl (decide (l ≤ v))) st := by
  simp [F_is_from, runF, B_is_from, f_is_whole_int]
theorem f_is_tuple_up_to (ts : List Int) (lo hi : Int) : F_is_tuple_up_to [tupI ts, .int lo, .int hi] st = .ok (.bl (decide (lo ≤ ts.length ∧ (ts.length : Int) ≤ hi))) st := by
  by_cases h : lo ≤ ts.length <;> simp [F_is_tuple_up_to, runF, B_is_tuple_up_to, isiB, h]
structure Trk (ts : List Int) : Prop where
  pos : 1 ≤ ts.length
  le : ts.length ≤ 8
  one : ∀ x ∈ ts, 1 ≤ x
theorem f_is_track_of {ts : List Int} (h : Trk ts) : F_is_track_of [tupI ts] st = .ok (.bl true) st := by
  have e : lcE (iterE (varE 0)) (.nm 1) yesB (callE F_is_from (consA (varE 1) (consA (cE (.int 1)) nilA))) [1] [some (tupI ts), none] st = .ok (lstB (ts.map fun x => decide (1 ≤ x))) st := by
    have := lc_map (t := .nm 1) (fe := callE F_is_from (consA (varE 1) (consA (cE (.int 1)) nilA))) (envw := [some (tupI ts), none]) (st := st) (fun d => match d with | .int x => .bl (decide (1 ≤ x)) | d => d) (ts.map D.int) [] (by have := h.le; simp; omega) (by
      intro x hx
      obtain ⟨y, _, rfl⟩ := List.mem_map.mp hx
      exact ⟨[some (tupI ts), some (.int y)], by simp, by simp [f_is_from]⟩)
    simp [this, lstB]
  have h2 : (ts.length : Int) ≤ 8 := by have := h.le; omega
  have h3 : (1 : Int) ≤ ts.length := by have := h.pos; omega
  have h4 := h.one
  simp [-lcE_eq, F_is_track_of, runF, B_is_track_of, f_is_tuple_up_to, h2, h3, e]
  simpa using h4
theorem f_is_mat_of {ts : List Int} (v : Int) : F_is_mat_of [tupI ts, .int v] st = .ok (.bl (decide (0 ≤ v ∧ v ≤ ts.length - 1))) st := by
  simp [F_is_mat_of, runF, B_is_mat_of, f_is_up_to]
theorem f_check_track {ts : List Int} (h : Trk ts) : F_check_track [tupI ts] st = .ok .non st := by
  simp [F_check_track, runF, B_check_track, f_is_track_of st h]
theorem f_check_mat {ts : List Int} {m : Nat} (h : m < ts.length) : F_check_mat [tupI ts, .int m] st = .ok .non st := by
  have : (m : Int) ≤ ts.length - 1 := by omega
  simp [F_check_mat, runF, B_check_mat, f_is_mat_of, this]
end
def at_ (ts : List Int) (i : Nat) : Int := ts.getD (i % ts.length) 0
def walkI (ts : List Int) (m n : Nat) : Int := ((List.range n).map fun i => at_ ts (m + i)).sum
theorem at_mod (ts : List Int) (a b : Nat) : at_ ts (a % ts.length + b) = at_ ts (a + b) := by
  unfold at_; rw [Nat.mod_add_mod]
theorem walk_succ (ts : List Int) (m n : Nat) : walkI ts m (n + 1) = walkI ts m n + at_ ts (m + n) := by
  unfold walkI; rw [List.range_succ]; simp
theorem walk_add (ts : List Int) (m a b : Nat) : walkI ts m (a + b) = walkI ts m a + walkI ts (m + a) b := by
  induction b with
  | zero => simp [walkI]
  | succ b ih => rw [← Nat.add_assoc, walk_succ, ih, walk_succ, Nat.add_assoc m a b]; omega
theorem walk_mod (ts : List Int) (a n : Nat) : walkI ts (a % ts.length) n = walkI ts a n := by
  unfold walkI; congr 1; apply List.map_congr_left; intro i _; exact at_mod ts a i
theorem rest_eq (ts : List Int) (m r : Nat) (hm : m < ts.length) (hr : r ≤ ts.length) : (ts.drop m ++ ts.take m).take r = (List.range r).map fun i => at_ ts (m + i) := by
  apply List.ext_getElem?
  intro i
  by_cases hi : i < r
  · rw [List.getElem?_take, if_pos hi, List.getElem?_map, List.getElem?_range hi, Option.map_some]
    unfold at_
    by_cases h : m + i < ts.length
    · rw [Nat.mod_eq_of_lt h, List.getElem?_append_left (by simp; omega), List.getElem?_drop, List.getD_eq_getElem?_getD, List.getElem?_eq_getElem h]; rfl
    · have e : (m + i) % ts.length = m + i - ts.length := by rw [Nat.mod_eq_sub_mod (by omega), Nat.mod_eq_of_lt (by omega)]
      rw [e, List.getElem?_append_right (by simp; omega), List.length_drop, List.getElem?_take, if_pos (by omega), List.getD_eq_getElem?_getD, show i - (ts.length - m) = m + i - ts.length by omega, List.getElem?_eq_getElem (by omega)]; rfl
  · rw [List.getElem?_eq_none (by simp; omega), List.getElem?_eq_none (by simp; omega)]
theorem sum_perm (ts : List Int) (m : Nat) : (ts.drop m ++ ts.take m).sum = ts.sum := by
  have := List.take_append_drop m ts
  conv => rhs; rw [← this]
  rw [List.sum_append, List.sum_append]; omega
theorem walk_round (ts : List Int) (m : Nat) (h : 0 < ts.length) : walkI ts m ts.length = ts.sum := by
  rw [← walk_mod]
  have hm : m % ts.length < ts.length := Nat.mod_lt _ h
  unfold walkI
  rw [← rest_eq ts _ _ hm (Nat.le_refl _), List.take_of_length_le (by simp; omega), sum_perm]
theorem walk_rounds (ts : List Int) (m : Nat) (h : 0 < ts.length) : ∀ q : Nat, walkI ts m (ts.length * q) = (q : Int) * ts.sum
  | 0 => by simp [walkI]
  | q + 1 => by rw [Nat.mul_succ, walk_add, walk_rounds ts m h q, walk_round ts _ h]; push_cast; rw [Int.add_mul]; omega
theorem reachI_eq (ts : List Int) (m n : Nat) (hm : m < ts.length) : reachI ts m n = walkI ts m n := by
  have h : 0 < ts.length := by omega
  have hr := Nat.mod_lt n h
  unfold reachI
  rw [rest_eq ts m _ hm (by omega)]
  conv => rhs; rw [← Nat.div_add_mod n ts.length, walk_add, walk_rounds ts m h]
  congr 1
  rw [← walk_mod, Nat.add_mul_mod_self_left, walk_mod]; rfl
theorem sum_le {ts : List Int} {w : Int} (h : ∀ x ∈ ts, 1 ≤ x ∧ x ≤ w) : 0 ≤ ts.sum ∧ ts.sum ≤ ts.length * w := by
  induction ts with
  | nil => simp
  | cons x ts ih =>
    obtain ⟨a, b⟩ := ih fun y hy => h y (List.mem_cons_of_mem _ hy)
    obtain ⟨c, d⟩ := h x List.mem_cons_self
    simp only [List.sum_cons, List.length_cons]
    push_cast
    rw [Int.add_mul]; omega
end Lap
namespace Lap
open PySem G
theorem at_ge {ts : List Int} (h : Trk ts) (i : Nat) : 1 ≤ at_ ts i := by
  have hl : i % ts.length < ts.length := Nat.mod_lt _ h.pos
  unfold at_
  rw [List.getD_eq_getElem?_getD, List.getElem?_eq_getElem hl]
  exact h.one _ (List.getElem_mem hl)
theorem walk_mono {ts : List Int} (h : Trk ts) (m a b : Nat) : walkI ts m a + b ≤ walkI ts m (a + b) := by
  induction b with
  | zero => simp
  | succ b ih =>
    have := at_ge h (m + (a + b))
    rw [← Nat.add_assoc, walk_succ]; push_cast; omega
theorem sum_pos {ts : List Int} (h : Trk ts) : (ts.length : Int) ≤ ts.sum := by
  have := walk_mono h 0 0 ts.length
  rw [Nat.zero_add, walk_round ts 0 h.pos] at this
  simpa [walkI] using this
theorem walk_le_of {ts : List Int} (h : Trk ts) (m : Nat) {a b : Nat} (hab : a ≤ b) : walkI ts m a ≤ walkI ts m b := by
  obtain ⟨c, rfl⟩ := Nat.exists_eq_add_of_le hab
  have := walk_mono h m a c
  omega
theorem walk_ge {ts : List Int} (h : Trk ts) (m n : Nat) : (n : Int) ≤ walkI ts m n := by
  have := walk_mono h m 0 n
  simpa [walkI] using this
end Lap
namespace Lap
open PySem G
def stepsN (M m o : Nat) : Nat := (o + M - m - 1) % M + 1
theorem steps_cases {M m o : Nat} (hm : m < M) (ho : o < M) : (m < o ∧ stepsN M m o = o - m) ∨ (o ≤ m ∧ stepsN M m o = o + M - m) := by
  unfold stepsN
  by_cases h : m < o
  · refine .inl ⟨h, ?_⟩
    rw [show o + M - m - 1 = (o - m - 1) + M by omega, Nat.add_mod_right, Nat.mod_eq_of_lt (by omega)]; omega
  · refine .inr ⟨by omega, ?_⟩
    rw [Nat.mod_eq_of_lt (by omega)]; omega
theorem steps_to {M m o : Nat} (hm : m < M) (ho : o < M) : (m + stepsN M m o) % M = o := by
  rcases steps_cases hm ho with ⟨h, e⟩ | ⟨h, e⟩
  · rw [e, show m + (o - m) = o by omega, Nat.mod_eq_of_lt ho]
  · rw [e, show m + (o + M - m) = o + M by omega, Nat.add_mod_right, Nat.mod_eq_of_lt ho]
theorem steps_rng {M m o : Nat} (hm : m < M) (ho : o < M) : 1 ≤ stepsN M m o ∧ stepsN M m o ≤ M := by
  rcases steps_cases hm ho with ⟨h, e⟩ | ⟨h, e⟩ <;> omega
theorem steps_int {M m o : Nat} (hm : m < M) (ho : o < M) : ((o : Int) - m - 1) % M + 1 = (stepsN M m o : Nat) := by
  unfold stepsN
  have : ((o : Int) - m - 1) % M = ((o + M - m - 1 : Nat) : Int) % M := by
    rw [show ((o + M - m - 1 : Nat) : Int) = (o - m - 1) + M by omega, Int.add_emod_right]
  rw [this]; push_cast; rfl
theorem steps_first {M m o d : Nat} (hm : m < M) (ho : o < M) (hd : 1 ≤ d) (h : d ≤ stepsN M m o) : (m + d) % M = o ↔ d = stepsN M m o := by
  constructor
  · intro e
    rcases steps_cases hm ho with ⟨h1, e1⟩ | ⟨h1, e1⟩
    · rw [Nat.mod_eq_of_lt (by omega)] at e; omega
    · by_cases k : m + d < M
      · rw [Nat.mod_eq_of_lt k] at e; omega
      · rw [Nat.mod_eq_sub_mod (by omega), Nat.mod_eq_of_lt (by omega)] at e; omega
  · rintro rfl; exact steps_to hm ho
theorem steps_back {M m o : Nat} (hm : m < M) (ho : o < M) : stepsN M m o + stepsN M o m = if m = o then 2 * M else M := by
  rcases steps_cases hm ho with ⟨h, e⟩ | ⟨h, e⟩ <;> rcases steps_cases ho hm with ⟨h2, e2⟩ | ⟨h2, e2⟩ <;> split <;> omega
theorem steps_over {M a b c : Nat} (ha : a < M) (hb : b < M) (hc : c < M) : stepsN M a b + stepsN M b c = stepsN M a c ∨ stepsN M a b + stepsN M b c = stepsN M a c + M := by
  rcases steps_cases ha hb with ⟨h, e⟩ | ⟨h, e⟩ <;> rcases steps_cases hb hc with ⟨h2, e2⟩ | ⟨h2, e2⟩ <;> rcases steps_cases ha hc with ⟨h3, e3⟩ | ⟨h3, e3⟩ <;> omega
def wayI (ts : List Int) (m o : Nat) : Int := walkI ts m (stepsN ts.length m o)
theorem walk_there (ts : List Int) {m o : Nat} (hm : m < ts.length) (ho : o < ts.length) (n : Nat) : walkI ts (m + stepsN ts.length m o) n = walkI ts o n := by
  rw [← walk_mod ts (m + _), steps_to hm ho]
theorem way_back {ts : List Int} {m o : Nat} (hm : m < ts.length) (ho : o < ts.length) : wayI ts m o + wayI ts o m = ts.sum * if m = o then 2 else 1 := by
  have h0 : 0 < ts.length := by omega
  unfold wayI
  rw [← walk_there ts hm ho, ← walk_add, steps_back hm ho]
  split
  · rw [Nat.mul_comm, walk_rounds ts m h0]; push_cast; omega
  · rw [walk_round ts m h0]; omega
theorem way_over {ts : List Int} {a b c : Nat} (ha : a < ts.length) (hb : b < ts.length) (hc : c < ts.length) : wayI ts a b + wayI ts b c - wayI ts a c = 0 ∨ wayI ts a b + wayI ts b c - wayI ts a c = ts.sum := by
  have h0 : 0 < ts.length := by omega
  unfold wayI
  rw [← walk_there ts ha hb, ← walk_add]
  rcases steps_over ha hb hc with e | e
  · rw [e]; left; omega
  · rw [e, walk_add, walk_round ts _ h0]; right; omega
section
variable (st : Sto)
theorem f_steps_by {ts : List Int} {m o : Nat} (hm : m < ts.length) (ho : o < ts.length) : F_steps_by [tupI ts, .int m, .int o] st = .ok (.int (stepsN ts.length m o)) st := by
  have h0 : 0 < ts.length := by omega
  rw [← steps_int hm ho]
  simp [F_steps_by, runF, B_steps_by, h0]
theorem f_check_mats {ts : List Int} (h : Trk ts) {m o : Nat} (hm : m < ts.length) (ho : o < ts.length) : F_check_mats [tupI ts, .int m, .int o] st = .ok .non st := by
  simp [F_check_mats, runF, B_check_mats, f_check_track st h, f_check_mat st hm, f_check_mat st ho]
theorem f_way_by {ts : List Int} (h : Trk ts) {m o : Nat} (hm : m < ts.length) (ho : o < ts.length) (hs : ts.sum.natAbs < big) : F_way_by [tupI ts, .int m, .int o] st = .ok (.int (wayI ts m o)) st := by
  have hb := big_ge
  have hr := steps_rng hm ho
  have h8 := h.le
  have := f_reach_by st ts m (stepsN ts.length m o) (by omega) (by omega) (by omega) hs
  rw [reachI_eq ts _ _ hm] at this
  simp [F_way_by, runF, B_way_by, f_steps_by st hm ho, this, wayI]
theorem f_way {ts : List Int} (h : Trk ts) {m o : Nat} (hm : m < ts.length) (ho : o < ts.length) (hs : ts.sum.natAbs < big) : F_way [tupI ts, .int m, .int o] st = .ok (.int (wayI ts m o)) st := by
  simp [F_way, runF, B_way, f_check_mats st h hm ho, f_way_by st h hm ho hs]
end
theorem _root_.G.One.two {F : FA} (hF : One F) {st : Sto} {n : Nat} (a b : Int) (hp : Pool n st) : ∃ w st', F [.mut n, .tup [.int a, .int b]] st = .ok (.int w) st' ∧ (w = a ∨ w = b) ∧ Pool n st' ∧ Eff n st st' := by
  obtain ⟨d, s1, e1, hd, hp1, he⟩ := hF (xs := [.int a, .int b]) hp (by simp) (by simp)
  rcases hd with _ | ⟨_, _ | ⟨_, hd⟩⟩
  · exact ⟨a, s1, e1, .inl rfl, hp1, he⟩
  · exact ⟨b, s1, e1, .inr rfl, hp1, he⟩
  · cases hd
theorem _root_.G.One.three {F : FA} (hF : One F) {st : Sto} {n : Nat} (a b c : Int) (hp : Pool n st) : ∃ w st', F [.mut n, .tup [.int a, .int b, .int c]] st = .ok (.int w) st' ∧ (w = a ∨ w = b ∨ w = c) ∧ Pool n st' ∧ Eff n st st' := by
  obtain ⟨d, s1, e1, hd, hp1, he⟩ := hF (xs := [.int a, .int b, .int c]) hp (by simp) (by simp)
  rcases hd with _ | ⟨_, _ | ⟨_, _ | ⟨_, hd⟩⟩⟩
  · exact ⟨a, s1, e1, .inl rfl, hp1, he⟩
  · exact ⟨b, s1, e1, .inr (.inl rfl), hp1, he⟩
  · exact ⟨c, s1, e1, .inr (.inr rfl), hp1, he⟩
  · cases hd
structure DT (ts : List Int) (w : Int) : Prop where
  t : Trk ts
  b : ∀ x ∈ ts, 1 ≤ x ∧ x ≤ w
  s : ts.sum ≤ 8 * w
  p : (ts.length : Int) ≤ ts.sum
  w : 1 ≤ w
theorem DT.of {ts : List Int} {w : Int} (hw : 1 ≤ w) (t1 : 1 ≤ ts.length) (t2 : (ts.length : Int) ≤ 8) (t3 : ∀ x ∈ ts, 1 ≤ x ∧ x ≤ w) : DT ts w := by
  have hT : Trk ts := ⟨t1, by omega, fun x hx => (t3 x hx).1⟩
  refine ⟨hT, t3, ?_, sum_pos hT, hw⟩
  have := (sum_le t3).2
  have := Int.mul_le_mul_of_nonneg_right t2 (show 0 ≤ w by omega)
  omega
theorem _root_.G.Track.dt {F : FA} (hF : Track F 8) {st : Sto} {n : Nat} {w : Int} (hp : Pool n st) (hw : 1 ≤ w) : ∃ ts st', F [.mut n, .int w] st = .ok (tupI ts) st' ∧ DT ts w ∧ Pool n st' ∧ Eff n st st' := by
  obtain ⟨ts, s2, e2, t1, t2, t3, hp2, he⟩ := hF hp hw
  exact ⟨ts, s2, e2, .of hw t1 t2 t3, hp2, he⟩
end Lap
namespace Lap
open PySem G
def bagD (b : List P2) : D := .tup (b.map pairD)
def MatOk (ts : List Int) (p : P2) : Prop := 0 ≤ p.1 ∧ 0 ≤ p.2 ∧ p.2 < ts.length
instance (ts : List Int) (p : P2) : Decidable (MatOk ts p) := by unfold MatOk; infer_instance
structure BagOk (ts : List Int) (b : List P2) : Prop where
  len : b.length ≤ 30
  ok : ∀ p ∈ b, MatOk ts p
  up : b.Pairwise ltP2
theorem BagOk.sub {ts : List Int} {b c : List P2} (h : BagOk ts b) (s : c.Sublist b) : BagOk ts c :=
  ⟨Nat.le_trans s.length_le h.len, fun p hp => h.ok p (s.subset hp), h.up.sublist s⟩
def followB (ts : List Int) (p q : P2) : Bool := decide (p.1 - q.1 ≥ wayI ts q.2.toNat p.2.toNat)
theorem way_pos {ts : List Int} (h : Trk ts) {m o : Nat} (hm : m < ts.length) (ho : o < ts.length) : 1 ≤ wayI ts m o := by
  have := walk_ge h m (stepsN ts.length m o)
  have := (steps_rng hm ho).1
  unfold wayI; omega
theorem follow_lt {ts : List Int} (h : Trk ts) {p q : P2} (hp : MatOk ts p) (hq : MatOk ts q) (f : followB ts p q = true) : q.1 < p.1 := by
  obtain ⟨a, b, c⟩ := hp
  obtain ⟨d, e, g⟩ := hq
  have := way_pos h (m := q.2.toNat) (o := p.2.toNat) (by omega) (by omega)
  unfold followB at f
  have := of_decide_eq_true f
  omega
theorem follow_tr {ts : List Int} (h : Trk ts) {p q r : P2} (hp : MatOk ts p) (hq : MatOk ts q) (hr : MatOk ts r) (f : followB ts p q = true) (g : followB ts q r = true) : followB ts p r = true := by
  obtain ⟨a, b, c⟩ := hp
  obtain ⟨d, e, i⟩ := hq
  obtain ⟨j, k, l⟩ := hr
  have hs := sum_pos h
  have := way_over (ts := ts) (a := r.2.toNat) (b := q.2.toNat) (c := p.2.toNat) (by omega) (by omega) (by omega)
  unfold followB at *
  have f := of_decide_eq_true f
  have g := of_decide_eq_true g
  apply decide_eq_true
  omega
section
variable (st : Sto)
@[simp] theorem ix_pair0 (p : P2) : ixD (pairD p) (.int 0) st = .ok (.int p.1) st := ixD_tup _ _ _ rfl
@[simp] theorem ix_pair1 (p : P2) : ixD (pairD p) (.int 1) st = .ok (.int p.2) st := ixD_tup _ _ _ rfl
@[simp] theorem len_bag (b : List P2) : lenF [bagD b] st = .ok (.int b.length) st := by unfold bagD; rw [lenF_tup, List.length_map]
@[simp] theorem isi_bag (c : Tag) (b : List P2) : isiD c (bagD b) st = .ok (.bl (isiB .tup c)) st := rfl
@[simp] theorem isi_pair (c : Tag) (b : P2) : isiD c (pairD b) st = .ok (.bl (isiB .tup c)) st := rfl
@[simp] theorem len_pair (p : P2) : lenF [pairD p] st = .ok (.int 2) st := by unfold pairD; rw [lenF_tup]; rfl
@[simp] theorem iter_bag (b : List P2) : iterD (bagD b) st = .ok (.frz (b.map pairD)) st := rfl
theorem ix_bag (b : List P2) (i : Nat) (h : i < b.length) : ixD (bagD b) (.int i) st = .ok (pairD b[i]) st := by
  unfold bagD
  have := atI_nat' (b.map pairD) i (by simpa using h)
  rw [List.getElem_map] at this
  exact ixD_tup _ _ _ this
@[simp] theorem slice_bag (b : List P2) (l h : Option Int) : sliceD (bagD b) l h st = .ok (bagD (cutL b l h)) st := by unfold bagD; rw [sliceD_tup, cutD_map]
theorem le_pair (p q : P2) : leD (pairD p) (pairD q) st = .ok (.bl (!decide (ltP2 q p))) st := by
  show R.ok (D.bl (lexLe [p.1, p.2] [q.1, q.2])) st = _
  have e : lexLe [p.1, p.2] [q.1, q.2] = if p.1 = q.1 then (if p.2 = q.2 then true else decide (p.2 ≤ q.2)) else decide (p.1 ≤ q.1) := rfl
  rw [e]
  refine congrArg (fun b => R.ok (D.bl b) st) ?_
  rcases ltP2_tri p q with h | h | h
  · have h' : ¬ ltP2 q p := fun z => ltP2_irr p (ltP2_tr h z)
    rw [decide_eq_false h']
    unfold ltP2 at h
    split
    · split
      · rfl
      · exact decide_eq_true (by omega)
    · exact decide_eq_true (by omega)
  · subst h
    rw [if_pos rfl, if_pos rfl, decide_eq_false (ltP2_irr p)]; rfl
  · rw [decide_eq_true h]
    unfold ltP2 at h
    split
    · split
      · omega
      · exact decide_eq_false (by omega)
    · exact decide_eq_false (by omega)
theorem f_is_pair (p : P2) : F_is_pair [pairD p] st = .ok (.bl true) st := by
  simp [F_is_pair, runF, B_is_pair, F_is_tuple_of, B_is_tuple_of, F_is_tuple_up_to, B_is_tuple_up_to, isiB]
theorem f_is_mark_of {ts : List Int} (p : P2) : F_is_mark_of [tupI ts, pairD p] st = .ok (.bl (decide (MatOk ts p))) st := by
  have e : decide (MatOk ts p) = (decide (0 ≤ p.1) && decide (0 ≤ p.2 ∧ p.2 ≤ ts.length - 1)) := by
    unfold MatOk
    by_cases h1 : 0 ≤ p.1 <;> by_cases h2 : 0 ≤ p.2 <;> by_cases h3 : p.2 < ts.length <;> simp [h1, h2, h3] <;> omega
  rw [e]
  by_cases h : 0 ≤ p.1 <;> simp [F_is_mark_of, runF, B_is_mark_of, f_is_pair, f_is_from, f_is_mat_of, h]
theorem f_wrong_in_bag {ts : List Int} {b : List P2} (h : BagOk ts b) : F_wrong_in_bag [tupI ts, bagD b] st = .ok (.lst []) st := by
  have h30 := h.len
  have e0 : F_is_tuple_up_to [bagD b, .int 0, .int 30] st = .ok (.bl true) st := by
    have : (b.length : Int) ≤ 30 := by omega
    simp [F_is_tuple_up_to, runF, B_is_tuple_up_to, isiB, this]
  obtain ⟨env', s', e, q2, q3, rfl, rfl⟩ := loop_nx (g := tgT (.tp [.nm 2, .nm 3])) (body := ifS (orB (notB (tstE (callE F_is_mark_of (consA (varE 0) (consA (varE 3) (nilA)))))) (andB (tstE (binE gtD (varE 2) (cE (.int 0)))) (tstE (binE leD (varE 3) (binE ixD (varE 1) (binE subD (varE 2) (cE (.int 1)))))))) (retS (lstE (consA (varE 2) (nilA)))) (passS))
    (fun j env s => ∃ q2 q3 : Option D, env = [some (tupI ts), some (bagD b), q2, q3] ∧ s = st)
    (xs := enumL (b.map pairD)) (env := [some (tupI ts), some (bagD b), none, none]) (st := st) ⟨_, _, rfl, rfl⟩
    (by
      rintro j x env s hx ⟨q2, q3, rfl, rfl⟩
      obtain ⟨y, hy, rfl⟩ := enumL_get hx
      rw [List.getElem?_map] at hy
      obtain ⟨p, hp, rfl⟩ := Option.map_eq_some_iff.mp hy
      obtain ⟨hj, ep⟩ := List.getElem?_eq_some_iff.mp hp
      have hm : MatOk ts p := h.ok p (List.mem_of_getElem? hp)
      refine ⟨_, s, ?_, some (.int j), some (pairD p), rfl, rfl⟩
      by_cases h0 : 0 < j
      · have k1 : (j : Int) - 1 = ((j - 1 : Nat) : Int) := by omega
        have k2 := ix_bag s b (j - 1) (by omega)
        have k3 : ltP2 b[j - 1] p := by
          rw [← ep]
          exact List.pairwise_iff_getElem.mp h.up (j - 1) j (by omega) hj (by omega)
        have k4 : 0 < (j : Int) := by omega
        have k5 := le_pair s p b[j - 1]
        rw [decide_eq_true k3] at k5
        simp [Tg.set, Tg.sets, f_is_mark_of, hm, h0, k1, k2, k5]
      · have k4 : ¬ 0 < (j : Int) := by omega
        simp [Tg.set, Tg.sets, f_is_mark_of, hm, h0, k4])
  have ee : enumF [bagD b] s' = .ok (.frz (enumL (b.map pairD))) s' := rfl
  simp [F_wrong_in_bag, runF, B_wrong_in_bag, e0, ee, e]
theorem f_can_follow_by {ts : List Int} (hT : Trk ts) (hs : ts.sum.natAbs < big) {p q : P2} (hp : MatOk ts p) (hq : MatOk ts q) : F_can_follow_by [tupI ts, pairD p, pairD q] st = .ok (.bl (followB ts p q)) st := by
  obtain ⟨a, b, c⟩ := hp
  obtain ⟨d, e, g⟩ := hq
  have := f_way_by st hT (m := q.2.toNat) (o := p.2.toNat) (by omega) (by omega) hs
  rw [show ((q.2.toNat : Nat) : Int) = q.2 by omega, show ((p.2.toNat : Nat) : Int) = p.2 by omega] at this
  simp [F_can_follow_by, runF, B_can_follow_by, this, followB]
end
end Lap
namespace Lap
open PySem G
theorem lc_typed {α : Type} {t : Tg} {fe : EvE} {envw : G.Env} {st : Sto} (f h : α → D) : ∀ (as : List α) (acc : List D), acc.length + as.length ≤ 16777216 →
    (∀ a ∈ as, ∃ env1, t.set (f a) envw = some env1 ∧ fe env1 st = .ok (h a) st) → lcF t yesB fe envw (as.map f) st acc = .ok (acc ++ as.map h) st
  | [], acc, _, _ => by simp [lcF]
  | a :: as, acc, hl, hx => by
    obtain ⟨env1, h1, h2⟩ := hx a List.mem_cons_self
    simp only [List.length_cons] at hl
    rw [List.map_cons]
    unfold lcF
    rw [turnC_yes h1 h2 (by omega), lc_typed f h as (acc ++ [h a]) (by simp; omega) fun y hy => hx y (List.mem_cons_of_mem _ hy)]
    simp
theorem lc_typedF {α : Type} {t : Tg} {tt : EvB} {fe : EvE} {envw : G.Env} {st : Sto} (f h : α → D) (p : α → Bool) : ∀ (as : List α) (acc : List D), acc.length + as.length ≤ 16777216 →
    (∀ a ∈ as, ∃ env1, t.set (f a) envw = some env1 ∧ tt env1 st = .ok (p a) st ∧ (p a = true → fe env1 st = .ok (h a) st)) → lcF t tt fe envw (as.map f) st acc = .ok (acc ++ (as.filter p).map h) st
  | [], acc, _, _ => by simp [lcF]
  | a :: as, acc, hl, hx => by
    obtain ⟨env1, h1, ht, h2⟩ := hx a List.mem_cons_self
    simp only [List.length_cons] at hl
    rw [List.map_cons]
    unfold lcF
    rw [turnC_if h1 ht h2 (by omega), lc_typedF f h p as _ (by split <;> (try simp only [List.length_append, List.length_cons, List.length_nil]) <;> omega) fun y hy => hx y (List.mem_cons_of_mem _ hy)]
    cases e : p a with
    | false => simp [e]
    | true => simp [e]
theorem enumL_typed {α : Type} (f : α → D) (z : α) (xs : List α) : enumL (xs.map f) = (List.range xs.length).map fun (i : Nat) => D.tup [.int i, f (xs.getD i z)] := by
  apply List.ext_getElem?
  intro i
  rw [List.getElem?_map]
  by_cases hi : i < xs.length
  · rw [List.getElem?_range hi]
    unfold enumL
    rw [List.getElem?_zipWith, List.length_map, List.getElem?_range hi, List.getElem?_map, List.getElem?_eq_getElem hi]
    simp [List.getD, hi]
  · rw [List.getElem?_eq_none (by simp; omega), List.getElem?_eq_none (by simp; omega)]; rfl
def RowP (ts : List Int) (b : List P2) : Prop := b.Pairwise fun q p => followB ts p q = true
theorem row_snoc {ts : List Int} (hT : Trk ts) {b : List P2} {p : P2} (hb : ∀ q ∈ b, MatOk ts q) (hp : MatOk ts p) (h : RowP ts b) (hl : b = [] ∨ ∃ q, b.getLast? = some q ∧ followB ts p q = true) : RowP ts (b ++ [p]) := by
  unfold RowP
  rw [List.pairwise_append]
  refine ⟨h, List.pairwise_singleton _ _, fun q hq r hr => ?_⟩
  rw [List.mem_singleton.mp hr]
  rcases hl with rfl | ⟨l, el, f⟩
  · cases hq
  · obtain ⟨b', rfl⟩ := List.getLast?_eq_some_iff.mp el
    rcases List.mem_append.mp hq with hq' | hq'
    · have := (List.pairwise_append.mp h).2.2 q hq' l (by simp)
      exact follow_tr hT hp (hb l (by simp)) (hb q hq) f this
    · rw [List.mem_singleton.mp hq']; exact f
end Lap
namespace Lap
open PySem G
theorem lc_trues {t : Tg} {fe : EvE} {envw : G.Env} (P : Sto → Prop) (xs : List D) {st : Sto} (hP : P st) (hl : xs.length ≤ 1000000)
    (h : ∀ x ∈ xs, ∀ s, P s → ∃ env1 s', t.set x envw = some env1 ∧ fe env1 s = .ok (.bl true) s' ∧ P s') :
    ∃ s', lcF t yesB fe envw xs st [] = .ok (List.replicate xs.length (.bl true)) s' ∧ P s' := by
  obtain ⟨s', acc, e, ⟨rfl, h1⟩, h2⟩ := lc_inv (t := t) (tt := yesB) (fe := fe) (envw := envw) (fun j s acc => (acc = List.replicate j (.bl true) ∧ j ≤ xs.length) ∧ P s) xs 0 st [] ⟨⟨rfl, by omega⟩, hP⟩ (by
    rintro j x s acc hx ⟨⟨rfl, hj⟩, hp⟩
    rw [Nat.zero_add] at *
    have hlt := (List.getElem?_eq_some_iff.mp hx).1
    obtain ⟨env1, s1, e1, e2, e3⟩ := h x (List.mem_of_getElem? hx) s hp
    refine ⟨s1, List.replicate (j + 1) (.bl true), fun k => ?_, ⟨rfl, by omega⟩, e3⟩
    rw [turnC_yes e1 e2 (by simp; omega), List.replicate_succ'])
  exact ⟨s', by rw [e, Nat.zero_add], h2⟩
theorem all_trues (n : Nat) (st : Sto) : allF [.lst (List.replicate n (.bl true))] st = .ok (.bl true) st := by
  have := allF_bools st (List.replicate n true)
  rw [List.map_replicate] at this
  rw [this]
  simp
theorem pool_keep {p : Nat} {st st' : Sto} (hp : Pool p st) (h : ∀ k, k < st.length → st'[k]? = st[k]?) : Pool p st' := by
  obtain ⟨a, b, c, e⟩ := hp
  have hn := (List.getElem?_eq_some_iff.mp e).1
  exact ⟨a, b, c, by rw [h p hn]; exact e⟩
end Lap
namespace Lap
open PySem G
theorem walk_ge_way {ts : List Int} (hT : Trk ts) {m s : Nat} (hm : m < ts.length) (hs : 1 ≤ s) : wayI ts m ((m + s) % ts.length) ≤ walkI ts m s := by
  have h0 : 0 < ts.length := hT.pos
  have ho := Nat.mod_lt (m + s) h0
  unfold wayI
  refine walk_le_of hT m ?_
  rcases Nat.lt_or_ge s (stepsN ts.length m ((m + s) % ts.length)) with h | h
  · have := (steps_first hm ho hs (by omega)).mp rfl
    omega
  · exact h
structure RowOk (ts : List Int) (b : List P2) : Prop where
  ok : ∀ p ∈ b, MatOk ts p
  row : RowP ts b
theorem RowOk.bag {ts : List Int} (hT : Trk ts) {b : List P2} (h : RowOk ts b) (hl : b.length ≤ 30) : BagOk ts b :=
  ⟨hl, h.ok, by
    refine List.Pairwise.imp_of_mem (fun {p q} hp hq f => ?_) h.row
    exact .inl (follow_lt hT (h.ok q hq) (h.ok p hp) f)⟩
theorem app_mut {st : Sto} {q : Nat} {xs : List D} (x : D) (h : st[q]? = some (.lst xs)) (hl : xs.length < 1000000) : appF (.mut q) [x] st = .ok .non (st.set q (.lst (xs ++ [x]))) := by
  have : xs.length < 16777216 := by omega
  simp [appF, h, this]
theorem isL_mut {st : Sto} {q : Nat} {xs : List D} (h : st[q]? = some (.lst xs)) : isL (.mut q) st = true := by simp [isL, h]
theorem set_other {st : Sto} {n q : Nat} {mo : MO} (h : n ≠ q) (hp : Pool n st) : Pool n (st.set q mo) := by
  obtain ⟨a, b, c, hp⟩ := hp
  exact ⟨a, b, c, by rw [List.getElem?_set_ne (fun z => h z.symm)]; exact hp⟩
end Lap
namespace Lap
open PySem G
mutual
def Thing : D → Bool
  | .non => true
  | .bl _ => true
  | .int _ => true
  | .str _ => true
  | .dic => true
  | .emp => true
  | .tup xs => ThingL xs
  | .lst xs => ThingL xs
  | _ => false
def ThingL : List D → Bool
  | [] => true
  | x :: xs => Thing x && ThingL xs
end
theorem thingL_all : ∀ {xs : List D}, ThingL xs = true ↔ ∀ x ∈ xs, Thing x = true
  | [] => by simp [ThingL]
  | x :: xs => by simp [ThingL, thingL_all (xs := xs)]
def fromB : D → Int → Bool
  | .int i, l => decide (l ≤ i)
  | _, _ => false
def upB : D → Int → Bool
  | .int i, m => decide (0 ≤ i ∧ i ≤ m)
  | _, _ => false
section
variable (st : Sto)
theorem t_is_whole (d : D) (h : Thing d = true) : F_is_whole [d] st = .ok (.bl (match d with | .int _ => true | _ => false)) st := by
  cases d <;> first | (simp [F_is_whole, runF, B_is_whole, isiB]; done) | (simp [Thing] at h)
theorem t_is_from (d : D) (l : Int) (h : Thing d = true) : F_is_from [d, .int l] st = .ok (.bl (fromB d l)) st := by
  have e := t_is_whole st d h
  cases d <;> first | (simp [F_is_from, runF, B_is_from, e, fromB]; done) | (simp [Thing] at h)
theorem t_is_up_to (d : D) (m : Int) (h : Thing d = true) : F_is_up_to [d, .int m] st = .ok (.bl (upB d m)) st := by
  have e := t_is_whole st d h
  cases d with
  | int i => exact f_is_up_to st i m
  | _ => first | (simp [F_is_up_to, runF, B_is_up_to, F_is_between, B_is_between, e, upB]; done) | (simp [Thing] at h)
def isTrackB : D → Bool
  | .tup xs => decide (1 ≤ xs.length ∧ xs.length ≤ 8) && xs.all fun x => fromB x 1
  | _ => false
theorem all_of (f : D → Bool) (xs : List D) : allF [.lst (xs.map fun x => D.bl (f x))] st = .ok (.bl (xs.all f)) st := by
  have := allF_bools st (xs.map f)
  rw [List.map_map] at this
  rw [show (xs.map f).all id = xs.all f by rw [List.all_map]; rfl] at this
  exact this
theorem t_is_track (d : D) (h : Thing d = true) : F_is_track [d] st = .ok (.bl (isTrackB d)) st := by
  have e : F_is_track_of [d] st = .ok (.bl (isTrackB d)) st := by
    cases d with
    | tup xs =>
      have hx := thingL_all.mp (show ThingL xs = true by simpa [Thing] using h)
      by_cases h1 : 1 ≤ xs.length <;> by_cases h8 : xs.length ≤ 8
      · have e1 := lc_typed (t := .nm 1) (fe := callE F_is_from (consA (varE 1) (consA (cE (.int 1)) nilA))) (envw := [some (.tup xs), none]) (st := st) id (fun x => .bl (fromB x 1)) xs [] (by simp; omega) (by
          intro x hx'
          exact ⟨[some (.tup xs), some x], by simp, by simp [t_is_from st x 1 (hx x hx')]⟩)
        rw [List.map_id, List.nil_append] at e1
        have e2 := all_of st (fun x => fromB x 1) xs
        have c1 : (1 : Int) ≤ xs.length := by omega
        have c2 : (xs.length : Int) ≤ 8 := by omega
        generalize (xs.map fun x => D.bl (fromB x 1)) = l at *
        simp [F_is_track_of, runF, B_is_track_of, F_is_tuple_up_to, B_is_tuple_up_to, isiB, c1, c2, e1, e2, isTrackB, h1, h8]
      all_goals
        have c : ¬ ((1 : Int) ≤ xs.length ∧ (xs.length : Int) ≤ 8) := by omega
        by_cases c1 : (1 : Int) ≤ xs.length <;> by_cases c2 : (xs.length : Int) ≤ 8
        · exact absurd ⟨c1, c2⟩ c
        all_goals simp [F_is_track_of, runF, B_is_track_of, F_is_tuple_up_to, B_is_tuple_up_to, isiB, c1, c2, isTrackB, h1, h8]
    | _ => first | (simp [F_is_track_of, runF, B_is_track_of, F_is_tuple_up_to, B_is_tuple_up_to, isiB, isTrackB]; done) | (simp [Thing] at h)
  simp [F_is_track, runF, B_is_track, e]
def isMarkB (ts : List Int) : D → Bool
  | .tup [a, b] => fromB a 0 && upB b (ts.length - 1)
  | _ => false
def isPairB : D → Bool
  | .tup [_, _] => true
  | _ => false
theorem t_is_pair (d : D) (h : Thing d = true) : F_is_pair [d] st = .ok (.bl (isPairB d)) st := by
  cases d with
  | tup xs =>
    match xs with
    | [] => simp [F_is_pair, runF, B_is_pair, F_is_tuple_of, B_is_tuple_of, F_is_tuple_up_to, B_is_tuple_up_to, isiB, isPairB]
    | [a] => simp [F_is_pair, runF, B_is_pair, F_is_tuple_of, B_is_tuple_of, F_is_tuple_up_to, B_is_tuple_up_to, isiB, isPairB]
    | [a, b] => simp [F_is_pair, runF, B_is_pair, F_is_tuple_of, B_is_tuple_of, F_is_tuple_up_to, B_is_tuple_up_to, isiB, isPairB]
    | a :: b :: c :: r =>
      have c1 : (2 : Int) ≤ ((r.length : Int) + 1 + 1 + 1) := by omega
      have c2 : ¬ (((r.length : Int) + 1 + 1 + 1) ≤ 2) := by omega
      simp [F_is_pair, runF, B_is_pair, F_is_tuple_of, B_is_tuple_of, F_is_tuple_up_to, B_is_tuple_up_to, isiB, isPairB, c1, c2]
  | _ => first | (simp [F_is_pair, runF, B_is_pair, F_is_tuple_of, B_is_tuple_of, F_is_tuple_up_to, B_is_tuple_up_to, isiB, isPairB]; done) | (simp [Thing] at h)
theorem ix_two0 (a b : D) : ixD (.tup [a, b]) (.int 0) st = .ok a st := ixD_tup _ _ _ rfl
theorem ix_two1 (a b : D) : ixD (.tup [a, b]) (.int 1) st = .ok b st := ixD_tup _ _ _ rfl
theorem t_is_mark_of {ts : List Int} (d : D) (h : Thing d = true) : F_is_mark_of [tupI ts, d] st = .ok (.bl (isMarkB ts d)) st := by
  have ep := t_is_pair st d h
  have no : (∀ a b, d ≠ .tup [a, b]) → F_is_mark_of [tupI ts, d] st = .ok (.bl (isMarkB ts d)) st := fun hn => by
    have e1 : isPairB d = false := by
      unfold isPairB
      split
      · exact absurd rfl (hn _ _)
      · rfl
    have e2 : isMarkB ts d = false := by
      unfold isMarkB
      split
      · exact absurd rfl (hn _ _)
      · rfl
    rw [e1] at ep
    rw [e2]
    simp [F_is_mark_of, runF, B_is_mark_of, ep]
  cases d with
  | tup xs =>
    match xs, h, ep, no with
    | [a, b], h, ep, _ =>
      have hx := thingL_all.mp (show ThingL [a, b] = true by simpa [Thing] using h)
      have ea := t_is_from st a 0 (hx a (by simp))
      have eb := t_is_up_to st b (ts.length - 1) (hx b (by simp))
      rw [show isPairB (.tup [a, b]) = true from rfl] at ep
      have em : F_is_mat_of [tupI ts, b] st = .ok (.bl (upB b (ts.length - 1))) st := by simp [F_is_mat_of, runF, B_is_mat_of, eb]
      show _ = R.ok (D.bl (fromB a 0 && upB b (ts.length - 1))) st
      cases hf : fromB a 0 <;> simp [F_is_mark_of, runF, B_is_mark_of, ep, ix_two0, ix_two1, ea, em, hf]
    | [], _, _, no => exact no (by simp)
    | [_], _, _, no => exact no (by simp)
    | _ :: _ :: _ :: _, _, _, no => exact no (by simp)
  | _ => exact no (by simp)
end
def leB : D → D → Bool
  | .tup [.int a, .int b], .tup [.int c, .int d] => !decide (ltP2 (c, d) (a, b))
  | _, _ => true
def wrongL (ts : List Int) : Option D → Nat → List D → List D
  | _, _, [] => []
  | prev, j, x :: xs => if isMarkB ts x && !(match prev with | some p => leB x p | none => false) then wrongL ts (some x) (j + 1) xs else [.int j]
def wrongD (ts : List Int) : D → List D
  | .tup xs => if xs.length ≤ 30 then wrongL ts none 0 xs else [.non]
  | _ => [.non]
def enumG : Nat → List D → List D
  | _, [] => []
  | j, x :: xs => .tup [.int j, x] :: enumG (j + 1) xs
theorem enumG_get : ∀ (xs : List D) (j i : Nat), (enumG j xs)[i]? = (xs[i]?).map fun x => .tup [.int ((j + i : Nat) : Int), x]
  | [], _, _ => by simp [enumG]
  | x :: xs, j, 0 => by simp [enumG]
  | x :: xs, j, i + 1 => by
    simp only [enumG, List.getElem?_cons_succ]
    rw [enumG_get xs (j + 1) i, show j + 1 + i = j + (i + 1) by omega]
theorem enumL_G (xs : List D) : enumL xs = enumG 0 xs := by
  apply List.ext_getElem?
  intro i
  rw [enumG_get]
  unfold enumL
  rw [List.getElem?_zipWith]
  by_cases hi : i < xs.length
  · rw [List.getElem?_range hi, List.getElem?_eq_getElem hi]; simp
  · rw [List.getElem?_eq_none (by simp; omega), List.getElem?_eq_none (by omega)]; rfl
def bagBody (FM : FA) : SvS := ifS (orB (notB (tstE (callE FM (consA (varE 0) (consA (varE 3) (nilA)))))) (andB (tstE (binE gtD (varE 2) (cE (.int 0)))) (tstE (binE leD (varE 3) (binE ixD (varE 1) (binE subD (varE 2) (cE (.int 1)))))))) (retS (lstE (consA (varE 2) (nilA)))) (passS)
theorem mark_form {ts : List Int} {d : D} (h : isMarkB ts d = true) : ∃ p : P2, d = pairD p := by
  unfold isMarkB at h
  split at h
  · rename_i a b
    rw [Bool.and_eq_true] at h
    cases a with
    | int i =>
      cases b with
      | int j => exact ⟨(i, j), rfl⟩
      | _ => simp [upB] at h
    | _ => simp [fromB] at h
  · cases h
section
variable (st : Sto)
theorem t_loop {ts : List Int} {FM : FA} (hF : ∀ d, Thing d = true → FM [tupI ts, d] st = .ok (.bl (isMarkB ts d)) st) : ∀ (suf pre : List D) (q2 q3 : Option D), (∀ d ∈ suf, Thing d = true) → (∀ d ∈ pre, isMarkB ts d = true) →
    thenS (loopF (tgT (.tp [.nm 2, .nm 3])) (bagBody FM) (enumG pre.length suf) [some (tupI ts), some (.tup (pre ++ suf)), q2, q3] st) (retS (lstE (nilA))) = .ret (.lst (wrongL ts pre.getLast? pre.length suf)) st := by
  intro suf
  induction suf with
  | nil => intro pre q2 q3 _ _; simp [enumG, wrongL]
  | cons x suf ih =>
    intro pre q2 q3 hs hp
    have hx := hF x (hs x List.mem_cons_self)
    have ih' := ih (pre ++ [x]) (some (.int pre.length)) (some x) (fun d hd => hs d (List.mem_cons_of_mem _ hd))
    rw [List.append_assoc, List.length_append, List.getLast?_concat] at ih'
    simp only [List.singleton_append, List.length_cons, List.length_nil, Nat.zero_add] at ih'
    unfold enumG wrongL
    cases hm : isMarkB ts x with
    | false =>
      rw [hm] at hx
      simp [bagBody, hx]
    | true =>
      rw [hm] at hx
      have ih'' := ih' fun d hd => by
        rcases List.mem_append.mp hd with hd | hd
        · exact hp d hd
        · rw [List.mem_singleton.mp hd]; exact hm
      rcases List.eq_nil_or_concat pre with rfl | ⟨pre', y, rfl⟩
      · simp [bagBody, hx]
        simp at ih''
        exact ih''
      · rw [List.concat_eq_append] at *
        obtain ⟨p, rfl⟩ := mark_form hm
        obtain ⟨q, rfl⟩ := mark_form (hp y (by simp))
        have hl : ((pre' ++ [pairD q]).length : Int) - 1 = (pre'.length : Int) := by rw [List.length_append]; simp
        have h0 : 0 < (pre' ++ [pairD q]).length := by rw [List.length_append]; simp
        have hix : ixD (.tup (pre' ++ [pairD q] ++ pairD p :: suf)) (.int (pre'.length : Int)) st = .ok (pairD q) st := by
          have := atI_nat' (pre' ++ [pairD q] ++ pairD p :: suf) pre'.length (by simp)
          rw [List.getElem_append_left (by simp), List.getElem_append_right (by simp)] at this
          simp only [Nat.sub_self, List.getElem_cons_zero] at this
          exact ixD_tup _ _ _ this
        have hle := le_pair st p q
        have hlB : leB (pairD p) (pairD q) = !decide (ltP2 q p) := rfl
        rw [List.getLast?_concat]
        simp only [hlB]
        generalize hpr : pre' ++ [pairD q] = pre at *
        cases hd : decide (ltP2 q p) with
        | false =>
          rw [hd] at hle
          simp [bagBody, hx, h0, hl, hix, hle]
        | true =>
          rw [hd] at hle
          simp [bagBody, hx, h0, hl, hix, hle]
          simpa [bagBody] using ih''
theorem wrong_cases {ts : List Int} : ∀ (xs : List D) (prev : Option D) (j : Nat), wrongL ts prev j xs = [] ∨ ∃ k : Nat, wrongL ts prev j xs = [.int k]
  | [], _, _ => .inl rfl
  | x :: xs, prev, j => by
    unfold wrongL
    generalize (isMarkB ts x && !(match prev with | some p => leB x p | none => false)) = b
    cases b with
    | true => exact wrong_cases xs (some x) (j + 1)
    | false => exact .inr ⟨j, rfl⟩
theorem t_wrong_in_bag {ts : List Int} (d : D) (h : Thing d = true) : F_wrong_in_bag [tupI ts, d] st = .ok (.lst (wrongD ts d)) st := by
  cases d with
  | tup xs =>
    have hx := thingL_all.mp (show ThingL xs = true by simpa [Thing] using h)
    have key := t_loop st (ts := ts) (FM := F_is_mark_of) (fun d hd => t_is_mark_of st d hd) xs [] none none hx (by simp)
    simp only [List.nil_append, List.length_nil, List.getLast?_nil] at key
    unfold bagBody at key
    by_cases h30 : xs.length ≤ 30
    · have c2 : (xs.length : Int) ≤ 30 := by omega
      have ee : enumF [.tup xs] st = .ok (.frz (enumG 0 xs)) st := by show R.ok (ItD.frz (enumL xs)) st = _; rw [enumL_G]
      have hw : wrongD ts (.tup xs) = wrongL ts none 0 xs := if_pos h30
      rw [hw]
      generalize wrongL ts none 0 xs = wl at *
      simp [-enumF_tup, F_wrong_in_bag, runF, B_wrong_in_bag, F_is_tuple_up_to, B_is_tuple_up_to, isiB, c2, ee, key]
    · have c2 : ¬ (xs.length : Int) ≤ 30 := by omega
      have hw : wrongD ts (.tup xs) = [.non] := if_neg h30
      rw [hw]
      simp [F_wrong_in_bag, runF, B_wrong_in_bag, F_is_tuple_up_to, B_is_tuple_up_to, isiB, c2]
  | _ => first | (simp [F_wrong_in_bag, runF, B_wrong_in_bag, F_is_tuple_up_to, B_is_tuple_up_to, isiB, wrongD]; done) | (simp [Thing] at h)
theorem eq_wrong {ts : List Int} (d : D) : eqD (.lst (wrongD ts d)) (.lst []) st = .ok (.bl (wrongD ts d).isEmpty) st := by
  have c : wrongD ts d = [] ∨ wrongD ts d = [.non] ∨ ∃ k : Nat, wrongD ts d = [.int k] := by
    unfold wrongD
    split
    · split
      · rcases wrong_cases (ts := ts) _ none 0 with h | ⟨k, h⟩
        · exact .inl h
        · exact .inr (.inr ⟨k, h⟩)
      · exact .inr (.inl rfl)
    · exact .inr (.inl rfl)
  rcases c with h | h | ⟨k, h⟩ <;> rw [h] <;> rfl
end
end Lap
namespace Lap
open PySem G
def gapsL (b : List P2) : List (P2 × P2) := b.zip (b.drop 1)
theorem gaps_len (b : List P2) : (gapsL b).length = b.length - 1 := by unfold gapsL; simp
theorem gaps_mem {b : List P2} {g : P2 × P2} (h : g ∈ gapsL b) : g.1 ∈ b ∧ g.2 ∈ b := by
  have := List.of_mem_zip h
  exact ⟨this.1, List.mem_of_mem_drop this.2⟩
theorem zip_pairs : ∀ (xs ys : List P2), (xs.map pairD).zipWith (fun x y => D.tup [x, y]) (ys.map pairD) = (xs.zip ys).map fun g => D.tup [pairD g.1, pairD g.2]
  | [], _ => by simp
  | _ :: _, [] => by simp
  | x :: xs, y :: ys => by simp [zip_pairs xs ys]
theorem toPDs_ints : ∀ b : List Int, toPDs (b.map D.int) = some (b.map PyData.int)
  | [] => by simp [toPDs]
  | p :: b => by simp [toPDs, toPD, toPDs_ints b]
theorem canLay_ints : ∀ b : List Int, PyData.canLayAll0 (b.map PyData.int) = true
  | [] => rfl
  | p :: b => by simp [PyData.canLayAll0, PyData.canLay0, canLay_ints b]
theorem depth_ints : ∀ b : List Int, PyData.depthAll (b.map PyData.int) = 0
  | [] => rfl
  | p :: b => by simp [PyData.depthAll, PyData.depth, depth_ints b]
theorem shaped_ints (b : List Int) : SeqAt.shaped (.tuple (b.map PyData.int)) = true := by
  simp [SeqAt.shaped, PyData.canLay0, canLay_ints, PyData.depth, depth_ints]
section
variable (st : Sto)
theorem zip_gaps (b : List P2) : zipF [bagD b, bagD (cutL b (some 1) none)] st = .ok (.frz ((gapsL b).map fun g => D.tup [pairD g.1, pairD g.2])) st := by
  have : cutL b (some 1) none = b.drop 1 := cutL_from b 1
  rw [this]
  unfold gapsL
  rw [← zip_pairs]
  rfl
end
end Lap
namespace Lap
open PySem G
def pat (row : List P2) (i : Nat) : P2 := row.getD i (0, 0)
theorem pat_get {row : List P2} {i : Nat} (h : i < row.length) : pat row i = row[i] := by unfold pat; rw [List.getD_eq_getElem?_getD, List.getElem?_eq_getElem h]; rfl
def wrongI (ts : List Int) (b : List P2) : List Int := ((List.range (b.length - 1)).filter fun i => !followB ts (pat b (i + 1)) (pat b i)).map fun (i : Nat) => (1 + (i : Int))
theorem wrong_nil {ts : List Int} {b : List P2} : wrongI ts b = [] ↔ ∀ i, i + 1 < b.length → followB ts (pat b (i + 1)) (pat b i) = true := by
  unfold wrongI
  rw [List.map_eq_nil_iff, List.filter_eq_nil_iff]
  constructor
  · intro h i hi
    have := h i (List.mem_range.mpr (by omega))
    simpa using this
  · intro h i hi
    have := h i (by have := List.mem_range.mp hi; omega)
    simp [this]
theorem eqO_lstI_nil (l : List Int) : eqO (lstI l) (.lst []) = some (decide (l = [])) := by
  unfold eqO
  have h1 : scalD (lstI l) (.lst []) = none := rfl
  have h2 : toPD (lstI l) = some (.list (l.map PyData.int)) := by unfold lstI toPD; rw [toPDs_ints]; rfl
  have h3 : toPD (.lst []) = some (.list []) := by simp [toPD, toPDs]
  rw [h1, h2, h3]
  show (if SeqAt.shaped (.list (l.map PyData.int)) = true ∧ SeqAt.shaped (.list []) = true then _ else _) = _
  rw [if_pos ⟨by simp [SeqAt.shaped, PyData.canLay0, canLay_ints, PyData.depth, depth_ints], by simp [SeqAt.shaped, PyData.canLay0, PyData.canLayAll0, PyData.depth, PyData.depthAll]⟩]
  cases l with
  | nil => simp [PyData.eqv, PyData.eqvAll]
  | cons p b => simp [PyData.eqv, PyData.eqvAll]
section
variable (st : Sto)
theorem eq_lstI_nil (l : List Int) : eqD (lstI l) (.lst []) st = .ok (.bl (decide (l = []))) st := by unfold eqD; rw [eqO_lstI_nil]
theorem ne_lstI_nil (l : List Int) : neD (lstI l) (.lst []) st = .ok (.bl (!decide (l = []))) st := by unfold neD; rw [eqO_lstI_nil]
theorem wrong_lc {ts : List Int} {FC : FA} {b : List P2} (hF : ∀ p ∈ b, ∀ q ∈ b, FC [tupI ts, pairD p, pairD q] st = .ok (.bl (followB ts p q)) st) (h30 : b.length ≤ 1000) :
    lcF (.nm 2) (notB (tstE (callE FC (consA (varE 0) (consA (binE ixD (varE 1) (varE 2)) (consA (binE ixD (varE 1) (binE subD (varE 2) (cE (.int 1)))) (nilA))))))) (varE 2) [some (tupI ts), some (bagD b), none] (rangeD 1 (b.length - 1)) st [] = .ok ((wrongI ts b).map D.int) st := by
  have e := lc_typedF (t := .nm 2) (tt := notB (tstE (callE FC (consA (varE 0) (consA (binE ixD (varE 1) (varE 2)) (consA (binE ixD (varE 1) (binE subD (varE 2) (cE (.int 1)))) (nilA))))))) (fe := varE 2) (envw := [some (tupI ts), some (bagD b), none]) (st := st)
    (fun (i : Nat) => D.int (1 + i)) (fun (i : Nat) => D.int (1 + i)) (fun i => !followB ts (pat b (i + 1)) (pat b i)) (List.range (b.length - 1)) [] (by simp; omega) (by
      intro i hi
      have hi := List.mem_range.mp hi
      refine ⟨[some (tupI ts), some (bagD b), some (.int (1 + i))], by simp, ?_, fun z => by simp⟩
      have k1 : (1 : Int) + i = ((i + 1 : Nat) : Int) := by push_cast; omega
      have k2 : ((i + 1 : Nat) : Int) - 1 = (i : Int) := by push_cast; omega
      have x1 := ix_bag st b (i + 1) (by omega)
      have x2 := ix_bag st b i (by omega)
      have f := hF _ (List.getElem_mem (l := b) (n := i + 1) (by omega)) _ (List.getElem_mem (l := b) (n := i) (by omega))
      rw [pat_get (by omega), pat_get (by omega)]
      generalize followB ts b[i + 1] b[i] = v at *
      simp [-Int.natCast_add, k1, k2, x1, x2, f])
  rw [List.nil_append] at e
  have er : rangeD 1 (b.length - 1) = (List.range (b.length - 1)).map fun (i : Nat) => D.int (1 + i) := rfl
  rw [er, e]
  unfold wrongI
  rw [List.map_map]; rfl
theorem f_wrong_marks_by {ts : List Int} (hT : Trk ts) (hs : ts.sum.natAbs < big) {b : List P2} (hb : ∀ p ∈ b, MatOk ts p) (h30 : b.length ≤ 1000) : F_wrong_marks_by [tupI ts, bagD b] st = .ok (lstI (wrongI ts b)) st := by
  have e := wrong_lc st (FC := F_can_follow_by) (fun p hp q hq => f_can_follow_by st hT hs (hb p hp) (hb q hq)) h30
  have k2 : ((b.length : Int) - 1).toNat = b.length - 1 := by omega
  have k3 : b.length < 4611686018427387904 := by omega
  unfold lstI
  generalize (wrongI ts b).map D.int = l at *
  simp [F_wrong_marks_by, runF, B_wrong_marks_by, k2, k3, e]
end
end Lap
namespace Lap
open PySem PySem.Spec PyProof.Rows L2 G
theorem set_set {st : Sto} {q : Nat} {a b : MO} : (st.set q a).set q b = st.set q b := by simp
end Lap
namespace Lap
open PySem G
def addAt (l : List Int) (i : Nat) : List Int := l.set i (l.getD i 0 + 1)
def bumps (l : List Int) (is : List Nat) : List Int := is.foldl addAt l
theorem bumps_len (is : List Nat) : ∀ l, (bumps l is).length = l.length := by
  induction is with
  | nil => intro l; rfl
  | cons i is ih => intro l; show (bumps (addAt l i) is).length = _; rw [ih]; simp [addAt]
theorem bumps_get (is : List Nat) : ∀ (l : List Int) (j : Nat), j < l.length → (bumps l is).getD j 0 = l.getD j 0 + (is.count j : Nat) := by
  induction is with
  | nil => intro l j _; simp [bumps]
  | cons i is ih =>
    intro l j hj
    show (bumps (addAt l i) is).getD j 0 = _
    rw [ih (addAt l i) j (by simpa [addAt] using hj)]
    unfold addAt
    by_cases h : i = j
    · subst h
      simp [List.getD_eq_getElem?_getD, hj, List.count_cons]
      omega
    · have h' : ¬ j = i := fun z => h z.symm
      simp [List.getD_eq_getElem?_getD, List.getElem?_set_ne h, List.count_cons, h, h']
def stepL (M m n : Nat) : List Nat := (List.range (n - 1)).map fun k => (m + (k + 1)) % M
def betweenL (M : Nat) (g : P2 × P2) : List Nat := stepL M g.1.2.toNat (stepsN M g.1.2.toNat g.2.2.toNat)
def missF (M : Nat) (gs : List (P2 × P2)) (s : Int) (i : Nat) : Int := s + (gs.map fun g => ((betweenL M g).count i : Int)).sum
def missL (M : Nat) (gs : List (P2 × P2)) (s : Int) : List Int := (List.range M).map (missF M gs s)
theorem miss_len (M : Nat) (gs : List (P2 × P2)) (s : Int) : (missL M gs s).length = M := by simp [missL]
theorem miss_get {M : Nat} {gs : List (P2 × P2)} {s : Int} {i : Nat} (h : i < M) : (missL M gs s).getD i 0 = missF M gs s i := by
  unfold missL; simp [List.getD_eq_getElem?_getD, h]
theorem list_eqI {a b : List Int} (hl : a.length = b.length) (h : ∀ i, i < a.length → a.getD i 0 = b.getD i 0) : a = b := by
  refine List.ext_getElem hl fun i h1 h2 => ?_
  have := h i h1
  simpa [List.getD_eq_getElem?_getD, h1, h2] using this
theorem miss_nil (M : Nat) (s : Int) : missL M [] s = List.replicate M s := by
  refine list_eqI (by simp [missL]) fun i hi => ?_
  rw [miss_len] at hi
  rw [miss_get hi]
  simp [missF, List.getD_eq_getElem?_getD, hi]
theorem miss_snoc (M : Nat) (gs : List (P2 × P2)) (g : P2 × P2) (s : Int) : missL M (gs ++ [g]) s = bumps (missL M gs s) (betweenL M g) := by
  refine list_eqI (by rw [bumps_len, miss_len, miss_len]) fun i hi => ?_
  rw [miss_len] at hi
  rw [miss_get hi, bumps_get _ _ _ (by rw [miss_len]; exact hi), miss_get hi]
  unfold missF
  simp [List.map_append, List.sum_append]
  omega
theorem mem_stepL {M : Nat} (hM : 0 < M) {m n j : Nat} (h : j ∈ stepL M m n) : j < M := by
  unfold stepL at h
  obtain ⟨k, _, rfl⟩ := List.mem_map.mp h
  exact Nat.mod_lt _ hM
theorem setD_at {st : Sto} {q : Nat} {l : List Int} {i : Nat} (h : st[q]? = some (.lst (l.map D.int))) (hi : i < l.length) (v : Int) : setD (.mut q) (.int i) (.int v) st = some (st.set q (.lst ((l.set i v).map D.int))) := by
  have := setD_mut (d := .int v) h (j := i) (k := (i : Int)) (by unfold L2.ixN; simp [hi])
  rw [this, List.map_set]
theorem ix_mutI {st : Sto} {q : Nat} {l : List Int} {i : Nat} (h : st[q]? = some (.lst (l.map D.int))) (hi : i < l.length) : ixD (.mut q) (.int i) st = .ok (.int (l.getD i 0)) st := by
  show (match (seqOf (.mut q) st).bind fun xs => L2.atI xs (i : Int) with | some d => R.ok d st | none => .fail) = _
  have : seqOf (.mut q) st = some (l.map D.int) := by simp [seqOf, h]
  rw [this, Option.bind_some, atI_nat' _ i (by simpa using hi)]
  simp [List.getD_eq_getElem?_getD, hi]
theorem bump_loop {g : TgF} {body : SvS} {q : Nat} (Env0 : G.Env → Prop) {st0 : Sto} (l0 : List Int) (is : List Nat) (xs : List D) (hx : xs.length = is.length) (h : ∀ i ∈ is, i < l0.length) {env : G.Env} {st : Sto} (he : Env0 env) (hq : st[q]? = some (.lst (l0.map D.int))) (hk : ∀ k, k ≠ q → st[k]? = st0[k]?) (hl : st.length = st0.length)
    (step : ∀ (j : Nat) (x : D) (i : Nat) (l : List Int) (env : G.Env) (s : Sto), xs[j]? = some x → is[j]? = some i → Env0 env → s[q]? = some (.lst (l.map D.int)) → i < l.length → ∃ env', bindS (g x env s) env body = .nx env' (s.set q (.lst ((addAt l i).map D.int))) ∧ Env0 env') :
    ∃ env' st', loopF g body xs env st = .nx env' st' ∧ Env0 env' ∧ st'[q]? = some (.lst ((bumps l0 is).map D.int)) ∧ (∀ k, k ≠ q → st'[k]? = st0[k]?) ∧ st'.length = st0.length := by
  have key := loop_nx (g := g) (body := body) (fun j env s => Env0 env ∧ s[q]? = some (.lst ((bumps l0 (is.take j)).map D.int)) ∧ (∀ k, k ≠ q → s[k]? = st0[k]?) ∧ s.length = st0.length) (xs := xs) (env := env) (st := st) ⟨he, hq, hk, hl⟩
    (by
      rintro j x env s hxj ⟨he, hq, hk, hl⟩
      have hj := (List.getElem?_eq_some_iff.mp hxj).1
      have hi : is[j]? = some is[j] := List.getElem?_eq_getElem (by omega)
      obtain ⟨env', e, he'⟩ := step j x is[j] _ env s hxj hi he hq (by rw [bumps_len]; exact h _ (List.getElem_mem _))
      have hql := (List.getElem?_eq_some_iff.mp hq).1
      refine ⟨env', _, e, he', ?_, fun k hk2 => ?_, by simpa using hl⟩
      · rw [List.take_succ, hi]
        have : bumps l0 (is.take j ++ (some is[j]).toList) = addAt (bumps l0 (is.take j)) is[j] := by
          unfold bumps; rw [List.foldl_append]; rfl
        rw [this]
        simp [hql]
      · rw [List.getElem?_set_ne (fun z => hk2 z.symm)]; exact hk k hk2)
  obtain ⟨env', st', e, a, b, c, d⟩ := key
  rw [hx, List.take_length] at b
  exact ⟨env', st', e, a, b, c, d⟩
theorem f_mats_between (st : Sto) {ts : List Int} (hT : Trk ts) {g : P2 × P2} (hp : MatOk ts g.1) (hq : MatOk ts g.2) : F_mats_between [tupI ts, .int g.1.2, .int g.2.2] st = .ok (.lst ((betweenL ts.length g).map fun (i : Nat) => D.int i)) st := by
  have h0 : 0 < ts.length := hT.pos
  have h8 := hT.le
  have m1 : ((g.1.2.toNat : Nat) : Int) = g.1.2 ∧ g.1.2.toNat < ts.length := by have := hp.2; omega
  have m2 : ((g.2.2.toNat : Nat) : Int) = g.2.2 ∧ g.2.2.toNat < ts.length := by have := hq.2; omega
  have e1 := f_steps_by st m1.2 m2.2
  have hr := steps_rng m1.2 m2.2
  unfold betweenL
  rw [m1.1, m2.1] at e1
  generalize stepsN ts.length g.1.2.toNat g.2.2.toNat = S at *
  have lc := lc_typed (t := .nm 3) (fe := binE modD (binE addD (varE 1) (varE 3)) (callE lenF (consA (varE 0) (nilA)))) (envw := [some (tupI ts), some (.int g.1.2), some (.int g.2.2), none]) (st := st) (fun (i : Nat) => D.int (1 + i)) (fun (i : Nat) => D.int (((g.1.2.toNat + (i + 1)) % ts.length : Nat) : Int)) (List.range (S - 1)) [] (by simp; omega) (by
    intro i _
    refine ⟨[some (tupI ts), some (.int g.1.2), some (.int g.2.2), some (.int (1 + i))], by simp, ?_⟩
    have : (g.1.2 + (1 + (i : Int))) % (ts.length : Int) = (((g.1.2.toNat + (i + 1)) % ts.length : Nat) : Int) := by
      rw [← m1.1]
      push_cast
      congr 1
      omega
    generalize (g.1.2.toNat + (i + 1)) % ts.length = z at *
    simp [h0, this])
  rw [List.nil_append, show (List.range (S - 1)).map (fun (i : Nat) => D.int (1 + i)) = rangeD 1 (S - 1) from rfl] at lc
  have er : (stepL ts.length g.1.2.toNat S).map (fun (i : Nat) => D.int i) = (List.range (S - 1)).map (fun (i : Nat) => D.int (((g.1.2.toNat + (i + 1)) % ts.length : Nat) : Int)) := by
    unfold stepL; rw [List.map_map]; rfl
  rw [er]
  have k1 : ((S : Int) - 1).toNat = S - 1 := by omega
  have k2 : S < 4611686018427387904 := by omega
  generalize (List.range (S - 1)).map (fun (i : Nat) => D.int (((g.1.2.toNat + (i + 1)) % ts.length : Nat) : Int)) = l at *
  simp [F_mats_between, runF, B_mats_between, e1, k1, k2, lc]
def mBody6 : SvS := (asgS (binE addD (binE ixD (varE 3) (varE 6)) (cE (.int 1))) (subT (varE 3) (varE 6)))
def mBody4 : SvS := (forS (iterE (callE F_mats_between (consA (varE 0) (consA (binE ixD (varE 4) (cE (.int 1))) (consA (binE ixD (varE 5) (cE (.int 1))) (nilA)))))) (tgT (.nm 6)) mBody6)
theorem m_eq : B_missed_by = seqS (asgS (binE repMD (lstE (consA (callE sumF (consA (callE listF (consA (varE 2) (nilA))) (nilA))) (nilA))) (callE lenF (consA (varE 0) (nilA)))) (nameT 3)) (seqS (forS (callI zipF (consA (varE 1) (consA (sliceE (varE 1) (someO (cE (.int 1))) (noO)) (nilA)))) (tgT (.tp [.nm 4, .nm 5])) mBody4) (retS (varE 3))) := rfl
theorem rep_st (st : Sto) (x : Int) (M : Nat) (hM : M ≤ 100) : repMD (.lst [.int x]) (.int M) st = .ok (.mut st.length) (st ++ [.lst ((List.replicate M x).map D.int)]) := by
  rw [repMD_int, if_pos ⟨by omega, by omega⟩]
  simp
theorem f_missed_by {st : Sto} {ts : List Int} (hT : Trk ts) {row : List P2} (hr : ∀ p ∈ row, MatOk ts p) (es : List Int) :
    ∃ st', F_missed_by [tupI ts, bagD row, tupI es] st = .ok (.mut st.length) st' ∧ st'[st.length]? = some (.lst ((missL ts.length (gapsL row) es.sum).map D.int)) ∧ (∀ k, k < st.length → st'[k]? = st[k]?) ∧ st.length ≤ st'.length := by
  have h0 : 0 < ts.length := hT.pos
  have h8 := hT.le
  have r1 := rep_st st es.sum ts.length (by omega)
  have hg : ∀ g ∈ gapsL row, MatOk ts g.1 ∧ MatOk ts g.2 := fun g hgm => ⟨hr _ (gaps_mem hgm).1, hr _ (gaps_mem hgm).2⟩
  obtain ⟨env', s2, e2, q4, q5, q6, rfl, hq, hk, hl⟩ := loop_nx (g := tgT (.tp [.nm 4, .nm 5])) (body := mBody4)
    (fun j env s => ∃ q4 q5 q6 : Option D, env = [some (tupI ts), some (bagD row), some (tupI es), some (.mut st.length), q4, q5, q6] ∧ s[st.length]? = some (.lst ((missL ts.length ((gapsL row).take j) es.sum).map D.int)) ∧ (∀ k, k ≠ st.length → s[k]? = (st ++ [MO.lst []])[k]?) ∧ s.length = st.length + 1)
    (xs := (gapsL row).map fun g => D.tup [pairD g.1, pairD g.2]) (env := [some (tupI ts), some (bagD row), some (tupI es), some (.mut st.length), none, none, none]) (st := st ++ [.lst ((List.replicate ts.length es.sum).map D.int)])
    ⟨_, _, _, rfl, by rw [List.take_zero, miss_nil]; simp, fun k hk => by
      rcases Nat.lt_or_ge k st.length with h | h
      · rw [List.getElem?_append_left h, List.getElem?_append_left h]
      · rw [List.getElem?_append_right h, List.getElem?_append_right h]
        have : k - st.length ≠ 0 := by omega
        cases e : k - st.length with
        | zero => exact absurd e this
        | succ n => simp, by simp⟩
    (by
      rintro j x env s hx ⟨q4, q5, q6, rfl, hq, hk, hl⟩
      rw [List.getElem?_map] at hx
      obtain ⟨g, hgj, rfl⟩ := Option.map_eq_some_iff.mp hx
      have hgo := hg g (List.mem_of_getElem? hgj)
      have mb := f_mats_between s hT hgo.1 hgo.2
      obtain ⟨env', s2, e2, ⟨q6', rfl⟩, hq2, hk2, hl2⟩ := bump_loop (g := tgT (.nm 6)) (body := mBody6) (q := st.length) (fun env => ∃ q6 : Option D, env = [some (tupI ts), some (bagD row), some (tupI es), some (.mut st.length), some (pairD g.1), some (pairD g.2), q6]) (st0 := s) (missL ts.length ((gapsL row).take j) es.sum) (betweenL ts.length g) ((betweenL ts.length g).map fun (i : Nat) => D.int i) (by simp) (fun i hi => by rw [miss_len]; exact mem_stepL h0 hi)
        (env := [some (tupI ts), some (bagD row), some (tupI es), some (.mut st.length), some (pairD g.1), some (pairD g.2), q6]) (st := s) ⟨q6, rfl⟩ hq (fun _ _ => rfl) rfl
        (by
          rintro jj x i l env s' hx hi ⟨q6, rfl⟩ hq hil
          rw [List.getElem?_map, hi] at hx
          cases hx
          have ix := ix_mutI hq hil
          have sd := setD_at hq hil (l.getD i 0 + 1)
          refine ⟨[some (tupI ts), some (bagD row), some (tupI es), some (.mut st.length), some (pairD g.1), some (pairD g.2), some (.int i)], ?_, some (.int i), rfl⟩
          rw [show addAt l i = l.set i (l.getD i 0 + 1) from rfl]
          generalize (l.set i (l.getD i 0 + 1)).map D.int = ll at *
          generalize l.getD i 0 = gv at *
          simp [mBody6, ix, sd])
      rw [← miss_snoc, show (gapsL row).take j ++ [g] = (gapsL row).take (j + 1) by rw [List.take_succ, hgj]; rfl] at hq2
      refine ⟨_, s2, ?_, some (pairD g.1), some (pairD g.2), q6', rfl, hq2, fun k hk3 => (hk2 k hk3).trans (hk k hk3), hl2.trans hl⟩
      have it : iterD (.lst ((betweenL ts.length g).map fun (i : Nat) => D.int i)) s = .ok (.frz ((betweenL ts.length g).map fun (i : Nat) => D.int i)) s := rfl
      generalize (betweenL ts.length g).map (fun (i : Nat) => D.int i) = bl at *
      simp [mBody4, mb, e2])
  rw [List.length_map, List.take_length] at hq
  have z := zip_gaps (st ++ [.lst ((List.replicate ts.length es.sum).map D.int)]) row
  have lf : listF [tupI es] st = .ok (lstI es) st := rfl
  refine ⟨s2, ?_, hq, fun k hk1 => ?_, by omega⟩
  · unfold F_missed_by
    rw [m_eq]
    generalize (List.replicate ts.length es.sum).map D.int = rp at *
    generalize (gapsL row).map (fun g : P2 × P2 => D.tup [pairD g.1, pairD g.2]) = zz at *
    simp [runF, lf, r1, z, e2, -repMD_int]
  · rw [hk k (by omega), List.getElem?_append_left hk1]
end Lap
namespace Lap
open PySem G
def Draw (F : FA) : Prop := ∀ {st : Sto} {n : Nat} {m : Int}, Pool n st → 0 < m → m.natAbs < big → ∃ v st', F [.mut n, .int m] st = .ok (.int v) st' ∧ 0 ≤ v ∧ v < m ∧ Pool n st' ∧ Eff n st st'
theorem Draw.below {F : FA} (h : Draw F) : Below F := fun hp h1 h2 => h hp h1 (by have := big_ge; omega)
def KpK (n : Nat) (st st' : Sto) : Prop := st.length ≤ st'.length ∧ ∀ k, k < st.length → k ≠ n → st'[k]? = st[k]?
theorem KpK.trans {n : Nat} {a b c : Sto} (h : KpK n a b) (g : KpK n b c) : KpK n a c := ⟨Nat.le_trans h.1 g.1, fun k h1 h2 => (g.2 k (Nat.lt_of_lt_of_le h1 h.1) h2).trans (h.2 k h1 h2)⟩
end Lap
namespace Lap
open PySem G
def EffG (p : Nat) (s s' : Sto) : Prop := s.length ≤ s'.length ∧ ∀ k, k < s.length → k ≠ p → s'[k]? = s[k]?
theorem EffG.refl {p : Nat} {s : Sto} : EffG p s s := ⟨Nat.le_refl _, fun _ _ _ => rfl⟩
theorem EffG.trans {p : Nat} {a b c : Sto} (h : EffG p a b) (g : EffG p b c) : EffG p a c := ⟨Nat.le_trans h.1 g.1, fun k h1 h2 => (g.2 k (Nat.lt_of_lt_of_le h1 h.1) h2).trans (h.2 k h1 h2)⟩
theorem EffG.of {p : Nat} {a b : Sto} (h : Eff p a b) : EffG p a b := ⟨by rw [h.1]; exact Nat.le_refl _, fun k _ h2 => h.2 k h2⟩
theorem EffG.push {p : Nat} {a : Sto} (m : MO) : EffG p a (a ++ [m]) := ⟨by simp, fun k h _ => List.getElem?_append_left h⟩
theorem EffG.setNew {p q : Nat} {a b : Sto} (h : EffG p a b) (hq : a.length ≤ q) (m : MO) : EffG p a (b.set q m) := ⟨by rw [List.length_set]; exact h.1, fun k h1 h2 => by rw [List.getElem?_set_ne (by omega)]; exact h.2 k h1 h2⟩
theorem pool_push {p : Nat} {st : Sto} (hp : Pool p st) (m : MO) : Pool p (st ++ [m]) := pool_keep hp fun k h => List.getElem?_append_left h
theorem pool_lt {p : Nat} {st : Sto} (hp : Pool p st) : p < st.length := by obtain ⟨a, b, c, e⟩ := hp; exact (List.getElem?_eq_some_iff.mp e).1
theorem w_take : Draw F__law_take := by
  intro st n m hp h1 h2
  obtain ⟨a, b, c, hp⟩ := hp
  have hn : n < st.length := (List.getElem?_eq_some_iff.mp hp).1
  by_cases ha : 0 < a
  · refine ⟨a % m, st.set n (.lst [.int (a / m), .int b, .int c]), ?_, Int.emod_nonneg _ (by omega), Int.emod_lt_of_pos _ h1, ⟨_, _, _, p_get hn _⟩, .set⟩
    simp [runF, F__law_take, B__law_take, p_ix0 hp, ha, h1, h2, p_set0 hp]
  · have g := fun x y z => p_get (n := n) hn (MO.lst [x, y, z])
    have s1 : ∀ x, mulOk x 39373 := fun x => mulOk_lit (by decide)
    have s2 : ∀ x, mulOk x 30323 := fun x => mulOk_lit (by decide)
    have s3 : (128 : Int).natAbs < big := by have := big_ge; omega
    have s3' : (128 : Nat) < big := s3
    refine ⟨(b * 39373 + (c + 1) * 30323 + 11) % 2147483543 / 128 % m, st.set n (.lst [.int a, .int ((b * 39373 + (c + 1) * 30323 + 11) % 2147483543), .int (c + 1)]), ?_, Int.emod_nonneg _ (by omega), Int.emod_lt_of_pos _ h1, ⟨_, _, _, p_get hn _⟩, .set⟩
    simp [runF, F__law_take, B__law_take, p_ix0 hp, ha, p_ix2 hp, p_set2 hp, p_ix1 (g _ _ _), p_ix2 (g _ _ _), p_set1 (g _ _ _), h1, s1, s2, s3']
theorem w_below : Below F__law_take := w_take.below
theorem w_of : One F__law_of := oneA_ok w_below
theorem w_well : MkPool F__law_well := by
  intro st ns k
  have cell : ∃ z : Int, ∀ env : G.Env, (ifE (tstE (binE ltD (varE 1) (callE lenF (consA (varE 0) (nilA))))) (callE intF (consA (binE ixD (varE 0) (varE 1)) (nilA))) (cE (.int 0))) (some (.slo (ns.map D.int)) :: some (.int k) :: env) st = .ok (.int z) st := by
    by_cases hk : k < ns.length
    · have hk' : (k : Int) < ns.length := by omega
      refine ⟨ns[k], fun env => ?_⟩
      simp [hk, ixD_slo _ _ st (atI_nat' (ns.map D.int) k (by simpa using hk))]
    · exact ⟨0, fun env => by simp [hk]⟩
  obtain ⟨z, cell⟩ := cell
  have m2 : mulOk 6971 (k : Int) := mulOk_lit' (by decide)
  have hM2 : ∀ f : Int, mulOk f 44497 := fun f => mulOk_lit (by decide)
  have key := loop_nx (g := tgT (.nm 4)) (body := (asgS (binE modD (callE intF (consA (binE addD (binE addD (binE mulD (varE 3) (cE (.int 44497))) (binE modD (callE intF (consA (varE 4) (nilA))) (cE (.int 2147483587)))) (cE (.int 29))) (nilA))) (cE (.int 2147483563))) (nameT 3)))
    (fun _ env s => ∃ (f : Int) (o : Option D), env = [some (.slo (ns.map D.int)), some (.int k), some (.int z), some (.int f), o] ∧ s = st) (xs := (ns.take 8 ++ [z]).map D.int) (env := [some (.slo (ns.map D.int)), some (.int k), some (.int z), some (.int (52027 + 6971 * k)), none]) (st := st) ⟨_, none, rfl, rfl⟩
    (by
      rintro j x env s hx ⟨f, o, rfl, rfl⟩
      rw [List.getElem?_map] at hx
      obtain ⟨y, _, rfl⟩ := Option.map_eq_some_iff.mp hx
      exact ⟨[some (.slo (ns.map D.int)), some (.int k), some (.int z), some (.int ((f * 44497 + y % 2147483587 + 29) % 2147483563)), some (.int y)], s, by simp [hM2], _, _, rfl, rfl⟩)
  obtain ⟨env', s', e, f, o, rfl, rfl⟩ := key
  have h12 : cutL ns none (some 8) = ns.take 8 := cutL_to ns 8
  have sl : cutD (ns.map D.int) none (some 8) = (ns.take 8).map D.int := by rw [cutD_map, h12]
  have ad : addD (.lst ((ns.take 8).map D.int)) (.lst [.int z]) s' = .ok (.lst ((ns.take 8 ++ [z]).map D.int)) s' := by
    have : ((ns.take 8).map D.int).length + [D.int z].length ≤ 16777216 := by simp; omega
    simp [addD, this]
    omega
  refine ⟨if z < 0 ∨ 10 ^ 18 ≤ z then (if z < 0 then -z else z) else 0, f, 0, ?_⟩
  unfold F__law_well B__law_well
  generalize (ns.take 8 ++ [z]).map D.int = xs at *
  generalize (ns.take 8).map D.int = x8 at *
  simp only [runF, List.length_cons, List.length_nil, if_true, seqS_eq, asgS_eq, List.map_cons, List.map_nil, List.cons_append, List.nil_append]
  rw [show (5 - 2 : Nat) = 3 from rfl]
  simp only [List.replicate]
  rw [cell]
  by_cases z1 : z < 0
  · simp [m2, sl, ad, e, z1]
  · by_cases z2 : (1000000000000000000 : Int) ≤ z
    · simp [m2, sl, ad, e, z1, z2]
    · simp [m2, sl, ad, e, z1, z2]
end Lap
namespace Lap
open PySem G
theorem w_track {st : Sto} {p : Nat} (hp : Pool p st) : ∃ ts st', F__law_track [.mut p] st = .ok (tupI ts) st' ∧ DT ts 40 ∧ Pool p st' ∧ Eff p st st' := by
  obtain ⟨w, s1, e1, hw, hp1, ef1⟩ := w_of.three 3 9 40 hp
  obtain ⟨u, s2, e2, hu, hp2, ef2⟩ := w_of.three 3 4 8 hp1
  obtain ⟨ki, s3, e3, k0, k1, hp3, ef3⟩ := w_below (m := u) hp2 (by omega) (by omega)
  obtain ⟨k, rfl⟩ := Int.eq_ofNat_of_zero_le k0
  have kk : (1 : Int) + k = ((k + 1 : Nat) : Int) := by push_cast; omega
  obtain ⟨s4, acc, e4, ⟨ts, rfl, hts, hlt⟩, hp4, ef4⟩ := lc_inv (t := .nm 2) (tt := yesB) (fe := binE addD (cE (.int 1)) (callE F__law_take (consA (varE 0) (consA (varE 1) (nilA))))) (envw := [some (.mut p), some (.int w), none])
    (fun j s acc => (∃ ts : List Int, acc = ts.map D.int ∧ (∀ x ∈ ts, 1 ≤ x ∧ x ≤ 40) ∧ ts.length = j) ∧ Pool p s ∧ Eff p st s) (rangeD 0 (k + 1)) 0 s3 [] ⟨⟨[], rfl, by simp, rfl⟩, hp3, (ef1.trans ef2).trans ef3⟩
    (by
      rintro j x s acc hx ⟨⟨ts, rfl, h1, h2⟩, hp, ef⟩
      obtain ⟨rfl, hj⟩ := range_get hx
      obtain ⟨v, s2, e2, v0, v1, hp2, ef2⟩ := w_below (m := w) hp (by omega) (by omega)
      refine ⟨s2, (ts ++ [1 + v]).map D.int, fun k => ?_, ⟨ts ++ [1 + v], rfl, fun y hy => ?_, by simp [h2]⟩, hp2, ef.trans ef2⟩
      · rw [turnC_yes (y := .int (1 + v)) (st' := s2) (env1 := [some (.mut p), some (.int w), some (.int (0 + j))]) (by simp) (by simp [e2]) (by simp; omega)]
        simp
      · rcases List.mem_append.mp hy with hy | hy
        · exact h1 y hy
        · rw [List.mem_singleton.mp hy]; omega)
  have hl : ts.length = k + 1 := by rw [hlt]; simp [rangeD]
  refine ⟨ts, s4, ?_, .of (by decide) (by omega) (by omega) hts, hp4, ef4⟩
  have tf : tupleF [.lst (ts.map D.int)] s4 = .ok (tupI ts) s4 := rfl
  have rg : range1F [.int ((k + 1 : Nat) : Int)] s3 = .ok (.frz (rangeD 0 (k + 1))) s3 := by rw [range1F_eq, if_pos (by omega)]; simp
  generalize rangeD 0 (k + 1) = rgd at *
  generalize ts.map D.int = tl at *
  generalize tupI ts = td at *
  simp [-range1F_eq, -Int.natCast_add, F__law_track, runF, B__law_track, e1, e2, e3, kk, rg, e4, tf]
end Lap
namespace Lap
open PySem G
theorem len_mutD {st : Sto} {q : Nat} {xs : List D} (h : st[q]? = some (.lst xs)) : lenF [.mut q] st = .ok (.int xs.length) st := by
  have : lenOf (.mut q) st = some xs.length := by simp [lenOf, h]
  unfold lenF
  simp [this]
def cBody : SvS := (seqS (parS 5 6 (consA (binE addD (binE addD (varE 5) (binE ixD (varE 1) (varE 6))) (callE F__law_take (consA (varE 0) (consA (varE 7) (nilA))))) (consA (binE modD (callE intF (consA (binE addD (varE 6) (cE (.int 1))) (nilA))) (callE lenF (consA (varE 1) (nilA)))) (nilA)))) (ifS (andB (tstE (binE gtD (callE F__law_take (consA (varE 0) (consA (varE 8) (nilA)))) (cE (.int 0)))) (tstE (binE ltD (callE lenF (consA (varE 4) (nilA))) (varE 3)))) (exprS (methLE appF (varE 4) (consA (tupE (consA (varE 5) (consA (varE 6) (nilA)))) (nilA)))) (passS)))
theorem c_eq : B__law_course = seqS (asgS (tupE (consA (mutE (nilA)) (consA (varE 2) (consA (cE (.int 0)) (consA (callE F__law_of (consA (varE 0) (consA (tupE (consA (cE (.int 1)) (consA (cE (.int 4)) (consA (cE (.int 30)) (nilA))))) (nilA)))) (consA (callE F__law_of (consA (varE 0) (consA (tupE (consA (cE (.int 2)) (consA (cE (.int 4)) (consA (cE (.int 8)) (nilA))))) (nilA)))) (nilA))))))) (tupT 5 (consT (nameT 4) (consT (nameT 5) (consT (nameT 6) (consT (nameT 7) (consT (nameT 8) (nilT)))))))) (seqS (forS (callI range1F (consA (cE (.int 60)) (nilA))) (tgT (.nm 9)) cBody) (retS (callE tupleF (consA (sliceE (varE 4) (noO) (someO (callE F__law_take (consA (varE 0) (consA (binE addD (varE 3) (cE (.int 1))) (nilA)))))) (nilA))))) := rfl
end Lap
namespace Lap
open PySem G
def fullL (t0 : Int) (b : List P2) : List P2 := (t0, 0) :: b
structure RowsOk (ts : List Int) (row : List P2) : Prop where
  ok : RowOk ts row
  n : row.length ≤ 31
  tb : ∀ p ∈ row, p.1.natAbs < big
structure RaceOk (ts : List Int) (t0 : Int) (bs : List (List P2)) : Prop where
  n1 : 1 ≤ bs.length
  n6 : bs.length ≤ 6
  bag : ∀ b ∈ bs, BagOk ts b
  row : ∀ b ∈ bs, RowsOk ts (fullL t0 b)
  s0 : 0 ≤ t0
def raceD (t0 : Int) (bs : List (List P2)) : D := .tup [.int t0, .tup (bs.map bagD)]
section
variable (st : Sto)
theorem f_is_row_by2 {ts : List Int} (hT : Trk ts) (hs : ts.sum.natAbs < big) {b : List P2} (hok : ∀ p ∈ b, MatOk ts p) (h30 : b.length ≤ 1000) (hr : RowP ts b) : F_is_row_by [tupI ts, bagD b] st = .ok (.bl true) st := by
  have e := lc_typedF (t := .nm 2) (tt := notB (tstE (callE F_can_follow_by (consA (varE 0) (consA (binE ixD (varE 1) (varE 2)) (consA (binE ixD (varE 1) (binE subD (varE 2) (cE (.int 1)))) (nilA))))))) (fe := varE 2) (envw := [some (tupI ts), some (bagD b), none]) (st := st)
    (fun (i : Nat) => D.int (1 + i)) (fun (i : Nat) => D.int (1 + i)) (fun _ => false) (List.range (b.length - 1)) [] (by simp; omega) (by
      intro i hi
      have hi := List.mem_range.mp hi
      refine ⟨[some (tupI ts), some (bagD b), some (.int (1 + i))], by simp, ?_, fun z => by cases z⟩
      have k1 : (1 : Int) + i = ((i + 1 : Nat) : Int) := by push_cast; omega
      have k2 : ((i + 1 : Nat) : Int) - 1 = (i : Int) := by push_cast; omega
      have x1 := ix_bag st b (i + 1) (by omega)
      have x2 := ix_bag st b i (by omega)
      have f := f_can_follow_by st hT hs (hok _ (List.getElem_mem (l := b) (n := i + 1) (by omega))) (hok _ (List.getElem_mem (l := b) (n := i) (by omega)))
      have g : followB ts b[i + 1] b[i] = true := List.pairwise_iff_getElem.mp hr i (i + 1) (by omega) (by omega) (by omega)
      rw [g] at f
      simp [-Int.natCast_add, k1, k2, x1, x2, f])
  have er : rangeD 1 (b.length - 1) = (List.range (b.length - 1)).map fun (i : Nat) => D.int (1 + i) := rfl
  have e1 : F_wrong_marks_by [tupI ts, bagD b] st = .ok (.lst []) st := by
    have k2 : ((b.length : Int) - 1).toNat = b.length - 1 := by omega
    have k3 : b.length < 4611686018427387904 := by omega
    rw [← er] at e
    simp [F_wrong_marks_by, runF, B_wrong_marks_by, k2, k3, e]
  have e2 : eqD (.lst []) (.lst []) st = .ok (.bl true) st := rfl
  simp [F_is_row_by, runF, B_is_row_by, e1, e2]
theorem f_is_full_row {ts : List Int} (hT : Trk ts) (hs : ts.sum.natAbs < big) {t0 : Int} {b : List P2} (hb : BagOk ts b) (h : RowsOk ts (fullL t0 b)) : F_is_full_row [tupI ts, .int t0, bagD b] st = .ok (.bl true) st := by
  have x1 := f_wrong_in_bag st hb
  have e2 : eqD (.lst []) (.lst []) st = .ok (.bl true) st := rfl
  have x2 : F_is_bag_of [tupI ts, bagD b] st = .ok (.bl true) st := by simp [F_is_bag_of, runF, B_is_bag_of, x1, e2]
  have x3 := f_is_row_by2 st hT hs h.ok.ok (by have := h.n; omega) h.ok.row
  have it : itemsOf (bagD b) = some (b.map pairD) := rfl
  have eb : D.tup (D.tup [.int t0, .int 0] :: b.map pairD) = bagD (fullL t0 b) := rfl
  have := hb.len
  have k : b.length + 1 ≤ 16777216 := by omega
  simp [F_is_full_row, runF, B_is_full_row, x2, it, k, eb, x3]
theorem ix_race0 (t0 : Int) (bs : List (List P2)) : ixD (raceD t0 bs) (.int 0) st = .ok (.int t0) st := ixD_tup _ _ _ rfl
theorem ix_race1 (t0 : Int) (bs : List (List P2)) : ixD (raceD t0 bs) (.int 1) st = .ok (.tup (bs.map bagD)) st := ixD_tup _ _ _ rfl
theorem ix_bags (bs : List (List P2)) (i : Nat) (h : i < bs.length) : ixD (.tup (bs.map bagD)) (.int i) st = .ok (bagD bs[i]) st := by
  refine ixD_tup _ _ _ ?_
  have := atI_nat' (bs.map bagD) i (by simpa using h)
  rw [List.getElem_map] at this
  exact this
theorem max_ints (ns : List Int) (m : Int) (h1 : m ∈ ns) (h2 : ∀ y, y ∈ ns → y ≤ m) : maxF [.lst (ns.map D.int)] st = .ok (.int m) st := by
  rw [bigI_eq h1 h2]
  cases ns with
  | nil => cases h1
  | cons n ns =>
    show (match (some ((n :: ns).map D.int)).bind intsOf with | some (n :: ns) => _ | _ => _) = _
    rw [Option.bind_some, intsOf_map]
theorem sum_ints (ns : List Int) : sumF [.lst (ns.map D.int)] st = .ok (.int ns.sum) st := sumF_lstI st ns
theorem mat_nat {ts : List Int} {p : P2} (h : MatOk ts p) : ((p.2.toNat : Nat) : Int) = p.2 ∧ p.2.toNat < ts.length := by have := h.2; omega
theorem f_full_row_by {t0 : Int} {bs : List (List P2)} {r : Nat} (hr : r < bs.length) (hl : bs[r].length ≤ 30) : F_full_row_by [raceD t0 bs, .int r] st = .ok (bagD (fullL t0 bs[r])) st := by
  have it : itemsOf (bagD bs[r]) = some (bs[r].map pairD) := rfl
  have eb : D.tup (D.tup [.int t0, .int 0] :: bs[r].map pairD) = bagD (fullL t0 bs[r]) := rfl
  have k : bs[r].length + 1 ≤ 16777216 := by omega
  have x0 := ix_race0 st t0 bs
  have x1 := ix_race1 st t0 bs
  have x2 := ix_bags st bs r hr
  generalize raceD t0 bs = rd at *
  simp [F_full_row_by, runF, B_full_row_by, x0, x1, x2, it, k, eb]
theorem thing_bag (b : List P2) : Thing (bagD b) = true := by
  show ThingL (b.map pairD) = true
  exact thingL_all.mpr fun x hx => by obtain ⟨p, _, rfl⟩ := List.mem_map.mp hx; rfl
theorem f_check_race {ts : List Int} (hT : Trk ts) (hs : ts.sum.natAbs < big) {t0 : Int} {bs : List (List P2)} (h : RaceOk ts t0 bs) : F_check_race [tupI ts, raceD t0 bs] st = .ok .non st := by
  have h1 := h.n1
  have h6 := h.n6
  have x0 := ix_race0 st t0 bs
  have x1 := ix_race1 st t0 bs
  have hth : Thing (raceD t0 bs) = true := by
    show ThingL [.int t0, .tup (bs.map bagD)] = true
    have : Thing (.tup (bs.map bagD)) = true := by
      show ThingL _ = true
      exact thingL_all.mpr fun x hx => by obtain ⟨p, _, rfl⟩ := List.mem_map.mp hx; exact thing_bag p
    simp [ThingL, this]; rfl
  have x2 := t_is_pair st (raceD t0 bs) hth
  rw [show isPairB (raceD t0 bs) = true from rfl] at x2
  have x3 := f_is_from st t0 0
  simp only [h.s0, decide_true] at x3
  have x4 : F_is_tuple_up_to [.tup (bs.map bagD), .int 1, .int 6] st = .ok (.bl true) st := by
    have c1 : (1 : Int) ≤ bs.length := by omega
    have c2 : (bs.length : Int) ≤ 6 := by omega
    simp [F_is_tuple_up_to, runF, B_is_tuple_up_to, isiB, c1, c2]
  have e := lc_typed (t := .nm 2) (fe := callE F_is_full_row (consA (varE 0) (consA (binE ixD (varE 1) (cE (.int 0))) (consA (varE 2) (nilA))))) (envw := [some (tupI ts), some (raceD t0 bs), none]) (st := st) bagD (fun _ => .bl true) bs [] (by simp; omega) (by
    intro b hb
    refine ⟨[some (tupI ts), some (raceD t0 bs), some (bagD b)], by simp, ?_⟩
    simp [x0, f_is_full_row st hT hs (h.bag b hb) (h.row b hb)])
  have al := all_of st (fun _ : D => true) (bs.map bagD)
  rw [List.map_map] at al
  rw [List.nil_append] at e
  rw [show ((fun _ : D => D.bl true) ∘ bagD) = fun _ : List P2 => D.bl true from rfl] at al
  have e2 : ((bs.map bagD).all fun _ => true) = true := by simp
  rw [e2] at al
  generalize bs.map (fun _ : List P2 => D.bl true) = l1 at *
  generalize bs.map bagD = l2 at *
  generalize raceD t0 bs = rd at *
  simp [F_check_race, runF, B_check_race, F_is_race_of, B_is_race_of, x2, x0, x3, x1, x4, e, al]
end
end Lap
namespace Lap
open PySem G
theorem same2_lc (r : FA) (d : D) (xs : List D) (st : Sto) (hl : xs.length ≤ 10000) (hix : ∀ i, (h : i < xs.length) → ixD d (.int i) st = .ok xs[i] st) (ih : ∀ x ∈ xs, r [x, x] st = .ok (.bl true) st) :
    lcF (.nm 2) yesB (callE r (consA (binE ixD (varE 0) (varE 2)) (consA (binE ixD (varE 1) (varE 2)) (nilA)))) [some d, some d, none] (rangeD 0 xs.length) st [] = .ok (List.replicate xs.length (.bl true)) st := by
  have e := lc_typed (t := .nm 2) (fe := callE r (consA (binE ixD (varE 0) (varE 2)) (consA (binE ixD (varE 1) (varE 2)) (nilA)))) (envw := [some d, some d, none]) (st := st) (fun (i : Nat) => D.int (0 + i)) (fun _ => .bl true) (List.range xs.length) [] (by simp; omega) (by
    intro i hi
    have hi := List.mem_range.mp hi
    refine ⟨[some d, some d, some (.int (0 + i))], by simp, ?_⟩
    rw [Int.zero_add]
    have x := hix i hi
    have y := ih _ (List.getElem_mem hi)
    generalize xs[i] = z at *
    simp [x, y])
  rw [List.nil_append, List.map_const', List.length_range] at e
  exact e
end Lap
namespace Lap
open PySem G
structure CAr (ts : List Int) (p q j : Nat) (s0 : Sto) (start : Int) (most : Nat) (b : List P2) (t : Int) (m : Nat) (s : Sto) : Prop where
  pool : Pool p s
  at_ : s[q]? = some (.lst (b.map pairD))
  eff : EffG p s0 s
  len : b.length ≤ most
  ok : RowOk ts (fullL start b)
  hm : m < ts.length
  ge : start ≤ t
  le : t ≤ start + j * 70
  all : ∀ x ∈ b, start ≤ x.1 ∧ x.1 ≤ t
  last : ∃ (x : P2) (k : Nat), (fullL start b).getLast? = some x ∧ m = (x.2.toNat + k) % ts.length ∧ x.1 + walkI ts x.2.toNat k ≤ t
theorem cr_turn {ts : List Int} (hT : DT ts 40) {p q j : Nat} {s0 st : Sto} {start : Int} (h0s : 0 ≤ start) {most : Nat} (hmost : most ≤ 1000) (hpq : p ≠ q) (hq0 : s0.length ≤ q) {b : List P2} {t : Int} {m : Nat} (h : CAr ts p q j s0 start most b t m st) {slow share : Int} (hs1 : 1 ≤ slow ∧ slow ≤ 30) (hs2 : 1 ≤ share ∧ share ≤ 30) (o9 : Option D) :
    ∃ b' t' m' st', cBody [some (.mut p), some (tupI ts), some (.int start), some (.int most), some (.mut q), some (.int t), some (.int m), some (.int slow), some (.int share), o9] st =
      .nx [some (.mut p), some (tupI ts), some (.int start), some (.int most), some (.mut q), some (.int t'), some (.int (m' : Nat)), some (.int slow), some (.int share), o9] st' ∧ CAr ts p q (j + 1) s0 start most b' t' m' st' := by
  have h0 : 0 < ts.length := hT.t.pos
  have h8 := hT.t.le
  obtain ⟨hp, hat, hef, hlen, hok, hm, hge, hle, hall, hlast⟩ := h
  have ix := ixD_tupI st ts (m : Int) (by omega) (by omega)
  rw [Int.toNat_natCast] at ix
  have hb := hT.b (ts.getD m 0) (by rw [List.getD_eq_getElem?_getD, List.getElem?_eq_getElem hm]; exact List.getElem_mem hm)
  obtain ⟨d, s1, e1, d0, d1, hp1, ef1⟩ := w_below (m := slow) hp (by omega) (by omega)
  obtain ⟨v, s2, e2, v0, v1, hp2, ef2⟩ := w_below (m := share) hp1 (by omega) (by omega)
  have hm' := Nat.mod_lt (m + 1) h0
  have k2 : ((m : Int) + 1) % (ts.length : Int) = (((m + 1) % ts.length : Nat) : Int) := by push_cast; rfl
  have at2 : s2[q]? = some (.lst (b.map pairD)) := by rw [ef2.2 q (fun z => hpq z.symm), ef1.2 q (fun z => hpq z.symm)]; exact hat
  have eff2 := (hef.trans (.of ef1)).trans (.of ef2)
  have lm : lenF [.mut q] s2 = .ok (.int b.length) s2 := by rw [len_mutD at2, List.length_map]
  have lt : lenF [tupI ts] s1 = .ok (.int ts.length) s1 := lenF_tupI ..
  have hat_ : at_ ts m = ts.getD m 0 := by unfold at_; rw [Nat.mod_eq_of_lt hm]
  -- the last one is followed by what comes now
  have step : ∃ (x : P2) (k : Nat), (fullL start b).getLast? = some x ∧ (m + 1) % ts.length = (x.2.toNat + (k + 1)) % ts.length ∧ x.1 + walkI ts x.2.toNat (k + 1) ≤ t + ts.getD m 0 + d := by
    obtain ⟨x, k, hx, hmk, hw⟩ := hlast
    · refine ⟨x, k, hx, ?_, ?_⟩
      · rw [hmk]; simp [Nat.add_assoc]
      · rw [walk_succ]
        have : at_ ts (x.2.toNat + k) = ts.getD m 0 := by unfold at_; rw [← hmk]
        omega
  have hjm : ((j + 1 : Nat) : Int) * 70 = (j : Int) * 70 + 70 := by push_cast; omega
  by_cases hc : 0 < v ∧ b.length < most
  · have ap := app_mut (pairD (t + ts.getD m 0 + d, (((m + 1) % ts.length : Nat) : Int))) at2 (by simp; omega)
    have il := isL_mut at2
    have mo : MatOk ts (t + ts.getD m 0 + d, (((m + 1) % ts.length : Nat) : Int)) := ⟨by show 0 ≤ t + ts.getD m 0 + d; omega, by show (0 : Int) ≤ _; omega, by show ((_ : Nat) : Int) < _; omega⟩
    have hlt : (b.length : Int) < most := by omega
    refine ⟨b ++ [(t + ts.getD m 0 + d, (((m + 1) % ts.length : Nat) : Int))], t + ts.getD m 0 + d, (m + 1) % ts.length, s2.set q (.lst (b.map pairD ++ [pairD (t + ts.getD m 0 + d, (((m + 1) % ts.length : Nat) : Int))])), ?_, ?_⟩
    · clear hlast step hall hok k2
      have k2 : ((m : Int) + 1) % (ts.length : Int) = (((m + 1) % ts.length : Nat) : Int) := by push_cast; rfl
      have md : modD (.int ((m : Int) + 1)) (.int ts.length) s1 = .ok (.int (((m + 1) % ts.length : Nat) : Int)) s1 := by
        rw [← k2]; have : (0 : Int) < ts.length := by omega
        simp [modD, this, h0]
      unfold pairD at ap ⊢
      simp only at ap ⊢
      generalize (((m + 1) % ts.length : Nat) : Int) = mm at *
      generalize ts.getD m 0 = tm at *
      generalize (ts.length : Int) = L at *
      generalize (b.length : Int) = BL at *
      generalize (most : Int) = MO' at *
      generalize tupI ts = td at *
      simp [-modD_int, cBody, ix, e1, lt, md, e2, hc.1, lm, hlt, il, ap]
    · refine ⟨set_other hpq hp2, ?_, eff2.setNew hq0 _, by simp; omega, ⟨fun y hy => ?_, ?_⟩, hm', by omega, by omega, fun y hy => ?_, ⟨(t + ts.getD m 0 + d, (((m + 1) % ts.length : Nat) : Int)), 0, List.getLast?_concat (l := fullL start b), by show (m + 1) % ts.length = ((m + 1) % ts.length + 0) % ts.length; exact (Nat.mod_mod (m + 1) ts.length).symm, by simp [walkI]⟩⟩
      · have hq := (List.getElem?_eq_some_iff.mp at2).1
        simp [hq]
      · rcases List.mem_append.mp (show y ∈ fullL start b ++ [_] from hy) with hy | hy
        · exact hok.ok y hy
        · rw [List.mem_singleton.mp hy]; exact mo
      · refine row_snoc (b := fullL start b) hT.t hok.ok mo hok.row ?_
        obtain ⟨x, k, hx, hmk, hw⟩ := step
        · refine .inr ⟨x, hx, ?_⟩
          have hxo := hok.ok x (List.mem_of_getLast? hx)
          have := walk_ge_way hT.t (m := x.2.toNat) (s := k + 1) (by have := hxo.2; omega) (by omega)
          rw [← hmk] at this
          unfold followB
          apply decide_eq_true
          simp only [Int.toNat_natCast]
          omega
      · rcases List.mem_append.mp hy with hy | hy
        · have := hall y hy; omega
        · rw [List.mem_singleton.mp hy]; exact ⟨by show start ≤ t + ts.getD m 0 + d; omega, Int.le_refl _⟩
  · refine ⟨b, t + ts.getD m 0 + d, (m + 1) % ts.length, s2, ?_, hp2, at2, eff2, hlen, hok, hm', by omega, by omega, fun y hy => by have := hall y hy; omega, ?_⟩
    · have md : modD (.int ((m : Int) + 1)) (.int ts.length) s1 = .ok (.int (((m + 1) % ts.length : Nat) : Int)) s1 := by
        rw [← k2]; have : (0 : Int) < ts.length := by omega
        simp [modD, this, h0]
      clear hlast step hall hok k2
      by_cases hv : 0 < v
      · have hlt : ¬ ((b.length : Int) < most) := by omega
        clear hc
        generalize (((m + 1) % ts.length : Nat) : Int) = mm at *
        generalize ts.getD m 0 = tm at *
        generalize (ts.length : Int) = L at *
        generalize (b.length : Int) = BL at *
        generalize (most : Int) = MO' at *
        generalize tupI ts = td at *
        simp [-modD_int, cBody, ix, e1, lt, md, e2, hv, lm, hlt]
      · clear hc
        generalize (((m + 1) % ts.length : Nat) : Int) = mm at *
        generalize ts.getD m 0 = tm at *
        generalize (ts.length : Int) = L at *
        generalize (b.length : Int) = BL at *
        generalize (most : Int) = MO' at *
        generalize tupI ts = td at *
        simp [-modD_int, cBody, ix, e1, lt, md, e2, hv]
    · obtain ⟨x, k, hx, hmk, hw⟩ := step
      · exact ⟨x, k + 1, hx, hmk, hw⟩
theorem w_courseR {ts : List Int} (hT : DT ts 40) {p : Nat} {st : Sto} (hp : Pool p st) {start : Int} (h0s : 0 ≤ start) (most : Nat) (hmost : most ≤ 1000) :
    ∃ b st', F__law_course [.mut p, tupI ts, .int start, .int most] st = .ok (bagD b) st' ∧ Pool p st' ∧ EffG p st st' ∧ RowOk ts (fullL start b) ∧ b.length ≤ most ∧ ∀ x ∈ b, start ≤ x.1 ∧ x.1 ≤ start + 4200 := by
  have hpl := pool_lt hp
  have hp0 := pool_push hp (.lst [])
  obtain ⟨slow, s1, e1, w1, hp1, ef1⟩ := w_of.three 1 4 30 hp0
  obtain ⟨share, s2, e2, w2, hp2, ef2⟩ := w_of.three 2 4 8 hp1
  have hpq : p ≠ st.length := by omega
  have eff2 : EffG p st s2 := ((EffG.push _).trans (.of ef1)).trans (.of ef2)
  have at2 : s2[st.length]? = some (.lst []) := by
    rw [ef2.2 _ (fun z => hpq z.symm), ef1.2 _ (fun z => hpq z.symm)]; simp
  obtain ⟨env', s3, e3, ⟨b, t, m, o9, rfl, hC⟩⟩ := loop_nx (g := tgT (.nm 9)) (body := cBody)
    (fun j env s => ∃ b t m o9, env = [some (.mut p), some (tupI ts), some (.int start), some (.int most), some (.mut st.length), some (.int t), some (.int (m : Nat)), some (.int slow), some (.int share), o9] ∧ CAr ts p st.length j st start most b t m s)
    (xs := rangeD 0 60) (env := [some (.mut p), some (tupI ts), some (.int start), some (.int most), some (.mut st.length), some (.int start), some (.int (0 : Nat)), some (.int slow), some (.int share), none]) (st := s2)
    ⟨[], start, 0, none, rfl, hp2, at2, eff2, by simp, ⟨by intro y hy; rw [List.mem_singleton.mp hy]; have := hT.t.pos; exact ⟨h0s, by simp, by show (0 : Int) < ts.length; omega⟩, List.pairwise_singleton _ _⟩, hT.t.pos, by omega, by omega, by simp, ⟨(start, 0), 0, rfl, by simp, by simp [walkI]⟩⟩
    (by
      rintro j x env s hx ⟨b, t, m, o9, rfl, hC⟩
      obtain ⟨b', t', m', s', e, hC'⟩ := cr_turn hT h0s hmost hpq (Nat.le_refl _) hC (slow := slow) (share := share) (by omega) (by omega) (some x)
      refine ⟨_, s', ?_, b', t', m', some x, rfl, hC'⟩
      generalize cBody = cb at *
      generalize tupI ts = td at *
      simp [e])
  obtain ⟨v, s4, e4, v0, v1, hp4, ef4⟩ := w_below (m := (most : Int) + 1) hC.pool (by omega) (by omega)
  obtain ⟨v, rfl⟩ := Int.eq_ofNat_of_zero_le v0
  have at4 : s4[st.length]? = some (.lst (b.map pairD)) := by rw [ef4.2 _ (fun z => hpq z.symm)]; exact hC.at_
  refine ⟨b.take v, s4, ?_, hp4, hC.eff.trans (.of ef4), ⟨fun x hx => by
    rcases List.mem_cons.mp hx with e | hx
    · exact hC.ok.ok x (by rw [e]; exact List.mem_cons_self)
    · exact hC.ok.ok x (List.mem_cons_of_mem _ (List.mem_of_mem_take hx)), hC.ok.row.sublist (List.Sublist.cons_cons _ (List.take_sublist _ _))⟩, by have := hC.len; rw [List.length_take]; omega, fun x hx => ?_⟩
  · have sl : sliceD (.mut st.length) none (some (v : Int)) s4 = .ok (.lst ((b.take v).map pairD)) s4 := by
      unfold sliceD
      simp [seqOf, at4]
    have tf : tupleF [.lst ((b.take v).map pairD)] s4 = .ok (bagD (b.take v)) s4 := rfl
    have rg : range1F [.int 60] s2 = .ok (.frz (rangeD 0 60)) s2 := rfl
    unfold F__law_course
    rw [c_eq]
    clear hC
    generalize (b.take v).map pairD = bl at *
    generalize bagD (b.take v) = bd at *
    generalize cBody = cb at *
    generalize rangeD 0 60 = rgd at *
    generalize tupI ts = td at *
    generalize (most : Int) = MO' at *
    simp at e3
    simp [-range1F_eq, runF, e1, e2, rg, e3, e4, sl, tf]
  · have := hC.all x (List.mem_of_mem_take hx)
    have h2 := hC.le
    simp [rangeD] at h2
    omega
end Lap
namespace Lap
def mxH (f : Nat → Nat → Bool) (g : Nat → Nat) (k j : Nat) : Nat := (List.range k).foldl (fun a i => if f i j = true then max a (g i) else a) 0
def hgts (f : Nat → Nat → Bool) : Nat → List Nat
  | 0 => []
  | n + 1 => hgts f n ++ [1 + mxH f (fun i => (hgts f n).getD i 0) n n]
def hgt (f : Nat → Nat → Bool) (j : Nat) : Nat := (hgts f (j + 1)).getD j 0
end Lap
namespace Lap
structure Mtg (f : Nat → Nat → Bool) (n : Nat) (L : List (Nat × Nat)) : Prop where
  k : (L.map (·.1)).Nodup
  v : (L.map (·.2)).Nodup
  ok : ∀ p ∈ L, f p.1 p.2 = true ∧ p.1 < n ∧ p.2 < n
theorem pair_k {L : List (Nat × Nat)} (h : (L.map (·.1)).Nodup) {i a b : Nat} (h1 : (i, a) ∈ L) (h2 : (i, b) ∈ L) : a = b := by
  induction L with
  | nil => cases h1
  | cons p L ih =>
    rw [List.map_cons, List.nodup_cons] at h
    rcases List.mem_cons.mp h1 with e1 | h1 <;> rcases List.mem_cons.mp h2 with e2 | h2
    · rw [← e1] at e2; exact (congrArg Prod.snd e2).symm
    · exact absurd (List.mem_map.mpr ⟨_, h2, rfl⟩) (by rw [← e1] at h; exact h.1)
    · exact absurd (List.mem_map.mpr ⟨_, h1, rfl⟩) (by rw [← e2] at h; exact h.1)
    · exact ih h.2 h1 h2
theorem pair_v {L : List (Nat × Nat)} (h : (L.map (·.2)).Nodup) {i a b : Nat} (h1 : (a, i) ∈ L) (h2 : (b, i) ∈ L) : a = b := by
  induction L with
  | nil => cases h1
  | cons p L ih =>
    rw [List.map_cons, List.nodup_cons] at h
    rcases List.mem_cons.mp h1 with e1 | h1 <;> rcases List.mem_cons.mp h2 with e2 | h2
    · rw [← e1] at e2; exact (congrArg Prod.fst e2).symm
    · exact absurd (List.mem_map.mpr ⟨_, h2, rfl⟩) (by rw [← e1] at h; exact h.1)
    · exact absurd (List.mem_map.mpr ⟨_, h1, rfl⟩) (by rw [← e2] at h; exact h.1)
    · exact ih h.2 h1 h2
inductive UpL (L : List (Nat × Nat)) : Nat → Nat → Nat → Prop
  | refl (r : Nat) : UpL L 0 r r
  | step {k r x y : Nat} : UpL L k r x → (x, y) ∈ L → UpL L (k + 1) r y
section
variable {f : Nat → Nat → Bool} (hf : ∀ i j, f i j = true → i < j) (htr : ∀ i j k, f i j = true → f j k = true → f i k = true) {n : Nat} {L : List (Nat × Nat)} (hM : Mtg f n L)
include hM
theorem UpL.det {r : Nat} : ∀ {k x y : Nat}, UpL L k r x → UpL L k r y → x = y
  | 0, _, _, .refl _, .refl _ => rfl
  | k + 1, _, _, .step a b, .step c d => by
    have e := UpL.det a c
    rw [e] at b
    exact pair_k hM.k b d
include htr
theorem UpL.more {r : Nat} {k x : Nat} (a : UpL L k r x) : ∀ {m y : Nat}, UpL L (k + m) r y → x = y ∨ f x y = true
  | 0, y, b => .inl (UpL.det hM a b)
  | m + 1, y, .step (x := z) b c => by
    have h := (hM.ok _ c).1
    rcases UpL.more a (m := m) b with e | e
    · rw [e]; exact .inr h
    · exact .inr (htr _ _ _ e h)
include hf
end
end Lap
namespace Lap
open PySem G
def Kp (n : Nat) (st st' : Sto) : Prop := st.length ≤ st'.length ∧ ∀ k, k < st.length → k ≠ n → st'[k]? = st[k]?
theorem Kp.refl {n : Nat} {st : Sto} : Kp n st st := ⟨Nat.le_refl _, fun _ _ _ => rfl⟩
theorem Kp.trans {n : Nat} {s1 s2 s3 : Sto} (a : Kp n s1 s2) (b : Kp n s2 s3) : Kp n s1 s3 := ⟨Nat.le_trans a.1 b.1, fun k h1 h2 => (b.2 k (Nat.lt_of_lt_of_le h1 a.1) h2).trans (a.2 k h1 h2)⟩
theorem _root_.G.Eff.kp {n : Nat} {st st' : Sto} (e : Eff n st st') : Kp n st st' := ⟨by rw [e.1]; exact Nat.le_refl _, fun k _ h => e.2 k h⟩
theorem Kp.app {n : Nat} {st : Sto} {mo : MO} : Kp n st (st ++ [mo]) := ⟨by simp, fun k h _ => List.getElem?_append_left h⟩
theorem Kp.set {n q : Nat} {st st' : Sto} {mo : MO} (e : Kp n st st') (h : st.length ≤ q) : Kp n st (st'.set q mo) := ⟨by simpa using e.1, fun k h1 h2 => by rw [List.getElem?_set_ne (by omega)]; exact e.2 k h1 h2⟩
def wayW (way : Nat) : Int := if way = 2 then 1000000000000000000 else if way = 0 then 3 else 30
def moreW (way : Nat) : Int := if way < 2 then 6 else 10000000000000000000
def rowBodyB (FB FG FO : FA) : SvS := (seqS (asgS (binE addD (cE (.int 1)) (callE FB (consA (varE 0) (consA (callE FO (consA (varE 0) (consA (tupE (consA (cE (.int 1)) (consA (cE (.int 2)) (consA (callE lenF (consA (varE 1) (nilA))) (consA (binE addD (binE mulD (cE (.int 2)) (callE lenF (consA (varE 1) (nilA)))) (cE (.int 2))) (nilA)))))) (nilA)))) (nilA))))) (nameT 9)) (seqS (asgS (ifE (tstE (binE ltD (varE 4) (cE (.int 2)))) (callE FB (consA (varE 0) (consA (callE FO (consA (varE 0) (consA (tupE (consA (cE (.int 1)) (consA (cE (.int 3)) (consA (cE (.int 6)) (nilA))))) (nilA)))) (nilA)))) (ifE (tstE (binE eqD (callE FB (consA (varE 0) (consA (cE (.int 2)) (nilA)))) (cE (.int 0)))) (callE FG (consA (varE 0) (consA (binE powD (cE (.int 10)) (cE (.int 19))) (nilA)))) (cE (.int 0)))) (nameT 10)) (seqS (parS 6 7 (consA (binE addD (binE addD (varE 6) (callE F__law_reach_v2 (consA (varE 1) (consA (varE 7) (consA (varE 9) (nilA)))))) (varE 10)) (consA (binE modD (callE intF (consA (binE addD (varE 7) (varE 9)) (nilA))) (callE lenF (consA (varE 1) (nilA)))) (nilA)))) (exprS (methLE appF (varE 5) (consA (tupE (consA (varE 6) (consA (varE 7) (nilA)))) (nilA)))))))
def rowB (FB FG FO : FA) : SvS := seqS (parS3 5 6 7 (consA (mutE (nilA)) (consA (varE 2) (consA (cE (.int 0)) (nilA))))) (seqS (forS (callI range1F (consA (varE 3) (nilA))) (tgT (.nm 8)) (rowBodyB FB FG FO)) (retS (callE tupleF (consA (varE 5) (nilA)))))
structure RaceBd (way : Nat) (most : Nat) (w t0 : Int) (bs : List (List P2)) : Prop where
  len : ∀ b ∈ bs, b.length ≤ most
  sb : 0 ≤ t0 ∧ t0 ≤ (if way < 2 then 8 else 100000000000000000000)
  tm : ∀ b ∈ bs, ∀ p ∈ b, p.1 ≤ t0 + most * (18 * w + moreW way)
theorem max_lstI (st : Sto) (ns : List Int) (h : ns ≠ []) : ∃ m, maxF [.lst (ns.map D.int)] st = .ok (.int m) st ∧ m ∈ ns ∧ ∀ y ∈ ns, y ≤ m := by
  have : ∃ m, m ∈ ns ∧ ∀ y ∈ ns, y ≤ m := by
    clear st
    induction ns with
    | nil => exact absurd rfl h
    | cons x xs ih =>
      by_cases hx : xs = []
      · subst hx; exact ⟨x, by simp, by simp⟩
      · obtain ⟨m, hm, hmx⟩ := ih hx
        rcases Int.le_total x m with g | g
        · exact ⟨m, List.mem_cons_of_mem _ hm, fun y hy => by
            rcases List.mem_cons.mp hy with rfl | hy
            · exact g
            · exact hmx y hy⟩
        · exact ⟨x, List.mem_cons_self, fun y hy => by
            rcases List.mem_cons.mp hy with rfl | hy
            · exact Int.le_refl _
            · have := hmx y hy; omega⟩
  obtain ⟨m, h1, h2⟩ := this
  exact ⟨m, max_ints st ns m h1 h2, h1, h2⟩
end Lap
namespace Lap
open PySem G
structure Rc (ts : List Int) (t0 : Int) (bs : List (List P2)) (T : Int) : Prop where
  t : Trk ts
  s : ts.sum.natAbs < big
  r : RaceOk ts t0 bs
  tT : t0 ≤ T
  tm : ∀ b ∈ bs, ∀ p ∈ b, p.1 ≤ T
  Tb : T ≤ 10 ^ 25
theorem Rc.of {ts : List Int} {way k : Nat} {t0 : Int} {bs : List (List P2)} (hT : DT ts (wayW way)) (hw : way < 3) (hk : k ≤ 30) (h : RaceOk ts t0 bs) (hb : RaceBd way k (wayW way) t0 bs) : Rc ts t0 bs (t0 + k * (18 * wayW way + moreW way)) := by
  have hbig := big_ge
  have hww : 1 ≤ wayW way ∧ wayW way ≤ 1000000000000000000 := by unfold wayW; split <;> (try split) <;> omega
  have hmw : 0 ≤ moreW way ∧ moreW way ≤ 10000000000000000000 := by unfold moreW; split <;> omega
  have hsp := hT.p
  have hss := hT.s
  have ht := hb.sb
  have ht' : t0 ≤ 100000000000000000000 := by have := ht.2; split at this <;> omega
  have ck : (k : Int) * (18 * wayW way + moreW way) ≤ 30 * (18 * wayW way + moreW way) := Int.mul_le_mul_of_nonneg_right (by omega) (by omega)
  have ck0 : 0 ≤ (k : Int) * (18 * wayW way + moreW way) := Int.mul_nonneg (by omega) (by omega)
  exact ⟨hT.t, by omega, h, by omega, hb.tm, by omega⟩
theorem Rc.tb {ts : List Int} {t0 T : Int} {bs : List (List P2)} (h : Rc ts t0 bs T) {t : Int} (h1 : t0 ≤ t) (h2 : t ≤ T + 30) : t.natAbs < big := by
  have := h.r.s0
  have := h.Tb
  have := big_ge
  omega
theorem Rc.row {ts : List Int} {t0 T : Int} {bs : List (List P2)} (h : Rc ts t0 bs T) {r : Nat} (hr : r < bs.length) : RowOk ts (fullL t0 bs[r]) := (h.r.row _ (List.getElem_mem hr)).ok
theorem Rc.l30 {ts : List Int} {t0 T : Int} {bs : List (List P2)} (h : Rc ts t0 bs T) {r : Nat} (hr : r < bs.length) : bs[r].length ≤ 30 := (h.r.bag _ (List.getElem_mem hr)).len
end Lap
namespace Lap
open PySem G
@[simp] theorem neD_bl (a b : Bool) (st : Sto) : neD (.bl a) (.bl b) st = .ok (.bl (!decide (a = b))) st := by unfold neD eqO scalD; simp
end Lap
namespace Lap
open PySem G
section
variable (st : Sto)
theorem f_is_row_by_gen {ts : List Int} (hT : Trk ts) (hs : ts.sum.natAbs < big) {b : List P2} (hb : ∀ p ∈ b, MatOk ts p) (hl : b.length ≤ 1000) : F_is_row_by [tupI ts, bagD b] st = .ok (.bl (decide (wrongI ts b = []))) st := by
  have e := f_wrong_marks_by st hT hs hb hl
  have e2 := eq_lstI_nil st (wrongI ts b)
  generalize decide (wrongI ts b = []) = v at *
  generalize lstI (wrongI ts b) = l at *
  simp [F_is_row_by, runF, B_is_row_by, e, e2]
end
end Lap
namespace Lap
open PySem G
structure Slow (ts ss : List Int) : Prop where
  len : ss.length = ts.length
  ge : ∀ i, i < ts.length → ts.getD i 0 ≤ ss.getD i 0
theorem getD_mem {ts : List Int} {i : Nat} (h : i < ts.length) : ts.getD i 0 ∈ ts := by
  rw [List.getD_eq_getElem?_getD, List.getElem?_eq_getElem h]
  exact List.getElem_mem h
theorem Slow.walk {ts ss : List Int} (h : Slow ts ss) (h0 : 0 < ts.length) (m n : Nat) : walkI ts m n ≤ walkI ss m n := by
  induction n with
  | zero => simp [walkI]
  | succ n ih =>
    rw [walk_succ, walk_succ]
    have := h.ge ((m + n) % ts.length) (Nat.mod_lt _ h0)
    unfold at_
    rw [h.len]
    omega
theorem Slow.way {ts ss : List Int} (h : Slow ts ss) (h0 : 0 < ts.length) (m o : Nat) : wayI ts m o ≤ wayI ss m o := by
  unfold wayI
  rw [h.len]
  exact h.walk h0 _ _
theorem Slow.sum {ts ss : List Int} (h : Slow ts ss) (h0 : 0 < ts.length) : ts.sum ≤ ss.sum := by
  have := h.walk h0 0 ts.length
  rw [walk_round ts 0 h0] at this
  rw [← h.len, walk_round ss 0 (by rw [h.len]; exact h0)] at this
  exact this
end Lap
namespace Lap
open PySem G
def evenL (M : Nat) : List Int := List.replicate M 1
theorem even_len (M : Nat) : (evenL M).length = M := by simp [evenL]
def gapsA (bs : List (List P2)) : List (P2 × P2) := bs.flatMap gapsL
structure BagsOk (M : Nat) (bs : List (List P2)) : Prop where
  h1 : 1 ≤ M
  h8 : M ≤ 8
  n1 : 1 ≤ bs.length
  n6 : bs.length ≤ 6
  ok : ∀ b ∈ bs, BagOk (evenL M) b
theorem BagsOk.gap {M : Nat} {bs : List (List P2)} (h : BagsOk M bs) {g : P2 × P2} (hg : g ∈ gapsA bs) : MatOk (evenL M) g.1 ∧ MatOk (evenL M) g.2 := by
  obtain ⟨b, hb, hg⟩ := List.mem_flatMap.mp hg
  have := gaps_mem hg
  exact ⟨(h.ok b hb).ok _ this.1, (h.ok b hb).ok _ this.2⟩
theorem BagsOk.mats {M : Nat} {bs : List (List P2)} (h : BagsOk M bs) {g : P2 × P2} (hg : g ∈ gapsA bs) : (0 ≤ g.1.2 ∧ g.1.2.toNat < M ∧ (g.1.2.toNat : Int) = g.1.2) ∧ (0 ≤ g.2.2 ∧ g.2.2.toNat < M ∧ (g.2.2.toNat : Int) = g.2.2) := by
  have q := h.gap hg
  have a := q.1.2
  have b := q.2.2
  rw [even_len] at a b
  omega
theorem BagsOk.len {M : Nat} {bs : List (List P2)} (h : BagsOk M bs) : (gapsA bs).length ≤ 1000 := by
  have : ∀ l : List (List P2), (∀ b ∈ l, BagOk (evenL M) b) → (l.flatMap gapsL).length ≤ l.length * 30 := by
    intro l
    induction l with
    | nil => simp
    | cons b l ih =>
      intro hl
      have i := ih fun c hc => hl c (List.mem_cons_of_mem _ hc)
      have := (hl b List.mem_cons_self).len
      rw [List.flatMap_cons, List.length_append, gaps_len, List.length_cons]
      omega
  have := this bs h.ok
  have := h.n6
  unfold gapsA; omega
section
variable (st : Sto)
theorem mul_even (M : Nat) (x : D) (h1 : 1 ≤ M) (h8 : M ≤ 100) : mulD (.tup [x]) (.int M) st = .ok (.tup (List.replicate M x)) st := by
  by_cases z : M = 1
  · subst z
    rfl
  · have : (([x] : List D) ≠ [] ∧ (2 : Int) ≤ M ∧ (M : Int) ≤ 1000 ∧ ([x] : List D).length ≤ 1000) := ⟨by simp, by omega, by omega, by simp⟩
    show (if _ then _ else _) = _
    rw [if_pos this, Int.toNat_natCast]
    have hf : ∀ n, (List.replicate n [x]).flatten = List.replicate n x := by
      intro n
      induction n with
      | zero => rfl
      | succ n ih => rw [List.replicate_succ, List.flatten_cons, ih, List.replicate_succ]; rfl
    rw [hf]
theorem mul_evenI {M : Nat} (x : Int) (h1 : 1 ≤ M) (h8 : M ≤ 100) : mulD (.tup [.int x]) (.int M) st = .ok (tupI (List.replicate M x)) st := by
  rw [mul_even st M _ h1 h8]
  unfold tupI
  rw [List.map_replicate]
theorem f_is_bag_of {ts : List Int} {b : List P2} (h : BagOk ts b) : F_is_bag_of [tupI ts, bagD b] st = .ok (.bl true) st := by
  have e := f_wrong_in_bag st h
  have q : eqD (.lst []) (.lst []) st = .ok (.bl true) st := rfl
  simp [F_is_bag_of, runF, B_is_bag_of, e, q]
end
end Lap
namespace Lap
open PySem G
theorem _root_.G.Pool.ext {n : Nat} {st : Sto} (h : Pool n st) (l : Sto) : Pool n (st ++ l) := by
  obtain ⟨a, b, c, h⟩ := h
  exact ⟨a, b, c, by rw [List.getElem?_append_left (List.getElem?_eq_some_iff.mp h).1]; exact h⟩
end Lap
namespace Lap
open PySem G
def rowB2 (ts : List Int) (row : List P2) : Bool := decide (wrongI ts row = [])
structure RaceIn (ts : List Int) (t0 : Int) (bs : List (List P2)) : Prop where
  n1 : 1 ≤ bs.length
  n6 : bs.length ≤ 6
  bag : ∀ b ∈ bs, BagOk ts b
  s0 : 0 ≤ t0
theorem full_ok {ts : List Int} (hT : Trk ts) {t0 : Int} (h0 : 0 ≤ t0) {b : List P2} (hb : ∀ p ∈ b, MatOk ts p) : ∀ p ∈ fullL t0 b, MatOk ts p := fun p hp => by
  rcases List.mem_cons.mp hp with rfl | hp
  · exact ⟨h0, Int.le_refl 0, by show (0 : Int) < _; have := hT.pos; omega⟩
  · exact hb p hp
section
variable (st : Sto)
theorem f_is_full_row_gen {ts : List Int} (hT : Trk ts) (hs : ts.sum.natAbs < big) {t0 : Int} (h0 : 0 ≤ t0) {b : List P2} (hb : BagOk ts b) : F_is_full_row [tupI ts, .int t0, bagD b] st = .ok (.bl (rowB2 ts (fullL t0 b))) st := by
  have x2 := f_is_bag_of st hb
  have hl := hb.len
  have x3 := f_is_row_by_gen st hT hs (full_ok hT h0 hb.ok) (by show b.length + 1 ≤ 1000; omega)
  have it : itemsOf (bagD b) = some (b.map pairD) := rfl
  have eb : D.tup (D.tup [.int t0, .int 0] :: b.map pairD) = bagD (fullL t0 b) := rfl
  have k : b.length + 1 ≤ 16777216 := by omega
  unfold rowB2
  generalize decide (wrongI ts (fullL t0 b) = []) = v at *
  simp [F_is_full_row, runF, B_is_full_row, x2, it, k, eb, x3]
end
structure Put (ts : List Int) (t0 : Int) (b : List P2) (m : P2) : Prop where
  bag : BagOk ts b
  row : RowP ts (fullL t0 b)
  s0 : 0 ≤ t0
  mo : MatOk ts m
  new : m ∉ fullL t0 b
theorem row_up {ts : List Int} (hT : Trk ts) {l : List P2} (hok : ∀ p ∈ l, MatOk ts p) (hr : RowP ts l) : l.Pairwise ltP2 :=
  List.Pairwise.imp_of_mem (fun {p q} hp hq f => .inl (follow_lt hT (hok q hq) (hok p hp) f)) hr
theorem Put.up {ts : List Int} (hT : Trk ts) {t0 : Int} {b : List P2} {m : P2} (h : Put ts t0 b m) : (fullL t0 b).Pairwise ltP2 := row_up hT (full_ok hT h.s0 h.bag.ok) h.row
end Lap
namespace Lap
open PySem G
structure LogOk (ts : List Int) (log : List (List P2)) (N : Nat := 6) : Prop where
  n1 : 1 ≤ log.length
  n6 : log.length ≤ min N 8
  len : ∀ b ∈ log, b.length ≤ 30
  ok : ∀ b ∈ log, ∀ p ∈ b, MatOk ts p
def gapsN (log : List (List P2)) : List (Nat × Nat) := (List.range log.length).flatMap fun r => (List.range ((log.getD r []).length - 1)).map fun i => (r, i)
def mkI (log : List (List P2)) (r i : Nat) : P2 := pat (log.getD r []) i
def slackI (ts : List Int) (log : List (List P2)) (g : Nat × Nat) : Int := (mkI log g.1 (g.2 + 1)).1 - (mkI log g.1 g.2).1 - wayI ts (mkI log g.1 g.2).2.toNat (mkI log g.1 (g.2 + 1)).2.toNat
theorem gap_mem {log : List (List P2)} {g : Nat × Nat} : g ∈ gapsN log ↔ g.1 < log.length ∧ g.2 + 1 < (log.getD g.1 []).length := by
  unfold gapsN
  rw [List.mem_flatMap]
  constructor
  · rintro ⟨r, hr, h⟩
    obtain ⟨i, hi, rfl⟩ := List.mem_map.mp h
    have a := List.mem_range.mp hr
    have b := List.mem_range.mp hi
    exact ⟨a, by show i + 1 < (log.getD r []).length; omega⟩
  · rintro ⟨a, b⟩
    exact ⟨g.1, List.mem_range.mpr a, List.mem_map.mpr ⟨g.2, List.mem_range.mpr (by omega), rfl⟩⟩
theorem getD_get {log : List (List P2)} {r : Nat} (h : r < log.length) : log.getD r [] = log[r] := by rw [List.getD_eq_getElem?_getD, List.getElem?_eq_getElem h]; rfl
structure GapAt (ts : List Int) (log : List (List P2)) (g : Nat × Nat) : Prop where
  r : g.1 < log.length
  i : g.2 + 1 < (log.getD g.1 []).length
  m1 : MatOk ts (mkI log g.1 g.2)
  m2 : MatOk ts (mkI log g.1 (g.2 + 1))
  l : (log.getD g.1 []).length ≤ 30
theorem LogOk.at_ {ts : List Int} {log : List (List P2)} {N : Nat} (h : LogOk ts log N) {g : Nat × Nat} (hg : g ∈ gapsN log) : GapAt ts log g := by
  obtain ⟨a, b⟩ := gap_mem.mp hg
  have hm : log.getD g.1 [] ∈ log := by rw [getD_get a]; exact List.getElem_mem a
  refine ⟨a, b, ?_, ?_, h.len _ hm⟩ <;> unfold mkI <;> rw [pat_get (by omega)] <;> exact h.ok _ hm _ (List.getElem_mem _)
end Lap
namespace Lap
abbrev Mt := Nat → Nat → Option Int
def updM (m : Mt) (i j : Nat) (v : Option Int) : Mt := fun a b => if a = i ∧ b = j then v else m a b
def RM (m : Mt) (i j : Nat) (x : Int) : Prop := ∃ y, m i j = some y ∧ y ≤ x
def LeM (m' m : Mt) : Prop := ∀ i j x, RM m i j x → RM m' i j x
theorem LeM.refl (m : Mt) : LeM m m := fun _ _ _ h => h
theorem LeM.trans {a b c : Mt} (h : LeM a b) (g : LeM b c) : LeM a c := fun i j x q => h i j x (g i j x q)
end Lap
namespace Lap
open PySem PySem.Spec PyProof.Rows L2 G
def ov (o : Option Int) : V := match o with
  | none => .non
  | some y => .int y
def od (o : Option Int) : D := match o with
  | none => .non
  | some y => .int y
abbrev KV := List (List L2.Key × V)
def kij (i j : Nat) : List L2.Key := [.inl (i : Int), .inl (j : Int)]
theorem kij_inj {i j a b : Nat} : kij i j = kij a b ↔ i = a ∧ j = b := by
  unfold kij
  constructor
  · intro h
    have h1 := (List.cons.inj h).1
    have h2 := (List.cons.inj (List.cons.inj h).2).1
    exact ⟨by have := Sum.inl.inj h1; omega, by have := Sum.inl.inj h2; omega⟩
  · rintro ⟨rfl, rfl⟩; rfl
def FarOk (M : Nat) (m : Mt) (kvs : KV) : Prop := (∀ i j, i < M → j < M → L2.valV kvs (kij i j) = some (ov (m i j))) ∧ kvs.length ≤ 100
theorem putK_old {kvs : KV} {k : List L2.Key} {v y : V} (h : L2.valV kvs k = some y) : (L2.putK kvs k v).length = kvs.length := by
  unfold L2.putK
  rw [L2.valV_any, h, Option.isSome_some, if_pos rfl, List.length_map]
theorem FarOk.put {M : Nat} {m : Mt} {kvs : KV} (h : FarOk M m kvs) {i j : Nat} (hi : i < M) (hj : j < M) (o : Option Int) : FarOk M (updM m i j o) (L2.putK kvs (kij i j) (ov o)) := by
  refine ⟨fun a b ha hb => ?_, ?_⟩
  · rw [L2.valV_put]
    unfold updM
    by_cases q : a = i ∧ b = j
    · rw [if_pos (kij_inj.mpr q), if_pos q]
    · rw [if_neg (fun z => q (kij_inj.mp z)), if_neg q]
      exact h.1 a b ha hb
  · rw [putK_old (h.1 i j hi hj)]
    exact h.2
def m0M : Mt := fun i j => if i = j then some 0 else none
end Lap
namespace Lap
open PySem PySem.Spec PyProof.Rows L2 G
def InitOk (M i j : Nat) (kvs : KV) : Prop := (∀ a b, a < M → b < M → (a < i ∨ a = i ∧ b < j) → valV kvs (kij a b) = some (ov (m0M a b))) ∧ kvs.length ≤ 8 * i + j
theorem InitOk.put {M i j : Nat} {kvs : KV} (h : InitOk M i j kvs) : InitOk M i (j + 1) (putK kvs (kij i j) (ov (m0M i j))) := by
  refine ⟨fun a b ha hb hab => ?_, ?_⟩
  · rw [valV_put]
    by_cases q : a = i ∧ b = j
    · rw [if_pos (kij_inj.mpr q), q.1, q.2]
    · rw [if_neg (fun z => q (kij_inj.mp z))]
      exact h.1 a b ha hb (by omega)
  · have := length_putK kvs (kij i j) (ov (m0M i j))
    have := h.2
    omega
end Lap
namespace Lap
open PySem G
def mats (log : List (List P2)) (g : Nat × Nat) : Nat × Nat := ((mkI log g.1 g.2).2.toNat, (mkI log g.1 (g.2 + 1)).2.toNat)
def EdgeG (ts : List Int) (log : List (List P2)) (i j : Nat) (s : Int) : Prop := ∃ g ∈ gapsN log, mats log g = (i, j) ∧ slackI ts log g = s
inductive Wk (ts : List Int) (log : List (List P2)) : Nat → Nat → List Nat → Int → Prop
  | nil (a : Nat) : Wk ts log a a [] 0
  | snoc {a u v : Nat} {l : List Nat} {x s : Int} : Wk ts log a u l x → EdgeG ts log u v s → Wk ts log a v (v :: l) (x + s)
section
variable {ts : List Int} {log : List (List P2)}
theorem Wk.trans {a b c : Nat} {l l' : List Nat} {x y : Int} (h : Wk ts log a b l x) (g : Wk ts log b c l' y) : Wk ts log a c (l' ++ l) (x + y) := by
  induction g with
  | nil => simpa using h
  | snoc w e ih =>
    have := Wk.snoc ih e
    rw [List.cons_append, ← Int.add_assoc]
    exact this
theorem edge_lt {N : Nat} (h : LogOk ts log N) {i j : Nat} {s : Int} (e : EdgeG ts log i j s) : i < ts.length ∧ j < ts.length := by
  obtain ⟨g, hg, hm, _⟩ := e
  have q := h.at_ hg
  have a := q.m1.2
  have b := q.m2.2
  unfold mats at hm
  have e1 := congrArg Prod.fst hm
  have e2 := congrArg Prod.snd hm
  simp only at e1 e2
  omega
theorem Wk.lt {N : Nat} (h : LogOk ts log N) {a b : Nat} {l : List Nat} {x : Int} (w : Wk ts log a b l x) : ∀ v ∈ l, v < ts.length := by
  induction w with
  | nil => simp
  | snoc w e ih =>
    intro v hv
    rcases List.mem_cons.mp hv with rfl | hv
    · exact (edge_lt h e).2
    · exact ih v hv
theorem Wk.split {a b : Nat} {l : List Nat} {x : Int} (w : Wk ts log a b l x) {v : Nat} (hv : v ∈ l) : ∃ l1 l2 x1 x2, l = l2 ++ l1 ∧ Wk ts log a v l1 x1 ∧ Wk ts log v b l2 x2 ∧ x = x1 + x2 ∧ l1 ≠ [] := by
  induction w with
  | nil => cases hv
  | @snoc u b l x s w e ih =>
    by_cases z : v = b
    · subst z
      exact ⟨v :: l, [], x + s, 0, rfl, .snoc w e, .nil v, by omega, by simp⟩
    · rcases List.mem_cons.mp hv with h | hv
      · exact absurd h z
      · obtain ⟨l1, l2, x1, x2, rfl, w1, w2, rfl, ne⟩ := ih hv
        exact ⟨l1, b :: l2, x1, x2 + s, rfl, w1, .snoc w2 e, by omega, ne⟩
end
end Lap
namespace Lap
open PySem G
section
variable {κ β : Type} [DecidableEq κ]
def betterB (acc : List (κ × (Int × β))) (k : κ) (t : Int) : Bool := match vGet acc k with
  | none => true
  | some c => decide (t < c.1)
def mp (acc : List (κ × (Int × β))) (k : κ) (c : Int × β) : List (κ × (Int × β)) := if betterB acc k c.1 = true then vPut acc k c else acc
variable {α : Type}
end
end Lap
namespace Lap
open PySem PySem.Spec PyProof.Rows L2 G
def kk (p : Nat × Nat) : List Key := kij p.1 p.2
def ki (i : Nat) : Key := .inl (i : Int)
end Lap
namespace Lap
open PySem G
def kvN {β : Type} (g : β → D) (l : List (Nat × β)) : List (L2.Key × D) := l.map fun p => (ki p.1, g p.2)
def natD (j : Nat) : D := .int j
def optN : Option Nat → D
  | none => .non
  | some j => .int j
section
variable {β : Type}
theorem vGet_memN {l : List (Nat × β)} {i : Nat} {v : β} (h : vGet l i = some v) : (i, v) ∈ l := by
  unfold vGet at h
  obtain ⟨p, hp, rfl⟩ := Option.map_eq_some_iff.mp h
  have h1 := List.mem_of_find?_eq_some hp
  have h2 : p.1 = i := by simpa using List.find?_some hp
  rw [← h2]; exact h1
theorem vGet_isSome {l : List (Nat × β)} {i : Nat} : (vGet l i).isSome = true ↔ i ∈ l.map (·.1) := by
  rw [← vGet_any, List.any_eq_true, List.mem_map]
  constructor
  · rintro ⟨x, h1, h2⟩; exact ⟨x, h1, of_decide_eq_true h2⟩
  · rintro ⟨x, h1, h2⟩; exact ⟨x, h1, decide_eq_true h2⟩
theorem vGet_none {l : List (Nat × β)} {i : Nat} : vGet l i = none ↔ i ∉ l.map (·.1) := by
  rw [← vGet_isSome]
  cases vGet l i <;> simp
theorem mem_key {l : List (Nat × β)} {i : Nat} {v : β} (h : (i, v) ∈ l) : i ∈ l.map (·.1) := List.mem_map.mpr ⟨_, h, rfl⟩
theorem nodup_val : ∀ {l : List (Nat × β)}, (l.map (·.1)).Nodup → ∀ {i : Nat} {a b : β}, (i, a) ∈ l → (i, b) ∈ l → a = b
  | p :: l, h, i, a, b, h1, h2 => by
    rw [List.map_cons, List.nodup_cons] at h
    rcases List.mem_cons.mp h1 with e1 | h1 <;> rcases List.mem_cons.mp h2 with e2 | h2
    · rw [← e1] at e2; exact (congrArg Prod.snd e2).symm
    · rw [← e1] at h; exact absurd (mem_key h2) h.1
    · rw [← e2] at h; exact absurd (mem_key h1) h.1
    · exact nodup_val h.2 h1 h2
theorem vGet_of {l : List (Nat × β)} (hn : (l.map (·.1)).Nodup) {i : Nat} {v : β} (h : (i, v) ∈ l) : vGet l i = some v := by
  cases e : vGet l i with
  | none => exact absurd (mem_key h) (vGet_none.mp e)
  | some w => rw [nodup_val hn (vGet_memN e) h]
theorem vPut_new {l : List (Nat × β)} {i : Nat} {v : β} (h : i ∉ l.map (·.1)) : vPut l i v = l ++ [(i, v)] := by
  unfold vPut
  rw [vGet_any, if_neg]
  intro z
  exact h (vGet_isSome.mp z)
theorem vPut_old {l : List (Nat × β)} {i : Nat} {v : β} (h : i ∈ l.map (·.1)) : vPut l i v = l.map fun kv => if kv.1 = i then (kv.1, v) else kv := by
  unfold vPut
  rw [vGet_any, if_pos (vGet_isSome.mpr h)]
end
structure CI (f : Nat → Nat → Bool) (n : Nat) (L : List (Nat × Nat)) (A : List (Nat × Option Nat)) (F : List (Nat × Nat)) (w : List Nat) : Prop where
  a_w : A.map (·.1) = w
  w_nd : w.Nodup
  w_lt : ∀ i ∈ w, i < n
  st : ∀ i, i < n → i ∉ L.map (·.1) → i ∈ w
  f_nd : (F.map (·.1)).Nodup
  f_ok : ∀ j i, (j, i) ∈ F → f i j = true ∧ j < n ∧ i ∈ w
  a_non : ∀ i, (i, none) ∈ A → i ∉ L.map (·.1)
  a_som : ∀ i j, (i, some j) ∈ A → (i, j) ∈ L ∧ j ∈ F.map (·.1)
  back : ∀ i j, (i, j) ∈ L → j ∈ F.map (·.1) → i ∈ w
  rank : ∀ m i j, A[m]? = some (i, some j) → ∀ o, (j, o) ∈ F → o ∈ w.take m
section
variable {f : Nat → Nat → Bool} {n : Nat} {L : List (Nat × Nat)} (hM : Mtg f n L) {A : List (Nat × Option Nat)} {F : List (Nat × Nat)} {w : List Nat} (h : CI f n L A F w)
include hM h
theorem CI.add {i j : Nat} (hi : i ∈ w) (hj : j < n) (hf : f i j = true) (hn : j ∉ F.map (·.1)) (hb : ∀ i', (i', j) ∈ L → i' ∈ w) : CI f n L A (F ++ [(j, i)]) w := by
  refine ⟨h.a_w, h.w_nd, h.w_lt, h.st, ?_, fun j' i' hm => ?_, h.a_non, fun i' j' hm => ?_, fun i' j' hm hF => ?_, fun m i' j' hm o ho => ?_⟩
  · rw [List.map_append, List.nodup_append]
    exact ⟨h.f_nd, by simp, fun a ha b hb' => by simp at hb'; rw [hb']; intro e; exact hn (e ▸ ha)⟩
  · rcases List.mem_append.mp hm with hm | hm
    · exact h.f_ok j' i' hm
    · rw [List.mem_singleton] at hm; cases hm; exact ⟨hf, hj, hi⟩
  · have := h.a_som i' j' hm
    exact ⟨this.1, by rw [List.map_append]; exact List.mem_append_left _ this.2⟩
  · rw [List.map_append] at hF
    rcases List.mem_append.mp hF with hF | hF
    · exact h.back i' j' hm hF
    · simp at hF; subst hF; exact hb i' hm
  · rcases List.mem_append.mp ho with ho | ho
    · exact h.rank m i' j' hm o ho
    · rw [List.mem_singleton] at ho
      cases ho
      exact absurd (h.a_som i' j (List.mem_of_getElem? hm)).2 hn
end
structure LI (f : Nat → Nat → Bool) (n : Nat) (L : List (Nat × Nat)) (F : List (Nat × Nat)) (w : List Nat) (m : Nat) (j : Nat) (G : List (Nat × Nat)) : Prop where
  mt : Mtg f n G
  len : G.length = L.length
  free : j ∉ G.map (·.2)
  same : ∀ i ∈ w.take m, ∀ y, (i, y) ∈ G ↔ (i, y) ∈ L
  at_ : ∃ o, (j, o) ∈ F ∧ o ∈ w.take m
section
variable {f : Nat → Nat → Bool} {n : Nat} {L : List (Nat × Nat)} (hM : Mtg f n L) {A : List (Nat × Option Nat)} {F : List (Nat × Nat)} {w : List Nat} (h : CI f n L A F w)
include hM h
theorem LI.step {m j : Nat} {G : List (Nat × Nat)} (l : LI f n L F w m j G) : ∃ o x, vGet F j = some o ∧ vGet A o = some x ∧
    (x = none ∧ Mtg f n (vPut G o j) ∧ (vPut G o j).length = L.length + 1 ∨ ∃ j1 p, x = some j1 ∧ p < m ∧ LI f n L F w p j1 (vPut G o j)) := by
  obtain ⟨o, ho, hom⟩ := l.at_
  have hfo := h.f_ok j o ho
  obtain ⟨p, hp, rfl⟩ := List.mem_iff_getElem.mp hom
  have hpm : p < m := by rw [List.length_take] at hp; omega
  have hpw : p < w.length := by rw [List.length_take] at hp; omega
  rw [List.getElem_take] at ho hom hfo
  have hlen : A.length = w.length := by have := congrArg List.length h.a_w; simpa using this
  have hAk : (A.map (·.1)).Nodup := by rw [h.a_w]; exact h.w_nd
  have hpA : p < A.length := by omega
  have hA1 : A[p].1 = w[p] := by
    have : (A.map (·.1))[p]'(by simpa using hpA) = w[p] := by simp only [h.a_w]
    rw [List.getElem_map] at this; exact this
  have hAm : (w[p], A[p].2) ∈ A := by
    rw [← hA1]; exact List.getElem_mem hpA
  have hAp : A[p]? = some (w[p], A[p].2) := by rw [List.getElem?_eq_getElem hpA, ← hA1]
  refine ⟨w[p], A[p].2, vGet_of h.f_nd ho, vGet_of hAk hAm, ?_⟩
  have sub : ∀ i ∈ w.take p, i ∈ w.take m ∧ i ≠ w[p] := fun i hi => by
    obtain ⟨k, hk, e⟩ := List.mem_iff_getElem.mp hi
    rw [List.getElem_take] at e
    have hkp : k < p := by rw [List.length_take] at hk; omega
    refine ⟨?_, fun z => ?_⟩
    · rw [← e]
      exact List.mem_iff_getElem.mpr ⟨k, by rw [List.length_take]; omega, by rw [List.getElem_take]⟩
    · rw [← e] at z
      exact absurd z (List.pairwise_iff_getElem.mp h.w_nd k p (by omega) hpw hkp)
  cases hx : A[p].2 with
  | none =>
    rw [hx] at hAm
    have hno := h.a_non _ hAm
    have hnG : w[p] ∉ G.map (·.1) := fun z => by
      obtain ⟨e, he, e1⟩ := List.mem_map.mp z
      have he' : (w[p], e.2) ∈ G := by rw [← e1]; exact he
      exact hno (mem_key ((l.same _ hom _).mp he'))
    refine .inl ⟨rfl, ?_, ?_⟩
    · rw [vPut_new hnG]
      refine ⟨?_, ?_, fun e he => ?_⟩
      · rw [List.map_append, List.nodup_append]
        exact ⟨l.mt.k, by simp, fun a ha b hb => by simp at hb; rw [hb]; intro e; exact hnG (e ▸ ha)⟩
      · rw [List.map_append, List.nodup_append]
        exact ⟨l.mt.v, by simp, fun a ha b hb => by simp at hb; rw [hb]; intro e; exact l.free (e ▸ ha)⟩
      · rcases List.mem_append.mp he with he | he
        · exact l.mt.ok e he
        · rw [List.mem_singleton.mp he]; exact ⟨hfo.1, h.w_lt _ hfo.2.2, hfo.2.1⟩
    · rw [vPut_new hnG, List.length_append, l.len]; rfl
  | some j1 =>
    rw [hx] at hAm hAp
    have hs := h.a_som _ _ hAm
    have hG1 : (w[p], j1) ∈ G := (l.same _ hom _).mpr hs.1
    have hk := mem_key hG1
    obtain ⟨⟨j1', o1⟩, ho1, e1⟩ := List.mem_map.mp hs.2
    simp only at e1
    subst e1
    have hj : j ≠ j1' := fun e => l.free (List.mem_map.mpr ⟨_, hG1, e.symm⟩)
    have hput := vPut_old (v := j) hk
    have mem_new : ∀ a b, (a, b) ∈ vPut G w[p] j ↔ (a ≠ w[p] ∧ (a, b) ∈ G) ∨ (a = w[p] ∧ b = j) := fun a b => by
      rw [hput, List.mem_map]
      constructor
      · rintro ⟨e, he, e2⟩
        by_cases z : e.1 = w[p]
        · rw [if_pos z] at e2
          cases e2
          exact .inr ⟨z, rfl⟩
        · rw [if_neg z] at e2
          subst e2
          exact .inl ⟨z, he⟩
      · rintro (⟨z, he⟩ | ⟨rfl, rfl⟩)
        · exact ⟨_, he, if_neg z⟩
        · exact ⟨_, hG1, if_pos rfl⟩
    have keys : (vPut G w[p] j).map (·.1) = G.map (·.1) := by rw [vPut_keys, if_pos hk]
    have hmt : Mtg f n (vPut G w[p] j) := by
      refine ⟨by rw [keys]; exact l.mt.k, ?_, fun e he => ?_⟩
      · have gk := l.mt.k
        have gv := l.mt.v
        have gf := l.free
        rw [hput]
        clear keys mem_new hput hk hG1 hAm hAp hx
        have hnd : ∀ G : List (Nat × Nat), (G.map (·.1)).Nodup → (G.map (·.2)).Nodup → j ∉ G.map (·.2) → ((G.map fun kv => if kv.1 = w[p] then (kv.1, j) else kv).map (·.2)).Nodup := by
          intro G
          induction G with
          | nil => exact fun _ _ _ => List.Pairwise.nil
          | cons e G ih =>
            intro k v fr
            rw [List.map_cons, List.nodup_cons] at k v
            have fr1 : j ≠ e.2 := fun z => fr (by rw [List.map_cons, z]; exact List.mem_cons_self)
            have fr2 : j ∉ G.map (·.2) := fun z => fr (by rw [List.map_cons]; exact List.mem_cons_of_mem _ z)
            rw [List.map_cons, List.map_cons, List.nodup_cons]
            refine ⟨fun z => ?_, ih k.2 v.2 fr2⟩
            obtain ⟨a, ha, ea⟩ := List.mem_map.mp z
            obtain ⟨b, hb, eb⟩ := List.mem_map.mp ha
            by_cases q1 : e.1 = w[p] <;> by_cases q2 : b.1 = w[p]
            · exact k.1 (List.mem_map.mpr ⟨b, hb, q2.trans q1.symm⟩)
            · rw [if_pos q1] at ea; rw [if_neg q2] at eb
              subst eb
              exact fr2 (List.mem_map.mpr ⟨b, hb, ea⟩)
            · rw [if_neg q1] at ea; rw [if_pos q2] at eb
              subst eb
              exact fr1 ea
            · rw [if_neg q1] at ea; rw [if_neg q2] at eb
              subst eb
              exact v.1 (List.mem_map.mpr ⟨b, hb, ea⟩)
        exact hnd G gk gv gf
      · obtain ⟨a, b⟩ := e
        rcases (mem_new a b).mp he with ⟨_, z⟩ | ⟨rfl, rfl⟩
        · exact l.mt.ok _ z
        · exact ⟨hfo.1, h.w_lt _ hfo.2.2, hfo.2.1⟩
    refine .inr ⟨j1', p, rfl, hpm, hmt, ?_, fun z => ?_, fun i hi y => ?_, o1, ho1, ?_⟩
    · have := congrArg List.length keys
      simp only [List.length_map] at this
      rw [this, l.len]
    · obtain ⟨⟨a, b⟩, he, rfl⟩ := List.mem_map.mp z
      rcases (mem_new a b).mp he with ⟨ne, z⟩ | ⟨_, e⟩
      · exact ne (pair_v l.mt.v z hG1)
      · exact hj e.symm
    · have hs := sub i hi
      rw [mem_new, ← l.same i hs.1 y]
      exact ⟨fun z => z.elim (fun z => z.2) (fun z => absurd z.1 hs.2), fun z => .inl ⟨hs.2, z⟩⟩
    · exact h.rank p _ _ hAp o1 ho1
end
end Lap
namespace Lap
open PySem G
def kP (p : P2) : List L2.Key := [.inl p.1, .inl p.2]
def kvS (ks : List P2) : List (List L2.Key × D) := ks.map fun p => (kP p, .bl true)
def addP (ks : List P2) (p : P2) : List P2 := if p ∈ ks then ks else ks ++ [p]
theorem addP_nodup {ks : List P2} (h : ks.Nodup) (p : P2) : (addP ks p).Nodup := by
  unfold addP
  split
  · exact h
  · rename_i hn
    rw [List.nodup_append]
    exact ⟨h, by simp, fun x hx y hy => by rw [List.mem_singleton.mp hy]; intro z; exact hn (z ▸ hx)⟩
theorem addP_len (ks : List P2) (p : P2) : (addP ks p).length ≤ ks.length + 1 := by
  unfold addP; split <;> simp
theorem addP_mem {ks : List P2} {p x : P2} : x ∈ addP ks p ↔ x ∈ ks ∨ x = p := by
  unfold addP
  split
  · rename_i h
    exact ⟨.inl, fun z => z.elim id fun e => e ▸ h⟩
  · simp
structure DAt (ts : List Int) (p q : Nat) (s0 : Sto) (start : Int) (n : Nat) (ks : List P2) (s : Sto) : Prop where
  pool : Pool p s
  at_ : s[q]? = some (.de (kvS ks))
  eff : EffG p s0 s
  nd : ks.Nodup
  len : ks.length ≤ n
  ok : ∀ x ∈ ks, MatOk ts x ∧ start ≤ x.1 ∧ x.1 ≤ start + 5000
theorem DAt.put {ts : List Int} {p q : Nat} {s0 : Sto} {start : Int} {n : Nat} {ks : List P2} {s : Sto} (h : DAt ts p q s0 start n ks s) (hpq : p ≠ q) (hq0 : s0.length ≤ q) {x : P2} (hx : MatOk ts x ∧ start ≤ x.1 ∧ x.1 ≤ start + 5000) : DAt ts p q s0 start (n + 1) (addP ks x) (s.set q (.de (kvS (addP ks x)))) :=
  ⟨set_other hpq h.pool, by rw [List.getElem?_set_self (List.getElem?_eq_some_iff.mp h.at_).1], h.eff.setNew hq0 _, addP_nodup h.nd _, by have := addP_len ks x; have := h.len; omega, fun y hy => by
    rcases addP_mem.mp hy with hy | rfl
    · exact h.ok y hy
    · exact hx⟩
end Lap
namespace Lap
open PySem G
def natsD (l : List Nat) : D := .lst (l.map fun (j : Nat) => D.int j)
def hL (f : Nat → Nat → Bool) (n k : Nat) (P : List Nat) : List Int := (List.range n).map fun j => ((1 + if j ∈ P then mxH f (hgt f) (k + 1) j else mxH f (hgt f) k j : Nat) : Int)
end Lap
namespace Lap
open PySem G
theorem bigI_ge : ∀ {l : List Int} {x : Int}, x ∈ l → x ≤ bigI l
  | [y], x, h => by rw [List.mem_singleton.mp h]; exact Int.le_refl _
  | y :: z :: l, x, h => by
    have := fun h => bigI_ge (l := z :: l) (x := x) h
    show x ≤ max y (bigI (z :: l))
    rcases List.mem_cons.mp h with rfl | h
    · omega
    · have := this h; omega
theorem bigI_mem : ∀ {l : List Int}, l ≠ [] → bigI l ∈ l
  | [y], _ => by simp [bigI]
  | y :: z :: l, _ => by
    have := bigI_mem (l := z :: l) (by simp)
    show max y (bigI (z :: l)) ∈ _
    rcases Int.le_total y (bigI (z :: l)) with h | h
    · rw [Int.max_eq_right h]; exact List.mem_cons_of_mem _ this
    · rw [Int.max_eq_left h]; exact List.mem_cons_self
theorem in_nats (i : Nat) (l : List Nat) (st : Sto) : inD (.int i) (natsD l) st = .ok (.bl (decide (i ∈ l))) st := by
  have := inD_lstI st (i : Int) (l.map fun (j : Nat) => (j : Int))
  have e : natsD l = lstI (l.map fun (j : Nat) => (j : Int)) := by unfold natsD lstI; rw [List.map_map]; rfl
  rw [e, this]
  congr 2
  rw [Bool.eq_iff_iff, decide_eq_true_iff, decide_eq_true_iff]
  constructor
  · intro h
    obtain ⟨a, ha, e⟩ := List.mem_map.mp h
    have : a = i := by omega
    exact this ▸ ha
  · intro h
    exact List.mem_map.mpr ⟨i, h, rfl⟩
end Lap
namespace Lap
open PySem G
def swL (L : List (Nat × Nat)) : List (Nat × Nat) := L.map fun p => (p.2, p.1)
def S4 (st : Sto) (L : List (Nat × Nat)) (A : List (Nat × Option Nat)) (F : List (Nat × Nat)) (w : List Nat) : Sto := st ++ [.dd (kvN natD (swL L)), .dd (kvN optN A), .dd (kvN natD F), .lst (w.map natD)]
end Lap
namespace Lap
open PySem G
def natsT (l : List Nat) : D := .tup (l.map fun (j : Nat) => D.int j)
end Lap
namespace Lap
open PySem G
def lawW (FR : FA) : SvS := retS (callE allF (consA (lcE (callI range1F (consA (callE maxF (consA (cE (.int 2)) (consA (callE minF (consA (callE lenF (consA (varE 0) (nilA))) (consA (cE (.int 3)) (nilA)))) (nilA)))) (nilA))) (.nm 1) (yesB) (callE FR (consA (callE F__law_well (consA (varE 0) (consA (varE 1) (nilA)))) (nilA))) [1]) (nilA)))
theorem lawW_ok {FR : FA} (hR : Right FR) (ns : List Int) : ∃ st, runF 1 2 (lawW FR) [.slo (ns.map D.int)] [] = .ok (.bl true) st := by
  generalize hq : (if (if (3 : Int) < (ns.length : Int) then (3 : Int) else (ns.length : Int)) > 2 then (if (3 : Int) < (ns.length : Int) then (3 : Int) else (ns.length : Int)) else 2) = q
  have hq2 : 2 ≤ q ∧ q ≤ 3 := by split at hq <;> split at hq <;> omega
  obtain ⟨s', e, _⟩ := lc_trues (t := .nm 1) (fe := callE FR (consA (callE F__law_well (consA (varE 0) (consA (varE 1) (nilA)))) (nilA))) (envw := [some (.slo (ns.map D.int)), none]) (fun _ => True) (rangeD 0 q.toNat) (st := []) trivial (by simp [rangeD]; omega) (by
    intro x hx s _
    obtain ⟨j, hj⟩ := List.getElem?_of_mem hx
    obtain ⟨rfl, hj⟩ := range_get hj
    obtain ⟨a, b, c, e1⟩ := w_well (st := s) (ns := ns) (k := j)
    obtain ⟨s', e2⟩ := hR (st := s ++ [.lst [.int a, .int b, .int c]]) (n := s.length) pool_new
    exact ⟨[some (.slo (ns.map D.int)), some (.int (0 + j))], s', by simp, by simp [e1, e2], trivial⟩)
  have al := all_trues (rangeD 0 q.toNat).length s'
  refine ⟨s', ?_⟩
  have hb : q.natAbs < 4611686018427387904 := by omega
  generalize List.replicate (rangeD 0 q.toNat).length (D.bl true) = rr at *
  simp only [runF, lawW, List.length_cons, List.length_nil]
  simp [hq, hb, e, al]
end Lap
namespace Lap
open PySem G
theorem bigI_eq {l : List Int} {x : Int} (h1 : x ∈ l) (h2 : ∀ y ∈ l, y ≤ x) : bigI l = x := by
  have := bigI_mem (l := l) (by intro z; rw [z] at h1; cases h1)
  have a := h2 _ this
  have b := bigI_ge h1
  omega
theorem add0_lst {ns : List Int} (st : Sto) (hl : ns.length ≤ 100000) : addD (.lst [.int 0]) (.lst (ns.map D.int)) st = .ok (.lst ((0 :: ns).map D.int)) st := by
  unfold addD
  simp only
  rw [if_pos (by simp; omega)]
  rfl
end Lap
namespace Lap
open PySem G
section
variable {f : Nat → Nat → Bool} (hf : ∀ i j, f i j = true → i < j) (htr : ∀ i j k, f i j = true → f j k = true → f i k = true) {n : Nat} {L : List (Nat × Nat)} (hM : Mtg f n L)
include hf htr hM
omit hf htr in
omit hf htr in
end
end Lap
namespace Lap
open PySem G
section
variable (st : Sto)
theorem _root_.Lap.RaceOk.in {ts : List Int} {t0 : Int} {bs : List (List P2)} (h : RaceOk ts t0 bs) : RaceIn ts t0 bs := ⟨h.n1, h.n6, h.bag, h.s0⟩
end
end Lap
namespace Lap
open PySem G
def frL (hi : Int) : Int → List Int → List P2
  | here, [] => if here ≤ hi then [(here, hi)] else []
  | here, t :: ts => (if here < t then [(here, t - 1)] else []) ++ frL hi (t + 1) ts
def quietL (last : Int) (times : List Int) : List P2 := frL last 0 (times.filter fun t => decide (t ≤ last))
def shB (lo hi : Int) (p : P2) : Bool := decide ((if lo > p.1 then lo else p.1) ≤ (if hi < p.2 then hi else p.2))
abbrev Wd := Int × Int × Int × Int
def winD (w : Wd) : D := .tup [.int w.1, .int w.2.1, .int w.2.2.1, .int w.2.2.2]
def winA (ts : List Int) (m : Nat) (r i : Int) (g : P2 × P2) : List Wd :=
  if m ∈ betweenL ts.length g then [(r, i, g.1.1 + wayI ts g.1.2.toNat m, g.2.1 - wayI ts m g.2.2.toNat)] else []
def winG (ts : List Int) (m : Nat) (r : Int) : Int → List (P2 × P2) → List Wd
  | _, [] => []
  | i, g :: gs => winA ts m r i g ++ winG ts m r (i + 1) gs
def winR (ts : List Int) (m : Nat) : Int → List (List P2) → List Wd
  | _, [] => []
  | r, row :: rows => winG ts m r 0 (gapsL row) ++ winR ts m (r + 1) rows
theorem winG_len {ts : List Int} {m : Nat} {r : Int} : ∀ (gs : List (P2 × P2)) (i : Int), (winG ts m r i gs).length ≤ gs.length
  | [], i => Nat.le_refl _
  | g :: gs, i => by
    unfold winG
    have := winG_len (ts := ts) (m := m) (r := r) gs (i + 1)
    have h : (winA ts m r i g).length ≤ 1 := by unfold winA; split <;> simp
    rw [List.length_append, List.length_cons]
    omega
theorem winR_len {ts : List Int} {m : Nat} (k : Nat) : ∀ (rows : List (List P2)) (r : Int), (∀ row ∈ rows, (gapsL row).length ≤ k) → (winR ts m r rows).length ≤ k * rows.length
  | [], r, _ => Nat.zero_le _
  | row :: rows, r, h => by
    unfold winR
    have h1 := winG_len (ts := ts) (m := m) (r := r) (gapsL row) 0
    have h2 := winR_len (ts := ts) (m := m) k rows (r + 1) fun x hx => h x (List.mem_cons_of_mem _ hx)
    have h3 := h row List.mem_cons_self
    rw [List.length_append, List.length_cons, Nat.mul_add]
    omega
end Lap
namespace Lap
open PySem G
theorem winG_snoc {ts : List Int} {m : Nat} {r : Int} (g : P2 × P2) : ∀ (gs : List (P2 × P2)) (i : Int), winG ts m r i (gs ++ [g]) = winG ts m r i gs ++ winA ts m r (i + gs.length) g
  | [], i => by simp [winG]
  | x :: gs, i => by
    show winA ts m r i x ++ winG ts m r (i + 1) (gs ++ [g]) = (winA ts m r i x ++ winG ts m r (i + 1) gs) ++ _
    rw [winG_snoc g gs (i + 1), List.append_assoc]
    simp only [List.length_cons]
    rw [show i + 1 + (gs.length : Int) = i + ((gs.length + 1 : Nat) : Int) by push_cast; omega]
section
variable {st : Sto} {ts : List Int}
theorem way_p (hT : Trk ts) (hs : ts.sum.natAbs < big) {p : P2} (hp : MatOk ts p) {m : Nat} (hm : m < ts.length) (st : Sto) : F_way_by [tupI ts, .int p.2, .int m] st = .ok (.int (wayI ts p.2.toNat m)) st := by
  have := f_way_by st hT (mat_nat hp).2 hm hs
  rw [(mat_nat hp).1] at this
  exact this
theorem way_q (hT : Trk ts) (hs : ts.sum.natAbs < big) {p : P2} (hp : MatOk ts p) {m : Nat} (hm : m < ts.length) (st : Sto) : F_way_by [tupI ts, .int m, .int p.2] st = .ok (.int (wayI ts m p.2.toNat)) st := by
  have := f_way_by st hT hm (mat_nat hp).2 hs
  rw [(mat_nat hp).1] at this
  exact this
def wiBody : SvS := (ifS (tstE (binE inD (varE 1) (callE F_mats_between (consA (varE 0) (consA (binE ixD (varE 6) (cE (.int 1))) (consA (binE ixD (varE 7) (cE (.int 1))) (nilA))))))) (exprS (methLE appF (varE 4) (consA (tupE (consA (varE 2) (consA (varE 5) (consA (binE addD (binE ixD (varE 6) (cE (.int 0))) (callE F_way_by (consA (varE 0) (consA (binE ixD (varE 6) (cE (.int 1))) (consA (varE 1) (nilA)))))) (consA (binE subD (binE ixD (varE 7) (cE (.int 0))) (callE F_way_by (consA (varE 0) (consA (varE 1) (consA (binE ixD (varE 7) (cE (.int 1))) (nilA)))))) (nilA)))))) (nilA)))) (passS))
theorem wi_turn (hT : Trk ts) (hs : ts.sum.natAbs < big) {m : Nat} (hm : m < ts.length) {q : Nat} {r i : Int} {g : P2 × P2} (hp : MatOk ts g.1) (hq : MatOk ts g.2) (rd : D) {ws : List Wd} (hl : ws.length < 1000000) {s : Sto} (hat : s[q]? = some (.lst (ws.map winD))) :
    wiBody [some (tupI ts), some (.int m), some (.int r), some rd, some (.mut q), some (.int i), some (pairD g.1), some (pairD g.2)] s =
      .nx [some (tupI ts), some (.int m), some (.int r), some rd, some (.mut q), some (.int i), some (pairD g.1), some (pairD g.2)] (s.set q (.lst ((ws ++ winA ts m r i g).map winD))) := by
  have mb := f_mats_between s hT hp hq
  have ib := inD_ints s (m : Int) (.lst ((betweenL ts.length g).map fun (i : Nat) => D.int i)) ((betweenL ts.length g).map fun (i : Nat) => (i : Int)) (by show some _ = some _; rw [List.map_map]; rfl)
  have dc : decide ((m : Int) ∈ (betweenL ts.length g).map fun (i : Nat) => (i : Int)) = decide (m ∈ betweenL ts.length g) := by
    congr 1
    rw [List.mem_map]
    exact propext ⟨fun ⟨a, h, e⟩ => by rw [← Int.ofNat_inj.mp e]; exact h, fun h => ⟨m, h, rfl⟩⟩
  rw [dc] at ib
  have w1 := way_p hT hs hp hm s
  have w2 := way_q hT hs hq hm s
  have il := isL_mut hat
  have e1 : ixD (pairD g.1) (.int 1) s = .ok (.int g.1.2) s := ixD_tup _ _ _ rfl
  have e2 : ixD (pairD g.2) (.int 1) s = .ok (.int g.2.2) s := ixD_tup _ _ _ rfl
  have e3 : ixD (pairD g.1) (.int 0) s = .ok (.int g.1.1) s := ixD_tup _ _ _ rfl
  have e4 : ixD (pairD g.2) (.int 0) s = .ok (.int g.2.1) s := ixD_tup _ _ _ rfl
  unfold winA
  by_cases c : m ∈ betweenL ts.length g
  · rw [if_pos c]
    rw [decide_eq_true c] at ib
    have ap := app_mut (winD (r, i, g.1.1 + wayI ts g.1.2.toNat m, g.2.1 - wayI ts m g.2.2.toNat)) hat (by rw [List.length_map]; exact hl)
    rw [show ws.map winD ++ [winD (r, i, g.1.1 + wayI ts g.1.2.toNat m, g.2.1 - wayI ts m g.2.2.toNat)] = (ws ++ [(r, i, g.1.1 + wayI ts g.1.2.toNat m, g.2.1 - wayI ts m g.2.2.toNat)]).map winD by simp] at ap
    unfold winD at ap ⊢
    simp only at ap
    generalize (ws ++ [(r, i, g.1.1 + wayI ts g.1.2.toNat m, g.2.1 - wayI ts m g.2.2.toNat)]).map _ = wl at *
    generalize wayI ts g.1.2.toNat m = y1 at *
    generalize wayI ts m g.2.2.toNat = y2 at *
    generalize (betweenL ts.length g).map (fun (i : Nat) => D.int i) = bl at *
    generalize pairD g.1 = p1 at *
    generalize pairD g.2 = p2 at *
    generalize g.1.1 = a1 at *
    generalize g.1.2 = a2 at *
    generalize g.2.1 = b1 at *
    generalize g.2.2 = b2 at *
    generalize (m : Int) = mi at *
    generalize tupI ts = td at *
    simp [wiBody, e1, e2, e3, e4, mb, ib, w1, w2, il, ap]
  · rw [if_neg c, List.append_nil]
    rw [decide_eq_false c] at ib
    have same : s.set q (.lst (ws.map winD)) = s := by
      have hq := (List.getElem?_eq_some_iff.mp hat)
      obtain ⟨h1, h2⟩ := hq
      rw [← h2]; exact List.set_getElem_self h1
    rw [same]
    generalize (betweenL ts.length g).map (fun (i : Nat) => D.int i) = bl at *
    generalize pairD g.1 = p1 at *
    generalize pairD g.2 = p2 at *
    generalize (m : Int) = mi at *
    generalize tupI ts = td at *
    simp [wiBody, e1, e2, mb, ib]
theorem f_windows_in (hT : Trk ts) (hs : ts.sum.natAbs < big) {m : Nat} (hm : m < ts.length) (r : Int) {row : List P2} (hr : ∀ p ∈ row, MatOk ts p) (hl : row.length ≤ 31) (st : Sto) :
    F_windows_in [tupI ts, .int m, .int r, bagD row] st = .ok (.mut st.length) (st ++ [.lst ((winG ts m r 0 (gapsL row)).map winD)]) := by
  have en : ∀ st : Sto, enzF [bagD row, bagD (row.drop 1)] st = .ok (.frz (enumL ((gapsL row).map fun g => D.tup [pairD g.1, pairD g.2]))) st := fun st => by
    unfold gapsL
    rw [← zip_pairs]; rfl
  have sl : ∀ st : Sto, sliceD (bagD row) (some 1) none st = .ok (bagD (row.drop 1)) st := fun st => by
    rw [slice_bag]; congr 2; exact cutL_from row 1
  obtain ⟨env', s', e, ⟨o5, o6, o7, rfl, rfl⟩⟩ := loop_nx (g := tgT (.tp [.nm 5, .tp [.nm 6, .nm 7]])) (body := wiBody)
    (fun j env s => ∃ o5 o6 o7 : Option D, env = [some (tupI ts), some (.int m), some (.int r), some (bagD row), some (.mut st.length), o5, o6, o7] ∧ s = st ++ [.lst ((winG ts m r 0 ((gapsL row).take j)).map winD)])
    (xs := enumL ((gapsL row).map fun g => D.tup [pairD g.1, pairD g.2])) (env := [some (tupI ts), some (.int m), some (.int r), some (bagD row), some (.mut st.length), none, none, none]) (st := st ++ [.lst []])
    ⟨none, none, none, rfl, by simp [winG]⟩
    (by
      rintro j x env s hx ⟨o5, o6, o7, rfl, rfl⟩
      obtain ⟨y, hy, rfl⟩ := enumL_get hx
      rw [List.getElem?_map] at hy
      obtain ⟨g, hg, rfl⟩ := Option.map_eq_some_iff.mp hy
      obtain ⟨h1, h2⟩ := gaps_mem (List.mem_of_getElem? hg)
      have hgl := gaps_len row
      have hwl := winG_len (ts := ts) (m := m) (r := r) ((gapsL row).take j) 0
      have hjl := (List.getElem?_eq_some_iff.mp hg).1
      have t := wi_turn (m := m) (r := r) (i := j) (g := g) hT hs hm (hr _ h1) (hr _ h2) (bagD row) (ws := winG ts m r 0 ((gapsL row).take j)) (q := st.length) (by rw [List.length_take] at hwl; omega) (s := st ++ [.lst ((winG ts m r 0 ((gapsL row).take j)).map winD)]) (by simp)
      refine ⟨_, st ++ [MO.lst ((winG ts m r 0 ((gapsL row).take j) ++ winA ts m r j g).map winD)], ?_, some (.int j), some (pairD g.1), some (pairD g.2), rfl, ?_⟩
      rotate_left
      · rw [List.take_succ, hg, Option.toList, winG_snoc, List.length_take, Nat.min_eq_left (by omega), Int.zero_add]
      · rw [show (st ++ [MO.lst ((winG ts m r 0 ((gapsL row).take j)).map winD)]).set st.length (.lst ((winG ts m r 0 ((gapsL row).take j) ++ winA ts m r j g).map winD)) = st ++ [.lst ((winG ts m r 0 ((gapsL row).take j) ++ winA ts m r j g).map winD)] by simp] at t
        generalize st ++ [MO.lst ((winG ts m r 0 ((gapsL row).take j)).map winD)] = s1 at *
        generalize st ++ [MO.lst ((winG ts m r 0 ((gapsL row).take j) ++ winA ts m r j g).map winD)] = s2 at *
        generalize wiBody = wb at *
        generalize pairD g.1 = p1 at *
        generalize pairD g.2 = p2 at *
        generalize tupI ts = td at *
        generalize bagD row = bd at *
        simp [tgT, Tg.set, Tg.sets, t])
  rw [show (enumL ((gapsL row).map fun g => D.tup [pairD g.1, pairD g.2])).length = (gapsL row).length by simp, List.take_length] at e
  unfold F_windows_in
  have eb : B_windows_in = seqS (asgS (mutE (nilA)) (nameT 4)) (seqS (forS (callI enzF (consA (varE 3) (consA (sliceE (varE 3) (someO (cE (.int 1))) (noO)) (nilA)))) (tgT (.tp [.nm 5, .tp [.nm 6, .nm 7]])) wiBody) (retS (varE 4))) := rfl
  rw [eb]
  generalize enumL ((gapsL row).map fun g => D.tup [pairD g.1, pairD g.2]) = el at *
  generalize (winG ts m r 0 (gapsL row)).map winD = wl at *
  generalize wiBody = wb at *
  generalize bagD (row.drop 1) = bd1 at *
  generalize bagD row = bd at *
  generalize tupI ts = td at *
  simp [runF, en, sl, e]
end
end Lap
namespace Lap
open PySem G
theorem lcG_tF {α : Type} {t : Tg} {tt : EvB} {fe : EvE} {envw : G.Env} {st : Sto} {nxt : Nat → Sto → Option (Option D)} (f h : α → D) (p : α → Bool) : ∀ (as : List α) (i : Nat) (acc : List D), acc.length + as.length ≤ 16777216 → (∀ j, nxt (i + j) st = some ((as.map f)[j]?)) →
    (∀ a ∈ as, ∃ env1, t.set (f a) envw = some env1 ∧ tt env1 st = .ok (p a) st ∧ (p a = true → fe env1 st = .ok (h a) st)) → lcG t tt fe envw nxt as.length i st acc = .ok (acc ++ (as.filter p).map h) st
  | [], i, acc, _, hn, _ => by
    have := hn 0
    simp only [Nat.add_zero, List.map_nil, List.getElem?_nil] at this
    simp [lcG, this]
  | a :: as, i, acc, hl, hn, hx => by
    obtain ⟨env1, h1, ht, h2⟩ := hx a List.mem_cons_self
    simp only [List.length_cons] at hl
    have n0 := hn 0
    simp only [Nat.add_zero, List.map_cons, List.getElem?_cons_zero] at n0
    rw [List.length_cons]
    unfold lcG
    rw [n0]
    simp only
    rw [turnC_if h1 ht h2 (by omega), lcG_tF f h p as (i + 1) _ (by split <;> (try simp only [List.length_append, List.length_cons, List.length_nil]) <;> omega) (fun j => by
      have := hn (j + 1)
      rw [List.map_cons, List.getElem?_cons_succ, show i + (j + 1) = i + 1 + j by omega] at this
      exact this) fun y hy => hx y (List.mem_cons_of_mem _ hy)]
    cases e : p a with
    | false => simp [e]
    | true => simp [e]
def eR : Nat → List (List P2) → List D
  | _, [] => []
  | r, row :: rows => .tup [.int r, bagD row] :: eR (r + 1) rows
theorem eR_eq (rows : List (List P2)) : enumL (rows.map bagD) = eR 0 rows := by
  unfold enumL
  rw [List.length_map, List.range_eq_range']
  generalize 0 = r
  induction rows generalizing r with
  | nil => rfl
  | cons row rows ih =>
    rw [List.length_cons, List.range'_succ, List.map_cons, List.zipWith_cons_cons, ih]; rfl
abbrev rowsF (t0 : Int) (bs : List (List P2)) : List (List P2) := bs.map (fullL t0)
theorem f_full_rows_of {ts : List Int} {t0 : Int} {bs : List (List P2)} (h : RaceOk ts t0 bs) (st : Sto) : F_full_rows_of [raceD t0 bs] st = .ok (.lst ((rowsF t0 bs).map bagD)) st := by
  have n6 := h.n6
  have e := lc_typed (t := .nm 1) (fe := callE F_full_row_by (consA (varE 0) (consA (varE 1) (nilA)))) (envw := [some (raceD t0 bs), none]) (st := st) (fun (i : Nat) => D.int (0 + i)) (fun i => bagD (fullL t0 (bs.getD i []))) (List.range bs.length) [] (by simp; omega) (by
    intro i hi
    have hi := List.mem_range.mp hi
    have f := f_full_row_by st (t0 := t0) hi (h.bag _ (List.getElem_mem hi)).1
    refine ⟨[some (raceD t0 bs), some (.int (0 + i))], by simp, ?_⟩
    rw [List.getD_eq_getElem?_getD, List.getElem?_eq_getElem hi, Option.getD_some]
    generalize raceD t0 bs = rd at *
    simp [f])
  rw [List.nil_append, show (List.range bs.length).map (fun (i : Nat) => D.int (0 + i)) = rangeD 0 bs.length from rfl] at e
  have e2 : (List.range bs.length).map (fun i => bagD (fullL t0 (bs.getD i []))) = (rowsF t0 bs).map bagD := by
    unfold rowsF
    rw [List.map_map]
    apply List.ext_getElem?
    intro i
    rw [List.getElem?_map, List.getElem?_map]
    by_cases hi : i < bs.length
    · rw [List.getElem?_range hi, List.getElem?_eq_getElem hi]
      simp [List.getD_eq_getElem?_getD, List.getElem?_eq_getElem hi]
    · rw [List.getElem?_eq_none (by simp; omega), List.getElem?_eq_none (by omega)]; rfl
  rw [e2] at e
  have x1 := ix_race1 st t0 bs
  have ll : lenF [.tup (bs.map bagD)] st = .ok (.int bs.length) st := by simp
  have rg : range1F [.int (bs.length : Nat)] st = .ok (.frz (rangeD 0 bs.length)) st := by
    have : bs.length < 4611686018427387904 := by omega
    simp [this]
  generalize (rowsF t0 bs).map bagD = rl at *
  generalize raceD t0 bs = rd at *
  generalize D.tup (bs.map bagD) = bd at *
  generalize rangeD 0 bs.length = rr at *
  generalize (bs.length : Int) = bl at *
  simp [-range1F_eq, F_full_rows_of, runF, B_full_rows_of, x1, ll, rg, e]
theorem wb_rows {ts : List Int} (hT : Trk ts) (hs : ts.sum.natAbs < big) {m : Nat} (hm : m < ts.length) (d1 : D) (o3 o4 o5 : Option D) : ∀ (rows : List (List P2)) (r : Nat) (st : Sto) (acc : List D), (∀ row ∈ rows, row.length ≤ 31 ∧ ∀ p ∈ row, MatOk ts p) → acc.length + 40 * rows.length ≤ 16777216 →
    ∃ ex, lc2JF (.tp [.nm 3, .nm 4]) yesB (iterE (callE F_windows_in (consA (varE 0) (consA (varE 2) (consA (varE 3) (consA (varE 4) (nilA))))))) (.nm 5) yesB (varE 5) [5] [some (tupI ts), some d1, some (.int m), o3, o4, o5] (eR r rows) st acc = .ok (acc ++ (winR ts m r rows).map winD) (st ++ ex)
  | [], r, st, acc, _, _ => ⟨[], by simp [eR, lc2JF, winR]⟩
  | row :: rows, r, st, acc, h, hl => by
    obtain ⟨h1, h2⟩ := h row List.mem_cons_self
    have wi := f_windows_in hT hs hm r h2 h1 st
    have hg := gaps_len row
    have hw := winG_len (ts := ts) (m := m) (r := r) (gapsL row) 0
    simp only [List.length_cons] at hl
    have lg := lcG_tF (t := .nm 5) (tt := yesB) (fe := varE 5) (envw := [some (tupI ts), some d1, some (.int m), some (.int r), some (bagD row), none]) (st := st ++ [.lst ((winG ts m r 0 (gapsL row)).map winD)]) (nxt := mutNxt st.length) winD winD (fun _ => true) (winG ts m r 0 (gapsL row)) 0 acc (by omega)
      (fun j => by unfold mutNxt; simp) (fun a _ => ⟨[some (tupI ts), some d1, some (.int m), some (.int r), some (bagD row), some (winD a)], by simp, rfl, fun _ => by simp⟩)
    rw [List.filter_eq_self.mpr (fun _ _ => rfl)] at lg
    obtain ⟨ex, ih⟩ := wb_rows hT hs hm d1 o3 o4 o5 rows (r + 1) (st ++ [.lst ((winG ts m r 0 (gapsL row)).map winD)]) (acc ++ (winG ts m r 0 (gapsL row)).map winD) (fun x hx => h x (List.mem_cons_of_mem _ hx)) (by rw [List.length_append, List.length_map]; omega)
    refine ⟨.lst ((winG ts m r 0 (gapsL row)).map winD) :: ex, ?_⟩
    have it : iterE (callE F_windows_in (consA (varE 0) (consA (varE 2) (consA (varE 3) (consA (varE 4) (nilA)))))) [some (tupI ts), some d1, some (.int m), some (.int r), some (bagD row), o5] st = .ok (.gen (mutNxt st.length) (winG ts m r 0 (gapsL row)).length) (st ++ [.lst ((winG ts m r 0 (gapsL row)).map winD)]) := by
      generalize (winG ts m r 0 (gapsL row)) = wl at *
      generalize tupI ts = td at *
      generalize bagD row = bd at *
      simp [iterE, iterD, wi]
    unfold eR lc2JF
    rw [show Tg.set (.tp [.nm 3, .nm 4]) (D.tup [D.int (r : Nat), bagD row]) [some (tupI ts), some d1, some (.int m), o3, o4, o5] = some [some (tupI ts), some d1, some (.int m), some (.int r), some (bagD row), o5] by simp [Tg.set, Tg.sets]]
    simp only
    rw [show yesB [some (tupI ts), some d1, some (.int m), some (.int r), some (bagD row), o5] st = .ok true st from rfl]
    simp only [noX, R.bind, if_true, it]
    rw [show wipeE [some (tupI ts), some d1, some (.int m), some (.int r), some (bagD row), o5] [5] = [some (tupI ts), some d1, some (.int m), some (.int r), some (bagD row), none] from rfl, lg]
    simp only
    rw [ih, List.append_assoc, List.append_assoc, ← List.map_append]
    rfl
theorem f_windows_by {ts : List Int} (hT : Trk ts) (hs : ts.sum.natAbs < big) {t0 : Int} {bs : List (List P2)} (h : RaceOk ts t0 bs) {m : Nat} (hm : m < ts.length) (st : Sto) :
    ∃ ex, F_windows_by [tupI ts, raceD t0 bs, .int m] st = .ok (.lst ((winR ts m 0 (rowsF t0 bs)).map winD)) (st ++ ex) := by
  have n6 := h.n6
  obtain ⟨ex, e⟩ := wb_rows hT hs hm (raceD t0 bs) none none none (rowsF t0 bs) 0 st [] (fun row hr => by
    obtain ⟨b, hb, rfl⟩ := List.mem_map.mp hr
    exact ⟨(h.row b hb).n, (h.row b hb).ok.ok⟩) (by simp; omega)
  refine ⟨ex, ?_⟩
  have fr := f_full_rows_of h st
  have en : enumF [.lst ((rowsF t0 bs).map bagD)] st = .ok (.frz (eR 0 (rowsF t0 bs))) st := by rw [enumF_lst, eR_eq]
  rw [List.nil_append] at e
  have e : lc2JF (.tp [.nm 3, .nm 4]) yesB (iterE (callE F_windows_in (consA (varE 0) (consA (varE 2) (consA (varE 3) (consA (varE 4) (nilA))))))) (.nm 5) yesB (varE 5) [5] [some (tupI ts), some (raceD t0 bs), some (.int m), none, none, none] (eR 0 (rowsF t0 bs)) st [] = .ok ((winR ts m 0 (rowsF t0 bs)).map winD) (st ++ ex) := e
  generalize eR 0 (rowsF t0 bs) = er at *
  generalize (winR ts m 0 (rowsF t0 bs)).map winD = wl at *
  generalize (rowsF t0 bs).map bagD = rl at *
  generalize raceD t0 bs = rd at *
  generalize tupI ts = td at *
  simp [F_windows_by, runF, B_windows_by, lc2JE, lc2JL, fr, en, wipeE]
  simp [e, R.bind]
end Lap
namespace Lap
open PySem G
def kvI (ks : List Int) : List (L2.Key × D) := ks.map fun t => (.inl t, .bl true)
def addI (ks : List Int) (t : Int) : List Int := if t ∈ ks then ks else ks ++ [t]
theorem kvI_put (ks : List Int) (t : Int) : vPut (kvI ks) (.inl t) (.bl true) = kvI (addI ks t) := by
  have hm : ((kvI ks).any fun kv => decide (kv.1 = (.inl t : L2.Key))) = true ↔ t ∈ ks := by
    unfold kvI
    rw [List.any_map, List.any_eq_true]
    constructor
    · rintro ⟨x, hx, h⟩
      have h : (Sum.inl x : L2.Key) = .inl t := of_decide_eq_true h
      injection h with h
      rwa [← h]
    · intro h
      exact ⟨t, h, by simp⟩
  unfold vPut addI
  by_cases h : t ∈ ks
  · rw [if_pos (hm.mpr h), if_pos h]
    unfold kvI
    rw [List.map_map]
    apply List.map_congr_left
    intro x _
    show (if (Sum.inl x : L2.Key) = .inl t then ((Sum.inl x : L2.Key), D.bl true) else (.inl x, D.bl true)) = _
    split <;> rfl
  · rw [if_neg (fun z => h (hm.mp z)), if_neg h]
    unfold kvI
    rw [List.map_append]; rfl
theorem addI_len (ks : List Int) (t : Int) : (addI ks t).length ≤ ks.length + 1 := by unfold addI; split <;> simp
def timeL (m : Int) (row : List P2) : List Int := (row.filter fun p => decide (p.2 = m)).map (·.1)
def addL (m : Int) (acc : List Int) (row : List P2) : List Int := (timeL m row).foldl addI acc
theorem addL_nil (m : Int) (acc : List Int) : addL m acc [] = acc := rfl
theorem addL_cons (m : Int) (acc : List Int) (p : P2) (row : List P2) : addL m acc (p :: row) = addL m (if p.2 = m then addI acc p.1 else acc) row := by
  unfold addL timeL
  rw [List.filter_cons]
  by_cases h : p.2 = m <;> simp [h]
theorem addL_len (m : Int) : ∀ (row : List P2) (acc : List Int), (addL m acc row).length ≤ acc.length + row.length
  | [], acc => by simp [addL_nil]
  | p :: row, acc => by
    rw [addL_cons]
    have := addL_len m row (if p.2 = m then addI acc p.1 else acc)
    have h2 := addI_len acc p.1
    rw [List.length_cons]
    split at this <;> rename_i c <;> simp only [c, if_true, if_false] <;> omega
def addR (m : Int) (acc : List Int) (rows : List (List P2)) : List Int := rows.foldl (addL m) acc
theorem addR_len (m : Int) (k : Nat) : ∀ (rows : List (List P2)) (acc : List Int), (∀ r ∈ rows, r.length ≤ k) → (addR m acc rows).length ≤ acc.length + k * rows.length
  | [], acc, _ => by simp [addR]
  | row :: rows, acc, h => by
    have h1 := addR_len m k rows (addL m acc row) fun r hr => h r (List.mem_cons_of_mem _ hr)
    have h2 := addL_len m row acc
    have h3 := h row List.mem_cons_self
    show (addR m (addL m acc row) rows).length ≤ _
    rw [List.length_cons, Nat.mul_add]
    omega
theorem keysI_kvI (ks : List Int) : keysI ((kvI ks).map (·.1)) = some ks := by
  induction ks with
  | nil => rfl
  | cons t ks ih =>
    show (keysI ((kvI ks).map (·.1))).map (t :: ·) = _
    rw [ih]; rfl
def markT (m : Int) (rows : List (List P2)) : List Int := srtI (addR m [] rows)
theorem markT_len (m : Int) (k : Nat) (rows : List (List P2)) (h : ∀ r ∈ rows, r.length ≤ k) : (markT m rows).length ≤ k * rows.length := by
  unfold markT
  rw [(srtI_perm _).length_eq]
  simpa using addR_len m k rows [] h
theorem dc_row (m : Int) (d0 : D) (o2 : Option D) (B : Sto) : ∀ (row : List P2) (acc : List Int), acc.length + row.length ≤ 1000 →
    dcF (.nm 3) (tstE (binE eqD (binE ixD (varE 3) (cE (.int 1))) (varE 1))) (binE ixD (varE 3) (cE (.int 0))) (cE (.bl true)) [some d0, some (.int m), o2, none] B.length (row.map pairD) (B ++ [.dd (kvI acc)]) = .ok () (B ++ [.dd (kvI (addL m acc row))])
  | [], acc, _ => rfl
  | p :: row, acc, hl => by
    simp only [List.length_cons] at hl
    have e1 : ixD (pairD p) (.int 1) (B ++ [.dd (kvI acc)]) = .ok (.int p.2) (B ++ [.dd (kvI acc)]) := ixD_tup _ _ _ rfl
    have e0 : ixD (pairD p) (.int 0) (B ++ [.dd (kvI acc)]) = .ok (.int p.1) (B ++ [.dd (kvI acc)]) := ixD_tup _ _ _ rfl
    have hp : putK1 B.length (.int p.1) (.bl true) (B ++ [.dd (kvI acc)]) = some (B ++ [.dd (kvI (addI acc p.1))]) := by
      have hh : (kvI acc).length < 16777216 := by unfold kvI; rw [List.length_map]; omega
      unfold putK1
      rw [List.getElem?_concat_length]
      simp only [keyOf, hh, if_true, kvI_put]
      simp
    have ht : tstE (binE eqD (binE ixD (varE 3) (cE (.int 1))) (varE 1)) [some d0, some (.int m), o2, some (pairD p)] (B ++ [.dd (kvI acc)]) = .ok (decide (p.2 = m)) (B ++ [.dd (kvI acc)]) := by
      generalize pairD p = pd at *
      simp [e1]
    have hk : binE ixD (varE 3) (cE (.int 0)) [some d0, some (.int m), o2, some (pairD p)] (B ++ [.dd (kvI acc)]) = .ok (.int p.1) (B ++ [.dd (kvI acc)]) := by
      generalize pairD p = pd at *
      simp [e0]
    have ih := dc_row m d0 o2 B row (if p.2 = m then addI acc p.1 else acc) (by have := addI_len acc p.1; split <;> omega)
    rw [List.map_cons, addL_cons]
    unfold dcF turnD
    rw [show Tg.set (.nm 3) (pairD p) [some d0, some (.int m), o2, none] = some [some d0, some (.int m), o2, some (pairD p)] from rfl]
    simp only
    rw [ht]
    simp only [noX, R.bind]
    by_cases c : p.2 = m
    · rw [if_pos c] at ih ⊢
      rw [decide_eq_true c, if_pos rfl, hk]
      simp only
      rw [show cE (.bl true) [some d0, some (.int m), o2, some (pairD p)] (B ++ [.dd (kvI acc)]) = .ok (.bl true) (B ++ [.dd (kvI acc)]) from rfl]
      simp only
      rw [hp]
      exact ih
    · rw [if_neg c] at ih ⊢
      rw [decide_eq_false c, if_neg (by decide)]
      exact ih
theorem dc_rows (m : Int) (d0 : D) (o2 o3 : Option D) (B : Sto) : ∀ (rows : List (List P2)) (acc : List Int), (∀ r ∈ rows, r.length ≤ 31) → acc.length + 31 * rows.length ≤ 1000 →
    dc2F (.nm 2) yesB (iterE (varE 2)) (.nm 3) (tstE (binE eqD (binE ixD (varE 3) (cE (.int 1))) (varE 1))) (binE ixD (varE 3) (cE (.int 0))) (cE (.bl true)) [3] [some d0, some (.int m), o2, o3] B.length (rows.map bagD) (B ++ [.dd (kvI acc)]) = .ok () (B ++ [.dd (kvI (addR m acc rows))])
  | [], acc, _, _ => rfl
  | row :: rows, acc, h, hl => by
    have h1 := h row List.mem_cons_self
    simp only [List.length_cons] at hl
    have e := dc_row m d0 (some (bagD row)) B row acc (by omega)
    have ih := dc_rows m d0 o2 o3 B rows (addL m acc row) (fun r hr => h r (List.mem_cons_of_mem _ hr)) (by have := addL_len m row acc; omega)
    rw [List.map_cons]
    unfold dc2F
    rw [show Tg.set (.nm 2) (bagD row) [some d0, some (.int m), o2, o3] = some [some d0, some (.int m), some (bagD row), o3] from rfl]
    simp only
    rw [show yesB [some d0, some (.int m), some (bagD row), o3] (B ++ [.dd (kvI acc)]) = .ok true (B ++ [.dd (kvI acc)]) from rfl]
    simp only [noX, R.bind, if_true]
    rw [show iterE (varE 2) [some d0, some (.int m), some (bagD row), o3] (B ++ [.dd (kvI acc)]) = .ok (.frz (row.map pairD)) (B ++ [.dd (kvI acc)]) from rfl]
    simp only
    rw [show wipeE [some d0, some (.int m), some (bagD row), o3] [3] = [some d0, some (.int m), some (bagD row), none] from rfl, e]
    exact ih
theorem sortD_at {st : Sto} {n : Nat} {ks : List Int} (h : st[n]? = some (.dd (kvI ks))) : sortDF [.mut n] st = .ok (.lst ((srtI ks).map D.int)) st := by
  unfold sortDF
  simp only [h, keysI_kvI]
theorem rowsF_len {ts : List Int} {t0 : Int} {bs : List (List P2)} (h : RaceOk ts t0 bs) : ∀ r ∈ rowsF t0 bs, r.length ≤ 31 := fun r hr => by
  obtain ⟨b, hb, rfl⟩ := List.mem_map.mp hr
  exact (h.row b hb).n
theorem f_marked_times {ts : List Int} {t0 : Int} {bs : List (List P2)} (h : RaceOk ts t0 bs) (m : Int) (st : Sto) :
    ∃ ex, F_marked_times [raceD t0 bs, .int m] st = .ok (.lst ((markT m (rowsF t0 bs)).map D.int)) (st ++ ex) := by
  have n6 := h.n6
  have fr := f_full_rows_of h st
  have e := dc_rows m (raceD t0 bs) none none st (rowsF t0 bs) [] (rowsF_len h) (by simp; omega)
  have sd := sortD_at (st := st ++ [.dd (kvI (addR m [] (rowsF t0 bs)))]) (n := st.length) (ks := addR m [] (rowsF t0 bs)) (by simp)
  refine ⟨[.dd (kvI (addR m [] (rowsF t0 bs)))], ?_⟩
  have e : dc2F (.nm 2) yesB (iterE (varE 2)) (.nm 3) (tstE (binE eqD (binE ixD (varE 3) (cE (.int 1))) (varE 1))) (binE ixD (varE 3) (cE (.int 0))) (cE (.bl true)) [3] [some (raceD t0 bs), some (.int m), none, none] st.length ((rowsF t0 bs).map bagD) (st ++ [.dd []]) = .ok () (st ++ [.dd (kvI (addR m [] (rowsF t0 bs)))]) := e
  unfold markT
  generalize addR m [] (rowsF t0 bs) = ks at *
  generalize (rowsF t0 bs).map bagD = rl at *
  generalize raceD t0 bs = rd at *
  simp [F_marked_times, runF, B_marked_times, dc2E, fr, wipeE, iterE, iterD, itemsOf]
  simp [e, sd]
end Lap
namespace Lap
open PySem G
def StD (d : D) (st : Sto) (xs : List D) : Prop := d = .lst xs ∨ ∃ n, d = .mut n ∧ st[n]? = some (.lst xs)
theorem StD.app {d : D} {st : Sto} {xs : List D} (h : StD d st xs) (ex : Sto) : StD d (st ++ ex) xs := by
  rcases h with h | ⟨n, h, e⟩
  · exact .inl h
  · refine .inr ⟨n, h, ?_⟩
    rw [List.getElem?_append_left (List.getElem?_eq_some_iff.mp e).1]; exact e
theorem StD.ix {d : D} {st : Sto} {Q : List P2} (h : StD d st (Q.map pairD)) {i : Nat} (hi : i < Q.length) : ixD d (.int i) st = .ok (pairD (Q.getD i (0, 0))) st := by
  have a : L2.atI (Q.map pairD) (i : Int) = some (pairD (Q.getD i (0, 0))) := by
    rw [atI_nat' _ _ (by rw [List.length_map]; exact hi), List.getElem_map, List.getD_eq_getElem?_getD, List.getElem?_eq_getElem hi]; rfl
  rcases h with rfl | ⟨n, rfl, e⟩
  · exact ixD_lst _ _ _ a
  · exact ixD_mut n _ _ _ e a
def frBody : SvS := seqS (ifS (tstE (binE ltD (varE 3) (varE 4))) (exprS (methLE appF (varE 2) (consA (tupE (consA (varE 3) (consA (binE subD (varE 4) (cE (.int 1))) (nilA)))) (nilA)))) (passS)) (asgS (binE addD (varE 4) (cE (.int 1))) (nameT 3))
theorem fr_turn {q : Nat} {acc : List P2} {s : Sto} (hat : s[q]? = some (.lst (acc.map pairD))) (hl : acc.length < 100000) (o0 o1 : Option D) (here t : Int) :
    frBody [o0, o1, some (.mut q), some (.int here), some (.int t)] s = .nx [o0, o1, some (.mut q), some (.int (t + 1)), some (.int t)] (s.set q (.lst ((acc ++ (if here < t then [(here, t - 1)] else [])).map pairD))) := by
  have il := isL_mut hat
  by_cases c : here < t
  · rw [if_pos c]
    have ap := app_mut (pairD (here, t - 1)) hat (by rw [List.length_map]; omega)
    rw [show acc.map pairD ++ [pairD (here, t - 1)] = (acc ++ [(here, t - 1)]).map pairD by simp] at ap
    rw [show pairD (here, t - 1) = D.tup [.int here, .int (t - 1)] from rfl] at ap
    generalize (acc ++ [(here, t - 1)]).map pairD = l2 at *
    simp [frBody, c, il, ap]
  · rw [if_neg c, List.append_nil]
    have same : s.set q (.lst (acc.map pairD)) = s := by
      obtain ⟨h1, h2⟩ := List.getElem?_eq_some_iff.mp hat
      rw [← h2]; exact List.set_getElem_self h1
    rw [same]
    simp [frBody, c]
theorem fr_loop {last : Int} (o0 o1 o4 : Option D) (B : Sto) (ts : List Int) (h1 : ts.length ≤ 1000) (here : Int) :
    ∃ (here' : Int) (acc : List P2) (o4' : Option D), loopF (tgT (.nm 4)) frBody (ts.map D.int) [o0, o1, some (.mut B.length), some (.int here), o4] (B ++ [.lst []]) = .nx [o0, o1, some (.mut B.length), some (.int here'), o4'] (B ++ [.lst (acc.map pairD)]) ∧
      acc ++ (if here' ≤ last then [(here', last)] else []) = frL last here ts ∧ acc.length ≤ ts.length := by
  obtain ⟨env', s', e, here', acc, o4', rfl, rfl, hf, hl⟩ := loop_nx (g := tgT (.nm 4)) (body := frBody)
    (fun j env s => ∃ (here' : Int) (acc : List P2) (o4' : Option D), env = [o0, o1, some (.mut B.length), some (.int here'), o4'] ∧ s = B ++ [.lst (acc.map pairD)] ∧ acc ++ frL last here' (ts.drop j) = frL last here ts ∧ acc.length ≤ j)
    (xs := ts.map D.int) (env := [o0, o1, some (.mut B.length), some (.int here), o4]) (st := B ++ [.lst []]) ⟨here, [], o4, rfl, rfl, rfl, Nat.le_refl _⟩
    (by
      rintro j x env s hx ⟨here', acc, o4', rfl, rfl, hf, hl⟩
      rw [List.getElem?_map] at hx
      obtain ⟨t, ht, rfl⟩ := Option.map_eq_some_iff.mp hx
      obtain ⟨hj, et⟩ := List.getElem?_eq_some_iff.mp ht
      have tu := fr_turn (q := B.length) (acc := acc) (s := B ++ [.lst (acc.map pairD)]) (by simp) (by omega) o0 o1 here' t
      refine ⟨[o0, o1, some (.mut B.length), some (.int (t + 1)), some (.int t)], B ++ [.lst ((acc ++ (if here' < t then [(here', t - 1)] else [])).map pairD)], ?_, t + 1, _, _, rfl, rfl, ?_, ?_⟩
      · rw [show (B ++ [MO.lst (acc.map pairD)]).set B.length (.lst ((acc ++ (if here' < t then [(here', t - 1)] else [])).map pairD)) = B ++ [.lst ((acc ++ (if here' < t then [(here', t - 1)] else [])).map pairD)] by simp] at tu
        generalize B ++ [MO.lst ((acc ++ (if here' < t then [(here', t - 1)] else [])).map pairD)] = s2 at *
        generalize B ++ [MO.lst (acc.map pairD)] = s1 at *
        generalize frBody = fb at *
        simp [tu]
      · rw [List.drop_eq_getElem_cons hj, et] at hf
        rw [← hf]
        conv => rhs; rw [frL]
        rw [List.append_assoc]
      · rw [List.length_append]; split <;> simp <;> omega)
  refine ⟨here', acc, o4', e, ?_, by simpa using hl⟩
  rw [List.length_map, List.drop_length] at hf
  exact hf
theorem f_quiet (times : List Int) (hl : times.length ≤ 1000) (last : Int) (st : Sto) :
    ∃ d ex, F_quiet_stretches [.lst (times.map D.int), .int last] st = .ok d (st ++ ex) ∧ StD d (st ++ ex) ((quietL last times).map pairD) := by
  have lc := fun s : Sto => lc_typedF (t := .nm 4) (tt := tstE (binE leD (varE 4) (varE 1))) (fe := varE 4) (st := s) (fun t : Int => D.int t) (fun t => D.int t) (fun t => decide (t ≤ last)) times [] (by simp; omega) (envw := [some (.lst (times.map D.int)), some (.int last), some (.mut st.length), some (.int 0), none]) (fun a _ => ⟨[some (.lst (times.map D.int)), some (.int last), some (.mut st.length), some (.int 0), some (.int a)], by simp, by simp, fun _ => by simp⟩)
  obtain ⟨here', acc, o4', e, hf, hla⟩ := fr_loop (last := last) (some (.lst (times.map D.int))) (some (.int last)) none st (times.filter fun t => decide (t ≤ last)) (Nat.le_trans (List.length_filter_le _ _) hl) 0
  have hla2 := Nat.le_trans hla (List.length_filter_le _ _)
  unfold quietL
  rw [← hf]
  have p23 : ∀ (env : G.Env) (st : Sto), parS 2 3 (consA (mutE (nilA)) (consA (cE (.int 0)) (nilA))) [some (.lst (times.map D.int)), some (.int last), none, none, none] st = .nx [some (.lst (times.map D.int)), some (.int last), some (.mut st.length), some (.int 0), none] (st ++ [.lst []]) := fun _ _ => by simp [parS]
  have eb : B_quiet_stretches = seqS (parS 2 3 (consA (mutE (nilA)) (consA (cE (.int 0)) (nilA)))) (seqS (forS (iterE (lcE (iterE (varE 0)) (.nm 4) (tstE (binE leD (varE 4) (varE 1))) (varE 4) [4])) (tgT (.nm 4)) frBody) (retS (ifE (tstE (binE leD (varE 3) (varE 1))) (binE addD (varE 2) (lstE (consA (tupE (consA (varE 3) (consA (varE 1) (nilA)))) (nilA)))) (varE 2)))) := rfl
  have lc2 := lc (st ++ [.lst []])
  rw [List.nil_append] at lc2
  have lce : lcE (iterE (varE 0)) (.nm 4) (tstE (binE leD (varE 4) (varE 1))) (varE 4) [4] [some (.lst (times.map D.int)), some (.int last), some (.mut st.length), some (.int 0), none] (st ++ [.lst []]) = .ok (.lst ((times.filter fun t => decide (t ≤ last)).map D.int)) (st ++ [.lst []]) := by
    generalize (times.filter fun t => decide (t ≤ last)).map (fun t => D.int t) = fl at *
    generalize st ++ [MO.lst []] = s1 at *
    simp [lc2]
  by_cases c : here' ≤ last
  · rw [if_pos c]
    refine ⟨.lst ((acc ++ [(here', last)]).map pairD), [.lst (acc.map pairD)], ?_, .inl rfl⟩
    have ad : addD (.mut st.length) (.lst [.tup [.int here', .int last]]) (st ++ [.lst (acc.map pairD)]) = .ok (.lst ((acc ++ [(here', last)]).map pairD)) (st ++ [.lst (acc.map pairD)]) := by
      unfold addD
      simp only [List.getElem?_concat_length]
      rw [if_pos (by rw [List.length_map]; simp; omega), List.map_append]; rfl
    unfold F_quiet_stretches
    rw [eb]
    generalize (acc ++ [(here', last)]).map pairD = fin at *
    generalize st ++ [MO.lst (acc.map pairD)] = s2 at *
    generalize (times.filter fun t => decide (t ≤ last)).map D.int = fl at *
    generalize frBody = fb at *
    simp [-lcE_eq, runF, p23, lce, e, c, ad]
  · rw [if_neg c, List.append_nil]
    refine ⟨.mut st.length, [.lst (acc.map pairD)], ?_, .inr ⟨_, rfl, by simp⟩⟩
    unfold F_quiet_stretches
    rw [eb]
    generalize st ++ [MO.lst (acc.map pairD)] = s2 at *
    generalize (times.filter fun t => decide (t ≤ last)).map D.int = fl at *
    generalize frBody = fb at *
    simp [-lcE_eq, runF, p23, lce, e, c]
end Lap
namespace Lap
open PySem G
def sharedL (Q : List P2) (w : Wd) : List Nat := (List.range Q.length).filter fun i => shB w.2.2.1 w.2.2.2 (Q.getD i (0, 0))
theorem f_do_share (p : P2) (lo hi : Int) (st : Sto) : F_do_share [pairD p, .tup [.int lo, .int hi]] st = .ok (.bl (shB lo hi p)) st := by
  obtain ⟨a, b⟩ := p
  have e0 : ixD (pairD (a, b)) (.int 0) st = .ok (.int a) st := ixD_tup _ _ _ rfl
  have e1 : ixD (pairD (a, b)) (.int 1) st = .ok (.int b) st := ixD_tup _ _ _ rfl
  have e2 : ixD (.tup [.int lo, .int hi]) (.int 0) st = .ok (.int lo) st := ixD_tup _ _ _ rfl
  have e3 : ixD (.tup [.int lo, .int hi]) (.int 1) st = .ok (.int hi) st := ixD_tup _ _ _ rfl
  unfold shB
  generalize pairD (a, b) = pd at *
  generalize D.tup [.int lo, .int hi] = ld at *
  simp [F_do_share, runF, B_do_share, e0, e1, e2, e3]
theorem win_ix (w : Wd) (st : Sto) : ixD (winD w) (.int 2) st = .ok (.int w.2.2.1) st ∧ ixD (winD w) (.int 3) st = .ok (.int w.2.2.2) st := ⟨ixD_tup _ _ _ rfl, ixD_tup _ _ _ rfl⟩
theorem f_shared_by {d : D} {st : Sto} {Q : List P2} (h : StD d st (Q.map pairD)) (hl : Q.length ≤ 1000) (w : Wd) : F_shared_by [d, winD w] st = .ok (natsD (sharedL Q w)) st := by
  obtain ⟨w2, w3⟩ := win_ix w st
  have hx : ∀ i ∈ List.range Q.length, ∃ env1, Tg.set (.tp [.nm 2, .nm 3]) ((fun (i : Nat) => D.tup [.int i, pairD (Q.getD i (0, 0))]) i) [some d, some (winD w), none, none] = some env1 ∧
      tstE (callE F_do_share (consA (varE 3) (consA (tupE (consA (binE ixD (varE 1) (cE (.int 2))) (consA (binE ixD (varE 1) (cE (.int 3))) (nilA)))) (nilA)))) env1 st = .ok ((fun i => shB w.2.2.1 w.2.2.2 (Q.getD i (0, 0))) i) st ∧ ((fun i => shB w.2.2.1 w.2.2.2 (Q.getD i (0, 0))) i = true → varE 2 env1 st = .ok ((fun (i : Nat) => D.int i) i) st) := fun i _ => by
    have f := f_do_share (Q.getD i (0, 0)) w.2.2.1 w.2.2.2 st
    refine ⟨[some d, some (winD w), some (.int i), some (pairD (Q.getD i (0, 0)))], by simp [Tg.set, Tg.sets], ?_, fun _ => by simp⟩
    show tstE _ _ _ = .ok (shB w.2.2.1 w.2.2.2 (Q.getD i (0, 0))) st
    generalize shB w.2.2.1 w.2.2.2 (Q.getD i (0, 0)) = b at *
    generalize pairD (Q.getD i (0, 0)) = pd at *
    generalize winD w = wd at *
    generalize w.2.2.1 = x at *
    generalize w.2.2.2 = y at *
    simp [w2, w3, f]
  have en : enumL (Q.map pairD) = (List.range Q.length).map fun (i : Nat) => D.tup [.int i, pairD (Q.getD i (0, 0))] := enumL_typed pairD (0, 0) Q
  rcases h with rfl | ⟨n, rfl, hn⟩
  · have e := lc_typedF (fun (i : Nat) => D.tup [.int i, pairD (Q.getD i (0, 0))]) (fun (i : Nat) => D.int i) (fun i => shB w.2.2.1 w.2.2.2 (Q.getD i (0, 0))) (List.range Q.length) [] (by simp; omega) hx
    rw [← en, List.nil_append] at e
    have e : lcF (.tp [.nm 2, .nm 3]) (tstE (callE F_do_share (consA (varE 3) (consA (tupE (consA (binE ixD (varE 1) (cE (.int 2))) (consA (binE ixD (varE 1) (cE (.int 3))) (nilA)))) (nilA))))) (varE 2) [some (.lst (Q.map pairD)), some (winD w), none, none] (enumL (Q.map pairD)) st [] = .ok ((sharedL Q w).map fun (i : Nat) => D.int i) st := e
    have ef : enumF [.lst (Q.map pairD)] st = .ok (.frz (enumL (Q.map pairD))) st := rfl
    unfold natsD
    generalize (sharedL Q w).map (fun (i : Nat) => D.int i) = sl at *
    generalize enumL (Q.map pairD) = el at *
    generalize D.lst (Q.map pairD) = ql at *
    generalize winD w = wd at *
    simp [-lcE_eq, F_shared_by, runF, B_shared_by, lcE, lcL, ef, wipeE]
    simp [e, R.bind]
  · have e := lcG_tF (nxt := enumNxt n) (fun (i : Nat) => D.tup [.int i, pairD (Q.getD i (0, 0))]) (fun (i : Nat) => D.int i) (fun i => shB w.2.2.1 w.2.2.2 (Q.getD i (0, 0))) (List.range Q.length) 0 [] (by simp; omega) (fun j => by
      unfold enumNxt
      rw [hn]
      simp only [Nat.zero_add]
      congr 1
      rw [List.getElem?_map, List.getElem?_map]
      by_cases hj : j < Q.length
      · rw [List.getElem?_range hj, List.getElem?_eq_getElem hj]
        simp [List.getD_eq_getElem?_getD, List.getElem?_eq_getElem hj]
      · rw [List.getElem?_eq_none (by omega), List.getElem?_eq_none (by simp; omega)]; rfl) hx
    rw [List.nil_append, List.length_range] at e
    have e : lcG (.tp [.nm 2, .nm 3]) (tstE (callE F_do_share (consA (varE 3) (consA (tupE (consA (binE ixD (varE 1) (cE (.int 2))) (consA (binE ixD (varE 1) (cE (.int 3))) (nilA)))) (nilA))))) (varE 2) [some (.mut n), some (winD w), none, none] (enumNxt n) Q.length 0 st [] = .ok ((sharedL Q w).map fun (i : Nat) => D.int i) st := e
    have ef : enumF [.mut n] st = .ok (.gen (enumNxt n) Q.length) st := by
      unfold enumF
      simp only [hn, List.length_map]
    unfold natsD
    generalize (sharedL Q w).map (fun (i : Nat) => D.int i) = sl at *
    generalize winD w = wd at *
    simp [-lcE_eq, F_shared_by, runF, B_shared_by, lcE, lcL, ef, wipeE]
    simp [e, R.bind]
theorem f_stretches_for {ts : List Int} {t0 : Int} {bs : List (List P2)} (h : RaceOk ts t0 bs) (m : Int) (ws : List Wd) (hw : ws.length ≤ 1000) (st : Sto) :
    ∃ d ex last, F_stretches_for [raceD t0 bs, .int m, .lst (ws.map winD)] st = .ok d (st ++ ex) ∧ StD d (st ++ ex) ((quietL last (markT m (rowsF t0 bs))).map pairD) ∧ ∀ w ∈ ws, w.2.2.2 ≤ last := by
  have n6 := h.n6
  obtain ⟨ex1, e1⟩ := f_marked_times h m st
  have lc := lc_typed (t := .nm 3) (fe := binE ixD (varE 3) (cE (.int 3))) (st := st ++ ex1) winD (fun w : Wd => D.int w.2.2.2) ws [] (by simp; omega) (envw := [some (raceD t0 bs), some (.int m), some (.lst (ws.map winD)), none]) (fun w _ => by
    refine ⟨[some (raceD t0 bs), some (.int m), some (.lst (ws.map winD)), some (winD w)], by simp, ?_⟩
    have := (win_ix w (st ++ ex1)).2
    generalize winD w = wd at *
    simp [this])
  rw [List.nil_append, show ws.map (fun w : Wd => D.int w.2.2.2) = (ws.map fun w : Wd => w.2.2.2).map D.int by rw [List.map_map]; rfl] at lc
  have ad := add0_lst (ns := ws.map fun w : Wd => w.2.2.2) (st ++ ex1) (by rw [List.length_map]; omega)
  obtain ⟨last, mx, -, hb⟩ := max_lstI (st ++ ex1) (0 :: ws.map fun w : Wd => w.2.2.2) (by simp)
  have ml := markT_len m 31 (rowsF t0 bs) (rowsF_len h)
  rw [List.length_map] at ml
  obtain ⟨d, ex2, e2, hd⟩ := f_quiet (markT m (rowsF t0 bs)) (by omega) last (st ++ ex1)
  refine ⟨d, ex1 ++ ex2, last, ?_, by rw [← List.append_assoc]; exact hd, fun w hw => hb _ (List.mem_cons_of_mem _ (List.mem_map.mpr ⟨w, hw, rfl⟩))⟩
  rw [← List.append_assoc]
  generalize (ws.map fun w : Wd => w.2.2.2).map D.int = wl2 at *
  generalize (0 :: ws.map fun w : Wd => w.2.2.2).map D.int = wl3 at *
  generalize (markT m (rowsF t0 bs)).map D.int = ml at *
  generalize ws.map winD = wl at *
  generalize raceD t0 bs = rd at *
  generalize st ++ ex1 ++ ex2 = s2 at *
  generalize st ++ ex1 = s1 at *
  simp [F_stretches_for, runF, B_stretches_for, e1, lc, ad, mx, e2]
theorem f_shares_of {ts : List Int} (hT : Trk ts) (hs : ts.sum.natAbs < big) {t0 : Int} {bs : List (List P2)} (h : RaceOk ts t0 bs) {m : Nat} (hm : m < ts.length) (st : Sto) :
    ∃ d ex last, F_shares_of [tupI ts, raceD t0 bs, .int m] st = .ok (.tup [d, .lst ((winR ts m 0 (rowsF t0 bs)).map fun w => natsD (sharedL (quietL last (markT m (rowsF t0 bs))) w))]) (st ++ ex) ∧
      StD d (st ++ ex) ((quietL last (markT m (rowsF t0 bs))).map pairD) ∧ (quietL last (markT m (rowsF t0 bs))).length ≤ 1000 ∧ ∀ w ∈ winR ts m 0 (rowsF t0 bs), w.2.2.2 ≤ last := by
  have n6 := h.n6
  obtain ⟨ex1, e1⟩ := f_windows_by hT hs h hm st
  have wl : (winR ts m 0 (rowsF t0 bs)).length ≤ 30 * (rowsF t0 bs).length := winR_len 30 _ _ fun row hr => by
    have := rowsF_len h row hr
    rw [gaps_len]; omega
  rw [List.length_map] at wl
  obtain ⟨d, ex2, last, e2, hd, hw⟩ := f_stretches_for h (m : Int) (winR ts m 0 (rowsF t0 bs)) (by omega) (st ++ ex1)
  have ql : ∀ (l : List Int) (here : Int), (frL last here l).length ≤ l.length + 1 := fun l => by
    induction l with
    | nil => intro here; unfold frL; split <;> simp
    | cons t l ih =>
      intro here
      unfold frL
      have := ih (t + 1)
      rw [List.length_append, List.length_cons]
      split <;> simp <;> omega
  have ml := markT_len (m : Int) 31 (rowsF t0 bs) (rowsF_len h)
  rw [List.length_map] at ml
  have hq : (quietL last (markT m (rowsF t0 bs))).length ≤ 1000 := by
    unfold quietL
    have h1 := ql ((markT m (rowsF t0 bs)).filter fun t => decide (t ≤ last)) 0
    have h2 := List.length_filter_le (fun t => decide (t ≤ last)) (markT m (rowsF t0 bs))
    omega
  refine ⟨d, ex1 ++ ex2, last, ?_, by rw [← List.append_assoc]; exact hd, hq, hw⟩
  have lc := lc_typed (t := .nm 5) (fe := callE F_shared_by (consA (varE 4) (consA (varE 5) (nilA)))) (st := st ++ ex1 ++ ex2) winD (fun w : Wd => natsD (sharedL (quietL last (markT m (rowsF t0 bs))) w)) (winR ts m 0 (rowsF t0 bs)) [] (by simp; omega) (envw := [some (tupI ts), some (raceD t0 bs), some (.int m), some (.lst ((winR ts m 0 (rowsF t0 bs)).map winD)), some d, none]) (fun w _ => by
    refine ⟨[some (tupI ts), some (raceD t0 bs), some (.int m), some (.lst ((winR ts m 0 (rowsF t0 bs)).map winD)), some d, some (winD w)], by simp, ?_⟩
    have := f_shared_by hd hq w
    generalize natsD (sharedL (quietL last (markT m (rowsF t0 bs))) w) = nd at *
    generalize winD w = wd at *
    generalize st ++ ex1 ++ ex2 = s2 at *
    simp [this])
  rw [List.nil_append] at lc
  rw [← List.append_assoc]
  generalize (winR ts m 0 (rowsF t0 bs)).map (fun w : Wd => natsD (sharedL (quietL last (markT m (rowsF t0 bs))) w)) = sl at *
  generalize (winR ts m 0 (rowsF t0 bs)).map winD = wl at *
  generalize raceD t0 bs = rd at *
  generalize tupI ts = td at *
  generalize st ++ ex1 ++ ex2 = s2 at *
  generalize st ++ ex1 = s1 at *
  simp [F_shares_of, runF, B_shares_of, e1, e2, lc]
end Lap
namespace Lap
open PySem G
theorem natsD_lstI (l : List Nat) : natsD l = lstI (l.map fun (j : Nat) => (j : Int)) := by unfold natsD lstI; rw [List.map_map]; rfl
theorem eq_natsD (l : List Nat) (st : Sto) : eqD (natsD l) (.lst []) st = .ok (.bl (decide (l = []))) st := by
  rw [natsD_lstI, eq_lstI_nil]
  cases l <;> rfl
theorem ne_natsD (l : List Nat) (st : Sto) : neD (natsD l) (.lst []) st = .ok (.bl (!decide (l = []))) st := by
  rw [natsD_lstI, ne_lstI_nil]
  cases l <;> rfl
def strayN (ls : List (List Nat)) : List Nat := (List.range ls.length).filter fun i => decide (ls.getD i [] = [])
theorem f_strays_by {ts : List Int} (hT : Trk ts) (hs : ts.sum.natAbs < big) {t0 : Int} {bs : List (List P2)} (h : RaceOk ts t0 bs) {m : Nat} (hm : m < ts.length) (st : Sto) :
    ∃ ex last, F_strays_by [tupI ts, raceD t0 bs, .int m] st = .ok (natsD (strayN ((winR ts m 0 (rowsF t0 bs)).map (sharedL (quietL last (markT m (rowsF t0 bs))))))) (st ++ ex) ∧ ∀ w ∈ winR ts m 0 (rowsF t0 bs), w.2.2.2 ≤ last := by
  obtain ⟨d, ex, last, e1, hd, hq, hw⟩ := f_shares_of hT hs h hm st
  have wl : (winR ts m 0 (rowsF t0 bs)).length ≤ 30 * (rowsF t0 bs).length := winR_len 30 _ _ fun row hr => by
    have := rowsF_len h row hr
    rw [gaps_len]; omega
  have n6 := h.n6
  rw [List.length_map] at wl
  refine ⟨ex, last, ?_, hw⟩
  obtain ⟨ls, hls⟩ : ∃ ls, ls = (winR ts m 0 (rowsF t0 bs)).map (sharedL (quietL last (markT m (rowsF t0 bs)))) := ⟨_, rfl⟩
  have e2 : (winR ts m 0 (rowsF t0 bs)).map (fun w => natsD (sharedL (quietL last (markT m (rowsF t0 bs))) w)) = ls.map natsD := by rw [hls, List.map_map]; rfl
  have hl : ls.length ≤ 1000 := by rw [hls, List.length_map]; omega
  rw [← hls]
  rw [e2] at e1
  have x1 : ixD (.tup [d, .lst (ls.map natsD)]) (.int 1) (st ++ ex) = .ok (.lst (ls.map natsD)) (st ++ ex) := ixD_tup _ _ _ rfl
  have lc := lc_typedF (t := .tp [.nm 3, .nm 4]) (tt := tstE (binE eqD (varE 4) (lstE (nilA)))) (fe := varE 3) (st := st ++ ex) (envw := [some (tupI ts), some (raceD t0 bs), some (.int m), none, none]) (fun (i : Nat) => D.tup [.int i, natsD (ls.getD i [])]) (fun (i : Nat) => D.int i) (fun i => decide (ls.getD i [] = [])) (List.range ls.length) [] (by simp; omega) (fun i _ => by
    have q := eq_natsD (ls.getD i []) (st ++ ex)
    refine ⟨[some (tupI ts), some (raceD t0 bs), some (.int m), some (.int i), some (natsD (ls.getD i []))], by simp [Tg.set, Tg.sets], ?_, fun _ => by simp⟩
    generalize decide (ls.getD i [] = []) = b at *
    generalize natsD (ls.getD i []) = nd at *
    generalize st ++ ex = s1 at *
    simp [q])
  have en : enumL (ls.map natsD) = (List.range ls.length).map fun (i : Nat) => D.tup [.int i, natsD (ls.getD i [])] := enumL_typed natsD [] ls
  rw [← en, List.nil_append] at lc
  have lc : lcF (.tp [.nm 3, .nm 4]) (tstE (binE eqD (varE 4) (lstE (nilA)))) (varE 3) [some (tupI ts), some (raceD t0 bs), some (.int m), none, none] (enumL (ls.map natsD)) (st ++ ex) [] = .ok ((strayN ls).map fun (i : Nat) => D.int i) (st ++ ex) := lc
  have ef : enumF [.lst (ls.map natsD)] (st ++ ex) = .ok (.frz (enumL (ls.map natsD))) (st ++ ex) := rfl
  show F_strays_by _ _ = .ok (.lst ((strayN ls).map fun (i : Nat) => D.int i)) _
  generalize (strayN ls).map (fun (i : Nat) => D.int i) = sl at *
  generalize enumL (ls.map natsD) = el at *
  generalize D.lst (ls.map natsD) = ld at *
  generalize D.tup [d, ld] = dd at *
  generalize raceD t0 bs = rd at *
  generalize tupI ts = td at *
  generalize st ++ ex = s1 at *
  simp [-lcE_eq, F_strays_by, runF, B_strays_by, lcE, lcL, e1, x1, ef, wipeE]
  simp [lc, R.bind]
def lastN (l : List Nat) : Nat := l.getLast?.getD 0
theorem ix_lastN {l : List Nat} (h : l ≠ []) (st : Sto) : ixD (natsD l) (.int (-1)) st = .ok (.int (lastN l)) st := by
  obtain ⟨r, x, rfl⟩ : ∃ r x, l = r ++ [x] := ⟨_, _, (List.dropLast_concat_getLast h).symm⟩
  refine ixD_lst _ _ _ ?_
  unfold L2.atI L2.ixN lastN
  rw [List.length_map, List.length_append, List.length_singleton, if_neg (by omega), if_pos (by omega)]
  have hz2 : ((-1 : Int) + ((r.length : Int) + 1)).toNat = r.length := by omega
  simp [hz2]
def keyL (ls : List (List Nat)) : List P2 := ((List.range ls.length).filter fun i => !decide (ls.getD i [] = [])).map fun i => ((lastN (ls.getD i []) : Int), (i : Int))
def chStep (ls : List (List Nat)) (found : List (Nat × Nat)) (p : Nat × Nat) : List (Nat × Nat) :=
  if found.any (fun q => decide (q.2 ∈ ls.getD p.2 [])) then found else found ++ [(p.2, p.1)]
def natP (p : P2) : Nat × Nat := (p.1.toNat, p.2.toNat)
def chosenL (ls : List (List Nat)) : List (Nat × Nat) := ((srtP (keyL ls)).map natP).foldl (chStep ls) []
def prD (p : Nat × Nat) : D := .tup [.int p.1, .int p.2]
theorem keyL_mem {ls : List (List Nat)} {p : P2} (h : p ∈ keyL ls) : ∃ i, i < ls.length ∧ ls.getD i [] ≠ [] ∧ p = ((lastN (ls.getD i []) : Int), (i : Int)) := by
  unfold keyL at h
  obtain ⟨i, hi, rfl⟩ := List.mem_map.mp h
  obtain ⟨h1, h2⟩ := List.mem_filter.mp hi
  exact ⟨i, List.mem_range.mp h1, by simpa using h2, rfl⟩
theorem chosen_sub {ls : List (List Nat)} (P : Nat × Nat → Prop) : ∀ (ps found : List (Nat × Nat)), (∀ q ∈ found, P q) → (∀ p ∈ ps, P (p.2, p.1)) → (∀ q ∈ ps.foldl (chStep ls) found, P q) ∧ (ps.foldl (chStep ls) found).length ≤ found.length + ps.length
  | [], found, h, _ => ⟨h, by simp⟩
  | p :: ps, found, h, hp => by
    have h2 : (∀ q ∈ chStep ls found p, P q) ∧ (chStep ls found p).length ≤ found.length + 1 := by
      unfold chStep
      split
      · exact ⟨h, by omega⟩
      · refine ⟨fun q hq => ?_, by simp⟩
        rcases List.mem_append.mp hq with hq | hq
        · exact h q hq
        · rw [List.mem_singleton.mp hq]; exact hp p List.mem_cons_self
    obtain ⟨a, b⟩ := chosen_sub P ps (chStep ls found p) h2.1 fun x hx => hp x (List.mem_cons_of_mem _ hx)
    exact ⟨a, by rw [List.foldl_cons, List.length_cons]; omega⟩
def chBody : SvS := (ifS (notB (tstE (callE anyF (consA (lcE (iterE (varE 2)) (.tp [.nm 6, .nm 7]) (yesB) (binE inD (varE 7) (binE ixD (varE 0) (varE 4))) [6, 7]) (nilA))))) (exprS (methLE appF (varE 2) (consA (tupE (consA (varE 4) (consA (varE 3) (nilA)))) (nilA)))) (passS))
theorem ch_turn {ls : List (List Nat)} {q : Nat} {found : List (Nat × Nat)} {s : Sto} (hat : s[q]? = some (.lst (found.map prD))) (hl : found.length ≤ 1000) (o1 : Option D) (p : Nat × Nat) (hp : p.2 < ls.length) :
    chBody [some (.lst (ls.map natsD)), o1, some (.mut q), some (.int p.1), some (.int p.2), none, none, none] s = .nx [some (.lst (ls.map natsD)), o1, some (.mut q), some (.int p.1), some (.int p.2), none, none, none] (s.set q (.lst ((chStep ls found p).map prD))) := by
  obtain ⟨la, ix⟩ := p
  have hix : ixD (.lst (ls.map natsD)) (.int (ix : Nat)) s = .ok (natsD (ls.getD ix [])) s := by
    refine ixD_lst _ _ _ ?_
    rw [atI_nat' _ _ (by rw [List.length_map]; exact hp), List.getElem_map, List.getD_eq_getElem?_getD, List.getElem?_eq_getElem hp]; rfl
  have lg := lcG_tF (t := .tp [.nm 6, .nm 7]) (tt := yesB) (fe := binE inD (varE 7) (binE ixD (varE 0) (varE 4))) (st := s) (nxt := mutNxt q) prD (fun x : Nat × Nat => D.bl (decide (x.2 ∈ ls.getD ix []))) (fun _ => true) found 0 [] (by simp; omega)
    (fun j => by unfold mutNxt; rw [hat]; simp) (envw := [some (.lst (ls.map natsD)), o1, some (.mut q), some (.int (la : Nat)), some (.int (ix : Nat)), none, none, none]) (fun x _ => by
      have im := in_nats x.2 (ls.getD ix []) s
      refine ⟨[some (.lst (ls.map natsD)), o1, some (.mut q), some (.int (la : Nat)), some (.int (ix : Nat)), none, some (.int x.1), some (.int x.2)], by simp [prD, Tg.set, Tg.sets], rfl, fun _ => ?_⟩
      generalize natsD (ls.getD ix []) = nd at *
      generalize D.lst (ls.map natsD) = ld at *
      generalize decide (x.2 ∈ ls.getD ix []) = b at *
      simp [hix, im])
  rw [List.filter_eq_self.mpr (fun _ _ => rfl), List.nil_append, show (found.map fun x : Nat × Nat => D.bl (decide (x.2 ∈ ls.getD ix []))) = (found.map fun x : Nat × Nat => decide (x.2 ∈ ls.getD ix [])).map D.bl by rw [List.map_map]; rfl] at lg
  have an := anyF_bools s (found.map fun x : Nat × Nat => decide (x.2 ∈ ls.getD ix []))
  rw [List.any_map] at an
  have it : iterD (.mut q) s = .ok (.gen (mutNxt q) found.length) s := by
    unfold iterD
    simp only [hat, List.length_map]
  have il := isL_mut hat
  unfold chStep
  simp only
  rw [show (id ∘ fun x : Nat × Nat => decide (x.2 ∈ ls.getD ix [])) = fun x : Nat × Nat => decide (x.2 ∈ ls.getD ix []) from rfl] at an
  have lce : lcE (iterE (varE 2)) (.tp [.nm 6, .nm 7]) (yesB) (binE inD (varE 7) (binE ixD (varE 0) (varE 4))) [6, 7] [some (.lst (ls.map natsD)), o1, some (.mut q), some (.int (la : Nat)), some (.int (ix : Nat)), none, none, none] s = .ok (.lst ((found.map fun x : Nat × Nat => decide (x.2 ∈ ls.getD ix [])).map D.bl)) s := by
    unfold lcE lcL
    rw [show iterE (varE 2) [some (.lst (ls.map natsD)), o1, some (.mut q), some (.int (la : Nat)), some (.int (ix : Nat)), none, none, none] s = .ok (.gen (mutNxt q) found.length) s from it]
    simp only [R.bind]
    rw [show wipeE [some (.lst (ls.map natsD)), o1, some (.mut q), some (.int (la : Nat)), some (.int (ix : Nat)), none, none, none] [6, 7] = [some (.lst (ls.map natsD)), o1, some (.mut q), some (.int (la : Nat)), some (.int (ix : Nat)), none, none, none] from rfl, lg]
  generalize (found.map fun x : Nat × Nat => decide (x.2 ∈ ls.getD ix [])).map D.bl = bl at *
  by_cases c : (found.any fun x : Nat × Nat => decide (x.2 ∈ ls.getD ix [])) = true
  · rw [c] at an
    rw [if_pos c]
    have same : s.set q (.lst (found.map prD)) = s := by
      obtain ⟨h1, h2⟩ := List.getElem?_eq_some_iff.mp hat
      rw [← h2]; exact List.set_getElem_self h1
    rw [same]
    generalize D.lst (ls.map natsD) = ld at *
    simp [-lcE_eq, chBody, lce, an]
  · rw [Bool.not_eq_true] at c
    rw [c] at an
    rw [c, if_neg (by decide)]
    have ap := app_mut (prD (ix, la)) hat (by rw [List.length_map]; omega)
    rw [show found.map prD ++ [prD (ix, la)] = (found ++ [(ix, la)]).map prD by simp, show prD (ix, la) = .tup [.int (ix : Nat), .int (la : Nat)] from rfl] at ap
    generalize (found ++ [(ix, la)]).map prD = l2 at *
    generalize D.lst (ls.map natsD) = ld at *
    simp [-lcE_eq, chBody, lce, an, il, ap]
theorem natP_D {ls : List (List Nat)} {p : P2} (h : p ∈ keyL ls) : pairD p = .tup [.int ((natP p).1 : Nat), .int ((natP p).2 : Nat)] ∧ (natP p).2 < ls.length ∧ ls.getD (natP p).2 [] ≠ [] ∧ (natP p).1 = lastN (ls.getD (natP p).2 []) := by
  obtain ⟨i, hi, hn, rfl⟩ := keyL_mem h
  exact ⟨rfl, hi, hn, rfl⟩
theorem f_chosen_by (ls : List (List Nat)) (hl : ls.length ≤ 1000) (st : Sto) :
    F_chosen_by [.lst (ls.map natsD)] st = .ok (.mut st.length) (st ++ [.lst ((chosenL ls).map prD)]) := by
  have lc := lc_typedF (t := .tp [.nm 4, .nm 5]) (tt := tstE (binE neD (varE 5) (lstE (nilA)))) (fe := tupE (consA (binE ixD (varE 5) (unE negD (cE (.int 1)))) (consA (varE 4) (nilA)))) (st := st) (envw := [some (.lst (ls.map natsD)), none, none, none, none, none, none, none]) (fun (i : Nat) => D.tup [.int i, natsD (ls.getD i [])]) (fun (i : Nat) => pairD ((lastN (ls.getD i []) : Int), (i : Int))) (fun i => !decide (ls.getD i [] = [])) (List.range ls.length) [] (by simp; omega) (fun i _ => by
    have q := ne_natsD (ls.getD i []) st
    refine ⟨[some (.lst (ls.map natsD)), none, none, none, some (.int i), some (natsD (ls.getD i [])), none, none], by simp [Tg.set, Tg.sets], ?_, fun hn => ?_⟩
    · generalize (!decide (ls.getD i [] = [])) = b at *
      generalize natsD (ls.getD i []) = nd at *
      generalize D.lst (ls.map natsD) = ld at *
      simp [q]
    · have := ix_lastN (l := ls.getD i []) (by simpa using hn) st
      rw [show pairD ((lastN (ls.getD i []) : Int), (i : Int)) = .tup [.int (lastN (ls.getD i []) : Nat), .int (i : Nat)] from rfl]
      generalize lastN (ls.getD i []) = la at *
      generalize natsD (ls.getD i []) = nd at *
      generalize D.lst (ls.map natsD) = ld at *
      simp [this])
  have en : enumL (ls.map natsD) = (List.range ls.length).map fun (i : Nat) => D.tup [.int i, natsD (ls.getD i [])] := enumL_typed natsD [] ls
  rw [← en, List.nil_append, show ((List.range ls.length).filter fun i => !decide (ls.getD i [] = [])).map (fun (i : Nat) => pairD ((lastN (ls.getD i []) : Int), (i : Int))) = (keyL ls).map pairD by unfold keyL; rw [List.map_map]; rfl] at lc
  have ef : enumF [.lst (ls.map natsD)] st = .ok (.frz (enumL (ls.map natsD))) st := rfl
  have sr := srtF_pairs (keyL ls) st
  have hk : (srtP (keyL ls)).length ≤ 1000 := by
    rw [(perm_srtP (ps := keyL ls)).length_eq]
    unfold keyL
    rw [List.length_map]
    exact Nat.le_trans (List.length_filter_le _ _) (by rw [List.length_range]; exact hl)
  obtain ⟨env', s', e, o3, o4, rfl, rfl⟩ := loop_nx (g := tgT (.tp [.nm 3, .nm 4])) (body := chBody)
    (fun j env s => ∃ o3 o4 : Option D, env = [some (.lst (ls.map natsD)), some (.lst ((srtP (keyL ls)).map pairD)), some (.mut st.length), o3, o4, none, none, none] ∧ s = st ++ [.lst (((((srtP (keyL ls)).take j).map natP).foldl (chStep ls) []).map prD)])
    (xs := (srtP (keyL ls)).map pairD) (env := [some (.lst (ls.map natsD)), some (.lst ((srtP (keyL ls)).map pairD)), some (.mut st.length), none, none, none, none, none]) (st := st ++ [.lst []]) ⟨none, none, rfl, rfl⟩
    (by
      rintro j x env s hx ⟨o3, o4, rfl, rfl⟩
      rw [List.getElem?_map] at hx
      obtain ⟨p, hp, rfl⟩ := Option.map_eq_some_iff.mp hx
      obtain ⟨n1, n2, -⟩ := natP_D (perm_srtP.mem_iff.mp (List.mem_of_getElem? hp))
      have cs := (chosen_sub (ls := ls) (fun _ => True) (((srtP (keyL ls)).take j).map natP) [] (by simp) (by simp)).2
      rw [List.length_map, List.length_take, List.length_nil] at cs
      have tu := ch_turn (ls := ls) (q := st.length) (found := (((srtP (keyL ls)).take j).map natP).foldl (chStep ls) []) (s := st ++ [.lst (((((srtP (keyL ls)).take j).map natP).foldl (chStep ls) []).map prD)]) (by simp) (by omega) (some (.lst ((srtP (keyL ls)).map pairD))) (natP p) n2
      refine ⟨_, st ++ [.lst ((chStep ls ((((srtP (keyL ls)).take j).map natP).foldl (chStep ls) []) (natP p)).map prD)], ?_, some (.int ((natP p).1 : Nat)), some (.int ((natP p).2 : Nat)), rfl, ?_⟩
      · rw [show (st ++ [MO.lst (((((srtP (keyL ls)).take j).map natP).foldl (chStep ls) []).map prD)]).set st.length (.lst ((chStep ls ((((srtP (keyL ls)).take j).map natP).foldl (chStep ls) []) (natP p)).map prD)) = st ++ [.lst ((chStep ls ((((srtP (keyL ls)).take j).map natP).foldl (chStep ls) []) (natP p)).map prD)] by simp] at tu
        rw [n1]
        generalize st ++ [MO.lst ((chStep ls ((((srtP (keyL ls)).take j).map natP).foldl (chStep ls) []) (natP p)).map prD)] = s2 at *
        generalize st ++ [MO.lst (((((srtP (keyL ls)).take j).map natP).foldl (chStep ls) []).map prD)] = s1 at *
        generalize chBody = cb at *
        generalize D.lst (ls.map natsD) = ld at *
        generalize D.lst ((srtP (keyL ls)).map pairD) = rd at *
        simp [tgT, Tg.set, Tg.sets, tu]
      · rw [List.take_succ, hp, Option.toList, List.map_append, List.foldl_append]; rfl)
  rw [List.length_map, List.take_length] at e
  have eb : B_chosen_by = seqS (parS 1 2 (consA (callE srtF (consA (lcE (callI enumF (consA (varE 0) (nilA))) (.tp [.nm 4, .nm 5]) (tstE (binE neD (varE 5) (lstE (nilA)))) (tupE (consA (binE ixD (varE 5) (unE negD (cE (.int 1)))) (consA (varE 4) (nilA)))) [4, 5]) (nilA))) (consA (mutE (nilA)) (nilA)))) (seqS (forS (iterE (varE 1)) (tgT (.tp [.nm 3, .nm 4])) chBody) (retS (varE 2))) := rfl
  have lce : lcE (callI enumF (consA (varE 0) (nilA))) (.tp [.nm 4, .nm 5]) (tstE (binE neD (varE 5) (lstE (nilA)))) (tupE (consA (binE ixD (varE 5) (unE negD (cE (.int 1)))) (consA (varE 4) (nilA)))) [4, 5] [some (.lst (ls.map natsD)), none, none, none, none, none, none, none] st = .ok (.lst ((keyL ls).map pairD)) st := by
    generalize enumL (ls.map natsD) = el at *
    generalize D.lst (ls.map natsD) = ld at *
    simp [-lcE_eq, lcE, lcL, ef, wipeE]
    simp [lc, R.bind]
  unfold F_chosen_by chosenL
  rw [eb]
  generalize (((srtP (keyL ls)).map natP).foldl (chStep ls) []).map prD = fin at *
  generalize (srtP (keyL ls)).map pairD = sp at *
  generalize (keyL ls).map pairD = kp at *
  generalize D.lst (ls.map natsD) = ld at *
  generalize chBody = cb at *
  have it : ∀ s, iterD (.lst sp) s = .ok (.frz sp) s := fun _ => rfl
  simp [-lcE_eq, runF, parS, lce, sr, it, e]
end Lap
namespace Lap
open PySem G
def lstPD (l : List Nat) : PyData := .list ((l.map fun (j : Nat) => (j : Int)).map PyData.int)
theorem toPD_natsD (l : List Nat) : toPD (natsD l) = some (lstPD l) := by
  rw [natsD_lstI]
  unfold lstI toPD lstPD
  rw [toPDs_ints]; rfl
theorem toPDs_natsD : ∀ ls : List (List Nat), toPDs (ls.map natsD) = some (ls.map lstPD)
  | [] => by simp [toPDs]
  | l :: ls => by simp [toPDs, toPD_natsD, toPDs_natsD ls]
theorem canLay_lsts : ∀ ls : List (List Nat), PyData.canLayAll0 (ls.map lstPD) = true
  | [] => by simp [PyData.canLayAll0]
  | l :: ls => by
    have := canLay_ints (l.map fun (j : Nat) => (j : Int))
    simp only [List.map_cons, PyData.canLayAll0, canLay_lsts ls, lstPD, PyData.canLay0, this, Bool.and_self]
theorem depth_lsts : ∀ ls : List (List Nat), PyData.depthAll (ls.map lstPD) ≤ 1
  | [] => by simp [PyData.depthAll]
  | l :: ls => by
    have h1 := depth_lsts ls
    have h2 := depth_ints (l.map fun (j : Nat) => (j : Int))
    simp only [List.map_cons, PyData.depthAll, lstPD, PyData.depth, h2]
    omega
theorem shaped_lsts (ls : List (List Nat)) : SeqAt.shaped (.list (ls.map lstPD)) = true := by
  have := depth_lsts ls
  simp [SeqAt.shaped, PyData.canLay0, canLay_lsts, PyData.depth]
  omega
theorem in_nilL (ls : List (List Nat)) (st : Sto) : inD (.lst []) (.lst (ls.map natsD)) st = .ok (.bl (decide ([] ∈ ls))) st := by
  have e : inO (.lst []) (.lst (ls.map natsD)) st = some (decide ([] ∈ ls)) := by
    unfold inO
    have h1 : toPD (.lst []) = some (.list []) := by simp [toPD, toPDs]
    have h2 : (seqOf (.lst (ls.map natsD)) st).bind toPDs = some (ls.map lstPD) := by
      show (some (ls.map natsD)).bind toPDs = _
      rw [Option.bind_some, toPDs_natsD]
    rw [h1, h2]
    show (if SeqAt.shaped (.list []) = true ∧ SeqAt.shaped (.list (ls.map lstPD)) = true then _ else _) = _
    rw [if_pos ⟨by simp [SeqAt.shaped, PyData.canLay0, PyData.canLayAll0, PyData.depth, PyData.depthAll], shaped_lsts ls⟩, List.any_map]
    congr 1
    rw [Bool.eq_iff_iff, List.any_eq_true, decide_eq_true_iff]
    constructor
    · rintro ⟨l, hl, h⟩
      cases l with
      | nil => exact hl
      | cons a l => simp [lstPD, PyData.eqv, PyData.eqvAll] at h
    · intro h
      exact ⟨[], h, by simp [lstPD, PyData.eqv, PyData.eqvAll]⟩
  unfold inD
  rw [e]
def deadL (Q : List P2) (ls : List (List Nat)) : List P2 := (chosenL ls).map fun p => Q.getD p.2 (0, 0)
theorem chosen_lt {Q : List P2} {ls : List (List Nat)} (h : ∀ l ∈ ls, ∀ i ∈ l, i < Q.length) : ∀ p ∈ chosenL ls, p.2 < Q.length := by
  refine (chosen_sub (ls := ls) (fun p => p.2 < Q.length) _ [] (by simp) fun p hp => ?_).1
  obtain ⟨x, hx, rfl⟩ := List.mem_map.mp hp
  obtain ⟨-, n2, n3, n4⟩ := natP_D (perm_srtP.mem_iff.mp hx)
  show (natP x).1 < Q.length
  rw [n4]
  have hm : ls.getD (natP x).2 [] ∈ ls := by
    rw [List.getD_eq_getElem?_getD, List.getElem?_eq_getElem n2]; exact List.getElem_mem n2
  refine h _ hm _ ?_
  unfold lastN
  generalize ls.getD (natP x).2 [] = l at n3
  rw [List.getLast?_eq_some_getLast n3]
  exact List.getLast_mem n3
theorem chosen_len (ls : List (List Nat)) : (chosenL ls).length ≤ ls.length := by
  have := (chosen_sub (ls := ls) (fun _ => True) ((srtP (keyL ls)).map natP) [] (by simp) (by simp)).2
  refine Nat.le_trans this ?_
  rw [List.length_nil, Nat.zero_add, List.length_map, (perm_srtP (ps := keyL ls)).length_eq]
  unfold keyL
  rw [List.length_map]
  exact Nat.le_trans (List.length_filter_le _ _) (by rw [List.length_range]; exact Nat.le_refl _)
theorem f_fewest_dead_by {ts : List Int} (hT : Trk ts) (hs : ts.sum.natAbs < big) {t0 : Int} {bs : List (List P2)} (h : RaceOk ts t0 bs) {m : Nat} (hm : m < ts.length) (st : Sto) :
    ∃ ex last ls, F_fewest_dead_by [tupI ts, raceD t0 bs, .int m] st = .ok (if [] ∈ ls then .non else bagD (deadL (quietL last (markT m (rowsF t0 bs))) ls)) (st ++ ex) ∧
      ls = (winR ts m 0 (rowsF t0 bs)).map (sharedL (quietL last (markT m (rowsF t0 bs)))) ∧ ∀ w ∈ winR ts m 0 (rowsF t0 bs), w.2.2.2 ≤ last := by
  obtain ⟨d, ex, last, e1, hd, hq, hw⟩ := f_shares_of hT hs h hm st
  have wl : (winR ts m 0 (rowsF t0 bs)).length ≤ 30 * (rowsF t0 bs).length := winR_len 30 _ _ fun row hr => by
    have := rowsF_len h row hr
    rw [gaps_len]; omega
  have n6 := h.n6
  rw [List.length_map] at wl
  obtain ⟨ls, hls⟩ : ∃ ls, ls = (winR ts m 0 (rowsF t0 bs)).map (sharedL (quietL last (markT m (rowsF t0 bs)))) := ⟨_, rfl⟩
  have e2 : (winR ts m 0 (rowsF t0 bs)).map (fun w => natsD (sharedL (quietL last (markT m (rowsF t0 bs))) w)) = ls.map natsD := by rw [hls, List.map_map]; rfl
  have hl : ls.length ≤ 1000 := by rw [hls, List.length_map]; omega
  rw [e2] at e1
  obtain ⟨Q, hQ⟩ : ∃ Q, Q = quietL last (markT m (rowsF t0 bs)) := ⟨_, rfl⟩
  rw [← hQ] at e2 hd hq hls
  have hlt : ∀ l ∈ ls, ∀ i ∈ l, i < Q.length := fun l hl i hi => by
    rw [hls] at hl
    obtain ⟨w, -, rfl⟩ := List.mem_map.mp hl
    exact List.mem_range.mp (List.mem_filter.mp hi).1
  have inn := in_nilL ls (st ++ ex)
  by_cases c : [] ∈ ls
  · refine ⟨ex, last, ls, ?_, by rw [← hQ]; exact hls, hw⟩
    rw [if_pos c]
    rw [decide_eq_true c] at inn
    generalize D.lst (ls.map natsD) = ld at *
    generalize raceD t0 bs = rd at *
    generalize tupI ts = td at *
    generalize st ++ ex = s1 at *
    simp [F_fewest_dead_by, runF, B_fewest_dead_by, e1, inn]
  · have ch := f_chosen_by ls hl (st ++ ex)
    have cl := chosen_len ls
    have hd2 := hd.app [.lst ((chosenL ls).map prD)]
    have lg := lcG_tF (t := .tp [.nm 5, .nm 6]) (tt := yesB) (fe := binE ixD (varE 3) (varE 6)) (st := st ++ ex ++ [.lst ((chosenL ls).map prD)]) (nxt := mutNxt (st ++ ex).length) prD (fun p : Nat × Nat => pairD (Q.getD p.2 (0, 0))) (fun _ => true) (chosenL ls) 0 [] (by simp; omega)
      (fun j => by unfold mutNxt; rw [List.getElem?_concat_length]; simp) (envw := [some (tupI ts), some (raceD t0 bs), some (.int m), some d, some (.lst (ls.map natsD)), none, none]) (fun p hp => by
        refine ⟨[some (tupI ts), some (raceD t0 bs), some (.int m), some d, some (.lst (ls.map natsD)), some (.int p.1), some (.int p.2)], by simp [prD, Tg.set, Tg.sets], rfl, fun _ => ?_⟩
        have := hd2.ix (chosen_lt hlt p hp)
        generalize pairD (Q.getD p.2 (0, 0)) = pd at *
        generalize st ++ ex ++ [MO.lst ((chosenL ls).map prD)] = s2 at *
        generalize D.lst (ls.map natsD) = ld at *
        simp [this])
    rw [List.filter_eq_self.mpr (fun _ _ => rfl), List.nil_append] at lg
    refine ⟨ex ++ [.lst ((chosenL ls).map prD)], last, ls, ?_, by rw [← hQ]; exact hls, hw⟩
    rw [if_neg c, ← List.append_assoc, ← hQ]
    rw [decide_eq_false c] at inn
    have it : iterD (.mut (st ++ ex).length) (st ++ ex ++ [.lst ((chosenL ls).map prD)]) = .ok (.gen (mutNxt (st ++ ex).length) (chosenL ls).length) (st ++ ex ++ [.lst ((chosenL ls).map prD)]) := by
      unfold iterD
      simp only [List.getElem?_concat_length, List.length_map]
    have tf : tupleF [.lst ((chosenL ls).map fun p : Nat × Nat => pairD (Q.getD p.2 (0, 0)))] (st ++ ex ++ [.lst ((chosenL ls).map prD)]) = .ok (bagD (deadL Q ls)) (st ++ ex ++ [.lst ((chosenL ls).map prD)]) := by
      show R.ok (D.tup _) _ = _
      unfold bagD deadL
      rw [List.map_map]; rfl
    generalize bagD (deadL Q ls) = fin at *
    generalize (chosenL ls).map (fun p : Nat × Nat => pairD (Q.getD p.2 (0, 0))) = dl at *
    generalize hs2 : st ++ ex ++ [MO.lst ((chosenL ls).map prD)] = s2 at *
    generalize (chosenL ls).length = cll at *
    generalize hs1 : st ++ ex = s1 at *
    generalize s1.length = q at *
    generalize D.lst (ls.map natsD) = ld at *
    generalize raceD t0 bs = rd at *
    generalize tupI ts = td at *
    simp [-lcE_eq, F_fewest_dead_by, runF, B_fewest_dead_by, e1, inn, ch, lcE, lcL, it, wipeE, iterE]
    simp [lg, tf, R.bind]
theorem f_looked {ts : List Int} (hT : Trk ts) (hs : ts.sum.natAbs < big) {t0 : Int} {bs : List (List P2)} (h : RaceOk ts t0 bs) {m : Nat} (hm : m < ts.length) (st : Sto) : F_check_looked_at [tupI ts, raceD t0 bs, .int m] st = .ok .non st := by
  have e1 := f_check_track (st := st) hT
  have e2 := f_check_race (st := st) hT hs h
  have e3 := f_check_mat (st := st) hm
  generalize tupI ts = td at *
  generalize raceD t0 bs = rd at *
  have e4 : F_check_raced_v2 [td, rd] st = .ok .non st := by simp [F_check_raced_v2, runF, B_check_raced_v2, e1, e2]
  simp [F_check_looked_at, runF, B_check_looked_at, e4, e3]
theorem t_windows {ts : List Int} (hT : Trk ts) (hs : ts.sum.natAbs < big) {t0 : Int} {bs : List (List P2)} (h : RaceOk ts t0 bs) {m : Nat} (hm : m < ts.length) (st : Sto) :
    ∃ ex, F_windows [tupI ts, raceD t0 bs, .int m] st = .ok (.tup ((winR ts m 0 (rowsF t0 bs)).map winD)) (st ++ ex) := by
  obtain ⟨ex, e⟩ := f_windows_by hT hs h hm st
  have c := f_looked hT hs h hm st
  refine ⟨ex, ?_⟩
  have tf : tupleF [.lst ((winR ts m 0 (rowsF t0 bs)).map winD)] (st ++ ex) = .ok (.tup ((winR ts m 0 (rowsF t0 bs)).map winD)) (st ++ ex) := rfl
  generalize (winR ts m 0 (rowsF t0 bs)).map winD = wl at *
  generalize tupI ts = td at *
  generalize raceD t0 bs = rd at *
  generalize st ++ ex = s1 at *
  simp [F_windows, runF, B_windows, c, e, tf]
theorem t_strays {ts : List Int} (hT : Trk ts) (hs : ts.sum.natAbs < big) {t0 : Int} {bs : List (List P2)} (h : RaceOk ts t0 bs) {m : Nat} (hm : m < ts.length) (st : Sto) :
    ∃ ex last, F_strays [tupI ts, raceD t0 bs, .int m] st = .ok (natsT (strayN ((winR ts m 0 (rowsF t0 bs)).map (sharedL (quietL last (markT m (rowsF t0 bs))))))) (st ++ ex) ∧ ∀ w ∈ winR ts m 0 (rowsF t0 bs), w.2.2.2 ≤ last := by
  obtain ⟨ex, last, e, hw⟩ := f_strays_by hT hs h hm st
  have c := f_looked hT hs h hm st
  refine ⟨ex, last, ?_, hw⟩
  generalize strayN ((winR ts m 0 (rowsF t0 bs)).map (sharedL (quietL last (markT m (rowsF t0 bs))))) = sn at *
  have tf : tupleF [natsD sn] (st ++ ex) = .ok (natsT sn) (st ++ ex) := rfl
  generalize natsT sn = nt at *
  generalize natsD sn = nd at *
  generalize tupI ts = td at *
  generalize raceD t0 bs = rd at *
  generalize st ++ ex = s1 at *
  simp [F_strays, runF, B_strays, c, e, tf]
theorem t_fewest {ts : List Int} (hT : Trk ts) (hs : ts.sum.natAbs < big) {t0 : Int} {bs : List (List P2)} (h : RaceOk ts t0 bs) {m : Nat} (hm : m < ts.length) (st : Sto) :
    ∃ ex last ls, F_fewest_dead [tupI ts, raceD t0 bs, .int m] st = .ok (if [] ∈ ls then .non else bagD (deadL (quietL last (markT m (rowsF t0 bs))) ls)) (st ++ ex) ∧
      ls = (winR ts m 0 (rowsF t0 bs)).map (sharedL (quietL last (markT m (rowsF t0 bs)))) ∧ ∀ w ∈ winR ts m 0 (rowsF t0 bs), w.2.2.2 ≤ last := by
  obtain ⟨ex, last, ls, e, r⟩ := f_fewest_dead_by hT hs h hm st
  have c := f_looked hT hs h hm st
  refine ⟨ex, last, ls, ?_, r⟩
  generalize (if [] ∈ ls then D.non else bagD (deadL (quietL last (markT m (rowsF t0 bs))) ls)) = fd at *
  generalize tupI ts = td at *
  generalize raceD t0 bs = rd at *
  generalize st ++ ex = s1 at *
  simp [F_fewest_dead, runF, B_fewest_dead, c, e]
end Lap
namespace Lap
open PySem G
theorem pool_app {p : Nat} {st : Sto} (hp : Pool p st) (ex : Sto) : Pool p (st ++ ex) := pool_keep hp fun k h => List.getElem?_append_left h
structure RaceW (ts : List Int) (t0 : Int) (bs : List (List P2)) (k : Nat) : Prop where
  ok : RaceOk ts t0 bs
  len : ∀ b ∈ bs, b.length ≤ k
  tm : ∀ row ∈ rowsF t0 bs, ∀ p ∈ row, p.1 ≤ 100000000000000010000
theorem RaceW.big {ts : List Int} {t0 : Int} {bs : List (List P2)} {k : Nat} (h : RaceW ts t0 bs k) : ∀ row ∈ rowsF t0 bs, ∀ p ∈ row, p.1 < (big : Int) := fun row hr p hp => by
  have := h.tm row hr p hp
  have := big_ge
  omega
theorem race_ok {ts : List Int} (hT : Trk ts) {t0 : Int} (h0 : 0 ≤ t0) {bs : List (List P2)} (n1 : 1 ≤ bs.length) (n6 : bs.length ≤ 6) (hl : ∀ b ∈ bs, b.length ≤ 30) (hr : ∀ b ∈ bs, RowOk ts (fullL t0 b)) (ht : ∀ b ∈ bs, ∀ x ∈ fullL t0 b, x.1 ≤ 100000000000000010000) : RaceOk ts t0 bs where
  n1 := n1
  n6 := n6
  bag := fun b hb => RowOk.bag hT ⟨fun p hp => (hr b hb).ok p (List.mem_cons_of_mem _ hp), (List.pairwise_cons.mp (hr b hb).row).2⟩ (hl b hb)
  row := fun b hb => ⟨hr b hb, by show (b.length + 1) ≤ 31; have := hl b hb; omega, fun p hp => by
    have := ht b hb p hp
    have := ((hr b hb).ok p hp).1
    have := big_ge
    omega⟩
  s0 := h0
theorem w_race {ts : List Int} (hT : DT ts 40) {p : Nat} {st : Sto} (hp : Pool p st) (k : Nat) (hk : k ≤ 30) :
    ∃ t0 bs st', F__law_race [.mut p, tupI ts, .int k] st = .ok (raceD t0 bs) st' ∧ Pool p st' ∧ RaceW ts t0 bs k ∧ bs.length ≤ 4 := by
  obtain ⟨t0, s1, e1, w1, hp1, -⟩ := w_of.three 0 7 100000000000000000003 hp
  obtain ⟨n, s2, e2, n0, n4, hp2, -⟩ := w_below (m := 4) hp1 (by omega) (by omega)
  obtain ⟨n, rfl⟩ := Int.eq_ofNat_of_zero_le n0
  have h0 : 0 ≤ t0 := by omega
  obtain ⟨s', acc, e, bs, rfl, h1, h2, h3⟩ := lc_inv (t := .nm 4) (tt := yesB) (fe := callE F__law_course (consA (varE 0) (consA (varE 1) (consA (varE 3) (consA (varE 2) (nilA)))))) (envw := [some (.mut p), some (tupI ts), some (.int k), some (.int t0), none])
    (fun j s acc => ∃ bs : List (List P2), acc = bs.map bagD ∧ (∀ b ∈ bs, RowOk ts (fullL t0 b) ∧ b.length ≤ k ∧ ∀ x ∈ b, x.1 ≤ t0 + 4200) ∧ bs.length = j ∧ Pool p s) (rangeD 0 (n + 1)) 0 s2 [] ⟨[], rfl, by simp, rfl, hp2⟩
    (by
      rintro j x s acc hx ⟨bs, rfl, h1, h2, hp⟩
      obtain ⟨rfl, hj⟩ := range_get hx
      obtain ⟨b, s3, e3, hp3, -, r1, r2, r3⟩ := w_courseR hT hp h0 k (by omega)
      refine ⟨s3, (bs ++ [b]).map bagD, fun kk => ?_, bs ++ [b], rfl, fun y hy => ?_, by simp [h2], hp3⟩
      · rw [turnC_yes (y := bagD b) (st' := s3) (env1 := [some (.mut p), some (tupI ts), some (.int k), some (.int t0), some (.int (0 + j))]) (by simp) (by
          generalize bagD b = bd at *
          generalize tupI ts = td at *
          generalize (k : Int) = ki at *
          simp [e3]) (by simp; omega)]
        simp
      · rcases List.mem_append.mp hy with hy | hy
        · exact h1 y hy
        · rw [List.mem_singleton.mp hy]; exact ⟨r1, r2, fun x hx => (r3 x hx).2⟩)
  rw [Nat.zero_add, rangeD_length] at h2
  have ht : ∀ b ∈ bs, ∀ x ∈ fullL t0 b, x.1 ≤ 100000000000000010000 := fun b hb x hx => by
    rcases List.mem_cons.mp hx with rfl | hx
    · show t0 ≤ _; omega
    · have := (h1 b hb).2.2 x hx; omega
  refine ⟨t0, bs, s', ?_, h3, ⟨race_ok hT.t h0 (by omega) (by omega) (fun b hb => by have := (h1 b hb).2.1; omega) (fun b hb => (h1 b hb).1) ht, fun b hb => (h1 b hb).2.1, fun row hr p hp => by
    obtain ⟨b, hb, rfl⟩ := List.mem_map.mp hr
    exact ht b hb p hp⟩, by omega⟩
  have pw : powD (.int 10) (.int 20) st = .ok (.int 100000000000000000000) st := rfl
  have rg : range1F [.int (1 + (n : Int))] s2 = .ok (.frz (rangeD 0 (n + 1))) s2 := by
    have k1 : (1 + (n : Int)).toNat = n + 1 := by omega
    have k2 : 1 + (n : Int) < 4611686018427387904 := by omega
    simp [k1, k2]
    omega
  have tf : tupleF [.lst (bs.map bagD)] s' = .ok (.tup (bs.map bagD)) s' := rfl
  unfold raceD
  generalize bs.map bagD = bl at *
  generalize rangeD 0 (n + 1) = rr at *
  generalize (n : Int) = ni at *
  generalize (k : Int) = ki at *
  generalize tupI ts = td at *
  have e2 : F__law_take [.mut p, .int 4] s1 = .ok (.int ni) s2 := e2
  simp [-range1F_eq, F__law_race, runF, B__law_race, pw, e1, e2, rg, e, tf]
end Lap
namespace Lap
open PySem G
theorem f_apart_by {ts : List Int} (hT : Trk ts) (hs : ts.sum.natAbs < big) {t0 : Int} {bs : List (List P2)} (h : RaceOk ts t0 bs) {m : Nat} (hm : m < ts.length) (st : Sto) :
    ∃ ex last ls, F_apart_by [tupI ts, raceD t0 bs, .int m] st = .ok (tupI (srtI ((chosenL ls).map fun p => (p.1 : Int)))) (st ++ ex) ∧
      ls = (winR ts m 0 (rowsF t0 bs)).map (sharedL (quietL last (markT m (rowsF t0 bs)))) ∧ ∀ w ∈ winR ts m 0 (rowsF t0 bs), w.2.2.2 ≤ last := by
  obtain ⟨d, ex, last, e1, hd, hq, hw⟩ := f_shares_of hT hs h hm st
  have wl : (winR ts m 0 (rowsF t0 bs)).length ≤ 30 * (rowsF t0 bs).length := winR_len 30 _ _ fun row hr => by
    have := rowsF_len h row hr
    rw [gaps_len]; omega
  have n6 := h.n6
  rw [List.length_map] at wl
  obtain ⟨ls, hls⟩ : ∃ ls, ls = (winR ts m 0 (rowsF t0 bs)).map (sharedL (quietL last (markT m (rowsF t0 bs)))) := ⟨_, rfl⟩
  have e2 : (winR ts m 0 (rowsF t0 bs)).map (fun w => natsD (sharedL (quietL last (markT m (rowsF t0 bs))) w)) = ls.map natsD := by rw [hls, List.map_map]; rfl
  have hl : ls.length ≤ 1000 := by rw [hls, List.length_map]; omega
  rw [e2] at e1
  have ch := f_chosen_by ls hl (st ++ ex)
  have cl := chosen_len ls
  have x1 : ixD (.tup [d, .lst (ls.map natsD)]) (.int 1) (st ++ ex) = .ok (.lst (ls.map natsD)) (st ++ ex) := ixD_tup _ _ _ rfl
  have lg := lcG_tF (t := .tp [.nm 3, .nm 4]) (tt := yesB) (fe := varE 3) (st := st ++ ex ++ [.lst ((chosenL ls).map prD)]) (nxt := mutNxt (st ++ ex).length) prD (fun p : Nat × Nat => D.int p.1) (fun _ => true) (chosenL ls) 0 [] (by simp; omega)
    (fun j => by unfold mutNxt; rw [List.getElem?_concat_length]; simp) (envw := [some (tupI ts), some (raceD t0 bs), some (.int m), none, none]) (fun p hp =>
      ⟨[some (tupI ts), some (raceD t0 bs), some (.int m), some (.int p.1), some (.int p.2)], by simp [prD, Tg.set, Tg.sets], rfl, fun _ => rfl⟩)
  rw [List.filter_eq_self.mpr (fun _ _ => rfl), List.nil_append, show (chosenL ls).map (fun p : Nat × Nat => D.int p.1) = ((chosenL ls).map fun p : Nat × Nat => (p.1 : Int)).map D.int by rw [List.map_map]; rfl] at lg
  refine ⟨ex ++ [.lst ((chosenL ls).map prD)], last, ls, ?_, hls, hw⟩
  rw [← List.append_assoc]
  have it : iterD (.mut (st ++ ex).length) (st ++ ex ++ [.lst ((chosenL ls).map prD)]) = .ok (.gen (mutNxt (st ++ ex).length) (chosenL ls).length) (st ++ ex ++ [.lst ((chosenL ls).map prD)]) := by
    unfold iterD
    simp only [List.getElem?_concat_length, List.length_map]
  have so := srtIF_lst ((chosenL ls).map fun p : Nat × Nat => (p.1 : Int)) (st ++ ex ++ [.lst ((chosenL ls).map prD)])
  have tf : tupleF [.lst ((srtI ((chosenL ls).map fun p : Nat × Nat => (p.1 : Int))).map D.int)] (st ++ ex ++ [.lst ((chosenL ls).map prD)]) = .ok (tupI (srtI ((chosenL ls).map fun p : Nat × Nat => (p.1 : Int)))) (st ++ ex ++ [.lst ((chosenL ls).map prD)]) := rfl
  generalize tupI (srtI ((chosenL ls).map fun p : Nat × Nat => (p.1 : Int))) = fin at *
  generalize (srtI ((chosenL ls).map fun p : Nat × Nat => (p.1 : Int))).map D.int = sl at *
  generalize ((chosenL ls).map fun p : Nat × Nat => (p.1 : Int)).map D.int = cl0 at *
  generalize hs2 : st ++ ex ++ [MO.lst ((chosenL ls).map prD)] = s2 at *
  generalize (chosenL ls).length = cll at *
  generalize hs1 : st ++ ex = s1 at *
  generalize s1.length = q at *
  generalize D.lst (ls.map natsD) = ld at *
  generalize raceD t0 bs = rd at *
  generalize tupI ts = td at *
  simp [-lcE_eq, F_apart_by, runF, B_apart_by, e1, x1, ch, lcE, lcL, it, wipeE, iterE]
  simp [lg, so, tf, R.bind]
theorem t_apart {ts : List Int} (hT : Trk ts) (hs : ts.sum.natAbs < big) {t0 : Int} {bs : List (List P2)} (h : RaceOk ts t0 bs) {m : Nat} (hm : m < ts.length) (st : Sto) :
    ∃ ex last ls, F_apart_windows [tupI ts, raceD t0 bs, .int m] st = .ok (tupI (srtI ((chosenL ls).map fun p => (p.1 : Int)))) (st ++ ex) ∧
      ls = (winR ts m 0 (rowsF t0 bs)).map (sharedL (quietL last (markT m (rowsF t0 bs)))) ∧ ∀ w ∈ winR ts m 0 (rowsF t0 bs), w.2.2.2 ≤ last := by
  obtain ⟨ex, last, ls, e, r⟩ := f_apart_by hT hs h hm st
  have c := f_looked hT hs h hm st
  refine ⟨ex, last, ls, ?_, r⟩
  generalize tupI (srtI ((chosenL ls).map fun p : Nat × Nat => (p.1 : Int))) = fd at *
  generalize tupI ts = td at *
  generalize raceD t0 bs = rd at *
  generalize st ++ ex = s1 at *
  simp [F_apart_windows, runF, B_apart_windows, c, e]
end Lap
namespace Lap
open PySem G
theorem wrongL_form {ts : List Int} : ∀ (xs : List D) (prev : Option P2) (j : Nat), wrongL ts (prev.map pairD) j xs = [] → ∃ b : List P2, xs = b.map pairD ∧ (∀ p ∈ b, MatOk ts p) ∧ b.Pairwise ltP2 ∧ ∀ q, prev = some q → ∀ p, b.head? = some p → ltP2 q p
  | [], prev, j, _ => ⟨[], rfl, by simp, .nil, by simp⟩
  | x :: xs, prev, j, h => by
    have h : (if isMarkB ts x && !(match prev.map pairD with | some p => leB x p | none => false) then wrongL ts (some x) (j + 1) xs else [.int j]) = [] := h
    cases hc : (isMarkB ts x && !(match prev.map pairD with | some p => leB x p | none => false)) with
    | true =>
      rw [if_pos hc] at h
      rw [Bool.and_eq_true] at hc
      obtain ⟨c1, c2⟩ := hc
      obtain ⟨p, rfl⟩ := mark_form c1
      obtain ⟨b, rfl, hb, hp, hq⟩ := wrongL_form xs (some p) (j + 1) h
      have hm : MatOk ts p := by
        have : (fromB (.int p.1) 0 && upB (.int p.2) (ts.length - 1)) = true := c1
        simp [fromB, upB] at this
        obtain ⟨a, b, c⟩ := this
        exact ⟨a, b, by omega⟩
      refine ⟨p :: b, rfl, fun y hy => ?_, List.pairwise_cons.mpr ⟨fun y hy => ?_, hp⟩, fun q e p' e' => ?_⟩
      · rcases List.mem_cons.mp hy with rfl | hy
        · exact hm
        · exact hb y hy
      · cases b with
        | nil => cases hy
        | cons z b =>
          have h1 := hq p rfl z rfl
          rcases List.mem_cons.mp hy with rfl | hy
          · exact h1
          · have h2 := (List.pairwise_cons.mp hp).1 y hy
            unfold ltP2 at h1 h2 ⊢
            omega
      · subst e
        cases e'
        have c2 : (!leB (pairD p) (pairD q)) = true := c2
        simpa [leB, pairD] using c2
    | false =>
      rw [if_neg (by rw [hc]; decide)] at h
      cases h
theorem wrongD_form {ts : List Int} {d : D} (h : wrongD ts d = []) : ∃ b, d = bagD b ∧ BagOk ts b := by
  cases d with
  | tup xs =>
    rw [wrongD] at h
    by_cases c : xs.length ≤ 30
    · rw [if_pos c] at h
      obtain ⟨b, rfl, hb, hp, -⟩ := wrongL_form xs none 0 h
      exact ⟨b, rfl, by rw [List.length_map] at c; exact c, hb, hp⟩
    · rw [if_neg c] at h
      cases h
  | _ => cases h
def bagOf : D → Option (List P2)
  | .tup xs => pairsOf xs
  | _ => none
theorem bagOf_bag (b : List P2) : bagOf (bagD b) = some b := by
  show pairsOf (b.map pairD) = _
  rw [pairsOf_map]
def fullB (ts : List Int) (t0 : Int) (d : D) : Bool := (wrongD ts d).isEmpty && (match bagOf d with
  | some b => rowB2 ts (fullL t0 b)
  | none => false)
def isRaceB (ts : List Int) : D → Bool
  | .tup [.int t0, .tup rows] => decide (0 ≤ t0) && (decide (1 ≤ rows.length) && decide (rows.length ≤ 6)) && rows.all (fullB ts t0)
  | _ => false
section
variable (st : Sto)
theorem t_is_bag_of {ts : List Int} (d : D) (h : Thing d = true) : F_is_bag_of [tupI ts, d] st = .ok (.bl (wrongD ts d).isEmpty) st := by
  have e1 := t_wrong_in_bag st (ts := ts) d h
  have e2 := eq_wrong st (ts := ts) d
  generalize (wrongD ts d).isEmpty = v at *
  generalize wrongD ts d = w at *
  generalize tupI ts = td at *
  simp [F_is_bag_of, runF, B_is_bag_of, e1, e2]
theorem t_is_full_row {ts : List Int} (hT : Trk ts) (hs : ts.sum.natAbs < big) {t0 : Int} (h0 : 0 ≤ t0) (d : D) (h : Thing d = true) : F_is_full_row [tupI ts, .int t0, d] st = .ok (.bl (fullB ts t0 d)) st := by
  unfold fullB
  cases e : wrongD ts d with
  | nil =>
    obtain ⟨b, rfl, hb⟩ := wrongD_form e
    rw [f_is_full_row_gen st hT hs h0 hb, bagOf_bag]; rfl
  | cons x r =>
    have e1 := t_is_bag_of st (ts := ts) d h
    rw [e] at e1
    have e1 : F_is_bag_of [tupI ts, d] st = .ok (.bl false) st := e1
    generalize tupI ts = td at *
    simp [F_is_full_row, runF, B_is_full_row, e1]
theorem t_is_race_of {ts : List Int} (hT : Trk ts) (hs : ts.sum.natAbs < big) (d : D) (h : Thing d = true) : F_is_race_of [tupI ts, d] st = .ok (.bl (isRaceB ts d)) st := by
  have p := t_is_pair st d h
  cases hp : isPairB d with
  | false =>
    rw [hp] at p
    have hr : isRaceB ts d = false := by
      unfold isRaceB
      split
      · cases hp
      · rfl
    rw [hr]
    generalize tupI ts = td at *
    simp [F_is_race_of, runF, B_is_race_of, p]
  | true =>
    rw [hp] at p
    obtain ⟨a, r, rfl⟩ : ∃ a r, d = .tup [a, r] := by
      unfold isPairB at hp
      split at hp
      · exact ⟨_, _, rfl⟩
      · cases hp
    have hth : ThingL [a, r] = true := by simpa [Thing] using h
    have ha := thingL_all.mp hth a (by simp)
    have hr := thingL_all.mp hth r (by simp)
    have x0 := ix_two0 st a r
    have x1 := ix_two1 st a r
    have f := t_is_from st a 0 ha
    cases hf : fromB a 0 with
    | false =>
      rw [hf] at f
      have hz : isRaceB ts (.tup [a, r]) = false := by
        unfold isRaceB
        split
        · rename_i t0 rows e
          injection e with e
          injection e with e1 e2
          subst e1
          have : decide (0 ≤ t0) = false := hf
          rw [this]; rfl
        · rfl
      rw [hz]
      generalize D.tup [a, r] = dd at *
      generalize tupI ts = td at *
      simp [F_is_race_of, runF, B_is_race_of, p, x0, f]
    | true =>
      rw [hf] at f
      obtain ⟨t0, rfl⟩ : ∃ t0, a = .int t0 := by
        cases a with
        | int t0 => exact ⟨t0, rfl⟩
        | _ => simp [fromB] at hf
      have h0 : 0 ≤ t0 := by simpa [fromB] using hf
      cases r with
      | tup rows =>
        have hrw := thingL_all.mp (show ThingL rows = true by simpa [Thing] using hr)
        show _ = R.ok (D.bl (decide (0 ≤ t0) && (decide (1 ≤ rows.length) && decide (rows.length ≤ 6)) && rows.all (fullB ts t0))) st
        by_cases c1 : 1 ≤ rows.length
        · by_cases c6 : rows.length ≤ 6
          · have u : F_is_tuple_up_to [.tup rows, .int 1, .int 6] st = .ok (.bl true) st := by
              have c1 : (1 : Int) ≤ rows.length := by omega
              have c2 : (rows.length : Int) ≤ 6 := by omega
              simp [F_is_tuple_up_to, runF, B_is_tuple_up_to, isiB, c1, c2]
            have e := lc_typed (t := .nm 2) (fe := callE F_is_full_row (consA (varE 0) (consA (binE ixD (varE 1) (cE (.int 0))) (consA (varE 2) (nilA))))) (envw := [some (tupI ts), some (.tup [.int t0, .tup rows]), none]) (st := st) id (fun d => D.bl (fullB ts t0 d)) rows [] (by simp; omega) (by
              intro d hd
              refine ⟨[some (tupI ts), some (.tup [.int t0, .tup rows]), some d], by simp, ?_⟩
              have := t_is_full_row st hT hs h0 d (hrw d hd)
              generalize D.tup [.int t0, .tup rows] = dd at *
              generalize tupI ts = td at *
              simp [x0, this])
            have al := all_of st (fullB ts t0) rows
            rw [List.nil_append, List.map_id] at e
            rw [decide_eq_true h0, decide_eq_true c1, decide_eq_true c6, Bool.true_and, Bool.true_and, Bool.true_and]
            generalize rows.all (fullB ts t0) = v at *
            generalize rows.map (fun x => D.bl (fullB ts t0 x)) = l1 at *
            generalize hdd : D.tup [.int t0, .tup rows] = dd at *
            have it : iterD (.tup rows) st = .ok (.frz rows) st := rfl
            generalize tupI ts = td at *
            simp [F_is_race_of, runF, B_is_race_of, p, x0, x1, f, u, it, e, al]
          · have u : F_is_tuple_up_to [.tup rows, .int 1, .int 6] st = .ok (.bl false) st := by
              have c1 : (1 : Int) ≤ rows.length := by omega
              have c2 : ¬ (rows.length : Int) ≤ 6 := by omega
              simp [F_is_tuple_up_to, runF, B_is_tuple_up_to, isiB, c1, c2]
            rw [decide_eq_false c6, Bool.and_false, Bool.and_false, Bool.false_and]
            generalize D.tup [.int t0, .tup rows] = dd at *
            generalize tupI ts = td at *
            simp [F_is_race_of, runF, B_is_race_of, p, x0, x1, f, u]
        · have u : F_is_tuple_up_to [.tup rows, .int 1, .int 6] st = .ok (.bl false) st := by
            have c1 : ¬ (1 : Int) ≤ rows.length := by omega
            simp [F_is_tuple_up_to, runF, B_is_tuple_up_to, isiB, c1]
          rw [decide_eq_false c1, Bool.false_and, Bool.and_false, Bool.false_and]
          generalize D.tup [.int t0, .tup rows] = dd at *
          generalize tupI ts = td at *
          simp [F_is_race_of, runF, B_is_race_of, p, x0, x1, f, u]
      | _ => first | (simp [F_is_race_of, runF, B_is_race_of, p, x0, x1, f, F_is_tuple_up_to, B_is_tuple_up_to, isiB, isRaceB]; done) | (simp [Thing] at hr)
theorem x_check_race {ts : List Int} (hT : Trk ts) (hs : ts.sum.natAbs < big) (d : D) (h : Thing d = true) (hb : isRaceB ts d = false) : F_check_race [tupI ts, d] st = .exc ⟨"InvalidRace", "given", d⟩ st := by
  have e := t_is_race_of st hT hs d h
  rw [hb] at e
  generalize tupI ts = td at *
  simp [F_check_race, runF, B_check_race, e]
end
end Lap
namespace Lap
open PySem G
def deadB (times : List Int) : D → Bool
  | .tup [.int a, .int b] => decide (a ≤ b) && !(times.any fun t => decide (a ≤ t) && decide (t ≤ b))
  | _ => false
theorem t_is_dead (times : List Int) (hl : times.length ≤ 1000) (d : D) (h : Thing d = true) (st : Sto) : F_is_dead_stretch [.lst (times.map D.int), d] st = .ok (.bl (deadB times d)) st := by
  have p := t_is_pair st d h
  cases hp : isPairB d with
  | false =>
    rw [hp] at p
    have hr : deadB times d = false := by
      unfold deadB
      split
      · cases hp
      · rfl
    rw [hr]
    generalize times.map D.int = tl at *
    simp [F_is_dead_stretch, runF, B_is_dead_stretch, p]
  | true =>
    rw [hp] at p
    obtain ⟨a, r, rfl⟩ : ∃ a r, d = .tup [a, r] := by
      unfold isPairB at hp
      split at hp
      · exact ⟨_, _, rfl⟩
      · cases hp
    have hth : ThingL [a, r] = true := by simpa [Thing] using h
    have ha := thingL_all.mp hth a (by simp)
    have hr := thingL_all.mp hth r (by simp)
    have x0 := ix_two0 st a r
    have x1 := ix_two1 st a r
    have w0 := t_is_whole st a ha
    cases a with
    | int a =>
      have w0 : F_is_whole [.int a] st = .ok (.bl true) st := w0
      have f := t_is_from st r a hr
      cases hf : fromB r a with
      | false =>
        rw [hf] at f
        have hz : deadB times (.tup [.int a, r]) = false := by
          cases r with
          | int b =>
            have : decide (b ≥ a) = false := by simpa [fromB] using hf
            have : decide (a ≤ b) = false := this
            show (decide (a ≤ b) && _) = false
            rw [this]; rfl
          | _ => rfl
        rw [hz]
        generalize D.tup [.int a, r] = dd at *
        generalize times.map D.int = tl at *
        simp [F_is_dead_stretch, runF, B_is_dead_stretch, p, x0, x1, w0, f]
      | true =>
        rw [hf] at f
        obtain ⟨b, rfl⟩ : ∃ b, r = .int b := by
          cases r with
          | int b => exact ⟨b, rfl⟩
          | _ => simp [fromB] at hf
        have hab : a ≤ b := by simpa [fromB] using hf
        have e := lc_typed (t := .nm 2) (fe := chainE leD leD (binE ixD (varE 1) (cE (.int 0))) (varE 2) (binE ixD (varE 1) (cE (.int 1)))) (envw := [some (.lst (times.map D.int)), some (.tup [.int a, .int b]), none]) (st := st) D.int (fun t => D.bl (decide (a ≤ t) && decide (t ≤ b))) times [] (by simp; omega) (by
          intro t ht
          refine ⟨[some (.lst (times.map D.int)), some (.tup [.int a, .int b]), some (.int t)], by simp, ?_⟩
          generalize D.tup [.int a, .int b] = dd at *
          by_cases c : a ≤ t
          · simp [x0, x1, c]
          · simp [x0, x1, c])
        rw [List.nil_append, show times.map (fun t => D.bl (decide (a ≤ t) && decide (t ≤ b))) = (times.map fun t => decide (a ≤ t) && decide (t ≤ b)).map D.bl by rw [List.map_map]; rfl] at e
        have an := anyF_bools st (times.map fun t => decide (a ≤ t) && decide (t ≤ b))
        rw [List.any_map, show (id ∘ fun t => decide (a ≤ t) && decide (t ≤ b)) = fun t => decide (a ≤ t) && decide (t ≤ b) from rfl] at an
        show _ = R.ok (D.bl (decide (a ≤ b) && !(times.any fun t => decide (a ≤ t) && decide (t ≤ b)))) st
        rw [decide_eq_true hab, Bool.true_and]
        have it : iterD (.lst (times.map D.int)) st = .ok (.frz (times.map D.int)) st := rfl
        generalize (times.any fun t => decide (a ≤ t) && decide (t ≤ b)) = v at *
        generalize (times.map fun t => decide (a ≤ t) && decide (t ≤ b)).map D.bl = l1 at *
        generalize D.tup [.int a, .int b] = dd at *
        generalize times.map D.int = tl at *
        simp [-chainE_eq, F_is_dead_stretch, runF, B_is_dead_stretch, p, x0, x1, w0, f, it]
        simp [-chainE_eq, e, an]
    | _ =>
      first
      | (have w0 : F_is_whole [_] st = .ok (.bl false) st := w0
         show _ = R.ok (D.bl false) st
         generalize D.tup [_, r] = dd at *
         generalize times.map D.int = tl at *
         simp [F_is_dead_stretch, runF, B_is_dead_stretch, p, x0, w0]; done)
      | (simp [Thing] at ha)
end Lap
namespace Lap
open PySem G
def deadsB (times : List Int) : D → Bool
  | .tup xs => xs.all (deadB times)
  | _ => false
theorem f_explain_no {ts : List Int} {t0 : Int} {bs : List (List P2)} (h : RaceOk ts t0 bs) (m : Int) (d : D) (hd : Thing d = true) (hl : ∀ xs, d = .tup xs → xs.length ≤ 1000) (hb : deadsB (markT m (rowsF t0 bs)) d = false) (st : Sto) :
    ∃ ex, F_do_explain_by [tupI ts, raceD t0 bs, .int m, d] st = .ok (.bl false) (st ++ ex) := by
  have n6 := h.n6
  obtain ⟨ex, e1⟩ := f_marked_times h m st
  refine ⟨ex, ?_⟩
  have ml := markT_len m 31 (rowsF t0 bs) (rowsF_len h)
  rw [List.length_map] at ml
  cases d with
  | tup xs =>
    have hx := thingL_all.mp (show ThingL xs = true by simpa [Thing] using hd)
    have hl := hl xs rfl
    have e := lc_typed (t := .nm 5) (fe := callE F_is_dead_stretch (consA (varE 4) (consA (varE 5) (nilA)))) (envw := [some (tupI ts), some (raceD t0 bs), some (.int m), some (.tup xs), some (.lst ((markT m (rowsF t0 bs)).map D.int)), none, none]) (st := st ++ ex) id (fun d => D.bl (deadB (markT m (rowsF t0 bs)) d)) xs [] (by simp; omega) (by
      intro x hxx
      refine ⟨[some (tupI ts), some (raceD t0 bs), some (.int m), some (.tup xs), some (.lst ((markT m (rowsF t0 bs)).map D.int)), some x, none], by simp, ?_⟩
      have := t_is_dead (markT m (rowsF t0 bs)) (by omega) x (hx x hxx) (st ++ ex)
      generalize D.lst ((markT m (rowsF t0 bs)).map D.int) = tl at *
      generalize st ++ ex = s1 at *
      simp [this])
    have al := all_of (st ++ ex) (deadB (markT m (rowsF t0 bs))) xs
    rw [List.nil_append, List.map_id] at e
    have hb : xs.all (deadB (markT m (rowsF t0 bs))) = false := hb
    rw [hb] at al
    have it : iterD (.tup xs) (st ++ ex) = .ok (.frz xs) (st ++ ex) := rfl
    generalize xs.map (fun x => D.bl (deadB (markT m (rowsF t0 bs)) x)) = l1 at *
    generalize D.lst ((markT m (rowsF t0 bs)).map D.int) = tl at *
    generalize raceD t0 bs = rd at *
    generalize tupI ts = td at *
    generalize st ++ ex = s1 at *
    simp [-lcE_eq, F_do_explain_by, runF, B_do_explain_by, e1, lcE, lcL, wipeE, isiB]
    simp [e, al, R.bind]
  | _ =>
    first
    | (generalize D.lst ((markT m (rowsF t0 bs)).map D.int) = tl at *
       generalize raceD t0 bs = rd at *
       generalize tupI ts = td at *
       generalize st ++ ex = s1 at *
       simp [-lcE_eq, F_do_explain_by, runF, B_do_explain_by, e1, isiB]; done)
    | (simp [Thing] at hd)
theorem f_explain_nil {ts : List Int} (hT : Trk ts) (hs : ts.sum.natAbs < big) {t0 : Int} {bs : List (List P2)} (h : RaceOk ts t0 bs) {m : Nat} (hm : m < ts.length) (st : Sto) :
    ∃ v ex, F_do_explain_by [tupI ts, raceD t0 bs, .int m, .tup []] st = .ok (.bl v) (st ++ ex) := by
  obtain ⟨ex1, e1⟩ := f_marked_times h (m : Int) st
  obtain ⟨ex2, e2⟩ := f_windows_by hT hs h hm (st ++ ex1)
  have n6 := h.n6
  have wl : (winR ts m 0 (rowsF t0 bs)).length ≤ 30 * (rowsF t0 bs).length := winR_len 30 _ _ fun row hr => by
    have := rowsF_len h row hr
    rw [gaps_len]; omega
  rw [List.length_map] at wl
  have ne : neD (.lst []) (.lst []) (st ++ ex1 ++ ex2) = .ok (.bl false) (st ++ ex1 ++ ex2) := rfl
  have lc := lc_typed (t := .nm 6) (fe := binE neD (callE F_shared_by (consA (varE 3) (consA (varE 6) (nilA)))) (lstE (nilA))) (envw := [some (tupI ts), some (raceD t0 bs), some (.int m), some (.tup []), some (.lst ((markT (m : Int) (rowsF t0 bs)).map D.int)), none, none]) (st := st ++ ex1 ++ ex2) winD (fun _ : Wd => D.bl false) (winR ts m 0 (rowsF t0 bs)) [] (by simp; omega) (fun w _ => by
    refine ⟨[some (tupI ts), some (raceD t0 bs), some (.int m), some (.tup []), some (.lst ((markT (m : Int) (rowsF t0 bs)).map D.int)), none, some (winD w)], by simp, ?_⟩
    have sb : F_shared_by [.tup [], winD w] (st ++ ex1 ++ ex2) = .ok (.lst []) (st ++ ex1 ++ ex2) := rfl
    generalize winD w = wd at *
    generalize st ++ ex1 ++ ex2 = s2 at *
    simp [sb, ne])
  rw [List.nil_append, show (winR ts m 0 (rowsF t0 bs)).map (fun _ : Wd => D.bl false) = ((winR ts m 0 (rowsF t0 bs)).map fun _ : Wd => false).map D.bl by rw [List.map_map]; rfl] at lc
  have al := allF_bools (st ++ ex1 ++ ex2) ((winR ts m 0 (rowsF t0 bs)).map fun _ : Wd => false)
  refine ⟨((winR ts m 0 (rowsF t0 bs)).map fun _ : Wd => false).all id, ex1 ++ ex2, ?_⟩
  · rw [← List.append_assoc]
    generalize ((winR ts m 0 (rowsF t0 bs)).map fun _ : Wd => false).all id = v at *
    generalize ((winR ts m 0 (rowsF t0 bs)).map fun _ : Wd => false).map D.bl = l1 at *
    generalize (winR ts m 0 (rowsF t0 bs)).map winD = wl at *
    generalize D.lst ((markT (m : Int) (rowsF t0 bs)).map D.int) = tl at *
    generalize raceD t0 bs = rd at *
    generalize tupI ts = td at *
    generalize st ++ ex1 ++ ex2 = s2 at *
    generalize st ++ ex1 = s1 at *
    have al0 : allF [.lst []] s1 = .ok (.bl true) s1 := rfl
    simp [-lcE_eq, F_do_explain_by, runF, B_do_explain_by, e1, lcE, lcL, wipeE, isiB, iterE, iterD, itemsOf, lcF, al0, e2]
    simp [lc, R.bind]
    rw [al]
    rfl
end Lap
namespace Lap
open PySem G
abbrev Wrd := List (Str × Str × Str)
structure Wr where
  th : D
  w : Str
  kp : D
theorem cutD_to (xs : List D) (m : Nat) : cutD xs none (some (m : Int)) = xs.take m := by
  have := cutD_map id xs none (some (m : Int))
  rwa [List.map_id, List.map_id, cutL_to] at this
theorem cutD_from (xs : List D) (m : Nat) : cutD xs (some (m : Int)) none = xs.drop m := by
  have := cutD_map id xs (some (m : Int)) none
  rwa [List.map_id, List.map_id, cutL_from] at this
theorem add_tup (xs ys : List D) (st : Sto) (h : xs.length + ys.length ≤ 1000) : addD (.tup xs) (.tup ys) st = .ok (.tup (xs ++ ys)) st := by
  show (if xs.length + ys.length ≤ 16777216 then R.ok (D.tup (xs ++ ys)) st else R.fail) = _
  rw [if_pos (by omega)]
end Lap
namespace Lap
open PySem G
section
variable (st : Sto) {ts : List Int}
theorem t_is_trackG (d : D) (h : Thing d = true) : F_is_track_of [d] st = .ok (.bl (isTrackB d)) st := by
  have e := t_is_track st d h
  cases hF : F_is_track_of [d] st with
  | ok v s =>
    simp [F_is_track, runF, B_is_track, hF] at e
    rw [e.1, e.2]
  | exc x s => simp [F_is_track, runF, B_is_track, hF] at e
  | fail => simp [F_is_track, runF, B_is_track, hF] at e
theorem x_check_track (d : D) (h : Thing d = true) (hb : isTrackB d = false) : F_check_track [d] st = .exc ⟨"InvalidTrack", "given", d⟩ st := by
  have e := t_is_trackG st d h
  rw [hb] at e
  simp [F_check_track, runF, B_check_track, e]
theorem t_is_mat_of (d : D) (h : Thing d = true) : F_is_mat_of [tupI ts, d] st = .ok (.bl (upB d (ts.length - 1))) st := by
  have eb := t_is_up_to st d (ts.length - 1) h
  simp [F_is_mat_of, runF, B_is_mat_of, eb]
theorem x_check_mat (d : D) (h : Thing d = true) (hb : upB d (ts.length - 1) = false) : F_check_mat [tupI ts, d] st = .exc ⟨"InvalidMat", "given", d⟩ st := by
  have e := t_is_mat_of st (ts := ts) d h
  rw [hb] at e
  generalize tupI ts = td at *
  simp [F_check_mat, runF, B_check_mat, e]
theorem m19 : mulD (.tup [.int 1]) (.int 9) st = .ok (.tup [.int 1, .int 1, .int 1, .int 1, .int 1, .int 1, .int 1, .int 1, .int 1]) st := by simp [mulD]
end
theorem wrongL_cons {ts : List Int} (prev : Option D) (j : Nat) (x : D) (xs : List D) : wrongL ts prev j (x :: xs) = if isMarkB ts x && !(match prev with | some p => leB x p | none => false) then wrongL ts (some x) (j + 1) xs else [.int j] := by
  rw [wrongL.eq_def]
  try (cases prev <;> rfl)
end Lap
namespace Lap
open PySem G
section
variable {ts : List Int} {st : Sto}
theorem xl_track (d r m : D) (h : Thing d = true) (hb : isTrackB d = false) : F_check_looked_at [d, r, m] st = .exc ⟨"InvalidTrack", "given", d⟩ st := by
  have e := x_check_track (st := st) d h hb
  have e4 : F_check_raced_v2 [d, r] st = .exc ⟨"InvalidTrack", "given", d⟩ st := by simp [F_check_raced_v2, runF, B_check_raced_v2, e]
  simp [F_check_looked_at, runF, B_check_looked_at, e4]
theorem xr_track (d r : D) (h : Thing d = true) (hb : isTrackB d = false) : F_check_raced_v2 [d, r] st = .exc ⟨"InvalidTrack", "given", d⟩ st := by
  have e := x_check_track (st := st) d h hb
  simp [F_check_raced_v2, runF, B_check_raced_v2, e]
theorem xr_race (hT : Trk ts) (hs : ts.sum.natAbs < big) (d : D) (h : Thing d = true) (hb : isRaceB ts d = false) : F_check_raced_v2 [tupI ts, d] st = .exc ⟨"InvalidRace", "given", d⟩ st := by
  have e := x_check_race st hT hs d h hb
  have e1 := f_check_track (st := st) hT
  generalize tupI ts = td at *
  simp [F_check_raced_v2, runF, B_check_raced_v2, e1, e]
theorem xl_race (hT : Trk ts) (hs : ts.sum.natAbs < big) (d m : D) (h : Thing d = true) (hb : isRaceB ts d = false) : F_check_looked_at [tupI ts, d, m] st = .exc ⟨"InvalidRace", "given", d⟩ st := by
  have e := xr_race (st := st) hT hs d h hb
  generalize tupI ts = td at *
  simp [F_check_looked_at, runF, B_check_looked_at, e]
theorem xl_mat (hT : Trk ts) (hs : ts.sum.natAbs < big) {t0 : Int} {bs : List (List P2)} (h : RaceOk ts t0 bs) (m : D) (hm : Thing m = true) (hb : upB m (ts.length - 1) = false) : F_check_looked_at [tupI ts, raceD t0 bs, m] st = .exc ⟨"InvalidMat", "given", m⟩ st := by
  have e1 := f_check_track (st := st) hT
  have e2 := f_check_race (st := st) hT hs h
  have e3 := x_check_mat (st := st) m hm hb
  generalize tupI ts = td at *
  generalize raceD t0 bs = rd at *
  have e4 : F_check_raced_v2 [td, rd] st = .ok .non st := by simp [F_check_raced_v2, runF, B_check_raced_v2, e1, e2]
  simp [F_check_looked_at, runF, B_check_looked_at, e4, e3]
theorem x_looked {a r m : D} {x : Ex} (e : F_check_looked_at [a, r, m] st = .exc x st) : F_windows [a, r, m] st = .exc x st ∧ F_strays [a, r, m] st = .exc x st ∧ F_fewest_dead [a, r, m] st = .exc x st ∧ F_apart_windows [a, r, m] st = .exc x st ∧ ∀ v, F_do_explain [a, r, m, v] st = .exc x st := by
  refine ⟨?_, ?_, ?_, ?_, fun v => ?_⟩
  · simp [F_windows, runF, B_windows, e]
  · simp [F_strays, runF, B_strays, e]
  · simp [F_fewest_dead, runF, B_fewest_dead, e]
  · simp [F_apart_windows, runF, B_apart_windows, e]
  · simp [F_do_explain, runF, B_do_explain, e]
theorem x_raced {a r : D} {x : Ex} (e : F_check_raced_v2 [a, r] st = .exc x st) : F_least_misses [a, r] st = .exc x st := by
  simp [F_least_misses, runF, B_least_misses, e]
theorem t_explain_no (hT : Trk ts) (hs : ts.sum.natAbs < big) {t0 : Int} {bs : List (List P2)} (h : RaceOk ts t0 bs) {m : Nat} (hm : m < ts.length) (d : D) (hd : Thing d = true) (hl : ∀ xs, d = .tup xs → xs.length ≤ 1000) (hb : deadsB (markT m (rowsF t0 bs)) d = false) :
    ∃ ex, F_do_explain [tupI ts, raceD t0 bs, .int m, d] st = .ok (.bl false) (st ++ ex) := by
  obtain ⟨ex, e⟩ := f_explain_no (ts := ts) h (m : Int) d hd hl hb st
  have c := f_looked hT hs h hm st
  refine ⟨ex, ?_⟩
  generalize tupI ts = td at *
  generalize raceD t0 bs = rd at *
  generalize st ++ ex = s1 at *
  simp [F_do_explain, runF, B_do_explain, c, e]
theorem t_explain_nil (hT : Trk ts) (hs : ts.sum.natAbs < big) {t0 : Int} {bs : List (List P2)} (h : RaceOk ts t0 bs) {m : Nat} (hm : m < ts.length) :
    ∃ v ex, F_do_explain [tupI ts, raceD t0 bs, .int m, .tup []] st = .ok (.bl v) (st ++ ex) := by
  obtain ⟨v, ex, e⟩ := f_explain_nil hT hs h hm st
  have c := f_looked hT hs h hm st
  refine ⟨v, ex, ?_⟩
  generalize tupI ts = td at *
  generalize raceD t0 bs = rd at *
  generalize st ++ ex = s1 at *
  simp [F_do_explain, runF, B_do_explain, c, e]
end
end Lap
namespace Lap
open PySem G
theorem f_no_extras (row : List P2) (h1 : 1 ≤ row.length) (hl : row.length ≤ 31) (st : Sto) : F_no_extras [bagD row] st = .ok (tupI (List.replicate (row.length - 1) 0)) st := by
  have ln : lenF [bagD row] st = .ok (.int row.length) st := by unfold bagD; rw [lenF_tup, List.length_map]
  have k : (row.length : Int) - 1 = ((row.length - 1 : Nat) : Int) := by omega
  have mu : mulD (.tup [.int 0]) (.int ((row.length - 1 : Nat) : Int)) st = .ok (tupI (List.replicate (row.length - 1) 0)) st := by
    by_cases c : 1 ≤ row.length - 1
    · exact mul_evenI st 0 c (by omega)
    · have : row.length - 1 = 0 := by omega
      rw [this]; rfl
  generalize tupI (List.replicate (row.length - 1) 0) = tr at *
  generalize ((row.length - 1 : Nat) : Int) = k1 at *
  generalize bagD row = bd at *
  simp [-mulD_int, F_no_extras, runF, B_no_extras, ln, k, mu]
def rdL (s : Sto) (q : Nat) : List Int := match s[q]? with
  | some (.lst xs) => (intsOf xs).getD []
  | _ => []
theorem f_least_misses_by {ts : List Int} (hT : Trk ts) {t0 : Int} {bs : List (List P2)} (h : RaceOk ts t0 bs) (st : Sto) :
    ∃ d st', F_least_misses_by [tupI ts, raceD t0 bs] st = .ok d st' ∧ (∀ k, k < st.length → st'[k]? = st[k]?) ∧ st.length ≤ st'.length := by
  have n6 := h.n6
  have h8 := hT.le
  have fr := f_full_rows_of h st
  obtain ⟨s', acc, e, qs, rfl, hq, hqn, hk, hl⟩ := lc_inv (t := .nm 3) (tt := yesB) (fe := callE F_missed_by (consA (varE 0) (consA (varE 3) (consA (callE F_no_extras (consA (varE 3) (nilA))) (nilA))))) (envw := [some (tupI ts), some (raceD t0 bs), none, none, none])
    (fun j s acc => ∃ qs : List Nat, acc = qs.map D.mut ∧ (∀ q ∈ qs, q < s.length ∧ ∃ l : List Int, s[q]? = some (.lst (l.map D.int)) ∧ l.length = ts.length) ∧ qs.length = j ∧ (∀ k, k < st.length → s[k]? = st[k]?) ∧ st.length ≤ s.length) ((rowsF t0 bs).map bagD) 0 st [] ⟨[], rfl, by simp, rfl, fun _ _ => rfl, Nat.le_refl _⟩
    (by
      rintro j x s acc hx ⟨qs, rfl, hq, hqn, hk, hl⟩
      rw [List.getElem?_map] at hx
      obtain ⟨row, hrow, rfl⟩ := Option.map_eq_some_iff.mp hx
      have hm := List.mem_of_getElem? hrow
      obtain ⟨b, hb, rfl⟩ := List.mem_map.mp hm
      have hro := h.row b hb
      have hj := (List.getElem?_eq_some_iff.mp hrow).1
      rw [List.length_map] at hj
      obtain ⟨s2, e2, a2, k2, l2⟩ := f_missed_by (st := s) hT hro.ok.ok (List.replicate ((fullL t0 b).length - 1) 0)
      have ne := f_no_extras (fullL t0 b) (by show 1 ≤ b.length + 1; omega) hro.n s
      refine ⟨s2, (qs ++ [s.length]).map D.mut, fun kk => ?_, qs ++ [s.length], rfl, fun q hqq => ?_, by simp [hqn], fun k hkk => by rw [k2 k (by omega)]; exact hk k hkk, by omega⟩
      · rw [turnC_yes (y := D.mut s.length) (st' := s2) (env1 := [some (tupI ts), some (raceD t0 bs), none, some (bagD (fullL t0 b)), none]) (by simp) (by
          generalize tupI (List.replicate ((fullL t0 b).length - 1) 0) = tr at *
          generalize bagD (fullL t0 b) = bd at *
          generalize tupI ts = td at *
          simp [ne, e2]) (by simp; omega)]
        simp
      · rcases List.mem_append.mp hqq with hqq | hqq
        · obtain ⟨h1, l, h2, h3⟩ := hq q hqq
          exact ⟨by omega, l, by rw [k2 q h1]; exact h2, h3⟩
        · rw [List.mem_singleton.mp hqq]
          exact ⟨(List.getElem?_eq_some_iff.mp a2).1, _, a2, miss_len _ _ _⟩)
  rw [Nat.zero_add, List.length_map, List.length_map] at hqn
  have inner : ∀ i, i < ts.length → lcE (iterE (varE 2)) (.nm 3) (yesB) (binE ixD (varE 3) (varE 4)) [3] [some (tupI ts), some (raceD t0 bs), some (.lst (qs.map D.mut)), none, some (.int (0 + (i : Int)))] s' = .ok (.lst ((qs.map fun q => (rdL s' q).getD i 0).map D.int)) s' := fun i hi => by
    have lc := lc_typed (t := .nm 3) (fe := binE ixD (varE 3) (varE 4)) (envw := [some (tupI ts), some (raceD t0 bs), some (.lst (qs.map D.mut)), none, some (.int (0 + (i : Int)))]) (st := s') D.mut (fun q => D.int ((rdL s' q).getD i 0)) qs [] (by simp; omega) (by
      intro q hqq
      obtain ⟨h1, l, h2, h3⟩ := hq q hqq
      have er : rdL s' q = l := by
        unfold rdL
        rw [h2]
        simp only [intsOf_map, Option.getD_some]
      refine ⟨[some (tupI ts), some (raceD t0 bs), some (.lst (qs.map D.mut)), some (.mut q), some (.int (0 + (i : Int)))], by simp, ?_⟩
      have ix : ixD (.mut q) (.int (i : Int)) s' = .ok (.int (l.getD i 0)) s' := by
        have := ixD_mut q (l.map D.int) (i : Int) s' h2 (atI_emod (i := (i : Int)) (by omega) (by omega))
        rw [Int.toNat_natCast] at this
        exact this
      rw [er, Int.zero_add]
      generalize D.lst (qs.map D.mut) = ql at *
      generalize l.getD i 0 = y at *
      simp [ix])
    rw [List.nil_append, show qs.map (fun q => D.int ((rdL s' q).getD i 0)) = (qs.map fun q => (rdL s' q).getD i 0).map D.int by rw [List.map_map]; rfl] at lc
    have it : iterD (.lst (qs.map D.mut)) s' = .ok (.frz (qs.map D.mut)) s' := rfl
    generalize (qs.map fun q => (rdL s' q).getD i 0).map D.int = fl at *
    generalize (0 + (i : Int)) = ii at *
    generalize qs.map D.mut = ql at *
    simp [-lcE_eq, lcE, lcL, it, wipeE, iterE]
    simp [lc, R.bind]
  have lc2 := lc_typed (t := .nm 4) (fe := callE sumF (consA (lcE (iterE (varE 2)) (.nm 3) (yesB) (binE ixD (varE 3) (varE 4)) [3]) (nilA))) (envw := [some (tupI ts), some (raceD t0 bs), some (.lst (qs.map D.mut)), none, none]) (st := s') (fun (i : Nat) => D.int (0 + i)) (fun i => D.int (qs.map fun q => (rdL s' q).getD i 0).sum) (List.range ts.length) [] (by simp; omega) (by
    intro i hi
    have hi := List.mem_range.mp hi
    refine ⟨[some (tupI ts), some (raceD t0 bs), some (.lst (qs.map D.mut)), none, some (.int (0 + (i : Int)))], by simp, ?_⟩
    have q1 := inner i hi
    have q2 := sum_ints s' (qs.map fun q => (rdL s' q).getD i 0)
    generalize (qs.map fun q => (rdL s' q).getD i 0).sum = sm at *
    generalize (qs.map fun q => (rdL s' q).getD i 0).map D.int = fl at *
    generalize (0 + (i : Int)) = ii at *
    generalize D.lst (qs.map D.mut) = ql at *
    simp [-lcE_eq, q1, q2])
  rw [List.nil_append, show (List.range ts.length).map (fun (i : Nat) => D.int (0 + i)) = rangeD 0 ts.length from rfl] at lc2
  refine ⟨.tup ((List.range ts.length).map fun i => D.int (qs.map fun q => (rdL s' q).getD i 0).sum), s', ?_, hk, hl⟩
  · have lt : lenF [tupI ts] s' = .ok (.int ts.length) s' := lenF_tupI ..
    have rg : range1F [.int (ts.length : Nat)] s' = .ok (.frz (rangeD 0 ts.length)) s' := by
      have : ts.length < 4611686018427387904 := by omega
      simp [this]
    have it : ∀ l s, iterD (.lst l) s = .ok (.frz l) s := fun _ _ => rfl
    have tf : ∀ l s, tupleF [.lst l] s = .ok (.tup l) s := fun _ _ => rfl
    clear inner hq
    generalize (List.range ts.length).map (fun i => D.int (qs.map fun q => (rdL s' q).getD i 0).sum) = fin at *
    generalize rangeD 0 ts.length = rr at *
    generalize (rowsF t0 bs).map bagD = rl at *
    generalize qs.map D.mut = ql at *
    generalize (ts.length : Int) = L at *
    generalize raceD t0 bs = rd at *
    generalize tupI ts = td at *
    simp [-lcE_eq, -range1F_eq, F_least_misses_by, runF, B_least_misses_by, lcE, lcL, fr, it, wipeE, iterE]
    simp [-range1F_eq, e, R.bind, lt, rg, wipeE]
    simp [lc2, tf]
theorem t_least {ts : List Int} (hT : Trk ts) (hs : ts.sum.natAbs < big) {t0 : Int} {bs : List (List P2)} (h : RaceOk ts t0 bs) (st : Sto) :
    ∃ d st', F_least_misses [tupI ts, raceD t0 bs] st = .ok d st' ∧ (∀ k, k < st.length → st'[k]? = st[k]?) ∧ st.length ≤ st'.length := by
  obtain ⟨d, s', e, hk, hl⟩ := f_least_misses_by hT h st
  have e1 := f_check_track (st := st) hT
  have e2 := f_check_race (st := st) hT hs h
  refine ⟨d, s', ?_, hk, hl⟩
  generalize tupI ts = td at *
  generalize raceD t0 bs = rd at *
  have e4 : F_check_raced_v2 [td, rd] st = .ok .non st := by simp [F_check_raced_v2, runF, B_check_raced_v2, e1, e2]
  simp [F_least_misses, runF, B_least_misses, e4, e]
end Lap
namespace Lap
open PySem G
theorem done_ix (a b c d : D) (st : Sto) : ixD (.lst [a, b, c, d]) (.int 0) st = .ok a st ∧ ixD (.lst [a, b, c, d]) (.int 1) st = .ok b st ∧ ixD (.lst [a, b, c, d]) (.int 2) st = .ok c st ∧ ixD (.lst [a, b, c, d]) (.int 3) st = .ok d st :=
  ⟨ixD_lst _ _ _ rfl, ixD_lst _ _ _ rfl, ixD_lst _ _ _ rfl, ixD_lst _ _ _ rfl⟩
theorem done_cases (a b c d : D) (st : Sto) (w : Nat) (hw : w < 6) : F__law_done [.int w, .lst [a, b, c, d]] st =
    (match w with
      | 0 => F_least_misses [a, b] st
      | 1 => F_windows [a, b, c] st
      | 2 => F_strays [a, b, c] st
      | 3 => F_fewest_dead [a, b, c] st
      | 4 => F_apart_windows [a, b, c] st
      | _ => F_do_explain [a, b, c, d] st) := by
  obtain ⟨i0, i1, i2, i3⟩ := done_ix a b c d st
  have pk2 : pick [] [b, a] [1, 0] = [a, b] := rfl
  have pk3 : pick [] [c, b, a] [2, 1, 0] = [a, b, c] := rfl
  generalize D.lst [a, b, c, d] = ld at *
  have fin : ∀ r : R D, (match bindS r [some (D.int w), some ld] fun d s1 => S.ret d s1 with
      | .nx _ st1 => R.ok D.non st1 | .ret d st1 => R.ok d st1 | .exc e _ st1 => R.exc e st1 | _ => R.fail) = r := fun r => by cases r <;> rfl
  match w, hw with
  | 0, _ => simp [F__law_done, runF, B__law_done, i0, i1, pk2]; generalize F_least_misses [a, b] st = r; cases r <;> rfl
  | 1, _ => simp [F__law_done, runF, B__law_done, i0, i1, i2]; generalize F_windows [a, b, c] st = r; cases r <;> rfl
  | 2, _ => simp [F__law_done, runF, B__law_done, i0, i1, i2, pk3]; generalize F_strays [a, b, c] st = r; cases r <;> rfl
  | 3, _ => simp [F__law_done, runF, B__law_done, i0, i1, i2]; generalize F_fewest_dead [a, b, c] st = r; cases r <;> rfl
  | 4, _ => simp [F__law_done, runF, B__law_done, i0, i1, i2, pk3]; generalize F_apart_windows [a, b, c] st = r; cases r <;> rfl
  | 5, _ => simp [F__law_done, runF, B__law_done, i0, i1, i2, i3]; generalize F_do_explain [a, b, c, d] st = r; cases r <;> rfl
end Lap
namespace Lap
open PySem G
theorem eqED_int (i j : Int) (st : Sto) : eqED (.int i) (.int j) st = .ok (.bl (decide (i = j))) st := rfl
theorem eqED_bl (i j : Bool) (st : Sto) : eqED (.bl i) (.bl j) st = .ok (.bl (decide (i = j))) st := rfl
theorem eqED_str (x : Str) (st : Sto) : eqED (.str x) (.str x) st = .ok (.bl true) st := eqD_str x st
def PurE : Nat → D → Prop
  | _, .non => True
  | _, .bl _ => True
  | _, .int _ => True
  | _, .str _ => True
  | _, .emp => True
  | k + 1, .tup xs => xs.length ≤ 10000 ∧ ∀ x ∈ xs, PurE k x
  | k + 1, .lst xs => xs.length ≤ 10000 ∧ ∀ x ∈ xs, PurE k x
  | _, _ => False
theorem same3_refl : ∀ (k : Nat) (d : D) (st : Sto), PurE k d → R__law_same_v3 (k + 1) [d, d] st = .ok (.bl true) st
  | k, .non, st, _ => by
    show runF 2 3 (B__law_same_v3 (R__law_same_v3 k)) [_, _] st = _
    generalize R__law_same_v3 k = r
    simp [runF, B__law_same_v3, isiB, eqED_int, eqED_bl]
  | k, .bl b, st, _ => by
    show runF 2 3 (B__law_same_v3 (R__law_same_v3 k)) [_, _] st = _
    generalize R__law_same_v3 k = r
    simp [runF, B__law_same_v3, isiB, eqED_int, eqED_bl]
  | k, .int i, st, _ => by
    show runF 2 3 (B__law_same_v3 (R__law_same_v3 k)) [_, _] st = _
    generalize R__law_same_v3 k = r
    simp [runF, B__law_same_v3, isiB, eqED_int, eqED_bl]
  | k, .str s, st, _ => by
    show runF 2 3 (B__law_same_v3 (R__law_same_v3 k)) [_, _] st = _
    generalize R__law_same_v3 k = r
    have es : eqD (.str s) (.str s) st = .ok (.bl true) st := by
      show R.ok (D.bl (decide (s = s))) st = _
      simp
    simp [runF, B__law_same_v3, isiB, eqED_str, eqED_int]
  | k, .emp, st, _ => by
    show runF 2 3 (B__law_same_v3 (R__law_same_v3 k)) [_, _] st = _
    generalize R__law_same_v3 k = r
    have ln : lenEF [.emp] st = .ok (.int 0) st := rfl
    have i1 : isND .emp .non st = .ok (.bl false) st := rfl
    have i2 : ∀ c, isiD c .emp st = .ok (.bl (isiB .dic c)) st := fun _ => rfl
    have i3 : isi2D .tup .lst .emp st = .ok (.bl false) st := rfl
    simp [runF, B__law_same_v3, isiB, i1, i2, i3, ln, eqED_int]
  | 0, .tup xs, st, h => h.elim
  | 0, .lst xs, st, h => h.elim
  | k + 1, .tup xs, st, h => by
    obtain ⟨hl, hx⟩ := h
    show runF 2 3 (B__law_same_v3 (R__law_same_v3 (k + 1))) [_, _] st = _
    have ih := fun d hd => same3_refl k d st (hx d hd)
    generalize R__law_same_v3 (k + 1) = r at ih ⊢
    have e := same2_lc r (.tup xs) xs st hl (fun i h => ixD_tup _ _ _ (atI_nat' xs i h)) ih
    have al := all_trues xs.length st
    have rg : range1F [.int (xs.length : Int)] st = .ok (.frz (rangeD 0 xs.length)) st := by rw [range1F_eq, if_pos (by omega)]; simp
    have ln : lenEF [.tup xs] st = .ok (.int xs.length) st := lenF_tup ..
    have eE : ∀ i j : Int, eqED (.int i) (.int j) st = .ok (.bl (decide (i = j))) st := fun _ _ => rfl
    have i1 : ∀ c, isiD c (.tup xs) st = .ok (.bl (isiB .tup c)) st := fun _ => rfl
    have i2 : isi2D .tup .lst (.tup xs) st = .ok (.bl true) st := rfl
    generalize List.replicate xs.length (D.bl true) = rl at *
    generalize rangeD 0 xs.length = rgd at *
    clear hl
    generalize (xs.length : Int) = L at *
    generalize D.tup xs = td at *
    simp [-range1F_eq, runF, B__law_same_v3, i1, i2, isiB, ln, rg, eE, e, al]
  | k + 1, .lst xs, st, h => by
    obtain ⟨hl, hx⟩ := h
    show runF 2 3 (B__law_same_v3 (R__law_same_v3 (k + 1))) [_, _] st = _
    have ih := fun d hd => same3_refl k d st (hx d hd)
    generalize R__law_same_v3 (k + 1) = r at ih ⊢
    have e := same2_lc r (.lst xs) xs st hl (fun i h => ixD_lst _ _ _ (atI_nat' xs i h)) ih
    have al := all_trues xs.length st
    have rg : range1F [.int (xs.length : Int)] st = .ok (.frz (rangeD 0 xs.length)) st := by rw [range1F_eq, if_pos (by omega)]; simp
    have ln : lenEF [.lst xs] st = .ok (.int xs.length) st := lenF_lst ..
    have eE : ∀ i j : Int, eqED (.int i) (.int j) st = .ok (.bl (decide (i = j))) st := fun _ _ => rfl
    have i1 : ∀ c, isiD c (.lst xs) st = .ok (.bl (isiB .lst c)) st := fun _ => rfl
    have i2 : isi2D .tup .lst (.lst xs) st = .ok (.bl true) st := rfl
    generalize List.replicate xs.length (D.bl true) = rl at *
    generalize rangeD 0 xs.length = rgd at *
    clear hl
    generalize (xs.length : Int) = L at *
    generalize D.lst xs = td at *
    simp [-range1F_eq, runF, B__law_same_v3, i1, i2, isiB, ln, rg, eE, e, al]
  | 0, .raw _, _, h => h.elim
  | 0, .dic, _, h => h.elim
  | _ + 1, .dic, _, h => h.elim
  | 0, .fn _, _, h => h.elim
  | _ + 1, .fn _, _, h => h.elim
  | 0, .exv .., _, h => h.elim
  | 0, .rg .., _, h => h.elim
  | _ + 1, .rg .., _, h => h.elim
  | _ + 1, .exv .., _, h => h.elim
  | _ + 1, .raw _, _, h => h.elim
  | 0, .slo _, _, h => h.elim
  | _ + 1, .slo _, _, h => h.elim
  | 0, .mut _, _, h => h.elim
  | _ + 1, .mut _, _, h => h.elim
theorem w_same3 (d : D) (st : Sto) (h : PurE 19 d) : F__law_same_v3 [d, d] st = .ok (.bl true) st := same3_refl 19 d st h
end Lap
namespace Lap
open PySem G
section
variable {tab : Tab} {a : PySem.Addr} {c : Value} {od : Option PySem.Addr} {cl f x : Str} {d : D} {b : Bool} {env : G.Env} {i : Nat} {st : Sto}
theorem xf_ok (h : env[i]? = some (some (.exv a c od cl f d))) (hm : (cl, f) ∈ tab) (hf : f ≠ "") : xfE tab a c od i f env st = .ok d st := by
  unfold xfE
  rw [h]
  simp only [and_self, true_and]
  rw [if_pos ⟨hf, hm⟩]
end
end Lap
namespace Lap
open PySem G
theorem thing_pairs (b : List P2) : ThingL (b.map G.pairD) = true := by
  rw [thingL_all]
  intro x hx
  obtain ⟨p, _, rfl⟩ := List.mem_map.mp hx
  rfl
theorem thing_app {xs ys : List D} (h : ThingL xs = true) (g : ThingL ys = true) : ThingL (xs ++ ys) = true := by
  rw [thingL_all] at *
  intro x hx
  rcases List.mem_append.mp hx with hx | hx
  · exact h x hx
  · exact g x hx
theorem add_lst (xs ys : List D) (st : Sto) (h : xs.length + ys.length ≤ 16777216) : addD (.lst xs) (.lst ys) st = .ok (.lst (xs ++ ys)) st := by
  show (if xs.length + ys.length ≤ 16777216 then R.ok (D.lst (xs ++ ys)) st else R.fail) = _
  rw [if_pos h]
end Lap
namespace K40
open PySem G Lap
def r_body7 : SvS := (ifS (notB (tstE (callE F__law_same_v3 (consA (callE F__law_said (consA (varE 5) (consA (lstE (consA (varE 7) (consA (callE F__law_of (consA (varE 0) (consA (tupE (consA (varE 3) (consA (cE .non) (nilA)))) (nilA)))) (consA (callE F__law_of (consA (varE 0) (consA (tupE (consA (varE 4) (consA (cE .non) (nilA)))) (nilA)))) (consA (cE .non) (nilA)))))) (nilA)))) (consA (tupE (consA (cE (.str "track")) (consA (varE 7) (nilA)))) (nilA)))))) (retS (cE (.bl false))) (passS))
def r_body7' : SvS := (ifS (notB (tstE (callE F__law_same_v3 (consA (callE F__law_said (consA (varE 5) (consA (lstE (consA (varE 2) (consA (varE 7) (consA (callE F__law_of (consA (varE 0) (consA (tupE (consA (varE 4) (consA (cE .non) (nilA)))) (nilA)))) (consA (cE .non) (nilA)))))) (nilA)))) (consA (tupE (consA (cE (.str "race")) (consA (varE 7) (nilA)))) (nilA)))))) (retS (cE (.bl false))) (passS))
def r_body7'' : SvS := (ifS (notB (tstE (callE F__law_same_v3 (consA (callE F__law_said (consA (varE 5) (consA (lstE (consA (varE 2) (consA (varE 3) (consA (varE 7) (consA (cE .non) (nilA)))))) (nilA)))) (consA (tupE (consA (cE (.str "mat")) (consA (varE 7) (nilA)))) (nilA)))))) (retS (cE (.bl false))) (passS))
def r_body5 : SvS := (seqS (asgS (lstE (consA (varE 2) (consA (varE 3) (consA (varE 4) (consA (tupE (nilA)) (nilA)))))) (nameT 6)) (seqS (ifS (tstE (binE neD (callE F__law_said (consA (varE 5) (consA (varE 6) (nilA)))) (tupE (consA (cE (.str "told")) (consA (cE .non) (nilA)))))) (retS (cE (.bl false))) (passS)) (seqS (forS (iterE (callE F__law_odd_tracks (consA (varE 2) (nilA)))) (tgT (.nm 7)) r_body7) (seqS (forS (iterE (callE F__law_odd_races (consA (varE 2) (consA (varE 3) (nilA))))) (tgT (.nm 7)) r_body7') (forS (iterE (ifE (tstE (binE gtD (varE 5) (cE (.int 0)))) (callE F__law_odd_mats (consA (varE 2) (nilA))) (lstE (nilA)))) (tgT (.nm 7)) r_body7'')))))
def r_body8 : SvS := (ifS (orB (tstE (binE neD (callE F__law_said (consA (cE (.int 5)) (consA (lstE (consA (varE 2) (consA (varE 3) (consA (varE 4) (consA (varE 8) (nilA)))))) (nilA)))) (tupE (consA (cE (.str "told")) (consA (cE .non) (nilA)))))) (tstE (binE notBD (callKE F_do_explain nilA (consA (varE 8) (consA (varE 4) (consA (varE 3) (consA (varE 2) (nilA))))) 0 4 [3, 2, 1, 0]) (cE (.bl false))))) (retS (cE (.bl false))) (passS))
def r_body1 : SvS := (seqS (asgS (callE F__law_track (consA (varE 0) (nilA))) (nameT 2)) (seqS (parS 3 4 (consA (callE F__law_race (consA (varE 0) (consA (varE 2) (consA (cE (.int 4)) (nilA))))) (consA (callE F__law_take (consA (varE 0) (consA (callE lenF (consA (varE 2) (nilA))) (nilA)))) (nilA)))) (seqS (forS (callI range1F (consA (cE (.int 6)) (nilA))) (tgT (.nm 5)) r_body5) (forS (iterE (tupE (consA (cE .non) (consA (cE (.int 0)) (consA (cE (.bl true)) (consA (cE (.str "dead")) (consA (lstE (nilA)) (consA (empE) (consA (tupE (consA (cE .non) (nilA))) (consA (tupE (consA (tupE (consA (cE (.int 1)) (consA (cE (.int 2)) (consA (cE (.int 3)) (nilA))))) (nilA))) (consA (tupE (consA (lstE (consA (cE (.int 1)) (consA (cE (.int 2)) (nilA)))) (nilA))) (consA (tupE (consA (tupE (consA (cE (.int 1)) (consA (cE (.bl true)) (nilA)))) (nilA))) (consA (tupE (consA (tupE (consA (cE (.int 2)) (consA (cE (.int 1)) (nilA)))) (nilA))) (nilA)))))))))))))) (tgT (.nm 8)) r_body8))))
theorem r_right_eq : B__law_right = seqS (forS (callI range1F (consA (cE (.int 2)) (nilA))) (tgT (.nm 1)) r_body1) (retS (cE (.bl true))) := rfl
def q_1 : SvS := asgS (varE 1) (tupT 2 (consT (nameT 2) (consT (nameT 3) (nilT))))
def q_2 : SvS := asgS (lstE (consA (cE .non) (consA (cE (.int 7)) (consA (cE (.str "")) (consA (tupE (nilA)) (consA (tupE (consA (varE 2) (nilA))) (consA (tupE (consA (varE 2) (consA (varE 3) (consA (tupE (nilA)) (nilA))))) (consA (lstE (consA (varE 2) (consA (varE 3) (nilA)))) (consA (tupE (consA (varE 2) (consA (callE listF (consA (varE 3) (nilA))) (nilA)))) (consA (tupE (consA (binE subD (cE (.int 0)) (cE (.int 1))) (consA (varE 3) (nilA)))) (consA (tupE (consA (cE (.bl true)) (consA (varE 3) (nilA)))) (consA (tupE (consA (cE .non) (consA (varE 3) (nilA)))) (consA (tupE (consA (varE 2) (consA (tupE (nilA)) (nilA)))) (consA (tupE (consA (varE 2) (consA (binE mulD (tupE (consA (tupE (nilA)) (nilA))) (cE (.int 7))) (nilA)))) (consA (empE) (consA (tupE (consA (varE 3) (consA (varE 2) (nilA)))) (nilA))))))))))))))))) (nameT 4)
def q_3 : SvS := asgS (binE addD (varE 4) (lcE (iterE (tupE (consA (cE .non) (consA (lstE (nilA)) (consA (tupE (consA (tupE (consA (varE 2) (consA (cE (.int 0)) (nilA)))) (nilA))) (consA (tupE (consA (tupE (consA (binE addD (varE 2) (cE (.int 1))) (nilA))) (nilA))) (consA (tupE (consA (tupE (consA (binE addD (varE 2) (cE (.int 9999))) (consA (callE lenF (consA (varE 0) (nilA))) (nilA)))) (nilA))) (consA (tupE (consA (tupE (consA (binE addD (varE 2) (cE (.int 9999))) (consA (cE (.int 0)) (nilA)))) (consA (tupE (consA (binE addD (varE 2) (cE (.int 9999))) (consA (cE (.int 0)) (nilA)))) (nilA)))) (consA (tupE (consA (tupE (consA (binE addD (varE 2) (cE (.int 9999))) (consA (cE (.bl true)) (nilA)))) (nilA))) (nilA)))))))))) (.nm 5) (yesB) (tupE (consA (varE 2) (consA (binE addD (sliceE (varE 3) (noO) (someO (unE negD (cE (.int 1))))) (tupE (consA (varE 5) (nilA)))) (nilA)))) [5])) (nameT 4)
def q_4 : SvS := retS (binE addD (varE 4) (lstE (consA (tupE (consA (varE 2) (consA (ifE (tstE (binE gtD (callE sumF (consA (varE 0) (nilA))) (cE (.int 1)))) (binE addD (sliceE (varE 3) (noO) (someO (unE negD (cE (.int 1))))) (tupE (consA (tupE (consA (tupE (consA (binE addD (varE 2) (binE powD (cE (.int 10)) (cE (.int 25)))) (consA (cE (.int 0)) (nilA)))) (consA (tupE (consA (binE addD (binE addD (varE 2) (binE powD (cE (.int 10)) (cE (.int 25)))) (cE (.int 1))) (consA (cE (.int 0)) (nilA)))) (nilA)))) (nilA)))) (tupE (consA (cE .non) (nilA)))) (nilA)))) (nilA))))
theorem q_eq : B__law_odd_races = seqS q_1 (seqS q_2 (seqS q_3 q_4)) := rfl
def sdBody : SvS := exprS (callE F__law_done (consA (varE 0) (consA (varE 1) (nilA))))
theorem said_eq : F__law_said = runF 2 3 (seqS (tryS tabL sdBody [("InvalidTrack", some 2, fun xa xc xd => retS (tupE (consA (cE (.str "track")) (consA (xfE tabL xa xc xd 2 "given") (nilA))))), ("InvalidRace", some 2, fun xa xc xd => retS (tupE (consA (cE (.str "race")) (consA (xfE tabL xa xc xd 2 "given") (nilA))))), ("InvalidMat", some 2, fun xa xc xd => retS (tupE (consA (cE (.str "mat")) (consA (xfE tabL xa xc xd 2 "given") (nilA))))), ("LapError", none, fun _ _ _ => retS (tupE (consA (cE (.str "other")) (consA (cE .non) (nilA)))))]) (retS (tupE (consA (cE (.str "told")) (consA (cE .non) (nilA)))))) := rfl
def wl : List (Str × Str) := [("InvalidTrack", "track"), ("InvalidRace", "race"), ("InvalidMat", "mat")]
theorem said_exc {w th : D} {cl wd : Str} {k : D} {st : Sto} (hc : F__law_done [w, th] st = .exc ⟨cl, "given", k⟩ st) (hm : (cl, wd) ∈ wl) : F__law_said [w, th] st = .ok (.tup [.str wd, k]) st := by
  rw [said_eq]
  have hb : sdBody [some w, some th, none] st = .exc ⟨cl, "given", k⟩ [some w, some th, none] st := by
    unfold sdBody
    simp [hc]
  generalize sdBody = wb at *
  have xf : ∀ c f : Str, (c, f) ∈ tabL → f ≠ "" → ∀ (o0 o1 : Option D) (s : Sto), xfE tabL 0 .none none 2 f [o0, o1, some (.exv 0 .none none c f k)] s = .ok k s := fun c f h1 h2 o0 o1 s => xf_ok (i := 2) rfl h1 h2
  have x1 := xf "InvalidTrack" "given" (by decide +kernel) (by decide)
  have x2 := xf "InvalidRace" "given" (by decide +kernel) (by decide)
  have x3 := xf "InvalidMat" "given" (by decide +kernel) (by decide)
  have a11 : excTest tabL "InvalidTrack" "InvalidTrack" = some true := by decide +kernel
  have a21 : excTest tabL "InvalidRace" "InvalidTrack" = some false := by decide +kernel
  have a22 : excTest tabL "InvalidRace" "InvalidRace" = some true := by decide +kernel
  have a31 : excTest tabL "InvalidMat" "InvalidTrack" = some false := by decide +kernel
  have a32 : excTest tabL "InvalidMat" "InvalidRace" = some false := by decide +kernel
  have a33 : excTest tabL "InvalidMat" "InvalidMat" = some true := by decide +kernel
  unfold wl at hm
  simp only [List.mem_cons, List.not_mem_nil, or_false, Prod.mk.injEq] at hm
  generalize tabL = tl at *
  rcases hm with ⟨rfl, rfl⟩ | ⟨rfl, rfl⟩ | ⟨rfl, rfl⟩
  · simp [runF, tryS, hb, handS, runH, clrS, noXS, a11, x1]
  · simp [runF, tryS, hb, handS, runH, clrS, noXS, a21, a22, x2]
  · simp [runF, tryS, hb, handS, runH, clrS, noXS, a31, a32, a33, x3]
theorem said_ok {w th d : D} {st st' : Sto} (hc : F__law_done [w, th] st = .ok d st') : F__law_said [w, th] st = .ok (.tup [.str "told", .non]) st' := by
  rw [said_eq]
  have hb : sdBody [some w, some th, none] st = .nx [some w, some th, none] st' := by
    unfold sdBody
    simp [hc]
  generalize sdBody = wb at *
  simp [runF, tryS, hb]
theorem ne_told (st : Sto) : neD (.tup [.str "told", .non]) (.tup [.str "told", .non]) st = .ok (.bl false) st := by
  have : eqO (.tup [.str "told", .non]) (.tup [.str "told", .non]) = some true := by decide +kernel
  unfold neD
  rw [this]; rfl
section
variable {ts : List Int} {st : Sto}
theorem done_track (w : Nat) (hw : w < 6) (d r m v : D) (h : Thing d = true) (hb : isTrackB d = false) : F__law_done [.int w, .lst [d, r, m, v]] st = .exc ⟨"InvalidTrack", "given", d⟩ st := by
  rw [done_cases d r m v st w hw]
  obtain ⟨e1, e2, e3, e4, e5⟩ := x_looked (xl_track (st := st) d r m h hb)
  have e0 := x_raced (xr_track (st := st) d r h hb)
  match w, hw with
  | 0, _ => exact e0
  | 1, _ => exact e1
  | 2, _ => exact e2
  | 3, _ => exact e3
  | 4, _ => exact e4
  | 5, _ => exact e5 v
theorem done_race (hT : Trk ts) (hs : ts.sum.natAbs < big) (w : Nat) (hw : w < 6) (d m v : D) (h : Thing d = true) (hb : isRaceB ts d = false) : F__law_done [.int w, .lst [tupI ts, d, m, v]] st = .exc ⟨"InvalidRace", "given", d⟩ st := by
  rw [done_cases (tupI ts) d m v st w hw]
  obtain ⟨e1, e2, e3, e4, e5⟩ := x_looked (xl_race (st := st) hT hs d m h hb)
  have e0 := x_raced (xr_race (st := st) hT hs d h hb)
  match w, hw with
  | 0, _ => exact e0
  | 1, _ => exact e1
  | 2, _ => exact e2
  | 3, _ => exact e3
  | 4, _ => exact e4
  | 5, _ => exact e5 v
theorem done_mat (hT : Trk ts) (hs : ts.sum.natAbs < big) {t0 : Int} {bs : List (List P2)} (h : RaceOk ts t0 bs) (w : Nat) (hw : w < 6) (h0 : 0 < w) (m v : D) (hm : Thing m = true) (hb : upB m (ts.length - 1) = false) : F__law_done [.int w, .lst [tupI ts, raceD t0 bs, m, v]] st = .exc ⟨"InvalidMat", "given", m⟩ st := by
  rw [done_cases (tupI ts) (raceD t0 bs) m v st w hw]
  obtain ⟨e1, e2, e3, e4, e5⟩ := x_looked (xl_mat (st := st) hT hs h m hm hb)
  match w, hw with
  | 0, _ => omega
  | 1, _ => exact e1
  | 2, _ => exact e2
  | 3, _ => exact e3
  | 4, _ => exact e4
  | 5, _ => exact e5 v
theorem done_right (hT : Trk ts) (hs : ts.sum.natAbs < big) {t0 : Int} {bs : List (List P2)} (h : RaceOk ts t0 bs) {m : Nat} (hm : m < ts.length) {p : Nat} (hp : Pool p st) (w : Nat) (hw : w < 6) :
    ∃ d st', F__law_done [.int w, .lst [tupI ts, raceD t0 bs, .int m, .tup []]] st = .ok d st' ∧ Pool p st' := by
  rw [done_cases (tupI ts) (raceD t0 bs) (.int m) (.tup []) st w hw]
  match w, hw with
  | 0, _ =>
    obtain ⟨d, s', e, k, l⟩ := t_least hT hs h st
    exact ⟨d, s', e, pool_keep hp fun i hi => k i hi⟩
  | 1, _ =>
    obtain ⟨ex, e⟩ := t_windows hT hs h hm st
    exact ⟨_, _, e, pool_app hp ex⟩
  | 2, _ =>
    obtain ⟨ex, last, e, -⟩ := t_strays hT hs h hm st
    exact ⟨_, _, e, pool_app hp ex⟩
  | 3, _ =>
    obtain ⟨ex, last, ls, e, -⟩ := t_fewest hT hs h hm st
    exact ⟨_, _, e, pool_app hp ex⟩
  | 4, _ =>
    obtain ⟨ex, last, ls, e, -⟩ := t_apart hT hs h hm st
    exact ⟨_, _, e, pool_app hp ex⟩
  | 5, _ =>
    obtain ⟨v, ex, e⟩ := t_explain_nil (st := st) hT hs h hm
    exact ⟨_, _, e, pool_app hp ex⟩
end
def oddT (ts : List Int) : List D := [.non, .int 7, .str "", .tup [], .lst (ts.map D.int), .tup (.int 0 :: (ts.map D.int).drop 1), .tup ((ts.map D.int).take (ts.length - 1) ++ [.bl true]), .tup ((ts.map D.int).take (ts.length - 1) ++ [.non]), .tup ((ts.map D.int).take (ts.length - 1) ++ [.int (-3)]),
  .tup [.int 1, .int 1, .int 1, .int 1, .int 1, .int 1, .int 1, .int 1, .int 1], .tup [.str "1"], .emp, .tup [.tup (ts.map D.int)]]
theorem thing_ints (l : List Int) : ThingL (l.map D.int) = true := thingL_all.mpr fun x hx => by obtain ⟨i, -, rfl⟩ := List.mem_map.mp hx; rfl
theorem thing_sub {xs ys : List D} (h : ThingL ys = true) (s : ∀ x ∈ xs, x ∈ ys) : ThingL xs = true := thingL_all.mpr fun x hx => thingL_all.mp h x (s x hx)
theorem pure_int (k : Nat) (i : Int) : PurE k (.int i) := by cases k <;> trivial
theorem pure_ints (k : Nat) (l : List Int) : ∀ x ∈ l.map D.int, PurE k x := fun x hx => by obtain ⟨i, -, rfl⟩ := List.mem_map.mp hx; exact pure_int k i
theorem pure_non (k : Nat) : PurE k .non := by cases k <;> trivial
theorem pure_bl (k : Nat) (b : Bool) : PurE k (.bl b) := by cases k <;> trivial
theorem pure_str (k : Nat) (b : Str) : PurE k (.str b) := by cases k <;> trivial
theorem pure_emp (k : Nat) : PurE k .emp := by cases k <;> trivial
theorem pure_tup {k : Nat} {xs : List D} (hl : xs.length ≤ 10000) (h : ∀ x ∈ xs, PurE k x) : PurE (k + 1) (.tup xs) := ⟨hl, h⟩
theorem pure_lst {k : Nat} {xs : List D} (hl : xs.length ≤ 10000) (h : ∀ x ∈ xs, PurE k x) : PurE (k + 1) (.lst xs) := ⟨hl, h⟩
theorem all_cons {P : D → Prop} {x : D} {xs : List D} (h : P x) (g : ∀ y ∈ xs, P y) : ∀ y ∈ x :: xs, P y := fun y hy => by
  rcases List.mem_cons.mp hy with rfl | hy
  · exact h
  · exact g y hy
theorem all_nil {P : D → Prop} : ∀ y ∈ ([] : List D), P y := fun y hy => absurd hy (List.not_mem_nil)
theorem all_app {P : D → Prop} {xs ys : List D} (h : ∀ y ∈ xs, P y) (g : ∀ y ∈ ys, P y) : ∀ y ∈ xs ++ ys, P y := fun y hy => by
  rcases List.mem_append.mp hy with hy | hy
  · exact h y hy
  · exact g y hy
theorem track_end {xs : List D} {x : D} (h : fromB x 1 = false) : isTrackB (.tup (xs ++ [x])) = false := by
  show (decide _ && (xs ++ [x]).all fun x => fromB x 1) = false
  rw [List.all_append]
  simp [h]
theorem oddT_ok {ts : List Int} (hl : ts.length ≤ 8) : ∀ d ∈ oddT ts, Thing d = true ∧ isTrackB d = false ∧ PurE 18 d := by
  have ti := thing_ints ts
  have tk : ∀ k, ∀ x ∈ (ts.map D.int).take k, x ∈ ts.map D.int := fun k x hx => List.mem_of_mem_take hx
  have dk : ∀ k, ∀ x ∈ (ts.map D.int).drop k, x ∈ ts.map D.int := fun k x hx => List.mem_of_mem_drop hx
  have pi := fun k => pure_ints k ts
  have pt : ∀ k j, ∀ x ∈ (ts.map D.int).take j, PurE k x := fun k j x hx => pi k x (tk j x hx)
  have pd : ∀ k j, ∀ x ∈ (ts.map D.int).drop j, PurE k x := fun k j x hx => pi k x (dk j x hx)
  have endT : ∀ x, Thing x = true → Thing (.tup ((ts.map D.int).take (ts.length - 1) ++ [x])) = true := fun x hx => by
    show ThingL _ = true
    exact thing_app (thing_sub ti (tk _)) (by simp [ThingL, hx])
  have endP : ∀ x, PurE 17 x → PurE 18 (.tup ((ts.map D.int).take (ts.length - 1) ++ [x])) := fun x hx => pure_tup (by simp; omega) (all_app (pt _ _) (all_cons hx all_nil))
  unfold oddT
  refine all_cons ⟨rfl, rfl, pure_non _⟩ (all_cons ⟨rfl, rfl, pure_int _ _⟩ (all_cons ⟨rfl, rfl, pure_str _ _⟩ (all_cons ⟨rfl, rfl, pure_tup (by simp) all_nil⟩ (all_cons ⟨ti, rfl, pure_lst (by simp; omega) (pi _)⟩ (all_cons ⟨?_, ?_, pure_tup (by simp; omega) (all_cons (pure_int _ _) (pd _ _))⟩ (all_cons ⟨endT _ rfl, track_end rfl, endP _ (pure_bl _ _)⟩ (all_cons ⟨endT _ rfl, track_end rfl, endP _ (pure_non _)⟩ (all_cons ⟨endT _ rfl, track_end rfl, endP _ (pure_int _ _)⟩ (all_cons ⟨rfl, rfl, ?_⟩ (all_cons ⟨rfl, rfl, ?_⟩ (all_cons ⟨rfl, rfl, pure_emp _⟩ (all_cons ⟨?_, rfl, ?_⟩ all_nil))))))))))))
  · show ThingL _ = true
    rw [ThingL, thing_sub ti (dk _)]; rfl
  · show (decide _ && (D.int 0 :: (ts.map D.int).drop 1).all fun x => fromB x 1) = false
    rw [List.all_cons]
    simp [fromB]
  · exact pure_tup (by simp) fun x hx => by
      simp at hx
      subst hx
      exact pure_int _ _
  · exact pure_tup (by simp) (all_cons (pure_str _ _) all_nil)
  · show ThingL _ = true
    rw [ThingL]
    show (ThingL _ && ThingL []) = true
    rw [ti]; rfl
  · exact pure_tup (by simp) (all_cons (pure_tup (by simp; omega) (pi _)) all_nil)
theorem cut_end (xs : List D) : cutD xs none (some (-1)) = xs.take (xs.length - 1) := by
  unfold cutD
  simp [HT.sIx]
  congr 1
  omega
theorem f_odd_tracks {ts : List Int} (hl : ts.length ≤ 8) (st : Sto) : F__law_odd_tracks [tupI ts] st = .ok (.lst (oddT ts)) st := by
  have c1 : sliceD (tupI ts) (some 1) none st = .ok (.tup ((ts.map D.int).drop 1)) st := by
    unfold tupI
    rw [sliceD_tup]
    exact congrArg (fun x => R.ok (D.tup x) st) (Lap.cutD_from (ts.map D.int) 1)
  have c2 : sliceD (tupI ts) none (some (-1)) st = .ok (.tup ((ts.map D.int).take (ts.length - 1))) st := by
    unfold tupI
    rw [sliceD_tup, cut_end, List.length_map]
  have a1 := add_tup [.int 0] ((ts.map D.int).drop 1) st (by simp; omega)
  have a2 : ∀ x, addD (.tup ((ts.map D.int).take (ts.length - 1))) (.tup [x]) st = .ok (.tup ((ts.map D.int).take (ts.length - 1) ++ [x])) st := fun x => add_tup _ _ st (by simp; omega)
  have lf : listF [tupI ts] st = .ok (.lst (ts.map D.int)) st := rfl
  have m := m19 st
  have tt : tupI ts = .tup (ts.map D.int) := rfl
  unfold oddT
  rw [List.singleton_append] at a1
  rw [← tt]
  generalize (ts.map D.int).take (ts.length - 1) = tk at *
  generalize (ts.map D.int).drop 1 = dk at *
  generalize ts.map D.int = il at *
  clear tt
  generalize tupI ts = td at *
  simp [F__law_odd_tracks, runF, B__law_odd_tracks, c1, c2, a1, a2, lf, m]
theorem race_end {ts : List Int} {t0 : Int} {xs : List D} {x : D} (h : fullB ts t0 x = false) : isRaceB ts (.tup [.int t0, .tup (xs ++ [x])]) = false := by
  show (decide (0 ≤ t0) && (decide _ && decide _) && (xs ++ [x]).all (fullB ts t0)) = false
  rw [List.all_append]
  simp [h]
theorem full_wrong {ts : List Int} {t0 : Int} {d : D} (h : wrongD ts d ≠ []) : fullB ts t0 d = false := by
  unfold fullB
  cases e : wrongD ts d with
  | nil => exact absurd e h
  | cons x xs => rfl
theorem full_fast {ts : List Int} {t0 : Int} {b : List P2} (h : wrongI ts (fullL t0 b) ≠ []) : fullB ts t0 (bagD b) = false := by
  unfold fullB
  rw [bagOf_bag]
  show (_ && decide (wrongI ts (fullL t0 b) = [])) = false
  rw [decide_eq_false h, Bool.and_false]
theorem wrong_first {ts : List Int} {x : D} {xs : List D} (hl : xs.length ≤ 29) (h : isMarkB ts x = false) : wrongD ts (.tup (x :: xs)) ≠ [] := by
  show (if (x :: xs).length ≤ 30 then wrongL ts none 0 (x :: xs) else [.non]) ≠ []
  rw [if_pos (by simp; omega), wrongL_cons, h]
  simp
theorem wrong_twice {ts : List Int} (x : P2) : wrongD ts (.tup [pairD x, pairD x]) ≠ [] := by
  show (if [pairD x, pairD x].length ≤ 30 then wrongL ts none 0 [pairD x, pairD x] else [.non]) ≠ []
  rw [if_pos (by simp), wrongL_cons, wrongL_cons]
  have : leB (pairD x) (pairD x) = true := by
    show (!decide (ltP2 x x)) = true
    simp [ltP2]
  have ht : (isMarkB ts (pairD x) && !(match some (pairD x) with | some p => leB (pairD x) p | none => false)) = false := by
    show (isMarkB ts (pairD x) && !(leB (pairD x) (pairD x))) = false
    rw [this]; simp
  rw [ht]
  generalize (isMarkB ts (pairD x) && _) = c
  cases c <;> simp
theorem way_zero {ts : List Int} (h : 1 ≤ ts.length) : wayI ts 0 0 = ts.sum := by
  have := way_back (ts := ts) (m := 0) (o := 0) (by omega) (by omega)
  rw [if_pos rfl] at this
  omega
theorem fast_one {ts : List Int} (hT : Trk ts) (t0 : Int) : wrongI ts (fullL t0 [(t0, 0)]) ≠ [] := fun h => by
  have h1 := hT.pos
  have := wrong_nil.mp h 0 (by simp [fullL])
  have w := way_pos hT (m := 0) (o := 0) (by omega) (by omega)
  have f : followB ts (t0, 0) (t0, 0) = true := this
  have f : decide (t0 - t0 ≥ wayI ts 0 0) = true := f
  simp at f
  omega
theorem fast_two {ts : List Int} (hT : Trk ts) (t0 a : Int) (hs : 1 < ts.sum) : wrongI ts (fullL t0 [(a, 0), (a + 1, 0)]) ≠ [] := fun h => by
  have h1 := hT.pos
  have := wrong_nil.mp h 1 (by simp [fullL])
  have w := way_zero (ts := ts) (by omega)
  have f : followB ts (a + 1, 0) (a, 0) = true := this
  have f : decide (a + 1 - a ≥ wayI ts 0 0) = true := f
  simp at f
  omega
def cutR (bs : List (List P2)) : List D := (bs.map bagD).take (bs.length - 1)
def badRows (M : Nat) (t0 : Int) : List D := [.non, .lst [], .tup [.tup [.int t0, .int 0]], .tup [.tup [.int (t0 + 1)]], .tup [.tup [.int (t0 + 9999), .int M]], .tup [.tup [.int (t0 + 9999), .int 0], .tup [.int (t0 + 9999), .int 0]], .tup [.tup [.int (t0 + 9999), .bl true]]]
def lastRow (t0 : Int) : D := .tup [.tup [.int (t0 + 10000000000000000000000000), .int 0], .tup [.int (t0 + 10000000000000000000000000 + 1), .int 0]]
def oddRA (t0 : Int) (bs : List (List P2)) : List D := [.non, .int 7, .str "", .tup [], .tup [.int t0], .tup [.int t0, .tup (bs.map bagD), .tup []], .lst [.int t0, .tup (bs.map bagD)], .tup [.int t0, .lst (bs.map bagD)], .tup [.int (-1), .tup (bs.map bagD)], .tup [.bl true, .tup (bs.map bagD)], .tup [.non, .tup (bs.map bagD)],
  .tup [.int t0, .tup []], .tup [.int t0, .tup [.tup [], .tup [], .tup [], .tup [], .tup [], .tup [], .tup []]], .emp, .tup [.tup (bs.map bagD), .int t0]]
def oddRB (ts : List Int) (t0 : Int) (bs : List (List P2)) : List D := (badRows ts.length t0).map fun x => .tup [.int t0, .tup (cutR bs ++ [x])]
def oddRC (ts : List Int) (t0 : Int) (bs : List (List P2)) : D := .tup [.int t0, .tup (if 1 < ts.sum then cutR bs ++ [lastRow t0] else [.non])]
def oddR (ts : List Int) (t0 : Int) (bs : List (List P2)) : List D := oddRA t0 bs ++ oddRB ts t0 bs ++ [oddRC ts t0 bs]
def WrongR (ts : List Int) (d : D) : Prop := Thing d = true ∧ isRaceB ts d = false ∧ PurE 18 d
theorem pure_pair (k : Nat) (x : P2) : PurE (k + 1) (pairD x) := pure_tup (by simp) (all_cons (pure_int _ _) (all_cons (pure_int _ _) all_nil))
theorem pure_bag (k : Nat) {b : List P2} (hl : b.length ≤ 10000) : PurE (k + 2) (bagD b) := pure_tup (by simp; omega) fun x hx => by
  obtain ⟨p, -, rfl⟩ := List.mem_map.mp hx
  exact pure_pair k p
theorem thing_bags (bs : List (List P2)) : ThingL (bs.map bagD) = true := thingL_all.mpr fun x hx => by
  obtain ⟨b, -, rfl⟩ := List.mem_map.mp hx
  exact thing_pairs b
theorem thing_pr {a b : D} (h : Thing a = true) (g : Thing b = true) : Thing (.tup [a, b]) = true := by
  show (Thing a && (Thing b && true)) = true
  rw [h, g]; rfl
theorem badRows_ok {ts : List Int} (hT : Trk ts) {t0 : Int} : ∀ x ∈ badRows ts.length t0, Thing x = true ∧ fullB ts t0 x = false ∧ PurE 16 x := by
  have pi := fun k i => pure_int k i
  unfold badRows
  refine all_cons ⟨rfl, full_wrong (by simp [wrongD]), pure_non _⟩ (all_cons ⟨rfl, full_wrong (by simp [wrongD]), pure_lst (by simp) all_nil⟩ (all_cons ⟨rfl, full_fast (b := [(t0, 0)]) (fast_one hT t0), pure_tup (by simp) (all_cons (pure_pair 14 (t0, 0)) all_nil)⟩ (all_cons ⟨rfl, full_wrong (wrong_first (by simp) rfl), pure_tup (by simp) (all_cons (pure_tup (by simp) (all_cons (pi _ _) all_nil)) all_nil)⟩ (all_cons ⟨rfl, full_wrong (wrong_first (by simp) ?_), pure_tup (by simp) (all_cons (pure_pair 14 (t0 + 9999, (ts.length : Int))) all_nil)⟩ (all_cons ⟨rfl, full_wrong (wrong_twice (t0 + 9999, 0)), pure_tup (by simp) (all_cons (pure_pair 14 (t0 + 9999, 0)) (all_cons (pure_pair 14 (t0 + 9999, 0)) all_nil))⟩ (all_cons ⟨rfl, full_wrong (wrong_first (by simp) ?_), pure_tup (by simp) (all_cons (pure_tup (by simp) (all_cons (pi _ _) (all_cons (pure_bl _ _) all_nil))) all_nil)⟩ all_nil))))))
  · show (fromB (.int (t0 + 9999)) 0 && decide (0 ≤ (ts.length : Int) ∧ (ts.length : Int) ≤ ts.length - 1)) = false
    rw [decide_eq_false (by omega), Bool.and_false]
  · show (fromB (.int (t0 + 9999)) 0 && false) = false
    rw [Bool.and_false]
theorem oddR_ok {ts : List Int} (hT : Trk ts) {t0 : Int} {bs : List (List P2)} (h : RaceOk ts t0 bs) : ∀ d ∈ oddR ts t0 bs, WrongR ts d := by
  have n1 := h.n1
  have n6 := h.n6
  have tb := thing_bags bs
  have tR : Thing (.tup (bs.map bagD)) = true := tb
  have tL : Thing (.lst (bs.map bagD)) = true := tb
  have pb : ∀ k, ∀ x ∈ bs.map bagD, PurE (k + 2) x := fun k x hx => by
    obtain ⟨b, hb, rfl⟩ := List.mem_map.mp hx
    exact pure_bag k (by have := (h.bag b hb).len; omega)
  have pR : ∀ k, PurE (k + 3) (.tup (bs.map bagD)) := fun k => pure_tup (by simp; omega) (pb k)
  have pL : ∀ k, PurE (k + 3) (.lst (bs.map bagD)) := fun k => pure_lst (by simp; omega) (pb k)
  have pi := fun k i => pure_int k i
  have ck : ∀ x ∈ cutR bs, x ∈ bs.map bagD := fun x hx => List.mem_of_mem_take hx
  have cl : (cutR bs).length ≤ 6 := by unfold cutR; simp; omega
  have en : ∀ x, Thing x = true → PurE 16 x → Thing (.tup [.int t0, .tup (cutR bs ++ [x])]) = true ∧ PurE 18 (.tup [.int t0, .tup (cutR bs ++ [x])]) := fun x hx px =>
    ⟨thing_pr rfl (thing_app (thing_sub tb ck) (by simp [ThingL, hx])), pure_tup (by simp) (all_cons (pi _ _) (all_cons (pure_tup (by simp; omega) (all_app (fun y hy => pb 14 y (ck y hy)) (all_cons px all_nil))) all_nil))⟩
  unfold oddR
  refine all_app (all_app ?_ fun d hd => ?_) (all_cons ?_ all_nil)
  · unfold oddRA
    refine all_cons ⟨rfl, rfl, pure_non _⟩ (all_cons ⟨rfl, rfl, pi _ _⟩ (all_cons ⟨rfl, rfl, pure_str _ _⟩ (all_cons ⟨rfl, rfl, pure_tup (by simp) all_nil⟩ (all_cons ⟨rfl, rfl, pure_tup (by simp) (all_cons (pi _ _) all_nil)⟩ (all_cons ⟨?_, rfl, pure_tup (by simp) (all_cons (pi _ _) (all_cons (pR _) (all_cons (pure_tup (by simp) all_nil) all_nil)))⟩ (all_cons ⟨?_, rfl, pure_lst (by simp) (all_cons (pi _ _) (all_cons (pR _) all_nil))⟩ (all_cons ⟨thing_pr rfl tL, rfl, pure_tup (by simp) (all_cons (pi _ _) (all_cons (pL _) all_nil))⟩ (all_cons ⟨thing_pr rfl tR, ?_, pure_tup (by simp) (all_cons (pi _ _) (all_cons (pR _) all_nil))⟩ (all_cons ⟨thing_pr rfl tR, rfl, pure_tup (by simp) (all_cons (pure_bl _ _) (all_cons (pR _) all_nil))⟩ (all_cons ⟨thing_pr rfl tR, rfl, pure_tup (by simp) (all_cons (pure_non _) (all_cons (pR _) all_nil))⟩ (all_cons ⟨rfl, ?_, pure_tup (by simp) (all_cons (pi _ _) (all_cons (pure_tup (by simp) all_nil) all_nil))⟩ (all_cons ⟨rfl, ?_, ?_⟩ (all_cons ⟨rfl, rfl, pure_emp _⟩ (all_cons ⟨thing_pr tR rfl, rfl, pure_tup (by simp) (all_cons (pR _) (all_cons (pi _ _) all_nil))⟩ all_nil))))))))))))))
    · show (true && (Thing (.tup (bs.map bagD)) && (true && true))) = true
      rw [tR]; rfl
    · show (true && (Thing (.tup (bs.map bagD)) && true)) = true
      rw [tR]; rfl
    · simp [isRaceB]
    · simp [isRaceB]
    · simp [isRaceB]
    · refine pure_tup (by simp) (all_cons (pi _ _) (all_cons (pure_tup (by simp) fun x hx => ?_) all_nil))
      simp at hx
      subst hx
      exact pure_tup (by simp) all_nil
  · obtain ⟨x, hx, rfl⟩ := List.mem_map.mp hd
    obtain ⟨a, b, c⟩ := badRows_ok hT x hx
    exact ⟨(en x a c).1, race_end b, (en x a c).2⟩
  · unfold oddRC
    by_cases c : 1 < ts.sum
    · rw [if_pos c]
      have p8 : PurE 16 (lastRow t0) := pure_bag 14 (b := [(t0 + 10000000000000000000000000, 0), (t0 + 10000000000000000000000000 + 1, 0)]) (by simp)
      exact ⟨(en (lastRow t0) rfl p8).1, race_end (full_fast (b := [(t0 + 10000000000000000000000000, 0), (t0 + 10000000000000000000000000 + 1, 0)]) (fast_two hT t0 _ c)), (en (lastRow t0) rfl p8).2⟩
    · rw [if_neg c]
      exact ⟨rfl, race_end (xs := []) (full_wrong (by simp [wrongD])), pure_tup (by simp) (all_cons (pi _ _) (all_cons (pure_tup (by simp) (all_cons (pure_non _) all_nil)) all_nil))⟩
def oddM (M : Nat) : List D := [.non, .int M, .int (-1), .bl true, .bl false, .str "0", .tup [.int 0], .lst [], .int 1000000000000000000000000000000]
theorem oddM_ok {M : Nat} (h1 : 1 ≤ M) (h8 : M ≤ 8) : ∀ d ∈ oddM M, Thing d = true ∧ upB d ((M : Int) - 1) = false ∧ PurE 18 d := by
  have pi := fun k i => pure_int k i
  unfold oddM
  refine all_cons ⟨rfl, rfl, pure_non _⟩ (all_cons ⟨rfl, ?_, pi _ _⟩ (all_cons ⟨rfl, ?_, pi _ _⟩ (all_cons ⟨rfl, rfl, pure_bl _ _⟩ (all_cons ⟨rfl, rfl, pure_bl _ _⟩ (all_cons ⟨rfl, rfl, pure_str _ _⟩ (all_cons ⟨rfl, rfl, pure_tup (by simp) (all_cons (pi _ _) all_nil)⟩ (all_cons ⟨rfl, rfl, pure_lst (by simp) all_nil⟩ (all_cons ⟨rfl, ?_, pi _ _⟩ all_nil))))))))
  · show decide (0 ≤ (M : Int) ∧ (M : Int) ≤ (M : Int) - 1) = false
    exact decide_eq_false (by omega)
  · show decide ((0 : Int) ≤ -1 ∧ (-1 : Int) ≤ (M : Int) - 1) = false
    exact decide_eq_false (by omega)
  · show decide ((0 : Int) ≤ 1000000000000000000000000000000 ∧ (1000000000000000000000000000000 : Int) ≤ (M : Int) - 1) = false
    exact decide_eq_false (by omega)
theorem f_odd_mats {ts : List Int} (st : Sto) : F__law_odd_mats [tupI ts] st = .ok (.lst (oddM ts.length)) st := by
  have p : powD (.int 10) (.int 30) st = .ok (.int 1000000000000000000000000000000) st := rfl
  have ln : lenF [tupI ts] st = .ok (.int ts.length) st := lenF_tupI ..
  unfold oddM
  generalize (ts.length : Int) = M at *
  generalize tupI ts = td at *
  simp [F__law_odd_mats, runF, B__law_odd_mats, p, ln]
def badE : EvI := iterE (tupE (consA (cE .non) (consA (lstE (nilA)) (consA (tupE (consA (tupE (consA (varE 2) (consA (cE (.int 0)) (nilA)))) (nilA))) (consA (tupE (consA (tupE (consA (binE addD (varE 2) (cE (.int 1))) (nilA))) (nilA))) (consA (tupE (consA (tupE (consA (binE addD (varE 2) (cE (.int 9999))) (consA (callE lenF (consA (varE 0) (nilA))) (nilA)))) (nilA))) (consA (tupE (consA (tupE (consA (binE addD (varE 2) (cE (.int 9999))) (consA (cE (.int 0)) (nilA)))) (consA (tupE (consA (binE addD (varE 2) (cE (.int 9999))) (consA (cE (.int 0)) (nilA)))) (nilA)))) (consA (tupE (consA (tupE (consA (binE addD (varE 2) (cE (.int 9999))) (consA (cE (.bl true)) (nilA)))) (nilA))) (nilA)))))))))
theorem q3_eq : q_3 = asgS (binE addD (varE 4) (lcE badE (.nm 5) (yesB) (tupE (consA (varE 2) (consA (binE addD (sliceE (varE 3) (noO) (someO (unE negD (cE (.int 1))))) (tupE (consA (varE 5) (nilA)))) (nilA)))) [5])) (nameT 4) := rfl
theorem f_odd_races {ts : List Int} {t0 : Int} {bs : List (List P2)} (n1 : 1 ≤ bs.length) (n6 : bs.length ≤ 6) (st : Sto) : F__law_odd_races [tupI ts, raceD t0 bs] st = .ok (.lst (oddR ts t0 bs)) st := by
  have cl : (cutR bs).length ≤ 6 := by unfold cutR; simp; omega
  have ln : lenF [tupI ts] st = .ok (.int ts.length) st := lenF_tupI ..
  have c2 : sliceD (.tup (bs.map bagD)) none (some (-1)) st = .ok (.tup (cutR bs)) st := by
    rw [sliceD_tup, cut_end, List.length_map]; rfl
  have a2 : ∀ x, addD (.tup (cutR bs)) (.tup [x]) st = .ok (.tup (cutR bs ++ [x])) st := fun x => add_tup _ _ st (by simp; omega)
  have lf : listF [.tup (bs.map bagD)] st = .ok (.lst (bs.map bagD)) st := rfl
  have p25 : powD (.int 10) (.int 25) st = .ok (.int 10000000000000000000000000) st := rfl
  have m7 : mulD (.tup [.tup []]) (.int 7) st = .ok (.tup [.tup [], .tup [], .tup [], .tup [], .tup [], .tup [], .tup []]) st := by simp [mulD]
  have sm : sumF [tupI ts] st = .ok (.int ts.sum) st := by simp
  have q1 : q_1 [some (tupI ts), some (raceD t0 bs), none, none, none, none] st = .nx [some (tupI ts), some (raceD t0 bs), some (.int t0), some (.tup (bs.map bagD)), none, none] st := by
    unfold q_1 raceD
    generalize D.tup (bs.map bagD) = rwd at *
    generalize tupI ts = td at *
    simp
  have q2 : q_2 [some (tupI ts), some (raceD t0 bs), some (.int t0), some (.tup (bs.map bagD)), none, none] st = .nx [some (tupI ts), some (raceD t0 bs), some (.int t0), some (.tup (bs.map bagD)), some (.lst (oddRA t0 bs)), none] st := by
    unfold q_2 oddRA
    generalize raceD t0 bs = rd at *
    generalize D.tup (bs.map bagD) = rwd at *
    generalize D.lst (bs.map bagD) = rld at *
    generalize tupI ts = td at *
    simp [lf, m7]
  have e := lc_typed (t := .nm 5) (fe := tupE (consA (varE 2) (consA (binE addD (sliceE (varE 3) (noO) (someO (unE negD (cE (.int 1))))) (tupE (consA (varE 5) (nilA)))) (nilA)))) (envw := [some (tupI ts), some (raceD t0 bs), some (.int t0), some (.tup (bs.map bagD)), some (.lst (oddRA t0 bs)), none]) (st := st) id (fun x => D.tup [.int t0, .tup (cutR bs ++ [x])]) (badRows ts.length t0) [] (by simp [badRows]) (by
    intro x hx
    refine ⟨[some (tupI ts), some (raceD t0 bs), some (.int t0), some (.tup (bs.map bagD)), some (.lst (oddRA t0 bs)), some x], by simp, ?_⟩
    have a := a2 x
    generalize D.tup (cutR bs ++ [x]) = r at *
    generalize D.tup (cutR bs) = cr at *
    generalize D.lst (oddRA t0 bs) = ra at *
    generalize raceD t0 bs = rd at *
    generalize D.tup (bs.map bagD) = rwd at *
    generalize tupI ts = td at *
    simp [c2, a])
  rw [List.nil_append, List.map_id] at e
  have ad1 := add_lst (oddRA t0 bs) (oddRB ts t0 bs) st (by simp [oddRA, oddRB, badRows])
  have q3 : q_3 [some (tupI ts), some (raceD t0 bs), some (.int t0), some (.tup (bs.map bagD)), some (.lst (oddRA t0 bs)), none] st = .nx [some (tupI ts), some (raceD t0 bs), some (.int t0), some (.tup (bs.map bagD)), some (.lst (oddRA t0 bs ++ oddRB ts t0 bs)), none] st := by
    have it : iterD (.tup (badRows ts.length t0)) st = .ok (.frz (badRows ts.length t0)) st := rfl
    have e' : lcF (.nm 5) yesB (tupE (consA (varE 2) (consA (binE addD (sliceE (varE 3) (noO) (someO (unE negD (cE (.int 1))))) (tupE (consA (varE 5) (nilA)))) (nilA)))) [some (tupI ts), some (raceD t0 bs), some (.int t0), some (.tup (bs.map bagD)), some (.lst (oddRA t0 bs)), none] (badRows ts.length t0) st [] = .ok (oddRB ts t0 bs) st := e
    have src : badE [some (tupI ts), some (raceD t0 bs), some (.int t0), some (.tup (bs.map bagD)), some (.lst (oddRA t0 bs)), none] st = .ok (.frz (badRows ts.length t0)) st := by
      unfold badE
      unfold badRows at it ⊢
      clear e e'
      generalize (ts.length : Int) = L at *
      generalize D.lst (oddRA t0 bs) = ra at *
      generalize raceD t0 bs = rd at *
      generalize D.tup (bs.map bagD) = rwd at *
      generalize tupI ts = td at *
      simp [iterE, ln, it]
    rw [q3_eq]
    clear it e
    generalize badRows ts.length t0 = br at *
    generalize oddRB ts t0 bs = rb at *
    generalize D.lst (oddRA t0 bs ++ rb) = rab at *
    generalize D.lst (oddRA t0 bs) = ra at *
    generalize raceD t0 bs = rd at *
    generalize D.tup (bs.map bagD) = rwd at *
    generalize badE = si at *
    generalize tupI ts = td at *
    simp [-lcE_eq, lcE, lcL, src, wipeE]
    simp [e', R.bind, ad1]
  have ad2 := add_lst (oddRA t0 bs ++ oddRB ts t0 bs) [oddRC ts t0 bs] st (by simp [oddRA, oddRB, badRows])
  have q4 : q_4 [some (tupI ts), some (raceD t0 bs), some (.int t0), some (.tup (bs.map bagD)), some (.lst (oddRA t0 bs ++ oddRB ts t0 bs)), none] st = .ret (.lst (oddR ts t0 bs)) st := by
    have al := a2 (lastRow t0)
    unfold q_4 oddR
    clear e q1 q2 q3 ad1
    generalize hr : oddRC ts t0 bs = rc at *
    unfold oddRC lastRow at hr
    unfold lastRow at al
    generalize D.lst (oddRA t0 bs ++ oddRB ts t0 bs ++ [rc]) = rabc at *
    generalize D.lst (oddRA t0 bs ++ oddRB ts t0 bs) = rab at *
    generalize raceD t0 bs = rd at *
    generalize cutR bs = cr at *
    generalize D.tup (bs.map bagD) = rwd at *
    generalize hS : ts.sum = S at *
    generalize tupI ts = td at *
    by_cases c : 1 < S
    · rw [if_pos c] at hr
      simp [sm, c, c2, p25, al, hr, ad2]
    · rw [if_neg c] at hr
      simp [sm, c, hr, ad2]
  unfold F__law_odd_races
  rw [q_eq]
  simp [runF, q1, q2, q3, q4]
theorem same_of {wd : Str} {x : D} (h : PurE 18 x) (st : Sto) : F__law_same_v3 [.tup [.str wd, x], .tup [.str wd, x]] st = .ok (.bl true) st :=
  w_same3 _ st (pure_tup (by simp) (all_cons (pure_str _ _) (all_cons h all_nil)))
section
variable {ts : List Int} {t0 : Int} {bs : List (List P2)} {m : Nat} {p : Nat}
theorem f_tracks (hT : Trk ts) {w : Nat} (hw : w < 6) {st : Sto} (hp : Pool p st) (o1 o6 o7 o8 : Option D) :
    ∃ o7' st', loopF (tgT (.nm 7)) r_body7 (oddT ts) [some (.mut p), o1, some (tupI ts), some (raceD t0 bs), some (.int m), some (.int w), o6, o7, o8] st = .nx [some (.mut p), o1, some (tupI ts), some (raceD t0 bs), some (.int m), some (.int w), o6, o7', o8] st' ∧ Pool p st' := by
  obtain ⟨env', s', e, ⟨o7', rfl⟩, hp'⟩ := loop_nx (g := tgT (.nm 7)) (body := r_body7)
    (fun j env s => (∃ o7 : Option D, env = [some (.mut p), o1, some (tupI ts), some (raceD t0 bs), some (.int m), some (.int w), o6, o7, o8]) ∧ Pool p s)
    (xs := oddT ts) (env := [some (.mut p), o1, some (tupI ts), some (raceD t0 bs), some (.int m), some (.int w), o6, o7, o8]) (st := st) ⟨⟨o7, rfl⟩, hp⟩
    (by
      rintro j x env s hx ⟨⟨o7, rfl⟩, hp⟩
      obtain ⟨hth, hno, hpu⟩ := oddT_ok hT.le x (List.mem_of_getElem? hx)
      obtain ⟨d1, s1, e1, -, hp1, -⟩ := w_of (xs := [raceD t0 bs, .non]) hp (by simp) (by simp)
      obtain ⟨d2, s2, e2, -, hp2, -⟩ := w_of (xs := [.int m, .non]) hp1 (by simp) (by simp)
      have e3 := said_exc (done_track (st := s2) w hw x d1 d2 .non hth hno) (wd := "track") (by decide)
      have e4 := same_of (wd := "track") hpu s2
      refine ⟨[some (.mut p), o1, some (tupI ts), some (raceD t0 bs), some (.int m), some (.int w), o6, some x, o8], s2, ?_, ⟨some x, rfl⟩, hp2⟩
      unfold r_body7
      generalize raceD t0 bs = rd at *
      generalize tupI ts = td at *
      generalize (m : Int) = mi at *
      generalize (w : Int) = wi at *
      simp [e1, e2, e3, e4])
  exact ⟨o7', s', e, hp'⟩
theorem f_races (hT : Trk ts) (hs : ts.sum.natAbs < big) (h : RaceOk ts t0 bs) {w : Nat} (hw : w < 6) {st : Sto} (hp : Pool p st) (o1 o6 o7 o8 : Option D) :
    ∃ o7' st', loopF (tgT (.nm 7)) r_body7' (oddR ts t0 bs) [some (.mut p), o1, some (tupI ts), some (raceD t0 bs), some (.int m), some (.int w), o6, o7, o8] st = .nx [some (.mut p), o1, some (tupI ts), some (raceD t0 bs), some (.int m), some (.int w), o6, o7', o8] st' ∧ Pool p st' := by
  obtain ⟨env', s', e, ⟨o7', rfl⟩, hp'⟩ := loop_nx (g := tgT (.nm 7)) (body := r_body7')
    (fun j env s => (∃ o7 : Option D, env = [some (.mut p), o1, some (tupI ts), some (raceD t0 bs), some (.int m), some (.int w), o6, o7, o8]) ∧ Pool p s)
    (xs := oddR ts t0 bs) (env := [some (.mut p), o1, some (tupI ts), some (raceD t0 bs), some (.int m), some (.int w), o6, o7, o8]) (st := st) ⟨⟨o7, rfl⟩, hp⟩
    (by
      rintro j x env s hx ⟨⟨o7, rfl⟩, hp⟩
      obtain ⟨hth, hno, hpu⟩ := oddR_ok hT h x (List.mem_of_getElem? hx)
      obtain ⟨d2, s2, e2, -, hp2, -⟩ := w_of (xs := [.int m, .non]) hp (by simp) (by simp)
      have e3 := said_exc (done_race (st := s2) hT hs w hw x d2 .non hth hno) (wd := "race") (by decide)
      have e4 := same_of (wd := "race") hpu s2
      refine ⟨[some (.mut p), o1, some (tupI ts), some (raceD t0 bs), some (.int m), some (.int w), o6, some x, o8], s2, ?_, ⟨some x, rfl⟩, hp2⟩
      unfold r_body7'
      generalize raceD t0 bs = rd at *
      generalize tupI ts = td at *
      generalize (m : Int) = mi at *
      generalize (w : Int) = wi at *
      simp [e2, e3, e4])
  exact ⟨o7', s', e, hp'⟩
theorem f_matsL (hT : Trk ts) (hs : ts.sum.natAbs < big) (h : RaceOk ts t0 bs) {w : Nat} (hw : w < 6) (h0 : 0 < w) (st : Sto) (o0 o1 o4 o6 o7 o8 : Option D) :
    ∃ o7', loopF (tgT (.nm 7)) r_body7'' (oddM ts.length) [o0, o1, some (tupI ts), some (raceD t0 bs), o4, some (.int w), o6, o7, o8] st = .nx [o0, o1, some (tupI ts), some (raceD t0 bs), o4, some (.int w), o6, o7', o8] st := by
  obtain ⟨env', s', e, ⟨o7', rfl⟩, rfl⟩ := loop_nx (g := tgT (.nm 7)) (body := r_body7'')
    (fun j env s => (∃ o7 : Option D, env = [o0, o1, some (tupI ts), some (raceD t0 bs), o4, some (.int w), o6, o7, o8]) ∧ s = st)
    (xs := oddM ts.length) (env := [o0, o1, some (tupI ts), some (raceD t0 bs), o4, some (.int w), o6, o7, o8]) (st := st) ⟨⟨o7, rfl⟩, rfl⟩
    (by
      rintro j x env s hx ⟨⟨o7, rfl⟩, rfl⟩
      obtain ⟨hth, hno, hpu⟩ := oddM_ok hT.pos hT.le x (List.mem_of_getElem? hx)
      have e3 := said_exc (done_mat (st := s) hT hs h w hw h0 x .non hth hno) (wd := "mat") (by decide)
      have e4 := same_of (wd := "mat") hpu s
      refine ⟨[o0, o1, some (tupI ts), some (raceD t0 bs), o4, some (.int w), o6, some x, o8], s, ?_, ⟨some x, rfl⟩, rfl⟩
      unfold r_body7''
      generalize raceD t0 bs = rd at *
      generalize tupI ts = td at *
      generalize (w : Int) = wi at *
      simp [e3, e4])
  exact ⟨o7', e⟩
theorem f_way (hT : Trk ts) (hs : ts.sum.natAbs < big) (h : RaceOk ts t0 bs) (hm : m < ts.length) {w : Nat} (hw : w < 6) {st : Sto} (hp : Pool p st) (o1 o6 o7 o8 : Option D) :
    ∃ o6' o7' st', r_body5 [some (.mut p), o1, some (tupI ts), some (raceD t0 bs), some (.int m), some (.int w), o6, o7, o8] st = .nx [some (.mut p), o1, some (tupI ts), some (raceD t0 bs), some (.int m), some (.int w), o6', o7', o8] st' ∧ Pool p st' := by
  obtain ⟨d1, s1, e1, hp1⟩ := done_right hT hs h hm hp w hw
  have e1 := said_ok e1
  have ne := ne_told s1
  have ot := f_odd_tracks hT.le s1
  obtain ⟨o7a, s2, e2, hp2⟩ := f_tracks (t0 := t0) (bs := bs) (m := m) hT hw hp1 o1 (some (.lst [tupI ts, raceD t0 bs, .int m, .tup []])) o7 o8
  have orr := f_odd_races (ts := ts) (t0 := t0) h.n1 h.n6 s2
  obtain ⟨o7b, s3, e3, hp3⟩ := f_races (m := m) hT hs h hw hp2 o1 (some (.lst [tupI ts, raceD t0 bs, .int m, .tup []])) o7a o8
  have it : ∀ l s, iterD (.lst l) s = .ok (.frz l) s := fun _ _ => rfl
  by_cases c : w = 0
  · subst c
    refine ⟨some (.lst [tupI ts, raceD t0 bs, .int m, .tup []]), o7b, s3, ?_, hp3⟩
    unfold r_body5
    generalize oddT ts = oT at *
    generalize oddR ts t0 bs = oR at *
    generalize raceD t0 bs = rd at *
    generalize tupI ts = td at *
    generalize (m : Int) = mi at *
    generalize r_body7 = b7 at *
    generalize r_body7' = b7' at *
    generalize r_body7'' = b7'' at *
    have e1 : F__law_said [.int 0, .lst [td, rd, .int mi, .tup []]] st = .ok (.tup [.str "told", .non]) s1 := e1
    have e2 : loopF (tgT (.nm 7)) b7 oT [some (.mut p), o1, some td, some rd, some (.int mi), some (.int 0), some (.lst [td, rd, .int mi, .tup []]), o7, o8] s1 = .nx [some (.mut p), o1, some td, some rd, some (.int mi), some (.int 0), some (.lst [td, rd, .int mi, .tup []]), o7a, o8] s2 := e2
    have e3 : loopF (tgT (.nm 7)) b7' oR [some (.mut p), o1, some td, some rd, some (.int mi), some (.int 0), some (.lst [td, rd, .int mi, .tup []]), o7a, o8] s2 = .nx [some (.mut p), o1, some td, some rd, some (.int mi), some (.int 0), some (.lst [td, rd, .int mi, .tup []]), o7b, o8] s3 := e3
    simp [e1, ne, ot, it, e2, orr, e3]
  · have om := f_odd_mats (ts := ts) s3
    have c0 : 0 < w := by omega
    obtain ⟨o7c, e4⟩ := f_matsL hT hs h hw c0 s3 (some (.mut p)) o1 (some (.int m)) (some (.lst [tupI ts, raceD t0 bs, .int m, .tup []])) o7b o8
    refine ⟨some (.lst [tupI ts, raceD t0 bs, .int m, .tup []]), o7c, s3, ?_, hp3⟩
    have cc : (0 : Int) < (w : Int) := by omega
    unfold r_body5
    clear c c0 hw
    generalize oddT ts = oT at *
    generalize oddM ts.length = oM at *
    generalize oddR ts t0 bs = oR at *
    generalize raceD t0 bs = rd at *
    generalize tupI ts = td at *
    generalize (m : Int) = mi at *
    generalize (w : Int) = wi at *
    generalize r_body7 = b7 at *
    generalize r_body7' = b7' at *
    generalize r_body7'' = b7'' at *
    simp [e1, ne, ot, it, e2, orr, e3, cc, om, e4]
def vals : List D := [.non, .int 0, .bl true, .str "dead", .lst [], .emp, .tup [.non], .tup [.tup [.int 1, .int 2, .int 3]], .tup [.lst [.int 1, .int 2]], .tup [.tup [.int 1, .bl true]], .tup [.tup [.int 2, .int 1]]]
theorem vals_ok (times : List Int) : ∀ v ∈ vals, Thing v = true ∧ deadsB times v = false ∧ ∀ xs, v = .tup xs → xs.length ≤ 1000 := by
  have ln : ∀ x : D, ∀ xs, D.tup [x] = .tup xs → xs.length ≤ 1000 := fun x xs e => by injection e with e; subst e; simp
  unfold vals
  refine all_cons ⟨rfl, rfl, fun xs e => by cases e⟩ (all_cons ⟨rfl, rfl, fun xs e => by cases e⟩ (all_cons ⟨rfl, rfl, fun xs e => by cases e⟩ (all_cons ⟨rfl, rfl, fun xs e => by cases e⟩ (all_cons ⟨rfl, rfl, fun xs e => by cases e⟩ (all_cons ⟨rfl, rfl, fun xs e => by cases e⟩ (all_cons ⟨rfl, rfl, ln _⟩ (all_cons ⟨rfl, rfl, ln _⟩ (all_cons ⟨rfl, rfl, ln _⟩ (all_cons ⟨rfl, rfl, ln _⟩ (all_cons ⟨rfl, rfl, ln _⟩ all_nil))))))))))
theorem f_vals (hT : Trk ts) (hs : ts.sum.natAbs < big) (h : RaceOk ts t0 bs) (hm : m < ts.length) {st : Sto} (hp : Pool p st) (o1 o5 o6 o7 o8 : Option D) :
    ∃ o8' st', loopF (tgT (.nm 8)) r_body8 vals [some (.mut p), o1, some (tupI ts), some (raceD t0 bs), some (.int m), o5, o6, o7, o8] st = .nx [some (.mut p), o1, some (tupI ts), some (raceD t0 bs), some (.int m), o5, o6, o7, o8'] st' ∧ Pool p st' := by
  obtain ⟨env', s', e, ⟨o8', rfl⟩, hp'⟩ := loop_nx (g := tgT (.nm 8)) (body := r_body8)
    (fun j env s => (∃ o8 : Option D, env = [some (.mut p), o1, some (tupI ts), some (raceD t0 bs), some (.int m), o5, o6, o7, o8]) ∧ Pool p s)
    (xs := vals) (env := [some (.mut p), o1, some (tupI ts), some (raceD t0 bs), some (.int m), o5, o6, o7, o8]) (st := st) ⟨⟨o8, rfl⟩, hp⟩
    (by
      rintro j v env s hx ⟨⟨o8, rfl⟩, hp⟩
      obtain ⟨hth, hno, hl⟩ := vals_ok (markT m (rowsF t0 bs)) v (List.mem_of_getElem? hx)
      obtain ⟨x1, e1⟩ := t_explain_no (st := s) hT hs h hm v hth hl hno
      obtain ⟨x2, e2⟩ := t_explain_no (st := s ++ x1) hT hs h hm v hth hl hno
      have d5 : F__law_done [.int (5 : Nat), .lst [tupI ts, raceD t0 bs, .int m, v]] s = .ok (.bl false) (s ++ x1) := by
        rw [done_cases (tupI ts) (raceD t0 bs) (.int m) v s 5 (by omega)]
        exact e1
      have d5 : F__law_said [.int 5, .lst [tupI ts, raceD t0 bs, .int m, v]] s = .ok (.tup [.str "told", .non]) (s ++ x1) := said_ok d5
      have ne := ne_told (s ++ x1)
      have pk : pick [] [tupI ts, raceD t0 bs, .int m, v].reverse [3, 2, 1, 0] = [tupI ts, raceD t0 bs, .int m, v] := rfl
      refine ⟨[some (.mut p), o1, some (tupI ts), some (raceD t0 bs), some (.int m), o5, o6, o7, some v], s ++ x1 ++ x2, ?_, ⟨some v, rfl⟩, pool_app (pool_app hp x1) x2⟩
      unfold r_body8
      generalize raceD t0 bs = rd at *
      generalize tupI ts = td at *
      generalize (m : Int) = mi at *
      generalize s ++ x1 ++ x2 = s2 at *
      generalize s ++ x1 = s1 at *
      have pk : pick [] [v, .int mi, rd, td] [3, 2, 1, 0] = [td, rd, .int mi, v] := rfl
      have nb : notBD (.bl false) (.bl false) s2 = .ok (.bl false) s2 := rfl
      simp [d5, ne, pk, e2, nb])
  exact ⟨o8', s', e, hp'⟩
theorem f_ways (hT : Trk ts) (hs : ts.sum.natAbs < big) (h : RaceOk ts t0 bs) (hm : m < ts.length) {st : Sto} (hp : Pool p st) (o1 o5 o6 o7 o8 : Option D) :
    ∃ o5' o6' o7' st', loopF (tgT (.nm 5)) r_body5 (rangeD 0 6) [some (.mut p), o1, some (tupI ts), some (raceD t0 bs), some (.int m), o5, o6, o7, o8] st = .nx [some (.mut p), o1, some (tupI ts), some (raceD t0 bs), some (.int m), o5', o6', o7', o8] st' ∧ Pool p st' := by
  obtain ⟨env', s', e, ⟨o5', o6', o7', rfl⟩, hp'⟩ := loop_nx (g := tgT (.nm 5)) (body := r_body5)
    (fun j env s => (∃ o5 o6 o7 : Option D, env = [some (.mut p), o1, some (tupI ts), some (raceD t0 bs), some (.int m), o5, o6, o7, o8]) ∧ Pool p s)
    (xs := rangeD 0 6) (env := [some (.mut p), o1, some (tupI ts), some (raceD t0 bs), some (.int m), o5, o6, o7, o8]) (st := st) ⟨⟨o5, o6, o7, rfl⟩, hp⟩
    (by
      rintro j x env s hx ⟨⟨o5, o6, o7, rfl⟩, hp⟩
      obtain ⟨rfl, hj⟩ := range_get hx
      obtain ⟨o6', o7', s2, e, hp2⟩ := f_way hT hs h hm hj hp o1 o6 o7 o8
      refine ⟨_, s2, ?_, ⟨some (.int (j : Nat)), o6', o7', rfl⟩, hp2⟩
      rw [Int.zero_add]
      generalize r_body5 = b5 at *
      generalize raceD t0 bs = rd at *
      generalize tupI ts = td at *
      generalize (m : Int) = mi at *
      generalize (j : Int) = ji at *
      simp [e])
  exact ⟨o5', o6', o7', s', e, hp'⟩
end
theorem f_turn {p : Nat} {st : Sto} (hp : Pool p st) (o1 o2 o3 o4 o5 o6 o7 o8 : Option D) :
    ∃ o2' o3' o4' o5' o6' o7' o8' st', r_body1 [some (.mut p), o1, o2, o3, o4, o5, o6, o7, o8] st = .nx [some (.mut p), o1, o2', o3', o4', o5', o6', o7', o8'] st' ∧ Pool p st' := by
  have hbg := big_ge
  obtain ⟨ts, s1, e1, hT, hp1, -⟩ := w_track hp
  obtain ⟨t0, bs, s2, e2, hp2, hR, h4⟩ := w_race hT hp1 4 (by omega)
  have h8 := hT.t.le
  have h1 := hT.t.pos
  have hss := hT.s
  have hsp := hT.p
  have hs : ts.sum.natAbs < big := by omega
  obtain ⟨m, s3, e3, m0, m1, hp3, -⟩ := w_below (m := (ts.length : Int)) hp2 (by omega) (by omega)
  obtain ⟨m, rfl⟩ := Int.eq_ofNat_of_zero_le m0
  have hm : m < ts.length := by omega
  obtain ⟨o5', o6', o7', s4, e4, hp4⟩ := f_ways hT.t hs hR.ok hm hp3 o1 o5 o6 o7 o8
  obtain ⟨o8', s5, e5, hp5⟩ := f_vals hT.t hs hR.ok hm hp4 o1 o5' o6' o7' o8
  refine ⟨some (tupI ts), some (raceD t0 bs), some (.int m), o5', o6', o7', o8', s5, ?_, hp5⟩
  have lt : lenF [tupI ts] s2 = .ok (.int ts.length) s2 := lenF_tupI ..
  have it : iterD (.tup vals) s4 = .ok (.frz vals) s4 := rfl
  have e2 : F__law_race [.mut p, tupI ts, .int 4] s1 = .ok (raceD t0 bs) s2 := e2
  have e3 : F__law_take [.mut p, .int ts.length] s2 = .ok (.int (m : Int)) s3 := e3
  clear hT hR hss hsp hm m1 h1 h8 hs
  unfold r_body1
  unfold vals at it e5
  generalize r_body5 = b5 at *
  generalize r_body8 = b8 at *
  generalize (ts.length : Int) = L at *
  generalize raceD t0 bs = rd at *
  generalize tupI ts = td at *
  generalize (m : Int) = mi at *
  simp [parS, e1, e2, lt, e3, e4, it, e5]
theorem f_right : Right F__law_right := by
  intro st p hp
  obtain ⟨env', s', e, ⟨o1, o2, o3, o4, o5, o6, o7, o8, rfl⟩, hp'⟩ := loop_nx (g := tgT (.nm 1)) (body := r_body1)
    (fun j env s => (∃ o1 o2 o3 o4 o5 o6 o7 o8 : Option D, env = [some (.mut p), o1, o2, o3, o4, o5, o6, o7, o8]) ∧ Pool p s)
    (xs := rangeD 0 2) (env := [some (.mut p), none, none, none, none, none, none, none, none]) (st := st) ⟨⟨none, none, none, none, none, none, none, none, rfl⟩, hp⟩
    (by
      rintro j x env s hx ⟨⟨o1, o2, o3, o4, o5, o6, o7, o8, rfl⟩, hp⟩
      obtain ⟨rfl, hj⟩ := range_get hx
      obtain ⟨o2', o3', o4', o5', o6', o7', o8', s2, e, hp2⟩ := f_turn hp (some (.int (j : Nat))) o2 o3 o4 o5 o6 o7 o8
      refine ⟨_, s2, ?_, ⟨some (.int (j : Nat)), o2', o3', o4', o5', o6', o7', o8', rfl⟩, hp2⟩
      rw [Int.zero_add]
      generalize r_body1 = b1 at *
      simp [e])
  refine ⟨s', ?_⟩
  unfold F__law_right
  rw [r_right_eq]
  generalize r_body1 = b1 at *
  simp [runF, e]
theorem law_true (ns : List Int) (h : ns.length ≤ 63) : ∃ st, F_law [.slo (ns.map D.int)] [] = .ok (.bl true) st := lawW_ok f_right ns
end K40
namespace K40
open PySem PySem.Spec PyProof.Rows L2 G Lap
set_option maxHeartbeats 4000000
theorem all_mk {l : PySem.W.OpenLaw} {w : World} {K : PySem.W.Frag} {h : Heap} {mg : Str → Option Value} {fa f0 f1 f2 f3 f4 f5 f6 f7 f8 f9 f10 f11 f12 f13 f14 f15 f16 f17 f18 f19 f20 f21 f22 f23 f24 f25 f26 f27 f28 f29 f30 f31 f32 f33 f34 f35 f36 f37 f38 f39 f40 f41 f42 f43 f44 f45 f46 f47 f48 f49 f50 f51 f52 f53 f54 f55 f56 f57 f58 f59 f60 f61 f62 f63 f64 f65 f66 : Addr} (X : K.In h) (G : h.Ns mainGlobals mg) (hfa : mg "law" = some (.ref fa))
    {od0 an0 od1 an1 od2 an2 od3 an3 od4 an4 od5 an5 od6 an6 od7 an7 od8 an8 od9 an9 od10 an10 od11 an11 od12 an12 od13 an13 od14 an14 od15 an15 od16 an16 od17 an17 od18 an18 od19 an19 od20 an20 od21 an21 od22 an22 od23 an23 od24 an24 od25 an25 od26 an26 od27 an27 od28 an28 od29 an29 od30 an30 od31 an31 od32 an32 od33 an33 od34 an34 od35 an35 od36 an36 od37 an37 od38 an38 od39 an39 od40 an40 od41 an41 od42 an42 od43 an43 od44 an44 od45 an45 od46 an46 od47 an47 od48 an48 od49 an49 od50 an50 od51 an51 od52 an52 od53 an53 od54 an54 od55 an55 od56 an56 od57 an57 od58 an58 od59 an59 od60 an60 od61 an61 od62 an62 od63 an63 od64 an64 od65 an65 od66 an66 : Option Addr} {sl0 sl1 sl2 sl3 sl4 sl5 sl6 sl7 sl8 sl9 sl10 sl11 sl12 sl13 sl14 sl15 sl16 sl17 sl18 sl19 sl20 sl21 sl22 sl23 sl24 sl25 sl26 sl27 sl28 sl29 sl30 sl31 sl32 sl33 sl34 sl35 sl36 sl37 sl38 sl39 sl40 sl41 sl42 sl43 sl44 sl45 sl46 sl47 sl48 sl49 sl50 sl51 sl52 sl53 sl54 sl55 sl56 sl57 sl58 sl59 sl60 sl61 sl62 sl63 sl64 sl65 sl66 : Array (Option Value)} {oc0 kV0 dc0 pm0 cd0 ct0 oc1 kV1 dc1 pm1 cd1 ct1 oc2 kV2 dc2 pm2 cd2 ct2 oc3 kV3 dc3 pm3 cd3 ct3 oc4 kV4 dc4 pm4 cd4 ct4 oc5 kV5 dc5 pm5 cd5 ct5 oc6 kV6 dc6 pm6 cd6 ct6 oc7 kV7 dc7 pm7 cd7 ct7 oc8 kV8 dc8 pm8 cd8 ct8 oc9 kV9 dc9 pm9 cd9 ct9 oc10 kV10 dc10 pm10 cd10 ct10 oc11 kV11 dc11 pm11 cd11 ct11 oc12 kV12 dc12 pm12 cd12 ct12 oc13 kV13 dc13 pm13 cd13 ct13 oc14 kV14 dc14 pm14 cd14 ct14 oc15 kV15 dc15 pm15 cd15 ct15 oc16 kV16 dc16 pm16 cd16 ct16 oc17 kV17 dc17 pm17 cd17 ct17 oc18 kV18 dc18 pm18 cd18 ct18 oc19 kV19 dc19 pm19 cd19 ct19 oc20 kV20 dc20 pm20 cd20 ct20 oc21 kV21 dc21 pm21 cd21 ct21 oc22 kV22 dc22 pm22 cd22 ct22 oc23 kV23 dc23 pm23 cd23 ct23 oc24 kV24 dc24 pm24 cd24 ct24 oc25 kV25 dc25 pm25 cd25 ct25 oc26 kV26 dc26 pm26 cd26 ct26 oc27 kV27 dc27 pm27 cd27 ct27 oc28 kV28 dc28 pm28 cd28 ct28 oc29 kV29 dc29 pm29 cd29 ct29 oc30 kV30 dc30 pm30 cd30 ct30 oc31 kV31 dc31 pm31 cd31 ct31 oc32 kV32 dc32 pm32 cd32 ct32 oc33 kV33 dc33 pm33 cd33 ct33 oc34 kV34 dc34 pm34 cd34 ct34 oc35 kV35 dc35 pm35 cd35 ct35 oc36 kV36 dc36 pm36 cd36 ct36 oc37 kV37 dc37 pm37 cd37 ct37 oc38 kV38 dc38 pm38 cd38 ct38 oc39 kV39 dc39 pm39 cd39 ct39 oc40 kV40 dc40 pm40 cd40 ct40 oc41 kV41 dc41 pm41 cd41 ct41 oc42 kV42 dc42 pm42 cd42 ct42 oc43 kV43 dc43 pm43 cd43 ct43 oc44 kV44 dc44 pm44 cd44 ct44 oc45 kV45 dc45 pm45 cd45 ct45 oc46 kV46 dc46 pm46 cd46 ct46 oc47 kV47 dc47 pm47 cd47 ct47 oc48 kV48 dc48 pm48 cd48 ct48 oc49 kV49 dc49 pm49 cd49 ct49 oc50 kV50 dc50 pm50 cd50 ct50 oc51 kV51 dc51 pm51 cd51 ct51 oc52 kV52 dc52 pm52 cd52 ct52 oc53 kV53 dc53 pm53 cd53 ct53 oc54 kV54 dc54 pm54 cd54 ct54 oc55 kV55 dc55 pm55 cd55 ct55 oc56 kV56 dc56 pm56 cd56 ct56 oc57 kV57 dc57 pm57 cd57 ct57 oc58 kV58 dc58 pm58 cd58 ct58 oc59 kV59 dc59 pm59 cd59 ct59 oc60 kV60 dc60 pm60 cd60 ct60 oc61 kV61 dc61 pm61 cd61 ct61 oc62 kV62 dc62 pm62 cd62 ct62 oc63 kV63 dc63 pm63 cd63 ct63 oc64 kV64 dc64 pm64 cd64 ct64 oc65 kV65 dc65 pm65 cd65 ct65 oc66 kV66 dc66 pm66 cd66 ct66 : Value}
    {tk_MOST_MATS tk_MOST_MARKS tk_MOST_RUNNERS tk_TO tk_FROM : Tok}
    (a0 : PySem.W.nsIn K mainGlobals "round_by" = some (some (.ref f0))) (l0 : K.lookup f0 = some ⟨oc0, od0, .func (PySem.W.fnOf "round_by" "round_by" (defArgs s_round_by) (defBody s_round_by) (defScope s_round_by) .none kV0 dc0 pm0 an0 cd0 ct0), sl0⟩) (c0 : PySem.W.codeIn K cd0 "round_by" = true) (k0 : PySem.W.keepIn K (.ref f0) = true)
    (a1 : PySem.W.nsIn K mainGlobals "sectors_from" = some (some (.ref f1))) (l1 : K.lookup f1 = some ⟨oc1, od1, .func (PySem.W.fnOf "sectors_from" "sectors_from" (defArgs s_sectors_from) (defBody s_sectors_from) (defScope s_sectors_from) .none kV1 dc1 pm1 an1 cd1 ct1), sl1⟩) (c1 : PySem.W.codeIn K cd1 "sectors_from" = true) (k1 : PySem.W.keepIn K (.ref f1) = true)
    (a2 : PySem.W.nsIn K mainGlobals "reach_by" = some (some (.ref f2))) (l2 : K.lookup f2 = some ⟨oc2, od2, .func (PySem.W.fnOf "reach_by" "reach_by" (defArgs s_reach_by) (defBody s_reach_by) (defScope s_reach_by) .none kV2 dc2 pm2 an2 cd2 ct2), sl2⟩) (c2 : PySem.W.codeIn K cd2 "reach_by" = true) (k2 : PySem.W.keepIn K (.ref f2) = true)
    (a3 : PySem.W.nsIn K mainGlobals "steps_by" = some (some (.ref f3))) (l3 : K.lookup f3 = some ⟨oc3, od3, .func (PySem.W.fnOf "steps_by" "steps_by" (defArgs s_steps_by) (defBody s_steps_by) (defScope s_steps_by) .none kV3 dc3 pm3 an3 cd3 ct3), sl3⟩) (c3 : PySem.W.codeIn K cd3 "steps_by" = true) (k3 : PySem.W.keepIn K (.ref f3) = true)
    (a4 : PySem.W.nsIn K mainGlobals "way_by" = some (some (.ref f4))) (l4 : K.lookup f4 = some ⟨oc4, od4, .func (PySem.W.fnOf "way_by" "way_by" (defArgs s_way_by) (defBody s_way_by) (defScope s_way_by) .none kV4 dc4 pm4 an4 cd4 ct4), sl4⟩) (c4 : PySem.W.codeIn K cd4 "way_by" = true) (k4 : PySem.W.keepIn K (.ref f4) = true)
    (a5 : PySem.W.nsIn K mainGlobals "can_follow_by" = some (some (.ref f5))) (l5 : K.lookup f5 = some ⟨oc5, od5, .func (PySem.W.fnOf "can_follow_by" "can_follow_by" (defArgs s_can_follow_by) (defBody s_can_follow_by) (defScope s_can_follow_by) .none kV5 dc5 pm5 an5 cd5 ct5), sl5⟩) (c5 : PySem.W.codeIn K cd5 "can_follow_by" = true) (k5 : PySem.W.keepIn K (.ref f5) = true)
    (a6 : PySem.W.nsIn K mainGlobals "wrong_marks_by" = some (some (.ref f6))) (l6 : K.lookup f6 = some ⟨oc6, od6, .func (PySem.W.fnOf "wrong_marks_by" "wrong_marks_by" (defArgs s_wrong_marks_by) (defBody s_wrong_marks_by) (defScope s_wrong_marks_by) .none kV6 dc6 pm6 an6 cd6 ct6), sl6⟩) (c6 : PySem.W.codeIn K cd6 "wrong_marks_by" = true) (k6 : PySem.W.keepIn K (.ref f6) = true)
    (a7 : PySem.W.nsIn K mainGlobals "is_row_by" = some (some (.ref f7))) (l7 : K.lookup f7 = some ⟨oc7, od7, .func (PySem.W.fnOf "is_row_by" "is_row_by" (defArgs s_is_row_by) (defBody s_is_row_by) (defScope s_is_row_by) .none kV7 dc7 pm7 an7 cd7 ct7), sl7⟩) (c7 : PySem.W.codeIn K cd7 "is_row_by" = true) (k7 : PySem.W.keepIn K (.ref f7) = true)
    (a8 : PySem.W.nsIn K mainGlobals "is_whole" = some (some (.ref f8))) (l8 : K.lookup f8 = some ⟨oc8, od8, .func (PySem.W.fnOf "is_whole" "is_whole" (defArgs s_is_whole) (defBody s_is_whole) (defScope s_is_whole) .none kV8 dc8 pm8 an8 cd8 ct8), sl8⟩) (c8 : PySem.W.codeIn K cd8 "is_whole" = true) (k8 : PySem.W.keepIn K (.ref f8) = true)
    (a9 : PySem.W.nsIn K mainGlobals "is_between" = some (some (.ref f9))) (l9 : K.lookup f9 = some ⟨oc9, od9, .func (PySem.W.fnOf "is_between" "is_between" (defArgs s_is_between) (defBody s_is_between) (defScope s_is_between) .none kV9 dc9 pm9 an9 cd9 ct9), sl9⟩) (c9 : PySem.W.codeIn K cd9 "is_between" = true) (k9 : PySem.W.keepIn K (.ref f9) = true)
    (a10 : PySem.W.nsIn K mainGlobals "is_up_to" = some (some (.ref f10))) (l10 : K.lookup f10 = some ⟨oc10, od10, .func (PySem.W.fnOf "is_up_to" "is_up_to" (defArgs s_is_up_to) (defBody s_is_up_to) (defScope s_is_up_to) .none kV10 dc10 pm10 an10 cd10 ct10), sl10⟩) (c10 : PySem.W.codeIn K cd10 "is_up_to" = true) (k10 : PySem.W.keepIn K (.ref f10) = true)
    (a11 : PySem.W.nsIn K mainGlobals "is_from" = some (some (.ref f11))) (l11 : K.lookup f11 = some ⟨oc11, od11, .func (PySem.W.fnOf "is_from" "is_from" (defArgs s_is_from) (defBody s_is_from) (defScope s_is_from) .none kV11 dc11 pm11 an11 cd11 ct11), sl11⟩) (c11 : PySem.W.codeIn K cd11 "is_from" = true) (k11 : PySem.W.keepIn K (.ref f11) = true)
    (a12 : PySem.W.nsIn K mainGlobals "is_tuple_up_to" = some (some (.ref f12))) (l12 : K.lookup f12 = some ⟨oc12, od12, .func (PySem.W.fnOf "is_tuple_up_to" "is_tuple_up_to" (defArgs s_is_tuple_up_to) (defBody s_is_tuple_up_to) (defScope s_is_tuple_up_to) .none kV12 dc12 pm12 an12 cd12 ct12), sl12⟩) (c12 : PySem.W.codeIn K cd12 "is_tuple_up_to" = true) (k12 : PySem.W.keepIn K (.ref f12) = true)
    (a13 : PySem.W.nsIn K mainGlobals "is_tuple_of" = some (some (.ref f13))) (l13 : K.lookup f13 = some ⟨oc13, od13, .func (PySem.W.fnOf "is_tuple_of" "is_tuple_of" (defArgs s_is_tuple_of) (defBody s_is_tuple_of) (defScope s_is_tuple_of) .none kV13 dc13 pm13 an13 cd13 ct13), sl13⟩) (c13 : PySem.W.codeIn K cd13 "is_tuple_of" = true) (k13 : PySem.W.keepIn K (.ref f13) = true)
    (a14 : PySem.W.nsIn K mainGlobals "is_pair" = some (some (.ref f14))) (l14 : K.lookup f14 = some ⟨oc14, od14, .func (PySem.W.fnOf "is_pair" "is_pair" (defArgs s_is_pair) (defBody s_is_pair) (defScope s_is_pair) .none kV14 dc14 pm14 an14 cd14 ct14), sl14⟩) (c14 : PySem.W.codeIn K cd14 "is_pair" = true) (k14 : PySem.W.keepIn K (.ref f14) = true)
    (a15 : PySem.W.nsIn K mainGlobals "is_track_of" = some (some (.ref f15))) (l15 : K.lookup f15 = some ⟨oc15, od15, .func (PySem.W.fnOf "is_track_of" "is_track_of" (defArgs s_is_track_of) (defBody s_is_track_of) (defScope s_is_track_of) .none kV15 dc15 pm15 an15 cd15 ct15), sl15⟩) (c15 : PySem.W.codeIn K cd15 "is_track_of" = true) (k15 : PySem.W.keepIn K (.ref f15) = true)
    (a16 : PySem.W.nsIn K mainGlobals "is_mat_of" = some (some (.ref f16))) (l16 : K.lookup f16 = some ⟨oc16, od16, .func (PySem.W.fnOf "is_mat_of" "is_mat_of" (defArgs s_is_mat_of) (defBody s_is_mat_of) (defScope s_is_mat_of) .none kV16 dc16 pm16 an16 cd16 ct16), sl16⟩) (c16 : PySem.W.codeIn K cd16 "is_mat_of" = true) (k16 : PySem.W.keepIn K (.ref f16) = true)
    (a17 : PySem.W.nsIn K mainGlobals "is_mark_of" = some (some (.ref f17))) (l17 : K.lookup f17 = some ⟨oc17, od17, .func (PySem.W.fnOf "is_mark_of" "is_mark_of" (defArgs s_is_mark_of) (defBody s_is_mark_of) (defScope s_is_mark_of) .none kV17 dc17 pm17 an17 cd17 ct17), sl17⟩) (c17 : PySem.W.codeIn K cd17 "is_mark_of" = true) (k17 : PySem.W.keepIn K (.ref f17) = true)
    (a18 : PySem.W.nsIn K mainGlobals "wrong_in_bag" = some (some (.ref f18))) (l18 : K.lookup f18 = some ⟨oc18, od18, .func (PySem.W.fnOf "wrong_in_bag" "wrong_in_bag" (defArgs s_wrong_in_bag) (defBody s_wrong_in_bag) (defScope s_wrong_in_bag) .none kV18 dc18 pm18 an18 cd18 ct18), sl18⟩) (c18 : PySem.W.codeIn K cd18 "wrong_in_bag" = true) (k18 : PySem.W.keepIn K (.ref f18) = true)
    (a19 : PySem.W.nsIn K mainGlobals "is_bag_of" = some (some (.ref f19))) (l19 : K.lookup f19 = some ⟨oc19, od19, .func (PySem.W.fnOf "is_bag_of" "is_bag_of" (defArgs s_is_bag_of) (defBody s_is_bag_of) (defScope s_is_bag_of) .none kV19 dc19 pm19 an19 cd19 ct19), sl19⟩) (c19 : PySem.W.codeIn K cd19 "is_bag_of" = true) (k19 : PySem.W.keepIn K (.ref f19) = true)
    (a20 : PySem.W.nsIn K mainGlobals "is_full_row" = some (some (.ref f20))) (l20 : K.lookup f20 = some ⟨oc20, od20, .func (PySem.W.fnOf "is_full_row" "is_full_row" (defArgs s_is_full_row) (defBody s_is_full_row) (defScope s_is_full_row) .none kV20 dc20 pm20 an20 cd20 ct20), sl20⟩) (c20 : PySem.W.codeIn K cd20 "is_full_row" = true) (k20 : PySem.W.keepIn K (.ref f20) = true)
    (a21 : PySem.W.nsIn K mainGlobals "is_race_of" = some (some (.ref f21))) (l21 : K.lookup f21 = some ⟨oc21, od21, .func (PySem.W.fnOf "is_race_of" "is_race_of" (defArgs s_is_race_of) (defBody s_is_race_of) (defScope s_is_race_of) .none kV21 dc21 pm21 an21 cd21 ct21), sl21⟩) (c21 : PySem.W.codeIn K cd21 "is_race_of" = true) (k21 : PySem.W.keepIn K (.ref f21) = true)
    (a22 : PySem.W.nsIn K mainGlobals "check_track" = some (some (.ref f22))) (l22 : K.lookup f22 = some ⟨oc22, od22, .func (PySem.W.fnOf "check_track" "check_track" (defArgs s_check_track) (defBody s_check_track) (defScope s_check_track) .none kV22 dc22 pm22 an22 cd22 ct22), sl22⟩) (c22 : PySem.W.codeIn K cd22 "check_track" = true) (k22 : PySem.W.keepIn K (.ref f22) = true)
    (a23 : PySem.W.nsIn K mainGlobals "check_mat" = some (some (.ref f23))) (l23 : K.lookup f23 = some ⟨oc23, od23, .func (PySem.W.fnOf "check_mat" "check_mat" (defArgs s_check_mat) (defBody s_check_mat) (defScope s_check_mat) .none kV23 dc23 pm23 an23 cd23 ct23), sl23⟩) (c23 : PySem.W.codeIn K cd23 "check_mat" = true) (k23 : PySem.W.keepIn K (.ref f23) = true)
    (a24 : PySem.W.nsIn K mainGlobals "check_race" = some (some (.ref f24))) (l24 : K.lookup f24 = some ⟨oc24, od24, .func (PySem.W.fnOf "check_race" "check_race" (defArgs s_check_race) (defBody s_check_race) (defScope s_check_race) .none kV24 dc24 pm24 an24 cd24 ct24), sl24⟩) (c24 : PySem.W.codeIn K cd24 "check_race" = true) (k24 : PySem.W.keepIn K (.ref f24) = true)
    (a25 : PySem.W.nsIn K mainGlobals "mats_between" = some (some (.ref f25))) (l25 : K.lookup f25 = some ⟨oc25, od25, .func (PySem.W.fnOf "mats_between" "mats_between" (defArgs s_mats_between) (defBody s_mats_between) (defScope s_mats_between) .none kV25 dc25 pm25 an25 cd25 ct25), sl25⟩) (c25 : PySem.W.codeIn K cd25 "mats_between" = true) (k25 : PySem.W.keepIn K (.ref f25) = true)
    (a26 : PySem.W.nsIn K mainGlobals "missed_by" = some (some (.ref f26))) (l26 : K.lookup f26 = some ⟨oc26, od26, .func (PySem.W.fnOf "missed_by" "missed_by" (defArgs s_missed_by) (defBody s_missed_by) (defScope s_missed_by) .none kV26 dc26 pm26 an26 cd26 ct26), sl26⟩) (c26 : PySem.W.codeIn K cd26 "missed_by" = true) (k26 : PySem.W.keepIn K (.ref f26) = true)
    (a27 : PySem.W.nsIn K mainGlobals "full_row_by" = some (some (.ref f27))) (l27 : K.lookup f27 = some ⟨oc27, od27, .func (PySem.W.fnOf "full_row_by" "full_row_by" (defArgs s_full_row_by) (defBody s_full_row_by) (defScope s_full_row_by) .none kV27 dc27 pm27 an27 cd27 ct27), sl27⟩) (c27 : PySem.W.codeIn K cd27 "full_row_by" = true) (k27 : PySem.W.keepIn K (.ref f27) = true)
    (a28 : PySem.W.nsIn K mainGlobals "full_rows_of" = some (some (.ref f28))) (l28 : K.lookup f28 = some ⟨oc28, od28, .func (PySem.W.fnOf "full_rows_of" "full_rows_of" (defArgs s_full_rows_of) (defBody s_full_rows_of) (defScope s_full_rows_of) .none kV28 dc28 pm28 an28 cd28 ct28), sl28⟩) (c28 : PySem.W.codeIn K cd28 "full_rows_of" = true) (k28 : PySem.W.keepIn K (.ref f28) = true)
    (a29 : PySem.W.nsIn K mainGlobals "no_extras" = some (some (.ref f29))) (l29 : K.lookup f29 = some ⟨oc29, od29, .func (PySem.W.fnOf "no_extras" "no_extras" (defArgs s_no_extras) (defBody s_no_extras) (defScope s_no_extras) .none kV29 dc29 pm29 an29 cd29 ct29), sl29⟩) (c29 : PySem.W.codeIn K cd29 "no_extras" = true) (k29 : PySem.W.keepIn K (.ref f29) = true)
    (a30 : PySem.W.nsIn K mainGlobals "least_misses_by" = some (some (.ref f30))) (l30 : K.lookup f30 = some ⟨oc30, od30, .func (PySem.W.fnOf "least_misses_by" "least_misses_by" (defArgs s_least_misses_by) (defBody s_least_misses_by) (defScope s_least_misses_by) .none kV30 dc30 pm30 an30 cd30 ct30), sl30⟩) (c30 : PySem.W.codeIn K cd30 "least_misses_by" = true) (k30 : PySem.W.keepIn K (.ref f30) = true)
    (a31 : PySem.W.nsIn K mainGlobals "windows_in" = some (some (.ref f31))) (l31 : K.lookup f31 = some ⟨oc31, od31, .func (PySem.W.fnOf "windows_in" "windows_in" (defArgs s_windows_in) (defBody s_windows_in) (defScope s_windows_in) .none kV31 dc31 pm31 an31 cd31 ct31), sl31⟩) (c31 : PySem.W.codeIn K cd31 "windows_in" = true) (k31 : PySem.W.keepIn K (.ref f31) = true)
    (a32 : PySem.W.nsIn K mainGlobals "windows_by" = some (some (.ref f32))) (l32 : K.lookup f32 = some ⟨oc32, od32, .func (PySem.W.fnOf "windows_by" "windows_by" (defArgs s_windows_by) (defBody s_windows_by) (defScope s_windows_by) .none kV32 dc32 pm32 an32 cd32 ct32), sl32⟩) (c32 : PySem.W.codeIn K cd32 "windows_by" = true) (k32 : PySem.W.keepIn K (.ref f32) = true)
    (a33 : PySem.W.nsIn K mainGlobals "marked_times" = some (some (.ref f33))) (l33 : K.lookup f33 = some ⟨oc33, od33, .func (PySem.W.fnOf "marked_times" "marked_times" (defArgs s_marked_times) (defBody s_marked_times) (defScope s_marked_times) .none kV33 dc33 pm33 an33 cd33 ct33), sl33⟩) (c33 : PySem.W.codeIn K cd33 "marked_times" = true) (k33 : PySem.W.keepIn K (.ref f33) = true)
    (a34 : PySem.W.nsIn K mainGlobals "quiet_stretches" = some (some (.ref f34))) (l34 : K.lookup f34 = some ⟨oc34, od34, .func (PySem.W.fnOf "quiet_stretches" "quiet_stretches" (defArgs s_quiet_stretches) (defBody s_quiet_stretches) (defScope s_quiet_stretches) .none kV34 dc34 pm34 an34 cd34 ct34), sl34⟩) (c34 : PySem.W.codeIn K cd34 "quiet_stretches" = true) (k34 : PySem.W.keepIn K (.ref f34) = true)
    (a35 : PySem.W.nsIn K mainGlobals "stretches_for" = some (some (.ref f35))) (l35 : K.lookup f35 = some ⟨oc35, od35, .func (PySem.W.fnOf "stretches_for" "stretches_for" (defArgs s_stretches_for) (defBody s_stretches_for) (defScope s_stretches_for) .none kV35 dc35 pm35 an35 cd35 ct35), sl35⟩) (c35 : PySem.W.codeIn K cd35 "stretches_for" = true) (k35 : PySem.W.keepIn K (.ref f35) = true)
    (a36 : PySem.W.nsIn K mainGlobals "do_share" = some (some (.ref f36))) (l36 : K.lookup f36 = some ⟨oc36, od36, .func (PySem.W.fnOf "do_share" "do_share" (defArgs s_do_share) (defBody s_do_share) (defScope s_do_share) .none kV36 dc36 pm36 an36 cd36 ct36), sl36⟩) (c36 : PySem.W.codeIn K cd36 "do_share" = true) (k36 : PySem.W.keepIn K (.ref f36) = true)
    (a37 : PySem.W.nsIn K mainGlobals "shared_by" = some (some (.ref f37))) (l37 : K.lookup f37 = some ⟨oc37, od37, .func (PySem.W.fnOf "shared_by" "shared_by" (defArgs s_shared_by) (defBody s_shared_by) (defScope s_shared_by) .none kV37 dc37 pm37 an37 cd37 ct37), sl37⟩) (c37 : PySem.W.codeIn K cd37 "shared_by" = true) (k37 : PySem.W.keepIn K (.ref f37) = true)
    (a38 : PySem.W.nsIn K mainGlobals "shares_of" = some (some (.ref f38))) (l38 : K.lookup f38 = some ⟨oc38, od38, .func (PySem.W.fnOf "shares_of" "shares_of" (defArgs s_shares_of) (defBody s_shares_of) (defScope s_shares_of) .none kV38 dc38 pm38 an38 cd38 ct38), sl38⟩) (c38 : PySem.W.codeIn K cd38 "shares_of" = true) (k38 : PySem.W.keepIn K (.ref f38) = true)
    (a39 : PySem.W.nsIn K mainGlobals "strays_by" = some (some (.ref f39))) (l39 : K.lookup f39 = some ⟨oc39, od39, .func (PySem.W.fnOf "strays_by" "strays_by" (defArgs s_strays_by) (defBody s_strays_by) (defScope s_strays_by) .none kV39 dc39 pm39 an39 cd39 ct39), sl39⟩) (c39 : PySem.W.codeIn K cd39 "strays_by" = true) (k39 : PySem.W.keepIn K (.ref f39) = true)
    (a40 : PySem.W.nsIn K mainGlobals "chosen_by" = some (some (.ref f40))) (l40 : K.lookup f40 = some ⟨oc40, od40, .func (PySem.W.fnOf "chosen_by" "chosen_by" (defArgs s_chosen_by) (defBody s_chosen_by) (defScope s_chosen_by) .none kV40 dc40 pm40 an40 cd40 ct40), sl40⟩) (c40 : PySem.W.codeIn K cd40 "chosen_by" = true) (k40 : PySem.W.keepIn K (.ref f40) = true)
    (a41 : PySem.W.nsIn K mainGlobals "fewest_dead_by" = some (some (.ref f41))) (l41 : K.lookup f41 = some ⟨oc41, od41, .func (PySem.W.fnOf "fewest_dead_by" "fewest_dead_by" (defArgs s_fewest_dead_by) (defBody s_fewest_dead_by) (defScope s_fewest_dead_by) .none kV41 dc41 pm41 an41 cd41 ct41), sl41⟩) (c41 : PySem.W.codeIn K cd41 "fewest_dead_by" = true) (k41 : PySem.W.keepIn K (.ref f41) = true)
    (a42 : PySem.W.nsIn K mainGlobals "apart_by" = some (some (.ref f42))) (l42 : K.lookup f42 = some ⟨oc42, od42, .func (PySem.W.fnOf "apart_by" "apart_by" (defArgs s_apart_by) (defBody s_apart_by) (defScope s_apart_by) .none kV42 dc42 pm42 an42 cd42 ct42), sl42⟩) (c42 : PySem.W.codeIn K cd42 "apart_by" = true) (k42 : PySem.W.keepIn K (.ref f42) = true)
    (a43 : PySem.W.nsIn K mainGlobals "is_dead_stretch" = some (some (.ref f43))) (l43 : K.lookup f43 = some ⟨oc43, od43, .func (PySem.W.fnOf "is_dead_stretch" "is_dead_stretch" (defArgs s_is_dead_stretch) (defBody s_is_dead_stretch) (defScope s_is_dead_stretch) .none kV43 dc43 pm43 an43 cd43 ct43), sl43⟩) (c43 : PySem.W.codeIn K cd43 "is_dead_stretch" = true) (k43 : PySem.W.keepIn K (.ref f43) = true)
    (a44 : PySem.W.nsIn K mainGlobals "do_explain_by" = some (some (.ref f44))) (l44 : K.lookup f44 = some ⟨oc44, od44, .func (PySem.W.fnOf "do_explain_by" "do_explain_by" (defArgs s_do_explain_by) (defBody s_do_explain_by) (defScope s_do_explain_by) .none kV44 dc44 pm44 an44 cd44 ct44), sl44⟩) (c44 : PySem.W.codeIn K cd44 "do_explain_by" = true) (k44 : PySem.W.keepIn K (.ref f44) = true)
    (a45 : PySem.W.nsIn K mainGlobals "check_raced" = some (some (.ref f45))) (l45 : K.lookup f45 = some ⟨oc45, od45, .func (PySem.W.fnOf "check_raced" "check_raced" (defArgs s_check_raced) (defBody s_check_raced) (defScope s_check_raced) .none kV45 dc45 pm45 an45 cd45 ct45), sl45⟩) (c45 : PySem.W.codeIn K cd45 "check_raced" = true) (k45 : PySem.W.keepIn K (.ref f45) = true)
    (a46 : PySem.W.nsIn K mainGlobals "check_looked_at" = some (some (.ref f46))) (l46 : K.lookup f46 = some ⟨oc46, od46, .func (PySem.W.fnOf "check_looked_at" "check_looked_at" (defArgs s_check_looked_at) (defBody s_check_looked_at) (defScope s_check_looked_at) .none kV46 dc46 pm46 an46 cd46 ct46), sl46⟩) (c46 : PySem.W.codeIn K cd46 "check_looked_at" = true) (k46 : PySem.W.keepIn K (.ref f46) = true)
    (a47 : PySem.W.nsIn K mainGlobals "least_misses" = some (some (.ref f47))) (l47 : K.lookup f47 = some ⟨oc47, od47, .func (PySem.W.fnOf "least_misses" "least_misses" (defArgs s_least_misses) (defBody s_least_misses) (defScope s_least_misses) .none kV47 dc47 pm47 an47 cd47 ct47), sl47⟩) (c47 : PySem.W.codeIn K cd47 "least_misses" = true) (k47 : PySem.W.keepIn K (.ref f47) = true)
    (a48 : PySem.W.nsIn K mainGlobals "windows" = some (some (.ref f48))) (l48 : K.lookup f48 = some ⟨oc48, od48, .func (PySem.W.fnOf "windows" "windows" (defArgs s_windows) (defBody s_windows) (defScope s_windows) .none kV48 dc48 pm48 an48 cd48 ct48), sl48⟩) (c48 : PySem.W.codeIn K cd48 "windows" = true) (k48 : PySem.W.keepIn K (.ref f48) = true)
    (a49 : PySem.W.nsIn K mainGlobals "strays" = some (some (.ref f49))) (l49 : K.lookup f49 = some ⟨oc49, od49, .func (PySem.W.fnOf "strays" "strays" (defArgs s_strays) (defBody s_strays) (defScope s_strays) .none kV49 dc49 pm49 an49 cd49 ct49), sl49⟩) (c49 : PySem.W.codeIn K cd49 "strays" = true) (k49 : PySem.W.keepIn K (.ref f49) = true)
    (a50 : PySem.W.nsIn K mainGlobals "fewest_dead" = some (some (.ref f50))) (l50 : K.lookup f50 = some ⟨oc50, od50, .func (PySem.W.fnOf "fewest_dead" "fewest_dead" (defArgs s_fewest_dead) (defBody s_fewest_dead) (defScope s_fewest_dead) .none kV50 dc50 pm50 an50 cd50 ct50), sl50⟩) (c50 : PySem.W.codeIn K cd50 "fewest_dead" = true) (k50 : PySem.W.keepIn K (.ref f50) = true)
    (a51 : PySem.W.nsIn K mainGlobals "do_explain" = some (some (.ref f51))) (l51 : K.lookup f51 = some ⟨oc51, od51, .func (PySem.W.fnOf "do_explain" "do_explain" (defArgs s_do_explain) (defBody s_do_explain) (defScope s_do_explain) .none kV51 dc51 pm51 an51 cd51 ct51), sl51⟩) (c51 : PySem.W.codeIn K cd51 "do_explain" = true) (k51 : PySem.W.keepIn K (.ref f51) = true)
    (a52 : PySem.W.nsIn K mainGlobals "apart_windows" = some (some (.ref f52))) (l52 : K.lookup f52 = some ⟨oc52, od52, .func (PySem.W.fnOf "apart_windows" "apart_windows" (defArgs s_apart_windows) (defBody s_apart_windows) (defScope s_apart_windows) .none kV52 dc52 pm52 an52 cd52 ct52), sl52⟩) (c52 : PySem.W.codeIn K cd52 "apart_windows" = true) (k52 : PySem.W.keepIn K (.ref f52) = true)
    (a53 : PySem.W.nsIn K mainGlobals "_law_well" = some (some (.ref f53))) (l53 : K.lookup f53 = some ⟨oc53, od53, .func (PySem.W.fnOf "_law_well" "_law_well" (defArgs s__law_well) (defBody s__law_well) (defScope s__law_well) .none kV53 dc53 pm53 an53 cd53 ct53), sl53⟩) (c53 : PySem.W.codeIn K cd53 "_law_well" = true) (k53 : PySem.W.keepIn K (.ref f53) = true)
    (a54 : PySem.W.nsIn K mainGlobals "_law_take" = some (some (.ref f54))) (l54 : K.lookup f54 = some ⟨oc54, od54, .func (PySem.W.fnOf "_law_take" "_law_take" (defArgs s__law_take) (defBody s__law_take) (defScope s__law_take) .none kV54 dc54 pm54 an54 cd54 ct54), sl54⟩) (c54 : PySem.W.codeIn K cd54 "_law_take" = true) (k54 : PySem.W.keepIn K (.ref f54) = true)
    (a55 : PySem.W.nsIn K mainGlobals "_law_of" = some (some (.ref f55))) (l55 : K.lookup f55 = some ⟨oc55, od55, .func (PySem.W.fnOf "_law_of" "_law_of" (defArgs s__law_of) (defBody s__law_of) (defScope s__law_of) .none kV55 dc55 pm55 an55 cd55 ct55), sl55⟩) (c55 : PySem.W.codeIn K cd55 "_law_of" = true) (k55 : PySem.W.keepIn K (.ref f55) = true)
    (a56 : PySem.W.nsIn K mainGlobals "_law_same" = some (some (.ref f56))) (l56 : K.lookup f56 = some ⟨oc56, od56, .func (PySem.W.fnOf "_law_same" "_law_same" (defArgs s__law_same) (defBody s__law_same) (defScope s__law_same) .none kV56 dc56 pm56 an56 cd56 ct56), sl56⟩) (c56 : PySem.W.codeIn K cd56 "_law_same" = true) (k56 : PySem.W.keepIn K (.ref f56) = true)
    (a57 : PySem.W.nsIn K mainGlobals "_law_track" = some (some (.ref f57))) (l57 : K.lookup f57 = some ⟨oc57, od57, .func (PySem.W.fnOf "_law_track" "_law_track" (defArgs s__law_track) (defBody s__law_track) (defScope s__law_track) .none kV57 dc57 pm57 an57 cd57 ct57), sl57⟩) (c57 : PySem.W.codeIn K cd57 "_law_track" = true) (k57 : PySem.W.keepIn K (.ref f57) = true)
    (a58 : PySem.W.nsIn K mainGlobals "_law_course" = some (some (.ref f58))) (l58 : K.lookup f58 = some ⟨oc58, od58, .func (PySem.W.fnOf "_law_course" "_law_course" (defArgs s__law_course) (defBody s__law_course) (defScope s__law_course) .none kV58 dc58 pm58 an58 cd58 ct58), sl58⟩) (c58 : PySem.W.codeIn K cd58 "_law_course" = true) (k58 : PySem.W.keepIn K (.ref f58) = true)
    (a59 : PySem.W.nsIn K mainGlobals "_law_race" = some (some (.ref f59))) (l59 : K.lookup f59 = some ⟨oc59, od59, .func (PySem.W.fnOf "_law_race" "_law_race" (defArgs s__law_race) (defBody s__law_race) (defScope s__law_race) .none kV59 dc59 pm59 an59 cd59 ct59), sl59⟩) (c59 : PySem.W.codeIn K cd59 "_law_race" = true) (k59 : PySem.W.keepIn K (.ref f59) = true)
    (a60 : PySem.W.nsIn K mainGlobals "_law_odd_tracks" = some (some (.ref f60))) (l60 : K.lookup f60 = some ⟨oc60, od60, .func (PySem.W.fnOf "_law_odd_tracks" "_law_odd_tracks" (defArgs s__law_odd_tracks) (defBody s__law_odd_tracks) (defScope s__law_odd_tracks) .none kV60 dc60 pm60 an60 cd60 ct60), sl60⟩) (c60 : PySem.W.codeIn K cd60 "_law_odd_tracks" = true) (k60 : PySem.W.keepIn K (.ref f60) = true)
    (a61 : PySem.W.nsIn K mainGlobals "_law_odd_races" = some (some (.ref f61))) (l61 : K.lookup f61 = some ⟨oc61, od61, .func (PySem.W.fnOf "_law_odd_races" "_law_odd_races" (defArgs s__law_odd_races) (defBody s__law_odd_races) (defScope s__law_odd_races) .none kV61 dc61 pm61 an61 cd61 ct61), sl61⟩) (c61 : PySem.W.codeIn K cd61 "_law_odd_races" = true) (k61 : PySem.W.keepIn K (.ref f61) = true)
    (a62 : PySem.W.nsIn K mainGlobals "_law_odd_mats" = some (some (.ref f62))) (l62 : K.lookup f62 = some ⟨oc62, od62, .func (PySem.W.fnOf "_law_odd_mats" "_law_odd_mats" (defArgs s__law_odd_mats) (defBody s__law_odd_mats) (defScope s__law_odd_mats) .none kV62 dc62 pm62 an62 cd62 ct62), sl62⟩) (c62 : PySem.W.codeIn K cd62 "_law_odd_mats" = true) (k62 : PySem.W.keepIn K (.ref f62) = true)
    (a63 : PySem.W.nsIn K mainGlobals "_law_done" = some (some (.ref f63))) (l63 : K.lookup f63 = some ⟨oc63, od63, .func (PySem.W.fnOf "_law_done" "_law_done" (defArgs s__law_done) (defBody s__law_done) (defScope s__law_done) .none kV63 dc63 pm63 an63 cd63 ct63), sl63⟩) (c63 : PySem.W.codeIn K cd63 "_law_done" = true) (k63 : PySem.W.keepIn K (.ref f63) = true)
    (a64 : PySem.W.nsIn K mainGlobals "_law_said" = some (some (.ref f64))) (l64 : K.lookup f64 = some ⟨oc64, od64, .func (PySem.W.fnOf "_law_said" "_law_said" (defArgs s__law_said) (defBody s__law_said) (defScope s__law_said) .none kV64 dc64 pm64 an64 cd64 ct64), sl64⟩) (c64 : PySem.W.codeIn K cd64 "_law_said" = true) (k64 : PySem.W.keepIn K (.ref f64) = true)
    (a65 : PySem.W.nsIn K mainGlobals "_law_right" = some (some (.ref f65))) (l65 : K.lookup f65 = some ⟨oc65, od65, .func (PySem.W.fnOf "_law_right" "_law_right" (defArgs s__law_right) (defBody s__law_right) (defScope s__law_right) .none kV65 dc65 pm65 an65 cd65 ct65), sl65⟩) (c65 : PySem.W.codeIn K cd65 "_law_right" = true) (k65 : PySem.W.keepIn K (.ref f65) = true)
    (a66 : PySem.W.nsIn K mainGlobals "law" = some (some (.ref f66))) (l66 : K.lookup f66 = some ⟨oc66, od66, .func (PySem.W.fnOf "law" "law" (defArgs s_law) (defBody s_law) (defScope s_law) .none kV66 dc66 pm66 an66 cd66 ct66), sl66⟩) (c66 : PySem.W.codeIn K cd66 "law" = true) (k66 : PySem.W.keepIn K (.ref f66) = true)
    {C_InvalidMat I_InvalidMat : Addr} {p0_InvalidMat p1_InvalidMat p2_InvalidMat p3_InvalidMat p4_InvalidMat p5_InvalidMat : Pos} {nm_InvalidMat qn_InvalidMat qi_InvalidMat : Str} {N_InvalidMat : Addr} {bs_InvalidMat bm_InvalidMat sub_InvalidMat : List Value} {sn_InvalidMat : List Str} {ab_InvalidMat : Bool} {col_InvalidMat : Option Bool} {dd_InvalidMat od_InvalidMat an_InvalidMat : Option Addr} {m0_InvalidMat m1_InvalidMat m2_InvalidMat m3_InvalidMat m5_InvalidMat : Option Value} {oc_InvalidMat doc_InvalidMat pm_InvalidMat cdv_InvalidMat ct_InvalidMat : Value} {osl_InvalidMat : Array (Option Value)}
    (ea_InvalidMat : PySem.W.nsIn K mainGlobals "InvalidMat" = some (some (.ref C_InvalidMat))) (eb_InvalidMat : K.lookup C_InvalidMat = some (excClassObj nm_InvalidMat qn_InvalidMat C_InvalidMat N_InvalidMat bs_InvalidMat bm_InvalidMat true sn_InvalidMat sub_InvalidMat ab_InvalidMat col_InvalidMat dd_InvalidMat m0_InvalidMat m1_InvalidMat m2_InvalidMat m3_InvalidMat m5_InvalidMat "ValueError.__new__"))
    (ec_InvalidMat : PySem.W.findIn K (.ref C_InvalidMat) "__init__" = some (some (.ref I_InvalidMat)))
    (ed_InvalidMat : K.lookup I_InvalidMat = some ⟨oc_InvalidMat, od_InvalidMat, .func (PySem.W.fnOf "__init__" qi_InvalidMat (PySem.GX.iA "given" p0_InvalidMat p1_InvalidMat) (PySem.GX.iB "given" p2_InvalidMat p3_InvalidMat p4_InvalidMat p5_InvalidMat) (PySem.GX.iS "given") .none .none doc_InvalidMat pm_InvalidMat an_InvalidMat cdv_InvalidMat ct_InvalidMat), osl_InvalidMat⟩) (ee_InvalidMat : PySem.W.codeIn K cdv_InvalidMat qi_InvalidMat = true)
    (ef_InvalidMat : PySem.W.findIn K (.ref C_InvalidMat) "__setattr__" = some (some (.builtin "object.__setattr__"))) (eg_InvalidMat : PySem.W.findIn K (.ref C_InvalidMat) "given" = some none) (eh_InvalidMat : PySem.W.typeIn K (.ref I_InvalidMat) = some (.type "function")) (ei_InvalidMat : PySem.W.keepIn K (.ref C_InvalidMat) = true) (ej_InvalidMat : PySem.W.subIn K (.ref C_InvalidMat) (.type "BaseException") = some true) (ek_InvalidMat : PySem.W.typeIn K (.ref C_InvalidMat) = some (.type "type"))
    {C_InvalidRace I_InvalidRace : Addr} {p0_InvalidRace p1_InvalidRace p2_InvalidRace p3_InvalidRace p4_InvalidRace p5_InvalidRace : Pos} {nm_InvalidRace qn_InvalidRace qi_InvalidRace : Str} {N_InvalidRace : Addr} {bs_InvalidRace bm_InvalidRace sub_InvalidRace : List Value} {sn_InvalidRace : List Str} {ab_InvalidRace : Bool} {col_InvalidRace : Option Bool} {dd_InvalidRace od_InvalidRace an_InvalidRace : Option Addr} {m0_InvalidRace m1_InvalidRace m2_InvalidRace m3_InvalidRace m5_InvalidRace : Option Value} {oc_InvalidRace doc_InvalidRace pm_InvalidRace cdv_InvalidRace ct_InvalidRace : Value} {osl_InvalidRace : Array (Option Value)}
    (ea_InvalidRace : PySem.W.nsIn K mainGlobals "InvalidRace" = some (some (.ref C_InvalidRace))) (eb_InvalidRace : K.lookup C_InvalidRace = some (excClassObj nm_InvalidRace qn_InvalidRace C_InvalidRace N_InvalidRace bs_InvalidRace bm_InvalidRace true sn_InvalidRace sub_InvalidRace ab_InvalidRace col_InvalidRace dd_InvalidRace m0_InvalidRace m1_InvalidRace m2_InvalidRace m3_InvalidRace m5_InvalidRace "ValueError.__new__"))
    (ec_InvalidRace : PySem.W.findIn K (.ref C_InvalidRace) "__init__" = some (some (.ref I_InvalidRace)))
    (ed_InvalidRace : K.lookup I_InvalidRace = some ⟨oc_InvalidRace, od_InvalidRace, .func (PySem.W.fnOf "__init__" qi_InvalidRace (PySem.GX.iA "given" p0_InvalidRace p1_InvalidRace) (PySem.GX.iB "given" p2_InvalidRace p3_InvalidRace p4_InvalidRace p5_InvalidRace) (PySem.GX.iS "given") .none .none doc_InvalidRace pm_InvalidRace an_InvalidRace cdv_InvalidRace ct_InvalidRace), osl_InvalidRace⟩) (ee_InvalidRace : PySem.W.codeIn K cdv_InvalidRace qi_InvalidRace = true)
    (ef_InvalidRace : PySem.W.findIn K (.ref C_InvalidRace) "__setattr__" = some (some (.builtin "object.__setattr__"))) (eg_InvalidRace : PySem.W.findIn K (.ref C_InvalidRace) "given" = some none) (eh_InvalidRace : PySem.W.typeIn K (.ref I_InvalidRace) = some (.type "function")) (ei_InvalidRace : PySem.W.keepIn K (.ref C_InvalidRace) = true) (ej_InvalidRace : PySem.W.subIn K (.ref C_InvalidRace) (.type "BaseException") = some true) (ek_InvalidRace : PySem.W.typeIn K (.ref C_InvalidRace) = some (.type "type"))
    {C_InvalidTrack I_InvalidTrack : Addr} {p0_InvalidTrack p1_InvalidTrack p2_InvalidTrack p3_InvalidTrack p4_InvalidTrack p5_InvalidTrack : Pos} {nm_InvalidTrack qn_InvalidTrack qi_InvalidTrack : Str} {N_InvalidTrack : Addr} {bs_InvalidTrack bm_InvalidTrack sub_InvalidTrack : List Value} {sn_InvalidTrack : List Str} {ab_InvalidTrack : Bool} {col_InvalidTrack : Option Bool} {dd_InvalidTrack od_InvalidTrack an_InvalidTrack : Option Addr} {m0_InvalidTrack m1_InvalidTrack m2_InvalidTrack m3_InvalidTrack m5_InvalidTrack : Option Value} {oc_InvalidTrack doc_InvalidTrack pm_InvalidTrack cdv_InvalidTrack ct_InvalidTrack : Value} {osl_InvalidTrack : Array (Option Value)}
    (ea_InvalidTrack : PySem.W.nsIn K mainGlobals "InvalidTrack" = some (some (.ref C_InvalidTrack))) (eb_InvalidTrack : K.lookup C_InvalidTrack = some (excClassObj nm_InvalidTrack qn_InvalidTrack C_InvalidTrack N_InvalidTrack bs_InvalidTrack bm_InvalidTrack true sn_InvalidTrack sub_InvalidTrack ab_InvalidTrack col_InvalidTrack dd_InvalidTrack m0_InvalidTrack m1_InvalidTrack m2_InvalidTrack m3_InvalidTrack m5_InvalidTrack "ValueError.__new__"))
    (ec_InvalidTrack : PySem.W.findIn K (.ref C_InvalidTrack) "__init__" = some (some (.ref I_InvalidTrack)))
    (ed_InvalidTrack : K.lookup I_InvalidTrack = some ⟨oc_InvalidTrack, od_InvalidTrack, .func (PySem.W.fnOf "__init__" qi_InvalidTrack (PySem.GX.iA "given" p0_InvalidTrack p1_InvalidTrack) (PySem.GX.iB "given" p2_InvalidTrack p3_InvalidTrack p4_InvalidTrack p5_InvalidTrack) (PySem.GX.iS "given") .none .none doc_InvalidTrack pm_InvalidTrack an_InvalidTrack cdv_InvalidTrack ct_InvalidTrack), osl_InvalidTrack⟩) (ee_InvalidTrack : PySem.W.codeIn K cdv_InvalidTrack qi_InvalidTrack = true)
    (ef_InvalidTrack : PySem.W.findIn K (.ref C_InvalidTrack) "__setattr__" = some (some (.builtin "object.__setattr__"))) (eg_InvalidTrack : PySem.W.findIn K (.ref C_InvalidTrack) "given" = some none) (eh_InvalidTrack : PySem.W.typeIn K (.ref I_InvalidTrack) = some (.type "function")) (ei_InvalidTrack : PySem.W.keepIn K (.ref C_InvalidTrack) = true) (ej_InvalidTrack : PySem.W.subIn K (.ref C_InvalidTrack) (.type "BaseException") = some true) (ek_InvalidTrack : PySem.W.typeIn K (.ref C_InvalidTrack) = some (.type "type"))
    (er_InvalidMat : PySem.HandSPX.refsVE bm_InvalidMat = true)
    (er_InvalidRace : PySem.HandSPX.refsVE bm_InvalidRace = true)
    (er_InvalidTrack : PySem.HandSPX.refsVE bm_InvalidTrack = true)
    (zVE : PySem.W.nsIn K mainGlobals "ValueError" = some none) (tb : tabB K tabL = true)
    (z_list : PySem.W.nsIn K mainGlobals "list" = some none)
    (z_sum : PySem.W.nsIn K mainGlobals "sum" = some none)
    (z_len : PySem.W.nsIn K mainGlobals "len" = some none)
    (z_divmod : PySem.W.nsIn K mainGlobals "divmod" = some none)
    (z_range : PySem.W.nsIn K mainGlobals "range" = some none)
    (z_isinstance : PySem.W.nsIn K mainGlobals "isinstance" = some none)
    (z_int : PySem.W.nsIn K mainGlobals "int" = some none)
    (z_bool : PySem.W.nsIn K mainGlobals "bool" = some none)
    (z_tuple : PySem.W.nsIn K mainGlobals "tuple" = some none)
    (z_MOST_MATS : PySem.W.nsIn K mainGlobals "MOST_MATS" = some (some (.int 8 tk_MOST_MATS)))
    (z_all : PySem.W.nsIn K mainGlobals "all" = some none)
    (z_MOST_MARKS : PySem.W.nsIn K mainGlobals "MOST_MARKS" = some (some (.int 30 tk_MOST_MARKS)))
    (z_enumerate : PySem.W.nsIn K mainGlobals "enumerate" = some none)
    (z_MOST_RUNNERS : PySem.W.nsIn K mainGlobals "MOST_RUNNERS" = some (some (.int 6 tk_MOST_RUNNERS)))
    (z_zip : PySem.W.nsIn K mainGlobals "zip" = some none)
    (z_sorted : PySem.W.nsIn K mainGlobals "sorted" = some none)
    (z_TO : PySem.W.nsIn K mainGlobals "TO" = some (some (.int 3 tk_TO)))
    (z_max : PySem.W.nsIn K mainGlobals "max" = some none)
    (z_min : PySem.W.nsIn K mainGlobals "min" = some none)
    (z_FROM : PySem.W.nsIn K mainGlobals "FROM" = some (some (.int 2 tk_FROM)))
    (z_any : PySem.W.nsIn K mainGlobals "any" = some none)
    (z_abs : PySem.W.nsIn K mainGlobals "abs" = some none)
    (z_str : PySem.W.nsIn K mainGlobals "str" = some none)
    (z_dict : PySem.W.nsIn K mainGlobals "dict" = some none)
    : ∃ fd : FuncData, (∀ (s : Shared) (v : Value), BindsTo s fd ⟨[v], []⟩ [("script", v)]) ∧ ∀ base : Heap, K.In base → base.Ns mainGlobals mg → FnG l.prog w K mg base 23 fa fd ["script"] (spG K F_law) := by
  have e := hfa.symm.trans (PySem.W.mg_of X G a66)
  cases e
  have T : Bt mg := ⟨PySem.W.mg_none_of X G z_list, PySem.W.mg_none_of X G z_sum, PySem.W.mg_none_of X G z_len, PySem.W.mg_none_of X G z_divmod, PySem.W.mg_none_of X G z_range, PySem.W.mg_none_of X G z_isinstance, PySem.W.mg_none_of X G z_int, PySem.W.mg_none_of X G z_bool, PySem.W.mg_none_of X G z_tuple, ⟨_, PySem.W.mg_of X G z_MOST_MATS⟩, PySem.W.mg_none_of X G z_all, ⟨_, PySem.W.mg_of X G z_MOST_MARKS⟩, PySem.W.mg_none_of X G z_enumerate, ⟨_, PySem.W.mg_of X G z_MOST_RUNNERS⟩, PySem.W.mg_none_of X G z_zip, PySem.W.mg_none_of X G z_sorted, ⟨_, PySem.W.mg_of X G z_TO⟩, PySem.W.mg_none_of X G z_max, PySem.W.mg_none_of X G z_min, ⟨_, PySem.W.mg_of X G z_FROM⟩, PySem.W.mg_none_of X G z_any, PySem.W.mg_none_of X G z_abs, PySem.W.mg_none_of X G z_str, PySem.W.mg_none_of X G z_dict⟩
  have NS : ∀ x v, PySem.W.nsIn K mainGlobals x = some (some v) → mg x = some v := fun x v e => PySem.W.mg_of X G e
  have XX : Xt K mg := { ns := NS, r_InvalidMat := ⟨C_InvalidMat, I_InvalidMat, ⟨by decide, NS _ _ ea_InvalidMat, ea_InvalidMat, ⟨_, _, _, _, _, _, _, _, _, _, _, _, _, _, _, eb_InvalidMat, er_InvalidMat⟩, ef_InvalidMat, eg_InvalidMat, ec_InvalidMat, eh_InvalidMat, ei_InvalidMat, ej_InvalidMat, ek_InvalidMat, ⟨_, _, _, _, _, _, _, _, _, _, _, _, _, _, _, ed_InvalidMat, ee_InvalidMat⟩⟩⟩, r_InvalidRace := ⟨C_InvalidRace, I_InvalidRace, ⟨by decide, NS _ _ ea_InvalidRace, ea_InvalidRace, ⟨_, _, _, _, _, _, _, _, _, _, _, _, _, _, _, eb_InvalidRace, er_InvalidRace⟩, ef_InvalidRace, eg_InvalidRace, ec_InvalidRace, eh_InvalidRace, ei_InvalidRace, ej_InvalidRace, ek_InvalidRace, ⟨_, _, _, _, _, _, _, _, _, _, _, _, _, _, _, ed_InvalidRace, ee_InvalidRace⟩⟩⟩, r_InvalidTrack := ⟨C_InvalidTrack, I_InvalidTrack, ⟨by decide, NS _ _ ea_InvalidTrack, ea_InvalidTrack, ⟨_, _, _, _, _, _, _, _, _, _, _, _, _, _, _, eb_InvalidTrack, er_InvalidTrack⟩, ef_InvalidTrack, eg_InvalidTrack, ec_InvalidTrack, eh_InvalidTrack, ei_InvalidTrack, ej_InvalidTrack, ek_InvalidTrack, ⟨_, _, _, _, _, _, _, _, _, _, _, _, _, _, _, ed_InvalidTrack, ee_InvalidTrack⟩⟩⟩, xt := ⟨NS, PySem.W.mg_none_of X G zVE, tb⟩ }
  refine law_fd hfa (fun_mk (st := s_law) l66 c66 k66) (fun s v => .of_eq rfl) fun base _ _ => ?_
  have c_round_by := ok_round_by (P := l.prog) (w := w) (base := base) T XX ⟨_, _, PySem.W.mg_of X G a0, fun_mk l0 c0 k0⟩
  have c_sectors_from := ok_sectors_from (P := l.prog) (w := w) (base := base) T XX ⟨_, _, PySem.W.mg_of X G a1, fun_mk l1 c1 k1⟩
  have c_reach_by := ok_reach_by (P := l.prog) (w := w) (base := base) T XX ⟨_, _, PySem.W.mg_of X G a2, fun_mk l2 c2 k2⟩ c_round_by c_sectors_from
  have c_steps_by := ok_steps_by (P := l.prog) (w := w) (base := base) T XX ⟨_, _, PySem.W.mg_of X G a3, fun_mk l3 c3 k3⟩
  have c_way_by := ok_way_by (P := l.prog) (w := w) (base := base) T XX ⟨_, _, PySem.W.mg_of X G a4, fun_mk l4 c4 k4⟩ c_reach_by c_steps_by
  have c_can_follow_by := ok_can_follow_by (P := l.prog) (w := w) (base := base) T XX ⟨_, _, PySem.W.mg_of X G a5, fun_mk l5 c5 k5⟩ c_way_by
  have c_wrong_marks_by := ok_wrong_marks_by (P := l.prog) (w := w) (base := base) T XX ⟨_, _, PySem.W.mg_of X G a6, fun_mk l6 c6 k6⟩ c_can_follow_by
  have c_is_row_by := ok_is_row_by (P := l.prog) (w := w) (base := base) T XX ⟨_, _, PySem.W.mg_of X G a7, fun_mk l7 c7 k7⟩ c_wrong_marks_by
  have c_is_whole := ok_is_whole (P := l.prog) (w := w) (base := base) T XX ⟨_, _, PySem.W.mg_of X G a8, fun_mk l8 c8 k8⟩
  have c_is_between := ok_is_between (P := l.prog) (w := w) (base := base) T XX ⟨_, _, PySem.W.mg_of X G a9, fun_mk l9 c9 k9⟩ c_is_whole
  have c_is_up_to := ok_is_up_to (P := l.prog) (w := w) (base := base) T XX ⟨_, _, PySem.W.mg_of X G a10, fun_mk l10 c10 k10⟩ c_is_between
  have c_is_from := ok_is_from (P := l.prog) (w := w) (base := base) T XX ⟨_, _, PySem.W.mg_of X G a11, fun_mk l11 c11 k11⟩ c_is_whole
  have c_is_tuple_up_to := ok_is_tuple_up_to (P := l.prog) (w := w) (base := base) T XX ⟨_, _, PySem.W.mg_of X G a12, fun_mk l12 c12 k12⟩
  have c_is_tuple_of := ok_is_tuple_of (P := l.prog) (w := w) (base := base) T XX ⟨_, _, PySem.W.mg_of X G a13, fun_mk l13 c13 k13⟩ c_is_tuple_up_to
  have c_is_pair := ok_is_pair (P := l.prog) (w := w) (base := base) T XX ⟨_, _, PySem.W.mg_of X G a14, fun_mk l14 c14 k14⟩ c_is_tuple_of
  have c_is_track_of := ok_is_track_of (P := l.prog) (w := w) (base := base) T XX ⟨_, _, PySem.W.mg_of X G a15, fun_mk l15 c15 k15⟩ c_is_tuple_up_to c_is_from
  have c_is_mat_of := ok_is_mat_of (P := l.prog) (w := w) (base := base) T XX ⟨_, _, PySem.W.mg_of X G a16, fun_mk l16 c16 k16⟩ c_is_up_to
  have c_is_mark_of := ok_is_mark_of (P := l.prog) (w := w) (base := base) T XX ⟨_, _, PySem.W.mg_of X G a17, fun_mk l17 c17 k17⟩ c_is_pair c_is_from c_is_mat_of
  have c_wrong_in_bag := ok_wrong_in_bag (P := l.prog) (w := w) (base := base) T XX ⟨_, _, PySem.W.mg_of X G a18, fun_mk l18 c18 k18⟩ c_is_tuple_up_to c_is_mark_of
  have c_is_bag_of := ok_is_bag_of (P := l.prog) (w := w) (base := base) T XX ⟨_, _, PySem.W.mg_of X G a19, fun_mk l19 c19 k19⟩ c_wrong_in_bag
  have c_is_full_row := ok_is_full_row (P := l.prog) (w := w) (base := base) T XX ⟨_, _, PySem.W.mg_of X G a20, fun_mk l20 c20 k20⟩ c_is_bag_of c_is_row_by
  have c_is_race_of := ok_is_race_of (P := l.prog) (w := w) (base := base) T XX ⟨_, _, PySem.W.mg_of X G a21, fun_mk l21 c21 k21⟩ c_is_pair c_is_from c_is_tuple_up_to c_is_full_row
  have c_check_track := ok_check_track (P := l.prog) (w := w) (base := base) T XX ⟨_, _, PySem.W.mg_of X G a22, fun_mk l22 c22 k22⟩ c_is_track_of
  have c_check_mat := ok_check_mat (P := l.prog) (w := w) (base := base) T XX ⟨_, _, PySem.W.mg_of X G a23, fun_mk l23 c23 k23⟩ c_is_mat_of
  have c_check_race := ok_check_race (P := l.prog) (w := w) (base := base) T XX ⟨_, _, PySem.W.mg_of X G a24, fun_mk l24 c24 k24⟩ c_is_race_of
  have c_mats_between := ok_mats_between (P := l.prog) (w := w) (base := base) T XX ⟨_, _, PySem.W.mg_of X G a25, fun_mk l25 c25 k25⟩ c_steps_by
  have c_missed_by := ok_missed_by (P := l.prog) (w := w) (base := base) T XX ⟨_, _, PySem.W.mg_of X G a26, fun_mk l26 c26 k26⟩ c_mats_between
  have c_full_row_by := ok_full_row_by (P := l.prog) (w := w) (base := base) T XX ⟨_, _, PySem.W.mg_of X G a27, fun_mk l27 c27 k27⟩
  have c_full_rows_of := ok_full_rows_of (P := l.prog) (w := w) (base := base) T XX ⟨_, _, PySem.W.mg_of X G a28, fun_mk l28 c28 k28⟩ c_full_row_by
  have c_no_extras := ok_no_extras (P := l.prog) (w := w) (base := base) T XX ⟨_, _, PySem.W.mg_of X G a29, fun_mk l29 c29 k29⟩
  have c_least_misses_by := ok_least_misses_by (P := l.prog) (w := w) (base := base) T XX ⟨_, _, PySem.W.mg_of X G a30, fun_mk l30 c30 k30⟩ c_full_rows_of c_missed_by c_no_extras
  have c_windows_in := ok_windows_in (P := l.prog) (w := w) (base := base) T XX ⟨_, _, PySem.W.mg_of X G a31, fun_mk l31 c31 k31⟩ c_mats_between c_way_by
  have c_windows_by := ok_windows_by (P := l.prog) (w := w) (base := base) T XX ⟨_, _, PySem.W.mg_of X G a32, fun_mk l32 c32 k32⟩ c_full_rows_of c_windows_in
  have c_marked_times := ok_marked_times (P := l.prog) (w := w) (base := base) T XX ⟨_, _, PySem.W.mg_of X G a33, fun_mk l33 c33 k33⟩ c_full_rows_of
  have c_quiet_stretches := ok_quiet_stretches (P := l.prog) (w := w) (base := base) T XX ⟨_, _, PySem.W.mg_of X G a34, fun_mk l34 c34 k34⟩
  have c_stretches_for := ok_stretches_for (P := l.prog) (w := w) (base := base) T XX ⟨_, _, PySem.W.mg_of X G a35, fun_mk l35 c35 k35⟩ c_quiet_stretches c_marked_times
  have c_do_share := ok_do_share (P := l.prog) (w := w) (base := base) T XX ⟨_, _, PySem.W.mg_of X G a36, fun_mk l36 c36 k36⟩
  have c_shared_by := ok_shared_by (P := l.prog) (w := w) (base := base) T XX ⟨_, _, PySem.W.mg_of X G a37, fun_mk l37 c37 k37⟩ c_do_share
  have c_shares_of := ok_shares_of (P := l.prog) (w := w) (base := base) T XX ⟨_, _, PySem.W.mg_of X G a38, fun_mk l38 c38 k38⟩ c_windows_by c_stretches_for c_shared_by
  have c_strays_by := ok_strays_by (P := l.prog) (w := w) (base := base) T XX ⟨_, _, PySem.W.mg_of X G a39, fun_mk l39 c39 k39⟩ c_shares_of
  have c_chosen_by := ok_chosen_by (P := l.prog) (w := w) (base := base) T XX ⟨_, _, PySem.W.mg_of X G a40, fun_mk l40 c40 k40⟩
  have c_fewest_dead_by := ok_fewest_dead_by (P := l.prog) (w := w) (base := base) T XX ⟨_, _, PySem.W.mg_of X G a41, fun_mk l41 c41 k41⟩ c_shares_of c_chosen_by
  have c_apart_by := ok_apart_by (P := l.prog) (w := w) (base := base) T XX ⟨_, _, PySem.W.mg_of X G a42, fun_mk l42 c42 k42⟩ c_chosen_by c_shares_of
  have c_is_dead_stretch := ok_is_dead_stretch (P := l.prog) (w := w) (base := base) T XX ⟨_, _, PySem.W.mg_of X G a43, fun_mk l43 c43 k43⟩ c_is_pair c_is_whole c_is_from
  have c_do_explain_by := ok_do_explain_by (P := l.prog) (w := w) (base := base) T XX ⟨_, _, PySem.W.mg_of X G a44, fun_mk l44 c44 k44⟩ c_marked_times c_is_dead_stretch c_windows_by c_shared_by
  have c_check_raced := ok_check_raced (P := l.prog) (w := w) (base := base) T XX ⟨_, _, PySem.W.mg_of X G a45, fun_mk l45 c45 k45⟩ c_check_track c_check_race
  have c_check_looked_at := ok_check_looked_at (P := l.prog) (w := w) (base := base) T XX ⟨_, _, PySem.W.mg_of X G a46, fun_mk l46 c46 k46⟩ c_check_raced c_check_mat
  have c_least_misses := ok_least_misses (P := l.prog) (w := w) (base := base) T XX ⟨_, _, PySem.W.mg_of X G a47, fun_mk l47 c47 k47⟩ c_check_raced c_least_misses_by
  have c_windows := ok_windows (P := l.prog) (w := w) (base := base) T XX ⟨_, _, PySem.W.mg_of X G a48, fun_mk l48 c48 k48⟩ c_check_looked_at c_windows_by
  have c_strays := ok_strays (P := l.prog) (w := w) (base := base) T XX ⟨_, _, PySem.W.mg_of X G a49, fun_mk l49 c49 k49⟩ c_check_looked_at c_strays_by
  have c_fewest_dead := ok_fewest_dead (P := l.prog) (w := w) (base := base) T XX ⟨_, _, PySem.W.mg_of X G a50, fun_mk l50 c50 k50⟩ c_check_looked_at c_fewest_dead_by
  have c_do_explain := ok_do_explain (P := l.prog) (w := w) (base := base) T XX ⟨_, _, PySem.W.mg_of X G a51, fun_mk l51 c51 k51⟩ c_check_looked_at c_do_explain_by
  have c_apart_windows := ok_apart_windows (P := l.prog) (w := w) (base := base) T XX ⟨_, _, PySem.W.mg_of X G a52, fun_mk l52 c52 k52⟩ c_check_looked_at c_apart_by
  have c__law_well := ok__law_well (P := l.prog) (w := w) (base := base) T XX ⟨_, _, PySem.W.mg_of X G a53, fun_mk l53 c53 k53⟩
  have c__law_take := ok__law_take (P := l.prog) (w := w) (base := base) T XX ⟨_, _, PySem.W.mg_of X G a54, fun_mk l54 c54 k54⟩
  have c__law_of := ok__law_of (P := l.prog) (w := w) (base := base) T XX ⟨_, _, PySem.W.mg_of X G a55, fun_mk l55 c55 k55⟩ c__law_take
  have c__law_same := ok__law_same (P := l.prog) (w := w) (base := base) T XX ⟨_, _, PySem.W.mg_of X G a56, fun_mk l56 c56 k56⟩
  have c__law_track := ok__law_track (P := l.prog) (w := w) (base := base) T XX ⟨_, _, PySem.W.mg_of X G a57, fun_mk l57 c57 k57⟩ c__law_of c__law_take
  have c__law_course := ok__law_course (P := l.prog) (w := w) (base := base) T XX ⟨_, _, PySem.W.mg_of X G a58, fun_mk l58 c58 k58⟩ c__law_of c__law_take
  have c__law_race := ok__law_race (P := l.prog) (w := w) (base := base) T XX ⟨_, _, PySem.W.mg_of X G a59, fun_mk l59 c59 k59⟩ c__law_of c__law_take c__law_course
  have c__law_odd_tracks := ok__law_odd_tracks (P := l.prog) (w := w) (base := base) T XX ⟨_, _, PySem.W.mg_of X G a60, fun_mk l60 c60 k60⟩
  have c__law_odd_races := ok__law_odd_races (P := l.prog) (w := w) (base := base) T XX ⟨_, _, PySem.W.mg_of X G a61, fun_mk l61 c61 k61⟩
  have c__law_odd_mats := ok__law_odd_mats (P := l.prog) (w := w) (base := base) T XX ⟨_, _, PySem.W.mg_of X G a62, fun_mk l62 c62 k62⟩
  have c__law_done := ok__law_done (P := l.prog) (w := w) (base := base) T XX ⟨_, _, PySem.W.mg_of X G a63, fun_mk l63 c63 k63⟩ c_least_misses c_windows c_strays c_fewest_dead c_apart_windows c_do_explain
  have c__law_said := ok__law_said (P := l.prog) (w := w) (base := base) T XX ⟨_, _, PySem.W.mg_of X G a64, fun_mk l64 c64 k64⟩ c__law_done
  have c__law_right := ok__law_right (P := l.prog) (w := w) (base := base) T XX ⟨_, _, PySem.W.mg_of X G a65, fun_mk l65 c65 k65⟩ c__law_track c__law_race c__law_take c__law_said c__law_odd_tracks c__law_same c__law_of c__law_odd_races c__law_odd_mats c_do_explain
  have c_law := ok_law (P := l.prog) (w := w) (base := base) T XX ⟨_, _, PySem.W.mg_of X G a66, fun_mk l66 c66 k66⟩ c__law_right c__law_well
  exact c_law
end K40
open PySem PySem.W PyProof.Rows
set_option maxRecDepth 100000 in
set_option maxHeartbeats 0 in
theorem PySem.Challenge.cw_lapmats_k40_misses_refused_holds : PySem.Challenge.rw_lapmats_k40_misses_refused.Holds := by
  w_on; o_law; k_head; (case hw => w_witness2)
  k_fill
  refine G.walk_end (l := PySem.Challenge.rw_lapmats_k40_misses_refused) (n := 63) (k := 23) (x := "script") (F := K40.F_law) rfl (by decide) rfl ⟨rfl, by decide, by decide⟩ (fun w h Y => PySem.W.kIn_of Y) ?F K40.law_true
  case F =>
    intro w mg fa h KX G hmg
    refine' K40.all_mk KX G hmg ?a0 ?l0 ?c0 ?k0 ?a1 ?l1 ?c1 ?k1 ?a2 ?l2 ?c2 ?k2 ?a3 ?l3 ?c3 ?k3 ?a4 ?l4 ?c4 ?k4 ?a5 ?l5 ?c5 ?k5 ?a6 ?l6 ?c6 ?k6 ?a7 ?l7 ?c7 ?k7 ?a8 ?l8 ?c8 ?k8 ?a9 ?l9 ?c9 ?k9 ?a10 ?l10 ?c10 ?k10 ?a11 ?l11 ?c11 ?k11 ?a12 ?l12 ?c12 ?k12 ?a13 ?l13 ?c13 ?k13 ?a14 ?l14 ?c14 ?k14 ?a15 ?l15 ?c15 ?k15 ?a16 ?l16 ?c16 ?k16 ?a17 ?l17 ?c17 ?k17 ?a18 ?l18 ?c18 ?k18 ?a19 ?l19 ?c19 ?k19 ?a20 ?l20 ?c20 ?k20 ?a21 ?l21 ?c21 ?k21 ?a22 ?l22 ?c22 ?k22 ?a23 ?l23 ?c23 ?k23 ?a24 ?l24 ?c24 ?k24 ?a25 ?l25 ?c25 ?k25 ?a26 ?l26 ?c26 ?k26 ?a27 ?l27 ?c27 ?k27 ?a28 ?l28 ?c28 ?k28 ?a29 ?l29 ?c29 ?k29 ?a30 ?l30 ?c30 ?k30 ?a31 ?l31 ?c31 ?k31 ?a32 ?l32 ?c32 ?k32 ?a33 ?l33 ?c33 ?k33 ?a34 ?l34 ?c34 ?k34 ?a35 ?l35 ?c35 ?k35 ?a36 ?l36 ?c36 ?k36 ?a37 ?l37 ?c37 ?k37 ?a38 ?l38 ?c38 ?k38 ?a39 ?l39 ?c39 ?k39 ?a40 ?l40 ?c40 ?k40 ?a41 ?l41 ?c41 ?k41 ?a42 ?l42 ?c42 ?k42 ?a43 ?l43 ?c43 ?k43 ?a44 ?l44 ?c44 ?k44 ?a45 ?l45 ?c45 ?k45 ?a46 ?l46 ?c46 ?k46 ?a47 ?l47 ?c47 ?k47 ?a48 ?l48 ?c48 ?k48 ?a49 ?l49 ?c49 ?k49 ?a50 ?l50 ?c50 ?k50 ?a51 ?l51 ?c51 ?k51 ?a52 ?l52 ?c52 ?k52 ?a53 ?l53 ?c53 ?k53 ?a54 ?l54 ?c54 ?k54 ?a55 ?l55 ?c55 ?k55 ?a56 ?l56 ?c56 ?k56 ?a57 ?l57 ?c57 ?k57 ?a58 ?l58 ?c58 ?k58 ?a59 ?l59 ?c59 ?k59 ?a60 ?l60 ?c60 ?k60 ?a61 ?l61 ?c61 ?k61 ?a62 ?l62 ?c62 ?k62 ?a63 ?l63 ?c63 ?k63 ?a64 ?l64 ?c64 ?k64 ?a65 ?l65 ?c65 ?k65 ?a66 ?l66 ?c66 ?k66 ?ea_InvalidMat ?eb_InvalidMat ?ec_InvalidMat ?ed_InvalidMat ?ee_InvalidMat ?ef_InvalidMat ?eg_InvalidMat ?eh_InvalidMat ?ei_InvalidMat ?ej_InvalidMat ?ek_InvalidMat ?ea_InvalidRace ?eb_InvalidRace ?ec_InvalidRace ?ed_InvalidRace ?ee_InvalidRace ?ef_InvalidRace ?eg_InvalidRace ?eh_InvalidRace ?ei_InvalidRace ?ej_InvalidRace ?ek_InvalidRace ?ea_InvalidTrack ?eb_InvalidTrack ?ec_InvalidTrack ?ed_InvalidTrack ?ee_InvalidTrack ?ef_InvalidTrack ?eg_InvalidTrack ?eh_InvalidTrack ?ei_InvalidTrack ?ej_InvalidTrack ?ek_InvalidTrack ?er_InvalidMat ?er_InvalidRace ?er_InvalidTrack ?zVE ?tb ?z_list ?z_sum ?z_len ?z_divmod ?z_range ?z_isinstance ?z_int ?z_bool ?z_tuple ?z_MOST_MATS ?z_all ?z_MOST_MARKS ?z_enumerate ?z_MOST_RUNNERS ?z_zip ?z_sorted ?z_TO ?z_max ?z_min ?z_FROM ?z_any ?z_abs ?z_str ?z_dict
    (case a0 => k_is)
    (case l0 => k_is)
    (case c0 => k_is)
    (case k0 => k_is)
    (case a1 => k_is)
    (case l1 => k_is)
    (case c1 => k_is)
    (case k1 => k_is)
    (case a2 => k_is)
    (case l2 => k_is)
    (case c2 => k_is)
    (case k2 => k_is)
    (case a3 => k_is)
    (case l3 => k_is)
    (case c3 => k_is)
    (case k3 => k_is)
    (case a4 => k_is)
    (case l4 => k_is)
    (case c4 => k_is)
    (case k4 => k_is)
    (case a5 => k_is)
    (case l5 => k_is)
    (case c5 => k_is)
    (case k5 => k_is)
    (case a6 => k_is)
    (case l6 => k_is)
    (case c6 => k_is)
    (case k6 => k_is)
    (case a7 => k_is)
    (case l7 => k_is)
    (case c7 => k_is)
    (case k7 => k_is)
    (case a8 => k_is)
    (case l8 => k_is)
    (case c8 => k_is)
    (case k8 => k_is)
    (case a9 => k_is)
    (case l9 => k_is)
    (case c9 => k_is)
    (case k9 => k_is)
    (case a10 => k_is)
    (case l10 => k_is)
    (case c10 => k_is)
    (case k10 => k_is)
    (case a11 => k_is)
    (case l11 => k_is)
    (case c11 => k_is)
    (case k11 => k_is)
    (case a12 => k_is)
    (case l12 => k_is)
    (case c12 => k_is)
    (case k12 => k_is)
    (case a13 => k_is)
    (case l13 => k_is)
    (case c13 => k_is)
    (case k13 => k_is)
    (case a14 => k_is)
    (case l14 => k_is)
    (case c14 => k_is)
    (case k14 => k_is)
    (case a15 => k_is)
    (case l15 => k_is)
    (case c15 => k_is)
    (case k15 => k_is)
    (case a16 => k_is)
    (case l16 => k_is)
    (case c16 => k_is)
    (case k16 => k_is)
    (case a17 => k_is)
    (case l17 => k_is)
    (case c17 => k_is)
    (case k17 => k_is)
    (case a18 => k_is)
    (case l18 => k_is)
    (case c18 => k_is)
    (case k18 => k_is)
    (case a19 => k_is)
    (case l19 => k_is)
    (case c19 => k_is)
    (case k19 => k_is)
    (case a20 => k_is)
    (case l20 => k_is)
    (case c20 => k_is)
    (case k20 => k_is)
    (case a21 => k_is)
    (case l21 => k_is)
    (case c21 => k_is)
    (case k21 => k_is)
    (case a22 => k_is)
    (case l22 => k_is)
    (case c22 => k_is)
    (case k22 => k_is)
    (case a23 => k_is)
    (case l23 => k_is)
    (case c23 => k_is)
    (case k23 => k_is)
    (case a24 => k_is)
    (case l24 => k_is)
    (case c24 => k_is)
    (case k24 => k_is)
    (case a25 => k_is)
    (case l25 => k_is)
    (case c25 => k_is)
    (case k25 => k_is)
    (case a26 => k_is)
    (case l26 => k_is)
    (case c26 => k_is)
    (case k26 => k_is)
    (case a27 => k_is)
    (case l27 => k_is)
    (case c27 => k_is)
    (case k27 => k_is)
    (case a28 => k_is)
    (case l28 => k_is)
    (case c28 => k_is)
    (case k28 => k_is)
    (case a29 => k_is)
    (case l29 => k_is)
    (case c29 => k_is)
    (case k29 => k_is)
    (case a30 => k_is)
    (case l30 => k_is)
    (case c30 => k_is)
    (case k30 => k_is)
    (case a31 => k_is)
    (case l31 => k_is)
    (case c31 => k_is)
    (case k31 => k_is)
    (case a32 => k_is)
    (case l32 => k_is)
    (case c32 => k_is)
    (case k32 => k_is)
    (case a33 => k_is)
    (case l33 => k_is)
    (case c33 => k_is)
    (case k33 => k_is)
    (case a34 => k_is)
    (case l34 => k_is)
    (case c34 => k_is)
    (case k34 => k_is)
    (case a35 => k_is)
    (case l35 => k_is)
    (case c35 => k_is)
    (case k35 => k_is)
    (case a36 => k_is)
    (case l36 => k_is)
    (case c36 => k_is)
    (case k36 => k_is)
    (case a37 => k_is)
    (case l37 => k_is)
    (case c37 => k_is)
    (case k37 => k_is)
    (case a38 => k_is)
    (case l38 => k_is)
    (case c38 => k_is)
    (case k38 => k_is)
    (case a39 => k_is)
    (case l39 => k_is)
    (case c39 => k_is)
    (case k39 => k_is)
    (case a40 => k_is)
    (case l40 => k_is)
    (case c40 => k_is)
    (case k40 => k_is)
    (case a41 => k_is)
    (case l41 => k_is)
    (case c41 => k_is)
    (case k41 => k_is)
    (case a42 => k_is)
    (case l42 => k_is)
    (case c42 => k_is)
    (case k42 => k_is)
    (case a43 => k_is)
    (case l43 => k_is)
    (case c43 => k_is)
    (case k43 => k_is)
    (case a44 => k_is)
    (case l44 => k_is)
    (case c44 => k_is)
    (case k44 => k_is)
    (case a45 => k_is)
    (case l45 => k_is)
    (case c45 => k_is)
    (case k45 => k_is)
    (case a46 => k_is)
    (case l46 => k_is)
    (case c46 => k_is)
    (case k46 => k_is)
    (case a47 => k_is)
    (case l47 => k_is)
    (case c47 => k_is)
    (case k47 => k_is)
    (case a48 => k_is)
    (case l48 => k_is)
    (case c48 => k_is)
    (case k48 => k_is)
    (case a49 => k_is)
    (case l49 => k_is)
    (case c49 => k_is)
    (case k49 => k_is)
    (case a50 => k_is)
    (case l50 => k_is)
    (case c50 => k_is)
    (case k50 => k_is)
    (case a51 => k_is)
    (case l51 => k_is)
    (case c51 => k_is)
    (case k51 => k_is)
    (case a52 => k_is)
    (case l52 => k_is)
    (case c52 => k_is)
    (case k52 => k_is)
    (case a53 => k_is)
    (case l53 => k_is)
    (case c53 => k_is)
    (case k53 => k_is)
    (case a54 => k_is)
    (case l54 => k_is)
    (case c54 => k_is)
    (case k54 => k_is)
    (case a55 => k_is)
    (case l55 => k_is)
    (case c55 => k_is)
    (case k55 => k_is)
    (case a56 => k_is)
    (case l56 => k_is)
    (case c56 => k_is)
    (case k56 => k_is)
    (case a57 => k_is)
    (case l57 => k_is)
    (case c57 => k_is)
    (case k57 => k_is)
    (case a58 => k_is)
    (case l58 => k_is)
    (case c58 => k_is)
    (case k58 => k_is)
    (case a59 => k_is)
    (case l59 => k_is)
    (case c59 => k_is)
    (case k59 => k_is)
    (case a60 => k_is)
    (case l60 => k_is)
    (case c60 => k_is)
    (case k60 => k_is)
    (case a61 => k_is)
    (case l61 => k_is)
    (case c61 => k_is)
    (case k61 => k_is)
    (case a62 => k_is)
    (case l62 => k_is)
    (case c62 => k_is)
    (case k62 => k_is)
    (case a63 => k_is)
    (case l63 => k_is)
    (case c63 => k_is)
    (case k63 => k_is)
    (case a64 => k_is)
    (case l64 => k_is)
    (case c64 => k_is)
    (case k64 => k_is)
    (case a65 => k_is)
    (case l65 => k_is)
    (case c65 => k_is)
    (case k65 => k_is)
    (case a66 => k_is)
    (case l66 => k_is)
    (case c66 => k_is)
    (case k66 => k_is)
    (case ea_InvalidMat => k_is)
    (case eb_InvalidMat => k_is)
    (case ec_InvalidMat => k_is)
    (case ed_InvalidMat => k_is)
    (case ee_InvalidMat => k_is)
    (case ef_InvalidMat => k_is)
    (case eg_InvalidMat => k_is)
    (case eh_InvalidMat => k_is)
    (case ei_InvalidMat => k_is)
    (case ej_InvalidMat => k_is)
    (case ek_InvalidMat => k_is)
    (case ea_InvalidRace => k_is)
    (case eb_InvalidRace => k_is)
    (case ec_InvalidRace => k_is)
    (case ed_InvalidRace => k_is)
    (case ee_InvalidRace => k_is)
    (case ef_InvalidRace => k_is)
    (case eg_InvalidRace => k_is)
    (case eh_InvalidRace => k_is)
    (case ei_InvalidRace => k_is)
    (case ej_InvalidRace => k_is)
    (case ek_InvalidRace => k_is)
    (case ea_InvalidTrack => k_is)
    (case eb_InvalidTrack => k_is)
    (case ec_InvalidTrack => k_is)
    (case ed_InvalidTrack => k_is)
    (case ee_InvalidTrack => k_is)
    (case ef_InvalidTrack => k_is)
    (case eg_InvalidTrack => k_is)
    (case eh_InvalidTrack => k_is)
    (case ei_InvalidTrack => k_is)
    (case ej_InvalidTrack => k_is)
    (case ek_InvalidTrack => k_is)
    (case er_InvalidMat => decide +kernel)
    (case er_InvalidRace => decide +kernel)
    (case er_InvalidTrack => decide +kernel)
    (case zVE => k_is)
    (case tb => kernel_rfl)
    (case z_list => k_is)
    (case z_sum => k_is)
    (case z_len => k_is)
    (case z_divmod => k_is)
    (case z_range => k_is)
    (case z_isinstance => k_is)
    (case z_int => k_is)
    (case z_bool => k_is)
    (case z_tuple => k_is)
    (case z_MOST_MATS => k_is)
    (case z_all => k_is)
    (case z_MOST_MARKS => k_is)
    (case z_enumerate => k_is)
    (case z_MOST_RUNNERS => k_is)
    (case z_zip => k_is)
    (case z_sorted => k_is)
    (case z_TO => k_is)
    (case z_max => k_is)
    (case z_min => k_is)
    (case z_FROM => k_is)
    (case z_any => k_is)
    (case z_abs => k_is)
    (case z_str => k_is)
    (case z_dict => k_is)
