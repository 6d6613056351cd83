import PyProof.Rows.All
import Wide.All
import OpenK.AllK
import Wide.FinOn
import HandS.Call
import HandS.Comp
import HandS.ForExc
import HandS.ForMost
import HandS.Wide
import HandS.Star
import HandS.IsInst
import HandS.Flow
import HandS.TupAny
import HandS.TupMul
import HandS.WideBits
import HandS.SortInts
import HandS.Zip
import HandS.TupLe
import HandS.Deep
import HandS.Style
import KE.GoesEnum
import HandS.TupSets
import PyProof.ListNew
import KE.GoesMore
import KE.GoesZip
import HandS.DictComp
import HandS.Iter
import KE.KEqDict
import HandS.SortRule
import HandS.Conv
import PyProof.ReprRoads
import PyProof.ReprLen
import PyProof.FitsInt
import PyProof.CallFns
import HandS.List
import KE.KDictWalk
import HandS.ExcField
import HandS.ExcIs
import HandS.TryMany
import HandS.ExcOwn
import HandS.ForSpec
import KE.KExcIs
import HandS.Gcd
import HandS.WordsDict
import HandS.TupLen
import HandS.Small
import HandS.More
import PyProof.SumAny
import HandS.Sort
import KE.KDictZip
import KE.KDictSum
import KE.DataMinMax
import PySem.Challenge.RW_lapmats_k71_whole_paces_and_tight_gaps
set_option Elab.async false
set_option linter.all false
set_option maxRecDepth 100000
set_option autoImplicit false
namespace G
open PySem PySem.Spec PyProof.Rows L2
inductive D where
  | non | bl (b : Bool) | int (i : Int) | str (x : Str) | raw (v : V) | dic
  | tup (xs : List D) | lst (xs : List D) | slo (xs : List D) | mut (n : Nat)
  /-- a def of the module, by its name; a caught error: where it is, its class, its dict, its class's name, its field -/
  | emp | rg (lo hi : Int) | fn (x : Str) | exv (a : Addr) (c : Value) (od : Option Addr) (cl f : Str) (d : D)
inductive MO where
  | lst (xs : List D)
  | dk (kvs : List (L2.Key × V)) | dt (kvs : List (List L2.Key × V))
  /-- a dict that a loop walks -/
  | fk (kvs : List (L2.Key × V))
  /-- dicts of any things; walked ones -/
  | dd (kvs : List (L2.Key × D)) | de (kvs : List (List L2.Key × D)) | fd (kvs : List (L2.Key × D)) | fe (kvs : List (List L2.Key × D))
abbrev Sto := List MO
abbrev Env := List (Option D)
structure Mem where
  m : List Addr
  p : List Addr
  f : Addr → Option (Obj × HO)
def Mem.no (M : Mem) (a : Addr) : Prop := a ∉ M.m ∧ a ∉ M.p
def Mem.push (M : Mem) (a : Addr) : Mem := ⟨M.m ++ [a], M.p, M.f⟩
def FzP (M : Mem) (H : Hp) (a : Addr) (xs : List V) : Prop := H a = some (.lst xs) ∧ M.no a
def FzL (K : PySem.W.Frag) (M : Mem) (H : Hp) (a : Addr) (xs : List V) : Prop :=
  (Rd H a (.lst xs) ∧ M.no a) ∨
    ∃ (o : Obj) (its : Array Value) (n : Nat), K.lookup a = some o ∧ o.cls = .type "list" ∧ o.dict = none ∧ o.data = .seq its n ∧ its.size ≤ sizeLine ∧ Vals xs its.toList
def FzT (K : PySem.W.Frag) (M : Mem) (H : Hp) (a : Addr) (xs : List V) : Prop := H a = some (.tup xs) ∧ M.no a
theorem FzL.sq {K : PySem.W.Frag} {M : Mem} {H : Hp} {a : Addr} {xs : List V} (h : FzL K M H a xs) : SqL K H a xs := h.imp And.left id
theorem FzP.sq {K : PySem.W.Frag} {M : Mem} {H : Hp} {a : Addr} {xs : List V} (h : FzP M H a xs) : SqL K H a xs := .of h.1
theorem FzT.sq {K : PySem.W.Frag} {M : Mem} {H : Hp} {a : Addr} {xs : List V} (h : FzT K M H a xs) : SqT K H a xs := .inl (.of h.1)
section
variable (K : PySem.W.Frag) (M : Mem) (H : Hp)
mutual
def Rep : D → V → Prop
  | .non, v => v = .non
  | .bl b, v => v = .bl b
  | .int i, v => v = .int i
  | .str x, v => v = .str x
  | .raw w, v => v = w
  | .dic, v => ∃ a kvs, v = .ref a ∧ H a = some (.dK kvs) ∧ M.no a
  | .tup xs, v => ∃ a vs, v = .ref a ∧ FzT K M H a vs ∧ RepL xs vs
  | .lst xs, v => ∃ a vs, v = .ref a ∧ FzP M H a vs ∧ RepL xs vs
  | .slo xs, v => ∃ a vs, v = .ref a ∧ FzL K M H a vs ∧ RepL xs vs
  | .mut n, v => ∃ a, v = .ref a ∧ M.m[n]? = some a
  | .emp, v => ∃ a, v = .ref a ∧ H a = some (.dK []) ∧ M.no a
  | .rg lo hi, v => ∃ a, v = .ref a ∧ H a = some (.rng lo hi) ∧ M.no a
  | .fn x, v => ∃ a, v = .ref a ∧ PySem.W.nsIn K mainGlobals x = some (some (.ref a))
  | .exv a c od cl f d, v => v = .ref a ∧ PySem.W.nsIn K mainGlobals cl = some (some c) ∧ ((f = "" ∧ od = none) ∨ (f ≠ "" ∧ ∃ dd w, od = some dd ∧ H dd = some (.xd [(f, w)]) ∧ M.no dd ∧ Rep d w))
def RepL : List D → List V → Prop
  | [], vs => vs = []
  | d :: ds, vs => ∃ v r, vs = v :: r ∧ Rep d v ∧ RepL ds r
end
end
structure Keep (M : Mem) (H : Hp) (M' : Mem) (H' : Hp) : Prop where
  pre : ∀ (n : Nat) (a : Addr), M.m[n]? = some a → M'.m[n]? = some a
  keep : ∀ a o, H a = some o → M.no a → H' a = some o ∧ M'.no a
  ff : M'.f = M.f
theorem Keep.refl {M : Mem} {H : Hp} : Keep M H M H := ⟨fun _ _ h => h, fun _ _ h n => ⟨h, n⟩, rfl⟩
theorem Keep.trans {M : Mem} {H : Hp} {M1 : Mem} {H1 : Hp} {M2 : Mem} {H2 : Hp} (a : Keep M H M1 H1) (b : Keep M1 H1 M2 H2) : Keep M H M2 H2 :=
  ⟨fun n x h => b.pre n x (a.pre n x h), fun x o h n => let ⟨h1, n1⟩ := a.keep x o h n; b.keep x o h1 n1, b.ff.trans a.ff⟩
structure Grow (M : Mem) (H : Hp) (M' : Mem) (H' : Hp) : Prop where
  pre : ∀ (n : Nat) (a : Addr), M.m[n]? = some a → M'.m[n]? = some a
  keep : ∀ a o, H a = some o → M.no a → H' a = some o ∧ M'.no a
  pp : M'.p = M.p
  prot : ∀ a ∈ M.p, H' a = H a
  ff : M'.f = M.f
theorem Grow.k {M : Mem} {H : Hp} {M' : Mem} {H' : Hp} (g : Grow M H M' H') : Keep M H M' H' := ⟨g.pre, g.keep, g.ff⟩
theorem Grow.refl {M : Mem} {H : Hp} : Grow M H M H := ⟨fun _ _ h => h, fun _ _ h n => ⟨h, n⟩, rfl, fun _ _ => rfl, rfl⟩
theorem Grow.trans {M : Mem} {H : Hp} {M1 : Mem} {H1 : Hp} {M2 : Mem} {H2 : Hp} (a : Grow M H M1 H1) (b : Grow M1 H1 M2 H2) : Grow M H M2 H2 :=
  ⟨fun n x h => b.pre n x (a.pre n x h), fun x o h n => let ⟨h1, n1⟩ := a.keep x o h n; b.keep x o h1 n1, b.pp.trans a.pp, fun x h => (b.prot x (by rw [a.pp]; exact h)).trans (a.prot x h), b.ff.trans a.ff⟩
section
variable {K : PySem.W.Frag} {M M' : Mem} {H H' : Hp}
theorem Keep.rdL {a : Addr} {o : HO} (g : Keep M H M' H') (h : Rd H a o) (n : M.no a) : Rd H' a o ∧ M'.no a := by
  rcases h with h | ⟨ob, h⟩
  · exact ⟨.inl (g.keep _ _ h n).1, (g.keep _ _ h n).2⟩
  · exact ⟨.inr ⟨ob, (g.keep _ _ h n).1⟩, (g.keep _ _ h n).2⟩
theorem Keep.fzL {a : Addr} {xs : List V} (g : Keep M H M' H') (h : FzL K M H a xs) : FzL K M' H' a xs := h.imp (fun q => g.rdL q.1 q.2) id
theorem Keep.fzT {a : Addr} {xs : List V} (g : Keep M H M' H') (h : FzT K M H a xs) : FzT K M' H' a xs := g.keep _ _ h.1 h.2
mutual
theorem Rep.kp (g : Keep M H M' H') : ∀ {d : D} {v : V}, Rep K M H d v → Rep K M' H' d v
  | .non, _, h => by unfold Rep at h ⊢; exact h
  | .bl _, _, h => by unfold Rep at h ⊢; exact h
  | .int _, _, h => by unfold Rep at h ⊢; exact h
  | .str _, _, h => by unfold Rep at h ⊢; exact h
  | .raw _, _, h => by unfold Rep at h ⊢; exact h
  | .dic, _, h => by
    unfold Rep at h ⊢
    obtain ⟨a, kvs, e, f, n⟩ := h
    exact ⟨a, kvs, e, g.keep _ _ f n⟩
  | .tup xs, _, h => by
    unfold Rep at h ⊢
    obtain ⟨a, vs, e, f, r⟩ := h
    exact ⟨a, vs, e, g.fzT f, RepL.kp g r⟩
  | .lst xs, _, h => by
    unfold Rep at h ⊢
    obtain ⟨a, vs, e, f, r⟩ := h
    exact ⟨a, vs, e, g.keep _ _ f.1 f.2, RepL.kp g r⟩
  | .slo xs, _, h => by
    unfold Rep at h ⊢
    obtain ⟨a, vs, e, f, r⟩ := h
    exact ⟨a, vs, e, g.fzL f, RepL.kp g r⟩
  | .mut n, _, h => by
    unfold Rep at h ⊢
    obtain ⟨a, e, m⟩ := h
    exact ⟨a, e, g.pre n a m⟩
  | .fn _, _, h => by unfold Rep at h ⊢; exact h
  | .emp, _, h => by
    unfold Rep at h ⊢
    obtain ⟨a, e, f, n⟩ := h
    exact ⟨a, e, g.keep _ _ f n⟩
  | .rg .., _, h => by
    unfold Rep at h ⊢
    obtain ⟨a, e, f, n⟩ := h
    exact ⟨a, e, g.keep _ _ f n⟩
  | .exv a c od cl f d, _, h => by
    unfold Rep at h ⊢
    obtain ⟨h1, h2, h3⟩ := h
    refine ⟨h1, h2, h3.imp id ?_⟩
    rintro ⟨h4, dd, w, h5, h6, h7, h8⟩
    exact ⟨h4, dd, w, h5, (g.keep _ _ h6 h7).1, (g.keep _ _ h6 h7).2, Rep.kp g h8⟩
theorem RepL.kp (g : Keep M H M' H') : ∀ {ds : List D} {vs : List V}, RepL K M H ds vs → RepL K M' H' ds vs
  | [], _, h => by unfold RepL at h ⊢; exact h
  | d :: ds, _, h => by
    unfold RepL at h ⊢
    obtain ⟨v, r, e, h1, h2⟩ := h
    exact ⟨v, r, e, Rep.kp g h1, RepL.kp g h2⟩
end
theorem Rep.grow (g : Grow M H M' H') {d : D} {v : V} (h : Rep K M H d v) : Rep K M' H' d v := Rep.kp g.k h
theorem RepL.grow (g : Grow M H M' H') {ds : List D} {vs : List V} (h : RepL K M H ds vs) : RepL K M' H' ds vs := RepL.kp g.k h
theorem Grow.fzL {a : Addr} {xs : List V} (g : Grow M H M' H') (h : FzL K M H a xs) : FzL K M' H' a xs := g.k.fzL h
theorem Grow.fzT {a : Addr} {xs : List V} (g : Grow M H M' H') (h : FzT K M H a xs) : FzT K M' H' a xs := g.k.fzT h
theorem RepL.nil : RepL K M H [] [] := by unfold RepL; rfl
theorem RepL.cons {d : D} {v : V} {ds : List D} {vs : List V} (h : Rep K M H d v) (t : RepL K M H ds vs) : RepL K M H (d :: ds) (v :: vs) := by unfold RepL; exact ⟨v, vs, rfl, h, t⟩
theorem RepL.length : ∀ {ds : List D} {vs : List V}, RepL K M H ds vs → ds.length = vs.length
  | [], _, h => by unfold RepL at h; subst h; rfl
  | d :: ds, _, h => by
    unfold RepL at h
    obtain ⟨v, r, rfl, _, h2⟩ := h
    simp [RepL.length h2]
theorem RepL.append : ∀ {ds es : List D} {vs ws : List V}, RepL K M H ds vs → RepL K M H es ws → RepL K M H (ds ++ es) (vs ++ ws)
  | [], _, _, _, h, q => by unfold RepL at h; subst h; exact q
  | d :: ds, _, _, _, h, q => by
    unfold RepL at h
    obtain ⟨v, r, rfl, h1, h2⟩ := h
    exact .cons h1 (RepL.append h2 q)
theorem RepL.get : ∀ {ds : List D} {vs : List V} {i : Nat} {d : D}, RepL K M H ds vs → ds[i]? = some d → ∃ v, vs[i]? = some v ∧ Rep K M H d v
  | [], _, i, d, h, e => by simp at e
  | x :: ds, _, 0, d, h, e => by
    unfold RepL at h
    obtain ⟨v, r, rfl, h1, h2⟩ := h
    simp at e; subst e
    exact ⟨v, rfl, h1⟩
  | x :: ds, _, i + 1, d, h, e => by
    unfold RepL at h
    obtain ⟨v, r, rfl, h1, h2⟩ := h
    obtain ⟨w, h3, h4⟩ := RepL.get (i := i) h2 (by simpa using e)
    exact ⟨w, by simpa using h3, h4⟩
theorem RepL.get' : ∀ {ds : List D} {vs : List V} {i : Nat} {v : V}, RepL K M H ds vs → vs[i]? = some v → ∃ d, ds[i]? = some d ∧ Rep K M H d v
  | [], _, i, d, h, e => by unfold RepL at h; subst h; simp at e
  | x :: ds, _, 0, d, h, e => by
    unfold RepL at h
    obtain ⟨v, r, rfl, h1, h2⟩ := h
    simp at e; subst e
    exact ⟨x, rfl, h1⟩
  | x :: ds, _, i + 1, d, h, e => by
    unfold RepL at h
    obtain ⟨v, r, rfl, h1, h2⟩ := h
    obtain ⟨w, h3, h4⟩ := RepL.get' (i := i) h2 (by simpa using e)
    exact ⟨w, by simpa using h3, h4⟩
theorem RepL.take : ∀ {ds : List D} {vs : List V} (n : Nat), RepL K M H ds vs → RepL K M H (ds.take n) (vs.take n)
  | _, _, 0, _ => by simp; exact .nil
  | [], _, n + 1, h => by unfold RepL at h; subst h; simp; exact .nil
  | x :: ds, _, n + 1, h => by
    unfold RepL at h
    obtain ⟨v, r, rfl, h1, h2⟩ := h
    simpa using RepL.cons h1 (RepL.take n h2)
theorem RepL.drop : ∀ {ds : List D} {vs : List V} (n : Nat), RepL K M H ds vs → RepL K M H (ds.drop n) (vs.drop n)
  | _, _, 0, h => by simpa using h
  | [], _, n + 1, h => by unfold RepL at h; subst h; simp; exact .nil
  | x :: ds, _, n + 1, h => by
    unfold RepL at h
    obtain ⟨v, r, rfl, h1, h2⟩ := h
    simpa using RepL.drop n h2
theorem RepL.set {d : D} {v : V} (q : Rep K M H d v) : ∀ {ds : List D} {vs : List V} (n : Nat), RepL K M H ds vs → RepL K M H (ds.set n d) (vs.set n v)
  | [], _, n, h => by unfold RepL at h; subst h; simp; exact .nil
  | x :: ds, _, 0, h => by
    unfold RepL at h
    obtain ⟨w, r, rfl, h1, h2⟩ := h
    simpa using RepL.cons q h2
  | x :: ds, _, n + 1, h => by
    unfold RepL at h
    obtain ⟨w, r, rfl, h1, h2⟩ := h
    simpa using RepL.cons h1 (RepL.set q n h2)
theorem RepL.reverse : ∀ {ds : List D} {vs : List V}, RepL K M H ds vs → RepL K M H ds.reverse vs.reverse
  | [], _, h => by unfold RepL at h; subst h; simp; exact .nil
  | x :: ds, _, h => by
    unfold RepL at h
    obtain ⟨w, r, rfl, h1, h2⟩ := h
    simpa using RepL.append (RepL.reverse h2) (RepL.cons h1 .nil)
theorem RepL.replicate {d : D} {v : V} (q : Rep K M H d v) : ∀ (n : Nat), RepL K M H (List.replicate n d) (List.replicate n v)
  | 0 => .nil
  | n + 1 => by rw [List.replicate_succ, List.replicate_succ]; exact .cons q (RepL.replicate q n)
theorem RepL.ints : ∀ (ns : List Int), RepL K M H (ns.map D.int) (ns.map V.int)
  | [] => .nil
  | n :: ns => .cons (by unfold Rep; rfl) (RepL.ints ns)
end
def RepKV {κ : Type} (K : PySem.W.Frag) (M : Mem) (H : Hp) (kvs : List (κ × D)) (ws : List (κ × V)) : Prop := ws.map (·.1) = kvs.map (·.1) ∧ RepL K M H (kvs.map (·.2)) (ws.map (·.2))
theorem RepKV.kp {κ : Type} {K : PySem.W.Frag} {M M' : Mem} {H H' : Hp} (g : Keep M H M' H') {kvs : List (κ × D)} {ws : List (κ × V)} (r : RepKV K M H kvs ws) : RepKV K M' H' kvs ws := ⟨r.1, r.2.kp g⟩
theorem RepKV.grow {κ : Type} {K : PySem.W.Frag} {M M' : Mem} {H H' : Hp} (g : Grow M H M' H') {kvs : List (κ × D)} {ws : List (κ × V)} (r : RepKV K M H kvs ws) : RepKV K M' H' kvs ws := r.kp g.k
def MoOk (K : PySem.W.Frag) (M : Mem) (H : Hp) (a : Addr) : MO → Prop
  | .lst xs => ∃ vs, H a = some (.lst vs) ∧ RepL K M H xs vs
  | .dk kvs => H a = some (.dK kvs)
  | .dt kvs => H a = some (.dT kvs)
  | .fk kvs => ∃ o, M.f a = some (o, .dK kvs) ∧ H a = some (.frz o (.dK kvs))
  | .dd kvs => ∃ ws, H a = some (.dK ws) ∧ RepKV K M H kvs ws
  | .de kvs => ∃ ws, H a = some (.dT ws) ∧ RepKV K M H kvs ws
  | .fd kvs => ∃ o ws, M.f a = some (o, .dK ws) ∧ H a = some (.frz o (.dK ws)) ∧ RepKV K M H kvs ws
  | .fe kvs => ∃ o ws, M.f a = some (o, .dT ws) ∧ H a = some (.frz o (.dT ws)) ∧ RepKV K M H kvs ws
structure StOk (K : PySem.W.Frag) (M : Mem) (H : Hp) (st : Sto) : Prop where
  len : M.m.length = st.length
  nd : M.m.Nodup
  pd : ∀ a ∈ M.p, a ∉ M.m ∧ ∃ o : List V, H a = some (.lst o)
  at_ : ∀ (n : Nat) (a : Addr) (mo : MO), M.m[n]? = some a → st[n]? = some mo → MoOk K M H a mo
section
variable {K : PySem.W.Frag} {M M' : Mem} {H H' : Hp} {st : Sto}
theorem MoOk.there {a : Addr} {mo : MO} (h : MoOk K M H a mo) : ∃ o, H a = some o := by
  cases mo with
  | lst xs => obtain ⟨vs, e, _⟩ := h; exact ⟨_, e⟩
  | dk kvs => exact ⟨_, h⟩
  | dt kvs => exact ⟨_, h⟩
  | fk kvs => obtain ⟨o, _, e⟩ := h; exact ⟨_, e⟩
  | dd kvs => obtain ⟨ws, e, _⟩ := h; exact ⟨_, e⟩
  | de kvs => obtain ⟨ws, e, _⟩ := h; exact ⟨_, e⟩
  | fd kvs => obtain ⟨o, ws, _, e, _⟩ := h; exact ⟨_, e⟩
  | fe kvs => obtain ⟨o, ws, _, e, _⟩ := h; exact ⟨_, e⟩
theorem MoOk.kp {a : Addr} {mo : MO} (q : MoOk K M H a mo) (k : Keep M H M' H') (e : H' a = H a) : MoOk K M' H' a mo := by
  cases mo with
  | lst xs => obtain ⟨vs, h, r⟩ := q; exact ⟨vs, e.trans h, r.kp k⟩
  | dk kvs => exact e.trans q
  | dt kvs => exact e.trans q
  | fk kvs => obtain ⟨o, h1, h2⟩ := q; exact ⟨o, by rw [k.ff]; exact h1, e.trans h2⟩
  | dd kvs => obtain ⟨ws, h, r⟩ := q; exact ⟨ws, e.trans h, r.kp k⟩
  | de kvs => obtain ⟨ws, h, r⟩ := q; exact ⟨ws, e.trans h, r.kp k⟩
  | fd kvs => obtain ⟨o, ws, h1, h2, r⟩ := q; exact ⟨o, ws, by rw [k.ff]; exact h1, e.trans h2, r.kp k⟩
  | fe kvs => obtain ⟨o, ws, h1, h2, r⟩ := q; exact ⟨o, ws, by rw [k.ff]; exact h1, e.trans h2, r.kp k⟩
theorem StOk.there (s : StOk K M H st) {a : Addr} (h : a ∈ M.m) : ∃ o, H a = some o := by
  obtain ⟨n, hn, e⟩ := List.mem_iff_getElem.mp h
  have hs : n < st.length := by rw [← s.len]; exact hn
  exact (s.at_ n a st[n] (by rw [List.getElem?_eq_getElem hn, e]) (List.getElem?_eq_getElem hs)).there
theorem StOk.notin (s : StOk K M H st) {a : Addr} (h : H a = none) : M.no a := by
  refine ⟨fun z => ?_, fun z => ?_⟩
  · obtain ⟨o, e⟩ := s.there z
    rw [h] at e; cases e
  · obtain ⟨_, o, e⟩ := s.pd a z
    rw [h] at e; cases e
theorem Grow.laid (s : StOk K M H st) {p : Addr} {o : HO} (h : H p = none) : Grow M H M (upd H p o) :=
  ⟨fun _ _ h => h, fun a u e n => ⟨by rw [upd_ne (ne_of_none e h)]; exact e, n⟩, rfl, fun a ha => by
    obtain ⟨_, u, e⟩ := s.pd a ha
    rw [upd_ne (ne_of_none e h)], rfl⟩
theorem MoOk.upd {a p : Addr} {mo : MO} {o : HO} {M' : Mem} (q : MoOk K M H a mo) (ne : a ≠ p) (g : Grow M H M' (upd H p o)) : MoOk K M' (upd H p o) a mo := by
  cases mo with
  | lst xs =>
    obtain ⟨vs, e, r⟩ := q
    exact ⟨vs, by rw [upd_ne ne]; exact e, r.grow g⟩
  | dk kvs =>
    show L2.upd H p o a = _
    rw [upd_ne ne]; exact q
  | dt kvs =>
    show L2.upd H p o a = _
    rw [upd_ne ne]; exact q
  | fk kvs =>
    obtain ⟨o', e1, e2⟩ := q
    exact ⟨o', by rw [g.ff]; exact e1, by rw [upd_ne ne]; exact e2⟩
  | dd kvs =>
    obtain ⟨ws, e, r⟩ := q
    exact ⟨ws, by rw [upd_ne ne]; exact e, r.grow g⟩
  | de kvs =>
    obtain ⟨ws, e, r⟩ := q
    exact ⟨ws, by rw [upd_ne ne]; exact e, r.grow g⟩
  | fd kvs =>
    obtain ⟨o', ws, e1, e2, r⟩ := q
    exact ⟨o', ws, by rw [g.ff]; exact e1, by rw [upd_ne ne]; exact e2, r.grow g⟩
  | fe kvs =>
    obtain ⟨o', ws, e1, e2, r⟩ := q
    exact ⟨o', ws, by rw [g.ff]; exact e1, by rw [upd_ne ne]; exact e2, r.grow g⟩
theorem StOk.laid (s : StOk K M H st) {p : Addr} {o : HO} (h : H p = none) : StOk K M (upd H p o) st := by
  have g : Grow M H M (upd H p o) := Grow.laid s h
  refine ⟨s.len, s.nd, fun a ha => ?_, fun n a mo e1 e2 => ?_⟩
  · obtain ⟨h1, u, e⟩ := s.pd a ha
    exact ⟨h1, u, by rw [upd_ne (ne_of_none e h)]; exact e⟩
  · have q := s.at_ n a mo e1 e2
    obtain ⟨u, e⟩ := q.there
    exact q.upd (ne_of_none e h) g
theorem Grow.push (s : StOk K M H st) {p : Addr} {o : HO} (h : H p = none) : Grow M H (M.push p) (upd H p o) :=
  ⟨fun n a e => by
    show (M.m ++ [p])[n]? = some a
    rw [List.getElem?_append_left (List.getElem?_eq_some_iff.mp e).1]; exact e, fun a u e n => ⟨by rw [upd_ne (ne_of_none e h)]; exact e, by
    refine ⟨fun z => ?_, n.2⟩
    rcases List.mem_append.mp z with z | z
    · exact n.1 z
    · simp at z; subst z; rw [h] at e; cases e⟩, rfl, fun a ha => by
    obtain ⟨_, u, e⟩ := s.pd a ha
    rw [upd_ne (ne_of_none e h)], rfl⟩
theorem StOk.push (s : StOk K M H st) {p : Addr} {o : HO} {mo : MO} (h : H p = none) (r : MoOk K (M.push p) (upd H p o) p mo) : StOk K (M.push p) (upd H p o) (st ++ [mo]) := by
  have g : Grow M H (M.push p) (upd H p o) := Grow.push s h
  refine ⟨by simp [Mem.push, s.len], ?_, fun a ha => ?_, fun n a mo e1 e2 => ?_⟩
  · show (M.m ++ [p]).Nodup
    rw [List.nodup_append]
    exact ⟨s.nd, by simp, fun a ha b hb => by simp at hb; subst hb; rintro rfl; exact (s.notin h).1 ha⟩
  · obtain ⟨h1, u, e⟩ := s.pd a ha
    refine ⟨fun z => ?_, u, by rw [upd_ne (ne_of_none e h)]; exact e⟩
    rcases List.mem_append.mp z with z | z
    · exact h1 z
    · simp at z; subst z; rw [h] at e; cases e
  · have e1 : (M.m ++ [p])[n]? = some a := e1
    by_cases hn : n < M.m.length
    · rw [List.getElem?_append_left hn] at e1
      rw [List.getElem?_append_left (by rw [← s.len]; exact hn)] at e2
      have q := s.at_ n a mo e1 e2
      obtain ⟨u, e⟩ := q.there
      exact q.upd (ne_of_none e h) g
    · have hn' : n = M.m.length := by
        have := (List.getElem?_eq_some_iff.mp e1).1
        simp at this; omega
      subst hn'
      rw [List.getElem?_append_right (Nat.le_refl _)] at e1
      rw [s.len, List.getElem?_append_right (Nat.le_refl _)] at e2
      simp at e1 e2
      subst e1 e2
      exact r
theorem StOk.pushL (s : StOk K M H st) {p : Addr} {xs : List D} {vs : List V} (h : H p = none) (r : RepL K M H xs vs) : StOk K (M.push p) (upd H p (.lst vs)) (st ++ [.lst xs]) :=
  s.push h ⟨vs, upd_same, r.grow (Grow.push s h)⟩
theorem Grow.put (s : StOk K M H st) {p : Addr} {o : HO} {n : Nat} (h : M.m[n]? = some p) : Grow M H M (upd H p o) :=
  ⟨fun _ _ h => h, fun a u e ni => ⟨by
    rw [upd_ne]; exact e
    rintro rfl
    exact ni.1 (List.mem_of_getElem? h), ni⟩, rfl, fun a ha => by
    rw [upd_ne]
    rintro rfl
    exact (s.pd a ha).1 (List.mem_of_getElem? h), rfl⟩
theorem StOk.put (s : StOk K M H st) {p : Addr} {n : Nat} {o : HO} {mo : MO} (h : M.m[n]? = some p) (r : MoOk K M (upd H p o) p mo) : StOk K M (upd H p o) (st.set n mo) := by
  have g : Grow M H M (upd H p o) := Grow.put s h
  have hn := (List.getElem?_eq_some_iff.mp h).1
  refine ⟨by simp [s.len], s.nd, fun a ha => ?_, fun k a mo e1 e2 => ?_⟩
  · obtain ⟨h1, u, e⟩ := s.pd a ha
    exact ⟨h1, u, by rw [g.prot a ha]; exact e⟩
  · by_cases hk : n = k
    · subst hk
      rw [h] at e1; cases e1
      rw [List.getElem?_set_self (by rw [← s.len]; exact hn)] at e2
      cases e2
      exact r
    · rw [List.getElem?_set_ne hk] at e2
      have q := s.at_ k a mo e1 e2
      have ha : a ≠ p := by
        rintro rfl
        have hkl := (List.getElem?_eq_some_iff.mp e1).1
        have e3 : M.m[k] = a := by rw [List.getElem?_eq_getElem hkl] at e1; exact Option.some.inj e1
        have e4 : M.m[n] = a := by rw [List.getElem?_eq_getElem hn] at h; exact Option.some.inj h
        exact hk ((List.getElem_inj s.nd).mp (e4.trans e3.symm))
      exact q.upd ha g
theorem StOk.putL (s : StOk K M H st) {p : Addr} {n : Nat} {xs : List D} {vs : List V} (h : M.m[n]? = some p) (r : RepL K M H xs vs) : StOk K M (upd H p (.lst vs)) (st.set n (.lst xs)) :=
  s.put h ⟨vs, upd_same, r.grow (Grow.put s h)⟩
end
structure EnvOk (K : PySem.W.Frag) (M : Mem) (H : Hp) (env : Env) (σ : L2.St) : Prop where
  len : env.length = σ.length
  at_ : ∀ (i : Nat) (d : D), env[i]? = some (some d) → ∃ v : V, σ[i]? = some (some v) ∧ Rep K M H d v
section
variable {K : PySem.W.Frag} {M M' : Mem} {H H' : Hp} {env : Env} {σ : L2.St}
theorem EnvOk.kp (e : EnvOk K M H env σ) (g : Keep M H M' H') : EnvOk K M' H' env σ :=
  ⟨e.len, fun i d h => let ⟨v, h1, h2⟩ := e.at_ i d h; ⟨v, h1, h2.kp g⟩⟩
theorem EnvOk.grow (e : EnvOk K M H env σ) (g : Grow M H M' H') : EnvOk K M' H' env σ := e.kp g.k
theorem EnvOk.set {d : D} {v : V} (e : EnvOk K M H env σ) (i : Nat) (r : Rep K M H d v) : EnvOk K M H (env.set i (some d)) (σ.set i (some v)) :=
  ⟨by simp [e.len], fun j x h => by
    by_cases hj : i = j
    · subst hj
      have hi : i < env.length := by
        have := (List.getElem?_eq_some_iff.mp h).1
        simpa using this
      rw [List.getElem?_set_self hi] at h
      cases h
      exact ⟨v, List.getElem?_set_self (by rw [← e.len]; exact hi), r⟩
    · rw [List.getElem?_set_ne hj] at h
      obtain ⟨w, h1, h2⟩ := e.at_ j x h
      exact ⟨w, by rw [List.getElem?_set_ne hj]; exact h1, h2⟩⟩
theorem EnvOk.none (e : EnvOk K M H env σ) (i : Nat) : EnvOk K M H (env.set i none) (σ.set i none) :=
  ⟨by simp [e.len], fun j x h => by
    by_cases hj : i = j
    · subst hj
      have hi : i < env.length := by
        have := (List.getElem?_eq_some_iff.mp h).1
        simpa using this
      rw [List.getElem?_set_self hi] at h
      cases h
    · rw [List.getElem?_set_ne hj] at h
      obtain ⟨w, h1, h2⟩ := e.at_ j x h
      exact ⟨w, by rw [List.getElem?_set_ne hj]; exact h1, h2⟩⟩
def wipeE (env : Env) : List Nat → Env
  | [] => env
  | v :: vs => (wipeE env vs).set v none
theorem EnvOk.wipe (e : EnvOk K M H env σ) : ∀ (vs : List Nat), EnvOk K M H (wipeE env vs) (L2.wipe σ vs)
  | [] => e
  | v :: vs => (EnvOk.wipe e vs).none v
end
end G
namespace G
open PySem PySem.Spec PyProof.Rows L2
structure Ex where
  cls : Str
  f : Str
  d : D
inductive R (α : Type) where
  | ok (a : α) (st : Sto) | exc (e : Ex) (st : Sto) | fail
def R.bind {α β : Type} (r : R α) (g : α → Sto → R β) : R β := match r with
  | .ok a st => g a st
  | .exc e st => .exc e st
  | .fail => .fail
@[simp] theorem R.bind_ok {α β : Type} (a : α) (st : Sto) (g : α → Sto → R β) : (R.ok a st).bind g = g a st := rfl
@[simp] theorem R.bind_exc {α β : Type} (e : Ex) (st : Sto) (g : α → Sto → R β) : (R.exc e st : R α).bind g = .exc e st := rfl
@[simp] theorem R.bind_fail {α β : Type} (g : α → Sto → R β) : (R.fail : R α).bind g = .fail := rfl
def RepX (K : PySem.W.Frag) (M : Mem) (H : Hp) (e : Ex) (c : Value) (od : Option Addr) : Prop :=
  PySem.W.nsIn K mainGlobals e.cls = some (some c) ∧ ((e.f = "" ∧ od = none) ∨ (e.f ≠ "" ∧ ∃ dd w, od = some dd ∧ H dd = some (.xd [(e.f, w)]) ∧ M.no dd ∧ Rep K M H e.d w))
theorem RepX.grow {K : PySem.W.Frag} {M : Mem} {H : Hp} {M' : Mem} {H' : Hp} {e : Ex} {c : Value} {od : Option Addr} (g : Grow M H M' H') (h : RepX K M H e c od) : RepX K M' H' e c od := by
  obtain ⟨h2, h3⟩ := h
  refine ⟨h2, h3.imp id ?_⟩
  rintro ⟨h4, dd, w, h5, h6, h7, h8⟩
  exact ⟨h4, dd, w, h5, (g.keep _ _ h6 h7).1, (g.keep _ _ h6 h7).2, h8.grow g⟩
abbrev RR (α β : Type) := Mem → Hp → α → β → Prop
section
variable {α β γ δ : Type}
def Post (K : PySem.W.Frag) (rep : RR α β) (M : Mem) (H : Hp) (Q : β → Hp → Prop) (E : XK) : R α → Prop
  | .ok a st => ∀ M' H' b, Grow M H M' H' → StOk K M' H' st → rep M' H' a b → Q b H'
  | .exc e st => ∀ M' H' c od, Grow M H M' H' → StOk K M' H' st → RepX K M' H' e c od → E c od H'
  | .fail => False
theorem Post.mono {K : PySem.W.Frag} {rep : RR α β} {M M1 : Mem} {H H1 : Hp} {Q : β → Hp → Prop} {E : XK} {r : R α} (g : Grow M H M1 H1) (p : Post K rep M H Q E r) : Post K rep M1 H1 Q E r := by
  cases r with
  | ok a st => exact fun M' H' b g' => p M' H' b (g.trans g')
  | exc e st => exact fun M' H' c od g' => p M' H' c od (g.trans g')
  | fail => exact p
theorem Post.bind {K : PySem.W.Frag} {rep : RR α β} {rep' : RR γ δ} {M : Mem} {H : Hp} {Q : δ → Hp → Prop} {E : XK} {r : R α} {g : α → Sto → R γ} (p : Post K rep' M H Q E (r.bind g)) :
    Post K rep M H (fun b H1 => ∃ M1 st1 a, Grow M H M1 H1 ∧ StOk K M1 H1 st1 ∧ rep M1 H1 a b ∧ Post K rep' M1 H1 Q E (g a st1)) E r := by
  cases r with
  | ok a st => exact fun M' H' b g' so h => ⟨M', st, a, g', so, h, Post.mono g' p⟩
  | exc e st => exact p
  | fail => exact p
end
theorem Post.imp {α β : Type} {K : PySem.W.Frag} {rep : RR α β} {M : Mem} {H : Hp} {Q Q' : β → Hp → Prop} {E : XK} {r : R α} (p : Post K rep M H Q E r) (i : ∀ b H', Q b H' → Q' b H') : Post K rep M H Q' E r := by
  cases r with
  | ok a st => exact fun M' H' b g so h => i _ _ (p M' H' b g so h)
  | exc e st => exact p
  | fail => exact p
def rd {α β : Type} (K : PySem.W.Frag) (rep : RR α β) (W : WX) (f : Env → Sto → R α) : L2.St → Hp → (β → Hp → Prop) → Prop := fun σ H Q =>
  ∃ env M st, EnvOk K M H env σ ∧ StOk K M H st ∧ Post K rep M H Q (WE W σ) (f env st)
abbrev EvE := Env → Sto → R D
abbrev EvB := Env → Sto → R Bool
abbrev EvA := Env → Sto → R (List D)
abbrev rdE (K : PySem.W.Frag) (W : WX) (f : EvE) : TE := rd K (Rep K) W f
abbrev rdB (K : PySem.W.Frag) (W : WX) (f : EvB) : TT := rd K (fun _ _ a b => a = b) W f
abbrev rdA (K : PySem.W.Frag) (W : WX) (f : EvA) : TA := rd K (RepL K) W f
section
variable {X : Cx}
theorem _root_.L2.PE.imp {e : Expr} {t t' : TE} (h : PE X e t) (i : ∀ σ H Q, t' σ H Q → t σ H Q) : PE X e t' := ⟨fun pins s σ H Q I q => h.run pins s σ H Q I (i σ H Q q)⟩
theorem _root_.L2.PT.imp {e : Expr} {t t' : TT} (h : PT X e t) (i : ∀ σ H Q, t' σ H Q → t σ H Q) : PT X e t' := ⟨fun pins s σ H Q I q => h.run pins s σ H Q I (i σ H Q q)⟩
theorem _root_.L2.PA.imp {e : List Expr} {t t' : TA} (h : PA X e t) (i : ∀ σ H Q, t' σ H Q → t σ H Q) : PA X e t' := ⟨fun pos pins s σ H Q I q => h.run pos pins s σ H Q I (i σ H Q q)⟩
theorem _root_.L2.PS.imp {e : Stmt} {t t' : TS} (h : PS X e t) (i : ∀ D σ H, t' D σ H → t D σ H) : PS X e t' := ⟨fun pins s σ H D I q => h.run pins s σ H D I (i D σ H q)⟩
theorem _root_.L2.PSs.imp {e : List Stmt} {t t' : TS} (h : PSs X e t) (i : ∀ D σ H, t' D σ H → t D σ H) : PSs X e t' := ⟨fun pins s σ H D I q => h.run pins s σ H D I (i D σ H q)⟩
end
def varE (i : Nat) : EvE := fun env st => match env[i]? with
  | some (some d) => .ok d st
  | _ => .fail
def cE (d : D) : EvE := fun _ st => .ok d st
section
variable {X : Cx} {W : WX}
theorem g_var (i : Nat) {x : Str} {pos : Pos} (h : PE X (.Name x pos) (tVar i)) : PE X (.Name x pos) (rdE X.K W (varE i)) := h.imp fun σ H Q ⟨env, M, st, eo, so, p⟩ => by
  unfold varE at p
  split at p
  · rename_i d e
    obtain ⟨v, e1, r⟩ := eo.at_ i d e
    exact ⟨v, e1, p M H v .refl so r⟩
  · exact p.elim
theorem g_c {e : Expr} {d : D} {v : V} (h : PE X e (tC v)) (r : ∀ M H, Rep X.K M H d v) : PE X e (rdE X.K W (cE d)) := h.imp fun σ H Q ⟨env, M, st, eo, so, p⟩ => p M H v .refl so (r M H)
theorem rep_non {K : PySem.W.Frag} : ∀ (M : Mem) (H : Hp), Rep K M H .non .non := fun _ _ => by unfold Rep; rfl
theorem rep_bl {K : PySem.W.Frag} (b : Bool) : ∀ (M : Mem) (H : Hp), Rep K M H (.bl b) (.bl b) := fun _ _ => by unfold Rep; rfl
theorem rep_int {K : PySem.W.Frag} (b : Int) : ∀ (M : Mem) (H : Hp), Rep K M H (.int b) (.int b) := fun _ _ => by unfold Rep; rfl
theorem rep_str {K : PySem.W.Frag} (b : Str) : ∀ (M : Mem) (H : Hp), Rep K M H (.str b) (.str b) := fun _ _ => by unfold Rep; rfl
theorem g_int {i : Int} {j pos} : PE X (.Constant (.int i) j pos) (rdE X.K W (cE (.int i))) := g_c pe_int (rep_int i)
theorem g_bl {i : Bool} {j pos} : PE X (.Constant (.bool i) j pos) (rdE X.K W (cE (.bl i))) := g_c pe_bl (rep_bl i)
theorem g_non {j pos} : PE X (.Constant .none j pos) (rdE X.K W (cE .non)) := g_c pe_non rep_non
end
abbrev F1 := D → Sto → R D
abbrev F2 := D → D → Sto → R D
def unE (f : F1) (fa : EvE) : EvE := fun env st => (fa env st).bind fun a st1 => f a st1
def binE (f : F2) (fa fb : EvE) : EvE := fun env st => (fa env st).bind fun a st1 => (fb env st1).bind fun b st2 => f a b st2
def OpV (K : PySem.W.Frag) (r : R2) (f : F2) : Prop := ∀ (a b : D) (x y : V) (M : Mem) (H : Hp) (st : Sto) (Q : VK) (E : XK), Rep K M H a x → Rep K M H b y → StOk K M H st → Post K (Rep K) M H Q E (f a b st) → r x y H Q
section
variable {X : Cx} {W : WX} {a b c : Expr} {fa fb fc : EvE} {pos : Pos}
theorem rd_bin {r : R2} {f : F2} (hv : OpV X.K r f) : ∀ σ H Q, rdE X.K W (binE f fa fb) σ H Q → tOp r (rdE X.K W fa) (rdE X.K W fb) σ H Q :=
  fun σ H Q ⟨env, M, st, eo, so, p⟩ => ⟨env, M, st, eo, so, Post.imp (Post.bind p) fun x H1 ⟨M1, st1, a, g, so1, ra, p1⟩ =>
    ⟨env, M1, st1, eo.grow g, so1, Post.imp (Post.bind p1) fun y H2 ⟨M2, st2, b, g2, so2, rb, p2⟩ => hv a b x y M2 H2 st2 Q _ (ra.grow g2) rb so2 p2⟩⟩
theorem g_op {op : Operator} {r : R2} {f : F2} (ho : OpR X (binaryOp op) r) (hv : OpV X.K r f) (ha : PE X a (rdE X.K W fa)) (hb : PE X b (rdE X.K W fb)) : PE X (.BinOp a op b pos) (rdE X.K W (binE f fa fb)) :=
  (pe_op ho ha hb).imp (rd_bin hv)
theorem g_cmp {op : CmpOp} {r : R2} {f : F2} (ho : OpR X (compareOp op) r) (hv : OpV X.K r f) (ha : PE X a (rdE X.K W fa)) (hb : PE X b (rdE X.K W fb)) (hm : behindInMarks op b = false) : PE X (.Compare a [op] [b] pos) (rdE X.K W (binE f fa fb)) :=
  (pe_cmpR ho ha hb hm).imp (rd_bin hv)
def boolR : D → Sto → R Bool
  | .bl b, st => .ok b st
  | _, _ => .fail
def tstE (fa : EvE) : EvB := fun env st => (fa env st).bind boolR
theorem rd_tst : ∀ σ H Q, rdB X.K W (tstE fa) σ H Q → rdE X.K W fa σ H (fun x H' => ∃ k, x = .bl k ∧ Q k H') :=
  fun σ H Q ⟨env, M, st, eo, so, p⟩ => ⟨env, M, st, eo, so, Post.imp (Post.bind p) fun x H1 ⟨M1, st1, a, g, so1, ra, p1⟩ => by
    unfold boolR at p1
    cases a with
    | bl k =>
      unfold Rep at ra
      exact ⟨k, ra, p1 M1 H1 k .refl so1 rfl⟩
    | _ => exact p1.elim⟩
theorem g_tcmp {op : CmpOp} {r : R2} {f : F2} (ho : OpR X (compareOp op) r) (hv : OpV X.K r f) (ha : PE X a (rdE X.K W fa)) (hb : PE X b (rdE X.K W fb)) (hm : behindInMarks op b = false) : PT X (.Compare a [op] [b] pos) (rdB X.K W (tstE (binE f fa fb))) :=
  (pt_cmpR ho ha hb hm).imp fun σ H Q h => rd_bin hv _ _ _ (rd_tst _ _ _ h)
theorem g_tval {e : Expr} (h : PE X e (rdE X.K W fa)) (he : ∀ whole, isTrue e X.env whole = (do let v ← whole; standAt e.pos; holding [v] (truthy v))) : PT X e (rdB X.K W (tstE fa)) :=
  (pt_val h he).imp fun σ H Q q => rd_tst _ _ _ q
def chainE (f f' : F2) (fa fb fc : EvE) : EvE := fun env st => (fa env st).bind fun a st1 => (fb env st1).bind fun b st2 => (f a b st2).bind fun z st3 => match z with
  | .bl true => (fc env st3).bind fun c st4 => f' b c st4
  | .bl false => .ok (.bl false) st3
  | _ => .fail
end
def andB (p q : EvB) : EvB := fun env st => (p env st).bind fun b st1 => if b = true then q env st1 else .ok false st1
def orB (p q : EvB) : EvB := fun env st => (p env st).bind fun b st1 => if b = true then .ok true st1 else q env st1
def notB (p : EvB) : EvB := fun env st => (p env st).bind fun b st1 => .ok (!b) st1
def ifE (t : EvB) (fa fb : EvE) : EvE := fun env st => (t env st).bind fun b st1 => if b = true then fa env st1 else fb env st1
def andE (fa fb : EvE) : EvE := fun env st => (fa env st).bind fun a st1 => match a with
  | .bl true => fb env st1
  | .bl false => .ok (.bl false) st1
  | _ => .fail
def notE (fa : EvE) : EvE := fun env st => (fa env st).bind fun a st1 => match a with
  | .bl b => .ok (.bl (!b)) st1
  | _ => .fail
section
variable {X : Cx} {W : WX} {a b : Expr} {rest : List Expr} {fa fb : EvE} {p q : EvB} {pos : Pos}
theorem g_and1 (ha : PT X a (rdB X.K W p)) : PW X (.BoolOp .And [a] pos) (rdB X.K W p) := pw_and1 ha
theorem g_or1 (ha : PT X a (rdB X.K W p)) : PW X (.BoolOp .Or [a] pos) (rdB X.K W p) := pw_or1 ha
theorem _root_.L2.PW.imp {e : Expr} {t t' : TT} (h : PW X e t) (i : ∀ σ H Q, t' σ H Q → t σ H Q) : PW X e t' := ⟨fun w pins s σ H Q I q => h.run w pins s σ H Q I (i σ H Q q)⟩
theorem g_and (ha : PT X a (rdB X.K W p)) (hb : PW X (.BoolOp .And (b :: rest) pos) (rdB X.K W q)) : PW X (.BoolOp .And (a :: b :: rest) pos) (rdB X.K W (andB p q)) :=
  PW.imp (pw_and ha hb) fun σ H Q ⟨env, M, st, eo, so, po⟩ => ⟨env, M, st, eo, so, Post.imp (Post.bind (rep := fun _ _ a b => a = b) po) fun x H1 ⟨M1, st1, a, g, so1, ra, p1⟩ => by
    subst ra
    cases a with
    | true => exact ⟨env, M1, st1, eo.grow g, so1, p1⟩
    | false => exact p1 M1 H1 false .refl so1 rfl⟩
theorem g_or (ha : PT X a (rdB X.K W p)) (hb : PW X (.BoolOp .Or (b :: rest) pos) (rdB X.K W q)) : PW X (.BoolOp .Or (a :: b :: rest) pos) (rdB X.K W (orB p q)) :=
  PW.imp (pw_or ha hb) fun σ H Q ⟨env, M, st, eo, so, po⟩ => ⟨env, M, st, eo, so, Post.imp (Post.bind (rep := fun _ _ a b => a = b) po) fun x H1 ⟨M1, st1, a, g, so1, ra, p1⟩ => by
    subst ra
    cases a with
    | false => exact ⟨env, M1, st1, eo.grow g, so1, p1⟩
    | true => exact p1 M1 H1 true .refl so1 rfl⟩
theorem g_tnot (ha : PT X a (rdB X.K W p)) : PT X (.UnaryOp .Not a pos) (rdB X.K W (notB p)) :=
  (pt_not ha).imp fun σ H Q ⟨env, M, st, eo, so, po⟩ => ⟨env, M, st, eo, so, Post.imp (Post.bind (rep := fun _ _ a b => a = b) po) fun x H1 ⟨M1, st1, a, g, so1, ra, p1⟩ => by
    subst ra
    exact p1 M1 H1 _ .refl so1 rfl⟩
theorem g_if {t : Expr} (ht : PT X t (rdB X.K W p)) (ha : PE X a (rdE X.K W fa)) (hb : PE X b (rdE X.K W fb)) : PE X (.IfExp t a b pos) (rdE X.K W (ifE p fa fb)) :=
  (pe_ifExp ht ha hb).imp fun σ H Q ⟨env, M, st, eo, so, po⟩ => ⟨env, M, st, eo, so, Post.imp (Post.bind (rep := fun _ _ a b => a = b) po) fun x H1 ⟨M1, st1, a, g, so1, ra, p1⟩ => by
    subst ra
    cases a with
    | true => exact ⟨env, M1, st1, eo.grow g, so1, p1⟩
    | false => exact ⟨env, M1, st1, eo.grow g, so1, p1⟩⟩
theorem g_one {op : BoolOp} (h : PE X a (rdE X.K W fa)) : PE X (.BoolOp op [a] pos) (rdE X.K W fa) := pe_one h
theorem g_vand (ha : PE X a (rdE X.K W fa)) (hb : PE X (.BoolOp .And (b :: rest) pos) (rdE X.K W fb)) : PE X (.BoolOp .And (a :: b :: rest) pos) (rdE X.K W (andE fa fb)) :=
  (pe_and ha hb).imp fun σ H Q ⟨env, M, st, eo, so, po⟩ => ⟨env, M, st, eo, so, Post.imp (Post.bind (rep := Rep X.K) po) fun x H1 ⟨M1, st1, a, g, so1, ra, p1⟩ => by
    cases a with
    | bl k =>
      unfold Rep at ra
      subst ra
      cases k with
      | true => exact ⟨true, rfl, env, M1, st1, eo.grow g, so1, p1⟩
      | false => exact ⟨false, rfl, p1 M1 H1 _ .refl so1 (rep_bl _ _ _)⟩
    | _ => exact p1.elim⟩
theorem g_vnot (ha : PE X a (rdE X.K W fa)) : PE X (.UnaryOp .Not a pos) (rdE X.K W (notE fa)) :=
  (pe_not ha).imp fun σ H Q ⟨env, M, st, eo, so, po⟩ => ⟨env, M, st, eo, so, Post.imp (Post.bind (rep := Rep X.K) po) fun x H1 ⟨M1, st1, a, g, so1, ra, p1⟩ => by
    cases a with
    | bl k =>
      unfold Rep at ra
      subst ra
      exact ⟨k, rfl, p1 M1 H1 _ .refl so1 (rep_bl _ _ _)⟩
    | _ => exact p1.elim⟩
theorem g_chain {op op' : CmpOp} {r r' : R2} {f f' : F2} {c : Expr} {fc : EvE} (h0 : PE X (.Compare a [op, op'] [b, c] pos) (tChain r r' (rdE X.K W fa) (rdE X.K W fb) (rdE X.K W fc))) (hv : OpV X.K r f) (hv' : OpV X.K r' f') :
    PE X (.Compare a [op, op'] [b, c] pos) (rdE X.K W (chainE f f' fa fb fc)) :=
  h0.imp fun σ H Q ⟨env, M, st, eo, so, p⟩ => ⟨env, M, st, eo, so, Post.imp (Post.bind p) fun x H1 ⟨M1, st1, a, g, so1, ra, p1⟩ =>
    ⟨env, M1, st1, eo.grow g, so1, Post.imp (Post.bind p1) fun y H2 ⟨M2, st2, b, g2, so2, rb, p2⟩ => hv a b x y M2 H2 st2 _ _ (ra.grow g2) rb so2 (Post.imp (Post.bind (rep := Rep X.K) p2) fun z H3 ⟨M3, st3, zd, g3, so3, rz, p3⟩ => by
      cases zd with
      | bl k =>
        unfold Rep at rz
        subst rz
        cases k with
        | true => exact ⟨true, rfl, iteT ⟨env, M3, st3, (eo.grow g).grow (g2.trans g3), so3, Post.imp (Post.bind p3) fun w H4 ⟨M4, st4, cd, g4, so4, rc, p4⟩ => hv' b cd y w M4 H4 st4 _ _ (rb.grow (g3.trans g4)) rc so4 p4⟩⟩
        | false => exact ⟨false, rfl, iteF (p3 M3 H3 _ .refl so3 (rep_bl _ _ _))⟩
      | _ => exact p3.elim)⟩⟩
end
def nilA : EvA := fun _ st => .ok [] st
def consA (fa : EvE) (fr : EvA) : EvA := fun env st => (fa env st).bind fun a st1 => (fr env st1).bind fun as st2 => .ok (a :: as) st2
def itemsOf : D → Option (List D)
  | .tup xs => some xs
  | .lst xs => some xs
  | .slo xs => some xs
  | _ => none
def starA (fa : EvE) (fr : EvA) : EvA := fun env st => (fa env st).bind fun a st1 => match itemsOf a with
  | some xs => (fr env st1).bind fun as st2 => .ok (xs ++ as) st2
  | none => .fail
def tupE (fs : EvA) : EvE := fun env st => (fs env st).bind fun xs st1 => if xs.length ≤ 16777216 then .ok (.tup xs) st1 else .fail
def lstE (fs : EvA) : EvE := fun env st => (fs env st).bind fun xs st1 => if xs.length ≤ 16777216 then .ok (.lst xs) st1 else .fail
def mutE (fs : EvA) : EvE := fun env st => (fs env st).bind fun xs st1 => if xs.length ≤ 16777216 then .ok (.mut st1.length) (st1 ++ [.lst xs]) else .fail
section
variable {X : Cx} {W : WX} {e : Expr} {es : List Expr} {fa : EvE} {fs : EvA} {pos p : Pos}
theorem g_nil : PA X [] (rdA X.K W nilA) := pa_nil.imp fun σ H Q ⟨env, M, st, eo, so, p⟩ => p M H [] .refl so .nil
theorem g_cons (ha : PE X e (rdE X.K W fa)) (hr : PA X es (rdA X.K W fs)) (hs : starEach (e :: es) X.env = (false, eval e X.env) :: starEach es X.env) : PA X (e :: es) (rdA X.K W (consA fa fs)) :=
  (pa_cons ha hr hs).imp fun σ H Q ⟨env, M, st, eo, so, p⟩ => ⟨env, M, st, eo, so, Post.imp (Post.bind p) fun x H1 ⟨M1, st1, a, g, so1, ra, p1⟩ =>
    ⟨env, M1, st1, eo.grow g, so1, Post.imp (Post.bind (rep := RepL X.K) p1) fun y H2 ⟨M2, st2, b, g2, so2, rb, p2⟩ => p2 M2 H2 _ .refl so2 (.cons (ra.grow g2) rb)⟩⟩
theorem itemsOf_rep {K : PySem.W.Frag} {M : Mem} {H : Hp} {a : D} {xs : List D} {v : V} (h : itemsOf a = some xs) (r : Rep K M H a v) : ∃ t vs, v = .ref t ∧ (SqT K H t vs ∨ SqL K H t vs) ∧ RepL K M H xs vs := by
  cases a with
  | tup ys => cases h; unfold Rep at r; obtain ⟨t, vs, e, f, q⟩ := r; exact ⟨t, vs, e, .inl f.sq, q⟩
  | lst ys => cases h; unfold Rep at r; obtain ⟨t, vs, e, f, q⟩ := r; exact ⟨t, vs, e, .inr f.sq, q⟩
  | slo ys => cases h; unfold Rep at r; obtain ⟨t, vs, e, f, q⟩ := r; exact ⟨t, vs, e, .inr f.sq, q⟩
  | _ => cases h
theorem g_star (ha : PE X e (rdE X.K W fa)) (hr : PA X es (rdA X.K W fs)) (hs : starEach (.Starred e p :: es) X.env = (true, eval e X.env) :: starEach es X.env) : PA X (.Starred e p :: es) (rdA X.K W (starA fa fs)) :=
  (StX.pa_star ha hr hs).imp fun σ H Q ⟨env, M, st, eo, so, p⟩ => ⟨env, M, st, eo, so, Post.imp (Post.bind p) fun x H1 ⟨M1, st1, a, g, so1, ra, p1⟩ => by
    cases h : itemsOf a with
    | none => rw [h] at p1; exact p1.elim
    | some xs =>
      rw [h] at p1
      obtain ⟨t, vs, rfl, sq, q⟩ := itemsOf_rep h ra
      exact ⟨t, vs, rfl, sq, env, M1, st1, eo.grow g, so1, Post.imp (Post.bind (rep := RepL X.K) p1) fun y H2 ⟨M2, st2, b, g2, so2, rb, p2⟩ => p2 M2 H2 _ .refl so2 ((q.grow g2).append rb)⟩⟩
theorem size_le {n : Nat} (h : n ≤ 16777216) : n ≤ sizeLine := by rw [sizeLine_eq]; exact h
theorem rep_tup {K : PySem.W.Frag} {M : Mem} {H : Hp} {st : Sto} {xs : List D} {vs : List V} {p : Addr} (so : StOk K M H st) (r : RepL K M H xs vs) (hp : H p = none) : Rep K M (upd H p (.tup vs)) (.tup xs) (.ref p) := by
  unfold Rep
  exact ⟨p, vs, rfl, ⟨upd_same, so.notin hp⟩, r.grow (.laid so hp)⟩
theorem rep_lst {K : PySem.W.Frag} {M : Mem} {H : Hp} {st : Sto} {xs : List D} {vs : List V} {p : Addr} (so : StOk K M H st) (r : RepL K M H xs vs) (hp : H p = none) : Rep K M (upd H p (.lst vs)) (.lst xs) (.ref p) := by
  unfold Rep
  exact ⟨p, vs, rfl, ⟨upd_same, so.notin hp⟩, r.grow (.laid so hp)⟩
theorem rep_mut {K : PySem.W.Frag} {M : Mem} {H : Hp} {st : Sto} {p : Addr} (so : StOk K M H st) {H' : Hp} : Rep K (M.push p) H' (.mut st.length) (.ref p) := by
  unfold Rep
  refine ⟨p, rfl, ?_⟩
  show (M.m ++ [p])[st.length]? = some p
  rw [← so.len, List.getElem?_append_right (Nat.le_refl _)]; simp
theorem g_tup {x1} (h : PA X es (rdA X.K W fs)) : PE X (.Tuple es x1 pos) (rdE X.K W (tupE fs)) :=
  (pe_tup h).imp fun σ H Q ⟨env, M, st, eo, so, p⟩ => ⟨env, M, st, eo, so, Post.imp (Post.bind p) fun vs H1 ⟨M1, st1, xs, g, so1, ra, p1⟩ => by
    by_cases hz : xs.length ≤ 16777216
    · rw [if_pos hz] at p1
      exact ⟨by rw [← ra.length]; exact size_le hz, fun a ha => p1 _ _ _ (.laid so1 ha) (so1.laid ha) (rep_tup so1 ra ha)⟩
    · rw [if_neg hz] at p1; exact p1.elim⟩
theorem g_lst (h : PA X es (rdA X.K W fs)) : PE X (.List es pos) (rdE X.K W (lstE fs)) :=
  (pe_lst h).imp fun σ H Q ⟨env, M, st, eo, so, p⟩ => ⟨env, M, st, eo, so, Post.imp (Post.bind p) fun vs H1 ⟨M1, st1, xs, g, so1, ra, p1⟩ => by
    by_cases hz : xs.length ≤ 16777216
    · rw [if_pos hz] at p1
      exact ⟨by rw [← ra.length]; exact size_le hz, fun a ha => p1 _ _ _ (.laid so1 ha) (so1.laid ha) (rep_lst so1 ra ha)⟩
    · rw [if_neg hz] at p1; exact p1.elim⟩
theorem g_mut (h : PA X es (rdA X.K W fs)) : PE X (.List es pos) (rdE X.K W (mutE fs)) :=
  (pe_lst h).imp fun σ H Q ⟨env, M, st, eo, so, p⟩ => ⟨env, M, st, eo, so, Post.imp (Post.bind p) fun vs H1 ⟨M1, st1, xs, g, so1, ra, p1⟩ => by
    by_cases hz : xs.length ≤ 16777216
    · rw [if_pos hz] at p1
      exact ⟨by rw [← ra.length]; exact size_le hz, fun a ha => p1 _ _ _ (.push so1 ha) (so1.pushL ha ra) (rep_mut so1)⟩
    · rw [if_neg hz] at p1; exact p1.elim⟩
abbrev FA := List D → Sto → R D
def callE (f : FA) (fs : EvA) : EvE := fun env st => (fs env st).bind f
def CallV (K : PySem.W.Frag) (r : List V → Hp → VK → Prop) (f : FA) : Prop := ∀ (as : List D) (xs : List V) (M : Mem) (H : Hp) (st : Sto) (Q : VK) (E : XK), RepL K M H as xs → StOk K M H st → Post K (Rep K) M H Q E (f as st) → r xs H Q
theorem rd_call {r : List V → Hp → VK → Prop} {f : FA} (hv : CallV X.K r f) : ∀ σ H Q, rdE X.K W (callE f fs) σ H Q → tCB r (rdA X.K W fs) σ H Q :=
  fun σ H Q ⟨env, M, st, eo, so, p⟩ => ⟨env, M, st, eo, so, Post.imp (Post.bind p) fun x H1 ⟨M1, st1, a, g, so1, ra, p1⟩ => hv a x M1 H1 st1 Q _ ra so1 p1⟩
end
end G
namespace G
open PySem PySem.Spec PySem.W L2 PyProof.Rows
section
variable {prog : Program} {w : World} {A : Around} {E : Value → Shared → Prop} {s : Shared} {l : Addr} {its : List Value} {ns : List Int} {Q : Value → Shared → Prop}
theorem iter_tupR {items : Array Value} (hl : s.heap.IsTuple l items)
    (h : ∀ s₂ : Shared, s₂ = { s with heap := s.heap.push { cls := .type "tuple_iterator", data := .fields #[.ref l, .int 0 0] } } →
      (s₂.heap.IsTupleIter s.heap.objs.size l 0 ∧ s₂.heap.IsTuple l items) → l ≠ s.heap.objs.size → (∀ b ∈ [s.heap.objs.size, l], b < s₂.heap.objs.size) → Q (.ref s.heap.objs.size) s₂) : wpAny (model prog w) A (pyIter (.ref l)) Q E s := by
  have hlt : l < s.heap.objs.size := by obtain ⟨_, e, _⟩ := hl; exact Heap.lt_size e
  refine wpAny_pyIter_tuple hl (h _ rfl ⟨⟨_, Heap.get?_push_size _ rfl, rfl, rfl⟩, hl.at fun o e => Heap.get?_push_of_some _ e⟩ (Nat.ne_of_lt hlt) fun b hb => ?_)
  show b < (s.heap.push _).objs.size
  rw [Heap.size_push]
  rcases List.mem_cons.mp hb with rfl | hb
  · exact Nat.lt_succ_self _
  · rcases List.mem_cons.mp hb with rfl | hb
    · exact Nat.lt_succ_of_lt hlt
    · cases hb
theorem sum_rawT (hh : A.handled = none) (hl : s.heap.IsTuple l its.toArray) (hi : IntsAre its ns)
    (h : ∀ h' tk t', (∀ b o, s.heap.get? b = some o → h'.get? b = some o) → Q (.int ns.sum t') { s with heap := h', toks := tk }) : wpAny (model prog w) A (call (.builtin "sum") [.ref l]) Q E s := by
  obtain ⟨xs, e⟩ := hi.allInts.items
  have hn : numsOf (intItems xs).toList = ns := by rw [← e]; exact hi.numsOf
  rw [nums_intItems] at hn
  rw [e] at hl
  refine PySem.W.ktm_sumG hh hl fun h' tk t' hk => ?_
  have := h h' tk t' hk
  rw [preSum_eq, List.take_of_length_le (by simp), hn]; exact this
theorem old_of {s₂ : Shared} {o : Obj} {h' : Heap} (e : s₂ = { s with heap := s.heap.push o }) (hk : ∀ b o, b ∉ [s.heap.objs.size] → s₂.heap.get? b = some o → h'.get? b = some o) : ∀ b o, s.heap.get? b = some o → h'.get? b = some o := by
  intro b ob eb
  subst e
  exact hk b ob (fun hmem => absurd (Heap.lt_size eb) ((List.mem_singleton.mp hmem) ▸ Nat.lt_irrefl _)) (Heap.get?_push_of_some _ eb)
theorem max_rawT (hh : A.handled = none) (hl : s.heap.IsTuple l its.toArray) (hi : IntsAre its ns) (hne : 0 < ns.length)
    (h : ∀ h' tk M t', (∀ b o, s.heap.get? b = some o → h'.get? b = some o) → M ∈ ns → (∀ a, a ∈ ns → a ≤ M) → Q (.int M t') { s with heap := h', toks := tk }) : wpAny (model prog w) A (call (.builtin "max") [.ref l]) Q E s := by
  obtain ⟨xs, e⟩ := hi.allInts.items
  have hn : numsOf (intItems xs).toList = ns := by rw [← e]; exact hi.numsOf
  rw [nums_intItems] at hn
  subst hn
  rw [e] at hl
  have hsz : 0 < xs.size := by simpa using hne
  refine call_max_walk (iter_tupR hl fun s₂ e2 st hlI hfp => ?_)
  subst e2
  refine ⟨_, _, _, _, _, _, _, rfl, Walks.tuple (A := A.in1) hh _ l hlI (intItems xs), st, hfp, by simpa [intItems] using hsz, CmpOf.ints_gt (numAt xs) (fun _ _ => intItems_at), fun v h' tk hP hk => ?_⟩
  have hv : (intItems xs)[argBest (fun i j => decide (numAt xs i > numAt xs j)) (xs.size - 1)]? = some v := by simpa [intItems] using hP
  obtain ⟨t, rfl⟩ := intItems_at hv
  obtain ⟨h1, h2⟩ := argBest_gt (numAt xs) (xs.size - 1)
  refine h h' tk _ t (old_of rfl hk) ?_ fun a ha => ?_
  · rw [numAt_eq]; exact PySem.getD_mem (by rw [List.length_map, Array.length_toList]; omega)
  · obtain ⟨j, hj, rfl⟩ := mem_getD ha
    rw [List.length_map, Array.length_toList] at hj
    rw [← numAt_eq]; exact h2 j (by omega)
theorem min_rawT (hh : A.handled = none) (hl : s.heap.IsTuple l its.toArray) (hi : IntsAre its ns) (hne : 0 < ns.length)
    (h : ∀ h' tk M t', (∀ b o, s.heap.get? b = some o → h'.get? b = some o) → M ∈ ns → (∀ a, a ∈ ns → M ≤ a) → Q (.int M t') { s with heap := h', toks := tk }) : wpAny (model prog w) A (call (.builtin "min") [.ref l]) Q E s := by
  obtain ⟨xs, e⟩ := hi.allInts.items
  have hn : numsOf (intItems xs).toList = ns := by rw [← e]; exact hi.numsOf
  rw [nums_intItems] at hn
  subst hn
  rw [e] at hl
  have hsz : 0 < xs.size := by simpa using hne
  refine call_min_walk (iter_tupR hl fun s₂ e2 st hlI hfp => ?_)
  subst e2
  refine ⟨_, _, _, _, _, _, _, rfl, Walks.tuple (A := A.in1) hh _ l hlI (intItems xs), st, hfp, by simpa [intItems] using hsz, CmpOf.ints_lt (numAt xs) (fun _ _ => intItems_at), fun v h' tk hP hk => ?_⟩
  have hv : (intItems xs)[argBest (fun i j => decide (numAt xs i < numAt xs j)) (xs.size - 1)]? = some v := by simpa [intItems] using hP
  obtain ⟨t, rfl⟩ := intItems_at hv
  obtain ⟨h1, h2⟩ := argBest_lt (numAt xs) (xs.size - 1)
  refine h h' tk _ t (old_of rfl hk) ?_ fun a ha => ?_
  · rw [numAt_eq]; exact PySem.getD_mem (by rw [List.length_map, Array.length_toList]; omega)
  · obtain ⟨j, hj, rfl⟩ := mem_getD ha
    rw [List.length_map, Array.length_toList] at hj
    rw [← numAt_eq]; exact h2 j (by omega)
end
section
variable {X : Cx}
theorem tup_is {s : Shared} {a : Addr} {its : List Value} (h : IsTup s.heap a its.toArray) : s.heap.IsTuple a its.toArray := h
def SqB (K : PySem.W.Frag) (H : Hp) (a : Addr) (xs : List V) : Prop := SqL K H a xs ∨ SqT K H a xs
def qSum (K : PySem.W.Frag) : List V → Hp → VK → Prop := fun vs H Q => ∃ (a : Addr) (ns : List Int), vs = [V.ref a] ∧ SqB K H a (ns.map V.int) ∧ Q (.int ns.sum) H
def qAll (K : PySem.W.Frag) : List V → Hp → VK → Prop := fun vs H Q => ∃ (a : Addr) (bs : List Bool), vs = [V.ref a] ∧ SqB K H a (bs.map V.bl) ∧ Q (.bl (bs.all id)) H
def qMax (K : PySem.W.Frag) : List V → Hp → VK → Prop := fun vs H Q => ∃ (a : Addr) (ns : List Int), vs = [V.ref a] ∧ SqB K H a (ns.map V.int) ∧ 0 < ns.length ∧ ∀ m, m ∈ ns → (∀ y, y ∈ ns → y ≤ m) → Q (.int m) H
def qMin (K : PySem.W.Frag) : List V → Hp → VK → Prop := fun vs H Q => ∃ (a : Addr) (ns : List Int), vs = [V.ref a] ∧ SqB K H a (ns.map V.int) ∧ 0 < ns.length ∧ ∀ m, m ∈ ns → (∀ y, y ∈ ns → m ≤ y) → Q (.int m) H
theorem cq_sum (hc : X.calm = true) : CallR X (.builtin "sum") (qSum X.K) := by
  intro pins s σ H vs us Q I r h
  obtain ⟨a, ns, rfl, hs | hs, q⟩ := h
  · exact cr_sum hc pins s σ H _ us Q I r ⟨a, ns, rfl, hs, q⟩
  · obtain ⟨its, rv, hl, _⟩ := I.tuple hs
    rw [Vals.ref1 r]
    exact sum_rawT (I.ok.hd hc) (tup_is hl) rv.ints fun h' tk t' hk => ⟨.int _, H, I.kept hk, ⟨_, rfl⟩, q⟩
theorem cq_max (hc : X.calm = true) : CallR X (.builtin "max") (qMax X.K) := by
  intro pins s σ H vs us Q I r h
  obtain ⟨a, ns, rfl, hs | hs, hne, q⟩ := h
  · exact cr_max hc pins s σ H _ us Q I r ⟨a, ns, rfl, hs, hne, q⟩
  · obtain ⟨its, rv, hl, _⟩ := I.tuple hs
    rw [Vals.ref1 r]
    exact max_rawT (I.ok.hd hc) (tup_is hl) rv.ints hne fun h' tk m t' hk h1 h2 => ⟨.int _, H, I.kept hk, ⟨_, rfl⟩, q m h1 h2⟩
theorem cq_min (hc : X.calm = true) : CallR X (.builtin "min") (qMin X.K) := by
  intro pins s σ H vs us Q I r h
  obtain ⟨a, ns, rfl, hs | hs, hne, q⟩ := h
  · exact cr_min hc pins s σ H _ us Q I r ⟨a, ns, rfl, hs, hne, q⟩
  · obtain ⟨its, rv, hl, _⟩ := I.tuple hs
    rw [Vals.ref1 r]
    exact min_rawT (I.ok.hd hc) (tup_is hl) rv.ints hne fun h' tk m t' hk h1 h2 => ⟨.int _, H, I.kept hk, ⟨_, rfl⟩, q m h1 h2⟩
theorem cq_all (hc : X.calm = true) : CallR X (.builtin "all") (qAll X.K) := by
  intro pins s σ H vs us Q I r h
  obtain ⟨a, bs, rfl, hs | hs, q⟩ := h
  · exact cr_all hc pins s σ H _ us Q I r ⟨a, bs, rfl, hs, q⟩
  · obtain ⟨its, rv, hl, _⟩ := I.tuple hs
    rw [Vals.ref1 r]
    have hb := rv.bls
    refine call_all_walk (iter_tupR (tup_is hl) fun s₂ e2 st hne _ => ?_)
    subst e2
    refine ⟨_, _, _, _, _, _, _, rfl, Walks.tuple (A := X.A.in1) (I.ok.hd hc) _ a hne its.toArray, st, truth_bools hb, fun h' tk hk => ?_⟩
    refine ⟨.bl _, H, I.kept (old_of rfl hk), ?_, q⟩
    show Value.bool _ = Value.bool _
    rw [← L2.all_range, hb, List.size_toArray, List.length_map]
end
end G
namespace G
open PySem PySem.Spec PyProof.Rows L2
theorem tuple_mul_self (l : Addr) (items : Array Value) (n : Nat) (dd : Option Addr) (sl : Array (Option Value)) (x : Int) (u : Tok) (c0 : (decide (x < -(2 ^ 63)) || decide (x ≥ 2 ^ 63)) = false) (c1 : (items.isEmpty || x == 1) = true) :
    Meets (Builtin.«tuple.__mul__» ⟨[.ref l, .int x u], []⟩) (fun _ R s => s.heap.get? l = some { cls := .type "tuple", dict := dd, data := .seq items n, slots := sl } ∧ R (.ok (.ret (Value.ref l))) s) :=
  .of_wp fun prog w A R s h => by
    obtain ⟨hp, g, d, tk, os⟩ := s
    obtain ⟨hl, h⟩ := h
    have f1 := AutoSeq1.idx_int
    wp_walk using wpAny_loadPart' hl
    repeat (first
      | (refine wpAny_ite_false (decide_eq_false (by rw [c0]; exact Bool.false_ne_true)) ?_; wp_walk using wpAny_loadPart' hl)
      | (refine wpAny_ite_true (decide_eq_true (by rw [c1])) ?_; wp_walk using wpAny_loadPart' hl))
    exact ⟨_, rfl, h⟩
theorem tuple_mul_nil (l : Addr) (items : Array Value) (n : Nat) (dd : Option Addr) (sl : Array (Option Value)) (x : Int) (u : Tok) (c0 : (decide (x < -(2 ^ 63)) || decide (x ≥ 2 ^ 63)) = false) (c1 : (items.isEmpty || x == 1) = false) (c2 : (decide (x ≤ 0) || items.isEmpty) = true) :
    Meets (Builtin.«tuple.__mul__» ⟨[.ref l, .int x u], []⟩) (fun _ R s => s.heap.get? l = some { cls := .type "tuple", dict := dd, data := .seq items n, slots := sl } ∧
      R (.ok (.ret (Value.ref s.heap.objs.size))) { s with heap := s.heap.push { cls := Value.type "tuple", data := Data.seq #[] }, toks := s.toks }) :=
  .of_wp fun prog w A R s h => by
    obtain ⟨hp, g, d, tk, os⟩ := s
    obtain ⟨hl, h⟩ := h
    have f1 := AutoSeq1.idx_int
    wp_walk using wpAny_loadPart' hl
    repeat (first
      | (refine wpAny_ite_false (decide_eq_false (by rw [c0]; exact Bool.false_ne_true)) ?_; wp_walk using wpAny_loadPart' hl)
      | (refine wpAny_ite_false (decide_eq_false (by rw [c1]; exact Bool.false_ne_true)) ?_; wp_walk using wpAny_loadPart' hl)
      | (refine wpAny_ite_true (decide_eq_true (by rw [c2])) ?_; wp_walk using wpAny_loadPart' hl))
    exact ⟨_, rfl, h⟩
def rRepT1 (K : PySem.W.Frag) : R2 := fun x y H Q => ∃ l k xs, x = .ref l ∧ y = .int k ∧ SqT K H l xs ∧ k.natAbs < 2 ^ 62 ∧ ((xs = [] ∨ k = 1) ∧ Q (.ref l) H ∨ (xs ≠ [] ∧ k ≤ 0) ∧ ∀ p, H p = none → Q (.ref p) (upd H p (.tup [])))
theorem op_repT1 {X : Cx} : OpR X (binaryOp .Mult) (rRepT1 X.K) := by
  intro pins s σ H x y v u Q I rx ry h
  obtain ⟨l, k, xs, rfl, rfl, hT, hk, q⟩ := h
  cases rx
  obtain ⟨t, rfl⟩ := ry
  obtain ⟨its, r, ⟨⟨cls, dd, data, sl⟩, ho, hc, n, hd⟩, hs⟩ := I.tuple hT
  simp only at hc hd
  subst hc hd
  have hle : its.length = xs.length := r.length.symm
  have c0 : (decide (k < -(2 ^ 63)) || decide (k ≥ 2 ^ 63)) = false := by
    rw [decide_eq_false (by omega), decide_eq_false (by omega)] <;> rfl
  rcases q with ⟨hc, q⟩ | ⟨⟨hne, hk0⟩, q⟩
  · have c1 : (its.toArray.isEmpty || k == 1) = true := by
      rcases hc with hc | hc
      · subst hc
        have : its = [] := List.eq_nil_of_length_eq_zero hle
        subst this; rfl
      · subst hc; simp
    refine wpAny_binaryOp_repeat_ref (T := "tuple") (U := "int") (by decide) ⟨_, ho, rfl⟩ (fun s' => typeIs_int s' k t) noFill_tuple_mul F.fills_int_mul F.slot_int_rmul repeat_tuple F.slot_int_index.lookup
      (call_meets F.slot_int_rmul (typeIs_int s k t) F.entry_int_rmul (F.args_int_rmul_2 _ _) (int_rmul_tuple k t l its.toArray n dd sl)
        ⟨ho, rfl, ⟨_, ho, rfl⟩, call_meets F.slot_tuple_mul ⟨_, ho, rfl⟩ F.entry_tuple_mul (F.args_tuple_mul_2 _ _) (tuple_mul_self l its.toArray n dd sl k t c0 c1) ⟨ho, ?_⟩⟩)
    exact ⟨.ref l, H, I, rfl, q⟩
  · have hn : its ≠ [] := fun e => hne (by
      rw [e] at hle
      exact List.eq_nil_of_length_eq_zero hle.symm)
    have hi : its.toArray.isEmpty = false := by
      cases its with
      | nil => exact absurd rfl hn
      | cons a b => rfl
    have c1 : (its.toArray.isEmpty || k == 1) = false := by
      rw [hi, Bool.false_or]
      exact beq_eq_false_iff_ne.mpr (by omega)
    have c2 : (decide (k ≤ 0) || its.toArray.isEmpty) = true := by rw [decide_eq_true hk0]; rfl
    refine wpAny_binaryOp_repeat_ref (T := "tuple") (U := "int") (by decide) ⟨_, ho, rfl⟩ (fun s' => typeIs_int s' k t) noFill_tuple_mul F.fills_int_mul F.slot_int_rmul repeat_tuple F.slot_int_index.lookup
      (call_meets F.slot_int_rmul (typeIs_int s k t) F.entry_int_rmul (F.args_int_rmul_2 _ _) (int_rmul_tuple k t l its.toArray n dd sl)
        ⟨ho, rfl, ⟨_, ho, rfl⟩, call_meets F.slot_tuple_mul ⟨_, ho, rfl⟩ F.entry_tuple_mul (F.args_tuple_mul_2 _ _) (tuple_mul_nil l its.toArray n dd sl k t c0 c1 c2) ⟨ho, ?_⟩⟩)
    refine ⟨.ref s.heap.objs.size, _, I.laid (t' := s.toks) (o := .tup []) (fun b ob q => Heap.get?_push_of_some _ q) (Nat.le_refl _) ?_, rfl, q _ (I.hok.fresh (Nat.le_refl _))⟩
    exact ⟨by show 0 ≤ sizeLine; exact Nat.zero_le _, [], .nil, IsTup.new _ _⟩
end G
namespace G
open PySem PySem.Spec PyProof.Rows L2
def big : Nat := 2 ^ 4000
theorem big_log {n : Nat} (h : n < big) : n.log2 < 4000 := PySem.Flt.log2_lt_of (by decide) h
mutual
def toPD : D → Option PyData
  | .non => some .none
  | .bl b => some (.bool b)
  | .int i => some (.int i)
  | .str x => some (.str x)
  | .tup xs => (toPDs xs).map .tuple
  | .lst xs => (toPDs xs).map .list
  | .slo xs => (toPDs xs).map .list
  | _ => none
def toPDs : List D → Option (List PyData)
  | [] => some []
  | x :: xs => match toPD x, toPDs xs with
    | some a, some b => some (a :: b)
    | _, _ => none
end
section
variable {K : PySem.W.Frag} {M : Mem} {H : Hp}
mutual
theorem toPD_rep : ∀ {d : D} {p : PyData} {v : V}, toPD d = some p → Rep K M H d v → Dp K H v p
  | .non, _, _, h, r => by unfold toPD at h; unfold Rep at r; cases h; subst r; exact .non
  | .bl _, _, _, h, r => by unfold toPD at h; unfold Rep at r; cases h; subst r; exact .bl _
  | .int _, _, _, h, r => by unfold toPD at h; unfold Rep at r; cases h; subst r; exact .int _
  | .str _, _, _, h, r => by unfold toPD at h; unfold Rep at r; cases h; subst r; exact .str _
  | .raw _, _, _, h, r => by unfold toPD at h; cases h
  | .dic, _, _, h, r => by unfold toPD at h; cases h
  | .fn _, _, _, h, r => by unfold toPD at h; cases h
  | .emp, _, _, h, r => by unfold toPD at h; cases h
  | .rg .., _, _, h, r => by unfold toPD at h; cases h
  | .exv .., _, _, h, r => by unfold toPD at h; cases h
  | .mut _, _, _, h, r => by unfold toPD at h; cases h
  | .tup xs, p, v, h, r => by
    unfold toPD at h; unfold Rep at r
    obtain ⟨a, vs, rfl, f, q⟩ := r
    cases e : toPDs xs with
    | none => rw [e] at h; cases h
    | some ps => rw [e] at h; cases h; exact .tup f.sq (toPDs_rep e q)
  | .lst xs, p, v, h, r => by
    unfold toPD at h; unfold Rep at r
    obtain ⟨a, vs, rfl, f, q⟩ := r
    cases e : toPDs xs with
    | none => rw [e] at h; cases h
    | some ps => rw [e] at h; cases h; exact .lst f.sq (toPDs_rep e q)
  | .slo xs, p, v, h, r => by
    unfold toPD at h; unfold Rep at r
    obtain ⟨a, vs, rfl, f, q⟩ := r
    cases e : toPDs xs with
    | none => rw [e] at h; cases h
    | some ps => rw [e] at h; cases h; exact .lst f.sq (toPDs_rep e q)
theorem toPDs_rep : ∀ {ds : List D} {ps : List PyData} {vs : List V}, toPDs ds = some ps → RepL K M H ds vs → DpAll K H vs ps
  | [], _, _, h, r => by unfold toPDs at h; unfold RepL at r; cases h; subst r; exact .nil
  | d :: ds, ps, vs, h, r => by
    unfold toPDs at h; unfold RepL at r
    obtain ⟨v, rr, rfl, r1, r2⟩ := r
    cases e1 : toPD d with
    | none => rw [e1] at h; cases h
    | some a =>
      cases e2 : toPDs ds with
      | none => rw [e1, e2] at h; cases h
      | some b => rw [e1, e2] at h; cases h; exact .cons (toPD_rep e1 r1) (toPDs_rep e2 r2)
end
end
def addD : F2 := fun a b st => match a, b with
  | .int i, .int j => .ok (.int (i + j)) st
  | .str x, .str y => if x.length + y.length ≤ 16777216 then .ok (.str (x ++ y)) st else .fail
  | .tup xs, .tup ys => if xs.length + ys.length ≤ 16777216 then .ok (.tup (xs ++ ys)) st else .fail
  | .lst xs, .lst ys => if xs.length + ys.length ≤ 16777216 then .ok (.lst (xs ++ ys)) st else .fail
  | .mut n, .lst ys => (match st[n]? with
    | some (.lst xs) => if xs.length + ys.length ≤ 16777216 then .ok (.lst (xs ++ ys)) st else .fail
    | _ => .fail)
  | .lst xs, .mut n => (match st[n]? with
    | some (.lst ys) => if xs.length + ys.length ≤ 16777216 then .ok (.lst (xs ++ ys)) st else .fail
    | _ => .fail)
  | _, _ => .fail
def subD : F2 := fun a b st => match a, b with
  | .int i, .int j => .ok (.int (i - j)) st
  | _, _ => .fail
def mulOk (i j : Int) : Prop := i.natAbs < 2 ^ 64 ∨ j.natAbs < 2 ^ 64 ∨ (i.natAbs < big ∧ j.natAbs < big)
instance (i j : Int) : Decidable (mulOk i j) := by unfold mulOk; infer_instance
def mulD : F2 := fun a b st => match a, b with
  | .int i, .int j => if mulOk i j then .ok (.int (i * j)) st else .fail
  | .lst xs, .int k => if k.natAbs < 2 ^ 62 ∧ xs.length * k.toNat ≤ 16777216 then .ok (.lst (List.replicate k.toNat xs).flatten) st else .fail
  | .tup xs, .int k => if xs ≠ [] ∧ 2 ≤ k ∧ k ≤ 1000 ∧ xs.length ≤ 1000 then .ok (.tup (List.replicate k.toNat xs).flatten) st else if (xs = [] ∨ k = 1) ∧ k.natAbs < 2 ^ 62 then .ok (.tup xs) st else if (xs ≠ [] ∧ k ≤ 0) ∧ k.natAbs < 2 ^ 62 then .ok (.tup []) st else .fail
  | _, _ => .fail
def fdivD : F2 := fun a b st => match a, b with
  | .int i, .int j => if 0 < j ∧ j.natAbs < big then .ok (.int (i / j)) st else .fail
  | _, _ => .fail
def modD : F2 := fun a b st => match a, b with
  | .int i, .int j => if 0 < j then .ok (.int (i % j)) st else .fail
  | _, _ => .fail
def powD : F2 := fun a b st => match a, b with
  | .int i, .int j => if 0 ≤ j ∧ j ≤ 1000000 ∧ i.natAbs < 2 ^ 64 then .ok (.int (i ^ j.toNat)) st else .fail
  | _, _ => .fail
def negD : F1 := fun a st => match a with
  | .int i => .ok (.int (-i)) st
  | _ => .fail
def cmpI (f : Int → Int → Bool) : F2 := fun a b st => match a, b with
  | .int i, .int j => .ok (.bl (f i j)) st
  | _, _ => .fail
def intsOf : List D → Option (List Int)
  | [] => some []
  | .int i :: r => (intsOf r).map (i :: ·)
  | _ => none
def lexLe : List Int → List Int → Bool
  | [], _ => true
  | _ :: _, [] => false
  | a :: x, b :: y => if a = b then lexLe x y else decide (a ≤ b)
def ltD : F2 := fun a b st => match a, b with
  | .int i, .int j => .ok (.bl (decide (i < j))) st
  | .tup xs, .tup ys => match intsOf xs, intsOf ys with
    | some ns, some ms => .ok (.bl (HT.lexLt ns ms)) st
    | _, _ => .fail
  | _, _ => .fail
def leD : F2 := fun a b st => match a, b with
  | .int i, .int j => .ok (.bl (decide (i ≤ j))) st
  | .tup xs, .tup ys => match intsOf xs, intsOf ys with
    | some ns, some ms => .ok (.bl (lexLe ns ms)) st
    | _, _ => .fail
  | _, _ => .fail
def gtD : F2 := cmpI fun i j => decide (j < i)
def geD : F2 := cmpI fun i j => decide (j ≤ i)
def scalD : D → D → Option Bool
  | .non, .non => some true
  | .int i, .int j => some (decide (i = j))
  | .bl i, .bl j => some (decide (i = j))
  | .str i, .str j => some (decide (i = j))
  | .non, .int _ => some false | .int _, .non => some false
  | .non, .bl _ => some false | .bl _, .non => some false
  | .non, .str _ => some false | .str _, .non => some false
  | .int _, .str _ => some false | .str _, .int _ => some false
  | .bl _, .str _ => some false | .str _, .bl _ => some false
  | _, _ => none
def eqO (a b : D) : Option Bool := match scalD a b with
  | some k => some k
  | none => match toPD a, toPD b with
    | some x, some y => if SeqAt.shaped x = true ∧ SeqAt.shaped y = true then some (PyData.eqv x y) else none
    | _, _ => none
def eqD : F2 := fun a b st => match eqO a b with
  | some k => .ok (.bl k) st
  | none => .fail
def neD : F2 := fun a b st => match eqO a b with
  | some k => .ok (.bl (!k)) st
  | none => .fail
def isNon : D → Option Bool
  | .non => some true
  | .mut _ => some false
  | .raw _ => none
  | .exv .. => none
  | _ => some false
def isND : F2 := fun a b st => match b, isNon a with
  | .non, some k => .ok (.bl k) st
  | _, _ => .fail
def notND : F2 := fun a b st => match b, isNon a with
  | .non, some k => .ok (.bl (!k)) st
  | _, _ => .fail
section
variable {K : PySem.W.Frag} {M : Mem} {H : Hp}
theorem rep_int_iff {i : Int} {v : V} : Rep K M H (.int i) v ↔ v = .int i := by unfold Rep; exact Iff.rfl
theorem intsOf_rep : ∀ {ds : List D} {ns : List Int} {vs : List V}, intsOf ds = some ns → RepL K M H ds vs → vs = ns.map V.int
  | [], _, _, h, r => by unfold intsOf at h; unfold RepL at r; cases h; subst r; rfl
  | .int i :: ds, ns, vs, h, r => by
    unfold intsOf at h; unfold RepL at r
    obtain ⟨v, rr, rfl, r1, r2⟩ := r
    rw [rep_int_iff] at r1
    subst r1
    cases e : intsOf ds with
    | none => rw [e] at h; cases h
    | some ms => rw [e] at h; cases h; rw [intsOf_rep e r2]; rfl
  | .non :: ds, ns, vs, h, r => by unfold intsOf at h; cases h
  | .bl _ :: ds, ns, vs, h, r => by unfold intsOf at h; cases h
  | .str _ :: ds, ns, vs, h, r => by unfold intsOf at h; cases h
  | .raw _ :: ds, ns, vs, h, r => by unfold intsOf at h; cases h
  | .dic :: ds, ns, vs, h, r => by unfold intsOf at h; cases h
  | .fn _ :: ds, ns, vs, h, r => by unfold intsOf at h; cases h
  | .emp :: ds, ns, vs, h, r => by unfold intsOf at h; cases h
  | .rg .. :: ds, ns, vs, h, r => by unfold intsOf at h; cases h
  | .exv .. :: ds, ns, vs, h, r => by unfold intsOf at h; cases h
  | .tup _ :: ds, ns, vs, h, r => by unfold intsOf at h; cases h
  | .lst _ :: ds, ns, vs, h, r => by unfold intsOf at h; cases h
  | .slo _ :: ds, ns, vs, h, r => by unfold intsOf at h; cases h
  | .mut _ :: ds, ns, vs, h, r => by unfold intsOf at h; cases h
@[simp] theorem intsOf_map : ∀ ns : List Int, intsOf (ns.map D.int) = some ns
  | [] => rfl
  | n :: ns => by show (intsOf (ns.map D.int)).map (n :: ·) = some (n :: ns); rw [intsOf_map ns]; rfl
end
section
variable {X : Cx} {K : PySem.W.Frag}
def rOr (r r' : R2) : R2 := fun x y H Q => r x y H Q ∨ r' x y H Q
theorem v_add : OpV K (rOr (rI0 fun i j => .int (i + j)) (rOr (fun x y H Q => ∃ i j, x = .str i ∧ y = .str j ∧ i.length + j.length ≤ sizeLine ∧ Q (.str (i ++ j)) H) (rOr (rCatA K) rCat))) addD := by
  intro a b x y M H st Q E ra rb so p
  unfold addD at p
  split at p
  · unfold Rep at ra rb; subst ra rb
    exact .inl ⟨_, _, rfl, rfl, p M H _ .refl so (rep_int _ _ _)⟩
  · unfold Rep at ra rb; subst ra rb
    split at p
    · rename_i h; exact .inr (.inl ⟨_, _, rfl, rfl, size_le h, p M H _ .refl so (rep_str _ _ _)⟩)
    · exact p.elim
  · rename_i xs ys
    split at p
    · rename_i h
      have ra' := ra; have rb' := rb
      unfold Rep at ra rb
      obtain ⟨t, vs, rfl, f, q⟩ := ra
      obtain ⟨u, ws, rfl, f', q'⟩ := rb
      refine .inr (.inr (.inl ⟨t, u, vs, ws, rfl, rfl, f.sq, f'.sq, by rw [← q.length, ← q'.length]; exact size_le h, fun e => ?_, fun _ e => ?_, fun _ _ a ha => ?_⟩))
      · have : xs = [] := List.length_eq_zero_iff.mp (by rw [q.length, e]; rfl)
        subst this
        exact p M H _ .refl so rb'
      · have : ys = [] := List.length_eq_zero_iff.mp (by rw [q'.length, e]; rfl)
        subst this
        exact p M H _ .refl so (by simpa using ra')
      · exact p M _ _ (.laid so ha) (so.laid ha) (rep_tup so (q.append q') ha)
    · exact p.elim
  · rename_i xs ys
    split at p
    · rename_i h
      unfold Rep at ra rb
      obtain ⟨t, vs, rfl, f, q⟩ := ra
      obtain ⟨u, ws, rfl, f', q'⟩ := rb
      exact .inr (.inr (.inr ⟨t, u, vs, ws, rfl, rfl, f.1, f'.1, by rw [← q.length, ← q'.length]; exact size_le h, fun a ha => p M _ _ (.laid so ha) (so.laid ha) (rep_lst so (q.append q') ha)⟩))
    · exact p.elim
  · rename_i n ys
    split at p
    · rename_i xs e
      split at p
      · rename_i h
        unfold Rep at ra rb
        obtain ⟨t, rfl, m⟩ := ra
        obtain ⟨vs, hv, q⟩ := so.at_ n t _ m e
        obtain ⟨u, ws, rfl, f', q'⟩ := rb
        exact .inr (.inr (.inr ⟨t, u, vs, ws, rfl, rfl, hv, f'.1, by rw [← q.length, ← q'.length]; exact size_le h, fun a ha => p M _ _ (.laid so ha) (so.laid ha) (rep_lst so (q.append q') ha)⟩))
      · exact p.elim
    · exact p.elim
  · rename_i xs n
    split at p
    · rename_i ys e
      split at p
      · rename_i h
        unfold Rep at ra rb
        obtain ⟨t, vs, rfl, f, q⟩ := ra
        obtain ⟨u, rfl, m⟩ := rb
        obtain ⟨ws, hw, q'⟩ := so.at_ n u _ m e
        exact .inr (.inr (.inr ⟨t, u, vs, ws, rfl, rfl, f.1, hw, by rw [← q.length, ← q'.length]; exact size_le h, fun a ha => p M _ _ (.laid so ha) (so.laid ha) (rep_lst so (q.append q') ha)⟩))
      · exact p.elim
    · exact p.elim
  · exact p.elim
theorem o_add : OpR X (binaryOp .Add) (rOr (rI0 fun i j => .int (i + j)) (rOr (fun x y H Q => ∃ i j, x = .str i ∧ y = .str j ∧ i.length + j.length ≤ sizeLine ∧ Q (.str (i ++ j)) H) (rOr (rCatA X.K) rCat))) :=
  OpR.or op_add (OpR.or op_add_str (OpR.or op_catA op_cat))
theorem v_sub : OpV K (rI0 fun i j => .int (i - j)) subD := by
  intro a b x y M H st Q E ra rb so p
  unfold subD at p
  split at p
  · unfold Rep at ra rb; subst ra rb
    exact ⟨_, _, rfl, rfl, p M H _ .refl so (rep_int _ _ _)⟩
  · exact p.elim
theorem cmul_of {i j : Int} (h : mulOk i j) : CMul i j ∨ CMulW i j := by
  rcases h with h | h | h
  · exact .inl (.inl (by omega))
  · exact .inl (.inr (by omega))
  · exact .inr (by have := big_log h.1; have := big_log h.2; unfold CMulW; omega)
theorem RepL.flat {M : Mem} {H : Hp} {xs : List D} {vs : List V} (q : RepL K M H xs vs) : ∀ n, RepL K M H (List.replicate n xs).flatten (List.replicate n vs).flatten
  | 0 => .nil
  | n + 1 => by
    rw [List.replicate_succ, List.replicate_succ, List.flatten_cons, List.flatten_cons]
    exact q.append (RepL.flat q n)
theorem v_mul : OpV K (rOr (rI (fun i j => CMul i j) fun i j => .int (i * j)) (rOr (rI CMulW fun i j => .int (i * j)) (rOr rRep (rOr (rRepT K) (rRepT1 K))))) mulD := by
  intro a b x y M H st Q E ra rb so p
  unfold mulD at p
  split at p
  · split at p
    · rename_i h
      unfold Rep at ra rb; subst ra rb
      rcases cmul_of h with h | h
      · exact .inl ⟨_, _, rfl, rfl, h, p M H _ .refl so (rep_int _ _ _)⟩
      · exact .inr (.inl ⟨_, _, rfl, rfl, h, p M H _ .refl so (rep_int _ _ _)⟩)
    · exact p.elim
  · split at p
    · rename_i h
      unfold Rep at ra rb
      obtain ⟨t, vs, rfl, f, q⟩ := ra
      subst rb
      refine .inr (.inr (.inl ⟨t, _, vs, rfl, rfl, f.1, by omega, by omega, by rw [← q.length]; exact size_le h.2, fun a ha => ?_⟩))
      exact p M _ _ (.laid so ha) (so.laid ha) (rep_lst so (q.flat _) ha)
    · exact p.elim
  · split at p
    · rename_i xs k h
      unfold Rep at ra rb
      obtain ⟨t, vs, rfl, f, q⟩ := ra
      subst rb
      refine .inr (.inr (.inr (.inl ⟨t, _, vs, rfl, rfl, f.sq, fun e => h.1 (List.length_eq_zero_iff.mp (by rw [q.length, e]; rfl)), h.2.1, h.2.2.1, by rw [← q.length]; exact h.2.2.2, fun a ha => ?_⟩)))
      exact p M _ _ (.laid so ha) (so.laid ha) (rep_tup so (q.flat _) ha)
    · rename_i xs k _
      split at p
      · rename_i h
        have ra' := ra
        unfold Rep at ra rb
        obtain ⟨t, vs, rfl, f, q⟩ := ra
        subst rb
        refine .inr (.inr (.inr (.inr ⟨t, _, vs, rfl, rfl, f.sq, h.2, .inl ⟨h.1.imp (fun e => List.length_eq_zero_iff.mp (by rw [← q.length, e]; rfl)) id, p M H _ .refl so ra'⟩⟩)))
      · split at p
        · rename_i h
          unfold Rep at ra rb
          obtain ⟨t, vs, rfl, f, q⟩ := ra
          subst rb
          refine .inr (.inr (.inr (.inr ⟨t, _, vs, rfl, rfl, f.sq, h.2, .inr ⟨⟨fun e => h.1.1 (List.length_eq_zero_iff.mp (by rw [q.length, e]; rfl)), h.1.2⟩, fun a ha => p M _ _ (.laid so ha) (so.laid ha) (rep_tup so .nil ha)⟩⟩)))
        · exact p.elim
  · exact p.elim
theorem o_mul : OpR X (binaryOp .Mult) (rOr (rI (fun i j => CMul i j) fun i j => .int (i * j)) (rOr (rI CMulW fun i j => .int (i * j)) (rOr rRep (rOr (rRepT X.K) (rRepT1 X.K))))) :=
  OpR.or op_mul (OpR.or op_mulW (OpR.or op_rep (OpR.or op_repT op_repT1)))
theorem v_fdiv : OpV K (rI CDivW fun i j => .int (i / j)) fdivD := by
  intro a b x y M H st Q E ra rb so p
  unfold fdivD at p
  split at p
  · split at p
    · rename_i h
      unfold Rep at ra rb; subst ra rb
      exact ⟨_, _, rfl, rfl, ⟨h.1, Nat.lt_trans (big_log h.2) (by decide)⟩, p M H _ .refl so (rep_int _ _ _)⟩
    · exact p.elim
  · exact p.elim
theorem v_mod : OpV K (rI (fun _ j => 0 < j) fun i j => .int (i % j)) modD := by
  intro a b x y M H st Q E ra rb so p
  unfold modD at p
  split at p
  · split at p
    · rename_i h
      unfold Rep at ra rb; subst ra rb
      exact ⟨_, _, rfl, rfl, h, p M H _ .refl so (rep_int _ _ _)⟩
    · exact p.elim
  · exact p.elim
theorem v_pow : OpV K (rI CPow fun i j => .int (i ^ j.toNat)) powD := by
  intro a b x y M H st Q E ra rb so p
  unfold powD at p
  split at p
  · split at p
    · rename_i h
      unfold Rep at ra rb; subst ra rb
      exact ⟨_, _, rfl, rfl, h, p M H _ .refl so (rep_int _ _ _)⟩
    · exact p.elim
  · exact p.elim
theorem v_cmpI (f : Int → Int → Bool) : OpV K (rI0 fun i j => .bl (f i j)) (cmpI f) := by
  intro a b x y M H st Q E ra rb so p
  unfold cmpI at p
  split at p
  · unfold Rep at ra rb; subst ra rb
    exact ⟨_, _, rfl, rfl, p M H _ .refl so (rep_bl _ _ _)⟩
  · exact p.elim
theorem v_lt : OpV K (rOr (rI0 fun i j => .bl (decide (i < j))) (rLtT K)) ltD := by
  intro a b x y M H st Q E ra rb so p
  unfold ltD at p
  split at p
  · unfold Rep at ra rb; subst ra rb
    exact .inl ⟨_, _, rfl, rfl, p M H _ .refl so (rep_bl _ _ _)⟩
  · split at p
    · rename_i e1 e2
      unfold Rep at ra rb
      obtain ⟨t, vs, rfl, f, q⟩ := ra
      obtain ⟨u, ws, rfl, f', q'⟩ := rb
      have h1 := intsOf_rep e1 q
      have h2 := intsOf_rep e2 q'
      subst h1 h2
      exact .inr ⟨t, u, _, _, rfl, rfl, f.sq, f'.sq, p M H _ .refl so (rep_bl _ _ _)⟩
    · exact p.elim
  · exact p.elim
theorem o_lt (hu : X.A.units < cLine) : OpR X (compareOp .Lt) (rOr (rI0 fun i j => .bl (decide (i < j))) (rLtT X.K)) := OpR.or op_lt (op_ltT hu)
theorem lexAt_go (ns0 ms0 : List Int) : ∀ (ns ms : List Int) (i : Nat), ns0.drop i = ns → ms0.drop i = ms → i ≤ ns0.length → i ≤ ms0.length →
    Ob.lexAt (fun j => decide (ns0.getD j 0 = ms0.getD j 0)) (fun j => decide (ns0.getD j 0 ≤ ms0.getD j 0)) (decide (ns0.length ≤ ms0.length)) i (min ns.length ms.length) = lexLe ns ms
  | [], ms, i, h1, h2, h3, h4 => by
    have : ns0.length = i := by have := congrArg List.length h1; simp at this; omega
    simp only [List.length_nil, Nat.zero_min]
    show decide (ns0.length ≤ ms0.length) = true
    simp; omega
  | a :: x, [], i, h1, h2, h3, h4 => by
    have e1 : ms0.length = i := by have := congrArg List.length h2; simp at this; omega
    have e2 : ns0.length = i + (x.length + 1) := by have := congrArg List.length h1; simp at this; omega
    simp only [List.length_nil, Nat.min_zero]
    show decide (ns0.length ≤ ms0.length) = false
    simp; omega
  | a :: x, b :: y, i, h1, h2, h3, h4 => by
    have e1 : ns0.getD i 0 = a := by
      have : ns0[i]? = some a := by rw [← List.head?_drop, h1]; rfl
      simp [List.getD, this]
    have e2 : ms0.getD i 0 = b := by
      have : ms0[i]? = some b := by rw [← List.head?_drop, h2]; rfl
      simp [List.getD, this]
    have l1 : ns0.length = i + (x.length + 1) := by have := congrArg List.length h1; simp at this; omega
    have l2 : ms0.length = i + (y.length + 1) := by have := congrArg List.length h2; simp at this; omega
    have em : min (a :: x).length (b :: y).length = min x.length y.length + 1 := by simp [Nat.succ_min_succ]
    rw [em, Ob.lexAt_succ]
    have ih := lexAt_go ns0 ms0 x y (i + 1) (by rw [← List.drop_drop, h1]; rfl) (by rw [← List.drop_drop, h2]; rfl) (by omega) (by omega)
    rw [e1, e2, ih]
    show (if decide (a = b) = true then lexLe x y else decide (a ≤ b)) = if a = b then lexLe x y else decide (a ≤ b)
    by_cases h : a = b <;> simp [h]
theorem v_le : OpV K (rOr (rI0 fun i j => .bl (decide (i ≤ j))) (rLeT K)) leD := by
  intro a b x y M H st Q E ra rb so p
  unfold leD at p
  split at p
  · unfold Rep at ra rb; subst ra rb
    exact .inl ⟨_, _, rfl, rfl, p M H _ .refl so (rep_bl _ _ _)⟩
  · split at p
    · rename_i ns ms e1 e2
      unfold Rep at ra rb
      obtain ⟨t, vs, rfl, f, q⟩ := ra
      obtain ⟨u, ws, rfl, f', q'⟩ := rb
      have h1 := intsOf_rep e1 q
      have h2 := intsOf_rep e2 q'
      subst h1 h2
      refine .inr ⟨t, u, ns, ms, rfl, rfl, f.sq, f'.sq, p M H _ .refl so ?_⟩
      rw [lexAt_go ns ms ns ms 0 rfl rfl (Nat.zero_le _) (Nat.zero_le _)]
      exact rep_bl _ _ _
    · exact p.elim
  · exact p.elim
theorem o_le (hu : X.A.units < cLine) : OpR X (compareOp .LtE) (rOr (rI0 fun i j => .bl (decide (i ≤ j))) (rLeT X.K)) := OpR.or op_le (op_leT hu)
theorem scalD_rep {M : Mem} {H : Hp} {a b : D} {x y : V} {k : Bool} (h : scalD a b = some k) (ra : Rep K M H a x) (rb : Rep K M H b y) : scal x y = true ∧ decide (x = y) = k := by
  unfold scalD at h
  split at h <;> cases h <;> (unfold Rep at ra rb; subst ra rb; exact ⟨rfl, by simp⟩)
theorem eqO_rep {M : Mem} {H : Hp} {a b : D} {x y : V} {k : Bool} (h : eqO a b = some k) (ra : Rep K M H a x) (rb : Rep K M H b y) :
    (scal x y = true ∧ decide (x = y) = k) ∨ ∃ d e, Dp K H x d ∧ Dp K H y e ∧ SeqAt.shaped d = true ∧ SeqAt.shaped e = true ∧ PyData.eqv d e = k := by
  unfold eqO at h
  split at h
  · rename_i k' e
    cases h
    exact .inl (scalD_rep e ra rb)
  · split at h
    · rename_i d e e1 e2
      split at h
      · rename_i hs
        cases h
        exact .inr ⟨d, e, toPD_rep e1 ra, toPD_rep e2 rb, hs.1, hs.2, rfl⟩
      · cases h
    · cases h
theorem v_eq : OpV K (rOr rEq (rEqD K)) eqD := by
  intro a b x y M H st Q E ra rb so p
  unfold eqD at p
  split at p
  · rename_i k h
    rcases eqO_rep h ra rb with ⟨h1, h2⟩ | ⟨d, e, h1, h2, h3, h4, h5⟩
    · exact .inl ⟨h1, p M H _ .refl so (by rw [h2]; exact rep_bl _ _ _)⟩
    · exact .inr ⟨d, e, h1, h2, h3, h4, p M H _ .refl so (by rw [h5]; exact rep_bl _ _ _)⟩
  · exact p.elim
theorem o_eq (hu : X.A.units + 64 < cLine) : OpR X (compareOp .Eq) (rOr rEq (rEqD X.K)) := OpR.or op_eq (op_eqD hu)
theorem v_ne : OpV K (rOr rNe (rNeD K)) neD := by
  intro a b x y M H st Q E ra rb so p
  unfold neD at p
  split at p
  · rename_i k h
    rcases eqO_rep h ra rb with ⟨h1, h2⟩ | ⟨d, e, h1, h2, h3, h4, h5⟩
    · exact .inl ⟨h1, p M H _ .refl so (by rw [h2]; exact rep_bl _ _ _)⟩
    · exact .inr ⟨d, e, h1, h2, h3, h4, p M H _ .refl so (by rw [h5]; exact rep_bl _ _ _)⟩
  · exact p.elim
theorem o_ne (hu : X.A.units + 64 < cLine) : OpR X (compareOp .NotEq) (rOr rNe (rNeD X.K)) := OpR.or op_ne (op_neD hu)
theorem isNon_rep {M : Mem} {H : Hp} {a : D} {x : V} {k : Bool} (h : isNon a = some k) (ra : Rep K M H a x) : decide (x = .non) = k := by
  cases a with
  | raw v => cases h
  | non => cases h; unfold Rep at ra; subst ra; rfl
  | bl _ => cases h; unfold Rep at ra; subst ra; rfl
  | int _ => cases h; unfold Rep at ra; subst ra; rfl
  | str _ => cases h; unfold Rep at ra; subst ra; rfl
  | tup _ => cases h; unfold Rep at ra; obtain ⟨_, _, rfl, _⟩ := ra; rfl
  | lst _ => cases h; unfold Rep at ra; obtain ⟨_, _, rfl, _⟩ := ra; rfl
  | slo _ => cases h; unfold Rep at ra; obtain ⟨_, _, rfl, _⟩ := ra; rfl
  | dic => cases h; unfold Rep at ra; obtain ⟨_, _, rfl, _⟩ := ra; rfl
  | «mut» _ => cases h; unfold Rep at ra; obtain ⟨_, rfl, _⟩ := ra; rfl
  | emp => cases h; unfold Rep at ra; obtain ⟨_, rfl, _⟩ := ra; rfl
  | rg _ _ => cases h; unfold Rep at ra; obtain ⟨_, rfl, _⟩ := ra; rfl
  | fn _ => cases h; unfold Rep at ra; obtain ⟨_, rfl, _⟩ := ra; rfl
  | exv => cases h
theorem v_isN : OpV K (fun x y H Q => y = .non ∧ Q (.bl (decide (x = .non))) H) isND := by
  intro a b x y M H st Q E ra rb so p
  unfold isND at p
  split at p
  · rename_i k h
    unfold Rep at rb
    exact ⟨rb, p M H _ .refl so (by rw [isNon_rep h ra]; exact rep_bl _ _ _)⟩
  · exact p.elim
theorem v_notN : OpV K (fun x y H Q => y = .non ∧ Q (.bl (!decide (x = .non))) H) notND := by
  intro a b x y M H st Q E ra rb so p
  unfold notND at p
  split at p
  · rename_i k h
    unfold Rep at rb
    exact ⟨rb, p M H _ .refl so (by rw [isNon_rep h ra]; exact rep_bl _ _ _)⟩
  · exact p.elim
end
def lenOf (a : D) (st : Sto) : Option Nat := match a with
  | .mut n => (match st[n]? with
    | some (.lst xs) => some xs.length
    | _ => none)
  | .str x => if x.length ≤ 16777216 then some x.length else none
  | a => (itemsOf a).map List.length
def lenF : FA := fun as st => match as with
  | [a] => (match lenOf a st with
    | some n => .ok (.int n) st
    | none => .fail)
  | _ => .fail
def seqOf (a : D) (st : Sto) : Option (List D) := match a with
  | .mut n => (match st[n]? with
    | some (.lst xs) => some xs
    | _ => none)
  | a => itemsOf a
def listF : FA := fun as st => match as with
  | [a] => (match seqOf a st with
    | some xs => .ok (.lst xs) st
    | none => .fail)
  | _ => .fail
def tupleF : FA := fun as st => match as with
  | [.tup xs] => .ok (.tup xs) st
  | [a] => (match seqOf a st with
    | some xs => .ok (.tup xs) st
    | none => .fail)
  | _ => .fail
def sumF : FA := fun as st => match as with
  | [a] => (match (seqOf a st).bind intsOf with
    | some ns => .ok (.int ns.sum) st
    | none => .fail)
  | _ => .fail
def boolsOf : List D → Option (List Bool)
  | [] => some []
  | .bl i :: r => (boolsOf r).map (i :: ·)
  | _ => none
def allF : FA := fun as st => match as with
  | [a] => (match (seqOf a st).bind boolsOf with
    | some ns => .ok (.bl (ns.all id)) st
    | none => .fail)
  | _ => .fail
def anyF : FA := fun as st => match as with
  | [a] => (match (seqOf a st).bind boolsOf with
    | some ns => .ok (.bl (ns.any id)) st
    | none => .fail)
  | _ => .fail
def absF : FA := fun as st => match as with
  | [.int i] => .ok (.int (if i < 0 then -i else i)) st
  | _ => .fail
def intF : FA := fun as st => match as with
  | [.int i] => .ok (.int i) st
  | [.bl k] => .ok (.int (if k then 1 else 0)) st
  | _ => .fail
def bigI : List Int → Int
  | [] => 0
  | [x] => x
  | x :: r => max x (bigI r)
def smallI : List Int → Int
  | [] => 0
  | [x] => x
  | x :: r => min x (smallI r)
def maxF : FA := fun as st => match as with
  | [.int i, .int j] => .ok (.int (if j > i then j else i)) st
  | [a] => (match (seqOf a st).bind intsOf with
    | some (n :: ns) => .ok (.int (bigI (n :: ns))) st
    | _ => .fail)
  | _ => .fail
def minF : FA := fun as st => match as with
  | [.int i, .int j] => .ok (.int (if j < i then j else i)) st
  | [a] => (match (seqOf a st).bind intsOf with
    | some (n :: ns) => .ok (.int (smallI (n :: ns))) st
    | _ => .fail)
  | _ => .fail
def divmodF : FA := fun as st => match as with
  | [.int i, .int j] => if 0 < j ∧ (j < 1073741824 ∨ i.natAbs < big ∨ j.natAbs < big) then .ok (.tup [.int (i / j), .int (i % j)]) st else .fail
  | _ => .fail
section
variable {K : PySem.W.Frag} {M : Mem} {H : Hp}
theorem RepL.one {a : D} {xs : List V} (h : RepL K M H [a] xs) : ∃ x, xs = [x] ∧ Rep K M H a x := by
  unfold RepL at h
  obtain ⟨v, r, rfl, h1, h2⟩ := h
  unfold RepL at h2
  subst h2
  exact ⟨v, rfl, h1⟩
theorem RepL.two {a b : D} {xs : List V} (h : RepL K M H [a, b] xs) : ∃ x y, xs = [x, y] ∧ Rep K M H a x ∧ Rep K M H b y := by
  unfold RepL at h
  obtain ⟨v, r, rfl, h1, h2⟩ := h
  obtain ⟨y, rfl, h3⟩ := h2.one
  exact ⟨v, y, rfl, h1, h3⟩
theorem seqOf_rep {a : D} {st : Sto} {xs : List D} {v : V} (so : StOk K M H st) (h : seqOf a st = some xs) (r : Rep K M H a v) :
    ∃ t vs, v = .ref t ∧ RepL K M H xs vs ∧ (SqT K H t vs ∨ SqL K H t vs) := by
  unfold seqOf at h
  split at h
  · rename_i n
    split at h
    · rename_i ys e
      cases h
      unfold Rep at r
      obtain ⟨t, rfl, m⟩ := r
      obtain ⟨vs, hv, q⟩ := so.at_ n t _ m e
      exact ⟨t, vs, rfl, q, .inr (.of hv)⟩
    · cases h
  · obtain ⟨t, vs, e, s, q⟩ := itemsOf_rep h r
    exact ⟨t, vs, e, q, s⟩
theorem seqOf_list {a : D} {st : Sto} {xs : List D} {v : V} (so : StOk K M H st) (h : seqOf a st = some xs) (hn : ∀ ys, a ≠ .tup ys) (r : Rep K M H a v) :
    ∃ t vs, v = .ref t ∧ RepL K M H xs vs ∧ SqL K H t vs := by
  unfold seqOf at h
  split at h
  · rename_i n
    split at h
    · rename_i ys e
      cases h
      unfold Rep at r
      obtain ⟨t, rfl, m⟩ := r
      obtain ⟨vs, hv, q⟩ := so.at_ n t _ m e
      exact ⟨t, vs, rfl, q, .of hv⟩
    · cases h
  · cases a with
    | tup ys => exact absurd rfl (hn ys)
    | lst ys => cases h; unfold Rep at r; obtain ⟨t, vs, e, f, q⟩ := r; exact ⟨t, vs, e, q, f.sq⟩
    | slo ys => cases h; unfold Rep at r; obtain ⟨t, vs, e, f, q⟩ := r; exact ⟨t, vs, e, q, f.sq⟩
    | _ => cases h
theorem boolsOf_rep : ∀ {ds : List D} {ns : List Bool} {vs : List V}, boolsOf ds = some ns → RepL K M H ds vs → vs = ns.map V.bl
  | [], _, _, h, r => by unfold boolsOf at h; unfold RepL at r; cases h; subst r; rfl
  | .bl i :: ds, ns, vs, h, r => by
    unfold boolsOf at h; unfold RepL at r
    obtain ⟨v, rr, rfl, r1, r2⟩ := r
    unfold Rep at r1
    subst r1
    cases e : boolsOf ds with
    | none => rw [e] at h; cases h
    | some ms => rw [e] at h; cases h; rw [boolsOf_rep e r2]; rfl
  | .non :: ds, ns, vs, h, r => by unfold boolsOf at h; cases h
  | .int _ :: ds, ns, vs, h, r => by unfold boolsOf at h; cases h
  | .str _ :: ds, ns, vs, h, r => by unfold boolsOf at h; cases h
  | .raw _ :: ds, ns, vs, h, r => by unfold boolsOf at h; cases h
  | .dic :: ds, ns, vs, h, r => by unfold boolsOf at h; cases h
  | .fn _ :: ds, ns, vs, h, r => by unfold boolsOf at h; cases h
  | .emp :: ds, ns, vs, h, r => by unfold boolsOf at h; cases h
  | .rg .. :: ds, ns, vs, h, r => by unfold boolsOf at h; cases h
  | .exv .. :: ds, ns, vs, h, r => by unfold boolsOf at h; cases h
  | .tup _ :: ds, ns, vs, h, r => by unfold boolsOf at h; cases h
  | .lst _ :: ds, ns, vs, h, r => by unfold boolsOf at h; cases h
  | .slo _ :: ds, ns, vs, h, r => by unfold boolsOf at h; cases h
  | .mut _ :: ds, ns, vs, h, r => by unfold boolsOf at h; cases h
@[simp] theorem boolsOf_map : ∀ ns : List Bool, boolsOf (ns.map D.bl) = some ns
  | [] => rfl
  | n :: ns => by show (boolsOf (ns.map D.bl)).map (n :: ·) = some (n :: ns); rw [boolsOf_map ns]; rfl
theorem lenOf_seq {a : D} {st : Sto} {n : Nat} (h : lenOf a st = some n) : (∃ x, a = .str x ∧ x.length ≤ 16777216 ∧ n = x.length) ∨ ∃ xs, seqOf a st = some xs ∧ xs.length = n := by
  unfold lenOf at h
  split at h
  · split at h
    · rename_i e; cases h; exact .inr ⟨_, by simp [seqOf, e], rfl⟩
    · cases h
  · split at h
    · rename_i e; cases h; exact .inl ⟨_, rfl, e, rfl⟩
    · cases h
  · cases a with
    | tup ys => cases h; exact .inr ⟨ys, rfl, rfl⟩
    | lst ys => cases h; exact .inr ⟨ys, rfl, rfl⟩
    | slo ys => cases h; exact .inr ⟨ys, rfl, rfl⟩
    | _ => cases h
theorem v_len : CallV K (fun xs H Q => (∃ p ys, xs = [.ref p] ∧ (SqL K H p ys ∨ SqT K H p ys) ∧ Q (.int ys.length) H) ∨ ∃ z, xs = [.str z] ∧ z.length ≤ sizeLine ∧ Q (.int z.length) H) lenF := by
  intro as xs M H st Q E r so p
  unfold lenF at p
  split at p
  · split at p
    · rename_i n h
      obtain ⟨x, rfl, rx⟩ := r.one
      rcases lenOf_seq h with ⟨z, rfl, hz, rfl⟩ | ⟨ys, h1, rfl⟩
      · unfold Rep at rx; subst rx
        exact .inr ⟨z, rfl, size_le hz, p M H _ .refl so (rep_int _ _ _)⟩
      · obtain ⟨t, vs, rfl, q, s⟩ := seqOf_rep so h1 rx
        exact .inl ⟨t, vs, rfl, s.symm, p M H _ .refl so (by rw [q.length]; exact rep_int _ _ _)⟩
    · exact p.elim
  · exact p.elim
theorem v_list : CallV K (fun xs H Q => ∃ p ys, xs = [.ref p] ∧ (SqL K H p ys ∨ SqT K H p ys) ∧ ∀ l, H l = none → Q (.ref l) (upd H l (.lst ys))) listF := by
  intro as xs M H st Q E r so p
  unfold listF at p
  split at p
  · split at p
    · rename_i h
      obtain ⟨x, rfl, rx⟩ := r.one
      obtain ⟨t, vs, rfl, q, s⟩ := seqOf_rep so h rx
      exact ⟨t, vs, rfl, s.symm, fun l hl => p M _ _ (.laid so hl) (so.laid hl) (rep_lst so q hl)⟩
    · exact p.elim
  · exact p.elim
theorem v_tuple : CallV K (fun xs H Q => ∃ p ys, xs = [.ref p] ∧ ((SqL K H p ys ∧ ∀ l, H l = none → Q (.ref l) (upd H l (.tup ys))) ∨ (SqT K H p ys ∧ Q (.ref p) H))) tupleF := by
  intro as xs M H st Q E r so p
  unfold tupleF at p
  split at p
  · obtain ⟨x, rfl, rx⟩ := r.one
    have rx' := rx
    unfold Rep at rx
    obtain ⟨t, vs, rfl, f, q⟩ := rx
    exact ⟨t, vs, rfl, .inr ⟨f.sq, p M H _ .refl so rx'⟩⟩
  · rename_i hn
    split at p
    · rename_i h
      obtain ⟨x, rfl, rx⟩ := r.one
      obtain ⟨t, vs, rfl, q, s⟩ := seqOf_list so h (fun ys e => hn ys (by rw [e])) rx
      exact ⟨t, vs, rfl, .inl ⟨s, fun l hl => p M _ _ (.laid so hl) (so.laid hl) (rep_tup so q hl)⟩⟩
    · exact p.elim
  · exact p.elim
theorem v_sum : CallV K (qSum K) sumF := by
  intro as xs M H st Q E r so p
  unfold sumF at p
  split at p
  · split at p
    · rename_i ns h
      obtain ⟨x, rfl, rx⟩ := r.one
      obtain ⟨ds, h1, h2⟩ := Option.bind_eq_some_iff.mp h
      obtain ⟨t, vs, rfl, q, s⟩ := seqOf_rep so h1 rx
      have e := intsOf_rep h2 q
      subst e
      exact ⟨t, ns, rfl, s.symm, p M H _ .refl so (rep_int _ _ _)⟩
    · exact p.elim
  · exact p.elim
theorem v_all : CallV K (qAll K) allF := by
  intro as xs M H st Q E r so p
  unfold allF at p
  split at p
  · split at p
    · rename_i ns h
      obtain ⟨x, rfl, rx⟩ := r.one
      obtain ⟨ds, h1, h2⟩ := Option.bind_eq_some_iff.mp h
      obtain ⟨t, vs, rfl, q, s⟩ := seqOf_rep so h1 rx
      have e := boolsOf_rep h2 q
      subst e
      exact ⟨t, ns, rfl, s.symm, p M H _ .refl so (rep_bl _ _ _)⟩
    · exact p.elim
  · exact p.elim
theorem v_abs : CallV K (fun xs H Q => ∃ i, xs = [.int i] ∧ Q (.int (if i < 0 then -i else i)) H) absF := by
  intro as xs M H st Q E r so p
  unfold absF at p
  split at p
  · obtain ⟨x, rfl, rx⟩ := r.one
    rw [rep_int_iff] at rx; subst rx
    exact ⟨_, rfl, p M H _ .refl so (rep_int _ _ _)⟩
  · exact p.elim
theorem v_int : CallV K (fun xs H Q => (∃ i, xs = [.int i] ∧ Q (.int i) H) ∨ ∃ k, xs = [.bl k] ∧ Q (.int (if k then 1 else 0)) H) intF := by
  intro as xs M H st Q E r so p
  unfold intF at p
  split at p
  · obtain ⟨x, rfl, rx⟩ := r.one
    rw [rep_int_iff] at rx; subst rx
    exact .inl ⟨_, rfl, p M H _ .refl so (rep_int _ _ _)⟩
  · obtain ⟨x, rfl, rx⟩ := r.one
    unfold Rep at rx; subst rx
    exact .inr ⟨_, rfl, p M H _ .refl so (rep_int _ _ _)⟩
  · exact p.elim
theorem bigI_eq : ∀ {ns : List Int} {m : Int}, m ∈ ns → (∀ y, y ∈ ns → y ≤ m) → m = bigI ns
  | [], _, h, _ => by cases h
  | [x], m, h, _ => by simpa [bigI] using h
  | x :: y :: r, m, h, g => by
    show m = max x (bigI (y :: r))
    have gx := g x (by simp)
    by_cases e : m ∈ y :: r
    · rw [← bigI_eq e (fun z hz => g z (List.mem_cons_of_mem _ hz))]; omega
    · have hm : m = x := by rcases List.mem_cons.mp h with h | h; exact h; exact absurd h e
      have : bigI (y :: r) ≤ m := by
        have hb : ∀ (l : List Int) (y : Int), bigI (y :: l) ∈ y :: l := by
          intro l; induction l with
          | nil => intro y; simp [bigI]
          | cons z l ih =>
            intro y
            show max y (bigI (z :: l)) ∈ _
            rcases Int.le_total y (bigI (z :: l)) with k | k
            · rw [Int.max_eq_right k]; exact List.mem_cons_of_mem _ (ih z)
            · rw [Int.max_eq_left k]; exact List.mem_cons_self
        exact g _ (List.mem_cons_of_mem _ (hb r y))
      omega
theorem smallI_eq : ∀ {ns : List Int} {m : Int}, m ∈ ns → (∀ y, y ∈ ns → m ≤ y) → m = smallI ns
  | [], _, h, _ => by cases h
  | [x], m, h, _ => by simpa [smallI] using h
  | x :: y :: r, m, h, g => by
    show m = min x (smallI (y :: r))
    have gx := g x (by simp)
    by_cases e : m ∈ y :: r
    · rw [← smallI_eq e (fun z hz => g z (List.mem_cons_of_mem _ hz))]; omega
    · have hm : m = x := by rcases List.mem_cons.mp h with h | h; exact h; exact absurd h e
      have : m ≤ smallI (y :: r) := by
        have hb : ∀ (l : List Int) (y : Int), smallI (y :: l) ∈ y :: l := by
          intro l; induction l with
          | nil => intro y; simp [smallI]
          | cons z l ih =>
            intro y
            show min y (smallI (z :: l)) ∈ _
            rcases Int.le_total y (smallI (z :: l)) with k | k
            · rw [Int.min_eq_left k]; exact List.mem_cons_self
            · rw [Int.min_eq_right k]; exact List.mem_cons_of_mem _ (ih z)
        exact g _ (List.mem_cons_of_mem _ (hb r y))
      omega
theorem v_max : CallV K (fun xs H Q => (∃ i j, xs = [.int i, .int j] ∧ Q (.int (if j > i then j else i)) H) ∨ qMax K xs H Q) maxF := by
  intro as xs M H st Q E r so p
  unfold maxF at p
  split at p
  · obtain ⟨x, y, rfl, rx, ry⟩ := r.two
    rw [rep_int_iff] at rx ry; subst rx ry
    exact .inl ⟨_, _, rfl, p M H _ .refl so (rep_int _ _ _)⟩
  · split at p
    · rename_i n ns h
      obtain ⟨x, rfl, rx⟩ := r.one
      obtain ⟨ds, h1, h2⟩ := Option.bind_eq_some_iff.mp h
      obtain ⟨t, vs, rfl, q, s⟩ := seqOf_rep so h1 rx
      have e := intsOf_rep h2 q
      subst e
      exact .inr ⟨t, n :: ns, rfl, s.symm, by simp, fun m h1 h2 => by rw [bigI_eq h1 h2]; exact p M H _ .refl so (rep_int _ _ _)⟩
    · exact p.elim
  · exact p.elim
theorem v_min : CallV K (fun xs H Q => (∃ i j, xs = [.int i, .int j] ∧ Q (.int (if j < i then j else i)) H) ∨ qMin K xs H Q) minF := by
  intro as xs M H st Q E r so p
  unfold minF at p
  split at p
  · obtain ⟨x, y, rfl, rx, ry⟩ := r.two
    rw [rep_int_iff] at rx ry; subst rx ry
    exact .inl ⟨_, _, rfl, p M H _ .refl so (rep_int _ _ _)⟩
  · split at p
    · rename_i n ns h
      obtain ⟨x, rfl, rx⟩ := r.one
      obtain ⟨ds, h1, h2⟩ := Option.bind_eq_some_iff.mp h
      obtain ⟨t, vs, rfl, q, s⟩ := seqOf_rep so h1 rx
      have e := intsOf_rep h2 q
      subst e
      exact .inr ⟨t, n :: ns, rfl, s.symm, by simp, fun m h1 h2 => by rw [smallI_eq h1 h2]; exact p M H _ .refl so (rep_int _ _ _)⟩
    · exact p.elim
  · exact p.elim
theorem big_bits {i : Int} (h : i.natAbs < big) : Builtin.Int.intBits i ≤ 4000 := by
  have := big_log h
  unfold Builtin.Int.intBits
  split <;> omega
theorem divp_ok2 {i j : Int} (h : 0 < j) (h2 : j.natAbs < big) : CDivP i j := by
  refine ⟨h, ?_⟩
  have := big_log h2
  unfold Builtin.divisionGoesByPylong
  have e : (decide ((if j == 0 then 0 else j.natAbs.log2 / 30 + 1 : Nat) > 300)) = false := by
    apply decide_eq_false
    split <;> omega
  simp only [e, Bool.false_and]
theorem v_divmod : CallV K (fun xs H Q => (∃ i j, xs = [.int i, .int j] ∧ CDiv i j ∧ ∀ p, H p = none → Q (.ref p) (upd H p (.tup [.int (i / j), .int (i % j)]))) ∨
    ∃ i j, xs = [.int i, .int j] ∧ CDivP i j ∧ ∀ p, H p = none → Q (.ref p) (upd H p (.tup [.int (i / j), .int (i % j)]))) divmodF := by
  intro as xs M H st Q E r so p
  unfold divmodF at p
  split at p
  · split at p
    · rename_i i j h
      obtain ⟨x, y, rfl, rx, ry⟩ := r.two
      rw [rep_int_iff] at rx ry; subst rx ry
      rcases h.2 with h2 | h2 | h2
      · exact .inl ⟨i, j, rfl, ⟨h.1, h2⟩, fun l hl => p M _ _ (.laid so hl) (so.laid hl) (rep_tup so (.ints [i / j, i % j]) hl)⟩
      · exact .inr ⟨i, j, rfl, divp_ok h.1 (by have := big_bits h2; omega), fun l hl => p M _ _ (.laid so hl) (so.laid hl) (rep_tup so (.ints [i / j, i % j]) hl)⟩
      · exact .inr ⟨i, j, rfl, divp_ok2 h.1 h2, fun l hl => p M _ _ (.laid so hl) (so.laid hl) (rep_tup so (.ints [i / j, i % j]) hl)⟩
    · exact p.elim
  · exact p.elim
end
end G
namespace G
open PySem PySem.Spec PyProof.Rows L2
def ixD : F2 := fun a b st => match b with
  | .int i => (match a with
    | .str x => if x.length ≤ 16777216 then (match atI x.cps.toList i with
        | some c => .ok (.str ⟨#[c]⟩) st
        | none => .fail) else .fail
    | a => match (seqOf a st).bind fun xs => atI xs i with
      | some d => .ok d st
      | none => .fail)
  | _ => .fail
def cutD (xs : List D) (lo hi : Option Int) : List D := (xs.drop (HT.sIx xs.length 0 lo)).take (HT.sIx xs.length xs.length hi - HT.sIx xs.length 0 lo)
def sliceD (a : D) (lo hi : Option Int) (st : Sto) : R D := match a with
  | .tup xs => .ok (.tup (cutD xs lo hi)) st
  | .str x => if x.length ≤ 16777216 then .ok (.str (cutS x lo hi)) st else .fail
  | a => match seqOf a st with
    | some xs => .ok (.lst (cutD xs lo hi)) st
    | none => .fail
abbrev EvO := Env → Sto → R (Option Int)
def noO : EvO := fun _ st => .ok none st
def someO (fa : EvE) : EvO := fun env st => (fa env st).bind fun a st1 => match a with
  | .int i => .ok (some i) st1
  | _ => .fail
def sliceE (fa : EvE) (lo hi : EvO) : EvE := fun env st => (fa env st).bind fun a st1 => (lo env st1).bind fun l st2 => (hi env st2).bind fun h st3 => sliceD a l h st3
section
variable {K : PySem.W.Frag}
theorem RepL.atI {M : Mem} {H : Hp} {ds : List D} {vs : List V} {i : Int} {d : D} (r : RepL K M H ds vs) (h : L2.atI ds i = some d) : ∃ v, L2.atI vs i = some v ∧ Rep K M H d v := by
  unfold L2.atI at h ⊢
  rw [r.length] at h
  obtain ⟨j, h1, h2⟩ := Option.bind_eq_some_iff.mp h
  obtain ⟨v, h3, h4⟩ := r.get h2
  exact ⟨v, by rw [h1]; exact h3, h4⟩
theorem RepL.cut {M : Mem} {H : Hp} {ds : List D} {vs : List V} (r : RepL K M H ds vs) (lo hi : Option Int) : RepL K M H (cutD ds lo hi) (cutV vs lo hi) := by
  unfold cutD cutV
  rw [r.length]
  exact (r.drop _).take _
theorem v_ix : OpV K (rIx K) ixD := by
  intro a b x y M H st Q E ra rb so p
  unfold ixD at p
  split at p
  · rename_i i
    rw [rep_int_iff] at rb; subst rb
    split at p
    · unfold Rep at ra; subst ra
      split at p
      · rename_i hz
        split at p
        · rename_i c hc
          exact .inr (.inr ⟨_, i, c, rfl, rfl, size_le hz, hc, p M H _ .refl so (rep_str _ _ _)⟩)
        · exact p.elim
      · exact p.elim
    · split at p
      · rename_i d hd
        obtain ⟨xs, h1, h2⟩ := Option.bind_eq_some_iff.mp hd
        obtain ⟨t, vs, rfl, q, s⟩ := seqOf_rep so h1 ra
        obtain ⟨v, h3, h4⟩ := q.atI h2
        rcases s with s | s
        · exact .inr (.inl ⟨t, vs, i, v, rfl, rfl, s, h3, p M H _ .refl so h4⟩)
        · exact .inl ⟨t, vs, i, v, rfl, rfl, s, h3, p M H _ .refl so h4⟩
      · exact p.elim
  · exact p.elim
def rSl (K : PySem.W.Frag) : V → Option Int → Option Int → Hp → VK → Prop := fun x lo hi H Q => rSlL K x lo hi H Q ∨ (rSlA K x lo hi H Q ∨ rSlS x lo hi H Q)
theorem o_sl {X : Cx} : SlR X (rSl X.K) := SlR.or sl_list (SlR.or sl_tupA sl_str)
theorem v_sl {a : D} {lo hi : Option Int} {x : V} {M : Mem} {H : Hp} {st : Sto} {Q : VK} {E : XK} (ra : Rep K M H a x) (so : StOk K M H st) (p : Post K (Rep K) M H Q E (sliceD a lo hi st)) : rSl K x lo hi H Q := by
  unfold sliceD at p
  split at p
  · rename_i xs
    have ra' := ra
    unfold Rep at ra
    obtain ⟨t, vs, rfl, f, q⟩ := ra
    refine .inr (.inl ⟨t, vs, rfl, f.sq, fun hw => ?_, fun _ l hl => p M _ _ (.laid so hl) (so.laid hl) (rep_tup so (q.cut lo hi) hl)⟩)
    have e : cutD xs lo hi = xs := by
      unfold cutD
      rw [q.length, hw.1, hw.2, List.drop_zero, Nat.sub_zero, ← q.length, List.take_length]
    rw [e] at p
    exact p M H _ .refl so ra'
  · split at p
    · rename_i hz
      unfold Rep at ra; subst ra
      exact .inr (.inr ⟨_, rfl, size_le hz, p M H _ .refl so (rep_str _ _ _)⟩)
    · exact p.elim
  · rename_i hn1 hn2
    split at p
    · rename_i xs h
      obtain ⟨t, vs, rfl, q, s⟩ := seqOf_list so h (fun ys e => hn1 ys e) ra
      exact .inl ⟨t, vs, rfl, s, fun l hl => p M _ _ (.laid so hl) (so.laid hl) (rep_lst so (q.cut lo hi) hl)⟩
    · exact p.elim
end
abbrev rdO (K : PySem.W.Frag) (W : WX) (f : EvO) : TO := rd K (fun _ _ a b => a = b) W f
section
variable {X : Cx} {W : WX} {a b : Expr} {fa fb : EvE} {pos p2 : Pos} {lo hi : Option Expr} {fl fh : EvO}
theorem _root_.L2.PO.imp {e : Option Expr} {t t' : TO} (h : PO X e t) (i : ∀ σ H Q, t' σ H Q → t σ H Q) : PO X e t' := ⟨fun pins s σ H Q I q => h.run pins s σ H Q I (i σ H Q q)⟩
theorem g_no : PO X none (rdO X.K W noO) := po_none.imp fun σ H Q ⟨env, M, st, eo, so, p⟩ => p M H none .refl so rfl
theorem g_some (h : PE X a (rdE X.K W fa)) : PO X (some a) (rdO X.K W (someO fa)) := (po_some h).imp fun σ H Q ⟨env, M, st, eo, so, p⟩ => ⟨env, M, st, eo, so, Post.imp (Post.bind p) fun x H1 ⟨M1, st1, a, g, so1, ra, p1⟩ => by
  cases a with
  | int i =>
    rw [rep_int_iff] at ra; subst ra
    exact ⟨i, rfl, p1 M1 H1 _ .refl so1 rfl⟩
  | _ => exact p1.elim⟩
theorem g_ix (ha : PE X a (rdE X.K W fa)) (hb : PE X b (rdE X.K W fb)) (hs : PlainIx b) : PE X (.Subscript a b pos) (rdE X.K W (binE ixD fa fb)) :=
  (pe_ix ix_seq ha hb hs).imp (rd_bin v_ix)
theorem g_slice (ha : PE X a (rdE X.K W fa)) (hl : PO X lo (rdO X.K W fl)) (hh : PO X hi (rdO X.K W fh)) : PE X (.Subscript a (.Slice lo hi none p2) pos) (rdE X.K W (sliceE fa fl fh)) :=
  (pe_slice o_sl ha hl hh).imp fun σ H Q ⟨env, M, st, eo, so, p⟩ => ⟨env, M, st, eo, so, Post.imp (Post.bind p) fun x H1 ⟨M1, st1, a, g, so1, ra, p1⟩ =>
    ⟨env, M1, st1, eo.grow g, so1, Post.imp (Post.bind (rep := fun _ _ a b => a = b) p1) fun l H2 ⟨M2, st2, l', g2, so2, rl, p2⟩ => by
      subst rl
      exact ⟨env, M2, st2, (eo.grow g).grow g2, so2, Post.imp (Post.bind (rep := fun _ _ a b => a = b) p2) fun h H3 ⟨M3, st3, h', g3, so3, rh, p3⟩ => by
        subst rh
        exact v_sl (ra.grow (g2.trans g3)) so3 p3⟩⟩⟩
end
inductive Tag where
  | non | bl | int | str | tup | lst | dic
def tyName : Tag → String
  | .non => "NoneType" | .bl => "bool" | .int => "int" | .str => "str" | .tup => "tuple" | .lst => "list" | .dic => "dict"
def isiB : Tag → Tag → Bool
  | .non, .non => true | .bl, .bl => true | .int, .int => true | .str, .str => true | .tup, .tup => true | .lst, .lst => true | .dic, .dic => true
  | .bl, .int => true
  | _, _ => false
def tagOf (a : D) (st : Sto) : Option Tag := match a with
  | .non => some .non | .bl _ => some .bl | .int _ => some .int | .str _ => some .str | .tup _ => some .tup | .lst _ => some .lst | .slo _ => some .lst
  | .mut n => (match st[n]? with
    | some (.lst _) => some .lst
    | _ => none)
  | .raw _ => none
  | .fn _ => none
  | .exv .. => none
  | .rg .. => none
  | .dic => some .dic
  | .emp => some .dic
def isiD (c : Tag) : F1 := fun a st => match tagOf a st with
  | some t => .ok (.bl (isiB t c)) st
  | none => .fail
theorem kit_tag : ∀ t c, kitB (tyName t) (tyName c) = some (isiB t c) := by
  intro t c
  cases t <;> cases c <;> decide +kernel
theorem tagOf_rep {K : PySem.W.Frag} {M : Mem} {H : Hp} {a : D} {st : Sto} {t : Tag} {x : V} (so : StOk K M H st) (h : tagOf a st = some t) (r : Rep K M H a x) : TyX K H x (.type (tyName t)) := by
  unfold tagOf at h
  split at h
  · cases h; unfold Rep at r; subst r; exact .base .non
  · cases h; unfold Rep at r; subst r; exact .base (.bl _)
  · cases h; unfold Rep at r; subst r; exact .base (.int _)
  · cases h; unfold Rep at r; subst r; exact .base (.str _)
  · cases h; unfold Rep at r; obtain ⟨p, vs, rfl, f, q⟩ := r
    exact .base (.tup f.1)
  · cases h; unfold Rep at r; obtain ⟨p, vs, rfl, f, q⟩ := r
    exact .base (.lst f.1)
  · cases h; unfold Rep at r; obtain ⟨p, vs, rfl, f, q⟩ := r
    rcases f with ⟨f | ⟨o, f⟩, _⟩ | ⟨o, its, n, f1, f2, _⟩
    · exact .base (.lst f)
    · exact .base (.frz f)
    · exact .kList f1 f2
  · split at h
    · rename_i e
      cases h; unfold Rep at r; obtain ⟨p, rfl, m⟩ := r
      obtain ⟨vs, hv, _⟩ := so.at_ _ p _ m e
      exact .base (.lst hv)
    · cases h
  · cases h
  · cases h
  · cases h
  · cases h
  · cases h; unfold Rep at r; obtain ⟨p, kvs, rfl, f, n⟩ := r
    exact .base (.dK f)
  · cases h; unfold Rep at r; obtain ⟨p, rfl, f, n⟩ := r
    exact .base (.dK f)
section
variable {X : Cx} {W : WX} {a : Expr} {fa : EvE} {p q pos : Pos}
theorem g_isi (c : Tag) {nm : Str} (ha : PE X a (rdE X.K W fa)) (h0 : ∀ {te : TE}, PE X a te → PE X (.Call (.Name "isinstance" p) [a, .Name nm q] [] pos) (tCB (rIsi X.K) (tCons te (tCons (tC (.ty (tyName c))) tNil)))) :
    PE X (.Call (.Name "isinstance" p) [a, .Name nm q] [] pos) (rdE X.K W (unE (isiD c) fa)) :=
  (h0 ha).imp fun σ H Q ⟨env, M, st, eo, so, p⟩ => ⟨env, M, st, eo, so, Post.imp (Post.bind p) fun x H1 ⟨M1, st1, a, g, so1, ra, p1⟩ => by
    unfold isiD at p1
    split at p1
    · rename_i t h
      exact ⟨x, .ty (tyName c), .type (tyName t), .type (tyName c), isiB t c, rfl, .ty _, tagOf_rep so1 h ra, kit_ty (kit_tag t c), p1 M1 H1 _ .refl so1 (rep_bl _ _ _)⟩
    · exact p1.elim⟩
end
inductive S where
  | nx (env : Env) (st : Sto) | ret (d : D) (st : Sto) | brk (env : Env) (st : Sto) | cont (env : Env) (st : Sto) | exc (e : Ex) (env : Env) (st : Sto) | fail
abbrev SvS := Env → Sto → S
def PostS (K : PySem.W.Frag) (M : Mem) (H : Hp) (T : Ends) (W : WX) : S → Prop
  | .nx env st => ∀ M' H' σ', Grow M H M' H' → StOk K M' H' st → EnvOk K M' H' env σ' → T.nx σ' H'
  | .ret d st => ∀ M' H' v, Grow M H M' H' → StOk K M' H' st → Rep K M' H' d v → T.rt v H'
  | .brk env st => ∀ M' H' σ', Grow M H M' H' → StOk K M' H' st → EnvOk K M' H' env σ' → T.bk σ' H'
  | .cont env st => ∀ M' H' σ', Grow M H M' H' → StOk K M' H' st → EnvOk K M' H' env σ' → T.ct σ' H'
  | .exc e env st => ∀ M' H' σ' c od, Grow M H M' H' → StOk K M' H' st → EnvOk K M' H' env σ' → RepX K M' H' e c od → W c od σ' H'
  | .fail => False
theorem PostS.mono {K : PySem.W.Frag} {M M1 : Mem} {H H1 : Hp} {T : Ends} {W : WX} {s : S} (g : Grow M H M1 H1) (p : PostS K M H T W s) : PostS K M1 H1 T W s := by
  cases s with
  | nx env st => exact fun M' H' σ' g' => p M' H' σ' (g.trans g')
  | ret d st => exact fun M' H' v g' => p M' H' v (g.trans g')
  | brk env st => exact fun M' H' σ' g' => p M' H' σ' (g.trans g')
  | cont env st => exact fun M' H' σ' g' => p M' H' σ' (g.trans g')
  | exc e env st => exact fun M' H' σ' c od g' => p M' H' σ' c od (g.trans g')
  | fail => exact p
def rdS (K : PySem.W.Frag) (W : WX) (f : SvS) : TS := fun T σ H => ∃ env M st, EnvOk K M H env σ ∧ StOk K M H st ∧ PostS K M H T W (f env st)
def bindS {α : Type} (r : R α) (env : Env) (k : α → Sto → S) : S := match r with
  | .ok a st => k a st
  | .exc e st => .exc e env st
  | .fail => .fail
@[simp] theorem bindS_ok {α : Type} (a : α) (st : Sto) (env : Env) (k : α → Sto → S) : bindS (.ok a st) env k = k a st := rfl
theorem PostS.bind {α β : Type} {K : PySem.W.Frag} {rep : RR α β} {M : Mem} {H : Hp} {T : Ends} {W : WX} {r : R α} {env : Env} {k : α → Sto → S} {σ : L2.St} (eo : EnvOk K M H env σ) (p : PostS K M H T W (bindS r env k)) :
    Post K rep M H (fun b H1 => ∃ M1 st1 a, Grow M H M1 H1 ∧ StOk K M1 H1 st1 ∧ rep M1 H1 a b ∧ PostS K M1 H1 T W (k a st1)) (WE W σ) r := by
  cases r with
  | ok a st => exact fun M' H' b g so h => ⟨M', st, a, g, so, h, PostS.mono g p⟩
  | exc e st => exact fun M' H' c od g so h => p M' H' σ c od g so (eo.grow g) h
  | fail => exact p
def passS : SvS := fun env st => .nx env st
def retS (fa : EvE) : SvS := fun env st => bindS (fa env st) env fun d st1 => .ret d st1
def exprS (fa : EvE) : SvS := fun env st => bindS (fa env st) env fun _ st1 => .nx env st1
def ifS (t : EvB) (f g : SvS) : SvS := fun env st => bindS (t env st) env fun b st1 => if b = true then f env st1 else g env st1
def seqS (f g : SvS) : SvS := fun env st => match f env st with
  | .nx env1 st1 => g env1 st1
  | s => s
section
variable {X : Cx} {W : WX} {s : Stmt} {rest : List Stmt} {a : Expr} {fa : EvE} {t : EvB} {f g : SvS} {pos : Pos}
theorem s_nil : PSs X [] (rdS X.K W passS) := pss_nil.imp fun T σ H ⟨env, M, st, eo, so, p⟩ => p M H σ .refl so eo
theorem s_cons (h1 : PS X s (rdS X.K W f)) (h2 : PSs X rest (rdS X.K W g)) : PSs X (s :: rest) (rdS X.K W (seqS f g)) :=
  (pss_cons h1 h2).imp fun T σ H ⟨env, M, st, eo, so, p⟩ => ⟨env, M, st, eo, so, by
    unfold seqS at p
    cases e : f env st with
    | nx env1 st1 =>
      rw [e] at p
      exact fun M' H' σ' gr so' eo' => ⟨env1, M', st1, eo', so', PostS.mono gr p⟩
    | ret d st1 => rw [e] at p; exact p
    | brk env1 st1 => rw [e] at p; exact p
    | cont env1 st1 => rw [e] at p; exact p
    | exc x env1 st1 => rw [e] at p; exact p
    | fail => rw [e] at p; exact p⟩
theorem s_one (h1 : PS X s (rdS X.K W f)) : PSs X [s] (rdS X.K W f) := pss_one h1
theorem s_ret (h : PE X a (rdE X.K W fa)) : PS X (.Return (some a) pos) (rdS X.K W (retS fa)) :=
  (ps_ret h).imp fun T σ H ⟨env, M, st, eo, so, p⟩ => ⟨env, M, st, eo, so, Post.imp (PostS.bind eo p) fun x H1 ⟨M1, st1, d, g, so1, ra, p1⟩ => p1 M1 H1 x .refl so1 ra⟩
theorem s_expr (h : PE X a (rdE X.K W fa)) (hs : swapsWith a none pos.line X.env = pure false) : PS X (.Expr a pos) (rdS X.K W (exprS fa)) :=
  (ps_expr h hs).imp fun T σ H ⟨env, M, st, eo, so, p⟩ => ⟨env, M, st, eo, so, Post.imp (PostS.bind eo p) fun x H1 ⟨M1, st1, d, g, so1, ra, p1⟩ => p1 M1 H1 σ .refl so1 (eo.grow g)⟩
theorem s_if {c : Expr} {A B : List Stmt} (hc : PT X c (rdB X.K W t)) (ha : PSs X A (rdS X.K W f)) (hb : PSs X B (rdS X.K W g)) : PS X (.If c A B pos) (rdS X.K W (ifS t f g)) :=
  (ps_if hc ha hb).imp fun T σ H ⟨env, M, st, eo, so, p⟩ => ⟨env, M, st, eo, so, Post.imp (PostS.bind (rep := fun _ _ a b => a = b) eo p) fun x H1 ⟨M1, st1, d, gr, so1, ra, p1⟩ => by
    subst ra
    cases d with
    | true => exact ⟨env, M1, st1, eo.grow gr, so1, p1⟩
    | false => exact ⟨env, M1, st1, eo.grow gr, so1, p1⟩⟩
end
abbrev TgF := D → Env → Sto → R Env
def rdG (K : PySem.W.Frag) (W : WX) (f : TgF) : TG := fun v σ H Q => ∃ d env M st, Rep K M H d v ∧ EnvOk K M H env σ ∧ StOk K M H st ∧ Post K (EnvOk K) M H Q (WE W σ) (f d env st)
def rdGs (K : PySem.W.Frag) (W : WX) (f : List D → Env → Sto → R Env) : TGs := fun vs σ H Q => ∃ ds env M st, RepL K M H ds vs ∧ EnvOk K M H env σ ∧ StOk K M H st ∧ Post K (EnvOk K) M H Q (WE W σ) (f ds env st)
def nameT (i : Nat) : TgF := fun d env st => .ok (env.set i (some d)) st
def nilT : List D → Env → Sto → R Env := fun ds env st => match ds with
  | [] => .ok env st
  | _ => .fail
def consT (f : TgF) (fs : List D → Env → Sto → R Env) : List D → Env → Sto → R Env := fun ds env st => match ds with
  | d :: r => (match f d env st with
    | .ok env1 st1 => (match fs r env1 st1 with
      | .ok env2 st2 => .ok env2 st2
      | _ => .fail)
    | _ => .fail)
  | [] => .fail
def tupT (n : Nat) (fs : List D → Env → Sto → R Env) : TgF := fun d env st => match d with
  | .tup xs => if xs.length = n then fs xs env st else .fail
  | _ => .fail
def setD (o i d : D) (st : Sto) : Option Sto := match o, i with
  | .mut n, .int k => (match st[n]? with
    | some (.lst xs) => (ixN xs.length k).map fun j => st.set n (.lst (xs.set j d))
    | _ => none)
  | _, _ => none
def subT (fo fi : EvE) : TgF := fun d env st => (fo env st).bind fun o st1 => (fi env st1).bind fun i st2 => match setD o i d st2 with
  | some st3 => .ok env st3
  | none => .fail
def asgS (fa : EvE) (g : TgF) : SvS := fun env st => bindS (fa env st) env fun d st1 => bindS (g d env st1) env fun env1 st2 => .nx env1 st2
section
variable {X : Cx} {W : WX} {tg a b : Expr} {es : List Expr} {fa fb : EvE} {f : TgF} {fs : List D → Env → Sto → R Env} {pos : Pos}
theorem _root_.L2.PG.imp {t t' : TG} (h : PG X tg t) (i : ∀ v σ H Q, t' v σ H Q → t v σ H Q) : PG X tg t' := ⟨fun pins s σ H v u Q I r q => h.run pins s σ H v u Q I r (i v σ H Q q)⟩
theorem _root_.L2.PGs.imp {t t' : TGs} (h : PGs X es t) (i : ∀ v σ H Q, t' v σ H Q → t v σ H Q) : PGs X es t' := ⟨fun pins s σ H v u Q I r q => h.run pins s σ H v u Q I r (i v σ H Q q)⟩
theorem t_name {i : Nat} (h : PG X tg (gName i)) : PG X tg (rdG X.K W (nameT i)) := h.imp fun v σ H Q ⟨d, env, M, st, r, eo, so, p⟩ => p M H _ .refl so (eo.set i r)
theorem t_nil : PGs X [] (rdGs X.K W nilT) := pgs_nil.imp fun v σ H Q ⟨ds, env, M, st, r, eo, so, p⟩ => by
  cases ds with
  | nil => unfold RepL at r; exact ⟨r, p M H _ .refl so eo⟩
  | cons d ds => exact p.elim
theorem t_cons (h1 : PG X tg (rdG X.K W f)) (h2 : PGs X es (rdGs X.K W fs)) (hs : (assignEach (tg :: es) X.env).map (·.2) = assign tg X.env :: (assignEach es X.env).map (·.2)) : PGs X (tg :: es) (rdGs X.K W (consT f fs)) := (pgs_cons h1 h2 hs).imp fun v σ H Q ⟨ds, env, M, st, r, eo, so, p⟩ => by
  cases ds with
  | nil => exact p.elim
  | cons d ds =>
    unfold RepL at r
    obtain ⟨x, rr, rfl, r1, r2⟩ := r
    unfold consT at p
    cases e : f d env st with
    | exc x s => simp only [e] at p; exact p.elim
    | fail => simp only [e] at p; exact p.elim
    | ok env1 st1 =>
      simp only [e] at p
      refine ⟨x, rr, rfl, d, env, M, st, r1, eo, so, ?_⟩
      rw [e]
      intro M' H' σ' g so' eo'
      refine ⟨ds, env1, M', st1, r2.grow g, eo', so', ?_⟩
      cases e2 : fs ds env1 st1 with
      | exc x s => simp only [e2] at p; exact p.elim
      | fail => simp only [e2] at p; exact p.elim
      | ok env2 st2 =>
        simp only [e2] at p
        exact fun M2 H2 σ2 g2 so2 eo2 => p M2 H2 σ2 (g.trans g2) so2 eo2
theorem t_tup {n : Nat} {k : Nat} (h : PG X (.Tuple es k pos) (gTup X.K n (rdGs X.K W fs))) : PG X (.Tuple es k pos) (rdG X.K W (tupT n fs)) := h.imp fun v σ H Q ⟨d, env, M, st, r, eo, so, p⟩ => by
  unfold tupT at p
  split at p
  · rename_i xs
    split at p
    · rename_i hl
      unfold Rep at r
      obtain ⟨t, vs, rfl, fz, q⟩ := r
      exact ⟨t, vs, rfl, fz.sq, by rw [← q.length]; exact hl, xs, env, M, st, q, eo, so, p⟩
    · exact p.elim
  · exact p.elim
theorem setD_rep {K : PySem.W.Frag} {M : Mem} {H : Hp} {o i d : D} {st st' : Sto} {x y v : V} {Q : Hp → Prop} (so : StOk K M H st) (h : setD o i d st = some st') (r1 : Rep K M H o x) (r2 : Rep K M H i y) (r3 : Rep K M H d v)
    (q : ∀ H', Grow M H M H' → StOk K M H' st' → Q H') : rSetL x y v H Q := by
  unfold setD at h
  split at h
  · rename_i n k
    split at h
    · rename_i xs e
      obtain ⟨j, hj, rfl⟩ := Option.map_eq_some_iff.mp h
      unfold Rep at r1 r2
      obtain ⟨p, rfl, m⟩ := r1
      subst r2
      obtain ⟨vs, hv, rl⟩ := so.at_ n p _ m e
      rw [rl.length] at hj
      exact ⟨p, vs, k, j, rfl, rfl, hv, hj, q _ (.put so m) (so.putL m (rl.set r3 j))⟩
    · cases h
  · cases h
theorem t_sub (ha : PE X a (rdE X.K W fa)) (hb : PE X b (rdE X.K W fb)) (h0 : PG X (.Subscript a b pos) (gSub (rdE X.K W fa) (rdE X.K W fb) rSetL)) : PG X (.Subscript a b pos) (rdG X.K W (subT fa fb)) :=
  h0.imp fun v σ H Q ⟨d, env, M, st, r, eo, so, p⟩ => ⟨env, M, st, eo, so, Post.imp (Post.bind p) fun x H1 ⟨M1, st1, o, g, so1, ro, p1⟩ =>
    ⟨env, M1, st1, eo.grow g, so1, Post.imp (Post.bind (rep := Rep X.K) p1) fun y H2 ⟨M2, st2, i, g2, so2, ri, p2⟩ => by
      split at p2
      · rename_i st3 h
        exact setD_rep so2 h (ro.grow g2) ri (r.grow (g.trans g2)) fun H' g3 so3 => p2 M2 H' σ g3 so3 ((eo.grow (g.trans g2)).grow g3)
      · exact p2.elim⟩⟩
theorem s_asg {sp : Pos} (h0 : PS X (.Assign [tg] a sp) (tAsg (rdE X.K W fa) (rdG X.K W f))) : PS X (.Assign [tg] a sp) (rdS X.K W (asgS fa f)) :=
  h0.imp fun T σ H ⟨env, M, st, eo, so, p⟩ => ⟨env, M, st, eo, so, Post.imp (PostS.bind eo p) fun x H1 ⟨M1, st1, d, g, so1, ra, p1⟩ =>
    ⟨d, env, M1, st1, ra, eo.grow g, so1, Post.imp (PostS.bind (rep := EnvOk X.K) (eo.grow g) p1) fun σ2 H2 ⟨M2, st2, env2, g2, so2, eo2, p2⟩ => p2 M2 H2 σ2 .refl so2 eo2⟩⟩
end
end G
namespace G
open PySem PySem.Spec PyProof.Rows L2
inductive ItD where
  | frz (xs : List D)
  | gen (nxt : Nat → Sto → Option (Option D)) (most : Nat)
abbrev EvI := Env → Sto → R ItD
def ItRep (K : PySem.W.Frag) : RR ItD It := fun M H it J => match it with
  | .frz xs => ∀ i M' H' st', Keep M H M' H' → StOk K M' H' st' → (i = xs.length → J.stop i H') ∧ ∀ d, xs[i]? = some d → J.go i H' ∧ ∀ x H'', J.yld i H' x H'' → Grow M' H' M' H'' ∧ StOk K M' H'' st' ∧ Rep K M' H'' d x
  | .gen nxt _ => ∀ i M' H' st', Keep M H M' H' → StOk K M' H' st' → (nxt i st' = some none → J.stop i H') ∧ ∀ d, nxt i st' = some (some d) → J.go i H' ∧ ∀ x H'', J.yld i H' x H'' → Grow M' H' M' H'' ∧ StOk K M' H'' st' ∧ Rep K M' H'' d x
abbrev rdI (K : PySem.W.Frag) (W : WX) (f : EvI) : TI := rd K (ItRep K) W f
def mutNxt (n : Nat) : Nat → Sto → Option (Option D) := fun i st => match st[n]? with
  | some (.lst ys) => some ys[i]?
  | _ => none
def iterD (d : D) (st : Sto) : R ItD := match d with
  | .mut n => (match st[n]? with
    | some (.lst ys) => .ok (.gen (mutNxt n) ys.length) st
    | _ => .fail)
  | d => (match itemsOf d with
    | some xs => .ok (.frz xs) st
    | none => .fail)
def iterE (fa : EvE) : EvI := fun env st => (fa env st).bind iterD
section
variable {K : PySem.W.Frag} {M M' : Mem} {H H' : Hp}
theorem itt_rep {a : Addr} {xs : List D} {vs : List V} (f : FzT K M H a vs) (q : RepL K M H xs vs) : ItRep K M H (.frz xs) (Itt K a) := fun i M' H' st' g so => by
  have f' := (g.fzT f).sq
  have q' := q.kp g
  refine ⟨fun e => ⟨vs, f', by rw [← q.length]; omega⟩, fun d hd => ?_⟩
  obtain ⟨v, hv, r⟩ := q'.get hd
  refine ⟨⟨vs, v, f', hv⟩, fun x H'' ⟨e, hx⟩ => ?_⟩
  subst e
  have := hx vs f'
  rw [hv] at this; cases this
  exact ⟨.refl, so, r⟩
theorem itl_rep {a : Addr} {xs : List D} {vs : List V} (f : ∀ M' H', Keep M H M' H' → SqL K H' a vs) (q : RepL K M H xs vs) : ItRep K M H (.frz xs) (Itl K a) := fun i M' H' st' g so => by
  have f' := f _ _ g
  have q' := q.kp g
  refine ⟨fun e => ⟨vs, f', by rw [← q.length]; omega⟩, fun d hd => ?_⟩
  obtain ⟨v, hv, r⟩ := q'.get hd
  refine ⟨⟨vs, v, f', hv⟩, fun x H'' ⟨e, hx⟩ => ?_⟩
  subst e
  have := hx vs f'
  rw [hv] at this; cases this
  exact ⟨.refl, so, r⟩
theorem itm_rep {a : Addr} {n k : Nat} (m : M.m[n]? = some a) : ItRep K M H (.gen (mutNxt n) k) (Itl K a) := fun i M' H' st' g so => by
  have m' := g.pre n a m
  unfold mutNxt
  cases e : st'[n]? with
  | none => exact ⟨(by simp), fun d h => by simp at h⟩
  | some mo =>
    cases mo with
    | dk _ => exact ⟨(by simp), fun d h => by simp at h⟩
    | dt _ => exact ⟨(by simp), fun d h => by simp at h⟩
    | fk _ => exact ⟨(by simp), fun d h => by simp at h⟩
    | dd _ => exact ⟨(by simp), fun d h => by simp at h⟩
    | de _ => exact ⟨(by simp), fun d h => by simp at h⟩
    | fd _ => exact ⟨(by simp), fun d h => by simp at h⟩
    | fe _ => exact ⟨(by simp), fun d h => by simp at h⟩
    | lst ys =>
      obtain ⟨vs, hv, q⟩ := so.at_ n a _ m' e
      refine ⟨fun h => ⟨vs, .of hv, ?_⟩, fun d h => ?_⟩
      · have h : ys[i]? = none := by simpa using h
        rw [← q.length]; exact List.getElem?_eq_none_iff.mp h
      · have h : ys[i]? = some d := by simpa using h
        obtain ⟨v, h1, r⟩ := q.get h
        refine ⟨⟨vs, v, .of hv, h1⟩, fun x H'' ⟨e, hx⟩ => ?_⟩
        subst e
        have := hx vs (.of hv)
        rw [h1] at this; cases this
        exact ⟨.refl, so, r⟩
theorem itr_rep {lo : Int} {n : Nat} : ItRep K M H (.frz ((List.range n).map fun k => .int (lo + (k : Nat)))) (Itr lo n) := fun i M' H' st' g so => by
  refine ⟨fun e => ?_, fun d hd => ?_⟩
  · have : i = n := by simpa using e
    exact Nat.le_of_eq this.symm
  · rw [List.getElem?_map] at hd
    obtain ⟨k, hk, rfl⟩ := Option.map_eq_some_iff.mp hd
    obtain ⟨hk1, hk2⟩ := List.getElem?_eq_some_iff.mp hk
    have hn : i < n := by simpa using hk1
    simp at hk2
    subst hk2
    refine ⟨hn, fun x H'' ⟨e1, e2⟩ => ?_⟩
    subst e1 e2
    exact ⟨.refl, so, rep_int _ _ _⟩
end
section
variable {X : Cx} {W : WX} {tg l : Expr} {fa : EvE}
theorem g_iter (hl : PE X l (rdE X.K W fa)) : PI X tg l (rdI X.K W (iterE fa)) := ⟨fun pins s σ H R' I ⟨env, M, st, eo, so, p⟩ => by
  unfold iterE at p
  have useL : (∀ d st1, fa env st = .ok d st1 → ∀ M' H' v, Grow M H M' H' → StOk X.K M' H' st1 → Rep X.K M' H' d v → ∃ a, v = .ref a ∧ (∃ xs, SqL X.K H' a xs) ∧ R' (Itl X.K a) H') → (∀ st1, fa env st ≠ .fail) →
      (∀ e st1, fa env st = .exc e st1 → Post X.K (Rep X.K) M H (fun _ _ => False) (WE W σ) (fa env st)) → wpAny (model X.prog X.w) X.A (eval l X.env) (fun v s1 => wpAny (model X.prog X.w) X.A (pyIter v) (PIE X pins σ tg R') X.xe s1) X.xe s := fun h1 h2 h3 =>
    (pi_list hl).run pins s σ H R' I ⟨env, M, st, eo, so, by
      cases e : fa env st with
      | ok d st1 => exact h1 d st1 e
      | exc x st1 => have := h3 x st1 e; rw [e] at this; exact this
      | fail => exact absurd e (h2 st)⟩
  cases e : fa env st with
  | fail => rw [e] at p; exact p.elim
  | exc x st1 =>
    refine useL (fun d st1 e' => by rw [e] at e'; cases e') (fun st1 e' => by rw [e] at e'; cases e') fun x' st1' e' => ?_
    rw [e] at p ⊢
    exact p
  | ok d st1 =>
    rw [e] at p
    have p : Post X.K (ItRep X.K) M H R' (WE W σ) (iterD d st1) := p
    unfold iterD at p
    have fin : (∀ M' H' v, Grow M H M' H' → StOk X.K M' H' st1 → Rep X.K M' H' d v → ∃ a, v = .ref a ∧ (∃ xs, SqL X.K H' a xs) ∧ R' (Itl X.K a) H') → wpAny (model X.prog X.w) X.A (eval l X.env) (fun v s1 => wpAny (model X.prog X.w) X.A (pyIter v) (PIE X pins σ tg R') X.xe s1) X.xe s := fun h =>
      useL (fun d' st1' e' => by rw [e] at e'; cases e'; exact h) (fun st1 e' => by rw [e] at e'; cases e') fun x' st1' e' => by rw [e] at e'; cases e'
    cases d with
    | «mut» n =>
      split at p
      · rename_i n' h
        cases h
        split at p
        · rename_i ys e2
          refine fin fun M' H' v g so' r => ?_
          unfold Rep at r
          obtain ⟨a, rfl, m⟩ := r
          obtain ⟨vs, hv, _⟩ := so'.at_ n a _ m e2
          exact ⟨a, rfl, ⟨vs, .of hv⟩, p M' H' _ g so' (itm_rep m)⟩
        · exact p.elim
      · rename_i h
        exact absurd rfl (h n)
    | tup xs =>
      refine (pi_tup hl).run pins s σ H R' I ⟨env, M, st, eo, so, ?_⟩
      rw [e]
      intro M' H' v g so' r
      unfold Rep at r
      obtain ⟨a, vs, rfl, f, q⟩ := r
      exact ⟨a, rfl, ⟨vs, f.sq⟩, p M' H' _ g so' (itt_rep f q)⟩
    | lst xs =>
      refine fin fun M' H' v g so' r => ?_
      unfold Rep at r
      obtain ⟨a, vs, rfl, f, q⟩ := r
      exact ⟨a, rfl, ⟨vs, f.sq⟩, p M' H' _ g so' (itl_rep (fun M2 H2 g2 => .of (g2.keep _ _ f.1 f.2).1) q)⟩
    | slo xs =>
      refine fin fun M' H' v g so' r => ?_
      unfold Rep at r
      obtain ⟨a, vs, rfl, f, q⟩ := r
      exact ⟨a, rfl, ⟨vs, f.sq⟩, p M' H' _ g so' (itl_rep (fun M2 H2 g2 => (g2.fzL f).sq) q)⟩
    | non => exact p.elim
    | bl _ => exact p.elim
    | int _ => exact p.elim
    | str _ => exact p.elim
    | raw _ => exact p.elim
    | fn _ => exact p.elim
    | emp => exact p.elim
    | rg _ _ => exact p.elim
    | exv => exact p.elim
    | dic => exact p.elim⟩
end
def range1F (as : List D) (st : Sto) : R ItD := match as with
  | [.int j] => if j.natAbs < 2 ^ 62 then .ok (.frz ((List.range j.toNat).map fun k => .int (0 + (k : Nat)))) st else .fail
  | _ => .fail
def range2F (as : List D) (st : Sto) : R ItD := match as with
  | [.int i, .int j] => if i.natAbs < 2 ^ 62 ∧ j.natAbs < 2 ^ 62 then .ok (.frz ((List.range (j - i).toNat).map fun k => .int (i + (k : Nat)))) st else .fail
  | _ => .fail
def enumL (xs : List D) : List D := (List.range xs.length).zipWith (fun (i : Nat) x => .tup [.int (i : Nat), x]) xs
def enumNxt (n : Nat) : Nat → Sto → Option (Option D) := fun i st => match st[n]? with
  | some (.lst ys) => some ((ys[i]?).map fun x => .tup [.int (i : Nat), x])
  | _ => none
def enumF (as : List D) (st : Sto) : R ItD := match as with
  | [.mut n] => (match st[n]? with
    | some (.lst ys) => .ok (.gen (enumNxt n) ys.length) st
    | _ => .fail)
  | [d] => (match itemsOf d with
    | some xs => .ok (.frz (enumL xs)) st
    | none => .fail)
  | _ => .fail
def callI (f : List D → Sto → R ItD) (fs : EvA) : EvI := fun env st => (fs env st).bind f
section
variable {K : PySem.W.Frag} {M M' : Mem} {H H' : Hp}
theorem enumL_get {xs : List D} {i : Nat} {d : D} (h : (enumL xs)[i]? = some d) : ∃ x, xs[i]? = some x ∧ d = .tup [.int (i : Nat), x] := by
  unfold enumL at h
  rw [List.getElem?_zipWith] at h
  cases e : xs[i]? with
  | none => rw [e] at h; cases e2 : (List.range xs.length)[i]? <;> rw [e2] at h <;> simp at h
  | some x =>
    have hl := (List.getElem?_eq_some_iff.mp e).1
    rw [e, List.getElem?_range hl] at h
    simp at h
    exact ⟨x, rfl, h.symm⟩
@[simp] theorem enumL_length (xs : List D) : (enumL xs).length = xs.length := by simp [enumL]
theorem pair_new {st : Sto} {x y : D} {u v : V} {T : Addr} (so : StOk K M H st) (rx : Rep K M H x u) (ry : Rep K M H y v) (hT : H T = none) : Grow M H M (upd H T (.tup [u, v])) ∧ StOk K M (upd H T (.tup [u, v])) st ∧ Rep K M (upd H T (.tup [u, v])) (.tup [x, y]) (.ref T) :=
  ⟨.laid so hT, so.laid hT, rep_tup so (.cons rx (.cons ry .nil)) hT⟩
theorem ite_rep {a : Addr} {xs : List D} {vs : List V} (f : ∀ M' H', Keep M H M' H' → SqL K H' a vs) (q : RepL K M H xs vs) : ItRep K M H (.frz (enumL xs)) (Ite K a) := fun i M' H' st' g so => by
  have f' := f _ _ g
  have q' := q.kp g
  refine ⟨fun e => ⟨vs, f', by rw [← q.length]; simp at e; omega⟩, fun d hd => ?_⟩
  obtain ⟨x, hx, rfl⟩ := enumL_get hd
  obtain ⟨v, hv, r⟩ := q'.get hx
  refine ⟨⟨vs, v, f', hv⟩, fun z H'' ⟨T, y, e1, e2, e3, e4⟩ => ?_⟩
  have := e4 vs f'
  rw [hv] at this; cases this
  subst e1 e3
  exact pair_new so (rep_int _ _ _) r e2
theorem item_rep {a : Addr} {n k : Nat} (m : M.m[n]? = some a) : ItRep K M H (.gen (enumNxt n) k) (Ite K a) := fun i M' H' st' g so => by
  have m' := g.pre n a m
  cases e : st'[n]? with
  | none => exact ⟨fun h => by simp [enumNxt, e] at h, fun d h => by simp [enumNxt, e] at h⟩
  | some mo =>
    cases mo with
    | dk _ => exact ⟨fun h => by simp [enumNxt, e] at h, fun d h => by simp [enumNxt, e] at h⟩
    | dt _ => exact ⟨fun h => by simp [enumNxt, e] at h, fun d h => by simp [enumNxt, e] at h⟩
    | fk _ => exact ⟨fun h => by simp [enumNxt, e] at h, fun d h => by simp [enumNxt, e] at h⟩
    | dd _ => exact ⟨fun h => by simp [enumNxt, e] at h, fun d h => by simp [enumNxt, e] at h⟩
    | de _ => exact ⟨fun h => by simp [enumNxt, e] at h, fun d h => by simp [enumNxt, e] at h⟩
    | fd _ => exact ⟨fun h => by simp [enumNxt, e] at h, fun d h => by simp [enumNxt, e] at h⟩
    | fe _ => exact ⟨fun h => by simp [enumNxt, e] at h, fun d h => by simp [enumNxt, e] at h⟩
    | lst ys =>
      obtain ⟨vs, hv, q⟩ := so.at_ n a _ m' e
      refine ⟨fun h => ⟨vs, .of hv, ?_⟩, fun d h => ?_⟩
      · have h : ys[i]? = none := by simpa [enumNxt, e] using h
        rw [← q.length]; exact List.getElem?_eq_none_iff.mp h
      · obtain ⟨y, e2, rfl⟩ : ∃ y, ys[i]? = some y ∧ D.tup [.int (i : Nat), y] = d := by simpa [enumNxt, e] using h
        obtain ⟨v, h1, r⟩ := q.get e2
        refine ⟨⟨vs, v, .of hv, h1⟩, fun x H'' ⟨T, y', e1, e2, e3, e4⟩ => ?_⟩
        have := e4 vs (.of hv)
        rw [h1] at this; cases this
        subst e1 e3
        exact pair_new so (rep_int _ _ _) r e2
end
section
variable {X : Cx} {W : WX} {tg it : Expr} {fs : EvA}
theorem _root_.L2.PI.imp {t t' : TI} (h : PI X tg it t) (i : ∀ σ H R, t' σ H R → t σ H R) : PI X tg it t' := ⟨fun pins s σ H R I q => h.run pins s σ H R I (i σ H R q)⟩
theorem g_range1 (h : PI X tg it (iRng1 (rdA X.K W fs))) : PI X tg it (rdI X.K W (callI range1F fs)) := h.imp fun σ H R' ⟨env, M, st, eo, so, p⟩ => ⟨env, M, st, eo, so, Post.imp (Post.bind p) fun vs H1 ⟨M1, st1, as, g, so1, ra, p1⟩ => by
  unfold range1F at p1
  split at p1
  · split at p1
    · rename_i j hj
      obtain ⟨x, rfl, rx⟩ := ra.one
      rw [rep_int_iff] at rx; subst rx
      exact ⟨j, rfl, by omega, by omega, p1 M1 H1 _ .refl so1 itr_rep⟩
    · exact p1.elim
  · exact p1.elim⟩
theorem g_range2 (h : PI X tg it (iRng2 (rdA X.K W fs))) : PI X tg it (rdI X.K W (callI range2F fs)) := h.imp fun σ H R' ⟨env, M, st, eo, so, p⟩ => ⟨env, M, st, eo, so, Post.imp (Post.bind p) fun vs H1 ⟨M1, st1, as, g, so1, ra, p1⟩ => by
  unfold range2F at p1
  split at p1
  · split at p1
    · rename_i i j hj
      obtain ⟨x, y, rfl, rx, ry⟩ := ra.two
      rw [rep_int_iff] at rx ry; subst rx ry
      exact ⟨i, j, rfl, by omega, p1 M1 H1 _ .refl so1 itr_rep⟩
    · exact p1.elim
  · exact p1.elim⟩
end
def turnS (s : S) (k : Env → Sto → S) : S := match s with
  | .nx e st => k e st
  | .cont e st => k e st
  | .brk e st => .nx e st
  | s => s
def loopF (g : TgF) (body : SvS) : List D → SvS
  | [], env, st => .nx env st
  | x :: xs, env, st => turnS (bindS (g x env st) env body) (loopF g body xs)
def loopG (g : TgF) (body : SvS) (nxt : Nat → Sto → Option (Option D)) : Nat → Nat → SvS
  | 0, i, env, st => match nxt i st with
    | some none => .nx env st
    | _ => .fail
  | k + 1, i, env, st => match nxt i st with
    | some none => .nx env st
    | some (some x) => turnS (bindS (g x env st) env body) (loopG g body nxt k (i + 1))
    | none => .fail
def forS (it : EvI) (g : TgF) (body : SvS) : SvS := fun env st => bindS (it env st) env fun I st1 => match I with
  | .frz xs => loopF g body xs env st1
  | .gen nxt k => loopG g body nxt k 0 env st1
section
variable {X : Cx} {W : WX} {g : TgF} {body : SvS} {K : PySem.W.Frag}
theorem turn_rd {M0 M : Mem} {H0 H : Hp} {T : Ends} {env : Env} {st : Sto} {σ : L2.St} {d : D} {x : V} {k : Env → Sto → S} {N : L2.St → Hp → Prop} (gr : Grow M0 H0 M H) (eo : EnvOk K M H env σ) (so : StOk K M H st) (r : Rep K M H d x)
    (p : PostS K M H T W (turnS (bindS (g d env st) env body) k))
    (hN : ∀ env' M' H' st' σ', Grow M0 H0 M' H' → EnvOk K M' H' env' σ' → StOk K M' H' st' → PostS K M' H' T W (k env' st') → N σ' H') :
    rdG K W g x σ H fun σ2 H2 => rdS K W body { T with nx := N, ct := N, bk := T.nx } σ2 H2 := by
  refine ⟨d, env, M, st, r, eo, so, ?_⟩
  cases e : g d env st with
  | fail => rw [e] at p; exact p.elim
  | exc x st1 => rw [e] at p; exact fun M' H' c od g' so' h => p M' H' σ c od g' so' (eo.grow g') h
  | ok env1 st1 =>
    rw [e] at p
    intro M' H' σ' g' so' eo'
    refine ⟨env1, M', st1, eo', so', ?_⟩
    have p : PostS K M H T W (turnS (body env1 st1) k) := p
    unfold turnS at p
    cases e2 : body env1 st1 with
    | nx env2 st2 => rw [e2] at p; exact fun M2 H2 σ2 g2 so2 eo2 => hN env2 M2 H2 st2 σ2 ((gr.trans g').trans g2) eo2 so2 (PostS.mono (g'.trans g2) p)
    | cont env2 st2 => rw [e2] at p; exact fun M2 H2 σ2 g2 so2 eo2 => hN env2 M2 H2 st2 σ2 ((gr.trans g').trans g2) eo2 so2 (PostS.mono (g'.trans g2) p)
    | brk env2 st2 => rw [e2] at p; exact PostS.mono g' p
    | ret d2 st2 => rw [e2] at p; exact PostS.mono g' p
    | exc c env2 st2 => rw [e2] at p; exact PostS.mono g' p
    | fail => rw [e2] at p; exact p.elim
theorem rd_for {it : EvI} : ∀ T σ H, rdS K W (forS it g body) T σ H → tFor (rdI K W it) (rdG K W g) (rdS K W body) T σ H :=
  fun T σ H ⟨env, M, st, eo, so, p⟩ => ⟨env, M, st, eo, so, Post.imp (PostS.bind eo p) fun J H1 ⟨M1, st1, I, g1, so1, ri, p1⟩ => by
    cases I with
    | frz xs =>
      have p1 : PostS K M1 H1 T W (loopF g body xs env st1) := p1
      refine ⟨fun i m σ' H' => m = xs.length - i ∧ i ≤ xs.length ∧ ∃ env' M' st', Grow M1 H1 M' H' ∧ EnvOk K M' H' env' σ' ∧ StOk K M' H' st' ∧ PostS K M' H' T W (loopF g body (xs.drop i) env' st'),
        ⟨xs.length, by simp, Nat.zero_le _, env, M1, st1, .refl, eo.grow g1, so1, by simpa using p1⟩, ?_⟩
      rintro i m σ' H' ⟨rfl, hi, env', M', st', gr, eo', so', q⟩
      obtain ⟨r1, r2⟩ := ri i M' H' st' gr.k so'
      by_cases hlt : i < xs.length
      · have hd : xs[i]? = some xs[i] := List.getElem?_eq_getElem hlt
        obtain ⟨r3, r4⟩ := r2 _ hd
        refine .inr ⟨r3, _, fun σ2 H2 h => ⟨xs.length - (i + 1), by omega, rfl, hlt, h⟩, fun x H2 hy => ?_⟩
        obtain ⟨g2, so2, rx⟩ := r4 x H2 hy
        rw [List.drop_eq_getElem_cons hlt] at q
        exact turn_rd (gr.trans g2) (eo'.grow g2) so2 rx (PostS.mono g2 q) fun env3 M3 H3 st3 σ3 g3 eo3 so3 p3 => ⟨env3, M3, st3, g3, eo3, so3, p3⟩
      · have e : i = xs.length := by omega
        refine .inl ⟨r1 e, ?_⟩
        rw [e, List.drop_length] at q
        exact q M' H' σ' .refl so' eo'
    | gen nxt k =>
      have p1 : PostS K M1 H1 T W (loopG g body nxt k 0 env st1) := p1
      refine ⟨fun i m σ' H' => ∃ env' M' st', Grow M1 H1 M' H' ∧ EnvOk K M' H' env' σ' ∧ StOk K M' H' st' ∧ PostS K M' H' T W (loopG g body nxt m i env' st'),
        ⟨k, env, M1, st1, .refl, eo.grow g1, so1, p1⟩, ?_⟩
      rintro i m σ' H' ⟨env', M', st', gr, eo', so', q⟩
      obtain ⟨r1, r2⟩ := ri i M' H' st' gr.k so'
      cases m with
      | zero =>
        unfold loopG at q
        cases e : nxt i st' with
        | none => rw [e] at q; exact q.elim
        | some o =>
          cases o with
          | some x => rw [e] at q; exact q.elim
          | none => rw [e] at q; exact .inl ⟨r1 e, q M' H' σ' .refl so' eo'⟩
      | succ m =>
        unfold loopG at q
        cases e : nxt i st' with
        | none => rw [e] at q; exact q.elim
        | some o =>
          cases o with
          | none => rw [e] at q; exact .inl ⟨r1 e, q M' H' σ' .refl so' eo'⟩
          | some d =>
            rw [e] at q
            obtain ⟨r3, r4⟩ := r2 _ e
            refine .inr ⟨r3, _, fun σ2 H2 h => ⟨m, by omega, h⟩, fun x H2 hy => ?_⟩
            obtain ⟨g2, so2, rx⟩ := r4 x H2 hy
            exact turn_rd (gr.trans g2) (eo'.grow g2) so2 rx (PostS.mono g2 q) fun env3 M3 H3 st3 σ3 g3 eo3 so3 p3 => ⟨env3, M3, st3, g3, eo3, so3, p3⟩⟩
theorem s_for {it : EvI} {s : Stmt} (h : PS X s (tFor (rdI X.K W it) (rdG X.K W g) (rdS X.K W body))) : PS X s (rdS X.K W (forS it g body)) := h.imp rd_for
def whileF (t : EvB) (body : SvS) : Nat → SvS
  | 0, _, _ => .fail
  | k + 1, env, st => bindS (t env st) env fun b st1 => if b = true then turnS (body env st1) (whileF t body k) else .nx env st1
end
end G
namespace G
open PySem PySem.Spec PyProof.Rows L2
inductive Tg where
  | nm (i : Nat) | tp (ts : List Tg)
def gTL (K : PySem.W.Frag) (n : Nat) (t : TGs) : TG := fun v σ H Q => ∃ a xs, v = .ref a ∧ (SqT K H a xs ∨ SqL K H a xs) ∧ xs.length = n ∧ t xs σ H Q
theorem pg_tl {X : Cx} {pos : Pos} {es : List Expr} {k : Nat} {t : TGs} {n : Nat} (hc : X.calm = true) (h : PGs X es t)
    (hn : (assignEach es X.env).length = n := by rfl) (hst : (assignEach es X.env).findIdx? (·.1) = none := by rfl) : PG X (.Tuple es k pos) (gTL X.K n t) := by
  refine ⟨fun pins s σ H v u Q I r hw => ?_⟩
  obtain ⟨a, xs, e1, hq, hl, hw⟩ := hw
  rcases hq with hq | hq
  · exact (pg_tup hc h hn hst).run pins s σ H v u Q I r ⟨a, xs, e1, hq, hl, hw⟩
  · exact (pg_lst hc h hn hst).run pins s σ H v u Q I r ⟨a, xs, e1, hq, hl, hw⟩
mutual
def Tg.raw (K : PySem.W.Frag) : Tg → TG
  | .nm i => gName i
  | .tp ts => gTL K ts.length (Tg.raws K ts)
def Tg.raws (K : PySem.W.Frag) : List Tg → TGs
  | [] => gNil
  | t :: ts => gCons (Tg.raw K t) (Tg.raws K ts)
end
mutual
def Tg.set : Tg → D → Env → Option Env
  | .nm i, d, env => some (env.set i (some d))
  | .tp ts, .tup xs, env => Tg.sets ts xs env
  | .tp ts, .lst xs, env => Tg.sets ts xs env
  | .tp _, _, _ => none
def Tg.sets : List Tg → List D → Env → Option Env
  | [], [], env => some env
  | t :: ts, x :: xs, env => (Tg.set t x env).bind (Tg.sets ts xs)
  | _, _, _ => none
end
mutual
def Tg.names : Tg → List Nat
  | .nm i => [i]
  | .tp ts => Tg.namess ts
def Tg.namess : List Tg → List Nat
  | [] => []
  | t :: ts => Tg.names t ++ Tg.namess ts
end
theorem Tg.sets_len : ∀ {ts : List Tg} {xs : List D} {env env' : Env}, Tg.sets ts xs env = some env' → xs.length = ts.length
  | [], [], _, _, _ => rfl
  | t :: ts, x :: xs, env, env', h => by
    unfold Tg.sets at h
    obtain ⟨e1, _, h2⟩ := Option.bind_eq_some_iff.mp h
    simp [Tg.sets_len h2]
  | [], _ :: _, _, _, h => by unfold Tg.sets at h; cases h
  | _ :: _, [], _, _, h => by unfold Tg.sets at h; cases h
theorem wipe_in {σ : L2.St} {i : Nat} : ∀ {vs : List Nat}, i ∈ vs → (L2.wipe σ vs)[i]? = if i < σ.length then some none else none
  | v :: vs, h => by
    unfold L2.wipe
    by_cases e : v = i
    · subst e
      by_cases hv : v < σ.length
      · rw [if_pos hv, List.getElem?_set_self (by rw [wipe_length]; exact hv)]
      · rw [if_neg hv, List.getElem?_eq_none (by rw [List.length_set, wipe_length]; omega)]
    · rw [List.getElem?_set_ne e]
      exact wipe_in ((List.mem_cons.mp h).resolve_left fun z => e z.symm)
theorem wipe_set {σ : L2.St} {i : Nat} {o : Option V} {vs : List Nat} (h : i ∈ vs) : L2.wipe (σ.set i o) vs = L2.wipe σ vs := by
  apply List.ext_getElem?
  intro j
  by_cases hj : j ∈ vs
  · rw [wipe_in hj, wipe_in hj, List.length_set]
  · rw [wipe_out hj, wipe_out hj, List.getElem?_set_ne]
    rintro rfl; exact hj h
theorem wipe_wipe {σ : L2.St} {vs : List Nat} : L2.wipe (L2.wipe σ vs) vs = L2.wipe σ vs := by
  apply List.ext_getElem?
  intro j
  by_cases hj : j ∈ vs
  · rw [wipe_in hj, wipe_in hj, wipe_length]
  · rw [wipe_out hj]
section
variable {K : PySem.W.Frag} {M : Mem} {H : Hp}
mutual
theorem Tg.rd : ∀ {t : Tg} {d : D} {env env' : Env} {v : V} {σ : L2.St} {Q : L2.St → Hp → Prop}, Tg.set t d env = some env' → Rep K M H d v → EnvOk K M H env σ →
    (∀ σ', EnvOk K M H env' σ' → (∀ vs : List Nat, (∀ i ∈ Tg.names t, i ∈ vs) → L2.wipe σ' vs = L2.wipe σ vs) → Q σ' H) → Tg.raw K t v σ H Q
  | .nm i, d, env, env', v, σ, Q, h, r, eo, q => by
    unfold Tg.set at h
    cases h
    exact q _ (eo.set i r) fun vs hv => wipe_set (hv i (by simp [Tg.names]))
  | .tp ts, .tup xs, env, env', v, σ, Q, h, r, eo, q => by
    unfold Tg.set at h
    unfold Rep at r
    obtain ⟨a, vs, rfl, f, rl⟩ := r
    unfold Tg.raw
    exact ⟨a, vs, rfl, .inl f.sq, by rw [← rl.length]; exact Tg.sets_len h, Tg.rds h rl eo fun σ' eo' hw => q σ' eo' fun vs hv => hw vs (by simpa [Tg.names] using hv)⟩
  | .tp ts, .lst xs, env, env', v, σ, Q, h, r, eo, q => by
    unfold Tg.set at h
    unfold Rep at r
    obtain ⟨a, vs, rfl, f, rl⟩ := r
    unfold Tg.raw
    exact ⟨a, vs, rfl, .inr f.sq, by rw [← rl.length]; exact Tg.sets_len h, Tg.rds h rl eo fun σ' eo' hw => q σ' eo' fun vs hv => hw vs (by simpa [Tg.names] using hv)⟩
  | .tp _, .non, _, _, _, _, _, h, _, _, _ => by unfold Tg.set at h; cases h
  | .tp _, .bl _, _, _, _, _, _, h, _, _, _ => by unfold Tg.set at h; cases h
  | .tp _, .int _, _, _, _, _, _, h, _, _, _ => by unfold Tg.set at h; cases h
  | .tp _, .str _, _, _, _, _, _, h, _, _, _ => by unfold Tg.set at h; cases h
  | .tp _, .raw _, _, _, _, _, _, h, _, _, _ => by unfold Tg.set at h; cases h
  | .tp _, .dic, _, _, _, _, _, h, _, _, _ => by unfold Tg.set at h; cases h
  | .tp _, .fn _, _, _, _, _, _, h, _, _, _ => by unfold Tg.set at h; cases h
  | .tp _, .emp, _, _, _, _, _, h, _, _, _ => by unfold Tg.set at h; cases h
  | .tp _, .rg .., _, _, _, _, _, h, _, _, _ => by unfold Tg.set at h; cases h
  | .tp _, .exv .., _, _, _, _, _, h, _, _, _ => by unfold Tg.set at h; cases h
  | .tp _, .slo _, _, _, _, _, _, h, _, _, _ => by unfold Tg.set at h; cases h
  | .tp _, .mut _, _, _, _, _, _, h, _, _, _ => by unfold Tg.set at h; cases h
theorem Tg.rds : ∀ {ts : List Tg} {ds : List D} {env env' : Env} {vs : List V} {σ : L2.St} {Q : L2.St → Hp → Prop}, Tg.sets ts ds env = some env' → RepL K M H ds vs → EnvOk K M H env σ →
    (∀ σ', EnvOk K M H env' σ' → (∀ ws : List Nat, (∀ i ∈ Tg.namess ts, i ∈ ws) → L2.wipe σ' ws = L2.wipe σ ws) → Q σ' H) → Tg.raws K ts vs σ H Q
  | [], [], env, env', vs, σ, Q, h, r, eo, q => by
    unfold Tg.sets at h; cases h
    unfold RepL at r; subst r
    unfold Tg.raws
    exact ⟨rfl, q σ eo fun _ _ => rfl⟩
  | t :: ts, x :: xs, env, env', vs, σ, Q, h, r, eo, q => by
    unfold Tg.sets at h
    obtain ⟨e1, h1, h2⟩ := Option.bind_eq_some_iff.mp h
    unfold RepL at r
    obtain ⟨v, rr, rfl, r1, r2⟩ := r
    unfold Tg.raws
    refine ⟨v, rr, rfl, Tg.rd h1 r1 eo fun σ1 eo1 w1 => Tg.rds h2 r2 eo1 fun σ2 eo2 w2 => q σ2 eo2 fun ws hw => ?_⟩
    rw [w2 ws (fun i hi => hw i (by simp [Tg.namess, hi])), w1 ws (fun i hi => hw i (by simp [Tg.namess, hi]))]
  | [], _ :: _, _, _, _, _, _, h, _, _, _ => by unfold Tg.sets at h; cases h
  | _ :: _, [], _, _, _, _, _, h, _, _, _ => by unfold Tg.sets at h; cases h
end
end
def tgT (t : Tg) : TgF := fun d env st => match Tg.set t d env with
  | some env1 => .ok env1 st
  | none => .fail
theorem t_tg {X : Cx} {W : WX} {t : Tg} {e : Expr} (h : PG X e (Tg.raw X.K t)) : PG X e (rdG X.K W (tgT t)) := h.imp fun v σ H Q ⟨d, env, M, st, r, eo, so, p⟩ => by
  unfold tgT at p
  split at p
  · rename_i env1 e
    exact Tg.rd e r eo fun σ' eo' _ => p M H σ' .refl so eo'
  · exact p.elim
def noX {α : Type} (r : R α) : R α := match r with
  | .ok a st => .ok a st
  | _ => .fail
def turnC (t : Tg) (tt : EvB) (fe : EvE) (envw : Env) (x : D) (st : Sto) (acc : List D) (k : Sto → List D → R (List D)) : R (List D) := match t.set x envw with
  | none => .fail
  | some env1 => (noX (tt env1 st)).bind fun b st1 => if b = true then (noX (fe env1 st1)).bind fun y st2 => if acc.length < 16777216 then k st2 (acc ++ [y]) else .fail else k st1 acc
def lcF (t : Tg) (tt : EvB) (fe : EvE) (envw : Env) : List D → Sto → List D → R (List D)
  | [], st, acc => .ok acc st
  | x :: xs, st, acc => turnC t tt fe envw x st acc (lcF t tt fe envw xs)
def lcG (t : Tg) (tt : EvB) (fe : EvE) (envw : Env) (nxt : Nat → Sto → Option (Option D)) : Nat → Nat → Sto → List D → R (List D)
  | 0, i, st, acc => match nxt i st with
    | some none => .ok acc st
    | _ => .fail
  | k + 1, i, st, acc => match nxt i st with
    | some none => .ok acc st
    | some (some x) => turnC t tt fe envw x st acc (lcG t tt fe envw nxt k (i + 1))
    | none => .fail
def lcL (it : EvI) (t : Tg) (tt : EvB) (fe : EvE) (vs : List Nat) : EvA := fun env st => (it env st).bind fun I st1 => match I with
  | .frz xs => lcF t tt fe (wipeE env vs) xs st1 []
  | .gen nxt k => lcG t tt fe (wipeE env vs) nxt k 0 st1 []
def lcE (it : EvI) (t : Tg) (tt : EvB) (fe : EvE) (vs : List Nat) : EvE := fun env st => (lcL it t tt fe vs env st).bind fun xs st1 => .ok (.lst xs) st1
abbrev W0 : WX := fun _ _ _ _ => False
def yesB : EvB := fun _ st => .ok true st
def Mem.hold (M : Mem) (a : Addr) : Mem := ⟨M.m, a :: M.p, M.f⟩
def Mem.free (M : Mem) (p : List Addr) : Mem := ⟨M.m, p, M.f⟩
section
variable {K : PySem.W.Frag} {M M' : Mem} {H H' : Hp} {st : Sto}
theorem StOk.hold (so : StOk K M H st) {a : Addr} {vs : List V} (h : H a = none) : StOk K (M.hold a) (upd H a (.lst vs)) st ∧ Keep M H (M.hold a) (upd H a (.lst vs)) := by
  have k : Keep M H (M.hold a) (upd H a (.lst vs)) := ⟨fun _ _ h => h, fun b o e n => by
    have ne : b ≠ a := ne_of_none e h
    exact ⟨by rw [upd_ne ne]; exact e, n.1, fun z => (List.mem_cons.mp z).elim ne n.2⟩, rfl⟩
  refine ⟨⟨so.len, so.nd, fun b hb => ?_, fun n b mo e1 e2 => ?_⟩, k⟩
  · rcases List.mem_cons.mp hb with rfl | hb
    · exact ⟨(so.notin h).1, _, upd_same⟩
    · obtain ⟨h1, u, e⟩ := so.pd b hb
      exact ⟨h1, u, by rw [upd_ne (ne_of_none e h)]; exact e⟩
  · have q := so.at_ n b mo e1 e2
    obtain ⟨u, e⟩ := q.there
    exact q.kp k (upd_ne (ne_of_none e h))
theorem Keep.fill {a : Addr} {o : HO} (h : a ∈ M.p) : Keep M H M (upd H a o) := ⟨fun _ _ h => h, fun b u e n => ⟨by rw [upd_ne (fun z : b = a => n.2 (by rw [z]; exact h))]; exact e, n⟩, rfl⟩
theorem StOk.fill (so : StOk K M H st) {a : Addr} {o : List V} (h : a ∈ M.p) : StOk K M (upd H a (.lst o)) st := by
  have k : Keep M H M (upd H a (.lst o)) := .fill h
  refine ⟨so.len, so.nd, fun b hb => ?_, fun n b mo e1 e2 => ?_⟩
  · by_cases e : b = a
    · subst e; exact ⟨(so.pd b hb).1, _, upd_same⟩
    · obtain ⟨h1, u, e'⟩ := so.pd b hb
      exact ⟨h1, u, by rw [upd_ne e]; exact e'⟩
  · have q := so.at_ n b mo e1 e2
    have ne : b ≠ a := fun z => (so.pd a h).1 (by rw [← z]; exact List.mem_of_getElem? e1)
    exact q.kp k (upd_ne ne)
theorem Keep.free {p : List Addr} (h : ∀ a ∈ p, a ∈ M.p) : Keep M H (M.free p) H := ⟨fun _ _ h => h, fun b u e n => ⟨e, n.1, fun z => n.2 (h b z)⟩, rfl⟩
theorem StOk.free (so : StOk K M H st) {p : List Addr} (h : ∀ a ∈ p, a ∈ M.p) : StOk K (M.free p) H st := by
  have k : Keep M H (M.free p) H := .free h
  refine ⟨so.len, so.nd, fun b hb => so.pd b (h b hb), fun n b mo e1 e2 => ?_⟩
  have q := so.at_ n b mo e1 e2
  exact q.kp k rfl
end
section
variable {X : Cx} {W : WX} {K : PySem.W.Frag} {t : Tg} {tt : EvB} {fe : EvE}
structure Mid (K : PySem.W.Frag) (M1 : Mem) (H1 : Hp) (L : Addr) (M' : Mem) (H' : Hp) (st' : Sto) (acc : List D) : Prop where
  kp : Keep M1 H1 M' H'
  p : M'.p = L :: M1.p
  prot : ∀ a ∈ M1.p, H' a = H1 a
  new : H1 L = none
  so1 : ∀ a ∈ M1.p, ∃ o, H1 a = some o
  so : StOk K M' H' st'
  at_ : ∃ vs, H' L = some (.lst vs) ∧ RepL K M' H' acc vs
theorem Mid.grow {M1 : Mem} {H1 : Hp} {L : Addr} {M' M2 : Mem} {H' H2 : Hp} {st' st2 : Sto} {acc : List D} (m : Mid K M1 H1 L M' H' st' acc) (g : Grow M' H' M2 H2) (so : StOk K M2 H2 st2) : Mid K M1 H1 L M2 H2 st2 acc :=
  ⟨m.kp.trans g.k, g.pp.trans m.p, fun a ha => (g.prot a (by rw [m.p]; exact List.mem_cons_of_mem _ ha)).trans (m.prot a ha), m.new, m.so1, so, let ⟨vs, e, r⟩ := m.at_; ⟨vs, (g.prot L (by rw [m.p]; exact List.mem_cons_self)).trans e, r.grow g⟩⟩
theorem Mid.add {M1 : Mem} {H1 : Hp} {L : Addr} {M' : Mem} {H' : Hp} {st' : Sto} {acc : List D} {d : D} {v : V} (m : Mid K M1 H1 L M' H' st' acc) (r : Rep K M' H' d v) {vs : List V} (e : H' L = some (.lst vs)) : Mid K M1 H1 L M' (upd H' L (.lst (vs ++ [v]))) st' (acc ++ [d]) := by
  have hL : L ∈ M'.p := by rw [m.p]; exact List.mem_cons_self
  obtain ⟨ws, e', rl⟩ := m.at_
  rw [e] at e'; cases e'
  have k : Keep M' H' M' (upd H' L (.lst (vs ++ [v]))) := .fill hL
  refine ⟨m.kp.trans k, m.p, fun a ha => ?_, m.new, m.so1, m.so.fill hL, _, upd_same, (rl.kp k).append (.cons (r.kp k) .nil)⟩
  rw [upd_ne]
  · exact m.prot a ha
  · rintro rfl
    obtain ⟨o, z⟩ := m.so1 a ha
    rw [m.new] at z; cases z
theorem Mid.fin {M1 : Mem} {H1 : Hp} {L : Addr} {M' : Mem} {H' : Hp} {st' : Sto} {acc : List D} (m : Mid K M1 H1 L M' H' st' acc) :
    Grow M1 H1 (M'.free M1.p) H' ∧ StOk K (M'.free M1.p) H' st' ∧ (M'.free M1.p).no L ∧ ∃ vs, H' L = some (.lst vs) ∧ RepL K (M'.free M1.p) H' acc vs := by
  have sub : ∀ a ∈ M1.p, a ∈ M'.p := fun a ha => by rw [m.p]; exact List.mem_cons_of_mem _ ha
  have k : Keep M' H' (M'.free M1.p) H' := .free sub
  obtain ⟨vs, e, r⟩ := m.at_
  refine ⟨⟨(m.kp.trans k).pre, (m.kp.trans k).keep, rfl, m.prot, (m.kp.trans k).ff⟩, m.so.free sub, ⟨(m.so.pd L (by rw [m.p]; exact List.mem_cons_self)).1, fun z => ?_⟩, vs, e, r.kp k⟩
  obtain ⟨o, q⟩ := m.so1 L z
  rw [m.new] at q; cases q
theorem turnC_rd {M1 : Mem} {H1 : Hp} {L : Addr} {M' : Mem} {H' : Hp} {st' : Sto} {acc : List D} {envw : Env} {σw : L2.St} {vs : List Nat} {x : D} {u : V} {k : Sto → List D → R (List D)} {P : R (List D) → Prop} {N : Hp → Prop}
    (m : Mid K M1 H1 L M' H' st' acc) (eo : EnvOk K M' H' envw (L2.wipe σw vs)) (r : Rep K M' H' x u) (hv : ∀ i ∈ Tg.names t, i ∈ vs)
    (hf : ¬ P .fail) (p : P (turnC t tt fe envw x st' acc k))
    (hN : ∀ M2 H2 st2 acc2, Keep M' H' M2 H2 → Mid K M1 H1 L M2 H2 st2 acc2 → P (k st2 acc2) → N H2) :
    Tg.raw K t u (L2.wipe σw vs) H' fun σ2 H2 => L2.wipe σ2 vs = L2.wipe σw vs ∧ rdB K W0 tt σ2 H2 fun b H3 =>
      if b = true then rdE K W0 fe σ2 H3 fun y H4 => ∃ acc, H4 L = some (.lst acc) ∧ acc.length < sizeLine ∧ N (upd H4 L (.lst (acc ++ [y]))) else N H3 := by
  unfold turnC at p
  cases e : t.set x envw with
  | none => rw [e] at p; exact absurd p hf
  | some env1 =>
    rw [e] at p
    refine Tg.rd e r eo fun σ' eo' hw => ⟨(hw vs hv).trans wipe_wipe, env1, M', st', eo', m.so, ?_⟩
    cases e1 : tt env1 st' with
    | exc x s => simp only [e1, noX, R.bind] at p; exact absurd p hf
    | fail => simp only [e1, noX, R.bind] at p; exact absurd p hf
    | ok b st1 =>
      simp only [e1, noX, R.bind] at p
      intro M2 H2 b' g2 so2 hb
      subst hb
      cases b with
      | false => exact iteF (hN M2 H2 st1 acc g2.k (m.grow g2 so2) (by simpa using p))
      | true =>
        simp only [if_true] at p
        refine iteT ⟨env1, M2, st1, eo'.grow g2, so2, ?_⟩
        cases e2 : fe env1 st1 with
        | exc x s => rw [e2] at p; exact absurd p hf
        | fail => rw [e2] at p; exact absurd p hf
        | ok y st2 =>
          rw [e2] at p
          intro M3 H3 yv g3 so3 ry
          have m3 := (m.grow g2 so2).grow g3 so3
          obtain ⟨vs3, e3, r3⟩ := m3.at_
          simp only at p
          by_cases hl : acc.length < 16777216
          · rw [if_pos hl] at p
            have kf : Keep M3 H3 M3 (upd H3 L (.lst (vs3 ++ [yv]))) := .fill (by rw [m3.p]; exact List.mem_cons_self)
            refine ⟨vs3, e3, by rw [← r3.length, sizeLine_eq]; exact hl, hN M3 _ st2 (acc ++ [y]) ((g2.k.trans g3.k).trans kf) (m3.add ry e3) p⟩
          · rw [if_neg hl] at p; exact absurd p hf
theorem rd_lc0 {it : EvI} {vs : List Nat} {fin : List D → Sto → R D} (hv : ∀ i ∈ Tg.names t, i ∈ vs)
    (hfin : ∀ {M1 : Mem} {H1 : Hp} {L : Addr} {M' : Mem} {H' : Hp} {st' : Sto} {acc : List D} {Q : VK} {E : XK}, Mid K M1 H1 L M' H' st' acc → Post K (Rep K) M1 H1 Q E (fin acc st') → Q (.ref L) H') :
    ∀ σ H Q, rdE K W (fun env st => (lcL it t tt fe vs env st).bind fin) σ H Q → tLc (rdI K W it) (Tg.raw K t) (rdB K W0 tt) (rdE K W0 fe) vs σ H Q :=
  fun σ H Q ⟨env, M, st, eo, so, p⟩ => ⟨env, M, st, eo, so, by
    have p : Post K (Rep K) M H Q (WE W σ) ((it env st).bind fun I st1 => (match I with
      | .frz xs => lcF t tt fe (wipeE env vs) xs st1 []
      | .gen nxt k => lcG t tt fe (wipeE env vs) nxt k 0 st1 []).bind fin) := by
      have p : Post K (Rep K) M H Q (WE W σ) ((lcL it t tt fe vs env st).bind fin) := p
      unfold lcL at p
      cases e : it env st with
      | ok I st1 => rw [e] at p; exact p
      | exc x s => rw [e] at p; exact p
      | fail => rw [e] at p; exact p
    refine Post.imp (Post.bind (rep := ItRep K) p) fun J H1 ⟨M1, st1, I, g1, so1, ri, p1⟩ => ?_
    intro L hL
    obtain ⟨so2, k2⟩ := so1.hold (vs := []) hL
    have m0 : Mid K M1 H1 L (M1.hold L) (upd H1 L (.lst [])) st1 [] := ⟨k2, rfl, fun a ha => by
      obtain ⟨_, o, e⟩ := so1.pd a ha
      rw [upd_ne (ne_of_none e hL)], hL, fun a ha => (let ⟨o, e⟩ := (so1.pd a ha).2; ⟨_, e⟩), so2, [], upd_same, .nil⟩
    have eo1 : EnvOk K (M1.hold L) (upd H1 L (.lst [])) (wipeE env vs) (L2.wipe σ vs) := ((eo.grow g1).kp k2).wipe vs
    cases I with
    | frz xs =>
      have p1 : Post K (Rep K) M1 H1 Q (WE W σ) ((lcF t tt fe (wipeE env vs) xs st1 []).bind fin) := p1
      refine ⟨fun i m H' => m = xs.length - i ∧ i ≤ xs.length ∧ ∃ M' st' acc, Mid K M1 H1 L M' H' st' acc ∧ EnvOk K M' H' (wipeE env vs) (L2.wipe σ vs) ∧ Post K (Rep K) M1 H1 Q (WE W σ) ((lcF t tt fe (wipeE env vs) (xs.drop i) st' acc).bind fin),
        ⟨xs.length, by simp, Nat.zero_le _, _, _, _, m0, eo1, by simpa using p1⟩, ?_⟩
      rintro i m H' ⟨rfl, hi, M', st', acc, md, eo', q⟩
      obtain ⟨r1, r2⟩ := ri i M' H' st' md.kp md.so
      by_cases hlt : i < xs.length
      · have hd : xs[i]? = some xs[i] := List.getElem?_eq_getElem hlt
        obtain ⟨r3, r4⟩ := r2 _ hd
        refine .inr ⟨r3, _, fun H2 h => ⟨xs.length - (i + 1), by omega, rfl, hlt, h⟩, fun x H2 hy => ?_⟩
        obtain ⟨g2, so2, rx⟩ := r4 x H2 hy
        rw [List.drop_eq_getElem_cons hlt] at q
        exact turnC_rd (P := fun r => Post K (Rep K) M1 H1 Q (WE W σ) (r.bind fin)) (md.grow g2 so2) (eo'.grow g2) rx hv (fun z => z) q fun M3 H3 st3 acc3 k3 m3 p3 => ⟨M3, st3, acc3, m3, (eo'.grow g2).kp k3, p3⟩
      · have e : i = xs.length := by omega
        refine .inl ⟨r1 e, ?_⟩
        rw [e, List.drop_length] at q
        exact hfin md q
    | gen nxt k =>
      have p1 : Post K (Rep K) M1 H1 Q (WE W σ) ((lcG t tt fe (wipeE env vs) nxt k 0 st1 []).bind fin) := p1
      refine ⟨fun i m H' => ∃ M' st' acc, Mid K M1 H1 L M' H' st' acc ∧ EnvOk K M' H' (wipeE env vs) (L2.wipe σ vs) ∧ Post K (Rep K) M1 H1 Q (WE W σ) ((lcG t tt fe (wipeE env vs) nxt m i st' acc).bind fin),
        ⟨k, _, _, _, m0, eo1, p1⟩, ?_⟩
      rintro i m H' ⟨M', st', acc, md, eo', q⟩
      obtain ⟨r1, r2⟩ := ri i M' H' st' md.kp md.so
      cases m with
      | zero =>
        unfold lcG at q
        cases e : nxt i st' with
        | none => rw [e] at q; exact q.elim
        | some o =>
          cases o with
          | some x => rw [e] at q; exact q.elim
          | none => rw [e] at q; exact .inl ⟨r1 e, hfin md q⟩
      | succ m =>
        unfold lcG at q
        cases e : nxt i st' with
        | none => rw [e] at q; exact q.elim
        | some o =>
          cases o with
          | none => rw [e] at q; exact .inl ⟨r1 e, hfin md q⟩
          | some d =>
            rw [e] at q
            obtain ⟨r3, r4⟩ := r2 _ e
            refine .inr ⟨r3, _, fun H2 h => ⟨m, by omega, h⟩, fun x H2 hy => ?_⟩
            obtain ⟨g2, so2, rx⟩ := r4 x H2 hy
            exact turnC_rd (P := fun r => Post K (Rep K) M1 H1 Q (WE W σ) (r.bind fin)) (md.grow g2 so2) (eo'.grow g2) rx hv (fun z => z) q fun M3 H3 st3 acc3 k3 m3 p3 => ⟨M3, st3, acc3, m3, (eo'.grow g2).kp k3, p3⟩⟩
theorem rd_lc {it : EvI} {vs : List Nat} (hv : ∀ i ∈ Tg.names t, i ∈ vs) : ∀ σ H Q, rdE K W (lcE it t tt fe vs) σ H Q → tLc (rdI K W it) (Tg.raw K t) (rdB K W0 tt) (rdE K W0 fe) vs σ H Q :=
  rd_lc0 hv fun m q => by
    obtain ⟨f1, f2, f3, ws, f4, f5⟩ := m.fin
    exact q _ _ _ f1 f2 (by unfold Rep; exact ⟨_, ws, rfl, ⟨f4, f3⟩, f5⟩)
end
section
variable {X : Cx} {W : WX}
theorem g_yes : PTs X [] (rdB X.K W0 yesB) := ⟨fun pins s σ H Q I ⟨env, M, st, eo, so, p⟩ => pts_nil.run pins s σ H Q I (p M H true .refl so rfl)⟩
theorem g_ifs {c : Expr} {t : EvB} (h : PT X c (rdB X.K W0 t)) : PTs X [c] (rdB X.K W0 t) := pts_one h
end
end G
namespace G
open PySem PySem.Spec PyProof.Rows L2
section
variable {X : Cx} {W : WX}
theorem s_setLc {i : Nat} {it : EvI} {t : Tg} {tt : EvB} {fe : EvE} {vs : List Nat} {s : Stmt} (hv : ∀ i ∈ Tg.names t, i ∈ vs)
    (h : PS X s (tAsg (tLc (rdI X.K W it) (Tg.raw X.K t) (rdB X.K W0 tt) (rdE X.K W0 fe) vs) (gName i))) : PS X s (rdS X.K W (asgS (lcE it t tt fe vs) (nameT i))) :=
  h.imp fun T σ H ⟨env, M, st, eo, so, p⟩ => rd_lc hv σ H _ ⟨env, M, st, eo, so, Post.imp (PostS.bind (rep := Rep X.K) eo p) fun x H1 ⟨M1, st1, d, g, so1, ra, p1⟩ => p1 M1 H1 _ .refl so1 ((eo.grow g).set i ra)⟩
end
def runF (n m : Nat) (B : SvS) : FA := fun ds st => if ds.length = n then (match B (ds.map some ++ List.replicate (m - n) none) st with
  | .nx _ st1 => .ok .non st1
  | .ret d st1 => .ok d st1
  | .exc e _ st1 => .exc e st1
  | _ => .fail) else .fail
def spG (K : PySem.W.Frag) (F : FA) : Sp := fun vs H Q E => ∃ ds M st, RepL K M H ds vs ∧ StOk K M H st ∧ Post K (Rep K) M H Q E (F ds st)
theorem spG_len {K : PySem.W.Frag} {n m : Nat} {B : SvS} : ∀ vs H Q E, spG K (runF n m B) vs H Q E → vs.length = n := fun vs H Q E ⟨ds, M, st, r, so, p⟩ => by
  unfold runF at p
  split at p
  · rename_i h; rw [← r.length]; exact h
  · exact p.elim
section
variable {K : PySem.W.Frag}
theorem envOk_start {M : Mem} {H : Hp} {N : List Str} {ds : List D} {vs : List V} (r : RepL K M H ds vs) : EnvOk K M H (ds.map some ++ List.replicate (N.length - ds.length) none) (L2.start N vs) := by
  unfold L2.start
  refine ⟨by simp [r.length], fun i d h => ?_⟩
  by_cases hi : i < ds.length
  · rw [List.getElem?_append_left (by simpa using hi), List.getElem?_map] at h
    obtain ⟨x, hx, e⟩ := Option.map_eq_some_iff.mp h
    cases e
    obtain ⟨v, h1, h2⟩ := r.get hx
    exact ⟨v, by rw [List.getElem?_append_left (by simpa [← r.length] using hi), List.getElem?_map, h1]; rfl, h2⟩
  · rw [List.getElem?_append_right (by simp; omega)] at h
    have := List.mem_of_getElem? h
    simp at this
end
section
variable {P : Program} {w : World} {K : PySem.W.Frag} {mg : Str → Option Value} {base : Heap}
abbrev Wd (E : XK) : WX := fun cls d _ H => E cls d H
structure RoomG (k : Nat) (A : Around) : Prop extends L2.Room k A where
  gd : A.guards = some []
theorem RoomG.mono {j k : Nat} {A : Around} (r : RoomG k A) (h : j ≤ k) : RoomG j A := ⟨r.toRoom.mono h, r.gd⟩
theorem RoomG.deeper {k : Nat} {A : Around} (r : RoomG (k + 1) A) (env : PySem.Env) : RoomG k (A.deeper env) := ⟨r.toRoom.deeper env, by have := r.gd; simpa [Around.deeper] using this⟩
structure FnG (P : Program) (w : World) (K : PySem.W.Frag) (mg : Str → Option Value) (base : Heap) (k : Nat) (f : Addr) (fd : FuncData) (ps : List Str) (sp : Sp) : Prop where
  len : ∀ vs H Q E, sp vs H Q E → vs.length = ps.length
  run : ∀ (A : Around) (outer : List PySem.Env) (s : Shared) (H : Hp) (args : Args) (us : List Value) (vs : List V) (Q : VK) (E : XK), RoomG k A → Env0 P w K mg base A outer s H → BindsTo s fd args (ps.zip us) → Vals vs us → sp vs H Q E →
    codeAny (model P w) A (.call (.ref f) args) (CR (L2.CX P w) outer P w H s Q E) s
theorem FnG.imp {P : Program} {w : World} {K : PySem.W.Frag} {mg : Str → Option Value} {base : Heap} {k : Nat} {f : Addr} {fd : FuncData} {ps : List Str} {sp sp' : Sp} (F : FnG P w K mg base k f fd ps sp) (h : ∀ vs H Q E, sp' vs H Q E → sp vs H Q E) : FnG P w K mg base k f fd ps sp' :=
  ⟨fun vs H Q E q => F.len vs H Q E (h _ _ _ _ q), fun A outer s H args us vs Q E hr he hb hv hs => F.run A outer s H args us vs Q E hr he hb hv (h _ _ _ _ hs)⟩
theorem fn_ok {x qual : Str} {s : Stmt} {f : Addr} {fd : FuncData} {N ps : List Str} {k n m : Nat} {B : SvS} (F : Fun K x qual s f fd) (Sc : FnScope N ps (defScope s)) (hn : ps.length = n) (hm : N.length = m)
    (hbody : ∀ (cdv : Value) (A : Around) (outer : List PySem.Env) (s' : Shared) (H : Hp) (E : XK), RoomG k (A.deeper (envOfC qual (defScope s) s'.heap.objs.size f cdv)) →
      PSs (cxOf (L2.CX P w) P w K mg base N qual (defScope s) f cdv A outer s' H E) (defBody s) (rdS K (Wd E) B)) : FnG P w K mg base (k + 1) f fd ps (spG K (runF n m B)) := by
  subst hn hm
  obtain ⟨oc, od, kV, doc, pm, an, cdv, ct, osl, rfl, lk, hcd⟩ := F.ex
  refine ⟨spG_len, fun A outer s0 H args us vs Q E hr e0 hb rv hsp => ?_⟩
  have hl : vs.length = ps.length := spG_len vs H Q E hsp
  have KX : K.In s0.heap := e0.mod.kin.keeps fun b o e => (e0.bs b o e).1
  have hq : rdS K (Wd E) B { nx := fun _ H' => Q .non H', rt := Q } (L2.start N vs) H := by
    obtain ⟨ds, M, st, r, so, p⟩ := hsp
    unfold runF at p
    split at p
    · rename_i hl
      refine ⟨_, M, st, envOk_start r, so, ?_⟩
      rw [hl]
      cases e : B (ds.map some ++ List.replicate (N.length - ps.length) none) st with
      | nx env st1 => rw [e] at p; exact fun M' H' σ' g so' _ => p M' H' .non g so' (rep_non _ _)
      | ret d st1 => rw [e] at p; exact fun M' H' v g so' r' => p M' H' v g so' r'
      | exc x env st1 => rw [e] at p; exact fun M' H' σ' c od g so' _ h => p M' H' c od g so' h
      | brk env st1 => rw [e] at p; exact p.elim
      | cont env st1 => rw [e] at p; exact p.elim
      | fail => rw [e] at p; exact p.elim
    · exact p.elim
  have local_ : ∀ y ∈ ps.zip us, (defScope s).names.lookup y.1 = some .local ∨ ((defScope s).names.lookup y.1 = some .cell ∧ ((cellsFrom (s0.heap.objs.size + 1) (defScope s).names []).lookup y.1).isSome = true) := by
    rintro ⟨a, v⟩ hy
    rcases Sc.par a (List.of_mem_zip hy).1 with q | q
    · exact .inl q
    · exact .inr ⟨q, PySem.W.cellsFrom_some _ _ _ (.inl q)⟩
  refine codeAny_call_function hr.toRoom.depth (KX _ _ lk) rfl Sc.co Sc.gen rfl (PySem.W.codeRec_of KX hcd) (hb _ _ _ _ (wpAny_newFunctionEnv_cells Sc.kind local_ fun env he s1 x => ?_))
  subst he
  refine ⟨(e0.mod.nolimit.keeps fun b o e => (e0.bs b o e).1).keeps x.toInCall.keep, codeAny_func ?_⟩
  have I := inv_start (CX := L2.CX P w) (E := E) Sc hr.hd e0 hl rv x
  refine wpAny_mono ((hbody cdv A outer s0 H E (hr.deeper _)).run [] s1 (L2.start N vs) H _ I hq) (fun fl s' hs => ?_) fun e s' hs => hs
  cases fl with
  | ret u => obtain ⟨v, σ', H', J, rv, q⟩ := hs; exact ⟨v, H', J.os, J.bare, J.base, J.hok, rv, q⟩
  | next => obtain ⟨σ', H', J, q⟩ := hs; exact ⟨.non, H', J.os, J.bare, J.base, J.hok, (rfl : RelV V.non Value.none), q⟩
  | brk => obtain ⟨_, _, _, q⟩ := hs; exact q.elim
  | cont => obtain ⟨_, _, _, q⟩ := hs; exact q.elim
end
def pick {α : Type} (us ws : List α) (ix : List Nat) : List α := us ++ ix.filterMap fun j => ws[j]?
def callKE (F : FA) (fs ks : EvA) (n m : Nat) (ix : List Nat) : EvE := fun env st => (fs env st).bind fun us st1 => (ks env st1).bind fun ws st2 => if us.length = n ∧ ws.length = m then F (pick us ws ix) st2 else .fail
theorem pick_rep {K : PySem.W.Frag} {M : Mem} {H : Hp} {ds es : List D} {vs zs : List V} (r : RepL K M H ds vs) (q : RepL K M H es zs) (ix : List Nat) : RepL K M H (pick ds es ix) (pick vs zs ix) := by
  unfold pick
  refine r.append ?_
  induction ix with
  | nil => exact .nil
  | cons j ix ih =>
    rw [List.filterMap_cons, List.filterMap_cons]
    cases e : es[j]? with
    | none =>
      have : zs[j]? = none := List.getElem?_eq_none_iff.mpr (by rw [← q.length]; exact List.getElem?_eq_none_iff.mp e)
      rw [this]; exact ih
    | some d =>
      obtain ⟨v, h1, h2⟩ := q.get e
      rw [h1]; exact .cons h2 ih
theorem pick_vals {vs zs : List V} {us ws : List Value} (r : Vals vs us) (q : Vals zs ws) (ix : List Nat) : Vals (pick vs zs ix) (pick us ws ix) := by
  unfold pick
  refine r.append ?_
  induction ix with
  | nil => exact .nil
  | cons j ix ih =>
    rw [List.filterMap_cons, List.filterMap_cons]
    cases e : zs[j]? with
    | none => rw [q.none_of e]; exact ih
    | some d =>
      obtain ⟨v, h1, h2⟩ := q.get e
      rw [h1]; exact .cons h2 ih
def KB (K : PySem.W.Frag) (fd : FuncData) (ps : List Str) (n : Nat) (ks : List Str) (ix : List Nat) : Prop :=
  ∀ (s : Shared) (us ws : List Value), K.In s.heap → us.length = n → ws.length = ks.length → BindsTo s fd ⟨us, ks.zip ws⟩ (ps.zip (pick us ws ix))
theorem kb_of {K : PySem.W.Frag} {x qual : Str} {st : Stmt} {f : Addr} {fd : FuncData} {ps ks : List Str} {n : Nat} {ix : List Nat} (F : Fun K x qual st f fd)
    (h : ∀ (kV doc pm : Value) (an : Option Addr) (cdv ct : Value) (us ws : List Value), us.length = n → ws.length = ks.length → bindArgs (PySem.W.fnOf x qual (defArgs st) (defBody st) (defScope st) .none kV doc pm an cdv ct) ⟨us, ks.zip ws⟩ = pure (ps.zip (pick us ws ix))) : KB K fd ps n ks ix := by
  obtain ⟨oc, od, kV, doc, pm, an, cdv, ct, osl, rfl, lk, hcd⟩ := F.ex
  exact fun s us ws _ h1 h2 => .of_eq (h kV doc pm an cdv ct us ws h1 h2)
section
variable {X : Cx} {W : WX} {F : FA} {k n : Nat} {f : Addr} {fd : FuncData} {ps ks : List Str} {ix : List Nat} {x : Str} {p pos kpos : Pos} {e : Expr} {es : List Expr} {kws : List Keyword} {fa : EvE} {fs fk : EvA} {nm : Option Str}
theorem _root_.L2.PK.imp {t t' : TA} (h : PK X kws t) (i : ∀ σ H Q, t' σ H Q → t σ H Q) : PK X kws t' := ⟨fun pos pins s σ H Q I q => h.run pos pins s σ H Q I (i σ H Q q)⟩
theorem k_nil : PK X [] (rdA X.K W nilA) := pk_nil.imp fun σ H Q ⟨env, M, st, eo, so, p⟩ => p M H [] .refl so .nil
theorem k_cons (ha : PE X e (rdE X.K W fa)) (hr : PK X kws (rdA X.K W fs)) : PK X (⟨nm, e, kpos⟩ :: kws) (rdA X.K W (consA fa fs)) :=
  (pk_cons ha hr).imp fun σ H Q ⟨env, M, st, eo, so, p⟩ => ⟨env, M, st, eo, so, Post.imp (Post.bind p) fun x H1 ⟨M1, st1, a, g, so1, ra, p1⟩ =>
    ⟨env, M1, st1, eo.grow g, so1, Post.imp (Post.bind (rep := RepL X.K) p1) fun y H2 ⟨M2, st2, b, g2, so2, rb, p2⟩ => p2 M2 H2 _ .refl so2 (.cons (ra.grow g2) rb)⟩⟩
theorem run_kw {pins : List (Addr × Obj)} {σ : L2.St} {H : Hp} {s : Shared} {Q : VK} {us ws : List Value} {vs zs : List V} (G : FnG X.prog X.w X.K X.mg X.base k f fd ps (spG X.K F)) (hr : RoomG k X.A) (hb : KB X.K fd ps n ks ix) (tk : Takes X W)
    (I : Inv X pins σ H s) (r : Vals vs us) (rz : Vals zs ws) (h1 : us.length = n) (h2 : ws.length = ks.length) (h : spG X.K F (pick vs zs ix) H Q (WE W σ)) : wpAny (model X.prog X.w) X.A (PySem.call (.ref f) us (ks.zip ws)) (EP X pins σ Q) X.xe s := by
  have hx := passAt tk σ
  refine wpAny_call (codeAny_mono (G.run X.A X.stack s H ⟨us, ks.zip ws⟩ (pick us ws ix) (pick vs zs ix) Q (WE W σ) hr I.env0 (hb s us ws I.kIn h1 h2) (pick_vals r rz ix) h) fun r s' hq => ?_)
  cases r with
  | error e => exact hx pins H s e s' I hq
  | ok fl =>
    cases fl with
    | ret u => exact I.after hq
    | next => exact hq.elim
    | brk => exact hq.elim
    | cont => exact hq.elim
theorem run_pos {pins : List (Addr × Obj)} {σ : L2.St} {H : Hp} {s : Shared} {Q : VK} {us : List Value} {vs : List V} (G : FnG X.prog X.w X.K X.mg X.base k f fd ps (spG X.K F)) (hr : RoomG k X.A) (hb : Binds X.K fd ps []) (tk : Takes X W)
    (I : Inv X pins σ H s) (r : Vals vs us) (h : spG X.K F vs H Q (WE W σ)) : wpAny (model X.prog X.w) X.A (PySem.call (.ref f) us) (EP X pins σ Q) X.xe s := by
  have hx := passAt tk σ
  have bb := hb s us I.kIn (by rw [List.append_nil, ← r.length]; exact G.len _ _ _ _ h)
  rw [List.append_nil] at bb
  refine wpAny_call (codeAny_mono (G.run X.A X.stack s H ⟨us, []⟩ us vs Q (WE W σ) hr I.env0 bb r h) fun r s' hq => ?_)
  cases r with
  | error e => exact hx pins H s e s' I hq
  | ok fl =>
    cases fl with
    | ret u => exact I.after hq
    | next => exact hq.elim
    | brk => exact hq.elim
    | cont => exact hq.elim
theorem g_call (G : FnG X.prog X.w X.K X.mg X.base k f fd ps (spG X.K F)) (hr : RoomG k X.A) (hg : Gl X x) (hm : X.mg x = some (.ref f)) (hk : PySem.W.keepIn X.K (.ref f) = true) (hb : Binds X.K fd ps []) (tk : Takes X W)
    (ha : PA X (e :: es) (rdA X.K W fs)) (hdb : (x == ("__debug__" : Str)) = false) (he : starEach (e :: es) X.env = (false, eval e X.env) :: starEach es X.env) (hpl : (backTo pos (starEach es X.env)).any (·.1) = false) :
    PE X (.Call (.Name x p) (e :: es) [] pos) (rdE X.K W (callE F fs)) := by
  refine ⟨fun pins s σ H Q I ⟨env, M, st, eo, so, p⟩ => ?_⟩
  refine wpAny_Call_Name_kw (ld_glob I hg hm ?_ hdb)
  refine PySem.W.callWith_K (h₀ := X.base) I.ok.mod.kin hk (thn (ha.run pos pins s σ H _ I ⟨env, M, st, eo, so, Post.bind (rep := RepL X.K) p⟩) fun us s1 ⟨vs, H1, I1, r, M1, st1, ds, g, so1, ra, p1⟩ => ⟨I1.kIn, ?_⟩) he hpl
  exact run_pos G hr hb tk I1 r ⟨ds, M1, st1, ra, so1, p1⟩
theorem g_callK0 (G : FnG X.prog X.w X.K X.mg X.base k f fd ps (spG X.K F)) (hr : RoomG k X.A) (hg : Gl X x) (hm : X.mg x = some (.ref f)) (hk : PySem.W.keepIn X.K (.ref f) = true) (hb : KB X.K fd ps 0 ks ix) (tk : Takes X W)
    (hkw : PK X kws (rdA X.K W fk)) (hall : (backToKw pos (keywordEach kws X.env)).all (·.1.isSome) = true) (hks : (backToKw pos (keywordEach kws X.env)).filterMap (·.1) = ks)
    (hdb : (x == ("__debug__" : Str)) = false)
    (hpl : ((backTo pos (starEach [] X.env)).any (·.1) || (backToKw pos (keywordEach kws X.env)).any (·.1.isNone)) = false) :
    PE X (.Call (.Name x p) [] kws pos) (rdE X.K W (callKE F nilA fk 0 ks.length ix)) := by
  refine ⟨fun pins s σ H Q I ⟨env, M, st, eo, so, p⟩ => ?_⟩
  refine wpAny_Call_Name_kw (ld_glob I hg hm ?_ hdb)
  have p1 : Post X.K (Rep X.K) M H Q (WE W σ) ((fk env st).bind fun ws st2 => if (0 : Nat) = 0 ∧ ws.length = ks.length then F (pick [] ws ix) st2 else .fail) := p
  refine PySem.W.callWith_KW0 (h₀ := X.base) I.ok.mod.kin hk hall ?_ hpl
  refine thn (hkw.run pos pins s σ H _ I ⟨env, M, st, eo, so, Post.bind (rep := RepL X.K) p1⟩) fun ws s2 ⟨zs, H2, I2, rz, M2, st2, es', g2, so2, rd2, p2⟩ => ⟨I2.kIn, ?_⟩
  rw [hks]
  split at p2
  · rename_i hl
    exact run_kw (vs := []) (us := []) G hr hb tk I2 .nil rz rfl (by rw [← rz.length, ← rd2.length]; exact hl.2) ⟨_, M2, st2, pick_rep .nil rd2 ix, so2, p2⟩
  · exact p2.elim
end
abbrev FM := D → List D → Sto → R D
def isL (d : D) (st : Sto) : Bool := match d with
  | .lst _ => true
  | .slo _ => true
  | .mut n => (match st[n]? with
    | some (.lst _) => true
    | _ => false)
  | _ => false
def methLE (f : FM) (fo : EvE) (fs : EvA) : EvE := fun env st => (fo env st).bind fun o st1 => if isL o st1 = true then (fs env st1).bind fun as st2 => f o as st2 else .fail
def MethV (K : PySem.W.Frag) (r : V → List V → Hp → VK → Prop) (f : FM) : Prop := ∀ (a : D) (as : List D) (x : V) (xs : List V) (M : Mem) (H : Hp) (st : Sto) (Q : VK) (E : XK), Rep K M H a x → RepL K M H as xs → StOk K M H st → Post K (Rep K) M H Q E (f a as st) → r x xs H Q
theorem isL_ty {K : PySem.W.Frag} {M : Mem} {H : Hp} {d : D} {st : Sto} {x : V} (so : StOk K M H st) (h : isL d st = true) (r : Rep K M H d x) : tyV K "list" x H := by
  unfold isL at h
  split at h
  · unfold Rep at r; obtain ⟨a, vs, rfl, f, q⟩ := r; exact .inl ⟨rfl, vs, f.sq⟩
  · unfold Rep at r; obtain ⟨a, vs, rfl, f, q⟩ := r; exact .inl ⟨rfl, vs, f.sq⟩
  · split at h
    · rename_i e
      unfold Rep at r; obtain ⟨a, rfl, m⟩ := r
      obtain ⟨vs, hv, q⟩ := so.at_ _ a _ m e
      exact .inl ⟨rfl, vs, .of hv⟩
    · cases h
  · cases h
section
variable {X : Cx} {W : WX} {f : FM} {fo : EvE} {fs : EvA} {r : V → List V → Hp → VK → Prop} {s : Expr}
theorem g_methL (h : PE X s (tBM X.K "list" r (rdE X.K W fo) (rdA X.K W fs))) (hv : MethV X.K r f) : PE X s (rdE X.K W (methLE f fo fs)) :=
  h.imp fun σ H Q ⟨env, M, st, eo, so, p⟩ => ⟨env, M, st, eo, so, Post.imp (Post.bind p) fun x H1 ⟨M1, st1, a, g, so1, ra, p1⟩ => by
    split at p1
    · rename_i hl
      exact ⟨isL_ty so1 hl ra, env, M1, st1, eo.grow g, so1, Post.imp (Post.bind (rep := RepL X.K) p1) fun xs H2 ⟨M2, st2, as, g2, so2, rs, p2⟩ => hv a as x xs M2 H2 st2 Q _ (ra.grow g2) rs so2 p2⟩
    · exact p1.elim⟩
end
def appF : FM := fun d as st => match d, as with
  | .mut n, [x] => (match st[n]? with
    | some (.lst xs) => if xs.length < 16777216 then .ok .non (st.set n (.lst (xs ++ [x]))) else .fail
    | _ => .fail)
  | _, _ => .fail
theorem v_append {K : PySem.W.Frag} : MethV K rAppend appF := by
  intro a as x xs M H st Q E ra rb so p
  unfold appF at p
  split at p
  · split at p
    · rename_i n b _ ys e
      split at p
      · rename_i hl
        unfold Rep at ra
        obtain ⟨t, rfl, m⟩ := ra
        obtain ⟨y, rfl, ry⟩ := rb.one
        obtain ⟨vs, hv, q⟩ := so.at_ n t _ m e
        exact ⟨t, vs, y, rfl, rfl, hv, by rw [← q.length, sizeLine_eq]; exact hl, p M _ _ (.put so m) (so.putL m (q.append (.cons ry .nil))) (rep_non _ _)⟩
      · exact p.elim
    · exact p.elim
  · exact p.elim
end G
namespace G
open PySem PySem.Spec PyProof.Rows L2
theorem bt_len : bootBuiltins "len" = some (.builtin "len") := by decide +kernel
theorem bt_sum : bootBuiltins "sum" = some (.builtin "sum") := by decide +kernel
theorem bt_all : bootBuiltins "all" = some (.builtin "all") := by decide +kernel
theorem bt_abs : bootBuiltins "abs" = some (.builtin "abs") := by decide +kernel
theorem bt_max : bootBuiltins "max" = some (.builtin "max") := by decide +kernel
theorem bt_min : bootBuiltins "min" = some (.builtin "min") := by decide +kernel
theorem bt_divmod : bootBuiltins "divmod" = some (.builtin "divmod") := by decide +kernel
theorem bt_isinstance : bootBuiltins "isinstance" = some (.builtin "isinstance") := by decide +kernel
theorem bt_sorted : bootBuiltins "sorted" = some (.builtin "sorted") := by decide +kernel
theorem bt_int : bootBuiltins "int" = some (.type "int") := by decide +kernel
theorem bt_bool : bootBuiltins "bool" = some (.type "bool") := by decide +kernel
theorem bt_list : bootBuiltins "list" = some (.type "list") := by decide +kernel
theorem bt_tuple : bootBuiltins "tuple" = some (.type "tuple") := by decide +kernel
section
variable {X : Cx} {W : WX} {s : Expr} {fs : EvA} {f : FA} {r : List V → Hp → VK → Prop}
theorem g_blt (h : PE X s (tCB r (rdA X.K W fs))) (hv : CallV X.K r f) : PE X s (rdE X.K W (callE f fs)) := h.imp (rd_call hv)
theorem c_len : CallR X (.builtin "len") (fun xs H Q => (∃ p ys, xs = [.ref p] ∧ (SqL X.K H p ys ∨ SqT X.K H p ys) ∧ Q (.int ys.length) H) ∨ ∃ z, xs = [.str z] ∧ z.length ≤ sizeLine ∧ Q (.int z.length) H) := CallR.or call_len_seq call_len_str
theorem c_divmod : CallR X (.builtin "divmod") (fun xs H Q => (∃ i j, xs = [.int i, .int j] ∧ CDiv i j ∧ ∀ p, H p = none → Q (.ref p) (upd H p (.tup [.int (i / j), .int (i % j)]))) ∨
    ∃ i j, xs = [.int i, .int j] ∧ CDivP i j ∧ ∀ p, H p = none → Q (.ref p) (upd H p (.tup [.int (i / j), .int (i % j)]))) := CallR.or call_divmod call_divmodW
theorem c_max (hc : X.calm = true) : CallR X (.builtin "max") (fun xs H Q => (∃ i j, xs = [.int i, .int j] ∧ Q (.int (if j > i then j else i)) H) ∨ qMax X.K xs H Q) := CallR.or (call_max2 hc) (cq_max hc)
theorem c_min (hc : X.calm = true) : CallR X (.builtin "min") (fun xs H Q => (∃ i j, xs = [.int i, .int j] ∧ Q (.int (if j < i then j else i)) H) ∨ qMin X.K xs H Q) := CallR.or (call_min2 hc) (cq_min hc)
theorem g_globI {x : Str} {pos : Pos} {i : Int} (hg : Gl X x) (h : ∃ t, X.mg x = some (.int i t)) (hd : (x == ("__debug__" : Str)) = false) : PE X (.Name x pos) (rdE X.K W (cE (.int i))) := by
  obtain ⟨t, h⟩ := h
  exact g_c (v := .int i) (pe_glob hg h ⟨t, rfl⟩ hd) (rep_int i)
theorem g_lc {it : EvI} {t : Tg} {tt : EvB} {fe : EvE} {vs : List Nat} (hv : ∀ i ∈ Tg.names t, i ∈ vs) (h : PE X s (tLc (rdI X.K W it) (Tg.raw X.K t) (rdB X.K W0 tt) (rdE X.K W0 fe) vs)) : PE X s (rdE X.K W (lcE it t tt fe vs)) := h.imp (rd_lc hv)
theorem s_set {i : Nat} {fa : EvE} {s : Stmt} (h : PS X s (tAsg (rdE X.K W fa) (gName i))) : PS X s (rdS X.K W (asgS fa (nameT i))) :=
  h.imp fun T σ H ⟨env, M, st, eo, so, p⟩ => ⟨env, M, st, eo, so, Post.imp (PostS.bind eo p) fun x H1 ⟨M1, st1, d, g, so1, ra, p1⟩ => p1 M1 H1 _ .refl so1 ((eo.grow g).set i ra)⟩
def parS (i j : Nat) (fs : EvA) : SvS := fun env st => bindS (fs env st) env fun as st1 => match as with
  | [a, b] => .nx ((env.set i (some a)).set j (some b)) st1
  | _ => .fail
def parS3 (i j k : Nat) (fs : EvA) : SvS := fun env st => bindS (fs env st) env fun as st1 => match as with
  | [a, b, c] => .nx (((env.set i (some a)).set j (some b)).set k (some c)) st1
  | _ => .fail
theorem s_par {i j : Nat} {s : Stmt} (h : PS X s (tPar i j (rdA X.K W fs))) : PS X s (rdS X.K W (parS i j fs)) :=
  h.imp fun T σ H ⟨env, M, st, eo, so, p⟩ => ⟨env, M, st, eo, so, Post.imp (PostS.bind eo p) fun vs H1 ⟨M1, st1, ds, g, so1, ra, p1⟩ => by
    match ds, ra, p1 with
    | [a, b], ra, p1 =>
      obtain ⟨x, y, rfl, rx, ry⟩ := ra.two
      exact ⟨x, y, rfl, p1 M1 H1 _ .refl so1 (((eo.grow g).set i rx).set j ry)⟩
    | [], _, p1 => exact p1.elim
    | [_], _, p1 => exact p1.elim
    | _ :: _ :: _ :: _, _, p1 => exact p1.elim⟩
end
structure Kn (P : Program) (w : World) (K : PySem.W.Frag) (mg : Str → Option Value) (base : Heap) (x : Str) (s : Stmt) (ps : List Str) (k : Nat) (F : FA) : Prop where
  ex : ∃ (f : Addr) (fd : FuncData) (z : Str), mg x = some (.ref f) ∧ Fun K z z s f fd ∧ Binds K fd ps [] ∧ FnG P w K mg base k f fd ps (spG K F)
def Std (K : PySem.W.Frag) (mg : Str → Option Value) (x z : Str) (s : Stmt) : Prop := ∃ (f : Addr) (fd : FuncData), mg x = some (.ref f) ∧ Fun K z z s f fd
section
variable {P : Program} {w : World} {K : PySem.W.Frag} {mg : Str → Option Value} {base : Heap}
theorem kn_of {x z : Str} {s : Stmt} {N ps : List Str} {k n m : Nat} {B : SvS} (S : Std K mg x z s) (Sc : FnScope N ps (defScope s)) (hn : ps.length = n) (hm : N.length = m)
    (hb : ∀ (kV doc pm : Value) (an : Option Addr) (cdv ct : Value) (us : List Value), us.length = ps.length → bindArgs (PySem.W.fnOf z z (defArgs s) (defBody s) (defScope s) .none kV doc pm an cdv ct) ⟨us, []⟩ = pure (ps.zip us))
    (hbody : ∀ (f : Addr) (cdv : Value) (A : Around) (outer : List PySem.Env) (s' : Shared) (H : Hp) (E : XK), RoomG k (A.deeper (envOfC z (defScope s) s'.heap.objs.size f cdv)) →
      PSs (cxOf (L2.CX P w) P w K mg base N z (defScope s) f cdv A outer s' H E) (defBody s) (rdS K (Wd E) B)) : Kn P w K mg base x s ps (k + 1) (runF n m B) := by
  obtain ⟨f, fd, hmg, F⟩ := S
  exact ⟨f, fd, z, hmg, F, F.binds hb, fn_ok F Sc hn hm fun cdv A outer s' H E hr => hbody f cdv A outer s' H E hr⟩
end
section
variable {X : Cx} {W : WX} {F : FA} {k : Nat} {ps : List Str} {x : Str} {st : Stmt} {p pos : Pos} {e : Expr} {es : List Expr} {fs fk : EvA}
theorem g_calln (C : Kn X.prog X.w X.K X.mg X.base x st ps k F) (hr : RoomG k X.A) (hg : Gl X x) (tk : Takes X W)
    (ha : PA X (e :: es) (rdA X.K W fs)) (hdb : (x == ("__debug__" : Str)) = false) (he : starEach (e :: es) X.env = (false, eval e X.env) :: starEach es X.env) (hpl : (backTo pos (starEach es X.env)).any (·.1) = false) :
    PE X (.Call (.Name x p) (e :: es) [] pos) (rdE X.K W (callE F fs)) := by
  obtain ⟨f, fd, z, hm, Fn, hb, G⟩ := C.ex
  exact g_call G hr hg hm Fn.kp hb tk ha hdb he hpl
theorem g_callkn0 {ks : List Str} {ix : List Nat} {kws : List Keyword} (C : Kn X.prog X.w X.K X.mg X.base x st ps k F) (hr : RoomG k X.A) (hg : Gl X x) (tk : Takes X W)
    (hkb : ∀ (z : Str) (kV doc pm : Value) (an : Option Addr) (cdv ct : Value) (us ws : List Value), us.length = 0 → ws.length = ks.length → bindArgs (PySem.W.fnOf z z (defArgs st) (defBody st) (defScope st) .none kV doc pm an cdv ct) ⟨us, ks.zip ws⟩ = pure (ps.zip (pick us ws ix)))
    (hkw : PK X kws (rdA X.K W fk)) (hall : (backToKw pos (keywordEach kws X.env)).all (·.1.isSome) = true) (hks : (backToKw pos (keywordEach kws X.env)).filterMap (·.1) = ks)
    (hdb : (x == ("__debug__" : Str)) = false)
    (hpl : ((backTo pos (starEach [] X.env)).any (·.1) || (backToKw pos (keywordEach kws X.env)).any (·.1.isNone)) = false) :
    PE X (.Call (.Name x p) [] kws pos) (rdE X.K W (callKE F nilA fk 0 ks.length ix)) := by
  obtain ⟨f, fd, z, hm, Fn, hb, G⟩ := C.ex
  exact g_callK0 G hr hg hm Fn.kp (kb_of Fn (hkb z)) tk hkw hall hks hdb hpl
end
end G
namespace G
open PySem PySem.Spec PyProof.Rows L2
theorem fun_inj {K : PySem.W.Frag} {x qual x' qual' : Str} {s s' : Stmt} {f : Addr} {fd fd' : FuncData} (F : Fun K x qual s f fd) (F' : Fun K x' qual' s' f fd') : fd' = fd := by
  obtain ⟨oc, od, kV, doc, pm, an, cdv, ct, osl, e, lk, hcd⟩ := F.ex
  obtain ⟨oc', od', kV', doc', pm', an', cdv', ct', osl', e', lk', hcd'⟩ := F'.ex
  rw [lk] at lk'
  injection lk' with q
  injection q with _ _ q3 _
  injection q3 with q4
  exact q4.symm
theorem law_fd {l : PySem.W.OpenLaw} {w : World} {K : PySem.W.Frag} {mg : Str → Option Value} {fa : Addr} {fd : FuncData} {s : Stmt} {k : Nat} {F : FA} (hfa : mg "law" = some (.ref fa)) (Fn : Fun K "law" "law" s fa fd)
    (hb : ∀ (s : Shared) (v : Value), BindsTo s fd ⟨[v], []⟩ [("script", v)])
    (h : ∀ base : Heap, K.In base → base.Ns mainGlobals mg → Kn l.prog w K mg base "law" s ["script"] k F) :
    ∃ fd : FuncData, (∀ (s : Shared) (v : Value), BindsTo s fd ⟨[v], []⟩ [("script", v)]) ∧ ∀ base : Heap, K.In base → base.Ns mainGlobals mg → FnG l.prog w K mg base k fa fd ["script"] (spG K F) := by
  refine ⟨fd, hb, fun base h1 h2 => ?_⟩
  obtain ⟨f, fd', z, hm, Fn', _, G⟩ := (h base h1 h2).ex
  rw [hfa] at hm
  injection hm with hm
  injection hm with hm
  subst hm
  have e := fun_inj Fn Fn'
  subst e
  exact G
theorem cx_no {P : Program} {w : World} {outer : List PySem.Env} {H : Hp} {s : Shared} {e : Value} {s' : Shared} (h : L2.CX P w outer H s (fun _ _ _ => False) e s') : False := by
  obtain ⟨_, _, _, _, _, _, _, _, _, _, _, _, z⟩ := h
  exact z
theorem law_sp {K : PySem.W.Frag} {F : FA} {H : Hp} {a : Addr} {ns : List Int} (hS : SqL K H a (ns.map V.int)) (h : ∃ st, F [.slo (ns.map D.int)] [] = .ok (.bl true) st) : spG K F [.ref a] H (fun v _ => v = .bl true) fun _ _ _ => False := by
  obtain ⟨st, e⟩ := h
  refine ⟨[.slo (ns.map D.int)], ⟨[], [], fun _ => none⟩, [], .cons ?_ .nil, ⟨rfl, List.nodup_nil, fun a h => by simp at h, fun n a mo h => by simp at h⟩, ?_⟩
  · unfold Rep
    exact ⟨a, _, rfl, hS.imp (fun q => ⟨q, by simp [Mem.no]⟩) id, .ints ns⟩
  · rw [e]
    intro M' H' b _ _ r
    unfold Rep at r
    exact r
section
variable {P : Program} {w : World} {K : PySem.W.Frag} {mg mb : Str → Option Value} {k : Nat} {fa a : Addr} {fd : FuncData} {x : Str} {F : FA} {s : Shared} {vs : List Value} {ns : List Int}
structure Fst (K : PySem.W.Frag) (P : Program) (w : World) (a : Addr) (h : Heap) (ns : List Int) (H : Hp) : Prop where
  only : ∀ b, H b = none ∨ (b = a ∧ K.lookup a = none ∧ ∃ o xs, H b = some (.frz o (.lst xs)))
  at_ : SqL K H a (ns.map V.int)
  ok : HOk P w H h
theorem fst_of (KX : K.In s.heap) (ha : s.heap.get? a = some { cls := .type "list", data := .seq vs.toArray }) (hi : IntsAre vs ns) (hl : ns.length ≤ sizeLine) : ∃ H, Fst K P w a s.heap ns H := by
  have rv := vals_ints hi
  by_cases hk : K.lookup a = none
  · let u : HO := .frz { cls := .type "list", data := .seq vs.toArray } (.lst (ns.map V.int))
    refine ⟨fun b => if b = a then some u else none, fun b => ?_, .inl (.inr ⟨_, if_pos rfl⟩), fun b o e => ?_⟩
    · by_cases hb : b = a
      · exact .inr ⟨hb, hk, _, _, if_pos hb⟩
      · exact .inl (if_neg hb)
    · by_cases hb : b = a
      · subst hb
        have e := (if_pos rfl).symm.trans e
        cases e
        exact ⟨ha, by rw [List.length_map]; exact hl, vs, _, rv, ha⟩
      · have e := (if_neg hb).symm.trans e
        cases e
  · cases hk2 : K.lookup a with
    | none => exact absurd hk2 hk
    | some o =>
      have e := KX a o hk2
      rw [ha] at e
      cases e
      refine ⟨fun _ => none, fun _ => .inl rfl, .inr ⟨_, vs.toArray, _, hk2, rfl, rfl, rfl, ?_, by simpa using rv⟩, fun _ _ e => nomatch e⟩
      rw [List.size_toArray, hi.length]; exact hl
theorem law_run (KX : K.In s.heap) (hns : s.heap.Ns mainGlobals mg) (hb : s.heap.Ns builtinsNs mb) (hbb : ∀ x : Str, x ≠ "__name__" → mb x = bootBuiltins x) (hlim : s.heap.NoLimit) (hg : s.gens = #[])
    (ha : s.heap.get? a = some { cls := .type "list", data := .seq vs.toArray }) (hi : IntsAre vs ns) (hl : ns.length ≤ sizeLine) (hr : RoomG k callerA)
    (hF : ∀ base : Heap, K.In base → base.Ns mainGlobals mg → FnG P w K mg base k fa fd [x] (spG K F)) (hbind : ∀ (s : Shared) (u : Value), BindsTo s fd ⟨[u], []⟩ [(x, u)]) (ht : ∃ st, F [.slo (ns.map D.int)] [] = .ok (.bl true) st) :
    codeAny (model P w) callerA (.call (.ref fa) ⟨[.ref a], []⟩) (fun r s' => r = .ok (.ret (.bool true)) ∧ OldK s.heap s'.heap ∧ s'.os = s.os ∧ AllBare s'.gens) s := by
  obtain ⟨H, F1⟩ := fst_of (P := P) (w := w) KX ha hi hl
  -- a dict, or an object of the module, is not tracked
  have free : ∀ {b : Addr} {o : Obj}, s.heap.get? b = some o → (b = a → K.lookup a = none → False) → H b = none := fun {b o} e z => (F1.only b).elim id fun ⟨h1, h2, _⟩ => (z h1 h2).elim
  have ns_ : ∀ {b : Addr} {m : Str → Option Value}, s.heap.Ns b m → (hidT s.heap H).Ns b m := fun {b m} ⟨o, es, ep, e, d, r⟩ => ⟨o, es, ep, hidT_get e (free e fun h1 _ => by
    subst h1
    rw [ha] at e
    cases e
    exact nomatch (show Data.seq vs.toArray _ = Data.dict es ep from d)), d, r⟩
  have KB : K.In (hidT s.heap H) := fun b o e => hidT_get (KX b o e) (free (KX b o e) fun h1 h2 => by
    subst h1
    rw [h2] at e; cases e)
  have e0 : Env0 P w K mg (hidT s.heap H) callerA [] s H :=
    ⟨rfl, ⟨KB, ns_ hns, ⟨mb, ns_ hb, hbb⟩, let ⟨mc, h1, h2⟩ := hlim; ⟨mc, ns_ h1, h2⟩⟩, fun b o e => of_hidT e, Nat.le_of_eq (hidT_size _ _), True.intro, fun b hb => (nomatch (show b ∈ ([] : List Addr) from hb)), F1.ok, .of_eq hg⟩
  refine codeAny_mono ((hF _ KB (ns_ hns)).run callerA [] s H ⟨[.ref a], []⟩ [.ref a] [.ref a] (fun v _ => v = .bl true) (fun _ _ _ => False) hr e0 (hbind s (.ref a)) (.cons rfl .nil) (law_sp F1.at_ ht)) fun r s' h => ?_
  cases r with
  | error e => exact (cx_no h).elim
  | ok fl =>
    cases fl with
    | next => exact False.elim h
    | brk => exact False.elim h
    | cont => exact False.elim h
    | ret u =>
      obtain ⟨v, H', os, bare, un, hok', r', q⟩ := h
      have q : v = .bl true := q
      subst q
      obtain rfl : u = Value.bool true := r'
      refine ⟨rfl, OldK.of_keep fun b o e => ?_, os, bare⟩
      rcases F1.only b with z | ⟨_, _, ob, xs, z⟩
      · exact un.keep b o e z (fun m => (nomatch (show b ∈ ([] : List Addr) from m))) (by simp)
      · have k1 := (F1.ok b _ z).1
        have k2 := (hok' b _ (un.frzs b ob _ z)).1
        rw [k1] at e
        cases e
        exact k2
theorem walk_end {l : PySem.W.OpenLaw} {n k : Nat} {q : Program} {loose : List Str} {XP : (Str → Option Value) → Heap → Prop} {YP : World → Heap → Prop} {d : DefRec} {K : Params → PySem.W.Frag} {x : Str} {F : FA}
    (hn : l.most = some n) (hn2 : n ≤ sizeLine) (hdf : d.params.defaults = []) (hr : L2.Room k callerA) (hY : ∀ (w : World) (h : Heap), YP w h → (K w.params).In h)
    (hF : ∀ (w : World) (mg : Str → Option Value) (fa : Addr) (h : Heap), (K w.params).In h → h.Ns mainGlobals mg → mg d.name = some (.ref fa) →
      ∃ fd : FuncData, (∀ (s : Shared) (u : Value), BindsTo s fd ⟨[u], []⟩ [(x, u)]) ∧ ∀ base : Heap, (K w.params).In base → base.Ns mainGlobals mg → FnG l.prog w (K w.params) mg base k fa fd [x] (spG (K w.params) F))
    (ht : ∀ ns : List Int, ns.length ≤ n → ∃ st, F [.slo (ns.map D.int)] [] = .ok (.bl true) st) : PySem.W.WalkO q loose XP YP l.row.toRowW d [] (fun f vs => PySem.call f vs) := by
  refine Att.attach_call hn hdf fun w s₀ s₁ mg mb fa o pm cd doc a vs ns G Y ho hd hcd hmg hobj hints hlen hg => ?_
  have KX := hY w _ Y
  obtain ⟨fd, hb, F1⟩ := hF w mg fa _ KX G.T.g hmg
  exact law_run KX G.T.g G.T.b G.T.builtins G.T.nolimit hg hobj hints (Nat.le_trans hlen hn2) ⟨hr, rfl⟩ F1 hb (ht ns hlen)
end
end G
namespace G
open PySem PySem.Spec PyProof.Rows L2
mutual
def rf : D → Bool
  | .mut _ => false
  | .exv .. => false
  | .tup xs => rfL xs
  | .lst xs => rfL xs
  | .slo xs => rfL xs
  | _ => true
def rfL : List D → Bool
  | [] => true
  | x :: xs => rf x && rfL xs
end
def rfM : MO → Bool
  | .lst xs => rfL xs
  | .dd kvs => rfL (kvs.map (·.2))
  | .de kvs => rfL (kvs.map (·.2))
  | .fd kvs => rfL (kvs.map (·.2))
  | .fe kvs => rfL (kvs.map (·.2))
  | _ => true
def rfS (st : Sto) : Bool := st.all rfM
mutual
/-- d with the lists of st that are not below n0 written out, k deep at most -/
def thaw (st : Sto) (n0 : Nat) : Nat → D → Option D
  | k, .tup xs => (thawL st n0 k xs).map .tup
  | k, .lst xs => (thawL st n0 k xs).map .lst
  | k, .slo xs => if rfL xs then some (.slo xs) else none
  | 0, .mut _ => none
  | _, .exv .. => none
  | k + 1, .mut j => if j < n0 then none else match st[j]? with
    | some (.lst xs) => if rfL xs then some (.lst xs) else none
    | _ => none
  | _, d => some d
def thawL (st : Sto) (n0 : Nat) : Nat → List D → Option (List D)
  | _, [] => some []
  | k, x :: xs => match thaw st n0 k x, thawL st n0 k xs with
    | some a, some b => some (a :: b)
    | _, _ => none
end
def fz (n0 : Nat) (r : R D) : R D := match r with
  | .ok d st1 => (match rfS (st1.take n0), thaw st1 n0 1 d with
    | true, some d' => .ok d' (st1.take n0)
    | _, _ => .ok d st1)
  | r => r
section
variable {K : PySem.W.Frag} {M : Mem} {H : Hp} {n0 : Nat}
def Mem.cut (M : Mem) (n : Nat) : Mem := ⟨M.m.take n, M.p, M.f⟩
end
def rangeD (lo : Int) (n : Nat) : List D := (List.range n).map fun k => .int (lo + (k : Nat))
@[simp] theorem rangeD_length (lo : Int) (n : Nat) : (rangeD lo n).length = n := by simp [rangeD]
section
variable (env : Env) (st : Sto)
@[simp] theorem varE_0 (d : D) (r : Env) : varE 0 (some d :: r) st = .ok d st := rfl
@[simp] theorem varE_s (n : Nat) (o : Option D) (r : Env) : varE (n + 1) (o :: r) st = varE n r st := by
  unfold varE
  simp only [List.getElem?_cons_succ]
@[simp] theorem cE_eq (d : D) : cE d env st = .ok d st := rfl
@[simp] theorem unE_eq (f : F1) (a : EvE) : unE f a env st = (a env st).bind f := rfl
@[simp] theorem binE_eq (f : F2) (a b : EvE) : binE f a b env st = (a env st).bind fun x s1 => (b env s1).bind fun y s2 => f x y s2 := rfl
@[simp] theorem tstE_eq (a : EvE) : tstE a env st = (a env st).bind boolR := rfl
@[simp] theorem boolR_eq (b : Bool) : boolR (.bl b) st = .ok b st := rfl
@[simp] theorem chainE_eq (f g : F2) (a b c : EvE) : chainE f g a b c env st = (a env st).bind fun x s1 => (b env s1).bind fun y s2 => (f x y s2).bind fun z s3 => match z with
  | .bl true => (c env s3).bind fun v s4 => g y v s4
  | .bl false => .ok (.bl false) s3
  | _ => .fail := rfl
@[simp] theorem andB_eq (p q : EvB) : andB p q env st = (p env st).bind fun b s1 => if b = true then q env s1 else .ok false s1 := rfl
@[simp] theorem orB_eq (p q : EvB) : orB p q env st = (p env st).bind fun b s1 => if b = true then .ok true s1 else q env s1 := rfl
@[simp] theorem notB_eq (p : EvB) : notB p env st = (p env st).bind fun b s1 => .ok (!b) s1 := rfl
@[simp] theorem ifE_eq (t : EvB) (a b : EvE) : ifE t a b env st = (t env st).bind fun x s1 => if x = true then a env s1 else b env s1 := rfl
@[simp] theorem andE_eq (a b : EvE) : andE a b env st = (a env st).bind fun x s1 => match x with
  | .bl true => b env s1
  | .bl false => .ok (.bl false) s1
  | _ => .fail := rfl
@[simp] theorem notE_eq (a : EvE) : notE a env st = (a env st).bind fun x s1 => match x with
  | .bl b => .ok (.bl (!b)) s1
  | _ => .fail := rfl
@[simp] theorem nilA_eq : nilA env st = .ok [] st := rfl
@[simp] theorem consA_eq (a : EvE) (r : EvA) : consA a r env st = (a env st).bind fun x s1 => (r env s1).bind fun xs s2 => .ok (x :: xs) s2 := rfl
@[simp] theorem starA_eq (a : EvE) (r : EvA) : starA a r env st = (a env st).bind fun x s1 => match itemsOf x with
  | some xs => (r env s1).bind fun ys s2 => .ok (xs ++ ys) s2
  | none => .fail := rfl
@[simp] theorem tupE_eq (fs : EvA) : tupE fs env st = (fs env st).bind fun xs s1 => if xs.length ≤ 16777216 then .ok (.tup xs) s1 else .fail := rfl
@[simp] theorem lstE_eq (fs : EvA) : lstE fs env st = (fs env st).bind fun xs s1 => if xs.length ≤ 16777216 then .ok (.lst xs) s1 else .fail := rfl
@[simp] theorem mutE_eq (fs : EvA) : mutE fs env st = (fs env st).bind fun xs s1 => if xs.length ≤ 16777216 then .ok (.mut s1.length) (s1 ++ [.lst xs]) else .fail := rfl
@[simp] theorem callE_eq (f : FA) (fs : EvA) : callE f fs env st = (fs env st).bind f := rfl
@[simp] theorem noO_eq : noO env st = .ok none st := rfl
@[simp] theorem someO_eq (a : EvE) : someO a env st = (a env st).bind fun x s1 => match x with
  | .int i => .ok (some i) s1
  | _ => .fail := rfl
@[simp] theorem sliceE_eq (a : EvE) (l h : EvO) : sliceE a l h env st = (a env st).bind fun x s1 => (l env s1).bind fun l s2 => (h env s2).bind fun h s3 => sliceD x l h s3 := rfl
@[simp] theorem callKE_eq (F : FA) (fs ks : EvA) (n m : Nat) (ix : List Nat) : callKE F fs ks n m ix env st = (fs env st).bind fun us s1 => (ks env s1).bind fun ws s2 => if us.length = n ∧ ws.length = m then F (pick us ws ix) s2 else .fail := rfl
@[simp] theorem methLE_eq (f : FM) (o : EvE) (fs : EvA) : methLE f o fs env st = (o env st).bind fun x s1 => if isL x s1 = true then (fs env s1).bind fun as s2 => f x as s2 else .fail := rfl
@[simp] theorem passS_eq : passS env st = .nx env st := rfl
@[simp] theorem retS_eq (a : EvE) : retS a env st = bindS (a env st) env fun d s1 => .ret d s1 := rfl
@[simp] theorem exprS_eq (a : EvE) : exprS a env st = bindS (a env st) env fun _ s1 => .nx env s1 := rfl
@[simp] theorem ifS_eq (t : EvB) (f g : SvS) : ifS t f g env st = bindS (t env st) env fun b s1 => if b = true then f env s1 else g env s1 := rfl
def thenS (s : S) (g : SvS) : S := match s with
  | .nx e s1 => g e s1
  | s => s
@[simp] theorem seqS_eq (f g : SvS) : seqS f g env st = thenS (f env st) g := by
  unfold seqS thenS
  cases f env st <;> rfl
@[simp] theorem thenS_nx (g : SvS) : thenS (.nx env st) g = g env st := rfl
@[simp] theorem thenS_ret (d : D) (g : SvS) : thenS (.ret d st) g = .ret d st := rfl
@[simp] theorem thenS_ite {c : Prop} [Decidable c] (a b : S) (g : SvS) : thenS (if c then a else b) g = if c then thenS a g else thenS b g := by split <;> rfl
@[simp] theorem asgS_eq (a : EvE) (g : TgF) : asgS a g env st = bindS (a env st) env fun d s1 => bindS (g d env s1) env fun e s2 => .nx e s2 := rfl
@[simp] theorem nameT_eq (i : Nat) (d : D) : nameT i d env st = .ok (env.set i (some d)) st := rfl
@[simp] theorem tupT_eq (n : Nat) (fs : List D → Env → Sto → R Env) (xs : List D) : tupT n fs (.tup xs) env st = if xs.length = n then fs xs env st else .fail := rfl
@[simp] theorem nilT_eq : nilT [] env st = .ok env st := rfl
@[simp] theorem consT_eq (f : TgF) (fs : List D → Env → Sto → R Env) (d : D) (r : List D) : consT f fs (d :: r) env st = match f d env st with
    | .ok e s => (match fs r e s with
      | .ok e2 s2 => .ok e2 s2
      | _ => .fail)
    | _ => .fail := rfl
@[simp] theorem parS_eq (i j : Nat) (fs : EvA) : parS i j fs env st = bindS (fs env st) env fun as s1 => match as with
  | [a, b] => .nx ((env.set i (some a)).set j (some b)) s1
  | _ => .fail := rfl
@[simp] theorem forS_eq (it : EvI) (g : TgF) (body : SvS) : forS it g body env st = bindS (it env st) env fun I s1 => match I with
  | .frz xs => loopF g body xs env s1
  | .gen nxt k => loopG g body nxt k 0 env s1 := rfl
@[simp] theorem tgT_nm (i : Nat) (d : D) : tgT (.nm i) d env st = .ok (env.set i (some d)) st := rfl
@[simp] theorem callI_eq (f : List D → Sto → R ItD) (fs : EvA) : callI f fs env st = (fs env st).bind f := rfl
@[simp] theorem iterE_eq (a : EvE) : iterE a env st = (a env st).bind iterD := rfl
@[simp] theorem iterD_tup (xs : List D) : iterD (.tup xs) st = .ok (.frz xs) st := rfl
@[simp] theorem iterD_lst (xs : List D) : iterD (.lst xs) st = .ok (.frz xs) st := rfl
@[simp] theorem iterD_slo (xs : List D) : iterD (.slo xs) st = .ok (.frz xs) st := rfl
@[simp] theorem range1F_eq (j : Int) : range1F [.int j] st = if j.natAbs < 2 ^ 62 then .ok (.frz (rangeD 0 j.toNat)) st else .fail := rfl
@[simp] theorem range2F_eq (i j : Int) : range2F [.int i, .int j] st = if i.natAbs < 2 ^ 62 ∧ j.natAbs < 2 ^ 62 then .ok (.frz (rangeD i (j - i).toNat)) st else .fail := rfl
@[simp] theorem addD_int (i j : Int) : addD (.int i) (.int j) st = .ok (.int (i + j)) st := rfl
@[simp] theorem subD_int (i j : Int) : subD (.int i) (.int j) st = .ok (.int (i - j)) st := rfl
@[simp] theorem mulD_int (i j : Int) : mulD (.int i) (.int j) st = if mulOk i j then .ok (.int (i * j)) st else .fail := rfl
@[simp] theorem fdivD_int (i j : Int) : fdivD (.int i) (.int j) st = if 0 < j ∧ j.natAbs < big then .ok (.int (i / j)) st else .fail := rfl
@[simp] theorem modD_int (i j : Int) : modD (.int i) (.int j) st = if 0 < j then .ok (.int (i % j)) st else .fail := rfl
@[simp] theorem powD_int (i j : Int) : powD (.int i) (.int j) st = if 0 ≤ j ∧ j ≤ 1000000 ∧ i.natAbs < 2 ^ 64 then .ok (.int (i ^ j.toNat)) st else .fail := rfl
@[simp] theorem negD_int (i : Int) : negD (.int i) st = .ok (.int (-i)) st := rfl
@[simp] theorem ltD_int (i j : Int) : ltD (.int i) (.int j) st = .ok (.bl (decide (i < j))) st := rfl
@[simp] theorem leD_int (i j : Int) : leD (.int i) (.int j) st = .ok (.bl (decide (i ≤ j))) st := rfl
@[simp] theorem gtD_int (i j : Int) : gtD (.int i) (.int j) st = .ok (.bl (decide (j < i))) st := rfl
@[simp] theorem geD_int (i j : Int) : geD (.int i) (.int j) st = .ok (.bl (decide (j ≤ i))) st := rfl
@[simp] theorem eqD_int (i j : Int) : eqD (.int i) (.int j) st = .ok (.bl (decide (i = j))) st := rfl
@[simp] theorem neD_int (i j : Int) : neD (.int i) (.int j) st = .ok (.bl (!decide (i = j))) st := rfl
@[simp] theorem absF_int (i : Int) : absF [.int i] st = .ok (.int (if i < 0 then -i else i)) st := rfl
@[simp] theorem intF_int (i : Int) : intF [.int i] st = .ok (.int i) st := rfl
@[simp] theorem maxF_int (i j : Int) : maxF [.int i, .int j] st = .ok (.int (if j > i then j else i)) st := rfl
@[simp] theorem minF_int (i j : Int) : minF [.int i, .int j] st = .ok (.int (if j < i then j else i)) st := rfl
@[simp] theorem divmodF_int (i j : Int) : divmodF [.int i, .int j] st = if 0 < j ∧ (j < 1073741824 ∨ i.natAbs < big ∨ j.natAbs < big) then .ok (.tup [.int (i / j), .int (i % j)]) st else .fail := rfl
@[simp] theorem lenF_tup (xs : List D) : lenF [.tup xs] st = .ok (.int xs.length) st := rfl
@[simp] theorem lenF_lst (xs : List D) : lenF [.lst xs] st = .ok (.int xs.length) st := rfl
@[simp] theorem lenF_slo (xs : List D) : lenF [.slo xs] st = .ok (.int xs.length) st := rfl
@[simp] theorem listF_tup (xs : List D) : listF [.tup xs] st = .ok (.lst xs) st := rfl
@[simp] theorem listF_lst (xs : List D) : listF [.lst xs] st = .ok (.lst xs) st := rfl
@[simp] theorem tupleF_tup (xs : List D) : tupleF [.tup xs] st = .ok (.tup xs) st := rfl
@[simp] theorem tupleF_lst (xs : List D) : tupleF [.lst xs] st = .ok (.tup xs) st := rfl
@[simp] theorem sumF_ints (ns : List Int) : sumF [.lst (ns.map D.int)] st = .ok (.int ns.sum) st := by
  show (match (some (ns.map D.int)).bind intsOf with
    | some ns => R.ok (D.int ns.sum) st
    | none => .fail) = _
  simp
@[simp] theorem allF_bools (ns : List Bool) : allF [.lst (ns.map D.bl)] st = .ok (.bl (ns.all id)) st := by
  show (match (some (ns.map D.bl)).bind boolsOf with
    | some ns => R.ok (D.bl (ns.all id)) st
    | none => .fail) = _
  simp
@[simp] theorem anyF_bools (ns : List Bool) : anyF [.lst (ns.map D.bl)] st = .ok (.bl (ns.any id)) st := by
  show (match (some (ns.map D.bl)).bind boolsOf with
    | some ns => R.ok (D.bl (ns.any id)) st
    | none => .fail) = _
  simp
@[simp] theorem sliceD_tup (xs : List D) (l h : Option Int) : sliceD (.tup xs) l h st = .ok (.tup (cutD xs l h)) st := rfl
@[simp] theorem sliceD_lst (xs : List D) (l h : Option Int) : sliceD (.lst xs) l h st = .ok (.lst (cutD xs l h)) st := rfl
@[simp] theorem sliceD_slo (xs : List D) (l h : Option Int) : sliceD (.slo xs) l h st = .ok (.lst (cutD xs l h)) st := rfl
@[simp] theorem itemsOf_tup (xs : List D) : itemsOf (.tup xs) = some xs := rfl
@[simp] theorem itemsOf_lst (xs : List D) : itemsOf (.lst xs) = some xs := rfl
@[simp] theorem isiD_int (c : Tag) (i : Int) : isiD c (.int i) st = .ok (.bl (isiB .int c)) st := rfl
@[simp] theorem isiD_bl (c : Tag) (i : Bool) : isiD c (.bl i) st = .ok (.bl (isiB .bl c)) st := rfl
@[simp] theorem isiD_str (c : Tag) (i : Str) : isiD c (.str i) st = .ok (.bl (isiB .str c)) st := rfl
@[simp] theorem isiD_non (c : Tag) : isiD c .non st = .ok (.bl (isiB .non c)) st := rfl
@[simp] theorem isiD_tup (c : Tag) (xs : List D) : isiD c (.tup xs) st = .ok (.bl (isiB .tup c)) st := rfl
@[simp] theorem isiD_lst (c : Tag) (xs : List D) : isiD c (.lst xs) st = .ok (.bl (isiB .lst c)) st := rfl
end
theorem ixD_tup (xs : List D) (i : Int) (st : Sto) {d : D} (h : L2.atI xs i = some d) : ixD (.tup xs) (.int i) st = .ok d st := by
  show (match (some xs).bind fun xs => L2.atI xs i with
      | some d => R.ok d st
      | none => .fail) = _
  simp [h]
theorem ixD_lst (xs : List D) (i : Int) (st : Sto) {d : D} (h : L2.atI xs i = some d) : ixD (.lst xs) (.int i) st = .ok d st := by
  show (match (some xs).bind fun xs => L2.atI xs i with
      | some d => R.ok d st
      | none => .fail) = _
  simp [h]
theorem ixD_slo (xs : List D) (i : Int) (st : Sto) {d : D} (h : L2.atI xs i = some d) : ixD (.slo xs) (.int i) st = .ok d st := by
  show (match (some xs).bind fun xs => L2.atI xs i with
      | some d => R.ok d st
      | none => .fail) = _
  simp [h]
theorem ixD_mut (n : Nat) (xs : List D) (i : Int) (st : Sto) {d : D} (hn : st[n]? = some (.lst xs)) (h : L2.atI xs i = some d) : ixD (.mut n) (.int i) st = .ok d st := by
  have e : seqOf (.mut n) st = some xs := by simp [seqOf, hn]
  show (match (seqOf (.mut n) st).bind fun xs => L2.atI xs i with
      | some d => R.ok d st
      | none => .fail) = _
  simp [e, h]
end G
namespace G
open PySem PySem.Spec PyProof.Rows L2
def tupI (ts : List Int) : D := .tup (ts.map D.int)
def lstI (ts : List Int) : D := .lst (ts.map D.int)
def lstB (ts : List Bool) : D := .lst (ts.map D.bl)
@[simp] theorem cutD_from (xs : List D) (m : Nat) : cutD xs (some (m : Int)) none = xs.drop m := by
  unfold cutD
  rw [HT.sIx_nat, HT.sIx_none]
  by_cases h : m ≤ xs.length
  · rw [Nat.min_eq_left h, List.take_of_length_le (by simp)]
  · rw [Nat.min_eq_right (by omega), List.drop_of_length_le (Nat.le_refl _), List.drop_of_length_le (by omega)]
    simp
@[simp] theorem cutD_to (xs : List D) (m : Nat) : cutD xs none (some (m : Int)) = xs.take m := by
  unfold cutD
  rw [HT.sIx_nat, HT.sIx_none, List.drop_zero, Nat.sub_zero]
  by_cases h : m ≤ xs.length
  · rw [Nat.min_eq_left h]
  · rw [Nat.min_eq_right (by omega), List.take_of_length_le (Nat.le_refl _), List.take_of_length_le (by omega)]
@[simp] theorem cutD_both (xs : List D) (a b : Nat) : cutD xs (some (a : Int)) (some (b : Int)) = (xs.drop a).take (b - a) := by
  unfold cutD
  rw [HT.sIx_nat, HT.sIx_nat]
  apply List.ext_getElem?
  intro i
  rw [List.getElem?_take, List.getElem?_take, List.getElem?_drop, List.getElem?_drop]
  by_cases h1 : a ≤ xs.length
  · rw [show min a xs.length = a by omega]
    by_cases h2 : b ≤ xs.length
    · rw [show min b xs.length = b by omega]
    · rw [show min b xs.length = xs.length by omega]
      by_cases h3 : a + i < xs.length
      · rw [if_pos (by omega), if_pos (by omega)]
      · rw [List.getElem?_eq_none (by omega)]; simp
  · rw [show min a xs.length = xs.length by omega]
    have e1 : xs[xs.length + i]? = none := List.getElem?_eq_none (by omega)
    have e2 : xs[a + i]? = none := List.getElem?_eq_none (by omega)
    rw [e1, e2]
    simp
theorem atI_nat' {α : Type} (xs : List α) (i : Nat) (h : i < xs.length) : L2.atI xs (i : Int) = some xs[i] := by
  unfold L2.atI L2.ixN
  rw [if_pos (by omega), if_pos (by omega)]
  simp [h]
theorem atI_map {α β : Type} (f : α → β) (xs : List α) (i : Int) : L2.atI (xs.map f) i = (L2.atI xs i).map f := by
  unfold L2.atI
  rw [List.length_map]
  cases L2.ixN xs.length i with
  | none => rfl
  | some j => simp
theorem atI_emod {ts : List Int} {i : Int} (h : 0 ≤ i) (hl : i < ts.length) : L2.atI (ts.map D.int) i = some (.int (ts.getD i.toNat 0)) := by
  obtain ⟨k, rfl⟩ := Int.eq_ofNat_of_zero_le h
  rw [atI_map, atI_nat' ts k (by omega)]
  have hk : k < ts.length := by omega
  simp [List.getD, hk]
def cutL {α : Type} (xs : List α) (lo hi : Option Int) : List α := (xs.drop (HT.sIx xs.length 0 lo)).take (HT.sIx xs.length xs.length hi - HT.sIx xs.length 0 lo)
theorem cutD_map {α : Type} (f : α → D) (xs : List α) (lo hi : Option Int) : cutD (xs.map f) lo hi = (cutL xs lo hi).map f := by
  unfold cutD cutL
  rw [List.length_map, List.map_take, List.map_drop]
theorem cutL_from {α : Type} (xs : List α) (m : Nat) : cutL xs (some (m : Int)) none = xs.drop m := by
  unfold cutL
  rw [HT.sIx_nat, HT.sIx_none]
  by_cases h : m ≤ xs.length
  · rw [Nat.min_eq_left h, List.take_of_length_le (by simp)]
  · rw [Nat.min_eq_right (by omega), List.drop_of_length_le (Nat.le_refl _), List.drop_of_length_le (by omega)]
    simp
theorem cutL_to {α : Type} (xs : List α) (m : Nat) : cutL xs none (some (m : Int)) = xs.take m := by
  unfold cutL
  rw [HT.sIx_nat, HT.sIx_none, List.drop_zero, Nat.sub_zero]
  by_cases h : m ≤ xs.length
  · rw [Nat.min_eq_left h]
  · rw [Nat.min_eq_right (by omega), List.take_of_length_le (Nat.le_refl _), List.take_of_length_le (by omega)]
section
variable (st : Sto) (ts : List Int)
@[simp] theorem lenF_tupI : lenF [tupI ts] st = .ok (.int ts.length) st := by unfold tupI; rw [lenF_tup, List.length_map]
@[simp] theorem lenF_lstI : lenF [lstI ts] st = .ok (.int ts.length) st := by unfold lstI; rw [lenF_lst, List.length_map]
@[simp] theorem listF_tupI : listF [tupI ts] st = .ok (lstI ts) st := rfl
@[simp] theorem listF_lstI : listF [lstI ts] st = .ok (lstI ts) st := rfl
@[simp] theorem tupleF_tupI : tupleF [tupI ts] st = .ok (tupI ts) st := rfl
@[simp] theorem tupleF_lstI : tupleF [lstI ts] st = .ok (tupI ts) st := rfl
@[simp] theorem sumF_tupI : sumF [tupI ts] st = .ok (.int ts.sum) st := by
  show (match (seqOf (D.tup (ts.map D.int)) st).bind intsOf with | some ns => _ | none => _) = _
  simp [seqOf, itemsOf]
@[simp] theorem sumF_lstI : sumF [lstI ts] st = .ok (.int ts.sum) st := sumF_ints st ts
@[simp] theorem sliceD_tupI (l h : Option Int) : sliceD (tupI ts) l h st = .ok (tupI (cutL ts l h)) st := by unfold tupI; rw [sliceD_tup, cutD_map]
@[simp] theorem sliceD_lstI (l h : Option Int) : sliceD (lstI ts) l h st = .ok (lstI (cutL ts l h)) st := by unfold lstI; rw [sliceD_lst, cutD_map]
@[simp] theorem itemsOf_tupI : itemsOf (tupI ts) = some (ts.map D.int) := rfl
@[simp] theorem itemsOf_lstI : itemsOf (lstI ts) = some (ts.map D.int) := rfl
@[simp] theorem iterD_tupI : iterD (tupI ts) st = .ok (.frz (ts.map D.int)) st := rfl
@[simp] theorem iterD_lstI : iterD (lstI ts) st = .ok (.frz (ts.map D.int)) st := rfl
@[simp] theorem isiD_tupI (c : Tag) : isiD c (tupI ts) st = .ok (.bl (isiB .tup c)) st := rfl
@[simp] theorem isiD_lstI (c : Tag) : isiD c (lstI ts) st = .ok (.bl (isiB .lst c)) st := rfl
@[simp] theorem allF_lstB (bs : List Bool) : allF [lstB bs] st = .ok (.bl (bs.all id)) st := allF_bools st bs
@[simp] theorem anyF_lstB (bs : List Bool) : anyF [lstB bs] st = .ok (.bl (bs.any id)) st := anyF_bools st bs
theorem ixD_tupI (i : Int) (h : 0 ≤ i) (hl : i < ts.length) : ixD (tupI ts) (.int i) st = .ok (.int (ts.getD i.toNat 0)) st := ixD_tup _ _ _ (atI_emod h hl)
theorem divmodF_nat (n m : Nat) (h : 0 < m) (h2 : m < 1073741824 ∨ n < big) : divmodF [.int n, .int m] st = .ok (.tup [.int (n / m : Nat), .int (n % m : Nat)]) st := by
  rw [divmodF_int, if_pos ⟨by omega, h2.imp (fun z => by omega) (fun z => .inl (by simpa using z))⟩]; rfl
end
theorem loopF_nx {g : TgF} {body : SvS} (Inv : Nat → Env → Sto → Prop) : ∀ (xs : List D) (i : Nat) (env : Env) (st : Sto), Inv i env st →
    (∀ j x env st, xs[j]? = some x → Inv (i + j) env st → ∃ env' st', turnS (bindS (g x env st) env body) (fun e s => .nx e s) = .nx env' st' ∧ (∀ k, turnS (bindS (g x env st) env body) k = k env' st') ∧ Inv (i + j + 1) env' st') →
    ∃ env' st', loopF g body xs env st = .nx env' st' ∧ Inv (i + xs.length) env' st'
  | [], i, env, st, h0, _ => ⟨env, st, rfl, h0⟩
  | x :: xs, i, env, st, h0, hs => by
    obtain ⟨e1, s1, _, t1, h1⟩ := hs 0 x env st rfl h0
    obtain ⟨e2, s2, t2, h2⟩ := loopF_nx Inv xs (i + 1) e1 s1 h1 fun j y e s hj hI => by
      have := hs (j + 1) y e s (by simpa using hj) (by rw [show i + (j + 1) = i + 1 + j by omega]; exact hI)
      rw [show i + (j + 1) + 1 = i + 1 + j + 1 by omega] at this
      exact this
    refine ⟨e2, s2, ?_, by rw [show i + (x :: xs).length = i + 1 + xs.length by simp; omega]; exact h2⟩
    unfold loopF
    rw [t1]; exact t2
theorem loop_nx {g : TgF} {body : SvS} (Inv : Nat → Env → Sto → Prop) {xs : List D} {env : Env} {st : Sto} (h0 : Inv 0 env st)
    (hs : ∀ j x env st, xs[j]? = some x → Inv j env st → ∃ env' st', bindS (g x env st) env body = .nx env' st' ∧ Inv (j + 1) env' st') :
    ∃ env' st', loopF g body xs env st = .nx env' st' ∧ Inv xs.length env' st' := by
  have := loopF_nx (g := g) (body := body) Inv xs 0 env st h0 fun j x e s hj hI => by
    rw [Nat.zero_add] at hI ⊢
    obtain ⟨e1, s1, t1, h1⟩ := hs j x e s hj hI
    exact ⟨e1, s1, by rw [t1]; rfl, fun k => by rw [t1]; rfl, h1⟩
  simpa using this
theorem range_get {n i : Nat} {lo : Int} {x : D} (h : (rangeD lo n)[i]? = some x) : x = .int (lo + i) ∧ i < n := by
  unfold rangeD at h
  rw [List.getElem?_map] at h
  obtain ⟨k, hk, rfl⟩ := Option.map_eq_some_iff.mp h
  obtain ⟨h1, h2⟩ := List.getElem?_eq_some_iff.mp hk
  simp at h1 h2
  subst h2
  exact ⟨rfl, h1⟩
theorem lc_inv {t : Tg} {tt : EvB} {fe : EvE} {envw : Env} (Inv : Nat → Sto → List D → Prop) : ∀ (xs : List D) (i : Nat) (st : Sto) (acc : List D), Inv i st acc →
    (∀ j x st acc, xs[j]? = some x → Inv (i + j) st acc → ∃ st' acc', (∀ k, turnC t tt fe envw x st acc k = k st' acc') ∧ Inv (i + j + 1) st' acc') →
    ∃ st' acc', lcF t tt fe envw xs st acc = .ok acc' st' ∧ Inv (i + xs.length) st' acc'
  | [], i, st, acc, h0, _ => ⟨st, acc, rfl, h0⟩
  | x :: xs, i, st, acc, h0, hs => by
    obtain ⟨s1, a1, t1, h1⟩ := hs 0 x st acc rfl h0
    obtain ⟨s2, a2, t2, h2⟩ := lc_inv Inv xs (i + 1) s1 a1 h1 fun j y s a hj hI => by
      have := hs (j + 1) y s a (by simpa using hj) (by rw [show i + (j + 1) = i + 1 + j by omega]; exact hI)
      rw [show i + (j + 1) + 1 = i + 1 + j + 1 by omega] at this
      exact this
    refine ⟨s2, a2, ?_, by rw [show i + (x :: xs).length = i + 1 + xs.length by simp; omega]; exact h2⟩
    unfold lcF
    rw [t1]; exact t2
theorem turnC_yes {t : Tg} {fe : EvE} {envw env1 : Env} {x y : D} {st st' : Sto} {acc : List D} {k : Sto → List D → R (List D)} (h1 : t.set x envw = some env1) (h2 : fe env1 st = .ok y st') (h3 : acc.length < 16777216) :
    turnC t yesB fe envw x st acc k = k st' (acc ++ [y]) := by
  unfold turnC yesB noX
  simp [h1, h2, h3, R.bind]
theorem lc_map {t : Tg} {fe : EvE} {envw : Env} {st : Sto} (h : D → D) : ∀ (xs : List D) (acc : List D), (acc.length + xs.length ≤ 16777216) →
    (∀ x ∈ xs, ∃ env1, t.set x envw = some env1 ∧ fe env1 st = .ok (h x) st) → lcF t yesB fe envw xs st acc = .ok (acc ++ xs.map h) st
  | [], acc, _, _ => by simp [lcF]
  | x :: xs, acc, hl, hx => by
    obtain ⟨env1, h1, h2⟩ := hx x List.mem_cons_self
    simp only [List.length_cons] at hl
    unfold lcF
    rw [turnC_yes h1 h2 (by omega), lc_map h xs (acc ++ [h x]) (by simp; omega) fun y hy => hx y (List.mem_cons_of_mem _ hy)]
    simp
theorem turnC_if {t : Tg} {tt : EvB} {fe : EvE} {envw env1 : Env} {x y : D} {st : Sto} {b : Bool} {acc : List D} {k : Sto → List D → R (List D)} (h1 : t.set x envw = some env1) (ht : tt env1 st = .ok b st) (h2 : b = true → fe env1 st = .ok y st) (h3 : acc.length < 16777216) :
    turnC t tt fe envw x st acc k = k st (if b = true then acc ++ [y] else acc) := by
  unfold turnC noX
  cases b with
  | false => simp [h1, ht, R.bind]
  | true => simp [h1, ht, h2 rfl, h3, R.bind]
@[simp] theorem lcE_eq (it : EvI) (t : Tg) (tt : EvB) (fe : EvE) (vs : List Nat) (env : Env) (st : Sto) : lcE it t tt fe vs env st = ((it env st).bind fun I st1 => match I with
  | .frz xs => lcF t tt fe (wipeE env vs) xs st1 []
  | .gen nxt k => lcG t tt fe (wipeE env vs) nxt k 0 st1 []).bind fun xs st1 => .ok (.lst xs) st1 := rfl
@[simp] theorem wipeE_nil (env : Env) : wipeE env [] = env := rfl
@[simp] theorem wipeE_cons (env : Env) (v : Nat) (vs : List Nat) : wipeE env (v :: vs) = (wipeE env vs).set v none := rfl
@[simp] theorem Tg_nm (i : Nat) (d : D) (env : Env) : Tg.set (.nm i) d env = some (env.set i (some d)) := by simp [Tg.set]
def Pool (n : Nat) (st : Sto) : Prop := ∃ a b c : Int, st[n]? = some (.lst [.int a, .int b, .int c])
def Eff (n : Nat) (st st' : Sto) : Prop := st'.length = st.length ∧ ∀ k, k ≠ n → st'[k]? = st[k]?
theorem Eff.refl {n : Nat} {st : Sto} : Eff n st st := ⟨rfl, fun _ _ => rfl⟩
theorem Eff.trans {n : Nat} {s1 s2 s3 : Sto} (a : Eff n s1 s2) (b : Eff n s2 s3) : Eff n s1 s3 := ⟨b.1.trans a.1, fun k h => (b.2 k h).trans (a.2 k h)⟩
theorem Eff.set {n : Nat} {st : Sto} {mo : MO} : Eff n st (st.set n mo) := ⟨by simp, fun k h => List.getElem?_set_ne (fun e => h e.symm)⟩
theorem setD_mut {n : Nat} {st : Sto} {xs : List D} {k : Int} {d : D} {j : Nat} (h : st[n]? = some (.lst xs)) (hj : L2.ixN xs.length k = some j) : setD (.mut n) (.int k) d st = some (st.set n (.lst (xs.set j d))) := by
  simp [setD, h, hj]
end G
namespace G
open PySem PySem.Spec PyProof.Rows L2
@[simp] theorem subT_eq (fo fi : EvE) (d : D) (env : Env) (st : Sto) : subT fo fi d env st = (fo env st).bind fun o s1 => (fi env s1).bind fun i s2 => match setD o i d s2 with
  | some s3 => .ok env s3
  | none => .fail := rfl
section
variable {st : Sto} {n : Nat}
theorem p_ix0 {x y z : D} (h : st[n]? = some (.lst [x, y, z])) : ixD (.mut n) (.int 0) st = .ok x st := ixD_mut n _ 0 st h rfl
theorem p_ix1 {x y z : D} (h : st[n]? = some (.lst [x, y, z])) : ixD (.mut n) (.int 1) st = .ok y st := ixD_mut n _ 1 st h rfl
theorem p_ix2 {x y z : D} (h : st[n]? = some (.lst [x, y, z])) : ixD (.mut n) (.int 2) st = .ok z st := ixD_mut n _ 2 st h rfl
theorem p_set0 {x y z : D} (h : st[n]? = some (.lst [x, y, z])) (d : D) : setD (.mut n) (.int 0) d st = some (st.set n (.lst [d, y, z])) := setD_mut (j := 0) h rfl
theorem p_set1 {x y z : D} (h : st[n]? = some (.lst [x, y, z])) (d : D) : setD (.mut n) (.int 1) d st = some (st.set n (.lst [x, d, z])) := setD_mut (j := 1) h rfl
theorem p_set2 {x y z : D} (h : st[n]? = some (.lst [x, y, z])) (d : D) : setD (.mut n) (.int 2) d st = some (st.set n (.lst [x, y, d])) := setD_mut (j := 2) h rfl
theorem p_get (h : n < st.length) (mo : MO) : (st.set n mo)[n]? = some mo := by simp [h]
end
end G
namespace G
section
variable (st : Sto)
@[simp] theorem isND_non : isND .non .non st = .ok (.bl true) st := rfl
@[simp] theorem isND_int (i : Int) : isND (.int i) .non st = .ok (.bl false) st := rfl
@[simp] theorem isND_bl (i : Bool) : isND (.bl i) .non st = .ok (.bl false) st := rfl
@[simp] theorem isND_str (i : PySem.Str) : isND (.str i) .non st = .ok (.bl false) st := rfl
@[simp] theorem isND_tup (i : List D) : isND (.tup i) .non st = .ok (.bl false) st := rfl
@[simp] theorem isND_lst (i : List D) : isND (.lst i) .non st = .ok (.bl false) st := rfl
@[simp] theorem isND_tupI (i : List Int) : isND (tupI i) .non st = .ok (.bl false) st := rfl
@[simp] theorem notND_non : notND .non .non st = .ok (.bl false) st := rfl
@[simp] theorem notND_int (i : Int) : notND (.int i) .non st = .ok (.bl true) st := rfl
@[simp] theorem notND_bl (i : Bool) : notND (.bl i) .non st = .ok (.bl true) st := rfl
@[simp] theorem notND_str (i : PySem.Str) : notND (.str i) .non st = .ok (.bl true) st := rfl
@[simp] theorem notND_tup (i : List D) : notND (.tup i) .non st = .ok (.bl true) st := rfl
@[simp] theorem notND_lst (i : List D) : notND (.lst i) .non st = .ok (.bl true) st := rfl
@[simp] theorem eqD_bl (i j : Bool) : eqD (.bl i) (.bl j) st = .ok (.bl (decide (i = j))) st := rfl
@[simp] theorem neD_bl (i j : Bool) : neD (.bl i) (.bl j) st = .ok (.bl (!decide (i = j))) st := rfl
end
end G
namespace G
open PySem
theorem mulOk_lit {i j : Int} (h : j.natAbs < 2 ^ 64) : mulOk i j := .inr (.inl h)
theorem mulOk_lit' {i j : Int} (h : i.natAbs < 2 ^ 64) : mulOk i j := .inl h
def Below (F : FA) : Prop := ∀ {st : Sto} {n : Nat} {m : Int}, Pool n st → 0 < m → m < 1073741824 → ∃ v st', F [.mut n, .int m] st = .ok (.int v) st' ∧ 0 ≤ v ∧ v < m ∧ Pool n st' ∧ Eff n st st'
end G
namespace G
open PySem
theorem Eff.pool {n m : Nat} {st st' : Sto} (e : Eff n st st') (h : m ≠ n) (p : Pool m st) : Pool m st' := by
  obtain ⟨a, b, c, p⟩ := p
  exact ⟨a, b, c, (e.2 m h).trans p⟩
def Track (F : FA) (most : Int) : Prop := ∀ {st : Sto} {n : Nat} {w : Int}, Pool n st → 1 ≤ w → ∃ ts st', F [.mut n, .int w] st = .ok (tupI ts) st' ∧ 1 ≤ ts.length ∧ (ts.length : Int) ≤ most ∧ (∀ x ∈ ts, 1 ≤ x ∧ x ≤ w) ∧ Pool n st' ∧ Eff n st st'
def oneA (FB : FA) : SvS := retS (binE ixD (varE 1) (callE FB (consA (varE 0) (consA (callE lenF (consA (varE 1) (nilA))) (nilA)))))
def One (F : FA) : Prop := ∀ {st : Sto} {n : Nat} {xs : List D}, Pool n st → xs ≠ [] → xs.length < 1000000 → ∃ d st', F [.mut n, .tup xs] st = .ok d st' ∧ d ∈ xs ∧ Pool n st' ∧ Eff n st st'
def MkPool (F : FA) : Prop := ∀ {st : Sto} {ns : List Int} {k : Nat}, ∃ a b c : Int, F [.slo (ns.map D.int), .int k] st = .ok (.mut st.length) (st ++ [.lst [.int a, .int b, .int c]])
end G
namespace G
open PySem
theorem pool_new {st : Sto} {a b c : Int} : Pool st.length (st ++ [.lst [.int a, .int b, .int c]]) := ⟨a, b, c, by simp⟩
def Right (F : FA) : Prop := ∀ {st : Sto} {n : Nat}, Pool n st → ∃ st', F [.mut n] st = .ok (.bl true) st'
end G
namespace G
open PySem PySem.Spec PyProof.Rows L2
section
variable {X : Cx} {W : WX} {fa fb fc : EvE} {a b c : Expr} {pos : Pos}
theorem s_par3 {i j k : Nat} {fs : EvA} {s : Stmt} (h : PS X s (tPar3 i j k (rdA X.K W fs))) : PS X s (rdS X.K W (parS3 i j k fs)) :=
  h.imp fun T σ H ⟨env, M, st, eo, so, p⟩ => ⟨env, M, st, eo, so, Post.imp (PostS.bind eo p) fun vs H1 ⟨M1, st1, ds, g, so1, ra, p1⟩ => by
    match ds, ra, p1 with
    | [a, b, c], ra, p1 =>
      unfold RepL at ra
      obtain ⟨x, r, rfl, rx, ra⟩ := ra
      obtain ⟨y, z, rfl, ry, rz⟩ := ra.two
      exact ⟨x, y, z, rfl, p1 M1 H1 _ .refl so1 ((((eo.grow g).set i rx).set j ry).set k rz)⟩
    | [], _, p1 => exact p1.elim
    | [_], _, p1 => exact p1.elim
    | [_, _], _, p1 => exact p1.elim
    | _ :: _ :: _ :: _ :: _, _, p1 => exact p1.elim⟩
end
section
variable (k : Env → Sto → S)
@[simp] theorem turnS_nx (env : Env) (st : Sto) : turnS (.nx env st) k = k env st := rfl
@[simp] theorem turnS_ret (d : D) (st : Sto) : turnS (.ret d st) k = .ret d st := rfl
end
@[simp] theorem loopF_nil (g : TgF) (body : SvS) (env : Env) (st : Sto) : loopF g body [] env st = .nx env st := rfl
@[simp] theorem loopF_cons (g : TgF) (body : SvS) (x : D) (xs : List D) (env : Env) (st : Sto) : loopF g body (x :: xs) env st = turnS (bindS (g x env st) env body) (loopF g body xs) := rfl
@[simp] theorem parS3_eq (i j k : Nat) (fs : EvA) (env : Env) (st : Sto) : parS3 i j k fs env st = bindS (fs env st) env fun as st1 => match as with
  | [a, b, c] => .nx (((env.set i (some a)).set j (some b)).set k (some c)) st1
  | _ => .fail := rfl
def notBD : F2 := fun a b st => match a, b with
  | .bl x, .bl y => .ok (.bl (!decide (x = y))) st
  | _, _ => .fail
def inO (a b : D) (st : Sto) : Option Bool := match toPD a, (seqOf b st).bind toPDs with
  | some d, some ds => if SeqAt.shaped d = true ∧ SeqAt.shaped (.list ds) = true then some (ds.any fun z => PyData.eqv z d) else none
  | _, _ => none
def inD : F2 := fun a b st => match inO a b st with
  | some k => .ok (.bl k) st
  | none => .fail
def notInD : F2 := fun a b st => match inO a b st with
  | some k => .ok (.bl (!k)) st
  | none => .fail
section
variable {K : PySem.W.Frag} {M : Mem} {H : Hp}
theorem v_notB : OpV K rNotB notBD := by
  intro a b x y M H st Q E ra rb so p
  unfold notBD at p
  split at p
  · unfold Rep at ra rb; subst ra rb
    exact ⟨_, _, rfl, rfl, p M H _ .refl so (rep_bl _ _ _)⟩
  · exact p.elim
end
section
variable {X : Cx}
theorem room65 {k : Nat} {A : Around} (r : RoomG k A) : A.units + 65 < cLine := by have := r.un; omega
end
section
variable (st : Sto)
@[simp] theorem intF_bl (b : Bool) : intF [.bl b] st = .ok (.int (if b = true then 1 else 0)) st := rfl
@[simp] theorem notBD_bl (x y : Bool) : notBD (.bl x) (.bl y) st = .ok (.bl (!decide (x = y))) st := rfl
@[simp] theorem toPDs_ints : ∀ ns : List Int, toPDs (ns.map D.int) = some (ns.map PyData.int)
  | [] => by simp [toPDs]
  | n :: ns => by simp [toPDs, toPD, toPDs_ints ns]
theorem canLayAll_ints : ∀ ns : List Int, PyData.canLayAll0 (ns.map PyData.int) = true
  | [] => by simp [PyData.canLayAll0]
  | n :: ns => by simp [PyData.canLayAll0, PyData.canLay0, canLayAll_ints ns]
theorem depthAll_ints : ∀ ns : List Int, PyData.depthAll (ns.map PyData.int) = 0
  | [] => by simp [PyData.depthAll]
  | n :: ns => by simp [PyData.depthAll, PyData.depth, depthAll_ints ns]
theorem shaped_ints (ns : List Int) : SeqAt.shaped (.list (ns.map PyData.int)) = true := by
  simp [SeqAt.shaped, PyData.canLay0, canLayAll_ints, PyData.depth, depthAll_ints]
theorem inO_ints (i : Int) (b : D) (ns : List Int) (h : seqOf b st = some (ns.map D.int)) : inO (.int i) b st = some (decide (i ∈ ns)) := by
  unfold inO
  rw [h, Option.bind_some, toPDs_ints]
  show (if SeqAt.shaped (.int i) = true ∧ SeqAt.shaped (.list (ns.map PyData.int)) = true then _ else _) = _
  rw [if_pos ⟨by simp [SeqAt.shaped, PyData.canLay0, PyData.depth], shaped_ints ns⟩, List.any_map]
  congr 1
  rw [Bool.eq_iff_iff]
  simp only [List.any_eq_true, Function.comp, decide_eq_true_iff]
  constructor
  · rintro ⟨x, hx, e⟩
    have : x = i := by simpa [PyData.eqv] using e
    exact this ▸ hx
  · exact fun h => ⟨i, h, by simp [PyData.eqv]⟩
theorem inD_ints (i : Int) (b : D) (ns : List Int) (h : seqOf b st = some (ns.map D.int)) : inD (.int i) b st = .ok (.bl (decide (i ∈ ns))) st := by
  unfold inD; rw [inO_ints st i b ns h]
theorem notInD_ints (i : Int) (b : D) (ns : List Int) (h : seqOf b st = some (ns.map D.int)) : notInD (.int i) b st = .ok (.bl (!decide (i ∈ ns))) st := by
  unfold notInD; rw [inO_ints st i b ns h]
@[simp] theorem inD_tupI (i : Int) (ns : List Int) : inD (.int i) (tupI ns) st = .ok (.bl (decide (i ∈ ns))) st := inD_ints st i _ ns rfl
@[simp] theorem inD_lstI (i : Int) (ns : List Int) : inD (.int i) (lstI ns) st = .ok (.bl (decide (i ∈ ns))) st := inD_ints st i _ ns rfl
@[simp] theorem notInD_tupI (i : Int) (ns : List Int) : notInD (.int i) (tupI ns) st = .ok (.bl (!decide (i ∈ ns))) st := notInD_ints st i _ ns rfl
@[simp] theorem notInD_lstI (i : Int) (ns : List Int) : notInD (.int i) (lstI ns) st = .ok (.bl (!decide (i ∈ ns))) st := notInD_ints st i _ ns rfl
@[simp] theorem notInD_tup2 (i a b : Int) : notInD (.int i) (.tup [.int a, .int b]) st = .ok (.bl (!decide (i = a ∨ i = b))) st := by
  rw [notInD_ints st i _ [a, b] rfl]; simp
@[simp] theorem inD_tup2 (i a b : Int) : inD (.int i) (.tup [.int a, .int b]) st = .ok (.bl (decide (i = a ∨ i = b))) st := by
  rw [inD_ints st i _ [a, b] rfl]; simp
end
end G
namespace G
open PySem PySem.Spec PyProof.Rows L2 HT
def revE (fa : EvE) : EvE := fun env st => (fa env st).bind fun a st1 => match a with
  | .tup xs => .ok (.tup xs.reverse) st1
  | a => match seqOf a st1 with
    | some xs => .ok (.lst xs.reverse) st1
    | none => .fail
@[simp] theorem revE_eq (fa : EvE) (env : Env) (st : Sto) : revE fa env st = (fa env st).bind fun a st1 => match a with
  | .tup xs => .ok (.tup xs.reverse) st1
  | a => match seqOf a st1 with
    | some xs => .ok (.lst xs.reverse) st1
    | none => .fail := rfl
end G
namespace G
open PySem PySem.Spec PyProof.Rows L2 HT
set_option maxHeartbeats 1000000 in
theorem meets_enumerate_newT {v : Value} {o : Obj} {H : Heap → Prop} (B : Begins v o H) :
    Meets (Builtin.«enumerate.__new__» ⟨[.type "enumerate", v], []⟩) (fun _ R s => H s.heap ∧
      R (.ok (.ret (.ref (s.heap.push o).objs.size))) { s with heap := (s.heap.push o).push { cls := .type "enumerate", data := .fields #[.none, .bool false, .ref s.heap.objs.size, rawInt 0, .none, .none] } }) :=
  .of_wp fun prog w A R s h => by
    obtain ⟨hp, g, d, tk, os⟩ := s; obtain ⟨h1, h⟩ := h
    have hsub := sub_enumerate
    have q1 : ∀ {A' : Around} {E : Value → Shared → Prop} {Q : Value → Shared → Prop}, Q (.ref hp.objs.size) ⟨hp.push o, g, d, tk, os⟩ → wpAny (model prog w) A' (pyIter v) Q E ⟨hp, g, d, tk, os⟩ :=
      fun q => B.iter prog w _ _ ⟨hp, g, d, tk, os⟩ _ h1 q
    wp_walk using q1
    refine wpAny_stack_any fun st => wpAny_pure ?_
    split
    · rename_i c _ _ _ _ _
      cases (c == Value.type "enumerate")
      · wp_walk using q1
        exact ⟨_, rfl, h⟩
      · wp_walk using q1
        exact ⟨_, rfl, h⟩
    · wp_walk using q1
      exact ⟨_, rfl, h⟩
section
variable {prog : Program} {w : World} {A : Around} {E : Value → Shared → Prop} {s : Shared}
theorem call_enumerate_begins {v : Value} {o : Obj} {H : Heap → Prop} {Q : Value → Shared → Prop} (B : Begins v o H) (h1 : H s.heap)
    (h : ∀ h', IsEnum h' (s.heap.objs.size + 1) s.heap.objs.size 0 .none → h'.get? s.heap.objs.size = some o → h'.objs.size = s.heap.objs.size + 2 →
      (∀ b o, s.heap.get? b = some o → h'.get? b = some o) → Q (.ref (s.heap.objs.size + 1)) { s with heap := h' }) :
    wpAny (model prog w) A (call (.type "enumerate") [v]) Q E s := by
  refine callType_new F.called_enumerate (by decide) (F.typeCall_enumerate_1 _) (F.newCall_enumerate_1 _) (fun obj => F.args_object_init_2 obj _) F.entry_enumerate_new
    (meets_enumerate_newT B) ⟨h1, ?_⟩
  have hz : (s.heap.push o).objs.size = s.heap.objs.size + 1 := Heap.size_push ..
  show _ ∧ _
  rw [hz]
  have he : IsEnum ((s.heap.push o).push { cls := .type "enumerate", data := .fields #[.none, .bool false, .ref s.heap.objs.size, rawInt 0, .none, .none] }) (s.heap.objs.size + 1) s.heap.objs.size 0 .none := by
    have := Heap.get?_push_size (s.heap.push o) (o := { cls := .type "enumerate", data := .fields #[.none, .bool false, .ref s.heap.objs.size, rawInt 0, .none, .none] }) rfl
    rw [hz] at this; exact this
  refine ⟨⟨_, he, rfl⟩, h _ he (Heap.get?_push_of_some _ (Heap.get?_push_size _ B.free)) (by rw [Heap.size_push, hz]) fun b o x => Heap.get?_push_of_some _ (Heap.get?_push_of_some _ x)⟩
end
theorem pyNext_enum_endT {prog : Program} {w : World} {A : Around} {E : Value → Shared → Prop} {s : Shared} {e it l : Addr} {i : Nat} {c : Int} {items : Array Value} {old : Value} {Q : Option Value → Shared → Prop} (hh : A.handled = none)
    (he : IsEnum s.heap e it c old) (hit : s.heap.IsTupleIter it l i) (hl : s.heap.IsTuple l items) (hx : items[i]? = none)
    (hQ : ∀ h', Heap.ExtBut it s.heap h' → Q none { s with heap := h' }) : wpAny (model prog w) A (pyNext (.ref e)) Q E s := by
  have hT : s.TypeIs (.ref e) "enumerate" := ⟨_, he, rfl⟩
  unfold pyNext
  refine wpAny_bind (wpAny_attempt (wpAny_callSpecial?_slot (name := Str.ofString "__next__") hT F.slot_enumerate_next
    (wpAny_call_entry F.slot_enumerate_next hT F.entry_enumerate_next ?_ (F.args_enumerate_next_1 _))))
  show wpAny _ _ (field (.ref e) 2 >>= _) _ _ _
  refine wpAny_bind (wpAny_field he rfl (x := .ref it) rfl ?_)
  refine wpAny_bind (wpAny_nextOf_tuple_end hh hit hl hx fun h' x he' hx' => ?_)
  obtain ⟨o, ho, hc⟩ := hx'
  refine wpAny_bind (wpAny_isInstance (T := "StopIteration") (b := true) ⟨o, ho, hc⟩ isSubtype_stop ?_)
  exact wpAny_pure (hQ _ he')
def IteT (K : PySem.W.Frag) (a : Addr) : It :=
  ⟨fun i H => ∃ (xs : List V) (x : V), SqT K H a xs ∧ xs[i]? = some x, fun i H v H' => ∃ T x, v = .ref T ∧ H T = none ∧ H' = upd H T (.tup [.int (i : Nat), x]) ∧ ∀ xs, SqT K H a xs → xs[i]? = some x, fun i H => ∃ xs : List V, SqT K H a xs ∧ xs.length ≤ i⟩
theorem turn_enumT {P : Program} {w : World} {K : PySem.W.Frag} {elts : List Expr} {kk : Nat} {tpos : Pos} (a e it : Addr) :
    Turn P w K (.Tuple elts kk tpos) (IteT K a) [e, it] e (fun i h => (∃ old, IsEnum h e it ((i : Nat) : Int) old) ∧ h.IsTupleIter it a i ∧ e ≠ it ∧ a ≠ it ∧ e ≠ a) where
  mem := by simp
  obj := fun i h st b hb => by
    obtain ⟨⟨old, he⟩, ⟨o, ho, hc, hd⟩, _⟩ := st
    have e' : b = e ∨ b = it := by simpa using hb
    rcases e' with z | z
    · rw [z]; exact ⟨_, he, fun v q => nomatch q⟩
    · rw [z]; exact ⟨o, ho, fun v q => by rw [hd] at q; cases q⟩
  keep := fun i h h' st k => let ⟨⟨old, he⟩, hi, hne⟩ := st; ⟨⟨old, k e (by simp) _ he⟩, hi.at fun o q => k it (by simp) o q, hne⟩
  item := by
    intro X hP hw hK hc i pins s σ H E I hf st hg
    subst hP hw hK
    obtain ⟨⟨old, he⟩, hit, hne, hna, hea⟩ := st
    obtain ⟨xs, x, hq, hx⟩ := hg
    obtain ⟨its, rv, p, hz⟩ := I.tuple hq
    obtain ⟨u, hu, ru⟩ := rv.get hx
    have hel : e < s.heap.objs.size := Heap.lt_size he
    have hil : it < s.heap.objs.size := by obtain ⟨_, q, _⟩ := hit; exact Heap.lt_size q
    have hlt : i < its.toArray.size := by
      have := (List.getElem?_eq_some_iff.mp hu).1
      simpa using this
    have D := Draws.tuple (prog := X.prog) (w := X.w) (A := X.A.in1) (I.ok.hd hc) it a hna its.toArray
    refine wpAny_pyNext_enum_itemD D he ⟨hit, p⟩ hlt hne (by simp; exact ⟨hne, hea⟩) fun x' h' tk hP ho hst' hT hsz hk => ?_
    have ex : x' = u := by
      have hP' : its[i]? = some x' := by simpa using hP
      rw [hu] at hP'; exact (Option.some.inj hP').symm
    subst ex
    refine ⟨_, rfl, wpAny_letOwnedTupleGo_enum (s := { s with heap := h', toks := tk + 1 }) ho fun h'' he' sb => ?_⟩
    have hT2 : h''.get? s.heap.objs.size = some { cls := .type "tuple", data := .seq #[.int i tk, x'] } := (sb.2 _ (Nat.ne_of_gt hel)).trans hT
    have new : ObjOk X.prog X.w (upd H s.heap.objs.size (.tup [.int (i : Nat), x])) h'' s.heap.objs.size (.tup [.int (i : Nat), x]) :=
      ⟨by show 2 ≤ sizeLine; decide, [.int i tk, x'], .cons ⟨_, rfl⟩ (.cons ru .nil), ⟨_, hT2, rfl, _, rfl⟩⟩
    have I1 : Inv X pins σ (upd H s.heap.objs.size (.tup [.int (i : Nat), x])) { s with heap := h'', toks := tk + 1 } :=
      I.turnedNew (ch := [e, it]) (fun b ob hb q => (sb.2 b (fun z => hb (by simp [z]))).trans (hk b ob (fun z => hb (by simp [z])) (fun z => hb (by simp [z])) q)) hf (Nat.le_refl _) new
    refine ⟨.ref s.heap.objs.size, _, I1, rfl, ⟨_, x, rfl, I.hok.fresh (Nat.le_refl _), rfl, fun ys hy => by rw [I.tuple_inj hy hq]; exact hx⟩, ⟨⟨x', ?_⟩, hst'.1.at fun o q => (sb.2 it (Ne.symm hne)).trans q, hne, hna, hea⟩, fun b hb => ?_⟩
    · have e1 : ((i + 1 : Nat) : Int) = (i : Int) + 1 := by omega
      rw [e1]; exact he'
    · have hb' : b < s.heap.objs.size := by
        have e' : b = e ∨ b = it := by simpa using hb
        rcases e' with z | z
        · rw [z]; exact hel
        · rw [z]; exact hil
      rw [upd_ne (Nat.ne_of_lt hb')]
      exact (hf b hb).1
  done := by
    intro X hP hw hK hc i pins s σ H E I hf st hg
    subst hP hw hK
    obtain ⟨⟨old, he⟩, hit, hne, hna, hea⟩ := st
    obtain ⟨xs, hq, hx⟩ := hg
    obtain ⟨its, rv, p, hz⟩ := I.tuple hq
    obtain ⟨f0, f1, f2, f3, f4, f5⟩ := hf it (by simp)
    have hl := rv.length
    exact pyNext_enum_endT (I.ok.hd hc) he hit p (by simp; omega) fun h' eb => ⟨rfl, I.turned (t' := s.toks) (fun b o hb q => eb b o hb q) f0 f1 f3 f4 f5⟩
  self := fun A i s Q E st h => let ⟨⟨_, he⟩, _⟩ := st; wpAny_pyIter_enum he h
def iEnumB (K : PySem.W.Frag) (ta : TA) : TI := fun σ H R => ta σ H fun vs H1 => ∃ a xs, vs = [.ref a] ∧ ((SqL K H1 a xs ∧ R (Ite K a) H1) ∨ (SqT K H1 a xs ∧ R (IteT K a) H1))
theorem pi_enumB {X : Cx} {e : Expr} {ta : TA} {p pos tpos : Pos} {elts : List Expr} {kk : Nat} (hg : Gl X "enumerate") (hm : X.mg "enumerate" = none) (ha : PA X [e] ta) (hs : starEach [e] X.env = [(false, eval e X.env)] := by rfl) :
    PI X (.Tuple elts kk tpos) (.Call (.Name "enumerate" p) [e] [] pos) (iEnumB X.K ta) := by
  refine ⟨fun pins s σ H R I h => ?_⟩
  refine Call_ (ld_blt I hg hm boot_enumerate (PyProof.Rows.callWith_type1 (thn (ha.run pos pins s σ H _ I h) fun us s1 ⟨vs, H1, I1, r1, q1⟩ => ?_) hs rfl))
  obtain ⟨a, xs, ex, q⟩ := q1
  subst ex
  cases r1 with
  | cons r rr =>
    cases rr
    cases r
    have fp : ∀ b ∈ [s1.heap.objs.size + 1, s1.heap.objs.size], s1.heap.objs.size ≤ b := fun b hb => by
      have e' : b = s1.heap.objs.size + 1 ∨ b = s1.heap.objs.size := by simpa using hb
      rcases e' with z | z
      · rw [z]; exact Nat.le_add_right _ _
      · rw [z]; exact Nat.le_refl _
    rcases q with ⟨hq, q⟩ | ⟨hq, q⟩
    · obtain ⟨its, rv, p', hz⟩ := I1.list hq
      refine call_enumerate_list p'.isList fun h' he hit hsz hk => wpAny_pyIter_enum he ?_
      have I2 : Inv X pins σ H1 { s1 with heap := h' } := I1.kept (t' := s1.toks) hk
      exact ⟨s1.heap.objs.size + 1, [s1.heap.objs.size + 1, s1.heap.objs.size], _, _, H1, rfl, I2, turn_enum a (s1.heap.objs.size + 1) s1.heap.objs.size, ⟨⟨.none, he⟩, hit, Nat.succ_ne_self _⟩, fun b hb => I1.fpOk (fp b hb) (I1.hok.fresh (fp b hb)), q⟩
    · obtain ⟨its, rv, p', hz⟩ := I1.tuple hq
      have hlt : a < s1.heap.objs.size := by obtain ⟨_, e, _⟩ := p'; exact Heap.lt_size e
      refine call_enumerate_begins (begins_tuple a its.toArray) p' fun h' he hit hsz hk => wpAny_pyIter_enum he ?_
      have I2 : Inv X pins σ H1 { s1 with heap := h' } := I1.kept (t' := s1.toks) hk
      exact ⟨s1.heap.objs.size + 1, [s1.heap.objs.size + 1, s1.heap.objs.size], _, _, H1, rfl, I2, turn_enumT a (s1.heap.objs.size + 1) s1.heap.objs.size, ⟨⟨.none, he⟩, ⟨_, hit, rfl, rfl⟩, Nat.succ_ne_self _, Nat.ne_of_lt hlt, Nat.ne_of_gt (Nat.lt_succ_of_lt hlt)⟩, fun b hb => I1.fpOk (fp b hb) (I1.hok.fresh (fp b hb)), q⟩
section
variable {K : PySem.W.Frag} {M : Mem} {H : Hp}
theorem itet_rep {a : Addr} {xs : List D} {vs : List V} (f : ∀ M' H', Keep M H M' H' → SqT K H' a vs) (q : RepL K M H xs vs) : ItRep K M H (.frz (enumL xs)) (IteT K a) := fun i M' H' st' g so => by
  have f' := f _ _ g
  have q' := q.kp g
  refine ⟨fun e => ⟨vs, f', by rw [← q.length]; simp at e; omega⟩, fun d hd => ?_⟩
  obtain ⟨x, hx, rfl⟩ := enumL_get hd
  obtain ⟨v, hv, r⟩ := q'.get hx
  refine ⟨⟨vs, v, f', hv⟩, fun z H'' ⟨T, y, e1, e2, e3, e4⟩ => ?_⟩
  have := e4 vs f'
  rw [hv] at this; cases this
  subst e1 e3
  exact pair_new so (rep_int _ _ _) r e2
variable {X : Cx} {W : WX} {fs : EvA} {tg it : Expr}
theorem g_enum (h : PI X tg it (iEnumB X.K (rdA X.K W fs))) : PI X tg it (rdI X.K W (callI enumF fs)) := h.imp fun σ H R' ⟨env, M, st, eo, so, p⟩ => ⟨env, M, st, eo, so, Post.imp (Post.bind p) fun vs H1 ⟨M1, st1, as, g, so1, ra, p1⟩ => by
  unfold enumF at p1
  split at p1
  · rename_i n
    split at p1
    · rename_i ys e
      obtain ⟨x, rfl, rx⟩ := ra.one
      unfold Rep at rx
      obtain ⟨a, rfl, m⟩ := rx
      obtain ⟨ws, hv, q⟩ := so1.at_ n a _ m e
      exact ⟨a, ws, rfl, .inl ⟨.of hv, p1 M1 H1 _ .refl so1 (item_rep m)⟩⟩
    · exact p1.elim
  · rename_i b hn
    split at p1
    · rename_i ys e
      obtain ⟨x, rfl, rx⟩ := ra.one
      cases b with
      | tup zs =>
        cases e
        unfold Rep at rx
        obtain ⟨a, ws, rfl, f, q⟩ := rx
        exact ⟨a, ws, rfl, .inr ⟨f.sq, p1 M1 H1 _ .refl so1 (itet_rep (fun _ _ g => (g.fzT f).sq) q)⟩⟩
      | lst zs =>
        cases e
        unfold Rep at rx
        obtain ⟨a, ws, rfl, f, q⟩ := rx
        exact ⟨a, ws, rfl, .inl ⟨f.sq, p1 M1 H1 _ .refl so1 (ite_rep (fun _ _ g => .of (g.keep _ _ f.1 f.2).1) q)⟩⟩
      | slo zs =>
        cases e
        unfold Rep at rx
        obtain ⟨a, ws, rfl, f, q⟩ := rx
        exact ⟨a, ws, rfl, .inl ⟨f.sq, p1 M1 H1 _ .refl so1 (ite_rep (fun _ _ g => (g.fzL f).sq) q)⟩⟩
      | _ => cases e
    · exact p1.elim
  · exact p1.elim⟩
end
end G
namespace G
open PySem PySem.Spec PyProof.Rows L2
section
variable {X : Cx} {W : WX} {s : Expr}
@[simp] theorem enumF_tup (xs : List D) (st : Sto) : enumF [.tup xs] st = .ok (.frz (enumL xs)) st := rfl
@[simp] theorem enumF_lst (xs : List D) (st : Sto) : enumF [.lst xs] st = .ok (.frz (enumL xs)) st := rfl
end
end G
namespace G
open PySem PySem.Spec PyProof.Rows L2
abbrev P2 := Int × Int
def ltP2 (a b : P2) : Prop := a.1 < b.1 ∨ (a.1 = b.1 ∧ a.2 < b.2)
instance (a b : P2) : Decidable (ltP2 a b) := by unfold ltP2; infer_instance
theorem ltP2_irr (a : P2) : ¬ ltP2 a a := by unfold ltP2; omega
theorem ltP2_tr {a b c : P2} (h : ltP2 a b) (g : ltP2 b c) : ltP2 a c := by unfold ltP2 at *; omega
theorem ltP2_tri (a b : P2) : ltP2 a b ∨ a = b ∨ ltP2 b a := by
  unfold ltP2
  rcases Int.lt_trichotomy a.1 b.1 with h | h | h
  · exact .inl (.inl h)
  · rcases Int.lt_trichotomy a.2 b.2 with g | g | g
    · exact .inl (.inr ⟨h, g⟩)
    · exact .inr (.inl (Prod.ext h g))
    · exact .inr (.inr (.inr ⟨h.symm, g⟩))
  · exact .inr (.inr (.inl h))
def insP (p : P2) : List P2 → List P2
  | [] => [p]
  | q :: r => if p = q then q :: r else if ltP2 p q then p :: q :: r else q :: insP p r
def ssP (ps : List P2) : List P2 := ps.foldr insP []
theorem mem_insP {p x : P2} : ∀ {l : List P2}, x ∈ insP p l ↔ x = p ∨ x ∈ l
  | [] => by simp [insP]
  | q :: r => by
    unfold insP
    split
    · rename_i h; subst h; simp
    · split
      · simp
      · simp only [List.mem_cons, mem_insP (l := r)]
        constructor
        · rintro (h | h | h)
          · exact .inr (.inl h)
          · exact .inl h
          · exact .inr (.inr h)
        · rintro (h | h | h)
          · exact .inr (.inl h)
          · exact .inl h
          · exact .inr (.inr h)
theorem sorted_insP {p : P2} : ∀ {l : List P2}, l.Pairwise ltP2 → (insP p l).Pairwise ltP2
  | [], _ => by simp [insP]
  | q :: r, h => by
    obtain ⟨h1, h2⟩ := List.pairwise_cons.mp h
    unfold insP
    split
    · exact h
    · rename_i ne
      split
      · rename_i lt
        exact List.pairwise_cons.mpr ⟨fun x hx => by
          rcases List.mem_cons.mp hx with rfl | hx
          · exact lt
          · exact ltP2_tr lt (h1 x hx), h⟩
      · rename_i nlt
        refine List.pairwise_cons.mpr ⟨fun x hx => ?_, sorted_insP h2⟩
        rcases mem_insP.mp hx with rfl | hx
        · rcases ltP2_tri x q with g | g | g
          · exact absurd g nlt
          · exact absurd g ne
          · exact g
        · exact h1 x hx
theorem mem_ssP {x : P2} : ∀ {ps : List P2}, x ∈ ssP ps ↔ x ∈ ps
  | [] => by simp [ssP]
  | p :: ps => by
    show x ∈ insP p (ssP ps) ↔ _
    rw [mem_insP, mem_ssP (ps := ps), List.mem_cons]
theorem sorted_ssP : ∀ {ps : List P2}, (ssP ps).Pairwise ltP2
  | [] => List.Pairwise.nil
  | p :: ps => sorted_insP (sorted_ssP (ps := ps))
theorem sorted_unique : ∀ {a b : List P2}, a.Pairwise ltP2 → b.Pairwise ltP2 → (∀ x, x ∈ a ↔ x ∈ b) → a = b
  | [], [], _, _, _ => rfl
  | [], y :: b, _, _, h => absurd ((h y).mpr List.mem_cons_self) List.not_mem_nil
  | x :: a, [], _, _, h => absurd ((h x).mp List.mem_cons_self) List.not_mem_nil
  | x :: a, y :: b, ha, hb, h => by
    obtain ⟨a1, a2⟩ := List.pairwise_cons.mp ha
    obtain ⟨b1, b2⟩ := List.pairwise_cons.mp hb
    have e : x = y := by
      rcases List.mem_cons.mp ((h x).mp List.mem_cons_self) with g | g
      · exact g
      · rcases List.mem_cons.mp ((h y).mpr List.mem_cons_self) with g2 | g2
        · exact g2.symm
        · exact absurd (ltP2_tr (b1 x g) (a1 y g2)) (ltP2_irr y)
    subst e
    congr 1
    refine sorted_unique a2 b2 fun z => ⟨fun hz => ?_, fun hz => ?_⟩
    · rcases List.mem_cons.mp ((h z).mp (List.mem_cons_of_mem _ hz)) with g | g
      · subst g; exact absurd (a1 z hz) (ltP2_irr z)
      · exact g
    · rcases List.mem_cons.mp ((h z).mpr (List.mem_cons_of_mem _ hz)) with g | g
      · subst g; exact absurd (b1 z hz) (ltP2_irr z)
      · exact g
def pairD (p : P2) : D := .tup [.int p.1, .int p.2]
def pairsOf : List D → Option (List P2)
  | [] => some []
  | .tup [.int a, .int b] :: r => (pairsOf r).map ((a, b) :: ·)
  | _ => none
theorem pairsOf_some : ∀ {xs : List D} {ps : List P2}, pairsOf xs = some ps → xs = ps.map pairD
  | [], ps, h => by unfold pairsOf at h; cases h; rfl
  | x :: xs, ps, h => by
    unfold pairsOf at h
    split at h
    · rename_i e; cases e
    · rename_i a b r e
      cases e
      cases hr : pairsOf xs with
      | none => rw [hr] at h; cases h
      | some qs => rw [hr] at h; cases h; rw [pairsOf_some hr]; rfl
    · cases h
@[simp] theorem pairsOf_map : ∀ ps : List P2, pairsOf (ps.map pairD) = some ps
  | [] => rfl
  | p :: ps => by
    show (pairsOf (ps.map pairD)).map ((p.1, p.2) :: ·) = _
    rw [pairsOf_map ps]; rfl
@[simp] theorem tgT_tp2 (i j : Nat) (a b : D) (env : Env) (st : Sto) : tgT (.tp [.nm i, .nm j]) (.tup [a, b]) env st = .ok ((env.set i (some a)).set j (some b)) st := by simp [tgT, Tg.set, Tg.sets]
@[simp] theorem tgT_tp3 (i j k : Nat) (a b c : D) (env : Env) (st : Sto) : tgT (.tp [.nm i, .nm j, .nm k]) (.tup [a, b, c]) env st = .ok (((env.set i (some a)).set j (some b)).set k (some c)) st := by simp [tgT, Tg.set, Tg.sets]
@[simp] theorem turnS_cont (k : Env → Sto → S) (env : Env) (st : Sto) : turnS (.cont env st) k = k env st := rfl
@[simp] theorem turnS_brk (k : Env → Sto → S) (env : Env) (st : Sto) : turnS (.brk env st) k = .nx env st := rfl
end G
namespace G
open PySem PySem.Spec PyProof.Rows L2
@[simp] theorem isiD_emp (c : Tag) (st : Sto) : isiD c .emp st = .ok (.bl (isiB .dic c)) st := rfl
@[simp] theorem isND_emp (st : Sto) : isND .emp .non st = .ok (.bl false) st := rfl
@[simp] theorem isiD_dic (c : Tag) (st : Sto) : isiD c .dic st = .ok (.bl (isiB .dic c)) st := rfl
@[simp] theorem isND_dic (st : Sto) : isND .dic .non st = .ok (.bl false) st := rfl
end G
namespace G
open PySem PySem.Spec PyProof.Rows L2
def repMD : F2 := fun a b st => match a, b with
  | .lst xs, .int k => if k.natAbs < 2 ^ 62 ∧ xs.length * k.toNat ≤ 16777216 then .ok (.mut st.length) (st ++ [.lst (List.replicate k.toNat xs).flatten]) else .fail
  | _, _ => .fail
@[simp] theorem repMD_int (x : D) (k : Int) (st : Sto) : repMD (.lst [x]) (.int k) st = if k.natAbs < 2 ^ 62 ∧ k.toNat ≤ 16777216 then .ok (.mut st.length) (st ++ [.lst (List.replicate k.toNat x)]) else .fail := by
  have e : (List.replicate k.toNat [x]).flatten = List.replicate k.toNat x := by
    induction k.toNat with
    | zero => rfl
    | succ n ih => rw [List.replicate_succ, List.replicate_succ, List.flatten_cons, ih]; rfl
  unfold repMD
  simp [e]
end G
namespace G
open PySem PySem.Spec PyProof.Rows L2
section
variable {K : PySem.W.Frag} {M M' : Mem} {H H' : Hp} {st : Sto}
mutual
theorem Rep.ff {f : Addr → Option (Obj × HO)} : ∀ {d : D} {v : V}, Rep K M H d v → Rep K ⟨M.m, M.p, f⟩ H d v
  | .non, _, h => by unfold Rep at h ⊢; exact h
  | .bl _, _, h => by unfold Rep at h ⊢; exact h
  | .int _, _, h => by unfold Rep at h ⊢; exact h
  | .str _, _, h => by unfold Rep at h ⊢; exact h
  | .raw _, _, h => by unfold Rep at h ⊢; exact h
  | .dic, _, h => by unfold Rep at h ⊢; exact h
  | .fn _, _, h => by unfold Rep at h ⊢; exact h
  | .emp, _, h => by unfold Rep at h ⊢; exact h
  | .rg .., _, h => by unfold Rep at h ⊢; exact h
  | .exv .., _, h => by
    unfold Rep at h ⊢
    obtain ⟨h1, h2, h3⟩ := h
    refine ⟨h1, h2, h3.imp id ?_⟩
    rintro ⟨h4, dd, w, h5, h6, h7, h8⟩
    exact ⟨h4, dd, w, h5, h6, h7, Rep.ff h8⟩
  | .tup xs, _, h => by
    unfold Rep at h ⊢
    obtain ⟨a, vs, e, f, r⟩ := h
    exact ⟨a, vs, e, f, RepL.ff r⟩
  | .lst xs, _, h => by
    unfold Rep at h ⊢
    obtain ⟨a, vs, e, f, r⟩ := h
    exact ⟨a, vs, e, f, RepL.ff r⟩
  | .slo xs, _, h => by
    unfold Rep at h ⊢
    obtain ⟨a, vs, e, f, r⟩ := h
    exact ⟨a, vs, e, f, RepL.ff r⟩
  | .mut n, _, h => by unfold Rep at h ⊢; exact h
theorem RepL.ff {f : Addr → Option (Obj × HO)} : ∀ {ds : List D} {vs : List V}, RepL K M H ds vs → RepL K ⟨M.m, M.p, f⟩ H ds vs
  | [], _, h => by unfold RepL at h ⊢; exact h
  | d :: ds, _, h => by
    unfold RepL at h ⊢
    obtain ⟨v, r, e, h1, h2⟩ := h
    exact ⟨v, r, e, Rep.ff h1, RepL.ff h2⟩
end
theorem EnvOk.ff {f : Addr → Option (Obj × HO)} {env : Env} {σ : L2.St} (e : EnvOk K M H env σ) : EnvOk K ⟨M.m, M.p, f⟩ H env σ :=
  ⟨e.len, fun i d h => let ⟨v, h1, h2⟩ := e.at_ i d h; ⟨v, h1, h2.ff⟩⟩
def MO.walked : MO → Bool
  | .fk _ => true
  | .fd _ => true
  | .fe _ => true
  | _ => false
theorem StOk.ff {f : Addr → Option (Obj × HO)} (s : StOk K M H st) (h : ∀ (n : Nat) (a : Addr) (mo : MO), M.m[n]? = some a → st[n]? = some mo → mo.walked = true → f a = M.f a) : StOk K ⟨M.m, M.p, f⟩ H st := by
  refine ⟨s.len, s.nd, s.pd, fun n a mo e1 e2 => ?_⟩
  have q := s.at_ n a mo e1 e2
  cases mo with
  | lst xs => obtain ⟨vs, h1, r⟩ := q; exact ⟨vs, h1, r.ff⟩
  | dk kvs => exact q
  | dt kvs => exact q
  | fk kvs =>
    obtain ⟨o, h1, h2⟩ := q
    exact ⟨o, by rw [← h1]; exact h n a _ e1 e2 rfl, h2⟩
  | dd kvs => obtain ⟨ws, h1, r⟩ := q; exact ⟨ws, h1, r.1, r.2.ff⟩
  | de kvs => obtain ⟨ws, h1, r⟩ := q; exact ⟨ws, h1, r.1, r.2.ff⟩
  | fd kvs =>
    obtain ⟨o, ws, h1, h2, r⟩ := q
    exact ⟨o, ws, by rw [← h1]; exact h n a _ e1 e2 rfl, h2, r.1, r.2.ff⟩
  | fe kvs =>
    obtain ⟨o, ws, h1, h2, r⟩ := q
    exact ⟨o, ws, by rw [← h1]; exact h n a _ e1 e2 rfl, h2, r.1, r.2.ff⟩
theorem StOk.uniq (s : StOk K M H st) {n k : Nat} {a : Addr} (h : M.m[n]? = some a) (h' : M.m[k]? = some a) : n = k := by
  obtain ⟨h1, e1⟩ := List.getElem?_eq_some_iff.mp h
  obtain ⟨h2, e2⟩ := List.getElem?_eq_some_iff.mp h'
  exact (List.getElem_inj s.nd).mp (e1.trans e2.symm)
theorem StOk.mem (s : StOk K M H st) {n : Nat} {mo : MO} (h : st[n]? = some mo) : ∃ a, M.m[n]? = some a := by
  have := (List.getElem?_eq_some_iff.mp h).1
  rw [← s.len] at this
  exact ⟨M.m[n], List.getElem?_eq_getElem this⟩
end
def scal : D → Option V
  | .non => some .non
  | .bl b => some (.bl b)
  | .int i => some (.int i)
  | _ => none
theorem scal_rep {K : PySem.W.Frag} {M : Mem} {H : Hp} {d : D} {v x : V} (h : scal d = some v) (r : Rep K M H d x) : x = v := by
  cases d with
  | non => cases h; unfold Rep at r; exact r
  | bl b => cases h; unfold Rep at r; exact r
  | int b => cases h; unfold Rep at r; exact r
  | _ => cases h
def keyOf : D → Option L2.Key
  | .int i => some (.inl i)
  | _ => none
def kD : L2.Key → D
  | .inl i => .int i
  | .inr x => .str x
theorem kD_rep {K : PySem.W.Frag} {M : Mem} {H : Hp} (k : L2.Key) : Rep K M H (kD k) (kV k) := by
  cases k <;> (unfold kD Rep; rfl)
theorem keyOf_rep {K : PySem.W.Frag} {M : Mem} {H : Hp} {d : D} {k : L2.Key} {x : V} (h : keyOf d = some k) (r : Rep K M H d x) : x = kV k := by
  cases d with
  | int b => cases h; unfold Rep at r; exact r
  | _ => cases h
def keysOf : List D → Option (List L2.Key)
  | [] => some []
  | d :: ds => match keyOf d, keysOf ds with
    | some k, some ks => some (k :: ks)
    | _, _ => none
theorem keysOf_rep {K : PySem.W.Frag} {M : Mem} {H : Hp} : ∀ {ds : List D} {ks : List L2.Key} {xs : List V}, keysOf ds = some ks → RepL K M H ds xs → xs = ks.map kV
  | [], ks, xs, h, r => by cases h; unfold RepL at r; exact r
  | d :: ds, ks, xs, h, r => by
    unfold keysOf at h
    split at h
    · rename_i k ks' e1 e2
      cases h
      unfold RepL at r
      obtain ⟨v, rr, rfl, h1, h2⟩ := r
      rw [keyOf_rep e1 h1, keysOf_rep e2 h2]; rfl
    · cases h
def newKE : EvE := fun _ st => .ok (.mut st.length) (st ++ [.dk []])
def newTE : EvE := fun _ st => .ok (.mut st.length) (st ++ [.dt []])
section
variable {X : Cx} {W : WX} {pos : Pos} {fk fv fd fa : EvE} {ke ve : Expr}
theorem g_newT : PE X (.Dict [] [] pos) (rdE X.K W newTE) :=
  pe_dnewT.imp fun σ H Q ⟨env, M, st, eo, so, p⟩ => fun a ha => p (M.push a) _ (.ref a) (.push so ha) (so.push ha (show _ from upd_same)) (rep_mut so)
end
end G
namespace G
open PySem PySem.Spec PyProof.Rows L2
theorem room1 {k : Nat} {A : Around} (r : RoomG k A) : A.units + 1 < cLine := by have := r.un; omega
section
variable {X : Cx} {W : WX} {pos : Pos} {fv fd fa : EvE} {fs : EvA}
def tKeyD (d : D) (ks : List D) (v : D) (st : Sto) : Option Sto := match d with
  | .mut n => (match st[n]?, keysOf ks, scal v with
    | some (.dt kvs), some k, some v => if kvs.length < 16777216 then some (st.set n (.dt (putK kvs k v))) else none
    | _, _, _ => none)
  | _ => none
def putTS (fv fd : EvE) (fs : EvA) : SvS := fun env st => bindS (fv env st) env fun v st1 => bindS (fd env st1) env fun d st2 => bindS (fs env st2) env fun ks st3 => match tKeyD d ks v st3 with
  | some st4 => if ks.length ≤ 16777216 then .nx env st4 else .fail
  | none => .fail
theorem s_putT {s : Stmt} (h : PS X s (sDPut (rdE X.K W fd) (tTup (rdA X.K W fs)) (rdE X.K W fv))) : PS X s (rdS X.K W (putTS fv fd fs)) :=
  h.imp fun T σ H ⟨env, M, st, eo, so, p⟩ => ⟨env, M, st, eo, so, Post.imp (PostS.bind eo p) fun v H1 ⟨M1, st1, vd, g1, so1, rv, p1⟩ =>
    ⟨env, M1, st1, eo.grow g1, so1, Post.imp (PostS.bind (eo.grow g1) p1) fun x H2 ⟨M2, st2, dd, g2, so2, rd, p2⟩ =>
      ⟨env, M2, st2, (eo.grow g1).grow g2, so2, Post.imp (PostS.bind (rep := RepL X.K) ((eo.grow g1).grow g2) p2) fun ys H3 ⟨M3, st3, ks, g3, so3, rk, p3⟩ => by
        split at p3
        · rename_i st4 e
          split at p3
          · rename_i hz
            refine ⟨by rw [← rk.length]; exact size_le hz, fun b hb => ?_⟩
            unfold tKeyD at e
            split at e
            · rename_i n
              split at e
              · rename_i kvs k' v' e1 e2 e3
                split at e
                · rename_i hl
                  cases e
                  have rd := rd.grow g3
                  have rv := rv.grow (g2.trans g3)
                  unfold Rep at rd
                  obtain ⟨a, rfl, am⟩ := rd
                  have hd : H3 a = some (.dT kvs) := so3.at_ _ a _ am e1
                  have hd' : upd H3 b (.tup ys) a = some (.dT kvs) := by rw [upd_ne (ne_of_none hd hb)]; exact hd
                  have g4 : Grow M3 H3 M3 (upd H3 b (.tup ys)) := .laid so3 hb
                  have so4 : StOk X.K M3 (upd H3 b (.tup ys)) st3 := so3.laid hb
                  refine ⟨a, _, rfl, .inr ⟨kvs, k', b, hd', rfl, by rw [upd_same, keysOf_rep e2 rk], by rw [sizeLine_eq]; exact hl, rfl⟩, ?_⟩
                  rw [scal_rep e3 rv]
                  have g5 : Grow M3 (upd H3 b (.tup ys)) M3 (upd (upd H3 b (.tup ys)) a (.dT (putK kvs k' v'))) := .put so4 am
                  exact p3 M3 _ σ (g4.trans g5) (so4.put am (show _ from upd_same)) (((eo.grow g1).grow g2).grow (g3.trans (g4.trans g5)))
                · cases e
              · cases e
            · cases e
          · exact p3.elim
        · exact p3.elim⟩⟩⟩
end
end G
namespace G
open PySem PySem.Spec PyProof.Rows L2
def insW (p : P2) : List P2 → List P2
  | [] => [p]
  | q :: r => if ltP2 q p then q :: insW p r else p :: q :: r
def srtP (ps : List P2) : List P2 := ps.foldr insW []
abbrev leP2 (a b : P2) : Prop := ¬ ltP2 b a
theorem perm_insW {p : P2} : ∀ {l : List P2}, (insW p l).Perm (p :: l)
  | [] => .refl _
  | q :: r => by
    unfold insW
    split
    · exact ((perm_insW (l := r)).cons q).trans (.swap p q r)
    · exact .refl _
theorem sorted_insW {p : P2} : ∀ {l : List P2}, l.Pairwise leP2 → (insW p l).Pairwise leP2
  | [], _ => by simp [insW]
  | q :: r, h => by
    obtain ⟨h1, h2⟩ := List.pairwise_cons.mp h
    unfold insW
    split
    · rename_i lt
      refine List.pairwise_cons.mpr ⟨fun x hx => ?_, sorted_insW h2⟩
      rcases List.mem_cons.mp (perm_insW.mem_iff.mp hx) with rfl | hx
      · intro z; exact ltP2_irr _ (ltP2_tr z lt)
      · exact h1 x hx
    · rename_i nlt
      refine List.pairwise_cons.mpr ⟨fun x hx => ?_, h⟩
      rcases List.mem_cons.mp hx with rfl | hx
      · exact nlt
      · intro z
        rcases ltP2_tri q p with g | g | g
        · exact nlt g
        · subst g; exact h1 x hx z
        · exact h1 x hx (ltP2_tr z g)
theorem perm_srtP : ∀ {ps : List P2}, (srtP ps).Perm ps
  | [] => .refl _
  | p :: ps => (perm_insW (l := srtP ps)).trans ((perm_srtP (ps := ps)).cons p)
theorem sorted_srtP : ∀ {ps : List P2}, (srtP ps).Pairwise leP2
  | [] => .nil
  | p :: ps => sorted_insW (sorted_srtP (ps := ps))
theorem leP2_anti {a b : P2} (h : leP2 a b) (h' : leP2 b a) : a = b := by
  rcases ltP2_tri a b with g | g | g
  · exact absurd g h'
  · exact g
  · exact absurd g h
theorem sortedW_unique : ∀ {a b : List P2}, a.Pairwise leP2 → b.Pairwise leP2 → a.Perm b → a = b
  | [], b, _, _, h => (List.Perm.eq_nil h.symm).symm
  | x :: a, [], _, _, h => absurd h.length_eq (by simp)
  | x :: a, y :: b, ha, hb, h => by
    obtain ⟨a1, a2⟩ := List.pairwise_cons.mp ha
    obtain ⟨b1, b2⟩ := List.pairwise_cons.mp hb
    have e : x = y := by
      rcases List.mem_cons.mp (h.mem_iff.mp List.mem_cons_self) with g | g
      · exact g
      · rcases List.mem_cons.mp (h.mem_iff.mpr List.mem_cons_self) with g2 | g2
        · exact g2.symm
        · exact leP2_anti (a1 y g2) (b1 x g)
    subst e
    rw [sortedW_unique a2 b2 h.cons_inv]
theorem srtP_ssP {ps : List P2} (h : ps.Nodup) : srtP ps = ssP ps := by
  refine sorted_unique ?_ sorted_ssP fun x => ?_
  · have hn : (srtP ps).Nodup := (perm_srtP.nodup_iff).mpr h
    have := List.Pairwise.and (sorted_srtP (ps := ps)) hn
    refine this.imp fun {a b} q => ?_
    rcases ltP2_tri a b with g | g | g
    · exact g
    · exact absurd g q.2
    · exact absurd g q.1
  · rw [mem_ssP]; exact perm_srtP.mem_iff
def pairAt (h : Heap) (u : Value) : P2 := match u with
  | .ref t => (match h.get? t with
    | some o => (match o.data with
      | .seq its _ => (match its.toList with
        | [.int a _, .int b _] => (a, b)
        | _ => (0, 0))
      | _ => (0, 0))
    | none => (0, 0))
  | _ => (0, 0)
def rSortedPQ (K : PySem.W.Frag) : List V → Hp → VK → Prop := fun vs H Q => ∃ (a : Addr) (xs : List V) (ps : List P2) (F : V → P2 → Prop), vs = [V.ref a] ∧ SqL K H a xs ∧ Paired F xs ps ∧
  (∀ x p, F x p → ∃ t, x = V.ref t ∧ SqT K H t [.int p.1, .int p.2]) ∧ ∀ ys b, Paired F ys (srtP ps) → H b = none → Q (.ref b) (upd H b (.lst ys))
theorem paired_map {F : V → P2 → Prop} {k : Value → P2} : ∀ {l : List Value}, (∀ u ∈ l, F (backV u) (k u)) → Paired F (l.map backV) (l.map k)
  | [], _ => .nil
  | u :: l, h => .cons (h u List.mem_cons_self) (paired_map fun v hv => h v (List.mem_cons_of_mem _ hv))
section
variable {X : Cx}
theorem cr_sortedPQ : CallR X (.builtin "sorted") (rSortedPQ X.K) := by
  intro pins s σ H vs us Q I r h
  obtain ⟨a, xs, ps, F, rfl, hs, hx, hF, q⟩ := h
  obtain ⟨its, rv, hl, hz⟩ := I.list hs
  obtain ⟨u, rfl, ru⟩ := vals1 r
  obtain rfl : u = Value.ref a := ru
  have hx' : ∀ x ∈ xs, ∃ p, F x p := by
    clear rv hl hz q
    clear hs
    induction hx with
    | nil => intro x hx; cases hx
    | @cons x p xs ps h t ih =>
      intro y hy
      rcases List.mem_cons.mp hy with rfl | hy
      · exact ⟨p, h⟩
      · exact ih y hy
  obtain ⟨e1, e2⟩ := refs_back rv fun x m => by
    obtain ⟨p, hp⟩ := hx' x m
    obtain ⟨t, e, _⟩ := hF x p hp
    exact ⟨t, e⟩
  have at_ : ∀ t p, F (.ref t) p → ∃ o t1 t2 n, s.heap.get? t = some o ∧ o.cls = .type "tuple" ∧ o.data = .seq #[.int p.1 t1, .int p.2 t2] n ∧ pairAt s.heap (.ref t) = p := by
    intro t p hp
    obtain ⟨t', e, hq⟩ := hF _ p hp
    cases e
    obtain ⟨its2, r2, ⟨o, ho, hc, n, hd⟩, _⟩ := I.tuple hq
    obtain ⟨u1, u2, rfl, ri, rj⟩ := vals2 r2
    obtain ⟨t1, rfl⟩ := ri
    obtain ⟨t2, rfl⟩ := rj
    have hd : o.data = .seq #[.int p.1 t1, .int p.2 t2] n := hd
    refine ⟨o, t1, t2, n, ho, hc, hd, ?_⟩
    unfold pairAt
    simp only [ho, hd]
  have k_is : ∀ {xs : List V} {ps : List P2} {its : List Value}, Paired F xs ps → xs = its.map backV → (∀ u ∈ its, ∃ a, u = Value.ref a) → its.map (pairAt s.heap) = ps ∧ ∀ u ∈ its, F (backV u) (pairAt s.heap u) := by
    intro xs ps its hp
    induction hp generalizing its with
    | nil =>
      intro e _
      cases its with
      | nil => exact ⟨rfl, fun u hu => absurd hu List.not_mem_nil⟩
      | cons u l => cases e
    | @cons x p xs ps h t ih =>
      intro e hr
      cases its with
      | nil => cases e
      | cons u l =>
        rw [List.map_cons] at e
        injection e with e3 e4
        obtain ⟨i1, i2⟩ := ih e4 fun v hv => hr v (List.mem_cons_of_mem _ hv)
        obtain ⟨c, rfl⟩ := hr u List.mem_cons_self
        have hb : backV (Value.ref c) = V.ref c := rfl
        rw [hb] at e3
        subst e3
        obtain ⟨_, _, _, _, _, _, _, hk⟩ := at_ c p h
        refine ⟨by rw [List.map_cons, hk, i1], fun v hv => ?_⟩
        rcases List.mem_cons.mp hv with rfl | hv
        · rw [hk, hb]; exact h
        · exact i2 v hv
  obtain ⟨m1, m2⟩ := k_is hx e1 e2
  refine SrtO.sorted_pairsO (k := pairAt s.heap) hl.isList (by rw [← rv.length]; exact hz) (fun v hv => ?_) fun h' d out h1 h2 kp hd hn => ?_
  · obtain ⟨t, rfl⟩ := e2 v hv
    have hf := m2 _ hv
    obtain ⟨o, t1, t2, n, ho, hc, hd, hk⟩ := at_ t _ hf
    exact ⟨t, o, t1, t2, n, rfl, ho, hc, hd⟩
  · have h3 : ∀ u ∈ out, ∃ a, u = Value.ref a := fun u hu => e2 u (h2.perm.mem_iff.mp hu)
    obtain ⟨n, hn⟩ := hn
    have ho : out.map (pairAt s.heap) = srtP ps := by
      refine sortedW_unique ?_ sorted_srtP ((h2.perm.map _).trans (by rw [m1]; exact perm_srtP.symm))
      refine List.pairwise_map.mpr (List.Pairwise.imp (fun {x y} h => ?_) h1)
      exact SrtO.lexB_no.mp h
    have hb : Paired F (out.map backV) (srtP ps) := by
      rw [← ho]
      exact paired_map fun u hu => m2 u (h2.perm.mem_iff.mp hu)
    have hlen : out.length = xs.length := by rw [h2.perm.length_eq, ← rv.length]
    refine ⟨.ref d, upd H d (.lst (out.map backV)), I.laid (t' := s.toks) kp hd ⟨?_, out, n, vals_back h3, hn⟩, rfl, q _ d hb (I.hok.fresh hd)⟩
    rw [List.length_map, hlen]
    exact hz
end
def srtF : FA := fun as st => match as with
  | [.tup _] => .fail
  | [a] => (match (seqOf a st).bind pairsOf with
    | some ps => .ok (.lst ((srtP ps).map pairD)) st
    | none => .fail)
  | _ => .fail
theorem pair_rep {K : PySem.W.Frag} {M : Mem} {H : Hp} {p : P2} {x : V} (r : Rep K M H (pairD p) x) : ∃ t, x = .ref t ∧ FzT K M H t [.int p.1, .int p.2] := by
  unfold pairD Rep at r
  obtain ⟨a, vs, rfl, f, q⟩ := r
  obtain ⟨x, y, rfl, r1, r2⟩ := RepL.two q
  rw [rep_int_iff] at r1 r2
  subst r1 r2
  exact ⟨a, rfl, f⟩
theorem paired_rep {K : PySem.W.Frag} {M : Mem} {H : Hp} : ∀ {ps : List P2} {xs : List V}, RepL K M H (ps.map pairD) xs → Paired (fun x p => Rep K M H (pairD p) x) xs ps
  | [], xs, r => by unfold RepL at r; simp at r; subst r; exact .nil
  | p :: ps, xs, r => by
    rw [List.map_cons] at r
    unfold RepL at r
    obtain ⟨v, rr, rfl, h1, h2⟩ := r
    exact .cons h1 (paired_rep h2)
theorem rep_paired {K : PySem.W.Frag} {M : Mem} {H : Hp} : ∀ {ps : List P2} {xs : List V}, Paired (fun x p => Rep K M H (pairD p) x) xs ps → RepL K M H (ps.map pairD) xs
  | _, _, .nil => .nil
  | _, _, .cons h t => .cons h (rep_paired t)
theorem v_srt {K : PySem.W.Frag} : CallV K (rSortedPQ K) srtF := by
  intro as xs M H st Q E ra so p
  unfold srtF at p
  split at p
  · exact p.elim
  · rename_i a hnt
    split at p
    · rename_i ps e
      obtain ⟨x, rfl, rx⟩ := ra.one
      obtain ⟨ds, e1, e2⟩ := Option.bind_eq_some_iff.mp e
      have ed := pairsOf_some e2
      subst ed
      obtain ⟨t, vs, rfl, hs, rl⟩ : ∃ t vs, x = .ref t ∧ SqL K H t vs ∧ RepL K M H (ps.map pairD) vs := by
        cases a with
        | «mut» n =>
          unfold Rep at rx
          obtain ⟨t, rfl, m⟩ := rx
          simp only [seqOf] at e1
          split at e1
          · rename_i ys hy
            cases e1
            obtain ⟨vs, hv, rl⟩ := so.at_ n t _ m hy
            exact ⟨t, vs, rfl, .of hv, rl⟩
          · cases e1
        | lst ys => cases e1; unfold Rep at rx; obtain ⟨t, vs, e, f, q⟩ := rx; exact ⟨t, vs, e, f.sq, q⟩
        | slo ys => cases e1; unfold Rep at rx; obtain ⟨t, vs, e, f, q⟩ := rx; exact ⟨t, vs, e, f.sq, q⟩
        | tup ys => exact absurd rfl (hnt ys)
        | _ => cases e1
      refine ⟨t, vs, ps, fun x p => Rep K M H (pairD p) x, rfl, hs, paired_rep rl, fun x p r => ?_, fun ys b hp hb => ?_⟩
      · obtain ⟨t, e, f⟩ := pair_rep r
        exact ⟨t, e, f.sq⟩
      · exact p M _ _ (.laid so hb) (so.laid hb) (rep_lst so (rep_paired hp) hb)
    · exact p.elim
  · exact p.elim
@[simp] theorem srtF_pairs (ps : List P2) (st : Sto) : srtF [.lst (ps.map pairD)] st = .ok (.lst ((srtP ps).map pairD)) st := by
  show (match (some (ps.map pairD)).bind pairsOf with | some ps => _ | none => _) = _
  rw [Option.bind_some, pairsOf_map]
def keysL (kvs : List (List L2.Key × V)) : List D := kvs.map fun p => .tup (p.1.map kD)
def listTF : FA := fun as st => match as with
  | [.mut n] => (match st[n]? with
    | some (.dt kvs) => .ok (.lst (keysL kvs)) st
    | _ => .fail)
  | _ => .fail
theorem keysL_rep {K : PySem.W.Frag} {M : Mem} {H : Hp} {st : Sto} (so : StOk K M H st) : ∀ {kvs : List (List L2.Key × V)} {bs : List Addr}, IsKeys H kvs bs → RepL K M H (keysL kvs) (bs.map V.ref)
  | _, _, .nil => .nil
  | _, _, .cons (a := p) (b := b) h t => by
    refine .cons ?_ (keysL_rep so t)
    unfold Rep
    refine ⟨b, p.1.map kV, rfl, ⟨h, fun hb => ?_, fun hb => ?_⟩, ?_⟩
    · obtain ⟨n, hn, e⟩ := List.mem_iff_getElem.mp hb
      have hs : n < st.length := by rw [← so.len]; exact hn
      have q := so.at_ n b st[n] (by rw [List.getElem?_eq_getElem hn, e]) (List.getElem?_eq_getElem hs)
      cases e2 : st[n] with
      | lst xs => rw [e2] at q; obtain ⟨vs, hv, _⟩ := q; rw [h] at hv; cases hv
      | dk xs => rw [e2] at q; have q : H b = some (.dK xs) := q; rw [h] at q; cases q
      | dt xs => rw [e2] at q; have q : H b = some (.dT xs) := q; rw [h] at q; cases q
      | fk xs => rw [e2] at q; obtain ⟨o, _, hv⟩ := q; rw [h] at hv; cases hv
      | dd xs => rw [e2] at q; obtain ⟨ws, hv, _⟩ := q; rw [h] at hv; cases hv
      | de xs => rw [e2] at q; obtain ⟨ws, hv, _⟩ := q; rw [h] at hv; cases hv
      | fd xs => rw [e2] at q; obtain ⟨o, ws, _, hv, _⟩ := q; rw [h] at hv; cases hv
      | fe xs => rw [e2] at q; obtain ⟨o, ws, _, hv, _⟩ := q; rw [h] at hv; cases hv
    · obtain ⟨_, o, e⟩ := so.pd b hb
      rw [h] at e; cases e
    · clear h t
      induction p.1 with
      | nil => exact .nil
      | cons k ks ih => exact .cons (kD_rep k) ih
theorem v_listT {K : PySem.W.Frag} : CallV K (fun xs H Q => ∃ d kvs, xs = [V.ref d] ∧ Rd H d (.dT kvs) ∧ ∀ p bs, H p = none → IsKeys H kvs bs → Q (.ref p) (upd H p (.lst (bs.map V.ref)))) listTF := by
  intro as xs M H st Q E ra so p
  unfold listTF at p
  split at p
  · split at p
    · rename_i n _ kvs e
      obtain ⟨x, rfl, rx⟩ := ra.one
      unfold Rep at rx
      obtain ⟨t, rfl, m⟩ := rx
      have hd : H t = some (.dT kvs) := so.at_ n t _ m e
      exact ⟨t, kvs, rfl, .of hd, fun b bs hb hk => p M _ _ (.laid so hb) (so.laid hb) (rep_lst so (keysL_rep so hk) hb)⟩
    · exact p.elim
  · exact p.elim
end G
namespace G
open PySem PySem.Spec PyProof.Rows L2
mutual
def rOk : D → Bool
  | .non => true
  | .bl _ => true
  | .int i => decide (i.natAbs < 2 ^ 400)
  | .str x => decide (x.cps.size ≤ 400) && x.cps.toList.all fun c => decide (c < 16 ^ 8)
  | .tup xs => rOkL xs
  | .lst xs => rOkL xs
  | .slo xs => rOkL xs
  | _ => false
def rOkL : List D → Bool
  | [] => true
  | x :: xs => rOk x && rOkL xs
end
mutual
def rWt : D → Nat
  | .int _ => 401
  | .str _ => 401
  | .tup xs => rWtL xs
  | .lst xs => rWtL xs
  | .slo xs => rWtL xs
  | _ => 0
def rWtL : List D → Nat
  | [] => 0
  | x :: xs => rWt x + 1 + rWtL xs
end
mutual
def rDp : D → Nat
  | .tup xs => rDpL xs + 1
  | .lst xs => rDpL xs + 1
  | .slo xs => rDpL xs + 1
  | _ => 0
def rDpL : List D → Nat
  | [] => 0
  | x :: xs => max (rDp x) (rDpL xs)
end
structure ShP (p : PyData) (w d : Nat) : Prop where
  nd : p.hasDict = false
  sh : p.showable = true
  ls : p.leavesShort 500 = true
  wt : p.weight ≤ w
  dp : p.depth ≤ d
structure ShL (ps : List PyData) (w d : Nat) : Prop where
  nd : PyData.hasDictAll ps = false
  sh : PyData.showableAll ps = true
  ls : PyData.leavesShortAll 500 ps = true
  wt : PyData.weightAll ps ≤ w
  dp : PyData.depthAll ps ≤ d
theorem ShL.tup {ps : List PyData} {w d : Nat} (h : ShL ps w d) : ShP (.tuple ps) w (d + 1) :=
  ⟨by simpa [PyData.hasDict] using h.nd, by simpa [PyData.showable] using h.sh, by simpa [PyData.leavesShort] using h.ls, by simpa [PyData.weight] using h.wt, by simpa [PyData.depth] using h.dp⟩
theorem ShL.lst {ps : List PyData} {w d : Nat} (h : ShL ps w d) : ShP (.list ps) w (d + 1) :=
  ⟨by simpa [PyData.hasDict] using h.nd, by simpa [PyData.showable] using h.sh, by simpa [PyData.leavesShort] using h.ls, by simpa [PyData.weight] using h.wt, by simpa [PyData.depth] using h.dp⟩
mutual
theorem toPD_show : ∀ {d : D}, rOk d = true → ∃ p, toPD d = some p ∧ ShP p (rWt d) (rDp d)
  | .non, _ => ⟨.none, rfl, by constructor <;> simp [PyData.hasDict, PyData.showable, PyData.leavesShort, PyData.weight, PyData.depth, rWt, rDp]⟩
  | .bl b, _ => ⟨.bool b, rfl, by constructor <;> simp [PyData.hasDict, PyData.showable, PyData.leavesShort, PyData.weight, PyData.depth, rWt, rDp]⟩
  | .int i, h => by
    have h : i.natAbs < 2 ^ 400 := by simpa [rOk] using h
    have hl : i.natAbs.log2 < 400 := by
      by_cases h0 : i.natAbs = 0
      · rw [h0]; decide
      · exact (Nat.log2_lt h0).mpr h
    have ht := int_text_length_le (a := i) (k := 400) (by decide) hl
    refine ⟨.int i, rfl, by simp [PyData.hasDict], by simp [PyData.showable]; omega, ?_, ?_, by simp [PyData.depth]⟩
    · have : (Str.ofString (toString i)).length ≤ 500 := by rw [PySem.ofString_length]; omega
      unfold PyData.leavesShort PyData.shown
      exact decide_eq_true this
    · unfold PyData.weight rWt
      split <;> omega
  | .tup xs, h => by
    obtain ⟨ps, e, q⟩ := toPDs_show (ds := xs) (by simpa [rOk] using h)
    exact ⟨.tuple ps, by unfold toPD; rw [e]; rfl, by simpa [rWt, rDp] using q.tup⟩
  | .lst xs, h => by
    obtain ⟨ps, e, q⟩ := toPDs_show (ds := xs) (by simpa [rOk] using h)
    exact ⟨.list ps, by unfold toPD; rw [e]; rfl, by simpa [rWt, rDp] using q.lst⟩
  | .slo xs, h => by
    obtain ⟨ps, e, q⟩ := toPDs_show (ds := xs) (by simpa [rOk] using h)
    exact ⟨.list ps, by unfold toPD; rw [e]; rfl, by simpa [rWt, rDp] using q.lst⟩
  | .str x, h => by
    have h : x.cps.size ≤ 400 ∧ (x.cps.toList.all fun c => decide (c < 16 ^ 8)) = true := by
      unfold rOk at h
      rw [Bool.and_eq_true, decide_eq_true_eq] at h
      exact h
    refine ⟨.str x, rfl, by simp [PyData.hasDict], by simp [PyData.showable], ?_, ?_, by simp [PyData.depth]⟩
    · unfold PyData.leavesShort
      exact h.2
    · unfold PyData.weight rWt
      omega
  | .raw _, h => by simp [rOk] at h
  | .dic, h => by simp [rOk] at h
  | .fn _, h => by simp [rOk] at h
  | .emp, h => by simp [rOk] at h
  | .rg .., h => by simp [rOk] at h
  | .exv .., h => by simp [rOk] at h
  | .mut _, h => by simp [rOk] at h
theorem toPDs_show : ∀ {ds : List D}, rOkL ds = true → ∃ ps, toPDs ds = some ps ∧ ShL ps (rWtL ds) (rDpL ds)
  | [], _ => ⟨[], rfl, by constructor <;> simp [PyData.hasDictAll, PyData.showableAll, PyData.leavesShortAll, PyData.weightAll, PyData.depthAll, rWtL, rDpL]⟩
  | d :: ds, h => by
    have h : rOk d = true ∧ rOkL ds = true := by simpa [rOkL] using h
    obtain ⟨p, e1, q1⟩ := toPD_show h.1
    obtain ⟨ps, e2, q2⟩ := toPDs_show h.2
    refine ⟨p :: ps, by unfold toPDs; rw [e1, e2], ?_⟩
    constructor
    · simp [PyData.hasDictAll, q1.nd, q2.nd]
    · simp [PyData.showableAll, q1.sh, q2.sh]
    · simp [PyData.leavesShortAll, q1.ls, q2.ls]
    · have := q1.wt; have := q2.wt
      simp only [PyData.weightAll, rWtL]; omega
    · have := q1.dp; have := q2.dp
      simp only [PyData.depthAll, rDpL]; omega
end
def shD (d : D) : Str := match toPD d with
  | some p => p.shown
  | none => Str.ofString ""
def empT : Str := (PyData.dict []).shown
def reprF : FA := fun as st => match as with
  | [.emp] => .ok (.str empT) st
  | [a] => if rOk a = true ∧ rWt a ≤ 33000 ∧ rDp a ≤ 20 then .ok (.str (shD a)) st else .fail
  | _ => .fail
def rRepr (K : PySem.W.Frag) : List V → Hp → VK → Prop := fun xs H Q => (∃ a, xs = [.ref a] ∧ H a = some (.dK []) ∧ Q (.str empT) H) ∨ ∃ (x : V) (p : PyData), xs = [x] ∧ Dp K H x p ∧ p.hasDict = false ∧ p.showable = true ∧ p.depth ≤ 20 ∧ p.shown.length ≤ sizeLine ∧ Q (.str p.shown) H
theorem bt_repr : bootBuiltins "repr" = some (.builtin "repr") := by decide +kernel
section
variable {X : Cx}
theorem cr_repr {k : Nat} (hr : RoomG k X.A) : CallR X (.builtin "repr") (rRepr X.K) := by
  intro pins s σ H xs us Q I r h
  rcases h with ⟨a, rfl, hH, q⟩ | h
  · obtain ⟨u, rfl, ru⟩ := vals1 r
    obtain rfl : u = .ref a := ru
    have ho : ObjOk X.prog X.w H s.heap a (.dK []) := I.hok a _ hH
    obtain ⟨_, hsm, vs, kv, o, es, ep, e1, e2, e3, _, e5, _⟩ := ho
    cases kv
    have hes : es.toList = [] := by
      revert e5
      generalize es.toList = l
      intro e5
      cases e5
      rfl
    have rd : Reads s.heap (.ref a) (.dict []) (a :: [] ++ []) := .dict e1 e2.1 e3 (by rw [hes]; exact .nil) (by rw [hes]; exact .nil)
    refine repr_of_reads' rd (by simp [PyData.showable, PyData.showableKv]) (fun _ h => ?_) hr.gd (by have := hr.units; simp [PyData.depth, PyData.depthKv]; omega) (fun _ _ e => e) (fun h' t tk kp => ⟨.str empT, H, I.kept (t' := tk) kp, ⟨t, rfl⟩, q⟩) (by decide +kernel)
    simp at h
    rw [h] at hsm
    simp at hsm
  obtain ⟨x, p, rfl, hd, h1, h2, h3, h4, q⟩ := h
  obtain ⟨u, rfl, ru⟩ := vals1 r
  obtain ⟨as, rd⟩ := Dp.reads I p x u hd ru
  have fin : ∀ (h' : Heap) (t : Tok) (tk : Nat), (∀ b o, s.heap.get? b = some o → h'.get? b = some o) → EP X pins σ Q (.str p.shown t) { s with heap := h', toks := tk } := fun h' t tk kp =>
    ⟨.str p.shown, H, I.kept (t' := tk) kp, ⟨t, rfl⟩, q⟩
  cases rd with
  | none => exact PySem.P.repr_of_none (fin s.heap _ _ fun _ _ e => e)
  | bool b => exact PySem.P.repr_of_bool (fin s.heap _ _ fun _ _ e => e)
  | int i t => exact PySem.P.repr_of_int (by simpa [PyData.showable] using h2) (fin s.heap _ _ fun _ _ e => e)
  | str y t => exact PySem.P.repr_of_str (fin s.heap _ _ fun _ _ e => e) h4
  | list a1 a2 a3 a4 =>
    exact repr_of_reads' (.list a1 a2 a3 a4) h2 (PyData.noDict_hsm h1) hr.gd (by have := hr.units; omega) (fun _ _ e => e) (fun h' t tk kp => fin h' t tk kp) h4
  | tuple a1 a2 a3 a4 =>
    exact repr_of_reads' (.tuple a1 a2 a3 a4) h2 (PyData.noDict_hsm h1) hr.gd (by have := hr.units; omega) (fun _ _ e => e) (fun h' t tk kp => fin h' t tk kp) h4
  | dict a1 a2 a3 a4 a5 => simp [PyData.hasDict] at h1
end
theorem v_repr {K : PySem.W.Frag} : CallV K (rRepr K) reprF := by
  intro as xs M H st Q E ra so p
  unfold reprF at p
  split at p
  · obtain ⟨x, rfl, rx⟩ := ra.one
    unfold Rep at rx
    obtain ⟨a, rfl, hH, _⟩ := rx
    exact .inl ⟨a, rfl, hH, p M H _ .refl so (rep_str _ _ _)⟩
  · rename_i a _
    split at p
    · rename_i h
      obtain ⟨x, rfl, rx⟩ := ra.one
      obtain ⟨pd, e, sp⟩ := toPD_show h.1
      have sl := PyData.shown_le 500 (by decide) pd sp.ls
      have hw := sp.wt
      refine .inr ⟨x, pd, rfl, toPD_rep e rx, sp.nd, sp.sh, Nat.le_trans sp.dp h.2.2, by rw [sizeLine_eq]; omega, ?_⟩
      have es : shD a = pd.shown := by unfold shD; rw [e]
      rw [es] at p
      exact p M H _ .refl so (rep_str _ _ _)
    · exact p.elim
  · exact p.elim
theorem reprF_ok {a : D} (st : Sto) (h1 : rOk a = true) (h2 : rWt a ≤ 33000) (h3 : rDp a ≤ 20) : reprF [a] st = .ok (.str (shD a)) st := by
  unfold reprF
  split
  · rename_i e
    cases e
    simp [rOk] at h1
  · rename_i e
    cases e
    rw [if_pos ⟨h1, h2, h3⟩]
  · rename_i h1 h2
    first | exact absurd rfl (h2 a) | exact absurd rfl (h1 a)
@[simp] theorem reprF_emp (st : Sto) : reprF [.emp] st = .ok (.str empT) st := rfl
@[simp] theorem neD_str (x : Str) (st : Sto) : neD (.str x) (.str x) st = .ok (.bl false) st := by
  unfold neD eqO scalD
  simp
@[simp] theorem eqD_str (x : Str) (st : Sto) : eqD (.str x) (.str x) st = .ok (.bl true) st := by
  unfold eqD eqO scalD
  simp
end G
namespace G
open PySem PySem.Spec PyProof.Rows L2
def cd (ns : List Int) : Int := TS.code (big : Int) ns
end G
namespace G
open PySem PySem.Spec PyProof.Rows L2
def lstOf (d : D) (st : Sto) : Option (List D) := match d with
  | .lst xs => some xs
  | .slo xs => some xs
  | .mut n => (match st[n]? with
    | some (.lst xs) => some xs
    | _ => none)
  | _ => none
def indexF : FM := fun d as st => match as with
  | [.int x] => (match (lstOf d st).bind intsOf with
    | some ns => (match ns.findIdx? (fun y => y == x) with
      | some j => .ok (.int (j : Nat)) st
      | none => .fail)
    | none => .fail)
  | _ => .fail
end G
namespace G
open PySem PySem.Spec PyProof.Rows L2
def listRgE (fa : EvE) : EvE := fun env st => (fa env st).bind fun a st1 => match a with
  | .int n => if 0 ≤ n ∧ n ≤ 16777216 then .ok (.lst ((List.range n.toNat).map fun i => .int (i : Nat))) st1 else .fail
  | _ => .fail
@[simp] theorem listRgE_eq (fa : EvE) (env : Env) (st : Sto) : listRgE fa env st = (fa env st).bind fun a st1 => match a with
  | .int n => if 0 ≤ n ∧ n ≤ 16777216 then .ok (.lst ((List.range n.toNat).map fun i => .int (i : Nat))) st1 else .fail
  | _ => .fail := rfl
end G
namespace G
open PySem PySem.Spec PyProof.Rows L2
def thawD (st : Sto) : D → D
  | .mut n => match st[n]? with
    | some (.lst xs) => .lst xs
    | _ => .mut n
  | d => d
def eqMO (a b : D) (st : Sto) : Option Bool := match toPD (thawD st a), toPD (thawD st b) with
  | some x, some y => if SeqAt.shaped x = true ∧ SeqAt.shaped y = true then some (PyData.eqv x y) else none
  | _, _ => none
def eqMD : F2 := fun a b st => match eqMO a b st with
  | some k => .ok (.bl k) st
  | none => .fail
def neMD : F2 := fun a b st => match eqMO a b st with
  | some k => .ok (.bl (!k)) st
  | none => .fail
section
variable {K : PySem.W.Frag}
theorem thawM_rep {M : Mem} {H : Hp} {st : Sto} {d : D} {p : PyData} {v : V} (so : StOk K M H st) (h : toPD (thawD st d) = some p) (r : Rep K M H d v) : Dp K H v p := by
  cases d with
  | «mut» n =>
    have key : ∀ o : Option MO, st[n]? = o → toPD (match o with | some (.lst xs) => D.lst xs | _ => D.mut n) = some p → Dp K H v p := by
      intro o eo h
      match o, eo, h with
      | some (.lst xs), eo, h =>
        unfold Rep at r
        obtain ⟨a, rfl, am⟩ := r
        obtain ⟨vs, ha, q⟩ := so.at_ n a _ am eo
        have h : toPD (.lst xs) = some p := h
        unfold toPD at h
        cases e : toPDs xs with
        | none => rw [e] at h; cases h
        | some ps => rw [e] at h; cases h; exact .lst (.of ha) (toPDs_rep e q)
      | some (.dk _), eo, h => have h : toPD (.mut n) = some p := h; unfold toPD at h; cases h
      | some (.dt _), eo, h => have h : toPD (.mut n) = some p := h; unfold toPD at h; cases h
      | some (.fk _), eo, h => have h : toPD (.mut n) = some p := h; unfold toPD at h; cases h
      | some (.dd _), eo, h => have h : toPD (.mut n) = some p := h; unfold toPD at h; cases h
      | some (.de _), eo, h => have h : toPD (.mut n) = some p := h; unfold toPD at h; cases h
      | some (.fd _), eo, h => have h : toPD (.mut n) = some p := h; unfold toPD at h; cases h
      | some (.fe _), eo, h => have h : toPD (.mut n) = some p := h; unfold toPD at h; cases h
      | none, eo, h => have h : toPD (.mut n) = some p := h; unfold toPD at h; cases h
    exact key _ rfl h
  | non => exact toPD_rep h r
  | bl b => exact toPD_rep h r
  | int b => exact toPD_rep h r
  | str b => exact toPD_rep h r
  | raw b => exact toPD_rep h r
  | dic => exact toPD_rep h r
  | fn _ => exact toPD_rep h r
  | emp => exact toPD_rep h r
  | rg _ _ => exact toPD_rep h r
  | exv => exact toPD_rep h r
  | tup b => exact toPD_rep h r
  | lst b => exact toPD_rep h r
  | slo b => exact toPD_rep h r
theorem eqMO_rep {M : Mem} {H : Hp} {st : Sto} {a b : D} {x y : V} {k : Bool} (so : StOk K M H st) (h : eqMO a b st = some k) (ra : Rep K M H a x) (rb : Rep K M H b y) :
    ∃ d e, Dp K H x d ∧ Dp K H y e ∧ SeqAt.shaped d = true ∧ SeqAt.shaped e = true ∧ PyData.eqv d e = k := by
  unfold eqMO at h
  split at h
  · rename_i d e e1 e2
    split at h
    · rename_i hs
      cases h
      exact ⟨d, e, thawM_rep so e1 ra, thawM_rep so e2 rb, hs.1, hs.2, rfl⟩
    · cases h
  · cases h
theorem v_neM : OpV K (rOr rNe (rNeD K)) neMD := by
  intro a b x y M H st Q E ra rb so p
  unfold neMD at p
  split at p
  · rename_i k h
    obtain ⟨d, e, h1, h2, h3, h4, h5⟩ := eqMO_rep so h ra rb
    exact .inr ⟨d, e, h1, h2, h3, h4, p M H _ .refl so (by rw [h5]; exact rep_bl _ _ _)⟩
  · exact p.elim
end
end G
namespace G
open PySem PySem.Spec PyProof.Rows L2
def NotFrz (H : Hp) (d : Addr) : Prop := ∀ o u, H d ≠ some (.frz o u)
def tUnlE (t : TE) : TE := fun σ H Q => t σ H fun v H' => ∃ d od u, H' d = some (.frz od u) ∧ NotFrz H d ∧ Q v (upd H' d u)
section
variable {X : Cx} {pins : List (Addr × Obj)} {σ : L2.St} {H : Hp} {s : Shared}
theorem notfrz0 (I : Inv X pins σ H s) {d : Addr} (h : NotFrz H d) : ∀ o' u', X.H_0 d ≠ some (.frz o' u') := fun o' u' e => h _ _ (I.base.frzs d o' u' e)
theorem pe_unl {e : Expr} {t : TE} (h : PE X e t) : PE X e (tUnlE t) := by
  refine ⟨fun pins s σ H Q I hw => ?_⟩
  refine thn (h.run pins s σ H _ I hw) fun v s1 ⟨x, H1, I2, r, d, od, u, e2, n, q⟩ => ?_
  exact ⟨x, _, I2.unlock e2 (notfrz0 I n), r, q⟩
end
end G
namespace G
open PySem PySem.Spec PyProof.Rows L2
section
variable {κ β : Type} [DecidableEq κ]
def vGet (kvs : List (κ × β)) (k : κ) : Option β := (kvs.find? fun kv => decide (kv.1 = k)).map (·.2)
def vPut (kvs : List (κ × β)) (k : κ) (v : β) : List (κ × β) :=
  if (kvs.any fun kv => decide (kv.1 = k)) = true then kvs.map (fun kv => if kv.1 = k then (kv.1, v) else kv) else kvs ++ [(k, v)]
theorem vGet_pos {p : κ × β} {r : List (κ × β)} {k : κ} (e : p.1 = k) : vGet (p :: r) k = some p.2 := by simp [vGet, List.find?_cons, e]
theorem vGet_neg {p : κ × β} {r : List (κ × β)} {k : κ} (e : ¬ p.1 = k) : vGet (p :: r) k = vGet r k := by simp [vGet, List.find?_cons, e]
theorem vGet_any (k : κ) : ∀ kvs : List (κ × β), (kvs.any fun kv => decide (kv.1 = k)) = (vGet kvs k).isSome
  | [] => rfl
  | p :: r => by
    rw [List.any_cons]
    by_cases e : p.1 = k
    · simp only [vGet_pos e, decide_eq_true e, Bool.true_or, Option.isSome_some]
    · rw [vGet_neg e, decide_eq_false e, Bool.false_or]; exact vGet_any k r
theorem vPut_keys (kvs : List (κ × β)) (k : κ) (v : β) : (vPut kvs k v).map (·.1) = if k ∈ kvs.map (·.1) then kvs.map (·.1) else kvs.map (·.1) ++ [k] := by
  have hm : (kvs.any fun kv => decide (kv.1 = k)) = true ↔ k ∈ kvs.map (·.1) := by
    rw [List.any_eq_true, List.mem_map]
    constructor
    · rintro ⟨x, h1, h2⟩; exact ⟨x, h1, of_decide_eq_true h2⟩
    · rintro ⟨x, h1, h2⟩; exact ⟨x, h1, decide_eq_true h2⟩
  unfold vPut
  by_cases h : k ∈ kvs.map (·.1)
  · rw [if_pos (hm.mpr h), if_pos h, List.map_map]
    refine List.map_congr_left fun p _ => ?_
    show (if p.1 = k then (p.1, v) else p).1 = p.1
    split <;> rfl
  · rw [if_neg (fun z => h (hm.mp z)), if_neg h]; simp
end
section
variable {K : PySem.W.Frag} {M : Mem} {H : Hp} {κ : Type} [DecidableEq κ]
theorem RepKV.cons {k : κ} {d : D} {v : V} {kvs : List (κ × D)} {ws : List (κ × V)} (r : Rep K M H d v) (q : RepKV K M H kvs ws) : RepKV K M H ((k, d) :: kvs) ((k, v) :: ws) :=
  ⟨by simp [q.1], by simpa using RepL.cons r q.2⟩
theorem RepKV.inv {k : κ} {d : D} {kvs : List (κ × D)} {ws : List (κ × V)} (r : RepKV K M H ((k, d) :: kvs) ws) : ∃ v ws', ws = (k, v) :: ws' ∧ Rep K M H d v ∧ RepKV K M H kvs ws' := by
  obtain ⟨h1, h2⟩ := r
  cases ws with
  | nil => simp at h1
  | cons p ws' =>
    obtain ⟨k', v⟩ := p
    simp only [List.map_cons, List.cons.injEq] at h1
    obtain ⟨rfl, h1⟩ := h1
    simp only [List.map_cons] at h2
    unfold RepL at h2
    obtain ⟨v', r', e, r1, r2⟩ := h2
    injection e with e1 e2
    subst e1 e2
    exact ⟨_, _, rfl, r1, h1, r2⟩
theorem RepKV.nil_inv {ws : List (κ × V)} (r : RepKV K M H ([] : List (κ × D)) ws) : ws = [] := by
  have := r.1
  simpa using this
theorem RepKV.len {kvs : List (κ × D)} {ws : List (κ × V)} (r : RepKV K M H kvs ws) : ws.length = kvs.length := by
  have := congrArg List.length r.1
  simpa using this
theorem RepKV.get : ∀ {kvs : List (κ × D)} {ws : List (κ × V)} (_ : RepKV K M H kvs ws) (k : κ), (vGet kvs k = none → valV ws k = none) ∧ ∀ d, vGet kvs k = some d → ∃ v, valV ws k = some v ∧ Rep K M H d v
  | [], ws, r, k => by rw [r.nil_inv]; exact ⟨fun _ => rfl, fun d h => by cases h⟩
  | (k', d') :: kvs, ws, r, k => by
    obtain ⟨v, ws', rfl, r1, r2⟩ := r.inv
    by_cases e : k' = k
    · rw [vGet_pos (p := (k', d')) e, valV_pos (p := (k', v)) e]
      exact ⟨fun h => (nomatch h), fun d h => by cases h; exact ⟨v, rfl, r1⟩⟩
    · rw [vGet_neg (p := (k', d')) e, valV_neg (p := (k', v)) e]
      exact r2.get k
theorem RepKV.isS {kvs : List (κ × D)} {ws : List (κ × V)} (r : RepKV K M H kvs ws) (k : κ) : (valV ws k).isSome = (vGet kvs k).isSome := by
  obtain ⟨h1, h2⟩ := r.get k
  cases e : vGet kvs k with
  | none => rw [h1 e]; rfl
  | some d => obtain ⟨v, e2, _⟩ := h2 d e; rw [e2]; rfl
theorem RepKV.mapv {k : κ} {d : D} {v : V} (rv : Rep K M H d v) : ∀ {kvs : List (κ × D)} {ws : List (κ × V)}, RepKV K M H kvs ws → RepKV K M H (kvs.map fun kv => if kv.1 = k then (kv.1, d) else kv) (ws.map fun kv => if kv.1 = k then (kv.1, v) else kv)
  | [], ws, r => by rw [r.nil_inv]; exact ⟨rfl, .nil⟩
  | (k', d') :: kvs, ws, r => by
    obtain ⟨v', ws', rfl, r1, r2⟩ := r.inv
    rw [List.map_cons, List.map_cons]
    by_cases e : k' = k
    · simp only [e, if_true]
      exact .cons rv (r2.mapv rv)
    · simp only [e, if_false]
      exact .cons r1 (r2.mapv rv)
theorem RepKV.snoc {k : κ} {d : D} {v : V} (rv : Rep K M H d v) : ∀ {kvs : List (κ × D)} {ws : List (κ × V)}, RepKV K M H kvs ws → RepKV K M H (kvs ++ [(k, d)]) (ws ++ [(k, v)])
  | [], ws, r => by rw [r.nil_inv]; exact .cons rv ⟨rfl, .nil⟩
  | (k', d') :: kvs, ws, r => by
    obtain ⟨v', ws', rfl, r1, r2⟩ := r.inv
    exact .cons r1 (r2.snoc rv)
theorem RepKV.put {k : κ} {d : D} {v : V} {kvs : List (κ × D)} {ws : List (κ × V)} (r : RepKV K M H kvs ws) (rv : Rep K M H d v) : RepKV K M H (vPut kvs k d) (putK ws k v) := by
  have e : (ws.any fun kv => decide (kv.1 = k)) = (kvs.any fun kv => decide (kv.1 = k)) := by rw [valV_any, vGet_any, r.isS]
  unfold vPut putK
  rw [e]
  split
  · exact r.mapv rv
  · exact r.snoc rv
theorem RepKV.at : ∀ {kvs : List (κ × D)} {ws : List (κ × V)}, RepKV K M H kvs ws → ∀ {i : Nat} {k : κ} {d : D}, kvs[i]? = some (k, d) → ∃ v, ws[i]? = some (k, v) ∧ Rep K M H d v
  | [], ws, r, i, k, d, h => by simp at h
  | (k', d') :: kvs, ws, r, 0, k, d, h => by
    obtain ⟨v', ws', rfl, r1, r2⟩ := r.inv
    simp only [List.getElem?_cons_zero, Option.some.injEq, Prod.mk.injEq] at h
    obtain ⟨rfl, rfl⟩ := h
    exact ⟨v', rfl, r1⟩
  | (k', d') :: kvs, ws, r, i + 1, k, d, h => by
    obtain ⟨v', ws', rfl, r1, r2⟩ := r.inv
    simp only [List.getElem?_cons_succ] at h ⊢
    exact r2.at h
theorem tup_no {st : Sto} {q : Addr} {xs : List V} (so : StOk K M H st) (h : H q = some (.tup xs)) : M.no q := by
  refine ⟨fun hb => ?_, fun hb => ?_⟩
  · obtain ⟨n, hn, e⟩ := List.mem_iff_getElem.mp hb
    have hs : n < st.length := by rw [← so.len]; exact hn
    have q := so.at_ n q st[n] (by rw [List.getElem?_eq_getElem hn, e]) (List.getElem?_eq_getElem hs)
    cases e2 : st[n] with
    | lst xs => rw [e2] at q; obtain ⟨vs, hv, _⟩ := q; rw [h] at hv; cases hv
    | dk xs => rw [e2] at q; have q : H _ = some (.dK xs) := q; rw [h] at q; cases q
    | dt xs => rw [e2] at q; have q : H _ = some (.dT xs) := q; rw [h] at q; cases q
    | fk xs => rw [e2] at q; obtain ⟨o, _, hv⟩ := q; rw [h] at hv; cases hv
    | dd xs => rw [e2] at q; obtain ⟨ws, hv, _⟩ := q; rw [h] at hv; cases hv
    | de xs => rw [e2] at q; obtain ⟨ws, hv, _⟩ := q; rw [h] at hv; cases hv
    | fd xs => rw [e2] at q; obtain ⟨o, ws, _, hv, _⟩ := q; rw [h] at hv; cases hv
    | fe xs => rw [e2] at q; obtain ⟨o, ws, _, hv, _⟩ := q; rw [h] at hv; cases hv
  · obtain ⟨_, o, e⟩ := so.pd q hb
    rw [h] at e; cases e
theorem keys_rep (ks : List L2.Key) : RepL K M H (ks.map kD) (ks.map kV) := by
  induction ks with
  | nil => exact .nil
  | cons k ks ih => exact .cons (kD_rep k) ih
def ksOf : D → Option (List L2.Key)
  | .tup ds => keysOf ds
  | _ => none
theorem ksOf_rep {d : D} {ks : List L2.Key} {x : V} (h : ksOf d = some ks) (r : Rep K M H d x) : ∃ b, x = .ref b ∧ H b = some (.tup (ks.map kV)) := by
  cases d with
  | tup ds =>
    unfold Rep at r
    obtain ⟨b, vs, rfl, f, q⟩ := r
    have := keysOf_rep h q
    subst this
    exact ⟨b, rfl, f.1⟩
  | _ => cases h
end
def newEE : EvE := fun _ st => .ok (.mut st.length) (st ++ [.de []])
section
variable {X : Cx} {W : WX} {pos : Pos} {fk fv fd fa : EvE} {ke ve : Expr}
theorem g_newE : PE X (.Dict [] [] pos) (rdE X.K W newEE) :=
  pe_dnewT.imp fun σ H Q ⟨env, M, st, eo, so, p⟩ => fun a ha => p (M.push a) _ (.ref a) (.push so ha) (so.push ha ⟨[], upd_same, rfl, .nil⟩) (rep_mut so)
def putDD (d k v : D) (st : Sto) : Option Sto := match d with
  | .mut n => (match st[n]? with
    | some (.dd kvs) => (match keyOf k with
      | some k => if kvs.length < 16777216 then some (st.set n (.dd (vPut kvs k v))) else none
      | none => none)
    | some (.de kvs) => (match ksOf k with
      | some k => if kvs.length < 16777216 then some (st.set n (.de (vPut kvs k v))) else none
      | none => none)
    | _ => none)
  | _ => none
def putDS (fv fd fk : EvE) : SvS := fun env st => bindS (fv env st) env fun v st1 => bindS (fd env st1) env fun d st2 => bindS (fk env st2) env fun k st3 => match putDD d k v st3 with
  | some st4 => .nx env st4
  | none => .fail
theorem s_putDS {s : Stmt} (h : PS X s (sDPut (rdE X.K W fd) (rdE X.K W fk) (rdE X.K W fv))) : PS X s (rdS X.K W (putDS fv fd fk)) :=
  h.imp fun T σ H ⟨env, M, st, eo, so, p⟩ => ⟨env, M, st, eo, so, Post.imp (PostS.bind eo p) fun v H1 ⟨M1, st1, vd, g1, so1, rv, p1⟩ =>
    ⟨env, M1, st1, eo.grow g1, so1, Post.imp (PostS.bind (eo.grow g1) p1) fun x H2 ⟨M2, st2, dd, g2, so2, rd, p2⟩ =>
      ⟨env, M2, st2, (eo.grow g1).grow g2, so2, Post.imp (PostS.bind (rep := Rep X.K) ((eo.grow g1).grow g2) p2) fun y H3 ⟨M3, st3, kd, g3, so3, rk, p3⟩ => by
        split at p3
        · rename_i st4 e
          have rd := rd.grow g3
          have rv := rv.grow (g2.trans g3)
          unfold putDD at e
          split at e
          · rename_i n
            unfold Rep at rd
            obtain ⟨a, rfl, am⟩ := rd
            split at e
            · rename_i kvs e1
              obtain ⟨ws, hd, rkv⟩ := so3.at_ _ a _ am e1
              split at e
              · rename_i k' e2
                split at e
                · rename_i hl
                  cases e
                  refine ⟨a, _, rfl, .inl ⟨ws, k', hd, keyOf_rep e2 rk, by rw [sizeLine_eq, rkv.len]; exact hl, rfl⟩, ?_⟩
                  have g4 : Grow M3 H3 M3 (upd H3 a (.dK (putK ws k' v))) := .put so3 am
                  exact p3 M3 _ σ g4 (so3.put am ⟨_, upd_same, (rkv.put rv).grow g4⟩) (((eo.grow g1).grow g2).grow (g3.trans g4))
                · cases e
              · cases e
            · rename_i kvs e1
              obtain ⟨ws, hd, rkv⟩ := so3.at_ _ a _ am e1
              split at e
              · rename_i k' e2
                split at e
                · rename_i hl
                  cases e
                  obtain ⟨b, rfl, hb⟩ := ksOf_rep e2 rk
                  refine ⟨a, _, rfl, .inr ⟨ws, k', b, hd, rfl, hb, by rw [sizeLine_eq, rkv.len]; exact hl, rfl⟩, ?_⟩
                  have g4 : Grow M3 H3 M3 (upd H3 a (.dT (putK ws k' v))) := .put so3 am
                  exact p3 M3 _ σ g4 (so3.put am ⟨_, upd_same, (rkv.put rv).grow g4⟩) (((eo.grow g1).grow g2).grow (g3.trans g4))
                · cases e
              · cases e
            · cases e
          · cases e
        · exact p3.elim⟩⟩⟩
def dgetO (d k : D) (st : Sto) : Option (Option D) := match d with
  | .mut n => (match st[n]? with
    | some (.dd kvs) => (keyOf k).map fun k => vGet kvs k
    | some (.fd kvs) => (keyOf k).map fun k => vGet kvs k
    | some (.de kvs) => (ksOf k).map fun k => vGet kvs k
    | some (.fe kvs) => (ksOf k).map fun k => vGet kvs k
    | _ => none)
  | _ => none
theorem dgetO_rep {K : PySem.W.Frag} {M : Mem} {H : Hp} {st : Sto} {d k : D} {o : Option D} {x y : V} (so : StOk K M H st) (h : dgetO d k st = some o) (rd : Rep K M H d x) (rk : Rep K M H k y) :
    ∃ a r, x = .ref a ∧ DGet H a y r ∧ r.isSome = o.isSome ∧ ∀ z, o = some z → ∃ v, r = some v ∧ Rep K M H z v := by
  unfold dgetO at h
  split at h
  · rename_i n
    unfold Rep at rd
    obtain ⟨a, rfl, am⟩ := rd
    split at h
    · rename_i kvs e1
      obtain ⟨ws, hd, rkv⟩ := so.at_ _ a _ am e1
      obtain ⟨k', e2, rfl⟩ := Option.map_eq_some_iff.mp h
      exact ⟨a, _, rfl, .inl ⟨ws, k', .inl hd, keyOf_rep e2 rk, rfl⟩, rkv.isS k', (rkv.get k').2⟩
    · rename_i kvs e1
      obtain ⟨o, ws, _, hd, rkv⟩ := so.at_ _ a _ am e1
      obtain ⟨k', e2, rfl⟩ := Option.map_eq_some_iff.mp h
      exact ⟨a, _, rfl, .inl ⟨ws, k', .inr ⟨o, hd⟩, keyOf_rep e2 rk, rfl⟩, rkv.isS k', (rkv.get k').2⟩
    · rename_i kvs e1
      obtain ⟨ws, hd, rkv⟩ := so.at_ _ a _ am e1
      obtain ⟨k', e2, rfl⟩ := Option.map_eq_some_iff.mp h
      obtain ⟨b, rfl, hb⟩ := ksOf_rep e2 rk
      exact ⟨a, _, rfl, .inr ⟨ws, k', b, .inl hd, rfl, hb, rfl⟩, rkv.isS k', (rkv.get k').2⟩
    · rename_i kvs e1
      obtain ⟨o, ws, _, hd, rkv⟩ := so.at_ _ a _ am e1
      obtain ⟨k', e2, rfl⟩ := Option.map_eq_some_iff.mp h
      obtain ⟨b, rfl, hb⟩ := ksOf_rep e2 rk
      exact ⟨a, _, rfl, .inr ⟨ws, k', b, .inr ⟨o, hd⟩, rfl, hb, rfl⟩, rkv.isS k', (rkv.get k').2⟩
    · cases h
  · cases h
def getDF : F2 := fun d k st => match dgetO d k st with
  | some (some z) => .ok z st
  | _ => .fail
def notInDD : F2 := fun k d st => match dgetO d k st with
  | some o => .ok (.bl (!o.isSome)) st
  | none => .fail
theorem rd_getD : ∀ σ H Q, rdE X.K W (binE getDF fd fk) σ H Q → tDGet (rdE X.K W fd) (rdE X.K W fk) σ H Q :=
  fun σ H Q ⟨env, M, st, eo, so, p⟩ => ⟨env, M, st, eo, so, Post.imp (Post.bind p) fun x H1 ⟨M1, st1, d, g1, so1, rd, p1⟩ =>
    ⟨env, M1, st1, eo.grow g1, so1, Post.imp (Post.bind (rep := Rep X.K) p1) fun y H2 ⟨M2, st2, k, g2, so2, rk, p2⟩ => by
      unfold getDF at p2
      split at p2
      · rename_i z e
        obtain ⟨a, r, h1, h2, h3, h4⟩ := dgetO_rep so2 e (rd.grow g2) rk
        obtain ⟨v, e3, r3⟩ := h4 z rfl
        subst e3
        exact ⟨a, v, h1, h2, p2 M2 H2 v .refl so2 r3⟩
      · exact p2.elim⟩⟩
theorem g_getD {e : Expr} (h : PE X e (tDGet (rdE X.K W fd) (rdE X.K W fk))) : PE X e (rdE X.K W (binE getDF fd fk)) := h.imp rd_getD
theorem rd_notInDD : ∀ σ H Q, rdE X.K W (binE notInDD fk fd) σ H Q → tDNotIn (rdE X.K W fk) (rdE X.K W fd) σ H Q :=
  fun σ H Q ⟨env, M, st, eo, so, p⟩ => ⟨env, M, st, eo, so, Post.imp (Post.bind p) fun x H1 ⟨M1, st1, k, g1, so1, rk, p1⟩ =>
    ⟨env, M1, st1, eo.grow g1, so1, Post.imp (Post.bind (rep := Rep X.K) p1) fun y H2 ⟨M2, st2, d, g2, so2, rd, p2⟩ => by
      unfold notInDD at p2
      split at p2
      · rename_i o e
        obtain ⟨a, r, h1, h2, h3, h4⟩ := dgetO_rep so2 e rd (rk.grow g2)
        exact ⟨a, r, h1, h2, p2 M2 H2 _ .refl so2 (by rw [h3]; exact rep_bl _ _ _)⟩
      · exact p2.elim⟩⟩
theorem g_tnotInDD {e : Expr} (h : PT X e (tB (tDNotIn (rdE X.K W fk) (rdE X.K W fd)))) : PT X e (rdB X.K W (tstE (binE notInDD fk fd))) :=
  h.imp fun σ H Q q => rd_notInDD _ _ _ (rd_tst _ _ _ q)
end
end G
namespace G
open PySem PySem.Spec PyProof.Rows L2
def walkedAt (st : Sto) (n : Nat) : Bool := match st[n]? with
  | some mo => mo.walked
  | none => false
section
variable {X : Cx} {W : WX} {g : TgF} {body : SvS} {K : PySem.W.Frag}
theorem notfrz_at {M M1 : Mem} {H H1 : Hp} {st st1 : Sto} {n : Nat} {d : Addr} {u : HO} (so : StOk K M H st) (so1 : StOk K M1 H1 st1) (g1 : Grow M H M1 H1) (dm : M1.m[n]? = some d) (hd : H1 d = some u) (hu : ∀ o u', u ≠ .frz o u') (ew : walkedAt st n = false) : NotFrz H d := by
  intro o u' e
  by_cases hm : d ∈ M.m
  · obtain ⟨k, hk⟩ := List.mem_iff_getElem?.mp hm
    have := so1.uniq dm (g1.pre k d hk)
    subst this
    have hl : n < st.length := by rw [← so.len]; exact (List.getElem?_eq_some_iff.mp hk).1
    have q := so.at_ n d st[n] hk (List.getElem?_eq_getElem hl)
    have ew : st[n].walked = false := by
      unfold walkedAt at ew
      rw [List.getElem?_eq_getElem hl] at ew
      exact ew
    cases e2 : st[n] with
    | lst xs => rw [e2] at q; obtain ⟨vs, hv, _⟩ := q; rw [e] at hv; cases hv
    | dk xs => rw [e2] at q; have q : H _ = some (.dK xs) := q; rw [e] at q; cases q
    | dt xs => rw [e2] at q; have q : H _ = some (.dT xs) := q; rw [e] at q; cases q
    | fk xs => rw [e2] at ew; cases ew
    | dd xs => rw [e2] at q; obtain ⟨ws, hv, _⟩ := q; rw [e] at hv; cases hv
    | de xs => rw [e2] at q; obtain ⟨ws, hv, _⟩ := q; rw [e] at hv; cases hv
    | fd xs => rw [e2] at ew; cases ew
    | fe xs => rw [e2] at ew; cases ew
  · by_cases hp : d ∈ M.p
    · obtain ⟨_, vs, e2⟩ := so.pd d hp
      rw [e] at e2; cases e2
    · obtain ⟨_, n2⟩ := g1.keep d _ e ⟨hm, hp⟩
      exact n2.1 (List.mem_of_getElem? dm)
theorem lock_st {M : Mem} {H : Hp} {st : Sto} {n : Nat} {d : Addr} {mo mo' : MO} {f : Addr → Option (Obj × HO)} {u : HO} (so : StOk K M H st) (dm : M.m[n]? = some d) (e : st[n]? = some mo) (gp : Grow M H M (upd H d u))
    (hf : ∀ (n' : Nat) (a : Addr) (mo : MO), M.m[n']? = some a → st[n']? = some mo → a ≠ d → f a = M.f a) (r : MoOk K ⟨M.m, M.p, f⟩ (upd H d u) d mo') : StOk K ⟨M.m, M.p, f⟩ (upd H d u) (st.set n mo') := by
  refine ⟨by simp [so.len], so.nd, fun a ha => ?_, fun k a kk e1 e2 => ?_⟩
  · obtain ⟨h1, v, h2⟩ := so.pd a ha
    have ne : a ≠ d := fun z => h1 (by rw [z]; exact List.mem_of_getElem? dm)
    exact ⟨h1, v, by rw [upd_ne ne]; exact h2⟩
  · have e1 : M.m[k]? = some a := e1
    by_cases hk : n = k
    · subst hk
      have hn : n < st.length := (List.getElem?_eq_some_iff.mp e).1
      rw [List.getElem?_set_self hn] at e2
      cases e2
      rw [dm] at e1
      cases e1
      exact r
    · rw [List.getElem?_set_ne hk] at e2
      have q := so.at_ k a kk e1 e2
      have ne : a ≠ d := fun z => hk (so.uniq dm (by rw [← z]; exact e1))
      have fa : f a = M.f a := hf k a kk e1 e2 ne
      have q2 : MoOk K M (upd H d u) a kk := q.upd ne gp
      cases kk with
      | lst xs => obtain ⟨vs, h1, r⟩ := q2; exact ⟨vs, h1, r.ff⟩
      | dk kvs => exact q2
      | dt kvs => exact q2
      | fk kk => obtain ⟨o, h1, h2⟩ := q2; exact ⟨o, by rw [← h1]; exact fa, h2⟩
      | dd kvs => obtain ⟨ws, h1, r⟩ := q2; exact ⟨ws, h1, r.1, r.2.ff⟩
      | de kvs => obtain ⟨ws, h1, r⟩ := q2; exact ⟨ws, h1, r.1, r.2.ff⟩
      | fd kk => obtain ⟨o, ws, h1, h2, r⟩ := q2; exact ⟨o, ws, by rw [← h1]; exact fa, h2, r.1, r.2.ff⟩
      | fe kk => obtain ⟨o, ws, h1, h2, r⟩ := q2; exact ⟨o, ws, by rw [← h1]; exact fa, h2, r.1, r.2.ff⟩
end
end G
set_option maxHeartbeats 2000000
namespace PySem
namespace GX
open PySem.W PySem.Calls PyProof.Rows PySem.HandSPX
def iA (f : Str) (p1 p2 : Pos) : Arguments := { posonlyargs := [], args := [{ arg := "self", annotation := none, pos := p1 }, { arg := f, annotation := none, pos := p2 }], vararg := none, kwonlyargs := [], kw_defaults := [], kwarg := none, defaults := [] }
def iB (f : Str) (q1 q2 q3 q4 : Pos) : List Stmt := [.Assign [.Attribute (.Name "self" q1) f q2] (.Name f q3) q4]
def iS (f : Str) : Scope := { kind := .function, names := [("self", .local), (f, .local)], isGenerator := false, isCoroutine := false, more := [] }
structure XI (K : Frag) (mg : Str → Option Value) (x : Str) (C fI : Addr) (f : Str) : Prop where
  hf : f = "given" ∨ f = "index" ∨ f = "reason"
  gC : mg x = some (.ref C)
  nC : nsIn K mainGlobals x = some (some (.ref C))
  cls : ∃ nm q N bs bm sn sub ab col dd k0 k1 k2 k3 k5, K.lookup C = some (excClassObj nm q C N bs bm true sn sub ab col dd k0 k1 k2 k3 k5 "ValueError.__new__") ∧ refsVE bm = true
  sa : findIn K (.ref C) "__setattr__" = some (some (.builtin "object.__setattr__"))
  noN : findIn K (.ref C) f = some none
  iC : findIn K (.ref C) "__init__" = some (some (.ref fI))
  tC : typeIn K (.ref fI) = some (.type "function")
  kC : keepIn K (.ref C) = true
  exC : subIn K (.ref C) (.type "BaseException") = some true
  tyC : typeIn K (.ref C) = some (.type "type")
  fn : ∃ (oc : Value) (od : Option Addr) (q : Str) (doc pm : Value) (an : Option Addr) (cdv ct : Value) (osl : Array (Option Value)) (p1 p2 q1 q2 q3 q4 : Pos),
    K.lookup fI = some ⟨oc, od, .func (fnOf "__init__" q (iA f p1 p2) (iB f q1 q2 q3 q4) (iS f) .none .none doc pm an cdv ct), osl⟩ ∧ codeIn K cdv q = true
theorem one_size (v : Value) : [v].length ≤ sizeLine := by
  rw [sizeLine_eq]
  exact (by decide : 1 ≤ 16777216)
theorem ldC {M : Model} {s : Shared} {name : Str} {scope : Scope} {L a : Addr} {cd : Value} {m : Str → Option Value} {x : Str} {pos : Pos} {v : Value} {Q : Value → Shared → Prop} {A : Around} {E : Value → Shared → Prop} (hn : s.heap.Ns L m) (hv : m x = some v) (h : Q v s)
    (hk : scope.kind = .function := by rfl) (hl : (envOfC name scope L a cd).kindOf x = some .local := by rfl) (hd : (x == ("__debug__" : Str)) = false := by decide) :
    wpAny M A (eval (.Name x pos) (envOfC name scope L a cd)) Q E s := wpAny_Name (wpAny_loadName_local hk hl hn hv h) hd
structure InitEnd (f : Str) (h h' : Heap) (x C dx t1 : Addr) (v : Value) : Prop where
  keep : ∀ b o, b ≠ x → h.get? b = some o → h'.get? b = some o
  obj : h'.get? x = some { cls := .ref C, dict := some dx, data := .fields #[.ref t1, .none, .none, .none, .bool false, .none] }
  dbig : h.objs.size ≤ dx
  dne : dx ≠ x
  ns : h'.Ns1 dx (fun y => if y = f then some v else none)
structure OwnMade (f : Str) (h h' : Heap) (e C d : Addr) (v : Value) : Prop where
  keep : ∀ b o, h.get? b = some o → h'.get? b = some o
  new : h.objs.size ≤ e
  obj : ∃ oe vs, h'.get? e = some oe ∧ oe.cls = .ref C ∧ oe.dict = some d ∧ oe.data = .fields vs ∧ vs[1]? = some .none
  dbig : h.objs.size ≤ d
  dne : d ≠ e
  ns : h'.Ns1 d (fun y => if y = f then some v else none)
section
variable {prog : Program} {w : World} {A : Around} {E : Value → Shared → Prop} {R : Result → Shared → Prop} {s : Shared} {K : Frag} {mg : Str → Option Value} {C fI : Addr} {cn f : Str}
theorem xi_init (T : XI K mg cn C fI f) {x t0 : Addr} {v : Value} (X : K.In s.heap) (hlim : s.heap.NoLimit) (hx : s.heap.get? x = some (excO C t0)) (hnx : K.lookup x = none) (hroom : A.depth < recursionLimit)
    (hq : ∀ h' tk dx, InitEnd f s.heap h' x C dx t0 v → R (.ok (.ret .none)) { s with heap := h', toks := tk }) :
    codeAny (model prog w) A (.call (.ref fI) ⟨[.ref x, v], []⟩) R s := by
  obtain ⟨oc, od, q, doc, pm, an, cdv, ct, osl, p1, p2, q1, q2, q3, q4, ho, hcd⟩ := T.fn
  obtain ⟨nm, qn, N, bs, bm, sn, sub, ab, col, dd, k0, k1, k2, k3, k5, hC, hbm⟩ := T.cls
  have hcl : clsIn K C = some { name := nm, bases := bs, mro := .ref C :: bm, ns := N, qualname := qn, hasDict := true, slotNames := sn, subclasses := sub, abstract := ab, collection := col, hasDel := false } := by unfold clsIn; rw [hC] <;> rfl
  have hsa := T.sa
  have hno := T.noN
  rcases T.hf with rfl | rfl | rfl
  all_goals (
    refine Att.call_fn (binds := [("self", .ref x), (_, v)]) X hlim ho hcd hroom (BindsTo.of_eq (by first | rfl | with_unfolding_all rfl)) (by first | rfl | decide | with_unfolding_all rfl) (fun s₁ IC => ?_) rfl rfl rfl
    obtain ⟨h₁, tk₁, rfl⟩ := IC.toInCall.same
    have k : ∀ b o, s.heap.get? b = some o → h₁.get? b = some o := IC.toInCall.keep
    have hn := IC.toInCall.ns
    have hxL : s.heap.objs.size ≠ x := Nat.ne_of_gt (Heap.lt_size hx)
    have X₁ : K.In h₁ := X.keeps k
    have hx₁ := k _ _ hx
    show wpAny _ _ (execs _ _) _ _ _
    refine wpAny_execs_cons (plainObj_wpAny_Assign_Attribute ?_)
    refine ldC (v := v) hn (by first | rfl | with_unfolding_all rfl | kernel_rfl) (ldC (v := .ref x) hn (by first | rfl | with_unfolding_all rfl | kernel_rfl) ?_)
    refine set_plain X₁ (ox := excO C t0) (od := none) ⟨hx₁, rfl, rfl, trivial⟩ hsa ?_
    refine exc_osa X₁ hx₁ hcl (show refsVE (.ref C :: bm) = true from hbm) rfl hno (fun h₃ tk₃ dx k₃ dn dne hx₃ hn₃ => ?_)
    show wpAny _ _ (execs _ _) _ _ _
    have z : s.heap.objs.size < h₁.objs.size := hn.lt
    exact wpAny_execs_nil (hq h₃ tk₃ dx ⟨fun b o hb e => k₃ b o hb (k b o e), hx₃, Nat.le_of_lt (Nat.lt_of_lt_of_le z dn), dne, hn₃⟩))
theorem xi_made (T : XI K mg cn C fI f) {v : Value} (X : K.In s.heap) (hlim : s.heap.NoLimit) (hroom : A.depth + 1 < recursionLimit)
    (hq : ∀ h' tk e d, OwnMade f s.heap h' e C d v → R (.ok (.ret (.ref e))) { s with heap := h', toks := tk }) :
    codeAny (model prog w) A (.call (.ref C) ⟨[v], []⟩) R s := by
  obtain ⟨nm, q, N, bs, bm, sn, sub, ab, col, dd, k0, k1, k2, k3, k5, hC, hbm⟩ := T.cls
  obtain ⟨hp, g, dr, tk, os⟩ := s
  have k : ∀ b o, hp.get? b = some o → ((hp.push (kdv_tup [v])).push (excO C hp.objs.size)).get? b = some o := fun b o e => Heap.get?_push_of_some _ (Heap.get?_push_of_some _ e)
  have hget : ((hp.push (kdv_tup [v])).push (excO C hp.objs.size)).get? (hp.objs.size + 1) = some (excO C hp.objs.size) := by heap_get
  have hnx : K.lookup (hp.objs.size + 1) = none := by
    cases e : K.lookup (hp.objs.size + 1) with
    | none => rfl
    | some o =>
      have z : hp.get? (hp.objs.size + 1) = some o := X _ _ e
      exact absurd (Nat.lt_of_succ_lt (Heap.lt_size z)) (Nat.lt_irrefl _)
  refine call_own F.excBase_ValueError (fun X => refsVE_contains X bm hbm) (X _ _ hC) (looks_findIn X T.iC) (fun self => bind_fn X self T.tC) (one_size v) ?_
  refine xi_init (s := ⟨(hp.push (kdv_tup [v])).push (excO C hp.objs.size), g, dr, tk, os⟩) T (X.keeps k) (hlim.keeps k) hget hnx ?_ fun h' tk' dx ⟨k', hx, dn, dne, hns⟩ => ?_
  · show A.depth + 1 < recursionLimit
    exact hroom
  · have old : ∀ b o, hp.get? b = some o → h'.get? b = some o := fun b o e => k' b o (Nat.ne_of_lt (Nat.lt_succ_of_lt (Heap.lt_size e))) (k b o e)
    have z : hp.objs.size + 1 + 1 ≤ dx := by
      first
        | (simpa only [Heap.size_push] using dn)
        | exact dn
        | (have q := dn; rw [Heap.size_push, Heap.size_push] at q; exact q)
    exact ⟨rfl, hq h' tk' (hp.objs.size + 1) dx ⟨old, Nat.le_succ _, ⟨_, _, hx, rfl, rfl, rfl, rfl⟩, Nat.le_trans (Nat.le_trans (Nat.le_succ _) (Nat.le_succ _)) z, dne, hns⟩⟩
end
end GX
end PySem
namespace G
open PySem PySem.Spec PyProof.Rows L2
theorem relO_one {f : Str} {v : V} {v' : Value} (r : RelV v v') (y : Str) : RelO (List.lookup y [(f, v)]) (if y = f then some v' else none) := by
  by_cases hw : y = f
  · subst hw
    rw [if_pos rfl]
    have q : List.lookup y [(y, v)] = some v := by simp [List.lookup]
    rw [q]
    exact r
  · rw [if_neg hw]
    have qw : (y == f) = false := by simpa using hw
    have q2 : List.lookup y [(f, v)] = none := by simp [List.lookup, qw]
    rw [q2]
    trivial
section
variable {X : Cx} {C fI : Addr} {cn f : Str}
def tMkX (C : Addr) (f : Str) (ta : TA) : L2.St → Hp → XK → Prop := fun σ H Q => ta σ H fun vs H1 => ∃ v, vs = [v] ∧ ∀ d, H1 d = none → Q (.ref C) (some d) (upd H1 d (.xd [(f, v)]))
theorem pmk_xi {a : Expr} {ta : TA} {p pos : Pos} {k : Nat} (T : PySem.GX.XI X.K X.mg cn C fI f) (hr : RoomG k X.A) (ha : PA X [a] ta) (hg : Gl X cn) (hdb : (cn == ("__debug__" : Str)) = false)
    (he : starEach (a :: []) X.env = (false, eval a X.env) :: starEach [] X.env) (hpl : (backTo pos (starEach [] X.env)).any (·.1) = false) :
    PMk X (.Call (.Name cn p) [a] [] pos) (tMkX C f ta) := by
  intro pins s σ H Q I h
  refine wpAny_Call_Name_kw (ld_glob I hg T.gC ?_ hdb)
  refine PySem.W.callWith_K (h₀ := X.base) I.ok.mod.kin T.kC (thn (ha.run pos pins s σ H _ I h) fun us s1 hh => ?_) he hpl
  obtain ⟨vs, H1, I1, r1, v, ev, q1⟩ := hh
  subst ev
  refine ⟨I1.kIn, ?_⟩
  cases r1 with
  | cons rv rn =>
    rename_i v' us'
    cases rn
    show wpAny _ _ (call (.ref C) [v']) _ _ _
    have hlim := I1.nolimit
    obtain ⟨hp, g, dr, tk, os⟩ := s1
    refine wpAny_call (PySem.GX.xi_made T I1.kIn hlim (by have := hr.dp; omega) fun h' tk' e d M => ?_)
    show MkP X pins σ Q (.ref e) ⟨h', g, dr, tk', os⟩
    obtain ⟨oe, fv, hoe, hc, hd, hdat, h1⟩ := M.obj
    have hns := M.ns
    obtain ⟨G', g1, g2⟩ := restrict h' fun b => decide (b ≠ e)
    have gk : ∀ b, b ≠ e → G'.get? b = h'.get? b := fun b hb => g1 b (decide_eq_true hb)
    have ge : G'.get? e = none := g2 e (by simp)
    have old : ∀ b o, hp.get? b = some o → G'.get? b = some o := fun b o q => (gk b (Nat.ne_of_lt (Nat.lt_of_lt_of_le (Heap.lt_size q) M.new))).trans (M.keep b o q)
    have ob : ObjOk X.prog X.w (upd H1 d (.xd [(f, v)])) G' d (.xd [(f, v)]) :=
      ⟨_, hns.at (fun o q => (gk d M.dne).trans q), fun f => relO_one rv f⟩
    have J : Inv X pins σ (upd H1 d (.xd [(f, v)])) ⟨G', g, dr, tk', os⟩ := I1.laid (t' := tk') old M.dbig ob
    refine ⟨e, oe, fv, ⟨G', g, dr, tk', os⟩, _, .ref C, some d, rfl, J, fun b o q => ?_, ge, hoe, ⟨hc, hd⟩, hdat, h1, ?_, rfl, I1.bare, raises_own T.exC T.tyC, q1 d (I1.hok.fresh M.dbig)⟩
    · by_cases hb : b = e
      · have q' : G'.get? b = some o := q
        rw [hb, ge] at q'; cases q'
      · exact (gk b hb).symm.trans q
    · rw [upd_ne (Ne.symm M.dne)]
      exact I1.hok.fresh M.new
end
def RX (K : PySem.W.Frag) (mg : Str → Option Value) (x f : Str) : Prop := ∃ C fI, PySem.GX.XI K mg x C fI f
def raiseS (cl f : Str) (fa : EvE) : SvS := fun env st => bindS (fa env st) env fun d st1 => .exc ⟨cl, f, d⟩ env st1
section
variable {X : Cx} {W : WX} {x f : Str} {a : Expr} {fa : EvE} {p pos pos2 : Pos} {k : Nat}
theorem s_raise (hc : X.calm = true) (T : RX X.K X.mg x f) (hr : RoomG k X.A) (tk : Takes X W) (ha : PE X a (rdE X.K W fa)) (hg : Gl X x) (hdb : (x == ("__debug__" : Str)) = false)
    (he : starEach (a :: []) X.env = (false, eval a X.env) :: starEach [] X.env) (hpl : (backTo pos (starEach [] X.env)).any (·.1) = false) :
    PS X (.Raise (some (.Call (.Name x p) [a] [] pos)) none pos2) (rdS X.K W (raiseS x f fa)) := by
  obtain ⟨C, fI, T⟩ := T
  refine (ps_raise hc tk (pmk_xi T hr (pa_cons ha pa_nil he) hg hdb he hpl)).imp ?_
  rintro D σ H ⟨env, M, st, eo, so, po⟩
  refine ⟨env, M, st, eo, so, Post.imp (PostS.bind eo po) fun v H1 ⟨M1, st1, d, g, so1, ra, p1⟩ => ⟨v, rfl, fun dd hd => ?_⟩⟩
  refine p1 M1 _ σ (.ref C) (some dd) (.laid so1 hd) (so1.laid hd) ((eo.grow g).grow (.laid so1 hd)) ⟨T.nC, .inr ⟨?_, dd, v, rfl, upd_same, so1.notin hd, ra.grow (.laid so1 hd)⟩⟩
  show f ≠ ""
  rcases T.hf with rfl | rfl | rfl <;> decide
end
end G
set_option maxHeartbeats 2000000
namespace L2
open PySem PySem.Spec PyProof.Rows
abbrev CTS := Value × Option Nat × (Addr → Value → Option Addr → TS)
inductive HdsA (X : Cx) : List ExceptHandler → List CTS → Prop
  | nil : HdsA X [] []
  | cons {x : Str} {c : Value} {ts : Addr → Value → Option Addr → TS} {b₀ : Stmt} {suite : List Stmt} {np pos' : Pos} {hds : List ExceptHandler} {l : List CTS} (hc : Names X x c)
      (hsu : ∀ (a : Addr) (oe : Obj) (cls : Value) (d : Option Addr) (pn : List (Addr × Obj)), Zc cls d oe → (∃ vs, oe.data = .fields vs) → PSs (X.suite a ((a, oe) :: pn)) (b₀ :: suite) (ts a cls d)) (r : HdsA X hds l) :
      HdsA X (.ExceptHandler (some (.Name x np)) none (b₀ :: suite) pos' :: hds) ((c, none, ts) :: l)
  | consA {x n : Str} {i : Nat} {c : Value} {ts : Addr → Value → Option Addr → TS} {b₀ : Stmt} {suite : List Stmt} {np pos' : Pos} {hds : List ExceptHandler} {l : List CTS} (hc : Names X x c) (hi : X.N[i]? = some n) (hln : X.env.kindOf n = some .local)
      (hsu : ∀ (a : Addr) (oe : Obj) (cls : Value) (d : Option Addr) (pn : List (Addr × Obj)), Zc cls d oe → (∃ vs, oe.data = .fields vs) → PSs (X.suite a ((a, oe) :: pn)) (b₀ :: suite) (ts a cls d)) (r : HdsA X hds l) :
      HdsA X (.ExceptHandler (some (.Name x np)) (some n) (b₀ :: suite) pos' :: hds) ((c, some i, ts) :: l)
end L2
set_option maxHeartbeats 2000000
namespace G
open PySem PySem.Spec PyProof.Rows L2
abbrev Tab := List (Str × Str)
def excTest (tab : Tab) (e c : Str) : Option Bool :=
  if (tab.map (·.1)).contains e then if c = "LapError" ∨ c = "ValueError" then some true else if (tab.map (·.1)).contains c then some (decide (e = c)) else none else none
def clsV (K : PySem.W.Frag) (c : Str) : Option Value := if c = "ValueError" then some (.type "ValueError") else match PySem.W.nsIn K mainGlobals c with
  | some (some v) => some v
  | _ => none
def allN (tab : Tab) : List Str := [("LapError" : Str), ("ValueError" : Str)] ++ tab.map (·.1)
def rowB (K : PySem.W.Frag) (tab : Tab) (x f : Str) : Bool := match PySem.W.nsIn K mainGlobals x with
  | some (some (.ref C)) =>
    (PySem.W.findIn K (.ref C) "__getattribute__" == some (some (.builtin "BaseException.__getattribute__"))) && (PySem.W.findIn K (.ref C) "__getattr__" == some none) && (PySem.W.subIn K (.ref C) (.type "BaseException") == some true) &&
    PySem.W.hasDictIn K C && (PySem.W.findIn K (.ref C) "__class__" == some (some (.builtin "object.__class__"))) && (PySem.W.mroIn K C (.type "object") == some true) && (f == "" || PySem.W.findIn K (.ref C) f == some none) &&
    (allN tab).all fun c => match clsV K c with
      | some v => (PySem.W.exmOne K (.ref C) v == excTest tab x c) && (PySem.W.kitOne K (.ref C) v == excTest tab x c)
      | none => false
  | _ => false
def tabB (K : PySem.W.Frag) (tab : Tab) : Bool :=
  (tab.all fun p => rowB K tab p.1 p.2) && (PySem.W.specialIn K (.builtin "object.__class__") "__get__" == some (some (.builtin "getset_descriptor.__get__"))) && (PySem.W.takesIn K (.builtin "object.__class__") == some true)
structure XT (K : PySem.W.Frag) (mg : Str → Option Value) (tab : Tab) : Prop where
  ns : ∀ x v, PySem.W.nsIn K mainGlobals x = some (some v) → mg x = some v
  ve : mg "ValueError" = none
  tb : tabB K tab = true
section
variable {K : PySem.W.Frag} {mg : Str → Option Value} {tab : Tab} {x f : Str} {C : Addr}
theorem XT.row (T : XT K mg tab) (hm : (x, f) ∈ tab) : rowB K tab x f = true := by
  have := T.tb
  unfold tabB at this
  rw [Bool.and_eq_true, Bool.and_eq_true] at this
  exact List.all_eq_true.mp this.1.1 _ hm
structure RowOk (K : PySem.W.Frag) (tab : Tab) (x f : Str) (C : Addr) : Prop where
  ga : PySem.W.findIn K (.ref C) "__getattribute__" = some (some (.builtin "BaseException.__getattribute__"))
  gg : PySem.W.findIn K (.ref C) "__getattr__" = some none
  exC : PySem.W.subIn K (.ref C) (.type "BaseException") = some true
  hd : PySem.W.hasDictIn K C = true
  ha : PySem.W.findIn K (.ref C) "__class__" = some (some (.builtin "object.__class__"))
  hm : PySem.W.mroIn K C (.type "object") = some true
  no : f ≠ "" → PySem.W.findIn K (.ref C) f = some none
  ts : ∀ c ∈ allN tab, ∃ v, clsV K c = some v ∧ PySem.W.exmOne K (.ref C) v = excTest tab x c ∧ PySem.W.kitOne K (.ref C) v = excTest tab x c
theorem XT.at_ (T : XT K mg tab) (hm : (x, f) ∈ tab) : ∃ C, PySem.W.nsIn K mainGlobals x = some (some (.ref C)) ∧ RowOk K tab x f C := by
  have h := T.row hm
  unfold rowB at h
  split at h
  · rename_i C e
    simp only [Bool.and_eq_true, Bool.or_eq_true, beq_iff_eq] at h
    obtain ⟨⟨⟨⟨⟨⟨⟨h1, h2⟩, h3⟩, h4⟩, h5⟩, h6⟩, h7⟩, h8⟩ := h
    refine ⟨C, e, h1, h2, h3, h4, h5, h6, fun nf => h7.resolve_left nf, fun c hc => ?_⟩
    have := List.all_eq_true.mp h8 c hc
    split at this
    · rename_i v ev
      simp only [Bool.and_eq_true, beq_iff_eq] at this
      exact ⟨v, ev, this⟩
    · cases this
  · cases h
end
abbrev SvX := Addr → Value → Option Addr → SvS
def clrS (i : Nat) : S → S
  | .nx env st => .nx (env.set i none) st
  | .brk env st => .brk (env.set i none) st
  | .cont env st => .cont (env.set i none) st
  | .ret d st => .ret d st
  | _ => .fail
abbrev Hdl := Str × Option Nat × SvX
def IndX (oi : Option Nat) (B : SvX) : Prop := match oi with
  | none => ∀ (a : Addr) (c : Value) (od : Option Addr) (env : Env) (st : Sto), B a c od env st = B 0 .none none env st
  | some i => ∀ (a : Addr) (c : Value) (od : Option Addr) (cl f : Str) (d : D) (env : Env) (st : Sto), clrS i (B a c od (env.set i (some (.exv a c od cl f d))) st) = clrS i (B 0 .none none (env.set i (some (.exv 0 .none none cl f d))) st)
inductive HdsG (X : Cx) : List ExceptHandler → List Hdl → Prop
  | nil : HdsG X [] []
  | cons {x : Str} {B : SvX} {b₀ : Stmt} {suite : List Stmt} {np pos' : Pos} {hds : List ExceptHandler} {l : List Hdl} (hg : Gl X x) (hd : (x == ("__debug__" : Str)) = false) (ind : IndX none B)
      (hsu : ∀ (a : Addr) (oe : Obj) (cls : Value) (d : Option Addr) (pn : List (Addr × Obj)), Zc cls d oe → (∃ vs, oe.data = .fields vs) → PSs (X.suite a ((a, oe) :: pn)) (b₀ :: suite) (rdS X.K W0 (B a cls d))) (r : HdsG X hds l) :
      HdsG X (.ExceptHandler (some (.Name x np)) none (b₀ :: suite) pos' :: hds) ((x, none, B) :: l)
  | consA {x n : Str} {i : Nat} {B : SvX} {b₀ : Stmt} {suite : List Stmt} {np pos' : Pos} {hds : List ExceptHandler} {l : List Hdl} (hg : Gl X x) (hd : (x == ("__debug__" : Str)) = false) (hi : X.N[i]? = some n) (hln : X.env.kindOf n = some .local) (ind : IndX (some i) B)
      (hsu : ∀ (a : Addr) (oe : Obj) (cls : Value) (d : Option Addr) (pn : List (Addr × Obj)), Zc cls d oe → (∃ vs, oe.data = .fields vs) → PSs (X.suite a ((a, oe) :: pn)) (b₀ :: suite) (rdS X.K W0 (B a cls d))) (r : HdsG X hds l) :
      HdsG X (.ExceptHandler (some (.Name x np)) (some n) (b₀ :: suite) pos' :: hds) ((x, some i, B) :: l)
theorem boot_VE : bootBuiltins "ValueError" = some (.type "ValueError") := by decide +kernel
section
variable {X : Cx} {tab : Tab}
theorem XT.names (T : XT X.K X.mg tab) {x : Str} (hg : Gl X x) (hd : (x == ("__debug__" : Str)) = false) {v : Value} (hv : clsV X.K x = some v) : Names X x v := by
  unfold clsV at hv
  split at hv
  · rename_i e
    subst e
    cases hv
    exact ⟨hg, hd, .inr ⟨T.ve, boot_VE, by decide⟩⟩
  · split at hv
    · rename_i u e
      cases hv
      exact ⟨hg, hd, .inl (T.ns _ _ e)⟩
    · cases hv
def valsH (K : PySem.W.Frag) (Q : SvX → Addr → Value → Option Addr → TS) (l : List Hdl) : List CTS := l.map fun h => ((clsV K h.1).getD .none, h.2.1, Q h.2.2)
theorem HdsG.ok (T : XT X.K X.mg tab) {hds : List ExceptHandler} {l : List Hdl} (h : HdsG X hds l) (hk : ∀ q ∈ l, (clsV X.K q.1).isSome = true) : HdsA X hds (valsH X.K (fun B a c d => rdS X.K W0 (B a c d)) l) := by
  induction h with
  | nil => exact .nil
  | cons hg hd ind hsu r ih =>
    obtain ⟨v, hv⟩ := Option.isSome_iff_exists.mp (hk _ List.mem_cons_self)
    refine HdsA.cons ?_ hsu (ih fun q hq => hk q (List.mem_cons_of_mem _ hq))
    show Names X _ ((clsV X.K _).getD .none)
    rw [hv]
    exact T.names hg hd hv
  | consA hg hd hi hln ind hsu r ih =>
    obtain ⟨v, hv⟩ := Option.isSome_iff_exists.mp (hk _ List.mem_cons_self)
    refine HdsA.consA ?_ hi hln hsu (ih fun q hq => hk q (List.mem_cons_of_mem _ hq))
    show Names X _ ((clsV X.K _).getD .none)
    rw [hv]
    exact T.names hg hd hv
theorem HdsG.ind {hds : List ExceptHandler} {l : List Hdl} (h : HdsG X hds l) : ∀ q ∈ l, IndX q.2.1 q.2.2 := by
  induction h with
  | nil => intro q hq; cases hq
  | cons hg hd ind hsu r ih =>
    intro q hq
    rcases List.mem_cons.mp hq with rfl | hq
    · exact ind
    · exact ih q hq
  | consA hg hd hi hln ind hsu r ih =>
    intro q hq
    rcases List.mem_cons.mp hq with rfl | hq
    · exact ind
    · exact ih q hq
end
end G
set_option maxHeartbeats 2000000
namespace G
open PySem PySem.Spec PyProof.Rows L2
section
variable {X : Cx} {tab : Tab} {W : WX} {a : Addr} {oe : Obj} {cls : Value} {d : Option Addr} {pn : List (Addr × Obj)} {e : Expr} {pos p q : Pos} {nm : Str} {i : Nat}
abbrev FTab := List (Str × FA)
inductive TabOk (P : Program) (w : World) (K : PySem.W.Frag) (mg : Str → Option Value) (base : Heap) (k : Nat) : FTab → Prop
  | nil : TabOk P w K mg base k []
  | cons {x : Str} {st : Stmt} {ps : List Str} {j : Nat} {F : FA} {r : FTab} (h : Kn P w K mg base x st ps j F) (hj : j ≤ k) (t : TabOk P w K mg base k r) : TabOk P w K mg base k ((x, F) :: r)
theorem TabOk.at_ {P : Program} {w : World} {K : PySem.W.Frag} {mg : Str → Option Value} {base : Heap} {k : Nat} {tab : FTab} (h : TabOk P w K mg base k tab) {x : Str} {F : FA} (e : tab.lookup x = some F) : ∃ st ps j, j ≤ k ∧ Kn P w K mg base x st ps j F := by
  induction h with
  | nil => cases e
  | @cons y st ps j G r h hj t ih =>
    rw [List.lookup] at e
    split at e
    · rename_i ey
      cases e
      have : x = y := by simpa using ey
      subst this
      exact ⟨st, ps, j, hj, h⟩
    · exact ih e
end
end G
namespace G
open PySem PySem.Spec PyProof.Rows L2
inductive SR (i : Nat) (x y : D) : S → S → Prop
  | nx (env : Env) (st : Sto) : SR i x y (.nx (env.set i (some x)) st) (.nx (env.set i (some y)) st)
  | ret (d : D) (st : Sto) : SR i x y (.ret d st) (.ret d st)
  | exc (e e' : Ex) (env env' : Env) (st st' : Sto) : SR i x y (.exc e env st) (.exc e' env' st')
  | fail : SR i x y .fail .fail
def IS (i : Nat) (B : SvX) : Prop := ∀ (a : Addr) (c : Value) (od : Option Addr) (cl g : Str) (d : D) (env : Env) (st : Sto),
  SR i (.exv a c od cl g d) (.exv 0 .none none cl g d) (B a c od (env.set i (some (.exv a c od cl g d))) st) (B 0 .none none (env.set i (some (.exv 0 .none none cl g d))) st)
theorem IS.ok {i : Nat} {B : SvX} (h : IS i B) : IndX (some i) B := by
  intro a c od cl g d env st
  have q := h a c od cl g d env st
  revert q
  generalize B a c od (env.set i (some (.exv a c od cl g d))) st = s
  generalize B 0 .none none (env.set i (some (.exv 0 .none none cl g d))) st = s'
  intro q
  cases q with
  | nx env st => show S.nx _ _ = S.nx _ _; rw [List.set_set, List.set_set]
  | ret d st => rfl
  | exc e e' env env' st st' => rfl
  | fail => rfl
end G
namespace G
open PySem PySem.Spec PyProof.Rows L2
@[simp] theorem bindS_exc {α : Type} (e : Ex) (st : Sto) (env : Env) (k : α → Sto → S) : bindS (.exc e st : R α) env k = .exc e env st := rfl
@[simp] theorem bindS_fail {α : Type} (env : Env) (k : α → Sto → S) : bindS (.fail : R α) env k = .fail := rfl
@[simp] theorem thenS_exc (e : Ex) (env : Env) (st : Sto) (g : SvS) : thenS (.exc e env st) g = .exc e env st := rfl
@[simp] theorem turnS_exc (e : Ex) (env : Env) (st : Sto) (g : SvS) : turnS (.exc e env st) g = .exc e env st := rfl
@[simp] theorem raiseS_eq (cl f : Str) (fa : EvE) (env : Env) (st : Sto) : raiseS cl f fa env st = bindS (fa env st) env fun d st1 => .exc ⟨cl, f, d⟩ env st1 := rfl
end G
namespace G
open PySem PySem.Spec PyProof.Rows L2
def popAtF : FM := fun d as st => match d, as with
  | .mut n, [.int i] => (match st[n]? with
    | some (.lst xs) => if 0 ≤ i ∧ i < xs.length ∧ xs.length ≤ 16777216 then .ok (xs.getD i.toNat .non) (st.set n (.lst (xs.eraseIdx i.toNat))) else .fail
    | _ => .fail)
  | _, _ => .fail
theorem RepL.eraseIdx {K : PySem.W.Frag} {M : Mem} {H : Hp} : ∀ {ds : List D} {vs : List V} (n : Nat), RepL K M H ds vs → RepL K M H (ds.eraseIdx n) (vs.eraseIdx n)
  | [], _, n, h => by unfold RepL at h; subst h; simp; exact .nil
  | x :: ds, _, 0, h => by
    unfold RepL at h
    obtain ⟨v, r, rfl, h1, h2⟩ := h
    simpa using h2
  | x :: ds, _, n + 1, h => by
    unfold RepL at h
    obtain ⟨v, r, rfl, h1, h2⟩ := h
    simpa using RepL.cons h1 (RepL.eraseIdx n h2)
def isi2D (c1 c2 : Tag) : F1 := fun a st => match tagOf a st with
  | some t => .ok (.bl (isiB t c1 || isiB t c2)) st
  | none => .fail
section
variable {st : Sto}
@[simp] theorem isi2D_int (c e : Tag) (i : Int) : isi2D c e (.int i) st = .ok (.bl (isiB .int c || isiB .int e)) st := rfl
@[simp] theorem isi2D_bl (c e : Tag) (i : Bool) : isi2D c e (.bl i) st = .ok (.bl (isiB .bl c || isiB .bl e)) st := rfl
@[simp] theorem isi2D_str (c e : Tag) (i : Str) : isi2D c e (.str i) st = .ok (.bl (isiB .str c || isiB .str e)) st := rfl
@[simp] theorem isi2D_non (c e : Tag) : isi2D c e .non st = .ok (.bl (isiB .non c || isiB .non e)) st := rfl
@[simp] theorem isi2D_tup (c e : Tag) (xs : List D) : isi2D c e (.tup xs) st = .ok (.bl (isiB .tup c || isiB .tup e)) st := rfl
@[simp] theorem isi2D_lst (c e : Tag) (xs : List D) : isi2D c e (.lst xs) st = .ok (.bl (isiB .lst c || isiB .lst e)) st := rfl
end
def srtMF : FA := fun as st => match as with
  | [.tup _] => .fail
  | [a] => (match (seqOf a st).bind pairsOf with
    | some ps => .ok (.mut st.length) (st ++ [.lst ((srtP ps).map pairD)])
    | none => .fail)
  | _ => .fail
def keysD (ks : List (List L2.Key)) : List D := ks.map fun k => .tup (k.map kD)
def listDF : FA := fun as st => match as with
  | [.mut n] => (match st[n]? with
    | some (.de kvs) => .ok (.lst (keysD (kvs.map (·.1)))) st
    | _ => .fail)
  | _ => .fail
def lenDF : FA := fun as st => match as with
  | [.mut n] => (match st[n]? with
    | some (.de kvs) => if kvs.length ≤ 16777216 then .ok (.int kvs.length) st else .fail
    | _ => .fail)
  | _ => .fail
end G
namespace G
open PySem PySem.Spec PyProof.Rows L2
section
variable {X : Cx} {W : WX} {fa fk fv : EvE} {t : Tg} {tt : EvB} {vs : List Nat} {i : Nat} {s : Stmt}
def putL (d k v : D) (st : Sto) : Option Sto := match d with
  | .mut n => (match st[n]? with
    | some (.dd kvs) => (match keyOf k with
      | some k => if kvs.length < 16777216 then some (st.set n (.dd (vPut kvs k v))) else none
      | none => none)
    | _ => none)
  | _ => none
end
end G
namespace DcT
open PySem PySem.Spec PyProof.Rows
abbrev dc2 (kx vx t0 i0 t1 i1 : Expr) (ifs0 ifs1 : List Expr) (scope : Scope) (pos : Pos) : Expr := .DictComp kx vx [⟨t0, i0, ifs0, 0⟩, ⟨t1, i1, ifs1, 0⟩] scope pos
end DcT
namespace G
open PySem PySem.Spec PyProof.Rows L2
def kTNxt (n : Nat) : Nat → Sto → Option (Option D) := fun i st => match st[n]? with
  | some (.fe kvs) => some ((kvs[i]?).map fun p => .tup (p.1.map kD))
  | _ => none
def iKeysTL (td : TE) : TI := fun σ H R => td σ H fun x H1 => ∃ d kvs, x = .ref d ∧ H1 d = some (.dT kvs) ∧ ∀ o, R (Itkt d o kvs) (upd H1 d (.frz o (.dT kvs)))
def finT (n : Nat) (xs : List D) (st : Sto) : R D := match st[n]? with
  | some (.fe ks) => .ok (.lst xs) (st.set n (.de ks))
  | _ => .fail
def lcTE (fa : EvE) (t : Tg) (tt : EvB) (fe : EvE) (vs : List Nat) : EvE := fun env st => (fa env st).bind fun d st1 => match d with
  | .mut n => (match st1[n]?, walkedAt st n with
    | some (.de kvs), false => (lcG t tt fe (wipeE env vs) (kTNxt n) kvs.length 0 (st1.set n (.fe kvs)) []).bind (finT n)
    | _, _ => .fail)
  | _ => .fail
section
variable {X : Cx} {tg e : Expr} {td : TE}
theorem pi_keysTL (he : PE X e td) : PI X tg e (iKeysTL td) := by
  refine ⟨fun pins s σ H R I h => ?_⟩
  refine thn (he.run pins s σ H _ I h) fun u s1 ⟨x, H1, I1, rx, d, kvs, ex, hd, q⟩ => ?_
  subst ex
  obtain rfl : u = Value.ref d := rx
  obtain ⟨o, I1⟩ := I1.lock hd (by show True; trivial)
  have q := q o
  generalize hH2 : upd H1 d (.frz o (.dT kvs)) = H2 at I1 q
  have hd : H2 d = some (.frz o (.dT kvs)) := by rw [← hH2]; exact upd_same
  obtain ⟨hs, hgd, hx, es, ep, hdt, hsz, ent⟩ := I1.frzT hd
  refine iter_keys hs hgd hx hdt (pi_one (tk := s1.toks) I1 _ (turn_keysT _ hdt) ⟨_, Heap.get?_push_size _ rfl, rfl, ?_⟩ q)
  rw [hsz] <;> rfl
end
section
variable {X : Cx} {W : WX} {fa fe fk fv : EvE} {t : Tg} {tt : EvB} {K : PySem.W.Frag}
theorem keyT_rep {M : Mem} {H : Hp} {a : Addr} {n k : Nat} {od : Obj} {ws : List (List L2.Key × V)} (m : M.m[n]? = some a) (hf : M.f a = some (od, .dT ws)) : ItRep K M H (.gen (kTNxt n) k) (Itkt a od ws) := fun i M' H' st' g so => by
  have m' := g.pre n a m
  have f' : M'.f a = some (od, .dT ws) := by rw [g.ff]; exact hf
  unfold kTNxt
  cases e : st'[n]? with
  | none => exact ⟨(by simp), fun d h => by simp at h⟩
  | some mo =>
    cases mo with
    | dk _ => exact ⟨(by simp), fun d h => by simp at h⟩
    | dt _ => exact ⟨(by simp), fun d h => by simp at h⟩
    | dd _ => exact ⟨(by simp), fun d h => by simp at h⟩
    | de _ => exact ⟨(by simp), fun d h => by simp at h⟩
    | fk _ => exact ⟨(by simp), fun d h => by simp at h⟩
    | fd _ => exact ⟨(by simp), fun d h => by simp at h⟩
    | lst _ => exact ⟨(by simp), fun d h => by simp at h⟩
    | fe ks =>
      obtain ⟨o, ws', h1, h2, rkv⟩ := so.at_ n a _ m' e
      rw [f'] at h1
      injection h1 with h1
      injection h1 with h1 h3
      injection h3 with h3
      subst h1 h3
      refine ⟨fun h => ⟨h2, ?_⟩, fun d h => ?_⟩
      · have h : ks[i]? = none := by simpa using h
        rw [rkv.len]; exact List.getElem?_eq_none_iff.mp h
      · obtain ⟨⟨k1, d1⟩, e2, rfl⟩ : ∃ p, ks[i]? = some p ∧ D.tup (p.1.map kD) = d := by
          have h : (ks[i]?).map (fun p => D.tup (p.1.map kD)) = some d := by simpa using h
          obtain ⟨p, e2, e3⟩ := Option.map_eq_some_iff.mp h
          exact ⟨p, e2, e3⟩
        obtain ⟨v1, e3, rv⟩ := rkv.at e2
        refine ⟨⟨h2, (List.getElem?_eq_some_iff.mp e3).1⟩, fun x H'' ⟨eH, k2, v2, q, e4, ex, hq⟩ => ?_⟩
        rw [e3] at e4
        cases e4
        subst eH ex
        refine ⟨.refl, so, ?_⟩
        unfold Rep
        exact ⟨q, _, rfl, ⟨hq, tup_no so hq⟩, keys_rep k1⟩
theorem unlockT_main {M : Mem} {H : Hp} {n : Nat} {d : Addr} {od : Obj} {ws : List (List L2.Key × V)} (dm : M.m[n]? = some d) (np : d ∉ M.p) {M' : Mem} {H' : Hp} {st : Sto} {ks : List (List L2.Key × D)} (e : st[n]? = some (.fe ks))
    (g : Grow ⟨M.m, M.p, fun a => if a = d then some (od, .dT ws) else M.f a⟩ (upd H d (.frz od (.dT ws))) M' H') (so : StOk K M' H' st) :
      H' d = some (.frz od (.dT ws)) ∧ Grow M H ⟨M'.m, M'.p, M.f⟩ (upd H' d (.dT ws)) ∧ StOk K ⟨M'.m, M'.p, M.f⟩ (upd H' d (.dT ws)) (st.set n (.de ks)) ∧ Grow M' H' M' (upd H' d (.dT ws)) := by
  have dm' : M'.m[n]? = some d := g.pre n d dm
  obtain ⟨o, ws', h1, h2, rkv⟩ := so.at_ n d _ dm' e
  have hf : M'.f = fun a => if a = d then some (od, .dT ws) else M.f a := g.ff
  rw [hf] at h1
  simp only [if_true] at h1
  injection h1 with h1
  injection h1 with h1 h3
  injection h3 with h3
  subst h1 h3
  have gp : Grow M' H' M' (upd H' d (.dT ws)) := .put so dm'
  have dn : ∀ a, M.no a → a ≠ d := fun a h z => h.1 (by rw [z]; exact List.mem_of_getElem? dm)
  refine ⟨h2, ⟨g.pre, fun a o' ha hn => ?_, g.pp, fun a ha => ?_, rfl⟩, ?_, gp⟩
  · have ne := dn a hn
    have q := g.keep a o' (by rw [upd_ne ne]; exact ha) hn
    exact ⟨by rw [upd_ne ne]; exact q.1, q.2⟩
  · have ne : a ≠ d := fun z => np (by rw [← z]; exact ha)
    have q := g.prot a ha
    rw [upd_ne ne] at q
    rw [upd_ne ne]
    exact q
  · have so2 : StOk K M' (upd H' d (.dT ws)) (st.set n (.de ks)) := so.put dm' ⟨ws, upd_same, rkv.grow gp⟩
    refine so2.ff fun k a kk e1 e2 hw => ?_
    by_cases ha : a = d
    · subst ha
      have := so.uniq dm' e1
      subst this
      have hn : n < st.length := (List.getElem?_eq_some_iff.mp e).1
      rw [List.getElem?_set_self hn] at e2
      cases e2
      cases hw
    · rw [hf]
      simp [ha]
theorem rd_lcT {vs : List Nat} (hv : ∀ i ∈ Tg.names t, i ∈ vs) : ∀ σ H Q, rdE K W (lcTE fa t tt fe vs) σ H Q → tUnlE (tLc (iKeysTL (rdE K W fa)) (Tg.raw K t) (rdB K W0 tt) (rdE K W0 fe) vs) σ H Q := fun σ H Q ⟨env, M, st, eo, so, p⟩ => by
  refine ⟨env, M, st, eo, so, Post.imp (Post.bind (rep := Rep K) p) fun x H1 ⟨M1, st1, dd, g1, so1, rd, p1⟩ => ?_⟩
  split at p1
  · rename_i n
    split at p1
    · rename_i kvs e ew
      unfold Rep at rd
      obtain ⟨d, rfl, dm⟩ := rd
      obtain ⟨ws, hd, rkv⟩ := so1.at_ n d _ dm e
      refine ⟨d, ws, rfl, hd, fun od => ?_⟩
      have np : d ∉ M1.p := fun z => (so1.pd d z).1 (List.mem_of_getElem? dm)
      have nf : NotFrz H d := notfrz_at so so1 g1 dm hd (fun o u => by simp) ew
      have gp : Grow M1 H1 M1 (upd H1 d (.frz od (.dT ws))) := .put so1 dm
      have eo0 : EnvOk K ⟨M1.m, M1.p, fun a => if a = d then some (od, .dT ws) else M1.f a⟩ (upd H1 d (.frz od (.dT ws))) env σ := ((eo.grow g1).grow gp).ff
      have so0 : StOk K ⟨M1.m, M1.p, fun a => if a = d then some (od, .dT ws) else M1.f a⟩ (upd H1 d (.frz od (.dT ws))) (st1.set n (.fe kvs)) := lock_st so1 dm e gp (fun n' a mo h1 h2 h3 => by simp [h3]) ⟨od, ws, by simp, upd_same, (rkv.grow gp).1, (rkv.grow gp).2.ff⟩
      have ri : ItRep K ⟨M1.m, M1.p, fun a => if a = d then some (od, .dT ws) else M1.f a⟩ (upd H1 d (.frz od (.dT ws))) (.gen (kTNxt n) kvs.length) (Itkt d od ws) := keyT_rep dm (by simp)
      intro L hL
      generalize hM2 : (⟨M1.m, M1.p, fun a => if a = d then some (od, .dT ws) else M1.f a⟩ : Mem) = M2 at *
      generalize hH2 : upd H1 d (.frz od (.dT ws)) = H2 at *
      generalize st1.set n (.fe kvs) = st2 at *
      obtain ⟨so2, k2⟩ := so0.hold (vs := []) hL
      have m0 : Mid K M2 H2 L (M2.hold L) (upd H2 L (.lst [])) st2 [] := ⟨k2, rfl, fun a ha => by
        obtain ⟨_, o, e⟩ := so0.pd a ha
        rw [upd_ne (ne_of_none e hL)], hL, fun a ha => (let ⟨o, e⟩ := (so0.pd a ha).2; ⟨_, e⟩), so2, [], upd_same, .nil⟩
      have eo1 : EnvOk K (M2.hold L) (upd H2 L (.lst [])) (wipeE env vs) (L2.wipe σ vs) := (eo0.kp k2).wipe vs
      have hfin : ∀ {M' : Mem} {H' : Hp} {st' : Sto} {acc : List D}, Mid K M2 H2 L M' H' st' acc → Post K (Rep K) M1 H1 Q (WE W σ) (finT n acc st') → ∃ d od u, H' d = some (.frz od u) ∧ NotFrz H d ∧ Q (.ref L) (upd H' d u) := by
        intro M' H' st' acc md q
        obtain ⟨f1, f2, f3, zs, f4, f5⟩ := md.fin
        unfold finT at q
        split at q
        · rename_i ks ek
          rw [← hM2, ← hH2] at f1
          rw [← hM2] at f2 f3 f5
          obtain ⟨h1, h2, h3, h4⟩ := unlockT_main dm np ek f1 f2
          refine ⟨d, od, .dT ws, h1, nf, q _ _ (.ref L) h2 h3 ?_⟩
          have nL : L ≠ d := fun z => by rw [z, h1] at f4; cases f4
          unfold Rep
          exact ⟨L, zs, rfl, ⟨by rw [upd_ne nL]; exact f4, f3⟩, (f5.grow h4).ff⟩
        · exact q.elim
      refine ⟨fun i m H' => ∃ M' st' acc, Mid K M2 H2 L M' H' st' acc ∧ EnvOk K M' H' (wipeE env vs) (L2.wipe σ vs) ∧ Post K (Rep K) M1 H1 Q (WE W σ) ((lcG t tt fe (wipeE env vs) (kTNxt n) m i st' acc).bind (finT n)),
        ⟨kvs.length, _, _, _, m0, eo1, p1⟩, ?_⟩
      rintro i m H' ⟨M', st', acc, md, eo', q⟩
      obtain ⟨r1, r2⟩ := ri i M' H' st' md.kp md.so
      cases m with
      | zero =>
        unfold lcG at q
        cases e : kTNxt n i st' with
        | none => rw [e] at q; exact q.elim
        | some o =>
          cases o with
          | some x => rw [e] at q; exact q.elim
          | none => rw [e] at q; exact .inl ⟨r1 e, hfin md q⟩
      | succ m =>
        unfold lcG at q
        cases e : kTNxt n i st' with
        | none => rw [e] at q; exact q.elim
        | some o =>
          cases o with
          | none => rw [e] at q; exact .inl ⟨r1 e, hfin md q⟩
          | some d =>
            rw [e] at q
            obtain ⟨r3, r4⟩ := r2 _ e
            refine .inr ⟨r3, _, fun H2 h => ⟨m, by omega, h⟩, fun x H2 hy => ?_⟩
            obtain ⟨g2, so2, rx⟩ := r4 x H2 hy
            exact turnC_rd (P := fun r => Post K (Rep K) M1 H1 Q (WE W σ) (r.bind (finT n))) (md.grow g2 so2) (eo'.grow g2) rx hv (fun z => z) q fun M3 H3 st3 acc3 k3 m3 p3 => ⟨M3, st3, acc3, m3, (eo'.grow g2).kp k3, p3⟩
    · exact p1.elim
  · exact p1.elim
theorem g_lcT {e : Expr} {vs : List Nat} (hv : ∀ i ∈ Tg.names t, i ∈ vs) (h : PE X e (tLc (iKeysTL (rdE X.K W fa)) (Tg.raw X.K t) (rdB X.K W0 tt) (rdE X.K W0 fe) vs)) : PE X e (rdE X.K W (lcTE fa t tt fe vs)) := (pe_unl h).imp (rd_lcT hv)
end
section
variable {prog : Program} {w : World} {A : Around} {s : Shared} {E : Value → Shared → Prop}
theorem samePairs0 {nm : String} {a b : Addr} {oa ob : Obj} {es es' : Array DictEntry} {ep ep' : Nat} {Q : Bool → Shared → Prop} (ha : (a == sysModules) = false) (hb : (b == sysModules) = false)
    (hoa : s.heap.get? a = some oa) (hda : oa.data = .dict es ep) (hob : s.heap.get? b = some ob) (hdb : ob.data = .dict es' ep') (h0 : es'.size = 0) (h : Q (es.size == 0) s) :
    wpAny (model prog w) A (Builtin.Dict.samePairs nm a b) Q E s := by
  unfold Builtin.Dict.samePairs Builtin.Dict.showsAll
  rw [if_neg (show ¬ (a == sysModules) = true by rw [ha]; exact Bool.false_ne_true), if_neg (show ¬ (b == sysModules) = true by rw [hb]; exact Bool.false_ne_true)]
  refine wpAny_bind (wpAny_pure (wpAny_bind (wpAny_pure ?_)))
  refine wpAny_bind (wpAny_dictEntries hoa hda ?_)
  dsimp only
  refine wpAny_bind (wpAny_dictEntries hob hdb ?_)
  by_cases hsz : es.size = es'.size
  case neg =>
    rw [if_pos (by simpa using hsz)]
    have hbf : (es.size == 0) = false := by rw [h0] at hsz; simpa using hsz
    rw [hbf] at h
    exact wpAny_bind (wpAny_rule (wpAny_pure h))
  case pos =>
    rw [if_neg (by rw [hsz]; simp)]
    have hz : es.size = 0 := by rw [hsz, h0]
    refine wpAny_bind (wpAny_dictEpoch hoa hda ?_)
    rw [hz] at h ⊢
    refine wpAny_bind ?_
    rw [Std.Legacy.Range.forIn_eq_forIn_range']
    simp only [Std.Legacy.Range.size, Nat.sub_zero, Nat.add_sub_cancel, Nat.div_one]
    exact wpAny_pure (wpAny_pure h)
theorem ne_empty {a b : Addr} {oa ob : Obj} {es es' : Array DictEntry} {ep ep' : Nat} {Q : Value → Shared → Prop} (ha : (a == sysModules) = false) (hb : (b == sysModules) = false)
    (hoa : s.heap.get? a = some oa) (xa : oa.ExactDict) (hda : oa.data = .dict es ep) (hob : s.heap.get? b = some ob) (xb : ob.ExactDict) (hdb : ob.data = .dict es' ep') (h0 : es'.size = 0) (hu : A.units < cLine) (h : Q (.bool (!(es.size == 0))) s) :
    wpAny (model prog w) A (compareOp .NotEq (.ref a) (.ref b)) Q E s := by
  have ta : s.TypeIs (.ref a) "dict" := ⟨oa, hoa, xa.1⟩
  have tb : s.TypeIs (.ref b) "dict" := ⟨ob, hob, xb.1⟩
  refine wpAny_richCompare_same_room (op := .NotEq) ta tb PySem.F.slot_dict_ne (wpAny_call_entry PySem.F.slot_dict_ne ta PySem.F.entry_dict_ne ?_ (PySem.F.args_dict_ne_2 _ _)) hu
  show wpAny _ _ (Builtin.Dict.dictSlotArgs "__ne__" ⟨[.ref a, .ref b], []⟩ >>= _) _ _ s
  refine wpAny_bind ?_
  unfold Builtin.Dict.dictSlotArgs
  refine wpAny_bind (wpAny_notOrdered_dict ta ?_)
  show wpAny _ _ (pure (Value.ref a, Value.ref b)) _ _ s
  refine wpAny_pure ?_
  refine wpAny_bind (wpAny_isInstance (T := "dict") tb PySem.F.sub_dict_dict ?_)
  simp only [Bool.not_true, Bool.false_eq_true, if_false]
  refine wpAny_bind (wpAny_pure (wpAny_bind (wpAny_pure ?_)))
  refine wpAny_bind (samePairs0 ha hb hoa hda hob hdb h0 ?_)
  refine wpAny_pure ⟨_, rfl, ?_, ?_⟩
  · exact fun x => nomatch x
  · simpa using h
end
def rNeT0 : R2 := fun x y H Q => ∃ (a b : Addr) (ks : List (List L2.Key × V)), x = .ref a ∧ y = .ref b ∧ H a = some (.dT ks) ∧ H b = some (.dK []) ∧ Q (.bl (!ks.isEmpty)) H
section
variable {X : Cx} {W : WX} {fa : EvE} {pos : Pos}
theorem op_ne_t0 (hu : X.A.units < cLine) : OpR X (compareOp .NotEq) rNeT0 := by
  intro pins s σ H x y v u Q I rx ry h
  obtain ⟨a, b, ks, rfl, rfl, ea, eb, q⟩ := h
  obtain rfl : v = Value.ref a := rx
  obtain rfl : u = Value.ref b := ry
  obtain ⟨_, ya, xs, pr, o, es, ep, ho, hx, hd, he, _⟩ := (show ObjOk X.prog X.w H s.heap a (.dT ks) from I.hok a _ ea)
  obtain ⟨_, yb, vb, rb, db⟩ := (show ObjOk X.prog X.w H s.heap b (.dK []) from I.hok b _ eb)
  cases rb
  obtain ⟨ob, es', ep', hob, xb, hdb, _, hpb, _⟩ := db
  have hl : es'.size = 0 := by
    have := hpb.length
    rw [Array.length_toList] at this
    exact this
  have l1 : es.size = xs.length := size_of_entries he
  have l2 : ks.length = xs.length := Paired.length pr
  refine ne_empty ya yb ho hx hd hob xb hdb hl hu (fin_bl I q ?_)
  rw [l1, ← l2]
  cases ks <;> rfl
def neE0D : F1 := fun d st => match d with
  | .mut n => (match st[n]? with
    | some (.de kvs) => .ok (.bl (!kvs.isEmpty)) st
    | _ => .fail)
  | _ => .fail
theorem rd_neE0 : ∀ σ H Q, rdE X.K W (unE neE0D fa) σ H Q → tOp rNeT0 (rdE X.K W fa) tDNewK σ H Q :=
  fun σ H Q ⟨env, M, st, eo, so, p⟩ => ⟨env, M, st, eo, so, Post.imp (Post.bind p) fun x H1 ⟨M1, st1, d, g1, so1, rd, p1⟩ => fun b hb => by
    unfold neE0D at p1
    split at p1
    · split at p1
      · rename_i n _ kvs e1
        unfold Rep at rd
        obtain ⟨a, rfl, am⟩ := rd
        obtain ⟨ws, hd, rkv⟩ := so1.at_ _ a _ am e1
        have hl : ws.isEmpty = kvs.isEmpty := by
          have := rkv.len
          cases ws <;> cases kvs <;> simp_all
        exact ⟨a, b, ws, rfl, rfl, by rw [upd_ne (ne_of_none hd hb)]; exact hd, upd_same, p1 M1 _ _ (.laid so1 hb) (so1.laid hb) (by rw [hl]; exact rep_bl _ _ _)⟩
      · exact p1.elim
    · exact p1.elim⟩
theorem g_tneE0 {a : Expr} {p2 : Pos} (hu : X.A.units < cLine) (ha : PE X a (rdE X.K W fa)) : PT X (.Compare a [.NotEq] [.Dict [] [] p2] pos) (rdB X.K W (tstE (unE neE0D fa))) :=
  (pt_cmpR (op_ne_t0 hu) ha pe_dnewK rfl).imp fun σ H Q h => rd_neE0 _ _ _ (rd_tst _ _ _ h)
end
section
variable {X : Cx}
def rMinDp (K : PySem.W.Frag) : List V → Hp → VK → Prop := fun vs H Q => ∃ a xs x ds, vs = [.ref a] ∧ SqL K H a xs ∧ DpAll K H xs (x :: ds) ∧ PySem.W.AlikeAll (x :: ds) ∧ PyData.depthAll (x :: ds) ≤ 8 ∧
  ∀ v, xs[argBest (fun i j => PySem.W.dataLt ((x :: ds).getD i .none) ((x :: ds).getD j .none)) ds.length]? = some v → Q v H
theorem cr_minDp (hc : X.calm = true) (hu : X.A.units + 65 < cLine) : CallR X (.builtin "min") (rMinDp X.K) := by
  intro pins s σ H vs us Q I r h
  obtain ⟨a, xs, x, ds, rfl, hs, hd, ha, hdep, q⟩ := h
  obtain ⟨its, rv, hl, _⟩ := I.list hs
  rw [Vals.ref1 r]
  obtain ⟨as, rd⟩ := Dp.readsAll I _ _ _ hd rv
  have hl' := hl.isList
  have hn : its.toArray.size = ds.length + 1 := PySem.W.readsAll_len rd
  refine PySem.call_min_walkH (PySem.W.iter_listW (A := X.A.in1) (I.ok.hd hc) hl' fun s₂ e W st hfp hw hk => ?_)
  refine ⟨_, _, _, _, _, _, _, s.heap, _, rfl, W, st, hfp, by omega, hw, hk, PySem.W.cmpIn_lt (A := X.A.in1) rd ha (by show X.A.units + 1 + _ < _; omega), fun v s' hP m => ?_⟩
  obtain ⟨h', tk, rfl, hk'⟩ := PySem.W.moved_old e rfl m
  have e1 : its.toArray.size - 1 = ds.length := by omega
  rw [e1] at hP
  have hP : its[argBest (fun i j => PySem.W.dataLt ((x :: ds).getD i .none) ((x :: ds).getD j .none)) ds.length]? = some v := by simpa using hP
  have hl1 : xs.length = ds.length + 1 := by have := rv.length; simp at hn; omega
  have hi : argBest (fun i j => PySem.W.dataLt ((x :: ds).getD i .none) ((x :: ds).getD j .none)) ds.length < xs.length := by have := (PySem.W.argBest_fold PySem.W.dataLt PyData.none x ds ds.length (Nat.le_refl _)).1; omega
  have hv := List.getElem?_eq_getElem hi
  obtain ⟨u, hu2, ru⟩ := rv.get hv
  rw [hP] at hu2
  cases hu2
  exact ⟨_, H, I.kept hk', ru, q _ hv⟩
end
def tripD (t : Int × Int × Int) : D := .tup [.int t.1, .tup [.int t.2.1, .int t.2.2]]
def tripPD (t : Int × Int × Int) : PyData := .tuple [.int t.1, .tuple [.int t.2.1, .int t.2.2]]
def tripOf : D → Option (Int × Int × Int)
  | .tup [.int a, .tup [.int b, .int c]] => some (a, b, c)
  | _ => none
def tripsOf : List D → Option (List (Int × Int × Int))
  | [] => some []
  | d :: ds => match tripOf d, tripsOf ds with
    | some t, some ts => some (t :: ts)
    | _, _ => none
theorem tripOf_eq {d : D} {t : Int × Int × Int} (h : tripOf d = some t) : d = tripD t := by
  unfold tripOf at h
  split at h
  · cases h; rfl
  · cases h
theorem tripsOf_eq : ∀ {ds : List D} {ts : List (Int × Int × Int)}, tripsOf ds = some ts → ds = ts.map tripD
  | [], ts, h => by cases h; rfl
  | d :: ds, ts, h => by
    unfold tripsOf at h
    split at h
    · rename_i t ts' e1 e2
      cases h
      rw [List.map_cons, tripOf_eq e1, tripsOf_eq e2]
    · cases h
theorem tripsOf_map : ∀ ts : List (Int × Int × Int), tripsOf (ts.map tripD) = some ts
  | [] => rfl
  | t :: ts => by
    rw [List.map_cons]
    unfold tripsOf
    rw [tripsOf_map ts]
    rfl
theorem trips_PD : ∀ ts : List (Int × Int × Int), toPDs (ts.map tripD) = some (ts.map tripPD)
  | [] => rfl
  | t :: ts => by
    rw [List.map_cons]
    unfold toPDs
    rw [trips_PD ts]
    rfl
theorem trips_alike (ts : List (Int × Int × Int)) : PySem.W.AlikeAll (ts.map tripPD) := by
  refine ⟨fun x hx y hy => ?_, fun x hx => ?_⟩
  · obtain ⟨t, -, rfl⟩ := List.mem_map.mp hx
    obtain ⟨u, -, rfl⟩ := List.mem_map.mp hy
    rfl
  · obtain ⟨t, -, rfl⟩ := List.mem_map.mp hx
    exact fun e => by cases e
theorem trips_deep : ∀ ts : List (Int × Int × Int), PyData.depthAll (ts.map tripPD) ≤ 8
  | [] => Nat.zero_le _
  | t :: ts => by
    rw [List.map_cons]
    show max (tripPD t).depth _ ≤ 8
    exact Nat.max_le.mpr ⟨by show _ ≤ 8; simp [tripPD, PyData.depth, PyData.depthAll], trips_deep ts⟩
def leastT (ts : List (Int × Int × Int)) : Nat := argBest (fun i j => PySem.W.dataLt ((ts.map tripPD).getD i .none) ((ts.map tripPD).getD j .none)) (ts.length - 1)
theorem trip_lt {p q : Int × Int × Int} (h : p.1 < q.1) : PySem.W.dataLt (tripPD p) (tripPD q) = true := by
  have e : ∀ t : Int × Int × Int, ∃ l, PySem.W.keyToks (tripPD t) = .inl 1 :: .inl t.1 :: l := fun t => ⟨_, rfl⟩
  obtain ⟨l1, e1⟩ := e p
  obtain ⟨l2, e2⟩ := e q
  unfold PySem.W.dataLt
  rw [e1, e2, PyProof.Rows.lex_self (O := itemOrd), PyProof.Rows.lex_cons (O := itemOrd)]
  have : itemOrd.blt (.inl p.1) (.inl q.1) = true := decide_eq_true h
  rw [this]; rfl
theorem trip_ge {p q : Int × Int × Int} (h : PySem.W.dataLt (tripPD p) (tripPD q) = true) : p.1 ≤ q.1 := by
  rcases Int.lt_or_le q.1 p.1 with c | c
  · have e : ∀ t : Int × Int × Int, ∃ l, PySem.W.keyToks (tripPD t) = .inl 1 :: .inl t.1 :: l := fun t => ⟨_, rfl⟩
    obtain ⟨l1, e1⟩ := e p
    obtain ⟨l2, e2⟩ := e q
    unfold PySem.W.dataLt at h
    rw [e1, e2, PyProof.Rows.lex_self (O := itemOrd), PyProof.Rows.lex_cons (O := itemOrd)] at h
    have h1 : itemOrd.blt (.inl p.1) (.inl q.1) = false := decide_eq_false (by omega)
    have h2 : itemOrd.blt (.inl q.1) (.inl p.1) = true := decide_eq_true c
    rw [h1, h2] at h
    cases h
  · exact c
theorem best_le (num : Nat → Int) (bt : Nat → Nat → Bool) (n : Nat) (h1 : ∀ i j, i < n → j < n → num i < num j → bt i j = true) (h2 : ∀ i j, i < n → j < n → bt i j = true → num i ≤ num j) : ∀ k, k < n → argBest bt k ≤ k ∧ ∀ j, j ≤ k → num (argBest bt k) ≤ num j
  | 0, _ => ⟨Nat.le_refl _, fun j hj => by
    have : j = 0 := by omega
    subst this
    exact Int.le_refl _⟩
  | k + 1, hk => by
    obtain ⟨i1, i2⟩ := best_le num bt n h1 h2 k (by omega)
    by_cases c : bt (k + 1) (argBest bt k) = true
    · have e : argBest bt (k + 1) = k + 1 := if_pos c
      rw [e]
      refine ⟨Nat.le_refl _, fun j hj => ?_⟩
      have := h2 _ _ hk (by omega) c
      by_cases cj : j ≤ k
      · exact Int.le_trans this (i2 j cj)
      · have : j = k + 1 := by omega
        subst this
        exact Int.le_refl _
    · have e : argBest bt (k + 1) = argBest bt k := if_neg c
      rw [e]
      refine ⟨by omega, fun j hj => ?_⟩
      by_cases cj : j ≤ k
      · exact i2 j cj
      · have : j = k + 1 := by omega
        subst this
        exact Int.not_lt.mp fun z => c (h1 _ _ hk (by omega) z)
theorem leastT_le {ts : List (Int × Int × Int)} (hne : ts ≠ []) : leastT ts < ts.length ∧ ∀ j, j < ts.length → (ts.getD (leastT ts) (0, 0, 0)).1 ≤ (ts.getD j (0, 0, 0)).1 := by
  have hl : 0 < ts.length := List.length_pos_iff.mpr hne
  have g : ∀ i, i < ts.length → (ts.map tripPD).getD i .none = tripPD (ts.getD i (0, 0, 0)) := fun i hi => by simp [hi]
  have := best_le (fun i => (ts.getD i (0, 0, 0)).1) (fun i j => PySem.W.dataLt ((ts.map tripPD).getD i .none) ((ts.map tripPD).getD j .none)) ts.length
    (fun i j hi hj h => by show PySem.W.dataLt _ _ = true; rw [g i hi, g j hj]; exact trip_lt h) (fun i j hi hj h => by
      have h : PySem.W.dataLt ((ts.map tripPD).getD i .none) ((ts.map tripPD).getD j .none) = true := h
      rw [g i hi, g j hj] at h; exact trip_ge h) (ts.length - 1) (by omega)
  refine ⟨by unfold leastT; omega, fun j hj => this.2 j (by omega)⟩
def minNF : FA := fun as st => match as with
  | [.tup _] => .fail
  | [a] => (match (seqOf a st).bind tripsOf with
    | some (t :: ts) => .ok (tripD ((t :: ts).getD (leastT (t :: ts)) (0, 0, 0))) st
    | _ => .fail)
  | _ => .fail
theorem v_minN {K : PySem.W.Frag} : CallV K (rMinDp K) minNF := by
  intro as xs M H st Q E ra so p
  unfold minNF at p
  split at p
  · exact p.elim
  · rename_i a hnt
    split at p
    · rename_i u us e
      obtain ⟨x, rfl, rx⟩ := ra.one
      obtain ⟨ds, e1, e2⟩ := Option.bind_eq_some_iff.mp e
      obtain ⟨t, vs, rfl, hs, rl⟩ : ∃ t vs, x = .ref t ∧ SqL K H t vs ∧ RepL K M H ds vs := by
        cases a with
        | «mut» n =>
          unfold Rep at rx
          obtain ⟨t, rfl, m⟩ := rx
          simp only [seqOf] at e1
          split at e1
          · rename_i ys hy
            cases e1
            obtain ⟨vs, hv, rl⟩ := so.at_ n t _ m hy
            exact ⟨t, vs, rfl, .of hv, rl⟩
          · cases e1
        | lst ys => cases e1; unfold Rep at rx; obtain ⟨t, vs, e, f, q⟩ := rx; exact ⟨t, vs, e, f.sq, q⟩
        | slo ys => cases e1; unfold Rep at rx; obtain ⟨t, vs, e, f, q⟩ := rx; exact ⟨t, vs, e, f.sq, q⟩
        | tup ys => exact absurd rfl (hnt ys)
        | _ => cases e1
      have ev := tripsOf_eq e2
      subst ev
      have hd := toPDs_rep (trips_PD (u :: us)) rl
      refine ⟨t, vs, tripPD u, us.map tripPD, rfl, hs, hd, trips_alike (u :: us), trips_deep (u :: us), fun v hv => ?_⟩
      obtain ⟨d, h1, h2⟩ := rl.get' hv
      have hi : leastT (u :: us) < (u :: us).length := (leastT_le (by simp)).1
      have h1 : ((u :: us).map tripD)[leastT (u :: us)]? = some d := by
        have el : leastT (u :: us) = argBest (fun i j => PySem.W.dataLt ((tripPD u :: us.map tripPD).getD i .none) ((tripPD u :: us.map tripPD).getD j .none)) (us.map tripPD).length := by
          unfold leastT
          rw [List.length_map]
          rfl
        rw [el]; exact h1
      rw [List.getElem?_map, List.getElem?_eq_getElem hi] at h1
      have h1 : tripD (u :: us)[leastT (u :: us)] = d := by simpa using h1
      rw [List.getD_eq_getElem?_getD, List.getElem?_eq_getElem hi, Option.getD_some, h1] at p
      exact p M H _ .refl so h2
    · exact p.elim
  · exact p.elim
end G
namespace Lap
open PySem PySem.Spec PyProof.Rows L2 G
abbrev whileMost : Nat := 100000
def B_round_by : SvS := retS (callE sumF (consA (callE listF (consA (varE 0) (nilA))) (nilA)))
def F_round_by : FA := runF 1 1 B_round_by
def B_sectors_from : SvS := retS (lstE (starA (sliceE (varE 0) (someO (varE 1)) (noO)) (starA (sliceE (varE 0) (noO) (someO (varE 1))) (nilA))))
def F_sectors_from : FA := runF 2 2 B_sectors_from
def B_reach_by : SvS := seqS (asgS (callE divmodF (consA (varE 2) (consA (callE lenF (consA (varE 0) (nilA))) (nilA)))) (tupT 2 (consT (nameT 3) (consT (nameT 4) (nilT))))) (retS (binE addD (binE mulD (varE 3) (callE F_round_by (consA (varE 0) (nilA)))) (callE sumF (consA (sliceE (callE F_sectors_from (consA (varE 0) (consA (varE 1) (nilA)))) (noO) (someO (varE 4))) (nilA)))))
def F_reach_by : FA := runF 3 5 B_reach_by
def B_is_whole : SvS := retS (andE (unE (isiD .int) (varE 0)) (notE (unE (isiD .bl) (varE 0))))
def F_is_whole : FA := runF 1 1 B_is_whole
def B_is_between : SvS := retS (andE (callE F_is_whole (consA (varE 0) (nilA))) (chainE leD leD (varE 1) (varE 0) (varE 2)))
def F_is_between : FA := runF 3 3 B_is_between
def B_is_up_to : SvS := retS (callE F_is_between (consA (varE 0) (consA (cE (.int 0)) (consA (varE 1) (nilA)))))
def F_is_up_to : FA := runF 2 2 B_is_up_to
def B_is_from : SvS := retS (andE (callE F_is_whole (consA (varE 0) (nilA))) (binE geD (varE 0) (varE 1)))
def F_is_from : FA := runF 2 2 B_is_from
def B_is_tuple_up_to : SvS := retS (andE (unE (isiD .tup) (varE 0)) (chainE leD leD (varE 1) (callE lenF (consA (varE 0) (nilA))) (varE 2)))
def F_is_tuple_up_to : FA := runF 3 3 B_is_tuple_up_to
def B_is_track_of : SvS := retS (andE (callE F_is_tuple_up_to (consA (varE 0) (consA (cE (.int 1)) (consA (cE (.int 8)) (nilA))))) (callE allF (consA (lcE (iterE (varE 0)) (.nm 1) (yesB) (callE F_is_from (consA (varE 1) (consA (cE (.int 1)) (nilA)))) [1]) (nilA))))
def F_is_track_of : FA := runF 1 2 B_is_track_of
def B_is_mat_of : SvS := retS (callE F_is_up_to (consA (varE 1) (consA (binE subD (callE lenF (consA (varE 0) (nilA))) (cE (.int 1))) (nilA))))
def F_is_mat_of : FA := runF 2 2 B_is_mat_of
def B_check_track : SvS := ifS (notB (tstE (callE F_is_track_of (consA (varE 0) (nilA))))) (raiseS "InvalidTrack" "given" (varE 0)) (passS)
def F_check_track : FA := runF 1 1 B_check_track
def B_steps_by : SvS := retS (binE addD (binE modD (binE subD (binE subD (varE 2) (varE 1)) (cE (.int 1))) (callE lenF (consA (varE 0) (nilA)))) (cE (.int 1)))
def F_steps_by : FA := runF 3 3 B_steps_by
def B_way_by : SvS := retS (callE F_reach_by (consA (varE 0) (consA (varE 1) (consA (callE F_steps_by (consA (varE 0) (consA (varE 1) (consA (varE 2) (nilA))))) (nilA)))))
def F_way_by : FA := runF 3 3 B_way_by
def B_can_follow_by : SvS := retS (binE geD (binE subD (binE ixD (varE 1) (cE (.int 0))) (binE ixD (varE 2) (cE (.int 0)))) (callE F_way_by (consA (varE 0) (consA (binE ixD (varE 2) (cE (.int 1))) (consA (binE ixD (varE 1) (cE (.int 1))) (nilA))))))
def F_can_follow_by : FA := runF 3 3 B_can_follow_by
def B_wrong_marks_by : SvS := retS (lcE (callI range2F (consA (cE (.int 1)) (consA (callE lenF (consA (varE 1) (nilA))) (nilA)))) (.nm 2) (notB (tstE (callE F_can_follow_by (consA (varE 0) (consA (binE ixD (varE 1) (varE 2)) (consA (binE ixD (varE 1) (binE subD (varE 2) (cE (.int 1)))) (nilA))))))) (varE 2) [2])
def F_wrong_marks_by : FA := runF 2 3 B_wrong_marks_by
def B_is_row_by : SvS := retS (binE eqD (callE F_wrong_marks_by (consA (varE 0) (consA (varE 1) (nilA)))) (lstE (nilA)))
def F_is_row_by : FA := runF 2 2 B_is_row_by
def B_is_tuple_of : SvS := retS (callE F_is_tuple_up_to (consA (varE 0) (consA (varE 1) (consA (varE 1) (nilA)))))
def F_is_tuple_of : FA := runF 2 2 B_is_tuple_of
def B_is_pair : SvS := retS (callE F_is_tuple_of (consA (varE 0) (consA (cE (.int 2)) (nilA))))
def F_is_pair : FA := runF 1 1 B_is_pair
def B_is_mark_of : SvS := retS (andE (callE F_is_pair (consA (varE 1) (nilA))) (andE (callE F_is_from (consA (binE ixD (varE 1) (cE (.int 0))) (consA (cE (.int 0)) (nilA)))) (callE F_is_mat_of (consA (varE 0) (consA (binE ixD (varE 1) (cE (.int 1))) (nilA))))))
def F_is_mark_of : FA := runF 2 2 B_is_mark_of
def B_wrong_in_bag : SvS := seqS (ifS (notB (tstE (callE F_is_tuple_up_to (consA (varE 1) (consA (cE (.int 0)) (consA (cE (.int 30)) (nilA))))))) (retS (lstE (consA (cE .non) (nilA)))) (passS)) (seqS (forS (callI enumF (consA (varE 1) (nilA))) (tgT (.tp [.nm 2, .nm 3])) (ifS (orB (notB (tstE (callE F_is_mark_of (consA (varE 0) (consA (varE 3) (nilA)))))) (andB (tstE (binE gtD (varE 2) (cE (.int 0)))) (tstE (binE leD (varE 3) (binE ixD (varE 1) (binE subD (varE 2) (cE (.int 1)))))))) (retS (lstE (consA (varE 2) (nilA)))) (passS))) (retS (lstE (nilA))))
def F_wrong_in_bag : FA := runF 2 4 B_wrong_in_bag
def B_is_bag_of : SvS := retS (binE eqD (callE F_wrong_in_bag (consA (varE 0) (consA (varE 1) (nilA)))) (lstE (nilA)))
def F_is_bag_of : FA := runF 2 2 B_is_bag_of
def B__law_reach_v2 : SvS := seqS (asgS (callE lenF (consA (varE 0) (nilA))) (nameT 3)) (seqS (asgS (binE modD (callE intF (consA (varE 2) (nilA))) (varE 3)) (nameT 4)) (retS (binE addD (binE mulD (binE fdivD (varE 2) (varE 3)) (callE sumF (consA (varE 0) (nilA)))) (callE sumF (consA (lcE (callI range1F (consA (varE 4) (nilA))) (.nm 5) (yesB) (binE ixD (varE 0) (binE modD (callE intF (consA (binE addD (varE 1) (varE 5)) (nilA))) (varE 3))) [5]) (nilA))))))
def F__law_reach_v2 : FA := runF 3 6 B__law_reach_v2
def B_check_bag : SvS := forS (iterE (callE F_wrong_in_bag (consA (varE 0) (consA (varE 1) (nilA))))) (tgT (.nm 2)) (raiseS "InvalidBag" "index" (varE 2))
def F_check_bag : FA := runF 2 3 B_check_bag
def B_check_tracked : SvS := seqS (exprS (callE F_check_track (consA (varE 0) (nilA)))) (exprS (callE F_check_bag (consA (varE 0) (consA (varE 1) (nilA)))))
def F_check_tracked : FA := runF 2 2 B_check_tracked
def B_is_row : SvS := seqS (exprS (callE F_check_tracked (consA (varE 0) (consA (varE 1) (nilA))))) (retS (callE F_is_row_by (consA (varE 0) (consA (varE 1) (nilA)))))
def F_is_row : FA := runF 2 2 B_is_row
def B_check_marks : SvS := seqS (exprS (callE F_check_track (consA (varE 0) (nilA)))) (exprS (callE F_check_bag (consA (varE 0) (consA (varE 1) (nilA)))))
def F_check_marks : FA := runF 2 2 B_check_marks
def B_wrong_mark : SvS := seqS (exprS (callE F_check_tracked (consA (varE 0) (consA (varE 1) (nilA))))) (seqS (asgS (callE F_wrong_marks_by (consA (varE 0) (consA (varE 1) (nilA)))) (nameT 2)) (retS (ifE (tstE (binE neD (varE 2) (lstE (nilA)))) (binE ixD (varE 2) (cE (.int 0))) (cE .non))))
def F_wrong_mark : FA := runF 2 3 B_wrong_mark
def B__law_way_v2 : SvS := seqS (asgS (binE ixD (varE 0) (varE 1)) (nameT 3)) (seqS (forS (callI range2F (consA (cE (.int 1)) (consA (callE lenF (consA (varE 0) (nilA))) (nilA)))) (tgT (.nm 4)) (seqS (asgS (binE modD (callE intF (consA (binE addD (varE 1) (varE 4)) (nilA))) (callE lenF (consA (varE 0) (nilA)))) (nameT 5)) (seqS (ifS (tstE (binE eqD (varE 5) (varE 2))) (retS (varE 3)) (passS)) (asgS (binE addD (varE 3) (binE ixD (varE 0) (varE 5))) (nameT 3))))) (retS (varE 3)))
def F__law_way_v2 : FA := runF 3 6 B__law_way_v2
def B__law_steps_v3 : SvS := seqS (asgS (binE modD (callE intF (consA (binE subD (varE 2) (varE 1)) (nilA))) (callE lenF (consA (varE 0) (nilA)))) (nameT 3)) (retS (ifE (tstE (binE gtD (varE 3) (cE (.int 0)))) (varE 3) (callE lenF (consA (varE 0) (nilA)))))
def F__law_steps_v3 : FA := runF 3 4 B__law_steps_v3
def B_is_mat_count : SvS := retS (callE F_is_between (consA (varE 0) (consA (cE (.int 1)) (consA (cE (.int 8)) (nilA)))))
def F_is_mat_count : FA := runF 1 1 B_is_mat_count
def B_even_track : SvS := retS (binE mulD (tupE (consA (cE (.int 1)) (nilA))) (varE 0))
def F_even_track : FA := runF 1 1 B_even_track
def B_wrong_in_bags : SvS := seqS (ifS (notB (tstE (callE F_is_tuple_up_to (consA (varE 1) (consA (cE (.int 1)) (consA (cE (.int 6)) (nilA))))))) (retS (lstE (consA (cE .non) (nilA)))) (passS)) (retS (sliceE (lcE (callI enumF (consA (varE 1) (nilA))) (.tp [.nm 2, .nm 3]) (notB (tstE (callE F_is_bag_of (consA (callE F_even_track (consA (varE 0) (nilA))) (consA (varE 3) (nilA)))))) (varE 2) [2, 3]) (noO) (someO (cE (.int 1)))))
def F_wrong_in_bags : FA := runF 2 4 B_wrong_in_bags
def B_check_bags : SvS := seqS (ifS (notB (tstE (callE F_is_mat_count (consA (varE 0) (nilA))))) (raiseS "InvalidNumber" "given" (varE 0)) (passS)) (forS (iterE (callE F_wrong_in_bags (consA (varE 0) (consA (varE 1) (nilA))))) (tgT (.nm 2)) (raiseS "InvalidBags" "index" (varE 2)))
def F_check_bags : FA := runF 2 3 B_check_bags
def B_followers_of : SvS := seqS (asgS (listRgE (callE lenF (consA (varE 1) (nilA)))) (nameT 2)) (retS (lcE (iterE (varE 2)) (.nm 3) (yesB) (lcE (iterE (varE 2)) (.nm 4) (andB (tstE (binE gtD (varE 4) (varE 3))) (tstE (callE F_can_follow_by (consA (varE 0) (consA (binE ixD (varE 1) (varE 4)) (consA (binE ixD (varE 1) (varE 3)) (nilA))))))) (varE 4) [4]) [3]))
def F_followers_of : FA := runF 2 5 B_followers_of
def B_heights_of : SvS := seqS (asgS (binE repMD (lstE (consA (cE (.int 1)) (nilA))) (callE lenF (consA (varE 0) (nilA)))) (nameT 1)) (seqS (forS (callI enumF (consA (varE 0) (nilA))) (tgT (.tp [.nm 2, .nm 3])) (forS (iterE (varE 3)) (tgT (.nm 4)) (asgS (callE maxF (consA (binE ixD (varE 1) (varE 4)) (consA (binE addD (binE ixD (varE 1) (varE 2)) (cE (.int 1))) (nilA)))) (subT (varE 1) (varE 4))))) (retS (varE 1)))
def F_heights_of : FA := runF 1 5 B_heights_of
def B_longest_indexes : SvS := seqS (asgS (callE F_heights_of (consA (varE 0) (nilA))) (nameT 1)) (seqS (ifS (tstE (binE eqMD (varE 1) (lstE (nilA)))) (retS (lstE (nilA))) (passS)) (seqS (asgS (mutE (consA (methLE indexF (varE 1) (consA (callE maxF (consA (varE 1) (nilA))) (nilA))) (nilA))) (nameT 2)) (seqS (whileF (tstE (binE gtD (binE ixD (varE 1) (binE ixD (varE 2) (unE negD (cE (.int 1))))) (cE (.int 1)))) (seqS (asgS (binE subD (binE ixD (varE 1) (binE ixD (varE 2) (unE negD (cE (.int 1))))) (cE (.int 1))) (nameT 3)) (exprS (methLE appF (varE 2) (consA (binE ixD (lcE (callI enumF (consA (varE 1) (nilA))) (.tp [.nm 4, .nm 5]) (andB (tstE (binE eqD (varE 5) (varE 3))) (tstE (binE inD (binE ixD (varE 2) (unE negD (cE (.int 1)))) (binE ixD (varE 0) (varE 4))))) (varE 4) [4, 5]) (cE (.int 0))) (nilA))))) whileMost) (retS (revE (varE 2))))))
def F_longest_indexes : FA := runF 1 6 B_longest_indexes
def B_longest_row_by : SvS := retS (callE tupleF (consA (lcE (iterE (callE F_longest_indexes (consA (callE F_followers_of (consA (varE 0) (consA (varE 1) (nilA)))) (nilA)))) (.nm 2) (yesB) (binE ixD (varE 1) (varE 2)) [2]) (nilA)))
def F_longest_row_by : FA := runF 2 3 B_longest_row_by
def B_false_marks_by : SvS := seqS (asgS (callE F_longest_indexes (consA (callE F_followers_of (consA (varE 0) (consA (varE 1) (nilA)))) (nilA))) (nameT 2)) (retS (callE tupleF (consA (lcE (callI range1F (consA (callE lenF (consA (varE 1) (nilA))) (nilA))) (.nm 3) (tstE (binE notInD (varE 3) (varE 2))) (varE 3) [3]) (nilA))))
def F_false_marks_by : FA := runF 2 4 B_false_marks_by
def B_longest_row : SvS := seqS (exprS (callE F_check_marks (consA (varE 0) (consA (varE 1) (nilA))))) (retS (callE F_longest_row_by (consA (varE 0) (consA (varE 1) (nilA)))))
def F_longest_row : FA := runF 2 2 B_longest_row
def B_false_marks : SvS := seqS (exprS (callE F_check_marks (consA (varE 0) (consA (varE 1) (nilA))))) (retS (callE F_false_marks_by (consA (varE 0) (consA (varE 1) (nilA)))))
def F_false_marks : FA := runF 2 2 B_false_marks
def B__law_take : SvS := seqS (ifS (tstE (binE gtD (binE ixD (varE 0) (cE (.int 0))) (cE (.int 0)))) (seqS (asgS (callE divmodF (consA (binE ixD (varE 0) (cE (.int 0))) (consA (varE 1) (nilA)))) (tupT 2 (consT (subT (varE 0) (cE (.int 0))) (consT (nameT 2) (nilT))))) (retS (varE 2))) (passS)) (seqS (asgS (binE addD (binE ixD (varE 0) (cE (.int 2))) (cE (.int 1))) (subT (varE 0) (cE (.int 2)))) (seqS (asgS (binE modD (callE intF (consA (binE addD (binE addD (binE mulD (binE ixD (varE 0) (cE (.int 1))) (cE (.int 39373))) (binE mulD (binE ixD (varE 0) (cE (.int 2))) (cE (.int 30323)))) (cE (.int 11))) (nilA))) (cE (.int 2147483543))) (subT (varE 0) (cE (.int 1)))) (retS (binE modD (callE intF (consA (binE fdivD (binE ixD (varE 0) (cE (.int 1))) (cE (.int 128))) (nilA))) (varE 1)))))
def F__law_take : FA := runF 2 3 B__law_take
def B__law_of : SvS := retS (binE ixD (varE 1) (callE F__law_take (consA (varE 0) (consA (callE lenF (consA (varE 1) (nilA))) (nilA)))))
def F__law_of : FA := runF 2 2 B__law_of
def B__law_same_v2 (rec : FA) : SvS := seqS (ifS (orB (andB (tstE (unE (isiD .tup) (varE 1))) (notB (tstE (unE (isiD .tup) (varE 0))))) (andB (tstE (unE (isiD .lst) (varE 1))) (notB (tstE (unE (isiD .lst) (varE 0)))))) (retS (cE (.bl false))) (passS)) (seqS (ifS (tstE (unE (isi2D .tup .lst) (varE 1))) (retS (andE (binE eqD (callE lenF (consA (varE 0) (nilA))) (callE lenF (consA (varE 1) (nilA)))) (callE allF (consA (lcE (callI range1F (consA (callE lenF (consA (varE 1) (nilA))) (nilA))) (.nm 2) (yesB) (callE rec (consA (binE ixD (varE 0) (varE 2)) (consA (binE ixD (varE 1) (varE 2)) (nilA)))) [2]) (nilA))))) (passS)) (seqS (ifS (orB (tstE (binE isND (varE 1) (cE .non))) (tstE (binE isND (varE 0) (cE .non)))) (retS (andE (binE isND (varE 1) (cE .non)) (binE isND (varE 0) (cE .non)))) (passS)) (seqS (ifS (orB (tstE (unE (isiD .bl) (varE 1))) (tstE (unE (isiD .bl) (varE 0)))) (retS (andE (unE (isiD .bl) (varE 1)) (andE (unE (isiD .bl) (varE 0)) (binE eqD (varE 1) (varE 0))))) (passS)) (seqS (ifS (tstE (unE (isiD .int) (varE 1))) (retS (andE (unE (isiD .int) (varE 0)) (binE eqD (varE 0) (varE 1)))) (passS)) (seqS (ifS (tstE (unE (isiD .str) (varE 1))) (retS (andE (unE (isiD .str) (varE 0)) (binE eqD (varE 0) (varE 1)))) (passS)) (retS (andE (unE (isiD .dic) (varE 1)) (andE (unE (isiD .dic) (varE 0)) (andE (binE eqD (callE lenF (consA (varE 0) (nilA))) (callE lenF (consA (varE 1) (nilA)))) (binE eqD (varE 0) (varE 1)))))))))))
def R__law_same_v2 : Nat → FA
  | 0 => fun _ _ => .fail
  | k + 1 => runF 2 3 (B__law_same_v2 (R__law_same_v2 k))
def F__law_same_v2 : FA := R__law_same_v2 20
def B__law_track : SvS := seqS (asgS (callE F__law_of (consA (varE 0) (consA (tupE (consA (cE (.int 3)) (consA (cE (.int 9)) (consA (cE (.int 40)) (nilA))))) (nilA)))) (nameT 1)) (retS (callE tupleF (consA (lcE (callI range1F (consA (binE addD (cE (.int 1)) (callE F__law_take (consA (varE 0) (consA (callE F__law_of (consA (varE 0) (consA (tupE (consA (cE (.int 3)) (consA (cE (.int 4)) (consA (cE (.int 8)) (nilA))))) (nilA)))) (nilA))))) (nilA))) (.nm 2) (yesB) (binE addD (cE (.int 1)) (callE F__law_take (consA (varE 0) (consA (varE 1) (nilA))))) [2]) (nilA))))
def F__law_track : FA := runF 1 3 B__law_track
def B__law_reach_v3 : SvS := seqS (asgS (callE lenF (consA (varE 0) (nilA))) (nameT 3)) (seqS (asgS (binE mulD (binE fdivD (varE 2) (varE 3)) (callE sumF (consA (varE 0) (nilA)))) (nameT 4)) (seqS (forS (callI range1F (consA (binE modD (callE intF (consA (varE 2) (nilA))) (varE 3)) (nilA))) (tgT (.nm 5)) (asgS (binE addD (varE 4) (binE ixD (varE 0) (binE modD (callE intF (consA (binE addD (varE 1) (varE 5)) (nilA))) (varE 3)))) (nameT 4))) (retS (varE 4))))
def F__law_reach_v3 : FA := runF 3 6 B__law_reach_v3
def B__law_steps_v4 : SvS := seqS (asgS (callE lenF (consA (varE 0) (nilA))) (nameT 3)) (seqS (asgS (binE modD (callE intF (consA (binE subD (varE 2) (varE 1)) (nilA))) (varE 3)) (nameT 4)) (retS (ifE (tstE (binE gtD (varE 4) (cE (.int 0)))) (varE 4) (varE 3))))
def F__law_steps_v4 : FA := runF 3 5 B__law_steps_v4
def B__law_way_v3 : SvS := retS (callE F__law_reach_v3 (consA (varE 0) (consA (varE 1) (consA (callE F__law_steps_v4 (consA (varE 0) (consA (varE 1) (consA (varE 2) (nilA))))) (nilA)))))
def F__law_way_v3 : FA := runF 3 3 B__law_way_v3
def B__law_follows : SvS := retS (binE geD (binE subD (binE ixD (varE 1) (cE (.int 0))) (binE ixD (varE 2) (cE (.int 0)))) (callE F__law_way_v3 (consA (varE 0) (consA (binE ixD (varE 2) (cE (.int 1))) (consA (binE ixD (varE 1) (cE (.int 1))) (nilA))))))
def F__law_follows : FA := runF 3 3 B__law_follows
def B__law_is_row_v2 : SvS := retS (callE allF (consA (lcE (callI range2F (consA (cE (.int 1)) (consA (callE lenF (consA (varE 1) (nilA))) (nilA)))) (.nm 2) (yesB) (callE F__law_follows (consA (varE 0) (consA (binE ixD (varE 1) (varE 2)) (consA (binE ixD (varE 1) (binE subD (varE 2) (cE (.int 1)))) (nilA))))) [2]) (nilA)))
def F__law_is_row_v2 : FA := runF 2 3 B__law_is_row_v2
def B__law_is_whole_v2 : SvS := retS (andE (unE (isiD .int) (varE 0)) (notE (unE (isiD .bl) (varE 0))))
def F__law_is_whole_v2 : FA := runF 1 1 B__law_is_whole_v2
def B__law_course : SvS := seqS (asgS (tupE (consA (mutE (nilA)) (consA (varE 2) (consA (cE (.int 0)) (consA (callE F__law_of (consA (varE 0) (consA (tupE (consA (cE (.int 1)) (consA (cE (.int 4)) (consA (cE (.int 30)) (nilA))))) (nilA)))) (consA (callE F__law_of (consA (varE 0) (consA (tupE (consA (cE (.int 2)) (consA (cE (.int 4)) (consA (cE (.int 8)) (nilA))))) (nilA)))) (nilA))))))) (tupT 5 (consT (nameT 4) (consT (nameT 5) (consT (nameT 6) (consT (nameT 7) (consT (nameT 8) (nilT)))))))) (seqS (forS (callI range1F (consA (cE (.int 60)) (nilA))) (tgT (.nm 9)) (seqS (parS 5 6 (consA (binE addD (binE addD (varE 5) (binE ixD (varE 1) (varE 6))) (callE F__law_take (consA (varE 0) (consA (varE 7) (nilA))))) (consA (binE modD (callE intF (consA (binE addD (varE 6) (cE (.int 1))) (nilA))) (callE lenF (consA (varE 1) (nilA)))) (nilA)))) (ifS (andB (tstE (binE gtD (callE F__law_take (consA (varE 0) (consA (varE 8) (nilA)))) (cE (.int 0)))) (tstE (binE ltD (callE lenF (consA (varE 4) (nilA))) (varE 3)))) (exprS (methLE appF (varE 4) (consA (tupE (consA (varE 5) (consA (varE 6) (nilA)))) (nilA)))) (passS)))) (retS (callE tupleF (consA (sliceE (varE 4) (noO) (someO (callE F__law_take (consA (varE 0) (consA (binE addD (varE 3) (cE (.int 1))) (nilA)))))) (nilA)))))
def F__law_course : FA := runF 4 10 B__law_course
def B__law_any_bag : SvS := seqS (parS 3 4 (consA (newEE) (consA (callE F__law_of (consA (varE 0) (consA (tupE (consA (cE (.int 0)) (consA (cE (.int 5)) (consA (binE addD (binE powD (cE (.int 10)) (cE (.int 28))) (cE (.int 9))) (nilA))))) (nilA)))) (nilA)))) (seqS (forS (callI range1F (consA (binE addD (cE (.int 1)) (callE F__law_take (consA (varE 0) (consA (cE (.int 4)) (nilA))))) (nilA))) (tgT (.nm 5)) (forS (iterE (callE F__law_course (consA (varE 0) (consA (varE 1) (consA (binE addD (varE 4) (callE F__law_take (consA (varE 0) (consA (cE (.int 30)) (nilA))))) (consA (cE (.int 4)) (nilA))))))) (tgT (.tp [.nm 6, .nm 7])) (putDS (cE (.bl true)) (varE 3) (tupE (consA (varE 6) (consA (varE 7) (nilA))))))) (seqS (forS (callI range1F (consA (callE F__law_take (consA (varE 0) (consA (cE (.int 4)) (nilA)))) (nilA))) (tgT (.nm 8)) (putDS (cE (.bl true)) (varE 3) (tupE (consA (binE addD (varE 4) (callE F__law_take (consA (varE 0) (consA (cE (.int 60)) (nilA))))) (consA (callE F__law_take (consA (varE 0) (consA (callE lenF (consA (varE 1) (nilA))) (nilA)))) (nilA)))))) (seqS (parS 9 10 (consA (callE srtMF (consA (callE listDF (consA (varE 3) (nilA))) (nilA))) (consA (mutE (nilA)) (nilA)))) (seqS (forS (callI range1F (consA (callE F__law_take (consA (varE 0) (consA (binE addD (varE 2) (cE (.int 1))) (nilA)))) (nilA))) (tgT (.nm 8)) (ifS (tstE (binE neMD (varE 9) (lstE (nilA)))) (exprS (methLE appF (varE 10) (consA (methLE popAtF (varE 9) (consA (callE F__law_take (consA (varE 0) (consA (callE lenF (consA (varE 9) (nilA))) (nilA)))) (nilA))) (nilA)))) (passS))) (retS (callE tupleF (consA (callE srtF (consA (varE 10) (nilA))) (nilA))))))))
def F__law_any_bag : FA := runF 3 11 B__law_any_bag
def B__law_lots_of : SvS := seqS (asgS (lstE (consA (tupE (nilA)) (nilA))) (nameT 1)) (seqS (forS (callI range1F (consA (varE 0) (nilA))) (tgT (.nm 2)) (asgS (binE addD (varE 1) (lcE (iterE (varE 1)) (.nm 3) (yesB) (binE addD (varE 3) (tupE (consA (varE 2) (nilA)))) [3])) (nameT 1))) (retS (varE 1)))
def F__law_lots_of : FA := runF 1 4 B__law_lots_of
def B__law_without : SvS := retS (callE tupleF (consA (lcE (callI range1F (consA (callE lenF (consA (varE 0) (nilA))) (nilA))) (.nm 2) (tstE (binE notInD (varE 2) (varE 1))) (binE ixD (varE 0) (varE 2)) [2]) (nilA)))
def F__law_without : FA := runF 2 3 B__law_without
def B__law_is_told : SvS := seqS (asgS (callE minF (consA (lcE (iterE (callE F__law_lots_of (consA (callE lenF (consA (varE 2) (nilA))) (nilA)))) (.nm 5) (tstE (callE F__law_is_row_v2 (consA (varE 1) (consA (callE F__law_without (consA (varE 2) (consA (varE 5) (nilA)))) (nilA))))) (callE lenF (consA (varE 5) (nilA))) [5]) (nilA))) (nameT 3)) (seqS (asgS (ifE (tstE (binE eqD (callE F__law_take (consA (varE 0) (consA (cE (.int 2)) (nilA)))) (cE (.int 0)))) (callE F_false_marks (consA (varE 1) (consA (varE 2) (nilA)))) (callKE F_false_marks nilA (consA (varE 2) (consA (varE 1) (nilA))) 0 2 [1, 0])) (nameT 4)) (seqS (ifS (orB (notB (tstE (unE (isiD .tup) (varE 4)))) (orB (notB (tstE (callE allF (consA (lcE (iterE (varE 4)) (.nm 6) (yesB) (andE (callE F__law_is_whole_v2 (consA (varE 6) (nilA))) (chainE leD ltD (cE (.int 0)) (varE 6) (callE lenF (consA (varE 2) (nilA))))) [6]) (nilA))))) (tstE (callE anyF (consA (lcE (callI range2F (consA (cE (.int 1)) (consA (callE lenF (consA (varE 4) (nilA))) (nilA)))) (.nm 7) (yesB) (binE leD (binE ixD (varE 4) (varE 7)) (binE ixD (varE 4) (binE subD (varE 7) (cE (.int 1))))) [7]) (nilA)))))) (retS (cE (.bl false))) (passS)) (seqS (ifS (orB (tstE (binE neD (callE lenF (consA (varE 4) (nilA))) (varE 3))) (orB (notB (tstE (callE F__law_is_row_v2 (consA (varE 1) (consA (callE F__law_without (consA (varE 2) (consA (varE 4) (nilA)))) (nilA)))))) (tstE (binE neD (binE addD (callE lenF (consA (callE F_longest_row (consA (varE 1) (consA (varE 2) (nilA)))) (nilA))) (varE 3)) (callE lenF (consA (varE 2) (nilA))))))) (retS (cE (.bl false))) (passS)) (retS (callE F__law_same_v2 (consA (lstE (consA (callE F_is_row (consA (varE 1) (consA (varE 2) (nilA)))) (consA (binE isND (callE F_wrong_mark (consA (varE 1) (consA (varE 2) (nilA)))) (cE .non)) (nilA)))) (consA (lstE (consA (binE eqD (varE 3) (cE (.int 0))) (consA (binE eqD (varE 3) (cE (.int 0))) (nilA)))) (nilA))))))))
def F__law_is_told : FA := runF 3 8 B__law_is_told
def B__law_right : SvS := seqS (forS (callI range1F (consA (cE (.int 10)) (nilA))) (tgT (.nm 1)) (seqS (asgS (callE F__law_track (consA (varE 0) (nilA))) (nameT 2)) (seqS (parS 3 4 (consA (callE F__law_any_bag (consA (varE 0) (consA (varE 2) (consA (cE (.int 9)) (nilA))))) (consA (cE (.int 0)) (nilA)))) (seqS (ifS (tstE (binE ltD (varE 1) (cE (.int 5)))) (seqS (asgS (callE F__law_course (consA (varE 0) (consA (varE 2) (consA (callE F__law_take (consA (varE 0) (consA (cE (.int 9)) (nilA)))) (consA (cE (.int 6)) (nilA)))))) (nameT 5)) (seqS (asgS (newEE) (nameT 6)) (seqS (forS (iterE (binE addD (varE 5) (callE tupleF (consA (lcE (callI range1F (consA (binE addD (cE (.int 1)) (callE F__law_take (consA (varE 0) (consA (cE (.int 3)) (nilA))))) (nilA))) (.nm 8) (yesB) (tupE (consA (callE F__law_take (consA (varE 0) (consA (cE (.int 200)) (nilA)))) (consA (callE F__law_take (consA (varE 0) (consA (callE lenF (consA (varE 2) (nilA))) (nilA)))) (nilA)))) [8]) (nilA))))) (tgT (.nm 7)) (putDS (cE (.bl true)) (varE 6) (varE 7))) (parS 3 4 (consA (callE tupleF (consA (callE srtF (consA (callE listDF (consA (varE 6) (nilA))) (nilA))) (nilA))) (consA (binE subD (callE lenDF (consA (varE 6) (nilA))) (callE lenF (consA (varE 5) (nilA)))) (nilA))))))) (passS)) (ifS (orB (notB (tstE (callE F__law_is_told (consA (varE 0) (consA (varE 2) (consA (varE 3) (nilA))))))) (andB (tstE (binE ltD (varE 1) (cE (.int 5)))) (tstE (binE gtD (callE lenF (consA (callE F_false_marks (consA (varE 2) (consA (varE 3) (nilA)))) (nilA))) (varE 4))))) (retS (cE (.bl false))) (passS)))))) (retS (cE (.bl true)))
def F__law_right : FA := runF 1 9 B__law_right
end Lap
namespace Lap
open PySem PySem.Spec PyProof.Rows L2 G
def B_gap_pace : SvS := retS (binE fdivD (binE subD (binE ixD (varE 2) (cE (.int 0))) (binE ixD (varE 1) (cE (.int 0)))) (callE F_steps_by (consA (callE F_even_track (consA (varE 0) (nilA))) (consA (binE ixD (varE 1) (cE (.int 1))) (consA (binE ixD (varE 2) (cE (.int 1))) (nilA))))))
def F_gap_pace : FA := runF 3 3 B_gap_pace
def B_gap_paces : SvS := seqS (asgS (mutE (nilA)) (nameT 2)) (seqS (forS (callI enumF (consA (varE 1) (nilA))) (tgT (.tp [.nm 3, .nm 4])) (forS (callI range1F (consA (binE subD (callE lenF (consA (varE 4) (nilA))) (cE (.int 1))) (nilA))) (tgT (.nm 5)) (exprS (methLE appF (varE 2) (consA (tupE (consA (callE F_gap_pace (consA (varE 0) (consA (binE ixD (varE 4) (varE 5)) (consA (binE ixD (varE 4) (binE addD (varE 5) (cE (.int 1)))) (nilA))))) (consA (tupE (consA (varE 3) (consA (varE 5) (nilA)))) (nilA)))) (nilA)))))) (retS (varE 2)))
def F_gap_paces : FA := runF 2 6 B_gap_paces
def B_pace_by : SvS := seqS (asgS (lcE (iterE (callE F_gap_paces (consA (varE 0) (consA (varE 1) (nilA))))) (.tp [.nm 3, .nm 4]) (yesB) (varE 3) [3, 4]) (nameT 2)) (retS (ifE (tstE (binE neD (varE 2) (lstE (nilA)))) (callE minF (consA (varE 2) (nilA))) (cE .non)))
def F_pace_by : FA := runF 2 5 B_pace_by
def B_pace : SvS := seqS (exprS (callE F_check_bags (consA (varE 0) (consA (varE 1) (nilA))))) (retS (callE F_pace_by (consA (varE 0) (consA (varE 1) (nilA)))))
def F_pace : FA := runF 2 2 B_pace
def B__law_paces : SvS := seqS (asgS (newEE) (nameT 2)) (seqS (forS (callI range1F (consA (callE lenF (consA (varE 1) (nilA))) (nilA))) (tgT (.nm 3)) (forS (callI range1F (consA (binE subD (callE lenF (consA (binE ixD (varE 1) (varE 3)) (nilA))) (cE (.int 1))) (nilA))) (tgT (.nm 4)) (seqS (asgS (tupE (consA (binE ixD (binE ixD (varE 1) (varE 3)) (varE 4)) (consA (binE ixD (binE ixD (varE 1) (varE 3)) (binE addD (varE 4) (cE (.int 1)))) (nilA)))) (tupT 2 (consT (tupT 2 (consT (nameT 5) (consT (nameT 6) (nilT)))) (consT (tupT 2 (consT (nameT 7) (consT (nameT 8) (nilT)))) (nilT))))) (putDS (binE fdivD (binE subD (varE 7) (varE 5)) (callE F__law_steps_v3 (consA (binE mulD (tupE (consA (cE (.int 1)) (nilA))) (varE 0)) (consA (varE 6) (consA (varE 8) (nilA)))))) (varE 2) (tupE (consA (varE 3) (consA (varE 4) (nilA)))))))) (retS (varE 2)))
def F__law_paces : FA := runF 2 9 B__law_paces
def B_tight_gap_by : SvS := seqS (asgS (callE F_gap_paces (consA (varE 0) (consA (varE 1) (nilA)))) (nameT 2)) (retS (ifE (tstE (binE neMD (varE 2) (lstE (nilA)))) (binE ixD (callE minNF (consA (varE 2) (nilA))) (cE (.int 1))) (cE .non)))
def F_tight_gap_by : FA := runF 2 3 B_tight_gap_by
def B_tight_gap : SvS := seqS (exprS (callE F_check_bags (consA (varE 0) (consA (varE 1) (nilA))))) (retS (callE F_tight_gap_by (consA (varE 0) (consA (varE 1) (nilA)))))
def F_tight_gap : FA := runF 2 2 B_tight_gap
def B__law_bags_right : SvS := seqS (asgS (callE F__law_paces (consA (varE 0) (consA (varE 1) (nilA)))) (nameT 2)) (seqS (asgS (ifE (tstE (unE neE0D (varE 2))) (callE minF (consA (lcTE (varE 2) (.nm 5) (yesB) (binE getDF (varE 2) (varE 5)) [5]) (nilA))) (cE .non)) (nameT 3)) (seqS (ifS (tstE (binE neD (callE reprF (consA (lstE (consA (callE F_pace (consA (varE 0) (consA (varE 1) (nilA)))) (consA (callKE F_pace nilA (consA (varE 1) (consA (varE 0) (nilA))) 0 2 [1, 0]) (nilA)))) (nilA))) (callE reprF (consA (lstE (consA (varE 3) (consA (varE 3) (nilA)))) (nilA))))) (retS (cE (.bl false))) (passS)) (seqS (forS (iterE (lstE (consA (callE F_tight_gap (consA (varE 0) (consA (varE 1) (nilA)))) (consA (callKE F_tight_gap nilA (consA (varE 1) (consA (varE 0) (nilA))) 0 2 [1, 0]) (nilA))))) (tgT (.nm 4)) (ifS (orB (tstE (binE neD (binE isND (varE 4) (cE .non)) (binE isND (varE 3) (cE .non)))) (andB (tstE (binE notND (varE 4) (cE .non))) (orB (notB (tstE (unE (isiD .tup) (varE 4)))) (orB (tstE (binE notInDD (varE 4) (varE 2))) (tstE (binE neD (binE getDF (varE 2) (varE 4)) (varE 3))))))) (retS (cE (.bl false))) (passS))) (seqS (ifS (tstE (binE isND (varE 3) (cE .non))) (retS (cE (.bl true))) (passS)) (seqS (ifS (andB (tstE (binE gtD (varE 3) (cE (.int 0)))) (tstE (binE neD (lcE (iterE (varE 1)) (.nm 6) (tstE (binE notBD (callE F_is_row (consA (binE mulD (tupE (consA (varE 3) (nilA))) (varE 0)) (consA (varE 6) (nilA)))) (cE (.bl true)))) (varE 6) [6]) (lstE (nilA))))) (retS (cE (.bl false))) (passS)) (retS (binE neD (lcE (iterE (varE 1)) (.nm 6) (tstE (binE notBD (callE F_is_row (consA (binE mulD (tupE (consA (binE addD (varE 3) (cE (.int 1))) (nilA))) (varE 0)) (consA (varE 6) (nilA)))) (cE (.bl true)))) (varE 6) [6]) (lstE (nilA)))))))))
def F__law_bags_right : FA := runF 2 7 B__law_bags_right
end Lap
namespace K71
open PySem PySem.Spec PyProof.Rows L2 G Lap
set_option maxHeartbeats 4000000
def topS (i : Nat) : Stmt := PySem.Challenge.pw_lapmats_k71_whole_paces_and_tight_gaps.main.body.getD i (.Pass ⟨0, 0, 0, 0⟩)
structure Bt (mg : Str → Option Value) : Prop where
  list : mg "list" = none
  sum : mg "sum" = none
  len : mg "len" = none
  divmod : mg "divmod" = none
  range : mg "range" = none
  isinstance : mg "isinstance" = none
  int : mg "int" = none
  bool : mg "bool" = none
  tuple : mg "tuple" = none
  MOST_MATS : ∃ t, mg "MOST_MATS" = some (.int 8 t)
  all : mg "all" = none
  MOST_MARKS : ∃ t, mg "MOST_MARKS" = some (.int 30 t)
  enumerate : mg "enumerate" = none
  MOST_RUNNERS : ∃ t, mg "MOST_RUNNERS" = some (.int 6 t)
  min : mg "min" = none
  abs : mg "abs" = none
  sorted : mg "sorted" = none
  repr : mg "repr" = none
  max : mg "max" = none
structure Xt (K : PySem.W.Frag) (mg : Str → Option Value) : Prop where
  ns : ∀ x v, PySem.W.nsIn K mainGlobals x = some (some v) → mg x = some v
  r_InvalidBag : RX K mg "InvalidBag" "index"
  r_InvalidBags : RX K mg "InvalidBags" "index"
  r_InvalidNumber : RX K mg "InvalidNumber" "given"
  r_InvalidTrack : RX K mg "InvalidTrack" "given"
abbrev s_round_by : Stmt := topS 7
theorem sc_round_by : FnScope ["track"] ["track"] (defScope s_round_by) := ⟨rfl, rfl, rfl, by decide +kernel, rfl, by decide +kernel, by decide +kernel⟩
abbrev s_sectors_from : Stmt := topS 8
theorem sc_sectors_from : FnScope ["track", "mat"] ["track", "mat"] (defScope s_sectors_from) := ⟨rfl, rfl, rfl, by decide +kernel, rfl, by decide +kernel, by decide +kernel⟩
abbrev s_reach_by : Stmt := topS 9
theorem sc_reach_by : FnScope ["track", "mat", "number", "rounds", "rest"] ["track", "mat", "number"] (defScope s_reach_by) := ⟨rfl, rfl, rfl, by decide +kernel, rfl, by decide +kernel, by decide +kernel⟩
abbrev s_steps_by : Stmt := topS 10
theorem sc_steps_by : FnScope ["track", "one", "other"] ["track", "one", "other"] (defScope s_steps_by) := ⟨rfl, rfl, rfl, by decide +kernel, rfl, by decide +kernel, by decide +kernel⟩
abbrev s_way_by : Stmt := topS 11
theorem sc_way_by : FnScope ["track", "one", "other"] ["track", "one", "other"] (defScope s_way_by) := ⟨rfl, rfl, rfl, by decide +kernel, rfl, by decide +kernel, by decide +kernel⟩
abbrev s_can_follow_by : Stmt := topS 13
theorem sc_can_follow_by : FnScope ["track", "mark", "other"] ["track", "mark", "other"] (defScope s_can_follow_by) := ⟨rfl, rfl, rfl, by decide +kernel, rfl, by decide +kernel, by decide +kernel⟩
abbrev s_wrong_marks_by : Stmt := topS 14
theorem sc_wrong_marks_by : FnScope ["track", "bag", "at"] ["track", "bag"] (defScope s_wrong_marks_by) := ⟨rfl, rfl, rfl, by decide +kernel, rfl, by decide +kernel, by decide +kernel⟩
abbrev s_is_row_by : Stmt := topS 15
theorem sc_is_row_by : FnScope ["track", "bag"] ["track", "bag"] (defScope s_is_row_by) := ⟨rfl, rfl, rfl, by decide +kernel, rfl, by decide +kernel, by decide +kernel⟩
abbrev s_is_whole : Stmt := topS 17
theorem sc_is_whole : FnScope ["value"] ["value"] (defScope s_is_whole) := ⟨rfl, rfl, rfl, by decide +kernel, rfl, by decide +kernel, by decide +kernel⟩
abbrev s_is_between : Stmt := topS 18
theorem sc_is_between : FnScope ["value", "low", "high"] ["value", "low", "high"] (defScope s_is_between) := ⟨rfl, rfl, rfl, by decide +kernel, rfl, by decide +kernel, by decide +kernel⟩
abbrev s_is_up_to : Stmt := topS 19
theorem sc_is_up_to : FnScope ["value", "most"] ["value", "most"] (defScope s_is_up_to) := ⟨rfl, rfl, rfl, by decide +kernel, rfl, by decide +kernel, by decide +kernel⟩
abbrev s_is_from : Stmt := topS 20
theorem sc_is_from : FnScope ["value", "least"] ["value", "least"] (defScope s_is_from) := ⟨rfl, rfl, rfl, by decide +kernel, rfl, by decide +kernel, by decide +kernel⟩
abbrev s_is_tuple_up_to : Stmt := topS 21
theorem sc_is_tuple_up_to : FnScope ["value", "low", "high"] ["value", "low", "high"] (defScope s_is_tuple_up_to) := ⟨rfl, rfl, rfl, by decide +kernel, rfl, by decide +kernel, by decide +kernel⟩
abbrev s_is_tuple_of : Stmt := topS 22
theorem sc_is_tuple_of : FnScope ["value", "many"] ["value", "many"] (defScope s_is_tuple_of) := ⟨rfl, rfl, rfl, by decide +kernel, rfl, by decide +kernel, by decide +kernel⟩
abbrev s_is_pair : Stmt := topS 23
theorem sc_is_pair : FnScope ["value"] ["value"] (defScope s_is_pair) := ⟨rfl, rfl, rfl, by decide +kernel, rfl, by decide +kernel, by decide +kernel⟩
abbrev s_is_track_of : Stmt := topS 28
theorem sc_is_track_of : FnScope ["value", "each"] ["value"] (defScope s_is_track_of) := ⟨rfl, rfl, rfl, by decide +kernel, rfl, by decide +kernel, by decide +kernel⟩
abbrev s_is_mat_of : Stmt := topS 29
theorem sc_is_mat_of : FnScope ["track", "value"] ["track", "value"] (defScope s_is_mat_of) := ⟨rfl, rfl, rfl, by decide +kernel, rfl, by decide +kernel, by decide +kernel⟩
abbrev s_is_mark_of : Stmt := topS 30
theorem sc_is_mark_of : FnScope ["track", "value"] ["track", "value"] (defScope s_is_mark_of) := ⟨rfl, rfl, rfl, by decide +kernel, rfl, by decide +kernel, by decide +kernel⟩
abbrev s_wrong_in_bag : Stmt := topS 31
theorem sc_wrong_in_bag : FnScope ["track", "value", "index", "mark"] ["track", "value"] (defScope s_wrong_in_bag) := ⟨rfl, rfl, rfl, by decide +kernel, rfl, by decide +kernel, by decide +kernel⟩
abbrev s_is_bag_of : Stmt := topS 32
theorem sc_is_bag_of : FnScope ["track", "value"] ["track", "value"] (defScope s_is_bag_of) := ⟨rfl, rfl, rfl, by decide +kernel, rfl, by decide +kernel, by decide +kernel⟩
abbrev s_check_track : Stmt := topS 33
theorem sc_check_track : FnScope ["track"] ["track"] (defScope s_check_track) := ⟨rfl, rfl, rfl, by decide +kernel, rfl, by decide +kernel, by decide +kernel⟩
abbrev s_check_bag : Stmt := topS 34
theorem sc_check_bag : FnScope ["track", "bag", "index"] ["track", "bag"] (defScope s_check_bag) := ⟨rfl, rfl, rfl, by decide +kernel, rfl, by decide +kernel, by decide +kernel⟩
abbrev s_is_mat_count : Stmt := topS 36
theorem sc_is_mat_count : FnScope ["value"] ["value"] (defScope s_is_mat_count) := ⟨rfl, rfl, rfl, by decide +kernel, rfl, by decide +kernel, by decide +kernel⟩
abbrev s_even_track : Stmt := topS 37
theorem sc_even_track : FnScope ["mats"] ["mats"] (defScope s_even_track) := ⟨rfl, rfl, rfl, by decide +kernel, rfl, by decide +kernel, by decide +kernel⟩
abbrev s_wrong_in_bags : Stmt := topS 38
theorem sc_wrong_in_bags : FnScope ["mats", "value", "index", "each"] ["mats", "value"] (defScope s_wrong_in_bags) := ⟨rfl, rfl, rfl, by decide +kernel, rfl, by decide +kernel, by decide +kernel⟩
abbrev s_gap_pace : Stmt := topS 39
theorem sc_gap_pace : FnScope ["mats", "one", "two"] ["mats", "one", "two"] (defScope s_gap_pace) := ⟨rfl, rfl, rfl, by decide +kernel, rfl, by decide +kernel, by decide +kernel⟩
abbrev s_gap_paces : Stmt := topS 40
theorem sc_gap_paces : FnScope ["mats", "bags", "found", "index", "bag", "gap"] ["mats", "bags"] (defScope s_gap_paces) := ⟨rfl, rfl, rfl, by decide +kernel, rfl, by decide +kernel, by decide +kernel⟩
abbrev s_pace_by : Stmt := topS 41
theorem sc_pace_by : FnScope ["mats", "bags", "paces", "pace", "gap"] ["mats", "bags"] (defScope s_pace_by) := ⟨rfl, rfl, rfl, by decide +kernel, rfl, by decide +kernel, by decide +kernel⟩
abbrev s_tight_gap_by : Stmt := topS 42
theorem sc_tight_gap_by : FnScope ["mats", "bags", "paces"] ["mats", "bags"] (defScope s_tight_gap_by) := ⟨rfl, rfl, rfl, by decide +kernel, rfl, by decide +kernel, by decide +kernel⟩
abbrev s_check_bags : Stmt := topS 44
theorem sc_check_bags : FnScope ["mats", "bags", "index"] ["mats", "bags"] (defScope s_check_bags) := ⟨rfl, rfl, rfl, by decide +kernel, rfl, by decide +kernel, by decide +kernel⟩
abbrev s_pace : Stmt := topS 45
theorem sc_pace : FnScope ["mats", "bags"] ["mats", "bags"] (defScope s_pace) := ⟨rfl, rfl, rfl, by decide +kernel, rfl, by decide +kernel, by decide +kernel⟩
abbrev s_tight_gap : Stmt := topS 46
theorem sc_tight_gap : FnScope ["mats", "bags"] ["mats", "bags"] (defScope s_tight_gap) := ⟨rfl, rfl, rfl, by decide +kernel, rfl, by decide +kernel, by decide +kernel⟩
abbrev s_check_tracked : Stmt := topS 48
theorem sc_check_tracked : FnScope ["track", "bag"] ["track", "bag"] (defScope s_check_tracked) := ⟨rfl, rfl, rfl, by decide +kernel, rfl, by decide +kernel, by decide +kernel⟩
abbrev s_is_row : Stmt := topS 49
theorem sc_is_row : FnScope ["track", "bag"] ["track", "bag"] (defScope s_is_row) := ⟨rfl, rfl, rfl, by decide +kernel, rfl, by decide +kernel, by decide +kernel⟩
abbrev s__law_pool : Stmt := topS 51
theorem sc__law_pool : FnScope ["script", "turn", "own", "stirred", "cell"] ["script", "turn"] (defScope s__law_pool) := ⟨rfl, rfl, rfl, by decide +kernel, rfl, by decide +kernel, by decide +kernel⟩
def B__law_pool : SvS := seqS (parS 2 3 (consA (ifE (tstE (binE ltD (varE 1) (callE lenF (consA (varE 0) (nilA))))) (callE intF (consA (binE ixD (varE 0) (varE 1)) (nilA))) (binE addD (binE mulD (cE (.int 70001)) (varE 1)) (cE (.int 1276)))) (consA (binE addD (cE (.int 414418)) (binE mulD (cE (.int 5087)) (varE 1))) (nilA)))) (seqS (forS (iterE (sliceE (varE 0) (noO) (someO (cE (.int 63))))) (tgT (.nm 4)) (asgS (binE modD (callE intF (consA (binE addD (binE addD (binE mulD (varE 3) (cE (.int 48271))) (binE modD (callE intF (consA (varE 4) (nilA))) (cE (.int 2147483647)))) (cE (.int 251))) (nilA))) (cE (.int 2147483647))) (nameT 3))) (retS (mutE (consA (binE modD (callE intF (consA (binE addD (varE 3) (binE mulD (varE 2) (cE (.int 1013)))) (nilA))) (cE (.int 2147483647))) (consA (ifE (orB (tstE (binE ltD (varE 2) (cE (.int 0)))) (tstE (binE geD (varE 2) (binE powD (cE (.int 10)) (cE (.int 18)))))) (callE absF (consA (varE 2) (nilA))) (cE (.int 0))) (consA (cE (.int 0)) (nilA)))))))
def F__law_pool : FA := runF 2 5 B__law_pool
abbrev s__law_draw : Stmt := topS 52
theorem sc__law_draw : FnScope ["pool", "many", "figure", "held"] ["pool", "many"] (defScope s__law_draw) := ⟨rfl, rfl, rfl, by decide +kernel, rfl, by decide +kernel, by decide +kernel⟩
def B__law_draw : SvS := seqS (ifS (tstE (binE gtD (binE ixD (varE 0) (cE (.int 1))) (cE (.int 0)))) (seqS (asgS (callE divmodF (consA (binE ixD (varE 0) (cE (.int 1))) (consA (varE 1) (nilA)))) (tupT 2 (consT (subT (varE 0) (cE (.int 1))) (consT (nameT 2) (nilT))))) (retS (varE 2))) (passS)) (seqS (asgS (binE addD (binE ixD (varE 0) (cE (.int 2))) (cE (.int 1))) (subT (varE 0) (cE (.int 2)))) (seqS (asgS (callE intF (consA (binE ixD (varE 0) (cE (.int 0))) (nilA))) (nameT 3)) (seqS (asgS (binE modD (callE intF (consA (binE addD (binE addD (binE mulD (varE 3) (binE addD (binE modD (varE 3) (cE (.int 20011))) (cE (.int 30011)))) (binE mulD (cE (.int 70001)) (binE ixD (varE 0) (cE (.int 2))))) (cE (.int 9))) (nilA))) (cE (.int 2147483647))) (subT (varE 0) (cE (.int 0)))) (retS (binE modD (callE intF (consA (binE fdivD (binE ixD (varE 0) (cE (.int 0))) (cE (.int 128))) (nilA))) (varE 1))))))
def F__law_draw : FA := runF 2 4 B__law_draw
abbrev s__law_pick : Stmt := topS 53
theorem sc__law_pick : FnScope ["pool", "some"] ["pool", "some"] (defScope s__law_pick) := ⟨rfl, rfl, rfl, by decide +kernel, rfl, by decide +kernel, by decide +kernel⟩
def B__law_pick : SvS := retS (binE ixD (varE 1) (callE F__law_draw (consA (varE 0) (consA (callE lenF (consA (varE 1) (nilA))) (nilA)))))
def F__law_pick : FA := runF 2 2 B__law_pick
abbrev s__law_way : Stmt := topS 54
theorem sc__law_way : FnScope ["track", "one", "two", "found", "step", "here"] ["track", "one", "two"] (defScope s__law_way) := ⟨rfl, rfl, rfl, by decide +kernel, rfl, by decide +kernel, by decide +kernel⟩
abbrev s__law_steps : Stmt := topS 55
theorem sc__law_steps : FnScope ["track", "one", "two", "found"] ["track", "one", "two"] (defScope s__law_steps) := ⟨rfl, rfl, rfl, by decide +kernel, rfl, by decide +kernel, by decide +kernel⟩
abbrev s__law_drawn_row : Stmt := topS 56
theorem sc__law_drawn_row : FnScope ["pool", "track", "start", "many", "found", "here", "high", "step", "mat", "later"] ["pool", "track", "start", "many"] (defScope s__law_drawn_row) := ⟨rfl, rfl, rfl, by decide +kernel, rfl, by decide +kernel, by decide +kernel⟩
def B__law_drawn_row : SvS := seqS (parS3 4 5 6 (consA (mutE (nilA)) (consA (varE 2) (consA (callE F__law_pick (consA (varE 0) (consA (lstE (consA (cE (.int 1)) (consA (cE (.int 3)) (consA (binE mulD (cE (.int 2)) (callE sumF (consA (varE 1) (nilA)))) (nilA))))) (nilA)))) (nilA))))) (seqS (forS (callI range1F (consA (varE 3) (nilA))) (tgT (.nm 7)) (seqS (asgS (callE F__law_draw (consA (varE 0) (consA (callE lenF (consA (varE 1) (nilA))) (nilA)))) (nameT 8)) (seqS (asgS (binE addD (binE addD (binE ixD (varE 5) (cE (.int 0))) (callE F__law_way_v2 (consA (varE 1) (consA (binE ixD (varE 5) (cE (.int 1))) (consA (varE 8) (nilA)))))) (callE F__law_pick (consA (varE 0) (consA (lstE (consA (cE (.int 0)) (consA (callE F__law_draw (consA (varE 0) (consA (varE 6) (nilA)))) (consA (binE mulD (callE sumF (consA (varE 1) (nilA))) (callE F__law_draw (consA (varE 0) (consA (cE (.int 3)) (nilA))))) (nilA))))) (nilA))))) (nameT 9)) (seqS (asgS (tupE (consA (varE 9) (consA (varE 8) (nilA)))) (nameT 5)) (exprS (methLE appF (varE 4) (consA (varE 5) (nilA)))))))) (retS (callE tupleF (consA (varE 4) (nilA)))))
def F__law_drawn_row : FA := runF 4 10 B__law_drawn_row
abbrev s__law_drawn_bag : Stmt := topS 57
theorem sc__law_drawn_bag : FnScope ["pool", "track", "many", "found", "high", "step"] ["pool", "track", "many"] (defScope s__law_drawn_bag) := ⟨rfl, rfl, rfl, by decide +kernel, rfl, by decide +kernel, by decide +kernel⟩
def B__law_drawn_bag : SvS := seqS (parS 3 4 (consA (newTE) (consA (callE F__law_pick (consA (varE 0) (consA (lstE (consA (cE (.int 3)) (consA (cE (.int 20)) (consA (binE mulD (cE (.int 5)) (callE sumF (consA (varE 1) (nilA)))) (nilA))))) (nilA)))) (nilA)))) (seqS (forS (callI range1F (consA (varE 2) (nilA))) (tgT (.nm 5)) (putTS (cE (.bl true)) (varE 3) (consA (callE F__law_draw (consA (varE 0) (consA (varE 4) (nilA)))) (consA (callE F__law_draw (consA (varE 0) (consA (callE lenF (consA (varE 1) (nilA))) (nilA)))) (nilA))))) (retS (callE tupleF (consA (callE srtF (consA (callE listTF (consA (varE 3) (nilA))) (nilA))) (nilA)))))
def F__law_drawn_bag : FA := runF 3 6 B__law_drawn_bag
abbrev s__law_paces : Stmt := topS 58
theorem sc__law_paces : FnScope ["many", "bags", "found", "k", "at", "time", "one", "later", "two"] ["many", "bags"] (defScope s__law_paces) := ⟨rfl, rfl, rfl, by decide +kernel, rfl, by decide +kernel, by decide +kernel⟩
abbrev s__law_bags_right : Stmt := topS 59
theorem sc__law_bags_right : FnScope ["many", "bags", "all_paces", "due", "told", "key", "bag"] ["many", "bags"] (defScope s__law_bags_right) := ⟨rfl, rfl, rfl, by decide +kernel, rfl, by decide +kernel, by decide +kernel⟩
abbrev s__law_right : Stmt := topS 60
theorem sc__law_right : FnScope ["pool", "turn", "many", "even", "some", "bags", "told", "lap"] ["pool"] (defScope s__law_right) := ⟨rfl, rfl, rfl, by decide +kernel, rfl, by decide +kernel, by decide +kernel⟩
def B__law_right : SvS := seqS (forS (callI range1F (consA (cE (.int 7)) (nilA))) (tgT (.nm 1)) (seqS (asgS (binE addD (cE (.int 1)) (callE F__law_draw (consA (varE 0) (consA (cE (.int 8)) (nilA))))) (nameT 2)) (seqS (asgS (binE mulD (tupE (consA (binE addD (cE (.int 1)) (callE F__law_draw (consA (varE 0) (consA (callE F__law_pick (consA (varE 0) (consA (lstE (consA (cE (.int 3)) (consA (cE (.int 40)) (consA (binE powD (cE (.int 10)) (cE (.int 27))) (nilA))))) (nilA)))) (nilA))))) (nilA))) (varE 2)) (nameT 3)) (seqS (asgS (lcE (callI range1F (consA (binE addD (cE (.int 1)) (callE F__law_draw (consA (varE 0) (consA (cE (.int 4)) (nilA))))) (nilA))) (.nm 7) (yesB) (callE F__law_drawn_row (consA (varE 0) (consA (varE 3) (consA (tupE (consA (callE F__law_draw (consA (varE 0) (consA (cE (.int 9)) (nilA)))) (consA (cE (.int 0)) (nilA)))) (consA (binE addD (cE (.int 1)) (callE F__law_draw (consA (varE 0) (consA (cE (.int 6)) (nilA))))) (nilA)))))) [7]) (nameT 4)) (forS (iterE (lstE (consA (callE tupleF (consA (varE 4) (nilA))) (consA (callE tupleF (consA (binE addD (varE 4) (lstE (consA (tupE (nilA)) (nilA)))) (nilA))) (consA (callE tupleF (consA (binE addD (varE 4) (lstE (consA (callE F__law_drawn_bag (consA (varE 0) (consA (varE 3) (consA (cE (.int 4)) (nilA))))) (nilA)))) (nilA))) (consA (tupE (consA (tupE (nilA)) (consA (tupE (consA (tupE (consA (cE (.int 7)) (consA (cE (.int 0)) (nilA)))) (nilA))) (nilA)))) (consA (tupE (consA (tupE (nilA)) (nilA))) (nilA)))))))) (tgT (.nm 5)) (ifS (notB (tstE (callE F__law_bags_right (consA (varE 2) (consA (varE 5) (nilA)))))) (retS (cE (.bl false))) (passS))))))) (seqS (asgS (lstE (consA (callE F_pace (consA (cE (.int 3)) (consA (tupE (consA (tupE (consA (tupE (consA (cE (.int 0)) (consA (cE (.int 0)) (nilA)))) (consA (tupE (consA (cE (.int 15)) (consA (cE (.int 1)) (nilA)))) (consA (tupE (consA (cE (.int 70)) (consA (cE (.int 0)) (nilA)))) (nilA))))) (nilA))) (nilA)))) (consA (callE F_tight_gap (consA (cE (.int 3)) (consA (tupE (consA (tupE (consA (tupE (consA (cE (.int 0)) (consA (cE (.int 0)) (nilA)))) (consA (tupE (consA (cE (.int 15)) (consA (cE (.int 1)) (nilA)))) (consA (tupE (consA (cE (.int 70)) (consA (cE (.int 0)) (nilA)))) (nilA))))) (nilA))) (nilA)))) (consA (callE F_pace (consA (cE (.int 2)) (consA (tupE (consA (tupE (consA (tupE (consA (cE (.int 0)) (consA (cE (.int 0)) (nilA)))) (nilA))) (consA (tupE (nilA)) (nilA)))) (nilA)))) (consA (callE F_pace (consA (cE (.int 2)) (consA (tupE (consA (tupE (consA (tupE (consA (cE (.int 0)) (consA (cE (.int 0)) (nilA)))) (consA (tupE (consA (cE (.int 1)) (consA (cE (.int 0)) (nilA)))) (nilA)))) (nilA))) (nilA)))) (nilA)))))) (nameT 6)) (retS (binE eqD (varE 6) (lstE (consA (cE (.int 15)) (consA (tupE (consA (cE (.int 0)) (consA (cE (.int 0)) (nilA)))) (consA (cE .non) (consA (cE (.int 0)) (nilA)))))))))
def F__law_right : FA := runF 1 8 B__law_right
abbrev s_law : Stmt := topS 61
theorem sc_law : FnScope ["script", "turn"] ["script"] (defScope s_law) := ⟨rfl, rfl, rfl, by decide +kernel, rfl, by decide +kernel, by decide +kernel⟩
def B_law : SvS := seqS (forS (callI range1F (consA (callE maxF (consA (cE (.int 2)) (consA (callE minF (consA (callE lenF (consA (varE 0) (nilA))) (consA (cE (.int 3)) (nilA)))) (nilA)))) (nilA))) (tgT (.nm 1)) (ifS (notB (tstE (callE F__law_right (consA (callE F__law_pool (consA (varE 0) (consA (varE 1) (nilA)))) (nilA))))) (retS (cE (.bl false))) (passS))) (retS (cE (.bl true)))
def F_law : FA := runF 1 2 B_law
section
variable {P : Program} {w : World} {K : PySem.W.Frag} {mg : Str → Option Value} {base : Heap}
theorem ok_round_by (T : Bt mg) (XX : Xt K mg) (S : Std K mg "round_by" "round_by" s_round_by) : Kn P w K mg base "round_by" s_round_by ["track"] 1 F_round_by := by
  refine kn_of (N := ["track"]) (k := 0) (B := B_round_by) S sc_round_by rfl rfl (fun _ _ _ _ _ _ us hl => match us, hl with | [_], _ => rfl) fun f cdv A outer s' H E hr => ?_
  have nd := sc_round_by.nd
  have tk : Takes (cxOf (L2.CX P w) P w K mg base ["track"] "round_by" (defScope s_round_by) f cdv A outer s' H E) (Wd E) := takes_of rfl rfl rfl rfl
  exact s_one (s_ret (g_blt (pe_callB (cq_sum rfl) (by rfl) T.sum bt_sum (g_cons (g_blt (pe_callTy call_list_of (by rfl) T.list bt_list (g_cons (g_var 0 (pv 0)) (g_nil) rfl)) v_list) (g_nil) rfl)) v_sum))
theorem ok_sectors_from (T : Bt mg) (XX : Xt K mg) (S : Std K mg "sectors_from" "sectors_from" s_sectors_from) : Kn P w K mg base "sectors_from" s_sectors_from ["track", "mat"] 1 F_sectors_from := by
  refine kn_of (N := ["track", "mat"]) (k := 0) (B := B_sectors_from) S sc_sectors_from rfl rfl (fun _ _ _ _ _ _ us hl => match us, hl with | [_, _], _ => rfl) fun f cdv A outer s' H E hr => ?_
  have nd := sc_sectors_from.nd
  have tk : Takes (cxOf (L2.CX P w) P w K mg base ["track", "mat"] "sectors_from" (defScope s_sectors_from) f cdv A outer s' H E) (Wd E) := takes_of rfl rfl rfl rfl
  exact s_one (s_ret (g_lst (g_star (g_slice (g_var 0 (pv 0)) (g_some (g_var 1 (pv 1))) (g_no)) (g_star (g_slice (g_var 0 (pv 0)) (g_no) (g_some (g_var 1 (pv 1)))) (g_nil) rfl) rfl)))
theorem ok_reach_by (T : Bt mg) (XX : Xt K mg) (S : Std K mg "reach_by" "reach_by" s_reach_by) (c_round_by : Kn P w K mg base "round_by" s_round_by ["track"] 1 F_round_by) (c_sectors_from : Kn P w K mg base "sectors_from" s_sectors_from ["track", "mat"] 1 F_sectors_from) : Kn P w K mg base "reach_by" s_reach_by ["track", "mat", "number"] 2 F_reach_by := by
  refine kn_of (N := ["track", "mat", "number", "rounds", "rest"]) (k := 1) (B := B_reach_by) S sc_reach_by rfl rfl (fun _ _ _ _ _ _ us hl => match us, hl with | [_, _, _], _ => rfl) fun f cdv A outer s' H E hr => ?_
  have nd := sc_reach_by.nd
  have tk : Takes (cxOf (L2.CX P w) P w K mg base ["track", "mat", "number", "rounds", "rest"] "reach_by" (defScope s_reach_by) f cdv A outer s' H E) (Wd E) := takes_of rfl rfl rfl rfl
  exact s_cons (s_asg (ps_asg (g_blt (pe_callB c_divmod (by rfl) T.divmod bt_divmod (g_cons (g_var 2 (pv 2)) (g_cons (g_blt (pe_callB c_len (by rfl) T.len bt_len (g_cons (g_var 0 (pv 0)) (g_nil) rfl)) v_len) (g_nil) rfl) rfl)) v_divmod) (t_tup (pg_tup rfl (t_cons (t_name (pg_name (i := 3) nd rfl (.inl rfl))) (t_cons (t_name (pg_name (i := 4) nd rfl (.inl rfl))) (t_nil) rfl) rfl))))) (s_one (s_ret (g_op o_add v_add (g_op o_mul v_mul (g_var 3 (pv 3)) (g_calln c_round_by (hr.mono (by decide)) (by rfl) tk (g_cons (g_var 0 (pv 0)) (g_nil) rfl) (by decide) rfl rfl)) (g_blt (pe_callB (cq_sum rfl) (by rfl) T.sum bt_sum (g_cons (g_slice (g_calln c_sectors_from (hr.mono (by decide)) (by rfl) tk (g_cons (g_var 0 (pv 0)) (g_cons (g_var 1 (pv 1)) (g_nil) rfl) rfl) (by decide) rfl rfl) (g_no) (g_some (g_var 4 (pv 4)))) (g_nil) rfl)) v_sum))))
theorem ok_steps_by (T : Bt mg) (XX : Xt K mg) (S : Std K mg "steps_by" "steps_by" s_steps_by) : Kn P w K mg base "steps_by" s_steps_by ["track", "one", "other"] 1 F_steps_by := by
  refine kn_of (N := ["track", "one", "other"]) (k := 0) (B := B_steps_by) S sc_steps_by rfl rfl (fun _ _ _ _ _ _ us hl => match us, hl with | [_, _, _], _ => rfl) fun f cdv A outer s' H E hr => ?_
  have nd := sc_steps_by.nd
  have tk : Takes (cxOf (L2.CX P w) P w K mg base ["track", "one", "other"] "steps_by" (defScope s_steps_by) f cdv A outer s' H E) (Wd E) := takes_of rfl rfl rfl rfl
  exact s_one (s_ret (g_op o_add v_add (g_op op_mod v_mod (g_op op_sub v_sub (g_op op_sub v_sub (g_var 2 (pv 2)) (g_var 1 (pv 1))) (g_int)) (g_blt (pe_callB c_len (by rfl) T.len bt_len (g_cons (g_var 0 (pv 0)) (g_nil) rfl)) v_len)) (g_int)))
theorem ok_way_by (T : Bt mg) (XX : Xt K mg) (S : Std K mg "way_by" "way_by" s_way_by) (c_reach_by : Kn P w K mg base "reach_by" s_reach_by ["track", "mat", "number"] 2 F_reach_by) (c_steps_by : Kn P w K mg base "steps_by" s_steps_by ["track", "one", "other"] 1 F_steps_by) : Kn P w K mg base "way_by" s_way_by ["track", "one", "other"] 3 F_way_by := by
  refine kn_of (N := ["track", "one", "other"]) (k := 2) (B := B_way_by) S sc_way_by rfl rfl (fun _ _ _ _ _ _ us hl => match us, hl with | [_, _, _], _ => rfl) fun f cdv A outer s' H E hr => ?_
  have nd := sc_way_by.nd
  have tk : Takes (cxOf (L2.CX P w) P w K mg base ["track", "one", "other"] "way_by" (defScope s_way_by) f cdv A outer s' H E) (Wd E) := takes_of rfl rfl rfl rfl
  exact s_one (s_ret (g_calln c_reach_by (hr.mono (by decide)) (by rfl) tk (g_cons (g_var 0 (pv 0)) (g_cons (g_var 1 (pv 1)) (g_cons (g_calln c_steps_by (hr.mono (by decide)) (by rfl) tk (g_cons (g_var 0 (pv 0)) (g_cons (g_var 1 (pv 1)) (g_cons (g_var 2 (pv 2)) (g_nil) rfl) rfl) rfl) (by decide) rfl rfl) (g_nil) rfl) rfl) rfl) (by decide) rfl rfl))
theorem ok_can_follow_by (T : Bt mg) (XX : Xt K mg) (S : Std K mg "can_follow_by" "can_follow_by" s_can_follow_by) (c_way_by : Kn P w K mg base "way_by" s_way_by ["track", "one", "other"] 3 F_way_by) : Kn P w K mg base "can_follow_by" s_can_follow_by ["track", "mark", "other"] 4 F_can_follow_by := by
  refine kn_of (N := ["track", "mark", "other"]) (k := 3) (B := B_can_follow_by) S sc_can_follow_by rfl rfl (fun _ _ _ _ _ _ us hl => match us, hl with | [_, _, _], _ => rfl) fun f cdv A outer s' H E hr => ?_
  have nd := sc_can_follow_by.nd
  have tk : Takes (cxOf (L2.CX P w) P w K mg base ["track", "mark", "other"] "can_follow_by" (defScope s_can_follow_by) f cdv A outer s' H E) (Wd E) := takes_of rfl rfl rfl rfl
  exact s_one (s_ret (g_cmp op_ge (v_cmpI _) (g_op op_sub v_sub (g_ix (g_var 1 (pv 1)) (g_int) (fun _ _ => rfl)) (g_ix (g_var 2 (pv 2)) (g_int) (fun _ _ => rfl))) (g_calln c_way_by (hr.mono (by decide)) (by rfl) tk (g_cons (g_var 0 (pv 0)) (g_cons (g_ix (g_var 2 (pv 2)) (g_int) (fun _ _ => rfl)) (g_cons (g_ix (g_var 1 (pv 1)) (g_int) (fun _ _ => rfl)) (g_nil) rfl) rfl) rfl) (by decide) rfl rfl) (nomark _)))
theorem ok_wrong_marks_by (T : Bt mg) (XX : Xt K mg) (S : Std K mg "wrong_marks_by" "wrong_marks_by" s_wrong_marks_by) (c_can_follow_by : Kn P w K mg base "can_follow_by" s_can_follow_by ["track", "mark", "other"] 4 F_can_follow_by) : Kn P w K mg base "wrong_marks_by" s_wrong_marks_by ["track", "bag"] 5 F_wrong_marks_by := by
  refine kn_of (N := ["track", "bag", "at"]) (k := 4) (B := B_wrong_marks_by) S sc_wrong_marks_by rfl rfl (fun _ _ _ _ _ _ us hl => match us, hl with | [_, _], _ => rfl) fun f cdv A outer s' H E hr => ?_
  have nd := sc_wrong_marks_by.nd
  have tk : Takes (cxOf (L2.CX P w) P w K mg base ["track", "bag", "at"] "wrong_marks_by" (defScope s_wrong_marks_by) f cdv A outer s' H E) (Wd E) := takes_of rfl rfl rfl rfl
  exact s_one (s_ret (g_lc (by decide) (pe_lc (own := [("at", 2)]) rfl nd (g_range2 (pi_range2 (by rfl) T.range (g_cons (g_int) (g_cons (g_blt (pe_callB c_len (by rfl) T.len bt_len (g_cons (g_var 1 (pv 1)) (g_nil) rfl)) v_len) (g_nil) rfl) rfl))) (blkOk_by (N := ["track", "bag", "at"]) (sc := defScope s_wrong_marks_by) (by decide +kernel)) (fun _ _ _ _ _ => pg_name (i := 2) nd rfl (by first | exact .inl rfl | exact .inr rfl)) (fun _ _ _ _ _ => g_ifs (g_tnot (g_tval (g_calln c_can_follow_by (hr.mono (by decide)) (by rfl) takes0 (g_cons (g_var 0 (pv 0)) (g_cons (g_ix (g_var 1 (pv 1)) (g_var 2 (pv 2)) (fun _ _ => rfl)) (g_cons (g_ix (g_var 1 (pv 1)) (g_op op_sub v_sub (g_var 2 (pv 2)) (g_int)) (fun _ _ => rfl)) (g_nil) rfl) rfl) rfl) (by decide) rfl rfl) (by intro _; rfl)))) (fun _ _ _ _ _ => g_var 2 (pv 2)))))
theorem ok_is_row_by (T : Bt mg) (XX : Xt K mg) (S : Std K mg "is_row_by" "is_row_by" s_is_row_by) (c_wrong_marks_by : Kn P w K mg base "wrong_marks_by" s_wrong_marks_by ["track", "bag"] 5 F_wrong_marks_by) : Kn P w K mg base "is_row_by" s_is_row_by ["track", "bag"] 6 F_is_row_by := by
  refine kn_of (N := ["track", "bag"]) (k := 5) (B := B_is_row_by) S sc_is_row_by rfl rfl (fun _ _ _ _ _ _ us hl => match us, hl with | [_, _], _ => rfl) fun f cdv A outer s' H E hr => ?_
  have nd := sc_is_row_by.nd
  have tk : Takes (cxOf (L2.CX P w) P w K mg base ["track", "bag"] "is_row_by" (defScope s_is_row_by) f cdv A outer s' H E) (Wd E) := takes_of rfl rfl rfl rfl
  exact s_one (s_ret (g_cmp (o_eq hr.units) v_eq (g_calln c_wrong_marks_by (hr.mono (by decide)) (by rfl) tk (g_cons (g_var 0 (pv 0)) (g_cons (g_var 1 (pv 1)) (g_nil) rfl) rfl) (by decide) rfl rfl) (g_lst (g_nil)) (nomark _)))
theorem ok_is_whole (T : Bt mg) (XX : Xt K mg) (S : Std K mg "is_whole" "is_whole" s_is_whole) : Kn P w K mg base "is_whole" s_is_whole ["value"] 1 F_is_whole := by
  refine kn_of (N := ["value"]) (k := 0) (B := B_is_whole) S sc_is_whole rfl rfl (fun _ _ _ _ _ _ us hl => match us, hl with | [_], _ => rfl) fun f cdv A outer s' H E hr => ?_
  have nd := sc_is_whole.nd
  have tk : Takes (cxOf (L2.CX P w) P w K mg base ["value"] "is_whole" (defScope s_is_whole) f cdv A outer s' H E) (Wd E) := takes_of rfl rfl rfl rfl
  exact s_one (s_ret (g_vand (g_isi .int (g_var 0 (pv 0)) (fun h => pe_callB call_isi (by rfl) T.isinstance bt_isinstance (pa_cons h (pa_cons (pe_bltn (by rfl) T.int bt_int rfl) pa_nil)))) (g_one (g_vnot (g_isi .bl (g_var 0 (pv 0)) (fun h => pe_callB call_isi (by rfl) T.isinstance bt_isinstance (pa_cons h (pa_cons (pe_bltn (by rfl) T.bool bt_bool rfl) pa_nil))))))))
theorem ok_is_between (T : Bt mg) (XX : Xt K mg) (S : Std K mg "is_between" "is_between" s_is_between) (c_is_whole : Kn P w K mg base "is_whole" s_is_whole ["value"] 1 F_is_whole) : Kn P w K mg base "is_between" s_is_between ["value", "low", "high"] 2 F_is_between := by
  refine kn_of (N := ["value", "low", "high"]) (k := 1) (B := B_is_between) S sc_is_between rfl rfl (fun _ _ _ _ _ _ us hl => match us, hl with | [_, _, _], _ => rfl) fun f cdv A outer s' H E hr => ?_
  have nd := sc_is_between.nd
  have tk : Takes (cxOf (L2.CX P w) P w K mg base ["value", "low", "high"] "is_between" (defScope s_is_between) f cdv A outer s' H E) (Wd E) := takes_of rfl rfl rfl rfl
  exact s_one (s_ret (g_vand (g_calln c_is_whole (hr.mono (by decide)) (by rfl) tk (g_cons (g_var 0 (pv 0)) (g_nil) rfl) (by decide) rfl rfl) (g_one (g_chain (pe_chain (o_le hr.units0) (o_le hr.units0) (g_var 1 (pv 1)) (g_var 0 (pv 0)) (g_var 2 (pv 2))) v_le v_le))))
theorem ok_is_up_to (T : Bt mg) (XX : Xt K mg) (S : Std K mg "is_up_to" "is_up_to" s_is_up_to) (c_is_between : Kn P w K mg base "is_between" s_is_between ["value", "low", "high"] 2 F_is_between) : Kn P w K mg base "is_up_to" s_is_up_to ["value", "most"] 3 F_is_up_to := by
  refine kn_of (N := ["value", "most"]) (k := 2) (B := B_is_up_to) S sc_is_up_to rfl rfl (fun _ _ _ _ _ _ us hl => match us, hl with | [_, _], _ => rfl) fun f cdv A outer s' H E hr => ?_
  have nd := sc_is_up_to.nd
  have tk : Takes (cxOf (L2.CX P w) P w K mg base ["value", "most"] "is_up_to" (defScope s_is_up_to) f cdv A outer s' H E) (Wd E) := takes_of rfl rfl rfl rfl
  exact s_one (s_ret (g_calln c_is_between (hr.mono (by decide)) (by rfl) tk (g_cons (g_var 0 (pv 0)) (g_cons (g_int) (g_cons (g_var 1 (pv 1)) (g_nil) rfl) rfl) rfl) (by decide) rfl rfl))
theorem ok_is_from (T : Bt mg) (XX : Xt K mg) (S : Std K mg "is_from" "is_from" s_is_from) (c_is_whole : Kn P w K mg base "is_whole" s_is_whole ["value"] 1 F_is_whole) : Kn P w K mg base "is_from" s_is_from ["value", "least"] 2 F_is_from := by
  refine kn_of (N := ["value", "least"]) (k := 1) (B := B_is_from) S sc_is_from rfl rfl (fun _ _ _ _ _ _ us hl => match us, hl with | [_, _], _ => rfl) fun f cdv A outer s' H E hr => ?_
  have nd := sc_is_from.nd
  have tk : Takes (cxOf (L2.CX P w) P w K mg base ["value", "least"] "is_from" (defScope s_is_from) f cdv A outer s' H E) (Wd E) := takes_of rfl rfl rfl rfl
  exact s_one (s_ret (g_vand (g_calln c_is_whole (hr.mono (by decide)) (by rfl) tk (g_cons (g_var 0 (pv 0)) (g_nil) rfl) (by decide) rfl rfl) (g_one (g_cmp op_ge (v_cmpI _) (g_var 0 (pv 0)) (g_var 1 (pv 1)) (nomark _)))))
theorem ok_is_tuple_up_to (T : Bt mg) (XX : Xt K mg) (S : Std K mg "is_tuple_up_to" "is_tuple_up_to" s_is_tuple_up_to) : Kn P w K mg base "is_tuple_up_to" s_is_tuple_up_to ["value", "low", "high"] 1 F_is_tuple_up_to := by
  refine kn_of (N := ["value", "low", "high"]) (k := 0) (B := B_is_tuple_up_to) S sc_is_tuple_up_to rfl rfl (fun _ _ _ _ _ _ us hl => match us, hl with | [_, _, _], _ => rfl) fun f cdv A outer s' H E hr => ?_
  have nd := sc_is_tuple_up_to.nd
  have tk : Takes (cxOf (L2.CX P w) P w K mg base ["value", "low", "high"] "is_tuple_up_to" (defScope s_is_tuple_up_to) f cdv A outer s' H E) (Wd E) := takes_of rfl rfl rfl rfl
  exact s_one (s_ret (g_vand (g_isi .tup (g_var 0 (pv 0)) (fun h => pe_callB call_isi (by rfl) T.isinstance bt_isinstance (pa_cons h (pa_cons (pe_bltn (by rfl) T.tuple bt_tuple rfl) pa_nil)))) (g_one (g_chain (pe_chain (o_le hr.units0) (o_le hr.units0) (g_var 1 (pv 1)) (g_blt (pe_callB c_len (by rfl) T.len bt_len (g_cons (g_var 0 (pv 0)) (g_nil) rfl)) v_len) (g_var 2 (pv 2))) v_le v_le))))
theorem ok_is_tuple_of (T : Bt mg) (XX : Xt K mg) (S : Std K mg "is_tuple_of" "is_tuple_of" s_is_tuple_of) (c_is_tuple_up_to : Kn P w K mg base "is_tuple_up_to" s_is_tuple_up_to ["value", "low", "high"] 1 F_is_tuple_up_to) : Kn P w K mg base "is_tuple_of" s_is_tuple_of ["value", "many"] 2 F_is_tuple_of := by
  refine kn_of (N := ["value", "many"]) (k := 1) (B := B_is_tuple_of) S sc_is_tuple_of rfl rfl (fun _ _ _ _ _ _ us hl => match us, hl with | [_, _], _ => rfl) fun f cdv A outer s' H E hr => ?_
  have nd := sc_is_tuple_of.nd
  have tk : Takes (cxOf (L2.CX P w) P w K mg base ["value", "many"] "is_tuple_of" (defScope s_is_tuple_of) f cdv A outer s' H E) (Wd E) := takes_of rfl rfl rfl rfl
  exact s_one (s_ret (g_calln c_is_tuple_up_to (hr.mono (by decide)) (by rfl) tk (g_cons (g_var 0 (pv 0)) (g_cons (g_var 1 (pv 1)) (g_cons (g_var 1 (pv 1)) (g_nil) rfl) rfl) rfl) (by decide) rfl rfl))
theorem ok_is_pair (T : Bt mg) (XX : Xt K mg) (S : Std K mg "is_pair" "is_pair" s_is_pair) (c_is_tuple_of : Kn P w K mg base "is_tuple_of" s_is_tuple_of ["value", "many"] 2 F_is_tuple_of) : Kn P w K mg base "is_pair" s_is_pair ["value"] 3 F_is_pair := by
  refine kn_of (N := ["value"]) (k := 2) (B := B_is_pair) S sc_is_pair rfl rfl (fun _ _ _ _ _ _ us hl => match us, hl with | [_], _ => rfl) fun f cdv A outer s' H E hr => ?_
  have nd := sc_is_pair.nd
  have tk : Takes (cxOf (L2.CX P w) P w K mg base ["value"] "is_pair" (defScope s_is_pair) f cdv A outer s' H E) (Wd E) := takes_of rfl rfl rfl rfl
  exact s_one (s_ret (g_calln c_is_tuple_of (hr.mono (by decide)) (by rfl) tk (g_cons (g_var 0 (pv 0)) (g_cons (g_int) (g_nil) rfl) rfl) (by decide) rfl rfl))
theorem ok_is_track_of (T : Bt mg) (XX : Xt K mg) (S : Std K mg "is_track_of" "is_track_of" s_is_track_of) (c_is_tuple_up_to : Kn P w K mg base "is_tuple_up_to" s_is_tuple_up_to ["value", "low", "high"] 1 F_is_tuple_up_to) (c_is_from : Kn P w K mg base "is_from" s_is_from ["value", "least"] 2 F_is_from) : Kn P w K mg base "is_track_of" s_is_track_of ["value"] 3 F_is_track_of := by
  refine kn_of (N := ["value", "each"]) (k := 2) (B := B_is_track_of) S sc_is_track_of rfl rfl (fun _ _ _ _ _ _ us hl => match us, hl with | [_], _ => rfl) fun f cdv A outer s' H E hr => ?_
  have nd := sc_is_track_of.nd
  have tk : Takes (cxOf (L2.CX P w) P w K mg base ["value", "each"] "is_track_of" (defScope s_is_track_of) f cdv A outer s' H E) (Wd E) := takes_of rfl rfl rfl rfl
  exact s_one (s_ret (g_vand (g_calln c_is_tuple_up_to (hr.mono (by decide)) (by rfl) tk (g_cons (g_var 0 (pv 0)) (g_cons (g_int) (g_cons (g_globI (by rfl) T.MOST_MATS (by decide)) (g_nil) rfl) rfl) rfl) (by decide) rfl rfl) (g_one (g_blt (pe_callB (cq_all rfl) (by rfl) T.all bt_all (g_cons (g_lc (by decide) (pe_lc (own := [("each", 1)]) rfl nd (g_iter (g_var 0 (pv 0))) (blkOk_by (N := ["value", "each"]) (sc := defScope s_is_track_of) (by decide +kernel)) (fun _ _ _ _ _ => pg_name (i := 1) nd rfl (by first | exact .inl rfl | exact .inr rfl)) (fun _ _ _ _ _ => g_yes) (fun _ _ _ _ _ => g_calln c_is_from (hr.mono (by decide)) (by rfl) takes0 (g_cons (g_var 1 (pv 1)) (g_cons (g_int) (g_nil) rfl) rfl) (by decide) rfl rfl))) (g_nil) rfl)) v_all))))
theorem ok_is_mat_of (T : Bt mg) (XX : Xt K mg) (S : Std K mg "is_mat_of" "is_mat_of" s_is_mat_of) (c_is_up_to : Kn P w K mg base "is_up_to" s_is_up_to ["value", "most"] 3 F_is_up_to) : Kn P w K mg base "is_mat_of" s_is_mat_of ["track", "value"] 4 F_is_mat_of := by
  refine kn_of (N := ["track", "value"]) (k := 3) (B := B_is_mat_of) S sc_is_mat_of rfl rfl (fun _ _ _ _ _ _ us hl => match us, hl with | [_, _], _ => rfl) fun f cdv A outer s' H E hr => ?_
  have nd := sc_is_mat_of.nd
  have tk : Takes (cxOf (L2.CX P w) P w K mg base ["track", "value"] "is_mat_of" (defScope s_is_mat_of) f cdv A outer s' H E) (Wd E) := takes_of rfl rfl rfl rfl
  exact s_one (s_ret (g_calln c_is_up_to (hr.mono (by decide)) (by rfl) tk (g_cons (g_var 1 (pv 1)) (g_cons (g_op op_sub v_sub (g_blt (pe_callB c_len (by rfl) T.len bt_len (g_cons (g_var 0 (pv 0)) (g_nil) rfl)) v_len) (g_int)) (g_nil) rfl) rfl) (by decide) rfl rfl))
theorem ok_is_mark_of (T : Bt mg) (XX : Xt K mg) (S : Std K mg "is_mark_of" "is_mark_of" s_is_mark_of) (c_is_pair : Kn P w K mg base "is_pair" s_is_pair ["value"] 3 F_is_pair) (c_is_from : Kn P w K mg base "is_from" s_is_from ["value", "least"] 2 F_is_from) (c_is_mat_of : Kn P w K mg base "is_mat_of" s_is_mat_of ["track", "value"] 4 F_is_mat_of) : Kn P w K mg base "is_mark_of" s_is_mark_of ["track", "value"] 5 F_is_mark_of := by
  refine kn_of (N := ["track", "value"]) (k := 4) (B := B_is_mark_of) S sc_is_mark_of rfl rfl (fun _ _ _ _ _ _ us hl => match us, hl with | [_, _], _ => rfl) fun f cdv A outer s' H E hr => ?_
  have nd := sc_is_mark_of.nd
  have tk : Takes (cxOf (L2.CX P w) P w K mg base ["track", "value"] "is_mark_of" (defScope s_is_mark_of) f cdv A outer s' H E) (Wd E) := takes_of rfl rfl rfl rfl
  exact s_one (s_ret (g_vand (g_calln c_is_pair (hr.mono (by decide)) (by rfl) tk (g_cons (g_var 1 (pv 1)) (g_nil) rfl) (by decide) rfl rfl) (g_vand (g_calln c_is_from (hr.mono (by decide)) (by rfl) tk (g_cons (g_ix (g_var 1 (pv 1)) (g_int) (fun _ _ => rfl)) (g_cons (g_int) (g_nil) rfl) rfl) (by decide) rfl rfl) (g_one (g_calln c_is_mat_of (hr.mono (by decide)) (by rfl) tk (g_cons (g_var 0 (pv 0)) (g_cons (g_ix (g_var 1 (pv 1)) (g_int) (fun _ _ => rfl)) (g_nil) rfl) rfl) (by decide) rfl rfl)))))
theorem ok_wrong_in_bag (T : Bt mg) (XX : Xt K mg) (S : Std K mg "wrong_in_bag" "wrong_in_bag" s_wrong_in_bag) (c_is_tuple_up_to : Kn P w K mg base "is_tuple_up_to" s_is_tuple_up_to ["value", "low", "high"] 1 F_is_tuple_up_to) (c_is_mark_of : Kn P w K mg base "is_mark_of" s_is_mark_of ["track", "value"] 5 F_is_mark_of) : Kn P w K mg base "wrong_in_bag" s_wrong_in_bag ["track", "value"] 6 F_wrong_in_bag := by
  refine kn_of (N := ["track", "value", "index", "mark"]) (k := 5) (B := B_wrong_in_bag) S sc_wrong_in_bag rfl rfl (fun _ _ _ _ _ _ us hl => match us, hl with | [_, _], _ => rfl) fun f cdv A outer s' H E hr => ?_
  have nd := sc_wrong_in_bag.nd
  have tk : Takes (cxOf (L2.CX P w) P w K mg base ["track", "value", "index", "mark"] "wrong_in_bag" (defScope s_wrong_in_bag) f cdv A outer s' H E) (Wd E) := takes_of rfl rfl rfl rfl
  exact s_cons (s_if (g_tnot (g_tval (g_calln c_is_tuple_up_to (hr.mono (by decide)) (by rfl) tk (g_cons (g_var 1 (pv 1)) (g_cons (g_int) (g_cons (g_globI (by rfl) T.MOST_MARKS (by decide)) (g_nil) rfl) rfl) rfl) (by decide) rfl rfl) (by intro _; rfl))) (s_one (s_ret (g_lst (g_cons (g_non) (g_nil) rfl)))) (s_nil)) (s_cons (s_for (ps_for (passes_of rfl) rfl (g_enum (pi_enumB (by rfl) T.enumerate (g_cons (g_var 1 (pv 1)) (g_nil) rfl))) (t_tg (t := .tp [.nm 2, .nm 3]) (pg_tl rfl (pgs_cons (pg_name (i := 2) nd rfl (by first | exact .inl rfl | exact .inr rfl)) (pgs_cons (pg_name (i := 3) nd rfl (by first | exact .inl rfl | exact .inr rfl)) (pgs_nil))))) (s_one (s_if ((g_or (g_tnot (g_tval (g_calln c_is_mark_of (hr.mono (by decide)) (by rfl) tk (g_cons (g_var 0 (pv 0)) (g_cons (g_var 3 (pv 3)) (g_nil) rfl) rfl) (by decide) rfl rfl) (by intro _; rfl))) (g_or1 ((g_and (g_tcmp op_gt (v_cmpI _) (g_var 2 (pv 2)) (g_int) (nomark _)) (g_and1 (g_tcmp (o_le hr.units0) v_le (g_var 3 (pv 3)) (g_ix (g_var 1 (pv 1)) (g_op op_sub v_sub (g_var 2 (pv 2)) (g_int)) (fun _ _ => rfl)) (nomark _)))).pt))).pt) (s_one (s_ret (g_lst (g_cons (g_var 2 (pv 2)) (g_nil) rfl)))) (s_nil))))) (s_one (s_ret (g_lst (g_nil)))))
theorem ok_is_bag_of (T : Bt mg) (XX : Xt K mg) (S : Std K mg "is_bag_of" "is_bag_of" s_is_bag_of) (c_wrong_in_bag : Kn P w K mg base "wrong_in_bag" s_wrong_in_bag ["track", "value"] 6 F_wrong_in_bag) : Kn P w K mg base "is_bag_of" s_is_bag_of ["track", "value"] 7 F_is_bag_of := by
  refine kn_of (N := ["track", "value"]) (k := 6) (B := B_is_bag_of) S sc_is_bag_of rfl rfl (fun _ _ _ _ _ _ us hl => match us, hl with | [_, _], _ => rfl) fun f cdv A outer s' H E hr => ?_
  have nd := sc_is_bag_of.nd
  have tk : Takes (cxOf (L2.CX P w) P w K mg base ["track", "value"] "is_bag_of" (defScope s_is_bag_of) f cdv A outer s' H E) (Wd E) := takes_of rfl rfl rfl rfl
  exact s_one (s_ret (g_cmp (o_eq hr.units) v_eq (g_calln c_wrong_in_bag (hr.mono (by decide)) (by rfl) tk (g_cons (g_var 0 (pv 0)) (g_cons (g_var 1 (pv 1)) (g_nil) rfl) rfl) (by decide) rfl rfl) (g_lst (g_nil)) (nomark _)))
theorem ok_check_track (T : Bt mg) (XX : Xt K mg) (S : Std K mg "check_track" "check_track" s_check_track) (c_is_track_of : Kn P w K mg base "is_track_of" s_is_track_of ["value"] 3 F_is_track_of) : Kn P w K mg base "check_track" s_check_track ["track"] 4 F_check_track := by
  refine kn_of (N := ["track"]) (k := 3) (B := B_check_track) S sc_check_track rfl rfl (fun _ _ _ _ _ _ us hl => match us, hl with | [_], _ => rfl) fun f cdv A outer s' H E hr => ?_
  have nd := sc_check_track.nd
  have tk : Takes (cxOf (L2.CX P w) P w K mg base ["track"] "check_track" (defScope s_check_track) f cdv A outer s' H E) (Wd E) := takes_of rfl rfl rfl rfl
  exact s_one (s_if (g_tnot (g_tval (g_calln c_is_track_of (hr.mono (by decide)) (by rfl) tk (g_cons (g_var 0 (pv 0)) (g_nil) rfl) (by decide) rfl rfl) (by intro _; rfl))) (s_one (s_raise rfl XX.r_InvalidTrack hr tk (g_var 0 (pv 0)) (by rfl) (by decide) rfl rfl)) (s_nil))
theorem ok_check_bag (T : Bt mg) (XX : Xt K mg) (S : Std K mg "check_bag" "check_bag" s_check_bag) (c_wrong_in_bag : Kn P w K mg base "wrong_in_bag" s_wrong_in_bag ["track", "value"] 6 F_wrong_in_bag) : Kn P w K mg base "check_bag" s_check_bag ["track", "bag"] 7 F_check_bag := by
  refine kn_of (N := ["track", "bag", "index"]) (k := 6) (B := B_check_bag) S sc_check_bag rfl rfl (fun _ _ _ _ _ _ us hl => match us, hl with | [_, _], _ => rfl) fun f cdv A outer s' H E hr => ?_
  have nd := sc_check_bag.nd
  have tk : Takes (cxOf (L2.CX P w) P w K mg base ["track", "bag", "index"] "check_bag" (defScope s_check_bag) f cdv A outer s' H E) (Wd E) := takes_of rfl rfl rfl rfl
  exact s_one (s_for (ps_for (passes_of rfl) rfl (g_iter (g_calln c_wrong_in_bag (hr.mono (by decide)) (by rfl) tk (g_cons (g_var 0 (pv 0)) (g_cons (g_var 1 (pv 1)) (g_nil) rfl) rfl) (by decide) rfl rfl)) (t_tg (t := .nm 2) (pg_name (i := 2) nd rfl (by first | exact .inl rfl | exact .inr rfl))) (s_one (s_raise rfl XX.r_InvalidBag hr tk (g_var 2 (pv 2)) (by rfl) (by decide) rfl rfl))))
theorem ok_is_mat_count (T : Bt mg) (XX : Xt K mg) (S : Std K mg "is_mat_count" "is_mat_count" s_is_mat_count) (c_is_between : Kn P w K mg base "is_between" s_is_between ["value", "low", "high"] 2 F_is_between) : Kn P w K mg base "is_mat_count" s_is_mat_count ["value"] 3 F_is_mat_count := by
  refine kn_of (N := ["value"]) (k := 2) (B := B_is_mat_count) S sc_is_mat_count rfl rfl (fun _ _ _ _ _ _ us hl => match us, hl with | [_], _ => rfl) fun f cdv A outer s' H E hr => ?_
  have nd := sc_is_mat_count.nd
  have tk : Takes (cxOf (L2.CX P w) P w K mg base ["value"] "is_mat_count" (defScope s_is_mat_count) f cdv A outer s' H E) (Wd E) := takes_of rfl rfl rfl rfl
  exact s_one (s_ret (g_calln c_is_between (hr.mono (by decide)) (by rfl) tk (g_cons (g_var 0 (pv 0)) (g_cons (g_int) (g_cons (g_globI (by rfl) T.MOST_MATS (by decide)) (g_nil) rfl) rfl) rfl) (by decide) rfl rfl))
theorem ok_even_track (T : Bt mg) (XX : Xt K mg) (S : Std K mg "even_track" "even_track" s_even_track) : Kn P w K mg base "even_track" s_even_track ["mats"] 1 F_even_track := by
  refine kn_of (N := ["mats"]) (k := 0) (B := B_even_track) S sc_even_track rfl rfl (fun _ _ _ _ _ _ us hl => match us, hl with | [_], _ => rfl) fun f cdv A outer s' H E hr => ?_
  have nd := sc_even_track.nd
  have tk : Takes (cxOf (L2.CX P w) P w K mg base ["mats"] "even_track" (defScope s_even_track) f cdv A outer s' H E) (Wd E) := takes_of rfl rfl rfl rfl
  exact s_one (s_ret (g_op o_mul v_mul (g_tup (g_cons (g_int) (g_nil) rfl)) (g_var 0 (pv 0))))
theorem ok_wrong_in_bags (T : Bt mg) (XX : Xt K mg) (S : Std K mg "wrong_in_bags" "wrong_in_bags" s_wrong_in_bags) (c_is_tuple_up_to : Kn P w K mg base "is_tuple_up_to" s_is_tuple_up_to ["value", "low", "high"] 1 F_is_tuple_up_to) (c_is_bag_of : Kn P w K mg base "is_bag_of" s_is_bag_of ["track", "value"] 7 F_is_bag_of) (c_even_track : Kn P w K mg base "even_track" s_even_track ["mats"] 1 F_even_track) : Kn P w K mg base "wrong_in_bags" s_wrong_in_bags ["mats", "value"] 8 F_wrong_in_bags := by
  refine kn_of (N := ["mats", "value", "index", "each"]) (k := 7) (B := B_wrong_in_bags) S sc_wrong_in_bags rfl rfl (fun _ _ _ _ _ _ us hl => match us, hl with | [_, _], _ => rfl) fun f cdv A outer s' H E hr => ?_
  have nd := sc_wrong_in_bags.nd
  have tk : Takes (cxOf (L2.CX P w) P w K mg base ["mats", "value", "index", "each"] "wrong_in_bags" (defScope s_wrong_in_bags) f cdv A outer s' H E) (Wd E) := takes_of rfl rfl rfl rfl
  exact s_cons (s_if (g_tnot (g_tval (g_calln c_is_tuple_up_to (hr.mono (by decide)) (by rfl) tk (g_cons (g_var 1 (pv 1)) (g_cons (g_int) (g_cons (g_globI (by rfl) T.MOST_RUNNERS (by decide)) (g_nil) rfl) rfl) rfl) (by decide) rfl rfl) (by intro _; rfl))) (s_one (s_ret (g_lst (g_cons (g_non) (g_nil) rfl)))) (s_nil)) (s_one (s_ret (g_slice (g_lc (by decide) (pe_lc (own := [("index", 2), ("each", 3)]) rfl nd (g_enum (pi_enumB (by rfl) T.enumerate (g_cons (g_var 1 (pv 1)) (g_nil) rfl))) (blkOk_by (N := ["mats", "value", "index", "each"]) (sc := defScope s_wrong_in_bags) (by decide +kernel)) (fun _ _ _ _ _ => pg_tl rfl (pgs_cons (pg_name (i := 2) nd rfl (by first | exact .inl rfl | exact .inr rfl)) (pgs_cons (pg_name (i := 3) nd rfl (by first | exact .inl rfl | exact .inr rfl)) (pgs_nil)))) (fun _ _ _ _ _ => g_ifs (g_tnot (g_tval (g_calln c_is_bag_of (hr.mono (by decide)) (by rfl) takes0 (g_cons (g_calln c_even_track (hr.mono (by decide)) (by rfl) takes0 (g_cons (g_var 0 (pv 0)) (g_nil) rfl) (by decide) rfl rfl) (g_cons (g_var 3 (pv 3)) (g_nil) rfl) rfl) (by decide) rfl rfl) (by intro _; rfl)))) (fun _ _ _ _ _ => g_var 2 (pv 2)))) (g_no) (g_some (g_int)))))
theorem ok_gap_pace (T : Bt mg) (XX : Xt K mg) (S : Std K mg "gap_pace" "gap_pace" s_gap_pace) (c_steps_by : Kn P w K mg base "steps_by" s_steps_by ["track", "one", "other"] 1 F_steps_by) (c_even_track : Kn P w K mg base "even_track" s_even_track ["mats"] 1 F_even_track) : Kn P w K mg base "gap_pace" s_gap_pace ["mats", "one", "two"] 2 F_gap_pace := by
  refine kn_of (N := ["mats", "one", "two"]) (k := 1) (B := B_gap_pace) S sc_gap_pace rfl rfl (fun _ _ _ _ _ _ us hl => match us, hl with | [_, _, _], _ => rfl) fun f cdv A outer s' H E hr => ?_
  have nd := sc_gap_pace.nd
  have tk : Takes (cxOf (L2.CX P w) P w K mg base ["mats", "one", "two"] "gap_pace" (defScope s_gap_pace) f cdv A outer s' H E) (Wd E) := takes_of rfl rfl rfl rfl
  exact s_one (s_ret (g_op op_fdivW v_fdiv (g_op op_sub v_sub (g_ix (g_var 2 (pv 2)) (g_int) (fun _ _ => rfl)) (g_ix (g_var 1 (pv 1)) (g_int) (fun _ _ => rfl))) (g_calln c_steps_by (hr.mono (by decide)) (by rfl) tk (g_cons (g_calln c_even_track (hr.mono (by decide)) (by rfl) tk (g_cons (g_var 0 (pv 0)) (g_nil) rfl) (by decide) rfl rfl) (g_cons (g_ix (g_var 1 (pv 1)) (g_int) (fun _ _ => rfl)) (g_cons (g_ix (g_var 2 (pv 2)) (g_int) (fun _ _ => rfl)) (g_nil) rfl) rfl) rfl) (by decide) rfl rfl)))
theorem ok_gap_paces (T : Bt mg) (XX : Xt K mg) (S : Std K mg "gap_paces" "gap_paces" s_gap_paces) (c_gap_pace : Kn P w K mg base "gap_pace" s_gap_pace ["mats", "one", "two"] 2 F_gap_pace) : Kn P w K mg base "gap_paces" s_gap_paces ["mats", "bags"] 3 F_gap_paces := by
  refine kn_of (N := ["mats", "bags", "found", "index", "bag", "gap"]) (k := 2) (B := B_gap_paces) S sc_gap_paces rfl rfl (fun _ _ _ _ _ _ us hl => match us, hl with | [_, _], _ => rfl) fun f cdv A outer s' H E hr => ?_
  have nd := sc_gap_paces.nd
  have tk : Takes (cxOf (L2.CX P w) P w K mg base ["mats", "bags", "found", "index", "bag", "gap"] "gap_paces" (defScope s_gap_paces) f cdv A outer s' H E) (Wd E) := takes_of rfl rfl rfl rfl
  exact s_cons (s_set (ps_set (i := 2) nd rfl (.inl rfl) (g_mut (g_nil)))) (s_cons (s_for (ps_for (passes_of rfl) rfl (g_enum (pi_enumB (by rfl) T.enumerate (g_cons (g_var 1 (pv 1)) (g_nil) rfl))) (t_tg (t := .tp [.nm 3, .nm 4]) (pg_tl rfl (pgs_cons (pg_name (i := 3) nd rfl (by first | exact .inl rfl | exact .inr rfl)) (pgs_cons (pg_name (i := 4) nd rfl (by first | exact .inl rfl | exact .inr rfl)) (pgs_nil))))) (s_one (s_for (ps_for (passes_of rfl) rfl (g_range1 (pi_range1 (by rfl) T.range (g_cons (g_op op_sub v_sub (g_blt (pe_callB c_len (by rfl) T.len bt_len (g_cons (g_var 4 (pv 4)) (g_nil) rfl)) v_len) (g_int)) (g_nil) rfl))) (t_tg (t := .nm 5) (pg_name (i := 5) nd rfl (by first | exact .inl rfl | exact .inr rfl))) (s_one (s_expr (g_methL (pe_bm PySem.F.plainAttrs_list PySem.F.slot_list_append PySem.F.type_list_append mt_append (g_var 2 (pv 2)) (g_cons (g_tup (g_cons (g_calln c_gap_pace (hr.mono (by decide)) (by rfl) tk (g_cons (g_var 0 (pv 0)) (g_cons (g_ix (g_var 4 (pv 4)) (g_var 5 (pv 5)) (fun _ _ => rfl)) (g_cons (g_ix (g_var 4 (pv 4)) (g_op o_add v_add (g_var 5 (pv 5)) (g_int)) (fun _ _ => rfl)) (g_nil) rfl) rfl) rfl) (by decide) rfl rfl) (g_cons (g_tup (g_cons (g_var 3 (pv 3)) (g_cons (g_var 5 (pv 5)) (g_nil) rfl) rfl)) (g_nil) rfl) rfl)) (g_nil) rfl)) v_append) rfl))))))) (s_one (s_ret (g_var 2 (pv 2)))))
theorem ok_pace_by (T : Bt mg) (XX : Xt K mg) (S : Std K mg "pace_by" "pace_by" s_pace_by) (c_gap_paces : Kn P w K mg base "gap_paces" s_gap_paces ["mats", "bags"] 3 F_gap_paces) : Kn P w K mg base "pace_by" s_pace_by ["mats", "bags"] 4 F_pace_by := by
  refine kn_of (N := ["mats", "bags", "paces", "pace", "gap"]) (k := 3) (B := B_pace_by) S sc_pace_by rfl rfl (fun _ _ _ _ _ _ us hl => match us, hl with | [_, _], _ => rfl) fun f cdv A outer s' H E hr => ?_
  have nd := sc_pace_by.nd
  have tk : Takes (cxOf (L2.CX P w) P w K mg base ["mats", "bags", "paces", "pace", "gap"] "pace_by" (defScope s_pace_by) f cdv A outer s' H E) (Wd E) := takes_of rfl rfl rfl rfl
  exact s_cons (s_setLc (by decide) (ps_setLc (i := 2) (own := [("pace", 3), ("gap", 4)]) rfl nd rfl rfl (sw_true rfl rfl rfl (by decide +kernel)) (g_iter (g_calln c_gap_paces (hr.mono (by decide)) (by rfl) tk (g_cons (g_var 0 (pv 0)) (g_cons (g_var 1 (pv 1)) (g_nil) rfl) rfl) (by decide) rfl rfl)) (blkOk_by (N := ["mats", "bags", "paces", "pace", "gap"]) (sc := defScope s_pace_by) (by decide +kernel)) (fun _ _ _ _ _ => pg_tl rfl (pgs_cons (pg_name (i := 3) nd rfl (by first | exact .inl rfl | exact .inr rfl)) (pgs_cons (pg_name (i := 4) nd rfl (by first | exact .inl rfl | exact .inr rfl)) (pgs_nil)))) (fun _ _ _ _ _ => g_yes) (fun _ _ _ _ _ => g_var 3 (pv 3)))) (s_one (s_ret (g_if (g_tcmp (o_ne hr.units) v_ne (g_var 2 (pv 2)) (g_lst (g_nil)) (nomark _)) (g_blt (pe_callB (c_min rfl) (by rfl) T.min bt_min (g_cons (g_var 2 (pv 2)) (g_nil) rfl)) v_min) (g_non))))
theorem ok_tight_gap_by (T : Bt mg) (XX : Xt K mg) (S : Std K mg "tight_gap_by" "tight_gap_by" s_tight_gap_by) (c_gap_paces : Kn P w K mg base "gap_paces" s_gap_paces ["mats", "bags"] 3 F_gap_paces) : Kn P w K mg base "tight_gap_by" s_tight_gap_by ["mats", "bags"] 4 F_tight_gap_by := by
  refine kn_of (N := ["mats", "bags", "paces"]) (k := 3) (B := B_tight_gap_by) S sc_tight_gap_by rfl rfl (fun _ _ _ _ _ _ us hl => match us, hl with | [_, _], _ => rfl) fun f cdv A outer s' H E hr => ?_
  have nd := sc_tight_gap_by.nd
  have tk : Takes (cxOf (L2.CX P w) P w K mg base ["mats", "bags", "paces"] "tight_gap_by" (defScope s_tight_gap_by) f cdv A outer s' H E) (Wd E) := takes_of rfl rfl rfl rfl
  exact s_cons (s_set (ps_set (i := 2) nd rfl (.inl rfl) (g_calln c_gap_paces (hr.mono (by decide)) (by rfl) tk (g_cons (g_var 0 (pv 0)) (g_cons (g_var 1 (pv 1)) (g_nil) rfl) rfl) (by decide) rfl rfl))) (s_one (s_ret (g_if (g_tcmp (o_ne hr.units) v_neM (g_var 2 (pv 2)) (g_lst (g_nil)) (nomark _)) (g_ix (g_blt (pe_callB (cr_minDp rfl (room65 hr)) (by rfl) T.min bt_min (g_cons (g_var 2 (pv 2)) (g_nil) rfl)) v_minN) (g_int) (fun _ _ => rfl)) (g_non))))
theorem ok_check_bags (T : Bt mg) (XX : Xt K mg) (S : Std K mg "check_bags" "check_bags" s_check_bags) (c_is_mat_count : Kn P w K mg base "is_mat_count" s_is_mat_count ["value"] 3 F_is_mat_count) (c_wrong_in_bags : Kn P w K mg base "wrong_in_bags" s_wrong_in_bags ["mats", "value"] 8 F_wrong_in_bags) : Kn P w K mg base "check_bags" s_check_bags ["mats", "bags"] 9 F_check_bags := by
  refine kn_of (N := ["mats", "bags", "index"]) (k := 8) (B := B_check_bags) S sc_check_bags rfl rfl (fun _ _ _ _ _ _ us hl => match us, hl with | [_, _], _ => rfl) fun f cdv A outer s' H E hr => ?_
  have nd := sc_check_bags.nd
  have tk : Takes (cxOf (L2.CX P w) P w K mg base ["mats", "bags", "index"] "check_bags" (defScope s_check_bags) f cdv A outer s' H E) (Wd E) := takes_of rfl rfl rfl rfl
  exact s_cons (s_if (g_tnot (g_tval (g_calln c_is_mat_count (hr.mono (by decide)) (by rfl) tk (g_cons (g_var 0 (pv 0)) (g_nil) rfl) (by decide) rfl rfl) (by intro _; rfl))) (s_one (s_raise rfl XX.r_InvalidNumber hr tk (g_var 0 (pv 0)) (by rfl) (by decide) rfl rfl)) (s_nil)) (s_one (s_for (ps_for (passes_of rfl) rfl (g_iter (g_calln c_wrong_in_bags (hr.mono (by decide)) (by rfl) tk (g_cons (g_var 0 (pv 0)) (g_cons (g_var 1 (pv 1)) (g_nil) rfl) rfl) (by decide) rfl rfl)) (t_tg (t := .nm 2) (pg_name (i := 2) nd rfl (by first | exact .inl rfl | exact .inr rfl))) (s_one (s_raise rfl XX.r_InvalidBags hr tk (g_var 2 (pv 2)) (by rfl) (by decide) rfl rfl)))))
theorem ok_pace (T : Bt mg) (XX : Xt K mg) (S : Std K mg "pace" "pace" s_pace) (c_check_bags : Kn P w K mg base "check_bags" s_check_bags ["mats", "bags"] 9 F_check_bags) (c_pace_by : Kn P w K mg base "pace_by" s_pace_by ["mats", "bags"] 4 F_pace_by) : Kn P w K mg base "pace" s_pace ["mats", "bags"] 10 F_pace := by
  refine kn_of (N := ["mats", "bags"]) (k := 9) (B := B_pace) S sc_pace rfl rfl (fun _ _ _ _ _ _ us hl => match us, hl with | [_, _], _ => rfl) fun f cdv A outer s' H E hr => ?_
  have nd := sc_pace.nd
  have tk : Takes (cxOf (L2.CX P w) P w K mg base ["mats", "bags"] "pace" (defScope s_pace) f cdv A outer s' H E) (Wd E) := takes_of rfl rfl rfl rfl
  exact s_cons (s_expr (g_calln c_check_bags (hr.mono (by decide)) (by rfl) tk (g_cons (g_var 0 (pv 0)) (g_cons (g_var 1 (pv 1)) (g_nil) rfl) rfl) (by decide) rfl rfl) rfl) (s_one (s_ret (g_calln c_pace_by (hr.mono (by decide)) (by rfl) tk (g_cons (g_var 0 (pv 0)) (g_cons (g_var 1 (pv 1)) (g_nil) rfl) rfl) (by decide) rfl rfl)))
theorem ok_tight_gap (T : Bt mg) (XX : Xt K mg) (S : Std K mg "tight_gap" "tight_gap" s_tight_gap) (c_check_bags : Kn P w K mg base "check_bags" s_check_bags ["mats", "bags"] 9 F_check_bags) (c_tight_gap_by : Kn P w K mg base "tight_gap_by" s_tight_gap_by ["mats", "bags"] 4 F_tight_gap_by) : Kn P w K mg base "tight_gap" s_tight_gap ["mats", "bags"] 10 F_tight_gap := by
  refine kn_of (N := ["mats", "bags"]) (k := 9) (B := B_tight_gap) S sc_tight_gap rfl rfl (fun _ _ _ _ _ _ us hl => match us, hl with | [_, _], _ => rfl) fun f cdv A outer s' H E hr => ?_
  have nd := sc_tight_gap.nd
  have tk : Takes (cxOf (L2.CX P w) P w K mg base ["mats", "bags"] "tight_gap" (defScope s_tight_gap) f cdv A outer s' H E) (Wd E) := takes_of rfl rfl rfl rfl
  exact s_cons (s_expr (g_calln c_check_bags (hr.mono (by decide)) (by rfl) tk (g_cons (g_var 0 (pv 0)) (g_cons (g_var 1 (pv 1)) (g_nil) rfl) rfl) (by decide) rfl rfl) rfl) (s_one (s_ret (g_calln c_tight_gap_by (hr.mono (by decide)) (by rfl) tk (g_cons (g_var 0 (pv 0)) (g_cons (g_var 1 (pv 1)) (g_nil) rfl) rfl) (by decide) rfl rfl)))
theorem ok_check_tracked (T : Bt mg) (XX : Xt K mg) (S : Std K mg "check_tracked" "check_tracked" s_check_tracked) (c_check_track : Kn P w K mg base "check_track" s_check_track ["track"] 4 F_check_track) (c_check_bag : Kn P w K mg base "check_bag" s_check_bag ["track", "bag"] 7 F_check_bag) : Kn P w K mg base "check_tracked" s_check_tracked ["track", "bag"] 8 F_check_tracked := by
  refine kn_of (N := ["track", "bag"]) (k := 7) (B := B_check_tracked) S sc_check_tracked rfl rfl (fun _ _ _ _ _ _ us hl => match us, hl with | [_, _], _ => rfl) fun f cdv A outer s' H E hr => ?_
  have nd := sc_check_tracked.nd
  have tk : Takes (cxOf (L2.CX P w) P w K mg base ["track", "bag"] "check_tracked" (defScope s_check_tracked) f cdv A outer s' H E) (Wd E) := takes_of rfl rfl rfl rfl
  exact s_cons (s_expr (g_calln c_check_track (hr.mono (by decide)) (by rfl) tk (g_cons (g_var 0 (pv 0)) (g_nil) rfl) (by decide) rfl rfl) rfl) (s_one (s_expr (g_calln c_check_bag (hr.mono (by decide)) (by rfl) tk (g_cons (g_var 0 (pv 0)) (g_cons (g_var 1 (pv 1)) (g_nil) rfl) rfl) (by decide) rfl rfl) rfl))
theorem ok_is_row (T : Bt mg) (XX : Xt K mg) (S : Std K mg "is_row" "is_row" s_is_row) (c_check_tracked : Kn P w K mg base "check_tracked" s_check_tracked ["track", "bag"] 8 F_check_tracked) (c_is_row_by : Kn P w K mg base "is_row_by" s_is_row_by ["track", "bag"] 6 F_is_row_by) : Kn P w K mg base "is_row" s_is_row ["track", "bag"] 9 F_is_row := by
  refine kn_of (N := ["track", "bag"]) (k := 8) (B := B_is_row) S sc_is_row rfl rfl (fun _ _ _ _ _ _ us hl => match us, hl with | [_, _], _ => rfl) fun f cdv A outer s' H E hr => ?_
  have nd := sc_is_row.nd
  have tk : Takes (cxOf (L2.CX P w) P w K mg base ["track", "bag"] "is_row" (defScope s_is_row) f cdv A outer s' H E) (Wd E) := takes_of rfl rfl rfl rfl
  exact s_cons (s_expr (g_calln c_check_tracked (hr.mono (by decide)) (by rfl) tk (g_cons (g_var 0 (pv 0)) (g_cons (g_var 1 (pv 1)) (g_nil) rfl) rfl) (by decide) rfl rfl) rfl) (s_one (s_ret (g_calln c_is_row_by (hr.mono (by decide)) (by rfl) tk (g_cons (g_var 0 (pv 0)) (g_cons (g_var 1 (pv 1)) (g_nil) rfl) rfl) (by decide) rfl rfl)))
theorem ok__law_pool (T : Bt mg) (XX : Xt K mg) (S : Std K mg "_law_pool" "_law_pool" s__law_pool) : Kn P w K mg base "_law_pool" s__law_pool ["script", "turn"] 1 F__law_pool := by
  refine kn_of (N := ["script", "turn", "own", "stirred", "cell"]) (k := 0) (B := B__law_pool) S sc__law_pool rfl rfl (fun _ _ _ _ _ _ us hl => match us, hl with | [_, _], _ => rfl) fun f cdv A outer s' H E hr => ?_
  have nd := sc__law_pool.nd
  have tk : Takes (cxOf (L2.CX P w) P w K mg base ["script", "turn", "own", "stirred", "cell"] "_law_pool" (defScope s__law_pool) f cdv A outer s' H E) (Wd E) := takes_of rfl rfl rfl rfl
  exact s_cons (s_par (ps_par (i := 2) (j := 3) rfl nd rfl rfl (by decide) rfl rfl (g_cons (g_if (g_tcmp (o_lt hr.units0) v_lt (g_var 1 (pv 1)) (g_blt (pe_callB c_len (by rfl) T.len bt_len (g_cons (g_var 0 (pv 0)) (g_nil) rfl)) v_len) (nomark _)) (g_blt (pe_callTy call_int1 (by rfl) T.int bt_int (g_cons (g_ix (g_var 0 (pv 0)) (g_var 1 (pv 1)) (fun _ _ => rfl)) (g_nil) rfl)) v_int) (g_op o_add v_add (g_op o_mul v_mul (g_int) (g_var 1 (pv 1))) (g_int))) (g_cons (g_op o_add v_add (g_int) (g_op o_mul v_mul (g_int) (g_var 1 (pv 1)))) (g_nil) rfl) rfl) (by rfl))) (s_cons (s_for (ps_for (passes_of rfl) rfl (g_iter (g_slice (g_var 0 (pv 0)) (g_no) (g_some (g_int)))) (t_tg (t := .nm 4) (pg_name (i := 4) nd rfl (by first | exact .inl rfl | exact .inr rfl))) (s_one (s_set (ps_set (i := 3) nd rfl (.inl rfl) (g_op op_mod v_mod (g_blt (pe_callTy call_int1 (by rfl) T.int bt_int (g_cons (g_op o_add v_add (g_op o_add v_add (g_op o_mul v_mul (g_var 3 (pv 3)) (g_int)) (g_op op_mod v_mod (g_blt (pe_callTy call_int1 (by rfl) T.int bt_int (g_cons (g_var 4 (pv 4)) (g_nil) rfl)) v_int) (g_int))) (g_int)) (g_nil) rfl)) v_int) (g_int))))))) (s_one (s_ret (g_mut (g_cons (g_op op_mod v_mod (g_blt (pe_callTy call_int1 (by rfl) T.int bt_int (g_cons (g_op o_add v_add (g_var 3 (pv 3)) (g_op o_mul v_mul (g_var 2 (pv 2)) (g_int))) (g_nil) rfl)) v_int) (g_int)) (g_cons (g_if ((g_or (g_tcmp (o_lt hr.units0) v_lt (g_var 2 (pv 2)) (g_int) (nomark _)) (g_or1 (g_tcmp op_ge (v_cmpI _) (g_var 2 (pv 2)) (g_op op_pow v_pow (g_int) (g_int)) (nomark _)))).pt) (g_blt (pe_callB call_abs (by rfl) T.abs bt_abs (g_cons (g_var 2 (pv 2)) (g_nil) rfl)) v_abs) (g_int)) (g_cons (g_int) (g_nil) rfl) rfl) rfl)))))
theorem ok__law_draw (T : Bt mg) (XX : Xt K mg) (S : Std K mg "_law_draw" "_law_draw" s__law_draw) : Kn P w K mg base "_law_draw" s__law_draw ["pool", "many"] 1 F__law_draw := by
  refine kn_of (N := ["pool", "many", "figure", "held"]) (k := 0) (B := B__law_draw) S sc__law_draw rfl rfl (fun _ _ _ _ _ _ us hl => match us, hl with | [_, _], _ => rfl) fun f cdv A outer s' H E hr => ?_
  have nd := sc__law_draw.nd
  have tk : Takes (cxOf (L2.CX P w) P w K mg base ["pool", "many", "figure", "held"] "_law_draw" (defScope s__law_draw) f cdv A outer s' H E) (Wd E) := takes_of rfl rfl rfl rfl
  exact s_cons (s_if (g_tcmp op_gt (v_cmpI _) (g_ix (g_var 0 (pv 0)) (g_int) (fun _ _ => rfl)) (g_int) (nomark _)) (s_cons (s_asg (ps_asg (g_blt (pe_callB c_divmod (by rfl) T.divmod bt_divmod (g_cons (g_ix (g_var 0 (pv 0)) (g_int) (fun _ _ => rfl)) (g_cons (g_var 1 (pv 1)) (g_nil) rfl) rfl)) v_divmod) (t_tup (pg_tup rfl (t_cons (t_sub (g_var 0 (pv 0)) (g_int) (pg_sub (g_var 0 (pv 0)) (g_int) set_list)) (t_cons (t_name (pg_name (i := 2) nd rfl (.inl rfl))) (t_nil) rfl) rfl))))) (s_one (s_ret (g_var 2 (pv 2))))) (s_nil)) (s_cons (s_asg (ps_asg (g_op o_add v_add (g_ix (g_var 0 (pv 0)) (g_int) (fun _ _ => rfl)) (g_int)) (t_sub (g_var 0 (pv 0)) (g_int) (pg_sub (g_var 0 (pv 0)) (g_int) set_list)))) (s_cons (s_set (ps_set (i := 3) nd rfl (.inl rfl) (g_blt (pe_callTy call_int1 (by rfl) T.int bt_int (g_cons (g_ix (g_var 0 (pv 0)) (g_int) (fun _ _ => rfl)) (g_nil) rfl)) v_int))) (s_cons (s_asg (ps_asg (g_op op_mod v_mod (g_blt (pe_callTy call_int1 (by rfl) T.int bt_int (g_cons (g_op o_add v_add (g_op o_add v_add (g_op o_mul v_mul (g_var 3 (pv 3)) (g_op o_add v_add (g_op op_mod v_mod (g_var 3 (pv 3)) (g_int)) (g_int))) (g_op o_mul v_mul (g_int) (g_ix (g_var 0 (pv 0)) (g_int) (fun _ _ => rfl)))) (g_int)) (g_nil) rfl)) v_int) (g_int)) (t_sub (g_var 0 (pv 0)) (g_int) (pg_sub (g_var 0 (pv 0)) (g_int) set_list)))) (s_one (s_ret (g_op op_mod v_mod (g_blt (pe_callTy call_int1 (by rfl) T.int bt_int (g_cons (g_op op_fdivW v_fdiv (g_ix (g_var 0 (pv 0)) (g_int) (fun _ _ => rfl)) (g_int)) (g_nil) rfl)) v_int) (g_var 1 (pv 1))))))))
theorem ok__law_pick (T : Bt mg) (XX : Xt K mg) (S : Std K mg "_law_pick" "_law_pick" s__law_pick) (c__law_draw : Kn P w K mg base "_law_draw" s__law_draw ["pool", "many"] 1 F__law_draw) : Kn P w K mg base "_law_pick" s__law_pick ["pool", "some"] 2 F__law_pick := by
  refine kn_of (N := ["pool", "some"]) (k := 1) (B := B__law_pick) S sc__law_pick rfl rfl (fun _ _ _ _ _ _ us hl => match us, hl with | [_, _], _ => rfl) fun f cdv A outer s' H E hr => ?_
  have nd := sc__law_pick.nd
  have tk : Takes (cxOf (L2.CX P w) P w K mg base ["pool", "some"] "_law_pick" (defScope s__law_pick) f cdv A outer s' H E) (Wd E) := takes_of rfl rfl rfl rfl
  exact s_one (s_ret (g_ix (g_var 1 (pv 1)) (g_calln c__law_draw (hr.mono (by decide)) (by rfl) tk (g_cons (g_var 0 (pv 0)) (g_cons (g_blt (pe_callB c_len (by rfl) T.len bt_len (g_cons (g_var 1 (pv 1)) (g_nil) rfl)) v_len) (g_nil) rfl) rfl) (by decide) rfl rfl) (fun _ _ => rfl)))
theorem ok__law_way (T : Bt mg) (XX : Xt K mg) (S : Std K mg "_law_way" "_law_way" s__law_way) : Kn P w K mg base "_law_way" s__law_way ["track", "one", "two"] 1 F__law_way_v2 := by
  refine kn_of (N := ["track", "one", "two", "found", "step", "here"]) (k := 0) (B := B__law_way_v2) S sc__law_way rfl rfl (fun _ _ _ _ _ _ us hl => match us, hl with | [_, _, _], _ => rfl) fun f cdv A outer s' H E hr => ?_
  have nd := sc__law_way.nd
  have tk : Takes (cxOf (L2.CX P w) P w K mg base ["track", "one", "two", "found", "step", "here"] "_law_way" (defScope s__law_way) f cdv A outer s' H E) (Wd E) := takes_of rfl rfl rfl rfl
  exact s_cons (s_set (ps_set (i := 3) nd rfl (.inl rfl) (g_ix (g_var 0 (pv 0)) (g_var 1 (pv 1)) (fun _ _ => rfl)))) (s_cons (s_for (ps_for (passes_of rfl) rfl (g_range2 (pi_range2 (by rfl) T.range (g_cons (g_int) (g_cons (g_blt (pe_callB c_len (by rfl) T.len bt_len (g_cons (g_var 0 (pv 0)) (g_nil) rfl)) v_len) (g_nil) rfl) rfl))) (t_tg (t := .nm 4) (pg_name (i := 4) nd rfl (by first | exact .inl rfl | exact .inr rfl))) (s_cons (s_set (ps_set (i := 5) nd rfl (.inl rfl) (g_op op_mod v_mod (g_blt (pe_callTy call_int1 (by rfl) T.int bt_int (g_cons (g_op o_add v_add (g_var 1 (pv 1)) (g_var 4 (pv 4))) (g_nil) rfl)) v_int) (g_blt (pe_callB c_len (by rfl) T.len bt_len (g_cons (g_var 0 (pv 0)) (g_nil) rfl)) v_len)))) (s_cons (s_if (g_tcmp (o_eq hr.units) v_eq (g_var 5 (pv 5)) (g_var 2 (pv 2)) (nomark _)) (s_one (s_ret (g_var 3 (pv 3)))) (s_nil)) (s_one (s_set (ps_set (i := 3) nd rfl (.inl rfl) (g_op o_add v_add (g_var 3 (pv 3)) (g_ix (g_var 0 (pv 0)) (g_var 5 (pv 5)) (fun _ _ => rfl)))))))))) (s_one (s_ret (g_var 3 (pv 3)))))
theorem ok__law_steps (T : Bt mg) (XX : Xt K mg) (S : Std K mg "_law_steps" "_law_steps" s__law_steps) : Kn P w K mg base "_law_steps" s__law_steps ["track", "one", "two"] 1 F__law_steps_v3 := by
  refine kn_of (N := ["track", "one", "two", "found"]) (k := 0) (B := B__law_steps_v3) S sc__law_steps rfl rfl (fun _ _ _ _ _ _ us hl => match us, hl with | [_, _, _], _ => rfl) fun f cdv A outer s' H E hr => ?_
  have nd := sc__law_steps.nd
  have tk : Takes (cxOf (L2.CX P w) P w K mg base ["track", "one", "two", "found"] "_law_steps" (defScope s__law_steps) f cdv A outer s' H E) (Wd E) := takes_of rfl rfl rfl rfl
  exact s_cons (s_set (ps_set (i := 3) nd rfl (.inl rfl) (g_op op_mod v_mod (g_blt (pe_callTy call_int1 (by rfl) T.int bt_int (g_cons (g_op op_sub v_sub (g_var 2 (pv 2)) (g_var 1 (pv 1))) (g_nil) rfl)) v_int) (g_blt (pe_callB c_len (by rfl) T.len bt_len (g_cons (g_var 0 (pv 0)) (g_nil) rfl)) v_len)))) (s_one (s_ret (g_if (g_tcmp op_gt (v_cmpI _) (g_var 3 (pv 3)) (g_int) (nomark _)) (g_var 3 (pv 3)) (g_blt (pe_callB c_len (by rfl) T.len bt_len (g_cons (g_var 0 (pv 0)) (g_nil) rfl)) v_len))))
theorem ok__law_drawn_row (T : Bt mg) (XX : Xt K mg) (S : Std K mg "_law_drawn_row" "_law_drawn_row" s__law_drawn_row) (c__law_pick : Kn P w K mg base "_law_pick" s__law_pick ["pool", "some"] 2 F__law_pick) (c__law_draw : Kn P w K mg base "_law_draw" s__law_draw ["pool", "many"] 1 F__law_draw) (c__law_way : Kn P w K mg base "_law_way" s__law_way ["track", "one", "two"] 1 F__law_way_v2) : Kn P w K mg base "_law_drawn_row" s__law_drawn_row ["pool", "track", "start", "many"] 3 F__law_drawn_row := by
  refine kn_of (N := ["pool", "track", "start", "many", "found", "here", "high", "step", "mat", "later"]) (k := 2) (B := B__law_drawn_row) S sc__law_drawn_row rfl rfl (fun _ _ _ _ _ _ us hl => match us, hl with | [_, _, _, _], _ => rfl) fun f cdv A outer s' H E hr => ?_
  have nd := sc__law_drawn_row.nd
  have tk : Takes (cxOf (L2.CX P w) P w K mg base ["pool", "track", "start", "many", "found", "here", "high", "step", "mat", "later"] "_law_drawn_row" (defScope s__law_drawn_row) f cdv A outer s' H E) (Wd E) := takes_of rfl rfl rfl rfl
  exact s_cons (s_par3 (ps_par3 (i := 4) (j := 5) (l := 6) rfl nd rfl rfl rfl (by decide) (by decide) (by decide) rfl rfl rfl (g_cons (g_mut (g_nil)) (g_cons (g_var 2 (pv 2)) (g_cons (g_calln c__law_pick (hr.mono (by decide)) (by rfl) tk (g_cons (g_var 0 (pv 0)) (g_cons (g_lst (g_cons (g_int) (g_cons (g_int) (g_cons (g_op o_mul v_mul (g_int) (g_blt (pe_callB (cq_sum rfl) (by rfl) T.sum bt_sum (g_cons (g_var 1 (pv 1)) (g_nil) rfl)) v_sum)) (g_nil) rfl) rfl) rfl)) (g_nil) rfl) rfl) (by decide) rfl rfl) (g_nil) rfl) rfl) rfl) (by rfl))) (s_cons (s_for (ps_for (passes_of rfl) rfl (g_range1 (pi_range1 (by rfl) T.range (g_cons (g_var 3 (pv 3)) (g_nil) rfl))) (t_tg (t := .nm 7) (pg_name (i := 7) nd rfl (by first | exact .inl rfl | exact .inr rfl))) (s_cons (s_set (ps_set (i := 8) nd rfl (.inl rfl) (g_calln c__law_draw (hr.mono (by decide)) (by rfl) tk (g_cons (g_var 0 (pv 0)) (g_cons (g_blt (pe_callB c_len (by rfl) T.len bt_len (g_cons (g_var 1 (pv 1)) (g_nil) rfl)) v_len) (g_nil) rfl) rfl) (by decide) rfl rfl))) (s_cons (s_set (ps_set (i := 9) nd rfl (.inl rfl) (g_op o_add v_add (g_op o_add v_add (g_ix (g_var 5 (pv 5)) (g_int) (fun _ _ => rfl)) (g_calln c__law_way (hr.mono (by decide)) (by rfl) tk (g_cons (g_var 1 (pv 1)) (g_cons (g_ix (g_var 5 (pv 5)) (g_int) (fun _ _ => rfl)) (g_cons (g_var 8 (pv 8)) (g_nil) rfl) rfl) rfl) (by decide) rfl rfl)) (g_calln c__law_pick (hr.mono (by decide)) (by rfl) tk (g_cons (g_var 0 (pv 0)) (g_cons (g_lst (g_cons (g_int) (g_cons (g_calln c__law_draw (hr.mono (by decide)) (by rfl) tk (g_cons (g_var 0 (pv 0)) (g_cons (g_var 6 (pv 6)) (g_nil) rfl) rfl) (by decide) rfl rfl) (g_cons (g_op o_mul v_mul (g_blt (pe_callB (cq_sum rfl) (by rfl) T.sum bt_sum (g_cons (g_var 1 (pv 1)) (g_nil) rfl)) v_sum) (g_calln c__law_draw (hr.mono (by decide)) (by rfl) tk (g_cons (g_var 0 (pv 0)) (g_cons (g_int) (g_nil) rfl) rfl) (by decide) rfl rfl)) (g_nil) rfl) rfl) rfl)) (g_nil) rfl) rfl) (by decide) rfl rfl)))) (s_cons (s_set (ps_set (i := 5) nd rfl (.inl rfl) (g_tup (g_cons (g_var 9 (pv 9)) (g_cons (g_var 8 (pv 8)) (g_nil) rfl) rfl)))) (s_one (s_expr (g_methL (pe_bm PySem.F.plainAttrs_list PySem.F.slot_list_append PySem.F.type_list_append mt_append (g_var 4 (pv 4)) (g_cons (g_var 5 (pv 5)) (g_nil) rfl)) v_append) rfl))))))) (s_one (s_ret (g_blt (pe_callTy call_tuple_of (by rfl) T.tuple bt_tuple (g_cons (g_var 4 (pv 4)) (g_nil) rfl)) v_tuple))))
theorem ok__law_drawn_bag (T : Bt mg) (XX : Xt K mg) (S : Std K mg "_law_drawn_bag" "_law_drawn_bag" s__law_drawn_bag) (c__law_pick : Kn P w K mg base "_law_pick" s__law_pick ["pool", "some"] 2 F__law_pick) (c__law_draw : Kn P w K mg base "_law_draw" s__law_draw ["pool", "many"] 1 F__law_draw) : Kn P w K mg base "_law_drawn_bag" s__law_drawn_bag ["pool", "track", "many"] 3 F__law_drawn_bag := by
  refine kn_of (N := ["pool", "track", "many", "found", "high", "step"]) (k := 2) (B := B__law_drawn_bag) S sc__law_drawn_bag rfl rfl (fun _ _ _ _ _ _ us hl => match us, hl with | [_, _, _], _ => rfl) fun f cdv A outer s' H E hr => ?_
  have nd := sc__law_drawn_bag.nd
  have tk : Takes (cxOf (L2.CX P w) P w K mg base ["pool", "track", "many", "found", "high", "step"] "_law_drawn_bag" (defScope s__law_drawn_bag) f cdv A outer s' H E) (Wd E) := takes_of rfl rfl rfl rfl
  exact s_cons (s_par (ps_par (i := 3) (j := 4) rfl nd rfl rfl (by decide) rfl rfl (g_cons (g_newT) (g_cons (g_calln c__law_pick (hr.mono (by decide)) (by rfl) tk (g_cons (g_var 0 (pv 0)) (g_cons (g_lst (g_cons (g_int) (g_cons (g_int) (g_cons (g_op o_mul v_mul (g_int) (g_blt (pe_callB (cq_sum rfl) (by rfl) T.sum bt_sum (g_cons (g_var 1 (pv 1)) (g_nil) rfl)) v_sum)) (g_nil) rfl) rfl) rfl)) (g_nil) rfl) rfl) (by decide) rfl rfl) (g_nil) rfl) rfl) (by rfl))) (s_cons (s_for (ps_for (passes_of rfl) rfl (g_range1 (pi_range1 (by rfl) T.range (g_cons (g_var 2 (pv 2)) (g_nil) rfl))) (t_tg (t := .nm 5) (pg_name (i := 5) nd rfl (by first | exact .inl rfl | exact .inr rfl))) (s_one (s_putT (ps_dput (room1 hr) (g_var 3 (pv 3)) (pe_tup (g_cons (g_calln c__law_draw (hr.mono (by decide)) (by rfl) tk (g_cons (g_var 0 (pv 0)) (g_cons (g_var 4 (pv 4)) (g_nil) rfl) rfl) (by decide) rfl rfl) (g_cons (g_calln c__law_draw (hr.mono (by decide)) (by rfl) tk (g_cons (g_var 0 (pv 0)) (g_cons (g_blt (pe_callB c_len (by rfl) T.len bt_len (g_cons (g_var 1 (pv 1)) (g_nil) rfl)) v_len) (g_nil) rfl) rfl) (by decide) rfl rfl) (g_nil) rfl) rfl)) (g_bl) rfl))))) (s_one (s_ret (g_blt (pe_callTy call_tuple_of (by rfl) T.tuple bt_tuple (g_cons (g_blt (pe_callB cr_sortedPQ (by rfl) T.sorted bt_sorted (g_cons (g_blt (pe_callTy (call_list_dT rfl) (by rfl) T.list bt_list (g_cons (g_var 3 (pv 3)) (g_nil) rfl)) v_listT) (g_nil) rfl)) v_srt) (g_nil) rfl)) v_tuple))))
theorem ok__law_paces (T : Bt mg) (XX : Xt K mg) (S : Std K mg "_law_paces" "_law_paces" s__law_paces) (c__law_steps : Kn P w K mg base "_law_steps" s__law_steps ["track", "one", "two"] 1 F__law_steps_v3) : Kn P w K mg base "_law_paces" s__law_paces ["many", "bags"] 2 F__law_paces := by
  refine kn_of (N := ["many", "bags", "found", "k", "at", "time", "one", "later", "two"]) (k := 1) (B := B__law_paces) S sc__law_paces rfl rfl (fun _ _ _ _ _ _ us hl => match us, hl with | [_, _], _ => rfl) fun f cdv A outer s' H E hr => ?_
  have nd := sc__law_paces.nd
  have tk : Takes (cxOf (L2.CX P w) P w K mg base ["many", "bags", "found", "k", "at", "time", "one", "later", "two"] "_law_paces" (defScope s__law_paces) f cdv A outer s' H E) (Wd E) := takes_of rfl rfl rfl rfl
  exact s_cons (s_set (ps_set (i := 2) nd rfl (.inl rfl) (g_newE))) (s_cons (s_for (ps_for (passes_of rfl) rfl (g_range1 (pi_range1 (by rfl) T.range (g_cons (g_blt (pe_callB c_len (by rfl) T.len bt_len (g_cons (g_var 1 (pv 1)) (g_nil) rfl)) v_len) (g_nil) rfl))) (t_tg (t := .nm 3) (pg_name (i := 3) nd rfl (by first | exact .inl rfl | exact .inr rfl))) (s_one (s_for (ps_for (passes_of rfl) rfl (g_range1 (pi_range1 (by rfl) T.range (g_cons (g_op op_sub v_sub (g_blt (pe_callB c_len (by rfl) T.len bt_len (g_cons (g_ix (g_var 1 (pv 1)) (g_var 3 (pv 3)) (fun _ _ => rfl)) (g_nil) rfl)) v_len) (g_int)) (g_nil) rfl))) (t_tg (t := .nm 4) (pg_name (i := 4) nd rfl (by first | exact .inl rfl | exact .inr rfl))) (s_cons (s_asg (ps_asg (g_tup (g_cons (g_ix (g_ix (g_var 1 (pv 1)) (g_var 3 (pv 3)) (fun _ _ => rfl)) (g_var 4 (pv 4)) (fun _ _ => rfl)) (g_cons (g_ix (g_ix (g_var 1 (pv 1)) (g_var 3 (pv 3)) (fun _ _ => rfl)) (g_op o_add v_add (g_var 4 (pv 4)) (g_int)) (fun _ _ => rfl)) (g_nil) rfl) rfl)) (t_tup (pg_tup rfl (t_cons (t_tup (pg_tup rfl (t_cons (t_name (pg_name (i := 5) nd rfl (.inl rfl))) (t_cons (t_name (pg_name (i := 6) nd rfl (.inl rfl))) (t_nil) rfl) rfl))) (t_cons (t_tup (pg_tup rfl (t_cons (t_name (pg_name (i := 7) nd rfl (.inl rfl))) (t_cons (t_name (pg_name (i := 8) nd rfl (.inl rfl))) (t_nil) rfl) rfl))) (t_nil) rfl) rfl))))) (s_one (s_putDS (ps_dput (room1 hr) (g_var 2 (pv 2)) (g_tup (g_cons (g_var 3 (pv 3)) (g_cons (g_var 4 (pv 4)) (g_nil) rfl) rfl)) (g_op op_fdivW v_fdiv (g_op op_sub v_sub (g_var 7 (pv 7)) (g_var 5 (pv 5))) (g_calln c__law_steps (hr.mono (by decide)) (by rfl) tk (g_cons (g_op o_mul v_mul (g_tup (g_cons (g_int) (g_nil) rfl)) (g_var 0 (pv 0))) (g_cons (g_var 6 (pv 6)) (g_cons (g_var 8 (pv 8)) (g_nil) rfl) rfl) rfl) (by decide) rfl rfl)) rfl))))))))) (s_one (s_ret (g_var 2 (pv 2)))))
theorem ok__law_bags_right (T : Bt mg) (XX : Xt K mg) (S : Std K mg "_law_bags_right" "_law_bags_right" s__law_bags_right) (c__law_paces : Kn P w K mg base "_law_paces" s__law_paces ["many", "bags"] 2 F__law_paces) (c_pace : Kn P w K mg base "pace" s_pace ["mats", "bags"] 10 F_pace) (c_tight_gap : Kn P w K mg base "tight_gap" s_tight_gap ["mats", "bags"] 10 F_tight_gap) (c_is_row : Kn P w K mg base "is_row" s_is_row ["track", "bag"] 9 F_is_row) : Kn P w K mg base "_law_bags_right" s__law_bags_right ["many", "bags"] 11 F__law_bags_right := by
  refine kn_of (N := ["many", "bags", "all_paces", "due", "told", "key", "bag"]) (k := 10) (B := B__law_bags_right) S sc__law_bags_right rfl rfl (fun _ _ _ _ _ _ us hl => match us, hl with | [_, _], _ => rfl) fun f cdv A outer s' H E hr => ?_
  have nd := sc__law_bags_right.nd
  have tk : Takes (cxOf (L2.CX P w) P w K mg base ["many", "bags", "all_paces", "due", "told", "key", "bag"] "_law_bags_right" (defScope s__law_bags_right) f cdv A outer s' H E) (Wd E) := takes_of rfl rfl rfl rfl
  exact s_cons (s_set (ps_set (i := 2) nd rfl (.inr rfl) (g_calln c__law_paces (hr.mono (by decide)) (by rfl) tk (g_cons (g_var 0 (pv 0)) (g_cons (g_var 1 (pv 1)) (g_nil) rfl) rfl) (by decide) rfl rfl))) (s_cons (s_set (ps_set (i := 3) nd rfl (.inr rfl) (g_if (g_tneE0 hr.units0 (g_var 2 (pv 2))) (g_blt (pe_callB (c_min rfl) (by rfl) T.min bt_min (g_cons (g_lcT (by decide) (pe_lc (own := [("key", 5)]) rfl nd (pi_keysTL (g_var 2 (pv 2))) (blkOk_by (N := ["many", "bags", "all_paces", "due", "told", "key", "bag"]) (sc := defScope s__law_bags_right) (by decide +kernel)) (fun _ _ _ _ _ => pg_name (i := 5) nd rfl (by first | exact .inl rfl | exact .inr rfl)) (fun _ _ _ _ _ => g_yes) (fun _ _ _ _ _ => g_getD (pe_dget (room1 hr) (g_var 2 (pv 2)) (g_var 5 (pv 5)) (fun _ _ => rfl))))) (g_nil) rfl)) v_min) (g_non)))) (s_cons (s_if (g_tcmp (o_ne hr.units) v_ne (g_blt (pe_callB (cr_repr hr) (by rfl) T.repr bt_repr (g_cons (g_lst (g_cons (g_calln c_pace (hr.mono (by decide)) (by rfl) tk (g_cons (g_var 0 (pv 0)) (g_cons (g_var 1 (pv 1)) (g_nil) rfl) rfl) (by decide) rfl rfl) (g_cons (g_callkn0 (ks := ["bags", "mats"]) (ix := [1, 0]) c_pace (hr.mono (by decide)) (by rfl) tk (fun _ _ _ _ _ _ _ us ws h1 h2 => match us, ws, h1, h2 with | [], [_, _], _, _ => rfl) (k_cons (g_var 1 (pv 1)) (k_cons (g_var 0 (pv 0)) (k_nil))) rfl rfl (by decide) rfl) (g_nil) rfl) rfl)) (g_nil) rfl)) v_repr) (g_blt (pe_callB (cr_repr hr) (by rfl) T.repr bt_repr (g_cons (g_lst (g_cons (g_var 3 (pv 3)) (g_cons (g_var 3 (pv 3)) (g_nil) rfl) rfl)) (g_nil) rfl)) v_repr) (nomark _)) (s_one (s_ret (g_bl))) (s_nil)) (s_cons (s_for (ps_for (passes_of rfl) rfl (g_iter (g_lst (g_cons (g_calln c_tight_gap (hr.mono (by decide)) (by rfl) tk (g_cons (g_var 0 (pv 0)) (g_cons (g_var 1 (pv 1)) (g_nil) rfl) rfl) (by decide) rfl rfl) (g_cons (g_callkn0 (ks := ["bags", "mats"]) (ix := [1, 0]) c_tight_gap (hr.mono (by decide)) (by rfl) tk (fun _ _ _ _ _ _ _ us ws h1 h2 => match us, ws, h1, h2 with | [], [_, _], _, _ => rfl) (k_cons (g_var 1 (pv 1)) (k_cons (g_var 0 (pv 0)) (k_nil))) rfl rfl (by decide) rfl) (g_nil) rfl) rfl))) (t_tg (t := .nm 4) (pg_name (i := 4) nd rfl (by first | exact .inl rfl | exact .inr rfl))) (s_one (s_if ((g_or (g_tcmp (o_ne hr.units) v_ne (g_cmp op_isN v_isN (g_var 4 (pv 4)) (g_non) (nomark _)) (g_cmp op_isN v_isN (g_var 3 (pv 3)) (g_non) (nomark _)) (nomark _)) (g_or1 ((g_and (g_tcmp op_notN v_notN (g_var 4 (pv 4)) (g_non) (nomark _)) (g_and1 ((g_or (g_tnot (g_tval (g_isi .tup (g_var 4 (pv 4)) (fun h => pe_callB call_isi (by rfl) T.isinstance bt_isinstance (pa_cons h (pa_cons (pe_bltn (by rfl) T.tuple bt_tuple rfl) pa_nil)))) (by intro _; rfl))) (g_or (g_tnotInDD (pt_cmp (pc_dnotin (room1 hr) (g_var 4 (pv 4)) (g_var 2 (pv 2))))) (g_or1 (g_tcmp (o_ne hr.units) v_ne (g_getD (pe_dget (room1 hr) (g_var 2 (pv 2)) (g_var 4 (pv 4)) (fun _ _ => rfl))) (g_var 3 (pv 3)) (nomark _))))).pt))).pt))).pt) (s_one (s_ret (g_bl))) (s_nil))))) (s_cons (s_if (g_tcmp op_isN v_isN (g_var 3 (pv 3)) (g_non) (nomark _)) (s_one (s_ret (g_bl))) (s_nil)) (s_cons (s_if ((g_and (g_tcmp op_gt (v_cmpI _) (g_var 3 (pv 3)) (g_int) (nomark _)) (g_and1 (g_tcmp (o_ne hr.units) v_ne (g_lc (by decide) (pe_lc (own := [("bag", 6)]) rfl nd (g_iter (g_var 1 (pv 1))) (blkOk_by (N := ["many", "bags", "all_paces", "due", "told", "key", "bag"]) (sc := defScope s__law_bags_right) (by decide +kernel)) (fun _ _ _ _ _ => pg_name (i := 6) nd rfl (by first | exact .inl rfl | exact .inr rfl)) (fun _ _ _ _ _ => g_ifs (g_tcmp op_notBl v_notB (g_calln c_is_row (hr.mono (by decide)) (by rfl) takes0 (g_cons (g_op o_mul v_mul (g_tup (g_cons (g_var 3 (pv 3)) (g_nil) rfl)) (g_var 0 (pv 0))) (g_cons (g_var 6 (pv 6)) (g_nil) rfl) rfl) (by decide) rfl rfl) (g_bl) (nomark _))) (fun _ _ _ _ _ => g_var 6 (pv 6)))) (g_lst (g_nil)) (nomark _)))).pt) (s_one (s_ret (g_bl))) (s_nil)) (s_one (s_ret (g_cmp (o_ne hr.units) v_ne (g_lc (by decide) (pe_lc (own := [("bag", 6)]) rfl nd (g_iter (g_var 1 (pv 1))) (blkOk_by (N := ["many", "bags", "all_paces", "due", "told", "key", "bag"]) (sc := defScope s__law_bags_right) (by decide +kernel)) (fun _ _ _ _ _ => pg_name (i := 6) nd rfl (by first | exact .inl rfl | exact .inr rfl)) (fun _ _ _ _ _ => g_ifs (g_tcmp op_notBl v_notB (g_calln c_is_row (hr.mono (by decide)) (by rfl) takes0 (g_cons (g_op o_mul v_mul (g_tup (g_cons (g_op o_add v_add (g_var 3 (pv 3)) (g_int)) (g_nil) rfl)) (g_var 0 (pv 0))) (g_cons (g_var 6 (pv 6)) (g_nil) rfl) rfl) (by decide) rfl rfl) (g_bl) (nomark _))) (fun _ _ _ _ _ => g_var 6 (pv 6)))) (g_lst (g_nil)) (nomark _)))))))))
theorem ok__law_right (T : Bt mg) (XX : Xt K mg) (S : Std K mg "_law_right" "_law_right" s__law_right) (c__law_draw : Kn P w K mg base "_law_draw" s__law_draw ["pool", "many"] 1 F__law_draw) (c__law_pick : Kn P w K mg base "_law_pick" s__law_pick ["pool", "some"] 2 F__law_pick) (c__law_drawn_row : Kn P w K mg base "_law_drawn_row" s__law_drawn_row ["pool", "track", "start", "many"] 3 F__law_drawn_row) (c__law_drawn_bag : Kn P w K mg base "_law_drawn_bag" s__law_drawn_bag ["pool", "track", "many"] 3 F__law_drawn_bag) (c__law_bags_right : Kn P w K mg base "_law_bags_right" s__law_bags_right ["many", "bags"] 11 F__law_bags_right) (c_pace : Kn P w K mg base "pace" s_pace ["mats", "bags"] 10 F_pace) (c_tight_gap : Kn P w K mg base "tight_gap" s_tight_gap ["mats", "bags"] 10 F_tight_gap) : Kn P w K mg base "_law_right" s__law_right ["pool"] 12 F__law_right := by
  refine kn_of (N := ["pool", "turn", "many", "even", "some", "bags", "told", "lap"]) (k := 11) (B := B__law_right) S sc__law_right rfl rfl (fun _ _ _ _ _ _ us hl => match us, hl with | [_], _ => rfl) fun f cdv A outer s' H E hr => ?_
  have nd := sc__law_right.nd
  have tk : Takes (cxOf (L2.CX P w) P w K mg base ["pool", "turn", "many", "even", "some", "bags", "told", "lap"] "_law_right" (defScope s__law_right) f cdv A outer s' H E) (Wd E) := takes_of rfl rfl rfl rfl
  exact s_cons (s_for (ps_for (passes_of rfl) rfl (g_range1 (pi_range1 (by rfl) T.range (g_cons (g_int) (g_nil) rfl))) (t_tg (t := .nm 1) (pg_name (i := 1) nd rfl (by first | exact .inl rfl | exact .inr rfl))) (s_cons (s_set (ps_set (i := 2) nd rfl (.inl rfl) (g_op o_add v_add (g_int) (g_calln c__law_draw (hr.mono (by decide)) (by rfl) tk (g_cons (g_var 0 (pv 0)) (g_cons (g_int) (g_nil) rfl) rfl) (by decide) rfl rfl)))) (s_cons (s_set (ps_set (i := 3) nd rfl (.inr rfl) (g_op o_mul v_mul (g_tup (g_cons (g_op o_add v_add (g_int) (g_calln c__law_draw (hr.mono (by decide)) (by rfl) tk (g_cons (g_var 0 (pv 0)) (g_cons (g_calln c__law_pick (hr.mono (by decide)) (by rfl) tk (g_cons (g_var 0 (pv 0)) (g_cons (g_lst (g_cons (g_int) (g_cons (g_int) (g_cons (g_op op_pow v_pow (g_int) (g_int)) (g_nil) rfl) rfl) rfl)) (g_nil) rfl) rfl) (by decide) rfl rfl) (g_nil) rfl) rfl) (by decide) rfl rfl)) (g_nil) rfl)) (g_var 2 (pv 2))))) (s_cons (s_setLc (by decide) (ps_setLc (i := 4) (own := [("lap", 7)]) rfl nd rfl rfl (sw_true rfl rfl rfl (by decide +kernel)) (g_range1 (pi_range1 (by rfl) T.range (g_cons (g_op o_add v_add (g_int) (g_calln c__law_draw (hr.mono (by decide)) (by rfl) tk (g_cons (g_var 0 (pv 0)) (g_cons (g_int) (g_nil) rfl) rfl) (by decide) rfl rfl)) (g_nil) rfl))) (blkOk_by (N := ["pool", "turn", "many", "even", "some", "bags", "told", "lap"]) (sc := defScope s__law_right) (by decide +kernel)) (fun _ _ _ _ _ => pg_name (i := 7) nd rfl (by first | exact .inl rfl | exact .inr rfl)) (fun _ _ _ _ _ => g_yes) (fun _ _ _ _ _ => g_calln c__law_drawn_row (hr.mono (by decide)) (by rfl) takes0 (g_cons (g_var 0 (pv 0)) (g_cons (g_var 3 (pv 3)) (g_cons (g_tup (g_cons (g_calln c__law_draw (hr.mono (by decide)) (by rfl) takes0 (g_cons (g_var 0 (pv 0)) (g_cons (g_int) (g_nil) rfl) rfl) (by decide) rfl rfl) (g_cons (g_int) (g_nil) rfl) rfl)) (g_cons (g_op o_add v_add (g_int) (g_calln c__law_draw (hr.mono (by decide)) (by rfl) takes0 (g_cons (g_var 0 (pv 0)) (g_cons (g_int) (g_nil) rfl) rfl) (by decide) rfl rfl)) (g_nil) rfl) rfl) rfl) rfl) (by decide) rfl rfl))) (s_one (s_for (ps_for (passes_of rfl) rfl (g_iter (g_lst (g_cons (g_blt (pe_callTy call_tuple_of (by rfl) T.tuple bt_tuple (g_cons (g_var 4 (pv 4)) (g_nil) rfl)) v_tuple) (g_cons (g_blt (pe_callTy call_tuple_of (by rfl) T.tuple bt_tuple (g_cons (g_op o_add v_add (g_var 4 (pv 4)) (g_lst (g_cons (g_tup (g_nil)) (g_nil) rfl))) (g_nil) rfl)) v_tuple) (g_cons (g_blt (pe_callTy call_tuple_of (by rfl) T.tuple bt_tuple (g_cons (g_op o_add v_add (g_var 4 (pv 4)) (g_lst (g_cons (g_calln c__law_drawn_bag (hr.mono (by decide)) (by rfl) tk (g_cons (g_var 0 (pv 0)) (g_cons (g_var 3 (pv 3)) (g_cons (g_int) (g_nil) rfl) rfl) rfl) (by decide) rfl rfl) (g_nil) rfl))) (g_nil) rfl)) v_tuple) (g_cons (g_tup (g_cons (g_tup (g_nil)) (g_cons (g_tup (g_cons (g_tup (g_cons (g_int) (g_cons (g_int) (g_nil) rfl) rfl)) (g_nil) rfl)) (g_nil) rfl) rfl)) (g_cons (g_tup (g_cons (g_tup (g_nil)) (g_nil) rfl)) (g_nil) rfl) rfl) rfl) rfl) rfl))) (t_tg (t := .nm 5) (pg_name (i := 5) nd rfl (by first | exact .inl rfl | exact .inr rfl))) (s_one (s_if (g_tnot (g_tval (g_calln c__law_bags_right (hr.mono (by decide)) (by rfl) tk (g_cons (g_var 2 (pv 2)) (g_cons (g_var 5 (pv 5)) (g_nil) rfl) rfl) (by decide) rfl rfl) (by intro _; rfl))) (s_one (s_ret (g_bl))) (s_nil))))))))))) (s_cons (s_set (ps_set (i := 6) nd rfl (.inl rfl) (g_lst (g_cons (g_calln c_pace (hr.mono (by decide)) (by rfl) tk (g_cons (g_int) (g_cons (g_tup (g_cons (g_tup (g_cons (g_tup (g_cons (g_int) (g_cons (g_int) (g_nil) rfl) rfl)) (g_cons (g_tup (g_cons (g_int) (g_cons (g_int) (g_nil) rfl) rfl)) (g_cons (g_tup (g_cons (g_int) (g_cons (g_int) (g_nil) rfl) rfl)) (g_nil) rfl) rfl) rfl)) (g_nil) rfl)) (g_nil) rfl) rfl) (by decide) rfl rfl) (g_cons (g_calln c_tight_gap (hr.mono (by decide)) (by rfl) tk (g_cons (g_int) (g_cons (g_tup (g_cons (g_tup (g_cons (g_tup (g_cons (g_int) (g_cons (g_int) (g_nil) rfl) rfl)) (g_cons (g_tup (g_cons (g_int) (g_cons (g_int) (g_nil) rfl) rfl)) (g_cons (g_tup (g_cons (g_int) (g_cons (g_int) (g_nil) rfl) rfl)) (g_nil) rfl) rfl) rfl)) (g_nil) rfl)) (g_nil) rfl) rfl) (by decide) rfl rfl) (g_cons (g_calln c_pace (hr.mono (by decide)) (by rfl) tk (g_cons (g_int) (g_cons (g_tup (g_cons (g_tup (g_cons (g_tup (g_cons (g_int) (g_cons (g_int) (g_nil) rfl) rfl)) (g_nil) rfl)) (g_cons (g_tup (g_nil)) (g_nil) rfl) rfl)) (g_nil) rfl) rfl) (by decide) rfl rfl) (g_cons (g_calln c_pace (hr.mono (by decide)) (by rfl) tk (g_cons (g_int) (g_cons (g_tup (g_cons (g_tup (g_cons (g_tup (g_cons (g_int) (g_cons (g_int) (g_nil) rfl) rfl)) (g_cons (g_tup (g_cons (g_int) (g_cons (g_int) (g_nil) rfl) rfl)) (g_nil) rfl) rfl)) (g_nil) rfl)) (g_nil) rfl) rfl) (by decide) rfl rfl) (g_nil) rfl) rfl) rfl) rfl)))) (s_one (s_ret (g_cmp (o_eq hr.units) v_eq (g_var 6 (pv 6)) (g_lst (g_cons (g_int) (g_cons (g_tup (g_cons (g_int) (g_cons (g_int) (g_nil) rfl) rfl)) (g_cons (g_non) (g_cons (g_int) (g_nil) rfl) rfl) rfl) rfl)) (nomark _)))))
theorem ok_law (T : Bt mg) (XX : Xt K mg) (S : Std K mg "law" "law" s_law) (c__law_right : Kn P w K mg base "_law_right" s__law_right ["pool"] 12 F__law_right) (c__law_pool : Kn P w K mg base "_law_pool" s__law_pool ["script", "turn"] 1 F__law_pool) : Kn P w K mg base "law" s_law ["script"] 13 F_law := by
  refine kn_of (N := ["script", "turn"]) (k := 12) (B := B_law) S sc_law rfl rfl (fun _ _ _ _ _ _ us hl => match us, hl with | [_], _ => rfl) fun f cdv A outer s' H E hr => ?_
  have nd := sc_law.nd
  have tk : Takes (cxOf (L2.CX P w) P w K mg base ["script", "turn"] "law" (defScope s_law) f cdv A outer s' H E) (Wd E) := takes_of rfl rfl rfl rfl
  exact s_cons (s_for (ps_for (passes_of rfl) rfl (g_range1 (pi_range1 (by rfl) T.range (g_cons (g_blt (pe_callB (c_max rfl) (by rfl) T.max bt_max (g_cons (g_int) (g_cons (g_blt (pe_callB (c_min rfl) (by rfl) T.min bt_min (g_cons (g_blt (pe_callB c_len (by rfl) T.len bt_len (g_cons (g_var 0 (pv 0)) (g_nil) rfl)) v_len) (g_cons (g_int) (g_nil) rfl) rfl)) v_min) (g_nil) rfl) rfl)) v_max) (g_nil) rfl))) (t_tg (t := .nm 1) (pg_name (i := 1) nd rfl (by first | exact .inl rfl | exact .inr rfl))) (s_one (s_if (g_tnot (g_tval (g_calln c__law_right (hr.mono (by decide)) (by rfl) tk (g_cons (g_calln c__law_pool (hr.mono (by decide)) (by rfl) tk (g_cons (g_var 0 (pv 0)) (g_cons (g_var 1 (pv 1)) (g_nil) rfl) rfl) (by decide) rfl rfl) (g_nil) rfl) (by decide) rfl rfl) (by intro _; rfl))) (s_one (s_ret (g_bl))) (s_nil))))) (s_one (s_ret (g_bl)))
end
end K71
namespace Lap
open PySem G
theorem big_ge : 2 ^ 1000 ≤ big := by unfold big; exact Nat.pow_le_pow_right (by decide) (by decide)
section
variable (st : Sto)
theorem f_round_by (ts : List Int) : F_round_by [tupI ts] st = .ok (.int ts.sum) st := by
  simp [F_round_by, runF, B_round_by]
theorem f_sectors_from (ts : List Int) (m : Nat) (hl : ts.length ≤ 100) : F_sectors_from [tupI ts, .int m] st = .ok (lstI (ts.drop m ++ ts.take m)) st := by
  have : ts.length - m + min m ts.length ≤ 16777216 := by omega
  simp [F_sectors_from, runF, B_sectors_from, cutL_from, cutL_to, this, lstI]
def reachI (ts : List Int) (m n : Nat) : Int := ((n / ts.length : Nat) : Int) * ts.sum + ((ts.drop m ++ ts.take m).take (n % ts.length)).sum
theorem f_reach_by (ts : List Int) (m n : Nat) (h0 : 0 < ts.length) (hl : ts.length ≤ 100) (hn : n < big) (hs : ts.sum.natAbs < big) : F_reach_by [tupI ts, .int m, .int n] st = .ok (.int (reachI ts m n)) st := by
  have hd := divmodF_nat st n ts.length h0 (.inl (by omega))
  have hq : n / ts.length ≤ n := Nat.div_le_self _ _
  unfold reachI
  generalize n / ts.length = q at hd hq ⊢
  generalize n % ts.length = r at hd ⊢
  have h2 : mulOk (q : Int) ts.sum := .inr (.inr ⟨by omega, hs⟩)
  simp [-divmodF_int, F_reach_by, runF, B_reach_by, f_round_by, f_sectors_from, hl, hd, h2, cutL_to]
theorem f_is_whole_int (i : Int) : F_is_whole [.int i] st = .ok (.bl true) st := by
  simp [F_is_whole, runF, B_is_whole, isiB]
theorem f_is_between (v lo hi : Int) : F_is_between [.int v, .int lo, .int hi] st = .ok (.bl (decide (lo ≤ v ∧ v ≤ hi))) st := by
  by_cases h : lo ≤ v <;> simp [F_is_between, runF, B_is_between, f_is_whole_int, h]
theorem f_is_up_to (v m : Int) : F_is_up_to [.int v, .int m] st = .ok (.bl (decide (0 ≤ v ∧ v ≤ m))) st := by
  simp [F_is_up_to, runF, B_is_up_to, f_is_between]
theorem f_is_from (v l : Int) : F_is_from [.int v, .int l] st = .ok (.bl (decide (l ≤ v))) st := by
  simp [F_is_from, runF, B_is_from, f_is_whole_int]
theorem f_is_tuple_up_to (ts : List Int) (lo hi : Int) : F_is_tuple_up_to [tupI ts, .int lo, .int hi] st = .ok (.bl (decide (lo ≤ ts.length ∧ (ts.length : Int) ≤ hi))) st := by
  by_cases h : lo ≤ ts.length <;> simp [F_is_tuple_up_to, runF, B_is_tuple_up_to, isiB, h]
structure Trk (ts : List Int) : Prop where
  pos : 1 ≤ ts.length
  le : ts.length ≤ 8
  one : ∀ x ∈ ts, 1 ≤ x
theorem f_is_track_of {ts : List Int} (h : Trk ts) : F_is_track_of [tupI ts] st = .ok (.bl true) st := by
  have e : lcE (iterE (varE 0)) (.nm 1) yesB (callE F_is_from (consA (varE 1) (consA (cE (.int 1)) nilA))) [1] [some (tupI ts), none] st = .ok (lstB (ts.map fun x => decide (1 ≤ x))) st := by
    have := lc_map (t := .nm 1) (fe := callE F_is_from (consA (varE 1) (consA (cE (.int 1)) nilA))) (envw := [some (tupI ts), none]) (st := st) (fun d => match d with | .int x => .bl (decide (1 ≤ x)) | d => d) (ts.map D.int) [] (by have := h.le; simp; omega) (by
      intro x hx
      obtain ⟨y, _, rfl⟩ := List.mem_map.mp hx
      exact ⟨[some (tupI ts), some (.int y)], by simp, by simp [f_is_from]⟩)
    simp [this, lstB]
  have h2 : (ts.length : Int) ≤ 8 := by have := h.le; omega
  have h3 : (1 : Int) ≤ ts.length := by have := h.pos; omega
  have h4 := h.one
  simp [-lcE_eq, F_is_track_of, runF, B_is_track_of, f_is_tuple_up_to, h2, h3, e]
  simpa using h4
theorem f_is_mat_of {ts : List Int} (v : Int) : F_is_mat_of [tupI ts, .int v] st = .ok (.bl (decide (0 ≤ v ∧ v ≤ ts.length - 1))) st := by
  simp [F_is_mat_of, runF, B_is_mat_of, f_is_up_to]
theorem f_check_track {ts : List Int} (h : Trk ts) : F_check_track [tupI ts] st = .ok .non st := by
  simp [F_check_track, runF, B_check_track, f_is_track_of st h]
end
def at_ (ts : List Int) (i : Nat) : Int := ts.getD (i % ts.length) 0
def walkI (ts : List Int) (m n : Nat) : Int := ((List.range n).map fun i => at_ ts (m + i)).sum
theorem at_mod (ts : List Int) (a b : Nat) : at_ ts (a % ts.length + b) = at_ ts (a + b) := by
  unfold at_; rw [Nat.mod_add_mod]
theorem walk_succ (ts : List Int) (m n : Nat) : walkI ts m (n + 1) = walkI ts m n + at_ ts (m + n) := by
  unfold walkI; rw [List.range_succ]; simp
theorem walk_add (ts : List Int) (m a b : Nat) : walkI ts m (a + b) = walkI ts m a + walkI ts (m + a) b := by
  induction b with
  | zero => simp [walkI]
  | succ b ih => rw [← Nat.add_assoc, walk_succ, ih, walk_succ, Nat.add_assoc m a b]; omega
theorem walk_mod (ts : List Int) (a n : Nat) : walkI ts (a % ts.length) n = walkI ts a n := by
  unfold walkI; congr 1; apply List.map_congr_left; intro i _; exact at_mod ts a i
theorem rest_eq (ts : List Int) (m r : Nat) (hm : m < ts.length) (hr : r ≤ ts.length) : (ts.drop m ++ ts.take m).take r = (List.range r).map fun i => at_ ts (m + i) := by
  apply List.ext_getElem?
  intro i
  by_cases hi : i < r
  · rw [List.getElem?_take, if_pos hi, List.getElem?_map, List.getElem?_range hi, Option.map_some]
    unfold at_
    by_cases h : m + i < ts.length
    · rw [Nat.mod_eq_of_lt h, List.getElem?_append_left (by simp; omega), List.getElem?_drop, List.getD_eq_getElem?_getD, List.getElem?_eq_getElem h]; rfl
    · have e : (m + i) % ts.length = m + i - ts.length := by rw [Nat.mod_eq_sub_mod (by omega), Nat.mod_eq_of_lt (by omega)]
      rw [e, List.getElem?_append_right (by simp; omega), List.length_drop, List.getElem?_take, if_pos (by omega), List.getD_eq_getElem?_getD, show i - (ts.length - m) = m + i - ts.length by omega, List.getElem?_eq_getElem (by omega)]; rfl
  · rw [List.getElem?_eq_none (by simp; omega), List.getElem?_eq_none (by simp; omega)]
theorem sum_perm (ts : List Int) (m : Nat) : (ts.drop m ++ ts.take m).sum = ts.sum := by
  have := List.take_append_drop m ts
  conv => rhs; rw [← this]
  rw [List.sum_append, List.sum_append]; omega
theorem walk_round (ts : List Int) (m : Nat) (h : 0 < ts.length) : walkI ts m ts.length = ts.sum := by
  rw [← walk_mod]
  have hm : m % ts.length < ts.length := Nat.mod_lt _ h
  unfold walkI
  rw [← rest_eq ts _ _ hm (Nat.le_refl _), List.take_of_length_le (by simp; omega), sum_perm]
theorem walk_rounds (ts : List Int) (m : Nat) (h : 0 < ts.length) : ∀ q : Nat, walkI ts m (ts.length * q) = (q : Int) * ts.sum
  | 0 => by simp [walkI]
  | q + 1 => by rw [Nat.mul_succ, walk_add, walk_rounds ts m h q, walk_round ts _ h]; push_cast; rw [Int.add_mul]; omega
theorem reachI_eq (ts : List Int) (m n : Nat) (hm : m < ts.length) : reachI ts m n = walkI ts m n := by
  have h : 0 < ts.length := by omega
  have hr := Nat.mod_lt n h
  unfold reachI
  rw [rest_eq ts m _ hm (by omega)]
  conv => rhs; rw [← Nat.div_add_mod n ts.length, walk_add, walk_rounds ts m h]
  congr 1
  rw [← walk_mod, Nat.add_mul_mod_self_left, walk_mod]; rfl
theorem sum_le {ts : List Int} {w : Int} (h : ∀ x ∈ ts, 1 ≤ x ∧ x ≤ w) : 0 ≤ ts.sum ∧ ts.sum ≤ ts.length * w := by
  induction ts with
  | nil => simp
  | cons x ts ih =>
    obtain ⟨a, b⟩ := ih fun y hy => h y (List.mem_cons_of_mem _ hy)
    obtain ⟨c, d⟩ := h x List.mem_cons_self
    simp only [List.sum_cons, List.length_cons]
    push_cast
    rw [Int.add_mul]; omega
end Lap
namespace Lap
open PySem G
theorem at_ge {ts : List Int} (h : Trk ts) (i : Nat) : 1 ≤ at_ ts i := by
  have hl : i % ts.length < ts.length := Nat.mod_lt _ h.pos
  unfold at_
  rw [List.getD_eq_getElem?_getD, List.getElem?_eq_getElem hl]
  exact h.one _ (List.getElem_mem hl)
theorem walk_mono {ts : List Int} (h : Trk ts) (m a b : Nat) : walkI ts m a + b ≤ walkI ts m (a + b) := by
  induction b with
  | zero => simp
  | succ b ih =>
    have := at_ge h (m + (a + b))
    rw [← Nat.add_assoc, walk_succ]; push_cast; omega
theorem sum_pos {ts : List Int} (h : Trk ts) : (ts.length : Int) ≤ ts.sum := by
  have := walk_mono h 0 0 ts.length
  rw [Nat.zero_add, walk_round ts 0 h.pos] at this
  simpa [walkI] using this
theorem walk_le_of {ts : List Int} (h : Trk ts) (m : Nat) {a b : Nat} (hab : a ≤ b) : walkI ts m a ≤ walkI ts m b := by
  obtain ⟨c, rfl⟩ := Nat.exists_eq_add_of_le hab
  have := walk_mono h m a c
  omega
theorem walk_ge {ts : List Int} (h : Trk ts) (m n : Nat) : (n : Int) ≤ walkI ts m n := by
  have := walk_mono h m 0 n
  simpa [walkI] using this
end Lap
namespace Lap
open PySem G
def stepsN (M m o : Nat) : Nat := (o + M - m - 1) % M + 1
theorem steps_cases {M m o : Nat} (hm : m < M) (ho : o < M) : (m < o ∧ stepsN M m o = o - m) ∨ (o ≤ m ∧ stepsN M m o = o + M - m) := by
  unfold stepsN
  by_cases h : m < o
  · refine .inl ⟨h, ?_⟩
    rw [show o + M - m - 1 = (o - m - 1) + M by omega, Nat.add_mod_right, Nat.mod_eq_of_lt (by omega)]; omega
  · refine .inr ⟨by omega, ?_⟩
    rw [Nat.mod_eq_of_lt (by omega)]; omega
theorem steps_to {M m o : Nat} (hm : m < M) (ho : o < M) : (m + stepsN M m o) % M = o := by
  rcases steps_cases hm ho with ⟨h, e⟩ | ⟨h, e⟩
  · rw [e, show m + (o - m) = o by omega, Nat.mod_eq_of_lt ho]
  · rw [e, show m + (o + M - m) = o + M by omega, Nat.add_mod_right, Nat.mod_eq_of_lt ho]
theorem steps_rng {M m o : Nat} (hm : m < M) (ho : o < M) : 1 ≤ stepsN M m o ∧ stepsN M m o ≤ M := by
  rcases steps_cases hm ho with ⟨h, e⟩ | ⟨h, e⟩ <;> omega
theorem steps_int {M m o : Nat} (hm : m < M) (ho : o < M) : ((o : Int) - m - 1) % M + 1 = (stepsN M m o : Nat) := by
  unfold stepsN
  have : ((o : Int) - m - 1) % M = ((o + M - m - 1 : Nat) : Int) % M := by
    rw [show ((o + M - m - 1 : Nat) : Int) = (o - m - 1) + M by omega, Int.add_emod_right]
  rw [this]; push_cast; rfl
theorem steps_first {M m o d : Nat} (hm : m < M) (ho : o < M) (hd : 1 ≤ d) (h : d ≤ stepsN M m o) : (m + d) % M = o ↔ d = stepsN M m o := by
  constructor
  · intro e
    rcases steps_cases hm ho with ⟨h1, e1⟩ | ⟨h1, e1⟩
    · rw [Nat.mod_eq_of_lt (by omega)] at e; omega
    · by_cases k : m + d < M
      · rw [Nat.mod_eq_of_lt k] at e; omega
      · rw [Nat.mod_eq_sub_mod (by omega), Nat.mod_eq_of_lt (by omega)] at e; omega
  · rintro rfl; exact steps_to hm ho
theorem steps_over {M a b c : Nat} (ha : a < M) (hb : b < M) (hc : c < M) : stepsN M a b + stepsN M b c = stepsN M a c ∨ stepsN M a b + stepsN M b c = stepsN M a c + M := by
  rcases steps_cases ha hb with ⟨h, e⟩ | ⟨h, e⟩ <;> rcases steps_cases hb hc with ⟨h2, e2⟩ | ⟨h2, e2⟩ <;> rcases steps_cases ha hc with ⟨h3, e3⟩ | ⟨h3, e3⟩ <;> omega
def wayI (ts : List Int) (m o : Nat) : Int := walkI ts m (stepsN ts.length m o)
theorem walk_there (ts : List Int) {m o : Nat} (hm : m < ts.length) (ho : o < ts.length) (n : Nat) : walkI ts (m + stepsN ts.length m o) n = walkI ts o n := by
  rw [← walk_mod ts (m + _), steps_to hm ho]
theorem way_over {ts : List Int} {a b c : Nat} (ha : a < ts.length) (hb : b < ts.length) (hc : c < ts.length) : wayI ts a b + wayI ts b c - wayI ts a c = 0 ∨ wayI ts a b + wayI ts b c - wayI ts a c = ts.sum := by
  have h0 : 0 < ts.length := by omega
  unfold wayI
  rw [← walk_there ts ha hb, ← walk_add]
  rcases steps_over ha hb hc with e | e
  · rw [e]; left; omega
  · rw [e, walk_add, walk_round ts _ h0]; right; omega
section
variable (st : Sto)
theorem f_steps_by {ts : List Int} {m o : Nat} (hm : m < ts.length) (ho : o < ts.length) : F_steps_by [tupI ts, .int m, .int o] st = .ok (.int (stepsN ts.length m o)) st := by
  have h0 : 0 < ts.length := by omega
  rw [← steps_int hm ho]
  simp [F_steps_by, runF, B_steps_by, h0]
theorem f_way_by {ts : List Int} (h : Trk ts) {m o : Nat} (hm : m < ts.length) (ho : o < ts.length) (hs : ts.sum.natAbs < big) : F_way_by [tupI ts, .int m, .int o] st = .ok (.int (wayI ts m o)) st := by
  have hb := big_ge
  have hr := steps_rng hm ho
  have h8 := h.le
  have := f_reach_by st ts m (stepsN ts.length m o) (by omega) (by omega) (by omega) hs
  rw [reachI_eq ts _ _ hm] at this
  simp [F_way_by, runF, B_way_by, f_steps_by st hm ho, this, wayI]
end
theorem _root_.G.One.two {F : FA} (hF : One F) {st : Sto} {n : Nat} (a b : Int) (hp : Pool n st) : ∃ w st', F [.mut n, .tup [.int a, .int b]] st = .ok (.int w) st' ∧ (w = a ∨ w = b) ∧ Pool n st' ∧ Eff n st st' := by
  obtain ⟨d, s1, e1, hd, hp1, he⟩ := hF (xs := [.int a, .int b]) hp (by simp) (by simp)
  rcases hd with _ | ⟨_, _ | ⟨_, hd⟩⟩
  · exact ⟨a, s1, e1, .inl rfl, hp1, he⟩
  · exact ⟨b, s1, e1, .inr rfl, hp1, he⟩
  · cases hd
structure DT (ts : List Int) (w : Int) : Prop where
  t : Trk ts
  b : ∀ x ∈ ts, 1 ≤ x ∧ x ≤ w
  s : ts.sum ≤ 8 * w
  p : (ts.length : Int) ≤ ts.sum
  w : 1 ≤ w
theorem DT.of {ts : List Int} {w : Int} (hw : 1 ≤ w) (t1 : 1 ≤ ts.length) (t2 : (ts.length : Int) ≤ 8) (t3 : ∀ x ∈ ts, 1 ≤ x ∧ x ≤ w) : DT ts w := by
  have hT : Trk ts := ⟨t1, by omega, fun x hx => (t3 x hx).1⟩
  refine ⟨hT, t3, ?_, sum_pos hT, hw⟩
  have := (sum_le t3).2
  have := Int.mul_le_mul_of_nonneg_right t2 (show 0 ≤ w by omega)
  omega
theorem _root_.G.Track.dt {F : FA} (hF : Track F 8) {st : Sto} {n : Nat} {w : Int} (hp : Pool n st) (hw : 1 ≤ w) : ∃ ts st', F [.mut n, .int w] st = .ok (tupI ts) st' ∧ DT ts w ∧ Pool n st' ∧ Eff n st st' := by
  obtain ⟨ts, s2, e2, t1, t2, t3, hp2, he⟩ := hF hp hw
  exact ⟨ts, s2, e2, .of hw t1 t2 t3, hp2, he⟩
end Lap
namespace Lap
open PySem G
def bagD (b : List P2) : D := .tup (b.map pairD)
def MatOk (ts : List Int) (p : P2) : Prop := 0 ≤ p.1 ∧ 0 ≤ p.2 ∧ p.2 < ts.length
instance (ts : List Int) (p : P2) : Decidable (MatOk ts p) := by unfold MatOk; infer_instance
structure BagOk (ts : List Int) (b : List P2) : Prop where
  len : b.length ≤ 30
  ok : ∀ p ∈ b, MatOk ts p
  up : b.Pairwise ltP2
theorem BagOk.sub {ts : List Int} {b c : List P2} (h : BagOk ts b) (s : c.Sublist b) : BagOk ts c :=
  ⟨Nat.le_trans s.length_le h.len, fun p hp => h.ok p (s.subset hp), h.up.sublist s⟩
def followB (ts : List Int) (p q : P2) : Bool := decide (p.1 - q.1 ≥ wayI ts q.2.toNat p.2.toNat)
theorem way_pos {ts : List Int} (h : Trk ts) {m o : Nat} (hm : m < ts.length) (ho : o < ts.length) : 1 ≤ wayI ts m o := by
  have := walk_ge h m (stepsN ts.length m o)
  have := (steps_rng hm ho).1
  unfold wayI; omega
theorem follow_lt {ts : List Int} (h : Trk ts) {p q : P2} (hp : MatOk ts p) (hq : MatOk ts q) (f : followB ts p q = true) : q.1 < p.1 := by
  obtain ⟨a, b, c⟩ := hp
  obtain ⟨d, e, g⟩ := hq
  have := way_pos h (m := q.2.toNat) (o := p.2.toNat) (by omega) (by omega)
  unfold followB at f
  have := of_decide_eq_true f
  omega
theorem follow_tr {ts : List Int} (h : Trk ts) {p q r : P2} (hp : MatOk ts p) (hq : MatOk ts q) (hr : MatOk ts r) (f : followB ts p q = true) (g : followB ts q r = true) : followB ts p r = true := by
  obtain ⟨a, b, c⟩ := hp
  obtain ⟨d, e, i⟩ := hq
  obtain ⟨j, k, l⟩ := hr
  have hs := sum_pos h
  have := way_over (ts := ts) (a := r.2.toNat) (b := q.2.toNat) (c := p.2.toNat) (by omega) (by omega) (by omega)
  unfold followB at *
  have f := of_decide_eq_true f
  have g := of_decide_eq_true g
  apply decide_eq_true
  omega
section
variable (st : Sto)
@[simp] theorem ix_pair0 (p : P2) : ixD (pairD p) (.int 0) st = .ok (.int p.1) st := ixD_tup _ _ _ rfl
@[simp] theorem ix_pair1 (p : P2) : ixD (pairD p) (.int 1) st = .ok (.int p.2) st := ixD_tup _ _ _ rfl
@[simp] theorem len_bag (b : List P2) : lenF [bagD b] st = .ok (.int b.length) st := by unfold bagD; rw [lenF_tup, List.length_map]
@[simp] theorem isi_bag (c : Tag) (b : List P2) : isiD c (bagD b) st = .ok (.bl (isiB .tup c)) st := rfl
@[simp] theorem isi_pair (c : Tag) (b : P2) : isiD c (pairD b) st = .ok (.bl (isiB .tup c)) st := rfl
@[simp] theorem len_pair (p : P2) : lenF [pairD p] st = .ok (.int 2) st := by unfold pairD; rw [lenF_tup]; rfl
@[simp] theorem iter_bag (b : List P2) : iterD (bagD b) st = .ok (.frz (b.map pairD)) st := rfl
theorem ix_bag (b : List P2) (i : Nat) (h : i < b.length) : ixD (bagD b) (.int i) st = .ok (pairD b[i]) st := by
  unfold bagD
  have := atI_nat' (b.map pairD) i (by simpa using h)
  rw [List.getElem_map] at this
  exact ixD_tup _ _ _ this
@[simp] theorem slice_bag (b : List P2) (l h : Option Int) : sliceD (bagD b) l h st = .ok (bagD (cutL b l h)) st := by unfold bagD; rw [sliceD_tup, cutD_map]
theorem le_pair (p q : P2) : leD (pairD p) (pairD q) st = .ok (.bl (!decide (ltP2 q p))) st := by
  show R.ok (D.bl (lexLe [p.1, p.2] [q.1, q.2])) st = _
  have e : lexLe [p.1, p.2] [q.1, q.2] = if p.1 = q.1 then (if p.2 = q.2 then true else decide (p.2 ≤ q.2)) else decide (p.1 ≤ q.1) := rfl
  rw [e]
  refine congrArg (fun b => R.ok (D.bl b) st) ?_
  rcases ltP2_tri p q with h | h | h
  · have h' : ¬ ltP2 q p := fun z => ltP2_irr p (ltP2_tr h z)
    rw [decide_eq_false h']
    unfold ltP2 at h
    split
    · split
      · rfl
      · exact decide_eq_true (by omega)
    · exact decide_eq_true (by omega)
  · subst h
    rw [if_pos rfl, if_pos rfl, decide_eq_false (ltP2_irr p)]; rfl
  · rw [decide_eq_true h]
    unfold ltP2 at h
    split
    · split
      · omega
      · exact decide_eq_false (by omega)
    · exact decide_eq_false (by omega)
theorem f_is_pair (p : P2) : F_is_pair [pairD p] st = .ok (.bl true) st := by
  simp [F_is_pair, runF, B_is_pair, F_is_tuple_of, B_is_tuple_of, F_is_tuple_up_to, B_is_tuple_up_to, isiB]
theorem f_is_mark_of {ts : List Int} (p : P2) : F_is_mark_of [tupI ts, pairD p] st = .ok (.bl (decide (MatOk ts p))) st := by
  have e : decide (MatOk ts p) = (decide (0 ≤ p.1) && decide (0 ≤ p.2 ∧ p.2 ≤ ts.length - 1)) := by
    unfold MatOk
    by_cases h1 : 0 ≤ p.1 <;> by_cases h2 : 0 ≤ p.2 <;> by_cases h3 : p.2 < ts.length <;> simp [h1, h2, h3] <;> omega
  rw [e]
  by_cases h : 0 ≤ p.1 <;> simp [F_is_mark_of, runF, B_is_mark_of, f_is_pair, f_is_from, f_is_mat_of, h]
theorem f_wrong_in_bag {ts : List Int} {b : List P2} (h : BagOk ts b) : F_wrong_in_bag [tupI ts, bagD b] st = .ok (.lst []) st := by
  have h30 := h.len
  have e0 : F_is_tuple_up_to [bagD b, .int 0, .int 30] st = .ok (.bl true) st := by
    have : (b.length : Int) ≤ 30 := by omega
    simp [F_is_tuple_up_to, runF, B_is_tuple_up_to, isiB, this]
  obtain ⟨env', s', e, q2, q3, rfl, rfl⟩ := loop_nx (g := tgT (.tp [.nm 2, .nm 3])) (body := ifS (orB (notB (tstE (callE F_is_mark_of (consA (varE 0) (consA (varE 3) (nilA)))))) (andB (tstE (binE gtD (varE 2) (cE (.int 0)))) (tstE (binE leD (varE 3) (binE ixD (varE 1) (binE subD (varE 2) (cE (.int 1)))))))) (retS (lstE (consA (varE 2) (nilA)))) (passS))
    (fun j env s => ∃ q2 q3 : Option D, env = [some (tupI ts), some (bagD b), q2, q3] ∧ s = st)
    (xs := enumL (b.map pairD)) (env := [some (tupI ts), some (bagD b), none, none]) (st := st) ⟨_, _, rfl, rfl⟩
    (by
      rintro j x env s hx ⟨q2, q3, rfl, rfl⟩
      obtain ⟨y, hy, rfl⟩ := enumL_get hx
      rw [List.getElem?_map] at hy
      obtain ⟨p, hp, rfl⟩ := Option.map_eq_some_iff.mp hy
      obtain ⟨hj, ep⟩ := List.getElem?_eq_some_iff.mp hp
      have hm : MatOk ts p := h.ok p (List.mem_of_getElem? hp)
      refine ⟨_, s, ?_, some (.int j), some (pairD p), rfl, rfl⟩
      by_cases h0 : 0 < j
      · have k1 : (j : Int) - 1 = ((j - 1 : Nat) : Int) := by omega
        have k2 := ix_bag s b (j - 1) (by omega)
        have k3 : ltP2 b[j - 1] p := by
          rw [← ep]
          exact List.pairwise_iff_getElem.mp h.up (j - 1) j (by omega) hj (by omega)
        have k4 : 0 < (j : Int) := by omega
        have k5 := le_pair s p b[j - 1]
        rw [decide_eq_true k3] at k5
        simp [Tg.set, Tg.sets, f_is_mark_of, hm, h0, k1, k2, k5]
      · have k4 : ¬ 0 < (j : Int) := by omega
        simp [Tg.set, Tg.sets, f_is_mark_of, hm, h0, k4])
  have ee : enumF [bagD b] s' = .ok (.frz (enumL (b.map pairD))) s' := rfl
  simp [F_wrong_in_bag, runF, B_wrong_in_bag, e0, ee, e]
theorem f_check_bag {ts : List Int} {b : List P2} (h : BagOk ts b) : F_check_bag [tupI ts, bagD b] st = .ok .non st := by
  simp [F_check_bag, runF, B_check_bag, f_wrong_in_bag st h]
theorem f_check_tracked {ts : List Int} {b : List P2} (hT : Trk ts) (h : BagOk ts b) : F_check_tracked [tupI ts, bagD b] st = .ok .non st := by
  simp [F_check_tracked, runF, B_check_tracked, f_check_track st hT, f_check_bag st h]
theorem f_can_follow_by {ts : List Int} (hT : Trk ts) (hs : ts.sum.natAbs < big) {p q : P2} (hp : MatOk ts p) (hq : MatOk ts q) : F_can_follow_by [tupI ts, pairD p, pairD q] st = .ok (.bl (followB ts p q)) st := by
  obtain ⟨a, b, c⟩ := hp
  obtain ⟨d, e, g⟩ := hq
  have := f_way_by st hT (m := q.2.toNat) (o := p.2.toNat) (by omega) (by omega) hs
  rw [show ((q.2.toNat : Nat) : Int) = q.2 by omega, show ((p.2.toNat : Nat) : Int) = p.2 by omega] at this
  simp [F_can_follow_by, runF, B_can_follow_by, this, followB]
end
end Lap
namespace Lap
open PySem G
theorem lc_typedF {α : Type} {t : Tg} {tt : EvB} {fe : EvE} {envw : G.Env} {st : Sto} (f h : α → D) (p : α → Bool) : ∀ (as : List α) (acc : List D), acc.length + as.length ≤ 16777216 →
    (∀ a ∈ as, ∃ env1, t.set (f a) envw = some env1 ∧ tt env1 st = .ok (p a) st ∧ (p a = true → fe env1 st = .ok (h a) st)) → lcF t tt fe envw (as.map f) st acc = .ok (acc ++ (as.filter p).map h) st
  | [], acc, _, _ => by simp [lcF]
  | a :: as, acc, hl, hx => by
    obtain ⟨env1, h1, ht, h2⟩ := hx a List.mem_cons_self
    simp only [List.length_cons] at hl
    rw [List.map_cons]
    unfold lcF
    rw [turnC_if h1 ht h2 (by omega), lc_typedF f h p as _ (by split <;> (try simp only [List.length_append, List.length_cons, List.length_nil]) <;> omega) fun y hy => hx y (List.mem_cons_of_mem _ hy)]
    cases e : p a with
    | false => simp [e]
    | true => simp [e]
theorem enumL_typed {α : Type} (f : α → D) (z : α) (xs : List α) : enumL (xs.map f) = (List.range xs.length).map fun (i : Nat) => D.tup [.int i, f (xs.getD i z)] := by
  apply List.ext_getElem?
  intro i
  rw [List.getElem?_map]
  by_cases hi : i < xs.length
  · rw [List.getElem?_range hi]
    unfold enumL
    rw [List.getElem?_zipWith, List.length_map, List.getElem?_range hi, List.getElem?_map, List.getElem?_eq_getElem hi]
    simp [List.getD, hi]
  · rw [List.getElem?_eq_none (by simp; omega), List.getElem?_eq_none (by simp; omega)]; rfl
def RowP (ts : List Int) (b : List P2) : Prop := b.Pairwise fun q p => followB ts p q = true
theorem row_snoc {ts : List Int} (hT : Trk ts) {b : List P2} {p : P2} (hb : ∀ q ∈ b, MatOk ts q) (hp : MatOk ts p) (h : RowP ts b) (hl : b = [] ∨ ∃ q, b.getLast? = some q ∧ followB ts p q = true) : RowP ts (b ++ [p]) := by
  unfold RowP
  rw [List.pairwise_append]
  refine ⟨h, List.pairwise_singleton _ _, fun q hq r hr => ?_⟩
  rw [List.mem_singleton.mp hr]
  rcases hl with rfl | ⟨l, el, f⟩
  · cases hq
  · obtain ⟨b', rfl⟩ := List.getLast?_eq_some_iff.mp el
    rcases List.mem_append.mp hq with hq' | hq'
    · have := (List.pairwise_append.mp h).2.2 q hq' l (by simp)
      exact follow_tr hT hp (hb l (by simp)) (hb q hq) f this
    · rw [List.mem_singleton.mp hq']; exact f
end Lap
namespace Lap
open PySem G
section
variable (st : Sto)
def pairPD (p : P2) : PyData := .tuple [.int p.1, .int p.2]
theorem toPD_pair (p : P2) : toPD (pairD p) = some (pairPD p) := by simp [pairD, toPD, toPDs, pairPD]
theorem toPDs_pairs : ∀ b : List P2, toPDs (b.map pairD) = some (b.map pairPD)
  | [] => by simp [toPDs]
  | p :: b => by simp [toPDs, toPD_pair, toPDs_pairs b]
theorem canLay_pairs : ∀ b : List P2, PyData.canLayAll0 (b.map pairPD) = true
  | [] => by simp [PyData.canLayAll0]
  | p :: b => by simp [PyData.canLayAll0, pairPD, PyData.canLay0, canLay_pairs b]
theorem depth_pairs : ∀ b : List P2, PyData.depthAll (b.map pairPD) ≤ 1
  | [] => by simp [PyData.depthAll]
  | p :: b => by
    have := depth_pairs b
    simp [PyData.depthAll, pairPD, PyData.depth] at this ⊢
    omega
theorem length_insP (p : P2) : ∀ l : List P2, (insP p l).length ≤ l.length + 1
  | [] => by simp [insP]
  | q :: r => by
    unfold insP
    split
    · simp
    · split
      · simp
      · have := length_insP p r
        simp only [List.length_cons]; omega
theorem length_ssP : ∀ l : List P2, (ssP l).length ≤ l.length
  | [] => Nat.le_refl _
  | p :: l => by
    have h1 := length_insP p (ssP l)
    have h2 := length_ssP l
    show (insP p (ssP l)).length ≤ _
    simp only [List.length_cons]; omega
theorem bag_of {ts : List Int} {ps : List P2} (h : ∀ p ∈ ps, MatOk ts p) (hl : ps.length ≤ 30) : BagOk ts (ssP ps) :=
  ⟨Nat.le_trans (length_ssP ps) hl, fun p hp => h p (mem_ssP.mp hp), sorted_ssP⟩
end
end Lap
namespace Lap
open PySem G
structure RowOk (ts : List Int) (b : List P2) : Prop where
  ok : ∀ p ∈ b, MatOk ts p
  row : RowP ts b
theorem RowOk.bag {ts : List Int} (hT : Trk ts) {b : List P2} (h : RowOk ts b) (hl : b.length ≤ 30) : BagOk ts b :=
  ⟨hl, h.ok, by
    refine List.Pairwise.imp_of_mem (fun {p q} hp hq f => ?_) h.row
    exact .inl (follow_lt hT (h.ok q hq) (h.ok p hp) f)⟩
theorem app_mut {st : Sto} {q : Nat} {xs : List D} (x : D) (h : st[q]? = some (.lst xs)) (hl : xs.length < 1000000) : appF (.mut q) [x] st = .ok .non (st.set q (.lst (xs ++ [x]))) := by
  have : xs.length < 16777216 := by omega
  simp [appF, h, this]
theorem isL_mut {st : Sto} {q : Nat} {xs : List D} (h : st[q]? = some (.lst xs)) : isL (.mut q) st = true := by simp [isL, h]
theorem set_other {st : Sto} {n q : Nat} {mo : MO} (h : n ≠ q) (hp : Pool n st) : Pool n (st.set q mo) := by
  obtain ⟨a, b, c, hp⟩ := hp
  exact ⟨a, b, c, by rw [List.getElem?_set_ne (fun z => h z.symm)]; exact hp⟩
structure RowAt (ts : List Int) (n q j : Nat) (b0 : P2) (c : Int) (b : List P2) (t : Int) (m : Nat) (s : Sto) : Prop where
  pool : Pool n s
  at_ : s[q]? = some (.lst (b.map pairD))
  len : b.length = j
  ok : RowOk ts b
  t0 : 0 ≤ t
  m0 : m < ts.length
  last : (b = [] ∧ b0 = (t, (m : Int))) ∨ b.getLast? = some (t, (m : Int))
  ge : b0.1 ≤ t
  le : t ≤ b0.1 + j * c
  all : ∀ p ∈ b, b0.1 ≤ p.1 ∧ p.1 ≤ t
end Lap
namespace Lap
open PySem G
def gapsL (b : List P2) : List (P2 × P2) := b.zip (b.drop 1)
theorem gaps_len (b : List P2) : (gapsL b).length = b.length - 1 := by unfold gapsL; simp
theorem gaps_get (b : List P2) (i : Nat) (h : i + 1 < b.length) : (gapsL b)[i]'(by rw [gaps_len]; omega) = (b[i], b[i + 1]) := by
  unfold gapsL
  simp [Nat.add_comm 1 i]
theorem gaps_mem {b : List P2} {g : P2 × P2} (h : g ∈ gapsL b) : g.1 ∈ b ∧ g.2 ∈ b := by
  have := List.of_mem_zip h
  exact ⟨this.1, List.mem_of_mem_drop this.2⟩
theorem toPDs_ints : ∀ b : List Int, toPDs (b.map D.int) = some (b.map PyData.int)
  | [] => by simp [toPDs]
  | p :: b => by simp [toPDs, toPD, toPDs_ints b]
theorem canLay_ints : ∀ b : List Int, PyData.canLayAll0 (b.map PyData.int) = true
  | [] => rfl
  | p :: b => by simp [PyData.canLayAll0, PyData.canLay0, canLay_ints b]
theorem depth_ints : ∀ b : List Int, PyData.depthAll (b.map PyData.int) = 0
  | [] => rfl
  | p :: b => by simp [PyData.depthAll, PyData.depth, depth_ints b]
theorem shaped_ints (b : List Int) : SeqAt.shaped (.tuple (b.map PyData.int)) = true := by
  simp [SeqAt.shaped, PyData.canLay0, canLay_ints, PyData.depth, depth_ints]
end Lap
namespace Lap
open PySem G
def pat (row : List P2) (i : Nat) : P2 := row.getD i (0, 0)
theorem pat_get {row : List P2} {i : Nat} (h : i < row.length) : pat row i = row[i] := by unfold pat; rw [List.getD_eq_getElem?_getD, List.getElem?_eq_getElem h]; rfl
def wrongI (ts : List Int) (b : List P2) : List Int := ((List.range (b.length - 1)).filter fun i => !followB ts (pat b (i + 1)) (pat b i)).map fun (i : Nat) => (1 + (i : Int))
theorem wrong_nil {ts : List Int} {b : List P2} : wrongI ts b = [] ↔ ∀ i, i + 1 < b.length → followB ts (pat b (i + 1)) (pat b i) = true := by
  unfold wrongI
  rw [List.map_eq_nil_iff, List.filter_eq_nil_iff]
  constructor
  · intro h i hi
    have := h i (List.mem_range.mpr (by omega))
    simpa using this
  · intro h i hi
    have := h i (by have := List.mem_range.mp hi; omega)
    simp [this]
theorem eqO_lstI_nil (l : List Int) : eqO (lstI l) (.lst []) = some (decide (l = [])) := by
  unfold eqO
  have h1 : scalD (lstI l) (.lst []) = none := rfl
  have h2 : toPD (lstI l) = some (.list (l.map PyData.int)) := by unfold lstI toPD; rw [toPDs_ints]; rfl
  have h3 : toPD (.lst []) = some (.list []) := by simp [toPD, toPDs]
  rw [h1, h2, h3]
  show (if SeqAt.shaped (.list (l.map PyData.int)) = true ∧ SeqAt.shaped (.list []) = true then _ else _) = _
  rw [if_pos ⟨by simp [SeqAt.shaped, PyData.canLay0, canLay_ints, PyData.depth, depth_ints], by simp [SeqAt.shaped, PyData.canLay0, PyData.canLayAll0, PyData.depth, PyData.depthAll]⟩]
  cases l with
  | nil => simp [PyData.eqv, PyData.eqvAll]
  | cons p b => simp [PyData.eqv, PyData.eqvAll]
section
variable (st : Sto)
theorem eq_lstI_nil (l : List Int) : eqD (lstI l) (.lst []) st = .ok (.bl (decide (l = []))) st := by unfold eqD; rw [eqO_lstI_nil]
theorem wrong_lc {ts : List Int} {FC : FA} {b : List P2} (hF : ∀ p ∈ b, ∀ q ∈ b, FC [tupI ts, pairD p, pairD q] st = .ok (.bl (followB ts p q)) st) (h30 : b.length ≤ 1000) :
    lcF (.nm 2) (notB (tstE (callE FC (consA (varE 0) (consA (binE ixD (varE 1) (varE 2)) (consA (binE ixD (varE 1) (binE subD (varE 2) (cE (.int 1)))) (nilA))))))) (varE 2) [some (tupI ts), some (bagD b), none] (rangeD 1 (b.length - 1)) st [] = .ok ((wrongI ts b).map D.int) st := by
  have e := lc_typedF (t := .nm 2) (tt := notB (tstE (callE FC (consA (varE 0) (consA (binE ixD (varE 1) (varE 2)) (consA (binE ixD (varE 1) (binE subD (varE 2) (cE (.int 1)))) (nilA))))))) (fe := varE 2) (envw := [some (tupI ts), some (bagD b), none]) (st := st)
    (fun (i : Nat) => D.int (1 + i)) (fun (i : Nat) => D.int (1 + i)) (fun i => !followB ts (pat b (i + 1)) (pat b i)) (List.range (b.length - 1)) [] (by simp; omega) (by
      intro i hi
      have hi := List.mem_range.mp hi
      refine ⟨[some (tupI ts), some (bagD b), some (.int (1 + i))], by simp, ?_, fun z => by simp⟩
      have k1 : (1 : Int) + i = ((i + 1 : Nat) : Int) := by push_cast; omega
      have k2 : ((i + 1 : Nat) : Int) - 1 = (i : Int) := by push_cast; omega
      have x1 := ix_bag st b (i + 1) (by omega)
      have x2 := ix_bag st b i (by omega)
      have f := hF _ (List.getElem_mem (l := b) (n := i + 1) (by omega)) _ (List.getElem_mem (l := b) (n := i) (by omega))
      rw [pat_get (by omega), pat_get (by omega)]
      generalize followB ts b[i + 1] b[i] = v at *
      simp [-Int.natCast_add, k1, k2, x1, x2, f])
  rw [List.nil_append] at e
  have er : rangeD 1 (b.length - 1) = (List.range (b.length - 1)).map fun (i : Nat) => D.int (1 + i) := rfl
  rw [er, e]
  unfold wrongI
  rw [List.map_map]; rfl
theorem f_wrong_marks_by {ts : List Int} (hT : Trk ts) (hs : ts.sum.natAbs < big) {b : List P2} (hb : ∀ p ∈ b, MatOk ts p) (h30 : b.length ≤ 1000) : F_wrong_marks_by [tupI ts, bagD b] st = .ok (lstI (wrongI ts b)) st := by
  have e := wrong_lc st (FC := F_can_follow_by) (fun p hp q hq => f_can_follow_by st hT hs (hb p hp) (hb q hq)) h30
  have k2 : ((b.length : Int) - 1).toNat = b.length - 1 := by omega
  have k3 : b.length < 4611686018427387904 := by omega
  unfold lstI
  generalize (wrongI ts b).map D.int = l at *
  simp [F_wrong_marks_by, runF, B_wrong_marks_by, k2, k3, e]
theorem f_is_row_gen {ts : List Int} (hT : Trk ts) (hs : ts.sum.natAbs < big) {b : List P2} (h : BagOk ts b) : F_is_row [tupI ts, bagD b] st = .ok (.bl (decide (wrongI ts b = []))) st := by
  have e := f_wrong_marks_by st hT hs h.ok (by have := h.len; omega)
  have e2 := eq_lstI_nil st (wrongI ts b)
  have e0 := f_check_tracked st hT h
  generalize decide (wrongI ts b = []) = v at *
  generalize lstI (wrongI ts b) = l at *
  simp [F_is_row, runF, B_is_row, F_is_row_by, B_is_row_by, e0, e, e2]
end
end Lap
namespace Lap
open PySem PySem.Spec PyProof.Rows L2 G
theorem set_set {st : Sto} {q : Nat} {a b : MO} : (st.set q a).set q b = st.set q b := by simp
end Lap
namespace Lap
open PySem G
theorem oneA_lst {FB : FA} (hB : Below FB) {st : Sto} {n : Nat} {xs : List D} (hp : Pool n st) (h1 : xs ≠ []) (h2 : xs.length < 1000000000) :
    ∃ d st', runF 2 2 (oneA FB) [.mut n, .lst xs] st = .ok d st' ∧ d ∈ xs ∧ Pool n st' ∧ Eff n st st' := by
  have hl : 0 < xs.length := List.length_pos_iff.mpr h1
  obtain ⟨v, s1, e1, v0, v1, hp1, he1⟩ := hB (m := xs.length) hp (by omega) (by omega)
  obtain ⟨k, rfl⟩ := Int.eq_ofNat_of_zero_le v0
  have hk : k < xs.length := by omega
  have x1 : ixD (.lst xs) (.int k) s1 = .ok xs[k] s1 := ixD_lst _ _ _ (by
    rw [atI_nat' _ k hk])
  refine ⟨xs[k], s1, ?_, List.getElem_mem hk, hp1, he1⟩
  simp [runF, oneA, e1, x1]
end Lap
namespace Lap
open PySem G
def poolK (a1 a2 a3 M : Int) : SvS := seqS (parS 2 3 (consA (ifE (tstE (binE ltD (varE 1) (callE lenF (consA (varE 0) (nilA))))) (callE intF (consA (binE ixD (varE 0) (varE 1)) (nilA))) (binE addD (binE mulD (cE (.int 70001)) (varE 1)) (cE (.int a1)))) (consA (binE addD (cE (.int a2)) (binE mulD (cE (.int 5087)) (varE 1))) (nilA)))) (seqS (forS (iterE (sliceE (varE 0) (noO) (someO (cE (.int 63))))) (tgT (.nm 4)) (asgS (binE modD (callE intF (consA (binE addD (binE addD (binE mulD (varE 3) (cE (.int 48271))) (binE modD (callE intF (consA (varE 4) (nilA))) (cE (.int M)))) (cE (.int a3))) (nilA))) (cE (.int M))) (nameT 3))) (retS (mutE (consA (binE modD (callE intF (consA (binE addD (varE 3) (binE mulD (varE 2) (cE (.int 1013)))) (nilA))) (cE (.int M))) (consA (ifE (orB (tstE (binE ltD (varE 2) (cE (.int 0)))) (tstE (binE geD (varE 2) (binE powD (cE (.int 10)) (cE (.int 18)))))) (callE absF (consA (varE 2) (nilA))) (cE (.int 0))) (consA (cE (.int 0)) (nilA)))))))
def drawK (M : Int) : SvS := seqS (ifS (tstE (binE gtD (binE ixD (varE 0) (cE (.int 1))) (cE (.int 0)))) (seqS (asgS (callE divmodF (consA (binE ixD (varE 0) (cE (.int 1))) (consA (varE 1) (nilA)))) (tupT 2 (consT (subT (varE 0) (cE (.int 1))) (consT (nameT 2) (nilT))))) (retS (varE 2))) (passS)) (seqS (asgS (binE addD (binE ixD (varE 0) (cE (.int 2))) (cE (.int 1))) (subT (varE 0) (cE (.int 2)))) (seqS (asgS (callE intF (consA (binE ixD (varE 0) (cE (.int 0))) (nilA))) (nameT 3)) (seqS (asgS (binE modD (callE intF (consA (binE addD (binE addD (binE mulD (varE 3) (binE addD (binE modD (varE 3) (cE (.int 20011))) (cE (.int 30011)))) (binE mulD (cE (.int 70001)) (binE ixD (varE 0) (cE (.int 2))))) (cE (.int 9))) (nilA))) (cE (.int M))) (subT (varE 0) (cE (.int 0)))) (retS (binE modD (callE intF (consA (binE fdivD (binE ixD (varE 0) (cE (.int 0))) (cE (.int 128))) (nilA))) (varE 1))))))
def rowK (FD FP : FA) : SvS := seqS (parS3 4 5 6 (consA (mutE (nilA)) (consA (varE 2) (consA (callE FP (consA (varE 0) (consA (lstE (consA (cE (.int 1)) (consA (cE (.int 3)) (consA (binE mulD (cE (.int 2)) (callE sumF (consA (varE 1) (nilA)))) (nilA))))) (nilA)))) (nilA))))) (seqS (forS (callI range1F (consA (varE 3) (nilA))) (tgT (.nm 7)) (seqS (asgS (callE FD (consA (varE 0) (consA (callE lenF (consA (varE 1) (nilA))) (nilA)))) (nameT 8)) (seqS (asgS (binE addD (binE addD (binE ixD (varE 5) (cE (.int 0))) (callE F__law_way_v2 (consA (varE 1) (consA (binE ixD (varE 5) (cE (.int 1))) (consA (varE 8) (nilA)))))) (callE FP (consA (varE 0) (consA (lstE (consA (cE (.int 0)) (consA (callE FD (consA (varE 0) (consA (varE 6) (nilA)))) (consA (binE mulD (callE sumF (consA (varE 1) (nilA))) (callE FD (consA (varE 0) (consA (cE (.int 3)) (nilA))))) (nilA))))) (nilA))))) (nameT 9)) (seqS (asgS (tupE (consA (varE 9) (consA (varE 8) (nilA)))) (nameT 5)) (exprS (methLE appF (varE 4) (consA (varE 5) (nilA)))))))) (retS (callE tupleF (consA (varE 4) (nilA)))))
def bagK (FD FP : FA) : SvS := seqS (parS 3 4 (consA (newTE) (consA (callE FP (consA (varE 0) (consA (lstE (consA (cE (.int 3)) (consA (cE (.int 20)) (consA (binE mulD (cE (.int 5)) (callE sumF (consA (varE 1) (nilA)))) (nilA))))) (nilA)))) (nilA)))) (seqS (forS (callI range1F (consA (varE 2) (nilA))) (tgT (.nm 5)) (putTS (cE (.bl true)) (varE 3) (consA (callE FD (consA (varE 0) (consA (varE 4) (nilA)))) (consA (callE FD (consA (varE 0) (consA (callE lenF (consA (varE 1) (nilA))) (nilA)))) (nilA))))) (retS (callE tupleF (consA (callE srtF (consA (callE listTF (consA (varE 3) (nilA))) (nilA))) (nilA)))))
def lawK (FR FP : FA) : SvS := seqS (forS (callI range1F (consA (callE maxF (consA (cE (.int 2)) (consA (callE minF (consA (callE lenF (consA (varE 0) (nilA))) (consA (cE (.int 3)) (nilA)))) (nilA)))) (nilA))) (tgT (.nm 1)) (ifS (notB (tstE (callE FR (consA (callE FP (consA (varE 0) (consA (varE 1) (nilA)))) (nilA))))) (retS (cE (.bl false))) (passS))) (retS (cE (.bl true)))
def Draw (F : FA) : Prop := ∀ {st : Sto} {n : Nat} {m : Int}, Pool n st → 0 < m → m.natAbs < big → ∃ v st', F [.mut n, .int m] st = .ok (.int v) st' ∧ 0 ≤ v ∧ v < m ∧ Pool n st' ∧ Eff n st st'
theorem Draw.below {F : FA} (h : Draw F) : Below F := fun hp h1 h2 => h hp h1 (by have := big_ge; omega)
theorem drawK_ok {M : Int} (hM : 0 < M) : Draw (runF 2 4 (drawK M)) := by
  intro st n m hp h1 h2
  obtain ⟨a, b, c, hp⟩ := hp
  have hn : n < st.length := (List.getElem?_eq_some_iff.mp hp).1
  by_cases hb : 0 < b
  · refine ⟨b % m, st.set n (.lst [.int a, .int (b / m), .int c]), ?_, Int.emod_nonneg _ (by omega), Int.emod_lt_of_pos _ h1, ⟨_, _, _, p_get hn _⟩, .set⟩
    simp [runF, drawK, p_ix1 hp, hb, h1, h2, p_set1 hp]
  · have g := fun x y z => p_get (n := n) hn (MO.lst [x, y, z])
    have s1 : mulOk a (a % 20011 + 30011) := mulOk_lit (by have := Int.emod_nonneg a (show (20011 : Int) ≠ 0 by decide); have := Int.emod_lt_of_pos a (show (0 : Int) < 20011 by decide); omega)
    have s2 : mulOk 70001 (c + 1) := mulOk_lit' (by decide)
    have s3 : (128 : Int).natAbs < big := by have := big_ge; omega
    refine ⟨(a * (a % 20011 + 30011) + 70001 * (c + 1) + 9) % M / 128 % m, st.set n (.lst [.int ((a * (a % 20011 + 30011) + 70001 * (c + 1) + 9) % M), .int b, .int (c + 1)]), ?_, Int.emod_nonneg _ (by omega), Int.emod_lt_of_pos _ h1, ⟨_, _, _, p_get hn _⟩, .set⟩
    have s3' : (128 : Nat) < big := s3
    simp [runF, drawK, p_ix1 hp, hb, p_ix2 hp, p_set2 hp, p_ix0 (g _ _ _), p_ix2 (g _ _ _), p_set0 (g _ _ _), h1, s1, s2, s3', hM]
theorem poolK_ok {a1 a2 a3 M : Int} (hM : 0 < M) : MkPool (runF 2 5 (poolK a1 a2 a3 M)) := by
  intro st ns k
  have cell : ∃ z : Int, ∀ env : G.Env, (ifE (tstE (binE ltD (varE 1) (callE lenF (consA (varE 0) (nilA))))) (callE intF (consA (binE ixD (varE 0) (varE 1)) (nilA))) (binE addD (binE mulD (cE (.int 70001)) (varE 1)) (cE (.int a1)))) (some (.slo (ns.map D.int)) :: some (.int k) :: env) st = .ok (.int z) st := by
    by_cases hk : k < ns.length
    · have hk' : (k : Int) < ns.length := by omega
      refine ⟨ns[k], fun env => ?_⟩
      simp [hk, ixD_slo _ _ st (atI_nat' (ns.map D.int) k (by simpa using hk))]
    · have m1 : mulOk 70001 (k : Int) := mulOk_lit' (by decide)
      exact ⟨70001 * k + a1, fun env => by simp [hk, m1]⟩
  obtain ⟨z, cell⟩ := cell
  have m2 : mulOk 5087 (k : Int) := mulOk_lit' (by decide)
  have hM2 : ∀ f : Int, mulOk f 48271 := fun f => mulOk_lit (by decide)
  have key := loop_nx (g := tgT (.nm 4)) (body := asgS (binE modD (callE intF (consA (binE addD (binE addD (binE mulD (varE 3) (cE (.int 48271))) (binE modD (callE intF (consA (varE 4) (nilA))) (cE (.int M)))) (cE (.int a3))) (nilA))) (cE (.int M))) (nameT 3))
    (fun _ env s => ∃ (f : Int) (o : Option D), env = [some (.slo (ns.map D.int)), some (.int k), some (.int z), some (.int f), o] ∧ s = st) (xs := (ns.take 63).map D.int) (env := [some (.slo (ns.map D.int)), some (.int k), some (.int z), some (.int (a2 + 5087 * k)), none]) (st := st) ⟨_, none, rfl, rfl⟩
    (by
      rintro j x env s hx ⟨f, o, rfl, rfl⟩
      rw [List.getElem?_map] at hx
      obtain ⟨y, _, rfl⟩ := Option.map_eq_some_iff.mp hx
      exact ⟨[some (.slo (ns.map D.int)), some (.int k), some (.int z), some (.int ((f * 48271 + y % M + a3) % M)), some (.int y)], s, by simp [hM2, hM], _, _, rfl, rfl⟩)
  obtain ⟨env', s', e, f, o, rfl, rfl⟩ := key
  have m4 : mulOk z 1013 := mulOk_lit (by decide)
  have h12 : cutL ns none (some 63) = ns.take 63 := cutL_to ns 63
  have e' : loopF (tgT (.nm 4)) (asgS (binE modD (callE intF (consA (binE addD (binE addD (binE mulD (varE 3) (cE (.int 48271))) (binE modD (callE intF (consA (varE 4) (nilA))) (cE (.int M)))) (cE (.int a3))) (nilA))) (cE (.int M))) (nameT 3)) (cutD (ns.map D.int) none (some 63)) [some (.slo (ns.map D.int)), some (.int k), some (.int z), some (.int (a2 + 5087 * k)), none] s' = .nx [some (.slo (ns.map D.int)), some (.int k), some (.int z), some (.int f), o] s' := by
    rw [cutD_map, h12]; exact e
  refine ⟨(f + z * 1013) % M, if z < 0 ∨ 10 ^ 18 ≤ z then (if z < 0 then -z else z) else 0, 0, ?_⟩
  have ps : ∀ (env : G.Env) (st : Sto) (fs : EvA), parS 2 3 fs env st = bindS (fs env st) env fun as s1 => match as with
    | [a, b] => .nx ((env.set 2 (some a)).set 3 (some b)) s1
    | _ => .fail := fun _ _ _ => rfl
  unfold runF poolK
  simp only [List.length_cons, List.length_nil, if_true, seqS_eq, ps, consA_eq, List.map_cons, List.map_nil, List.cons_append, List.nil_append]
  rw [show (5 - 2 : Nat) = 3 from rfl]
  simp only [List.replicate]
  rw [cell]
  by_cases z1 : z < 0
  · simp [m2, e', m4, hM, z1]
  · by_cases z2 : (1000000000000000000 : Int) ≤ z
    · simp [m2, e', m4, hM, z1, z2]
    · simp [m2, e', m4, hM, z1, z2]
theorem lawK_ok {FP FR : FA} (hP : MkPool FP) (hR : Right FR) (ns : List Int) : ∃ st, runF 1 2 (lawK FR FP) [.slo (ns.map D.int)] [] = .ok (.bl true) st := by
  generalize hq : (if (if (3 : Int) < (ns.length : Int) then (3 : Int) else (ns.length : Int)) > 2 then (if (3 : Int) < (ns.length : Int) then (3 : Int) else (ns.length : Int)) else 2) = q
  have hq2 : 2 ≤ q ∧ q ≤ 3 := by split at hq <;> split at hq <;> omega
  obtain ⟨env', s', e, o, rfl⟩ := loop_nx (g := tgT (.nm 1)) (body := (ifS (notB (tstE (callE FR (consA (callE FP (consA (varE 0) (consA (varE 1) (nilA)))) (nilA))))) (retS (cE (.bl false))) (passS)))
    (fun j env s => ∃ o : Option D, env = [some (.slo (ns.map D.int)), o]) (xs := rangeD 0 q.toNat) (env := [some (.slo (ns.map D.int)), none]) (st := []) ⟨none, rfl⟩
    (by
      rintro j x env s hx ⟨o, rfl⟩
      obtain ⟨rfl, hj⟩ := range_get hx
      obtain ⟨a, b, c, e1⟩ := hP (st := s) (ns := ns) (k := j)
      obtain ⟨s', e2⟩ := hR (st := s ++ [.lst [.int a, .int b, .int c]]) (n := s.length) pool_new
      refine ⟨[some (.slo (ns.map D.int)), some (.int (0 + j))], s', ?_, _, rfl⟩
      simp [e1, e2])
  refine ⟨s', ?_⟩
  have hb : q.natAbs < 4611686018427387904 := by omega
  simp only [runF, lawK, List.length_cons, List.length_nil]
  simp [hq, hb, e]
abbrev pickK (FD : FA) : FA := runF 2 2 (oneA FD)
theorem loop_wayK (ts : List Int) (m o : Nat) (hm : m < ts.length) (ho : o < ts.length) (st : Sto) : ∀ (n j : Nat) (o5 : Option D) (o4 : Option D), j + n = ts.length → 1 ≤ j → (∀ i, 1 ≤ i → i < j → (m + i) % ts.length ≠ o) →
    ∃ S : S, loopF (tgT (.nm 4)) (seqS (asgS (binE modD (callE intF (consA (binE addD (varE 1) (varE 4)) (nilA))) (callE lenF (consA (varE 0) (nilA)))) (nameT 5)) (seqS (ifS (tstE (binE eqD (varE 5) (varE 2))) (retS (varE 3)) (passS)) (asgS (binE addD (varE 3) (binE ixD (varE 0) (varE 5))) (nameT 3)))) (rangeD j n) [some (tupI ts), some (.int m), some (.int o), some (.int (walkI ts m j)), o4, o5] st = S ∧
      (S = .ret (.int (wayI ts m o)) st ∨ (∃ q4 q5, S = .nx [some (tupI ts), some (.int m), some (.int o), some (.int (wayI ts m o)), q4, q5] st)) := by
  intro n
  induction n with
  | zero =>
    intro j o5 o4 hj h1 hno
    refine ⟨_, rfl, .inr ⟨o4, o5, ?_⟩⟩
    have hst := steps_rng hm ho
    have hto := steps_to hm ho
    have : stepsN ts.length m o = j := by
      rcases Nat.lt_or_ge (stepsN ts.length m o) j with h | h
      · exact absurd hto (hno _ hst.1 h)
      · omega
    unfold wayI
    rw [this]; rfl
  | succ n ih =>
    intro j o5 o4 hj h1 hno
    have h0 : 0 < ts.length := by omega
    have er : rangeD (j : Int) (n + 1) = .int j :: rangeD ((j + 1 : Nat) : Int) n := by
      unfold rangeD
      rw [List.range_succ_eq_map, List.map_cons, List.map_map]
      congr 1
      simp
      intro a _
      omega
    rw [er]
    have k1 : (m : Int) + (j : Int) = ((m + j : Nat) : Int) := by push_cast; rfl
    have k2 : ((m + j : Nat) : Int) % (ts.length : Int) = (((m + j) % ts.length : Nat) : Int) := by push_cast; rfl
    have hml := Nat.mod_lt (m + j) h0
    have ln : lenF [tupI ts] st = .ok (.int ts.length) st := by simp [tupI]
    have x1 := ixD_tupI st (ts := ts) (((m + j) % ts.length : Nat) : Int) (by omega) (by omega)
    simp only [Int.toNat_natCast] at x1
    by_cases hb : (m + j) % ts.length = o
    · refine ⟨_, rfl, .inl ?_⟩
      have hst : stepsN ts.length m o = j := by
        have hr := steps_rng hm ho
        have hto := steps_to hm ho
        rcases Nat.lt_trichotomy (stepsN ts.length m o) j with h | h | h
        · exact absurd hto (hno _ hr.1 h)
        · exact h
        · exact ((steps_first hm ho h1 (by omega)).mp hb).symm
      have hw : walkI ts m j = wayI ts m o := by unfold wayI; rw [hst]
      rw [hw]
      generalize tupI ts = tsd at *
      simp [-Int.natCast_add, -Int.natCast_emod, loopF, k1, ln, h0, k2, hb]
    · have hb' : ¬ ((((m + j) % ts.length : Nat) : Int) = (o : Int)) := by omega
      obtain ⟨S, e, hS⟩ := ih (j + 1) (some (.int (((m + j) % ts.length : Nat) : Int))) (some (.int j)) (by omega) (by omega) (fun i i1 i2 => by
        rcases Nat.lt_or_ge i j with h | h
        · exact hno i i1 h
        · rw [show i = j by omega]; exact hb)
      have hw : walkI ts m (j + 1) = walkI ts m j + ts.getD ((m + j) % ts.length) 0 := by rw [walk_succ]; rfl
      rw [hw] at e
      refine ⟨S, ?_, hS⟩
      rw [← e]
      generalize walkI ts m j = wk at *
      generalize ts.getD ((m + j) % ts.length) 0 = sv at *
      generalize hsx : (m + j) % ts.length = mm at *
      generalize rangeD ((j + 1 : Nat) : Int) n = rr at *
      generalize tupI ts = tsd at *
      simp [-Int.natCast_add, -Int.natCast_emod, loopF, k1, ln, h0, k2, hb, hb', x1]
theorem f_law_wayK (st : Sto) {ts : List Int} {m o : Nat} (hm : m < ts.length) (ho : o < ts.length) (hl : ts.length ≤ 100) : F__law_way_v2 [tupI ts, .int m, .int o] st = .ok (.int (wayI ts m o)) st := by
  have h0 : 0 < ts.length := by omega
  have x1 := ixD_tupI st (ts := ts) (m : Int) (by omega) (by omega)
  simp only [Int.toNat_natCast] at x1
  have hw1 : walkI ts m 1 = ts.getD m 0 := by simp [walkI, at_, Nat.mod_eq_of_lt hm]
  obtain ⟨S, e, hS⟩ := loop_wayK ts m o hm ho st (ts.length - 1) 1 none none (by omega) (by omega) (fun i i1 i2 => by omega)
  rw [hw1] at e
  have k1 : ((ts.length : Int) - 1).toNat = ts.length - 1 := by omega
  have k2 : ts.length < 4611686018427387904 := by omega
  have ln : lenF [tupI ts] st = .ok (.int ts.length) st := by simp [tupI]
  have e : loopF (tgT (.nm 4)) (seqS (asgS (binE modD (callE intF (consA (binE addD (varE 1) (varE 4)) (nilA))) (callE lenF (consA (varE 0) (nilA)))) (nameT 5)) (seqS (ifS (tstE (binE eqD (varE 5) (varE 2))) (retS (varE 3)) (passS)) (asgS (binE addD (varE 3) (binE ixD (varE 0) (varE 5))) (nameT 3)))) (rangeD 1 (ts.length - 1)) [some (tupI ts), some (.int m), some (.int o), some (.int (ts.getD m 0)), none, none] st = S := e
  generalize ts.getD m 0 = g at *
  generalize wayI ts m o = wy at *
  generalize hrr : rangeD 1 (ts.length - 1) = rr at *
  rcases hS with rfl | ⟨q4, q5, rfl⟩
  · generalize tupI ts = tsd at *
    simp [F__law_way_v2, runF, B__law_way_v2, x1, ln, k1, k2, hrr, e]
  · generalize tupI ts = tsd at *
    simp [F__law_way_v2, runF, B__law_way_v2, x1, ln, k1, k2, hrr, e]
def rowBodyK (FD FP : FA) : SvS := seqS (asgS (callE FD (consA (varE 0) (consA (callE lenF (consA (varE 1) (nilA))) (nilA)))) (nameT 8)) (seqS (asgS (binE addD (binE addD (binE ixD (varE 5) (cE (.int 0))) (callE F__law_way_v2 (consA (varE 1) (consA (binE ixD (varE 5) (cE (.int 1))) (consA (varE 8) (nilA)))))) (callE FP (consA (varE 0) (consA (lstE (consA (cE (.int 0)) (consA (callE FD (consA (varE 0) (consA (varE 6) (nilA)))) (consA (binE mulD (callE sumF (consA (varE 1) (nilA))) (callE FD (consA (varE 0) (consA (cE (.int 3)) (nilA))))) (nilA))))) (nilA))))) (nameT 9)) (seqS (asgS (tupE (consA (varE 9) (consA (varE 8) (nilA)))) (nameT 5)) (exprS (methLE appF (varE 4) (consA (varE 5) (nilA))))))
theorem rowK_eq (FD FP : FA) : rowK FD FP = seqS (parS3 4 5 6 (consA (mutE (nilA)) (consA (varE 2) (consA (callE FP (consA (varE 0) (consA (lstE (consA (cE (.int 1)) (consA (cE (.int 3)) (consA (binE mulD (cE (.int 2)) (callE sumF (consA (varE 1) (nilA)))) (nilA))))) (nilA)))) (nilA))))) (seqS (forS (callI range1F (consA (varE 3) (nilA))) (tgT (.nm 7)) (rowBodyK FD FP)) (retS (callE tupleF (consA (varE 4) (nilA))))) := rfl
theorem way_le_sum {ts : List Int} (hT : Trk ts) {m o : Nat} (hm : m < ts.length) (ho : o < ts.length) : wayI ts m o ≤ ts.sum := by
  unfold wayI
  have := walk_le_of hT m (steps_rng hm ho).2
  rw [walk_round ts m hT.pos] at this
  exact this
def KpK (n : Nat) (st st' : Sto) : Prop := st.length ≤ st'.length ∧ ∀ k, k < st.length → k ≠ n → st'[k]? = st[k]?
theorem KpK.trans {n : Nat} {a b c : Sto} (h : KpK n a b) (g : KpK n b c) : KpK n a c := ⟨Nat.le_trans h.1 g.1, fun k h1 h2 => (g.2 k (Nat.lt_of_lt_of_le h1 h.1) h2).trans (h.2 k h1 h2)⟩
def kpL (ps : List P2) : List (List L2.Key × L2.V) := ps.map fun p => ([.inl p.1, .inl p.2], .bl true)
theorem kpL_get (ps : List P2) (p : P2) : (L2.valV (kpL ps) [.inl p.1, .inl p.2]).isSome = decide (p ∈ ps) := by
  rw [← L2.valV_any, kpL, List.any_map]
  rw [Bool.eq_iff_iff, List.any_eq_true, decide_eq_true_iff]
  constructor
  · rintro ⟨q, hq, h⟩
    have h : ([.inl q.1, .inl q.2] : List L2.Key) = [.inl p.1, .inl p.2] := by simpa using h
    injection h with h1 h2
    injection h1 with h1
    injection h2 with h2 _
    injection h2 with h2
    rw [show p = q from Prod.ext h1.symm h2.symm]; exact hq
  · intro h
    exact ⟨p, h, by simp⟩
theorem kpL_put (ps : List P2) (p : P2) : L2.putK (kpL ps) [.inl p.1, .inl p.2] (.bl true) = kpL (if p ∈ ps then ps else ps ++ [p]) := by
  have hg := kpL_get ps p
  by_cases h : p ∈ ps
  · rw [if_pos h]
    have e : (L2.valV (kpL ps) [.inl p.1, .inl p.2]).isSome = true := by rw [hg]; exact decide_eq_true h
    unfold L2.putK
    rw [L2.valV_any, if_pos e]
    have : ∀ q ∈ kpL ps, (if q.1 = ([.inl p.1, .inl p.2] : List L2.Key) then (q.1, L2.V.bl true) else q) = q := by
      intro q hq
      unfold kpL at hq
      obtain ⟨r, _, rfl⟩ := List.mem_map.mp hq
      simp
    rw [List.map_congr_left this]; simp
  · rw [if_neg h]
    have e : L2.valV (kpL ps) [.inl p.1, .inl p.2] = none := by
      have : (L2.valV (kpL ps) [.inl p.1, .inl p.2]).isSome = false := by rw [hg]; exact decide_eq_false h
      simpa using this
    rw [L2.putK_new _ e]
    unfold kpL
    rw [List.map_append]; rfl
theorem keysL_kp (ps : List P2) : keysL (kpL ps) = ps.map pairD := by
  unfold keysL kpL
  rw [List.map_map]
  rfl
end Lap
namespace Lap
open PySem G
@[simp] theorem neD_bl (a b : Bool) (st : Sto) : neD (.bl a) (.bl b) st = .ok (.bl (!decide (a = b))) st := by unfold neD eqO scalD; simp
theorem repr_two {a b : D} (st : Sto) (ha : rOk a = true ∧ rWt a ≤ 15000 ∧ rDp a ≤ 10) (hb : rOk b = true ∧ rWt b ≤ 15000 ∧ rDp b ≤ 10) : reprF [.lst [a, b]] st = .ok (.str (shD (.lst [a, b]))) st :=
  reprF_ok st (by simp [rOk, rOkL, ha.1, hb.1]) (by simp only [rWt, rWtL]; omega) (by simp only [rDp, rDpL]; omega)
end Lap
namespace Lap
open PySem G
structure Slow (ts ss : List Int) : Prop where
  len : ss.length = ts.length
  ge : ∀ i, i < ts.length → ts.getD i 0 ≤ ss.getD i 0
theorem getD_mem {ts : List Int} {i : Nat} (h : i < ts.length) : ts.getD i 0 ∈ ts := by
  rw [List.getD_eq_getElem?_getD, List.getElem?_eq_getElem h]
  exact List.getElem_mem h
theorem Slow.walk {ts ss : List Int} (h : Slow ts ss) (h0 : 0 < ts.length) (m n : Nat) : walkI ts m n ≤ walkI ss m n := by
  induction n with
  | zero => simp [walkI]
  | succ n ih =>
    rw [walk_succ, walk_succ]
    have := h.ge ((m + n) % ts.length) (Nat.mod_lt _ h0)
    unfold at_
    rw [h.len]
    omega
theorem Slow.way {ts ss : List Int} (h : Slow ts ss) (h0 : 0 < ts.length) (m o : Nat) : wayI ts m o ≤ wayI ss m o := by
  unfold wayI
  rw [h.len]
  exact h.walk h0 _ _
theorem Slow.sum {ts ss : List Int} (h : Slow ts ss) (h0 : 0 < ts.length) : ts.sum ≤ ss.sum := by
  have := h.walk h0 0 ts.length
  rw [walk_round ts 0 h0] at this
  rw [← h.len, walk_round ss 0 (by rw [h.len]; exact h0)] at this
  exact this
end Lap
namespace Lap
open PySem G
theorem BagOk.of_len {ts us : List Int} {b : List P2} (h : BagOk ts b) (e : ts.length = us.length) : BagOk us b :=
  ⟨h.len, fun p hp => ⟨(h.ok p hp).1, (h.ok p hp).2.1, by rw [← e]; exact (h.ok p hp).2.2⟩, h.up⟩
theorem MatOk.of_len {ts us : List Int} {p : P2} (h : MatOk ts p) (e : ts.length = us.length) : MatOk us p := ⟨h.1, h.2.1, by rw [← e]; exact h.2.2⟩
def evenL (M : Nat) : List Int := List.replicate M 1
theorem even_len (M : Nat) : (evenL M).length = M := by simp [evenL]
def gapsA (bs : List (List P2)) : List (P2 × P2) := bs.flatMap gapsL
def waysOk (ts : List Int) (g : P2 × P2) : Prop := wayI ts g.1.2.toNat g.2.2.toNat ≤ g.2.1 - g.1.1
instance (ts : List Int) (g : P2 × P2) : Decidable (waysOk ts g) := by unfold waysOk; infer_instance
theorem row_gaps {ts : List Int} {b : List P2} : wrongI ts b = [] ↔ ∀ g ∈ gapsL b, waysOk ts g := by
  rw [wrong_nil]
  unfold waysOk followB
  constructor
  · intro h g hg
    obtain ⟨i, hi, rfl⟩ := List.mem_iff_getElem.mp hg
    rw [gaps_len] at hi
    have := of_decide_eq_true (h i (by omega))
    rw [gaps_get b i (by omega)]
    rw [pat_get (by omega), pat_get (by omega)] at this
    exact this
  · intro h i hi
    have hg : (b[i], b[i + 1]) ∈ gapsL b := by
      rw [← gaps_get b i hi]
      exact List.getElem_mem _
    have := h _ hg
    rw [pat_get hi, pat_get (by omega)]
    exact decide_eq_true this
def rowsB (ts : List Int) (bs : List (List P2)) : Bool := bs.all fun b => decide (wrongI ts b = [])
theorem rows_gaps {ts : List Int} {bs : List (List P2)} : rowsB ts bs = true ↔ ∀ g ∈ gapsA bs, waysOk ts g := by
  unfold rowsB gapsA
  rw [List.all_eq_true]
  constructor
  · intro h g hg
    obtain ⟨b, hb, hg⟩ := List.mem_flatMap.mp hg
    exact row_gaps.mp (of_decide_eq_true (h b hb)) g hg
  · intro h b hb
    exact decide_eq_true (row_gaps.mpr fun g hg => h g (List.mem_flatMap.mpr ⟨b, hb, hg⟩))
structure BagsOk (M : Nat) (bs : List (List P2)) : Prop where
  h1 : 1 ≤ M
  h8 : M ≤ 8
  n1 : 1 ≤ bs.length
  n6 : bs.length ≤ 6
  ok : ∀ b ∈ bs, BagOk (evenL M) b
theorem BagsOk.gap {M : Nat} {bs : List (List P2)} (h : BagsOk M bs) {g : P2 × P2} (hg : g ∈ gapsA bs) : MatOk (evenL M) g.1 ∧ MatOk (evenL M) g.2 := by
  obtain ⟨b, hb, hg⟩ := List.mem_flatMap.mp hg
  have := gaps_mem hg
  exact ⟨(h.ok b hb).ok _ this.1, (h.ok b hb).ok _ this.2⟩
theorem BagsOk.mats {M : Nat} {bs : List (List P2)} (h : BagsOk M bs) {g : P2 × P2} (hg : g ∈ gapsA bs) : (0 ≤ g.1.2 ∧ g.1.2.toNat < M ∧ (g.1.2.toNat : Int) = g.1.2) ∧ (0 ≤ g.2.2 ∧ g.2.2.toNat < M ∧ (g.2.2.toNat : Int) = g.2.2) := by
  have q := h.gap hg
  have a := q.1.2
  have b := q.2.2
  rw [even_len] at a b
  omega
theorem BagsOk.len {M : Nat} {bs : List (List P2)} (h : BagsOk M bs) : (gapsA bs).length ≤ 1000 := by
  have : ∀ l : List (List P2), (∀ b ∈ l, BagOk (evenL M) b) → (l.flatMap gapsL).length ≤ l.length * 30 := by
    intro l
    induction l with
    | nil => simp
    | cons b l ih =>
      intro hl
      have i := ih fun c hc => hl c (List.mem_cons_of_mem _ hc)
      have := (hl b List.mem_cons_self).len
      rw [List.flatMap_cons, List.length_append, gaps_len, List.length_cons]
      omega
  have := this bs h.ok
  have := h.n6
  unfold gapsA; omega
theorem small_mem : ∀ (l : List Int) (y : Int), smallI (y :: l) ∈ y :: l
  | [], y => by simp [smallI]
  | z :: l, y => by
    have := small_mem l z
    show min y (smallI (z :: l)) ∈ _
    rcases Int.le_total y (smallI (z :: l)) with k | k
    · rw [Int.min_eq_left k]; exact List.mem_cons_self
    · rw [Int.min_eq_right k]; exact List.mem_cons_of_mem _ this
theorem small_le : ∀ (l : List Int) (y x : Int), x ∈ y :: l → smallI (y :: l) ≤ x
  | [], y, x, h => by simp at h; subst h; simp [smallI]
  | z :: l, y, x, h => by
    show min y (smallI (z :: l)) ≤ x
    rcases List.mem_cons.mp h with rfl | h
    · exact Int.min_le_left _ _
    · exact Int.le_trans (Int.min_le_right _ _) (small_le l z x h)
def bagsD (bs : List (List P2)) : D := .tup (bs.map bagD)
section
variable (st : Sto)
theorem mul_even (M : Nat) (x : D) (h1 : 1 ≤ M) (h8 : M ≤ 100) : mulD (.tup [x]) (.int M) st = .ok (.tup (List.replicate M x)) st := by
  by_cases z : M = 1
  · subst z
    rfl
  · have : (([x] : List D) ≠ [] ∧ (2 : Int) ≤ M ∧ (M : Int) ≤ 1000 ∧ ([x] : List D).length ≤ 1000) := ⟨by simp, by omega, by omega, by simp⟩
    show (if _ then _ else _) = _
    rw [if_pos this, Int.toNat_natCast]
    have hf : ∀ n, (List.replicate n [x]).flatten = List.replicate n x := by
      intro n
      induction n with
      | zero => rfl
      | succ n ih => rw [List.replicate_succ, List.flatten_cons, ih, List.replicate_succ]; rfl
    rw [hf]
theorem mul_evenI {M : Nat} (x : Int) (h1 : 1 ≤ M) (h8 : M ≤ 100) : mulD (.tup [.int x]) (.int M) st = .ok (tupI (List.replicate M x)) st := by
  rw [mul_even st M _ h1 h8]
  unfold tupI
  rw [List.map_replicate]
theorem f_even_track {M : Nat} (h1 : 1 ≤ M) (h8 : M ≤ 8) : F_even_track [.int M] st = .ok (tupI (evenL M)) st := by
  have e := mul_evenI st (M := M) 1 h1 (by omega)
  have e : mulD (.tup [.int 1]) (.int M) st = .ok (tupI (evenL M)) st := e
  generalize tupI (evenL M) = td at *
  simp [F_even_track, runF, B_even_track, e]
theorem f_is_bag_of {ts : List Int} {b : List P2} (h : BagOk ts b) : F_is_bag_of [tupI ts, bagD b] st = .ok (.bl true) st := by
  have e := f_wrong_in_bag st h
  have q : eqD (.lst []) (.lst []) st = .ok (.bl true) st := rfl
  simp [F_is_bag_of, runF, B_is_bag_of, e, q]
theorem f_check_bags {M : Nat} {bs : List (List P2)} (h : BagsOk M bs) : F_check_bags [.int M, bagsD bs] st = .ok .non st := by
  have h1 := h.h1
  have h8 := h.h8
  have n1 := h.n1
  have n6 := h.n6
  have k1 : (1 : Int) ≤ M := by omega
  have k2 : (M : Int) ≤ 8 := by omega
  have k3 : (1 : Int) ≤ bs.length := by omega
  have k4 : (bs.length : Int) ≤ 6 := by omega
  have ln : ∀ s, lenF [bagsD bs] s = .ok (.int bs.length) s := fun s => by simp [bagsD]
  have ty : ∀ s, isiD .tup (bagsD bs) s = .ok (.bl true) s := fun s => rfl
  have mc : F_is_mat_count [.int M] st = .ok (.bl true) st := by
    simp [F_is_mat_count, runF, B_is_mat_count, F_is_between, B_is_between, f_is_whole_int, k1, k2]
  have e := lc_typedF (t := .tp [.nm 2, .nm 3]) (tt := notB (tstE (callE F_is_bag_of (consA (callE F_even_track (consA (varE 0) (nilA))) (consA (varE 3) (nilA)))))) (fe := varE 2) (envw := [some (.int M), some (bagsD bs), none, none]) (st := st)
    (fun (i : Nat) => D.tup [.int i, bagD (bs.getD i [])]) (fun (i : Nat) => D.int i) (fun _ => false) (List.range bs.length) [] (by simp; omega) (by
      intro i hi
      have hi := List.mem_range.mp hi
      have hm : bs.getD i [] ∈ bs := by
        rw [List.getD_eq_getElem?_getD, List.getElem?_eq_getElem hi]; exact List.getElem_mem hi
      have f1 := f_even_track st h1 h8
      have f2 := f_is_bag_of st (h.ok _ hm)
      refine ⟨[some (.int M), some (bagsD bs), some (.int i), some (bagD (bs.getD i []))], by simp [Tg.set, Tg.sets], ?_, fun z => by cases z⟩
      generalize bagD (bs.getD i []) = bd at *
      generalize tupI (evenL M) = td at *
      simp [f1, f2])
  have en : enumL (bs.map bagD) = (List.range bs.length).map fun (i : Nat) => D.tup [.int i, bagD (bs.getD i [])] := enumL_typed bagD [] bs
  rw [← en] at e
  have ef : enumF [bagsD bs] st = .ok (.frz (enumL (bs.map bagD))) st := rfl
  rw [List.filter_eq_nil_iff.mpr (fun _ _ => by simp)] at e
  simp only [List.map_nil, List.nil_append] at e
  have w : F_wrong_in_bags [.int M, bagsD bs] st = .ok (.lst []) st := by
    generalize enumL (bs.map bagD) = en0 at *
    generalize bagsD bs = bd at *
    simp [F_wrong_in_bags, runF, B_wrong_in_bags, F_is_tuple_up_to, B_is_tuple_up_to, ty, ln, k3, k4, isiB, ef, e, cutD]
  generalize bagsD bs = bd at *
  simp [F_check_bags, runF, B_check_bags, mc, w]
def optI (o : Option Int) : D := match o with
  | some x => .int x
  | none => .non
end
end Lap
namespace Lap
open PySem G
theorem pool_keep {p : Nat} {st st' : Sto} (hp : Pool p st) (h : ∀ k, k < st.length → st'[k]? = st[k]?) : Pool p st' := by
  obtain ⟨a, b, c, e⟩ := hp
  have hn := (List.getElem?_eq_some_iff.mp e).1
  exact ⟨a, b, c, by rw [h p hn]; exact e⟩
end Lap
namespace Lap
open PySem G
def EffG (p : Nat) (s s' : Sto) : Prop := s.length ≤ s'.length ∧ ∀ k, k < s.length → k ≠ p → s'[k]? = s[k]?
theorem EffG.refl {p : Nat} {s : Sto} : EffG p s s := ⟨Nat.le_refl _, fun _ _ _ => rfl⟩
theorem EffG.trans {p : Nat} {a b c : Sto} (h : EffG p a b) (g : EffG p b c) : EffG p a c := ⟨Nat.le_trans h.1 g.1, fun k h1 h2 => (g.2 k (Nat.lt_of_lt_of_le h1 h.1) h2).trans (h.2 k h1 h2)⟩
theorem EffG.of {p : Nat} {a b : Sto} (h : Eff p a b) : EffG p a b := ⟨by rw [h.1]; exact Nat.le_refl _, fun k _ h2 => h.2 k h2⟩
theorem EffG.push {p : Nat} {a : Sto} (m : MO) : EffG p a (a ++ [m]) := ⟨by simp, fun k h _ => List.getElem?_append_left h⟩
theorem EffG.setNew {p q : Nat} {a b : Sto} (h : EffG p a b) (hq : a.length ≤ q) (m : MO) : EffG p a (b.set q m) := ⟨by rw [List.length_set]; exact h.1, fun k h1 h2 => by rw [List.getElem?_set_ne (by omega)]; exact h.2 k h1 h2⟩
end Lap
namespace Lap
open PySem G
def fullL (t0 : Int) (b : List P2) : List P2 := (t0, 0) :: b
structure RowsOk (ts : List Int) (row : List P2) : Prop where
  ok : RowOk ts row
  n : row.length ≤ 31
  tb : ∀ p ∈ row, p.1.natAbs < big
structure RaceOk (ts : List Int) (t0 : Int) (bs : List (List P2)) : Prop where
  n1 : 1 ≤ bs.length
  n6 : bs.length ≤ 6
  bag : ∀ b ∈ bs, BagOk ts b
  row : ∀ b ∈ bs, RowsOk ts (fullL t0 b)
  s0 : 0 ≤ t0
end Lap
namespace Lap
def mxH (f : Nat → Nat → Bool) (g : Nat → Nat) (k j : Nat) : Nat := (List.range k).foldl (fun a i => if f i j = true then max a (g i) else a) 0
def hgts (f : Nat → Nat → Bool) : Nat → List Nat
  | 0 => []
  | n + 1 => hgts f n ++ [1 + mxH f (fun i => (hgts f n).getD i 0) n n]
def hgt (f : Nat → Nat → Bool) (j : Nat) : Nat := (hgts f (j + 1)).getD j 0
end Lap
namespace Lap
structure Mtg (f : Nat → Nat → Bool) (n : Nat) (L : List (Nat × Nat)) : Prop where
  k : (L.map (·.1)).Nodup
  v : (L.map (·.2)).Nodup
  ok : ∀ p ∈ L, f p.1 p.2 = true ∧ p.1 < n ∧ p.2 < n
theorem pair_k {L : List (Nat × Nat)} (h : (L.map (·.1)).Nodup) {i a b : Nat} (h1 : (i, a) ∈ L) (h2 : (i, b) ∈ L) : a = b := by
  induction L with
  | nil => cases h1
  | cons p L ih =>
    rw [List.map_cons, List.nodup_cons] at h
    rcases List.mem_cons.mp h1 with e1 | h1 <;> rcases List.mem_cons.mp h2 with e2 | h2
    · rw [← e1] at e2; exact (congrArg Prod.snd e2).symm
    · exact absurd (List.mem_map.mpr ⟨_, h2, rfl⟩) (by rw [← e1] at h; exact h.1)
    · exact absurd (List.mem_map.mpr ⟨_, h1, rfl⟩) (by rw [← e2] at h; exact h.1)
    · exact ih h.2 h1 h2
theorem pair_v {L : List (Nat × Nat)} (h : (L.map (·.2)).Nodup) {i a b : Nat} (h1 : (a, i) ∈ L) (h2 : (b, i) ∈ L) : a = b := by
  induction L with
  | nil => cases h1
  | cons p L ih =>
    rw [List.map_cons, List.nodup_cons] at h
    rcases List.mem_cons.mp h1 with e1 | h1 <;> rcases List.mem_cons.mp h2 with e2 | h2
    · rw [← e1] at e2; exact (congrArg Prod.fst e2).symm
    · exact absurd (List.mem_map.mpr ⟨_, h2, rfl⟩) (by rw [← e1] at h; exact h.1)
    · exact absurd (List.mem_map.mpr ⟨_, h1, rfl⟩) (by rw [← e2] at h; exact h.1)
    · exact ih h.2 h1 h2
inductive UpL (L : List (Nat × Nat)) : Nat → Nat → Nat → Prop
  | refl (r : Nat) : UpL L 0 r r
  | step {k r x y : Nat} : UpL L k r x → (x, y) ∈ L → UpL L (k + 1) r y
section
variable {f : Nat → Nat → Bool} (hf : ∀ i j, f i j = true → i < j) (htr : ∀ i j k, f i j = true → f j k = true → f i k = true) {n : Nat} {L : List (Nat × Nat)} (hM : Mtg f n L)
include hM
theorem UpL.det {r : Nat} : ∀ {k x y : Nat}, UpL L k r x → UpL L k r y → x = y
  | 0, _, _, .refl _, .refl _ => rfl
  | k + 1, _, _, .step a b, .step c d => by
    have e := UpL.det a c
    rw [e] at b
    exact pair_k hM.k b d
include htr
theorem UpL.more {r : Nat} {k x : Nat} (a : UpL L k r x) : ∀ {m y : Nat}, UpL L (k + m) r y → x = y ∨ f x y = true
  | 0, y, b => .inl (UpL.det hM a b)
  | m + 1, y, .step (x := z) b c => by
    have h := (hM.ok _ c).1
    rcases UpL.more a (m := m) b with e | e
    · rw [e]; exact .inr h
    · exact .inr (htr _ _ _ e h)
include hf
end
end Lap
namespace Lap
open PySem G
def Kp (n : Nat) (st st' : Sto) : Prop := st.length ≤ st'.length ∧ ∀ k, k < st.length → k ≠ n → st'[k]? = st[k]?
theorem Kp.refl {n : Nat} {st : Sto} : Kp n st st := ⟨Nat.le_refl _, fun _ _ _ => rfl⟩
theorem Kp.trans {n : Nat} {s1 s2 s3 : Sto} (a : Kp n s1 s2) (b : Kp n s2 s3) : Kp n s1 s3 := ⟨Nat.le_trans a.1 b.1, fun k h1 h2 => (b.2 k (Nat.lt_of_lt_of_le h1 a.1) h2).trans (a.2 k h1 h2)⟩
theorem _root_.G.Eff.kp {n : Nat} {st st' : Sto} (e : Eff n st st') : Kp n st st' := ⟨by rw [e.1]; exact Nat.le_refl _, fun k _ h => e.2 k h⟩
theorem Kp.set {n q : Nat} {st st' : Sto} {mo : MO} (e : Kp n st st') (h : st.length ≤ q) : Kp n st (st'.set q mo) := ⟨by simpa using e.1, fun k h1 h2 => by rw [List.getElem?_set_ne (by omega)]; exact e.2 k h1 h2⟩
def wayW (way : Nat) : Int := if way = 2 then 1000000000000000000 else if way = 0 then 3 else 30
def moreW (way : Nat) : Int := if way < 2 then 6 else 10000000000000000000
def rowBodyB (FB FG FO : FA) : SvS := (seqS (asgS (binE addD (cE (.int 1)) (callE FB (consA (varE 0) (consA (callE FO (consA (varE 0) (consA (tupE (consA (cE (.int 1)) (consA (cE (.int 2)) (consA (callE lenF (consA (varE 1) (nilA))) (consA (binE addD (binE mulD (cE (.int 2)) (callE lenF (consA (varE 1) (nilA)))) (cE (.int 2))) (nilA)))))) (nilA)))) (nilA))))) (nameT 9)) (seqS (asgS (ifE (tstE (binE ltD (varE 4) (cE (.int 2)))) (callE FB (consA (varE 0) (consA (callE FO (consA (varE 0) (consA (tupE (consA (cE (.int 1)) (consA (cE (.int 3)) (consA (cE (.int 6)) (nilA))))) (nilA)))) (nilA)))) (ifE (tstE (binE eqD (callE FB (consA (varE 0) (consA (cE (.int 2)) (nilA)))) (cE (.int 0)))) (callE FG (consA (varE 0) (consA (binE powD (cE (.int 10)) (cE (.int 19))) (nilA)))) (cE (.int 0)))) (nameT 10)) (seqS (parS 6 7 (consA (binE addD (binE addD (varE 6) (callE F__law_reach_v2 (consA (varE 1) (consA (varE 7) (consA (varE 9) (nilA)))))) (varE 10)) (consA (binE modD (callE intF (consA (binE addD (varE 7) (varE 9)) (nilA))) (callE lenF (consA (varE 1) (nilA)))) (nilA)))) (exprS (methLE appF (varE 5) (consA (tupE (consA (varE 6) (consA (varE 7) (nilA)))) (nilA)))))))
def rowB (FB FG FO : FA) : SvS := seqS (parS3 5 6 7 (consA (mutE (nilA)) (consA (varE 2) (consA (cE (.int 0)) (nilA))))) (seqS (forS (callI range1F (consA (varE 3) (nilA))) (tgT (.nm 8)) (rowBodyB FB FG FO)) (retS (callE tupleF (consA (varE 5) (nilA)))))
structure RaceBd (way : Nat) (most : Nat) (w t0 : Int) (bs : List (List P2)) : Prop where
  len : ∀ b ∈ bs, b.length ≤ most
  sb : 0 ≤ t0 ∧ t0 ≤ (if way < 2 then 8 else 100000000000000000000)
  tm : ∀ b ∈ bs, ∀ p ∈ b, p.1 ≤ t0 + most * (18 * w + moreW way)
end Lap
namespace Lap
open PySem G
structure Rc (ts : List Int) (t0 : Int) (bs : List (List P2)) (T : Int) : Prop where
  t : Trk ts
  s : ts.sum.natAbs < big
  r : RaceOk ts t0 bs
  tT : t0 ≤ T
  tm : ∀ b ∈ bs, ∀ p ∈ b, p.1 ≤ T
  Tb : T ≤ 10 ^ 25
theorem Rc.of {ts : List Int} {way k : Nat} {t0 : Int} {bs : List (List P2)} (hT : DT ts (wayW way)) (hw : way < 3) (hk : k ≤ 30) (h : RaceOk ts t0 bs) (hb : RaceBd way k (wayW way) t0 bs) : Rc ts t0 bs (t0 + k * (18 * wayW way + moreW way)) := by
  have hbig := big_ge
  have hww : 1 ≤ wayW way ∧ wayW way ≤ 1000000000000000000 := by unfold wayW; split <;> (try split) <;> omega
  have hmw : 0 ≤ moreW way ∧ moreW way ≤ 10000000000000000000 := by unfold moreW; split <;> omega
  have hsp := hT.p
  have hss := hT.s
  have ht := hb.sb
  have ht' : t0 ≤ 100000000000000000000 := by have := ht.2; split at this <;> omega
  have ck : (k : Int) * (18 * wayW way + moreW way) ≤ 30 * (18 * wayW way + moreW way) := Int.mul_le_mul_of_nonneg_right (by omega) (by omega)
  have ck0 : 0 ≤ (k : Int) * (18 * wayW way + moreW way) := Int.mul_nonneg (by omega) (by omega)
  exact ⟨hT.t, by omega, h, by omega, hb.tm, by omega⟩
theorem Rc.tb {ts : List Int} {t0 T : Int} {bs : List (List P2)} (h : Rc ts t0 bs T) {t : Int} (h1 : t0 ≤ t) (h2 : t ≤ T + 30) : t.natAbs < big := by
  have := h.r.s0
  have := h.Tb
  have := big_ge
  omega
theorem Rc.row {ts : List Int} {t0 T : Int} {bs : List (List P2)} (h : Rc ts t0 bs T) {r : Nat} (hr : r < bs.length) : RowOk ts (fullL t0 bs[r]) := (h.r.row _ (List.getElem_mem hr)).ok
theorem Rc.l30 {ts : List Int} {t0 T : Int} {bs : List (List P2)} (h : Rc ts t0 bs T) {r : Nat} (hr : r < bs.length) : bs[r].length ≤ 30 := (h.r.bag _ (List.getElem_mem hr)).len
end Lap
namespace Lap
open PySem G
theorem f_law_steps3 (st : Sto) {ts : List Int} {m o : Nat} (hm : m < ts.length) (ho : o < ts.length) : F__law_steps_v3 [tupI ts, .int m, .int o] st = .ok (.int (stepsN ts.length m o)) st := by
  have h0 : 0 < ts.length := by omega
  have ln : lenF [tupI ts] st = .ok (.int ts.length) st := by simp [tupI]
  have e : ((o : Int) - m) % (ts.length : Int) = if m ≤ o then (o : Int) - m else o - m + ts.length := by
    split
    · exact Int.emod_eq_of_lt (by omega) (by omega)
    · rw [← Int.add_emod_right]; exact Int.emod_eq_of_lt (by omega) (by omega)
  generalize tupI ts = tsd at *
  rcases steps_cases hm ho with ⟨h, e2⟩ | ⟨h, e2⟩
  · rw [if_pos (by omega)] at e
    rw [e2]
    have : (0 : Int) < o - m := by omega
    simp [F__law_steps_v3, runF, B__law_steps_v3, ln, h0, e, this, h]
    omega
  · rw [e2]
    by_cases z : m = o
    · subst z
      rw [if_pos (Nat.le_refl _), Int.sub_self] at e
      simp [F__law_steps_v3, runF, B__law_steps_v3, ln, h0, e]
    · rw [if_neg (by omega)] at e
      have : (0 : Int) < o - m + ts.length := by omega
      simp [F__law_steps_v3, runF, B__law_steps_v3, ln, h0, e, this]
      omega
theorem _root_.G.Pool.ext {n : Nat} {st : Sto} (h : Pool n st) (l : Sto) : Pool n (st ++ l) := by
  obtain ⟨a, b, c, h⟩ := h
  exact ⟨a, b, c, by rw [List.getElem?_append_left (List.getElem?_eq_some_iff.mp h).1]; exact h⟩
end Lap
namespace Lap
open PySem G
structure RaceIn (ts : List Int) (t0 : Int) (bs : List (List P2)) : Prop where
  n1 : 1 ≤ bs.length
  n6 : bs.length ≤ 6
  bag : ∀ b ∈ bs, BagOk ts b
  s0 : 0 ≤ t0
theorem full_ok {ts : List Int} (hT : Trk ts) {t0 : Int} (h0 : 0 ≤ t0) {b : List P2} (hb : ∀ p ∈ b, MatOk ts p) : ∀ p ∈ fullL t0 b, MatOk ts p := fun p hp => by
  rcases List.mem_cons.mp hp with rfl | hp
  · exact ⟨h0, Int.le_refl 0, by show (0 : Int) < _; have := hT.pos; omega⟩
  · exact hb p hp
structure Put (ts : List Int) (t0 : Int) (b : List P2) (m : P2) : Prop where
  bag : BagOk ts b
  row : RowP ts (fullL t0 b)
  s0 : 0 ≤ t0
  mo : MatOk ts m
  new : m ∉ fullL t0 b
theorem row_up {ts : List Int} (hT : Trk ts) {l : List P2} (hok : ∀ p ∈ l, MatOk ts p) (hr : RowP ts l) : l.Pairwise ltP2 :=
  List.Pairwise.imp_of_mem (fun {p q} hp hq f => .inl (follow_lt hT (hok q hq) (hok p hp) f)) hr
theorem Put.up {ts : List Int} (hT : Trk ts) {t0 : Int} {b : List P2} {m : P2} (h : Put ts t0 b m) : (fullL t0 b).Pairwise ltP2 := row_up hT (full_ok hT h.s0 h.bag.ok) h.row
end Lap
namespace Lap
open PySem G
structure LogOk (ts : List Int) (log : List (List P2)) (N : Nat := 6) : Prop where
  n1 : 1 ≤ log.length
  n6 : log.length ≤ min N 8
  len : ∀ b ∈ log, b.length ≤ 30
  ok : ∀ b ∈ log, ∀ p ∈ b, MatOk ts p
def gapsN (log : List (List P2)) : List (Nat × Nat) := (List.range log.length).flatMap fun r => (List.range ((log.getD r []).length - 1)).map fun i => (r, i)
def mkI (log : List (List P2)) (r i : Nat) : P2 := pat (log.getD r []) i
def slackI (ts : List Int) (log : List (List P2)) (g : Nat × Nat) : Int := (mkI log g.1 (g.2 + 1)).1 - (mkI log g.1 g.2).1 - wayI ts (mkI log g.1 g.2).2.toNat (mkI log g.1 (g.2 + 1)).2.toNat
theorem gap_mem {log : List (List P2)} {g : Nat × Nat} : g ∈ gapsN log ↔ g.1 < log.length ∧ g.2 + 1 < (log.getD g.1 []).length := by
  unfold gapsN
  rw [List.mem_flatMap]
  constructor
  · rintro ⟨r, hr, h⟩
    obtain ⟨i, hi, rfl⟩ := List.mem_map.mp h
    have a := List.mem_range.mp hr
    have b := List.mem_range.mp hi
    exact ⟨a, by show i + 1 < (log.getD r []).length; omega⟩
  · rintro ⟨a, b⟩
    exact ⟨g.1, List.mem_range.mpr a, List.mem_map.mpr ⟨g.2, List.mem_range.mpr (by omega), rfl⟩⟩
theorem getD_get {log : List (List P2)} {r : Nat} (h : r < log.length) : log.getD r [] = log[r] := by rw [List.getD_eq_getElem?_getD, List.getElem?_eq_getElem h]; rfl
structure GapAt (ts : List Int) (log : List (List P2)) (g : Nat × Nat) : Prop where
  r : g.1 < log.length
  i : g.2 + 1 < (log.getD g.1 []).length
  m1 : MatOk ts (mkI log g.1 g.2)
  m2 : MatOk ts (mkI log g.1 (g.2 + 1))
  l : (log.getD g.1 []).length ≤ 30
theorem LogOk.at_ {ts : List Int} {log : List (List P2)} {N : Nat} (h : LogOk ts log N) {g : Nat × Nat} (hg : g ∈ gapsN log) : GapAt ts log g := by
  obtain ⟨a, b⟩ := gap_mem.mp hg
  have hm : log.getD g.1 [] ∈ log := by rw [getD_get a]; exact List.getElem_mem a
  refine ⟨a, b, ?_, ?_, h.len _ hm⟩ <;> unfold mkI <;> rw [pat_get (by omega)] <;> exact h.ok _ hm _ (List.getElem_mem _)
end Lap
namespace Lap
abbrev Mt := Nat → Nat → Option Int
def updM (m : Mt) (i j : Nat) (v : Option Int) : Mt := fun a b => if a = i ∧ b = j then v else m a b
def RM (m : Mt) (i j : Nat) (x : Int) : Prop := ∃ y, m i j = some y ∧ y ≤ x
def LeM (m' m : Mt) : Prop := ∀ i j x, RM m i j x → RM m' i j x
theorem LeM.refl (m : Mt) : LeM m m := fun _ _ _ h => h
theorem LeM.trans {a b c : Mt} (h : LeM a b) (g : LeM b c) : LeM a c := fun i j x q => h i j x (g i j x q)
end Lap
namespace Lap
open PySem PySem.Spec PyProof.Rows L2 G
def ov (o : Option Int) : V := match o with
  | none => .non
  | some y => .int y
def od (o : Option Int) : D := match o with
  | none => .non
  | some y => .int y
abbrev KV := List (List L2.Key × V)
def kij (i j : Nat) : List L2.Key := [.inl (i : Int), .inl (j : Int)]
theorem kij_inj {i j a b : Nat} : kij i j = kij a b ↔ i = a ∧ j = b := by
  unfold kij
  constructor
  · intro h
    have h1 := (List.cons.inj h).1
    have h2 := (List.cons.inj (List.cons.inj h).2).1
    exact ⟨by have := Sum.inl.inj h1; omega, by have := Sum.inl.inj h2; omega⟩
  · rintro ⟨rfl, rfl⟩; rfl
def FarOk (M : Nat) (m : Mt) (kvs : KV) : Prop := (∀ i j, i < M → j < M → L2.valV kvs (kij i j) = some (ov (m i j))) ∧ kvs.length ≤ 100
theorem putK_old {kvs : KV} {k : List L2.Key} {v y : V} (h : L2.valV kvs k = some y) : (L2.putK kvs k v).length = kvs.length := by
  unfold L2.putK
  rw [L2.valV_any, h, Option.isSome_some, if_pos rfl, List.length_map]
theorem FarOk.put {M : Nat} {m : Mt} {kvs : KV} (h : FarOk M m kvs) {i j : Nat} (hi : i < M) (hj : j < M) (o : Option Int) : FarOk M (updM m i j o) (L2.putK kvs (kij i j) (ov o)) := by
  refine ⟨fun a b ha hb => ?_, ?_⟩
  · rw [L2.valV_put]
    unfold updM
    by_cases q : a = i ∧ b = j
    · rw [if_pos (kij_inj.mpr q), if_pos q]
    · rw [if_neg (fun z => q (kij_inj.mp z)), if_neg q]
      exact h.1 a b ha hb
  · rw [putK_old (h.1 i j hi hj)]
    exact h.2
def m0M : Mt := fun i j => if i = j then some 0 else none
end Lap
namespace Lap
open PySem PySem.Spec PyProof.Rows L2 G
def InitOk (M i j : Nat) (kvs : KV) : Prop := (∀ a b, a < M → b < M → (a < i ∨ a = i ∧ b < j) → valV kvs (kij a b) = some (ov (m0M a b))) ∧ kvs.length ≤ 8 * i + j
theorem InitOk.put {M i j : Nat} {kvs : KV} (h : InitOk M i j kvs) : InitOk M i (j + 1) (putK kvs (kij i j) (ov (m0M i j))) := by
  refine ⟨fun a b ha hb hab => ?_, ?_⟩
  · rw [valV_put]
    by_cases q : a = i ∧ b = j
    · rw [if_pos (kij_inj.mpr q), q.1, q.2]
    · rw [if_neg (fun z => q (kij_inj.mp z))]
      exact h.1 a b ha hb (by omega)
  · have := length_putK kvs (kij i j) (ov (m0M i j))
    have := h.2
    omega
theorem set_end (st : Sto) (a b : MO) : (st ++ [a]).set st.length b = st ++ [b] := by simp
theorem get_end (st : Sto) (a : MO) : (st ++ [a])[st.length]? = some a := by simp
end Lap
namespace Lap
open PySem G
def mats (log : List (List P2)) (g : Nat × Nat) : Nat × Nat := ((mkI log g.1 g.2).2.toNat, (mkI log g.1 (g.2 + 1)).2.toNat)
def EdgeG (ts : List Int) (log : List (List P2)) (i j : Nat) (s : Int) : Prop := ∃ g ∈ gapsN log, mats log g = (i, j) ∧ slackI ts log g = s
inductive Wk (ts : List Int) (log : List (List P2)) : Nat → Nat → List Nat → Int → Prop
  | nil (a : Nat) : Wk ts log a a [] 0
  | snoc {a u v : Nat} {l : List Nat} {x s : Int} : Wk ts log a u l x → EdgeG ts log u v s → Wk ts log a v (v :: l) (x + s)
section
variable {ts : List Int} {log : List (List P2)}
theorem Wk.trans {a b c : Nat} {l l' : List Nat} {x y : Int} (h : Wk ts log a b l x) (g : Wk ts log b c l' y) : Wk ts log a c (l' ++ l) (x + y) := by
  induction g with
  | nil => simpa using h
  | snoc w e ih =>
    have := Wk.snoc ih e
    rw [List.cons_append, ← Int.add_assoc]
    exact this
theorem edge_lt {N : Nat} (h : LogOk ts log N) {i j : Nat} {s : Int} (e : EdgeG ts log i j s) : i < ts.length ∧ j < ts.length := by
  obtain ⟨g, hg, hm, _⟩ := e
  have q := h.at_ hg
  have a := q.m1.2
  have b := q.m2.2
  unfold mats at hm
  have e1 := congrArg Prod.fst hm
  have e2 := congrArg Prod.snd hm
  simp only at e1 e2
  omega
theorem Wk.lt {N : Nat} (h : LogOk ts log N) {a b : Nat} {l : List Nat} {x : Int} (w : Wk ts log a b l x) : ∀ v ∈ l, v < ts.length := by
  induction w with
  | nil => simp
  | snoc w e ih =>
    intro v hv
    rcases List.mem_cons.mp hv with rfl | hv
    · exact (edge_lt h e).2
    · exact ih v hv
theorem Wk.split {a b : Nat} {l : List Nat} {x : Int} (w : Wk ts log a b l x) {v : Nat} (hv : v ∈ l) : ∃ l1 l2 x1 x2, l = l2 ++ l1 ∧ Wk ts log a v l1 x1 ∧ Wk ts log v b l2 x2 ∧ x = x1 + x2 ∧ l1 ≠ [] := by
  induction w with
  | nil => cases hv
  | @snoc u b l x s w e ih =>
    by_cases z : v = b
    · subst z
      exact ⟨v :: l, [], x + s, 0, rfl, .snoc w e, .nil v, by omega, by simp⟩
    · rcases List.mem_cons.mp hv with h | hv
      · exact absurd h z
      · obtain ⟨l1, l2, x1, x2, rfl, w1, w2, rfl, ne⟩ := ih hv
        exact ⟨l1, b :: l2, x1, x2 + s, rfl, w1, .snoc w2 e, by omega, ne⟩
end
end Lap
namespace Lap
open PySem G
section
variable {κ β : Type} [DecidableEq κ]
def betterB (acc : List (κ × (Int × β))) (k : κ) (t : Int) : Bool := match vGet acc k with
  | none => true
  | some c => decide (t < c.1)
def mp (acc : List (κ × (Int × β))) (k : κ) (c : Int × β) : List (κ × (Int × β)) := if betterB acc k c.1 = true then vPut acc k c else acc
variable {α : Type}
end
end Lap
namespace Lap
open PySem PySem.Spec PyProof.Rows L2 G
def kk (p : Nat × Nat) : List Key := kij p.1 p.2
def ki (i : Nat) : Key := .inl (i : Int)
end Lap
namespace Lap
open PySem G
section
variable {β : Type}
theorem vGet_memN {l : List (Nat × β)} {i : Nat} {v : β} (h : vGet l i = some v) : (i, v) ∈ l := by
  unfold vGet at h
  obtain ⟨p, hp, rfl⟩ := Option.map_eq_some_iff.mp h
  have h1 := List.mem_of_find?_eq_some hp
  have h2 : p.1 = i := by simpa using List.find?_some hp
  rw [← h2]; exact h1
theorem vGet_isSome {l : List (Nat × β)} {i : Nat} : (vGet l i).isSome = true ↔ i ∈ l.map (·.1) := by
  rw [← vGet_any, List.any_eq_true, List.mem_map]
  constructor
  · rintro ⟨x, h1, h2⟩; exact ⟨x, h1, of_decide_eq_true h2⟩
  · rintro ⟨x, h1, h2⟩; exact ⟨x, h1, decide_eq_true h2⟩
theorem vGet_none {l : List (Nat × β)} {i : Nat} : vGet l i = none ↔ i ∉ l.map (·.1) := by
  rw [← vGet_isSome]
  cases vGet l i <;> simp
theorem mem_key {l : List (Nat × β)} {i : Nat} {v : β} (h : (i, v) ∈ l) : i ∈ l.map (·.1) := List.mem_map.mpr ⟨_, h, rfl⟩
theorem nodup_val : ∀ {l : List (Nat × β)}, (l.map (·.1)).Nodup → ∀ {i : Nat} {a b : β}, (i, a) ∈ l → (i, b) ∈ l → a = b
  | p :: l, h, i, a, b, h1, h2 => by
    rw [List.map_cons, List.nodup_cons] at h
    rcases List.mem_cons.mp h1 with e1 | h1 <;> rcases List.mem_cons.mp h2 with e2 | h2
    · rw [← e1] at e2; exact (congrArg Prod.snd e2).symm
    · rw [← e1] at h; exact absurd (mem_key h2) h.1
    · rw [← e2] at h; exact absurd (mem_key h1) h.1
    · exact nodup_val h.2 h1 h2
theorem vGet_of {l : List (Nat × β)} (hn : (l.map (·.1)).Nodup) {i : Nat} {v : β} (h : (i, v) ∈ l) : vGet l i = some v := by
  cases e : vGet l i with
  | none => exact absurd (mem_key h) (vGet_none.mp e)
  | some w => rw [nodup_val hn (vGet_memN e) h]
theorem vPut_new {l : List (Nat × β)} {i : Nat} {v : β} (h : i ∉ l.map (·.1)) : vPut l i v = l ++ [(i, v)] := by
  unfold vPut
  rw [vGet_any, if_neg]
  intro z
  exact h (vGet_isSome.mp z)
theorem vPut_old {l : List (Nat × β)} {i : Nat} {v : β} (h : i ∈ l.map (·.1)) : vPut l i v = l.map fun kv => if kv.1 = i then (kv.1, v) else kv := by
  unfold vPut
  rw [vGet_any, if_pos (vGet_isSome.mpr h)]
end
structure CI (f : Nat → Nat → Bool) (n : Nat) (L : List (Nat × Nat)) (A : List (Nat × Option Nat)) (F : List (Nat × Nat)) (w : List Nat) : Prop where
  a_w : A.map (·.1) = w
  w_nd : w.Nodup
  w_lt : ∀ i ∈ w, i < n
  st : ∀ i, i < n → i ∉ L.map (·.1) → i ∈ w
  f_nd : (F.map (·.1)).Nodup
  f_ok : ∀ j i, (j, i) ∈ F → f i j = true ∧ j < n ∧ i ∈ w
  a_non : ∀ i, (i, none) ∈ A → i ∉ L.map (·.1)
  a_som : ∀ i j, (i, some j) ∈ A → (i, j) ∈ L ∧ j ∈ F.map (·.1)
  back : ∀ i j, (i, j) ∈ L → j ∈ F.map (·.1) → i ∈ w
  rank : ∀ m i j, A[m]? = some (i, some j) → ∀ o, (j, o) ∈ F → o ∈ w.take m
section
variable {f : Nat → Nat → Bool} {n : Nat} {L : List (Nat × Nat)} (hM : Mtg f n L) {A : List (Nat × Option Nat)} {F : List (Nat × Nat)} {w : List Nat} (h : CI f n L A F w)
include hM h
theorem CI.add {i j : Nat} (hi : i ∈ w) (hj : j < n) (hf : f i j = true) (hn : j ∉ F.map (·.1)) (hb : ∀ i', (i', j) ∈ L → i' ∈ w) : CI f n L A (F ++ [(j, i)]) w := by
  refine ⟨h.a_w, h.w_nd, h.w_lt, h.st, ?_, fun j' i' hm => ?_, h.a_non, fun i' j' hm => ?_, fun i' j' hm hF => ?_, fun m i' j' hm o ho => ?_⟩
  · rw [List.map_append, List.nodup_append]
    exact ⟨h.f_nd, by simp, fun a ha b hb' => by simp at hb'; rw [hb']; intro e; exact hn (e ▸ ha)⟩
  · rcases List.mem_append.mp hm with hm | hm
    · exact h.f_ok j' i' hm
    · rw [List.mem_singleton] at hm; cases hm; exact ⟨hf, hj, hi⟩
  · have := h.a_som i' j' hm
    exact ⟨this.1, by rw [List.map_append]; exact List.mem_append_left _ this.2⟩
  · rw [List.map_append] at hF
    rcases List.mem_append.mp hF with hF | hF
    · exact h.back i' j' hm hF
    · simp at hF; subst hF; exact hb i' hm
  · rcases List.mem_append.mp ho with ho | ho
    · exact h.rank m i' j' hm o ho
    · rw [List.mem_singleton] at ho
      cases ho
      exact absurd (h.a_som i' j (List.mem_of_getElem? hm)).2 hn
end
structure LI (f : Nat → Nat → Bool) (n : Nat) (L : List (Nat × Nat)) (F : List (Nat × Nat)) (w : List Nat) (m : Nat) (j : Nat) (G : List (Nat × Nat)) : Prop where
  mt : Mtg f n G
  len : G.length = L.length
  free : j ∉ G.map (·.2)
  same : ∀ i ∈ w.take m, ∀ y, (i, y) ∈ G ↔ (i, y) ∈ L
  at_ : ∃ o, (j, o) ∈ F ∧ o ∈ w.take m
section
variable {f : Nat → Nat → Bool} {n : Nat} {L : List (Nat × Nat)} (hM : Mtg f n L) {A : List (Nat × Option Nat)} {F : List (Nat × Nat)} {w : List Nat} (h : CI f n L A F w)
include hM h
theorem LI.step {m j : Nat} {G : List (Nat × Nat)} (l : LI f n L F w m j G) : ∃ o x, vGet F j = some o ∧ vGet A o = some x ∧
    (x = none ∧ Mtg f n (vPut G o j) ∧ (vPut G o j).length = L.length + 1 ∨ ∃ j1 p, x = some j1 ∧ p < m ∧ LI f n L F w p j1 (vPut G o j)) := by
  obtain ⟨o, ho, hom⟩ := l.at_
  have hfo := h.f_ok j o ho
  obtain ⟨p, hp, rfl⟩ := List.mem_iff_getElem.mp hom
  have hpm : p < m := by rw [List.length_take] at hp; omega
  have hpw : p < w.length := by rw [List.length_take] at hp; omega
  rw [List.getElem_take] at ho hom hfo
  have hlen : A.length = w.length := by have := congrArg List.length h.a_w; simpa using this
  have hAk : (A.map (·.1)).Nodup := by rw [h.a_w]; exact h.w_nd
  have hpA : p < A.length := by omega
  have hA1 : A[p].1 = w[p] := by
    have : (A.map (·.1))[p]'(by simpa using hpA) = w[p] := by simp only [h.a_w]
    rw [List.getElem_map] at this; exact this
  have hAm : (w[p], A[p].2) ∈ A := by
    rw [← hA1]; exact List.getElem_mem hpA
  have hAp : A[p]? = some (w[p], A[p].2) := by rw [List.getElem?_eq_getElem hpA, ← hA1]
  refine ⟨w[p], A[p].2, vGet_of h.f_nd ho, vGet_of hAk hAm, ?_⟩
  have sub : ∀ i ∈ w.take p, i ∈ w.take m ∧ i ≠ w[p] := fun i hi => by
    obtain ⟨k, hk, e⟩ := List.mem_iff_getElem.mp hi
    rw [List.getElem_take] at e
    have hkp : k < p := by rw [List.length_take] at hk; omega
    refine ⟨?_, fun z => ?_⟩
    · rw [← e]
      exact List.mem_iff_getElem.mpr ⟨k, by rw [List.length_take]; omega, by rw [List.getElem_take]⟩
    · rw [← e] at z
      exact absurd z (List.pairwise_iff_getElem.mp h.w_nd k p (by omega) hpw hkp)
  cases hx : A[p].2 with
  | none =>
    rw [hx] at hAm
    have hno := h.a_non _ hAm
    have hnG : w[p] ∉ G.map (·.1) := fun z => by
      obtain ⟨e, he, e1⟩ := List.mem_map.mp z
      have he' : (w[p], e.2) ∈ G := by rw [← e1]; exact he
      exact hno (mem_key ((l.same _ hom _).mp he'))
    refine .inl ⟨rfl, ?_, ?_⟩
    · rw [vPut_new hnG]
      refine ⟨?_, ?_, fun e he => ?_⟩
      · rw [List.map_append, List.nodup_append]
        exact ⟨l.mt.k, by simp, fun a ha b hb => by simp at hb; rw [hb]; intro e; exact hnG (e ▸ ha)⟩
      · rw [List.map_append, List.nodup_append]
        exact ⟨l.mt.v, by simp, fun a ha b hb => by simp at hb; rw [hb]; intro e; exact l.free (e ▸ ha)⟩
      · rcases List.mem_append.mp he with he | he
        · exact l.mt.ok e he
        · rw [List.mem_singleton.mp he]; exact ⟨hfo.1, h.w_lt _ hfo.2.2, hfo.2.1⟩
    · rw [vPut_new hnG, List.length_append, l.len]; rfl
  | some j1 =>
    rw [hx] at hAm hAp
    have hs := h.a_som _ _ hAm
    have hG1 : (w[p], j1) ∈ G := (l.same _ hom _).mpr hs.1
    have hk := mem_key hG1
    obtain ⟨⟨j1', o1⟩, ho1, e1⟩ := List.mem_map.mp hs.2
    simp only at e1
    subst e1
    have hj : j ≠ j1' := fun e => l.free (List.mem_map.mpr ⟨_, hG1, e.symm⟩)
    have hput := vPut_old (v := j) hk
    have mem_new : ∀ a b, (a, b) ∈ vPut G w[p] j ↔ (a ≠ w[p] ∧ (a, b) ∈ G) ∨ (a = w[p] ∧ b = j) := fun a b => by
      rw [hput, List.mem_map]
      constructor
      · rintro ⟨e, he, e2⟩
        by_cases z : e.1 = w[p]
        · rw [if_pos z] at e2
          cases e2
          exact .inr ⟨z, rfl⟩
        · rw [if_neg z] at e2
          subst e2
          exact .inl ⟨z, he⟩
      · rintro (⟨z, he⟩ | ⟨rfl, rfl⟩)
        · exact ⟨_, he, if_neg z⟩
        · exact ⟨_, hG1, if_pos rfl⟩
    have keys : (vPut G w[p] j).map (·.1) = G.map (·.1) := by rw [vPut_keys, if_pos hk]
    have hmt : Mtg f n (vPut G w[p] j) := by
      refine ⟨by rw [keys]; exact l.mt.k, ?_, fun e he => ?_⟩
      · have gk := l.mt.k
        have gv := l.mt.v
        have gf := l.free
        rw [hput]
        clear keys mem_new hput hk hG1 hAm hAp hx
        have hnd : ∀ G : List (Nat × Nat), (G.map (·.1)).Nodup → (G.map (·.2)).Nodup → j ∉ G.map (·.2) → ((G.map fun kv => if kv.1 = w[p] then (kv.1, j) else kv).map (·.2)).Nodup := by
          intro G
          induction G with
          | nil => exact fun _ _ _ => List.Pairwise.nil
          | cons e G ih =>
            intro k v fr
            rw [List.map_cons, List.nodup_cons] at k v
            have fr1 : j ≠ e.2 := fun z => fr (by rw [List.map_cons, z]; exact List.mem_cons_self)
            have fr2 : j ∉ G.map (·.2) := fun z => fr (by rw [List.map_cons]; exact List.mem_cons_of_mem _ z)
            rw [List.map_cons, List.map_cons, List.nodup_cons]
            refine ⟨fun z => ?_, ih k.2 v.2 fr2⟩
            obtain ⟨a, ha, ea⟩ := List.mem_map.mp z
            obtain ⟨b, hb, eb⟩ := List.mem_map.mp ha
            by_cases q1 : e.1 = w[p] <;> by_cases q2 : b.1 = w[p]
            · exact k.1 (List.mem_map.mpr ⟨b, hb, q2.trans q1.symm⟩)
            · rw [if_pos q1] at ea; rw [if_neg q2] at eb
              subst eb
              exact fr2 (List.mem_map.mpr ⟨b, hb, ea⟩)
            · rw [if_neg q1] at ea; rw [if_pos q2] at eb
              subst eb
              exact fr1 ea
            · rw [if_neg q1] at ea; rw [if_neg q2] at eb
              subst eb
              exact v.1 (List.mem_map.mpr ⟨b, hb, ea⟩)
        exact hnd G gk gv gf
      · obtain ⟨a, b⟩ := e
        rcases (mem_new a b).mp he with ⟨_, z⟩ | ⟨rfl, rfl⟩
        · exact l.mt.ok _ z
        · exact ⟨hfo.1, h.w_lt _ hfo.2.2, hfo.2.1⟩
    refine .inr ⟨j1', p, rfl, hpm, hmt, ?_, fun z => ?_, fun i hi y => ?_, o1, ho1, ?_⟩
    · have := congrArg List.length keys
      simp only [List.length_map] at this
      rw [this, l.len]
    · obtain ⟨⟨a, b⟩, he, rfl⟩ := List.mem_map.mp z
      rcases (mem_new a b).mp he with ⟨ne, z⟩ | ⟨_, e⟩
      · exact ne (pair_v l.mt.v z hG1)
      · exact hj e.symm
    · have hs := sub i hi
      rw [mem_new, ← l.same i hs.1 y]
      exact ⟨fun z => z.elim (fun z => z.2) (fun z => absurd z.1 hs.2), fun z => .inl ⟨hs.2, z⟩⟩
    · exact h.rank p _ _ hAp o1 ho1
end
end Lap
namespace Lap
open PySem G
def kP (p : P2) : List L2.Key := [.inl p.1, .inl p.2]
def kvS (ks : List P2) : List (List L2.Key × D) := ks.map fun p => (kP p, .bl true)
def addP (ks : List P2) (p : P2) : List P2 := if p ∈ ks then ks else ks ++ [p]
theorem addP_nodup {ks : List P2} (h : ks.Nodup) (p : P2) : (addP ks p).Nodup := by
  unfold addP
  split
  · exact h
  · rename_i hn
    rw [List.nodup_append]
    exact ⟨h, by simp, fun x hx y hy => by rw [List.mem_singleton.mp hy]; intro z; exact hn (z ▸ hx)⟩
theorem addP_len (ks : List P2) (p : P2) : (addP ks p).length ≤ ks.length + 1 := by
  unfold addP; split <;> simp
theorem addP_mem {ks : List P2} {p x : P2} : x ∈ addP ks p ↔ x ∈ ks ∨ x = p := by
  unfold addP
  split
  · rename_i h
    exact ⟨.inl, fun z => z.elim id fun e => e ▸ h⟩
  · simp
structure DAt (ts : List Int) (p q : Nat) (s0 : Sto) (start : Int) (n : Nat) (ks : List P2) (s : Sto) : Prop where
  pool : Pool p s
  at_ : s[q]? = some (.de (kvS ks))
  eff : EffG p s0 s
  nd : ks.Nodup
  len : ks.length ≤ n
  ok : ∀ x ∈ ks, MatOk ts x ∧ start ≤ x.1 ∧ x.1 ≤ start + 5000
theorem DAt.put {ts : List Int} {p q : Nat} {s0 : Sto} {start : Int} {n : Nat} {ks : List P2} {s : Sto} (h : DAt ts p q s0 start n ks s) (hpq : p ≠ q) (hq0 : s0.length ≤ q) {x : P2} (hx : MatOk ts x ∧ start ≤ x.1 ∧ x.1 ≤ start + 5000) : DAt ts p q s0 start (n + 1) (addP ks x) (s.set q (.de (kvS (addP ks x)))) :=
  ⟨set_other hpq h.pool, by rw [List.getElem?_set_self (List.getElem?_eq_some_iff.mp h.at_).1], h.eff.setNew hq0 _, addP_nodup h.nd _, by have := addP_len ks x; have := h.len; omega, fun y hy => by
    rcases addP_mem.mp hy with hy | rfl
    · exact h.ok y hy
    · exact hx⟩
end Lap
namespace Lap
open PySem G
def hL (f : Nat → Nat → Bool) (n k : Nat) (P : List Nat) : List Int := (List.range n).map fun j => ((1 + if j ∈ P then mxH f (hgt f) (k + 1) j else mxH f (hgt f) k j : Nat) : Int)
end Lap
namespace Lap
open PySem G
theorem bigI_ge : ∀ {l : List Int} {x : Int}, x ∈ l → x ≤ bigI l
  | [y], x, h => by rw [List.mem_singleton.mp h]; exact Int.le_refl _
  | y :: z :: l, x, h => by
    have := fun h => bigI_ge (l := z :: l) (x := x) h
    show x ≤ max y (bigI (z :: l))
    rcases List.mem_cons.mp h with rfl | h
    · omega
    · have := this h; omega
theorem bigI_mem : ∀ {l : List Int}, l ≠ [] → bigI l ∈ l
  | [y], _ => by simp [bigI]
  | y :: z :: l, _ => by
    have := bigI_mem (l := z :: l) (by simp)
    show max y (bigI (z :: l)) ∈ _
    rcases Int.le_total y (bigI (z :: l)) with h | h
    · rw [Int.max_eq_right h]; exact List.mem_cons_of_mem _ this
    · rw [Int.max_eq_left h]; exact List.mem_cons_self
end Lap
namespace Lap
open PySem G
theorem bigI_eq {l : List Int} {x : Int} (h1 : x ∈ l) (h2 : ∀ y ∈ l, y ≤ x) : bigI l = x := by
  have := bigI_mem (l := l) (by intro z; rw [z] at h1; cases h1)
  have a := h2 _ this
  have b := bigI_ge h1
  omega
end Lap
namespace Lap
open PySem G
section
variable {f : Nat → Nat → Bool} (hf : ∀ i j, f i j = true → i < j) (htr : ∀ i j k, f i j = true → f j k = true → f i k = true) {n : Nat} {L : List (Nat × Nat)} (hM : Mtg f n L)
include hf htr hM
omit hf htr in
omit hf htr in
end
end Lap
namespace Lap
open PySem G
section
variable (st : Sto)
theorem _root_.Lap.RaceOk.in {ts : List Int} {t0 : Int} {bs : List (List P2)} (h : RaceOk ts t0 bs) : RaceIn ts t0 bs := ⟨h.n1, h.n6, h.bag, h.s0⟩
end
end Lap
namespace Lap
open PySem G
abbrev Wd := Int × Int × Int × Int
end Lap
namespace Lap
open PySem G
theorem lcG_tF {α : Type} {t : Tg} {tt : EvB} {fe : EvE} {envw : G.Env} {st : Sto} {nxt : Nat → Sto → Option (Option D)} (f h : α → D) (p : α → Bool) : ∀ (as : List α) (i : Nat) (acc : List D), acc.length + as.length ≤ 16777216 → (∀ j, nxt (i + j) st = some ((as.map f)[j]?)) →
    (∀ a ∈ as, ∃ env1, t.set (f a) envw = some env1 ∧ tt env1 st = .ok (p a) st ∧ (p a = true → fe env1 st = .ok (h a) st)) → lcG t tt fe envw nxt as.length i st acc = .ok (acc ++ (as.filter p).map h) st
  | [], i, acc, _, hn, _ => by
    have := hn 0
    simp only [Nat.add_zero, List.map_nil, List.getElem?_nil] at this
    simp [lcG, this]
  | a :: as, i, acc, hl, hn, hx => by
    obtain ⟨env1, h1, ht, h2⟩ := hx a List.mem_cons_self
    simp only [List.length_cons] at hl
    have n0 := hn 0
    simp only [Nat.add_zero, List.map_cons, List.getElem?_cons_zero] at n0
    rw [List.length_cons]
    unfold lcG
    rw [n0]
    simp only
    rw [turnC_if h1 ht h2 (by omega), lcG_tF f h p as (i + 1) _ (by split <;> (try simp only [List.length_append, List.length_cons, List.length_nil]) <;> omega) (fun j => by
      have := hn (j + 1)
      rw [List.map_cons, List.getElem?_cons_succ, show i + (j + 1) = i + 1 + j by omega] at this
      exact this) fun y hy => hx y (List.mem_cons_of_mem _ hy)]
    cases e : p a with
    | false => simp [e]
    | true => simp [e]
def eR : Nat → List (List P2) → List D
  | _, [] => []
  | r, row :: rows => .tup [.int r, bagD row] :: eR (r + 1) rows
theorem eR_eq (rows : List (List P2)) : enumL (rows.map bagD) = eR 0 rows := by
  unfold enumL
  rw [List.length_map, List.range_eq_range']
  generalize 0 = r
  induction rows generalizing r with
  | nil => rfl
  | cons row rows ih =>
    rw [List.length_cons, List.range'_succ, List.map_cons, List.zipWith_cons_cons, ih]; rfl
abbrev rowsF (t0 : Int) (bs : List (List P2)) : List (List P2) := bs.map (fullL t0)
end Lap
namespace Lap
open PySem G
def paceI (M : Nat) (g : P2 × P2) : Int := (g.2.1 - g.1.1) / (stepsN M g.1.2.toNat g.2.2.toNat : Nat)
abbrev Tri := Int × Int × Int
def triB (M k : Nat) (b : List P2) : List Tri := (List.range (b.length - 1)).map fun (i : Nat) => (paceI M (pat b i, pat b (i + 1)), (k : Int), (i : Int))
def triA (M : Nat) : Nat → List (List P2) → List Tri
  | _, [] => []
  | k, b :: bs => triB M k b ++ triA M (k + 1) bs
theorem triB_len (M k : Nat) (b : List P2) : (triB M k b).length = b.length - 1 := by simp [triB]
theorem triA_len {M : Nat} : ∀ (bs : List (List P2)) (k : Nat), (∀ b ∈ bs, b.length ≤ 30) → (triA M k bs).length ≤ 30 * bs.length
  | [], _, _ => Nat.zero_le _
  | b :: bs, k, h => by
    have := triA_len (M := M) bs (k + 1) fun x hx => h x (List.mem_cons_of_mem _ hx)
    have h1 := h b List.mem_cons_self
    show (triB M k b ++ triA M (k + 1) bs).length ≤ _
    rw [List.length_append, triB_len, List.length_cons]
    omega
section
variable (st : Sto)
theorem f_gap_pace {M : Nat} (h1 : 1 ≤ M) (h8 : M ≤ 8) {p q : P2} (hp : MatOk (evenL M) p) (hq : MatOk (evenL M) q) : F_gap_pace [.int M, pairD p, pairD q] st = .ok (.int (paceI M (p, q))) st := by
  have bg := big_ge
  obtain ⟨_, p1, p2⟩ := hp
  obtain ⟨_, q1, q2⟩ := hq
  rw [even_len] at p2 q2
  have f1 := f_even_track st h1 h8
  have f2 := f_steps_by st (ts := evenL M) (m := p.2.toNat) (o := q.2.toNat) (by rw [even_len]; omega) (by rw [even_len]; omega)
  have rg := steps_rng (M := M) (m := p.2.toNat) (o := q.2.toNat) (by omega) (by omega)
  rw [even_len, show ((p.2.toNat : Nat) : Int) = p.2 by omega, show ((q.2.toNat : Nat) : Int) = q.2 by omega] at f2
  have dv : fdivD (.int (q.1 - p.1)) (.int ((stepsN M p.2.toNat q.2.toNat : Nat) : Int)) st = .ok (.int ((q.1 - p.1) / ((stepsN M p.2.toNat q.2.toNat : Nat) : Int))) st := by
    have c : 0 < ((stepsN M p.2.toNat q.2.toNat : Nat) : Int) ∧ ((stepsN M p.2.toNat q.2.toNat : Nat) : Int).natAbs < big := by omega
    show (if _ then _ else _) = _
    rw [if_pos c]
  have x1 := ix_pair0 st p
  have x2 := ix_pair1 st p
  have x3 := ix_pair0 st q
  have x4 := ix_pair1 st q
  unfold paceI
  show _ = R.ok (D.int ((q.1 - p.1) / ((stepsN M p.2.toNat q.2.toNat : Nat) : Int))) st
  clear rg p1 q1 p2 q2
  generalize ((stepsN M p.2.toNat q.2.toNat : Nat) : Int) = sn at *
  generalize tupI (evenL M) = td at *
  generalize pairD p = pd at *
  generalize pairD q = qd at *
  simp [-fdivD_int, F_gap_pace, runF, B_gap_pace, x1, x2, x3, x4, f1, f2, dv]
end
def gp_body5 : SvS := (exprS (methLE appF (varE 2) (consA (tupE (consA (callE F_gap_pace (consA (varE 0) (consA (binE ixD (varE 4) (varE 5)) (consA (binE ixD (varE 4) (binE addD (varE 5) (cE (.int 1)))) (nilA))))) (consA (tupE (consA (varE 3) (consA (varE 5) (nilA)))) (nilA)))) (nilA))))
def gp_body3 : SvS := (forS (callI range1F (consA (binE subD (callE lenF (consA (varE 4) (nilA))) (cE (.int 1))) (nilA))) (tgT (.nm 5)) gp_body5)
theorem gp_right_eq : B_gap_paces = seqS (asgS (mutE (nilA)) (nameT 2)) (seqS (forS (callI enumF (consA (varE 1) (nilA))) (tgT (.tp [.nm 3, .nm 4])) gp_body3) (retS (varE 2))) := rfl
theorem gp_inner {M : Nat} (h1 : 1 ≤ M) (h8 : M ≤ 8) {b : List P2} (hb : BagOk (evenL M) b) (k : Nat) (acc : List Tri) (hacc : acc.length ≤ 1000) (bd : D) (o5 : Option D) (st : Sto) :
    ∃ o5', loopF (tgT (.nm 5)) gp_body5 (rangeD 0 (b.length - 1)) [some (.int M), some bd, some (.mut st.length), some (.int k), some (bagD b), o5] (st ++ [.lst (acc.map tripD)]) = .nx [some (.int M), some bd, some (.mut st.length), some (.int k), some (bagD b), o5'] (st ++ [.lst ((acc ++ triB M k b).map tripD)]) := by
  have hl := hb.len
  obtain ⟨env', s', e, ⟨o5', rfl⟩, rfl⟩ := loop_nx (g := tgT (.nm 5)) (body := gp_body5)
    (fun j env s => (∃ o5 : Option D, env = [some (.int M), some bd, some (.mut st.length), some (.int k), some (bagD b), o5]) ∧ s = st ++ [.lst ((acc ++ (triB M k b).take j).map tripD)])
    (xs := rangeD 0 (b.length - 1)) (env := [some (.int M), some bd, some (.mut st.length), some (.int k), some (bagD b), o5]) (st := st ++ [.lst (acc.map tripD)]) ⟨⟨o5, rfl⟩, by simp⟩
    (by
      rintro j x env s hx ⟨⟨o5, rfl⟩, rfl⟩
      obtain ⟨rfl, hj⟩ := range_get hx
      have hj1 : j + 1 < b.length := by omega
      have x1 := ix_bag (st ++ [.lst ((acc ++ (triB M k b).take j).map tripD)]) b j (by omega)
      have x2 := ix_bag (st ++ [.lst ((acc ++ (triB M k b).take j).map tripD)]) b (j + 1) hj1
      have f := f_gap_pace (st ++ [.lst ((acc ++ (triB M k b).take j).map tripD)]) h1 h8 (hb.ok _ (List.getElem_mem (show j < b.length by omega))) (hb.ok _ (List.getElem_mem hj1))
      have at_ := get_end st (.lst ((acc ++ (triB M k b).take j).map tripD))
      have il := isL_mut at_
      have ap := app_mut (tripD (paceI M (b[j], b[j + 1]), (k : Int), (j : Int))) at_ (by rw [List.length_map, List.length_append, List.length_take, triB_len]; omega)
      rw [set_end] at ap
      have hjl : j < (triB M k b).length := by rw [triB_len]; omega
      have tk : (acc ++ (triB M k b).take (j + 1)).map tripD = (acc ++ (triB M k b).take j).map tripD ++ [tripD (paceI M (b[j], b[j + 1]), (k : Int), (j : Int))] := by
        rw [List.take_add_one, List.getElem?_eq_getElem hjl, ← List.append_assoc, List.map_append]
        congr 1
        show [tripD (triB M k b)[j]] = _
        simp [triB, pat_get (show j < b.length by omega), pat_get hj1]
      rw [← tk] at ap
      refine ⟨[some (.int M), some bd, some (.mut st.length), some (.int k), some (bagD b), some (.int (j : Nat))], _, ?_, ⟨some (.int (j : Nat)), rfl⟩, rfl⟩
      rw [Int.zero_add]
      have k1 : ((j + 1 : Nat) : Int) = (j : Int) + 1 := by push_cast; rfl
      rw [k1] at x2
      unfold gp_body5
      generalize hpi : paceI M (b[j], b[j + 1]) = pi at *
      have ap : appF (.mut st.length) [.tup [.int pi, .tup [.int (k : Int), .int (j : Int)]]] (st ++ [.lst ((acc ++ (triB M k b).take j).map tripD)]) = .ok .non (st ++ [.lst ((acc ++ (triB M k b).take (j + 1)).map tripD)]) := ap
      clear tk at_ hpi
      generalize pairD b[j] = pj at *
      generalize pairD b[j + 1] = pj1 at *
      generalize st ++ [.lst ((acc ++ (triB M k b).take j).map tripD)] = s1 at *
      generalize st ++ [.lst ((acc ++ (triB M k b).take (j + 1)).map tripD)] = s2 at *
      generalize (j : Int) = ji at *
      generalize (k : Int) = ki at *
      generalize (M : Int) = mi at *
      generalize bagD b = bdd at *
      generalize D.mut st.length = md at *
      simp [il, x1, x2, f, ap])
  refine ⟨o5', ?_⟩
  rw [e, rangeD_length, ← triB_len M k b, List.take_length]
theorem gp_outer {M : Nat} (h1 : 1 ≤ M) (h8 : M ≤ 8) (bd : D) (st : Sto) (bs : List (List P2)) : ∀ (k : Nat) (acc : List Tri), (∀ b ∈ bs, BagOk (evenL M) b) → acc.length + 30 * bs.length ≤ 1000 → ∀ o3 o4 o5 : Option D,
    ∃ o3' o4' o5', loopF (tgT (.tp [.nm 3, .nm 4])) gp_body3 (eR k bs) [some (.int M), some bd, some (.mut st.length), o3, o4, o5] (st ++ [.lst (acc.map tripD)]) = .nx [some (.int M), some bd, some (.mut st.length), o3', o4', o5'] (st ++ [.lst ((acc ++ triA M k bs).map tripD)]) := by
  induction bs with
  | nil => exact fun k acc _ _ o3 o4 o5 => ⟨o3, o4, o5, by simp [eR, loopF, triA]⟩
  | cons b bs ih =>
    intro k acc hb hl o3 o4 o5
    have hbb := hb b List.mem_cons_self
    have hbl := hbb.len
    rw [List.length_cons] at hl
    obtain ⟨o5a, e1⟩ := gp_inner h1 h8 hbb k acc (by omega) bd o5 st
    obtain ⟨o3', o4', o5', e2⟩ := ih (k + 1) (acc ++ triB M k b) (fun x hx => hb x (List.mem_cons_of_mem _ hx)) (by rw [List.length_append, triB_len]; omega) (some (.int (k : Nat))) (some (bagD b)) o5a
    refine ⟨o3', o4', o5', ?_⟩
    rw [List.append_assoc] at e2
    show loopF _ _ (D.tup [.int k, bagD b] :: eR (k + 1) bs) _ _ = .nx _ (st ++ [.lst ((acc ++ (triB M k b ++ triA M (k + 1) bs)).map tripD)])
    rw [← e2]
    clear ih
    have ln : ∀ s, lenF [bagD b] s = .ok (.int b.length) s := fun s => by unfold bagD; rw [lenF_tup, List.length_map]
    have rg : ∀ s, range1F [.int ((b.length : Int) - 1)] s = .ok (.frz (rangeD 0 (b.length - 1))) s := fun s => by
      rw [range1F_eq, if_pos (by omega)]
      congr 2
      congr 1
      omega
    generalize (b.length : Int) = L at *
    generalize rangeD 0 (b.length - 1) = rr at *
    generalize bagD b = bdd at *
    generalize D.mut st.length = md at *
    generalize hB5 : gp_body5 = b5 at *
    generalize st ++ [.lst (acc.map tripD)] = s1 at *
    generalize st ++ [.lst ((acc ++ triB M k b).map tripD)] = s2 at *
    rw [loopF_cons]
    have st3 : gp_body3 [some (.int M), some bd, some md, some (.int k), some bdd, o5] s1 = .nx [some (.int M), some bd, some md, some (.int k), some bdd, o5a] s2 := by
      unfold gp_body3
      rw [hB5]
      simp [-range1F_eq, ln, rg, e1]
    generalize gp_body3 = b3 at *
    generalize eR (k + 1) bs = rest at *
    simp [tgT, Tg.set, Tg.sets, st3]
theorem f_gap_paces {M : Nat} {bs : List (List P2)} (h : BagsOk M bs) (st : Sto) : F_gap_paces [.int M, bagsD bs] st = .ok (.mut st.length) (st ++ [.lst ((triA M 0 bs).map tripD)]) := by
  obtain ⟨o3', o4', o5', e⟩ := gp_outer h.h1 h.h8 (bagsD bs) st bs 0 [] h.ok (by have := h.n6; simp; omega) none none none
  rw [List.nil_append, List.map_nil] at e
  have en : ∀ s, enumF [bagsD bs] s = .ok (.frz (eR 0 bs)) s := fun s => by unfold bagsD; rw [enumF_tup, eR_eq]
  unfold F_gap_paces
  rw [gp_right_eq]
  generalize st ++ [.lst ((triA M 0 bs).map tripD)] = s2 at *
  generalize eR 0 bs = rr at *
  generalize bagsD bs = bd at *
  generalize gp_body3 = b3 at *
  generalize (M : Int) = mi at *
  simp [runF, en, e]
end Lap
namespace Lap
open PySem G
theorem pds_map {α : Type} (f : α → D) (g : α → PyData) (k : Nat) : ∀ xs : List α, (∀ x ∈ xs, toPD (f x) = some (g x) ∧ (g x).canLay0 = true ∧ (g x).depth ≤ k) → toPDs (xs.map f) = some (xs.map g) ∧ PyData.canLayAll0 (xs.map g) = true ∧ PyData.depthAll (xs.map g) ≤ k
  | [], _ => ⟨rfl, rfl, Nat.zero_le _⟩
  | x :: xs, h => by
    obtain ⟨a, b, c⟩ := h x List.mem_cons_self
    obtain ⟨d, e, m⟩ := pds_map f g k xs fun y hy => h y (List.mem_cons_of_mem _ hy)
    refine ⟨?_, ?_, ?_⟩
    · rw [List.map_cons]
      unfold toPDs
      rw [a, d]; rfl
    · rw [List.map_cons]
      unfold PyData.canLayAll0
      rw [b, e]; rfl
    · rw [List.map_cons]
      unfold PyData.depthAll
      exact Nat.max_le.mpr ⟨c, m⟩
theorem shaped_list {ps : List PyData} {k : Nat} (h1 : PyData.canLayAll0 ps = true) (h2 : PyData.depthAll ps ≤ k) (hk : k ≤ 60) : SeqAt.shaped (.list ps) = true := by
  unfold SeqAt.shaped
  rw [Bool.and_eq_true]
  refine ⟨by unfold PyData.canLay0; exact h1, decide_eq_true ?_⟩
  unfold PyData.depth
  omega
theorem eqv_list0 (ps : List PyData) : PyData.eqv (.list ps) (.list []) = ps.isEmpty := by
  cases ps with
  | nil => simp [PyData.eqv, PyData.eqvAll]
  | cons x xs => simp [PyData.eqv, PyData.eqvAll]
theorem ne_lst0 {xs : List D} {ps : List PyData} (h : toPDs xs = some ps) (sh : SeqAt.shaped (.list ps) = true) (st : Sto) : neD (.lst xs) (.lst []) st = .ok (.bl (!xs.isEmpty)) st := by
  have hp : ps.isEmpty = xs.isEmpty := by
    cases xs with
    | nil => cases h; rfl
    | cons x xs =>
      unfold toPDs at h
      split at h
      · cases h; rfl
      · cases h
  have e : eqO (.lst xs) (.lst []) = some xs.isEmpty := by
    unfold eqO
    have h1 : scalD (.lst xs) (.lst []) = none := rfl
    have h2 : toPD (.lst xs) = some (.list ps) := by unfold toPD; rw [h]; rfl
    have h3 : toPD (.lst []) = some (.list []) := by simp [toPD, toPDs]
    rw [h1, h2, h3]
    show (if SeqAt.shaped (.list ps) = true ∧ SeqAt.shaped (.list []) = true then some (PyData.eqv (.list ps) (.list [])) else none) = _
    rw [if_pos ⟨sh, by decide +kernel⟩, eqv_list0, hp]
  unfold neD
  rw [e]
theorem ne_ints0 (l : List Int) (st : Sto) : neD (.lst (l.map D.int)) (.lst []) st = .ok (.bl (!l.isEmpty)) st := by
  obtain ⟨a, b, c⟩ := pds_map D.int PyData.int 1 l fun x _ => ⟨rfl, rfl, Nat.zero_le _⟩
  rw [ne_lst0 a (shaped_list b c (by decide)) st]
  cases l <;> rfl
def bagPD (b : List P2) : PyData := .tuple (b.map pairPD)
theorem bag_PD (b : List P2) : toPD (bagD b) = some (bagPD b) ∧ (bagPD b).canLay0 = true ∧ (bagPD b).depth ≤ 2 := by
  refine ⟨?_, ?_, ?_⟩
  · unfold bagD toPD
    rw [toPDs_pairs]; rfl
  · unfold bagPD PyData.canLay0
    exact canLay_pairs b
  · unfold bagPD PyData.depth
    have := depth_pairs b
    omega
theorem ne_bags0 (l : List (List P2)) (st : Sto) : neD (.lst (l.map bagD)) (.lst []) st = .ok (.bl (!l.isEmpty)) st := by
  obtain ⟨a, b, c⟩ := pds_map bagD bagPD 2 l fun x _ => bag_PD x
  rw [ne_lst0 a (shaped_list b c (by decide)) st]
  cases l <;> rfl
def smO : List Int → Option Int
  | [] => none
  | y :: l => some (smallI (y :: l))
def paceO (M : Nat) (bs : List (List P2)) : Option Int := smO ((triA M 0 bs).map (·.1))
section
variable {M : Nat} {bs : List (List P2)}
theorem triA_small (h : BagsOk M bs) : (triA M 0 bs).length ≤ 180 := by
  have := triA_len (M := M) bs 0 fun b hb => (h.ok b hb).len
  have := h.n6
  omega
theorem f_pace_by (h : BagsOk M bs) (st : Sto) : ∃ ex, F_pace_by [.int M, bagsD bs] st = .ok (optI (paceO M bs)) (st ++ ex) := by
  have hl := triA_small h
  have gp := f_gap_paces h st
  have lg := lcG_tF (t := .tp [.nm 3, .nm 4]) (tt := yesB) (fe := varE 3) (envw := [some (.int M), some (bagsD bs), none, none, none]) (st := st ++ [.lst ((triA M 0 bs).map tripD)]) (nxt := mutNxt st.length) tripD (fun t => D.int t.1) (fun _ => true) (triA M 0 bs) 0 [] (by simp; omega)
    (fun j => by unfold mutNxt; simp) (fun a _ => ⟨[some (.int M), some (bagsD bs), none, some (.int a.1), some (.tup [.int a.2.1, .int a.2.2])], by simp [tripD, Tg.set, Tg.sets], rfl, fun _ => by simp⟩)
  rw [List.filter_eq_self.mpr (fun _ _ => rfl), List.nil_append, show (triA M 0 bs).map (fun t => D.int t.1) = ((triA M 0 bs).map (·.1)).map D.int by rw [List.map_map]; rfl] at lg
  have it : iterD (.mut st.length) (st ++ [.lst ((triA M 0 bs).map tripD)]) = .ok (.gen (mutNxt st.length) (triA M 0 bs).length) (st ++ [.lst ((triA M 0 bs).map tripD)]) := by simp [iterD]
  have ne := ne_ints0 ((triA M 0 bs).map (·.1)) (st ++ [.lst ((triA M 0 bs).map tripD)])
  refine ⟨[.lst ((triA M 0 bs).map tripD)], ?_⟩
  unfold paceO
  have mi : ∀ y l s, minF [.lst ((y :: l : List Int).map D.int)] s = .ok (.int (smallI (y :: l))) s := fun y l s => by
    show (match (seqOf (.lst ((y :: l).map D.int)) s).bind intsOf with | some (n :: ns) => _ | _ => _) = _
    rw [show seqOf (.lst ((y :: l).map D.int)) s = some ((y :: l).map D.int) from rfl, Option.bind_some, intsOf_map]
  generalize st ++ [.lst ((triA M 0 bs).map tripD)] = s1 at *
  generalize (triA M 0 bs).length = tn at *
  generalize (triA M 0 bs).map (·.1) = vs at *
  generalize (M : Int) = Mi at *
  generalize bagsD bs = bd at *
  generalize mutNxt st.length = nx at *
  cases vs with
  | nil =>
    have ne : neD (.lst []) (.lst []) s1 = .ok (.bl false) s1 := ne
    have lg : lcG (.tp [.nm 3, .nm 4]) yesB (varE 3) [some (.int Mi), some bd, none, none, none] nx tn 0 s1 [] = .ok [] s1 := lg
    simp [-lcE_eq, F_pace_by, runF, B_pace_by, lcE, lcL, gp, iterE, it, wipeE, lg, R.bind, ne, smO, optI]
  | cons y l =>
    have ne : neD (.lst ((y :: l).map D.int)) (.lst []) s1 = .ok (.bl true) s1 := ne
    have mi := mi y l s1
    show _ = R.ok (D.int (smallI (y :: l))) s1
    generalize (y :: l).map D.int = vl at *
    generalize smallI (y :: l) = sm at *
    simp [-lcE_eq, F_pace_by, runF, B_pace_by, lcE, lcL, gp, iterE, it, wipeE, lg, R.bind, ne, mi]
def tightD (M : Nat) (bs : List (List P2)) : D := match triA M 0 bs with
  | [] => .non
  | t :: ts => .tup [.int ((t :: ts).getD (leastT (t :: ts)) (0, 0, 0)).2.1, .int ((t :: ts).getD (leastT (t :: ts)) (0, 0, 0)).2.2]
theorem f_tight_by (h : BagsOk M bs) (st : Sto) : ∃ ex, F_tight_gap_by [.int M, bagsD bs] st = .ok (tightD M bs) (st ++ ex) := by
  have gp := f_gap_paces h st
  obtain ⟨a, b, c⟩ := pds_map tripD tripPD 2 (triA M 0 bs) fun x _ => ⟨rfl, rfl, by simp [tripPD, PyData.depth, PyData.depthAll]⟩
  have ne : neMD (.mut st.length) (.lst []) (st ++ [.lst ((triA M 0 bs).map tripD)]) = .ok (.bl (!(triA M 0 bs).isEmpty)) (st ++ [.lst ((triA M 0 bs).map tripD)]) := by
    have e : eqMO (.mut st.length) (.lst []) (st ++ [.lst ((triA M 0 bs).map tripD)]) = some (triA M 0 bs).isEmpty := by
      unfold eqMO
      have h1 : thawD (st ++ [.lst ((triA M 0 bs).map tripD)]) (.mut st.length) = .lst ((triA M 0 bs).map tripD) := by unfold thawD; simp
      have h2 : toPD (.lst ((triA M 0 bs).map tripD)) = some (.list ((triA M 0 bs).map tripPD)) := by unfold toPD; rw [a]; rfl
      have h3 : toPD (thawD (st ++ [.lst ((triA M 0 bs).map tripD)]) (.lst [])) = some (.list []) := by show toPD (.lst []) = _; simp [toPD, toPDs]
      rw [h1, h2, h3]
      show (if SeqAt.shaped (.list ((triA M 0 bs).map tripPD)) = true ∧ SeqAt.shaped (.list []) = true then some (PyData.eqv (.list ((triA M 0 bs).map tripPD)) (.list [])) else none) = _
      rw [if_pos ⟨shaped_list b c (by decide), by decide +kernel⟩, eqv_list0]
      cases triA M 0 bs <;> rfl
    unfold neMD
    rw [e]
  refine ⟨[.lst ((triA M 0 bs).map tripD)], ?_⟩
  have at_ := get_end st (.lst ((triA M 0 bs).map tripD))
  unfold tightD
  have mn : ∀ t ts s, s[st.length]? = some (.lst ((t :: ts).map tripD)) → minNF [.mut st.length] s = .ok (tripD ((t :: ts).getD (leastT (t :: ts)) (0, 0, 0))) s := fun t ts s hs => by
    show (match (seqOf (.mut st.length) s).bind tripsOf with | some (t :: ts) => _ | _ => _) = _
    rw [show seqOf (.mut st.length) s = some ((t :: ts).map tripD) by simp [seqOf, hs], Option.bind_some, tripsOf_map]
  generalize st ++ [.lst ((triA M 0 bs).map tripD)] = s1 at *
  generalize (M : Int) = Mi at *
  generalize bagsD bs = bd at *
  generalize triA M 0 bs = tr at *
  cases tr with
  | nil =>
    have ne : neMD (.mut st.length) (.lst []) s1 = .ok (.bl false) s1 := ne
    generalize D.mut st.length = md at *
    simp [F_tight_gap_by, runF, B_tight_gap_by, gp, ne]
  | cons t ts =>
    have ne : neMD (.mut st.length) (.lst []) s1 = .ok (.bl true) s1 := ne
    have mn := mn t ts s1 at_
    have ix : ixD (tripD ((t :: ts).getD (leastT (t :: ts)) (0, 0, 0))) (.int 1) s1 = .ok (.tup [.int ((t :: ts).getD (leastT (t :: ts)) (0, 0, 0)).2.1, .int ((t :: ts).getD (leastT (t :: ts)) (0, 0, 0)).2.2]) s1 := ixD_tup _ _ _ rfl
    show _ = R.ok (D.tup [.int ((t :: ts).getD (leastT (t :: ts)) (0, 0, 0)).2.1, .int ((t :: ts).getD (leastT (t :: ts)) (0, 0, 0)).2.2]) s1
    generalize (t :: ts).getD (leastT (t :: ts)) (0, 0, 0) = u at *
    generalize D.mut st.length = md at *
    generalize tripD u = ud at *
    simp [F_tight_gap_by, runF, B_tight_gap_by, gp, ne, mn, ix]
theorem t_pace (h : BagsOk M bs) (st : Sto) : ∃ ex, F_pace [.int M, bagsD bs] st = .ok (optI (paceO M bs)) (st ++ ex) := by
  obtain ⟨ex, e⟩ := f_pace_by h st
  have c := f_check_bags st h
  refine ⟨ex, ?_⟩
  generalize (M : Int) = Mi at *
  generalize bagsD bs = bd at *
  generalize st ++ ex = s1 at *
  simp [F_pace, runF, B_pace, c, e]
theorem t_tight (h : BagsOk M bs) (st : Sto) : ∃ ex, F_tight_gap [.int M, bagsD bs] st = .ok (tightD M bs) (st ++ ex) := by
  obtain ⟨ex, e⟩ := f_tight_by h st
  have c := f_check_bags st h
  refine ⟨ex, ?_⟩
  generalize (M : Int) = Mi at *
  generalize bagsD bs = bd at *
  generalize st ++ ex = s1 at *
  simp [F_tight_gap, runF, B_tight_gap, c, e]
end
end Lap
namespace Lap
open PySem G
def lp_body4 : SvS := (seqS (asgS (tupE (consA (binE ixD (binE ixD (varE 1) (varE 3)) (varE 4)) (consA (binE ixD (binE ixD (varE 1) (varE 3)) (binE addD (varE 4) (cE (.int 1)))) (nilA)))) (tupT 2 (consT (tupT 2 (consT (nameT 5) (consT (nameT 6) (nilT)))) (consT (tupT 2 (consT (nameT 7) (consT (nameT 8) (nilT)))) (nilT))))) (putDS (binE fdivD (binE subD (varE 7) (varE 5)) (callE F__law_steps_v3 (consA (binE mulD (tupE (consA (cE (.int 1)) (nilA))) (varE 0)) (consA (varE 6) (consA (varE 8) (nilA)))))) (varE 2) (tupE (consA (varE 3) (consA (varE 4) (nilA))))))
def lp_body3 : SvS := (forS (callI range1F (consA (binE subD (callE lenF (consA (binE ixD (varE 1) (varE 3)) (nilA))) (cE (.int 1))) (nilA))) (tgT (.nm 4)) lp_body4)
theorem lp_right_eq : B__law_paces = seqS (asgS (newEE) (nameT 2)) (seqS (forS (callI range1F (consA (callE lenF (consA (varE 1) (nilA))) (nilA))) (tgT (.nm 3)) lp_body3) (retS (varE 2))) := rfl
def ky (k i : Int) : List L2.Key := [.inl k, .inl i]
theorem ky_inj {k i k' i' : Int} (h : ky k i = ky k' i') : k = k' ∧ i = i' := by
  unfold ky at h
  simp only [List.cons.injEq, Sum.inl.injEq, and_true] at h
  exact h
def triK (ts : List Tri) : List (List L2.Key × D) := ts.map fun t => (ky t.2.1 t.2.2, D.int t.1)
theorem triK_get {ts : List Tri} (hn : (ts.map (·.2)).Nodup) {t : Tri} (ht : t ∈ ts) : vGet (triK ts) (ky t.2.1 t.2.2) = some (.int t.1) := by
  induction ts with
  | nil => exact absurd ht List.not_mem_nil
  | cons u us ih =>
    rw [List.map_cons, List.nodup_cons] at hn
    show vGet ((ky u.2.1 u.2.2, D.int u.1) :: triK us) _ = _
    by_cases e : u.2 = t.2
    · have eu : t = u := by
        rcases List.mem_cons.mp ht with h | h
        · exact h
        · exact absurd (by rw [e]; exact List.mem_map.mpr ⟨t, h, rfl⟩) hn.1
      subst eu
      rw [vGet_pos (p := (ky t.2.1 t.2.2, D.int t.1)) rfl]
    · rw [vGet_neg (p := (ky u.2.1 u.2.2, D.int u.1)) (fun z => e (by
        have z := ky_inj z
        exact Prod.ext z.1 z.2))]
      rcases List.mem_cons.mp ht with h | h
      · exact absurd (by rw [h]) e
      · exact ih hn.2 h
theorem triK_none {ts : List Tri} {k i : Int} (h : ∀ t ∈ ts, t.2 ≠ (k, i)) : vGet (triK ts) (ky k i) = none := by
  induction ts with
  | nil => rfl
  | cons u us ih =>
    show vGet ((ky u.2.1 u.2.2, D.int u.1) :: triK us) _ = _
    rw [vGet_neg (p := (ky u.2.1 u.2.2, D.int u.1)) (fun z => h u List.mem_cons_self (by
      have z := ky_inj z
      exact Prod.ext z.1 z.2))]
    exact ih fun t ht => h t (List.mem_cons_of_mem _ ht)
theorem triK_put {ts : List Tri} {k i v : Int} (h : ∀ t ∈ ts, t.2 ≠ (k, i)) : vPut (triK ts) (ky k i) (D.int v) = triK (ts ++ [(v, k, i)]) := by
  unfold vPut
  rw [vGet_any, triK_none h, if_neg (by decide)]
  simp [triK]
theorem triB_key {M k : Nat} {b : List P2} {i : Nat} : ∀ t ∈ (triB M k b).take i, t.2.1 = (k : Int) ∧ t.2.2 < (i : Int) ∧ 0 ≤ t.2.2 := fun t ht => by
  obtain ⟨j, hj, e⟩ := List.mem_iff_getElem.mp ht
  rw [List.length_take, triB_len] at hj
  have : t = (paceI M (pat b j, pat b (j + 1)), (k : Int), (j : Int)) := by rw [← e]; simp [triB]
  subst this
  exact ⟨rfl, by show (j : Int) < i; omega, by show (0 : Int) ≤ j; omega⟩
theorem triA_key {M : Nat} : ∀ (bs : List (List P2)) (k : Nat), ∀ t ∈ triA M k bs, (k : Int) ≤ t.2.1 ∧ t.2.1 < k + bs.length
  | [], _, t, ht => absurd ht List.not_mem_nil
  | b :: bs, k, t, ht => by
    rcases List.mem_append.mp ht with ht | ht
    · have := triB_key (i := (triB M k b).length) t (by rw [List.take_length]; exact ht)
      rw [List.length_cons]
      omega
    · have := triA_key bs (k + 1) t ht
      rw [List.length_cons]
      omega
theorem triB_nodup (M k : Nat) (b : List P2) : ((triB M k b).map (·.2)).Nodup := by
  unfold triB
  rw [List.map_map]
  show List.Pairwise (· ≠ ·) _
  rw [List.pairwise_map]
  refine List.Pairwise.imp (fun {x y} hne h => hne ?_) (List.nodup_range (n := b.length - 1))
  have h : ((k : Int), (x : Int)) = ((k : Int), (y : Int)) := h
  injection h with _ h
  omega
theorem triA_nodup {M : Nat} : ∀ (bs : List (List P2)) (k : Nat), ((triA M k bs).map (·.2)).Nodup
  | [], _ => .nil
  | b :: bs, k => by
    show ((triB M k b ++ triA M (k + 1) bs).map (·.2)).Nodup
    rw [List.map_append, List.nodup_append]
    refine ⟨triB_nodup M k b, triA_nodup bs (k + 1), fun x hx y hy => ?_⟩
    obtain ⟨t, ht, rfl⟩ := List.mem_map.mp hx
    obtain ⟨u, hu, rfl⟩ := List.mem_map.mp hy
    have h1 := triB_key (i := (triB M k b).length) t (by rw [List.take_length]; exact ht)
    have h2 := triA_key bs (k + 1) u hu
    intro e
    rw [e] at h1
    omega
theorem put_tri {st : Sto} {q : Nat} {ts : List Tri} (hq : st[q]? = some (.de (triK ts))) (hl : ts.length ≤ 1000) {k i : Int} (v : Int) (h : ∀ t ∈ ts, t.2 ≠ (k, i)) : putDD (.mut q) (.tup [.int k, .int i]) (.int v) st = some (st.set q (.de (triK (ts ++ [(v, k, i)])))) := by
  have hk : ksOf (.tup [.int k, .int i]) = some (ky k i) := rfl
  have hlt : (triK ts).length < 16777216 := by unfold triK; rw [List.length_map]; omega
  unfold putDD
  simp only [hq, hk, hlt, if_true, triK_put h]
theorem lp_inner {M : Nat} (h1 : 1 ≤ M) (h8 : M ≤ 8) {bs : List (List P2)} {k : Nat} (hk : k < bs.length) (hb : BagOk (evenL M) bs[k]) (acc : List Tri) (hacc : acc.length ≤ 900) (hky : ∀ t ∈ acc, t.2.1 < (k : Int)) (o4 o5 o6 o7 o8 : Option D) (st : Sto) :
    ∃ o4' o5' o6' o7' o8', loopF (tgT (.nm 4)) lp_body4 (rangeD 0 (bs[k].length - 1)) [some (.int M), some (bagsD bs), some (.mut st.length), some (.int k), o4, o5, o6, o7, o8] (st ++ [MO.de (triK acc)]) = .nx [some (.int M), some (bagsD bs), some (.mut st.length), some (.int k), o4', o5', o6', o7', o8'] (st ++ [MO.de (triK (acc ++ triB M k bs[k]))]) := by
  have hl := hb.len
  have bg := big_ge
  obtain ⟨env', s', e, ⟨o4', o5', o6', o7', o8', rfl⟩, rfl⟩ := loop_nx (g := tgT (.nm 4)) (body := lp_body4)
    (fun j env s => (∃ o4 o5 o6 o7 o8 : Option D, env = [some (.int M), some (bagsD bs), some (.mut st.length), some (.int k), o4, o5, o6, o7, o8]) ∧ s = st ++ [MO.de (triK (acc ++ (triB M k bs[k]).take j))])
    (xs := rangeD 0 (bs[k].length - 1)) (env := [some (.int M), some (bagsD bs), some (.mut st.length), some (.int k), o4, o5, o6, o7, o8]) (st := st ++ [MO.de (triK acc)]) ⟨⟨o4, o5, o6, o7, o8, rfl⟩, by simp⟩
    (by
      rintro j x env s hx ⟨⟨o4, o5, o6, o7, o8, rfl⟩, rfl⟩
      obtain ⟨rfl, hj⟩ := range_get hx
      have hj1 : j + 1 < bs[k].length := by omega
      have at_ := get_end st (.de (triK (acc ++ (triB M k bs[k]).take j)))
      have x0 : ∀ s, ixD (bagsD bs) (.int (k : Int)) s = .ok (bagD bs[k]) s := fun s => by
        unfold bagsD
        refine ixD_tup _ _ _ ?_
        rw [atI_nat' _ k (by rw [List.length_map]; exact hk)]
        simp
      have x1 : ∀ s, ixD (bagD bs[k]) (.int (j : Int)) s = .ok (pairD bs[k][j]) s := fun s => ix_bag s bs[k] j (by omega)
      have x2 : ∀ s, ixD (bagD bs[k]) (.int ((j : Int) + 1)) s = .ok (pairD bs[k][j + 1]) s := fun s => by
        have := ix_bag s bs[k] (j + 1) hj1
        rw [show ((j + 1 : Nat) : Int) = (j : Int) + 1 by push_cast; rfl] at this
        exact this
      obtain ⟨_, p1, p2⟩ := hb.ok _ (List.getElem_mem (show j < bs[k].length by omega))
      obtain ⟨_, q1, q2⟩ := hb.ok _ (List.getElem_mem hj1)
      rw [even_len] at p2 q2
      have f2 := f_law_steps3 (st ++ [MO.de (triK (acc ++ (triB M k bs[k]).take j))]) (ts := evenL M) (m := bs[k][j].2.toNat) (o := bs[k][j + 1].2.toNat) (by rw [even_len]; omega) (by rw [even_len]; omega)
      rw [even_len, show ((bs[k][j].2.toNat : Nat) : Int) = bs[k][j].2 by omega, show ((bs[k][j + 1].2.toNat : Nat) : Int) = bs[k][j + 1].2 by omega] at f2
      have mu := mul_evenI (st ++ [MO.de (triK (acc ++ (triB M k bs[k]).take j))]) (M := M) 1 h1 (by omega)
      have rg := steps_rng (M := M) (m := bs[k][j].2.toNat) (o := bs[k][j + 1].2.toNat) (by omega) (by omega)
      have dv : fdivD (.int (bs[k][j + 1].1 - bs[k][j].1)) (.int ((stepsN M bs[k][j].2.toNat bs[k][j + 1].2.toNat : Nat) : Int)) (st ++ [MO.de (triK (acc ++ (triB M k bs[k]).take j))]) = .ok (.int (paceI M (bs[k][j], bs[k][j + 1]))) (st ++ [MO.de (triK (acc ++ (triB M k bs[k]).take j))]) := by
        have c : 0 < ((stepsN M bs[k][j].2.toNat bs[k][j + 1].2.toNat : Nat) : Int) ∧ ((stepsN M bs[k][j].2.toNat bs[k][j + 1].2.toNat : Nat) : Int).natAbs < big := by omega
        show (if _ then _ else _) = _
        rw [if_pos c]; rfl
      have pu := put_tri at_ (by rw [List.length_append, List.length_take, triB_len]; omega) (k := (k : Int)) (i := (j : Int)) (paceI M (bs[k][j], bs[k][j + 1])) (fun t ht e => by
        rcases List.mem_append.mp ht with ht | ht
        · have := hky t ht
          rw [e] at this
          exact absurd this (by show ¬ (k : Int) < k; omega)
        · have := (triB_key t ht).2.1
          rw [e] at this
          exact absurd this (by show ¬ (j : Int) < j; omega))
      rw [set_end] at pu
      have hjl : j < (triB M k bs[k]).length := by rw [triB_len]; omega
      have tk : acc ++ (triB M k bs[k]).take (j + 1) = acc ++ (triB M k bs[k]).take j ++ [(paceI M (bs[k][j], bs[k][j + 1]), (k : Int), (j : Int))] := by
        rw [List.take_add_one, List.getElem?_eq_getElem hjl, ← List.append_assoc]
        congr 1
        show [(triB M k bs[k])[j]] = _
        simp [triB, pat_get (show j < bs[k].length by omega), pat_get hj1]
      rw [← tk] at pu
      refine ⟨[some (.int M), some (bagsD bs), some (.mut st.length), some (.int k), some (.int (j : Nat)), some (.int bs[k][j].1), some (.int bs[k][j].2), some (.int bs[k][j + 1].1), some (.int bs[k][j + 1].2)], _, ?_, ⟨some (.int (j : Nat)), some (.int bs[k][j].1), some (.int bs[k][j].2), some (.int bs[k][j + 1].1), some (.int bs[k][j + 1].2), rfl⟩, rfl⟩
      rw [Int.zero_add]
      unfold lp_body4
      clear tk at_ rg hx hky p1 p2 q1 q2
      generalize paceI M (bs[k][j], bs[k][j + 1]) = pi at *
      generalize ((stepsN M bs[k][j].2.toNat bs[k][j + 1].2.toNat : Nat) : Int) = sn at *
      have mu : mulD (.tup [.int 1]) (.int M) (st ++ [MO.de (triK (acc ++ (triB M k bs[k]).take j))]) = .ok (tupI (evenL M)) (st ++ [MO.de (triK (acc ++ (triB M k bs[k]).take j))]) := mu
      generalize st ++ [MO.de (triK (acc ++ (triB M k bs[k]).take j))] = s1 at *
      generalize st ++ [MO.de (triK (acc ++ (triB M k bs[k]).take (j + 1)))] = s2 at *
      have hp : pairD bs[k][j] = .tup [.int bs[k][j].1, .int bs[k][j].2] := rfl
      have hq : pairD bs[k][j + 1] = .tup [.int bs[k][j + 1].1, .int bs[k][j + 1].2] := rfl
      rw [hp] at x1
      rw [hq] at x2
      clear hp hq
      generalize bs[k][j].1 = t1 at *
      generalize bs[k][j].2 = m1 at *
      generalize bs[k][j + 1].1 = t2 at *
      generalize bs[k][j + 1].2 = m2 at *
      generalize bagD bs[k] = bdd at *
      generalize bagsD bs = bsd at *
      generalize tupI (evenL M) = ed at *
      generalize (j : Int) = ji at *
      generalize (k : Int) = ki at *
      generalize (M : Int) = mi at *
      generalize D.mut st.length = md at *
      simp [-fdivD_int, x0, x1, x2, f2, mu, dv, putDS, pu])
  refine ⟨o4', o5', o6', o7', o8', ?_⟩
  rw [e, rangeD_length, ← triB_len M k bs[k], List.take_length]
theorem triA_snoc {M : Nat} (b : List P2) : ∀ (bs : List (List P2)) (k : Nat), triA M k (bs ++ [b]) = triA M k bs ++ triB M (k + bs.length) b
  | [], k => by simp [triA]
  | c :: bs, k => by
    show triB M k c ++ triA M (k + 1) (bs ++ [b]) = triB M k c ++ triA M (k + 1) bs ++ _
    rw [triA_snoc b bs (k + 1), List.append_assoc, List.length_cons, show k + 1 + bs.length = k + (bs.length + 1) by omega]
theorem f_law_paces {M : Nat} {bs : List (List P2)} (h : BagsOk M bs) (st : Sto) : F__law_paces [.int M, bagsD bs] st = .ok (.mut st.length) (st ++ [MO.de (triK (triA M 0 bs))]) := by
  have n6 := h.n6
  have ln : ∀ s, lenF [bagsD bs] s = .ok (.int bs.length) s := fun s => by unfold bagsD; rw [lenF_tup, List.length_map]
  obtain ⟨env', s', e, ⟨o3, o4, o5, o6, o7, o8, rfl⟩, rfl⟩ := loop_nx (g := tgT (.nm 3)) (body := lp_body3)
    (fun j env s => (∃ o3 o4 o5 o6 o7 o8 : Option D, env = [some (.int M), some (bagsD bs), some (.mut st.length), o3, o4, o5, o6, o7, o8]) ∧ s = st ++ [MO.de (triK (triA M 0 (bs.take j)))])
    (xs := rangeD 0 bs.length) (env := [some (.int M), some (bagsD bs), some (.mut st.length), none, none, none, none, none, none]) (st := st ++ [MO.de []]) ⟨⟨none, none, none, none, none, none, rfl⟩, by simp [triA, triK]⟩
    (by
      rintro j x env s hx ⟨⟨o3, o4, o5, o6, o7, o8, rfl⟩, rfl⟩
      obtain ⟨rfl, hj⟩ := range_get hx
      have hbj := h.ok _ (List.getElem_mem hj)
      have hl := triA_len (M := M) (bs.take j) 0 fun b hb => (h.ok b (List.mem_of_mem_take hb)).len
      rw [List.length_take] at hl
      obtain ⟨o4', o5', o6', o7', o8', e⟩ := lp_inner h.h1 h.h8 hj hbj (triA M 0 (bs.take j)) (by omega) (fun t ht => by
        have := (triA_key _ 0 t ht).2
        rw [List.length_take] at this
        omega) o4 o5 o6 o7 o8 st
      have tk : triA M 0 (bs.take (j + 1)) = triA M 0 (bs.take j) ++ triB M j bs[j] := by
        rw [List.take_add_one, List.getElem?_eq_getElem hj]
        show triA M 0 (bs.take j ++ [bs[j]]) = _
        rw [triA_snoc, List.length_take, show 0 + min j bs.length = j by omega]
      rw [← tk] at e
      refine ⟨[some (.int M), some (bagsD bs), some (.mut st.length), some (.int (j : Nat)), o4', o5', o6', o7', o8'], _, ?_, ⟨some (.int (j : Nat)), o4', o5', o6', o7', o8', rfl⟩, rfl⟩
      rw [Int.zero_add]
      have x0 : ∀ s, ixD (bagsD bs) (.int (j : Int)) s = .ok (bagD bs[j]) s := fun s => by
        unfold bagsD
        refine ixD_tup _ _ _ ?_
        rw [atI_nat' _ j (by rw [List.length_map]; exact hj)]
        simp
      have ln2 : ∀ s, lenF [bagD bs[j]] s = .ok (.int bs[j].length) s := fun s => by unfold bagD; rw [lenF_tup, List.length_map]
      have hbl := hbj.len
      have rg : ∀ s, range1F [.int ((bs[j].length : Int) - 1)] s = .ok (.frz (rangeD 0 (bs[j].length - 1))) s := fun s => by
        rw [range1F_eq, if_pos (by omega)]
        congr 2
        congr 1
        omega
      unfold lp_body3
      generalize rangeD 0 (bs[j].length - 1) = rr at *
      generalize (bs[j].length : Int) = L at *
      generalize bagD bs[j] = bdd at *
      generalize bagsD bs = bsd at *
      generalize lp_body4 = b4 at *
      generalize st ++ [MO.de (triK (triA M 0 (bs.take j)))] = s1 at *
      generalize st ++ [MO.de (triK (triA M 0 (bs.take (j + 1))))] = s2 at *
      generalize (j : Int) = ji at *
      generalize (M : Int) = mi at *
      generalize D.mut st.length = md at *
      simp [-range1F_eq, x0, ln2, rg, e])
  rw [rangeD_length, List.take_length] at e
  have rg : ∀ s, range1F [.int (bs.length : Int)] s = .ok (.frz (rangeD 0 bs.length)) s := fun s => by
    have : bs.length < 4611686018427387904 := by omega
    simp [this]
  unfold F__law_paces
  rw [lp_right_eq]
  generalize st ++ [MO.de (triK (triA M 0 bs))] = s2 at *
  generalize rangeD 0 bs.length = rr at *
  generalize (bs.length : Int) = L at *
  generalize bagsD bs = bd at *
  generalize lp_body3 = b3 at *
  generalize (M : Int) = mi at *
  simp [-range1F_eq, runF, newEE, ln, rg, e]
end Lap
namespace Lap
open PySem PySem.Spec PyProof.Rows L2 G
inductive Ch (ts : List Int) (log : List (List P2)) : Nat → Nat → List (Nat × Nat) → Int → Prop
  | nil (a : Nat) : Ch ts log a a [] 0
  | snoc {a u v : Nat} {gs : List (Nat × Nat)} {x : Int} {g : Nat × Nat} : Ch ts log a u gs x → g ∈ gapsN log → mats log g = (u, v) → Ch ts log a v (gs ++ [g]) (x + slackI ts log g)
section
variable {ts : List Int} {log : List (List P2)}
theorem Ch.walk {a b : Nat} {gs : List (Nat × Nat)} {x : Int} (c : Ch ts log a b gs x) : ∃ l, Wk ts log a b l x := by
  induction c with
  | nil => exact ⟨[], .nil _⟩
  | snoc c hg hm ih =>
    obtain ⟨l, w⟩ := ih
    exact ⟨_, .snoc w ⟨_, hg, hm, rfl⟩⟩
end
end Lap
namespace Lap
open PySem G
theorem rep_at {M : Nat} (h : 0 < M) (x : Int) (i : Nat) : at_ (List.replicate M x) i = x := by
  unfold at_
  rw [List.length_replicate]
  have := Nat.mod_lt i h
  rw [List.getD_eq_getElem?_getD, List.getElem?_replicate, if_pos this]; rfl
theorem rep_walk {M : Nat} (h : 0 < M) (x : Int) (m : Nat) : ∀ n, walkI (List.replicate M x) m n = x * n
  | 0 => by simp [walkI]
  | n + 1 => by
    rw [walk_succ, rep_walk h x m n, rep_at h, Int.natCast_add, Int.mul_add]
    simp
theorem rep_way {M : Nat} (h : 0 < M) (x : Int) (m o : Nat) : wayI (List.replicate M x) m o = x * (stepsN M m o : Nat) := by
  unfold wayI
  rw [List.length_replicate, rep_walk h]
theorem rep_trk {M : Nat} (h1 : 1 ≤ M) (h8 : M ≤ 8) {x : Int} (hx : 1 ≤ x) : Trk (List.replicate M x) := ⟨by rw [List.length_replicate]; exact h1, by rw [List.length_replicate]; exact h8, fun y hy => by rw [List.eq_of_mem_replicate hy]; exact hx⟩
theorem rep_sum (M : Nat) (x : Int) : (List.replicate M x).sum = M * x := by
  induction M with
  | zero => simp
  | succ M ih => rw [List.replicate_succ, List.sum_cons, ih, Int.natCast_add, Int.add_mul]; simp; omega
section
variable {M : Nat} {bs : List (List P2)}
theorem tri_gaps : ∀ (bs : List (List P2)) (k : Nat) (v : Int), v ∈ (triA M k bs).map (·.1) ↔ ∃ g ∈ gapsA bs, paceI M g = v
  | [], k, v => by simp [triA, gapsA]
  | b :: bs, k, v => by
    have ih := tri_gaps bs (k + 1) v
    show v ∈ (triB M k b ++ triA M (k + 1) bs).map (·.1) ↔ _
    rw [List.map_append, List.mem_append, ih]
    have hg : gapsA (b :: bs) = gapsL b ++ gapsA bs := by unfold gapsA; rw [List.flatMap_cons]
    rw [hg]
    constructor
    · rintro (h | ⟨g, h1, h2⟩)
      · obtain ⟨t, ht, rfl⟩ := List.mem_map.mp h
        obtain ⟨i, hi, rfl⟩ := List.mem_map.mp ht
        have hi := List.mem_range.mp hi
        refine ⟨(b[i], b[i + 1]), List.mem_append_left _ ?_, ?_⟩
        · rw [← gaps_get b i (by omega)]
          exact List.getElem_mem _
        · show _ = paceI M (pat b i, pat b (i + 1))
          rw [pat_get (by omega), pat_get (by omega)]
      · exact ⟨g, List.mem_append_right _ h1, h2⟩
    · rintro ⟨g, h1, h2⟩
      rcases List.mem_append.mp h1 with h1 | h1
      · left
        obtain ⟨i, hi, e⟩ := List.mem_iff_getElem.mp h1
        rw [gaps_len] at hi
        rw [gaps_get b i (by omega)] at e
        refine List.mem_map.mpr ⟨(paceI M (pat b i, pat b (i + 1)), (k : Int), (i : Int)), List.mem_map.mpr ⟨i, List.mem_range.mpr (by omega), rfl⟩, ?_⟩
        rw [← h2, ← e, pat_get (by omega), pat_get (by omega)]
      · exact .inr ⟨g, h1, h2⟩
theorem rows_rep (h : BagsOk M bs) (x : Int) : rowsB (List.replicate M x) bs = true ↔ ∀ g ∈ gapsA bs, x ≤ paceI M g := by
  have h1 := h.h1
  rw [rows_gaps]
  refine forall_congr' fun g => ?_
  refine forall_congr' fun hg => ?_
  have m := h.mats hg
  have rg := steps_rng (M := M) m.1.2.1 m.2.2.1
  unfold waysOk paceI
  rw [rep_way (by omega), Int.le_ediv_iff_mul_le (by omega)]
theorem gap_bd (h : BagsOk M bs) {B : Int} (hB : ∀ b ∈ bs, ∀ p ∈ b, p.1 ≤ B) {g : P2 × P2} (hg : g ∈ gapsA bs) : 0 ≤ paceI M g ∧ paceI M g ≤ B := by
  have m := h.mats hg
  have gg := h.gap hg
  obtain ⟨b, hb, hgb⟩ := List.mem_flatMap.mp hg
  have hup := (h.ok b hb).up
  obtain ⟨i, hi, e⟩ := List.mem_iff_getElem.mp hgb
  rw [gaps_len] at hi
  rw [gaps_get b i (by omega)] at e
  have lt := List.pairwise_iff_getElem.mp hup i (i + 1) (by omega) (by omega) (by omega)
  rw [← e] at gg ⊢
  have b1 := hB b hb b[i + 1] (List.getElem_mem _)
  have n0 : 0 ≤ b[i].1 := gg.1.1
  have n1 : b[i].1 ≤ b[i + 1].1 := by unfold ltP2 at lt; omega
  unfold paceI
  refine ⟨Int.ediv_nonneg (by show 0 ≤ b[i + 1].1 - b[i].1; omega) (by omega), ?_⟩
  exact Int.le_trans (Int.ediv_le_self _ (by show 0 ≤ b[i + 1].1 - b[i].1; omega)) (by show b[i + 1].1 - b[i].1 ≤ B; omega)
theorem pace_bd (h : BagsOk M bs) {B : Int} (hB : ∀ b ∈ bs, ∀ p ∈ b, p.1 ≤ B) {x : Int} (e : paceO M bs = some x) : (0 ≤ x ∧ x ≤ B) ∧ rowsB (List.replicate M x) bs = true ∧ rowsB (List.replicate M (x + 1)) bs = false := by
  unfold paceO at e
  have tg := tri_gaps (M := M) bs 0
  cases hv : (triA M 0 bs).map (·.1) with
  | nil => rw [hv] at e; cases e
  | cons y l =>
    rw [hv] at e tg
    have e : some (smallI (y :: l)) = some x := e
    injection e with e
    have mem := small_mem l y
    rw [e] at mem
    obtain ⟨g, hg, hgx⟩ := (tg x).mp mem
    refine ⟨by rw [← hgx]; exact gap_bd h hB hg, (rows_rep h x).mpr fun g' hg' => ?_, ?_⟩
    · rw [← e]
      exact small_le l y _ ((tg _).mpr ⟨g', hg', rfl⟩)
    · cases c : rowsB (List.replicate M (x + 1)) bs with
      | false => rfl
      | true =>
        have := (rows_rep h (x + 1)).mp c g hg
        omega
end
end Lap
namespace Lap
open PySem G
def b_1 : SvS := asgS (callE F__law_paces (consA (varE 0) (consA (varE 1) (nilA)))) (nameT 2)
def b_2 : SvS := asgS (ifE (tstE (unE neE0D (varE 2))) (callE minF (consA (lcTE (varE 2) (.nm 5) (yesB) (binE getDF (varE 2) (varE 5)) [5]) (nilA))) (cE .non)) (nameT 3)
def b_3 : SvS := ifS (tstE (binE neD (callE reprF (consA (lstE (consA (callE F_pace (consA (varE 0) (consA (varE 1) (nilA)))) (consA (callKE F_pace nilA (consA (varE 1) (consA (varE 0) (nilA))) 0 2 [1, 0]) (nilA)))) (nilA))) (callE reprF (consA (lstE (consA (varE 3) (consA (varE 3) (nilA)))) (nilA))))) (retS (cE (.bl false))) (passS)
def b_4 : SvS := forS (iterE (lstE (consA (callE F_tight_gap (consA (varE 0) (consA (varE 1) (nilA)))) (consA (callKE F_tight_gap nilA (consA (varE 1) (consA (varE 0) (nilA))) 0 2 [1, 0]) (nilA))))) (tgT (.nm 4)) (ifS (orB (tstE (binE neD (binE isND (varE 4) (cE .non)) (binE isND (varE 3) (cE .non)))) (andB (tstE (binE notND (varE 4) (cE .non))) (orB (notB (tstE (unE (isiD .tup) (varE 4)))) (orB (tstE (binE notInDD (varE 4) (varE 2))) (tstE (binE neD (binE getDF (varE 2) (varE 4)) (varE 3))))))) (retS (cE (.bl false))) (passS))
def b_5 : SvS := ifS (tstE (binE isND (varE 3) (cE .non))) (retS (cE (.bl true))) (passS)
def b_6 : SvS := ifS (andB (tstE (binE gtD (varE 3) (cE (.int 0)))) (tstE (binE neD (lcE (iterE (varE 1)) (.nm 6) (tstE (binE notBD (callE F_is_row (consA (binE mulD (tupE (consA (varE 3) (nilA))) (varE 0)) (consA (varE 6) (nilA)))) (cE (.bl true)))) (varE 6) [6]) (lstE (nilA))))) (retS (cE (.bl false))) (passS)
def b_7 : SvS := retS (binE neD (lcE (iterE (varE 1)) (.nm 6) (tstE (binE notBD (callE F_is_row (consA (binE mulD (tupE (consA (binE addD (varE 3) (cE (.int 1))) (nilA))) (varE 0)) (consA (varE 6) (nilA)))) (cE (.bl true)))) (varE 6) [6]) (lstE (nilA)))
theorem b_eq : B__law_bags_right = seqS b_1 (seqS b_2 (seqS b_3 (seqS b_4 (seqS b_5 (seqS b_6 b_7))))) := rfl
def w_body4 : SvS := (ifS (orB (tstE (binE neD (binE isND (varE 4) (cE .non)) (binE isND (varE 3) (cE .non)))) (andB (tstE (binE notND (varE 4) (cE .non))) (orB (notB (tstE (unE (isiD .tup) (varE 4)))) (orB (tstE (binE notInDD (varE 4) (varE 2))) (tstE (binE neD (binE getDF (varE 2) (varE 4)) (varE 3))))))) (retS (cE (.bl false))) (passS))
theorem b4_eq : b_4 = forS (iterE (lstE (consA (callE F_tight_gap (consA (varE 0) (consA (varE 1) (nilA)))) (consA (callKE F_tight_gap nilA (consA (varE 1) (consA (varE 0) (nilA))) 0 2 [1, 0]) (nilA))))) (tgT (.nm 4)) w_body4 := rfl
def wrongE (x : EvE) : EvE := lcE (iterE (varE 1)) (.nm 6) (tstE (binE notBD (callE F_is_row (consA (binE mulD (tupE (consA x (nilA))) (varE 0)) (consA (varE 6) (nilA)))) (cE (.bl true)))) (varE 6) [6]
theorem b6_eq : b_6 = ifS (andB (tstE (binE gtD (varE 3) (cE (.int 0)))) (tstE (binE neD (wrongE (varE 3)) (lstE (nilA))))) (retS (cE (.bl false))) (passS) := rfl
theorem b7_eq : b_7 = retS (binE neD (wrongE (binE addD (varE 3) (cE (.int 1)))) (lstE (nilA))) := rfl
section
variable {M : Nat} {bs : List (List P2)}
theorem wrong_ok (h : BagsOk M bs) {x : EvE} {v : Int} (hv : 1 ≤ v) (hb : v ≤ 10 ^ 60) (o2 o3 o4 o5 o6 : Option D) (st : Sto) (hx : ∀ o6 : Option D, x [some (.int M), some (bagsD bs), o2, o3, o4, o5, o6] st = .ok (.int v) st) :
    wrongE x [some (.int M), some (bagsD bs), o2, o3, o4, o5, o6] st = .ok (.lst ((bs.filter fun b => !decide (wrongI (List.replicate M v) b = [])).map bagD)) st := by
  have bg := big_ge
  have hT := rep_trk h.h1 h.h8 hv
  have n6 := h.n6
  have hs : (List.replicate M v).sum.natAbs < big := by
    rw [rep_sum]
    have h8 := h.h8
    have : (M : Int) * v ≤ 8 * v := Int.mul_le_mul_of_nonneg_right (by omega) (by omega)
    have h0 : 0 ≤ (M : Int) * v := Int.mul_nonneg (by omega) (by omega)
    omega
  have mu := mul_evenI st (M := M) v h.h1 (by have := h.h8; omega)
  have e := lc_typedF (t := .nm 6) (tt := tstE (binE notBD (callE F_is_row (consA (binE mulD (tupE (consA x (nilA))) (varE 0)) (consA (varE 6) (nilA)))) (cE (.bl true)))) (fe := varE 6) (envw := [some (.int M), some (bagsD bs), o2, o3, o4, o5, none]) (st := st) bagD bagD (fun b => !decide (wrongI (List.replicate M v) b = [])) bs [] (by simp; omega) (by
    intro b hb
    have f := f_is_row_gen st hT hs ((h.ok b hb).of_len (us := List.replicate M v) (by rw [even_len, List.length_replicate]))
    have nb : ∀ c : Bool, notBD (.bl c) (.bl true) st = .ok (.bl (!c)) st := fun c => by cases c <;> rfl
    have hx := hx (some (bagD b))
    refine ⟨[some (.int M), some (bagsD bs), o2, o3, o4, o5, some (bagD b)], by simp, ?_, fun _ => by simp⟩
    have nb := nb (decide (wrongI (List.replicate M v) b = []))
    generalize decide (wrongI (List.replicate M v) b = []) = c at *
    generalize tupI (List.replicate M v) = td at *
    generalize bagD b = bd at *
    generalize bagsD bs = bsd at *
    generalize (M : Int) = mi at *
    simp [hx, mu, f, nb])
  have it : iterD (bagsD bs) st = .ok (.frz (bs.map bagD)) st := rfl
  rw [List.nil_append] at e
  unfold wrongE
  generalize (bs.filter fun b => !decide (wrongI (List.replicate M v) b = [])).map bagD = fl at *
  generalize tstE (binE notBD (callE F_is_row (consA (binE mulD (tupE (consA x (nilA))) (varE 0)) (consA (varE 6) (nilA)))) (cE (.bl true))) = tt at *
  generalize bs.map bagD = bl at *
  generalize bagsD bs = bsd at *
  generalize (M : Int) = mi at *
  simp [-lcE_eq, lcE, lcL, iterE, it, wipeE, e, R.bind]
theorem wrong_empty (ts : List Int) (bs : List (List P2)) : (!(bs.filter fun b => !decide (wrongI ts b = [])).isEmpty) = !rowsB ts bs := by
  unfold rowsB
  induction bs with
  | nil => rfl
  | cons b bs ih =>
    rw [List.filter_cons, List.all_cons]
    by_cases c : wrongI ts b = []
    · rw [decide_eq_true c]
      simpa using ih
    · rw [decide_eq_false c]
      simp
theorem paces_list (h : BagsOk M bs) (o1 o3 o4 o5 o6 : Option D) (st : Sto) :
    lcTE (varE 2) (.nm 5) (yesB) (binE getDF (varE 2) (varE 5)) [5] [some (.int M), o1, some (.mut st.length), o3, o4, o5, o6] (st ++ [.de (triK (triA M 0 bs))]) = .ok (.lst (((triA M 0 bs).map (·.1)).map D.int)) (st ++ [.de (triK (triA M 0 bs))]) := by
  have hl := triA_small h
  have nd := triA_nodup (M := M) bs 0
  have lg := lcG_tF (t := .nm 5) (tt := yesB) (fe := binE getDF (varE 2) (varE 5)) (envw := [some (.int M), o1, some (.mut st.length), o3, o4, none, o6]) (st := st ++ [.fe (triK (triA M 0 bs))]) (nxt := kTNxt st.length) (fun t : Tri => D.tup [.int t.2.1, .int t.2.2]) (fun t => D.int t.1) (fun _ => true) (triA M 0 bs) 0 [] (by simp; omega)
    (fun j => by unfold kTNxt; simp [triK, ky, kD]; cases (triA M 0 bs)[j]? <;> rfl) (fun a ha => ⟨[some (.int M), o1, some (.mut st.length), o3, o4, some (.tup [.int a.2.1, .int a.2.2]), o6], by simp, rfl, fun _ => by
      have g : getDF (.mut st.length) (.tup [.int a.2.1, .int a.2.2]) (st ++ [.fe (triK (triA M 0 bs))]) = .ok (.int a.1) (st ++ [.fe (triK (triA M 0 bs))]) := by
        have : dgetO (.mut st.length) (.tup [.int a.2.1, .int a.2.2]) (st ++ [.fe (triK (triA M 0 bs))]) = some (some (.int a.1)) := by
          unfold dgetO
          have hk : ksOf (.tup [.int a.2.1, .int a.2.2]) = some (ky a.2.1 a.2.2) := rfl
          simp only [get_end, hk, Option.map_some, triK_get nd ha]
        unfold getDF
        rw [this]
      simp [g]⟩)
  rw [List.filter_eq_self.mpr (fun _ _ => rfl), List.nil_append, show (triA M 0 bs).map (fun t => D.int t.1) = ((triA M 0 bs).map (·.1)).map D.int by rw [List.map_map]; rfl] at lg
  have wk : walkedAt (st ++ [.de (triK (triA M 0 bs))]) st.length = false := by unfold walkedAt; rw [get_end]; rfl
  have ge := get_end st (.de (triK (triA M 0 bs)))
  have se : (st ++ [MO.de (triK (triA M 0 bs))]).set st.length (.fe (triK (triA M 0 bs))) = st ++ [.fe (triK (triA M 0 bs))] := set_end _ _ _
  have hkl : (triK (triA M 0 bs)).length = (triA M 0 bs).length := by unfold triK; rw [List.length_map]
  have fin : finT st.length (((triA M 0 bs).map (·.1)).map D.int) (st ++ [.fe (triK (triA M 0 bs))]) = .ok (.lst (((triA M 0 bs).map (·.1)).map D.int)) (st ++ [.de (triK (triA M 0 bs))]) := by
    unfold finT
    rw [get_end]
    simp only [set_end]
  have hw : wipeE [some (.int M), o1, some (.mut st.length), o3, o4, o5, o6] [5] = [some (.int M), o1, some (.mut st.length), o3, o4, none, o6] := rfl
  unfold lcTE
  rw [show varE 2 [some (.int M), o1, some (.mut st.length), o3, o4, o5, o6] (st ++ [.de (triK (triA M 0 bs))]) = .ok (.mut st.length) (st ++ [.de (triK (triA M 0 bs))]) from rfl]
  simp only [R.bind, ge, wk, se, hkl, hw, lg]
  exact fin
end
end Lap
namespace Lap
open PySem G
section
variable {M : Nat} {bs : List (List P2)}
theorem pace_nil (e : triA M 0 bs = []) : paceO M bs = none := by unfold paceO; rw [e]; rfl
theorem pace_some (e : triA M 0 bs ≠ []) : paceO M bs = some ((triA M 0 bs).getD (leastT (triA M 0 bs)) (0, 0, 0)).1 := by
  obtain ⟨hi, hmin⟩ := leastT_le e
  unfold paceO
  cases hv : (triA M 0 bs).map (·.1) with
  | nil => exact absurd (List.map_eq_nil_iff.mp hv) e
  | cons y l =>
    show some (smallI (y :: l)) = _
    congr 1
    have hm := small_mem l y
    rw [← hv] at hm
    obtain ⟨t, ht, e1⟩ := List.mem_map.mp hm
    obtain ⟨j, hj, e2⟩ := List.mem_iff_getElem.mp ht
    have h1 := hmin j hj
    rw [List.getD_eq_getElem?_getD (l := triA M 0 bs) (i := j), List.getElem?_eq_getElem hj, Option.getD_some, e2, e1, hv] at h1
    have h2 : smallI (y :: l) ≤ ((triA M 0 bs).getD (leastT (triA M 0 bs)) (0, 0, 0)).1 := by
      refine small_le l y _ ?_
      rw [← hv]
      refine List.mem_map.mpr ⟨_, ?_, rfl⟩
      rw [List.getD_eq_getElem?_getD, List.getElem?_eq_getElem hi]
      exact List.getElem_mem _
    omega
theorem tight_some (e : triA M 0 bs ≠ []) : tightD M bs = .tup [.int ((triA M 0 bs).getD (leastT (triA M 0 bs)) (0, 0, 0)).2.1, .int ((triA M 0 bs).getD (leastT (triA M 0 bs)) (0, 0, 0)).2.2] := by
  unfold tightD
  cases hv : triA M 0 bs with
  | nil => exact absurd hv e
  | cons t ts => rfl
theorem tight_nil (e : triA M 0 bs = []) : tightD M bs = .non := by unfold tightD; rw [e]
theorem best_mem (e : triA M 0 bs ≠ []) : (triA M 0 bs).getD (leastT (triA M 0 bs)) (0, 0, 0) ∈ triA M 0 bs := by
  have hi := (leastT_le e).1
  rw [List.getD_eq_getElem?_getD, List.getElem?_eq_getElem hi]
  exact List.getElem_mem _
theorem w_body (o0 o1 o5 o6 o4 : Option D) {q : Nat} {s : Sto} (hq : s[q]? = some (.de (triK (triA M 0 bs)))) :
    w_body4 [o0, o1, some (.mut q), some (optI (paceO M bs)), some (tightD M bs), o5, o6] s = .nx [o0, o1, some (.mut q), some (optI (paceO M bs)), some (tightD M bs), o5, o6] s := by
  by_cases e : triA M 0 bs = []
  · rw [pace_nil e, tight_nil e]
    have i1 : isND .non .non s = .ok (.bl true) s := rfl
    have i2 : notND .non .non s = .ok (.bl false) s := rfl
    have n1 : neD (.bl true) (.bl true) s = .ok (.bl false) s := rfl
    unfold w_body4 optI
    simp [i1, i2, n1]
  · rw [pace_some e, tight_some e]
    have hm := best_mem e
    have nd := triA_nodup (M := M) bs 0
    generalize (triA M 0 bs).getD (leastT (triA M 0 bs)) (0, 0, 0) = u at *
    have dg : dgetO (.mut q) (.tup [.int u.2.1, .int u.2.2]) s = some (some (.int u.1)) := by
      unfold dgetO
      have hk : ksOf (.tup [.int u.2.1, .int u.2.2]) = some (ky u.2.1 u.2.2) := rfl
      simp only [hq, hk, Option.map_some, triK_get nd hm]
    have g1 : getDF (.mut q) (.tup [.int u.2.1, .int u.2.2]) s = .ok (.int u.1) s := by unfold getDF; rw [dg]
    have g2 : notInDD (.tup [.int u.2.1, .int u.2.2]) (.mut q) s = .ok (.bl false) s := by unfold notInDD; rw [dg]; rfl
    have i1 : isND (.tup [.int u.2.1, .int u.2.2]) .non s = .ok (.bl false) s := rfl
    have i3 : isND (.int u.1) .non s = .ok (.bl false) s := rfl
    have i2 : notND (.tup [.int u.2.1, .int u.2.2]) .non s = .ok (.bl true) s := rfl
    have n1 : neD (.bl false) (.bl false) s = .ok (.bl false) s := rfl
    have n2 : neD (.int u.1) (.int u.1) s = .ok (.bl false) s := by simp
    have it : isiD .tup (.tup [.int u.2.1, .int u.2.2]) s = .ok (.bl true) s := rfl
    unfold w_body4 optI
    generalize D.tup [.int u.2.1, .int u.2.2] = td at *
    generalize D.mut q = md at *
    generalize u.1 = v at *
    simp [i1, i2, i3, n1, n2, it, g1, g2]
theorem f_bags_right (h : BagsOk M bs) (hB : ∀ b ∈ bs, ∀ p ∈ b, p.1 ≤ 10 ^ 50) (st : Sto) : ∃ ex, F__law_bags_right [.int M, bagsD bs] st = .ok (.bl true) (st ++ ex) := by
  have lp := f_law_paces h st
  obtain ⟨ex1, p1⟩ := t_pace h (st ++ [.de (triK (triA M 0 bs))])
  obtain ⟨ex2, p2⟩ := t_pace h (st ++ [.de (triK (triA M 0 bs))] ++ ex1)
  obtain ⟨ex3, t1⟩ := t_tight h (st ++ [.de (triK (triA M 0 bs))] ++ ex1 ++ ex2)
  obtain ⟨ex4, t2⟩ := t_tight h (st ++ [.de (triK (triA M 0 bs))] ++ ex1 ++ ex2 ++ ex3)
  have hq : (st ++ [.de (triK (triA M 0 bs))] ++ ex1 ++ ex2 ++ ex3 ++ ex4)[st.length]? = some (.de (triK (triA M 0 bs))) := by simp
  have pl := paces_list h (some (bagsD bs)) none none none none st
  have wk := fun (x : EvE) (v : Int) (a : 1 ≤ v) (b : v ≤ 10 ^ 60) (o2 o3 o4 o5 o6 : Option D) hx => wrong_ok h (x := x) (v := v) a b o2 o3 o4 o5 o6 (st ++ [.de (triK (triA M 0 bs))] ++ ex1 ++ ex2 ++ ex3 ++ ex4) hx
  have pb := fun x e => pace_bd (x := x) h hB e
  have q1 : b_1 [some (.int M), some (bagsD bs), none, none, none, none, none] st = .nx [some (.int M), some (bagsD bs), some (.mut st.length), none, none, none, none] (st ++ [.de (triK (triA M 0 bs))]) := by
    unfold b_1
    generalize (M : Int) = mi at *
    generalize bagsD bs = bsd at *
    generalize st ++ [.de (triK (triA M 0 bs))] = s1 at *
    simp [lp]
  have q2 : b_2 [some (.int M), some (bagsD bs), some (.mut st.length), none, none, none, none] (st ++ [.de (triK (triA M 0 bs))]) = .nx [some (.int M), some (bagsD bs), some (.mut st.length), some (optI (paceO M bs)), none, none, none] (st ++ [.de (triK (triA M 0 bs))]) := by
    have ne : neE0D (.mut st.length) (st ++ [.de (triK (triA M 0 bs))]) = .ok (.bl (!(triK (triA M 0 bs)).isEmpty)) (st ++ [.de (triK (triA M 0 bs))]) := by unfold neE0D; simp only [get_end]
    have mi : ∀ y l s, minF [.lst ((y :: l : List Int).map D.int)] s = .ok (.int (smallI (y :: l))) s := fun y l s => by
      show (match (seqOf (.lst ((y :: l).map D.int)) s).bind intsOf with | some (n :: ns) => _ | _ => _) = _
      rw [show seqOf (.lst ((y :: l).map D.int)) s = some ((y :: l).map D.int) from rfl, Option.bind_some, intsOf_map]
    have hem : (triK (triA M 0 bs)).isEmpty = ((triA M 0 bs).map (·.1)).isEmpty := by unfold triK; simp
    rw [hem] at ne
    unfold b_2 paceO
    generalize st ++ [.de (triK (triA M 0 bs))] = s1 at *
    generalize bagsD bs = bsd at *
    generalize hvs : (triA M 0 bs).map (·.1) = vs at *
    clear lp p1 p2 t1 t2 hq wk pb q1
    cases vs with
    | nil =>
      have ne : neE0D (.mut st.length) s1 = .ok (.bl false) s1 := ne
      generalize D.mut st.length = md at *
      simp [ne, smO, optI]
    | cons y l =>
      have ne : neE0D (.mut st.length) s1 = .ok (.bl true) s1 := ne
      have mi := mi y l s1
      show _ = S.nx [_, _, _, some (D.int (smallI (y :: l))), _, _, _] s1
      generalize (y :: l).map D.int = vl at *
      generalize smallI (y :: l) = sm at *
      generalize lcTE (varE 2) (.nm 5) (yesB) (binE getDF (varE 2) (varE 5)) [5] = le at *
      generalize D.mut st.length = md at *
      generalize (M : Int) = Mi at *
      simp [ne, pl, mi]
  have hr : rOk (optI (paceO M bs)) = true ∧ rWt (optI (paceO M bs)) ≤ 15000 ∧ rDp (optI (paceO M bs)) ≤ 10 := by
    cases e : paceO M bs with
    | none => exact ⟨rfl, Nat.zero_le _, Nat.zero_le _⟩
    | some x =>
      obtain ⟨⟨x0, x1⟩, _⟩ := pb x e
      exact ⟨decide_eq_true (by omega), by show 401 ≤ 15000; omega, Nat.zero_le _⟩
  have rp := fun s => repr_two s hr hr
  have q3 : b_3 [some (.int M), some (bagsD bs), some (.mut st.length), some (optI (paceO M bs)), none, none, none] (st ++ [.de (triK (triA M 0 bs))]) = .nx [some (.int M), some (bagsD bs), some (.mut st.length), some (optI (paceO M bs)), none, none, none] (st ++ [.de (triK (triA M 0 bs))] ++ ex1 ++ ex2) := by
    have pk : pick [] [bagsD bs, .int M] [1, 0] = [.int M, bagsD bs] := rfl
    have ns : ∀ x s, neD (.str x) (.str x) s = .ok (.bl false) s := fun x s => by
      show R.ok (D.bl (!decide (x = x))) s = _
      simp
    unfold b_3
    clear lp t1 t2 hq wk pb q1 q2 pl
    generalize st ++ [.de (triK (triA M 0 bs))] ++ ex1 ++ ex2 = s3 at *
    generalize st ++ [.de (triK (triA M 0 bs))] ++ ex1 = s2 at *
    generalize st ++ [.de (triK (triA M 0 bs))] = s1 at *
    generalize bagsD bs = bsd at *
    generalize optI (paceO M bs) = pd at *
    generalize (M : Int) = Mi at *
    generalize D.mut st.length = md at *
    have rp := rp s3
    generalize shD (.lst [pd, pd]) = sh at *
    simp [p1, p2, pk, rp, ns]
  have q4 : b_4 [some (.int M), some (bagsD bs), some (.mut st.length), some (optI (paceO M bs)), none, none, none] (st ++ [.de (triK (triA M 0 bs))] ++ ex1 ++ ex2) = .nx [some (.int M), some (bagsD bs), some (.mut st.length), some (optI (paceO M bs)), some (tightD M bs), none, none] (st ++ [.de (triK (triA M 0 bs))] ++ ex1 ++ ex2 ++ ex3 ++ ex4) := by
    have wb := w_body (M := M) (bs := bs) (some (.int M)) (some (bagsD bs)) none none none hq
    have pk : pick [] [bagsD bs, .int M] [1, 0] = [.int M, bagsD bs] := rfl
    have it : ∀ l s, iterD (.lst l) s = .ok (.frz l) s := fun _ _ => rfl
    rw [b4_eq]
    clear lp p1 p2 hq wk pb q1 q2 q3 pl
    generalize st ++ [.de (triK (triA M 0 bs))] ++ ex1 ++ ex2 ++ ex3 ++ ex4 = s5 at *
    generalize st ++ [.de (triK (triA M 0 bs))] ++ ex1 ++ ex2 ++ ex3 = s4 at *
    generalize st ++ [.de (triK (triA M 0 bs))] ++ ex1 ++ ex2 = s3 at *
    generalize bagsD bs = bsd at *
    generalize optI (paceO M bs) = pd at *
    generalize tightD M bs = td at *
    generalize (M : Int) = Mi at *
    generalize D.mut st.length = md at *
    generalize w_body4 = b4 at *
    simp [t1, t2, pk, it, wb, iterE]
  refine ⟨[.de (triK (triA M 0 bs))] ++ ex1 ++ ex2 ++ ex3 ++ ex4, ?_⟩
  rw [show st ++ ([.de (triK (triA M 0 bs))] ++ ex1 ++ ex2 ++ ex3 ++ ex4) = st ++ [.de (triK (triA M 0 bs))] ++ ex1 ++ ex2 ++ ex3 ++ ex4 by simp [List.append_assoc]]
  unfold F__law_bags_right
  rw [b_eq, b6_eq, b7_eq]
  clear lp p1 p2 t1 t2 pl rp hr
  generalize st ++ [.de (triK (triA M 0 bs))] ++ ex1 ++ ex2 ++ ex3 ++ ex4 = s5 at *
  generalize st ++ [.de (triK (triA M 0 bs))] ++ ex1 ++ ex2 = s3 at *
  generalize st ++ [.de (triK (triA M 0 bs))] = s1 at *
  generalize b_1 = c1 at *
  generalize b_2 = c2 at *
  generalize b_3 = c3 at *
  generalize b_4 = c4 at *
  generalize tightD M bs = td at *
  cases e : paceO M bs with
  | none =>
    rw [e] at q2 q3 q4
    have i1 : isND (optI none) .non s5 = .ok (.bl true) s5 := rfl
    unfold b_5
    generalize optI none = pd at *
    simp [runF, q1, q2, q3, q4, i1]
  | some x =>
    rw [e] at q2 q3 q4
    obtain ⟨⟨x0, x1⟩, r1, r2⟩ := pb x e
    have i1 : isND (optI (some x)) .non s5 = .ok (.bl false) s5 := rfl
    have w2 := wk (binE addD (varE 3) (cE (.int 1))) (x + 1) (by omega) (by omega) (some (.mut st.length)) (some (optI (some x))) (some td) none none (fun o6 => by simp [optI])
    have n2 := ne_bags0 (bs.filter fun b => !decide (wrongI (List.replicate M (x + 1)) b = [])) s5
    rw [wrong_empty, r2] at n2
    have n2 : neD (.lst ((bs.filter fun b => !decide (wrongI (List.replicate M (x + 1)) b = [])).map bagD)) (.lst []) s5 = .ok (.bl true) s5 := n2
    have gt : gtD (optI (some x)) (.int 0) s5 = .ok (.bl (decide (0 < x))) s5 := rfl
    unfold b_5
    by_cases c : 0 < x
    · have w1 := wk (varE 3) x (by omega) (by omega) (some (.mut st.length)) (some (optI (some x))) (some td) none none (fun o6 => by simp [optI])
      have n1 := ne_bags0 (bs.filter fun b => !decide (wrongI (List.replicate M x) b = [])) s5
      rw [wrong_empty, r1] at n1
      have n1 : neD (.lst ((bs.filter fun b => !decide (wrongI (List.replicate M x) b = [])).map bagD)) (.lst []) s5 = .ok (.bl false) s5 := n1
      rw [decide_eq_true c] at gt
      generalize wrongE (varE 3) = we1 at *
      generalize wrongE (binE addD (varE 3) (cE (.int 1))) = we2 at *
      generalize optI (some x) = pd at *
      generalize (bs.filter fun b => !decide (wrongI (List.replicate M x) b = [])).map bagD = l1 at *
      generalize (bs.filter fun b => !decide (wrongI (List.replicate M (x + 1)) b = [])).map bagD = l2 at *
      generalize D.mut st.length = md at *
      generalize (M : Int) = Mi at *
      generalize bagsD bs = bsd at *
      simp [-gtD_int, runF, q1, q2, q3, q4, i1, gt, w1, n1, w2, n2]
    · rw [decide_eq_false c] at gt
      generalize wrongE (varE 3) = we1 at *
      generalize wrongE (binE addD (varE 3) (cE (.int 1))) = we2 at *
      generalize optI (some x) = pd at *
      generalize (bs.filter fun b => !decide (wrongI (List.replicate M (x + 1)) b = [])).map bagD = l2 at *
      generalize D.mut st.length = md at *
      generalize (M : Int) = Mi at *
      generalize bagsD bs = bsd at *
      simp [-gtD_int, runF, q1, q2, q3, q4, i1, gt, w2, n2]
end
end Lap
namespace Lap
open PySem G
def StD (d : D) (st : Sto) (xs : List D) : Prop := d = .lst xs ∨ ∃ n, d = .mut n ∧ st[n]? = some (.lst xs)
theorem StD.ix {d : D} {st : Sto} {Q : List P2} (h : StD d st (Q.map pairD)) {i : Nat} (hi : i < Q.length) : ixD d (.int i) st = .ok (pairD (Q.getD i (0, 0))) st := by
  have a : L2.atI (Q.map pairD) (i : Int) = some (pairD (Q.getD i (0, 0))) := by
    rw [atI_nat' _ _ (by rw [List.length_map]; exact hi), List.getElem_map, List.getD_eq_getElem?_getD, List.getElem?_eq_getElem hi]; rfl
  rcases h with rfl | ⟨n, rfl, e⟩
  · exact ixD_lst _ _ _ a
  · exact ixD_mut n _ _ _ e a
end Lap
namespace Lap
open PySem G
theorem pool_app {p : Nat} {st : Sto} (hp : Pool p st) (ex : Sto) : Pool p (st ++ ex) := pool_keep hp fun k h => List.getElem?_append_left h
structure RaceW (ts : List Int) (t0 : Int) (bs : List (List P2)) (k : Nat) : Prop where
  ok : RaceOk ts t0 bs
  len : ∀ b ∈ bs, b.length ≤ k
  tm : ∀ row ∈ rowsF t0 bs, ∀ p ∈ row, p.1 ≤ 100000000000000010000
theorem RaceW.big {ts : List Int} {t0 : Int} {bs : List (List P2)} {k : Nat} (h : RaceW ts t0 bs k) : ∀ row ∈ rowsF t0 bs, ∀ p ∈ row, p.1 < (big : Int) := fun row hr p hp => by
  have := h.tm row hr p hp
  have := big_ge
  omega
end Lap
namespace Lap
open PySem G
abbrev Wrd := List (Str × Str × Str)
structure Wr where
  th : D
  w : Str
  kp : D
theorem cutD_to (xs : List D) (m : Nat) : cutD xs none (some (m : Int)) = xs.take m := by
  have := cutD_map id xs none (some (m : Int))
  rwa [List.map_id, List.map_id, cutL_to] at this
theorem cutD_from (xs : List D) (m : Nat) : cutD xs (some (m : Int)) none = xs.drop m := by
  have := cutD_map id xs (some (m : Int)) none
  rwa [List.map_id, List.map_id, cutL_from] at this
end Lap
namespace Lap
open PySem G
theorem add_lst (xs ys : List D) (st : Sto) (h : xs.length + ys.length ≤ 16777216) : addD (.lst xs) (.lst ys) st = .ok (.lst (xs ++ ys)) st := by
  show (if xs.length + ys.length ≤ 16777216 then R.ok (D.lst (xs ++ ys)) st else R.fail) = _
  rw [if_pos h]
end Lap
namespace Lap
open PySem G
theorem rowK_turn2B {FD : FA} (hD : Draw FD) {ts : List Int} (hT : Trk ts) (hs : ts.sum ≤ 1000000000000000000000000000000) {st : Sto} {n q j : Nat} {b0 : P2} {b : List P2} {t : Int} {m : Nat} {w : Int} (w0 : 1 ≤ w) (w1 : w ≤ 2 * ts.sum ∨ w ≤ 3) (hnq : n ≠ q) (hj : j < 1000) (h : RowAt ts n q j b0 (3 * ts.sum + 3) b t m st) (o2 o3 o7 o8 o9 : Option D) :
    ∃ b' t' m' q8 q9 st', rowBodyK FD (pickK FD) [some (.mut n), some (tupI ts), o2, o3, some (.mut q), some (pairD (t, (m : Int))), some (.int w), o7, o8, o9] st =
      .nx [some (.mut n), some (tupI ts), o2, o3, some (.mut q), some (pairD (t', ((m' : Nat) : Int))), some (.int w), o7, q8, q9] st' ∧ RowAt ts n q (j + 1) b0 (3 * ts.sum + 3) b' t' m' st' ∧ st'.length = st.length ∧ (∀ k, k ≠ n → k ≠ q → st'[k]? = st[k]?) ∧ followB ts (t', ((m' : Nat) : Int)) (t, ((m : Nat) : Int)) = true ∧ b' = b ++ [(t', ((m' : Nat) : Int))] := by
  have hbig := big_ge
  have h0 : 0 < ts.length := hT.pos
  have h8 := hT.le
  have hsp := sum_pos hT
  obtain ⟨hp, hat, hlen, hok, ht, hm, hlast, hge, hle, hall⟩ := h
  obtain ⟨oi, s1, e1, a0, a1, hp1, ef1⟩ := hD (m := (ts.length : Int)) hp (by omega) (by omega)
  obtain ⟨o, rfl⟩ := Int.eq_ofNat_of_zero_le a0
  have ho : o < ts.length := by omega
  have r1 := f_law_wayK s1 hm ho (by omega)
  obtain ⟨g, s2, e2, g0, g1, hp2, ef2⟩ := hD (m := w) hp1 (by omega) (by omega)
  obtain ⟨x, s3, e3, x0, x1, hp3, ef3⟩ := hD (m := 3) hp2 (by omega) (by omega)
  have mk : mulOk ts.sum x := mulOk_lit (by omega)
  obtain ⟨d, s4, e4, hd, hp4, ef4⟩ := oneA_lst hD.below (xs := [.int 0, .int g, .int (ts.sum * x)]) hp3 (by simp) (by simp)
  obtain ⟨k, rfl, kk0, kk1⟩ : ∃ k : Int, d = .int k ∧ 0 ≤ k ∧ k ≤ 2 * ts.sum + 3 := by
    simp at hd
    have hx : ts.sum * x ≤ ts.sum * 2 := Int.mul_le_mul_of_nonneg_left (by omega) (by omega)
    have hx0 : 0 ≤ ts.sum * x := Int.mul_nonneg (by omega) x0
    rcases hd with rfl | rfl | rfl
    · exact ⟨0, rfl, by omega, by omega⟩
    · exact ⟨g, rfl, g0, by omega⟩
    · exact ⟨_, rfl, hx0, by omega⟩
  have hw1 := way_pos hT hm ho
  have hw2 := way_le_sum hT hm ho
  have at4 : s4[q]? = some (.lst (b.map pairD)) := by
    rw [ef4.2 q (fun z => hnq z.symm), ef3.2 q (fun z => hnq z.symm), ef2.2 q (fun z => hnq z.symm), ef1.2 q (fun z => hnq z.symm)]; exact hat
  have mo : MatOk ts (t + wayI ts m o + k, ((o : Nat) : Int)) := ⟨by show 0 ≤ t + wayI ts m o + k; omega, by show (0 : Int) ≤ _; omega, by show ((_ : Nat) : Int) < _; omega⟩
  have ap := app_mut (pairD (t + wayI ts m o + k, ((o : Nat) : Int))) at4 (by simp; omega)
  have il := isL_mut at4
  have hq := (List.getElem?_eq_some_iff.mp at4).1
  refine ⟨b ++ [(t + wayI ts m o + k, ((o : Nat) : Int))], t + wayI ts m o + k, o, some (.int o), some (.int (t + wayI ts m o + k)), s4.set q (.lst ((b ++ [(t + wayI ts m o + k, ((o : Nat) : Int))]).map pairD)), ?_, ⟨set_other hnq hp4, by simp [hq], by simp [hlen], ⟨fun p hp => ?_, ?_⟩, by omega, ho, .inr (by simp), by omega, ?_, fun p hp => ?_⟩, by rw [List.length_set]; exact (ef4.1.trans ef3.1).trans (ef2.1.trans ef1.1), fun k h1 h2 => by rw [List.getElem?_set_ne (fun z => h2 z.symm), ef4.2 k h1, ef3.2 k h1, ef2.2 k h1, ef1.2 k h1], by
    unfold followB
    apply decide_eq_true
    simp only [Int.toNat_natCast]
    omega, rfl⟩
  · rw [List.map_append, List.map_singleton]
    have y0 : ∀ s, ixD (pairD (t, (m : Int))) (.int 0) s = .ok (.int t) s := fun s => ix_pair0 s _
    have y1 : ∀ s, ixD (pairD (t, (m : Int))) (.int 1) s = .ok (.int m) s := fun s => ix_pair1 s _
    have ln : lenF [tupI ts] st = .ok (.int ts.length) st := by simp [tupI]
    have sm : sumF [tupI ts] s2 = .ok (.int ts.sum) s2 := by simp
    have hpd : pairD (t + wayI ts m o + k, ((o : Nat) : Int)) = .tup [.int (t + wayI ts m o + k), .int o] := rfl
    rw [hpd] at ap ⊢
    generalize wayI ts m o = wk at *
    generalize pairD (t, (m : Int)) = pt at *
    generalize htd : tupI ts = tsd at *
    simp [-Int.natCast_add, rowBodyK, ln, e1, y0, y1, r1, e2, sm, e3, mk, e4, il, ap]
  · rcases List.mem_append.mp hp with hp | hp
    · exact hok.ok p hp
    · rw [List.mem_singleton.mp hp]; exact mo
  · refine row_snoc hT hok.ok mo hok.row ?_
    rcases hlast with ⟨h1, _⟩ | h1
    · exact .inl h1
    · refine .inr ⟨_, h1, ?_⟩
      unfold followB
      apply decide_eq_true
      simp only [Int.toNat_natCast]
      omega
  · rw [Int.natCast_add, Int.add_mul]; omega
  · rcases List.mem_append.mp hp with hp | hp
    · have := hall p hp; omega
    · rw [List.mem_singleton.mp hp]; exact ⟨by show b0.1 ≤ t + wayI ts m o + k; omega, Int.le_refl _⟩
theorem rowK_ok3B {FD : FA} (hD : Draw FD) {ts : List Int} (hT : Trk ts) (hs : ts.sum ≤ 1000000000000000000000000000000) {st : Sto} {n k : Nat} {p0 : P2} (hp : Pool n st) (hk : k < 1000) (h0 : MatOk ts p0) :
    ∃ b st', runF 4 10 (rowK FD (pickK FD)) [.mut n, tupI ts, pairD p0, .int k] st = .ok (bagD b) st' ∧ Pool n st' ∧ b.length = k ∧ RowOk ts b ∧ (∀ p ∈ b, p0.1 ≤ p.1 ∧ p.1 ≤ p0.1 + k * (3 * ts.sum + 3)) ∧ KpK n st st' ∧ RowP ts (p0 :: b) := by
  have hbig := big_ge
  have hsp := sum_pos hT
  have hl0 := hT.pos
  obtain ⟨t0, mi⟩ := p0
  obtain ⟨p1, p2, p3⟩ := h0
  simp only at p1 p2 p3
  obtain ⟨m0, rfl⟩ := Int.eq_ofNat_of_zero_le p2
  have hn : n < st.length := by obtain ⟨a, b, c, h⟩ := hp; exact (List.getElem?_eq_some_iff.mp h).1
  have hp1 : Pool n (st ++ [.lst []]) := by
    obtain ⟨a, b, c, h⟩ := hp
    exact ⟨a, b, c, by rw [List.getElem?_append_left hn]; exact h⟩
  have mk : mulOk 2 ts.sum := mulOk_lit' (by decide)
  obtain ⟨d, s1, e1, hd, hp2, ef⟩ := oneA_lst hD.below (xs := [.int 1, .int 3, .int (2 * ts.sum)]) hp1 (by simp) (by simp)
  obtain ⟨w, rfl, w0, w1⟩ : ∃ w : Int, d = .int w ∧ 1 ≤ w ∧ (w ≤ 2 * ts.sum ∨ w ≤ 3) := by
    simp at hd
    rcases hd with rfl | rfl | rfl
    · exact ⟨1, rfl, by omega, by omega⟩
    · exact ⟨3, rfl, by omega, by omega⟩
    · exact ⟨_, rfl, by omega, by omega⟩
  have hq1 : s1[st.length]? = some (.lst []) := by rw [ef.2 _ (by omega)]; simp
  obtain ⟨env', s', e, b, t, m, o7, o8, o9, rfl, h, hk1, hk2, hrw⟩ := loop_nx (g := tgT (.nm 7)) (body := rowBodyK FD (pickK FD))
    (fun j env s => ∃ (b : List P2) (t : Int) (m : Nat) (o7 o8 o9 : Option D), env = [some (.mut n), some (tupI ts), some (pairD (t0, (m0 : Int))), some (.int k), some (.mut st.length), some (pairD (t, ((m : Nat) : Int))), some (.int w), o7, o8, o9] ∧ RowAt ts n st.length j (t0, (m0 : Int)) (3 * ts.sum + 3) b t m s ∧ st.length + 1 ≤ s.length ∧ (∀ k, k < st.length → k ≠ n → s[k]? = st[k]?) ∧ RowP ts ((t0, (m0 : Int)) :: b))
    (xs := rangeD 0 k) (env := [some (.mut n), some (tupI ts), some (pairD (t0, (m0 : Int))), some (.int k), some (.mut st.length), some (pairD (t0, (m0 : Int))), some (.int w), none, none, none]) (st := s1)
    ⟨[], t0, m0, none, none, none, rfl, ⟨hp2, by simpa using hq1, rfl, ⟨by simp, List.Pairwise.nil⟩, p1, by omega, .inl ⟨rfl, rfl⟩, Int.le_refl _, by simp, by simp⟩, by rw [ef.1]; simp, fun k h1 h2 => by rw [ef.2 k h2, List.getElem?_append_left h1], by unfold RowP; simp⟩
    (by
      rintro j x env s hx ⟨b, t, m, o7, o8, o9, rfl, h, hk1, hk2, hrw⟩
      obtain ⟨rfl, hj⟩ := range_get hx
      obtain ⟨b', t', m', q8, q9, st', e, h', hl', hk', hf', hb'⟩ := rowK_turn2B hD hT hs w0 w1 (by omega) (by omega) h (some (pairD (t0, (m0 : Int)))) (some (.int k)) (some (.int (0 + j))) o8 o9
      refine ⟨_, st', ?_, b', t', m', some (.int (0 + j)), q8, q9, rfl, h', by omega, fun k h1 h2 => by rw [hk' k h2 (by omega)]; exact hk2 k h1 h2, by
        have mp0 : MatOk ts (t0, (m0 : Int)) := ⟨p1, p2, p3⟩
        have mt' : MatOk ts (t', ((m' : Nat) : Int)) := h'.ok.ok _ (by rw [hb']; simp)
        rw [hb', ← List.cons_append]
        refine row_snoc hT (fun q hq => ?_) mt' hrw (.inr ⟨(t, (m : Int)), ?_, hf'⟩)
        · rcases List.mem_cons.mp hq with rfl | hq
          · exact mp0
          · exact h.ok.ok q hq
        · rcases h.last with ⟨q1, q2⟩ | q1
          · rw [q1, q2]; rfl
          · rw [List.getLast?_cons, q1]; rfl⟩
      simp only [Int.zero_add] at e ⊢
      simp [e])
  rw [rangeD_length] at h
  have hat := h.at_
  have tf : tupleF [.mut st.length] s' = .ok (bagD b) s' := by
    show (match seqOf (.mut st.length) s' with | some xs => _ | none => _) = _
    have : seqOf (.mut st.length) s' = some (b.map pairD) := by simp [seqOf, hat]
    rw [this]; rfl
  refine ⟨b, s', ?_, h.pool, h.len, h.ok, fun p hp => by
    have h1 := h.all p hp
    have h2 := h.le
    simp only at h1 h2 ⊢
    exact ⟨h1.1, by omega⟩, ⟨by omega, hk2⟩, hrw⟩
  have k8 : k < 4611686018427387904 := by omega
  have sm : sumF [tupI ts] (st ++ [.lst []]) = .ok (.int ts.sum) (st ++ [.lst []]) := by simp
  have ps : ∀ (env : G.Env) (st : Sto) (fs : EvA), parS3 4 5 6 fs env st = bindS (fs env st) env fun as s1 => match as with
    | [a, b, c] => .nx (((env.set 4 (some a)).set 5 (some b)).set 6 (some c)) s1
    | _ => .fail := fun _ _ _ => rfl
  rw [rowK_eq]
  generalize pairD (t0, (m0 : Int)) = pt at *
  generalize tupI ts = tsd at *
  simp [runF, ps, sm, mk, e1, k8, e, tf]
theorem bagK_okB {FD : FA} (hD : Draw FD) {ts : List Int} (hT : Trk ts) (hs : ts.sum ≤ 1000000000000000000000000000000) {st : Sto} {n k : Nat} (hp : Pool n st) (hk : k ≤ 30) :
    ∃ b st', runF 3 6 (bagK FD (pickK FD)) [.mut n, tupI ts, .int k] st = .ok (bagD b) st' ∧ Pool n st' ∧ b.length ≤ k ∧ BagOk ts b ∧ ∀ p ∈ b, p.1 ≤ 5 * ts.sum + 20 := by
  have hbig := big_ge
  have hsp := sum_pos hT
  have hl0 := hT.pos
  have h8 := hT.le
  have hn : n < st.length := by obtain ⟨a, b, c, h⟩ := hp; exact (List.getElem?_eq_some_iff.mp h).1
  have hp1 : Pool n (st ++ [.dt []]) := by
    obtain ⟨a, b, c, h⟩ := hp
    exact ⟨a, b, c, by rw [List.getElem?_append_left hn]; exact h⟩
  have mk : mulOk 5 ts.sum := mulOk_lit' (by decide)
  obtain ⟨d, s1, e1, hd, hp2, ef⟩ := oneA_lst hD.below (xs := [.int 3, .int 20, .int (5 * ts.sum)]) hp1 (by simp) (by simp)
  obtain ⟨w, rfl, w0, w1⟩ : ∃ w : Int, d = .int w ∧ 1 ≤ w ∧ w ≤ 5 * ts.sum + 20 := by
    simp at hd
    rcases hd with rfl | rfl | rfl
    · exact ⟨3, rfl, by omega, by omega⟩
    · exact ⟨20, rfl, by omega, by omega⟩
    · exact ⟨_, rfl, by omega, by omega⟩
  have hq1 : s1[st.length]? = some (.dt (kpL [])) := by rw [ef.2 _ (by omega)]; simp [kpL]
  have ln : ∀ s, lenF [tupI ts] s = .ok (.int ts.length) s := fun s => by simp [tupI]
  obtain ⟨env', s', e, ps, o5, rfl, hq, hp', hnd, hl, hok⟩ := loop_nx (g := tgT (.nm 5)) (body := putTS (cE (.bl true)) (varE 3) (consA (callE FD (consA (varE 0) (consA (varE 4) (nilA)))) (consA (callE FD (consA (varE 0) (consA (callE lenF (consA (varE 1) (nilA))) (nilA)))) (nilA))))
    (fun j env s => ∃ (ps : List P2) (o5 : Option D), env = [some (.mut n), some (tupI ts), some (.int k), some (.mut st.length), some (.int w), o5] ∧ s[st.length]? = some (.dt (kpL ps)) ∧ Pool n s ∧ ps.Nodup ∧ ps.length ≤ j ∧ ∀ p ∈ ps, MatOk ts p ∧ p.1 ≤ 5 * ts.sum + 20)
    (xs := rangeD 0 k) (env := [some (.mut n), some (tupI ts), some (.int k), some (.mut st.length), some (.int w), none]) (st := s1)
    ⟨[], none, rfl, hq1, hp2, .nil, Nat.le_refl _, by simp⟩
    (by
      rintro j x env s hx ⟨ps, o5, rfl, hq, hp, hnd, hl, hok⟩
      obtain ⟨rfl, hj⟩ := range_get hx
      obtain ⟨g, s2, e2, g0, g1, hp2, ef2⟩ := hD (m := w) hp (by omega) (by omega)
      obtain ⟨m, s3, e3, m0, m1, hp3, ef3⟩ := hD (m := ts.length) hp2 (by omega) (by omega)
      have hq3 : s3[st.length]? = some (.dt (kpL ps)) := by rw [ef3.2 _ (by omega), ef2.2 _ (by omega)]; exact hq
      have hql := (List.getElem?_eq_some_iff.mp hq3).1
      have hpl : (kpL ps).length < 16777216 := by simp [kpL]; omega
      have hput := kpL_put ps (g, m)
      simp only at hput
      have tk : tKeyD (.mut st.length) [.int g, .int m] (.bl true) s3 = some (s3.set st.length (.dt (kpL (if (g, m) ∈ ps then ps else ps ++ [(g, m)])))) := by
        unfold tKeyD
        simp only [hq3, keysOf, G.keyOf, G.scal, hpl, if_true, hput]
      refine ⟨_, _, ?_, if (g, m) ∈ ps then ps else ps ++ [(g, m)], some (.int (0 + j)), rfl, List.getElem?_set_self hql, set_other (by omega) hp3, ?_, ?_, ?_⟩
      · generalize (if (g, m) ∈ ps then ps else ps ++ [(g, m)]) = np at *
        simp [putTS, e2, ln, e3, tk]
      · split
        · exact hnd
        · rename_i h
          rw [List.nodup_append]
          exact ⟨hnd, by simp, fun a ha b hb => by rw [List.mem_singleton.mp hb]; rintro rfl; exact h ha⟩
      · split
        · omega
        · simp; omega
      · intro p hp
        split at hp
        · exact hok p hp
        · rcases List.mem_append.mp hp with hp | hp
          · exact hok p hp
          · rw [List.mem_singleton.mp hp]; exact ⟨⟨g0, m0, m1⟩, by show g ≤ _; omega⟩)
  rw [rangeD_length] at hl
  have lt : listTF [.mut st.length] s' = .ok (.lst (ps.map pairD)) s' := by
    unfold listTF
    simp only [hq]
    rw [keysL_kp]
  have sr := srtF_pairs ps s'
  rw [srtP_ssP hnd] at sr
  have tf : tupleF [.lst ((ssP ps).map pairD)] s' = .ok (bagD (ssP ps)) s' := rfl
  refine ⟨ssP ps, s', ?_, hp', Nat.le_trans (length_ssP ps) hl, bag_of (fun p hp => (hok p hp).1) (by omega), fun p hp => (hok p (mem_ssP.mp hp)).2⟩
  have k8 : k < 4611686018427387904 := by omega
  have sm : sumF [tupI ts] (st ++ [.dt []]) = .ok (.int ts.sum) (st ++ [.dt []]) := by simp
  have pss : ∀ (env : G.Env) (st : Sto) (fs : EvA), parS 3 4 fs env st = bindS (fs env st) env fun as s1 => match as with
    | [a, b] => .nx ((env.set 3 (some a)).set 4 (some b)) s1
    | _ => .fail := fun _ _ _ => rfl
  generalize (ssP ps).map pairD = sd at *
  generalize ps.map pairD = pd at *
  generalize tupI ts = tsd at *
  simp [runF, bagK, pss, newKE, newTE, sm, mk, e1, k8, e, lt, sr, tf]
end Lap
namespace K71
open PySem G Lap
theorem f_draw : Draw F__law_draw := drawK_ok (M := 2147483647) (by decide)
theorem f_pool : MkPool F__law_pool := poolK_ok (M := 2147483647) (by decide)
theorem row_eq : F__law_drawn_row = runF 4 10 (rowK F__law_draw (pickK F__law_draw)) := rfl
theorem bag_eq : F__law_drawn_bag = runF 3 6 (bagK F__law_draw (pickK F__law_draw)) := rfl
theorem pick_eq : F__law_pick = pickK F__law_draw := rfl
def r_body5 : SvS := (ifS (notB (tstE (callE F__law_bags_right (consA (varE 2) (consA (varE 5) (nilA)))))) (retS (cE (.bl false))) (passS))
def r_body1 : SvS := (seqS (asgS (binE addD (cE (.int 1)) (callE F__law_draw (consA (varE 0) (consA (cE (.int 8)) (nilA))))) (nameT 2)) (seqS (asgS (binE mulD (tupE (consA (binE addD (cE (.int 1)) (callE F__law_draw (consA (varE 0) (consA (callE F__law_pick (consA (varE 0) (consA (lstE (consA (cE (.int 3)) (consA (cE (.int 40)) (consA (binE powD (cE (.int 10)) (cE (.int 27))) (nilA))))) (nilA)))) (nilA))))) (nilA))) (varE 2)) (nameT 3)) (seqS (asgS (lcE (callI range1F (consA (binE addD (cE (.int 1)) (callE F__law_draw (consA (varE 0) (consA (cE (.int 4)) (nilA))))) (nilA))) (.nm 7) (yesB) (callE F__law_drawn_row (consA (varE 0) (consA (varE 3) (consA (tupE (consA (callE F__law_draw (consA (varE 0) (consA (cE (.int 9)) (nilA)))) (consA (cE (.int 0)) (nilA)))) (consA (binE addD (cE (.int 1)) (callE F__law_draw (consA (varE 0) (consA (cE (.int 6)) (nilA))))) (nilA)))))) [7]) (nameT 4)) (forS (iterE (lstE (consA (callE tupleF (consA (varE 4) (nilA))) (consA (callE tupleF (consA (binE addD (varE 4) (lstE (consA (tupE (nilA)) (nilA)))) (nilA))) (consA (callE tupleF (consA (binE addD (varE 4) (lstE (consA (callE F__law_drawn_bag (consA (varE 0) (consA (varE 3) (consA (cE (.int 4)) (nilA))))) (nilA)))) (nilA))) (consA (tupE (consA (tupE (nilA)) (consA (tupE (consA (tupE (consA (cE (.int 7)) (consA (cE (.int 0)) (nilA)))) (nilA))) (nilA)))) (consA (tupE (consA (tupE (nilA)) (nilA))) (nilA)))))))) (tgT (.nm 5)) r_body5))))
theorem r_right_eq : B__law_right = seqS (forS (callI range1F (consA (cE (.int 7)) (nilA))) (tgT (.nm 1)) r_body1) (seqS (asgS (lstE (consA (callE F_pace (consA (cE (.int 3)) (consA (tupE (consA (tupE (consA (tupE (consA (cE (.int 0)) (consA (cE (.int 0)) (nilA)))) (consA (tupE (consA (cE (.int 15)) (consA (cE (.int 1)) (nilA)))) (consA (tupE (consA (cE (.int 70)) (consA (cE (.int 0)) (nilA)))) (nilA))))) (nilA))) (nilA)))) (consA (callE F_tight_gap (consA (cE (.int 3)) (consA (tupE (consA (tupE (consA (tupE (consA (cE (.int 0)) (consA (cE (.int 0)) (nilA)))) (consA (tupE (consA (cE (.int 15)) (consA (cE (.int 1)) (nilA)))) (consA (tupE (consA (cE (.int 70)) (consA (cE (.int 0)) (nilA)))) (nilA))))) (nilA))) (nilA)))) (consA (callE F_pace (consA (cE (.int 2)) (consA (tupE (consA (tupE (consA (tupE (consA (cE (.int 0)) (consA (cE (.int 0)) (nilA)))) (nilA))) (consA (tupE (nilA)) (nilA)))) (nilA)))) (consA (callE F_pace (consA (cE (.int 2)) (consA (tupE (consA (tupE (consA (tupE (consA (cE (.int 0)) (consA (cE (.int 0)) (nilA)))) (consA (tupE (consA (cE (.int 1)) (consA (cE (.int 0)) (nilA)))) (nilA)))) (nilA))) (nilA)))) (nilA)))))) (nameT 6)) (retS (binE eqD (varE 6) (lstE (consA (cE (.int 15)) (consA (tupE (consA (cE (.int 0)) (consA (cE (.int 0)) (nilA)))) (consA (cE .non) (consA (cE (.int 0)) (nilA))))))))) := rfl
theorem f_rows {ts : List Int} (hT : Trk ts) (hs : ts.sum ≤ 1000000000000000000000000000000) {p : Nat} {st : Sto} (hp : Pool p st) (o1 o2 o4 o5 o6 : Option D) (n : Nat) (hn : n ≤ 1000) :
    ∃ (rows : List (List P2)) (st' : Sto), lcF (.nm 7) yesB (callE F__law_drawn_row (consA (varE 0) (consA (varE 3) (consA (tupE (consA (callE F__law_draw (consA (varE 0) (consA (cE (.int 9)) (nilA)))) (consA (cE (.int 0)) (nilA)))) (consA (binE addD (cE (.int 1)) (callE F__law_draw (consA (varE 0) (consA (cE (.int 6)) (nilA))))) (nilA)))))) [some (.mut p), o1, o2, some (tupI ts), o4, o5, o6, none] (rangeD 0 n) st [] = .ok (rows.map bagD) st' ∧ Pool p st' ∧ rows.length = n ∧ ∀ b ∈ rows, BagOk ts b ∧ ∀ x ∈ b, x.1 ≤ 10 ^ 45 := by
  have bg := big_ge
  have h1 := hT.pos
  obtain ⟨s', acc, e, rows, rfl, hp', hl, hb⟩ := lc_inv (t := .nm 7) (tt := yesB) (fe := callE F__law_drawn_row (consA (varE 0) (consA (varE 3) (consA (tupE (consA (callE F__law_draw (consA (varE 0) (consA (cE (.int 9)) (nilA)))) (consA (cE (.int 0)) (nilA)))) (consA (binE addD (cE (.int 1)) (callE F__law_draw (consA (varE 0) (consA (cE (.int 6)) (nilA))))) (nilA)))))) (envw := [some (.mut p), o1, o2, some (tupI ts), o4, o5, o6, none])
    (fun j s acc => ∃ rows : List (List P2), acc = rows.map bagD ∧ Pool p s ∧ rows.length = j ∧ ∀ b ∈ rows, BagOk ts b ∧ ∀ x ∈ b, x.1 ≤ 10 ^ 45) (rangeD 0 n) 0 st [] ⟨[], rfl, hp, rfl, by simp⟩
    (by
      rintro j x s acc hx ⟨rows, rfl, hp, hl, hb⟩
      obtain ⟨rfl, hj⟩ := range_get hx
      obtain ⟨t, s1, e1, t0, t1, hp1, -⟩ := f_draw (m := 9) hp (by omega) (by omega)
      obtain ⟨k, s2, e2, k0, k1, hp2, -⟩ := f_draw (m := 6) hp1 (by omega) (by omega)
      obtain ⟨k, rfl⟩ := Int.eq_ofNat_of_zero_le k0
      obtain ⟨b, s3, e3, hp3, hbl, hok, hbd, -, -⟩ := rowK_ok3B f_draw hT hs (k := 1 + k) (p0 := (t, 0)) hp2 (by omega) ⟨t0, Int.le_refl _, by show (0 : Int) < ts.length; omega⟩
      have hsp := sum_pos hT
      have h8 := hT.le
      have hbo := hok.bag hT (by omega)
      refine ⟨s3, (rows ++ [b]).map bagD, fun kk => ?_, rows ++ [b], rfl, hp3, by simp [hl], fun c hc => ?_⟩
      · have e3 : F__law_drawn_row [.mut p, tupI ts, .tup [.int t, .int 0], .int (1 + (k : Int))] s2 = .ok (bagD b) s3 := by
          rw [row_eq]
          have : ((1 + k : Nat) : Int) = 1 + (k : Int) := by push_cast; rfl
          rw [← this]
          exact e3
        rw [turnC_yes (y := bagD b) (st' := s3) (env1 := [some (.mut p), o1, o2, some (tupI ts), o4, o5, o6, some (.int (0 + j))]) (by simp) (by
          have e2 : F__law_draw [.mut p, .int 6] s1 = .ok (.int (k : Int)) s2 := e2
          generalize tupI ts = td at *
          generalize bagD b = bd at *
          generalize (k : Int) = ki at *
          simp [e1, e2, e3]) (by simp; omega)]
        simp
      · rcases List.mem_append.mp hc with hc | hc
        · exact hb c hc
        · rw [List.mem_singleton.mp hc]
          refine ⟨hbo, fun x hx => ?_⟩
          have hx2 := (hbd x hx).2
          have hx2 : x.1 ≤ t + ((1 + k : Nat) : Int) * (3 * ts.sum + 3) := hx2
          have kk : ((1 + k : Nat) : Int) ≤ 6 := by omega
          have : ((1 + k : Nat) : Int) * (3 * ts.sum + 3) ≤ 6 * (3 * ts.sum + 3) := Int.mul_le_mul_of_nonneg_right kk (by omega)
          omega)
  rw [Nat.zero_add, rangeD_length] at hl
  exact ⟨rows, s', e, hp', hl, hb⟩
structure GoodB (M : Nat) (d : D) : Prop where
  ok : ∃ bs : List (List P2), d = bagsD bs ∧ BagsOk M bs ∧ ∀ b ∈ bs, ∀ p ∈ b, p.1 ≤ 10 ^ 50
theorem f_five {M : Nat} {ds : List D} (hd : ∀ d ∈ ds, GoodB M d) {p : Nat} {st : Sto} (hp : Pool p st) (o1 o3 o4 o5 o6 o7 : Option D) :
    ∃ o5' st', loopF (tgT (.nm 5)) r_body5 ds [some (.mut p), o1, some (.int M), o3, o4, o5, o6, o7] st = .nx [some (.mut p), o1, some (.int M), o3, o4, o5', o6, o7] st' ∧ Pool p st' := by
  obtain ⟨env', s', e, ⟨o5', rfl⟩, hp'⟩ := loop_nx (g := tgT (.nm 5)) (body := r_body5)
    (fun j env s => (∃ o5 : Option D, env = [some (.mut p), o1, some (.int M), o3, o4, o5, o6, o7]) ∧ Pool p s)
    (xs := ds) (env := [some (.mut p), o1, some (.int M), o3, o4, o5, o6, o7]) (st := st) ⟨⟨o5, rfl⟩, hp⟩
    (by
      rintro j x env s hx ⟨⟨o5, rfl⟩, hp⟩
      obtain ⟨bs, rfl, hb, hB⟩ := (hd x (List.mem_of_getElem? hx)).ok
      obtain ⟨ex, e⟩ := f_bags_right hb hB s
      refine ⟨[some (.mut p), o1, some (.int M), o3, o4, some (bagsD bs), o6, o7], s ++ ex, ?_, ⟨some (bagsD bs), rfl⟩, pool_app hp ex⟩
      unfold r_body5
      generalize bagsD bs = bd at *
      generalize (M : Int) = mi at *
      generalize s ++ ex = s1 at *
      simp [e])
  exact ⟨o5', s', e, hp'⟩
theorem f_turn {p : Nat} {st : Sto} (hp : Pool p st) (o1 o2 o3 o4 o5 o6 : Option D) :
    ∃ o2' o3' o4' o5' st', r_body1 [some (.mut p), o1, o2, o3, o4, o5, o6, none] st = .nx [some (.mut p), o1, o2', o3', o4', o5', o6, none] st' ∧ Pool p st' := by
  have bg := big_ge
  obtain ⟨m, s1, e1, m0, m1, hp1, -⟩ := f_draw (m := 8) hp (by omega) (by omega)
  obtain ⟨m, rfl⟩ := Int.eq_ofNat_of_zero_le m0
  obtain ⟨d, s2, e2, hd, hp2, -⟩ := oneA_lst f_draw.below (xs := [.int 3, .int 40, .int 1000000000000000000000000000]) hp1 (by simp) (by simp)
  obtain ⟨w, rfl, w0, w1⟩ : ∃ w : Int, d = .int w ∧ 1 ≤ w ∧ w ≤ 1000000000000000000000000000 := by
    simp at hd
    rcases hd with rfl | rfl | rfl
    · exact ⟨3, rfl, by omega, by omega⟩
    · exact ⟨40, rfl, by omega, by omega⟩
    · exact ⟨_, rfl, by omega, by omega⟩
  obtain ⟨x, s3, e3, x0, x1, hp3, -⟩ := f_draw (m := w) hp2 (by omega) (by omega)
  have hM1 : 1 ≤ 1 + m := by omega
  have hM8 : 1 + m ≤ 8 := by omega
  have mu := mul_evenI s3 (M := 1 + m) (1 + x) hM1 (by omega)
  have hT := rep_trk hM1 hM8 (x := 1 + x) (by omega)
  have hs : (List.replicate (1 + m) (1 + x)).sum ≤ 1000000000000000000000000000000 := by
    rw [rep_sum]
    have : ((1 + m : Nat) : Int) * (1 + x) ≤ 8 * (1 + x) := Int.mul_le_mul_of_nonneg_right (by omega) (by omega)
    omega
  obtain ⟨n, s4, e4, n0, n1, hp4, -⟩ := f_draw (m := 4) hp3 (by omega) (by omega)
  obtain ⟨n, rfl⟩ := Int.eq_ofNat_of_zero_le n0
  obtain ⟨rows, s5, e5, hp5, hrl, hrb⟩ := f_rows hT hs hp4 o1 (some (.int ((1 + m : Nat) : Int))) o4 o5 o6 (1 + n) (by omega)
  obtain ⟨b, s6, e6, hp6, hbl, hbo, hbb⟩ := bagK_okB f_draw hT hs (k := 4) hp5 (by omega)
  have of_ : ∀ b, BagOk (List.replicate (1 + m) (1 + x)) b → BagOk (evenL (1 + m)) b := fun b h => h.of_len (by rw [List.length_replicate, even_len])
  have emp : BagOk (evenL (1 + m)) [] := ⟨by simp, by simp, .nil⟩
  have one : BagOk (evenL (1 + m)) [(7, 0)] := ⟨by simp, fun p hp => by rw [List.mem_singleton.mp hp]; exact ⟨by decide, by decide, by show (0 : Int) < (evenL (1 + m)).length; rw [even_len]; omega⟩, List.pairwise_singleton _ _⟩
  have g : ∀ bs : List (List P2), 1 ≤ bs.length → bs.length ≤ 6 → (∀ b ∈ bs, BagOk (evenL (1 + m)) b ∧ ∀ p ∈ b, p.1 ≤ 10 ^ 50) → GoodB (1 + m) (bagsD bs) := fun bs h1 h6 h => ⟨bs, rfl, ⟨hM1, hM8, h1, h6, fun b hb => (h b hb).1⟩, fun b hb => (h b hb).2⟩
  have hrow : ∀ b ∈ rows, BagOk (evenL (1 + m)) b ∧ ∀ p ∈ b, p.1 ≤ 10 ^ 50 := fun b hb => ⟨of_ b (hrb b hb).1, fun p hp => Int.le_trans ((hrb b hb).2 p hp) (by decide)⟩
  have good : ∀ d ∈ [bagsD rows, bagsD (rows ++ [[]]), bagsD (rows ++ [b]), bagsD [[], [(7, 0)]], bagsD [[]]], GoodB (1 + m) d := by
    intro d hd
    simp only [List.mem_cons, List.not_mem_nil, or_false] at hd
    have hsp := sum_pos hT
    rcases hd with rfl | rfl | rfl | rfl | rfl
    · exact g _ (by omega) (by omega) hrow
    · refine g _ (by simp) (by simp; omega) fun c hc => ?_
      rcases List.mem_append.mp hc with hc | hc
      · exact hrow c hc
      · rw [List.mem_singleton.mp hc]; exact ⟨emp, by simp⟩
    · refine g _ (by simp) (by simp; omega) fun c hc => ?_
      rcases List.mem_append.mp hc with hc | hc
      · exact hrow c hc
      · rw [List.mem_singleton.mp hc]
        refine ⟨of_ b hbo, fun p hp => ?_⟩
        have := hbb p hp
        omega
    · refine g _ (by simp) (by simp) fun c hc => ?_
      rcases List.mem_cons.mp hc with rfl | hc
      · exact ⟨emp, by simp⟩
      · rw [List.mem_singleton.mp hc]
        exact ⟨one, fun p hp => by rw [List.mem_singleton.mp hp]; decide⟩
    · refine g _ (by simp) (by simp) fun c hc => ?_
      rw [List.mem_singleton.mp hc]; exact ⟨emp, by simp⟩
  obtain ⟨o5', s7, e7, hp7⟩ := f_five good hp6 o1 (some (tupI (List.replicate (1 + m) (1 + x)))) (some (.lst (rows.map bagD))) o5 o6 none
  refine ⟨some (.int ((1 + m : Nat) : Int)), some (tupI (List.replicate (1 + m) (1 + x))), some (.lst (rows.map bagD)), o5', s7, ?_, hp7⟩
  have p27 : ∀ s, powD (.int 10) (.int 27) s = .ok (.int 1000000000000000000000000000) s := fun _ => rfl
  have rg : range1F [.int (1 + (n : Int))] s4 = .ok (.frz (rangeD 0 (1 + n))) s4 := by
    have k1 : (1 + (n : Int)).toNat = 1 + n := by omega
    have k2 : 1 + (n : Int) < 4611686018427387904 := by omega
    simp [k1, k2]
    omega
  have it : ∀ l s, iterD (.lst l) s = .ok (.frz l) s := fun _ _ => rfl
  have tf : ∀ l s, tupleF [.lst l] s = .ok (.tup l) s := fun _ _ => rfl
  have ad : ∀ (x : D) s, addD (.lst (rows.map bagD)) (.lst [x]) s = .ok (.lst (rows.map bagD ++ [x])) s := fun x s => add_lst _ _ s (by simp; omega)
  have e6 : F__law_drawn_bag [.mut p, tupI (List.replicate (1 + m) (1 + x)), .int 4] s5 = .ok (bagD b) s6 := by rw [bag_eq]; exact e6
  have e2 : F__law_pick [.mut p, .lst [.int 3, .int 40, .int 1000000000000000000000000000]] s1 = .ok (.int w) s2 := by rw [pick_eq]; exact e2
  have b1 : bagsD rows = .tup (rows.map bagD) := rfl
  have b2 : bagsD (rows ++ [[]]) = .tup (rows.map bagD ++ [.tup []]) := by unfold bagsD; rw [List.map_append]; rfl
  have b3 : bagsD (rows ++ [b]) = .tup (rows.map bagD ++ [bagD b]) := by unfold bagsD; rw [List.map_append]; rfl
  have b4 : bagsD [[], [(7, 0)]] = .tup [.tup [], .tup [.tup [.int 7, .int 0]]] := rfl
  have b5 : bagsD [[]] = .tup [.tup []] := rfl
  rw [b1, b2, b3, b4, b5] at e7
  have k1 : ((1 + m : Nat) : Int) = 1 + (m : Int) := by push_cast; rfl
  simp only [k1] at mu e5 e7 ⊢
  have e1 : F__law_draw [.mut p, .int 8] st = .ok (.int (m : Int)) s1 := e1
  have e4 : F__law_draw [.mut p, .int 4] s3 = .ok (.int (n : Int)) s4 := e4
  clear good hrow g emp one of_ hbb hbo hrb hT hs b1 b2 b3 b4 b5 k1
  unfold r_body1
  generalize rangeD 0 (1 + n) = rr at *
  generalize tupI (List.replicate (1 + m) (1 + x)) = td at *
  generalize bagD b = bd at *
  generalize rows.map bagD = rl at *
  generalize r_body5 = b5 at *
  generalize (m : Int) = mi at *
  generalize (n : Int) = ni at *
  simp [-range1F_eq, -lcE_eq, lcE, lcL, e1, e2, e3, p27, mu, e4, rg, wipeE, e5, R.bind, tf, ad, e6, it, iterE, e7]
theorem f_right : Right F__law_right := by
  intro st p hp
  obtain ⟨env', s', e, ⟨o1, o2, o3, o4, o5, rfl⟩, hp'⟩ := loop_nx (g := tgT (.nm 1)) (body := r_body1)
    (fun j env s => (∃ o1 o2 o3 o4 o5 : Option D, env = [some (.mut p), o1, o2, o3, o4, o5, none, none]) ∧ Pool p s)
    (xs := rangeD 0 7) (env := [some (.mut p), none, none, none, none, none, none, none]) (st := st) ⟨⟨none, none, none, none, none, rfl⟩, hp⟩
    (by
      rintro j x env s hx ⟨⟨o1, o2, o3, o4, o5, rfl⟩, hp⟩
      obtain ⟨rfl, hj⟩ := range_get hx
      obtain ⟨o2', o3', o4', o5', s2, e, hp2⟩ := f_turn hp (some (.int (j : Nat))) o2 o3 o4 o5 none
      refine ⟨_, s2, ?_, ⟨some (.int (j : Nat)), o2', o3', o4', o5', rfl⟩, hp2⟩
      rw [Int.zero_add]
      generalize r_body1 = b1 at *
      simp [e])
  have ok1 : BagsOk 3 [[(0, 0), (15, 1), (70, 0)]] := ⟨by decide, by decide, by decide, by decide, fun b hb => by
    rw [List.mem_singleton.mp hb]
    exact ⟨by decide, by decide, by simp [ltP2]⟩⟩
  have ok2 : BagsOk 2 [[(0, 0)], []] := ⟨by decide, by decide, by decide, by decide, fun b hb => by
    rcases List.mem_cons.mp hb with rfl | hb
    · exact ⟨by decide, by decide, by simp⟩
    · rw [List.mem_singleton.mp hb]; exact ⟨by decide, by decide, by simp⟩⟩
  have ok3 : BagsOk 2 [[(0, 0), (1, 0)]] := ⟨by decide, by decide, by decide, by decide, fun b hb => by
    rw [List.mem_singleton.mp hb]
    exact ⟨by decide, by decide, by simp [ltP2]⟩⟩
  obtain ⟨x1, e1⟩ := t_pace ok1 s'
  obtain ⟨x2, e2⟩ := t_tight ok1 (s' ++ x1)
  obtain ⟨x3, e3⟩ := t_pace ok2 (s' ++ x1 ++ x2)
  obtain ⟨x4, e4⟩ := t_pace ok3 (s' ++ x1 ++ x2 ++ x3)
  have v1 : paceO 3 [[(0, 0), (15, 1), (70, 0)]] = some 15 := by decide +kernel
  have v2 : tightD 3 [[(0, 0), (15, 1), (70, 0)]] = .tup [.int 0, .int 0] := by
    have h : triA 3 0 [[(0, 0), (15, 1), (70, 0)]] ≠ [] := by decide +kernel
    rw [tight_some h]
    have : (triA 3 0 [[(0, 0), (15, 1), (70, 0)]]).getD (leastT (triA 3 0 [[(0, 0), (15, 1), (70, 0)]])) (0, 0, 0) = (15, 0, 0) := by decide +kernel
    rw [this]
  have v3 : paceO 2 [[(0, 0)], []] = none := by decide +kernel
  have v4 : paceO 2 [[(0, 0), (1, 0)]] = some 0 := by decide +kernel
  rw [v1] at e1
  rw [v2] at e2
  rw [v3] at e3
  rw [v4] at e4
  have eq : ∀ s, eqD (.lst [.int 15, .tup [.int 0, .int 0], .non, .int 0]) (.lst [.int 15, .tup [.int 0, .int 0], .non, .int 0]) s = .ok (.bl true) s := fun s => by
    have : eqO (.lst [.int 15, .tup [.int 0, .int 0], .non, .int 0]) (.lst [.int 15, .tup [.int 0, .int 0], .non, .int 0]) = some true := by decide +kernel
    unfold eqD
    rw [this]
  refine ⟨s' ++ x1 ++ x2 ++ x3 ++ x4, ?_⟩
  have e1 : F_pace [.int 3, .tup [.tup [.tup [.int 0, .int 0], .tup [.int 15, .int 1], .tup [.int 70, .int 0]]]] s' = .ok (.int 15) (s' ++ x1) := e1
  have e2 : F_tight_gap [.int 3, .tup [.tup [.tup [.int 0, .int 0], .tup [.int 15, .int 1], .tup [.int 70, .int 0]]]] (s' ++ x1) = .ok (.tup [.int 0, .int 0]) (s' ++ x1 ++ x2) := e2
  have e3 : F_pace [.int 2, .tup [.tup [.tup [.int 0, .int 0]], .tup []]] (s' ++ x1 ++ x2) = .ok .non (s' ++ x1 ++ x2 ++ x3) := e3
  have e4 : F_pace [.int 2, .tup [.tup [.tup [.int 0, .int 0], .tup [.int 1, .int 0]]]] (s' ++ x1 ++ x2 ++ x3) = .ok (.int 0) (s' ++ x1 ++ x2 ++ x3 ++ x4) := e4
  unfold F__law_right
  rw [r_right_eq]
  generalize s' ++ x1 ++ x2 ++ x3 ++ x4 = s4 at *
  generalize s' ++ x1 ++ x2 ++ x3 = s3 at *
  generalize s' ++ x1 ++ x2 = s2 at *
  generalize s' ++ x1 = s1 at *
  generalize r_body1 = b1 at *
  simp [runF, e, e1, e2, e3, e4, eq]
theorem law_true (ns : List Int) (h : ns.length ≤ 63) : ∃ st, F_law [.slo (ns.map D.int)] [] = .ok (.bl true) st := lawK_ok f_pool f_right ns
end K71
namespace K71
open PySem PySem.Spec PyProof.Rows L2 G Lap
set_option maxHeartbeats 4000000
theorem all_mk {l : PySem.W.OpenLaw} {w : World} {K : PySem.W.Frag} {h : Heap} {mg : Str → Option Value} {fa f0 f1 f2 f3 f4 f5 f6 f7 f8 f9 f10 f11 f12 f13 f14 f15 f16 f17 f18 f19 f20 f21 f22 f23 f24 f25 f26 f27 f28 f29 f30 f31 f32 f33 f34 f35 f36 f37 f38 f39 f40 f41 f42 f43 f44 : Addr} (X : K.In h) (G : h.Ns mainGlobals mg) (hfa : mg "law" = some (.ref fa))
    {od0 an0 od1 an1 od2 an2 od3 an3 od4 an4 od5 an5 od6 an6 od7 an7 od8 an8 od9 an9 od10 an10 od11 an11 od12 an12 od13 an13 od14 an14 od15 an15 od16 an16 od17 an17 od18 an18 od19 an19 od20 an20 od21 an21 od22 an22 od23 an23 od24 an24 od25 an25 od26 an26 od27 an27 od28 an28 od29 an29 od30 an30 od31 an31 od32 an32 od33 an33 od34 an34 od35 an35 od36 an36 od37 an37 od38 an38 od39 an39 od40 an40 od41 an41 od42 an42 od43 an43 od44 an44 : Option Addr} {sl0 sl1 sl2 sl3 sl4 sl5 sl6 sl7 sl8 sl9 sl10 sl11 sl12 sl13 sl14 sl15 sl16 sl17 sl18 sl19 sl20 sl21 sl22 sl23 sl24 sl25 sl26 sl27 sl28 sl29 sl30 sl31 sl32 sl33 sl34 sl35 sl36 sl37 sl38 sl39 sl40 sl41 sl42 sl43 sl44 : Array (Option Value)} {oc0 kV0 dc0 pm0 cd0 ct0 oc1 kV1 dc1 pm1 cd1 ct1 oc2 kV2 dc2 pm2 cd2 ct2 oc3 kV3 dc3 pm3 cd3 ct3 oc4 kV4 dc4 pm4 cd4 ct4 oc5 kV5 dc5 pm5 cd5 ct5 oc6 kV6 dc6 pm6 cd6 ct6 oc7 kV7 dc7 pm7 cd7 ct7 oc8 kV8 dc8 pm8 cd8 ct8 oc9 kV9 dc9 pm9 cd9 ct9 oc10 kV10 dc10 pm10 cd10 ct10 oc11 kV11 dc11 pm11 cd11 ct11 oc12 kV12 dc12 pm12 cd12 ct12 oc13 kV13 dc13 pm13 cd13 ct13 oc14 kV14 dc14 pm14 cd14 ct14 oc15 kV15 dc15 pm15 cd15 ct15 oc16 kV16 dc16 pm16 cd16 ct16 oc17 kV17 dc17 pm17 cd17 ct17 oc18 kV18 dc18 pm18 cd18 ct18 oc19 kV19 dc19 pm19 cd19 ct19 oc20 kV20 dc20 pm20 cd20 ct20 oc21 kV21 dc21 pm21 cd21 ct21 oc22 kV22 dc22 pm22 cd22 ct22 oc23 kV23 dc23 pm23 cd23 ct23 oc24 kV24 dc24 pm24 cd24 ct24 oc25 kV25 dc25 pm25 cd25 ct25 oc26 kV26 dc26 pm26 cd26 ct26 oc27 kV27 dc27 pm27 cd27 ct27 oc28 kV28 dc28 pm28 cd28 ct28 oc29 kV29 dc29 pm29 cd29 ct29 oc30 kV30 dc30 pm30 cd30 ct30 oc31 kV31 dc31 pm31 cd31 ct31 oc32 kV32 dc32 pm32 cd32 ct32 oc33 kV33 dc33 pm33 cd33 ct33 oc34 kV34 dc34 pm34 cd34 ct34 oc35 kV35 dc35 pm35 cd35 ct35 oc36 kV36 dc36 pm36 cd36 ct36 oc37 kV37 dc37 pm37 cd37 ct37 oc38 kV38 dc38 pm38 cd38 ct38 oc39 kV39 dc39 pm39 cd39 ct39 oc40 kV40 dc40 pm40 cd40 ct40 oc41 kV41 dc41 pm41 cd41 ct41 oc42 kV42 dc42 pm42 cd42 ct42 oc43 kV43 dc43 pm43 cd43 ct43 oc44 kV44 dc44 pm44 cd44 ct44 : Value}
    {tk_MOST_MATS tk_MOST_MARKS tk_MOST_RUNNERS : Tok}
    (a0 : PySem.W.nsIn K mainGlobals "round_by" = some (some (.ref f0))) (l0 : K.lookup f0 = some ⟨oc0, od0, .func (PySem.W.fnOf "round_by" "round_by" (defArgs s_round_by) (defBody s_round_by) (defScope s_round_by) .none kV0 dc0 pm0 an0 cd0 ct0), sl0⟩) (c0 : PySem.W.codeIn K cd0 "round_by" = true) (k0 : PySem.W.keepIn K (.ref f0) = true)
    (a1 : PySem.W.nsIn K mainGlobals "sectors_from" = some (some (.ref f1))) (l1 : K.lookup f1 = some ⟨oc1, od1, .func (PySem.W.fnOf "sectors_from" "sectors_from" (defArgs s_sectors_from) (defBody s_sectors_from) (defScope s_sectors_from) .none kV1 dc1 pm1 an1 cd1 ct1), sl1⟩) (c1 : PySem.W.codeIn K cd1 "sectors_from" = true) (k1 : PySem.W.keepIn K (.ref f1) = true)
    (a2 : PySem.W.nsIn K mainGlobals "reach_by" = some (some (.ref f2))) (l2 : K.lookup f2 = some ⟨oc2, od2, .func (PySem.W.fnOf "reach_by" "reach_by" (defArgs s_reach_by) (defBody s_reach_by) (defScope s_reach_by) .none kV2 dc2 pm2 an2 cd2 ct2), sl2⟩) (c2 : PySem.W.codeIn K cd2 "reach_by" = true) (k2 : PySem.W.keepIn K (.ref f2) = true)
    (a3 : PySem.W.nsIn K mainGlobals "steps_by" = some (some (.ref f3))) (l3 : K.lookup f3 = some ⟨oc3, od3, .func (PySem.W.fnOf "steps_by" "steps_by" (defArgs s_steps_by) (defBody s_steps_by) (defScope s_steps_by) .none kV3 dc3 pm3 an3 cd3 ct3), sl3⟩) (c3 : PySem.W.codeIn K cd3 "steps_by" = true) (k3 : PySem.W.keepIn K (.ref f3) = true)
    (a4 : PySem.W.nsIn K mainGlobals "way_by" = some (some (.ref f4))) (l4 : K.lookup f4 = some ⟨oc4, od4, .func (PySem.W.fnOf "way_by" "way_by" (defArgs s_way_by) (defBody s_way_by) (defScope s_way_by) .none kV4 dc4 pm4 an4 cd4 ct4), sl4⟩) (c4 : PySem.W.codeIn K cd4 "way_by" = true) (k4 : PySem.W.keepIn K (.ref f4) = true)
    (a5 : PySem.W.nsIn K mainGlobals "can_follow_by" = some (some (.ref f5))) (l5 : K.lookup f5 = some ⟨oc5, od5, .func (PySem.W.fnOf "can_follow_by" "can_follow_by" (defArgs s_can_follow_by) (defBody s_can_follow_by) (defScope s_can_follow_by) .none kV5 dc5 pm5 an5 cd5 ct5), sl5⟩) (c5 : PySem.W.codeIn K cd5 "can_follow_by" = true) (k5 : PySem.W.keepIn K (.ref f5) = true)
    (a6 : PySem.W.nsIn K mainGlobals "wrong_marks_by" = some (some (.ref f6))) (l6 : K.lookup f6 = some ⟨oc6, od6, .func (PySem.W.fnOf "wrong_marks_by" "wrong_marks_by" (defArgs s_wrong_marks_by) (defBody s_wrong_marks_by) (defScope s_wrong_marks_by) .none kV6 dc6 pm6 an6 cd6 ct6), sl6⟩) (c6 : PySem.W.codeIn K cd6 "wrong_marks_by" = true) (k6 : PySem.W.keepIn K (.ref f6) = true)
    (a7 : PySem.W.nsIn K mainGlobals "is_row_by" = some (some (.ref f7))) (l7 : K.lookup f7 = some ⟨oc7, od7, .func (PySem.W.fnOf "is_row_by" "is_row_by" (defArgs s_is_row_by) (defBody s_is_row_by) (defScope s_is_row_by) .none kV7 dc7 pm7 an7 cd7 ct7), sl7⟩) (c7 : PySem.W.codeIn K cd7 "is_row_by" = true) (k7 : PySem.W.keepIn K (.ref f7) = true)
    (a8 : PySem.W.nsIn K mainGlobals "is_whole" = some (some (.ref f8))) (l8 : K.lookup f8 = some ⟨oc8, od8, .func (PySem.W.fnOf "is_whole" "is_whole" (defArgs s_is_whole) (defBody s_is_whole) (defScope s_is_whole) .none kV8 dc8 pm8 an8 cd8 ct8), sl8⟩) (c8 : PySem.W.codeIn K cd8 "is_whole" = true) (k8 : PySem.W.keepIn K (.ref f8) = true)
    (a9 : PySem.W.nsIn K mainGlobals "is_between" = some (some (.ref f9))) (l9 : K.lookup f9 = some ⟨oc9, od9, .func (PySem.W.fnOf "is_between" "is_between" (defArgs s_is_between) (defBody s_is_between) (defScope s_is_between) .none kV9 dc9 pm9 an9 cd9 ct9), sl9⟩) (c9 : PySem.W.codeIn K cd9 "is_between" = true) (k9 : PySem.W.keepIn K (.ref f9) = true)
    (a10 : PySem.W.nsIn K mainGlobals "is_up_to" = some (some (.ref f10))) (l10 : K.lookup f10 = some ⟨oc10, od10, .func (PySem.W.fnOf "is_up_to" "is_up_to" (defArgs s_is_up_to) (defBody s_is_up_to) (defScope s_is_up_to) .none kV10 dc10 pm10 an10 cd10 ct10), sl10⟩) (c10 : PySem.W.codeIn K cd10 "is_up_to" = true) (k10 : PySem.W.keepIn K (.ref f10) = true)
    (a11 : PySem.W.nsIn K mainGlobals "is_from" = some (some (.ref f11))) (l11 : K.lookup f11 = some ⟨oc11, od11, .func (PySem.W.fnOf "is_from" "is_from" (defArgs s_is_from) (defBody s_is_from) (defScope s_is_from) .none kV11 dc11 pm11 an11 cd11 ct11), sl11⟩) (c11 : PySem.W.codeIn K cd11 "is_from" = true) (k11 : PySem.W.keepIn K (.ref f11) = true)
    (a12 : PySem.W.nsIn K mainGlobals "is_tuple_up_to" = some (some (.ref f12))) (l12 : K.lookup f12 = some ⟨oc12, od12, .func (PySem.W.fnOf "is_tuple_up_to" "is_tuple_up_to" (defArgs s_is_tuple_up_to) (defBody s_is_tuple_up_to) (defScope s_is_tuple_up_to) .none kV12 dc12 pm12 an12 cd12 ct12), sl12⟩) (c12 : PySem.W.codeIn K cd12 "is_tuple_up_to" = true) (k12 : PySem.W.keepIn K (.ref f12) = true)
    (a13 : PySem.W.nsIn K mainGlobals "is_tuple_of" = some (some (.ref f13))) (l13 : K.lookup f13 = some ⟨oc13, od13, .func (PySem.W.fnOf "is_tuple_of" "is_tuple_of" (defArgs s_is_tuple_of) (defBody s_is_tuple_of) (defScope s_is_tuple_of) .none kV13 dc13 pm13 an13 cd13 ct13), sl13⟩) (c13 : PySem.W.codeIn K cd13 "is_tuple_of" = true) (k13 : PySem.W.keepIn K (.ref f13) = true)
    (a14 : PySem.W.nsIn K mainGlobals "is_pair" = some (some (.ref f14))) (l14 : K.lookup f14 = some ⟨oc14, od14, .func (PySem.W.fnOf "is_pair" "is_pair" (defArgs s_is_pair) (defBody s_is_pair) (defScope s_is_pair) .none kV14 dc14 pm14 an14 cd14 ct14), sl14⟩) (c14 : PySem.W.codeIn K cd14 "is_pair" = true) (k14 : PySem.W.keepIn K (.ref f14) = true)
    (a15 : PySem.W.nsIn K mainGlobals "is_track_of" = some (some (.ref f15))) (l15 : K.lookup f15 = some ⟨oc15, od15, .func (PySem.W.fnOf "is_track_of" "is_track_of" (defArgs s_is_track_of) (defBody s_is_track_of) (defScope s_is_track_of) .none kV15 dc15 pm15 an15 cd15 ct15), sl15⟩) (c15 : PySem.W.codeIn K cd15 "is_track_of" = true) (k15 : PySem.W.keepIn K (.ref f15) = true)
    (a16 : PySem.W.nsIn K mainGlobals "is_mat_of" = some (some (.ref f16))) (l16 : K.lookup f16 = some ⟨oc16, od16, .func (PySem.W.fnOf "is_mat_of" "is_mat_of" (defArgs s_is_mat_of) (defBody s_is_mat_of) (defScope s_is_mat_of) .none kV16 dc16 pm16 an16 cd16 ct16), sl16⟩) (c16 : PySem.W.codeIn K cd16 "is_mat_of" = true) (k16 : PySem.W.keepIn K (.ref f16) = true)
    (a17 : PySem.W.nsIn K mainGlobals "is_mark_of" = some (some (.ref f17))) (l17 : K.lookup f17 = some ⟨oc17, od17, .func (PySem.W.fnOf "is_mark_of" "is_mark_of" (defArgs s_is_mark_of) (defBody s_is_mark_of) (defScope s_is_mark_of) .none kV17 dc17 pm17 an17 cd17 ct17), sl17⟩) (c17 : PySem.W.codeIn K cd17 "is_mark_of" = true) (k17 : PySem.W.keepIn K (.ref f17) = true)
    (a18 : PySem.W.nsIn K mainGlobals "wrong_in_bag" = some (some (.ref f18))) (l18 : K.lookup f18 = some ⟨oc18, od18, .func (PySem.W.fnOf "wrong_in_bag" "wrong_in_bag" (defArgs s_wrong_in_bag) (defBody s_wrong_in_bag) (defScope s_wrong_in_bag) .none kV18 dc18 pm18 an18 cd18 ct18), sl18⟩) (c18 : PySem.W.codeIn K cd18 "wrong_in_bag" = true) (k18 : PySem.W.keepIn K (.ref f18) = true)
    (a19 : PySem.W.nsIn K mainGlobals "is_bag_of" = some (some (.ref f19))) (l19 : K.lookup f19 = some ⟨oc19, od19, .func (PySem.W.fnOf "is_bag_of" "is_bag_of" (defArgs s_is_bag_of) (defBody s_is_bag_of) (defScope s_is_bag_of) .none kV19 dc19 pm19 an19 cd19 ct19), sl19⟩) (c19 : PySem.W.codeIn K cd19 "is_bag_of" = true) (k19 : PySem.W.keepIn K (.ref f19) = true)
    (a20 : PySem.W.nsIn K mainGlobals "check_track" = some (some (.ref f20))) (l20 : K.lookup f20 = some ⟨oc20, od20, .func (PySem.W.fnOf "check_track" "check_track" (defArgs s_check_track) (defBody s_check_track) (defScope s_check_track) .none kV20 dc20 pm20 an20 cd20 ct20), sl20⟩) (c20 : PySem.W.codeIn K cd20 "check_track" = true) (k20 : PySem.W.keepIn K (.ref f20) = true)
    (a21 : PySem.W.nsIn K mainGlobals "check_bag" = some (some (.ref f21))) (l21 : K.lookup f21 = some ⟨oc21, od21, .func (PySem.W.fnOf "check_bag" "check_bag" (defArgs s_check_bag) (defBody s_check_bag) (defScope s_check_bag) .none kV21 dc21 pm21 an21 cd21 ct21), sl21⟩) (c21 : PySem.W.codeIn K cd21 "check_bag" = true) (k21 : PySem.W.keepIn K (.ref f21) = true)
    (a22 : PySem.W.nsIn K mainGlobals "is_mat_count" = some (some (.ref f22))) (l22 : K.lookup f22 = some ⟨oc22, od22, .func (PySem.W.fnOf "is_mat_count" "is_mat_count" (defArgs s_is_mat_count) (defBody s_is_mat_count) (defScope s_is_mat_count) .none kV22 dc22 pm22 an22 cd22 ct22), sl22⟩) (c22 : PySem.W.codeIn K cd22 "is_mat_count" = true) (k22 : PySem.W.keepIn K (.ref f22) = true)
    (a23 : PySem.W.nsIn K mainGlobals "even_track" = some (some (.ref f23))) (l23 : K.lookup f23 = some ⟨oc23, od23, .func (PySem.W.fnOf "even_track" "even_track" (defArgs s_even_track) (defBody s_even_track) (defScope s_even_track) .none kV23 dc23 pm23 an23 cd23 ct23), sl23⟩) (c23 : PySem.W.codeIn K cd23 "even_track" = true) (k23 : PySem.W.keepIn K (.ref f23) = true)
    (a24 : PySem.W.nsIn K mainGlobals "wrong_in_bags" = some (some (.ref f24))) (l24 : K.lookup f24 = some ⟨oc24, od24, .func (PySem.W.fnOf "wrong_in_bags" "wrong_in_bags" (defArgs s_wrong_in_bags) (defBody s_wrong_in_bags) (defScope s_wrong_in_bags) .none kV24 dc24 pm24 an24 cd24 ct24), sl24⟩) (c24 : PySem.W.codeIn K cd24 "wrong_in_bags" = true) (k24 : PySem.W.keepIn K (.ref f24) = true)
    (a25 : PySem.W.nsIn K mainGlobals "gap_pace" = some (some (.ref f25))) (l25 : K.lookup f25 = some ⟨oc25, od25, .func (PySem.W.fnOf "gap_pace" "gap_pace" (defArgs s_gap_pace) (defBody s_gap_pace) (defScope s_gap_pace) .none kV25 dc25 pm25 an25 cd25 ct25), sl25⟩) (c25 : PySem.W.codeIn K cd25 "gap_pace" = true) (k25 : PySem.W.keepIn K (.ref f25) = true)
    (a26 : PySem.W.nsIn K mainGlobals "gap_paces" = some (some (.ref f26))) (l26 : K.lookup f26 = some ⟨oc26, od26, .func (PySem.W.fnOf "gap_paces" "gap_paces" (defArgs s_gap_paces) (defBody s_gap_paces) (defScope s_gap_paces) .none kV26 dc26 pm26 an26 cd26 ct26), sl26⟩) (c26 : PySem.W.codeIn K cd26 "gap_paces" = true) (k26 : PySem.W.keepIn K (.ref f26) = true)
    (a27 : PySem.W.nsIn K mainGlobals "pace_by" = some (some (.ref f27))) (l27 : K.lookup f27 = some ⟨oc27, od27, .func (PySem.W.fnOf "pace_by" "pace_by" (defArgs s_pace_by) (defBody s_pace_by) (defScope s_pace_by) .none kV27 dc27 pm27 an27 cd27 ct27), sl27⟩) (c27 : PySem.W.codeIn K cd27 "pace_by" = true) (k27 : PySem.W.keepIn K (.ref f27) = true)
    (a28 : PySem.W.nsIn K mainGlobals "tight_gap_by" = some (some (.ref f28))) (l28 : K.lookup f28 = some ⟨oc28, od28, .func (PySem.W.fnOf "tight_gap_by" "tight_gap_by" (defArgs s_tight_gap_by) (defBody s_tight_gap_by) (defScope s_tight_gap_by) .none kV28 dc28 pm28 an28 cd28 ct28), sl28⟩) (c28 : PySem.W.codeIn K cd28 "tight_gap_by" = true) (k28 : PySem.W.keepIn K (.ref f28) = true)
    (a29 : PySem.W.nsIn K mainGlobals "check_bags" = some (some (.ref f29))) (l29 : K.lookup f29 = some ⟨oc29, od29, .func (PySem.W.fnOf "check_bags" "check_bags" (defArgs s_check_bags) (defBody s_check_bags) (defScope s_check_bags) .none kV29 dc29 pm29 an29 cd29 ct29), sl29⟩) (c29 : PySem.W.codeIn K cd29 "check_bags" = true) (k29 : PySem.W.keepIn K (.ref f29) = true)
    (a30 : PySem.W.nsIn K mainGlobals "pace" = some (some (.ref f30))) (l30 : K.lookup f30 = some ⟨oc30, od30, .func (PySem.W.fnOf "pace" "pace" (defArgs s_pace) (defBody s_pace) (defScope s_pace) .none kV30 dc30 pm30 an30 cd30 ct30), sl30⟩) (c30 : PySem.W.codeIn K cd30 "pace" = true) (k30 : PySem.W.keepIn K (.ref f30) = true)
    (a31 : PySem.W.nsIn K mainGlobals "tight_gap" = some (some (.ref f31))) (l31 : K.lookup f31 = some ⟨oc31, od31, .func (PySem.W.fnOf "tight_gap" "tight_gap" (defArgs s_tight_gap) (defBody s_tight_gap) (defScope s_tight_gap) .none kV31 dc31 pm31 an31 cd31 ct31), sl31⟩) (c31 : PySem.W.codeIn K cd31 "tight_gap" = true) (k31 : PySem.W.keepIn K (.ref f31) = true)
    (a32 : PySem.W.nsIn K mainGlobals "check_tracked" = some (some (.ref f32))) (l32 : K.lookup f32 = some ⟨oc32, od32, .func (PySem.W.fnOf "check_tracked" "check_tracked" (defArgs s_check_tracked) (defBody s_check_tracked) (defScope s_check_tracked) .none kV32 dc32 pm32 an32 cd32 ct32), sl32⟩) (c32 : PySem.W.codeIn K cd32 "check_tracked" = true) (k32 : PySem.W.keepIn K (.ref f32) = true)
    (a33 : PySem.W.nsIn K mainGlobals "is_row" = some (some (.ref f33))) (l33 : K.lookup f33 = some ⟨oc33, od33, .func (PySem.W.fnOf "is_row" "is_row" (defArgs s_is_row) (defBody s_is_row) (defScope s_is_row) .none kV33 dc33 pm33 an33 cd33 ct33), sl33⟩) (c33 : PySem.W.codeIn K cd33 "is_row" = true) (k33 : PySem.W.keepIn K (.ref f33) = true)
    (a34 : PySem.W.nsIn K mainGlobals "_law_pool" = some (some (.ref f34))) (l34 : K.lookup f34 = some ⟨oc34, od34, .func (PySem.W.fnOf "_law_pool" "_law_pool" (defArgs s__law_pool) (defBody s__law_pool) (defScope s__law_pool) .none kV34 dc34 pm34 an34 cd34 ct34), sl34⟩) (c34 : PySem.W.codeIn K cd34 "_law_pool" = true) (k34 : PySem.W.keepIn K (.ref f34) = true)
    (a35 : PySem.W.nsIn K mainGlobals "_law_draw" = some (some (.ref f35))) (l35 : K.lookup f35 = some ⟨oc35, od35, .func (PySem.W.fnOf "_law_draw" "_law_draw" (defArgs s__law_draw) (defBody s__law_draw) (defScope s__law_draw) .none kV35 dc35 pm35 an35 cd35 ct35), sl35⟩) (c35 : PySem.W.codeIn K cd35 "_law_draw" = true) (k35 : PySem.W.keepIn K (.ref f35) = true)
    (a36 : PySem.W.nsIn K mainGlobals "_law_pick" = some (some (.ref f36))) (l36 : K.lookup f36 = some ⟨oc36, od36, .func (PySem.W.fnOf "_law_pick" "_law_pick" (defArgs s__law_pick) (defBody s__law_pick) (defScope s__law_pick) .none kV36 dc36 pm36 an36 cd36 ct36), sl36⟩) (c36 : PySem.W.codeIn K cd36 "_law_pick" = true) (k36 : PySem.W.keepIn K (.ref f36) = true)
    (a37 : PySem.W.nsIn K mainGlobals "_law_way" = some (some (.ref f37))) (l37 : K.lookup f37 = some ⟨oc37, od37, .func (PySem.W.fnOf "_law_way" "_law_way" (defArgs s__law_way) (defBody s__law_way) (defScope s__law_way) .none kV37 dc37 pm37 an37 cd37 ct37), sl37⟩) (c37 : PySem.W.codeIn K cd37 "_law_way" = true) (k37 : PySem.W.keepIn K (.ref f37) = true)
    (a38 : PySem.W.nsIn K mainGlobals "_law_steps" = some (some (.ref f38))) (l38 : K.lookup f38 = some ⟨oc38, od38, .func (PySem.W.fnOf "_law_steps" "_law_steps" (defArgs s__law_steps) (defBody s__law_steps) (defScope s__law_steps) .none kV38 dc38 pm38 an38 cd38 ct38), sl38⟩) (c38 : PySem.W.codeIn K cd38 "_law_steps" = true) (k38 : PySem.W.keepIn K (.ref f38) = true)
    (a39 : PySem.W.nsIn K mainGlobals "_law_drawn_row" = some (some (.ref f39))) (l39 : K.lookup f39 = some ⟨oc39, od39, .func (PySem.W.fnOf "_law_drawn_row" "_law_drawn_row" (defArgs s__law_drawn_row) (defBody s__law_drawn_row) (defScope s__law_drawn_row) .none kV39 dc39 pm39 an39 cd39 ct39), sl39⟩) (c39 : PySem.W.codeIn K cd39 "_law_drawn_row" = true) (k39 : PySem.W.keepIn K (.ref f39) = true)
    (a40 : PySem.W.nsIn K mainGlobals "_law_drawn_bag" = some (some (.ref f40))) (l40 : K.lookup f40 = some ⟨oc40, od40, .func (PySem.W.fnOf "_law_drawn_bag" "_law_drawn_bag" (defArgs s__law_drawn_bag) (defBody s__law_drawn_bag) (defScope s__law_drawn_bag) .none kV40 dc40 pm40 an40 cd40 ct40), sl40⟩) (c40 : PySem.W.codeIn K cd40 "_law_drawn_bag" = true) (k40 : PySem.W.keepIn K (.ref f40) = true)
    (a41 : PySem.W.nsIn K mainGlobals "_law_paces" = some (some (.ref f41))) (l41 : K.lookup f41 = some ⟨oc41, od41, .func (PySem.W.fnOf "_law_paces" "_law_paces" (defArgs s__law_paces) (defBody s__law_paces) (defScope s__law_paces) .none kV41 dc41 pm41 an41 cd41 ct41), sl41⟩) (c41 : PySem.W.codeIn K cd41 "_law_paces" = true) (k41 : PySem.W.keepIn K (.ref f41) = true)
    (a42 : PySem.W.nsIn K mainGlobals "_law_bags_right" = some (some (.ref f42))) (l42 : K.lookup f42 = some ⟨oc42, od42, .func (PySem.W.fnOf "_law_bags_right" "_law_bags_right" (defArgs s__law_bags_right) (defBody s__law_bags_right) (defScope s__law_bags_right) .none kV42 dc42 pm42 an42 cd42 ct42), sl42⟩) (c42 : PySem.W.codeIn K cd42 "_law_bags_right" = true) (k42 : PySem.W.keepIn K (.ref f42) = true)
    (a43 : PySem.W.nsIn K mainGlobals "_law_right" = some (some (.ref f43))) (l43 : K.lookup f43 = some ⟨oc43, od43, .func (PySem.W.fnOf "_law_right" "_law_right" (defArgs s__law_right) (defBody s__law_right) (defScope s__law_right) .none kV43 dc43 pm43 an43 cd43 ct43), sl43⟩) (c43 : PySem.W.codeIn K cd43 "_law_right" = true) (k43 : PySem.W.keepIn K (.ref f43) = true)
    (a44 : PySem.W.nsIn K mainGlobals "law" = some (some (.ref f44))) (l44 : K.lookup f44 = some ⟨oc44, od44, .func (PySem.W.fnOf "law" "law" (defArgs s_law) (defBody s_law) (defScope s_law) .none kV44 dc44 pm44 an44 cd44 ct44), sl44⟩) (c44 : PySem.W.codeIn K cd44 "law" = true) (k44 : PySem.W.keepIn K (.ref f44) = true)
    {C_InvalidBag I_InvalidBag : Addr} {p0_InvalidBag p1_InvalidBag p2_InvalidBag p3_InvalidBag p4_InvalidBag p5_InvalidBag : Pos} {nm_InvalidBag qn_InvalidBag qi_InvalidBag : Str} {N_InvalidBag : Addr} {bs_InvalidBag bm_InvalidBag sub_InvalidBag : List Value} {sn_InvalidBag : List Str} {ab_InvalidBag : Bool} {col_InvalidBag : Option Bool} {dd_InvalidBag od_InvalidBag an_InvalidBag : Option Addr} {m0_InvalidBag m1_InvalidBag m2_InvalidBag m3_InvalidBag m5_InvalidBag : Option Value} {oc_InvalidBag doc_InvalidBag pm_InvalidBag cdv_InvalidBag ct_InvalidBag : Value} {osl_InvalidBag : Array (Option Value)}
    (ea_InvalidBag : PySem.W.nsIn K mainGlobals "InvalidBag" = some (some (.ref C_InvalidBag))) (eb_InvalidBag : K.lookup C_InvalidBag = some (excClassObj nm_InvalidBag qn_InvalidBag C_InvalidBag N_InvalidBag bs_InvalidBag bm_InvalidBag true sn_InvalidBag sub_InvalidBag ab_InvalidBag col_InvalidBag dd_InvalidBag m0_InvalidBag m1_InvalidBag m2_InvalidBag m3_InvalidBag m5_InvalidBag "ValueError.__new__"))
    (ec_InvalidBag : PySem.W.findIn K (.ref C_InvalidBag) "__init__" = some (some (.ref I_InvalidBag)))
    (ed_InvalidBag : K.lookup I_InvalidBag = some ⟨oc_InvalidBag, od_InvalidBag, .func (PySem.W.fnOf "__init__" qi_InvalidBag (PySem.GX.iA "index" p0_InvalidBag p1_InvalidBag) (PySem.GX.iB "index" p2_InvalidBag p3_InvalidBag p4_InvalidBag p5_InvalidBag) (PySem.GX.iS "index") .none .none doc_InvalidBag pm_InvalidBag an_InvalidBag cdv_InvalidBag ct_InvalidBag), osl_InvalidBag⟩) (ee_InvalidBag : PySem.W.codeIn K cdv_InvalidBag qi_InvalidBag = true)
    (ef_InvalidBag : PySem.W.findIn K (.ref C_InvalidBag) "__setattr__" = some (some (.builtin "object.__setattr__"))) (eg_InvalidBag : PySem.W.findIn K (.ref C_InvalidBag) "index" = some none) (eh_InvalidBag : PySem.W.typeIn K (.ref I_InvalidBag) = some (.type "function")) (ei_InvalidBag : PySem.W.keepIn K (.ref C_InvalidBag) = true) (ej_InvalidBag : PySem.W.subIn K (.ref C_InvalidBag) (.type "BaseException") = some true) (ek_InvalidBag : PySem.W.typeIn K (.ref C_InvalidBag) = some (.type "type"))
    {C_InvalidBags I_InvalidBags : Addr} {p0_InvalidBags p1_InvalidBags p2_InvalidBags p3_InvalidBags p4_InvalidBags p5_InvalidBags : Pos} {nm_InvalidBags qn_InvalidBags qi_InvalidBags : Str} {N_InvalidBags : Addr} {bs_InvalidBags bm_InvalidBags sub_InvalidBags : List Value} {sn_InvalidBags : List Str} {ab_InvalidBags : Bool} {col_InvalidBags : Option Bool} {dd_InvalidBags od_InvalidBags an_InvalidBags : Option Addr} {m0_InvalidBags m1_InvalidBags m2_InvalidBags m3_InvalidBags m5_InvalidBags : Option Value} {oc_InvalidBags doc_InvalidBags pm_InvalidBags cdv_InvalidBags ct_InvalidBags : Value} {osl_InvalidBags : Array (Option Value)}
    (ea_InvalidBags : PySem.W.nsIn K mainGlobals "InvalidBags" = some (some (.ref C_InvalidBags))) (eb_InvalidBags : K.lookup C_InvalidBags = some (excClassObj nm_InvalidBags qn_InvalidBags C_InvalidBags N_InvalidBags bs_InvalidBags bm_InvalidBags true sn_InvalidBags sub_InvalidBags ab_InvalidBags col_InvalidBags dd_InvalidBags m0_InvalidBags m1_InvalidBags m2_InvalidBags m3_InvalidBags m5_InvalidBags "ValueError.__new__"))
    (ec_InvalidBags : PySem.W.findIn K (.ref C_InvalidBags) "__init__" = some (some (.ref I_InvalidBags)))
    (ed_InvalidBags : K.lookup I_InvalidBags = some ⟨oc_InvalidBags, od_InvalidBags, .func (PySem.W.fnOf "__init__" qi_InvalidBags (PySem.GX.iA "index" p0_InvalidBags p1_InvalidBags) (PySem.GX.iB "index" p2_InvalidBags p3_InvalidBags p4_InvalidBags p5_InvalidBags) (PySem.GX.iS "index") .none .none doc_InvalidBags pm_InvalidBags an_InvalidBags cdv_InvalidBags ct_InvalidBags), osl_InvalidBags⟩) (ee_InvalidBags : PySem.W.codeIn K cdv_InvalidBags qi_InvalidBags = true)
    (ef_InvalidBags : PySem.W.findIn K (.ref C_InvalidBags) "__setattr__" = some (some (.builtin "object.__setattr__"))) (eg_InvalidBags : PySem.W.findIn K (.ref C_InvalidBags) "index" = some none) (eh_InvalidBags : PySem.W.typeIn K (.ref I_InvalidBags) = some (.type "function")) (ei_InvalidBags : PySem.W.keepIn K (.ref C_InvalidBags) = true) (ej_InvalidBags : PySem.W.subIn K (.ref C_InvalidBags) (.type "BaseException") = some true) (ek_InvalidBags : PySem.W.typeIn K (.ref C_InvalidBags) = some (.type "type"))
    {C_InvalidNumber I_InvalidNumber : Addr} {p0_InvalidNumber p1_InvalidNumber p2_InvalidNumber p3_InvalidNumber p4_InvalidNumber p5_InvalidNumber : Pos} {nm_InvalidNumber qn_InvalidNumber qi_InvalidNumber : Str} {N_InvalidNumber : Addr} {bs_InvalidNumber bm_InvalidNumber sub_InvalidNumber : List Value} {sn_InvalidNumber : List Str} {ab_InvalidNumber : Bool} {col_InvalidNumber : Option Bool} {dd_InvalidNumber od_InvalidNumber an_InvalidNumber : Option Addr} {m0_InvalidNumber m1_InvalidNumber m2_InvalidNumber m3_InvalidNumber m5_InvalidNumber : Option Value} {oc_InvalidNumber doc_InvalidNumber pm_InvalidNumber cdv_InvalidNumber ct_InvalidNumber : Value} {osl_InvalidNumber : Array (Option Value)}
    (ea_InvalidNumber : PySem.W.nsIn K mainGlobals "InvalidNumber" = some (some (.ref C_InvalidNumber))) (eb_InvalidNumber : K.lookup C_InvalidNumber = some (excClassObj nm_InvalidNumber qn_InvalidNumber C_InvalidNumber N_InvalidNumber bs_InvalidNumber bm_InvalidNumber true sn_InvalidNumber sub_InvalidNumber ab_InvalidNumber col_InvalidNumber dd_InvalidNumber m0_InvalidNumber m1_InvalidNumber m2_InvalidNumber m3_InvalidNumber m5_InvalidNumber "ValueError.__new__"))
    (ec_InvalidNumber : PySem.W.findIn K (.ref C_InvalidNumber) "__init__" = some (some (.ref I_InvalidNumber)))
    (ed_InvalidNumber : K.lookup I_InvalidNumber = some ⟨oc_InvalidNumber, od_InvalidNumber, .func (PySem.W.fnOf "__init__" qi_InvalidNumber (PySem.GX.iA "given" p0_InvalidNumber p1_InvalidNumber) (PySem.GX.iB "given" p2_InvalidNumber p3_InvalidNumber p4_InvalidNumber p5_InvalidNumber) (PySem.GX.iS "given") .none .none doc_InvalidNumber pm_InvalidNumber an_InvalidNumber cdv_InvalidNumber ct_InvalidNumber), osl_InvalidNumber⟩) (ee_InvalidNumber : PySem.W.codeIn K cdv_InvalidNumber qi_InvalidNumber = true)
    (ef_InvalidNumber : PySem.W.findIn K (.ref C_InvalidNumber) "__setattr__" = some (some (.builtin "object.__setattr__"))) (eg_InvalidNumber : PySem.W.findIn K (.ref C_InvalidNumber) "given" = some none) (eh_InvalidNumber : PySem.W.typeIn K (.ref I_InvalidNumber) = some (.type "function")) (ei_InvalidNumber : PySem.W.keepIn K (.ref C_InvalidNumber) = true) (ej_InvalidNumber : PySem.W.subIn K (.ref C_InvalidNumber) (.type "BaseException") = some true) (ek_InvalidNumber : PySem.W.typeIn K (.ref C_InvalidNumber) = some (.type "type"))
    {C_InvalidTrack I_InvalidTrack : Addr} {p0_InvalidTrack p1_InvalidTrack p2_InvalidTrack p3_InvalidTrack p4_InvalidTrack p5_InvalidTrack : Pos} {nm_InvalidTrack qn_InvalidTrack qi_InvalidTrack : Str} {N_InvalidTrack : Addr} {bs_InvalidTrack bm_InvalidTrack sub_InvalidTrack : List Value} {sn_InvalidTrack : List Str} {ab_InvalidTrack : Bool} {col_InvalidTrack : Option Bool} {dd_InvalidTrack od_InvalidTrack an_InvalidTrack : Option Addr} {m0_InvalidTrack m1_InvalidTrack m2_InvalidTrack m3_InvalidTrack m5_InvalidTrack : Option Value} {oc_InvalidTrack doc_InvalidTrack pm_InvalidTrack cdv_InvalidTrack ct_InvalidTrack : Value} {osl_InvalidTrack : Array (Option Value)}
    (ea_InvalidTrack : PySem.W.nsIn K mainGlobals "InvalidTrack" = some (some (.ref C_InvalidTrack))) (eb_InvalidTrack : K.lookup C_InvalidTrack = some (excClassObj nm_InvalidTrack qn_InvalidTrack C_InvalidTrack N_InvalidTrack bs_InvalidTrack bm_InvalidTrack true sn_InvalidTrack sub_InvalidTrack ab_InvalidTrack col_InvalidTrack dd_InvalidTrack m0_InvalidTrack m1_InvalidTrack m2_InvalidTrack m3_InvalidTrack m5_InvalidTrack "ValueError.__new__"))
    (ec_InvalidTrack : PySem.W.findIn K (.ref C_InvalidTrack) "__init__" = some (some (.ref I_InvalidTrack)))
    (ed_InvalidTrack : K.lookup I_InvalidTrack = some ⟨oc_InvalidTrack, od_InvalidTrack, .func (PySem.W.fnOf "__init__" qi_InvalidTrack (PySem.GX.iA "given" p0_InvalidTrack p1_InvalidTrack) (PySem.GX.iB "given" p2_InvalidTrack p3_InvalidTrack p4_InvalidTrack p5_InvalidTrack) (PySem.GX.iS "given") .none .none doc_InvalidTrack pm_InvalidTrack an_InvalidTrack cdv_InvalidTrack ct_InvalidTrack), osl_InvalidTrack⟩) (ee_InvalidTrack : PySem.W.codeIn K cdv_InvalidTrack qi_InvalidTrack = true)
    (ef_InvalidTrack : PySem.W.findIn K (.ref C_InvalidTrack) "__setattr__" = some (some (.builtin "object.__setattr__"))) (eg_InvalidTrack : PySem.W.findIn K (.ref C_InvalidTrack) "given" = some none) (eh_InvalidTrack : PySem.W.typeIn K (.ref I_InvalidTrack) = some (.type "function")) (ei_InvalidTrack : PySem.W.keepIn K (.ref C_InvalidTrack) = true) (ej_InvalidTrack : PySem.W.subIn K (.ref C_InvalidTrack) (.type "BaseException") = some true) (ek_InvalidTrack : PySem.W.typeIn K (.ref C_InvalidTrack) = some (.type "type"))
    (er_InvalidBag : PySem.HandSPX.refsVE bm_InvalidBag = true)
    (er_InvalidBags : PySem.HandSPX.refsVE bm_InvalidBags = true)
    (er_InvalidNumber : PySem.HandSPX.refsVE bm_InvalidNumber = true)
    (er_InvalidTrack : PySem.HandSPX.refsVE bm_InvalidTrack = true)
    (z_list : PySem.W.nsIn K mainGlobals "list" = some none)
    (z_sum : PySem.W.nsIn K mainGlobals "sum" = some none)
    (z_len : PySem.W.nsIn K mainGlobals "len" = some none)
    (z_divmod : PySem.W.nsIn K mainGlobals "divmod" = some none)
    (z_range : PySem.W.nsIn K mainGlobals "range" = some none)
    (z_isinstance : PySem.W.nsIn K mainGlobals "isinstance" = some none)
    (z_int : PySem.W.nsIn K mainGlobals "int" = some none)
    (z_bool : PySem.W.nsIn K mainGlobals "bool" = some none)
    (z_tuple : PySem.W.nsIn K mainGlobals "tuple" = some none)
    (z_MOST_MATS : PySem.W.nsIn K mainGlobals "MOST_MATS" = some (some (.int 8 tk_MOST_MATS)))
    (z_all : PySem.W.nsIn K mainGlobals "all" = some none)
    (z_MOST_MARKS : PySem.W.nsIn K mainGlobals "MOST_MARKS" = some (some (.int 30 tk_MOST_MARKS)))
    (z_enumerate : PySem.W.nsIn K mainGlobals "enumerate" = some none)
    (z_MOST_RUNNERS : PySem.W.nsIn K mainGlobals "MOST_RUNNERS" = some (some (.int 6 tk_MOST_RUNNERS)))
    (z_min : PySem.W.nsIn K mainGlobals "min" = some none)
    (z_abs : PySem.W.nsIn K mainGlobals "abs" = some none)
    (z_sorted : PySem.W.nsIn K mainGlobals "sorted" = some none)
    (z_repr : PySem.W.nsIn K mainGlobals "repr" = some none)
    (z_max : PySem.W.nsIn K mainGlobals "max" = some none)
    : ∃ fd : FuncData, (∀ (s : Shared) (v : Value), BindsTo s fd ⟨[v], []⟩ [("script", v)]) ∧ ∀ base : Heap, K.In base → base.Ns mainGlobals mg → FnG l.prog w K mg base 13 fa fd ["script"] (spG K F_law) := by
  have e := hfa.symm.trans (PySem.W.mg_of X G a44)
  cases e
  have T : Bt mg := ⟨PySem.W.mg_none_of X G z_list, PySem.W.mg_none_of X G z_sum, PySem.W.mg_none_of X G z_len, PySem.W.mg_none_of X G z_divmod, PySem.W.mg_none_of X G z_range, PySem.W.mg_none_of X G z_isinstance, PySem.W.mg_none_of X G z_int, PySem.W.mg_none_of X G z_bool, PySem.W.mg_none_of X G z_tuple, ⟨_, PySem.W.mg_of X G z_MOST_MATS⟩, PySem.W.mg_none_of X G z_all, ⟨_, PySem.W.mg_of X G z_MOST_MARKS⟩, PySem.W.mg_none_of X G z_enumerate, ⟨_, PySem.W.mg_of X G z_MOST_RUNNERS⟩, PySem.W.mg_none_of X G z_min, PySem.W.mg_none_of X G z_abs, PySem.W.mg_none_of X G z_sorted, PySem.W.mg_none_of X G z_repr, PySem.W.mg_none_of X G z_max⟩
  have NS : ∀ x v, PySem.W.nsIn K mainGlobals x = some (some v) → mg x = some v := fun x v e => PySem.W.mg_of X G e
  have XX : Xt K mg := { ns := NS, r_InvalidBag := ⟨C_InvalidBag, I_InvalidBag, ⟨by decide, NS _ _ ea_InvalidBag, ea_InvalidBag, ⟨_, _, _, _, _, _, _, _, _, _, _, _, _, _, _, eb_InvalidBag, er_InvalidBag⟩, ef_InvalidBag, eg_InvalidBag, ec_InvalidBag, eh_InvalidBag, ei_InvalidBag, ej_InvalidBag, ek_InvalidBag, ⟨_, _, _, _, _, _, _, _, _, _, _, _, _, _, _, ed_InvalidBag, ee_InvalidBag⟩⟩⟩, r_InvalidBags := ⟨C_InvalidBags, I_InvalidBags, ⟨by decide, NS _ _ ea_InvalidBags, ea_InvalidBags, ⟨_, _, _, _, _, _, _, _, _, _, _, _, _, _, _, eb_InvalidBags, er_InvalidBags⟩, ef_InvalidBags, eg_InvalidBags, ec_InvalidBags, eh_InvalidBags, ei_InvalidBags, ej_InvalidBags, ek_InvalidBags, ⟨_, _, _, _, _, _, _, _, _, _, _, _, _, _, _, ed_InvalidBags, ee_InvalidBags⟩⟩⟩, r_InvalidNumber := ⟨C_InvalidNumber, I_InvalidNumber, ⟨by decide, NS _ _ ea_InvalidNumber, ea_InvalidNumber, ⟨_, _, _, _, _, _, _, _, _, _, _, _, _, _, _, eb_InvalidNumber, er_InvalidNumber⟩, ef_InvalidNumber, eg_InvalidNumber, ec_InvalidNumber, eh_InvalidNumber, ei_InvalidNumber, ej_InvalidNumber, ek_InvalidNumber, ⟨_, _, _, _, _, _, _, _, _, _, _, _, _, _, _, ed_InvalidNumber, ee_InvalidNumber⟩⟩⟩, r_InvalidTrack := ⟨C_InvalidTrack, I_InvalidTrack, ⟨by decide, NS _ _ ea_InvalidTrack, ea_InvalidTrack, ⟨_, _, _, _, _, _, _, _, _, _, _, _, _, _, _, eb_InvalidTrack, er_InvalidTrack⟩, ef_InvalidTrack, eg_InvalidTrack, ec_InvalidTrack, eh_InvalidTrack, ei_InvalidTrack, ej_InvalidTrack, ek_InvalidTrack, ⟨_, _, _, _, _, _, _, _, _, _, _, _, _, _, _, ed_InvalidTrack, ee_InvalidTrack⟩⟩⟩ }
  refine law_fd hfa (fun_mk (st := s_law) l44 c44 k44) (fun s v => .of_eq rfl) fun base _ _ => ?_
  have c_round_by := ok_round_by (P := l.prog) (w := w) (base := base) T XX ⟨_, _, PySem.W.mg_of X G a0, fun_mk l0 c0 k0⟩
  have c_sectors_from := ok_sectors_from (P := l.prog) (w := w) (base := base) T XX ⟨_, _, PySem.W.mg_of X G a1, fun_mk l1 c1 k1⟩
  have c_reach_by := ok_reach_by (P := l.prog) (w := w) (base := base) T XX ⟨_, _, PySem.W.mg_of X G a2, fun_mk l2 c2 k2⟩ c_round_by c_sectors_from
  have c_steps_by := ok_steps_by (P := l.prog) (w := w) (base := base) T XX ⟨_, _, PySem.W.mg_of X G a3, fun_mk l3 c3 k3⟩
  have c_way_by := ok_way_by (P := l.prog) (w := w) (base := base) T XX ⟨_, _, PySem.W.mg_of X G a4, fun_mk l4 c4 k4⟩ c_reach_by c_steps_by
  have c_can_follow_by := ok_can_follow_by (P := l.prog) (w := w) (base := base) T XX ⟨_, _, PySem.W.mg_of X G a5, fun_mk l5 c5 k5⟩ c_way_by
  have c_wrong_marks_by := ok_wrong_marks_by (P := l.prog) (w := w) (base := base) T XX ⟨_, _, PySem.W.mg_of X G a6, fun_mk l6 c6 k6⟩ c_can_follow_by
  have c_is_row_by := ok_is_row_by (P := l.prog) (w := w) (base := base) T XX ⟨_, _, PySem.W.mg_of X G a7, fun_mk l7 c7 k7⟩ c_wrong_marks_by
  have c_is_whole := ok_is_whole (P := l.prog) (w := w) (base := base) T XX ⟨_, _, PySem.W.mg_of X G a8, fun_mk l8 c8 k8⟩
  have c_is_between := ok_is_between (P := l.prog) (w := w) (base := base) T XX ⟨_, _, PySem.W.mg_of X G a9, fun_mk l9 c9 k9⟩ c_is_whole
  have c_is_up_to := ok_is_up_to (P := l.prog) (w := w) (base := base) T XX ⟨_, _, PySem.W.mg_of X G a10, fun_mk l10 c10 k10⟩ c_is_between
  have c_is_from := ok_is_from (P := l.prog) (w := w) (base := base) T XX ⟨_, _, PySem.W.mg_of X G a11, fun_mk l11 c11 k11⟩ c_is_whole
  have c_is_tuple_up_to := ok_is_tuple_up_to (P := l.prog) (w := w) (base := base) T XX ⟨_, _, PySem.W.mg_of X G a12, fun_mk l12 c12 k12⟩
  have c_is_tuple_of := ok_is_tuple_of (P := l.prog) (w := w) (base := base) T XX ⟨_, _, PySem.W.mg_of X G a13, fun_mk l13 c13 k13⟩ c_is_tuple_up_to
  have c_is_pair := ok_is_pair (P := l.prog) (w := w) (base := base) T XX ⟨_, _, PySem.W.mg_of X G a14, fun_mk l14 c14 k14⟩ c_is_tuple_of
  have c_is_track_of := ok_is_track_of (P := l.prog) (w := w) (base := base) T XX ⟨_, _, PySem.W.mg_of X G a15, fun_mk l15 c15 k15⟩ c_is_tuple_up_to c_is_from
  have c_is_mat_of := ok_is_mat_of (P := l.prog) (w := w) (base := base) T XX ⟨_, _, PySem.W.mg_of X G a16, fun_mk l16 c16 k16⟩ c_is_up_to
  have c_is_mark_of := ok_is_mark_of (P := l.prog) (w := w) (base := base) T XX ⟨_, _, PySem.W.mg_of X G a17, fun_mk l17 c17 k17⟩ c_is_pair c_is_from c_is_mat_of
  have c_wrong_in_bag := ok_wrong_in_bag (P := l.prog) (w := w) (base := base) T XX ⟨_, _, PySem.W.mg_of X G a18, fun_mk l18 c18 k18⟩ c_is_tuple_up_to c_is_mark_of
  have c_is_bag_of := ok_is_bag_of (P := l.prog) (w := w) (base := base) T XX ⟨_, _, PySem.W.mg_of X G a19, fun_mk l19 c19 k19⟩ c_wrong_in_bag
  have c_check_track := ok_check_track (P := l.prog) (w := w) (base := base) T XX ⟨_, _, PySem.W.mg_of X G a20, fun_mk l20 c20 k20⟩ c_is_track_of
  have c_check_bag := ok_check_bag (P := l.prog) (w := w) (base := base) T XX ⟨_, _, PySem.W.mg_of X G a21, fun_mk l21 c21 k21⟩ c_wrong_in_bag
  have c_is_mat_count := ok_is_mat_count (P := l.prog) (w := w) (base := base) T XX ⟨_, _, PySem.W.mg_of X G a22, fun_mk l22 c22 k22⟩ c_is_between
  have c_even_track := ok_even_track (P := l.prog) (w := w) (base := base) T XX ⟨_, _, PySem.W.mg_of X G a23, fun_mk l23 c23 k23⟩
  have c_wrong_in_bags := ok_wrong_in_bags (P := l.prog) (w := w) (base := base) T XX ⟨_, _, PySem.W.mg_of X G a24, fun_mk l24 c24 k24⟩ c_is_tuple_up_to c_is_bag_of c_even_track
  have c_gap_pace := ok_gap_pace (P := l.prog) (w := w) (base := base) T XX ⟨_, _, PySem.W.mg_of X G a25, fun_mk l25 c25 k25⟩ c_steps_by c_even_track
  have c_gap_paces := ok_gap_paces (P := l.prog) (w := w) (base := base) T XX ⟨_, _, PySem.W.mg_of X G a26, fun_mk l26 c26 k26⟩ c_gap_pace
  have c_pace_by := ok_pace_by (P := l.prog) (w := w) (base := base) T XX ⟨_, _, PySem.W.mg_of X G a27, fun_mk l27 c27 k27⟩ c_gap_paces
  have c_tight_gap_by := ok_tight_gap_by (P := l.prog) (w := w) (base := base) T XX ⟨_, _, PySem.W.mg_of X G a28, fun_mk l28 c28 k28⟩ c_gap_paces
  have c_check_bags := ok_check_bags (P := l.prog) (w := w) (base := base) T XX ⟨_, _, PySem.W.mg_of X G a29, fun_mk l29 c29 k29⟩ c_is_mat_count c_wrong_in_bags
  have c_pace := ok_pace (P := l.prog) (w := w) (base := base) T XX ⟨_, _, PySem.W.mg_of X G a30, fun_mk l30 c30 k30⟩ c_check_bags c_pace_by
  have c_tight_gap := ok_tight_gap (P := l.prog) (w := w) (base := base) T XX ⟨_, _, PySem.W.mg_of X G a31, fun_mk l31 c31 k31⟩ c_check_bags c_tight_gap_by
  have c_check_tracked := ok_check_tracked (P := l.prog) (w := w) (base := base) T XX ⟨_, _, PySem.W.mg_of X G a32, fun_mk l32 c32 k32⟩ c_check_track c_check_bag
  have c_is_row := ok_is_row (P := l.prog) (w := w) (base := base) T XX ⟨_, _, PySem.W.mg_of X G a33, fun_mk l33 c33 k33⟩ c_check_tracked c_is_row_by
  have c__law_pool := ok__law_pool (P := l.prog) (w := w) (base := base) T XX ⟨_, _, PySem.W.mg_of X G a34, fun_mk l34 c34 k34⟩
  have c__law_draw := ok__law_draw (P := l.prog) (w := w) (base := base) T XX ⟨_, _, PySem.W.mg_of X G a35, fun_mk l35 c35 k35⟩
  have c__law_pick := ok__law_pick (P := l.prog) (w := w) (base := base) T XX ⟨_, _, PySem.W.mg_of X G a36, fun_mk l36 c36 k36⟩ c__law_draw
  have c__law_way := ok__law_way (P := l.prog) (w := w) (base := base) T XX ⟨_, _, PySem.W.mg_of X G a37, fun_mk l37 c37 k37⟩
  have c__law_steps := ok__law_steps (P := l.prog) (w := w) (base := base) T XX ⟨_, _, PySem.W.mg_of X G a38, fun_mk l38 c38 k38⟩
  have c__law_drawn_row := ok__law_drawn_row (P := l.prog) (w := w) (base := base) T XX ⟨_, _, PySem.W.mg_of X G a39, fun_mk l39 c39 k39⟩ c__law_pick c__law_draw c__law_way
  have c__law_drawn_bag := ok__law_drawn_bag (P := l.prog) (w := w) (base := base) T XX ⟨_, _, PySem.W.mg_of X G a40, fun_mk l40 c40 k40⟩ c__law_pick c__law_draw
  have c__law_paces := ok__law_paces (P := l.prog) (w := w) (base := base) T XX ⟨_, _, PySem.W.mg_of X G a41, fun_mk l41 c41 k41⟩ c__law_steps
  have c__law_bags_right := ok__law_bags_right (P := l.prog) (w := w) (base := base) T XX ⟨_, _, PySem.W.mg_of X G a42, fun_mk l42 c42 k42⟩ c__law_paces c_pace c_tight_gap c_is_row
  have c__law_right := ok__law_right (P := l.prog) (w := w) (base := base) T XX ⟨_, _, PySem.W.mg_of X G a43, fun_mk l43 c43 k43⟩ c__law_draw c__law_pick c__law_drawn_row c__law_drawn_bag c__law_bags_right c_pace c_tight_gap
  have c_law := ok_law (P := l.prog) (w := w) (base := base) T XX ⟨_, _, PySem.W.mg_of X G a44, fun_mk l44 c44 k44⟩ c__law_right c__law_pool
  exact c_law
end K71
open PySem PySem.W PyProof.Rows
set_option maxRecDepth 100000 in
set_option maxHeartbeats 0 in
theorem PySem.Challenge.cw_lapmats_k71_whole_paces_and_tight_gaps_holds : PySem.Challenge.rw_lapmats_k71_whole_paces_and_tight_gaps.Holds := by
  w_on; o_law; k_head; (case hw => w_witness2)
  k_fill
  refine G.walk_end (l := PySem.Challenge.rw_lapmats_k71_whole_paces_and_tight_gaps) (n := 63) (k := 13) (x := "script") (F := K71.F_law) rfl (by decide) rfl ⟨rfl, by decide, by decide⟩ (fun w h Y => PySem.W.kIn_of Y) ?F K71.law_true
  case F =>
    intro w mg fa h KX G hmg
    refine' K71.all_mk KX G hmg ?a0 ?l0 ?c0 ?k0 ?a1 ?l1 ?c1 ?k1 ?a2 ?l2 ?c2 ?k2 ?a3 ?l3 ?c3 ?k3 ?a4 ?l4 ?c4 ?k4 ?a5 ?l5 ?c5 ?k5 ?a6 ?l6 ?c6 ?k6 ?a7 ?l7 ?c7 ?k7 ?a8 ?l8 ?c8 ?k8 ?a9 ?l9 ?c9 ?k9 ?a10 ?l10 ?c10 ?k10 ?a11 ?l11 ?c11 ?k11 ?a12 ?l12 ?c12 ?k12 ?a13 ?l13 ?c13 ?k13 ?a14 ?l14 ?c14 ?k14 ?a15 ?l15 ?c15 ?k15 ?a16 ?l16 ?c16 ?k16 ?a17 ?l17 ?c17 ?k17 ?a18 ?l18 ?c18 ?k18 ?a19 ?l19 ?c19 ?k19 ?a20 ?l20 ?c20 ?k20 ?a21 ?l21 ?c21 ?k21 ?a22 ?l22 ?c22 ?k22 ?a23 ?l23 ?c23 ?k23 ?a24 ?l24 ?c24 ?k24 ?a25 ?l25 ?c25 ?k25 ?a26 ?l26 ?c26 ?k26 ?a27 ?l27 ?c27 ?k27 ?a28 ?l28 ?c28 ?k28 ?a29 ?l29 ?c29 ?k29 ?a30 ?l30 ?c30 ?k30 ?a31 ?l31 ?c31 ?k31 ?a32 ?l32 ?c32 ?k32 ?a33 ?l33 ?c33 ?k33 ?a34 ?l34 ?c34 ?k34 ?a35 ?l35 ?c35 ?k35 ?a36 ?l36 ?c36 ?k36 ?a37 ?l37 ?c37 ?k37 ?a38 ?l38 ?c38 ?k38 ?a39 ?l39 ?c39 ?k39 ?a40 ?l40 ?c40 ?k40 ?a41 ?l41 ?c41 ?k41 ?a42 ?l42 ?c42 ?k42 ?a43 ?l43 ?c43 ?k43 ?a44 ?l44 ?c44 ?k44 ?ea_InvalidBag ?eb_InvalidBag ?ec_InvalidBag ?ed_InvalidBag ?ee_InvalidBag ?ef_InvalidBag ?eg_InvalidBag ?eh_InvalidBag ?ei_InvalidBag ?ej_InvalidBag ?ek_InvalidBag ?ea_InvalidBags ?eb_InvalidBags ?ec_InvalidBags ?ed_InvalidBags ?ee_InvalidBags ?ef_InvalidBags ?eg_InvalidBags ?eh_InvalidBags ?ei_InvalidBags ?ej_InvalidBags ?ek_InvalidBags ?ea_InvalidNumber ?eb_InvalidNumber ?ec_InvalidNumber ?ed_InvalidNumber ?ee_InvalidNumber ?ef_InvalidNumber ?eg_InvalidNumber ?eh_InvalidNumber ?ei_InvalidNumber ?ej_InvalidNumber ?ek_InvalidNumber ?ea_InvalidTrack ?eb_InvalidTrack ?ec_InvalidTrack ?ed_InvalidTrack ?ee_InvalidTrack ?ef_InvalidTrack ?eg_InvalidTrack ?eh_InvalidTrack ?ei_InvalidTrack ?ej_InvalidTrack ?ek_InvalidTrack ?er_InvalidBag ?er_InvalidBags ?er_InvalidNumber ?er_InvalidTrack ?z_list ?z_sum ?z_len ?z_divmod ?z_range ?z_isinstance ?z_int ?z_bool ?z_tuple ?z_MOST_MATS ?z_all ?z_MOST_MARKS ?z_enumerate ?z_MOST_RUNNERS ?z_min ?z_abs ?z_sorted ?z_repr ?z_max
    (case a0 => k_is)
    (case l0 => k_is)
    (case c0 => k_is)
    (case k0 => k_is)
    (case a1 => k_is)
    (case l1 => k_is)
    (case c1 => k_is)
    (case k1 => k_is)
    (case a2 => k_is)
    (case l2 => k_is)
    (case c2 => k_is)
    (case k2 => k_is)
    (case a3 => k_is)
    (case l3 => k_is)
    (case c3 => k_is)
    (case k3 => k_is)
    (case a4 => k_is)
    (case l4 => k_is)
    (case c4 => k_is)
    (case k4 => k_is)
    (case a5 => k_is)
    (case l5 => k_is)
    (case c5 => k_is)
    (case k5 => k_is)
    (case a6 => k_is)
    (case l6 => k_is)
    (case c6 => k_is)
    (case k6 => k_is)
    (case a7 => k_is)
    (case l7 => k_is)
    (case c7 => k_is)
    (case k7 => k_is)
    (case a8 => k_is)
    (case l8 => k_is)
    (case c8 => k_is)
    (case k8 => k_is)
    (case a9 => k_is)
    (case l9 => k_is)
    (case c9 => k_is)
    (case k9 => k_is)
    (case a10 => k_is)
    (case l10 => k_is)
    (case c10 => k_is)
    (case k10 => k_is)
    (case a11 => k_is)
    (case l11 => k_is)
    (case c11 => k_is)
    (case k11 => k_is)
    (case a12 => k_is)
    (case l12 => k_is)
    (case c12 => k_is)
    (case k12 => k_is)
    (case a13 => k_is)
    (case l13 => k_is)
    (case c13 => k_is)
    (case k13 => k_is)
    (case a14 => k_is)
    (case l14 => k_is)
    (case c14 => k_is)
    (case k14 => k_is)
    (case a15 => k_is)
    (case l15 => k_is)
    (case c15 => k_is)
    (case k15 => k_is)
    (case a16 => k_is)
    (case l16 => k_is)
    (case c16 => k_is)
    (case k16 => k_is)
    (case a17 => k_is)
    (case l17 => k_is)
    (case c17 => k_is)
    (case k17 => k_is)
    (case a18 => k_is)
    (case l18 => k_is)
    (case c18 => k_is)
    (case k18 => k_is)
    (case a19 => k_is)
    (case l19 => k_is)
    (case c19 => k_is)
    (case k19 => k_is)
    (case a20 => k_is)
    (case l20 => k_is)
    (case c20 => k_is)
    (case k20 => k_is)
    (case a21 => k_is)
    (case l21 => k_is)
    (case c21 => k_is)
    (case k21 => k_is)
    (case a22 => k_is)
    (case l22 => k_is)
    (case c22 => k_is)
    (case k22 => k_is)
    (case a23 => k_is)
    (case l23 => k_is)
    (case c23 => k_is)
    (case k23 => k_is)
    (case a24 => k_is)
    (case l24 => k_is)
    (case c24 => k_is)
    (case k24 => k_is)
    (case a25 => k_is)
    (case l25 => k_is)
    (case c25 => k_is)
    (case k25 => k_is)
    (case a26 => k_is)
    (case l26 => k_is)
    (case c26 => k_is)
    (case k26 => k_is)
    (case a27 => k_is)
    (case l27 => k_is)
    (case c27 => k_is)
    (case k27 => k_is)
    (case a28 => k_is)
    (case l28 => k_is)
    (case c28 => k_is)
    (case k28 => k_is)
    (case a29 => k_is)
    (case l29 => k_is)
    (case c29 => k_is)
    (case k29 => k_is)
    (case a30 => k_is)
    (case l30 => k_is)
    (case c30 => k_is)
    (case k30 => k_is)
    (case a31 => k_is)
    (case l31 => k_is)
    (case c31 => k_is)
    (case k31 => k_is)
    (case a32 => k_is)
    (case l32 => k_is)
    (case c32 => k_is)
    (case k32 => k_is)
    (case a33 => k_is)
    (case l33 => k_is)
    (case c33 => k_is)
    (case k33 => k_is)
    (case a34 => k_is)
    (case l34 => k_is)
    (case c34 => k_is)
    (case k34 => k_is)
    (case a35 => k_is)
    (case l35 => k_is)
    (case c35 => k_is)
    (case k35 => k_is)
    (case a36 => k_is)
    (case l36 => k_is)
    (case c36 => k_is)
    (case k36 => k_is)
    (case a37 => k_is)
    (case l37 => k_is)
    (case c37 => k_is)
    (case k37 => k_is)
    (case a38 => k_is)
    (case l38 => k_is)
    (case c38 => k_is)
    (case k38 => k_is)
    (case a39 => k_is)
    (case l39 => k_is)
    (case c39 => k_is)
    (case k39 => k_is)
    (case a40 => k_is)
    (case l40 => k_is)
    (case c40 => k_is)
    (case k40 => k_is)
    (case a41 => k_is)
    (case l41 => k_is)
    (case c41 => k_is)
    (case k41 => k_is)
    (case a42 => k_is)
    (case l42 => k_is)
    (case c42 => k_is)
    (case k42 => k_is)
    (case a43 => k_is)
    (case l43 => k_is)
    (case c43 => k_is)
    (case k43 => k_is)
    (case a44 => k_is)
    (case l44 => k_is)
    (case c44 => k_is)
    (case k44 => k_is)
    (case ea_InvalidBag => k_is)
    (case eb_InvalidBag => k_is)
    (case ec_InvalidBag => k_is)
    (case ed_InvalidBag => k_is)
    (case ee_InvalidBag => k_is)
    (case ef_InvalidBag => k_is)
    (case eg_InvalidBag => k_is)
    (case eh_InvalidBag => k_is)
    (case ei_InvalidBag => k_is)
    (case ej_InvalidBag => k_is)
    (case ek_InvalidBag => k_is)
    (case ea_InvalidBags => k_is)
    (case eb_InvalidBags => k_is)
    (case ec_InvalidBags => k_is)
    (case ed_InvalidBags => k_is)
    (case ee_InvalidBags => k_is)
    (case ef_InvalidBags => k_is)
    (case eg_InvalidBags => k_is)
    (case eh_InvalidBags => k_is)
    (case ei_InvalidBags => k_is)
    (case ej_InvalidBags => k_is)
    (case ek_InvalidBags => k_is)
    (case ea_InvalidNumber => k_is)
    (case eb_InvalidNumber => k_is)
    (case ec_InvalidNumber => k_is)
    (case ed_InvalidNumber => k_is)
    (case ee_InvalidNumber => k_is)
    (case ef_InvalidNumber => k_is)
    (case eg_InvalidNumber => k_is)
    (case eh_InvalidNumber => k_is)
    (case ei_InvalidNumber => k_is)
    (case ej_InvalidNumber => k_is)
    (case ek_InvalidNumber => k_is)
    (case ea_InvalidTrack => k_is)
    (case eb_InvalidTrack => k_is)
    (case ec_InvalidTrack => k_is)
    (case ed_InvalidTrack => k_is)
    (case ee_InvalidTrack => k_is)
    (case ef_InvalidTrack => k_is)
    (case eg_InvalidTrack => k_is)
    (case eh_InvalidTrack => k_is)
    (case ei_InvalidTrack => k_is)
    (case ej_InvalidTrack => k_is)
    (case ek_InvalidTrack => k_is)
    (case er_InvalidBag => decide +kernel)
    (case er_InvalidBags => decide +kernel)
    (case er_InvalidNumber => decide +kernel)
    (case er_InvalidTrack => decide +kernel)
    (case z_list => k_is)
    (case z_sum => k_is)
    (case z_len => k_is)
    (case z_divmod => k_is)
    (case z_range => k_is)
    (case z_isinstance => k_is)
    (case z_int => k_is)
    (case z_bool => k_is)
    (case z_tuple => k_is)
    (case z_MOST_MATS => k_is)
    (case z_all => k_is)
    (case z_MOST_MARKS => k_is)
    (case z_enumerate => k_is)
    (case z_MOST_RUNNERS => k_is)
    (case z_min => k_is)
    (case z_abs => k_is)
    (case z_sorted => k_is)
    (case z_repr => k_is)
    (case z_max => k_is)
