import PyProof.Rows.All
import Wide.All
import OpenK.AllK
import Wide.FinOn
import HandS.ForMost
import HandS.Flow
import HandS.IsInst
import HandS.Wide
import HandS.WideBits
import HandS.TupAny
import HandS.Zip
import HandS.Style
import HandS.Star
import HandS.RaiseMore
import HandS.EndBits
import HandS.Exc
import HandS.WordsExc
import HandS.Defaults
import KE.KDictZip
import PyProof.CollectIter
import PyProof.WalksMore
import PyProof.RulesMatch
import HandS.More
import HandS.DictComp
import HandS.Deep
import HandS.Conv
import HandS.TupMul
import HandS.ReCall
import HandS.Text
import HandS.StrMore
import PyProof.SumAny
import KE.KStateDown
import HandS.Head0
import HandS.Head1
import HandS.Head2
import HandS.HeadEnd
import HandS.HeadHook1
import HandS.HeadHook2
import PySem.Challenge.RW_mendedruns_k03_whole_values_of_expressio
set_option Elab.async false
set_option linter.all false
set_option maxRecDepth 100000
set_option autoImplicit false
set_option maxHeartbeats 4000000
/-! the value layer: data by value (tuples, lists, dicts, instances that nobody changes), and a store of things that are changed -/
namespace VL
open PySem PySem.Spec PyProof.Rows L2

inductive D where
  | non | bl (b : Bool) | int (i : Int) | str (x : Str) | ty (n : String)
  | tup (xs : List D) | lst (xs : List D) | dic (ks : List Key) (vs : List D) | dct (ks : List (List Key)) (vs : List D)
  | obj (c : String) (ns : List Str) (vs : List D)
  | scr (ns : List Int) | ref (n : Nat) | kref (s : String)
inductive Ob where
  | lst (xs : List D)
  | dic (ks : List Key) (vs : List D)
  | dct (ks : List (List Key)) (vs : List D)
  | dlk (ks : List Key) (vs : List D)
  | ins (c : String) (ns : List Str) (vs : List D)
  | dead
abbrev Sto := List Ob
abbrev Lc := List (Option D)
inductive R (a : Type) where
  | ok (x : a) (S : Sto)
  | exc (c : String) (fs : List (Str × D)) (S : Sto)
  | bad
def R.bind {a b : Type} (r : R a) (k : a → Sto → R b) : R b := match r with
  | .ok x S => k x S
  | .exc c fs S => .exc c fs S
  | .bad => .bad
@[simp] theorem R.bind_ok {a b : Type} (x : a) (S : Sto) (k : a → Sto → R b) : (R.ok x S).bind k = k x S := rfl
@[simp] theorem R.bind_exc {a b : Type} (c : String) (fs : List (Str × D)) (S : Sto) (k : a → Sto → R b) : (R.exc c fs S : R a).bind k = .exc c fs S := rfl
@[simp] theorem R.bind_bad {a b : Type} (k : a → Sto → R b) : (R.bad : R a).bind k = .bad := rfl

/-- where the things of the store stand (true: alive), what is in the making, which dicts are locked -/
structure Mp where
  l : List (Addr × Bool)
  o : List Addr
  k : List (Nat × Addr)
def Mp.nil : Mp := ⟨[], [], []⟩
def Un (m : Mp) (a : Addr) : Prop := (∀ n : Nat, m.l[n]? ≠ some (a, true)) ∧ a ∉ m.o
/-- a dict that nobody changes may be locked for ever -/
def Lockable : HO → Prop
  | .dK _ => True
  | .dT _ => True
  | _ => False
def Sm (o : HO) (x : Option HO) : Prop := x = some o ∨ (Lockable o ∧ ∃ od, x = some (.frz od o))
structure Exw (m : Mp) (H : Hp) (m' : Mp) (H' : Hp) : Prop where
  pre : ∀ (n : Nat) (a : Addr) (b : Bool), m.l[n]? = some (a, b) → ∃ b', m'.l[n]? = some (a, b') ∧ (b = false → b' = false)
  own : ∀ a o, H a = some o → Un m a → Un m' a ∧ Sm o (H' a)
/-- J: something that stands besides, and stays -/
structure G where
  K : PySem.W.Frag
  ka : String → Option Addr
  cl : String → Option Addr
  J : Mp → Hp → Prop
  st : ∀ {m : Mp} {H : Hp} {m' : Mp} {H' : Hp}, Exw m H m' H' → J m H → J m' H'
def SqTv (g : G) (m : Mp) (H : Hp) (a : Addr) (xs : List V) : Prop :=
  (H a = some (.tup xs) ∧ Un m a) ∨ ∃ (o : Obj) (its : Array Value) (n : Nat), g.K.lookup a = some o ∧ o.cls = .type "tuple" ∧ o.data = .seq its n ∧ its.size ≤ sizeLine ∧ Vals xs its.toList
theorem SqTv.sq {g : G} {m : Mp} {H : Hp} {a : Addr} {xs : List V} (h : SqTv g m H a xs) : SqT g.K H a xs := by
  rcases h with ⟨h, _⟩ | h
  · exact .inl (.inl h)
  · exact .inr h
def Scr (g : G) (m : Mp) (H : Hp) (a : Addr) (xs : List V) : Prop :=
  ((∃ o, H a = some (.frz o (.lst xs))) ∧ Un m a) ∨ ∃ (o : Obj) (its : Array Value) (n : Nat), g.K.lookup a = some o ∧ o.cls = .type "list" ∧ o.dict = none ∧ o.data = .seq its n ∧ its.size ≤ sizeLine ∧ Vals xs its.toList
theorem Scr.sq {g : G} {m : Mp} {H : Hp} {a : Addr} {xs : List V} (h : Scr g m H a xs) : SqL g.K H a xs := by
  rcases h with ⟨⟨o, h⟩, _⟩ | h
  · exact .inl (.inr ⟨o, h⟩)
  · exact .inr h

mutual
def RV (g : G) (m : Mp) (H : Hp) : D → V → Prop
  | .non, v => v = .non
  | .bl b, v => v = .bl b
  | .int i, v => v = .int i
  | .str x, v => v = .str x
  | .ty n, v => v = .ty n
  | .tup ds, v => ∃ a vs, v = .ref a ∧ SqTv g m H a vs ∧ RVs g m H ds vs
  | .lst ds, v => ∃ a vs, v = .ref a ∧ H a = some (.lst vs) ∧ Un m a ∧ RVs g m H ds vs
  | .dic ks ds, v => ∃ (a : Addr) (kvs : List (Key × V)), v = .ref a ∧ Rd H a (.dK kvs) ∧ Un m a ∧ kvs.map (·.1) = ks ∧ RVs g m H ds (kvs.map (·.2))
  | .dct ks ds, v => ∃ (a : Addr) (kvs : List (List Key × V)), v = .ref a ∧ Rd H a (.dT kvs) ∧ Un m a ∧ kvs.map (·.1) = ks ∧ RVs g m H ds (kvs.map (·.2))
  | .obj c ns ds, v => ∃ (a C dx : Addr) (fs : List (Str × V)), v = .ref a ∧ g.cl c = some C ∧ H a = some (.ins C dx fs) ∧ Un m a ∧ fs.map (·.1) = ns ∧ RVs g m H ds (fs.map (·.2))
  | .scr ns, v => ∃ a, v = .ref a ∧ Scr g m H a (ns.map V.int)
  | .ref n, v => ∃ a b, v = .ref a ∧ m.l[n]? = some (a, b)
  | .kref s, v => ∃ a, v = .ref a ∧ g.ka s = some a
def RVs (g : G) (m : Mp) (H : Hp) : List D → List V → Prop
  | [], vs => vs = []
  | d :: ds, vs => ∃ v r, vs = v :: r ∧ RV g m H d v ∧ RVs g m H ds r
end

structure Exk (m : Mp) (H : Hp) (m' : Mp) (H' : Hp) : Prop extends Exw m H m' H' where
  privk : m'.k = m.k
  keepk : ∀ x ∈ m.k, H' x.2 = H x.2
structure Ext (g : G) (m : Mp) (H : Hp) (m' : Mp) (H' : Hp) : Prop extends Exk m H m' H' where
  priv : m'.o = m.o
  keep : ∀ a ∈ m.o, H' a = H a
theorem Ext.of {g : G} {m : Mp} {H : Hp} {m' : Mp} {H' : Hp} (w : Exw m H m' H') (p : m'.o = m.o) (k : ∀ a ∈ m.o, H' a = H a) (pk : m'.k = m.k) (kk : ∀ x ∈ m.k, H' x.2 = H x.2) : Ext g m H m' H' := ⟨⟨w, pk, kk⟩, p, k⟩
theorem Sm.refl {o : HO} {x : Option HO} (h : x = some o) : Sm o x := .inl h
theorem Sm.trans {o : HO} {x y : Option HO} (h : Sm o x) (k : ∀ u, x = some u → Sm u y) : Sm o y := by
  rcases h with h | ⟨h0, od, h⟩
  · exact k o h
  · rcases k _ h with e | ⟨e0, e⟩
    · exact .inr ⟨h0, od, e⟩
    · exact e0.elim
theorem Sm.of {o : HO} {x : Option HO} (h : Sm o x) (n : ¬ Lockable o) : x = some o := by
  rcases h with h | ⟨h0, _⟩
  · exact h
  · exact absurd h0 n
theorem Sm.rd {u : HO} {H H' : Hp} {a : Addr} (h : ∀ o, H a = some o → Sm o (H' a)) (r : Rd H a u) (hu : Lockable u) : Rd H' a u := by
  rcases r with r | ⟨o, r⟩
  · rcases h _ r with e | ⟨_, od, e⟩
    · exact .inl e
    · exact .inr ⟨od, e⟩
  · exact .inr ⟨o, (h _ r).of fun z => z⟩
theorem Ext.refl {g : G} {m : Mp} {H : Hp} : Ext g m H m H := .of ⟨fun n a b h => ⟨b, h, fun z => z⟩, fun a o h u => ⟨u, .inl h⟩⟩ rfl (fun _ _ => rfl) rfl (fun _ _ => rfl)
theorem Exw.trans {m m1 m2 : Mp} {H H1 H2 : Hp} (a : Exw m H m1 H1) (b : Exw m1 H1 m2 H2) : Exw m H m2 H2 := by
  refine ⟨fun n x k h => ?_, fun x o h u => ?_⟩
  · obtain ⟨k1, e1, f1⟩ := a.pre n x k h
    obtain ⟨k2, e2, f2⟩ := b.pre n x k1 e1
    exact ⟨k2, e2, fun z => f2 (f1 z)⟩
  · obtain ⟨u1, s1⟩ := a.own x o h u
    have s2 : Sm o (H2 x) := s1.trans fun w hw => (b.own x w hw u1).2
    rcases s1 with e | ⟨_, od, e⟩
    · exact ⟨(b.own x _ e u1).1, s2⟩
    · exact ⟨(b.own x _ e u1).1, s2⟩
theorem Ext.trans {g : G} {m m1 m2 : Mp} {H H1 H2 : Hp} (a : Ext g m H m1 H1) (b : Ext g m1 H1 m2 H2) : Ext g m H m2 H2 :=
  .of (a.toExw.trans b.toExw) (b.priv.trans a.priv) (fun x hx => (b.keep x (by rw [a.priv]; exact hx)).trans (a.keep x hx)) (b.privk.trans a.privk) (fun x hx => (b.keepk x (by rw [a.privk]; exact hx)).trans (a.keepk x hx))
theorem Exk.trans {m m1 m2 : Mp} {H H1 H2 : Hp} (a : Exk m H m1 H1) (b : Exk m1 H1 m2 H2) : Exk m H m2 H2 :=
  ⟨a.toExw.trans b.toExw, b.privk.trans a.privk, fun x hx => (b.keepk x (by rw [a.privk]; exact hx)).trans (a.keepk x hx)⟩
theorem Exw.get {m m' : Mp} {H H' : Hp} (e : Exw m H m' H') {n : Nat} {a : Addr} {b : Bool} (h : m.l[n]? = some (a, b)) : ∃ b', m'.l[n]? = some (a, b') := let ⟨b', h1, _⟩ := e.pre n a b h; ⟨b', h1⟩
theorem Exw.tupv {g : G} {m m' : Mp} {H H' : Hp} (e : Exw m H m' H') {a : Addr} {xs : List V} (h : SqTv g m H a xs) : SqTv g m' H' a xs := by
  rcases h with ⟨h, u⟩ | h
  · obtain ⟨u1, s⟩ := e.own a _ h u
    exact .inl ⟨s.of fun z => z, u1⟩
  · exact .inr h
theorem Exw.scr {g : G} {m m' : Mp} {H H' : Hp} (e : Exw m H m' H') {a : Addr} {xs : List V} (h : Scr g m H a xs) : Scr g m' H' a xs := by
  rcases h with ⟨⟨o, h⟩, u⟩ | h
  · obtain ⟨u1, s⟩ := e.own a _ h u
    exact .inl ⟨⟨o, s.of fun z => z⟩, u1⟩
  · exact .inr h
theorem Exw.rd {m m' : Mp} {H H' : Hp} (e : Exw m H m' H') {a : Addr} {o : HO} (h : Rd H a o) (u : Un m a) (hl : Lockable o) : Rd H' a o ∧ Un m' a := by
  refine ⟨Sm.rd (fun o h => (e.own a o h u).2) h hl, ?_⟩
  rcases h with h | ⟨od, h⟩
  · exact (e.own a _ h u).1
  · exact (e.own a _ h u).1
mutual
theorem RV.extw {g : G} {m m' : Mp} {H H' : Hp} (e : Exw m H m' H') : ∀ {d : D} {v : V}, RV g m H d v → RV g m' H' d v
  | .non, _, h => by unfold RV at h ⊢; exact h
  | .bl b, _, h => by unfold RV at h ⊢; exact h
  | .int i, _, h => by unfold RV at h ⊢; exact h
  | .str x, _, h => by unfold RV at h ⊢; exact h
  | .ty n, _, h => by unfold RV at h ⊢; exact h
  | .tup ds, v, h => by
    unfold RV at h ⊢
    obtain ⟨a, vs, rfl, h1, h2⟩ := h
    exact ⟨a, vs, rfl, e.tupv h1, RVs.extw e h2⟩
  | .lst ds, v, h => by
    unfold RV at h ⊢
    obtain ⟨a, vs, rfl, h1, u, h2⟩ := h
    obtain ⟨u1, s⟩ := e.own a _ h1 u
    exact ⟨a, vs, rfl, s.of fun z => z, u1, RVs.extw e h2⟩
  | .dic ks ds, v, h => by
    unfold RV at h ⊢
    obtain ⟨a, kvs, rfl, h1, u, hk, h2⟩ := h
    obtain ⟨h3, u1⟩ := e.rd h1 u trivial
    exact ⟨a, kvs, rfl, h3, u1, hk, RVs.extw e h2⟩
  | .dct ks ds, v, h => by
    unfold RV at h ⊢
    obtain ⟨a, kvs, rfl, h1, u, hk, h2⟩ := h
    obtain ⟨h3, u1⟩ := e.rd h1 u trivial
    exact ⟨a, kvs, rfl, h3, u1, hk, RVs.extw e h2⟩
  | .obj c ns ds, v, h => by
    unfold RV at h ⊢
    obtain ⟨a, C, dx, fs, rfl, hC, h1, u, hk, h2⟩ := h
    obtain ⟨u1, s⟩ := e.own a _ h1 u
    exact ⟨a, C, dx, fs, rfl, hC, s.of fun z => z, u1, hk, RVs.extw e h2⟩
  | .scr ns, v, h => by
    unfold RV at h ⊢
    obtain ⟨a, rfl, h1⟩ := h
    exact ⟨a, rfl, e.scr h1⟩
  | .ref n, v, h => by
    unfold RV at h ⊢
    obtain ⟨a, b, rfl, h1⟩ := h
    obtain ⟨b', h2⟩ := e.get h1
    exact ⟨a, b', rfl, h2⟩
  | .kref s, v, h => by unfold RV at h ⊢; exact h
theorem RVs.extw {g : G} {m m' : Mp} {H H' : Hp} (e : Exw m H m' H') : ∀ {ds : List D} {vs : List V}, RVs g m H ds vs → RVs g m' H' ds vs
  | [], _, h => by unfold RVs at h ⊢; exact h
  | d :: ds, vs, h => by
    unfold RVs at h ⊢
    obtain ⟨v, r, rfl, h1, h2⟩ := h
    exact ⟨v, r, rfl, RV.extw e h1, RVs.extw e h2⟩
end
theorem RV.ext {g : G} {m m' : Mp} {H H' : Hp} (e : Ext g m H m' H') {d : D} {v : V} (h : RV g m H d v) : RV g m' H' d v := RV.extw e.toExw h
theorem RVs.ext {g : G} {m m' : Mp} {H H' : Hp} (e : Ext g m H m' H') {ds : List D} {vs : List V} (h : RVs g m H ds vs) : RVs g m' H' ds vs := RVs.extw e.toExw h
section
variable {g : G} {m : Mp} {H : Hp}
theorem RVs.nil : RVs g m H [] [] := by unfold RVs; rfl
theorem RVs.cons {d : D} {v : V} {ds : List D} {vs : List V} (h : RV g m H d v) (t : RVs g m H ds vs) : RVs g m H (d :: ds) (v :: vs) := by unfold RVs; exact ⟨v, vs, rfl, h, t⟩
theorem RVs.nil_iff {vs : List V} (h : RVs g m H [] vs) : vs = [] := by unfold RVs at h; exact h
theorem RVs.cons_iff {d : D} {ds : List D} {vs : List V} (h : RVs g m H (d :: ds) vs) : ∃ v r, vs = v :: r ∧ RV g m H d v ∧ RVs g m H ds r := by unfold RVs at h; exact h
theorem RVs.length : ∀ {ds : List D} {vs : List V}, RVs g m H ds vs → vs.length = ds.length
  | [], _, h => by rw [h.nil_iff]; rfl
  | d :: ds, vs, h => by
    obtain ⟨v, r, rfl, _, t⟩ := h.cons_iff
    simp [RVs.length t]
theorem RVs.get : ∀ {ds : List D} {vs : List V}, RVs g m H ds vs → ∀ {i : Nat} {d : D}, ds[i]? = some d → ∃ v, vs[i]? = some v ∧ RV g m H d v
  | [], _, _, i, d, e => by simp at e
  | d0 :: ds, vs, h, 0, d, e => by
    obtain ⟨v, r, rfl, h1, _⟩ := h.cons_iff
    simp at e; subst e
    exact ⟨v, rfl, h1⟩
  | d0 :: ds, vs, h, i + 1, d, e => by
    obtain ⟨v, r, rfl, _, t⟩ := h.cons_iff
    simpa using RVs.get t (i := i) (by simpa using e)
theorem RVs.get' {ds : List D} {vs : List V} (h : RVs g m H ds vs) {i : Nat} {v : V} (e : vs[i]? = some v) : ∃ d, ds[i]? = some d ∧ RV g m H d v := by
  have hi : i < ds.length := by rw [← h.length]; exact (List.getElem?_eq_some_iff.mp e).1
  obtain ⟨v', e', r⟩ := h.get (i := i) (d := ds[i]) (List.getElem?_eq_getElem hi)
  rw [e] at e'; cases e'
  exact ⟨_, List.getElem?_eq_getElem hi, r⟩
theorem RVs.append : ∀ {ds es : List D} {vs us : List V}, RVs g m H ds vs → RVs g m H es us → RVs g m H (ds ++ es) (vs ++ us)
  | [], es, vs, us, h, k => by rw [h.nil_iff]; exact k
  | d :: ds, es, vs, us, h, k => by
    obtain ⟨v, r, rfl, h1, t⟩ := h.cons_iff
    exact .cons h1 (RVs.append t k)
theorem RVs.take : ∀ {ds : List D} {vs : List V} (n : Nat), RVs g m H ds vs → RVs g m H (ds.take n) (vs.take n)
  | _, _, 0, _ => by simpa using RVs.nil
  | [], vs, n + 1, h => by rw [h.nil_iff]; simpa using RVs.nil
  | d :: ds, vs, n + 1, h => by
    obtain ⟨v, r, rfl, h1, t⟩ := h.cons_iff
    simpa using RVs.cons h1 (RVs.take n t)
theorem RVs.drop : ∀ {ds : List D} {vs : List V} (n : Nat), RVs g m H ds vs → RVs g m H (ds.drop n) (vs.drop n)
  | _, _, 0, h => by simpa using h
  | [], vs, n + 1, h => by rw [h.nil_iff]; simpa using RVs.nil
  | d :: ds, vs, n + 1, h => by
    obtain ⟨v, r, rfl, h1, t⟩ := h.cons_iff
    simpa using RVs.drop n t
theorem RVs.set : ∀ {ds : List D} {vs : List V} (n : Nat) {d : D} {v : V}, RVs g m H ds vs → RV g m H d v → RVs g m H (ds.set n d) (vs.set n v)
  | [], vs, n, _, _, h, _ => by rw [h.nil_iff]; simpa using RVs.nil
  | d0 :: ds, vs, 0, d, v, h, k => by
    obtain ⟨v', r, rfl, h1, t⟩ := h.cons_iff
    simpa using RVs.cons k t
  | d0 :: ds, vs, n + 1, d, v, h, k => by
    obtain ⟨v', r, rfl, h1, t⟩ := h.cons_iff
    simpa using RVs.cons h1 (RVs.set n t k)
theorem RVs.rep {ds : List D} {vs : List V} (h : RVs g m H ds vs) : ∀ n : Nat, RVs g m H (List.replicate n ds).flatten (List.replicate n vs).flatten
  | 0 => by simpa using RVs.nil
  | n + 1 => by rw [List.replicate_succ, List.replicate_succ, List.flatten_cons, List.flatten_cons]; exact h.append (RVs.rep h n)
theorem rv_int {i : Int} : RV g m H (.int i) (.int i) := by unfold RV; rfl
theorem rv_str {i : Str} : RV g m H (.str i) (.str i) := by unfold RV; rfl
theorem rv_bl {i : Bool} : RV g m H (.bl i) (.bl i) := by unfold RV; rfl
theorem rv_non : RV g m H .non .non := by unfold RV; rfl
theorem rv_ty {i : String} : RV g m H (.ty i) (.ty i) := by unfold RV; rfl
theorem rv_tupv {a : Addr} {vs : List V} {ds : List D} (h : SqTv g m H a vs) (r : RVs g m H ds vs) : RV g m H (.tup ds) (.ref a) := by unfold RV; exact ⟨a, vs, rfl, h, r⟩
theorem rv_lst {a : Addr} {vs : List V} {ds : List D} (h : H a = some (.lst vs)) (u : Un m a) (r : RVs g m H ds vs) : RV g m H (.lst ds) (.ref a) := by unfold RV; exact ⟨a, vs, rfl, h, u, r⟩
theorem rv_dic {a : Addr} {kvs : List (Key × V)} {ks : List Key} {ds : List D} (h : Rd H a (.dK kvs)) (u : Un m a) (hk : kvs.map (·.1) = ks) (r : RVs g m H ds (kvs.map (·.2))) : RV g m H (.dic ks ds) (.ref a) := by unfold RV; exact ⟨a, kvs, rfl, h, u, hk, r⟩
theorem rv_dct {a : Addr} {kvs : List (List Key × V)} {ks : List (List Key)} {ds : List D} (h : Rd H a (.dT kvs)) (u : Un m a) (hk : kvs.map (·.1) = ks) (r : RVs g m H ds (kvs.map (·.2))) : RV g m H (.dct ks ds) (.ref a) := by unfold RV; exact ⟨a, kvs, rfl, h, u, hk, r⟩
theorem rv_obj {a C dx : Addr} {fs : List (Str × V)} {c : String} {ns : List Str} {ds : List D} (hC : g.cl c = some C) (h : H a = some (.ins C dx fs)) (u : Un m a) (hk : fs.map (·.1) = ns) (r : RVs g m H ds (fs.map (·.2))) : RV g m H (.obj c ns ds) (.ref a) := by unfold RV; exact ⟨a, C, dx, fs, rfl, hC, h, u, hk, r⟩
theorem rv_ref {a : Addr} {n : Nat} {b : Bool} (h : m.l[n]? = some (a, b)) : RV g m H (.ref n) (.ref a) := by unfold RV; exact ⟨a, b, rfl, h⟩
theorem rv_kref {a : Addr} {s : String} (h : g.ka s = some a) : RV g m H (.kref s) (.ref a) := by unfold RV; exact ⟨a, rfl, h⟩
theorem rv_scr {a : Addr} {ns : List Int} (h : Scr g m H a (ns.map V.int)) : RV g m H (.scr ns) (.ref a) := by unfold RV; exact ⟨a, rfl, h⟩
theorem of_int {i : Int} {v : V} (h : RV g m H (.int i) v) : v = .int i := by unfold RV at h; exact h
theorem of_str {i : Str} {v : V} (h : RV g m H (.str i) v) : v = .str i := by unfold RV at h; exact h
theorem of_bl {i : Bool} {v : V} (h : RV g m H (.bl i) v) : v = .bl i := by unfold RV at h; exact h
theorem of_non {v : V} (h : RV g m H .non v) : v = .non := by unfold RV at h; exact h
theorem of_ty {i : String} {v : V} (h : RV g m H (.ty i) v) : v = .ty i := by unfold RV at h; exact h
theorem of_tupv {v : V} {ds : List D} (h : RV g m H (.tup ds) v) : ∃ a vs, v = .ref a ∧ SqTv g m H a vs ∧ RVs g m H ds vs := by unfold RV at h; exact h
theorem of_tup {v : V} {ds : List D} (h : RV g m H (.tup ds) v) : ∃ a vs, v = .ref a ∧ SqT g.K H a vs ∧ RVs g m H ds vs := let ⟨a, vs, e, h1, h2⟩ := of_tupv h; ⟨a, vs, e, h1.sq, h2⟩
theorem of_lst {v : V} {ds : List D} (h : RV g m H (.lst ds) v) : ∃ a vs, v = .ref a ∧ H a = some (.lst vs) ∧ Un m a ∧ RVs g m H ds vs := by unfold RV at h; exact h
theorem of_dic {v : V} {ks : List Key} {ds : List D} (h : RV g m H (.dic ks ds) v) : ∃ (a : Addr) (kvs : List (Key × V)), v = .ref a ∧ Rd H a (.dK kvs) ∧ Un m a ∧ kvs.map (·.1) = ks ∧ RVs g m H ds (kvs.map (·.2)) := by unfold RV at h; exact h
theorem of_dct {v : V} {ks : List (List Key)} {ds : List D} (h : RV g m H (.dct ks ds) v) : ∃ (a : Addr) (kvs : List (List Key × V)), v = .ref a ∧ Rd H a (.dT kvs) ∧ Un m a ∧ kvs.map (·.1) = ks ∧ RVs g m H ds (kvs.map (·.2)) := by unfold RV at h; exact h
theorem of_obj {v : V} {c : String} {ns : List Str} {ds : List D} (h : RV g m H (.obj c ns ds) v) : ∃ (a C dx : Addr) (fs : List (Str × V)), v = .ref a ∧ g.cl c = some C ∧ H a = some (.ins C dx fs) ∧ Un m a ∧ fs.map (·.1) = ns ∧ RVs g m H ds (fs.map (·.2)) := by unfold RV at h; exact h
theorem of_scr {v : V} {ns : List Int} (h : RV g m H (.scr ns) v) : ∃ a, v = .ref a ∧ Scr g m H a (ns.map V.int) := by unfold RV at h; exact h
theorem of_ref {v : V} {n : Nat} (h : RV g m H (.ref n) v) : ∃ a b, v = .ref a ∧ m.l[n]? = some (a, b) := by unfold RV at h; exact h
theorem of_kref {v : V} {s : String} (h : RV g m H (.kref s) v) : ∃ a, v = .ref a ∧ g.ka s = some a := by unfold RV at h; exact h
end

/-! objects of the store -/
def OR (g : G) (m : Mp) (H : Hp) : Ob → HO → Prop
  | .lst ds, o => ∃ vs, o = .lst vs ∧ RVs g m H ds vs
  | .dic ks ds, o => ∃ kvs : List (Key × V), o = .dK kvs ∧ kvs.map (·.1) = ks ∧ RVs g m H ds (kvs.map (·.2))
  | .dct ks ds, o => ∃ kvs : List (List Key × V), o = .dT kvs ∧ kvs.map (·.1) = ks ∧ RVs g m H ds (kvs.map (·.2))
  | .dlk ks ds, o => ∃ (od : Obj) (kvs : List (Key × V)), o = .frz od (.dK kvs) ∧ kvs.map (·.1) = ks ∧ RVs g m H ds (kvs.map (·.2))
  | .ins c ns ds, o => ∃ (C dx : Addr) (fs : List (Str × V)), g.cl c = some C ∧ o = .ins C dx fs ∧ fs.map (·.1) = ns ∧ RVs g m H ds (fs.map (·.2))
  | .dead, _ => False
theorem OR.extw {g : G} {m m' : Mp} {H H' : Hp} (e : Exw m H m' H') : ∀ {ob : Ob} {o : HO}, OR g m H ob o → OR g m' H' ob o
  | .lst ds, o, ⟨vs, h1, h2⟩ => ⟨vs, h1, h2.extw e⟩
  | .dic ks ds, o, ⟨vs, h1, h2, h3⟩ => ⟨vs, h1, h2, h3.extw e⟩
  | .dct ks ds, o, ⟨vs, h1, h2, h3⟩ => ⟨vs, h1, h2, h3.extw e⟩
  | .dlk ks ds, o, ⟨od, vs, h1, h2, h3⟩ => ⟨od, vs, h1, h2, h3.extw e⟩
  | .ins c ns ds, o, ⟨C, dx, fs, h1, h2, h3, h4⟩ => ⟨C, dx, fs, h1, h2, h3, h4.extw e⟩
theorem OR.ext {g : G} {m m' : Mp} {H H' : Hp} (e : Ext g m H m' H') {ob : Ob} {o : HO} (h : OR g m H ob o) : OR g m' H' ob o := h.extw e.toExw
structure Rel (g : G) (m : Mp) (S : Sto) (H : Hp) : Prop where
  len : m.l.length = S.length
  inj : ∀ (n k : Nat) (a : Addr), m.l[n]? = some (a, true) → m.l[k]? = some (a, true) → n = k
  ob : ∀ (n : Nat) (a : Addr) (ob : Ob), m.l[n]? = some (a, true) → S[n]? = some ob → ∃ o, H a = some o ∧ OR g m H ob o
  gone : ∀ (n : Nat) (a : Addr), m.l[n]? = some (a, false) → S[n]? = some .dead
  prv : ∀ a ∈ m.o, (∃ o, H a = some o) ∧ ∀ n : Nat, m.l[n]? ≠ some (a, true)
  lks : ∀ x ∈ m.k, m.l[x.1]? = some (x.2, true) ∧ ∃ ks ds, S[x.1]? = some (.dlk ks ds)
  inv : g.J m H
section
variable {g : G} {m : Mp} {S : Sto} {H : Hp}
/-- what is in the store is alive -/
theorem Rel.live (r : Rel g m S H) {n : Nat} {a : Addr} {b : Bool} {ob : Ob} (h : m.l[n]? = some (a, b)) (e : S[n]? = some ob) (hd : ob ≠ .dead) : m.l[n]? = some (a, true) := by
  cases b with
  | true => exact h
  | false => rw [r.gone n a h] at e; exact absurd (Option.some.inj e).symm hd
theorem Rel.at (r : Rel g m S H) {n : Nat} {v : V} {ob : Ob} (rv : RV g m H (.ref n) v) (e : S[n]? = some ob) (hd : ob ≠ .dead) : ∃ a o, v = .ref a ∧ m.l[n]? = some (a, true) ∧ H a = some o ∧ OR g m H ob o := by
  obtain ⟨a, b, rfl, h⟩ := of_ref rv
  have h1 := r.live h e hd
  obtain ⟨o, h2, h3⟩ := r.ob n a ob h1 e
  exact ⟨a, o, rfl, h1, h2, h3⟩
theorem Rel.fresh (r : Rel g m S H) {p : Addr} (hp : H p = none) (n : Nat) : m.l[n]? ≠ some (p, true) := fun e => by
  have hn : n < S.length := by rw [← r.len]; exact (List.getElem?_eq_some_iff.mp e).1
  obtain ⟨o, e', _⟩ := r.ob n p S[n] e (List.getElem?_eq_getElem hn)
  rw [hp] at e'; cases e'
theorem Rel.freshO (r : Rel g m S H) {p : Addr} (hp : H p = none) : p ∉ m.o := fun e => by
  obtain ⟨⟨o, e'⟩, _⟩ := r.prv p e
  rw [hp] at e'; cases e'
theorem Rel.freshK (r : Rel g m S H) {p : Addr} (hp : H p = none) {x : Nat × Addr} (hx : x ∈ m.k) : x.2 ≠ p := fun z => r.fresh hp x.1 (by rw [(r.lks x hx).1, z])
theorem Rel.nlk (r : Rel g m S H) {n : Nat} {a : Addr} {ob : Ob} (h1 : m.l[n]? = some (a, true)) (h2 : S[n]? = some ob) (hf : ∀ ks ds, ob ≠ .dlk ks ds) {x : Nat × Addr} (hx : x ∈ m.k) : x.1 ≠ n ∧ x.2 ≠ a := by
  obtain ⟨h3, ks, ds, h4⟩ := r.lks x hx
  have h5 : x.1 ≠ n := fun z => by rw [z, h2] at h4; exact hf ks ds (Option.some.inj h4)
  exact ⟨h5, fun z => h5 (r.inj x.1 n a (by rw [h3, z]) h1)⟩
theorem Rel.un (r : Rel g m S H) {p : Addr} (hp : H p = none) : Un m p := ⟨r.fresh hp, r.freshO hp⟩
/-- a new thing that nobody changes -/
theorem ext_lay {p : Addr} {o' : HO} (r : Rel g m S H) (hp : H p = none) : Ext g m H m (upd H p o') := by
  refine .of ⟨fun n a b h => ⟨b, h, fun z => z⟩, fun a o h u => ⟨u, ?_⟩⟩ rfl (fun a ha => ?_) rfl (fun x hx => upd_ne (r.freshK hp hx))
  · refine .inl ?_
    rw [upd_ne (ne_of_none h hp)]
    exact h
  · rw [upd_ne]
    rintro rfl
    exact r.freshO hp ha
theorem Rel.lay (r : Rel g m S H) {p : Addr} {o : HO} (hp : H p = none) : Rel g m S (upd H p o) := by
  have e : Ext g m H m (upd H p o) := ext_lay r hp
  refine ⟨r.len, r.inj, fun n a ob' h1 h2 => ?_, r.gone, fun a ha => ?_, r.lks, g.st e.toExw r.inv⟩
  · obtain ⟨o', e1, e2⟩ := r.ob n a ob' h1 h2
    refine ⟨o', ?_, e2.ext e⟩
    rw [upd_ne (ne_of_none e1 hp)]
    exact e1
  · obtain ⟨⟨o', e1⟩, e2⟩ := r.prv a ha
    refine ⟨⟨o', ?_⟩, e2⟩
    rw [upd_ne (ne_of_none e1 hp)]
    exact e1
/-- a new thing of the store -/
def Mp.add (m : Mp) (p : Addr) : Mp := ⟨m.l ++ [(p, true)], m.o, m.k⟩
theorem add_get {p : Addr} {n : Nat} {x : Addr × Bool} (h : (m.add p).l[n]? = some x) : m.l[n]? = some x ∨ (n = m.l.length ∧ x = (p, true)) := by
  unfold Mp.add at h
  by_cases hn : n < m.l.length
  · rw [List.getElem?_append_left hn] at h; exact .inl h
  · rw [List.getElem?_append_right (by omega), List.getElem?_singleton] at h
    split at h
    · exact .inr ⟨by omega, (Option.some.inj h).symm⟩
    · cases h
theorem add_old {p : Addr} {n : Nat} {x : Addr × Bool} (h : m.l[n]? = some x) : (m.add p).l[n]? = some x := by
  unfold Mp.add
  rw [List.getElem?_append_left (List.getElem?_eq_some_iff.mp h).1]
  exact h
theorem ext_new {p : Addr} {o' : HO} (r : Rel g m S H) (hp : H p = none) : Ext g m H (m.add p) (upd H p o') := by
  refine .of ⟨fun n a b h => ⟨b, add_old h, fun z => z⟩, fun a o h u => ⟨⟨fun n z => ?_, u.2⟩, ?_⟩⟩ rfl (fun a ha => ?_) rfl (fun x hx => upd_ne (r.freshK hp hx))
  · rcases add_get z with z | ⟨_, z⟩
    · exact u.1 n z
    · cases z; rw [hp] at h; cases h
  · refine .inl ?_
    rw [upd_ne (ne_of_none h hp)]
    exact h
  · rw [upd_ne]
    rintro rfl
    exact r.freshO hp ha
theorem Rel.last (r : Rel g m S H) {p : Addr} : (m.add p).l[S.length]? = some (p, true) := by rw [← r.len]; unfold Mp.add; simp
theorem Rel.alloc (r : Rel g m S H) {p : Addr} {o : HO} {ob : Ob} (hp : H p = none) (h : OR g m H ob o) : Rel g (m.add p) (S ++ [ob]) (upd H p o) := by
  have e : Ext g m H (m.add p) (upd H p o) := ext_new r hp
  have hl := r.len
  refine ⟨by simp [hl, Mp.add], fun n k a h1 h2 => ?_, fun n a ob' h1 h2 => ?_, fun n a h1 => ?_, fun a ha => ?_, fun x hx => ⟨add_old (r.lks x hx).1, let ⟨ks, ds, h3⟩ := (r.lks x hx).2; ⟨ks, ds, by rw [List.getElem?_append_left (List.getElem?_eq_some_iff.mp h3).1]; exact h3⟩⟩, g.st e.toExw r.inv⟩
  · rcases add_get h1 with h3 | ⟨h3, h4⟩
    · rcases add_get h2 with h5 | ⟨h5, h6⟩
      · exact r.inj n k a h3 h5
      · have : a = p := congrArg Prod.fst h6
        subst this
        exact absurd h3 (r.fresh hp n)
    · have : a = p := congrArg Prod.fst h4
      subst this
      rcases add_get h2 with h5 | ⟨h5, h6⟩
      · exact absurd h5 (r.fresh hp k)
      · omega
  · rcases add_get h1 with h3 | ⟨h3, h4⟩
    · rw [List.getElem?_append_left (by rw [← hl]; exact (List.getElem?_eq_some_iff.mp h3).1)] at h2
      obtain ⟨o', e1, e2⟩ := r.ob n a ob' h3 h2
      refine ⟨o', ?_, e2.ext e⟩
      rw [upd_ne (ne_of_none e1 hp)]
      exact e1
    · have : a = p := congrArg Prod.fst h4
      subst this
      rw [h3, hl, List.getElem?_append_right (by omega)] at h2
      simp at h2
      subst h2
      exact ⟨o, upd_same, h.ext e⟩
  · rcases add_get h1 with h3 | ⟨h3, h4⟩
    · rw [List.getElem?_append_left (by rw [← hl]; exact (List.getElem?_eq_some_iff.mp h3).1)]
      exact r.gone n a h3
    · have := congrArg Prod.snd h4
      cases this
  · obtain ⟨⟨o', e1⟩, e2⟩ := r.prv a ha
    refine ⟨⟨o', ?_⟩, fun n z => ?_⟩
    · rw [upd_ne (ne_of_none e1 hp)]
      exact e1
    · rcases add_get z with h3 | ⟨h3, h4⟩
      · exact e2 n h3
      · have : a = p := congrArg Prod.fst h4
        subst this
        rw [hp] at e1; cases e1
/-- a thing of the store is changed -/
theorem ext_set {n : Nat} {a : Addr} {ob : Ob} {o' : HO} (r : Rel g m S H) (h1 : m.l[n]? = some (a, true)) (h2 : S[n]? = some ob) (hf : ∀ ks ds, ob ≠ .dlk ks ds := by intro _ _ z; cases z) : Ext g m H m (upd H a o') := by
  refine .of ⟨fun n a b h => ⟨b, h, fun z => z⟩, fun b o h u => ⟨u, .inl ?_⟩⟩ rfl (fun b hb => ?_) rfl (fun x hx => upd_ne (r.nlk h1 h2 hf hx).2)
  · rw [upd_ne]
    · exact h
    · rintro rfl
      exact u.1 n h1
  · rw [upd_ne]
    rintro rfl
    exact (r.prv b hb).2 n h1
theorem Rel.set (r : Rel g m S H) {n : Nat} {a : Addr} {ob ob' : Ob} {o' : HO} (h1 : m.l[n]? = some (a, true)) (h2 : S[n]? = some ob) (h : OR g m H ob' o') (hf : ∀ ks ds, ob ≠ .dlk ks ds := by intro _ _ z; cases z) : Rel g m (S.set n ob') (upd H a o') := by
  have e : Ext g m H m (upd H a o') := ext_set r h1 h2 hf
  refine ⟨by simp [r.len], r.inj, fun k b ob2 h3 h4 => ?_, fun k b h3 => ?_, fun b hb => ?_, fun x hx => ⟨(r.lks x hx).1, let ⟨ks, ds, h3⟩ := (r.lks x hx).2; ⟨ks, ds, by rw [List.getElem?_set_ne (Ne.symm (r.nlk h1 h2 hf hx).1)]; exact h3⟩⟩, g.st e.toExw r.inv⟩
  · by_cases hk : k = n
    · subst hk
      rw [h1] at h3; cases h3
      rw [List.getElem?_set_self (List.getElem?_eq_some_iff.mp h2).1] at h4
      cases h4
      exact ⟨o', upd_same, h.ext e⟩
    · rw [List.getElem?_set_ne (Ne.symm hk)] at h4
      obtain ⟨o2, e1, e2⟩ := r.ob k b ob2 h3 h4
      refine ⟨o2, ?_, e2.ext e⟩
      rw [upd_ne]
      · exact e1
      · rintro rfl
        exact hk (r.inj k n _ h3 h1)
  · have hk : k ≠ n := by rintro rfl; rw [h1] at h3; cases h3
    rw [List.getElem?_set_ne (Ne.symm hk)]
    exact r.gone k b h3
  · obtain ⟨⟨o2, e1⟩, e2⟩ := r.prv b hb
    refine ⟨⟨o2, ?_⟩, e2⟩
    rw [upd_ne]
    · exact e1
    · rintro rfl
      exact e2 n h1
/-- it is let go: from now on nobody changes it -/
def Mp.kill (m : Mp) (n : Nat) (a : Addr) : Mp := ⟨m.l.set n (a, false), m.o, m.k⟩
theorem kill_get {n k : Nat} {a : Addr} {x : Addr × Bool} (h : (m.kill n a).l[k]? = some x) : (k = n ∧ x = (a, false)) ∨ (k ≠ n ∧ m.l[k]? = some x) := by
  unfold Mp.kill at h
  by_cases hk : k = n
  · subst hk
    rw [List.getElem?_set] at h
    simp at h
    exact .inl ⟨rfl, h.2.symm⟩
  · rw [List.getElem?_set_ne (Ne.symm hk)] at h
    exact .inr ⟨hk, h⟩
theorem ext_kill {n : Nat} {a : Addr} (h1 : m.l[n]? = some (a, true)) : Ext g m H (m.kill n a) H := by
  refine .of ⟨fun k b x h => ?_, fun b o h u => ⟨⟨fun k z => ?_, u.2⟩, .inl h⟩⟩ rfl (fun _ _ => rfl) rfl (fun _ _ => rfl)
  · by_cases hk : k = n
    · subst hk
      rw [h1] at h; cases h
      exact ⟨false, by unfold Mp.kill; rw [List.getElem?_set_self (List.getElem?_eq_some_iff.mp h1).1], fun _ => rfl⟩
    · exact ⟨x, by unfold Mp.kill; rw [List.getElem?_set_ne (Ne.symm hk)]; exact h, fun z => z⟩
  · rcases kill_get z with ⟨_, z⟩ | ⟨_, z⟩
    · cases z
    · exact u.1 k z
theorem kill_un (r : Rel g m S H) {n : Nat} {a : Addr} (h1 : m.l[n]? = some (a, true)) : Un (m.kill n a) a := by
  refine ⟨fun k z => ?_, fun z => (r.prv a z).2 n h1⟩
  rcases kill_get z with ⟨_, z⟩ | ⟨hk, z⟩
  · cases z
  · exact hk (r.inj k n a z h1)
theorem Rel.kill (r : Rel g m S H) {n : Nat} {a : Addr} {ob : Ob} (h1 : m.l[n]? = some (a, true)) (h2 : S[n]? = some ob) (hf : ∀ ks ds, ob ≠ .dlk ks ds := by intro _ _ z; cases z) : Rel g (m.kill n a) (S.set n .dead) H := by
  have e : Ext g m H (m.kill n a) H := ext_kill h1
  have hn : n < S.length := by rw [← r.len]; exact (List.getElem?_eq_some_iff.mp h1).1
  refine ⟨by simp [r.len, Mp.kill], fun k j b h3 h4 => ?_, fun k b ob2 h3 h4 => ?_, fun k b h3 => ?_, fun b hb => ?_, fun x hx => ⟨by unfold Mp.kill; rw [List.getElem?_set_ne (Ne.symm (r.nlk h1 h2 hf hx).1)]; exact (r.lks x hx).1, let ⟨ks, ds, h3⟩ := (r.lks x hx).2; ⟨ks, ds, by rw [List.getElem?_set_ne (Ne.symm (r.nlk h1 h2 hf hx).1)]; exact h3⟩⟩, g.st e.toExw r.inv⟩
  · rcases kill_get h3 with ⟨_, z⟩ | ⟨_, z⟩
    · cases z
    · rcases kill_get h4 with ⟨_, y⟩ | ⟨_, y⟩
      · cases y
      · exact r.inj k j b z y
  · rcases kill_get h3 with ⟨_, z⟩ | ⟨hk, z⟩
    · cases z
    · rw [List.getElem?_set_ne (Ne.symm hk)] at h4
      obtain ⟨o, e1, e2⟩ := r.ob k b ob2 z h4
      exact ⟨o, e1, e2.ext e⟩
  · rcases kill_get h3 with ⟨hk, z⟩ | ⟨hk, z⟩
    · subst hk
      rw [List.getElem?_set_self hn]
    · rw [List.getElem?_set_ne (Ne.symm hk)]
      exact r.gone k b z
  · obtain ⟨e1, e2⟩ := r.prv b hb
    refine ⟨e1, fun k z => ?_⟩
    rcases kill_get z with ⟨_, y⟩ | ⟨_, y⟩
    · cases y
    · exact e2 k y
/-! what is in the making -/
def Mp.hold (m : Mp) (p : Addr) : Mp := ⟨m.l, p :: m.o, m.k⟩
theorem hold_un {p a : Addr} (h : Un (m.hold p) a) : Un m a ∧ a ≠ p := ⟨⟨h.1, fun z => h.2 (List.mem_cons_of_mem _ z)⟩, fun z => h.2 (by subst z; exact List.mem_cons_self)⟩
theorem un_hold {p a : Addr} (h : Un m a) (n : a ≠ p) : Un (m.hold p) a := ⟨h.1, fun z => by
  rcases List.mem_cons.mp z with z | z
  · exact n z
  · exact h.2 z⟩
theorem exw_hold {p : Addr} {o : HO} (hp : H p = none) : Exw m H (m.hold p) (upd H p o) :=
  ⟨fun n a b h => ⟨b, h, fun z => z⟩, fun a u h un => ⟨un_hold un (ne_of_none h hp), .inl (by rw [upd_ne (ne_of_none h hp)]; exact h)⟩⟩
theorem exw_held {p : Addr} {o : HO} : Exw (m.hold p) H (m.hold p) (upd H p o) :=
  ⟨fun n a b h => ⟨b, h, fun z => z⟩, fun a u h un => ⟨un, .inl (by rw [upd_ne (hold_un un).2]; exact h)⟩⟩
theorem exw_free {p : Addr} : Exw (m.hold p) H m H :=
  ⟨fun n a b h => ⟨b, h, fun z => z⟩, fun a u h un => ⟨(hold_un un).1, .inl h⟩⟩
theorem Rel.hold (r : Rel g m S H) {p : Addr} {o : HO} (hp : H p = none) : Rel g (m.hold p) S (upd H p o) := by
  refine ⟨r.len, r.inj, fun n a ob h1 h2 => ?_, r.gone, fun a ha => ?_, r.lks, g.st (exw_hold hp) r.inv⟩
  · obtain ⟨u, e1, e2⟩ := r.ob n a ob h1 h2
    exact ⟨u, by rw [upd_ne (ne_of_none e1 hp)]; exact e1, e2.extw (exw_hold hp)⟩
  · rcases List.mem_cons.mp ha with z | z
    · subst z
      exact ⟨⟨o, upd_same⟩, r.fresh hp⟩
    · obtain ⟨⟨u, e1⟩, e2⟩ := r.prv a z
      exact ⟨⟨u, by rw [upd_ne (ne_of_none e1 hp)]; exact e1⟩, e2⟩
theorem Rel.held {p : Addr} {o : HO} (r : Rel g (m.hold p) S H) : Rel g (m.hold p) S (upd H p o) := by
  have hp : ∀ n : Nat, m.l[n]? ≠ some (p, true) := (r.prv p List.mem_cons_self).2
  refine ⟨r.len, r.inj, fun n a ob h1 h2 => ?_, r.gone, fun a ha => ?_, r.lks, g.st exw_held r.inv⟩
  · obtain ⟨u, e1, e2⟩ := r.ob n a ob h1 h2
    refine ⟨u, ?_, e2.extw exw_held⟩
    rw [upd_ne]
    · exact e1
    · rintro rfl
      exact hp n h1
  · obtain ⟨⟨u, e1⟩, e2⟩ := r.prv a ha
    by_cases z : a = p
    · subst z; exact ⟨⟨o, upd_same⟩, e2⟩
    · exact ⟨⟨u, by rw [upd_ne z]; exact e1⟩, e2⟩
theorem Rel.free {p : Addr} (r : Rel g (m.hold p) S H) : Rel g m S H :=
  ⟨r.len, r.inj, fun n a ob h1 h2 => let ⟨u, e1, e2⟩ := r.ob n a ob h1 h2; ⟨u, e1, e2.extw exw_free⟩, r.gone, fun a ha => r.prv a (List.mem_cons_of_mem _ ha), r.lks, g.st exw_free r.inv⟩
theorem Mp.of_hold {m m' : Mp} {p : Addr} (ho : m'.o = p :: m.o) : m' = (⟨m'.l, m.o, m'.k⟩ : Mp).hold p := by
  cases m'; simp at ho; subst ho; rfl
/-- what was in the making comes into the store -/
theorem exw_own {p : Addr} : Exw (m.hold p) H (m.add p) H := by
  refine ⟨fun n a b h => ⟨b, add_old h, fun z => z⟩, fun a u h un => ⟨⟨fun n z => ?_, (hold_un un).1.2⟩, .inl h⟩⟩
  rcases add_get z with z | ⟨_, z⟩
  · exact un.1 n z
  · exact (hold_un un).2 (congrArg Prod.fst z)
theorem Rel.own {p : Addr} {o : HO} {ob : Ob} (r : Rel g (m.hold p) S H) (hp : p ∉ m.o) (h : H p = some o) (ho : OR g (m.hold p) H ob o) : Rel g (m.add p) (S ++ [ob]) H := by
  have hl : m.l.length = S.length := r.len
  have hn : ∀ n : Nat, m.l[n]? ≠ some (p, true) := (r.prv p List.mem_cons_self).2
  refine ⟨by simp [hl, Mp.add], fun n k a h1 h2 => ?_, fun n a ob' h1 h2 => ?_, fun n a h1 => ?_, fun a ha => ?_, fun x hx => ⟨add_old (r.lks x hx).1, let ⟨ks, ds, h3⟩ := (r.lks x hx).2; ⟨ks, ds, by rw [List.getElem?_append_left (List.getElem?_eq_some_iff.mp h3).1]; exact h3⟩⟩, g.st exw_own r.inv⟩
  · rcases add_get h1 with h3 | ⟨h3, h4⟩
    · rcases add_get h2 with h5 | ⟨h5, h6⟩
      · exact r.inj n k a h3 h5
      · have : a = p := congrArg Prod.fst h6
        subst this
        exact absurd h3 (hn n)
    · have : a = p := congrArg Prod.fst h4
      subst this
      rcases add_get h2 with h5 | ⟨h5, h6⟩
      · exact absurd h5 (hn k)
      · omega
  · rcases add_get h1 with h3 | ⟨h3, h4⟩
    · rw [List.getElem?_append_left (by rw [← hl]; exact (List.getElem?_eq_some_iff.mp h3).1)] at h2
      obtain ⟨o', e1, e2⟩ := r.ob n a ob' h3 h2
      exact ⟨o', e1, e2.extw exw_own⟩
    · have : a = p := congrArg Prod.fst h4
      subst this
      rw [h3, hl, List.getElem?_append_right (by omega)] at h2
      simp at h2
      subst h2
      exact ⟨o, h, ho.extw exw_own⟩
  · rcases add_get h1 with h3 | ⟨h3, h4⟩
    · rw [List.getElem?_append_left (by rw [← hl]; exact (List.getElem?_eq_some_iff.mp h3).1)]
      exact r.gone n a h3
    · have := congrArg Prod.snd h4
      cases this
  · obtain ⟨e1, e2⟩ := r.prv a (List.mem_cons_of_mem _ ha)
    refine ⟨e1, fun n z => ?_⟩
    rcases add_get z with h3 | ⟨h3, h4⟩
    · exact e2 n h3
    · have : a = p := congrArg Prod.fst h4
      subst this
      exact hp ha
end
end VL

namespace VL
open PySem PySem.Spec PyProof.Rows L2

abbrev St := L2.St
abbrev XD := String → List (Str × D) → Mp → Sto → Hp → Prop
abbrev NoX : XD := fun _ _ _ _ _ => False
def R.post {a : Type} (r : R a) (Q : a → Sto → Prop) (E : String → List (Str × D) → Sto → Prop) : Prop := match r with
  | .ok x S => Q x S
  | .exc c fs S => E c fs S
  | .bad => False
/-- what is wanted behind a computation that begins at m, H -/
def Aft {a : Type} (g : G) (E : XD) (m : Mp) (H : Hp) (r : R a) (Q : a → Mp → Sto → Hp → Prop) : Prop :=
  r.post (fun x S' => ∀ m' H', Ext g m H m' H' → Rel g m' S' H' → Q x m' S' H') (fun c fs S' => ∀ m' H', Ext g m H m' H' → Rel g m' S' H' → E c fs m' S' H')
section
variable {a b : Type} {g : G} {E : XD} {m m1 : Mp} {H H1 : Hp} {r : R a} {Q Q' : a → Mp → Sto → Hp → Prop}
theorem Aft.later (h : Aft g E m H r Q) (e : Ext g m H m1 H1) : Aft g E m1 H1 r Q := by
  cases r with
  | ok x S => exact fun m' H' e' q => h m' H' (e.trans e') q
  | exc c fs S => exact fun m' H' e' q => h m' H' (e.trans e') q
  | bad => exact h
theorem Aft.bind {k : a → Sto → R b} {Q : b → Mp → Sto → Hp → Prop} (h : Aft g E m H (r.bind k) Q) : Aft g E m H r fun x m1 S1 H1 => Aft g E m1 H1 (k x S1) Q := by
  cases r with
  | ok x S => exact fun m' H' e' q => Aft.later (r := k x S) h e'
  | exc c fs S => exact h
  | bad => exact h
theorem Aft.mono (h : Aft g E m H r Q) (k : ∀ x m' S' H', Ext g m H m' H' → Rel g m' S' H' → Q x m' S' H' → Q' x m' S' H') : Aft g E m H r Q' := by
  cases r with
  | ok x S => exact fun m' H' e' q => k x m' S H' e' q (h m' H' e' q)
  | exc c fs S => exact h
  | bad => exact h
theorem Aft.ok {x : a} {S : Sto} (h : Aft g E m H (.ok x S) Q) (r : Rel g m S H) : Q x m S H := h m H .refl r
theorem Aft.at {x : a} {S : Sto} (h : Aft g E m H (.ok x S) Q) (e : Ext g m H m1 H1) (r : Rel g m1 S H1) : Q x m1 S H1 := h m1 H1 e r
end

def RL (g : G) (m : Mp) (H : Hp) (L : Lc) (σ : St) : Prop := L.length = σ.length ∧ ∀ (i : Nat) (d : D), L[i]? = some (some d) → ∃ v, σ[i]? = some (some v) ∧ RV g m H d v
theorem RL.ext {g : G} {m m' : Mp} {H H' : Hp} {L : Lc} {σ : St} (h : RL g m H L σ) (e : Ext g m H m' H') : RL g m' H' L σ :=
  ⟨h.1, fun i d q => let ⟨v, h1, h2⟩ := h.2 i d q; ⟨v, h1, h2.ext e⟩⟩
theorem RL.set {g : G} {m : Mp} {H : Hp} {L : Lc} {σ : St} (h : RL g m H L σ) {d : D} {v : V} (r : RV g m H d v) (i : Nat) : RL g m H (L.set i (some d)) (σ.set i (some v)) := by
  refine ⟨by simp [h.1], fun j d' e => ?_⟩
  by_cases hj : i = j
  · subst hj
    by_cases hi : i < L.length
    · rw [List.getElem?_set_self hi] at e
      cases e
      exact ⟨v, by rw [List.getElem?_set_self (by rw [← h.1]; exact hi)], r⟩
    · rw [List.getElem?_eq_none (by simpa using hi)] at e
      cases e
  · rw [List.getElem?_set_ne hj] at e ⊢
    exact h.2 j d' e
theorem RL.wipe1 {g : G} {m : Mp} {H : Hp} {L : Lc} {σ : St} (h : RL g m H L σ) (i : Nat) : RL g m H (L.set i none) (σ.set i none) := by
  refine ⟨by simp [h.1], fun j d' e => ?_⟩
  by_cases hj : i = j
  · subst hj
    by_cases hi : i < L.length
    · rw [List.getElem?_set_self hi] at e
      cases e
    · rw [List.getElem?_eq_none (by simpa using hi)] at e
      cases e
  · rw [List.getElem?_set_ne hj] at e ⊢
    exact h.2 j d' e
def wipeL (L : Lc) : List Nat → Lc
  | [] => L
  | v :: vs => (wipeL L vs).set v none
theorem RL.wipe {g : G} {m : Mp} {H : Hp} {L : Lc} {σ : St} (h : RL g m H L σ) : ∀ vs : List Nat, RL g m H (wipeL L vs) (wipe σ vs)
  | [] => h
  | v :: vs => (RL.wipe h vs).wipe1 v
theorem RL.begin {g : G} {m : Mp} {H : Hp} {ds : List D} {vs : List V} (h : RVs g m H ds vs) (N : List Str) : RL g m H (ds.map some ++ List.replicate (N.length - ds.length) none) (L2.start N vs) := by
  have hl := h.length
  unfold L2.start
  refine ⟨by simp [hl], fun i d e => ?_⟩
  by_cases hi : i < ds.length
  · rw [List.getElem?_append_left (by simpa using hi), List.getElem?_map] at e
    rw [List.getElem?_append_left (by simpa [hl] using hi), List.getElem?_map]
    cases q : ds[i]? with
    | none => rw [q] at e; cases e
    | some d' =>
      rw [q] at e
      cases e
      obtain ⟨v, e1, r⟩ := h.get q
      exact ⟨v, by rw [e1]; rfl, r⟩
  · rw [List.getElem?_append_right (by simpa using hi), List.getElem?_replicate] at e
    split at e <;> cases e

def vQ (g : G) (Q : VK) : D → Mp → Sto → Hp → Prop := fun d m' _ H' => ∀ v, RV g m' H' d v → Q v H'
def tD (g : G) (E : XD) (e : Lc → Sto → R D) : TE := fun σ H Q => ∃ m S L, Rel g m S H ∧ RL g m H L σ ∧ Aft g E m H (e L S) (vQ g Q)
def tT (g : G) (E : XD) (e : Lc → Sto → R Bool) : TT := fun σ H Q => ∃ m S L, Rel g m S H ∧ RL g m H L σ ∧ Aft g E m H (e L S) fun b _ _ H' => Q b H'
def tL (g : G) (E : XD) (e : Lc → Sto → R (List D)) : TA := fun σ H Q => ∃ m S L, Rel g m S H ∧ RL g m H L σ ∧ Aft g E m H (e L S) fun ds m' _ H' => ∀ vs, RVs g m' H' ds vs → Q vs H'
inductive Fl where
  | nx (L : Lc) | rt (d : D) | bk (L : Lc) | ct (L : Lc)
def fQ (g : G) (Dn : Ends) : Fl → Mp → Sto → Hp → Prop := fun f m' _ H' => match f with
  | .nx L => ∀ σ, RL g m' H' L σ → Dn.nx σ H'
  | .rt d => ∀ v, RV g m' H' d v → Dn.rt v H'
  | .bk L => ∀ σ, RL g m' H' L σ → Dn.bk σ H'
  | .ct L => ∀ σ, RL g m' H' L σ → Dn.ct σ H'
def tF (g : G) (E : XD) (f : Lc → Sto → R Fl) : TS := fun Dn σ H => ∃ m S L, Rel g m S H ∧ RL g m H L σ ∧ Aft g E m H (f L S) (fQ g Dn)
/-- operations by values -/
def rD1 (g : G) (E : XD) (f : D → Sto → R D) : V → Hp → VK → Prop := fun x H Q => ∃ m S d, Rel g m S H ∧ RV g m H d x ∧ Aft g E m H (f d S) (vQ g Q)
def rD2 (g : G) (E : XD) (f : D → D → Sto → R D) : R2 := fun x y H Q => ∃ m S d d', Rel g m S H ∧ RV g m H d x ∧ RV g m H d' y ∧ Aft g E m H (f d d' S) (vQ g Q)
def rDs (g : G) (E : XD) (f : List D → Sto → R D) : List V → Hp → VK → Prop := fun xs H Q => ∃ m S ds, Rel g m S H ∧ RVs g m H ds xs ∧ Aft g E m H (f ds S) (vQ g Q)

theorem _root_.L2.PE.imp {X : Cx} {e : Expr} {t t' : TE} (h : PE X e t) (k : ∀ σ H Q, t' σ H Q → t σ H Q) : PE X e t' := ⟨fun pins s σ H Q I q => h.run pins s σ H Q I (k σ H Q q)⟩
theorem _root_.L2.PT.imp {X : Cx} {e : Expr} {t t' : TT} (h : PT X e t) (k : ∀ σ H Q, t' σ H Q → t σ H Q) : PT X e t' := ⟨fun pins s σ H Q I q => h.run pins s σ H Q I (k σ H Q q)⟩
theorem _root_.L2.PW.imp {X : Cx} {e : Expr} {t t' : TT} (h : PW X e t) (k : ∀ σ H Q, t' σ H Q → t σ H Q) : PW X e t' := ⟨fun wh pins s σ H Q I q => h.run wh pins s σ H Q I (k σ H Q q)⟩
theorem _root_.L2.PA.imp {X : Cx} {e : List Expr} {t t' : TA} (h : PA X e t) (k : ∀ σ H Q, t' σ H Q → t σ H Q) : PA X e t' := ⟨fun pos pins s σ H Q I q => h.run pos pins s σ H Q I (k σ H Q q)⟩
theorem _root_.L2.PS.imp {X : Cx} {e : Stmt} {t t' : TS} (h : PS X e t) (k : ∀ D σ H, t' D σ H → t D σ H) : PS X e t' := ⟨fun pins s σ H D I q => h.run pins s σ H D I (k D σ H q)⟩
theorem _root_.L2.PSs.imp {X : Cx} {e : List Stmt} {t t' : TS} (h : PSs X e t) (k : ∀ D σ H, t' D σ H → t D σ H) : PSs X e t' := ⟨fun pins s σ H D I q => h.run pins s σ H D I (k D σ H q)⟩

/-! expressions -/
def eVar (i : Nat) : Lc → Sto → R D := fun L S => match L[i]? with
  | some (some d) => .ok d S
  | _ => .bad
def eC (d : D) : Lc → Sto → R D := fun _ S => .ok d S
def eUn (f : D → Sto → R D) (a : Lc → Sto → R D) : Lc → Sto → R D := fun L S => (a L S).bind fun x S1 => f x S1
def eBin (f : D → D → Sto → R D) (a b : Lc → Sto → R D) : Lc → Sto → R D := fun L S => (a L S).bind fun x S1 => (b L S1).bind fun y S2 => f x y S2
def aNil : Lc → Sto → R (List D) := fun _ S => .ok [] S
def aCons (a : Lc → Sto → R D) (r : Lc → Sto → R (List D)) : Lc → Sto → R (List D) := fun L S => (a L S).bind fun x S1 => (r L S1).bind fun xs S2 => .ok (x :: xs) S2
def eCall (f : List D → Sto → R D) (a : Lc → Sto → R (List D)) : Lc → Sto → R D := fun L S => (a L S).bind fun xs S1 => f xs S1
def eTup (a : Lc → Sto → R (List D)) : Lc → Sto → R D := fun L S => (a L S).bind fun xs S1 => if xs.length ≤ sizeLine then .ok (.tup xs) S1 else .bad
def newL (xs : List D) (S : Sto) : R D := if xs.length ≤ sizeLine then .ok (.lst xs) S else .bad
def newM (xs : List D) (S : Sto) : R D := if xs.length ≤ sizeLine then .ok (.ref S.length) (S ++ [.lst xs]) else .bad
def eLst (a : Lc → Sto → R (List D)) : Lc → Sto → R D := fun L S => (a L S).bind fun xs S1 => newL xs S1
def eLstM (a : Lc → Sto → R (List D)) : Lc → Sto → R D := fun L S => (a L S).bind fun xs S1 => newM xs S1
def truD (d : D) (S : Sto) : R Bool := match d with
  | .non => .ok false S
  | .bl b => .ok b S
  | .int i => .ok (i != 0) S
  | .str x => if x.length ≤ sizeLine then .ok ((x.length : Int) != 0) S else .bad
  | .tup ds => .ok (!ds.isEmpty) S
  | .lst ds => .ok (!ds.isEmpty) S
  | .ref n => match S[n]? with
    | some (.lst ds) => .ok (!ds.isEmpty) S
    | some (.dic ks _) => .ok (!ks.isEmpty) S
    | _ => .bad
  | _ => .bad
def eAnd (a b : Lc → Sto → R D) : Lc → Sto → R D := fun L S => (a L S).bind fun x S1 => (truD x S1).bind fun c S2 => if c = true then b L S2 else .ok x S2
def eOr (a b : Lc → Sto → R D) : Lc → Sto → R D := fun L S => (a L S).bind fun x S1 => (truD x S1).bind fun c S2 => if c = true then .ok x S2 else b L S2
def eNot (a : Lc → Sto → R D) : Lc → Sto → R D := fun L S => (a L S).bind fun x S1 => (truD x S1).bind fun c S2 => .ok (.bl (!c)) S2
def eIf (t : Lc → Sto → R Bool) (a b : Lc → Sto → R D) : Lc → Sto → R D := fun L S => (t L S).bind fun c S1 => if c = true then a L S1 else b L S1
def eChain (f f' : D → D → Sto → R D) (a b c : Lc → Sto → R D) : Lc → Sto → R D := fun L S => (a L S).bind fun x S1 => (b L S1).bind fun y S2 => (f x y S2).bind fun z S3 => match z with
  | .bl true => (c L S3).bind fun w S4 => f' y w S4
  | .bl false => .ok (.bl false) S3
  | _ => .bad
/-! tests -/
def tTru (a : Lc → Sto → R D) : Lc → Sto → R Bool := fun L S => (a L S).bind fun x S1 => truD x S1
def tBl (a : Lc → Sto → R D) : Lc → Sto → R Bool := fun L S => (a L S).bind fun x S1 => match x with
  | .bl b => .ok b S1
  | _ => .bad
def tAnd2 (a b : Lc → Sto → R Bool) : Lc → Sto → R Bool := fun L S => (a L S).bind fun c S1 => if c = true then b L S1 else .ok false S1
def tOr2 (a b : Lc → Sto → R Bool) : Lc → Sto → R Bool := fun L S => (a L S).bind fun c S1 => if c = true then .ok true S1 else b L S1
def tNot1 (a : Lc → Sto → R Bool) : Lc → Sto → R Bool := fun L S => (a L S).bind fun c S1 => .ok (!c) S1
/-! statements -/
abbrev SF := Lc → Sto → R Fl
def sNx : SF := fun L S => .ok (.nx L) S
def sSeq (a b : SF) : SF := fun L S => (a L S).bind fun f S1 => match f with
  | .nx L1 => b L1 S1
  | f => .ok f S1
def sSet (i : Nat) (e : Lc → Sto → R D) : SF := fun L S => (e L S).bind fun d S1 => .ok (.nx (L.set i (some d))) S1
def sRet (e : Lc → Sto → R D) : SF := fun L S => (e L S).bind fun d S1 => .ok (.rt d) S1
def sRetN : SF := fun _ S => .ok (.rt .non) S
def sDrop (e : Lc → Sto → R D) : SF := fun L S => (e L S).bind fun _ S1 => .ok (.nx L) S1
def sIf (t : Lc → Sto → R Bool) (a b : SF) : SF := fun L S => (t L S).bind fun c S1 => if c = true then a L S1 else b L S1
def sAsg (e : Lc → Sto → R D) (t : D → Lc → Sto → R Lc) : SF := fun L S => (e L S).bind fun d S1 => (t d L S1).bind fun L2 S2 => .ok (.nx L2) S2
def gNm (i : Nat) : D → Lc → Sto → R Lc := fun d L S => .ok (L.set i (some d)) S
def gCons2 (t : D → Lc → Sto → R Lc) (u : List D → Lc → Sto → R Lc) : List D → Lc → Sto → R Lc := fun ds L S => match ds with
  | d :: r => (t d L S).bind fun L1 S1 => u r L1 S1
  | [] => .bad
def gNil2 : List D → Lc → Sto → R Lc := fun ds L S => match ds with
  | [] => .ok L S
  | _ => .bad
def gTp (n : Nat) (t : List D → Lc → Sto → R Lc) : D → Lc → Sto → R Lc := fun d L S => match d with
  | .tup ds => if ds.length = n then t ds L S else .bad
  | _ => .bad
def gIx (o i : Lc → Sto → R D) (f : D → D → D → Sto → R Unit) : D → Lc → Sto → R Lc := fun d L S => (o L S).bind fun x S1 => (i L S1).bind fun y S2 => (f x y d S2).bind fun _ S3 => .ok L S3

section
variable {X : Cx} {g : G} {E : XD} {pos : Pos} {e c : Expr} {es rest : List Expr} {ea eb ec : Lc → Sto → R D} {a b : Expr}

theorem de_var (i : Nat) {x : Str} (hN : X.N[i]? = some x := by rfl) (hv : Vis X.env.scope x := by first | exact Or.inl rfl | exact Or.inr (Or.inl rfl) | exact Or.inr (Or.inr rfl)) (hd : (x == ("__debug__" : Str)) = false := by decide)
    (hcd : (x == ("__classdict__" : Str)) = false := by decide) : PE X (.Name x pos) (tD g E (eVar i)) := by
  refine (pe_var hN hv hd hcd).imp fun σ H Q h => ?_
  obtain ⟨m, S, L, r, l, q⟩ := h
  unfold eVar at q
  split at q
  · rename_i d e
    obtain ⟨v, e1, e2⟩ := l.2 i d e
    exact ⟨v, e1, q.ok r v e2⟩
  · exact q.elim
theorem de_c {v : V} (d : D) (h : PE X e (tC v)) (hd : ∀ m H, RV g m H d v) : PE X e (tD g E (eC d)) := by
  refine h.imp fun σ H Q h => ?_
  obtain ⟨m, S, L, r, l, q⟩ := h
  exact q.ok r v (hd m H)
theorem de_int {i : Int} {j : Nat} : PE X (.Constant (.int i) j pos) (tD g E (eC (.int i))) := de_c _ pe_int fun _ _ => rv_int
theorem de_bl {i : Bool} {j : Nat} : PE X (.Constant (.bool i) j pos) (tD g E (eC (.bl i))) := de_c _ pe_bl fun _ _ => rv_bl
theorem de_str {i : Str} {j : Nat} : PE X (.Constant (.str i) j pos) (tD g E (eC (.str i))) := de_c _ pe_str fun _ _ => rv_str
theorem de_non {j : Nat} : PE X (.Constant .none j pos) (tD g E (eC .non)) := de_c _ pe_non fun _ _ => rv_non
theorem de_un {op : UnaryOp} {f : D → Sto → R D} (ho : UnR X (unaryOp op) (rD1 g E f)) (ha : PE X a (tD g E ea)) : PE X (.UnaryOp op a pos) (tD g E (eUn f ea)) := by
  refine (pe_un ho ha).imp fun σ H Q h => ?_
  obtain ⟨m, S, L, r, l, q⟩ := h
  refine ⟨m, S, L, r, l, (Aft.bind q).mono fun d m1 S1 H1 e1 r1 q1 v rv => ?_⟩
  exact ⟨m1, S1, d, r1, rv, q1⟩
/-- two in a row -/
theorem bin2 {f : D → D → Sto → R D} {σ : St} {H : Hp} {Q : VK} (h : tD g E (eBin f ea eb) σ H Q) : tOp (rD2 g E f) (tD g E ea) (tD g E eb) σ H Q := by
  obtain ⟨m, S, L, r, l, q⟩ := h
  refine ⟨m, S, L, r, l, (Aft.bind q).mono fun d m1 S1 H1 e1 r1 q1 v rv => ?_⟩
  refine ⟨m1, S1, L, r1, l.ext e1, (Aft.bind q1).mono fun d' m2 S2 H2 e2 r2 q2 v' rv' => ?_⟩
  exact ⟨m2, S2, d, d', r2, rv.ext e2, rv', q2⟩
theorem de_op {op : Operator} {f : D → D → Sto → R D} (ho : OpR X (binaryOp op) (rD2 g E f)) (ha : PE X a (tD g E ea)) (hb : PE X b (tD g E eb)) : PE X (.BinOp a op b pos) (tD g E (eBin f ea eb)) :=
  (pe_op ho ha hb).imp fun σ H Q h => bin2 h
theorem de_cmp {op : CmpOp} {f : D → D → Sto → R D} (ho : OpR X (compareOp op) (rD2 g E f)) (ha : PE X a (tD g E ea)) (hb : PE X b (tD g E eb)) (hm : behindInMarks op b = false) : PE X (.Compare a [op] [b] pos) (tD g E (eBin f ea eb)) :=
  (pe_cmpR ho ha hb hm).imp fun σ H Q h => bin2 h
theorem tBl_test {σ : St} {H : Hp} {Q : Bool → Hp → Prop} {e : Lc → Sto → R D} (h : tT g E (tBl e) σ H Q) : tTest (tD g E e) σ H Q := by
  obtain ⟨m, S, L, r, l, q⟩ := h
  refine ⟨m, S, L, r, l, (Aft.bind q).mono fun d m1 S1 H1 e1 r1 q1 v rv => ?_⟩
  cases d with
  | bl b => exact ⟨b, of_bl rv, q1.ok r1⟩
  | _ => exact q1.elim
theorem tTest.imp {t t' : TE} (k : ∀ σ H Q, t' σ H Q → t σ H Q) {σ : St} {H : Hp} {Q : Bool → Hp → Prop} (h : tTest t' σ H Q) : tTest t σ H Q := k _ _ _ h
theorem dt_cmp {op : CmpOp} {f : D → D → Sto → R D} (ho : OpR X (compareOp op) (rD2 g E f)) (ha : PE X a (tD g E ea)) (hb : PE X b (tD g E eb)) (hm : behindInMarks op b = false) : PT X (.Compare a [op] [b] pos) (tT g E (tBl (eBin f ea eb))) :=
  (pt_cmpR ho ha hb hm).imp fun σ H Q h => tTest.imp (fun _ _ _ h => bin2 h) (tBl_test h)
theorem de_ix {f : D → D → Sto → R D} (ho : IxR X (rD2 g E f)) (ha : PE X a (tD g E ea)) (hb : PE X b (tD g E eb)) (hs : PlainIx b := by intro _ _; rfl) : PE X (.Subscript a b pos) (tD g E (eBin f ea eb)) :=
  (pe_ix ho ha hb hs).imp fun σ H Q h => bin2 h
theorem da_nil : PA X [] (tL g E aNil) := pa_nil.imp fun σ H Q h => by
  obtain ⟨m, S, L, r, l, q⟩ := h
  exact q.ok r _ .nil
theorem da_cons {ls : Lc → Sto → R (List D)} (ha : PE X e (tD g E ea)) (hr : PA X es (tL g E ls)) (hs : starEach (e :: es) X.env = (false, eval e X.env) :: starEach es X.env := by rfl) : PA X (e :: es) (tL g E (aCons ea ls)) := by
  refine (pa_cons ha hr hs).imp fun σ H Q h => ?_
  obtain ⟨m, S, L, r, l, q⟩ := h
  refine ⟨m, S, L, r, l, (Aft.bind q).mono fun d m1 S1 H1 e1 r1 q1 v rv => ?_⟩
  refine ⟨m1, S1, L, r1, l.ext e1, (Aft.bind q1).mono fun ds m2 S2 H2 e2 r2 q2 vs rvs => ?_⟩
  exact q2.ok r2 _ (.cons (rv.ext e2) rvs)
theorem calls {f : List D → Sto → R D} {ls : Lc → Sto → R (List D)} {σ : St} {H : Hp} {Q : VK} (h : tD g E (eCall f ls) σ H Q) : tCB (rDs g E f) (tL g E ls) σ H Q := by
  obtain ⟨m, S, L, r, l, q⟩ := h
  refine ⟨m, S, L, r, l, (Aft.bind q).mono fun ds m1 S1 H1 e1 r1 q1 vs rvs => ?_⟩
  exact ⟨m1, S1, ds, r1, rvs, q1⟩
theorem de_callB {f : List D → Sto → R D} {ls : Lc → Sto → R (List D)} {id : String} {x : Str} {p : Pos} (hc : CallR X (.builtin id) (rDs g E f)) (hg : Gl X x) (hm : X.mg x = none) (hv : bootBuiltins x = some (.builtin id)) (ha : PA X (e :: es) (tL g E ls)) (hn : x ≠ "__name__" := by decide) (hdb : (x == ("__debug__" : Str)) = false := by decide)
    (he : starEach (e :: es) X.env = (false, eval e X.env) :: starEach es X.env := by rfl) (hpl : (backTo pos (starEach es X.env)).any (·.1) = false := by rfl) : PE X (.Call (.Name x p) (e :: es) [] pos) (tD g E (eCall f ls)) :=
  (pe_callB hc hg hm hv ha hn hdb he hpl).imp fun σ H Q h => calls h
theorem de_callTy {f : List D → Sto → R D} {ls : Lc → Sto → R (List D)} {id : String} {x : Str} {p : Pos} (hc : CallR X (.type id) (rDs g E f)) (hg : Gl X x) (hm : X.mg x = none) (hv : bootBuiltins x = some (.type id)) (ha : PA X (e :: es) (tL g E ls)) (hn : x ≠ "__name__" := by decide) (hdb : (x == ("__debug__" : Str)) = false := by decide)
    (he : starEach (e :: es) X.env = (false, eval e X.env) :: starEach es X.env := by rfl) (hpl : (backTo pos (starEach es X.env)).any (·.1) = false := by rfl) : PE X (.Call (.Name x p) (e :: es) [] pos) (tD g E (eCall f ls)) :=
  (pe_callTy hc hg hm hv ha hn hdb he hpl).imp fun σ H Q h => calls h
theorem de_tup {ls : Lc → Sto → R (List D)} {k : Nat} (ha : PA X es (tL g E ls)) : PE X (.Tuple es k pos) (tD g E (eTup ls)) := by
  refine (pe_tup ha).imp fun σ H Q h => ?_
  obtain ⟨m, S, L, r, l, q⟩ := h
  refine ⟨m, S, L, r, l, (Aft.bind q).mono fun ds m1 S1 H1 e1 r1 q1 vs rvs => ?_⟩
  split at q1
  · rename_i hz
    refine ⟨by rw [rvs.length]; exact hz, fun p hp => ?_⟩
    exact q1.at (ext_lay r1 hp) (r1.lay hp) _ (rv_tupv (.inl ⟨upd_same, r1.un hp⟩) (rvs.ext (ext_lay r1 hp)))
  · exact q1.elim
theorem newL_run {xs : List D} {vs : List V} {m : Mp} {S : Sto} {H : Hp} {Q : VK} (q : Aft g E m H (newL xs S) (vQ g Q)) (r : Rel g m S H) (rvs : RVs g m H xs vs) : vs.length ≤ sizeLine ∧ ∀ p, H p = none → Q (.ref p) (upd H p (.lst vs)) := by
  unfold newL at q
  split at q
  · rename_i hz
    refine ⟨by rw [rvs.length]; exact hz, fun p hp => ?_⟩
    exact q.at (ext_lay r hp) (r.lay hp) _ (rv_lst upd_same (r.un hp) (rvs.ext (ext_lay r hp)))
  · exact q.elim
theorem newM_run {xs : List D} {vs : List V} {m : Mp} {S : Sto} {H : Hp} {Q : VK} (q : Aft g E m H (newM xs S) (vQ g Q)) (r : Rel g m S H) (rvs : RVs g m H xs vs) : vs.length ≤ sizeLine ∧ ∀ p, H p = none → Q (.ref p) (upd H p (.lst vs)) := by
  unfold newM at q
  split at q
  · rename_i hz
    refine ⟨by rw [rvs.length]; exact hz, fun p hp => ?_⟩
    exact q.at (ext_new r hp) (r.alloc hp ⟨vs, rfl, rvs⟩) _ (rv_ref r.last)
  · exact q.elim
theorem de_lst {ls : Lc → Sto → R (List D)} (ha : PA X es (tL g E ls)) : PE X (.List es pos) (tD g E (eLst ls)) := by
  refine (pe_lst ha).imp fun σ H Q h => ?_
  obtain ⟨m, S, L, r, l, q⟩ := h
  refine ⟨m, S, L, r, l, (Aft.bind q).mono fun ds m1 S1 H1 e1 r1 q1 vs rvs => ?_⟩
  exact newL_run q1 r1 rvs
theorem de_lstM {ls : Lc → Sto → R (List D)} (ha : PA X es (tL g E ls)) : PE X (.List es pos) (tD g E (eLstM ls)) := by
  refine (pe_lst ha).imp fun σ H Q h => ?_
  obtain ⟨m, S, L, r, l, q⟩ := h
  refine ⟨m, S, L, r, l, (Aft.bind q).mono fun ds m1 S1 H1 e1 r1 q1 vs rvs => ?_⟩
  exact newM_run q1 r1 rvs
/-- truth -/
theorem tru_run {m : Mp} {S : Sto} {H : Hp} {d : D} {v : V} {Q : Bool → Mp → Sto → Hp → Prop} (hK : X.K = g.K) (q : Aft g E m H (truD d S) Q) (r : Rel g m S H) (rv : RV g m H d v) : ∃ k, TruV X.K v H k ∧ truD d S = .ok k S := by
  rw [hK]
  unfold truD at q ⊢
  cases d with
  | non => rw [of_non rv]; exact ⟨false, rfl, rfl⟩
  | bl b => rw [of_bl rv]; exact ⟨b, rfl, rfl⟩
  | int i => rw [of_int rv]; exact ⟨_, rfl, rfl⟩
  | str x =>
    rw [of_str rv]
    simp only at q ⊢
    split at q
    · rename_i hz
      rw [if_pos hz]
      exact ⟨_, ⟨hz, rfl⟩, rfl⟩
    · exact q.elim
  | tup ds =>
    obtain ⟨a, vs, rfl, h1, h2⟩ := of_tup rv
    refine ⟨!ds.isEmpty, .inr (.inl ⟨vs, h1, ?_⟩), rfl⟩
    have := h2.length
    cases ds with
    | nil => rw [h2.nil_iff]; rfl
    | cons _ _ => obtain ⟨_, _, rfl, _⟩ := h2.cons_iff; rfl
  | lst ds =>
    obtain ⟨a, vs, rfl, h1, _, h2⟩ := of_lst rv
    refine ⟨!ds.isEmpty, .inl ⟨vs, .of h1, ?_⟩, rfl⟩
    cases ds with
    | nil => rw [h2.nil_iff]; rfl
    | cons _ _ => obtain ⟨_, _, rfl, _⟩ := h2.cons_iff; rfl
  | ref n =>
    simp only at q ⊢
    split at q
    · rename_i ds e
      obtain ⟨a, o, rfl, _, h1, vs, rfl, h2⟩ := r.at rv e (by intro z; cases z)
      refine ⟨!ds.isEmpty, .inl ⟨vs, .of h1, ?_⟩, rfl⟩
      cases ds with
      | nil => rw [h2.nil_iff]; rfl
      | cons _ _ => obtain ⟨_, _, rfl, _⟩ := h2.cons_iff; rfl
    · rename_i ks ds e
      obtain ⟨a, o, rfl, _, h1, kvs, rfl, h2, _⟩ := r.at rv e (by intro z; cases z)
      refine ⟨!ks.isEmpty, .inr (.inr ⟨kvs, h1, ?_⟩), rfl⟩
      rw [← h2]
      cases kvs <;> rfl
    · exact q.elim
  | ty _ => exact q.elim
  | kref _ => exact q.elim
  | dic _ _ => exact q.elim
  | dct _ _ => exact q.elim
  | obj _ _ _ => exact q.elim
  | scr _ => exact q.elim
theorem dt_tru (hK : X.K = g.K) (ha : PE X a (tD g E ea)) (he : ∀ whole, isTrue a X.env whole = (do let v ← whole; standAt a.pos; holding [v] (truthy v)) := by intro _; rfl) : PT X a (tT g E (tTru ea)) := by
  refine (pt_truth ha he).imp fun σ H Q h => ?_
  obtain ⟨m, S, L, r, l, q⟩ := h
  refine ⟨m, S, L, r, l, (Aft.bind q).mono fun d m1 S1 H1 e1 r1 q1 v rv => ?_⟩
  obtain ⟨k, h1, h2⟩ := tru_run hK q1 r1 rv
  rw [h2] at q1
  exact ⟨k, h1, q1.ok r1⟩
theorem de_and (hK : X.K = g.K) (ha : PE X a (tD g E ea)) (hb : PE X (.BoolOp .And (b :: rest) pos) (tD g E eb)) : PE X (.BoolOp .And (a :: b :: rest) pos) (tD g E (eAnd ea eb)) := by
  refine (pe_andT ha hb).imp fun σ H Q h => ?_
  obtain ⟨m, S, L, r, l, q⟩ := h
  refine ⟨m, S, L, r, l, (Aft.bind q).mono fun d m1 S1 H1 e1 r1 q1 v rv => ?_⟩
  obtain ⟨k, h1, h2⟩ := tru_run hK (Aft.bind q1) r1 rv
  rw [h2] at q1
  refine ⟨k, h1, ?_⟩
  cases k with
  | true => exact ⟨m1, S1, L, r1, l.ext e1, q1⟩
  | false => exact q1.ok r1 _ rv
theorem de_or (hK : X.K = g.K) (ha : PE X a (tD g E ea)) (hb : PE X (.BoolOp .Or (b :: rest) pos) (tD g E eb)) : PE X (.BoolOp .Or (a :: b :: rest) pos) (tD g E (eOr ea eb)) := by
  refine (pe_orT ha hb).imp fun σ H Q h => ?_
  obtain ⟨m, S, L, r, l, q⟩ := h
  refine ⟨m, S, L, r, l, (Aft.bind q).mono fun d m1 S1 H1 e1 r1 q1 v rv => ?_⟩
  obtain ⟨k, h1, h2⟩ := tru_run hK (Aft.bind q1) r1 rv
  rw [h2] at q1
  refine ⟨k, h1, ?_⟩
  cases k with
  | false => exact ⟨m1, S1, L, r1, l.ext e1, q1⟩
  | true => exact q1.ok r1 _ rv
theorem de_not (hK : X.K = g.K) (ha : PE X a (tD g E ea)) : PE X (.UnaryOp .Not a pos) (tD g E (eNot ea)) := by
  refine (pe_notT ha).imp fun σ H Q h => ?_
  obtain ⟨m, S, L, r, l, q⟩ := h
  refine ⟨m, S, L, r, l, (Aft.bind q).mono fun d m1 S1 H1 e1 r1 q1 v rv => ?_⟩
  obtain ⟨k, h1, h2⟩ := tru_run hK (Aft.bind q1) r1 rv
  rw [h2] at q1
  exact ⟨k, h1, q1.ok r1 _ rv_bl⟩
variable {ta tb : Lc → Sto → R Bool}
theorem dw_and1 (ha : PT X a (tT g E ta)) : PW X (.BoolOp .And [a] pos) (tT g E ta) := pw_and1 ha
theorem dw_or1 (ha : PT X a (tT g E ta)) : PW X (.BoolOp .Or [a] pos) (tT g E ta) := pw_or1 ha
theorem dw_and (ha : PT X a (tT g E ta)) (hb : PW X (.BoolOp .And (b :: rest) pos) (tT g E tb)) : PW X (.BoolOp .And (a :: b :: rest) pos) (tT g E (tAnd2 ta tb)) := by
  refine (pw_and ha hb).imp fun σ H Q h => ?_
  obtain ⟨m, S, L, r, l, q⟩ := h
  refine ⟨m, S, L, r, l, (Aft.bind q).mono fun c m1 S1 H1 e1 r1 q1 => ?_⟩
  cases c with
  | true => exact ⟨m1, S1, L, r1, l.ext e1, q1⟩
  | false => exact q1.ok r1
theorem dw_or (ha : PT X a (tT g E ta)) (hb : PW X (.BoolOp .Or (b :: rest) pos) (tT g E tb)) : PW X (.BoolOp .Or (a :: b :: rest) pos) (tT g E (tOr2 ta tb)) := by
  refine (pw_or ha hb).imp fun σ H Q h => ?_
  obtain ⟨m, S, L, r, l, q⟩ := h
  refine ⟨m, S, L, r, l, (Aft.bind q).mono fun c m1 S1 H1 e1 r1 q1 => ?_⟩
  cases c with
  | false => exact ⟨m1, S1, L, r1, l.ext e1, q1⟩
  | true => exact q1.ok r1
theorem dt_not (ha : PT X a (tT g E ta)) : PT X (.UnaryOp .Not a pos) (tT g E (tNot1 ta)) := by
  refine (pt_not ha).imp fun σ H Q h => ?_
  obtain ⟨m, S, L, r, l, q⟩ := h
  refine ⟨m, S, L, r, l, (Aft.bind q).mono fun c m1 S1 H1 e1 r1 q1 => q1.ok r1⟩
theorem de_if (hc : PT X c (tT g E ta)) (ha : PE X a (tD g E ea)) (hb : PE X b (tD g E eb)) : PE X (.IfExp c a b pos) (tD g E (eIf ta ea eb)) := by
  refine (pe_ifExp hc ha hb).imp fun σ H Q h => ?_
  obtain ⟨m, S, L, r, l, q⟩ := h
  refine ⟨m, S, L, r, l, (Aft.bind q).mono fun k m1 S1 H1 e1 r1 q1 => ?_⟩
  cases k with
  | true => exact ⟨m1, S1, L, r1, l.ext e1, q1⟩
  | false => exact ⟨m1, S1, L, r1, l.ext e1, q1⟩
theorem chain2 {f f' : D → D → Sto → R D} {σ : St} {H : Hp} {Q : VK} (h : tD g E (eChain f f' ea eb ec) σ H Q) : tChain (rD2 g E f) (rD2 g E f') (tD g E ea) (tD g E eb) (tD g E ec) σ H Q := by
  obtain ⟨m, S, L, r, l, q⟩ := h
  refine ⟨m, S, L, r, l, (Aft.bind q).mono fun d m1 S1 H1 e1 r1 q1 v rv => ?_⟩
  refine ⟨m1, S1, L, r1, l.ext e1, (Aft.bind q1).mono fun d' m2 S2 H2 e2 r2 q2 v' rv' => ?_⟩
  refine ⟨m2, S2, d, d', r2, rv.ext e2, rv', (Aft.bind q2).mono fun z m3 S3 H3 e3 r3 q3 vz rz => ?_⟩
  cases z with
  | bl k =>
    refine ⟨k, of_bl rz, ?_⟩
    cases k with
    | true =>
      refine ⟨m3, S3, L, r3, (l.ext e1).ext (e2.trans e3), (Aft.bind q3).mono fun w m4 S4 H4 e4 r4 q4 vw rw' => ?_⟩
      exact ⟨m4, S4, d', w, r4, rv'.ext (e3.trans e4), rw', q4⟩
    | false => exact q3.ok r3 _ rv_bl
  | _ => exact q3.elim
theorem de_chain {op op' : CmpOp} {f f' : D → D → Sto → R D} (ho : OpR X (compareOp op) (rD2 g E f)) (ho' : OpR X (compareOp op') (rD2 g E f')) (ha : PE X a (tD g E ea)) (hb : PE X b (tD g E eb)) (hc : PE X c (tD g E ec))
    (hm : lastMarks [op, op'] [b, c] = false := by with_unfolding_all rfl) : PE X (.Compare a [op, op'] [b, c] pos) (tD g E (eChain f f' ea eb ec)) :=
  (pe_chain ho ho' ha hb hc hm).imp fun σ H Q h => chain2 h
theorem dt_chain {op op' : CmpOp} {f f' : D → D → Sto → R D} (ho : OpR X (compareOp op) (rD2 g E f)) (ho' : OpR X (compareOp op') (rD2 g E f')) (ha : PE X a (tD g E ea)) (hb : PE X b (tD g E eb)) (hc : PE X c (tD g E ec))
    (hm : lastMarks [op, op'] [b, c] = false := by with_unfolding_all rfl) : PT X (.Compare a [op, op'] [b, c] pos) (tT g E (tBl (eChain f f' ea eb ec))) :=
  (pt_chain ho ho' ha hb hc hm).imp fun σ H Q h => tTest.imp (fun _ _ _ h => chain2 h) (tBl_test h)
end

/-! statements -/
section
variable {X : Cx} {g : G} {E : XD} {pos : Pos} {e c : Expr} {ea eb : Lc → Sto → R D} {st : Stmt} {rest sa sb : List Stmt} {fa fb : SF} {ta : Lc → Sto → R Bool}
theorem ds_nil : PSs X [] (tF g E sNx) := pss_nil.imp fun D σ H h => by
  obtain ⟨m, S, L, r, l, q⟩ := h
  exact q.ok r σ l
theorem ds_cons (h1 : PS X st (tF g E fa)) (h2 : PSs X rest (tF g E fb)) : PSs X (st :: rest) (tF g E (sSeq fa fb)) := by
  refine (pss_cons h1 h2).imp fun D σ H h => ?_
  obtain ⟨m, S, L, r, l, q⟩ := h
  refine ⟨m, S, L, r, l, (Aft.bind q).mono fun f m1 S1 H1 e1 r1 q1 => ?_⟩
  cases f with
  | nx L1 => exact fun σ1 l1 => ⟨m1, S1, L1, r1, l1, q1⟩
  | rt d => exact fun v rv => q1.ok r1 v rv
  | bk L1 => exact fun σ1 l1 => q1.ok r1 σ1 l1
  | ct L1 => exact fun σ1 l1 => q1.ok r1 σ1 l1
theorem ds_one (h1 : PS X st (tF g E fa)) : PSs X [st] (tF g E fa) := pss_one h1
theorem ds_pass : PS X (.Pass pos) (tF g E sNx) := ps_pass.imp fun D σ H h => by
  obtain ⟨m, S, L, r, l, q⟩ := h
  exact q.ok r σ l
theorem ds_ret (he : PE X e (tD g E ea)) : PS X (.Return (some e) pos) (tF g E (sRet ea)) := by
  refine (ps_ret he).imp fun D σ H h => ?_
  obtain ⟨m, S, L, r, l, q⟩ := h
  exact ⟨m, S, L, r, l, (Aft.bind q).mono fun d m1 S1 H1 e1 r1 q1 v rv => q1.ok r1 v rv⟩
theorem ds_retN : PS X (.Return none pos) (tF g E sRetN) := ps_retN.imp fun D σ H h => by
  obtain ⟨m, S, L, r, l, q⟩ := h
  exact q.ok r _ rv_non
theorem ds_expr (he : PE X e (tD g E ea)) (hs : swapsWith e none pos.line X.env = pure false := by rfl) : PS X (.Expr e pos) (tF g E (sDrop ea)) := by
  refine (ps_expr he hs).imp fun D σ H h => ?_
  obtain ⟨m, S, L, r, l, q⟩ := h
  exact ⟨m, S, L, r, l, (Aft.bind q).mono fun d m1 S1 H1 e1 r1 q1 v rv => q1.ok r1 _ (l.ext e1)⟩
theorem ds_if (hc : PT X c (tT g E ta)) (ha : PSs X sa (tF g E fa)) (hb : PSs X sb (tF g E fb)) : PS X (.If c sa sb pos) (tF g E (sIf ta fa fb)) := by
  refine (ps_if hc ha hb).imp fun D σ H h => ?_
  obtain ⟨m, S, L, r, l, q⟩ := h
  refine ⟨m, S, L, r, l, (Aft.bind q).mono fun k m1 S1 H1 e1 r1 q1 => ?_⟩
  cases k with
  | true => exact ⟨m1, S1, L, r1, l.ext e1, q1⟩
  | false => exact ⟨m1, S1, L, r1, l.ext e1, q1⟩
theorem ds_set {i : Nat} {x : Str} {pos' : Pos} (hN : X.N.Nodup) (hi : X.N[i]? = some x) (hx : L2.Loc X.env.scope x) (he : PE X e (tD g E ea)) (hs : swapsWith e (some (.Name x pos')) pos.line X.env = pure false := by rfl) (hf : X.fn x = true ∨ X.env.scope.names.lookup x = some .local := by first | exact .inl rfl | exact .inr rfl | assumption) :
    PS X (.Assign [.Name x pos'] e pos) (tF g E (sSet i ea)) := by
  refine (ps_set hN hi hx he hs hf).imp fun D σ H h => ?_
  obtain ⟨m, S, L, r, l, q⟩ := h
  exact ⟨m, S, L, r, l, (Aft.bind q).mono fun d m1 S1 H1 e1 r1 q1 v rv => q1.ok r1 _ ((l.ext e1).set rv i)⟩
/-! targets; P: what is known of the slots behind -/
abbrev AnyP : St → St → Prop := fun _ _ => True
abbrev WpP (vs : List Nat) : St → St → Prop := fun σ σ2 => wipe σ2 vs = wipe σ vs
def gQ (g : G) (P : St → St → Prop) (σ0 : St) (Q : St → Hp → Prop) : Lc → Mp → Sto → Hp → Prop := fun L m' _ H' => ∀ σ, RL g m' H' L σ → P σ0 σ → Q σ H'
def tG (g : G) (E : XD) (P : St → St → Prop) (t : D → Lc → Sto → R Lc) : TG := fun v σ H Q => ∃ m S L d, Rel g m S H ∧ RL g m H L σ ∧ RV g m H d v ∧ Aft g E m H (t d L S) (gQ g P σ Q)
def tGs (g : G) (E : XD) (P : St → St → Prop) (t : List D → Lc → Sto → R Lc) : TGs := fun vs σ H Q => ∃ m S L ds, Rel g m S H ∧ RL g m H L σ ∧ RVs g m H ds vs ∧ Aft g E m H (t ds L S) (gQ g P σ Q)
theorem _root_.L2.PG.imp {X : Cx} {e : Expr} {t t' : TG} (h : PG X e t) (k : ∀ v σ H Q, t' v σ H Q → t v σ H Q) : PG X e t' := ⟨fun pins s σ H v u Q I r q => h.run pins s σ H v u Q I r (k v σ H Q q)⟩
theorem _root_.L2.PGs.imp {X : Cx} {e : List Expr} {t t' : TGs} (h : PGs X e t) (k : ∀ v σ H Q, t' v σ H Q → t v σ H Q) : PGs X e t' := ⟨fun pins s σ H v u Q I r q => h.run pins s σ H v u Q I r (k v σ H Q q)⟩
theorem wipe_set {σ : St} {i : Nat} {x : Option V} : ∀ {vs : List Nat}, i ∈ vs → wipe (σ.set i x) vs = wipe σ vs
  | [], h => by cases h
  | v :: vs, h => by
    show (wipe (σ.set i x) vs).set v none = (wipe σ vs).set v none
    by_cases hi : i = v
    · subst hi
      have : ∀ vs : List Nat, (wipe (σ.set i x) vs).set i none = (wipe σ vs).set i none := by
        intro vs
        induction vs with
        | nil => show (σ.set i x).set i none = σ.set i none; rw [List.set_set]
        | cons w vs ih =>
          show ((wipe (σ.set i x) vs).set w none).set i none = ((wipe σ vs).set w none).set i none
          by_cases hw : w = i
          · subst hw; rw [List.set_set, List.set_set, ih]
          · rw [List.set_comm _ _ hw, ih, List.set_comm _ _ (Ne.symm hw)]
      exact this vs
    · rw [wipe_set (List.mem_of_ne_of_mem hi h)]
theorem wp_nm {vs : List Nat} {i : Nat} (h : i ∈ vs) (σ : St) (v : V) : WpP vs σ (σ.set i (some v)) := wipe_set h
variable {P : St → St → Prop}
theorem dg_name {i : Nat} {x : Str} (hN : X.N.Nodup) (hi : X.N[i]? = some x) (hx : L2.Loc X.env.scope x) (hP : ∀ (σ : St) (v : V), P σ (σ.set i (some v))) (hf : X.fn x = true ∨ X.env.scope.names.lookup x = some .local := by first | exact .inl rfl | exact .inr rfl | assumption) : PG X (.Name x pos) (tG g E P (gNm i)) := by
  refine (pg_name hN hi hx hf).imp fun v σ H Q h => ?_
  obtain ⟨m, S, L, d, r, l, rv, q⟩ := h
  exact q.ok r _ (l.set rv i) (hP σ v)
theorem dgs_nil (hP : ∀ σ, P σ σ) : PGs X [] (tGs g E P gNil2) := by
  refine pgs_nil.imp fun v σ H Q h => ?_
  obtain ⟨m, S, L, ds, r, l, rv, q⟩ := h
  cases ds with
  | nil => exact ⟨rv.nil_iff, q.ok r _ l (hP σ)⟩
  | cons _ _ => exact q.elim
theorem dgs_cons {es : List Expr} {t : D → Lc → Sto → R Lc} {u : List D → Lc → Sto → R Lc} (hP : ∀ a b c, P a b → P b c → P a c) (h1 : PG X e (tG g E P t)) (h2 : PGs X es (tGs g E P u)) (hs : (assignEach (e :: es) X.env).map (·.2) = assign e X.env :: (assignEach es X.env).map (·.2) := by rfl) : PGs X (e :: es) (tGs g E P (gCons2 t u)) := by
  refine (pgs_cons h1 h2 hs).imp fun v σ H Q h => ?_
  obtain ⟨m, S, L, ds, r, l, rv, q⟩ := h
  cases ds with
  | nil => exact q.elim
  | cons d ds =>
    obtain ⟨v1, r1, rfl, h1, h2⟩ := rv.cons_iff
    refine ⟨v1, r1, rfl, m, S, L, d, r, l, h1, (Aft.bind q).mono fun L1 m1 S1 H1 e1 r1 q1 σ1 l1 p1 => ?_⟩
    exact ⟨m1, S1, L1, ds, r1, l1, h2.ext e1, q1.mono fun L2 m2 S2 H2 e2 r2 q2 σ2 l2 p2 => q2 σ2 l2 (hP _ _ _ p1 p2)⟩
theorem dg_tup {es : List Expr} {k n : Nat} {t : List D → Lc → Sto → R Lc} (hK : X.K = g.K) (hc : X.calm = true) (h : PGs X es (tGs g E P t)) (hn : (assignEach es X.env).length = n := by rfl) (hst : (assignEach es X.env).findIdx? (·.1) = none := by rfl) :
    PG X (.Tuple es k pos) (tG g E P (gTp n t)) := by
  refine (pg_tup hc h hn hst).imp fun v σ H Q h => ?_
  obtain ⟨m, S, L, d, r, l, rv, q⟩ := h
  unfold gTp at q
  split at q
  · rename_i ds
    split at q
    · rename_i hz
      obtain ⟨a, vs, rfl, h1, h2⟩ := of_tup rv
      exact ⟨a, vs, rfl, by rw [hK]; exact h1, by rw [h2.length]; exact hz, m, S, L, ds, r, l, h2, q⟩
    · exact q.elim
  · exact q.elim
theorem ds_asg {tg : Expr} {t : D → Lc → Sto → R Lc} (he : PE X e (tD g E ea)) (hg : PG X tg (tG g E AnyP t)) (hs : swapsWithSole [tg] e pos.line X.env = pure false := by rfl) (hw : swappedStores [tg] e X.env = pure none := by rfl)
    (h1 : (assignEach [tg] X.env).map (·.2) = [assign tg X.env] := by rfl) : PS X (.Assign [tg] e pos) (tF g E (sAsg ea t)) := by
  refine (ps_asg he hg hs hw h1).imp fun D σ H h => ?_
  obtain ⟨m, S, L, r, l, q⟩ := h
  refine ⟨m, S, L, r, l, (Aft.bind q).mono fun d m1 S1 H1 e1 r1 q1 v rv => ?_⟩
  refine ⟨m1, S1, L, d, r1, l.ext e1, rv, (Aft.bind q1).mono fun L2 m2 S2 H2 e2 r2 q2 => ?_⟩
  exact fun σ2 l2 _ => q2.ok r2 σ2 l2
def rSet (g : G) (E : XD) (f : D → D → D → Sto → R Unit) : TSet := fun o i v H Q => ∃ m S d1 d2 d3, Rel g m S H ∧ RV g m H d1 o ∧ RV g m H d2 i ∧ RV g m H d3 v ∧ Aft g E m H (f d1 d2 d3 S) fun _ m' S' H' => Q H'
theorem dg_ix {o i : Expr} {f : D → D → D → Sto → R Unit} {eo ei : Lc → Sto → R D} (hP : ∀ σ, P σ σ) (ho : PE X o (tD g E eo)) (hi : PE X i (tD g E ei)) (hs : PSet X (rSet g E f))
    (ha : ∀ v, assign (.Subscript o i pos) X.env v = (do
      let ov ← holding [v] (eval o X.env)
      let iv ← holding [v, ov] (eval i X.env)
      standAt pos
      holding [v, ov, iv] (setItem ov iv v)
      release [v, ov, iv] []) := by intro _; rfl) : PG X (.Subscript o i pos) (tG g E P (gIx eo ei f)) := by
  refine (pg_sub ho hi hs ha).imp fun v σ H Q h => ?_
  obtain ⟨m, S, L, d, r, l, rv, q⟩ := h
  refine ⟨m, S, L, r, l, (Aft.bind q).mono fun d1 m1 S1 H1 e1 r1 q1 v1 rv1 => ?_⟩
  refine ⟨m1, S1, L, r1, l.ext e1, (Aft.bind q1).mono fun d2 m2 S2 H2 e2 r2 q2 v2 rv2 => ?_⟩
  refine ⟨m2, S2, d1, d2, d, r2, rv1.ext e2, rv2, rv.ext (e1.trans e2), (Aft.bind q2).mono fun _ m3 S3 H3 e3 r3 q3 => ?_⟩
  exact q3.ok r3 σ (l.ext (e1.trans (e2.trans e3))) (hP σ)
end
end VL

namespace VL
open PySem PySem.Spec PyProof.Rows L2

mutual
def D.beq : D → D → Bool
  | .non, .non => true
  | .bl a, .bl b => a == b
  | .int a, .int b => a == b
  | .str a, .str b => decide (a = b)
  | .ty a, .ty b => a == b
  | .tup a, .tup b => D.beqs a b
  | .lst a, .lst b => D.beqs a b
  | .dic a x, .dic b y => decide (a = b) && D.beqs x y
  | .dct a x, .dct b y => decide (a = b) && D.beqs x y
  | .obj a k x, .obj b l y => decide (a = b) && (decide (k = l) && D.beqs x y)
  | .scr a, .scr b => decide (a = b)
  | .ref a, .ref b => a == b
  | .kref a, .kref b => a == b
  | _, _ => false
def D.beqs : List D → List D → Bool
  | [], [] => true
  | a :: as, b :: bs => D.beq a b && D.beqs as bs
  | _, _ => false
end
mutual
theorem D.beq_eq : ∀ {a b : D}, D.beq a b = true → a = b
  | .non, b, h => by cases b <;> simp [D.beq] at h; rfl
  | .bl _, b, h => by cases b <;> simp [D.beq] at h; subst h; rfl
  | .int _, b, h => by cases b <;> simp [D.beq] at h; subst h; rfl
  | .str _, b, h => by cases b <;> simp [D.beq] at h; subst h; rfl
  | .ty _, b, h => by cases b <;> simp [D.beq] at h; subst h; rfl
  | .ref _, b, h => by cases b <;> simp [D.beq] at h; subst h; rfl
  | .kref _, b, h => by cases b <;> simp [D.beq] at h; subst h; rfl
  | .scr _, b, h => by cases b <;> simp [D.beq] at h; subst h; rfl
  | .tup as, b, h => by
    cases b <;> simp [D.beq] at h
    rw [D.beqs_eq h]
  | .lst as, b, h => by
    cases b <;> simp [D.beq] at h
    rw [D.beqs_eq h]
  | .dic _ as, b, h => by
    cases b <;> simp [D.beq] at h
    rw [h.1, D.beqs_eq h.2]
  | .dct _ as, b, h => by
    cases b <;> simp [D.beq] at h
    rw [h.1, D.beqs_eq h.2]
  | .obj _ _ as, b, h => by
    cases b <;> simp [D.beq] at h
    rw [h.1, h.2.1, D.beqs_eq h.2.2]
theorem D.beqs_eq : ∀ {as bs : List D}, D.beqs as bs = true → as = bs
  | [], bs, h => by cases bs <;> simp [D.beqs] at h; rfl
  | a :: as, bs, h => by
    cases bs with
    | nil => simp [D.beqs] at h
    | cons b bs =>
      simp [D.beqs] at h
      rw [D.beq_eq h.1, D.beqs_eq h.2]
end
mutual
theorem D.beq_refl : ∀ a : D, D.beq a a = true
  | .non => rfl
  | .bl a => by simp [D.beq]
  | .int _ => by simp [D.beq]
  | .str _ => by simp [D.beq]
  | .ty _ => by simp [D.beq]
  | .ref _ => by simp [D.beq]
  | .kref _ => by simp [D.beq]
  | .scr _ => by simp [D.beq]
  | .tup as => by simp [D.beq, D.beqs_refl as]
  | .lst as => by simp [D.beq, D.beqs_refl as]
  | .dic _ as => by simp [D.beq, D.beqs_refl as]
  | .dct _ as => by simp [D.beq, D.beqs_refl as]
  | .obj _ _ as => by simp [D.beq, D.beqs_refl as]
theorem D.beqs_refl : ∀ as : List D, D.beqs as as = true
  | [] => rfl
  | a :: as => by simp [D.beqs, D.beq_refl a, D.beqs_refl as]
end
def R.calm {a : Type} (r : R a) : R a := match r with
  | .exc _ _ _ => .bad
  | r => r
@[simp] theorem R.calm_ok {a : Type} (x : a) (S : Sto) : (R.ok x S).calm = .ok x S := rfl
@[simp] theorem R.calm_bad {a : Type} : (R.bad : R a).calm = .bad := rfl
theorem Aft.calmB {a b : Type} {g : G} {E : XD} {m : Mp} {H : Hp} {r : R a} {k : a → Sto → R b} {Q : b → Mp → Sto → Hp → Prop} (h : Aft g E m H (r.calm.bind k) Q) : Aft g NoX m H r fun x m1 S1 H1 => Aft g E m1 H1 (k x S1) Q := by
  cases r with
  | ok x S => exact fun m' H' e' q => Aft.later (r := k x S) h e'
  | exc c fs S => exact (show False from h).elim
  | bad => exact h
/-- as far as the world around is another -/
theorem Aft.calmA {a b : Type} {g : G} {E : XD} {m : Mp} {H : Hp} {r : R a} {k : a → Sto → R b} {Q : b → Mp → Sto → Hp → Prop} (h : Aft g E m H (r.calm.bind k) Q) (m0 : Mp) (H0 : Hp) : Aft g NoX m0 H0 r fun x _ S1 _ => Aft g E m H (k x S1) Q := by
  cases r with
  | ok x S => exact fun m' H' e' q => h
  | exc c fs S => exact (show False from h).elim
  | bad => exact h

/-! what is walked -/
structure Wk where
  ds : List D
  ok : Sto → Bool
def okL (n : Nat) (ds : List D) : Sto → Bool := fun S => match S[n]? with
  | some (.lst ds') => D.beqs ds ds'
  | _ => false
def JD (g : G) (J : It) (W : Wk) (m0 : Mp) (H0 : Hp) : Prop :=
  ∀ (i : Nat) (m : Mp) (S : Sto) (H : Hp), Exk m0 H0 m H → Rel g m S H → W.ok S = true →
    (W.ds[i]? = none → J.stop i H) ∧ ∀ d, W.ds[i]? = some d → J.go i H ∧ ∀ x H', J.yld i H x H' → Ext g m H m H' ∧ Rel g m S H' ∧ RV g m H' d x
def tI (g : G) (E : XD) (w : Lc → Sto → R Wk) : TI := fun σ H Q => ∃ m S L, Rel g m S H ∧ RL g m H L σ ∧ Aft g E m H (w L S) fun W m' _ H' => ∀ J, JD g J W m' H' → Q J H'
theorem _root_.L2.PI.imp {X : Cx} {tg e : Expr} {t t' : TI} (h : PI X tg e t) (k : ∀ σ H Q, t' σ H Q → t σ H Q) : PI X tg e t' := ⟨fun pins s σ H Q I q => h.run pins s σ H Q I (k σ H Q q)⟩
def forL (ok : Sto → Bool) (t : D → Lc → Sto → R Lc) (fb : SF) : List D → SF
  | [] => fun L S => if ok S = true then .ok (.nx L) S else .bad
  | d :: ds => fun L S => if ok S = true then (t d L S).bind fun L1 S1 => (fb L1 S1).bind fun f S2 => match f with
      | .nx L2 => forL ok t fb ds L2 S2
      | .ct L2 => forL ok t fb ds L2 S2
      | .bk L2 => .ok (.nx L2) S2
      | .rt d => .ok (.rt d) S2
    else .bad
def sFor (w : Lc → Sto → R Wk) (t : D → Lc → Sto → R Lc) (fb : SF) : SF := fun L S => (w L S).bind fun W S1 => forL W.ok t fb W.ds L S1
theorem drop_cons {ds : List D} {i : Nat} {d : D} (h : ds[i]? = some d) : ds.drop i = d :: ds.drop (i + 1) := by
  obtain ⟨hi, rfl⟩ := List.getElem?_eq_some_iff.mp h
  exact List.drop_eq_getElem_cons hi
section
variable {X : Cx} {g : G} {E : XD} {pos : Pos} {tg iter : Expr} {body : List Stmt} {w : Lc → Sto → R Wk} {t : D → Lc → Sto → R Lc} {fb : SF}
theorem ds_for (hp : PassesOwn (model X.prog X.w) X.A X.env X.xe) (hc : X.calm = true) (hi : PI X tg iter (tI g E w)) (hg : PG X tg (tG g E AnyP t)) (hb : PSs X body (tF g E fb))
    (hs : ∀ x, foldedSetIterable iter X.env x = pure x := by intro _; rfl) : PS X (.For tg iter body [] pos) (tF g E (sFor w t fb)) := by
  refine (ps_for hp hc hi hg hb hs).imp fun Dn σ H h => ?_
  obtain ⟨m, S, L, r, l, q⟩ := h
  refine ⟨m, S, L, r, l, (Aft.bind q).mono fun W m1 S1 H1 e1 r1 q1 J hJ => ?_⟩
  refine ⟨fun i k σ' H' => ∃ m' S' L', Ext g m1 H1 m' H' ∧ Rel g m' S' H' ∧ RL g m' H' L' σ' ∧ k = W.ds.length - i ∧ i ≤ W.ds.length ∧ Aft g E m' H' (forL W.ok t fb (W.ds.drop i) L' S') (fQ g Dn),
    ⟨_, m1, S1, L, .refl, r1, l.ext e1, rfl, Nat.zero_le _, q1⟩, ?_⟩
  rintro i k σ' H' ⟨m', S', L', e', r', l', rfl, hle, q'⟩
  cases hd : W.ds[i]? with
  | none =>
    have hlen : W.ds.length ≤ i := List.getElem?_eq_none_iff.mp hd
    rw [List.drop_eq_nil_of_le hlen] at q'
    unfold forL at q'
    split at q'
    · rename_i hok
      exact .inl ⟨(hJ i m' S' H' e'.toExk r' hok).1 hd, q'.ok r' σ' l'⟩
    · exact q'.elim
  | some d =>
    have hlt : i < W.ds.length := (List.getElem?_eq_some_iff.mp hd).1
    rw [drop_cons hd] at q'
    unfold forL at q'
    split at q'
    · rename_i hok
      obtain ⟨hgo, hy⟩ := (hJ i m' S' H' e'.toExk r' hok).2 d hd
      refine .inr ⟨hgo, fun σ2 H2 => ∃ m2 S2 L2, Ext g m1 H1 m2 H2 ∧ Rel g m2 S2 H2 ∧ RL g m2 H2 L2 σ2 ∧ Aft g E m2 H2 (forL W.ok t fb (W.ds.drop (i + 1)) L2 S2) (fQ g Dn), ?_, fun x H3 y => ?_⟩
      · rintro σ2 H2 ⟨m2, S2, L2, e2, r2, l2, q2⟩
        exact ⟨_, by omega, m2, S2, L2, e2, r2, l2, rfl, hlt, q2⟩
      · obtain ⟨ex, rx, rv⟩ := hy x H3 y
        refine ⟨m', S', L', d, rx, l'.ext ex, rv, ((Aft.bind q').later ex).mono fun L1 m4 S4 H4 e4 r4 q4 σ4 l4 _ => ?_⟩
        refine ⟨m4, S4, L1, r4, l4, (Aft.bind q4).mono fun f m5 S5 H5 e5 r5 q5 => ?_⟩
        have e15 : Ext g m1 H1 m5 H5 := e'.trans (ex.trans (e4.trans e5))
        cases f with
        | nx L2 => exact fun σ5 l5 => ⟨m5, S5, L2, e15, r5, l5, q5⟩
        | ct L2 => exact fun σ5 l5 => ⟨m5, S5, L2, e15, r5, l5, q5⟩
        | bk L2 => exact fun σ5 l5 => q5.ok r5 σ5 l5
        | rt d => exact fun v rv => q5.ok r5 v rv
    · exact q'.elim
end

/-! while -/
def whL (c : Lc → Sto → R Bool) (fb : SF) : Nat → SF
  | 0 => fun _ _ => .bad
  | n + 1 => fun L S => (c L S).bind fun b S1 => if b = true then (fb L S1).bind fun f S2 => match f with
      | .nx L2 => whL c fb n L2 S2
      | .ct L2 => whL c fb n L2 S2
      | .bk L2 => .ok (.nx L2) S2
      | .rt d => .ok (.rt d) S2
    else .ok (.nx L) S1
theorem ds_while {X : Cx} {g : G} {E : XD} {pos : Pos} {c : Expr} {body : List Stmt} {tc : Lc → Sto → R Bool} {fb : SF} (n : Nat) (hp : PassesOwn (model X.prog X.w) X.A X.env X.xe) (hc : PT X c (tT g E tc)) (hb : PSs X body (tF g E fb)) : PS X (.While c body [] pos) (tF g E (whL tc fb n)) := by
  refine (ps_while hp hc hb).imp fun Dn σ H h => ?_
  refine ⟨fun k σ' H' => ∃ m' S' L', Rel g m' S' H' ∧ RL g m' H' L' σ' ∧ Aft g E m' H' (whL tc fb k L' S') (fQ g Dn), ⟨n, h⟩, ?_⟩
  rintro k σ' H' ⟨m', S', L', r', l', q'⟩
  cases k with
  | zero => exact q'.elim
  | succ k =>
    refine ⟨m', S', L', r', l', (Aft.bind q').mono fun b m1 S1 H1 e1 r1 q1 => ?_⟩
    cases b with
    | false => exact q1.ok r1 _ (l'.ext e1)
    | true =>
      refine ⟨fun σ2 H2 => ∃ m2 S2 L2, Rel g m2 S2 H2 ∧ RL g m2 H2 L2 σ2 ∧ Aft g E m2 H2 (whL tc fb k L2 S2) (fQ g Dn), fun σ2 H2 h2 => ⟨k, Nat.lt_succ_self k, h2⟩, ?_⟩
      refine ⟨m1, S1, L', r1, l'.ext e1, (Aft.bind q1).mono fun f m5 S5 H5 e5 r5 q5 => ?_⟩
      cases f with
      | nx L2 => exact fun σ5 l5 => ⟨m5, S5, L2, r5, l5, q5⟩
      | ct L2 => exact fun σ5 l5 => ⟨m5, S5, L2, r5, l5, q5⟩
      | bk L2 => exact fun σ5 l5 => q5.ok r5 σ5 l5
      | rt d => exact fun v rv => q5.ok r5 v rv

/-! list comprehensions -/
def lcL (ok : Sto → Bool) (t : D → Lc → Sto → R Lc) (tt : Lc → Sto → R Bool) (te : Lc → Sto → R D) (L : Lc) : List D → List D → Sto → R D
  | [], acc => fun S => if ok S = true then .ok (.lst acc) S else .bad
  | d :: ds, acc => fun S => if ok S = true then (t d L S).calm.bind fun L1 S1 => (tt L1 S1).calm.bind fun b S2 =>
      if b = true then (te L1 S2).calm.bind fun y S3 => if acc.length < sizeLine then lcL ok t tt te L ds (acc ++ [y]) S3 else .bad
      else lcL ok t tt te L ds acc S2
    else .bad
def eLc (w : Lc → Sto → R Wk) (t : D → Lc → Sto → R Lc) (tt : Lc → Sto → R Bool) (te : Lc → Sto → R D) (vs : List Nat) : Lc → Sto → R D := fun L S => (w L S).bind fun W S1 => lcL W.ok t tt te (wipeL L vs) W.ds [] S1
def tYesD : Lc → Sto → R Bool := fun _ S => .ok true S
theorem wipe_wipe (σ : St) (vs : List Nat) : wipe (wipe σ vs) vs = wipe σ vs := by
  apply List.ext_getElem?
  intro j
  cases hj : (wipe (wipe σ vs) vs)[j]? with
  | none =>
    have := List.getElem?_eq_none_iff.mp hj
    rw [wipe_length, wipe_length] at this
    rw [List.getElem?_eq_none (by rw [wipe_length]; exact this)]
  | some o =>
    have hl : j < σ.length := by have := (List.getElem?_eq_some_iff.mp hj).1; rwa [wipe_length, wipe_length] at this
    cases o with
    | some v => exact (wipe_some hj).1.symm
    | none =>
      have hl2 : j < (wipe σ vs).length := by rw [wipe_length]; exact hl
      cases hk : (wipe σ vs)[j]? with
      | none => rw [List.getElem?_eq_getElem hl2] at hk; cases hk
      | some o2 =>
        cases o2 with
        | none => rfl
        | some v2 =>
          exfalso
          have hnj := (wipe_some hk).2
          have keep : ∀ (us : List Nat), j ∉ us → (wipe (wipe σ vs) us)[j]? = some (some v2) := by
            intro us hu
            induction us with
            | nil => exact hk
            | cons u us ih =>
              show ((wipe (wipe σ vs) us).set u none)[j]? = some (some v2)
              have h1 : u ≠ j := fun z => hu (by simp [z])
              rw [List.getElem?_set_ne h1]
              exact ih fun z => hu (List.mem_cons_of_mem _ z)
          rw [keep vs hnj] at hj
          cases hj
section
variable {X : Cx} {g : G} {E : XD} {pos : Pos} {elt tg iter : Expr} {ifs : List Expr} {scope : Scope} {own : List (Str × Nat)} {w : Lc → Sto → R Wk} {t : D → Lc → Sto → R Lc} {tt : Lc → Sto → R Bool} {te : Lc → Sto → R D}
theorem _root_.L2.PTs.imp {X : Cx} {e : List Expr} {t t' : TT} (h : PTs X e t) (k : ∀ σ H Q, t' σ H Q → t σ H Q) : PTs X e t' := ⟨fun pins s σ H Q I q => h.run pins s σ H Q I (k σ H Q q)⟩
theorem dts_nil {E : XD} : PTs X [] (tT g E tYesD) := pts_nil.imp fun σ H Q h => by
  obtain ⟨m, S, L, r, l, q⟩ := h
  exact q.ok r
theorem dts_one {E : XD} {c : Expr} (h : PT X c (tT g E tt)) : PTs X [c] (tT g E tt) := pts_one h
/-- RL over a weaker step -/
theorem RL.extw {m m' : Mp} {H H' : Hp} {L : Lc} {σ : St} (h : RL g m H L σ) (e : Exw m H m' H') : RL g m' H' L σ :=
  ⟨h.1, fun i d q => let ⟨v, h1, h2⟩ := h.2 i d q; ⟨v, h1, h2.extw e⟩⟩
/-- what is being made at p, seen within the making -/
structure Mk1 (g : G) (m1 : Mp) (H1 : Hp) (p : Addr) (o : HO) (m' : Mp) (S' : Sto) (H' : Hp) : Prop where
  ex : Exw m1 H1 m' H'
  po : m'.o = p :: m1.o
  kp : ∀ a ∈ m1.o, H' a = H1 a
  pk : m'.k = m1.k
  kk : ∀ x ∈ m1.k, H' x.2 = H1 x.2
  at_ : H' p = some o
  r : Rel g m' S' H'
theorem Mk1.start {m1 : Mp} {S1 : Sto} {H1 : Hp} {p : Addr} {o : HO} (r1 : Rel g m1 S1 H1) (hp : H1 p = none) : Mk1 g m1 H1 p o (m1.hold p) S1 (upd H1 p o) :=
  ⟨exw_hold hp, rfl, fun a ha => upd_ne (fun z => by subst z; exact r1.freshO hp ha), rfl, fun x hx => upd_ne (r1.freshK hp hx), upd_same, r1.hold hp⟩
theorem Mk1.on {m1 m' m2 : Mp} {S' S2 : Sto} {H1 H' H2 : Hp} {p : Addr} {o : HO} (k : Mk1 g m1 H1 p o m' S' H') (e : Ext g m' H' m2 H2) (r : Rel g m2 S2 H2) : Mk1 g m1 H1 p o m2 S2 H2 :=
  ⟨k.ex.trans e.toExw, e.priv.trans k.po, fun a ha => (e.keep a (by rw [k.po]; exact List.mem_cons_of_mem _ ha)).trans (k.kp a ha), e.privk.trans k.pk, fun x hx => (e.keepk x (by rw [k.pk]; exact hx)).trans (k.kk x hx), (e.keep p (by rw [k.po]; exact List.mem_cons_self)).trans k.at_, r⟩
theorem Mk1.step {m1 m' : Mp} {S' : Sto} {H1 H' : Hp} {p : Addr} {o o' : HO} (k : Mk1 g m1 H1 p o m' S' H') (hp : H1 p = none) : Exw m' H' m' (upd H' p o') ∧ Mk1 g m1 H1 p o' m' S' (upd H' p o') := by
  have e : m' = (⟨m'.l, m1.o, m'.k⟩ : Mp).hold p := Mp.of_hold k.po
  have hh : Exw m' H' m' (upd H' p o') := by rw [e]; exact exw_held
  refine ⟨hh, k.ex.trans hh, k.po, fun a ha => ?_, k.pk, fun x hx => ?_, upd_same, ?_⟩
  · by_cases z : a = p
    · subst z
      have hr := k.r
      rw [e] at hr
      exfalso
      have hn : H1 a = H' a := (k.kp a ha).symm
      rw [hp, k.at_] at hn
      cases hn
    · rw [upd_ne z]; exact k.kp a ha
  · by_cases z : x.2 = p
    · exfalso
      have hn : H1 x.2 = H' x.2 := (k.kk x hx).symm
      rw [z, hp, k.at_] at hn
      cases hn
    · rw [upd_ne z]; exact k.kk x hx
  · have hr := k.r
    rw [e] at hr ⊢
    exact hr.held
theorem Mk1.done {m1 m' : Mp} {S1 S' : Sto} {H1 H' : Hp} {p : Addr} {o : HO} (k : Mk1 g m1 H1 p o m' S' H') (r1 : Rel g m1 S1 H1) (hp : H1 p = none) :
    Exw m' H' ⟨m'.l, m1.o, m'.k⟩ H' ∧ Ext g m1 H1 ⟨m'.l, m1.o, m'.k⟩ H' ∧ Rel g ⟨m'.l, m1.o, m'.k⟩ S' H' ∧ Un ⟨m'.l, m1.o, m'.k⟩ p := by
  have e : m' = (⟨m'.l, m1.o, m'.k⟩ : Mp).hold p := Mp.of_hold k.po
  have hw : Exw m' H' ⟨m'.l, m1.o, m'.k⟩ H' := by
    have := exw_free (m := ⟨m'.l, m1.o, m'.k⟩) (H := H') (p := p)
    rw [← e] at this
    exact this
  have hr := k.r
  rw [e] at hr
  refine ⟨hw, .of (k.ex.trans hw) rfl k.kp k.pk k.kk, hr.free, (k.r.prv p (by rw [k.po]; exact List.mem_cons_self)).2, r1.freshO hp⟩
theorem Mk1.toSto {m1 m' : Mp} {S1 S' : Sto} {H1 H' : Hp} {p : Addr} {o : HO} {ob : Ob} (k : Mk1 g m1 H1 p o m' S' H') (r1 : Rel g m1 S1 H1) (hp : H1 p = none) (h : OR g m' H' ob o) :
    Exw m' H' ((⟨m'.l, m1.o, m'.k⟩ : Mp).add p) H' ∧ Ext g m1 H1 ((⟨m'.l, m1.o, m'.k⟩ : Mp).add p) H' ∧ Rel g ((⟨m'.l, m1.o, m'.k⟩ : Mp).add p) (S' ++ [ob]) H' ∧ ((⟨m'.l, m1.o, m'.k⟩ : Mp).add p).l[S'.length]? = some (p, true) := by
  have e : m' = (⟨m'.l, m1.o, m'.k⟩ : Mp).hold p := Mp.of_hold k.po
  have hw : Exw m' H' ((⟨m'.l, m1.o, m'.k⟩ : Mp).add p) H' := by
    have := exw_own (m := ⟨m'.l, m1.o, m'.k⟩) (H := H') (p := p)
    rw [← e] at this
    exact this
  have hr := k.r
  rw [e] at hr h
  refine ⟨hw, .of (k.ex.trans hw) rfl k.kp k.pk k.kk, hr.own (r1.freshO hp) k.at_ h, ?_⟩
  have hl : m'.l.length = S'.length := k.r.len
  show (m'.l ++ [(p, true)])[S'.length]? = some (p, true)
  rw [← hl]
  simp
theorem lc_loop {σ : St} {L : Lc} {vs : List Nat} {W : Wk} {J : It} {m1 : Mp} {S1 : Sto} {H1 : Hp} {Q : VK} {P : D → Mp → Sto → Hp → Prop} (r1 : Rel g m1 S1 H1) (l : RL g m1 H1 L σ) (hJ : JD g J W m1 H1) (q1 : Aft g E m1 H1 (lcL W.ok t tt te (wipeL L vs) W.ds [] S1) P)
    (hP : ∀ d m S H v, Ext g m1 H1 m H → Rel g m S H → P d m S H → RV g m H d v → Q v H) :
    ∀ p, H1 p = none → ∃ Wp : Nat → Nat → Hp → Prop, (∃ m, Wp 0 m (upd H1 p (.lst []))) ∧ ∀ i m H, Wp i m H →
      (J.stop i H ∧ Q (.ref p) H) ∨ (J.go i H ∧ ∃ Nx : Hp → Prop, (∀ H', Nx H' → ∃ m', m' < m ∧ Wp (i + 1) m' H') ∧ ∀ x H', J.yld i H x H' → tG g NoX (WpP vs) t x (wipe σ vs) H' fun σ2 H2 => wipe σ2 vs = wipe σ vs ∧ tT g NoX tt σ2 H2 fun b H3 =>
        if b = true then tD g NoX te σ2 H3 fun v H4 => ∃ acc, H4 p = some (.lst acc) ∧ acc.length < sizeLine ∧ Nx (upd H4 p (.lst (acc ++ [v]))) else Nx H3) := by
  intro p hp
  refine ⟨fun i k H' => ∃ m' S' acc us, Mk1 g m1 H1 p (.lst us) m' S' H' ∧ RVs g m' H' acc us ∧ k = W.ds.length - i ∧ i ≤ W.ds.length ∧ Aft g E m1 H1 (lcL W.ok t tt te (wipeL L vs) (W.ds.drop i) acc S') P,
    ⟨_, _, _, [], [], .start r1 hp, .nil, rfl, Nat.zero_le _, q1⟩, ?_⟩
  rintro i k H' ⟨m', S', acc, us, mk, ra, rfl, hle, q'⟩
  cases hd : W.ds[i]? with
  | none =>
    have hlen : W.ds.length ≤ i := List.getElem?_eq_none_iff.mp hd
    rw [List.drop_eq_nil_of_le hlen] at q'
    unfold lcL at q'
    split at q'
    · rename_i hok
      obtain ⟨hw, he, hr, hu⟩ := mk.done r1 hp
      exact .inl ⟨(hJ i m' S' H' ⟨mk.ex, mk.pk, mk.kk⟩ mk.r hok).1 hd, hP _ _ _ _ _ he hr (q'.at he hr) (rv_lst mk.at_ hu (ra.extw hw))⟩
    · exact q'.elim
  | some d =>
    have hlt : i < W.ds.length := (List.getElem?_eq_some_iff.mp hd).1
    rw [drop_cons hd] at q'
    unfold lcL at q'
    split at q'
    · rename_i hok
      obtain ⟨hgo, hy⟩ := (hJ i m' S' H' ⟨mk.ex, mk.pk, mk.kk⟩ mk.r hok).2 d hd
      refine .inr ⟨hgo, fun H2 => ∃ m2 S2 acc us, Mk1 g m1 H1 p (.lst us) m2 S2 H2 ∧ RVs g m2 H2 acc us ∧ Aft g E m1 H1 (lcL W.ok t tt te (wipeL L vs) (W.ds.drop (i + 1)) acc S2) P, ?_, fun x H3 y => ?_⟩
      · rintro H2 ⟨m2, S2, acc2, us2, mk2, ra2, q2⟩
        exact ⟨_, by omega, m2, S2, acc2, us2, mk2, ra2, rfl, hlt, q2⟩
      · obtain ⟨ex, rx, rv⟩ := hy x H3 y
        have mk3 := mk.on ex rx
        have lw : RL g m' H3 (wipeL L vs) (wipe σ vs) := (l.wipe vs).extw mk3.ex
        refine ⟨m', S', wipeL L vs, d, rx, lw, rv, (Aft.calmA q' m' H3).mono fun L1 m4 S4 H4 e4 r4 q4 σ4 l4 w4 => ?_⟩
        refine ⟨by rw [w4, wipe_wipe], m4, S4, L1, r4, l4, (Aft.calmA q4 m4 H4).mono fun b m5 S5 H5 e5 r5 q5 => ?_⟩
        have e35 : Ext g m' H' m5 H5 := ex.trans (e4.trans e5)
        cases b with
        | false => exact ⟨m5, S5, acc, us, mk.on e35 r5, ra.ext e35, q5⟩
        | true =>
          refine ⟨m5, S5, L1, r5, l4.ext e5, (Aft.calmA q5 m5 H5).mono fun y m6 S6 H6 e6 r6 q6 v rv6 => ?_⟩
          have mk6 := mk.on (e35.trans e6) r6
          have ra6 := ra.ext (e35.trans e6)
          split at q6
          · rename_i hz
            obtain ⟨e7, mk7⟩ := mk6.step (o' := .lst (us ++ [v])) hp
            exact ⟨us, mk6.at_, by rw [ra6.length]; exact hz, m6, S6, acc ++ [y], us ++ [v], mk7, (ra6.append (.cons rv6 .nil)).extw e7, q6⟩
          · exact q6.elim
    · exact q'.elim
theorem lc_run {σ : St} {H : Hp} {Q : VK} {vs : List Nat} (h : tD g E (eLc w t tt te vs) σ H Q) : tLc (tI g E w) (tG g NoX (WpP vs) t) (tT g NoX tt) (tD g NoX te) vs σ H Q := by
  obtain ⟨m, S, L, r, l, q⟩ := h
  refine ⟨m, S, L, r, l, (Aft.bind q).mono fun W m1 S1 H1 e1 r1 q1 J hJ => ?_⟩
  exact lc_loop r1 (l.ext e1) hJ q1 fun d m2 S2 H2 v _ _ q2 rv => q2 v rv
theorem de_lc {vs : List Nat} (hc : X.calm = true) (hN : X.N.Nodup) (hvs : own.map (·.2) = vs) (hi : PI X tg iter (tI g E w)) (ok : BlkOk X.N X.env.scope scope own)
    (hg : ∀ (s : Shared) (H : Hp) (C : Addr) (cl : List (Str × Addr)) (fp : List Addr), PG (X.blk s H scope (compEnvC scope cl C X.env) fp) tg (tG g NoX (WpP vs) t)) (ht : ∀ (s : Shared) (H : Hp) (C : Addr) (cl : List (Str × Addr)) (fp : List Addr), PTs (X.blk s H scope (compEnvC scope cl C X.env) fp) ifs (tT g NoX tt))
    (he : ∀ (s : Shared) (H : Hp) (C : Addr) (cl : List (Str × Addr)) (fp : List Addr), PE (X.blk s H scope (compEnvC scope cl C X.env) fp) elt (tD g NoX te)) (hs : ∀ x, foldedSetIterable iter X.env x = pure x := by intro _; rfl) :
    PE X (.ListComp elt [⟨tg, iter, ifs, 0⟩] scope pos) (tD g E (eLc w t tt te vs)) := by
  subst hvs
  exact (pe_lc hc hN hi ok hg ht he hs).imp fun σ H Q h => lc_run h
theorem ds_setLc {vs : List Nat} {i : Nat} {y : Str} {py spos : Pos} (hc : X.calm = true) (hN : X.N.Nodup) (hvs : own.map (·.2) = vs) (hy : X.N[i]? = some y) (hyl : X.env.scope.names.lookup y = some .local)
    (hsw : swapsWith (.ListComp elt [⟨tg, iter, ifs, 0⟩] scope pos) (some (.Name y py)) spos.line X.env = pure true) (hi : PI X tg iter (tI g E w)) (ok : BlkOk X.N X.env.scope scope own)
    (hg : ∀ (s : Shared) (H : Hp) (C : Addr) (cl : List (Str × Addr)) (fp : List Addr), PG (X.blk s H scope (compEnvC scope cl C X.env) fp) tg (tG g NoX (WpP vs) t)) (ht : ∀ (s : Shared) (H : Hp) (C : Addr) (cl : List (Str × Addr)) (fp : List Addr), PTs (X.blk s H scope (compEnvC scope cl C X.env) fp) ifs (tT g NoX tt))
    (he : ∀ (s : Shared) (H : Hp) (C : Addr) (cl : List (Str × Addr)) (fp : List Addr), PE (X.blk s H scope (compEnvC scope cl C X.env) fp) elt (tD g NoX te)) (hs : ∀ x, foldedSetIterable iter X.env x = pure x := by intro _; rfl) :
    PS X (.Assign [.Name y py] (.ListComp elt [⟨tg, iter, ifs, 0⟩] scope pos) spos) (tF g E (sSet i (eLc w t tt te vs))) := by
  subst hvs
  refine (ps_setLc hc hN hy hyl hsw hi ok hg ht he hs).imp fun Dn σ H h => ?_
  obtain ⟨m, S, L, r, l, q⟩ := h
  refine lc_run (E := E) ⟨m, S, L, r, l, (Aft.bind q).mono fun d m1 S1 H1 e1 r1 q1 v rv => ?_⟩
  exact q1.ok r1 _ ((l.ext e1).set rv i)
end

/-! what is raised -/
def XW (g : G) (E : XK) : XD := fun c fs m _ H => ∀ (C dx : Addr) (fvs : List (Str × V)), g.cl c = some C → H dx = some (.xd fvs) → Un m dx → fvs.map (·.1) = fs.map (·.1) → RVs g m H (fs.map (·.2)) (fvs.map (·.2)) → E (.ref C) (some dx) H
def PX (X : Cx) (g : G) (E : XD) : Prop := ∃ E0 : XK, Passes (L2.CX X.prog X.w) X E0 ∧ ∀ c fs m S H, E c fs m S H → XW g E0 c fs m S H
theorem px_no {X : Cx} {g : G} : PX X g NoX := ⟨E0, passL, fun _ _ _ _ _ h => h.elim⟩
theorem Aft.monoE {a : Type} {g : G} {E E' : XD} {m : Mp} {H : Hp} {r : R a} {Q : a → Mp → Sto → Hp → Prop} (h : Aft g E m H r Q) (k : ∀ c fs m S H, E c fs m S H → E' c fs m S H) : Aft g E' m H r Q := by
  cases r with
  | ok x S => exact h
  | exc c fs S => exact fun m' H' e q => k _ _ _ _ _ (h m' H' e q)
  | bad => exact h

/-! defs -/
def spD (g : G) (n : Nat) (F : List D → Sto → R D) : Sp := fun vs H Q E => vs.length = n ∧ ∃ m S ds, Rel g m S H ∧ RVs g m H ds vs ∧ Aft g (XW g E) m H (F ds S) (vQ g Q)
def dDef (n : Nat) (fb : SF) : List D → Sto → R D := fun ds S => (fb (ds.map some ++ List.replicate (n - ds.length) none) S).bind fun f S' => match f with
  | .rt d => .ok d S'
  | .nx _ => .ok .non S'
  | _ => .bad
def ari (n : Nat) (F : List D → Sto → R D) : List D → Sto → R D := fun ds S => if ds.length = n then F ds S else .bad
section
variable {P : Program} {w : World} {K : PySem.W.Frag} {mg : Str → Option Value} {base : Heap} {g : G}
theorem fn_bad {CX : CXT} {k n : Nat} {f : Addr} {fd : FuncData} {ps : List Str} : FnOk P w K mg base CX k f fd ps (spD g n fun _ _ => .bad) :=
  ⟨fun vs H Q E h => by obtain ⟨_, m, S, ds, _, _, q⟩ := h; exact q.elim, fun A outer s H args us vs Q E hr h0 hb hv h => by obtain ⟨_, m, S, ds, _, _, q⟩ := h; exact q.elim⟩
/-- a def of the text; what it may use: room, the way out for what is raised -/
theorem fn_ok {x qual : Str} {params : Arguments} {body : List Stmt} {scope : Scope} {dvs : List V} {kws : List (Str × V)} {f : Addr} {fd : FuncData} {N ps : List Str} {k n nn : Nat} {fb : SF} (F : FunD K x qual params body scope dvs kws f fd) (Sc : FnScope N ps scope) (hn : ps.length = n) (hN : N.length = nn)
    (hbody : ∀ (cdv : Value) (A : Around) (outer : List Env) (s : Shared) (H : Hp) (E : XK) (X : Cx), X = cxOf (L2.CX P w) P w K mg base N qual scope f cdv A outer s H E → Room k X.A → PX X g (XW g E) → Takes X (fun cls d _ H => E cls d H) → PassesOwn (model X.prog X.w) X.A X.env X.xe →
      PSs (cxOf (L2.CX P w) P w K mg base N qual scope f cdv A outer s H E) body (tF g (XW g E) fb)) : FnOk P w K mg base (L2.CX P w) (k + 1) f fd ps (spD g n (dDef nn fb)) := by
  refine F.ok Sc (fun vs H Q E h => h.1.trans hn.symm) fun cdv A outer s H vs Q E hr h => ?_
  obtain ⟨hl, m, S, ds, r, rv, q⟩ := h
  have tk : Takes (cxOf (L2.CX P w) P w K mg base N qual scope f cdv A outer s H E) (fun cls d _ H => E cls d H) := takes_of rfl rfl rfl rfl
  refine ⟨_, hbody cdv A outer s H E _ rfl hr ⟨E, passes_call tk fun _ _ _ _ h => h, fun _ _ _ _ _ h => h⟩ tk (passes_of rfl), m, S, _, r, RL.begin rv N, ?_⟩
  rw [hN]
  refine (Aft.bind q).mono fun fl m1 S1 H1 e1 r1 q1 => ?_
  cases fl with
  | rt d => exact fun v rv => q1.ok r1 v rv
  | nx L => exact fun σ _ => q1.ok r1 _ rv_non
  | bk L => exact q1.elim
  | ct L => exact q1.elim
end
section
variable {X : Cx} {g : G} {E : XD} {k n : Nat} {f : Addr} {fd : FuncData} {ps : List Str} {Fn : List D → Sto → R D} {x : Str} {p pos : Pos} {e : Expr} {es : List Expr} {ls : Lc → Sto → R (List D)}
theorem sp_call {E0 : XK} {m1 : Mp} {S1 : Sto} {H1 : Hp} {ds : List D} {vs : List V} {Q : VK} (hE : ∀ c fs m S H, E c fs m S H → XW g E0 c fs m S H) (r1 : Rel g m1 S1 H1) (rvs : RVs g m1 H1 ds vs) (q1 : Aft g E m1 H1 (ari n Fn ds S1) (vQ g Q)) : spD g n Fn vs H1 Q E0 := by
  unfold ari at q1
  split at q1
  · rename_i hz
    exact ⟨by rw [rvs.length]; exact hz, m1, S1, ds, r1, rvs, q1.monoE hE⟩
  · exact q1.elim
theorem de_call (F : FnOk X.prog X.w X.K X.mg X.base (L2.CX X.prog X.w) k f fd ps (spD g n Fn)) (hr : Room k X.A) (hg : Gl X x) (hm : X.mg x = some (.ref f)) (hk : PySem.W.keepIn X.K (.ref f) = true) (hb : Binds X.K fd ps []) (hx : PX X g E)
    (ha : PA X (e :: es) (tL g E ls)) (hdb : (x == ("__debug__" : Str)) = false := by decide) (he : starEach (e :: es) X.env = (false, eval e X.env) :: starEach es X.env := by rfl) (hpl : (backTo pos (starEach es X.env)).any (·.1) = false := by rfl) :
    PE X (.Call (.Name x p) (e :: es) [] pos) (tD g E (eCall (ari n Fn) ls)) := by
  obtain ⟨E0, hp, hE⟩ := hx
  refine (pe_call F hr hg hm hk hb .nil hp ha hdb he hpl).imp fun σ H Q h => ?_
  obtain ⟨m, S, L, r, l, q⟩ := h
  refine ⟨m, S, L, r, l, (Aft.bind q).mono fun ds m1 S1 H1 e1 r1 q1 vs rvs => ?_⟩
  show spD g n Fn (vs ++ []) H1 Q E0
  rw [List.append_nil]
  exact sp_call hE r1 rvs q1
/-- f() -/
theorem de_call0 (F : FnOk X.prog X.w X.K X.mg X.base (L2.CX X.prog X.w) k f fd ps (spD g n Fn)) (hr : Room k X.A) (hg : Gl X x) (hm : X.mg x = some (.ref f)) (hk : PySem.W.keepIn X.K (.ref f) = true) (hb : Binds X.K fd ps []) (hx : PX X g E)
    (hdb : (x == ("__debug__" : Str)) = false := by decide) : PE X (.Call (.Name x p) [] [] pos) (tD g E (eCall (ari n Fn) aNil)) := by
  obtain ⟨E0, hp, hE⟩ := hx
  refine (pe_call0 F hr hg hm hk hb .nil hp hdb).imp fun σ H Q h => ?_
  obtain ⟨m, S, L, r, l, q⟩ := h
  show spD g n Fn [] H Q E0
  exact sp_call hE r .nil q
end
end VL

namespace VL
open PySem PySem.Spec PyProof.Rows L2

/-! reading a list -/
def lstOf (d : D) (S : Sto) : Option (List D) := match d with
  | .lst ds => some ds
  | .ref n => match S[n]? with
    | some (.lst ds) => some ds
    | _ => none
  | .scr ns => some (ns.map D.int)
  | _ => none
/-- a list but the script -/
def lstO (d : D) (S : Sto) : Option (List D) := match d with
  | .lst ds => some ds
  | .ref n => match S[n]? with
    | some (.lst ds) => some ds
    | _ => none
  | _ => none
theorem rvs_ints {g : G} {m : Mp} {H : Hp} : ∀ ns : List Int, RVs g m H (ns.map D.int) (ns.map V.int)
  | [] => .nil
  | n :: ns => .cons rv_int (rvs_ints ns)
theorem lstO_run {g : G} {m : Mp} {S : Sto} {H : Hp} (r : Rel g m S H) {d : D} {v : V} (rv : RV g m H d v) {ds : List D} (h : lstO d S = some ds) : ∃ a vs, v = .ref a ∧ H a = some (.lst vs) ∧ RVs g m H ds vs := by
  unfold lstO at h
  split at h
  · cases h
    obtain ⟨a, vs, rfl, h1, _, h2⟩ := of_lst rv
    exact ⟨a, vs, rfl, h1, h2⟩
  · split at h
    · rename_i e
      cases h
      obtain ⟨a, o, rfl, _, h1, vs, rfl, h2⟩ := r.at rv e (by intro z; cases z)
      exact ⟨a, vs, rfl, h1, h2⟩
    · cases h
  · cases h
theorem lst_run {g : G} {m : Mp} {S : Sto} {H : Hp} (r : Rel g m S H) {d : D} {v : V} (rv : RV g m H d v) {ds : List D} (h : lstOf d S = some ds) : ∃ a vs, v = .ref a ∧ SqL g.K H a vs ∧ RVs g m H ds vs := by
  cases d with
  | scr ns =>
    cases h
    obtain ⟨a, rfl, h1⟩ := of_scr rv
    exact ⟨a, _, rfl, h1.sq, rvs_ints ns⟩
  | lst ds' =>
    obtain ⟨a, vs, rfl, h1, h2⟩ := lstO_run r rv (d := .lst ds') h
    exact ⟨a, vs, rfl, .of h1, h2⟩
  | ref n =>
    obtain ⟨a, vs, rfl, h1, h2⟩ := lstO_run r rv (d := .ref n) h
    exact ⟨a, vs, rfl, .of h1, h2⟩
  | _ => cases h
theorem lst_ref {g : G} {m : Mp} {S : Sto} {H : Hp} (r : Rel g m S H) {n : Nat} {v : V} (rv : RV g m H (.ref n) v) {ds : List D} (h : S[n]? = some (.lst ds)) : ∃ a vs, v = .ref a ∧ m.l[n]? = some (a, true) ∧ H a = some (.lst vs) ∧ RVs g m H ds vs := by
  obtain ⟨a, o, rfl, ha, h1, vs, rfl, h2⟩ := r.at rv h (by intro z; cases z)
  exact ⟨a, vs, rfl, ha, h1, h2⟩

section
variable {X : Cx} {g : G} {E : XD}

/-! + -/
def addD (x y : D) (S : Sto) : R D := match x, y with
  | .int i, .int j => .ok (.int (i + j)) S
  | .str a, .str b => if a.length + b.length ≤ sizeLine then .ok (.str (a ++ b)) S else .bad
  | .tup a, .tup b => if a.length + b.length ≤ sizeLine then .ok (.tup (a ++ b)) S else .bad
  | x, y => match lstO x S, lstO y S with
    | some xs, some ys => newL (xs ++ ys) S
    | _, _ => .bad
theorem od_add (hK : X.K = g.K) : OpR X (binaryOp .Add) (rD2 g E addD) := by
  intro pins s σ H x y v u Q I rx ry h
  obtain ⟨m, S, d, d', r, h1, h2, q⟩ := h
  unfold addD at q
  split at q
  · exact op_add pins s σ H x y v u Q I rx ry ⟨_, _, of_int h1, of_int h2, q.ok r _ rv_int⟩
  · split at q
    · rename_i hz
      exact op_add_str pins s σ H x y v u Q I rx ry ⟨_, _, of_str h1, of_str h2, hz, q.ok r _ rv_str⟩
    · exact q.elim
  · split at q
    · rename_i ds es hz
      obtain ⟨a, vs, rfl, t1, v1⟩ := of_tupv h1
      obtain ⟨b, us, rfl, t2, v2⟩ := of_tupv h2
      have s1 := t1.sq
      have s2 := t2.sq
      refine op_catA pins s σ H _ _ v u Q I rx ry ⟨a, b, vs, us, rfl, rfl, by rw [hK]; exact s1, by rw [hK]; exact s2, by rw [v1.length, v2.length]; exact hz, fun e => ?_, fun _ e => ?_, fun _ _ p hp => ?_⟩
      · subst e
        have : ds = [] := by have := v1.length; cases ds; rfl; simp at this
        subst this
        exact q.ok r _ (rv_tupv t2 v2)
      · subst e
        have : es = [] := by have := v2.length; cases es; rfl; simp at this
        subst this
        rw [List.append_nil] at q
        exact q.ok r _ (rv_tupv t1 v1)
      · exact q.at (ext_lay r hp) (r.lay hp) _ (rv_tupv (.inl ⟨upd_same, r.un hp⟩) ((v1.append v2).ext (ext_lay r hp)))
    · exact q.elim
  · split at q
    · rename_i xs ys e1 e2
      obtain ⟨a, vs, rfl, H1, v1⟩ := lstO_run r h1 e1
      obtain ⟨b, us, rfl, H2, v2⟩ := lstO_run r h2 e2
      obtain ⟨hz, q'⟩ := newL_run q r (v1.append v2)
      exact op_cat pins s σ H _ _ v u Q I rx ry ⟨a, b, vs, us, rfl, rfl, H1, H2, by rw [← List.length_append]; exact hz, q'⟩
    · exact q.elim
def subD (x y : D) (S : Sto) : R D := match x, y with
  | .int i, .int j => .ok (.int (i - j)) S
  | _, _ => .bad
theorem od_sub : OpR X (binaryOp .Sub) (rD2 g E subD) := by
  intro pins s σ H x y v u Q I rx ry h
  obtain ⟨m, S, d, d', r, h1, h2, q⟩ := h
  unfold subD at q
  split at q
  · exact op_sub pins s σ H x y v u Q I rx ry ⟨_, _, of_int h1, of_int h2, q.ok r _ rv_int⟩
  · exact q.elim
def mulD (x y : D) (S : Sto) : R D := match x, y with
  | .int i, .int j => if Builtin.Int.intBits i + Builtin.Int.intBits j ≤ 134217728 then .ok (.int (i * j)) S else .bad
  | x, .int k => match lstO x S with
    | some xs => if -(2 ^ 63) ≤ k ∧ k < 2 ^ 63 then newL (List.replicate k.toNat xs).flatten S else .bad
    | _ => .bad
  | _, _ => .bad
theorem od_mul : OpR X (binaryOp .Mult) (rD2 g E mulD) := by
  intro pins s σ H x y v u Q I rx ry h
  obtain ⟨m, S, d, d', r, h1, h2, q⟩ := h
  unfold mulD at q
  split at q
  · split at q
    · rename_i hz
      exact op_mulX pins s σ H x y v u Q I rx ry ⟨_, _, of_int h1, of_int h2, by unfold CMulX; omega, q.ok r _ rv_int⟩
    · exact q.elim
  · split at q
    · rename_i xs e1
      split at q
      · rename_i hz
        obtain ⟨a, vs, rfl, H1, v1⟩ := lstO_run r h1 e1
        obtain ⟨hz', q'⟩ := newL_run q r (v1.rep _)
        refine op_rep pins s σ H _ _ v u Q I rx ry ⟨a, _, vs, rfl, of_int h2, H1, hz.1, hz.2, ?_, q'⟩
        simpa [List.length_flatten, Nat.mul_comm] using hz'
      · exact q.elim
    · exact q.elim
  · exact q.elim
def modD (x y : D) (S : Sto) : R D := match x, y with
  | .int i, .int j => if 0 < j then .ok (.int (i % j)) S else .bad
  | _, _ => .bad
theorem od_mod : OpR X (binaryOp .Mod) (rD2 g E modD) := by
  intro pins s σ H x y v u Q I rx ry h
  obtain ⟨m, S, d, d', r, h1, h2, q⟩ := h
  unfold modD at q
  split at q
  · split at q
    · rename_i hz
      exact op_mod pins s σ H x y v u Q I rx ry ⟨_, _, of_int h1, of_int h2, hz, q.ok r _ rv_int⟩
    · exact q.elim
  · exact q.elim
def fdivD (x y : D) (S : Sto) : R D := match x, y with
  | .int i, .int j => if 0 < j ∧ j.natAbs.log2 < 9000 then .ok (.int (i / j)) S else .bad
  | _, _ => .bad
theorem od_fdiv : OpR X (binaryOp .FloorDiv) (rD2 g E fdivD) := by
  intro pins s σ H x y v u Q I rx ry h
  obtain ⟨m, S, d, d', r, h1, h2, q⟩ := h
  unfold fdivD at q
  split at q
  · split at q
    · rename_i hz
      exact op_fdivW pins s σ H x y v u Q I rx ry ⟨_, _, of_int h1, of_int h2, hz, q.ok r _ rv_int⟩
    · exact q.elim
  · exact q.elim
def powD (x y : D) (S : Sto) : R D := match x, y with
  | .int i, .int j => if 0 ≤ j ∧ j ≤ 1000000 ∧ i.natAbs < 2 ^ 64 then .ok (.int (i ^ j.toNat)) S else .bad
  | _, _ => .bad
theorem od_pow : OpR X (binaryOp .Pow) (rD2 g E powD) := by
  intro pins s σ H x y v u Q I rx ry h
  obtain ⟨m, S, d, d', r, h1, h2, q⟩ := h
  unfold powD at q
  split at q
  · split at q
    · rename_i hz
      exact op_pow pins s σ H x y v u Q I rx ry ⟨_, _, of_int h1, of_int h2, hz, q.ok r _ rv_int⟩
    · exact q.elim
  · exact q.elim
def negD (x : D) (S : Sto) : R D := match x with
  | .int i => .ok (.int (-i)) S
  | _ => .bad
theorem ud_neg : UnR X (unaryOp .USub) (rD1 g E negD) := by
  intro pins s σ H x v Q I rx h
  obtain ⟨m, S, d, r, h1, q⟩ := h
  unfold negD at q
  split at q
  · exact un_neg pins s σ H x v Q I rx ⟨_, of_int h1, q.ok r _ rv_int⟩
  · exact q.elim

/-! comparisons -/
def ordD (fi : Int → Int → Bool) (x y : D) (S : Sto) : R D := match x, y with
  | .int i, .int j => .ok (.bl (fi i j)) S
  | _, _ => .bad
theorem od_lt : OpR X (compareOp .Lt) (rD2 g E (ordD fun i j => decide (i < j))) := by
  intro pins s σ H x y v u Q I rx ry h
  obtain ⟨m, S, d, d', r, h1, h2, q⟩ := h
  unfold ordD at q
  split at q
  · exact op_lt pins s σ H x y v u Q I rx ry ⟨_, _, of_int h1, of_int h2, q.ok r _ rv_bl⟩
  · exact q.elim
theorem od_le : OpR X (compareOp .LtE) (rD2 g E (ordD fun i j => decide (i ≤ j))) := by
  intro pins s σ H x y v u Q I rx ry h
  obtain ⟨m, S, d, d', r, h1, h2, q⟩ := h
  unfold ordD at q
  split at q
  · exact op_le pins s σ H x y v u Q I rx ry ⟨_, _, of_int h1, of_int h2, q.ok r _ rv_bl⟩
  · exact q.elim
theorem od_gt : OpR X (compareOp .Gt) (rD2 g E (ordD fun i j => decide (j < i))) := by
  intro pins s σ H x y v u Q I rx ry h
  obtain ⟨m, S, d, d', r, h1, h2, q⟩ := h
  unfold ordD at q
  split at q
  · exact op_gt pins s σ H x y v u Q I rx ry ⟨_, _, of_int h1, of_int h2, q.ok r _ rv_bl⟩
  · exact q.elim
theorem od_ge : OpR X (compareOp .GtE) (rD2 g E (ordD fun i j => decide (j ≤ i))) := by
  intro pins s σ H x y v u Q I rx ry h
  obtain ⟨m, S, d, d', r, h1, h2, q⟩ := h
  unfold ordD at q
  split at q
  · exact op_ge pins s σ H x y v u Q I rx ry ⟨_, _, of_int h1, of_int h2, q.ok r _ rv_bl⟩
  · exact q.elim
/-- is, of None and bools -/
def D.isNon : D → Bool
  | .non => true
  | _ => false
def isD (neg : Bool) (x y : D) (S : Sto) : R D := match y with
  | .non => .ok (.bl (neg != x.isNon)) S
  | .bl b => match x with
    | .bl a => .ok (.bl (neg != decide (a = b))) S
    | _ => .bad
  | _ => .bad
theorem isnon_run {m : Mp} {H : Hp} {d : D} {x : V} (h : RV g m H d x) : decide (x = .non) = d.isNon := by
  cases d with
  | non => rw [of_non h]; rfl
  | bl b => rw [of_bl h]; rfl
  | int b => rw [of_int h]; rfl
  | str b => rw [of_str h]; rfl
  | ty b => rw [of_ty h]; rfl
  | tup ds => obtain ⟨a, vs, rfl, _⟩ := of_tup h; rfl
  | ref n => obtain ⟨a, _, rfl, _⟩ := of_ref h; rfl
  | kref n => obtain ⟨a, rfl, _⟩ := of_kref h; rfl
  | lst ds => obtain ⟨a, vs, rfl, _⟩ := of_lst h; rfl
  | dic ks ds => obtain ⟨a, vs, rfl, _⟩ := of_dic h; rfl
  | dct ks ds => obtain ⟨a, vs, rfl, _⟩ := of_dct h; rfl
  | obj c ns ds => obtain ⟨a, C, dx, fs, rfl, _⟩ := of_obj h; rfl
  | scr ns => obtain ⟨a, rfl, _⟩ := of_scr h; rfl
theorem od_is : OpR X (compareOp .Is) (rD2 g E (isD false)) := by
  intro pins s σ H x y v u Q I rx ry h
  obtain ⟨m, S, d, d', r, h1, h2, q⟩ := h
  unfold isD at q
  split at q
  · exact op_isN pins s σ H x y v u Q I rx ry ⟨of_non h2, by rw [isnon_run h1]; exact q.ok r _ (by simp [rv_bl])⟩
  · split at q
    · exact op_isBl pins s σ H x y v u Q I rx ry ⟨_, _, of_bl h1, of_bl h2, q.ok r _ (by simp [rv_bl])⟩
    · exact q.elim
  · exact q.elim
theorem od_isnot : OpR X (compareOp .IsNot) (rD2 g E (isD true)) := by
  intro pins s σ H x y v u Q I rx ry h
  obtain ⟨m, S, d, d', r, h1, h2, q⟩ := h
  unfold isD at q
  split at q
  · exact op_notN pins s σ H x y v u Q I rx ry ⟨of_non h2, by rw [isnon_run h1]; exact q.ok r _ (by simp [rv_bl])⟩
  · split at q
    · exact op_notBl pins s σ H x y v u Q I rx ry ⟨_, _, of_bl h1, of_bl h2, q.ok r _ (by simp [rv_bl])⟩
    · exact q.elim
  · exact q.elim

/-! == of data -/
mutual
def toP (S : Sto) : Nat → D → Option PyData
  | 0, _ => none
  | _ + 1, .non => some .none
  | _ + 1, .bl b => some (.bool b)
  | _ + 1, .int i => some (.int i)
  | _ + 1, .str x => some (.str x)
  | k + 1, .tup ds => (toPs S k ds).map .tuple
  | k + 1, .lst ds => (toPs S k ds).map .list
  | k + 1, .ref n => match S[n]? with
    | some (.lst ds) => (toPs S k ds).map .list
    | _ => none
  | _ + 1, _ => none
def toPs (S : Sto) : Nat → List D → Option (List PyData)
  | _, [] => some []
  | 0, _ :: _ => none
  | k + 1, d :: ds => match toP S (k + 1) d, toPs S (k + 1) ds with
    | some p, some ps => some (p :: ps)
    | _, _ => none
end
mutual
theorem toP_run {g : G} {m : Mp} {S : Sto} {H : Hp} (r : Rel g m S H) : ∀ (k : Nat) {d : D} {v : V} {p : PyData}, RV g m H d v → toP S k d = some p → Dp g.K H v p
  | 0, d, v, p, _, e => by simp [toP] at e
  | k + 1, d, v, p, h, e => by
    cases d with
    | non => simp [toP] at e; subst e; rw [of_non h]; exact .non
    | bl b => simp [toP] at e; subst e; rw [of_bl h]; exact .bl b
    | int b => simp [toP] at e; subst e; rw [of_int h]; exact .int b
    | str b => simp [toP] at e; subst e; rw [of_str h]; exact .str b
    | tup ds =>
      simp [toP] at e
      obtain ⟨ps, e1, rfl⟩ := e
      obtain ⟨a, vs, rfl, h1, h2⟩ := of_tup h
      exact .tup h1 (toPs_run r k h2 e1)
    | lst ds =>
      simp [toP] at e
      obtain ⟨ps, e1, rfl⟩ := e
      obtain ⟨a, vs, rfl, h1, _, h2⟩ := of_lst h
      exact .lst (.of h1) (toPs_run r k h2 e1)
    | ref n =>
      simp only [toP] at e
      split at e
      · rename_i ds e0
        simp at e
        obtain ⟨ps, e1, rfl⟩ := e
        obtain ⟨a, vs, rfl, _, h1, h2⟩ := lst_ref r h e0
        exact .lst (.of h1) (toPs_run r k h2 e1)
      · cases e
    | ty b => simp [toP] at e
    | kref n => simp [toP] at e
    | dic _ _ => simp [toP] at e
    | dct _ _ => simp [toP] at e
    | obj _ _ _ => simp [toP] at e
    | scr _ => simp [toP] at e
theorem toPs_run {g : G} {m : Mp} {S : Sto} {H : Hp} (r : Rel g m S H) : ∀ (k : Nat) {ds : List D} {vs : List V} {ps : List PyData}, RVs g m H ds vs → toPs S k ds = some ps → DpAll g.K H vs ps
  | k, [], vs, ps, h, e => by rw [h.nil_iff]; cases k <;> (simp [toPs] at e; subst e; exact .nil)
  | 0, d :: ds, vs, ps, h, e => by simp [toPs] at e
  | k + 1, d :: ds, vs, ps, h, e => by
    obtain ⟨v, rr, rfl, h1, h2⟩ := h.cons_iff
    simp only [toPs] at e
    split at e
    · rename_i p ps' e1 e2
      cases e
      exact .cons (toP_run r (k + 1) h1 e1) (toPs_run r (k + 1) h2 e2)
    · cases e
end
def eqD (neg : Bool) (x y : D) (S : Sto) : R D := match x, y with
  | .int i, .int j => .ok (.bl (neg != decide (i = j))) S
  | .str i, .str j => .ok (.bl (neg != decide (i = j))) S
  | .bl i, .bl j => .ok (.bl (neg != decide (i = j))) S
  | x, y => match toP S 65 x, toP S 65 y with
    | some p, some q => if SeqAt.shaped p = true ∧ SeqAt.shaped q = true then .ok (.bl (neg != PyData.eqv p q)) S else .bad
    | _, _ => .bad
theorem od_eq (hK : X.K = g.K) (hu : X.A.units + 64 < cLine) : OpR X (compareOp .Eq) (rD2 g E (eqD false )) := by
  intro pins s σ H x y v u Q I rx ry h
  obtain ⟨m, S, d, d', r, h1, h2, q⟩ := h
  unfold eqD at q
  split at q
  · cases of_int h1
    cases of_int h2
    exact op_eq pins s σ H _ _ v u Q I rx ry ⟨rfl, q.ok r _ (by simp [RV])⟩
  · cases of_str h1
    cases of_str h2
    exact op_eq pins s σ H _ _ v u Q I rx ry ⟨rfl, q.ok r _ (by simp [RV])⟩
  · cases of_bl h1
    cases of_bl h2
    exact op_eq pins s σ H _ _ v u Q I rx ry ⟨rfl, q.ok r _ (by simp [RV])⟩
  · split at q
    · rename_i p p' e1 e2
      split at q
      · rename_i hs
        refine op_eqD hu pins s σ H _ _ v u Q I rx ry ⟨p, p', by rw [hK]; exact toP_run r _ h1 e1, by rw [hK]; exact toP_run r _ h2 e2, hs.1, hs.2, q.ok r _ (by simp [rv_bl])⟩
      · exact q.elim
    · exact q.elim
theorem od_ne (hK : X.K = g.K) (hu : X.A.units + 64 < cLine) : OpR X (compareOp .NotEq) (rD2 g E (eqD true )) := by
  intro pins s σ H x y v u Q I rx ry h
  obtain ⟨m, S, d, d', r, h1, h2, q⟩ := h
  unfold eqD at q
  split at q
  · cases of_int h1
    cases of_int h2
    exact op_ne pins s σ H _ _ v u Q I rx ry ⟨rfl, q.ok r _ (by simp [RV])⟩
  · cases of_str h1
    cases of_str h2
    exact op_ne pins s σ H _ _ v u Q I rx ry ⟨rfl, q.ok r _ (by simp [RV])⟩
  · cases of_bl h1
    cases of_bl h2
    exact op_ne pins s σ H _ _ v u Q I rx ry ⟨rfl, q.ok r _ (by simp [RV])⟩
  · split at q
    · rename_i p p' e1 e2
      split at q
      · rename_i hs
        refine op_neD hu pins s σ H _ _ v u Q I rx ry ⟨p, p', by rw [hK]; exact toP_run r _ h1 e1, by rw [hK]; exact toP_run r _ h2 e2, hs.1, hs.2, q.ok r _ (by simp [rv_bl])⟩
      · exact q.elim
    · exact q.elim

/-! subscripts -/
def ixD (x y : D) (S : Sto) : R D := match y with
  | .int i => match x with
    | .tup ds => match atI ds i with
      | some d => .ok d S
      | none => .bad
    | .str z => if z.length ≤ sizeLine then (match atI z.cps.toList i with
      | some c => .ok (.str ⟨#[c]⟩) S
      | none => .bad) else .bad
    | x => match lstOf x S with
      | some ds => match atI ds i with
        | some d => .ok d S
        | none => .bad
      | none => .bad
  | _ => .bad
theorem at_run {g : G} {m : Mp} {H : Hp} {ds : List D} {vs : List V} (h : RVs g m H ds vs) {i : Int} {d : D} (e : atI ds i = some d) : ∃ v, atI vs i = some v ∧ RV g m H d v := by
  unfold atI at e ⊢
  rw [h.length]
  cases q : ixN ds.length i with
  | none => rw [q] at e; cases e
  | some j =>
    rw [q] at e
    exact h.get e
theorem xd_ix (hK : X.K = g.K) : IxR X (rD2 g E (ixD )) := by
  intro value slice pins s σ H x y v u Q I rx ry h hs
  obtain ⟨m, S, d, d', r, h1, h2, q⟩ := h
  unfold ixD at q
  split at q
  · rename_i i
    split at q
    · split at q
      · rename_i e
        obtain ⟨a, vs, rfl, s1, v1⟩ := of_tup h1
        obtain ⟨w, e1, e2⟩ := at_run v1 e
        exact ix_tup value slice pins s σ H _ _ v u Q I rx ry ⟨a, vs, _, w, rfl, of_int h2, by rw [hK]; exact s1, e1, q.ok r _ e2⟩ hs
      · exact q.elim
    · split at q
      · rename_i hz
        split at q
        · rename_i e
          exact ix_str value slice pins s σ H _ _ v u Q I rx ry ⟨_, _, _, of_str h1, of_int h2, hz, e, q.ok r _ rv_str⟩ hs
        · exact q.elim
      · exact q.elim
    · split at q
      · rename_i e0
        split at q
        · rename_i e
          obtain ⟨a, vs, rfl, s1, v1⟩ := lst_run r h1 e0
          obtain ⟨w, e1, e2⟩ := at_run v1 e
          exact ix_list value slice pins s σ H _ _ v u Q I rx ry ⟨a, vs, _, w, rfl, of_int h2, by rw [hK]; exact s1, e1, q.ok r _ e2⟩ hs
        · exact q.elim
      · exact q.elim
  · exact q.elim
def setD (x y z : D) (S : Sto) : R Unit := match x, y with
  | .ref n, .int k => match S[n]? with
    | some (.lst ds) => match ixN ds.length k with
      | some j => .ok () (S.set n (.lst (ds.set j z)))
      | none => .bad
    | _ => .bad
  | _, _ => .bad
theorem sd_set : PSet X (rSet g E setD) := by
  intro pins s σ H o i v ov iv u Q I ro ri rv h
  obtain ⟨m, S, d1, d2, d3, r, h1, h2, h3, q⟩ := h
  unfold setD at q
  split at q
  · split at q
    · rename_i ds e0
      split at q
      · rename_i j e1
        obtain ⟨a, vs, rfl, ha, H1, v1⟩ := lst_ref r h1 e0
        refine set_list pins s σ H _ _ v ov iv u Q I ro ri rv ⟨a, vs, _, j, rfl, of_int h2, H1, by rw [v1.length]; exact e1, ?_⟩
        exact q.at (ext_set r ha e0) (r.set ha e0 ⟨_, rfl, v1.set j h3⟩)
      · exact q.elim
    · exact q.elim
  · exact q.elim

/-! slices -/
def pNo : Lc → Sto → R (Option Int) := fun _ S => .ok none S
def pSo (e : Lc → Sto → R D) : Lc → Sto → R (Option Int) := fun L S => (e L S).bind fun d S1 => match d with
  | .int i => .ok (some i) S1
  | _ => .bad
def cutD (xs : List D) (lo hi : Option Int) : List D := (xs.drop (HT.sIx xs.length 0 lo)).take (HT.sIx xs.length xs.length hi - HT.sIx xs.length 0 lo)
theorem RVs.cut {g : G} {m : Mp} {H : Hp} {ds : List D} {vs : List V} (h : RVs g m H ds vs) (lo hi : Option Int) : RVs g m H (cutD ds lo hi) (cutV vs lo hi) := by
  unfold cutD cutV
  rw [h.length]
  exact (h.drop _).take _
def slD (x : D) (lo hi : Option Int) (S : Sto) : R D := match x with
  | .tup ds => .ok (.tup (cutD ds lo hi)) S
  | .str z => if z.length ≤ sizeLine then .ok (.str (cutS z lo hi)) S else .bad
  | x => match lstOf x S with
    | some ds => newL (cutD ds lo hi) S
    | none => .bad
def eSl (e : Lc → Sto → R D) (lo hi : Lc → Sto → R (Option Int)) : Lc → Sto → R D := fun L S => (e L S).bind fun x S1 => (lo L S1).bind fun l S2 => (hi L S2).bind fun h S3 => slD x l h S3
def tP (g : G) (E : XD) (e : Lc → Sto → R (Option Int)) : TO := fun σ H Q => ∃ m S L, Rel g m S H ∧ RL g m H L σ ∧ Aft g E m H (e L S) fun o _ _ H' => Q o H'
theorem dp_none : PO X none (tP g E pNo) := by
  refine ⟨fun pins s σ H Q I h => ?_⟩
  obtain ⟨m, S, L, r, l, q⟩ := h
  exact po_none.run pins s σ H Q I (q.ok r)
theorem dp_some {e : Expr} {ea : Lc → Sto → R D} (he : PE X e (tD g E ea)) : PO X (some e) (tP g E (pSo ea)) := by
  refine ⟨fun pins s σ H Q I h => ?_⟩
  refine (po_some he).run pins s σ H Q I ?_
  obtain ⟨m, S, L, r, l, q⟩ := h
  refine ⟨m, S, L, r, l, (Aft.bind q).mono fun d m1 S1 H1 e1 r1 q1 v rv => ?_⟩
  split at q1
  · exact ⟨_, of_int rv, q1.ok r1⟩
  · exact q1.elim
def rSl (g : G) (E : XD) (f : D → Option Int → Option Int → Sto → R D) : V → Option Int → Option Int → Hp → VK → Prop := fun x lo hi H Q => ∃ m S d, Rel g m S H ∧ RV g m H d x ∧ Aft g E m H (f d lo hi S) (vQ g Q)
theorem sx_sl (hK : X.K = g.K) : SlR X (rSl g E (slD )) := by
  intro pins s σ H x v vl vu lo hi sl Q I rx hs pl pu h
  obtain ⟨m, S, d, r, h1, q⟩ := h
  unfold slD at q
  split at q
  · rename_i ds
    obtain ⟨a, vs, rfl, t1, v1⟩ := of_tupv h1
    have s1 := t1.sq
    refine sl_tupA pins s σ H _ v vl vu lo hi sl Q I rx hs pl pu ⟨a, vs, rfl, by rw [hK]; exact s1, fun hw => ?_, fun _ p hp => ?_⟩
    · have : cutD ds lo hi = ds := by
        unfold cutD
        rw [v1.length] at hw
        rw [hw.1, hw.2]
        simp
      rw [this] at q
      exact q.ok r _ (rv_tupv t1 v1)
    · exact q.at (ext_lay r hp) (r.lay hp) _ (rv_tupv (.inl ⟨upd_same, r.un hp⟩) ((v1.cut lo hi).ext (ext_lay r hp)))
  · split at q
    · rename_i hz
      exact sl_str pins s σ H _ v vl vu lo hi sl Q I rx hs pl pu ⟨_, of_str h1, hz, q.ok r _ rv_str⟩
    · exact q.elim
  · split at q
    · rename_i ds e0
      obtain ⟨a, vs, rfl, s1, v1⟩ := lst_run r h1 e0
      obtain ⟨_, q'⟩ := newL_run q r (v1.cut lo hi)
      exact sl_list pins s σ H _ v vl vu lo hi sl Q I rx hs pl pu ⟨a, vs, rfl, by rw [hK]; exact s1, q'⟩
    · exact q.elim
theorem de_sl {e : Expr} {lo hi : Option Expr} {p2 pos : Pos} {ea : Lc → Sto → R D} {el eh : Lc → Sto → R (Option Int)} (hK : X.K = g.K) (he : PE X e (tD g E ea)) (hl : PO X lo (tP g E el)) (hu : PO X hi (tP g E eh)) : PE X (.Subscript e (.Slice lo hi none p2) pos) (tD g E (eSl  ea el eh)) := by
  refine (pe_slice (sx_sl (E := E) hK) he hl hu).imp fun σ H Q h => ?_
  obtain ⟨m, S, L, r, l, q⟩ := h
  refine ⟨m, S, L, r, l, (Aft.bind q).mono fun d m1 S1 H1 e1 r1 q1 v rv => ?_⟩
  refine ⟨m1, S1, L, r1, l.ext e1, (Aft.bind q1).mono fun lo m2 S2 H2 e2 r2 q2 => ?_⟩
  refine ⟨m2, S2, L, r2, l.ext (e1.trans e2), (Aft.bind q2).mono fun hi m3 S3 H3 e3 r3 q3 => ?_⟩
  exact ⟨m3, S3, d, r3, rv.ext (e2.trans e3), q3⟩
end
end VL

namespace VL
open PySem PySem.Spec PyProof.Rows L2
section
variable {X : Cx} {g : G} {E : XD}
theorem rvs1 {m : Mp} {H : Hp} {d : D} {vs : List V} (h : RVs g m H [d] vs) : ∃ v, vs = [v] ∧ RV g m H d v := by
  obtain ⟨v, r, rfl, h1, h2⟩ := h.cons_iff
  rw [h2.nil_iff]
  exact ⟨v, rfl, h1⟩
theorem rvs2 {m : Mp} {H : Hp} {d d' : D} {vs : List V} (h : RVs g m H [d, d'] vs) : ∃ v v', vs = [v, v'] ∧ RV g m H d v ∧ RV g m H d' v' := by
  obtain ⟨v, r, rfl, h1, h2⟩ := h.cons_iff
  obtain ⟨v', rfl, h3⟩ := rvs1 h2
  exact ⟨v, v', rfl, h1, h3⟩
/-! len, abs, int, min, max, tuple, list, sum, all, any -/
def lenD (ds : List D) (S : Sto) : R D := match ds with
  | [.str z] => if z.length ≤ sizeLine then .ok (.int z.length) S else .bad
  | [.tup ds] => .ok (.int ds.length) S
  | [x] => match lstOf x S with
    | some ds => .ok (.int ds.length) S
    | none => .bad
  | _ => .bad
theorem cd_len (hK : X.K = g.K) : CallR X (.builtin "len") (rDs g E (lenD)) := by
  intro pins s σ H xs us Q I r h
  obtain ⟨m, S, ds, rl, h1, q⟩ := h
  unfold lenD at q
  split at q
  · split at q
    · rename_i hz
      obtain ⟨v, rfl, h2⟩ := rvs1 h1
      exact call_len_str pins s σ H _ us Q I r ⟨_, by rw [of_str h2], hz, q.ok rl _ rv_int⟩
    · exact q.elim
  · obtain ⟨v, rfl, h2⟩ := rvs1 h1
    obtain ⟨a, vs, rfl, s1, v1⟩ := of_tup h2
    exact call_len_seq pins s σ H _ us Q I r ⟨a, vs, rfl, .inr (by rw [hK]; exact s1), by rw [v1.length]; exact q.ok rl _ rv_int⟩
  · split at q
    · rename_i e
      obtain ⟨v, rfl, h2⟩ := rvs1 h1
      obtain ⟨a, vs, rfl, s1, v1⟩ := lst_run rl h2 e
      exact call_len_seq pins s σ H _ us Q I r ⟨a, vs, rfl, .inl (by rw [hK]; exact s1), by rw [v1.length]; exact q.ok rl _ rv_int⟩
    · exact q.elim
  · exact q.elim
def absD (ds : List D) (S : Sto) : R D := match ds with
  | [.int i] => .ok (.int (if i < 0 then -i else i)) S
  | _ => .bad
theorem cd_abs : CallR X (.builtin "abs") (rDs g E absD) := by
  intro pins s σ H xs us Q I r h
  obtain ⟨m, S, ds, rl, h1, q⟩ := h
  unfold absD at q
  split at q
  · obtain ⟨v, rfl, h2⟩ := rvs1 h1
    exact call_abs pins s σ H _ us Q I r ⟨_, by rw [of_int h2], q.ok rl _ rv_int⟩
  · exact q.elim
def intD (ds : List D) (S : Sto) : R D := match ds with
  | [.int i] => .ok (.int i) S
  | [.bl k] => .ok (.int (if k = true then 1 else 0)) S
  | _ => .bad
theorem cd_int : CallR X (.type "int") (rDs g E intD) := by
  intro pins s σ H xs us Q I r h
  obtain ⟨m, S, ds, rl, h1, q⟩ := h
  unfold intD at q
  split at q
  · obtain ⟨v, rfl, h2⟩ := rvs1 h1
    exact call_int1 pins s σ H _ us Q I r (.inl ⟨_, by rw [of_int h2], q.ok rl _ rv_int⟩)
  · obtain ⟨v, rfl, h2⟩ := rvs1 h1
    exact call_int1 pins s σ H _ us Q I r (.inr ⟨_, by rw [of_bl h2], q.ok rl _ rv_int⟩)
  · exact q.elim
def max2D (ds : List D) (S : Sto) : R D := match ds with
  | [.int i, .int j] => .ok (.int (if j > i then j else i)) S
  | _ => .bad
def min2D (ds : List D) (S : Sto) : R D := match ds with
  | [.int i, .int j] => .ok (.int (if j < i then j else i)) S
  | _ => .bad
theorem cd_max2 (hc : X.calm = true) : CallR X (.builtin "max") (rDs g E max2D) := by
  intro pins s σ H xs us Q I r h
  obtain ⟨m, S, ds, rl, h1, q⟩ := h
  unfold max2D at q
  split at q
  · obtain ⟨v, v', rfl, h2, h3⟩ := rvs2 h1
    exact call_max2 hc pins s σ H _ us Q I r ⟨_, _, by rw [of_int h2, of_int h3], q.ok rl _ rv_int⟩
  · exact q.elim
theorem cd_min2 (hc : X.calm = true) : CallR X (.builtin "min") (rDs g E min2D) := by
  intro pins s σ H xs us Q I r h
  obtain ⟨m, S, ds, rl, h1, q⟩ := h
  unfold min2D at q
  split at q
  · obtain ⟨v, v', rfl, h2, h3⟩ := rvs2 h1
    exact call_min2 hc pins s σ H _ us Q I r ⟨_, _, by rw [of_int h2, of_int h3], q.ok rl _ rv_int⟩
  · exact q.elim
def tupleD (ds : List D) (S : Sto) : R D := match ds with
  | [.tup ds] => .ok (.tup ds) S
  | [x] => match lstOf x S with
    | some ds => .ok (.tup ds) S
    | none => .bad
  | _ => .bad
theorem cd_tuple (hK : X.K = g.K) : CallR X (.type "tuple") (rDs g E (tupleD)) := by
  intro pins s σ H xs us Q I r h
  obtain ⟨m, S, ds, rl, h1, q⟩ := h
  unfold tupleD at q
  split at q
  · obtain ⟨v, rfl, h2⟩ := rvs1 h1
    obtain ⟨a, vs, rfl, t1, v1⟩ := of_tupv h2
    exact call_tuple_of pins s σ H _ us Q I r ⟨a, vs, rfl, .inr ⟨by rw [hK]; exact t1.sq, q.ok rl _ (rv_tupv t1 v1)⟩⟩
  · split at q
    · rename_i e
      obtain ⟨v, rfl, h2⟩ := rvs1 h1
      obtain ⟨a, vs, rfl, s1, v1⟩ := lst_run rl h2 e
      exact call_tuple_of pins s σ H _ us Q I r ⟨a, vs, rfl, .inl ⟨by rw [hK]; exact s1, fun p hp => q.at (ext_lay rl hp) (rl.lay hp) _ (rv_tupv (.inl ⟨upd_same, rl.un hp⟩) (v1.ext (ext_lay rl hp)))⟩⟩
    · exact q.elim
  · exact q.elim
def ints? : List D → Option (List Int)
  | [] => some []
  | .int i :: ds => (ints? ds).map (i :: ·)
  | _ :: _ => none
theorem ints_run {m : Mp} {H : Hp} : ∀ {ds : List D} {vs : List V} {ns : List Int}, RVs g m H ds vs → ints? ds = some ns → vs = ns.map V.int
  | [], vs, ns, h, e => by rw [h.nil_iff]; simp [ints?] at e; subst e; rfl
  | d :: ds, vs, ns, h, e => by
    obtain ⟨v, r, rfl, h1, h2⟩ := h.cons_iff
    cases d with
    | int i =>
      simp [ints?] at e
      obtain ⟨ns', e1, rfl⟩ := e
      rw [of_int h1, ints_run h2 e1]
      rfl
    | _ => simp [ints?] at e
def bls? : List D → Option (List Bool)
  | [] => some []
  | .bl i :: ds => (bls? ds).map (i :: ·)
  | _ :: _ => none
theorem bls_run {m : Mp} {H : Hp} : ∀ {ds : List D} {vs : List V} {ns : List Bool}, RVs g m H ds vs → bls? ds = some ns → vs = ns.map V.bl
  | [], vs, ns, h, e => by rw [h.nil_iff]; simp [bls?] at e; subst e; rfl
  | d :: ds, vs, ns, h, e => by
    obtain ⟨v, r, rfl, h1, h2⟩ := h.cons_iff
    cases d with
    | bl i =>
      simp [bls?] at e
      obtain ⟨ns', e1, rfl⟩ := e
      rw [of_bl h1, bls_run h2 e1]
      rfl
    | _ => simp [bls?] at e
def sumD (ds : List D) (S : Sto) : R D := match ds with
  | [x] => match lstOf x S with
    | some ds => match ints? ds with
      | some ns => .ok (.int ns.sum) S
      | none => .bad
    | none => .bad
  | _ => .bad
theorem cd_sum (hK : X.K = g.K) (hc : X.calm = true) : CallR X (.builtin "sum") (rDs g E (sumD)) := by
  intro pins s σ H xs us Q I r h
  obtain ⟨m, S, ds, rl, h1, q⟩ := h
  unfold sumD at q
  split at q
  · split at q
    · rename_i e
      split at q
      · rename_i e2
        obtain ⟨v, rfl, h2⟩ := rvs1 h1
        obtain ⟨a, vs, rfl, s1, v1⟩ := lst_run rl h2 e
        exact cr_sum hc pins s σ H _ us Q I r ⟨a, _, rfl, by rw [hK, ← ints_run v1 e2]; exact s1, q.ok rl _ rv_int⟩
      · exact q.elim
    · exact q.elim
  · exact q.elim
def allD (ds : List D) (S : Sto) : R D := match ds with
  | [x] => match lstOf x S with
    | some ds => match bls? ds with
      | some ns => .ok (.bl (ns.all id)) S
      | none => .bad
    | none => .bad
  | _ => .bad
theorem cd_all (hK : X.K = g.K) (hc : X.calm = true) : CallR X (.builtin "all") (rDs g E (allD)) := by
  intro pins s σ H xs us Q I r h
  obtain ⟨m, S, ds, rl, h1, q⟩ := h
  unfold allD at q
  split at q
  · split at q
    · rename_i e
      split at q
      · rename_i e2
        obtain ⟨v, rfl, h2⟩ := rvs1 h1
        obtain ⟨a, vs, rfl, s1, v1⟩ := lst_run rl h2 e
        exact cr_all hc pins s σ H _ us Q I r ⟨a, _, rfl, by rw [hK, ← bls_run v1 e2]; exact s1, q.ok rl _ rv_bl⟩
      · exact q.elim
    · exact q.elim
  · exact q.elim
def anyD (ds : List D) (S : Sto) : R D := match ds with
  | [x] => match lstOf x S with
    | some ds => match bls? ds with
      | some ns => .ok (.bl (ns.any id)) S
      | none => .bad
    | none => .bad
  | _ => .bad
theorem cd_any (hK : X.K = g.K) (hc : X.calm = true) : CallR X (.builtin "any") (rDs g E (anyD)) := by
  intro pins s σ H xs us Q I r h
  obtain ⟨m, S, ds, rl, h1, q⟩ := h
  unfold anyD at q
  split at q
  · split at q
    · rename_i e
      split at q
      · rename_i e2
        obtain ⟨v, rfl, h2⟩ := rvs1 h1
        obtain ⟨a, vs, rfl, s1, v1⟩ := lst_run rl h2 e
        exact cr_any hc pins s σ H _ us Q I r ⟨a, _, rfl, by rw [hK, ← bls_run v1 e2]; exact s1, q.ok rl _ rv_bl⟩
      · exact q.elim
    · exact q.elim
  · exact q.elim
/-! isinstance of a built-in class -/
inductive Tg where
  | non | bl | int | str | lst | tup | dic
def Tg.nm : Tg → String
  | .non => "NoneType" | .bl => "bool" | .int => "int" | .str => "str" | .lst => "list" | .tup => "tuple" | .dic => "dict"
def tgD (d : D) (S : Sto) : Option Tg := match d with
  | .non => some .non
  | .bl _ => some .bl
  | .int _ => some .int
  | .str _ => some .str
  | .tup _ => some .tup
  | .lst _ => some .lst
  | .dic _ _ => some .dic
  | .ref n => match S[n]? with
    | some (.lst _) => some .lst
    | some (.dic _ _) => some .dic
    | some (.dct _ _) => some .dic
    | some (.dlk _ _) => some .dic
    | _ => none
  | _ => none
inductive Ki where
  | int | bool | str | tuple | list | dict
def Ki.nm : Ki → String
  | .int => "int" | .bool => "bool" | .str => "str" | .tuple => "tuple" | .list => "list" | .dict => "dict"
def isTg : Tg → Ki → Bool
  | .int, .int => true | .bl, .int => true | .bl, .bool => true | .str, .str => true | .tup, .tuple => true | .lst, .list => true | .dic, .dict => true
  | _, _ => false
theorem isTg_ok : ∀ (t : Tg) (k : Ki), kitB t.nm k.nm = some (isTg t k) := by
  intro t k
  cases t <;> cases k <;> decide +kernel
theorem tg_run {m : Mp} {S : Sto} {H : Hp} (r : Rel g m S H) {d : D} {v : V} (rv : RV g m H d v) {t : Tg} (e : tgD d S = some t) : TyX g.K H v (.type t.nm) := by
  unfold tgD at e
  cases d with
  | non => cases e; rw [of_non rv]; exact .base .non
  | bl b => cases e; rw [of_bl rv]; exact .base (.bl b)
  | int b => cases e; rw [of_int rv]; exact .base (.int b)
  | str b => cases e; rw [of_str rv]; exact .base (.str b)
  | tup ds =>
    cases e
    obtain ⟨a, vs, rfl, s1, v1⟩ := of_tup rv
    rcases s1 with (h | ⟨o, h⟩) | ⟨o, its, n, h1, h2, _⟩
    · exact .base (.tup h)
    · exact .fTuple h
    · exact .kTuple h1 h2
  | lst ds =>
    cases e
    obtain ⟨a, vs, rfl, h1, _⟩ := of_lst rv
    exact .base (.lst h1)
  | dic ks ds =>
    cases e
    obtain ⟨a, kvs, rfl, h1 | ⟨od, h1⟩, _⟩ := of_dic rv
    · exact .base (.dK h1)
    · exact .fDict h1
  | ref n =>
    simp only at e
    split at e
    · cases e
      rename_i e0
      obtain ⟨a, o, rfl, _, h1, vs, rfl, h2⟩ := r.at rv e0 (by intro z; cases z)
      exact .base (.lst h1)
    · cases e
      rename_i e0
      obtain ⟨a, o, rfl, _, h1, vs, rfl, h2, _⟩ := r.at rv e0 (by intro z; cases z)
      exact .base (.dK h1)
    · cases e
      rename_i e0
      obtain ⟨a, o, rfl, _, h1, vs, rfl, h2, _⟩ := r.at rv e0 (by intro z; cases z)
      exact .base (.dT h1)
    · cases e
      rename_i e0
      obtain ⟨a, o, rfl, _, h1, od, vs, rfl, h2, _⟩ := r.at rv e0 (by intro z; cases z)
      exact .fDict h1
    · cases e
  | _ => cases e
def isiD (k : Ki) (x : D) (S : Sto) : R D := match tgD x S with
  | some t => .ok (.bl (isTg t k)) S
  | none => .bad
theorem de_isi {a : Expr} {ea : Lc → Sto → R D} {p p2 pos : Pos} {x : Str} (k : Ki) (hK : X.K = g.K) (hgi : Gl X "isinstance") (hmi : X.mg "isinstance" = none) (hg : Gl X x) (hm : X.mg x = none) (hv : bootBuiltins x = some (.type k.nm)) (ha : PE X a (tD g E ea))
    (hn : x ≠ "__name__" := by decide) (hdb : (x == ("__debug__" : Str)) = false := by decide) (he : starEach [a, .Name x p2] X.env = [(false, eval a X.env), (false, eval (.Name x p2) X.env)] := by rfl) (hs2 : starEach [Expr.Name x p2] X.env = [(false, eval (.Name x p2) X.env)] := by rfl) :
    PE X (.Call (.Name "isinstance" p) [a, .Name x p2] [] pos) (tD g E (eUn (isiD k) ea)) := by
  refine (pe_callB call_isi hgi hmi (by decide +kernel) (pa_cons ha (pa_cons (pe_bltn (v := .ty k.nm) hg hm hv rfl hn hdb) pa_nil hs2) (by rw [he, hs2])) (by decide) (by decide) (by rw [he, hs2]) (by rw [hs2]; rfl)).imp fun σ H Q h => ?_
  obtain ⟨m, S, L, r, l, q⟩ := h
  refine ⟨m, S, L, r, l, (Aft.bind q).mono fun d m1 S1 H1 e1 r1 q1 v rv => ?_⟩
  unfold isiD at q1
  split at q1
  · rename_i t e
    exact ⟨v, .ty k.nm, .type t.nm, .type k.nm, isTg t k, rfl, .ty _, by rw [hK]; exact tg_run r1 rv e, kit_ty (isTg_ok t k), q1.ok r1 _ rv_bl⟩
  · exact q1.elim

/-! what is walked -/
def rngL (lo : Int) (n : Nat) : List D := (List.range n).map fun (i : Nat) => D.int (lo + (i : Int))
theorem rngL_get (lo : Int) (n i : Nat) : (rngL lo n)[i]? = if i < n then some (.int (lo + (i : Int))) else none := by
  unfold rngL
  rw [List.getElem?_map]
  by_cases h : i < n
  · rw [if_pos h, List.getElem?_range h]; rfl
  · rw [if_neg h, List.getElem?_eq_none (by simpa using h)]; rfl
def wRng1 (a : Lc → Sto → R (List D)) : Lc → Sto → R Wk := fun L S => (a L S).bind fun ds S1 => match ds with
  | [.int j] => if -(2 ^ 62) ≤ j ∧ j < 2 ^ 62 then .ok ⟨rngL 0 j.toNat, fun _ => true⟩ S1 else .bad
  | _ => .bad
def wRng2 (a : Lc → Sto → R (List D)) : Lc → Sto → R Wk := fun L S => (a L S).bind fun ds S1 => match ds with
  | [.int i, .int j] => if (-(2 ^ 62) ≤ i ∧ i < 2 ^ 62) ∧ (-(2 ^ 62) ≤ j ∧ j < 2 ^ 62) then .ok ⟨rngL i (j - i).toNat, fun _ => true⟩ S1 else .bad
  | _ => .bad
theorem jd_rng (lo : Int) (n : Nat) (m0 : Mp) (H0 : Hp) : JD g (Itr lo n) ⟨rngL lo n, fun _ => true⟩ m0 H0 := by
  intro i m S H e r _
  have hg := rngL_get lo n i
  by_cases h : i < n
  · rw [if_pos h] at hg
    refine ⟨fun z => ?_, fun d hd => ⟨h, fun x H' y => ?_⟩⟩
    · have z' : (rngL lo n)[i]? = none := z
      rw [hg] at z'; cases z'
    · have z' : (rngL lo n)[i]? = some d := hd
      rw [hg] at z'
      cases z'
      obtain ⟨e1, e2⟩ := y
      subst e1 e2
      exact ⟨.refl, r, rv_int⟩
  · rw [if_neg h] at hg
    refine ⟨fun _ => Nat.le_of_not_lt h, fun d hd => ?_⟩
    have z' : (rngL lo n)[i]? = some d := hd
    rw [hg] at z'; cases z'
theorem di_rng1 {tg a : Expr} {p pos : Pos} {ls : Lc → Sto → R (List D)} (hg : Gl X "range") (hm : X.mg "range" = none) (ha : PA X [a] (tL g E ls)) (hs : starEach [a] X.env = [(false, eval a X.env)] := by rfl) : PI X tg (.Call (.Name "range" p) [a] [] pos) (tI g E (wRng1 ls)) := by
  refine (pi_range1 hg hm ha hs).imp fun σ H Q h => ?_
  obtain ⟨m, S, L, r, l, q⟩ := h
  refine ⟨m, S, L, r, l, (Aft.bind q).mono fun ds m1 S1 H1 e1 r1 q1 vs rvs => ?_⟩
  split at q1
  · split at q1
    · rename_i hz
      obtain ⟨v, rfl, h2⟩ := rvs1 rvs
      exact ⟨_, by rw [of_int h2], hz.1, hz.2, q1.ok r1 _ (jd_rng _ _ _ _)⟩
    · exact q1.elim
  · exact q1.elim
theorem di_rng2 {tg a b : Expr} {p pos : Pos} {ls : Lc → Sto → R (List D)} (hg : Gl X "range") (hm : X.mg "range" = none) (ha : PA X [a, b] (tL g E ls)) (hs : starEach [a, b] X.env = [(false, eval a X.env), (false, eval b X.env)] := by rfl) (hs2 : starEach [b] X.env = [(false, eval b X.env)] := by rfl) : PI X tg (.Call (.Name "range" p) [a, b] [] pos) (tI g E (wRng2 ls)) := by
  refine (pi_range2 hg hm ha hs hs2).imp fun σ H Q h => ?_
  obtain ⟨m, S, L, r, l, q⟩ := h
  refine ⟨m, S, L, r, l, (Aft.bind q).mono fun ds m1 S1 H1 e1 r1 q1 vs rvs => ?_⟩
  split at q1
  · split at q1
    · rename_i hz
      obtain ⟨v, v', rfl, h2, h3⟩ := rvs2 rvs
      exact ⟨_, _, by rw [of_int h2, of_int h3], ⟨hz.1.1, hz.1.2, hz.2.1, hz.2.2⟩, q1.ok r1 _ (jd_rng _ _ _ _)⟩
    · exact q1.elim
  · exact q1.elim
end
end VL

/-! zip of two tuples, its pairs given to one name -/
namespace DZ
open PySem PySem.Spec PyProof.Rows L2 RZ
abbrev ZG (h : Heap) (z TI TO : Addr) (f0 : Value) (f1 : Bool) : Prop :=
  h.get? z = some { cls := .type "zip", dict := none, data := .fields #[f0, .bool f1, .bool false, .ref TI, .ref TO], slots := #[] }
/-- what the zip keeps of its last pair -/
def Keeps (f0 : Value) (f1 : Bool) : Prop := (f0 = .none ∧ f1 = false) ∨ ∃ T : Nat, f0 = rawInt T
section
variable {prog : Program} {w : World} {A : Around} {E : Value → Shared → Prop} {s : Shared}
theorem dead {a : Addr} {Q : Option Obj → Shared → Prop} (ho : s.heap.get? a = none) (h : Q none s) : wpAny (model prog w) A (loadIfAlive a) Q E s := by
  have q : Q (s.heap.get? a) s := by rw [ho]; exact h
  exact fun _ _ _ => q
theorem free_of {z TI TO : Addr} {f0 : Value} {f1 : Bool} {Q : Bool → Shared → Prop} (hz : ZG s.heap z TI TO f0 f1) (k : Keeps f0 f1)
    (h1 : Q true s) (h2 : ∀ (h' : Heap) (T : Nat), ZG h' z TI TO (rawInt T) true → Heap.SameBut z s.heap h' → Q false { s with heap := h' }) : wpAny (model prog w) A (Builtin.SmallTypes.ownedTupleIsFree (.ref z)) Q E s := by
  rcases k with ⟨rfl, rfl⟩ | ⟨T, rfl⟩
  · unfold Builtin.SmallTypes.ownedTupleIsFree
    exact wpAny_bind (wpAny_field hz rfl (x := .none) rfl (wpAny_pure h1))
  · cases hT : s.heap.get? T with
    | none =>
      unfold Builtin.SmallTypes.ownedTupleIsFree
      refine wpAny_bind (wpAny_field hz rfl (x := rawInt T) rfl ?_)
      show wpAny _ _ (loadIfAlive ((T : Int).toNat) >>= _) _ _ _
      rw [Int.toNat_natCast]
      refine wpAny_bind (dead hT ?_)
      exact wpAny_pure h1
    | some oT => exact PySem.wpAny_tupleHeld_zip hz hT fun h' z' sb => h2 h' T z' sb
theorem next_item {z TI TO i1 i2 l1 l2 : Addr} {f0 : Value} {f1 : Bool} {k1 k2 : Nat} {xs ys : Array Value} {x y a b : Value} {Q : Value → Shared → Prop} (D : ZipApart z TI TO i1 i2 l1 l2)
    (hz : ZG s.heap z TI TO f0 f1) (k : Keeps f0 f1) (hTI : IsPair s.heap TI (.ref i1) (.ref i2)) (hTO : IsPair s.heap TO a b)
    (h1 : s.heap.IsTupleIter i1 l1 k1) (h2 : s.heap.IsTupleIter i2 l2 k2) (hl1 : s.heap.IsTuple l1 xs) (hl2 : s.heap.IsTuple l2 ys) (hx : xs[k1]? = some x) (hy : ys[k2]? = some y)
    (hQ : ∀ h' f0' f1', ZG h' z TI TO f0' f1' → Keeps f0' f1' → (∃ a b, IsPair h' TO a b) → h'.IsTupleIter i1 l1 (k1 + 1) → h'.IsTupleIter i2 l2 (k2 + 1) → IsPair h' s.heap.objs.size x y →
      (∀ c o, c ≠ z → c ≠ TO → c ≠ i1 → c ≠ i2 → s.heap.get? c = some o → h'.get? c = some o) → Q (.ref s.heap.objs.size) { s with heap := h' }) :
    wpAny (model prog w) A (Builtin.«zip.__next__» ⟨[.ref z], []⟩) (fun fin s' => ∃ v, fin = .done (.ret v) ∧ Q v s') E s := by
  show wpAny _ _ (field (.ref z) 2 >>= _) _ _ _
  refine wpAny_bind (wpAny_field hz rfl (x := .bool false) rfl ?_)
  show wpAny _ _ (field (.ref z) 3 >>= _) _ _ _
  refine wpAny_bind (wpAny_field hz rfl (x := .ref TI) rfl (wpAny_bind (wpAny_seqItems hTI rfl ?_)))
  show wpAny _ _ (Builtin.SmallTypes.ownedTupleIsFree (.ref z) >>= _) _ _ _
  refine wpAny_bind (free_of hz k ?_ fun g1 T z1 s1 => ?_)
  · simp only [if_true]
    refine wpAny_bind (wpAny_rule (wpAny_bind (wpAny_field hz rfl (x := .ref TO) rfl ?_)))
    refine wpAny_bind (wpAny_setField_rec hz (by simp) fun g1 z1 s1 => ?_)
    replace z1 : ZG g1 z TI TO .ellipsis f1 := z1
    refine wpAny_bind ?_
    simp only [List.zipIdx_cons, List.zipIdx_nil, List.forIn_cons, List.forIn_nil]
    refine wpAny_bind (wpAny_bind (wpAny_onRaise ?_))
    show wpAny _ _ (Builtin.SmallTypes.nextOf (.ref i1) >>= _) _ _ _
    refine wpAny_bind (nextOf_tuple_item (h1.extBut s1.extBut D.i1z) (hl1.extBut s1.extBut D.l1z) hx fun g2 a2 s2 => wpAny_pure ?_)
    have t2 : IsPair g2 TO a b := s2.extBut _ _ D.TOi1 (s1.extBut _ _ D.TOz hTO)
    refine wpAny_bind (wpAny_seqItems t2 rfl (wpAny_bind (wpAny_updateSeq_pair t2 fun g3 t3 s3 => ?_)))
    replace t3 : IsPair g3 TO x b := t3
    refine wpAny_bind (wpAny_letGo (wpAny_pure (wpAny_bind (wpAny_bind (wpAny_onRaise ?_)))))
    show wpAny _ _ (Builtin.SmallTypes.nextOf (.ref i2) >>= _) _ _ _
    refine wpAny_bind (nextOf_tuple_item (((h2.extBut s1.extBut D.i2z).extBut s2.extBut D.i12.symm).extBut s3.extBut D.TOi2.symm) (((hl2.extBut s1.extBut D.l2z).extBut s2.extBut D.l2i1).extBut s3.extBut D.l2TO) hy fun g4 b4 s4 => wpAny_pure ?_)
    have t4 : IsPair g4 TO x b := s4.extBut _ _ D.TOi2 t3
    refine wpAny_bind (wpAny_seqItems t4 rfl (wpAny_bind (wpAny_updateSeq_pair t4 fun g5 t5 s5 => ?_)))
    replace t5 : IsPair g5 TO x y := t5
    refine wpAny_bind (wpAny_letGo (wpAny_pure (wpAny_pure (wpAny_bind (wpAny_seqItems t5 rfl (wpAny_bind (wpAny_newTuple ?_)))))))
    have hsz : g5.objs.size = s.heap.objs.size := by rw [s5.1, s4.1, s3.1, s2.1, s1.1]
    have z5 : ZG g5 z TI TO .ellipsis f1 := s5.extBut _ _ D.TOz.symm (s4.extBut _ _ D.i2z.symm (s3.extBut _ _ D.TOz.symm (s2.extBut _ _ D.i1z.symm z1)))
    have k5 : ∀ c o, c ≠ z → c ≠ TO → c ≠ i1 → c ≠ i2 → s.heap.get? c = some o → g5.get? c = some o := fun c o c1 c2 c3 c4 e =>
      s5.extBut _ _ c2 (s4.extBut _ _ c4 (s3.extBut _ _ c2 (s2.extBut _ _ c3 (s1.extBut _ _ c1 e))))
    have a5 : g5.IsTupleIter i1 l1 (k1 + 1) := ((a2.extBut s3.extBut D.TOi1.symm).extBut s4.extBut D.i12).extBut s5.extBut D.TOi1.symm
    have b5 : g5.IsTupleIter i2 l2 (k2 + 1) := b4.extBut s5.extBut D.TOi2.symm
    have hzlt : z < g5.objs.size := Heap.lt_size z5
    show wpAny _ _ (Builtin.SmallTypes.ownedTupleHandOut (.ref z) (.ref g5.objs.size) >>= _) _ _ _
    refine wpAny_bind ?_
    unfold Builtin.SmallTypes.ownedTupleHandOut
    have z6 : ZG (g5.push { cls := .type "tuple", data := .seq #[x, y] }) z TI TO .ellipsis f1 := Heap.get?_push_of_some _ z5
    refine wpAny_bind (wpAny_setField_rec z6 (by simp) fun g7 z7 s7 => ?_)
    replace z7 : ZG g7 z TI TO (rawInt g5.objs.size) f1 := z7
    refine wpAny_setField_rec z7 (by simp) fun g8 z8 s8 => ?_
    replace z8 : ZG g8 z TI TO (rawInt g5.objs.size) false := z8
    have up : ∀ c o, c ≠ z → g5.get? c = some o → g8.get? c = some o := fun c o c1 e => s8.extBut _ _ c1 (s7.extBut _ _ c1 (Heap.get?_push_of_some _ e))
    have p8 : IsPair g8 g5.objs.size x y := s8.extBut _ _ (Nat.ne_of_gt hzlt) (s7.extBut _ _ (Nat.ne_of_gt hzlt) (Heap.get?_push_size _ rfl))
    refine wpAny_pure ⟨_, rfl, ?_⟩
    show Q (.ref g5.objs.size) _
    rw [hsz] at p8 ⊢
    exact hQ g8 _ _ z8 (.inr ⟨_, rfl⟩) ⟨x, y, up _ _ D.TOz t5⟩ (a5.at fun o e => up _ o D.i1z e) (b5.at fun o e => up _ o D.i2z e) p8 fun c o c1 c2 c3 c4 e => up c o c1 (k5 c o c1 c2 c3 c4 e)
  · simp only [Bool.false_eq_true, if_false]
    refine wpAny_bind ?_
    rw [← Array.forIn_toList]
    simp only [List.forIn_cons, List.forIn_nil]
    refine wpAny_bind (wpAny_bind (wpAny_holding ?_))
    show wpAny _ _ (Builtin.SmallTypes.nextOf (.ref i1) >>= _) _ _ _
    refine wpAny_bind (nextOf_tuple_item (s := { s with heap := g1 }) (h1.extBut s1.extBut D.i1z) (hl1.extBut s1.extBut D.l1z) hx fun g2 a2 s2 => wpAny_pure (wpAny_pure ?_))
    refine wpAny_bind (wpAny_bind (wpAny_holding ?_))
    show wpAny _ _ (Builtin.SmallTypes.nextOf (.ref i2) >>= _) _ _ _
    refine wpAny_bind (nextOf_tuple_item (s := { s with heap := g2 }) ((h2.extBut s1.extBut D.i2z).extBut s2.extBut D.i12.symm) ((hl2.extBut s1.extBut D.l2z).extBut s2.extBut D.l2i1) hy fun g3 b3 s3 => wpAny_pure (wpAny_pure (wpAny_pure ?_)))
    show wpAny _ _ (newTuple [x, y] >>= _) _ _ _
    refine wpAny_bind (wpAny_newTuple ?_)
    have hsz : g3.objs.size = s.heap.objs.size := by rw [s3.1, s2.1, s1.1]
    have z3 : ZG g3 z TI TO (rawInt T) true := s3.extBut _ _ D.i2z.symm (s2.extBut _ _ D.i1z.symm z1)
    have k3 : ∀ c o, c ≠ z → c ≠ i1 → c ≠ i2 → s.heap.get? c = some o → g3.get? c = some o := fun c o c1 c2 c3 e => s3.extBut _ _ c3 (s2.extBut _ _ c2 (s1.extBut _ _ c1 e))
    have a3 : g3.IsTupleIter i1 l1 (k1 + 1) := a2.extBut s3.extBut D.i12
    refine wpAny_pure ⟨_, rfl, ?_⟩
    show Q (.ref g3.objs.size) _
    have hp : IsPair (g3.push { cls := .type "tuple", data := .seq #[x, y] }) g3.objs.size x y := Heap.get?_push_size _ rfl
    rw [hsz] at hp ⊢
    exact hQ _ _ _ (Heap.get?_push_of_some _ z3) (.inr ⟨T, rfl⟩) ⟨a, b, Heap.get?_push_of_some _ (k3 _ _ D.TOz D.TOi1 D.TOi2 hTO)⟩ (a3.at fun o e => Heap.get?_push_of_some _ e) (b3.at fun o e => Heap.get?_push_of_some _ e) hp fun c o c1 _ c3 c4 e => Heap.get?_push_of_some _ (k3 c o c1 c3 c4 e)
theorem next_end {z TI TO i1 i2 l1 l2 : Addr} {f0 : Value} {f1 : Bool} {k1 k2 : Nat} {xs ys : Array Value} {a b : Value} {Q : Fin → Shared → Prop} (hh : A.handled = none) (D : ZipApart z TI TO i1 i2 l1 l2)
    (hz : ZG s.heap z TI TO f0 f1) (k : Keeps f0 f1) (hTI : IsPair s.heap TI (.ref i1) (.ref i2)) (hTO : IsPair s.heap TO a b)
    (h1 : s.heap.IsTupleIter i1 l1 k1) (h2 : s.heap.IsTupleIter i2 l2 k2) (hl1 : s.heap.IsTuple l1 xs) (hl2 : s.heap.IsTuple l2 ys) (hend : xs[k1]? = none ∨ ys[k2]? = none)
    (hE : ∀ h' e, (∀ c o, c ≠ z → c ≠ TO → c ≠ i1 → c ≠ i2 → s.heap.get? c = some o → h'.get? c = some o) → (∃ o, h'.get? e = some o ∧ o.cls = .type "StopIteration") → E (.ref e) { s with heap := h' }) :
    wpAny (model prog w) A (Builtin.«zip.__next__» ⟨[.ref z], []⟩) Q E s := by
  show wpAny _ _ (field (.ref z) 2 >>= _) _ _ _
  refine wpAny_bind (wpAny_field hz rfl (x := .bool false) rfl ?_)
  show wpAny _ _ (field (.ref z) 3 >>= _) _ _ _
  refine wpAny_bind (wpAny_field hz rfl (x := .ref TI) rfl (wpAny_bind (wpAny_seqItems hTI rfl ?_)))
  show wpAny _ _ (Builtin.SmallTypes.ownedTupleIsFree (.ref z) >>= _) _ _ _
  refine wpAny_bind (free_of hz k ?_ fun g1 T z1 s1 => ?_)
  · simp only [if_true]
    refine wpAny_bind (wpAny_rule (wpAny_bind (wpAny_field hz rfl (x := .ref TO) rfl ?_)))
    refine wpAny_bind (wpAny_setField_rec hz (by simp) fun g1 z1 s1 => ?_)
    replace z1 : ZG g1 z TI TO .ellipsis f1 := z1
    refine wpAny_bind ?_
    simp only [List.zipIdx_cons, List.zipIdx_nil, List.forIn_cons, List.forIn_nil]
    refine wpAny_bind (wpAny_bind (wpAny_onRaise ?_))
    show wpAny _ _ (Builtin.SmallTypes.nextOf (.ref i1) >>= _) _ _ _
    cases hx : xs[k1]? with
    | none =>
      refine wpAny_bind (nextOf_tuple_end hh (h1.extBut s1.extBut D.i1z) (hl1.extBut s1.extBut D.l1z) hx fun g2 e s2 he => ?_)
      obtain ⟨oe, hoe, hce⟩ := he
      have z2 : ZG g2 z TI TO .ellipsis f1 := s2 _ _ D.i1z.symm z1
      have hez : e ≠ z := fun q => by subst q; rw [z2] at hoe; cases hoe; simp at hce
      refine wpAny_setField_rec z2 (by simp) fun g3 _ s3 => hE g3 e (fun c o c1 _ c3 _ q => s3.extBut _ _ c1 (s2 _ _ c3 (s1.extBut _ _ c1 q))) ⟨oe, s3.extBut _ _ hez hoe, hce⟩
    | some x =>
      have hy : ys[k2]? = none := hend.resolve_left (by rw [hx]; exact fun q => nomatch q)
      refine wpAny_bind (nextOf_tuple_item (h1.extBut s1.extBut D.i1z) (hl1.extBut s1.extBut D.l1z) hx fun g2 a2 s2 => wpAny_pure ?_)
      have t2 : IsPair g2 TO a b := s2.extBut _ _ D.TOi1 (s1.extBut _ _ D.TOz hTO)
      refine wpAny_bind (wpAny_seqItems t2 rfl (wpAny_bind (wpAny_updateSeq_pair t2 fun g3 t3 s3 => ?_)))
      refine wpAny_bind (wpAny_letGo (wpAny_pure (wpAny_bind (wpAny_bind (wpAny_onRaise ?_)))))
      show wpAny _ _ (Builtin.SmallTypes.nextOf (.ref i2) >>= _) _ _ _
      refine wpAny_bind (nextOf_tuple_end hh (((h2.extBut s1.extBut D.i2z).extBut s2.extBut D.i12.symm).extBut s3.extBut D.TOi2.symm) (((hl2.extBut s1.extBut D.l2z).extBut s2.extBut D.l2i1).extBut s3.extBut D.l2TO) hy fun g4 e s4 he => ?_)
      obtain ⟨oe, hoe, hce⟩ := he
      have z4 : ZG g4 z TI TO .ellipsis f1 := s4 _ _ D.i2z.symm (s3.extBut _ _ D.TOz.symm (s2.extBut _ _ D.i1z.symm z1))
      have hez : e ≠ z := fun q => by subst q; rw [z4] at hoe; cases hoe; simp at hce
      refine wpAny_setField_rec z4 (by simp) fun g5 _ s5 => hE g5 e (fun c o c1 c2 c3 c4 q => s5.extBut _ _ c1 (s4 _ _ c4 (s3.extBut _ _ c2 (s2.extBut _ _ c3 (s1.extBut _ _ c1 q))))) ⟨oe, s5.extBut _ _ hez hoe, hce⟩
  · simp only [Bool.false_eq_true, if_false]
    refine wpAny_bind ?_
    rw [← Array.forIn_toList]
    simp only [List.forIn_cons, List.forIn_nil]
    refine wpAny_bind (wpAny_bind (wpAny_holding ?_))
    show wpAny _ _ (Builtin.SmallTypes.nextOf (.ref i1) >>= _) _ _ _
    cases hx : xs[k1]? with
    | none =>
      refine wpAny_bind (nextOf_tuple_end (s := { s with heap := g1 }) hh (h1.extBut s1.extBut D.i1z) (hl1.extBut s1.extBut D.l1z) hx fun g2 e s2 he => ?_)
      exact hE g2 e (fun c o c1 _ c3 _ q => s2 _ _ c3 (s1.extBut _ _ c1 q)) he
    | some x =>
      have hy : ys[k2]? = none := hend.resolve_left (by rw [hx]; exact fun q => nomatch q)
      refine wpAny_bind (nextOf_tuple_item (s := { s with heap := g1 }) (h1.extBut s1.extBut D.i1z) (hl1.extBut s1.extBut D.l1z) hx fun g2 a2 s2 => wpAny_pure (wpAny_pure ?_))
      refine wpAny_bind (wpAny_bind (wpAny_holding ?_))
      show wpAny _ _ (Builtin.SmallTypes.nextOf (.ref i2) >>= _) _ _ _
      refine wpAny_bind (nextOf_tuple_end (s := { s with heap := g2 }) hh ((h2.extBut s1.extBut D.i2z).extBut s2.extBut D.i12.symm) ((hl2.extBut s1.extBut D.l2z).extBut s2.extBut D.l2i1) hy fun g3 e s3 he => ?_)
      exact hE g3 e (fun c o c1 _ c3 c4 q => s3 _ _ c4 (s2.extBut _ _ c3 (s1.extBut _ _ c1 q))) he
theorem py_item {z TI TO i1 i2 l1 l2 : Addr} {f0 : Value} {f1 : Bool} {k1 k2 : Nat} {xs ys : Array Value} {x y a b : Value} {Q : Option Value → Shared → Prop} (D : ZipApart z TI TO i1 i2 l1 l2)
    (hz : ZG s.heap z TI TO f0 f1) (k : Keeps f0 f1) (hTI : IsPair s.heap TI (.ref i1) (.ref i2)) (hTO : IsPair s.heap TO a b)
    (h1 : s.heap.IsTupleIter i1 l1 k1) (h2 : s.heap.IsTupleIter i2 l2 k2) (hl1 : s.heap.IsTuple l1 xs) (hl2 : s.heap.IsTuple l2 ys) (hx : xs[k1]? = some x) (hy : ys[k2]? = some y)
    (hQ : ∀ h' f0' f1', ZG h' z TI TO f0' f1' → Keeps f0' f1' → (∃ a b, IsPair h' TO a b) → h'.IsTupleIter i1 l1 (k1 + 1) → h'.IsTupleIter i2 l2 (k2 + 1) → IsPair h' s.heap.objs.size x y →
      (∀ c o, c ≠ z → c ≠ TO → c ≠ i1 → c ≠ i2 → s.heap.get? c = some o → h'.get? c = some o) → Q (some (.ref s.heap.objs.size)) { s with heap := h' }) :
    wpAny (model prog w) A (pyNext (.ref z)) Q E s := by
  have hT : s.TypeIs (.ref z) "zip" := ⟨_, hz, rfl⟩
  unfold pyNext
  refine wpAny_bind (wpAny_attempt (wpAny_callSpecial?_slot (name := Str.ofString "__next__") hT F.slot_zip_next ?_))
  exact wpAny_call_entry F.slot_zip_next hT F.entry_zip_next (next_item D hz k hTI hTO h1 h2 hl1 hl2 hx hy fun h' f0' f1' b1 b2 b3 b4 b5 b6 b7 => wpAny_pure (hQ h' f0' f1' b1 b2 b3 b4 b5 b6 b7)) (F.args_zip_next_1 _)
theorem py_end {z TI TO i1 i2 l1 l2 : Addr} {f0 : Value} {f1 : Bool} {k1 k2 : Nat} {xs ys : Array Value} {a b : Value} {Q : Option Value → Shared → Prop} (hh : A.handled = none) (D : ZipApart z TI TO i1 i2 l1 l2)
    (hz : ZG s.heap z TI TO f0 f1) (k : Keeps f0 f1) (hTI : IsPair s.heap TI (.ref i1) (.ref i2)) (hTO : IsPair s.heap TO a b)
    (h1 : s.heap.IsTupleIter i1 l1 k1) (h2 : s.heap.IsTupleIter i2 l2 k2) (hl1 : s.heap.IsTuple l1 xs) (hl2 : s.heap.IsTuple l2 ys) (hend : xs[k1]? = none ∨ ys[k2]? = none)
    (hQ : ∀ h', (∀ c o, c ≠ z → c ≠ TO → c ≠ i1 → c ≠ i2 → s.heap.get? c = some o → h'.get? c = some o) → Q none { s with heap := h' }) : wpAny (model prog w) A (pyNext (.ref z)) Q E s := by
  have hT : s.TypeIs (.ref z) "zip" := ⟨_, hz, rfl⟩
  unfold pyNext
  refine wpAny_bind (wpAny_attempt (wpAny_callSpecial?_slot (name := Str.ofString "__next__") hT F.slot_zip_next ?_))
  refine wpAny_call_entry F.slot_zip_next hT F.entry_zip_next (next_end hh D hz k hTI hTO h1 h2 hl1 hl2 hend fun h' e hk he => ?_) (F.args_zip_next_1 _)
  obtain ⟨o, ho, hc⟩ := he
  exact wpAny_bind (wpAny_isInstance (T := "StopIteration") (b := true) ⟨o, ho, hc⟩ isSubtype_stop (wpAny_pure (hQ _ hk)))
theorem py_self {z TI TO : Addr} {f0 : Value} {f1 : Bool} {Q : Value → Shared → Prop} (hz : ZG s.heap z TI TO f0 f1) (h : Q (.ref z) s) : wpAny (model prog w) A (pyIter (.ref z)) Q E s := by
  have hT : s.TypeIs (.ref z) "zip" := ⟨_, hz, rfl⟩
  refine wpAny_pyIter_slot hT F.slot_zip_iter (wpAny_call_entry F.slot_zip_iter hT F.entry_zip_iter ?_ (F.args_zip_iter_1 _))
  exact wpAny_pure ⟨_, rfl, "zip", _, hT, F.slot_zip_next.lookup, h⟩
end
theorem turn_zipN {P : Program} {w : World} {K : PySem.W.Frag} {nm : Str} {np : Pos} {a b z TI TO i1 i2 : Addr} (D : ZipApart z TI TO i1 i2 a b) :
    Turn P w K (.Name nm np) (ItzT K a b) [z, TI, TO, i1, i2] z (fun i h => (∃ f0 f1, ZG h z TI TO f0 f1 ∧ Keeps f0 f1) ∧ IsPair h TI (.ref i1) (.ref i2) ∧ (∃ x y, IsPair h TO x y) ∧ h.IsTupleIter i1 a i ∧ h.IsTupleIter i2 b i) where
  mem := by simp
  obj := fun i h st c hc => by
    obtain ⟨⟨f0, f1, hz, _⟩, hTI, ⟨x, y, hTO⟩, ⟨o1, e1, _, d1⟩, ⟨o2, e2, _, d2⟩⟩ := st
    have e' : c = z ∨ c = TI ∨ c = TO ∨ c = i1 ∨ c = i2 := by simpa using hc
    rcases e' with q | q | q | q | q <;> rw [q]
    · exact ⟨_, hz, fun v q => nomatch q⟩
    · exact ⟨_, hTI, fun v q => nomatch q⟩
    · exact ⟨_, hTO, fun v q => nomatch q⟩
    · exact ⟨o1, e1, fun v q => by rw [d1] at q; cases q⟩
    · exact ⟨o2, e2, fun v q => by rw [d2] at q; cases q⟩
  keep := fun i h h' st k => by
    obtain ⟨⟨f0, f1, hz, kz⟩, hTI, ⟨x, y, hTO⟩, h1, h2⟩ := st
    exact ⟨⟨f0, f1, k z (by simp) _ hz, kz⟩, k TI (by simp) _ hTI, ⟨x, y, k TO (by simp) _ hTO⟩, h1.at fun o q => k i1 (by simp) o q, h2.at fun o q => k i2 (by simp) o q⟩
  item := by
    intro X hP hw hK hc i pins s σ H E I hf st hg
    subst hP hw hK
    obtain ⟨⟨f0, f1, hz, kz⟩, hTI, ⟨x0, y0, hTO⟩, h1, h2⟩ := st
    obtain ⟨xs, ys, x, y, hqx, hqy, hx, hy⟩ := hg
    obtain ⟨its, rv, p, _⟩ := I.tuple hqx
    obtain ⟨its2, rv2, p2, _⟩ := I.tuple hqy
    obtain ⟨u, hu, ru⟩ := rv.get hx
    obtain ⟨u2, hu2, ru2⟩ := rv2.get hy
    refine py_item D hz kz hTI hTO h1 h2 p p2 (x := u) (y := u2) (by simpa using hu) (by simpa using hu2) fun h' f0' f1' z' kz' TO' h1' h2' hT hk => ?_
    refine ⟨_, rfl, wpAny_pure ?_⟩
    have new : ObjOk X.prog X.w (upd H s.heap.objs.size (.tup [x, y])) h' s.heap.objs.size (.tup [x, y]) :=
      ⟨by show 2 ≤ sizeLine; decide, [u, u2], .cons ru (.cons ru2 .nil), ⟨_, hT, rfl, _, rfl⟩⟩
    have I1 : Inv X pins σ (upd H s.heap.objs.size (.tup [x, y])) { s with heap := h' } :=
      I.turnedNew (t' := s.toks) (ch := [z, TI, TO, i1, i2]) (fun c o hb q => hk c o (fun q' => hb (by simp [q'])) (fun q' => hb (by simp [q'])) (fun q' => hb (by simp [q'])) (fun q' => hb (by simp [q'])) q) hf (Nat.le_refl _) new
    refine ⟨.ref s.heap.objs.size, _, I1, rfl, ⟨_, x, y, rfl, I.hok.fresh (Nat.le_refl _), rfl, fun l hl => by rw [I.tuple_inj hl hqx]; exact hx, fun l hl => by rw [I.tuple_inj hl hqy]; exact hy⟩, ⟨⟨f0', f1', z', kz'⟩, ?_, TO', h1', h2'⟩, fun c hcm => ?_⟩
    · exact hk _ _ D.TIz D.TITO D.TIi1 D.TIi2 hTI
    · have hlt : c < s.heap.objs.size := by
        have e' : c = z ∨ c = TI ∨ c = TO ∨ c = i1 ∨ c = i2 := by simpa using hcm
        rcases e' with q | q | q | q | q <;> rw [q]
        · exact Heap.lt_size hz
        · exact Heap.lt_size hTI
        · exact Heap.lt_size hTO
        · obtain ⟨_, e1, _⟩ := h1; exact Heap.lt_size e1
        · obtain ⟨_, e2, _⟩ := h2; exact Heap.lt_size e2
      rw [upd_ne (Nat.ne_of_lt hlt)]
      exact (hf c hcm).1
  done := by
    intro X hP hw hK hc i pins s σ H E I hf st hg
    subst hP hw hK
    obtain ⟨⟨f0, f1, hz, kz⟩, hTI, ⟨x0, y0, hTO⟩, h1, h2⟩ := st
    obtain ⟨xs, ys, hqx, hqy, hend⟩ := hg
    obtain ⟨its, rv, p, _⟩ := I.tuple hqx
    obtain ⟨its2, rv2, p2, _⟩ := I.tuple hqy
    have l1 := rv.length
    have l2 := rv2.length
    have he : its.toArray[i]? = none ∨ its2.toArray[i]? = none := by
      rcases hend with q | q
      · left; simp; omega
      · right; simp; omega
    exact py_end (I.ok.hd hc) D hz kz hTI hTO h1 h2 p p2 he fun h' hk => ⟨rfl, I.turnedL (t' := s.toks) (ch := [z, TI, TO, i1, i2]) (fun c o hb q =>
      hk c o (fun q' => hb (by simp [q'])) (fun q' => hb (by simp [q'])) (fun q' => hb (by simp [q'])) (fun q' => hb (by simp [q'])) q) hf⟩
  self := fun A i s Q E st h => by
    obtain ⟨⟨f0, f1, hz, kz⟩, _⟩ := st
    exact py_self hz h
def iZipN (K : PySem.W.Frag) (ta : TA) : TI := fun σ H R => ta σ H fun vs H1 => ∃ a b xs ys, vs = [.ref a, .ref b] ∧ SqT K H1 a xs ∧ SqT K H1 b ys ∧ R (ItzT K a b) H1
theorem pi_zipN {X : Cx} {e e2 : Expr} {ta : TA} {p pos np : Pos} {nm : Str} (hg : Gl X "zip") (hm : X.mg "zip" = none) (ha : PA X [e, e2] ta)
    (hs : starEach [e, e2] X.env = (false, eval e X.env) :: starEach [e2] X.env := by rfl) (hpl : (backTo pos (starEach [e2] X.env)).any (·.1) = false := by rfl) :
    PI X (.Name nm np) (.Call (.Name "zip" p) [e, e2] [] pos) (iZipN X.K ta) := by
  refine ⟨fun pins s σ H R I h => ?_⟩
  refine Call_ (ld_blt I hg hm PyProof.Rows.boot_zip (PyProof.Rows.callWith_type1 (thn (ha.run pos pins s σ H _ I h) fun us s1 ⟨vs, H1, I1, r1, q1⟩ => ?_) hs hpl))
  obtain ⟨a, b, xs, ys, ex, hqx, hqy, q⟩ := q1
  subst ex
  cases r1 with
  | cons r rr =>
    cases rr with
    | cons r' rr =>
      cases rr
      cases r
      cases r'
      have fresh5 : ∀ c, c ∈ [s1.heap.objs.size + 4, s1.heap.objs.size + 2, s1.heap.objs.size + 3, s1.heap.objs.size, s1.heap.objs.size + 1] → FpOk X pins H1 c := fun c hcm => by
        have hle : s1.heap.objs.size ≤ c := by
          simp only [List.mem_cons, List.not_mem_nil, or_false] at hcm
          omega
        exact I1.fpOk hle (I1.hok.fresh hle)
      obtain ⟨its, rv, p1, _⟩ := I1.tuple hqx
      obtain ⟨its2, rv2, p2, _⟩ := I1.tuple hqy
      obtain ⟨o1, ho1, _⟩ := id p1
      obtain ⟨o2, ho2, _⟩ := id p2
      refine call_zipT (show s1.heap.IsTuple a its.toArray from p1) (show s1.heap.IsTuple b its2.toArray from p2) fun h' hz hTI hTO h1 h2 hsz hk => py_self (f1 := false) hz ?_
      have I2 : Inv X pins σ H1 { s1 with heap := h' } := I1.kept (t' := s1.toks) hk
      exact ⟨s1.heap.objs.size + 4, _, _, _, H1, rfl, I2, turn_zipN (PySem.W.ktu_apart s1.heap.objs.size a b (Heap.lt_size ho1) (Heap.lt_size ho2)), ⟨⟨_, _, hz, .inl ⟨rfl, rfl⟩⟩, hTI, ⟨_, _, hTO⟩, h1, h2⟩, fresh5, q⟩
end DZ
namespace VL
open PySem PySem.Spec PyProof.Rows L2
section
variable {X : Cx} {g : G} {E : XD}
def wZip (a : Lc → Sto → R (List D)) : Lc → Sto → R Wk := fun L S => (a L S).bind fun ds S1 => match ds with
  | [.tup xs, .tup ys] => .ok ⟨List.zipWith (fun x y => D.tup [x, y]) xs ys, fun _ => true⟩ S1
  | _ => .bad
theorem di_zipN {e e2 : Expr} {p pos np : Pos} {nm : Str} {ls : Lc → Sto → R (List D)} (hK : X.K = g.K) (hg : Gl X "zip") (hm : X.mg "zip" = none) (ha : PA X [e, e2] (tL g E ls))
    (hs : starEach [e, e2] X.env = (false, eval e X.env) :: starEach [e2] X.env := by rfl) (hpl : (backTo pos (starEach [e2] X.env)).any (·.1) = false := by rfl) :
    PI X (.Name nm np) (.Call (.Name "zip" p) [e, e2] [] pos) (tI g E (wZip ls)) := by
  refine (DZ.pi_zipN hg hm ha hs hpl).imp fun σ H Q h => ?_
  obtain ⟨m, S, L, r, l, q⟩ := h
  refine ⟨m, S, L, r, l, (Aft.bind q).mono fun ds m1 S1 H1 e1 r1 q1 vs rvs => ?_⟩
  split at q1
  · rename_i xs ys
    obtain ⟨v, v', rfl, h2, h3⟩ := rvs2 rvs
    obtain ⟨a, vs, rfl, t1, v1⟩ := of_tupv h2
    obtain ⟨b, us, rfl, t2, v2⟩ := of_tupv h3
    have s1 := t1.sq
    have s2 := t2.sq
    refine ⟨a, b, vs, us, rfl, by rw [hK]; exact s1, by rw [hK]; exact s2, q1.ok r1 _ ?_⟩
    rw [hK]
    intro i m' S' H' e' r' _
    have s1' := (e'.toExw.tupv t1).sq
    have s2' := (e'.toExw.tupv t2).sq
    refine ⟨fun z => ⟨vs, us, s1', s2', ?_⟩, fun d hd => ?_⟩
    · have z' : (List.zipWith (fun x y => D.tup [x, y]) xs ys)[i]? = none := z
      have := List.getElem?_eq_none_iff.mp z'
      rw [List.length_zipWith] at this
      rw [v1.length, v2.length]
      omega
    · have z' : (List.zipWith (fun x y => D.tup [x, y]) xs ys)[i]? = some d := hd
      rw [List.getElem?_zipWith] at z'
      cases hx : xs[i]? with
      | none => rw [hx] at z'; cases z'
      | some x =>
        cases hy : ys[i]? with
        | none => rw [hx, hy] at z'; cases z'
        | some y =>
          rw [hx, hy] at z'
          cases z'
          obtain ⟨vx, ex, rx⟩ := (v1.extw e'.toExw).get hx
          obtain ⟨vy, ey, ry⟩ := (v2.extw e'.toExw).get hy
          refine ⟨⟨vs, us, vx, vy, s1', s2', ex, ey⟩, fun x' H2 yd => ?_⟩
          obtain ⟨T, x1, x2, rfl, nT, rfl, f1, f2⟩ := yd
          have e1 : x1 = vx := Option.some.inj ((f1 _ s1').symm.trans ex)
          have e2 : x2 = vy := Option.some.inj ((f2 _ s2').symm.trans ey)
          subst e1 e2
          exact ⟨ext_lay r' nT, r'.lay nT, rv_tupv (.inl ⟨upd_same, r'.un nT⟩) (.cons (rx.ext (ext_lay r' nT)) (.cons (ry.ext (ext_lay r' nT)) .nil))⟩
  · exact q1.elim
/-- f( *y ) -/
def eStar (f : List D → Sto → R D) (e : Lc → Sto → R D) : Lc → Sto → R D := fun L S => (e L S).bind fun d S1 => match d with
  | .tup ds => f ds S1
  | d => match lstOf d S1 with
    | some ds => f ds S1
    | none => .bad
theorem de_callS1 {k n : Nat} {f : Addr} {fd : FuncData} {ps : List Str} {Fn : List D → Sto → R D} {x : Str} {p pos sp_ : Pos} {e : Expr} {ea : Lc → Sto → R D} (hK : X.K = g.K) (F : FnOk X.prog X.w X.K X.mg X.base (L2.CX X.prog X.w) k f fd ps (spD g n Fn)) (hr : Room k X.A) (hg : Gl X x) (hm : X.mg x = some (.ref f)) (hk : PySem.W.keepIn X.K (.ref f) = true) (hb : Binds X.K fd ps []) (hx : PX X g E)
    (he : PE X e (tD g E ea)) (hd : (x == ("__debug__" : Str)) = false := by decide) (hst : starEach [.Starred e sp_] X.env = [(true, eval e X.env)] := by rfl) :
    PE X (.Call (.Name x p) [.Starred e sp_] [] pos) (tD g E (eStar (ari n Fn) ea)) := by
  obtain ⟨E0, hp, hE⟩ := hx
  refine (StX.pe_callS1 (F.raw hb .nil) hr hk hg hm hp he hd hst).imp fun σ H Q h => ?_
  obtain ⟨m, S, L, r, l, q⟩ := h
  refine ⟨m, S, L, r, l, (Aft.bind q).mono fun d m1 S1 H1 e1 r1 q1 v rv => ?_⟩
  have fin : ∀ {ds : List D} {vs : List V}, RVs g m1 H1 ds vs → Aft g E m1 H1 (ari n Fn ds S1) (vQ g Q) → spD g n Fn (vs ++ []) H1 Q E0 := fun {ds vs} rvs q2 => by
    rw [List.append_nil]
    exact sp_call hE r1 rvs q2
  split at q1
  · obtain ⟨a, vs, rfl, s1, v1⟩ := of_tup rv
    exact ⟨a, vs, rfl, .inl (by rw [hK]; exact s1), fin v1 q1⟩
  · split at q1
    · rename_i e0
      obtain ⟨a, vs, rfl, s1, v1⟩ := lst_run r1 rv e0
      exact ⟨a, vs, rfl, .inr (by rw [hK]; exact s1), fin v1 q1⟩
    · exact q1.elim
end
end VL

namespace VL
open PySem PySem.Spec PyProof.Rows L2
section
variable {X : Cx} {g : G} {E : XD}
theorem okL_iff {n : Nat} {ds : List D} {S : Sto} (h : okL n ds S = true) : S[n]? = some (.lst ds) := by
  unfold okL at h
  split at h
  · rename_i ds' e
    rw [e, D.beqs_eq h]
  · cases h
@[simp] theorem okL_of {n : Nat} {ds : List D} {S : Sto} (h : S[n]? = some (.lst ds)) : okL n ds S = true := by
  unfold okL
  rw [h]
  exact D.beqs_refl ds
theorem jd_list {a : Addr} {W : Wk} {m0 : Mp} {H0 : Hp} (h : ∀ m S H, Exk m0 H0 m H → Rel g m S H → W.ok S = true → ∃ vs, SqL g.K H a vs ∧ RVs g m H W.ds vs) : JD g (Itl g.K a) W m0 H0 := by
  intro i m S H e r hok
  obtain ⟨vs, hs, hv⟩ := h m S H e r hok
  refine ⟨fun z => ⟨vs, hs, by rw [hv.length]; exact List.getElem?_eq_none_iff.mp z⟩, fun d hd => ?_⟩
  obtain ⟨v, ev, rv⟩ := hv.get hd
  refine ⟨⟨vs, v, hs, ev⟩, fun x H' y => ?_⟩
  obtain ⟨e1, e2⟩ := y
  subst e1
  have : x = v := Option.some.inj ((e2 vs hs).symm.trans ev)
  subst this
  exact ⟨.refl, r, rv⟩
theorem jd_tup {a : Addr} {ds : List D} {vs : List V} {m0 : Mp} {H0 : Hp} (hs0 : SqTv g m0 H0 a vs) (hv0 : RVs g m0 H0 ds vs) : JD g (Itt g.K a) ⟨ds, fun _ => true⟩ m0 H0 := by
  intro i m S H e r hok
  have hs := (e.toExw.tupv hs0).sq
  have hv := hv0.extw e.toExw
  refine ⟨fun z => ⟨vs, hs, by rw [hv.length]; exact List.getElem?_eq_none_iff.mp z⟩, fun d hd => ?_⟩
  obtain ⟨v, ev, rv⟩ := hv.get hd
  refine ⟨⟨vs, v, hs, ev⟩, fun x H' y => ?_⟩
  obtain ⟨e1, e2⟩ := y
  subst e1
  have : x = v := Option.some.inj ((e2 vs hs).symm.trans ev)
  subst this
  exact ⟨.refl, r, rv⟩
def wSeq (e : Lc → Sto → R D) : Lc → Sto → R Wk := fun L S => (e L S).bind fun d S1 => match d with
  | .lst ds => .ok ⟨ds, fun _ => true⟩ S1
  | .ref n => match S1[n]? with
    | some (.lst ds) => .ok ⟨ds, okL n ds⟩ S1
    | _ => .bad
  | .scr ns => .ok ⟨ns.map D.int, fun _ => true⟩ S1
  | _ => .bad
def wTup (e : Lc → Sto → R D) : Lc → Sto → R Wk := fun L S => (e L S).bind fun d S1 => match d with
  | .tup ds => .ok ⟨ds, fun _ => true⟩ S1
  | _ => .bad
theorem di_lst {tg e : Expr} {ea : Lc → Sto → R D} (hK : X.K = g.K) (he : PE X e (tD g E ea)) : PI X tg e (tI g E (wSeq ea)) := by
  refine (pi_list he).imp fun σ H Q h => ?_
  obtain ⟨m, S, L, r, l, q⟩ := h
  refine ⟨m, S, L, r, l, (Aft.bind q).mono fun d m1 S1 H1 e1 r1 q1 v rv => ?_⟩
  split at q1
  · rename_i ds
    obtain ⟨a, vs, rfl, h1, _, h2⟩ := of_lst rv
    refine ⟨a, rfl, ⟨vs, .of h1⟩, q1.ok r1 _ ?_⟩
    rw [hK]
    refine jd_list fun m' S' H' e' r' hok => ?_
    have rv' := RV.extw e'.toExw rv
    obtain ⟨a', vs', z, h1', _, h2'⟩ := of_lst rv'
    cases z
    exact ⟨vs', .of h1', h2'⟩
  · rename_i n
    split at q1
    · rename_i ds e0
      obtain ⟨a, vs, rfl, ha, h1, h2⟩ := lst_ref r1 rv e0
      refine ⟨a, rfl, ⟨vs, .of h1⟩, q1.ok r1 _ ?_⟩
      rw [hK]
      refine jd_list fun m' S' H' e' r' hok => ?_
      obtain ⟨a', vs', z, _, h1', h2'⟩ := lst_ref r' (RV.extw e'.toExw rv) (okL_iff hok)
      cases z
      exact ⟨vs', .of h1', h2'⟩
    · exact q1.elim
  · rename_i ns
    obtain ⟨a, rfl, h1⟩ := of_scr rv
    refine ⟨a, rfl, ⟨_, by rw [hK]; exact h1.sq⟩, q1.ok r1 _ ?_⟩
    rw [hK]
    refine jd_list fun m' S' H' e' r' hok => ?_
    exact ⟨_, (e'.toExw.scr h1).sq, rvs_ints ns⟩
  · exact q1.elim
theorem di_tup {tg e : Expr} {ea : Lc → Sto → R D} (hK : X.K = g.K) (he : PE X e (tD g E ea)) : PI X tg e (tI g E (wTup ea)) := by
  refine (pi_tup he).imp fun σ H Q h => ?_
  obtain ⟨m, S, L, r, l, q⟩ := h
  refine ⟨m, S, L, r, l, (Aft.bind q).mono fun d m1 S1 H1 e1 r1 q1 v rv => ?_⟩
  split at q1
  · obtain ⟨a, vs, rfl, s1, v1⟩ := of_tupv rv
    refine ⟨a, rfl, ⟨vs, by rw [hK]; exact s1.sq⟩, q1.ok r1 _ ?_⟩
    rw [hK]
    exact jd_tup s1 v1
  · exact q1.elim
def chars (x : Str) : List D := x.cps.toList.map fun c => D.str ⟨#[c]⟩
theorem jd_str {x : Str} {m0 : Mp} {H0 : Hp} : JD g (Its x) ⟨chars x, fun _ => true⟩ m0 H0 := by
  intro i m S H e r _
  have hg : (chars x)[i]? = (x.cps[i]?).map fun c => D.str ⟨#[c]⟩ := by unfold chars; rw [List.getElem?_map, Array.getElem?_toList]
  refine ⟨fun z => ?_, fun d hd => ?_⟩
  · have z' : (chars x)[i]? = none := z
    rw [hg] at z'
    cases q : x.cps[i]? with
    | none => exact Array.getElem?_eq_none_iff.mp q
    | some c => rw [q] at z'; cases z'
  · have z' : (chars x)[i]? = some d := hd
    rw [hg] at z'
    cases q : x.cps[i]? with
    | none => rw [q] at z'; cases z'
    | some c =>
      rw [q] at z'
      cases z'
      refine ⟨(Array.getElem?_eq_some_iff.mp q).1, fun v H' y => ?_⟩
      obtain ⟨e1, c', e2, e3⟩ := y
      subst e1 e3
      rw [q] at e2
      cases e2
      exact ⟨.refl, r, rv_str⟩
/-! a walk over a list, a tuple or a text -/
def wkOf (d : D) (S : Sto) : R Wk := match d with
  | .tup ds => .ok ⟨ds, fun _ => true⟩ S
  | .str x => .ok ⟨chars x, fun _ => true⟩ S
  | .lst ds => .ok ⟨ds, fun _ => true⟩ S
  | .ref n => match S[n]? with
    | some (.lst ds) => .ok ⟨ds, okL n ds⟩ S
    | _ => .bad
  | .scr ns => .ok ⟨ns.map D.int, fun _ => true⟩ S
  | _ => .bad
def wAny (e : Lc → Sto → R D) : Lc → Sto → R Wk := fun L S => (e L S).bind fun d S1 => wkOf d S1
theorem di_any {tg e : Expr} {ea : Lc → Sto → R D} (hK : X.K = g.K) (he : PE X e (tD g E ea)) : PI X tg e (tI g E (wAny ea)) := by
  refine ⟨fun pins s σ H Q I h => ?_⟩
  obtain ⟨m, S, L, r, l, q⟩ := h
  /- by the value's kind -/
  have hb := Aft.bind q
  cases hr : ea L S with
  | bad => rw [hr] at hb; exact hb.elim
  | exc c fs S' =>
    rw [hr] at hb
    have q2 : tI g E (wTup ea) σ H Q := ⟨m, S, L, r, l, by unfold wTup; rw [hr]; exact hb⟩
    exact (di_tup hK he).run pins s σ H Q I q2
  | ok d S' =>
    have q0 : Aft g E m H (wkOf d S') fun W m' _ H' => ∀ J, JD g J W m' H' → Q J H' := by
      have : Aft g E m H ((ea L S).bind fun d S1 => wkOf d S1) fun W m' _ H' => ∀ J, JD g J W m' H' → Q J H' := q
      rw [hr] at this
      exact this
    unfold wkOf at q0
    cases d with
    | tup ds =>
      refine (di_tup hK he).run pins s σ H Q I ⟨m, S, L, r, l, ?_⟩
      unfold wTup
      rw [hr]
      exact q0
    | str x =>
      refine (pi_str he).run pins s σ H Q I ⟨m, S, L, r, l, ?_⟩
      rw [hr]
      intro m' H' e' r' v rv
      exact ⟨x, of_str rv, q0.at e' r' _ jd_str⟩
    | lst n =>
      refine (di_lst hK he).run pins s σ H Q I ⟨m, S, L, r, l, ?_⟩
      unfold wSeq
      rw [hr]
      exact q0
    | ref n =>
      refine (di_lst hK he).run pins s σ H Q I ⟨m, S, L, r, l, ?_⟩
      unfold wSeq
      rw [hr]
      exact q0
    | scr n =>
      refine (di_lst hK he).run pins s σ H Q I ⟨m, S, L, r, l, ?_⟩
      unfold wSeq
      rw [hr]
      exact q0
    | _ => exact q0.elim
/-! {} -/
def eDict0 : Lc → Sto → R D := fun _ S => .ok (.dic [] []) S
def eDict0M : Lc → Sto → R D := fun _ S => .ok (.ref S.length) (S ++ [.dic [] []])
theorem de_dict0 {pos : Pos} : PE X (.Dict [] [] pos) (tD g E eDict0) := by
  refine pe_dnewK.imp fun σ H Q h => ?_
  obtain ⟨m, S, L, r, l, q⟩ := h
  exact fun p hp => q.at (ext_lay r hp) (r.lay hp) _ (rv_dic (.of upd_same) (r.un hp) rfl .nil)
theorem de_dict0M {pos : Pos} : PE X (.Dict [] [] pos) (tD g E eDict0M) := by
  refine pe_dnewK.imp fun σ H Q h => ?_
  obtain ⟨m, S, L, r, l, q⟩ := h
  exact fun p hp => q.at (ext_new r hp) (r.alloc hp ⟨[], rfl, rfl, .nil⟩) _ (rv_ref r.last)
/-! repr -/
def reprD (ds : List D) (S : Sto) : R D := match ds with
  | [.non] => .ok (.str "None") S
  | [.bl b] => .ok (.str (if b = true then "True" else "False")) S
  | [.int i] => if i.natAbs.log2 < 1920 then .ok (.str (toString i)) S else .bad
  | [.str x] => if (reprText x).length ≤ sizeLine then .ok (.str (reprText x)) S else .bad
  | _ => .bad
theorem cd_repr : CallR X (.builtin "repr") (rDs g E reprD) := by
  intro pins s σ H xs us Q I r h
  obtain ⟨m, S, ds, rl, h1, q⟩ := h
  unfold reprD at q
  split at q
  · obtain ⟨v, rfl, h2⟩ := rvs1 h1
    obtain ⟨u, rfl, ru⟩ := vals1 r
    rw [of_non h2] at ru
    cases ru
    exact PySem.P.repr_of_none ⟨.str _, H, I.tok _, ⟨_, rfl⟩, q.ok rl _ rv_str⟩
  · obtain ⟨v, rfl, h2⟩ := rvs1 h1
    obtain ⟨u, rfl, ru⟩ := vals1 r
    rw [of_bl h2] at ru
    cases ru
    exact PySem.P.repr_of_bool ⟨.str _, H, I.tok _, ⟨_, rfl⟩, q.ok rl _ rv_str⟩
  · split at q
    · rename_i hz
      obtain ⟨v, rfl, h2⟩ := rvs1 h1
      obtain ⟨u, rfl, ru⟩ := vals1 r
      rw [of_int h2] at ru
      obtain ⟨t, rfl⟩ := ru
      exact PySem.P.repr_of_int hz ⟨.str _, H, I.tok _, ⟨_, rfl⟩, q.ok rl _ rv_str⟩
    · exact q.elim
  · split at q
    · rename_i hz
      obtain ⟨v, rfl, h2⟩ := rvs1 h1
      obtain ⟨u, rfl, ru⟩ := vals1 r
      rw [of_str h2] at ru
      obtain ⟨t, rfl⟩ := ru
      exact PySem.P.repr_of_str ⟨.str _, H, I.tok _, ⟨_, rfl⟩, q.ok rl _ rv_str⟩ hz
    · exact q.elim
  · exact q.elim
end
theorem bt_int : bootBuiltins "int" = some (.type "int") := by decide +kernel
theorem bt_bool : bootBuiltins "bool" = some (.type "bool") := by decide +kernel
theorem bt_str : bootBuiltins "str" = some (.type "str") := by decide +kernel
theorem bt_tuple : bootBuiltins "tuple" = some (.type "tuple") := by decide +kernel
theorem bt_list : bootBuiltins "list" = some (.type "list") := by decide +kernel
theorem bt_dict : bootBuiltins "dict" = some (.type "dict") := by decide +kernel
theorem bt_len : bootBuiltins "len" = some (.builtin "len") := by decide +kernel
theorem bt_abs : bootBuiltins "abs" = some (.builtin "abs") := by decide +kernel
theorem bt_sum : bootBuiltins "sum" = some (.builtin "sum") := by decide +kernel
theorem bt_all : bootBuiltins "all" = some (.builtin "all") := by decide +kernel
theorem bt_any : bootBuiltins "any" = some (.builtin "any") := by decide +kernel
theorem bt_max : bootBuiltins "max" = some (.builtin "max") := by decide +kernel
theorem bt_min : bootBuiltins "min" = some (.builtin "min") := by decide +kernel
theorem bt_repr : bootBuiltins "repr" = some (.builtin "repr") := by decide +kernel
end VL

/-! targets with a star, lists taken apart, match, what is never reached -/
namespace VL
open PySem PySem.Spec PyProof.Rows L2
section
variable {prog : Program} {w : World} {A : Around} {E : Value → Shared → Prop} {s : Shared}
/-- the walk of a tuple from its k-th item -/
theorem walks_tup (hh : A.handled = none) (I ax : Addr) (hne : ax ≠ I) (items : Array Value) (k : Nat) (hk : k ≤ items.size) :
    Walks prog w A I [I, ax] [I] (items.size - k) (fun i v => items[k + i]? = some v) (fun i h => IsTupIter h I ax (k + i) ∧ IsTup h ax items) where
  sub := fun b hb => by simp at hb; simp [hb]
  frame := fun _ h h' st hk => by
    obtain ⟨⟨o, ho, r⟩, ⟨o', ho', r'⟩⟩ := st
    exact ⟨⟨o, hk I (by simp) o ho, r⟩, ⟨o', hk ax (by simp) o' ho', r'⟩⟩
  item := fun i s Q E hi st hQ => by
    have hx : k + i < items.size := by omega
    refine next_tuple_item st.1 st.2 (x := items[k + i]) (by simp [hx]) fun h' hit' hs' => ?_
    exact hQ _ h' s.toks (by simp [hx]) ⟨hit', st.2.extBut hs'.extBut hne⟩ fun b o hb e => hs'.extBut b o (fun h => hb (by simp [h])) e
  done := fun s Q E st hQ => by
    have e : k + (items.size - k) = items.size := by omega
    exact next_tuple_end hh st.1 st.2 (by rw [e]; simp) fun h' he' => hQ h' s.toks fun b o hb e => he' b o (fun h => hb (by simp [h])) e
  self := fun _ _ _ _ st hQ => wpAny_pyIter_tupleiter st.1 hQ
theorem unpackItems_star {t : Addr} {items : Array Value} {k : Nat} {Q : List Value → Shared → Prop} (hh : A.handled = none) (ht : IsTup s.heap t items) (hk : k ≤ items.size) (hz : items.size ≤ sizeLine)
    (hQ : ∀ (h' : Heap) (tk : Nat), (∀ b o, s.heap.get? b = some o → h'.get? b = some o) → Q (items.toList.take k ++ [.ref h'.objs.size]) { s with heap := h'.push { cls := .type "list", data := .seq (items.toList.drop k).toArray }, toks := tk }) :
    wpAny (model prog w) A (unpackItems (.ref t) (k + 1) (some k)) Q E s := by
  have hlt : t ≠ s.heap.objs.size := by obtain ⟨o, ho, _⟩ := ht; exact Nat.ne_of_lt (Heap.lt_size ho)
  have hts : t < s.heap.objs.size := by obtain ⟨o, ho, _⟩ := ht; exact Heap.lt_size ho
  unfold unpackItems
  refine wpAny_bind ?_
  unfold notIterableAtAll
  refine wpAny_bind (wpAny_specialOf ht.typeIs slot_tuple_iter.lookup ?_)
  refine wpAny_pure ?_
  simp only [Bool.false_eq_true, if_false]
  refine wpAny_bind (wpAny_holding (iter_tuple ht ?_))
  refine wpAny_bind (wpAny_holding (draw_tuple hlt k 0 _ _ ⟨_, Heap.get?_push_size _ rfl, rfl, rfl⟩ (ht.push _) (by omega) fun h₁ hit₁ hs₁ => ?_))
  rw [List.drop_zero]
  have hl : (items.toList.take k).length = k := by rw [List.length_take, Array.length_toList]; omega
  rw [if_neg (by rw [hl]; omega)]
  have ht₁ : IsTup h₁ t items := (ht.push _).extBut hs₁.extBut hlt
  have W := (walks_tup (prog := prog) (w := w) (A := A.in1) hh s.heap.objs.size t hlt items k hk).toS
  obtain ⟨oi, hoi, _⟩ := id hit₁
  have hi1 : s.heap.objs.size < h₁.objs.size := Heap.lt_size hoi
  refine wpAny_bind (wpAny_holding (wpAny_collect_iter (T := "tuple_iterator") (.inr (.inr (.inr rfl))) W (fun i s st => ⟨_, st.1.choose_spec.1, st.1.choose_spec.2.1⟩) ?_ ?_ (by simp) (fun s' acc hm hacc => ?_) (by omega)))
  · exact ⟨by simpa using hit₁, ht₁⟩
  · intro b hb
    simp at hb
    rcases hb with rfl | rfl
    · exact hi1
    · exact Nat.lt_trans hts hi1
  · have hacc' : acc.toList = items.toList.drop k := by
      apply List.ext_getElem?
      intro j
      rw [List.getElem?_drop, Array.getElem?_toList, Array.getElem?_toList]
      cases hj : acc[j]? with
      | some v => exact (hacc.2 j v hj).symm
      | none =>
        have := Array.getElem?_eq_none_iff.mp hj
        rw [hacc.1] at this
        exact (Array.getElem?_eq_none_iff.mpr (by omega)).symm
    have h0 : k + 1 - 1 - k = 0 := by omega
    simp only [h0, Nat.not_lt_zero, if_false, Nat.sub_zero, List.take_length, List.drop_length, hacc', List.append_nil]
    obtain ⟨sh, sg, sd, st, so⟩ := s'
    obtain ⟨m1, m2, m3, m4, m5⟩ := hm
    simp only at m1 m2 m3 m4 m5
    subst m2 m3 m4
    refine wpAny_bind (wpAny_newList ?_)
    refine wpAny_pure ?_
    exact hQ sh st fun b o hb => m1 b o (by simp; exact Nat.ne_of_lt (Heap.lt_size hb)) (hs₁.extBut b o (Nat.ne_of_lt (Heap.lt_size hb)) (Heap.get?_push_of_some _ hb))
theorem draw_list {it t : Addr} {items : Array Value} (hne : t ≠ it) : ∀ (n i : Nat) (s : Shared) (Q : List Value → Shared → Prop), s.heap.IsListIter it t i → s.heap.IsList t items → i + n ≤ items.size →
    (∀ h', h'.IsListIter it t (i + n) → Heap.SameBut it s.heap h' → Q ((items.toList.drop i).take n) { s with heap := h' }) → wpAny (model prog w) A (draw (.ref it) n) Q E s
  | 0, i, s, Q, hit, _, _, hQ => by
    show wpAny _ _ (pure []) Q E s
    exact wpAny_pure (by simpa using hQ s.heap hit (Heap.SameBut.refl ..))
  | n + 1, i, s, Q, hit, ht, hle, hQ => by
    have hlt : i < items.size := by omega
    show wpAny _ _ (pyNext (.ref it) >>= _) Q E s
    refine wpAny_bind (wpAny_pyNext_list_item hit ht (x := items[i]) (by simp [hlt]) fun h₁ hit₁ hs₁ => ?_)
    refine wpAny_bind (wpAny_holding (draw_list hne n (i + 1) _ _ hit₁ (ht.extBut hs₁.extBut hne) (by omega) fun h₂ hit₂ hs₂ => wpAny_pure ?_))
    have hd : items.toList.drop i = items[i] :: items.toList.drop (i + 1) := by simp [List.drop_eq_getElem_cons, hlt]
    have := hQ h₂ (by rw [show i + (n + 1) = i + 1 + n by omega]; exact hit₂) (hs₁.trans hs₂)
    rw [hd, List.take_succ_cons] at this
    exact this
theorem unpackItems_list {t : Addr} {items : Array Value} {Q : List Value → Shared → Prop} (hh : A.handled = none) (ht : s.heap.IsList t items)
    (hQ : ∀ h', Heap.ExtBut s.heap.objs.size s.heap h' → Q items.toList { s with heap := h' }) : wpAny (model prog w) A (unpackItems (.ref t) items.size none) Q E s := by
  have hlt : t ≠ s.heap.objs.size := by obtain ⟨o, ho, _⟩ := ht; exact Nat.ne_of_lt (Heap.lt_size ho)
  unfold unpackItems
  refine wpAny_bind ?_
  unfold notIterableAtAll
  refine wpAny_bind (wpAny_specialOf ht.typeIs slot_list_iter.lookup ?_)
  refine wpAny_pure ?_
  simp only [Bool.false_eq_true, if_false]
  refine wpAny_bind (wpAny_holding (wpAny_pyIter_list ht ?_))
  have htp : (s.heap.push { cls := .type "list_iterator", data := .fields #[.ref t, .int 0 0] }).IsList t items := by
    obtain ⟨o, ho, r⟩ := ht
    exact ⟨o, Heap.get?_push_of_some _ ho, r⟩
  refine wpAny_bind (wpAny_holding (draw_list hlt items.size 0 _ _ ⟨_, Heap.get?_push_size _ rfl, rfl, rfl⟩ htp (by omega) fun h₁ hit₁ hs₁ => ?_))
  have hall : List.take items.size (List.drop 0 items.toList) = items.toList := by
    rw [List.drop_zero]; exact List.take_of_length_le (by simp)
  rw [hall]
  rw [if_neg (by simp)]
  have ht₁ : h₁.IsList t items := htp.extBut hs₁.extBut hlt
  refine wpAny_bind (wpAny_holding (wpAny_pyNext_list_end hh hit₁ ht₁ (by simp) fun h₂ he₂ => ?_))
  simp only [Option.isSome_none, Bool.false_eq_true, if_false]
  refine wpAny_pure (hQ h₂ fun b o hb e => he₂ b o hb (hs₁.extBut b o hb (Heap.get?_push_of_some _ e)))
end

section
variable {X : Cx} {g : G} {E : XD} {pos : Pos} {e : Expr} {P : St → St → Prop}
/-- (a, *b): the source is a tuple -/
def gStar (K : PySem.W.Frag) (k : Nat) (t : TGs) : TG := fun v σ H Q => ∃ a xs, v = .ref a ∧ SqT K H a xs ∧ k ≤ xs.length ∧ ∀ p, H p = none → t (xs.take k ++ [.ref p]) σ (upd H p (.lst (xs.drop k))) Q
theorem pg_star {es es' : List Expr} {kk k : Nat} {t : TGs} (hc : X.calm = true) (h : PGs X es' t) (he : (assignEach es X.env).map (·.2) = (assignEach es' X.env).map (·.2) := by rfl)
    (hn : (assignEach es X.env).length = k + 1 := by rfl) (hst : (assignEach es X.env).findIdx? (·.1) = some k := by rfl) : PG X (.Tuple es kk pos) (gStar X.K k t) := by
  refine ⟨fun pins s σ H v u Q I r hw => ?_⟩
  obtain ⟨a, xs, e1, hq, hl, hw⟩ := hw
  subst e1
  cases r
  obtain ⟨its, rv, ht, hz⟩ := I.tuple hq
  have hlen := rv.length
  rw [assign_Tuple]
  refine wpAny_bind (wpAny_standAt ?_)
  unfold unpack
  rw [hn, hst, he]
  refine wpAny_bind (wpAny_holding (unpackItems_star (I.ok.hd hc) ht (by simpa [← hlen] using hl) (by simpa [← hlen] using hz) fun h' tk hk => ?_))
  have I1 : Inv X pins σ H { s with heap := h', toks := tk } := I.kept hk
  have hp : H h'.objs.size = none := I1.hok.fresh (Nat.le_refl _)
  have I2 : Inv X pins σ (upd H h'.objs.size (.lst (xs.drop k))) { s with heap := h'.push { cls := .type "list", data := .seq (its.drop k).toArray }, toks := tk } := by
    refine Inv.laid (s := { s with heap := h', toks := tk }) I1 (fun b o q => Heap.get?_push_of_some _ q) (Nat.le_refl _) ?_
    exact ⟨by simp; omega, its.drop k, 0, rv.drop k, Heap.get?_push_size _ rfl⟩
  simpa using h.run pins _ σ _ (xs.take k ++ [.ref h'.objs.size]) (its.take k ++ [.ref h'.objs.size]) Q I2 ((rv.take k).append (Paired.cons (show RelV (.ref h'.objs.size) (.ref h'.objs.size) from rfl) .nil)) (hw _ hp)
def gSt (k : Nat) (t : List D → Lc → Sto → R Lc) : D → Lc → Sto → R Lc := fun d L S => match d with
  | .tup ds => if k ≤ ds.length then t (ds.take k ++ [.lst (ds.drop k)]) L S else .bad
  | _ => .bad
theorem dg_star {es es' : List Expr} {kk k : Nat} {t : List D → Lc → Sto → R Lc} (hK : X.K = g.K) (hc : X.calm = true) (h : PGs X es' (tGs g E P t)) (he : (assignEach es X.env).map (·.2) = (assignEach es' X.env).map (·.2) := by rfl)
    (hn : (assignEach es X.env).length = k + 1 := by rfl) (hst : (assignEach es X.env).findIdx? (·.1) = some k := by rfl) : PG X (.Tuple es kk pos) (tG g E P (gSt k t)) := by
  refine (pg_star hc h he hn hst).imp fun v σ H Q h => ?_
  obtain ⟨m, S, L, d, r, l, rv, q⟩ := h
  unfold gSt at q
  split at q
  · rename_i ds
    split at q
    · rename_i hz
      obtain ⟨a, vs, rfl, h1, h2⟩ := of_tup rv
      refine ⟨a, vs, rfl, by rw [hK]; exact h1, by rw [h2.length]; exact hz, fun p hp => ?_⟩
      have ex : Ext g m H m (upd H p (.lst (vs.drop k))) := ext_lay r hp
      refine ⟨m, _, L, _, r.lay hp, l.ext ex, ?_, q.later ex⟩
      exact ((h2.take k).ext ex).append (.cons (rv_lst upd_same (r.un hp) ((h2.drop k).ext ex)) .nil)
    · exact q.elim
  · exact q.elim
/-- a, b = a list or a tuple -/
def gLst (n : Nat) (t : TGs) : TG := fun v σ H Q => ∃ a xs, v = .ref a ∧ H a = some (.lst xs) ∧ xs.length = n ∧ t xs σ H Q
theorem pg_lst {es : List Expr} {k n : Nat} {t : TGs} (hc : X.calm = true) (h : PGs X es t) (hn : (assignEach es X.env).length = n := by rfl) (hst : (assignEach es X.env).findIdx? (·.1) = none := by rfl) : PG X (.Tuple es k pos) (gLst n t) := by
  refine ⟨fun pins s σ H v u Q I r hw => ?_⟩
  obtain ⟨a, xs, e1, hq, hl, hw⟩ := hw
  subst e1
  cases r
  obtain ⟨hz, its, nn, rv, hg⟩ := (show ObjOk X.prog X.w H s.heap a (.lst xs) from I.hok a _ hq)
  have hlen := rv.length
  have hli : s.heap.IsList a its.toArray := ⟨_, hg, rfl, nn, rfl⟩
  rw [assign_Tuple]
  refine wpAny_bind (wpAny_standAt ?_)
  unfold unpack
  have e2 : (assignEach es X.env).length = its.toArray.size := by rw [hn, List.size_toArray, ← hlen, hl]
  rw [e2, hst]
  refine wpAny_bind (wpAny_holding (unpackItems_list (I.ok.hd hc) hli fun h' hx => ?_))
  have I1 : Inv X pins σ H { s with heap := h' } := I.kept (t' := s.toks) fun b o e => hx b o (Nat.ne_of_lt (Heap.lt_size e)) e
  exact h.run pins _ σ H xs _ Q I1 (by simpa using rv) hw
def gTp2 (n : Nat) (t : List D → Lc → Sto → R Lc) : D → Lc → Sto → R Lc := fun d L S => match d with
  | .tup ds => if ds.length = n then t ds L S else .bad
  | d => match lstO d S with
    | some ds => if ds.length = n then t ds L S else .bad
    | _ => .bad
theorem dg_tup2 {es : List Expr} {k n : Nat} {t : List D → Lc → Sto → R Lc} (hK : X.K = g.K) (hc : X.calm = true) (h : PGs X es (tGs g E P t)) (hn : (assignEach es X.env).length = n := by rfl) (hst : (assignEach es X.env).findIdx? (·.1) = none := by rfl) :
    PG X (.Tuple es k pos) (tG g E P (gTp2 n t)) := by
  refine ⟨fun pins s σ H v u Q I ru h0 => ?_⟩
  obtain ⟨m, S, L, d, r, l, rv, q⟩ := h0
  unfold gTp2 at q
  split at q
  · rename_i ds
    split at q
    · rename_i hz
      obtain ⟨a, vs, rfl, h1, h2⟩ := of_tup rv
      exact (pg_tup hc h hn hst).run pins s σ H _ u Q I ru ⟨a, vs, rfl, by rw [hK]; exact h1, by rw [h2.length]; exact hz, m, S, L, ds, r, l, h2, q⟩
    · exact q.elim
  · split at q
    · rename_i ds e0
      split at q
      · rename_i hz
        obtain ⟨a, vs, rfl, h1, h2⟩ := lstO_run r rv e0
        exact (pg_lst hc h hn hst).run pins s σ H _ u Q I ru ⟨a, vs, rfl, h1, by rw [h2.length]; exact hz, m, S, L, ds, r, l, h2, q⟩
      · exact q.elim
    · exact q.elim
/-! what is never reached -/
def sBad : SF := fun _ _ => .bad
theorem ds_bad {st : Stmt} : PS X st (tF g E sBad) := ⟨fun pins s σ H Dn I h => by
  obtain ⟨m, S, L, r, l, q⟩ := h
  exact q.elim⟩
/-! match -/
def mNil : D → SF := fun _ L S => .ok (.nx L) S
def mCase (i : Nat) (t : Lc → Sto → R Bool) (b : SF) (rest : D → SF) : D → SF := fun d L S => (t (L.set i (some d)) S).bind fun k S1 => if k = true then b (L.set i (some d)) S1 else rest d (L.set i (some d)) S1
def mElse (b : SF) : D → SF := fun _ L S => b L S
def mVal (f : D → D → Sto → R D) (e : Lc → Sto → R D) (b : SF) (rest : D → SF) : D → SF := fun d L S => (e L S).bind fun x S1 => (f d x S1).bind fun y S2 => match y with
  | .bl k => if k = true then b L S2 else rest d L S2
  | _ => .bad
def sMatch (e : Lc → Sto → R D) (f : D → SF) : SF := fun L S => (e L S).bind fun d S1 => f d L S1
structure PM (X : Cx) (g : G) (E : XD) (cs : List MatchCase) (f : D → SF) : Prop where
  run : ∀ (first : Bool) (pins : List (Addr × Obj)) (s : Shared) (σ : St) (H : Hp) (Dn : Ends) (v : V) (u : Value), Inv X pins σ H s → RelV v u →
    (∃ m S L d, Rel g m S H ∧ RL g m H L σ ∧ RV g m H d v ∧ Aft g E m H (f d L S) (fQ g Dn)) → wpAny (model X.prog X.w) X.A (matchCases cs X.env u first) (SP X pins Dn) X.xe s
theorem dm_nil : PM X g E [] mNil := ⟨fun first pins s σ H Dn v u I ru h => by
  obtain ⟨m, S, L, d, r, l, rv, q⟩ := h
  exact wpAny_matchCases_nil ⟨σ, H, I, q.ok r σ l⟩⟩
theorem dm_else {p1 : Pos} {b : List Stmt} {rest : List MatchCase} {fb : SF} (hb : PSs X b (tF g E fb)) : PM X g E (⟨.MatchAs none none p1, none, b⟩ :: rest) (mElse fb) := ⟨fun first pins s σ H Dn v u I ru h => by
  obtain ⟨m, S, L, d, r, l, rv, q⟩ := h
  refine wpAny_matchCases_cons (wpAny_matchPattern_Capture ?_)
  exact wpAny_assignInOrder_none (hb.run pins s σ H Dn I ⟨m, S, L, r, l, q⟩)⟩
theorem dm_case {i : Nat} {x : Str} {p1 : Pos} {c : Expr} {b : List Stmt} {rest : List MatchCase} {tc : Lc → Sto → R Bool} {fb : SF} {fr : D → SF} (hN : X.N.Nodup) (hi : X.N[i]? = some x) (hx : L2.Loc X.env.scope x) (hc : PT X c (tT g E tc)) (hb : PSs X b (tF g E fb)) (hr : PM X g E rest fr)
    (hf : X.fn x = true ∨ X.env.scope.names.lookup x = some .local := by first | exact .inl rfl | exact .inr rfl | assumption) :
    PM X g E (⟨.MatchAs none (some x) p1, some c, b⟩ :: rest) (mCase i tc fb fr) := ⟨fun first pins s σ H Dn v u I ru h => by
  obtain ⟨m, S, L, d, r, l, rv, q⟩ := h
  refine wpAny_matchCases_cons (wpAny_matchPattern_Capture ?_)
  refine wpAny_assignInOrder_more (wpAny_bindName (store_ok I hN hi hx ru (fun s1 I1 => ?_) hf))
  refine wpAny_assignInOrder_none ?_
  have l1 : RL g m H (L.set i (some d)) (σ.set i (some v)) := l.set rv i
  have q1 := Aft.bind q
  refine thn (hc.run pins s1 _ H (fun k H2 => ∃ m2 S2, Ext g m H m2 H2 ∧ Rel g m2 S2 H2 ∧ Aft g E m2 H2 (if k = true then fb (L.set i (some d)) S2 else fr d (L.set i (some d)) S2) (fQ g Dn)) I1 ⟨m, S, _, r, l1, q1.mono fun k m2 S2 H2 e2 r2 q2 => ⟨m2, S2, e2, r2, q2⟩⟩) fun k s2 h2 => ?_
  obtain ⟨H2, I2, m2, S2, e2, r2, q2⟩ := h2
  cases k with
  | true => exact hb.run pins s2 _ H2 Dn I2 ⟨m2, S2, _, r2, l1.ext e2, q2⟩
  | false => exact hr.run false pins s2 _ H2 Dn v u I2 ru ⟨m2, S2, _, d, r2, l1.ext e2, rv.ext e2, q2⟩⟩
theorem ds_match {cs : List MatchCase} {ea : Lc → Sto → R D} {f : D → SF} (he : PE X e (tD g E ea)) (hm : PM X g E cs f) : PS X (.Match e cs pos) (tF g E (sMatch ea f)) := by
  refine ⟨fun pins s σ H Dn I h => ?_⟩
  obtain ⟨m, S, L, r, l, q⟩ := h
  refine wpAny_Match (thn (he.run pins s σ H (fun v H1 => ∃ m1 S1 d, Ext g m H m1 H1 ∧ Rel g m1 S1 H1 ∧ RV g m1 H1 d v ∧ Aft g E m1 H1 (f d L S1) (fQ g Dn)) I ⟨m, S, L, r, l, (Aft.bind q).mono fun d m1 S1 H1 e1 r1 q1 v rv => ⟨m1, S1, d, e1, r1, rv, q1⟩⟩) fun u s1 h1 => ?_)
  obtain ⟨v, H1, I1, ru, m1, S1, d, e1, r1, rv, q1⟩ := h1
  exact hm.run true pins s1 σ H1 Dn v u I1 ru ⟨m1, S1, L, d, r1, l.ext e1, rv, q1⟩
end
end VL

/-! dicts whose keys are ints and texts -/
namespace VL
open PySem PySem.Spec PyProof.Rows L2
def keyD : D → Option Key
  | .int i => some (.inl i)
  | .str x => some (.inr x)
  | _ => none
def keyV : Key → D
  | .inl i => .int i
  | .inr x => .str x
theorem key_run {g : G} {m : Mp} {H : Hp} {d : D} {v : V} {k : Key} (h : RV g m H d v) (e : keyD d = some k) : v = kV k := by
  cases d with
  | int i => cases e; exact of_int h
  | str i => cases e; exact of_str h
  | _ => cases e
theorem keyV_run {g : G} {m : Mp} {H : Hp} (k : Key) : RV g m H (keyV k) (kV k) := by
  cases k with
  | inl i => exact rv_int
  | inr x => exact rv_str
def lookK : List Key → List D → Key → Option D
  | k' :: ks, d :: ds, k => if k' = k then some d else lookK ks ds k
  | _, _, _ => none
def hasK (ks : List Key) (k : Key) : Bool := ks.any fun k' => decide (k' = k)
def putKs (ks : List Key) (k : Key) : List Key := if hasK ks k = true then ks else ks ++ [k]
def putVs (ks : List Key) (ds : List D) (k : Key) (d : D) : List D := if hasK ks k = true then List.zipWith (fun k' d' => if k' = k then d else d') ks ds else ds ++ [d]
def dropVs : List Key → List D → Key → List D
  | k' :: ks, d :: ds, k => if k' = k then dropVs ks ds k else d :: dropVs ks ds k
  | _, _, _ => []
def dropKs (ks : List Key) (k : Key) : List Key := ks.filter fun k' => decide (k' ≠ k)
section
variable {g : G} {m : Mp} {H : Hp}
theorem look_run : ∀ {kvs : List (Key × V)} {ds : List D}, RVs g m H ds (kvs.map (·.2)) → ∀ k, (∀ d, lookK (kvs.map (·.1)) ds k = some d → ∃ v, valV kvs k = some v ∧ RV g m H d v) ∧ (lookK (kvs.map (·.1)) ds k = none → valV kvs k = none)
  | [], ds, h, k => ⟨fun d e => by cases ds <;> simp [lookK] at e, fun _ => valV_nil⟩
  | (k', v) :: kvs, [], h, k => by have := h.nil_iff; simp at this
  | (k', v) :: kvs, d :: ds, h, k => by
    obtain ⟨v', r, e, h1, h2⟩ := h.cons_iff
    simp only [List.map_cons, List.cons.injEq] at e
    obtain ⟨rfl, rfl⟩ := e
    obtain ⟨i1, i2⟩ := look_run h2 k
    simp only [List.map_cons, lookK]
    by_cases e : k' = k
    · rw [if_pos e]
      refine ⟨fun d' e' => ?_, fun e' => by cases e'⟩
      cases e'
      exact ⟨_, valV_pos (p := (k', v)) e, h1⟩
    · rw [if_neg e, valV_neg (p := (k', v)) e]
      exact ⟨i1, i2⟩
theorem any_mem (k : Key) (kvs : List (Key × V)) : (kvs.any fun kv => decide (kv.1 = k)) = hasK (kvs.map (·.1)) k := by
  unfold hasK
  rw [List.any_map]
  rfl
theorem zip_run {k : Key} {d : D} {v : V} (hv : RV g m H d v) : ∀ {kvs : List (Key × V)} {ds : List D}, RVs g m H ds (kvs.map (·.2)) →
    RVs g m H (List.zipWith (fun k' d' => if k' = k then d else d') (kvs.map (·.1)) ds) ((kvs.map fun kv => if kv.1 = k then (kv.1, v) else kv).map (·.2))
  | [], ds, h => by cases ds <;> simpa using RVs.nil
  | (k', v') :: kvs, [], h => by have := h.nil_iff; simp at this
  | (k', v') :: kvs, d' :: ds, h => by
    obtain ⟨v2, r, e, h1, h2⟩ := h.cons_iff
    simp only [List.map_cons, List.cons.injEq] at e
    obtain ⟨rfl, rfl⟩ := e
    simp only [List.map_cons, List.zipWith_cons_cons]
    refine .cons ?_ (zip_run hv h2)
    by_cases e : k' = k
    · simp only [e, if_true]; exact hv
    · simp only [e, if_false]; exact h1
theorem put_run {kvs : List (Key × V)} {ds : List D} {k : Key} {d : D} {v : V} (h : RVs g m H ds (kvs.map (·.2))) (hv : RV g m H d v) :
    (putK kvs k v).map (·.1) = putKs (kvs.map (·.1)) k ∧ RVs g m H (putVs (kvs.map (·.1)) ds k d) ((putK kvs k v).map (·.2)) := by
  unfold putK putKs putVs
  rw [any_mem]
  by_cases e : hasK (kvs.map (·.1)) k = true
  · rw [if_pos e, if_pos e, if_pos e]
    refine ⟨?_, zip_run hv h⟩
    rw [List.map_map]
    apply List.map_congr_left
    intro a _
    show (if a.1 = k then (a.1, v) else a).1 = a.1
    split <;> rfl
  · rw [if_neg e, if_neg e, if_neg e]
    refine ⟨by simp, ?_⟩
    rw [List.map_append]
    exact h.append (.cons hv .nil)
theorem drop_run {k : Key} : ∀ {kvs : List (Key × V)} {ds : List D}, RVs g m H ds (kvs.map (·.2)) → (dropK kvs k).map (·.1) = dropKs (kvs.map (·.1)) k ∧ RVs g m H (dropVs (kvs.map (·.1)) ds k) ((dropK kvs k).map (·.2))
  | [], ds, h => by cases ds <;> exact ⟨rfl, .nil⟩
  | (k', v') :: kvs, [], h => by have := h.nil_iff; simp at this
  | (k', v') :: kvs, d' :: ds, h => by
    obtain ⟨v2, r, e, h1, h2⟩ := h.cons_iff
    simp only [List.map_cons, List.cons.injEq] at e
    obtain ⟨rfl, rfl⟩ := e
    obtain ⟨i1, i2⟩ := drop_run (k := k) h2
    unfold dropK dropKs at i1 ⊢
    unfold dropK at i2
    simp only [List.map_cons, dropVs, List.filter_cons]
    by_cases e : k' = k
    · subst e
      simp only [ne_eq, not_true_eq_false, decide_false, if_false, if_true, Bool.false_eq_true]
      exact ⟨i1, i2⟩
    · simp only [e, ne_eq, not_false_eq_true, decide_true, if_true, if_false, List.map_cons]
      exact ⟨by rw [i1], .cons h1 i2⟩
theorem len_put (ks : List Key) (k : Key) : (putKs ks k).length ≤ ks.length + 1 := by
  unfold putKs
  split
  · omega
  · simp
/-- reading a dict -/
def dicOf (d : D) (S : Sto) : Option (List Key × List D) := match d with
  | .dic ks ds => some (ks, ds)
  | .ref n => match S[n]? with
    | some (.dic ks ds) => some (ks, ds)
    | some (.dlk ks ds) => some (ks, ds)
    | _ => none
  | _ => none
theorem dic_run {S : Sto} (r : Rel g m S H) {d : D} {v : V} (rv : RV g m H d v) {p : List Key × List D} (e : dicOf d S = some p) : ∃ a kvs, v = .ref a ∧ Rd H a (.dK kvs) ∧ kvs.map (·.1) = p.1 ∧ RVs g m H p.2 (kvs.map (·.2)) := by
  unfold dicOf at e
  cases d with
  | dic ks ds =>
    cases e
    obtain ⟨a, kvs, rfl, h1, _, h2, h3⟩ := of_dic rv
    exact ⟨a, kvs, rfl, h1, h2, h3⟩
  | ref n =>
    simp only at e
    split at e
    · rename_i e0
      cases e
      obtain ⟨a, o, rfl, _, h1, kvs, rfl, h2, h3⟩ := r.at rv e0 (by intro z; cases z)
      exact ⟨a, kvs, rfl, .inl h1, h2, h3⟩
    · rename_i e0
      cases e
      obtain ⟨a, o, rfl, _, h1, od, kvs, rfl, h2, h3⟩ := r.at rv e0 (by intro z; cases z)
      exact ⟨a, kvs, rfl, .inr ⟨od, h1⟩, h2, h3⟩
    · cases e
  | _ => cases e
/-! dicts with tuples as keys -/
def keyL : List D → Option (List Key)
  | [] => some []
  | d :: ds => match keyD d, keyL ds with
    | some k, some ks => some (k :: ks)
    | _, _ => none
def keyT : D → Option (List Key)
  | .tup ds => keyL ds
  | _ => none
theorem keyL_run : ∀ {ds : List D} {vs : List V} {ks : List Key}, RVs g m H ds vs → keyL ds = some ks → vs = ks.map kV
  | [], vs, ks, h, e => by cases e; exact h.nil_iff
  | d :: ds, vs, ks, h, e => by
    obtain ⟨v, r, rfl, h1, h2⟩ := h.cons_iff
    simp only [keyL] at e
    split at e
    · rename_i e1 e2
      cases e
      rw [key_run h1 e1, keyL_run h2 e2]
      rfl
    · cases e
def lookT : List (List Key) → List D → List Key → Option D
  | k' :: ks, d :: ds, k => if k' = k then some d else lookT ks ds k
  | _, _, _ => none
theorem lookT_run : ∀ {kvs : List (List Key × V)} {ds : List D}, RVs g m H ds (kvs.map (·.2)) → ∀ k, (∀ d, lookT (kvs.map (·.1)) ds k = some d → ∃ v, valV kvs k = some v ∧ RV g m H d v) ∧ (lookT (kvs.map (·.1)) ds k = none → valV kvs k = none)
  | [], ds, h, k => ⟨fun d e => by cases ds <;> simp [lookT] at e, fun _ => valV_nil⟩
  | (k', v) :: kvs, [], h, k => by have := h.nil_iff; simp at this
  | (k', v) :: kvs, d :: ds, h, k => by
    obtain ⟨v', r, e, h1, h2⟩ := h.cons_iff
    simp only [List.map_cons, List.cons.injEq] at e
    obtain ⟨rfl, rfl⟩ := e
    obtain ⟨i1, i2⟩ := lookT_run h2 k
    simp only [List.map_cons, lookT]
    by_cases e : k' = k
    · rw [if_pos e]
      refine ⟨fun d' e' => ?_, fun e' => by cases e'⟩
      cases e'
      exact ⟨_, valV_pos (p := (k', v)) e, h1⟩
    · rw [if_neg e, valV_neg (p := (k', v)) e]
      exact ⟨i1, i2⟩
def dctOf (d : D) (S : Sto) : Option (List (List Key) × List D) := match d with
  | .dct ks ds => some (ks, ds)
  | .ref n => match S[n]? with
    | some (.dct ks ds) => some (ks, ds)
    | _ => none
  | _ => none
theorem dct_run {S : Sto} (r : Rel g m S H) {d : D} {v : V} (rv : RV g m H d v) {p : List (List Key) × List D} (e : dctOf d S = some p) : ∃ a kvs, v = .ref a ∧ Rd H a (.dT kvs) ∧ kvs.map (·.1) = p.1 ∧ RVs g m H p.2 (kvs.map (·.2)) := by
  unfold dctOf at e
  cases d with
  | dct ks ds =>
    cases e
    obtain ⟨a, kvs, rfl, h1, _, h2, h3⟩ := of_dct rv
    exact ⟨a, kvs, rfl, h1, h2, h3⟩
  | ref n =>
    simp only at e
    split at e
    · rename_i e0
      cases e
      obtain ⟨a, o, rfl, _, h1, kvs, rfl, h2, h3⟩ := r.at rv e0 (by intro z; cases z)
      exact ⟨a, kvs, rfl, .inl h1, h2, h3⟩
    · cases e
  | _ => cases e
end
section
variable {X : Cx} {g : G} {E : XD}
/-! d[k] -/
def ix2D (x y : D) (S : Sto) : R D := match dicOf x S with
  | some p => match keyD y with
    | some k => match lookK p.1 p.2 k with
      | some d => .ok d S
      | none => .bad
    | none => .bad
  | none => ixD x y S
theorem ix_dict (hu : X.A.units + 1 < cLine) : IxR X (fun x y H Q => ∃ a v, x = .ref a ∧ DGet H a y (some v) ∧ Q v H) := by
  intro value slice pins s σ H x y v u Q I rx ry h hs
  obtain ⟨a, z, rfl, dg, q⟩ := h
  cases rx
  have hT := dict_typeIs I dg
  unfold subscriptTail
  refine wpAny_bind ?_
  rw [getitemInPython_of_ne hT.not_modules]
  refine wpAny_bind (wpAny_specialOf hT PySem.F.slot_dict_getitem.lookup ?_)
  have fin : wpAny (model X.prog X.w) X.A (subscripted slice false (.ref a) u) (fun r s₃ => wpAny (model X.prog X.w) X.A (letTemporaryGo value (.ref a) r >>= fun _ => pure r) (EP X pins σ Q) X.xe s₃) X.xe s := by
    rw [hs]
    exact wpAny_operating (thn (d_getItem (Q := EP X pins σ Q) hu I dg ry fun w' s3 I3 rw' => ⟨z, H, I3, rw', q⟩) fun r s₃ h₃ => wpAny_bind (wpAny_letTemporaryGo (wpAny_pure h₃)))
  first
    | exact wpAny_pure (wpAny_bind fin)
    | exact wpAny_bind (wpAny_pure (wpAny_bind fin))
    | exact wpAny_bind fin
theorem xd_ix2 (hK : X.K = g.K) (hu : X.A.units + 64 < cLine) : IxR X (rD2 g E (ix2D)) := by
  intro value slice pins s σ H x y v u Q I rx ry h hs
  obtain ⟨m, S, d, d', r, h1, h2, q⟩ := h
  unfold ix2D at q
  split at q
  · rename_i p ep
    split at q
    · rename_i k ek
      split at q
      · rename_i z ez
        obtain ⟨a, kvs, rfl, hr, e1, e2⟩ := dic_run r h1 ep
        rw [← e1] at ez
        obtain ⟨w, w1, w2⟩ := (look_run e2 k).1 _ ez
        exact ix_dict (by omega) value slice pins s σ H _ _ v u Q I rx ry ⟨a, w, rfl, .inl ⟨kvs, k, hr, key_run h2 ek, w1.symm⟩, q.ok r _ w2⟩ hs
      · exact q.elim
    · exact q.elim
  · exact xd_ix hK value slice pins s σ H x y v u Q I rx ry ⟨m, S, d, d', r, h1, h2, q⟩ hs
/-! d[k] = v -/
def set2D (x y z : D) (S : Sto) : R Unit := match x with
  | .ref n => match S[n]? with
    | some (.dic ks ds) => match keyD y with
      | some k => if ks.length < sizeLine then .ok () (S.set n (.dic (putKs ks k) (putVs ks ds k z))) else .bad
      | none => .bad
    | _ => setD x y z S
  | _ => .bad
theorem sd_set2 (hu : X.A.units + 64 < cLine) : PSet X (rSet g E set2D) := by
  intro pins s σ H o i v ov iv u Q I ro ri rv h
  obtain ⟨m, S, d1, d2, d3, r, h1, h2, h3, q⟩ := h
  unfold set2D at q
  split at q
  · rename_i n
    split at q
    · rename_i ks ds e0
      split at q
      · rename_i k ek
        split at q
        · rename_i hz
          obtain ⟨a, ob, rfl, ha, e1, kvs, rfl, e2, e3⟩ := r.at h1 e0 (by intro z; cases z)
          cases ro
          obtain ⟨p1, p2⟩ := put_run (k := k) e3 h3
          rw [e2] at p1 p2
          have hl : kvs.length < sizeLine := by rw [← e2, List.length_map] at hz; exact hz
          refine d_setItem (by omega) I (y := i) (.inl ⟨kvs, k, e1, key_run h2 ek, hl, rfl⟩) ri rv fun s' I' => ⟨_, I', ?_⟩
          exact q.at (ext_set r ha e0) (r.set (ob' := .dic (putKs ks k) (putVs ks ds k d3)) ha e0 ⟨_, rfl, p1, p2⟩)
        · exact q.elim
      · exact q.elim
    · exact sd_set pins s σ H o i v ov iv u Q I ro ri rv ⟨m, S, _, d2, d3, r, h1, h2, h3, q⟩
  · exact q.elim
end
end VL

namespace VL
open PySem PySem.Spec PyProof.Rows L2
section
variable {X : Cx} {g : G} {E : XD}
/-! x in y -/
def vOf : D → Option V
  | .non => some .non
  | .bl b => some (.bl b)
  | .int i => some (.int i)
  | .str x => some (.str x)
  | _ => none
theorem vOf_run {m : Mp} {H : Hp} {d : D} {v w : V} (h : RV g m H d v) (e : vOf d = some w) : v = w ∧ flatV w = true := by
  cases d with
  | non => cases e; exact ⟨of_non h, rfl⟩
  | bl b => cases e; exact ⟨of_bl h, rfl⟩
  | int b => cases e; exact ⟨of_int h, rfl⟩
  | str b => cases e; exact ⟨of_str h, rfl⟩
  | _ => cases e
def vsOf : List D → Option (List V)
  | [] => some []
  | d :: ds => match vOf d, vsOf ds with
    | some v, some vs => some (v :: vs)
    | _, _ => none
theorem vsOf_run {m : Mp} {H : Hp} : ∀ {ds : List D} {vs ws : List V}, RVs g m H ds vs → vsOf ds = some ws → vs = ws ∧ ws.all flatV = true
  | [], vs, ws, h, e => by cases e; exact ⟨h.nil_iff, rfl⟩
  | d :: ds, vs, ws, h, e => by
    obtain ⟨v, r, rfl, h1, h2⟩ := h.cons_iff
    simp only [vsOf] at e
    split at e
    · rename_i a b e1 e2
      cases e
      obtain ⟨rfl, f1⟩ := vOf_run h1 e1
      obtain ⟨rfl, f2⟩ := vsOf_run h2 e2
      exact ⟨rfl, by simp [f1, f2]⟩
    · cases e
def itemsOf (d : D) (S : Sto) : Option (List D) := match d with
  | .tup ds => some ds
  | d => lstOf d S
theorem items_run {m : Mp} {S : Sto} {H : Hp} (r : Rel g m S H) {d : D} {v : V} (rv : RV g m H d v) {ds : List D} (e : itemsOf d S = some ds) : ∃ a vs, v = .ref a ∧ (SqL g.K H a vs ∨ SqT g.K H a vs) ∧ RVs g m H ds vs := by
  unfold itemsOf at e
  split at e
  · cases e
    obtain ⟨a, vs, rfl, h1, h2⟩ := of_tup rv
    exact ⟨a, vs, rfl, .inr h1, h2⟩
  · obtain ⟨a, vs, rfl, h1, h2⟩ := lst_run r rv e
    exact ⟨a, vs, rfl, .inl h1, h2⟩
def inStr (a z : Str) : Bool := match a.cps.toList with
  | [c] => decide (c ∈ z.cps.toList)
  | _ => !(Builtin.Str.occurrences z a 0 z.length 1).isEmpty
def inD (neg : Bool) (x y : D) (S : Sto) : R D := match y with
  | .str z => match x with
    | .str a => .ok (.bl (neg != inStr a z)) S
    | _ => .bad
  | y => match dicOf y S with
    | some p => match keyD x with
      | some k => .ok (.bl (neg != (lookK p.1 p.2 k).isSome)) S
      | none => .bad
    | none => match itemsOf y S with
      | some ds => match vOf x, vsOf ds with
        | some v, some vs => .ok (.bl (neg != inV v vs)) S
        | _, _ => match lstOf y S with
          | some ds => match toP S 65 x, toPs S 64 ds with
            | some p, some ps => if SeqAt.shaped p = true ∧ SeqAt.shaped (.list ps) = true then .ok (.bl (neg != ps.any fun z => PyData.eqv z p)) S else .bad
            | _, _ => .bad
          | none => .bad
      | none => .bad
theorem sign_of {a : Str} {c : Nat} (h : a.cps.toList = [c]) : a = ⟨#[c]⟩ := by
  cases a with
  | mk cps =>
    have : cps = #[c] := by
      apply Array.toList_inj.mp
      exact h
    rw [this]
theorem look_some {m : Mp} {H : Hp} {kvs : List (Key × V)} {ds : List D} (h : RVs g m H ds (kvs.map (·.2))) (k : Key) : (lookK (kvs.map (·.1)) ds k).isSome = (valV kvs k).isSome := by
  obtain ⟨h1, h2⟩ := look_run h k
  cases e : lookK (kvs.map (·.1)) ds k with
  | some d => obtain ⟨v, e1, _⟩ := h1 d e; rw [e1]; rfl
  | none => rw [h2 e]; rfl
theorem od_in (hK : X.K = g.K) (hu : X.A.units + 65 < cLine) : OpR X (compareOp .In) (rD2 g E (inD false)) := by
  intro pins s σ H x y v u Q I rx ry h
  obtain ⟨m, S, d, d', r, h1, h2, q⟩ := h
  unfold inD at q
  split at q
  · rename_i z
    split at q
    · rename_i a
      have ex := of_str h1
      have ey := of_str h2
      subst ex ey
      unfold inStr at q
      split at q
      · rename_i c hc
        have := sign_of hc
        subst this
        exact op_in_sign pins s σ H _ _ v u Q I rx ry ⟨c, z, rfl, rfl, q.ok r _ (by simp [rv_bl])⟩
      · exact op_in_str pins s σ H _ _ v u Q I rx ry ⟨_, _, rfl, rfl, q.ok r _ (by simp [rv_bl])⟩
    · exact q.elim
  · split at q
    · rename_i p ep
      split at q
      · rename_i k ek
        obtain ⟨a, kvs, rfl, hr, e1, e2⟩ := dic_run r h2 ep
        rw [← e1] at q
        rw [look_some e2 k] at q
        cases ry
        exact d_in (by omega) I (.inl ⟨kvs, k, hr, key_run h1 ek, rfl⟩) rx fun s' I' => ⟨.bl _, H, I', rfl, q.ok r _ (by simp [rv_bl])⟩
      · exact q.elim
    · split at q
      · rename_i ds ed
        split at q
        · rename_i w ws ew es
          obtain ⟨a, vs, rfl, hs, e2⟩ := items_run r h2 ed
          obtain ⟨rfl, f1⟩ := vOf_run h1 ew
          obtain ⟨rfl, f2⟩ := vsOf_run e2 es
          exact op_in_seq pins s σ H _ _ v u Q I rx ry ⟨a, vs, rfl, by rw [hK]; exact hs, f1, f2, q.ok r _ (by simp [rv_bl])⟩
        · split at q
          · rename_i ds2 ed2
            split at q
            · rename_i p ps e3 e4
              split at q
              · rename_i hs
                obtain ⟨a, vs, rfl, hl, e2⟩ := lst_run r h2 ed2
                exact op_inD (by omega) pins s σ H _ _ v u Q I rx ry ⟨p, ps, by rw [hK]; exact toP_run r _ h1 e3, by rw [hK]; exact .lst hl (toPs_run r _ e2 e4), hs.1, hs.2, q.ok r _ (by simp [rv_bl])⟩
              · exact q.elim
            · exact q.elim
          · exact q.elim
      · exact q.elim
theorem od_notin (hK : X.K = g.K) (hu : X.A.units + 65 < cLine) : OpR X (compareOp .NotIn) (rD2 g E (inD true)) := by
  intro pins s σ H x y v u Q I rx ry h
  obtain ⟨m, S, d, d', r, h1, h2, q⟩ := h
  unfold inD at q
  split at q
  · rename_i z
    split at q
    · rename_i a
      have ex := of_str h1
      have ey := of_str h2
      subst ex ey
      unfold inStr at q
      split at q
      · rename_i c hc
        have := sign_of hc
        subst this
        exact op_notIn_sign pins s σ H _ _ v u Q I rx ry ⟨c, z, rfl, rfl, q.ok r _ (by simp [rv_bl])⟩
      · exact op_notIn_str pins s σ H _ _ v u Q I rx ry ⟨_, _, rfl, rfl, q.ok r _ (by simp [rv_bl])⟩
    · exact q.elim
  · split at q
    · rename_i p ep
      split at q
      · rename_i k ek
        obtain ⟨a, kvs, rfl, hr, e1, e2⟩ := dic_run r h2 ep
        rw [← e1] at q
        rw [look_some e2 k] at q
        cases ry
        exact d_notIn (by omega) I (.inl ⟨kvs, k, hr, key_run h1 ek, rfl⟩) rx fun s' I' => ⟨.bl _, H, I', rfl, q.ok r _ (by simp [rv_bl])⟩
      · exact q.elim
    · split at q
      · rename_i ds ed
        split at q
        · rename_i w ws ew es
          obtain ⟨a, vs, rfl, hs, e2⟩ := items_run r h2 ed
          obtain ⟨rfl, f1⟩ := vOf_run h1 ew
          obtain ⟨rfl, f2⟩ := vsOf_run e2 es
          exact op_notIn_seq pins s σ H _ _ v u Q I rx ry ⟨a, vs, rfl, by rw [hK]; exact hs, f1, f2, q.ok r _ (by simp [rv_bl])⟩
        · split at q
          · rename_i ds2 ed2
            split at q
            · rename_i p ps e3 e4
              split at q
              · rename_i hs
                obtain ⟨a, vs, rfl, hl, e2⟩ := lst_run r h2 ed2
                exact op_notInD (by omega) pins s σ H _ _ v u Q I rx ry ⟨p, ps, by rw [hK]; exact toP_run r _ h1 e3, by rw [hK]; exact .lst hl (toPs_run r _ e2 e4), hs.1, hs.2, q.ok r _ (by simp [rv_bl])⟩
              · exact q.elim
            · exact q.elim
          · exact q.elim
      · exact q.elim
/-! // of any sign, * of texts and tuples, str -/
theorem op_fdivA : OpR X (binaryOp .FloorDiv) (rI (fun _ j => j ≠ 0 ∧ j.natAbs.log2 < 9000) fun i j => .int (i.fdiv j)) := opI fun i j _ _ _ _ _ hc q => floordiv_int hc.1 q (.inl (PyProof.noPylong_of_log2 hc.2))
def fdiv2D (x y : D) (S : Sto) : R D := match x, y with
  | .int i, .int j => if j ≠ 0 ∧ j.natAbs.log2 < 9000 then .ok (.int (i.fdiv j)) S else .bad
  | _, _ => .bad
theorem od_fdiv2 : OpR X (binaryOp .FloorDiv) (rD2 g E fdiv2D) := by
  intro pins s σ H x y v u Q I rx ry h
  obtain ⟨m, S, d, d', r, h1, h2, q⟩ := h
  unfold fdiv2D at q
  split at q
  · split at q
    · rename_i hz
      exact op_fdivA pins s σ H x y v u Q I rx ry ⟨_, _, of_int h1, of_int h2, hz, q.ok r _ rv_int⟩
    · exact q.elim
  · exact q.elim
def mul2D (x y : D) (S : Sto) : R D := match x, y with
  | .str a, .int k => if 0 ≤ k ∧ k ≤ 10000 ∧ a.length ≤ 1000 then .ok (.str (Txt.mul a k)) S else .bad
  | .tup ds, .int k => if ds ≠ [] ∧ 2 ≤ k ∧ k ≤ 1000 ∧ ds.length ≤ 1000 then .ok (.tup (List.replicate k.toNat ds).flatten) S else .bad
  | x, y => mulD x y S
theorem od_mul2 (hK : X.K = g.K) : OpR X (binaryOp .Mult) (rD2 g E mul2D) := by
  intro pins s σ H x y v u Q I rx ry h
  obtain ⟨m, S, d, d', r, h1, h2, q⟩ := h
  unfold mul2D at q
  split at q
  · rename_i a k
    split at q
    · rename_i hz
      have ex := of_str h1
      have ey := of_int h2
      subst ex ey
      obtain ⟨t, rfl⟩ := (show ∃ t, v = Value.str a t from rx)
      obtain ⟨t', rfl⟩ := (show ∃ t, u = Value.int k t from ry)
      have hm : MulOk a k := by
        refine ⟨by simp; omega, fun h1 _ => ?_, fun h1 _ => ?_⟩
        · intro hh
          have : (a.length : Int) ≤ 1000 := by exact_mod_cast hz.2.2
          have h3 : (1000 : Int) ≤ (2 ^ 63 - 1) / k := by
            rw [Int.le_ediv_iff_mul_le (by omega)]
            omega
          omega
        · show decide (_ > sizeLine) = false
          have h3 : a.length * k.toNat ≤ 1000 * 10000 := Nat.mul_le_mul hz.2.2 (by omega)
          have h4 : (1000 * 10000 : Nat) ≤ sizeLine := by decide
          simp; omega
      exact SB.mul hm fun t2 k2 => ⟨.str _, H, I.tok _, ⟨_, rfl⟩, q.ok r _ rv_str⟩
    · exact q.elim
  · rename_i ds k
    split at q
    · rename_i hz
      obtain ⟨a, vs, rfl, s1, v1⟩ := of_tup h1
      refine op_repT pins s σ H _ _ v u Q I rx ry ⟨a, k, vs, rfl, of_int h2, by rw [hK]; exact s1, ?_, hz.2.1, hz.2.2.1, by rw [v1.length]; exact hz.2.2.2, fun p hp => ?_⟩
      · rintro rfl
        have := v1.length
        exact hz.1 (List.length_eq_zero_iff.mp this.symm)
      · exact q.at (ext_lay r hp) (r.lay hp) _ (rv_tupv (.inl ⟨upd_same, r.un hp⟩) ((v1.rep _).ext (ext_lay r hp)))
    · exact q.elim
  · exact od_mul pins s σ H x y v u Q I rx ry ⟨m, S, d, d', r, h1, h2, q⟩
def strD (ds : List D) (S : Sto) : R D := match ds with
  | [.int i] => if i.natAbs.log2 < 1920 then .ok (.str (toString i)) S else .bad
  | [.str a] => .ok (.str a) S
  | _ => .bad
theorem cd_str : CallR X (.type "str") (rDs g E strD) := by
  intro pins s σ H xs us Q I r h
  obtain ⟨m, S, ds, rl, h1, q⟩ := h
  unfold strD at q
  split at q
  · split at q
    · rename_i hz
      obtain ⟨v, rfl, h2⟩ := rvs1 h1
      exact call_str_int pins s σ H _ us Q I r ⟨_, by rw [of_int h2], hz, q.ok rl _ rv_str⟩
    · exact q.elim
  · obtain ⟨v, rfl, h2⟩ := rvs1 h1
    exact SkE.call_str_str pins s σ H _ us Q I r ⟨_, by rw [of_str h2], q.ok rl _ rv_str⟩
  · exact q.elim
/-! len, list, dict of a dict -/
def len2D (ds : List D) (S : Sto) : R D := match ds with
  | [x] => match dicOf x S with
    | some p => .ok (.int p.1.length) S
    | none => lenD [x] S
  | _ => .bad
theorem cd_len2 (hK : X.K = g.K) : CallR X (.builtin "len") (rDs g E (len2D)) := by
  intro pins s σ H xs us Q I r h
  obtain ⟨m, S, ds, rl, h1, q⟩ := h
  unfold len2D at q
  split at q
  · split at q
    · rename_i p ep
      obtain ⟨v, rfl, h2⟩ := rvs1 h1
      obtain ⟨a, kvs, rfl, hr, e1, e2⟩ := dic_run rl h2 ep
      obtain ⟨u, rfl, ru⟩ := vals1 r
      cases ru
      have hl : p.1.length = kvs.length := by rw [← e1, List.length_map]
      exact d_len I hr fun t s' I' => ⟨.int _, H, I', ⟨t, rfl⟩, by rw [hl] at q; exact q.ok rl _ rv_int⟩
    · exact cd_len hK pins s σ H xs us Q I r ⟨m, S, _, rl, h1, q⟩
  · exact q.elim
/-- a new list, a new dict: by value, or (mu) one that will be changed -/
def nwL (mu : Bool) (xs : List D) (S : Sto) : R D := if mu = true then .ok (.ref S.length) (S ++ [.lst xs]) else .ok (.lst xs) S
def nwD (mu : Bool) (ks : List Key) (xs : List D) (S : Sto) : R D := if mu = true then .ok (.ref S.length) (S ++ [.dic ks xs]) else .ok (.dic ks xs) S
theorem nwL_run {mu : Bool} {m : Mp} {S : Sto} {H : Hp} {Q : VK} {xs : List D} {vs : List V} (q : Aft g E m H (nwL mu xs S) (vQ g Q)) (r : Rel g m S H) (rv : RVs g m H xs vs) {p : Addr} (hp : H p = none) : Q (.ref p) (upd H p (.lst vs)) := by
  unfold nwL at q
  split at q
  · exact q.at (ext_new r hp) (r.alloc hp ⟨vs, rfl, rv⟩) _ (rv_ref r.last)
  · exact q.at (ext_lay r hp) (r.lay hp) _ (rv_lst upd_same (r.un hp) (rv.ext (ext_lay r hp)))
theorem nwD_run {mu : Bool} {m : Mp} {S : Sto} {H : Hp} {Q : VK} {ks : List Key} {xs : List D} {kvs : List (Key × V)} (q : Aft g E m H (nwD mu ks xs S) (vQ g Q)) (r : Rel g m S H) (hk : kvs.map (·.1) = ks) (rv : RVs g m H xs (kvs.map (·.2))) {p : Addr} (hp : H p = none) : Q (.ref p) (upd H p (.dK kvs)) := by
  unfold nwD at q
  split at q
  · exact q.at (ext_new r hp) (r.alloc hp ⟨kvs, rfl, hk, rv⟩) _ (rv_ref r.last)
  · exact q.at (ext_lay r hp) (r.lay hp) _ (rv_dic (.of upd_same) (r.un hp) hk (rv.ext (ext_lay r hp)))
def listD (mu : Bool) (ds : List D) (S : Sto) : R D := match ds with
  | [x] => match dicOf x S with
    | some p => nwL mu (p.1.map keyV) S
    | none => match itemsOf x S with
      | some ds => nwL mu ds S
      | none => .bad
  | _ => .bad
theorem keys_run {m : Mp} {H : Hp} : ∀ ks : List Key, RVs g m H (ks.map keyV) (ks.map kV)
  | [] => .nil
  | k :: ks => .cons (keyV_run k) (keys_run ks)
theorem cd_list {mu : Bool} (hK : X.K = g.K) (hc : X.calm = true) : CallR X (.type "list") (rDs g E (listD mu)) := by
  intro pins s σ H xs us Q I r h
  obtain ⟨m, S, ds, rl, h1, q⟩ := h
  unfold listD at q
  split at q
  · split at q
    · rename_i p ep
      obtain ⟨v, rfl, h2⟩ := rvs1 h1
      obtain ⟨a, kvs, rfl, hr, e1, e2⟩ := dic_run rl h2 ep
      refine call_listD hc pins s σ H _ us Q I r ⟨a, kvs, rfl, hr, fun p hp => ?_⟩
      refine nwL_run q rl ?_ hp
      rw [← e1, List.map_map]
      have := keys_run (g := g) (m := m) (H := H) (kvs.map (·.1))
      rw [List.map_map, List.map_map] at this
      exact this
    · split at q
      · rename_i ds ed
        obtain ⟨v, rfl, h2⟩ := rvs1 h1
        obtain ⟨a, vs, rfl, hs, e2⟩ := items_run rl h2 ed
        refine call_list_of pins s σ H _ us Q I r ⟨a, vs, rfl, by rw [hK]; exact hs, fun p hp => ?_⟩
        exact nwL_run q rl e2 hp
      · exact q.elim
  · exact q.elim
/-- dict(x): of a dict, of a list of pairs -/
def mergeD (ks : List Key) (ds : List D) : List (Key × D) → List Key × List D
  | [] => (ks, ds)
  | (k, d) :: r => mergeD (putKs ks k) (putVs ks ds k d) r
def pairsD : List D → Option (List (Key × D))
  | [] => some []
  | .tup [a, b] :: r => match keyD a, pairsD r with
    | some k, some ps => some ((k, b) :: ps)
    | _, _ => none
  | _ :: _ => none
def dictD (mu : Bool) (ds : List D) (S : Sto) : R D := match ds with
  | [x] => match dicOf x S with
    | some p => nwD mu p.1 p.2 S
    | none => match lstOf x S with
      | some ds => match pairsD ds with
        | some ps => nwD mu (mergeD [] [] ps).1 (mergeD [] [] ps).2 S
        | none => .bad
      | none => .bad
  | _ => .bad
theorem merge_run {m : Mp} {H : Hp} : ∀ {ps : List (Key × D)} {qs : List (Key × V)} {kvs : List (Key × V)} {ds : List D}, ps.map (·.1) = qs.map (·.1) → RVs g m H (ps.map (·.2)) (qs.map (·.2)) → RVs g m H ds (kvs.map (·.2)) →
    (mergeK kvs qs).map (·.1) = (mergeD (kvs.map (·.1)) ds ps).1 ∧ RVs g m H (mergeD (kvs.map (·.1)) ds ps).2 ((mergeK kvs qs).map (·.2))
  | [], [], kvs, ds, _, _, h => ⟨rfl, h⟩
  | [], _ :: _, kvs, ds, e, _, h => by simp at e
  | _ :: _, [], kvs, ds, e, _, h => by simp at e
  | (k, d) :: ps, (k', v) :: qs, kvs, ds, e, h1, h => by
    simp only [List.map_cons, List.cons.injEq] at e
    obtain ⟨e0, e1⟩ := e
    have e0' : k = k' := e0
    subst e0'
    obtain ⟨v', r, e2, h2, h3⟩ := h1.cons_iff
    simp only [List.map_cons, List.cons.injEq] at e2
    obtain ⟨rfl, rfl⟩ := e2
    obtain ⟨p1, p2⟩ := put_run (k := k) h h2
    have := merge_run (kvs := putK kvs k v) e1 h3 p2
    rw [p1] at this
    exact this
theorem pairs_run {m : Mp} {H : Hp} : ∀ {ds : List D} {vs : List V} {ps : List (Key × D)}, RVs g m H ds vs → pairsD ds = some ps →
    ∃ (as : List Addr) (qs : List (Key × V)), vs = as.map V.ref ∧ Paired (fun p kv => SqT g.K H p [kV kv.1, kv.2]) as qs ∧ ps.map (·.1) = qs.map (·.1) ∧ RVs g m H (ps.map (·.2)) (qs.map (·.2))
  | [], vs, ps, h, e => by cases e; exact ⟨[], [], h.nil_iff, .nil, rfl, .nil⟩
  | d :: ds, vs, ps, h, e => by
    obtain ⟨v, r, rfl, h1, h2⟩ := h.cons_iff
    cases d with
    | tup xs =>
      match xs, h1, e with
      | [a, b], h1, e =>
        simp only [pairsD] at e
        split at e
        · rename_i k ps' e1 e2
          cases e
          obtain ⟨ad, ws, rfl, s1, v1⟩ := of_tup h1
          obtain ⟨x, y, rfl, hx, hy⟩ := rvs2 v1
          obtain ⟨as, qs, rfl, q1, q2, q3⟩ := pairs_run h2 e2
          have := key_run hx e1
          subst this
          exact ⟨ad :: as, (k, y) :: qs, rfl, .cons s1 q1, by simp [q2], .cons hy q3⟩
        · cases e
      | [], _, e => simp [pairsD] at e
      | [_], _, e => simp [pairsD] at e
      | _ :: _ :: _ :: _, _, e => simp [pairsD] at e
    | _ => simp [pairsD] at e
theorem cd_dict {mu : Bool} (hK : X.K = g.K) (hc : X.calm = true) : CallR X (.type "dict") (rDs g E (dictD mu)) := by
  intro pins s σ H xs us Q I r h
  obtain ⟨m, S, ds, rl, h1, q⟩ := h
  unfold dictD at q
  split at q
  · split at q
    · rename_i p ep
      obtain ⟨v, rfl, h2⟩ := rvs1 h1
      obtain ⟨a, kvs, rfl, hr, e1, e2⟩ := dic_run rl h2 ep
      refine call_dictD pins s σ H _ us Q I r ⟨a, kvs, rfl, hr, fun p' hp => ?_⟩
      exact nwD_run q rl e1 e2 hp
    · split at q
      · rename_i ds ed
        split at q
        · rename_i ps eps
          obtain ⟨v, rfl, h2⟩ := rvs1 h1
          obtain ⟨a, vs, rfl, hs, e2⟩ := lst_run rl h2 ed
          obtain ⟨as, qs, rfl, q1, q2, q3⟩ := pairs_run e2 eps
          obtain ⟨p1, p2⟩ := merge_run (kvs := []) (ds := []) q2 q3 .nil
          refine call_dictP hc pins s σ H _ us Q I r ⟨a, as, qs, rfl, by rw [hK]; exact hs, by rw [hK]; exact q1, fun p' hp => ?_⟩
          exact nwD_run q rl p1 p2 hp
        · exact q.elim
      · exact q.elim
  · exact q.elim
end
end VL

namespace VL
open PySem PySem.Spec PyProof.Rows L2
section
variable {X : Cx} {g : G} {E : XD} {o e f : Expr} {apos cpos pos : Pos} {eo ea eb : Lc → Sto → R D}
/-! d.get -/
def getD2 (x y z : D) (S : Sto) : R D := match dicOf x S with
  | some p => match keyD y with
    | some k => .ok ((lookK p.1 p.2 k).getD z) S
    | none => .bad
  | none => .bad
def eGet1 (eo ea : Lc → Sto → R D) : Lc → Sto → R D := fun L S => (eo L S).bind fun x S1 => if (dicOf x S1).isSome = true then (ea L S1).bind fun y S2 => getD2 x y .non S2 else .bad
def eGet2 (eo ea eb : Lc → Sto → R D) : Lc → Sto → R D := fun L S => (eo L S).bind fun x S1 => if (dicOf x S1).isSome = true then (ea L S1).bind fun y S2 => (eb L S2).bind fun z S3 => getD2 x y z S3 else .bad
theorem isD_run {m : Mp} {S : Sto} {H : Hp} (r : Rel g m S H) {d : D} {v : V} (rv : RV g m H d v) (h : (dicOf d S).isSome = true) : ∃ a, v = .ref a ∧ IsD H a := by
  cases e : dicOf d S with
  | none => rw [e] at h; cases h
  | some p =>
    obtain ⟨a, kvs, rfl, hr, _⟩ := dic_run r rv e
    exact ⟨a, rfl, .inl ⟨kvs, hr⟩⟩
theorem get_run {m : Mp} {S : Sto} {H : Hp} {x y z : D} {a : Addr} {vy vz : V} {Q : VK} (r : Rel g m S H) (hx : RV g m H x (.ref a)) (hy : RV g m H y vy) (hz : RV g m H z vz) (q : Aft g E m H (getD2 x y z S) (vQ g Q)) : ∃ o, DGet H a vy o ∧ Q (o.getD vz) H := by
  unfold getD2 at q
  split at q
  · rename_i p ep
    split at q
    · rename_i k ek
      obtain ⟨a', kvs, e0, hr, e1, e2⟩ := dic_run r hx ep
      cases e0
      obtain ⟨l1, l2⟩ := look_run e2 k
      refine ⟨valV kvs k, .inl ⟨kvs, k, hr, key_run hy ek, rfl⟩, ?_⟩
      rw [e1] at l1 l2
      cases el : lookK p.1 p.2 k with
      | none => rw [l2 el]; rw [el] at q; exact q.ok r _ hz
      | some d => obtain ⟨v, v1, v2⟩ := l1 d el; rw [v1]; rw [el] at q; exact q.ok r _ v2
    · exact q.elim
  · exact q.elim
theorem de_get1 (hu : X.A.units + 64 < cLine) (ho : PE X o (tD g E eo)) (he : PE X e (tD g E ea)) (m : M1 X o "get" apos e cpos) : PE X (.Call (.Attribute o "get" apos) [e] [] cpos) (tD g E (eGet1 eo ea)) := by
  refine (pe_dget1 (by omega) ho he m).imp fun σ H Q h => ?_
  obtain ⟨m, S, L, r, l, q⟩ := h
  refine ⟨m, S, L, r, l, (Aft.bind q).mono fun x m1 S1 H1 e1 r1 q1 v rv => ?_⟩
  split at q1
  · rename_i hd
    obtain ⟨a, rfl, ia⟩ := isD_run r1 rv hd
    refine ⟨a, rfl, ia, m1, S1, L, r1, l.ext e1, (Aft.bind q1).mono fun y m2 S2 H2 e2 r2 q2 vy ry => ?_⟩
    exact get_run r2 (rv.ext e2) ry rv_non q2
  · exact q1.elim
theorem de_get2 (hu : X.A.units + 64 < cLine) (ho : PE X o (tD g E eo)) (he : PE X e (tD g E ea)) (hf : PE X f (tD g E eb)) (m : M2 X o "get" apos e f cpos) : PE X (.Call (.Attribute o "get" apos) [e, f] [] cpos) (tD g E (eGet2 eo ea eb)) := by
  refine (pe_dget2 (by omega) ho he hf m).imp fun σ H Q h => ?_
  obtain ⟨m, S, L, r, l, q⟩ := h
  refine ⟨m, S, L, r, l, (Aft.bind q).mono fun x m1 S1 H1 e1 r1 q1 v rv => ?_⟩
  split at q1
  · rename_i hd
    obtain ⟨a, rfl, ia⟩ := isD_run r1 rv hd
    refine ⟨a, rfl, ia, m1, S1, L, r1, l.ext e1, (Aft.bind q1).mono fun y m2 S2 H2 e2 r2 q2 vy ry => ?_⟩
    refine ⟨m2, S2, L, r2, l.ext (e1.trans e2), (Aft.bind q2).mono fun z m3 S3 H3 e3 r3 q3 vz rz => ?_⟩
    exact get_run r3 (rv.ext (e2.trans e3)) (ry.ext e3) rz q3
  · exact q1.elim
/-! d.pop(k, x) -/
def ePop2 (eo ea eb : Lc → Sto → R D) : Lc → Sto → R D := fun L S => (eo L S).bind fun x S1 => if (dicOf x S1).isSome = true then (ea L S1).bind fun y S2 => (eb L S2).bind fun z S3 => match x with
  | .ref n => match S3[n]? with
    | some (.dic ks ds) => match keyD y with
      | some k => match lookK ks ds k with
        | some d => .ok d (S3.set n (.dic (dropKs ks k) (dropVs ks ds k)))
        | none => .ok z S3
      | none => .bad
    | _ => .bad
  | _ => .bad
  else .bad
theorem de_pop2 (ho : PE X o (tD g E eo)) (he : PE X e (tD g E ea)) (hf : PE X f (tD g E eb)) (m : M2 X o "pop" apos e f cpos) : PE X (.Call (.Attribute o "pop" apos) [e, f] [] cpos) (tD g E (ePop2 eo ea eb)) := by
  refine (pe_dpop2 ho he hf m).imp fun σ H Q h => ?_
  obtain ⟨m, S, L, r, l, q⟩ := h
  refine ⟨m, S, L, r, l, (Aft.bind q).mono fun x m1 S1 H1 e1 r1 q1 v rv => ?_⟩
  split at q1
  · rename_i hd
    obtain ⟨a, rfl, ia⟩ := isD_run r1 rv hd
    refine ⟨a, rfl, ia, m1, S1, L, r1, l.ext e1, (Aft.bind q1).mono fun y m2 S2 H2 e2 r2 q2 vy ry => ?_⟩
    refine ⟨m2, S2, L, r2, l.ext (e1.trans e2), (Aft.bind q2).mono fun z m3 S3 H3 e3 r3 q3 vz rz => ?_⟩
    split at q3
    · rename_i n
      split at q3
      · rename_i ks ds e0
        split at q3
        · rename_i k ek
          obtain ⟨a', ob, ea, ha, b1, kvs, rfl, b2, b3⟩ := r3.at (rv.ext (e2.trans e3)) e0 (by intro z; cases z)
          cases ea
          obtain ⟨l1, l2⟩ := look_run b3 k
          rw [b2] at l1 l2
          refine ⟨kvs, k, b1, key_run (ry.ext e3) ek, fun w hw => ?_, fun hw => ?_⟩
          · split at q3
            · rename_i d el
              obtain ⟨w', w1, w2⟩ := l1 d el
              rw [hw] at w1; cases w1
              obtain ⟨p1, p2⟩ := drop_run (k := k) b3
              rw [b2] at p1 p2
              exact q3.at (ext_set r3 ha e0) (r3.set (ob' := .dic (dropKs ks k) (dropVs ks ds k)) ha e0 ⟨_, rfl, p1, p2⟩) _ (w2.ext (ext_set r3 ha e0))
            · rename_i el
              rw [l2 el] at hw; cases hw
          · split at q3
            · rename_i d el
              obtain ⟨w', w1, w2⟩ := l1 d el
              rw [hw] at w1; cases w1
            · exact q3.ok r3 _ rz
        · exact q3.elim
      · exact q3.elim
    · exact q3.elim
  · exact q1.elim
/-! a written dict -/
abbrev EF := Lc → Sto → R D
def prsD : List (EF × EF) → Lc → Sto → R (List (D × D))
  | [] => fun _ S => .ok [] S
  | (a, b) :: r => fun L S => (a L S).bind fun x S1 => (b L S1).bind fun y S2 => (prsD r L S2).bind fun ps S3 => .ok ((x, y) :: ps) S3
def keysP : List (D × D) → Option (List (Key × D))
  | [] => some []
  | (a, b) :: r => match keyD a, keysP r with
    | some k, some ps => some ((k, b) :: ps)
    | _, _ => none
def eDisp (mu : Bool) (ps : List (EF × EF)) : EF := fun L S => (prsD ps L S).calm.bind fun kds S2 => match keysP kds with
  | some kps => if kps.length ≤ 15 then nwD mu (mergeD [] [] kps).1 (mergeD [] [] kps).2 S2 else .bad
  | none => .bad
inductive RP (g : G) (m : Mp) (H : Hp) : List (D × D) → List (V × V) → Prop
  | nil : RP g m H [] []
  | cons {a b : D} {x y : V} {r : List (D × D)} {t : List (V × V)} : RV g m H a x → RV g m H b y → RP g m H r t → RP g m H ((a, b) :: r) ((x, y) :: t)
theorem prs_run : ∀ {ps : List (EF × EF)} {σ : St} {H : Hp} {m : Mp} {S : Sto} {L : Lc} {Q : List (V × V) → Hp → Prop}, Rel g m S H → RL g m H L σ →
    Aft g E m H (prsD ps L S) (fun kds m' S' H' => ∀ vvs, RP g m' H' kds vvs → Q vvs H') → tPairs (ps.map fun p => (tD g E p.1, tD g E p.2)) σ H Q
  | [], σ, H, m, S, L, Q, r, l, q => q.ok r [] .nil
  | (a, b) :: ps, σ, H, m, S, L, Q, r, l, q => by
    refine ⟨m, S, L, r, l, (Aft.bind q).mono fun x m1 S1 H1 e1 r1 q1 v rv => ?_⟩
    refine ⟨m1, S1, L, r1, l.ext e1, (Aft.bind q1).mono fun y m2 S2 H2 e2 r2 q2 w rw' => ?_⟩
    refine prs_run r2 (l.ext (e1.trans e2)) ((Aft.bind q2).mono fun kds m3 S3 H3 e3 r3 q3 vvs hv => ?_)
    exact q3.ok r3 _ (.cons (rv.ext (e2.trans e3)) (rw'.ext e3) hv)
theorem keysP_run {m : Mp} {H : Hp} : ∀ {kds : List (D × D)} {vvs : List (V × V)} {kps : List (Key × D)}, RP g m H kds vvs → keysP kds = some kps →
    ∃ qs : List (Key × V), vvs = qs.map (fun kv => (kV kv.1, kv.2)) ∧ kps.map (·.1) = qs.map (·.1) ∧ RVs g m H (kps.map (·.2)) (qs.map (·.2))
  | _, _, kps, .nil, e => by cases e; exact ⟨[], rfl, rfl, .nil⟩
  | _, _, kps, .cons h1 h2 h3, e => by
    simp only [keysP] at e
    split at e
    · rename_i k ps e1 e2
      cases e
      obtain ⟨qs, rfl, q1, q2⟩ := keysP_run h3 e2
      have := key_run h1 e1
      subst this
      exact ⟨(k, _) :: qs, rfl, by simp [q1], .cons h2 q2⟩
    · cases e
theorem keysP_len : ∀ {kds : List (D × D)} {kps : List (Key × D)}, keysP kds = some kps → kps.length = kds.length
  | [], _, e => by cases e; rfl
  | (a, b) :: r, kps, e => by
    simp only [keysP] at e
    split at e
    · rename_i e2
      cases e
      simp [keysP_len e2]
    · cases e
/-- what was in the making is told at last -/
theorem mk_dic {mu : Bool} {m1 m' : Mp} {S1 S' : Sto} {H1 H' : Hp} {p : Addr} {kvs kvs' : List (Key × V)} {ks : List Key} {ds : List D} {Q : VK} (k : Mk1 g m1 H1 p (.dK kvs) m' S' H') (r1 : Rel g m1 S1 H1) (hp : H1 p = none) (hk : kvs'.map (·.1) = ks) (rv : RVs g m' H' ds (kvs'.map (·.2)))
    (q : Aft g E m1 H1 (nwD mu ks ds S') (vQ g Q)) : Q (.ref p) (upd H' p (.dK kvs')) := by
  obtain ⟨e7, k7⟩ := k.step (o' := .dK kvs') hp
  obtain ⟨hw, he, hr, hu⟩ := k7.done r1 hp
  have rv2 := (rv.extw e7).extw hw
  unfold nwD at q
  split at q
  · obtain ⟨_, he2, hr2, hl2⟩ := k7.toSto (ob := .dic ks ds) r1 hp ⟨kvs', rfl, hk, rv.extw e7⟩
    exact q.at he2 hr2 _ (rv_ref hl2)
  · exact q.at he hr _ (rv_dic (.of upd_same) hu hk rv2)
theorem de_disp {mu : Bool} {ps : List (EF × EF)} {keys : List (Option Expr)} {values : List Expr} (h : PPs X pos keys values (ps.map fun p => (tD g NoX p.1, tD g NoX p.2))) (hall : keys.all (·.isSome) = true) (hl : keys.length = values.length) (h0 : keys ≠ []) (h15 : keys.length ≤ 15) :
    PE X (.Dict keys values pos) (tD g E (eDisp mu ps)) := by
  refine (pe_disp h hall hl h0 h15).imp fun σ H Q h => ?_
  obtain ⟨m, S, L, r, l, q⟩ := h
  intro p hp
  have mk := Mk1.start (o := .dK []) r hp
  refine prs_run mk.r (l.extw mk.ex) ((Aft.calmA q (m.hold p) _).mono fun kds m2 S2 H2 e2 r2 q2 vvs hv => ?_)
  have mk2 := mk.on e2 r2
  split at q2
  · rename_i kps ek
    split at q2
    · rename_i hz
      obtain ⟨qs, rfl, q1, q3⟩ := keysP_run hv ek
      obtain ⟨p1, p2⟩ := merge_run (kvs := []) (ds := []) q1 q3 .nil
      have hlen : qs.length ≤ 15 := by
        have h1 : kps.length = qs.length := by have := congrArg List.length q1; simpa using this
        omega
      exact ⟨mk2.at_, qs, rfl, hlen, mk_dic mk2 r hp p1 p2 q2⟩
    · exact q2.elim
  · exact q2.elim
/-! methods of built-in things -/
def rM (g : G) (E : XD) (f : D → List D → Sto → R D) : V → List V → Hp → VK → Prop := fun x xs H Q => ∃ m S d ds, Rel g m S H ∧ RV g m H d x ∧ RVs g m H ds xs ∧ Aft g E m H (f d ds S) (vQ g Q)
def eM (ty : D → Sto → Bool) (f : D → List D → Sto → R D) (eo : EF) (a : Lc → Sto → R (List D)) : EF := fun L S => (eo L S).bind fun x S1 => if ty x S1 = true then (a L S1).bind fun ds S2 => f x ds S2 else .bad
def TyD (X : Cx) (g : G) (T : String) (ty : D → Sto → Bool) : Prop := ∀ (pins : List (Addr × Obj)) (σ : St) (H : Hp) (s : Shared) (m : Mp) (S : Sto) (d : D) (x : V) (v : Value), Inv X pins σ H s → Rel g m S H → RV g m H d x → RelV x v → ty d S = true →
  s.TypeIs v T ∧ ∀ a, v = .ref a → ∃ ob, s.heap.get? a = some ob ∧ ob.dict = none
theorem de_m {T id : String} {name : Str} {ty : D → Sto → Bool} {f : D → List D → Sto → R D} {es : List Expr} {a : Lc → Sto → R (List D)} (ht : TyD X g T ty) (pa : PlainAttrs T) (slot : Slot T name id) (hty : typeOf (.builtin id) = pure (.type "method_descriptor")) (hm : MtR X id (rM g E f)) (ho : PE X o (tD g E eo)) (ha : PA X (e :: es) (tL g E a))
    (hbase : attributeBase o name X.env (eval o X.env) = eval o X.env := by rfl)
    (hfew : ((backTo cpos (starEach (e :: es) X.env)).all (fun x => !x.1) && (backToKw cpos (keywordEach [] X.env)).all (fun x => x.1.isSome)
      && decide ((e :: es).length + ([] : List Keyword).length + (if ([] : List Keyword).isEmpty then 0 else 1) < 30)) = true := by rfl)
    (hline : (apos.endLine == cpos.line) = true := by rfl) (hs : starEach (e :: es) X.env = (false, eval e X.env) :: starEach es X.env := by rfl) (hplain : (backTo cpos (starEach es X.env)).any (·.1) = false := by rfl) :
    PE X (.Call (.Attribute o name apos) (e :: es) [] cpos) (tD g E (eM ty f eo a)) := by
  have tk : TyOk X T (fun x H => ∃ m S d, Rel g m S H ∧ RV g m H d x ∧ ty d S = true) := fun pins σ H s x v I rx ⟨m, S, d, r, rv, t⟩ => ht pins σ H s m S d x v I r rv rx t
  refine (pe_mG tk pa slot hty hm ho ha hbase hfew hline hs hplain).imp fun σ H Q h => ?_
  obtain ⟨m, S, L, r, l, q⟩ := h
  refine ⟨m, S, L, r, l, (Aft.bind q).mono fun d m1 S1 H1 e1 r1 q1 v rv => ?_⟩
  split at q1
  · rename_i ht
    refine ⟨⟨m1, S1, d, r1, rv, ht⟩, m1, S1, L, r1, l.ext e1, (Aft.bind q1).mono fun ds m2 S2 H2 e2 r2 q2 vs rvs => ?_⟩
    exact ⟨m2, S2, d, ds, r2, rv.ext e2, rvs, q2⟩
  · exact q1.elim
end
end VL

/-! walks over a dict: it is locked meanwhile; one by value stays locked -/
namespace VL
open PySem PySem.Spec PyProof.Rows L2
inductive DW where
  | keys | vals | items
def DW.ds : DW → List Key → List D → List D
  | .keys, ks, _ => ks.map keyV
  | .vals, _, vs => vs
  | .items, ks, vs => List.zipWith (fun k v => .tup [keyV k, v]) ks vs
def DW.it : DW → Addr → Obj → List (Key × V) → It
  | .keys, a, o, kvs => Itk a o kvs
  | .vals, a, o, kvs => Itd a o kvs
  | .items, a, o, kvs => Iti a o kvs
def wkA (wk : DW) (d : D) (S : Sto) : R Wk := match d with
  | .dic ks vs => .ok ⟨wk.ds ks vs, fun _ => true⟩ S
  | d => match wk with
    | .keys => wkOf d S
    | _ => .bad
def wAk (wk : DW) (ea : EF) : Lc → Sto → R Wk := fun L S => (ea L S).bind fun d S1 => wkA wk d S1
def isSD (d : D) (S : Sto) : Option (Nat × List Key × List D) := match d with
  | .ref n => match S[n]? with
    | some (.dic ks vs) => some (n, ks, vs)
    | _ => none
  | _ => none
def unlk (n : Nat) (S : Sto) : R Unit := match S[n]? with
  | some (.dlk ks vs) => .ok () (S.set n (.dic ks vs))
  | _ => .bad
section
variable {X : Cx} {g : G} {E : XD}
def NF (X : Cx) (a : Addr) : Prop := ∀ o' u', X.H_0 a ≠ some (.frz o' u')
theorem get_zip {ks : List Key} {vs : List D} {i : Nat} : (List.zipWith (fun k v => D.tup [keyV k, v]) ks vs)[i]? = match ks[i]?, vs[i]? with
  | some k, some v => some (.tup [keyV k, v])
  | _, _ => none := by
  rw [List.getElem?_zipWith]
  cases ks[i]? <;> cases vs[i]? <;> rfl
theorem jd_U (wk : DW) {m1 : Mp} {Hl : Hp} {a : Addr} {od : Obj} {ks : List Key} {vs : List D} {kvs : List (Key × V)} (hl : ∀ m H, Exk m1 Hl m H → H a = some (.frz od (.dK kvs))) (h1 : kvs.map (·.1) = ks) (h2 : RVs g m1 Hl vs (kvs.map (·.2))) :
    JD g (wk.it a od kvs) ⟨wk.ds ks vs, fun _ => true⟩ m1 Hl := by
  intro i m S H e r _
  have hH : H a = some (.frz od (.dK kvs)) := hl m H e
  have hvl : vs.length = kvs.length := by have := h2.length; simpa using this.symm
  have hkl : ks.length = kvs.length := by rw [← h1]; simp
  have hlen : (wk.ds ks vs).length = kvs.length := by
    cases wk with
    | keys => simp [DW.ds, hkl]
    | vals => simp [DW.ds, hvl]
    | items => simp [DW.ds, List.length_zipWith, hkl, hvl]
  refine ⟨fun z => ?_, fun d hd => ?_⟩
  · have : kvs.length ≤ i := by rw [← hlen]; exact List.getElem?_eq_none_iff.mp z
    cases wk <;> exact ⟨hH, this⟩
  · have hi : i < kvs.length := by rw [← hlen]; exact (List.getElem?_eq_some_iff.mp hd).1
    have ek : kvs[i]? = some kvs[i] := List.getElem?_eq_getElem hi
    have eks : ks[i]? = some (kvs[i]).1 := by rw [← h1, List.getElem?_map, ek]; rfl
    have evs : (kvs.map (·.2))[i]? = some (kvs[i]).2 := by rw [List.getElem?_map, ek]; rfl
    cases wk with
    | keys =>
      refine ⟨⟨hH, hi⟩, fun x H' y => ?_⟩
      obtain ⟨rfl, k, v, e1, rfl⟩ := y
      rw [ek] at e1
      have hd' : (ks.map keyV)[i]? = some d := hd
      rw [List.getElem?_map, eks] at hd'
      cases hd'
      have e1' := Option.some.inj e1
      rw [e1']
      exact ⟨.refl, r, keyV_run _⟩
    | vals =>
      refine ⟨⟨hH, hi⟩, fun x H' y => ?_⟩
      obtain ⟨rfl, k, e1⟩ := y
      have hd' : vs[i]? = some d := hd
      obtain ⟨w, w1, w2⟩ := h2.get hd'
      rw [evs] at w1
      rw [ek] at e1
      have e1' := Option.some.inj e1
      rw [e1'] at w1
      cases w1
      exact ⟨.refl, r, w2.extw e.toExw⟩
    | items =>
      refine ⟨⟨hH, hi⟩, fun x H' y => ?_⟩
      obtain ⟨T, k, v, e1, rfl, hT, rfl⟩ := y
      have hd' : (List.zipWith (fun k v => D.tup [keyV k, v]) ks vs)[i]? = some d := hd
      have hiv : i < vs.length := by omega
      have evd : vs[i]? = some vs[i] := List.getElem?_eq_getElem hiv
      rw [get_zip, eks, evd] at hd'
      cases hd'
      obtain ⟨w, w1, w2⟩ := h2.get evd
      rw [evs] at w1
      rw [ek] at e1
      have e1' := Option.some.inj e1
      rw [e1'] at w1 ⊢
      cases w1
      exact ⟨ext_lay r hT, r.lay hT, rv_tupv (.inl ⟨upd_same, r.un hT⟩) (.cons (keyV_run k) (.cons ((w2.extw e.toExw).ext (ext_lay r hT)) .nil))⟩
/-! a dict by value: locked for ever -/
theorem ext_lockv {m : Mp} {H : Hp} {a : Addr} {od : Obj} {kvs : List (Key × V)} {S : Sto} (r : Rel g m S H) (h : H a = some (.dK kvs)) (u : Un m a) : Ext g m H m (upd H a (.frz od (.dK kvs))) ∧ Rel g m S (upd H a (.frz od (.dK kvs))) := by
  have e : Ext g m H m (upd H a (.frz od (.dK kvs))) := by
    refine .of ⟨fun n b f h => ⟨f, h, fun z => z⟩, fun b o hb un => ⟨un, ?_⟩⟩ rfl (fun b hb => ?_) rfl (fun x hx => ?_)
    · by_cases z : b = a
      · subst z
        rw [h] at hb; cases hb
        exact .inr ⟨trivial, od, upd_same⟩
      · exact .inl (by rw [upd_ne z]; exact hb)
    · rw [upd_ne]; rintro rfl; exact u.2 hb
    · rw [upd_ne]; intro z; exact u.1 x.1 (by rw [(r.lks x hx).1, z])
  refine ⟨e, r.len, r.inj, fun n b ob h1 h2 => ?_, r.gone, fun b hb => ?_, r.lks, g.st e.toExw r.inv⟩
  · obtain ⟨o, e1, e2⟩ := r.ob n b ob h1 h2
    refine ⟨o, ?_, e2.ext e⟩
    rw [upd_ne]
    · exact e1
    · rintro rfl
      exact u.1 n h1
  · obtain ⟨⟨o, e1⟩, e2⟩ := r.prv b hb
    refine ⟨⟨o, ?_⟩, e2⟩
    rw [upd_ne]
    · exact e1
    · rintro rfl
      exact u.2 hb
theorem PE.lockedV {e : Expr} {ea : EF} (he : PE X e (tD g E ea)) (wk : DW) {pins : List (Addr × Obj)} {s : Shared} {σ : St} {H : Hp} {Q : It → Hp → Prop} {m : Mp} {S S' : Sto} {L : Lc} {ks : List Key} {vs : List D} (I : Inv X pins σ H s) (r : Rel g m S H) (l : RL g m H L σ) (hr : ea L S = .ok (.dic ks vs) S')
    (q : Aft g E m H (.ok (⟨wk.ds ks vs, fun _ => true⟩ : Wk) S') fun W m' _ H' => ∀ J, JD g J W m' H' → Q J H') :
    wpAny (model X.prog X.w) X.A (eval e X.env) (fun u s1 => ∃ d o kvs H1, u = .ref d ∧ Inv X pins σ H1 s1 ∧ H1 d = some (.frz o (.dK kvs)) ∧ Q (wk.it d o kvs) H1) X.xe s := by
  refine thn (he.run pins s σ H (fun v H1 => ∃ m1 : Mp, Ext g m H m1 H1 ∧ Rel g m1 S' H1 ∧ RV g m1 H1 (.dic ks vs) v) I ⟨m, S, L, r, l, by rw [hr]; exact fun m' H' e' r' v rv => ⟨m', e', r', rv⟩⟩) fun u s1 hu => ?_
  obtain ⟨v, H1, I1, ru, m1, e1, r1, rv⟩ := hu
  obtain ⟨a, kvs, rfl, h1, u1, h2, h3⟩ := of_dic rv
  cases ru
  rcases h1 with h1 | ⟨od, h1⟩
  · obtain ⟨od, I2⟩ := I1.lock h1 (by trivial)
    obtain ⟨ex, r2⟩ := ext_lockv (od := od) r1 h1 u1
    refine ⟨a, od, kvs, _, rfl, I2, upd_same, q.at (e1.trans ex) r2 _ (jd_U wk (fun m' H' e' => ?_) h2 (h3.ext ex))⟩
    exact (e'.own a _ upd_same u1).2.of fun z => z
  · refine ⟨a, od, kvs, _, rfl, I1, h1, q.at e1 r1 _ (jd_U wk (fun m' H' e' => ?_) h2 h3)⟩
    exact (e'.own a _ h1 u1).2.of fun z => z
/-! a dict of the store -/
def tIU (X : Cx) (g : G) (E : XD) (wk : DW) (ea : EF) : TI := fun σ H Q => ∃ m S L, Rel g m S H ∧ RL g m H L σ ∧ Aft g E m H (ea L S) fun d m1 S1 H1 => ∃ n a ks vs kvs, d = .ref n ∧ m1.l[n]? = some (a, true) ∧ S1[n]? = some (.dic ks vs) ∧ H1 a = some (.dK kvs) ∧ kvs.map (·.1) = ks ∧ RVs g m1 H1 vs (kvs.map (·.2)) ∧
  ∀ od, NF X a → ∀ J, JD g J ⟨wk.ds ks vs, fun _ => true⟩ ⟨m1.l, m1.o, (n, a) :: m1.k⟩ (upd H1 a (.frz od (.dK kvs))) → Q J (upd H1 a (.frz od (.dK kvs)))
structure Lk1 (g : G) (m1 : Mp) (H1 : Hp) (n : Nat) (a : Addr) (od : Obj) (kvs : List (Key × V)) (m' : Mp) (S' : Sto) (H' : Hp) : Prop where
  ex : Exw m1 H1 m' H'
  po : m'.o = m1.o
  kp : ∀ b ∈ m1.o, H' b = H1 b
  pk : m'.k = (n, a) :: m1.k
  kk : ∀ x ∈ m1.k, H' x.2 = H1 x.2
  at_ : H' a = some (.frz od (.dK kvs))
  r : Rel g m' S' H'
theorem exw_own1 {m : Mp} {H : Hp} {n : Nat} {a : Addr} {o : HO} {k : List (Nat × Addr)} (h : m.l[n]? = some (a, true)) : Exw m H ⟨m.l, m.o, k⟩ (upd H a o) :=
  ⟨fun n b f h => ⟨f, h, fun z => z⟩, fun b u hb un => ⟨un, .inl (by rw [upd_ne]; exact hb; rintro rfl; exact un.1 n h)⟩⟩
theorem Lk1.start {m1 : Mp} {S1 : Sto} {H1 : Hp} {n : Nat} {a : Addr} {od : Obj} {kvs : List (Key × V)} {ks : List Key} {vs : List D} (r1 : Rel g m1 S1 H1) (ha : m1.l[n]? = some (a, true)) (e0 : S1[n]? = some (.dic ks vs)) (hH : H1 a = some (.dK kvs)) (hk : kvs.map (·.1) = ks) (hv : RVs g m1 H1 vs (kvs.map (·.2))) :
    Lk1 g m1 H1 n a od kvs ⟨m1.l, m1.o, (n, a) :: m1.k⟩ (S1.set n (.dlk ks vs)) (upd H1 a (.frz od (.dK kvs))) := by
  have ew : Exw m1 H1 ⟨m1.l, m1.o, (n, a) :: m1.k⟩ (upd H1 a (.frz od (.dK kvs))) := exw_own1 ha
  have es : Ext g m1 H1 m1 (upd H1 a (.frz od (.dK kvs))) := ext_set r1 ha e0
  have rs : Rel g m1 (S1.set n (.dlk ks vs)) (upd H1 a (.frz od (.dK kvs))) := r1.set (ob' := .dlk ks vs) ha e0 ⟨od, kvs, rfl, hk, hv⟩
  have en : Exw m1 (upd H1 a (.frz od (.dK kvs))) ⟨m1.l, m1.o, (n, a) :: m1.k⟩ (upd H1 a (.frz od (.dK kvs))) := ⟨fun n b f h => ⟨f, h, fun z => z⟩, fun b u hb un => ⟨un, .inl hb⟩⟩
  refine ⟨ew, rfl, es.keep, rfl, es.keepk, upd_same, ⟨rs.len, rs.inj, fun k b ob h1 h2 => ?_, rs.gone, rs.prv, fun x hx => ?_, g.st en rs.inv⟩⟩
  · obtain ⟨o, e1, e2⟩ := rs.ob k b ob h1 h2
    exact ⟨o, e1, e2.extw en⟩
  · rcases List.mem_cons.mp hx with z | z
    · subst z
      exact ⟨ha, ks, vs, by rw [List.getElem?_set_self (List.getElem?_eq_some_iff.mp e0).1]⟩
    · exact rs.lks x z
theorem Lk1.on {m1 m' m2 : Mp} {S' S2 : Sto} {H1 H' H2 : Hp} {n : Nat} {a : Addr} {od : Obj} {kvs : List (Key × V)} (k : Lk1 g m1 H1 n a od kvs m' S' H') (e : Ext g m' H' m2 H2) (r : Rel g m2 S2 H2) : Lk1 g m1 H1 n a od kvs m2 S2 H2 :=
  ⟨k.ex.trans e.toExw, e.priv.trans k.po, fun b hb => (e.keep b (by rw [k.po]; exact hb)).trans (k.kp b hb), e.privk.trans k.pk, fun x hx => (e.keepk x (by rw [k.pk]; exact List.mem_cons_of_mem _ hx)).trans (k.kk x hx), (e.keepk (n, a) (by rw [k.pk]; exact List.mem_cons_self)).trans k.at_, r⟩
/-- free again -/
theorem Lk1.done {b : Type} {m1 m' : Mp} {S1 S' : Sto} {H1 H' : Hp} {n : Nat} {a : Addr} {od : Obj} {kvs : List (Key × V)} {k : Sto → R b} {Q : b → Mp → Sto → Hp → Prop} (lk : Lk1 g m1 H1 n a od kvs m' S' H') (r1 : Rel g m1 S1 H1) (ha : m1.l[n]? = some (a, true)) (h0 : H1 a = some (.dK kvs))
    (q : Aft g E m1 H1 ((unlk n S').bind fun _ S3 => k S3) Q) : ∃ m2 S3, Exw m' H' m2 (upd H' a (.dK kvs)) ∧ Rel g m2 S3 (upd H' a (.dK kvs)) ∧ Aft g E m2 (upd H' a (.dK kvs)) (k S3) Q := by
  unfold unlk at q
  split at q
  · rename_i ks vs e0
    have hl := lk.r.lks (n, a) (by rw [lk.pk]; exact List.mem_cons_self)
    have ha' : m'.l[n]? = some (a, true) := hl.1
    obtain ⟨o, e1, od', kvs', e2, e3, e4⟩ := lk.r.ob n a _ ha' e0
    rw [lk.at_] at e1
    cases e1
    cases e2
    have ew : Exw m' H' ⟨m'.l, m'.o, m1.k⟩ (upd H' a (.dK kvs)) := exw_own1 ha'
    have hno : ∀ x ∈ m1.k, x.1 ≠ n ∧ x.2 ≠ a := fun x hx => by
      have h5 : x.1 ≠ n := fun z => by
        obtain ⟨h6, ks', ds', h7⟩ := r1.lks x hx
        rw [z, ha] at h6
        obtain ⟨o, e1, od'', kvs'', e5, _⟩ := r1.ob n a _ ha (by rw [← z]; exact h7)
        rw [h0, e5] at e1
        cases e1
      refine ⟨h5, fun z => h5 (r1.inj x.1 n a ?_ ha)⟩
      rw [(r1.lks x hx).1, z]
    have ex : Ext g m1 H1 ⟨m'.l, m'.o, m1.k⟩ (upd H' a (.dK kvs)) := by
      refine .of (lk.ex.trans ew) lk.po (fun b hb => ?_) rfl (fun x hx => ?_)
      · rw [upd_ne]
        · exact lk.kp b hb
        · rintro rfl
          exact (r1.prv b hb).2 n ha
      · rw [upd_ne (hno x hx).2]
        exact lk.kk x hx
    have rr : Rel g ⟨m'.l, m'.o, m1.k⟩ (S'.set n (.dic ks vs)) (upd H' a (.dK kvs)) := by
      refine ⟨by simpa using lk.r.len, lk.r.inj, fun k b ob h1 h2 => ?_, fun k b h1 => ?_, fun b hb => ?_, fun x hx => ?_, g.st ew lk.r.inv⟩
      · by_cases hk : k = n
        · subst hk
          have h1' : m'.l[k]? = some (b, true) := h1
          rw [ha'] at h1'; cases h1'
          rw [List.getElem?_set_self (List.getElem?_eq_some_iff.mp e0).1] at h2
          cases h2
          exact ⟨_, upd_same, kvs, rfl, e3, e4.extw ew⟩
        · rw [List.getElem?_set_ne (Ne.symm hk)] at h2
          obtain ⟨o, f1, f2⟩ := lk.r.ob k b ob h1 h2
          refine ⟨o, ?_, f2.extw ew⟩
          rw [upd_ne]
          · exact f1
          · rintro rfl
            exact hk (lk.r.inj k n _ h1 ha')
      · have hk : k ≠ n := by rintro rfl; have h1' : m'.l[k]? = some (b, false) := h1; rw [ha'] at h1'; cases h1'
        rw [List.getElem?_set_ne (Ne.symm hk)]
        exact lk.r.gone k b h1
      · obtain ⟨⟨o, f1⟩, f2⟩ := lk.r.prv b hb
        refine ⟨⟨o, ?_⟩, f2⟩
        rw [upd_ne]
        · exact f1
        · rintro rfl
          exact f2 n ha'
      · obtain ⟨f1, ks', ds', f2⟩ := lk.r.lks x (by rw [lk.pk]; exact List.mem_cons_of_mem _ hx)
        exact ⟨f1, ks', ds', by rw [List.getElem?_set_ne (Ne.symm (hno x hx).1)]; exact f2⟩
    exact ⟨_, _, ew, rr, Aft.later (r := k _) q ex⟩
  · exact q.elim
theorem PE.locked {e : Expr} {ea : EF} (he : PE X e (tD g E ea)) (wk : DW) {pins : List (Addr × Obj)} {s : Shared} {σ : St} {H : Hp} {Q : It → Hp → Prop} (I : Inv X pins σ H s) (h : tIU X g E wk ea σ H Q) :
    wpAny (model X.prog X.w) X.A (eval e X.env) (fun u s1 => ∃ d o kvs H1, u = .ref d ∧ Inv X pins σ H1 s1 ∧ H1 d = some (.frz o (.dK kvs)) ∧ Q (wk.it d o kvs) H1) X.xe s := by
  obtain ⟨m, S, L, r, l, q⟩ := h
  refine thn (he.run pins s σ H (fun v H1 => ∃ (n : Nat) (a : Addr) (ks : List Key) (vs : List D) (kvs : List (Key × V)) (m1 : Mp) (S1 : Sto), v = .ref a ∧ Rel g m1 S1 H1 ∧ m1.l[n]? = some (a, true) ∧ S1[n]? = some (.dic ks vs) ∧ H1 a = some (.dK kvs) ∧ kvs.map (·.1) = ks ∧ RVs g m1 H1 vs (kvs.map (·.2)) ∧
      ∀ od, NF X a → ∀ J, JD g J ⟨wk.ds ks vs, fun _ => true⟩ ⟨m1.l, m1.o, (n, a) :: m1.k⟩ (upd H1 a (.frz od (.dK kvs))) → Q J (upd H1 a (.frz od (.dK kvs)))) I ⟨m, S, L, r, l, q.mono fun d m1 S1 H1 e1 r1 q1 v rv => ?_⟩) fun u s1 hu => ?_
  · obtain ⟨n, a, ks, vs, kvs, rfl, h1, h2, h3, h4, h5, h6⟩ := q1
    obtain ⟨a', b, rfl, h7⟩ := of_ref rv
    rw [h1] at h7; cases h7
    exact ⟨n, a, ks, vs, kvs, m1, S1, rfl, r1, h1, h2, h3, h4, h5, h6⟩
  · obtain ⟨v, H1, I1, ru, n, a, ks, vs, kvs, m1, S1, rfl, r1, h1, h2, h3, h4, h5, h6⟩ := hu
    cases ru
    obtain ⟨od, I2⟩ := I1.lock h3 (by trivial)
    have lk : Lk1 g m1 H1 n a od kvs _ _ _ := Lk1.start r1 h1 h2 h3 h4 h5
    exact ⟨a, od, kvs, _, rfl, I2, upd_same, h6 od (I1.nofrz h3 (by trivial)) _ (jd_U wk (fun m' H' e' => (e'.keepk (n, a) List.mem_cons_self).trans upd_same) h4 (h5.extw lk.ex))⟩
/-- what is walked: by value, or of the store -/
structure PIA (X : Cx) (g : G) (E : XD) (wk : DW) (tg iter : Expr) (ea : EF) : Prop where
  v : PI X tg iter (tI g E (wAk wk ea))
  u : PI X tg iter (tIU X g E wk ea)
theorem keys_end {tg : Expr} {pins : List (Addr × Obj)} {σ : St} {R : It → Hp → Prop} {u : Value} {s1 : Shared} (h : ∃ d o kvs H1, u = .ref d ∧ Inv X pins σ H1 s1 ∧ H1 d = some (.frz o (.dK kvs)) ∧ R (DW.keys.it d o kvs) H1) : wpAny (model X.prog X.w) X.A (pyIter u) (PIE X pins σ tg R) X.xe s1 := by
  obtain ⟨d, o, kvs, H1, eu, I1, hd, q⟩ := h
  subst eu
  obtain ⟨hs, hgd, hx, es, ep, vs, hdt, hsz, kv, hm⟩ := I1.frzK hd
  refine iter_keys hs hgd hx hdt (pi_one (tk := s1.toks) I1 _ (turn_keys _ hdt) ⟨_, Heap.get?_push_size _ rfl, rfl, ?_⟩ q)
  rw [hsz] <;> rfl
theorem dA_keys {tg e : Expr} {ea : EF} (hK : X.K = g.K) (he : PE X e (tD g E ea)) : PIA X g E .keys tg e ea := by
  refine ⟨⟨fun pins s σ H R I h => ?_⟩, ⟨fun pins s σ H R I h => ?_⟩⟩
  · obtain ⟨m, S, L, r, l, q⟩ := h
    by_cases hv : ∃ ks vs S', ea L S = .ok (.dic ks vs) S'
    · obtain ⟨ks, vs, S', hr⟩ := hv
      refine thn (PE.lockedV he .keys I r l hr (by unfold wAk at q; rw [hr] at q; exact q)) fun u s1 h1 => keys_end h1
    · refine (di_any hK he).run pins s σ H R I ⟨m, S, L, r, l, ?_⟩
      unfold wAk at q
      unfold wAny
      cases hr : ea L S with
      | ok d S' =>
        rw [hr] at q
        cases d with
        | dic ks vs => exact absurd ⟨ks, vs, S', hr⟩ hv
        | _ => exact q
      | exc c fs S' => rw [hr] at q; exact q
      | bad => rw [hr] at q; exact q
  · exact thn (PE.locked he .keys I h) fun u s1 h1 => keys_end h1
theorem items_end {elts : List Expr} {kk : Nat} {tpos apos cpos : Pos} {e : Expr} {pins : List (Addr × Obj)} {s : Shared} {σ : St} {R : It → Hp → Prop} (hbase : attributeBase e "items" X.env (eval e X.env) = eval e X.env) (hline : (apos.endLine == cpos.line) = true)
    (h : wpAny (model X.prog X.w) X.A (eval e X.env) (fun u s1 => ∃ d o kvs H1, u = .ref d ∧ Inv X pins σ H1 s1 ∧ H1 d = some (.frz o (.dK kvs)) ∧ R (DW.items.it d o kvs) H1) X.xe s) :
    wpAny (model X.prog X.w) X.A (eval (.Call (.Attribute e "items" apos) [] [] cpos) X.env) (fun itv s2 => wpAny (model X.prog X.w) X.A (pyIter itv) (PIE X pins σ (.Tuple elts kk tpos) R) X.xe s2) X.xe s := by
  refine wpAny_Call_method (T := "dict") (id := "dict.items") hbase rfl hline F.plainAttrs_dict F.slot_dict_items F.type_dict_items (thn h fun u s1 ⟨d, o, kvs, H1, eu, I1, hd, q⟩ => ?_)
  subst eu
  obtain ⟨hs, hgd, hx, es, ep, vs, hdt, hsz, kv, hm⟩ := I1.frzK hd
  have hl : kvs.length = vs.length := Paired.length kv
  refine ⟨hm.dictOf.typeIs, hm.dictOf.mapOf.noDict, ?_⟩
  have I2 : Inv X pins σ H1 { s1 with heap := s1.heap.push { cls := .type "dict_items", data := .fields #[.ref d] } } := I1.kept (t' := s1.toks) fun b ob q => Heap.get?_push_of_some _ q
  have fin : wpAny (model X.prog X.w) X.A (pyIter (.ref s1.heap.objs.size)) (PIE X pins σ (.Tuple elts kk tpos) R) X.xe { s1 with heap := s1.heap.push { cls := .type "dict_items", data := .fields #[.ref d] } } := by
    refine wpAny_pyIter_items (d := d) (knd := mixKind X.prog X.w) ⟨_, Heap.get?_push_size _ rfl, rfl, rfl⟩ (hm.push _) (pi_one (tk := s1.toks) I2 _ (turn_items _ hdt) ⟨.none, .none, ?_⟩ q)
    rw [hl]
    exact Heap.get?_push_size _ rfl
  show wpAny _ _ (callWith cpos (.builtin "dict.items") [.ref d] [] []) _ X.xe s1
  exact method_meetsIn F.slot_dict_items F.entry_dict_items rfl (PySem.evalArgs_none ⟨rfl, hm.dictOf.typeIs, F.args_dict_items_1 _, _, meets_dict_items (mixKind X.prog X.w) d hs, ⟨vs, hm.dictOf⟩, fin⟩)
theorem dA_items {elts : List Expr} {kk : Nat} {tpos apos cpos : Pos} {e : Expr} {ea : EF} (he : PE X e (tD g E ea)) (hbase : attributeBase e "items" X.env (eval e X.env) = eval e X.env := by rfl) (hline : (apos.endLine == cpos.line) = true := by rfl) :
    PIA X g E .items (.Tuple elts kk tpos) (.Call (.Attribute e "items" apos) [] [] cpos) ea := by
  refine ⟨⟨fun pins s σ H R I h => ?_⟩, ⟨fun pins s σ H R I h => ?_⟩⟩
  · obtain ⟨m, S, L, r, l, q⟩ := h
    by_cases hv : ∃ ks vs S', ea L S = .ok (.dic ks vs) S'
    · obtain ⟨ks, vs, S', hr⟩ := hv
      exact items_end hbase hline (PE.lockedV he .items I r l hr (by unfold wAk at q; rw [hr] at q; exact q))
    · refine items_end hbase hline (thn (he.run pins s σ H (fun _ _ => False) I ⟨m, S, L, r, l, ?_⟩) fun u s1 ⟨_, _, _, _, z⟩ => z.elim)
      unfold wAk at q
      cases hr : ea L S with
      | ok d S' =>
        rw [hr] at q
        cases d with
        | dic ks vs => exact absurd ⟨ks, vs, S', hr⟩ hv
        | _ => exact (show False from q).elim
      | exc c fs S' => rw [hr] at q; exact q
      | bad => rw [hr] at q; exact q
  · exact items_end hbase hline (PE.locked he .items I h)
end
end VL

namespace VL
open PySem PySem.Spec PyProof.Rows L2
section
variable {X : Cx} {g : G} {E : XD}
theorem ps_unl {st : Stmt} {t : TS} (h : PS X st t) : PS X st (fun Dn σ H => t ⟨fun σ' H' => ∃ d od u, H' d = some (.frz od u) ∧ NF X d ∧ Dn.nx σ' (upd H' d u), fun v H' => ∃ d od u, H' d = some (.frz od u) ∧ NF X d ∧ Dn.rt v (upd H' d u),
    fun σ' H' => ∃ d od u, H' d = some (.frz od u) ∧ NF X d ∧ Dn.bk σ' (upd H' d u), fun σ' H' => ∃ d od u, H' d = some (.frz od u) ∧ NF X d ∧ Dn.ct σ' (upd H' d u)⟩ σ H) := by
  refine ⟨fun pins s σ H Dn I hw => ?_⟩
  refine thn (h.run pins s σ H _ I hw) fun f s1 q => ?_
  cases f with
  | next => obtain ⟨σ', H', I2, d, od, u, e, nf, q⟩ := q; exact ⟨σ', _, I2.unlock e nf, q⟩
  | brk => obtain ⟨σ', H', I2, d, od, u, e, nf, q⟩ := q; exact ⟨σ', _, I2.unlock e nf, q⟩
  | cont => obtain ⟨σ', H', I2, d, od, u, e, nf, q⟩ := q; exact ⟨σ', _, I2.unlock e nf, q⟩
  | ret u => obtain ⟨v, σ', H', I2, ru, d, od, u, e, nf, q⟩ := q; exact ⟨v, σ', _, I2.unlock e nf, ru, q⟩
theorem pe_unl {e : Expr} {t : TE} (h : PE X e t) : PE X e (fun σ H Q => t σ H fun v H' => ∃ d od u, H' d = some (.frz od u) ∧ NF X d ∧ Q v (upd H' d u)) := by
  refine ⟨fun pins s σ H Q I hw => ?_⟩
  refine thn (h.run pins s σ H _ I hw) fun v s1 ⟨x, H1, I2, r, d, od, u, e, nf, q⟩ => ?_
  exact ⟨x, _, I2.unlock e nf, r, q⟩
/-- the dict is looked at, then locked -/
theorem sd_at {m1 : Mp} {S1 : Sto} {H1 : Hp} {d : D} {n : Nat} {ks : List Key} {vs : List D} (r1 : Rel g m1 S1 H1) (e : isSD d S1 = some (n, ks, vs)) : d = .ref n ∧ S1[n]? = some (.dic ks vs) ∧ ∃ a kvs, m1.l[n]? = some (a, true) ∧ H1 a = some (.dK kvs) ∧ kvs.map (·.1) = ks ∧ RVs g m1 H1 vs (kvs.map (·.2)) := by
  unfold isSD at e
  split at e
  · rename_i k
    split at e
    · rename_i ks' vs' e0
      cases e
      refine ⟨rfl, e0, ?_⟩
      have hn : n < m1.l.length := by rw [r1.len]; exact (List.getElem?_eq_some_iff.mp e0).1
      cases hx : m1.l[n] with
      | mk a b =>
        have h1 : m1.l[n]? = some (a, b) := by rw [List.getElem?_eq_getElem hn, hx]
        have h2 := r1.live h1 e0 (by intro z; cases z)
        obtain ⟨o, h3, kvs, rfl, h4, h5⟩ := r1.ob n a _ h2 e0
        exact ⟨a, kvs, h2, h3, h4, h5⟩
    · cases e
  · cases e
/-! [e for ..] -/
def eLcA (wk : DW) (ea : EF) (t : D → Lc → Sto → R Lc) (tt : Lc → Sto → R Bool) (te : EF) (vs : List Nat) : EF := fun L S => (ea L S).bind fun d S1 => match isSD d S1 with
  | some p => (lcL (fun _ => true) t tt te (wipeL L vs) (wk.ds p.2.1 p.2.2) [] (S1.set p.1 (.dlk p.2.1 p.2.2))).calm.bind fun x S3 => (unlk p.1 S3).bind fun _ S4 => .ok x S4
  | none => (wkA wk d S1).bind fun W S2 => lcL W.ok t tt te (wipeL L vs) W.ds [] S2
variable {pos : Pos} {elt kx vx tg iter : Expr} {ifs : List Expr} {scope : Scope} {own : List (Str × Nat)} {wk : DW} {ea : EF} {w : Lc → Sto → R Wk} {t : D → Lc → Sto → R Lc} {tt : Lc → Sto → R Bool} {te tk tv : EF}
theorem RL.extw' {m m' : Mp} {H H' : Hp} {L : Lc} {σ : St} (h : RL g m H L σ) (e : Exw m H m' H') : RL g m' H' L σ := RL.extw h e
theorem de_lcA {vs : List Nat} (hc : X.calm = true) (hN : X.N.Nodup) (hvs : own.map (·.2) = vs) (hi : PIA X g E wk tg iter ea) (ok : BlkOk X.N X.env.scope scope own)
    (hg : ∀ (s : Shared) (H : Hp) (C : Addr) (cl : List (Str × Addr)) (fp : List Addr), PG (X.blk s H scope (compEnvC scope cl C X.env) fp) tg (tG g NoX (WpP vs) t)) (ht : ∀ (s : Shared) (H : Hp) (C : Addr) (cl : List (Str × Addr)) (fp : List Addr), PTs (X.blk s H scope (compEnvC scope cl C X.env) fp) ifs (tT g NoX tt))
    (he : ∀ (s : Shared) (H : Hp) (C : Addr) (cl : List (Str × Addr)) (fp : List Addr), PE (X.blk s H scope (compEnvC scope cl C X.env) fp) elt (tD g NoX te)) (hs : ∀ x, foldedSetIterable iter X.env x = pure x := by intro _; rfl) :
    PE X (.ListComp elt [⟨tg, iter, ifs, 0⟩] scope pos) (tD g E (eLcA wk ea t tt te vs)) := by
  refine ⟨fun pins s σ H Q I h => ?_⟩
  obtain ⟨m, S, L, r, l, q⟩ := h
  by_cases hv : ∃ n ks vs' d S', ea L S = .ok d S' ∧ isSD d S' = some (n, ks, vs')
  · obtain ⟨n, ks, vs', d0, S', hr, hsd⟩ := hv
    subst hvs
    have q' : Aft g E m H ((lcL (fun _ => true) t tt te (wipeL L (own.map (·.2))) (wk.ds ks vs') [] (S'.set n (.dlk ks vs'))).calm.bind fun x S3 => (unlk n S3).bind fun _ S4 => .ok x S4) (vQ g Q) := by
      unfold eLcA at q
      rw [hr] at q
      have q0 : Aft g E m H (match isSD d0 S' with
        | some p => (lcL (fun _ => true) t tt te (wipeL L (own.map (·.2))) (wk.ds p.2.1 p.2.2) [] (S'.set p.1 (.dlk p.2.1 p.2.2))).calm.bind fun x S3 => (unlk p.1 S3).bind fun _ S4 => .ok x S4
        | none => (wkA wk d0 S').bind fun W S2 => lcL W.ok t tt te (wipeL L (own.map (·.2))) W.ds [] S2) (vQ g Q) := q
      rw [hsd] at q0
      exact q0
    refine (pe_unl (pe_lc hc hN hi.u ok hg ht he hs)).run pins s σ H Q I ⟨m, S, L, r, l, ?_⟩
    rw [hr]
    intro m1 H1 e1 r1
    obtain ⟨rfl, e0, a, kvs, ha, hH, h4, h5⟩ := sd_at r1 hsd
    refine ⟨n, a, ks, vs', kvs, rfl, ha, e0, hH, h4, h5, fun od nf J hJ => ?_⟩
    have lk := Lk1.start (od := od) r1 ha e0 hH h4 h5
    have q3 := Aft.calmA (Aft.later q' e1) ⟨m1.l, m1.o, (n, a) :: m1.k⟩ (upd H1 a (.frz od (.dK kvs)))
    refine lc_loop (W := ⟨wk.ds ks vs', fun _ => true⟩) (Q := fun v H' => ∃ d od u, H' d = some (.frz od u) ∧ NF X d ∧ Q v (upd H' d u)) lk.r ((l.ext e1).extw lk.ex) hJ q3 fun d m2 S2 H2 v e2 r2 q4 rv => ?_
    obtain ⟨m3, S3, e3, r3, q5⟩ := (lk.on e2 r2).done r1 ha hH q4
    exact ⟨a, od, _, (lk.on e2 r2).at_, nf, q5.ok r3 v (rv.extw e3)⟩
  · refine (de_lc hc hN hvs hi.v ok hg ht he hs).run pins s σ H Q I ⟨m, S, L, r, l, ?_⟩
    unfold eLcA at q
    unfold eLc wAk
    cases hr : ea L S with
    | ok d S' =>
      rw [hr] at q
      cases hsd : isSD d S' with
      | some p => exact absurd ⟨p.1, p.2.1, p.2.2, d, S', hr, hsd⟩ hv
      | none =>
        have q' : Aft g E m H (match isSD d S' with
          | some p => (lcL (fun _ => true) t tt te (wipeL L vs) (wk.ds p.2.1 p.2.2) [] (S'.set p.1 (.dlk p.2.1 p.2.2))).calm.bind fun x S3 => (unlk p.1 S3).bind fun _ S4 => .ok x S4
          | none => (wkA wk d S').bind fun W S2 => lcL W.ok t tt te (wipeL L vs) W.ds [] S2) (vQ g Q) := q
        rw [hsd] at q'
        exact q'
    | exc c fs S' => rw [hr] at q; exact q
    | bad => rw [hr] at q; exact q
/-! {k: v for ..} -/
def dcL (mu : Bool) (ok : Sto → Bool) (t : D → Lc → Sto → R Lc) (tt : Lc → Sto → R Bool) (tk tv : EF) (L : Lc) : List D → List Key → List D → Sto → R D
  | [], ks, ws => fun S => if ok S = true then nwD mu ks ws S else .bad
  | d :: ds, ks, ws => fun S => if ok S = true then (t d L S).calm.bind fun L1 S1 => (tt L1 S1).calm.bind fun b S2 =>
      if b = true then (tk L1 S2).calm.bind fun y S3 => (tv L1 S3).calm.bind fun z S4 => match keyD y with
          | some k => if ks.length < sizeLine then dcL mu ok t tt tk tv L ds (putKs ks k) (putVs ks ws k z) S4 else .bad
          | none => .bad
      else dcL mu ok t tt tk tv L ds ks ws S2
    else .bad
theorem dc_loop {mu : Bool} {σ : St} {L : Lc} {vs : List Nat} {W : Wk} {J : It} {m1 : Mp} {S1 : Sto} {H1 : Hp} {Q : VK} {P : D → Mp → Sto → Hp → Prop} (r1 : Rel g m1 S1 H1) (l : RL g m1 H1 L σ) (hJ : JD g J W m1 H1)
    (q1 : Aft g E m1 H1 (dcL mu W.ok t tt tk tv (wipeL L vs) W.ds [] [] S1) P) (hP : ∀ d m S H v, Ext g m1 H1 m H → Rel g m S H → P d m S H → RV g m H d v → Q v H) :
    ∀ D, H1 D = none → ∃ Wp : Nat → Nat → Hp → Prop, (∃ m, Wp 0 m (upd H1 D (.dK []))) ∧ ∀ i m H, Wp i m H →
      (J.stop i H ∧ Q (.ref D) H) ∨ (J.go i H ∧ ∃ Nx : Hp → Prop, (∀ H', Nx H' → ∃ m', m' < m ∧ Wp (i + 1) m' H') ∧ ∀ x H', J.yld i H x H' → tG g NoX (WpP vs) t x (wipe σ vs) H' fun σ2 H2 => wipe σ2 vs = wipe σ vs ∧ tT g NoX tt σ2 H2 fun b H3 =>
        if b = true then tD g NoX tk σ2 H3 fun y H4 => tD g NoX tv σ2 H4 fun z H5 => ∃ kvs k, y = kV k ∧ H5 D = some (.dK kvs) ∧ kvs.length < sizeLine ∧ Nx (upd H5 D (.dK (putK kvs k z))) else Nx H3) := by
  intro p hp
  refine ⟨fun i k H' => ∃ m' S' ks ws kvs, Mk1 g m1 H1 p (.dK kvs) m' S' H' ∧ kvs.map (·.1) = ks ∧ RVs g m' H' ws (kvs.map (·.2)) ∧ k = W.ds.length - i ∧ i ≤ W.ds.length ∧ Aft g E m1 H1 (dcL mu W.ok t tt tk tv (wipeL L vs) (W.ds.drop i) ks ws S') P,
    ⟨_, _, _, [], [], [], .start r1 hp, rfl, .nil, rfl, Nat.zero_le _, q1⟩, ?_⟩
  rintro i k H' ⟨m', S', ks, ws, kvs, mk, hk, ra, rfl, hle, q'⟩
  cases hd : W.ds[i]? with
  | none =>
    have hlen : W.ds.length ≤ i := List.getElem?_eq_none_iff.mp hd
    rw [List.drop_eq_nil_of_le hlen] at q'
    unfold dcL at q'
    split at q'
    · rename_i hok
      refine .inl ⟨(hJ i m' S' H' ⟨mk.ex, mk.pk, mk.kk⟩ mk.r hok).1 hd, ?_⟩
      unfold nwD at q'
      split at q'
      · obtain ⟨_, he, hr, hl⟩ := mk.toSto (ob := .dic ks ws) r1 hp ⟨kvs, rfl, hk, ra⟩
        exact hP _ _ _ _ _ he hr (q'.at he hr) (rv_ref hl)
      · obtain ⟨hw, he, hr, hu⟩ := mk.done r1 hp
        exact hP _ _ _ _ _ he hr (q'.at he hr) (rv_dic (.of mk.at_) hu hk (ra.extw hw))
    · exact q'.elim
  | some d =>
    have hlt : i < W.ds.length := (List.getElem?_eq_some_iff.mp hd).1
    rw [drop_cons hd] at q'
    unfold dcL at q'
    split at q'
    · rename_i hok
      obtain ⟨hgo, hy⟩ := (hJ i m' S' H' ⟨mk.ex, mk.pk, mk.kk⟩ mk.r hok).2 d hd
      refine .inr ⟨hgo, fun H2 => ∃ m2 S2 ks ws kvs, Mk1 g m1 H1 p (.dK kvs) m2 S2 H2 ∧ kvs.map (·.1) = ks ∧ RVs g m2 H2 ws (kvs.map (·.2)) ∧ Aft g E m1 H1 (dcL mu W.ok t tt tk tv (wipeL L vs) (W.ds.drop (i + 1)) ks ws S2) P, ?_, fun x H3 y => ?_⟩
      · rintro H2 ⟨m2, S2, ks2, ws2, kvs2, mk2, hk2, ra2, q2⟩
        exact ⟨_, by omega, m2, S2, ks2, ws2, kvs2, mk2, hk2, ra2, rfl, hlt, q2⟩
      · obtain ⟨ex, rx, rv⟩ := hy x H3 y
        have mk3 := mk.on ex rx
        have lw : RL g m' H3 (wipeL L vs) (wipe σ vs) := (l.wipe vs).extw mk3.ex
        refine ⟨m', S', wipeL L vs, d, rx, lw, rv, (Aft.calmA q' m' H3).mono fun L1 m4 S4 H4 e4 r4 q4 σ4 l4 w4 => ?_⟩
        refine ⟨by rw [w4, wipe_wipe], m4, S4, L1, r4, l4, (Aft.calmA q4 m4 H4).mono fun b m5 S5 H5 e5 r5 q5 => ?_⟩
        have e35 : Ext g m' H' m5 H5 := ex.trans (e4.trans e5)
        cases b with
        | false => exact ⟨m5, S5, ks, ws, kvs, mk.on e35 r5, hk, ra.ext e35, q5⟩
        | true =>
          refine ⟨m5, S5, L1, r5, l4.ext e5, (Aft.calmA q5 m5 H5).mono fun y m6 S6 H6 e6 r6 q6 v rv6 => ?_⟩
          refine ⟨m6, S6, L1, r6, (l4.ext e5).ext e6, (Aft.calmA q6 m6 H6).mono fun z m7 S7 H7 e7 r7 q7 u rv7 => ?_⟩
          have e17 := (e35.trans e6).trans e7
          have mk7 := mk.on e17 r7
          have ra7 := ra.ext e17
          split at q7
          · rename_i kk ek
            split at q7
            · rename_i hz
              obtain ⟨p1, p2⟩ := put_run (k := kk) ra7 rv7
              rw [hk] at p1 p2
              obtain ⟨e8, mk8⟩ := mk7.step (o' := .dK (putK kvs kk u)) hp
              refine ⟨kvs, kk, key_run (rv6.ext e7) ek, mk7.at_, by rw [← hk, List.length_map] at hz; exact hz, m7, S7, _, _, _, mk8, p1, p2.extw e8, q7⟩
            · exact q7.elim
          · exact q7.elim
    · exact q'.elim
def eDcA (mu : Bool) (wk : DW) (ea : EF) (t : D → Lc → Sto → R Lc) (tt : Lc → Sto → R Bool) (tk tv : EF) (vs : List Nat) : EF := fun L S => (ea L S).bind fun d S1 => match isSD d S1 with
  | some p => (dcL mu (fun _ => true) t tt tk tv (wipeL L vs) (wk.ds p.2.1 p.2.2) [] [] (S1.set p.1 (.dlk p.2.1 p.2.2))).calm.bind fun x S3 => (unlk p.1 S3).bind fun _ S4 => .ok x S4
  | none => (wkA wk d S1).bind fun W S2 => dcL mu W.ok t tt tk tv (wipeL L vs) W.ds [] [] S2
theorem de_dcA {mu : Bool} {vs : List Nat} (hc : X.calm = true) (hN : X.N.Nodup) (hvs : own.map (·.2) = vs) (hi : PIA X g E wk tg iter ea) (ok : BlkOk X.N X.env.scope scope own)
    (hg : ∀ (s : Shared) (H : Hp) (C : Addr) (cl : List (Str × Addr)) (fp : List Addr), PG (X.blk s H scope (compEnvC scope cl C X.env) fp) tg (tG g NoX (WpP vs) t)) (ht : ∀ (s : Shared) (H : Hp) (C : Addr) (cl : List (Str × Addr)) (fp : List Addr), PTs (X.blk s H scope (compEnvC scope cl C X.env) fp) ifs (tT g NoX tt))
    (hk : ∀ (s : Shared) (H : Hp) (C : Addr) (cl : List (Str × Addr)) (fp : List Addr), PE (X.blk s H scope (compEnvC scope cl C X.env) fp) kx (tD g NoX tk)) (he : ∀ (s : Shared) (H : Hp) (C : Addr) (cl : List (Str × Addr)) (fp : List Addr), PE (X.blk s H scope (compEnvC scope cl C X.env) fp) vx (tD g NoX tv)) (hs : ∀ x, foldedSetIterable iter X.env x = pure x := by intro _; rfl) :
    PE X (.DictComp kx vx [⟨tg, iter, ifs, 0⟩] scope pos) (tD g E (eDcA mu wk ea t tt tk tv vs)) := by
  subst hvs
  refine ⟨fun pins s σ H Q I h => ?_⟩
  obtain ⟨m, S, L, r, l, q⟩ := h
  by_cases hv : ∃ n ks vs' d S', ea L S = .ok d S' ∧ isSD d S' = some (n, ks, vs')
  · obtain ⟨n, ks, vs', d0, S', hr, hsd⟩ := hv
    have q' : Aft g E m H ((dcL mu (fun _ => true) t tt tk tv (wipeL L (own.map (·.2))) (wk.ds ks vs') [] [] (S'.set n (.dlk ks vs'))).calm.bind fun x S3 => (unlk n S3).bind fun _ S4 => .ok x S4) (vQ g Q) := by
      unfold eDcA at q
      rw [hr] at q
      have q0 : Aft g E m H (match isSD d0 S' with
        | some p => (dcL mu (fun _ => true) t tt tk tv (wipeL L (own.map (·.2))) (wk.ds p.2.1 p.2.2) [] [] (S'.set p.1 (.dlk p.2.1 p.2.2))).calm.bind fun x S3 => (unlk p.1 S3).bind fun _ S4 => .ok x S4
        | none => (wkA wk d0 S').bind fun W S2 => dcL mu W.ok t tt tk tv (wipeL L (own.map (·.2))) W.ds [] [] S2) (vQ g Q) := q
      rw [hsd] at q0
      exact q0
    refine (pe_unl (pe_dc hc hN hi.u ok hg ht hk he hs)).run pins s σ H Q I ⟨m, S, L, r, l, ?_⟩
    rw [hr]
    intro m1 H1 e1 r1
    obtain ⟨rfl, e0, a, kvs, ha, hH, h4, h5⟩ := sd_at r1 hsd
    refine ⟨n, a, ks, vs', kvs, rfl, ha, e0, hH, h4, h5, fun od nf J hJ => ?_⟩
    have lk := Lk1.start (od := od) r1 ha e0 hH h4 h5
    have q3 := Aft.calmA (Aft.later q' e1) ⟨m1.l, m1.o, (n, a) :: m1.k⟩ (upd H1 a (.frz od (.dK kvs)))
    refine dc_loop (W := ⟨wk.ds ks vs', fun _ => true⟩) (Q := fun v H' => ∃ d od u, H' d = some (.frz od u) ∧ NF X d ∧ Q v (upd H' d u)) lk.r ((l.ext e1).extw lk.ex) hJ q3 fun d m2 S2 H2 v e2 r2 q4 rv => ?_
    obtain ⟨m3, S3, e3, r3, q5⟩ := (lk.on e2 r2).done r1 ha hH q4
    exact ⟨a, od, _, (lk.on e2 r2).at_, nf, q5.ok r3 v (rv.extw e3)⟩
  · refine (pe_dc hc hN hi.v ok hg ht hk he hs).run pins s σ H Q I ⟨m, S, L, r, l, ?_⟩
    unfold eDcA at q
    have q2 : Aft g E m H ((wAk wk ea L S).bind fun W S2 => dcL mu W.ok t tt tk tv (wipeL L (own.map (·.2))) W.ds [] [] S2) (vQ g Q) := by
      unfold wAk
      cases hr : ea L S with
      | ok d S' =>
        rw [hr] at q
        cases hsd : isSD d S' with
        | some p => exact absurd ⟨p.1, p.2.1, p.2.2, d, S', hr, hsd⟩ hv
        | none =>
          have q' : Aft g E m H (match isSD d S' with
            | some p => (dcL mu (fun _ => true) t tt tk tv (wipeL L (own.map (·.2))) (wk.ds p.2.1 p.2.2) [] [] (S'.set p.1 (.dlk p.2.1 p.2.2))).calm.bind fun x S3 => (unlk p.1 S3).bind fun _ S4 => .ok x S4
            | none => (wkA wk d S').bind fun W S2 => dcL mu W.ok t tt tk tv (wipeL L (own.map (·.2))) W.ds [] [] S2) (vQ g Q) := q
          rw [hsd] at q'
          exact q'
      | exc c fs S' => rw [hr] at q; exact q
      | bad => rw [hr] at q; exact q
    refine (Aft.bind q2).mono fun W m1 S1 H1 e1 r1 q1 J hJ => ?_
    exact dc_loop r1 (l.ext e1) hJ q1 fun d m2 S2 H2 v _ _ q3 rv => q3 v rv
end
end VL

/-! sum(lists, a list) -/
namespace VL
open PySem PySem.Spec PyProof.Rows L2
abbrev lobj (vs : List Value) (n : Nat) : Obj := { cls := .type "list", data := .seq vs.toArray n }
section
variable {prog : Program} {w : World} {A : Around} {R : Result → Shared → Prop}
theorem sum_loopL {it l S : Addr} {items : Array Value} (hh : A.handled = none) (hiS : it ≠ S) (hli : l ≠ it) (hlS : l ≠ S) : ∀ (rest : List (Addr × List Value)) (i : Nat) (s : Shared) (T : Addr) (acc : List Value) (nT cS : Nat),
    items.toList.drop i = rest.map (fun p => Value.ref p.1) → s.heap.IsListIter it l i → s.heap.IsList l items → s.heap.get? S = some { cls := .type "list", dict := none, data := .seq #[.ref T] cS, slots := #[] } → s.heap.get? T = some (lobj acc nT) →
    T ≠ it → T ≠ S → (∀ p ∈ rest, p.1 ≠ it ∧ p.1 ≠ S ∧ ∃ n, s.heap.get? p.1 = some (lobj p.2 n)) → (acc ++ (rest.map (·.2)).flatten).length ≤ sizeLine →
    (∀ (h' : Heap) (tk : Nat) (T' : Addr) (n' : Nat), (∀ b o, b ≠ it → b ≠ S → s.heap.get? b = some o → h'.get? b = some o) → h'.get? T' = some (lobj (acc ++ (rest.map (·.2)).flatten) n') → (rest = [] → T' = T) → (rest ≠ [] → s.heap.objs.size ≤ T') → R (.ok (.ret (.ref T'))) { s with heap := h', toks := tk }) →
    codeAny (model prog w) A (.builtin "sum.loop" ⟨[.ref it, .ref S, rawInt 2, rawInt 0], []⟩) R s
  | [], i, s, T, acc, nT, cS, hd, hit, hl, hS, hT, h1, h2, h3, h4, hR => by
    refine codeAny_builtin F.entry_sum_loop ?_
    rw [Around.under_plainId F.plain_sum_loop _]
    show wpAny _ A.in1 (seqItems? (.ref S) >>= _) _ _ s
    refine wpAny_bind (wpAny_seqItems hS rfl ?_)
    show wpAny _ A.in1 (tryCatch (pyNext (.ref it)) _ >>= _) _ _ s
    have hi : items.size ≤ i := by
      have := congrArg List.length hd
      simp at this
      omega
    refine wpAny_bind (wpAny_tryCatch (wpAny_pyNext_list_end (A := A.in1) hh hit hl (by simp [hi]) fun h' he' => ?_))
    refine wpAny_pure (hR h' s.toks T nT (fun b o hb _ e => he' b o hb e) ?_ (fun _ => rfl) (fun z => absurd rfl z))
    simpa using he' T _ h1 hT
  | p :: rest, i, s, T, acc, nT, cS, hd, hit, hl, hS, hT, h1, h2, h3, h4, hR => by
    refine codeAny_builtin F.entry_sum_loop ?_
    rw [Around.under_plainId F.plain_sum_loop _]
    show wpAny _ A.in1 (seqItems? (.ref S) >>= _) _ _ s
    refine wpAny_bind (wpAny_seqItems hS rfl ?_)
    show wpAny _ A.in1 (tryCatch (pyNext (.ref it)) _ >>= _) _ _ s
    have hx : items[i]? = some (.ref p.1) := by
      have e1 : (items.toList.drop i)[0]? = some (.ref p.1) := by rw [hd]; rfl
      rw [List.getElem?_drop] at e1
      simpa using e1
    have hd' : items.toList.drop (i + 1) = rest.map (fun p => Value.ref p.1) := by
      rw [← List.tail_drop, hd]; rfl
    refine wpAny_bind (wpAny_tryCatch (wpAny_pyNext_list_item (A := A.in1) hit hl hx fun h1' hit1 hs1 => ?_))
    obtain ⟨hp1, hp2, np, hp3⟩ := h3 p List.mem_cons_self
    have k1 : ∀ b o, b ≠ it → s.heap.get? b = some o → h1'.get? b = some o := fun b o hb e => hs1.extBut b o hb e
    show wpAny _ A.in1 ((holding [Value.ref p.1] (binaryOp .Add (.ref T) (.ref p.1))).attempt >>= _) _ _ _
    have hlen : acc.length + p.2.length ≤ sizeLine := by
      simp [List.length_append] at h4
      omega
    refine wpAny_bind (wpAny_attempt (wpAny_holding (PySem.P.add_list (s := { s with heap := h1' }) (k1 T _ h1 hT) (k1 p.1 _ hp1 hp3) ?_ (by simpa using hlen))))
    have hS1 : h1'.get? S = some { cls := .type "list", dict := none, data := .seq #[.ref T] cS, slots := #[] } := k1 S _ (Ne.symm hiS) hS
    have hSsz : S < h1'.objs.size := Heap.lt_size hS1
    have hS2 : (h1'.push { cls := .type "list", data := .seq (acc.toArray ++ p.2.toArray) }).get? S = some { cls := .type "list", dict := none, data := .seq #[.ref T] cS, slots := #[] } := Heap.get?_push_of_some _ hS1
    show wpAny _ A.in1 (updateSeq S (fun _ => #[.ref h1'.objs.size]) >>= _) _ _ _
    refine wpAny_bind (wpAny_updateSeq hS2 rfl ?_)
    have hS3 := Heap.get?_update_self (Obj.mapSeq fun _ => #[Value.ref h1'.objs.size]) hS2 rfl
    refine wpAny_bind (wpAny_letGo ?_)
    refine wpAny_bind (wpAny_updateSeq hS3 rfl (wpAny_pure ⟨plainId_quiet F.plain_sum_loop _, ?_⟩))
    have keep : ∀ b o, b ≠ it → b ≠ S → s.heap.get? b = some o → (((h1'.push { cls := .type "list", data := .seq (acc.toArray ++ p.2.toArray) }).update S (Obj.mapSeq fun _ => #[Value.ref h1'.objs.size])).update S (Obj.mapSeq fun _ => #[Value.ref h1'.objs.size])).get? b = some o := fun b o hb hb2 e =>
      (Heap.get?_update_other _ _ (Ne.symm hb2)).trans ((Heap.get?_update_other _ _ (Ne.symm hb2)).trans (Heap.get?_push_of_some _ (k1 b o hb e)))
    have hTn : h1'.objs.size ≠ S := Nat.ne_of_gt hSsz
    obtain ⟨oi, hoi, ri⟩ := hit1
    have hil : it < h1'.objs.size := Heap.lt_size hoi
    have hsz1 : s.heap.objs.size ≤ h1'.objs.size := by
      rw [hs1.1]
      exact Nat.le_refl _
    refine sum_loopL hh hiS hli hlS rest (i + 1) _ h1'.objs.size (acc ++ p.2) 0 _ hd' ?_ ?_ (Heap.get?_update_self _ hS3 rfl) ?_ (Nat.ne_of_gt hil) hTn (fun q hq => ?_) (by simpa [List.append_assoc] using h4) fun h' tk T' n' e1 e2 e3 e4 => ?_
    · exact ⟨oi, (Heap.get?_update_other _ _ (Ne.symm hiS)).trans ((Heap.get?_update_other _ _ (Ne.symm hiS)).trans (Heap.get?_push_of_some _ hoi)), ri⟩
    · obtain ⟨ol, hol, rl⟩ := hl
      exact ⟨ol, keep l _ hli hlS hol, rl⟩
    · refine (Heap.get?_update_other _ _ (Ne.symm hTn)).trans ((Heap.get?_update_other _ _ (Ne.symm hTn)).trans ?_)
      rw [Heap.get?_push_size _ rfl]
      simp
    · obtain ⟨q1, q2, nq, q3⟩ := h3 q (List.mem_cons_of_mem _ hq)
      exact ⟨q1, q2, nq, keep _ _ q1 q2 q3⟩
    · refine hR h' tk T' n' (fun b o hb hb2 e => e1 b o hb hb2 (keep b o hb hb2 e)) (by simpa [List.append_assoc] using e2) (fun z => by cases z) fun _ => ?_
      cases rest with
      | nil => rw [e3 rfl]; exact hsz1
      | cons a b =>
        have := e4 (by simp)
        simp at this
        omega
theorem args_sum2 (a b : Value) : argsOk "sum" ⟨[a, b], []⟩ := by unfold argsOk; kernel_rfl
theorem sub_list_str : isSubtype (.type "list") (.type "str") = pure false := by rw [isSubtype_type]; kernel_rfl
theorem sub_list_bytes : isSubtype (.type "list") (.type "bytes") = pure false := by rw [isSubtype_type]; kernel_rfl
theorem sub_list_bytearray : isSubtype (.type "list") (.type "bytearray") = pure false := by rw [isSubtype_type]; kernel_rfl
theorem call_sumL {E : Value → Shared → Prop} {s : Shared} {l T : Addr} {items : Array Value} {rest : List (Addr × List Value)} {acc : List Value} {nT : Nat} {Q : Value → Shared → Prop} (hh : A.handled = none) (hl : s.heap.IsList l items) (hT : s.heap.get? T = some (lobj acc nT)) (hd : items.toList = rest.map (fun p => Value.ref p.1))
    (hr : ∀ p ∈ rest, ∃ n, s.heap.get? p.1 = some (lobj p.2 n)) (hz : (acc ++ (rest.map (·.2)).flatten).length ≤ sizeLine)
    (hQ : ∀ (h' : Heap) (tk : Nat) (T' : Addr) (n' : Nat), (∀ b o, s.heap.get? b = some o → h'.get? b = some o) → h'.get? T' = some (lobj (acc ++ (rest.map (·.2)).flatten) n') → (rest = [] → T' = T) → (rest ≠ [] → s.heap.objs.size ≤ T') → Q (.ref T') { s with heap := h', toks := tk }) :
    wpAny (model prog w) A (call (.builtin "sum") [.ref l, .ref T]) Q E s := by
  have hlt : l < s.heap.objs.size := by obtain ⟨o, ho, _⟩ := hl; exact Heap.lt_size ho
  have hTt : T < s.heap.objs.size := Heap.lt_size hT
  refine call_function_tree F.kind_sum F.plain_sum F.entry_sum (args_sum2 _ _) ?_
  unfold Builtin.«sum»
  simp only [List.length_cons, List.length_nil]
  rw [if_neg (by decide)]
  refine wpAny_bind (wpAny_of_eq (show Builtin.Builtins.bindParams "sum" ["start"] 0 ⟨[.ref T], []⟩ = pure [some (.ref T)] from rfl) ?_)
  refine wpAny_bind (wpAny_pyIter_list hl ?_)
  have hTp : (s.heap.push { cls := .type "list_iterator", data := .fields #[.ref l, .int 0 0] }).get? T = some (lobj acc nT) := Heap.get?_push_of_some _ hT
  have tyL : ∀ s2 : Shared, s2.heap = s.heap.push { cls := .type "list_iterator", data := .fields #[.ref l, .int 0 0] } → s2.TypeIs (.ref T) "list" := fun s2 e => ⟨_, by rw [e]; exact hTp, rfl⟩
  refine wpAny_bind (wpAny_pure ?_)
  simp only [List.forIn_cons, List.forIn_nil]
  refine wpAny_bind (wpAny_bind (wpAny_bind (wpAny_isInstance (T := "list") (b := false) (tyL _ rfl) sub_list_str ?_)))
  simp only [Bool.false_eq_true, if_false]
  refine wpAny_pure (wpAny_bind (wpAny_bind (wpAny_isInstance (T := "list") (b := false) (tyL _ rfl) sub_list_bytes ?_)))
  simp only [Bool.false_eq_true, if_false]
  refine wpAny_pure (wpAny_bind (wpAny_bind (wpAny_isInstance (T := "list") (b := false) (tyL _ rfl) sub_list_bytearray ?_)))
  simp only [Bool.false_eq_true, if_false]
  refine wpAny_pure (wpAny_pure ?_)
  refine wpAny_bind (wpAny_newObj_type ?_)
  have hsz : (s.heap.push { cls := .type "list_iterator", data := .fields #[.ref l, .int 0 0] }).objs.size = s.heap.objs.size + 1 := by simp [Heap.push]
  refine wpAny_pure ⟨plainId_quiet F.plain_sum_loop _, sum_loopL (it := s.heap.objs.size) (l := l) (S := (s.heap.push { cls := .type "list_iterator", data := .fields #[.ref l, .int 0 0] }).objs.size) hh (by rw [hsz]; exact Nat.ne_of_lt (Nat.lt_succ_self _)) (Nat.ne_of_lt hlt) (by rw [hsz]; exact Nat.ne_of_lt (Nat.lt_succ_of_lt hlt)) rest 0 _ T acc nT 0 (by simpa using hd)
    ⟨_, Heap.get?_push_of_some _ (Heap.get?_push_size _ rfl), rfl, rfl⟩ ?_ (Heap.get?_push_size _ rfl) (Heap.get?_push_of_some _ hTp) (Nat.ne_of_lt hTt) (by rw [hsz]; exact Nat.ne_of_lt (Nat.lt_succ_of_lt hTt)) (fun p hp => ?_) hz fun h' tk T' n' e1 e2 e3 e4 => ?_⟩
  · obtain ⟨o, ho, r⟩ := hl
    exact ⟨o, Heap.get?_push_of_some _ (Heap.get?_push_of_some _ ho), r⟩
  · obtain ⟨n, hn⟩ := hr p hp
    have hp' := Heap.lt_size hn
    exact ⟨Nat.ne_of_lt hp', by rw [hsz]; exact Nat.ne_of_lt (Nat.lt_succ_of_lt hp'), n, Heap.get?_push_of_some _ (Heap.get?_push_of_some _ hn)⟩
  · refine hQ h' tk T' n' (fun b o hb => ?_) e2 e3 fun z => ?_
    · have := Heap.lt_size hb
      exact e1 b o (Nat.ne_of_lt this) (by rw [hsz]; exact Nat.ne_of_lt (Nat.lt_succ_of_lt this)) (Heap.get?_push_of_some _ (Heap.get?_push_of_some _ hb))
    · have := e4 z
      have h2 : ((s.heap.push { cls := .type "list_iterator", data := .fields #[.ref l, .int 0 0] }).push { cls := .type "list", data := .seq #[.ref T] }).objs.size = s.heap.objs.size + 2 := by simp [Heap.push]
      have h3 : ((s.heap.push { cls := .type "list_iterator", data := .fields #[.ref l, .int 0 0] }).push { cls := .type "list", data := .seq #[.ref T] }).objs.size ≤ T' := this
      rw [h2] at h3
      exact Nat.le_trans (Nat.le_add_right _ 2) h3
end
/-! by data -/
def lstsOf (S : Sto) : List D → Option (List (List D))
  | [] => some []
  | d :: r => match lstO d S, lstsOf S r with
    | some ds, some rs => some (ds :: rs)
    | _, _ => none
def sum2D (ds : List D) (S : Sto) : R D := match ds with
  | [x] => sumD [x] S
  | [x, n] => match lstOf x S, lstO n S with
    | some ds, some acc => match lstsOf S ds with
      | some rs => if (acc ++ rs.flatten).length ≤ sizeLine then (if rs.isEmpty = true then .ok n S else .ok (.lst (acc ++ rs.flatten)) S) else .bad
      | none => .bad
    | _, _ => .bad
  | _ => .bad
section
variable {X : Cx} {g : G} {E : XD}
theorem lsts_run {m : Mp} {S : Sto} {H : Hp} {pins : List (Addr × Obj)} {σ : St} {s : Shared} (I : Inv X pins σ H s) (r : Rel g m S H) : ∀ {ds : List D} {vs : List V} {us : List Value} {rs : List (List D)}, RVs g m H ds vs → Vals vs us → lstsOf S ds = some rs →
    ∃ (rest : List (Addr × List Value)) (ws : List V), us = rest.map (fun p => Value.ref p.1) ∧ (∀ p ∈ rest, ∃ n, s.heap.get? p.1 = some (lobj p.2 n)) ∧ RVs g m H rs.flatten ws ∧ Vals ws (rest.map (·.2)).flatten ∧ rest.length = rs.length
  | [], vs, us, rs, h, hv, e => by
    cases e
    have := h.nil_iff
    subst this
    cases hv
    exact ⟨[], [], rfl, by simp, .nil, .nil, rfl⟩
  | d :: ds, vs, us, rs, h, hv, e => by
    obtain ⟨v, t, rfl, h1, h2⟩ := h.cons_iff
    cases hv with
    | cons hu hv =>
      simp only [lstsOf] at e
      split at e
      · rename_i xs rs' e1 e2
        cases e
        obtain ⟨a, vs1, rfl, hH, rv1⟩ := lstO_run r h1 e1
        cases hu
        obtain ⟨z, its, n1, rv, hl, hg⟩ := I.lstM hH
        obtain ⟨rest, ws, rfl, q1, q2, q3, q4⟩ := lsts_run I r h2 hv e2
        refine ⟨(a, its) :: rest, vs1 ++ ws, rfl, fun p hp => ?_, ?_, ?_, by simp [q4]⟩
        · rcases List.mem_cons.mp hp with rfl | hp
          · exact ⟨n1, hg⟩
          · exact q1 p hp
        · simpa using rv1.append q2
        · simpa using rv.append q3
      · cases e
theorem cd_sum2 (hK : X.K = g.K) (hc : X.calm = true) : CallR X (.builtin "sum") (rDs g E (sum2D)) := by
  intro pins s σ H xs us Q I r h
  obtain ⟨m, S, ds, rl, h1, q⟩ := h
  unfold sum2D at q
  split at q
  · exact cd_sum hK hc pins s σ H xs us Q I r ⟨m, S, _, rl, h1, q⟩
  · rename_i x n
    split at q
    · rename_i ds acc ed en
      split at q
      · rename_i rs er
        split at q
        · rename_i hz
          obtain ⟨vx, vn, rfl, hx, hn⟩ := rvs2 h1
          obtain ⟨a, vs, rfl, hs, rvs⟩ := lst_run rl hx ed
          obtain ⟨T, accV, rfl, hHT, racc⟩ := lstO_run rl hn en
          cases r with
          | cons r1 r =>
            cases r with
            | cons r2 r =>
              cases r
              cases r1
              cases r2
              rw [← hK] at hs
              obtain ⟨its, rits, pl, hlz⟩ := I.list hs
              obtain ⟨zT, itT, nT, rT, hlT, hgT⟩ := I.lstM hHT
              obtain ⟨rest, ws, e1, e2, e3, e4, e5⟩ := lsts_run I rl rvs rits er
              have hlen : (itT ++ (rest.map (·.2)).flatten).length = (acc ++ rs.flatten).length := by
                have a1 := racc.length
                have a2 := e3.length
                have a3 := e4.length
                simp only [List.length_append]
                omega
              refine call_sumL (I.ok.hd hc) pl.isList hgT (by simpa using e1) e2 (by rw [hlen]; exact hz) fun h' tk T' n' k1 k2 k3 k4 => ?_
              have I1 : Inv X pins σ H { s with heap := h', toks := tk } := I.kept k1
              split at q
              · rename_i hem
                have hr0 : rest = [] := by
                  cases rest with
                  | nil => rfl
                  | cons _ _ => simp at e5; cases rs <;> simp at hem e5
                rw [k3 hr0]
                exact ⟨.ref T, H, I1, rfl, q.ok rl _ hn⟩
              · rename_i hem
                have hr0 : rest ≠ [] := fun z => by
                  subst z
                  cases rs with
                  | nil => exact hem rfl
                  | cons _ _ => simp at e5
                have hTs := k4 hr0
                have hfr : H T' = none := I.hok.fresh hTs
                have ra := racc.append e3
                have rz : Vals (accV ++ ws) (itT ++ (rest.map (·.2)).flatten) := rT.append e4
                have hzz : (accV ++ ws).length ≤ sizeLine := by rw [rz.length, hlen]; exact hz
                refine ⟨.ref T', upd H T' (.lst (accV ++ ws)), I.laid k1 hTs ⟨hzz, _, n', rz, k2⟩, rfl, ?_⟩
                exact q.at (ext_lay rl hfr) (rl.lay hfr) _ (rv_lst upd_same (rl.un hfr) (ra.ext (ext_lay rl hfr)))
        · exact q.elim
      · exact q.elim
    · exact q.elim
  · exact q.elim
/-! methods of lists -/
def isLst (d : D) (S : Sto) : Bool := match d with
  | .ref n => match S[n]? with
    | some (.lst _) => true
    | _ => false
  | _ => false
theorem ty_lst : TyD X g "list" isLst := by
  intro pins σ H s m S d x v I r rv ru ht
  unfold isLst at ht
  split at ht
  · split at ht
    · rename_i n ds e0
      obtain ⟨a, vs, rfl, _, h1, h2⟩ := lst_ref r rv e0
      cases ru
      obtain ⟨z, its, n1, rv, hl, hg⟩ := I.lstM h1
      exact ⟨⟨_, hg, rfl⟩, fun b e => by cases e; exact ⟨_, hg, rfl⟩⟩
    · cases ht
  · cases ht
def appD (x : D) (ds : List D) (S : Sto) : R D := match x, ds with
  | .ref n, [y] => match S[n]? with
    | some (.lst xs) => if xs.length < sizeLine then .ok .non (S.set n (.lst (xs ++ [y]))) else .bad
    | _ => .bad
  | _, _ => .bad
theorem md_append : MtR X "list.append" (rM g E appD) := by
  intro pins s σ H x xs v us Q I rx rxs h
  obtain ⟨m, S, d, ds, r, h1, h2, q⟩ := h
  unfold appD at q
  split at q
  · rename_i n y
    split at q
    · rename_i xs' e0
      split at q
      · rename_i hz
        obtain ⟨a, vs, rfl, ha, hH, rv⟩ := lst_ref r h1 e0
        obtain ⟨w', rfl, hy⟩ := rvs1 h2
        refine mt_append pins s σ H _ _ v us Q I rx rxs ⟨a, vs, w', rfl, rfl, hH, by rw [rv.length]; exact hz, ?_⟩
        exact q.at (ext_set r ha e0) (r.set (ob' := .lst (xs' ++ [y])) ha e0 ⟨_, rfl, rv.append (.cons hy .nil)⟩) _ rv_non
      · exact q.elim
    · exact q.elim
  · exact q.elim
end
/-! names of the text's top that stand for data -/
theorem de_glob {X : Cx} {g : G} {E : XD} {x : Str} {v : V} {u : Value} {pos : Pos} (d : D) (hg : Gl X x) (hm : X.mg x = some u) (r : RelV v u) (hd : ∀ m H, RV g m H d v) (hdb : (x == ("__debug__" : Str)) = false := by decide) : PE X (.Name x pos) (tD g E (eC d)) := de_c d (pe_glob hg hm r hdb) hd
def KD (K : PySem.W.Frag) (mg : Str → Option Value) (x : Str) (d : D) : Prop := ∃ v u, mg x = some u ∧ RelV v u ∧ ∀ (g : G) m H, g.K = K → RV g m H d v
theorem de_kd {X : Cx} {g : G} {E : XD} {x : Str} {pos : Pos} {mg : Str → Option Value} {d : D} (hg : Gl X x) (hm : X.mg = mg) (h : KD g.K mg x d) (hdb : (x == ("__debug__" : Str)) = false := by decide) : PE X (.Name x pos) (tD g E (eC d)) := by
  obtain ⟨v, u, h1, h2, h3⟩ := h
  exact de_glob d hg (by rw [hm]; exact h1) h2 (fun m H => h3 g m H rfl) hdb
theorem KD.int {K : PySem.W.Frag} {mg : Str → Option Value} {x : Str} {i : Int} {t : Tok} (h : mg x = some (.int i t)) : KD K mg x (.int i) := ⟨.int i, _, h, ⟨t, rfl⟩, fun _ _ _ _ => rv_int⟩
theorem KD.str {K : PySem.W.Frag} {mg : Str → Option Value} {x : Str} {i : Str} {t : Tok} (h : mg x = some (.str i t)) : KD K mg x (.str i) := ⟨.str i, _, h, ⟨t, rfl⟩, fun _ _ _ _ => rv_str⟩
theorem rvs_strs {g : G} {m : Mp} {H : Hp} : ∀ xs : List Str, RVs g m H (xs.map D.str) (xs.map V.str)
  | [] => .nil
  | x :: xs => .cons rv_str (rvs_strs xs)
theorem KD.tupS {K : PySem.W.Frag} {mg : Str → Option Value} {x : Str} {a : Addr} {xs : List Str} {od : Option Addr} {its : Array Value} {n : Nat} {sl : Array (Option Value)} (h : mg x = some (.ref a)) (l : K.lookup a = some ⟨.type "tuple", od, .seq its n, sl⟩) (hz : its.size ≤ 1000) (hv : Vals (xs.map V.str) its.toList) : KD K mg x (.tup (xs.map D.str)) := by
  refine ⟨.ref a, _, h, rfl, fun g m H hK => rv_tupv (vs := xs.map V.str) (.inr ?_) (rvs_strs xs)⟩
  have : (1000 : Nat) ≤ sizeLine := by decide
  exact ⟨_, its, n, by rw [hK]; exact l, rfl, rfl, by omega, hv⟩
theorem _root_.L2.Room.units65 {k : Nat} {A : Around} (r : Room k A) : A.units + 65 < cLine := by have := r.un; omega
/-! a, b = x, y -/
def sPar (i j : Nat) (a : Lc → Sto → R (List D)) : SF := fun L S => (a L S).bind fun ds S1 => match ds with
  | [v, w] => .ok (.nx ((L.set i (some v)).set j (some w))) S1
  | _ => .bad
theorem ds_par {X : Cx} {g : G} {E : XD} {pos : Pos} {i j : Nat} {x y : Str} {a b : Expr} {ls : Lc → Sto → R (List D)} {px py pt : Pos} {kt k2 : Nat} {pt2 : Pos} (hc : X.calm = true) (hN : X.N.Nodup) (hi : X.N[i]? = some x) (hj : X.N[j]? = some y) (hij : i ≠ j)
    (hx : X.env.scope.names.lookup x = some .local) (hy : X.env.scope.names.lookup y = some .local) (ha : PA X [a, b] (tL g E ls))
    (hw : swappedStores [.Tuple [.Name x px, .Name y py] kt pt] (.Tuple [a, b] k2 pt2) X.env = pure (some [x, y]))
    (hs : swapsWithSole [.Tuple [.Name x px, .Name y py] kt pt] (.Tuple [a, b] k2 pt2) pos.line X.env = pure false := by rfl) :
    PS X (.Assign [.Tuple [.Name x px, .Name y py] kt pt] (.Tuple [a, b] k2 pt2) pos) (tF g E (sPar i j ls)) := by
  refine (ps_par hc hN hi hj hij hx hy ha hw hs).imp fun Dn σ H h => ?_
  obtain ⟨m, S, L, r, l, q⟩ := h
  refine ⟨m, S, L, r, l, (Aft.bind q).mono fun ds m1 S1 H1 e1 r1 q1 vs rvs => ?_⟩
  split at q1
  · obtain ⟨v, w, rfl, hv, hw⟩ := rvs2 rvs
    exact ⟨v, w, rfl, q1.ok r1 _ (((l.ext e1).set hv i).set hw j)⟩
  · exact q1.elim
end VL

namespace VL
open PySem PySem.Spec PyProof.Rows L2
/-- a def that stands behind the top -/
structure FT (K : PySem.W.Frag) (mg : Str → Option Value) (x : Str) (st : Stmt) (ps : List Str) where
  f : Addr
  fd : FuncData
  fn : FunD K x x (defArgs st) (defBody st) (defScope st) [] [] f fd
  bn : Binds K fd ps []
  mgx : mg x = some (.ref f)
section
variable {X : Cx} {g : G} {E : XD} {pos : Pos} {elt tg iter : Expr} {ifs : List Expr} {scope : Scope} {own : List (Str × Nat)} {wk : DW} {ea : EF} {t : D → Lc → Sto → R Lc} {tt : Lc → Sto → R Bool} {te : EF}
theorem ds_setLcA {vs : List Nat} {i : Nat} {y : Str} {py spos : Pos} (hc : X.calm = true) (hN : X.N.Nodup) (hvs : own.map (·.2) = vs) (hy : X.N[i]? = some y) (hyl : X.env.scope.names.lookup y = some .local)
    (hsw : swapsWith (.ListComp elt [⟨tg, iter, ifs, 0⟩] scope pos) (some (.Name y py)) spos.line X.env = pure true) (hi : PIA X g E wk tg iter ea) (ok : BlkOk X.N X.env.scope scope own)
    (hg : ∀ (s : Shared) (H : Hp) (C : Addr) (cl : List (Str × Addr)) (fp : List Addr), PG (X.blk s H scope (compEnvC scope cl C X.env) fp) tg (tG g NoX (WpP vs) t)) (ht : ∀ (s : Shared) (H : Hp) (C : Addr) (cl : List (Str × Addr)) (fp : List Addr), PTs (X.blk s H scope (compEnvC scope cl C X.env) fp) ifs (tT g NoX tt))
    (he : ∀ (s : Shared) (H : Hp) (C : Addr) (cl : List (Str × Addr)) (fp : List Addr), PE (X.blk s H scope (compEnvC scope cl C X.env) fp) elt (tD g NoX te)) (hs : ∀ x, foldedSetIterable iter X.env x = pure x := by intro _; rfl) :
    PS X (.Assign [.Name y py] (.ListComp elt [⟨tg, iter, ifs, 0⟩] scope pos) spos) (tF g E (sSet i (eLcA wk ea t tt te vs))) := by
  refine ⟨fun pins s σ H Dn I h => ?_⟩
  obtain ⟨m, S, L, r, l, q⟩ := h
  by_cases hv : ∃ n ks vs' d S', ea L S = .ok d S' ∧ isSD d S' = some (n, ks, vs')
  · obtain ⟨n, ks, vs', d0, S', hr, hsd⟩ := hv
    have q' : Aft g E m H (((lcL (fun _ => true) t tt te (wipeL L vs) (wk.ds ks vs') [] (S'.set n (.dlk ks vs'))).calm.bind fun x S3 => (unlk n S3).bind fun _ S4 => .ok x S4).bind fun d S1 => .ok (.nx (L.set i (some d))) S1) (fQ g Dn) := by
      unfold sSet eLcA at q
      rw [hr] at q
      have q0 : Aft g E m H ((match isSD d0 S' with
        | some p => (lcL (fun _ => true) t tt te (wipeL L vs) (wk.ds p.2.1 p.2.2) [] (S'.set p.1 (.dlk p.2.1 p.2.2))).calm.bind fun x S3 => (unlk p.1 S3).bind fun _ S4 => .ok x S4
        | none => (wkA wk d0 S').bind fun W S2 => lcL W.ok t tt te (wipeL L vs) W.ds [] S2).bind fun d S1 => .ok (.nx (L.set i (some d))) S1) (fQ g Dn) := q
      rw [hsd] at q0
      exact q0
    have q'' : Aft g E m H ((lcL (fun _ => true) t tt te (wipeL L vs) (wk.ds ks vs') [] (S'.set n (.dlk ks vs'))).calm.bind fun x S3 => (unlk n S3).bind fun _ S4 => .ok (.nx (L.set i (some x))) S4) (fQ g Dn) := by
      cases hz : (lcL (fun _ => true) t tt te (wipeL L vs) (wk.ds ks vs') [] (S'.set n (.dlk ks vs'))).calm with
      | ok x S3 =>
        rw [hz] at q'
        simp only [R.bind_ok] at q' ⊢
        cases hy : unlk n S3 with
        | ok y S4 => rw [hy] at q'; exact q'
        | exc c fs S4 => rw [hy] at q'; exact q'
        | bad => rw [hy] at q'; exact q'
      | exc c fs S3 => rw [hz] at q'; exact q'
      | bad => rw [hz] at q'; exact q'
    subst hvs
    refine (ps_unl (ps_setLc hc hN hy hyl hsw hi.u ok hg ht he hs)).run pins s σ H Dn I ⟨m, S, L, r, l, ?_⟩
    rw [hr]
    intro m1 H1 e1 r1
    obtain ⟨rfl, e0, a, kvs, ha, hH, h4, h5⟩ := sd_at r1 hsd
    refine ⟨n, a, ks, vs', kvs, rfl, ha, e0, hH, h4, h5, fun od nf J hJ => ?_⟩
    have lk := Lk1.start (od := od) r1 ha e0 hH h4 h5
    have q3 := Aft.calmA (Aft.later q'' e1) ⟨m1.l, m1.o, (n, a) :: m1.k⟩ (upd H1 a (.frz od (.dK kvs)))
    refine lc_loop (W := ⟨wk.ds ks vs', fun _ => true⟩) (Q := fun v H' => ∃ d od u, H' d = some (.frz od u) ∧ NF X d ∧ Dn.nx (σ.set i (some v)) (upd H' d u)) lk.r ((l.ext e1).extw lk.ex) hJ q3 fun d m2 S2 H2 v e2 r2 q4 rv => ?_
    obtain ⟨m3, S3, e3, r3, q5⟩ := (lk.on e2 r2).done r1 ha hH q4
    refine ⟨a, od, _, (lk.on e2 r2).at_, nf, q5.ok r3 _ ?_⟩
    exact RL.set ((((l.ext e1).extw lk.ex).ext e2).extw e3) (rv.extw e3) i
  · refine (ds_setLc hc hN hvs hy hyl hsw hi.v ok hg ht he hs).run pins s σ H Dn I ⟨m, S, L, r, l, ?_⟩
    unfold sSet eLcA at q
    unfold sSet eLc wAk
    cases hr : ea L S with
    | ok d S' =>
      rw [hr] at q
      cases hsd : isSD d S' with
      | some p => exact absurd ⟨p.1, p.2.1, p.2.2, d, S', hr, hsd⟩ hv
      | none =>
        have q' : Aft g E m H ((match isSD d S' with
          | some p => (lcL (fun _ => true) t tt te (wipeL L vs) (wk.ds p.2.1 p.2.2) [] (S'.set p.1 (.dlk p.2.1 p.2.2))).calm.bind fun x S3 => (unlk p.1 S3).bind fun _ S4 => .ok x S4
          | none => (wkA wk d S').bind fun W S2 => lcL W.ok t tt te (wipeL L vs) W.ds [] S2).bind fun d S1 => .ok (.nx (L.set i (some d))) S1) (fQ g Dn) := q
        rw [hsd] at q'
        exact q'
    | exc c fs S' => rw [hr] at q; exact q
    | bad => rw [hr] at q; exact q
end
end VL

namespace VL
open PySem PySem.Spec PyProof.Rows L2
/-- it comes to an end as wanted -/
structure Ok {a : Type} (r : R a) (Q : a → Sto → Prop) : Prop where
  out : ∃ x S, r = .ok x S ∧ Q x S
/-! the facts behind the top, by one more Bool -/
abbrev AlE : Type := He.AlD × Bool
def obsE (fa : List He.Fa) (fn : List He.DefD) (ex : PySem.W.Frag → Bool) (K : PySem.W.Frag) : AlE := (He.obsD fa fn K, ex K)
def obsEG (n : Nat) (fa : List He.Fa) (fn : List He.DefD) (ex : PySem.W.Frag → Bool) (g : Addr → Option Obj) : AlE := obsE fa fn ex (He.frG g (He.asD g n))
def SaysE (fa : List He.Fa) (fn : List He.DefD) (ex : PySem.W.Frag → Bool) (K : PySem.W.Frag) : Prop := obsE fa fn ex K = (He.valD fn, true)
def hookE (n : Nat) (fa : List He.Fa) (fn : List He.DefD) (ex : PySem.W.Frag → Bool) : PySem.W.Hook where
  α := AlE
  obs := fun s => obsEG n fa fn ex s.heap.get?
  val := fun _ => (He.valD fn, true)
  says := fun _ h => ∃ K : PySem.W.Frag, K.In h ∧ SaysE fa fn ex K
  of := fun _ _ e => ⟨_, He.frG_in, e⟩
  keeps := fun _ _ _ ⟨K, hK, c⟩ k => ⟨K, PySem.W.Frag.In.keeps hK k, c⟩
theorem obsEG_eq {n : Nat} {fa : List He.Fa} {fn : List He.DefD} {ex : PySem.W.Frag → Bool} {g : Addr → Option Obj} {s : Shared} (h : ∀ a, g a = s.heap.get? a) : obsEG n fa fn ex g = (hookE n fa fn ex).obs s := by
  have e : g = s.heap.get? := funext h
  rw [e] <;> rfl
theorem SaysE.d {fa : List He.Fa} {fn : List He.DefD} {ex : PySem.W.Frag → Bool} {K : PySem.W.Frag} (c : SaysE fa fn ex K) : He.SaysD fa fn K := congrArg (fun z : AlE => z.1) c
theorem SaysE.x {fa : List He.Fa} {fn : List He.DefD} {ex : PySem.W.Frag → Bool} {K : PySem.W.Frag} (c : SaysE fa fn ex K) : ex K = true := congrArg (fun z : AlE => z.2) c
/-! the law row's end -/
theorem walk_ofEB {l : PySem.W.OpenLaw} {n k : Nat} {q : Program} {loose : List Str} {XP : (Str → Option Value) → Heap → Prop} {YP : World → Heap → Prop} {d : DefRec} {CX : World → CXT} {x : Str}
    (hn : l.most = some n) (hn2 : n ≤ sizeLine) (hdf : d.params.defaults = []) (hr : Room k callerA)
    (F : ∀ (w : World) (mg : Str → Option Value) (fa : Addr) (h : Heap), YP w h → h.Ns mainGlobals mg → mg d.name = some (.ref fa) →
      ∃ (K : PySem.W.Frag) (fd : FuncData) (sp : Sp), K.In h ∧ (∀ (s : Shared) (u : Value), BindsTo s fd ⟨[u], []⟩ [(x, u)]) ∧
        (∀ (H : Hp) (a : Addr) (ns : List Int), ns.length ≤ n → (∀ z ∈ ns, Builtin.Int.intBits z ≤ 1048576) → Only H → SqL K H a (ns.map V.int) → sp [.ref a] H (fun v _ => v = .bl true) fun _ _ _ => False) ∧
        ∀ base : Heap, K.In base → base.Ns mainGlobals mg → FnOk l.prog w K mg base (CX w) k fa fd [x] sp)
    (hCX : ∀ (w : World) (H : Hp) (s : Shared) (e : Value) (s' : Shared), CX w [] H s (fun _ _ _ => False) e s' → False) :
    PySem.W.WalkO q loose XP YP l.row.toRowW d [] (fun f vs => PySem.call f vs) := by
  refine Att.attach_callB hn hdf fun w s₀ s₁ mg mb fa o pm cd doc a vs ns G Y ho hd hcd hmg hobj hints hlen hbits hg => ?_
  obtain ⟨K, fd, sp, KX, hb, hsp, hF⟩ := F w mg fa _ Y G.T.g hmg
  exact law_call KX G.T.g G.T.b G.T.builtins G.T.nolimit hg hobj hints (Nat.le_trans hlen hn2) hr hF hb (fun H hO hS => hsp H a ns hlen hbits hO hS) fun H e s' => hCX w H s₁ e s'
def gS (K : PySem.W.Frag) (cs : List (String × Str)) : G := ⟨K, fun _ => none, fun c => (cs.lookup c).map fun x => He.ga K x, fun _ _ => True, fun _ _ => trivial⟩
theorem law_sp {F : List D → Sto → R D} (hF : ∀ ns : List Int, ns.length ≤ 63 → (∀ z ∈ ns, Builtin.Int.intBits z ≤ 1048576) → Ok (F [.scr ns] []) fun d _ => d = .bl true)
    (K : PySem.W.Frag) (cs : List (String × Str)) (H : Hp) (a : Addr) (ns : List Int) (hl : ns.length ≤ 63) (hb : ∀ z ∈ ns, Builtin.Int.intBits z ≤ 1048576) (hO : Only H) (hS : SqL K H a (ns.map V.int)) (E : XK) : spD (gS K cs) 1 F [.ref a] H (fun v _ => v = .bl true) E := by
  refine ⟨rfl, Mp.nil, [], [.scr ns], ⟨rfl, fun n k b h => by simp [Mp.nil] at h, fun n b ob h => by simp [Mp.nil] at h, fun n b h => by simp [Mp.nil] at h, fun b h => by simp [Mp.nil] at h, fun b h => by simp [Mp.nil] at h, trivial⟩, .cons (rv_scr ?_) .nil, ?_⟩
  · rcases hS with (h | ⟨o, h⟩) | h
    · rcases hO a with z | ⟨o, xs, z⟩
      · rw [z] at h; cases h
      · rw [z] at h; cases h
    · exact .inl ⟨⟨o, h⟩, fun n => by simp [Mp.nil], by simp [Mp.nil]⟩
    · exact .inr h
  · obtain ⟨d, S', e, rfl⟩ := (hF ns hl hb).out
    show Aft _ _ _ _ (F [.scr ns] []) _
    rw [e]
    exact fun m' H' _ _ v rv => of_bl rv
theorem noCX (P : Program) (w : World) (H : Hp) (s : Shared) (e : Value) (s' : Shared) (h : L2.CX P w [] H s (fun _ _ _ => False) e s') : False := by
  obtain ⟨_, _, _, _, _, _, _, _, _, _, _, _, z⟩ := h
  exact z
/-! from the facts -/
section
variable {K : PySem.W.Frag} {h : Heap} {mg : Str → Option Value}
theorem FT.ofD (X : K.In h) (G : h.Ns mainGlobals mg) {x : Str} {st : Stmt} {ps : List Str} {d : He.DefD} {fd : FuncData} (F : FunD K d.name d.qual d.params d.body d.scope (d.dvs K) (d.kws K) (He.fAd K d.at_) fd) (hd : d = ⟨(x, none), x, x, defArgs st, defBody st, defScope st, [], []⟩)
    (hb : ∀ (kV doc pm : Value) (an : Option Addr) (cdv ct : Value) (us : List Value), us.length = ps.length → bindArgs (PySem.W.fnOf x x (defArgs st) (defBody st) (defScope st) .none kV doc pm an cdv ct) ⟨us, []⟩ = pure (ps.zip us))
    (c : (He.Fa.glo x).ok K = true) : Nonempty (FT K mg x st ps) := by
  subst hd
  exact ⟨⟨_, fd, F, FunD.bindsN F hb, He.glo_ok X G c⟩⟩
theorem KD.ofInt (X : K.In h) (G : h.Ns mainGlobals mg) {x : Str} {i : Int} (c : (He.Fa.int x i).ok K = true) : KD K mg x (.int i) := by
  obtain ⟨t, e⟩ := He.int_ok X G c
  exact KD.int e
theorem KD.ofStr (X : K.In h) (G : h.Ns mainGlobals mg) {x i : Str} (c : (He.Fa.str x i).ok K = true) : KD K mg x (.str i) := by
  obtain ⟨t, e⟩ := He.str_ok X G c
  exact KD.str e
theorem KD.ofTupS (X : K.In h) (G : h.Ns mainGlobals mg) {x : Str} {xs : List Str} (c : (He.Fa.glo x).ok K = true) (t : He.tupB K x (xs.map He.Dv.str) = true) : KD K mg x (.tup (xs.map D.str)) := by
  refine ⟨.ref (He.ga K x), _, He.glo_ok X G c, rfl, fun g m H hK => ?_⟩
  have e : (xs.map He.Dv.str).map (He.Dv.v K) = xs.map V.str := by rw [List.map_map]; rfl
  have hs := He.tupB_ok t (fun _ => none)
  rw [e] at hs
  rcases hs with (z | ⟨o, z⟩) | z
  · cases z
  · cases z
  · exact rv_tupv (vs := xs.map V.str) (.inr (by rw [hK]; exact z)) (rvs_strs xs)
end
end VL

/-! reckoning with mirrors: Ok r Q, the run r ends well and Q holds of its end -/
namespace VL
open PySem PySem.Spec PyProof.Rows L2
section
variable {a b : Type} {Q Q' : a → Sto → Prop}
theorem Ok_ok (x : a) (S : Sto) : Ok (.ok x S) Q = Q x S := propext ⟨fun h => by obtain ⟨y, S', e, q⟩ := h.out; cases e; exact q, fun h => ⟨x, S, rfl, h⟩⟩
theorem Ok_bad : Ok (.bad : R a) Q = False := propext ⟨fun h => (by obtain ⟨y, S', e, q⟩ := h.out; cases e), fun h => h.elim⟩
theorem Ok_exc (c : String) (fs : List (Str × D)) (S : Sto) : Ok (.exc c fs S : R a) Q = False := propext ⟨fun h => (by obtain ⟨y, S', e, q⟩ := h.out; cases e), fun h => h.elim⟩
theorem Ok_bind (r : R b) (k : b → Sto → R a) : Ok (r.bind k) Q = Ok r fun x S => Ok (k x S) Q := by cases r <;> simp only [R.bind_ok, R.bind_exc, R.bind_bad, Ok_ok, Ok_exc, Ok_bad]
theorem Ok_calm (r : R a) : Ok r.calm Q = Ok r Q := by
  cases r with
  | exc c fs S => rw [Ok_exc, show (R.exc c fs S : R a).calm = .bad from rfl, Ok_bad]
  | _ => rfl
theorem Ok_ite (c : Prop) [Decidable c] (x y : R a) : Ok (if c then x else y) Q = if c then Ok x Q else Ok y Q := by split <;> rfl
theorem Ok.mono {r : R a} (h : Ok r Q) (k : ∀ x S, Q x S → Q' x S) : Ok r Q' := by
  obtain ⟨x, S, e, q⟩ := h.out
  exact ⟨x, S, e, k x S q⟩
theorem Ok_at {r : R a} {x : a} {S : Sto} (e : r = .ok x S) : Ok r Q = Q x S := by rw [e, Ok_ok]
end
section
variable {L : Lc} {S : Sto} {Q : D → Sto → Prop} {Qb : Bool → Sto → Prop} {Ql : List D → Sto → Prop} {Qf : Fl → Sto → Prop} {Qg : Lc → Sto → Prop} {Qw : Wk → Sto → Prop}
theorem ok_eC (d : D) : Ok (eC d L S) Q = Q d S := Ok_ok _ _
theorem ok_eUn (f : D → Sto → R D) (x : Lc → Sto → R D) : Ok (eUn f x L S) Q = Ok (x L S) fun d S1 => Ok (f d S1) Q := by simp only [eUn, Ok_bind]
theorem ok_eBin (f : D → D → Sto → R D) (x y : Lc → Sto → R D) : Ok (eBin f x y L S) Q = Ok (x L S) fun d S1 => Ok (y L S1) fun d' S2 => Ok (f d d' S2) Q := by simp only [eBin, Ok_bind]
theorem ok_aNil : Ok (aNil L S) Ql = Ql [] S := Ok_ok _ _
theorem ok_aCons (x : Lc → Sto → R D) (y : Lc → Sto → R (List D)) : Ok (aCons x y L S) Ql = Ok (x L S) fun d S1 => Ok (y L S1) fun ds S2 => Ql (d :: ds) S2 := by simp only [aCons, Ok_bind, Ok_ok]
theorem ok_eCall (f : List D → Sto → R D) (x : Lc → Sto → R (List D)) : Ok (eCall f x L S) Q = Ok (x L S) fun d S1 => Ok (f d S1) Q := by simp only [eCall, Ok_bind]
theorem ok_newL {xs : List D} : Ok (newL xs S) Q = (xs.length ≤ sizeLine ∧ Q (.lst xs) S) := by
  unfold newL
  by_cases h : xs.length ≤ sizeLine
  · rw [if_pos h, Ok_ok]; simp [h]
  · rw [if_neg h, Ok_bad]; simp [h]
theorem ok_newM {xs : List D} : Ok (newM xs S) Q = (xs.length ≤ sizeLine ∧ Q (.ref S.length) (S ++ [.lst xs])) := by
  unfold newM
  by_cases h : xs.length ≤ sizeLine
  · rw [if_pos h, Ok_ok]; simp [h]
  · rw [if_neg h, Ok_bad]; simp [h]
theorem ok_eTup (x : Lc → Sto → R (List D)) : Ok (eTup x L S) Q = Ok (x L S) fun ds S1 => ds.length ≤ sizeLine ∧ Q (.tup ds) S1 := by
  simp only [eTup, Ok_bind, Ok_ite]
  congr 1
  funext ds S1
  by_cases h : ds.length ≤ sizeLine <;> simp [h, Ok_ok, Ok_bad]
theorem ok_eLst (x : Lc → Sto → R (List D)) : Ok (eLst x L S) Q = Ok (x L S) fun ds S1 => ds.length ≤ sizeLine ∧ Q (.lst ds) S1 := by simp only [eLst, Ok_bind, ok_newL]
theorem ok_eLstM (x : Lc → Sto → R (List D)) : Ok (eLstM x L S) Q = Ok (x L S) fun ds S1 => ds.length ≤ sizeLine ∧ Q (.ref S1.length) (S1 ++ [.lst ds]) := by simp only [eLstM, Ok_bind, ok_newM]
theorem ok_eAnd (x y : Lc → Sto → R D) : Ok (eAnd x y L S) Q = Ok (x L S) fun d S1 => Ok (truD d S1) fun c S2 => if c = true then Ok (y L S2) Q else Q d S2 := by simp only [eAnd, Ok_bind, Ok_ite, Ok_ok]
theorem ok_eOr (x y : Lc → Sto → R D) : Ok (eOr x y L S) Q = Ok (x L S) fun d S1 => Ok (truD d S1) fun c S2 => if c = true then Q d S2 else Ok (y L S2) Q := by simp only [eOr, Ok_bind, Ok_ite, Ok_ok]
theorem ok_eNot (x : Lc → Sto → R D) : Ok (eNot x L S) Q = Ok (x L S) fun d S1 => Ok (truD d S1) fun c S2 => Q (.bl (!c)) S2 := by simp only [eNot, Ok_bind, Ok_ok]
theorem ok_eIf (t : Lc → Sto → R Bool) (x y : Lc → Sto → R D) : Ok (eIf t x y L S) Q = Ok (t L S) fun c S1 => if c = true then Ok (x L S1) Q else Ok (y L S1) Q := by simp only [eIf, Ok_bind, Ok_ite]
theorem ok_tTru (x : Lc → Sto → R D) : Ok (tTru x L S) Qb = Ok (x L S) fun d S1 => Ok (truD d S1) Qb := by simp only [tTru, Ok_bind]
theorem ok_tBl (x : Lc → Sto → R D) : Ok (tBl x L S) Qb = Ok (x L S) fun d S1 => match d with | .bl b => Qb b S1 | _ => False := by
  simp only [tBl, Ok_bind]
  congr 1
  funext d S1
  cases d <;> simp only [Ok_ok, Ok_bad]
theorem ok_tAnd2 (x y : Lc → Sto → R Bool) : Ok (tAnd2 x y L S) Qb = Ok (x L S) fun c S1 => if c = true then Ok (y L S1) Qb else Qb false S1 := by simp only [tAnd2, Ok_bind, Ok_ite, Ok_ok]
theorem ok_tOr2 (x y : Lc → Sto → R Bool) : Ok (tOr2 x y L S) Qb = Ok (x L S) fun c S1 => if c = true then Qb true S1 else Ok (y L S1) Qb := by simp only [tOr2, Ok_bind, Ok_ite, Ok_ok]
theorem ok_tNot1 (x : Lc → Sto → R Bool) : Ok (tNot1 x L S) Qb = Ok (x L S) fun c S1 => Qb (!c) S1 := by simp only [tNot1, Ok_bind, Ok_ok]
theorem ok_sNx : Ok (sNx L S) Qf = Qf (.nx L) S := Ok_ok _ _
theorem ok_sSeq (x y : SF) : Ok (sSeq x y L S) Qf = Ok (x L S) fun f S1 => match f with | .nx L1 => Ok (y L1 S1) Qf | f => Qf f S1 := by
  simp only [sSeq, Ok_bind]
  congr 1
  funext f S1
  cases f <;> simp only [Ok_ok]
theorem ok_sSet (i : Nat) (x : Lc → Sto → R D) : Ok (sSet i x L S) Qf = Ok (x L S) fun d S1 => Qf (.nx (L.set i (some d))) S1 := by simp only [sSet, Ok_bind, Ok_ok]
theorem ok_sRet (x : Lc → Sto → R D) : Ok (sRet x L S) Qf = Ok (x L S) fun d S1 => Qf (.rt d) S1 := by simp only [sRet, Ok_bind, Ok_ok]
theorem ok_sDrop (x : Lc → Sto → R D) : Ok (sDrop x L S) Qf = Ok (x L S) fun _ S1 => Qf (.nx L) S1 := by simp only [sDrop, Ok_bind, Ok_ok]
theorem ok_sIf (t : Lc → Sto → R Bool) (x y : SF) : Ok (sIf t x y L S) Qf = Ok (t L S) fun c S1 => if c = true then Ok (x L S1) Qf else Ok (y L S1) Qf := by simp only [sIf, Ok_bind, Ok_ite]
theorem ok_sAsg (x : Lc → Sto → R D) (t : D → Lc → Sto → R Lc) : Ok (sAsg x t L S) Qf = Ok (x L S) fun d S1 => Ok (t d L S1) fun L2 S2 => Qf (.nx L2) S2 := by simp only [sAsg, Ok_bind, Ok_ok]
theorem ok_gNm (i : Nat) (d : D) : Ok (gNm i d L S) Qg = Qg (L.set i (some d)) S := Ok_ok _ _
theorem ok_gIx (o i : Lc → Sto → R D) (f : D → D → D → Sto → R Unit) (d : D) : Ok (gIx o i f d L S) Qg = Ok (o L S) fun x S1 => Ok (i L S1) fun y S2 => Ok (f x y d S2) fun _ S3 => Qg L S3 := by simp only [gIx, Ok_bind, Ok_ok]
theorem ok_tYesD : Ok (tYesD L S) Qb = Qb true S := Ok_ok _ _
theorem ok_wAk (wk : DW) (x : Lc → Sto → R D) : Ok (wAk wk x L S) Qw = Ok (x L S) fun d S1 => Ok (wkA wk d S1) Qw := by simp only [wAk, Ok_bind]
theorem ok_eSl (x : Lc → Sto → R D) (lo hi : Lc → Sto → R (Option Int)) : Ok (eSl x lo hi L S) Q = Ok (x L S) fun d S1 => Ok (lo L S1) fun l S2 => Ok (hi L S2) fun h S3 => Ok (slD d l h S3) Q := by simp only [eSl, Ok_bind]
theorem ok_eVar (i : Nat) : Ok (eVar i L S) Q = match L[i]? with | some (some d) => Q d S | _ => False := by
  unfold eVar
  cases L[i]? with
  | none => exact Ok_bad
  | some o => cases o <;> simp only [Ok_ok, Ok_bad]
theorem ok_truD_bl (c : Bool) : Ok (truD (.bl c) S) Qb = Qb c S := Ok_ok _ _
theorem ok_pNo {Qp : Option Int → Sto → Prop} : Ok (pNo L S) Qp = Qp none S := Ok_ok _ _
theorem ok_pSo {Qp : Option Int → Sto → Prop} (x : Lc → Sto → R D) : Ok (pSo x L S) Qp = Ok (x L S) fun d S1 => match d with | .int i => Qp (some i) S1 | _ => False := by
  simp only [pSo, Ok_bind]
  congr 1
  funext d S1
  cases d <;> simp only [Ok_ok, Ok_bad]
theorem ok_ari {n : Nat} {F : List D → Sto → R D} {ds : List D} (h : ds.length = n) : Ok (ari n F ds S) Q = Ok (F ds S) Q := by unfold ari; rw [if_pos h]
theorem ari0 {F : List D → Sto → R D} : ari 0 F [] S = F [] S := rfl
theorem ari1 {F : List D → Sto → R D} {a : D} : ari 1 F [a] S = F [a] S := rfl
theorem ari2 {F : List D → Sto → R D} {a b : D} : ari 2 F [a, b] S = F [a, b] S := rfl
theorem ari3 {F : List D → Sto → R D} {a b c : D} : ari 3 F [a, b, c] S = F [a, b, c] S := rfl
theorem ari4 {F : List D → Sto → R D} {a b c d : D} : ari 4 F [a, b, c, d] S = F [a, b, c, d] S := rfl
theorem ari5 {F : List D → Sto → R D} {a b c d e : D} : ari 5 F [a, b, c, d, e] S = F [a, b, c, d, e] S := rfl
theorem ok_dDef {n : Nat} {fb : SF} {ds : List D} : Ok (dDef n fb ds S) Q = Ok (fb (ds.map some ++ List.replicate (n - ds.length) none) S) fun f S' => match f with | .rt d => Q d S' | .nx _ => Q .non S' | _ => False := by
  simp only [dDef, Ok_bind]
  congr 1
  funext f S1
  cases f <;> simp only [Ok_ok, Ok_bad]
theorem ok_sFor {w : Lc → Sto → R Wk} {t : D → Lc → Sto → R Lc} {fb : SF} : Ok (sFor w t fb L S) Qf = Ok (w L S) fun W S1 => Ok (forL W.ok t fb W.ds L S1) Qf := by simp only [sFor, Ok_bind]
theorem ok_eLc {w : Lc → Sto → R Wk} {t : D → Lc → Sto → R Lc} {tt : Lc → Sto → R Bool} {te : Lc → Sto → R D} {vs : List Nat} : Ok (eLc w t tt te vs L S) Q = Ok (w L S) fun W S1 => Ok (lcL W.ok t tt te (wipeL L vs) W.ds [] S1) Q := by simp only [eLc, Ok_bind]
theorem ok_eChain (f f' : D → D → Sto → R D) (a b c : Lc → Sto → R D) : Ok (eChain f f' a b c L S) Q = Ok (a L S) fun x S1 => Ok (b L S1) fun y S2 => Ok (f x y S2) fun z S3 => match z with | .bl true => Ok (c L S3) fun w S4 => Ok (f' y w S4) Q | .bl false => Q (.bl false) S3 | _ => False := by
  simp only [eChain, Ok_bind]
  congr 1
  funext x S1
  congr 1
  funext y S2
  congr 1
  funext z S3
  cases z with
  | bl q => cases q <;> simp only [Ok_ok, Ok_bind, if_true, Bool.false_eq_true, if_false]
  | _ => simp only [Ok_bad]
theorem ok_sMatch (e : Lc → Sto → R D) (f : D → SF) : Ok (sMatch e f L S) Qf = Ok (e L S) fun d S1 => Ok (f d L S1) Qf := by simp only [sMatch, Ok_bind]
theorem ok_mCase (i : Nat) (t : Lc → Sto → R Bool) (b : SF) (rest : D → SF) (d : D) : Ok (mCase i t b rest d L S) Qf = Ok (t (L.set i (some d)) S) fun k S1 => if k = true then Ok (b (L.set i (some d)) S1) Qf else Ok (rest d (L.set i (some d)) S1) Qf := by simp only [mCase, Ok_bind, Ok_ite]
theorem ok_mElse (b : SF) (d : D) : Ok (mElse b d L S) Qf = Ok (b L S) Qf := rfl
theorem ok_gCons2 (t : D → Lc → Sto → R Lc) (u : List D → Lc → Sto → R Lc) (d : D) (ds : List D) : Ok (gCons2 t u (d :: ds) L S) Qg = Ok (t d L S) fun L1 S1 => Ok (u ds L1 S1) Qg := by simp only [gCons2, Ok_bind]
theorem ok_gNil2 : Ok (gNil2 [] L S) Qg = Qg L S := Ok_ok _ _
theorem ok_sPar2 (i j : Nat) (a : Lc → Sto → R (List D)) : Ok (sPar i j a L S) Qf = Ok (a L S) fun ds S1 => match ds with | [v, w] => Qf (.nx ((L.set i (some v)).set j (some w))) S1 | _ => False := by
  simp only [sPar, Ok_bind]
  congr 1
  funext ds S1
  rcases ds with _ | ⟨a, _ | ⟨b, _ | ⟨c, ds⟩⟩⟩ <;> simp only [Ok_ok, Ok_bad]
end
/-- a loop by what holds ahead of each turn -/
theorem for_inv {ok : Sto → Bool} {t : D → Lc → Sto → R Lc} {fb : SF} {Q : Fl → Sto → Prop} (I : List D → Lc → Sto → Prop)
    (step : ∀ d ds L S, I (d :: ds) L S → ok S = true ∧ Ok (t d L S) fun L1 S1 => Ok (fb L1 S1) fun f S2 => match f with
      | .nx L2 => I ds L2 S2
      | .ct L2 => I ds L2 S2
      | .bk L2 => Q (.nx L2) S2
      | .rt v => Q (.rt v) S2)
    (fin : ∀ L S, I [] L S → ok S = true ∧ Q (.nx L) S) : ∀ (ds : List D) (L : Lc) (S : Sto), I ds L S → Ok (forL ok t fb ds L S) Q
  | [], L, S, h => by
    obtain ⟨h1, h2⟩ := fin L S h
    unfold forL
    rw [if_pos h1, Ok_ok]
    exact h2
  | d :: ds, L, S, h => by
    obtain ⟨h1, h2⟩ := step d ds L S h
    unfold forL
    rw [if_pos h1, Ok_bind]
    refine h2.mono fun L1 S1 h3 => ?_
    rw [Ok_bind]
    refine h3.mono fun f S2 h4 => ?_
    cases f with
    | nx L2 => exact for_inv I step fin ds L2 S2 h4
    | ct L2 => exact for_inv I step fin ds L2 S2 h4
    | bk L2 => simp only [Ok_ok]; exact h4
    | rt v => simp only [Ok_ok]; exact h4
/-- a list comprehension by what holds ahead of each turn: the items left, the new list so far -/
theorem lc_inv {ok : Sto → Bool} {t : D → Lc → Sto → R Lc} {tt : Lc → Sto → R Bool} {te : Lc → Sto → R D} {L : Lc} {Q : D → Sto → Prop} (I : List D → List D → Sto → Prop)
    (step : ∀ d ds acc S, I (d :: ds) acc S → ok S = true ∧ Ok (t d L S) fun L1 S1 => Ok (tt L1 S1) fun c S2 => if c = true then Ok (te L1 S2) fun y S3 => acc.length < sizeLine ∧ I ds (acc ++ [y]) S3 else I ds acc S2)
    (fin : ∀ acc S, I [] acc S → ok S = true ∧ Q (.lst acc) S) : ∀ (ds acc : List D) (S : Sto), I ds acc S → Ok (lcL ok t tt te L ds acc S) Q
  | [], acc, S, h => by
    obtain ⟨h1, h2⟩ := fin acc S h
    unfold lcL
    rw [if_pos h1, Ok_ok]
    exact h2
  | d :: ds, acc, S, h => by
    obtain ⟨h1, h2⟩ := step d ds acc S h
    unfold lcL
    rw [if_pos h1, Ok_bind, Ok_calm]
    refine h2.mono fun L1 S1 h3 => ?_
    rw [Ok_bind, Ok_calm]
    refine h3.mono fun c S2 h4 => ?_
    cases c with
    | false => exact lc_inv I step fin ds acc S2 h4
    | true =>
      simp only [if_true] at h4 ⊢
      rw [Ok_bind, Ok_calm]
      refine h4.mono fun y S3 h5 => ?_
      obtain ⟨hz, h6⟩ := h5
      rw [if_pos hz]
      exact lc_inv I step fin ds (acc ++ [y]) _ h6
/-- the map of a comprehension whose element changes nothing -/
theorem lc_map {ok : Sto → Bool} {t : D → Lc → Sto → R Lc} {te : Lc → Sto → R D} {L : Lc} {S : Sto} (f : D → D) (hok : ok S = true) : ∀ (ds acc : List D), acc.length + ds.length ≤ sizeLine →
    (∀ d ∈ ds, Ok (t d L S) fun L1 S1 => S1 = S ∧ te L1 S = .ok (f d) S) → lcL ok t tYesD te L ds acc S = .ok (.lst (acc ++ ds.map f)) S
  | [], acc, _, _ => by
    unfold lcL
    rw [if_pos hok]
    simp
  | d :: ds, acc, hl, h => by
    obtain ⟨L1, S1, e1, rfl, e2⟩ := (h d (by simp)).out
    unfold lcL
    rw [if_pos hok, e1]
    simp only [R.calm_ok, R.bind_ok, tYesD, if_true, e2]
    simp only [List.length_cons] at hl
    rw [if_pos (by omega), lc_map f hok ds (acc ++ [f d]) (by simp; omega) fun d' hd' => h d' (by simp [hd'])]
    simp
/-- .. of a bool, with all(..) -/
theorem lc_filter {ok : Sto → Bool} {t : D → Lc → Sto → R Lc} {tt : Lc → Sto → R Bool} {te : Lc → Sto → R D} {L : Lc} {S : Sto} (p : D → Bool) (f : D → D) (hok : ok S = true) : ∀ (ds acc : List D), acc.length + ds.length ≤ sizeLine →
    (∀ d ∈ ds, Ok (t d L S) fun L1 S1 => S1 = S ∧ tt L1 S = .ok (p d) S ∧ te L1 S = .ok (f d) S) → lcL ok t tt te L ds acc S = .ok (.lst (acc ++ (ds.filter p).map f)) S
  | [], acc, _, _ => by
    unfold lcL
    rw [if_pos hok]
    simp
  | d :: ds, acc, hl, h => by
    obtain ⟨L1, S1, e1, rfl, e2, e3⟩ := (h d (by simp)).out
    unfold lcL
    rw [if_pos hok, e1]
    simp only [R.calm_ok, R.bind_ok, e2]
    simp only [List.length_cons] at hl
    cases hp : p d with
    | true =>
      simp only [if_true, e3, R.calm_ok, R.bind_ok]
      rw [if_pos (by omega), lc_filter p f hok ds (acc ++ [f d]) (by simp; omega) fun d' hd' => h d' (by simp [hd'])]
      simp [hp]
    | false =>
      simp only [Bool.false_eq_true, if_false]
      rw [lc_filter p f hok ds acc (by omega) fun d' hd' => h d' (by simp [hd'])]
      simp [hp]
/-! stores that grow -/
def Grow (S S' : Sto) : Prop := ∃ t, S' = S ++ t
theorem Grow.refl (S : Sto) : Grow S S := ⟨[], by simp⟩
theorem Grow.trans {S S1 S2 : Sto} (a : Grow S S1) (b : Grow S1 S2) : Grow S S2 := by
  obtain ⟨t, rfl⟩ := a
  obtain ⟨u, rfl⟩ := b
  exact ⟨t ++ u, by simp⟩
theorem Grow.add (S : Sto) (t : Sto) : Grow S (S ++ t) := ⟨t, rfl⟩
theorem Grow.get {S S' : Sto} (h : Grow S S') {n : Nat} {o : Ob} (e : S[n]? = some o) : S'[n]? = some o := by
  obtain ⟨t, rfl⟩ := h
  rw [List.getElem?_append_left (List.getElem?_eq_some_iff.mp e).1]
  exact e
theorem Grow.len {S S' : Sto} (h : Grow S S') : S.length ≤ S'.length := by
  obtain ⟨t, rfl⟩ := h
  simp
/-! bits -/
theorem bits_le {x : Int} {n : Nat} (h : x.natAbs < 2 ^ n) : Builtin.Int.intBits x ≤ n := PyProof.Rows.intBits_le h
theorem lt_bits {x : Int} {n : Nat} (h : Builtin.Int.intBits x ≤ n) : x.natAbs < 2 ^ n := by
  unfold Builtin.Int.intBits at h
  by_cases h0 : x.natAbs = 0
  · rw [h0]
    exact Nat.pow_pos (by decide)
  · rw [if_neg (by intro e; exact h0 (Int.natAbs_eq_zero.mpr (beq_iff_eq.mp e)))] at h
    exact (Nat.log2_lt h0).mp (by omega)
theorem p64 : (2 : Nat) ^ 64 = 18446744073709551616 := by decide
theorem bits_64 {x : Int} (h0 : 0 ≤ x) (h : x < 18446744073709551616) : Builtin.Int.intBits x ≤ 64 := bits_le (n := 64) (by rw [p64]; omega)
section
variable {S : Sto} {Q : D → Sto → Prop} {x y : Int}
theorem ok_mul {m n : Nat} (hx : Builtin.Int.intBits x ≤ m) (hy : Builtin.Int.intBits y ≤ n) (hmn : m + n ≤ 134217728) : Ok (mul2D (.int x) (.int y) S) Q = Q (.int (x * y)) S := by
  unfold mul2D mulD
  simp only
  rw [if_pos (by omega), Ok_ok]
theorem ok_mul64 (h0 : 0 ≤ x) (h1 : x < 18446744073709551616) (h2 : 0 ≤ y) (h3 : y < 18446744073709551616) : Ok (mul2D (.int x) (.int y) S) Q = Q (.int (x * y)) S := ok_mul (bits_64 h0 h1) (bits_64 h2 h3) (by decide)
theorem ok_add_int : Ok (addD (.int x) (.int y) S) Q = Q (.int (x + y)) S := Ok_ok _ _
theorem ok_sub_int : Ok (subD (.int x) (.int y) S) Q = Q (.int (x - y)) S := Ok_ok _ _
theorem ok_mod_int (h : 0 < y) : Ok (modD (.int x) (.int y) S) Q = Q (.int (x % y)) S := by unfold modD; simp only; rw [if_pos h, Ok_ok]
theorem ok_div_int (h : 0 < y) (h2 : y < 18446744073709551616) : Ok (fdiv2D (.int x) (.int y) S) Q = Q (.int (x / y)) S := by
  have h3 : y.natAbs.log2 < 9000 := by
    have h0 : y.natAbs ≠ 0 := by omega
    have := (Nat.log2_lt (k := 64) h0).mpr (by rw [p64]; omega)
    omega
  unfold fdiv2D
  simp only
  rw [if_pos ⟨by omega, h3⟩, Ok_ok, Int.fdiv_eq_ediv_of_nonneg _ (by omega)]
theorem ok_ord_int {f : Int → Int → Bool} : Ok (ordD f (.int x) (.int y) S) Q = Q (.bl (f x y)) S := Ok_ok _ _
theorem ok_abs_int : Ok (absD [.int x] S) Q = Q (.int (if x < 0 then -x else x)) S := Ok_ok _ _
theorem ok_intD_bl {b : Bool} : Ok (intD [.bl b] S) Q = Q (.int (if b = true then 1 else 0)) S := Ok_ok _ _
theorem ok_intD_int : Ok (intD [.int x] S) Q = Q (.int x) S := Ok_ok _ _
theorem ok_neg_int : Ok (negD (.int x) S) Q = Q (.int (-x)) S := Ok_ok _ _
theorem ok_pow_int (h : 0 ≤ y ∧ y ≤ 1000000 ∧ x.natAbs < 2 ^ 64) : Ok (powD (.int x) (.int y) S) Q = Q (.int (x ^ y.toNat)) S := by unfold powD; simp only; rw [if_pos h, Ok_ok]
theorem ok_eq_int {neg : Bool} : Ok (eqD neg (.int x) (.int y) S) Q = Q (.bl (neg != decide (x = y))) S := Ok_ok _ _
theorem ok_eq_str {neg : Bool} {x y : Str} : Ok (eqD neg (.str x) (.str y) S) Q = Q (.bl (neg != decide (x = y))) S := Ok_ok _ _
theorem ok_eq_bl {neg : Bool} {x y : Bool} : Ok (eqD neg (.bl x) (.bl y) S) Q = Q (.bl (neg != decide (x = y))) S := Ok_ok _ _
theorem ok_isNon {neg : Bool} {x : D} : Ok (isD neg x .non S) Q = Q (.bl (neg != x.isNon)) S := Ok_ok _ _
theorem ok_isBl {neg a b : Bool} : Ok (isD neg (.bl a) (.bl b) S) Q = Q (.bl (neg != decide (a = b))) S := Ok_ok _ _
theorem ok_isi_tup {k : Ki} {x : List D} : Ok (isiD k (.tup x) S) Q = Q (.bl (isTg .tup k)) S := Ok_ok _ _
theorem ok_isi_lst {k : Ki} {x : List D} : Ok (isiD k (.lst x) S) Q = Q (.bl (isTg .lst k)) S := Ok_ok _ _
theorem ok_isi_int {k : Ki} {x : Int} : Ok (isiD k (.int x) S) Q = Q (.bl (isTg .int k)) S := Ok_ok _ _
theorem ok_isi_str {k : Ki} {x : Str} : Ok (isiD k (.str x) S) Q = Q (.bl (isTg .str k)) S := Ok_ok _ _
theorem ok_isi_bl {k : Ki} {x : Bool} : Ok (isiD k (.bl x) S) Q = Q (.bl (isTg .bl k)) S := Ok_ok _ _
theorem ok_isi_non {k : Ki} : Ok (isiD k .non S) Q = Q (.bl (isTg .non k)) S := Ok_ok _ _
theorem ok_isi_dic {k : Ki} {a : List Key} {b : List D} : Ok (isiD k (.dic a b) S) Q = Q (.bl (isTg .dic k)) S := Ok_ok _ _
end
/-! the pool -/
def PoolOk (S : Sto) (i : Nat) : Prop := ∃ a b : Int, S[i]? = some (.lst [.int a, .int b]) ∧ 0 ≤ a ∧ 0 ≤ b ∧ b < 2147483647
/-- all but the pool is as it was, new things behind -/
structure Stp (i : Nat) (S S' : Sto) : Prop where
  len : S.length ≤ S'.length
  same : ∀ j, j < S.length → j ≠ i → S'[j]? = S[j]?
  pool : PoolOk S' i
theorem PoolOk.lt {S : Sto} {i : Nat} (h : PoolOk S i) : i < S.length := by
  obtain ⟨a, b, e, _⟩ := h
  exact (List.getElem?_eq_some_iff.mp e).1
theorem Stp.refl {i : Nat} {S : Sto} (h : PoolOk S i) : Stp i S S := ⟨Nat.le_refl _, fun _ _ _ => rfl, h⟩
theorem Stp.trans {i : Nat} {S S1 S2 : Sto} (a : Stp i S S1) (b : Stp i S1 S2) : Stp i S S2 :=
  ⟨Nat.le_trans a.len b.len, fun j h1 h2 => (b.same j (Nat.lt_of_lt_of_le h1 a.len) h2).trans (a.same j h1 h2), b.pool⟩
theorem PoolOk.grow {S S' : Sto} {i : Nat} (h : PoolOk S i) (g : Grow S S') : PoolOk S' i := by
  obtain ⟨a, b, e, r⟩ := h
  exact ⟨a, b, g.get e, r⟩
theorem Stp.grow {i : Nat} {S S' : Sto} (h : PoolOk S i) (g : Grow S S') : Stp i S S' := by
  refine ⟨g.len, fun j h1 _ => ?_, h.grow g⟩
  obtain ⟨t, rfl⟩ := g
  rw [List.getElem?_append_left h1]
theorem Stp.get {i : Nat} {S S' : Sto} (h : Stp i S S') {j : Nat} {o : Ob} (hj : j ≠ i) (e : S[j]? = some o) : S'[j]? = some o := by
  rw [h.same j (List.getElem?_eq_some_iff.mp e).1 hj]
  exact e
theorem lst_at {S : Sto} {n : Nat} {ds : List D} (e : S[n]? = some (.lst ds)) : lstOf (.ref n) S = some ds := by simp [lstOf, e]
section
variable {S : Sto} {n : Nat} {ds : List D} {i : Int} {d : D} {Q : D → Sto → Prop}
theorem ok_ix_ref (e : S[n]? = some (.lst ds)) (h : atI ds i = some d) : Ok (ix2D (.ref n) (.int i) S) Q = Q d S := by
  simp [ix2D, dicOf, e, ixD, lst_at e, h, Ok_ok]
theorem ok_ix_tup (h : atI ds i = some d) : Ok (ix2D (.tup ds) (.int i) S) Q = Q d S := by
  simp [ix2D, dicOf, ixD, h, Ok_ok]
theorem ok_ix_lst (h : atI ds i = some d) : Ok (ix2D (.lst ds) (.int i) S) Q = Q d S := by
  simp [ix2D, dicOf, ixD, lstOf, h, Ok_ok]
theorem ok_set_ref {j : Nat} {Q : Unit → Sto → Prop} (e : S[n]? = some (.lst ds)) (h : ixN ds.length i = some j) : Ok (set2D (.ref n) (.int i) d S) Q = Q () (S.set n (.lst (ds.set j d))) := by
  simp [set2D, setD, e, h, Ok_ok]
end
def b_draw0 : SF :=
  (sSeq (sIf (tBl (eBin (ordD fun i j => decide (j < i)) (eBin ix2D (eVar 0) (eC (.int 0))) (eC (.int 0))))
    (sSeq (sSet 2 (eBin modD (eBin ix2D (eVar 0) (eC (.int 0))) (eVar 1)))
  (sSeq (sAsg (eBin fdiv2D (eBin ix2D (eVar 0) (eC (.int 0))) (eVar 1)) (gIx (eVar 0) (eC (.int 0)) set2D))
  (sRet (eVar 2))))
    sNx)
  (sSeq (sAsg (eBin modD (eBin addD (eBin mul2D (eBin ix2D (eVar 0) (eC (.int 1))) (eC (.int 48271))) (eC (.int 11))) (eC (.int 2147483647))) (gIx (eVar 0) (eC (.int 1)) set2D))
  (sRet (eBin modD (eBin fdiv2D (eBin modD (eBin mul2D (eBin ix2D (eVar 0) (eC (.int 1))) (eBin ix2D (eVar 0) (eC (.int 1)))) (eC (.int 2147483629))) (eC (.int 16))) (eVar 1)))))
/-- a draw changes the pool alone -/
theorem draw0 {S : Sto} {i : Nat} {m : Int} {Q : D → Sto → Prop} (hp : PoolOk S i) (h0 : 0 < m) (h1 : m < 18446744073709551616) (h : ∀ r o, 0 ≤ r → r < m → PoolOk (S.set i o) i → Q (.int r) (S.set i o)) : Ok (dDef 3 b_draw0 [.ref i, .int m] S) Q := by
  obtain ⟨a, b, e, ha, hb, hb2⟩ := hp
  have hi := (List.getElem?_eq_some_iff.mp e).1
  have at0 : atI [D.int a, D.int b] 0 = some (.int a) := rfl
  have at1 : atI [D.int a, D.int b] 1 = some (.int b) := rfl
  have stp : ∀ {x y : Int}, 0 ≤ x → 0 ≤ y → y < 2147483647 → PoolOk (S.set i (.lst [.int x, .int y])) i := fun {x y} hx hy hy2 =>
    ⟨x, y, by rw [List.getElem?_set_self hi], hx, hy, hy2⟩
  rw [ok_dDef]
  unfold b_draw0
  simp only [List.map_cons, List.map_nil, List.length_cons, List.length_nil, ok_sSeq, ok_sIf, ok_tBl, ok_eBin, ok_eVar, ok_eC, ok_sSet, ok_sAsg, ok_gIx, ok_sRet, List.cons_append, List.nil_append, List.getElem?_cons_zero, List.getElem?_cons_succ, ok_ix_ref e at0, ok_ord_int, List.set_cons_zero, List.set_cons_succ, ok_mod_int h0, ok_div_int h0 h1, List.replicate_succ, List.replicate_zero,
    show 3 - (0 + 1 + 1) = 1 from rfl]
  by_cases hpos : 0 < a
  · simp only [hpos, decide_true, if_true]
    have hset : ixN [D.int a, D.int b].length 0 = some 0 := rfl
    simp only [ok_ix_ref e at0, ok_mod_int h0, ok_div_int h0 h1, ok_set_ref e hset, List.set_cons_zero]
    exact h _ _ (Int.emod_nonneg _ (by omega)) (Int.emod_lt_of_pos _ h0) (stp (Int.ediv_nonneg ha (by omega)) hb hb2)
  · simp only [hpos, decide_false, Bool.false_eq_true, if_false, ok_sNx]
    have hset : ixN [D.int a, D.int b].length 1 = some 1 := rfl
    simp only [List.getElem?_cons_zero, List.getElem?_cons_succ]
    rw [ok_ix_ref e at1, ok_mul64 hb (by omega) (by decide) (by decide)]
    simp only [ok_add_int, ok_mod_int (show (0 : Int) < 2147483647 by decide), ok_set_ref e hset, List.set_cons_succ, List.set_cons_zero]
    have hb' : 0 ≤ (b * 48271 + 11) % 2147483647 := Int.emod_nonneg _ (by decide)
    have hb2' : (b * 48271 + 11) % 2147483647 < 2147483647 := Int.emod_lt_of_pos _ (by decide)
    generalize (b * 48271 + 11) % 2147483647 = c at hb' hb2'
    have e' : (S.set i (.lst [.int a, .int c]))[i]? = some (.lst [.int a, .int c]) := List.getElem?_set_self hi
    have at1' : atI [D.int a, D.int c] 1 = some (.int c) := rfl
    rw [ok_ix_ref e' at1', ok_ix_ref e' at1', ok_mul64 hb' (by omega) hb' (by omega)]
    simp only [ok_mod_int (show (0 : Int) < 2147483629 by decide), ok_div_int (show (0 : Int) < 16 by decide) (by decide), ok_mod_int h0]
    exact h _ _ (Int.emod_nonneg _ (by omega)) (Int.emod_lt_of_pos _ h0) (stp ha hb' hb2')
theorem PoolOk.stp {S : Sto} {i : Nat} {o : Ob} (h : PoolOk (S.set i o) i) : Stp i S (S.set i o) := ⟨by simp, fun j _ hne => List.getElem?_set_ne (Ne.symm hne), h⟩
def b_pool0 : SF :=
  (sSeq (sSet 2 (eBin addD (eBin mul2D (eC (.int 11)) (eCall (sum2D) (aCons (eSl (eVar 0) pNo (pSo (eC (.int 63)))) aNil))) (eVar 1)))
  (sSeq (sIf (tBl (eBin (ordD fun i j => decide (i < j)) (eVar 1) (eCall (len2D) (aCons (eVar 0) aNil))))
    (sSet 2 (eBin ix2D (eVar 0) (eVar 1)))
    sNx)
  (sSeq (sSet 3 (eCall (absD) (aCons (eVar 2) aNil)))
  (sSeq (sSet 4 (eBin modD (eBin mul2D (eBin addD (eBin addD (eBin addD (eBin modD (eVar 3) (eC (.int 2147483629))) (eBin mul2D (eBin mul2D (eC (.int 7919)) (eVar 1)) (eVar 1))) (eBin mul2D (eC (.int 31)) (eVar 1))) (eC (.int 17))) (eC (.int 48271))) (eC (.int 2147483647))))
  (sRet (eLstM (aCons (eBin mul2D (eVar 3) (eCall (intD) (aCons (eBin (ordD fun i j => decide (j ≤ i)) (eVar 3) (eBin powD (eC (.int 10)) (eC (.int 18)))) aNil))) (aCons (eBin modD (eBin mul2D (eVar 4) (eVar 4)) (eC (.int 2147483629))) aNil))))))))
theorem ints_map : ∀ ns : List Int, ints? (ns.map D.int) = some ns
  | [] => rfl
  | n :: ns => by simp [ints?, ints_map ns]
theorem sum_abs {B : Nat} : ∀ ns : List Int, (∀ z ∈ ns, z.natAbs < B) → ns.sum.natAbs ≤ ns.length * B
  | [], _ => by simp
  | n :: ns, h => by
    have h1 := h n (by simp)
    have h2 := sum_abs ns fun z hz => h z (by simp [hz])
    rw [List.sum_cons, List.length_cons, Nat.succ_mul]
    omega
theorem pool0 {ns : List Int} {S : Sto} {j : Int} {Q : D → Sto → Prop} (hn : ns.length ≤ 63) (hb : ∀ z ∈ ns, Builtin.Int.intBits z ≤ 1048576) (h0 : 0 ≤ j) (h1 : j < 1000) (h : ∀ o, PoolOk (S ++ [o]) S.length → Q (.ref S.length) (S ++ [o])) : Ok (dDef 5 b_pool0 [.scr ns, .int j] S) Q := by
  have big : ∀ z ∈ ns, z.natAbs < 2 ^ 1048576 := fun z hz => lt_bits (hb z hz)
  generalize hB : 1048576 = B at big
  have hB' : B = 1048576 := hB.symm
  have cut : cutD (ns.map D.int) none (some 63) = (ns.take 63).map D.int := by
    unfold cutD
    rw [HT.sIx_none, show HT.sIx (ns.map D.int).length (ns.map D.int).length (some 63) = min 63 (ns.map D.int).length from HT.sIx_nat _ _ 63]
    rw [List.drop_zero, Nat.sub_zero, List.length_map, List.map_take, Nat.min_eq_right hn, List.take_of_length_le (by simp), List.take_of_length_le (by simpa using hn)]
  have lk : ∀ S : Sto, lstOf (.scr ns) S = some (ns.map D.int) := fun _ => rfl
  have hsum : (ns.take 63).sum.natAbs < 2 ^ (B + 6) := by
    have := sum_abs (B := 2 ^ B) (ns.take 63) fun z hz => big z (List.mem_of_mem_take hz)
    have hl : (ns.take 63).length ≤ 63 := by simp; omega
    have h2 : (ns.take 63).length * 2 ^ B ≤ 63 * 2 ^ B := Nat.mul_le_mul_right _ hl
    have h3 : 2 ^ (B + 6) = 64 * 2 ^ B := by rw [Nat.pow_add]; omega
    have h4 : 0 < 2 ^ B := Nat.pow_pos (by decide)
    omega
  rw [ok_dDef]
  unfold b_pool0
  simp only [List.map_cons, List.map_nil, List.length_cons, List.length_nil, show 5 - (0 + 1 + 1) = 3 from rfl, List.replicate_succ, List.replicate_zero, List.cons_append, List.nil_append]
  rw [ok_sSeq]
  simp only [ok_sSet, ok_eBin, ok_eC, ok_eCall, ok_aCons, ok_aNil, ok_eSl, ok_pNo, ok_pSo, ok_eVar, List.getElem?_cons_zero, List.getElem?_cons_succ]
  have sl : ∀ {Q : D → Sto → Prop}, Ok (slD (.scr ns) none (some 63) S) Q = Q (.lst ((ns.take 63).map D.int)) S := by
    intro Q
    unfold slD
    simp only [lk, ok_newL, cut]
    have : ((ns.take 63).map D.int).length ≤ sizeLine := by
      rw [List.length_map, sizeLine_eq]
      simp
      omega
    exact propext ⟨fun q => q.2, fun q => ⟨this, q⟩⟩
  rw [sl]
  have sm : ∀ {Q : D → Sto → Prop}, Ok (sum2D [.lst ((ns.take 63).map D.int)] S) Q = Q (.int (ns.take 63).sum) S := by
    intro Q
    unfold sum2D sumD lstOf
    simp only [ints_map, Ok_ok]
  rw [sm, ok_mul (m := 64) (n := B + 6) (bits_64 (by decide) (by decide)) (bits_le hsum) (by omega)]
  simp only [ok_add_int, List.set_cons_zero, List.set_cons_succ]
  rw [ok_sSeq, ok_sIf]
  simp only [ok_tBl, ok_eBin, ok_eVar, List.getElem?_cons_zero, List.getElem?_cons_succ, ok_eCall, ok_aCons, ok_aNil]
  have ln : ∀ {Q : D → Sto → Prop}, Ok (len2D [.scr ns] S) Q = Q (.int (ns.map D.int).length) S := by
    intro Q
    simp [len2D, dicOf, lenD, lk, Ok_ok]
  rw [ln]
  simp only [ok_ord_int, List.length_map]
  have fin : ∀ c : Int, c.natAbs < 2 ^ (B + 11) → Ok (sSeq (sSet 3 (eCall (absD) (aCons (eVar 2) aNil)))
      (sSeq (sSet 4 (eBin modD (eBin mul2D (eBin addD (eBin addD (eBin addD (eBin modD (eVar 3) (eC (.int 2147483629))) (eBin mul2D (eBin mul2D (eC (.int 7919)) (eVar 1)) (eVar 1))) (eBin mul2D (eC (.int 31)) (eVar 1))) (eC (.int 17))) (eC (.int 48271))) (eC (.int 2147483647))))
      (sRet (eLstM (aCons (eBin mul2D (eVar 3) (eCall (intD) (aCons (eBin (ordD fun i j => decide (j ≤ i)) (eVar 3) (eBin powD (eC (.int 10)) (eC (.int 18)))) aNil))) (aCons (eBin modD (eBin mul2D (eVar 4) (eVar 4)) (eC (.int 2147483629))) aNil))))) [some (.scr ns), some (.int j), some (.int c), none, none] S) fun f S' => match f with | .rt d => Q d S' | .nx _ => Q .non S' | _ => False := by
    intro c hc
    rw [ok_sSeq]
    simp only [ok_sSet, ok_eCall, ok_aCons, ok_aNil, ok_eVar, List.getElem?_cons_zero, List.getElem?_cons_succ, ok_abs_int, List.set_cons_zero, List.set_cons_succ]
    rw [ok_sSeq]
    simp only [ok_sSet, ok_eVar, List.getElem?_cons_zero, List.getElem?_cons_succ, ok_eBin, ok_eC, ok_mod_int (show (0 : Int) < 2147483629 by decide)]
    have hg0 : 0 ≤ (if c < 0 then -c else c) := by split <;> omega
    have hg1 : (if c < 0 then -c else c).natAbs < 2 ^ (B + 11) := by split <;> omega
    generalize (if c < 0 then -c else c) = gr at hg0 hg1
    have hm0 : 0 ≤ gr % 2147483629 := Int.emod_nonneg _ (by decide)
    have hm1 : gr % 2147483629 < 2147483629 := Int.emod_lt_of_pos _ (by decide)
    have hjj : 0 ≤ 7919 * j * j ∧ 7919 * j * j < 7919000001 := by
      have h2 : 0 ≤ j * j := Int.mul_nonneg h0 h0
      have h3 : j * j ≤ 1000 * 1000 := Int.mul_le_mul (by omega) (by omega) h0 (by decide)
      rw [Int.mul_assoc]
      omega
    rw [ok_mul64 (by decide) (by decide) h0 (by omega), ok_mul64 (by omega) (by omega) h0 (by omega)]
    simp only [ok_add_int, ok_mul64 (show (0 : Int) ≤ 31 by decide) (by decide) h0 (show j < 18446744073709551616 by omega)]
    rw [ok_mul64 (by omega) (by omega) (by decide) (by decide), ok_mod_int (show (0 : Int) < 2147483647 by decide)]
    generalize hmx : (gr % 2147483629 + 7919 * j * j + 31 * j + 17) * 48271 % 2147483647 = mx
    have hx0 : 0 ≤ mx := by rw [← hmx]; exact Int.emod_nonneg _ (by decide)
    have hx1 : mx < 2147483647 := by rw [← hmx]; exact Int.emod_lt_of_pos _ (by decide)
    simp only [ok_sRet, ok_eLstM, ok_aCons, ok_aNil, ok_eBin, ok_eVar, List.set_cons_zero, List.set_cons_succ, List.getElem?_cons_zero, List.getElem?_cons_succ, ok_eCall, ok_eC, ok_pow_int (x := 10) (y := 18) ⟨by decide, by decide, by decide⟩, ok_ord_int, ok_intD_bl]
    rw [ok_mul (m := B + 11) (n := 64) (bits_le hg1) (bits_64 (by split <;> decide) (by split <;> decide)) (by omega)]
    rw [ok_mul64 hx0 (by omega) hx0 (by omega), ok_mod_int (show (0 : Int) < 2147483629 by decide)]
    have hq0 : 0 ≤ mx * mx % 2147483629 := Int.emod_nonneg _ (by decide)
    have hq1 : mx * mx % 2147483629 < 2147483629 := Int.emod_lt_of_pos _ (by decide)
    have ha0 : 0 ≤ gr * (if decide ((10 : Int) ^ (18 : Int).toNat ≤ gr) = true then 1 else 0) := by
      split
      · omega
      · omega
    generalize gr * (if decide ((10 : Int) ^ (18 : Int).toNat ≤ gr) = true then 1 else 0) = a0 at ha0
    generalize mx * mx % 2147483629 = b0 at hq0 hq1
    refine ⟨by rw [sizeLine_eq]; simp, ?_⟩
    have pk : PoolOk (S ++ [.lst [.int a0, .int b0]]) S.length := ⟨a0, b0, by simp, ha0, hq0, by omega⟩
    exact h _ pk
  have hj2 : (11 * (ns.take 63).sum + j).natAbs < 2 ^ (B + 11) := by
    have h3 : 2 ^ (B + 11) = 32 * 2 ^ (B + 6) := by rw [show B + 11 = (B + 6) + 5 from rfl, Nat.pow_add _ (B + 6) 5]; omega
    have h4 : 2 ^ (B + 6) = 64 * 2 ^ B := by rw [Nat.pow_add]; omega
    have h5 : 2 ^ 10 ≤ 2 ^ B := Nat.pow_le_pow_right (by decide) (by omega)
    have h6 : (2 : Nat) ^ 10 = 1024 := by decide
    omega
  by_cases hlt : j < (ns.length : Int)
  · simp only [hlt, decide_true, if_true, ok_sSet, ok_eBin, ok_eVar, List.getElem?_cons_zero, List.getElem?_cons_succ]
    obtain ⟨jn, rfl⟩ := Int.eq_ofNat_of_zero_le h0
    have hjn : jn < ns.length := by omega
    have ix : ∀ {Q : D → Sto → Prop}, Ok (ix2D (.scr ns) (.int jn) S) Q = Q (.int ns[jn]) S := by
      intro Q
      have at' : atI (ns.map D.int) (jn : Int) = some (.int ns[jn]) := atI_nat (by rw [List.getElem?_map, List.getElem?_eq_getElem hjn]; rfl)
      unfold ix2D dicOf ixD
      simp only [lk, at', Ok_ok]
    rw [ix]
    simp only [List.set_cons_zero, List.set_cons_succ]
    refine fin _ (Nat.lt_of_lt_of_le (big _ (List.getElem_mem hjn)) (Nat.pow_le_pow_right (by decide) (by omega)))
  · simp only [hlt, decide_false, Bool.false_eq_true, if_false, ok_sNx]
    exact fin _ hj2
end VL

/-! values as they are meant -/
namespace VL
open PySem PySem.Spec PyProof.Rows L2
theorem eq_of_ok {a : Type} {r : R a} {x : a} {S : Sto} (h : Ok r fun d S' => d = x ∧ S' = S) : r = .ok x S := by
  obtain ⟨y, S', e, rfl, rfl⟩ := h.out
  exact e
section
variable {L : Lc} {S : Sto} {Q : D → Sto → Prop}
theorem ok_eLcA (wk : DW) (ea : EF) (t : D → Lc → Sto → R Lc) (tt : Lc → Sto → R Bool) (te : EF) (vs : List Nat) : Ok (eLcA wk ea t tt te vs L S) Q = Ok (ea L S) fun d S1 => match isSD d S1 with
  | some p => Ok (lcL (fun _ => true) t tt te (wipeL L vs) (wk.ds p.2.1 p.2.2) [] (S1.set p.1 (.dlk p.2.1 p.2.2))) fun x S3 => Ok (unlk p.1 S3) fun _ S4 => Q x S4
  | none => Ok (wkA wk d S1) fun W S2 => Ok (lcL W.ok t tt te (wipeL L vs) W.ds [] S2) Q := by
  simp only [eLcA, Ok_bind]
  congr 1
  funext d S1
  generalize isSD d S1 = o
  cases o <;> simp only [Ok_bind, Ok_calm, Ok_ok]
theorem ok_eDcA (mu : Bool) (wk : DW) (ea : EF) (t : D → Lc → Sto → R Lc) (tt : Lc → Sto → R Bool) (tk tv : EF) (vs : List Nat) : Ok (eDcA mu wk ea t tt tk tv vs L S) Q = Ok (ea L S) fun d S1 => match isSD d S1 with
  | some p => Ok (dcL mu (fun _ => true) t tt tk tv (wipeL L vs) (wk.ds p.2.1 p.2.2) [] [] (S1.set p.1 (.dlk p.2.1 p.2.2))) fun x S3 => Ok (unlk p.1 S3) fun _ S4 => Q x S4
  | none => Ok (wkA wk d S1) fun W S2 => Ok (dcL mu W.ok t tt tk tv (wipeL L vs) W.ds [] [] S2) Q := by
  simp only [eDcA, Ok_bind]
  congr 1
  funext d S1
  generalize isSD d S1 = o
  cases o <;> simp only [Ok_bind, Ok_calm, Ok_ok]
theorem ok_eStar (f : List D → Sto → R D) (e : EF) : Ok (eStar f e L S) Q = Ok (e L S) fun d S1 => match d with
  | .tup ds => Ok (f ds S1) Q
  | d => match lstOf d S1 with
    | some ds => Ok (f ds S1) Q
    | none => False := by
  simp only [eStar, Ok_bind]
  congr 1
  funext d S1
  cases d with
  | tup ds => rfl
  | _ =>
    simp only
    generalize lstOf _ _ = o
    cases o <;> simp only [Ok_bad]
theorem ok_wRng1 {Q : Wk → Sto → Prop} (a : Lc → Sto → R (List D)) : Ok (wRng1 a L S) Q = Ok (a L S) fun ds S1 => match ds with
  | [.int j] => (-(2 ^ 62) ≤ j ∧ j < 2 ^ 62) ∧ Q ⟨rngL 0 j.toNat, fun _ => true⟩ S1
  | _ => False := by
  simp only [wRng1, Ok_bind]
  congr 1
  funext ds S1
  rcases ds with _ | ⟨d, _ | ⟨d', ds⟩⟩
  · simp only [Ok_bad]
  · cases d with
    | int j =>
      by_cases h : -(2 ^ 62) ≤ j ∧ j < 2 ^ 62
      · simp only [if_pos h, Ok_ok]; exact propext ⟨fun q => ⟨h, q⟩, fun q => q.2⟩
      · simp only [if_neg h, Ok_bad]; exact propext ⟨fun q => q.elim, fun q => h q.1⟩
    | _ => simp only [Ok_bad]
  · cases d <;> simp only [Ok_bad]
theorem ok_eM (ty : D → Sto → Bool) (f : D → List D → Sto → R D) (eo : EF) (a : Lc → Sto → R (List D)) : Ok (eM ty f eo a L S) Q = Ok (eo L S) fun x S1 => if ty x S1 = true then Ok (a L S1) fun ds S2 => Ok (f x ds S2) Q else False := by
  simp only [eM, Ok_bind, Ok_ite, Ok_bad]
theorem ok_eGet2 (eo ea eb : EF) : Ok (eGet2 eo ea eb L S) Q = Ok (eo L S) fun x S1 => if (dicOf x S1).isSome = true then Ok (ea L S1) fun y S2 => Ok (eb L S2) fun z S3 => Ok (getD2 x y z S3) Q else False := by
  simp only [eGet2, Ok_bind, Ok_ite, Ok_bad]
theorem ok_prsD_nil {Q : List (D × D) → Sto → Prop} : Ok (prsD [] L S) Q = Q [] S := Ok_ok _ _
theorem ok_prsD_cons {Q : List (D × D) → Sto → Prop} (a b : EF) (r : List (EF × EF)) : Ok (prsD ((a, b) :: r) L S) Q = Ok (a L S) fun x S1 => Ok (b L S1) fun y S2 => Ok (prsD r L S2) fun ps S3 => Q ((x, y) :: ps) S3 := by
  simp only [prsD, Ok_bind, Ok_ok]
theorem ok_eDisp (mu : Bool) (ps : List (EF × EF)) : Ok (eDisp mu ps L S) Q = Ok (prsD ps L S) fun kds S2 => match keysP kds with
  | some kps => if kps.length ≤ 15 then Ok (nwD mu (mergeD [] [] kps).1 (mergeD [] [] kps).2 S2) Q else False
  | none => False := by
  simp only [eDisp, Ok_bind, Ok_calm]
  congr 1
  funext kds S2
  generalize keysP kds = o
  cases o
  · rw [Ok_bad]
  · simp only [Ok_ite, Ok_bad]
theorem ok_nwD_f (ks : List Key) (vs : List D) : Ok (nwD false ks vs S) Q = Q (.dic ks vs) S := Ok_ok _ _
theorem ok_nwD_t (ks : List Key) (vs : List D) : Ok (nwD true ks vs S) Q = Q (.ref S.length) (S ++ [.dic ks vs]) := Ok_ok _ _
theorem ok_nwL_f (vs : List D) : Ok (nwL false vs S) Q = Q (.lst vs) S := Ok_ok _ _
theorem ok_nwL_t (vs : List D) : Ok (nwL true vs S) Q = Q (.ref S.length) (S ++ [.lst vs]) := Ok_ok _ _
theorem ok_gTp {Q : Lc → Sto → Prop} {n : Nat} {t : List D → Lc → Sto → R Lc} {ds : List D} (h : ds.length = n) : Ok (gTp n t (.tup ds) L S) Q = Ok (t ds L S) Q := by
  simp only [gTp, if_pos h]
theorem ok_gTp2 {Q : Lc → Sto → Prop} {n : Nat} {t : List D → Lc → Sto → R Lc} {ds : List D} (h : ds.length = n) : Ok (gTp2 n t (.tup ds) L S) Q = Ok (t ds L S) Q := by
  simp only [gTp2, if_pos h]
theorem ok_gTp2l {Q : Lc → Sto → Prop} {n : Nat} {t : List D → Lc → Sto → R Lc} {ds : List D} (h : ds.length = n) : Ok (gTp2 n t (.lst ds) L S) Q = Ok (t ds L S) Q := by
  simp only [gTp2, lstO, if_pos h]
theorem ok_gTp2r {Q : Lc → Sto → Prop} {n i : Nat} {t : List D → Lc → Sto → R Lc} {ds : List D} (e : S[i]? = some (.lst ds)) (h : ds.length = n) : Ok (gTp2 n t (.ref i) L S) Q = Ok (t ds L S) Q := by
  simp only [gTp2, lstO, e, if_pos h]
theorem ok_gSt {Q : Lc → Sto → Prop} {k : Nat} {t : List D → Lc → Sto → R Lc} {ds : List D} (h : k ≤ ds.length) : Ok (gSt k t (.tup ds) L S) Q = Ok (t (ds.take k ++ [.lst (ds.drop k)]) L S) Q := by
  simp only [gSt, if_pos h]
/-! lists of values -/
theorem bls_map : ∀ ns : List Bool, bls? (ns.map D.bl) = some ns
  | [] => rfl
  | n :: ns => by simp [bls?, bls_map ns]
theorem ok_all_map {a : Type} (xs : List a) (p : a → Bool) : Ok (allD [.lst (xs.map fun x => D.bl (p x))] S) Q = Q (.bl (xs.all p)) S := by
  have e : (xs.map fun x => D.bl (p x)) = (xs.map p).map D.bl := by rw [List.map_map]; rfl
  unfold allD lstOf
  simp only [e, bls_map, Ok_ok, List.all_map]
  rfl
theorem ok_sum_map {a : Type} (xs : List a) (p : a → Int) : Ok (sum2D [.lst (xs.map fun x => D.int (p x))] S) Q = Q (.int (xs.map p).sum) S := by
  have e : (xs.map fun x => D.int (p x)) = (xs.map p).map D.int := by rw [List.map_map]; rfl
  unfold sum2D sumD lstOf
  simp only [e, ints_map, Ok_ok]
theorem ok_len_str {z : Str} (h : z.length ≤ sizeLine) : Ok (len2D [.str z] S) Q = Q (.int z.length) S := by
  simp only [len2D, dicOf, lenD, if_pos h, Ok_ok]
theorem ok_len_tup {ds : List D} : Ok (len2D [.tup ds] S) Q = Q (.int ds.length) S := by
  simp only [len2D, dicOf, lenD, Ok_ok]
theorem ok_len_lst {ds : List D} : Ok (len2D [.lst ds] S) Q = Q (.int ds.length) S := by
  simp only [len2D, dicOf, lenD, lstOf, Ok_ok]
end
/-! values -/
def wordB (z sg : Str) (lo hi : Int) : Bool := decide (lo ≤ (z.length : Int)) && (decide ((z.length : Int) ≤ hi) && z.cps.toList.all fun c => decide (c ∈ sg.cps.toList))
def SG : Str := "abcdefghijklmnopqrstuvwxyz0123456789"
def LT : Str := "abcdefghijklmnopqrstuvwxyz"
def MXI : Int := 1000000000000000000000000000000000000000000000000000000000000
mutual
def wl : Nat → D → Bool
  | 0, .tup _ => false
  | l + 1, .tup ds => decide (ds.length ≤ 50) && wls l ds
  | _, .int i => decide (-MXI < i) && decide (i < MXI)
  | _, .str z => wordB z SG 0 60
  | _, _ => false
def wls : Nat → List D → Bool
  | _, [] => true
  | l, d :: ds => wl l d && wls l ds
end
mutual
def sz : D → Nat
  | .tup ds => szs ds
  | _ => 0
def szs : List D → Nat
  | [] => 0
  | d :: ds => 1 + sz d + szs ds
end
mutual
def dep : D → Nat
  | .tup ds => deps ds + 1
  | _ => 0
def deps : List D → Nat
  | [] => 0
  | d :: ds => max (dep d) (deps ds)
end
/-! things that the model of a walk can look at: no references, short texts and tuples -/
mutual
def Fit : D → Prop
  | .tup ds => ds.length ≤ 1000 ∧ Fits ds
  | .str z => z.length ≤ 1000
  | .int _ => True
  | .bl _ => True
  | .non => True
  | .lst _ => True
  | .dic _ _ => True
  | _ => False
def Fits : List D → Prop
  | [] => True
  | d :: ds => Fit d ∧ Fits ds
end
def isVal (d : D) : Bool := wl 5 d && decide (sz d ≤ 50)
theorem wls_all (l : Nat) : ∀ ds : List D, wls l ds = ds.all (wl l)
  | [] => by simp [wls]
  | d :: ds => by simp [wls, wls_all l ds]
theorem szs_sum : ∀ ds : List D, (szs ds : Int) = (ds.map fun d => (1 + (sz d : Int))).sum
  | [] => by simp [szs]
  | d :: ds => by
    have := szs_sum ds
    simp [szs]
    omega
theorem dep_mem : ∀ {ds : List D} {d : D}, d ∈ ds → dep d ≤ deps ds
  | a :: ds, d, h => by
    rw [deps]
    rcases List.mem_cons.mp h with rfl | h
    · omega
    · have := dep_mem h; omega
theorem Fits_mem : ∀ {ds : List D} {d : D}, Fits ds → d ∈ ds → Fit d
  | a :: ds, d, h, m => by
    rw [Fits] at h
    rcases List.mem_cons.mp m with rfl | m
    · exact h.1
    · exact Fits_mem h.2 m
theorem Fits_of : ∀ {ds : List D}, (∀ d ∈ ds, Fit d) → Fits ds
  | [], _ => by rw [Fits]; trivial
  | a :: ds, h => by rw [Fits]; exact ⟨h a (by simp), Fits_of fun d hd => h d (by simp [hd])⟩
theorem deps_le {n : Nat} : ∀ {ds : List D}, (∀ d ∈ ds, dep d ≤ n) → deps ds ≤ n
  | [], _ => by simp [deps]
  | a :: ds, h => by
    have h1 := h a (by simp)
    have h2 := deps_le (n := n) (ds := ds) fun d hd => h d (by simp [hd])
    rw [deps]; omega
theorem wl_int (l : Nat) (i : Int) : wl l (.int i) = (decide (-MXI < i) && decide (i < MXI)) := by cases l <;> simp [wl]
theorem wl_str (l : Nat) (z : Str) : wl l (.str z) = wordB z SG 0 60 := by cases l <;> simp [wl]
theorem wl_tup0 (ds : List D) : wl 0 (.tup ds) = false := by simp [wl]
theorem wl_tup (l : Nat) (ds : List D) : wl (l + 1) (.tup ds) = (decide (ds.length ≤ 50) && ds.all (wl l)) := by rw [wl, wls_all]
/-- ints, texts, tuples -/
def IST : D → Prop
  | .int _ => True
  | .str _ => True
  | .tup _ => True
  | _ => False
theorem wl_no {d : D} (h : ¬ IST d) (l : Nat) : wl l d = false := by
  cases d <;> first | exact absurd trivial h | (cases l <;> simp [wl])
theorem wl_dep : ∀ (l : Nat) (d : D), wl l d = true → dep d ≤ l := by
  intro l
  induction l with
  | zero =>
    intro d h
    cases d <;> first | (simp [wl] at h; done) | simp [dep]
  | succ l ih =>
    intro d h
    cases d with
    | tup ds =>
      rw [wl_tup] at h
      simp only [Bool.and_eq_true, List.all_eq_true] at h
      rw [dep]
      have := deps_le fun d hd => ih d (h.2 d hd)
      omega
    | _ => simp [dep]
end VL

/-! == of data -/
namespace VL
open PySem PySem.Spec PyProof.Rows L2
theorem ofs_inj (a b : String) : ((Str.ofString a) = (Str.ofString b)) = (a = b) := by
  apply propext
  constructor
  · intro h
    rw [Str.ofString_eq_toList, Str.ofString_eq_toList] at h
    injection h with h
    have h2 : a.toList.map Char.toNat = b.toList.map Char.toNat := by simpa using congrArg Array.toList h
    have h3 : a.toList = b.toList := List.map_inj_right (f := Char.toNat) (fun x y e => Char.toNat_inj.mp e) |>.mp h2
    exact String.toList_inj.mp h3
  · intro h; rw [h]
def intB (d : D) : Bool := match d with
  | .int _ => true
  | _ => false
theorem fbne (b : Bool) : (false != b) = b := by cases b <;> rfl
theorem tbne (b : Bool) : (true != b) = !b := by cases b <;> rfl
mutual
def toV : D → PyData
  | .bl b => .bool b
  | .int i => .int i
  | .str z => .str z
  | .tup ds => .tuple (toVs ds)
  | .lst ds => .list (toVs ds)
  | _ => .none
def toVs : List D → List PyData
  | [] => []
  | d :: ds => toV d :: toVs ds
end
mutual
def Nb : D → Prop
  | .non => True
  | .int _ => True
  | .str z => PyData.strOk z = true
  | .tup ds => Nbs ds
  | .lst ds => Nbs ds
  | _ => False
def Nbs : List D → Prop
  | [] => True
  | d :: ds => Nb d ∧ Nbs ds
end
mutual
def dpt : D → Nat
  | .tup ds => dpts ds + 1
  | .lst ds => dpts ds + 1
  | _ => 0
def dpts : List D → Nat
  | [] => 0
  | d :: ds => max (dpt d) (dpts ds)
end
mutual
theorem toP_nb {S : Sto} : ∀ (d : D) (k : Nat), dpt d < k → Nb d → toP S k d = some (toV d)
  | .non, k + 1, _, _ => by simp [toP, toV]
  | .int _, k + 1, _, _ => by simp [toP, toV]
  | .str _, k + 1, _, _ => by simp [toP, toV]
  | .tup ds, k + 1, h, n => by
    rw [dpt] at h
    rw [Nb] at n
    rw [toP, toPs_nb ds k (by omega) n, toV]
    rfl
  | .lst ds, k + 1, h, n => by
    rw [dpt] at h
    rw [Nb] at n
    rw [toP, toPs_nb ds k (by omega) n, toV]
    rfl
  | .bl _, _, _, n => by simp [Nb] at n
  | .ty _, _, _, n => by simp [Nb] at n
  | .dic _ _, _, _, n => by simp [Nb] at n
  | .dct _ _, _, _, n => by simp [Nb] at n
  | .obj _ _ _, _, _, n => by simp [Nb] at n
  | .scr _, _, _, n => by simp [Nb] at n
  | .ref _, _, _, n => by simp [Nb] at n
  | .kref _, _, _, n => by simp [Nb] at n
theorem toPs_nb {S : Sto} : ∀ (ds : List D) (k : Nat), dpts ds < k → Nbs ds → toPs S k ds = some (toVs ds)
  | [], k, _, _ => by cases k <;> simp [toPs, toVs]
  | d :: ds, 0, h, _ => by omega
  | d :: ds, k + 1, h, n => by
    rw [dpts] at h
    rw [Nbs] at n
    rw [toPs, toP_nb d (k + 1) (by omega) n.1, toPs_nb ds (k + 1) (by omega) n.2, toVs]
end
mutual
theorem can_nb : ∀ (d : D), Nb d → (toV d).canLay0 = true ∧ (toV d).depth ≤ dpt d + 1
  | .non, _ => by simp [toV, PyData.canLay0, PyData.depth, dpt]
  | .int _, _ => by simp [toV, PyData.canLay0, PyData.depth, dpt]
  | .str _, n => by rw [Nb] at n; simp [toV, PyData.canLay0, PyData.depth, dpt, n]
  | .tup ds, n => by
    rw [Nb] at n
    have := cans_nb ds n
    rw [toV, dpt, PyData.canLay0, PyData.depth]
    exact ⟨this.1, by omega⟩
  | .lst ds, n => by
    rw [Nb] at n
    have := cans_nb ds n
    rw [toV, dpt, PyData.canLay0, PyData.depth]
    exact ⟨this.1, by omega⟩
  | .bl _, n => by simp [Nb] at n
  | .ty _, n => by simp [Nb] at n
  | .dic _ _, n => by simp [Nb] at n
  | .dct _ _, n => by simp [Nb] at n
  | .obj _ _ _, n => by simp [Nb] at n
  | .scr _, n => by simp [Nb] at n
  | .ref _, n => by simp [Nb] at n
  | .kref _, n => by simp [Nb] at n
theorem cans_nb : ∀ (ds : List D), Nbs ds → PyData.canLayAll0 (toVs ds) = true ∧ PyData.depthAll (toVs ds) ≤ dpts ds + 1
  | [], _ => by simp [toVs, PyData.canLayAll0, PyData.depthAll]
  | d :: ds, n => by
    rw [Nbs] at n
    have h1 := can_nb d n.1
    have h2 := cans_nb ds n.2
    rw [toVs, PyData.canLayAll0, PyData.depthAll, dpts, h1.1, h2.1]
    exact ⟨rfl, by omega⟩
end
theorem beq_dec {a : Type} [DecidableEq a] [BEq a] [LawfulBEq a] (x y : a) : (x == y) = decide (x = y) := by
  by_cases h : x = y
  · subst h; simp
  · simp [h]
mutual
theorem eqv_nb : ∀ (x y : D), Nb x → Nb y → PyData.eqv (toV x) (toV y) = D.beq x y
  | .tup as, .tup bs, n, m => by
    rw [Nb] at n m
    rw [toV, toV, PyData.eqv, eqvs_nb as bs n m, D.beq]
  | .lst as, .lst bs, n, m => by
    rw [Nb] at n m
    rw [toV, toV, PyData.eqv, eqvs_nb as bs n m, D.beq]
  | .non, y, _, m => by cases y <;> first | (simp [Nb] at m; done) | simp [toV, PyData.eqv, D.beq]
  | .int i, y, _, m => by cases y <;> first | (simp [Nb] at m; done) | simp [toV, PyData.eqv, D.beq]
  | .str i, y, _, m => by cases y <;> first | (simp [Nb] at m; done) | simp [toV, PyData.eqv, D.beq, beq_dec]
  | .tup _, .non, _, _ => by simp [toV, PyData.eqv, D.beq]
  | .tup _, .int _, _, _ => by simp [toV, PyData.eqv, D.beq]
  | .tup _, .str _, _, _ => by simp [toV, PyData.eqv, D.beq]
  | .tup _, .lst _, _, _ => by simp [toV, PyData.eqv, D.beq]
  | .lst _, .non, _, _ => by simp [toV, PyData.eqv, D.beq]
  | .lst _, .int _, _, _ => by simp [toV, PyData.eqv, D.beq]
  | .lst _, .str _, _, _ => by simp [toV, PyData.eqv, D.beq]
  | .lst _, .tup _, _, _ => by simp [toV, PyData.eqv, D.beq]
  | .bl _, _, n, _ => by simp [Nb] at n
  | .ty _, _, n, _ => by simp [Nb] at n
  | .dic _ _, _, n, _ => by simp [Nb] at n
  | .dct _ _, _, n, _ => by simp [Nb] at n
  | .obj _ _ _, _, n, _ => by simp [Nb] at n
  | .scr _, _, n, _ => by simp [Nb] at n
  | .ref _, _, n, _ => by simp [Nb] at n
  | .kref _, _, n, _ => by simp [Nb] at n
  | .tup _, .bl _, _, n => by simp [Nb] at n
  | .tup _, .ty _, _, n => by simp [Nb] at n
  | .tup _, .dic _ _, _, n => by simp [Nb] at n
  | .tup _, .dct _ _, _, n => by simp [Nb] at n
  | .tup _, .obj _ _ _, _, n => by simp [Nb] at n
  | .tup _, .scr _, _, n => by simp [Nb] at n
  | .tup _, .ref _, _, n => by simp [Nb] at n
  | .tup _, .kref _, _, n => by simp [Nb] at n
  | .lst _, .bl _, _, n => by simp [Nb] at n
  | .lst _, .ty _, _, n => by simp [Nb] at n
  | .lst _, .dic _ _, _, n => by simp [Nb] at n
  | .lst _, .dct _ _, _, n => by simp [Nb] at n
  | .lst _, .obj _ _ _, _, n => by simp [Nb] at n
  | .lst _, .scr _, _, n => by simp [Nb] at n
  | .lst _, .ref _, _, n => by simp [Nb] at n
  | .lst _, .kref _, _, n => by simp [Nb] at n
theorem eqvs_nb : ∀ (xs ys : List D), Nbs xs → Nbs ys → PyData.eqvAll (toVs xs) (toVs ys) = D.beqs xs ys
  | [], ys, _, _ => by cases ys <;> simp [toVs, PyData.eqvAll, D.beqs]
  | x :: xs, [], _, _ => by simp [toVs, PyData.eqvAll, D.beqs]
  | x :: xs, y :: ys, n, m => by
    rw [Nbs] at n m
    rw [toVs, toVs, PyData.eqvAll, eqv_nb x y n.1 m.1, eqvs_nb xs ys n.2 m.2, D.beqs]
end
theorem eq_nb {neg : Bool} {x y : D} {S : Sto} (hx : Nb x) (hy : Nb y) (dx : dpt x ≤ 60) (dy : dpt y ≤ 60) : eqD neg x y S = .ok (.bl (neg != D.beq x y)) S := by
  have sh : ∀ {z : D}, Nb z → dpt z ≤ 60 → SeqAt.shaped (toV z) = true := fun {z} n d => by
    have := can_nb z n
    unfold SeqAt.shaped
    rw [this.1, decide_eq_true (by omega)]
    rfl
  unfold eqD
  split
  · simp [D.beq, beq_dec]
  · simp [D.beq]
  · simp [Nb] at hx
  · simp only [toP_nb x 65 (by omega) hx, toP_nb y 65 (by omega) hy, sh hx dx, sh hy dy, and_self, if_true, eqv_nb x y hx hy]
theorem Nbs_of : ∀ {ds : List D}, (∀ d ∈ ds, Nb d) → Nbs ds
  | [], _ => by rw [Nbs]; trivial
  | a :: ds, h => by rw [Nbs]; exact ⟨h a (by simp), Nbs_of fun d hd => h d (by simp [hd])⟩
theorem Nbs_mem : ∀ {ds : List D} {d : D}, Nbs ds → d ∈ ds → Nb d
  | a :: ds, d, h, m => by
    rw [Nbs] at h
    rcases List.mem_cons.mp m with rfl | m
    · exact h.1
    · exact Nbs_mem h.2 m
theorem dpts_le {n : Nat} : ∀ {ds : List D}, (∀ d ∈ ds, dpt d ≤ n) → dpts ds ≤ n
  | [], _ => by simp [dpts]
  | a :: ds, h => by
    have h1 := h a (by simp)
    have h2 := dpts_le (n := n) (ds := ds) fun d hd => h d (by simp [hd])
    rw [dpts]; omega
/-! values: ints, texts of signs, tuples -/
mutual
def Vl : D → Prop
  | .int _ => True
  | .str z => z.length ≤ 1000 ∧ ∀ c ∈ z.cps.toList, c ∈ SG.cps.toList
  | .tup ds => ds.length ≤ 1000 ∧ Vls ds
  | _ => False
def Vls : List D → Prop
  | [] => True
  | d :: ds => Vl d ∧ Vls ds
end
theorem Vls_of : ∀ {ds : List D}, (∀ d ∈ ds, Vl d) → Vls ds
  | [], _ => by rw [Vls]; trivial
  | a :: ds, h => by rw [Vls]; exact ⟨h a (by simp), Vls_of fun d hd => h d (by simp [hd])⟩
theorem Vls_mem : ∀ {ds : List D} {d : D}, Vls ds → d ∈ ds → Vl d
  | a :: ds, d, h, m => by
    rw [Vls] at h
    rcases List.mem_cons.mp m with rfl | m
    · exact h.1
    · exact Vls_mem h.2 m
theorem strOk_SG {z : Str} (h : ∀ c ∈ z.cps.toList, c ∈ SG.cps.toList) : PyData.strOk z = true := by
  have hs : ∀ c ∈ SG.cps.toList, c < 1114112 := by decide +kernel
  unfold PyData.strOk
  simp only [Array.all_eq_true', decide_eq_true_eq]
  intro c hc
  exact hs c (h c (by simpa using hc))
mutual
theorem Vl.all : ∀ {d : D}, Vl d → Nb d ∧ Fit d ∧ dpt d = dep d
  | .int _, _ => by simp [Nb, Fit, dpt, dep]
  | .str z, h => by rw [Vl] at h; simp [Nb, Fit, dpt, dep, strOk_SG h.2, h.1]
  | .tup ds, h => by
    rw [Vl] at h
    have := Vls.all h.2
    rw [Nb, Fit, dpt, dep, this.2.2]
    exact ⟨this.1, ⟨h.1, this.2.1⟩, rfl⟩
  | .non, n => by simp [Vl] at n
  | .bl _, n => by simp [Vl] at n
  | .ty _, n => by simp [Vl] at n
  | .lst _, n => by simp [Vl] at n
  | .dic _ _, n => by simp [Vl] at n
  | .dct _ _, n => by simp [Vl] at n
  | .obj _ _ _, n => by simp [Vl] at n
  | .scr _, n => by simp [Vl] at n
  | .ref _, n => by simp [Vl] at n
  | .kref _, n => by simp [Vl] at n
theorem Vls.all : ∀ {ds : List D}, Vls ds → Nbs ds ∧ Fits ds ∧ dpts ds = deps ds
  | [], _ => by simp [Nbs, Fits, dpts, deps]
  | d :: ds, h => by
    rw [Vls] at h
    have h1 := Vl.all h.1
    have h2 := Vls.all h.2
    rw [Nbs, Fits, dpts, deps, h1.2.2, h2.2.2]
    exact ⟨⟨h1.1, h2.1⟩, ⟨h1.2.1, h2.2.1⟩, rfl⟩
end
theorem wordB_SG {z : Str} {lo hi : Int} (h : wordB z SG lo hi = true) : ∀ c ∈ z.cps.toList, c ∈ SG.cps.toList := by
  unfold wordB at h
  simp only [Bool.and_eq_true, List.all_eq_true, decide_eq_true_eq] at h
  exact h.2.2
theorem wl_Vl : ∀ (l : Nat) (d : D), wl l d = true → Vl d := by
  intro l
  induction l with
  | zero =>
    intro d h
    cases d with
    | int i => simp [Vl]
    | str z =>
      rw [wl_str] at h
      rw [Vl]
      refine ⟨?_, wordB_SG h⟩
      unfold wordB at h
      simp only [Bool.and_eq_true, decide_eq_true_eq] at h
      omega
    | tup ds => rw [wl_tup0] at h; cases h
    | _ => simp [wl] at h
  | succ l ih =>
    intro d h
    cases d with
    | int i => simp [Vl]
    | str z =>
      rw [wl_str] at h
      rw [Vl]
      refine ⟨?_, wordB_SG h⟩
      unfold wordB at h
      simp only [Bool.and_eq_true, decide_eq_true_eq] at h
      omega
    | tup ds =>
      rw [wl_tup] at h
      simp only [Bool.and_eq_true, List.all_eq_true, decide_eq_true_eq] at h
      rw [Vl]
      exact ⟨by omega, Vls_of fun d hd => ih d (h.2 d hd)⟩
    | _ => simp [wl] at h
theorem isVal_Vl {d : D} (h : isVal d = true) : Vl d ∧ dep d ≤ 5 := by
  unfold isVal at h
  simp only [Bool.and_eq_true, decide_eq_true_eq] at h
  exact ⟨wl_Vl 5 d h.1, wl_dep 5 d h.1⟩
end VL

namespace K03
open PySem PySem.Spec PyProof.Rows L2 VL
def k_MAX_DEPTH : D := (.int (8))
def k_MAX_PARTS : D := (.int (10))
def k_PAIRS : D := (.tup [(.str "add"), (.str "subtract"), (.str "multiply"), (.str "divide"), (.str "less"), (.str "equal"), (.str "join"), (.str "item")])
def k_LETTERS : D := (.str "abcdefghijklmnopqrstuvwxyz")
def k_MAX_NAME : D := (.int (12))
def k_MAX_LEVELS : D := (.int (5))
def k_MAX_ITEMS : D := (.int (50))
def k_MAX_INTEGER : D := (.int (1000000000000000000000000000000000000000000000000000000000000))
def k_SIGNS : D := (.str "abcdefghijklmnopqrstuvwxyz0123456789")
def k_MAX_TEXT : D := (.int (60))
def b_is_integer (k : Nat) (self : List D → Sto → R D) : SF :=
  (sRet (eAnd (eUn (isiD .int) (eVar 0)) (eNot (eUn (isiD .bool) (eVar 0)))))
def f_is_integer : Nat → List D → Sto → R D
  | 0 => fun _ _ => .bad
  | k + 1 => dDef 1 (b_is_integer k (fun _ _ => .bad))
def b_is_word (k : Nat) (self : List D → Sto → R D) : SF :=
  (sRet (eAnd (eUn (isiD .str) (eVar 0)) (eAnd (eChain (ordD fun i j => decide (i ≤ j)) (ordD fun i j => decide (i ≤ j)) (eVar 2) (eCall (len2D) (aCons (eVar 0) aNil)) (eVar 3)) (eCall (allD) (aCons (eLcA .keys (eVar 0) (gNm 4) tYesD (eBin (inD false) (eVar 4) (eVar 1)) [4]) aNil)))))
def f_is_word : Nat → List D → Sto → R D
  | 0 => fun _ _ => .bad
  | k + 1 => dDef 5 (b_is_word k (fun _ _ => .bad))
def b_is_text (k : Nat) (self : List D → Sto → R D) : SF :=
  (sRet (eCall (ari 4 (f_is_word k)) (aCons (eVar 0) (aCons (eC k_SIGNS) (aCons (eC (.int 0)) (aCons (eC k_MAX_TEXT) aNil))))))
def f_is_text : Nat → List D → Sto → R D
  | 0 => fun _ _ => .bad
  | k + 1 => dDef 1 (b_is_text k (fun _ _ => .bad))
def b_is_within_levels (k : Nat) (self : List D → Sto → R D) : SF :=
  (sSeq (sIf (tTru (eUn (isiD .tuple) (eVar 0)))
    (sSeq (sIf (tOr2 (tBl (eBin (eqD false) (eVar 1) (eC (.int 0)))) (tBl (eBin (ordD fun i j => decide (j < i)) (eCall (len2D) (aCons (eVar 0) aNil)) (eC k_MAX_ITEMS))))
    (sRet (eC (.bl false)))
    sNx)
  (sRet (eCall (allD) (aCons (eLcA .keys (eVar 0) (gNm 2) tYesD (eCall (ari 2 self) (aCons (eVar 2) (aCons (eBin subD (eVar 1) (eC (.int 1))) aNil))) [2]) aNil))))
    sNx)
  (sSeq (sIf (tTru (eCall (ari 1 (f_is_integer k)) (aCons (eVar 0) aNil)))
    (sRet (eChain (ordD fun i j => decide (i < j)) (ordD fun i j => decide (i < j)) (eUn negD (eC k_MAX_INTEGER)) (eVar 0) (eC k_MAX_INTEGER)))
    sNx)
  (sRet (eCall (ari 1 (f_is_text k)) (aCons (eVar 0) aNil)))))
def f_is_within_levels : Nat → List D → Sto → R D
  | 0 => fun _ _ => .bad
  | k + 1 => dDef 3 (b_is_within_levels k (f_is_within_levels k))
def b_size_within (k : Nat) (self : List D → Sto → R D) : SF :=
  (sRet (eIf (tTru (eUn (isiD .tuple) (eVar 0))) (eCall (sum2D) (aCons (eLcA .keys (eVar 0) (gNm 1) tYesD (eBin addD (eC (.int 1)) (eCall (ari 1 self) (aCons (eVar 1) aNil))) [1]) aNil)) (eC (.int 0))))
def f_size_within : Nat → List D → Sto → R D
  | 0 => fun _ _ => .bad
  | k + 1 => dDef 2 (b_size_within k (f_size_within k))
def b_is_value (k : Nat) (self : List D → Sto → R D) : SF :=
  (sRet (eAnd (eCall (ari 2 (f_is_within_levels k)) (aCons (eVar 0) (aCons (eC k_MAX_LEVELS) aNil))) (eBin (ordD fun i j => decide (i ≤ j)) (eCall (ari 1 (f_size_within k)) (aCons (eVar 0) aNil)) (eC k_MAX_ITEMS))))
def f_is_value : Nat → List D → Sto → R D
  | 0 => fun _ _ => .bad
  | k + 1 => dDef 1 (b_is_value k (fun _ _ => .bad))
def b_is_key (k : Nat) (self : List D → Sto → R D) : SF :=
  (sRet (eCall (ari 4 (f_is_word k)) (aCons (eVar 0) (aCons (eC k_SIGNS) (aCons (eC (.int 1)) (aCons (eC k_MAX_TEXT) aNil))))))
def f_is_key : Nat → List D → Sto → R D
  | 0 => fun _ _ => .bad
  | k + 1 => dDef 1 (b_is_key k (fun _ _ => .bad))
def b_is_name (k : Nat) (self : List D → Sto → R D) : SF :=
  (sRet (eCall (ari 4 (f_is_word k)) (aCons (eVar 0) (aCons (eC k_LETTERS) (aCons (eC (.int 1)) (aCons (eC k_MAX_NAME) aNil))))))
def f_is_name : Nat → List D → Sto → R D
  | 0 => fun _ _ => .bad
  | k + 1 => dDef 1 (b_is_name k (fun _ _ => .bad))
def b_is_state (k : Nat) (self : List D → Sto → R D) : SF :=
  (sSeq (sIf (tNot1 (tTru (eUn (isiD .dict) (eVar 0))))
    (sRet (eC (.bl false)))
    sNx)
  (sRet (eCall (allD) (aCons (eLcA .items (eVar 0) (gTp 2 (gCons2 (gNm 1) (gCons2 (gNm 2) gNil2))) tYesD (eAnd (eCall (ari 1 (f_is_key k)) (aCons (eVar 1) aNil)) (eCall (ari 1 (f_is_value k)) (aCons (eVar 2) aNil))) [1, 2]) aNil))))
def f_is_state : Nat → List D → Sto → R D
  | 0 => fun _ _ => .bad
  | k + 1 => dDef 3 (b_is_state k (fun _ _ => .bad))
def b_are_variables (k : Nat) (self : List D → Sto → R D) : SF :=
  (sRet (eAnd (eCall (ari 1 (f_is_state k)) (aCons (eVar 0) aNil)) (eCall (allD) (aCons (eLcA .keys (eVar 0) (gNm 1) tYesD (eCall (ari 1 (f_is_name k)) (aCons (eVar 1) aNil)) [1]) aNil))))
def f_are_variables : Nat → List D → Sto → R D
  | 0 => fun _ _ => .bad
  | k + 1 => dDef 2 (b_are_variables k (fun _ _ => .bad))
def b_are_equal (k : Nat) (self : List D → Sto → R D) : SF :=
  (sSeq (sIf (tAnd2 (tTru (eUn (isiD .tuple) (eVar 0))) (tTru (eUn (isiD .tuple) (eVar 1))))
    (sRet (eAnd (eBin (eqD false) (eCall (len2D) (aCons (eVar 0) aNil)) (eCall (len2D) (aCons (eVar 1) aNil))) (eCall (allD) (aCons (eLc (wZip (aCons (eVar 0) (aCons (eVar 1) aNil))) (gNm 2) tYesD (eStar (ari 2 self) (eVar 2)) [2]) aNil))))
    sNx)
  (sSeq (sIf (tOr2 (tTru (eUn (isiD .bool) (eVar 0))) (tTru (eUn (isiD .bool) (eVar 1))))
    (sRet (eAnd (eUn (isiD .bool) (eVar 0)) (eAnd (eUn (isiD .bool) (eVar 1)) (eBin (eqD false) (eVar 0) (eVar 1)))))
    sNx)
  (sSeq (sIf (tOr2 (tAnd2 (tTru (eUn (isiD .int) (eVar 0))) (tTru (eUn (isiD .int) (eVar 1)))) (tAnd2 (tTru (eUn (isiD .str) (eVar 0))) (tTru (eUn (isiD .str) (eVar 1)))))
    (sRet (eBin (eqD false) (eVar 0) (eVar 1)))
    sNx)
  (sRet (eAnd (eBin (isD false) (eVar 0) (eC .non)) (eBin (isD false) (eVar 1) (eC .non)))))))
def f_are_equal : Nat → List D → Sto → R D
  | 0 => fun _ _ => .bad
  | k + 1 => dDef 3 (b_are_equal k (f_are_equal k))
def b_check_variables (k : Nat) (self : List D → Sto → R D) : SF :=
  (sIf (tNot1 (tTru (eCall (ari 1 (f_are_variables k)) (aCons (eVar 0) aNil))))
    sBad
    sNx)
def f_check_variables : Nat → List D → Sto → R D
  | 0 => fun _ _ => .bad
  | k + 1 => dDef 1 (b_check_variables k (fun _ _ => .bad))
def b_is_deep_expression (k : Nat) (self : List D → Sto → R D) : SF :=
  (sSeq (sIf (tOr2 (tNot1 (tTru (eUn (isiD .tuple) (eVar 0)))) (tOr2 (tBl (eBin (eqD false) (eVar 0) (eTup aNil))) (tOr2 (tNot1 (tTru (eUn (isiD .str) (eBin ix2D (eVar 0) (eC (.int 0)))))) (tBl (eBin (eqD false) (eVar 1) (eC (.int 0)))))))
    (sRet (eC (.bl false)))
    sNx)
  (sSeq (sAsg (eVar 0) (gSt 1 (gCons2 (gNm 2) (gCons2 (gNm 3) gNil2))))
  (sSeq (sIf (tBl (eBin (eqD false) (eVar 2) (eC (.str "value"))))
    (sRet (eAnd (eBin (eqD false) (eCall (len2D) (aCons (eVar 3) aNil)) (eC (.int 1))) (eCall (ari 1 (f_is_value k)) (aCons (eBin ix2D (eVar 3) (eC (.int 0))) aNil))))
    sNx)
  (sSeq (sIf (tBl (eBin (eqD false) (eVar 2) (eC (.str "name"))))
    (sRet (eAnd (eBin (eqD false) (eCall (len2D) (aCons (eVar 3) aNil)) (eC (.int 1))) (eCall (ari 1 (f_is_name k)) (aCons (eBin ix2D (eVar 3) (eC (.int 0))) aNil))))
    sNx)
  (sSeq (sSet 4 (eDisp false [((eC (.str "list")), (eBin (ordD fun i j => decide (i ≤ j)) (eCall (len2D) (aCons (eVar 3) aNil)) (eC k_MAX_PARTS))), ((eC (.str "size")), (eBin (eqD false) (eCall (len2D) (aCons (eVar 3) aNil)) (eC (.int 1))))]))
  (sSeq (sIf (tNot1 (tOr2 (tAnd2 (tBl (eBin (inD false) (eVar 2) (eC k_PAIRS))) (tBl (eBin (eqD false) (eCall (len2D) (aCons (eVar 3) aNil)) (eC (.int 2))))) (tTru (eGet2 (eVar 4) (eVar 2) (eC (.bl false))))))
    (sRet (eC (.bl false)))
    sNx)
  (sRet (eCall (allD) (aCons (eLcA .keys (eVar 3) (gNm 5) tYesD (eCall (ari 2 self) (aCons (eVar 5) (aCons (eBin subD (eVar 1) (eC (.int 1))) aNil))) [5]) aNil)))))))))
def f_is_deep_expression : Nat → List D → Sto → R D
  | 0 => fun _ _ => .bad
  | k + 1 => dDef 6 (b_is_deep_expression k (f_is_deep_expression k))
def b_is_expression (k : Nat) (self : List D → Sto → R D) : SF :=
  (sRet (eCall (ari 2 (f_is_deep_expression k)) (aCons (eVar 0) (aCons (eC k_MAX_DEPTH) aNil))))
def f_is_expression : Nat → List D → Sto → R D
  | 0 => fun _ _ => .bad
  | k + 1 => dDef 1 (b_is_expression k (fun _ _ => .bad))
def b_names_within (k : Nat) (self : List D → Sto → R D) : SF :=
  (sSeq (sAsg (eVar 0) (gSt 1 (gCons2 (gNm 1) (gCons2 (gNm 2) gNil2))))
  (sSeq (sIf (tBl (eBin (eqD false) (eVar 1) (eC (.str "value"))))
    (sRet (eLst aNil))
    sNx)
  (sSeq (sIf (tBl (eBin (eqD false) (eVar 1) (eC (.str "name"))))
    (sRet (eVar 2))
    sNx)
  (sRet (eCall (sum2D) (aCons (eLcA .keys (eVar 2) (gNm 3) tYesD (eCall (ari 1 self) (aCons (eVar 3) aNil)) [3]) (aCons (eLst aNil) aNil)))))))
def f_names_within : Nat → List D → Sto → R D
  | 0 => fun _ _ => .bad
  | k + 1 => dDef 4 (b_names_within k (f_names_within k))
def b_unlike (k : Nat) (self : List D → Sto → R D) : SF :=
  (sRet (eCall (listD false) (aCons (eDcA false .keys (eVar 0) (gNm 1) tYesD (eVar 1) (eC (.bl true)) [1]) aNil)))
def f_unlike : Nat → List D → Sto → R D
  | 0 => fun _ _ => .bad
  | k + 1 => dDef 2 (b_unlike k (fun _ _ => .bad))
def b_names_in (k : Nat) (self : List D → Sto → R D) : SF :=
  (sSeq (sIf (tNot1 (tTru (eCall (ari 1 (f_is_expression k)) (aCons (eVar 0) aNil))))
    sBad
    sNx)
  (sRet (eCall (ari 1 (f_unlike k)) (aCons (eCall (ari 1 (f_names_within k)) (aCons (eVar 0) aNil)) aNil))))
def f_names_in : Nat → List D → Sto → R D
  | 0 => fun _ _ => .bad
  | k + 1 => dDef 1 (b_names_in k (fun _ _ => .bad))
def b_failed (k : Nat) (self : List D → Sto → R D) : SF :=
  (sRet (eTup (aCons (eC (.str "failed")) (aCons (eVar 0) aNil))))
def f_failed : Nat → List D → Sto → R D
  | 0 => fun _ _ => .bad
  | k + 1 => dDef 1 (b_failed k (fun _ _ => .bad))
def b_numeric_result (k : Nat) (self : List D → Sto → R D) : SF :=
  (sSeq (sIf (tOr2 (tNot1 (tTru (eCall (ari 1 (f_is_integer k)) (aCons (eVar 1) aNil)))) (tNot1 (tTru (eCall (ari 1 (f_is_integer k)) (aCons (eVar 2) aNil)))))
    (sRet (eCall (ari 1 (f_failed k)) (aCons (eC (.str "kind")) aNil)))
    sNx)
  (sSeq (sIf (tAnd2 (tBl (eBin (eqD false) (eVar 0) (eC (.str "divide")))) (tBl (eBin (eqD false) (eVar 2) (eC (.int 0)))))
    (sRet (eCall (ari 1 (f_failed k)) (aCons (eC (.str "zero")) aNil)))
    sNx)
  (sMatch (eVar 0)
    (mCase 3 (tBl (eBin (eqD false) (eVar 3) (eC (.str "add"))))
    (sRet (eTup (aCons (eC (.str "value")) (aCons (eBin addD (eVar 1) (eVar 2)) aNil))))
    (mCase 3 (tBl (eBin (eqD false) (eVar 3) (eC (.str "subtract"))))
    (sRet (eTup (aCons (eC (.str "value")) (aCons (eBin subD (eVar 1) (eVar 2)) aNil))))
    (mCase 3 (tBl (eBin (eqD false) (eVar 3) (eC (.str "multiply"))))
    (sRet (eTup (aCons (eC (.str "value")) (aCons (eBin mul2D (eVar 1) (eVar 2)) aNil))))
    (mCase 3 (tBl (eBin (eqD false) (eVar 3) (eC (.str "divide"))))
    (sRet (eTup (aCons (eC (.str "value")) (aCons (eBin fdiv2D (eVar 1) (eVar 2)) aNil))))
    (mElse (sRet (eTup (aCons (eC (.str "value")) (aCons (eCall (intD) (aCons (eBin (ordD fun i j => decide (i < j)) (eVar 1) (eVar 2)) aNil)) aNil))))))))))))
def f_numeric_result : Nat → List D → Sto → R D
  | 0 => fun _ _ => .bad
  | k + 1 => dDef 4 (b_numeric_result k (fun _ _ => .bad))
def b_joined (k : Nat) (self : List D → Sto → R D) : SF :=
  (sSeq (sSet 2 (eAnd (eCall (ari 1 (f_is_text k)) (aCons (eVar 0) aNil)) (eCall (ari 1 (f_is_text k)) (aCons (eVar 1) aNil))))
  (sSeq (sIf (tAnd2 (tNot1 (tTru (eVar 2))) (tNot1 (tAnd2 (tTru (eUn (isiD .tuple) (eVar 0))) (tTru (eUn (isiD .tuple) (eVar 1))))))
    (sRet (eCall (ari 1 (f_failed k)) (aCons (eC (.str "kind")) aNil)))
    sNx)
  (sRet (eTup (aCons (eC (.str "value")) (aCons (eBin addD (eVar 0) (eVar 1)) aNil))))))
def f_joined : Nat → List D → Sto → R D
  | 0 => fun _ _ => .bad
  | k + 1 => dDef 3 (b_joined k (fun _ _ => .bad))
def b_item_of (k : Nat) (self : List D → Sto → R D) : SF :=
  (sSeq (sIf (tOr2 (tNot1 (tTru (eUn (isiD .tuple) (eVar 0)))) (tNot1 (tTru (eCall (ari 1 (f_is_integer k)) (aCons (eVar 1) aNil)))))
    (sRet (eCall (ari 1 (f_failed k)) (aCons (eC (.str "kind")) aNil)))
    sNx)
  (sSeq (sIf (tNot1 (tBl (eChain (ordD fun i j => decide (i ≤ j)) (ordD fun i j => decide (i < j)) (eC (.int 0)) (eVar 1) (eCall (len2D) (aCons (eVar 0) aNil)))))
    (sRet (eCall (ari 1 (f_failed k)) (aCons (eC (.str "range")) aNil)))
    sNx)
  (sRet (eTup (aCons (eC (.str "value")) (aCons (eBin ix2D (eVar 0) (eVar 1)) aNil))))))
def f_item_of : Nat → List D → Sto → R D
  | 0 => fun _ _ => .bad
  | k + 1 => dDef 2 (b_item_of k (fun _ _ => .bad))
def b_combined (k : Nat) (self : List D → Sto → R D) : SF :=
  (sSeq (sIf (tBl (eBin (eqD false) (eVar 0) (eC (.str "list"))))
    (sRet (eTup (aCons (eC (.str "value")) (aCons (eCall (tupleD) (aCons (eVar 1) aNil)) aNil))))
    sNx)
  (sSeq (sIf (tBl (eBin (eqD false) (eVar 0) (eC (.str "size"))))
    (sRet (eIf (tTru (eCall (ari 1 (f_is_integer k)) (aCons (eBin ix2D (eVar 1) (eC (.int 0))) aNil))) (eCall (ari 1 (f_failed k)) (aCons (eC (.str "kind")) aNil)) (eTup (aCons (eC (.str "value")) (aCons (eCall (len2D) (aCons (eBin ix2D (eVar 1) (eC (.int 0))) aNil)) aNil)))))
    sNx)
  (sSeq (sAsg (eVar 1) (gTp2 2 (gCons2 (gNm 2) (gCons2 (gNm 3) gNil2))))
  (sSeq (sIf (tBl (eBin (eqD false) (eVar 0) (eC (.str "equal"))))
    (sRet (eTup (aCons (eC (.str "value")) (aCons (eCall (intD) (aCons (eCall (ari 2 (f_are_equal k)) (aCons (eVar 2) (aCons (eVar 3) aNil))) aNil)) aNil))))
    sNx)
  (sSeq (sIf (tBl (eBin (eqD false) (eVar 0) (eC (.str "join"))))
    (sRet (eCall (ari 2 (f_joined k)) (aCons (eVar 2) (aCons (eVar 3) aNil))))
    sNx)
  (sSeq (sIf (tBl (eBin (eqD false) (eVar 0) (eC (.str "item"))))
    (sRet (eCall (ari 2 (f_item_of k)) (aCons (eVar 2) (aCons (eVar 3) aNil))))
    sNx)
  (sRet (eCall (ari 3 (f_numeric_result k)) (aCons (eVar 0) (aCons (eVar 2) (aCons (eVar 3) aNil)))))))))))
def f_combined : Nat → List D → Sto → R D
  | 0 => fun _ _ => .bad
  | k + 1 => dDef 4 (b_combined k (fun _ _ => .bad))
def b_result_of (k : Nat) (self : List D → Sto → R D) : SF :=
  (sSeq (sAsg (eVar 0) (gSt 1 (gCons2 (gNm 2) (gCons2 (gNm 3) gNil2))))
  (sSeq (sIf (tBl (eBin (eqD false) (eVar 2) (eC (.str "value"))))
    (sRet (eTup (aCons (eC (.str "value")) (aCons (eBin ix2D (eVar 3) (eC (.int 0))) aNil))))
    sNx)
  (sSeq (sIf (tBl (eBin (eqD false) (eVar 2) (eC (.str "name"))))
    (sRet (eIf (tBl (eBin (inD false) (eBin ix2D (eVar 3) (eC (.int 0))) (eVar 1))) (eTup (aCons (eC (.str "value")) (aCons (eBin ix2D (eVar 1) (eBin ix2D (eVar 3) (eC (.int 0)))) aNil))) (eCall (ari 1 (f_failed k)) (aCons (eC (.str "name")) aNil))))
    sNx)
  (sSeq (sSet 4 (eLstM aNil))
  (sSeq (sFor (wAk .keys (eVar 3)) (gNm 5)
    (sSeq (sSet 6 (eCall (ari 2 self) (aCons (eVar 5) (aCons (eVar 1) aNil))))
  (sSeq (sIf (tBl (eBin (eqD false) (eBin ix2D (eVar 6) (eC (.int 0))) (eC (.str "failed"))))
    (sRet (eVar 6))
    sNx)
  (sDrop (eM isLst appD (eVar 4) (aCons (eBin ix2D (eVar 6) (eC (.int 1))) aNil))))))
  (sSeq (sSet 6 (eCall (ari 2 (f_combined k)) (aCons (eVar 2) (aCons (eVar 4) aNil))))
  (sRet (eIf (tOr2 (tBl (eBin (eqD false) (eBin ix2D (eVar 6) (eC (.int 0))) (eC (.str "failed")))) (tTru (eCall (ari 1 (f_is_value k)) (aCons (eBin ix2D (eVar 6) (eC (.int 1))) aNil)))) (eVar 6) (eCall (ari 1 (f_failed k)) (aCons (eC (.str "size")) aNil))))))))))
def f_result_of : Nat → List D → Sto → R D
  | 0 => fun _ _ => .bad
  | k + 1 => dDef 7 (b_result_of k (f_result_of k))
def b_evaluate (k : Nat) (self : List D → Sto → R D) : SF :=
  (sSeq (sIf (tNot1 (tTru (eCall (ari 1 (f_is_expression k)) (aCons (eVar 0) aNil))))
    sBad
    sNx)
  (sSeq (sDrop (eCall (ari 1 (f_check_variables k)) (aCons (eVar 1) aNil)))
  (sRet (eCall (ari 2 (f_result_of k)) (aCons (eVar 0) (aCons (eVar 1) aNil))))))
def f_evaluate : Nat → List D → Sto → R D
  | 0 => fun _ _ => .bad
  | k + 1 => dDef 2 (b_evaluate k (fun _ _ => .bad))
def b_pool (k : Nat) (self : List D → Sto → R D) : SF :=
  (sSeq (sSet 2 (eBin addD (eBin mul2D (eC (.int 11)) (eCall (sum2D) (aCons (eSl (eVar 0) pNo (pSo (eC (.int 63)))) aNil))) (eVar 1)))
  (sSeq (sIf (tBl (eBin (ordD fun i j => decide (i < j)) (eVar 1) (eCall (len2D) (aCons (eVar 0) aNil))))
    (sSet 2 (eBin ix2D (eVar 0) (eVar 1)))
    sNx)
  (sSeq (sSet 3 (eCall (absD) (aCons (eVar 2) aNil)))
  (sSeq (sSet 4 (eBin modD (eBin mul2D (eBin addD (eBin addD (eBin addD (eBin modD (eVar 3) (eC (.int 2147483629))) (eBin mul2D (eBin mul2D (eC (.int 7919)) (eVar 1)) (eVar 1))) (eBin mul2D (eC (.int 31)) (eVar 1))) (eC (.int 17))) (eC (.int 48271))) (eC (.int 2147483647))))
  (sRet (eLstM (aCons (eBin mul2D (eVar 3) (eCall (intD) (aCons (eBin (ordD fun i j => decide (j ≤ i)) (eVar 3) (eBin powD (eC (.int 10)) (eC (.int 18)))) aNil))) (aCons (eBin modD (eBin mul2D (eVar 4) (eVar 4)) (eC (.int 2147483629))) aNil))))))))
def f_pool : Nat → List D → Sto → R D
  | 0 => fun _ _ => .bad
  | k + 1 => dDef 5 (b_pool k (fun _ _ => .bad))
def b_draw (k : Nat) (self : List D → Sto → R D) : SF :=
  (sSeq (sIf (tBl (eBin (ordD fun i j => decide (j < i)) (eBin ix2D (eVar 0) (eC (.int 0))) (eC (.int 0))))
    (sSeq (sSet 2 (eBin modD (eBin ix2D (eVar 0) (eC (.int 0))) (eVar 1)))
  (sSeq (sAsg (eBin fdiv2D (eBin ix2D (eVar 0) (eC (.int 0))) (eVar 1)) (gIx (eVar 0) (eC (.int 0)) set2D))
  (sRet (eVar 2))))
    sNx)
  (sSeq (sAsg (eBin modD (eBin addD (eBin mul2D (eBin ix2D (eVar 0) (eC (.int 1))) (eC (.int 48271))) (eC (.int 11))) (eC (.int 2147483647))) (gIx (eVar 0) (eC (.int 1)) set2D))
  (sRet (eBin modD (eBin fdiv2D (eBin modD (eBin mul2D (eBin ix2D (eVar 0) (eC (.int 1))) (eBin ix2D (eVar 0) (eC (.int 1)))) (eC (.int 2147483629))) (eC (.int 16))) (eVar 1)))))
def f_draw : Nat → List D → Sto → R D
  | 0 => fun _ _ => .bad
  | k + 1 => dDef 3 (b_draw k (fun _ _ => .bad))
def b_whole (k : Nat) (self : List D → Sto → R D) : SF :=
  (sRet (eAnd (eUn (isiD .int) (eVar 0)) (eNot (eUn (isiD .bool) (eVar 0)))))
def f_whole : Nat → List D → Sto → R D
  | 0 => fun _ _ => .bad
  | k + 1 => dDef 1 (b_whole k (fun _ _ => .bad))
def b_small (k : Nat) (self : List D → Sto → R D) : SF :=
  (sSeq (sIf (tTru (eUn (isiD .tuple) (eVar 0)))
    (sSeq (sSet 2 (eLcA .keys (eVar 0) (gNm 3) (tNot1 (tTru (eCall (ari 2 self) (aCons (eVar 3) (aCons (eBin subD (eVar 1) (eC (.int 1))) aNil))))) (eVar 3) [3]))
  (sRet (eAnd (eBin (ordD fun i j => decide (j < i)) (eVar 1) (eC (.int 0))) (eAnd (eBin (ordD fun i j => decide (i ≤ j)) (eCall (len2D) (aCons (eVar 0) aNil)) (eC (.int 50))) (eBin (eqD false) (eVar 2) (eLst aNil))))))
    sNx)
  (sRet (eIf (tTru (eUn (isiD .str) (eVar 0))) (eBin (ordD fun i j => decide (i ≤ j)) (eCall (len2D) (aCons (eVar 0) aNil)) (eC (.int 60))) (eBin (ordD fun i j => decide (i < j)) (eCall (absD) (aCons (eVar 0) aNil)) (eBin powD (eC (.int 10)) (eC (.int 60)))))))
def f_small : Nat → List D → Sto → R D
  | 0 => fun _ _ => .bad
  | k + 1 => dDef 4 (b_small k (f_small k))
def b_within (k : Nat) (self : List D → Sto → R D) : SF :=
  (sRet (eIf (tTru (eUn (isiD .tuple) (eVar 0))) (eCall (sum2D) (aCons (eLcA .keys (eVar 0) (gNm 1) tYesD (eBin addD (eC (.int 1)) (eCall (ari 1 self) (aCons (eVar 1) aNil))) [1]) aNil)) (eC (.int 0))))
def f_within : Nat → List D → Sto → R D
  | 0 => fun _ _ => .bad
  | k + 1 => dDef 2 (b_within k (f_within k))
def b_pair (k : Nat) (self : List D → Sto → R D) : SF :=
  (sSeq (sIf (tBl (eBin (eqD false) (eVar 0) (eC (.str "equal"))))
    (sRet (eCall (intD) (aCons (eBin (eqD false) (eVar 1) (eVar 2)) aNil)))
    sNx)
  (sSeq (sIf (tBl (eBin (eqD false) (eVar 0) (eC (.str "join"))))
    (sSeq (sIf (tOr2 (tTru (eCall (ari 1 (f_whole k)) (aCons (eVar 1) aNil))) (tOr2 (tTru (eCall (ari 1 (f_whole k)) (aCons (eVar 2) aNil))) (tBl (eBin (eqD true) (eUn (isiD .str) (eVar 1)) (eUn (isiD .str) (eVar 2))))))
    (sRet (eLst (aCons (eC (.str "failed")) (aCons (eC (.str "kind")) aNil))))
    sNx)
  (sRet (eBin addD (eVar 1) (eVar 2))))
    sNx)
  (sSeq (sIf (tBl (eBin (eqD false) (eVar 0) (eC (.str "item"))))
    (sSeq (sIf (tOr2 (tNot1 (tTru (eUn (isiD .tuple) (eVar 1)))) (tNot1 (tTru (eCall (ari 1 (f_whole k)) (aCons (eVar 2) aNil)))))
    (sRet (eLst (aCons (eC (.str "failed")) (aCons (eC (.str "kind")) aNil))))
    sNx)
  (sRet (eIf (tBl (eChain (ordD fun i j => decide (i ≤ j)) (ordD fun i j => decide (i < j)) (eC (.int 0)) (eVar 2) (eCall (len2D) (aCons (eVar 1) aNil)))) (eBin ix2D (eVar 1) (eVar 2)) (eLst (aCons (eC (.str "failed")) (aCons (eC (.str "range")) aNil))))))
    sNx)
  (sSeq (sIf (tOr2 (tNot1 (tTru (eCall (ari 1 (f_whole k)) (aCons (eVar 1) aNil)))) (tNot1 (tTru (eCall (ari 1 (f_whole k)) (aCons (eVar 2) aNil)))))
    (sRet (eLst (aCons (eC (.str "failed")) (aCons (eC (.str "kind")) aNil))))
    sNx)
  (sSeq (sIf (tBl (eBin (eqD false) (eVar 0) (eC (.str "divide"))))
    (sRet (eIf (tBl (eBin (eqD true) (eVar 2) (eC (.int 0)))) (eBin fdiv2D (eVar 1) (eVar 2)) (eLst (aCons (eC (.str "failed")) (aCons (eC (.str "zero")) aNil)))))
    sNx)
  (sSeq (sIf (tBl (eBin (eqD false) (eVar 0) (eC (.str "add"))))
    (sRet (eBin addD (eVar 1) (eVar 2)))
    sNx)
  (sSeq (sIf (tBl (eBin (eqD false) (eVar 0) (eC (.str "subtract"))))
    (sRet (eBin subD (eVar 1) (eVar 2)))
    sNx)
  (sRet (eIf (tBl (eBin (eqD false) (eVar 0) (eC (.str "multiply")))) (eBin mul2D (eVar 1) (eVar 2)) (eCall (intD) (aCons (eBin (ordD fun i j => decide (i < j)) (eVar 1) (eVar 2)) aNil)))))))))))
def f_pair : Nat → List D → Sto → R D
  | 0 => fun _ _ => .bad
  | k + 1 => dDef 3 (b_pair k (fun _ _ => .bad))
def b_result (k : Nat) (self : List D → Sto → R D) : SF :=
  (sSeq (sPar 2 3 (aCons (eBin ix2D (eVar 0) (eC (.int 0))) (aCons (eLstM aNil) aNil)))
  (sSeq (sIf (tBl (eBin (eqD false) (eVar 2) (eC (.str "value"))))
    (sRet (eLst (aCons (eC (.str "value")) (aCons (eBin ix2D (eVar 0) (eC (.int 1))) aNil))))
    sNx)
  (sSeq (sIf (tBl (eBin (eqD false) (eVar 2) (eC (.str "name"))))
    (sRet (eIf (tBl (eBin (inD false) (eBin ix2D (eVar 0) (eC (.int 1))) (eVar 1))) (eLst (aCons (eC (.str "value")) (aCons (eBin ix2D (eVar 1) (eBin ix2D (eVar 0) (eC (.int 1)))) aNil))) (eLst (aCons (eC (.str "failed")) (aCons (eC (.str "name")) aNil)))))
    sNx)
  (sSeq (sFor (wAk .keys (eSl (eVar 0) (pSo (eC (.int 1))) pNo)) (gNm 4)
    (sSeq (sSet 5 (eCall (ari 2 self) (aCons (eVar 4) (aCons (eVar 1) aNil))))
  (sSeq (sIf (tBl (eBin (eqD false) (eBin ix2D (eVar 5) (eC (.int 0))) (eC (.str "failed"))))
    (sRet (eVar 5))
    sNx)
  (sDrop (eM isLst appD (eVar 3) (aCons (eBin ix2D (eVar 5) (eC (.int 1))) aNil))))))
  (sSeq (sIf (tBl (eBin (eqD false) (eVar 2) (eC (.str "list"))))
    (sSet 5 (eCall (tupleD) (aCons (eVar 3) aNil)))
    (sIf (tBl (eBin (eqD false) (eVar 2) (eC (.str "size"))))
    (sSet 5 (eIf (tTru (eCall (ari 1 (f_whole k)) (aCons (eBin ix2D (eVar 3) (eC (.int 0))) aNil))) (eLst (aCons (eC (.str "failed")) (aCons (eC (.str "kind")) aNil))) (eCall (len2D) (aCons (eBin ix2D (eVar 3) (eC (.int 0))) aNil))))
    (sSet 5 (eCall (ari 3 (f_pair k)) (aCons (eVar 2) (aCons (eBin ix2D (eVar 3) (eC (.int 0))) (aCons (eBin ix2D (eVar 3) (eC (.int 1))) aNil)))))))
  (sSeq (sIf (tTru (eUn (isiD .list) (eVar 5)))
    (sRet (eVar 5))
    sNx)
  (sSeq (sSet 6 (eAnd (eCall (ari 2 (f_small k)) (aCons (eVar 5) (aCons (eC (.int 5)) aNil))) (eBin (ordD fun i j => decide (i ≤ j)) (eCall (ari 1 (f_within k)) (aCons (eVar 5) aNil)) (eC (.int 50)))))
  (sRet (eIf (tTru (eVar 6)) (eLst (aCons (eC (.str "value")) (aCons (eVar 5) aNil))) (eLst (aCons (eC (.str "failed")) (aCons (eC (.str "size")) aNil))))))))))))
def f_result : Nat → List D → Sto → R D
  | 0 => fun _ _ => .bad
  | k + 1 => dDef 7 (b_result k (f_result k))
def b_l_names_in (k : Nat) (self : List D → Sto → R D) : SF :=
  (sSeq (sIf (tBl (eBin (eqD false) (eBin ix2D (eVar 0) (eC (.int 0))) (eC (.str "value"))))
    (sRet (eLst aNil))
    sNx)
  (sSeq (sIf (tBl (eBin (eqD false) (eBin ix2D (eVar 0) (eC (.int 0))) (eC (.str "name"))))
    (sRet (eLst (aCons (eBin ix2D (eVar 0) (eC (.int 1))) aNil)))
    sNx)
  (sRet (eCall (sum2D) (aCons (eLcA .keys (eSl (eVar 0) (pSo (eC (.int 1))) pNo) (gNm 1) tYesD (eCall (ari 1 self) (aCons (eVar 1) aNil)) [1]) (aCons (eLst aNil) aNil))))))
def f_l_names_in : Nat → List D → Sto → R D
  | 0 => fun _ _ => .bad
  | k + 1 => dDef 2 (b_l_names_in k (f_l_names_in k))
def b_once (k : Nat) (self : List D → Sto → R D) : SF :=
  (sRet (eCall (listD false) (aCons (eCall (dictD false) (aCons (eLcA .keys (eVar 0) (gNm 1) tYesD (eTup (aCons (eVar 1) (aCons (eC (.bl true)) aNil))) [1]) aNil)) aNil)))
def f_once : Nat → List D → Sto → R D
  | 0 => fun _ _ => .bad
  | k + 1 => dDef 2 (b_once k (fun _ _ => .bad))
def b_random_term (k : Nat) (self : List D → Sto → R D) : SF :=
  (sSeq (sSet 2 (eCall (ari 2 (f_draw k)) (aCons (eVar 0) (aCons (eIf (tBl (eBin (ordD fun i j => decide (j < i)) (eVar 1) (eC (.int 0)))) (eC (.int 4)) (eC (.int 2))) aNil))))
  (sSeq (sIf (tBl (eBin (eqD false) (eVar 2) (eC (.int 0))))
    (sSeq (sSet 3 (eLst (aCons (eC (.int 0)) (aCons (eC (.int 1)) (aCons (eUn negD (eC (.int 7))) (aCons (eBin powD (eC (.int 10)) (eC (.int 59))) (aCons (eBin subD (eC (.int 3)) (eBin powD (eC (.int 10)) (eC (.int 60)))) (aCons (eC (.str "")) (aCons (eC (.str "ab")) (aCons (eBin mul2D (eC (.str "x")) (eC (.int 40))) (aCons (eTup aNil) (aCons (eTup (aCons (eC (.int 1)) (aCons (eC (.str "a")) aNil))) (aCons (eTup (aCons (eTup (aCons (eC (.int 2)) aNil)) (aCons (eC (.int 3)) aNil))) (aCons (eBin mul2D (eTup (aCons (eC (.int 1)) aNil)) (eC (.int 30))) (aCons (eC (.int 5)) aNil)))))))))))))))
  (sRet (eTup (aCons (eC (.str "value")) (aCons (eBin ix2D (eVar 3) (eCall (ari 2 (f_draw k)) (aCons (eVar 0) (aCons (eC (.int 13)) aNil)))) aNil)))))
    sNx)
  (sSeq (sIf (tBl (eBin (eqD false) (eVar 2) (eC (.int 1))))
    (sRet (eTup (aCons (eC (.str "name")) (aCons (eBin ix2D (eC (.str "abcde")) (eCall (ari 2 (f_draw k)) (aCons (eVar 0) (aCons (eC (.int 5)) aNil)))) aNil))))
    sNx)
  (sSeq (sSet 4 (eLst (aCons (eC (.str "add")) (aCons (eC (.str "subtract")) (aCons (eC (.str "multiply")) (aCons (eC (.str "divide")) (aCons (eC (.str "less")) (aCons (eC (.str "equal")) (aCons (eC (.str "join")) (aCons (eC (.str "item")) (aCons (eC (.str "list")) (aCons (eC (.str "size")) aNil))))))))))))
  (sSeq (sSet 5 (eBin ix2D (eVar 4) (eCall (ari 2 (f_draw k)) (aCons (eVar 0) (aCons (eC (.int 10)) aNil)))))
  (sSeq (sSet 6 (eGet2 (eDisp false [((eC (.str "list")), (eCall (ari 2 (f_draw k)) (aCons (eVar 0) (aCons (eC (.int 5)) aNil)))), ((eC (.str "size")), (eC (.int 1)))]) (eVar 5) (eC (.int 2))))
  (sRet (eBin addD (eTup (aCons (eVar 5) aNil)) (eCall (tupleD) (aCons (eLc (wRng1 (aCons (eVar 6) aNil)) (gNm 7) tYesD (eCall (ari 2 self) (aCons (eVar 0) (aCons (eBin subD (eVar 1) (eC (.int 1))) aNil))) [7]) aNil))))))))))
def f_random_term : Nat → List D → Sto → R D
  | 0 => fun _ _ => .bad
  | k + 1 => dDef 8 (b_random_term k (f_random_term k))
def b_nested (k : Nat) (self : List D → Sto → R D) : SF :=
  (sSeq (sSet 1 (eTup aNil))
  (sSeq (sFor (wRng1 (aCons (eVar 0) aNil)) (gNm 2)
    (sSet 1 (eTup (aCons (eVar 1) aNil))))
  (sRet (eVar 1))))
def f_nested : Nat → List D → Sto → R D
  | 0 => fun _ _ => .bad
  | k + 1 => dDef 3 (b_nested k (fun _ _ => .bad))
def b_law (k : Nat) (self : List D → Sto → R D) : SF :=
  (sSeq (sSet 1 (eTup (aCons (eC (.str "list")) (aCons (eTup (aCons (eC (.str "value")) (aCons (eCall (ari 1 (f_nested k)) (aCons (eC (.int 4)) aNil)) aNil))) aNil))))
  (sSeq (sIf (tBl (eBin (eqD true) (eCall (ari 2 (f_evaluate k)) (aCons (eVar 1) (aCons eDict0 aNil))) (eTup (aCons (eC (.str "failed")) (aCons (eC (.str "size")) aNil)))))
    (sRet (eC (.bl false)))
    sNx)
  (sSeq (sIf (tBl (eBin (eqD true) (eBin ix2D (eCall (ari 2 (f_evaluate k)) (aCons (eTup (aCons (eC (.str "list")) (aCons (eTup (aCons (eC (.str "value")) (aCons (eCall (ari 1 (f_nested k)) (aCons (eC (.int 3)) aNil)) aNil))) aNil))) (aCons eDict0 aNil))) (eC (.int 0))) (eC (.str "value"))))
    (sRet (eC (.bl false)))
    sNx)
  (sSeq (sFor (wRng1 (aCons (eCall (max2D) (aCons (eC (.int 1)) (aCons (eCall (min2D) (aCons (eCall (len2D) (aCons (eVar 0) aNil)) (aCons (eC (.int 8)) aNil))) aNil))) aNil)) (gNm 2)
    (sSeq (sSet 3 (eCall (ari 2 (f_pool k)) (aCons (eVar 0) (aCons (eVar 2) aNil))))
  (sFor (wRng1 (aCons (eC (.int 25)) aNil)) (gNm 4)
    (sSeq (sSet 5 (eDisp true [((eC (.str "a")), (eBin subD (eCall (ari 2 (f_draw k)) (aCons (eVar 3) (aCons (eC (.int 9)) aNil))) (eC (.int 4)))), ((eC (.str "b")), (eBin ix2D (eLst (aCons (eC (.str "ab")) (aCons (eC (.str "")) (aCons (eC (.str "q7")) aNil)))) (eCall (ari 2 (f_draw k)) (aCons (eVar 3) (aCons (eC (.int 3)) aNil)))))]))
  (sSeq (sAsg (eBin ix2D (eLst (aCons (eTup (aCons (eC (.int 1)) (aCons (eC (.int 2)) aNil))) (aCons (eTup aNil) (aCons (eTup (aCons (eC (.str "a")) (aCons (eTup (aCons (eC (.int 1)) aNil)) aNil))) aNil)))) (eCall (ari 2 (f_draw k)) (aCons (eVar 3) (aCons (eC (.int 3)) aNil)))) (gIx (eVar 5) (eC (.str "c")) set2D))
  (sSeq (sSet 6 (eCall (ari 2 (f_random_term k)) (aCons (eVar 3) (aCons (eBin addD (eC (.int 1)) (eCall (ari 2 (f_draw k)) (aCons (eVar 3) (aCons (eC (.int 4)) aNil)))) aNil))))
  (sSeq (sIf (tBl (eBin (eqD true) (eCall (listD false) (aCons (eCall (ari 2 (f_evaluate k)) (aCons (eVar 6) (aCons (eVar 5) aNil))) aNil)) (eCall (ari 2 (f_result k)) (aCons (eVar 6) (aCons (eVar 5) aNil)))))
    (sRet (eC (.bl false)))
    sNx)
  (sIf (tBl (eBin (eqD true) (eCall (ari 1 (f_names_in k)) (aCons (eVar 6) aNil)) (eCall (ari 1 (f_once k)) (aCons (eCall (ari 1 (f_l_names_in k)) (aCons (eVar 6) aNil)) aNil))))
    (sRet (eC (.bl false)))
    sNx))))))))
  (sRet (eC (.bl true)))))))
def f_law : Nat → List D → Sto → R D
  | 0 => fun _ _ => .bad
  | k + 1 => dDef 7 (b_law k (fun _ _ => .bad))
end K03

namespace K03
open PySem PySem.Spec PyProof.Rows L2 VL
def topS (i : Nat) : Stmt := PySem.Challenge.pw_mendedruns_k03_whole_values_of_expressio.main.body.getD i (.Pass ⟨0, 0, 0, 0⟩)
abbrev s_is_integer : Stmt := topS 12
abbrev N_is_integer : List Str := ["value"]
theorem sc_is_integer : FnScope N_is_integer ["value"] (defScope s_is_integer) := ⟨rfl, rfl, rfl, by decide +kernel, rfl, by decide +kernel, by decide +kernel⟩
abbrev s_is_word : Stmt := topS 13
abbrev N_is_word : List Str := ["value", "signs", "least", "most", "sign"]
theorem sc_is_word : FnScope N_is_word ["value", "signs", "least", "most"] (defScope s_is_word) := ⟨rfl, rfl, rfl, by decide +kernel, rfl, by decide +kernel, by decide +kernel⟩
abbrev s_is_text : Stmt := topS 14
abbrev N_is_text : List Str := ["value"]
theorem sc_is_text : FnScope N_is_text ["value"] (defScope s_is_text) := ⟨rfl, rfl, rfl, by decide +kernel, rfl, by decide +kernel, by decide +kernel⟩
abbrev s_is_within_levels : Stmt := topS 15
abbrev N_is_within_levels : List Str := ["value", "levels", "item"]
theorem sc_is_within_levels : FnScope N_is_within_levels ["value", "levels"] (defScope s_is_within_levels) := ⟨rfl, rfl, rfl, by decide +kernel, rfl, by decide +kernel, by decide +kernel⟩
abbrev s_size_within : Stmt := topS 16
abbrev N_size_within : List Str := ["value", "item"]
theorem sc_size_within : FnScope N_size_within ["value"] (defScope s_size_within) := ⟨rfl, rfl, rfl, by decide +kernel, rfl, by decide +kernel, by decide +kernel⟩
abbrev s_is_value : Stmt := topS 17
abbrev N_is_value : List Str := ["value"]
theorem sc_is_value : FnScope N_is_value ["value"] (defScope s_is_value) := ⟨rfl, rfl, rfl, by decide +kernel, rfl, by decide +kernel, by decide +kernel⟩
abbrev s_is_key : Stmt := topS 18
abbrev N_is_key : List Str := ["value"]
theorem sc_is_key : FnScope N_is_key ["value"] (defScope s_is_key) := ⟨rfl, rfl, rfl, by decide +kernel, rfl, by decide +kernel, by decide +kernel⟩
abbrev s_is_name : Stmt := topS 19
abbrev N_is_name : List Str := ["value"]
theorem sc_is_name : FnScope N_is_name ["value"] (defScope s_is_name) := ⟨rfl, rfl, rfl, by decide +kernel, rfl, by decide +kernel, by decide +kernel⟩
abbrev s_is_state : Stmt := topS 20
abbrev N_is_state : List Str := ["value", "key", "worth"]
theorem sc_is_state : FnScope N_is_state ["value"] (defScope s_is_state) := ⟨rfl, rfl, rfl, by decide +kernel, rfl, by decide +kernel, by decide +kernel⟩
abbrev s_are_variables : Stmt := topS 21
abbrev N_are_variables : List Str := ["value", "name"]
theorem sc_are_variables : FnScope N_are_variables ["value"] (defScope s_are_variables) := ⟨rfl, rfl, rfl, by decide +kernel, rfl, by decide +kernel, by decide +kernel⟩
abbrev s_are_equal : Stmt := topS 22
abbrev N_are_equal : List Str := ["one", "other", "pair"]
theorem sc_are_equal : FnScope N_are_equal ["one", "other"] (defScope s_are_equal) := ⟨rfl, rfl, rfl, by decide +kernel, rfl, by decide +kernel, by decide +kernel⟩
abbrev s_check_variables : Stmt := topS 23
abbrev N_check_variables : List Str := ["value"]
theorem sc_check_variables : FnScope N_check_variables ["value"] (defScope s_check_variables) := ⟨rfl, rfl, rfl, by decide +kernel, rfl, by decide +kernel, by decide +kernel⟩
abbrev s_is_deep_expression : Stmt := topS 29
abbrev N_is_deep_expression : List Str := ["value", "depth", "word", "parts", "sizes", "part"]
theorem sc_is_deep_expression : FnScope N_is_deep_expression ["value", "depth"] (defScope s_is_deep_expression) := ⟨rfl, rfl, rfl, by decide +kernel, rfl, by decide +kernel, by decide +kernel⟩
abbrev s_is_expression : Stmt := topS 30
abbrev N_is_expression : List Str := ["value"]
theorem sc_is_expression : FnScope N_is_expression ["value"] (defScope s_is_expression) := ⟨rfl, rfl, rfl, by decide +kernel, rfl, by decide +kernel, by decide +kernel⟩
abbrev s_names_within : Stmt := topS 31
abbrev N_names_within : List Str := ["expression", "word", "parts", "part"]
theorem sc_names_within : FnScope N_names_within ["expression"] (defScope s_names_within) := ⟨rfl, rfl, rfl, by decide +kernel, rfl, by decide +kernel, by decide +kernel⟩
abbrev s_unlike : Stmt := topS 32
abbrev N_unlike : List Str := ["names", "name"]
theorem sc_unlike : FnScope N_unlike ["names"] (defScope s_unlike) := ⟨rfl, rfl, rfl, by decide +kernel, rfl, by decide +kernel, by decide +kernel⟩
abbrev s_names_in : Stmt := topS 33
abbrev N_names_in : List Str := ["expression"]
theorem sc_names_in : FnScope N_names_in ["expression"] (defScope s_names_in) := ⟨rfl, rfl, rfl, by decide +kernel, rfl, by decide +kernel, by decide +kernel⟩
abbrev s_failed : Stmt := topS 34
abbrev N_failed : List Str := ["reason"]
theorem sc_failed : FnScope N_failed ["reason"] (defScope s_failed) := ⟨rfl, rfl, rfl, by decide +kernel, rfl, by decide +kernel, by decide +kernel⟩
abbrev s_numeric_result : Stmt := topS 35
abbrev N_numeric_result : List Str := ["word", "one", "other", "name"]
theorem sc_numeric_result : FnScope N_numeric_result ["word", "one", "other"] (defScope s_numeric_result) := ⟨rfl, rfl, rfl, by decide +kernel, rfl, by decide +kernel, by decide +kernel⟩
abbrev s_joined : Stmt := topS 36
abbrev N_joined : List Str := ["one", "other", "are_texts"]
theorem sc_joined : FnScope N_joined ["one", "other"] (defScope s_joined) := ⟨rfl, rfl, rfl, by decide +kernel, rfl, by decide +kernel, by decide +kernel⟩
abbrev s_item_of : Stmt := topS 37
abbrev N_item_of : List Str := ["items", "index"]
theorem sc_item_of : FnScope N_item_of ["items", "index"] (defScope s_item_of) := ⟨rfl, rfl, rfl, by decide +kernel, rfl, by decide +kernel, by decide +kernel⟩
abbrev s_combined : Stmt := topS 38
abbrev N_combined : List Str := ["word", "values", "one", "other"]
theorem sc_combined : FnScope N_combined ["word", "values"] (defScope s_combined) := ⟨rfl, rfl, rfl, by decide +kernel, rfl, by decide +kernel, by decide +kernel⟩
abbrev s_result_of : Stmt := topS 39
abbrev N_result_of : List Str := ["expression", "variables", "word", "parts", "values", "part", "result"]
theorem sc_result_of : FnScope N_result_of ["expression", "variables"] (defScope s_result_of) := ⟨rfl, rfl, rfl, by decide +kernel, rfl, by decide +kernel, by decide +kernel⟩
abbrev s_evaluate : Stmt := topS 40
abbrev N_evaluate : List Str := ["expression", "variables"]
theorem sc_evaluate : FnScope N_evaluate ["expression", "variables"] (defScope s_evaluate) := ⟨rfl, rfl, rfl, by decide +kernel, rfl, by decide +kernel, by decide +kernel⟩
abbrev s_pool : Stmt := topS 42
abbrev N_pool : List Str := ["_law_script", "_law_k", "_law_cell", "_law_great", "_law_mixed"]
theorem sc_pool : FnScope N_pool ["_law_script", "_law_k"] (defScope s_pool) := ⟨rfl, rfl, rfl, by decide +kernel, rfl, by decide +kernel, by decide +kernel⟩
abbrev s_draw : Stmt := topS 43
abbrev N_draw : List Str := ["_law_pool_here", "_law_many", "_law_found"]
theorem sc_draw : FnScope N_draw ["_law_pool_here", "_law_many"] (defScope s_draw) := ⟨rfl, rfl, rfl, by decide +kernel, rfl, by decide +kernel, by decide +kernel⟩
abbrev s_whole : Stmt := topS 44
abbrev N_whole : List Str := ["_law_thing"]
theorem sc_whole : FnScope N_whole ["_law_thing"] (defScope s_whole) := ⟨rfl, rfl, rfl, by decide +kernel, rfl, by decide +kernel, by decide +kernel⟩
abbrev s_small : Stmt := topS 45
abbrev N_small : List Str := ["_law_thing", "_law_levels", "_law_wrong", "_law_one"]
theorem sc_small : FnScope N_small ["_law_thing", "_law_levels"] (defScope s_small) := ⟨rfl, rfl, rfl, by decide +kernel, rfl, by decide +kernel, by decide +kernel⟩
abbrev s_within : Stmt := topS 46
abbrev N_within : List Str := ["_law_thing", "_law_one"]
theorem sc_within : FnScope N_within ["_law_thing"] (defScope s_within) := ⟨rfl, rfl, rfl, by decide +kernel, rfl, by decide +kernel, by decide +kernel⟩
abbrev s_pair : Stmt := topS 47
abbrev N_pair : List Str := ["_law_word", "_law_a", "_law_b"]
theorem sc_pair : FnScope N_pair ["_law_word", "_law_a", "_law_b"] (defScope s_pair) := ⟨rfl, rfl, rfl, by decide +kernel, rfl, by decide +kernel, by decide +kernel⟩
abbrev s_result : Stmt := topS 48
abbrev N_result : List Str := ["_law_term", "_law_names", "_law_word", "_law_items", "_law_part", "_law_result_here", "_law_good"]
theorem sc_result : FnScope N_result ["_law_term", "_law_names"] (defScope s_result) := ⟨rfl, rfl, rfl, by decide +kernel, rfl, by decide +kernel, by decide +kernel⟩
abbrev s_l_names_in : Stmt := topS 49
abbrev N_l_names_in : List Str := ["_law_term", "_law_part"]
theorem sc_l_names_in : FnScope N_l_names_in ["_law_term"] (defScope s_l_names_in) := ⟨rfl, rfl, rfl, by decide +kernel, rfl, by decide +kernel, by decide +kernel⟩
abbrev s_once : Stmt := topS 50
abbrev N_once : List Str := ["_law_names", "_law_name"]
theorem sc_once : FnScope N_once ["_law_names"] (defScope s_once) := ⟨rfl, rfl, rfl, by decide +kernel, rfl, by decide +kernel, by decide +kernel⟩
abbrev s_random_term : Stmt := topS 51
abbrev N_random_term : List Str := ["_law_pool_here", "_law_depth", "_law_choice", "_law_some", "_law_words", "_law_word", "_law_many", "_law_turn"]
theorem sc_random_term : FnScope N_random_term ["_law_pool_here", "_law_depth"] (defScope s_random_term) := ⟨rfl, rfl, rfl, by decide +kernel, rfl, by decide +kernel, by decide +kernel⟩
abbrev s_nested : Stmt := topS 52
abbrev N_nested : List Str := ["_law_levels", "_law_found", "_law_turn"]
theorem sc_nested : FnScope N_nested ["_law_levels"] (defScope s_nested) := ⟨rfl, rfl, rfl, by decide +kernel, rfl, by decide +kernel, by decide +kernel⟩
abbrev s_law : Stmt := topS 53
abbrev N_law : List Str := ["_law_script", "_law_deep", "_law_k", "_law_pool_here", "_law_turn", "_law_given", "_law_term"]
theorem sc_law : FnScope N_law ["_law_script"] (defScope s_law) := ⟨rfl, rfl, rfl, by decide +kernel, rfl, by decide +kernel, by decide +kernel⟩
structure Tx (K : PySem.W.Frag) (mg : Str → Option Value) where
  is_integer : FT K mg "is_integer" s_is_integer ["value"]
  is_word : FT K mg "is_word" s_is_word ["value", "signs", "least", "most"]
  is_text : FT K mg "is_text" s_is_text ["value"]
  is_within_levels : FT K mg "is_within_levels" s_is_within_levels ["value", "levels"]
  size_within : FT K mg "size_within" s_size_within ["value"]
  is_value : FT K mg "is_value" s_is_value ["value"]
  is_key : FT K mg "is_key" s_is_key ["value"]
  is_name : FT K mg "is_name" s_is_name ["value"]
  is_state : FT K mg "is_state" s_is_state ["value"]
  are_variables : FT K mg "are_variables" s_are_variables ["value"]
  are_equal : FT K mg "are_equal" s_are_equal ["one", "other"]
  check_variables : FT K mg "check_variables" s_check_variables ["value"]
  is_deep_expression : FT K mg "is_deep_expression" s_is_deep_expression ["value", "depth"]
  is_expression : FT K mg "is_expression" s_is_expression ["value"]
  names_within : FT K mg "names_within" s_names_within ["expression"]
  unlike : FT K mg "unlike" s_unlike ["names"]
  names_in : FT K mg "names_in" s_names_in ["expression"]
  failed : FT K mg "failed" s_failed ["reason"]
  numeric_result : FT K mg "numeric_result" s_numeric_result ["word", "one", "other"]
  joined : FT K mg "joined" s_joined ["one", "other"]
  item_of : FT K mg "item_of" s_item_of ["items", "index"]
  combined : FT K mg "combined" s_combined ["word", "values"]
  result_of : FT K mg "result_of" s_result_of ["expression", "variables"]
  evaluate : FT K mg "evaluate" s_evaluate ["expression", "variables"]
  pool : FT K mg "_law_pool" s_pool ["_law_script", "_law_k"]
  draw : FT K mg "_law_draw" s_draw ["_law_pool_here", "_law_many"]
  whole : FT K mg "_law_whole" s_whole ["_law_thing"]
  small : FT K mg "_law_small" s_small ["_law_thing", "_law_levels"]
  within : FT K mg "_law_within" s_within ["_law_thing"]
  pair : FT K mg "_law_pair" s_pair ["_law_word", "_law_a", "_law_b"]
  result : FT K mg "_law_result" s_result ["_law_term", "_law_names"]
  l_names_in : FT K mg "_law_names_in" s_l_names_in ["_law_term"]
  once : FT K mg "_law_once" s_once ["_law_names"]
  random_term : FT K mg "_law_random_term" s_random_term ["_law_pool_here", "_law_depth"]
  nested : FT K mg "_law_nested" s_nested ["_law_levels"]
  law : FT K mg "law" s_law ["_law_script"]
  c_MAX_TEXT : KD K mg "MAX_TEXT" k_MAX_TEXT
  c_SIGNS : KD K mg "SIGNS" k_SIGNS
  c_MAX_INTEGER : KD K mg "MAX_INTEGER" k_MAX_INTEGER
  c_MAX_ITEMS : KD K mg "MAX_ITEMS" k_MAX_ITEMS
  c_MAX_LEVELS : KD K mg "MAX_LEVELS" k_MAX_LEVELS
  c_MAX_NAME : KD K mg "MAX_NAME" k_MAX_NAME
  c_LETTERS : KD K mg "LETTERS" k_LETTERS
  c_PAIRS : KD K mg "PAIRS" k_PAIRS
  c_MAX_PARTS : KD K mg "MAX_PARTS" k_MAX_PARTS
  c_MAX_DEPTH : KD K mg "MAX_DEPTH" k_MAX_DEPTH
  m_isinstance : mg "isinstance" = none
  m_int : mg "int" = none
  m_bool : mg "bool" = none
  m_str : mg "str" = none
  m_len : mg "len" = none
  m_all : mg "all" = none
  m_tuple : mg "tuple" = none
  m_sum : mg "sum" = none
  m_dict : mg "dict" = none
  m_zip : mg "zip" = none
  m_list : mg "list" = none
  m_abs : mg "abs" = none
  m_range : mg "range" = none
  m_min : mg "min" = none
  m_max : mg "max" = none
section
variable {P : Program} {w : World} {mg : Str → Option Value} {base : Heap} {g : G}
theorem ok_is_integer (T : Tx g.K mg) : ∀ k, FnOk P w g.K mg base (L2.CX P w) k T.is_integer.f T.is_integer.fd ["value"] (spD g 1 (f_is_integer k))
  | 0 => fn_bad
  | k + 1 => by
    exact fn_ok (fb := b_is_integer k (fun _ _ => .bad)) (nn := 1) T.is_integer.fn sc_is_integer rfl rfl fun cdv A outer s H E X hX hr hx tk hp => by
      subst hX
      have hu := hr.units
      have hu2 := hr.units65
      exact (ds_one (ds_ret (de_and rfl (de_isi .int rfl rfl T.m_isinstance rfl T.m_int bt_int (de_var 0)) (pe_one (de_not rfl (de_isi .bool rfl rfl T.m_isinstance rfl T.m_bool bt_bool (de_var 0)))))))
theorem ok_is_word (T : Tx g.K mg) : ∀ k, FnOk P w g.K mg base (L2.CX P w) k T.is_word.f T.is_word.fd ["value", "signs", "least", "most"] (spD g 4 (f_is_word k))
  | 0 => fn_bad
  | k + 1 => by
    exact fn_ok (fb := b_is_word k (fun _ _ => .bad)) (nn := 5) T.is_word.fn sc_is_word rfl rfl fun cdv A outer s H E X hX hr hx tk hp => by
      subst hX
      have hu := hr.units
      have hu2 := hr.units65
      exact (ds_one (ds_ret (de_and rfl (de_isi .str rfl rfl T.m_isinstance rfl T.m_str bt_str (de_var 0)) (de_and rfl (de_chain od_le od_le (de_var 2) (de_callB (cd_len2 rfl) rfl T.m_len bt_len (da_cons (de_var 0) da_nil)) (de_var 3)) (pe_one (de_callB (cd_all rfl rfl) rfl T.m_all bt_all (da_cons (de_lcA (own := [("sign", 4)]) rfl sc_is_word.nd rfl (dA_keys rfl (de_var 0)) (blkOk_by (N := N_is_word) (sc := defScope s_is_word) (by decide +kernel)) (fun _ _ _ _ _ => (dg_name (i := 4) sc_is_word.nd rfl (by first | exact Or.inl rfl | exact Or.inr rfl) (wp_nm (by decide)))) (fun _ _ _ _ _ => dts_nil) (fun _ _ _ _ _ => (de_cmp (od_in rfl hu2) (de_var 4) (de_var 1) (by rfl)))) da_nil)))))))
theorem ok_is_text (T : Tx g.K mg) : ∀ k, FnOk P w g.K mg base (L2.CX P w) k T.is_text.f T.is_text.fd ["value"] (spD g 1 (f_is_text k))
  | 0 => fn_bad
  | k + 1 => by
    exact fn_ok (fb := b_is_text k (fun _ _ => .bad)) (nn := 1) T.is_text.fn sc_is_text rfl rfl fun cdv A outer s H E X hX hr hx tk hp => by
      subst hX
      have hu := hr.units
      have hu2 := hr.units65
      exact (ds_one (ds_ret (de_call (ok_is_word T k) hr rfl T.is_word.mgx T.is_word.fn.kp T.is_word.bn hx (da_cons (de_var 0) (da_cons (de_kd rfl rfl T.c_SIGNS) (da_cons de_int (da_cons (de_kd rfl rfl T.c_MAX_TEXT) da_nil)))))))
theorem ok_is_within_levels (T : Tx g.K mg) : ∀ k, FnOk P w g.K mg base (L2.CX P w) k T.is_within_levels.f T.is_within_levels.fd ["value", "levels"] (spD g 2 (f_is_within_levels k))
  | 0 => fn_bad
  | k + 1 => by
    have ih := ok_is_within_levels T k
    exact fn_ok (fb := b_is_within_levels k (f_is_within_levels k)) (nn := 3) T.is_within_levels.fn sc_is_within_levels rfl rfl fun cdv A outer s H E X hX hr hx tk hp => by
      subst hX
      have hu := hr.units
      have hu2 := hr.units65
      exact (ds_cons (ds_if (dt_tru rfl (de_isi .tuple rfl rfl T.m_isinstance rfl T.m_tuple bt_tuple (de_var 0)))
      (ds_cons (ds_if (PW.pt (dw_or (dt_cmp (od_eq rfl hu) (de_var 1) de_int (nomark _)) (dw_or1 (dt_cmp od_gt (de_callB (cd_len2 rfl) rfl T.m_len bt_len (da_cons (de_var 0) da_nil)) (de_kd rfl rfl T.c_MAX_ITEMS) (nomark _)))))
      (ds_one (ds_ret de_bl))
      ds_nil)
    (ds_one (ds_ret (de_callB (cd_all rfl rfl) rfl T.m_all bt_all (da_cons (de_lcA (own := [("item", 2)]) rfl sc_is_within_levels.nd rfl (dA_keys rfl (de_var 0)) (blkOk_by (N := N_is_within_levels) (sc := defScope s_is_within_levels) (by decide +kernel)) (fun _ _ _ _ _ => (dg_name (i := 2) sc_is_within_levels.nd rfl (by first | exact Or.inl rfl | exact Or.inr rfl) (wp_nm (by decide)))) (fun _ _ _ _ _ => dts_nil) (fun _ _ _ _ _ => (de_call ih hr rfl T.is_within_levels.mgx T.is_within_levels.fn.kp T.is_within_levels.bn px_no (da_cons (de_var 2) (da_cons (de_op (od_sub) (de_var 1) de_int) da_nil))))) da_nil)))))
      ds_nil)
    (ds_cons (ds_if (dt_tru rfl (de_call (ok_is_integer T k) hr rfl T.is_integer.mgx T.is_integer.fn.kp T.is_integer.bn hx (da_cons (de_var 0) da_nil)))
      (ds_one (ds_ret (de_chain od_lt od_lt (de_un ud_neg (de_kd rfl rfl T.c_MAX_INTEGER)) (de_var 0) (de_kd rfl rfl T.c_MAX_INTEGER))))
      ds_nil)
    (ds_one (ds_ret (de_call (ok_is_text T k) hr rfl T.is_text.mgx T.is_text.fn.kp T.is_text.bn hx (da_cons (de_var 0) da_nil))))))
theorem ok_size_within (T : Tx g.K mg) : ∀ k, FnOk P w g.K mg base (L2.CX P w) k T.size_within.f T.size_within.fd ["value"] (spD g 1 (f_size_within k))
  | 0 => fn_bad
  | k + 1 => by
    have ih := ok_size_within T k
    exact fn_ok (fb := b_size_within k (f_size_within k)) (nn := 2) T.size_within.fn sc_size_within rfl rfl fun cdv A outer s H E X hX hr hx tk hp => by
      subst hX
      have hu := hr.units
      have hu2 := hr.units65
      exact (ds_one (ds_ret (de_if (dt_tru rfl (de_isi .tuple rfl rfl T.m_isinstance rfl T.m_tuple bt_tuple (de_var 0))) (de_callB (cd_sum2 rfl rfl) rfl T.m_sum bt_sum (da_cons (de_lcA (own := [("item", 1)]) rfl sc_size_within.nd rfl (dA_keys rfl (de_var 0)) (blkOk_by (N := N_size_within) (sc := defScope s_size_within) (by decide +kernel)) (fun _ _ _ _ _ => (dg_name (i := 1) sc_size_within.nd rfl (by first | exact Or.inl rfl | exact Or.inr rfl) (wp_nm (by decide)))) (fun _ _ _ _ _ => dts_nil) (fun _ _ _ _ _ => (de_op (od_add rfl) de_int (de_call ih hr rfl T.size_within.mgx T.size_within.fn.kp T.size_within.bn px_no (da_cons (de_var 1) da_nil))))) da_nil)) de_int)))
theorem ok_is_value (T : Tx g.K mg) : ∀ k, FnOk P w g.K mg base (L2.CX P w) k T.is_value.f T.is_value.fd ["value"] (spD g 1 (f_is_value k))
  | 0 => fn_bad
  | k + 1 => by
    exact fn_ok (fb := b_is_value k (fun _ _ => .bad)) (nn := 1) T.is_value.fn sc_is_value rfl rfl fun cdv A outer s H E X hX hr hx tk hp => by
      subst hX
      have hu := hr.units
      have hu2 := hr.units65
      exact (ds_one (ds_ret (de_and rfl (de_call (ok_is_within_levels T k) hr rfl T.is_within_levels.mgx T.is_within_levels.fn.kp T.is_within_levels.bn hx (da_cons (de_var 0) (da_cons (de_kd rfl rfl T.c_MAX_LEVELS) da_nil))) (pe_one (de_cmp od_le (de_call (ok_size_within T k) hr rfl T.size_within.mgx T.size_within.fn.kp T.size_within.bn hx (da_cons (de_var 0) da_nil)) (de_kd rfl rfl T.c_MAX_ITEMS) (nomark _))))))
theorem ok_is_key (T : Tx g.K mg) : ∀ k, FnOk P w g.K mg base (L2.CX P w) k T.is_key.f T.is_key.fd ["value"] (spD g 1 (f_is_key k))
  | 0 => fn_bad
  | k + 1 => by
    exact fn_ok (fb := b_is_key k (fun _ _ => .bad)) (nn := 1) T.is_key.fn sc_is_key rfl rfl fun cdv A outer s H E X hX hr hx tk hp => by
      subst hX
      have hu := hr.units
      have hu2 := hr.units65
      exact (ds_one (ds_ret (de_call (ok_is_word T k) hr rfl T.is_word.mgx T.is_word.fn.kp T.is_word.bn hx (da_cons (de_var 0) (da_cons (de_kd rfl rfl T.c_SIGNS) (da_cons de_int (da_cons (de_kd rfl rfl T.c_MAX_TEXT) da_nil)))))))
theorem ok_is_name (T : Tx g.K mg) : ∀ k, FnOk P w g.K mg base (L2.CX P w) k T.is_name.f T.is_name.fd ["value"] (spD g 1 (f_is_name k))
  | 0 => fn_bad
  | k + 1 => by
    exact fn_ok (fb := b_is_name k (fun _ _ => .bad)) (nn := 1) T.is_name.fn sc_is_name rfl rfl fun cdv A outer s H E X hX hr hx tk hp => by
      subst hX
      have hu := hr.units
      have hu2 := hr.units65
      exact (ds_one (ds_ret (de_call (ok_is_word T k) hr rfl T.is_word.mgx T.is_word.fn.kp T.is_word.bn hx (da_cons (de_var 0) (da_cons (de_kd rfl rfl T.c_LETTERS) (da_cons de_int (da_cons (de_kd rfl rfl T.c_MAX_NAME) da_nil)))))))
theorem ok_is_state (T : Tx g.K mg) : ∀ k, FnOk P w g.K mg base (L2.CX P w) k T.is_state.f T.is_state.fd ["value"] (spD g 1 (f_is_state k))
  | 0 => fn_bad
  | k + 1 => by
    exact fn_ok (fb := b_is_state k (fun _ _ => .bad)) (nn := 3) T.is_state.fn sc_is_state rfl rfl fun cdv A outer s H E X hX hr hx tk hp => by
      subst hX
      have hu := hr.units
      have hu2 := hr.units65
      exact (ds_cons (ds_if (dt_not (dt_tru rfl (de_isi .dict rfl rfl T.m_isinstance rfl T.m_dict bt_dict (de_var 0))))
      (ds_one (ds_ret de_bl))
      ds_nil)
    (ds_one (ds_ret (de_callB (cd_all rfl rfl) rfl T.m_all bt_all (da_cons (de_lcA (own := [("key", 1), ("worth", 2)]) rfl sc_is_state.nd rfl (dA_items (de_var 0)) (blkOk_by (N := N_is_state) (sc := defScope s_is_state) (by decide +kernel)) (fun _ _ _ _ _ => (dg_tup (n := 2) rfl rfl (dgs_cons (fun _ _ _ p q => Eq.trans q p) (dg_name (i := 1) sc_is_state.nd rfl (by first | exact Or.inl rfl | exact Or.inr rfl) (wp_nm (by decide))) (dgs_cons (fun _ _ _ p q => Eq.trans q p) (dg_name (i := 2) sc_is_state.nd rfl (by first | exact Or.inl rfl | exact Or.inr rfl) (wp_nm (by decide))) (dgs_nil (fun _ => rfl)))))) (fun _ _ _ _ _ => dts_nil) (fun _ _ _ _ _ => (de_and rfl (de_call (ok_is_key T k) hr rfl T.is_key.mgx T.is_key.fn.kp T.is_key.bn px_no (da_cons (de_var 1) da_nil)) (pe_one (de_call (ok_is_value T k) hr rfl T.is_value.mgx T.is_value.fn.kp T.is_value.bn px_no (da_cons (de_var 2) da_nil)))))) da_nil)))))
theorem ok_are_variables (T : Tx g.K mg) : ∀ k, FnOk P w g.K mg base (L2.CX P w) k T.are_variables.f T.are_variables.fd ["value"] (spD g 1 (f_are_variables k))
  | 0 => fn_bad
  | k + 1 => by
    exact fn_ok (fb := b_are_variables k (fun _ _ => .bad)) (nn := 2) T.are_variables.fn sc_are_variables rfl rfl fun cdv A outer s H E X hX hr hx tk hp => by
      subst hX
      have hu := hr.units
      have hu2 := hr.units65
      exact (ds_one (ds_ret (de_and rfl (de_call (ok_is_state T k) hr rfl T.is_state.mgx T.is_state.fn.kp T.is_state.bn hx (da_cons (de_var 0) da_nil)) (pe_one (de_callB (cd_all rfl rfl) rfl T.m_all bt_all (da_cons (de_lcA (own := [("name", 1)]) rfl sc_are_variables.nd rfl (dA_keys rfl (de_var 0)) (blkOk_by (N := N_are_variables) (sc := defScope s_are_variables) (by decide +kernel)) (fun _ _ _ _ _ => (dg_name (i := 1) sc_are_variables.nd rfl (by first | exact Or.inl rfl | exact Or.inr rfl) (wp_nm (by decide)))) (fun _ _ _ _ _ => dts_nil) (fun _ _ _ _ _ => (de_call (ok_is_name T k) hr rfl T.is_name.mgx T.is_name.fn.kp T.is_name.bn px_no (da_cons (de_var 1) da_nil)))) da_nil))))))
theorem ok_are_equal (T : Tx g.K mg) : ∀ k, FnOk P w g.K mg base (L2.CX P w) k T.are_equal.f T.are_equal.fd ["one", "other"] (spD g 2 (f_are_equal k))
  | 0 => fn_bad
  | k + 1 => by
    have ih := ok_are_equal T k
    exact fn_ok (fb := b_are_equal k (f_are_equal k)) (nn := 3) T.are_equal.fn sc_are_equal rfl rfl fun cdv A outer s H E X hX hr hx tk hp => by
      subst hX
      have hu := hr.units
      have hu2 := hr.units65
      exact (ds_cons (ds_if (PW.pt (dw_and (dt_tru rfl (de_isi .tuple rfl rfl T.m_isinstance rfl T.m_tuple bt_tuple (de_var 0))) (dw_and1 (dt_tru rfl (de_isi .tuple rfl rfl T.m_isinstance rfl T.m_tuple bt_tuple (de_var 1))))))
      (ds_one (ds_ret (de_and rfl (de_cmp (od_eq rfl hu) (de_callB (cd_len2 rfl) rfl T.m_len bt_len (da_cons (de_var 0) da_nil)) (de_callB (cd_len2 rfl) rfl T.m_len bt_len (da_cons (de_var 1) da_nil)) (nomark _)) (pe_one (de_callB (cd_all rfl rfl) rfl T.m_all bt_all (da_cons (de_lc (own := [("pair", 2)]) rfl sc_are_equal.nd rfl (di_zipN rfl rfl T.m_zip (da_cons (de_var 0) (da_cons (de_var 1) da_nil))) (blkOk_by (N := N_are_equal) (sc := defScope s_are_equal) (by decide +kernel)) (fun _ _ _ _ _ => (dg_name (i := 2) sc_are_equal.nd rfl (by first | exact Or.inl rfl | exact Or.inr rfl) (wp_nm (by decide)))) (fun _ _ _ _ _ => dts_nil) (fun _ _ _ _ _ => (de_callS1 rfl ih hr rfl T.are_equal.mgx T.are_equal.fn.kp T.are_equal.bn px_no (de_var 2)))) da_nil))))))
      ds_nil)
    (ds_cons (ds_if (PW.pt (dw_or (dt_tru rfl (de_isi .bool rfl rfl T.m_isinstance rfl T.m_bool bt_bool (de_var 0))) (dw_or1 (dt_tru rfl (de_isi .bool rfl rfl T.m_isinstance rfl T.m_bool bt_bool (de_var 1))))))
      (ds_one (ds_ret (de_and rfl (de_isi .bool rfl rfl T.m_isinstance rfl T.m_bool bt_bool (de_var 0)) (de_and rfl (de_isi .bool rfl rfl T.m_isinstance rfl T.m_bool bt_bool (de_var 1)) (pe_one (de_cmp (od_eq rfl hu) (de_var 0) (de_var 1) (nomark _)))))))
      ds_nil)
    (ds_cons (ds_if (PW.pt (dw_or (PW.pt (dw_and (dt_tru rfl (de_isi .int rfl rfl T.m_isinstance rfl T.m_int bt_int (de_var 0))) (dw_and1 (dt_tru rfl (de_isi .int rfl rfl T.m_isinstance rfl T.m_int bt_int (de_var 1)))))) (dw_or1 (PW.pt (dw_and (dt_tru rfl (de_isi .str rfl rfl T.m_isinstance rfl T.m_str bt_str (de_var 0))) (dw_and1 (dt_tru rfl (de_isi .str rfl rfl T.m_isinstance rfl T.m_str bt_str (de_var 1)))))))))
      (ds_one (ds_ret (de_cmp (od_eq rfl hu) (de_var 0) (de_var 1) (nomark _))))
      ds_nil)
    (ds_one (ds_ret (de_and rfl (de_cmp od_is (de_var 0) de_non (nomark _)) (pe_one (de_cmp od_is (de_var 1) de_non (nomark _)))))))))
theorem ok_check_variables (T : Tx g.K mg) : ∀ k, FnOk P w g.K mg base (L2.CX P w) k T.check_variables.f T.check_variables.fd ["value"] (spD g 1 (f_check_variables k))
  | 0 => fn_bad
  | k + 1 => by
    exact fn_ok (fb := b_check_variables k (fun _ _ => .bad)) (nn := 1) T.check_variables.fn sc_check_variables rfl rfl fun cdv A outer s H E X hX hr hx tk hp => by
      subst hX
      have hu := hr.units
      have hu2 := hr.units65
      exact (ds_one (ds_if (dt_not (dt_tru rfl (de_call (ok_are_variables T k) hr rfl T.are_variables.mgx T.are_variables.fn.kp T.are_variables.bn hx (da_cons (de_var 0) da_nil))))
      (ds_one ds_bad)
      ds_nil))
theorem ok_is_deep_expression (T : Tx g.K mg) : ∀ k, FnOk P w g.K mg base (L2.CX P w) k T.is_deep_expression.f T.is_deep_expression.fd ["value", "depth"] (spD g 2 (f_is_deep_expression k))
  | 0 => fn_bad
  | k + 1 => by
    have ih := ok_is_deep_expression T k
    exact fn_ok (fb := b_is_deep_expression k (f_is_deep_expression k)) (nn := 6) T.is_deep_expression.fn sc_is_deep_expression rfl rfl fun cdv A outer s H E X hX hr hx tk hp => by
      subst hX
      have hu := hr.units
      have hu2 := hr.units65
      exact (ds_cons (ds_if (PW.pt (dw_or (dt_not (dt_tru rfl (de_isi .tuple rfl rfl T.m_isinstance rfl T.m_tuple bt_tuple (de_var 0)))) (dw_or (dt_cmp (od_eq rfl hu) (de_var 0) (de_tup da_nil) (nomark _)) (dw_or (dt_not (dt_tru rfl (de_isi .str rfl rfl T.m_isinstance rfl T.m_str bt_str (de_ix (xd_ix2 rfl hu) (de_var 0) de_int)))) (dw_or1 (dt_cmp (od_eq rfl hu) (de_var 1) de_int (nomark _)))))))
      (ds_one (ds_ret de_bl))
      ds_nil)
    (ds_cons (ds_asg (de_var 0) (dg_star (es' := [_, _]) rfl rfl (dgs_cons (fun _ _ _ _ _ => trivial) (dg_name (i := 2) sc_is_deep_expression.nd rfl (by first | exact Or.inl rfl | exact Or.inr rfl) (fun _ _ => trivial)) (dgs_cons (fun _ _ _ _ _ => trivial) (dg_name (i := 3) sc_is_deep_expression.nd rfl (by first | exact Or.inl rfl | exact Or.inr rfl) (fun _ _ => trivial)) (dgs_nil (fun _ => trivial))))))
    (ds_cons (ds_if (dt_cmp (od_eq rfl hu) (de_var 2) de_str (nomark _))
      (ds_one (ds_ret (de_and rfl (de_cmp (od_eq rfl hu) (de_callB (cd_len2 rfl) rfl T.m_len bt_len (da_cons (de_var 3) da_nil)) de_int (nomark _)) (pe_one (de_call (ok_is_value T k) hr rfl T.is_value.mgx T.is_value.fn.kp T.is_value.bn hx (da_cons (de_ix (xd_ix2 rfl hu) (de_var 3) de_int) da_nil))))))
      ds_nil)
    (ds_cons (ds_if (dt_cmp (od_eq rfl hu) (de_var 2) de_str (nomark _))
      (ds_one (ds_ret (de_and rfl (de_cmp (od_eq rfl hu) (de_callB (cd_len2 rfl) rfl T.m_len bt_len (da_cons (de_var 3) da_nil)) de_int (nomark _)) (pe_one (de_call (ok_is_name T k) hr rfl T.is_name.mgx T.is_name.fn.kp T.is_name.bn hx (da_cons (de_ix (xd_ix2 rfl hu) (de_var 3) de_int) da_nil))))))
      ds_nil)
    (ds_cons (ds_set (i := 4) sc_is_deep_expression.nd rfl (by first | exact Or.inl rfl | exact Or.inr rfl) (de_disp (mu := false) (pps_cons de_str (de_cmp od_le (de_callB (cd_len2 rfl) rfl T.m_len bt_len (da_cons (de_var 3) da_nil)) (de_kd rfl rfl T.c_MAX_PARTS) (nomark _)) (pps_cons de_str (de_cmp (od_eq rfl hu) (de_callB (cd_len2 rfl) rfl T.m_len bt_len (da_cons (de_var 3) da_nil)) de_int (nomark _)) pps_nil)) rfl rfl (by simp) (by decide)))
    (ds_cons (ds_if (dt_not (PW.pt (dw_or (PW.pt (dw_and (dt_cmp (od_in rfl hu2) (de_var 2) (de_kd rfl rfl T.c_PAIRS) (by rfl)) (dw_and1 (dt_cmp (od_eq rfl hu) (de_callB (cd_len2 rfl) rfl T.m_len bt_len (da_cons (de_var 3) da_nil)) de_int (nomark _))))) (dw_or1 (dt_tru rfl (de_get2 hu (de_var 4) (de_var 2) de_bl ⟨rfl, rfl, rfl, rfl⟩))))))
      (ds_one (ds_ret de_bl))
      ds_nil)
    (ds_one (ds_ret (de_callB (cd_all rfl rfl) rfl T.m_all bt_all (da_cons (de_lcA (own := [("part", 5)]) rfl sc_is_deep_expression.nd rfl (dA_keys rfl (de_var 3)) (blkOk_by (N := N_is_deep_expression) (sc := defScope s_is_deep_expression) (by decide +kernel)) (fun _ _ _ _ _ => (dg_name (i := 5) sc_is_deep_expression.nd rfl (by first | exact Or.inl rfl | exact Or.inr rfl) (wp_nm (by decide)))) (fun _ _ _ _ _ => dts_nil) (fun _ _ _ _ _ => (de_call ih hr rfl T.is_deep_expression.mgx T.is_deep_expression.fn.kp T.is_deep_expression.bn px_no (da_cons (de_var 5) (da_cons (de_op (od_sub) (de_var 1) de_int) da_nil))))) da_nil))))))))))
theorem ok_is_expression (T : Tx g.K mg) : ∀ k, FnOk P w g.K mg base (L2.CX P w) k T.is_expression.f T.is_expression.fd ["value"] (spD g 1 (f_is_expression k))
  | 0 => fn_bad
  | k + 1 => by
    exact fn_ok (fb := b_is_expression k (fun _ _ => .bad)) (nn := 1) T.is_expression.fn sc_is_expression rfl rfl fun cdv A outer s H E X hX hr hx tk hp => by
      subst hX
      have hu := hr.units
      have hu2 := hr.units65
      exact (ds_one (ds_ret (de_call (ok_is_deep_expression T k) hr rfl T.is_deep_expression.mgx T.is_deep_expression.fn.kp T.is_deep_expression.bn hx (da_cons (de_var 0) (da_cons (de_kd rfl rfl T.c_MAX_DEPTH) da_nil)))))
theorem ok_names_within (T : Tx g.K mg) : ∀ k, FnOk P w g.K mg base (L2.CX P w) k T.names_within.f T.names_within.fd ["expression"] (spD g 1 (f_names_within k))
  | 0 => fn_bad
  | k + 1 => by
    have ih := ok_names_within T k
    exact fn_ok (fb := b_names_within k (f_names_within k)) (nn := 4) T.names_within.fn sc_names_within rfl rfl fun cdv A outer s H E X hX hr hx tk hp => by
      subst hX
      have hu := hr.units
      have hu2 := hr.units65
      exact (ds_cons (ds_asg (de_var 0) (dg_star (es' := [_, _]) rfl rfl (dgs_cons (fun _ _ _ _ _ => trivial) (dg_name (i := 1) sc_names_within.nd rfl (by first | exact Or.inl rfl | exact Or.inr rfl) (fun _ _ => trivial)) (dgs_cons (fun _ _ _ _ _ => trivial) (dg_name (i := 2) sc_names_within.nd rfl (by first | exact Or.inl rfl | exact Or.inr rfl) (fun _ _ => trivial)) (dgs_nil (fun _ => trivial))))))
    (ds_cons (ds_if (dt_cmp (od_eq rfl hu) (de_var 1) de_str (nomark _))
      (ds_one (ds_ret (de_lst da_nil)))
      ds_nil)
    (ds_cons (ds_if (dt_cmp (od_eq rfl hu) (de_var 1) de_str (nomark _))
      (ds_one (ds_ret (de_var 2)))
      ds_nil)
    (ds_one (ds_ret (de_callB (cd_sum2 rfl rfl) rfl T.m_sum bt_sum (da_cons (de_lcA (own := [("part", 3)]) rfl sc_names_within.nd rfl (dA_keys rfl (de_var 2)) (blkOk_by (N := N_names_within) (sc := defScope s_names_within) (by decide +kernel)) (fun _ _ _ _ _ => (dg_name (i := 3) sc_names_within.nd rfl (by first | exact Or.inl rfl | exact Or.inr rfl) (wp_nm (by decide)))) (fun _ _ _ _ _ => dts_nil) (fun _ _ _ _ _ => (de_call ih hr rfl T.names_within.mgx T.names_within.fn.kp T.names_within.bn px_no (da_cons (de_var 3) da_nil)))) (da_cons (de_lst da_nil) da_nil))))))))
theorem ok_unlike (T : Tx g.K mg) : ∀ k, FnOk P w g.K mg base (L2.CX P w) k T.unlike.f T.unlike.fd ["names"] (spD g 1 (f_unlike k))
  | 0 => fn_bad
  | k + 1 => by
    exact fn_ok (fb := b_unlike k (fun _ _ => .bad)) (nn := 2) T.unlike.fn sc_unlike rfl rfl fun cdv A outer s H E X hX hr hx tk hp => by
      subst hX
      have hu := hr.units
      have hu2 := hr.units65
      exact (ds_one (ds_ret (de_callTy (cd_list (mu := false) rfl rfl) rfl T.m_list bt_list (da_cons (de_dcA (own := [("name", 1)]) (mu := false) rfl sc_unlike.nd rfl (dA_keys rfl (de_var 0)) (blkOk_by (N := N_unlike) (sc := defScope s_unlike) (by decide +kernel)) (fun _ _ _ _ _ => (dg_name (i := 1) sc_unlike.nd rfl (by first | exact Or.inl rfl | exact Or.inr rfl) (wp_nm (by decide)))) (fun _ _ _ _ _ => dts_nil) (fun _ _ _ _ _ => (de_var 1)) (fun _ _ _ _ _ => de_bl)) da_nil))))
theorem ok_names_in (T : Tx g.K mg) : ∀ k, FnOk P w g.K mg base (L2.CX P w) k T.names_in.f T.names_in.fd ["expression"] (spD g 1 (f_names_in k))
  | 0 => fn_bad
  | k + 1 => by
    exact fn_ok (fb := b_names_in k (fun _ _ => .bad)) (nn := 1) T.names_in.fn sc_names_in rfl rfl fun cdv A outer s H E X hX hr hx tk hp => by
      subst hX
      have hu := hr.units
      have hu2 := hr.units65
      exact (ds_cons (ds_if (dt_not (dt_tru rfl (de_call (ok_is_expression T k) hr rfl T.is_expression.mgx T.is_expression.fn.kp T.is_expression.bn hx (da_cons (de_var 0) da_nil))))
      (ds_one ds_bad)
      ds_nil)
    (ds_one (ds_ret (de_call (ok_unlike T k) hr rfl T.unlike.mgx T.unlike.fn.kp T.unlike.bn hx (da_cons (de_call (ok_names_within T k) hr rfl T.names_within.mgx T.names_within.fn.kp T.names_within.bn hx (da_cons (de_var 0) da_nil)) da_nil)))))
theorem ok_failed (T : Tx g.K mg) : ∀ k, FnOk P w g.K mg base (L2.CX P w) k T.failed.f T.failed.fd ["reason"] (spD g 1 (f_failed k))
  | 0 => fn_bad
  | k + 1 => by
    exact fn_ok (fb := b_failed k (fun _ _ => .bad)) (nn := 1) T.failed.fn sc_failed rfl rfl fun cdv A outer s H E X hX hr hx tk hp => by
      subst hX
      have hu := hr.units
      have hu2 := hr.units65
      exact (ds_one (ds_ret (de_tup (da_cons de_str (da_cons (de_var 0) da_nil)))))
theorem ok_numeric_result (T : Tx g.K mg) : ∀ k, FnOk P w g.K mg base (L2.CX P w) k T.numeric_result.f T.numeric_result.fd ["word", "one", "other"] (spD g 3 (f_numeric_result k))
  | 0 => fn_bad
  | k + 1 => by
    exact fn_ok (fb := b_numeric_result k (fun _ _ => .bad)) (nn := 4) T.numeric_result.fn sc_numeric_result rfl rfl fun cdv A outer s H E X hX hr hx tk hp => by
      subst hX
      have hu := hr.units
      have hu2 := hr.units65
      exact (ds_cons (ds_if (PW.pt (dw_or (dt_not (dt_tru rfl (de_call (ok_is_integer T k) hr rfl T.is_integer.mgx T.is_integer.fn.kp T.is_integer.bn hx (da_cons (de_var 1) da_nil)))) (dw_or1 (dt_not (dt_tru rfl (de_call (ok_is_integer T k) hr rfl T.is_integer.mgx T.is_integer.fn.kp T.is_integer.bn hx (da_cons (de_var 2) da_nil)))))))
      (ds_one (ds_ret (de_call (ok_failed T k) hr rfl T.failed.mgx T.failed.fn.kp T.failed.bn hx (da_cons de_str da_nil))))
      ds_nil)
    (ds_cons (ds_if (PW.pt (dw_and (dt_cmp (od_eq rfl hu) (de_var 0) de_str (nomark _)) (dw_and1 (dt_cmp (od_eq rfl hu) (de_var 2) de_int (nomark _)))))
      (ds_one (ds_ret (de_call (ok_failed T k) hr rfl T.failed.mgx T.failed.fn.kp T.failed.bn hx (da_cons de_str da_nil))))
      ds_nil)
    (ds_one (ds_match (de_var 0)
      (dm_case (i := 3) sc_numeric_result.nd rfl (by first | exact Or.inl rfl | exact Or.inr rfl) (dt_cmp (od_eq rfl hu) (de_var 3) de_str (nomark _))
      (ds_one (ds_ret (de_tup (da_cons de_str (da_cons (de_op (od_add rfl) (de_var 1) (de_var 2)) da_nil)))))
      (dm_case (i := 3) sc_numeric_result.nd rfl (by first | exact Or.inl rfl | exact Or.inr rfl) (dt_cmp (od_eq rfl hu) (de_var 3) de_str (nomark _))
      (ds_one (ds_ret (de_tup (da_cons de_str (da_cons (de_op (od_sub) (de_var 1) (de_var 2)) da_nil)))))
      (dm_case (i := 3) sc_numeric_result.nd rfl (by first | exact Or.inl rfl | exact Or.inr rfl) (dt_cmp (od_eq rfl hu) (de_var 3) de_str (nomark _))
      (ds_one (ds_ret (de_tup (da_cons de_str (da_cons (de_op (od_mul2 rfl) (de_var 1) (de_var 2)) da_nil)))))
      (dm_case (i := 3) sc_numeric_result.nd rfl (by first | exact Or.inl rfl | exact Or.inr rfl) (dt_cmp (od_eq rfl hu) (de_var 3) de_str (nomark _))
      (ds_one (ds_ret (de_tup (da_cons de_str (da_cons (de_op (od_fdiv2) (de_var 1) (de_var 2)) da_nil)))))
      (dm_else (ds_one (ds_ret (de_tup (da_cons de_str (da_cons (de_callTy (cd_int) rfl T.m_int bt_int (da_cons (de_cmp od_lt (de_var 1) (de_var 2) (nomark _)) da_nil)) da_nil))))))))))))))
theorem ok_joined (T : Tx g.K mg) : ∀ k, FnOk P w g.K mg base (L2.CX P w) k T.joined.f T.joined.fd ["one", "other"] (spD g 2 (f_joined k))
  | 0 => fn_bad
  | k + 1 => by
    exact fn_ok (fb := b_joined k (fun _ _ => .bad)) (nn := 3) T.joined.fn sc_joined rfl rfl fun cdv A outer s H E X hX hr hx tk hp => by
      subst hX
      have hu := hr.units
      have hu2 := hr.units65
      exact (ds_cons (ds_set (i := 2) sc_joined.nd rfl (by first | exact Or.inl rfl | exact Or.inr rfl) (de_and rfl (de_call (ok_is_text T k) hr rfl T.is_text.mgx T.is_text.fn.kp T.is_text.bn hx (da_cons (de_var 0) da_nil)) (pe_one (de_call (ok_is_text T k) hr rfl T.is_text.mgx T.is_text.fn.kp T.is_text.bn hx (da_cons (de_var 1) da_nil)))))
    (ds_cons (ds_if (PW.pt (dw_and (dt_not (dt_tru rfl (de_var 2))) (dw_and1 (dt_not (PW.pt (dw_and (dt_tru rfl (de_isi .tuple rfl rfl T.m_isinstance rfl T.m_tuple bt_tuple (de_var 0))) (dw_and1 (dt_tru rfl (de_isi .tuple rfl rfl T.m_isinstance rfl T.m_tuple bt_tuple (de_var 1))))))))))
      (ds_one (ds_ret (de_call (ok_failed T k) hr rfl T.failed.mgx T.failed.fn.kp T.failed.bn hx (da_cons de_str da_nil))))
      ds_nil)
    (ds_one (ds_ret (de_tup (da_cons de_str (da_cons (de_op (od_add rfl) (de_var 0) (de_var 1)) da_nil)))))))
theorem ok_item_of (T : Tx g.K mg) : ∀ k, FnOk P w g.K mg base (L2.CX P w) k T.item_of.f T.item_of.fd ["items", "index"] (spD g 2 (f_item_of k))
  | 0 => fn_bad
  | k + 1 => by
    exact fn_ok (fb := b_item_of k (fun _ _ => .bad)) (nn := 2) T.item_of.fn sc_item_of rfl rfl fun cdv A outer s H E X hX hr hx tk hp => by
      subst hX
      have hu := hr.units
      have hu2 := hr.units65
      exact (ds_cons (ds_if (PW.pt (dw_or (dt_not (dt_tru rfl (de_isi .tuple rfl rfl T.m_isinstance rfl T.m_tuple bt_tuple (de_var 0)))) (dw_or1 (dt_not (dt_tru rfl (de_call (ok_is_integer T k) hr rfl T.is_integer.mgx T.is_integer.fn.kp T.is_integer.bn hx (da_cons (de_var 1) da_nil)))))))
      (ds_one (ds_ret (de_call (ok_failed T k) hr rfl T.failed.mgx T.failed.fn.kp T.failed.bn hx (da_cons de_str da_nil))))
      ds_nil)
    (ds_cons (ds_if (dt_not (dt_chain od_le od_lt de_int (de_var 1) (de_callB (cd_len2 rfl) rfl T.m_len bt_len (da_cons (de_var 0) da_nil))))
      (ds_one (ds_ret (de_call (ok_failed T k) hr rfl T.failed.mgx T.failed.fn.kp T.failed.bn hx (da_cons de_str da_nil))))
      ds_nil)
    (ds_one (ds_ret (de_tup (da_cons de_str (da_cons (de_ix (xd_ix2 rfl hu) (de_var 0) (de_var 1)) da_nil)))))))
theorem ok_combined (T : Tx g.K mg) : ∀ k, FnOk P w g.K mg base (L2.CX P w) k T.combined.f T.combined.fd ["word", "values"] (spD g 2 (f_combined k))
  | 0 => fn_bad
  | k + 1 => by
    exact fn_ok (fb := b_combined k (fun _ _ => .bad)) (nn := 4) T.combined.fn sc_combined rfl rfl fun cdv A outer s H E X hX hr hx tk hp => by
      subst hX
      have hu := hr.units
      have hu2 := hr.units65
      exact (ds_cons (ds_if (dt_cmp (od_eq rfl hu) (de_var 0) de_str (nomark _))
      (ds_one (ds_ret (de_tup (da_cons de_str (da_cons (de_callTy (cd_tuple rfl) rfl T.m_tuple bt_tuple (da_cons (de_var 1) da_nil)) da_nil)))))
      ds_nil)
    (ds_cons (ds_if (dt_cmp (od_eq rfl hu) (de_var 0) de_str (nomark _))
      (ds_one (ds_ret (de_if (dt_tru rfl (de_call (ok_is_integer T k) hr rfl T.is_integer.mgx T.is_integer.fn.kp T.is_integer.bn hx (da_cons (de_ix (xd_ix2 rfl hu) (de_var 1) de_int) da_nil))) (de_call (ok_failed T k) hr rfl T.failed.mgx T.failed.fn.kp T.failed.bn hx (da_cons de_str da_nil)) (de_tup (da_cons de_str (da_cons (de_callB (cd_len2 rfl) rfl T.m_len bt_len (da_cons (de_ix (xd_ix2 rfl hu) (de_var 1) de_int) da_nil)) da_nil))))))
      ds_nil)
    (ds_cons (ds_asg (de_var 1) (dg_tup2 (n := 2) rfl rfl (dgs_cons (fun _ _ _ _ _ => trivial) (dg_name (i := 2) sc_combined.nd rfl (by first | exact Or.inl rfl | exact Or.inr rfl) (fun _ _ => trivial)) (dgs_cons (fun _ _ _ _ _ => trivial) (dg_name (i := 3) sc_combined.nd rfl (by first | exact Or.inl rfl | exact Or.inr rfl) (fun _ _ => trivial)) (dgs_nil (fun _ => trivial))))))
    (ds_cons (ds_if (dt_cmp (od_eq rfl hu) (de_var 0) de_str (nomark _))
      (ds_one (ds_ret (de_tup (da_cons de_str (da_cons (de_callTy (cd_int) rfl T.m_int bt_int (da_cons (de_call (ok_are_equal T k) hr rfl T.are_equal.mgx T.are_equal.fn.kp T.are_equal.bn hx (da_cons (de_var 2) (da_cons (de_var 3) da_nil))) da_nil)) da_nil)))))
      ds_nil)
    (ds_cons (ds_if (dt_cmp (od_eq rfl hu) (de_var 0) de_str (nomark _))
      (ds_one (ds_ret (de_call (ok_joined T k) hr rfl T.joined.mgx T.joined.fn.kp T.joined.bn hx (da_cons (de_var 2) (da_cons (de_var 3) da_nil)))))
      ds_nil)
    (ds_cons (ds_if (dt_cmp (od_eq rfl hu) (de_var 0) de_str (nomark _))
      (ds_one (ds_ret (de_call (ok_item_of T k) hr rfl T.item_of.mgx T.item_of.fn.kp T.item_of.bn hx (da_cons (de_var 2) (da_cons (de_var 3) da_nil)))))
      ds_nil)
    (ds_one (ds_ret (de_call (ok_numeric_result T k) hr rfl T.numeric_result.mgx T.numeric_result.fn.kp T.numeric_result.bn hx (da_cons (de_var 0) (da_cons (de_var 2) (da_cons (de_var 3) da_nil))))))))))))
theorem ok_result_of (T : Tx g.K mg) : ∀ k, FnOk P w g.K mg base (L2.CX P w) k T.result_of.f T.result_of.fd ["expression", "variables"] (spD g 2 (f_result_of k))
  | 0 => fn_bad
  | k + 1 => by
    have ih := ok_result_of T k
    exact fn_ok (fb := b_result_of k (f_result_of k)) (nn := 7) T.result_of.fn sc_result_of rfl rfl fun cdv A outer s H E X hX hr hx tk hp => by
      subst hX
      have hu := hr.units
      have hu2 := hr.units65
      exact (ds_cons (ds_asg (de_var 0) (dg_star (es' := [_, _]) rfl rfl (dgs_cons (fun _ _ _ _ _ => trivial) (dg_name (i := 2) sc_result_of.nd rfl (by first | exact Or.inl rfl | exact Or.inr rfl) (fun _ _ => trivial)) (dgs_cons (fun _ _ _ _ _ => trivial) (dg_name (i := 3) sc_result_of.nd rfl (by first | exact Or.inl rfl | exact Or.inr rfl) (fun _ _ => trivial)) (dgs_nil (fun _ => trivial))))))
    (ds_cons (ds_if (dt_cmp (od_eq rfl hu) (de_var 2) de_str (nomark _))
      (ds_one (ds_ret (de_tup (da_cons de_str (da_cons (de_ix (xd_ix2 rfl hu) (de_var 3) de_int) da_nil)))))
      ds_nil)
    (ds_cons (ds_if (dt_cmp (od_eq rfl hu) (de_var 2) de_str (nomark _))
      (ds_one (ds_ret (de_if (dt_cmp (od_in rfl hu2) (de_ix (xd_ix2 rfl hu) (de_var 3) de_int) (de_var 1) (by rfl)) (de_tup (da_cons de_str (da_cons (de_ix (xd_ix2 rfl hu) (de_var 1) (de_ix (xd_ix2 rfl hu) (de_var 3) de_int)) da_nil))) (de_call (ok_failed T k) hr rfl T.failed.mgx T.failed.fn.kp T.failed.bn hx (da_cons de_str da_nil)))))
      ds_nil)
    (ds_cons (ds_set (i := 4) sc_result_of.nd rfl (by first | exact Or.inl rfl | exact Or.inr rfl) (de_lstM da_nil))
    (ds_cons (ds_for hp rfl (dA_keys rfl (de_var 3)).v (dg_name (i := 5) sc_result_of.nd rfl (by first | exact Or.inl rfl | exact Or.inr rfl) (fun _ _ => trivial))
      (ds_cons (ds_set (i := 6) sc_result_of.nd rfl (by first | exact Or.inl rfl | exact Or.inr rfl) (de_call ih hr rfl T.result_of.mgx T.result_of.fn.kp T.result_of.bn hx (da_cons (de_var 5) (da_cons (de_var 1) da_nil))))
    (ds_cons (ds_if (dt_cmp (od_eq rfl hu) (de_ix (xd_ix2 rfl hu) (de_var 6) de_int) de_str (nomark _))
      (ds_one (ds_ret (de_var 6)))
      ds_nil)
    (ds_one (ds_expr (de_m ty_lst F.plainAttrs_list F.slot_list_append F.type_list_append md_append (de_var 4) (da_cons (de_ix (xd_ix2 rfl hu) (de_var 6) de_int) da_nil)))))))
    (ds_cons (ds_set (i := 6) sc_result_of.nd rfl (by first | exact Or.inl rfl | exact Or.inr rfl) (de_call (ok_combined T k) hr rfl T.combined.mgx T.combined.fn.kp T.combined.bn hx (da_cons (de_var 2) (da_cons (de_var 4) da_nil))))
    (ds_one (ds_ret (de_if (PW.pt (dw_or (dt_cmp (od_eq rfl hu) (de_ix (xd_ix2 rfl hu) (de_var 6) de_int) de_str (nomark _)) (dw_or1 (dt_tru rfl (de_call (ok_is_value T k) hr rfl T.is_value.mgx T.is_value.fn.kp T.is_value.bn hx (da_cons (de_ix (xd_ix2 rfl hu) (de_var 6) de_int) da_nil)))))) (de_var 6) (de_call (ok_failed T k) hr rfl T.failed.mgx T.failed.fn.kp T.failed.bn hx (da_cons de_str da_nil)))))))))))
theorem ok_evaluate (T : Tx g.K mg) : ∀ k, FnOk P w g.K mg base (L2.CX P w) k T.evaluate.f T.evaluate.fd ["expression", "variables"] (spD g 2 (f_evaluate k))
  | 0 => fn_bad
  | k + 1 => by
    exact fn_ok (fb := b_evaluate k (fun _ _ => .bad)) (nn := 2) T.evaluate.fn sc_evaluate rfl rfl fun cdv A outer s H E X hX hr hx tk hp => by
      subst hX
      have hu := hr.units
      have hu2 := hr.units65
      exact (ds_cons (ds_if (dt_not (dt_tru rfl (de_call (ok_is_expression T k) hr rfl T.is_expression.mgx T.is_expression.fn.kp T.is_expression.bn hx (da_cons (de_var 0) da_nil))))
      (ds_one ds_bad)
      ds_nil)
    (ds_cons (ds_expr (de_call (ok_check_variables T k) hr rfl T.check_variables.mgx T.check_variables.fn.kp T.check_variables.bn hx (da_cons (de_var 1) da_nil)))
    (ds_one (ds_ret (de_call (ok_result_of T k) hr rfl T.result_of.mgx T.result_of.fn.kp T.result_of.bn hx (da_cons (de_var 0) (da_cons (de_var 1) da_nil)))))))
theorem ok_pool (T : Tx g.K mg) : ∀ k, FnOk P w g.K mg base (L2.CX P w) k T.pool.f T.pool.fd ["_law_script", "_law_k"] (spD g 2 (f_pool k))
  | 0 => fn_bad
  | k + 1 => by
    exact fn_ok (fb := b_pool k (fun _ _ => .bad)) (nn := 5) T.pool.fn sc_pool rfl rfl fun cdv A outer s H E X hX hr hx tk hp => by
      subst hX
      have hu := hr.units
      have hu2 := hr.units65
      exact (ds_cons (ds_set (i := 2) sc_pool.nd rfl (by first | exact Or.inl rfl | exact Or.inr rfl) (de_op (od_add rfl) (de_op (od_mul2 rfl) de_int (de_callB (cd_sum2 rfl rfl) rfl T.m_sum bt_sum (da_cons (de_sl rfl (de_var 0) dp_none (dp_some de_int)) da_nil))) (de_var 1)))
    (ds_cons (ds_if (dt_cmp od_lt (de_var 1) (de_callB (cd_len2 rfl) rfl T.m_len bt_len (da_cons (de_var 0) da_nil)) (nomark _))
      (ds_one (ds_set (i := 2) sc_pool.nd rfl (by first | exact Or.inl rfl | exact Or.inr rfl) (de_ix (xd_ix2 rfl hu) (de_var 0) (de_var 1))))
      ds_nil)
    (ds_cons (ds_set (i := 3) sc_pool.nd rfl (by first | exact Or.inl rfl | exact Or.inr rfl) (de_callB (cd_abs) rfl T.m_abs bt_abs (da_cons (de_var 2) da_nil)))
    (ds_cons (ds_set (i := 4) sc_pool.nd rfl (by first | exact Or.inl rfl | exact Or.inr rfl) (de_op (od_mod) (de_op (od_mul2 rfl) (de_op (od_add rfl) (de_op (od_add rfl) (de_op (od_add rfl) (de_op (od_mod) (de_var 3) de_int) (de_op (od_mul2 rfl) (de_op (od_mul2 rfl) de_int (de_var 1)) (de_var 1))) (de_op (od_mul2 rfl) de_int (de_var 1))) de_int) de_int) de_int))
    (ds_one (ds_ret (de_lstM (da_cons (de_op (od_mul2 rfl) (de_var 3) (de_callTy (cd_int) rfl T.m_int bt_int (da_cons (de_cmp od_ge (de_var 3) (de_op (od_pow) de_int de_int) (nomark _)) da_nil))) (da_cons (de_op (od_mod) (de_op (od_mul2 rfl) (de_var 4) (de_var 4)) de_int) da_nil)))))))))
theorem ok_draw (T : Tx g.K mg) : ∀ k, FnOk P w g.K mg base (L2.CX P w) k T.draw.f T.draw.fd ["_law_pool_here", "_law_many"] (spD g 2 (f_draw k))
  | 0 => fn_bad
  | k + 1 => by
    exact fn_ok (fb := b_draw k (fun _ _ => .bad)) (nn := 3) T.draw.fn sc_draw rfl rfl fun cdv A outer s H E X hX hr hx tk hp => by
      subst hX
      have hu := hr.units
      have hu2 := hr.units65
      exact (ds_cons (ds_if (dt_cmp od_gt (de_ix (xd_ix2 rfl hu) (de_var 0) de_int) de_int (nomark _))
      (ds_cons (ds_set (i := 2) sc_draw.nd rfl (by first | exact Or.inl rfl | exact Or.inr rfl) (de_op (od_mod) (de_ix (xd_ix2 rfl hu) (de_var 0) de_int) (de_var 1)))
    (ds_cons (ds_asg (de_op (od_fdiv2) (de_ix (xd_ix2 rfl hu) (de_var 0) de_int) (de_var 1)) (dg_ix (fun _ => trivial) (de_var 0) de_int (sd_set2 hu)))
    (ds_one (ds_ret (de_var 2)))))
      ds_nil)
    (ds_cons (ds_asg (de_op (od_mod) (de_op (od_add rfl) (de_op (od_mul2 rfl) (de_ix (xd_ix2 rfl hu) (de_var 0) de_int) de_int) de_int) de_int) (dg_ix (fun _ => trivial) (de_var 0) de_int (sd_set2 hu)))
    (ds_one (ds_ret (de_op (od_mod) (de_op (od_fdiv2) (de_op (od_mod) (de_op (od_mul2 rfl) (de_ix (xd_ix2 rfl hu) (de_var 0) de_int) (de_ix (xd_ix2 rfl hu) (de_var 0) de_int)) de_int) de_int) (de_var 1))))))
theorem ok_whole (T : Tx g.K mg) : ∀ k, FnOk P w g.K mg base (L2.CX P w) k T.whole.f T.whole.fd ["_law_thing"] (spD g 1 (f_whole k))
  | 0 => fn_bad
  | k + 1 => by
    exact fn_ok (fb := b_whole k (fun _ _ => .bad)) (nn := 1) T.whole.fn sc_whole rfl rfl fun cdv A outer s H E X hX hr hx tk hp => by
      subst hX
      have hu := hr.units
      have hu2 := hr.units65
      exact (ds_one (ds_ret (de_and rfl (de_isi .int rfl rfl T.m_isinstance rfl T.m_int bt_int (de_var 0)) (pe_one (de_not rfl (de_isi .bool rfl rfl T.m_isinstance rfl T.m_bool bt_bool (de_var 0)))))))
theorem ok_small (T : Tx g.K mg) : ∀ k, FnOk P w g.K mg base (L2.CX P w) k T.small.f T.small.fd ["_law_thing", "_law_levels"] (spD g 2 (f_small k))
  | 0 => fn_bad
  | k + 1 => by
    have ih := ok_small T k
    exact fn_ok (fb := b_small k (f_small k)) (nn := 4) T.small.fn sc_small rfl rfl fun cdv A outer s H E X hX hr hx tk hp => by
      subst hX
      have hu := hr.units
      have hu2 := hr.units65
      exact (ds_cons (ds_if (dt_tru rfl (de_isi .tuple rfl rfl T.m_isinstance rfl T.m_tuple bt_tuple (de_var 0)))
      (ds_cons (ds_setLcA (own := [("_law_one", 3)]) (i := 2) rfl sc_small.nd rfl rfl rfl (sw_true rfl rfl rfl (by decide +kernel)) (dA_keys rfl (de_var 0)) (blkOk_by (N := N_small) (sc := defScope s_small) (by decide +kernel)) (fun _ _ _ _ _ => (dg_name (i := 3) sc_small.nd rfl (by first | exact Or.inl rfl | exact Or.inr rfl) (wp_nm (by decide)))) (fun _ _ _ _ _ => (dts_one (dt_not (dt_tru rfl (de_call ih hr rfl T.small.mgx T.small.fn.kp T.small.bn px_no (da_cons (de_var 3) (da_cons (de_op (od_sub) (de_var 1) de_int) da_nil))))))) (fun _ _ _ _ _ => (de_var 3)))
    (ds_one (ds_ret (de_and rfl (de_cmp od_gt (de_var 1) de_int (nomark _)) (de_and rfl (de_cmp od_le (de_callB (cd_len2 rfl) rfl T.m_len bt_len (da_cons (de_var 0) da_nil)) de_int (nomark _)) (pe_one (de_cmp (od_eq rfl hu) (de_var 2) (de_lst da_nil) (nomark _))))))))
      ds_nil)
    (ds_one (ds_ret (de_if (dt_tru rfl (de_isi .str rfl rfl T.m_isinstance rfl T.m_str bt_str (de_var 0))) (de_cmp od_le (de_callB (cd_len2 rfl) rfl T.m_len bt_len (da_cons (de_var 0) da_nil)) de_int (nomark _)) (de_cmp od_lt (de_callB (cd_abs) rfl T.m_abs bt_abs (da_cons (de_var 0) da_nil)) (de_op (od_pow) de_int de_int) (nomark _))))))
theorem ok_within (T : Tx g.K mg) : ∀ k, FnOk P w g.K mg base (L2.CX P w) k T.within.f T.within.fd ["_law_thing"] (spD g 1 (f_within k))
  | 0 => fn_bad
  | k + 1 => by
    have ih := ok_within T k
    exact fn_ok (fb := b_within k (f_within k)) (nn := 2) T.within.fn sc_within rfl rfl fun cdv A outer s H E X hX hr hx tk hp => by
      subst hX
      have hu := hr.units
      have hu2 := hr.units65
      exact (ds_one (ds_ret (de_if (dt_tru rfl (de_isi .tuple rfl rfl T.m_isinstance rfl T.m_tuple bt_tuple (de_var 0))) (de_callB (cd_sum2 rfl rfl) rfl T.m_sum bt_sum (da_cons (de_lcA (own := [("_law_one", 1)]) rfl sc_within.nd rfl (dA_keys rfl (de_var 0)) (blkOk_by (N := N_within) (sc := defScope s_within) (by decide +kernel)) (fun _ _ _ _ _ => (dg_name (i := 1) sc_within.nd rfl (by first | exact Or.inl rfl | exact Or.inr rfl) (wp_nm (by decide)))) (fun _ _ _ _ _ => dts_nil) (fun _ _ _ _ _ => (de_op (od_add rfl) de_int (de_call ih hr rfl T.within.mgx T.within.fn.kp T.within.bn px_no (da_cons (de_var 1) da_nil))))) da_nil)) de_int)))
theorem ok_pair (T : Tx g.K mg) : ∀ k, FnOk P w g.K mg base (L2.CX P w) k T.pair.f T.pair.fd ["_law_word", "_law_a", "_law_b"] (spD g 3 (f_pair k))
  | 0 => fn_bad
  | k + 1 => by
    exact fn_ok (fb := b_pair k (fun _ _ => .bad)) (nn := 3) T.pair.fn sc_pair rfl rfl fun cdv A outer s H E X hX hr hx tk hp => by
      subst hX
      have hu := hr.units
      have hu2 := hr.units65
      exact (ds_cons (ds_if (dt_cmp (od_eq rfl hu) (de_var 0) de_str (nomark _))
      (ds_one (ds_ret (de_callTy (cd_int) rfl T.m_int bt_int (da_cons (de_cmp (od_eq rfl hu) (de_var 1) (de_var 2) (nomark _)) da_nil))))
      ds_nil)
    (ds_cons (ds_if (dt_cmp (od_eq rfl hu) (de_var 0) de_str (nomark _))
      (ds_cons (ds_if (PW.pt (dw_or (dt_tru rfl (de_call (ok_whole T k) hr rfl T.whole.mgx T.whole.fn.kp T.whole.bn hx (da_cons (de_var 1) da_nil))) (dw_or (dt_tru rfl (de_call (ok_whole T k) hr rfl T.whole.mgx T.whole.fn.kp T.whole.bn hx (da_cons (de_var 2) da_nil))) (dw_or1 (dt_cmp (od_ne rfl hu) (de_isi .str rfl rfl T.m_isinstance rfl T.m_str bt_str (de_var 1)) (de_isi .str rfl rfl T.m_isinstance rfl T.m_str bt_str (de_var 2)) (nomark _))))))
      (ds_one (ds_ret (de_lst (da_cons de_str (da_cons de_str da_nil)))))
      ds_nil)
    (ds_one (ds_ret (de_op (od_add rfl) (de_var 1) (de_var 2)))))
      ds_nil)
    (ds_cons (ds_if (dt_cmp (od_eq rfl hu) (de_var 0) de_str (nomark _))
      (ds_cons (ds_if (PW.pt (dw_or (dt_not (dt_tru rfl (de_isi .tuple rfl rfl T.m_isinstance rfl T.m_tuple bt_tuple (de_var 1)))) (dw_or1 (dt_not (dt_tru rfl (de_call (ok_whole T k) hr rfl T.whole.mgx T.whole.fn.kp T.whole.bn hx (da_cons (de_var 2) da_nil)))))))
      (ds_one (ds_ret (de_lst (da_cons de_str (da_cons de_str da_nil)))))
      ds_nil)
    (ds_one (ds_ret (de_if (dt_chain od_le od_lt de_int (de_var 2) (de_callB (cd_len2 rfl) rfl T.m_len bt_len (da_cons (de_var 1) da_nil))) (de_ix (xd_ix2 rfl hu) (de_var 1) (de_var 2)) (de_lst (da_cons de_str (da_cons de_str da_nil)))))))
      ds_nil)
    (ds_cons (ds_if (PW.pt (dw_or (dt_not (dt_tru rfl (de_call (ok_whole T k) hr rfl T.whole.mgx T.whole.fn.kp T.whole.bn hx (da_cons (de_var 1) da_nil)))) (dw_or1 (dt_not (dt_tru rfl (de_call (ok_whole T k) hr rfl T.whole.mgx T.whole.fn.kp T.whole.bn hx (da_cons (de_var 2) da_nil)))))))
      (ds_one (ds_ret (de_lst (da_cons de_str (da_cons de_str da_nil)))))
      ds_nil)
    (ds_cons (ds_if (dt_cmp (od_eq rfl hu) (de_var 0) de_str (nomark _))
      (ds_one (ds_ret (de_if (dt_cmp (od_ne rfl hu) (de_var 2) de_int (nomark _)) (de_op (od_fdiv2) (de_var 1) (de_var 2)) (de_lst (da_cons de_str (da_cons de_str da_nil))))))
      ds_nil)
    (ds_cons (ds_if (dt_cmp (od_eq rfl hu) (de_var 0) de_str (nomark _))
      (ds_one (ds_ret (de_op (od_add rfl) (de_var 1) (de_var 2))))
      ds_nil)
    (ds_cons (ds_if (dt_cmp (od_eq rfl hu) (de_var 0) de_str (nomark _))
      (ds_one (ds_ret (de_op (od_sub) (de_var 1) (de_var 2))))
      ds_nil)
    (ds_one (ds_ret (de_if (dt_cmp (od_eq rfl hu) (de_var 0) de_str (nomark _)) (de_op (od_mul2 rfl) (de_var 1) (de_var 2)) (de_callTy (cd_int) rfl T.m_int bt_int (da_cons (de_cmp od_lt (de_var 1) (de_var 2) (nomark _)) da_nil))))))))))))
theorem ok_result (T : Tx g.K mg) : ∀ k, FnOk P w g.K mg base (L2.CX P w) k T.result.f T.result.fd ["_law_term", "_law_names"] (spD g 2 (f_result k))
  | 0 => fn_bad
  | k + 1 => by
    have ih := ok_result T k
    exact fn_ok (fb := b_result k (f_result k)) (nn := 7) T.result.fn sc_result rfl rfl fun cdv A outer s H E X hX hr hx tk hp => by
      subst hX
      have hu := hr.units
      have hu2 := hr.units65
      exact (ds_cons (ds_par (i := 2) (j := 3) rfl sc_result.nd rfl rfl (by decide) rfl rfl (da_cons (de_ix (xd_ix2 rfl hu) (de_var 0) de_int) (da_cons (de_lstM da_nil) da_nil)) rfl)
    (ds_cons (ds_if (dt_cmp (od_eq rfl hu) (de_var 2) de_str (nomark _))
      (ds_one (ds_ret (de_lst (da_cons de_str (da_cons (de_ix (xd_ix2 rfl hu) (de_var 0) de_int) da_nil)))))
      ds_nil)
    (ds_cons (ds_if (dt_cmp (od_eq rfl hu) (de_var 2) de_str (nomark _))
      (ds_one (ds_ret (de_if (dt_cmp (od_in rfl hu2) (de_ix (xd_ix2 rfl hu) (de_var 0) de_int) (de_var 1) (by rfl)) (de_lst (da_cons de_str (da_cons (de_ix (xd_ix2 rfl hu) (de_var 1) (de_ix (xd_ix2 rfl hu) (de_var 0) de_int)) da_nil))) (de_lst (da_cons de_str (da_cons de_str da_nil))))))
      ds_nil)
    (ds_cons (ds_for hp rfl (dA_keys rfl (de_sl rfl (de_var 0) (dp_some de_int) dp_none)).v (dg_name (i := 4) sc_result.nd rfl (by first | exact Or.inl rfl | exact Or.inr rfl) (fun _ _ => trivial))
      (ds_cons (ds_set (i := 5) sc_result.nd rfl (by first | exact Or.inl rfl | exact Or.inr rfl) (de_call ih hr rfl T.result.mgx T.result.fn.kp T.result.bn hx (da_cons (de_var 4) (da_cons (de_var 1) da_nil))))
    (ds_cons (ds_if (dt_cmp (od_eq rfl hu) (de_ix (xd_ix2 rfl hu) (de_var 5) de_int) de_str (nomark _))
      (ds_one (ds_ret (de_var 5)))
      ds_nil)
    (ds_one (ds_expr (de_m ty_lst F.plainAttrs_list F.slot_list_append F.type_list_append md_append (de_var 3) (da_cons (de_ix (xd_ix2 rfl hu) (de_var 5) de_int) da_nil)))))))
    (ds_cons (ds_if (dt_cmp (od_eq rfl hu) (de_var 2) de_str (nomark _))
      (ds_one (ds_set (i := 5) sc_result.nd rfl (by first | exact Or.inl rfl | exact Or.inr rfl) (de_callTy (cd_tuple rfl) rfl T.m_tuple bt_tuple (da_cons (de_var 3) da_nil))))
      (ds_one (ds_if (dt_cmp (od_eq rfl hu) (de_var 2) de_str (nomark _))
      (ds_one (ds_set (i := 5) sc_result.nd rfl (by first | exact Or.inl rfl | exact Or.inr rfl) (de_if (dt_tru rfl (de_call (ok_whole T k) hr rfl T.whole.mgx T.whole.fn.kp T.whole.bn hx (da_cons (de_ix (xd_ix2 rfl hu) (de_var 3) de_int) da_nil))) (de_lst (da_cons de_str (da_cons de_str da_nil))) (de_callB (cd_len2 rfl) rfl T.m_len bt_len (da_cons (de_ix (xd_ix2 rfl hu) (de_var 3) de_int) da_nil)))))
      (ds_one (ds_set (i := 5) sc_result.nd rfl (by first | exact Or.inl rfl | exact Or.inr rfl) (de_call (ok_pair T k) hr rfl T.pair.mgx T.pair.fn.kp T.pair.bn hx (da_cons (de_var 2) (da_cons (de_ix (xd_ix2 rfl hu) (de_var 3) de_int) (da_cons (de_ix (xd_ix2 rfl hu) (de_var 3) de_int) da_nil)))))))))
    (ds_cons (ds_if (dt_tru rfl (de_isi .list rfl rfl T.m_isinstance rfl T.m_list bt_list (de_var 5)))
      (ds_one (ds_ret (de_var 5)))
      ds_nil)
    (ds_cons (ds_set (i := 6) sc_result.nd rfl (by first | exact Or.inl rfl | exact Or.inr rfl) (de_and rfl (de_call (ok_small T k) hr rfl T.small.mgx T.small.fn.kp T.small.bn hx (da_cons (de_var 5) (da_cons de_int da_nil))) (pe_one (de_cmp od_le (de_call (ok_within T k) hr rfl T.within.mgx T.within.fn.kp T.within.bn hx (da_cons (de_var 5) da_nil)) de_int (nomark _)))))
    (ds_one (ds_ret (de_if (dt_tru rfl (de_var 6)) (de_lst (da_cons de_str (da_cons (de_var 5) da_nil))) (de_lst (da_cons de_str (da_cons de_str da_nil)))))))))))))
theorem ok_l_names_in (T : Tx g.K mg) : ∀ k, FnOk P w g.K mg base (L2.CX P w) k T.l_names_in.f T.l_names_in.fd ["_law_term"] (spD g 1 (f_l_names_in k))
  | 0 => fn_bad
  | k + 1 => by
    have ih := ok_l_names_in T k
    exact fn_ok (fb := b_l_names_in k (f_l_names_in k)) (nn := 2) T.l_names_in.fn sc_l_names_in rfl rfl fun cdv A outer s H E X hX hr hx tk hp => by
      subst hX
      have hu := hr.units
      have hu2 := hr.units65
      exact (ds_cons (ds_if (dt_cmp (od_eq rfl hu) (de_ix (xd_ix2 rfl hu) (de_var 0) de_int) de_str (nomark _))
      (ds_one (ds_ret (de_lst da_nil)))
      ds_nil)
    (ds_cons (ds_if (dt_cmp (od_eq rfl hu) (de_ix (xd_ix2 rfl hu) (de_var 0) de_int) de_str (nomark _))
      (ds_one (ds_ret (de_lst (da_cons (de_ix (xd_ix2 rfl hu) (de_var 0) de_int) da_nil))))
      ds_nil)
    (ds_one (ds_ret (de_callB (cd_sum2 rfl rfl) rfl T.m_sum bt_sum (da_cons (de_lcA (own := [("_law_part", 1)]) rfl sc_l_names_in.nd rfl (dA_keys rfl (de_sl rfl (de_var 0) (dp_some de_int) dp_none)) (blkOk_by (N := N_l_names_in) (sc := defScope s_l_names_in) (by decide +kernel)) (fun _ _ _ _ _ => (dg_name (i := 1) sc_l_names_in.nd rfl (by first | exact Or.inl rfl | exact Or.inr rfl) (wp_nm (by decide)))) (fun _ _ _ _ _ => dts_nil) (fun _ _ _ _ _ => (de_call ih hr rfl T.l_names_in.mgx T.l_names_in.fn.kp T.l_names_in.bn px_no (da_cons (de_var 1) da_nil)))) (da_cons (de_lst da_nil) da_nil)))))))
theorem ok_once (T : Tx g.K mg) : ∀ k, FnOk P w g.K mg base (L2.CX P w) k T.once.f T.once.fd ["_law_names"] (spD g 1 (f_once k))
  | 0 => fn_bad
  | k + 1 => by
    exact fn_ok (fb := b_once k (fun _ _ => .bad)) (nn := 2) T.once.fn sc_once rfl rfl fun cdv A outer s H E X hX hr hx tk hp => by
      subst hX
      have hu := hr.units
      have hu2 := hr.units65
      exact (ds_one (ds_ret (de_callTy (cd_list (mu := false) rfl rfl) rfl T.m_list bt_list (da_cons (de_callTy (cd_dict (mu := false) rfl rfl) rfl T.m_dict bt_dict (da_cons (de_lcA (own := [("_law_name", 1)]) rfl sc_once.nd rfl (dA_keys rfl (de_var 0)) (blkOk_by (N := N_once) (sc := defScope s_once) (by decide +kernel)) (fun _ _ _ _ _ => (dg_name (i := 1) sc_once.nd rfl (by first | exact Or.inl rfl | exact Or.inr rfl) (wp_nm (by decide)))) (fun _ _ _ _ _ => dts_nil) (fun _ _ _ _ _ => (de_tup (da_cons (de_var 1) (da_cons de_bl da_nil))))) da_nil)) da_nil))))
theorem ok_random_term (T : Tx g.K mg) : ∀ k, FnOk P w g.K mg base (L2.CX P w) k T.random_term.f T.random_term.fd ["_law_pool_here", "_law_depth"] (spD g 2 (f_random_term k))
  | 0 => fn_bad
  | k + 1 => by
    have ih := ok_random_term T k
    exact fn_ok (fb := b_random_term k (f_random_term k)) (nn := 8) T.random_term.fn sc_random_term rfl rfl fun cdv A outer s H E X hX hr hx tk hp => by
      subst hX
      have hu := hr.units
      have hu2 := hr.units65
      exact (ds_cons (ds_set (i := 2) sc_random_term.nd rfl (by first | exact Or.inl rfl | exact Or.inr rfl) (de_call (ok_draw T k) hr rfl T.draw.mgx T.draw.fn.kp T.draw.bn hx (da_cons (de_var 0) (da_cons (de_if (dt_cmp od_gt (de_var 1) de_int (nomark _)) de_int de_int) da_nil))))
    (ds_cons (ds_if (dt_cmp (od_eq rfl hu) (de_var 2) de_int (nomark _))
      (ds_cons (ds_set (i := 3) sc_random_term.nd rfl (by first | exact Or.inl rfl | exact Or.inr rfl) (de_lst (da_cons de_int (da_cons de_int (da_cons (de_un ud_neg de_int) (da_cons (de_op (od_pow) de_int de_int) (da_cons (de_op (od_sub) de_int (de_op (od_pow) de_int de_int)) (da_cons de_str (da_cons de_str (da_cons (de_op (od_mul2 rfl) de_str de_int) (da_cons (de_tup da_nil) (da_cons (de_tup (da_cons de_int (da_cons de_str da_nil))) (da_cons (de_tup (da_cons (de_tup (da_cons de_int da_nil)) (da_cons de_int da_nil))) (da_cons (de_op (od_mul2 rfl) (de_tup (da_cons de_int da_nil)) de_int) (da_cons de_int da_nil)))))))))))))))
    (ds_one (ds_ret (de_tup (da_cons de_str (da_cons (de_ix (xd_ix2 rfl hu) (de_var 3) (de_call (ok_draw T k) hr rfl T.draw.mgx T.draw.fn.kp T.draw.bn hx (da_cons (de_var 0) (da_cons de_int da_nil)))) da_nil))))))
      ds_nil)
    (ds_cons (ds_if (dt_cmp (od_eq rfl hu) (de_var 2) de_int (nomark _))
      (ds_one (ds_ret (de_tup (da_cons de_str (da_cons (de_ix (xd_ix2 rfl hu) de_str (de_call (ok_draw T k) hr rfl T.draw.mgx T.draw.fn.kp T.draw.bn hx (da_cons (de_var 0) (da_cons de_int da_nil)))) da_nil)))))
      ds_nil)
    (ds_cons (ds_set (i := 4) sc_random_term.nd rfl (by first | exact Or.inl rfl | exact Or.inr rfl) (de_lst (da_cons de_str (da_cons de_str (da_cons de_str (da_cons de_str (da_cons de_str (da_cons de_str (da_cons de_str (da_cons de_str (da_cons de_str (da_cons de_str da_nil))))))))))))
    (ds_cons (ds_set (i := 5) sc_random_term.nd rfl (by first | exact Or.inl rfl | exact Or.inr rfl) (de_ix (xd_ix2 rfl hu) (de_var 4) (de_call (ok_draw T k) hr rfl T.draw.mgx T.draw.fn.kp T.draw.bn hx (da_cons (de_var 0) (da_cons de_int da_nil)))))
    (ds_cons (ds_set (i := 6) sc_random_term.nd rfl (by first | exact Or.inl rfl | exact Or.inr rfl) (de_get2 hu (de_disp (mu := false) (pps_cons de_str (de_call (ok_draw T k) hr rfl T.draw.mgx T.draw.fn.kp T.draw.bn px_no (da_cons (de_var 0) (da_cons de_int da_nil))) (pps_cons de_str de_int pps_nil)) rfl rfl (by simp) (by decide)) (de_var 5) de_int ⟨rfl, rfl, rfl, rfl⟩))
    (ds_one (ds_ret (de_op (od_add rfl) (de_tup (da_cons (de_var 5) da_nil)) (de_callTy (cd_tuple rfl) rfl T.m_tuple bt_tuple (da_cons (de_lc (own := [("_law_turn", 7)]) rfl sc_random_term.nd rfl (di_rng1 rfl T.m_range (da_cons (de_var 6) da_nil)) (blkOk_by (N := N_random_term) (sc := defScope s_random_term) (by decide +kernel)) (fun _ _ _ _ _ => (dg_name (i := 7) sc_random_term.nd rfl (by first | exact Or.inl rfl | exact Or.inr rfl) (wp_nm (by decide)))) (fun _ _ _ _ _ => dts_nil) (fun _ _ _ _ _ => (de_call ih hr rfl T.random_term.mgx T.random_term.fn.kp T.random_term.bn px_no (da_cons (de_var 0) (da_cons (de_op (od_sub) (de_var 1) de_int) da_nil))))) da_nil)))))))))))
theorem ok_nested (T : Tx g.K mg) : ∀ k, FnOk P w g.K mg base (L2.CX P w) k T.nested.f T.nested.fd ["_law_levels"] (spD g 1 (f_nested k))
  | 0 => fn_bad
  | k + 1 => by
    exact fn_ok (fb := b_nested k (fun _ _ => .bad)) (nn := 3) T.nested.fn sc_nested rfl rfl fun cdv A outer s H E X hX hr hx tk hp => by
      subst hX
      have hu := hr.units
      have hu2 := hr.units65
      exact (ds_cons (ds_set (i := 1) sc_nested.nd rfl (by first | exact Or.inl rfl | exact Or.inr rfl) (de_tup da_nil))
    (ds_cons (ds_for hp rfl (di_rng1 rfl T.m_range (da_cons (de_var 0) da_nil)) (dg_name (i := 2) sc_nested.nd rfl (by first | exact Or.inl rfl | exact Or.inr rfl) (fun _ _ => trivial))
      (ds_one (ds_set (i := 1) sc_nested.nd rfl (by first | exact Or.inl rfl | exact Or.inr rfl) (de_tup (da_cons (de_var 1) da_nil)))))
    (ds_one (ds_ret (de_var 1)))))
theorem ok_law (T : Tx g.K mg) : ∀ k, FnOk P w g.K mg base (L2.CX P w) k T.law.f T.law.fd ["_law_script"] (spD g 1 (f_law k))
  | 0 => fn_bad
  | k + 1 => by
    exact fn_ok (fb := b_law k (fun _ _ => .bad)) (nn := 7) T.law.fn sc_law rfl rfl fun cdv A outer s H E X hX hr hx tk hp => by
      subst hX
      have hu := hr.units
      have hu2 := hr.units65
      exact (ds_cons (ds_set (i := 1) sc_law.nd rfl (by first | exact Or.inl rfl | exact Or.inr rfl) (de_tup (da_cons de_str (da_cons (de_tup (da_cons de_str (da_cons (de_call (ok_nested T k) hr rfl T.nested.mgx T.nested.fn.kp T.nested.bn hx (da_cons de_int da_nil)) da_nil))) da_nil))))
    (ds_cons (ds_if (dt_cmp (od_ne rfl hu) (de_call (ok_evaluate T k) hr rfl T.evaluate.mgx T.evaluate.fn.kp T.evaluate.bn hx (da_cons (de_var 1) (da_cons de_dict0 da_nil))) (de_tup (da_cons de_str (da_cons de_str da_nil))) (nomark _))
      (ds_one (ds_ret de_bl))
      ds_nil)
    (ds_cons (ds_if (dt_cmp (od_ne rfl hu) (de_ix (xd_ix2 rfl hu) (de_call (ok_evaluate T k) hr rfl T.evaluate.mgx T.evaluate.fn.kp T.evaluate.bn hx (da_cons (de_tup (da_cons de_str (da_cons (de_tup (da_cons de_str (da_cons (de_call (ok_nested T k) hr rfl T.nested.mgx T.nested.fn.kp T.nested.bn hx (da_cons de_int da_nil)) da_nil))) da_nil))) (da_cons de_dict0 da_nil))) de_int) de_str (nomark _))
      (ds_one (ds_ret de_bl))
      ds_nil)
    (ds_cons (ds_for hp rfl (di_rng1 rfl T.m_range (da_cons (de_callB (cd_max2 rfl) rfl T.m_max bt_max (da_cons de_int (da_cons (de_callB (cd_min2 rfl) rfl T.m_min bt_min (da_cons (de_callB (cd_len2 rfl) rfl T.m_len bt_len (da_cons (de_var 0) da_nil)) (da_cons de_int da_nil))) da_nil))) da_nil)) (dg_name (i := 2) sc_law.nd rfl (by first | exact Or.inl rfl | exact Or.inr rfl) (fun _ _ => trivial))
      (ds_cons (ds_set (i := 3) sc_law.nd rfl (by first | exact Or.inl rfl | exact Or.inr rfl) (de_call (ok_pool T k) hr rfl T.pool.mgx T.pool.fn.kp T.pool.bn hx (da_cons (de_var 0) (da_cons (de_var 2) da_nil))))
    (ds_one (ds_for hp rfl (di_rng1 rfl T.m_range (da_cons de_int da_nil)) (dg_name (i := 4) sc_law.nd rfl (by first | exact Or.inl rfl | exact Or.inr rfl) (fun _ _ => trivial))
      (ds_cons (ds_set (i := 5) sc_law.nd rfl (by first | exact Or.inl rfl | exact Or.inr rfl) (de_disp (mu := true) (pps_cons de_str (de_op (od_sub) (de_call (ok_draw T k) hr rfl T.draw.mgx T.draw.fn.kp T.draw.bn px_no (da_cons (de_var 3) (da_cons de_int da_nil))) de_int) (pps_cons de_str (de_ix (xd_ix2 rfl hu) (de_lst (da_cons de_str (da_cons de_str (da_cons de_str da_nil)))) (de_call (ok_draw T k) hr rfl T.draw.mgx T.draw.fn.kp T.draw.bn px_no (da_cons (de_var 3) (da_cons de_int da_nil)))) pps_nil)) rfl rfl (by simp) (by decide)))
    (ds_cons (ds_asg (de_ix (xd_ix2 rfl hu) (de_lst (da_cons (de_tup (da_cons de_int (da_cons de_int da_nil))) (da_cons (de_tup da_nil) (da_cons (de_tup (da_cons de_str (da_cons (de_tup (da_cons de_int da_nil)) da_nil))) da_nil)))) (de_call (ok_draw T k) hr rfl T.draw.mgx T.draw.fn.kp T.draw.bn hx (da_cons (de_var 3) (da_cons de_int da_nil)))) (dg_ix (fun _ => trivial) (de_var 5) de_str (sd_set2 hu)))
    (ds_cons (ds_set (i := 6) sc_law.nd rfl (by first | exact Or.inl rfl | exact Or.inr rfl) (de_call (ok_random_term T k) hr rfl T.random_term.mgx T.random_term.fn.kp T.random_term.bn hx (da_cons (de_var 3) (da_cons (de_op (od_add rfl) de_int (de_call (ok_draw T k) hr rfl T.draw.mgx T.draw.fn.kp T.draw.bn hx (da_cons (de_var 3) (da_cons de_int da_nil)))) da_nil))))
    (ds_cons (ds_if (dt_cmp (od_ne rfl hu) (de_callTy (cd_list (mu := false) rfl rfl) rfl T.m_list bt_list (da_cons (de_call (ok_evaluate T k) hr rfl T.evaluate.mgx T.evaluate.fn.kp T.evaluate.bn hx (da_cons (de_var 6) (da_cons (de_var 5) da_nil))) da_nil)) (de_call (ok_result T k) hr rfl T.result.mgx T.result.fn.kp T.result.bn hx (da_cons (de_var 6) (da_cons (de_var 5) da_nil))) (nomark _))
      (ds_one (ds_ret de_bl))
      ds_nil)
    (ds_one (ds_if (dt_cmp (od_ne rfl hu) (de_call (ok_names_in T k) hr rfl T.names_in.mgx T.names_in.fn.kp T.names_in.bn hx (da_cons (de_var 6) da_nil)) (de_call (ok_once T k) hr rfl T.once.mgx T.once.fn.kp T.once.bn hx (da_cons (de_call (ok_l_names_in T k) hr rfl T.l_names_in.mgx T.l_names_in.fn.kp T.l_names_in.bn hx (da_cons (de_var 6) da_nil)) da_nil)) (nomark _))
      (ds_one (ds_ret de_bl))
      ds_nil))))))))))
    (ds_one (ds_ret de_bl))))))
end
end K03

namespace K03
open PySem PySem.Spec PyProof.Rows L2 VL
local macro_rules | `(tactic| walk_at "mx") => `(tactic| simp only [ok_dDef, ok_sSeq, ok_sSet, ok_sRet, ok_sDrop, ok_sIf, ok_sNx, ok_sAsg, ok_eBin, ok_eUn, ok_eC, ok_eCall, ok_aCons, ok_aNil, ok_eTup, ok_eLst, ok_eLstM, ok_eAnd, ok_eOr, ok_eNot, ok_eIf, ok_eChain, ok_tTru, ok_tBl, ok_tAnd2, ok_tOr2, ok_tNot1, ok_eSl, ok_pNo, ok_pSo, ok_eVar, ok_gNm, ok_gIx, ok_truD_bl, ok_tYesD, ok_wAk, ok_eLcA, ok_eStar, ok_eM, ok_eGet2, ok_eDisp, ok_prsD_nil, ok_prsD_cons, ok_nwD_f, ok_nwD_t, ok_nwL_f, ok_nwL_t, ok_gCons2, ok_gNil2, ok_sPar2, ok_sMatch, ok_mCase, ok_mElse, ok_add_int, ok_sub_int, ok_ord_int, ok_neg_int, ok_abs_int, ok_intD_bl, ok_intD_int, ok_eq_int, ok_eq_str, ok_eq_bl, ok_len_tup, ok_len_lst, isSD, wkA, wkOf, wipeL, List.map_cons, List.map_nil, List.length_cons, List.length_nil, List.replicate_succ, List.replicate_zero, List.cons_append, List.nil_append, List.getElem?_cons_zero, List.getElem?_cons_succ, List.set_cons_zero, List.set_cons_succ, if_true, Bool.false_eq_true, if_false, Bool.not_true, Bool.not_false, ok_isi_tup, ok_isi_lst, ok_isi_int, ok_isi_str, ok_isi_bl, ok_isi_non, ok_isi_dic, ok_isNon, ok_isBl, isTg, D.isNon, ari0, ari1, ari2, ari3, ari4, ari5, Ok_ok, Nat.reduceSub, Nat.reduceAdd, ofs_inj, String.reduceEq, decide_true, decide_false, fbne, tbne, intB])
local macro_rules | `(tactic| walk_at "my") => `(tactic| try simp only [ok_dDef, ok_sSeq, ok_sSet, ok_sRet, ok_sDrop, ok_sIf, ok_sNx, ok_sAsg, ok_eBin, ok_eUn, ok_eC, ok_eCall, ok_aCons, ok_aNil, ok_eTup, ok_eLst, ok_eLstM, ok_eAnd, ok_eOr, ok_eNot, ok_eIf, ok_eChain, ok_tTru, ok_tBl, ok_tAnd2, ok_tOr2, ok_tNot1, ok_eSl, ok_pNo, ok_pSo, ok_eVar, ok_gNm, ok_gIx, ok_truD_bl, ok_tYesD, ok_wAk, ok_eLcA, ok_eStar, ok_eM, ok_eGet2, ok_eDisp, ok_prsD_nil, ok_prsD_cons, ok_nwD_f, ok_nwD_t, ok_nwL_f, ok_nwL_t, ok_gCons2, ok_gNil2, ok_sPar2, ok_sMatch, ok_mCase, ok_mElse, ok_add_int, ok_sub_int, ok_ord_int, ok_neg_int, ok_abs_int, ok_intD_bl, ok_intD_int, ok_eq_int, ok_eq_str, ok_eq_bl, ok_len_tup, ok_len_lst, isSD, wkA, wkOf, wipeL, List.map_cons, List.map_nil, List.length_cons, List.length_nil, List.replicate_succ, List.replicate_zero, List.cons_append, List.nil_append, List.getElem?_cons_zero, List.getElem?_cons_succ, List.set_cons_zero, List.set_cons_succ, if_true, Bool.false_eq_true, if_false, Bool.not_true, Bool.not_false, ok_isi_tup, ok_isi_lst, ok_isi_int, ok_isi_str, ok_isi_bl, ok_isi_non, ok_isi_dic, ok_isNon, ok_isBl, isTg, D.isNon, ari0, ari1, ari2, ari3, ari4, ari5, Ok_ok, Nat.reduceSub, Nat.reduceAdd, ofs_inj, String.reduceEq, decide_true, decide_false, fbne, tbne, intB])
theorem e_is_integer {n : Nat} {d : D} {S : Sto} (hn : 1 ≤ n) (h : Fit d) : f_is_integer n [d] S = .ok (.bl (intB d)) S := by
  obtain ⟨k, rfl⟩ : ∃ k, n = k + 1 := ⟨n - 1, by omega⟩
  refine eq_of_ok ?_
  unfold f_is_integer b_is_integer
  cases d <;> first
    | (simp only [Fit] at h; done)
    | (walk_at "mx"; exact ⟨rfl, rfl⟩)
    | (walk_at "mx"; simp)
theorem e_is_word {n : Nat} {z sg : Str} {lo hi : Int} {S : Sto} (hn : 1 ≤ n) (h : z.length ≤ 1000) : f_is_word n [.str z, .str sg, .int lo, .int hi] S = .ok (.bl (wordB z sg lo hi)) S := by
  obtain ⟨k, rfl⟩ : ∃ k, n = k + 1 := ⟨n - 1, by omega⟩
  refine eq_of_ok ?_
  unfold f_is_word b_is_word
  have hl : z.length ≤ sizeLine := by rw [sizeLine_eq]; omega
  walk_at "mx"
  rw [ok_len_str hl]
  walk_at "mx"
  unfold wordB
  cases h1 : decide (lo ≤ (z.length : Int)) with
  | false => simp [ok_truD_bl]
  | true =>
    simp only [ok_ord_int, Bool.true_and]
    cases h2 : decide ((z.length : Int) ≤ hi) with
    | false => simp [ok_truD_bl]
    | true =>
      walk_at "mx"
      have hc : (chars z).length = z.length := by unfold chars; rw [List.length_map, Array.length_toList]; rfl
      rw [lc_map (f := fun d => match d with | .str a => .bl (inStr a sg) | _ => .non) rfl _ _ (by simp; omega) ?hm, Ok_ok]
      case hm =>
        intro d hd
        unfold chars at hd
        obtain ⟨c, hc, rfl⟩ := List.mem_map.mp hd
        walk_at "mx"
        refine ⟨trivial, eq_of_ok ?_⟩
        walk_at "mx"
        simp only [inD, Ok_ok]
        simp
      have e : (chars z).map (fun d => match d with | .str a => D.bl (inStr a sg) | _ => .non) = z.cps.toList.map fun c => D.bl (decide (c ∈ sg.cps.toList)) := by
        unfold chars
        rw [List.map_map]
        rfl
      rw [List.nil_append, e, ok_all_map]
      exact ⟨rfl, rfl⟩
theorem e_is_word_no {n : Nat} {d a b c : D} {S : Sto} (hn : 1 ≤ n) (h : Fit d) (hs : ∀ z, d ≠ .str z) : f_is_word n [d, a, b, c] S = .ok (.bl false) S := by
  obtain ⟨k, rfl⟩ : ∃ k, n = k + 1 := ⟨n - 1, by omega⟩
  refine eq_of_ok ?_
  unfold f_is_word b_is_word
  cases d <;> first
    | (simp only [Fit] at h; done)
    | exact absurd rfl (hs _)
    | (walk_at "mx"; simp)
def txtB (d : D) : Bool := match d with | .str z => wordB z SG 0 60 | _ => false
def keyB (d : D) : Bool := match d with | .str z => wordB z SG 1 60 | _ => false
def nameB (d : D) : Bool := match d with | .str z => wordB z LT 1 12 | _ => false
theorem e_is_text {n : Nat} {d : D} {S : Sto} (hn : 2 ≤ n) (h : Fit d) : f_is_text n [d] S = .ok (.bl (txtB d)) S := by
  obtain ⟨k, rfl⟩ : ∃ k, n = k + 1 := ⟨n - 1, by omega⟩
  refine eq_of_ok ?_
  unfold f_is_text b_is_text k_SIGNS k_MAX_TEXT
  walk_at "mx"
  by_cases hs : ∃ z, d = .str z
  · obtain ⟨z, rfl⟩ := hs
    rw [e_is_word (by omega) (by rw [Fit] at h; exact h), Ok_ok]
    exact ⟨rfl, rfl⟩
  · have hs' : ∀ z, d ≠ .str z := fun z e => hs ⟨z, e⟩
    rw [e_is_word_no (by omega) h hs', Ok_ok]
    cases d <;> first | exact absurd rfl (hs' _) | exact ⟨rfl, rfl⟩
theorem e_is_within_levels : ∀ (l n : Nat) (d : D) (S : Sto), l + 3 ≤ n → Fit d → f_is_within_levels n [d, .int (l : Int)] S = .ok (.bl (wl l d)) S := by
  intro l
  induction l with
  | zero =>
    intro n d S hn h
    obtain ⟨k, rfl⟩ : ∃ k, n = k + 1 := ⟨n - 1, by omega⟩
    refine eq_of_ok ?_
    unfold f_is_within_levels b_is_within_levels k_MAX_INTEGER
    cases d with
    | tup ds => walk_at "mx"; simp [Ok_ok, wl_tup0]
    | int i =>
      walk_at "mx"
      rw [e_is_integer (by omega) (by simp [Fit])]
      walk_at "mx"
      rw [wl_int]
      unfold MXI
      cases h1 : decide (-1000000000000000000000000000000000000000000000000000000000000 < i) <;> simp [Ok_ok]
    | _ =>
      walk_at "mx"
      first
        | (simp only [Fit] at h; done)
        | (rw [e_is_integer (by omega) h]; walk_at "mx"; rw [e_is_text (by omega) h]; simp [Ok_ok, txtB, wl])
  | succ l ih =>
    intro n d S hn h
    obtain ⟨k, rfl⟩ : ∃ k, n = k + 1 := ⟨n - 1, by omega⟩
    refine eq_of_ok ?_
    unfold f_is_within_levels b_is_within_levels k_MAX_INTEGER k_MAX_ITEMS
    cases d with
    | tup ds =>
      rw [Fit] at h
      walk_at "mx"
      rw [wl_tup]
      simp only [show ¬ (((l + 1 : Nat) : Int) = 0) by omega, decide_false, Bool.bne_false, Bool.false_eq_true, if_false, show decide ((ds.length : Int) ≤ 50) = decide (ds.length ≤ 50) by simp; omega]
      by_cases h50 : (50 : Int) < ds.length
      · have : ¬ ds.length ≤ 50 := by omega
        simp [h50, this, Ok_ok]
      · have : ds.length ≤ 50 := by omega
        simp only [h50, this, decide_false, decide_true, Bool.false_eq_true, if_false, Bool.true_and]
        try walk_at "mx"
        rw [lc_map (f := fun d => .bl (wl l d)) rfl _ _ (by rw [sizeLine_eq]; simp; omega) ?hm, Ok_ok]
        case hm =>
          intro d hd
          walk_at "mx"
          refine ⟨trivial, eq_of_ok ?_⟩
          walk_at "mx"
          rw [show ((l + 1 : Nat) : Int) - 1 = (l : Int) by omega, ih k d S (by omega) (Fits_mem h.2 hd), Ok_ok]
          exact ⟨rfl, rfl⟩
        rw [List.nil_append, ok_all_map]
        exact ⟨rfl, rfl⟩
    | int i =>
      walk_at "mx"
      rw [e_is_integer (by omega) (by simp [Fit])]
      walk_at "mx"
      rw [wl_int]
      unfold MXI
      cases h1 : decide (-1000000000000000000000000000000000000000000000000000000000000 < i) <;> simp [Ok_ok]
    | _ =>
      walk_at "mx"
      first
        | (simp only [Fit] at h; done)
        | (rw [e_is_integer (by omega) h]; walk_at "mx"; rw [e_is_text (by omega) h]; simp [Ok_ok, txtB, wl])
theorem e_size_within : ∀ (n : Nat) (d : D) (S : Sto), dep d + 1 ≤ n → Fit d → f_size_within n [d] S = .ok (.int (sz d)) S := by
  intro n
  induction n with
  | zero => intro d S hn; omega
  | succ k ih =>
    intro d S hn h
    refine eq_of_ok ?_
    unfold f_size_within b_size_within
    cases d with
    | tup ds =>
      rw [Fit] at h
      rw [dep] at hn
      walk_at "mx"
      rw [lc_map (f := fun d => .int (1 + (sz d : Int))) rfl _ _ (by rw [sizeLine_eq]; simp; omega) ?hm, Ok_ok]
      case hm =>
        intro d hd
        have := dep_mem hd
        walk_at "mx"
        refine ⟨trivial, eq_of_ok ?_⟩
        walk_at "mx"
        rw [ih d S (by omega) (Fits_mem h.2 hd), Ok_ok, ok_add_int]
        exact ⟨rfl, rfl⟩
      rw [List.nil_append, ok_sum_map, ← szs_sum, sz]
      exact ⟨rfl, rfl⟩
    | _ =>
      walk_at "mx"
      first
        | (simp only [Fit] at h; done)
        | simp [sz]
theorem e_is_value {n : Nat} {d : D} {S : Sto} (hn : 9 ≤ n) (h : Fit d) : f_is_value n [d] S = .ok (.bl (isVal d)) S := by
  obtain ⟨k, rfl⟩ : ∃ k, n = k + 1 := ⟨n - 1, by omega⟩
  refine eq_of_ok ?_
  unfold f_is_value b_is_value k_MAX_LEVELS k_MAX_ITEMS
  walk_at "mx"
  rw [show (5 : Int) = ((5 : Nat) : Int) from rfl, e_is_within_levels 5 k d S (by omega) h, Ok_ok]
  unfold isVal
  cases h5 : wl 5 d with
  | false => walk_at "mx"; simp
  | true =>
    have := wl_dep 5 d h5
    walk_at "mx"
    rw [e_size_within k d S (by omega) h]
    walk_at "mx"
    simp
    omega
theorem e_is_key {n : Nat} {d : D} {S : Sto} (hn : 2 ≤ n) (h : Fit d) : f_is_key n [d] S = .ok (.bl (keyB d)) S := by
  obtain ⟨k, rfl⟩ : ∃ k, n = k + 1 := ⟨n - 1, by omega⟩
  refine eq_of_ok ?_
  unfold f_is_key b_is_key k_SIGNS k_MAX_TEXT
  walk_at "mx"
  by_cases hs : ∃ z, d = .str z
  · obtain ⟨z, rfl⟩ := hs
    rw [e_is_word (by omega) (by rw [Fit] at h; exact h), Ok_ok]
    exact ⟨rfl, rfl⟩
  · have hs' : ∀ z, d ≠ .str z := fun z e => hs ⟨z, e⟩
    rw [e_is_word_no (by omega) h hs', Ok_ok]
    cases d <;> first | exact absurd rfl (hs' _) | exact ⟨rfl, rfl⟩
theorem e_is_name {n : Nat} {d : D} {S : Sto} (hn : 2 ≤ n) (h : Fit d) : f_is_name n [d] S = .ok (.bl (nameB d)) S := by
  obtain ⟨k, rfl⟩ : ∃ k, n = k + 1 := ⟨n - 1, by omega⟩
  refine eq_of_ok ?_
  unfold f_is_name b_is_name k_LETTERS k_MAX_NAME
  walk_at "mx"
  by_cases hs : ∃ z, d = .str z
  · obtain ⟨z, rfl⟩ := hs
    rw [e_is_word (by omega) (by rw [Fit] at h; exact h), Ok_ok]
    exact ⟨rfl, rfl⟩
  · have hs' : ∀ z, d ≠ .str z := fun z e => hs ⟨z, e⟩
    rw [e_is_word_no (by omega) h hs', Ok_ok]
    cases d <;> first | exact absurd rfl (hs' _) | exact ⟨rfl, rfl⟩
theorem beqs_zip : ∀ as bs : List D, as.length = bs.length → (List.zipWith (fun x y => D.tup [x, y]) as bs).all (fun d => match d with | .tup [a, b] => D.beq a b | _ => false) = D.beqs as bs
  | [], [], _ => by simp [D.beqs]
  | a :: as, b :: bs, h => by simp [D.beqs, beqs_zip as bs (by simpa using h)]
  | [], _ :: _, h => by simp at h
  | _ :: _, [], h => by simp at h
theorem beqs_len : ∀ as bs : List D, as.length ≠ bs.length → D.beqs as bs = false
  | [], [], h => absurd rfl h
  | a :: as, b :: bs, h => by rw [D.beqs, beqs_len as bs (by simpa using h)]; simp
  | [], _ :: _, _ => by simp [D.beqs]
  | _ :: _, [], _ => by simp [D.beqs]
theorem zip_mem : ∀ {as bs : List D} {d : D}, d ∈ List.zipWith (fun x y => D.tup [x, y]) as bs → ∃ a b, d = .tup [a, b] ∧ a ∈ as ∧ b ∈ bs
  | [], _, _, h => by simp at h
  | _ :: _, [], _, h => by simp at h
  | a :: as, b :: bs, d, h => by
    rw [List.zipWith_cons_cons] at h
    rcases List.mem_cons.mp h with rfl | h
    · exact ⟨a, b, rfl, by simp, by simp⟩
    · obtain ⟨x, y, e, hx, hy⟩ := zip_mem h
      exact ⟨x, y, e, by simp [hx], by simp [hy]⟩
theorem e_are_equal : ∀ (n : Nat) (x y : D) (S : Sto), dep x + 1 ≤ n → Vl x → Vl y → f_are_equal n [x, y] S = .ok (.bl (D.beq x y)) S := by
  intro n
  induction n with
  | zero => intro x y S hn; omega
  | succ k ih =>
    intro x y S hn hx hy
    refine eq_of_ok ?_
    unfold f_are_equal b_are_equal
    cases x with
    | int i =>
      cases y with
      | int j => walk_at "mx"; simp [D.beq, beq_dec]
      | str z => walk_at "mx"; simp [D.beq]
      | tup bs => walk_at "mx"; simp [D.beq]
      | _ => simp [Vl] at hy
    | str i =>
      cases y with
      | int j => walk_at "mx"; simp [D.beq]
      | str z => walk_at "mx"; simp [D.beq]
      | tup bs => walk_at "mx"; simp [D.beq]
      | _ => simp [Vl] at hy
    | tup as =>
      cases y with
      | int j => walk_at "mx"; simp [D.beq]
      | str z => walk_at "mx"; simp [D.beq]
      | tup bs =>
        rw [Vl] at hx hy
        rw [dep] at hn
        walk_at "mx"
        rw [D.beq]
        by_cases hl : (as.length : Int) = bs.length
        · have hl' : as.length = bs.length := by omega
          simp only [hl, decide_true, Bool.bne_true, Bool.not_false, if_true]
          rw [ok_eLc]
          simp only [wZip]
          walk_at "mx"
          simp only [Ok_bind, ok_aCons, ok_eVar, ok_aNil, List.getElem?_cons_zero, List.getElem?_cons_succ, Ok_ok]
          rw [lc_map (f := fun d => .bl (match d with | .tup [a, b] => D.beq a b | _ => false)) rfl _ _ (by rw [sizeLine_eq]; simp; omega) ?hm, Ok_ok]
          case hm =>
            intro d hd
            obtain ⟨a, b, rfl, ha, hb⟩ := zip_mem hd
            have := dep_mem ha
            walk_at "mx"
            refine ⟨trivial, eq_of_ok ?_⟩
            walk_at "mx"
            rw [ih a b S (by omega) (Vls_mem hx.2 ha) (Vls_mem hy.2 hb), Ok_ok]
            exact ⟨rfl, rfl⟩
          rw [List.nil_append, ok_all_map, beqs_zip as bs hl']
          exact ⟨rfl, rfl⟩
        · have hl' : as.length ≠ bs.length := by omega
          simp [hl, beqs_len as bs hl']
      | _ => simp [Vl] at hy
    | _ => simp [Vl] at hx
end K03

namespace K03
open PySem PySem.Spec PyProof.Rows L2 VL
local macro_rules | `(tactic| walk_at "mx") => `(tactic| simp only [ok_dDef, ok_sSeq, ok_sSet, ok_sRet, ok_sDrop, ok_sIf, ok_sNx, ok_sAsg, ok_eBin, ok_eUn, ok_eC, ok_eCall, ok_aCons, ok_aNil, ok_eTup, ok_eLst, ok_eLstM, ok_eAnd, ok_eOr, ok_eNot, ok_eIf, ok_eChain, ok_tTru, ok_tBl, ok_tAnd2, ok_tOr2, ok_tNot1, ok_eSl, ok_pNo, ok_pSo, ok_eVar, ok_gNm, ok_gIx, ok_truD_bl, ok_tYesD, ok_wAk, ok_eLcA, ok_eStar, ok_eM, ok_eGet2, ok_eDisp, ok_prsD_nil, ok_prsD_cons, ok_nwD_f, ok_nwD_t, ok_nwL_f, ok_nwL_t, ok_gCons2, ok_gNil2, ok_sPar2, ok_sMatch, ok_mCase, ok_mElse, ok_add_int, ok_sub_int, ok_ord_int, ok_neg_int, ok_abs_int, ok_intD_bl, ok_intD_int, ok_eq_int, ok_eq_str, ok_eq_bl, ok_len_tup, ok_len_lst, isSD, wkA, wkOf, wipeL, List.map_cons, List.map_nil, List.length_cons, List.length_nil, List.replicate_succ, List.replicate_zero, List.cons_append, List.nil_append, List.getElem?_cons_zero, List.getElem?_cons_succ, List.set_cons_zero, List.set_cons_succ, if_true, Bool.false_eq_true, if_false, Bool.not_true, Bool.not_false, ok_isi_tup, ok_isi_lst, ok_isi_int, ok_isi_str, ok_isi_bl, ok_isi_non, ok_isi_dic, ok_isNon, ok_isBl, isTg, D.isNon, ari0, ari1, ari2, ari3, ari4, ari5, Ok_ok, Nat.reduceSub, Nat.reduceAdd, ofs_inj, String.reduceEq, decide_true, decide_false, fbne, tbne, intB])
local macro_rules | `(tactic| walk_at "my") => `(tactic| try simp only [ok_dDef, ok_sSeq, ok_sSet, ok_sRet, ok_sDrop, ok_sIf, ok_sNx, ok_sAsg, ok_eBin, ok_eUn, ok_eC, ok_eCall, ok_aCons, ok_aNil, ok_eTup, ok_eLst, ok_eLstM, ok_eAnd, ok_eOr, ok_eNot, ok_eIf, ok_eChain, ok_tTru, ok_tBl, ok_tAnd2, ok_tOr2, ok_tNot1, ok_eSl, ok_pNo, ok_pSo, ok_eVar, ok_gNm, ok_gIx, ok_truD_bl, ok_tYesD, ok_wAk, ok_eLcA, ok_eStar, ok_eM, ok_eGet2, ok_eDisp, ok_prsD_nil, ok_prsD_cons, ok_nwD_f, ok_nwD_t, ok_nwL_f, ok_nwL_t, ok_gCons2, ok_gNil2, ok_sPar2, ok_sMatch, ok_mCase, ok_mElse, ok_add_int, ok_sub_int, ok_ord_int, ok_neg_int, ok_abs_int, ok_intD_bl, ok_intD_int, ok_eq_int, ok_eq_str, ok_eq_bl, ok_len_tup, ok_len_lst, isSD, wkA, wkOf, wipeL, List.map_cons, List.map_nil, List.length_cons, List.length_nil, List.replicate_succ, List.replicate_zero, List.cons_append, List.nil_append, List.getElem?_cons_zero, List.getElem?_cons_succ, List.set_cons_zero, List.set_cons_succ, if_true, Bool.false_eq_true, if_false, Bool.not_true, Bool.not_false, ok_isi_tup, ok_isi_lst, ok_isi_int, ok_isi_str, ok_isi_bl, ok_isi_non, ok_isi_dic, ok_isNon, ok_isBl, isTg, D.isNon, ari0, ari1, ari2, ari3, ari4, ari5, Ok_ok, Nat.reduceSub, Nat.reduceAdd, ofs_inj, String.reduceEq, decide_true, decide_false, fbne, tbne, intB])
/-! the value of an expression, as it is meant -/
inductive Res where
  | val (v : D)
  | fail (r : Str)
def binR (w : Str) (x y : D) : Res :=
  if w = "equal" then .val (.int (if D.beq x y = true then 1 else 0))
  else if w = "join" then (match x, y with
    | .str a, .str b => .val (.str (a ++ b))
    | .tup a, .tup b => .val (.tup (a ++ b))
    | _, _ => .fail "kind")
  else if w = "item" then (match x, y with
    | .tup ds, .int i => (match atI ds i with
      | some d => if 0 ≤ i then .val d else .fail "range"
      | none => .fail "range")
    | _, _ => .fail "kind")
  else match x, y with
    | .int i, .int j =>
      if w = "divide" then (if j = 0 then .fail "zero" else .val (.int (i.fdiv j)))
      else if w = "add" then .val (.int (i + j))
      else if w = "subtract" then .val (.int (i - j))
      else if w = "multiply" then .val (.int (i * j))
      else .val (.int (if i < j then 1 else 0))
    | _, _ => .fail "kind"
def combR (w : Str) (vals : List D) : Res :=
  if w = "list" then .val (.tup vals)
  else if w = "size" then (match vals with
    | [.str z] => .val (.int z.length)
    | [.tup ds] => .val (.int ds.length)
    | _ => .fail "kind")
  else match vals with
    | [x, y] => binR w x y
    | _ => .fail "kind"
def finR (w : Str) (vals : List D) : Res := match combR w vals with
  | .fail r => .fail r
  | .val v => if isVal v = true then .val v else .fail "size"
mutual
def ev (E : Str → Option D) : D → Res
  | .tup ds => evn E ds
  | _ => .fail "none"
def evn (E : Str → Option D) : List D → Res
  | [] => .fail "none"
  | w :: ts => match w with
    | .str w => if w = "value" then (match ts with
        | [v] => .val v
        | _ => .fail "none")
      else if w = "name" then (match ts with
        | [.str c] => (match E c with
          | some v => .val v
          | none => .fail "name")
        | _ => .fail "none")
      else (match evs E ts with
        | .error r => .fail r
        | .ok vals => finR w vals)
    | _ => .fail "none"
def evs (E : Str → Option D) : List D → Except Str (List D)
  | [] => .ok []
  | t :: ts => match ev E t with
    | .fail r => .error r
    | .val v => match evs E ts with
      | .error r => .error r
      | .ok vs => .ok (v :: vs)
end
def pairs : List Str := ["add", "subtract", "multiply", "divide", "less", "equal", "join", "item"]
def arity (w : Str) (n : Nat) : Prop := (w ∈ pairs ∧ n = 2) ∨ (w = "list" ∧ n ≤ 10) ∨ (w = "size" ∧ n = 1)
inductive Tm : Nat → D → Prop
  | val {n : Nat} {v : D} (h : isVal v = true) : Tm n (.tup [.str "value", v])
  | name {n : Nat} {c : Str} (h : nameB (.str c) = true) (hl : c.length ≤ 12) : Tm n (.tup [.str "name", .str c])
  | node {n : Nat} {w : Str} {ts : List D} (hw : arity w ts.length) (h : ∀ t ∈ ts, Tm n t) : Tm (n + 1) (.tup (.str w :: ts))
theorem arity_ne {w : Str} {n : Nat} (h : arity w n) : w ≠ "value" ∧ w ≠ "name" := by
  have h1 : ∀ w ∈ ("list" :: "size" :: pairs : List Str), w ≠ "value" ∧ w ≠ "name" := by decide +kernel
  refine h1 w ?_
  rcases h with ⟨h, _⟩ | ⟨rfl, _⟩ | ⟨rfl, _⟩
  · simp [h]
  · simp
  · simp
theorem arity_len {w : Str} {n : Nat} (h : arity w n) : n ≤ 10 := by
  rcases h with ⟨_, h⟩ | ⟨_, h⟩ | ⟨_, h⟩ <;> omega
def tagD (r : Res) : D := match r with
  | .val v => .tup [.str "value", v]
  | .fail r => .tup [.str "failed", .str r]
def tagL (r : Res) : D := match r with
  | .val v => .lst [.str "value", v]
  | .fail r => .lst [.str "failed", .str r]
theorem e_failed {n : Nat} {r : D} {S : Sto} (hn : 1 ≤ n) : f_failed n [r] S = .ok (.tup [.str "failed", r]) S := by
  obtain ⟨k, rfl⟩ : ∃ k, n = k + 1 := ⟨n - 1, by omega⟩
  refine eq_of_ok ?_
  unfold f_failed b_failed
  walk_at "mx"
  simp [sizeLine_eq]
theorem fdiv_ok {i j : Int} {S : Sto} {Q : D → Sto → Prop} (h : j ≠ 0) (hb : -MXI < j) (hb2 : j < MXI) : Ok (fdiv2D (.int i) (.int j) S) Q = Q (.int (i.fdiv j)) S := by
  have h3 : j.natAbs.log2 < 9000 := by
    have h0 : j.natAbs ≠ 0 := by omega
    have := (Nat.log2_lt (k := 256) h0).mpr (by unfold MXI at hb hb2; have : (2 : Nat) ^ 256 = 115792089237316195423570985008687907853269984665640564039457584007913129639936 := by decide
                                                omega)
    omega
  unfold fdiv2D
  simp only
  rw [if_pos ⟨h, h3⟩, Ok_ok]
theorem mulV_ok {i j : Int} {S : Sto} {Q : D → Sto → Prop} (hi : -MXI < i) (hi2 : i < MXI) (hb : -MXI < j) (hb2 : j < MXI) : Ok (mul2D (.int i) (.int j) S) Q = Q (.int (i * j)) S := by
  have p : (2 : Nat) ^ 256 = 115792089237316195423570985008687907853269984665640564039457584007913129639936 := by decide
  unfold MXI at *
  exact ok_mul (m := 256) (n := 256) (bits_le (by rw [p]; omega)) (bits_le (by rw [p]; omega)) (by decide)
theorem isVal_int {i : Int} (h : isVal (.int i) = true) : -MXI < i ∧ i < MXI := by
  unfold isVal at h
  rw [wl_int] at h
  simp only [Bool.and_eq_true, decide_eq_true_eq] at h
  exact h.1
theorem e_numeric {n : Nat} {w : Str} {x y : D} {S : Sto} (hn : 2 ≤ n) (hw : w = "divide" ∨ w = "add" ∨ w = "subtract" ∨ w = "multiply" ∨ w = "less") (hx : isVal x = true) (hy : isVal y = true) : f_numeric_result n [.str w, x, y] S = .ok (tagD (binR w x y)) S := by
  obtain ⟨k, rfl⟩ : ∃ k, n = k + 1 := ⟨n - 1, by omega⟩
  have vx := (isVal_Vl hx).1
  have vy := (isVal_Vl hy).1
  have z2 : (2 : Nat) ≤ sizeLine := by rw [sizeLine_eq]; omega
  refine eq_of_ok ?_
  unfold f_numeric_result b_numeric_result
  walk_at "mx"
  rw [e_is_integer (by omega) vx.all.2.1, Ok_ok]
  by_cases hi : (∃ i, x = .int i) ∧ ∃ j, y = .int j
  · obtain ⟨⟨i, rfl⟩, ⟨j, rfl⟩⟩ := hi
    have bi := isVal_int hx
    have bj := isVal_int hy
    walk_at "mx"
    rw [e_is_integer (by omega) vy.all.2.1, Ok_ok]
    rcases hw with rfl | rfl | rfl | rfl | rfl
    · walk_at "mx"
      by_cases h0 : j = 0
      · subst h0
        walk_at "mx"
        rw [e_failed (by omega), Ok_ok]
        simp (decide := true) only [tagD, binR, if_true, if_false, and_self]
      · simp only [h0]
        walk_at "mx"
        rw [fdiv_ok h0 bj.1 bj.2]
        simp (decide := true) [tagD, binR, z2, h0]
    · walk_at "mx"
      simp (decide := true) [tagD, binR, z2]
    · walk_at "mx"
      simp (decide := true) [tagD, binR, z2]
    · walk_at "mx"
      rw [mulV_ok bi.1 bi.2 bj.1 bj.2]
      simp (decide := true) [tagD, binR, z2]
    · walk_at "mx"
      simp (decide := true) [tagD, binR, z2]
  · have hb : binR w x y = .fail "kind" := by
      rcases hw with rfl | rfl | rfl | rfl | rfl <;> (simp (decide := true) only [binR, if_false]; split <;> first | rfl | exact absurd ⟨⟨_, rfl⟩, ⟨_, rfl⟩⟩ hi)
    rw [hb]
    have hc : ∀ c, Ok (f_failed k [.str "kind"] S) c = c (.tup [.str "failed", .str "kind"]) S := fun c => by rw [e_failed (by omega), Ok_ok]
    cases x with
    | int i =>
      walk_at "mx"
      rw [e_is_integer (by omega) vy.all.2.1, Ok_ok]
      cases y with
      | int j => exact absurd ⟨⟨_, rfl⟩, ⟨_, rfl⟩⟩ hi
      | _ => walk_at "mx"; rw [hc]; exact ⟨rfl, rfl⟩
    | _ => walk_at "mx"; rw [hc]; exact ⟨rfl, rfl⟩
theorem e_joined {n : Nat} {x y : D} {S : Sto} (hn : 3 ≤ n) (hx : isVal x = true) (hy : isVal y = true) : f_joined n [x, y] S = .ok (tagD (binR "join" x y)) S := by
  obtain ⟨k, rfl⟩ : ∃ k, n = k + 1 := ⟨n - 1, by omega⟩
  have vx := (isVal_Vl hx).1
  have vy := (isVal_Vl hy).1
  have z2 : (2 : Nat) ≤ sizeLine := by rw [sizeLine_eq]; omega
  refine eq_of_ok ?_
  unfold f_joined b_joined
  walk_at "mx"
  rw [e_is_text (by omega) vx.all.2.1, Ok_ok]
  have hs : ∀ {z : Str}, isVal (.str z) = true → txtB (.str z) = true := fun {z} h => by
    unfold isVal at h
    rw [wl_str] at h
    simp only [Bool.and_eq_true] at h
    exact h.1
  have hc : ∀ c, Ok (f_failed k [.str "kind"] S) c = c (.tup [.str "failed", .str "kind"]) S := fun c => by rw [e_failed (by omega), Ok_ok]
  cases x with
  | str a =>
    rw [hs hx]
    walk_at "mx"
    rw [e_is_text (by omega) vy.all.2.1, Ok_ok]
    cases y with
    | str b =>
      rw [hs hy]
      walk_at "mx"
      rw [Vl] at vx vy
      have : a.length + b.length ≤ sizeLine := by rw [sizeLine_eq]; omega
      simp (decide := true) [addD, this, Ok_ok, tagD, binR, z2]
    | int j => simp only [txtB]; walk_at "mx"; rw [hc]; simp (decide := true) [tagD, binR]
    | tup j => simp only [txtB]; walk_at "mx"; rw [hc]; simp (decide := true) [tagD, binR]
    | _ => simp [Vl] at vy
  | int i => simp only [txtB]; walk_at "mx"; rw [hc]; cases y <;> simp (decide := true) [tagD, binR]
  | tup a =>
    simp only [txtB]
    walk_at "mx"
    cases y with
    | str b => walk_at "mx"; rw [hc]; simp (decide := true) [tagD, binR]
    | int j => walk_at "mx"; rw [hc]; simp (decide := true) [tagD, binR]
    | tup b =>
      walk_at "mx"
      rw [Vl] at vx vy
      have : a.length + b.length ≤ sizeLine := by rw [sizeLine_eq]; omega
      simp (decide := true) [addD, this, Ok_ok, tagD, binR, z2]
    | _ => simp [Vl] at vy
  | _ => simp [Vl] at vx
theorem ix_ok {ds : List D} {i : Int} {S : Sto} {Q : D → Sto → Prop} {d : D} (h : atI ds i = some d) : Ok (ix2D (.tup ds) (.int i) S) Q = Q d S := ok_ix_tup h
theorem atI_in {ds : List D} {i : Int} (h0 : 0 ≤ i) (h1 : i < ds.length) : ∃ d ∈ ds, atI ds i = some d := by
  obtain ⟨j, rfl⟩ := Int.eq_ofNat_of_zero_le h0
  have hj : j < ds.length := by omega
  exact ⟨ds[j], List.getElem_mem hj, atI_nat (List.getElem?_eq_getElem hj)⟩
theorem atI_out {ds : List D} {i : Int} (h : ¬ (i < ds.length)) (h0 : 0 ≤ i) : atI ds i = none := by
  simp [atI, ixN, h0, h]
theorem e_item_of {n : Nat} {x y : D} {S : Sto} (hn : 3 ≤ n) (hx : isVal x = true) (hy : isVal y = true) : f_item_of n [x, y] S = .ok (tagD (binR "item" x y)) S := by
  obtain ⟨k, rfl⟩ : ∃ k, n = k + 1 := ⟨n - 1, by omega⟩
  have vx := (isVal_Vl hx).1
  have vy := (isVal_Vl hy).1
  have z2 : (2 : Nat) ≤ sizeLine := by rw [sizeLine_eq]; omega
  refine eq_of_ok ?_
  unfold f_item_of b_item_of
  have hc : ∀ r c, Ok (f_failed k [.str r] S) c = c (.tup [.str "failed", .str r]) S := fun r c => by rw [e_failed (by omega), Ok_ok]
  cases x with
  | tup ds =>
    walk_at "mx"
    rw [e_is_integer (by omega) vy.all.2.1, Ok_ok]
    cases y with
    | int i =>
      walk_at "mx"
      by_cases h0 : 0 ≤ i
      · simp only [h0]
        walk_at "mx"
        by_cases h1 : i < (ds.length : Int)
        · obtain ⟨d, hd, e⟩ := atI_in h0 h1
          simp only [h1]
          walk_at "mx"
          rw [ix_ok e]
          simp (decide := true) [tagD, binR, z2, e, h0]
        · simp only [h1]
          walk_at "mx"
          rw [hc]
          simp (decide := true) [tagD, binR, z2, atI_out h1 h0]
      · simp only [h0]
        walk_at "mx"
        rw [hc]
        simp (decide := true) only [tagD, binR, z2, h0, if_true, if_false, and_true]
        generalize atI ds i = o
        cases o <;> rfl
    | str j => walk_at "mx"; rw [hc]; simp (decide := true) [tagD, binR]
    | tup j => walk_at "mx"; rw [hc]; simp (decide := true) [tagD, binR]
    | _ => simp [Vl] at vy
  | int i => walk_at "mx"; rw [hc]; cases y <;> simp (decide := true) [tagD, binR]
  | str i => walk_at "mx"; rw [hc]; cases y <;> simp (decide := true) [tagD, binR]
  | _ => simp [Vl] at vx
end K03

namespace K03
open PySem PySem.Spec PyProof.Rows L2 VL
local macro_rules | `(tactic| walk_at "mx") => `(tactic| simp only [ok_dDef, ok_sSeq, ok_sSet, ok_sRet, ok_sDrop, ok_sIf, ok_sNx, ok_sAsg, ok_eBin, ok_eUn, ok_eC, ok_eCall, ok_aCons, ok_aNil, ok_eTup, ok_eLst, ok_eLstM, ok_eAnd, ok_eOr, ok_eNot, ok_eIf, ok_eChain, ok_tTru, ok_tBl, ok_tAnd2, ok_tOr2, ok_tNot1, ok_eSl, ok_pNo, ok_pSo, ok_eVar, ok_gNm, ok_gIx, ok_truD_bl, ok_tYesD, ok_wAk, ok_eLcA, ok_eStar, ok_eM, ok_eGet2, ok_eDisp, ok_prsD_nil, ok_prsD_cons, ok_nwD_f, ok_nwD_t, ok_nwL_f, ok_nwL_t, ok_gCons2, ok_gNil2, ok_sPar2, ok_sMatch, ok_mCase, ok_mElse, ok_add_int, ok_sub_int, ok_ord_int, ok_neg_int, ok_abs_int, ok_intD_bl, ok_intD_int, ok_eq_int, ok_eq_str, ok_eq_bl, ok_len_tup, ok_len_lst, isSD, wkA, wkOf, wipeL, List.map_cons, List.map_nil, List.length_cons, List.length_nil, List.replicate_succ, List.replicate_zero, List.cons_append, List.nil_append, List.getElem?_cons_zero, List.getElem?_cons_succ, List.set_cons_zero, List.set_cons_succ, if_true, Bool.false_eq_true, if_false, Bool.not_true, Bool.not_false, ok_isi_tup, ok_isi_lst, ok_isi_int, ok_isi_str, ok_isi_bl, ok_isi_non, ok_isi_dic, ok_isNon, ok_isBl, isTg, D.isNon, ari0, ari1, ari2, ari3, ari4, ari5, Ok_ok, Nat.reduceSub, Nat.reduceAdd, ofs_inj, String.reduceEq, decide_true, decide_false, fbne, tbne, intB])
local macro_rules | `(tactic| walk_at "my") => `(tactic| try simp only [ok_dDef, ok_sSeq, ok_sSet, ok_sRet, ok_sDrop, ok_sIf, ok_sNx, ok_sAsg, ok_eBin, ok_eUn, ok_eC, ok_eCall, ok_aCons, ok_aNil, ok_eTup, ok_eLst, ok_eLstM, ok_eAnd, ok_eOr, ok_eNot, ok_eIf, ok_eChain, ok_tTru, ok_tBl, ok_tAnd2, ok_tOr2, ok_tNot1, ok_eSl, ok_pNo, ok_pSo, ok_eVar, ok_gNm, ok_gIx, ok_truD_bl, ok_tYesD, ok_wAk, ok_eLcA, ok_eStar, ok_eM, ok_eGet2, ok_eDisp, ok_prsD_nil, ok_prsD_cons, ok_nwD_f, ok_nwD_t, ok_nwL_f, ok_nwL_t, ok_gCons2, ok_gNil2, ok_sPar2, ok_sMatch, ok_mCase, ok_mElse, ok_add_int, ok_sub_int, ok_ord_int, ok_neg_int, ok_abs_int, ok_intD_bl, ok_intD_int, ok_eq_int, ok_eq_str, ok_eq_bl, ok_len_tup, ok_len_lst, isSD, wkA, wkOf, wipeL, List.map_cons, List.map_nil, List.length_cons, List.length_nil, List.replicate_succ, List.replicate_zero, List.cons_append, List.nil_append, List.getElem?_cons_zero, List.getElem?_cons_succ, List.set_cons_zero, List.set_cons_succ, if_true, Bool.false_eq_true, if_false, Bool.not_true, Bool.not_false, ok_isi_tup, ok_isi_lst, ok_isi_int, ok_isi_str, ok_isi_bl, ok_isi_non, ok_isi_dic, ok_isNon, ok_isBl, isTg, D.isNon, ari0, ari1, ari2, ari3, ari4, ari5, Ok_ok, Nat.reduceSub, Nat.reduceAdd, ofs_inj, String.reduceEq, decide_true, decide_false, fbne, tbne, intB])
theorem lst_ix0 {v : D} {r : List D} {S : Sto} {Q : D → Sto → Prop} {n : Nat} (e : S[n]? = some (.lst (v :: r))) : Ok (ix2D (.ref n) (.int 0) S) Q = Q v S := ok_ix_ref e (by simp [atI, ixN])
theorem e_combined {n : Nat} {w : Str} {vals : List D} {S : Sto} {j : Nat} (hn : 8 ≤ n) (hw : arity w vals.length) (hv : ∀ v ∈ vals, isVal v = true) (e : S[j]? = some (.lst vals)) : f_combined n [.str w, .ref j] S = .ok (tagD (combR w vals)) S := by
  obtain ⟨k, rfl⟩ : ∃ k, n = k + 1 := ⟨n - 1, by omega⟩
  have z2 : (2 : Nat) ≤ sizeLine := by rw [sizeLine_eq]; omega
  refine eq_of_ok ?_
  unfold f_combined b_combined
  rcases hw with ⟨hw, hl⟩ | ⟨rfl, hl⟩ | ⟨rfl, hl⟩
  · obtain ⟨x, y, rfl⟩ : ∃ x y, vals = [x, y] := by
      rcases vals with _ | ⟨x, _ | ⟨y, _ | ⟨z, r⟩⟩⟩ <;> simp at hl
      exact ⟨x, y, rfl⟩
    have hx := hv x (by simp)
    have hy := hv y (by simp)
    have dx := (isVal_Vl hx).2
    have num : ∀ {Q : D → Sto → Prop}, (w = "divide" ∨ w = "add" ∨ w = "subtract" ∨ w = "multiply" ∨ w = "less") → Ok (f_numeric_result k [.str w, x, y] S) Q = Q (tagD (binR w x y)) S := fun h => by rw [e_numeric (by omega) h hx hy, Ok_ok]
    unfold pairs at hw
    simp only [List.mem_cons, List.not_mem_nil, or_false] at hw
    rcases hw with rfl | rfl | rfl | rfl | rfl | rfl | rfl | rfl
    all_goals
      walk_at "mx"
      rw [ok_gTp2r (n := 2) e rfl]
      walk_at "mx"
    · rw [num (by simp)]; simp (decide := true) [combR]
    · rw [num (by simp)]; simp (decide := true) [combR]
    · rw [num (by simp)]; simp (decide := true) [combR]
    · rw [num (by simp)]; simp (decide := true) [combR]
    · rw [num (by simp)]; simp (decide := true) [combR]
    · rw [e_are_equal k x y S (by omega) (isVal_Vl hx).1 (isVal_Vl hy).1]
      walk_at "mx"
      simp (decide := true) [combR, tagD, binR, z2]
    · rw [e_joined (by omega) hx hy]; simp (decide := true) [combR, Ok_ok]
    · rw [e_item_of (by omega) hx hy]; simp (decide := true) [combR, Ok_ok]
  · walk_at "mx"
    simp (decide := true) [tupleD, lst_at e, Ok_ok, z2, combR, tagD]
  · obtain ⟨x, rfl⟩ : ∃ x, vals = [x] := by
      rcases vals with _ | ⟨x, _ | ⟨y, r⟩⟩ <;> simp at hl
      exact ⟨x, rfl⟩
    have hx := hv x (by simp)
    have vx := (isVal_Vl hx).1
    walk_at "mx"
    rw [lst_ix0 e, e_is_integer (by omega) vx.all.2.1, Ok_ok]
    cases x with
    | int i => walk_at "mx"; rw [e_failed (by omega)]; simp (decide := true) [combR, tagD, Ok_ok]
    | str z =>
      walk_at "mx"
      rw [lst_ix0 e, ok_len_str (by rw [Vl] at vx; rw [sizeLine_eq]; omega)]
      simp (decide := true) [combR, tagD, z2]
    | tup ds =>
      walk_at "mx"
      rw [lst_ix0 e]
      walk_at "mx"
      simp (decide := true) [combR, tagD, z2]
    | _ => simp [Vl] at vx
/-- the first n things are as they were -/
def Same (n : Nat) (S S' : Sto) : Prop := S.length ≤ S'.length ∧ ∀ m, m < n → S'[m]? = S[m]?
theorem Same.refl {n : Nat} {S : Sto} : Same n S S := ⟨Nat.le_refl _, fun _ _ => rfl⟩
theorem Same.trans {n m : Nat} {S S1 S2 : Sto} (a : Same n S S1) (b : Same m S1 S2) (h : n ≤ m) : Same n S S2 := ⟨Nat.le_trans a.1 b.1, fun i hi => (b.2 i (by omega)).trans (a.2 i hi)⟩
theorem Same.le {n m : Nat} {S S' : Sto} (a : Same n S S') (h : m ≤ n) : Same m S S' := ⟨a.1, fun i hi => a.2 i (by omega)⟩
theorem Same.add {n : Nat} {S : Sto} (t : Sto) (h : n ≤ S.length) : Same n S (S ++ t) := ⟨by simp, fun i hi => List.getElem?_append_left (by omega)⟩
theorem Same.set {n m : Nat} {S : Sto} {o : Ob} (h : n ≤ m) : Same n S (S.set m o) := ⟨by simp, fun i hi => List.getElem?_set_ne (by omega)⟩
theorem Same.get {n m : Nat} {S S' : Sto} {o : Ob} (a : Same n S S') (h : m < n) (e : S[m]? = some o) : S'[m]? = some o := by rw [a.2 m h]; exact e
def envOf (ks : List Key) (vs : List D) (c : Str) : Option D := lookK ks vs (.inr c)
structure EnvOk (ks : List Key) (vs : List D) : Prop where
  vals : ∀ c v, envOf ks vs c = some v → isVal v = true
theorem evs_len {E : Str → Option D} : ∀ {ts vs : List D}, evs E ts = .ok vs → vs.length = ts.length
  | [], vs, h => by rw [evs] at h; cases h; rfl
  | t :: ts, vs, h => by
    rw [evs] at h
    split at h
    · cases h
    · split at h
      · cases h
      · rename_i e; cases h; simp [evs_len e]
theorem fin_val {w : Str} {vals : List D} {v : D} (h : finR w vals = .val v) : isVal v = true := by
  unfold finR at h
  split at h
  · cases h
  · split at h
    · cases h; assumption
    · cases h
theorem ev_node {E : Str → Option D} {w : Str} {ts : List D} {n : Nat} (hw : arity w n) : ev E (.tup (.str w :: ts)) = match evs E ts with
    | .error r => .fail r
    | .ok vals => finR w vals := by
  obtain ⟨h1, h2⟩ := arity_ne hw
  rw [ev]
  unfold evn
  simp only [h1, h2, if_false]
  try (cases evs E ts <;> rfl)
theorem ev_value {E : Str → Option D} {v : D} : ev E (.tup [.str "value", v]) = .val v := by
  rw [ev]
  unfold evn
  simp (decide := true) only [if_true]
theorem ev_name {E : Str → Option D} {c : Str} : ev E (.tup [.str "name", .str c]) = match E c with
    | some v => .val v
    | none => .fail "name" := by
  rw [ev]
  unfold evn
  simp (decide := true) only [if_true, if_false]
  try rfl
theorem ev_val {E : Str → Option D} (hE : ∀ c v, E c = some v → isVal v = true) {n : Nat} {t : D} (ht : Tm n t) {v : D} (h : ev E t = .val v) : isVal v = true := by
  cases ht with
  | val hv => rw [ev_value] at h; cases h; exact hv
  | @name _ c hc hl =>
    rw [ev_name] at h
    split at h
    · cases h; rename_i e; exact hE _ _ e
    · cases h
  | @node _ w ts hw hs =>
    rw [ev_node hw] at h
    split at h
    · cases h
    · exact fin_val h
theorem evs_val {E : Str → Option D} (hE : ∀ c v, E c = some v → isVal v = true) {n : Nat} : ∀ {ts vs : List D}, (∀ t ∈ ts, Tm n t) → evs E ts = .ok vs → ∀ v ∈ vs, isVal v = true
  | [], vs, _, h => by rw [evs] at h; cases h; simp
  | t :: ts, vs, ht, h => by
    rw [evs] at h
    split at h
    · cases h
    · rename_i v e
      split at h
      · cases h
      · rename_i us e2
        cases h
        intro x hx
        rcases List.mem_cons.mp hx with rfl | hx
        · exact ev_val hE (ht t (by simp)) e
        · exact evs_val hE (fun t ht' => ht t (by simp [ht'])) e2 x hx
end K03

namespace K03
open PySem PySem.Spec PyProof.Rows L2 VL
local macro_rules | `(tactic| walk_at "mx") => `(tactic| simp only [ok_dDef, ok_sSeq, ok_sSet, ok_sRet, ok_sDrop, ok_sIf, ok_sNx, ok_sAsg, ok_eBin, ok_eUn, ok_eC, ok_eCall, ok_aCons, ok_aNil, ok_eTup, ok_eLst, ok_eLstM, ok_eAnd, ok_eOr, ok_eNot, ok_eIf, ok_eChain, ok_tTru, ok_tBl, ok_tAnd2, ok_tOr2, ok_tNot1, ok_eSl, ok_pNo, ok_pSo, ok_eVar, ok_gNm, ok_gIx, ok_truD_bl, ok_tYesD, ok_wAk, ok_eLcA, ok_eStar, ok_eM, ok_eGet2, ok_eDisp, ok_prsD_nil, ok_prsD_cons, ok_nwD_f, ok_nwD_t, ok_nwL_f, ok_nwL_t, ok_gCons2, ok_gNil2, ok_sPar2, ok_sMatch, ok_mCase, ok_mElse, ok_add_int, ok_sub_int, ok_ord_int, ok_neg_int, ok_abs_int, ok_intD_bl, ok_intD_int, ok_eq_int, ok_eq_str, ok_eq_bl, ok_len_tup, ok_len_lst, isSD, wkA, wkOf, wipeL, List.map_cons, List.map_nil, List.length_cons, List.length_nil, List.replicate_succ, List.replicate_zero, List.cons_append, List.nil_append, List.getElem?_cons_zero, List.getElem?_cons_succ, List.set_cons_zero, List.set_cons_succ, if_true, Bool.false_eq_true, if_false, Bool.not_true, Bool.not_false, ok_isi_tup, ok_isi_lst, ok_isi_int, ok_isi_str, ok_isi_bl, ok_isi_non, ok_isi_dic, ok_isNon, ok_isBl, isTg, D.isNon, ari0, ari1, ari2, ari3, ari4, ari5, Ok_ok, Nat.reduceSub, Nat.reduceAdd, ofs_inj, String.reduceEq, decide_true, decide_false, fbne, tbne, intB])
local macro_rules | `(tactic| walk_at "my") => `(tactic| try simp only [ok_dDef, ok_sSeq, ok_sSet, ok_sRet, ok_sDrop, ok_sIf, ok_sNx, ok_sAsg, ok_eBin, ok_eUn, ok_eC, ok_eCall, ok_aCons, ok_aNil, ok_eTup, ok_eLst, ok_eLstM, ok_eAnd, ok_eOr, ok_eNot, ok_eIf, ok_eChain, ok_tTru, ok_tBl, ok_tAnd2, ok_tOr2, ok_tNot1, ok_eSl, ok_pNo, ok_pSo, ok_eVar, ok_gNm, ok_gIx, ok_truD_bl, ok_tYesD, ok_wAk, ok_eLcA, ok_eStar, ok_eM, ok_eGet2, ok_eDisp, ok_prsD_nil, ok_prsD_cons, ok_nwD_f, ok_nwD_t, ok_nwL_f, ok_nwL_t, ok_gCons2, ok_gNil2, ok_sPar2, ok_sMatch, ok_mCase, ok_mElse, ok_add_int, ok_sub_int, ok_ord_int, ok_neg_int, ok_abs_int, ok_intD_bl, ok_intD_int, ok_eq_int, ok_eq_str, ok_eq_bl, ok_len_tup, ok_len_lst, isSD, wkA, wkOf, wipeL, List.map_cons, List.map_nil, List.length_cons, List.length_nil, List.replicate_succ, List.replicate_zero, List.cons_append, List.nil_append, List.getElem?_cons_zero, List.getElem?_cons_succ, List.set_cons_zero, List.set_cons_succ, if_true, Bool.false_eq_true, if_false, Bool.not_true, Bool.not_false, ok_isi_tup, ok_isi_lst, ok_isi_int, ok_isi_str, ok_isi_bl, ok_isi_non, ok_isi_dic, ok_isNon, ok_isBl, isTg, D.isNon, ari0, ari1, ari2, ari3, ari4, ari5, Ok_ok, Nat.reduceSub, Nat.reduceAdd, ofs_inj, String.reduceEq, decide_true, decide_false, fbne, tbne, intB])
theorem ix0_tag {r : Res} {S : Sto} {Q : D → Sto → Prop} : Ok (ix2D (tagD r) (.int 0) S) Q = Q (match r with | .val _ => .str "value" | .fail _ => .str "failed") S := by
  cases r <;> exact ok_ix_tup rfl
theorem ix1_tag {r : Res} {S : Sto} {Q : D → Sto → Prop} : Ok (ix2D (tagD r) (.int 1) S) Q = Q (match r with | .val v => v | .fail r => .str r) S := by
  cases r <;> exact ok_ix_tup rfl
theorem app_ok {S : Sto} {j : Nat} {xs : List D} {y : D} {Q : D → Sto → Prop} (e : S[j]? = some (.lst xs)) (h : xs.length < sizeLine) : Ok (appD (.ref j) [y] S) Q = Q .non (S.set j (.lst (xs ++ [y]))) := by
  simp only [appD, e, if_pos h, Ok_ok]
theorem isLst_ref {S : Sto} {j : Nat} {xs : List D} (e : S[j]? = some (.lst xs)) : isLst (.ref j) S = true := by
  simp only [isLst, e]
theorem str_app_len (a b : Str) : (a ++ b).length = a.length + b.length := by
  show (a.cps ++ b.cps).size = _
  rw [Array.size_append]
  rfl
theorem str_app_cps (a b : Str) : (a ++ b).cps.toList = a.cps.toList ++ b.cps.toList := by
  show (a.cps ++ b.cps).toList = _
  simp
theorem isVal_tup {ds : List D} (h : isVal (.tup ds) = true) : ds.length ≤ 50 := by
  unfold isVal at h
  rw [wl_tup] at h
  simp only [Bool.and_eq_true, decide_eq_true_eq] at h
  exact h.1.1
theorem isVal_str {z : Str} (h : isVal (.str z) = true) : z.length ≤ 60 := by
  unfold isVal at h
  rw [wl_str] at h
  unfold wordB at h
  simp only [Bool.and_eq_true, decide_eq_true_eq] at h
  omega
theorem comb_Vl {w : Str} {vals : List D} {v : D} (hw : arity w vals.length) (hv : ∀ v ∈ vals, isVal v = true) (h : combR w vals = .val v) : Vl v ∧ dep v ≤ 6 := by
  have hi : ∀ i : Int, Vl (.int i) ∧ dep (.int i) ≤ 6 := fun i => by simp [Vl, dep]
  have hV : ∀ {v : D}, isVal v = true → Vl v ∧ dep v ≤ 6 := fun h => ⟨(isVal_Vl h).1, by have := (isVal_Vl h).2; omega⟩
  unfold combR at h
  have hlen := arity_len hw
  split at h
  · cases h
    rw [Vl, dep]
    have := deps_le fun d hd => (isVal_Vl (hv d hd)).2
    exact ⟨⟨by omega, Vls_of fun d hd => (isVal_Vl (hv d hd)).1⟩, by omega⟩
  · split at h
    · split at h
      · cases h; exact hi _
      · cases h; exact hi _
      · cases h
    · split at h
      · rename_i x y
        have hx := hv x (by simp)
        have hy := hv y (by simp)
        unfold binR at h
        split at h
        · cases h; exact hi _
        · split at h
          · split at h
            · cases h
              have vx := (isVal_Vl hx).1
              have vy := (isVal_Vl hy).1
              rename_i a b
              rw [Vl] at vx vy ⊢
              have := isVal_str hx
              have := isVal_str hy
              refine ⟨⟨by rw [str_app_len]; omega, fun c hc => ?_⟩, by simp [dep]⟩
              rw [str_app_cps] at hc
              rcases List.mem_append.mp hc with hc | hc
              · exact vx.2 c hc
              · exact vy.2 c hc
            · cases h
              rename_i a b
              have vx := isVal_Vl hx
              have vy := isVal_Vl hy
              have := isVal_tup hx
              have := isVal_tup hy
              rw [Vl, dep] at vx vy ⊢
              have hd : deps (a ++ b) ≤ 4 := deps_le fun d hd => by
                rcases List.mem_append.mp hd with hd | hd
                · have := dep_mem hd; omega
                · have := dep_mem hd; omega
              refine ⟨⟨by simp; omega, Vls_of fun d hd => ?_⟩, by omega⟩
              rcases List.mem_append.mp hd with hd | hd
              · exact Vls_mem vx.1.2 hd
              · exact Vls_mem vy.1.2 hd
            · cases h
          · split at h
            · split at h
              · rename_i ds i
                split at h
                · rename_i d e
                  split at h
                  · cases h
                    have vx := isVal_Vl hx
                    rw [Vl, dep] at vx
                    have hm : v ∈ ds := by
                      unfold atI at e
                      cases hj : ixN ds.length i with
                      | none => rw [hj] at e; cases e
                      | some j => rw [hj] at e; exact List.mem_of_getElem? e
                    have := dep_mem hm
                    exact ⟨Vls_mem vx.1.2 hm, by omega⟩
                  · cases h
                · cases h
              · cases h
            · split at h
              · split at h
                · split at h
                  · cases h
                  · cases h; exact hi _
                · split at h
                  · cases h; exact hi _
                  · split at h
                    · cases h; exact hi _
                    · split at h
                      · cases h; exact hi _
                      · cases h; exact hi _
              · cases h
      · cases h
theorem loop_res {ks : List Key} {vs : List D} {k i j : Nat} {a0 a2 a3 : Option D} (hij : i < j) : ∀ (ts acc : List D) (S : Sto) (x5 x6 : Option D), acc.length + ts.length ≤ 100 →
    (∀ t ∈ ts, ∀ S : Sto, S[i]? = some (.dic ks vs) → Ok (f_result_of k [t, .ref i] S) fun d S' => d = tagD (ev (envOf ks vs) t) ∧ Same S.length S S') →
    S[i]? = some (.dic ks vs) → S[j]? = some (.lst acc) →
    Ok (forL (fun _ => true) (gNm 5) (sSeq (sSet 6 (eCall (ari 2 (f_result_of k)) (aCons (eVar 5) (aCons (eVar 1) aNil))))
  (sSeq (sIf (tBl (eBin (eqD false) (eBin ix2D (eVar 6) (eC (.int 0))) (eC (.str "failed"))))
    (sRet (eVar 6))
    sNx)
  (sDrop (eM isLst appD (eVar 4) (aCons (eBin ix2D (eVar 6) (eC (.int 1))) aNil))))) ts [a0, some (.ref i), a2, a3, some (.ref j), x5, x6] S) fun f S' => Same j S S' ∧ match evs (envOf ks vs) ts with
      | .error r => f = .rt (tagD (.fail r))
      | .ok vals => (∃ y5 y6, f = .nx [a0, some (.ref i), a2, a3, some (.ref j), y5, y6]) ∧ S'[j]? = some (.lst (acc ++ vals))
  | [], acc, S, x5, x6, hl, hf, ei, ej => by
    unfold forL
    rw [if_pos rfl, Ok_ok]
    simp only [evs]
    exact ⟨.refl, ⟨x5, x6, rfl⟩, by simpa using ej⟩
  | t :: ts, acc, S, x5, x6, hl, hf, ei, ej => by
    unfold forL
    rw [if_pos rfl, Ok_bind]
    have hj := (List.getElem?_eq_some_iff.mp ej).1
    walk_at "my"
    rw [Ok_bind]
    walk_at "my"
    refine (hf t (by simp) S ei).mono fun d S1 hd => ?_
    obtain ⟨rfl, sm⟩ := hd
    have ej1 := sm.get hj ej
    have ei1 := sm.get (by omega) ei
    walk_at "my"
    rw [ix0_tag]
    simp only [evs]
    cases hr : ev (envOf ks vs) t with
    | fail r =>
      walk_at "my"
      exact ⟨sm.le (by omega), trivial⟩
    | val v =>
      walk_at "my"
      simp only [isLst_ref ej1]
      walk_at "my"
      rw [ix1_tag]
      simp only
      simp only [List.length_cons] at hl
      rw [app_ok ej1 (by rw [sizeLine_eq]; omega)]
      try simp only
      have ej2 : (S1.set j (.lst (acc ++ [v])))[j]? = some (.lst (acc ++ [v])) := List.getElem?_set_self (List.getElem?_eq_some_iff.mp ej1).1
      have ei2 : (S1.set j (.lst (acc ++ [v])))[i]? = some (.dic ks vs) := by rw [List.getElem?_set_ne (by omega)]; exact ei1
      refine (loop_res (k := k) hij ts (acc ++ [v]) _ _ _ (by simp; omega) (fun t' ht' => hf t' (by simp [ht'])) ei2 ej2).mono fun f S3 h3 => ?_
      obtain ⟨s3, h3⟩ := h3
      have sj : Same j S S3 := (sm.le (by omega)).trans (Same.trans (Same.set (Nat.le_refl j)) s3 (Nat.le_refl j)) (Nat.le_refl j)
      refine ⟨sj, ?_⟩
      cases he : evs (envOf ks vs) ts with
      | error r => rw [he] at h3; exact h3
      | ok vals =>
        rw [he] at h3
        exact ⟨h3.1, by rw [h3.2]; simp⟩
theorem e_result_of {ks : List Key} {vs : List D} (hE : EnvOk ks vs) : ∀ (m n : Nat) (t : D) (S : Sto) (i : Nat), Tm m t → m + 12 ≤ n → S[i]? = some (.dic ks vs) → Ok (f_result_of n [t, .ref i] S) fun d S' => d = tagD (ev (envOf ks vs) t) ∧ Same S.length S S' := by
  have z2 : (2 : Nat) ≤ sizeLine := by rw [sizeLine_eq]; omega
  have leafV : ∀ (n : Nat) (v : D) (S : Sto) (i : Nat), 1 ≤ n → isVal v = true → Ok (f_result_of n [.tup [.str "value", v], .ref i] S) fun d S' => d = tagD (ev (envOf ks vs) (.tup [.str "value", v])) ∧ Same S.length S S' := by
    intro n v S i hn hv
    obtain ⟨k, rfl⟩ : ∃ k, n = k + 1 := ⟨n - 1, by omega⟩
    unfold f_result_of b_result_of
    walk_at "my"
    rw [ok_gSt (by simp)]
    simp only [List.take_succ_cons, List.take_zero, List.drop_succ_cons, List.drop_zero]
    walk_at "my"
    rw [ok_ix_lst (d := v) rfl, ev_value]
    exact ⟨z2, rfl, .refl⟩
  have leafN : ∀ (n : Nat) (c : Str) (S : Sto) (i : Nat), 2 ≤ n → S[i]? = some (.dic ks vs) → Ok (f_result_of n [.tup [.str "name", .str c], .ref i] S) fun d S' => d = tagD (ev (envOf ks vs) (.tup [.str "name", .str c])) ∧ Same S.length S S' := by
    intro n c S i hn ei
    obtain ⟨k, rfl⟩ : ∃ k, n = k + 1 := ⟨n - 1, by omega⟩
    unfold f_result_of b_result_of
    walk_at "my"
    rw [ok_gSt (by simp)]
    simp only [List.take_succ_cons, List.take_zero, List.drop_succ_cons, List.drop_zero]
    walk_at "my"
    rw [ok_ix_lst (d := .str c) rfl, ev_name]
    have hin : inD false (.str c) (.ref i) S = .ok (.bl (envOf ks vs c).isSome) S := by
      simp only [inD, dicOf, ei, keyD, fbne]
      rfl
    rw [hin, Ok_ok]
    simp only
    cases he : envOf ks vs c with
    | none =>
      simp only [Option.isSome_none]
      walk_at "my"
      rw [e_failed (by omega), Ok_ok]
      exact ⟨rfl, .refl⟩
    | some v =>
      simp only [Option.isSome_some]
      walk_at "my"
      rw [ok_ix_lst (d := .str c) rfl]
      have hix : ix2D (.ref i) (.str c) S = .ok v S := by
        unfold envOf at he
        simp only [ix2D, dicOf, ei, keyD, he]
      rw [hix, Ok_ok]
      exact ⟨z2, rfl, .refl⟩
  intro m
  induction m with
  | zero =>
    intro n t S i ht hn ei
    cases ht with
    | val hv => exact leafV n _ S i (by omega) hv
    | name hc hl => exact leafN n _ S i (by omega) ei
  | succ m ih =>
    intro n t S i ht hn ei
    cases ht with
    | val hv => exact leafV n _ S i (by omega) hv
    | name hc hl => exact leafN n _ S i (by omega) ei
    | @node _ w ts hw hs =>
      obtain ⟨h1, h2⟩ := arity_ne hw
      have hlen := arity_len hw
      obtain ⟨k, rfl⟩ : ∃ k, n = k + 1 := ⟨n - 1, by omega⟩
      have hi := (List.getElem?_eq_some_iff.mp ei).1
      unfold f_result_of b_result_of
      walk_at "my"
      rw [ok_gSt (by simp)]
      simp only [List.take_succ_cons, List.take_zero, List.drop_succ_cons, List.drop_zero]
      walk_at "my"
      simp only [h1, h2]
      walk_at "my"
      refine ⟨by rw [sizeLine_eq]; omega, ?_⟩
      rw [ok_sFor]
      walk_at "my"
      have ei1 : (S ++ [Ob.lst []])[i]? = some (.dic ks vs) := by rw [List.getElem?_append_left hi]; exact ei
      refine (loop_res (ks := ks) (vs := vs) (k := k) hi ts [] (S ++ [.lst []]) none none (by simp; omega) (fun t ht S' ei' => ih k t S' i (hs t ht) (by omega) ei') ei1 (by simp)).mono fun f S3 h3 => ?_
      obtain ⟨s3, h3⟩ := h3
      have s4 : Same S.length S S3 := Same.trans (Same.add _ (Nat.le_refl _)) s3 (Nat.le_refl _)
      rw [ev_node hw]
      cases he : evs (envOf ks vs) ts with
      | error r =>
        rw [he] at h3
        simp only at h3
        subst h3
        exact ⟨rfl, s4⟩
      | ok vals =>
        rw [he] at h3
        obtain ⟨⟨y5, y6, rfl⟩, ej⟩ := h3
        rw [List.nil_append] at ej
        have hvals := evs_val hE.vals hs he
        walk_at "my"
        rw [e_combined (by omega) (by rw [evs_len he]; exact hw) hvals ej, Ok_ok]
        walk_at "my"
        rw [ix0_tag]
        unfold finR
        cases hc : combR w vals with
        | fail r =>
          walk_at "my"
          exact ⟨trivial, s4⟩
        | val v =>
          walk_at "my"
          rw [ix1_tag]
          simp only
          have hv := comb_Vl (by rw [evs_len he]; exact hw) hvals hc
          rw [e_is_value (by omega) hv.1.all.2.1]
          cases hb : isVal v with
          | true =>
            walk_at "my"
            exact ⟨trivial, s4⟩
          | false =>
            walk_at "my"
            rw [e_failed (by omega), Ok_ok]
            exact ⟨rfl, s4⟩
end K03

namespace K03
open PySem PySem.Spec PyProof.Rows L2 VL
local macro_rules | `(tactic| walk_at "mx") => `(tactic| simp only [ok_dDef, ok_sSeq, ok_sSet, ok_sRet, ok_sDrop, ok_sIf, ok_sNx, ok_sAsg, ok_eBin, ok_eUn, ok_eC, ok_eCall, ok_aCons, ok_aNil, ok_eTup, ok_eLst, ok_eLstM, ok_eAnd, ok_eOr, ok_eNot, ok_eIf, ok_eChain, ok_tTru, ok_tBl, ok_tAnd2, ok_tOr2, ok_tNot1, ok_eSl, ok_pNo, ok_pSo, ok_eVar, ok_gNm, ok_gIx, ok_truD_bl, ok_tYesD, ok_wAk, ok_eLcA, ok_eStar, ok_eM, ok_eGet2, ok_eDisp, ok_prsD_nil, ok_prsD_cons, ok_nwD_f, ok_nwD_t, ok_nwL_f, ok_nwL_t, ok_gCons2, ok_gNil2, ok_sPar2, ok_sMatch, ok_mCase, ok_mElse, ok_add_int, ok_sub_int, ok_ord_int, ok_neg_int, ok_abs_int, ok_intD_bl, ok_intD_int, ok_eq_int, ok_eq_str, ok_eq_bl, ok_len_tup, ok_len_lst, isSD, wkA, wkOf, wipeL, List.map_cons, List.map_nil, List.length_cons, List.length_nil, List.replicate_succ, List.replicate_zero, List.cons_append, List.nil_append, List.getElem?_cons_zero, List.getElem?_cons_succ, List.set_cons_zero, List.set_cons_succ, if_true, Bool.false_eq_true, if_false, Bool.not_true, Bool.not_false, ok_isi_tup, ok_isi_lst, ok_isi_int, ok_isi_str, ok_isi_bl, ok_isi_non, ok_isi_dic, ok_isNon, ok_isBl, isTg, D.isNon, ari0, ari1, ari2, ari3, ari4, ari5, Ok_ok, Nat.reduceSub, Nat.reduceAdd, ofs_inj, String.reduceEq, decide_true, decide_false, fbne, tbne, intB])
local macro_rules | `(tactic| walk_at "my") => `(tactic| try simp only [ok_dDef, ok_sSeq, ok_sSet, ok_sRet, ok_sDrop, ok_sIf, ok_sNx, ok_sAsg, ok_eBin, ok_eUn, ok_eC, ok_eCall, ok_aCons, ok_aNil, ok_eTup, ok_eLst, ok_eLstM, ok_eAnd, ok_eOr, ok_eNot, ok_eIf, ok_eChain, ok_tTru, ok_tBl, ok_tAnd2, ok_tOr2, ok_tNot1, ok_eSl, ok_pNo, ok_pSo, ok_eVar, ok_gNm, ok_gIx, ok_truD_bl, ok_tYesD, ok_wAk, ok_eLcA, ok_eStar, ok_eM, ok_eGet2, ok_eDisp, ok_prsD_nil, ok_prsD_cons, ok_nwD_f, ok_nwD_t, ok_nwL_f, ok_nwL_t, ok_gCons2, ok_gNil2, ok_sPar2, ok_sMatch, ok_mCase, ok_mElse, ok_add_int, ok_sub_int, ok_ord_int, ok_neg_int, ok_abs_int, ok_intD_bl, ok_intD_int, ok_eq_int, ok_eq_str, ok_eq_bl, ok_len_tup, ok_len_lst, isSD, wkA, wkOf, wipeL, List.map_cons, List.map_nil, List.length_cons, List.length_nil, List.replicate_succ, List.replicate_zero, List.cons_append, List.nil_append, List.getElem?_cons_zero, List.getElem?_cons_succ, List.set_cons_zero, List.set_cons_succ, if_true, Bool.false_eq_true, if_false, Bool.not_true, Bool.not_false, ok_isi_tup, ok_isi_lst, ok_isi_int, ok_isi_str, ok_isi_bl, ok_isi_non, ok_isi_dic, ok_isNon, ok_isBl, isTg, D.isNon, ari0, ari1, ari2, ari3, ari4, ari5, Ok_ok, Nat.reduceSub, Nat.reduceAdd, ofs_inj, String.reduceEq, decide_true, decide_false, fbne, tbne, intB])
theorem e_whole {n : Nat} {d : D} {S : Sto} (hn : 1 ≤ n) (h : Fit d) : f_whole n [d] S = .ok (.bl (intB d)) S := by
  obtain ⟨k, rfl⟩ : ∃ k, n = k + 1 := ⟨n - 1, by omega⟩
  refine eq_of_ok ?_
  unfold f_whole b_whole
  cases d <;> first
    | (simp only [Fit] at h; done)
    | (walk_at "mx"; exact ⟨rfl, rfl⟩)
    | (walk_at "mx"; simp)
theorem e_within : ∀ (n : Nat) (d : D) (S : Sto), dep d + 1 ≤ n → Fit d → f_within n [d] S = .ok (.int (sz d)) S := by
  intro n
  induction n with
  | zero => intro d S hn; omega
  | succ k ih =>
    intro d S hn h
    refine eq_of_ok ?_
    unfold f_within b_within
    cases d with
    | tup ds =>
      rw [Fit] at h
      rw [dep] at hn
      walk_at "mx"
      rw [lc_map (f := fun d => .int (1 + (sz d : Int))) rfl _ _ (by rw [sizeLine_eq]; simp; omega) ?hm, Ok_ok]
      case hm =>
        intro d hd
        have := dep_mem hd
        walk_at "mx"
        refine ⟨trivial, eq_of_ok ?_⟩
        walk_at "mx"
        rw [ih d S (by omega) (Fits_mem h.2 hd), Ok_ok, ok_add_int]
        exact ⟨rfl, rfl⟩
      rw [List.nil_append, ok_sum_map, ← szs_sum, sz]
      exact ⟨rfl, rfl⟩
    | _ =>
      walk_at "mx"
      first
        | (simp only [Fit] at h; done)
        | simp [sz]
theorem wordB_of {z : Str} (h : ∀ c ∈ z.cps.toList, c ∈ SG.cps.toList) : wordB z SG 0 60 = decide ((z.length : Int) ≤ 60) := by
  unfold wordB
  have : (z.cps.toList.all fun c => decide (c ∈ SG.cps.toList)) = true := List.all_eq_true.mpr fun c hc => decide_eq_true (h c hc)
  rw [this, decide_eq_true (show (0 : Int) ≤ z.length by omega)]
  simp
theorem pow60 : (10 : Int) ^ (60 : Int).toNat = MXI := by decide
theorem e_small : ∀ (n : Nat) (d : D) (l : Int) (S : Sto), dep d + 1 ≤ n → dep d ≤ 50 → Vl d → f_small n [d, .int l] S = .ok (.bl (wl l.toNat d)) S := by
  intro n
  induction n with
  | zero => intro d l S hn; omega
  | succ k ih =>
    intro d l S hn h50 h
    refine eq_of_ok ?_
    unfold f_small b_small
    cases d with
    | tup ds =>
      have hnb := h.all
      rw [Vl] at h
      rw [dep] at hn h50
      walk_at "mx"
      rw [lc_filter (p := fun d => !wl (l - 1).toNat d) (f := fun d => d) rfl _ _ (by rw [sizeLine_eq]; simp; omega) ?hm, Ok_ok]
      case hm =>
        intro d hd
        have := dep_mem hd
        walk_at "mx"
        have e := ih d (l - 1) S (by omega) (by omega) (Vls_mem h.2 hd)
        refine ⟨trivial, eq_of_ok ?_, ?_⟩
        · walk_at "mx"
          rw [e]
          walk_at "mx"
          simp
        · simp [eVar]
      walk_at "my"
      rw [List.map_id']
      have hz : (0 : Nat) ≤ sizeLine := Nat.zero_le _
      by_cases h0 : 0 < l
      · obtain ⟨m, hm⟩ : ∃ m : Nat, l = m + 1 := ⟨(l - 1).toNat, by omega⟩
        subst hm
        simp only [h0]
        walk_at "my"
        rw [show ((m : Int) + 1).toNat = m + 1 by omega, wl_tup, show ((m : Int) + 1 - 1).toNat = m by omega]
        by_cases hl : (ds.length : Int) ≤ 50
        · simp only [hl]
          walk_at "my"
          refine ⟨hz, ?_⟩
          rw [eq_nb (x := .lst (ds.filter fun d => !wl m d)) (y := .lst []) ?a ?b ?c ?d, Ok_ok]
          case a => rw [Nb]; exact Nbs_of fun d hd => Nbs_mem (by have := hnb.1; rw [Nb] at this; exact this) (List.mem_filter.mp hd).1
          case b => simp [Nb, Nbs]
          case c =>
            rw [dpt]
            have : dpts (ds.filter fun d => !wl m d) ≤ 50 := dpts_le fun d hd => by
              have hm := (List.mem_filter.mp hd).1
              have := dep_mem hm
              rw [(Vls_mem h.2 hm).all.2.2]
              omega
            omega
          case d => simp [dpt, dpts]
          refine ⟨?_, rfl⟩
          rw [fbne, D.beq, show decide (ds.length ≤ 50) = true from decide_eq_true (by omega), Bool.true_and]
          congr 1
          by_cases ha : ds.all (wl m) = true
          · have : (ds.filter fun d => !wl m d) = [] := List.filter_eq_nil_iff.mpr fun d hd => by simp [List.all_eq_true.mp ha d hd]
            rw [this, ha]
            rfl
          · have hne : (ds.filter fun d => !wl m d) ≠ [] := fun e => ha (List.all_eq_true.mpr fun d hd => by
              have := List.filter_eq_nil_iff.mp e d hd
              simpa using this)
            rw [Bool.not_eq_true _ |>.mp ha]
            cases hf : ds.filter fun d => !wl m d with
            | nil => exact absurd hf hne
            | cons a b => rfl
        · simp only [hl]
          walk_at "my"
          rw [show decide (ds.length ≤ 50) = false from decide_eq_false (by omega)]
          simp
      · simp only [h0]
        walk_at "my"
        rw [show l.toNat = 0 by omega, wl_tup0]
        simp
    | str z =>
      rw [Vl] at h
      walk_at "mx"
      rw [ok_len_str (by rw [sizeLine_eq]; omega)]
      walk_at "mx"
      rw [wl_str, wordB_of h.2]
      simp
    | int i =>
      walk_at "mx"
      rw [ok_pow_int ⟨by decide, by decide, by decide⟩, ok_ord_int, wl_int, pow60]
      refine ⟨?_, rfl⟩
      congr 1
      rw [← Bool.decide_and]
      unfold MXI
      apply decide_eq_decide.mpr
      split <;> omega
    | _ => simp [Vl] at h
def tagQ (r : Res) : D := match r with
  | .val v => v
  | .fail r => .lst [.str "failed", .str r]
theorem e_pair {n : Nat} {w : Str} {x y : D} {S : Sto} (hn : 2 ≤ n) (hw : w ∈ pairs) (hx : isVal x = true) (hy : isVal y = true) : f_pair n [.str w, x, y] S = .ok (tagQ (binR w x y)) S := by
  obtain ⟨k, rfl⟩ : ∃ k, n = k + 1 := ⟨n - 1, by omega⟩
  have vx := isVal_Vl hx
  have vy := isVal_Vl hy
  have z2 : (2 : Nat) ≤ sizeLine := by rw [sizeLine_eq]; omega
  have wx : ∀ {Q : D → Sto → Prop}, Ok (f_whole k [x] S) Q = Q (.bl (intB x)) S := fun {Q} => by rw [e_whole (by omega) vx.1.all.2.1, Ok_ok]
  have wy : ∀ {Q : D → Sto → Prop}, Ok (f_whole k [y] S) Q = Q (.bl (intB y)) S := fun {Q} => by rw [e_whole (by omega) vy.1.all.2.1, Ok_ok]
  refine eq_of_ok ?_
  unfold f_pair b_pair
  unfold pairs at hw
  simp only [List.mem_cons, List.not_mem_nil, or_false] at hw
  rcases hw with rfl | rfl | rfl | rfl | rfl | rfl | rfl | rfl
  · walk_at "my"
    cases x <;> first | (simp [Vl] at vx; done) | skip
    all_goals cases y <;> first | (simp [Vl] at vy; done) | skip
    all_goals
      rw [wx]
      walk_at "my"
      try rw [wy]
      walk_at "my"
      try (simp (decide := true) [tagQ, binR, z2]; done)
  · walk_at "my"
    cases x <;> first | (simp [Vl] at vx; done) | skip
    all_goals cases y <;> first | (simp [Vl] at vy; done) | skip
    all_goals
      rw [wx]
      walk_at "my"
      try rw [wy]
      walk_at "my"
      try (simp (decide := true) [tagQ, binR, z2]; done)
  · walk_at "my"
    cases x <;> first | (simp [Vl] at vx; done) | skip
    all_goals cases y <;> first | (simp [Vl] at vy; done) | skip
    all_goals
      rw [wx]
      walk_at "my"
      try rw [wy]
      walk_at "my"
      try (simp (decide := true) [tagQ, binR, z2]; done)
    rw [mulV_ok (isVal_int hx).1 (isVal_int hx).2 (isVal_int hy).1 (isVal_int hy).2]
    simp (decide := true) [tagQ, binR, z2]
  · walk_at "my"
    cases x <;> first | (simp [Vl] at vx; done) | skip
    all_goals cases y <;> first | (simp [Vl] at vy; done) | skip
    all_goals
      rw [wx]
      walk_at "my"
      try rw [wy]
      walk_at "my"
      try (simp (decide := true) [tagQ, binR, z2]; done)
    rename_i i j
    by_cases h0 : j = 0
    · subst h0; walk_at "my"; simp (decide := true) [tagQ, binR, z2]
    · simp only [h0]; walk_at "my"; rw [fdiv_ok h0 (isVal_int hy).1 (isVal_int hy).2]; simp (decide := true) [tagQ, binR, z2, h0]
  · walk_at "my"
    cases x <;> first | (simp [Vl] at vx; done) | skip
    all_goals cases y <;> first | (simp [Vl] at vy; done) | skip
    all_goals
      rw [wx]
      walk_at "my"
      try rw [wy]
      walk_at "my"
      try (simp (decide := true) [tagQ, binR, z2]; done)
  · walk_at "my"
    rw [eq_nb vx.1.all.1 vy.1.all.1 (by rw [vx.1.all.2.2]; omega) (by rw [vy.1.all.2.2]; omega), Ok_ok]
    walk_at "my"
    simp (decide := true) [tagQ, binR, z2]
  · walk_at "my"
    cases x <;> first | (simp [Vl] at vx; done) | skip
    all_goals cases y <;> first | (simp [Vl] at vy; done) | skip
    all_goals
      rw [wx]
      walk_at "my"
      try rw [wy]
      walk_at "my"
      try (simp (decide := true) [tagQ, binR, z2]; done)
    · rename_i a b
      have := isVal_str hx
      have := isVal_str hy
      have : a.length + b.length ≤ sizeLine := by rw [sizeLine_eq]; omega
      simp (decide := true) [addD, this, Ok_ok, tagQ, binR, z2]
    · rename_i a b
      have := isVal_tup hx
      have := isVal_tup hy
      have : a.length + b.length ≤ sizeLine := by rw [sizeLine_eq]; omega
      simp (decide := true) [addD, this, Ok_ok, tagQ, binR, z2]
  · walk_at "my"
    cases x <;> first | (simp [Vl] at vx; done) | skip
    all_goals cases y <;> first | (simp [Vl] at vy; done) | skip
    all_goals
      walk_at "my"
      try rw [wy]
      walk_at "my"
      try (simp (decide := true) [tagQ, binR, z2]; done)
    · rename_i ds i
      by_cases h0 : 0 ≤ i
      · simp only [h0]
        walk_at "my"
        by_cases h1 : i < (ds.length : Int)
        · obtain ⟨d, hd, e⟩ := atI_in h0 h1
          simp only [h1]
          walk_at "my"
          rw [ix_ok e]
          simp (decide := true) [tagQ, binR, z2, e, h0]
        · simp only [h1]
          walk_at "my"
          simp (decide := true) [tagQ, binR, z2, atI_out h1 h0]
      · simp only [h0]
        walk_at "my"
        simp (decide := true) only [tagQ, binR, z2, h0, if_true, if_false, and_true, true_and]
        generalize atI ds i = o
        cases o <;> rfl
end K03

namespace K03
open PySem PySem.Spec PyProof.Rows L2 VL
local macro_rules | `(tactic| walk_at "mx") => `(tactic| simp only [ok_dDef, ok_sSeq, ok_sSet, ok_sRet, ok_sDrop, ok_sIf, ok_sNx, ok_sAsg, ok_eBin, ok_eUn, ok_eC, ok_eCall, ok_aCons, ok_aNil, ok_eTup, ok_eLst, ok_eLstM, ok_eAnd, ok_eOr, ok_eNot, ok_eIf, ok_eChain, ok_tTru, ok_tBl, ok_tAnd2, ok_tOr2, ok_tNot1, ok_eSl, ok_pNo, ok_pSo, ok_eVar, ok_gNm, ok_gIx, ok_truD_bl, ok_tYesD, ok_wAk, ok_eLcA, ok_eStar, ok_eM, ok_eGet2, ok_eDisp, ok_prsD_nil, ok_prsD_cons, ok_nwD_f, ok_nwD_t, ok_nwL_f, ok_nwL_t, ok_gCons2, ok_gNil2, ok_sPar2, ok_sMatch, ok_mCase, ok_mElse, ok_add_int, ok_sub_int, ok_ord_int, ok_neg_int, ok_abs_int, ok_intD_bl, ok_intD_int, ok_eq_int, ok_eq_str, ok_eq_bl, ok_len_tup, ok_len_lst, isSD, wkA, wkOf, wipeL, List.map_cons, List.map_nil, List.length_cons, List.length_nil, List.replicate_succ, List.replicate_zero, List.cons_append, List.nil_append, List.getElem?_cons_zero, List.getElem?_cons_succ, List.set_cons_zero, List.set_cons_succ, if_true, Bool.false_eq_true, if_false, Bool.not_true, Bool.not_false, ok_isi_tup, ok_isi_lst, ok_isi_int, ok_isi_str, ok_isi_bl, ok_isi_non, ok_isi_dic, ok_isNon, ok_isBl, isTg, D.isNon, ari0, ari1, ari2, ari3, ari4, ari5, Ok_ok, Nat.reduceSub, Nat.reduceAdd, ofs_inj, String.reduceEq, decide_true, decide_false, fbne, tbne, intB])
local macro_rules | `(tactic| walk_at "my") => `(tactic| try simp only [ok_dDef, ok_sSeq, ok_sSet, ok_sRet, ok_sDrop, ok_sIf, ok_sNx, ok_sAsg, ok_eBin, ok_eUn, ok_eC, ok_eCall, ok_aCons, ok_aNil, ok_eTup, ok_eLst, ok_eLstM, ok_eAnd, ok_eOr, ok_eNot, ok_eIf, ok_eChain, ok_tTru, ok_tBl, ok_tAnd2, ok_tOr2, ok_tNot1, ok_eSl, ok_pNo, ok_pSo, ok_eVar, ok_gNm, ok_gIx, ok_truD_bl, ok_tYesD, ok_wAk, ok_eLcA, ok_eStar, ok_eM, ok_eGet2, ok_eDisp, ok_prsD_nil, ok_prsD_cons, ok_nwD_f, ok_nwD_t, ok_nwL_f, ok_nwL_t, ok_gCons2, ok_gNil2, ok_sPar2, ok_sMatch, ok_mCase, ok_mElse, ok_add_int, ok_sub_int, ok_ord_int, ok_neg_int, ok_abs_int, ok_intD_bl, ok_intD_int, ok_eq_int, ok_eq_str, ok_eq_bl, ok_len_tup, ok_len_lst, isSD, wkA, wkOf, wipeL, List.map_cons, List.map_nil, List.length_cons, List.length_nil, List.replicate_succ, List.replicate_zero, List.cons_append, List.nil_append, List.getElem?_cons_zero, List.getElem?_cons_succ, List.set_cons_zero, List.set_cons_succ, if_true, Bool.false_eq_true, if_false, Bool.not_true, Bool.not_false, ok_isi_tup, ok_isi_lst, ok_isi_int, ok_isi_str, ok_isi_bl, ok_isi_non, ok_isi_dic, ok_isNon, ok_isBl, isTg, D.isNon, ari0, ari1, ari2, ari3, ari4, ari5, Ok_ok, Nat.reduceSub, Nat.reduceAdd, ofs_inj, String.reduceEq, decide_true, decide_false, fbne, tbne, intB])
theorem ix0_tagL {r : Res} {S : Sto} {Q : D → Sto → Prop} : Ok (ix2D (tagL r) (.int 0) S) Q = Q (match r with | .val _ => .str "value" | .fail _ => .str "failed") S := by
  cases r <;> exact ok_ix_lst rfl
theorem ix1_tagL {r : Res} {S : Sto} {Q : D → Sto → Prop} : Ok (ix2D (tagL r) (.int 1) S) Q = Q (match r with | .val v => v | .fail r => .str r) S := by
  cases r <;> exact ok_ix_lst rfl
theorem cut1 (d : D) (ds : List D) : VL.cutD (d :: ds) (some 1) none = ds := by
  unfold VL.cutD
  rw [HT.sIx_none, show HT.sIx (d :: ds).length 0 (some 1) = min 1 (d :: ds).length from HT.sIx_nat _ _ 1]
  simp
theorem sl1 {d : D} {ds : List D} {S : Sto} {Q : D → Sto → Prop} : Ok (slD (.tup (d :: ds)) (some 1) none S) Q = Q (.tup ds) S := by
  simp only [slD, cut1, Ok_ok]
theorem loop_resL {ks : List Key} {vs : List D} {k i j : Nat} {a0 a2 a6 : Option D} (hij : i < j) : ∀ (ts acc : List D) (S : Sto) (x4 x5 : Option D), acc.length + ts.length ≤ 100 →
    (∀ t ∈ ts, ∀ S : Sto, S[i]? = some (.dic ks vs) → Ok (f_result k [t, .ref i] S) fun d S' => d = tagL (ev (envOf ks vs) t) ∧ Same S.length S S') →
    S[i]? = some (.dic ks vs) → S[j]? = some (.lst acc) →
    Ok (forL (fun _ => true) (gNm 4) (sSeq (sSet 5 (eCall (ari 2 (f_result k)) (aCons (eVar 4) (aCons (eVar 1) aNil))))
  (sSeq (sIf (tBl (eBin (eqD false) (eBin ix2D (eVar 5) (eC (.int 0))) (eC (.str "failed"))))
    (sRet (eVar 5))
    sNx)
  (sDrop (eM isLst appD (eVar 3) (aCons (eBin ix2D (eVar 5) (eC (.int 1))) aNil))))) ts [a0, some (.ref i), a2, some (.ref j), x4, x5, a6] S) fun f S' => Same j S S' ∧ match evs (envOf ks vs) ts with
      | .error r => f = .rt (tagL (.fail r))
      | .ok vals => (∃ y4 y5, f = .nx [a0, some (.ref i), a2, some (.ref j), y4, y5, a6]) ∧ S'[j]? = some (.lst (acc ++ vals))
  | [], acc, S, x5, x6, hl, hf, ei, ej => by
    unfold forL
    rw [if_pos rfl, Ok_ok]
    simp only [evs]
    exact ⟨.refl, ⟨x5, x6, rfl⟩, by simpa using ej⟩
  | t :: ts, acc, S, x5, x6, hl, hf, ei, ej => by
    unfold forL
    rw [if_pos rfl, Ok_bind]
    have hj := (List.getElem?_eq_some_iff.mp ej).1
    walk_at "my"
    rw [Ok_bind]
    walk_at "my"
    refine (hf t (by simp) S ei).mono fun d S1 hd => ?_
    obtain ⟨rfl, sm⟩ := hd
    have ej1 := sm.get hj ej
    have ei1 := sm.get (by omega) ei
    walk_at "my"
    rw [ix0_tagL]
    simp only [evs]
    cases hr : ev (envOf ks vs) t with
    | fail r =>
      walk_at "my"
      exact ⟨sm.le (by omega), trivial⟩
    | val v =>
      walk_at "my"
      simp only [isLst_ref ej1]
      walk_at "my"
      rw [ix1_tagL]
      simp only
      simp only [List.length_cons] at hl
      rw [app_ok ej1 (by rw [sizeLine_eq]; omega)]
      try simp only
      have ej2 : (S1.set j (.lst (acc ++ [v])))[j]? = some (.lst (acc ++ [v])) := List.getElem?_set_self (List.getElem?_eq_some_iff.mp ej1).1
      have ei2 : (S1.set j (.lst (acc ++ [v])))[i]? = some (.dic ks vs) := by rw [List.getElem?_set_ne (by omega)]; exact ei1
      refine (loop_resL (k := k) hij ts (acc ++ [v]) _ _ _ (by simp; omega) (fun t' ht' => hf t' (by simp [ht'])) ei2 ej2).mono fun f S3 h3 => ?_
      obtain ⟨s3, h3⟩ := h3
      have sj : Same j S S3 := (sm.le (by omega)).trans (Same.trans (Same.set (Nat.le_refl j)) s3 (Nat.le_refl j)) (Nat.le_refl j)
      refine ⟨sj, ?_⟩
      cases he : evs (envOf ks vs) ts with
      | error r => rw [he] at h3; exact h3
      | ok vals =>
        rw [he] at h3
        exact ⟨h3.1, by rw [h3.2]; simp⟩
theorem tup_ix0 {d : D} {ds : List D} {S : Sto} {Q : D → Sto → Prop} : Ok (ix2D (.tup (d :: ds)) (.int 0) S) Q = Q d S := ok_ix_tup (by simp [atI, ixN])
theorem tup_ix1 {c d : D} {ds : List D} {S : Sto} {Q : D → Sto → Prop} : Ok (ix2D (.tup (c :: d :: ds)) (.int 1) S) Q = Q d S := ok_ix_tup (by exact atI_nat (j := 1) rfl)
theorem lst_ix1 {c v : D} {r : List D} {S : Sto} {Q : D → Sto → Prop} {n : Nat} (e : S[n]? = some (.lst (c :: v :: r))) : Ok (ix2D (.ref n) (.int 1) S) Q = Q v S := ok_ix_ref e (by exact atI_nat (j := 1) rfl)
theorem sz_isVal {v : D} (hv : Vl v) : isVal v = (wl 5 v && decide ((sz v : Int) ≤ 50)) := by
  unfold isVal
  congr 1
  apply decide_eq_decide.mpr
  omega
def capR (r : Res) : Res := match r with
  | .fail r => .fail r
  | .val v => if isVal v = true then .val v else .fail "size"
theorem finR_cap (w : Str) (vals : List D) : finR w vals = capR (combR w vals) := by
  unfold finR
  cases combR w vals <;> rfl
/-- what the law makes of a combined value -/
theorem tail_res {k : Nat} {r : Res} {S : Sto} {a0 a1 a2 a3 a4 : Option D} {P : Res → Sto → Prop} (hk : 12 ≤ k) (hv : ∀ v, r = .val v → Vl v ∧ dep v ≤ 6)
    (h : P (capR r) S) :
    Ok (sSeq (sIf (tTru (eUn (isiD .list) (eVar 5)))
    (sRet (eVar 5))
    sNx)
  (sSeq (sSet 6 (eAnd (eCall (ari 2 (f_small k)) (aCons (eVar 5) (aCons (eC (.int 5)) aNil))) (eBin (ordD fun i j => decide (i ≤ j)) (eCall (ari 1 (f_within k)) (aCons (eVar 5) aNil)) (eC (.int 50)))))
  (sRet (eIf (tTru (eVar 6)) (eLst (aCons (eC (.str "value")) (aCons (eVar 5) aNil))) (eLst (aCons (eC (.str "failed")) (aCons (eC (.str "size")) aNil)))))) [a0, a1, a2, a3, a4, some (tagQ r), none] S) fun f S' => match f with
      | .rt d => ∃ r, d = tagL r ∧ P r S'
      | _ => False := by
  have z2 : (2 : Nat) ≤ sizeLine := by rw [sizeLine_eq]; omega
  cases r with
  | fail r =>
    simp only [tagQ]
    walk_at "my"
    exact ⟨_, rfl, h⟩
  | val v =>
    obtain ⟨hv1, hv2⟩ := hv v rfl
    simp only [capR] at h
    have hisl : ∀ {Q : D → Sto → Prop}, Ok (isiD .list v S) Q = Q (.bl false) S := fun {Q} => by
      cases v <;> first | (simp [Vl] at hv1; done) | exact Ok_ok _ _
    simp only [tagQ]
    walk_at "my"
    rw [hisl]
    walk_at "my"
    rw [e_small k v 5 S (by omega) (by omega) hv1, Ok_ok]
    rw [sz_isVal hv1] at h
    cases h5 : wl 5 v with
    | false =>
      rw [show (5 : Int).toNat = 5 from rfl, h5]
      rw [h5] at h
      walk_at "my"
      refine ⟨z2, _, ?_, h⟩
      rfl
    | true =>
      rw [show (5 : Int).toNat = 5 from rfl, h5]
      rw [h5] at h
      walk_at "my"
      rw [e_within k v S (by omega) hv1.all.2.1]
      walk_at "my"
      cases h6 : decide ((sz v : Int) ≤ 50) with
      | false =>
        rw [h6] at h
        walk_at "my"
        exact ⟨z2, _, rfl, h⟩
      | true =>
        rw [h6] at h
        walk_at "my"
        exact ⟨z2, _, rfl, h⟩
theorem e_result {ks : List Key} {vs : List D} (hE : EnvOk ks vs) : ∀ (m n : Nat) (t : D) (S : Sto) (i : Nat), Tm m t → m + 14 ≤ n → S[i]? = some (.dic ks vs) → Ok (f_result n [t, .ref i] S) fun d S' => d = tagL (ev (envOf ks vs) t) ∧ Same S.length S S' := by
  have z2 : (2 : Nat) ≤ sizeLine := by rw [sizeLine_eq]; omega
  have z0 : (0 : Nat) ≤ sizeLine := Nat.zero_le _
  have leafV : ∀ (n : Nat) (v : D) (S : Sto) (i : Nat), 1 ≤ n → isVal v = true → Ok (f_result n [.tup [.str "value", v], .ref i] S) fun d S' => d = tagL (ev (envOf ks vs) (.tup [.str "value", v])) ∧ Same S.length S S' := by
    intro n v S i hn hv
    obtain ⟨k, rfl⟩ : ∃ k, n = k + 1 := ⟨n - 1, by omega⟩
    unfold f_result b_result
    walk_at "my"
    rw [tup_ix0]
    walk_at "my"
    refine ⟨z0, ?_⟩
    rw [tup_ix1, ev_value]
    exact ⟨z2, rfl, Same.add _ (Nat.le_refl _)⟩
  have leafN : ∀ (n : Nat) (c : Str) (S : Sto) (i : Nat), 2 ≤ n → S[i]? = some (.dic ks vs) → Ok (f_result n [.tup [.str "name", .str c], .ref i] S) fun d S' => d = tagL (ev (envOf ks vs) (.tup [.str "name", .str c])) ∧ Same S.length S S' := by
    intro n c S i hn ei
    obtain ⟨k, rfl⟩ : ∃ k, n = k + 1 := ⟨n - 1, by omega⟩
    have hi := (List.getElem?_eq_some_iff.mp ei).1
    have ei1 : (S ++ [Ob.lst []])[i]? = some (.dic ks vs) := by rw [List.getElem?_append_left hi]; exact ei
    unfold f_result b_result
    walk_at "my"
    rw [tup_ix0]
    walk_at "my"
    refine ⟨z0, ?_⟩
    rw [tup_ix1, ev_name]
    have hin : inD false (.str c) (.ref i) (S ++ [Ob.lst []]) = .ok (.bl (envOf ks vs c).isSome) (S ++ [Ob.lst []]) := by
      simp only [inD, dicOf, ei1, keyD, fbne]
      rfl
    rw [hin, Ok_ok]
    simp only
    cases he : envOf ks vs c with
    | none =>
      simp only [Option.isSome_none]
      walk_at "my"
      exact ⟨z2, rfl, Same.add _ (Nat.le_refl _)⟩
    | some v =>
      simp only [Option.isSome_some]
      walk_at "my"
      rw [tup_ix1]
      have hix : ix2D (.ref i) (.str c) (S ++ [Ob.lst []]) = .ok v (S ++ [Ob.lst []]) := by
        unfold envOf at he
        simp only [ix2D, dicOf, ei1, keyD, he]
      rw [hix, Ok_ok]
      exact ⟨z2, rfl, Same.add _ (Nat.le_refl _)⟩
  intro m
  induction m with
  | zero =>
    intro n t S i ht hn ei
    cases ht with
    | val hv => exact leafV n _ S i (by omega) hv
    | name hc hl => exact leafN n _ S i (by omega) ei
  | succ m ih =>
    intro n t S i ht hn ei
    cases ht with
    | val hv => exact leafV n _ S i (by omega) hv
    | name hc hl => exact leafN n _ S i (by omega) ei
    | @node _ w ts hw hs =>
      obtain ⟨h1, h2⟩ := arity_ne hw
      have hlen := arity_len hw
      obtain ⟨k, rfl⟩ : ∃ k, n = k + 1 := ⟨n - 1, by omega⟩
      have hi := (List.getElem?_eq_some_iff.mp ei).1
      have ei1 : (S ++ [Ob.lst []])[i]? = some (.dic ks vs) := by rw [List.getElem?_append_left hi]; exact ei
      unfold f_result b_result
      walk_at "my"
      rw [tup_ix0]
      walk_at "my"
      refine ⟨z0, ?_⟩
      simp only [h1, h2]
      walk_at "my"
      rw [ok_sFor]
      walk_at "my"
      rw [sl1]
      walk_at "my"
      refine (loop_resL (ks := ks) (vs := vs) (k := k) hi ts [] (S ++ [.lst []]) none none (by simp; omega) (fun t ht S' ei' => ih k t S' i (hs t ht) (by omega) ei') ei1 (by simp)).mono fun f S3 h3 => ?_
      obtain ⟨s3, h3⟩ := h3
      have s4 : Same S.length S S3 := Same.trans (Same.add _ (Nat.le_refl _)) s3 (Nat.le_refl _)
      rw [ev_node hw]
      cases he : evs (envOf ks vs) ts with
      | error r =>
        rw [he] at h3
        simp only at h3
        subst h3
        exact ⟨rfl, s4⟩
      | ok vals =>
        rw [he] at h3
        obtain ⟨⟨y4, y5, rfl⟩, ej⟩ := h3
        rw [List.nil_append] at ej
        have hvals := evs_val hE.vals hs he
        have hw' : arity w vals.length := by rw [evs_len he]; exact hw
        have fin := tail_res (k := k) (r := combR w vals) (S := S3) (a0 := some (.tup (.str w :: ts))) (a1 := some (.ref i)) (a2 := some (.str w)) (a3 := some (.ref S.length)) (a4 := y4) (P := fun r S' => r = finR w vals ∧ S' = S3) (by omega) (fun v hv => comb_Vl hw' hvals hv) ⟨(finR_cap w vals).symm, rfl⟩
        have fin2 := fin.mono (Q' := fun f S' => match f with | .rt d => d = tagL (finR w vals) ∧ Same S.length S S' | .nx _ => D.non = tagL (finR w vals) ∧ Same S.length S S' | _ => False) fun f S' hf => by
          cases f with
          | rt d => obtain ⟨r, rfl, rfl, rfl⟩ := hf; exact ⟨rfl, s4⟩
          | _ => exact hf.elim
        rcases hw' with ⟨hp, hl⟩ | ⟨rfl, hl⟩ | ⟨rfl, hl⟩
        · obtain ⟨x, y, rfl⟩ : ∃ x y, vals = [x, y] := by
            rcases vals with _ | ⟨x, _ | ⟨y, _ | ⟨z, r⟩⟩⟩ <;> simp at hl
            exact ⟨x, y, rfl⟩
          have hne : w ≠ "list" ∧ w ≠ "size" := by
            have : ∀ w ∈ pairs, w ≠ "list" ∧ w ≠ "size" := by decide +kernel
            exact this w hp
          have hcb : combR w [x, y] = binR w x y := by simp only [combR, hne.1, hne.2, if_false]
          rw [hcb] at fin2
          walk_at "my"
          simp only [hne.1, hne.2]
          walk_at "my"
          rw [lst_ix0 ej, lst_ix1 ej, e_pair (by omega) hp (hvals x (by simp)) (hvals y (by simp)), Ok_ok]
          revert fin2
          walk_at "my"
          exact fun h => h
        · have hcb : combR "list" vals = .val (.tup vals) := by simp (decide := true) only [combR, if_true]
          rw [hcb] at fin2
          revert fin2
          simp only [tagQ]
          walk_at "my"
          simp only [tupleD, lst_at ej, Ok_ok]
          walk_at "my"
          exact fun h => h
        · obtain ⟨x, rfl⟩ : ∃ x, vals = [x] := by
            rcases vals with _ | ⟨x, _ | ⟨y, r⟩⟩ <;> simp at hl
            exact ⟨x, rfl⟩
          have hx := hvals x (by simp)
          have vx := isVal_Vl hx
          have hcb : combR "size" [x] = (match x with
            | .str z => .val (.int z.length)
            | .tup ds => .val (.int ds.length)
            | _ => .fail "kind") := by
            simp (decide := true) only [combR, if_true, if_false]
            cases x <;> rfl
          rw [hcb] at fin2
          cases x with
          | int z =>
            revert fin2
            simp only [tagQ]
            walk_at "my"
            rw [lst_ix0 ej, e_whole (by omega) vx.1.all.2.1, Ok_ok]
            walk_at "my"
            exact fun h => ⟨z2, h⟩
          | str z =>
            revert fin2
            simp only [tagQ]
            walk_at "my"
            rw [lst_ix0 ej, e_whole (by omega) vx.1.all.2.1, Ok_ok]
            walk_at "my"
            rw [lst_ix0 ej, ok_len_str (by have := isVal_str hx; rw [sizeLine_eq]; omega)]
            walk_at "my"
            exact fun h => h
          | tup ds =>
            revert fin2
            simp only [tagQ]
            walk_at "my"
            rw [lst_ix0 ej, e_whole (by omega) vx.1.all.2.1, Ok_ok]
            walk_at "my"
            rw [lst_ix0 ej]
            walk_at "my"
            exact fun h => h
          | _ => simp [Vl] at vx
end K03

namespace K03
open PySem PySem.Spec PyProof.Rows L2 VL
local macro_rules | `(tactic| walk_at "mx") => `(tactic| simp only [ok_dDef, ok_sSeq, ok_sSet, ok_sRet, ok_sDrop, ok_sIf, ok_sNx, ok_sAsg, ok_eBin, ok_eUn, ok_eC, ok_eCall, ok_aCons, ok_aNil, ok_eTup, ok_eLst, ok_eLstM, ok_eAnd, ok_eOr, ok_eNot, ok_eIf, ok_eChain, ok_tTru, ok_tBl, ok_tAnd2, ok_tOr2, ok_tNot1, ok_eSl, ok_pNo, ok_pSo, ok_eVar, ok_gNm, ok_gIx, ok_truD_bl, ok_tYesD, ok_wAk, ok_eLcA, ok_eStar, ok_eM, ok_eGet2, ok_eDisp, ok_prsD_nil, ok_prsD_cons, ok_nwD_f, ok_nwD_t, ok_nwL_f, ok_nwL_t, ok_gCons2, ok_gNil2, ok_sPar2, ok_sMatch, ok_mCase, ok_mElse, ok_add_int, ok_sub_int, ok_ord_int, ok_neg_int, ok_abs_int, ok_intD_bl, ok_intD_int, ok_eq_int, ok_eq_str, ok_eq_bl, ok_len_tup, ok_len_lst, isSD, wkA, wkOf, wipeL, List.map_cons, List.map_nil, List.length_cons, List.length_nil, List.replicate_succ, List.replicate_zero, List.cons_append, List.nil_append, List.getElem?_cons_zero, List.getElem?_cons_succ, List.set_cons_zero, List.set_cons_succ, if_true, Bool.false_eq_true, if_false, Bool.not_true, Bool.not_false, ok_isi_tup, ok_isi_lst, ok_isi_int, ok_isi_str, ok_isi_bl, ok_isi_non, ok_isi_dic, ok_isNon, ok_isBl, isTg, D.isNon, ari0, ari1, ari2, ari3, ari4, ari5, Ok_ok, Nat.reduceSub, Nat.reduceAdd, ofs_inj, String.reduceEq, decide_true, decide_false, fbne, tbne, intB])
local macro_rules | `(tactic| walk_at "my") => `(tactic| try simp only [ok_dDef, ok_sSeq, ok_sSet, ok_sRet, ok_sDrop, ok_sIf, ok_sNx, ok_sAsg, ok_eBin, ok_eUn, ok_eC, ok_eCall, ok_aCons, ok_aNil, ok_eTup, ok_eLst, ok_eLstM, ok_eAnd, ok_eOr, ok_eNot, ok_eIf, ok_eChain, ok_tTru, ok_tBl, ok_tAnd2, ok_tOr2, ok_tNot1, ok_eSl, ok_pNo, ok_pSo, ok_eVar, ok_gNm, ok_gIx, ok_truD_bl, ok_tYesD, ok_wAk, ok_eLcA, ok_eStar, ok_eM, ok_eGet2, ok_eDisp, ok_prsD_nil, ok_prsD_cons, ok_nwD_f, ok_nwD_t, ok_nwL_f, ok_nwL_t, ok_gCons2, ok_gNil2, ok_sPar2, ok_sMatch, ok_mCase, ok_mElse, ok_add_int, ok_sub_int, ok_ord_int, ok_neg_int, ok_abs_int, ok_intD_bl, ok_intD_int, ok_eq_int, ok_eq_str, ok_eq_bl, ok_len_tup, ok_len_lst, isSD, wkA, wkOf, wipeL, List.map_cons, List.map_nil, List.length_cons, List.length_nil, List.replicate_succ, List.replicate_zero, List.cons_append, List.nil_append, List.getElem?_cons_zero, List.getElem?_cons_succ, List.set_cons_zero, List.set_cons_succ, if_true, Bool.false_eq_true, if_false, Bool.not_true, Bool.not_false, ok_isi_tup, ok_isi_lst, ok_isi_int, ok_isi_str, ok_isi_bl, ok_isi_non, ok_isi_dic, ok_isNon, ok_isBl, isTg, D.isNon, ari0, ari1, ari2, ari3, ari4, ari5, Ok_ok, Nat.reduceSub, Nat.reduceAdd, ofs_inj, String.reduceEq, decide_true, decide_false, fbne, tbne, intB])
/-! names -/
mutual
def nms : D → List D
  | .tup ds => nmn ds
  | _ => []
def nmn : List D → List D
  | [] => []
  | w :: ts => match w with
    | .str w => if w = "value" then [] else if w = "name" then ts else nmss ts
    | _ => []
def nmss : List D → List D
  | [] => []
  | t :: ts => nms t ++ nmss ts
end
theorem nms_node {w : Str} {ts : List D} {n : Nat} (hw : arity w n) : nms (.tup (.str w :: ts)) = nmss ts := by
  obtain ⟨h1, h2⟩ := arity_ne hw
  rw [nms]
  unfold nmn
  simp only [h1, h2, if_false]
theorem nms_value {v : D} : nms (.tup [.str "value", v]) = [] := by
  rw [nms]
  unfold nmn
  simp (decide := true) only [if_true]
theorem nms_name {c : D} : nms (.tup [.str "name", c]) = [c] := by
  rw [nms]
  unfold nmn
  simp (decide := true) only [if_true, if_false]
theorem nmss_flat : ∀ ts : List D, nmss ts = (ts.map nms).flatten
  | [] => rfl
  | t :: ts => by rw [nmss, nmss_flat ts]; rfl
/-- the names of a term are short texts, and few -/
theorem nms_ok : ∀ (m : Nat) (t : D), Tm m t → (∀ c ∈ nms t, ∃ z : Str, c = .str z ∧ nameB (.str z) = true ∧ z.length ≤ 12) ∧ (nms t).length ≤ 10 ^ m := by
  intro m
  have leaf : ∀ (m : Nat) (t : D), (∃ v, t = .tup [.str "value", v]) ∨ (∃ c : Str, t = .tup [.str "name", .str c] ∧ nameB (.str c) = true ∧ c.length ≤ 12) → (∀ c ∈ nms t, ∃ z : Str, c = .str z ∧ nameB (.str z) = true ∧ z.length ≤ 12) ∧ (nms t).length ≤ 10 ^ m := by
    intro m t h
    have : 1 ≤ 10 ^ m := Nat.one_le_iff_ne_zero.mpr (by simp)
    rcases h with ⟨v, rfl⟩ | ⟨c, rfl, h1, h2⟩
    · rw [nms_value]; simp
    · rw [nms_name]
      refine ⟨fun d hd => ?_, by simpa using this⟩
      rw [List.mem_singleton.mp hd]
      exact ⟨c, rfl, h1, h2⟩
  induction m with
  | zero =>
    intro t ht
    cases ht with
    | val h => exact leaf _ _ (.inl ⟨_, rfl⟩)
    | name h hl => exact leaf _ _ (.inr ⟨_, rfl, h, hl⟩)
  | succ m ih =>
    intro t ht
    cases ht with
    | val h => exact leaf _ _ (.inl ⟨_, rfl⟩)
    | name h hl => exact leaf _ _ (.inr ⟨_, rfl, h, hl⟩)
    | @node _ w ts hw hs =>
      rw [nms_node hw, nmss_flat]
      refine ⟨fun c hc => ?_, ?_⟩
      · obtain ⟨l, hl, hc⟩ := List.mem_flatten.mp hc
        obtain ⟨t, ht, rfl⟩ := List.mem_map.mp hl
        exact (ih t (hs t ht)).1 c hc
      · have hlen := arity_len hw
        have : ∀ ts : List D, (∀ t ∈ ts, Tm m t) → ((ts.map nms).flatten).length ≤ ts.length * 10 ^ m := by
          intro ts
          induction ts with
          | nil => intro _; simp
          | cons t ts ih2 =>
            intro h
            have h1 := (ih t (h t (by simp))).2
            have h2 := ih2 fun t ht => h t (by simp [ht])
            rw [List.map_cons, List.flatten_cons, List.length_append, List.length_cons, Nat.succ_mul]
            omega
        have h1 := this ts hs
        have h2 : ts.length * 10 ^ m ≤ 10 * 10 ^ m := Nat.mul_le_mul_right _ hlen
        rw [Nat.pow_succ]
        omega
theorem lsts_map {S : Sto} (f : D → List D) : ∀ ts : List D, lstsOf S (ts.map fun t => .lst (f t)) = some (ts.map f)
  | [] => rfl
  | t :: ts => by
    have := lsts_map (S := S) f ts
    rw [List.map_cons, lstsOf]
    simp only [lstO, this]
    rfl
theorem sum_lsts {S : Sto} {Q : D → Sto → Prop} (f : D → List D) (ts : List D) (h : ((ts.map f).flatten).length ≤ sizeLine) : Ok (sum2D [.lst (ts.map fun t => .lst (f t)), .lst []] S) Q = Q (.lst (ts.map f).flatten) S := by
  unfold sum2D
  simp only [lstOf, lstO, lsts_map, List.nil_append, if_pos h]
  cases ts with
  | nil => simp [Ok_ok]
  | cons t ts => simp [Ok_ok]
theorem e_names : ∀ (m n : Nat) (t : D) (S : Sto), Tm m t → m ≤ 6 → m + 1 ≤ n → f_names_within n [t] S = .ok (.lst (nms t)) S := by
  intro m
  have z0 : (0 : Nat) ≤ sizeLine := Nat.zero_le _
  have leafV : ∀ (n : Nat) (v : D) (S : Sto), 1 ≤ n → f_names_within n [.tup [.str "value", v]] S = .ok (.lst (nms (.tup [.str "value", v]))) S := by
    intro n v S hn
    obtain ⟨k, rfl⟩ : ∃ k, n = k + 1 := ⟨n - 1, by omega⟩
    refine eq_of_ok ?_
    unfold f_names_within b_names_within
    walk_at "my"
    rw [ok_gSt (by simp), nms_value]
    simp only [List.take_succ_cons, List.take_zero, List.drop_succ_cons, List.drop_zero]
    walk_at "my"
    exact ⟨z0, trivial, trivial⟩
  have leafN : ∀ (n : Nat) (v : D) (S : Sto), 1 ≤ n → f_names_within n [.tup [.str "name", v]] S = .ok (.lst (nms (.tup [.str "name", v]))) S := by
    intro n v S hn
    obtain ⟨k, rfl⟩ : ∃ k, n = k + 1 := ⟨n - 1, by omega⟩
    refine eq_of_ok ?_
    unfold f_names_within b_names_within
    walk_at "my"
    rw [ok_gSt (by simp), nms_name]
    simp only [List.take_succ_cons, List.take_zero, List.drop_succ_cons, List.drop_zero]
    walk_at "my"
    exact ⟨trivial, trivial⟩
  induction m with
  | zero =>
    intro n t S ht h6 hn
    cases ht with
    | val h => exact leafV n _ S hn
    | name h hl => exact leafN n _ S hn
  | succ m ih =>
    intro n t S ht h6 hn
    have hno := (nms_ok _ t ht).2
    cases ht with
    | val h => exact leafV n _ S (by omega)
    | name h hl => exact leafN n _ S (by omega)
    | @node _ w ts hw hs =>
      obtain ⟨h1, h2⟩ := arity_ne hw
      have hlen := arity_len hw
      rw [nms_node hw, nmss_flat] at hno ⊢
      obtain ⟨k, rfl⟩ : ∃ k, n = k + 1 := ⟨n - 1, by omega⟩
      refine eq_of_ok ?_
      unfold f_names_within b_names_within
      walk_at "my"
      rw [ok_gSt (by simp)]
      simp only [List.take_succ_cons, List.take_zero, List.drop_succ_cons, List.drop_zero]
      walk_at "my"
      simp only [h1, h2]
      walk_at "my"
      rw [lc_map (f := fun t => .lst (nms t)) rfl _ _ (by rw [sizeLine_eq]; simp; omega) ?hm, Ok_ok]
      case hm =>
        intro t ht
        walk_at "my"
        refine ⟨trivial, eq_of_ok ?_⟩
        walk_at "my"
        rw [ih k t S (hs t ht) (by omega) (by omega), Ok_ok]
        exact ⟨rfl, rfl⟩
      refine ⟨z0, ?_⟩
      rw [List.nil_append, sum_lsts nms ts ?hz]
      case hz =>
        have : 10 ^ (m + 1) ≤ 10 ^ 6 := Nat.pow_le_pow_right (by decide) h6
        rw [sizeLine_eq]
        omega
      exact ⟨rfl, rfl⟩
theorem e_lnames : ∀ (m n : Nat) (t : D) (S : Sto), Tm m t → m ≤ 6 → m + 1 ≤ n → f_l_names_in n [t] S = .ok (.lst (nms t)) S := by
  intro m
  have z0 : (0 : Nat) ≤ sizeLine := Nat.zero_le _
  have z1 : (1 : Nat) ≤ sizeLine := by rw [sizeLine_eq]; omega
  have leafV : ∀ (n : Nat) (v : D) (S : Sto), 1 ≤ n → f_l_names_in n [.tup [.str "value", v]] S = .ok (.lst (nms (.tup [.str "value", v]))) S := by
    intro n v S hn
    obtain ⟨k, rfl⟩ : ∃ k, n = k + 1 := ⟨n - 1, by omega⟩
    refine eq_of_ok ?_
    unfold f_l_names_in b_l_names_in
    walk_at "my"
    rw [tup_ix0, nms_value]
    walk_at "my"
    exact ⟨z0, trivial, trivial⟩
  have leafN : ∀ (n : Nat) (v : D) (S : Sto), 1 ≤ n → f_l_names_in n [.tup [.str "name", v]] S = .ok (.lst (nms (.tup [.str "name", v]))) S := by
    intro n v S hn
    obtain ⟨k, rfl⟩ : ∃ k, n = k + 1 := ⟨n - 1, by omega⟩
    refine eq_of_ok ?_
    unfold f_l_names_in b_l_names_in
    walk_at "my"
    rw [tup_ix0, nms_name]
    walk_at "my"
    rw [tup_ix0]
    walk_at "my"
    rw [tup_ix1]
    exact ⟨z1, rfl, rfl⟩
  induction m with
  | zero =>
    intro n t S ht h6 hn
    cases ht with
    | val h => exact leafV n _ S hn
    | name h hl => exact leafN n _ S hn
  | succ m ih =>
    intro n t S ht h6 hn
    have hno := (nms_ok _ t ht).2
    cases ht with
    | val h => exact leafV n _ S (by omega)
    | name h hl => exact leafN n _ S (by omega)
    | @node _ w ts hw hs =>
      obtain ⟨h1, h2⟩ := arity_ne hw
      have hlen := arity_len hw
      rw [nms_node hw, nmss_flat] at hno ⊢
      obtain ⟨k, rfl⟩ : ∃ k, n = k + 1 := ⟨n - 1, by omega⟩
      refine eq_of_ok ?_
      unfold f_l_names_in b_l_names_in
      walk_at "my"
      rw [tup_ix0]
      walk_at "my"
      simp only [h1]
      walk_at "my"
      rw [tup_ix0]
      walk_at "my"
      simp only [h2]
      walk_at "my"
      rw [sl1]
      walk_at "my"
      rw [lc_map (f := fun t => .lst (nms t)) rfl _ _ (by rw [sizeLine_eq]; simp; omega) ?hm, Ok_ok]
      case hm =>
        intro t ht
        walk_at "my"
        refine ⟨trivial, eq_of_ok ?_⟩
        walk_at "my"
        rw [ih k t S (hs t ht) (by omega) (by omega), Ok_ok]
        exact ⟨rfl, rfl⟩
      refine ⟨z0, ?_⟩
      rw [List.nil_append, sum_lsts nms ts ?hz]
      case hz =>
        have : 10 ^ (m + 1) ≤ 10 ^ 6 := Nat.pow_le_pow_right (by decide) h6
        rw [sizeLine_eq]
        omega
      exact ⟨rfl, rfl⟩
end K03

namespace K03
open PySem PySem.Spec PyProof.Rows L2 VL
local macro_rules | `(tactic| walk_at "mx") => `(tactic| simp only [ok_dDef, ok_sSeq, ok_sSet, ok_sRet, ok_sDrop, ok_sIf, ok_sNx, ok_sAsg, ok_eBin, ok_eUn, ok_eC, ok_eCall, ok_aCons, ok_aNil, ok_eTup, ok_eLst, ok_eLstM, ok_eAnd, ok_eOr, ok_eNot, ok_eIf, ok_eChain, ok_tTru, ok_tBl, ok_tAnd2, ok_tOr2, ok_tNot1, ok_eSl, ok_pNo, ok_pSo, ok_eVar, ok_gNm, ok_gIx, ok_truD_bl, ok_tYesD, ok_wAk, ok_eLcA, ok_eStar, ok_eM, ok_eGet2, ok_eDisp, ok_prsD_nil, ok_prsD_cons, ok_nwD_f, ok_nwD_t, ok_nwL_f, ok_nwL_t, ok_gCons2, ok_gNil2, ok_sPar2, ok_sMatch, ok_mCase, ok_mElse, ok_add_int, ok_sub_int, ok_ord_int, ok_neg_int, ok_abs_int, ok_intD_bl, ok_intD_int, ok_eq_int, ok_eq_str, ok_eq_bl, ok_len_tup, ok_len_lst, isSD, wkA, wkOf, wipeL, List.map_cons, List.map_nil, List.length_cons, List.length_nil, List.replicate_succ, List.replicate_zero, List.cons_append, List.nil_append, List.getElem?_cons_zero, List.getElem?_cons_succ, List.set_cons_zero, List.set_cons_succ, if_true, Bool.false_eq_true, if_false, Bool.not_true, Bool.not_false, ok_isi_tup, ok_isi_lst, ok_isi_int, ok_isi_str, ok_isi_bl, ok_isi_non, ok_isi_dic, ok_isNon, ok_isBl, isTg, D.isNon, ari0, ari1, ari2, ari3, ari4, ari5, Ok_ok, Nat.reduceSub, Nat.reduceAdd, ofs_inj, String.reduceEq, decide_true, decide_false, fbne, tbne, intB])
local macro_rules | `(tactic| walk_at "my") => `(tactic| try simp only [ok_dDef, ok_sSeq, ok_sSet, ok_sRet, ok_sDrop, ok_sIf, ok_sNx, ok_sAsg, ok_eBin, ok_eUn, ok_eC, ok_eCall, ok_aCons, ok_aNil, ok_eTup, ok_eLst, ok_eLstM, ok_eAnd, ok_eOr, ok_eNot, ok_eIf, ok_eChain, ok_tTru, ok_tBl, ok_tAnd2, ok_tOr2, ok_tNot1, ok_eSl, ok_pNo, ok_pSo, ok_eVar, ok_gNm, ok_gIx, ok_truD_bl, ok_tYesD, ok_wAk, ok_eLcA, ok_eStar, ok_eM, ok_eGet2, ok_eDisp, ok_prsD_nil, ok_prsD_cons, ok_nwD_f, ok_nwD_t, ok_nwL_f, ok_nwL_t, ok_gCons2, ok_gNil2, ok_sPar2, ok_sMatch, ok_mCase, ok_mElse, ok_add_int, ok_sub_int, ok_ord_int, ok_neg_int, ok_abs_int, ok_intD_bl, ok_intD_int, ok_eq_int, ok_eq_str, ok_eq_bl, ok_len_tup, ok_len_lst, isSD, wkA, wkOf, wipeL, List.map_cons, List.map_nil, List.length_cons, List.length_nil, List.replicate_succ, List.replicate_zero, List.cons_append, List.nil_append, List.getElem?_cons_zero, List.getElem?_cons_succ, List.set_cons_zero, List.set_cons_succ, if_true, Bool.false_eq_true, if_false, Bool.not_true, Bool.not_false, ok_isi_tup, ok_isi_lst, ok_isi_int, ok_isi_str, ok_isi_bl, ok_isi_non, ok_isi_dic, ok_isNon, ok_isBl, isTg, D.isNon, ari0, ari1, ari2, ari3, ari4, ari5, Ok_ok, Nat.reduceSub, Nat.reduceAdd, ofs_inj, String.reduceEq, decide_true, decide_false, fbne, tbne, intB])
theorem putKs_len (ks : List Key) (k : Key) : (putKs ks k).length ≤ ks.length + 1 := by
  unfold putKs
  split <;> simp
/-- the dict of a comprehension whose parts change nothing -/
theorem dc_map {mu : Bool} {ok : Sto → Bool} {t : D → Lc → Sto → R Lc} {tk tv : EF} {L : Lc} {S : Sto} (key : D → Key) (vf : D → D) (hok : ok S = true) : ∀ (ds : List D) (ks : List Key) (ws : List D), ks.length + ds.length ≤ sizeLine →
    (∀ d ∈ ds, Ok (t d L S) fun L1 S1 => S1 = S ∧ tk L1 S = .ok (keyV (key d)) S ∧ tv L1 S = .ok (vf d) S) → dcL mu ok t tYesD tk tv L ds ks ws S = nwD mu (mergeD ks ws (ds.map fun d => (key d, vf d))).1 (mergeD ks ws (ds.map fun d => (key d, vf d))).2 S
  | [], ks, ws, _, _ => by
    unfold dcL
    rw [if_pos hok]
    simp [mergeD]
  | d :: ds, ks, ws, hl, h => by
    obtain ⟨L1, S1, e1, rfl, e2, e3⟩ := (h d (by simp)).out
    have hk : keyD (keyV (key d)) = some (key d) := by cases key d <;> rfl
    unfold dcL
    rw [if_pos hok, e1]
    simp only [R.calm_ok, R.bind_ok, tYesD, if_true, e2, e3, hk]
    simp only [List.length_cons] at hl
    have := putKs_len ks (key d)
    rw [if_pos (by omega), dc_map key vf hok ds _ _ (by omega) fun d' hd' => h d' (by simp [hd'])]
    simp [mergeD]
theorem pairs_map : ∀ cs : List D, (∀ c ∈ cs, ∃ z : Str, c = .str z) → pairsD (cs.map fun c => .tup [c, .bl true]) = some (cs.map fun c => ((match c with | .str z => (Sum.inr z : Key) | _ => .inl 0), D.bl true))
  | [], _ => rfl
  | c :: cs, h => by
    obtain ⟨z, rfl⟩ := h c (by simp)
    have := pairs_map cs fun c hc => h c (by simp [hc])
    rw [List.map_cons, pairsD]
    simp only [keyD, this]
    rfl
def onceD (cs : List D) : List D := (mergeD [] [] (cs.map fun c => ((match c with | .str z => (Sum.inr z : Key) | _ => .inl 0), D.bl true))).1.map keyV
theorem e_unlike {n : Nat} {cs : List D} {S : Sto} (hn : 1 ≤ n) (hc : ∀ c ∈ cs, ∃ z : Str, c = .str z) (hl : cs.length ≤ 1000000) : f_unlike n [.lst cs] S = .ok (.lst (onceD cs)) S := by
  obtain ⟨k, rfl⟩ : ∃ k, n = k + 1 := ⟨n - 1, by omega⟩
  refine eq_of_ok ?_
  unfold f_unlike b_unlike
  walk_at "my"
  rw [ok_eDcA]
  walk_at "my"
  rw [dc_map (key := fun c => match c with | .str z => (Sum.inr z : Key) | _ => .inl 0) (vf := fun _ => .bl true) rfl _ _ _ (by rw [sizeLine_eq]; simp; omega) ?hm]
  case hm =>
    intro d hd
    obtain ⟨z, rfl⟩ := hc d hd
    walk_at "my"
    refine ⟨trivial, eq_of_ok ?_, rfl⟩
    walk_at "my"
    exact ⟨rfl, trivial⟩
  walk_at "my"
  simp only [listD, dicOf]
  walk_at "my"
  exact ⟨rfl, trivial⟩
theorem e_once {n : Nat} {cs : List D} {S : Sto} (hn : 1 ≤ n) (hc : ∀ c ∈ cs, ∃ z : Str, c = .str z) (hl : cs.length ≤ 1000000) : f_once n [.lst cs] S = .ok (.lst (onceD cs)) S := by
  obtain ⟨k, rfl⟩ : ∃ k, n = k + 1 := ⟨n - 1, by omega⟩
  have z2 : (2 : Nat) ≤ sizeLine := by rw [sizeLine_eq]; omega
  refine eq_of_ok ?_
  unfold f_once b_once
  walk_at "my"
  rw [lc_map (f := fun c => .tup [c, .bl true]) rfl _ _ (by rw [sizeLine_eq]; simp; omega) ?hm, Ok_ok]
  case hm =>
    intro d hd
    walk_at "my"
    refine ⟨trivial, eq_of_ok ?_⟩
    walk_at "my"
    simp [z2]
  rw [List.nil_append]
  unfold dictD
  simp only [dicOf, lstOf, pairs_map cs hc]
  walk_at "my"
  simp only [listD, dicOf]
  walk_at "my"
  exact ⟨rfl, trivial⟩
theorem dpt_str (z : Str) : dpt (.str z) = 0 := by simp [dpt]
theorem LT_SG : ∀ c ∈ LT.cps.toList, c ∈ SG.cps.toList := by decide +kernel
theorem name_SG {z : Str} (h : nameB (.str z) = true) : ∀ c ∈ z.cps.toList, c ∈ SG.cps.toList := by
  unfold nameB wordB at h
  simp only [Bool.and_eq_true, List.all_eq_true, decide_eq_true_eq] at h
  exact fun c hc => LT_SG c (h.2.2 c hc)
theorem word_ok {w : Str} {n : Nat} (h : arity w n) : PyData.strOk w = true ∧ w.length ≤ 20 := by
  have : ∀ w ∈ ("list" :: "size" :: pairs : List Str), PyData.strOk w = true ∧ w.length ≤ 20 := by decide +kernel
  refine this w ?_
  rcases h with ⟨h, _⟩ | ⟨rfl, _⟩ | ⟨rfl, _⟩
  · simp [h]
  · simp
  · simp
theorem Tm_nb : ∀ (m : Nat) (t : D), Tm m t → Nb t ∧ dpt t ≤ m + 6 := by
  intro m
  have lv : ∀ (m : Nat) (v : D), isVal v = true → Nb (.tup [.str "value", v]) ∧ dpt (.tup [.str "value", v]) ≤ m + 6 := by
    intro m v hv
    have h := isVal_Vl hv
    have h2 := h.1.all
    rw [Nb, Nbs, Nbs, Nbs, Nb, dpt, dpts, dpts, dpts, dpt_str, h2.2.2]
    exact ⟨⟨by decide +kernel, h2.1, trivial⟩, by omega⟩
  have ln : ∀ (m : Nat) (c : Str), nameB (.str c) = true → Nb (.tup [.str "name", .str c]) ∧ dpt (.tup [.str "name", .str c]) ≤ m + 6 := by
    intro m c hc
    rw [Nb, Nbs, Nbs, Nbs, Nb, Nb, dpt, dpts, dpts, dpts, dpt_str, dpt_str]
    exact ⟨⟨by decide +kernel, strOk_SG (name_SG hc), trivial⟩, by omega⟩
  induction m with
  | zero =>
    intro t ht
    cases ht with
    | val h => exact lv _ _ h
    | name h hl => exact ln _ _ h
  | succ m ih =>
    intro t ht
    cases ht with
    | val h => exact lv _ _ h
    | name h hl => exact ln _ _ h
    | @node _ w ts hw hs =>
      rw [Nb, Nbs, Nb, dpt, dpts, dpt_str]
      have : dpts ts ≤ m + 6 := dpts_le fun t ht => (ih t (hs t ht)).2
      exact ⟨⟨(word_ok hw).1, Nbs_of fun t ht => (ih t (hs t ht)).1⟩, by omega⟩
theorem in_pairs {w : Str} {S : Sto} (h : w ∈ pairs) : inD false (.str w) k_PAIRS S = .ok (.bl true) S := by
  unfold pairs at h
  simp only [List.mem_cons, List.not_mem_nil, or_false] at h
  rcases h with rfl | rfl | rfl | rfl | rfl | rfl | rfl | rfl <;> kernel_rfl
theorem in_pairs_list {S : Sto} : inD false (.str "list") k_PAIRS S = .ok (.bl false) S := by kernel_rfl
theorem in_pairs_size {S : Sto} : inD false (.str "size") k_PAIRS S = .ok (.bl false) S := by kernel_rfl
theorem get_list {a b : D} {S : Sto} : getD2 (.dic (mergeD [] [] [((Sum.inr "list" : Key), a), (Sum.inr "size", b)]).1 (mergeD [] [] [((Sum.inr "list" : Key), a), (Sum.inr "size", b)]).2) (.str "list") (.bl false) S = .ok a S := by kernel_rfl
theorem get_size {a b : D} {S : Sto} : getD2 (.dic (mergeD [] [] [((Sum.inr "list" : Key), a), (Sum.inr "size", b)]).1 (mergeD [] [] [((Sum.inr "list" : Key), a), (Sum.inr "size", b)]).2) (.str "size") (.bl false) S = .ok b S := by kernel_rfl
theorem e_isexp : ∀ (m n : Nat) (l : Int) (t : D) (S : Sto), Tm m t → m ≤ 20 → (m : Int) < l → m + 12 ≤ n → f_is_deep_expression n [t, .int l] S = .ok (.bl true) S := by
  intro m
  have hne : ∀ (m : Nat) (w : D) (ts : List D) (S : Sto) (Q : D → Sto → Prop), Nb (.tup (w :: ts)) → dpt (.tup (w :: ts)) ≤ 60 → Ok (eqD false (.tup (w :: ts)) (.tup []) S) Q = Q (.bl false) S := by
    intro m w ts S Q h1 h2
    rw [eq_nb h1 (by simp [Nb, Nbs]) h2 (by simp [dpt, dpts]), Ok_ok, fbne]
    simp [D.beq, D.beqs]
  have lv : ∀ (n : Nat) (l : Int) (v : D) (S : Sto), isVal v = true → 0 < l → 12 ≤ n → f_is_deep_expression n [.tup [.str "value", v], .int l] S = .ok (.bl true) S := by
    intro n l v S hv hl hn
    obtain ⟨k, rfl⟩ : ∃ k, n = k + 1 := ⟨n - 1, by omega⟩
    have nb := Tm_nb 0 _ (.val hv)
    refine eq_of_ok ?_
    unfold f_is_deep_expression b_is_deep_expression
    walk_at "my"
    refine ⟨Nat.zero_le _, ?_⟩
    rw [hne 0 _ _ _ _ nb.1 (by omega)]
    walk_at "my"
    rw [tup_ix0]
    walk_at "my"
    simp only [show ¬ l = 0 by omega]
    walk_at "my"
    rw [ok_gSt (by simp)]
    simp only [List.take_succ_cons, List.take_zero, List.drop_succ_cons, List.drop_zero]
    walk_at "my"
    rw [ok_ix_lst (d := v) rfl, e_is_value (by omega) (isVal_Vl hv).1.all.2.1, hv, Ok_ok]
    exact ⟨rfl, rfl⟩
  have ln : ∀ (n : Nat) (l : Int) (c : Str) (S : Sto), nameB (.str c) = true → c.length ≤ 12 → 0 < l → 12 ≤ n → f_is_deep_expression n [.tup [.str "name", .str c], .int l] S = .ok (.bl true) S := by
    intro n l c S hv hcl hl hn
    obtain ⟨k, rfl⟩ : ∃ k, n = k + 1 := ⟨n - 1, by omega⟩
    have nb := Tm_nb 0 _ (.name hv hcl)
    refine eq_of_ok ?_
    unfold f_is_deep_expression b_is_deep_expression
    walk_at "my"
    refine ⟨Nat.zero_le _, ?_⟩
    rw [hne 0 _ _ _ _ nb.1 (by omega)]
    walk_at "my"
    rw [tup_ix0]
    walk_at "my"
    simp only [show ¬ l = 0 by omega]
    walk_at "my"
    rw [ok_gSt (by simp)]
    simp only [List.take_succ_cons, List.take_zero, List.drop_succ_cons, List.drop_zero]
    walk_at "my"
    rw [ok_ix_lst (d := .str c) rfl, e_is_name (by omega) (by rw [Fit]; omega), hv, Ok_ok]
    exact ⟨rfl, rfl⟩
  induction m with
  | zero =>
    intro n l t S ht h20 hl hn
    cases ht with
    | val h => exact lv n l _ S h (by omega) (by omega)
    | name h hc => exact ln n l _ S h hc (by omega) (by omega)
  | succ m ih =>
    intro n l t S ht h20 hl hn
    have nb := Tm_nb _ _ ht
    cases ht with
    | val h => exact lv n l _ S h (by omega) (by omega)
    | name h hc => exact ln n l _ S h hc (by omega) (by omega)
    | @node _ w ts hw hs =>
      obtain ⟨h1, h2⟩ := arity_ne hw
      have hlen := arity_len hw
      obtain ⟨k, rfl⟩ : ∃ k, n = k + 1 := ⟨n - 1, by omega⟩
      refine eq_of_ok ?_
      unfold f_is_deep_expression b_is_deep_expression
      walk_at "my"
      refine ⟨Nat.zero_le _, ?_⟩
      rw [hne 0 _ _ _ _ nb.1 (by omega)]
      walk_at "my"
      rw [tup_ix0]
      walk_at "my"
      simp only [show ¬ l = 0 by omega]
      walk_at "my"
      rw [ok_gSt (by simp)]
      simp only [List.take_succ_cons, List.take_zero, List.drop_succ_cons, List.drop_zero]
      walk_at "my"
      simp only [h1, h2]
      walk_at "my"
      unfold k_MAX_PARTS
      simp only [keysP, keyD]
      walk_at "my"
      simp only [dicOf, show (2 : Nat) ≤ 15 from by omega, if_true, Option.isSome_some]
      have all : ∀ (x y : Option D), Ok (lcL (fun _ => true) (gNm 5) tYesD (eCall (ari 2 (f_is_deep_expression k)) (aCons (eVar 5) (aCons (eBin subD (eVar 1) (eC (.int 1))) aNil))) [some (.tup (.str w :: ts)), some (.int l), some (.str w), some (.lst ts), x, none] ts [] S) (fun x S1 => Ok (allD [x] S1) fun d S' => d = .bl true ∧ S' = S) := by
        intro x y
        rw [lc_map (f := fun _ => .bl true) rfl _ _ (by rw [sizeLine_eq]; simp; omega) ?hm, Ok_ok]
        case hm =>
          intro t ht
          walk_at "my"
          refine ⟨trivial, eq_of_ok ?_⟩
          walk_at "my"
          rw [ih k (l - 1) t S (hs t ht) (by omega) (by omega) (by omega), Ok_ok]
          exact ⟨rfl, rfl⟩
        rw [List.nil_append, ok_all_map ts (fun _ => true)]
        simp
      rcases hw with ⟨hp, hl2⟩ | ⟨rfl, hl2⟩ | ⟨rfl, hl2⟩
      · rw [in_pairs hp, Ok_ok]
        simp only [hl2, show ((2 : Nat) : Int) = 2 from rfl]
        walk_at "my"
        exact all _ none
      · rw [in_pairs_list, Ok_ok]
        simp only [get_list, Ok_ok]
        simp only [show (ts.length : Int) ≤ 10 by omega]
        walk_at "my"
        exact all _ none
      · rw [in_pairs_size, Ok_ok]
        simp only [get_size, Ok_ok]
        simp only [show (ts.length : Int) = 1 by omega]
        walk_at "my"
        exact all _ none
end K03

namespace K03
open PySem PySem.Spec PyProof.Rows L2 VL
local macro_rules | `(tactic| walk_at "mx") => `(tactic| simp only [ok_dDef, ok_sSeq, ok_sSet, ok_sRet, ok_sDrop, ok_sIf, ok_sNx, ok_sAsg, ok_eBin, ok_eUn, ok_eC, ok_eCall, ok_aCons, ok_aNil, ok_eTup, ok_eLst, ok_eLstM, ok_eAnd, ok_eOr, ok_eNot, ok_eIf, ok_eChain, ok_tTru, ok_tBl, ok_tAnd2, ok_tOr2, ok_tNot1, ok_eSl, ok_pNo, ok_pSo, ok_eVar, ok_gNm, ok_gIx, ok_truD_bl, ok_tYesD, ok_wAk, ok_eLcA, ok_eStar, ok_eM, ok_eGet2, ok_eDisp, ok_prsD_nil, ok_prsD_cons, ok_nwD_f, ok_nwD_t, ok_nwL_f, ok_nwL_t, ok_gCons2, ok_gNil2, ok_sPar2, ok_sMatch, ok_mCase, ok_mElse, ok_add_int, ok_sub_int, ok_ord_int, ok_neg_int, ok_abs_int, ok_intD_bl, ok_intD_int, ok_eq_int, ok_eq_str, ok_eq_bl, ok_len_tup, ok_len_lst, isSD, wkA, wkOf, wipeL, List.map_cons, List.map_nil, List.length_cons, List.length_nil, List.replicate_succ, List.replicate_zero, List.cons_append, List.nil_append, List.getElem?_cons_zero, List.getElem?_cons_succ, List.set_cons_zero, List.set_cons_succ, if_true, Bool.false_eq_true, if_false, Bool.not_true, Bool.not_false, ok_isi_tup, ok_isi_lst, ok_isi_int, ok_isi_str, ok_isi_bl, ok_isi_non, ok_isi_dic, ok_isNon, ok_isBl, isTg, D.isNon, ari0, ari1, ari2, ari3, ari4, ari5, Ok_ok, Nat.reduceSub, Nat.reduceAdd, ofs_inj, String.reduceEq, decide_true, decide_false, fbne, tbne, intB])
local macro_rules | `(tactic| walk_at "my") => `(tactic| try simp only [ok_dDef, ok_sSeq, ok_sSet, ok_sRet, ok_sDrop, ok_sIf, ok_sNx, ok_sAsg, ok_eBin, ok_eUn, ok_eC, ok_eCall, ok_aCons, ok_aNil, ok_eTup, ok_eLst, ok_eLstM, ok_eAnd, ok_eOr, ok_eNot, ok_eIf, ok_eChain, ok_tTru, ok_tBl, ok_tAnd2, ok_tOr2, ok_tNot1, ok_eSl, ok_pNo, ok_pSo, ok_eVar, ok_gNm, ok_gIx, ok_truD_bl, ok_tYesD, ok_wAk, ok_eLcA, ok_eStar, ok_eM, ok_eGet2, ok_eDisp, ok_prsD_nil, ok_prsD_cons, ok_nwD_f, ok_nwD_t, ok_nwL_f, ok_nwL_t, ok_gCons2, ok_gNil2, ok_sPar2, ok_sMatch, ok_mCase, ok_mElse, ok_add_int, ok_sub_int, ok_ord_int, ok_neg_int, ok_abs_int, ok_intD_bl, ok_intD_int, ok_eq_int, ok_eq_str, ok_eq_bl, ok_len_tup, ok_len_lst, isSD, wkA, wkOf, wipeL, List.map_cons, List.map_nil, List.length_cons, List.length_nil, List.replicate_succ, List.replicate_zero, List.cons_append, List.nil_append, List.getElem?_cons_zero, List.getElem?_cons_succ, List.set_cons_zero, List.set_cons_succ, if_true, Bool.false_eq_true, if_false, Bool.not_true, Bool.not_false, ok_isi_tup, ok_isi_lst, ok_isi_int, ok_isi_str, ok_isi_bl, ok_isi_non, ok_isi_dic, ok_isNon, ok_isBl, isTg, D.isNon, ari0, ari1, ari2, ari3, ari4, ari5, Ok_ok, Nat.reduceSub, Nat.reduceAdd, ofs_inj, String.reduceEq, decide_true, decide_false, fbne, tbne, intB])
structure VarOk (ks : List Key) (vs : List D) : Prop where
  len : ks.length = vs.length
  few : ks.length ≤ 100
  nm : ∀ k ∈ ks, ∃ z : Str, k = .inr z ∧ keyB (.str z) = true ∧ nameB (.str z) = true ∧ z.length ≤ 12
  vl : ∀ v ∈ vs, isVal v = true
theorem lookK_mem : ∀ {ks : List Key} {vs : List D} {k : Key} {v : D}, lookK ks vs k = some v → v ∈ vs
  | [], vs, k, v, h => by simp [lookK] at h
  | _ :: _, [], k, v, h => by simp [lookK] at h
  | k' :: ks, d :: ds, k, v, h => by
    rw [lookK] at h
    split at h
    · cases h; simp
    · simp [lookK_mem h]
theorem VarOk.env {ks : List Key} {vs : List D} (h : VarOk ks vs) : EnvOk ks vs := ⟨fun c v e => h.vl v (lookK_mem e)⟩
theorem set_back {S : Sto} {i : Nat} {o o' : Ob} (e : S[i]? = some o) : (S.set i o').set i o = S := by
  rw [List.set_set]
  apply List.ext_getElem?
  intro j
  by_cases h : i = j
  · subst h
    rw [List.getElem?_set_self (List.getElem?_eq_some_iff.mp e).1, e]
  · rw [List.getElem?_set_ne h]
theorem unlk_ok {S : Sto} {i : Nat} {ks : List Key} {vs : List D} {Q : Unit → Sto → Prop} (e : S[i]? = some (.dic ks vs)) : Ok (unlk i (S.set i (.dlk ks vs))) Q = Q () S := by
  unfold unlk
  rw [List.getElem?_set_self (List.getElem?_eq_some_iff.mp e).1]
  simp only [Ok_ok, set_back e]
theorem zipW_mem : ∀ {ks : List Key} {vs : List D} {d : D}, d ∈ List.zipWith (fun k v => D.tup [keyV k, v]) ks vs → ∃ k v, d = .tup [keyV k, v] ∧ k ∈ ks ∧ v ∈ vs
  | [], _, _, h => by simp at h
  | _ :: _, [], _, h => by simp at h
  | a :: as, b :: bs, d, h => by
    rw [List.zipWith_cons_cons] at h
    rcases List.mem_cons.mp h with rfl | h
    · exact ⟨a, b, rfl, by simp, by simp⟩
    · obtain ⟨x, y, e, hx, hy⟩ := zipW_mem h
      exact ⟨x, y, e, by simp [hx], by simp [hy]⟩
theorem e_is_state {n i : Nat} {ks : List Key} {vs : List D} {S : Sto} (hn : 11 ≤ n) (e : S[i]? = some (.dic ks vs)) (h : VarOk ks vs) : f_is_state n [.ref i] S = .ok (.bl true) S := by
  obtain ⟨k, rfl⟩ : ∃ k, n = k + 1 := ⟨n - 1, by omega⟩
  refine eq_of_ok ?_
  unfold f_is_state b_is_state
  walk_at "my"
  have hd : isiD .dict (.ref i) S = .ok (.bl true) S := by
    unfold isiD tgD
    simp only [e]
    rfl
  rw [hd, Ok_ok]
  walk_at "my"
  simp only [e]
  have hfew := h.few
  rw [lc_map (f := fun _ => .bl true) rfl _ _ (by simp only [DW.ds]; rw [sizeLine_eq]; simp; omega) ?hm, Ok_ok, unlk_ok e]
  case hm =>
    intro d hd
    obtain ⟨q, v, rfl, hq, hv⟩ := zipW_mem hd
    obtain ⟨z, rfl, h1, h2, h3⟩ := h.nm q hq
    rw [ok_gTp (n := 2) rfl]
    walk_at "my"
    refine ⟨trivial, eq_of_ok ?_⟩
    walk_at "my"
    simp only [keyV]
    rw [e_is_key (by omega) (by rw [Fit]; omega), h1]
    walk_at "my"
    rw [e_is_value (by omega) (isVal_Vl (h.vl v hv)).1.all.2.1, h.vl v hv, Ok_ok]
    exact ⟨rfl, rfl⟩
  rw [List.nil_append, ok_all_map _ (fun _ => true)]
  simp
theorem e_are_variables {n i : Nat} {ks : List Key} {vs : List D} {S : Sto} (hn : 12 ≤ n) (e : S[i]? = some (.dic ks vs)) (h : VarOk ks vs) : f_are_variables n [.ref i] S = .ok (.bl true) S := by
  obtain ⟨k, rfl⟩ : ∃ k, n = k + 1 := ⟨n - 1, by omega⟩
  refine eq_of_ok ?_
  unfold f_are_variables b_are_variables
  walk_at "my"
  rw [e_is_state (by omega) e h, Ok_ok]
  walk_at "my"
  simp only [e]
  have hfew := h.few
  rw [lc_map (f := fun _ => .bl true) rfl _ _ (by simp only [DW.ds]; rw [sizeLine_eq]; simp; omega) ?hm, Ok_ok, unlk_ok e]
  case hm =>
    intro d hd
    simp only [DW.ds] at hd
    obtain ⟨q, hq, rfl⟩ := List.mem_map.mp hd
    obtain ⟨z, rfl, h1, h2, h3⟩ := h.nm q hq
    walk_at "my"
    refine ⟨trivial, eq_of_ok ?_⟩
    walk_at "my"
    simp only [keyV]
    rw [e_is_name (by omega) (by rw [Fit]; omega), h2, Ok_ok]
    exact ⟨rfl, rfl⟩
  rw [List.nil_append, ok_all_map _ (fun _ => true)]
  simp
theorem e_check_variables {n i : Nat} {ks : List Key} {vs : List D} {S : Sto} (hn : 13 ≤ n) (e : S[i]? = some (.dic ks vs)) (h : VarOk ks vs) : f_check_variables n [.ref i] S = .ok .non S := by
  obtain ⟨k, rfl⟩ : ∃ k, n = k + 1 := ⟨n - 1, by omega⟩
  refine eq_of_ok ?_
  unfold f_check_variables b_check_variables
  walk_at "my"
  rw [e_are_variables (by omega) e h, Ok_ok]
  walk_at "my"
  simp
theorem e_is_expression {m n : Nat} {t : D} {S : Sto} (ht : Tm m t) (hm : m ≤ 7) (hn : m + 13 ≤ n) : f_is_expression n [t] S = .ok (.bl true) S := by
  obtain ⟨k, rfl⟩ : ∃ k, n = k + 1 := ⟨n - 1, by omega⟩
  refine eq_of_ok ?_
  unfold f_is_expression b_is_expression k_MAX_DEPTH
  walk_at "my"
  rw [e_isexp m k 8 t S ht (by omega) (by omega) (by omega), Ok_ok]
  exact ⟨rfl, rfl⟩
theorem e_evaluate {m n i : Nat} {t : D} {ks : List Key} {vs : List D} {S : Sto} (ht : Tm m t) (hm : m ≤ 7) (hn : 22 ≤ n) (e : S[i]? = some (.dic ks vs)) (h : VarOk ks vs) : Ok (f_evaluate n [t, .ref i] S) fun d S' => d = tagD (ev (envOf ks vs) t) ∧ Same S.length S S' := by
  obtain ⟨k, rfl⟩ : ∃ k, n = k + 1 := ⟨n - 1, by omega⟩
  unfold f_evaluate b_evaluate
  walk_at "my"
  rw [e_is_expression ht hm (by omega), Ok_ok]
  walk_at "my"
  rw [e_check_variables (by omega) e h, Ok_ok]
  walk_at "my"
  exact (e_result_of h.env m k t S i ht (by omega) e).mono fun d S' hd => hd
theorem e_names_in {m n : Nat} {t : D} {S : Sto} (ht : Tm m t) (hm : m ≤ 6) (hn : 22 ≤ n) : f_names_in n [t] S = .ok (.lst (onceD (nms t))) S := by
  obtain ⟨k, rfl⟩ : ∃ k, n = k + 1 := ⟨n - 1, by omega⟩
  have hno := nms_ok m t ht
  have hlt : (nms t).length ≤ 1000000 := by
    have : 10 ^ m ≤ 10 ^ 6 := Nat.pow_le_pow_right (by decide) hm
    omega
  refine eq_of_ok ?_
  unfold f_names_in b_names_in
  walk_at "my"
  rw [e_is_expression ht (by omega) (by omega), Ok_ok]
  walk_at "my"
  rw [e_names m k t S ht hm (by omega), Ok_ok, e_unlike (by omega) (fun c hc => by obtain ⟨z, rfl, _⟩ := hno.1 c hc; exact ⟨z, rfl⟩) hlt, Ok_ok]
  exact ⟨rfl, rfl⟩
/-! random terms -/
theorem o_draw {n i : Nat} {m : Int} {S : Sto} {Q : D → Sto → Prop} (hn : 1 ≤ n) (hp : PoolOk S i) (h0 : 0 < m) (h1 : m < 18446744073709551616) (h : ∀ r o, 0 ≤ r → r < m → PoolOk (S.set i o) i → Q (.int r) (S.set i o)) : Ok (f_draw n [.ref i, .int m] S) Q := by
  obtain ⟨k, rfl⟩ : ∃ k, n = k + 1 := ⟨n - 1, by omega⟩
  exact draw0 hp h0 h1 h
theorem o_pool {n : Nat} {ns : List Int} {S : Sto} {j : Int} {Q : D → Sto → Prop} (hn' : 1 ≤ n) (hn : ns.length ≤ 63) (hb : ∀ z ∈ ns, Builtin.Int.intBits z ≤ 1048576) (h0 : 0 ≤ j) (h1 : j < 1000) (h : ∀ o, PoolOk (S ++ [o]) S.length → Q (.ref S.length) (S ++ [o])) : Ok (f_pool n [.scr ns, .int j] S) Q := by
  obtain ⟨k, rfl⟩ : ∃ k, n = k + 1 := ⟨n - 1, by omega⟩
  exact pool0 hn hb h0 h1 h
def e13 : EF := (eLst (aCons (eC (.int 0)) (aCons (eC (.int 1)) (aCons (eUn negD (eC (.int 7))) (aCons (eBin powD (eC (.int 10)) (eC (.int 59))) (aCons (eBin subD (eC (.int 3)) (eBin powD (eC (.int 10)) (eC (.int 60)))) (aCons (eC (.str "")) (aCons (eC (.str "ab")) (aCons (eBin mul2D (eC (.str "x")) (eC (.int 40))) (aCons (eTup aNil) (aCons (eTup (aCons (eC (.int 1)) (aCons (eC (.str "a")) aNil))) (aCons (eTup (aCons (eTup (aCons (eC (.int 2)) aNil)) (aCons (eC (.int 3)) aNil))) (aCons (eBin mul2D (eTup (aCons (eC (.int 1)) aNil)) (eC (.int 30))) (aCons (eC (.int 5)) aNil))))))))))))))
def vals13 : List D := [.int 0, .int 1, .int (-7), .int (10 ^ 59), .int (3 - 10 ^ 60), .str "", .str "ab", .str (Txt.mul "x" 40), .tup [], .tup [.int 1, .str "a"], .tup [.tup [.int 2], .int 3], .tup (List.replicate 30 [D.int 1]).flatten, .int 5]
theorem e13_eq (L : Lc) (S : Sto) : e13 L S = .ok (.lst vals13) S := by kernel_rfl
theorem vals13_ok : vals13.all isVal = true := by decide +kernel
def words10 : List D := [.str "add", .str "subtract", .str "multiply", .str "divide", .str "less", .str "equal", .str "join", .str "item", .str "list", .str "size"]
def e10 : EF := (eLst (aCons (eC (.str "add")) (aCons (eC (.str "subtract")) (aCons (eC (.str "multiply")) (aCons (eC (.str "divide")) (aCons (eC (.str "less")) (aCons (eC (.str "equal")) (aCons (eC (.str "join")) (aCons (eC (.str "item")) (aCons (eC (.str "list")) (aCons (eC (.str "size")) aNil)))))))))))
theorem e10_eq (L : Lc) (S : Sto) : e10 L S = .ok (.lst words10) S := by kernel_rfl
theorem at_range {ds : List D} {r : Int} (h0 : 0 ≤ r) (h1 : r < ds.length) : ∃ d ∈ ds, atI ds r = some d := atI_in h0 h1
theorem abcde {r : Int} (h0 : 0 ≤ r) (h1 : r < 5) : ∃ c : Str, (∀ {S : Sto} {Q : D → Sto → Prop}, Ok (ix2D (.str "abcde") (.int r) S) Q = Q (.str c) S) ∧ nameB (.str c) = true ∧ c.length ≤ 12 := by
  have h : r = 0 ∨ r = 1 ∨ r = 2 ∨ r = 3 ∨ r = 4 := by omega
  have key : ∀ (r : Int) (c : Str), (∀ S, ix2D (.str "abcde") (.int r) S = .ok (.str c) S) → nameB (.str c) = true → c.length ≤ 12 → ∃ c : Str, (∀ {S : Sto} {Q : D → Sto → Prop}, Ok (ix2D (.str "abcde") (.int r) S) Q = Q (.str c) S) ∧ nameB (.str c) = true ∧ c.length ≤ 12 := fun r c h1 h2 h3 => ⟨c, fun {S Q} => by rw [h1, Ok_ok], h2, h3⟩
  rcases h with rfl | rfl | rfl | rfl | rfl
  · exact key 0 "a" (fun S => by kernel_rfl) (by decide +kernel) (by decide +kernel)
  · exact key 1 "b" (fun S => by kernel_rfl) (by decide +kernel) (by decide +kernel)
  · exact key 2 "c" (fun S => by kernel_rfl) (by decide +kernel) (by decide +kernel)
  · exact key 3 "d" (fun S => by kernel_rfl) (by decide +kernel) (by decide +kernel)
  · exact key 4 "e" (fun S => by kernel_rfl) (by decide +kernel) (by decide +kernel)
end K03

namespace K03
open PySem PySem.Spec PyProof.Rows L2 VL
local macro_rules | `(tactic| walk_at "mx") => `(tactic| simp only [ok_dDef, ok_sSeq, ok_sSet, ok_sRet, ok_sDrop, ok_sIf, ok_sNx, ok_sAsg, ok_eBin, ok_eUn, ok_eC, ok_eCall, ok_aCons, ok_aNil, ok_eTup, ok_eLst, ok_eLstM, ok_eAnd, ok_eOr, ok_eNot, ok_eIf, ok_eChain, ok_tTru, ok_tBl, ok_tAnd2, ok_tOr2, ok_tNot1, ok_eSl, ok_pNo, ok_pSo, ok_eVar, ok_gNm, ok_gIx, ok_truD_bl, ok_tYesD, ok_wAk, ok_eLcA, ok_eStar, ok_eM, ok_eGet2, ok_eDisp, ok_prsD_nil, ok_prsD_cons, ok_nwD_f, ok_nwD_t, ok_nwL_f, ok_nwL_t, ok_gCons2, ok_gNil2, ok_sPar2, ok_sMatch, ok_mCase, ok_mElse, ok_add_int, ok_sub_int, ok_ord_int, ok_neg_int, ok_abs_int, ok_intD_bl, ok_intD_int, ok_eq_int, ok_eq_str, ok_eq_bl, ok_len_tup, ok_len_lst, isSD, wkA, wkOf, wipeL, List.map_cons, List.map_nil, List.length_cons, List.length_nil, List.replicate_succ, List.replicate_zero, List.cons_append, List.nil_append, List.getElem?_cons_zero, List.getElem?_cons_succ, List.set_cons_zero, List.set_cons_succ, if_true, Bool.false_eq_true, if_false, Bool.not_true, Bool.not_false, ok_isi_tup, ok_isi_lst, ok_isi_int, ok_isi_str, ok_isi_bl, ok_isi_non, ok_isi_dic, ok_isNon, ok_isBl, isTg, D.isNon, ari0, ari1, ari2, ari3, ari4, ari5, Ok_ok, Nat.reduceSub, Nat.reduceAdd, ofs_inj, String.reduceEq, decide_true, decide_false, fbne, tbne, intB])
local macro_rules | `(tactic| walk_at "my") => `(tactic| try simp only [ok_dDef, ok_sSeq, ok_sSet, ok_sRet, ok_sDrop, ok_sIf, ok_sNx, ok_sAsg, ok_eBin, ok_eUn, ok_eC, ok_eCall, ok_aCons, ok_aNil, ok_eTup, ok_eLst, ok_eLstM, ok_eAnd, ok_eOr, ok_eNot, ok_eIf, ok_eChain, ok_tTru, ok_tBl, ok_tAnd2, ok_tOr2, ok_tNot1, ok_eSl, ok_pNo, ok_pSo, ok_eVar, ok_gNm, ok_gIx, ok_truD_bl, ok_tYesD, ok_wAk, ok_eLcA, ok_eStar, ok_eM, ok_eGet2, ok_eDisp, ok_prsD_nil, ok_prsD_cons, ok_nwD_f, ok_nwD_t, ok_nwL_f, ok_nwL_t, ok_gCons2, ok_gNil2, ok_sPar2, ok_sMatch, ok_mCase, ok_mElse, ok_add_int, ok_sub_int, ok_ord_int, ok_neg_int, ok_abs_int, ok_intD_bl, ok_intD_int, ok_eq_int, ok_eq_str, ok_eq_bl, ok_len_tup, ok_len_lst, isSD, wkA, wkOf, wipeL, List.map_cons, List.map_nil, List.length_cons, List.length_nil, List.replicate_succ, List.replicate_zero, List.cons_append, List.nil_append, List.getElem?_cons_zero, List.getElem?_cons_succ, List.set_cons_zero, List.set_cons_succ, if_true, Bool.false_eq_true, if_false, Bool.not_true, Bool.not_false, ok_isi_tup, ok_isi_lst, ok_isi_int, ok_isi_str, ok_isi_bl, ok_isi_non, ok_isi_dic, ok_isNon, ok_isBl, isTg, D.isNon, ari0, ari1, ari2, ari3, ari4, ari5, Ok_ok, Nat.reduceSub, Nat.reduceAdd, ofs_inj, String.reduceEq, decide_true, decide_false, fbne, tbne, intB])
/-- only the pool has changed -/
structure Pl (p : Nat) (S S' : Sto) : Prop where
  is : ∃ o, S' = S.set p o
  ok : PoolOk S' p
theorem Pl.refl {p : Nat} {S : Sto} (h : PoolOk S p) : Pl p S S := by
  refine ⟨?_, h⟩
  obtain ⟨a, b, e, _⟩ := h
  refine ⟨.lst [.int a, .int b], ?_⟩
  have := set_back (o' := .lst [.int a, .int b]) e
  rw [List.set_set] at this
  exact this.symm
theorem Pl.trans {p : Nat} {S S1 S2 : Sto} (a : Pl p S S1) (b : Pl p S1 S2) : Pl p S S2 := by
  obtain ⟨⟨o, rfl⟩, _⟩ := a
  obtain ⟨⟨o', rfl⟩, h⟩ := b
  rw [List.set_set] at h ⊢
  exact ⟨⟨o', rfl⟩, h⟩
theorem Pl.of {p : Nat} {S : Sto} {o : Ob} (h : PoolOk (S.set p o) p) : Pl p S (S.set p o) := ⟨⟨o, rfl⟩, h⟩
theorem Pl.len {p : Nat} {S S' : Sto} (h : Pl p S S') : S'.length = S.length := by
  obtain ⟨⟨o, rfl⟩, _⟩ := h
  simp
theorem Pl.get {p i : Nat} {S S' : Sto} (h : Pl p S S') (hi : i ≠ p) : S'[i]? = S[i]? := by
  obtain ⟨⟨o, rfl⟩, _⟩ := h
  exact List.getElem?_set_ne (Ne.symm hi)
theorem o_drawP {n i : Nat} {m : Int} {S : Sto} {Q : D → Sto → Prop} (hn : 1 ≤ n) (hp : PoolOk S i) (h0 : 0 < m) (h1 : m < 18446744073709551616) (h : ∀ r S', 0 ≤ r → r < m → Pl i S S' → Q (.int r) S') : Ok (f_draw n [.ref i, .int m] S) Q :=
  o_draw hn hp h0 h1 fun r o a b c => h r _ a b (.of c)
def cntD (w : Str) (r : Int) : Int := if w = "list" then r else if w = "size" then 1 else 2
theorem get_cnt {w : Str} {r : Int} {S : Sto} (h : D.str w ∈ words10) : getD2 (.dic (mergeD [] [] [((Sum.inr "list" : Key), D.int r), (Sum.inr "size", D.int 1)]).1 (mergeD [] [] [((Sum.inr "list" : Key), D.int r), (Sum.inr "size", D.int 1)]).2) (.str w) (.int 2) S = .ok (.int (cntD w r)) S := by
  unfold words10 at h
  simp only [List.mem_cons, List.not_mem_nil, or_false, D.str.injEq] at h
  rcases h with rfl | rfl | rfl | rfl | rfl | rfl | rfl | rfl | rfl | rfl <;> kernel_rfl
theorem cnt_arity {w : Str} {r : Int} (h : D.str w ∈ words10) (h0 : 0 ≤ r) (h1 : r < 5) : 0 ≤ cntD w r ∧ cntD w r < 5 ∧ arity w (cntD w r).toNat := by
  have two : ∀ w : Str, w ∈ pairs → cntD w r = 2 → 0 ≤ cntD w r ∧ cntD w r < 5 ∧ arity w (cntD w r).toNat := fun w hw e => by
    rw [e]
    exact ⟨by omega, by omega, .inl ⟨hw, rfl⟩⟩
  unfold words10 at h
  simp only [List.mem_cons, List.not_mem_nil, or_false, D.str.injEq] at h
  rcases h with rfl | rfl | rfl | rfl | rfl | rfl | rfl | rfl | rfl | rfl
  · exact two _ (by simp [pairs]) (by simp only [cntD, ofs_inj, String.reduceEq, if_false, if_true])
  · exact two _ (by simp [pairs]) (by simp only [cntD, ofs_inj, String.reduceEq, if_false, if_true])
  · exact two _ (by simp [pairs]) (by simp only [cntD, ofs_inj, String.reduceEq, if_false, if_true])
  · exact two _ (by simp [pairs]) (by simp only [cntD, ofs_inj, String.reduceEq, if_false, if_true])
  · exact two _ (by simp [pairs]) (by simp only [cntD, ofs_inj, String.reduceEq, if_false, if_true])
  · exact two _ (by simp [pairs]) (by simp only [cntD, ofs_inj, String.reduceEq, if_false, if_true])
  · exact two _ (by simp [pairs]) (by simp only [cntD, ofs_inj, String.reduceEq, if_false, if_true])
  · exact two _ (by simp [pairs]) (by simp only [cntD, ofs_inj, String.reduceEq, if_false, if_true])
  · have : cntD "list" r = r := by simp only [cntD, if_true]
    rw [this]
    exact ⟨h0, h1, .inr (.inl ⟨rfl, by omega⟩)⟩
  · have : cntD "size" r = 1 := by simp only [cntD, ofs_inj, String.reduceEq, if_false, if_true]
    rw [this]
    exact ⟨by omega, by omega, .inr (.inr ⟨rfl, rfl⟩)⟩
theorem words_str : ∀ {d : D}, d ∈ words10 → ∃ w : Str, d = .str w := by
  intro d h
  unfold words10 at h
  simp only [List.mem_cons, List.not_mem_nil, or_false] at h
  rcases h with rfl | rfl | rfl | rfl | rfl | rfl | rfl | rfl | rfl | rfl <;> exact ⟨_, rfl⟩
theorem o_random {p : Nat} : ∀ (m n : Nat) (S : Sto), PoolOk S p → m + 2 ≤ n → Ok (f_random_term n [.ref p, .int (m : Int)] S) fun t S' => Tm m t ∧ Pl p S S' := by
  have z2 : (2 : Nat) ≤ sizeLine := by rw [sizeLine_eq]; omega
  have z1 : (1 : Nat) ≤ sizeLine := by rw [sizeLine_eq]; omega
  have hev : ∀ (L : Lc) (S : Sto) (Q : D → Sto → Prop), Ok (e13 L S) Q = Q (.lst vals13) S := fun L S Q => by rw [e13_eq, Ok_ok]
  have he10 : ∀ (L : Lc) (S : Sto) (Q : D → Sto → Prop), Ok (e10 L S) Q = Q (.lst words10) S := fun L S Q => by rw [e10_eq, Ok_ok]
  unfold e13 at hev
  unfold e10 at he10
  have leaf : ∀ (m k : Nat) (r : Int) (S0 S : Sto) (L : Lc) (hL : L = [some (.ref p), some (.int (m : Int)), some (.int r), none, none, none, none, none]), 1 ≤ k → PoolOk S p → Pl p S0 S → r = 0 ∨ r = 1 → ∀ (B : SF),
      Ok (sSeq (sIf (tBl (eBin (eqD false) (eVar 2) (eC (.int 0))))
    (sSeq (sSet 3 (eLst (aCons (eC (.int 0)) (aCons (eC (.int 1)) (aCons (eUn negD (eC (.int 7))) (aCons (eBin powD (eC (.int 10)) (eC (.int 59))) (aCons (eBin subD (eC (.int 3)) (eBin powD (eC (.int 10)) (eC (.int 60)))) (aCons (eC (.str "")) (aCons (eC (.str "ab")) (aCons (eBin mul2D (eC (.str "x")) (eC (.int 40))) (aCons (eTup aNil) (aCons (eTup (aCons (eC (.int 1)) (aCons (eC (.str "a")) aNil))) (aCons (eTup (aCons (eTup (aCons (eC (.int 2)) aNil)) (aCons (eC (.int 3)) aNil))) (aCons (eBin mul2D (eTup (aCons (eC (.int 1)) aNil)) (eC (.int 30))) (aCons (eC (.int 5)) aNil)))))))))))))))
  (sRet (eTup (aCons (eC (.str "value")) (aCons (eBin ix2D (eVar 3) (eCall (ari 2 (f_draw k)) (aCons (eVar 0) (aCons (eC (.int 13)) aNil)))) aNil)))))
    sNx)
  (sSeq (sIf (tBl (eBin (eqD false) (eVar 2) (eC (.int 1))))
    (sRet (eTup (aCons (eC (.str "name")) (aCons (eBin ix2D (eC (.str "abcde")) (eCall (ari 2 (f_draw k)) (aCons (eVar 0) (aCons (eC (.int 5)) aNil)))) aNil))))
    sNx) B) L S) fun f S' => match f with | .rt d => Tm m d ∧ Pl p S0 S' | .nx _ => Tm m .non ∧ Pl p S0 S' | _ => False := by
    intro m k r S0 S L hL hk hp pl hr B
    subst hL
    rcases hr with rfl | rfl
    · rw [ok_sSeq, ok_sIf, ok_tBl, ok_eBin, ok_eVar]
      simp only [List.getElem?_cons_zero, List.getElem?_cons_succ, ok_eC, ok_eq_int, fbne, decide_true, if_true]
      rw [ok_sSeq, ok_sSet, hev]
      walk_at "my"
      refine o_drawP hk hp (by decide) (by decide) fun q S' h0 h1 pl1 => ?_
      obtain ⟨d, hd, e⟩ := at_range (ds := vals13) h0 (by simpa [vals13] using h1)
      rw [ok_ix_lst e]
      exact ⟨z2, .val (List.all_eq_true.mp vals13_ok d hd), pl.trans pl1⟩
    · rw [ok_sSeq, ok_sIf, ok_tBl, ok_eBin, ok_eVar]
      simp only [List.getElem?_cons_zero, List.getElem?_cons_succ, ok_eC, ok_eq_int, fbne, show ¬ ((1 : Int) = 0) by omega, decide_false, Bool.false_eq_true, if_false, ok_sNx]
      rw [ok_sSeq]
      walk_at "my"
      refine o_drawP hk hp (by decide) (by decide) fun q S' h0 h1 pl1 => ?_
      obtain ⟨c, hc, h2, h3⟩ := abcde h0 h1
      rw [hc]
      exact ⟨z2, .name h2 h3, pl.trans pl1⟩
  intro m
  induction m with
  | zero =>
    intro n S hp hn
    obtain ⟨k, rfl⟩ : ∃ k, n = k + 1 := ⟨n - 1, by omega⟩
    unfold f_random_term b_random_term
    rw [ok_dDef, ok_sSeq]
    simp only [List.map_cons, List.map_nil, List.length_cons, List.length_nil, List.replicate_succ, List.replicate_zero, List.cons_append, List.nil_append, Nat.reduceSub, Nat.reduceAdd, ok_sSet, ok_eCall, ok_aCons, ok_aNil, ok_eIf, ok_tBl, ok_eBin, ok_eVar, ok_eC, List.getElem?_cons_zero, List.getElem?_cons_succ, ok_ord_int, show ¬ ((0 : Int) < ((0 : Nat) : Int)) by omega, decide_false, Bool.false_eq_true, if_false, ari2, List.set_cons_zero, List.set_cons_succ]
    refine o_drawP (by omega) hp (by decide) (by decide) fun r S' h0 h1 pl => ?_
    exact leaf 0 k r S S' _ rfl (by omega) pl.ok pl (by omega) _
  | succ m ih =>
    intro n S hp hn
    obtain ⟨k, rfl⟩ : ∃ k, n = k + 1 := ⟨n - 1, by omega⟩
    unfold f_random_term b_random_term
    rw [ok_dDef, ok_sSeq]
    simp only [List.map_cons, List.map_nil, List.length_cons, List.length_nil, List.replicate_succ, List.replicate_zero, List.cons_append, List.nil_append, Nat.reduceSub, Nat.reduceAdd, ok_sSet, ok_eCall, ok_aCons, ok_aNil, ok_eIf, ok_tBl, ok_eBin, ok_eVar, ok_eC, List.getElem?_cons_zero, List.getElem?_cons_succ, ok_ord_int, show ((0 : Int) < ((m + 1 : Nat) : Int)) by omega, decide_true, if_true, ari2, List.set_cons_zero, List.set_cons_succ]
    refine o_drawP (by omega) hp (by decide) (by decide) fun r S1 h0 h1 pl => ?_
    by_cases hr : r = 0 ∨ r = 1
    · exact leaf (m + 1) k r S S1 _ rfl (by omega) pl.ok pl hr _
    · try simp only
      rw [ok_sSeq, ok_sIf, ok_tBl, ok_eBin, ok_eVar]
      simp only [List.getElem?_cons_zero, List.getElem?_cons_succ, ok_eC, ok_eq_int, fbne, show ¬ (r = 0) by omega, decide_false, Bool.false_eq_true, if_false, ok_sNx]
      rw [ok_sSeq, ok_sIf, ok_tBl, ok_eBin, ok_eVar]
      simp only [List.getElem?_cons_zero, List.getElem?_cons_succ, ok_eC, ok_eq_int, fbne, show ¬ (r = 1) by omega, decide_false, Bool.false_eq_true, if_false, ok_sNx]
      rw [ok_sSeq, ok_sSet, he10]
      simp only [List.set_cons_zero, List.set_cons_succ]
      rw [ok_sSeq]
      simp only [ok_sSet, ok_eCall, ok_aCons, ok_aNil, ok_eBin, ok_eVar, ok_eC, List.getElem?_cons_zero, List.getElem?_cons_succ, ari2, List.set_cons_zero, List.set_cons_succ]
      refine o_drawP (by omega) pl.ok (by decide) (by decide) fun q S2 q0 q1 pl2 => ?_
      obtain ⟨d, hd, e⟩ := at_range (ds := words10) q0 (by simpa [words10] using q1)
      obtain ⟨w, rfl⟩ := words_str hd
      rw [ok_ix_lst e]
      try simp only
      rw [ok_sSeq]
      simp only [ok_sSet, ok_eGet2, ok_eDisp, ok_prsD_cons, ok_prsD_nil, ok_eCall, ok_aCons, ok_aNil, ok_eBin, ok_eVar, ok_eC, List.getElem?_cons_zero, List.getElem?_cons_succ, ari2, List.set_cons_zero, List.set_cons_succ]
      refine o_drawP (by omega) pl2.ok (by decide) (by decide) fun u S3 u0 u1 pl3 => ?_
      simp only [keysP, keyD, List.length_cons, List.length_nil, Nat.reduceAdd, show (2 : Nat) ≤ 15 from by omega, if_true, ok_nwD_f, dicOf, Option.isSome_some, get_cnt hd, Ok_ok]
      obtain ⟨c0, c5, har⟩ := cnt_arity hd u0 u1
      generalize cntD w u = cnt at c0 c5 har
      simp only [ok_sRet, ok_eBin, ok_eTup, ok_eCall, ok_aCons, ok_aNil, ok_eVar, List.getElem?_cons_zero, List.getElem?_cons_succ, ok_eLc, ok_wRng1, List.length_cons, List.length_nil]
      refine ⟨z1, ⟨by omega, by omega⟩, ?_⟩
      have pl03 : Pl p S S3 := (pl.trans pl2).trans pl3
      refine lc_inv (I := fun rest acc S' => (∀ t ∈ acc, Tm m t) ∧ acc.length + rest.length = cnt.toNat ∧ Pl p S S') (fun d ds acc S' h => ?_) (fun acc S' h => ?_) _ _ _ ⟨by simp, by simp [rngL], pl03⟩
      · obtain ⟨hacc, hlen, pl4⟩ := h
        refine ⟨rfl, ?_⟩
        simp only [wipeL]
        walk_at "my"
        rw [show ((m + 1 : Nat) : Int) - 1 = (m : Int) by omega]
        refine (ih k S' pl4.ok (by omega)).mono fun t S5 h5 => ?_
        simp only [List.length_cons] at hlen
        refine ⟨by rw [sizeLine_eq]; omega, fun x hx => ?_, by simp; omega, pl4.trans h5.2⟩
        rcases List.mem_append.mp hx with hx | hx
        · exact hacc x hx
        · rw [List.mem_singleton.mp hx]; exact h5.1
      · obtain ⟨hacc, hlen, pl4⟩ := h
        refine ⟨rfl, ?_⟩
        simp only [tupleD, lstOf, Ok_ok, addD, List.length_cons, List.length_nil]
        simp only [List.length_nil, Nat.add_zero] at hlen
        rw [if_pos (by rw [sizeLine_eq]; omega), Ok_ok]
        simp only [List.cons_append, List.nil_append]
        exact ⟨.node (by rw [hlen]; exact har) hacc, pl4⟩
end K03

namespace K03
open PySem PySem.Spec PyProof.Rows L2 VL
local macro_rules | `(tactic| walk_at "mx") => `(tactic| simp only [ok_dDef, ok_sSeq, ok_sSet, ok_sRet, ok_sDrop, ok_sIf, ok_sNx, ok_sAsg, ok_eBin, ok_eUn, ok_eC, ok_eCall, ok_aCons, ok_aNil, ok_eTup, ok_eLst, ok_eLstM, ok_eAnd, ok_eOr, ok_eNot, ok_eIf, ok_eChain, ok_tTru, ok_tBl, ok_tAnd2, ok_tOr2, ok_tNot1, ok_eSl, ok_pNo, ok_pSo, ok_eVar, ok_gNm, ok_gIx, ok_truD_bl, ok_tYesD, ok_wAk, ok_eLcA, ok_eStar, ok_eM, ok_eGet2, ok_eDisp, ok_prsD_nil, ok_prsD_cons, ok_nwD_f, ok_nwD_t, ok_nwL_f, ok_nwL_t, ok_gCons2, ok_gNil2, ok_sPar2, ok_sMatch, ok_mCase, ok_mElse, ok_add_int, ok_sub_int, ok_ord_int, ok_neg_int, ok_abs_int, ok_intD_bl, ok_intD_int, ok_eq_int, ok_eq_str, ok_eq_bl, ok_len_tup, ok_len_lst, isSD, wkA, wkOf, wipeL, List.map_cons, List.map_nil, List.length_cons, List.length_nil, List.replicate_succ, List.replicate_zero, List.cons_append, List.nil_append, List.getElem?_cons_zero, List.getElem?_cons_succ, List.set_cons_zero, List.set_cons_succ, if_true, Bool.false_eq_true, if_false, Bool.not_true, Bool.not_false, ok_isi_tup, ok_isi_lst, ok_isi_int, ok_isi_str, ok_isi_bl, ok_isi_non, ok_isi_dic, ok_isNon, ok_isBl, isTg, D.isNon, ari0, ari1, ari2, ari3, ari4, ari5, Ok_ok, Nat.reduceSub, Nat.reduceAdd, ofs_inj, String.reduceEq, decide_true, decide_false, fbne, tbne, intB])
local macro_rules | `(tactic| walk_at "my") => `(tactic| try simp only [ok_dDef, ok_sSeq, ok_sSet, ok_sRet, ok_sDrop, ok_sIf, ok_sNx, ok_sAsg, ok_eBin, ok_eUn, ok_eC, ok_eCall, ok_aCons, ok_aNil, ok_eTup, ok_eLst, ok_eLstM, ok_eAnd, ok_eOr, ok_eNot, ok_eIf, ok_eChain, ok_tTru, ok_tBl, ok_tAnd2, ok_tOr2, ok_tNot1, ok_eSl, ok_pNo, ok_pSo, ok_eVar, ok_gNm, ok_gIx, ok_truD_bl, ok_tYesD, ok_wAk, ok_eLcA, ok_eStar, ok_eM, ok_eGet2, ok_eDisp, ok_prsD_nil, ok_prsD_cons, ok_nwD_f, ok_nwD_t, ok_nwL_f, ok_nwL_t, ok_gCons2, ok_gNil2, ok_sPar2, ok_sMatch, ok_mCase, ok_mElse, ok_add_int, ok_sub_int, ok_ord_int, ok_neg_int, ok_abs_int, ok_intD_bl, ok_intD_int, ok_eq_int, ok_eq_str, ok_eq_bl, ok_len_tup, ok_len_lst, isSD, wkA, wkOf, wipeL, List.map_cons, List.map_nil, List.length_cons, List.length_nil, List.replicate_succ, List.replicate_zero, List.cons_append, List.nil_append, List.getElem?_cons_zero, List.getElem?_cons_succ, List.set_cons_zero, List.set_cons_succ, if_true, Bool.false_eq_true, if_false, Bool.not_true, Bool.not_false, ok_isi_tup, ok_isi_lst, ok_isi_int, ok_isi_str, ok_isi_bl, ok_isi_non, ok_isi_dic, ok_isNon, ok_isBl, isTg, D.isNon, ari0, ari1, ari2, ari3, ari4, ari5, Ok_ok, Nat.reduceSub, Nat.reduceAdd, ofs_inj, String.reduceEq, decide_true, decide_false, fbne, tbne, intB])
theorem bin_fail {w : Str} {x y : D} {r : Str} (h : binR w x y = .fail r) : PyData.strOk r = true := by
  have k1 : PyData.strOk "kind" = true := by decide +kernel
  have k2 : PyData.strOk "range" = true := by decide +kernel
  have k3 : PyData.strOk "zero" = true := by decide +kernel
  unfold binR at h
  repeat' split at h
  all_goals first
    | (cases h; done)
    | (cases h; exact k1)
    | (cases h; exact k2)
    | (cases h; exact k3)
theorem fin_fail {w : Str} {vals : List D} {r : Str} (h : finR w vals = .fail r) : PyData.strOk r = true := by
  have k1 : PyData.strOk "kind" = true := by decide +kernel
  have k2 : PyData.strOk "size" = true := by decide +kernel
  unfold finR at h
  split at h
  · rename_i r' e
    cases h
    unfold combR at e
    repeat' split at e
    all_goals first
      | (cases e; done)
      | (cases e; exact k1)
      | exact bin_fail e
  · split at h
    · cases h
    · cases h; exact k2
theorem ev_fail {E : Str → Option D} : ∀ (m : Nat) (t : D), Tm m t → ∀ r, ev E t = .fail r → PyData.strOk r = true := by
  have kn : PyData.strOk "name" = true := by decide +kernel
  intro m
  have ln : ∀ (c : Str) (r : Str), ev E (.tup [.str "name", .str c]) = .fail r → PyData.strOk r = true := by
    intro c r h
    rw [ev_name] at h
    split at h
    · cases h
    · cases h; exact kn
  have lv : ∀ (v : D) (r : Str), ev E (.tup [.str "value", v]) = .fail r → PyData.strOk r = true := by
    intro v r h
    rw [ev_value] at h
    cases h
  induction m with
  | zero =>
    intro t ht r h
    cases ht with
    | val _ => exact lv _ r h
    | name _ _ => exact ln _ r h
  | succ m ih =>
    intro t ht r h
    cases ht with
    | val _ => exact lv _ r h
    | name _ _ => exact ln _ r h
    | @node _ w ts hw hs =>
      rw [ev_node hw] at h
      have es : ∀ ts : List D, (∀ t ∈ ts, Tm m t) → ∀ r, evs E ts = .error r → PyData.strOk r = true := by
        intro ts
        induction ts with
        | nil => intro _ r h; rw [evs] at h; cases h
        | cons t ts ih2 =>
          intro hs r h
          rw [evs] at h
          split at h
          · rename_i e
            cases h
            exact ih t (hs t (by simp)) _ e
          · split at h
            · rename_i e
              cases h
              exact ih2 (fun t ht => hs t (by simp [ht])) _ e
            · cases h
      split at h
      · rename_i e
        cases h
        exact es ts hs _ e
      · exact fin_fail h
theorem tagL_nb {E : Str → Option D} (hE : ∀ c v, E c = some v → isVal v = true) {m : Nat} {t : D} (ht : Tm m t) : Nb (tagL (ev E t)) ∧ dpt (tagL (ev E t)) ≤ 60 := by
  have k1 : PyData.strOk "value" = true := by decide +kernel
  have k2 : PyData.strOk "failed" = true := by decide +kernel
  cases h : ev E t with
  | val v =>
    have hv := isVal_Vl (ev_val hE ht h)
    have h2 := hv.1.all
    simp only [tagL]
    rw [Nb, Nbs, Nbs, Nbs, Nb, dpt, dpts, dpts, dpts, dpt_str, h2.2.2]
    exact ⟨⟨k1, h2.1, trivial⟩, by omega⟩
  | fail r =>
    simp only [tagL]
    rw [Nb, Nbs, Nbs, Nbs, Nb, Nb, dpt, dpts, dpts, dpts, dpt_str, dpt_str]
    exact ⟨⟨k2, ev_fail m t ht r h, trivial⟩, by omega⟩
theorem putKs_mem {ks : List Key} {k x : Key} (h : x ∈ putKs ks k) : x ∈ ks ∨ x = k := by
  unfold putKs at h
  split at h
  · exact .inl h
  · simpa using h
theorem merge_mem : ∀ (ps : List (Key × D)) (ks : List Key) (ws : List D) (x : Key), x ∈ (mergeD ks ws ps).1 → x ∈ ks ∨ ∃ p ∈ ps, p.1 = x
  | [], ks, ws, x, h => by rw [mergeD] at h; exact .inl h
  | (k, d) :: ps, ks, ws, x, h => by
    rw [mergeD] at h
    rcases merge_mem ps _ _ x h with h | ⟨p, hp, rfl⟩
    · rcases putKs_mem h with h | rfl
      · exact .inl h
      · exact .inr ⟨(x, d), by simp, rfl⟩
    · exact .inr ⟨p, by simp [hp], rfl⟩
theorem once_nb {cs : List D} (h : ∀ c ∈ cs, ∃ z : Str, c = .str z ∧ nameB (.str z) = true ∧ z.length ≤ 12) : Nb (.lst (onceD cs)) ∧ dpt (.lst (onceD cs)) ≤ 60 := by
  have hk : ∀ d ∈ onceD cs, ∃ z : Str, d = .str z ∧ PyData.strOk z = true := by
    intro d hd
    unfold onceD at hd
    obtain ⟨k, hk, rfl⟩ := List.mem_map.mp hd
    rcases merge_mem _ _ _ k hk with hk | ⟨q, hq, rfl⟩
    · simp at hk
    · obtain ⟨c, hc, rfl⟩ := List.mem_map.mp hq
      obtain ⟨z, rfl, h1, h2⟩ := h c hc
      exact ⟨z, rfl, strOk_SG (name_SG h1)⟩
  rw [Nb, dpt]
  refine ⟨Nbs_of fun d hd => ?_, ?_⟩
  · obtain ⟨z, rfl, hz⟩ := hk d hd
    rw [Nb]; exact hz
  · have : dpts (onceD cs) ≤ 0 := dpts_le fun d hd => by
      obtain ⟨z, rfl, hz⟩ := hk d hd
      rw [dpt_str]; omega
    omega
theorem list_tag {r : Res} {S : Sto} : listD false [tagD r] S = .ok (tagL r) S := by
  cases r <;> rfl
theorem eq_self {x : D} {S : Sto} (h : Nb x ∧ dpt x ≤ 60) : eqD true x x S = .ok (.bl false) S := by
  rw [eq_nb h.1 h.1 h.2 h.2, D.beq_refl]
  rfl
/-! the dict of variables -/
theorem mrg {x y : D} : (mergeD [] [] [((Sum.inr "a" : Key), x), (Sum.inr "b", y)]) = ([.inr "a", .inr "b"], [x, y]) := by kernel_rfl
theorem putk : putKs [(Sum.inr "a" : Key), .inr "b"] (.inr "c") = [.inr "a", .inr "b", .inr "c"] := by kernel_rfl
theorem putv {x y z : D} : putVs [(Sum.inr "a" : Key), .inr "b"] [x, y] (.inr "c") z = [x, y, z] := by kernel_rfl
theorem var_ok {x y z : D} (hx : isVal x = true) (hy : isVal y = true) (hz : isVal z = true) : VarOk [.inr "a", .inr "b", .inr "c"] [x, y, z] := by
  refine ⟨rfl, by simp, fun k hk => ?_, fun v hv => ?_⟩
  · simp only [List.mem_cons, List.not_mem_nil, or_false] at hk
    rcases hk with rfl | rfl | rfl
    · exact ⟨_, rfl, by decide +kernel, by decide +kernel, by decide +kernel⟩
    · exact ⟨_, rfl, by decide +kernel, by decide +kernel, by decide +kernel⟩
    · exact ⟨_, rfl, by decide +kernel, by decide +kernel, by decide +kernel⟩
  · simp only [List.mem_cons, List.not_mem_nil, or_false] at hv
    rcases hv with rfl | rfl | rfl
    · exact hx
    · exact hy
    · exact hz
theorem int_val {r : Int} (h : -100 < r) (h2 : r < 100) : isVal (.int r) = true := by
  unfold isVal
  rw [wl_int]
  unfold MXI
  rw [show sz (.int r) = 0 by simp [sz]]
  simp only [Bool.and_eq_true, decide_eq_true_eq]
  omega
def lst3 : List D := [.str "ab", .str "", .str "q7"]
def tup3 : List D := [.tup [.int 1, .int 2], .tup [], .tup [.str "a", .tup [.int 1]]]
theorem lst3_ok : lst3.all isVal = true := by decide +kernel
theorem tup3_ok : tup3.all isVal = true := by decide +kernel
def eL3 : EF := (eLst (aCons (eC (.str "ab")) (aCons (eC (.str "")) (aCons (eC (.str "q7")) aNil))))
def eT3 : EF := (eLst (aCons (eTup (aCons (eC (.int 1)) (aCons (eC (.int 2)) aNil))) (aCons (eTup aNil) (aCons (eTup (aCons (eC (.str "a")) (aCons (eTup (aCons (eC (.int 1)) aNil)) aNil))) aNil))))
theorem eL3_eq (L : Lc) (S : Sto) (Q : D → Sto → Prop) : Ok (eL3 L S) Q = Q (.lst lst3) S := by rw [show eL3 L S = .ok (.lst lst3) S by kernel_rfl, Ok_ok]
theorem eT3_eq (L : Lc) (S : Sto) (Q : D → Sto → Prop) : Ok (eT3 L S) Q = Q (.lst tup3) S := by rw [show eT3 L S = .ok (.lst tup3) S by kernel_rfl, Ok_ok]
end K03

namespace K03
open PySem PySem.Spec PyProof.Rows L2 VL
local macro_rules | `(tactic| walk_at "mx") => `(tactic| simp only [ok_dDef, ok_sSeq, ok_sSet, ok_sRet, ok_sDrop, ok_sIf, ok_sNx, ok_sAsg, ok_eBin, ok_eUn, ok_eC, ok_eCall, ok_aCons, ok_aNil, ok_eTup, ok_eLst, ok_eLstM, ok_eAnd, ok_eOr, ok_eNot, ok_eIf, ok_eChain, ok_tTru, ok_tBl, ok_tAnd2, ok_tOr2, ok_tNot1, ok_eSl, ok_pNo, ok_pSo, ok_eVar, ok_gNm, ok_gIx, ok_truD_bl, ok_tYesD, ok_wAk, ok_eLcA, ok_eStar, ok_eM, ok_eGet2, ok_eDisp, ok_prsD_nil, ok_prsD_cons, ok_nwD_f, ok_nwD_t, ok_nwL_f, ok_nwL_t, ok_gCons2, ok_gNil2, ok_sPar2, ok_sMatch, ok_mCase, ok_mElse, ok_add_int, ok_sub_int, ok_ord_int, ok_neg_int, ok_abs_int, ok_intD_bl, ok_intD_int, ok_eq_int, ok_eq_str, ok_eq_bl, ok_len_tup, ok_len_lst, isSD, wkA, wkOf, wipeL, List.map_cons, List.map_nil, List.length_cons, List.length_nil, List.replicate_succ, List.replicate_zero, List.cons_append, List.nil_append, List.getElem?_cons_zero, List.getElem?_cons_succ, List.set_cons_zero, List.set_cons_succ, if_true, Bool.false_eq_true, if_false, Bool.not_true, Bool.not_false, ok_isi_tup, ok_isi_lst, ok_isi_int, ok_isi_str, ok_isi_bl, ok_isi_non, ok_isi_dic, ok_isNon, ok_isBl, isTg, D.isNon, ari0, ari1, ari2, ari3, ari4, ari5, Ok_ok, Nat.reduceSub, Nat.reduceAdd, ofs_inj, String.reduceEq, decide_true, decide_false, fbne, tbne, intB])
local macro_rules | `(tactic| walk_at "my") => `(tactic| try simp only [ok_dDef, ok_sSeq, ok_sSet, ok_sRet, ok_sDrop, ok_sIf, ok_sNx, ok_sAsg, ok_eBin, ok_eUn, ok_eC, ok_eCall, ok_aCons, ok_aNil, ok_eTup, ok_eLst, ok_eLstM, ok_eAnd, ok_eOr, ok_eNot, ok_eIf, ok_eChain, ok_tTru, ok_tBl, ok_tAnd2, ok_tOr2, ok_tNot1, ok_eSl, ok_pNo, ok_pSo, ok_eVar, ok_gNm, ok_gIx, ok_truD_bl, ok_tYesD, ok_wAk, ok_eLcA, ok_eStar, ok_eM, ok_eGet2, ok_eDisp, ok_prsD_nil, ok_prsD_cons, ok_nwD_f, ok_nwD_t, ok_nwL_f, ok_nwL_t, ok_gCons2, ok_gNil2, ok_sPar2, ok_sMatch, ok_mCase, ok_mElse, ok_add_int, ok_sub_int, ok_ord_int, ok_neg_int, ok_abs_int, ok_intD_bl, ok_intD_int, ok_eq_int, ok_eq_str, ok_eq_bl, ok_len_tup, ok_len_lst, isSD, wkA, wkOf, wipeL, List.map_cons, List.map_nil, List.length_cons, List.length_nil, List.replicate_succ, List.replicate_zero, List.cons_append, List.nil_append, List.getElem?_cons_zero, List.getElem?_cons_succ, List.set_cons_zero, List.set_cons_succ, if_true, Bool.false_eq_true, if_false, Bool.not_true, Bool.not_false, ok_isi_tup, ok_isi_lst, ok_isi_int, ok_isi_str, ok_isi_bl, ok_isi_non, ok_isi_dic, ok_isNon, ok_isBl, isTg, D.isNon, ari0, ari1, ari2, ari3, ari4, ari5, Ok_ok, Nat.reduceSub, Nat.reduceAdd, ofs_inj, String.reduceEq, decide_true, decide_false, fbne, tbne, intB])
def inner (k : Nat) : SF :=
    (sSeq (sSet 5 (eDisp true [((eC (.str "a")), (eBin subD (eCall (ari 2 (f_draw k)) (aCons (eVar 3) (aCons (eC (.int 9)) aNil))) (eC (.int 4)))), ((eC (.str "b")), (eBin ix2D eL3 (eCall (ari 2 (f_draw k)) (aCons (eVar 3) (aCons (eC (.int 3)) aNil)))))]))
  (sSeq (sAsg (eBin ix2D eT3 (eCall (ari 2 (f_draw k)) (aCons (eVar 3) (aCons (eC (.int 3)) aNil)))) (gIx (eVar 5) (eC (.str "c")) set2D))
  (sSeq (sSet 6 (eCall (ari 2 (f_random_term k)) (aCons (eVar 3) (aCons (eBin addD (eC (.int 1)) (eCall (ari 2 (f_draw k)) (aCons (eVar 3) (aCons (eC (.int 4)) aNil)))) aNil))))
  (sSeq (sIf (tBl (eBin (eqD true) (eCall (listD false) (aCons (eCall (ari 2 (f_evaluate k)) (aCons (eVar 6) (aCons (eVar 5) aNil))) aNil)) (eCall (ari 2 (f_result k)) (aCons (eVar 6) (aCons (eVar 5) aNil)))))
    (sRet (eC (.bl false)))
    sNx)
  (sIf (tBl (eBin (eqD true) (eCall (ari 1 (f_names_in k)) (aCons (eVar 6) aNil)) (eCall (ari 1 (f_once k)) (aCons (eCall (ari 1 (f_l_names_in k)) (aCons (eVar 6) aNil)) aNil))))
    (sRet (eC (.bl false)))
    sNx)))))
theorem set_c {S : Sto} {i : Nat} {x y z : D} {Q : Unit → Sto → Prop} (e : S[i]? = some (.dic [.inr "a", .inr "b"] [x, y])) : Ok (set2D (.ref i) (.str "c") z S) Q = Q () (S.set i (.dic [.inr "a", .inr "b", .inr "c"] [x, y, z])) := by
  simp only [set2D, e, keyD]
  rw [if_pos (by rw [sizeLine_eq]; simp), Ok_ok, putk, putv]
theorem inner_ok {k p : Nat} {a0 a1 a2 x4 x5 x6 : Option D} {S : Sto} (hk : 22 ≤ k) (hp : PoolOk S p) : Ok (inner k [a0, a1, a2, some (.ref p), x4, x5, x6] S) fun f S' => (∃ y5 y6, f = .nx [a0, a1, a2, some (.ref p), x4, y5, y6]) ∧ PoolOk S' p := by
  unfold inner
  rw [ok_sSeq]
  simp only [ok_sSet, ok_eDisp, ok_prsD_cons, ok_prsD_nil, ok_eC, ok_eBin, ok_eCall, ok_aCons, ok_aNil, ok_eVar, List.getElem?_cons_zero, List.getElem?_cons_succ, ari2]
  refine o_drawP (by omega) hp (by decide) (by decide) fun r1 S1 r10 r11 pl1 => ?_
  simp only [ok_sub_int, eL3_eq]
  refine o_drawP (by omega) pl1.ok (by decide) (by decide) fun r2 S2 r20 r21 pl2 => ?_
  obtain ⟨y, hy, ey⟩ := at_range (ds := lst3) r20 (by simpa [lst3] using r21)
  rw [ok_ix_lst ey]
  simp only [keysP, keyD, List.length_cons, List.length_nil, Nat.reduceAdd, show (2 : Nat) ≤ 15 from by omega, if_true, ok_nwD_t, mrg, List.set_cons_zero, List.set_cons_succ]
  have hx : isVal (.int (r1 - 4)) = true := int_val (by omega) (by omega)
  have hyv := List.all_eq_true.mp lst3_ok y hy
  generalize hS3 : S2 ++ [Ob.dic [Sum.inr "a", Sum.inr "b"] [.int (r1 - 4), y]] = S3
  have hp2 := pl2.ok
  have hp3 : PoolOk S3 p := by rw [← hS3]; exact hp2.grow (.add _ _)
  have e3 : S3[S2.length]? = some (Ob.dic [Sum.inr "a", Sum.inr "b"] [.int (r1 - 4), y]) := by rw [← hS3]; simp
  have hpi : S2.length ≠ p := by have := hp2.lt; omega
  rw [ok_sSeq]
  simp only [ok_sAsg, ok_eBin, ok_eCall, ok_aCons, ok_aNil, ok_eVar, ok_eC, List.getElem?_cons_zero, List.getElem?_cons_succ, ari2, eT3_eq]
  refine o_drawP (by omega) hp3 (by decide) (by decide) fun r3 S4 r30 r31 pl3 => ?_
  obtain ⟨z, hz, ez⟩ := at_range (ds := tup3) r30 (by simpa [tup3] using r31)
  rw [ok_ix_lst ez]
  have hzv := List.all_eq_true.mp tup3_ok z hz
  have e4 : S4[S2.length]? = some (Ob.dic [Sum.inr "a", Sum.inr "b"] [.int (r1 - 4), y]) := by rw [pl3.get hpi]; exact e3
  simp only [ok_gIx, ok_eVar, ok_eC, List.getElem?_cons_zero, List.getElem?_cons_succ, set_c e4]
  have hv := var_ok hx hyv hzv
  generalize hks : ([Sum.inr "a", Sum.inr "b", Sum.inr "c"] : List Key) = ks at hv
  generalize hvs : [D.int (r1 - 4), y, z] = vs at hv
  generalize hS5 : S4.set S2.length (.dic ks vs) = S5
  have hi4 := (List.getElem?_eq_some_iff.mp e4).1
  have e5 : S5[S2.length]? = some (.dic ks vs) := by rw [← hS5]; exact List.getElem?_set_self hi4
  have hp5 : PoolOk S5 p := by
    obtain ⟨a, b, e, r⟩ := pl3.ok
    exact ⟨a, b, by rw [← hS5, List.getElem?_set_ne hpi]; exact e, r⟩
  rw [ok_sSeq]
  simp only [ok_sSet, ok_eCall, ok_aCons, ok_aNil, ok_eBin, ok_eVar, ok_eC, List.getElem?_cons_zero, List.getElem?_cons_succ, ari2, List.set_cons_zero, List.set_cons_succ]
  refine o_drawP (by omega) hp5 (by decide) (by decide) fun r4 S6 r40 r41 pl4 => ?_
  obtain ⟨m, hm⟩ : ∃ m : Nat, 1 + r4 = m := ⟨(1 + r4).toNat, by omega⟩
  rw [ok_add_int, hm]
  try simp only
  refine (o_random m k S6 pl4.ok (by omega)).mono fun t S7 h7 => ?_
  obtain ⟨ht, pl5⟩ := h7
  have pl6 := pl4.trans pl5
  have e7 : S7[S2.length]? = some (.dic ks vs) := by rw [pl6.get hpi]; exact e5
  have hm6 : m ≤ 6 := by omega
  rw [ok_sSeq]
  simp only [ok_sIf, ok_tBl, ok_eBin, ok_eCall, ok_aCons, ok_aNil, ok_eVar, List.getElem?_cons_zero, List.getElem?_cons_succ, ari2]
  refine (e_evaluate ht (by omega) (by omega) e7 hv).mono fun d S8 h8 => ?_
  obtain ⟨rfl, s8⟩ := h8
  simp only [list_tag, Ok_ok]
  have hi7 := (List.getElem?_eq_some_iff.mp e7).1
  have e8 := s8.get hi7 e7
  refine (e_result hv.env m k t S8 _ ht (by omega) e8).mono fun d S9 h9 => ?_
  obtain ⟨rfl, s9⟩ := h9
  rw [eq_self (tagL_nb hv.env.vals ht), Ok_ok]
  simp only [Bool.false_eq_true, if_false, ok_sNx]
  simp only [ok_sIf, ok_tBl, ok_eBin, ok_eCall, ok_aCons, ok_aNil, ok_eVar, List.getElem?_cons_zero, List.getElem?_cons_succ, ari1]
  have hno := nms_ok m t ht
  have hlt : (nms t).length ≤ 1000000 := by
    have : 10 ^ m ≤ 10 ^ 6 := Nat.pow_le_pow_right (by decide) hm6
    omega
  rw [e_names_in ht hm6 hk, Ok_ok, e_lnames m k t S9 ht hm6 (by omega), Ok_ok, e_once (by omega) (fun c hc => by obtain ⟨z, rfl, _⟩ := hno.1 c hc; exact ⟨z, rfl⟩) hlt, Ok_ok, eq_self (once_nb hno.1), Ok_ok]
  simp only [Bool.false_eq_true, if_false, ok_sNx]
  refine ⟨⟨_, _, rfl⟩, ?_⟩
  have hp7 := pl5.ok
  obtain ⟨a, b, e, r⟩ := hp7
  have hpl := (List.getElem?_eq_some_iff.mp e).1
  exact ⟨a, b, s9.get (by have := s8.1; omega) (s8.get hpl e), r⟩
theorem rng_mem {n : Nat} {d : D} (h : d ∈ rngL 0 n) : ∃ j : Int, d = .int j ∧ 0 ≤ j ∧ j < n := by
  unfold rngL at h
  obtain ⟨i, hi, rfl⟩ := List.mem_map.mp h
  have := List.mem_range.mp hi
  exact ⟨_, rfl, by omega, by omega⟩
theorem loops {k : Nat} {ns : List Int} {v1 : D} {S : Sto} (hk : 22 ≤ k) (hn : ns.length ≤ 63) (hb : ∀ z ∈ ns, Builtin.Int.intBits z ≤ 1048576) :
    Ok (sFor (wRng1 (aCons (eCall (max2D) (aCons (eC (.int 1)) (aCons (eCall (min2D) (aCons (eCall (len2D) (aCons (eVar 0) aNil)) (aCons (eC (.int 8)) aNil))) aNil))) aNil)) (gNm 2)
    (sSeq (sSet 3 (eCall (ari 2 (f_pool k)) (aCons (eVar 0) (aCons (eVar 2) aNil))))
  (sFor (wRng1 (aCons (eC (.int 25)) aNil)) (gNm 4) (inner k))) [some (.scr ns), some v1, none, none, none, none, none] S) fun f S' => ∃ L, f = .nx L := by
  rw [ok_sFor]
  simp only [ok_wRng1, ok_aCons, ok_eCall, ok_eC, ok_aNil, ok_eVar, List.getElem?_cons_zero]
  rw [show len2D [.scr ns] S = .ok (.int ns.length) S by simp [len2D, dicOf, lenD, lstOf], Ok_ok]
  simp only [min2D, max2D, Ok_ok]
  generalize hc : (if (if (8 : Int) < ns.length then (8 : Int) else ns.length) > 1 then (if (8 : Int) < ns.length then (8 : Int) else ns.length) else 1) = c
  have hc1 : 1 ≤ c ∧ c ≤ 8 := by
    rw [← hc]
    split <;> split <;> omega
  refine ⟨⟨by omega, by omega⟩, ?_⟩
  refine for_inv (I := fun ds L S => (∀ d ∈ ds, ∃ j : Int, d = .int j ∧ 0 ≤ j ∧ j < 1000) ∧ ∃ x2 x3 x4 x5 x6, L = [some (.scr ns), some v1, x2, x3, x4, x5, x6]) (fun d ds L S h => ?_) (fun L S h => ⟨rfl, L, rfl⟩) _ _ _ ⟨fun d hd => ?_, none, none, none, none, none, rfl⟩
  · obtain ⟨hd, x2, x3, x4, x5, x6, rfl⟩ := h
    obtain ⟨j, rfl, j0, j1⟩ := hd d (by simp)
    refine ⟨rfl, ?_⟩
    simp only [ok_gNm, List.set_cons_zero, List.set_cons_succ]
    rw [ok_sSeq]
    simp only [ok_sSet, ok_eCall, ok_aCons, ok_aNil, ok_eVar, List.getElem?_cons_zero, List.getElem?_cons_succ, ari2, List.set_cons_zero, List.set_cons_succ]
    refine o_pool (by omega) hn hb j0 j1 fun o hp => ?_
    try simp only
    rw [ok_sFor]
    simp only [ok_wRng1, ok_aCons, ok_eC, ok_aNil]
    refine ⟨⟨by decide, by decide⟩, ?_⟩
    refine (for_inv (Q := fun f S' => ∃ y4 y5 y6, f = .nx [some (.scr ns), some v1, some (.int j), some (.ref S.length), y4, y5, y6]) (I := fun ds L S' => PoolOk S' S.length ∧ ∃ x4 x5 x6, L = [some (.scr ns), some v1, some (.int j), some (.ref S.length), x4, x5, x6]) (fun d' ds' L' S' h' => ?_) (fun L' S' h' => ?_) _ _ _ ⟨hp, x4, x5, x6, rfl⟩).mono fun f S' hf => ?_
    · obtain ⟨hp', x4, x5, x6, rfl⟩ := h'
      refine ⟨rfl, ?_⟩
      simp only [ok_gNm, List.set_cons_zero, List.set_cons_succ]
      refine (inner_ok hk hp').mono fun f S2 hf => ?_
      obtain ⟨⟨y5, y6, rfl⟩, hp2⟩ := hf
      exact ⟨hp2, _, y5, y6, rfl⟩
    · obtain ⟨hp', x4, x5, x6, rfl⟩ := h'
      exact ⟨rfl, x4, x5, x6, rfl⟩
    · obtain ⟨y4, y5, y6, rfl⟩ := hf
      exact ⟨fun d hd' => hd d (by simp [hd']), _, _, y4, y5, y6, rfl⟩
  · obtain ⟨j, rfl, j0, j1⟩ := rng_mem hd
    exact ⟨j, rfl, j0, by omega⟩
def nst : Nat → D
  | 0 => .tup []
  | n + 1 => .tup [nst n]
theorem ev_const {v : D} {S S' : Sto} {d : D} (hv : isVal v = true) (h : f_result_of 28 [.tup [.str "list", .tup [.str "value", v]], .dic [] []] S = .ok d S') : f_evaluate 29 [.tup [.str "list", .tup [.str "value", v]], .dic [] []] S = .ok d S' := by
  have ht : Tm 1 (.tup [.str "list", .tup [.str "value", v]]) := .node (.inr (.inl ⟨rfl, by simp⟩)) fun t ht => by rw [List.mem_singleton.mp ht]; exact .val hv
  have hc : f_check_variables 28 [.dic [] []] S = .ok .non S := by kernel_rfl
  refine eq_of_ok ?_
  unfold f_evaluate b_evaluate
  walk_at "my"
  rw [e_is_expression ht (by omega) (by omega), Ok_ok]
  walk_at "my"
  rw [hc, Ok_ok]
  walk_at "my"
  rw [h, Ok_ok]
  exact ⟨rfl, rfl⟩
theorem law_ok (ns : List Int) (hn : ns.length ≤ 63) (hb : ∀ z ∈ ns, Builtin.Int.intBits z ≤ 1048576) : Ok (f_law 30 [.scr ns] []) fun d _ => d = .bl true := by
  have z2 : (2 : Nat) ≤ sizeLine := by rw [sizeLine_eq]; omega
  have n4 : f_nested 29 [.int 4] [] = .ok (nst 4) [] := by kernel_rfl
  have n3 : f_nested 29 [.int 3] [Ob.lst [nst 4]] = .ok (nst 3) [Ob.lst [nst 4]] := by kernel_rfl
  have ev4 : f_evaluate 29 [.tup [.str "list", .tup [.str "value", nst 4]], .dic [] []] [] = .ok (.tup [.str "failed", .str "size"]) [Ob.lst [nst 4]] := ev_const (by decide +kernel) (by kernel_rfl)
  have ev3 : f_evaluate 29 [.tup [.str "list", .tup [.str "value", nst 3]], .dic [] []] [Ob.lst [nst 4]] = .ok (.tup [.str "value", .tup [nst 3]]) [Ob.lst [nst 4], Ob.lst [nst 3]] := ev_const (by decide +kernel) (by kernel_rfl)
  unfold f_law b_law
  rw [ok_dDef, ok_sSeq]
  simp only [List.map_cons, List.map_nil, List.length_cons, List.length_nil, List.replicate_succ, List.replicate_zero, List.cons_append, List.nil_append, Nat.reduceSub, Nat.reduceAdd, ok_sSet, ok_eTup, ok_aCons, ok_aNil, ok_eC, ok_eCall, ari1, n4, Ok_ok, List.set_cons_zero, List.set_cons_succ]
  refine ⟨z2, z2, ?_⟩
  rw [ok_sSeq]
  simp only [ok_sIf, ok_tBl, ok_eBin, ok_eTup, ok_aCons, ok_aNil, ok_eC, ok_eCall, ari2, ok_eVar, List.getElem?_cons_zero, List.getElem?_cons_succ, eDict0, ev4, Ok_ok, List.length_cons, List.length_nil, Nat.reduceAdd]
  refine ⟨z2, ?_⟩
  rw [show eqD true (.tup [.str "failed", .str "size"]) (.tup [.str "failed", .str "size"]) [Ob.lst [nst 4]] = .ok (.bl false) [Ob.lst [nst 4]] from eq_self ⟨by simp only [Nb, Nbs]; decide +kernel, by simp [dpt, dpts]⟩, Ok_ok]
  simp only [Bool.false_eq_true, if_false, ok_sNx]
  rw [ok_sSeq]
  simp only [ok_sIf, ok_tBl, ok_eBin, ok_eTup, ok_aCons, ok_aNil, ok_eC, ok_eCall, ari1, n3, ari2, ok_eVar, List.getElem?_cons_zero, List.getElem?_cons_succ, eDict0, ev3, Ok_ok, List.length_cons, List.length_nil, Nat.reduceAdd, tup_ix0, ok_eq_str, tbne, decide_true, Bool.not_true, Bool.false_eq_true, if_false, ok_sNx]
  refine ⟨z2, z2, ?_⟩
  rw [ok_sSeq]
  refine (loops (k := 29) (by omega) hn hb).mono fun f S' hf => ?_
  obtain ⟨L, rfl⟩ := hf
  simp only [ok_sRet, ok_eC]
end K03

namespace K03
open PySem PySem.Spec PyProof.Rows L2 VL
def d_0 : He.DefD := ⟨("is_integer", none), "is_integer", "is_integer", defArgs s_is_integer, defBody s_is_integer, defScope s_is_integer, [], []⟩
def d_1 : He.DefD := ⟨("is_word", none), "is_word", "is_word", defArgs s_is_word, defBody s_is_word, defScope s_is_word, [], []⟩
def d_2 : He.DefD := ⟨("is_text", none), "is_text", "is_text", defArgs s_is_text, defBody s_is_text, defScope s_is_text, [], []⟩
def d_3 : He.DefD := ⟨("is_within_levels", none), "is_within_levels", "is_within_levels", defArgs s_is_within_levels, defBody s_is_within_levels, defScope s_is_within_levels, [], []⟩
def d_4 : He.DefD := ⟨("size_within", none), "size_within", "size_within", defArgs s_size_within, defBody s_size_within, defScope s_size_within, [], []⟩
def d_5 : He.DefD := ⟨("is_value", none), "is_value", "is_value", defArgs s_is_value, defBody s_is_value, defScope s_is_value, [], []⟩
def d_6 : He.DefD := ⟨("is_key", none), "is_key", "is_key", defArgs s_is_key, defBody s_is_key, defScope s_is_key, [], []⟩
def d_7 : He.DefD := ⟨("is_name", none), "is_name", "is_name", defArgs s_is_name, defBody s_is_name, defScope s_is_name, [], []⟩
def d_8 : He.DefD := ⟨("is_state", none), "is_state", "is_state", defArgs s_is_state, defBody s_is_state, defScope s_is_state, [], []⟩
def d_9 : He.DefD := ⟨("are_variables", none), "are_variables", "are_variables", defArgs s_are_variables, defBody s_are_variables, defScope s_are_variables, [], []⟩
def d_10 : He.DefD := ⟨("are_equal", none), "are_equal", "are_equal", defArgs s_are_equal, defBody s_are_equal, defScope s_are_equal, [], []⟩
def d_11 : He.DefD := ⟨("check_variables", none), "check_variables", "check_variables", defArgs s_check_variables, defBody s_check_variables, defScope s_check_variables, [], []⟩
def d_12 : He.DefD := ⟨("is_deep_expression", none), "is_deep_expression", "is_deep_expression", defArgs s_is_deep_expression, defBody s_is_deep_expression, defScope s_is_deep_expression, [], []⟩
def d_13 : He.DefD := ⟨("is_expression", none), "is_expression", "is_expression", defArgs s_is_expression, defBody s_is_expression, defScope s_is_expression, [], []⟩
def d_14 : He.DefD := ⟨("names_within", none), "names_within", "names_within", defArgs s_names_within, defBody s_names_within, defScope s_names_within, [], []⟩
def d_15 : He.DefD := ⟨("unlike", none), "unlike", "unlike", defArgs s_unlike, defBody s_unlike, defScope s_unlike, [], []⟩
def d_16 : He.DefD := ⟨("names_in", none), "names_in", "names_in", defArgs s_names_in, defBody s_names_in, defScope s_names_in, [], []⟩
def d_17 : He.DefD := ⟨("failed", none), "failed", "failed", defArgs s_failed, defBody s_failed, defScope s_failed, [], []⟩
def d_18 : He.DefD := ⟨("numeric_result", none), "numeric_result", "numeric_result", defArgs s_numeric_result, defBody s_numeric_result, defScope s_numeric_result, [], []⟩
def d_19 : He.DefD := ⟨("joined", none), "joined", "joined", defArgs s_joined, defBody s_joined, defScope s_joined, [], []⟩
def d_20 : He.DefD := ⟨("item_of", none), "item_of", "item_of", defArgs s_item_of, defBody s_item_of, defScope s_item_of, [], []⟩
def d_21 : He.DefD := ⟨("combined", none), "combined", "combined", defArgs s_combined, defBody s_combined, defScope s_combined, [], []⟩
def d_22 : He.DefD := ⟨("result_of", none), "result_of", "result_of", defArgs s_result_of, defBody s_result_of, defScope s_result_of, [], []⟩
def d_23 : He.DefD := ⟨("evaluate", none), "evaluate", "evaluate", defArgs s_evaluate, defBody s_evaluate, defScope s_evaluate, [], []⟩
def d_24 : He.DefD := ⟨("_law_pool", none), "_law_pool", "_law_pool", defArgs s_pool, defBody s_pool, defScope s_pool, [], []⟩
def d_25 : He.DefD := ⟨("_law_draw", none), "_law_draw", "_law_draw", defArgs s_draw, defBody s_draw, defScope s_draw, [], []⟩
def d_26 : He.DefD := ⟨("_law_whole", none), "_law_whole", "_law_whole", defArgs s_whole, defBody s_whole, defScope s_whole, [], []⟩
def d_27 : He.DefD := ⟨("_law_small", none), "_law_small", "_law_small", defArgs s_small, defBody s_small, defScope s_small, [], []⟩
def d_28 : He.DefD := ⟨("_law_within", none), "_law_within", "_law_within", defArgs s_within, defBody s_within, defScope s_within, [], []⟩
def d_29 : He.DefD := ⟨("_law_pair", none), "_law_pair", "_law_pair", defArgs s_pair, defBody s_pair, defScope s_pair, [], []⟩
def d_30 : He.DefD := ⟨("_law_result", none), "_law_result", "_law_result", defArgs s_result, defBody s_result, defScope s_result, [], []⟩
def d_31 : He.DefD := ⟨("_law_names_in", none), "_law_names_in", "_law_names_in", defArgs s_l_names_in, defBody s_l_names_in, defScope s_l_names_in, [], []⟩
def d_32 : He.DefD := ⟨("_law_once", none), "_law_once", "_law_once", defArgs s_once, defBody s_once, defScope s_once, [], []⟩
def d_33 : He.DefD := ⟨("_law_random_term", none), "_law_random_term", "_law_random_term", defArgs s_random_term, defBody s_random_term, defScope s_random_term, [], []⟩
def d_34 : He.DefD := ⟨("_law_nested", none), "_law_nested", "_law_nested", defArgs s_nested, defBody s_nested, defScope s_nested, [], []⟩
def d_35 : He.DefD := ⟨("law", none), "law", "law", defArgs s_law, defBody s_law, defScope s_law, [], []⟩
def fn : List He.DefD := [d_0, d_1, d_2, d_3, d_4, d_5, d_6, d_7, d_8, d_9, d_10, d_11, d_12, d_13, d_14, d_15, d_16, d_17, d_18, d_19, d_20, d_21, d_22, d_23, d_24, d_25, d_26, d_27, d_28, d_29, d_30, d_31, d_32, d_33, d_34, d_35]
def fa : List He.Fa := [.glo "is_integer", .glo "is_word", .glo "is_text", .glo "is_within_levels", .glo "size_within", .glo "is_value", .glo "is_key", .glo "is_name", .glo "is_state", .glo "are_variables", .glo "are_equal", .glo "check_variables", .glo "is_deep_expression", .glo "is_expression", .glo "names_within", .glo "unlike", .glo "names_in", .glo "failed", .glo "numeric_result", .glo "joined", .glo "item_of", .glo "combined", .glo "result_of", .glo "evaluate", .glo "_law_pool", .glo "_law_draw", .glo "_law_whole", .glo "_law_small", .glo "_law_within", .glo "_law_pair", .glo "_law_result", .glo "_law_names_in", .glo "_law_once", .glo "_law_random_term", .glo "_law_nested", .glo "law", .int "MAX_TEXT" (60), .str "SIGNS" "abcdefghijklmnopqrstuvwxyz0123456789", .int "MAX_INTEGER" (1000000000000000000000000000000000000000000000000000000000000), .int "MAX_ITEMS" (50), .int "MAX_LEVELS" (5), .int "MAX_NAME" (12), .str "LETTERS" "abcdefghijklmnopqrstuvwxyz", .glo "PAIRS", .int "MAX_PARTS" (10), .int "MAX_DEPTH" (8), .free "isinstance", .free "int", .free "bool", .free "str", .free "len", .free "all", .free "tuple", .free "sum", .free "dict", .free "zip", .free "list", .free "abs", .free "range", .free "min", .free "max"]
def ex (K : PySem.W.Frag) : Bool := He.tupB K "PAIRS" [.str "add", .str "subtract", .str "multiply", .str "divide", .str "less", .str "equal", .str "join", .str "item"]
def names0 : List PySem.Str := ["RunError", "InvalidState", "InvalidExpression", "LETTERS", "SIGNS", "MAX_TEXT", "MAX_ITEMS", "MAX_LEVELS", "MAX_NAME", "MAX_INTEGER", "is_integer", "is_word", "is_text", "is_within_levels", "size_within", "is_value", "is_key", "is_name", "is_state", "are_variables", "are_equal", "check_variables", "MAX_DEPTH", "MAX_PARTS", "NUMERIC", "PAIRS", "is_deep_expression", "is_expression", "names_within", "unlike"]
def names1 : List PySem.Str := ["names_in", "failed", "numeric_result", "joined", "item_of", "combined", "result_of", "evaluate", "_law_pool", "_law_draw", "_law_whole", "_law_small", "_law_within", "_law_pair", "_law_result", "_law_names_in", "_law_once", "_law_random_term", "_law_nested"]
def names : List PySem.Str := names0 ++ names1
abbrev R : PySem.W.OpenRow := PySem.W.OpenLaw.row PySem.Challenge.rw_mendedruns_k03_whole_values_of_expressio
abbrev qv : Program := PySem.W.view R.prog [53]
abbrev hk : PySem.W.Hook := hookE 4 fa fn ex
def ob (s : PySem.W.SharedT) : AlE := obsEG 4 fa fn ex (HandSHeadRun.getT s)
theorem ob_eq (s : PySem.W.SharedT) : ob s = hk.obs s.abs := obsEG_eq (HandSHeadRun.getT_eq s)
theorem run_false (w : World) : HandSHeadRun.RunEq R qv hk ob 20000 names (w.withFollow "special-get-raises" false) := by
  intro os
  kernel_rfl
theorem run_true (w : World) : HandSHeadRun.RunEq R qv hk ob 20000 names (w.withFollow "special-get-raises" true) := by
  intro os
  kernel_rfl
theorem run (w : World) : HandSHeadRun.RunEq R qv hk ob 20000 names w := PySem.W.byRow2 "special-get-raises" (P := fun w => HandSHeadRun.RunEq R qv hk ob 20000 names w) run_false run_true w
theorem facts {P : Program} {w : World} {K : PySem.W.Frag} {h : Heap} {mg : Str → Option Value} {f : Addr} (X : K.In h) (G : h.Ns mainGlobals mg) (hfa : mg ("law" : Str) = some (.ref f)) (c : SaysE fa fn ex K) :
    ∃ fd : FuncData, (∀ (s : Shared) (v : Value), BindsTo s fd ⟨[v], []⟩ [("_law_script", v)]) ∧ ∀ base : Heap, K.In base → base.Ns mainGlobals mg → FnOk P w K mg base (L2.CX P w) 30 f fd ["_law_script"] (spD (gS K []) 1 (f_law 30)) := by
  obtain ⟨fd0, F0⟩ := c.d.def_ 0 (d := d_0) rfl
  obtain ⟨t0⟩ := FT.ofD (mg := mg) (x := "is_integer") (st := s_is_integer) (ps := ["value"]) X G F0 rfl (fun _ _ _ _ _ _ us hl => match us, hl with | [_], _ => rfl) (c.d.fact 0 rfl)
  obtain ⟨fd1, F1⟩ := c.d.def_ 1 (d := d_1) rfl
  obtain ⟨t1⟩ := FT.ofD (mg := mg) (x := "is_word") (st := s_is_word) (ps := ["value", "signs", "least", "most"]) X G F1 rfl (fun _ _ _ _ _ _ us hl => match us, hl with | [_, _, _, _], _ => rfl) (c.d.fact 1 rfl)
  obtain ⟨fd2, F2⟩ := c.d.def_ 2 (d := d_2) rfl
  obtain ⟨t2⟩ := FT.ofD (mg := mg) (x := "is_text") (st := s_is_text) (ps := ["value"]) X G F2 rfl (fun _ _ _ _ _ _ us hl => match us, hl with | [_], _ => rfl) (c.d.fact 2 rfl)
  obtain ⟨fd3, F3⟩ := c.d.def_ 3 (d := d_3) rfl
  obtain ⟨t3⟩ := FT.ofD (mg := mg) (x := "is_within_levels") (st := s_is_within_levels) (ps := ["value", "levels"]) X G F3 rfl (fun _ _ _ _ _ _ us hl => match us, hl with | [_, _], _ => rfl) (c.d.fact 3 rfl)
  obtain ⟨fd4, F4⟩ := c.d.def_ 4 (d := d_4) rfl
  obtain ⟨t4⟩ := FT.ofD (mg := mg) (x := "size_within") (st := s_size_within) (ps := ["value"]) X G F4 rfl (fun _ _ _ _ _ _ us hl => match us, hl with | [_], _ => rfl) (c.d.fact 4 rfl)
  obtain ⟨fd5, F5⟩ := c.d.def_ 5 (d := d_5) rfl
  obtain ⟨t5⟩ := FT.ofD (mg := mg) (x := "is_value") (st := s_is_value) (ps := ["value"]) X G F5 rfl (fun _ _ _ _ _ _ us hl => match us, hl with | [_], _ => rfl) (c.d.fact 5 rfl)
  obtain ⟨fd6, F6⟩ := c.d.def_ 6 (d := d_6) rfl
  obtain ⟨t6⟩ := FT.ofD (mg := mg) (x := "is_key") (st := s_is_key) (ps := ["value"]) X G F6 rfl (fun _ _ _ _ _ _ us hl => match us, hl with | [_], _ => rfl) (c.d.fact 6 rfl)
  obtain ⟨fd7, F7⟩ := c.d.def_ 7 (d := d_7) rfl
  obtain ⟨t7⟩ := FT.ofD (mg := mg) (x := "is_name") (st := s_is_name) (ps := ["value"]) X G F7 rfl (fun _ _ _ _ _ _ us hl => match us, hl with | [_], _ => rfl) (c.d.fact 7 rfl)
  obtain ⟨fd8, F8⟩ := c.d.def_ 8 (d := d_8) rfl
  obtain ⟨t8⟩ := FT.ofD (mg := mg) (x := "is_state") (st := s_is_state) (ps := ["value"]) X G F8 rfl (fun _ _ _ _ _ _ us hl => match us, hl with | [_], _ => rfl) (c.d.fact 8 rfl)
  obtain ⟨fd9, F9⟩ := c.d.def_ 9 (d := d_9) rfl
  obtain ⟨t9⟩ := FT.ofD (mg := mg) (x := "are_variables") (st := s_are_variables) (ps := ["value"]) X G F9 rfl (fun _ _ _ _ _ _ us hl => match us, hl with | [_], _ => rfl) (c.d.fact 9 rfl)
  obtain ⟨fd10, F10⟩ := c.d.def_ 10 (d := d_10) rfl
  obtain ⟨t10⟩ := FT.ofD (mg := mg) (x := "are_equal") (st := s_are_equal) (ps := ["one", "other"]) X G F10 rfl (fun _ _ _ _ _ _ us hl => match us, hl with | [_, _], _ => rfl) (c.d.fact 10 rfl)
  obtain ⟨fd11, F11⟩ := c.d.def_ 11 (d := d_11) rfl
  obtain ⟨t11⟩ := FT.ofD (mg := mg) (x := "check_variables") (st := s_check_variables) (ps := ["value"]) X G F11 rfl (fun _ _ _ _ _ _ us hl => match us, hl with | [_], _ => rfl) (c.d.fact 11 rfl)
  obtain ⟨fd12, F12⟩ := c.d.def_ 12 (d := d_12) rfl
  obtain ⟨t12⟩ := FT.ofD (mg := mg) (x := "is_deep_expression") (st := s_is_deep_expression) (ps := ["value", "depth"]) X G F12 rfl (fun _ _ _ _ _ _ us hl => match us, hl with | [_, _], _ => rfl) (c.d.fact 12 rfl)
  obtain ⟨fd13, F13⟩ := c.d.def_ 13 (d := d_13) rfl
  obtain ⟨t13⟩ := FT.ofD (mg := mg) (x := "is_expression") (st := s_is_expression) (ps := ["value"]) X G F13 rfl (fun _ _ _ _ _ _ us hl => match us, hl with | [_], _ => rfl) (c.d.fact 13 rfl)
  obtain ⟨fd14, F14⟩ := c.d.def_ 14 (d := d_14) rfl
  obtain ⟨t14⟩ := FT.ofD (mg := mg) (x := "names_within") (st := s_names_within) (ps := ["expression"]) X G F14 rfl (fun _ _ _ _ _ _ us hl => match us, hl with | [_], _ => rfl) (c.d.fact 14 rfl)
  obtain ⟨fd15, F15⟩ := c.d.def_ 15 (d := d_15) rfl
  obtain ⟨t15⟩ := FT.ofD (mg := mg) (x := "unlike") (st := s_unlike) (ps := ["names"]) X G F15 rfl (fun _ _ _ _ _ _ us hl => match us, hl with | [_], _ => rfl) (c.d.fact 15 rfl)
  obtain ⟨fd16, F16⟩ := c.d.def_ 16 (d := d_16) rfl
  obtain ⟨t16⟩ := FT.ofD (mg := mg) (x := "names_in") (st := s_names_in) (ps := ["expression"]) X G F16 rfl (fun _ _ _ _ _ _ us hl => match us, hl with | [_], _ => rfl) (c.d.fact 16 rfl)
  obtain ⟨fd17, F17⟩ := c.d.def_ 17 (d := d_17) rfl
  obtain ⟨t17⟩ := FT.ofD (mg := mg) (x := "failed") (st := s_failed) (ps := ["reason"]) X G F17 rfl (fun _ _ _ _ _ _ us hl => match us, hl with | [_], _ => rfl) (c.d.fact 17 rfl)
  obtain ⟨fd18, F18⟩ := c.d.def_ 18 (d := d_18) rfl
  obtain ⟨t18⟩ := FT.ofD (mg := mg) (x := "numeric_result") (st := s_numeric_result) (ps := ["word", "one", "other"]) X G F18 rfl (fun _ _ _ _ _ _ us hl => match us, hl with | [_, _, _], _ => rfl) (c.d.fact 18 rfl)
  obtain ⟨fd19, F19⟩ := c.d.def_ 19 (d := d_19) rfl
  obtain ⟨t19⟩ := FT.ofD (mg := mg) (x := "joined") (st := s_joined) (ps := ["one", "other"]) X G F19 rfl (fun _ _ _ _ _ _ us hl => match us, hl with | [_, _], _ => rfl) (c.d.fact 19 rfl)
  obtain ⟨fd20, F20⟩ := c.d.def_ 20 (d := d_20) rfl
  obtain ⟨t20⟩ := FT.ofD (mg := mg) (x := "item_of") (st := s_item_of) (ps := ["items", "index"]) X G F20 rfl (fun _ _ _ _ _ _ us hl => match us, hl with | [_, _], _ => rfl) (c.d.fact 20 rfl)
  obtain ⟨fd21, F21⟩ := c.d.def_ 21 (d := d_21) rfl
  obtain ⟨t21⟩ := FT.ofD (mg := mg) (x := "combined") (st := s_combined) (ps := ["word", "values"]) X G F21 rfl (fun _ _ _ _ _ _ us hl => match us, hl with | [_, _], _ => rfl) (c.d.fact 21 rfl)
  obtain ⟨fd22, F22⟩ := c.d.def_ 22 (d := d_22) rfl
  obtain ⟨t22⟩ := FT.ofD (mg := mg) (x := "result_of") (st := s_result_of) (ps := ["expression", "variables"]) X G F22 rfl (fun _ _ _ _ _ _ us hl => match us, hl with | [_, _], _ => rfl) (c.d.fact 22 rfl)
  obtain ⟨fd23, F23⟩ := c.d.def_ 23 (d := d_23) rfl
  obtain ⟨t23⟩ := FT.ofD (mg := mg) (x := "evaluate") (st := s_evaluate) (ps := ["expression", "variables"]) X G F23 rfl (fun _ _ _ _ _ _ us hl => match us, hl with | [_, _], _ => rfl) (c.d.fact 23 rfl)
  obtain ⟨fd24, F24⟩ := c.d.def_ 24 (d := d_24) rfl
  obtain ⟨t24⟩ := FT.ofD (mg := mg) (x := "_law_pool") (st := s_pool) (ps := ["_law_script", "_law_k"]) X G F24 rfl (fun _ _ _ _ _ _ us hl => match us, hl with | [_, _], _ => rfl) (c.d.fact 24 rfl)
  obtain ⟨fd25, F25⟩ := c.d.def_ 25 (d := d_25) rfl
  obtain ⟨t25⟩ := FT.ofD (mg := mg) (x := "_law_draw") (st := s_draw) (ps := ["_law_pool_here", "_law_many"]) X G F25 rfl (fun _ _ _ _ _ _ us hl => match us, hl with | [_, _], _ => rfl) (c.d.fact 25 rfl)
  obtain ⟨fd26, F26⟩ := c.d.def_ 26 (d := d_26) rfl
  obtain ⟨t26⟩ := FT.ofD (mg := mg) (x := "_law_whole") (st := s_whole) (ps := ["_law_thing"]) X G F26 rfl (fun _ _ _ _ _ _ us hl => match us, hl with | [_], _ => rfl) (c.d.fact 26 rfl)
  obtain ⟨fd27, F27⟩ := c.d.def_ 27 (d := d_27) rfl
  obtain ⟨t27⟩ := FT.ofD (mg := mg) (x := "_law_small") (st := s_small) (ps := ["_law_thing", "_law_levels"]) X G F27 rfl (fun _ _ _ _ _ _ us hl => match us, hl with | [_, _], _ => rfl) (c.d.fact 27 rfl)
  obtain ⟨fd28, F28⟩ := c.d.def_ 28 (d := d_28) rfl
  obtain ⟨t28⟩ := FT.ofD (mg := mg) (x := "_law_within") (st := s_within) (ps := ["_law_thing"]) X G F28 rfl (fun _ _ _ _ _ _ us hl => match us, hl with | [_], _ => rfl) (c.d.fact 28 rfl)
  obtain ⟨fd29, F29⟩ := c.d.def_ 29 (d := d_29) rfl
  obtain ⟨t29⟩ := FT.ofD (mg := mg) (x := "_law_pair") (st := s_pair) (ps := ["_law_word", "_law_a", "_law_b"]) X G F29 rfl (fun _ _ _ _ _ _ us hl => match us, hl with | [_, _, _], _ => rfl) (c.d.fact 29 rfl)
  obtain ⟨fd30, F30⟩ := c.d.def_ 30 (d := d_30) rfl
  obtain ⟨t30⟩ := FT.ofD (mg := mg) (x := "_law_result") (st := s_result) (ps := ["_law_term", "_law_names"]) X G F30 rfl (fun _ _ _ _ _ _ us hl => match us, hl with | [_, _], _ => rfl) (c.d.fact 30 rfl)
  obtain ⟨fd31, F31⟩ := c.d.def_ 31 (d := d_31) rfl
  obtain ⟨t31⟩ := FT.ofD (mg := mg) (x := "_law_names_in") (st := s_l_names_in) (ps := ["_law_term"]) X G F31 rfl (fun _ _ _ _ _ _ us hl => match us, hl with | [_], _ => rfl) (c.d.fact 31 rfl)
  obtain ⟨fd32, F32⟩ := c.d.def_ 32 (d := d_32) rfl
  obtain ⟨t32⟩ := FT.ofD (mg := mg) (x := "_law_once") (st := s_once) (ps := ["_law_names"]) X G F32 rfl (fun _ _ _ _ _ _ us hl => match us, hl with | [_], _ => rfl) (c.d.fact 32 rfl)
  obtain ⟨fd33, F33⟩ := c.d.def_ 33 (d := d_33) rfl
  obtain ⟨t33⟩ := FT.ofD (mg := mg) (x := "_law_random_term") (st := s_random_term) (ps := ["_law_pool_here", "_law_depth"]) X G F33 rfl (fun _ _ _ _ _ _ us hl => match us, hl with | [_, _], _ => rfl) (c.d.fact 33 rfl)
  obtain ⟨fd34, F34⟩ := c.d.def_ 34 (d := d_34) rfl
  obtain ⟨t34⟩ := FT.ofD (mg := mg) (x := "_law_nested") (st := s_nested) (ps := ["_law_levels"]) X G F34 rfl (fun _ _ _ _ _ _ us hl => match us, hl with | [_], _ => rfl) (c.d.fact 34 rfl)
  obtain ⟨fd35, F35⟩ := c.d.def_ 35 (d := d_35) rfl
  obtain ⟨t35⟩ := FT.ofD (mg := mg) (x := "law") (st := s_law) (ps := ["_law_script"]) X G F35 rfl (fun _ _ _ _ _ _ us hl => match us, hl with | [_], _ => rfl) (c.d.fact 35 rfl)
  have cx := c.x
  unfold ex at cx
  try simp only [Bool.and_eq_true] at cx
  have T : Tx K mg := ⟨t0, t1, t2, t3, t4, t5, t6, t7, t8, t9, t10, t11, t12, t13, t14, t15, t16, t17, t18, t19, t20, t21, t22, t23, t24, t25, t26, t27, t28, t29, t30, t31, t32, t33, t34, t35, KD.ofInt X G (c.d.fact 36 rfl), KD.ofStr X G (c.d.fact 37 rfl), KD.ofInt X G (c.d.fact 38 rfl), KD.ofInt X G (c.d.fact 39 rfl), KD.ofInt X G (c.d.fact 40 rfl), KD.ofInt X G (c.d.fact 41 rfl), KD.ofStr X G (c.d.fact 42 rfl), KD.ofTupS (xs := ["add", "subtract", "multiply", "divide", "less", "equal", "join", "item"]) X G (c.d.fact 43 rfl) cx, KD.ofInt X G (c.d.fact 44 rfl), KD.ofInt X G (c.d.fact 45 rfl), He.free_ok X G (c.d.fact 46 rfl), He.free_ok X G (c.d.fact 47 rfl), He.free_ok X G (c.d.fact 48 rfl), He.free_ok X G (c.d.fact 49 rfl), He.free_ok X G (c.d.fact 50 rfl), He.free_ok X G (c.d.fact 51 rfl), He.free_ok X G (c.d.fact 52 rfl), He.free_ok X G (c.d.fact 53 rfl), He.free_ok X G (c.d.fact 54 rfl), He.free_ok X G (c.d.fact 55 rfl), He.free_ok X G (c.d.fact 56 rfl), He.free_ok X G (c.d.fact 57 rfl), He.free_ok X G (c.d.fact 58 rfl), He.free_ok X G (c.d.fact 59 rfl), He.free_ok X G (c.d.fact 60 rfl)⟩
  have e := hfa.symm.trans T.law.mgx
  cases e
  refine ⟨T.law.fd, fun s v => ?_, fun base _ _ => ok_law (g := gS K []) T 30⟩
  exact FunD.bindsA (ps := ["_law_script"]) T.law.fn (fun _ _ _ _ _ _ us hl => match us, hl with | [_], _ => rfl) s [v] rfl
end K03
open PySem PySem.W PySem.Calls PyProof.Rows
set_option maxHeartbeats 0 in
theorem PySem.Challenge.cw_mendedruns_k03_whole_values_of_expressio_holds : PySem.Challenge.rw_mendedruns_k03_whole_values_of_expressio.Holds := by
  w_on; o_law
  refine HandSHeadRun.head_any (r := OpenLaw.row PySem.Challenge.rw_mendedruns_k03_whole_values_of_expressio) (q := K03.qv) (H := K03.hk) (ob := K03.ob) (M := 20000) (loose := K03.names) (d := HandSHeadRun.topDef (OpenLaw.row PySem.Challenge.rw_mendedruns_k03_whole_values_of_expressio).prog 53) (kwd := []) K03.ob_eq
    (by kernel_rfl) (fun s => by kernel_rfl) K03.run (by kernel_rfl) (by kernel_rfl) (by kernel_rfl) (by rfl) (by first | assumption | decide +kernel) (by decide +kernel) ⟨rfl, rfl, rfl, rfl, rfl, by decide +kernel⟩ ?hw ?hc
  case hw => w_witness2
  case hc =>
    refine VL.walk_ofEB (l := PySem.Challenge.rw_mendedruns_k03_whole_values_of_expressio) (n := 63) (k := 30) (x := "_law_script") (CX := fun w => L2.CX (PySem.Challenge.rw_mendedruns_k03_whole_values_of_expressio).prog w) rfl (by decide) (by kernel_rfl) ⟨rfl, by decide, by decide⟩ ?F (fun w H s e s' z => VL.noCX _ w H s e s' z)
    intro w mg fa h Y G hmg0
    obtain ⟨K, KX, c⟩ := Y
    have hmg : mg ("law" : PySem.Str) = some (.ref fa) := by
      have e : (HandSHeadRun.topDef (OpenLaw.row PySem.Challenge.rw_mendedruns_k03_whole_values_of_expressio).prog 53).name = ("law" : PySem.Str) := by kernel_rfl
      rw [← e]
      exact hmg0
    obtain ⟨fd, hb, hF⟩ := K03.facts (P := (PySem.Challenge.rw_mendedruns_k03_whole_values_of_expressio).prog) (w := w) KX G hmg c
    exact ⟨K, fd, _, KX, hb, fun H a ns hl hbb hO hS => VL.law_sp K03.law_ok K [] H a ns hl hbb hO hS _, hF⟩
