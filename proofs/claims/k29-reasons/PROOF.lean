import PyProof.Rows.All
import Wide.All
import OpenK.AllK
import Wide.FinOn
import HandS.ForMost
import HandS.Flow
import HandS.IsInst
import HandS.Wide
import HandS.WideBits
import HandS.TupAny
import HandS.Zip
import HandS.Style
import HandS.Star
import HandS.RaiseMore
import HandS.EndBits
import HandS.Exc
import HandS.WordsExc
import HandS.Defaults
import KE.KDictZip
import PyProof.CollectIter
import PyProof.WalksMore
import PyProof.RulesMatch
import HandS.More
import HandS.DictComp
import HandS.Deep
import HandS.Conv
import HandS.TupMul
import HandS.ReCall
import HandS.Text
import HandS.StrMore
import PyProof.SumAny
import HandS.Property
import HandS.MakeKw
import KE.KStateDown
import HandS.Head0
import HandS.Head1
import HandS.Head2
import HandS.HeadEnd
import HandS.HeadHook1
import HandS.HeadHook2
import KE.GoesMore
import KE.GoesEnum
import PyProof.Rows.SortShellAny
import HandS.Strs
import HandS.MakeKwOnly
import KE.KEqDict
import HandS.HeadHook3
import PySem.Challenge.RW_mendedruns_k29_reasons_of_refusals
set_option Elab.async false
set_option linter.all false
set_option maxRecDepth 100000
set_option autoImplicit false
set_option maxHeartbeats 4000000
/-! the value layer: data by value (tuples, lists, dicts, instances that nobody changes), and a store of things that are changed -/
namespace VL
open PySem PySem.Spec PyProof.Rows L2

inductive D where
  | non | bl (b : Bool) | int (i : Int) | str (x : Str) | ty (n : String)
  | tup (xs : List D) | ctp (xs : List D) | lst (xs : List D) | dic (ks : List Key) (vs : List D) | dct (ks : List (List Key)) (vs : List D)
  | obj (c : String) (ns : List Str) (vs : List D)
  | scr (ns : List Int) | ref (n : Nat) | kref (s : String)
inductive Ob where
  | lst (xs : List D)
  | dic (ks : List Key) (vs : List D)
  | dct (ks : List (List Key)) (vs : List D)
  | dlk (ks : List Key) (vs : List D)
  | ins (c : String) (ns : List Str) (vs : List D)
  | dead
abbrev Sto := List Ob
abbrev Lc := List (Option D)
inductive R (a : Type) where
  | ok (x : a) (S : Sto)
  | exc (c : String) (fs : List (Str × D)) (S : Sto)
  | bad
def R.bind {a b : Type} (r : R a) (k : a → Sto → R b) : R b := match r with
  | .ok x S => k x S
  | .exc c fs S => .exc c fs S
  | .bad => .bad
@[simp] theorem R.bind_ok {a b : Type} (x : a) (S : Sto) (k : a → Sto → R b) : (R.ok x S).bind k = k x S := rfl
@[simp] theorem R.bind_exc {a b : Type} (c : String) (fs : List (Str × D)) (S : Sto) (k : a → Sto → R b) : (R.exc c fs S : R a).bind k = .exc c fs S := rfl
@[simp] theorem R.bind_bad {a b : Type} (k : a → Sto → R b) : (R.bad : R a).bind k = .bad := rfl

/-- where the things of the store stand (true: alive), what is in the making, which dicts are locked -/
structure Mp where
  l : List (Addr × Bool)
  o : List Addr
  k : List (Nat × Addr)
def Mp.nil : Mp := ⟨[], [], []⟩
def Un (m : Mp) (a : Addr) : Prop := (∀ n : Nat, m.l[n]? ≠ some (a, true)) ∧ a ∉ m.o
/-- a dict that nobody changes may be locked for ever -/
def Lockable : HO → Prop
  | .dK _ => True
  | .dT _ => True
  | _ => False
def Sm (o : HO) (x : Option HO) : Prop := x = some o ∨ (Lockable o ∧ ∃ od, x = some (.frz od o))
structure Exw (m : Mp) (H : Hp) (m' : Mp) (H' : Hp) : Prop where
  pre : ∀ (n : Nat) (a : Addr) (b : Bool), m.l[n]? = some (a, b) → ∃ b', m'.l[n]? = some (a, b') ∧ (b = false → b' = false)
  own : ∀ a o, H a = some o → Un m a → Un m' a ∧ Sm o (H' a)
/-- J: something that stands besides, and stays -/
structure G where
  K : PySem.W.Frag
  ka : String → Option Addr
  cl : String → Option Addr
  J : Mp → Hp → Prop
  st : ∀ {m : Mp} {H : Hp} {m' : Mp} {H' : Hp}, Exw m H m' H' → J m H → J m' H'
/-- a tuple of the top: it stands for ever -/
def SqK (g : G) (a : Addr) (xs : List V) : Prop := ∃ (o : Obj) (its : Array Value) (n : Nat), g.K.lookup a = some o ∧ o.cls = .type "tuple" ∧ o.data = .seq its n ∧ its.size ≤ sizeLine ∧ Vals xs its.toList
theorem SqK.sq {g : G} {H : Hp} {a : Addr} {xs : List V} (h : SqK g a xs) : SqT g.K H a xs := .inr h
def SqTv (g : G) (m : Mp) (H : Hp) (a : Addr) (xs : List V) : Prop := H a = some (.tup xs) ∧ Un m a
theorem SqTv.sq {g : G} {m : Mp} {H : Hp} {a : Addr} {xs : List V} (h : SqTv g m H a xs) : SqT g.K H a xs := .inl (.inl h.1)
def Scr (g : G) (m : Mp) (H : Hp) (a : Addr) (xs : List V) : Prop :=
  ((∃ o, H a = some (.frz o (.lst xs))) ∧ Un m a) ∨ ∃ (o : Obj) (its : Array Value) (n : Nat), g.K.lookup a = some o ∧ o.cls = .type "list" ∧ o.dict = none ∧ o.data = .seq its n ∧ its.size ≤ sizeLine ∧ Vals xs its.toList
theorem Scr.sq {g : G} {m : Mp} {H : Hp} {a : Addr} {xs : List V} (h : Scr g m H a xs) : SqL g.K H a xs := by
  rcases h with ⟨⟨o, h⟩, _⟩ | h
  · exact .inl (.inr ⟨o, h⟩)
  · exact .inr h

mutual
def RV (g : G) (m : Mp) (H : Hp) : D → V → Prop
  | .non, v => v = .non
  | .bl b, v => v = .bl b
  | .int i, v => v = .int i
  | .str x, v => v = .str x
  | .ty n, v => v = .ty n
  | .tup ds, v => ∃ a vs, v = .ref a ∧ SqTv g m H a vs ∧ RVs g m H ds vs
  | .ctp ds, v => ∃ a vs, v = .ref a ∧ SqK g a vs ∧ RVs g m H ds vs
  | .lst ds, v => ∃ a vs, v = .ref a ∧ H a = some (.lst vs) ∧ Un m a ∧ RVs g m H ds vs
  | .dic ks ds, v => ∃ (a : Addr) (kvs : List (Key × V)), v = .ref a ∧ Rd H a (.dK kvs) ∧ Un m a ∧ kvs.map (·.1) = ks ∧ RVs g m H ds (kvs.map (·.2))
  | .dct ks ds, v => ∃ (a : Addr) (kvs : List (List Key × V)), v = .ref a ∧ Rd H a (.dT kvs) ∧ Un m a ∧ kvs.map (·.1) = ks ∧ RVs g m H ds (kvs.map (·.2))
  | .obj c ns ds, v => ∃ (a C dx : Addr) (fs : List (Str × V)), v = .ref a ∧ g.cl c = some C ∧ H a = some (.ins C dx fs) ∧ Un m a ∧ fs.map (·.1) = ns ∧ RVs g m H ds (fs.map (·.2))
  | .scr ns, v => ∃ a, v = .ref a ∧ Scr g m H a (ns.map V.int)
  | .ref n, v => ∃ a b, v = .ref a ∧ m.l[n]? = some (a, b)
  | .kref s, v => ∃ a, v = .ref a ∧ g.ka s = some a
def RVs (g : G) (m : Mp) (H : Hp) : List D → List V → Prop
  | [], vs => vs = []
  | d :: ds, vs => ∃ v r, vs = v :: r ∧ RV g m H d v ∧ RVs g m H ds r
end

structure Exk (m : Mp) (H : Hp) (m' : Mp) (H' : Hp) : Prop extends Exw m H m' H' where
  privk : m'.k = m.k
  keepk : ∀ x ∈ m.k, H' x.2 = H x.2
structure Ext (g : G) (m : Mp) (H : Hp) (m' : Mp) (H' : Hp) : Prop extends Exk m H m' H' where
  priv : m'.o = m.o
  keep : ∀ a ∈ m.o, H' a = H a
theorem Ext.of {g : G} {m : Mp} {H : Hp} {m' : Mp} {H' : Hp} (w : Exw m H m' H') (p : m'.o = m.o) (k : ∀ a ∈ m.o, H' a = H a) (pk : m'.k = m.k) (kk : ∀ x ∈ m.k, H' x.2 = H x.2) : Ext g m H m' H' := ⟨⟨w, pk, kk⟩, p, k⟩
theorem Sm.refl {o : HO} {x : Option HO} (h : x = some o) : Sm o x := .inl h
theorem Sm.trans {o : HO} {x y : Option HO} (h : Sm o x) (k : ∀ u, x = some u → Sm u y) : Sm o y := by
  rcases h with h | ⟨h0, od, h⟩
  · exact k o h
  · rcases k _ h with e | ⟨e0, e⟩
    · exact .inr ⟨h0, od, e⟩
    · exact e0.elim
theorem Sm.of {o : HO} {x : Option HO} (h : Sm o x) (n : ¬ Lockable o) : x = some o := by
  rcases h with h | ⟨h0, _⟩
  · exact h
  · exact absurd h0 n
theorem Sm.rd {u : HO} {H H' : Hp} {a : Addr} (h : ∀ o, H a = some o → Sm o (H' a)) (r : Rd H a u) (hu : Lockable u) : Rd H' a u := by
  rcases r with r | ⟨o, r⟩
  · rcases h _ r with e | ⟨_, od, e⟩
    · exact .inl e
    · exact .inr ⟨od, e⟩
  · exact .inr ⟨o, (h _ r).of fun z => z⟩
theorem Ext.refl {g : G} {m : Mp} {H : Hp} : Ext g m H m H := .of ⟨fun n a b h => ⟨b, h, fun z => z⟩, fun a o h u => ⟨u, .inl h⟩⟩ rfl (fun _ _ => rfl) rfl (fun _ _ => rfl)
theorem Exw.trans {m m1 m2 : Mp} {H H1 H2 : Hp} (a : Exw m H m1 H1) (b : Exw m1 H1 m2 H2) : Exw m H m2 H2 := by
  refine ⟨fun n x k h => ?_, fun x o h u => ?_⟩
  · obtain ⟨k1, e1, f1⟩ := a.pre n x k h
    obtain ⟨k2, e2, f2⟩ := b.pre n x k1 e1
    exact ⟨k2, e2, fun z => f2 (f1 z)⟩
  · obtain ⟨u1, s1⟩ := a.own x o h u
    have s2 : Sm o (H2 x) := s1.trans fun w hw => (b.own x w hw u1).2
    rcases s1 with e | ⟨_, od, e⟩
    · exact ⟨(b.own x _ e u1).1, s2⟩
    · exact ⟨(b.own x _ e u1).1, s2⟩
theorem Ext.trans {g : G} {m m1 m2 : Mp} {H H1 H2 : Hp} (a : Ext g m H m1 H1) (b : Ext g m1 H1 m2 H2) : Ext g m H m2 H2 :=
  .of (a.toExw.trans b.toExw) (b.priv.trans a.priv) (fun x hx => (b.keep x (by rw [a.priv]; exact hx)).trans (a.keep x hx)) (b.privk.trans a.privk) (fun x hx => (b.keepk x (by rw [a.privk]; exact hx)).trans (a.keepk x hx))
theorem Exk.trans {m m1 m2 : Mp} {H H1 H2 : Hp} (a : Exk m H m1 H1) (b : Exk m1 H1 m2 H2) : Exk m H m2 H2 :=
  ⟨a.toExw.trans b.toExw, b.privk.trans a.privk, fun x hx => (b.keepk x (by rw [a.privk]; exact hx)).trans (a.keepk x hx)⟩
theorem Exw.get {m m' : Mp} {H H' : Hp} (e : Exw m H m' H') {n : Nat} {a : Addr} {b : Bool} (h : m.l[n]? = some (a, b)) : ∃ b', m'.l[n]? = some (a, b') := let ⟨b', h1, _⟩ := e.pre n a b h; ⟨b', h1⟩
theorem Exw.tupv {g : G} {m m' : Mp} {H H' : Hp} (e : Exw m H m' H') {a : Addr} {xs : List V} (h : SqTv g m H a xs) : SqTv g m' H' a xs := by
  obtain ⟨u1, s⟩ := e.own a _ h.1 h.2
  exact ⟨s.of fun z => z, u1⟩
theorem Exw.scr {g : G} {m m' : Mp} {H H' : Hp} (e : Exw m H m' H') {a : Addr} {xs : List V} (h : Scr g m H a xs) : Scr g m' H' a xs := by
  rcases h with ⟨⟨o, h⟩, u⟩ | h
  · obtain ⟨u1, s⟩ := e.own a _ h u
    exact .inl ⟨⟨o, s.of fun z => z⟩, u1⟩
  · exact .inr h
theorem Exw.rd {m m' : Mp} {H H' : Hp} (e : Exw m H m' H') {a : Addr} {o : HO} (h : Rd H a o) (u : Un m a) (hl : Lockable o) : Rd H' a o ∧ Un m' a := by
  refine ⟨Sm.rd (fun o h => (e.own a o h u).2) h hl, ?_⟩
  rcases h with h | ⟨od, h⟩
  · exact (e.own a _ h u).1
  · exact (e.own a _ h u).1
mutual
theorem RV.extw {g : G} {m m' : Mp} {H H' : Hp} (e : Exw m H m' H') : ∀ {d : D} {v : V}, RV g m H d v → RV g m' H' d v
  | .non, _, h => by unfold RV at h ⊢; exact h
  | .bl b, _, h => by unfold RV at h ⊢; exact h
  | .int i, _, h => by unfold RV at h ⊢; exact h
  | .str x, _, h => by unfold RV at h ⊢; exact h
  | .ty n, _, h => by unfold RV at h ⊢; exact h
  | .tup ds, v, h => by
    unfold RV at h ⊢
    obtain ⟨a, vs, rfl, h1, h2⟩ := h
    exact ⟨a, vs, rfl, e.tupv h1, RVs.extw e h2⟩
  | .ctp ds, v, h => by
    unfold RV at h ⊢
    obtain ⟨a, vs, rfl, h1, h2⟩ := h
    exact ⟨a, vs, rfl, h1, RVs.extw e h2⟩
  | .lst ds, v, h => by
    unfold RV at h ⊢
    obtain ⟨a, vs, rfl, h1, u, h2⟩ := h
    obtain ⟨u1, s⟩ := e.own a _ h1 u
    exact ⟨a, vs, rfl, s.of fun z => z, u1, RVs.extw e h2⟩
  | .dic ks ds, v, h => by
    unfold RV at h ⊢
    obtain ⟨a, kvs, rfl, h1, u, hk, h2⟩ := h
    obtain ⟨h3, u1⟩ := e.rd h1 u trivial
    exact ⟨a, kvs, rfl, h3, u1, hk, RVs.extw e h2⟩
  | .dct ks ds, v, h => by
    unfold RV at h ⊢
    obtain ⟨a, kvs, rfl, h1, u, hk, h2⟩ := h
    obtain ⟨h3, u1⟩ := e.rd h1 u trivial
    exact ⟨a, kvs, rfl, h3, u1, hk, RVs.extw e h2⟩
  | .obj c ns ds, v, h => by
    unfold RV at h ⊢
    obtain ⟨a, C, dx, fs, rfl, hC, h1, u, hk, h2⟩ := h
    obtain ⟨u1, s⟩ := e.own a _ h1 u
    exact ⟨a, C, dx, fs, rfl, hC, s.of fun z => z, u1, hk, RVs.extw e h2⟩
  | .scr ns, v, h => by
    unfold RV at h ⊢
    obtain ⟨a, rfl, h1⟩ := h
    exact ⟨a, rfl, e.scr h1⟩
  | .ref n, v, h => by
    unfold RV at h ⊢
    obtain ⟨a, b, rfl, h1⟩ := h
    obtain ⟨b', h2⟩ := e.get h1
    exact ⟨a, b', rfl, h2⟩
  | .kref s, v, h => by unfold RV at h ⊢; exact h
theorem RVs.extw {g : G} {m m' : Mp} {H H' : Hp} (e : Exw m H m' H') : ∀ {ds : List D} {vs : List V}, RVs g m H ds vs → RVs g m' H' ds vs
  | [], _, h => by unfold RVs at h ⊢; exact h
  | d :: ds, vs, h => by
    unfold RVs at h ⊢
    obtain ⟨v, r, rfl, h1, h2⟩ := h
    exact ⟨v, r, rfl, RV.extw e h1, RVs.extw e h2⟩
end
theorem RV.ext {g : G} {m m' : Mp} {H H' : Hp} (e : Ext g m H m' H') {d : D} {v : V} (h : RV g m H d v) : RV g m' H' d v := RV.extw e.toExw h
theorem RVs.ext {g : G} {m m' : Mp} {H H' : Hp} (e : Ext g m H m' H') {ds : List D} {vs : List V} (h : RVs g m H ds vs) : RVs g m' H' ds vs := RVs.extw e.toExw h
section
variable {g : G} {m : Mp} {H : Hp}
theorem RVs.nil : RVs g m H [] [] := by unfold RVs; rfl
theorem RVs.cons {d : D} {v : V} {ds : List D} {vs : List V} (h : RV g m H d v) (t : RVs g m H ds vs) : RVs g m H (d :: ds) (v :: vs) := by unfold RVs; exact ⟨v, vs, rfl, h, t⟩
theorem RVs.nil_iff {vs : List V} (h : RVs g m H [] vs) : vs = [] := by unfold RVs at h; exact h
theorem RVs.cons_iff {d : D} {ds : List D} {vs : List V} (h : RVs g m H (d :: ds) vs) : ∃ v r, vs = v :: r ∧ RV g m H d v ∧ RVs g m H ds r := by unfold RVs at h; exact h
theorem RVs.length : ∀ {ds : List D} {vs : List V}, RVs g m H ds vs → vs.length = ds.length
  | [], _, h => by rw [h.nil_iff]; rfl
  | d :: ds, vs, h => by
    obtain ⟨v, r, rfl, _, t⟩ := h.cons_iff
    simp [RVs.length t]
theorem RVs.get : ∀ {ds : List D} {vs : List V}, RVs g m H ds vs → ∀ {i : Nat} {d : D}, ds[i]? = some d → ∃ v, vs[i]? = some v ∧ RV g m H d v
  | [], _, _, i, d, e => by simp at e
  | d0 :: ds, vs, h, 0, d, e => by
    obtain ⟨v, r, rfl, h1, _⟩ := h.cons_iff
    simp at e; subst e
    exact ⟨v, rfl, h1⟩
  | d0 :: ds, vs, h, i + 1, d, e => by
    obtain ⟨v, r, rfl, _, t⟩ := h.cons_iff
    simpa using RVs.get t (i := i) (by simpa using e)
theorem RVs.get' {ds : List D} {vs : List V} (h : RVs g m H ds vs) {i : Nat} {v : V} (e : vs[i]? = some v) : ∃ d, ds[i]? = some d ∧ RV g m H d v := by
  have hi : i < ds.length := by rw [← h.length]; exact (List.getElem?_eq_some_iff.mp e).1
  obtain ⟨v', e', r⟩ := h.get (i := i) (d := ds[i]) (List.getElem?_eq_getElem hi)
  rw [e] at e'; cases e'
  exact ⟨_, List.getElem?_eq_getElem hi, r⟩
theorem RVs.append : ∀ {ds es : List D} {vs us : List V}, RVs g m H ds vs → RVs g m H es us → RVs g m H (ds ++ es) (vs ++ us)
  | [], es, vs, us, h, k => by rw [h.nil_iff]; exact k
  | d :: ds, es, vs, us, h, k => by
    obtain ⟨v, r, rfl, h1, t⟩ := h.cons_iff
    exact .cons h1 (RVs.append t k)
theorem RVs.take : ∀ {ds : List D} {vs : List V} (n : Nat), RVs g m H ds vs → RVs g m H (ds.take n) (vs.take n)
  | _, _, 0, _ => by simpa using RVs.nil
  | [], vs, n + 1, h => by rw [h.nil_iff]; simpa using RVs.nil
  | d :: ds, vs, n + 1, h => by
    obtain ⟨v, r, rfl, h1, t⟩ := h.cons_iff
    simpa using RVs.cons h1 (RVs.take n t)
theorem RVs.drop : ∀ {ds : List D} {vs : List V} (n : Nat), RVs g m H ds vs → RVs g m H (ds.drop n) (vs.drop n)
  | _, _, 0, h => by simpa using h
  | [], vs, n + 1, h => by rw [h.nil_iff]; simpa using RVs.nil
  | d :: ds, vs, n + 1, h => by
    obtain ⟨v, r, rfl, h1, t⟩ := h.cons_iff
    simpa using RVs.drop n t
theorem RVs.set : ∀ {ds : List D} {vs : List V} (n : Nat) {d : D} {v : V}, RVs g m H ds vs → RV g m H d v → RVs g m H (ds.set n d) (vs.set n v)
  | [], vs, n, _, _, h, _ => by rw [h.nil_iff]; simpa using RVs.nil
  | d0 :: ds, vs, 0, d, v, h, k => by
    obtain ⟨v', r, rfl, h1, t⟩ := h.cons_iff
    simpa using RVs.cons k t
  | d0 :: ds, vs, n + 1, d, v, h, k => by
    obtain ⟨v', r, rfl, h1, t⟩ := h.cons_iff
    simpa using RVs.cons h1 (RVs.set n t k)
theorem RVs.rep {ds : List D} {vs : List V} (h : RVs g m H ds vs) : ∀ n : Nat, RVs g m H (List.replicate n ds).flatten (List.replicate n vs).flatten
  | 0 => by simpa using RVs.nil
  | n + 1 => by rw [List.replicate_succ, List.replicate_succ, List.flatten_cons, List.flatten_cons]; exact h.append (RVs.rep h n)
theorem rv_int {i : Int} : RV g m H (.int i) (.int i) := by unfold RV; rfl
theorem rv_str {i : Str} : RV g m H (.str i) (.str i) := by unfold RV; rfl
theorem rv_bl {i : Bool} : RV g m H (.bl i) (.bl i) := by unfold RV; rfl
theorem rv_non : RV g m H .non .non := by unfold RV; rfl
theorem rv_ty {i : String} : RV g m H (.ty i) (.ty i) := by unfold RV; rfl
theorem rv_tupv {a : Addr} {vs : List V} {ds : List D} (h : SqTv g m H a vs) (r : RVs g m H ds vs) : RV g m H (.tup ds) (.ref a) := by unfold RV; exact ⟨a, vs, rfl, h, r⟩
theorem rv_lst {a : Addr} {vs : List V} {ds : List D} (h : H a = some (.lst vs)) (u : Un m a) (r : RVs g m H ds vs) : RV g m H (.lst ds) (.ref a) := by unfold RV; exact ⟨a, vs, rfl, h, u, r⟩
theorem rv_dic {a : Addr} {kvs : List (Key × V)} {ks : List Key} {ds : List D} (h : Rd H a (.dK kvs)) (u : Un m a) (hk : kvs.map (·.1) = ks) (r : RVs g m H ds (kvs.map (·.2))) : RV g m H (.dic ks ds) (.ref a) := by unfold RV; exact ⟨a, kvs, rfl, h, u, hk, r⟩
theorem rv_dct {a : Addr} {kvs : List (List Key × V)} {ks : List (List Key)} {ds : List D} (h : Rd H a (.dT kvs)) (u : Un m a) (hk : kvs.map (·.1) = ks) (r : RVs g m H ds (kvs.map (·.2))) : RV g m H (.dct ks ds) (.ref a) := by unfold RV; exact ⟨a, kvs, rfl, h, u, hk, r⟩
theorem rv_obj {a C dx : Addr} {fs : List (Str × V)} {c : String} {ns : List Str} {ds : List D} (hC : g.cl c = some C) (h : H a = some (.ins C dx fs)) (u : Un m a) (hk : fs.map (·.1) = ns) (r : RVs g m H ds (fs.map (·.2))) : RV g m H (.obj c ns ds) (.ref a) := by unfold RV; exact ⟨a, C, dx, fs, rfl, hC, h, u, hk, r⟩
theorem rv_ref {a : Addr} {n : Nat} {b : Bool} (h : m.l[n]? = some (a, b)) : RV g m H (.ref n) (.ref a) := by unfold RV; exact ⟨a, b, rfl, h⟩
theorem rv_kref {a : Addr} {s : String} (h : g.ka s = some a) : RV g m H (.kref s) (.ref a) := by unfold RV; exact ⟨a, rfl, h⟩
theorem rv_scr {a : Addr} {ns : List Int} (h : Scr g m H a (ns.map V.int)) : RV g m H (.scr ns) (.ref a) := by unfold RV; exact ⟨a, rfl, h⟩
theorem of_int {i : Int} {v : V} (h : RV g m H (.int i) v) : v = .int i := by unfold RV at h; exact h
theorem of_str {i : Str} {v : V} (h : RV g m H (.str i) v) : v = .str i := by unfold RV at h; exact h
theorem of_bl {i : Bool} {v : V} (h : RV g m H (.bl i) v) : v = .bl i := by unfold RV at h; exact h
theorem of_non {v : V} (h : RV g m H .non v) : v = .non := by unfold RV at h; exact h
theorem of_ty {i : String} {v : V} (h : RV g m H (.ty i) v) : v = .ty i := by unfold RV at h; exact h
theorem rv_ctp {a : Addr} {vs : List V} {ds : List D} (h : SqK g a vs) (r : RVs g m H ds vs) : RV g m H (.ctp ds) (.ref a) := by unfold RV; exact ⟨a, vs, rfl, h, r⟩
theorem of_ctp {v : V} {ds : List D} (h : RV g m H (.ctp ds) v) : ∃ a vs, v = .ref a ∧ SqK g a vs ∧ RVs g m H ds vs := by unfold RV at h; exact h
theorem of_tupv {v : V} {ds : List D} (h : RV g m H (.tup ds) v) : ∃ a vs, v = .ref a ∧ SqTv g m H a vs ∧ RVs g m H ds vs := by unfold RV at h; exact h
theorem of_tup {v : V} {ds : List D} (h : RV g m H (.tup ds) v) : ∃ a vs, v = .ref a ∧ SqT g.K H a vs ∧ RVs g m H ds vs := let ⟨a, vs, e, h1, h2⟩ := of_tupv h; ⟨a, vs, e, h1.sq, h2⟩
theorem of_lst {v : V} {ds : List D} (h : RV g m H (.lst ds) v) : ∃ a vs, v = .ref a ∧ H a = some (.lst vs) ∧ Un m a ∧ RVs g m H ds vs := by unfold RV at h; exact h
theorem of_dic {v : V} {ks : List Key} {ds : List D} (h : RV g m H (.dic ks ds) v) : ∃ (a : Addr) (kvs : List (Key × V)), v = .ref a ∧ Rd H a (.dK kvs) ∧ Un m a ∧ kvs.map (·.1) = ks ∧ RVs g m H ds (kvs.map (·.2)) := by unfold RV at h; exact h
theorem of_dct {v : V} {ks : List (List Key)} {ds : List D} (h : RV g m H (.dct ks ds) v) : ∃ (a : Addr) (kvs : List (List Key × V)), v = .ref a ∧ Rd H a (.dT kvs) ∧ Un m a ∧ kvs.map (·.1) = ks ∧ RVs g m H ds (kvs.map (·.2)) := by unfold RV at h; exact h
theorem of_obj {v : V} {c : String} {ns : List Str} {ds : List D} (h : RV g m H (.obj c ns ds) v) : ∃ (a C dx : Addr) (fs : List (Str × V)), v = .ref a ∧ g.cl c = some C ∧ H a = some (.ins C dx fs) ∧ Un m a ∧ fs.map (·.1) = ns ∧ RVs g m H ds (fs.map (·.2)) := by unfold RV at h; exact h
theorem of_scr {v : V} {ns : List Int} (h : RV g m H (.scr ns) v) : ∃ a, v = .ref a ∧ Scr g m H a (ns.map V.int) := by unfold RV at h; exact h
theorem of_ref {v : V} {n : Nat} (h : RV g m H (.ref n) v) : ∃ a b, v = .ref a ∧ m.l[n]? = some (a, b) := by unfold RV at h; exact h
theorem of_kref {v : V} {s : String} (h : RV g m H (.kref s) v) : ∃ a, v = .ref a ∧ g.ka s = some a := by unfold RV at h; exact h
end

/-! objects of the store -/
def OR (g : G) (m : Mp) (H : Hp) : Ob → HO → Prop
  | .lst ds, o => ∃ vs, o = .lst vs ∧ RVs g m H ds vs
  | .dic ks ds, o => ∃ kvs : List (Key × V), o = .dK kvs ∧ kvs.map (·.1) = ks ∧ RVs g m H ds (kvs.map (·.2))
  | .dct ks ds, o => ∃ kvs : List (List Key × V), o = .dT kvs ∧ kvs.map (·.1) = ks ∧ RVs g m H ds (kvs.map (·.2))
  | .dlk ks ds, o => ∃ (od : Obj) (kvs : List (Key × V)), o = .frz od (.dK kvs) ∧ kvs.map (·.1) = ks ∧ RVs g m H ds (kvs.map (·.2))
  | .ins c ns ds, o => ∃ (C dx : Addr) (fs : List (Str × V)), g.cl c = some C ∧ o = .ins C dx fs ∧ fs.map (·.1) = ns ∧ RVs g m H ds (fs.map (·.2))
  | .dead, _ => False
theorem OR.extw {g : G} {m m' : Mp} {H H' : Hp} (e : Exw m H m' H') : ∀ {ob : Ob} {o : HO}, OR g m H ob o → OR g m' H' ob o
  | .lst ds, o, ⟨vs, h1, h2⟩ => ⟨vs, h1, h2.extw e⟩
  | .dic ks ds, o, ⟨vs, h1, h2, h3⟩ => ⟨vs, h1, h2, h3.extw e⟩
  | .dct ks ds, o, ⟨vs, h1, h2, h3⟩ => ⟨vs, h1, h2, h3.extw e⟩
  | .dlk ks ds, o, ⟨od, vs, h1, h2, h3⟩ => ⟨od, vs, h1, h2, h3.extw e⟩
  | .ins c ns ds, o, ⟨C, dx, fs, h1, h2, h3, h4⟩ => ⟨C, dx, fs, h1, h2, h3, h4.extw e⟩
theorem OR.ext {g : G} {m m' : Mp} {H H' : Hp} (e : Ext g m H m' H') {ob : Ob} {o : HO} (h : OR g m H ob o) : OR g m' H' ob o := h.extw e.toExw
structure Rel (g : G) (m : Mp) (S : Sto) (H : Hp) : Prop where
  len : m.l.length = S.length
  inj : ∀ (n k : Nat) (a : Addr), m.l[n]? = some (a, true) → m.l[k]? = some (a, true) → n = k
  ob : ∀ (n : Nat) (a : Addr) (ob : Ob), m.l[n]? = some (a, true) → S[n]? = some ob → ∃ o, H a = some o ∧ OR g m H ob o
  gone : ∀ (n : Nat) (a : Addr), m.l[n]? = some (a, false) → S[n]? = some .dead
  prv : ∀ a ∈ m.o, (∃ o, H a = some o) ∧ ∀ n : Nat, m.l[n]? ≠ some (a, true)
  lks : ∀ x ∈ m.k, m.l[x.1]? = some (x.2, true) ∧ ∃ ks ds, S[x.1]? = some (.dlk ks ds)
  inv : g.J m H
section
variable {g : G} {m : Mp} {S : Sto} {H : Hp}
/-- what is in the store is alive -/
theorem Rel.live (r : Rel g m S H) {n : Nat} {a : Addr} {b : Bool} {ob : Ob} (h : m.l[n]? = some (a, b)) (e : S[n]? = some ob) (hd : ob ≠ .dead) : m.l[n]? = some (a, true) := by
  cases b with
  | true => exact h
  | false => rw [r.gone n a h] at e; exact absurd (Option.some.inj e).symm hd
theorem Rel.at (r : Rel g m S H) {n : Nat} {v : V} {ob : Ob} (rv : RV g m H (.ref n) v) (e : S[n]? = some ob) (hd : ob ≠ .dead) : ∃ a o, v = .ref a ∧ m.l[n]? = some (a, true) ∧ H a = some o ∧ OR g m H ob o := by
  obtain ⟨a, b, rfl, h⟩ := of_ref rv
  have h1 := r.live h e hd
  obtain ⟨o, h2, h3⟩ := r.ob n a ob h1 e
  exact ⟨a, o, rfl, h1, h2, h3⟩
theorem Rel.fresh (r : Rel g m S H) {p : Addr} (hp : H p = none) (n : Nat) : m.l[n]? ≠ some (p, true) := fun e => by
  have hn : n < S.length := by rw [← r.len]; exact (List.getElem?_eq_some_iff.mp e).1
  obtain ⟨o, e', _⟩ := r.ob n p S[n] e (List.getElem?_eq_getElem hn)
  rw [hp] at e'; cases e'
theorem Rel.freshO (r : Rel g m S H) {p : Addr} (hp : H p = none) : p ∉ m.o := fun e => by
  obtain ⟨⟨o, e'⟩, _⟩ := r.prv p e
  rw [hp] at e'; cases e'
theorem Rel.freshK (r : Rel g m S H) {p : Addr} (hp : H p = none) {x : Nat × Addr} (hx : x ∈ m.k) : x.2 ≠ p := fun z => r.fresh hp x.1 (by rw [(r.lks x hx).1, z])
theorem Rel.nlk (r : Rel g m S H) {n : Nat} {a : Addr} {ob : Ob} (h1 : m.l[n]? = some (a, true)) (h2 : S[n]? = some ob) (hf : ∀ ks ds, ob ≠ .dlk ks ds) {x : Nat × Addr} (hx : x ∈ m.k) : x.1 ≠ n ∧ x.2 ≠ a := by
  obtain ⟨h3, ks, ds, h4⟩ := r.lks x hx
  have h5 : x.1 ≠ n := fun z => by rw [z, h2] at h4; exact hf ks ds (Option.some.inj h4)
  exact ⟨h5, fun z => h5 (r.inj x.1 n a (by rw [h3, z]) h1)⟩
theorem Rel.un (r : Rel g m S H) {p : Addr} (hp : H p = none) : Un m p := ⟨r.fresh hp, r.freshO hp⟩
/-- a new thing that nobody changes -/
theorem ext_lay {p : Addr} {o' : HO} (r : Rel g m S H) (hp : H p = none) : Ext g m H m (upd H p o') := by
  refine .of ⟨fun n a b h => ⟨b, h, fun z => z⟩, fun a o h u => ⟨u, ?_⟩⟩ rfl (fun a ha => ?_) rfl (fun x hx => upd_ne (r.freshK hp hx))
  · refine .inl ?_
    rw [upd_ne (ne_of_none h hp)]
    exact h
  · rw [upd_ne]
    rintro rfl
    exact r.freshO hp ha
theorem Rel.lay (r : Rel g m S H) {p : Addr} {o : HO} (hp : H p = none) : Rel g m S (upd H p o) := by
  have e : Ext g m H m (upd H p o) := ext_lay r hp
  refine ⟨r.len, r.inj, fun n a ob' h1 h2 => ?_, r.gone, fun a ha => ?_, r.lks, g.st e.toExw r.inv⟩
  · obtain ⟨o', e1, e2⟩ := r.ob n a ob' h1 h2
    refine ⟨o', ?_, e2.ext e⟩
    rw [upd_ne (ne_of_none e1 hp)]
    exact e1
  · obtain ⟨⟨o', e1⟩, e2⟩ := r.prv a ha
    refine ⟨⟨o', ?_⟩, e2⟩
    rw [upd_ne (ne_of_none e1 hp)]
    exact e1
/-- a new thing of the store -/
def Mp.add (m : Mp) (p : Addr) : Mp := ⟨m.l ++ [(p, true)], m.o, m.k⟩
theorem add_get {p : Addr} {n : Nat} {x : Addr × Bool} (h : (m.add p).l[n]? = some x) : m.l[n]? = some x ∨ (n = m.l.length ∧ x = (p, true)) := by
  unfold Mp.add at h
  by_cases hn : n < m.l.length
  · rw [List.getElem?_append_left hn] at h; exact .inl h
  · rw [List.getElem?_append_right (by omega), List.getElem?_singleton] at h
    split at h
    · exact .inr ⟨by omega, (Option.some.inj h).symm⟩
    · cases h
theorem add_old {p : Addr} {n : Nat} {x : Addr × Bool} (h : m.l[n]? = some x) : (m.add p).l[n]? = some x := by
  unfold Mp.add
  rw [List.getElem?_append_left (List.getElem?_eq_some_iff.mp h).1]
  exact h
theorem ext_new {p : Addr} {o' : HO} (r : Rel g m S H) (hp : H p = none) : Ext g m H (m.add p) (upd H p o') := by
  refine .of ⟨fun n a b h => ⟨b, add_old h, fun z => z⟩, fun a o h u => ⟨⟨fun n z => ?_, u.2⟩, ?_⟩⟩ rfl (fun a ha => ?_) rfl (fun x hx => upd_ne (r.freshK hp hx))
  · rcases add_get z with z | ⟨_, z⟩
    · exact u.1 n z
    · cases z; rw [hp] at h; cases h
  · refine .inl ?_
    rw [upd_ne (ne_of_none h hp)]
    exact h
  · rw [upd_ne]
    rintro rfl
    exact r.freshO hp ha
theorem Rel.last (r : Rel g m S H) {p : Addr} : (m.add p).l[S.length]? = some (p, true) := by rw [← r.len]; unfold Mp.add; simp
theorem Rel.alloc (r : Rel g m S H) {p : Addr} {o : HO} {ob : Ob} (hp : H p = none) (h : OR g m H ob o) : Rel g (m.add p) (S ++ [ob]) (upd H p o) := by
  have e : Ext g m H (m.add p) (upd H p o) := ext_new r hp
  have hl := r.len
  refine ⟨by simp [hl, Mp.add], fun n k a h1 h2 => ?_, fun n a ob' h1 h2 => ?_, fun n a h1 => ?_, fun a ha => ?_, fun x hx => ⟨add_old (r.lks x hx).1, let ⟨ks, ds, h3⟩ := (r.lks x hx).2; ⟨ks, ds, by rw [List.getElem?_append_left (List.getElem?_eq_some_iff.mp h3).1]; exact h3⟩⟩, g.st e.toExw r.inv⟩
  · rcases add_get h1 with h3 | ⟨h3, h4⟩
    · rcases add_get h2 with h5 | ⟨h5, h6⟩
      · exact r.inj n k a h3 h5
      · have : a = p := congrArg Prod.fst h6
        subst this
        exact absurd h3 (r.fresh hp n)
    · have : a = p := congrArg Prod.fst h4
      subst this
      rcases add_get h2 with h5 | ⟨h5, h6⟩
      · exact absurd h5 (r.fresh hp k)
      · omega
  · rcases add_get h1 with h3 | ⟨h3, h4⟩
    · rw [List.getElem?_append_left (by rw [← hl]; exact (List.getElem?_eq_some_iff.mp h3).1)] at h2
      obtain ⟨o', e1, e2⟩ := r.ob n a ob' h3 h2
      refine ⟨o', ?_, e2.ext e⟩
      rw [upd_ne (ne_of_none e1 hp)]
      exact e1
    · have : a = p := congrArg Prod.fst h4
      subst this
      rw [h3, hl, List.getElem?_append_right (by omega)] at h2
      simp at h2
      subst h2
      exact ⟨o, upd_same, h.ext e⟩
  · rcases add_get h1 with h3 | ⟨h3, h4⟩
    · rw [List.getElem?_append_left (by rw [← hl]; exact (List.getElem?_eq_some_iff.mp h3).1)]
      exact r.gone n a h3
    · have := congrArg Prod.snd h4
      cases this
  · obtain ⟨⟨o', e1⟩, e2⟩ := r.prv a ha
    refine ⟨⟨o', ?_⟩, fun n z => ?_⟩
    · rw [upd_ne (ne_of_none e1 hp)]
      exact e1
    · rcases add_get z with h3 | ⟨h3, h4⟩
      · exact e2 n h3
      · have : a = p := congrArg Prod.fst h4
        subst this
        rw [hp] at e1; cases e1
/-- a thing of the store is changed -/
theorem ext_set {n : Nat} {a : Addr} {ob : Ob} {o' : HO} (r : Rel g m S H) (h1 : m.l[n]? = some (a, true)) (h2 : S[n]? = some ob) (hf : ∀ ks ds, ob ≠ .dlk ks ds := by intro _ _ z; cases z) : Ext g m H m (upd H a o') := by
  refine .of ⟨fun n a b h => ⟨b, h, fun z => z⟩, fun b o h u => ⟨u, .inl ?_⟩⟩ rfl (fun b hb => ?_) rfl (fun x hx => upd_ne (r.nlk h1 h2 hf hx).2)
  · rw [upd_ne]
    · exact h
    · rintro rfl
      exact u.1 n h1
  · rw [upd_ne]
    rintro rfl
    exact (r.prv b hb).2 n h1
theorem Rel.set (r : Rel g m S H) {n : Nat} {a : Addr} {ob ob' : Ob} {o' : HO} (h1 : m.l[n]? = some (a, true)) (h2 : S[n]? = some ob) (h : OR g m H ob' o') (hf : ∀ ks ds, ob ≠ .dlk ks ds := by intro _ _ z; cases z) : Rel g m (S.set n ob') (upd H a o') := by
  have e : Ext g m H m (upd H a o') := ext_set r h1 h2 hf
  refine ⟨by simp [r.len], r.inj, fun k b ob2 h3 h4 => ?_, fun k b h3 => ?_, fun b hb => ?_, fun x hx => ⟨(r.lks x hx).1, let ⟨ks, ds, h3⟩ := (r.lks x hx).2; ⟨ks, ds, by rw [List.getElem?_set_ne (Ne.symm (r.nlk h1 h2 hf hx).1)]; exact h3⟩⟩, g.st e.toExw r.inv⟩
  · by_cases hk : k = n
    · subst hk
      rw [h1] at h3; cases h3
      rw [List.getElem?_set_self (List.getElem?_eq_some_iff.mp h2).1] at h4
      cases h4
      exact ⟨o', upd_same, h.ext e⟩
    · rw [List.getElem?_set_ne (Ne.symm hk)] at h4
      obtain ⟨o2, e1, e2⟩ := r.ob k b ob2 h3 h4
      refine ⟨o2, ?_, e2.ext e⟩
      rw [upd_ne]
      · exact e1
      · rintro rfl
        exact hk (r.inj k n _ h3 h1)
  · have hk : k ≠ n := by rintro rfl; rw [h1] at h3; cases h3
    rw [List.getElem?_set_ne (Ne.symm hk)]
    exact r.gone k b h3
  · obtain ⟨⟨o2, e1⟩, e2⟩ := r.prv b hb
    refine ⟨⟨o2, ?_⟩, e2⟩
    rw [upd_ne]
    · exact e1
    · rintro rfl
      exact e2 n h1
/-- it is let go: from now on nobody changes it -/
def Mp.kill (m : Mp) (n : Nat) (a : Addr) : Mp := ⟨m.l.set n (a, false), m.o, m.k⟩
theorem kill_get {n k : Nat} {a : Addr} {x : Addr × Bool} (h : (m.kill n a).l[k]? = some x) : (k = n ∧ x = (a, false)) ∨ (k ≠ n ∧ m.l[k]? = some x) := by
  unfold Mp.kill at h
  by_cases hk : k = n
  · subst hk
    rw [List.getElem?_set] at h
    simp at h
    exact .inl ⟨rfl, h.2.symm⟩
  · rw [List.getElem?_set_ne (Ne.symm hk)] at h
    exact .inr ⟨hk, h⟩
theorem ext_kill {n : Nat} {a : Addr} (h1 : m.l[n]? = some (a, true)) : Ext g m H (m.kill n a) H := by
  refine .of ⟨fun k b x h => ?_, fun b o h u => ⟨⟨fun k z => ?_, u.2⟩, .inl h⟩⟩ rfl (fun _ _ => rfl) rfl (fun _ _ => rfl)
  · by_cases hk : k = n
    · subst hk
      rw [h1] at h; cases h
      exact ⟨false, by unfold Mp.kill; rw [List.getElem?_set_self (List.getElem?_eq_some_iff.mp h1).1], fun _ => rfl⟩
    · exact ⟨x, by unfold Mp.kill; rw [List.getElem?_set_ne (Ne.symm hk)]; exact h, fun z => z⟩
  · rcases kill_get z with ⟨_, z⟩ | ⟨_, z⟩
    · cases z
    · exact u.1 k z
theorem kill_un (r : Rel g m S H) {n : Nat} {a : Addr} (h1 : m.l[n]? = some (a, true)) : Un (m.kill n a) a := by
  refine ⟨fun k z => ?_, fun z => (r.prv a z).2 n h1⟩
  rcases kill_get z with ⟨_, z⟩ | ⟨hk, z⟩
  · cases z
  · exact hk (r.inj k n a z h1)
theorem Rel.kill (r : Rel g m S H) {n : Nat} {a : Addr} {ob : Ob} (h1 : m.l[n]? = some (a, true)) (h2 : S[n]? = some ob) (hf : ∀ ks ds, ob ≠ .dlk ks ds := by intro _ _ z; cases z) : Rel g (m.kill n a) (S.set n .dead) H := by
  have e : Ext g m H (m.kill n a) H := ext_kill h1
  have hn : n < S.length := by rw [← r.len]; exact (List.getElem?_eq_some_iff.mp h1).1
  refine ⟨by simp [r.len, Mp.kill], fun k j b h3 h4 => ?_, fun k b ob2 h3 h4 => ?_, fun k b h3 => ?_, fun b hb => ?_, fun x hx => ⟨by unfold Mp.kill; rw [List.getElem?_set_ne (Ne.symm (r.nlk h1 h2 hf hx).1)]; exact (r.lks x hx).1, let ⟨ks, ds, h3⟩ := (r.lks x hx).2; ⟨ks, ds, by rw [List.getElem?_set_ne (Ne.symm (r.nlk h1 h2 hf hx).1)]; exact h3⟩⟩, g.st e.toExw r.inv⟩
  · rcases kill_get h3 with ⟨_, z⟩ | ⟨_, z⟩
    · cases z
    · rcases kill_get h4 with ⟨_, y⟩ | ⟨_, y⟩
      · cases y
      · exact r.inj k j b z y
  · rcases kill_get h3 with ⟨_, z⟩ | ⟨hk, z⟩
    · cases z
    · rw [List.getElem?_set_ne (Ne.symm hk)] at h4
      obtain ⟨o, e1, e2⟩ := r.ob k b ob2 z h4
      exact ⟨o, e1, e2.ext e⟩
  · rcases kill_get h3 with ⟨hk, z⟩ | ⟨hk, z⟩
    · subst hk
      rw [List.getElem?_set_self hn]
    · rw [List.getElem?_set_ne (Ne.symm hk)]
      exact r.gone k b z
  · obtain ⟨e1, e2⟩ := r.prv b hb
    refine ⟨e1, fun k z => ?_⟩
    rcases kill_get z with ⟨_, y⟩ | ⟨_, y⟩
    · cases y
    · exact e2 k y
/-! what is in the making -/
def Mp.hold (m : Mp) (p : Addr) : Mp := ⟨m.l, p :: m.o, m.k⟩
theorem hold_un {p a : Addr} (h : Un (m.hold p) a) : Un m a ∧ a ≠ p := ⟨⟨h.1, fun z => h.2 (List.mem_cons_of_mem _ z)⟩, fun z => h.2 (by subst z; exact List.mem_cons_self)⟩
theorem un_hold {p a : Addr} (h : Un m a) (n : a ≠ p) : Un (m.hold p) a := ⟨h.1, fun z => by
  rcases List.mem_cons.mp z with z | z
  · exact n z
  · exact h.2 z⟩
theorem exw_hold {p : Addr} {o : HO} (hp : H p = none) : Exw m H (m.hold p) (upd H p o) :=
  ⟨fun n a b h => ⟨b, h, fun z => z⟩, fun a u h un => ⟨un_hold un (ne_of_none h hp), .inl (by rw [upd_ne (ne_of_none h hp)]; exact h)⟩⟩
theorem exw_held {p : Addr} {o : HO} : Exw (m.hold p) H (m.hold p) (upd H p o) :=
  ⟨fun n a b h => ⟨b, h, fun z => z⟩, fun a u h un => ⟨un, .inl (by rw [upd_ne (hold_un un).2]; exact h)⟩⟩
theorem exw_free {p : Addr} : Exw (m.hold p) H m H :=
  ⟨fun n a b h => ⟨b, h, fun z => z⟩, fun a u h un => ⟨(hold_un un).1, .inl h⟩⟩
theorem Rel.hold (r : Rel g m S H) {p : Addr} {o : HO} (hp : H p = none) : Rel g (m.hold p) S (upd H p o) := by
  refine ⟨r.len, r.inj, fun n a ob h1 h2 => ?_, r.gone, fun a ha => ?_, r.lks, g.st (exw_hold hp) r.inv⟩
  · obtain ⟨u, e1, e2⟩ := r.ob n a ob h1 h2
    exact ⟨u, by rw [upd_ne (ne_of_none e1 hp)]; exact e1, e2.extw (exw_hold hp)⟩
  · rcases List.mem_cons.mp ha with z | z
    · subst z
      exact ⟨⟨o, upd_same⟩, r.fresh hp⟩
    · obtain ⟨⟨u, e1⟩, e2⟩ := r.prv a z
      exact ⟨⟨u, by rw [upd_ne (ne_of_none e1 hp)]; exact e1⟩, e2⟩
theorem Rel.held {p : Addr} {o : HO} (r : Rel g (m.hold p) S H) : Rel g (m.hold p) S (upd H p o) := by
  have hp : ∀ n : Nat, m.l[n]? ≠ some (p, true) := (r.prv p List.mem_cons_self).2
  refine ⟨r.len, r.inj, fun n a ob h1 h2 => ?_, r.gone, fun a ha => ?_, r.lks, g.st exw_held r.inv⟩
  · obtain ⟨u, e1, e2⟩ := r.ob n a ob h1 h2
    refine ⟨u, ?_, e2.extw exw_held⟩
    rw [upd_ne]
    · exact e1
    · rintro rfl
      exact hp n h1
  · obtain ⟨⟨u, e1⟩, e2⟩ := r.prv a ha
    by_cases z : a = p
    · subst z; exact ⟨⟨o, upd_same⟩, e2⟩
    · exact ⟨⟨u, by rw [upd_ne z]; exact e1⟩, e2⟩
theorem Rel.free {p : Addr} (r : Rel g (m.hold p) S H) : Rel g m S H :=
  ⟨r.len, r.inj, fun n a ob h1 h2 => let ⟨u, e1, e2⟩ := r.ob n a ob h1 h2; ⟨u, e1, e2.extw exw_free⟩, r.gone, fun a ha => r.prv a (List.mem_cons_of_mem _ ha), r.lks, g.st exw_free r.inv⟩
theorem Mp.of_hold {m m' : Mp} {p : Addr} (ho : m'.o = p :: m.o) : m' = (⟨m'.l, m.o, m'.k⟩ : Mp).hold p := by
  cases m'; simp at ho; subst ho; rfl
/-- what was in the making comes into the store -/
theorem exw_own {p : Addr} : Exw (m.hold p) H (m.add p) H := by
  refine ⟨fun n a b h => ⟨b, add_old h, fun z => z⟩, fun a u h un => ⟨⟨fun n z => ?_, (hold_un un).1.2⟩, .inl h⟩⟩
  rcases add_get z with z | ⟨_, z⟩
  · exact un.1 n z
  · exact (hold_un un).2 (congrArg Prod.fst z)
theorem Rel.own {p : Addr} {o : HO} {ob : Ob} (r : Rel g (m.hold p) S H) (hp : p ∉ m.o) (h : H p = some o) (ho : OR g (m.hold p) H ob o) : Rel g (m.add p) (S ++ [ob]) H := by
  have hl : m.l.length = S.length := r.len
  have hn : ∀ n : Nat, m.l[n]? ≠ some (p, true) := (r.prv p List.mem_cons_self).2
  refine ⟨by simp [hl, Mp.add], fun n k a h1 h2 => ?_, fun n a ob' h1 h2 => ?_, fun n a h1 => ?_, fun a ha => ?_, fun x hx => ⟨add_old (r.lks x hx).1, let ⟨ks, ds, h3⟩ := (r.lks x hx).2; ⟨ks, ds, by rw [List.getElem?_append_left (List.getElem?_eq_some_iff.mp h3).1]; exact h3⟩⟩, g.st exw_own r.inv⟩
  · rcases add_get h1 with h3 | ⟨h3, h4⟩
    · rcases add_get h2 with h5 | ⟨h5, h6⟩
      · exact r.inj n k a h3 h5
      · have : a = p := congrArg Prod.fst h6
        subst this
        exact absurd h3 (hn n)
    · have : a = p := congrArg Prod.fst h4
      subst this
      rcases add_get h2 with h5 | ⟨h5, h6⟩
      · exact absurd h5 (hn k)
      · omega
  · rcases add_get h1 with h3 | ⟨h3, h4⟩
    · rw [List.getElem?_append_left (by rw [← hl]; exact (List.getElem?_eq_some_iff.mp h3).1)] at h2
      obtain ⟨o', e1, e2⟩ := r.ob n a ob' h3 h2
      exact ⟨o', e1, e2.extw exw_own⟩
    · have : a = p := congrArg Prod.fst h4
      subst this
      rw [h3, hl, List.getElem?_append_right (by omega)] at h2
      simp at h2
      subst h2
      exact ⟨o, h, ho.extw exw_own⟩
  · rcases add_get h1 with h3 | ⟨h3, h4⟩
    · rw [List.getElem?_append_left (by rw [← hl]; exact (List.getElem?_eq_some_iff.mp h3).1)]
      exact r.gone n a h3
    · have := congrArg Prod.snd h4
      cases this
  · obtain ⟨e1, e2⟩ := r.prv a (List.mem_cons_of_mem _ ha)
    refine ⟨e1, fun n z => ?_⟩
    rcases add_get z with h3 | ⟨h3, h4⟩
    · exact e2 n h3
    · have : a = p := congrArg Prod.fst h4
      subst this
      exact hp ha
end
end VL

namespace VL
open PySem PySem.Spec PyProof.Rows L2

abbrev St := L2.St
abbrev XD := String → List (Str × D) → Mp → Sto → Hp → Prop
abbrev NoX : XD := fun _ _ _ _ _ => False
def R.post {a : Type} (r : R a) (Q : a → Sto → Prop) (E : String → List (Str × D) → Sto → Prop) : Prop := match r with
  | .ok x S => Q x S
  | .exc c fs S => E c fs S
  | .bad => False
/-- what is wanted behind a computation that begins at m, H -/
def Aft {a : Type} (g : G) (E : XD) (m : Mp) (H : Hp) (r : R a) (Q : a → Mp → Sto → Hp → Prop) : Prop :=
  r.post (fun x S' => ∀ m' H', Ext g m H m' H' → Rel g m' S' H' → Q x m' S' H') (fun c fs S' => ∀ m' H', Ext g m H m' H' → Rel g m' S' H' → E c fs m' S' H')
section
variable {a b : Type} {g : G} {E : XD} {m m1 : Mp} {H H1 : Hp} {r : R a} {Q Q' : a → Mp → Sto → Hp → Prop}
theorem Aft.later (h : Aft g E m H r Q) (e : Ext g m H m1 H1) : Aft g E m1 H1 r Q := by
  cases r with
  | ok x S => exact fun m' H' e' q => h m' H' (e.trans e') q
  | exc c fs S => exact fun m' H' e' q => h m' H' (e.trans e') q
  | bad => exact h
theorem Aft.bind {k : a → Sto → R b} {Q : b → Mp → Sto → Hp → Prop} (h : Aft g E m H (r.bind k) Q) : Aft g E m H r fun x m1 S1 H1 => Aft g E m1 H1 (k x S1) Q := by
  cases r with
  | ok x S => exact fun m' H' e' q => Aft.later (r := k x S) h e'
  | exc c fs S => exact h
  | bad => exact h
theorem Aft.mono (h : Aft g E m H r Q) (k : ∀ x m' S' H', Ext g m H m' H' → Rel g m' S' H' → Q x m' S' H' → Q' x m' S' H') : Aft g E m H r Q' := by
  cases r with
  | ok x S => exact fun m' H' e' q => k x m' S H' e' q (h m' H' e' q)
  | exc c fs S => exact h
  | bad => exact h
theorem Aft.ok {x : a} {S : Sto} (h : Aft g E m H (.ok x S) Q) (r : Rel g m S H) : Q x m S H := h m H .refl r
theorem Aft.at {x : a} {S : Sto} (h : Aft g E m H (.ok x S) Q) (e : Ext g m H m1 H1) (r : Rel g m1 S H1) : Q x m1 S H1 := h m1 H1 e r
end

def RL (g : G) (m : Mp) (H : Hp) (L : Lc) (σ : St) : Prop := L.length = σ.length ∧ ∀ (i : Nat) (d : D), L[i]? = some (some d) → ∃ v, σ[i]? = some (some v) ∧ RV g m H d v
theorem RL.ext {g : G} {m m' : Mp} {H H' : Hp} {L : Lc} {σ : St} (h : RL g m H L σ) (e : Ext g m H m' H') : RL g m' H' L σ :=
  ⟨h.1, fun i d q => let ⟨v, h1, h2⟩ := h.2 i d q; ⟨v, h1, h2.ext e⟩⟩
theorem RL.set {g : G} {m : Mp} {H : Hp} {L : Lc} {σ : St} (h : RL g m H L σ) {d : D} {v : V} (r : RV g m H d v) (i : Nat) : RL g m H (L.set i (some d)) (σ.set i (some v)) := by
  refine ⟨by simp [h.1], fun j d' e => ?_⟩
  by_cases hj : i = j
  · subst hj
    by_cases hi : i < L.length
    · rw [List.getElem?_set_self hi] at e
      cases e
      exact ⟨v, by rw [List.getElem?_set_self (by rw [← h.1]; exact hi)], r⟩
    · rw [List.getElem?_eq_none (by simpa using hi)] at e
      cases e
  · rw [List.getElem?_set_ne hj] at e ⊢
    exact h.2 j d' e
theorem RL.wipe1 {g : G} {m : Mp} {H : Hp} {L : Lc} {σ : St} (h : RL g m H L σ) (i : Nat) : RL g m H (L.set i none) (σ.set i none) := by
  refine ⟨by simp [h.1], fun j d' e => ?_⟩
  by_cases hj : i = j
  · subst hj
    by_cases hi : i < L.length
    · rw [List.getElem?_set_self hi] at e
      cases e
    · rw [List.getElem?_eq_none (by simpa using hi)] at e
      cases e
  · rw [List.getElem?_set_ne hj] at e ⊢
    exact h.2 j d' e
def wipeL (L : Lc) : List Nat → Lc
  | [] => L
  | v :: vs => (wipeL L vs).set v none
theorem RL.wipe {g : G} {m : Mp} {H : Hp} {L : Lc} {σ : St} (h : RL g m H L σ) : ∀ vs : List Nat, RL g m H (wipeL L vs) (wipe σ vs)
  | [] => h
  | v :: vs => (RL.wipe h vs).wipe1 v
theorem RL.begin {g : G} {m : Mp} {H : Hp} {ds : List D} {vs : List V} (h : RVs g m H ds vs) (N : List Str) : RL g m H (ds.map some ++ List.replicate (N.length - ds.length) none) (L2.start N vs) := by
  have hl := h.length
  unfold L2.start
  refine ⟨by simp [hl], fun i d e => ?_⟩
  by_cases hi : i < ds.length
  · rw [List.getElem?_append_left (by simpa using hi), List.getElem?_map] at e
    rw [List.getElem?_append_left (by simpa [hl] using hi), List.getElem?_map]
    cases q : ds[i]? with
    | none => rw [q] at e; cases e
    | some d' =>
      rw [q] at e
      cases e
      obtain ⟨v, e1, r⟩ := h.get q
      exact ⟨v, by rw [e1]; rfl, r⟩
  · rw [List.getElem?_append_right (by simpa using hi), List.getElem?_replicate] at e
    split at e <;> cases e

def vQ (g : G) (Q : VK) : D → Mp → Sto → Hp → Prop := fun d m' _ H' => ∀ v, RV g m' H' d v → Q v H'
def tD (g : G) (E : XD) (e : Lc → Sto → R D) : TE := fun σ H Q => ∃ m S L, Rel g m S H ∧ RL g m H L σ ∧ Aft g E m H (e L S) (vQ g Q)
def tT (g : G) (E : XD) (e : Lc → Sto → R Bool) : TT := fun σ H Q => ∃ m S L, Rel g m S H ∧ RL g m H L σ ∧ Aft g E m H (e L S) fun b _ _ H' => Q b H'
def tL (g : G) (E : XD) (e : Lc → Sto → R (List D)) : TA := fun σ H Q => ∃ m S L, Rel g m S H ∧ RL g m H L σ ∧ Aft g E m H (e L S) fun ds m' _ H' => ∀ vs, RVs g m' H' ds vs → Q vs H'
inductive Fl where
  | nx (L : Lc) | rt (d : D) | bk (L : Lc) | ct (L : Lc)
def fQ (g : G) (Dn : Ends) : Fl → Mp → Sto → Hp → Prop := fun f m' _ H' => match f with
  | .nx L => ∀ σ, RL g m' H' L σ → Dn.nx σ H'
  | .rt d => ∀ v, RV g m' H' d v → Dn.rt v H'
  | .bk L => ∀ σ, RL g m' H' L σ → Dn.bk σ H'
  | .ct L => ∀ σ, RL g m' H' L σ → Dn.ct σ H'
def tF (g : G) (E : XD) (f : Lc → Sto → R Fl) : TS := fun Dn σ H => ∃ m S L, Rel g m S H ∧ RL g m H L σ ∧ Aft g E m H (f L S) (fQ g Dn)
/-- operations by values -/
def rD1 (g : G) (E : XD) (f : D → Sto → R D) : V → Hp → VK → Prop := fun x H Q => ∃ m S d, Rel g m S H ∧ RV g m H d x ∧ Aft g E m H (f d S) (vQ g Q)
def rD2 (g : G) (E : XD) (f : D → D → Sto → R D) : R2 := fun x y H Q => ∃ m S d d', Rel g m S H ∧ RV g m H d x ∧ RV g m H d' y ∧ Aft g E m H (f d d' S) (vQ g Q)
def rDs (g : G) (E : XD) (f : List D → Sto → R D) : List V → Hp → VK → Prop := fun xs H Q => ∃ m S ds, Rel g m S H ∧ RVs g m H ds xs ∧ Aft g E m H (f ds S) (vQ g Q)

theorem _root_.L2.PE.imp {X : Cx} {e : Expr} {t t' : TE} (h : PE X e t) (k : ∀ σ H Q, t' σ H Q → t σ H Q) : PE X e t' := ⟨fun pins s σ H Q I q => h.run pins s σ H Q I (k σ H Q q)⟩
theorem _root_.L2.PT.imp {X : Cx} {e : Expr} {t t' : TT} (h : PT X e t) (k : ∀ σ H Q, t' σ H Q → t σ H Q) : PT X e t' := ⟨fun pins s σ H Q I q => h.run pins s σ H Q I (k σ H Q q)⟩
theorem _root_.L2.PW.imp {X : Cx} {e : Expr} {t t' : TT} (h : PW X e t) (k : ∀ σ H Q, t' σ H Q → t σ H Q) : PW X e t' := ⟨fun wh pins s σ H Q I q => h.run wh pins s σ H Q I (k σ H Q q)⟩
theorem _root_.L2.PA.imp {X : Cx} {e : List Expr} {t t' : TA} (h : PA X e t) (k : ∀ σ H Q, t' σ H Q → t σ H Q) : PA X e t' := ⟨fun pos pins s σ H Q I q => h.run pos pins s σ H Q I (k σ H Q q)⟩
theorem _root_.L2.PS.imp {X : Cx} {e : Stmt} {t t' : TS} (h : PS X e t) (k : ∀ D σ H, t' D σ H → t D σ H) : PS X e t' := ⟨fun pins s σ H D I q => h.run pins s σ H D I (k D σ H q)⟩
theorem _root_.L2.PSs.imp {X : Cx} {e : List Stmt} {t t' : TS} (h : PSs X e t) (k : ∀ D σ H, t' D σ H → t D σ H) : PSs X e t' := ⟨fun pins s σ H D I q => h.run pins s σ H D I (k D σ H q)⟩

/-! expressions -/
def eVar (i : Nat) : Lc → Sto → R D := fun L S => match L[i]? with
  | some (some d) => .ok d S
  | _ => .bad
def eC (d : D) : Lc → Sto → R D := fun _ S => .ok d S
def eUn (f : D → Sto → R D) (a : Lc → Sto → R D) : Lc → Sto → R D := fun L S => (a L S).bind fun x S1 => f x S1
def eBin (f : D → D → Sto → R D) (a b : Lc → Sto → R D) : Lc → Sto → R D := fun L S => (a L S).bind fun x S1 => (b L S1).bind fun y S2 => f x y S2
def aNil : Lc → Sto → R (List D) := fun _ S => .ok [] S
def aCons (a : Lc → Sto → R D) (r : Lc → Sto → R (List D)) : Lc → Sto → R (List D) := fun L S => (a L S).bind fun x S1 => (r L S1).bind fun xs S2 => .ok (x :: xs) S2
def eCall (f : List D → Sto → R D) (a : Lc → Sto → R (List D)) : Lc → Sto → R D := fun L S => (a L S).bind fun xs S1 => f xs S1
def eTup (a : Lc → Sto → R (List D)) : Lc → Sto → R D := fun L S => (a L S).bind fun xs S1 => if xs.length ≤ sizeLine then .ok (.tup xs) S1 else .bad
def newL (xs : List D) (S : Sto) : R D := if xs.length ≤ sizeLine then .ok (.lst xs) S else .bad
def newM (xs : List D) (S : Sto) : R D := if xs.length ≤ sizeLine then .ok (.ref S.length) (S ++ [.lst xs]) else .bad
def eLst (a : Lc → Sto → R (List D)) : Lc → Sto → R D := fun L S => (a L S).bind fun xs S1 => newL xs S1
def eLstM (a : Lc → Sto → R (List D)) : Lc → Sto → R D := fun L S => (a L S).bind fun xs S1 => newM xs S1
def truD (d : D) (S : Sto) : R Bool := match d with
  | .non => .ok false S
  | .bl b => .ok b S
  | .int i => .ok (i != 0) S
  | .str x => if x.length ≤ sizeLine then .ok ((x.length : Int) != 0) S else .bad
  | .tup ds => .ok (!ds.isEmpty) S
  | .lst ds => .ok (!ds.isEmpty) S
  | .ref n => match S[n]? with
    | some (.lst ds) => .ok (!ds.isEmpty) S
    | some (.dic ks _) => .ok (!ks.isEmpty) S
    | _ => .bad
  | _ => .bad
def eAnd (a b : Lc → Sto → R D) : Lc → Sto → R D := fun L S => (a L S).bind fun x S1 => (truD x S1).bind fun c S2 => if c = true then b L S2 else .ok x S2
def eOr (a b : Lc → Sto → R D) : Lc → Sto → R D := fun L S => (a L S).bind fun x S1 => (truD x S1).bind fun c S2 => if c = true then .ok x S2 else b L S2
def eNot (a : Lc → Sto → R D) : Lc → Sto → R D := fun L S => (a L S).bind fun x S1 => (truD x S1).bind fun c S2 => .ok (.bl (!c)) S2
def eIf (t : Lc → Sto → R Bool) (a b : Lc → Sto → R D) : Lc → Sto → R D := fun L S => (t L S).bind fun c S1 => if c = true then a L S1 else b L S1
def eChain (f f' : D → D → Sto → R D) (a b c : Lc → Sto → R D) : Lc → Sto → R D := fun L S => (a L S).bind fun x S1 => (b L S1).bind fun y S2 => (f x y S2).bind fun z S3 => match z with
  | .bl true => (c L S3).bind fun w S4 => f' y w S4
  | .bl false => .ok (.bl false) S3
  | _ => .bad
/-! tests -/
def tTru (a : Lc → Sto → R D) : Lc → Sto → R Bool := fun L S => (a L S).bind fun x S1 => truD x S1
def tBl (a : Lc → Sto → R D) : Lc → Sto → R Bool := fun L S => (a L S).bind fun x S1 => match x with
  | .bl b => .ok b S1
  | _ => .bad
def tAnd2 (a b : Lc → Sto → R Bool) : Lc → Sto → R Bool := fun L S => (a L S).bind fun c S1 => if c = true then b L S1 else .ok false S1
def tOr2 (a b : Lc → Sto → R Bool) : Lc → Sto → R Bool := fun L S => (a L S).bind fun c S1 => if c = true then .ok true S1 else b L S1
def tNot1 (a : Lc → Sto → R Bool) : Lc → Sto → R Bool := fun L S => (a L S).bind fun c S1 => .ok (!c) S1
/-! statements -/
abbrev SF := Lc → Sto → R Fl
def sNx : SF := fun L S => .ok (.nx L) S
def sSeq (a b : SF) : SF := fun L S => (a L S).bind fun f S1 => match f with
  | .nx L1 => b L1 S1
  | f => .ok f S1
def sSet (i : Nat) (e : Lc → Sto → R D) : SF := fun L S => (e L S).bind fun d S1 => .ok (.nx (L.set i (some d))) S1
def sRet (e : Lc → Sto → R D) : SF := fun L S => (e L S).bind fun d S1 => .ok (.rt d) S1
def sRetN : SF := fun _ S => .ok (.rt .non) S
def sDrop (e : Lc → Sto → R D) : SF := fun L S => (e L S).bind fun _ S1 => .ok (.nx L) S1
def sIf (t : Lc → Sto → R Bool) (a b : SF) : SF := fun L S => (t L S).bind fun c S1 => if c = true then a L S1 else b L S1
def sAsg (e : Lc → Sto → R D) (t : D → Lc → Sto → R Lc) : SF := fun L S => (e L S).bind fun d S1 => (t d L S1).bind fun L2 S2 => .ok (.nx L2) S2
def gNm (i : Nat) : D → Lc → Sto → R Lc := fun d L S => .ok (L.set i (some d)) S
def gCons2 (t : D → Lc → Sto → R Lc) (u : List D → Lc → Sto → R Lc) : List D → Lc → Sto → R Lc := fun ds L S => match ds with
  | d :: r => (t d L S).bind fun L1 S1 => u r L1 S1
  | [] => .bad
def gNil2 : List D → Lc → Sto → R Lc := fun ds L S => match ds with
  | [] => .ok L S
  | _ => .bad
def gTp (n : Nat) (t : List D → Lc → Sto → R Lc) : D → Lc → Sto → R Lc := fun d L S => match d with
  | .tup ds => if ds.length = n then t ds L S else .bad
  | _ => .bad
def gIx (o i : Lc → Sto → R D) (f : D → D → D → Sto → R Unit) : D → Lc → Sto → R Lc := fun d L S => (o L S).bind fun x S1 => (i L S1).bind fun y S2 => (f x y d S2).bind fun _ S3 => .ok L S3

section
variable {X : Cx} {g : G} {E : XD} {pos : Pos} {e c : Expr} {es rest : List Expr} {ea eb ec : Lc → Sto → R D} {a b : Expr}

theorem de_var (i : Nat) {x : Str} (hN : X.N[i]? = some x := by rfl) (hv : Vis X.env.scope x := by first | exact Or.inl rfl | exact Or.inr (Or.inl rfl) | exact Or.inr (Or.inr rfl)) (hd : (x == ("__debug__" : Str)) = false := by decide)
    (hcd : (x == ("__classdict__" : Str)) = false := by decide) : PE X (.Name x pos) (tD g E (eVar i)) := by
  refine (pe_var hN hv hd hcd).imp fun σ H Q h => ?_
  obtain ⟨m, S, L, r, l, q⟩ := h
  unfold eVar at q
  split at q
  · rename_i d e
    obtain ⟨v, e1, e2⟩ := l.2 i d e
    exact ⟨v, e1, q.ok r v e2⟩
  · exact q.elim
theorem de_c {v : V} (d : D) (h : PE X e (tC v)) (hd : ∀ m H, RV g m H d v) : PE X e (tD g E (eC d)) := by
  refine h.imp fun σ H Q h => ?_
  obtain ⟨m, S, L, r, l, q⟩ := h
  exact q.ok r v (hd m H)
theorem de_int {i : Int} {j : Nat} : PE X (.Constant (.int i) j pos) (tD g E (eC (.int i))) := de_c _ pe_int fun _ _ => rv_int
theorem de_bl {i : Bool} {j : Nat} : PE X (.Constant (.bool i) j pos) (tD g E (eC (.bl i))) := de_c _ pe_bl fun _ _ => rv_bl
theorem de_str {i : Str} {j : Nat} : PE X (.Constant (.str i) j pos) (tD g E (eC (.str i))) := de_c _ pe_str fun _ _ => rv_str
theorem de_non {j : Nat} : PE X (.Constant .none j pos) (tD g E (eC .non)) := de_c _ pe_non fun _ _ => rv_non
theorem de_un {op : UnaryOp} {f : D → Sto → R D} (ho : UnR X (unaryOp op) (rD1 g E f)) (ha : PE X a (tD g E ea)) : PE X (.UnaryOp op a pos) (tD g E (eUn f ea)) := by
  refine (pe_un ho ha).imp fun σ H Q h => ?_
  obtain ⟨m, S, L, r, l, q⟩ := h
  refine ⟨m, S, L, r, l, (Aft.bind q).mono fun d m1 S1 H1 e1 r1 q1 v rv => ?_⟩
  exact ⟨m1, S1, d, r1, rv, q1⟩
/-- two in a row -/
theorem bin2 {f : D → D → Sto → R D} {σ : St} {H : Hp} {Q : VK} (h : tD g E (eBin f ea eb) σ H Q) : tOp (rD2 g E f) (tD g E ea) (tD g E eb) σ H Q := by
  obtain ⟨m, S, L, r, l, q⟩ := h
  refine ⟨m, S, L, r, l, (Aft.bind q).mono fun d m1 S1 H1 e1 r1 q1 v rv => ?_⟩
  refine ⟨m1, S1, L, r1, l.ext e1, (Aft.bind q1).mono fun d' m2 S2 H2 e2 r2 q2 v' rv' => ?_⟩
  exact ⟨m2, S2, d, d', r2, rv.ext e2, rv', q2⟩
theorem de_op {op : Operator} {f : D → D → Sto → R D} (ho : OpR X (binaryOp op) (rD2 g E f)) (ha : PE X a (tD g E ea)) (hb : PE X b (tD g E eb)) : PE X (.BinOp a op b pos) (tD g E (eBin f ea eb)) :=
  (pe_op ho ha hb).imp fun σ H Q h => bin2 h
theorem de_cmp {op : CmpOp} {f : D → D → Sto → R D} (ho : OpR X (compareOp op) (rD2 g E f)) (ha : PE X a (tD g E ea)) (hb : PE X b (tD g E eb)) (hm : behindInMarks op b = false) : PE X (.Compare a [op] [b] pos) (tD g E (eBin f ea eb)) :=
  (pe_cmpR ho ha hb hm).imp fun σ H Q h => bin2 h
theorem tBl_test {σ : St} {H : Hp} {Q : Bool → Hp → Prop} {e : Lc → Sto → R D} (h : tT g E (tBl e) σ H Q) : tTest (tD g E e) σ H Q := by
  obtain ⟨m, S, L, r, l, q⟩ := h
  refine ⟨m, S, L, r, l, (Aft.bind q).mono fun d m1 S1 H1 e1 r1 q1 v rv => ?_⟩
  cases d with
  | bl b => exact ⟨b, of_bl rv, q1.ok r1⟩
  | _ => exact q1.elim
theorem tTest.imp {t t' : TE} (k : ∀ σ H Q, t' σ H Q → t σ H Q) {σ : St} {H : Hp} {Q : Bool → Hp → Prop} (h : tTest t' σ H Q) : tTest t σ H Q := k _ _ _ h
theorem dt_cmp {op : CmpOp} {f : D → D → Sto → R D} (ho : OpR X (compareOp op) (rD2 g E f)) (ha : PE X a (tD g E ea)) (hb : PE X b (tD g E eb)) (hm : behindInMarks op b = false) : PT X (.Compare a [op] [b] pos) (tT g E (tBl (eBin f ea eb))) :=
  (pt_cmpR ho ha hb hm).imp fun σ H Q h => tTest.imp (fun _ _ _ h => bin2 h) (tBl_test h)
theorem de_ix {f : D → D → Sto → R D} (ho : IxR X (rD2 g E f)) (ha : PE X a (tD g E ea)) (hb : PE X b (tD g E eb)) (hs : PlainIx b := by intro _ _; rfl) : PE X (.Subscript a b pos) (tD g E (eBin f ea eb)) :=
  (pe_ix ho ha hb hs).imp fun σ H Q h => bin2 h
theorem da_nil : PA X [] (tL g E aNil) := pa_nil.imp fun σ H Q h => by
  obtain ⟨m, S, L, r, l, q⟩ := h
  exact q.ok r _ .nil
theorem da_cons {ls : Lc → Sto → R (List D)} (ha : PE X e (tD g E ea)) (hr : PA X es (tL g E ls)) (hs : starEach (e :: es) X.env = (false, eval e X.env) :: starEach es X.env := by rfl) : PA X (e :: es) (tL g E (aCons ea ls)) := by
  refine (pa_cons ha hr hs).imp fun σ H Q h => ?_
  obtain ⟨m, S, L, r, l, q⟩ := h
  refine ⟨m, S, L, r, l, (Aft.bind q).mono fun d m1 S1 H1 e1 r1 q1 v rv => ?_⟩
  refine ⟨m1, S1, L, r1, l.ext e1, (Aft.bind q1).mono fun ds m2 S2 H2 e2 r2 q2 vs rvs => ?_⟩
  exact q2.ok r2 _ (.cons (rv.ext e2) rvs)
theorem calls {f : List D → Sto → R D} {ls : Lc → Sto → R (List D)} {σ : St} {H : Hp} {Q : VK} (h : tD g E (eCall f ls) σ H Q) : tCB (rDs g E f) (tL g E ls) σ H Q := by
  obtain ⟨m, S, L, r, l, q⟩ := h
  refine ⟨m, S, L, r, l, (Aft.bind q).mono fun ds m1 S1 H1 e1 r1 q1 vs rvs => ?_⟩
  exact ⟨m1, S1, ds, r1, rvs, q1⟩
theorem de_callB {f : List D → Sto → R D} {ls : Lc → Sto → R (List D)} {id : String} {x : Str} {p : Pos} (hc : CallR X (.builtin id) (rDs g E f)) (hg : Gl X x) (hm : X.mg x = none) (hv : bootBuiltins x = some (.builtin id)) (ha : PA X (e :: es) (tL g E ls)) (hn : x ≠ "__name__" := by decide) (hdb : (x == ("__debug__" : Str)) = false := by decide)
    (he : starEach (e :: es) X.env = (false, eval e X.env) :: starEach es X.env := by rfl) (hpl : (backTo pos (starEach es X.env)).any (·.1) = false := by rfl) : PE X (.Call (.Name x p) (e :: es) [] pos) (tD g E (eCall f ls)) :=
  (pe_callB hc hg hm hv ha hn hdb he hpl).imp fun σ H Q h => calls h
theorem de_callTy {f : List D → Sto → R D} {ls : Lc → Sto → R (List D)} {id : String} {x : Str} {p : Pos} (hc : CallR X (.type id) (rDs g E f)) (hg : Gl X x) (hm : X.mg x = none) (hv : bootBuiltins x = some (.type id)) (ha : PA X (e :: es) (tL g E ls)) (hn : x ≠ "__name__" := by decide) (hdb : (x == ("__debug__" : Str)) = false := by decide)
    (he : starEach (e :: es) X.env = (false, eval e X.env) :: starEach es X.env := by rfl) (hpl : (backTo pos (starEach es X.env)).any (·.1) = false := by rfl) : PE X (.Call (.Name x p) (e :: es) [] pos) (tD g E (eCall f ls)) :=
  (pe_callTy hc hg hm hv ha hn hdb he hpl).imp fun σ H Q h => calls h
theorem de_tup {ls : Lc → Sto → R (List D)} {k : Nat} (ha : PA X es (tL g E ls)) : PE X (.Tuple es k pos) (tD g E (eTup ls)) := by
  refine (pe_tup ha).imp fun σ H Q h => ?_
  obtain ⟨m, S, L, r, l, q⟩ := h
  refine ⟨m, S, L, r, l, (Aft.bind q).mono fun ds m1 S1 H1 e1 r1 q1 vs rvs => ?_⟩
  split at q1
  · rename_i hz
    refine ⟨by rw [rvs.length]; exact hz, fun p hp => ?_⟩
    exact q1.at (ext_lay r1 hp) (r1.lay hp) _ (rv_tupv ⟨upd_same, r1.un hp⟩ (rvs.ext (ext_lay r1 hp)))
  · exact q1.elim
theorem newL_run {xs : List D} {vs : List V} {m : Mp} {S : Sto} {H : Hp} {Q : VK} (q : Aft g E m H (newL xs S) (vQ g Q)) (r : Rel g m S H) (rvs : RVs g m H xs vs) : vs.length ≤ sizeLine ∧ ∀ p, H p = none → Q (.ref p) (upd H p (.lst vs)) := by
  unfold newL at q
  split at q
  · rename_i hz
    refine ⟨by rw [rvs.length]; exact hz, fun p hp => ?_⟩
    exact q.at (ext_lay r hp) (r.lay hp) _ (rv_lst upd_same (r.un hp) (rvs.ext (ext_lay r hp)))
  · exact q.elim
theorem newM_run {xs : List D} {vs : List V} {m : Mp} {S : Sto} {H : Hp} {Q : VK} (q : Aft g E m H (newM xs S) (vQ g Q)) (r : Rel g m S H) (rvs : RVs g m H xs vs) : vs.length ≤ sizeLine ∧ ∀ p, H p = none → Q (.ref p) (upd H p (.lst vs)) := by
  unfold newM at q
  split at q
  · rename_i hz
    refine ⟨by rw [rvs.length]; exact hz, fun p hp => ?_⟩
    exact q.at (ext_new r hp) (r.alloc hp ⟨vs, rfl, rvs⟩) _ (rv_ref r.last)
  · exact q.elim
theorem de_lst {ls : Lc → Sto → R (List D)} (ha : PA X es (tL g E ls)) : PE X (.List es pos) (tD g E (eLst ls)) := by
  refine (pe_lst ha).imp fun σ H Q h => ?_
  obtain ⟨m, S, L, r, l, q⟩ := h
  refine ⟨m, S, L, r, l, (Aft.bind q).mono fun ds m1 S1 H1 e1 r1 q1 vs rvs => ?_⟩
  exact newL_run q1 r1 rvs
theorem de_lstM {ls : Lc → Sto → R (List D)} (ha : PA X es (tL g E ls)) : PE X (.List es pos) (tD g E (eLstM ls)) := by
  refine (pe_lst ha).imp fun σ H Q h => ?_
  obtain ⟨m, S, L, r, l, q⟩ := h
  refine ⟨m, S, L, r, l, (Aft.bind q).mono fun ds m1 S1 H1 e1 r1 q1 vs rvs => ?_⟩
  exact newM_run q1 r1 rvs
/-- truth -/
theorem tru_run {m : Mp} {S : Sto} {H : Hp} {d : D} {v : V} {Q : Bool → Mp → Sto → Hp → Prop} (hK : X.K = g.K) (q : Aft g E m H (truD d S) Q) (r : Rel g m S H) (rv : RV g m H d v) : ∃ k, TruV X.K v H k ∧ truD d S = .ok k S := by
  rw [hK]
  unfold truD at q ⊢
  cases d with
  | non => rw [of_non rv]; exact ⟨false, rfl, rfl⟩
  | bl b => rw [of_bl rv]; exact ⟨b, rfl, rfl⟩
  | int i => rw [of_int rv]; exact ⟨_, rfl, rfl⟩
  | str x =>
    rw [of_str rv]
    simp only at q ⊢
    split at q
    · rename_i hz
      rw [if_pos hz]
      exact ⟨_, ⟨hz, rfl⟩, rfl⟩
    · exact q.elim
  | ctp ds => exact q.elim
  | tup ds =>
    obtain ⟨a, vs, rfl, h1, h2⟩ := of_tup rv
    refine ⟨!ds.isEmpty, .inr (.inl ⟨vs, h1, ?_⟩), rfl⟩
    have := h2.length
    cases ds with
    | nil => rw [h2.nil_iff]; rfl
    | cons _ _ => obtain ⟨_, _, rfl, _⟩ := h2.cons_iff; rfl
  | lst ds =>
    obtain ⟨a, vs, rfl, h1, _, h2⟩ := of_lst rv
    refine ⟨!ds.isEmpty, .inl ⟨vs, .of h1, ?_⟩, rfl⟩
    cases ds with
    | nil => rw [h2.nil_iff]; rfl
    | cons _ _ => obtain ⟨_, _, rfl, _⟩ := h2.cons_iff; rfl
  | ref n =>
    simp only at q ⊢
    split at q
    · rename_i ds e
      obtain ⟨a, o, rfl, _, h1, vs, rfl, h2⟩ := r.at rv e (by intro z; cases z)
      refine ⟨!ds.isEmpty, .inl ⟨vs, .of h1, ?_⟩, rfl⟩
      cases ds with
      | nil => rw [h2.nil_iff]; rfl
      | cons _ _ => obtain ⟨_, _, rfl, _⟩ := h2.cons_iff; rfl
    · rename_i ks ds e
      obtain ⟨a, o, rfl, _, h1, kvs, rfl, h2, _⟩ := r.at rv e (by intro z; cases z)
      refine ⟨!ks.isEmpty, .inr (.inr ⟨kvs, h1, ?_⟩), rfl⟩
      rw [← h2]
      cases kvs <;> rfl
    · exact q.elim
  | ty _ => exact q.elim
  | kref _ => exact q.elim
  | dic _ _ => exact q.elim
  | dct _ _ => exact q.elim
  | obj _ _ _ => exact q.elim
  | scr _ => exact q.elim
theorem dt_tru (hK : X.K = g.K) (ha : PE X a (tD g E ea)) (he : ∀ whole, isTrue a X.env whole = (do let v ← whole; standAt a.pos; holding [v] (truthy v)) := by intro _; rfl) : PT X a (tT g E (tTru ea)) := by
  refine (pt_truth ha he).imp fun σ H Q h => ?_
  obtain ⟨m, S, L, r, l, q⟩ := h
  refine ⟨m, S, L, r, l, (Aft.bind q).mono fun d m1 S1 H1 e1 r1 q1 v rv => ?_⟩
  obtain ⟨k, h1, h2⟩ := tru_run hK q1 r1 rv
  rw [h2] at q1
  exact ⟨k, h1, q1.ok r1⟩
theorem de_and (hK : X.K = g.K) (ha : PE X a (tD g E ea)) (hb : PE X (.BoolOp .And (b :: rest) pos) (tD g E eb)) : PE X (.BoolOp .And (a :: b :: rest) pos) (tD g E (eAnd ea eb)) := by
  refine (pe_andT ha hb).imp fun σ H Q h => ?_
  obtain ⟨m, S, L, r, l, q⟩ := h
  refine ⟨m, S, L, r, l, (Aft.bind q).mono fun d m1 S1 H1 e1 r1 q1 v rv => ?_⟩
  obtain ⟨k, h1, h2⟩ := tru_run hK (Aft.bind q1) r1 rv
  rw [h2] at q1
  refine ⟨k, h1, ?_⟩
  cases k with
  | true => exact ⟨m1, S1, L, r1, l.ext e1, q1⟩
  | false => exact q1.ok r1 _ rv
theorem de_or (hK : X.K = g.K) (ha : PE X a (tD g E ea)) (hb : PE X (.BoolOp .Or (b :: rest) pos) (tD g E eb)) : PE X (.BoolOp .Or (a :: b :: rest) pos) (tD g E (eOr ea eb)) := by
  refine (pe_orT ha hb).imp fun σ H Q h => ?_
  obtain ⟨m, S, L, r, l, q⟩ := h
  refine ⟨m, S, L, r, l, (Aft.bind q).mono fun d m1 S1 H1 e1 r1 q1 v rv => ?_⟩
  obtain ⟨k, h1, h2⟩ := tru_run hK (Aft.bind q1) r1 rv
  rw [h2] at q1
  refine ⟨k, h1, ?_⟩
  cases k with
  | false => exact ⟨m1, S1, L, r1, l.ext e1, q1⟩
  | true => exact q1.ok r1 _ rv
theorem de_not (hK : X.K = g.K) (ha : PE X a (tD g E ea)) : PE X (.UnaryOp .Not a pos) (tD g E (eNot ea)) := by
  refine (pe_notT ha).imp fun σ H Q h => ?_
  obtain ⟨m, S, L, r, l, q⟩ := h
  refine ⟨m, S, L, r, l, (Aft.bind q).mono fun d m1 S1 H1 e1 r1 q1 v rv => ?_⟩
  obtain ⟨k, h1, h2⟩ := tru_run hK (Aft.bind q1) r1 rv
  rw [h2] at q1
  exact ⟨k, h1, q1.ok r1 _ rv_bl⟩
variable {ta tb : Lc → Sto → R Bool}
theorem dw_and1 (ha : PT X a (tT g E ta)) : PW X (.BoolOp .And [a] pos) (tT g E ta) := pw_and1 ha
theorem dw_or1 (ha : PT X a (tT g E ta)) : PW X (.BoolOp .Or [a] pos) (tT g E ta) := pw_or1 ha
theorem dw_and (ha : PT X a (tT g E ta)) (hb : PW X (.BoolOp .And (b :: rest) pos) (tT g E tb)) : PW X (.BoolOp .And (a :: b :: rest) pos) (tT g E (tAnd2 ta tb)) := by
  refine (pw_and ha hb).imp fun σ H Q h => ?_
  obtain ⟨m, S, L, r, l, q⟩ := h
  refine ⟨m, S, L, r, l, (Aft.bind q).mono fun c m1 S1 H1 e1 r1 q1 => ?_⟩
  cases c with
  | true => exact ⟨m1, S1, L, r1, l.ext e1, q1⟩
  | false => exact q1.ok r1
theorem dw_or (ha : PT X a (tT g E ta)) (hb : PW X (.BoolOp .Or (b :: rest) pos) (tT g E tb)) : PW X (.BoolOp .Or (a :: b :: rest) pos) (tT g E (tOr2 ta tb)) := by
  refine (pw_or ha hb).imp fun σ H Q h => ?_
  obtain ⟨m, S, L, r, l, q⟩ := h
  refine ⟨m, S, L, r, l, (Aft.bind q).mono fun c m1 S1 H1 e1 r1 q1 => ?_⟩
  cases c with
  | false => exact ⟨m1, S1, L, r1, l.ext e1, q1⟩
  | true => exact q1.ok r1
theorem dt_not (ha : PT X a (tT g E ta)) : PT X (.UnaryOp .Not a pos) (tT g E (tNot1 ta)) := by
  refine (pt_not ha).imp fun σ H Q h => ?_
  obtain ⟨m, S, L, r, l, q⟩ := h
  refine ⟨m, S, L, r, l, (Aft.bind q).mono fun c m1 S1 H1 e1 r1 q1 => q1.ok r1⟩
theorem de_if (hc : PT X c (tT g E ta)) (ha : PE X a (tD g E ea)) (hb : PE X b (tD g E eb)) : PE X (.IfExp c a b pos) (tD g E (eIf ta ea eb)) := by
  refine (pe_ifExp hc ha hb).imp fun σ H Q h => ?_
  obtain ⟨m, S, L, r, l, q⟩ := h
  refine ⟨m, S, L, r, l, (Aft.bind q).mono fun k m1 S1 H1 e1 r1 q1 => ?_⟩
  cases k with
  | true => exact ⟨m1, S1, L, r1, l.ext e1, q1⟩
  | false => exact ⟨m1, S1, L, r1, l.ext e1, q1⟩
theorem chain2 {f f' : D → D → Sto → R D} {σ : St} {H : Hp} {Q : VK} (h : tD g E (eChain f f' ea eb ec) σ H Q) : tChain (rD2 g E f) (rD2 g E f') (tD g E ea) (tD g E eb) (tD g E ec) σ H Q := by
  obtain ⟨m, S, L, r, l, q⟩ := h
  refine ⟨m, S, L, r, l, (Aft.bind q).mono fun d m1 S1 H1 e1 r1 q1 v rv => ?_⟩
  refine ⟨m1, S1, L, r1, l.ext e1, (Aft.bind q1).mono fun d' m2 S2 H2 e2 r2 q2 v' rv' => ?_⟩
  refine ⟨m2, S2, d, d', r2, rv.ext e2, rv', (Aft.bind q2).mono fun z m3 S3 H3 e3 r3 q3 vz rz => ?_⟩
  cases z with
  | bl k =>
    refine ⟨k, of_bl rz, ?_⟩
    cases k with
    | true =>
      refine ⟨m3, S3, L, r3, (l.ext e1).ext (e2.trans e3), (Aft.bind q3).mono fun w m4 S4 H4 e4 r4 q4 vw rw' => ?_⟩
      exact ⟨m4, S4, d', w, r4, rv'.ext (e3.trans e4), rw', q4⟩
    | false => exact q3.ok r3 _ rv_bl
  | _ => exact q3.elim
theorem de_chain {op op' : CmpOp} {f f' : D → D → Sto → R D} (ho : OpR X (compareOp op) (rD2 g E f)) (ho' : OpR X (compareOp op') (rD2 g E f')) (ha : PE X a (tD g E ea)) (hb : PE X b (tD g E eb)) (hc : PE X c (tD g E ec))
    (hm : lastMarks [op, op'] [b, c] = false := by with_unfolding_all rfl) : PE X (.Compare a [op, op'] [b, c] pos) (tD g E (eChain f f' ea eb ec)) :=
  (pe_chain ho ho' ha hb hc hm).imp fun σ H Q h => chain2 h
theorem dt_chain {op op' : CmpOp} {f f' : D → D → Sto → R D} (ho : OpR X (compareOp op) (rD2 g E f)) (ho' : OpR X (compareOp op') (rD2 g E f')) (ha : PE X a (tD g E ea)) (hb : PE X b (tD g E eb)) (hc : PE X c (tD g E ec))
    (hm : lastMarks [op, op'] [b, c] = false := by with_unfolding_all rfl) : PT X (.Compare a [op, op'] [b, c] pos) (tT g E (tBl (eChain f f' ea eb ec))) :=
  (pt_chain ho ho' ha hb hc hm).imp fun σ H Q h => tTest.imp (fun _ _ _ h => chain2 h) (tBl_test h)
end

/-! statements -/
section
variable {X : Cx} {g : G} {E : XD} {pos : Pos} {e c : Expr} {ea eb : Lc → Sto → R D} {st : Stmt} {rest sa sb : List Stmt} {fa fb : SF} {ta : Lc → Sto → R Bool}
theorem ds_nil : PSs X [] (tF g E sNx) := pss_nil.imp fun D σ H h => by
  obtain ⟨m, S, L, r, l, q⟩ := h
  exact q.ok r σ l
theorem ds_cons (h1 : PS X st (tF g E fa)) (h2 : PSs X rest (tF g E fb)) : PSs X (st :: rest) (tF g E (sSeq fa fb)) := by
  refine (pss_cons h1 h2).imp fun D σ H h => ?_
  obtain ⟨m, S, L, r, l, q⟩ := h
  refine ⟨m, S, L, r, l, (Aft.bind q).mono fun f m1 S1 H1 e1 r1 q1 => ?_⟩
  cases f with
  | nx L1 => exact fun σ1 l1 => ⟨m1, S1, L1, r1, l1, q1⟩
  | rt d => exact fun v rv => q1.ok r1 v rv
  | bk L1 => exact fun σ1 l1 => q1.ok r1 σ1 l1
  | ct L1 => exact fun σ1 l1 => q1.ok r1 σ1 l1
theorem ds_one (h1 : PS X st (tF g E fa)) : PSs X [st] (tF g E fa) := pss_one h1
theorem ds_pass : PS X (.Pass pos) (tF g E sNx) := ps_pass.imp fun D σ H h => by
  obtain ⟨m, S, L, r, l, q⟩ := h
  exact q.ok r σ l
theorem ds_ret (he : PE X e (tD g E ea)) : PS X (.Return (some e) pos) (tF g E (sRet ea)) := by
  refine (ps_ret he).imp fun D σ H h => ?_
  obtain ⟨m, S, L, r, l, q⟩ := h
  exact ⟨m, S, L, r, l, (Aft.bind q).mono fun d m1 S1 H1 e1 r1 q1 v rv => q1.ok r1 v rv⟩
theorem ds_retN : PS X (.Return none pos) (tF g E sRetN) := ps_retN.imp fun D σ H h => by
  obtain ⟨m, S, L, r, l, q⟩ := h
  exact q.ok r _ rv_non
theorem ds_expr (he : PE X e (tD g E ea)) (hs : swapsWith e none pos.line X.env = pure false := by rfl) : PS X (.Expr e pos) (tF g E (sDrop ea)) := by
  refine (ps_expr he hs).imp fun D σ H h => ?_
  obtain ⟨m, S, L, r, l, q⟩ := h
  exact ⟨m, S, L, r, l, (Aft.bind q).mono fun d m1 S1 H1 e1 r1 q1 v rv => q1.ok r1 _ (l.ext e1)⟩
theorem ds_if (hc : PT X c (tT g E ta)) (ha : PSs X sa (tF g E fa)) (hb : PSs X sb (tF g E fb)) : PS X (.If c sa sb pos) (tF g E (sIf ta fa fb)) := by
  refine (ps_if hc ha hb).imp fun D σ H h => ?_
  obtain ⟨m, S, L, r, l, q⟩ := h
  refine ⟨m, S, L, r, l, (Aft.bind q).mono fun k m1 S1 H1 e1 r1 q1 => ?_⟩
  cases k with
  | true => exact ⟨m1, S1, L, r1, l.ext e1, q1⟩
  | false => exact ⟨m1, S1, L, r1, l.ext e1, q1⟩
theorem ds_set {i : Nat} {x : Str} {pos' : Pos} (hN : X.N.Nodup) (hi : X.N[i]? = some x) (hx : L2.Loc X.env.scope x) (he : PE X e (tD g E ea)) (hs : swapsWith e (some (.Name x pos')) pos.line X.env = pure false := by rfl) (hf : X.fn x = true ∨ X.env.scope.names.lookup x = some .local := by first | exact .inl rfl | exact .inr rfl | assumption) :
    PS X (.Assign [.Name x pos'] e pos) (tF g E (sSet i ea)) := by
  refine (ps_set hN hi hx he hs hf).imp fun D σ H h => ?_
  obtain ⟨m, S, L, r, l, q⟩ := h
  exact ⟨m, S, L, r, l, (Aft.bind q).mono fun d m1 S1 H1 e1 r1 q1 v rv => q1.ok r1 _ ((l.ext e1).set rv i)⟩
/-! targets; P: what is known of the slots behind -/
abbrev AnyP : St → St → Prop := fun _ _ => True
abbrev WpP (vs : List Nat) : St → St → Prop := fun σ σ2 => wipe σ2 vs = wipe σ vs
def gQ (g : G) (P : St → St → Prop) (σ0 : St) (Q : St → Hp → Prop) : Lc → Mp → Sto → Hp → Prop := fun L m' _ H' => ∀ σ, RL g m' H' L σ → P σ0 σ → Q σ H'
def tG (g : G) (E : XD) (P : St → St → Prop) (t : D → Lc → Sto → R Lc) : TG := fun v σ H Q => ∃ m S L d, Rel g m S H ∧ RL g m H L σ ∧ RV g m H d v ∧ Aft g E m H (t d L S) (gQ g P σ Q)
def tGs (g : G) (E : XD) (P : St → St → Prop) (t : List D → Lc → Sto → R Lc) : TGs := fun vs σ H Q => ∃ m S L ds, Rel g m S H ∧ RL g m H L σ ∧ RVs g m H ds vs ∧ Aft g E m H (t ds L S) (gQ g P σ Q)
theorem _root_.L2.PG.imp {X : Cx} {e : Expr} {t t' : TG} (h : PG X e t) (k : ∀ v σ H Q, t' v σ H Q → t v σ H Q) : PG X e t' := ⟨fun pins s σ H v u Q I r q => h.run pins s σ H v u Q I r (k v σ H Q q)⟩
theorem _root_.L2.PGs.imp {X : Cx} {e : List Expr} {t t' : TGs} (h : PGs X e t) (k : ∀ v σ H Q, t' v σ H Q → t v σ H Q) : PGs X e t' := ⟨fun pins s σ H v u Q I r q => h.run pins s σ H v u Q I r (k v σ H Q q)⟩
theorem wipe_set {σ : St} {i : Nat} {x : Option V} : ∀ {vs : List Nat}, i ∈ vs → wipe (σ.set i x) vs = wipe σ vs
  | [], h => by cases h
  | v :: vs, h => by
    show (wipe (σ.set i x) vs).set v none = (wipe σ vs).set v none
    by_cases hi : i = v
    · subst hi
      have : ∀ vs : List Nat, (wipe (σ.set i x) vs).set i none = (wipe σ vs).set i none := by
        intro vs
        induction vs with
        | nil => show (σ.set i x).set i none = σ.set i none; rw [List.set_set]
        | cons w vs ih =>
          show ((wipe (σ.set i x) vs).set w none).set i none = ((wipe σ vs).set w none).set i none
          by_cases hw : w = i
          · subst hw; rw [List.set_set, List.set_set, ih]
          · rw [List.set_comm _ _ hw, ih, List.set_comm _ _ (Ne.symm hw)]
      exact this vs
    · rw [wipe_set (List.mem_of_ne_of_mem hi h)]
theorem wp_nm {vs : List Nat} {i : Nat} (h : i ∈ vs) (σ : St) (v : V) : WpP vs σ (σ.set i (some v)) := wipe_set h
variable {P : St → St → Prop}
theorem dg_name {i : Nat} {x : Str} (hN : X.N.Nodup) (hi : X.N[i]? = some x) (hx : L2.Loc X.env.scope x) (hP : ∀ (σ : St) (v : V), P σ (σ.set i (some v))) (hf : X.fn x = true ∨ X.env.scope.names.lookup x = some .local := by first | exact .inl rfl | exact .inr rfl | assumption) : PG X (.Name x pos) (tG g E P (gNm i)) := by
  refine (pg_name hN hi hx hf).imp fun v σ H Q h => ?_
  obtain ⟨m, S, L, d, r, l, rv, q⟩ := h
  exact q.ok r _ (l.set rv i) (hP σ v)
theorem dgs_nil (hP : ∀ σ, P σ σ) : PGs X [] (tGs g E P gNil2) := by
  refine pgs_nil.imp fun v σ H Q h => ?_
  obtain ⟨m, S, L, ds, r, l, rv, q⟩ := h
  cases ds with
  | nil => exact ⟨rv.nil_iff, q.ok r _ l (hP σ)⟩
  | cons _ _ => exact q.elim
theorem dgs_cons {es : List Expr} {t : D → Lc → Sto → R Lc} {u : List D → Lc → Sto → R Lc} (hP : ∀ a b c, P a b → P b c → P a c) (h1 : PG X e (tG g E P t)) (h2 : PGs X es (tGs g E P u)) (hs : (assignEach (e :: es) X.env).map (·.2) = assign e X.env :: (assignEach es X.env).map (·.2) := by rfl) : PGs X (e :: es) (tGs g E P (gCons2 t u)) := by
  refine (pgs_cons h1 h2 hs).imp fun v σ H Q h => ?_
  obtain ⟨m, S, L, ds, r, l, rv, q⟩ := h
  cases ds with
  | nil => exact q.elim
  | cons d ds =>
    obtain ⟨v1, r1, rfl, h1, h2⟩ := rv.cons_iff
    refine ⟨v1, r1, rfl, m, S, L, d, r, l, h1, (Aft.bind q).mono fun L1 m1 S1 H1 e1 r1 q1 σ1 l1 p1 => ?_⟩
    exact ⟨m1, S1, L1, ds, r1, l1, h2.ext e1, q1.mono fun L2 m2 S2 H2 e2 r2 q2 σ2 l2 p2 => q2 σ2 l2 (hP _ _ _ p1 p2)⟩
theorem dg_tup {es : List Expr} {k n : Nat} {t : List D → Lc → Sto → R Lc} (hK : X.K = g.K) (hc : X.calm = true) (h : PGs X es (tGs g E P t)) (hn : (assignEach es X.env).length = n := by rfl) (hst : (assignEach es X.env).findIdx? (·.1) = none := by rfl) :
    PG X (.Tuple es k pos) (tG g E P (gTp n t)) := by
  refine (pg_tup hc h hn hst).imp fun v σ H Q h => ?_
  obtain ⟨m, S, L, d, r, l, rv, q⟩ := h
  unfold gTp at q
  split at q
  · rename_i ds
    split at q
    · rename_i hz
      obtain ⟨a, vs, rfl, h1, h2⟩ := of_tup rv
      exact ⟨a, vs, rfl, by rw [hK]; exact h1, by rw [h2.length]; exact hz, m, S, L, ds, r, l, h2, q⟩
    · exact q.elim
  · exact q.elim
theorem ds_asg {tg : Expr} {t : D → Lc → Sto → R Lc} (he : PE X e (tD g E ea)) (hg : PG X tg (tG g E AnyP t)) (hs : swapsWithSole [tg] e pos.line X.env = pure false := by rfl) (hw : swappedStores [tg] e X.env = pure none := by rfl)
    (h1 : (assignEach [tg] X.env).map (·.2) = [assign tg X.env] := by rfl) : PS X (.Assign [tg] e pos) (tF g E (sAsg ea t)) := by
  refine (ps_asg he hg hs hw h1).imp fun D σ H h => ?_
  obtain ⟨m, S, L, r, l, q⟩ := h
  refine ⟨m, S, L, r, l, (Aft.bind q).mono fun d m1 S1 H1 e1 r1 q1 v rv => ?_⟩
  refine ⟨m1, S1, L, d, r1, l.ext e1, rv, (Aft.bind q1).mono fun L2 m2 S2 H2 e2 r2 q2 => ?_⟩
  exact fun σ2 l2 _ => q2.ok r2 σ2 l2
def rSet (g : G) (E : XD) (f : D → D → D → Sto → R Unit) : TSet := fun o i v H Q => ∃ m S d1 d2 d3, Rel g m S H ∧ RV g m H d1 o ∧ RV g m H d2 i ∧ RV g m H d3 v ∧ Aft g E m H (f d1 d2 d3 S) fun _ m' S' H' => Q H'
theorem dg_ix {o i : Expr} {f : D → D → D → Sto → R Unit} {eo ei : Lc → Sto → R D} (hP : ∀ σ, P σ σ) (ho : PE X o (tD g E eo)) (hi : PE X i (tD g E ei)) (hs : PSet X (rSet g E f))
    (ha : ∀ v, assign (.Subscript o i pos) X.env v = (do
      let ov ← holding [v] (eval o X.env)
      let iv ← holding [v, ov] (eval i X.env)
      standAt pos
      holding [v, ov, iv] (setItem ov iv v)
      release [v, ov, iv] []) := by intro _; rfl) : PG X (.Subscript o i pos) (tG g E P (gIx eo ei f)) := by
  refine (pg_sub ho hi hs ha).imp fun v σ H Q h => ?_
  obtain ⟨m, S, L, d, r, l, rv, q⟩ := h
  refine ⟨m, S, L, r, l, (Aft.bind q).mono fun d1 m1 S1 H1 e1 r1 q1 v1 rv1 => ?_⟩
  refine ⟨m1, S1, L, r1, l.ext e1, (Aft.bind q1).mono fun d2 m2 S2 H2 e2 r2 q2 v2 rv2 => ?_⟩
  refine ⟨m2, S2, d1, d2, d, r2, rv1.ext e2, rv2, rv.ext (e1.trans e2), (Aft.bind q2).mono fun _ m3 S3 H3 e3 r3 q3 => ?_⟩
  exact q3.ok r3 σ (l.ext (e1.trans (e2.trans e3))) (hP σ)
end
end VL

namespace VL
open PySem PySem.Spec PyProof.Rows L2

mutual
def D.beq : D → D → Bool
  | .non, .non => true
  | .bl a, .bl b => a == b
  | .int a, .int b => a == b
  | .str a, .str b => decide (a = b)
  | .ty a, .ty b => a == b
  | .tup a, .tup b => D.beqs a b
  | .ctp a, .ctp b => D.beqs a b
  | .lst a, .lst b => D.beqs a b
  | .dic a x, .dic b y => decide (a = b) && D.beqs x y
  | .dct a x, .dct b y => decide (a = b) && D.beqs x y
  | .obj a k x, .obj b l y => decide (a = b) && (decide (k = l) && D.beqs x y)
  | .scr a, .scr b => decide (a = b)
  | .ref a, .ref b => a == b
  | .kref a, .kref b => a == b
  | _, _ => false
def D.beqs : List D → List D → Bool
  | [], [] => true
  | a :: as, b :: bs => D.beq a b && D.beqs as bs
  | _, _ => false
end
mutual
theorem D.beq_eq : ∀ {a b : D}, D.beq a b = true → a = b
  | .non, b, h => by cases b <;> simp [D.beq] at h; rfl
  | .bl _, b, h => by cases b <;> simp [D.beq] at h; subst h; rfl
  | .int _, b, h => by cases b <;> simp [D.beq] at h; subst h; rfl
  | .str _, b, h => by cases b <;> simp [D.beq] at h; subst h; rfl
  | .ty _, b, h => by cases b <;> simp [D.beq] at h; subst h; rfl
  | .ref _, b, h => by cases b <;> simp [D.beq] at h; subst h; rfl
  | .kref _, b, h => by cases b <;> simp [D.beq] at h; subst h; rfl
  | .scr _, b, h => by cases b <;> simp [D.beq] at h; subst h; rfl
  | .tup as, b, h => by
    cases b <;> simp [D.beq] at h
    rw [D.beqs_eq h]
  | .ctp as, b, h => by
    cases b <;> simp [D.beq] at h
    rw [D.beqs_eq h]
  | .lst as, b, h => by
    cases b <;> simp [D.beq] at h
    rw [D.beqs_eq h]
  | .dic _ as, b, h => by
    cases b <;> simp [D.beq] at h
    rw [h.1, D.beqs_eq h.2]
  | .dct _ as, b, h => by
    cases b <;> simp [D.beq] at h
    rw [h.1, D.beqs_eq h.2]
  | .obj _ _ as, b, h => by
    cases b <;> simp [D.beq] at h
    rw [h.1, h.2.1, D.beqs_eq h.2.2]
theorem D.beqs_eq : ∀ {as bs : List D}, D.beqs as bs = true → as = bs
  | [], bs, h => by cases bs <;> simp [D.beqs] at h; rfl
  | a :: as, bs, h => by
    cases bs with
    | nil => simp [D.beqs] at h
    | cons b bs =>
      simp [D.beqs] at h
      rw [D.beq_eq h.1, D.beqs_eq h.2]
end
mutual
theorem D.beq_refl : ∀ a : D, D.beq a a = true
  | .non => rfl
  | .bl a => by simp [D.beq]
  | .int _ => by simp [D.beq]
  | .str _ => by simp [D.beq]
  | .ty _ => by simp [D.beq]
  | .ref _ => by simp [D.beq]
  | .kref _ => by simp [D.beq]
  | .scr _ => by simp [D.beq]
  | .tup as => by simp [D.beq, D.beqs_refl as]
  | .ctp as => by simp [D.beq, D.beqs_refl as]
  | .lst as => by simp [D.beq, D.beqs_refl as]
  | .dic _ as => by simp [D.beq, D.beqs_refl as]
  | .dct _ as => by simp [D.beq, D.beqs_refl as]
  | .obj _ _ as => by simp [D.beq, D.beqs_refl as]
theorem D.beqs_refl : ∀ as : List D, D.beqs as as = true
  | [] => rfl
  | a :: as => by simp [D.beqs, D.beq_refl a, D.beqs_refl as]
end
def R.calm {a : Type} (r : R a) : R a := match r with
  | .exc _ _ _ => .bad
  | r => r
@[simp] theorem R.calm_ok {a : Type} (x : a) (S : Sto) : (R.ok x S).calm = .ok x S := rfl
@[simp] theorem R.calm_bad {a : Type} : (R.bad : R a).calm = .bad := rfl
theorem Aft.calmB {a b : Type} {g : G} {E : XD} {m : Mp} {H : Hp} {r : R a} {k : a → Sto → R b} {Q : b → Mp → Sto → Hp → Prop} (h : Aft g E m H (r.calm.bind k) Q) : Aft g NoX m H r fun x m1 S1 H1 => Aft g E m1 H1 (k x S1) Q := by
  cases r with
  | ok x S => exact fun m' H' e' q => Aft.later (r := k x S) h e'
  | exc c fs S => exact (show False from h).elim
  | bad => exact h
/-- as far as the world around is another -/
theorem Aft.calmA {a b : Type} {g : G} {E : XD} {m : Mp} {H : Hp} {r : R a} {k : a → Sto → R b} {Q : b → Mp → Sto → Hp → Prop} (h : Aft g E m H (r.calm.bind k) Q) (m0 : Mp) (H0 : Hp) : Aft g NoX m0 H0 r fun x _ S1 _ => Aft g E m H (k x S1) Q := by
  cases r with
  | ok x S => exact fun m' H' e' q => h
  | exc c fs S => exact (show False from h).elim
  | bad => exact h

/-! what is walked -/
structure Wk where
  ds : List D
  ok : Sto → Bool
def okL (n : Nat) (ds : List D) : Sto → Bool := fun S => match S[n]? with
  | some (.lst ds') => D.beqs ds ds'
  | _ => false
def JD (g : G) (J : It) (W : Wk) (m0 : Mp) (H0 : Hp) : Prop :=
  ∀ (i : Nat) (m : Mp) (S : Sto) (H : Hp), Exk m0 H0 m H → Rel g m S H → W.ok S = true →
    (W.ds[i]? = none → J.stop i H) ∧ ∀ d, W.ds[i]? = some d → J.go i H ∧ ∀ x H', J.yld i H x H' → Ext g m H m H' ∧ Rel g m S H' ∧ RV g m H' d x
def tI (g : G) (E : XD) (w : Lc → Sto → R Wk) : TI := fun σ H Q => ∃ m S L, Rel g m S H ∧ RL g m H L σ ∧ Aft g E m H (w L S) fun W m' _ H' => ∀ J, JD g J W m' H' → Q J H'
theorem _root_.L2.PI.imp {X : Cx} {tg e : Expr} {t t' : TI} (h : PI X tg e t) (k : ∀ σ H Q, t' σ H Q → t σ H Q) : PI X tg e t' := ⟨fun pins s σ H Q I q => h.run pins s σ H Q I (k σ H Q q)⟩
def forL (ok : Sto → Bool) (t : D → Lc → Sto → R Lc) (fb : SF) : List D → SF
  | [] => fun L S => if ok S = true then .ok (.nx L) S else .bad
  | d :: ds => fun L S => if ok S = true then (t d L S).bind fun L1 S1 => (fb L1 S1).bind fun f S2 => match f with
      | .nx L2 => forL ok t fb ds L2 S2
      | .ct L2 => forL ok t fb ds L2 S2
      | .bk L2 => .ok (.nx L2) S2
      | .rt d => .ok (.rt d) S2
    else .bad
def sFor (w : Lc → Sto → R Wk) (t : D → Lc → Sto → R Lc) (fb : SF) : SF := fun L S => (w L S).bind fun W S1 => forL W.ok t fb W.ds L S1
theorem drop_cons {ds : List D} {i : Nat} {d : D} (h : ds[i]? = some d) : ds.drop i = d :: ds.drop (i + 1) := by
  obtain ⟨hi, rfl⟩ := List.getElem?_eq_some_iff.mp h
  exact List.drop_eq_getElem_cons hi
section
variable {X : Cx} {g : G} {E : XD} {pos : Pos} {tg iter : Expr} {body : List Stmt} {w : Lc → Sto → R Wk} {t : D → Lc → Sto → R Lc} {fb : SF}
theorem ds_for (hp : PassesOwn (model X.prog X.w) X.A X.env X.xe) (hc : X.calm = true) (hi : PI X tg iter (tI g E w)) (hg : PG X tg (tG g E AnyP t)) (hb : PSs X body (tF g E fb))
    (hs : ∀ x, foldedSetIterable iter X.env x = pure x := by intro _; rfl) : PS X (.For tg iter body [] pos) (tF g E (sFor w t fb)) := by
  refine (ps_for hp hc hi hg hb hs).imp fun Dn σ H h => ?_
  obtain ⟨m, S, L, r, l, q⟩ := h
  refine ⟨m, S, L, r, l, (Aft.bind q).mono fun W m1 S1 H1 e1 r1 q1 J hJ => ?_⟩
  refine ⟨fun i k σ' H' => ∃ m' S' L', Ext g m1 H1 m' H' ∧ Rel g m' S' H' ∧ RL g m' H' L' σ' ∧ k = W.ds.length - i ∧ i ≤ W.ds.length ∧ Aft g E m' H' (forL W.ok t fb (W.ds.drop i) L' S') (fQ g Dn),
    ⟨_, m1, S1, L, .refl, r1, l.ext e1, rfl, Nat.zero_le _, q1⟩, ?_⟩
  rintro i k σ' H' ⟨m', S', L', e', r', l', rfl, hle, q'⟩
  cases hd : W.ds[i]? with
  | none =>
    have hlen : W.ds.length ≤ i := List.getElem?_eq_none_iff.mp hd
    rw [List.drop_eq_nil_of_le hlen] at q'
    unfold forL at q'
    split at q'
    · rename_i hok
      exact .inl ⟨(hJ i m' S' H' e'.toExk r' hok).1 hd, q'.ok r' σ' l'⟩
    · exact q'.elim
  | some d =>
    have hlt : i < W.ds.length := (List.getElem?_eq_some_iff.mp hd).1
    rw [drop_cons hd] at q'
    unfold forL at q'
    split at q'
    · rename_i hok
      obtain ⟨hgo, hy⟩ := (hJ i m' S' H' e'.toExk r' hok).2 d hd
      refine .inr ⟨hgo, fun σ2 H2 => ∃ m2 S2 L2, Ext g m1 H1 m2 H2 ∧ Rel g m2 S2 H2 ∧ RL g m2 H2 L2 σ2 ∧ Aft g E m2 H2 (forL W.ok t fb (W.ds.drop (i + 1)) L2 S2) (fQ g Dn), ?_, fun x H3 y => ?_⟩
      · rintro σ2 H2 ⟨m2, S2, L2, e2, r2, l2, q2⟩
        exact ⟨_, by omega, m2, S2, L2, e2, r2, l2, rfl, hlt, q2⟩
      · obtain ⟨ex, rx, rv⟩ := hy x H3 y
        refine ⟨m', S', L', d, rx, l'.ext ex, rv, ((Aft.bind q').later ex).mono fun L1 m4 S4 H4 e4 r4 q4 σ4 l4 _ => ?_⟩
        refine ⟨m4, S4, L1, r4, l4, (Aft.bind q4).mono fun f m5 S5 H5 e5 r5 q5 => ?_⟩
        have e15 : Ext g m1 H1 m5 H5 := e'.trans (ex.trans (e4.trans e5))
        cases f with
        | nx L2 => exact fun σ5 l5 => ⟨m5, S5, L2, e15, r5, l5, q5⟩
        | ct L2 => exact fun σ5 l5 => ⟨m5, S5, L2, e15, r5, l5, q5⟩
        | bk L2 => exact fun σ5 l5 => q5.ok r5 σ5 l5
        | rt d => exact fun v rv => q5.ok r5 v rv
    · exact q'.elim
end

/-! while -/
def whL (c : Lc → Sto → R Bool) (fb : SF) : Nat → SF
  | 0 => fun _ _ => .bad
  | n + 1 => fun L S => (c L S).bind fun b S1 => if b = true then (fb L S1).bind fun f S2 => match f with
      | .nx L2 => whL c fb n L2 S2
      | .ct L2 => whL c fb n L2 S2
      | .bk L2 => .ok (.nx L2) S2
      | .rt d => .ok (.rt d) S2
    else .ok (.nx L) S1
theorem ds_while {X : Cx} {g : G} {E : XD} {pos : Pos} {c : Expr} {body : List Stmt} {tc : Lc → Sto → R Bool} {fb : SF} (n : Nat) (hp : PassesOwn (model X.prog X.w) X.A X.env X.xe) (hc : PT X c (tT g E tc)) (hb : PSs X body (tF g E fb)) : PS X (.While c body [] pos) (tF g E (whL tc fb n)) := by
  refine (ps_while hp hc hb).imp fun Dn σ H h => ?_
  refine ⟨fun k σ' H' => ∃ m' S' L', Rel g m' S' H' ∧ RL g m' H' L' σ' ∧ Aft g E m' H' (whL tc fb k L' S') (fQ g Dn), ⟨n, h⟩, ?_⟩
  rintro k σ' H' ⟨m', S', L', r', l', q'⟩
  cases k with
  | zero => exact q'.elim
  | succ k =>
    refine ⟨m', S', L', r', l', (Aft.bind q').mono fun b m1 S1 H1 e1 r1 q1 => ?_⟩
    cases b with
    | false => exact q1.ok r1 _ (l'.ext e1)
    | true =>
      refine ⟨fun σ2 H2 => ∃ m2 S2 L2, Rel g m2 S2 H2 ∧ RL g m2 H2 L2 σ2 ∧ Aft g E m2 H2 (whL tc fb k L2 S2) (fQ g Dn), fun σ2 H2 h2 => ⟨k, Nat.lt_succ_self k, h2⟩, ?_⟩
      refine ⟨m1, S1, L', r1, l'.ext e1, (Aft.bind q1).mono fun f m5 S5 H5 e5 r5 q5 => ?_⟩
      cases f with
      | nx L2 => exact fun σ5 l5 => ⟨m5, S5, L2, r5, l5, q5⟩
      | ct L2 => exact fun σ5 l5 => ⟨m5, S5, L2, r5, l5, q5⟩
      | bk L2 => exact fun σ5 l5 => q5.ok r5 σ5 l5
      | rt d => exact fun v rv => q5.ok r5 v rv

/-! list comprehensions -/
def lcL (ok : Sto → Bool) (t : D → Lc → Sto → R Lc) (tt : Lc → Sto → R Bool) (te : Lc → Sto → R D) (L : Lc) : List D → List D → Sto → R D
  | [], acc => fun S => if ok S = true then .ok (.lst acc) S else .bad
  | d :: ds, acc => fun S => if ok S = true then (t d L S).calm.bind fun L1 S1 => (tt L1 S1).calm.bind fun b S2 =>
      if b = true then (te L1 S2).calm.bind fun y S3 => if acc.length < sizeLine then lcL ok t tt te L ds (acc ++ [y]) S3 else .bad
      else lcL ok t tt te L ds acc S2
    else .bad
def eLc (w : Lc → Sto → R Wk) (t : D → Lc → Sto → R Lc) (tt : Lc → Sto → R Bool) (te : Lc → Sto → R D) (vs : List Nat) : Lc → Sto → R D := fun L S => (w L S).bind fun W S1 => lcL W.ok t tt te (wipeL L vs) W.ds [] S1
def tYesD : Lc → Sto → R Bool := fun _ S => .ok true S
theorem wipe_wipe (σ : St) (vs : List Nat) : wipe (wipe σ vs) vs = wipe σ vs := by
  apply List.ext_getElem?
  intro j
  cases hj : (wipe (wipe σ vs) vs)[j]? with
  | none =>
    have := List.getElem?_eq_none_iff.mp hj
    rw [wipe_length, wipe_length] at this
    rw [List.getElem?_eq_none (by rw [wipe_length]; exact this)]
  | some o =>
    have hl : j < σ.length := by have := (List.getElem?_eq_some_iff.mp hj).1; rwa [wipe_length, wipe_length] at this
    cases o with
    | some v => exact (wipe_some hj).1.symm
    | none =>
      have hl2 : j < (wipe σ vs).length := by rw [wipe_length]; exact hl
      cases hk : (wipe σ vs)[j]? with
      | none => rw [List.getElem?_eq_getElem hl2] at hk; cases hk
      | some o2 =>
        cases o2 with
        | none => rfl
        | some v2 =>
          exfalso
          have hnj := (wipe_some hk).2
          have keep : ∀ (us : List Nat), j ∉ us → (wipe (wipe σ vs) us)[j]? = some (some v2) := by
            intro us hu
            induction us with
            | nil => exact hk
            | cons u us ih =>
              show ((wipe (wipe σ vs) us).set u none)[j]? = some (some v2)
              have h1 : u ≠ j := fun z => hu (by simp [z])
              rw [List.getElem?_set_ne h1]
              exact ih fun z => hu (List.mem_cons_of_mem _ z)
          rw [keep vs hnj] at hj
          cases hj
section
variable {X : Cx} {g : G} {E : XD} {pos : Pos} {elt tg iter : Expr} {ifs : List Expr} {scope : Scope} {own : List (Str × Nat)} {w : Lc → Sto → R Wk} {t : D → Lc → Sto → R Lc} {tt : Lc → Sto → R Bool} {te : Lc → Sto → R D}
theorem _root_.L2.PTs.imp {X : Cx} {e : List Expr} {t t' : TT} (h : PTs X e t) (k : ∀ σ H Q, t' σ H Q → t σ H Q) : PTs X e t' := ⟨fun pins s σ H Q I q => h.run pins s σ H Q I (k σ H Q q)⟩
theorem dts_nil {E : XD} : PTs X [] (tT g E tYesD) := pts_nil.imp fun σ H Q h => by
  obtain ⟨m, S, L, r, l, q⟩ := h
  exact q.ok r
theorem dts_one {E : XD} {c : Expr} (h : PT X c (tT g E tt)) : PTs X [c] (tT g E tt) := pts_one h
/-- RL over a weaker step -/
theorem RL.extw {m m' : Mp} {H H' : Hp} {L : Lc} {σ : St} (h : RL g m H L σ) (e : Exw m H m' H') : RL g m' H' L σ :=
  ⟨h.1, fun i d q => let ⟨v, h1, h2⟩ := h.2 i d q; ⟨v, h1, h2.extw e⟩⟩
/-- what is being made at p, seen within the making -/
structure Mk1 (g : G) (m1 : Mp) (H1 : Hp) (p : Addr) (o : HO) (m' : Mp) (S' : Sto) (H' : Hp) : Prop where
  ex : Exw m1 H1 m' H'
  po : m'.o = p :: m1.o
  kp : ∀ a ∈ m1.o, H' a = H1 a
  pk : m'.k = m1.k
  kk : ∀ x ∈ m1.k, H' x.2 = H1 x.2
  at_ : H' p = some o
  r : Rel g m' S' H'
theorem Mk1.start {m1 : Mp} {S1 : Sto} {H1 : Hp} {p : Addr} {o : HO} (r1 : Rel g m1 S1 H1) (hp : H1 p = none) : Mk1 g m1 H1 p o (m1.hold p) S1 (upd H1 p o) :=
  ⟨exw_hold hp, rfl, fun a ha => upd_ne (fun z => by subst z; exact r1.freshO hp ha), rfl, fun x hx => upd_ne (r1.freshK hp hx), upd_same, r1.hold hp⟩
theorem Mk1.on {m1 m' m2 : Mp} {S' S2 : Sto} {H1 H' H2 : Hp} {p : Addr} {o : HO} (k : Mk1 g m1 H1 p o m' S' H') (e : Ext g m' H' m2 H2) (r : Rel g m2 S2 H2) : Mk1 g m1 H1 p o m2 S2 H2 :=
  ⟨k.ex.trans e.toExw, e.priv.trans k.po, fun a ha => (e.keep a (by rw [k.po]; exact List.mem_cons_of_mem _ ha)).trans (k.kp a ha), e.privk.trans k.pk, fun x hx => (e.keepk x (by rw [k.pk]; exact hx)).trans (k.kk x hx), (e.keep p (by rw [k.po]; exact List.mem_cons_self)).trans k.at_, r⟩
theorem Mk1.step {m1 m' : Mp} {S' : Sto} {H1 H' : Hp} {p : Addr} {o o' : HO} (k : Mk1 g m1 H1 p o m' S' H') (hp : H1 p = none) : Exw m' H' m' (upd H' p o') ∧ Mk1 g m1 H1 p o' m' S' (upd H' p o') := by
  have e : m' = (⟨m'.l, m1.o, m'.k⟩ : Mp).hold p := Mp.of_hold k.po
  have hh : Exw m' H' m' (upd H' p o') := by rw [e]; exact exw_held
  refine ⟨hh, k.ex.trans hh, k.po, fun a ha => ?_, k.pk, fun x hx => ?_, upd_same, ?_⟩
  · by_cases z : a = p
    · subst z
      have hr := k.r
      rw [e] at hr
      exfalso
      have hn : H1 a = H' a := (k.kp a ha).symm
      rw [hp, k.at_] at hn
      cases hn
    · rw [upd_ne z]; exact k.kp a ha
  · by_cases z : x.2 = p
    · exfalso
      have hn : H1 x.2 = H' x.2 := (k.kk x hx).symm
      rw [z, hp, k.at_] at hn
      cases hn
    · rw [upd_ne z]; exact k.kk x hx
  · have hr := k.r
    rw [e] at hr ⊢
    exact hr.held
theorem Mk1.done {m1 m' : Mp} {S1 S' : Sto} {H1 H' : Hp} {p : Addr} {o : HO} (k : Mk1 g m1 H1 p o m' S' H') (r1 : Rel g m1 S1 H1) (hp : H1 p = none) :
    Exw m' H' ⟨m'.l, m1.o, m'.k⟩ H' ∧ Ext g m1 H1 ⟨m'.l, m1.o, m'.k⟩ H' ∧ Rel g ⟨m'.l, m1.o, m'.k⟩ S' H' ∧ Un ⟨m'.l, m1.o, m'.k⟩ p := by
  have e : m' = (⟨m'.l, m1.o, m'.k⟩ : Mp).hold p := Mp.of_hold k.po
  have hw : Exw m' H' ⟨m'.l, m1.o, m'.k⟩ H' := by
    have := exw_free (m := ⟨m'.l, m1.o, m'.k⟩) (H := H') (p := p)
    rw [← e] at this
    exact this
  have hr := k.r
  rw [e] at hr
  refine ⟨hw, .of (k.ex.trans hw) rfl k.kp k.pk k.kk, hr.free, (k.r.prv p (by rw [k.po]; exact List.mem_cons_self)).2, r1.freshO hp⟩
theorem Mk1.toSto {m1 m' : Mp} {S1 S' : Sto} {H1 H' : Hp} {p : Addr} {o : HO} {ob : Ob} (k : Mk1 g m1 H1 p o m' S' H') (r1 : Rel g m1 S1 H1) (hp : H1 p = none) (h : OR g m' H' ob o) :
    Exw m' H' ((⟨m'.l, m1.o, m'.k⟩ : Mp).add p) H' ∧ Ext g m1 H1 ((⟨m'.l, m1.o, m'.k⟩ : Mp).add p) H' ∧ Rel g ((⟨m'.l, m1.o, m'.k⟩ : Mp).add p) (S' ++ [ob]) H' ∧ ((⟨m'.l, m1.o, m'.k⟩ : Mp).add p).l[S'.length]? = some (p, true) := by
  have e : m' = (⟨m'.l, m1.o, m'.k⟩ : Mp).hold p := Mp.of_hold k.po
  have hw : Exw m' H' ((⟨m'.l, m1.o, m'.k⟩ : Mp).add p) H' := by
    have := exw_own (m := ⟨m'.l, m1.o, m'.k⟩) (H := H') (p := p)
    rw [← e] at this
    exact this
  have hr := k.r
  rw [e] at hr h
  refine ⟨hw, .of (k.ex.trans hw) rfl k.kp k.pk k.kk, hr.own (r1.freshO hp) k.at_ h, ?_⟩
  have hl : m'.l.length = S'.length := k.r.len
  show (m'.l ++ [(p, true)])[S'.length]? = some (p, true)
  rw [← hl]
  simp
theorem lc_loop {σ : St} {L : Lc} {vs : List Nat} {W : Wk} {J : It} {m1 : Mp} {S1 : Sto} {H1 : Hp} {Q : VK} {P : D → Mp → Sto → Hp → Prop} (r1 : Rel g m1 S1 H1) (l : RL g m1 H1 L σ) (hJ : JD g J W m1 H1) (q1 : Aft g E m1 H1 (lcL W.ok t tt te (wipeL L vs) W.ds [] S1) P)
    (hP : ∀ d m S H v, Ext g m1 H1 m H → Rel g m S H → P d m S H → RV g m H d v → Q v H) :
    ∀ p, H1 p = none → ∃ Wp : Nat → Nat → Hp → Prop, (∃ m, Wp 0 m (upd H1 p (.lst []))) ∧ ∀ i m H, Wp i m H →
      (J.stop i H ∧ Q (.ref p) H) ∨ (J.go i H ∧ ∃ Nx : Hp → Prop, (∀ H', Nx H' → ∃ m', m' < m ∧ Wp (i + 1) m' H') ∧ ∀ x H', J.yld i H x H' → tG g NoX (WpP vs) t x (wipe σ vs) H' fun σ2 H2 => wipe σ2 vs = wipe σ vs ∧ tT g NoX tt σ2 H2 fun b H3 =>
        if b = true then tD g NoX te σ2 H3 fun v H4 => ∃ acc, H4 p = some (.lst acc) ∧ acc.length < sizeLine ∧ Nx (upd H4 p (.lst (acc ++ [v]))) else Nx H3) := by
  intro p hp
  refine ⟨fun i k H' => ∃ m' S' acc us, Mk1 g m1 H1 p (.lst us) m' S' H' ∧ RVs g m' H' acc us ∧ k = W.ds.length - i ∧ i ≤ W.ds.length ∧ Aft g E m1 H1 (lcL W.ok t tt te (wipeL L vs) (W.ds.drop i) acc S') P,
    ⟨_, _, _, [], [], .start r1 hp, .nil, rfl, Nat.zero_le _, q1⟩, ?_⟩
  rintro i k H' ⟨m', S', acc, us, mk, ra, rfl, hle, q'⟩
  cases hd : W.ds[i]? with
  | none =>
    have hlen : W.ds.length ≤ i := List.getElem?_eq_none_iff.mp hd
    rw [List.drop_eq_nil_of_le hlen] at q'
    unfold lcL at q'
    split at q'
    · rename_i hok
      obtain ⟨hw, he, hr, hu⟩ := mk.done r1 hp
      exact .inl ⟨(hJ i m' S' H' ⟨mk.ex, mk.pk, mk.kk⟩ mk.r hok).1 hd, hP _ _ _ _ _ he hr (q'.at he hr) (rv_lst mk.at_ hu (ra.extw hw))⟩
    · exact q'.elim
  | some d =>
    have hlt : i < W.ds.length := (List.getElem?_eq_some_iff.mp hd).1
    rw [drop_cons hd] at q'
    unfold lcL at q'
    split at q'
    · rename_i hok
      obtain ⟨hgo, hy⟩ := (hJ i m' S' H' ⟨mk.ex, mk.pk, mk.kk⟩ mk.r hok).2 d hd
      refine .inr ⟨hgo, fun H2 => ∃ m2 S2 acc us, Mk1 g m1 H1 p (.lst us) m2 S2 H2 ∧ RVs g m2 H2 acc us ∧ Aft g E m1 H1 (lcL W.ok t tt te (wipeL L vs) (W.ds.drop (i + 1)) acc S2) P, ?_, fun x H3 y => ?_⟩
      · rintro H2 ⟨m2, S2, acc2, us2, mk2, ra2, q2⟩
        exact ⟨_, by omega, m2, S2, acc2, us2, mk2, ra2, rfl, hlt, q2⟩
      · obtain ⟨ex, rx, rv⟩ := hy x H3 y
        have mk3 := mk.on ex rx
        have lw : RL g m' H3 (wipeL L vs) (wipe σ vs) := (l.wipe vs).extw mk3.ex
        refine ⟨m', S', wipeL L vs, d, rx, lw, rv, (Aft.calmA q' m' H3).mono fun L1 m4 S4 H4 e4 r4 q4 σ4 l4 w4 => ?_⟩
        refine ⟨by rw [w4, wipe_wipe], m4, S4, L1, r4, l4, (Aft.calmA q4 m4 H4).mono fun b m5 S5 H5 e5 r5 q5 => ?_⟩
        have e35 : Ext g m' H' m5 H5 := ex.trans (e4.trans e5)
        cases b with
        | false => exact ⟨m5, S5, acc, us, mk.on e35 r5, ra.ext e35, q5⟩
        | true =>
          refine ⟨m5, S5, L1, r5, l4.ext e5, (Aft.calmA q5 m5 H5).mono fun y m6 S6 H6 e6 r6 q6 v rv6 => ?_⟩
          have mk6 := mk.on (e35.trans e6) r6
          have ra6 := ra.ext (e35.trans e6)
          split at q6
          · rename_i hz
            obtain ⟨e7, mk7⟩ := mk6.step (o' := .lst (us ++ [v])) hp
            exact ⟨us, mk6.at_, by rw [ra6.length]; exact hz, m6, S6, acc ++ [y], us ++ [v], mk7, (ra6.append (.cons rv6 .nil)).extw e7, q6⟩
          · exact q6.elim
    · exact q'.elim
theorem lc_run {σ : St} {H : Hp} {Q : VK} {vs : List Nat} (h : tD g E (eLc w t tt te vs) σ H Q) : tLc (tI g E w) (tG g NoX (WpP vs) t) (tT g NoX tt) (tD g NoX te) vs σ H Q := by
  obtain ⟨m, S, L, r, l, q⟩ := h
  refine ⟨m, S, L, r, l, (Aft.bind q).mono fun W m1 S1 H1 e1 r1 q1 J hJ => ?_⟩
  exact lc_loop r1 (l.ext e1) hJ q1 fun d m2 S2 H2 v _ _ q2 rv => q2 v rv
theorem de_lc {vs : List Nat} (hc : X.calm = true) (hN : X.N.Nodup) (hvs : own.map (·.2) = vs) (hi : PI X tg iter (tI g E w)) (ok : BlkOk X.N X.env.scope scope own)
    (hg : ∀ (s : Shared) (H : Hp) (C : Addr) (cl : List (Str × Addr)) (fp : List Addr), PG (X.blk s H scope (compEnvC scope cl C X.env) fp) tg (tG g NoX (WpP vs) t)) (ht : ∀ (s : Shared) (H : Hp) (C : Addr) (cl : List (Str × Addr)) (fp : List Addr), PTs (X.blk s H scope (compEnvC scope cl C X.env) fp) ifs (tT g NoX tt))
    (he : ∀ (s : Shared) (H : Hp) (C : Addr) (cl : List (Str × Addr)) (fp : List Addr), PE (X.blk s H scope (compEnvC scope cl C X.env) fp) elt (tD g NoX te)) (hs : ∀ x, foldedSetIterable iter X.env x = pure x := by intro _; rfl) :
    PE X (.ListComp elt [⟨tg, iter, ifs, 0⟩] scope pos) (tD g E (eLc w t tt te vs)) := by
  subst hvs
  exact (pe_lc hc hN hi ok hg ht he hs).imp fun σ H Q h => lc_run h
theorem ds_setLc {vs : List Nat} {i : Nat} {y : Str} {py spos : Pos} (hc : X.calm = true) (hN : X.N.Nodup) (hvs : own.map (·.2) = vs) (hy : X.N[i]? = some y) (hyl : X.env.scope.names.lookup y = some .local)
    (hsw : swapsWith (.ListComp elt [⟨tg, iter, ifs, 0⟩] scope pos) (some (.Name y py)) spos.line X.env = pure true) (hi : PI X tg iter (tI g E w)) (ok : BlkOk X.N X.env.scope scope own)
    (hg : ∀ (s : Shared) (H : Hp) (C : Addr) (cl : List (Str × Addr)) (fp : List Addr), PG (X.blk s H scope (compEnvC scope cl C X.env) fp) tg (tG g NoX (WpP vs) t)) (ht : ∀ (s : Shared) (H : Hp) (C : Addr) (cl : List (Str × Addr)) (fp : List Addr), PTs (X.blk s H scope (compEnvC scope cl C X.env) fp) ifs (tT g NoX tt))
    (he : ∀ (s : Shared) (H : Hp) (C : Addr) (cl : List (Str × Addr)) (fp : List Addr), PE (X.blk s H scope (compEnvC scope cl C X.env) fp) elt (tD g NoX te)) (hs : ∀ x, foldedSetIterable iter X.env x = pure x := by intro _; rfl) :
    PS X (.Assign [.Name y py] (.ListComp elt [⟨tg, iter, ifs, 0⟩] scope pos) spos) (tF g E (sSet i (eLc w t tt te vs))) := by
  subst hvs
  refine (ps_setLc hc hN hy hyl hsw hi ok hg ht he hs).imp fun Dn σ H h => ?_
  obtain ⟨m, S, L, r, l, q⟩ := h
  refine lc_run (E := E) ⟨m, S, L, r, l, (Aft.bind q).mono fun d m1 S1 H1 e1 r1 q1 v rv => ?_⟩
  exact q1.ok r1 _ ((l.ext e1).set rv i)
end

/-! what is raised -/
def XW (g : G) (E : XK) : XD := fun c fs m _ H => ∀ (C dx : Addr) (fvs : List (Str × V)), g.cl c = some C → H dx = some (.xd fvs) → Un m dx → fvs.map (·.1) = fs.map (·.1) → RVs g m H (fs.map (·.2)) (fvs.map (·.2)) → E (.ref C) (some dx) H
def PX (X : Cx) (g : G) (E : XD) : Prop := ∃ E0 : XK, Passes (L2.CX X.prog X.w) X E0 ∧ ∀ c fs m S H, E c fs m S H → XW g E0 c fs m S H
theorem px_no {X : Cx} {g : G} : PX X g NoX := ⟨E0, passL, fun _ _ _ _ _ h => h.elim⟩
theorem Aft.monoE {a : Type} {g : G} {E E' : XD} {m : Mp} {H : Hp} {r : R a} {Q : a → Mp → Sto → Hp → Prop} (h : Aft g E m H r Q) (k : ∀ c fs m S H, E c fs m S H → E' c fs m S H) : Aft g E' m H r Q := by
  cases r with
  | ok x S => exact h
  | exc c fs S => exact fun m' H' e q => k _ _ _ _ _ (h m' H' e q)
  | bad => exact h

/-! defs -/
def spD (g : G) (n : Nat) (F : List D → Sto → R D) : Sp := fun vs H Q E => vs.length = n ∧ ∃ m S ds, Rel g m S H ∧ RVs g m H ds vs ∧ Aft g (XW g E) m H (F ds S) (vQ g Q)
def dDef (n : Nat) (fb : SF) : List D → Sto → R D := fun ds S => (fb (ds.map some ++ List.replicate (n - ds.length) none) S).bind fun f S' => match f with
  | .rt d => .ok d S'
  | .nx _ => .ok .non S'
  | _ => .bad
def ari (n : Nat) (F : List D → Sto → R D) : List D → Sto → R D := fun ds S => if ds.length = n then F ds S else .bad
section
variable {P : Program} {w : World} {K : PySem.W.Frag} {mg : Str → Option Value} {base : Heap} {g : G}
theorem fn_bad {CX : CXT} {k n : Nat} {f : Addr} {fd : FuncData} {ps : List Str} : FnOk P w K mg base CX k f fd ps (spD g n fun _ _ => .bad) :=
  ⟨fun vs H Q E h => by obtain ⟨_, m, S, ds, _, _, q⟩ := h; exact q.elim, fun A outer s H args us vs Q E hr h0 hb hv h => by obtain ⟨_, m, S, ds, _, _, q⟩ := h; exact q.elim⟩
/-- a def of the text; what it may use: room, the way out for what is raised -/
theorem fn_ok {x qual : Str} {params : Arguments} {body : List Stmt} {scope : Scope} {dvs : List V} {kws : List (Str × V)} {f : Addr} {fd : FuncData} {N ps : List Str} {k n nn : Nat} {fb : SF} (F : FunD K x qual params body scope dvs kws f fd) (Sc : FnScope N ps scope) (hn : ps.length = n) (hN : N.length = nn)
    (hbody : ∀ (cdv : Value) (A : Around) (outer : List Env) (s : Shared) (H : Hp) (E : XK) (X : Cx), X = cxOf (L2.CX P w) P w K mg base N qual scope f cdv A outer s H E → Room k X.A → PX X g (XW g E) → Takes X (fun cls d _ H => E cls d H) → PassesOwn (model X.prog X.w) X.A X.env X.xe →
      PSs (cxOf (L2.CX P w) P w K mg base N qual scope f cdv A outer s H E) body (tF g (XW g E) fb)) : FnOk P w K mg base (L2.CX P w) (k + 1) f fd ps (spD g n (dDef nn fb)) := by
  refine F.ok Sc (fun vs H Q E h => h.1.trans hn.symm) fun cdv A outer s H vs Q E hr h => ?_
  obtain ⟨hl, m, S, ds, r, rv, q⟩ := h
  have tk : Takes (cxOf (L2.CX P w) P w K mg base N qual scope f cdv A outer s H E) (fun cls d _ H => E cls d H) := takes_of rfl rfl rfl rfl
  refine ⟨_, hbody cdv A outer s H E _ rfl hr ⟨E, passes_call tk fun _ _ _ _ h => h, fun _ _ _ _ _ h => h⟩ tk (passes_of rfl), m, S, _, r, RL.begin rv N, ?_⟩
  rw [hN]
  refine (Aft.bind q).mono fun fl m1 S1 H1 e1 r1 q1 => ?_
  cases fl with
  | rt d => exact fun v rv => q1.ok r1 v rv
  | nx L => exact fun σ _ => q1.ok r1 _ rv_non
  | bk L => exact q1.elim
  | ct L => exact q1.elim
end
section
variable {X : Cx} {g : G} {E : XD} {k n : Nat} {f : Addr} {fd : FuncData} {ps : List Str} {Fn : List D → Sto → R D} {x : Str} {p pos : Pos} {e : Expr} {es : List Expr} {ls : Lc → Sto → R (List D)}
theorem sp_call {E0 : XK} {m1 : Mp} {S1 : Sto} {H1 : Hp} {ds : List D} {vs : List V} {Q : VK} (hE : ∀ c fs m S H, E c fs m S H → XW g E0 c fs m S H) (r1 : Rel g m1 S1 H1) (rvs : RVs g m1 H1 ds vs) (q1 : Aft g E m1 H1 (ari n Fn ds S1) (vQ g Q)) : spD g n Fn vs H1 Q E0 := by
  unfold ari at q1
  split at q1
  · rename_i hz
    exact ⟨by rw [rvs.length]; exact hz, m1, S1, ds, r1, rvs, q1.monoE hE⟩
  · exact q1.elim
theorem de_call (F : FnOk X.prog X.w X.K X.mg X.base (L2.CX X.prog X.w) k f fd ps (spD g n Fn)) (hr : Room k X.A) (hg : Gl X x) (hm : X.mg x = some (.ref f)) (hk : PySem.W.keepIn X.K (.ref f) = true) (hb : Binds X.K fd ps []) (hx : PX X g E)
    (ha : PA X (e :: es) (tL g E ls)) (hdb : (x == ("__debug__" : Str)) = false := by decide) (he : starEach (e :: es) X.env = (false, eval e X.env) :: starEach es X.env := by rfl) (hpl : (backTo pos (starEach es X.env)).any (·.1) = false := by rfl) :
    PE X (.Call (.Name x p) (e :: es) [] pos) (tD g E (eCall (ari n Fn) ls)) := by
  obtain ⟨E0, hp, hE⟩ := hx
  refine (pe_call F hr hg hm hk hb .nil hp ha hdb he hpl).imp fun σ H Q h => ?_
  obtain ⟨m, S, L, r, l, q⟩ := h
  refine ⟨m, S, L, r, l, (Aft.bind q).mono fun ds m1 S1 H1 e1 r1 q1 vs rvs => ?_⟩
  show spD g n Fn (vs ++ []) H1 Q E0
  rw [List.append_nil]
  exact sp_call hE r1 rvs q1
/-- f() -/
theorem de_call0 (F : FnOk X.prog X.w X.K X.mg X.base (L2.CX X.prog X.w) k f fd ps (spD g n Fn)) (hr : Room k X.A) (hg : Gl X x) (hm : X.mg x = some (.ref f)) (hk : PySem.W.keepIn X.K (.ref f) = true) (hb : Binds X.K fd ps []) (hx : PX X g E)
    (hdb : (x == ("__debug__" : Str)) = false := by decide) : PE X (.Call (.Name x p) [] [] pos) (tD g E (eCall (ari n Fn) aNil)) := by
  obtain ⟨E0, hp, hE⟩ := hx
  refine (pe_call0 F hr hg hm hk hb .nil hp hdb).imp fun σ H Q h => ?_
  obtain ⟨m, S, L, r, l, q⟩ := h
  show spD g n Fn [] H Q E0
  exact sp_call hE r .nil q
end
end VL

namespace VL
open PySem PySem.Spec PyProof.Rows L2

/-! reading a list -/
def lstOf (d : D) (S : Sto) : Option (List D) := match d with
  | .lst ds => some ds
  | .ref n => match S[n]? with
    | some (.lst ds) => some ds
    | _ => none
  | .scr ns => some (ns.map D.int)
  | _ => none
/-- a list but the script -/
def lstO (d : D) (S : Sto) : Option (List D) := match d with
  | .lst ds => some ds
  | .ref n => match S[n]? with
    | some (.lst ds) => some ds
    | _ => none
  | _ => none
theorem rvs_ints {g : G} {m : Mp} {H : Hp} : ∀ ns : List Int, RVs g m H (ns.map D.int) (ns.map V.int)
  | [] => .nil
  | n :: ns => .cons rv_int (rvs_ints ns)
theorem lstO_run {g : G} {m : Mp} {S : Sto} {H : Hp} (r : Rel g m S H) {d : D} {v : V} (rv : RV g m H d v) {ds : List D} (h : lstO d S = some ds) : ∃ a vs, v = .ref a ∧ H a = some (.lst vs) ∧ RVs g m H ds vs := by
  unfold lstO at h
  split at h
  · cases h
    obtain ⟨a, vs, rfl, h1, _, h2⟩ := of_lst rv
    exact ⟨a, vs, rfl, h1, h2⟩
  · split at h
    · rename_i e
      cases h
      obtain ⟨a, o, rfl, _, h1, vs, rfl, h2⟩ := r.at rv e (by intro z; cases z)
      exact ⟨a, vs, rfl, h1, h2⟩
    · cases h
  · cases h
theorem lst_run {g : G} {m : Mp} {S : Sto} {H : Hp} (r : Rel g m S H) {d : D} {v : V} (rv : RV g m H d v) {ds : List D} (h : lstOf d S = some ds) : ∃ a vs, v = .ref a ∧ SqL g.K H a vs ∧ RVs g m H ds vs := by
  cases d with
  | scr ns =>
    cases h
    obtain ⟨a, rfl, h1⟩ := of_scr rv
    exact ⟨a, _, rfl, h1.sq, rvs_ints ns⟩
  | lst ds' =>
    obtain ⟨a, vs, rfl, h1, h2⟩ := lstO_run r rv (d := .lst ds') h
    exact ⟨a, vs, rfl, .of h1, h2⟩
  | ref n =>
    obtain ⟨a, vs, rfl, h1, h2⟩ := lstO_run r rv (d := .ref n) h
    exact ⟨a, vs, rfl, .of h1, h2⟩
  | _ => cases h
theorem lst_ref {g : G} {m : Mp} {S : Sto} {H : Hp} (r : Rel g m S H) {n : Nat} {v : V} (rv : RV g m H (.ref n) v) {ds : List D} (h : S[n]? = some (.lst ds)) : ∃ a vs, v = .ref a ∧ m.l[n]? = some (a, true) ∧ H a = some (.lst vs) ∧ RVs g m H ds vs := by
  obtain ⟨a, o, rfl, ha, h1, vs, rfl, h2⟩ := r.at rv h (by intro z; cases z)
  exact ⟨a, vs, rfl, ha, h1, h2⟩

section
variable {X : Cx} {g : G} {E : XD}

/-! + -/
def addD (x y : D) (S : Sto) : R D := match x, y with
  | .int i, .int j => .ok (.int (i + j)) S
  | .str a, .str b => if a.length + b.length ≤ sizeLine then .ok (.str (a ++ b)) S else .bad
  | .tup a, .tup b => if a.length + b.length ≤ sizeLine then .ok (.tup (a ++ b)) S else .bad
  | x, y => match lstO x S, lstO y S with
    | some xs, some ys => newL (xs ++ ys) S
    | _, _ => .bad
theorem od_add (hK : X.K = g.K) : OpR X (binaryOp .Add) (rD2 g E addD) := by
  intro pins s σ H x y v u Q I rx ry h
  obtain ⟨m, S, d, d', r, h1, h2, q⟩ := h
  unfold addD at q
  split at q
  · exact op_add pins s σ H x y v u Q I rx ry ⟨_, _, of_int h1, of_int h2, q.ok r _ rv_int⟩
  · split at q
    · rename_i hz
      exact op_add_str pins s σ H x y v u Q I rx ry ⟨_, _, of_str h1, of_str h2, hz, q.ok r _ rv_str⟩
    · exact q.elim
  · split at q
    · rename_i ds es hz
      obtain ⟨a, vs, rfl, t1, v1⟩ := of_tupv h1
      obtain ⟨b, us, rfl, t2, v2⟩ := of_tupv h2
      have s1 := t1.sq
      have s2 := t2.sq
      refine op_catA pins s σ H _ _ v u Q I rx ry ⟨a, b, vs, us, rfl, rfl, by rw [hK]; exact s1, by rw [hK]; exact s2, by rw [v1.length, v2.length]; exact hz, fun e => ?_, fun _ e => ?_, fun _ _ p hp => ?_⟩
      · subst e
        have : ds = [] := by have := v1.length; cases ds; rfl; simp at this
        subst this
        exact q.ok r _ (rv_tupv t2 v2)
      · subst e
        have : es = [] := by have := v2.length; cases es; rfl; simp at this
        subst this
        rw [List.append_nil] at q
        exact q.ok r _ (rv_tupv t1 v1)
      · exact q.at (ext_lay r hp) (r.lay hp) _ (rv_tupv ⟨upd_same, r.un hp⟩ ((v1.append v2).ext (ext_lay r hp)))
    · exact q.elim
  · split at q
    · rename_i xs ys e1 e2
      obtain ⟨a, vs, rfl, H1, v1⟩ := lstO_run r h1 e1
      obtain ⟨b, us, rfl, H2, v2⟩ := lstO_run r h2 e2
      obtain ⟨hz, q'⟩ := newL_run q r (v1.append v2)
      exact op_cat pins s σ H _ _ v u Q I rx ry ⟨a, b, vs, us, rfl, rfl, H1, H2, by rw [← List.length_append]; exact hz, q'⟩
    · exact q.elim
def subD (x y : D) (S : Sto) : R D := match x, y with
  | .int i, .int j => .ok (.int (i - j)) S
  | _, _ => .bad
theorem od_sub : OpR X (binaryOp .Sub) (rD2 g E subD) := by
  intro pins s σ H x y v u Q I rx ry h
  obtain ⟨m, S, d, d', r, h1, h2, q⟩ := h
  unfold subD at q
  split at q
  · exact op_sub pins s σ H x y v u Q I rx ry ⟨_, _, of_int h1, of_int h2, q.ok r _ rv_int⟩
  · exact q.elim
def mulD (x y : D) (S : Sto) : R D := match x, y with
  | .int i, .int j => if Builtin.Int.intBits i + Builtin.Int.intBits j ≤ 134217728 then .ok (.int (i * j)) S else .bad
  | x, .int k => match lstO x S with
    | some xs => if -(2 ^ 63) ≤ k ∧ k < 2 ^ 63 then newL (List.replicate k.toNat xs).flatten S else .bad
    | _ => .bad
  | _, _ => .bad
theorem od_mul : OpR X (binaryOp .Mult) (rD2 g E mulD) := by
  intro pins s σ H x y v u Q I rx ry h
  obtain ⟨m, S, d, d', r, h1, h2, q⟩ := h
  unfold mulD at q
  split at q
  · split at q
    · rename_i hz
      exact op_mulX pins s σ H x y v u Q I rx ry ⟨_, _, of_int h1, of_int h2, by unfold CMulX; omega, q.ok r _ rv_int⟩
    · exact q.elim
  · split at q
    · rename_i xs e1
      split at q
      · rename_i hz
        obtain ⟨a, vs, rfl, H1, v1⟩ := lstO_run r h1 e1
        obtain ⟨hz', q'⟩ := newL_run q r (v1.rep _)
        refine op_rep pins s σ H _ _ v u Q I rx ry ⟨a, _, vs, rfl, of_int h2, H1, hz.1, hz.2, ?_, q'⟩
        simpa [List.length_flatten, Nat.mul_comm] using hz'
      · exact q.elim
    · exact q.elim
  · exact q.elim
def modD (x y : D) (S : Sto) : R D := match x, y with
  | .int i, .int j => if 0 < j then .ok (.int (i % j)) S else .bad
  | _, _ => .bad
theorem od_mod : OpR X (binaryOp .Mod) (rD2 g E modD) := by
  intro pins s σ H x y v u Q I rx ry h
  obtain ⟨m, S, d, d', r, h1, h2, q⟩ := h
  unfold modD at q
  split at q
  · split at q
    · rename_i hz
      exact op_mod pins s σ H x y v u Q I rx ry ⟨_, _, of_int h1, of_int h2, hz, q.ok r _ rv_int⟩
    · exact q.elim
  · exact q.elim
def fdivD (x y : D) (S : Sto) : R D := match x, y with
  | .int i, .int j => if 0 < j ∧ j.natAbs.log2 < 9000 then .ok (.int (i / j)) S else .bad
  | _, _ => .bad
theorem od_fdiv : OpR X (binaryOp .FloorDiv) (rD2 g E fdivD) := by
  intro pins s σ H x y v u Q I rx ry h
  obtain ⟨m, S, d, d', r, h1, h2, q⟩ := h
  unfold fdivD at q
  split at q
  · split at q
    · rename_i hz
      exact op_fdivW pins s σ H x y v u Q I rx ry ⟨_, _, of_int h1, of_int h2, hz, q.ok r _ rv_int⟩
    · exact q.elim
  · exact q.elim
def powD (x y : D) (S : Sto) : R D := match x, y with
  | .int i, .int j => if 0 ≤ j ∧ j ≤ 1000000 ∧ i.natAbs < 2 ^ 64 then .ok (.int (i ^ j.toNat)) S else .bad
  | _, _ => .bad
theorem od_pow : OpR X (binaryOp .Pow) (rD2 g E powD) := by
  intro pins s σ H x y v u Q I rx ry h
  obtain ⟨m, S, d, d', r, h1, h2, q⟩ := h
  unfold powD at q
  split at q
  · split at q
    · rename_i hz
      exact op_pow pins s σ H x y v u Q I rx ry ⟨_, _, of_int h1, of_int h2, hz, q.ok r _ rv_int⟩
    · exact q.elim
  · exact q.elim
def negD (x : D) (S : Sto) : R D := match x with
  | .int i => .ok (.int (-i)) S
  | _ => .bad
theorem ud_neg : UnR X (unaryOp .USub) (rD1 g E negD) := by
  intro pins s σ H x v Q I rx h
  obtain ⟨m, S, d, r, h1, q⟩ := h
  unfold negD at q
  split at q
  · exact un_neg pins s σ H x v Q I rx ⟨_, of_int h1, q.ok r _ rv_int⟩
  · exact q.elim

/-! comparisons -/
def ordD (fi : Int → Int → Bool) (x y : D) (S : Sto) : R D := match x, y with
  | .int i, .int j => .ok (.bl (fi i j)) S
  | _, _ => .bad
theorem od_lt : OpR X (compareOp .Lt) (rD2 g E (ordD fun i j => decide (i < j))) := by
  intro pins s σ H x y v u Q I rx ry h
  obtain ⟨m, S, d, d', r, h1, h2, q⟩ := h
  unfold ordD at q
  split at q
  · exact op_lt pins s σ H x y v u Q I rx ry ⟨_, _, of_int h1, of_int h2, q.ok r _ rv_bl⟩
  · exact q.elim
theorem od_le : OpR X (compareOp .LtE) (rD2 g E (ordD fun i j => decide (i ≤ j))) := by
  intro pins s σ H x y v u Q I rx ry h
  obtain ⟨m, S, d, d', r, h1, h2, q⟩ := h
  unfold ordD at q
  split at q
  · exact op_le pins s σ H x y v u Q I rx ry ⟨_, _, of_int h1, of_int h2, q.ok r _ rv_bl⟩
  · exact q.elim
theorem od_gt : OpR X (compareOp .Gt) (rD2 g E (ordD fun i j => decide (j < i))) := by
  intro pins s σ H x y v u Q I rx ry h
  obtain ⟨m, S, d, d', r, h1, h2, q⟩ := h
  unfold ordD at q
  split at q
  · exact op_gt pins s σ H x y v u Q I rx ry ⟨_, _, of_int h1, of_int h2, q.ok r _ rv_bl⟩
  · exact q.elim
theorem od_ge : OpR X (compareOp .GtE) (rD2 g E (ordD fun i j => decide (j ≤ i))) := by
  intro pins s σ H x y v u Q I rx ry h
  obtain ⟨m, S, d, d', r, h1, h2, q⟩ := h
  unfold ordD at q
  split at q
  · exact op_ge pins s σ H x y v u Q I rx ry ⟨_, _, of_int h1, of_int h2, q.ok r _ rv_bl⟩
  · exact q.elim
/-- is, of None and bools -/
def D.isNon : D → Bool
  | .non => true
  | _ => false
def isD (neg : Bool) (x y : D) (S : Sto) : R D := match y with
  | .non => .ok (.bl (neg != x.isNon)) S
  | .bl b => match x with
    | .bl a => .ok (.bl (neg != decide (a = b))) S
    | _ => .bad
  | _ => .bad
theorem isnon_run {m : Mp} {H : Hp} {d : D} {x : V} (h : RV g m H d x) : decide (x = .non) = d.isNon := by
  cases d with
  | non => rw [of_non h]; rfl
  | bl b => rw [of_bl h]; rfl
  | int b => rw [of_int h]; rfl
  | str b => rw [of_str h]; rfl
  | ty b => rw [of_ty h]; rfl
  | tup ds => obtain ⟨a, vs, rfl, _⟩ := of_tup h; rfl
  | ctp ds => obtain ⟨a, vs, rfl, _⟩ := of_ctp h; rfl
  | ref n => obtain ⟨a, _, rfl, _⟩ := of_ref h; rfl
  | kref n => obtain ⟨a, rfl, _⟩ := of_kref h; rfl
  | lst ds => obtain ⟨a, vs, rfl, _⟩ := of_lst h; rfl
  | dic ks ds => obtain ⟨a, vs, rfl, _⟩ := of_dic h; rfl
  | dct ks ds => obtain ⟨a, vs, rfl, _⟩ := of_dct h; rfl
  | obj c ns ds => obtain ⟨a, C, dx, fs, rfl, _⟩ := of_obj h; rfl
  | scr ns => obtain ⟨a, rfl, _⟩ := of_scr h; rfl
theorem od_is : OpR X (compareOp .Is) (rD2 g E (isD false)) := by
  intro pins s σ H x y v u Q I rx ry h
  obtain ⟨m, S, d, d', r, h1, h2, q⟩ := h
  unfold isD at q
  split at q
  · exact op_isN pins s σ H x y v u Q I rx ry ⟨of_non h2, by rw [isnon_run h1]; exact q.ok r _ (by simp [rv_bl])⟩
  · split at q
    · exact op_isBl pins s σ H x y v u Q I rx ry ⟨_, _, of_bl h1, of_bl h2, q.ok r _ (by simp [rv_bl])⟩
    · exact q.elim
  · exact q.elim
theorem od_isnot : OpR X (compareOp .IsNot) (rD2 g E (isD true)) := by
  intro pins s σ H x y v u Q I rx ry h
  obtain ⟨m, S, d, d', r, h1, h2, q⟩ := h
  unfold isD at q
  split at q
  · exact op_notN pins s σ H x y v u Q I rx ry ⟨of_non h2, by rw [isnon_run h1]; exact q.ok r _ (by simp [rv_bl])⟩
  · split at q
    · exact op_notBl pins s σ H x y v u Q I rx ry ⟨_, _, of_bl h1, of_bl h2, q.ok r _ (by simp [rv_bl])⟩
    · exact q.elim
  · exact q.elim

/-! == of data -/
def mapO (f : D → Option PyData) : List D → Option (List PyData)
  | [] => some []
  | d :: ds => match f d, mapO f ds with
    | some p, some ps => some (p :: ps)
    | _, _ => none
def toP (S : Sto) : Nat → D → Option PyData
  | 0 => fun _ => none
  | k + 1 => fun d => match d with
    | .non => some .none
    | .bl b => some (.bool b)
    | .int i => some (.int i)
    | .str x => some (.str x)
    | .tup ds => (mapO (toP S k) ds).map .tuple
    | .lst ds => (mapO (toP S k) ds).map .list
    | .ref n => match S[n]? with
      | some (.lst ds) => (mapO (toP S k) ds).map .list
      | _ => none
    | _ => none
theorem mapO_run {g : G} {m : Mp} {H : Hp} {f : D → Option PyData} (hf : ∀ {d : D} {v : V} {p : PyData}, RV g m H d v → f d = some p → Dp g.K H v p) : ∀ {ds : List D} {vs : List V} {ps : List PyData}, RVs g m H ds vs → mapO f ds = some ps → DpAll g.K H vs ps
  | [], vs, ps, h, e => by rw [h.nil_iff]; simp [mapO] at e; subst e; exact .nil
  | d :: ds, vs, ps, h, e => by
    obtain ⟨v, rr, rfl, h1, h2⟩ := h.cons_iff
    simp only [mapO] at e
    split at e
    · rename_i p ps' e1 e2
      cases e
      exact .cons (hf h1 e1) (mapO_run hf h2 e2)
    · cases e
theorem toP_run {g : G} {m : Mp} {S : Sto} {H : Hp} (r : Rel g m S H) : ∀ (k : Nat) {d : D} {v : V} {p : PyData}, RV g m H d v → toP S k d = some p → Dp g.K H v p
  | 0, d, v, p, _, e => by simp [toP] at e
  | k + 1, d, v, p, h, e => by
    cases d with
    | non => simp [toP] at e; subst e; rw [of_non h]; exact .non
    | bl b => simp [toP] at e; subst e; rw [of_bl h]; exact .bl b
    | int b => simp [toP] at e; subst e; rw [of_int h]; exact .int b
    | str b => simp [toP] at e; subst e; rw [of_str h]; exact .str b
    | ctp ds => simp [toP] at e
    | tup ds =>
      simp [toP] at e
      obtain ⟨ps, e1, rfl⟩ := e
      obtain ⟨a, vs, rfl, h1, h2⟩ := of_tup h
      exact .tup h1 (mapO_run (fun h e => toP_run r k h e) h2 e1)
    | lst ds =>
      simp [toP] at e
      obtain ⟨ps, e1, rfl⟩ := e
      obtain ⟨a, vs, rfl, h1, _, h2⟩ := of_lst h
      exact .lst (.of h1) (mapO_run (fun h e => toP_run r k h e) h2 e1)
    | ref n =>
      simp only [toP] at e
      split at e
      · rename_i ds e0
        simp at e
        obtain ⟨ps, e1, rfl⟩ := e
        obtain ⟨a, vs, rfl, _, h1, h2⟩ := lst_ref r h e0
        exact .lst (.of h1) (mapO_run (fun h e => toP_run r k h e) h2 e1)
      · cases e
    | ty b => simp [toP] at e
    | kref n => simp [toP] at e
    | dic _ _ => simp [toP] at e
    | dct _ _ => simp [toP] at e
    | obj _ _ _ => simp [toP] at e
    | scr _ => simp [toP] at e
def eqD (neg : Bool) (x y : D) (S : Sto) : R D := match x, y with
  | .int i, .int j => .ok (.bl (neg != decide (i = j))) S
  | .str i, .str j => .ok (.bl (neg != decide (i = j))) S
  | .bl i, .bl j => .ok (.bl (neg != decide (i = j))) S
  | x, y => match toP S 65 x, toP S 65 y with
    | some p, some q => if SeqAt.shaped p = true ∧ SeqAt.shaped q = true then .ok (.bl (neg != PyData.eqv p q)) S else .bad
    | _, _ => .bad
theorem od_eq (hK : X.K = g.K) (hu : X.A.units + 64 < cLine) : OpR X (compareOp .Eq) (rD2 g E (eqD false )) := by
  intro pins s σ H x y v u Q I rx ry h
  obtain ⟨m, S, d, d', r, h1, h2, q⟩ := h
  unfold eqD at q
  split at q
  · cases of_int h1
    cases of_int h2
    exact op_eq pins s σ H _ _ v u Q I rx ry ⟨rfl, q.ok r _ (by simp [RV])⟩
  · cases of_str h1
    cases of_str h2
    exact op_eq pins s σ H _ _ v u Q I rx ry ⟨rfl, q.ok r _ (by simp [RV])⟩
  · cases of_bl h1
    cases of_bl h2
    exact op_eq pins s σ H _ _ v u Q I rx ry ⟨rfl, q.ok r _ (by simp [RV])⟩
  · split at q
    · rename_i p p' e1 e2
      split at q
      · rename_i hs
        refine op_eqD hu pins s σ H _ _ v u Q I rx ry ⟨p, p', by rw [hK]; exact toP_run r _ h1 e1, by rw [hK]; exact toP_run r _ h2 e2, hs.1, hs.2, q.ok r _ (by simp [rv_bl])⟩
      · exact q.elim
    · exact q.elim
theorem od_ne (hK : X.K = g.K) (hu : X.A.units + 64 < cLine) : OpR X (compareOp .NotEq) (rD2 g E (eqD true )) := by
  intro pins s σ H x y v u Q I rx ry h
  obtain ⟨m, S, d, d', r, h1, h2, q⟩ := h
  unfold eqD at q
  split at q
  · cases of_int h1
    cases of_int h2
    exact op_ne pins s σ H _ _ v u Q I rx ry ⟨rfl, q.ok r _ (by simp [RV])⟩
  · cases of_str h1
    cases of_str h2
    exact op_ne pins s σ H _ _ v u Q I rx ry ⟨rfl, q.ok r _ (by simp [RV])⟩
  · cases of_bl h1
    cases of_bl h2
    exact op_ne pins s σ H _ _ v u Q I rx ry ⟨rfl, q.ok r _ (by simp [RV])⟩
  · split at q
    · rename_i p p' e1 e2
      split at q
      · rename_i hs
        refine op_neD hu pins s σ H _ _ v u Q I rx ry ⟨p, p', by rw [hK]; exact toP_run r _ h1 e1, by rw [hK]; exact toP_run r _ h2 e2, hs.1, hs.2, q.ok r _ (by simp [rv_bl])⟩
      · exact q.elim
    · exact q.elim

/-! subscripts -/
def ixD (x y : D) (S : Sto) : R D := match y with
  | .int i => match x with
    | .tup ds => match atI ds i with
      | some d => .ok d S
      | none => .bad
    | .str z => if z.length ≤ sizeLine then (match atI z.cps.toList i with
      | some c => .ok (.str ⟨#[c]⟩) S
      | none => .bad) else .bad
    | x => match lstOf x S with
      | some ds => match atI ds i with
        | some d => .ok d S
        | none => .bad
      | none => .bad
  | _ => .bad
theorem at_run {g : G} {m : Mp} {H : Hp} {ds : List D} {vs : List V} (h : RVs g m H ds vs) {i : Int} {d : D} (e : atI ds i = some d) : ∃ v, atI vs i = some v ∧ RV g m H d v := by
  unfold atI at e ⊢
  rw [h.length]
  cases q : ixN ds.length i with
  | none => rw [q] at e; cases e
  | some j =>
    rw [q] at e
    exact h.get e
theorem xd_ix (hK : X.K = g.K) : IxR X (rD2 g E (ixD )) := by
  intro value slice pins s σ H x y v u Q I rx ry h hs
  obtain ⟨m, S, d, d', r, h1, h2, q⟩ := h
  unfold ixD at q
  split at q
  · rename_i i
    split at q
    · split at q
      · rename_i e
        obtain ⟨a, vs, rfl, s1, v1⟩ := of_tup h1
        obtain ⟨w, e1, e2⟩ := at_run v1 e
        exact ix_tup value slice pins s σ H _ _ v u Q I rx ry ⟨a, vs, _, w, rfl, of_int h2, by rw [hK]; exact s1, e1, q.ok r _ e2⟩ hs
      · exact q.elim
    · split at q
      · rename_i hz
        split at q
        · rename_i e
          exact ix_str value slice pins s σ H _ _ v u Q I rx ry ⟨_, _, _, of_str h1, of_int h2, hz, e, q.ok r _ rv_str⟩ hs
        · exact q.elim
      · exact q.elim
    · split at q
      · rename_i e0
        split at q
        · rename_i e
          obtain ⟨a, vs, rfl, s1, v1⟩ := lst_run r h1 e0
          obtain ⟨w, e1, e2⟩ := at_run v1 e
          exact ix_list value slice pins s σ H _ _ v u Q I rx ry ⟨a, vs, _, w, rfl, of_int h2, by rw [hK]; exact s1, e1, q.ok r _ e2⟩ hs
        · exact q.elim
      · exact q.elim
  · exact q.elim
def setD (x y z : D) (S : Sto) : R Unit := match x, y with
  | .ref n, .int k => match S[n]? with
    | some (.lst ds) => match ixN ds.length k with
      | some j => .ok () (S.set n (.lst (ds.set j z)))
      | none => .bad
    | _ => .bad
  | _, _ => .bad
theorem sd_set : PSet X (rSet g E setD) := by
  intro pins s σ H o i v ov iv u Q I ro ri rv h
  obtain ⟨m, S, d1, d2, d3, r, h1, h2, h3, q⟩ := h
  unfold setD at q
  split at q
  · split at q
    · rename_i ds e0
      split at q
      · rename_i j e1
        obtain ⟨a, vs, rfl, ha, H1, v1⟩ := lst_ref r h1 e0
        refine set_list pins s σ H _ _ v ov iv u Q I ro ri rv ⟨a, vs, _, j, rfl, of_int h2, H1, by rw [v1.length]; exact e1, ?_⟩
        exact q.at (ext_set r ha e0) (r.set ha e0 ⟨_, rfl, v1.set j h3⟩)
      · exact q.elim
    · exact q.elim
  · exact q.elim

/-! slices -/
def pNo : Lc → Sto → R (Option Int) := fun _ S => .ok none S
def pSo (e : Lc → Sto → R D) : Lc → Sto → R (Option Int) := fun L S => (e L S).bind fun d S1 => match d with
  | .int i => .ok (some i) S1
  | _ => .bad
def cutD (xs : List D) (lo hi : Option Int) : List D := (xs.drop (HT.sIx xs.length 0 lo)).take (HT.sIx xs.length xs.length hi - HT.sIx xs.length 0 lo)
theorem RVs.cut {g : G} {m : Mp} {H : Hp} {ds : List D} {vs : List V} (h : RVs g m H ds vs) (lo hi : Option Int) : RVs g m H (cutD ds lo hi) (cutV vs lo hi) := by
  unfold cutD cutV
  rw [h.length]
  exact (h.drop _).take _
def slD (x : D) (lo hi : Option Int) (S : Sto) : R D := match x with
  | .tup ds => .ok (.tup (cutD ds lo hi)) S
  | .str z => if z.length ≤ sizeLine then .ok (.str (cutS z lo hi)) S else .bad
  | x => match lstOf x S with
    | some ds => newL (cutD ds lo hi) S
    | none => .bad
def eSl (e : Lc → Sto → R D) (lo hi : Lc → Sto → R (Option Int)) : Lc → Sto → R D := fun L S => (e L S).bind fun x S1 => (lo L S1).bind fun l S2 => (hi L S2).bind fun h S3 => slD x l h S3
def tP (g : G) (E : XD) (e : Lc → Sto → R (Option Int)) : TO := fun σ H Q => ∃ m S L, Rel g m S H ∧ RL g m H L σ ∧ Aft g E m H (e L S) fun o _ _ H' => Q o H'
theorem dp_none : PO X none (tP g E pNo) := by
  refine ⟨fun pins s σ H Q I h => ?_⟩
  obtain ⟨m, S, L, r, l, q⟩ := h
  exact po_none.run pins s σ H Q I (q.ok r)
theorem dp_some {e : Expr} {ea : Lc → Sto → R D} (he : PE X e (tD g E ea)) : PO X (some e) (tP g E (pSo ea)) := by
  refine ⟨fun pins s σ H Q I h => ?_⟩
  refine (po_some he).run pins s σ H Q I ?_
  obtain ⟨m, S, L, r, l, q⟩ := h
  refine ⟨m, S, L, r, l, (Aft.bind q).mono fun d m1 S1 H1 e1 r1 q1 v rv => ?_⟩
  split at q1
  · exact ⟨_, of_int rv, q1.ok r1⟩
  · exact q1.elim
def rSl (g : G) (E : XD) (f : D → Option Int → Option Int → Sto → R D) : V → Option Int → Option Int → Hp → VK → Prop := fun x lo hi H Q => ∃ m S d, Rel g m S H ∧ RV g m H d x ∧ Aft g E m H (f d lo hi S) (vQ g Q)
theorem sx_sl (hK : X.K = g.K) : SlR X (rSl g E (slD )) := by
  intro pins s σ H x v vl vu lo hi sl Q I rx hs pl pu h
  obtain ⟨m, S, d, r, h1, q⟩ := h
  unfold slD at q
  split at q
  · rename_i ds
    obtain ⟨a, vs, rfl, t1, v1⟩ := of_tupv h1
    have s1 := t1.sq
    refine sl_tupA pins s σ H _ v vl vu lo hi sl Q I rx hs pl pu ⟨a, vs, rfl, by rw [hK]; exact s1, fun hw => ?_, fun _ p hp => ?_⟩
    · have : cutD ds lo hi = ds := by
        unfold cutD
        rw [v1.length] at hw
        rw [hw.1, hw.2]
        simp
      rw [this] at q
      exact q.ok r _ (rv_tupv t1 v1)
    · exact q.at (ext_lay r hp) (r.lay hp) _ (rv_tupv ⟨upd_same, r.un hp⟩ ((v1.cut lo hi).ext (ext_lay r hp)))
  · split at q
    · rename_i hz
      exact sl_str pins s σ H _ v vl vu lo hi sl Q I rx hs pl pu ⟨_, of_str h1, hz, q.ok r _ rv_str⟩
    · exact q.elim
  · split at q
    · rename_i ds e0
      obtain ⟨a, vs, rfl, s1, v1⟩ := lst_run r h1 e0
      obtain ⟨_, q'⟩ := newL_run q r (v1.cut lo hi)
      exact sl_list pins s σ H _ v vl vu lo hi sl Q I rx hs pl pu ⟨a, vs, rfl, by rw [hK]; exact s1, q'⟩
    · exact q.elim
theorem de_sl {e : Expr} {lo hi : Option Expr} {p2 pos : Pos} {ea : Lc → Sto → R D} {el eh : Lc → Sto → R (Option Int)} (hK : X.K = g.K) (he : PE X e (tD g E ea)) (hl : PO X lo (tP g E el)) (hu : PO X hi (tP g E eh)) : PE X (.Subscript e (.Slice lo hi none p2) pos) (tD g E (eSl  ea el eh)) := by
  refine (pe_slice (sx_sl (E := E) hK) he hl hu).imp fun σ H Q h => ?_
  obtain ⟨m, S, L, r, l, q⟩ := h
  refine ⟨m, S, L, r, l, (Aft.bind q).mono fun d m1 S1 H1 e1 r1 q1 v rv => ?_⟩
  refine ⟨m1, S1, L, r1, l.ext e1, (Aft.bind q1).mono fun lo m2 S2 H2 e2 r2 q2 => ?_⟩
  refine ⟨m2, S2, L, r2, l.ext (e1.trans e2), (Aft.bind q2).mono fun hi m3 S3 H3 e3 r3 q3 => ?_⟩
  exact ⟨m3, S3, d, r3, rv.ext (e2.trans e3), q3⟩
end
end VL

namespace VL
open PySem PySem.Spec PyProof.Rows L2
section
variable {X : Cx} {g : G} {E : XD}
theorem rvs1 {m : Mp} {H : Hp} {d : D} {vs : List V} (h : RVs g m H [d] vs) : ∃ v, vs = [v] ∧ RV g m H d v := by
  obtain ⟨v, r, rfl, h1, h2⟩ := h.cons_iff
  rw [h2.nil_iff]
  exact ⟨v, rfl, h1⟩
theorem rvs2 {m : Mp} {H : Hp} {d d' : D} {vs : List V} (h : RVs g m H [d, d'] vs) : ∃ v v', vs = [v, v'] ∧ RV g m H d v ∧ RV g m H d' v' := by
  obtain ⟨v, r, rfl, h1, h2⟩ := h.cons_iff
  obtain ⟨v', rfl, h3⟩ := rvs1 h2
  exact ⟨v, v', rfl, h1, h3⟩
/-! len, abs, int, min, max, tuple, list, sum, all, any -/
def lenD (ds : List D) (S : Sto) : R D := match ds with
  | [.str z] => if z.length ≤ sizeLine then .ok (.int z.length) S else .bad
  | [.tup ds] => .ok (.int ds.length) S
  | [x] => match lstOf x S with
    | some ds => .ok (.int ds.length) S
    | none => .bad
  | _ => .bad
theorem cd_len (hK : X.K = g.K) : CallR X (.builtin "len") (rDs g E (lenD)) := by
  intro pins s σ H xs us Q I r h
  obtain ⟨m, S, ds, rl, h1, q⟩ := h
  unfold lenD at q
  split at q
  · split at q
    · rename_i hz
      obtain ⟨v, rfl, h2⟩ := rvs1 h1
      exact call_len_str pins s σ H _ us Q I r ⟨_, by rw [of_str h2], hz, q.ok rl _ rv_int⟩
    · exact q.elim
  · obtain ⟨v, rfl, h2⟩ := rvs1 h1
    obtain ⟨a, vs, rfl, s1, v1⟩ := of_tup h2
    exact call_len_seq pins s σ H _ us Q I r ⟨a, vs, rfl, .inr (by rw [hK]; exact s1), by rw [v1.length]; exact q.ok rl _ rv_int⟩
  · split at q
    · rename_i e
      obtain ⟨v, rfl, h2⟩ := rvs1 h1
      obtain ⟨a, vs, rfl, s1, v1⟩ := lst_run rl h2 e
      exact call_len_seq pins s σ H _ us Q I r ⟨a, vs, rfl, .inl (by rw [hK]; exact s1), by rw [v1.length]; exact q.ok rl _ rv_int⟩
    · exact q.elim
  · exact q.elim
def absD (ds : List D) (S : Sto) : R D := match ds with
  | [.int i] => .ok (.int (if i < 0 then -i else i)) S
  | _ => .bad
theorem cd_abs : CallR X (.builtin "abs") (rDs g E absD) := by
  intro pins s σ H xs us Q I r h
  obtain ⟨m, S, ds, rl, h1, q⟩ := h
  unfold absD at q
  split at q
  · obtain ⟨v, rfl, h2⟩ := rvs1 h1
    exact call_abs pins s σ H _ us Q I r ⟨_, by rw [of_int h2], q.ok rl _ rv_int⟩
  · exact q.elim
def intD (ds : List D) (S : Sto) : R D := match ds with
  | [.int i] => .ok (.int i) S
  | [.bl k] => .ok (.int (if k = true then 1 else 0)) S
  | _ => .bad
theorem cd_int : CallR X (.type "int") (rDs g E intD) := by
  intro pins s σ H xs us Q I r h
  obtain ⟨m, S, ds, rl, h1, q⟩ := h
  unfold intD at q
  split at q
  · obtain ⟨v, rfl, h2⟩ := rvs1 h1
    exact call_int1 pins s σ H _ us Q I r (.inl ⟨_, by rw [of_int h2], q.ok rl _ rv_int⟩)
  · obtain ⟨v, rfl, h2⟩ := rvs1 h1
    exact call_int1 pins s σ H _ us Q I r (.inr ⟨_, by rw [of_bl h2], q.ok rl _ rv_int⟩)
  · exact q.elim
def max2D (ds : List D) (S : Sto) : R D := match ds with
  | [.int i, .int j] => .ok (.int (if j > i then j else i)) S
  | _ => .bad
def min2D (ds : List D) (S : Sto) : R D := match ds with
  | [.int i, .int j] => .ok (.int (if j < i then j else i)) S
  | _ => .bad
theorem cd_max2 (hc : X.calm = true) : CallR X (.builtin "max") (rDs g E max2D) := by
  intro pins s σ H xs us Q I r h
  obtain ⟨m, S, ds, rl, h1, q⟩ := h
  unfold max2D at q
  split at q
  · obtain ⟨v, v', rfl, h2, h3⟩ := rvs2 h1
    exact call_max2 hc pins s σ H _ us Q I r ⟨_, _, by rw [of_int h2, of_int h3], q.ok rl _ rv_int⟩
  · exact q.elim
theorem cd_min2 (hc : X.calm = true) : CallR X (.builtin "min") (rDs g E min2D) := by
  intro pins s σ H xs us Q I r h
  obtain ⟨m, S, ds, rl, h1, q⟩ := h
  unfold min2D at q
  split at q
  · obtain ⟨v, v', rfl, h2, h3⟩ := rvs2 h1
    exact call_min2 hc pins s σ H _ us Q I r ⟨_, _, by rw [of_int h2, of_int h3], q.ok rl _ rv_int⟩
  · exact q.elim
def tupleD (ds : List D) (S : Sto) : R D := match ds with
  | [.tup ds] => .ok (.tup ds) S
  | [x] => match lstOf x S with
    | some ds => .ok (.tup ds) S
    | none => .bad
  | _ => .bad
theorem cd_tuple (hK : X.K = g.K) : CallR X (.type "tuple") (rDs g E (tupleD)) := by
  intro pins s σ H xs us Q I r h
  obtain ⟨m, S, ds, rl, h1, q⟩ := h
  unfold tupleD at q
  split at q
  · obtain ⟨v, rfl, h2⟩ := rvs1 h1
    obtain ⟨a, vs, rfl, t1, v1⟩ := of_tupv h2
    exact call_tuple_of pins s σ H _ us Q I r ⟨a, vs, rfl, .inr ⟨by rw [hK]; exact t1.sq, q.ok rl _ (rv_tupv t1 v1)⟩⟩
  · split at q
    · rename_i e
      obtain ⟨v, rfl, h2⟩ := rvs1 h1
      obtain ⟨a, vs, rfl, s1, v1⟩ := lst_run rl h2 e
      exact call_tuple_of pins s σ H _ us Q I r ⟨a, vs, rfl, .inl ⟨by rw [hK]; exact s1, fun p hp => q.at (ext_lay rl hp) (rl.lay hp) _ (rv_tupv ⟨upd_same, rl.un hp⟩ (v1.ext (ext_lay rl hp)))⟩⟩
    · exact q.elim
  · exact q.elim
def ints? : List D → Option (List Int)
  | [] => some []
  | .int i :: ds => (ints? ds).map (i :: ·)
  | _ :: _ => none
theorem ints_run {m : Mp} {H : Hp} : ∀ {ds : List D} {vs : List V} {ns : List Int}, RVs g m H ds vs → ints? ds = some ns → vs = ns.map V.int
  | [], vs, ns, h, e => by rw [h.nil_iff]; simp [ints?] at e; subst e; rfl
  | d :: ds, vs, ns, h, e => by
    obtain ⟨v, r, rfl, h1, h2⟩ := h.cons_iff
    cases d with
    | int i =>
      simp [ints?] at e
      obtain ⟨ns', e1, rfl⟩ := e
      rw [of_int h1, ints_run h2 e1]
      rfl
    | _ => simp [ints?] at e
def bls? : List D → Option (List Bool)
  | [] => some []
  | .bl i :: ds => (bls? ds).map (i :: ·)
  | _ :: _ => none
theorem bls_run {m : Mp} {H : Hp} : ∀ {ds : List D} {vs : List V} {ns : List Bool}, RVs g m H ds vs → bls? ds = some ns → vs = ns.map V.bl
  | [], vs, ns, h, e => by rw [h.nil_iff]; simp [bls?] at e; subst e; rfl
  | d :: ds, vs, ns, h, e => by
    obtain ⟨v, r, rfl, h1, h2⟩ := h.cons_iff
    cases d with
    | bl i =>
      simp [bls?] at e
      obtain ⟨ns', e1, rfl⟩ := e
      rw [of_bl h1, bls_run h2 e1]
      rfl
    | _ => simp [bls?] at e
def sumD (ds : List D) (S : Sto) : R D := match ds with
  | [x] => match lstOf x S with
    | some ds => match ints? ds with
      | some ns => .ok (.int ns.sum) S
      | none => .bad
    | none => .bad
  | _ => .bad
theorem cd_sum (hK : X.K = g.K) (hc : X.calm = true) : CallR X (.builtin "sum") (rDs g E (sumD)) := by
  intro pins s σ H xs us Q I r h
  obtain ⟨m, S, ds, rl, h1, q⟩ := h
  unfold sumD at q
  split at q
  · split at q
    · rename_i e
      split at q
      · rename_i e2
        obtain ⟨v, rfl, h2⟩ := rvs1 h1
        obtain ⟨a, vs, rfl, s1, v1⟩ := lst_run rl h2 e
        exact cr_sum hc pins s σ H _ us Q I r ⟨a, _, rfl, by rw [hK, ← ints_run v1 e2]; exact s1, q.ok rl _ rv_int⟩
      · exact q.elim
    · exact q.elim
  · exact q.elim
def allD (ds : List D) (S : Sto) : R D := match ds with
  | [x] => match lstOf x S with
    | some ds => match bls? ds with
      | some ns => .ok (.bl (ns.all id)) S
      | none => .bad
    | none => .bad
  | _ => .bad
theorem cd_all (hK : X.K = g.K) (hc : X.calm = true) : CallR X (.builtin "all") (rDs g E (allD)) := by
  intro pins s σ H xs us Q I r h
  obtain ⟨m, S, ds, rl, h1, q⟩ := h
  unfold allD at q
  split at q
  · split at q
    · rename_i e
      split at q
      · rename_i e2
        obtain ⟨v, rfl, h2⟩ := rvs1 h1
        obtain ⟨a, vs, rfl, s1, v1⟩ := lst_run rl h2 e
        exact cr_all hc pins s σ H _ us Q I r ⟨a, _, rfl, by rw [hK, ← bls_run v1 e2]; exact s1, q.ok rl _ rv_bl⟩
      · exact q.elim
    · exact q.elim
  · exact q.elim
def anyD (ds : List D) (S : Sto) : R D := match ds with
  | [x] => match lstOf x S with
    | some ds => match bls? ds with
      | some ns => .ok (.bl (ns.any id)) S
      | none => .bad
    | none => .bad
  | _ => .bad
theorem cd_any (hK : X.K = g.K) (hc : X.calm = true) : CallR X (.builtin "any") (rDs g E (anyD)) := by
  intro pins s σ H xs us Q I r h
  obtain ⟨m, S, ds, rl, h1, q⟩ := h
  unfold anyD at q
  split at q
  · split at q
    · rename_i e
      split at q
      · rename_i e2
        obtain ⟨v, rfl, h2⟩ := rvs1 h1
        obtain ⟨a, vs, rfl, s1, v1⟩ := lst_run rl h2 e
        exact cr_any hc pins s σ H _ us Q I r ⟨a, _, rfl, by rw [hK, ← bls_run v1 e2]; exact s1, q.ok rl _ rv_bl⟩
      · exact q.elim
    · exact q.elim
  · exact q.elim
/-! isinstance of a built-in class -/
inductive Tg where
  | non | bl | int | str | lst | tup | dic
def Tg.nm : Tg → String
  | .non => "NoneType" | .bl => "bool" | .int => "int" | .str => "str" | .lst => "list" | .tup => "tuple" | .dic => "dict"
def tgD (d : D) (S : Sto) : Option Tg := match d with
  | .non => some .non
  | .bl _ => some .bl
  | .int _ => some .int
  | .str _ => some .str
  | .tup _ => some .tup
  | .lst _ => some .lst
  | .dic _ _ => some .dic
  | .ref n => match S[n]? with
    | some (.lst _) => some .lst
    | some (.dic _ _) => some .dic
    | some (.dct _ _) => some .dic
    | some (.dlk _ _) => some .dic
    | _ => none
  | _ => none
inductive Ki where
  | int | bool | str | tuple | list | dict
def Ki.nm : Ki → String
  | .int => "int" | .bool => "bool" | .str => "str" | .tuple => "tuple" | .list => "list" | .dict => "dict"
def isTg : Tg → Ki → Bool
  | .int, .int => true | .bl, .int => true | .bl, .bool => true | .str, .str => true | .tup, .tuple => true | .lst, .list => true | .dic, .dict => true
  | _, _ => false
theorem isTg_ok : ∀ (t : Tg) (k : Ki), kitB t.nm k.nm = some (isTg t k) := by
  intro t k
  cases t <;> cases k <;> decide +kernel
theorem tg_run {m : Mp} {S : Sto} {H : Hp} (r : Rel g m S H) {d : D} {v : V} (rv : RV g m H d v) {t : Tg} (e : tgD d S = some t) : TyX g.K H v (.type t.nm) := by
  unfold tgD at e
  cases d with
  | non => cases e; rw [of_non rv]; exact .base .non
  | bl b => cases e; rw [of_bl rv]; exact .base (.bl b)
  | int b => cases e; rw [of_int rv]; exact .base (.int b)
  | str b => cases e; rw [of_str rv]; exact .base (.str b)
  | tup ds =>
    cases e
    obtain ⟨a, vs, rfl, s1, v1⟩ := of_tup rv
    rcases s1 with (h | ⟨o, h⟩) | ⟨o, its, n, h1, h2, _⟩
    · exact .base (.tup h)
    · exact .fTuple h
    · exact .kTuple h1 h2
  | lst ds =>
    cases e
    obtain ⟨a, vs, rfl, h1, _⟩ := of_lst rv
    exact .base (.lst h1)
  | dic ks ds =>
    cases e
    obtain ⟨a, kvs, rfl, h1 | ⟨od, h1⟩, _⟩ := of_dic rv
    · exact .base (.dK h1)
    · exact .fDict h1
  | ref n =>
    simp only at e
    split at e
    · cases e
      rename_i e0
      obtain ⟨a, o, rfl, _, h1, vs, rfl, h2⟩ := r.at rv e0 (by intro z; cases z)
      exact .base (.lst h1)
    · cases e
      rename_i e0
      obtain ⟨a, o, rfl, _, h1, vs, rfl, h2, _⟩ := r.at rv e0 (by intro z; cases z)
      exact .base (.dK h1)
    · cases e
      rename_i e0
      obtain ⟨a, o, rfl, _, h1, vs, rfl, h2, _⟩ := r.at rv e0 (by intro z; cases z)
      exact .base (.dT h1)
    · cases e
      rename_i e0
      obtain ⟨a, o, rfl, _, h1, od, vs, rfl, h2, _⟩ := r.at rv e0 (by intro z; cases z)
      exact .fDict h1
    · cases e
  | _ => cases e
def isiD (k : Ki) (x : D) (S : Sto) : R D := match tgD x S with
  | some t => .ok (.bl (isTg t k)) S
  | none => .bad
theorem de_isi {a : Expr} {ea : Lc → Sto → R D} {p p2 pos : Pos} {x : Str} (k : Ki) (hK : X.K = g.K) (hgi : Gl X "isinstance") (hmi : X.mg "isinstance" = none) (hg : Gl X x) (hm : X.mg x = none) (hv : bootBuiltins x = some (.type k.nm)) (ha : PE X a (tD g E ea))
    (hn : x ≠ "__name__" := by decide) (hdb : (x == ("__debug__" : Str)) = false := by decide) (he : starEach [a, .Name x p2] X.env = [(false, eval a X.env), (false, eval (.Name x p2) X.env)] := by rfl) (hs2 : starEach [Expr.Name x p2] X.env = [(false, eval (.Name x p2) X.env)] := by rfl) :
    PE X (.Call (.Name "isinstance" p) [a, .Name x p2] [] pos) (tD g E (eUn (isiD k) ea)) := by
  refine (pe_callB call_isi hgi hmi (by decide +kernel) (pa_cons ha (pa_cons (pe_bltn (v := .ty k.nm) hg hm hv rfl hn hdb) pa_nil hs2) (by rw [he, hs2])) (by decide) (by decide) (by rw [he, hs2]) (by rw [hs2]; rfl)).imp fun σ H Q h => ?_
  obtain ⟨m, S, L, r, l, q⟩ := h
  refine ⟨m, S, L, r, l, (Aft.bind q).mono fun d m1 S1 H1 e1 r1 q1 v rv => ?_⟩
  unfold isiD at q1
  split at q1
  · rename_i t e
    exact ⟨v, .ty k.nm, .type t.nm, .type k.nm, isTg t k, rfl, .ty _, by rw [hK]; exact tg_run r1 rv e, kit_ty (isTg_ok t k), q1.ok r1 _ rv_bl⟩
  · exact q1.elim

/-! what is walked -/
def rngL (lo : Int) (n : Nat) : List D := (List.range n).map fun (i : Nat) => D.int (lo + (i : Int))
theorem rngL_get (lo : Int) (n i : Nat) : (rngL lo n)[i]? = if i < n then some (.int (lo + (i : Int))) else none := by
  unfold rngL
  rw [List.getElem?_map]
  by_cases h : i < n
  · rw [if_pos h, List.getElem?_range h]; rfl
  · rw [if_neg h, List.getElem?_eq_none (by simpa using h)]; rfl
def wRng1 (a : Lc → Sto → R (List D)) : Lc → Sto → R Wk := fun L S => (a L S).bind fun ds S1 => match ds with
  | [.int j] => if -(2 ^ 62) ≤ j ∧ j < 2 ^ 62 then .ok ⟨rngL 0 j.toNat, fun _ => true⟩ S1 else .bad
  | _ => .bad
def wRng2 (a : Lc → Sto → R (List D)) : Lc → Sto → R Wk := fun L S => (a L S).bind fun ds S1 => match ds with
  | [.int i, .int j] => if (-(2 ^ 62) ≤ i ∧ i < 2 ^ 62) ∧ (-(2 ^ 62) ≤ j ∧ j < 2 ^ 62) then .ok ⟨rngL i (j - i).toNat, fun _ => true⟩ S1 else .bad
  | _ => .bad
theorem jd_rng (lo : Int) (n : Nat) (m0 : Mp) (H0 : Hp) : JD g (Itr lo n) ⟨rngL lo n, fun _ => true⟩ m0 H0 := by
  intro i m S H e r _
  have hg := rngL_get lo n i
  by_cases h : i < n
  · rw [if_pos h] at hg
    refine ⟨fun z => ?_, fun d hd => ⟨h, fun x H' y => ?_⟩⟩
    · have z' : (rngL lo n)[i]? = none := z
      rw [hg] at z'; cases z'
    · have z' : (rngL lo n)[i]? = some d := hd
      rw [hg] at z'
      cases z'
      obtain ⟨e1, e2⟩ := y
      subst e1 e2
      exact ⟨.refl, r, rv_int⟩
  · rw [if_neg h] at hg
    refine ⟨fun _ => Nat.le_of_not_lt h, fun d hd => ?_⟩
    have z' : (rngL lo n)[i]? = some d := hd
    rw [hg] at z'; cases z'
theorem di_rng1 {tg a : Expr} {p pos : Pos} {ls : Lc → Sto → R (List D)} (hg : Gl X "range") (hm : X.mg "range" = none) (ha : PA X [a] (tL g E ls)) (hs : starEach [a] X.env = [(false, eval a X.env)] := by rfl) : PI X tg (.Call (.Name "range" p) [a] [] pos) (tI g E (wRng1 ls)) := by
  refine (pi_range1 hg hm ha hs).imp fun σ H Q h => ?_
  obtain ⟨m, S, L, r, l, q⟩ := h
  refine ⟨m, S, L, r, l, (Aft.bind q).mono fun ds m1 S1 H1 e1 r1 q1 vs rvs => ?_⟩
  split at q1
  · split at q1
    · rename_i hz
      obtain ⟨v, rfl, h2⟩ := rvs1 rvs
      exact ⟨_, by rw [of_int h2], hz.1, hz.2, q1.ok r1 _ (jd_rng _ _ _ _)⟩
    · exact q1.elim
  · exact q1.elim
theorem di_rng2 {tg a b : Expr} {p pos : Pos} {ls : Lc → Sto → R (List D)} (hg : Gl X "range") (hm : X.mg "range" = none) (ha : PA X [a, b] (tL g E ls)) (hs : starEach [a, b] X.env = [(false, eval a X.env), (false, eval b X.env)] := by rfl) (hs2 : starEach [b] X.env = [(false, eval b X.env)] := by rfl) : PI X tg (.Call (.Name "range" p) [a, b] [] pos) (tI g E (wRng2 ls)) := by
  refine (pi_range2 hg hm ha hs hs2).imp fun σ H Q h => ?_
  obtain ⟨m, S, L, r, l, q⟩ := h
  refine ⟨m, S, L, r, l, (Aft.bind q).mono fun ds m1 S1 H1 e1 r1 q1 vs rvs => ?_⟩
  split at q1
  · split at q1
    · rename_i hz
      obtain ⟨v, v', rfl, h2, h3⟩ := rvs2 rvs
      exact ⟨_, _, by rw [of_int h2, of_int h3], ⟨hz.1.1, hz.1.2, hz.2.1, hz.2.2⟩, q1.ok r1 _ (jd_rng _ _ _ _)⟩
    · exact q1.elim
  · exact q1.elim
end
end VL

/-! zip of two tuples, its pairs given to one name -/
namespace DZ
open PySem PySem.Spec PyProof.Rows L2 RZ
abbrev ZG (h : Heap) (z TI TO : Addr) (f0 : Value) (f1 : Bool) : Prop :=
  h.get? z = some { cls := .type "zip", dict := none, data := .fields #[f0, .bool f1, .bool false, .ref TI, .ref TO], slots := #[] }
/-- what the zip keeps of its last pair -/
def Keeps (f0 : Value) (f1 : Bool) : Prop := (f0 = .none ∧ f1 = false) ∨ ∃ T : Nat, f0 = rawInt T
section
variable {prog : Program} {w : World} {A : Around} {E : Value → Shared → Prop} {s : Shared}
theorem dead {a : Addr} {Q : Option Obj → Shared → Prop} (ho : s.heap.get? a = none) (h : Q none s) : wpAny (model prog w) A (loadIfAlive a) Q E s := by
  have q : Q (s.heap.get? a) s := by rw [ho]; exact h
  exact fun _ _ _ => q
theorem free_of {z TI TO : Addr} {f0 : Value} {f1 : Bool} {Q : Bool → Shared → Prop} (hz : ZG s.heap z TI TO f0 f1) (k : Keeps f0 f1)
    (h1 : Q true s) (h2 : ∀ (h' : Heap) (T : Nat), ZG h' z TI TO (rawInt T) true → Heap.SameBut z s.heap h' → Q false { s with heap := h' }) : wpAny (model prog w) A (Builtin.SmallTypes.ownedTupleIsFree (.ref z)) Q E s := by
  rcases k with ⟨rfl, rfl⟩ | ⟨T, rfl⟩
  · unfold Builtin.SmallTypes.ownedTupleIsFree
    exact wpAny_bind (wpAny_field hz rfl (x := .none) rfl (wpAny_pure h1))
  · cases hT : s.heap.get? T with
    | none =>
      unfold Builtin.SmallTypes.ownedTupleIsFree
      refine wpAny_bind (wpAny_field hz rfl (x := rawInt T) rfl ?_)
      show wpAny _ _ (loadIfAlive ((T : Int).toNat) >>= _) _ _ _
      rw [Int.toNat_natCast]
      refine wpAny_bind (dead hT ?_)
      exact wpAny_pure h1
    | some oT => exact PySem.wpAny_tupleHeld_zip hz hT fun h' z' sb => h2 h' T z' sb
theorem next_item {z TI TO i1 i2 l1 l2 : Addr} {f0 : Value} {f1 : Bool} {k1 k2 : Nat} {xs ys : Array Value} {x y a b : Value} {Q : Value → Shared → Prop} (D : ZipApart z TI TO i1 i2 l1 l2)
    (hz : ZG s.heap z TI TO f0 f1) (k : Keeps f0 f1) (hTI : IsPair s.heap TI (.ref i1) (.ref i2)) (hTO : IsPair s.heap TO a b)
    (h1 : s.heap.IsTupleIter i1 l1 k1) (h2 : s.heap.IsTupleIter i2 l2 k2) (hl1 : s.heap.IsTuple l1 xs) (hl2 : s.heap.IsTuple l2 ys) (hx : xs[k1]? = some x) (hy : ys[k2]? = some y)
    (hQ : ∀ h' f0' f1', ZG h' z TI TO f0' f1' → Keeps f0' f1' → (∃ a b, IsPair h' TO a b) → h'.IsTupleIter i1 l1 (k1 + 1) → h'.IsTupleIter i2 l2 (k2 + 1) → IsPair h' s.heap.objs.size x y →
      (∀ c o, c ≠ z → c ≠ TO → c ≠ i1 → c ≠ i2 → s.heap.get? c = some o → h'.get? c = some o) → Q (.ref s.heap.objs.size) { s with heap := h' }) :
    wpAny (model prog w) A (Builtin.«zip.__next__» ⟨[.ref z], []⟩) (fun fin s' => ∃ v, fin = .done (.ret v) ∧ Q v s') E s := by
  show wpAny _ _ (field (.ref z) 2 >>= _) _ _ _
  refine wpAny_bind (wpAny_field hz rfl (x := .bool false) rfl ?_)
  show wpAny _ _ (field (.ref z) 3 >>= _) _ _ _
  refine wpAny_bind (wpAny_field hz rfl (x := .ref TI) rfl (wpAny_bind (wpAny_seqItems hTI rfl ?_)))
  show wpAny _ _ (Builtin.SmallTypes.ownedTupleIsFree (.ref z) >>= _) _ _ _
  refine wpAny_bind (free_of hz k ?_ fun g1 T z1 s1 => ?_)
  · simp only [if_true]
    refine wpAny_bind (wpAny_rule (wpAny_bind (wpAny_field hz rfl (x := .ref TO) rfl ?_)))
    refine wpAny_bind (wpAny_setField_rec hz (by simp) fun g1 z1 s1 => ?_)
    replace z1 : ZG g1 z TI TO .ellipsis f1 := z1
    refine wpAny_bind ?_
    simp only [List.zipIdx_cons, List.zipIdx_nil, List.forIn_cons, List.forIn_nil]
    refine wpAny_bind (wpAny_bind (wpAny_onRaise ?_))
    show wpAny _ _ (Builtin.SmallTypes.nextOf (.ref i1) >>= _) _ _ _
    refine wpAny_bind (nextOf_tuple_item (h1.extBut s1.extBut D.i1z) (hl1.extBut s1.extBut D.l1z) hx fun g2 a2 s2 => wpAny_pure ?_)
    have t2 : IsPair g2 TO a b := s2.extBut _ _ D.TOi1 (s1.extBut _ _ D.TOz hTO)
    refine wpAny_bind (wpAny_seqItems t2 rfl (wpAny_bind (wpAny_updateSeq_pair t2 fun g3 t3 s3 => ?_)))
    replace t3 : IsPair g3 TO x b := t3
    refine wpAny_bind (wpAny_letGo (wpAny_pure (wpAny_bind (wpAny_bind (wpAny_onRaise ?_)))))
    show wpAny _ _ (Builtin.SmallTypes.nextOf (.ref i2) >>= _) _ _ _
    refine wpAny_bind (nextOf_tuple_item (((h2.extBut s1.extBut D.i2z).extBut s2.extBut D.i12.symm).extBut s3.extBut D.TOi2.symm) (((hl2.extBut s1.extBut D.l2z).extBut s2.extBut D.l2i1).extBut s3.extBut D.l2TO) hy fun g4 b4 s4 => wpAny_pure ?_)
    have t4 : IsPair g4 TO x b := s4.extBut _ _ D.TOi2 t3
    refine wpAny_bind (wpAny_seqItems t4 rfl (wpAny_bind (wpAny_updateSeq_pair t4 fun g5 t5 s5 => ?_)))
    replace t5 : IsPair g5 TO x y := t5
    refine wpAny_bind (wpAny_letGo (wpAny_pure (wpAny_pure (wpAny_bind (wpAny_seqItems t5 rfl (wpAny_bind (wpAny_newTuple ?_)))))))
    have hsz : g5.objs.size = s.heap.objs.size := by rw [s5.1, s4.1, s3.1, s2.1, s1.1]
    have z5 : ZG g5 z TI TO .ellipsis f1 := s5.extBut _ _ D.TOz.symm (s4.extBut _ _ D.i2z.symm (s3.extBut _ _ D.TOz.symm (s2.extBut _ _ D.i1z.symm z1)))
    have k5 : ∀ c o, c ≠ z → c ≠ TO → c ≠ i1 → c ≠ i2 → s.heap.get? c = some o → g5.get? c = some o := fun c o c1 c2 c3 c4 e =>
      s5.extBut _ _ c2 (s4.extBut _ _ c4 (s3.extBut _ _ c2 (s2.extBut _ _ c3 (s1.extBut _ _ c1 e))))
    have a5 : g5.IsTupleIter i1 l1 (k1 + 1) := ((a2.extBut s3.extBut D.TOi1.symm).extBut s4.extBut D.i12).extBut s5.extBut D.TOi1.symm
    have b5 : g5.IsTupleIter i2 l2 (k2 + 1) := b4.extBut s5.extBut D.TOi2.symm
    have hzlt : z < g5.objs.size := Heap.lt_size z5
    show wpAny _ _ (Builtin.SmallTypes.ownedTupleHandOut (.ref z) (.ref g5.objs.size) >>= _) _ _ _
    refine wpAny_bind ?_
    unfold Builtin.SmallTypes.ownedTupleHandOut
    have z6 : ZG (g5.push { cls := .type "tuple", data := .seq #[x, y] }) z TI TO .ellipsis f1 := Heap.get?_push_of_some _ z5
    refine wpAny_bind (wpAny_setField_rec z6 (by simp) fun g7 z7 s7 => ?_)
    replace z7 : ZG g7 z TI TO (rawInt g5.objs.size) f1 := z7
    refine wpAny_setField_rec z7 (by simp) fun g8 z8 s8 => ?_
    replace z8 : ZG g8 z TI TO (rawInt g5.objs.size) false := z8
    have up : ∀ c o, c ≠ z → g5.get? c = some o → g8.get? c = some o := fun c o c1 e => s8.extBut _ _ c1 (s7.extBut _ _ c1 (Heap.get?_push_of_some _ e))
    have p8 : IsPair g8 g5.objs.size x y := s8.extBut _ _ (Nat.ne_of_gt hzlt) (s7.extBut _ _ (Nat.ne_of_gt hzlt) (Heap.get?_push_size _ rfl))
    refine wpAny_pure ⟨_, rfl, ?_⟩
    show Q (.ref g5.objs.size) _
    rw [hsz] at p8 ⊢
    exact hQ g8 _ _ z8 (.inr ⟨_, rfl⟩) ⟨x, y, up _ _ D.TOz t5⟩ (a5.at fun o e => up _ o D.i1z e) (b5.at fun o e => up _ o D.i2z e) p8 fun c o c1 c2 c3 c4 e => up c o c1 (k5 c o c1 c2 c3 c4 e)
  · simp only [Bool.false_eq_true, if_false]
    refine wpAny_bind ?_
    rw [← Array.forIn_toList]
    simp only [List.forIn_cons, List.forIn_nil]
    refine wpAny_bind (wpAny_bind (wpAny_holding ?_))
    show wpAny _ _ (Builtin.SmallTypes.nextOf (.ref i1) >>= _) _ _ _
    refine wpAny_bind (nextOf_tuple_item (s := { s with heap := g1 }) (h1.extBut s1.extBut D.i1z) (hl1.extBut s1.extBut D.l1z) hx fun g2 a2 s2 => wpAny_pure (wpAny_pure ?_))
    refine wpAny_bind (wpAny_bind (wpAny_holding ?_))
    show wpAny _ _ (Builtin.SmallTypes.nextOf (.ref i2) >>= _) _ _ _
    refine wpAny_bind (nextOf_tuple_item (s := { s with heap := g2 }) ((h2.extBut s1.extBut D.i2z).extBut s2.extBut D.i12.symm) ((hl2.extBut s1.extBut D.l2z).extBut s2.extBut D.l2i1) hy fun g3 b3 s3 => wpAny_pure (wpAny_pure (wpAny_pure ?_)))
    show wpAny _ _ (newTuple [x, y] >>= _) _ _ _
    refine wpAny_bind (wpAny_newTuple ?_)
    have hsz : g3.objs.size = s.heap.objs.size := by rw [s3.1, s2.1, s1.1]
    have z3 : ZG g3 z TI TO (rawInt T) true := s3.extBut _ _ D.i2z.symm (s2.extBut _ _ D.i1z.symm z1)
    have k3 : ∀ c o, c ≠ z → c ≠ i1 → c ≠ i2 → s.heap.get? c = some o → g3.get? c = some o := fun c o c1 c2 c3 e => s3.extBut _ _ c3 (s2.extBut _ _ c2 (s1.extBut _ _ c1 e))
    have a3 : g3.IsTupleIter i1 l1 (k1 + 1) := a2.extBut s3.extBut D.i12
    refine wpAny_pure ⟨_, rfl, ?_⟩
    show Q (.ref g3.objs.size) _
    have hp : IsPair (g3.push { cls := .type "tuple", data := .seq #[x, y] }) g3.objs.size x y := Heap.get?_push_size _ rfl
    rw [hsz] at hp ⊢
    exact hQ _ _ _ (Heap.get?_push_of_some _ z3) (.inr ⟨T, rfl⟩) ⟨a, b, Heap.get?_push_of_some _ (k3 _ _ D.TOz D.TOi1 D.TOi2 hTO)⟩ (a3.at fun o e => Heap.get?_push_of_some _ e) (b3.at fun o e => Heap.get?_push_of_some _ e) hp fun c o c1 _ c3 c4 e => Heap.get?_push_of_some _ (k3 c o c1 c3 c4 e)
theorem next_end {z TI TO i1 i2 l1 l2 : Addr} {f0 : Value} {f1 : Bool} {k1 k2 : Nat} {xs ys : Array Value} {a b : Value} {Q : Fin → Shared → Prop} (hh : A.handled = none) (D : ZipApart z TI TO i1 i2 l1 l2)
    (hz : ZG s.heap z TI TO f0 f1) (k : Keeps f0 f1) (hTI : IsPair s.heap TI (.ref i1) (.ref i2)) (hTO : IsPair s.heap TO a b)
    (h1 : s.heap.IsTupleIter i1 l1 k1) (h2 : s.heap.IsTupleIter i2 l2 k2) (hl1 : s.heap.IsTuple l1 xs) (hl2 : s.heap.IsTuple l2 ys) (hend : xs[k1]? = none ∨ ys[k2]? = none)
    (hE : ∀ h' e, (∀ c o, c ≠ z → c ≠ TO → c ≠ i1 → c ≠ i2 → s.heap.get? c = some o → h'.get? c = some o) → (∃ o, h'.get? e = some o ∧ o.cls = .type "StopIteration") → E (.ref e) { s with heap := h' }) :
    wpAny (model prog w) A (Builtin.«zip.__next__» ⟨[.ref z], []⟩) Q E s := by
  show wpAny _ _ (field (.ref z) 2 >>= _) _ _ _
  refine wpAny_bind (wpAny_field hz rfl (x := .bool false) rfl ?_)
  show wpAny _ _ (field (.ref z) 3 >>= _) _ _ _
  refine wpAny_bind (wpAny_field hz rfl (x := .ref TI) rfl (wpAny_bind (wpAny_seqItems hTI rfl ?_)))
  show wpAny _ _ (Builtin.SmallTypes.ownedTupleIsFree (.ref z) >>= _) _ _ _
  refine wpAny_bind (free_of hz k ?_ fun g1 T z1 s1 => ?_)
  · simp only [if_true]
    refine wpAny_bind (wpAny_rule (wpAny_bind (wpAny_field hz rfl (x := .ref TO) rfl ?_)))
    refine wpAny_bind (wpAny_setField_rec hz (by simp) fun g1 z1 s1 => ?_)
    replace z1 : ZG g1 z TI TO .ellipsis f1 := z1
    refine wpAny_bind ?_
    simp only [List.zipIdx_cons, List.zipIdx_nil, List.forIn_cons, List.forIn_nil]
    refine wpAny_bind (wpAny_bind (wpAny_onRaise ?_))
    show wpAny _ _ (Builtin.SmallTypes.nextOf (.ref i1) >>= _) _ _ _
    cases hx : xs[k1]? with
    | none =>
      refine wpAny_bind (nextOf_tuple_end hh (h1.extBut s1.extBut D.i1z) (hl1.extBut s1.extBut D.l1z) hx fun g2 e s2 he => ?_)
      obtain ⟨oe, hoe, hce⟩ := he
      have z2 : ZG g2 z TI TO .ellipsis f1 := s2 _ _ D.i1z.symm z1
      have hez : e ≠ z := fun q => by subst q; rw [z2] at hoe; cases hoe; simp at hce
      refine wpAny_setField_rec z2 (by simp) fun g3 _ s3 => hE g3 e (fun c o c1 _ c3 _ q => s3.extBut _ _ c1 (s2 _ _ c3 (s1.extBut _ _ c1 q))) ⟨oe, s3.extBut _ _ hez hoe, hce⟩
    | some x =>
      have hy : ys[k2]? = none := hend.resolve_left (by rw [hx]; exact fun q => nomatch q)
      refine wpAny_bind (nextOf_tuple_item (h1.extBut s1.extBut D.i1z) (hl1.extBut s1.extBut D.l1z) hx fun g2 a2 s2 => wpAny_pure ?_)
      have t2 : IsPair g2 TO a b := s2.extBut _ _ D.TOi1 (s1.extBut _ _ D.TOz hTO)
      refine wpAny_bind (wpAny_seqItems t2 rfl (wpAny_bind (wpAny_updateSeq_pair t2 fun g3 t3 s3 => ?_)))
      refine wpAny_bind (wpAny_letGo (wpAny_pure (wpAny_bind (wpAny_bind (wpAny_onRaise ?_)))))
      show wpAny _ _ (Builtin.SmallTypes.nextOf (.ref i2) >>= _) _ _ _
      refine wpAny_bind (nextOf_tuple_end hh (((h2.extBut s1.extBut D.i2z).extBut s2.extBut D.i12.symm).extBut s3.extBut D.TOi2.symm) (((hl2.extBut s1.extBut D.l2z).extBut s2.extBut D.l2i1).extBut s3.extBut D.l2TO) hy fun g4 e s4 he => ?_)
      obtain ⟨oe, hoe, hce⟩ := he
      have z4 : ZG g4 z TI TO .ellipsis f1 := s4 _ _ D.i2z.symm (s3.extBut _ _ D.TOz.symm (s2.extBut _ _ D.i1z.symm z1))
      have hez : e ≠ z := fun q => by subst q; rw [z4] at hoe; cases hoe; simp at hce
      refine wpAny_setField_rec z4 (by simp) fun g5 _ s5 => hE g5 e (fun c o c1 c2 c3 c4 q => s5.extBut _ _ c1 (s4 _ _ c4 (s3.extBut _ _ c2 (s2.extBut _ _ c3 (s1.extBut _ _ c1 q))))) ⟨oe, s5.extBut _ _ hez hoe, hce⟩
  · simp only [Bool.false_eq_true, if_false]
    refine wpAny_bind ?_
    rw [← Array.forIn_toList]
    simp only [List.forIn_cons, List.forIn_nil]
    refine wpAny_bind (wpAny_bind (wpAny_holding ?_))
    show wpAny _ _ (Builtin.SmallTypes.nextOf (.ref i1) >>= _) _ _ _
    cases hx : xs[k1]? with
    | none =>
      refine wpAny_bind (nextOf_tuple_end (s := { s with heap := g1 }) hh (h1.extBut s1.extBut D.i1z) (hl1.extBut s1.extBut D.l1z) hx fun g2 e s2 he => ?_)
      exact hE g2 e (fun c o c1 _ c3 _ q => s2 _ _ c3 (s1.extBut _ _ c1 q)) he
    | some x =>
      have hy : ys[k2]? = none := hend.resolve_left (by rw [hx]; exact fun q => nomatch q)
      refine wpAny_bind (nextOf_tuple_item (s := { s with heap := g1 }) (h1.extBut s1.extBut D.i1z) (hl1.extBut s1.extBut D.l1z) hx fun g2 a2 s2 => wpAny_pure (wpAny_pure ?_))
      refine wpAny_bind (wpAny_bind (wpAny_holding ?_))
      show wpAny _ _ (Builtin.SmallTypes.nextOf (.ref i2) >>= _) _ _ _
      refine wpAny_bind (nextOf_tuple_end (s := { s with heap := g2 }) hh ((h2.extBut s1.extBut D.i2z).extBut s2.extBut D.i12.symm) ((hl2.extBut s1.extBut D.l2z).extBut s2.extBut D.l2i1) hy fun g3 e s3 he => ?_)
      exact hE g3 e (fun c o c1 _ c3 c4 q => s3 _ _ c4 (s2.extBut _ _ c3 (s1.extBut _ _ c1 q))) he
theorem py_item {z TI TO i1 i2 l1 l2 : Addr} {f0 : Value} {f1 : Bool} {k1 k2 : Nat} {xs ys : Array Value} {x y a b : Value} {Q : Option Value → Shared → Prop} (D : ZipApart z TI TO i1 i2 l1 l2)
    (hz : ZG s.heap z TI TO f0 f1) (k : Keeps f0 f1) (hTI : IsPair s.heap TI (.ref i1) (.ref i2)) (hTO : IsPair s.heap TO a b)
    (h1 : s.heap.IsTupleIter i1 l1 k1) (h2 : s.heap.IsTupleIter i2 l2 k2) (hl1 : s.heap.IsTuple l1 xs) (hl2 : s.heap.IsTuple l2 ys) (hx : xs[k1]? = some x) (hy : ys[k2]? = some y)
    (hQ : ∀ h' f0' f1', ZG h' z TI TO f0' f1' → Keeps f0' f1' → (∃ a b, IsPair h' TO a b) → h'.IsTupleIter i1 l1 (k1 + 1) → h'.IsTupleIter i2 l2 (k2 + 1) → IsPair h' s.heap.objs.size x y →
      (∀ c o, c ≠ z → c ≠ TO → c ≠ i1 → c ≠ i2 → s.heap.get? c = some o → h'.get? c = some o) → Q (some (.ref s.heap.objs.size)) { s with heap := h' }) :
    wpAny (model prog w) A (pyNext (.ref z)) Q E s := by
  have hT : s.TypeIs (.ref z) "zip" := ⟨_, hz, rfl⟩
  unfold pyNext
  refine wpAny_bind (wpAny_attempt (wpAny_callSpecial?_slot (name := Str.ofString "__next__") hT F.slot_zip_next ?_))
  exact wpAny_call_entry F.slot_zip_next hT F.entry_zip_next (next_item D hz k hTI hTO h1 h2 hl1 hl2 hx hy fun h' f0' f1' b1 b2 b3 b4 b5 b6 b7 => wpAny_pure (hQ h' f0' f1' b1 b2 b3 b4 b5 b6 b7)) (F.args_zip_next_1 _)
theorem py_end {z TI TO i1 i2 l1 l2 : Addr} {f0 : Value} {f1 : Bool} {k1 k2 : Nat} {xs ys : Array Value} {a b : Value} {Q : Option Value → Shared → Prop} (hh : A.handled = none) (D : ZipApart z TI TO i1 i2 l1 l2)
    (hz : ZG s.heap z TI TO f0 f1) (k : Keeps f0 f1) (hTI : IsPair s.heap TI (.ref i1) (.ref i2)) (hTO : IsPair s.heap TO a b)
    (h1 : s.heap.IsTupleIter i1 l1 k1) (h2 : s.heap.IsTupleIter i2 l2 k2) (hl1 : s.heap.IsTuple l1 xs) (hl2 : s.heap.IsTuple l2 ys) (hend : xs[k1]? = none ∨ ys[k2]? = none)
    (hQ : ∀ h', (∀ c o, c ≠ z → c ≠ TO → c ≠ i1 → c ≠ i2 → s.heap.get? c = some o → h'.get? c = some o) → Q none { s with heap := h' }) : wpAny (model prog w) A (pyNext (.ref z)) Q E s := by
  have hT : s.TypeIs (.ref z) "zip" := ⟨_, hz, rfl⟩
  unfold pyNext
  refine wpAny_bind (wpAny_attempt (wpAny_callSpecial?_slot (name := Str.ofString "__next__") hT F.slot_zip_next ?_))
  refine wpAny_call_entry F.slot_zip_next hT F.entry_zip_next (next_end hh D hz k hTI hTO h1 h2 hl1 hl2 hend fun h' e hk he => ?_) (F.args_zip_next_1 _)
  obtain ⟨o, ho, hc⟩ := he
  exact wpAny_bind (wpAny_isInstance (T := "StopIteration") (b := true) ⟨o, ho, hc⟩ isSubtype_stop (wpAny_pure (hQ _ hk)))
theorem py_self {z TI TO : Addr} {f0 : Value} {f1 : Bool} {Q : Value → Shared → Prop} (hz : ZG s.heap z TI TO f0 f1) (h : Q (.ref z) s) : wpAny (model prog w) A (pyIter (.ref z)) Q E s := by
  have hT : s.TypeIs (.ref z) "zip" := ⟨_, hz, rfl⟩
  refine wpAny_pyIter_slot hT F.slot_zip_iter (wpAny_call_entry F.slot_zip_iter hT F.entry_zip_iter ?_ (F.args_zip_iter_1 _))
  exact wpAny_pure ⟨_, rfl, "zip", _, hT, F.slot_zip_next.lookup, h⟩
end
theorem turn_zipN {P : Program} {w : World} {K : PySem.W.Frag} {nm : Str} {np : Pos} {a b z TI TO i1 i2 : Addr} (D : ZipApart z TI TO i1 i2 a b) :
    Turn P w K (.Name nm np) (ItzT K a b) [z, TI, TO, i1, i2] z (fun i h => (∃ f0 f1, ZG h z TI TO f0 f1 ∧ Keeps f0 f1) ∧ IsPair h TI (.ref i1) (.ref i2) ∧ (∃ x y, IsPair h TO x y) ∧ h.IsTupleIter i1 a i ∧ h.IsTupleIter i2 b i) where
  mem := by simp
  obj := fun i h st c hc => by
    obtain ⟨⟨f0, f1, hz, _⟩, hTI, ⟨x, y, hTO⟩, ⟨o1, e1, _, d1⟩, ⟨o2, e2, _, d2⟩⟩ := st
    have e' : c = z ∨ c = TI ∨ c = TO ∨ c = i1 ∨ c = i2 := by simpa using hc
    rcases e' with q | q | q | q | q <;> rw [q]
    · exact ⟨_, hz, fun v q => nomatch q⟩
    · exact ⟨_, hTI, fun v q => nomatch q⟩
    · exact ⟨_, hTO, fun v q => nomatch q⟩
    · exact ⟨o1, e1, fun v q => by rw [d1] at q; cases q⟩
    · exact ⟨o2, e2, fun v q => by rw [d2] at q; cases q⟩
  keep := fun i h h' st k => by
    obtain ⟨⟨f0, f1, hz, kz⟩, hTI, ⟨x, y, hTO⟩, h1, h2⟩ := st
    exact ⟨⟨f0, f1, k z (by simp) _ hz, kz⟩, k TI (by simp) _ hTI, ⟨x, y, k TO (by simp) _ hTO⟩, h1.at fun o q => k i1 (by simp) o q, h2.at fun o q => k i2 (by simp) o q⟩
  item := by
    intro X hP hw hK hc i pins s σ H E I hf st hg
    subst hP hw hK
    obtain ⟨⟨f0, f1, hz, kz⟩, hTI, ⟨x0, y0, hTO⟩, h1, h2⟩ := st
    obtain ⟨xs, ys, x, y, hqx, hqy, hx, hy⟩ := hg
    obtain ⟨its, rv, p, _⟩ := I.tuple hqx
    obtain ⟨its2, rv2, p2, _⟩ := I.tuple hqy
    obtain ⟨u, hu, ru⟩ := rv.get hx
    obtain ⟨u2, hu2, ru2⟩ := rv2.get hy
    refine py_item D hz kz hTI hTO h1 h2 p p2 (x := u) (y := u2) (by simpa using hu) (by simpa using hu2) fun h' f0' f1' z' kz' TO' h1' h2' hT hk => ?_
    refine ⟨_, rfl, wpAny_pure ?_⟩
    have new : ObjOk X.prog X.w (upd H s.heap.objs.size (.tup [x, y])) h' s.heap.objs.size (.tup [x, y]) :=
      ⟨by show 2 ≤ sizeLine; decide, [u, u2], .cons ru (.cons ru2 .nil), ⟨_, hT, rfl, _, rfl⟩⟩
    have I1 : Inv X pins σ (upd H s.heap.objs.size (.tup [x, y])) { s with heap := h' } :=
      I.turnedNew (t' := s.toks) (ch := [z, TI, TO, i1, i2]) (fun c o hb q => hk c o (fun q' => hb (by simp [q'])) (fun q' => hb (by simp [q'])) (fun q' => hb (by simp [q'])) (fun q' => hb (by simp [q'])) q) hf (Nat.le_refl _) new
    refine ⟨.ref s.heap.objs.size, _, I1, rfl, ⟨_, x, y, rfl, I.hok.fresh (Nat.le_refl _), rfl, fun l hl => by rw [I.tuple_inj hl hqx]; exact hx, fun l hl => by rw [I.tuple_inj hl hqy]; exact hy⟩, ⟨⟨f0', f1', z', kz'⟩, ?_, TO', h1', h2'⟩, fun c hcm => ?_⟩
    · exact hk _ _ D.TIz D.TITO D.TIi1 D.TIi2 hTI
    · have hlt : c < s.heap.objs.size := by
        have e' : c = z ∨ c = TI ∨ c = TO ∨ c = i1 ∨ c = i2 := by simpa using hcm
        rcases e' with q | q | q | q | q <;> rw [q]
        · exact Heap.lt_size hz
        · exact Heap.lt_size hTI
        · exact Heap.lt_size hTO
        · obtain ⟨_, e1, _⟩ := h1; exact Heap.lt_size e1
        · obtain ⟨_, e2, _⟩ := h2; exact Heap.lt_size e2
      rw [upd_ne (Nat.ne_of_lt hlt)]
      exact (hf c hcm).1
  done := by
    intro X hP hw hK hc i pins s σ H E I hf st hg
    subst hP hw hK
    obtain ⟨⟨f0, f1, hz, kz⟩, hTI, ⟨x0, y0, hTO⟩, h1, h2⟩ := st
    obtain ⟨xs, ys, hqx, hqy, hend⟩ := hg
    obtain ⟨its, rv, p, _⟩ := I.tuple hqx
    obtain ⟨its2, rv2, p2, _⟩ := I.tuple hqy
    have l1 := rv.length
    have l2 := rv2.length
    have he : its.toArray[i]? = none ∨ its2.toArray[i]? = none := by
      rcases hend with q | q
      · left; simp; omega
      · right; simp; omega
    exact py_end (I.ok.hd hc) D hz kz hTI hTO h1 h2 p p2 he fun h' hk => ⟨rfl, I.turnedL (t' := s.toks) (ch := [z, TI, TO, i1, i2]) (fun c o hb q =>
      hk c o (fun q' => hb (by simp [q'])) (fun q' => hb (by simp [q'])) (fun q' => hb (by simp [q'])) (fun q' => hb (by simp [q'])) q) hf⟩
  self := fun A i s Q E st h => by
    obtain ⟨⟨f0, f1, hz, kz⟩, _⟩ := st
    exact py_self hz h
def iZipN (K : PySem.W.Frag) (ta : TA) : TI := fun σ H R => ta σ H fun vs H1 => ∃ a b xs ys, vs = [.ref a, .ref b] ∧ SqT K H1 a xs ∧ SqT K H1 b ys ∧ R (ItzT K a b) H1
theorem pi_zipN {X : Cx} {e e2 : Expr} {ta : TA} {p pos np : Pos} {nm : Str} (hg : Gl X "zip") (hm : X.mg "zip" = none) (ha : PA X [e, e2] ta)
    (hs : starEach [e, e2] X.env = (false, eval e X.env) :: starEach [e2] X.env := by rfl) (hpl : (backTo pos (starEach [e2] X.env)).any (·.1) = false := by rfl) :
    PI X (.Name nm np) (.Call (.Name "zip" p) [e, e2] [] pos) (iZipN X.K ta) := by
  refine ⟨fun pins s σ H R I h => ?_⟩
  refine Call_ (ld_blt I hg hm PyProof.Rows.boot_zip (PyProof.Rows.callWith_type1 (thn (ha.run pos pins s σ H _ I h) fun us s1 ⟨vs, H1, I1, r1, q1⟩ => ?_) hs hpl))
  obtain ⟨a, b, xs, ys, ex, hqx, hqy, q⟩ := q1
  subst ex
  cases r1 with
  | cons r rr =>
    cases rr with
    | cons r' rr =>
      cases rr
      cases r
      cases r'
      have fresh5 : ∀ c, c ∈ [s1.heap.objs.size + 4, s1.heap.objs.size + 2, s1.heap.objs.size + 3, s1.heap.objs.size, s1.heap.objs.size + 1] → FpOk X pins H1 c := fun c hcm => by
        have hle : s1.heap.objs.size ≤ c := by
          simp only [List.mem_cons, List.not_mem_nil, or_false] at hcm
          omega
        exact I1.fpOk hle (I1.hok.fresh hle)
      obtain ⟨its, rv, p1, _⟩ := I1.tuple hqx
      obtain ⟨its2, rv2, p2, _⟩ := I1.tuple hqy
      obtain ⟨o1, ho1, _⟩ := id p1
      obtain ⟨o2, ho2, _⟩ := id p2
      refine call_zipT (show s1.heap.IsTuple a its.toArray from p1) (show s1.heap.IsTuple b its2.toArray from p2) fun h' hz hTI hTO h1 h2 hsz hk => py_self (f1 := false) hz ?_
      have I2 : Inv X pins σ H1 { s1 with heap := h' } := I1.kept (t' := s1.toks) hk
      exact ⟨s1.heap.objs.size + 4, _, _, _, H1, rfl, I2, turn_zipN (PySem.W.ktu_apart s1.heap.objs.size a b (Heap.lt_size ho1) (Heap.lt_size ho2)), ⟨⟨_, _, hz, .inl ⟨rfl, rfl⟩⟩, hTI, ⟨_, _, hTO⟩, h1, h2⟩, fresh5, q⟩
end DZ
namespace VL
open PySem PySem.Spec PyProof.Rows L2
section
variable {X : Cx} {g : G} {E : XD}
def wZip (a : Lc → Sto → R (List D)) : Lc → Sto → R Wk := fun L S => (a L S).bind fun ds S1 => match ds with
  | [.tup xs, .tup ys] => .ok ⟨List.zipWith (fun x y => D.tup [x, y]) xs ys, fun _ => true⟩ S1
  | _ => .bad
theorem di_zipN {e e2 : Expr} {p pos np : Pos} {nm : Str} {ls : Lc → Sto → R (List D)} (hK : X.K = g.K) (hg : Gl X "zip") (hm : X.mg "zip" = none) (ha : PA X [e, e2] (tL g E ls))
    (hs : starEach [e, e2] X.env = (false, eval e X.env) :: starEach [e2] X.env := by rfl) (hpl : (backTo pos (starEach [e2] X.env)).any (·.1) = false := by rfl) :
    PI X (.Name nm np) (.Call (.Name "zip" p) [e, e2] [] pos) (tI g E (wZip ls)) := by
  refine (DZ.pi_zipN hg hm ha hs hpl).imp fun σ H Q h => ?_
  obtain ⟨m, S, L, r, l, q⟩ := h
  refine ⟨m, S, L, r, l, (Aft.bind q).mono fun ds m1 S1 H1 e1 r1 q1 vs rvs => ?_⟩
  split at q1
  · rename_i xs ys
    obtain ⟨v, v', rfl, h2, h3⟩ := rvs2 rvs
    obtain ⟨a, vs, rfl, t1, v1⟩ := of_tupv h2
    obtain ⟨b, us, rfl, t2, v2⟩ := of_tupv h3
    have s1 := t1.sq
    have s2 := t2.sq
    refine ⟨a, b, vs, us, rfl, by rw [hK]; exact s1, by rw [hK]; exact s2, q1.ok r1 _ ?_⟩
    rw [hK]
    intro i m' S' H' e' r' _
    have s1' := (e'.toExw.tupv t1).sq
    have s2' := (e'.toExw.tupv t2).sq
    refine ⟨fun z => ⟨vs, us, s1', s2', ?_⟩, fun d hd => ?_⟩
    · have z' : (List.zipWith (fun x y => D.tup [x, y]) xs ys)[i]? = none := z
      have := List.getElem?_eq_none_iff.mp z'
      rw [List.length_zipWith] at this
      rw [v1.length, v2.length]
      omega
    · have z' : (List.zipWith (fun x y => D.tup [x, y]) xs ys)[i]? = some d := hd
      rw [List.getElem?_zipWith] at z'
      cases hx : xs[i]? with
      | none => rw [hx] at z'; cases z'
      | some x =>
        cases hy : ys[i]? with
        | none => rw [hx, hy] at z'; cases z'
        | some y =>
          rw [hx, hy] at z'
          cases z'
          obtain ⟨vx, ex, rx⟩ := (v1.extw e'.toExw).get hx
          obtain ⟨vy, ey, ry⟩ := (v2.extw e'.toExw).get hy
          refine ⟨⟨vs, us, vx, vy, s1', s2', ex, ey⟩, fun x' H2 yd => ?_⟩
          obtain ⟨T, x1, x2, rfl, nT, rfl, f1, f2⟩ := yd
          have e1 : x1 = vx := Option.some.inj ((f1 _ s1').symm.trans ex)
          have e2 : x2 = vy := Option.some.inj ((f2 _ s2').symm.trans ey)
          subst e1 e2
          exact ⟨ext_lay r' nT, r'.lay nT, rv_tupv ⟨upd_same, r'.un nT⟩ (.cons (rx.ext (ext_lay r' nT)) (.cons (ry.ext (ext_lay r' nT)) .nil))⟩
  · exact q1.elim
/-- f( *y ) -/
def eStar (f : List D → Sto → R D) (e : Lc → Sto → R D) : Lc → Sto → R D := fun L S => (e L S).bind fun d S1 => match d with
  | .tup ds => f ds S1
  | d => match lstOf d S1 with
    | some ds => f ds S1
    | none => .bad
theorem de_callS1 {k n : Nat} {f : Addr} {fd : FuncData} {ps : List Str} {Fn : List D → Sto → R D} {x : Str} {p pos sp_ : Pos} {e : Expr} {ea : Lc → Sto → R D} (hK : X.K = g.K) (F : FnOk X.prog X.w X.K X.mg X.base (L2.CX X.prog X.w) k f fd ps (spD g n Fn)) (hr : Room k X.A) (hg : Gl X x) (hm : X.mg x = some (.ref f)) (hk : PySem.W.keepIn X.K (.ref f) = true) (hb : Binds X.K fd ps []) (hx : PX X g E)
    (he : PE X e (tD g E ea)) (hd : (x == ("__debug__" : Str)) = false := by decide) (hst : starEach [.Starred e sp_] X.env = [(true, eval e X.env)] := by rfl) :
    PE X (.Call (.Name x p) [.Starred e sp_] [] pos) (tD g E (eStar (ari n Fn) ea)) := by
  obtain ⟨E0, hp, hE⟩ := hx
  refine (StX.pe_callS1 (F.raw hb .nil) hr hk hg hm hp he hd hst).imp fun σ H Q h => ?_
  obtain ⟨m, S, L, r, l, q⟩ := h
  refine ⟨m, S, L, r, l, (Aft.bind q).mono fun d m1 S1 H1 e1 r1 q1 v rv => ?_⟩
  have fin : ∀ {ds : List D} {vs : List V}, RVs g m1 H1 ds vs → Aft g E m1 H1 (ari n Fn ds S1) (vQ g Q) → spD g n Fn (vs ++ []) H1 Q E0 := fun {ds vs} rvs q2 => by
    rw [List.append_nil]
    exact sp_call hE r1 rvs q2
  split at q1
  · obtain ⟨a, vs, rfl, s1, v1⟩ := of_tup rv
    exact ⟨a, vs, rfl, .inl (by rw [hK]; exact s1), fin v1 q1⟩
  · split at q1
    · rename_i e0
      obtain ⟨a, vs, rfl, s1, v1⟩ := lst_run r1 rv e0
      exact ⟨a, vs, rfl, .inr (by rw [hK]; exact s1), fin v1 q1⟩
    · exact q1.elim
end
end VL

namespace VL
open PySem PySem.Spec PyProof.Rows L2
section
variable {X : Cx} {g : G} {E : XD}
theorem okL_iff {n : Nat} {ds : List D} {S : Sto} (h : okL n ds S = true) : S[n]? = some (.lst ds) := by
  unfold okL at h
  split at h
  · rename_i ds' e
    rw [e, D.beqs_eq h]
  · cases h
@[simp] theorem okL_of {n : Nat} {ds : List D} {S : Sto} (h : S[n]? = some (.lst ds)) : okL n ds S = true := by
  unfold okL
  rw [h]
  exact D.beqs_refl ds
theorem jd_list {a : Addr} {W : Wk} {m0 : Mp} {H0 : Hp} (h : ∀ m S H, Exk m0 H0 m H → Rel g m S H → W.ok S = true → ∃ vs, SqL g.K H a vs ∧ RVs g m H W.ds vs) : JD g (Itl g.K a) W m0 H0 := by
  intro i m S H e r hok
  obtain ⟨vs, hs, hv⟩ := h m S H e r hok
  refine ⟨fun z => ⟨vs, hs, by rw [hv.length]; exact List.getElem?_eq_none_iff.mp z⟩, fun d hd => ?_⟩
  obtain ⟨v, ev, rv⟩ := hv.get hd
  refine ⟨⟨vs, v, hs, ev⟩, fun x H' y => ?_⟩
  obtain ⟨e1, e2⟩ := y
  subst e1
  have : x = v := Option.some.inj ((e2 vs hs).symm.trans ev)
  subst this
  exact ⟨.refl, r, rv⟩
theorem jd_tup {a : Addr} {ds : List D} {vs : List V} {m0 : Mp} {H0 : Hp} (hs0 : SqTv g m0 H0 a vs) (hv0 : RVs g m0 H0 ds vs) : JD g (Itt g.K a) ⟨ds, fun _ => true⟩ m0 H0 := by
  intro i m S H e r hok
  have hs := (e.toExw.tupv hs0).sq
  have hv := hv0.extw e.toExw
  refine ⟨fun z => ⟨vs, hs, by rw [hv.length]; exact List.getElem?_eq_none_iff.mp z⟩, fun d hd => ?_⟩
  obtain ⟨v, ev, rv⟩ := hv.get hd
  refine ⟨⟨vs, v, hs, ev⟩, fun x H' y => ?_⟩
  obtain ⟨e1, e2⟩ := y
  subst e1
  have : x = v := Option.some.inj ((e2 vs hs).symm.trans ev)
  subst this
  exact ⟨.refl, r, rv⟩
theorem jd_ctp {a : Addr} {ds : List D} {vs : List V} {m0 : Mp} {H0 : Hp} (hs0 : SqK g a vs) (hv0 : RVs g m0 H0 ds vs) : JD g (Itt g.K a) ⟨ds, fun _ => true⟩ m0 H0 := by
  intro i m S H e r hok
  have hs : SqT g.K H a vs := hs0.sq
  have hv := hv0.extw e.toExw
  refine ⟨fun z => ⟨vs, hs, by rw [hv.length]; exact List.getElem?_eq_none_iff.mp z⟩, fun d hd => ?_⟩
  obtain ⟨v, ev, rv⟩ := hv.get hd
  refine ⟨⟨vs, v, hs, ev⟩, fun x H' y => ?_⟩
  obtain ⟨e1, e2⟩ := y
  subst e1
  have : x = v := Option.some.inj ((e2 vs hs).symm.trans ev)
  subst this
  exact ⟨.refl, r, rv⟩
def wSeq (e : Lc → Sto → R D) : Lc → Sto → R Wk := fun L S => (e L S).bind fun d S1 => match d with
  | .lst ds => .ok ⟨ds, fun _ => true⟩ S1
  | .ref n => match S1[n]? with
    | some (.lst ds) => .ok ⟨ds, okL n ds⟩ S1
    | _ => .bad
  | .scr ns => .ok ⟨ns.map D.int, fun _ => true⟩ S1
  | _ => .bad
def wTup (e : Lc → Sto → R D) : Lc → Sto → R Wk := fun L S => (e L S).bind fun d S1 => match d with
  | .tup ds => .ok ⟨ds, fun _ => true⟩ S1
  | .ctp ds => .ok ⟨ds, fun _ => true⟩ S1
  | _ => .bad
theorem di_lst {tg e : Expr} {ea : Lc → Sto → R D} (hK : X.K = g.K) (he : PE X e (tD g E ea)) : PI X tg e (tI g E (wSeq ea)) := by
  refine (pi_list he).imp fun σ H Q h => ?_
  obtain ⟨m, S, L, r, l, q⟩ := h
  refine ⟨m, S, L, r, l, (Aft.bind q).mono fun d m1 S1 H1 e1 r1 q1 v rv => ?_⟩
  split at q1
  · rename_i ds
    obtain ⟨a, vs, rfl, h1, _, h2⟩ := of_lst rv
    refine ⟨a, rfl, ⟨vs, .of h1⟩, q1.ok r1 _ ?_⟩
    rw [hK]
    refine jd_list fun m' S' H' e' r' hok => ?_
    have rv' := RV.extw e'.toExw rv
    obtain ⟨a', vs', z, h1', _, h2'⟩ := of_lst rv'
    cases z
    exact ⟨vs', .of h1', h2'⟩
  · rename_i n
    split at q1
    · rename_i ds e0
      obtain ⟨a, vs, rfl, ha, h1, h2⟩ := lst_ref r1 rv e0
      refine ⟨a, rfl, ⟨vs, .of h1⟩, q1.ok r1 _ ?_⟩
      rw [hK]
      refine jd_list fun m' S' H' e' r' hok => ?_
      obtain ⟨a', vs', z, _, h1', h2'⟩ := lst_ref r' (RV.extw e'.toExw rv) (okL_iff hok)
      cases z
      exact ⟨vs', .of h1', h2'⟩
    · exact q1.elim
  · rename_i ns
    obtain ⟨a, rfl, h1⟩ := of_scr rv
    refine ⟨a, rfl, ⟨_, by rw [hK]; exact h1.sq⟩, q1.ok r1 _ ?_⟩
    rw [hK]
    refine jd_list fun m' S' H' e' r' hok => ?_
    exact ⟨_, (e'.toExw.scr h1).sq, rvs_ints ns⟩
  · exact q1.elim
theorem di_tup {tg e : Expr} {ea : Lc → Sto → R D} (hK : X.K = g.K) (he : PE X e (tD g E ea)) : PI X tg e (tI g E (wTup ea)) := by
  refine (pi_tup he).imp fun σ H Q h => ?_
  obtain ⟨m, S, L, r, l, q⟩ := h
  refine ⟨m, S, L, r, l, (Aft.bind q).mono fun d m1 S1 H1 e1 r1 q1 v rv => ?_⟩
  split at q1
  · obtain ⟨a, vs, rfl, s1, v1⟩ := of_tupv rv
    refine ⟨a, rfl, ⟨vs, by rw [hK]; exact s1.sq⟩, q1.ok r1 _ ?_⟩
    rw [hK]
    exact jd_tup s1 v1
  · obtain ⟨a, vs, rfl, s1, v1⟩ := of_ctp rv
    refine ⟨a, rfl, ⟨vs, by rw [hK]; exact s1.sq⟩, q1.ok r1 _ ?_⟩
    rw [hK]
    exact jd_ctp s1 v1
  · exact q1.elim
def chars (x : Str) : List D := x.cps.toList.map fun c => D.str ⟨#[c]⟩
theorem jd_str {x : Str} {m0 : Mp} {H0 : Hp} : JD g (Its x) ⟨chars x, fun _ => true⟩ m0 H0 := by
  intro i m S H e r _
  have hg : (chars x)[i]? = (x.cps[i]?).map fun c => D.str ⟨#[c]⟩ := by unfold chars; rw [List.getElem?_map, Array.getElem?_toList]
  refine ⟨fun z => ?_, fun d hd => ?_⟩
  · have z' : (chars x)[i]? = none := z
    rw [hg] at z'
    cases q : x.cps[i]? with
    | none => exact Array.getElem?_eq_none_iff.mp q
    | some c => rw [q] at z'; cases z'
  · have z' : (chars x)[i]? = some d := hd
    rw [hg] at z'
    cases q : x.cps[i]? with
    | none => rw [q] at z'; cases z'
    | some c =>
      rw [q] at z'
      cases z'
      refine ⟨(Array.getElem?_eq_some_iff.mp q).1, fun v H' y => ?_⟩
      obtain ⟨e1, c', e2, e3⟩ := y
      subst e1 e3
      rw [q] at e2
      cases e2
      exact ⟨.refl, r, rv_str⟩
/-! a walk over a list, a tuple or a text -/
def wkOf (d : D) (S : Sto) : R Wk := match d with
  | .tup ds => .ok ⟨ds, fun _ => true⟩ S
  | .ctp ds => .ok ⟨ds, fun _ => true⟩ S
  | .str x => .ok ⟨chars x, fun _ => true⟩ S
  | .lst ds => .ok ⟨ds, fun _ => true⟩ S
  | .ref n => match S[n]? with
    | some (.lst ds) => .ok ⟨ds, okL n ds⟩ S
    | _ => .bad
  | .scr ns => .ok ⟨ns.map D.int, fun _ => true⟩ S
  | _ => .bad
def wAny (e : Lc → Sto → R D) : Lc → Sto → R Wk := fun L S => (e L S).bind fun d S1 => wkOf d S1
theorem di_any {tg e : Expr} {ea : Lc → Sto → R D} (hK : X.K = g.K) (he : PE X e (tD g E ea)) : PI X tg e (tI g E (wAny ea)) := by
  refine ⟨fun pins s σ H Q I h => ?_⟩
  obtain ⟨m, S, L, r, l, q⟩ := h
  /- by the value's kind -/
  have hb := Aft.bind q
  cases hr : ea L S with
  | bad => rw [hr] at hb; exact hb.elim
  | exc c fs S' =>
    rw [hr] at hb
    have q2 : tI g E (wTup ea) σ H Q := ⟨m, S, L, r, l, by unfold wTup; rw [hr]; exact hb⟩
    exact (di_tup hK he).run pins s σ H Q I q2
  | ok d S' =>
    have q0 : Aft g E m H (wkOf d S') fun W m' _ H' => ∀ J, JD g J W m' H' → Q J H' := by
      have : Aft g E m H ((ea L S).bind fun d S1 => wkOf d S1) fun W m' _ H' => ∀ J, JD g J W m' H' → Q J H' := q
      rw [hr] at this
      exact this
    unfold wkOf at q0
    cases d with
    | tup ds =>
      refine (di_tup hK he).run pins s σ H Q I ⟨m, S, L, r, l, ?_⟩
      unfold wTup
      rw [hr]
      exact q0
    | ctp ds =>
      refine (di_tup hK he).run pins s σ H Q I ⟨m, S, L, r, l, ?_⟩
      unfold wTup
      rw [hr]
      exact q0
    | str x =>
      refine (pi_str he).run pins s σ H Q I ⟨m, S, L, r, l, ?_⟩
      rw [hr]
      intro m' H' e' r' v rv
      exact ⟨x, of_str rv, q0.at e' r' _ jd_str⟩
    | lst n =>
      refine (di_lst hK he).run pins s σ H Q I ⟨m, S, L, r, l, ?_⟩
      unfold wSeq
      rw [hr]
      exact q0
    | ref n =>
      refine (di_lst hK he).run pins s σ H Q I ⟨m, S, L, r, l, ?_⟩
      unfold wSeq
      rw [hr]
      exact q0
    | scr n =>
      refine (di_lst hK he).run pins s σ H Q I ⟨m, S, L, r, l, ?_⟩
      unfold wSeq
      rw [hr]
      exact q0
    | _ => exact q0.elim
/-! {} -/
def eDict0 : Lc → Sto → R D := fun _ S => .ok (.dic [] []) S
def eDict0M : Lc → Sto → R D := fun _ S => .ok (.ref S.length) (S ++ [.dic [] []])
theorem de_dict0 {pos : Pos} : PE X (.Dict [] [] pos) (tD g E eDict0) := by
  refine pe_dnewK.imp fun σ H Q h => ?_
  obtain ⟨m, S, L, r, l, q⟩ := h
  exact fun p hp => q.at (ext_lay r hp) (r.lay hp) _ (rv_dic (.of upd_same) (r.un hp) rfl .nil)
theorem de_dict0M {pos : Pos} : PE X (.Dict [] [] pos) (tD g E eDict0M) := by
  refine pe_dnewK.imp fun σ H Q h => ?_
  obtain ⟨m, S, L, r, l, q⟩ := h
  exact fun p hp => q.at (ext_new r hp) (r.alloc hp ⟨[], rfl, rfl, .nil⟩) _ (rv_ref r.last)
/-! repr -/
def reprD (ds : List D) (S : Sto) : R D := match ds with
  | [.non] => .ok (.str "None") S
  | [.bl b] => .ok (.str (if b = true then "True" else "False")) S
  | [.int i] => if i.natAbs.log2 < 1920 then .ok (.str (toString i)) S else .bad
  | [.str x] => if (reprText x).length ≤ sizeLine then .ok (.str (reprText x)) S else .bad
  | _ => .bad
theorem cd_repr : CallR X (.builtin "repr") (rDs g E reprD) := by
  intro pins s σ H xs us Q I r h
  obtain ⟨m, S, ds, rl, h1, q⟩ := h
  unfold reprD at q
  split at q
  · obtain ⟨v, rfl, h2⟩ := rvs1 h1
    obtain ⟨u, rfl, ru⟩ := vals1 r
    rw [of_non h2] at ru
    cases ru
    exact PySem.P.repr_of_none ⟨.str _, H, I.tok _, ⟨_, rfl⟩, q.ok rl _ rv_str⟩
  · obtain ⟨v, rfl, h2⟩ := rvs1 h1
    obtain ⟨u, rfl, ru⟩ := vals1 r
    rw [of_bl h2] at ru
    cases ru
    exact PySem.P.repr_of_bool ⟨.str _, H, I.tok _, ⟨_, rfl⟩, q.ok rl _ rv_str⟩
  · split at q
    · rename_i hz
      obtain ⟨v, rfl, h2⟩ := rvs1 h1
      obtain ⟨u, rfl, ru⟩ := vals1 r
      rw [of_int h2] at ru
      obtain ⟨t, rfl⟩ := ru
      exact PySem.P.repr_of_int hz ⟨.str _, H, I.tok _, ⟨_, rfl⟩, q.ok rl _ rv_str⟩
    · exact q.elim
  · split at q
    · rename_i hz
      obtain ⟨v, rfl, h2⟩ := rvs1 h1
      obtain ⟨u, rfl, ru⟩ := vals1 r
      rw [of_str h2] at ru
      obtain ⟨t, rfl⟩ := ru
      exact PySem.P.repr_of_str ⟨.str _, H, I.tok _, ⟨_, rfl⟩, q.ok rl _ rv_str⟩ hz
    · exact q.elim
  · exact q.elim
end
theorem bt_int : bootBuiltins "int" = some (.type "int") := by decide +kernel
theorem bt_bool : bootBuiltins "bool" = some (.type "bool") := by decide +kernel
theorem bt_str : bootBuiltins "str" = some (.type "str") := by decide +kernel
theorem bt_tuple : bootBuiltins "tuple" = some (.type "tuple") := by decide +kernel
theorem bt_list : bootBuiltins "list" = some (.type "list") := by decide +kernel
theorem bt_dict : bootBuiltins "dict" = some (.type "dict") := by decide +kernel
theorem bt_len : bootBuiltins "len" = some (.builtin "len") := by decide +kernel
theorem bt_abs : bootBuiltins "abs" = some (.builtin "abs") := by decide +kernel
theorem bt_sum : bootBuiltins "sum" = some (.builtin "sum") := by decide +kernel
theorem bt_all : bootBuiltins "all" = some (.builtin "all") := by decide +kernel
theorem bt_any : bootBuiltins "any" = some (.builtin "any") := by decide +kernel
theorem bt_max : bootBuiltins "max" = some (.builtin "max") := by decide +kernel
theorem bt_min : bootBuiltins "min" = some (.builtin "min") := by decide +kernel
theorem bt_repr : bootBuiltins "repr" = some (.builtin "repr") := by decide +kernel
end VL

/-! targets with a star, lists taken apart, match, what is never reached -/
namespace VL
open PySem PySem.Spec PyProof.Rows L2
section
variable {prog : Program} {w : World} {A : Around} {E : Value → Shared → Prop} {s : Shared}
/-- the walk of a tuple from its k-th item -/
theorem walks_tup (hh : A.handled = none) (I ax : Addr) (hne : ax ≠ I) (items : Array Value) (k : Nat) (hk : k ≤ items.size) :
    Walks prog w A I [I, ax] [I] (items.size - k) (fun i v => items[k + i]? = some v) (fun i h => IsTupIter h I ax (k + i) ∧ IsTup h ax items) where
  sub := fun b hb => by simp at hb; simp [hb]
  frame := fun _ h h' st hk => by
    obtain ⟨⟨o, ho, r⟩, ⟨o', ho', r'⟩⟩ := st
    exact ⟨⟨o, hk I (by simp) o ho, r⟩, ⟨o', hk ax (by simp) o' ho', r'⟩⟩
  item := fun i s Q E hi st hQ => by
    have hx : k + i < items.size := by omega
    refine next_tuple_item st.1 st.2 (x := items[k + i]) (by simp [hx]) fun h' hit' hs' => ?_
    exact hQ _ h' s.toks (by simp [hx]) ⟨hit', st.2.extBut hs'.extBut hne⟩ fun b o hb e => hs'.extBut b o (fun h => hb (by simp [h])) e
  done := fun s Q E st hQ => by
    have e : k + (items.size - k) = items.size := by omega
    exact next_tuple_end hh st.1 st.2 (by rw [e]; simp) fun h' he' => hQ h' s.toks fun b o hb e => he' b o (fun h => hb (by simp [h])) e
  self := fun _ _ _ _ st hQ => wpAny_pyIter_tupleiter st.1 hQ
theorem unpackItems_star {t : Addr} {items : Array Value} {k : Nat} {Q : List Value → Shared → Prop} (hh : A.handled = none) (ht : IsTup s.heap t items) (hk : k ≤ items.size) (hz : items.size ≤ sizeLine)
    (hQ : ∀ (h' : Heap) (tk : Nat), (∀ b o, s.heap.get? b = some o → h'.get? b = some o) → Q (items.toList.take k ++ [.ref h'.objs.size]) { s with heap := h'.push { cls := .type "list", data := .seq (items.toList.drop k).toArray }, toks := tk }) :
    wpAny (model prog w) A (unpackItems (.ref t) (k + 1) (some k)) Q E s := by
  have hlt : t ≠ s.heap.objs.size := by obtain ⟨o, ho, _⟩ := ht; exact Nat.ne_of_lt (Heap.lt_size ho)
  have hts : t < s.heap.objs.size := by obtain ⟨o, ho, _⟩ := ht; exact Heap.lt_size ho
  unfold unpackItems
  refine wpAny_bind ?_
  unfold notIterableAtAll
  refine wpAny_bind (wpAny_specialOf ht.typeIs slot_tuple_iter.lookup ?_)
  refine wpAny_pure ?_
  simp only [Bool.false_eq_true, if_false]
  refine wpAny_bind (wpAny_holding (iter_tuple ht ?_))
  refine wpAny_bind (wpAny_holding (draw_tuple hlt k 0 _ _ ⟨_, Heap.get?_push_size _ rfl, rfl, rfl⟩ (ht.push _) (by omega) fun h₁ hit₁ hs₁ => ?_))
  rw [List.drop_zero]
  have hl : (items.toList.take k).length = k := by rw [List.length_take, Array.length_toList]; omega
  rw [if_neg (by rw [hl]; omega)]
  have ht₁ : IsTup h₁ t items := (ht.push _).extBut hs₁.extBut hlt
  have W := (walks_tup (prog := prog) (w := w) (A := A.in1) hh s.heap.objs.size t hlt items k hk).toS
  obtain ⟨oi, hoi, _⟩ := id hit₁
  have hi1 : s.heap.objs.size < h₁.objs.size := Heap.lt_size hoi
  refine wpAny_bind (wpAny_holding (wpAny_collect_iter (T := "tuple_iterator") (.inr (.inr (.inr rfl))) W (fun i s st => ⟨_, st.1.choose_spec.1, st.1.choose_spec.2.1⟩) ?_ ?_ (by simp) (fun s' acc hm hacc => ?_) (by omega)))
  · exact ⟨by simpa using hit₁, ht₁⟩
  · intro b hb
    simp at hb
    rcases hb with rfl | rfl
    · exact hi1
    · exact Nat.lt_trans hts hi1
  · have hacc' : acc.toList = items.toList.drop k := by
      apply List.ext_getElem?
      intro j
      rw [List.getElem?_drop, Array.getElem?_toList, Array.getElem?_toList]
      cases hj : acc[j]? with
      | some v => exact (hacc.2 j v hj).symm
      | none =>
        have := Array.getElem?_eq_none_iff.mp hj
        rw [hacc.1] at this
        exact (Array.getElem?_eq_none_iff.mpr (by omega)).symm
    have h0 : k + 1 - 1 - k = 0 := by omega
    simp only [h0, Nat.not_lt_zero, if_false, Nat.sub_zero, List.take_length, List.drop_length, hacc', List.append_nil]
    obtain ⟨sh, sg, sd, st, so⟩ := s'
    obtain ⟨m1, m2, m3, m4, m5⟩ := hm
    simp only at m1 m2 m3 m4 m5
    subst m2 m3 m4
    refine wpAny_bind (wpAny_newList ?_)
    refine wpAny_pure ?_
    exact hQ sh st fun b o hb => m1 b o (by simp; exact Nat.ne_of_lt (Heap.lt_size hb)) (hs₁.extBut b o (Nat.ne_of_lt (Heap.lt_size hb)) (Heap.get?_push_of_some _ hb))
theorem draw_list {it t : Addr} {items : Array Value} (hne : t ≠ it) : ∀ (n i : Nat) (s : Shared) (Q : List Value → Shared → Prop), s.heap.IsListIter it t i → s.heap.IsList t items → i + n ≤ items.size →
    (∀ h', h'.IsListIter it t (i + n) → Heap.SameBut it s.heap h' → Q ((items.toList.drop i).take n) { s with heap := h' }) → wpAny (model prog w) A (draw (.ref it) n) Q E s
  | 0, i, s, Q, hit, _, _, hQ => by
    show wpAny _ _ (pure []) Q E s
    exact wpAny_pure (by simpa using hQ s.heap hit (Heap.SameBut.refl ..))
  | n + 1, i, s, Q, hit, ht, hle, hQ => by
    have hlt : i < items.size := by omega
    show wpAny _ _ (pyNext (.ref it) >>= _) Q E s
    refine wpAny_bind (wpAny_pyNext_list_item hit ht (x := items[i]) (by simp [hlt]) fun h₁ hit₁ hs₁ => ?_)
    refine wpAny_bind (wpAny_holding (draw_list hne n (i + 1) _ _ hit₁ (ht.extBut hs₁.extBut hne) (by omega) fun h₂ hit₂ hs₂ => wpAny_pure ?_))
    have hd : items.toList.drop i = items[i] :: items.toList.drop (i + 1) := by simp [List.drop_eq_getElem_cons, hlt]
    have := hQ h₂ (by rw [show i + (n + 1) = i + 1 + n by omega]; exact hit₂) (hs₁.trans hs₂)
    rw [hd, List.take_succ_cons] at this
    exact this
theorem unpackItems_list {t : Addr} {items : Array Value} {Q : List Value → Shared → Prop} (hh : A.handled = none) (ht : s.heap.IsList t items)
    (hQ : ∀ h', Heap.ExtBut s.heap.objs.size s.heap h' → Q items.toList { s with heap := h' }) : wpAny (model prog w) A (unpackItems (.ref t) items.size none) Q E s := by
  have hlt : t ≠ s.heap.objs.size := by obtain ⟨o, ho, _⟩ := ht; exact Nat.ne_of_lt (Heap.lt_size ho)
  unfold unpackItems
  refine wpAny_bind ?_
  unfold notIterableAtAll
  refine wpAny_bind (wpAny_specialOf ht.typeIs slot_list_iter.lookup ?_)
  refine wpAny_pure ?_
  simp only [Bool.false_eq_true, if_false]
  refine wpAny_bind (wpAny_holding (wpAny_pyIter_list ht ?_))
  have htp : (s.heap.push { cls := .type "list_iterator", data := .fields #[.ref t, .int 0 0] }).IsList t items := by
    obtain ⟨o, ho, r⟩ := ht
    exact ⟨o, Heap.get?_push_of_some _ ho, r⟩
  refine wpAny_bind (wpAny_holding (draw_list hlt items.size 0 _ _ ⟨_, Heap.get?_push_size _ rfl, rfl, rfl⟩ htp (by omega) fun h₁ hit₁ hs₁ => ?_))
  have hall : List.take items.size (List.drop 0 items.toList) = items.toList := by
    rw [List.drop_zero]; exact List.take_of_length_le (by simp)
  rw [hall]
  rw [if_neg (by simp)]
  have ht₁ : h₁.IsList t items := htp.extBut hs₁.extBut hlt
  refine wpAny_bind (wpAny_holding (wpAny_pyNext_list_end hh hit₁ ht₁ (by simp) fun h₂ he₂ => ?_))
  simp only [Option.isSome_none, Bool.false_eq_true, if_false]
  refine wpAny_pure (hQ h₂ fun b o hb e => he₂ b o hb (hs₁.extBut b o hb (Heap.get?_push_of_some _ e)))
end

section
variable {X : Cx} {g : G} {E : XD} {pos : Pos} {e : Expr} {P : St → St → Prop}
/-- (a, *b): the source is a tuple -/
def gStar (K : PySem.W.Frag) (k : Nat) (t : TGs) : TG := fun v σ H Q => ∃ a xs, v = .ref a ∧ SqT K H a xs ∧ k ≤ xs.length ∧ ∀ p, H p = none → t (xs.take k ++ [.ref p]) σ (upd H p (.lst (xs.drop k))) Q
theorem pg_star {es es' : List Expr} {kk k : Nat} {t : TGs} (hc : X.calm = true) (h : PGs X es' t) (he : (assignEach es X.env).map (·.2) = (assignEach es' X.env).map (·.2) := by rfl)
    (hn : (assignEach es X.env).length = k + 1 := by rfl) (hst : (assignEach es X.env).findIdx? (·.1) = some k := by rfl) : PG X (.Tuple es kk pos) (gStar X.K k t) := by
  refine ⟨fun pins s σ H v u Q I r hw => ?_⟩
  obtain ⟨a, xs, e1, hq, hl, hw⟩ := hw
  subst e1
  cases r
  obtain ⟨its, rv, ht, hz⟩ := I.tuple hq
  have hlen := rv.length
  rw [assign_Tuple]
  refine wpAny_bind (wpAny_standAt ?_)
  unfold unpack
  rw [hn, hst, he]
  refine wpAny_bind (wpAny_holding (unpackItems_star (I.ok.hd hc) ht (by simpa [← hlen] using hl) (by simpa [← hlen] using hz) fun h' tk hk => ?_))
  have I1 : Inv X pins σ H { s with heap := h', toks := tk } := I.kept hk
  have hp : H h'.objs.size = none := I1.hok.fresh (Nat.le_refl _)
  have I2 : Inv X pins σ (upd H h'.objs.size (.lst (xs.drop k))) { s with heap := h'.push { cls := .type "list", data := .seq (its.drop k).toArray }, toks := tk } := by
    refine Inv.laid (s := { s with heap := h', toks := tk }) I1 (fun b o q => Heap.get?_push_of_some _ q) (Nat.le_refl _) ?_
    exact ⟨by simp; omega, its.drop k, 0, rv.drop k, Heap.get?_push_size _ rfl⟩
  simpa using h.run pins _ σ _ (xs.take k ++ [.ref h'.objs.size]) (its.take k ++ [.ref h'.objs.size]) Q I2 ((rv.take k).append (Paired.cons (show RelV (.ref h'.objs.size) (.ref h'.objs.size) from rfl) .nil)) (hw _ hp)
def gSt (k : Nat) (t : List D → Lc → Sto → R Lc) : D → Lc → Sto → R Lc := fun d L S => match d with
  | .tup ds => if k ≤ ds.length then t (ds.take k ++ [.lst (ds.drop k)]) L S else .bad
  | _ => .bad
theorem dg_star {es es' : List Expr} {kk k : Nat} {t : List D → Lc → Sto → R Lc} (hK : X.K = g.K) (hc : X.calm = true) (h : PGs X es' (tGs g E P t)) (he : (assignEach es X.env).map (·.2) = (assignEach es' X.env).map (·.2) := by rfl)
    (hn : (assignEach es X.env).length = k + 1 := by rfl) (hst : (assignEach es X.env).findIdx? (·.1) = some k := by rfl) : PG X (.Tuple es kk pos) (tG g E P (gSt k t)) := by
  refine (pg_star hc h he hn hst).imp fun v σ H Q h => ?_
  obtain ⟨m, S, L, d, r, l, rv, q⟩ := h
  unfold gSt at q
  split at q
  · rename_i ds
    split at q
    · rename_i hz
      obtain ⟨a, vs, rfl, h1, h2⟩ := of_tup rv
      refine ⟨a, vs, rfl, by rw [hK]; exact h1, by rw [h2.length]; exact hz, fun p hp => ?_⟩
      have ex : Ext g m H m (upd H p (.lst (vs.drop k))) := ext_lay r hp
      refine ⟨m, _, L, _, r.lay hp, l.ext ex, ?_, q.later ex⟩
      exact ((h2.take k).ext ex).append (.cons (rv_lst upd_same (r.un hp) ((h2.drop k).ext ex)) .nil)
    · exact q.elim
  · exact q.elim
/-- a, b = a list or a tuple -/
def gLst (n : Nat) (t : TGs) : TG := fun v σ H Q => ∃ a xs, v = .ref a ∧ H a = some (.lst xs) ∧ xs.length = n ∧ t xs σ H Q
theorem pg_lst {es : List Expr} {k n : Nat} {t : TGs} (hc : X.calm = true) (h : PGs X es t) (hn : (assignEach es X.env).length = n := by rfl) (hst : (assignEach es X.env).findIdx? (·.1) = none := by rfl) : PG X (.Tuple es k pos) (gLst n t) := by
  refine ⟨fun pins s σ H v u Q I r hw => ?_⟩
  obtain ⟨a, xs, e1, hq, hl, hw⟩ := hw
  subst e1
  cases r
  obtain ⟨hz, its, nn, rv, hg⟩ := (show ObjOk X.prog X.w H s.heap a (.lst xs) from I.hok a _ hq)
  have hlen := rv.length
  have hli : s.heap.IsList a its.toArray := ⟨_, hg, rfl, nn, rfl⟩
  rw [assign_Tuple]
  refine wpAny_bind (wpAny_standAt ?_)
  unfold unpack
  have e2 : (assignEach es X.env).length = its.toArray.size := by rw [hn, List.size_toArray, ← hlen, hl]
  rw [e2, hst]
  refine wpAny_bind (wpAny_holding (unpackItems_list (I.ok.hd hc) hli fun h' hx => ?_))
  have I1 : Inv X pins σ H { s with heap := h' } := I.kept (t' := s.toks) fun b o e => hx b o (Nat.ne_of_lt (Heap.lt_size e)) e
  exact h.run pins _ σ H xs _ Q I1 (by simpa using rv) hw
def gTp2 (n : Nat) (t : List D → Lc → Sto → R Lc) : D → Lc → Sto → R Lc := fun d L S => match d with
  | .tup ds => if ds.length = n then t ds L S else .bad
  | d => match lstO d S with
    | some ds => if ds.length = n then t ds L S else .bad
    | _ => .bad
theorem dg_tup2 {es : List Expr} {k n : Nat} {t : List D → Lc → Sto → R Lc} (hK : X.K = g.K) (hc : X.calm = true) (h : PGs X es (tGs g E P t)) (hn : (assignEach es X.env).length = n := by rfl) (hst : (assignEach es X.env).findIdx? (·.1) = none := by rfl) :
    PG X (.Tuple es k pos) (tG g E P (gTp2 n t)) := by
  refine ⟨fun pins s σ H v u Q I ru h0 => ?_⟩
  obtain ⟨m, S, L, d, r, l, rv, q⟩ := h0
  unfold gTp2 at q
  split at q
  · rename_i ds
    split at q
    · rename_i hz
      obtain ⟨a, vs, rfl, h1, h2⟩ := of_tup rv
      exact (pg_tup hc h hn hst).run pins s σ H _ u Q I ru ⟨a, vs, rfl, by rw [hK]; exact h1, by rw [h2.length]; exact hz, m, S, L, ds, r, l, h2, q⟩
    · exact q.elim
  · split at q
    · rename_i ds e0
      split at q
      · rename_i hz
        obtain ⟨a, vs, rfl, h1, h2⟩ := lstO_run r rv e0
        exact (pg_lst hc h hn hst).run pins s σ H _ u Q I ru ⟨a, vs, rfl, h1, by rw [h2.length]; exact hz, m, S, L, ds, r, l, h2, q⟩
      · exact q.elim
    · exact q.elim
/-! what is never reached -/
def sBad : SF := fun _ _ => .bad
theorem ds_bad {st : Stmt} : PS X st (tF g E sBad) := ⟨fun pins s σ H Dn I h => by
  obtain ⟨m, S, L, r, l, q⟩ := h
  exact q.elim⟩
/-! match -/
def mNil : D → SF := fun _ L S => .ok (.nx L) S
def mCase (i : Nat) (t : Lc → Sto → R Bool) (b : SF) (rest : D → SF) : D → SF := fun d L S => (t (L.set i (some d)) S).bind fun k S1 => if k = true then b (L.set i (some d)) S1 else rest d (L.set i (some d)) S1
def mElse (b : SF) : D → SF := fun _ L S => b L S
def mVal (f : D → D → Sto → R D) (e : Lc → Sto → R D) (b : SF) (rest : D → SF) : D → SF := fun d L S => (e L S).bind fun x S1 => (f d x S1).bind fun y S2 => match y with
  | .bl k => if k = true then b L S2 else rest d L S2
  | _ => .bad
def sMatch (e : Lc → Sto → R D) (f : D → SF) : SF := fun L S => (e L S).bind fun d S1 => f d L S1
structure PM (X : Cx) (g : G) (E : XD) (cs : List MatchCase) (f : D → SF) : Prop where
  run : ∀ (first : Bool) (pins : List (Addr × Obj)) (s : Shared) (σ : St) (H : Hp) (Dn : Ends) (v : V) (u : Value), Inv X pins σ H s → RelV v u →
    (∃ m S L d, Rel g m S H ∧ RL g m H L σ ∧ RV g m H d v ∧ Aft g E m H (f d L S) (fQ g Dn)) → wpAny (model X.prog X.w) X.A (matchCases cs X.env u first) (SP X pins Dn) X.xe s
theorem dm_nil : PM X g E [] mNil := ⟨fun first pins s σ H Dn v u I ru h => by
  obtain ⟨m, S, L, d, r, l, rv, q⟩ := h
  exact wpAny_matchCases_nil ⟨σ, H, I, q.ok r σ l⟩⟩
theorem dm_else {p1 : Pos} {b : List Stmt} {rest : List MatchCase} {fb : SF} (hb : PSs X b (tF g E fb)) : PM X g E (⟨.MatchAs none none p1, none, b⟩ :: rest) (mElse fb) := ⟨fun first pins s σ H Dn v u I ru h => by
  obtain ⟨m, S, L, d, r, l, rv, q⟩ := h
  refine wpAny_matchCases_cons (wpAny_matchPattern_Capture ?_)
  exact wpAny_assignInOrder_none (hb.run pins s σ H Dn I ⟨m, S, L, r, l, q⟩)⟩
theorem dm_case {i : Nat} {x : Str} {p1 : Pos} {c : Expr} {b : List Stmt} {rest : List MatchCase} {tc : Lc → Sto → R Bool} {fb : SF} {fr : D → SF} (hN : X.N.Nodup) (hi : X.N[i]? = some x) (hx : L2.Loc X.env.scope x) (hc : PT X c (tT g E tc)) (hb : PSs X b (tF g E fb)) (hr : PM X g E rest fr)
    (hf : X.fn x = true ∨ X.env.scope.names.lookup x = some .local := by first | exact .inl rfl | exact .inr rfl | assumption) :
    PM X g E (⟨.MatchAs none (some x) p1, some c, b⟩ :: rest) (mCase i tc fb fr) := ⟨fun first pins s σ H Dn v u I ru h => by
  obtain ⟨m, S, L, d, r, l, rv, q⟩ := h
  refine wpAny_matchCases_cons (wpAny_matchPattern_Capture ?_)
  refine wpAny_assignInOrder_more (wpAny_bindName (store_ok I hN hi hx ru (fun s1 I1 => ?_) hf))
  refine wpAny_assignInOrder_none ?_
  have l1 : RL g m H (L.set i (some d)) (σ.set i (some v)) := l.set rv i
  have q1 := Aft.bind q
  refine thn (hc.run pins s1 _ H (fun k H2 => ∃ m2 S2, Ext g m H m2 H2 ∧ Rel g m2 S2 H2 ∧ Aft g E m2 H2 (if k = true then fb (L.set i (some d)) S2 else fr d (L.set i (some d)) S2) (fQ g Dn)) I1 ⟨m, S, _, r, l1, q1.mono fun k m2 S2 H2 e2 r2 q2 => ⟨m2, S2, e2, r2, q2⟩⟩) fun k s2 h2 => ?_
  obtain ⟨H2, I2, m2, S2, e2, r2, q2⟩ := h2
  cases k with
  | true => exact hb.run pins s2 _ H2 Dn I2 ⟨m2, S2, _, r2, l1.ext e2, q2⟩
  | false => exact hr.run false pins s2 _ H2 Dn v u I2 ru ⟨m2, S2, _, d, r2, l1.ext e2, rv.ext e2, q2⟩⟩
theorem ds_match {cs : List MatchCase} {ea : Lc → Sto → R D} {f : D → SF} (he : PE X e (tD g E ea)) (hm : PM X g E cs f) : PS X (.Match e cs pos) (tF g E (sMatch ea f)) := by
  refine ⟨fun pins s σ H Dn I h => ?_⟩
  obtain ⟨m, S, L, r, l, q⟩ := h
  refine wpAny_Match (thn (he.run pins s σ H (fun v H1 => ∃ m1 S1 d, Ext g m H m1 H1 ∧ Rel g m1 S1 H1 ∧ RV g m1 H1 d v ∧ Aft g E m1 H1 (f d L S1) (fQ g Dn)) I ⟨m, S, L, r, l, (Aft.bind q).mono fun d m1 S1 H1 e1 r1 q1 v rv => ⟨m1, S1, d, e1, r1, rv, q1⟩⟩) fun u s1 h1 => ?_)
  obtain ⟨v, H1, I1, ru, m1, S1, d, e1, r1, rv, q1⟩ := h1
  exact hm.run true pins s1 σ H1 Dn v u I1 ru ⟨m1, S1, L, d, r1, l.ext e1, rv, q1⟩
end
end VL

/-! dicts whose keys are ints and texts -/
namespace VL
open PySem PySem.Spec PyProof.Rows L2
def keyD : D → Option Key
  | .int i => some (.inl i)
  | .str x => some (.inr x)
  | _ => none
def keyV : Key → D
  | .inl i => .int i
  | .inr x => .str x
theorem key_run {g : G} {m : Mp} {H : Hp} {d : D} {v : V} {k : Key} (h : RV g m H d v) (e : keyD d = some k) : v = kV k := by
  cases d with
  | int i => cases e; exact of_int h
  | str i => cases e; exact of_str h
  | _ => cases e
theorem keyV_run {g : G} {m : Mp} {H : Hp} (k : Key) : RV g m H (keyV k) (kV k) := by
  cases k with
  | inl i => exact rv_int
  | inr x => exact rv_str
def lookK : List Key → List D → Key → Option D
  | k' :: ks, d :: ds, k => if k' = k then some d else lookK ks ds k
  | _, _, _ => none
def hasK (ks : List Key) (k : Key) : Bool := ks.any fun k' => decide (k' = k)
def putKs (ks : List Key) (k : Key) : List Key := if hasK ks k = true then ks else ks ++ [k]
def putVs (ks : List Key) (ds : List D) (k : Key) (d : D) : List D := if hasK ks k = true then List.zipWith (fun k' d' => if k' = k then d else d') ks ds else ds ++ [d]
def dropVs : List Key → List D → Key → List D
  | k' :: ks, d :: ds, k => if k' = k then dropVs ks ds k else d :: dropVs ks ds k
  | _, _, _ => []
def dropKs (ks : List Key) (k : Key) : List Key := ks.filter fun k' => decide (k' ≠ k)
section
variable {g : G} {m : Mp} {H : Hp}
theorem look_run : ∀ {kvs : List (Key × V)} {ds : List D}, RVs g m H ds (kvs.map (·.2)) → ∀ k, (∀ d, lookK (kvs.map (·.1)) ds k = some d → ∃ v, valV kvs k = some v ∧ RV g m H d v) ∧ (lookK (kvs.map (·.1)) ds k = none → valV kvs k = none)
  | [], ds, h, k => ⟨fun d e => by cases ds <;> simp [lookK] at e, fun _ => valV_nil⟩
  | (k', v) :: kvs, [], h, k => by have := h.nil_iff; simp at this
  | (k', v) :: kvs, d :: ds, h, k => by
    obtain ⟨v', r, e, h1, h2⟩ := h.cons_iff
    simp only [List.map_cons, List.cons.injEq] at e
    obtain ⟨rfl, rfl⟩ := e
    obtain ⟨i1, i2⟩ := look_run h2 k
    simp only [List.map_cons, lookK]
    by_cases e : k' = k
    · rw [if_pos e]
      refine ⟨fun d' e' => ?_, fun e' => by cases e'⟩
      cases e'
      exact ⟨_, valV_pos (p := (k', v)) e, h1⟩
    · rw [if_neg e, valV_neg (p := (k', v)) e]
      exact ⟨i1, i2⟩
theorem any_mem (k : Key) (kvs : List (Key × V)) : (kvs.any fun kv => decide (kv.1 = k)) = hasK (kvs.map (·.1)) k := by
  unfold hasK
  rw [List.any_map]
  rfl
theorem zip_run {k : Key} {d : D} {v : V} (hv : RV g m H d v) : ∀ {kvs : List (Key × V)} {ds : List D}, RVs g m H ds (kvs.map (·.2)) →
    RVs g m H (List.zipWith (fun k' d' => if k' = k then d else d') (kvs.map (·.1)) ds) ((kvs.map fun kv => if kv.1 = k then (kv.1, v) else kv).map (·.2))
  | [], ds, h => by cases ds <;> simpa using RVs.nil
  | (k', v') :: kvs, [], h => by have := h.nil_iff; simp at this
  | (k', v') :: kvs, d' :: ds, h => by
    obtain ⟨v2, r, e, h1, h2⟩ := h.cons_iff
    simp only [List.map_cons, List.cons.injEq] at e
    obtain ⟨rfl, rfl⟩ := e
    simp only [List.map_cons, List.zipWith_cons_cons]
    refine .cons ?_ (zip_run hv h2)
    by_cases e : k' = k
    · simp only [e, if_true]; exact hv
    · simp only [e, if_false]; exact h1
theorem put_run {kvs : List (Key × V)} {ds : List D} {k : Key} {d : D} {v : V} (h : RVs g m H ds (kvs.map (·.2))) (hv : RV g m H d v) :
    (putK kvs k v).map (·.1) = putKs (kvs.map (·.1)) k ∧ RVs g m H (putVs (kvs.map (·.1)) ds k d) ((putK kvs k v).map (·.2)) := by
  unfold putK putKs putVs
  rw [any_mem]
  by_cases e : hasK (kvs.map (·.1)) k = true
  · rw [if_pos e, if_pos e, if_pos e]
    refine ⟨?_, zip_run hv h⟩
    rw [List.map_map]
    apply List.map_congr_left
    intro a _
    show (if a.1 = k then (a.1, v) else a).1 = a.1
    split <;> rfl
  · rw [if_neg e, if_neg e, if_neg e]
    refine ⟨by simp, ?_⟩
    rw [List.map_append]
    exact h.append (.cons hv .nil)
theorem drop_run {k : Key} : ∀ {kvs : List (Key × V)} {ds : List D}, RVs g m H ds (kvs.map (·.2)) → (dropK kvs k).map (·.1) = dropKs (kvs.map (·.1)) k ∧ RVs g m H (dropVs (kvs.map (·.1)) ds k) ((dropK kvs k).map (·.2))
  | [], ds, h => by cases ds <;> exact ⟨rfl, .nil⟩
  | (k', v') :: kvs, [], h => by have := h.nil_iff; simp at this
  | (k', v') :: kvs, d' :: ds, h => by
    obtain ⟨v2, r, e, h1, h2⟩ := h.cons_iff
    simp only [List.map_cons, List.cons.injEq] at e
    obtain ⟨rfl, rfl⟩ := e
    obtain ⟨i1, i2⟩ := drop_run (k := k) h2
    unfold dropK dropKs at i1 ⊢
    unfold dropK at i2
    simp only [List.map_cons, dropVs, List.filter_cons]
    by_cases e : k' = k
    · subst e
      simp only [ne_eq, not_true_eq_false, decide_false, if_false, if_true, Bool.false_eq_true]
      exact ⟨i1, i2⟩
    · simp only [e, ne_eq, not_false_eq_true, decide_true, if_true, if_false, List.map_cons]
      exact ⟨by rw [i1], .cons h1 i2⟩
theorem len_put (ks : List Key) (k : Key) : (putKs ks k).length ≤ ks.length + 1 := by
  unfold putKs
  split
  · omega
  · simp
/-- reading a dict -/
def dicOf (d : D) (S : Sto) : Option (List Key × List D) := match d with
  | .dic ks ds => some (ks, ds)
  | .ref n => match S[n]? with
    | some (.dic ks ds) => some (ks, ds)
    | some (.dlk ks ds) => some (ks, ds)
    | _ => none
  | _ => none
theorem dic_run {S : Sto} (r : Rel g m S H) {d : D} {v : V} (rv : RV g m H d v) {p : List Key × List D} (e : dicOf d S = some p) : ∃ a kvs, v = .ref a ∧ Rd H a (.dK kvs) ∧ kvs.map (·.1) = p.1 ∧ RVs g m H p.2 (kvs.map (·.2)) := by
  unfold dicOf at e
  cases d with
  | dic ks ds =>
    cases e
    obtain ⟨a, kvs, rfl, h1, _, h2, h3⟩ := of_dic rv
    exact ⟨a, kvs, rfl, h1, h2, h3⟩
  | ref n =>
    simp only at e
    split at e
    · rename_i e0
      cases e
      obtain ⟨a, o, rfl, _, h1, kvs, rfl, h2, h3⟩ := r.at rv e0 (by intro z; cases z)
      exact ⟨a, kvs, rfl, .inl h1, h2, h3⟩
    · rename_i e0
      cases e
      obtain ⟨a, o, rfl, _, h1, od, kvs, rfl, h2, h3⟩ := r.at rv e0 (by intro z; cases z)
      exact ⟨a, kvs, rfl, .inr ⟨od, h1⟩, h2, h3⟩
    · cases e
  | _ => cases e
/-! dicts with tuples as keys -/
def keyL : List D → Option (List Key)
  | [] => some []
  | d :: ds => match keyD d, keyL ds with
    | some k, some ks => some (k :: ks)
    | _, _ => none
def keyT : D → Option (List Key)
  | .tup ds => keyL ds
  | _ => none
theorem keyL_run : ∀ {ds : List D} {vs : List V} {ks : List Key}, RVs g m H ds vs → keyL ds = some ks → vs = ks.map kV
  | [], vs, ks, h, e => by cases e; exact h.nil_iff
  | d :: ds, vs, ks, h, e => by
    obtain ⟨v, r, rfl, h1, h2⟩ := h.cons_iff
    simp only [keyL] at e
    split at e
    · rename_i e1 e2
      cases e
      rw [key_run h1 e1, keyL_run h2 e2]
      rfl
    · cases e
def lookT : List (List Key) → List D → List Key → Option D
  | k' :: ks, d :: ds, k => if k' = k then some d else lookT ks ds k
  | _, _, _ => none
theorem lookT_run : ∀ {kvs : List (List Key × V)} {ds : List D}, RVs g m H ds (kvs.map (·.2)) → ∀ k, (∀ d, lookT (kvs.map (·.1)) ds k = some d → ∃ v, valV kvs k = some v ∧ RV g m H d v) ∧ (lookT (kvs.map (·.1)) ds k = none → valV kvs k = none)
  | [], ds, h, k => ⟨fun d e => by cases ds <;> simp [lookT] at e, fun _ => valV_nil⟩
  | (k', v) :: kvs, [], h, k => by have := h.nil_iff; simp at this
  | (k', v) :: kvs, d :: ds, h, k => by
    obtain ⟨v', r, e, h1, h2⟩ := h.cons_iff
    simp only [List.map_cons, List.cons.injEq] at e
    obtain ⟨rfl, rfl⟩ := e
    obtain ⟨i1, i2⟩ := lookT_run h2 k
    simp only [List.map_cons, lookT]
    by_cases e : k' = k
    · rw [if_pos e]
      refine ⟨fun d' e' => ?_, fun e' => by cases e'⟩
      cases e'
      exact ⟨_, valV_pos (p := (k', v)) e, h1⟩
    · rw [if_neg e, valV_neg (p := (k', v)) e]
      exact ⟨i1, i2⟩
def dctOf (d : D) (S : Sto) : Option (List (List Key) × List D) := match d with
  | .dct ks ds => some (ks, ds)
  | .ref n => match S[n]? with
    | some (.dct ks ds) => some (ks, ds)
    | _ => none
  | _ => none
theorem dct_run {S : Sto} (r : Rel g m S H) {d : D} {v : V} (rv : RV g m H d v) {p : List (List Key) × List D} (e : dctOf d S = some p) : ∃ a kvs, v = .ref a ∧ Rd H a (.dT kvs) ∧ kvs.map (·.1) = p.1 ∧ RVs g m H p.2 (kvs.map (·.2)) := by
  unfold dctOf at e
  cases d with
  | dct ks ds =>
    cases e
    obtain ⟨a, kvs, rfl, h1, _, h2, h3⟩ := of_dct rv
    exact ⟨a, kvs, rfl, h1, h2, h3⟩
  | ref n =>
    simp only at e
    split at e
    · rename_i e0
      cases e
      obtain ⟨a, o, rfl, _, h1, kvs, rfl, h2, h3⟩ := r.at rv e0 (by intro z; cases z)
      exact ⟨a, kvs, rfl, .inl h1, h2, h3⟩
    · cases e
  | _ => cases e
end
section
variable {X : Cx} {g : G} {E : XD}
/-! d[k] -/
def ix2D (x y : D) (S : Sto) : R D := match dicOf x S with
  | some p => match keyD y with
    | some k => match lookK p.1 p.2 k with
      | some d => .ok d S
      | none => .bad
    | none => .bad
  | none => ixD x y S
theorem ix_dict (hu : X.A.units + 1 < cLine) : IxR X (fun x y H Q => ∃ a v, x = .ref a ∧ DGet H a y (some v) ∧ Q v H) := by
  intro value slice pins s σ H x y v u Q I rx ry h hs
  obtain ⟨a, z, rfl, dg, q⟩ := h
  cases rx
  have hT := dict_typeIs I dg
  unfold subscriptTail
  refine wpAny_bind ?_
  rw [getitemInPython_of_ne hT.not_modules]
  refine wpAny_bind (wpAny_specialOf hT PySem.F.slot_dict_getitem.lookup ?_)
  have fin : wpAny (model X.prog X.w) X.A (subscripted slice false (.ref a) u) (fun r s₃ => wpAny (model X.prog X.w) X.A (letTemporaryGo value (.ref a) r >>= fun _ => pure r) (EP X pins σ Q) X.xe s₃) X.xe s := by
    rw [hs]
    exact wpAny_operating (thn (d_getItem (Q := EP X pins σ Q) hu I dg ry fun w' s3 I3 rw' => ⟨z, H, I3, rw', q⟩) fun r s₃ h₃ => wpAny_bind (wpAny_letTemporaryGo (wpAny_pure h₃)))
  first
    | exact wpAny_pure (wpAny_bind fin)
    | exact wpAny_bind (wpAny_pure (wpAny_bind fin))
    | exact wpAny_bind fin
theorem xd_ix2 (hK : X.K = g.K) (hu : X.A.units + 64 < cLine) : IxR X (rD2 g E (ix2D)) := by
  intro value slice pins s σ H x y v u Q I rx ry h hs
  obtain ⟨m, S, d, d', r, h1, h2, q⟩ := h
  unfold ix2D at q
  split at q
  · rename_i p ep
    split at q
    · rename_i k ek
      split at q
      · rename_i z ez
        obtain ⟨a, kvs, rfl, hr, e1, e2⟩ := dic_run r h1 ep
        rw [← e1] at ez
        obtain ⟨w, w1, w2⟩ := (look_run e2 k).1 _ ez
        exact ix_dict (by omega) value slice pins s σ H _ _ v u Q I rx ry ⟨a, w, rfl, .inl ⟨kvs, k, hr, key_run h2 ek, w1.symm⟩, q.ok r _ w2⟩ hs
      · exact q.elim
    · exact q.elim
  · exact xd_ix hK value slice pins s σ H x y v u Q I rx ry ⟨m, S, d, d', r, h1, h2, q⟩ hs
/-! d[k] = v -/
def set2D (x y z : D) (S : Sto) : R Unit := match x with
  | .ref n => match S[n]? with
    | some (.dic ks ds) => match keyD y with
      | some k => if ks.length < sizeLine then .ok () (S.set n (.dic (putKs ks k) (putVs ks ds k z))) else .bad
      | none => .bad
    | _ => setD x y z S
  | _ => .bad
theorem sd_set2 (hu : X.A.units + 64 < cLine) : PSet X (rSet g E set2D) := by
  intro pins s σ H o i v ov iv u Q I ro ri rv h
  obtain ⟨m, S, d1, d2, d3, r, h1, h2, h3, q⟩ := h
  unfold set2D at q
  split at q
  · rename_i n
    split at q
    · rename_i ks ds e0
      split at q
      · rename_i k ek
        split at q
        · rename_i hz
          obtain ⟨a, ob, rfl, ha, e1, kvs, rfl, e2, e3⟩ := r.at h1 e0 (by intro z; cases z)
          cases ro
          obtain ⟨p1, p2⟩ := put_run (k := k) e3 h3
          rw [e2] at p1 p2
          have hl : kvs.length < sizeLine := by rw [← e2, List.length_map] at hz; exact hz
          refine d_setItem (by omega) I (y := i) (.inl ⟨kvs, k, e1, key_run h2 ek, hl, rfl⟩) ri rv fun s' I' => ⟨_, I', ?_⟩
          exact q.at (ext_set r ha e0) (r.set (ob' := .dic (putKs ks k) (putVs ks ds k d3)) ha e0 ⟨_, rfl, p1, p2⟩)
        · exact q.elim
      · exact q.elim
    · exact sd_set pins s σ H o i v ov iv u Q I ro ri rv ⟨m, S, _, d2, d3, r, h1, h2, h3, q⟩
  · exact q.elim
end
end VL

namespace VL
open PySem PySem.Spec PyProof.Rows L2
section
variable {X : Cx} {g : G} {E : XD}
/-! x in y -/
def vOf : D → Option V
  | .non => some .non
  | .bl b => some (.bl b)
  | .int i => some (.int i)
  | .str x => some (.str x)
  | _ => none
theorem vOf_run {m : Mp} {H : Hp} {d : D} {v w : V} (h : RV g m H d v) (e : vOf d = some w) : v = w ∧ flatV w = true := by
  cases d with
  | non => cases e; exact ⟨of_non h, rfl⟩
  | bl b => cases e; exact ⟨of_bl h, rfl⟩
  | int b => cases e; exact ⟨of_int h, rfl⟩
  | str b => cases e; exact ⟨of_str h, rfl⟩
  | _ => cases e
def vsOf : List D → Option (List V)
  | [] => some []
  | d :: ds => match vOf d, vsOf ds with
    | some v, some vs => some (v :: vs)
    | _, _ => none
theorem vsOf_run {m : Mp} {H : Hp} : ∀ {ds : List D} {vs ws : List V}, RVs g m H ds vs → vsOf ds = some ws → vs = ws ∧ ws.all flatV = true
  | [], vs, ws, h, e => by cases e; exact ⟨h.nil_iff, rfl⟩
  | d :: ds, vs, ws, h, e => by
    obtain ⟨v, r, rfl, h1, h2⟩ := h.cons_iff
    simp only [vsOf] at e
    split at e
    · rename_i a b e1 e2
      cases e
      obtain ⟨rfl, f1⟩ := vOf_run h1 e1
      obtain ⟨rfl, f2⟩ := vsOf_run h2 e2
      exact ⟨rfl, by simp [f1, f2]⟩
    · cases e
def itemsOf (d : D) (S : Sto) : Option (List D) := match d with
  | .tup ds => some ds
  | .ctp ds => some ds
  | d => lstOf d S
theorem items_run {m : Mp} {S : Sto} {H : Hp} (r : Rel g m S H) {d : D} {v : V} (rv : RV g m H d v) {ds : List D} (e : itemsOf d S = some ds) : ∃ a vs, v = .ref a ∧ (SqL g.K H a vs ∨ SqT g.K H a vs) ∧ RVs g m H ds vs := by
  unfold itemsOf at e
  split at e
  · cases e
    obtain ⟨a, vs, rfl, h1, h2⟩ := of_tup rv
    exact ⟨a, vs, rfl, .inr h1, h2⟩
  · cases e
    obtain ⟨a, vs, rfl, h1, h2⟩ := of_ctp rv
    exact ⟨a, vs, rfl, .inr h1.sq, h2⟩
  · obtain ⟨a, vs, rfl, h1, h2⟩ := lst_run r rv e
    exact ⟨a, vs, rfl, .inl h1, h2⟩
def inStr (a z : Str) : Bool := match a.cps.toList with
  | [c] => decide (c ∈ z.cps.toList)
  | _ => !(Builtin.Str.occurrences z a 0 z.length 1).isEmpty
def inD (neg : Bool) (x y : D) (S : Sto) : R D := match y with
  | .str z => match x with
    | .str a => .ok (.bl (neg != inStr a z)) S
    | _ => .bad
  | y => match dicOf y S with
    | some p => match keyD x with
      | some k => .ok (.bl (neg != (lookK p.1 p.2 k).isSome)) S
      | none => .bad
    | none => match itemsOf y S with
      | some ds => match vOf x, vsOf ds with
        | some v, some vs => .ok (.bl (neg != inV v vs)) S
        | _, _ => match lstOf y S with
          | some ds => match toP S 65 x, mapO (toP S 64) ds with
            | some p, some ps => if SeqAt.shaped p = true ∧ SeqAt.shaped (.list ps) = true then .ok (.bl (neg != ps.any fun z => PyData.eqv z p)) S else .bad
            | _, _ => .bad
          | none => .bad
      | none => .bad
theorem sign_of {a : Str} {c : Nat} (h : a.cps.toList = [c]) : a = ⟨#[c]⟩ := by
  cases a with
  | mk cps =>
    have : cps = #[c] := by
      apply Array.toList_inj.mp
      exact h
    rw [this]
theorem look_some {m : Mp} {H : Hp} {kvs : List (Key × V)} {ds : List D} (h : RVs g m H ds (kvs.map (·.2))) (k : Key) : (lookK (kvs.map (·.1)) ds k).isSome = (valV kvs k).isSome := by
  obtain ⟨h1, h2⟩ := look_run h k
  cases e : lookK (kvs.map (·.1)) ds k with
  | some d => obtain ⟨v, e1, _⟩ := h1 d e; rw [e1]; rfl
  | none => rw [h2 e]; rfl
theorem od_in (hK : X.K = g.K) (hu : X.A.units + 65 < cLine) : OpR X (compareOp .In) (rD2 g E (inD false)) := by
  intro pins s σ H x y v u Q I rx ry h
  obtain ⟨m, S, d, d', r, h1, h2, q⟩ := h
  unfold inD at q
  split at q
  · rename_i z
    split at q
    · rename_i a
      have ex := of_str h1
      have ey := of_str h2
      subst ex ey
      unfold inStr at q
      split at q
      · rename_i c hc
        have := sign_of hc
        subst this
        exact op_in_sign pins s σ H _ _ v u Q I rx ry ⟨c, z, rfl, rfl, q.ok r _ (by simp [rv_bl])⟩
      · exact op_in_str pins s σ H _ _ v u Q I rx ry ⟨_, _, rfl, rfl, q.ok r _ (by simp [rv_bl])⟩
    · exact q.elim
  · split at q
    · rename_i p ep
      split at q
      · rename_i k ek
        obtain ⟨a, kvs, rfl, hr, e1, e2⟩ := dic_run r h2 ep
        rw [← e1] at q
        rw [look_some e2 k] at q
        cases ry
        exact d_in (by omega) I (.inl ⟨kvs, k, hr, key_run h1 ek, rfl⟩) rx fun s' I' => ⟨.bl _, H, I', rfl, q.ok r _ (by simp [rv_bl])⟩
      · exact q.elim
    · split at q
      · rename_i ds ed
        split at q
        · rename_i w ws ew es
          obtain ⟨a, vs, rfl, hs, e2⟩ := items_run r h2 ed
          obtain ⟨rfl, f1⟩ := vOf_run h1 ew
          obtain ⟨rfl, f2⟩ := vsOf_run e2 es
          exact op_in_seq pins s σ H _ _ v u Q I rx ry ⟨a, vs, rfl, by rw [hK]; exact hs, f1, f2, q.ok r _ (by simp [rv_bl])⟩
        · split at q
          · rename_i ds2 ed2
            split at q
            · rename_i p ps e3 e4
              split at q
              · rename_i hs
                obtain ⟨a, vs, rfl, hl, e2⟩ := lst_run r h2 ed2
                exact op_inD (by omega) pins s σ H _ _ v u Q I rx ry ⟨p, ps, by rw [hK]; exact toP_run r _ h1 e3, by rw [hK]; exact .lst hl (mapO_run (fun h e => toP_run r _ h e) e2 e4), hs.1, hs.2, q.ok r _ (by simp [rv_bl])⟩
              · exact q.elim
            · exact q.elim
          · exact q.elim
      · exact q.elim
theorem od_notin (hK : X.K = g.K) (hu : X.A.units + 65 < cLine) : OpR X (compareOp .NotIn) (rD2 g E (inD true)) := by
  intro pins s σ H x y v u Q I rx ry h
  obtain ⟨m, S, d, d', r, h1, h2, q⟩ := h
  unfold inD at q
  split at q
  · rename_i z
    split at q
    · rename_i a
      have ex := of_str h1
      have ey := of_str h2
      subst ex ey
      unfold inStr at q
      split at q
      · rename_i c hc
        have := sign_of hc
        subst this
        exact op_notIn_sign pins s σ H _ _ v u Q I rx ry ⟨c, z, rfl, rfl, q.ok r _ (by simp [rv_bl])⟩
      · exact op_notIn_str pins s σ H _ _ v u Q I rx ry ⟨_, _, rfl, rfl, q.ok r _ (by simp [rv_bl])⟩
    · exact q.elim
  · split at q
    · rename_i p ep
      split at q
      · rename_i k ek
        obtain ⟨a, kvs, rfl, hr, e1, e2⟩ := dic_run r h2 ep
        rw [← e1] at q
        rw [look_some e2 k] at q
        cases ry
        exact d_notIn (by omega) I (.inl ⟨kvs, k, hr, key_run h1 ek, rfl⟩) rx fun s' I' => ⟨.bl _, H, I', rfl, q.ok r _ (by simp [rv_bl])⟩
      · exact q.elim
    · split at q
      · rename_i ds ed
        split at q
        · rename_i w ws ew es
          obtain ⟨a, vs, rfl, hs, e2⟩ := items_run r h2 ed
          obtain ⟨rfl, f1⟩ := vOf_run h1 ew
          obtain ⟨rfl, f2⟩ := vsOf_run e2 es
          exact op_notIn_seq pins s σ H _ _ v u Q I rx ry ⟨a, vs, rfl, by rw [hK]; exact hs, f1, f2, q.ok r _ (by simp [rv_bl])⟩
        · split at q
          · rename_i ds2 ed2
            split at q
            · rename_i p ps e3 e4
              split at q
              · rename_i hs
                obtain ⟨a, vs, rfl, hl, e2⟩ := lst_run r h2 ed2
                exact op_notInD (by omega) pins s σ H _ _ v u Q I rx ry ⟨p, ps, by rw [hK]; exact toP_run r _ h1 e3, by rw [hK]; exact .lst hl (mapO_run (fun h e => toP_run r _ h e) e2 e4), hs.1, hs.2, q.ok r _ (by simp [rv_bl])⟩
              · exact q.elim
            · exact q.elim
          · exact q.elim
      · exact q.elim
/-! // of any sign, * of texts and tuples, str -/
theorem op_fdivA : OpR X (binaryOp .FloorDiv) (rI (fun _ j => j ≠ 0 ∧ j.natAbs.log2 < 9000) fun i j => .int (i.fdiv j)) := opI fun i j _ _ _ _ _ hc q => floordiv_int hc.1 q (.inl (PyProof.noPylong_of_log2 hc.2))
def fdiv2D (x y : D) (S : Sto) : R D := match x, y with
  | .int i, .int j => if j ≠ 0 ∧ j.natAbs.log2 < 9000 then .ok (.int (i.fdiv j)) S else .bad
  | _, _ => .bad
theorem od_fdiv2 : OpR X (binaryOp .FloorDiv) (rD2 g E fdiv2D) := by
  intro pins s σ H x y v u Q I rx ry h
  obtain ⟨m, S, d, d', r, h1, h2, q⟩ := h
  unfold fdiv2D at q
  split at q
  · split at q
    · rename_i hz
      exact op_fdivA pins s σ H x y v u Q I rx ry ⟨_, _, of_int h1, of_int h2, hz, q.ok r _ rv_int⟩
    · exact q.elim
  · exact q.elim
def mul2D (x y : D) (S : Sto) : R D := match x, y with
  | .str a, .int k => if 0 ≤ k ∧ k ≤ 10000 ∧ a.length ≤ 1000 then .ok (.str (Txt.mul a k)) S else .bad
  | .tup ds, .int k => if ds ≠ [] ∧ 2 ≤ k ∧ k ≤ 1000 ∧ ds.length ≤ 1000 then .ok (.tup (List.replicate k.toNat ds).flatten) S else .bad
  | x, y => mulD x y S
theorem od_mul2 (hK : X.K = g.K) : OpR X (binaryOp .Mult) (rD2 g E mul2D) := by
  intro pins s σ H x y v u Q I rx ry h
  obtain ⟨m, S, d, d', r, h1, h2, q⟩ := h
  unfold mul2D at q
  split at q
  · rename_i a k
    split at q
    · rename_i hz
      have ex := of_str h1
      have ey := of_int h2
      subst ex ey
      obtain ⟨t, rfl⟩ := (show ∃ t, v = Value.str a t from rx)
      obtain ⟨t', rfl⟩ := (show ∃ t, u = Value.int k t from ry)
      have hm : MulOk a k := by
        refine ⟨by simp; omega, fun h1 _ => ?_, fun h1 _ => ?_⟩
        · intro hh
          have : (a.length : Int) ≤ 1000 := by exact_mod_cast hz.2.2
          have h3 : (1000 : Int) ≤ (2 ^ 63 - 1) / k := by
            rw [Int.le_ediv_iff_mul_le (by omega)]
            omega
          omega
        · show decide (_ > sizeLine) = false
          have h3 : a.length * k.toNat ≤ 1000 * 10000 := Nat.mul_le_mul hz.2.2 (by omega)
          have h4 : (1000 * 10000 : Nat) ≤ sizeLine := by decide
          simp; omega
      exact SB.mul hm fun t2 k2 => ⟨.str _, H, I.tok _, ⟨_, rfl⟩, q.ok r _ rv_str⟩
    · exact q.elim
  · rename_i ds k
    split at q
    · rename_i hz
      obtain ⟨a, vs, rfl, s1, v1⟩ := of_tup h1
      refine op_repT pins s σ H _ _ v u Q I rx ry ⟨a, k, vs, rfl, of_int h2, by rw [hK]; exact s1, ?_, hz.2.1, hz.2.2.1, by rw [v1.length]; exact hz.2.2.2, fun p hp => ?_⟩
      · rintro rfl
        have := v1.length
        exact hz.1 (List.length_eq_zero_iff.mp this.symm)
      · exact q.at (ext_lay r hp) (r.lay hp) _ (rv_tupv ⟨upd_same, r.un hp⟩ ((v1.rep _).ext (ext_lay r hp)))
    · exact q.elim
  · exact od_mul pins s σ H x y v u Q I rx ry ⟨m, S, d, d', r, h1, h2, q⟩
def strD (ds : List D) (S : Sto) : R D := match ds with
  | [.int i] => if i.natAbs.log2 < 1920 then .ok (.str (toString i)) S else .bad
  | [.str a] => .ok (.str a) S
  | _ => .bad
theorem cd_str : CallR X (.type "str") (rDs g E strD) := by
  intro pins s σ H xs us Q I r h
  obtain ⟨m, S, ds, rl, h1, q⟩ := h
  unfold strD at q
  split at q
  · split at q
    · rename_i hz
      obtain ⟨v, rfl, h2⟩ := rvs1 h1
      exact call_str_int pins s σ H _ us Q I r ⟨_, by rw [of_int h2], hz, q.ok rl _ rv_str⟩
    · exact q.elim
  · obtain ⟨v, rfl, h2⟩ := rvs1 h1
    exact SkE.call_str_str pins s σ H _ us Q I r ⟨_, by rw [of_str h2], q.ok rl _ rv_str⟩
  · exact q.elim
/-! len, list, dict of a dict -/
def len2D (ds : List D) (S : Sto) : R D := match ds with
  | [x] => match dicOf x S with
    | some p => .ok (.int p.1.length) S
    | none => lenD [x] S
  | _ => .bad
theorem cd_len2 (hK : X.K = g.K) : CallR X (.builtin "len") (rDs g E (len2D)) := by
  intro pins s σ H xs us Q I r h
  obtain ⟨m, S, ds, rl, h1, q⟩ := h
  unfold len2D at q
  split at q
  · split at q
    · rename_i p ep
      obtain ⟨v, rfl, h2⟩ := rvs1 h1
      obtain ⟨a, kvs, rfl, hr, e1, e2⟩ := dic_run rl h2 ep
      obtain ⟨u, rfl, ru⟩ := vals1 r
      cases ru
      have hl : p.1.length = kvs.length := by rw [← e1, List.length_map]
      exact d_len I hr fun t s' I' => ⟨.int _, H, I', ⟨t, rfl⟩, by rw [hl] at q; exact q.ok rl _ rv_int⟩
    · exact cd_len hK pins s σ H xs us Q I r ⟨m, S, _, rl, h1, q⟩
  · exact q.elim
/-- a new list, a new dict: by value, or (mu) one that will be changed -/
def nwL (mu : Bool) (xs : List D) (S : Sto) : R D := if mu = true then .ok (.ref S.length) (S ++ [.lst xs]) else .ok (.lst xs) S
def nwD (mu : Bool) (ks : List Key) (xs : List D) (S : Sto) : R D := if mu = true then .ok (.ref S.length) (S ++ [.dic ks xs]) else .ok (.dic ks xs) S
theorem nwL_run {mu : Bool} {m : Mp} {S : Sto} {H : Hp} {Q : VK} {xs : List D} {vs : List V} (q : Aft g E m H (nwL mu xs S) (vQ g Q)) (r : Rel g m S H) (rv : RVs g m H xs vs) {p : Addr} (hp : H p = none) : Q (.ref p) (upd H p (.lst vs)) := by
  unfold nwL at q
  split at q
  · exact q.at (ext_new r hp) (r.alloc hp ⟨vs, rfl, rv⟩) _ (rv_ref r.last)
  · exact q.at (ext_lay r hp) (r.lay hp) _ (rv_lst upd_same (r.un hp) (rv.ext (ext_lay r hp)))
theorem nwD_run {mu : Bool} {m : Mp} {S : Sto} {H : Hp} {Q : VK} {ks : List Key} {xs : List D} {kvs : List (Key × V)} (q : Aft g E m H (nwD mu ks xs S) (vQ g Q)) (r : Rel g m S H) (hk : kvs.map (·.1) = ks) (rv : RVs g m H xs (kvs.map (·.2))) {p : Addr} (hp : H p = none) : Q (.ref p) (upd H p (.dK kvs)) := by
  unfold nwD at q
  split at q
  · exact q.at (ext_new r hp) (r.alloc hp ⟨kvs, rfl, hk, rv⟩) _ (rv_ref r.last)
  · exact q.at (ext_lay r hp) (r.lay hp) _ (rv_dic (.of upd_same) (r.un hp) hk (rv.ext (ext_lay r hp)))
def listD (mu : Bool) (ds : List D) (S : Sto) : R D := match ds with
  | [x] => match dicOf x S with
    | some p => nwL mu (p.1.map keyV) S
    | none => match itemsOf x S with
      | some ds => nwL mu ds S
      | none => .bad
  | _ => .bad
theorem keys_run {m : Mp} {H : Hp} : ∀ ks : List Key, RVs g m H (ks.map keyV) (ks.map kV)
  | [] => .nil
  | k :: ks => .cons (keyV_run k) (keys_run ks)
theorem cd_list {mu : Bool} (hK : X.K = g.K) (hc : X.calm = true) : CallR X (.type "list") (rDs g E (listD mu)) := by
  intro pins s σ H xs us Q I r h
  obtain ⟨m, S, ds, rl, h1, q⟩ := h
  unfold listD at q
  split at q
  · split at q
    · rename_i p ep
      obtain ⟨v, rfl, h2⟩ := rvs1 h1
      obtain ⟨a, kvs, rfl, hr, e1, e2⟩ := dic_run rl h2 ep
      refine call_listD hc pins s σ H _ us Q I r ⟨a, kvs, rfl, hr, fun p hp => ?_⟩
      refine nwL_run q rl ?_ hp
      rw [← e1, List.map_map]
      have := keys_run (g := g) (m := m) (H := H) (kvs.map (·.1))
      rw [List.map_map, List.map_map] at this
      exact this
    · split at q
      · rename_i ds ed
        obtain ⟨v, rfl, h2⟩ := rvs1 h1
        obtain ⟨a, vs, rfl, hs, e2⟩ := items_run rl h2 ed
        refine call_list_of pins s σ H _ us Q I r ⟨a, vs, rfl, by rw [hK]; exact hs, fun p hp => ?_⟩
        exact nwL_run q rl e2 hp
      · exact q.elim
  · exact q.elim
/-- dict(x): of a dict, of a list of pairs -/
def mergeD (ks : List Key) (ds : List D) : List (Key × D) → List Key × List D
  | [] => (ks, ds)
  | (k, d) :: r => mergeD (putKs ks k) (putVs ks ds k d) r
def pairsD : List D → Option (List (Key × D))
  | [] => some []
  | .tup [a, b] :: r => match keyD a, pairsD r with
    | some k, some ps => some ((k, b) :: ps)
    | _, _ => none
  | _ :: _ => none
def dictD (mu : Bool) (ds : List D) (S : Sto) : R D := match ds with
  | [x] => match dicOf x S with
    | some p => nwD mu p.1 p.2 S
    | none => match lstOf x S with
      | some ds => match pairsD ds with
        | some ps => nwD mu (mergeD [] [] ps).1 (mergeD [] [] ps).2 S
        | none => .bad
      | none => .bad
  | _ => .bad
theorem merge_run {m : Mp} {H : Hp} : ∀ {ps : List (Key × D)} {qs : List (Key × V)} {kvs : List (Key × V)} {ds : List D}, ps.map (·.1) = qs.map (·.1) → RVs g m H (ps.map (·.2)) (qs.map (·.2)) → RVs g m H ds (kvs.map (·.2)) →
    (mergeK kvs qs).map (·.1) = (mergeD (kvs.map (·.1)) ds ps).1 ∧ RVs g m H (mergeD (kvs.map (·.1)) ds ps).2 ((mergeK kvs qs).map (·.2))
  | [], [], kvs, ds, _, _, h => ⟨rfl, h⟩
  | [], _ :: _, kvs, ds, e, _, h => by simp at e
  | _ :: _, [], kvs, ds, e, _, h => by simp at e
  | (k, d) :: ps, (k', v) :: qs, kvs, ds, e, h1, h => by
    simp only [List.map_cons, List.cons.injEq] at e
    obtain ⟨e0, e1⟩ := e
    have e0' : k = k' := e0
    subst e0'
    obtain ⟨v', r, e2, h2, h3⟩ := h1.cons_iff
    simp only [List.map_cons, List.cons.injEq] at e2
    obtain ⟨rfl, rfl⟩ := e2
    obtain ⟨p1, p2⟩ := put_run (k := k) h h2
    have := merge_run (kvs := putK kvs k v) e1 h3 p2
    rw [p1] at this
    exact this
theorem pairs_run {m : Mp} {H : Hp} : ∀ {ds : List D} {vs : List V} {ps : List (Key × D)}, RVs g m H ds vs → pairsD ds = some ps →
    ∃ (as : List Addr) (qs : List (Key × V)), vs = as.map V.ref ∧ Paired (fun p kv => SqT g.K H p [kV kv.1, kv.2]) as qs ∧ ps.map (·.1) = qs.map (·.1) ∧ RVs g m H (ps.map (·.2)) (qs.map (·.2))
  | [], vs, ps, h, e => by cases e; exact ⟨[], [], h.nil_iff, .nil, rfl, .nil⟩
  | d :: ds, vs, ps, h, e => by
    obtain ⟨v, r, rfl, h1, h2⟩ := h.cons_iff
    cases d with
    | tup xs =>
      match xs, h1, e with
      | [a, b], h1, e =>
        simp only [pairsD] at e
        split at e
        · rename_i k ps' e1 e2
          cases e
          obtain ⟨ad, ws, rfl, s1, v1⟩ := of_tup h1
          obtain ⟨x, y, rfl, hx, hy⟩ := rvs2 v1
          obtain ⟨as, qs, rfl, q1, q2, q3⟩ := pairs_run h2 e2
          have := key_run hx e1
          subst this
          exact ⟨ad :: as, (k, y) :: qs, rfl, .cons s1 q1, by simp [q2], .cons hy q3⟩
        · cases e
      | [], _, e => simp [pairsD] at e
      | [_], _, e => simp [pairsD] at e
      | _ :: _ :: _ :: _, _, e => simp [pairsD] at e
    | _ => simp [pairsD] at e
theorem cd_dict {mu : Bool} (hK : X.K = g.K) (hc : X.calm = true) : CallR X (.type "dict") (rDs g E (dictD mu)) := by
  intro pins s σ H xs us Q I r h
  obtain ⟨m, S, ds, rl, h1, q⟩ := h
  unfold dictD at q
  split at q
  · split at q
    · rename_i p ep
      obtain ⟨v, rfl, h2⟩ := rvs1 h1
      obtain ⟨a, kvs, rfl, hr, e1, e2⟩ := dic_run rl h2 ep
      refine call_dictD pins s σ H _ us Q I r ⟨a, kvs, rfl, hr, fun p' hp => ?_⟩
      exact nwD_run q rl e1 e2 hp
    · split at q
      · rename_i ds ed
        split at q
        · rename_i ps eps
          obtain ⟨v, rfl, h2⟩ := rvs1 h1
          obtain ⟨a, vs, rfl, hs, e2⟩ := lst_run rl h2 ed
          obtain ⟨as, qs, rfl, q1, q2, q3⟩ := pairs_run e2 eps
          obtain ⟨p1, p2⟩ := merge_run (kvs := []) (ds := []) q2 q3 .nil
          refine call_dictP hc pins s σ H _ us Q I r ⟨a, as, qs, rfl, by rw [hK]; exact hs, by rw [hK]; exact q1, fun p' hp => ?_⟩
          exact nwD_run q rl p1 p2 hp
        · exact q.elim
      · exact q.elim
  · exact q.elim
end
end VL

namespace VL
open PySem PySem.Spec PyProof.Rows L2
section
variable {X : Cx} {g : G} {E : XD} {o e f : Expr} {apos cpos pos : Pos} {eo ea eb : Lc → Sto → R D}
/-! d.get -/
def getD2 (x y z : D) (S : Sto) : R D := match dicOf x S with
  | some p => match keyD y with
    | some k => .ok ((lookK p.1 p.2 k).getD z) S
    | none => .bad
  | none => .bad
def eGet1 (eo ea : Lc → Sto → R D) : Lc → Sto → R D := fun L S => (eo L S).bind fun x S1 => if (dicOf x S1).isSome = true then (ea L S1).bind fun y S2 => getD2 x y .non S2 else .bad
def eGet2 (eo ea eb : Lc → Sto → R D) : Lc → Sto → R D := fun L S => (eo L S).bind fun x S1 => if (dicOf x S1).isSome = true then (ea L S1).bind fun y S2 => (eb L S2).bind fun z S3 => getD2 x y z S3 else .bad
theorem isD_run {m : Mp} {S : Sto} {H : Hp} (r : Rel g m S H) {d : D} {v : V} (rv : RV g m H d v) (h : (dicOf d S).isSome = true) : ∃ a, v = .ref a ∧ IsD H a := by
  cases e : dicOf d S with
  | none => rw [e] at h; cases h
  | some p =>
    obtain ⟨a, kvs, rfl, hr, _⟩ := dic_run r rv e
    exact ⟨a, rfl, .inl ⟨kvs, hr⟩⟩
theorem get_run {m : Mp} {S : Sto} {H : Hp} {x y z : D} {a : Addr} {vy vz : V} {Q : VK} (r : Rel g m S H) (hx : RV g m H x (.ref a)) (hy : RV g m H y vy) (hz : RV g m H z vz) (q : Aft g E m H (getD2 x y z S) (vQ g Q)) : ∃ o, DGet H a vy o ∧ Q (o.getD vz) H := by
  unfold getD2 at q
  split at q
  · rename_i p ep
    split at q
    · rename_i k ek
      obtain ⟨a', kvs, e0, hr, e1, e2⟩ := dic_run r hx ep
      cases e0
      obtain ⟨l1, l2⟩ := look_run e2 k
      refine ⟨valV kvs k, .inl ⟨kvs, k, hr, key_run hy ek, rfl⟩, ?_⟩
      rw [e1] at l1 l2
      cases el : lookK p.1 p.2 k with
      | none => rw [l2 el]; rw [el] at q; exact q.ok r _ hz
      | some d => obtain ⟨v, v1, v2⟩ := l1 d el; rw [v1]; rw [el] at q; exact q.ok r _ v2
    · exact q.elim
  · exact q.elim
theorem de_get1 (hu : X.A.units + 64 < cLine) (ho : PE X o (tD g E eo)) (he : PE X e (tD g E ea)) (m : M1 X o "get" apos e cpos) : PE X (.Call (.Attribute o "get" apos) [e] [] cpos) (tD g E (eGet1 eo ea)) := by
  refine (pe_dget1 (by omega) ho he m).imp fun σ H Q h => ?_
  obtain ⟨m, S, L, r, l, q⟩ := h
  refine ⟨m, S, L, r, l, (Aft.bind q).mono fun x m1 S1 H1 e1 r1 q1 v rv => ?_⟩
  split at q1
  · rename_i hd
    obtain ⟨a, rfl, ia⟩ := isD_run r1 rv hd
    refine ⟨a, rfl, ia, m1, S1, L, r1, l.ext e1, (Aft.bind q1).mono fun y m2 S2 H2 e2 r2 q2 vy ry => ?_⟩
    exact get_run r2 (rv.ext e2) ry rv_non q2
  · exact q1.elim
theorem de_get2 (hu : X.A.units + 64 < cLine) (ho : PE X o (tD g E eo)) (he : PE X e (tD g E ea)) (hf : PE X f (tD g E eb)) (m : M2 X o "get" apos e f cpos) : PE X (.Call (.Attribute o "get" apos) [e, f] [] cpos) (tD g E (eGet2 eo ea eb)) := by
  refine (pe_dget2 (by omega) ho he hf m).imp fun σ H Q h => ?_
  obtain ⟨m, S, L, r, l, q⟩ := h
  refine ⟨m, S, L, r, l, (Aft.bind q).mono fun x m1 S1 H1 e1 r1 q1 v rv => ?_⟩
  split at q1
  · rename_i hd
    obtain ⟨a, rfl, ia⟩ := isD_run r1 rv hd
    refine ⟨a, rfl, ia, m1, S1, L, r1, l.ext e1, (Aft.bind q1).mono fun y m2 S2 H2 e2 r2 q2 vy ry => ?_⟩
    refine ⟨m2, S2, L, r2, l.ext (e1.trans e2), (Aft.bind q2).mono fun z m3 S3 H3 e3 r3 q3 vz rz => ?_⟩
    exact get_run r3 (rv.ext (e2.trans e3)) (ry.ext e3) rz q3
  · exact q1.elim
/-! d.pop(k, x) -/
def ePop2 (eo ea eb : Lc → Sto → R D) : Lc → Sto → R D := fun L S => (eo L S).bind fun x S1 => if (dicOf x S1).isSome = true then (ea L S1).bind fun y S2 => (eb L S2).bind fun z S3 => match x with
  | .ref n => match S3[n]? with
    | some (.dic ks ds) => match keyD y with
      | some k => match lookK ks ds k with
        | some d => .ok d (S3.set n (.dic (dropKs ks k) (dropVs ks ds k)))
        | none => .ok z S3
      | none => .bad
    | _ => .bad
  | _ => .bad
  else .bad
theorem de_pop2 (ho : PE X o (tD g E eo)) (he : PE X e (tD g E ea)) (hf : PE X f (tD g E eb)) (m : M2 X o "pop" apos e f cpos) : PE X (.Call (.Attribute o "pop" apos) [e, f] [] cpos) (tD g E (ePop2 eo ea eb)) := by
  refine (pe_dpop2 ho he hf m).imp fun σ H Q h => ?_
  obtain ⟨m, S, L, r, l, q⟩ := h
  refine ⟨m, S, L, r, l, (Aft.bind q).mono fun x m1 S1 H1 e1 r1 q1 v rv => ?_⟩
  split at q1
  · rename_i hd
    obtain ⟨a, rfl, ia⟩ := isD_run r1 rv hd
    refine ⟨a, rfl, ia, m1, S1, L, r1, l.ext e1, (Aft.bind q1).mono fun y m2 S2 H2 e2 r2 q2 vy ry => ?_⟩
    refine ⟨m2, S2, L, r2, l.ext (e1.trans e2), (Aft.bind q2).mono fun z m3 S3 H3 e3 r3 q3 vz rz => ?_⟩
    split at q3
    · rename_i n
      split at q3
      · rename_i ks ds e0
        split at q3
        · rename_i k ek
          obtain ⟨a', ob, ea, ha, b1, kvs, rfl, b2, b3⟩ := r3.at (rv.ext (e2.trans e3)) e0 (by intro z; cases z)
          cases ea
          obtain ⟨l1, l2⟩ := look_run b3 k
          rw [b2] at l1 l2
          refine ⟨kvs, k, b1, key_run (ry.ext e3) ek, fun w hw => ?_, fun hw => ?_⟩
          · split at q3
            · rename_i d el
              obtain ⟨w', w1, w2⟩ := l1 d el
              rw [hw] at w1; cases w1
              obtain ⟨p1, p2⟩ := drop_run (k := k) b3
              rw [b2] at p1 p2
              exact q3.at (ext_set r3 ha e0) (r3.set (ob' := .dic (dropKs ks k) (dropVs ks ds k)) ha e0 ⟨_, rfl, p1, p2⟩) _ (w2.ext (ext_set r3 ha e0))
            · rename_i el
              rw [l2 el] at hw; cases hw
          · split at q3
            · rename_i d el
              obtain ⟨w', w1, w2⟩ := l1 d el
              rw [hw] at w1; cases w1
            · exact q3.ok r3 _ rz
        · exact q3.elim
      · exact q3.elim
    · exact q3.elim
  · exact q1.elim
/-! a written dict -/
abbrev EF := Lc → Sto → R D
def prsD : List (EF × EF) → Lc → Sto → R (List (D × D))
  | [] => fun _ S => .ok [] S
  | (a, b) :: r => fun L S => (a L S).bind fun x S1 => (b L S1).bind fun y S2 => (prsD r L S2).bind fun ps S3 => .ok ((x, y) :: ps) S3
def keysP : List (D × D) → Option (List (Key × D))
  | [] => some []
  | (a, b) :: r => match keyD a, keysP r with
    | some k, some ps => some ((k, b) :: ps)
    | _, _ => none
def eDisp (mu : Bool) (ps : List (EF × EF)) : EF := fun L S => (prsD ps L S).calm.bind fun kds S2 => match keysP kds with
  | some kps => if kps.length ≤ 15 then nwD mu (mergeD [] [] kps).1 (mergeD [] [] kps).2 S2 else .bad
  | none => .bad
inductive RP (g : G) (m : Mp) (H : Hp) : List (D × D) → List (V × V) → Prop
  | nil : RP g m H [] []
  | cons {a b : D} {x y : V} {r : List (D × D)} {t : List (V × V)} : RV g m H a x → RV g m H b y → RP g m H r t → RP g m H ((a, b) :: r) ((x, y) :: t)
theorem prs_run : ∀ {ps : List (EF × EF)} {σ : St} {H : Hp} {m : Mp} {S : Sto} {L : Lc} {Q : List (V × V) → Hp → Prop}, Rel g m S H → RL g m H L σ →
    Aft g E m H (prsD ps L S) (fun kds m' S' H' => ∀ vvs, RP g m' H' kds vvs → Q vvs H') → tPairs (ps.map fun p => (tD g E p.1, tD g E p.2)) σ H Q
  | [], σ, H, m, S, L, Q, r, l, q => q.ok r [] .nil
  | (a, b) :: ps, σ, H, m, S, L, Q, r, l, q => by
    refine ⟨m, S, L, r, l, (Aft.bind q).mono fun x m1 S1 H1 e1 r1 q1 v rv => ?_⟩
    refine ⟨m1, S1, L, r1, l.ext e1, (Aft.bind q1).mono fun y m2 S2 H2 e2 r2 q2 w rw' => ?_⟩
    refine prs_run r2 (l.ext (e1.trans e2)) ((Aft.bind q2).mono fun kds m3 S3 H3 e3 r3 q3 vvs hv => ?_)
    exact q3.ok r3 _ (.cons (rv.ext (e2.trans e3)) (rw'.ext e3) hv)
theorem keysP_run {m : Mp} {H : Hp} : ∀ {kds : List (D × D)} {vvs : List (V × V)} {kps : List (Key × D)}, RP g m H kds vvs → keysP kds = some kps →
    ∃ qs : List (Key × V), vvs = qs.map (fun kv => (kV kv.1, kv.2)) ∧ kps.map (·.1) = qs.map (·.1) ∧ RVs g m H (kps.map (·.2)) (qs.map (·.2))
  | _, _, kps, .nil, e => by cases e; exact ⟨[], rfl, rfl, .nil⟩
  | _, _, kps, .cons h1 h2 h3, e => by
    simp only [keysP] at e
    split at e
    · rename_i k ps e1 e2
      cases e
      obtain ⟨qs, rfl, q1, q2⟩ := keysP_run h3 e2
      have := key_run h1 e1
      subst this
      exact ⟨(k, _) :: qs, rfl, by simp [q1], .cons h2 q2⟩
    · cases e
theorem keysP_len : ∀ {kds : List (D × D)} {kps : List (Key × D)}, keysP kds = some kps → kps.length = kds.length
  | [], _, e => by cases e; rfl
  | (a, b) :: r, kps, e => by
    simp only [keysP] at e
    split at e
    · rename_i e2
      cases e
      simp [keysP_len e2]
    · cases e
/-- what was in the making is told at last -/
theorem mk_dic {mu : Bool} {m1 m' : Mp} {S1 S' : Sto} {H1 H' : Hp} {p : Addr} {kvs kvs' : List (Key × V)} {ks : List Key} {ds : List D} {Q : VK} (k : Mk1 g m1 H1 p (.dK kvs) m' S' H') (r1 : Rel g m1 S1 H1) (hp : H1 p = none) (hk : kvs'.map (·.1) = ks) (rv : RVs g m' H' ds (kvs'.map (·.2)))
    (q : Aft g E m1 H1 (nwD mu ks ds S') (vQ g Q)) : Q (.ref p) (upd H' p (.dK kvs')) := by
  obtain ⟨e7, k7⟩ := k.step (o' := .dK kvs') hp
  obtain ⟨hw, he, hr, hu⟩ := k7.done r1 hp
  have rv2 := (rv.extw e7).extw hw
  unfold nwD at q
  split at q
  · obtain ⟨_, he2, hr2, hl2⟩ := k7.toSto (ob := .dic ks ds) r1 hp ⟨kvs', rfl, hk, rv.extw e7⟩
    exact q.at he2 hr2 _ (rv_ref hl2)
  · exact q.at he hr _ (rv_dic (.of upd_same) hu hk rv2)
theorem de_disp {mu : Bool} {ps : List (EF × EF)} {keys : List (Option Expr)} {values : List Expr} (h : PPs X pos keys values (ps.map fun p => (tD g NoX p.1, tD g NoX p.2))) (hall : keys.all (·.isSome) = true) (hl : keys.length = values.length) (h0 : keys ≠ []) (h15 : keys.length ≤ 15) :
    PE X (.Dict keys values pos) (tD g E (eDisp mu ps)) := by
  refine (pe_disp h hall hl h0 h15).imp fun σ H Q h => ?_
  obtain ⟨m, S, L, r, l, q⟩ := h
  intro p hp
  have mk := Mk1.start (o := .dK []) r hp
  refine prs_run mk.r (l.extw mk.ex) ((Aft.calmA q (m.hold p) _).mono fun kds m2 S2 H2 e2 r2 q2 vvs hv => ?_)
  have mk2 := mk.on e2 r2
  split at q2
  · rename_i kps ek
    split at q2
    · rename_i hz
      obtain ⟨qs, rfl, q1, q3⟩ := keysP_run hv ek
      obtain ⟨p1, p2⟩ := merge_run (kvs := []) (ds := []) q1 q3 .nil
      have hlen : qs.length ≤ 15 := by
        have h1 : kps.length = qs.length := by have := congrArg List.length q1; simpa using this
        omega
      exact ⟨mk2.at_, qs, rfl, hlen, mk_dic mk2 r hp p1 p2 q2⟩
    · exact q2.elim
  · exact q2.elim
/-! methods of built-in things -/
def rM (g : G) (E : XD) (f : D → List D → Sto → R D) : V → List V → Hp → VK → Prop := fun x xs H Q => ∃ m S d ds, Rel g m S H ∧ RV g m H d x ∧ RVs g m H ds xs ∧ Aft g E m H (f d ds S) (vQ g Q)
def eM (ty : D → Sto → Bool) (f : D → List D → Sto → R D) (eo : EF) (a : Lc → Sto → R (List D)) : EF := fun L S => (eo L S).bind fun x S1 => if ty x S1 = true then (a L S1).bind fun ds S2 => f x ds S2 else .bad
def TyD (X : Cx) (g : G) (T : String) (ty : D → Sto → Bool) : Prop := ∀ (pins : List (Addr × Obj)) (σ : St) (H : Hp) (s : Shared) (m : Mp) (S : Sto) (d : D) (x : V) (v : Value), Inv X pins σ H s → Rel g m S H → RV g m H d x → RelV x v → ty d S = true →
  s.TypeIs v T ∧ ∀ a, v = .ref a → ∃ ob, s.heap.get? a = some ob ∧ ob.dict = none
theorem de_m {T id : String} {name : Str} {ty : D → Sto → Bool} {f : D → List D → Sto → R D} {es : List Expr} {a : Lc → Sto → R (List D)} (ht : TyD X g T ty) (pa : PlainAttrs T) (slot : Slot T name id) (hty : typeOf (.builtin id) = pure (.type "method_descriptor")) (hm : MtR X id (rM g E f)) (ho : PE X o (tD g E eo)) (ha : PA X (e :: es) (tL g E a))
    (hbase : attributeBase o name X.env (eval o X.env) = eval o X.env := by rfl)
    (hfew : ((backTo cpos (starEach (e :: es) X.env)).all (fun x => !x.1) && (backToKw cpos (keywordEach [] X.env)).all (fun x => x.1.isSome)
      && decide ((e :: es).length + ([] : List Keyword).length + (if ([] : List Keyword).isEmpty then 0 else 1) < 30)) = true := by rfl)
    (hline : (apos.endLine == cpos.line) = true := by rfl) (hs : starEach (e :: es) X.env = (false, eval e X.env) :: starEach es X.env := by rfl) (hplain : (backTo cpos (starEach es X.env)).any (·.1) = false := by rfl) :
    PE X (.Call (.Attribute o name apos) (e :: es) [] cpos) (tD g E (eM ty f eo a)) := by
  have tk : TyOk X T (fun x H => ∃ m S d, Rel g m S H ∧ RV g m H d x ∧ ty d S = true) := fun pins σ H s x v I rx ⟨m, S, d, r, rv, t⟩ => ht pins σ H s m S d x v I r rv rx t
  refine (pe_mG tk pa slot hty hm ho ha hbase hfew hline hs hplain).imp fun σ H Q h => ?_
  obtain ⟨m, S, L, r, l, q⟩ := h
  refine ⟨m, S, L, r, l, (Aft.bind q).mono fun d m1 S1 H1 e1 r1 q1 v rv => ?_⟩
  split at q1
  · rename_i ht
    refine ⟨⟨m1, S1, d, r1, rv, ht⟩, m1, S1, L, r1, l.ext e1, (Aft.bind q1).mono fun ds m2 S2 H2 e2 r2 q2 vs rvs => ?_⟩
    exact ⟨m2, S2, d, ds, r2, rv.ext e2, rvs, q2⟩
  · exact q1.elim
end
end VL

/-! walks over a dict: it is locked meanwhile; one by value stays locked -/
namespace VL
open PySem PySem.Spec PyProof.Rows L2
inductive DW where
  | keys | vals | items
def DW.ds : DW → List Key → List D → List D
  | .keys, ks, _ => ks.map keyV
  | .vals, _, vs => vs
  | .items, ks, vs => List.zipWith (fun k v => .tup [keyV k, v]) ks vs
def DW.it : DW → Addr → Obj → List (Key × V) → It
  | .keys, a, o, kvs => Itk a o kvs
  | .vals, a, o, kvs => Itd a o kvs
  | .items, a, o, kvs => Iti a o kvs
def wkA (wk : DW) (d : D) (S : Sto) : R Wk := match d with
  | .dic ks vs => .ok ⟨wk.ds ks vs, fun _ => true⟩ S
  | d => match wk with
    | .keys => wkOf d S
    | _ => .bad
def wAk (wk : DW) (ea : EF) : Lc → Sto → R Wk := fun L S => (ea L S).bind fun d S1 => wkA wk d S1
def isSD (d : D) (S : Sto) : Option (Nat × List Key × List D) := match d with
  | .ref n => match S[n]? with
    | some (.dic ks vs) => some (n, ks, vs)
    | _ => none
  | _ => none
def unlk (n : Nat) (S : Sto) : R Unit := match S[n]? with
  | some (.dlk ks vs) => .ok () (S.set n (.dic ks vs))
  | _ => .bad
section
variable {X : Cx} {g : G} {E : XD}
def NF (X : Cx) (a : Addr) : Prop := ∀ o' u', X.H_0 a ≠ some (.frz o' u')
theorem get_zip {ks : List Key} {vs : List D} {i : Nat} : (List.zipWith (fun k v => D.tup [keyV k, v]) ks vs)[i]? = match ks[i]?, vs[i]? with
  | some k, some v => some (.tup [keyV k, v])
  | _, _ => none := by
  rw [List.getElem?_zipWith]
  cases ks[i]? <;> cases vs[i]? <;> rfl
theorem jd_U (wk : DW) {m1 : Mp} {Hl : Hp} {a : Addr} {od : Obj} {ks : List Key} {vs : List D} {kvs : List (Key × V)} (hl : ∀ m H, Exk m1 Hl m H → H a = some (.frz od (.dK kvs))) (h1 : kvs.map (·.1) = ks) (h2 : RVs g m1 Hl vs (kvs.map (·.2))) :
    JD g (wk.it a od kvs) ⟨wk.ds ks vs, fun _ => true⟩ m1 Hl := by
  intro i m S H e r _
  have hH : H a = some (.frz od (.dK kvs)) := hl m H e
  have hvl : vs.length = kvs.length := by have := h2.length; simpa using this.symm
  have hkl : ks.length = kvs.length := by rw [← h1]; simp
  have hlen : (wk.ds ks vs).length = kvs.length := by
    cases wk with
    | keys => simp [DW.ds, hkl]
    | vals => simp [DW.ds, hvl]
    | items => simp [DW.ds, List.length_zipWith, hkl, hvl]
  refine ⟨fun z => ?_, fun d hd => ?_⟩
  · have : kvs.length ≤ i := by rw [← hlen]; exact List.getElem?_eq_none_iff.mp z
    cases wk <;> exact ⟨hH, this⟩
  · have hi : i < kvs.length := by rw [← hlen]; exact (List.getElem?_eq_some_iff.mp hd).1
    have ek : kvs[i]? = some kvs[i] := List.getElem?_eq_getElem hi
    have eks : ks[i]? = some (kvs[i]).1 := by rw [← h1, List.getElem?_map, ek]; rfl
    have evs : (kvs.map (·.2))[i]? = some (kvs[i]).2 := by rw [List.getElem?_map, ek]; rfl
    cases wk with
    | keys =>
      refine ⟨⟨hH, hi⟩, fun x H' y => ?_⟩
      obtain ⟨rfl, k, v, e1, rfl⟩ := y
      rw [ek] at e1
      have hd' : (ks.map keyV)[i]? = some d := hd
      rw [List.getElem?_map, eks] at hd'
      cases hd'
      have e1' := Option.some.inj e1
      rw [e1']
      exact ⟨.refl, r, keyV_run _⟩
    | vals =>
      refine ⟨⟨hH, hi⟩, fun x H' y => ?_⟩
      obtain ⟨rfl, k, e1⟩ := y
      have hd' : vs[i]? = some d := hd
      obtain ⟨w, w1, w2⟩ := h2.get hd'
      rw [evs] at w1
      rw [ek] at e1
      have e1' := Option.some.inj e1
      rw [e1'] at w1
      cases w1
      exact ⟨.refl, r, w2.extw e.toExw⟩
    | items =>
      refine ⟨⟨hH, hi⟩, fun x H' y => ?_⟩
      obtain ⟨T, k, v, e1, rfl, hT, rfl⟩ := y
      have hd' : (List.zipWith (fun k v => D.tup [keyV k, v]) ks vs)[i]? = some d := hd
      have hiv : i < vs.length := by omega
      have evd : vs[i]? = some vs[i] := List.getElem?_eq_getElem hiv
      rw [get_zip, eks, evd] at hd'
      cases hd'
      obtain ⟨w, w1, w2⟩ := h2.get evd
      rw [evs] at w1
      rw [ek] at e1
      have e1' := Option.some.inj e1
      rw [e1'] at w1 ⊢
      cases w1
      exact ⟨ext_lay r hT, r.lay hT, rv_tupv ⟨upd_same, r.un hT⟩ (.cons (keyV_run k) (.cons ((w2.extw e.toExw).ext (ext_lay r hT)) .nil))⟩
/-! a dict by value: locked for ever -/
theorem ext_lockv {m : Mp} {H : Hp} {a : Addr} {od : Obj} {kvs : List (Key × V)} {S : Sto} (r : Rel g m S H) (h : H a = some (.dK kvs)) (u : Un m a) : Ext g m H m (upd H a (.frz od (.dK kvs))) ∧ Rel g m S (upd H a (.frz od (.dK kvs))) := by
  have e : Ext g m H m (upd H a (.frz od (.dK kvs))) := by
    refine .of ⟨fun n b f h => ⟨f, h, fun z => z⟩, fun b o hb un => ⟨un, ?_⟩⟩ rfl (fun b hb => ?_) rfl (fun x hx => ?_)
    · by_cases z : b = a
      · subst z
        rw [h] at hb; cases hb
        exact .inr ⟨trivial, od, upd_same⟩
      · exact .inl (by rw [upd_ne z]; exact hb)
    · rw [upd_ne]; rintro rfl; exact u.2 hb
    · rw [upd_ne]; intro z; exact u.1 x.1 (by rw [(r.lks x hx).1, z])
  refine ⟨e, r.len, r.inj, fun n b ob h1 h2 => ?_, r.gone, fun b hb => ?_, r.lks, g.st e.toExw r.inv⟩
  · obtain ⟨o, e1, e2⟩ := r.ob n b ob h1 h2
    refine ⟨o, ?_, e2.ext e⟩
    rw [upd_ne]
    · exact e1
    · rintro rfl
      exact u.1 n h1
  · obtain ⟨⟨o, e1⟩, e2⟩ := r.prv b hb
    refine ⟨⟨o, ?_⟩, e2⟩
    rw [upd_ne]
    · exact e1
    · rintro rfl
      exact u.2 hb
theorem PE.lockedV {e : Expr} {ea : EF} (he : PE X e (tD g E ea)) (wk : DW) {pins : List (Addr × Obj)} {s : Shared} {σ : St} {H : Hp} {Q : It → Hp → Prop} {m : Mp} {S S' : Sto} {L : Lc} {ks : List Key} {vs : List D} (I : Inv X pins σ H s) (r : Rel g m S H) (l : RL g m H L σ) (hr : ea L S = .ok (.dic ks vs) S')
    (q : Aft g E m H (.ok (⟨wk.ds ks vs, fun _ => true⟩ : Wk) S') fun W m' _ H' => ∀ J, JD g J W m' H' → Q J H') :
    wpAny (model X.prog X.w) X.A (eval e X.env) (fun u s1 => ∃ d o kvs H1, u = .ref d ∧ Inv X pins σ H1 s1 ∧ H1 d = some (.frz o (.dK kvs)) ∧ Q (wk.it d o kvs) H1) X.xe s := by
  refine thn (he.run pins s σ H (fun v H1 => ∃ m1 : Mp, Ext g m H m1 H1 ∧ Rel g m1 S' H1 ∧ RV g m1 H1 (.dic ks vs) v) I ⟨m, S, L, r, l, by rw [hr]; exact fun m' H' e' r' v rv => ⟨m', e', r', rv⟩⟩) fun u s1 hu => ?_
  obtain ⟨v, H1, I1, ru, m1, e1, r1, rv⟩ := hu
  obtain ⟨a, kvs, rfl, h1, u1, h2, h3⟩ := of_dic rv
  cases ru
  rcases h1 with h1 | ⟨od, h1⟩
  · obtain ⟨od, I2⟩ := I1.lock h1 (by trivial)
    obtain ⟨ex, r2⟩ := ext_lockv (od := od) r1 h1 u1
    refine ⟨a, od, kvs, _, rfl, I2, upd_same, q.at (e1.trans ex) r2 _ (jd_U wk (fun m' H' e' => ?_) h2 (h3.ext ex))⟩
    exact (e'.own a _ upd_same u1).2.of fun z => z
  · refine ⟨a, od, kvs, _, rfl, I1, h1, q.at e1 r1 _ (jd_U wk (fun m' H' e' => ?_) h2 h3)⟩
    exact (e'.own a _ h1 u1).2.of fun z => z
/-! a dict of the store -/
def tIU (X : Cx) (g : G) (E : XD) (wk : DW) (ea : EF) : TI := fun σ H Q => ∃ m S L, Rel g m S H ∧ RL g m H L σ ∧ Aft g E m H (ea L S) fun d m1 S1 H1 => ∃ n a ks vs kvs, d = .ref n ∧ m1.l[n]? = some (a, true) ∧ S1[n]? = some (.dic ks vs) ∧ H1 a = some (.dK kvs) ∧ kvs.map (·.1) = ks ∧ RVs g m1 H1 vs (kvs.map (·.2)) ∧
  ∀ od, NF X a → ∀ J, JD g J ⟨wk.ds ks vs, fun _ => true⟩ ⟨m1.l, m1.o, (n, a) :: m1.k⟩ (upd H1 a (.frz od (.dK kvs))) → Q J (upd H1 a (.frz od (.dK kvs)))
structure Lk1 (g : G) (m1 : Mp) (H1 : Hp) (n : Nat) (a : Addr) (od : Obj) (kvs : List (Key × V)) (m' : Mp) (S' : Sto) (H' : Hp) : Prop where
  ex : Exw m1 H1 m' H'
  po : m'.o = m1.o
  kp : ∀ b ∈ m1.o, H' b = H1 b
  pk : m'.k = (n, a) :: m1.k
  kk : ∀ x ∈ m1.k, H' x.2 = H1 x.2
  at_ : H' a = some (.frz od (.dK kvs))
  r : Rel g m' S' H'
theorem exw_own1 {m : Mp} {H : Hp} {n : Nat} {a : Addr} {o : HO} {k : List (Nat × Addr)} (h : m.l[n]? = some (a, true)) : Exw m H ⟨m.l, m.o, k⟩ (upd H a o) :=
  ⟨fun n b f h => ⟨f, h, fun z => z⟩, fun b u hb un => ⟨un, .inl (by rw [upd_ne]; exact hb; rintro rfl; exact un.1 n h)⟩⟩
theorem Lk1.start {m1 : Mp} {S1 : Sto} {H1 : Hp} {n : Nat} {a : Addr} {od : Obj} {kvs : List (Key × V)} {ks : List Key} {vs : List D} (r1 : Rel g m1 S1 H1) (ha : m1.l[n]? = some (a, true)) (e0 : S1[n]? = some (.dic ks vs)) (hH : H1 a = some (.dK kvs)) (hk : kvs.map (·.1) = ks) (hv : RVs g m1 H1 vs (kvs.map (·.2))) :
    Lk1 g m1 H1 n a od kvs ⟨m1.l, m1.o, (n, a) :: m1.k⟩ (S1.set n (.dlk ks vs)) (upd H1 a (.frz od (.dK kvs))) := by
  have ew : Exw m1 H1 ⟨m1.l, m1.o, (n, a) :: m1.k⟩ (upd H1 a (.frz od (.dK kvs))) := exw_own1 ha
  have es : Ext g m1 H1 m1 (upd H1 a (.frz od (.dK kvs))) := ext_set r1 ha e0
  have rs : Rel g m1 (S1.set n (.dlk ks vs)) (upd H1 a (.frz od (.dK kvs))) := r1.set (ob' := .dlk ks vs) ha e0 ⟨od, kvs, rfl, hk, hv⟩
  have en : Exw m1 (upd H1 a (.frz od (.dK kvs))) ⟨m1.l, m1.o, (n, a) :: m1.k⟩ (upd H1 a (.frz od (.dK kvs))) := ⟨fun n b f h => ⟨f, h, fun z => z⟩, fun b u hb un => ⟨un, .inl hb⟩⟩
  refine ⟨ew, rfl, es.keep, rfl, es.keepk, upd_same, ⟨rs.len, rs.inj, fun k b ob h1 h2 => ?_, rs.gone, rs.prv, fun x hx => ?_, g.st en rs.inv⟩⟩
  · obtain ⟨o, e1, e2⟩ := rs.ob k b ob h1 h2
    exact ⟨o, e1, e2.extw en⟩
  · rcases List.mem_cons.mp hx with z | z
    · subst z
      exact ⟨ha, ks, vs, by rw [List.getElem?_set_self (List.getElem?_eq_some_iff.mp e0).1]⟩
    · exact rs.lks x z
theorem Lk1.on {m1 m' m2 : Mp} {S' S2 : Sto} {H1 H' H2 : Hp} {n : Nat} {a : Addr} {od : Obj} {kvs : List (Key × V)} (k : Lk1 g m1 H1 n a od kvs m' S' H') (e : Ext g m' H' m2 H2) (r : Rel g m2 S2 H2) : Lk1 g m1 H1 n a od kvs m2 S2 H2 :=
  ⟨k.ex.trans e.toExw, e.priv.trans k.po, fun b hb => (e.keep b (by rw [k.po]; exact hb)).trans (k.kp b hb), e.privk.trans k.pk, fun x hx => (e.keepk x (by rw [k.pk]; exact List.mem_cons_of_mem _ hx)).trans (k.kk x hx), (e.keepk (n, a) (by rw [k.pk]; exact List.mem_cons_self)).trans k.at_, r⟩
/-- free again -/
theorem Lk1.done {b : Type} {m1 m' : Mp} {S1 S' : Sto} {H1 H' : Hp} {n : Nat} {a : Addr} {od : Obj} {kvs : List (Key × V)} {k : Sto → R b} {Q : b → Mp → Sto → Hp → Prop} (lk : Lk1 g m1 H1 n a od kvs m' S' H') (r1 : Rel g m1 S1 H1) (ha : m1.l[n]? = some (a, true)) (h0 : H1 a = some (.dK kvs))
    (q : Aft g E m1 H1 ((unlk n S').bind fun _ S3 => k S3) Q) : ∃ m2 S3, Exw m' H' m2 (upd H' a (.dK kvs)) ∧ Rel g m2 S3 (upd H' a (.dK kvs)) ∧ Aft g E m2 (upd H' a (.dK kvs)) (k S3) Q := by
  unfold unlk at q
  split at q
  · rename_i ks vs e0
    have hl := lk.r.lks (n, a) (by rw [lk.pk]; exact List.mem_cons_self)
    have ha' : m'.l[n]? = some (a, true) := hl.1
    obtain ⟨o, e1, od', kvs', e2, e3, e4⟩ := lk.r.ob n a _ ha' e0
    rw [lk.at_] at e1
    cases e1
    cases e2
    have ew : Exw m' H' ⟨m'.l, m'.o, m1.k⟩ (upd H' a (.dK kvs)) := exw_own1 ha'
    have hno : ∀ x ∈ m1.k, x.1 ≠ n ∧ x.2 ≠ a := fun x hx => by
      have h5 : x.1 ≠ n := fun z => by
        obtain ⟨h6, ks', ds', h7⟩ := r1.lks x hx
        rw [z, ha] at h6
        obtain ⟨o, e1, od'', kvs'', e5, _⟩ := r1.ob n a _ ha (by rw [← z]; exact h7)
        rw [h0, e5] at e1
        cases e1
      refine ⟨h5, fun z => h5 (r1.inj x.1 n a ?_ ha)⟩
      rw [(r1.lks x hx).1, z]
    have ex : Ext g m1 H1 ⟨m'.l, m'.o, m1.k⟩ (upd H' a (.dK kvs)) := by
      refine .of (lk.ex.trans ew) lk.po (fun b hb => ?_) rfl (fun x hx => ?_)
      · rw [upd_ne]
        · exact lk.kp b hb
        · rintro rfl
          exact (r1.prv b hb).2 n ha
      · rw [upd_ne (hno x hx).2]
        exact lk.kk x hx
    have rr : Rel g ⟨m'.l, m'.o, m1.k⟩ (S'.set n (.dic ks vs)) (upd H' a (.dK kvs)) := by
      refine ⟨by simpa using lk.r.len, lk.r.inj, fun k b ob h1 h2 => ?_, fun k b h1 => ?_, fun b hb => ?_, fun x hx => ?_, g.st ew lk.r.inv⟩
      · by_cases hk : k = n
        · subst hk
          have h1' : m'.l[k]? = some (b, true) := h1
          rw [ha'] at h1'; cases h1'
          rw [List.getElem?_set_self (List.getElem?_eq_some_iff.mp e0).1] at h2
          cases h2
          exact ⟨_, upd_same, kvs, rfl, e3, e4.extw ew⟩
        · rw [List.getElem?_set_ne (Ne.symm hk)] at h2
          obtain ⟨o, f1, f2⟩ := lk.r.ob k b ob h1 h2
          refine ⟨o, ?_, f2.extw ew⟩
          rw [upd_ne]
          · exact f1
          · rintro rfl
            exact hk (lk.r.inj k n _ h1 ha')
      · have hk : k ≠ n := by rintro rfl; have h1' : m'.l[k]? = some (b, false) := h1; rw [ha'] at h1'; cases h1'
        rw [List.getElem?_set_ne (Ne.symm hk)]
        exact lk.r.gone k b h1
      · obtain ⟨⟨o, f1⟩, f2⟩ := lk.r.prv b hb
        refine ⟨⟨o, ?_⟩, f2⟩
        rw [upd_ne]
        · exact f1
        · rintro rfl
          exact f2 n ha'
      · obtain ⟨f1, ks', ds', f2⟩ := lk.r.lks x (by rw [lk.pk]; exact List.mem_cons_of_mem _ hx)
        exact ⟨f1, ks', ds', by rw [List.getElem?_set_ne (Ne.symm (hno x hx).1)]; exact f2⟩
    exact ⟨_, _, ew, rr, Aft.later (r := k _) q ex⟩
  · exact q.elim
theorem PE.locked {e : Expr} {ea : EF} (he : PE X e (tD g E ea)) (wk : DW) {pins : List (Addr × Obj)} {s : Shared} {σ : St} {H : Hp} {Q : It → Hp → Prop} (I : Inv X pins σ H s) (h : tIU X g E wk ea σ H Q) :
    wpAny (model X.prog X.w) X.A (eval e X.env) (fun u s1 => ∃ d o kvs H1, u = .ref d ∧ Inv X pins σ H1 s1 ∧ H1 d = some (.frz o (.dK kvs)) ∧ Q (wk.it d o kvs) H1) X.xe s := by
  obtain ⟨m, S, L, r, l, q⟩ := h
  refine thn (he.run pins s σ H (fun v H1 => ∃ (n : Nat) (a : Addr) (ks : List Key) (vs : List D) (kvs : List (Key × V)) (m1 : Mp) (S1 : Sto), v = .ref a ∧ Rel g m1 S1 H1 ∧ m1.l[n]? = some (a, true) ∧ S1[n]? = some (.dic ks vs) ∧ H1 a = some (.dK kvs) ∧ kvs.map (·.1) = ks ∧ RVs g m1 H1 vs (kvs.map (·.2)) ∧
      ∀ od, NF X a → ∀ J, JD g J ⟨wk.ds ks vs, fun _ => true⟩ ⟨m1.l, m1.o, (n, a) :: m1.k⟩ (upd H1 a (.frz od (.dK kvs))) → Q J (upd H1 a (.frz od (.dK kvs)))) I ⟨m, S, L, r, l, q.mono fun d m1 S1 H1 e1 r1 q1 v rv => ?_⟩) fun u s1 hu => ?_
  · obtain ⟨n, a, ks, vs, kvs, rfl, h1, h2, h3, h4, h5, h6⟩ := q1
    obtain ⟨a', b, rfl, h7⟩ := of_ref rv
    rw [h1] at h7; cases h7
    exact ⟨n, a, ks, vs, kvs, m1, S1, rfl, r1, h1, h2, h3, h4, h5, h6⟩
  · obtain ⟨v, H1, I1, ru, n, a, ks, vs, kvs, m1, S1, rfl, r1, h1, h2, h3, h4, h5, h6⟩ := hu
    cases ru
    obtain ⟨od, I2⟩ := I1.lock h3 (by trivial)
    have lk : Lk1 g m1 H1 n a od kvs _ _ _ := Lk1.start r1 h1 h2 h3 h4 h5
    exact ⟨a, od, kvs, _, rfl, I2, upd_same, h6 od (I1.nofrz h3 (by trivial)) _ (jd_U wk (fun m' H' e' => (e'.keepk (n, a) List.mem_cons_self).trans upd_same) h4 (h5.extw lk.ex))⟩
/-- what is walked: by value, or of the store -/
structure PIA (X : Cx) (g : G) (E : XD) (wk : DW) (tg iter : Expr) (ea : EF) : Prop where
  v : PI X tg iter (tI g E (wAk wk ea))
  u : PI X tg iter (tIU X g E wk ea)
theorem keys_end {tg : Expr} {pins : List (Addr × Obj)} {σ : St} {R : It → Hp → Prop} {u : Value} {s1 : Shared} (h : ∃ d o kvs H1, u = .ref d ∧ Inv X pins σ H1 s1 ∧ H1 d = some (.frz o (.dK kvs)) ∧ R (DW.keys.it d o kvs) H1) : wpAny (model X.prog X.w) X.A (pyIter u) (PIE X pins σ tg R) X.xe s1 := by
  obtain ⟨d, o, kvs, H1, eu, I1, hd, q⟩ := h
  subst eu
  obtain ⟨hs, hgd, hx, es, ep, vs, hdt, hsz, kv, hm⟩ := I1.frzK hd
  refine iter_keys hs hgd hx hdt (pi_one (tk := s1.toks) I1 _ (turn_keys _ hdt) ⟨_, Heap.get?_push_size _ rfl, rfl, ?_⟩ q)
  rw [hsz] <;> rfl
theorem dA_keys {tg e : Expr} {ea : EF} (hK : X.K = g.K) (he : PE X e (tD g E ea)) : PIA X g E .keys tg e ea := by
  refine ⟨⟨fun pins s σ H R I h => ?_⟩, ⟨fun pins s σ H R I h => ?_⟩⟩
  · obtain ⟨m, S, L, r, l, q⟩ := h
    by_cases hv : ∃ ks vs S', ea L S = .ok (.dic ks vs) S'
    · obtain ⟨ks, vs, S', hr⟩ := hv
      refine thn (PE.lockedV he .keys I r l hr (by unfold wAk at q; rw [hr] at q; exact q)) fun u s1 h1 => keys_end h1
    · refine (di_any hK he).run pins s σ H R I ⟨m, S, L, r, l, ?_⟩
      unfold wAk at q
      unfold wAny
      cases hr : ea L S with
      | ok d S' =>
        rw [hr] at q
        cases d with
        | dic ks vs => exact absurd ⟨ks, vs, S', hr⟩ hv
        | _ => exact q
      | exc c fs S' => rw [hr] at q; exact q
      | bad => rw [hr] at q; exact q
  · exact thn (PE.locked he .keys I h) fun u s1 h1 => keys_end h1
theorem items_end {elts : List Expr} {kk : Nat} {tpos apos cpos : Pos} {e : Expr} {pins : List (Addr × Obj)} {s : Shared} {σ : St} {R : It → Hp → Prop} (hbase : attributeBase e "items" X.env (eval e X.env) = eval e X.env) (hline : (apos.endLine == cpos.line) = true)
    (h : wpAny (model X.prog X.w) X.A (eval e X.env) (fun u s1 => ∃ d o kvs H1, u = .ref d ∧ Inv X pins σ H1 s1 ∧ H1 d = some (.frz o (.dK kvs)) ∧ R (DW.items.it d o kvs) H1) X.xe s) :
    wpAny (model X.prog X.w) X.A (eval (.Call (.Attribute e "items" apos) [] [] cpos) X.env) (fun itv s2 => wpAny (model X.prog X.w) X.A (pyIter itv) (PIE X pins σ (.Tuple elts kk tpos) R) X.xe s2) X.xe s := by
  refine wpAny_Call_method (T := "dict") (id := "dict.items") hbase rfl hline F.plainAttrs_dict F.slot_dict_items F.type_dict_items (thn h fun u s1 ⟨d, o, kvs, H1, eu, I1, hd, q⟩ => ?_)
  subst eu
  obtain ⟨hs, hgd, hx, es, ep, vs, hdt, hsz, kv, hm⟩ := I1.frzK hd
  have hl : kvs.length = vs.length := Paired.length kv
  refine ⟨hm.dictOf.typeIs, hm.dictOf.mapOf.noDict, ?_⟩
  have I2 : Inv X pins σ H1 { s1 with heap := s1.heap.push { cls := .type "dict_items", data := .fields #[.ref d] } } := I1.kept (t' := s1.toks) fun b ob q => Heap.get?_push_of_some _ q
  have fin : wpAny (model X.prog X.w) X.A (pyIter (.ref s1.heap.objs.size)) (PIE X pins σ (.Tuple elts kk tpos) R) X.xe { s1 with heap := s1.heap.push { cls := .type "dict_items", data := .fields #[.ref d] } } := by
    refine wpAny_pyIter_items (d := d) (knd := mixKind X.prog X.w) ⟨_, Heap.get?_push_size _ rfl, rfl, rfl⟩ (hm.push _) (pi_one (tk := s1.toks) I2 _ (turn_items _ hdt) ⟨.none, .none, ?_⟩ q)
    rw [hl]
    exact Heap.get?_push_size _ rfl
  show wpAny _ _ (callWith cpos (.builtin "dict.items") [.ref d] [] []) _ X.xe s1
  exact method_meetsIn F.slot_dict_items F.entry_dict_items rfl (PySem.evalArgs_none ⟨rfl, hm.dictOf.typeIs, F.args_dict_items_1 _, _, meets_dict_items (mixKind X.prog X.w) d hs, ⟨vs, hm.dictOf⟩, fin⟩)
theorem dA_items {elts : List Expr} {kk : Nat} {tpos apos cpos : Pos} {e : Expr} {ea : EF} (he : PE X e (tD g E ea)) (hbase : attributeBase e "items" X.env (eval e X.env) = eval e X.env := by rfl) (hline : (apos.endLine == cpos.line) = true := by rfl) :
    PIA X g E .items (.Tuple elts kk tpos) (.Call (.Attribute e "items" apos) [] [] cpos) ea := by
  refine ⟨⟨fun pins s σ H R I h => ?_⟩, ⟨fun pins s σ H R I h => ?_⟩⟩
  · obtain ⟨m, S, L, r, l, q⟩ := h
    by_cases hv : ∃ ks vs S', ea L S = .ok (.dic ks vs) S'
    · obtain ⟨ks, vs, S', hr⟩ := hv
      exact items_end hbase hline (PE.lockedV he .items I r l hr (by unfold wAk at q; rw [hr] at q; exact q))
    · refine items_end hbase hline (thn (he.run pins s σ H (fun _ _ => False) I ⟨m, S, L, r, l, ?_⟩) fun u s1 ⟨_, _, _, _, z⟩ => z.elim)
      unfold wAk at q
      cases hr : ea L S with
      | ok d S' =>
        rw [hr] at q
        cases d with
        | dic ks vs => exact absurd ⟨ks, vs, S', hr⟩ hv
        | _ => exact (show False from q).elim
      | exc c fs S' => rw [hr] at q; exact q
      | bad => rw [hr] at q; exact q
  · exact items_end hbase hline (PE.locked he .items I h)
end
end VL

namespace VL
open PySem PySem.Spec PyProof.Rows L2
section
variable {X : Cx} {g : G} {E : XD}
theorem ps_unl {st : Stmt} {t : TS} (h : PS X st t) : PS X st (fun Dn σ H => t ⟨fun σ' H' => ∃ d od u, H' d = some (.frz od u) ∧ NF X d ∧ Dn.nx σ' (upd H' d u), fun v H' => ∃ d od u, H' d = some (.frz od u) ∧ NF X d ∧ Dn.rt v (upd H' d u),
    fun σ' H' => ∃ d od u, H' d = some (.frz od u) ∧ NF X d ∧ Dn.bk σ' (upd H' d u), fun σ' H' => ∃ d od u, H' d = some (.frz od u) ∧ NF X d ∧ Dn.ct σ' (upd H' d u)⟩ σ H) := by
  refine ⟨fun pins s σ H Dn I hw => ?_⟩
  refine thn (h.run pins s σ H _ I hw) fun f s1 q => ?_
  cases f with
  | next => obtain ⟨σ', H', I2, d, od, u, e, nf, q⟩ := q; exact ⟨σ', _, I2.unlock e nf, q⟩
  | brk => obtain ⟨σ', H', I2, d, od, u, e, nf, q⟩ := q; exact ⟨σ', _, I2.unlock e nf, q⟩
  | cont => obtain ⟨σ', H', I2, d, od, u, e, nf, q⟩ := q; exact ⟨σ', _, I2.unlock e nf, q⟩
  | ret u => obtain ⟨v, σ', H', I2, ru, d, od, u, e, nf, q⟩ := q; exact ⟨v, σ', _, I2.unlock e nf, ru, q⟩
theorem pe_unl {e : Expr} {t : TE} (h : PE X e t) : PE X e (fun σ H Q => t σ H fun v H' => ∃ d od u, H' d = some (.frz od u) ∧ NF X d ∧ Q v (upd H' d u)) := by
  refine ⟨fun pins s σ H Q I hw => ?_⟩
  refine thn (h.run pins s σ H _ I hw) fun v s1 ⟨x, H1, I2, r, d, od, u, e, nf, q⟩ => ?_
  exact ⟨x, _, I2.unlock e nf, r, q⟩
/-- the dict is looked at, then locked -/
theorem sd_at {m1 : Mp} {S1 : Sto} {H1 : Hp} {d : D} {n : Nat} {ks : List Key} {vs : List D} (r1 : Rel g m1 S1 H1) (e : isSD d S1 = some (n, ks, vs)) : d = .ref n ∧ S1[n]? = some (.dic ks vs) ∧ ∃ a kvs, m1.l[n]? = some (a, true) ∧ H1 a = some (.dK kvs) ∧ kvs.map (·.1) = ks ∧ RVs g m1 H1 vs (kvs.map (·.2)) := by
  unfold isSD at e
  split at e
  · rename_i k
    split at e
    · rename_i ks' vs' e0
      cases e
      refine ⟨rfl, e0, ?_⟩
      have hn : n < m1.l.length := by rw [r1.len]; exact (List.getElem?_eq_some_iff.mp e0).1
      cases hx : m1.l[n] with
      | mk a b =>
        have h1 : m1.l[n]? = some (a, b) := by rw [List.getElem?_eq_getElem hn, hx]
        have h2 := r1.live h1 e0 (by intro z; cases z)
        obtain ⟨o, h3, kvs, rfl, h4, h5⟩ := r1.ob n a _ h2 e0
        exact ⟨a, kvs, h2, h3, h4, h5⟩
    · cases e
  · cases e
/-! [e for ..] -/
def eLcA (wk : DW) (ea : EF) (t : D → Lc → Sto → R Lc) (tt : Lc → Sto → R Bool) (te : EF) (vs : List Nat) : EF := fun L S => (ea L S).bind fun d S1 => match isSD d S1 with
  | some p => (lcL (fun _ => true) t tt te (wipeL L vs) (wk.ds p.2.1 p.2.2) [] (S1.set p.1 (.dlk p.2.1 p.2.2))).calm.bind fun x S3 => (unlk p.1 S3).bind fun _ S4 => .ok x S4
  | none => (wkA wk d S1).bind fun W S2 => lcL W.ok t tt te (wipeL L vs) W.ds [] S2
variable {pos : Pos} {elt kx vx tg iter : Expr} {ifs : List Expr} {scope : Scope} {own : List (Str × Nat)} {wk : DW} {ea : EF} {w : Lc → Sto → R Wk} {t : D → Lc → Sto → R Lc} {tt : Lc → Sto → R Bool} {te tk tv : EF}
theorem RL.extw' {m m' : Mp} {H H' : Hp} {L : Lc} {σ : St} (h : RL g m H L σ) (e : Exw m H m' H') : RL g m' H' L σ := RL.extw h e
theorem de_lcA {vs : List Nat} (hc : X.calm = true) (hN : X.N.Nodup) (hvs : own.map (·.2) = vs) (hi : PIA X g E wk tg iter ea) (ok : BlkOk X.N X.env.scope scope own)
    (hg : ∀ (s : Shared) (H : Hp) (C : Addr) (cl : List (Str × Addr)) (fp : List Addr), PG (X.blk s H scope (compEnvC scope cl C X.env) fp) tg (tG g NoX (WpP vs) t)) (ht : ∀ (s : Shared) (H : Hp) (C : Addr) (cl : List (Str × Addr)) (fp : List Addr), PTs (X.blk s H scope (compEnvC scope cl C X.env) fp) ifs (tT g NoX tt))
    (he : ∀ (s : Shared) (H : Hp) (C : Addr) (cl : List (Str × Addr)) (fp : List Addr), PE (X.blk s H scope (compEnvC scope cl C X.env) fp) elt (tD g NoX te)) (hs : ∀ x, foldedSetIterable iter X.env x = pure x := by intro _; rfl) :
    PE X (.ListComp elt [⟨tg, iter, ifs, 0⟩] scope pos) (tD g E (eLcA wk ea t tt te vs)) := by
  refine ⟨fun pins s σ H Q I h => ?_⟩
  obtain ⟨m, S, L, r, l, q⟩ := h
  by_cases hv : ∃ n ks vs' d S', ea L S = .ok d S' ∧ isSD d S' = some (n, ks, vs')
  · obtain ⟨n, ks, vs', d0, S', hr, hsd⟩ := hv
    subst hvs
    have q' : Aft g E m H ((lcL (fun _ => true) t tt te (wipeL L (own.map (·.2))) (wk.ds ks vs') [] (S'.set n (.dlk ks vs'))).calm.bind fun x S3 => (unlk n S3).bind fun _ S4 => .ok x S4) (vQ g Q) := by
      unfold eLcA at q
      rw [hr] at q
      have q0 : Aft g E m H (match isSD d0 S' with
        | some p => (lcL (fun _ => true) t tt te (wipeL L (own.map (·.2))) (wk.ds p.2.1 p.2.2) [] (S'.set p.1 (.dlk p.2.1 p.2.2))).calm.bind fun x S3 => (unlk p.1 S3).bind fun _ S4 => .ok x S4
        | none => (wkA wk d0 S').bind fun W S2 => lcL W.ok t tt te (wipeL L (own.map (·.2))) W.ds [] S2) (vQ g Q) := q
      rw [hsd] at q0
      exact q0
    refine (pe_unl (pe_lc hc hN hi.u ok hg ht he hs)).run pins s σ H Q I ⟨m, S, L, r, l, ?_⟩
    rw [hr]
    intro m1 H1 e1 r1
    obtain ⟨rfl, e0, a, kvs, ha, hH, h4, h5⟩ := sd_at r1 hsd
    refine ⟨n, a, ks, vs', kvs, rfl, ha, e0, hH, h4, h5, fun od nf J hJ => ?_⟩
    have lk := Lk1.start (od := od) r1 ha e0 hH h4 h5
    have q3 := Aft.calmA (Aft.later q' e1) ⟨m1.l, m1.o, (n, a) :: m1.k⟩ (upd H1 a (.frz od (.dK kvs)))
    refine lc_loop (W := ⟨wk.ds ks vs', fun _ => true⟩) (Q := fun v H' => ∃ d od u, H' d = some (.frz od u) ∧ NF X d ∧ Q v (upd H' d u)) lk.r ((l.ext e1).extw lk.ex) hJ q3 fun d m2 S2 H2 v e2 r2 q4 rv => ?_
    obtain ⟨m3, S3, e3, r3, q5⟩ := (lk.on e2 r2).done r1 ha hH q4
    exact ⟨a, od, _, (lk.on e2 r2).at_, nf, q5.ok r3 v (rv.extw e3)⟩
  · refine (de_lc hc hN hvs hi.v ok hg ht he hs).run pins s σ H Q I ⟨m, S, L, r, l, ?_⟩
    unfold eLcA at q
    unfold eLc wAk
    cases hr : ea L S with
    | ok d S' =>
      rw [hr] at q
      cases hsd : isSD d S' with
      | some p => exact absurd ⟨p.1, p.2.1, p.2.2, d, S', hr, hsd⟩ hv
      | none =>
        have q' : Aft g E m H (match isSD d S' with
          | some p => (lcL (fun _ => true) t tt te (wipeL L vs) (wk.ds p.2.1 p.2.2) [] (S'.set p.1 (.dlk p.2.1 p.2.2))).calm.bind fun x S3 => (unlk p.1 S3).bind fun _ S4 => .ok x S4
          | none => (wkA wk d S').bind fun W S2 => lcL W.ok t tt te (wipeL L vs) W.ds [] S2) (vQ g Q) := q
        rw [hsd] at q'
        exact q'
    | exc c fs S' => rw [hr] at q; exact q
    | bad => rw [hr] at q; exact q
/-! {k: v for ..} -/
def dcL (mu : Bool) (ok : Sto → Bool) (t : D → Lc → Sto → R Lc) (tt : Lc → Sto → R Bool) (tk tv : EF) (L : Lc) : List D → List Key → List D → Sto → R D
  | [], ks, ws => fun S => if ok S = true then nwD mu ks ws S else .bad
  | d :: ds, ks, ws => fun S => if ok S = true then (t d L S).calm.bind fun L1 S1 => (tt L1 S1).calm.bind fun b S2 =>
      if b = true then (tk L1 S2).calm.bind fun y S3 => (tv L1 S3).calm.bind fun z S4 => match keyD y with
          | some k => if ks.length < sizeLine then dcL mu ok t tt tk tv L ds (putKs ks k) (putVs ks ws k z) S4 else .bad
          | none => .bad
      else dcL mu ok t tt tk tv L ds ks ws S2
    else .bad
theorem dc_loop {mu : Bool} {σ : St} {L : Lc} {vs : List Nat} {W : Wk} {J : It} {m1 : Mp} {S1 : Sto} {H1 : Hp} {Q : VK} {P : D → Mp → Sto → Hp → Prop} (r1 : Rel g m1 S1 H1) (l : RL g m1 H1 L σ) (hJ : JD g J W m1 H1)
    (q1 : Aft g E m1 H1 (dcL mu W.ok t tt tk tv (wipeL L vs) W.ds [] [] S1) P) (hP : ∀ d m S H v, Ext g m1 H1 m H → Rel g m S H → P d m S H → RV g m H d v → Q v H) :
    ∀ D, H1 D = none → ∃ Wp : Nat → Nat → Hp → Prop, (∃ m, Wp 0 m (upd H1 D (.dK []))) ∧ ∀ i m H, Wp i m H →
      (J.stop i H ∧ Q (.ref D) H) ∨ (J.go i H ∧ ∃ Nx : Hp → Prop, (∀ H', Nx H' → ∃ m', m' < m ∧ Wp (i + 1) m' H') ∧ ∀ x H', J.yld i H x H' → tG g NoX (WpP vs) t x (wipe σ vs) H' fun σ2 H2 => wipe σ2 vs = wipe σ vs ∧ tT g NoX tt σ2 H2 fun b H3 =>
        if b = true then tD g NoX tk σ2 H3 fun y H4 => tD g NoX tv σ2 H4 fun z H5 => ∃ kvs k, y = kV k ∧ H5 D = some (.dK kvs) ∧ kvs.length < sizeLine ∧ Nx (upd H5 D (.dK (putK kvs k z))) else Nx H3) := by
  intro p hp
  refine ⟨fun i k H' => ∃ m' S' ks ws kvs, Mk1 g m1 H1 p (.dK kvs) m' S' H' ∧ kvs.map (·.1) = ks ∧ RVs g m' H' ws (kvs.map (·.2)) ∧ k = W.ds.length - i ∧ i ≤ W.ds.length ∧ Aft g E m1 H1 (dcL mu W.ok t tt tk tv (wipeL L vs) (W.ds.drop i) ks ws S') P,
    ⟨_, _, _, [], [], [], .start r1 hp, rfl, .nil, rfl, Nat.zero_le _, q1⟩, ?_⟩
  rintro i k H' ⟨m', S', ks, ws, kvs, mk, hk, ra, rfl, hle, q'⟩
  cases hd : W.ds[i]? with
  | none =>
    have hlen : W.ds.length ≤ i := List.getElem?_eq_none_iff.mp hd
    rw [List.drop_eq_nil_of_le hlen] at q'
    unfold dcL at q'
    split at q'
    · rename_i hok
      refine .inl ⟨(hJ i m' S' H' ⟨mk.ex, mk.pk, mk.kk⟩ mk.r hok).1 hd, ?_⟩
      unfold nwD at q'
      split at q'
      · obtain ⟨_, he, hr, hl⟩ := mk.toSto (ob := .dic ks ws) r1 hp ⟨kvs, rfl, hk, ra⟩
        exact hP _ _ _ _ _ he hr (q'.at he hr) (rv_ref hl)
      · obtain ⟨hw, he, hr, hu⟩ := mk.done r1 hp
        exact hP _ _ _ _ _ he hr (q'.at he hr) (rv_dic (.of mk.at_) hu hk (ra.extw hw))
    · exact q'.elim
  | some d =>
    have hlt : i < W.ds.length := (List.getElem?_eq_some_iff.mp hd).1
    rw [drop_cons hd] at q'
    unfold dcL at q'
    split at q'
    · rename_i hok
      obtain ⟨hgo, hy⟩ := (hJ i m' S' H' ⟨mk.ex, mk.pk, mk.kk⟩ mk.r hok).2 d hd
      refine .inr ⟨hgo, fun H2 => ∃ m2 S2 ks ws kvs, Mk1 g m1 H1 p (.dK kvs) m2 S2 H2 ∧ kvs.map (·.1) = ks ∧ RVs g m2 H2 ws (kvs.map (·.2)) ∧ Aft g E m1 H1 (dcL mu W.ok t tt tk tv (wipeL L vs) (W.ds.drop (i + 1)) ks ws S2) P, ?_, fun x H3 y => ?_⟩
      · rintro H2 ⟨m2, S2, ks2, ws2, kvs2, mk2, hk2, ra2, q2⟩
        exact ⟨_, by omega, m2, S2, ks2, ws2, kvs2, mk2, hk2, ra2, rfl, hlt, q2⟩
      · obtain ⟨ex, rx, rv⟩ := hy x H3 y
        have mk3 := mk.on ex rx
        have lw : RL g m' H3 (wipeL L vs) (wipe σ vs) := (l.wipe vs).extw mk3.ex
        refine ⟨m', S', wipeL L vs, d, rx, lw, rv, (Aft.calmA q' m' H3).mono fun L1 m4 S4 H4 e4 r4 q4 σ4 l4 w4 => ?_⟩
        refine ⟨by rw [w4, wipe_wipe], m4, S4, L1, r4, l4, (Aft.calmA q4 m4 H4).mono fun b m5 S5 H5 e5 r5 q5 => ?_⟩
        have e35 : Ext g m' H' m5 H5 := ex.trans (e4.trans e5)
        cases b with
        | false => exact ⟨m5, S5, ks, ws, kvs, mk.on e35 r5, hk, ra.ext e35, q5⟩
        | true =>
          refine ⟨m5, S5, L1, r5, l4.ext e5, (Aft.calmA q5 m5 H5).mono fun y m6 S6 H6 e6 r6 q6 v rv6 => ?_⟩
          refine ⟨m6, S6, L1, r6, (l4.ext e5).ext e6, (Aft.calmA q6 m6 H6).mono fun z m7 S7 H7 e7 r7 q7 u rv7 => ?_⟩
          have e17 := (e35.trans e6).trans e7
          have mk7 := mk.on e17 r7
          have ra7 := ra.ext e17
          split at q7
          · rename_i kk ek
            split at q7
            · rename_i hz
              obtain ⟨p1, p2⟩ := put_run (k := kk) ra7 rv7
              rw [hk] at p1 p2
              obtain ⟨e8, mk8⟩ := mk7.step (o' := .dK (putK kvs kk u)) hp
              refine ⟨kvs, kk, key_run (rv6.ext e7) ek, mk7.at_, by rw [← hk, List.length_map] at hz; exact hz, m7, S7, _, _, _, mk8, p1, p2.extw e8, q7⟩
            · exact q7.elim
          · exact q7.elim
    · exact q'.elim
def eDcA (mu : Bool) (wk : DW) (ea : EF) (t : D → Lc → Sto → R Lc) (tt : Lc → Sto → R Bool) (tk tv : EF) (vs : List Nat) : EF := fun L S => (ea L S).bind fun d S1 => match isSD d S1 with
  | some p => (dcL mu (fun _ => true) t tt tk tv (wipeL L vs) (wk.ds p.2.1 p.2.2) [] [] (S1.set p.1 (.dlk p.2.1 p.2.2))).calm.bind fun x S3 => (unlk p.1 S3).bind fun _ S4 => .ok x S4
  | none => (wkA wk d S1).bind fun W S2 => dcL mu W.ok t tt tk tv (wipeL L vs) W.ds [] [] S2
theorem de_dcA {mu : Bool} {vs : List Nat} (hc : X.calm = true) (hN : X.N.Nodup) (hvs : own.map (·.2) = vs) (hi : PIA X g E wk tg iter ea) (ok : BlkOk X.N X.env.scope scope own)
    (hg : ∀ (s : Shared) (H : Hp) (C : Addr) (cl : List (Str × Addr)) (fp : List Addr), PG (X.blk s H scope (compEnvC scope cl C X.env) fp) tg (tG g NoX (WpP vs) t)) (ht : ∀ (s : Shared) (H : Hp) (C : Addr) (cl : List (Str × Addr)) (fp : List Addr), PTs (X.blk s H scope (compEnvC scope cl C X.env) fp) ifs (tT g NoX tt))
    (hk : ∀ (s : Shared) (H : Hp) (C : Addr) (cl : List (Str × Addr)) (fp : List Addr), PE (X.blk s H scope (compEnvC scope cl C X.env) fp) kx (tD g NoX tk)) (he : ∀ (s : Shared) (H : Hp) (C : Addr) (cl : List (Str × Addr)) (fp : List Addr), PE (X.blk s H scope (compEnvC scope cl C X.env) fp) vx (tD g NoX tv)) (hs : ∀ x, foldedSetIterable iter X.env x = pure x := by intro _; rfl) :
    PE X (.DictComp kx vx [⟨tg, iter, ifs, 0⟩] scope pos) (tD g E (eDcA mu wk ea t tt tk tv vs)) := by
  subst hvs
  refine ⟨fun pins s σ H Q I h => ?_⟩
  obtain ⟨m, S, L, r, l, q⟩ := h
  by_cases hv : ∃ n ks vs' d S', ea L S = .ok d S' ∧ isSD d S' = some (n, ks, vs')
  · obtain ⟨n, ks, vs', d0, S', hr, hsd⟩ := hv
    have q' : Aft g E m H ((dcL mu (fun _ => true) t tt tk tv (wipeL L (own.map (·.2))) (wk.ds ks vs') [] [] (S'.set n (.dlk ks vs'))).calm.bind fun x S3 => (unlk n S3).bind fun _ S4 => .ok x S4) (vQ g Q) := by
      unfold eDcA at q
      rw [hr] at q
      have q0 : Aft g E m H (match isSD d0 S' with
        | some p => (dcL mu (fun _ => true) t tt tk tv (wipeL L (own.map (·.2))) (wk.ds p.2.1 p.2.2) [] [] (S'.set p.1 (.dlk p.2.1 p.2.2))).calm.bind fun x S3 => (unlk p.1 S3).bind fun _ S4 => .ok x S4
        | none => (wkA wk d0 S').bind fun W S2 => dcL mu W.ok t tt tk tv (wipeL L (own.map (·.2))) W.ds [] [] S2) (vQ g Q) := q
      rw [hsd] at q0
      exact q0
    refine (pe_unl (pe_dc hc hN hi.u ok hg ht hk he hs)).run pins s σ H Q I ⟨m, S, L, r, l, ?_⟩
    rw [hr]
    intro m1 H1 e1 r1
    obtain ⟨rfl, e0, a, kvs, ha, hH, h4, h5⟩ := sd_at r1 hsd
    refine ⟨n, a, ks, vs', kvs, rfl, ha, e0, hH, h4, h5, fun od nf J hJ => ?_⟩
    have lk := Lk1.start (od := od) r1 ha e0 hH h4 h5
    have q3 := Aft.calmA (Aft.later q' e1) ⟨m1.l, m1.o, (n, a) :: m1.k⟩ (upd H1 a (.frz od (.dK kvs)))
    refine dc_loop (W := ⟨wk.ds ks vs', fun _ => true⟩) (Q := fun v H' => ∃ d od u, H' d = some (.frz od u) ∧ NF X d ∧ Q v (upd H' d u)) lk.r ((l.ext e1).extw lk.ex) hJ q3 fun d m2 S2 H2 v e2 r2 q4 rv => ?_
    obtain ⟨m3, S3, e3, r3, q5⟩ := (lk.on e2 r2).done r1 ha hH q4
    exact ⟨a, od, _, (lk.on e2 r2).at_, nf, q5.ok r3 v (rv.extw e3)⟩
  · refine (pe_dc hc hN hi.v ok hg ht hk he hs).run pins s σ H Q I ⟨m, S, L, r, l, ?_⟩
    unfold eDcA at q
    have q2 : Aft g E m H ((wAk wk ea L S).bind fun W S2 => dcL mu W.ok t tt tk tv (wipeL L (own.map (·.2))) W.ds [] [] S2) (vQ g Q) := by
      unfold wAk
      cases hr : ea L S with
      | ok d S' =>
        rw [hr] at q
        cases hsd : isSD d S' with
        | some p => exact absurd ⟨p.1, p.2.1, p.2.2, d, S', hr, hsd⟩ hv
        | none =>
          have q' : Aft g E m H (match isSD d S' with
            | some p => (dcL mu (fun _ => true) t tt tk tv (wipeL L (own.map (·.2))) (wk.ds p.2.1 p.2.2) [] [] (S'.set p.1 (.dlk p.2.1 p.2.2))).calm.bind fun x S3 => (unlk p.1 S3).bind fun _ S4 => .ok x S4
            | none => (wkA wk d S').bind fun W S2 => dcL mu W.ok t tt tk tv (wipeL L (own.map (·.2))) W.ds [] [] S2) (vQ g Q) := q
          rw [hsd] at q'
          exact q'
      | exc c fs S' => rw [hr] at q; exact q
      | bad => rw [hr] at q; exact q
    refine (Aft.bind q2).mono fun W m1 S1 H1 e1 r1 q1 J hJ => ?_
    exact dc_loop r1 (l.ext e1) hJ q1 fun d m2 S2 H2 v _ _ q3 rv => q3 v rv
end
end VL

/-! sum(lists, a list) -/
namespace VL
open PySem PySem.Spec PyProof.Rows L2
abbrev lobj (vs : List Value) (n : Nat) : Obj := { cls := .type "list", data := .seq vs.toArray n }
section
variable {prog : Program} {w : World} {A : Around} {R : Result → Shared → Prop}
theorem sum_loopL {it l S : Addr} {items : Array Value} (hh : A.handled = none) (hiS : it ≠ S) (hli : l ≠ it) (hlS : l ≠ S) : ∀ (rest : List (Addr × List Value)) (i : Nat) (s : Shared) (T : Addr) (acc : List Value) (nT cS : Nat),
    items.toList.drop i = rest.map (fun p => Value.ref p.1) → s.heap.IsListIter it l i → s.heap.IsList l items → s.heap.get? S = some { cls := .type "list", dict := none, data := .seq #[.ref T] cS, slots := #[] } → s.heap.get? T = some (lobj acc nT) →
    T ≠ it → T ≠ S → (∀ p ∈ rest, p.1 ≠ it ∧ p.1 ≠ S ∧ ∃ n, s.heap.get? p.1 = some (lobj p.2 n)) → (acc ++ (rest.map (·.2)).flatten).length ≤ sizeLine →
    (∀ (h' : Heap) (tk : Nat) (T' : Addr) (n' : Nat), (∀ b o, b ≠ it → b ≠ S → s.heap.get? b = some o → h'.get? b = some o) → h'.get? T' = some (lobj (acc ++ (rest.map (·.2)).flatten) n') → (rest = [] → T' = T) → (rest ≠ [] → s.heap.objs.size ≤ T') → R (.ok (.ret (.ref T'))) { s with heap := h', toks := tk }) →
    codeAny (model prog w) A (.builtin "sum.loop" ⟨[.ref it, .ref S, rawInt 2, rawInt 0], []⟩) R s
  | [], i, s, T, acc, nT, cS, hd, hit, hl, hS, hT, h1, h2, h3, h4, hR => by
    refine codeAny_builtin F.entry_sum_loop ?_
    rw [Around.under_plainId F.plain_sum_loop _]
    show wpAny _ A.in1 (seqItems? (.ref S) >>= _) _ _ s
    refine wpAny_bind (wpAny_seqItems hS rfl ?_)
    show wpAny _ A.in1 (tryCatch (pyNext (.ref it)) _ >>= _) _ _ s
    have hi : items.size ≤ i := by
      have := congrArg List.length hd
      simp at this
      omega
    refine wpAny_bind (wpAny_tryCatch (wpAny_pyNext_list_end (A := A.in1) hh hit hl (by simp [hi]) fun h' he' => ?_))
    refine wpAny_pure (hR h' s.toks T nT (fun b o hb _ e => he' b o hb e) ?_ (fun _ => rfl) (fun z => absurd rfl z))
    simpa using he' T _ h1 hT
  | p :: rest, i, s, T, acc, nT, cS, hd, hit, hl, hS, hT, h1, h2, h3, h4, hR => by
    refine codeAny_builtin F.entry_sum_loop ?_
    rw [Around.under_plainId F.plain_sum_loop _]
    show wpAny _ A.in1 (seqItems? (.ref S) >>= _) _ _ s
    refine wpAny_bind (wpAny_seqItems hS rfl ?_)
    show wpAny _ A.in1 (tryCatch (pyNext (.ref it)) _ >>= _) _ _ s
    have hx : items[i]? = some (.ref p.1) := by
      have e1 : (items.toList.drop i)[0]? = some (.ref p.1) := by rw [hd]; rfl
      rw [List.getElem?_drop] at e1
      simpa using e1
    have hd' : items.toList.drop (i + 1) = rest.map (fun p => Value.ref p.1) := by
      rw [← List.tail_drop, hd]; rfl
    refine wpAny_bind (wpAny_tryCatch (wpAny_pyNext_list_item (A := A.in1) hit hl hx fun h1' hit1 hs1 => ?_))
    obtain ⟨hp1, hp2, np, hp3⟩ := h3 p List.mem_cons_self
    have k1 : ∀ b o, b ≠ it → s.heap.get? b = some o → h1'.get? b = some o := fun b o hb e => hs1.extBut b o hb e
    show wpAny _ A.in1 ((holding [Value.ref p.1] (binaryOp .Add (.ref T) (.ref p.1))).attempt >>= _) _ _ _
    have hlen : acc.length + p.2.length ≤ sizeLine := by
      simp [List.length_append] at h4
      omega
    refine wpAny_bind (wpAny_attempt (wpAny_holding (PySem.P.add_list (s := { s with heap := h1' }) (k1 T _ h1 hT) (k1 p.1 _ hp1 hp3) ?_ (by simpa using hlen))))
    have hS1 : h1'.get? S = some { cls := .type "list", dict := none, data := .seq #[.ref T] cS, slots := #[] } := k1 S _ (Ne.symm hiS) hS
    have hSsz : S < h1'.objs.size := Heap.lt_size hS1
    have hS2 : (h1'.push { cls := .type "list", data := .seq (acc.toArray ++ p.2.toArray) }).get? S = some { cls := .type "list", dict := none, data := .seq #[.ref T] cS, slots := #[] } := Heap.get?_push_of_some _ hS1
    show wpAny _ A.in1 (updateSeq S (fun _ => #[.ref h1'.objs.size]) >>= _) _ _ _
    refine wpAny_bind (wpAny_updateSeq hS2 rfl ?_)
    have hS3 := Heap.get?_update_self (Obj.mapSeq fun _ => #[Value.ref h1'.objs.size]) hS2 rfl
    refine wpAny_bind (wpAny_letGo ?_)
    refine wpAny_bind (wpAny_updateSeq hS3 rfl (wpAny_pure ⟨plainId_quiet F.plain_sum_loop _, ?_⟩))
    have keep : ∀ b o, b ≠ it → b ≠ S → s.heap.get? b = some o → (((h1'.push { cls := .type "list", data := .seq (acc.toArray ++ p.2.toArray) }).update S (Obj.mapSeq fun _ => #[Value.ref h1'.objs.size])).update S (Obj.mapSeq fun _ => #[Value.ref h1'.objs.size])).get? b = some o := fun b o hb hb2 e =>
      (Heap.get?_update_other _ _ (Ne.symm hb2)).trans ((Heap.get?_update_other _ _ (Ne.symm hb2)).trans (Heap.get?_push_of_some _ (k1 b o hb e)))
    have hTn : h1'.objs.size ≠ S := Nat.ne_of_gt hSsz
    obtain ⟨oi, hoi, ri⟩ := hit1
    have hil : it < h1'.objs.size := Heap.lt_size hoi
    have hsz1 : s.heap.objs.size ≤ h1'.objs.size := by
      rw [hs1.1]
      exact Nat.le_refl _
    refine sum_loopL hh hiS hli hlS rest (i + 1) _ h1'.objs.size (acc ++ p.2) 0 _ hd' ?_ ?_ (Heap.get?_update_self _ hS3 rfl) ?_ (Nat.ne_of_gt hil) hTn (fun q hq => ?_) (by simpa [List.append_assoc] using h4) fun h' tk T' n' e1 e2 e3 e4 => ?_
    · exact ⟨oi, (Heap.get?_update_other _ _ (Ne.symm hiS)).trans ((Heap.get?_update_other _ _ (Ne.symm hiS)).trans (Heap.get?_push_of_some _ hoi)), ri⟩
    · obtain ⟨ol, hol, rl⟩ := hl
      exact ⟨ol, keep l _ hli hlS hol, rl⟩
    · refine (Heap.get?_update_other _ _ (Ne.symm hTn)).trans ((Heap.get?_update_other _ _ (Ne.symm hTn)).trans ?_)
      rw [Heap.get?_push_size _ rfl]
      simp
    · obtain ⟨q1, q2, nq, q3⟩ := h3 q (List.mem_cons_of_mem _ hq)
      exact ⟨q1, q2, nq, keep _ _ q1 q2 q3⟩
    · refine hR h' tk T' n' (fun b o hb hb2 e => e1 b o hb hb2 (keep b o hb hb2 e)) (by simpa [List.append_assoc] using e2) (fun z => by cases z) fun _ => ?_
      cases rest with
      | nil => rw [e3 rfl]; exact hsz1
      | cons a b =>
        have := e4 (by simp)
        simp at this
        omega
theorem args_sum2 (a b : Value) : argsOk "sum" ⟨[a, b], []⟩ := by unfold argsOk; kernel_rfl
theorem sub_list_str : isSubtype (.type "list") (.type "str") = pure false := by rw [isSubtype_type]; kernel_rfl
theorem sub_list_bytes : isSubtype (.type "list") (.type "bytes") = pure false := by rw [isSubtype_type]; kernel_rfl
theorem sub_list_bytearray : isSubtype (.type "list") (.type "bytearray") = pure false := by rw [isSubtype_type]; kernel_rfl
theorem call_sumL {E : Value → Shared → Prop} {s : Shared} {l T : Addr} {items : Array Value} {rest : List (Addr × List Value)} {acc : List Value} {nT : Nat} {Q : Value → Shared → Prop} (hh : A.handled = none) (hl : s.heap.IsList l items) (hT : s.heap.get? T = some (lobj acc nT)) (hd : items.toList = rest.map (fun p => Value.ref p.1))
    (hr : ∀ p ∈ rest, ∃ n, s.heap.get? p.1 = some (lobj p.2 n)) (hz : (acc ++ (rest.map (·.2)).flatten).length ≤ sizeLine)
    (hQ : ∀ (h' : Heap) (tk : Nat) (T' : Addr) (n' : Nat), (∀ b o, s.heap.get? b = some o → h'.get? b = some o) → h'.get? T' = some (lobj (acc ++ (rest.map (·.2)).flatten) n') → (rest = [] → T' = T) → (rest ≠ [] → s.heap.objs.size ≤ T') → Q (.ref T') { s with heap := h', toks := tk }) :
    wpAny (model prog w) A (call (.builtin "sum") [.ref l, .ref T]) Q E s := by
  have hlt : l < s.heap.objs.size := by obtain ⟨o, ho, _⟩ := hl; exact Heap.lt_size ho
  have hTt : T < s.heap.objs.size := Heap.lt_size hT
  refine call_function_tree F.kind_sum F.plain_sum F.entry_sum (args_sum2 _ _) ?_
  unfold Builtin.«sum»
  simp only [List.length_cons, List.length_nil]
  rw [if_neg (by decide)]
  refine wpAny_bind (wpAny_of_eq (show Builtin.Builtins.bindParams "sum" ["start"] 0 ⟨[.ref T], []⟩ = pure [some (.ref T)] from rfl) ?_)
  refine wpAny_bind (wpAny_pyIter_list hl ?_)
  have hTp : (s.heap.push { cls := .type "list_iterator", data := .fields #[.ref l, .int 0 0] }).get? T = some (lobj acc nT) := Heap.get?_push_of_some _ hT
  have tyL : ∀ s2 : Shared, s2.heap = s.heap.push { cls := .type "list_iterator", data := .fields #[.ref l, .int 0 0] } → s2.TypeIs (.ref T) "list" := fun s2 e => ⟨_, by rw [e]; exact hTp, rfl⟩
  refine wpAny_bind (wpAny_pure ?_)
  simp only [List.forIn_cons, List.forIn_nil]
  refine wpAny_bind (wpAny_bind (wpAny_bind (wpAny_isInstance (T := "list") (b := false) (tyL _ rfl) sub_list_str ?_)))
  simp only [Bool.false_eq_true, if_false]
  refine wpAny_pure (wpAny_bind (wpAny_bind (wpAny_isInstance (T := "list") (b := false) (tyL _ rfl) sub_list_bytes ?_)))
  simp only [Bool.false_eq_true, if_false]
  refine wpAny_pure (wpAny_bind (wpAny_bind (wpAny_isInstance (T := "list") (b := false) (tyL _ rfl) sub_list_bytearray ?_)))
  simp only [Bool.false_eq_true, if_false]
  refine wpAny_pure (wpAny_pure ?_)
  refine wpAny_bind (wpAny_newObj_type ?_)
  have hsz : (s.heap.push { cls := .type "list_iterator", data := .fields #[.ref l, .int 0 0] }).objs.size = s.heap.objs.size + 1 := by simp [Heap.push]
  refine wpAny_pure ⟨plainId_quiet F.plain_sum_loop _, sum_loopL (it := s.heap.objs.size) (l := l) (S := (s.heap.push { cls := .type "list_iterator", data := .fields #[.ref l, .int 0 0] }).objs.size) hh (by rw [hsz]; exact Nat.ne_of_lt (Nat.lt_succ_self _)) (Nat.ne_of_lt hlt) (by rw [hsz]; exact Nat.ne_of_lt (Nat.lt_succ_of_lt hlt)) rest 0 _ T acc nT 0 (by simpa using hd)
    ⟨_, Heap.get?_push_of_some _ (Heap.get?_push_size _ rfl), rfl, rfl⟩ ?_ (Heap.get?_push_size _ rfl) (Heap.get?_push_of_some _ hTp) (Nat.ne_of_lt hTt) (by rw [hsz]; exact Nat.ne_of_lt (Nat.lt_succ_of_lt hTt)) (fun p hp => ?_) hz fun h' tk T' n' e1 e2 e3 e4 => ?_⟩
  · obtain ⟨o, ho, r⟩ := hl
    exact ⟨o, Heap.get?_push_of_some _ (Heap.get?_push_of_some _ ho), r⟩
  · obtain ⟨n, hn⟩ := hr p hp
    have hp' := Heap.lt_size hn
    exact ⟨Nat.ne_of_lt hp', by rw [hsz]; exact Nat.ne_of_lt (Nat.lt_succ_of_lt hp'), n, Heap.get?_push_of_some _ (Heap.get?_push_of_some _ hn)⟩
  · refine hQ h' tk T' n' (fun b o hb => ?_) e2 e3 fun z => ?_
    · have := Heap.lt_size hb
      exact e1 b o (Nat.ne_of_lt this) (by rw [hsz]; exact Nat.ne_of_lt (Nat.lt_succ_of_lt this)) (Heap.get?_push_of_some _ (Heap.get?_push_of_some _ hb))
    · have := e4 z
      have h2 : ((s.heap.push { cls := .type "list_iterator", data := .fields #[.ref l, .int 0 0] }).push { cls := .type "list", data := .seq #[.ref T] }).objs.size = s.heap.objs.size + 2 := by simp [Heap.push]
      have h3 : ((s.heap.push { cls := .type "list_iterator", data := .fields #[.ref l, .int 0 0] }).push { cls := .type "list", data := .seq #[.ref T] }).objs.size ≤ T' := this
      rw [h2] at h3
      exact Nat.le_trans (Nat.le_add_right _ 2) h3
end
/-! by data -/
def lstsOf (S : Sto) : List D → Option (List (List D))
  | [] => some []
  | d :: r => match lstO d S, lstsOf S r with
    | some ds, some rs => some (ds :: rs)
    | _, _ => none
def sum2D (ds : List D) (S : Sto) : R D := match ds with
  | [x] => sumD [x] S
  | [x, n] => match lstOf x S, lstO n S with
    | some ds, some acc => match lstsOf S ds with
      | some rs => if (acc ++ rs.flatten).length ≤ sizeLine then (if rs.isEmpty = true then .ok n S else .ok (.lst (acc ++ rs.flatten)) S) else .bad
      | none => .bad
    | _, _ => .bad
  | _ => .bad
section
variable {X : Cx} {g : G} {E : XD}
theorem lsts_run {m : Mp} {S : Sto} {H : Hp} {pins : List (Addr × Obj)} {σ : St} {s : Shared} (I : Inv X pins σ H s) (r : Rel g m S H) : ∀ {ds : List D} {vs : List V} {us : List Value} {rs : List (List D)}, RVs g m H ds vs → Vals vs us → lstsOf S ds = some rs →
    ∃ (rest : List (Addr × List Value)) (ws : List V), us = rest.map (fun p => Value.ref p.1) ∧ (∀ p ∈ rest, ∃ n, s.heap.get? p.1 = some (lobj p.2 n)) ∧ RVs g m H rs.flatten ws ∧ Vals ws (rest.map (·.2)).flatten ∧ rest.length = rs.length
  | [], vs, us, rs, h, hv, e => by
    cases e
    have := h.nil_iff
    subst this
    cases hv
    exact ⟨[], [], rfl, by simp, .nil, .nil, rfl⟩
  | d :: ds, vs, us, rs, h, hv, e => by
    obtain ⟨v, t, rfl, h1, h2⟩ := h.cons_iff
    cases hv with
    | cons hu hv =>
      simp only [lstsOf] at e
      split at e
      · rename_i xs rs' e1 e2
        cases e
        obtain ⟨a, vs1, rfl, hH, rv1⟩ := lstO_run r h1 e1
        cases hu
        obtain ⟨z, its, n1, rv, hl, hg⟩ := I.lstM hH
        obtain ⟨rest, ws, rfl, q1, q2, q3, q4⟩ := lsts_run I r h2 hv e2
        refine ⟨(a, its) :: rest, vs1 ++ ws, rfl, fun p hp => ?_, ?_, ?_, by simp [q4]⟩
        · rcases List.mem_cons.mp hp with rfl | hp
          · exact ⟨n1, hg⟩
          · exact q1 p hp
        · simpa using rv1.append q2
        · simpa using rv.append q3
      · cases e
theorem cd_sum2 (hK : X.K = g.K) (hc : X.calm = true) : CallR X (.builtin "sum") (rDs g E (sum2D)) := by
  intro pins s σ H xs us Q I r h
  obtain ⟨m, S, ds, rl, h1, q⟩ := h
  unfold sum2D at q
  split at q
  · exact cd_sum hK hc pins s σ H xs us Q I r ⟨m, S, _, rl, h1, q⟩
  · rename_i x n
    split at q
    · rename_i ds acc ed en
      split at q
      · rename_i rs er
        split at q
        · rename_i hz
          obtain ⟨vx, vn, rfl, hx, hn⟩ := rvs2 h1
          obtain ⟨a, vs, rfl, hs, rvs⟩ := lst_run rl hx ed
          obtain ⟨T, accV, rfl, hHT, racc⟩ := lstO_run rl hn en
          cases r with
          | cons r1 r =>
            cases r with
            | cons r2 r =>
              cases r
              cases r1
              cases r2
              rw [← hK] at hs
              obtain ⟨its, rits, pl, hlz⟩ := I.list hs
              obtain ⟨zT, itT, nT, rT, hlT, hgT⟩ := I.lstM hHT
              obtain ⟨rest, ws, e1, e2, e3, e4, e5⟩ := lsts_run I rl rvs rits er
              have hlen : (itT ++ (rest.map (·.2)).flatten).length = (acc ++ rs.flatten).length := by
                have a1 := racc.length
                have a2 := e3.length
                have a3 := e4.length
                simp only [List.length_append]
                omega
              refine call_sumL (I.ok.hd hc) pl.isList hgT (by simpa using e1) e2 (by rw [hlen]; exact hz) fun h' tk T' n' k1 k2 k3 k4 => ?_
              have I1 : Inv X pins σ H { s with heap := h', toks := tk } := I.kept k1
              split at q
              · rename_i hem
                have hr0 : rest = [] := by
                  cases rest with
                  | nil => rfl
                  | cons _ _ => simp at e5; cases rs <;> simp at hem e5
                rw [k3 hr0]
                exact ⟨.ref T, H, I1, rfl, q.ok rl _ hn⟩
              · rename_i hem
                have hr0 : rest ≠ [] := fun z => by
                  subst z
                  cases rs with
                  | nil => exact hem rfl
                  | cons _ _ => simp at e5
                have hTs := k4 hr0
                have hfr : H T' = none := I.hok.fresh hTs
                have ra := racc.append e3
                have rz : Vals (accV ++ ws) (itT ++ (rest.map (·.2)).flatten) := rT.append e4
                have hzz : (accV ++ ws).length ≤ sizeLine := by rw [rz.length, hlen]; exact hz
                refine ⟨.ref T', upd H T' (.lst (accV ++ ws)), I.laid k1 hTs ⟨hzz, _, n', rz, k2⟩, rfl, ?_⟩
                exact q.at (ext_lay rl hfr) (rl.lay hfr) _ (rv_lst upd_same (rl.un hfr) (ra.ext (ext_lay rl hfr)))
        · exact q.elim
      · exact q.elim
    · exact q.elim
  · exact q.elim
/-! methods of lists -/
def isLst (d : D) (S : Sto) : Bool := match d with
  | .ref n => match S[n]? with
    | some (.lst _) => true
    | _ => false
  | _ => false
theorem ty_lst : TyD X g "list" isLst := by
  intro pins σ H s m S d x v I r rv ru ht
  unfold isLst at ht
  split at ht
  · split at ht
    · rename_i n ds e0
      obtain ⟨a, vs, rfl, _, h1, h2⟩ := lst_ref r rv e0
      cases ru
      obtain ⟨z, its, n1, rv, hl, hg⟩ := I.lstM h1
      exact ⟨⟨_, hg, rfl⟩, fun b e => by cases e; exact ⟨_, hg, rfl⟩⟩
    · cases ht
  · cases ht
def appD (x : D) (ds : List D) (S : Sto) : R D := match x, ds with
  | .ref n, [y] => match S[n]? with
    | some (.lst xs) => if xs.length < sizeLine then .ok .non (S.set n (.lst (xs ++ [y]))) else .bad
    | _ => .bad
  | _, _ => .bad
theorem md_append : MtR X "list.append" (rM g E appD) := by
  intro pins s σ H x xs v us Q I rx rxs h
  obtain ⟨m, S, d, ds, r, h1, h2, q⟩ := h
  unfold appD at q
  split at q
  · rename_i n y
    split at q
    · rename_i xs' e0
      split at q
      · rename_i hz
        obtain ⟨a, vs, rfl, ha, hH, rv⟩ := lst_ref r h1 e0
        obtain ⟨w', rfl, hy⟩ := rvs1 h2
        refine mt_append pins s σ H _ _ v us Q I rx rxs ⟨a, vs, w', rfl, rfl, hH, by rw [rv.length]; exact hz, ?_⟩
        exact q.at (ext_set r ha e0) (r.set (ob' := .lst (xs' ++ [y])) ha e0 ⟨_, rfl, rv.append (.cons hy .nil)⟩) _ rv_non
      · exact q.elim
    · exact q.elim
  · exact q.elim
end
/-! names of the text's top that stand for data -/
theorem de_glob {X : Cx} {g : G} {E : XD} {x : Str} {v : V} {u : Value} {pos : Pos} (d : D) (hg : Gl X x) (hm : X.mg x = some u) (r : RelV v u) (hd : ∀ m H, RV g m H d v) (hdb : (x == ("__debug__" : Str)) = false := by decide) : PE X (.Name x pos) (tD g E (eC d)) := de_c d (pe_glob hg hm r hdb) hd
def KD (K : PySem.W.Frag) (mg : Str → Option Value) (x : Str) (d : D) : Prop := ∃ v u, mg x = some u ∧ RelV v u ∧ ∀ (g : G) m H, g.K = K → RV g m H d v
theorem de_kd {X : Cx} {g : G} {E : XD} {x : Str} {pos : Pos} {mg : Str → Option Value} {d : D} (hg : Gl X x) (hm : X.mg = mg) (h : KD g.K mg x d) (hdb : (x == ("__debug__" : Str)) = false := by decide) : PE X (.Name x pos) (tD g E (eC d)) := by
  obtain ⟨v, u, h1, h2, h3⟩ := h
  exact de_glob d hg (by rw [hm]; exact h1) h2 (fun m H => h3 g m H rfl) hdb
theorem KD.int {K : PySem.W.Frag} {mg : Str → Option Value} {x : Str} {i : Int} {t : Tok} (h : mg x = some (.int i t)) : KD K mg x (.int i) := ⟨.int i, _, h, ⟨t, rfl⟩, fun _ _ _ _ => rv_int⟩
theorem KD.str {K : PySem.W.Frag} {mg : Str → Option Value} {x : Str} {i : Str} {t : Tok} (h : mg x = some (.str i t)) : KD K mg x (.str i) := ⟨.str i, _, h, ⟨t, rfl⟩, fun _ _ _ _ => rv_str⟩
theorem rvs_strs {g : G} {m : Mp} {H : Hp} : ∀ xs : List Str, RVs g m H (xs.map D.str) (xs.map V.str)
  | [] => .nil
  | x :: xs => .cons rv_str (rvs_strs xs)
theorem KD.tupS {K : PySem.W.Frag} {mg : Str → Option Value} {x : Str} {a : Addr} {xs : List Str} {od : Option Addr} {its : Array Value} {n : Nat} {sl : Array (Option Value)} (h : mg x = some (.ref a)) (l : K.lookup a = some ⟨.type "tuple", od, .seq its n, sl⟩) (hz : its.size ≤ 1000) (hv : Vals (xs.map V.str) its.toList) : KD K mg x (.ctp (xs.map D.str)) := by
  refine ⟨.ref a, _, h, rfl, fun g m H hK => rv_ctp (vs := xs.map V.str) ?_ (rvs_strs xs)⟩
  have : (1000 : Nat) ≤ sizeLine := by decide
  exact ⟨_, its, n, by rw [hK]; exact l, rfl, rfl, by omega, hv⟩
theorem _root_.L2.Room.units65 {k : Nat} {A : Around} (r : Room k A) : A.units + 65 < cLine := by have := r.un; omega
/-! a, b = x, y -/
def sPar (i j : Nat) (a : Lc → Sto → R (List D)) : SF := fun L S => (a L S).bind fun ds S1 => match ds with
  | [v, w] => .ok (.nx ((L.set i (some v)).set j (some w))) S1
  | _ => .bad
theorem ds_par {X : Cx} {g : G} {E : XD} {pos : Pos} {i j : Nat} {x y : Str} {a b : Expr} {ls : Lc → Sto → R (List D)} {px py pt : Pos} {kt k2 : Nat} {pt2 : Pos} (hc : X.calm = true) (hN : X.N.Nodup) (hi : X.N[i]? = some x) (hj : X.N[j]? = some y) (hij : i ≠ j)
    (hx : X.env.scope.names.lookup x = some .local) (hy : X.env.scope.names.lookup y = some .local) (ha : PA X [a, b] (tL g E ls))
    (hw : swappedStores [.Tuple [.Name x px, .Name y py] kt pt] (.Tuple [a, b] k2 pt2) X.env = pure (some [x, y]))
    (hs : swapsWithSole [.Tuple [.Name x px, .Name y py] kt pt] (.Tuple [a, b] k2 pt2) pos.line X.env = pure false := by rfl) :
    PS X (.Assign [.Tuple [.Name x px, .Name y py] kt pt] (.Tuple [a, b] k2 pt2) pos) (tF g E (sPar i j ls)) := by
  refine (ps_par hc hN hi hj hij hx hy ha hw hs).imp fun Dn σ H h => ?_
  obtain ⟨m, S, L, r, l, q⟩ := h
  refine ⟨m, S, L, r, l, (Aft.bind q).mono fun ds m1 S1 H1 e1 r1 q1 vs rvs => ?_⟩
  split at q1
  · obtain ⟨v, w, rfl, hv, hw⟩ := rvs2 rvs
    exact ⟨v, w, rfl, q1.ok r1 _ (((l.ext e1).set hv i).set hw j)⟩
  · exact q1.elim
end VL

namespace VL
open PySem PySem.Spec PyProof.Rows L2
/-- a def that stands behind the top -/
structure FT (K : PySem.W.Frag) (mg : Str → Option Value) (x : Str) (st : Stmt) (ps : List Str) where
  f : Addr
  fd : FuncData
  fn : FunD K x x (defArgs st) (defBody st) (defScope st) [] [] f fd
  bn : Binds K fd ps []
  mgx : mg x = some (.ref f)
section
variable {X : Cx} {g : G} {E : XD} {pos : Pos} {elt tg iter : Expr} {ifs : List Expr} {scope : Scope} {own : List (Str × Nat)} {wk : DW} {ea : EF} {t : D → Lc → Sto → R Lc} {tt : Lc → Sto → R Bool} {te : EF}
theorem ds_setLcA {vs : List Nat} {i : Nat} {y : Str} {py spos : Pos} (hc : X.calm = true) (hN : X.N.Nodup) (hvs : own.map (·.2) = vs) (hy : X.N[i]? = some y) (hyl : X.env.scope.names.lookup y = some .local)
    (hsw : swapsWith (.ListComp elt [⟨tg, iter, ifs, 0⟩] scope pos) (some (.Name y py)) spos.line X.env = pure true) (hi : PIA X g E wk tg iter ea) (ok : BlkOk X.N X.env.scope scope own)
    (hg : ∀ (s : Shared) (H : Hp) (C : Addr) (cl : List (Str × Addr)) (fp : List Addr), PG (X.blk s H scope (compEnvC scope cl C X.env) fp) tg (tG g NoX (WpP vs) t)) (ht : ∀ (s : Shared) (H : Hp) (C : Addr) (cl : List (Str × Addr)) (fp : List Addr), PTs (X.blk s H scope (compEnvC scope cl C X.env) fp) ifs (tT g NoX tt))
    (he : ∀ (s : Shared) (H : Hp) (C : Addr) (cl : List (Str × Addr)) (fp : List Addr), PE (X.blk s H scope (compEnvC scope cl C X.env) fp) elt (tD g NoX te)) (hs : ∀ x, foldedSetIterable iter X.env x = pure x := by intro _; rfl) :
    PS X (.Assign [.Name y py] (.ListComp elt [⟨tg, iter, ifs, 0⟩] scope pos) spos) (tF g E (sSet i (eLcA wk ea t tt te vs))) := by
  refine ⟨fun pins s σ H Dn I h => ?_⟩
  obtain ⟨m, S, L, r, l, q⟩ := h
  by_cases hv : ∃ n ks vs' d S', ea L S = .ok d S' ∧ isSD d S' = some (n, ks, vs')
  · obtain ⟨n, ks, vs', d0, S', hr, hsd⟩ := hv
    have q' : Aft g E m H (((lcL (fun _ => true) t tt te (wipeL L vs) (wk.ds ks vs') [] (S'.set n (.dlk ks vs'))).calm.bind fun x S3 => (unlk n S3).bind fun _ S4 => .ok x S4).bind fun d S1 => .ok (.nx (L.set i (some d))) S1) (fQ g Dn) := by
      unfold sSet eLcA at q
      rw [hr] at q
      have q0 : Aft g E m H ((match isSD d0 S' with
        | some p => (lcL (fun _ => true) t tt te (wipeL L vs) (wk.ds p.2.1 p.2.2) [] (S'.set p.1 (.dlk p.2.1 p.2.2))).calm.bind fun x S3 => (unlk p.1 S3).bind fun _ S4 => .ok x S4
        | none => (wkA wk d0 S').bind fun W S2 => lcL W.ok t tt te (wipeL L vs) W.ds [] S2).bind fun d S1 => .ok (.nx (L.set i (some d))) S1) (fQ g Dn) := q
      rw [hsd] at q0
      exact q0
    have q'' : Aft g E m H ((lcL (fun _ => true) t tt te (wipeL L vs) (wk.ds ks vs') [] (S'.set n (.dlk ks vs'))).calm.bind fun x S3 => (unlk n S3).bind fun _ S4 => .ok (.nx (L.set i (some x))) S4) (fQ g Dn) := by
      cases hz : (lcL (fun _ => true) t tt te (wipeL L vs) (wk.ds ks vs') [] (S'.set n (.dlk ks vs'))).calm with
      | ok x S3 =>
        rw [hz] at q'
        simp only [R.bind_ok] at q' ⊢
        cases hy : unlk n S3 with
        | ok y S4 => rw [hy] at q'; exact q'
        | exc c fs S4 => rw [hy] at q'; exact q'
        | bad => rw [hy] at q'; exact q'
      | exc c fs S3 => rw [hz] at q'; exact q'
      | bad => rw [hz] at q'; exact q'
    subst hvs
    refine (ps_unl (ps_setLc hc hN hy hyl hsw hi.u ok hg ht he hs)).run pins s σ H Dn I ⟨m, S, L, r, l, ?_⟩
    rw [hr]
    intro m1 H1 e1 r1
    obtain ⟨rfl, e0, a, kvs, ha, hH, h4, h5⟩ := sd_at r1 hsd
    refine ⟨n, a, ks, vs', kvs, rfl, ha, e0, hH, h4, h5, fun od nf J hJ => ?_⟩
    have lk := Lk1.start (od := od) r1 ha e0 hH h4 h5
    have q3 := Aft.calmA (Aft.later q'' e1) ⟨m1.l, m1.o, (n, a) :: m1.k⟩ (upd H1 a (.frz od (.dK kvs)))
    refine lc_loop (W := ⟨wk.ds ks vs', fun _ => true⟩) (Q := fun v H' => ∃ d od u, H' d = some (.frz od u) ∧ NF X d ∧ Dn.nx (σ.set i (some v)) (upd H' d u)) lk.r ((l.ext e1).extw lk.ex) hJ q3 fun d m2 S2 H2 v e2 r2 q4 rv => ?_
    obtain ⟨m3, S3, e3, r3, q5⟩ := (lk.on e2 r2).done r1 ha hH q4
    refine ⟨a, od, _, (lk.on e2 r2).at_, nf, q5.ok r3 _ ?_⟩
    exact RL.set ((((l.ext e1).extw lk.ex).ext e2).extw e3) (rv.extw e3) i
  · refine (ds_setLc hc hN hvs hy hyl hsw hi.v ok hg ht he hs).run pins s σ H Dn I ⟨m, S, L, r, l, ?_⟩
    unfold sSet eLcA at q
    unfold sSet eLc wAk
    cases hr : ea L S with
    | ok d S' =>
      rw [hr] at q
      cases hsd : isSD d S' with
      | some p => exact absurd ⟨p.1, p.2.1, p.2.2, d, S', hr, hsd⟩ hv
      | none =>
        have q' : Aft g E m H ((match isSD d S' with
          | some p => (lcL (fun _ => true) t tt te (wipeL L vs) (wk.ds p.2.1 p.2.2) [] (S'.set p.1 (.dlk p.2.1 p.2.2))).calm.bind fun x S3 => (unlk p.1 S3).bind fun _ S4 => .ok x S4
          | none => (wkA wk d S').bind fun W S2 => lcL W.ok t tt te (wipeL L vs) W.ds [] S2).bind fun d S1 => .ok (.nx (L.set i (some d))) S1) (fQ g Dn) := q
        rw [hsd] at q'
        exact q'
    | exc c fs S' => rw [hr] at q; exact q
    | bad => rw [hr] at q; exact q
end
end VL

/-! classes of the text: instances of the store, instances by value -/
namespace VL
open PySem PySem.Spec PyProof.Rows L2
/-- a class that stands behind the top; fl: names that no class of it has (its instances' attributes) -/
structure CT (K : PySem.W.Frag) (cl : String → Option Addr) (mg : Str → Option Value) (c : String) (x : Str) (fl : List Str) where
  C : Addr
  cle : cl c = some C
  cls : Cls K C
  noat : ∀ f ∈ fl, NoAttr K C f
  mgx : mg x = some (.ref C)
/-- a method -/
structure MT (K : PySem.W.Frag) (C : Addr) (m q : Str) (st : Stmt) (ps : List Str) where
  f : Addr
  fd : FuncData
  fn : FunD K m q (defArgs st) (defBody st) (defScope st) [] [] f fd
  bn : Binds K fd ps []
  me : Meth K C m f
/-- __init__ -/
structure IT (K : PySem.W.Frag) (C : Addr) (q : Str) (st : Stmt) (ps : List Str) where
  f : Addr
  fd : FuncData
  fn : FunD K "__init__" q (defArgs st) (defBody st) (defScope st) [] [] f fd
  bn : Binds K fd ps []
  mkc : Mk K C f
/-- a property -/
structure RT (K : PySem.W.Frag) (C : Addr) (m q : Str) (st : Stmt) (ps : List Str) where
  p : Addr
  f : Addr
  fd : FuncData
  fn : FunD K m q (defArgs st) (defBody st) (defScope st) [] [] f fd
  bn : Binds K fd ps []
  pr : PropOf K C m p f
def insOf (d : D) (S : Sto) : Option (String × List Str × List D) := match d with
  | .obj c ns vs => some (c, ns, vs)
  | .ref n => match S[n]? with
    | some (.ins c ns vs) => some (c, ns, vs)
    | _ => none
  | _ => none
def lookF : List Str → List D → Str → Option D
  | n :: ns, d :: ds, f => if n = f then some d else lookF ns ds f
  | _, _, _ => none
def putNs : List Str → Str → List Str
  | [], f => [f]
  | n :: ns, f => if n = f then n :: ns else n :: putNs ns f
def putDs : List Str → List D → Str → D → List D
  | [], _, _, y => [y]
  | n :: ns, d :: ds, f, y => if n = f then y :: ds else d :: putDs ns ds f y
  | _ :: _, [], _, _ => []
section
variable {g : G} {m : Mp} {H : Hp}
theorem lookF_run : ∀ {fs : List (Str × V)} {ds : List D} {f : Str} {d : D}, RVs g m H ds (fs.map (·.2)) → lookF (fs.map (·.1)) ds f = some d → ∃ v, fs.lookup f = some v ∧ RV g m H d v
  | [], ds, f, d, h, e => by cases ds <;> simp [lookF] at e
  | (n, v) :: fs, [], f, d, h, e => by simp [lookF] at e
  | (n, v) :: fs, d' :: ds, f, d, h, e => by
    obtain ⟨v', r, e1, h1, h2⟩ := h.cons_iff
    simp only [List.map_cons, List.cons.injEq] at e1
    obtain ⟨rfl, rfl⟩ := e1
    simp only [List.map_cons, lookF] at e
    by_cases hn : n = f
    · rw [if_pos hn] at e
      cases e
      refine ⟨v, ?_, h1⟩
      have hb : (f == n) = true := beq_iff_eq.mpr hn.symm
      simp [List.lookup, hb]
    · rw [if_neg hn] at e
      obtain ⟨w, w1, w2⟩ := lookF_run h2 e
      refine ⟨w, ?_, w2⟩
      have hb : (f == n) = false := beq_eq_false_iff_ne.mpr (Ne.symm hn)
      simp [List.lookup, hb, w1]
theorem look_none : ∀ {fs : List (Str × V)} {f : Str}, (fs.map (·.1)).contains f = false → fs.lookup f = none
  | [], f, _ => rfl
  | (n, v) :: fs, f, h => by
    simp only [List.map_cons, List.contains_cons, Bool.or_eq_false_iff] at h
    have h2 : (f == n) = false := h.1
    simp [List.lookup, h2, look_none h.2]
theorem putF_run {f : Str} {y : D} {v : V} (hv : RV g m H y v) : ∀ {fs : List (Str × V)} {ds : List D}, RVs g m H ds (fs.map (·.2)) → (putF f v fs).map (·.1) = putNs (fs.map (·.1)) f ∧ RVs g m H (putDs (fs.map (·.1)) ds f y) ((putF f v fs).map (·.2))
  | [], ds, h => by cases ds <;> exact ⟨rfl, .cons hv .nil⟩
  | (n, w) :: fs, [], h => by have := h.nil_iff; simp at this
  | (n, w) :: fs, d :: ds, h => by
    obtain ⟨v', r, e1, h1, h2⟩ := h.cons_iff
    simp only [List.map_cons, List.cons.injEq] at e1
    obtain ⟨rfl, rfl⟩ := e1
    obtain ⟨i1, i2⟩ := putF_run hv h2
    simp only [List.map_cons, putNs, putDs, putF]
    by_cases hn : n = f
    · rw [if_pos hn, if_pos hn, if_pos hn]
      exact ⟨rfl, .cons hv h2⟩
    · rw [if_neg hn, if_neg hn, if_neg hn]
      exact ⟨by simp [i1], .cons h1 i2⟩
theorem ins_run {S : Sto} (r : Rel g m S H) {d : D} {v : V} (rv : RV g m H d v) {c : String} {ns : List Str} {ds : List D} (e : insOf d S = some (c, ns, ds)) : ∃ a C dx fs, v = .ref a ∧ g.cl c = some C ∧ H a = some (.ins C dx fs) ∧ fs.map (·.1) = ns ∧ RVs g m H ds (fs.map (·.2)) := by
  unfold insOf at e
  split at e
  · cases e
    obtain ⟨a, C, dx, fs, rfl, h1, h2, _, h3, h4⟩ := of_obj rv
    exact ⟨a, C, dx, fs, rfl, h1, h2, h3, h4⟩
  · split at e
    · rename_i e0
      cases e
      obtain ⟨a, o, rfl, _, h1, C, dx, fs, h2, rfl, h3, h4⟩ := r.at rv e0 (by intro z; cases z)
      exact ⟨a, C, dx, fs, rfl, h2, h1, h3, h4⟩
    · cases e
  · cases e
end
section
variable {X : Cx} {g : G} {E : XD} {mg : Str → Option Value} {c : String} {x : Str} {fl : List Str} {e o value : Expr} {f : Str} {pos pos' apos tpos p : Pos} {ea eo ev : EF} {es : List Expr} {ls : Lc → Sto → R (List D)} {k n : Nat} {Fn : List D → Sto → R D}
/-! e.f -/
def eFld (c : String) (f : Str) (ea : EF) : EF := fun L S => (ea L S).bind fun d S1 => match insOf d S1 with
  | some p => if p.1 = c then (match lookF p.2.1 p.2.2 f with
    | some v => .ok v S1
    | none => .bad) else .bad
  | none => .bad
theorem de_fld (T : CT g.K g.cl mg c x fl) (hK : X.K = g.K) (hf : f ∈ fl) (he : PE X e (tD g E ea)) (hb : attributeBase e f X.env (eval e X.env) = eval e X.env := by rfl) : PE X (.Attribute e f pos) (tD g E (eFld c f ea)) := by
  refine (pe_fld he hb).imp fun σ H Q h => ?_
  obtain ⟨m, S, L, r, l, q⟩ := h
  refine ⟨m, S, L, r, l, (Aft.bind q).mono fun d m1 S1 H1 e1 r1 q1 v rv => ?_⟩
  split at q1
  · rename_i p ep
    split at q1
    · rename_i hc
      split at q1
      · rename_i w ew
        obtain ⟨a, C, dx, fs, rfl, hC, hH, h3, h4⟩ := ins_run r1 rv ep
        rw [hc, T.cle] at hC
        cases hC
        rw [← h3] at ew
        obtain ⟨u, u1, u2⟩ := lookF_run h4 ew
        exact ⟨a, T.C, dx, fs, u, rfl, hH, by rw [hK]; exact T.cls, by rw [hK]; exact T.noat f hf, u1, q1.ok r1 _ u2⟩
      · exact q1.elim
    · exact q1.elim
  · exact q1.elim
/-! e.f = value -/
def setF (c : String) (f : Str) (d y : D) (S : Sto) : R Unit := match d with
  | .ref n => match S[n]? with
    | some (.ins c' ns vs) => if c' = c ∧ ns.length < 1000 then .ok () (S.set n (.ins c' (putNs ns f) (putDs ns vs f y))) else .bad
    | _ => .bad
  | _ => .bad
def sFldD (c : String) (f : Str) (eo ev : EF) : SF := fun L S => (ev L S).bind fun y S1 => (eo L S1).bind fun d S2 => (setF c f d y S2).bind fun _ S3 => .ok (.nx L) S3
theorem setF_run {m : Mp} {S : Sto} {H : Hp} {d y : D} {v w : V} {P : Mp → Hp → Prop} {a0 : Type} {kk : Sto → R a0} {Q : a0 → Mp → Sto → Hp → Prop} (T : CT g.K g.cl mg c x fl) (r : Rel g m S H) (rv : RV g m H d v) (rw : RV g m H y w) (q : Aft g E m H ((setF c f d y S).bind fun _ S3 => kk S3) Q) :
    ∃ a dx fs S', v = .ref a ∧ H a = some (.ins T.C dx fs) ∧ fs.length < 1000 ∧ Ext g m H m (upd H a (.ins T.C dx (putF f w fs))) ∧ Rel g m S' (upd H a (.ins T.C dx (putF f w fs))) ∧ Aft g E m (upd H a (.ins T.C dx (putF f w fs))) (kk S') Q := by
  unfold setF at q
  split at q
  · split at q
    · rename_i n c' ns vs e0
      split at q
      · rename_i hc
        obtain ⟨a, o', rfl, ha, h1, C, dx, fs, h2, rfl, h3, h4⟩ := r.at rv e0 (by intro z; cases z)
        rw [hc.1, T.cle] at h2
        cases h2
        obtain ⟨p1, p2⟩ := putF_run (f := f) rw h4
        rw [h3] at p1 p2
        have ex : Ext g m H m (upd H a (.ins T.C dx (putF f w fs))) := ext_set r ha e0
        refine ⟨a, dx, fs, _, rfl, h1, by rw [← h3, List.length_map] at hc; exact hc.2, ex, r.set (ob' := .ins c' (putNs ns f) (putDs ns vs f y)) ha e0 ⟨T.C, dx, _, by rw [hc.1]; exact T.cle, rfl, p1, p2⟩, Aft.later (r := kk _) q ex⟩
      · exact q.elim
    · exact q.elim
  · exact q.elim
theorem ds_fld (T : CT g.K g.cl mg c x fl) (hK : X.K = g.K) (hf : f ∈ fl) (ho : PE X o (tD g E eo)) (hv : PE X value (tD g E ev)) (hs : swapsWith value (some (.Attribute o f pos')) pos.line X.env = pure false := by rfl) : PS X (.Assign [.Attribute o f pos'] value pos) (tF g E (sFldD c f eo ev)) := by
  refine (ps_fld ho hv hs).imp fun Dn σ H h => ?_
  obtain ⟨m, S, L, r, l, q⟩ := h
  refine ⟨m, S, L, r, l, (Aft.bind q).mono fun y m1 S1 H1 e1 r1 q1 w rw => ?_⟩
  refine ⟨m1, S1, L, r1, l.ext e1, (Aft.bind q1).mono fun d m2 S2 H2 e2 r2 q2 v rv => ?_⟩
  obtain ⟨a, dx, fs, S', rfl, h1, h2, ex, r3, q3⟩ := setF_run (P := fun _ _ => True) T r2 rv (rw.ext e2) q2
  exact ⟨a, T.C, dx, fs, rfl, h1, by rw [hK]; exact T.cls, by rw [hK]; exact T.noat f hf, h2, q3.ok r3 σ (((l.ext e1).ext e2).ext ex)⟩
/-! o.m(..) -/
def eMeth (c : String) (mn : Str) (F : List D → Sto → R D) (eo : EF) (a : Lc → Sto → R (List D)) : EF := fun L S => (eo L S).bind fun d S1 => match insOf d S1 with
  | some p => if p.1 = c ∧ p.2.1.contains mn = false then (a L S1).bind fun ds S2 => F (d :: ds) S2 else .bad
  | none => .bad
theorem meth_run {C f : Addr} {mn : Str} {ps : List Str} {st : Stmt} {q : Str} {E0 : XK} {σ : St} {H : Hp} {Q : VK} (T : CT g.K g.cl mg c x fl) (hE : ∀ c fs m S H, E c fs m S H → XW g E0 c fs m S H) (h : tD g E (eMeth c mn (ari n Fn) eo ls) σ H Q) : tMeth T.C mn (spD g n Fn) [] E0 (tD g E eo) (tL g E ls) σ H Q := by
  obtain ⟨m, S, L, r, l, q⟩ := h
  refine ⟨m, S, L, r, l, (Aft.bind q).mono fun d m1 S1 H1 e1 r1 q1 v rv => ?_⟩
  split at q1
  · rename_i p ep
    split at q1
    · rename_i hc
      obtain ⟨a, C, dx, fs, rfl, hC, hH, h3, h4⟩ := ins_run r1 rv ep
      rw [hc.1, T.cle] at hC
      cases hC
      refine ⟨a, dx, fs, rfl, hH, look_none (by rw [h3]; exact hc.2), m1, S1, L, r1, l.ext e1, (Aft.bind q1).mono fun ds m2 S2 H2 e2 r2 q2 vs rvs => ?_⟩
      show spD g n Fn (.ref a :: (vs ++ [])) H2 Q E0
      rw [List.append_nil]
      exact sp_call hE r2 (.cons (rv.ext e2) rvs) q2
    · exact q1.elim
  · exact q1.elim
theorem de_meth {mn q : Str} {st : Stmt} {ps : List Str} {pl : Sem Bool} (T : CT g.K g.cl mg c x fl) (M : MT g.K T.C mn q st ps) (hK : X.K = g.K) (F : FnOk X.prog X.w X.K X.mg X.base (L2.CX X.prog X.w) k M.f M.fd ps (spD g n Fn)) (hr : Room k X.A) (hx : PX X g E) (ho : PE X o (tD g E eo)) (ha : PA X (e :: es) (tL g E ls))
    (hst : starEach (e :: es) X.env = (false, eval e X.env) :: starEach es X.env := by rfl) (hpl : (backTo pos (starEach es X.env)).any (·.1) = false := by rfl)
    (ht : eval (.Call (.Attribute o mn apos) (e :: es) [] pos) X.env = (do
      let ov ← eval o X.env
      standAt apos.atName
      let (f, first) ← holding [ov] (getMethod ov mn pl)
      callWith pos f first (backTo pos (starEach (e :: es) X.env)) (backToKw pos (keywordEach [] X.env))) := by rfl) :
    PE X (.Call (.Attribute o mn apos) (e :: es) [] pos) (tD g E (eMeth c mn (ari n Fn) eo ls)) := by
  obtain ⟨E0, hp, hE⟩ := hx
  exact (pe_meth (pl := pl) ho (by rw [hK]; exact T.cls) (by rw [hK]; exact M.me) F hr (by rw [hK]; exact M.bn) .nil hp ha hst hpl ht).imp fun σ H Q h => meth_run (C := T.C) (f := M.f) (ps := ps) (st := st) (q := q) T hE h
theorem de_meth0 {mn q : Str} {st : Stmt} {ps : List Str} {pl : Sem Bool} (T : CT g.K g.cl mg c x fl) (M : MT g.K T.C mn q st ps) (hK : X.K = g.K) (F : FnOk X.prog X.w X.K X.mg X.base (L2.CX X.prog X.w) k M.f M.fd ps (spD g n Fn)) (hr : Room k X.A) (hx : PX X g E) (ho : PE X o (tD g E eo))
    (ht : eval (.Call (.Attribute o mn apos) [] [] pos) X.env = (do
      let ov ← eval o X.env
      standAt apos.atName
      let (f, first) ← holding [ov] (getMethod ov mn pl)
      callWith pos f first (backTo pos (starEach [] X.env)) (backToKw pos (keywordEach [] X.env))) := by rfl) :
    PE X (.Call (.Attribute o mn apos) [] [] pos) (tD g E (eMeth c mn (ari n Fn) eo aNil)) := by
  obtain ⟨E0, hp, hE⟩ := hx
  refine (pe_meth0 (pl := pl) ho (by rw [hK]; exact T.cls) (by rw [hK]; exact M.me) F hr (by rw [hK]; exact M.bn) .nil hp ht).imp fun σ H Q h => ?_
  obtain ⟨m, S, L, r, l, q⟩ := meth_run (C := T.C) (f := M.f) (ps := ps) (st := st) (q := q) T hE h
  refine ⟨m, S, L, r, l, q.mono fun d m1 S1 H1 e1 r1 q1 v rv => ?_⟩
  obtain ⟨a, dx, fs, rfl, hH, h3, m2, S2, L2', r2, l2, q2⟩ := q1 v rv
  exact ⟨a, dx, fs, rfl, hH, h3, q2.ok r2 [] .nil⟩
/-! a property -/
def eProp (c : String) (F : List D → Sto → R D) (eo : EF) : EF := fun L S => (eo L S).bind fun d S1 => match insOf d S1 with
  | some p => if p.1 = c then (F [d] S1).calm else .bad
  | none => .bad
theorem Aft.calmE {a : Type} {m : Mp} {H : Hp} {r : R a} {Q : a → Mp → Sto → Hp → Prop} (h : Aft g E m H r.calm Q) : Aft g NoX m H r Q := by
  cases r with
  | ok x S => exact h
  | exc c fs S => exact (show False from h).elim
  | bad => exact h
theorem de_prop {q : Str} {st : Stmt} {ps : List Str} (T : CT g.K g.cl mg c x fl) (M : RT g.K T.C f q st ps) (hK : X.K = g.K) (F : FnOk X.prog X.w X.K X.mg X.base (L2.CX X.prog X.w) k M.f M.fd ps (spD g n Fn)) (hr : Room (k + 1) X.A) (ho : PE X o (tD g E eo)) (hab : attributeBase o f X.env (eval o X.env) = eval o X.env := by rfl) :
    PE X (.Attribute o f pos) (tD g E (eProp c (ari n Fn) eo)) := by
  refine (pe_prop ho (by rw [hK]; exact T.cls) (by rw [hK]; exact M.pr) F hr (by rw [hK]; exact M.bn) .nil passL hab).imp fun σ H Q h => ?_
  obtain ⟨m, S, L, r, l, q⟩ := h
  refine ⟨m, S, L, r, l, (Aft.bind q).mono fun d m1 S1 H1 e1 r1 q1 v rv => ?_⟩
  split at q1
  · rename_i p ep
    split at q1
    · rename_i hc
      obtain ⟨a, C, dx, fs, rfl, hC, hH, h3, h4⟩ := ins_run r1 rv ep
      rw [hc, T.cle] at hC
      cases hC
      exact ⟨a, dx, fs, rfl, hH, sp_call (E := NoX) (fun _ _ _ _ _ z => z.elim) r1 (.cons rv .nil) (Aft.calmE q1)⟩
    · exact q1.elim
  · exact q1.elim
/-! C(..) -/
/-- fz: nobody changes it from then on -/
def mkEnd (fz : Bool) (n : Nat) (S : Sto) : R D := if fz = true then (match S[n]? with
  | some (.ins c ns vs) => .ok (.obj c ns vs) (S.set n .dead)
  | _ => .bad) else .ok (.ref n) S
def eMake (fz : Bool) (c : String) (F : List D → Sto → R D) (a : Lc → Sto → R (List D)) : EF := fun L S => (a L S).bind fun ds S1 => (F (.ref S1.length :: ds) (S1 ++ [.ins c [] []])).bind fun d S2 => match d with
  | .non => mkEnd fz S1.length S2
  | _ => .bad
theorem make_run {fz : Bool} {E0 : XK} {σ : St} {H : Hp} {Q : VK} (T : CT g.K g.cl mg c x fl) (hE : ∀ c fs m S H, E c fs m S H → XW g E0 c fs m S H) (h : tD g E (eMake fz c (ari n Fn) ls) σ H Q) : tMake T.C (spD g n Fn) [] E0 (tL g E ls) σ H Q := by
  obtain ⟨m, S, L, r, l, q⟩ := h
  refine ⟨m, S, L, r, l, (Aft.bind q).mono fun ds m1 S1 H1 e1 r1 q1 vs rvs a dx na nd hne => ?_⟩
  rw [List.append_nil]
  have nd2 : H1 dx = none := nd
  have ra := r1.lay (o := .own a) nd
  have ea := ext_lay (g := g) (o' := .own a) r1 nd
  have na2 : upd H1 dx (.own a) a = none := by rw [upd_ne (Ne.symm hne)]; exact na
  have rb : Rel g (m1.add a) (S1 ++ [.ins c [] []]) (upd (upd H1 dx (.own a)) a (.ins T.C dx [])) := ra.alloc na2 ⟨T.C, dx, [], T.cle, rfl, rfl, .nil⟩
  have eb : Ext g m1 H1 (m1.add a) (upd (upd H1 dx (.own a)) a (.ins T.C dx [])) := ea.trans (ext_new ra na2)
  have hlast : (m1.add a).l[S1.length]? = some (a, true) := r1.last
  refine sp_call (Q := fun v H2 => v = .non ∧ Q (.ref a) H2) hE rb (.cons (rv_ref hlast) (rvs.ext eb)) (((Aft.bind q1).later eb).mono fun d m2 S2 H2 e2 r2 q2 v rv => ?_)
  split at q2
  · refine ⟨of_non rv, ?_⟩
    unfold mkEnd at q2
    split at q2
    · split at q2
      · rename_i c' ns ws e0
        obtain ⟨b', hb'⟩ := e2.toExw.get hlast
        have hl2 := r2.live hb' e0 (by intro z; cases z)
        obtain ⟨o', h1, C, dx', fs, h2, rfl, h3, h4⟩ := r2.ob _ a _ hl2 e0
        have ek : Ext g m2 H2 (m2.kill S1.length a) H2 := ext_kill hl2
        exact q2.at ek (r2.kill hl2 e0) _ (rv_obj h2 h1 (kill_un r2 hl2) h3 (h4.ext ek))
      · exact q2.elim
    · obtain ⟨b', hb'⟩ := e2.toExw.get hlast
      exact q2.ok r2 _ (rv_ref hb')
  · exact q2.elim
theorem de_make {fz : Bool} {q : Str} {st : Stmt} {ps : List Str} (T : CT g.K g.cl mg c x fl) (M : IT g.K T.C q st ps) (hK : X.K = g.K) (hmg : X.mg = mg) (F : FnOk X.prog X.w X.K X.mg X.base (L2.CX X.prog X.w) k M.f M.fd ps (spD g n Fn)) (hr : Room (k + 1) X.A) (hx : PX X g E) (hg : Gl X x) (ha : PA X (e :: es) (tL g E ls))
    (hdb : (x == ("__debug__" : Str)) = false := by decide) (he : starEach (e :: es) X.env = (false, eval e X.env) :: starEach es X.env := by rfl) (hpl : (backTo pos (starEach es X.env)).any (·.1) = false := by rfl) :
    PE X (.Call (.Name x p) (e :: es) [] pos) (tD g E (eMake fz c (ari n Fn) ls)) := by
  obtain ⟨E0, hp, hE⟩ := hx
  exact (pe_make (by rw [hK]; exact M.mkc) F hr hg (by rw [hmg]; exact T.mgx) (by rw [hK]; exact M.bn) .nil hp ha hdb he hpl).imp fun σ H Q h => make_run T hE h
theorem de_make0 {fz : Bool} {q : Str} {st : Stmt} {ps : List Str} (T : CT g.K g.cl mg c x fl) (M : IT g.K T.C q st ps) (hK : X.K = g.K) (hmg : X.mg = mg) (F : FnOk X.prog X.w X.K X.mg X.base (L2.CX X.prog X.w) k M.f M.fd ps (spD g n Fn)) (hr : Room (k + 1) X.A) (hx : PX X g E) (hg : Gl X x)
    (hdb : (x == ("__debug__" : Str)) = false := by decide) : PE X (.Call (.Name x p) [] [] pos) (tD g E (eMake fz c (ari n Fn) aNil)) := by
  obtain ⟨E0, hp, hE⟩ := hx
  refine (pe_make0 (by rw [hK]; exact M.mkc) F hr hg (by rw [hmg]; exact T.mgx) (by rw [hK]; exact M.bn) .nil hp hdb).imp fun σ H Q h => ?_
  obtain ⟨m, S, L, r, l, q⟩ := make_run T hE h
  exact q.ok r [] .nil
end
end VL

namespace VL
open PySem PySem.Spec PyProof.Rows L2
/-- it comes to an end as wanted -/
structure Ok {a : Type} (r : R a) (Q : a → Sto → Prop) : Prop where
  out : ∃ x S, r = .ok x S ∧ Q x S
/-! the facts behind the top, by one more Bool -/
abbrev AlE : Type := He.AlD × Bool
def obsE (fa : List He.Fa) (fn : List He.DefD) (ex : PySem.W.Frag → Bool) (K : PySem.W.Frag) : AlE := (He.obsD fa fn K, ex K)
def obsEG (n : Nat) (fa : List He.Fa) (fn : List He.DefD) (ex : PySem.W.Frag → Bool) (g : Addr → Option Obj) : AlE := obsE fa fn ex (He.frG g (He.asD g n))
def SaysE (fa : List He.Fa) (fn : List He.DefD) (ex : PySem.W.Frag → Bool) (K : PySem.W.Frag) : Prop := obsE fa fn ex K = (He.valD fn, true)
def hookE (n : Nat) (fa : List He.Fa) (fn : List He.DefD) (ex : PySem.W.Frag → Bool) : PySem.W.Hook where
  α := AlE
  obs := fun s => obsEG n fa fn ex s.heap.get?
  val := fun _ => (He.valD fn, true)
  says := fun _ h => ∃ K : PySem.W.Frag, K.In h ∧ SaysE fa fn ex K
  of := fun _ _ e => ⟨_, He.frG_in, e⟩
  keeps := fun _ _ _ ⟨K, hK, c⟩ k => ⟨K, PySem.W.Frag.In.keeps hK k, c⟩
theorem obsEG_eq {n : Nat} {fa : List He.Fa} {fn : List He.DefD} {ex : PySem.W.Frag → Bool} {g : Addr → Option Obj} {s : Shared} (h : ∀ a, g a = s.heap.get? a) : obsEG n fa fn ex g = (hookE n fa fn ex).obs s := by
  have e : g = s.heap.get? := funext h
  rw [e] <;> rfl
theorem SaysE.d {fa : List He.Fa} {fn : List He.DefD} {ex : PySem.W.Frag → Bool} {K : PySem.W.Frag} (c : SaysE fa fn ex K) : He.SaysD fa fn K := congrArg (fun z : AlE => z.1) c
theorem SaysE.x {fa : List He.Fa} {fn : List He.DefD} {ex : PySem.W.Frag → Bool} {K : PySem.W.Frag} (c : SaysE fa fn ex K) : ex K = true := congrArg (fun z : AlE => z.2) c
/-! the law row's end -/
theorem walk_ofEB {l : PySem.W.OpenLaw} {n k : Nat} {q : Program} {loose : List Str} {XP : (Str → Option Value) → Heap → Prop} {YP : World → Heap → Prop} {d : DefRec} {CX : World → CXT} {x : Str}
    (hn : l.most = some n) (hn2 : n ≤ sizeLine) (hdf : d.params.defaults = []) (hr : Room k callerA)
    (F : ∀ (w : World) (mg : Str → Option Value) (fa : Addr) (h : Heap), YP w h → h.Ns mainGlobals mg → mg d.name = some (.ref fa) →
      ∃ (K : PySem.W.Frag) (fd : FuncData) (sp : Sp), K.In h ∧ (∀ (s : Shared) (u : Value), BindsTo s fd ⟨[u], []⟩ [(x, u)]) ∧
        (∀ (H : Hp) (a : Addr) (ns : List Int), ns.length ≤ n → (∀ z ∈ ns, Builtin.Int.intBits z ≤ 1048576) → Only H → SqL K H a (ns.map V.int) → sp [.ref a] H (fun v _ => v = .bl true) fun _ _ _ => False) ∧
        ∀ base : Heap, K.In base → base.Ns mainGlobals mg → FnOk l.prog w K mg base (CX w) k fa fd [x] sp)
    (hCX : ∀ (w : World) (H : Hp) (s : Shared) (e : Value) (s' : Shared), CX w [] H s (fun _ _ _ => False) e s' → False) :
    PySem.W.WalkO q loose XP YP l.row.toRowW d [] (fun f vs => PySem.call f vs) := by
  refine Att.attach_callB hn hdf fun w s₀ s₁ mg mb fa o pm cd doc a vs ns G Y ho hd hcd hmg hobj hints hlen hbits hg => ?_
  obtain ⟨K, fd, sp, KX, hb, hsp, hF⟩ := F w mg fa _ Y G.T.g hmg
  exact law_call KX G.T.g G.T.b G.T.builtins G.T.nolimit hg hobj hints (Nat.le_trans hlen hn2) hr hF hb (fun H hO hS => hsp H a ns hlen hbits hO hS) fun H e s' => hCX w H s₁ e s'
def gS (K : PySem.W.Frag) (cs : List (String × Str)) : G := ⟨K, fun _ => none, fun c => (cs.lookup c).map fun x => He.ga K x, fun _ _ => True, fun _ _ => trivial⟩
theorem law_sp {F : List D → Sto → R D} (hF : ∀ ns : List Int, ns.length ≤ 63 → (∀ z ∈ ns, Builtin.Int.intBits z ≤ 1048576) → Ok (F [.scr ns] []) fun d _ => d = .bl true)
    (K : PySem.W.Frag) (cs : List (String × Str)) (H : Hp) (a : Addr) (ns : List Int) (hl : ns.length ≤ 63) (hb : ∀ z ∈ ns, Builtin.Int.intBits z ≤ 1048576) (hO : Only H) (hS : SqL K H a (ns.map V.int)) (E : XK) : spD (gS K cs) 1 F [.ref a] H (fun v _ => v = .bl true) E := by
  refine ⟨rfl, Mp.nil, [], [.scr ns], ⟨rfl, fun n k b h => by simp [Mp.nil] at h, fun n b ob h => by simp [Mp.nil] at h, fun n b h => by simp [Mp.nil] at h, fun b h => by simp [Mp.nil] at h, fun b h => by simp [Mp.nil] at h, trivial⟩, .cons (rv_scr ?_) .nil, ?_⟩
  · rcases hS with (h | ⟨o, h⟩) | h
    · rcases hO a with z | ⟨o, xs, z⟩
      · rw [z] at h; cases h
      · rw [z] at h; cases h
    · exact .inl ⟨⟨o, h⟩, fun n => by simp [Mp.nil], by simp [Mp.nil]⟩
    · exact .inr h
  · obtain ⟨d, S', e, rfl⟩ := (hF ns hl hb).out
    show Aft _ _ _ _ (F [.scr ns] []) _
    rw [e]
    exact fun m' H' _ _ v rv => of_bl rv
theorem noCX (P : Program) (w : World) (H : Hp) (s : Shared) (e : Value) (s' : Shared) (h : L2.CX P w [] H s (fun _ _ _ => False) e s') : False := by
  obtain ⟨_, _, _, _, _, _, _, _, _, _, _, _, z⟩ := h
  exact z
/-! from the facts -/
section
variable {K : PySem.W.Frag} {h : Heap} {mg : Str → Option Value}
theorem FT.ofD (X : K.In h) (G : h.Ns mainGlobals mg) {x : Str} {st : Stmt} {ps : List Str} {d : He.DefD} {fd : FuncData} (F : FunD K d.name d.qual d.params d.body d.scope (d.dvs K) (d.kws K) (He.fAd K d.at_) fd) (hd : d = ⟨(x, none), x, x, defArgs st, defBody st, defScope st, [], []⟩)
    (hb : ∀ (kV doc pm : Value) (an : Option Addr) (cdv ct : Value) (us : List Value), us.length = ps.length → bindArgs (PySem.W.fnOf x x (defArgs st) (defBody st) (defScope st) .none kV doc pm an cdv ct) ⟨us, []⟩ = pure (ps.zip us))
    (c : (He.Fa.glo x).ok K = true) : Nonempty (FT K mg x st ps) := by
  subst hd
  exact ⟨⟨_, fd, F, FunD.bindsN F hb, He.glo_ok X G c⟩⟩
theorem KD.ofInt (X : K.In h) (G : h.Ns mainGlobals mg) {x : Str} {i : Int} (c : (He.Fa.int x i).ok K = true) : KD K mg x (.int i) := by
  obtain ⟨t, e⟩ := He.int_ok X G c
  exact KD.int e
theorem KD.ofStr (X : K.In h) (G : h.Ns mainGlobals mg) {x i : Str} (c : (He.Fa.str x i).ok K = true) : KD K mg x (.str i) := by
  obtain ⟨t, e⟩ := He.str_ok X G c
  exact KD.str e
theorem KD.ofTupS (X : K.In h) (G : h.Ns mainGlobals mg) {x : Str} {xs : List Str} (c : (He.Fa.glo x).ok K = true) (t : He.tupB K x (xs.map He.Dv.str) = true) : KD K mg x (.ctp (xs.map D.str)) := by
  refine ⟨.ref (He.ga K x), _, He.glo_ok X G c, rfl, fun g m H hK => ?_⟩
  have e : (xs.map He.Dv.str).map (He.Dv.v K) = xs.map V.str := by rw [List.map_map]; rfl
  have hs := He.tupB_ok t (fun _ => none)
  rw [e] at hs
  rcases hs with (z | ⟨o, z⟩) | z
  · cases z
  · cases z
  · exact rv_ctp (vs := xs.map V.str) (by unfold SqK; rw [hK]; exact z) (rvs_strs xs)
end
end VL

/-! zip and enumerate over lists, tuples and texts, each item a new tuple -/
namespace VL
open PySem PySem.Spec PyProof.Rows L2
inductive Src where
  | lst (a : Addr)
  | tup (a : Addr)
  | str (x : Str)
def Src.v : Src → V
  | .lst a => .ref a
  | .tup a => .ref a
  | .str x => .str x
def Src.adr : Src → Option Addr
  | .lst a => some a
  | .tup a => some a
  | .str _ => none
def charsV (x : Str) : List V := x.cps.toList.map fun c => V.str ⟨#[c]⟩
def Src.has (K : PySem.W.Frag) (H : Hp) : Src → List V → Prop
  | .lst a, xs => SqL K H a xs
  | .tup a, xs => SqT K H a xs
  | .str x, xs => xs = charsV x
/-- its iterator behind i items -/
def Src.at : Src → Addr → Nat → Heap → Prop
  | .lst a, it, i, h => h.IsListIter it a i
  | .tup a, it, i, h => h.IsTupleIter it a i
  | .str x, it, i, h => ∃ t, h.IsStrIter it (strIterType x) x t i
theorem Src.inj {X : Cx} {pins : List (Addr × Obj)} {σ : L2.St} {H : Hp} {s : Shared} (I : Inv X pins σ H s) {c : Src} {xs ys : List V} (h : c.has X.K H xs) (h' : c.has X.K H ys) : xs = ys := by
  cases c with
  | lst a => exact I.list_inj h h'
  | tup a => exact I.tuple_inj h h'
  | str x => exact Eq.trans h (Eq.symm h')
theorem Src.keep {c : Src} {it : Addr} {i : Nat} {h h' : Heap} (st : c.at it i h) (k : ∀ o, h.get? it = some o → h'.get? it = some o) : c.at it i h' := by
  cases c with
  | lst a => exact Heap.IsListIter.at st k
  | tup a => exact Heap.IsTupleIter.at st k
  | str x => obtain ⟨t, o, ho, r⟩ := st; exact ⟨t, o, k o ho, r⟩
theorem Src.obj {c : Src} {it : Addr} {i : Nat} {h : Heap} (st : c.at it i h) : ∃ o, h.get? it = some o ∧ ∀ v, o.data ≠ .cell v := by
  cases c with
  | lst a => obtain ⟨o, ho, _, hd⟩ := st; exact ⟨o, ho, fun v z => by rw [hd] at z; cases z⟩
  | tup a => obtain ⟨o, ho, _, hd⟩ := st; exact ⟨o, ho, fun v z => by rw [hd] at z; cases z⟩
  | str x => obtain ⟨t, o, ho, _, hd⟩ := st; exact ⟨o, ho, fun v z => by rw [hd] at z; cases z⟩
theorem Vals.get2 {xs : List V} {us : List Value} (r : Vals xs us) {i : Nat} {u : Value} (h : us[i]? = some u) : ∃ x, xs[i]? = some x ∧ RelV x u := by
  have hi : i < xs.length := by rw [r.length]; exact (List.getElem?_eq_some_iff.mp h).1
  obtain ⟨u', e, q⟩ := r.get (List.getElem?_eq_getElem hi)
  rw [h] at e; cases e
  exact ⟨_, List.getElem?_eq_getElem hi, q⟩
theorem Src.draws {X : Cx} {pins : List (Addr × Obj)} {σ : L2.St} {H : Hp} {s : Shared} (I : Inv X pins σ H s) (hc : X.calm = true) {c : Src} {it : Addr} (hne : c.adr ≠ some it) {i : Nat} {xs : List V} (hx : c.has X.K H xs) (st : c.at it i s.heap) :
    ∃ fp Pd St, Draws X.prog X.w X.A.in1 it fp xs.length Pd St ∧ St i s.heap ∧ it ∈ fp ∧ (∀ b ∈ fp, b = it ∨ c.adr = some b) ∧ (∀ j h, St j h → c.at it j h) ∧ ∀ j u, Pd j u → ∃ x, xs[j]? = some x ∧ RelV x u := by
  have hh : X.A.in1.handled = none := I.ok.hd hc
  cases c with
  | lst a =>
    obtain ⟨its, rv, p, _⟩ := I.list hx
    have D := Draws.list (prog := X.prog) (w := X.w) hh it a (fun z => hne (by rw [← z]; rfl)) its.toArray
    rw [show its.toArray.size = xs.length by simp [rv.length]] at D
    refine ⟨_, _, _, D, ⟨st, p.isList⟩, by simp, fun b hb => ?_, fun j h q => q.1, fun j u q => Vals.get2 rv (by simpa using q)⟩
    rcases List.mem_cons.mp hb with z | z
    · exact .inl z
    · exact .inr (by rw [List.mem_singleton.mp z]; rfl)
  | tup a =>
    obtain ⟨its, rv, p, _⟩ := I.tuple hx
    have D := Draws.tuple (prog := X.prog) (w := X.w) hh it a (fun z => hne (by rw [← z]; rfl)) its.toArray
    rw [show its.toArray.size = xs.length by simp [rv.length]] at D
    refine ⟨_, _, _, D, ⟨st, p⟩, by simp, fun b hb => ?_, fun j h q => q.1, fun j u q => Vals.get2 rv (by simpa using q)⟩
    rcases List.mem_cons.mp hb with z | z
    · exact .inl z
    · exact .inr (by rw [List.mem_singleton.mp z]; rfl)
  | str x =>
    obtain ⟨t, st⟩ := st
    have hx' : xs = charsV x := hx
    subst hx'
    have D := Draws.text (prog := X.prog) (w := X.w) hh it x t
    rw [show x.cps.size = (charsV x).length by simp [charsV]] at D
    refine ⟨_, _, _, D, st, by simp, fun b hb => .inl (List.mem_singleton.mp hb), fun j h q => ⟨t, q⟩, fun j u q => ?_⟩
    obtain ⟨c, u', h1, rfl⟩ := q
    refine ⟨.str ⟨#[c]⟩, ?_, ⟨u', rfl⟩⟩
    unfold charsV
    rw [List.getElem?_map, Array.getElem?_toList, h1]
    rfl
theorem Src.begins {X : Cx} {pins : List (Addr × Obj)} {σ : L2.St} {H : Hp} {s : Shared} (I : Inv X pins σ H s) {c : Src} {xs : List V} (hx : c.has X.K H xs) {u : Value} (ru : RelV c.v u) :
    ∃ o Hq, Begins u o Hq ∧ Hq s.heap ∧ (∀ a, c.adr = some a → a < s.heap.objs.size) ∧ ∀ it (h : Heap), h.get? it = some o → c.at it 0 h := by
  cases c with
  | lst a =>
    cases ru
    obtain ⟨its, rv, p, _⟩ := I.list hx
    obtain ⟨o', n, e, _⟩ := id p
    exact ⟨_, _, begins_list a its.toArray, p.isList, fun b hb => by cases hb; exact Heap.lt_size e, fun it h e => ⟨_, e, rfl, rfl⟩⟩
  | tup a =>
    cases ru
    obtain ⟨its, rv, p, _⟩ := I.tuple hx
    obtain ⟨o', e, _⟩ := id p
    exact ⟨_, _, begins_tuple a its.toArray, p, fun b hb => by cases hb; exact Heap.lt_size e, fun it h e => ⟨_, e, rfl, rfl⟩⟩
  | str x =>
    obtain ⟨t, rfl⟩ := ru
    exact ⟨_, _, begins_text x t, trivial, fun b hb => (by cases hb), fun it h e => ⟨t, _, e, rfl, rfl⟩⟩
/-- each item a new tuple; row: its parts -/
def ItRow (go : Nat → Hp → Prop) (row : Nat → Hp → List V → Prop) (stop : Nat → Hp → Prop) : It :=
  ⟨go, fun i H v H' => ∃ T xs, v = .ref T ∧ H T = none ∧ H' = upd H T (.tup xs) ∧ row i H xs, stop⟩
theorem turn_rows {P : Program} {w : World} {K : PySem.W.Frag} {elts : List Expr} {kk : Nat} {tpos : Pos} {I0 : Addr} {cells wr : List Addr} {go : Nat → Hp → Prop} {row : Nat → Hp → List V → Prop} {stop : Nat → Hp → Prop} {tn : Nat → Heap → Prop}
    (mem : I0 ∈ cells) (sub : ∀ b ∈ wr, b ∈ cells) (obj : ∀ i h, tn i h → ∀ b ∈ cells, ∃ o, h.get? b = some o ∧ ∀ v, o.data ≠ .cell v)
    (keep : ∀ i h h', tn i h → (∀ b ∈ cells, ∀ o, h.get? b = some o → h'.get? b = some o) → tn i h')
    (self : ∀ (A : Around) (i : Nat) (s : Shared) (Q : Value → Shared → Prop) (E : Value → Shared → Prop), tn i s.heap → Q (.ref I0) s → wpAny (model P w) A (pyIter (.ref I0)) Q E s)
    (W : ∀ (X : Cx), X.prog = P → X.w = w → X.K = K → X.calm = true → ∀ (i : Nat) (pins : List (Addr × Obj)) (s : Shared) (σ : L2.St) (H : Hp), Inv X pins σ H s → tn i s.heap → (go i H ∨ stop i H) →
      ∃ fp n Pt St Mid, WalksT P w X.A I0 fp wr n Pt St Mid ∧ St i s.heap ∧ (∀ h, go i H → St (i + 1) h → tn (i + 1) h) ∧ (go i H → i < n) ∧ (stop i H → i = n) ∧ ∀ vals, Pt i vals → ∃ xs, row i H xs ∧ Vals xs vals.toList ∧ xs.length ≤ 3) :
    Turn P w K (.Tuple elts kk tpos) (ItRow go row stop) cells I0 tn where
  mem := mem
  obj := obj
  keep := keep
  item := by
    intro X hP hw hK hc i pins s σ H E I hf st hg
    obtain ⟨fp, n, Pt, St, Mid, D, s0, back, lt, _, rows⟩ := W X hP hw hK hc i pins s σ H I st (.inl hg)
    subst hP hw
    refine D.item i s _ _ (lt hg) s0 fun T vals h' tk pt hT tup mid hk => ⟨_, rfl, ?_⟩
    refine D.go elts kk tpos i T { s with heap := h', toks := tk } _ _ mid fun h'' st'' hk'' => ?_
    obtain ⟨xs, rw1, vl, hl⟩ := rows vals pt
    have nT : T ∉ wr := D.apart i T _ mid
    obtain ⟨oT, eT, cT, nn, dT⟩ := tup
    have new : ObjOk X.prog X.w (upd H T (.tup xs)) h'' T (.tup xs) :=
      ⟨by rw [sizeLine_eq]; omega, vals.toList, vl, ⟨oT, hk'' T oT nT eT, cT, nn, by simpa using dT⟩⟩
    have I1 : Inv X pins σ (upd H T (.tup xs)) { s with heap := h'', toks := tk } :=
      I.turnedNew (ch := cells) (fun b ob hb q => hk'' b ob (fun z => hb (sub b z)) (hk b ob (fun z => hb (sub b z)) q)) hf hT new
    refine ⟨.ref T, _, I1, rfl, ⟨T, xs, rfl, I.hok.fresh hT, rfl, rw1⟩, back _ hg st'', fun b hb => ?_⟩
    obtain ⟨o, e, _⟩ := obj i _ st b hb
    rw [upd_ne (Nat.ne_of_lt (Nat.lt_of_lt_of_le (Heap.lt_size e) hT))]
    exact (hf b hb).1
  done := by
    intro X hP hw hK hc i pins s σ H E I hf st hg
    obtain ⟨fp, n, Pt, St, Mid, D, s0, back, _, eq, rows⟩ := W X hP hw hK hc i pins s σ H I st (.inr hg)
    subst hP hw
    refine D.done s _ _ (by rw [← eq hg]; exact s0) fun h' tk hk => ⟨rfl, ?_⟩
    exact I.turnedL (ch := cells) (fun b ob hb q => hk b ob (fun z => hb (sub b z)) q) hf
  self := self
/-! zip of two -/
structure Zc2 (N : Addr) (s1 s2 : Src) (B i : Nat) (h : Heap) : Prop where
  z : IsZip h (N + 4) (N + 2) (N + 3) .none
  ti : IsTupOf2 h (N + 2) (.ref N) (.ref (N + 1))
  to : ∃ a1 a2, IsTupOf2 h (N + 3) a1 a2
  a1 : s1.at N i h
  a2 : s2.at (N + 1) i h
  b : i ≤ B
def z2go (K : PySem.W.Frag) (s1 s2 : Src) (B i : Nat) (H : Hp) : Prop := i < B ∧ ∃ xs ys, s1.has K H xs ∧ s2.has K H ys ∧ min xs.length ys.length = B
def z2row (K : PySem.W.Frag) (s1 s2 : Src) (i : Nat) (H : Hp) (r : List V) : Prop := ∃ x y, r = [x, y] ∧ (∀ xs, s1.has K H xs → xs[i]? = some x) ∧ ∀ ys, s2.has K H ys → ys[i]? = some y
def z2stop (K : PySem.W.Frag) (s1 s2 : Src) (B i : Nat) (H : Hp) : Prop := B ≤ i ∧ ∃ xs ys, s1.has K H xs ∧ s2.has K H ys ∧ min xs.length ys.length = B
def ItZ2 (K : PySem.W.Frag) (s1 s2 : Src) (B : Nat) : It := ItRow (z2go K s1 s2 B) (z2row K s1 s2) (z2stop K s1 s2 B)
theorem sep2 {N : Addr} {s1 s2 : Src} {fp1 fp2 : List Addr} (l1 : ∀ a, s1.adr = some a → a < N) (l2 : ∀ a, s2.adr = some a → a < N) (m1 : N ∈ fp1) (m2 : N + 1 ∈ fp2) (f1 : ∀ b ∈ fp1, b = N ∨ s1.adr = some b) (f2 : ∀ b ∈ fp2, b = N + 1 ∨ s2.adr = some b) : ZipSep2 (N + 4) (N + 2) (N + 3) N (N + 1) fp1 fp2 := by
  have q1 : ∀ b ∈ fp1, b ≤ N := fun b hb => by
    rcases f1 b hb with z | z
    · exact Nat.le_of_eq z
    · exact Nat.le_of_lt (l1 b z)
  have q2 : ∀ b ∈ fp2, b = N + 1 ∨ b < N := fun b hb => by
    rcases f2 b hb with z | z
    · exact .inl z
    · exact .inr (l2 b z)
  refine ⟨?_, ?_, ?_, ?_, m1, fun z => ?_, fun z => ?_, ?_, m2, fun z => ?_, fun z => ?_, fun z => ?_, fun z => ?_⟩
  all_goals first
    | (have := q1 _ z; simp only [Addr] at *; omega)
    | (have := q2 _ z; simp only [Addr] at *; omega)
    | (simp only [Addr] at *; omega)
theorem turn_z2 {P : Program} {w : World} {K : PySem.W.Frag} {elts : List Expr} {kk : Nat} {tpos : Pos} {N : Addr} {s1 s2 : Src} {B : Nat} (l1 : ∀ a, s1.adr = some a → a < N) (l2 : ∀ a, s2.adr = some a → a < N) :
    Turn P w K (.Tuple elts kk tpos) (ItZ2 K s1 s2 B) [N + 4, N + 2, N + 3, N, N + 1] (N + 4) (Zc2 N s1 s2 B) := by
  refine turn_rows (wr := [N + 4, N + 3, N, N + 1]) (by simp) (fun b hb => ?_) (fun i h st b hb => ?_) (fun i h h' st k => ?_) (fun A i s Q E st q => wpAny_pyIter_zip st.z q) ?_
  · simp only [List.mem_cons, List.not_mem_nil, or_false] at hb ⊢
    rcases hb with z | z | z | z <;> simp [z]
  · simp only [List.mem_cons, List.not_mem_nil, or_false] at hb
    rcases hb with z | z | z | z | z <;> rw [z]
    · exact ⟨_, st.z, fun v q => nomatch q⟩
    · exact ⟨_, st.ti, fun v q => nomatch q⟩
    · obtain ⟨a1, a2, e⟩ := st.to; exact ⟨_, e, fun v q => nomatch q⟩
    · exact Src.obj st.a1
    · exact Src.obj st.a2
  · obtain ⟨a1, a2, e⟩ := st.to
    exact ⟨k _ (by simp) _ st.z, k _ (by simp) _ st.ti, ⟨a1, a2, k _ (by simp) _ e⟩, Src.keep st.a1 fun o q => k _ (by simp) o q, Src.keep st.a2 fun o q => k _ (by simp) o q, st.b⟩
  · intro X hP hw hK hc i pins s σ H I st hgs
    have hgs' : ∃ xs ys, s1.has K H xs ∧ s2.has K H ys ∧ min xs.length ys.length = B := by
      rcases hgs with z | z
      · exact z.2
      · exact z.2
    obtain ⟨xs, ys, hx, hy, hB⟩ := hgs'
    subst hP hw hK
    obtain ⟨fp1, P1, St1, D1, st1, m1, f1, b1, r1⟩ := Src.draws I hc (fun z => absurd (l1 _ z) (Nat.lt_irrefl _)) hx st.a1
    obtain ⟨fp2, P2, St2, D2, st2, m2, f2, b2, r2⟩ := Src.draws I hc (fun z => absurd (l2 _ z) (by simp only [Addr]; omega)) hy st.a2
    have S := sep2 l1 l2 m1 m2 f1 f2
    refine ⟨_, _, _, _, _, WalksT.zipD2 S D1 D2, ⟨st.z, st.ti, st.to, st1, st2⟩, fun h hg q => ⟨q.1, q.2.1, q.2.2.1, b1 _ _ q.2.2.2.1, b2 _ _ q.2.2.2.2, hg.1⟩, fun hg => by rw [hB]; exact hg.1, fun hg => by rw [hB]; exact Nat.le_antisymm st.b hg.1, fun vals q => ?_⟩
    obtain ⟨u1, u2, p1, p2, rfl⟩ := q
    obtain ⟨x, ex, rx⟩ := r1 _ _ p1
    obtain ⟨y, ey, ry⟩ := r2 _ _ p2
    refine ⟨[x, y], ⟨x, y, rfl, fun l hl => ?_, fun l hl => ?_⟩, .cons rx (.cons ry .nil), by simp⟩
    · rw [Src.inj I hl hx]; exact ex
    · rw [Src.inj I hl hy]; exact ey
def iZ2 (K : PySem.W.Frag) (ta : TA) : TI := fun σ H R => ta σ H fun vs H1 => ∃ s1 s2 xs ys, vs = [s1.v, s2.v] ∧ s1.has K H1 xs ∧ s2.has K H1 ys ∧ R (ItZ2 K s1 s2 (min xs.length ys.length)) H1
theorem pi_z2 {X : Cx} {e e2 : Expr} {ta : TA} {p pos tpos : Pos} {elts : List Expr} {kk : Nat} (hg : Gl X "zip") (hm : X.mg "zip" = none) (ha : PA X [e, e2] ta)
    (hs : starEach [e, e2] X.env = (false, eval e X.env) :: starEach [e2] X.env := by rfl) (hpl : (backTo pos (starEach [e2] X.env)).any (·.1) = false := by rfl) :
    PI X (.Tuple elts kk tpos) (.Call (.Name "zip" p) [e, e2] [] pos) (iZ2 X.K ta) := by
  refine ⟨fun pins s σ H R I h => ?_⟩
  refine Call_ (ld_blt I hg hm PyProof.Rows.boot_zip (PyProof.Rows.callWith_type1 (thn (ha.run pos pins s σ H _ I h) fun us s1 ⟨vs, H1, I1, r1, q1⟩ => ?_) hs hpl))
  obtain ⟨c1, c2, xs, ys, ex, hqx, hqy, q⟩ := q1
  subst ex
  cases r1 with
  | cons r rr =>
    cases rr with
    | cons r' rr =>
      cases rr
      obtain ⟨o1, Hq1, B1, hq1, l1, t1⟩ := Src.begins I1 hqx r
      obtain ⟨o2, Hq2, B2, hq2, l2, t2⟩ := Src.begins I1 hqy r'
      refine zip_begins2 B1 B2 hq1 hq2 fun h' hz hTI hTO g1 g2 hsz hk => wpAny_pyIter_zip hz ?_
      have I2 : Inv X pins σ H1 { s1 with heap := h' } := I1.kept (t' := s1.toks) hk
      refine ⟨s1.heap.objs.size + 4, _, _, _, H1, rfl, I2, turn_z2 l1 l2, ⟨hz, hTI, ⟨_, _, hTO⟩, t1 _ _ g1, t2 _ _ g2, Nat.zero_le _⟩, fun c hcm => ?_, q⟩
      have hle : s1.heap.objs.size ≤ c := by
        simp only [List.mem_cons, List.not_mem_nil, or_false] at hcm
        simp only [Addr] at *
        omega
      exact I1.fpOk hle (I1.hok.fresh hle)
end VL

namespace VL
open PySem PySem.Spec PyProof.Rows L2
set_option maxHeartbeats 1000000 in
theorem meets_enum1 {v : Value} {o : Obj} {H : Heap → Prop} (B : Begins v o H) :
    Meets (Builtin.«enumerate.__new__» ⟨[.type "enumerate", v], []⟩) (fun _ R s => H s.heap ∧
      R (.ok (.ret (.ref (s.heap.push o).objs.size))) { s with heap := (s.heap.push o).push { cls := .type "enumerate", data := .fields #[.none, .bool false, .ref s.heap.objs.size, rawInt 0, .none, .none] } }) :=
  .of_wp fun prog w A R s h => by
    obtain ⟨hp, g, d, tk, os⟩ := s; obtain ⟨h1, h⟩ := h
    have hsub := sub_enumerate
    have q1 : ∀ {A' : Around} {E : Value → Shared → Prop} {Q : Value → Shared → Prop}, Q (.ref hp.objs.size) ⟨hp.push o, g, d, tk, os⟩ → wpAny (model prog w) A' (pyIter v) Q E ⟨hp, g, d, tk, os⟩ :=
      fun q => B.iter prog w _ _ ⟨hp, g, d, tk, os⟩ _ h1 q
    wp_walk using q1
    refine wpAny_stack_any fun st => wpAny_pure ?_
    split
    · rename_i c _ _ _ _ _
      cases (c == Value.type "enumerate")
      · wp_walk using q1
        exact ⟨_, rfl, h⟩
      · wp_walk using q1
        exact ⟨_, rfl, h⟩
    · wp_walk using q1
      exact ⟨_, rfl, h⟩
section
variable {prog : Program} {w : World} {A : Around} {E : Value → Shared → Prop} {s : Shared}
theorem enum1_begins {v : Value} {o : Obj} {H : Heap → Prop} {Q : Value → Shared → Prop} (B : Begins v o H) (h1 : H s.heap)
    (h : ∀ h', IsEnum h' (s.heap.objs.size + 1) s.heap.objs.size 0 .none → h'.get? s.heap.objs.size = some o → h'.objs.size = s.heap.objs.size + 2 →
      (∀ b o, s.heap.get? b = some o → h'.get? b = some o) → Q (.ref (s.heap.objs.size + 1)) { s with heap := h' }) :
    wpAny (model prog w) A (call (.type "enumerate") [v]) Q E s := by
  refine callType_new F.called_enumerate (by decide) (F.typeCall_enumerate_1 _) (F.newCall_enumerate_1 _) (fun obj => F.args_object_init_2 obj _) F.entry_enumerate_new
    (meets_enum1 B) ⟨h1, ?_⟩
  have hz : (s.heap.push o).objs.size = s.heap.objs.size + 1 := Heap.size_push ..
  show _ ∧ _
  rw [hz]
  have he : IsEnum ((s.heap.push o).push { cls := .type "enumerate", data := .fields #[.none, .bool false, .ref s.heap.objs.size, rawInt 0, .none, .none] }) (s.heap.objs.size + 1) s.heap.objs.size 0 .none := by
    have := Heap.get?_push_size (s.heap.push o) (o := { cls := .type "enumerate", data := .fields #[.none, .bool false, .ref s.heap.objs.size, rawInt 0, .none, .none] }) rfl
    rw [hz] at this; exact this
  refine ⟨⟨_, he, rfl⟩, h _ he (Heap.get?_push_of_some _ (Heap.get?_push_size _ B.free)) (by rw [Heap.size_push, hz]) fun b o x => Heap.get?_push_of_some _ (Heap.get?_push_of_some _ x)⟩
end
structure En (N : Addr) (s1 : Src) (B i : Nat) (h : Heap) : Prop where
  z : ∃ old, IsEnum h (N + 1) N ((i : Nat) : Int) old
  a1 : s1.at N i h
  b : i ≤ B
def engo (K : PySem.W.Frag) (s1 : Src) (B i : Nat) (H : Hp) : Prop := i < B ∧ ∃ xs, s1.has K H xs ∧ xs.length = B
def enrow (K : PySem.W.Frag) (s1 : Src) (i : Nat) (H : Hp) (r : List V) : Prop := ∃ x, r = [.int (i : Nat), x] ∧ ∀ xs, s1.has K H xs → xs[i]? = some x
def enstop (K : PySem.W.Frag) (s1 : Src) (B i : Nat) (H : Hp) : Prop := B ≤ i ∧ ∃ xs, s1.has K H xs ∧ xs.length = B
def ItEn (K : PySem.W.Frag) (s1 : Src) (B : Nat) : It := ItRow (engo K s1 B) (enrow K s1) (enstop K s1 B)
theorem turn_en {P : Program} {w : World} {K : PySem.W.Frag} {elts : List Expr} {kk : Nat} {tpos : Pos} {N : Addr} {s1 : Src} {B : Nat} (l1 : ∀ a, s1.adr = some a → a < N) :
    Turn P w K (.Tuple elts kk tpos) (ItEn K s1 B) [N + 1, N] (N + 1) (En N s1 B) := by
  refine turn_rows (wr := [N + 1, N]) (by simp) (fun b hb => hb) (fun i h st b hb => ?_) (fun i h h' st k => ?_) (fun A i s Q E st q => let ⟨_, e⟩ := st.z; wpAny_pyIter_enum e q) ?_
  · simp only [List.mem_cons, List.not_mem_nil, or_false] at hb
    rcases hb with z | z <;> rw [z]
    · obtain ⟨_, e⟩ := st.z
      exact ⟨_, e, fun v q => nomatch q⟩
    · exact Src.obj st.a1
  · obtain ⟨old, e⟩ := st.z
    exact ⟨⟨old, k _ (by simp) _ e⟩, Src.keep st.a1 fun o q => k _ (by simp) o q, st.b⟩
  · intro X hP hw hK hc i pins s σ H I st hgs
    have hgs' : ∃ xs, s1.has K H xs ∧ xs.length = B := by
      rcases hgs with z | z
      · exact z.2
      · exact z.2
    obtain ⟨xs, hx, hB⟩ := hgs'
    subst hP hw hK
    obtain ⟨fp1, P1, St1, D1, st1, m1, f1, b1, r1⟩ := Src.draws I hc (fun z => absurd (l1 _ z) (Nat.lt_irrefl _)) hx st.a1
    have hef : N + 1 ∉ fp1 := fun z => by
      rcases f1 _ z with q | q
      · simp only [Addr] at *; omega
      · have := l1 _ q; simp only [Addr] at *; omega
    refine ⟨_, _, _, _, _, WalksT.enumerateD D1 (N + 1) (by simp only [Addr]; omega) hef m1, ⟨st.z, st1⟩, fun h hg q => ⟨q.1, b1 _ _ q.2, hg.1⟩, fun hg => by rw [hB]; exact hg.1, fun hg => by rw [hB]; exact Nat.le_antisymm st.b hg.1, fun vals q => ?_⟩
    obtain ⟨t, u1, p1, rfl⟩ := q
    obtain ⟨x, ex, rx⟩ := r1 _ _ p1
    refine ⟨[.int i, x], ⟨x, rfl, fun l hl => ?_⟩, .cons ⟨t, rfl⟩ (.cons rx .nil), by simp⟩
    rw [Src.inj I hl hx]; exact ex
def iEn (K : PySem.W.Frag) (ta : TA) : TI := fun σ H R => ta σ H fun vs H1 => ∃ s1 xs, vs = [s1.v] ∧ s1.has K H1 xs ∧ R (ItEn K s1 xs.length) H1
theorem pi_en {X : Cx} {e : Expr} {ta : TA} {p pos tpos : Pos} {elts : List Expr} {kk : Nat} (hg : Gl X "enumerate") (hm : X.mg "enumerate" = none) (ha : PA X [e] ta) (hs : starEach [e] X.env = [(false, eval e X.env)] := by rfl) :
    PI X (.Tuple elts kk tpos) (.Call (.Name "enumerate" p) [e] [] pos) (iEn X.K ta) := by
  refine ⟨fun pins s σ H R I h => ?_⟩
  refine Call_ (ld_blt I hg hm boot_enumerate (PyProof.Rows.callWith_type1 (thn (ha.run pos pins s σ H _ I h) fun us s1 ⟨vs, H1, I1, r1, q1⟩ => ?_) hs rfl))
  obtain ⟨c1, xs, ex, hqx, q⟩ := q1
  subst ex
  cases r1 with
  | cons r rr =>
    cases rr
    obtain ⟨o1, Hq1, B1, hq1, l1, t1⟩ := Src.begins I1 hqx r
    refine enum1_begins B1 hq1 fun h' hz g1 hsz hk => wpAny_pyIter_enum hz ?_
    have I2 : Inv X pins σ H1 { s1 with heap := h' } := I1.kept (t' := s1.toks) hk
    refine ⟨s1.heap.objs.size + 1, _, _, _, H1, rfl, I2, turn_en l1, ⟨⟨_, hz⟩, t1 _ _ g1, Nat.zero_le _⟩, fun c hcm => ?_, q⟩
    have hle : s1.heap.objs.size ≤ c := by
      simp only [List.mem_cons, List.not_mem_nil, or_false] at hcm
      simp only [Addr] at *
      omega
    exact I1.fpOk hle (I1.hok.fresh hle)
/-! zip of three -/
structure Zc3 (N : Addr) (s1 s2 s3 : Src) (B i : Nat) (h : Heap) : Prop where
  z : IsZip h (N + 5) (N + 3) (N + 4) .none
  ti : IsTupOf3 h (N + 3) (.ref N) (.ref (N + 1)) (.ref (N + 2))
  to : ∃ a1 a2 a3, IsTupOf3 h (N + 4) a1 a2 a3
  a1 : s1.at N i h
  a2 : s2.at (N + 1) i h
  a3 : s3.at (N + 2) i h
  b : i ≤ B
def z3has (K : PySem.W.Frag) (s1 s2 s3 : Src) (B : Nat) (H : Hp) : Prop := ∃ xs ys zs, s1.has K H xs ∧ s2.has K H ys ∧ s3.has K H zs ∧ min (min xs.length ys.length) zs.length = B
def z3row (K : PySem.W.Frag) (s1 s2 s3 : Src) (i : Nat) (H : Hp) (r : List V) : Prop := ∃ x y z, r = [x, y, z] ∧ (∀ xs, s1.has K H xs → xs[i]? = some x) ∧ (∀ ys, s2.has K H ys → ys[i]? = some y) ∧ ∀ zs, s3.has K H zs → zs[i]? = some z
def ItZ3 (K : PySem.W.Frag) (s1 s2 s3 : Src) (B : Nat) : It := ItRow (fun i H => i < B ∧ z3has K s1 s2 s3 B H) (z3row K s1 s2 s3) (fun i H => B ≤ i ∧ z3has K s1 s2 s3 B H)
theorem sep3 {N : Addr} {s1 s2 s3 : Src} {fp1 fp2 fp3 : List Addr} (l1 : ∀ a, s1.adr = some a → a < N) (l2 : ∀ a, s2.adr = some a → a < N) (l3 : ∀ a, s3.adr = some a → a < N) (m1 : N ∈ fp1) (m2 : N + 1 ∈ fp2) (m3 : N + 2 ∈ fp3) (f1 : ∀ b ∈ fp1, b = N ∨ s1.adr = some b) (f2 : ∀ b ∈ fp2, b = N + 1 ∨ s2.adr = some b) (f3 : ∀ b ∈ fp3, b = N + 2 ∨ s3.adr = some b) :
    ZipSep3 (N + 5) (N + 3) (N + 4) N (N + 1) (N + 2) fp1 fp2 fp3 := by
  have q1 : ∀ b ∈ fp1, b ≤ N := fun b hb => by
    rcases f1 b hb with z | z
    · exact Nat.le_of_eq z
    · exact Nat.le_of_lt (l1 b z)
  have q2 : ∀ b ∈ fp2, b = N + 1 ∨ b < N := fun b hb => by
    rcases f2 b hb with z | z
    · exact .inl z
    · exact .inr (l2 b z)
  have q3 : ∀ b ∈ fp3, b = N + 2 ∨ b < N := fun b hb => by
    rcases f3 b hb with z | z
    · exact .inl z
    · exact .inr (l3 b z)
  refine ⟨?_, ?_, ?_, ?_, m1, fun z => ?_, fun z => ?_, ?_, m2, fun z => ?_, fun z => ?_, ?_, m3, fun z => ?_, fun z => ?_, fun z => ?_, fun z => ?_, fun z => ?_, fun z => ?_, fun z => ?_, fun z => ?_⟩
  all_goals first
    | (have := q1 _ z; simp only [Addr] at *; omega)
    | (have := q2 _ z; simp only [Addr] at *; omega)
    | (have := q3 _ z; simp only [Addr] at *; omega)
    | (simp only [Addr] at *; omega)
theorem turn_z3 {P : Program} {w : World} {K : PySem.W.Frag} {elts : List Expr} {kk : Nat} {tpos : Pos} {N : Addr} {s1 s2 s3 : Src} {B : Nat} (l1 : ∀ a, s1.adr = some a → a < N) (l2 : ∀ a, s2.adr = some a → a < N) (l3 : ∀ a, s3.adr = some a → a < N) :
    Turn P w K (.Tuple elts kk tpos) (ItZ3 K s1 s2 s3 B) [N + 5, N + 3, N + 4, N, N + 1, N + 2] (N + 5) (Zc3 N s1 s2 s3 B) := by
  refine turn_rows (wr := [N + 5, N + 4, N, N + 1, N + 2]) (by simp) (fun b hb => ?_) (fun i h st b hb => ?_) (fun i h h' st k => ?_) (fun A i s Q E st q => wpAny_pyIter_zip st.z q) ?_
  · simp only [List.mem_cons, List.not_mem_nil, or_false] at hb ⊢
    rcases hb with z | z | z | z | z <;> simp [z]
  · simp only [List.mem_cons, List.not_mem_nil, or_false] at hb
    rcases hb with z | z | z | z | z | z <;> rw [z]
    · exact ⟨_, st.z, fun v q => nomatch q⟩
    · exact ⟨_, st.ti, fun v q => nomatch q⟩
    · obtain ⟨a1, a2, a3, e⟩ := st.to; exact ⟨_, e, fun v q => nomatch q⟩
    · exact Src.obj st.a1
    · exact Src.obj st.a2
    · exact Src.obj st.a3
  · obtain ⟨a1, a2, a3, e⟩ := st.to
    exact ⟨k _ (by simp) _ st.z, k _ (by simp) _ st.ti, ⟨a1, a2, a3, k _ (by simp) _ e⟩, Src.keep st.a1 fun o q => k _ (by simp) o q, Src.keep st.a2 fun o q => k _ (by simp) o q, Src.keep st.a3 fun o q => k _ (by simp) o q, st.b⟩
  · intro X hP hw hK hc i pins s σ H I st hgs
    have hgs' : z3has K s1 s2 s3 B H := by
      rcases hgs with z | z
      · exact z.2
      · exact z.2
    obtain ⟨xs, ys, zs, hx, hy, hz, hB⟩ := hgs'
    subst hP hw hK
    obtain ⟨fp1, P1, St1, D1, st1, m1, f1, b1, r1⟩ := Src.draws I hc (fun z => absurd (l1 _ z) (Nat.lt_irrefl _)) hx st.a1
    obtain ⟨fp2, P2, St2, D2, st2, m2, f2, b2, r2⟩ := Src.draws I hc (fun z => absurd (l2 _ z) (by simp only [Addr]; omega)) hy st.a2
    obtain ⟨fp3, P3, St3, D3, st3, m3, f3, b3, r3⟩ := Src.draws I hc (fun z => absurd (l3 _ z) (by simp only [Addr]; omega)) hz st.a3
    have S := sep3 l1 l2 l3 m1 m2 m3 f1 f2 f3
    refine ⟨_, _, _, _, _, WalksT.zipD3 S D1 D2 D3, ⟨st.z, st.ti, st.to, st1, st2, st3⟩, fun h hg q => ⟨q.1, q.2.1, q.2.2.1, b1 _ _ q.2.2.2.1, b2 _ _ q.2.2.2.2.1, b3 _ _ q.2.2.2.2.2, hg.1⟩, fun hg => by have := hg.1; omega, fun hg => by have := st.b; have := hg.1; omega, fun vals q => ?_⟩
    obtain ⟨u1, u2, u3, p1, p2, p3, rfl⟩ := q
    obtain ⟨x, ex, rx⟩ := r1 _ _ p1
    obtain ⟨y, ey, ry⟩ := r2 _ _ p2
    obtain ⟨z, ez, rz⟩ := r3 _ _ p3
    refine ⟨[x, y, z], ⟨x, y, z, rfl, fun l hl => ?_, fun l hl => ?_, fun l hl => ?_⟩, .cons rx (.cons ry (.cons rz .nil)), by simp⟩
    · rw [Src.inj I hl hx]; exact ex
    · rw [Src.inj I hl hy]; exact ey
    · rw [Src.inj I hl hz]; exact ez
def iZ3 (K : PySem.W.Frag) (ta : TA) : TI := fun σ H R => ta σ H fun vs H1 => ∃ s1 s2 s3 xs ys zs, vs = [s1.v, s2.v, s3.v] ∧ s1.has K H1 xs ∧ s2.has K H1 ys ∧ s3.has K H1 zs ∧ R (ItZ3 K s1 s2 s3 (min (min xs.length ys.length) zs.length)) H1
theorem pi_z3 {X : Cx} {e e2 e3 : Expr} {ta : TA} {p pos tpos : Pos} {elts : List Expr} {kk : Nat} (hg : Gl X "zip") (hm : X.mg "zip" = none) (ha : PA X [e, e2, e3] ta)
    (hs : starEach [e, e2, e3] X.env = (false, eval e X.env) :: starEach [e2, e3] X.env := by rfl) (hpl : (backTo pos (starEach [e2, e3] X.env)).any (·.1) = false := by rfl) :
    PI X (.Tuple elts kk tpos) (.Call (.Name "zip" p) [e, e2, e3] [] pos) (iZ3 X.K ta) := by
  refine ⟨fun pins s σ H R I h => ?_⟩
  refine Call_ (ld_blt I hg hm PyProof.Rows.boot_zip (PyProof.Rows.callWith_type1 (thn (ha.run pos pins s σ H _ I h) fun us s1 ⟨vs, H1, I1, r1, q1⟩ => ?_) hs hpl))
  obtain ⟨c1, c2, c3, xs, ys, zs, ex, hqx, hqy, hqz, q⟩ := q1
  subst ex
  cases r1 with
  | cons r rr =>
    cases rr with
    | cons r' rr =>
      cases rr with
      | cons r'' rr =>
        cases rr
        obtain ⟨o1, Hq1, B1, hq1, l1, t1⟩ := Src.begins I1 hqx r
        obtain ⟨o2, Hq2, B2, hq2, l2, t2⟩ := Src.begins I1 hqy r'
        obtain ⟨o3, Hq3, B3, hq3, l3, t3⟩ := Src.begins I1 hqz r''
        refine zip_begins3 B1 B2 B3 hq1 hq2 hq3 fun h' hz hTI hTO g1 g2 g3 hsz hk => wpAny_pyIter_zip hz ?_
        have I2 : Inv X pins σ H1 { s1 with heap := h' } := I1.kept (t' := s1.toks) hk
        refine ⟨s1.heap.objs.size + 5, _, _, _, H1, rfl, I2, turn_z3 l1 l2 l3, ⟨hz, hTI, ⟨_, _, _, hTO⟩, t1 _ _ g1, t2 _ _ g2, t3 _ _ g3, Nat.zero_le _⟩, fun c hcm => ?_, q⟩
        have hle : s1.heap.objs.size ≤ c := by
          simp only [List.mem_cons, List.not_mem_nil, or_false] at hcm
          simp only [Addr] at *
          omega
        exact I1.fpOk hle (I1.hok.fresh hle)
end VL

namespace VL
open PySem PySem.Spec PyProof.Rows L2
section
variable {X : Cx} {g : G} {E : XD}
theorem okL_self {n : Nat} {ds : List D} {S : Sto} (h : S[n]? = some (.lst ds)) : okL n ds S = true := by
  unfold okL
  rw [h]
  exact D.beqs_refl ds
theorem rvs_chars {m : Mp} {H : Hp} (x : Str) : RVs g m H (chars x) (charsV x) := by
  unfold chars charsV
  generalize x.cps.toList = l
  induction l with
  | nil => exact .nil
  | cons c l ih => exact .cons rv_str ih
theorem src_run {m : Mp} {S : Sto} {H : Hp} (r : Rel g m S H) {d : D} {v : V} (rv : RV g m H d v) {W : Wk} {S' : Sto} (e : wkOf d S = .ok W S') :
    S' = S ∧ W.ok S = true ∧ ∃ c : Src, c.v = v ∧ ∀ m' S2 H', Exk m H m' H' → Rel g m' S2 H' → W.ok S2 = true → ∃ vs, c.has g.K H' vs ∧ RVs g m' H' W.ds vs := by
  unfold wkOf at e
  split at e
  · cases e
    obtain ⟨a, vs, rfl, _, _⟩ := of_tupv rv
    refine ⟨rfl, rfl, .tup a, rfl, fun m' S2 H' x _ _ => ?_⟩
    obtain ⟨a', vs', e', t, rs⟩ := of_tupv (rv.extw x.toExw)
    cases e'
    exact ⟨vs', t.sq, rs⟩
  · cases e
    obtain ⟨a, vs, rfl, _, _⟩ := of_ctp rv
    refine ⟨rfl, rfl, .tup a, rfl, fun m' S2 H' x _ _ => ?_⟩
    obtain ⟨a', vs', e', t, rs⟩ := of_ctp (rv.extw x.toExw)
    cases e'
    exact ⟨vs', t.sq, rs⟩
  · rename_i x
    cases e
    have := of_str rv
    subst this
    exact ⟨rfl, rfl, .str x, rfl, fun m' S2 H' _ _ _ => ⟨charsV x, rfl, rvs_chars x⟩⟩
  · rename_i ds
    cases e
    obtain ⟨a, vs, rfl, _, _⟩ := lst_run r rv (ds := ds) rfl
    refine ⟨rfl, rfl, .lst a, rfl, fun m' S2 H' x r' _ => ?_⟩
    obtain ⟨a', vs', e', t, rs⟩ := lst_run r' (rv.extw x.toExw) (ds := ds) rfl
    cases e'
    exact ⟨vs', t, rs⟩
  · split at e
    · rename_i n ds e0
      cases e
      obtain ⟨a, vs, rfl, _, _⟩ := lst_run r rv (ds := ds) (by simp only [lstOf, e0])
      refine ⟨rfl, okL_self e0, .lst a, rfl, fun m' S2 H' x r' hk => ?_⟩
      obtain ⟨a', vs', e', t, rs⟩ := lst_run r' (rv.extw x.toExw) (ds := ds) (by simp only [lstOf, okL_iff hk])
      cases e'
      exact ⟨vs', t, rs⟩
    · cases e
  · rename_i ns
    cases e
    obtain ⟨a, vs, rfl, _, _⟩ := lst_run r rv (ds := ns.map D.int) rfl
    refine ⟨rfl, rfl, .lst a, rfl, fun m' S2 H' x r' _ => ?_⟩
    obtain ⟨a', vs', e', t, rs⟩ := lst_run r' (rv.extw x.toExw) (ds := ns.map D.int) rfl
    cases e'
    exact ⟨vs', t, rs⟩
  · cases e
def wZ2 (a : Lc → Sto → R (List D)) : Lc → Sto → R Wk := fun L S => (a L S).bind fun ds S1 => match ds with
  | [d1, d2] => (wkOf d1 S1).bind fun W1 S2 => (wkOf d2 S2).bind fun W2 S3 => .ok ⟨List.zipWith (fun x y => D.tup [x, y]) W1.ds W2.ds, fun S => W1.ok S && W2.ok S⟩ S3
  | _ => .bad
/-- no state is changed by the asking -/
theorem wkOf_cases (d : D) (S : Sto) : wkOf d S = .bad ∨ ∃ W, wkOf d S = .ok W S := by
  unfold wkOf
  split
  · exact .inr ⟨_, rfl⟩
  · exact .inr ⟨_, rfl⟩
  · exact .inr ⟨_, rfl⟩
  · exact .inr ⟨_, rfl⟩
  · split
    · exact .inr ⟨_, rfl⟩
    · exact .inl rfl
  · exact .inr ⟨_, rfl⟩
  · exact .inl rfl
theorem new_row {m : Mp} {S : Sto} {H : Hp} {T : Addr} {ds : List D} {vs : List V} (r : Rel g m S H) (nT : H T = none) (h : RVs g m H ds vs) : Ext g m H m (upd H T (.tup vs)) ∧ Rel g m S (upd H T (.tup vs)) ∧ RV g m (upd H T (.tup vs)) (.tup ds) (.ref T) :=
  ⟨ext_lay r nT, r.lay nT, rv_tupv ⟨upd_same, r.un nT⟩ (h.ext (ext_lay r nT))⟩
theorem di_z2 {elts : List Expr} {kk : Nat} {tpos : Pos} {e e2 : Expr} {p pos : Pos} {ls : Lc → Sto → R (List D)} (hK : X.K = g.K) (hg : Gl X "zip") (hm : X.mg "zip" = none) (ha : PA X [e, e2] (tL g E ls))
    (hs : starEach [e, e2] X.env = (false, eval e X.env) :: starEach [e2] X.env := by rfl) (hpl : (backTo pos (starEach [e2] X.env)).any (·.1) = false := by rfl) :
    PI X (.Tuple elts kk tpos) (.Call (.Name "zip" p) [e, e2] [] pos) (tI g E (wZ2 ls)) := by
  refine (pi_z2 hg hm ha hs hpl).imp fun σ H Q h => ?_
  obtain ⟨m, S, L, r, l, q⟩ := h
  refine ⟨m, S, L, r, l, (Aft.bind q).mono fun ds m1 S1 H1 e1 r1 q1 vs rvs => ?_⟩
  split at q1
  · rename_i d1 d2
    obtain ⟨v1, v2, rfl, h1, h2⟩ := rvs2 rvs
    rcases wkOf_cases d1 S1 with z | ⟨W1, z1⟩
    · rw [z] at q1; exact q1.elim
    rw [z1] at q1
    rcases wkOf_cases d2 S1 with z | ⟨W2, z2⟩
    · rw [R.bind_ok, z] at q1; exact q1.elim
    rw [R.bind_ok, z2, R.bind_ok] at q1
    obtain ⟨_, k1, c1, rfl, f1⟩ := src_run r1 h1 z1
    obtain ⟨_, k2, c2, rfl, f2⟩ := src_run r1 h2 z2
    obtain ⟨xs, hx, rx⟩ := f1 m1 S1 H1 (Ext.refl (g := g)).toExk r1 k1
    obtain ⟨ys, hy, ry⟩ := f2 m1 S1 H1 (Ext.refl (g := g)).toExk r1 k2
    refine ⟨c1, c2, xs, ys, rfl, by rw [hK]; exact hx, by rw [hK]; exact hy, q1.ok r1 _ ?_⟩
    rw [hK, rx.length, ry.length]
    intro i m' S' H' e' r' hok
    have hok' : (W1.ok S' && W2.ok S') = true := hok
    rw [Bool.and_eq_true] at hok'
    obtain ⟨xs', hx', rx'⟩ := f1 m' S' H' e' r' hok'.1
    obtain ⟨ys', hy', ry'⟩ := f2 m' S' H' e' r' hok'.2
    refine ⟨fun z => ⟨?_, xs', ys', hx', hy', by rw [rx'.length, ry'.length]⟩, fun d hd => ?_⟩
    · have z' : (List.zipWith (fun x y => D.tup [x, y]) W1.ds W2.ds)[i]? = none := z
      have := List.getElem?_eq_none_iff.mp z'
      rw [List.length_zipWith] at this
      exact this
    · have z' : (List.zipWith (fun x y => D.tup [x, y]) W1.ds W2.ds)[i]? = some d := hd
      have hi := (List.getElem?_eq_some_iff.mp z').1
      rw [List.length_zipWith] at hi
      rw [List.getElem?_zipWith] at z'
      cases hx0 : W1.ds[i]? with
      | none => rw [hx0] at z'; cases z'
      | some x =>
        cases hy0 : W2.ds[i]? with
        | none => rw [hx0, hy0] at z'; cases z'
        | some y =>
          rw [hx0, hy0] at z'
          cases z'
          obtain ⟨vx, ex, sx⟩ := rx'.get hx0
          obtain ⟨vy, ey, sy⟩ := ry'.get hy0
          refine ⟨⟨hi, xs', ys', hx', hy', by rw [rx'.length, ry'.length]⟩, fun x' H2 yd => ?_⟩
          obtain ⟨T, row, rfl, nT, rfl, x1, x2, rfl, f1', f2'⟩ := yd
          have e1 : x1 = vx := Option.some.inj ((f1' _ hx').symm.trans ex)
          have e2 : x2 = vy := Option.some.inj ((f2' _ hy').symm.trans ey)
          subst e1 e2
          exact new_row r' nT (.cons sx (.cons sy .nil))
  · exact q1.elim
def wZ3 (a : Lc → Sto → R (List D)) : Lc → Sto → R Wk := fun L S => (a L S).bind fun ds S1 => match ds with
  | [d1, d2, d3] => (wkOf d1 S1).bind fun W1 S2 => (wkOf d2 S2).bind fun W2 S3 => (wkOf d3 S3).bind fun W3 S4 => .ok ⟨List.zipWith (fun x (p : D × D) => D.tup [x, p.1, p.2]) W1.ds (W2.ds.zip W3.ds), fun S => W1.ok S && (W2.ok S && W3.ok S)⟩ S4
  | _ => .bad
theorem rvs3 {m : Mp} {H : Hp} {d d' d'' : D} {vs : List V} (h : RVs g m H [d, d', d''] vs) : ∃ v v' v'', vs = [v, v', v''] ∧ RV g m H d v ∧ RV g m H d' v' ∧ RV g m H d'' v'' := by
  obtain ⟨v, r, rfl, h1, h2⟩ := h.cons_iff
  obtain ⟨v', v'', rfl, h3, h4⟩ := rvs2 h2
  exact ⟨v, v', v'', rfl, h1, h3, h4⟩
theorem di_z3 {elts : List Expr} {kk : Nat} {tpos : Pos} {e e2 e3 : Expr} {p pos : Pos} {ls : Lc → Sto → R (List D)} (hK : X.K = g.K) (hg : Gl X "zip") (hm : X.mg "zip" = none) (ha : PA X [e, e2, e3] (tL g E ls))
    (hs : starEach [e, e2, e3] X.env = (false, eval e X.env) :: starEach [e2, e3] X.env := by rfl) (hpl : (backTo pos (starEach [e2, e3] X.env)).any (·.1) = false := by rfl) :
    PI X (.Tuple elts kk tpos) (.Call (.Name "zip" p) [e, e2, e3] [] pos) (tI g E (wZ3 ls)) := by
  refine (pi_z3 hg hm ha hs hpl).imp fun σ H Q h => ?_
  obtain ⟨m, S, L, r, l, q⟩ := h
  refine ⟨m, S, L, r, l, (Aft.bind q).mono fun ds m1 S1 H1 e1 r1 q1 vs rvs => ?_⟩
  split at q1
  · rename_i d1 d2 d3
    obtain ⟨v1, v2, v3, rfl, h1, h2, h3⟩ := rvs3 rvs
    rcases wkOf_cases d1 S1 with z | ⟨W1, z1⟩
    · rw [z] at q1; exact q1.elim
    rw [z1] at q1
    rcases wkOf_cases d2 S1 with z | ⟨W2, z2⟩
    · rw [R.bind_ok, z] at q1; exact q1.elim
    rw [R.bind_ok, z2, R.bind_ok] at q1
    rcases wkOf_cases d3 S1 with z | ⟨W3, z3⟩
    · rw [z] at q1; exact q1.elim
    rw [z3, R.bind_ok] at q1
    obtain ⟨_, k1, c1, rfl, f1⟩ := src_run r1 h1 z1
    obtain ⟨_, k2, c2, rfl, f2⟩ := src_run r1 h2 z2
    obtain ⟨_, k3, c3, rfl, f3⟩ := src_run r1 h3 z3
    obtain ⟨xs, hx, rx⟩ := f1 m1 S1 H1 (Ext.refl (g := g)).toExk r1 k1
    obtain ⟨ys, hy, ry⟩ := f2 m1 S1 H1 (Ext.refl (g := g)).toExk r1 k2
    obtain ⟨zs, hz, rz⟩ := f3 m1 S1 H1 (Ext.refl (g := g)).toExk r1 k3
    refine ⟨c1, c2, c3, xs, ys, zs, rfl, by rw [hK]; exact hx, by rw [hK]; exact hy, by rw [hK]; exact hz, q1.ok r1 _ ?_⟩
    rw [hK, rx.length, ry.length, rz.length]
    intro i m' S' H' e' r' hok
    have hok' : (W1.ok S' && (W2.ok S' && W3.ok S')) = true := hok
    rw [Bool.and_eq_true, Bool.and_eq_true] at hok'
    obtain ⟨xs', hx', rx'⟩ := f1 m' S' H' e' r' hok'.1
    obtain ⟨ys', hy', ry'⟩ := f2 m' S' H' e' r' hok'.2.1
    obtain ⟨zs', hz', rz'⟩ := f3 m' S' H' e' r' hok'.2.2
    refine ⟨fun z => ⟨?_, xs', ys', zs', hx', hy', hz', by rw [rx'.length, ry'.length, rz'.length]⟩, fun d hd => ?_⟩
    · have z' : (List.zipWith (fun x (p : D × D) => D.tup [x, p.1, p.2]) W1.ds (W2.ds.zip W3.ds))[i]? = none := z
      have := List.getElem?_eq_none_iff.mp z'
      rw [List.length_zipWith, List.length_zip] at this
      omega
    · have z' : (List.zipWith (fun x (p : D × D) => D.tup [x, p.1, p.2]) W1.ds (W2.ds.zip W3.ds))[i]? = some d := hd
      have hi := (List.getElem?_eq_some_iff.mp z').1
      rw [List.length_zipWith, List.length_zip] at hi
      rw [List.getElem?_zipWith] at z'
      cases hx0 : W1.ds[i]? with
      | none => rw [hx0] at z'; cases z'
      | some x =>
        have hy1 : i < W2.ds.length := by omega
        have hz1 : i < W3.ds.length := by omega
        have hp : (W2.ds.zip W3.ds)[i]? = some (W2.ds[i], W3.ds[i]) := by rw [List.getElem?_eq_some_iff]; exact ⟨by rw [List.length_zip]; omega, List.getElem_zip⟩
        rw [hx0, hp] at z'
        cases z'
        obtain ⟨vx, ex, sx⟩ := rx'.get hx0
        obtain ⟨vy, ey, sy⟩ := ry'.get (List.getElem?_eq_getElem hy1)
        obtain ⟨vz, ez, sz⟩ := rz'.get (List.getElem?_eq_getElem hz1)
        refine ⟨⟨by omega, xs', ys', zs', hx', hy', hz', by rw [rx'.length, ry'.length, rz'.length]⟩, fun x' H2 yd => ?_⟩
        obtain ⟨T, row, rfl, nT, rfl, x1, x2, x3, rfl, f1', f2', f3'⟩ := yd
        have e1 : x1 = vx := Option.some.inj ((f1' _ hx').symm.trans ex)
        have e2 : x2 = vy := Option.some.inj ((f2' _ hy').symm.trans ey)
        have e3 : x3 = vz := Option.some.inj ((f3' _ hz').symm.trans ez)
        subst e1 e2 e3
        exact new_row r' nT (.cons sx (.cons sy (.cons sz .nil)))
  · exact q1.elim
def numL : Nat → List D → List D
  | _, [] => []
  | i, d :: ds => .tup [.int (i : Nat), d] :: numL (i + 1) ds
theorem numL_get : ∀ (k : Nat) (ds : List D) (i : Nat), (numL k ds)[i]? = (ds[i]?).map fun d => D.tup [.int ((k + i : Nat) : Int), d]
  | k, [], i => by simp [numL]
  | k, d :: ds, 0 => by simp [numL]
  | k, d :: ds, i + 1 => by
    simp only [numL, List.getElem?_cons_succ]
    rw [numL_get (k + 1) ds i, show k + 1 + i = k + (i + 1) by omega]
def wEn (a : Lc → Sto → R (List D)) : Lc → Sto → R Wk := fun L S => (a L S).bind fun ds S1 => match ds with
  | [d1] => (wkOf d1 S1).bind fun W1 S2 => .ok ⟨numL 0 W1.ds, W1.ok⟩ S2
  | _ => .bad
theorem di_en {elts : List Expr} {kk : Nat} {tpos : Pos} {e : Expr} {p pos : Pos} {ls : Lc → Sto → R (List D)} (hK : X.K = g.K) (hg : Gl X "enumerate") (hm : X.mg "enumerate" = none) (ha : PA X [e] (tL g E ls)) (hs : starEach [e] X.env = [(false, eval e X.env)] := by rfl) :
    PI X (.Tuple elts kk tpos) (.Call (.Name "enumerate" p) [e] [] pos) (tI g E (wEn ls)) := by
  refine (pi_en hg hm ha hs).imp fun σ H Q h => ?_
  obtain ⟨m, S, L, r, l, q⟩ := h
  refine ⟨m, S, L, r, l, (Aft.bind q).mono fun ds m1 S1 H1 e1 r1 q1 vs rvs => ?_⟩
  split at q1
  · rename_i d1
    obtain ⟨v1, rfl, h1⟩ := rvs1 rvs
    rcases wkOf_cases d1 S1 with z | ⟨W1, z1⟩
    · rw [z] at q1; exact q1.elim
    rw [z1, R.bind_ok] at q1
    obtain ⟨_, k1, c1, rfl, f1⟩ := src_run r1 h1 z1
    obtain ⟨xs, hx, rx⟩ := f1 m1 S1 H1 (Ext.refl (g := g)).toExk r1 k1
    refine ⟨c1, xs, rfl, by rw [hK]; exact hx, q1.ok r1 _ ?_⟩
    rw [hK, rx.length]
    intro i m' S' H' e' r' hok
    obtain ⟨xs', hx', rx'⟩ := f1 m' S' H' e' r' hok
    refine ⟨fun z => ⟨?_, xs', hx', rx'.length⟩, fun d hd => ?_⟩
    · have z' : (numL 0 W1.ds)[i]? = none := z
      rw [numL_get, Option.map_eq_none_iff] at z'
      exact List.getElem?_eq_none_iff.mp z'
    · have z' : (numL 0 W1.ds)[i]? = some d := hd
      rw [numL_get, Option.map_eq_some_iff] at z'
      obtain ⟨x, hx0, rfl⟩ := z'
      obtain ⟨vx, ex, sx⟩ := rx'.get hx0
      refine ⟨⟨(List.getElem?_eq_some_iff.mp hx0).1, xs', hx', rx'.length⟩, fun x' H2 yd => ?_⟩
      obtain ⟨T, row, rfl, nT, rfl, x1, rfl, f1'⟩ := yd
      have e1 : x1 = vx := Option.some.inj ((f1' _ hx').symm.trans ex)
      subst e1
      rw [Nat.zero_add]
      exact new_row r' nT (.cons rv_int (.cons sx .nil))
  · exact q1.elim
end
end VL

/-! list(zip(a, b)): the pairs are kept -/
namespace VL
open PySem PySem.Spec PyProof.Rows L2 DZ
section
variable {prog : Program} {w : World} {A : Around} {E : Value → Shared → Prop} {s : Shared} {z TI TO i1 i2 : Addr} {fp1 fp2 : List Addr} {n1 n2 i : Nat} {P1 P2 : Nat → Value → Prop} {St1 St2 : Nat → Heap → Prop} {a1 a2 : Value} {f0 : Value} {f1 : Bool}
theorem zg_item {Q : Value → Shared → Prop} (S : ZipSep2 z TI TO i1 i2 fp1 fp2) (D1 : Draws prog w A i1 fp1 n1 P1 St1) (D2 : Draws prog w A i2 fp2 n2 P2 St2)
    (hz : ZG s.heap z TI TO f0 f1) (k : Keeps f0 f1) (hTI : IsTupOf2 s.heap TI (.ref i1) (.ref i2)) (hTO : IsTupOf2 s.heap TO a1 a2) (st1 : St1 i s.heap) (st2 : St2 i s.heap) (hlt1 : i < n1) (hlt2 : i < n2)
    (hQ : ∀ x1 x2 h' tk f0' f1', P1 i x1 → P2 i x2 → ZG h' z TI TO f0' f1' → Keeps f0' f1' → (∃ b1 b2, IsTupOf2 h' TO b1 b2) → St1 (i + 1) h' → St2 (i + 1) h' → IsTupOf2 h' s.heap.objs.size x1 x2 →
      (∀ c o, c ≠ z → c ≠ TO → c ≠ i1 → c ≠ i2 → s.heap.get? c = some o → h'.get? c = some o) → Q (.ref s.heap.objs.size) { s with heap := h', toks := tk }) :
    wpAny (model prog w) A (Builtin.«zip.__next__» ⟨[.ref z], []⟩) (fun fin s' => ∃ v, fin = .done (.ret v) ∧ Q v s') E s := by
  obtain ⟨hp, g, d, tk0, os⟩ := s
  show wpAny _ _ (field (.ref z) 2 >>= _) _ _ _
  refine wpAny_bind (wpAny_field hz rfl (x := .bool false) rfl ?_)
  show wpAny _ _ (field (.ref z) 3 >>= _) _ _ _
  refine wpAny_bind (wpAny_field hz rfl (x := .ref TI) rfl ?_)
  refine wpAny_bind (wpAny_seqItems hTI rfl ?_)
  show wpAny _ _ (Builtin.SmallTypes.ownedTupleIsFree (.ref z) >>= _) _ _ _
  refine wpAny_bind (free_of hz k ?_ fun g0 T hz0 hs0 => ?_)
  · simp only [if_true]
    refine wpAny_bind (wpAny_rule ?_)
    refine wpAny_bind (wpAny_field hz rfl (x := .ref TO) rfl ?_)
    refine wpAny_bind (wpAny_setField_rec hz (by simp) fun g0 hz0 hs0 => ?_)
    replace hz0 : ZG g0 z TI TO .ellipsis f1 := hz0
    replace hs0 : Heap.SameBut z hp g0 := hs0
    refine wpAny_bind ?_
    simp only [List.zipIdx_cons, List.zipIdx_nil, List.forIn_cons, List.forIn_nil]
    refine wpAny_bind (wpAny_bind (wpAny_onRaise ?_))
    show wpAny _ _ (Builtin.SmallTypes.nextOf (.ref i1) >>= _) _ _ ⟨g0, g, d, tk0, os⟩
    refine wpAny_bind (D1.item i _ _ _ hlt1 (D1.over st1 hs0 S.zf1) fun x1 p1 tk1 hx1 sn1 hp1 => wpAny_pure ?_)
    replace hp1 : Heap.SameBut i1 g0 p1 := hp1
    have hU1 : IsTupOf2 p1 TO a1 a2 := hp1.extBut _ _ S.Ti1 (hs0.extBut _ _ S.TOz hTO)
    refine wpAny_bind (wpAny_seqItems (s := ⟨p1, g, d, tk1, os⟩) hU1 rfl ?_)
    refine wpAny_bind (updateSeq_IsTupOf2 (s := ⟨p1, g, d, tk1, os⟩) hU1 fun g1 hT1 hs1 => ?_)
    replace hT1 : IsTupOf2 g1 TO x1 a2 := hT1
    replace hs1 : Heap.SameBut TO p1 g1 := hs1
    refine wpAny_bind (wpAny_letGo (wpAny_pure ?_))
    refine wpAny_bind (wpAny_bind (wpAny_onRaise ?_))
    show wpAny _ _ (Builtin.SmallTypes.nextOf (.ref i2) >>= _) _ _ ⟨g1, g, d, tk1, os⟩
    refine wpAny_bind (D2.item i _ _ _ hlt2 (D2.over (D2.over (D2.over st2 hs0 S.zf2) hp1 S.sep1_2) hs1 S.Tf2) fun x2 p2 tk2 hx2 sn2 hp2 => wpAny_pure ?_)
    replace hp2 : Heap.SameBut i2 g1 p2 := hp2
    have hU2 : IsTupOf2 p2 TO x1 a2 := hp2.extBut _ _ S.Ti2 hT1
    refine wpAny_bind (wpAny_seqItems (s := ⟨p2, g, d, tk2, os⟩) hU2 rfl ?_)
    refine wpAny_bind (updateSeq_IsTupOf2 (s := ⟨p2, g, d, tk2, os⟩) hU2 fun g2 hT2 hs2 => ?_)
    replace hT2 : IsTupOf2 g2 TO x1 x2 := hT2
    replace hs2 : Heap.SameBut TO p2 g2 := hs2
    refine wpAny_bind (wpAny_letGo (wpAny_pure (wpAny_pure ?_)))
    refine wpAny_bind (wpAny_seqItems (s := ⟨g2, g, d, tk2, os⟩) hT2 rfl ?_)
    refine wpAny_bind (wpAny_newTuple ?_)
    have hsz : g2.objs.size = hp.objs.size := by rw [hs2.1, hp2.1, hs1.1, hp1.1, hs0.1]
    have hzz : ZG g2 z TI TO .ellipsis f1 := (hs2.extBut _ _ S.TOz.symm (hp2.extBut _ _ S.zi2 (hs1.extBut _ _ S.TOz.symm (hp1.extBut _ _ S.zi1 hz0))))
    have hkk : ∀ c o, c ≠ z → c ≠ TO → c ≠ i1 → c ≠ i2 → hp.get? c = some o → g2.get? c = some o := fun c o cz cT c1 c2 e =>
      (hs2.extBut _ _ cT (hp2.extBut _ _ c2 (hs1.extBut _ _ cT (hp1.extBut _ _ c1 (hs0.extBut _ _ cz e)))))
    have hj1 : St1 (i + 1) g2 := (D1.over (D1.over (D1.over sn1 hs1 S.Tf1) hp2 S.sep2_1) hs2 S.Tf1)
    have hj2 : St2 (i + 1) g2 := (D2.over sn2 hs2 S.Tf2)
    have hzlt : z < g2.objs.size := Heap.lt_size hzz
    show wpAny _ _ (Builtin.SmallTypes.ownedTupleHandOut (.ref z) (.ref g2.objs.size) >>= _) _ _ ⟨g2.push { cls := .type "tuple", data := .seq #[x1, x2] }, g, d, tk2, os⟩
    refine wpAny_bind ?_
    unfold Builtin.SmallTypes.ownedTupleHandOut
    have hz₆ : ZG (g2.push { cls := .type "tuple", data := .seq #[x1, x2] }) z TI TO .ellipsis f1 := Heap.get?_push_of_some _ hzz
    refine wpAny_bind (wpAny_setField_rec hz₆ (by simp) fun h₇ hz₇ hs₇ => ?_)
    replace hz₇ : ZG h₇ z TI TO (rawInt g2.objs.size) f1 := hz₇
    refine wpAny_setField_rec hz₇ (by simp) fun h₈ hz₈ hs₈ => ?_
    replace hz₈ : ZG h₈ z TI TO (rawInt g2.objs.size) false := hz₈
    replace hs₇ : Heap.SameBut z (g2.push { cls := .type "tuple", data := .seq #[x1, x2] }) h₇ := hs₇
    replace hs₈ : Heap.SameBut z h₇ h₈ := hs₈
    have up : ∀ c o, c ≠ z → g2.get? c = some o → h₈.get? c = some o := fun c o c1 e => hs₈.extBut _ _ c1 (hs₇.extBut _ _ c1 (Heap.get?_push_of_some _ e))
    have hT₈ : IsTupOf2 h₈ g2.objs.size x1 x2 := hs₈.extBut _ _ (Nat.ne_of_gt hzlt) (hs₇.extBut _ _ (Nat.ne_of_gt hzlt) (Heap.get?_push_size _ rfl))
    rw [hsz] at hT₈
    refine wpAny_pure ⟨_, rfl, ?_⟩
    show Q (.ref g2.objs.size) ⟨h₈, g, d, tk2, os⟩
    rw [hsz]
    exact hQ x1 x2 h₈ tk2 _ _ hx1 hx2 hz₈ (.inr ⟨_, rfl⟩) ⟨_, _, up _ _ S.TOz hT2⟩ (D1.frame _ _ _ hj1 fun b hb o e => up b o (fun q => S.zf1 (q ▸ hb)) e) (D2.frame _ _ _ hj2 fun b hb o e => up b o (fun q => S.zf2 (q ▸ hb)) e) hT₈ fun c o cz cT c1 c2 e => up c o cz (hkk c o cz cT c1 c2 e)
  · replace hs0 : Heap.SameBut z hp g0 := hs0
    simp only [Bool.false_eq_true, if_false]
    refine wpAny_bind ?_
    rw [← Array.forIn_toList]
    simp only [List.forIn_cons, List.forIn_nil]
    refine wpAny_bind (wpAny_bind (wpAny_holding ?_))
    show wpAny _ _ (Builtin.SmallTypes.nextOf (.ref i1) >>= _) _ _ ⟨g0, g, d, tk0, os⟩
    refine wpAny_bind (D1.item i _ _ _ hlt1 (D1.over st1 hs0 S.zf1) fun x1 p1 tk1 hx1 sn1 hp1 => wpAny_pure (wpAny_pure ?_))
    replace hp1 : Heap.SameBut i1 g0 p1 := hp1
    refine wpAny_bind (wpAny_bind (wpAny_holding ?_))
    show wpAny _ _ (Builtin.SmallTypes.nextOf (.ref i2) >>= _) _ _ ⟨p1, g, d, tk1, os⟩
    refine wpAny_bind (D2.item i _ _ _ hlt2 (D2.over (D2.over st2 hs0 S.zf2) hp1 S.sep1_2) fun x2 p2 tk2 hx2 sn2 hp2 => wpAny_pure (wpAny_pure (wpAny_pure ?_)))
    replace hp2 : Heap.SameBut i2 p1 p2 := hp2
    show wpAny _ _ (newTuple [x1, x2] >>= _) _ _ ⟨p2, g, d, tk2, os⟩
    refine wpAny_bind (wpAny_newTuple ?_)
    have hsz : p2.objs.size = hp.objs.size := by rw [hp2.1, hp1.1, hs0.1]
    have z3 : ZG p2 z TI TO (rawInt T) true := hp2.extBut _ _ S.zi2 (hp1.extBut _ _ S.zi1 hz0)
    have k3 : ∀ c o, c ≠ z → c ≠ i1 → c ≠ i2 → hp.get? c = some o → p2.get? c = some o := fun c o c1 c2 c3 e => hp2.extBut _ _ c3 (hp1.extBut _ _ c2 (hs0.extBut _ _ c1 e))
    refine wpAny_pure ⟨_, rfl, ?_⟩
    show Q (.ref p2.objs.size) _
    have hpp : IsTupOf2 (p2.push { cls := .type "tuple", data := .seq #[x1, x2] }) p2.objs.size x1 x2 := Heap.get?_push_size _ rfl
    rw [hsz] at hpp ⊢
    have kp : ∀ b o, p2.get? b = some o → (p2.push { cls := .type "tuple", data := .seq #[x1, x2] }).get? b = some o := fun b o e => Heap.get?_push_of_some _ e
    exact hQ x1 x2 _ tk2 _ _ hx1 hx2 (Heap.get?_push_of_some _ z3) (.inr ⟨T, rfl⟩) ⟨a1, a2, Heap.get?_push_of_some _ (k3 _ _ S.TOz S.Ti1 S.Ti2 hTO)⟩ (D1.frame _ _ _ (D1.over sn1 hp2 S.sep2_1) fun b _ o e => kp b o e) (D2.frame _ _ _ sn2 fun b _ o e => kp b o e) hpp fun c o c1 _ c3 c4 e => kp c o (k3 c o c1 c3 c4 e)
theorem zg_end {Q : Fin → Shared → Prop} (S : ZipSep2 z TI TO i1 i2 fp1 fp2) (D1 : Draws prog w A i1 fp1 n1 P1 St1) (D2 : Draws prog w A i2 fp2 n2 P2 St2)
    (hz : ZG s.heap z TI TO f0 f1) (k : Keeps f0 f1) (hTI : IsTupOf2 s.heap TI (.ref i1) (.ref i2)) (hTO : IsTupOf2 s.heap TO a1 a2) (st1 : St1 i s.heap) (st2 : St2 i s.heap) (hle1 : i ≤ n1) (hle2 : i ≤ n2) (hend : i = n1 ∨ i = n2)
    (hE : ∀ h' tk e, (∀ c o, c ≠ z → c ≠ TO → c ≠ i1 → c ≠ i2 → s.heap.get? c = some o → h'.get? c = some o) → (∃ o, h'.get? e = some o ∧ o.cls = .type "StopIteration") → E (.ref e) { s with heap := h', toks := tk }) :
    wpAny (model prog w) A (Builtin.«zip.__next__» ⟨[.ref z], []⟩) Q E s := by
  obtain ⟨hp, g, d, tk0, os⟩ := s
  show wpAny _ _ (field (.ref z) 2 >>= _) _ _ _
  refine wpAny_bind (wpAny_field hz rfl (x := .bool false) rfl ?_)
  show wpAny _ _ (field (.ref z) 3 >>= _) _ _ _
  refine wpAny_bind (wpAny_field hz rfl (x := .ref TI) rfl ?_)
  refine wpAny_bind (wpAny_seqItems hTI rfl ?_)
  show wpAny _ _ (Builtin.SmallTypes.ownedTupleIsFree (.ref z) >>= _) _ _ _
  refine wpAny_bind (free_of hz k ?_ fun g0 T hz0 hs0 => ?_)
  · simp only [if_true]
    refine wpAny_bind (wpAny_rule ?_)
    refine wpAny_bind (wpAny_field hz rfl (x := .ref TO) rfl ?_)
    refine wpAny_bind (wpAny_setField_rec hz (by simp) fun g0 hz0 hs0 => ?_)
    replace hz0 : ZG g0 z TI TO .ellipsis f1 := hz0
    replace hs0 : Heap.SameBut z hp g0 := hs0
    refine wpAny_bind ?_
    simp only [List.zipIdx_cons, List.zipIdx_nil, List.forIn_cons, List.forIn_nil]
    refine wpAny_bind (wpAny_bind (wpAny_onRaise ?_))
    show wpAny _ _ (Builtin.SmallTypes.nextOf (.ref i1) >>= _) _ _ ⟨g0, g, d, tk0, os⟩
    by_cases hlt1 : i < n1
    · refine wpAny_bind (D1.item i _ _ _ hlt1 (D1.over st1 hs0 S.zf1) fun x1 p1 tk1 hx1 sn1 hp1 => wpAny_pure ?_)
      replace hp1 : Heap.SameBut i1 g0 p1 := hp1
      have hU1 : IsTupOf2 p1 TO a1 a2 := hp1.extBut _ _ S.Ti1 (hs0.extBut _ _ S.TOz hTO)
      refine wpAny_bind (wpAny_seqItems (s := ⟨p1, g, d, tk1, os⟩) hU1 rfl ?_)
      refine wpAny_bind (updateSeq_IsTupOf2 (s := ⟨p1, g, d, tk1, os⟩) hU1 fun g1 hT1 hs1 => ?_)
      replace hT1 : IsTupOf2 g1 TO x1 a2 := hT1
      replace hs1 : Heap.SameBut TO p1 g1 := hs1
      refine wpAny_bind (wpAny_letGo (wpAny_pure ?_))
      have hi2 : i = n2 := by omega
      refine wpAny_bind (wpAny_bind (wpAny_onRaise ?_))
      show wpAny _ _ (Builtin.SmallTypes.nextOf (.ref i2) >>= _) _ _ ⟨g1, g, d, tk1, os⟩
      refine wpAny_bind (D2.done ⟨g1, g, d, tk1, os⟩ _ _ (by rw [← hi2]; exact (D2.over (D2.over (D2.over st2 hs0 S.zf2) hp1 S.sep1_2) hs1 S.Tf2)) fun q e hq he => ?_)
      replace hq : Heap.ExtBut i2 g1 q := hq
      obtain ⟨oe, hoe, hce⟩ := he
      replace hoe : q.get? e = some oe := hoe
      have hzq : ZG q z TI TO .ellipsis f1 := hq _ _ S.zi2 (hs1.extBut _ _ S.TOz.symm (hp1.extBut _ _ S.zi1 hz0))
      have hez : e ≠ z := fun x => by subst x; rw [hzq] at hoe; cases hoe; simp at hce
      refine wpAny_setField_rec (s := ⟨q, g, d, tk1, os⟩) hzq (by simp) fun q' _ hq' => ?_
      replace hq' : Heap.SameBut z q q' := hq'
      exact hE q' tk1 e (fun c o cz cT c1 c2 x => hq'.extBut _ _ cz (hq _ _ c2 (hs1.extBut _ _ cT (hp1.extBut _ _ c1 (hs0.extBut _ _ cz x))))) ⟨oe, hq'.extBut _ _ hez hoe, hce⟩
    · have hi1 : i = n1 := by omega
      refine wpAny_bind (D1.done ⟨g0, g, d, tk0, os⟩ _ _ (by rw [← hi1]; exact (D1.over st1 hs0 S.zf1)) fun q e hq he => ?_)
      replace hq : Heap.ExtBut i1 g0 q := hq
      obtain ⟨oe, hoe, hce⟩ := he
      replace hoe : q.get? e = some oe := hoe
      have hzq : ZG q z TI TO .ellipsis f1 := hq _ _ S.zi1 hz0
      have hez : e ≠ z := fun x => by subst x; rw [hzq] at hoe; cases hoe; simp at hce
      refine wpAny_setField_rec (s := ⟨q, g, d, tk0, os⟩) hzq (by simp) fun q' _ hq' => ?_
      replace hq' : Heap.SameBut z q q' := hq'
      exact hE q' tk0 e (fun c o cz cT c1 c2 x => hq'.extBut _ _ cz (hq _ _ c1 (hs0.extBut _ _ cz x))) ⟨oe, hq'.extBut _ _ hez hoe, hce⟩
  · replace hs0 : Heap.SameBut z hp g0 := hs0
    simp only [Bool.false_eq_true, if_false]
    refine wpAny_bind ?_
    rw [← Array.forIn_toList]
    simp only [List.forIn_cons, List.forIn_nil]
    refine wpAny_bind (wpAny_bind (wpAny_holding ?_))
    show wpAny _ _ (Builtin.SmallTypes.nextOf (.ref i1) >>= _) _ _ ⟨g0, g, d, tk0, os⟩
    by_cases hlt1 : i < n1
    · refine wpAny_bind (D1.item i _ _ _ hlt1 (D1.over st1 hs0 S.zf1) fun x1 p1 tk1 hx1 sn1 hp1 => wpAny_pure (wpAny_pure ?_))
      replace hp1 : Heap.SameBut i1 g0 p1 := hp1
      have hi2 : i = n2 := by omega
      refine wpAny_bind (wpAny_bind (wpAny_holding ?_))
      show wpAny _ _ (Builtin.SmallTypes.nextOf (.ref i2) >>= _) _ _ ⟨p1, g, d, tk1, os⟩
      refine wpAny_bind (D2.done ⟨p1, g, d, tk1, os⟩ _ _ (by rw [← hi2]; exact (D2.over (D2.over st2 hs0 S.zf2) hp1 S.sep1_2)) fun q e hq he => ?_)
      replace hq : Heap.ExtBut i2 p1 q := hq
      exact hE q tk1 e (fun c o cz _ c1 c2 x => hq _ _ c2 (hp1.extBut _ _ c1 (hs0.extBut _ _ cz x))) he
    · have hi1 : i = n1 := by omega
      refine wpAny_bind (D1.done ⟨g0, g, d, tk0, os⟩ _ _ (by rw [← hi1]; exact (D1.over st1 hs0 S.zf1)) fun q e hq he => ?_)
      replace hq : Heap.ExtBut i1 g0 q := hq
      exact hE q tk0 e (fun c o cz _ c1 _ x => hq _ _ c1 (hs0.extBut _ _ cz x)) he
end
section
variable {prog : Program} {w : World} {A : Around} {E : Value → Shared → Prop} {s : Shared} {z TI TO i1 i2 : Addr} {fp1 fp2 : List Addr} {n1 n2 i : Nat} {P1 P2 : Nat → Value → Prop} {St1 St2 : Nat → Heap → Prop} {a1 a2 : Value} {f0 : Value} {f1 : Bool}
theorem zg_pyitem {Q : Option Value → Shared → Prop} (S : ZipSep2 z TI TO i1 i2 fp1 fp2) (D1 : Draws prog w A.in1 i1 fp1 n1 P1 St1) (D2 : Draws prog w A.in1 i2 fp2 n2 P2 St2)
    (hz : ZG s.heap z TI TO f0 f1) (k : Keeps f0 f1) (hTI : IsTupOf2 s.heap TI (.ref i1) (.ref i2)) (hTO : IsTupOf2 s.heap TO a1 a2) (st1 : St1 i s.heap) (st2 : St2 i s.heap) (hlt1 : i < n1) (hlt2 : i < n2)
    (hQ : ∀ x1 x2 h' tk f0' f1', P1 i x1 → P2 i x2 → ZG h' z TI TO f0' f1' → Keeps f0' f1' → (∃ b1 b2, IsTupOf2 h' TO b1 b2) → St1 (i + 1) h' → St2 (i + 1) h' → IsTupOf2 h' s.heap.objs.size x1 x2 →
      (∀ c o, c ≠ z → c ≠ TO → c ≠ i1 → c ≠ i2 → s.heap.get? c = some o → h'.get? c = some o) → Q (some (.ref s.heap.objs.size)) { s with heap := h', toks := tk }) :
    wpAny (model prog w) A (pyNext (.ref z)) Q E s := by
  have hT : s.TypeIs (.ref z) "zip" := ⟨_, hz, rfl⟩
  unfold pyNext
  refine wpAny_bind (wpAny_attempt (wpAny_callSpecial?_slot (name := Str.ofString "__next__") hT F.slot_zip_next ?_))
  exact wpAny_call_entry F.slot_zip_next hT F.entry_zip_next (zg_item S D1 D2 hz k hTI hTO st1 st2 hlt1 hlt2 fun x1 x2 h' tk f0' f1' q1 q2 b1 b2 b3 b4 b5 b6 b7 => wpAny_pure (hQ x1 x2 h' tk f0' f1' q1 q2 b1 b2 b3 b4 b5 b6 b7)) (F.args_zip_next_1 _)
theorem zg_pyend {Q : Option Value → Shared → Prop} (S : ZipSep2 z TI TO i1 i2 fp1 fp2) (D1 : Draws prog w A.in1 i1 fp1 n1 P1 St1) (D2 : Draws prog w A.in1 i2 fp2 n2 P2 St2)
    (hz : ZG s.heap z TI TO f0 f1) (k : Keeps f0 f1) (hTI : IsTupOf2 s.heap TI (.ref i1) (.ref i2)) (hTO : IsTupOf2 s.heap TO a1 a2) (st1 : St1 i s.heap) (st2 : St2 i s.heap) (hle1 : i ≤ n1) (hle2 : i ≤ n2) (hend : i = n1 ∨ i = n2)
    (hQ : ∀ h' tk, (∀ c o, c ≠ z → c ≠ TO → c ≠ i1 → c ≠ i2 → s.heap.get? c = some o → h'.get? c = some o) → Q none { s with heap := h', toks := tk }) : wpAny (model prog w) A (pyNext (.ref z)) Q E s := by
  have hT : s.TypeIs (.ref z) "zip" := ⟨_, hz, rfl⟩
  unfold pyNext
  refine wpAny_bind (wpAny_attempt (wpAny_callSpecial?_slot (name := Str.ofString "__next__") hT F.slot_zip_next ?_))
  refine wpAny_call_entry F.slot_zip_next hT F.entry_zip_next (zg_end S D1 D2 hz k hTI hTO st1 st2 hle1 hle2 hend fun h' tk e hk he => ?_) (F.args_zip_next_1 _)
  obtain ⟨o, ho, hc⟩ := he
  exact wpAny_bind (wpAny_isInstance (T := "StopIteration") (b := true) ⟨o, ho, hc⟩ isSubtype_stop (wpAny_pure (hQ _ _ hk)))
end
end VL

namespace VL
open PySem PySem.Spec PyProof.Rows L2 DZ
theorem Src.drawsA {X : Cx} {pins : List (Addr × Obj)} {σ : L2.St} {H : Hp} {s : Shared} (I : Inv X pins σ H s) {A : Around} (hh : A.handled = none) {c : Src} {it : Addr} (hne : c.adr ≠ some it) {i : Nat} {xs : List V} (hx : c.has X.K H xs) (st : c.at it i s.heap) :
    ∃ fp Pd St, Draws X.prog X.w A it fp xs.length Pd St ∧ St i s.heap ∧ it ∈ fp ∧ (∀ b ∈ fp, b = it ∨ c.adr = some b) ∧ (∀ j h, St j h → c.at it j h) ∧ ∀ j u, Pd j u → ∃ x, xs[j]? = some x ∧ RelV x u := by
  cases c with
  | lst a =>
    obtain ⟨its, rv, p, _⟩ := I.list hx
    have D := Draws.list (prog := X.prog) (w := X.w) hh it a (fun z => hne (by rw [← z]; rfl)) its.toArray
    rw [show its.toArray.size = xs.length by simp [rv.length]] at D
    refine ⟨_, _, _, D, ⟨st, p.isList⟩, by simp, fun b hb => ?_, fun j h q => q.1, fun j u q => Vals.get2 rv (by simpa using q)⟩
    rcases List.mem_cons.mp hb with z | z
    · exact .inl z
    · exact .inr (by rw [List.mem_singleton.mp z]; rfl)
  | tup a =>
    obtain ⟨its, rv, p, _⟩ := I.tuple hx
    have D := Draws.tuple (prog := X.prog) (w := X.w) hh it a (fun z => hne (by rw [← z]; rfl)) its.toArray
    rw [show its.toArray.size = xs.length by simp [rv.length]] at D
    refine ⟨_, _, _, D, ⟨st, p⟩, by simp, fun b hb => ?_, fun j h q => q.1, fun j u q => Vals.get2 rv (by simpa using q)⟩
    rcases List.mem_cons.mp hb with z | z
    · exact .inl z
    · exact .inr (by rw [List.mem_singleton.mp z]; rfl)
  | str x =>
    obtain ⟨t, st⟩ := st
    have hx' : xs = charsV x := hx
    subst hx'
    have D := Draws.text (prog := X.prog) (w := X.w) hh it x t
    rw [show x.cps.size = (charsV x).length by simp [charsV]] at D
    refine ⟨_, _, _, D, st, by simp, fun b hb => .inl (List.mem_singleton.mp hb), fun j h q => ⟨t, q⟩, fun j u q => ?_⟩
    obtain ⟨c, u', h1, rfl⟩ := q
    refine ⟨.str ⟨#[c]⟩, ?_, ⟨u', rfl⟩⟩
    unfold charsV
    rw [List.getElem?_map, Array.getElem?_toList, h1]
    rfl
structure Zk (N : Addr) (s1 s2 : Src) (i : Nat) (h : Heap) : Prop where
  z : ∃ f0 f1, ZG h (N + 4) (N + 2) (N + 3) f0 f1 ∧ Keeps f0 f1
  ti : IsTupOf2 h (N + 2) (.ref N) (.ref (N + 1))
  to : ∃ a1 a2, IsTupOf2 h (N + 3) a1 a2
  a1 : s1.at N i h
  a2 : s2.at (N + 1) i h
theorem Zk.keep {N : Addr} {s1 s2 : Src} {i : Nat} {h h' : Heap} (st : Zk N s1 s2 i h) (k : ∀ b ∈ [N + 4, N + 2, N + 3, N, N + 1], ∀ o, h.get? b = some o → h'.get? b = some o) : Zk N s1 s2 i h' := by
  obtain ⟨⟨f0, f1, z, kz⟩, ti, ⟨a1, a2, e⟩, b1, b2⟩ := st
  exact ⟨⟨f0, f1, k _ (by simp) _ z, kz⟩, k _ (by simp) _ ti, ⟨a1, a2, k _ (by simp) _ e⟩, Src.keep b1 fun o q => k _ (by simp) o q, Src.keep b2 fun o q => k _ (by simp) o q⟩
theorem Zk.lt {N : Addr} {s1 s2 : Src} {i : Nat} {h : Heap} (st : Zk N s1 s2 i h) : ∀ b ∈ [N + 4, N + 2, N + 3, N, N + 1], b < h.objs.size := fun b hb => by
  obtain ⟨⟨f0, f1, z, kz⟩, ti, ⟨a1, a2, e⟩, b1, b2⟩ := st
  simp only [List.mem_cons, List.not_mem_nil, or_false] at hb
  rcases hb with q | q | q | q | q <;> rw [q]
  · exact Heap.lt_size z
  · exact Heap.lt_size ti
  · exact Heap.lt_size e
  · obtain ⟨o, q, _⟩ := Src.obj b1; exact Heap.lt_size q
  · obtain ⟨o, q, _⟩ := Src.obj b2; exact Heap.lt_size q
theorem zip_loop {X : Cx} {A : Around} (hA : A.handled = none) {pins : List (Addr × Obj)} {σ : L2.St} {N S : Addr} {c1 c2 : Src} {xs ys : List V} {res : Value} {R : Result → Shared → Prop} (l1 : ∀ a, c1.adr = some a → a < N) (l2 : ∀ a, c2.adr = some a → a < N) (B : Nat) (hB : min xs.length ys.length = B) (hz : B ≤ sizeLine)
    (Q : Nat → Hp → Prop) (hq : ∀ i H, Q i H → c1.has X.K H xs ∧ c2.has X.K H ys ∧ ∃ vs, H S = some (.lst vs) ∧ vs.length = i)
    (step : ∀ i H T x y vs, Q i H → xs[i]? = some x → ys[i]? = some y → H T = none → H S = some (.lst vs) → Q (i + 1) (upd (upd H T (.tup [x, y])) S (.lst (vs ++ [.ref T]))))
    (fin : ∀ s' H', Inv X pins σ H' s' → Q B H' → R (.ok (.ret res)) s') :
    ∀ (k i : Nat) (s : Shared) (H : Hp), B - i = k → i ≤ B → Inv X pins σ H s → (∀ b ∈ [N + 4, N + 2, N + 3, N, N + 1], FpOk X pins H b) → Zk N c1 c2 i s.heap → Q i H →
      codeAny (model X.prog X.w) A (.builtin "list.extend.loop" ⟨[.ref S, .ref (N + 4), res], []⟩) R s := by
  intro k
  induction k with
  | zero =>
    intro i s H hk hi I hf st q
    have hin : i = B := by omega
    subst hin
    obtain ⟨hx, hy, _⟩ := hq _ H q
    refine codeAny_builtin F.entry_extend_loop ?_
    rw [Around.under_plainId F.plain_extend_loop _]
    show wpAny _ A.in1 (pyNext (.ref (N + 4)) >>= _) _ _ s
    obtain ⟨fp1, P1, St1, D1, st1, m1, f1, b1, r1⟩ := Src.drawsA I (A := A.in1.in1) hA (fun z => absurd (l1 _ z) (Nat.lt_irrefl _)) hx st.a1
    obtain ⟨fp2, P2, St2, D2, st2, m2, f2, b2, r2⟩ := Src.drawsA I (A := A.in1.in1) hA (fun z => absurd (l2 _ z) (by simp only [Addr]; omega)) hy st.a2
    obtain ⟨f0, f1', z, kz⟩ := st.z
    obtain ⟨a1, a2, eto⟩ := st.to
    refine wpAny_bind (zg_pyend (sep2 l1 l2 m1 m2 f1 f2) D1 D2 z kz st.ti eto st1 st2 (by omega) (by omega) (by omega) fun h' tk hk => ?_)
    refine wpAny_pure (fin _ H ?_ q)
    exact I.turnedL (ch := [N + 4, N + 2, N + 3, N, N + 1]) (fun b ob hb e => hk b ob (fun z => hb (by simp [z])) (fun z => hb (by simp [z])) (fun z => hb (by simp [z])) (fun z => hb (by simp [z])) e) hf
  | succ k ih =>
    intro i s H hk hi I hf st q
    obtain ⟨hx, hy, vs, hS, hvl⟩ := hq _ H q
    refine codeAny_builtin F.entry_extend_loop ?_
    rw [Around.under_plainId F.plain_extend_loop _]
    show wpAny _ A.in1 (pyNext (.ref (N + 4)) >>= _) _ _ s
    obtain ⟨fp1, P1, St1, D1, st1, m1, f1, b1, r1⟩ := Src.drawsA I (A := A.in1.in1) hA (fun z => absurd (l1 _ z) (Nat.lt_irrefl _)) hx st.a1
    obtain ⟨fp2, P2, St2, D2, st2, m2, f2, b2, r2⟩ := Src.drawsA I (A := A.in1.in1) hA (fun z => absurd (l2 _ z) (by simp only [Addr]; omega)) hy st.a2
    obtain ⟨f0, f1', z, kz⟩ := st.z
    obtain ⟨a1, a2, eto⟩ := st.to
    have hcl := st.lt
    refine wpAny_bind (zg_pyitem (sep2 l1 l2 m1 m2 f1 f2) D1 D2 z kz st.ti eto st1 st2 (by omega) (by omega) fun x1 x2 h' tk f0' f1'' p1 p2 z' kz' to' sn1 sn2 tT hk' => ?_)
    obtain ⟨x, ex, rx⟩ := r1 _ _ p1
    obtain ⟨y, ey, ry⟩ := r2 _ _ p2
    have new : ObjOk X.prog X.w (upd H s.heap.objs.size (.tup [x, y])) h' s.heap.objs.size (.tup [x, y]) :=
      ⟨by rw [sizeLine_eq]; simp, [x1, x2], .cons rx (.cons ry .nil), ⟨_, tT, rfl, _, rfl⟩⟩
    have I1 : Inv X pins σ (upd H s.heap.objs.size (.tup [x, y])) { s with heap := h', toks := tk } :=
      I.turnedNew (ch := [N + 4, N + 2, N + 3, N, N + 1]) (fun b ob hb e => hk' b ob (fun z => hb (by simp [z])) (fun z => hb (by simp [z])) (fun z => hb (by simp [z])) (fun z => hb (by simp [z])) e) hf (Nat.le_refl _) new
    have hTn : H s.heap.objs.size = none := I.hok.fresh (Nat.le_refl _)
    have hST : S ≠ s.heap.objs.size := ne_of_none hS hTn
    have hS1 : upd H s.heap.objs.size (.tup [x, y]) S = some (.lst vs) := by rw [upd_ne hST]; exact hS
    obtain ⟨zl, its, nn, rv, hl, e⟩ := I1.lstM hS1
    show wpAny _ A.in1 (updateSeq S (·.push (.ref s.heap.objs.size)) >>= _) _ _ _
    refine wpAny_bind (wpAny_updateSeq e rfl (wpAny_pure ⟨plainId_quiet F.plain_extend_loop _, ?_⟩) (by simp only [List.size_toArray]; omega) (by simp only [Array.size_push, List.size_toArray]; omega))
    have eS := Heap.get?_update_self (Obj.mapSeq (·.push (Value.ref s.heap.objs.size))) e rfl
    have up : ∀ b o, b ≠ S → h'.get? b = some o → (h'.update S (Obj.mapSeq (·.push (Value.ref s.heap.objs.size)))).get? b = some o := fun b o hb q => (Heap.get?_update_other _ _ (Ne.symm hb)).trans q
    have I2 : Inv X pins σ (upd (upd H s.heap.objs.size (.tup [x, y])) S (.lst (vs ++ [.ref s.heap.objs.size]))) { s with heap := h'.update S (Obj.mapSeq (·.push (Value.ref s.heap.objs.size))), toks := tk } := by
      refine I1.write (e := S) (by rw [hS1]; trivial) (.inl rfl) (fun b u hb q => up b u hb q) ⟨_, eS⟩ ⟨by simp; omega, its ++ [.ref s.heap.objs.size], nn + 1, rv.append (.cons (show RelV (V.ref s.heap.objs.size) (Value.ref s.heap.objs.size) from rfl) .nil), ?_⟩
      refine eS.trans ?_
      simp [Obj.mapSeq]
    have hne : ∀ b ∈ [N + 4, N + 2, N + 3, N, N + 1], b ≠ S := fun b hb z => by
      have := (hf b hb).1
      rw [z, hS] at this
      cases this
    refine ih (i + 1) _ _ (by omega) (by omega) I2 (fun b hb => ?_) (Zk.keep ⟨⟨_, _, z', kz'⟩, ?_, to', b1 _ _ sn1, b2 _ _ sn2⟩ fun b hb o q => up b o (hne b hb) q) (step i H _ x y vs q ex ey hTn hS)
    · obtain ⟨g0, g1⟩ := hf b hb
      refine ⟨?_, g1⟩
      rw [upd_ne (hne b hb), upd_ne (Nat.ne_of_lt (hcl b hb))]
      exact g0
    · exact hk' _ _ (by simp only [ne_eq, Addr]; omega) (by simp only [ne_eq, Addr]; omega) (by simp only [ne_eq, Addr]; omega) (by simp only [ne_eq, Addr]; omega) st.ti
theorem zip_no_len : typeLookup (.type "zip") "__len__" = pure none := by rw [typeLookup_type, builtinLookup_eq_fast]; kernel_rfl
theorem zip_no_hint : typeLookup (.type "zip") "__length_hint__" = pure none := by rw [typeLookup_type, builtinLookup_eq_fast]; kernel_rfl
theorem call_list_zip {X : Cx} {A : Around} {E : Value → Shared → Prop} (hA : A.handled = none) {pins : List (Addr × Obj)} {σ : L2.St} {N : Addr} {s : Shared} {H : Hp} {c1 c2 : Src} {xs ys : List V} {R : Value → Shared → Prop} (l1 : ∀ a, c1.adr = some a → a < N) (l2 : ∀ a, c2.adr = some a → a < N) (hz : min xs.length ys.length ≤ sizeLine)
    (I : Inv X pins σ H s) (hf : ∀ b ∈ [N + 4, N + 2, N + 3, N, N + 1], FpOk X pins H b) (st : Zk N c1 c2 0 s.heap)
    (h : ∀ S, H S = none → ∃ Q : Nat → Hp → Prop, Q 0 (upd H S (.lst [])) ∧ (∀ i H, Q i H → c1.has X.K H xs ∧ c2.has X.K H ys ∧ ∃ vs, H S = some (.lst vs) ∧ vs.length = i) ∧
      (∀ i H T x y vs, Q i H → xs[i]? = some x → ys[i]? = some y → H T = none → H S = some (.lst vs) → Q (i + 1) (upd (upd H T (.tup [x, y])) S (.lst (vs ++ [.ref T])))) ∧
      ∀ s' H', Inv X pins σ H' s' → Q (min xs.length ys.length) H' → R (.ref S) s') :
    wpAny (model X.prog X.w) A (call (.type "list") [.ref (N + 4)]) R E s := by
  have hTy : ∀ {s' : Shared}, Zk N c1 c2 0 s'.heap → s'.TypeIs (.ref (N + 4)) "zip" := fun q => by
    obtain ⟨f0, f1, z, _⟩ := q.z
    exact ⟨_, z, rfl⟩
  obtain ⟨Q, q0, hq, hstep, hfin⟩ := h s.heap.objs.size (I.hok.fresh (Nat.le_refl _))
  have hlt := st.lt
  have hSI : s.heap.objs.size ≠ N + 4 := Nat.ne_of_gt (hlt _ (by simp))
  refine callType_codes (Q₁ := fun obj s₁ => obj = .ref s.heap.objs.size ∧ s₁ = { s with heap := s.heap.push { cls := .type "list", data := .seq #[] } }) F.called_list (F.typeCall_list_1 _) F.entry_list_init
    (code_list_new _ ⟨rfl, rfl⟩) fun obj s₁ h₁ => ?_
  obtain ⟨rfl, rfl⟩ := h₁
  have hS : (s.heap.push { cls := .type "list", data := .seq #[] }).get? s.heap.objs.size = some { cls := .type "list", data := .seq #[] } := Heap.get?_push_size _ rfl
  refine ⟨⟨_, hS, rfl⟩, F.args_list_init_2 _ _, ?_⟩
  show wpAny _ _ (do let old ← Builtin.List.listItems (.ref s.heap.objs.size); Builtin.List.listUpdate (.ref s.heap.objs.size) (fun _ => #[]); letGo old.toList.reverse; Builtin.List.listExtendWith (.ref s.heap.objs.size) (.ref (N + 4)) .none) _ _ _
  refine wpAny_bind ?_
  unfold Builtin.List.listItems
  refine wpAny_bind (wpAny_seqItems hS rfl (wpAny_pure ?_))
  show wpAny _ _ (updateSeq s.heap.objs.size (fun _ => #[]) >>= fun _ => letGo (#[] : Array Value).toList.reverse >>= fun _ => Builtin.List.listExtendWith (.ref s.heap.objs.size) (.ref (N + 4)) .none) _ _ _
  refine wpAny_bind (wpAny_updateSeq hS rfl ?_)
  have hS₁ := Heap.get?_update_self (Obj.mapSeq (fun _ => (#[] : Array Value))) hS rfl
  have k1 : ∀ b o, s.heap.get? b = some o → ((s.heap.push { cls := .type "list", data := .seq #[] }).update s.heap.objs.size (Obj.mapSeq (fun _ => (#[] : Array Value)))).get? b = some o :=
    fun b o e => (Heap.get?_update_other _ _ (Nat.ne_of_gt (Heap.lt_size e))).trans (Heap.get?_push_of_some _ e)
  refine wpAny_bind (wpAny_letGo ?_)
  have st1 : Zk N c1 c2 0 ((s.heap.push { cls := .type "list", data := .seq #[] }).update s.heap.objs.size (Obj.mapSeq (fun _ => (#[] : Array Value)))) := st.keep fun b _ o e => k1 b o e
  unfold Builtin.List.listExtendWith
  refine wpAny_bind (wpAny_typeOf (hTy st1) ?_)
  have h1 : Builtin.List.listSameRef (.ref s.heap.objs.size) (.ref (N + 4)) = false := by simp [Builtin.List.listSameRef, hSI]
  have h2 : (Value.type "zip" == Value.type "list") = false := by decide
  have h3 : (Value.type "zip" == Value.type "tuple") = false := by decide
  simp only [h1, h2, h3, Bool.or_false, Bool.false_eq_true, if_false]
  obtain ⟨f0, f1, zz, kz⟩ := st1.z
  refine wpAny_bind (py_self (A := A.in1.in1) zz ?_)
  refine wpAny_bind (wpAny_holding ?_)
  unfold Builtin.List.listLengthHint
  refine wpAny_bind (wpAny_specialOf (hTy st1) zip_no_len ?_)
  show wpAny _ _ (specialOf (Value.ref (N + 4)) (Str.ofString "__length_hint__") >>= _) _ _ _
  refine wpAny_bind (wpAny_specialOf (hTy st1) zip_no_hint ?_)
  refine wpAny_pure ?_
  show wpAny _ _ (rule "list.extend.makes-room" >>= fun _ => Builtin.List.listTouch (.ref s.heap.objs.size) >>= fun _ =>
    again (.builtin "list.extend.loop" ⟨[.ref s.heap.objs.size, .ref (N + 4), .none], []⟩)) _ _ _
  refine wpAny_bind (wpAny_rule ?_)
  refine wpAny_bind ?_
  show wpAny _ _ (updateSeq s.heap.objs.size (·.push .none) >>= fun _ => updateSeq s.heap.objs.size (·.pop)) _ _ _
  refine wpAny_bind (wpAny_updateSeq hS₁ rfl ?_)
  have hS₂ := Heap.get?_update_self (Obj.mapSeq (·.push Value.none)) hS₁ rfl
  refine wpAny_updateSeq (hz := by seq_fits) hS₂ rfl ?_
  have hS₃ := Heap.get?_update_self (Obj.mapSeq (·.pop)) hS₂ rfl
  have k3 : ∀ b o, s.heap.get? b = some o → ((((s.heap.push { cls := .type "list", data := .seq #[] }).update s.heap.objs.size (Obj.mapSeq (fun _ => (#[] : Array Value)))).update s.heap.objs.size (Obj.mapSeq (·.push Value.none))).update s.heap.objs.size (Obj.mapSeq (·.pop))).get? b = some o :=
    fun b o e => (Heap.get?_update_other _ _ (Nat.ne_of_gt (Heap.lt_size e))).trans ((Heap.get?_update_other _ _ (Nat.ne_of_gt (Heap.lt_size e))).trans (k1 b o e))
  have I3 := I.laid (t' := s.toks) (a := s.heap.objs.size) (o := .lst []) k3 (Nat.le_refl _) ⟨by simp, [], _, .nil, hS₃⟩
  refine wpAny_pure ⟨plainId_quiet F.plain_extend_loop _, ?_⟩
  refine zip_loop (A := A.in1) (X := X) hA l1 l2 _ rfl hz Q hq hstep (fun s' H' I' q' => ⟨rfl, hfin s' H' I' q'⟩) _ 0 _ _ rfl (Nat.zero_le _) I3 (fun b hb => ?_) (st.keep fun b _ o e => k3 b o e) q0
  obtain ⟨g0, g1⟩ := hf b hb
  refine ⟨?_, g1⟩
  rw [upd_ne (Nat.ne_of_lt (hlt b hb))]
  exact g0
end VL

namespace VL
open PySem PySem.Spec PyProof.Rows L2 DZ
theorem Src.has_new {K : PySem.W.Frag} {H : Hp} {p : Addr} {o : HO} {c : Src} {xs : List V} (h : c.has K H xs) (hp : H p = none) : c.has K (upd H p o) xs := by
  cases c with
  | lst a =>
    rcases h with (h | ⟨o', h⟩) | h
    · exact .inl (.inl (by rw [upd_ne (ne_of_none h hp)]; exact h))
    · exact .inl (.inr ⟨o', by rw [upd_ne (ne_of_none h hp)]; exact h⟩)
    · exact .inr h
  | tup a =>
    rcases h with (h | ⟨o', h⟩) | h
    · exact .inl (.inl (by rw [upd_ne (ne_of_none h hp)]; exact h))
    · exact .inl (.inr ⟨o', by rw [upd_ne (ne_of_none h hp)]; exact h⟩)
    · exact .inr h
  | str x => exact h
theorem upd_upd {H : Hp} {p : Addr} {o o' : HO} : upd (upd H p o) p o' = upd H p o' := by
  funext b
  by_cases h : b = p
  · subst h; rw [upd_same, upd_same]
  · rw [upd_ne h, upd_ne h, upd_ne h]
theorem upd_swap {H : Hp} {p q : Addr} {o o' : HO} (h : p ≠ q) : upd (upd H p o) q o' = upd (upd H q o') p o := by
  funext b
  by_cases h1 : b = p
  · subst h1; rw [upd_ne h, upd_same, upd_same]
  · by_cases h2 : b = q
    · subst h2; rw [upd_same, upd_ne h1, upd_same]
    · rw [upd_ne h2, upd_ne h1, upd_ne h1, upd_ne h2]
theorem upd_self {H : Hp} {p : Addr} {o : HO} (h : H p = some o) : upd H p o = H := by
  funext b
  by_cases h1 : b = p
  · subst h1; rw [upd_same, h]
  · rw [upd_ne h1]
section
variable {X : Cx} {g : G} {E : XD}
def tupZ (W1 W2 : Wk) : List D := List.zipWith (fun x y => D.tup [x, y]) W1.ds W2.ds
def eLZ (a : Lc → Sto → R (List D)) : EF := fun L S => (a L S).bind fun ds S1 => match ds with
  | [d1, d2] => (wkOf d1 S1).bind fun W1 S2 => (wkOf d2 S2).bind fun W2 S3 => newL (tupZ W1 W2) S3
  | _ => .bad
theorem de_lz {e e2 : Expr} {p p2 pos pos2 : Pos} {ls : Lc → Sto → R (List D)} (hc : X.calm = true) (hK : X.K = g.K) (hgl : Gl X "list") (hml : X.mg "list" = none) (hg : Gl X "zip") (hm : X.mg "zip" = none) (ha : PA X [e, e2] (tL g E ls))
    (hs : starEach [e, e2] X.env = (false, eval e X.env) :: starEach [e2] X.env := by rfl) (hpl : (backTo pos2 (starEach [e2] X.env)).any (·.1) = false := by rfl)
    (hs1 : starEach [.Call (.Name "zip" p2) [e, e2] [] pos2] X.env = [(false, eval (.Call (.Name "zip" p2) [e, e2] [] pos2) X.env)] := by rfl) :
    PE X (.Call (.Name "list" p) [.Call (.Name "zip" p2) [e, e2] [] pos2] [] pos) (tD g E (eLZ ls)) := by
  refine ⟨fun pins s σ H Q I h => ?_⟩
  obtain ⟨m, S, L, r, l, q⟩ := h
  refine wpAny_Call_Name_kw (ld_blt I hgl hml PyProof.Rows.boot_list ?_ (by decide) (by decide))
  refine PyProof.Rows.callWith_type1 ?_ hs1 rfl
  rw [hs1]
  show wpAny _ _ (spliced ((false, eval (.Call (.Name "zip" p2) [e, e2] [] pos2) X.env) :: [])) _ _ s
  refine Calls.spliced_cons (Call_ (ld_blt I hg hm PyProof.Rows.boot_zip (PyProof.Rows.callWith_type1 (thn (ha.run pos2 pins s σ H _ I ⟨m, S, L, r, l, (Aft.bind q).mono (Q' := fun ds m1 S1 H1 => ∀ vs, RVs g m1 H1 ds vs → ∃ m1 S1 ds, Rel g m1 S1 H1 ∧ RVs g m1 H1 ds vs ∧ Aft g E m1 H1 (match ds with
    | [d1, d2] => (wkOf d1 S1).bind fun W1 S2 => (wkOf d2 S2).bind fun W2 S3 => newL (tupZ W1 W2) S3
    | _ => .bad) (vQ g Q)) fun ds m1 S1 H1 e1 r1 q1 vs rvs => ⟨m1, S1, ds, r1, rvs, q1⟩⟩) fun us s1 ⟨vs, H1, I1, r1, q1⟩ => ?_) hs hpl)))
  obtain ⟨m1, S1, ds, rr, rvs, q1⟩ := q1
  split at q1
  · rename_i d1 d2
    obtain ⟨v1, v2, rfl, h1, h2⟩ := rvs2 rvs
    rcases wkOf_cases d1 S1 with z | ⟨W1, z1⟩
    · rw [z] at q1; exact q1.elim
    rw [z1] at q1
    rcases wkOf_cases d2 S1 with z | ⟨W2, z2⟩
    · rw [R.bind_ok, z] at q1; exact q1.elim
    rw [R.bind_ok, z2, R.bind_ok] at q1
    obtain ⟨_, k1, c1, rfl, f1⟩ := src_run rr h1 z1
    obtain ⟨_, k2, c2, rfl, f2⟩ := src_run rr h2 z2
    obtain ⟨xs, hx, rx⟩ := f1 m1 S1 H1 (Ext.refl (g := g)).toExk rr k1
    obtain ⟨ys, hy, ry⟩ := f2 m1 S1 H1 (Ext.refl (g := g)).toExk rr k2
    rw [← hK] at hx hy
    unfold newL at q1
    split at q1
    · rename_i hz
      cases r1 with
      | cons ra rb =>
        cases rb with
        | cons rb rc =>
          cases rc
          obtain ⟨o1, Hq1, B1, hq1, l1, t1⟩ := Src.begins I1 hx ra
          obtain ⟨o2, Hq2, B2, hq2, l2, t2⟩ := Src.begins I1 hy rb
          refine zip_begins2 B1 B2 hq1 hq2 fun h' hzz hTI hTO g1 g2 hsz hk => Calls.spliced_nil ?_
          have I2 : Inv X pins σ H1 { s1 with heap := h' } := I1.kept (t' := s1.toks) hk
          have hmin : min xs.length ys.length = (tupZ W1 W2).length := by unfold tupZ; rw [List.length_zipWith, rx.length, ry.length]
          refine call_list_zip (N := s1.heap.objs.size) (xs := xs) (ys := ys) (I.ok.hd hc) l1 l2 (by rw [hmin]; exact hz) I2 (fun c hcm => ?_) ⟨⟨_, _, hzz, .inl ⟨rfl, rfl⟩⟩, hTI, ⟨_, _, hTO⟩, t1 _ _ g1, t2 _ _ g2⟩ fun P hP => ?_
          · have hle : s1.heap.objs.size ≤ c := by
              simp only [List.mem_cons, List.not_mem_nil, or_false] at hcm
              simp only [Addr] at *
              omega
            exact I1.fpOk hle (I1.hok.fresh hle)
          · refine ⟨fun i H' => (∀ o, c1.has X.K (upd H' P o) xs) ∧ (∀ o, c2.has X.K (upd H' P o) ys) ∧ ∃ m' us, Mk1 g m1 H1 P (.lst us) m' S1 H' ∧ RVs g m' H' ((tupZ W1 W2).take i) us ∧ us.length = i ∧ ∀ j, RVs g m' H' (W1.ds.take j) (xs.take j) ∧ RVs g m' H' (W2.ds.take j) (ys.take j), ?_, ?_, ?_, ?_⟩
            · refine ⟨fun o => ?_, fun o => ?_, m1.hold P, [], .start rr hP, ?_, rfl, fun j => ⟨(rx.take j).extw (Mk1.start rr hP).ex, (ry.take j).extw (Mk1.start rr hP).ex⟩⟩
              · rw [upd_upd]; exact Src.has_new hx hP
              · rw [upd_upd]; exact Src.has_new hy hP
              · rw [List.take_zero]; exact .nil
            · rintro i H' ⟨a1, a2, m', us, mk, ru, hu, _⟩
              refine ⟨?_, ?_, us, mk.at_, hu⟩
              · have := a1 (.lst us); rwa [upd_self mk.at_] at this
              · have := a2 (.lst us); rwa [upd_self mk.at_] at this
            · rintro i H' T x y vs ⟨a1, a2, m', us, mk, ru, hu, rj⟩ ex ey hT hPv
              have hTP : T ≠ P := fun z => by rw [z, hPv] at hT; cases hT
              have hPT : P ≠ T := Ne.symm hTP
              have : us = vs := by have := mk.at_.symm.trans hPv; cases this; rfl
              subst this
              have hi1 : i < W1.ds.length := by rw [← rx.length]; exact (List.getElem?_eq_some_iff.mp ex).1
              have hi2 : i < W2.ds.length := by rw [← ry.length]; exact (List.getElem?_eq_some_iff.mp ey).1
              have e1 : W1.ds[i]? = some W1.ds[i] := List.getElem?_eq_getElem hi1
              have e2 : W2.ds[i]? = some W2.ds[i] := List.getElem?_eq_getElem hi2
              have rX : RV g m' H' W1.ds[i] x := by
                obtain ⟨v, h1, h2⟩ := (rj (i + 1)).1.get (i := i) (d := W1.ds[i]) (by rw [List.getElem?_take, if_pos (by omega)]; exact e1)
                rw [List.getElem?_take, if_pos (by omega), ex] at h1
                cases h1; exact h2
              have rY : RV g m' H' W2.ds[i] y := by
                obtain ⟨v, h1, h2⟩ := (rj (i + 1)).2.get (i := i) (d := W2.ds[i]) (by rw [List.getElem?_take, if_pos (by omega)]; exact e2)
                rw [List.getElem?_take, if_pos (by omega), ey] at h1
                cases h1; exact h2
              obtain ⟨n1, n2, n3⟩ := new_row mk.r hT (.cons rX (.cons rY .nil))
              have mk2 := mk.on n1 n2
              obtain ⟨e7, mk7⟩ := mk2.step (o' := .lst (us ++ [.ref T])) hP
              have hzi : (tupZ W1 W2)[i]? = some (.tup [W1.ds[i], W2.ds[i]]) := by unfold tupZ; rw [List.getElem?_zipWith, e1, e2]
              refine ⟨fun o => ?_, fun o => ?_, m', us ++ [.ref T], mk7, ?_, by simp [hu], fun j => ⟨((rj j).1.ext n1).extw e7, ((rj j).2.ext n1).extw e7⟩⟩
              · rw [upd_upd, upd_swap hTP]
                exact Src.has_new (a1 o) (by rw [upd_ne hTP]; exact hT)
              · rw [upd_upd, upd_swap hTP]
                exact Src.has_new (a2 o) (by rw [upd_ne hTP]; exact hT)
              · rw [List.take_succ, hzi]
                exact ((ru.ext n1).append (.cons n3 .nil)).extw e7
            · rintro s' H' I' ⟨a1, a2, m', us, mk, ru, hu, rj⟩
              rw [hmin, List.take_length] at ru
              obtain ⟨hw, he, hr, hun⟩ := mk.done rr hP
              exact ⟨.ref P, H', I', rfl, q1.at he hr _ (rv_lst mk.at_ hun (ru.extw hw))⟩
    · exact q1.elim
  · exact q1.elim
end
end VL

/-! dict(zip(a, b)), a and b lists or tuples -/
namespace VL
open PySem PySem.Spec PyProof.Rows L2 DZ
/-- a list or a tuple, with what it holds -/
def Src.raw : Src → List Value → Addr → Nat → Heap → Prop
  | .lst a, us, it, i, h => h.IsListIter it a i ∧ h.IsList a us.toArray
  | .tup a, us, it, i, h => h.IsTupleIter it a i ∧ h.IsTuple a us.toArray
  | .str _, _, _, _, _ => False
def Src.fpr : Src → Addr → List Addr
  | .lst a, it => [it, a]
  | .tup a, it => [it, a]
  | .str _, it => [it]
theorem Src.rawD {prog : Program} {w : World} {A : Around} (hh : A.handled = none) {c : Src} (us : List Value) {it : Addr} (hne : c.adr ≠ some it) (hs : c.adr ≠ none) : Draws prog w A it (c.fpr it) us.length (fun i v => us[i]? = some v) (c.raw us it) := by
  cases c with
  | lst a =>
    have h := Draws.list (prog := prog) (w := w) hh it a (fun z => hne (by rw [← z]; rfl)) us.toArray
    simp only [List.size_toArray, List.getElem?_toArray] at h
    exact h
  | tup a =>
    have h := Draws.tuple (prog := prog) (w := w) hh it a (fun z => hne (by rw [← z]; rfl)) us.toArray
    simp only [List.size_toArray, List.getElem?_toArray] at h
    exact h
  | str x => exact absurd rfl hs
theorem Src.fpr_in {c : Src} {it b : Addr} (h : b ∈ c.fpr it) : b = it ∨ c.adr = some b := by
  cases c with
  | lst a =>
    rcases List.mem_cons.mp h with z | z
    · exact .inl z
    · exact .inr (by rw [List.mem_singleton.mp z]; rfl)
  | tup a =>
    rcases List.mem_cons.mp h with z | z
    · exact .inl z
    · exact .inr (by rw [List.mem_singleton.mp z]; rfl)
  | str x => exact .inl (List.mem_singleton.mp h)
theorem Src.fpr_it {c : Src} {it : Addr} : it ∈ c.fpr it := by cases c <;> simp [Src.fpr]
theorem Src.raw_there {c : Src} {us : List Value} {it : Addr} {i : Nat} {h : Heap} (st : c.raw us it i h) {b : Addr} (hb : b ∈ c.fpr it) : ∃ o, h.get? b = some o := by
  cases c with
  | lst a =>
    obtain ⟨⟨o, ho, _⟩, ⟨o', ho', _⟩⟩ := st
    rcases List.mem_cons.mp hb with z | z
    · rw [z]; exact ⟨o, ho⟩
    · rw [List.mem_singleton.mp z]; exact ⟨o', ho'⟩
  | tup a =>
    obtain ⟨⟨o, ho, _⟩, ⟨o', ho', _⟩⟩ := st
    rcases List.mem_cons.mp hb with z | z
    · rw [z]; exact ⟨o, ho⟩
    · rw [List.mem_singleton.mp z]; exact ⟨o', ho'⟩
  | str x => exact st.elim
structure Zr (N : Addr) (s1 s2 : Src) (us ws : List Value) (i : Nat) (h : Heap) : Prop where
  z : ∃ f0 f1, ZG h (N + 4) (N + 2) (N + 3) f0 f1 ∧ Keeps f0 f1
  ti : IsTupOf2 h (N + 2) (.ref N) (.ref (N + 1))
  to : ∃ a1 a2, IsTupOf2 h (N + 3) a1 a2
  a1 : s1.raw us N i h
  a2 : s2.raw ws (N + 1) i h
theorem pair_zip {prog : Program} {w : World} {N : Addr} {s1 s2 : Src} {us ws : List Value} (l1 : ∀ a, s1.adr = some a → a < N) (l2 : ∀ a, s2.adr = some a → a < N) (n1 : s1.adr ≠ none) (n2 : s2.adr ≠ none) :
    PairArg prog w "zip" (N + 4) ([N + 4, N + 2, N + 3] ++ (s1.fpr N ++ s2.fpr (N + 1))) [N + 4, N + 3, N, N + 1] (min us.length ws.length) (fun i k v => us[i]? = some k ∧ ws[i]? = some v) (Zr N s1 s2 us ws 0) := by
  have dr1 : ∀ {A : Around}, A.handled = none → Draws prog w A N (s1.fpr N) us.length (fun i v => us[i]? = some v) (s1.raw us N) := fun hh => Src.rawD hh us (fun z => absurd (l1 _ z) (Nat.lt_irrefl _)) n1
  have dr2 : ∀ {A : Around}, A.handled = none → Draws prog w A (N + 1) (s2.fpr (N + 1)) ws.length (fun i v => ws[i]? = some v) (s2.raw ws (N + 1)) := fun hh => Src.rawD hh ws (fun z => absurd (l2 _ z) (by simp only [Addr]; omega)) n2
  have sp : ZipSep2 (N + 4) (N + 2) (N + 3) N (N + 1) (s1.fpr N) (s2.fpr (N + 1)) := sep2 l1 l2 Src.fpr_it Src.fpr_it (fun b hb => Src.fpr_in hb) (fun b hb => Src.fpr_in hb)
  have A0 : Around := callerA
  refine ⟨fun s ok => ?_, by decide, fun h h' ok hk => ?_, fun h ok b hb => ?_, fun b hb => ?_, fun A s Q E hA ok h => ?_, fun A s d Q E hA ok hd hdf h => ?_⟩
  · obtain ⟨f0, f1, z, _⟩ := ok.z
    exact ⟨_, z, rfl⟩
  · obtain ⟨⟨f0, f1, z, kz⟩, ti, ⟨a1, a2, e⟩, b1, b2⟩ := ok
    have hh : (callerA : Around).handled = none := rfl
    exact ⟨⟨f0, f1, hk _ _ z, kz⟩, hk _ _ ti, ⟨a1, a2, hk _ _ e⟩, (dr1 hh).frame _ _ _ b1 fun b _ o q => hk b o q, (dr2 hh).frame _ _ _ b2 fun b _ o q => hk b o q⟩
  · obtain ⟨⟨f0, f1, z, kz⟩, ti, ⟨a1, a2, e⟩, b1, b2⟩ := ok
    rcases List.mem_append.mp hb with hb | hb
    · simp only [List.mem_cons, List.not_mem_nil, or_false] at hb
      rcases hb with q | q | q <;> rw [q]
      · exact ⟨_, z⟩
      · exact ⟨_, ti⟩
      · exact ⟨_, e⟩
    · rcases List.mem_append.mp hb with hb | hb
      · exact Src.raw_there b1 hb
      · exact Src.raw_there b2 hb
  · simp only [List.mem_cons, List.not_mem_nil, or_false] at hb
    rcases hb with q | q | q | q <;> rw [q]
    · simp
    · simp
    · exact List.mem_append_right _ (List.mem_append_left _ Src.fpr_it)
    · exact List.mem_append_right _ (List.mem_append_right _ Src.fpr_it)
  · obtain ⟨f0, f1, z, _⟩ := ok.z
    exact getAttrOr_miss_zip z rfl rfl rfl zip_no_keys (by decide +kernel) hA h
  · obtain ⟨f0, f1, z, kz⟩ := ok.z
    refine py_self z (h (N + 4) [N + 4, N + 3, N, N + 1] (Zr N s1 s2 us ws) s.heap s.toks ?_ ok (fun _ _ e => e) fun b hb => .inl hb)
    have hd1 : d ∉ [N + 4, N + 2, N + 3] := fun z => hdf (List.mem_append_left _ z)
    have hd2 : d ∉ s1.fpr N := fun z => hdf (List.mem_append_right _ (List.mem_append_left _ z))
    have hd3 : d ∉ s2.fpr (N + 1) := fun z => hdf (List.mem_append_right _ (List.mem_append_right _ z))
    refine ⟨fun z => ?_, fun i h₁ h₂ st hk => ?_, fun i s₁ Q₁ E₁ hi st hds hQ => ?_, fun s₁ Q₁ E₁ st hQ => ?_⟩
    · simp only [List.mem_cons, List.not_mem_nil, or_false] at z
      rcases z with q | q | q | q
      · exact hd1 (by simp [q])
      · exact hd1 (by simp [q])
      · exact hd2 (by rw [q]; exact Src.fpr_it)
      · exact hd3 (by rw [q]; exact Src.fpr_it)
    · obtain ⟨⟨f0, f1, z, kz⟩, ti, ⟨a1, a2, e⟩, b1, b2⟩ := st
      exact ⟨⟨f0, f1, hk _ _ (fun q => hd1 (by simp [q])) z, kz⟩, hk _ _ (fun q => hd1 (by simp [q])) ti, ⟨a1, a2, hk _ _ (fun q => hd1 (by simp [q])) e⟩, (dr1 hA).frame _ _ _ b1 fun b hb o q => hk b o (fun z => hd2 (z ▸ hb)) q, (dr2 hA).frame _ _ _ b2 fun b hb o q => hk b o (fun z => hd3 (z ▸ hb)) q⟩
    · obtain ⟨⟨f0, f1, z, kz⟩, ti, ⟨a1, a2, e⟩, b1, b2⟩ := st
      refine zg_pyitem sp (dr1 (A := A.in1) hA) (dr2 (A := A.in1) hA) z kz ti e b1 b2 (by omega) (by omega) fun x1 x2 h' tk f0' f1' p1 p2 z' kz' to' sn1 sn2 tT hk' => ?_
      refine hQ s₁.heap.objs.size x1 x2 h' tk ⟨p1, p2⟩ (.inl ⟨_, tT, rfl, _, rfl⟩) ⟨⟨_, _, z', kz'⟩, hk' _ _ (by simp only [ne_eq, Addr]; omega) (by simp only [ne_eq, Addr]; omega) (by simp only [ne_eq, Addr]; omega) (by simp only [ne_eq, Addr]; omega) ti, to', sn1, sn2⟩ fun c o hc q => ?_
      exact hk' c o (fun z => hc (by simp [z])) (fun z => hc (by simp [z])) (fun z => hc (by simp [z])) (fun z => hc (by simp [z])) q
    · obtain ⟨⟨f0, f1, z, kz⟩, ti, ⟨a1, a2, e⟩, b1, b2⟩ := st
      refine zg_pyend sp (dr1 (A := A.in1) hA) (dr2 (A := A.in1) hA) z kz ti e b1 b2 (by omega) (by omega) (by omega) fun h' tk hk' => hQ h' tk fun c o hc q => ?_
      exact hk' c o (fun z => hc (by simp [z])) (fun z => hc (by simp [z])) (fun z => hc (by simp [z])) (fun z => hc (by simp [z])) q
theorem zip_keys {P : Program} {w0 : World} {g : G} {m : Mp} {H : Hp} : ∀ {ds es : List D} {xs ys : List V} {us ws : List Value} {ps : List (Key × D)}, RVs g m H ds xs → RVs g m H es ys → Vals xs us → Vals ys ws → pairsD (List.zipWith (fun x y => D.tup [x, y]) ds es) = some ps →
    ∃ (qs : List (Key × V)) (prs : List (Key × Value)), KV qs prs ∧ prs.length = min us.length ws.length ∧ ps.map (·.1) = qs.map (·.1) ∧ RVs g m H (ps.map (·.2)) (qs.map (·.2)) ∧ ∀ (i : Nat) (key v : Value), us[i]? = some key → ws[i]? = some v → ∃ k, prs[i]? = some (k, v) ∧ keyIs k key = true
  | [], es, xs, ys, us, ws, ps, r1, r2, v1, v2, e => by
    have := r1.nil_iff
    subst this
    cases v1
    simp [pairsD] at e
    subst e
    exact ⟨[], [], .nil, by simp, rfl, .nil, fun i key v h => by simp at h⟩
  | d :: ds, [], xs, ys, us, ws, ps, r1, r2, v1, v2, e => by
    have := r2.nil_iff
    subst this
    cases v2
    simp [pairsD] at e
    subst e
    exact ⟨[], [], .nil, by simp, rfl, .nil, fun i key v _ h => by simp at h⟩
  | d :: ds, b :: es, xs, ys, us, ws, ps, r1, r2, v1, v2, e => by
    obtain ⟨x, xs', rfl, hx, r1'⟩ := r1.cons_iff
    obtain ⟨y, ys', rfl, hy, r2'⟩ := r2.cons_iff
    cases v1 with
    | cons rx v1 =>
      cases v2 with
      | cons ry v2 =>
        rename_i u us w ws
        simp only [List.zipWith_cons_cons, pairsD] at e
        split at e
        · rename_i k ps' e1 e2
          cases e
          obtain ⟨qs, prs, q1, q2, q3, q4, q5⟩ := zip_keys (P := P) (w0 := w0) r1' r2' v1 v2 e2
          have hk := key_run hx e1
          subst hk
          refine ⟨(k, y) :: qs, (k, w) :: prs, .cons ⟨rfl, ry⟩ q1, by simp [q2] <;> omega, by simp [q3], .cons hy q4, fun i key v h1 h2 => ?_⟩
          cases i with
          | zero =>
            simp at h1 h2
            subst h1 h2
            exact ⟨k, rfl, kV_is (P := P) (w := w0) rx⟩
          | succ i => simpa using q5 i key v (by simpa using h1) (by simpa using h2)
        · cases e
section
variable {X : Cx} {g : G} {E : XD}
def isSeqD (d : D) : Bool := match d with
  | .str _ => false
  | _ => true
theorem src_adr {m : Mp} {S : Sto} {H : Hp} (r : Rel g m S H) {d : D} {v : V} (rv : RV g m H d v) {W : Wk} {S' : Sto} (e : wkOf d S = .ok W S') (hs : isSeqD d = true) {c : Src} (hv : c.v = v) : c.adr ≠ none := by
  cases c with
  | str x =>
    exfalso
    have hv' : V.str x = v := hv
    subst hv'
    cases d <;> simp [wkOf, isSeqD] at e hs
    · obtain ⟨a, vs, z, _⟩ := of_tupv rv; cases z
    · obtain ⟨a, vs, z, _⟩ := of_ctp rv; cases z
    · obtain ⟨a, vs, z, _⟩ := of_lst rv; cases z
    · obtain ⟨a, z, _⟩ := of_scr rv; cases z
    · obtain ⟨a, b, z, _⟩ := of_ref rv; cases z
  | lst a => exact fun z => nomatch z
  | tup a => exact fun z => nomatch z
def eDZ (mu : Bool) (a : Lc → Sto → R (List D)) : EF := fun L S => (a L S).bind fun ds S1 => match ds with
  | [d1, d2] => if isSeqD d1 = true ∧ isSeqD d2 = true then (wkOf d1 S1).bind fun W1 S2 => (wkOf d2 S2).bind fun W2 S3 => match pairsD (tupZ W1 W2) with
    | some ps => nwD mu (mergeD [] [] ps).1 (mergeD [] [] ps).2 S3
    | none => .bad
    else .bad
  | _ => .bad
theorem de_dz {mu : Bool} {e e2 : Expr} {p p2 pos pos2 : Pos} {ls : Lc → Sto → R (List D)} (hc : X.calm = true) (hK : X.K = g.K) (hgl : Gl X "dict") (hml : X.mg "dict" = none) (hg : Gl X "zip") (hm : X.mg "zip" = none) (ha : PA X [e, e2] (tL g E ls))
    (hs : starEach [e, e2] X.env = (false, eval e X.env) :: starEach [e2] X.env := by rfl) (hpl : (backTo pos2 (starEach [e2] X.env)).any (·.1) = false := by rfl)
    (hs1 : starEach [.Call (.Name "zip" p2) [e, e2] [] pos2] X.env = [(false, eval (.Call (.Name "zip" p2) [e, e2] [] pos2) X.env)] := by rfl) :
    PE X (.Call (.Name "dict" p) [.Call (.Name "zip" p2) [e, e2] [] pos2] [] pos) (tD g E (eDZ mu ls)) := by
  refine ⟨fun pins s σ H Q I h => ?_⟩
  obtain ⟨m, S, L, r, l, q⟩ := h
  refine wpAny_Call_Name_kw (ld_blt I hgl hml bt_dict ?_ (by decide) (by decide))
  refine PyProof.Rows.callWith_type1 ?_ hs1 rfl
  rw [hs1]
  show wpAny _ _ (spliced ((false, eval (.Call (.Name "zip" p2) [e, e2] [] pos2) X.env) :: [])) _ _ s
  refine Calls.spliced_cons (Call_ (ld_blt I hg hm PyProof.Rows.boot_zip (PyProof.Rows.callWith_type1 (thn (ha.run pos2 pins s σ H _ I ⟨m, S, L, r, l, (Aft.bind q).mono (Q' := fun ds m1 S1 H1 => ∀ vs, RVs g m1 H1 ds vs → ∃ m1 S1 ds, Rel g m1 S1 H1 ∧ RVs g m1 H1 ds vs ∧ Aft g E m1 H1 (match ds with
    | [d1, d2] => if isSeqD d1 = true ∧ isSeqD d2 = true then (wkOf d1 S1).bind fun W1 S2 => (wkOf d2 S2).bind fun W2 S3 => match pairsD (tupZ W1 W2) with
      | some ps => nwD mu (mergeD [] [] ps).1 (mergeD [] [] ps).2 S3
      | none => .bad
      else .bad
    | _ => .bad) (vQ g Q)) fun ds m1 S1 H1 e1 r1 q1 vs rvs => ⟨m1, S1, ds, r1, rvs, q1⟩⟩) fun us s1 ⟨vs, H1, I1, r1, q1⟩ => ?_) hs hpl)))
  obtain ⟨m1, S1, ds, rr, rvs, q1⟩ := q1
  split at q1
  · rename_i d1 d2
    split at q1
    · rename_i hseq
      obtain ⟨v1, v2, rfl, h1, h2⟩ := rvs2 rvs
      rcases wkOf_cases d1 S1 with z | ⟨W1, z1⟩
      · rw [z] at q1; exact q1.elim
      rw [z1] at q1
      rcases wkOf_cases d2 S1 with z | ⟨W2, z2⟩
      · rw [R.bind_ok, z] at q1; exact q1.elim
      rw [R.bind_ok, z2, R.bind_ok] at q1
      obtain ⟨_, k1, c1, rfl, f1⟩ := src_run rr h1 z1
      obtain ⟨_, k2, c2, rfl, f2⟩ := src_run rr h2 z2
      have n1 := src_adr rr h1 z1 hseq.1 (c := c1) rfl
      have n2 := src_adr rr h2 z2 hseq.2 (c := c2) rfl
      obtain ⟨xs, hx, rx⟩ := f1 m1 S1 H1 (Ext.refl (g := g)).toExk rr k1
      obtain ⟨ys, hy, ry⟩ := f2 m1 S1 H1 (Ext.refl (g := g)).toExk rr k2
      rw [← hK] at hx hy
      split at q1
      · rename_i ps eps
        cases r1 with
        | cons ra rb =>
          cases rb with
          | cons rb rc =>
            cases rc
            obtain ⟨o1, Hq1, B1, hq1, l1, t1⟩ := Src.begins I1 hx ra
            obtain ⟨o2, Hq2, B2, hq2, l2, t2⟩ := Src.begins I1 hy rb
            refine zip_begins2 B1 B2 hq1 hq2 fun h' hzz hTI hTO g1 g2 hsz hk => Calls.spliced_nil ?_
            have I2 : Inv X pins σ H1 { s1 with heap := h' } := I1.kept (t' := s1.toks) hk
            have raws : ∀ {c : Src} {zs : List V} {it : Addr}, c.has X.K H1 zs → c.adr ≠ none → c.at it 0 h' → ∃ us, Vals zs us ∧ zs.length ≤ sizeLine ∧ c.raw us it 0 h' := fun {c zs it} hh hn ht => by
              cases c with
              | lst a =>
                obtain ⟨its, rv, pl, hz⟩ := I2.list hh
                exact ⟨its, rv, hz, ht, pl.isList⟩
              | tup a =>
                obtain ⟨its, rv, pl, hz⟩ := I2.tuple hh
                exact ⟨its, rv, hz, ht, pl⟩
              | str x => exact absurd rfl hn
            obtain ⟨us, vu, zu, w1⟩ := raws hx n1 (t1 _ _ g1)
            obtain ⟨ws, vw, zw, w2⟩ := raws hy n2 (t2 _ _ g2)
            obtain ⟨qs, prs, q2, q3, q4, q5, q6⟩ := zip_keys (P := X.prog) (w0 := X.w) rx ry vu vw eps
            have hln : min us.length ws.length ≤ sizeLine := by have := vu.length; omega
            refine PySem.call_dict_pairs (knd := mixKind X.prog X.w) (kvs := prs) (pair_zip (us := us) (ws := ws) l1 l2 n1 n2) (I.ok.hd hc) ⟨⟨_, _, hzz, .inl ⟨rfl, rfl⟩⟩, hTI, ⟨_, _, hTO⟩, w1, w2⟩ ⟨q3, fun i key v hr => q6 i key v hr.1 hr.2⟩ hln fun h2 tk hd' hk2 => ?_
            have hk2' : ∀ b o, s1.heap.get? b = some o → h2.get? b = some o := fun b o e => hk2 b o (fun z => by
              have := Heap.lt_size e
              simp only [List.mem_cons, List.not_mem_nil, or_false, Addr] at *
              omega) (hk b o e)
            have hm0 : (h'.objs.size == sysModules) = false := beq_eq_false_iff_ne.mpr (Nat.ne_of_gt I2.big)
            have hlen : (mergeK [] qs).length ≤ sizeLine := by
              refine Nat.le_trans (length_mergeK qs []) ?_
              rw [List.length_nil, Nat.zero_add, KV.length q2, q3]
              exact hln
            obtain ⟨p1, p2⟩ := merge_run (kvs := []) (ds := []) q4 q5 .nil
            have hnone : H1 h'.objs.size = none := I2.hok.fresh (Nat.le_refl _)
            have hle : s1.heap.objs.size ≤ h'.objs.size := by omega
            exact ⟨.ref h'.objs.size, upd H1 h'.objs.size (.dK (mergeK [] qs)), I1.laid (t' := tk) hk2' hle (show ObjOk X.prog X.w _ _ _ (.dK (mergeK [] qs)) from ⟨hlen, hm0, merged [] prs, KV.merge q2 .nil, hd'⟩), rfl, nwD_run q1 rr p1 p2 hnone⟩
      · exact q1.elim
    · exact q1.elim
  · exact q1.elim
end
end VL

/-! texts: sorted, startswith, len(set(..)) -/
namespace VL
open PySem PySem.Spec PyProof.Rows L2
def leS (a b : Str) : Bool := !ltCps b.cps.toList a.cps.toList
def insS (x : Str) : List Str → List Str
  | [] => [x]
  | y :: r => if leS x y = true then x :: y :: r else y :: insS x r
def sortS : List Str → List Str
  | [] => []
  | x :: r => insS x (sortS r)
theorem leS_iff {a b : Str} : leS a b = true ↔ a.cps.toList ≤ b.cps.toList := by
  unfold leS
  rw [ltCps_eq]
  simp
theorem leS_total (a b : Str) : leS a b = true ∨ leS b a = true := by
  rw [leS_iff, leS_iff]
  exact List.le_total _ _
theorem leS_trans {a b c : Str} (h : leS a b = true) (k : leS b c = true) : leS a c = true := by
  rw [leS_iff] at *
  exact List.le_trans h k
theorem str_inj {a b : Str} (h : a.cps.toList = b.cps.toList) : a = b := by
  cases a with | mk x => cases b with | mk y =>
  have : x = y := Array.toList_inj.mp h
  rw [this]
theorem leS_antisymm {a b : Str} (h : leS a b = true) (k : leS b a = true) : a = b := by
  rw [leS_iff] at *
  exact str_inj (List.le_antisymm h k)
theorem insS_perm (x : Str) : ∀ r : List Str, (insS x r).Perm (x :: r)
  | [] => .refl _
  | y :: r => by
    unfold insS
    split
    · exact .refl _
    · exact ((insS_perm x r).cons y).trans (.swap x y r)
theorem sortS_perm : ∀ r : List Str, (sortS r).Perm r
  | [] => .refl _
  | x :: r => (insS_perm x (sortS r)).trans ((sortS_perm r).cons x)
theorem insS_sorted (x : Str) : ∀ {r : List Str}, r.Pairwise (fun a b => leS a b = true) → (insS x r).Pairwise (fun a b => leS a b = true)
  | [], _ => by simp [insS]
  | y :: r, h => by
    unfold insS
    split
    · rename_i hx
      refine List.pairwise_cons.mpr ⟨fun z hz => ?_, h⟩
      rcases List.mem_cons.mp hz with e | e
      · rw [e]; exact hx
      · exact leS_trans hx ((List.pairwise_cons.mp h).1 z e)
    · rename_i hx
      have hy : leS y x = true := (leS_total x y).resolve_left hx
      refine List.pairwise_cons.mpr ⟨fun z hz => ?_, insS_sorted x (List.pairwise_cons.mp h).2⟩
      rcases List.mem_cons.mp ((insS_perm x r).mem_iff.mp hz) with e | e
      · rw [e]; exact hy
      · exact (List.pairwise_cons.mp h).1 z e
theorem sortS_sorted : ∀ r : List Str, (sortS r).Pairwise (fun a b => leS a b = true)
  | [] => .nil
  | x :: r => insS_sorted x (sortS_sorted r)
theorem pw_rising : ∀ (p : Str) (l : List Str), risingS p l = true → (p :: l).Pairwise (fun a b => leS a b = true)
  | p, [], _ => by simp
  | p, x :: r, h => by
    have h' : (!ltCps x.cps.toList p.cps.toList && risingS x r) = true := h
    rw [Bool.and_eq_true] at h'
    have ih := pw_rising x r h'.2
    refine List.pairwise_cons.mpr ⟨fun z hz => ?_, ih⟩
    rcases List.mem_cons.mp hz with e | e
    · rw [e]; exact h'.1
    · exact leS_trans (show leS p x = true from h'.1) ((List.pairwise_cons.mp ih).1 z e)
theorem pw_sortedS : ∀ {l : List Str}, sortedS l = true → l.Pairwise (fun a b => leS a b = true)
  | [], _ => .nil
  | x :: r, h => pw_rising x r h
theorem sorted_uniq : ∀ {l₁ l₂ : List Str}, l₁.Perm l₂ → l₁.Pairwise (fun a b => leS a b = true) → l₂.Pairwise (fun a b => leS a b = true) → l₁ = l₂
  | [], l₂, p, _, _ => by rw [List.nil_perm] at p; exact p.symm
  | x :: r, [], p, _, _ => by rw [List.perm_nil] at p; exact p
  | x :: r, y :: t, p, h1, h2 => by
    have hx : x ∈ y :: t := p.mem_iff.mp List.mem_cons_self
    have hy : y ∈ x :: r := p.mem_iff.mpr List.mem_cons_self
    have e : x = y := by
      rcases List.mem_cons.mp hx with e | e
      · exact e
      · rcases List.mem_cons.mp hy with e' | e'
        · exact e'.symm
        · exact leS_antisymm ((List.pairwise_cons.mp h1).1 y e') ((List.pairwise_cons.mp h2).1 x e)
    subst e
    rw [sorted_uniq (List.Perm.cons_inv p) (List.pairwise_cons.mp h1).2 (List.pairwise_cons.mp h2).2]
theorem sortS_of {ys xs : List Str} (p : ys.Perm xs) (h : sortedS ys = true) : ys = sortS xs := sorted_uniq (p.trans (sortS_perm xs).symm) (pw_sortedS h) (sortS_sorted xs)
def strs? : List D → Option (List Str)
  | [] => some []
  | .str x :: r => (strs? r).map (x :: ·)
  | _ => none
section
variable {X : Cx} {g : G} {E : XD}
theorem strs_run {m : Mp} {H : Hp} : ∀ {ds : List D} {vs : List V} {ns : List Str}, RVs g m H ds vs → strs? ds = some ns → vs = ns.map V.str
  | [], vs, ns, h, e => by cases e; exact h.nil_iff
  | d :: ds, vs, ns, h, e => by
    obtain ⟨v, r, rfl, h1, h2⟩ := h.cons_iff
    cases d <;> simp only [strs?] at e <;> try cases e
    rw [Option.map_eq_some_iff] at e
    obtain ⟨ns', e1, rfl⟩ := e
    rw [of_str h1, strs_run h2 e1]
    rfl
def keyS? : List Key → Option (List Str)
  | [] => some []
  | .inr x :: r => (keyS? r).map (x :: ·)
  | _ => none
theorem keyS_eq : ∀ {ks : List Key} {ns : List Str}, keyS? ks = some ns → ks = ns.map Sum.inr
  | [], ns, e => by cases e; rfl
  | .inr x :: r, ns, e => by
    simp only [keyS?, Option.map_eq_some_iff] at e
    obtain ⟨ns', e1, rfl⟩ := e
    rw [keyS_eq e1]
    rfl
  | .inl _ :: _, ns, e => by simp [keyS?] at e
def sortedD (ds : List D) (S : Sto) : R D := match ds with
  | [x] => match dicOf x S with
    | some p => match keyS? p.1 with
      | some ns => if ns.length < 64 then .ok (.lst ((sortS ns).map D.str)) S else .bad
      | none => .bad
    | none => match lstOf x S with
      | some xs => match strs? xs with
        | some ns => .ok (.lst ((sortS ns).map D.str)) S
        | none => .bad
      | none => .bad
  | _ => .bad
theorem cr_sortedA : CallR X (.builtin "sorted") (fun vs H Q => ∃ (a : Addr) (xs : List Str), vs = [.ref a] ∧ SqL X.K H a (xs.map V.str) ∧ ∀ (ys : List Str) (p : Addr), ys.Perm xs → sortedS ys = true → H p = none → Q (.ref p) (upd H p (.lst (ys.map V.str)))) := by
  intro pins s σ H vs us Q I r h
  obtain ⟨a, xs, rfl, hs, q⟩ := h
  obtain ⟨its, rv, hl, hz⟩ := I.list hs
  rw [Vals.ref1 r]
  have hlen0 := rv.length
  rw [List.length_map] at hlen0 hz
  refine PyProof.Rows.sorted_strsAny hl.isList rv.strs (by rw [← hlen0]; exact hz) fun out ys h1 h2 h3 => ?_
  obtain ⟨ep, he'⟩ := PyProof.Rows.sortedAll_at s.heap its out
  have hlen : (ys.map V.str).length ≤ sizeLine := by rw [List.length_map, h2.length_eq]; exact hz
  exact ⟨.ref _, upd H (s.heap.objs.size + 1) (.lst (ys.map V.str)), I.laid (t' := s.toks) (fun _ _ => PyProof.Rows.sortedAll_old) (Nat.le_succ _) ⟨hlen, out.toList, ep, vals_of_strs h1, he'⟩, rfl, q ys _ h2 h3 (I.hok.fresh (Nat.le_succ _))⟩
theorem cd_sorted (hK : X.K = g.K) (hc : X.calm = true) : CallR X (.builtin "sorted") (rDs g E sortedD) := by
  intro pins s σ H xs us Q I r h
  obtain ⟨m, S, ds, rl, h1, q⟩ := h
  unfold sortedD at q
  split at q
  · obtain ⟨v, rfl, h2⟩ := rvs1 h1
    split at q
    · rename_i p ep
      split at q
      · rename_i ns en
        split at q
        · rename_i h64
          obtain ⟨a, kvs, rfl, hr, e1, e2⟩ := dic_run rl h2 ep
          refine call_sortedD hc pins s σ H _ us Q I r ⟨a, kvs, ns, rfl, hr, by rw [e1]; exact keyS_eq en, h64, fun ys p' hp hs hn => ?_⟩
          rw [sortS_of hp hs]
          exact q.at (ext_lay rl hn) (rl.lay hn) _ (rv_lst upd_same (rl.un hn) (rvs_strs _))
        · exact q.elim
      · exact q.elim
    · split at q
      · rename_i xs el
        split at q
        · rename_i ns en
          obtain ⟨a, vs, rfl, hs, e2⟩ := lst_run rl h2 el
          have := strs_run e2 en
          subst this
          refine cr_sortedA pins s σ H _ us Q I r ⟨a, ns, rfl, by rw [hK]; exact hs, fun ys p' hp hs hn => ?_⟩
          rw [sortS_of hp hs]
          exact q.at (ext_lay rl hn) (rl.lay hn) _ (rv_lst upd_same (rl.un hn) (rvs_strs _))
        · exact q.elim
      · exact q.elim
  · exact q.elim
theorem bt_sorted : bootBuiltins "sorted" = some (.builtin "sorted") := by decide +kernel
/-! s.startswith(t) -/
def isStr (d : D) (_ : Sto) : Bool := match d with
  | .str _ => true
  | _ => false
theorem ty_str : TyD X g "str" isStr := by
  intro pins σ H s m S d x v I r rv rx t
  cases d <;> simp [isStr] at t
  have := of_str rv
  subst this
  obtain ⟨tk, rfl⟩ := rx
  exact ⟨typeIs_str _ _ _, fun a e => nomatch e⟩
def stwD (x : D) (ds : List D) (S : Sto) : R D := match x, ds with
  | .str a, [.str b] => .ok (.bl (Txt.startswith a b)) S
  | _, _ => .bad
theorem md_stw : MtR X "str.startswith" (rM g E stwD) := by
  intro pins s σ H x xs v us Q I rx rxs h
  obtain ⟨m, S, d, ds, r, h1, h2, q⟩ := h
  unfold stwD at q
  split at q
  · rename_i a b
    have e1 := of_str h1
    obtain ⟨w, rfl, h3⟩ := rvs1 h2
    have e2 := of_str h3
    subst e1 e2
    exact mt_startswith pins s σ H _ _ v us Q I rx rxs ⟨a, b, rfl, rfl, q.ok r _ rv_bl⟩
  · exact q.elim
end
end VL

/-! len(set(t)), t a tuple of texts -/
namespace VL
open PySem PySem.Spec PyProof.Rows L2
def nubS (acc : List Str) : List Str → List Str
  | [] => acc
  | x :: r => if acc.any (· == x) = true then nubS acc r else nubS (acc ++ [x]) r
theorem nubS_len : ∀ (r acc : List Str), (nubS acc r).length ≤ acc.length + r.length
  | [], acc => by simp [nubS]
  | x :: r, acc => by
    unfold nubS
    split
    · have := nubS_len r acc; simp; omega
    · have := nubS_len r (acc ++ [x]); simp at *; omega
section
variable {prog : Program} {w : World} {A : Around} {R : Result → Shared → Prop} {I : Addr} {fp wr : List Addr} {G : Array GenState → Array GenState → Prop} {n : Nat} {P : Nat → Value → Prop} {St : Nat → Shared → Prop}
theorem set_loop (W : WalksS prog w A.in1 I fp wr G n P St) (S : Addr) (hSf : S ∉ fp) (xs : List Str) (hsz : xs.length = n) (hn1 : n < 1000)
    (hval : ∀ i v, P i v → ∃ t, v = .str (xs.getD i Str.empty) t) :
    ∀ (k i : Nat) (s : Shared) (acc : List Str), n - i = k → i ≤ n → acc.length ≤ i → St i s → s.heap.SetOf (PySem.strKind prog w) S (fun k' => acc.any (· == k')) acc.length →
      (∀ s', Moved (S :: wr) G s s' → s'.heap.SetOf (PySem.strKind prog w) S (fun k' => (nubS acc (xs.drop i)).any (· == k')) (nubS acc (xs.drop i)).length → R (.ok (.ret .none)) s') →
      codeAny (model prog w) A (.builtin "set.update.loop" ⟨[.ref S, .ref I], []⟩) R s := by
  have hSw : S ∉ wr := fun h => hSf (W.sub _ h)
  have hsub : ∀ b ∈ wr, b ∈ S :: wr := fun b hb => List.mem_cons_of_mem _ hb
  have mv : ∀ {s s' : Shared} {q : Str → Bool} {c : Nat}, Moved wr G s s' → s.heap.SetOf (PySem.strKind prog w) S q c → s'.heap.SetOf (PySem.strKind prog w) S q c := fun hm hS => by
    obtain ⟨o, es, ep, t, ho, rest⟩ := hS
    exact ⟨o, es, ep, t, hm.heap S _ hSw ho, rest⟩
  intro k
  induction k with
  | zero =>
    intro i s acc hk hi ha hst hS fin
    have hin : i = n := by omega
    subst hin
    rw [List.drop_eq_nil_of_le (by omega)] at fin
    refine codeAny_builtin PyProof.Rows.F.entry_set_update_loop ?_
    rw [Around.under_plainId PyProof.Rows.F.plain_set_update_loop _]
    refine wpAny_bind (m := pyNext (.ref I)) (W.done s _ _ hst fun s' hm => ?_)
    exact wpAny_pure (fin s' (hm.mono hsub) (mv hm hS))
  | succ k ih =>
    intro i s acc hk hi ha hst hS fin
    have hlt : i < n := by omega
    have hd : xs.drop i = xs.getD i Str.empty :: xs.drop (i + 1) := by
      have hi' : i < xs.length := by omega
      rw [List.drop_eq_getElem_cons hi']
      simp [List.getD, hi']
    rw [hd] at fin
    unfold nubS at fin
    refine codeAny_builtin PyProof.Rows.F.entry_set_update_loop ?_
    rw [Around.under_plainId PyProof.Rows.F.plain_set_update_loop _]
    refine wpAny_bind (m := pyNext (.ref I)) (W.item i s _ _ hlt hst fun v s' hP hst' hm => ?_)
    obtain ⟨t, rfl⟩ := hval i v hP
    have hS' := mv hm hS
    generalize hx : xs.getD i Str.empty = x at fin
    show wpAny _ A.in1 (holding [Value.str x t] (setAdd S (.str x t)) >>= _) _ _ s'
    refine wpAny_bind (wpAny_holding ?_)
    unfold setAdd
    refine wpAny_holding ?_
    refine wpAny_bind ((PySem.strKind prog w).pyHash (k := x) (strKind_is _ _ _ _) ?_)
    refine wpAny_setAddHashed_of (knd := PySem.strKind prog w) (s := { s' with toks := s'.toks + 1 }) (strKind_is _ _ _ _) rfl hS' (by unfold scanBound; omega) fun h' hsb hS2 => ?_
    refine wpAny_pure ⟨plainId_quiet PyProof.Rows.F.plain_set_update_loop _, ?_⟩
    by_cases hq : acc.any (· == x) = true
    · rw [if_pos hq] at fin
      have hs3 : h'.SetOf (PySem.strKind prog w) S (fun k' => acc.any (· == k')) acc.length := SetOf_congr hS2 (fun k' => by
        by_cases e : k' = x
        · subst e; simp [hq]
        · simp [e]) (by simp [hq])
      exact ih (i + 1) _ acc (by omega) hlt (by omega) (W.frame _ s' _ _ hst' (Nat.le_succ _) fun b hb o e => by rw [hsb.2 b (fun h : b = S => hSf (by rw [← h]; exact hb))]; exact e) hs3 fun s'' hm'' hS'' =>
        fin s'' (Moved.trans W.gtrans ((hm.mono hsub).then_heap (Nat.le_succ _) fun b o hb e => by rw [hsb.2 b (fun h : b = S => hb (by rw [h]; exact List.mem_cons_self))]; exact e) hm'') hS''
    · rw [if_neg hq] at fin
      have hs3 : h'.SetOf (PySem.strKind prog w) S (fun k' => (acc ++ [x]).any (· == k')) (acc ++ [x]).length := SetOf_congr hS2 (fun k' => by
        by_cases e : k' = x
        · subst e; simp
        · have hb : (x == k') = false := beq_eq_false_iff_ne.mpr fun h' => e h'.symm
          simp [hb, e]) (by simp [hq])
      exact ih (i + 1) _ (acc ++ [x]) (by omega) hlt (by simp; omega) (W.frame _ s' _ _ hst' (Nat.le_succ _) fun b hb o e => by rw [hsb.2 b (fun h : b = S => hSf (by rw [← h]; exact hb))]; exact e) hs3 fun s'' hm'' hS'' =>
        fin s'' (Moved.trans W.gtrans ((hm.mono hsub).then_heap (Nat.le_succ _) fun b o hb e => by rw [hsb.2 b (fun h : b = S => hb (by rw [h]; exact List.mem_cons_self))]; exact e) hm'') hS''
end
theorem set_init {prog : Program} {w : World} {A : Around} {E : Value → Shared → Prop} {s : Shared} {l : Addr} {items : Array Value} {xs : List Str} {Q : Value → Shared → Prop} {led : Bool}
    (hh : A.handled = none) (hl : s.heap.IsTuple l items) (hi : PyProof.Rows.StrsAre items.toList xs) (hn1 : xs.length < 1000) (hS : (s.heap.push { cls := .type "set", dict := none, data := .set #[] 0 (.fresh 0 0 led) }).get? s.heap.objs.size = some { cls := .type "set", dict := none, data := .set #[] 0 (.fresh 0 0 led) })
    (h : ∀ (h' : Heap) (tk : Nat), h'.SetOf (PySem.strKind prog w) s.heap.objs.size (fun k' => (nubS [] xs).any (· == k')) (nubS [] xs).length →
      (∀ b o, s.heap.get? b = some o → h'.get? b = some o) → Q (.ref s.heap.objs.size) { s with heap := h', toks := tk }) :
    wpAny (model prog w) A.in1.in1 (Builtin.«set.__init__» ⟨[.ref s.heap.objs.size, .ref l], []⟩)
      (fun fin s' => match fin with | .done f => wants (fun r s₂ => r = .none ∧ Q (.ref s.heap.objs.size) s₂) E (.ok f) s' | .again c' => c'.quiet = true ∧ codeAny (model prog w) A.in1 c' (wants (fun r s₂ => r = .none ∧ Q (.ref s.heap.objs.size) s₂) E) s')
      (fun e s' => wants (fun r s₂ => r = .none ∧ Q (.ref s.heap.objs.size) s₂) E (.error e) s') { s with heap := s.heap.push { cls := .type "set", dict := none, data := .set #[] 0 (.fresh 0 0 led) } } := by
  obtain ⟨ol, hol, hcl, nl, hdl⟩ := hl
  obtain ⟨ocls, odict, odata, oslots⟩ := ol
  simp only at hcl hdl
  subst hcl; subst hdl
  have hol' := Heap.get?_push_of_some { cls := .type "set", dict := none, data := .set #[] 0 (.fresh 0 0 led) } hol
  have hsls := PySem.F.sub_tuple_set
  have hslf := PySem.F.sub_tuple_frozenset
  have hne : (Value.type "tuple" == Value.type "dict") = false := by decide
  have hl1 : (s.heap.push { cls := .type "set", dict := none, data := .set #[] 0 (.fresh 0 0 led) }).IsTuple l items := ⟨_, hol', rfl, nl, rfl⟩
  have hlS : l < s.heap.objs.size := Heap.lt_size hol
  unfold Builtin.«set.__init__» noKeywords Builtin.Frozenset.updateFrom
  generalize hPI : pyIter = PI
  wp_walk
  subst hPI
  refine wpAny_pyIter_tuple hl1 (wpAny_bind (wpAny_runValue ?_))
  have hh3 : A.in1.in1.in1.handled = none := by simp [hh]
  have hsz : xs.length = items.size := by rw [← StrsAre.len_eq hi, Array.length_toList]
  refine set_loop ((Walks.tuple hh3 _ l (by rw [Heap.size_push]; exact Nat.ne_of_lt (Nat.lt_succ_of_lt hlS)) items).toS) s.heap.objs.size (fun z => ?_) xs hsz (by omega)
    (fun i v hv => SS.strs_at hi i v (by rw [Array.getElem?_toList]; exact hv)) (items.size - 0) 0 _ [] (by omega) (Nat.zero_le _) (Nat.le_refl _) ⟨⟨_, Heap.get?_push_size _ rfl, rfl, rfl⟩, (hl1.push _)⟩ ?_ ?_
  · rw [Heap.size_push] at z
    simp only [List.mem_cons, List.not_mem_nil, or_false, Addr] at z hlS
    omega
  · exact PyProof.Rows.SetOf_congr ((PyProof.Rows.setObjOf_fresh (knd := PySem.strKind prog w) led).setOf (Heap.get?_push_of_some _ hS) (by unfold scanBound; omega)) (fun _ => rfl) rfl
  · intro s' hm hS'
    rw [List.drop_zero] at hS'
    obtain ⟨h', g', d', tk', os'⟩ := s'
    have eg : g' = s.gens := hm.gens
    have ed : d' = s.drawn := hm.drawn
    have eo : os' = s.os := hm.os
    subst eg; subst ed; subst eo
    refine wpAny_pure (wpAny_pure ⟨rfl, h h' tk' hS' fun b o e => ?_⟩)
    have hb := Heap.lt_size e
    refine hm.heap b o (fun z => ?_) (Heap.get?_push_of_some _ (Heap.get?_push_of_some _ e))
    rw [Heap.size_push] at z
    simp only [List.mem_cons, List.not_mem_nil, or_false, Addr] at z hb
    omega
theorem call_set_tupS {prog : Program} {w : World} {A : Around} {E : Value → Shared → Prop} {s : Shared} {l : Addr} {items : Array Value} {xs : List Str} {Q : Value → Shared → Prop}
    (hh : A.handled = none) (hl : s.heap.IsTuple l items) (hi : PyProof.Rows.StrsAre items.toList xs) (hn1 : xs.length < 1000)
    (h : ∀ (h' : Heap) (tk : Nat), h'.SetOf (PySem.strKind prog w) s.heap.objs.size (fun k' => (nubS [] xs).any (· == k')) (nubS [] xs).length →
      (∀ b o, s.heap.get? b = some o → h'.get? b = some o) → Q (.ref s.heap.objs.size) { s with heap := h', toks := tk }) :
    wpAny (model prog w) A (call (.type "set") [.ref l]) Q E s := by
  obtain ⟨cc, tl, hmro⟩ := PySem.F.called_set.mro
  have hmade := PySem.F.called_set.made
  have hsub := PySem.F.called_set.sub
  have n1 := PySem.F.called_set.notType
  have n2 := PySem.F.called_set.canCreate
  have hct := PySem.F.typeCall_set_1 (.ref l)
  refine wpAny_call (codeAny_of_tree (show wpAny _ _ (callAny (.type "set") _) _ _ _ from wpAny_pure ⟨Code.quiet_builtin _ (by decide +kernel), codeAny_builtin PySem.F.entry_type_call ?_⟩))
  rw [Around.under_plain (weight_type_call_type "set" [.ref l] []) rfl]
  repeat (any_goals (first | assumption | wp_step))
  refine codeAny_mono (code_set_new_1 (.ref l) (E := E) (Q₁ := fun obj s₁ => ∃ led : Bool, obj = .ref s.heap.objs.size ∧ s₁ = { s with heap := s.heap.push { cls := .type "set", dict := none, data := .set #[] 0 (.fresh 0 0 led) } }) fun led => ⟨led, rfl, rfl⟩) fun rr s₁ hr => ?_
  rcases rr with er | fl
  · exact hr
  cases fl with
  | ret obj =>
    obtain ⟨led, rfl, rfl⟩ := hr
    have hS : (s.heap.push { cls := .type "set", dict := none, data := .set #[] 0 (.fresh 0 0 led) }).get? s.heap.objs.size = some { cls := .type "set", dict := none, data := .set #[] 0 (.fresh 0 0 led) } := Heap.get?_push_size _ rfl
    have hT : Shared.TypeIs { s with heap := s.heap.push { cls := .type "set", dict := none, data := .set #[] 0 (.fresh 0 0 led) } } (.ref s.heap.objs.size) "set" := ⟨_, hS, rfl⟩
    have hli := PySem.F.called_set.init.lookup
    have hbi := PySem.F.called_set.init.bind (.ref s.heap.objs.size)
    repeat (any_goals (first | assumption | wp_step))
    refine codeAny_mono (codeAny_call_builtin (R := wants (fun r s₂ => r = .none ∧ Q (.ref s.heap.objs.size) s₂) E) PySem.F.called_set.init.plain PySem.F.entry_set_init (check_set_init_1 hT (set_init hh hl hi hn1 hS fun h' tk hS' hk => h h' tk hS' hk))) fun r₂ s₂ hr₂ => ?_
    rcases r₂ with er | fl₂
    · exact hr₂
    cases fl₂ with
    | ret r =>
      obtain ⟨rfl, hq⟩ := hr₂
      repeat (any_goals (first | assumption | wp_step))
    | _ => exact hr₂.elim
  | _ => exact hr.elim
section
variable {X : Cx} {g : G} {E : XD}
def eLS1 (d : D) (S1 : Sto) : R D := match d with
  | .tup ds => match strs? ds with
    | some ns => if ns.length < 1000 then .ok (.int (nubS [] ns).length) S1 else .bad
    | none => .bad
  | _ => .bad
def eLenSet (ea : EF) : EF := fun L S => (ea L S).bind fun d S1 => eLS1 d S1
theorem de_lenSet {a : Expr} {ea : EF} {p p2 q pos : Pos} (hK : X.K = g.K) (hc : X.calm = true) (hg : Gl X "len") (hm : X.mg "len" = none) (hg2 : Gl X "set") (hm2 : X.mg "set" = none) (ha : PE X a (tD g E ea))
    (na : starEach [a] X.env = (false, eval a X.env) :: starEach [] X.env := by rfl) : PE X (.Call (.Name "len" p) [.Call (.Name "set" p2) [a] [] q] [] pos) (tD g E (eLenSet ea)) := by
  refine ⟨fun pins s σ H Q I h => ?_⟩
  obtain ⟨m, S, L, r, l, qq⟩ := h
  refine Call_ (ld_blt I hg hm boot_len ?_)
  refine PyProof.Rows.callWith_builtin1 (PyProof.Rows.args_cons ?_ rfl) rfl rfl
  refine Call_ (ld_blt I hg2 hm2 boot_set ?_)
  refine PyProof.Rows.callWith_type1 (PyProof.Rows.args_cons (thn (ha.run pins s σ H (fun v H1 => ∃ m1 S1 d, Rel g m1 S1 H1 ∧ RV g m1 H1 d v ∧ Aft g E m1 H1 (eLS1 d S1) (vQ g Q)) I ⟨m, S, L, r, l, (Aft.bind qq).mono (Q' := fun d m1 S1 H1 => ∀ v, RV g m1 H1 d v → ∃ m1 S1 d, Rel g m1 S1 H1 ∧ RV g m1 H1 d v ∧ Aft g E m1 H1 (eLS1 d S1) (vQ g Q)) fun d m1 S1 H1 e1 r1 q1 v rv => ⟨m1, S1, d, r1, rv, q1⟩⟩) fun v s1 ⟨x, H1, I1, r1, q1⟩ => PyProof.Rows.args_nil ?_) na) na rfl
  obtain ⟨m1, S1, d, rr, rv, q1⟩ := q1
  unfold eLS1 at q1
  split at q1
  · rename_i ds
    split at q1
    · rename_i ns en
      split at q1
      · rename_i hlt
        obtain ⟨ad, vs, rfl, s1', v1⟩ := of_tup rv
        have := strs_run v1 en
        subst this
        cases r1
        rw [← hK] at s1'
        obtain ⟨its, rv', pl, hz⟩ := I1.tuple s1'
        refine call_set_tupS (I1.ok.hd hc) pl (by simpa using strsAre_of rv') hlt fun h' tk hS hk => PyProof.Rows.args_nil ?_
        obtain ⟨o, es, ep, t, ho, hex, hd, _, _, _, hf, hn⟩ := hS
        have I2 : Inv X pins σ H1 { s1 with heap := h', toks := tk } := I1.kept hk
        have hb := nubS_len ns []
        rw [List.length_nil, Nat.zero_add] at hb
        refine call_len_set ho hex hd hf (by rw [hn]; omega) ⟨.int (nubS [] ns).length, H1, I2.tok _, ⟨_, by rw [hn]⟩, q1.ok rr _ rv_int⟩
      · exact q1.elim
    · exact q1.elim
  · exact q1.elim
end
end VL

/-! calls with defaults and keywords, attributes as targets -/
namespace VL
open PySem PySem.Spec PyProof.Rows L2
section
variable {X : Cx} {g : G} {E : XD} {k n : Nat} {f : Addr} {fd : FuncData} {ps : List Str} {Fn : List D → Sto → R D} {x : Str} {p pos kpos : Pos} {e : Expr} {es : List Expr} {ls lk : Lc → Sto → R (List D)} {ea : EF} {kws : List Keyword} {nm : Option Str}
/-- f(e, ..), the defaults dd behind -/
def eCallD (F : List D → Sto → R D) (dd : List D) (a : Lc → Sto → R (List D)) : EF := fun L S => (a L S).bind fun xs S1 => F (xs ++ dd) S1
theorem de_callD {dd : List D} {dvs : List V} {dus : List Value} (F : FnOk X.prog X.w X.K X.mg X.base (L2.CX X.prog X.w) k f fd ps (spD g n Fn)) (hr : Room k X.A) (hg : Gl X x) (hm : X.mg x = some (.ref f)) (hk : PySem.W.keepIn X.K (.ref f) = true) (hb : Binds X.K fd ps dus) (hv : Vals dvs dus) (hd : ∀ m H, RVs g m H dd dvs) (hx : PX X g E)
    (ha : PA X (e :: es) (tL g E ls)) (hdb : (x == ("__debug__" : Str)) = false := by decide) (he : starEach (e :: es) X.env = (false, eval e X.env) :: starEach es X.env := by rfl) (hpl : (backTo pos (starEach es X.env)).any (·.1) = false := by rfl) :
    PE X (.Call (.Name x p) (e :: es) [] pos) (tD g E (eCallD (ari n Fn) dd ls)) := by
  obtain ⟨E0, hp, hE⟩ := hx
  refine (pe_call F hr hg hm hk hb hv hp ha hdb he hpl).imp fun σ H Q h => ?_
  obtain ⟨m, S, L, r, l, q⟩ := h
  refine ⟨m, S, L, r, l, (Aft.bind q).mono fun ds m1 S1 H1 e1 r1 q1 vs rvs => ?_⟩
  exact sp_call hE r1 (rvs.append (hd m1 H1)) q1
theorem dk_nil : PK X [] (tL g E aNil) := ⟨fun pos pins s σ H Q I h => pk_nil.run pos pins s σ H Q I (by
  obtain ⟨m, S, L, r, l, q⟩ := h
  exact q.ok r [] .nil)⟩
theorem dk_cons (ha : PE X e (tD g E ea)) (hr : PK X kws (tL g E lk)) : PK X (⟨nm, e, kpos⟩ :: kws) (tL g E (aCons ea lk)) := ⟨fun pos pins s σ H Q I h => (pk_cons ha hr).run pos pins s σ H Q I (by
  obtain ⟨m, S, L, r, l, q⟩ := h
  refine ⟨m, S, L, r, l, (Aft.bind q).mono fun d m1 S1 H1 e1 r1 q1 v rv => ?_⟩
  exact ⟨m1, S1, L, r1, l.ext e1, (Aft.bind q1).mono fun ds m2 S2 H2 e2 r2 q2 vs rvs => q2.ok r2 _ (.cons (rv.ext e2) rvs)⟩)⟩
/-- f(e, .., k = v, ..): the keywords' values stand behind -/
def eCallK (n1 n2 : Nat) (F : List D → Sto → R D) (a kw : Lc → Sto → R (List D)) : EF := fun L S => (a L S).bind fun xs S1 => (kw L S1).bind fun zs S2 => if xs.length = n1 ∧ zs.length = n2 then F (xs ++ zs) S2 else .bad
theorem de_callK {ks : List Str} {gg : List Value → List Value → List Value} {n1 : Nat} (F : FnOk X.prog X.w X.K X.mg X.base (L2.CX X.prog X.w) k f fd ps (spD g n Fn)) (hr : Room k X.A) (hg : Gl X x) (hm : X.mg x = some (.ref f)) (hk : PySem.W.keepIn X.K (.ref f) = true) (hb : KBn X.K fd ps n1 ks gg (fun vs zs => vs ++ zs)) (hx : PX X g E)
    (ha : PA X (e :: es) (tL g E ls)) (hkw : PK X kws (tL g E lk)) (hall : (backToKw pos (keywordEach kws X.env)).all (·.1.isSome) = true := by rfl) (hks : (backToKw pos (keywordEach kws X.env)).filterMap (·.1) = ks := by rfl)
    (hdb : (x == ("__debug__" : Str)) = false := by decide) (he : starEach (e :: es) X.env = (false, eval e X.env) :: starEach es X.env := by rfl)
    (hpl : ((backTo pos (starEach (e :: es) X.env)).any (·.1) || (backToKw pos (keywordEach kws X.env)).any (·.1.isNone)) = false := by rfl) :
    PE X (.Call (.Name x p) (e :: es) kws pos) (tD g E (eCallK n1 ks.length (ari n Fn) ls lk)) := by
  obtain ⟨E0, hp, hE⟩ := hx
  refine (pe_callN F hr hg hm hk hb hp ha hkw hall hks hdb he hpl).imp fun σ H Q h => ?_
  obtain ⟨m, S, L, r, l, q⟩ := h
  refine ⟨m, S, L, r, l, (Aft.bind q).mono fun ds m1 S1 H1 e1 r1 q1 vs rvs => ?_⟩
  refine ⟨m1, S1, L, r1, l.ext e1, (Aft.bind q1).mono fun zs m2 S2 H2 e2 r2 q2 ws rws => ?_⟩
  split at q2
  · rename_i hz
    exact ⟨by rw [rvs.length]; exact hz.1, by rw [rws.length]; exact hz.2, sp_call hE r2 ((rvs.ext e2).append rws) q2⟩
  · exact q2.elim
/-! o.f as a target -/
def gAttr (K : PySem.W.Frag) (f : Str) (to : TE) : TG := fun v σ H Q => to σ H fun x H1 => ∃ a C dx fs, x = .ref a ∧ H1 a = some (.ins C dx fs) ∧ Cls K C ∧ NoAttr K C f ∧ fs.length < 1000 ∧ Q σ (upd H1 a (.ins C dx (putF f v fs)))
theorem pg_attr {o : Expr} {f : Str} {to : TE} (ho : PE X o to) : PG X (.Attribute o f pos) (gAttr X.K f to) := by
  refine ⟨fun pins s σ H v u Q I r h => ?_⟩
  show wpAny _ _ (do
    let ov ← holding [u] (eval o X.env)
    standAt pos.atName
    holding [u, ov] (setAttr ov f u)
    release [u, ov] []) _ _ _
  refine wpAny_bind (wpAny_holding (thn (ho.run pins s σ H _ I h) fun ov s1 ⟨x, H1, I1, r1, q1⟩ => ?_))
  obtain ⟨a, C, dx, fs, rfl, ea, c, n, hl, q⟩ := q1
  obtain rfl : ov = Value.ref a := r1
  refine wpAny_bind (wpAny_standAt (wpAny_bind (wpAny_holding (setattr_ok I1 ea c n hl r fun s3 I3 => ?_))))
  exact wpAny_release ⟨σ, _, I3, q⟩
def gFld (c : String) (f : Str) (eo : EF) : D → Lc → Sto → R Lc := fun d L S => (eo L S).bind fun o S1 => (setF c f o d S1).bind fun _ S2 => .ok L S2
theorem dg_fld {P : L2.St → L2.St → Prop} {mg : Str → Option Value} {c : String} {cx : Str} {fl : List Str} {o : Expr} {f : Str} {eo : EF} (T : CT g.K g.cl mg c cx fl) (hK : X.K = g.K) (hP : ∀ σ, P σ σ) (hf : f ∈ fl) (ho : PE X o (tD g E eo)) : PG X (.Attribute o f pos) (tG g E P (gFld c f eo)) := by
  refine (pg_attr ho).imp fun v σ H Q h => ?_
  obtain ⟨m, S, L, d, r, l, rv, q⟩ := h
  refine ⟨m, S, L, r, l, (Aft.bind q).mono fun d1 m1 S1 H1 e1 r1 q1 v1 rv1 => ?_⟩
  obtain ⟨a, dx, fs, S', rfl, hH, hl, ex, rr, q2⟩ := setF_run (P := fun _ _ => True) T r1 rv1 (rv.ext e1) q1
  exact ⟨a, T.C, dx, fs, rfl, hH, by rw [hK]; exact T.cls, by rw [hK]; exact T.noat f hf, hl, q2.ok rr σ (l.ext (e1.trans ex)) (hP σ)⟩
end
/-! facts of a def with keyword-only parameters that all have None as default -/
structure FK (K : PySem.W.Frag) (mg : Str → Option Value) (x : Str) (st : Stmt) (ps : List Str) (n : Nat) (ks : List Str) where
  f : Addr
  fd : FuncData
  fn : FunD K x x (defArgs st) (defBody st) (defScope st) [] (ks.map fun k => (k, V.non)) f fd
  dus : List Value
  bv : Vals (ks.map fun _ => V.non) dus
  bd : Binds K fd ps dus
  gg : List Value → List Value → List Value
  kb : KBn K fd ps n ks gg (fun vs zs => vs ++ zs)
  mgx : mg x = some (.ref f)
theorem rvs_nons {g : G} {m : Mp} {H : Hp} : ∀ (ks : List Str), RVs g m H (ks.map fun _ => D.non) (ks.map fun _ => V.non)
  | [] => .nil
  | _ :: ks => .cons rv_non (rvs_nons ks)
end VL

/-! {k: v for ..}, the keys tuples -/
namespace VL
open PySem PySem.Spec PyProof.Rows L2
theorem d_putT {X : Cx} {pins : List (Addr × Obj)} {σ : L2.St} {H : Hp} {s : Shared} {E : Value → Shared → Prop} {D b : Addr} {kvs : List (List Key × V)} {k : List Key} {v : V} {r : Value} {Q : Unit → Shared → Prop} (hu : X.A.units + 1 < cLine) (I : Inv X pins σ H s) (e : H D = some (.dT kvs)) (eb : H b = some (.tup (k.map kV))) (l : kvs.length < sizeLine)
    (rv : RelV v r) (h : ∀ s', Inv X pins σ (upd H D (.dT (putK kvs k v))) s' → Q () s') : wpAny (model X.prog X.w) X.A (dictSet D (.ref b) r) Q E s := by
  obtain ⟨z, hd, xs, rel, dd⟩ := dt_of I.hok e
  have hz : xs.length ≤ sizeLine := by rw [← Paired.length rel]; exact z
  have hl : (putK kvs k v).length ≤ sizeLine := by have := length_putK kvs k v; omega
  refine wpAny_dictSet_heap (hsz := hz) (show X.A.units < cLine by omega) (key_of I.hok eb) dd fun h' dd' hs => h _ ?_
  obtain ⟨q, es, ep, hq, h2, h3, h4, _, h5⟩ := dd'
  refine d_write I (by rw [e]; exact True.intro) hs ⟨q, hq⟩ ⟨hl, hd, _, (rel.put k eb rv).keeps fun c ys ec => ?_, q, es, ep, hq, h2, h3, h4, h5⟩
  rw [upd_ne (ne_of ec e (fun z => nomatch z))]
  exact ec
def tDcT (wi : TI) (g : TG) (tt : TT) (tk tv : TE) (vs : List Nat) : TE := fun σ H Q => wi σ H fun J H1 => ∀ D, H1 D = none → ∃ W : Nat → Nat → Hp → Prop, (∃ m, W 0 m (upd H1 D (.dT []))) ∧ ∀ i m H, W i m H →
  (J.stop i H ∧ Q (.ref D) H) ∨ (J.go i H ∧ ∃ Nx : Hp → Prop, (∀ H', Nx H' → ∃ m', m' < m ∧ W (i + 1) m' H') ∧ ∀ x H', J.yld i H x H' → g x (wipe σ vs) H' fun σ2 H2 => wipe σ2 vs = wipe σ vs ∧ tt σ2 H2 fun b H3 =>
    if b = true then tk σ2 H3 fun y H4 => tv σ2 H4 fun z H5 => ∃ kvs k b, y = .ref b ∧ H5 b = some (.tup (k.map kV)) ∧ H5 D = some (.dT kvs) ∧ kvs.length < sizeLine ∧ Nx (upd H5 D (.dT (putK kvs k z))) else Nx H3)
section
variable {X : Cx}
theorem pe_dcT {kx vx tg iter : Expr} {ifs : List Expr} {scope : Scope} {own : List (Str × Nat)} {pos : Pos} {wi : TI} {g : TG} {tt : TT} {tk tv : TE} (hu : X.A.units + 1 < cLine) (hc : X.calm = true) (hN : X.N.Nodup) (hi : PI X tg iter wi) (ok : BlkOk X.N X.env.scope scope own)
    (hg : ∀ (s : Shared) (H : Hp) (C : Addr) (cl : List (Str × Addr)) (fp : List Addr), PG (X.blk s H scope (compEnvC scope cl C X.env) fp) tg g) (ht : ∀ (s : Shared) (H : Hp) (C : Addr) (cl : List (Str × Addr)) (fp : List Addr), PTs (X.blk s H scope (compEnvC scope cl C X.env) fp) ifs tt)
    (hk : ∀ (s : Shared) (H : Hp) (C : Addr) (cl : List (Str × Addr)) (fp : List Addr), PE (X.blk s H scope (compEnvC scope cl C X.env) fp) kx tk)
    (he : ∀ (s : Shared) (H : Hp) (C : Addr) (cl : List (Str × Addr)) (fp : List Addr), PE (X.blk s H scope (compEnvC scope cl C X.env) fp) vx tv) (hs : ∀ x, foldedSetIterable iter X.env x = pure x := by intro _; rfl) :
    PE X (.DictComp kx vx [⟨tg, iter, ifs, 0⟩] scope pos) (tDcT wi g tt tk tv (own.map (·.2))) := by
  refine ⟨fun pins s σ H Q I h => ?_⟩
  rw [arm_eval_DictComp]
  have hfree : ∀ y ∈ scope.names, y.2 = .free → ∃ c, X.env.cells.lookup y.1 = some c := fun y hy e => by
    rcases ok.free y hy e with k | k
    · exact I.ok.has _ (.inl k)
    · exact I.ok.has _ (.inr k)
  refine wpAny_comprehension_free (use := none) rfl hs (closure_ok hfree) ok.kind (fun y hy e => by rw [ok.uniq y hy, e])
    (thn (hi.run pins s σ H _ I h) fun xv s1 hx => thn hx fun itv s2 h2 => ?_)
  obtain ⟨it, fp, tn, J, H2, e, I2, T, st2, f2, q⟩ := h2
  subst e
  refine wpAny_newObj_type (newEnv_comp ?_)
  generalize hD : s2.heap.objs.size = D
  have hDn : H2 D = none := I2.hok.fresh (Nat.le_of_eq hD)
  obtain ⟨W, ⟨m0, w0⟩, turn⟩ := q D hDn
  generalize hs3 : ({ s2 with heap := s2.heap.push { cls := .type "dict", data := .dict #[] } } : Shared) = s3
  have I3 : Inv X pins σ (upd H2 D (.dT [])) s3 := by
    rw [← hs3]
    refine I2.laid (t' := s2.toks) (fun b o e => Heap.get?_push_of_some _ e) (Nat.le_of_eq hD) ?_
    rw [← hD]
    exact dt_empty s2.heap I2.big
  have h3 : s3.heap = s2.heap.push { cls := .type "dict", data := .dict #[] } := by rw [← hs3]
  have sz : ∀ b ∈ fp, b < s2.heap.objs.size := fun b hb => by
    obtain ⟨o, e, _⟩ := T.obj _ _ st2 b hb
    exact Heap.lt_size e
  have f3 : ∀ b ∈ fp, FpOk X pins (upd H2 D (.dT [])) b ∧ b < s3.heap.objs.size := fun b hb => by
    have hlt := sz b hb
    refine ⟨⟨?_, (f2 b hb).2⟩, by rw [h3, Heap.size_push]; exact Nat.lt_succ_of_lt hlt⟩
    rw [upd_ne (by rw [← hD]; exact Nat.ne_of_lt hlt)]
    exact (f2 b hb).1
  have st3 : tn 0 s3.heap := T.keep _ _ _ st2 fun b _ o e => by rw [h3]; exact Heap.get?_push_of_some _ e
  have I4 := block_start I3 ok hN f3
  have nfp : ∀ b ∈ fp, (upd H2 D (.dT [])) b = none := fun b hb => (f3 b hb).1.1
  generalize hH3 : upd H2 D (.dT []) = H3 at I3 I4 w0 nfp f3
  generalize hcl : cellsFrom (s3.heap.objs.size + 1) scope.names (cloFrom X.env.cells scope.names []) = cl at I4 ⊢
  have pg := hg s3 H3 s3.heap.objs.size cl fp
  have pt := ht s3 H3 s3.heap.objs.size cl fp
  have pk := hk s3 H3 s3.heap.objs.size cl fp
  have pe := he s3 H3 s3.heap.objs.size cl fp
  show codeAny _ _ (.compStart (.DictComp kx vx [⟨tg, iter, ifs, 0⟩] scope pos) 0 (.ref it) (.ref D) (compEnvC scope cl s3.heap.objs.size X.env)) (compPost (model X.prog X.w) X.A X.xe none (EP X pins σ Q) (.ref D) s3.heap.objs.size) { s3 with heap := pushCells (s3.heap.push { cls := .type "dict", data := .dict #[] }) scope.names }
  generalize hce : compEnvC scope cl s3.heap.objs.size X.env = ce at I4 pg pt pk pe ⊢
  have cL : ce.locals = s3.heap.objs.size := by subst hce; rfl
  generalize hs4 : ({ s3 with heap := pushCells (s3.heap.push { cls := .type "dict", data := .dict #[] }) scope.names } : Shared) = s4 at I4 ⊢
  have st4 : tn 0 s4.heap := T.keep _ _ _ st3 fun b _ o e => by rw [← hs4]; exact pushCells_keeps _ _ _ _ (Heap.get?_push_of_some _ e)
  have stat : ∀ {σ' : L2.St} {H' : Hp} {s' : Shared}, Inv (X.blk s3 H3 scope ce fp) [] σ' H' s' → (∀ b ∈ fp, H' b = none) → ∀ b ∈ fp, FpOk (X.blk s3 H3 scope ce fp) [] H' b := fun {σ' H' s'} I' hn b hb =>
    ⟨hn b hb, (I'.ok.exf b hb).1, I'.ok.exfs b hb, .inl hb, fun x c e => (I'.ok.exf b hb).2 x c e, fun p hp => absurd (show p ∈ ([] : List (Addr × Obj)) ++ [] from hp) (by simp)⟩
  have loop : codeAny (model X.prog X.w) X.A (.compLoop (.DictComp kx vx [⟨tg, iter, ifs, 0⟩] scope pos) 0 (.ref it) (.ref D) ce) (compPost (model X.prog X.w) X.A X.xe none (EP X pins σ Q) (.ref D) s3.heap.objs.size) s4 := by
    refine compLoop_anyD (fun n s' => ∃ i H', Inv (X.blk s3 H3 scope ce fp) [] (wipe σ (own.map (·.2))) H' s' ∧ tn i s'.heap ∧ (∀ b ∈ fp, H' b = none) ∧ W i n H') ?_ m0 ⟨0, H3, I4, st4, nfp, w0⟩
    rintro n s5 ⟨i, H5, I5, st5, n5, w5⟩
    rcases turn i n H5 w5 with ⟨stop, qq⟩ | ⟨go, Nx, hNx, step⟩
    · refine thnF (T.done (X.blk s3 H3 scope ce fp) rfl rfl rfl hc i [] s5 _ H5 (fun _ _ => False) I5 (stat I5 n5) st5 stop) fun r s6 ⟨hr, I6⟩ => ?_
      subst hr
      have I7 : Inv X pins σ H5 s6 := I3.call' (ch := fp) I6.os I6.base I6.hok I6.bare fun b hb => ⟨(f3 b hb).1.2.2.2.1, (f3 b hb).1.2.1, (f3 b hb).1.2.2.2.2.1, (f3 b hb).1.2.2.2.2.2⟩
      have nC : H5 s3.heap.objs.size = none := by
        have z : H5 ce.locals = none := I6.free
        rwa [cL] at z
      obtain ⟨m, hn, _⟩ := I6.loc
      replace hn : s6.heap.Ns ce.locals m := hn
      rw [cL] at hn
      obtain ⟨g0, g1, g2, g3, g4, g5⟩ := I3.fpOk (Nat.le_refl _) nC
      exact ⟨m, hn, fun h'' sb => ⟨.ref D, H5, I7.turned (t' := s6.toks) (fun b o hb e => (sb.2 b hb).trans e) g0 g1 g3 g4 g5, rfl, qq⟩⟩
    · refine thnF (T.item (X.blk s3 H3 scope ce fp) rfl rfl rfl hc i [] s5 _ H5 (fun _ _ => False) I5 (stat I5 n5) st5 go) fun r s6 ⟨u, hr, h6⟩ => ?_
      subst hr
      refine thnF h6 fun _ s7 ⟨x, H7, I7, r7, y7, st7, n7⟩ => ?_
      refine thnF (pg.run _ s7 _ H7 x u _ (I7.pinned (stat I7 n7) (T.obj _ _ st7)) r7 (step x H7 y7)) fun _ s8 ⟨σ8, H8, I8, hw8, q8⟩ => ?_
      refine thnF (pt.run _ s8 σ8 H8 _ I8 q8) fun b s9 ⟨H9, I9, q9⟩ => ?_
      have fin : ∀ {s' : Shared} {H' : Hp}, Inv (X.blk s3 H3 scope ce fp) ([] ++ pinsAt fp s7.heap) σ8 H' s' → Nx H' → ∃ m, m < n ∧ ∃ i H', Inv (X.blk s3 H3 scope ce fp) [] (wipe σ (own.map (·.2))) H' s' ∧ tn i s'.heap ∧ (∀ b ∈ fp, H' b = none) ∧ W i m H' := fun {s' H'} I' nx => by
        obtain ⟨m', hm, w'⟩ := hNx H' nx
        have pin' : ∀ b ∈ fp, ∀ o, s7.heap.get? b = some o → s'.heap.get? b = some o ∧ H' b = none := fun b hb o e =>
          let z := I'.pin (b, o) (List.mem_append_right _ (List.mem_append_right _ (mem_pinsAt hb e)))
          ⟨z.1, z.2.1⟩
        refine ⟨m', hm, i + 1, H', (I'.unpinned (pins := [])).weak (by rw [← hw8, wipe_length]) (fun j v e => ?_), T.keep _ _ _ st7 fun b hb o e => (pin' b hb o e).1, fun b hb => ?_, w'⟩
        · rw [← hw8] at e
          exact (wipe_some e).1
        · obtain ⟨o, e, _⟩ := T.obj _ _ st7 b hb
          exact (pin' b hb o e).2
      cases b with
      | false => exact fin I9 (by simpa using q9)
      | true =>
        simp only [if_true] at q9 ⊢
        refine thnF (pk.run _ s9 σ8 H9 _ I9 q9) fun z s10 ⟨yk, H10, I10, r10, q10⟩ => ?_
        refine thnF (pe.run _ s10 σ8 H10 _ I10 q10) fun z2 s11 ⟨yv, H11, I11, r11, kvs, k, b, ek, hb11, hD11, hz11, nx⟩ => ?_
        subst ek
        cases (show z = Value.ref b from r10)
        exact d_putT (X := X.blk s3 H3 scope ce fp) hu I11 hD11 hb11 hz11 r11 fun s12 I12 => fin I12 nx
  exact codeAny_compStart_dict loop (T.self X.A 0 _ _ _ st4 loop)
end
end VL

/-! dicts whose keys are tuples -/
namespace VL
open PySem PySem.Spec PyProof.Rows L2
def hasT (ks : List (List Key)) (k : List Key) : Bool := ks.any fun k' => decide (k' = k)
def putKT (ks : List (List Key)) (k : List Key) : List (List Key) := if hasT ks k = true then ks else ks ++ [k]
def putVT (ks : List (List Key)) (ds : List D) (k : List Key) (d : D) : List D := if hasT ks k = true then List.zipWith (fun k' d' => if k' = k then d else d') ks ds else ds ++ [d]
section
variable {g : G} {m : Mp} {H : Hp}
theorem zipT_run {k : List Key} {d : D} {v : V} (hv : RV g m H d v) : ∀ {kvs : List (List Key × V)} {ds : List D}, RVs g m H ds (kvs.map (·.2)) →
    (kvs.map fun kv => if kv.1 = k then (kv.1, v) else kv).map (·.1) = kvs.map (·.1) ∧ RVs g m H (List.zipWith (fun k' d' => if k' = k then d else d') (kvs.map (·.1)) ds) ((kvs.map fun kv => if kv.1 = k then (kv.1, v) else kv).map (·.2))
  | [], ds, h => by cases ds <;> exact ⟨rfl, .nil⟩
  | (k', w) :: kvs, [], h => by have := h.nil_iff; simp at this
  | (k', w) :: kvs, d' :: ds, h => by
    obtain ⟨v', r, e, h1, h2⟩ := h.cons_iff
    simp only [List.map_cons, List.cons.injEq] at e
    obtain ⟨rfl, rfl⟩ := e
    obtain ⟨i1, i2⟩ := zipT_run hv h2
    simp only [List.map_cons, List.zipWith_cons_cons]
    by_cases e : k' = k
    · rw [if_pos e, if_pos e]
      exact ⟨by rw [i1], .cons hv i2⟩
    · rw [if_neg e, if_neg e]
      exact ⟨by rw [i1], .cons h1 i2⟩
theorem putT_run {kvs : List (List Key × V)} {ds : List D} {k : List Key} {d : D} {v : V} (h : RVs g m H ds (kvs.map (·.2))) (hv : RV g m H d v) :
    (putK kvs k v).map (·.1) = putKT (kvs.map (·.1)) k ∧ RVs g m H (putVT (kvs.map (·.1)) ds k d) ((putK kvs k v).map (·.2)) := by
  have ha : (kvs.any fun kv => decide (kv.1 = k)) = hasT (kvs.map (·.1)) k := by
    unfold hasT
    rw [List.any_map]
    rfl
  unfold putK putKT putVT
  rw [ha]
  cases hasT (kvs.map (·.1)) k with
  | true =>
    simp only [if_true]
    exact zipT_run hv h
  | false =>
    simp only [Bool.false_eq_true, if_false, List.map_append, List.map_cons, List.map_nil]
    exact ⟨trivial, h.append (.cons hv .nil)⟩
theorem keyT_run {d : D} {v : V} {k : List Key} (h : RV g m H d v) (e : keyT d = some k) : ∃ b, v = .ref b ∧ H b = some (.tup (k.map kV)) := by
  cases d <;> simp only [keyT] at e <;> try cases e
  rename_i ds
  obtain ⟨a, vs, rfl, h1, h2⟩ := of_tupv h
  rw [keyL_run h2 e] at h1
  exact ⟨a, rfl, h1.1⟩
end
section
variable {X : Cx} {g : G} {E : XD}
def nwT (mu : Bool) (ks : List (List Key)) (xs : List D) (S : Sto) : R D := if mu = true then .ok (.ref S.length) (S ++ [.dct ks xs]) else .ok (.dct ks xs) S
def dcTL (mu : Bool) (ok : Sto → Bool) (t : D → Lc → Sto → R Lc) (tt : Lc → Sto → R Bool) (tk tv : EF) (L : Lc) : List D → List (List Key) → List D → Sto → R D
  | [], ks, ws => fun S => if ok S = true then nwT mu ks ws S else .bad
  | d :: ds, ks, ws => fun S => if ok S = true then (t d L S).calm.bind fun L1 S1 => (tt L1 S1).calm.bind fun b S2 =>
      if b = true then (tk L1 S2).calm.bind fun y S3 => (tv L1 S3).calm.bind fun z S4 => match keyT y with
          | some k => if ks.length < sizeLine then dcTL mu ok t tt tk tv L ds (putKT ks k) (putVT ks ws k z) S4 else .bad
          | none => .bad
      else dcTL mu ok t tt tk tv L ds ks ws S2
    else .bad
variable {t : D → Lc → Sto → R Lc} {tt : Lc → Sto → R Bool} {tk tv : EF}
theorem dcT_loop {mu : Bool} {σ : L2.St} {L : Lc} {vs : List Nat} {W : Wk} {J : It} {m1 : Mp} {S1 : Sto} {H1 : Hp} {Q : VK} {P : D → Mp → Sto → Hp → Prop} (r1 : Rel g m1 S1 H1) (l : RL g m1 H1 L σ) (hJ : JD g J W m1 H1)
    (q1 : Aft g E m1 H1 (dcTL mu W.ok t tt tk tv (wipeL L vs) W.ds [] [] S1) P) (hP : ∀ d m S H v, Ext g m1 H1 m H → Rel g m S H → P d m S H → RV g m H d v → Q v H) :
    ∀ D, H1 D = none → ∃ Wp : Nat → Nat → Hp → Prop, (∃ m, Wp 0 m (upd H1 D (.dT []))) ∧ ∀ i m H, Wp i m H →
      (J.stop i H ∧ Q (.ref D) H) ∨ (J.go i H ∧ ∃ Nx : Hp → Prop, (∀ H', Nx H' → ∃ m', m' < m ∧ Wp (i + 1) m' H') ∧ ∀ x H', J.yld i H x H' → tG g NoX (WpP vs) t x (wipe σ vs) H' fun σ2 H2 => wipe σ2 vs = wipe σ vs ∧ tT g NoX tt σ2 H2 fun b H3 =>
        if b = true then tD g NoX tk σ2 H3 fun y H4 => tD g NoX tv σ2 H4 fun z H5 => ∃ kvs k b, y = .ref b ∧ H5 b = some (.tup (k.map kV)) ∧ H5 D = some (.dT kvs) ∧ kvs.length < sizeLine ∧ Nx (upd H5 D (.dT (putK kvs k z))) else Nx H3) := by
  intro p hp
  refine ⟨fun i k H' => ∃ m' S' ks ws kvs, Mk1 g m1 H1 p (.dT kvs) m' S' H' ∧ kvs.map (·.1) = ks ∧ RVs g m' H' ws (kvs.map (·.2)) ∧ k = W.ds.length - i ∧ i ≤ W.ds.length ∧ Aft g E m1 H1 (dcTL mu W.ok t tt tk tv (wipeL L vs) (W.ds.drop i) ks ws S') P,
    ⟨_, _, _, [], [], [], .start r1 hp, rfl, .nil, rfl, Nat.zero_le _, q1⟩, ?_⟩
  rintro i k H' ⟨m', S', ks, ws, kvs, mk, hk, ra, rfl, hle, q'⟩
  cases hd : W.ds[i]? with
  | none =>
    have hlen : W.ds.length ≤ i := List.getElem?_eq_none_iff.mp hd
    rw [List.drop_eq_nil_of_le hlen] at q'
    unfold dcTL at q'
    split at q'
    · rename_i hok
      refine .inl ⟨(hJ i m' S' H' ⟨mk.ex, mk.pk, mk.kk⟩ mk.r hok).1 hd, ?_⟩
      unfold nwT at q'
      split at q'
      · obtain ⟨_, he, hr, hl⟩ := mk.toSto (ob := .dct ks ws) r1 hp ⟨kvs, rfl, hk, ra⟩
        exact hP _ _ _ _ _ he hr (q'.at he hr) (rv_ref hl)
      · obtain ⟨hw, he, hr, hu⟩ := mk.done r1 hp
        exact hP _ _ _ _ _ he hr (q'.at he hr) (rv_dct (.of mk.at_) hu hk (ra.extw hw))
    · exact q'.elim
  | some d =>
    have hlt : i < W.ds.length := (List.getElem?_eq_some_iff.mp hd).1
    rw [drop_cons hd] at q'
    unfold dcTL at q'
    split at q'
    · rename_i hok
      obtain ⟨hgo, hy⟩ := (hJ i m' S' H' ⟨mk.ex, mk.pk, mk.kk⟩ mk.r hok).2 d hd
      refine .inr ⟨hgo, fun H2 => ∃ m2 S2 ks ws kvs, Mk1 g m1 H1 p (.dT kvs) m2 S2 H2 ∧ kvs.map (·.1) = ks ∧ RVs g m2 H2 ws (kvs.map (·.2)) ∧ Aft g E m1 H1 (dcTL mu W.ok t tt tk tv (wipeL L vs) (W.ds.drop (i + 1)) ks ws S2) P, ?_, fun x H3 y => ?_⟩
      · rintro H2 ⟨m2, S2, ks2, ws2, kvs2, mk2, hk2, ra2, q2⟩
        exact ⟨_, by omega, m2, S2, ks2, ws2, kvs2, mk2, hk2, ra2, rfl, hlt, q2⟩
      · obtain ⟨ex, rx, rv⟩ := hy x H3 y
        have mk3 := mk.on ex rx
        have lw : RL g m' H3 (wipeL L vs) (wipe σ vs) := (l.wipe vs).extw mk3.ex
        refine ⟨m', S', wipeL L vs, d, rx, lw, rv, (Aft.calmA q' m' H3).mono fun L1 m4 S4 H4 e4 r4 q4 σ4 l4 w4 => ?_⟩
        refine ⟨by rw [w4, wipe_wipe], m4, S4, L1, r4, l4, (Aft.calmA q4 m4 H4).mono fun b m5 S5 H5 e5 r5 q5 => ?_⟩
        have e35 : Ext g m' H' m5 H5 := ex.trans (e4.trans e5)
        cases b with
        | false => exact ⟨m5, S5, ks, ws, kvs, mk.on e35 r5, hk, ra.ext e35, q5⟩
        | true =>
          refine ⟨m5, S5, L1, r5, l4.ext e5, (Aft.calmA q5 m5 H5).mono fun y m6 S6 H6 e6 r6 q6 v rv6 => ?_⟩
          refine ⟨m6, S6, L1, r6, (l4.ext e5).ext e6, (Aft.calmA q6 m6 H6).mono fun z m7 S7 H7 e7 r7 q7 u rv7 => ?_⟩
          have e17 := (e35.trans e6).trans e7
          have mk7 := mk.on e17 r7
          have ra7 := ra.ext e17
          split at q7
          · rename_i kk ek
            split at q7
            · rename_i hz
              obtain ⟨p1, p2⟩ := putT_run (k := kk) ra7 rv7
              rw [hk] at p1 p2
              obtain ⟨e8, mk8⟩ := mk7.step (o' := .dT (putK kvs kk u)) hp
              obtain ⟨b, rfl, hb⟩ := keyT_run (rv6.ext e7) ek
              exact ⟨kvs, kk, b, rfl, hb, mk7.at_, by rw [← hk, List.length_map] at hz; exact hz, m7, S7, _, _, _, mk8, p1, p2.extw e8, q7⟩
            · exact q7.elim
          · exact q7.elim
    · exact q'.elim
/-- over a list or tuple -/
def eDcT (mu : Bool) (w : Lc → Sto → R Wk) (t : D → Lc → Sto → R Lc) (tt : Lc → Sto → R Bool) (tk tv : EF) (vs : List Nat) : EF := fun L S => (w L S).bind fun W S2 => dcTL mu W.ok t tt tk tv (wipeL L vs) W.ds [] [] S2
theorem de_dcT {mu : Bool} {kx vx tg iter : Expr} {ifs : List Expr} {scope : Scope} {own : List (Str × Nat)} {pos : Pos} {w : Lc → Sto → R Wk} {vs : List Nat} (hu : X.A.units + 64 < cLine) (hc : X.calm = true) (hN : X.N.Nodup) (hvs : own.map (·.2) = vs) (hi : PI X tg iter (tI g E w)) (ok : BlkOk X.N X.env.scope scope own)
    (hg : ∀ (s : Shared) (H : Hp) (C : Addr) (cl : List (Str × Addr)) (fp : List Addr), PG (X.blk s H scope (compEnvC scope cl C X.env) fp) tg (tG g NoX (WpP vs) t)) (ht : ∀ (s : Shared) (H : Hp) (C : Addr) (cl : List (Str × Addr)) (fp : List Addr), PTs (X.blk s H scope (compEnvC scope cl C X.env) fp) ifs (tT g NoX tt))
    (hk : ∀ (s : Shared) (H : Hp) (C : Addr) (cl : List (Str × Addr)) (fp : List Addr), PE (X.blk s H scope (compEnvC scope cl C X.env) fp) kx (tD g NoX tk)) (he : ∀ (s : Shared) (H : Hp) (C : Addr) (cl : List (Str × Addr)) (fp : List Addr), PE (X.blk s H scope (compEnvC scope cl C X.env) fp) vx (tD g NoX tv)) (hs : ∀ x, foldedSetIterable iter X.env x = pure x := by intro _; rfl) :
    PE X (.DictComp kx vx [⟨tg, iter, ifs, 0⟩] scope pos) (tD g E (eDcT mu w t tt tk tv vs)) := by
  subst hvs
  refine (pe_dcT (by omega) hc hN hi ok hg ht hk he hs).imp fun σ H Q h => ?_
  obtain ⟨m, S, L, r, l, q⟩ := h
  exact ⟨m, S, L, r, l, (Aft.bind q).mono fun W m1 S1 H1 e1 r1 q1 J hJ => dcT_loop r1 (l.ext e1) hJ q1 fun d m2 S2 H2 v _ _ q3 rv => q3 v rv⟩
/-! d[k] -/
def ix3D (x y : D) (S : Sto) : R D := match dctOf x S with
  | some p => match keyT y with
    | some k => match lookT p.1 p.2 k with
      | some d => .ok d S
      | none => .bad
    | none => .bad
  | none => ix2D x y S
theorem xd_ix3 (hK : X.K = g.K) (hu : X.A.units + 64 < cLine) : IxR X (rD2 g E (ix3D)) := by
  intro value slice pins s σ H x y v u Q I rx ry h hs
  obtain ⟨m, S, d, d', r, h1, h2, q⟩ := h
  unfold ix3D at q
  split at q
  · rename_i p ep
    split at q
    · rename_i k ek
      split at q
      · rename_i z ez
        obtain ⟨a, kvs, rfl, hr, e1, e2⟩ := dct_run r h1 ep
        rw [← e1] at ez
        obtain ⟨w, w1, w2⟩ := (lookT_run e2 k).1 _ ez
        obtain ⟨b, rfl, hb⟩ := keyT_run h2 ek
        exact ix_dict (by omega) value slice pins s σ H _ _ v u Q I rx ry ⟨a, w, rfl, .inr ⟨kvs, k, b, hr, rfl, hb, w1.symm⟩, q.ok r _ w2⟩ hs
      · exact q.elim
    · exact q.elim
  · exact xd_ix2 hK hu value slice pins s σ H x y v u Q I rx ry ⟨m, S, d, d', r, h1, h2, q⟩ hs
/-! d[k] = v -/
def set3D (x y z : D) (S : Sto) : R Unit := match x with
  | .ref n => match S[n]? with
    | some (.dct ks ds) => match keyT y with
      | some k => if ks.length < sizeLine then .ok () (S.set n (.dct (putKT ks k) (putVT ks ds k z))) else .bad
      | none => .bad
    | _ => set2D x y z S
  | _ => .bad
theorem sd_set3 (hu : X.A.units + 64 < cLine) : PSet X (rSet g E set3D) := by
  intro pins s σ H o i v ov iv u Q I ro ri rv h
  obtain ⟨m, S, d1, d2, d3, r, h1, h2, h3, q⟩ := h
  unfold set3D at q
  split at q
  · rename_i n
    split at q
    · rename_i ks ds e0
      split at q
      · rename_i k ek
        split at q
        · rename_i hz
          obtain ⟨a, ob, rfl, ha, e1, kvs, rfl, e2, e3⟩ := r.at h1 e0 (by intro z; cases z)
          cases ro
          obtain ⟨p1, p2⟩ := putT_run (k := k) e3 h3
          rw [e2] at p1 p2
          have hl : kvs.length < sizeLine := by rw [← e2, List.length_map] at hz; exact hz
          obtain ⟨b, rfl, hb⟩ := keyT_run h2 ek
          refine d_setItem (by omega) I (.inr ⟨kvs, k, b, e1, rfl, hb, hl, rfl⟩) ri rv fun s' I' => ⟨_, I', ?_⟩
          exact q.at (ext_set r ha e0) (r.set (ob' := .dct (putKT ks k) (putVT ks ds k d3)) ha e0 ⟨_, rfl, p1, p2⟩)
        · exact q.elim
      · exact q.elim
    · exact sd_set2 hu pins s σ H o i v ov iv u Q I ro ri rv ⟨m, S, _, d2, d3, r, h1, h2, h3, q⟩
  · exact q.elim
/-! k in d -/
def in3D (neg : Bool) (x y : D) (S : Sto) : R D := match dctOf y S with
  | some p => match keyT x with
    | some k => .ok (.bl (neg != (lookT p.1 p.2 k).isSome)) S
    | none => .bad
  | none => inD neg x y S
theorem lookT_some {m : Mp} {H : Hp} {kvs : List (List Key × V)} {ds : List D} (h : RVs g m H ds (kvs.map (·.2))) (k : List Key) : (lookT (kvs.map (·.1)) ds k).isSome = (valV kvs k).isSome := by
  obtain ⟨l1, l2⟩ := lookT_run h k
  cases e : lookT (kvs.map (·.1)) ds k with
  | none => rw [l2 e] <;> rfl
  | some d => obtain ⟨v, v1, _⟩ := l1 d e; rw [v1]; rfl
theorem od_in3 (hK : X.K = g.K) (hu : X.A.units + 65 < cLine) : OpR X (compareOp .In) (rD2 g E (in3D false)) := by
  intro pins s σ H x y v u Q I rx ry h
  obtain ⟨m, S, d, d', r, h1, h2, q⟩ := h
  unfold in3D at q
  split at q
  · rename_i p ep
    split at q
    · rename_i k ek
      obtain ⟨a, kvs, rfl, hr, e1, e2⟩ := dct_run r h2 ep
      rw [← e1, lookT_some e2 k] at q
      obtain ⟨b, rfl, hb⟩ := keyT_run h1 ek
      cases ry
      exact d_in (by omega) I (.inr ⟨kvs, k, b, hr, rfl, hb, rfl⟩) rx fun s' I' => ⟨.bl _, H, I', rfl, q.ok r _ (by simp [rv_bl])⟩
    · exact q.elim
  · exact od_in hK hu pins s σ H x y v u Q I rx ry ⟨m, S, d, d', r, h1, h2, q⟩
theorem od_notin3 (hK : X.K = g.K) (hu : X.A.units + 65 < cLine) : OpR X (compareOp .NotIn) (rD2 g E (in3D true)) := by
  intro pins s σ H x y v u Q I rx ry h
  obtain ⟨m, S, d, d', r, h1, h2, q⟩ := h
  unfold in3D at q
  split at q
  · rename_i p ep
    split at q
    · rename_i k ek
      obtain ⟨a, kvs, rfl, hr, e1, e2⟩ := dct_run r h2 ep
      rw [← e1, lookT_some e2 k] at q
      obtain ⟨b, rfl, hb⟩ := keyT_run h1 ek
      cases ry
      exact d_notIn (by omega) I (.inr ⟨kvs, k, b, hr, rfl, hb, rfl⟩) rx fun s' I' => ⟨.bl _, H, I', rfl, q.ok r _ (by simp [rv_bl])⟩
    · exact q.elim
  · exact od_notin hK hu pins s σ H x y v u Q I rx ry ⟨m, S, d, d', r, h1, h2, q⟩
/-! d.get(k), d.get(k, x) -/
def isDD (x : D) (S : Sto) : Bool := (dicOf x S).isSome || (dctOf x S).isSome
def getD3 (x y z : D) (S : Sto) : R D := match dctOf x S with
  | some p => match keyT y with
    | some k => match lookT p.1 p.2 k with
      | some d => .ok d S
      | none => .ok z S
    | none => .bad
  | none => getD2 x y z S
def eGetA1 (eo ea : EF) : EF := fun L S => (eo L S).bind fun x S1 => if isDD x S1 = true then (ea L S1).bind fun y S2 => getD3 x y .non S2 else .bad
def eGetA2 (eo ea eb : EF) : EF := fun L S => (eo L S).bind fun x S1 => if isDD x S1 = true then (ea L S1).bind fun y S2 => (eb L S2).bind fun z S3 => getD3 x y z S3 else .bad
theorem isDD_run {m : Mp} {S : Sto} {H : Hp} (r : Rel g m S H) {d : D} {v : V} (rv : RV g m H d v) (h : isDD d S = true) : ∃ a, v = .ref a ∧ IsD H a := by
  unfold isDD at h
  rw [Bool.or_eq_true] at h
  rcases h with h | h
  · exact isD_run r rv h
  · obtain ⟨p, e⟩ := Option.isSome_iff_exists.mp h
    obtain ⟨a, kvs, rfl, hr, _⟩ := dct_run r rv e
    exact ⟨a, rfl, .inr ⟨kvs, hr⟩⟩
theorem getA_run {m : Mp} {S : Sto} {H : Hp} {x y z : D} {a : Addr} {vy vz : V} {Q : VK} (r : Rel g m S H) (hx : RV g m H x (.ref a)) (hy : RV g m H y vy) (hz : RV g m H z vz) (q : Aft g E m H (getD3 x y z S) (vQ g Q)) : ∃ o, DGet H a vy o ∧ Q (o.getD vz) H := by
  unfold getD3 at q
  split at q
  · rename_i p ep
    split at q
    · rename_i k ek
      obtain ⟨a', kvs, e0, hr, e1, e2⟩ := dct_run r hx ep
      cases e0
      obtain ⟨b, rfl, hb⟩ := keyT_run hy ek
      obtain ⟨l1, l2⟩ := lookT_run e2 k
      refine ⟨valV kvs k, .inr ⟨kvs, k, b, hr, rfl, hb, rfl⟩, ?_⟩
      rw [e1] at l1 l2
      cases el : lookT p.1 p.2 k with
      | none => rw [l2 el]; rw [el] at q; exact q.ok r _ hz
      | some d => obtain ⟨v, v1, v2⟩ := l1 d el; rw [v1]; rw [el] at q; exact q.ok r _ v2
    · exact q.elim
  · exact get_run r hx hy hz q
variable {o e f : Expr} {eo ea eb : EF} {apos cpos : Pos}
theorem de_getA1 (hu : X.A.units + 64 < cLine) (ho : PE X o (tD g E eo)) (he : PE X e (tD g E ea)) (m : M1 X o "get" apos e cpos) : PE X (.Call (.Attribute o "get" apos) [e] [] cpos) (tD g E (eGetA1 eo ea)) := by
  refine (pe_dget1 (by omega) ho he m).imp fun σ H Q h => ?_
  obtain ⟨m, S, L, r, l, q⟩ := h
  refine ⟨m, S, L, r, l, (Aft.bind q).mono fun x m1 S1 H1 e1 r1 q1 v rv => ?_⟩
  split at q1
  · rename_i hd
    obtain ⟨a, rfl, ia⟩ := isDD_run r1 rv hd
    refine ⟨a, rfl, ia, m1, S1, L, r1, l.ext e1, (Aft.bind q1).mono fun y m2 S2 H2 e2 r2 q2 vy ry => ?_⟩
    exact getA_run r2 (rv.ext e2) ry rv_non q2
  · exact q1.elim
theorem de_getA2 (hu : X.A.units + 64 < cLine) (ho : PE X o (tD g E eo)) (he : PE X e (tD g E ea)) (hf : PE X f (tD g E eb)) (m : M2 X o "get" apos e f cpos) : PE X (.Call (.Attribute o "get" apos) [e, f] [] cpos) (tD g E (eGetA2 eo ea eb)) := by
  refine (pe_dget2 (by omega) ho he hf m).imp fun σ H Q h => ?_
  obtain ⟨m, S, L, r, l, q⟩ := h
  refine ⟨m, S, L, r, l, (Aft.bind q).mono fun x m1 S1 H1 e1 r1 q1 v rv => ?_⟩
  split at q1
  · rename_i hd
    obtain ⟨a, rfl, ia⟩ := isDD_run r1 rv hd
    refine ⟨a, rfl, ia, m1, S1, L, r1, l.ext e1, (Aft.bind q1).mono fun y m2 S2 H2 e2 r2 q2 vy ry => ?_⟩
    refine ⟨m2, S2, L, r2, l.ext (e1.trans e2), (Aft.bind q2).mono fun z m3 S3 H3 e3 r3 q3 vz rz => ?_⟩
    exact getA_run r3 (rv.ext (e2.trans e3)) (ry.ext e3) rz q3
  · exact q1.elim
end
end VL

/-! dicts of the top, the keys texts -/
namespace VL
open PySem PySem.Spec PyProof.Rows L2
def lookS : List Str → List D → Str → Option D
  | k :: ks, d :: ds, z => if k = z then some d else lookS ks ds z
  | _, _, _ => none
structure KDc (K : PySem.W.Frag) (w : World) (mg : Str → Option Value) (x : Str) (ks : List Str) (ds : List D) where
  a : Addr
  es : Array DictEntry
  n : Nat
  mgx : mg x = some (.ref a)
  kd : KDict K w a es n
  has : ∀ (z : Str) (d : D), lookS ks ds z = some d → ∃ u v, PySem.W.nsIn K a z = some (some u) ∧ RelV v u ∧ ∀ (g : G) (m : Mp) (H : Hp), g.K = K → RV g m H d v
  not : ∀ z : Str, lookS ks ds z = none → PySem.W.nsIn K a z = some none
section
variable {X : Cx} {g : G} {E : XD} {ks : List Str} {ds : List D} {x : Str} {p p2 pos apos cpos : Pos} {e f i : Expr} {ea eb ei : EF}
def kixD (ks : List Str) (ds : List D) (y : D) (S : Sto) : R D := match y with
  | .str z => match lookS ks ds z with
    | some d => .ok d S
    | none => .bad
  | _ => .bad
theorem de_kix (T : KDc g.K X.w X.mg x ks ds) (hK : X.K = g.K) (hg : Gl X x) (hi : PE X i (tD g E ei)) (hs : PlainIx i := by intro _ _; rfl) (hdb : (x == ("__debug__" : Str)) = false := by decide) : PE X (.Subscript (.Name x p) i pos) (tD g E (eUn (kixD ks ds) ei)) := by
  have kd : KDict X.K X.w T.a T.es T.n := by rw [hK]; exact T.kd
  have ho : IxR X (fun x y H Q => x = .ref T.a ∧ ∃ (z : Str) (u0 : Value) (v0 : V), y = .str z ∧ PySem.W.nsIn X.K T.a z = some (some u0) ∧ RelV v0 u0 ∧ Q v0 H) := by
    intro value slice pins s σ H x y v u Q I rx ry h hs
    obtain ⟨rfl, z, u0, v0, rfl, hn, r0, q⟩ := h
    cases rx
    have hT := kd_type kd I
    unfold subscriptTail
    refine wpAny_bind ?_
    rw [getitemInPython_of_ne hT.not_modules]
    refine wpAny_bind (wpAny_specialOf hT PySem.F.slot_dict_getitem.lookup ?_)
    have fin : wpAny (model X.prog X.w) X.A (subscripted slice false (.ref T.a) u) (fun r s₃ => wpAny (model X.prog X.w) X.A (letTemporaryGo value (.ref T.a) r >>= fun _ => pure r) (EP X pins σ Q) X.xe s₃) X.xe s := by
      rw [hs]
      exact wpAny_operating (thn (op_item_kd kd pins s σ H (.ref T.a) (.str z) _ u Q I (show RelV (V.ref T.a) (Value.ref T.a) from rfl) ry ⟨z, u0, v0, rfl, rfl, hn, r0, q⟩) fun r s₃ h₃ => wpAny_bind (wpAny_letTemporaryGo (wpAny_pure h₃)))
    first
      | exact wpAny_pure (wpAny_bind fin)
      | exact wpAny_bind (wpAny_pure (wpAny_bind fin))
      | exact wpAny_bind fin
  refine (pe_ix ho (pe_glob hg T.mgx (v := .ref T.a) (show RelV (V.ref T.a) (Value.ref T.a) from rfl) hdb) hi hs).imp fun σ H Q h => ?_
  obtain ⟨m, S, L, r, l, q⟩ := h
  refine ⟨m, S, L, r, l, (Aft.bind q).mono fun d m1 S1 H1 e1 r1 q1 v rv => ⟨rfl, ?_⟩⟩
  unfold kixD at q1
  split at q1
  · rename_i z
    split at q1
    · rename_i d' ed
      obtain ⟨u, v', h1, h2, h3⟩ := T.has z d' ed
      exact ⟨z, u, v', of_str rv, by rw [hK]; exact h1, h2, q1.ok r1 _ (h3 g m1 H1 rfl)⟩
    · exact q1.elim
  · exact q1.elim
def kinD (neg : Bool) (ks : List Str) (ds : List D) (y : D) (S : Sto) : R D := match y with
  | .str z => .ok (.bl (neg != (lookS ks ds z).isSome)) S
  | _ => .bad
theorem kin_ok (T : KDc g.K X.w X.mg x ks ds) (z : Str) : ∃ r, PySem.W.nsIn g.K T.a z = some r ∧ r.isSome = (lookS ks ds z).isSome := by
  cases e : lookS ks ds z with
  | none => exact ⟨none, T.not z e, rfl⟩
  | some d => obtain ⟨u, v, h1, _⟩ := T.has z d e; exact ⟨some u, h1, rfl⟩
theorem kin_run (T : KDc g.K X.w X.mg x ks ds) (hK : X.K = g.K) {neg : Bool} {σ : L2.St} {H : Hp} {Q : VK} (h : tD g E (eUn (kinD neg ks ds) ea) σ H Q) :
    tOp (fun a b H Q => ∃ (z : Str) (r : Option Value), a = .str z ∧ b = .ref T.a ∧ PySem.W.nsIn X.K T.a z = some r ∧ Q (.bl (neg != r.isSome)) H) (tD g E ea) (tC (.ref T.a)) σ H Q := by
  obtain ⟨m, S, L, r, l, q⟩ := h
  refine ⟨m, S, L, r, l, (Aft.bind q).mono fun d m1 S1 H1 e1 r1 q1 v rv => ?_⟩
  unfold kinD at q1
  split at q1
  · rename_i z
    obtain ⟨r0, h1, h2⟩ := kin_ok T z
    refine ⟨z, r0, of_str rv, rfl, by rw [hK]; exact h1, ?_⟩
    rw [h2]
    exact q1.ok r1 _ rv_bl
  · exact q1.elim
theorem op_inK (T : KDc g.K X.w X.mg x ks ds) (hK : X.K = g.K) : OpR X (compareOp .In) (fun a b H Q => ∃ (z : Str) (r : Option Value), a = .str z ∧ b = .ref T.a ∧ PySem.W.nsIn X.K T.a z = some r ∧ Q (.bl (false != r.isSome)) H) := by
  intro pins s σ H x y v u Q I rx ry h
  obtain ⟨z, r, h1, h2, h3, q⟩ := h
  have kd : KDict X.K X.w T.a T.es T.n := by rw [hK]; exact T.kd
  exact op_in_kd kd pins s σ H x y v u Q I rx ry ⟨z, r, h1, h2, h3, by simpa using q⟩
theorem op_notinK (T : KDc g.K X.w X.mg x ks ds) (hK : X.K = g.K) : OpR X (compareOp .NotIn) (fun a b H Q => ∃ (z : Str) (r : Option Value), a = .str z ∧ b = .ref T.a ∧ PySem.W.nsIn X.K T.a z = some r ∧ Q (.bl (true != r.isSome)) H) := by
  intro pins s σ H x y v u Q I rx ry h
  obtain ⟨z, r, h1, h2, h3, q⟩ := h
  have kd : KDict X.K X.w T.a T.es T.n := by rw [hK]; exact T.kd
  exact op_notIn_kd kd pins s σ H x y v u Q I rx ry ⟨z, r, h1, h2, h3, by simpa using q⟩
theorem de_kin (T : KDc g.K X.w X.mg x ks ds) (hK : X.K = g.K) (hg : Gl X x) (ha : PE X e (tD g E ea)) (hm : behindInMarks .In (.Name x p) = false := by rfl) (hdb : (x == ("__debug__" : Str)) = false := by decide) : PE X (.Compare e [.In] [.Name x p] pos) (tD g E (eUn (kinD false ks ds) ea)) :=
  (pe_cmpR (op_inK T hK) ha (pe_glob hg T.mgx (v := .ref T.a) (show RelV (V.ref T.a) (Value.ref T.a) from rfl) hdb) hm).imp fun _ _ _ h => kin_run T hK h
theorem de_knotin (T : KDc g.K X.w X.mg x ks ds) (hK : X.K = g.K) (hg : Gl X x) (ha : PE X e (tD g E ea)) (hm : behindInMarks .NotIn (.Name x p) = false := by rfl) (hdb : (x == ("__debug__" : Str)) = false := by decide) : PE X (.Compare e [.NotIn] [.Name x p] pos) (tD g E (eUn (kinD true ks ds) ea)) :=
  (pe_cmpR (op_notinK T hK) ha (pe_glob hg T.mgx (v := .ref T.a) (show RelV (V.ref T.a) (Value.ref T.a) from rfl) hdb) hm).imp fun _ _ _ h => kin_run T hK h
theorem dt_kin (T : KDc g.K X.w X.mg x ks ds) (hK : X.K = g.K) (hg : Gl X x) (ha : PE X e (tD g E ea)) (hm : behindInMarks .In (.Name x p) = false := by rfl) (hdb : (x == ("__debug__" : Str)) = false := by decide) : PT X (.Compare e [.In] [.Name x p] pos) (tT g E (tBl (eUn (kinD false ks ds) ea))) :=
  (pt_cmpR (op_inK T hK) ha (pe_glob hg T.mgx (v := .ref T.a) (show RelV (V.ref T.a) (Value.ref T.a) from rfl) hdb) hm).imp fun _ _ _ h => tTest.imp (fun _ _ _ h => kin_run T hK h) (tBl_test h)
theorem dt_knotin (T : KDc g.K X.w X.mg x ks ds) (hK : X.K = g.K) (hg : Gl X x) (ha : PE X e (tD g E ea)) (hm : behindInMarks .NotIn (.Name x p) = false := by rfl) (hdb : (x == ("__debug__" : Str)) = false := by decide) : PT X (.Compare e [.NotIn] [.Name x p] pos) (tT g E (tBl (eUn (kinD true ks ds) ea))) :=
  (pt_cmpR (op_notinK T hK) ha (pe_glob hg T.mgx (v := .ref T.a) (show RelV (V.ref T.a) (Value.ref T.a) from rfl) hdb) hm).imp fun _ _ _ h => tTest.imp (fun _ _ _ h => kin_run T hK h) (tBl_test h)
/-! NAME.get(k, x) -/
def kgetD (ks : List Str) (ds : List D) (y z : D) (S : Sto) : R D := match y with
  | .str k => .ok ((lookS ks ds k).getD z) S
  | _ => .bad
def eKget (ks : List Str) (ds : List D) (ea eb : EF) : EF := fun L S => (ea L S).bind fun y S1 => (eb L S1).bind fun z S2 => kgetD ks ds y z S2
theorem de_kget (T : KDc g.K X.w X.mg x ks ds) (hK : X.K = g.K) (hg : Gl X x) (he : PE X e (tD g E ea)) (hf : PE X f (tD g E eb)) (m : M2 X (.Name x p) "get" apos e f cpos) (hdb : (x == ("__debug__" : Str)) = false := by decide) :
    PE X (.Call (.Attribute (.Name x p) "get" apos) [e, f] [] cpos) (tD g E (eKget ks ds ea eb)) := by
  have kd : KDict X.K X.w T.a T.es T.n := by rw [hK]; exact T.kd
  refine ⟨fun pins s σ H Q I h => ?_⟩
  obtain ⟨m0, S, L, r, l, q⟩ := h
  refine wpAny_Call_method m.base m.few m.line PySem.F.plainAttrs_dict PySem.F.slot_dict_get PySem.F.type_dict_get (thn ((pe_glob hg T.mgx (v := .ref T.a) (show RelV (V.ref T.a) (Value.ref T.a) from rfl) hdb).run pins s σ H (fun v H' => v = .ref T.a ∧ H' = H) I ⟨rfl, rfl⟩) fun u s1 ⟨x0, H1, I1, rx, e0, e1⟩ => ?_)
  subst e0 e1
  obtain rfl : u = Value.ref T.a := rx
  have t1 := kd_type kd I1
  refine ⟨t1, fun a ea' => ?_, ?_⟩
  · cases ea'
    exact ⟨_, I1.kIn _ _ kd.at_, rfl⟩
  rw [m.trees]
  refine Calls.callWith_builtin rfl (Calls.evalArgs_plain (Calls.spliced_cons (thn (he.run pins s1 σ H1 (fun y H2 => ∃ m1 S1 d, Rel g m1 S1 H2 ∧ RL g m1 H2 L σ ∧ RV g m1 H2 d y ∧ Aft g E m1 H2 ((eb L S1).bind fun z S2 => kgetD ks ds d z S2) (vQ g Q)) I1 ⟨m0, S, L, r, l, (Aft.bind q).mono fun d m1 S1 H2 e1 r1 q1 v rv => ⟨m1, S1, d, r1, l.ext e1, rv, q1⟩⟩) fun iv s2 ⟨y, H2, I2, ry, m1, S1, d, r1, l1, rvy, q1⟩ =>
    Calls.spliced_cons (thn (hf.run pins s2 σ H2 (fun z H3 => ∃ m2 S2 d2, Rel g m2 S2 H3 ∧ RV g m2 H3 d y ∧ RV g m2 H3 d2 z ∧ Aft g E m2 H3 (kgetD ks ds d d2 S2) (vQ g Q)) I2 ⟨m1, S1, L, r1, l1, (Aft.bind q1).mono fun d2 m2 S2 H3 e2 r2 q2 v rv => ⟨m2, S2, d2, r2, rvy.ext e2, rv, q2⟩⟩) fun fv s3 ⟨z, H3, I3, rz, m2, S2, d2, r2, rvy2, rvz, q2⟩ => Calls.spliced_nil ?_))))
  cases d with
  | str k =>
    have q3 : Aft g E m2 H3 (.ok ((lookS ks ds k).getD d2) S2) (vQ g Q) := q2
    have := of_str rvy2
    subst this
    obtain ⟨t, rfl⟩ := ry
    refine call_meetsIn PySem.F.slot_dict_get (kd_type kd I3) PySem.F.entry_dict_get (PySem.F.args_dict_get_3 _ _ _) (meets_dict_get_default (PySem.strKind X.prog X.w) T.a (PySem.strKind_is X.prog X.w k t) kd.low fv) ⟨_, PySem.W.mapOf_K (prog := X.prog) I3.kIn kd.at_ kd.lit, ?_⟩
    cases ed : lookS ks ds k with
    | none =>
      have hn : PySem.W.nsIn X.K T.a k = some none := by rw [hK]; exact T.not k ed
      rw [PySem.W.find_K kd.at_ hn]
      rw [ed] at q3
      exact ⟨z, H3, I3.tok _, rz, q3.ok r2 _ rvz⟩
    | some d' =>
      obtain ⟨u, v', h1, h2, h3⟩ := T.has k d' ed
      have h1' : PySem.W.nsIn X.K T.a k = some (some u) := by rw [hK]; exact h1
      rw [PySem.W.find_K kd.at_ h1']
      rw [ed] at q3
      exact ⟨v', H3, I3.tok _, h2, q3.ok r2 _ (h3 g m2 H3 rfl)⟩
  | _ => exact q2.elim
end
end VL

/-! == of dicts -/
namespace VL
open PySem PySem.Spec PyProof.Rows L2
def eqHits (S : Sto) (ks' : List Key) (ds' : List D) : List Key → List D → Option Bool
  | [], [] => some true
  | k :: ks, d :: ds => match lookK ks' ds' k with
    | none => some false
    | some d' => match toP S 65 d, toP S 65 d' with
      | some p, some q => if SeqAt.shaped p = true ∧ SeqAt.shaped q = true then (eqHits S ks' ds' ks ds).map fun b => PyData.eqv p q && b else none
      | _, _ => none
  | _, _ => none
def eq4D (neg : Bool) (x y : D) (S : Sto) : R D := match dicOf x S, dicOf y S with
  | some p, some q => if p.1.length = q.1.length then (match eqHits S q.1 q.2 p.1 p.2 with
    | some b => .ok (.bl (neg != b)) S
    | none => .bad) else .ok (.bl (neg != false)) S
  | _, _ => eqD neg x y S
section
variable {X : Cx} {g : G} {E : XD}
theorem hits_run {pins : List (Addr × Obj)} {σ : St} {H : Hp} {s : Shared} {m : Mp} {S : Sto} (I : Inv X pins σ H s) (hK : X.K = g.K) (hu : X.A.units + 65 < cLine) (r : Rel g m S H) {kvs' : List (Key × V)} {ds' : List D} {vb : List (Key × Value)} (rb : KV kvs' vb) (hb : RVs g m H ds' (kvs'.map (·.2))) :
    ∀ {kvs : List (Key × V)} {ds : List D} {va : List (Key × Value)} {b : Bool}, KV kvs va → RVs g m H ds (kvs.map (·.2)) → eqHits S (kvs'.map (·.1)) ds' (kvs.map (·.1)) ds = some b → PySem.W.KeqHits X.A.in1 s vb va b
  | [], ds, va, b, ra, ha, e => by
    cases ra
    cases ds with
    | nil => simp [eqHits] at e; subst e; exact .nil
    | cons d ds => simp [eqHits] at e
  | (k, v) :: kvs, [], va, b, ra, ha, e => by simp [eqHits] at e
  | (k, v) :: kvs, d :: ds, va, b, ra, ha, e => by
    obtain ⟨v', rr, e1, h1, h2⟩ := ha.cons_iff
    simp only [List.map_cons, List.cons.injEq] at e1
    obtain ⟨rfl, rfl⟩ := e1
    cases ra with
    | @cons _ q _ qs hq ht =>
      obtain ⟨k2, u⟩ := q
      obtain ⟨q1, q2⟩ := hq
      have q1' : k = k2 := q1
      subst q1'
      simp only [List.map_cons, eqHits] at e
      have rv := rb.val k
      cases hl : lookK (kvs'.map (·.1)) ds' k with
      | none =>
        rw [hl] at e
        cases e
        rw [(look_run hb k).2 hl] at rv
        refine .miss ?_
        cases hz : valueAt vb k with
        | none => rfl
        | some y => rw [hz] at rv; exact rv.elim
      | some d' =>
        rw [hl] at e
        obtain ⟨w, w1, w2⟩ := (look_run hb k).1 _ hl
        rw [w1] at rv
        obtain ⟨y, hy, ry⟩ := rv.some_of
        simp only at e
        split at e
        · rename_i p p' ep ep'
          split at e
          · rename_i hs
            cases hh : eqHits S (kvs'.map (·.1)) ds' (kvs.map (·.1)) ds with
            | none => rw [hh] at e; cases e
            | some b' =>
              rw [hh] at e
              cases e
              have hp := toP_run r 65 h1 ep
              rw [← hK] at hp
              obtain ⟨as, r1⟩ := Dp.reads I _ _ u hp q2
              have hp' := toP_run r 65 w2 ep'
              rw [← hK] at hp'
              obtain ⟨bs, r2⟩ := Dp.reads I _ _ y hp' ry
              exact .hit hy (PySem.W.keq_at r1 r2 hs.1 hs.2 (by show X.A.units + 1 + 64 < cLine; omega)) (hits_run I hK hu r rb hb ht h2 hh)
          · cases e
        · cases e
theorem od_eq4 (hK : X.K = g.K) (hu : X.A.units + 65 < cLine) : OpR X (compareOp .Eq) (rD2 g E (eq4D false)) := by
  intro pins s σ H x y v u Q I rx ry h
  obtain ⟨m, S, d, d', r, h1, h2, q⟩ := h
  unfold eq4D at q
  split at q
  · rename_i p p' e1 e2
    obtain ⟨a, kvs, rfl, hr, k1, k2⟩ := dic_run r h1 e1
    obtain ⟨a', kvs', rfl, hr', k1', k2'⟩ := dic_run r h2 e2
    obtain rfl : v = Value.ref a := rx
    obtain rfl : u = Value.ref a' := ry
    obtain ⟨_, ya, va, ra, da⟩ := dk_rd I.hok hr
    obtain ⟨_, yb, vb, rb, db⟩ := dk_rd I.hok hr'
    have la : va.length = p.1.length := by rw [← ra.length, ← k1, List.length_map]
    have lb : vb.length = p'.1.length := by rw [← rb.length, ← k1', List.length_map]
    split at q
    · rename_i hlen
      split at q
      · rename_i b eb
        rw [← k1, ← k1'] at eb
        exact PySem.W.keq_eq (knd := mixKind X.prog X.w) (r := b) ya yb da db (by omega) (fun _ => hits_run I hK hu r rb k2' ra k2 eb) (fin_bl (k := (false != b)) I (q.ok r _ (by simp [rv_bl])) (by simp [la, lb, hlen]))
      · exact q.elim
    · rename_i hlen
      exact PySem.W.keq_eq (knd := mixKind X.prog X.w) (r := true) ya yb da db (by omega) (fun z => absurd (by rw [← la, ← lb, z]) hlen) (fin_bl (k := (false != false)) I (q.ok r _ (by simp [rv_bl])) (by simp [la, lb, hlen]))
  · exact od_eq hK (by omega) pins s σ H x y v u Q I rx ry ⟨m, S, d, d', r, h1, h2, q⟩
theorem od_ne4 (hK : X.K = g.K) (hu : X.A.units + 65 < cLine) : OpR X (compareOp .NotEq) (rD2 g E (eq4D true)) := by
  intro pins s σ H x y v u Q I rx ry h
  obtain ⟨m, S, d, d', r, h1, h2, q⟩ := h
  unfold eq4D at q
  split at q
  · rename_i p p' e1 e2
    obtain ⟨a, kvs, rfl, hr, k1, k2⟩ := dic_run r h1 e1
    obtain ⟨a', kvs', rfl, hr', k1', k2'⟩ := dic_run r h2 e2
    obtain rfl : v = Value.ref a := rx
    obtain rfl : u = Value.ref a' := ry
    obtain ⟨_, ya, va, ra, da⟩ := dk_rd I.hok hr
    obtain ⟨_, yb, vb, rb, db⟩ := dk_rd I.hok hr'
    have la : va.length = p.1.length := by rw [← ra.length, ← k1, List.length_map]
    have lb : vb.length = p'.1.length := by rw [← rb.length, ← k1', List.length_map]
    split at q
    · rename_i hlen
      split at q
      · rename_i b eb
        rw [← k1, ← k1'] at eb
        exact PySem.W.keq_ne (knd := mixKind X.prog X.w) (r := b) ya yb da db (by omega) (fun _ => hits_run I hK hu r rb k2' ra k2 eb) (fin_bl (k := (true != b)) I (q.ok r _ (by simp [rv_bl])) (by simp [la, lb, hlen]))
      · exact q.elim
    · rename_i hlen
      exact PySem.W.keq_ne (knd := mixKind X.prog X.w) (r := true) ya yb da db (by omega) (fun z => absurd (by rw [← la, ← lb, z]) hlen) (fin_bl (k := (true != false)) I (q.ok r _ (by simp [rv_bl])) (by simp [la, lb, hlen]))
  · exact od_ne hK (by omega) pins s σ H x y v u Q I rx ry ⟨m, S, d, d', r, h1, h2, q⟩
end
end VL

/-! the head's facts: defs at any address, classes, properties, tables -/
namespace VL
open PySem PySem.Spec PyProof.Rows L2
/-! a def at an address -/
def fobs (K : PySem.W.Frag) (a : Addr) : He.FnW := (K.lookup a).bind fun o => match o.data with
  | .func q => some (q.name, q.qualname, q.params, q.body, q.scope, q.globals, q.closure, q.builtins)
  | _ => none
def fokB (K : PySem.W.Frag) (a : Addr) (d : He.DefD) : Bool := PySem.W.keepIn K (.ref a) && (match (K.lookup a).map (fun (o : Obj) => o.data) with
  | some (.func q) => (PySem.W.codeIn K q.code d.qual && He.dflB K q.defaults (d.dvs K)) && He.kwdB K q.kwdefaults (d.kws K)
  | _ => false)
theorem fobs_ok {K : PySem.W.Frag} {a : Addr} {d : He.DefD} (e : fobs K a = d.val) (c : fokB K a d = true) : ∃ fd, FunD K d.name d.qual d.params d.body d.scope (d.dvs K) (d.kws K) a fd := by
  obtain ⟨c1, c2⟩ := He.ba c
  unfold fobs at e
  cases hl : K.lookup a with
  | none => rw [hl] at e; cases e
  | some o =>
    obtain ⟨oc, od, dt, sl⟩ := o
    rw [hl] at e c2
    cases dt with
    | func q =>
      obtain ⟨q1, q2, q3, q4, q5, q6, q7, q8, q9, q10, q11, q12, q13, q14, q15⟩ := q
      have e' : (some (q1, q2, q3, q4, q5, q6, q7, q15) : He.FnW) = d.val := e
      unfold He.DefD.val at e'
      injection e' with e'
      injection e' with z1 e'
      injection e' with z2 e'
      injection e' with z3 e'
      injection e' with z4 e'
      injection e' with z5 e'
      injection e' with z6 e'
      injection e' with z7 z8
      subst z1 z2 z3 z4 z5 z6 z7 z8
      obtain ⟨c3, c4⟩ := He.ba (show ((PySem.W.codeIn K q13 d.qual && He.dflB K q8 (d.dvs K)) && He.kwdB K q9 (d.kws K)) = true from c2)
      obtain ⟨c5, c6⟩ := He.ba c3
      exact ⟨_, ⟨oc, od, q8, q9, q10, q11, q12, q13, q14, sl, rfl, hl, c5, He.dflB_ok c6, He.kwdB_ok c4⟩, c1⟩
    | _ => cases e
/-! the hook -/
/-- what an object names, as far as the facts look: a code object's parts are left out -/
def refsH (o : Obj) : List Addr := match o.data with
  | .seq its _ => its.toList.flatMap He.refV
  | .dict es _ => es.toList.flatMap fun e => He.refV e.val
  | .func q => He.refV q.code ++ (He.refV q.defaults ++ He.refV q.kwdefaults)
  | .cls c => [c.ns]
  | .fields vs => (match o.cls with
    | .type t => if t = "property" then vs.toList.flatMap He.refV else []
    | _ => [])
  | _ => []
/-- level by level -/
def frontH (g : Addr → Option Obj) : Nat → List Addr → List Addr
  | 0, as => as
  | n + 1, as => as ++ frontH g n (as.flatMap fun a => match g a with
    | some o => refsH o
    | none => [])
abbrev AtD : Type := (PySem.W.Frag → Addr) × He.DefD
abbrev AlH : Type := Bool × List He.FnW × List (Option (List (Option (Str × Int))))
def obsH (fa : List He.Fa) (fn : List AtD) (ts : List (Str × List Str)) (ex : PySem.W.Frag → Bool) (K : PySem.W.Frag) : AlH :=
  ((fa.all fun f => f.ok K) && ((fn.all fun p => fokB K (p.1 K) p.2) && ex K), fn.map fun p => fobs K (p.1 K), ts.map fun t => He.dicW K (He.ga K t.1))
def valH (fn : List AtD) (ts : List (Str × List Str)) (w : World) : AlH := (true, fn.map fun p => p.2.val, ts.map fun t => some (He.keysIn w.params t.2))
def SaysH (fa : List He.Fa) (fn : List AtD) (ts : List (Str × List Str)) (ex : PySem.W.Frag → Bool) (w : World) (K : PySem.W.Frag) : Prop := obsH fa fn ts ex K = valH fn ts w
def obsHG (n : Nat) (fa : List He.Fa) (fn : List AtD) (ts : List (Str × List Str)) (ex : PySem.W.Frag → Bool) (g : Addr → Option Obj) : AlH := obsH fa fn ts ex (He.frG g (frontH g n [mainGlobals]))
def hookH (n : Nat) (fa : List He.Fa) (fn : List AtD) (ts : List (Str × List Str)) (ex : PySem.W.Frag → Bool) : PySem.W.Hook where
  α := AlH
  obs := fun s => obsHG n fa fn ts ex s.heap.get?
  val := fun w => valH fn ts w
  says := fun w h => ∃ K : PySem.W.Frag, K.In h ∧ SaysH fa fn ts ex w K
  of := fun _ _ e => ⟨_, He.frG_in, e⟩
  keeps := fun _ _ _ ⟨K, hK, c⟩ k => ⟨K, PySem.W.Frag.In.keeps hK k, c⟩
theorem obsHG_eq {n : Nat} {fa : List He.Fa} {fn : List AtD} {ts : List (Str × List Str)} {ex : PySem.W.Frag → Bool} {g : Addr → Option Obj} {s : Shared} (h : ∀ a, g a = s.heap.get? a) : obsHG n fa fn ts ex g = (hookH n fa fn ts ex).obs s := by
  have e : g = s.heap.get? := funext h
  rw [e] <;> rfl
section
variable {fa : List He.Fa} {fn : List AtD} {ts : List (Str × List Str)} {ex : PySem.W.Frag → Bool} {w : World} {K : PySem.W.Frag}
theorem SaysH.b (c : SaysH fa fn ts ex w K) : (fa.all fun f => f.ok K) = true ∧ (fn.all fun p => fokB K (p.1 K) p.2) = true ∧ ex K = true := by
  have h : ((fa.all fun f => f.ok K) && ((fn.all fun p => fokB K (p.1 K) p.2) && ex K)) = true := congrArg (fun z : AlH => z.1) c
  obtain ⟨h1, h2⟩ := He.ba h
  exact ⟨h1, He.ba h2⟩
theorem SaysH.fact (c : SaysH fa fn ts ex w K) (i : Nat) {f : He.Fa} (h : fa[i]? = some f := by rfl) : f.ok K = true := List.all_eq_true.mp c.b.1 f (List.mem_of_getElem? h)
theorem SaysH.x (c : SaysH fa fn ts ex w K) : ex K = true := c.b.2.2
theorem SaysH.def_ (c : SaysH fa fn ts ex w K) (i : Nat) {p : AtD} (h : fn[i]? = some p := by rfl) : ∃ fd, FunD K p.2.name p.2.qual p.2.params p.2.body p.2.scope (p.2.dvs K) (p.2.kws K) (p.1 K) fd := by
  have e : (fn.map fun p => fobs K (p.1 K)) = fn.map fun p => p.2.val := congrArg (fun z : AlH => z.2.1) c
  have e2 : (fn.map fun p => fobs K (p.1 K))[i]? = (fn.map fun p => p.2.val)[i]? := by rw [e]
  rw [List.getElem?_map, List.getElem?_map, h] at e2
  exact fobs_ok (Option.some.inj e2) (List.all_eq_true.mp c.b.2.1 p (List.mem_of_getElem? h))
theorem SaysH.tab (c : SaysH fa fn ts ex w K) (i : Nat) {t : Str × List Str} (h : ts[i]? = some t := by rfl) : He.dicW K (He.ga K t.1) = some (He.keysIn w.params t.2) := by
  have e : (ts.map fun t => He.dicW K (He.ga K t.1)) = ts.map fun t => some (He.keysIn w.params t.2) := congrArg (fun z : AlH => z.2.2) c
  have e2 : (ts.map fun t => He.dicW K (He.ga K t.1))[i]? = (ts.map fun t => some (He.keysIn w.params t.2))[i]? := by rw [e]
  rw [List.getElem?_map, List.getElem?_map, h] at e2
  exact Option.some.inj e2
end
/-! tables -/
def dB (K : PySem.W.Frag) (d : D) (u : Value) : Bool := match d, u with
  | .str x, .str y _ => decide (x = y)
  | .int i, .int j _ => decide (i = j)
  | .ctp xs, .ref b => (match strs? xs, K.lookup b with
    | some ss, some ⟨.type c, _, .seq its _, _⟩ => (decide (c = "tuple") && decide (its.size ≤ sizeLine)) && He.relAll (ss.map V.str) its.toList
    | _, _ => false)
  | _, _ => false
theorem strs_eq : ∀ {xs : List D} {ss : List Str}, strs? xs = some ss → xs = ss.map D.str
  | [], ss, h => by simp [strs?] at h; subst h; rfl
  | x :: xs, ss, h => by
    cases x with
    | str z =>
      simp only [strs?] at h
      cases hq : strs? xs with
      | none => rw [hq] at h; cases h
      | some t =>
        rw [hq] at h
        cases h
        rw [strs_eq hq] <;> rfl
    | _ => simp [strs?] at h
theorem dB_ok {K : PySem.W.Frag} {d : D} {u : Value} (h : dB K d u = true) : ∃ v, RelV v u ∧ ∀ (g : G) (m : Mp) (H : Hp), g.K = K → RV g m H d v := by
  unfold dB at h
  split at h
  · rw [of_decide_eq_true h]
    exact ⟨.str _, ⟨_, rfl⟩, fun _ _ _ _ => rv_str⟩
  · rw [of_decide_eq_true h]
    exact ⟨.int _, ⟨_, rfl⟩, fun _ _ _ _ => rv_int⟩
  · rename_i xs b
    split at h
    · rename_i ss c od its n sl e1 e2
      obtain ⟨h1, h2⟩ := He.ba h
      obtain ⟨h3, h4⟩ := He.ba h1
      rw [of_decide_eq_true h3] at e2
      refine ⟨.ref b, rfl, fun g m H hK => ?_⟩
      rw [strs_eq e1]
      exact rv_ctp (vs := ss.map V.str) ⟨_, its, n, by rw [hK]; exact e2, rfl, rfl, of_decide_eq_true h4, He.relAll_ok h2⟩ (rvs_strs ss)
    · cases h
  · cases h
def tabB (K : PySem.W.Frag) (x : Str) (ks : List Str) (ds : List D) : Bool := decide (ks.length = ds.length) && (ks.zip ds).all fun p => match PySem.W.nsIn K (He.ga K x) p.1 with
  | some (some u) => dB K p.2 u
  | _ => false
theorem lookS_mem : ∀ {ks : List Str} {ds : List D} {z : Str} {d : D}, lookS ks ds z = some d → (z, d) ∈ ks.zip ds
  | [], ds, z, d, h => by simp [lookS] at h
  | k :: ks, [], z, d, h => by simp [lookS] at h
  | k :: ks, d' :: ds, z, d, h => by
    simp only [lookS] at h
    split at h
    · rename_i e
      cases h
      rw [e]
      exact List.mem_cons_self
    · exact List.mem_cons_of_mem _ (lookS_mem h)
theorem lookS_not : ∀ {ks : List Str} {ds : List D} {z : Str}, ks.length = ds.length → lookS ks ds z = none → z ∉ ks
  | [], ds, z, _, _ => by simp
  | k :: ks, [], z, hl, _ => by simp at hl
  | k :: ks, d' :: ds, z, hl, h => by
    simp only [lookS] at h
    split at h
    · cases h
    · rename_i e
      simp only [List.mem_cons, not_or]
      exact ⟨fun q => e q.symm, lookS_not (by simpa using hl) h⟩
theorem keyOf_not {z : Str} {P : Params} : ∀ {l : List DictEntry} {ks : List Str}, l.map He.keyOf = He.keysIn P ks → z ∉ ks → l.find? (·.key.isStr z) = none ∧ l.any (·.refKey) = false
  | [], _, _, _ => ⟨rfl, rfl⟩
  | e :: l, [], h, _ => by cases h
  | e :: l, k :: ks, h, hn => by
    have h1 : He.keyOf e :: l.map He.keyOf = some (k, PyData.keyHash P k) :: He.keysIn P ks := h
    injection h1 with h2 h3
    simp only [List.mem_cons, not_or] at hn
    obtain ⟨i1, i2⟩ := keyOf_not h3 hn.2
    unfold He.keyOf at h2
    split at h2
    · rename_i x t q
      have h4 := Option.some.inj h2
      obtain ⟨rfl, _⟩ := Prod.mk.inj h4
      have e1 : e.key.isStr z = false := by
        rw [q]
        have : ¬ x = z := fun q => hn.1 q.symm
        simp [Value.isStr, this]
      have e2 : e.refKey = false := by simp [DictEntry.refKey, q]
      simp [List.find?_cons, e1, e2, i1, i2]
    · cases h2
theorem KDc.of {K : PySem.W.Frag} {w : World} {h : Heap} {mg : Str → Option Value} {x : Str} {ks : List Str} {ds : List D} (X : K.In h) (G : h.Ns mainGlobals mg) (c : (He.Fa.glo x).ok K = true) (t : He.dicW K (He.ga K x) = some (He.keysIn w.params ks)) (b : tabB K x ks ds = true) : Nonempty (KDc K w mg x ks ds) := by
  obtain ⟨b1, b2⟩ := He.ba b
  obtain ⟨es, n, kd⟩ := He.dicW_ok t
  refine ⟨⟨He.ga K x, es, n, He.glo_ok X G c, kd, fun z d e => ?_, fun z e => ?_⟩⟩
  · have := List.all_eq_true.mp b2 (z, d) (lookS_mem e)
    cases hn : PySem.W.nsIn K (He.ga K x) z with
    | none => simp [hn] at this
    | some r =>
      cases r with
      | none => simp [hn] at this
      | some u =>
        simp only [hn] at this
        obtain ⟨v, h1, h2⟩ := dB_ok this
        exact ⟨u, v, rfl, h1, h2⟩
  · have hz := lookS_not (of_decide_eq_true b1) e
    have hk : es.toList.map He.keyOf = He.keysIn w.params ks := by
      unfold He.dicW at t
      rw [kd.at_] at t
      have hs : (He.ga K x == sysModules) = false := kd.low
      simp [hs] at t
      exact t
    obtain ⟨i1, i2⟩ := keyOf_not hk hz
    unfold PySem.W.nsIn
    rw [kd.at_]
    simp only [i1, i2]
    rfl
/-! classes -/
def clsB (K : PySem.W.Frag) (x : Str) (fl : List Str) : Bool := ((He.Fa.glo x).ok K && (He.Fa.cls x).ok K) && fl.all fun f => (He.Fa.noat x f).ok K
theorem CT.of {K : PySem.W.Frag} {h : Heap} {mg : Str → Option Value} {cl : String → Option Addr} {c : String} {x : Str} {fl : List Str} (X : K.In h) (G : h.Ns mainGlobals mg) (hc : cl c = some (He.ga K x)) (b : clsB K x fl = true) : ∃ T : CT K cl mg c x fl, T.C = He.ga K x := by
  obtain ⟨b1, b2⟩ := He.ba b
  obtain ⟨b3, b4⟩ := He.ba b1
  exact ⟨⟨He.ga K x, hc, He.cls_ok b4, fun f hf => He.noat_ok (List.all_eq_true.mp b2 f hf), He.glo_ok X G b3⟩, rfl⟩
def mAd (x m : Str) (K : PySem.W.Frag) : Addr := He.ma K (He.ga K x) m
def gAd (x : Str) (K : PySem.W.Frag) : Addr := He.ga K x
/-- a property's getter -/
def pAd (x m : Str) (K : PySem.W.Frag) : Addr := match PySem.W.recIn K (mAd x m K) "property" with
  | some (.ref g :: _) => g
  | _ => 0
theorem MT.of {K : PySem.W.Frag} {C : Addr} {x m q : Str} {st : Stmt} {ps : List Str} {fd : FuncData} (hC : C = He.ga K x) (F : FunD K m q (defArgs st) (defBody st) (defScope st) [] [] (mAd x m K) fd)
    (hb : ∀ (kV doc pm : Value) (an : Option Addr) (cdv ct : Value) (us : List Value), us.length = ps.length → bindArgs (PySem.W.fnOf m q (defArgs st) (defBody st) (defScope st) .none kV doc pm an cdv ct) ⟨us, []⟩ = pure (ps.zip us))
    (c : (He.Fa.meth x m).ok K = true) : Nonempty (MT K C m q st ps) := by
  subst hC
  exact ⟨⟨_, fd, F, FunD.bindsN F hb, He.meth_ok c⟩⟩
theorem IT.of {K : PySem.W.Frag} {C : Addr} {x q : Str} {st : Stmt} {ps : List Str} {fd : FuncData} (hC : C = He.ga K x) (F : FunD K "__init__" q (defArgs st) (defBody st) (defScope st) [] [] (mAd x "__init__" K) fd)
    (hb : ∀ (kV doc pm : Value) (an : Option Addr) (cdv ct : Value) (us : List Value), us.length = ps.length → bindArgs (PySem.W.fnOf "__init__" q (defArgs st) (defBody st) (defScope st) .none kV doc pm an cdv ct) ⟨us, []⟩ = pure (ps.zip us))
    (c : (He.Fa.mkr x).ok K = true) : Nonempty (IT K C q st ps) := by
  subst hC
  exact ⟨⟨_, fd, F, FunD.bindsN F hb, He.mkr_ok c⟩⟩
def propB (K : PySem.W.Frag) (x m : Str) : Bool := (He.eqO (PySem.W.findIn K (.ref (He.ga K x)) m) (some (some (.ref (mAd x m K)))) && He.eqO (PySem.W.specialIn K (.ref (mAd x m K)) "__get__") (some (some (.builtin "property.__get__")))) &&
  (decide (PySem.W.takesIn K (.ref (mAd x m K)) = some true) && (match PySem.W.recIn K (mAd x m K) "property" with
    | some (.ref _ :: _) => true
    | _ => false))
theorem RT.of {K : PySem.W.Frag} {C : Addr} {x m q : Str} {st : Stmt} {ps : List Str} {fd : FuncData} (hC : C = He.ga K x) (F : FunD K m q (defArgs st) (defBody st) (defScope st) [] [] (pAd x m K) fd)
    (hb : ∀ (kV doc pm : Value) (an : Option Addr) (cdv ct : Value) (us : List Value), us.length = ps.length → bindArgs (PySem.W.fnOf m q (defArgs st) (defBody st) (defScope st) .none kV doc pm an cdv ct) ⟨us, []⟩ = pure (ps.zip us))
    (c : propB K x m = true) : Nonempty (RT K C m q st ps) := by
  subst hC
  obtain ⟨c1, c2⟩ := He.ba c
  obtain ⟨c3, c4⟩ := He.ba c1
  obtain ⟨c5, c6⟩ := He.ba c2
  refine ⟨⟨mAd x m K, _, fd, F, FunD.bindsN F hb, ⟨He.eqO_ok c3, He.eqO_ok c4, of_decide_eq_true c5, ?_⟩⟩⟩
  unfold pAd
  split at c6
  · rename_i g rest e
    rw [e]
    exact ⟨rest, rfl⟩
  · cases c6
theorem FT.ofH {K : PySem.W.Frag} {h : Heap} {mg : Str → Option Value} (X : K.In h) (G : h.Ns mainGlobals mg) {x : Str} {st : Stmt} {ps : List Str} {fd : FuncData} (F : FunD K x x (defArgs st) (defBody st) (defScope st) [] [] (gAd x K) fd)
    (hb : ∀ (kV doc pm : Value) (an : Option Addr) (cdv ct : Value) (us : List Value), us.length = ps.length → bindArgs (PySem.W.fnOf x x (defArgs st) (defBody st) (defScope st) .none kV doc pm an cdv ct) ⟨us, []⟩ = pure (ps.zip us))
    (c : (He.Fa.glo x).ok K = true) : Nonempty (FT K mg x st ps) := ⟨⟨_, fd, F, FunD.bindsN F hb, He.glo_ok X G c⟩⟩
theorem FK.ofH {K : PySem.W.Frag} {h : Heap} {mg : Str → Option Value} (X : K.In h) (G : h.Ns mainGlobals mg) {x : Str} {st : Stmt} {ps : List Str} {fd : FuncData} {n : Nat} {ks : List Str} (F : FunD K x x (defArgs st) (defBody st) (defScope st) [] (ks.map fun k => (k, V.non)) (gAd x K) fd) (hk : ks ≠ []) (hn : n + ks.length = ps.length)
    (h0 : ∀ (D : Addr) (doc pm : Value) (an : Option Addr) (cdv ct : Value) (us zs : List Value), us.length = n → zs.length = ks.length → KwChain D (ks.zip zs) (bindArgs (PySem.W.fnOf x x (defArgs st) (defBody st) (defScope st) .none (.ref D) doc pm an cdv ct) ⟨us, []⟩) (ps.zip (us ++ zs)))
    (h1 : ∀ (D : Addr) (doc pm : Value) (an : Option Addr) (cdv ct : Value) (us ws : List Value), us.length = n → ws.length = ks.length → KwChain D [] (bindArgs (PySem.W.fnOf x x (defArgs st) (defBody st) (defScope st) .none (.ref D) doc pm an cdv ct) ⟨us, ks.zip ws⟩) (ps.zip (us ++ ws)))
    (c : (He.Fa.glo x).ok K = true) : Nonempty (FK K mg x st ps n ks) := by
  have hk2 : (ks.map fun k => (k, V.non)) ≠ [] := by simpa using hk
  obtain ⟨dus, bv, bd⟩ := FunD.binds0 (ps := ps) F n hk2 (by simpa using hn) fun D doc pm an cdv ct us zs hu hz => by
    have := h0 D doc pm an cdv ct us zs hu (by simpa using hz)
    have e : (ks.map fun k => (k, V.non)).map (·.1) = ks := by rw [List.map_map]; exact List.map_id ks
    rw [e]
    exact this
  obtain ⟨mv, kb⟩ := FunD.kbinds0 (ps := ps) F n ks [] (fun vs _ zs => vs ++ zs) hk2 (by simp) (fun a _ b => a.append b) fun D doc pm an cdv ct us mv ws hu hm hw => by
    have := h1 D doc pm an cdv ct us ws hu hw
    simpa using this
  exact ⟨⟨_, fd, F, dus, by rw [List.map_map] at bv; exact bv, bd, _, kb, He.glo_ok X G c⟩⟩
end VL

/-! a def whose arguments and answer have nothing of the store: it may be reckoned in an empty one -/
namespace VL
open PySem PySem.Spec PyProof.Rows L2
mutual
def clo : D → Bool
  | .ref _ => false
  | .tup xs => clos xs
  | .ctp xs => clos xs
  | .lst xs => clos xs
  | .dic _ vs => clos vs
  | .dct _ vs => clos vs
  | .obj _ _ vs => clos vs
  | .non => true
  | .bl _ => true
  | .int _ => true
  | .str _ => true
  | .ty _ => true
  | .scr _ => true
  | .kref _ => true
def clos : List D → Bool
  | [] => true
  | d :: ds => clo d && clos ds
end
section
variable {g : G} {m m' : Mp} {H : Hp}
mutual
theorem RV.mv (hu : ∀ a o, H a = some o → Un m a → Un m' a) : ∀ {d : D} {v : V}, clo d = true → RV g m H d v → RV g m' H d v
  | .non, v, _, h => by rw [of_non h]; exact rv_non
  | .bl b, v, _, h => by rw [of_bl h]; exact rv_bl
  | .int b, v, _, h => by rw [of_int h]; exact rv_int
  | .str b, v, _, h => by rw [of_str h]; exact rv_str
  | .ty b, v, _, h => by unfold RV at h ⊢; exact h
  | .ref n, v, c, h => by simp [clo] at c
  | .kref n, v, _, h => by unfold RV at h ⊢; exact h
  | .scr ns, v, _, h => by
    unfold RV at h ⊢
    obtain ⟨a, rfl, h⟩ := h
    refine ⟨a, rfl, ?_⟩
    rcases h with ⟨⟨o, h1⟩, h2⟩ | h
    · exact .inl ⟨⟨o, h1⟩, hu a _ h1 h2⟩
    · exact .inr h
  | .tup xs, v, c, h => by
    unfold RV at h ⊢
    obtain ⟨a, vs, rfl, ⟨h1, h2⟩, h3⟩ := h
    exact ⟨a, vs, rfl, ⟨h1, hu a _ h1 h2⟩, RVs.mv hu (by simpa [clo] using c) h3⟩
  | .ctp xs, v, c, h => by
    unfold RV at h ⊢
    obtain ⟨a, vs, rfl, h1, h3⟩ := h
    exact ⟨a, vs, rfl, h1, RVs.mv hu (by simpa [clo] using c) h3⟩
  | .lst xs, v, c, h => by
    unfold RV at h ⊢
    obtain ⟨a, vs, rfl, h1, h2, h3⟩ := h
    exact ⟨a, vs, rfl, h1, hu a _ h1 h2, RVs.mv hu (by simpa [clo] using c) h3⟩
  | .dic ks xs, v, c, h => by
    unfold RV at h ⊢
    obtain ⟨a, vs, rfl, h1, h2, h3, h4⟩ := h
    exact ⟨a, vs, rfl, h1, h1.elim (fun z => hu a _ z h2) (fun ⟨o, z⟩ => hu a _ z h2), h3, RVs.mv hu (by simpa [clo] using c) h4⟩
  | .dct ks xs, v, c, h => by
    unfold RV at h ⊢
    obtain ⟨a, vs, rfl, h1, h2, h3, h4⟩ := h
    exact ⟨a, vs, rfl, h1, h1.elim (fun z => hu a _ z h2) (fun ⟨o, z⟩ => hu a _ z h2), h3, RVs.mv hu (by simpa [clo] using c) h4⟩
  | .obj cn ns xs, v, c, h => by
    unfold RV at h ⊢
    obtain ⟨a, C, dx, fs, rfl, h0, h1, h2, h3, h4⟩ := h
    exact ⟨a, C, dx, fs, rfl, h0, h1, hu a _ h1 h2, h3, RVs.mv hu (by simpa [clo] using c) h4⟩
theorem RVs.mv (hu : ∀ a o, H a = some o → Un m a → Un m' a) : ∀ {ds : List D} {vs : List V}, clos ds = true → RVs g m H ds vs → RVs g m' H ds vs
  | [], vs, _, h => by rw [h.nil_iff]; exact .nil
  | d :: ds, vs, c, h => by
    obtain ⟨v, r, rfl, h1, h2⟩ := h.cons_iff
    obtain ⟨c1, c2⟩ := He.ba (show (clo d && clos ds) = true from c)
    exact .cons (RV.mv hu c1 h1) (RVs.mv hu c2 h2)
end
end
def closeF (F : List D → Sto → R D) : List D → Sto → R D := fun ds S => if clos ds = true then (match F ds [] with
  | .ok d _ => if clo d = true then .ok d S else .bad
  | _ => .bad) else F ds S
/-- what the store has: in the making, as seen from within -/
def Mp.shut (m : Mp) : Mp := ⟨[], m.o ++ (m.l.filter (·.2)).map (·.1), []⟩
section
variable {g : G} {m : Mp} {S : Sto} {H : Hp}
theorem shut_mem {a : Addr} : a ∈ m.shut.o ↔ a ∈ m.o ∨ ∃ n : Nat, m.l[n]? = some (a, true) := by
  show a ∈ m.o ++ (m.l.filter (·.2)).map (·.1) ↔ _
  rw [List.mem_append]
  refine or_congr Iff.rfl ?_
  rw [List.mem_map]
  constructor
  · rintro ⟨⟨b, c⟩, h1, rfl⟩
    obtain ⟨h2, h3⟩ := List.mem_filter.mp h1
    obtain ⟨n, hn⟩ := List.mem_iff_getElem?.mp h2
    have h3' : c = true := h3
    subst h3'
    exact ⟨n, hn⟩
  · rintro ⟨n, hn⟩
    exact ⟨(a, true), List.mem_filter.mpr ⟨List.mem_iff_getElem?.mpr ⟨n, hn⟩, rfl⟩, rfl⟩
theorem un_shut {a : Addr} (h : Un m a) : Un m.shut a := ⟨fun n => by simp [Mp.shut], fun z => by
  rcases shut_mem.mp z with z | ⟨n, z⟩
  · exact h.2 z
  · exact h.1 n z⟩
theorem un_open {m' : Mp} {a : Addr} (h : Un m' a) (e : m'.o = m.shut.o) : Un m a := by
  have h2 := h.2
  rw [e] at h2
  exact ⟨fun n z => h2 (shut_mem.mpr (.inr ⟨n, z⟩)), fun z => h2 (shut_mem.mpr (.inl z))⟩
theorem rel_shut (hJ : ∀ m H, g.J m H) (r : Rel g m S H) : Rel g m.shut [] H := by
  refine ⟨rfl, fun n k a h => by simp [Mp.shut] at h, fun n a ob h => by simp [Mp.shut] at h, fun n a h => by simp [Mp.shut] at h, fun a ha => ⟨?_, fun n => by simp [Mp.shut]⟩, fun x hx => by simp [Mp.shut] at hx, hJ _ _⟩
  rcases shut_mem.mp ha with z | ⟨n, z⟩
  · exact (r.prv a z).1
  · have hn : n < S.length := by rw [← r.len]; exact (List.getElem?_eq_some_iff.mp z).1
    obtain ⟨o, e, _⟩ := r.ob n a S[n] z (List.getElem?_eq_getElem hn)
    exact ⟨o, e⟩
theorem ext_shut {m' : Mp} {H' : Hp} (r : Rel g m S H) (e : Ext g m.shut H m' H') : Ext g m H m H' := by
  refine .of ⟨fun n a b h => ⟨b, h, fun z => z⟩, fun a o h u => ⟨u, (e.own a o h (un_shut u)).2⟩⟩ rfl (fun a ha => e.keep a (shut_mem.mpr (.inl ha))) rfl fun x hx => e.keep x.2 (shut_mem.mpr (.inr ⟨x.1, (r.lks x hx).1⟩))
theorem rel_open (hJ : ∀ m H, g.J m H) {m' : Mp} {H' : Hp} (r : Rel g m S H) (e : Ext g m.shut H m' H') : Rel g m S H' := by
  have ee := ext_shut r e
  refine ⟨r.len, r.inj, fun n a ob h1 h2 => ?_, r.gone, fun a ha => ⟨?_, (r.prv a ha).2⟩, r.lks, hJ _ _⟩
  · obtain ⟨o, e1, e2⟩ := r.ob n a ob h1 h2
    refine ⟨o, ?_, e2.ext ee⟩
    rw [e.keep a (shut_mem.mpr (.inr ⟨n, h1⟩))]
    exact e1
  · obtain ⟨o, e1⟩ := (r.prv a ha).1
    exact ⟨o, by rw [e.keep a (shut_mem.mpr (.inl ha))]; exact e1⟩
theorem close_sp (hJ : ∀ m H, g.J m H) {n : Nat} {F : List D → Sto → R D} {vs : List V} {Q : VK} {E : XK} (h : spD g n (closeF F) vs H Q E) : spD g n F vs H Q E := by
  obtain ⟨hl, m, S, ds, r, rv, q⟩ := h
  unfold closeF at q
  split at q
  · rename_i hc
    refine ⟨hl, m.shut, [], ds, rel_shut hJ r, RVs.mv (fun a o _ u => un_shut u) hc rv, ?_⟩
    split at q
    · rename_i d S' ed
      rw [ed]
      split at q
      · rename_i hd
        intro m' H' e r' v rv'
        exact q.at (ext_shut r e) (rel_open hJ r e) v (RV.mv (fun a o _ u => un_open u e.priv) hd rv')
      · exact q.elim
    · exact q.elim
  · exact ⟨hl, m, S, ds, r, rv, q⟩
theorem fn_close (hJ : ∀ m H, g.J m H) {P : Program} {w : World} {K : PySem.W.Frag} {mg : Str → Option Value} {base : Heap} {CX : CXT} {k n : Nat} {f : Addr} {fd : FuncData} {ps : List Str} {F : List D → Sto → R D} (h : FnOk P w K mg base CX k f fd ps (spD g n F)) : FnOk P w K mg base CX k f fd ps (spD g n (closeF F)) :=
  ⟨fun vs H Q E z => h.len vs H Q E (close_sp hJ z), fun A outer s H args us vs Q E hr h0 hb hv z => h.run A outer s H args us vs Q E hr h0 hb hv (close_sp hJ z)⟩
end
end VL

/-! reckoning with mirrors: Ok r Q, the run r ends well and Q holds of its end -/
namespace VL
open PySem PySem.Spec PyProof.Rows L2
section
variable {a b : Type} {Q Q' : a → Sto → Prop}
theorem Ok_ok (x : a) (S : Sto) : Ok (.ok x S) Q = Q x S := propext ⟨fun h => by obtain ⟨y, S', e, q⟩ := h.out; cases e; exact q, fun h => ⟨x, S, rfl, h⟩⟩
theorem Ok_bad : Ok (.bad : R a) Q = False := propext ⟨fun h => (by obtain ⟨y, S', e, q⟩ := h.out; cases e), fun h => h.elim⟩
theorem Ok_exc (c : String) (fs : List (Str × D)) (S : Sto) : Ok (.exc c fs S : R a) Q = False := propext ⟨fun h => (by obtain ⟨y, S', e, q⟩ := h.out; cases e), fun h => h.elim⟩
theorem Ok_bind (r : R b) (k : b → Sto → R a) : Ok (r.bind k) Q = Ok r fun x S => Ok (k x S) Q := by cases r <;> simp only [R.bind_ok, R.bind_exc, R.bind_bad, Ok_ok, Ok_exc, Ok_bad]
theorem Ok_calm (r : R a) : Ok r.calm Q = Ok r Q := by
  cases r with
  | exc c fs S => rw [Ok_exc, show (R.exc c fs S : R a).calm = .bad from rfl, Ok_bad]
  | _ => rfl
theorem Ok_ite (c : Prop) [Decidable c] (x y : R a) : Ok (if c then x else y) Q = if c then Ok x Q else Ok y Q := by split <;> rfl
theorem Ok.mono {r : R a} (h : Ok r Q) (k : ∀ x S, Q x S → Q' x S) : Ok r Q' := by
  obtain ⟨x, S, e, q⟩ := h.out
  exact ⟨x, S, e, k x S q⟩
theorem Ok_at {r : R a} {x : a} {S : Sto} (e : r = .ok x S) : Ok r Q = Q x S := by rw [e, Ok_ok]
end
section
variable {L : Lc} {S : Sto} {Q : D → Sto → Prop} {Qb : Bool → Sto → Prop} {Ql : List D → Sto → Prop} {Qf : Fl → Sto → Prop} {Qg : Lc → Sto → Prop} {Qw : Wk → Sto → Prop}
theorem ok_eC (d : D) : Ok (eC d L S) Q = Q d S := Ok_ok _ _
theorem ok_eUn (f : D → Sto → R D) (x : Lc → Sto → R D) : Ok (eUn f x L S) Q = Ok (x L S) fun d S1 => Ok (f d S1) Q := by simp only [eUn, Ok_bind]
theorem ok_eBin (f : D → D → Sto → R D) (x y : Lc → Sto → R D) : Ok (eBin f x y L S) Q = Ok (x L S) fun d S1 => Ok (y L S1) fun d' S2 => Ok (f d d' S2) Q := by simp only [eBin, Ok_bind]
theorem ok_aNil : Ok (aNil L S) Ql = Ql [] S := Ok_ok _ _
theorem ok_aCons (x : Lc → Sto → R D) (y : Lc → Sto → R (List D)) : Ok (aCons x y L S) Ql = Ok (x L S) fun d S1 => Ok (y L S1) fun ds S2 => Ql (d :: ds) S2 := by simp only [aCons, Ok_bind, Ok_ok]
theorem ok_eCall (f : List D → Sto → R D) (x : Lc → Sto → R (List D)) : Ok (eCall f x L S) Q = Ok (x L S) fun d S1 => Ok (f d S1) Q := by simp only [eCall, Ok_bind]
theorem ok_newL {xs : List D} : Ok (newL xs S) Q = (xs.length ≤ sizeLine ∧ Q (.lst xs) S) := by
  unfold newL
  by_cases h : xs.length ≤ sizeLine
  · rw [if_pos h, Ok_ok]; simp [h]
  · rw [if_neg h, Ok_bad]; simp [h]
theorem ok_newM {xs : List D} : Ok (newM xs S) Q = (xs.length ≤ sizeLine ∧ Q (.ref S.length) (S ++ [.lst xs])) := by
  unfold newM
  by_cases h : xs.length ≤ sizeLine
  · rw [if_pos h, Ok_ok]; simp [h]
  · rw [if_neg h, Ok_bad]; simp [h]
theorem ok_eTup (x : Lc → Sto → R (List D)) : Ok (eTup x L S) Q = Ok (x L S) fun ds S1 => ds.length ≤ sizeLine ∧ Q (.tup ds) S1 := by
  simp only [eTup, Ok_bind, Ok_ite]
  congr 1
  funext ds S1
  by_cases h : ds.length ≤ sizeLine <;> simp [h, Ok_ok, Ok_bad]
theorem ok_eLst (x : Lc → Sto → R (List D)) : Ok (eLst x L S) Q = Ok (x L S) fun ds S1 => ds.length ≤ sizeLine ∧ Q (.lst ds) S1 := by simp only [eLst, Ok_bind, ok_newL]
theorem ok_eLstM (x : Lc → Sto → R (List D)) : Ok (eLstM x L S) Q = Ok (x L S) fun ds S1 => ds.length ≤ sizeLine ∧ Q (.ref S1.length) (S1 ++ [.lst ds]) := by simp only [eLstM, Ok_bind, ok_newM]
theorem ok_eAnd (x y : Lc → Sto → R D) : Ok (eAnd x y L S) Q = Ok (x L S) fun d S1 => Ok (truD d S1) fun c S2 => if c = true then Ok (y L S2) Q else Q d S2 := by simp only [eAnd, Ok_bind, Ok_ite, Ok_ok]
theorem ok_eOr (x y : Lc → Sto → R D) : Ok (eOr x y L S) Q = Ok (x L S) fun d S1 => Ok (truD d S1) fun c S2 => if c = true then Q d S2 else Ok (y L S2) Q := by simp only [eOr, Ok_bind, Ok_ite, Ok_ok]
theorem ok_eNot (x : Lc → Sto → R D) : Ok (eNot x L S) Q = Ok (x L S) fun d S1 => Ok (truD d S1) fun c S2 => Q (.bl (!c)) S2 := by simp only [eNot, Ok_bind, Ok_ok]
theorem ok_eIf (t : Lc → Sto → R Bool) (x y : Lc → Sto → R D) : Ok (eIf t x y L S) Q = Ok (t L S) fun c S1 => if c = true then Ok (x L S1) Q else Ok (y L S1) Q := by simp only [eIf, Ok_bind, Ok_ite]
theorem ok_tTru (x : Lc → Sto → R D) : Ok (tTru x L S) Qb = Ok (x L S) fun d S1 => Ok (truD d S1) Qb := by simp only [tTru, Ok_bind]
theorem ok_tBl (x : Lc → Sto → R D) : Ok (tBl x L S) Qb = Ok (x L S) fun d S1 => match d with | .bl b => Qb b S1 | _ => False := by
  simp only [tBl, Ok_bind]
  congr 1
  funext d S1
  cases d <;> simp only [Ok_ok, Ok_bad]
theorem ok_tAnd2 (x y : Lc → Sto → R Bool) : Ok (tAnd2 x y L S) Qb = Ok (x L S) fun c S1 => if c = true then Ok (y L S1) Qb else Qb false S1 := by simp only [tAnd2, Ok_bind, Ok_ite, Ok_ok]
theorem ok_tOr2 (x y : Lc → Sto → R Bool) : Ok (tOr2 x y L S) Qb = Ok (x L S) fun c S1 => if c = true then Qb true S1 else Ok (y L S1) Qb := by simp only [tOr2, Ok_bind, Ok_ite, Ok_ok]
theorem ok_tNot1 (x : Lc → Sto → R Bool) : Ok (tNot1 x L S) Qb = Ok (x L S) fun c S1 => Qb (!c) S1 := by simp only [tNot1, Ok_bind, Ok_ok]
theorem ok_sNx : Ok (sNx L S) Qf = Qf (.nx L) S := Ok_ok _ _
theorem ok_sSeq (x y : SF) : Ok (sSeq x y L S) Qf = Ok (x L S) fun f S1 => match f with | .nx L1 => Ok (y L1 S1) Qf | f => Qf f S1 := by
  simp only [sSeq, Ok_bind]
  congr 1
  funext f S1
  cases f <;> simp only [Ok_ok]
theorem ok_sSet (i : Nat) (x : Lc → Sto → R D) : Ok (sSet i x L S) Qf = Ok (x L S) fun d S1 => Qf (.nx (L.set i (some d))) S1 := by simp only [sSet, Ok_bind, Ok_ok]
theorem ok_sRet (x : Lc → Sto → R D) : Ok (sRet x L S) Qf = Ok (x L S) fun d S1 => Qf (.rt d) S1 := by simp only [sRet, Ok_bind, Ok_ok]
theorem ok_sDrop (x : Lc → Sto → R D) : Ok (sDrop x L S) Qf = Ok (x L S) fun _ S1 => Qf (.nx L) S1 := by simp only [sDrop, Ok_bind, Ok_ok]
theorem ok_sIf (t : Lc → Sto → R Bool) (x y : SF) : Ok (sIf t x y L S) Qf = Ok (t L S) fun c S1 => if c = true then Ok (x L S1) Qf else Ok (y L S1) Qf := by simp only [sIf, Ok_bind, Ok_ite]
theorem ok_sAsg (x : Lc → Sto → R D) (t : D → Lc → Sto → R Lc) : Ok (sAsg x t L S) Qf = Ok (x L S) fun d S1 => Ok (t d L S1) fun L2 S2 => Qf (.nx L2) S2 := by simp only [sAsg, Ok_bind, Ok_ok]
theorem ok_gNm (i : Nat) (d : D) : Ok (gNm i d L S) Qg = Qg (L.set i (some d)) S := Ok_ok _ _
theorem ok_gIx (o i : Lc → Sto → R D) (f : D → D → D → Sto → R Unit) (d : D) : Ok (gIx o i f d L S) Qg = Ok (o L S) fun x S1 => Ok (i L S1) fun y S2 => Ok (f x y d S2) fun _ S3 => Qg L S3 := by simp only [gIx, Ok_bind, Ok_ok]
theorem ok_tYesD : Ok (tYesD L S) Qb = Qb true S := Ok_ok _ _
theorem ok_wAk (wk : DW) (x : Lc → Sto → R D) : Ok (wAk wk x L S) Qw = Ok (x L S) fun d S1 => Ok (wkA wk d S1) Qw := by simp only [wAk, Ok_bind]
theorem ok_eSl (x : Lc → Sto → R D) (lo hi : Lc → Sto → R (Option Int)) : Ok (eSl x lo hi L S) Q = Ok (x L S) fun d S1 => Ok (lo L S1) fun l S2 => Ok (hi L S2) fun h S3 => Ok (slD d l h S3) Q := by simp only [eSl, Ok_bind]
theorem ok_eVar (i : Nat) : Ok (eVar i L S) Q = match L[i]? with | some (some d) => Q d S | _ => False := by
  unfold eVar
  cases L[i]? with
  | none => exact Ok_bad
  | some o => cases o <;> simp only [Ok_ok, Ok_bad]
theorem ok_truD_bl (c : Bool) : Ok (truD (.bl c) S) Qb = Qb c S := Ok_ok _ _
theorem ok_pNo {Qp : Option Int → Sto → Prop} : Ok (pNo L S) Qp = Qp none S := Ok_ok _ _
theorem ok_pSo {Qp : Option Int → Sto → Prop} (x : Lc → Sto → R D) : Ok (pSo x L S) Qp = Ok (x L S) fun d S1 => match d with | .int i => Qp (some i) S1 | _ => False := by
  simp only [pSo, Ok_bind]
  congr 1
  funext d S1
  cases d <;> simp only [Ok_ok, Ok_bad]
theorem ok_ari {n : Nat} {F : List D → Sto → R D} {ds : List D} (h : ds.length = n) : Ok (ari n F ds S) Q = Ok (F ds S) Q := by unfold ari; rw [if_pos h]
theorem ari0 {F : List D → Sto → R D} : ari 0 F [] S = F [] S := rfl
theorem ari1 {F : List D → Sto → R D} {a : D} : ari 1 F [a] S = F [a] S := rfl
theorem ari2 {F : List D → Sto → R D} {a b : D} : ari 2 F [a, b] S = F [a, b] S := rfl
theorem ari3 {F : List D → Sto → R D} {a b c : D} : ari 3 F [a, b, c] S = F [a, b, c] S := rfl
theorem ari4 {F : List D → Sto → R D} {a b c d : D} : ari 4 F [a, b, c, d] S = F [a, b, c, d] S := rfl
theorem ari5 {F : List D → Sto → R D} {a b c d e : D} : ari 5 F [a, b, c, d, e] S = F [a, b, c, d, e] S := rfl
theorem ok_dDef {n : Nat} {fb : SF} {ds : List D} : Ok (dDef n fb ds S) Q = Ok (fb (ds.map some ++ List.replicate (n - ds.length) none) S) fun f S' => match f with | .rt d => Q d S' | .nx _ => Q .non S' | _ => False := by
  simp only [dDef, Ok_bind]
  congr 1
  funext f S1
  cases f <;> simp only [Ok_ok, Ok_bad]
theorem ok_sFor {w : Lc → Sto → R Wk} {t : D → Lc → Sto → R Lc} {fb : SF} : Ok (sFor w t fb L S) Qf = Ok (w L S) fun W S1 => Ok (forL W.ok t fb W.ds L S1) Qf := by simp only [sFor, Ok_bind]
theorem ok_eLc {w : Lc → Sto → R Wk} {t : D → Lc → Sto → R Lc} {tt : Lc → Sto → R Bool} {te : Lc → Sto → R D} {vs : List Nat} : Ok (eLc w t tt te vs L S) Q = Ok (w L S) fun W S1 => Ok (lcL W.ok t tt te (wipeL L vs) W.ds [] S1) Q := by simp only [eLc, Ok_bind]
theorem ok_eChain (f f' : D → D → Sto → R D) (a b c : Lc → Sto → R D) : Ok (eChain f f' a b c L S) Q = Ok (a L S) fun x S1 => Ok (b L S1) fun y S2 => Ok (f x y S2) fun z S3 => match z with | .bl true => Ok (c L S3) fun w S4 => Ok (f' y w S4) Q | .bl false => Q (.bl false) S3 | _ => False := by
  simp only [eChain, Ok_bind]
  congr 1
  funext x S1
  congr 1
  funext y S2
  congr 1
  funext z S3
  cases z with
  | bl q => cases q <;> simp only [Ok_ok, Ok_bind, if_true, Bool.false_eq_true, if_false]
  | _ => simp only [Ok_bad]
theorem ok_sMatch (e : Lc → Sto → R D) (f : D → SF) : Ok (sMatch e f L S) Qf = Ok (e L S) fun d S1 => Ok (f d L S1) Qf := by simp only [sMatch, Ok_bind]
theorem ok_mCase (i : Nat) (t : Lc → Sto → R Bool) (b : SF) (rest : D → SF) (d : D) : Ok (mCase i t b rest d L S) Qf = Ok (t (L.set i (some d)) S) fun k S1 => if k = true then Ok (b (L.set i (some d)) S1) Qf else Ok (rest d (L.set i (some d)) S1) Qf := by simp only [mCase, Ok_bind, Ok_ite]
theorem ok_mElse (b : SF) (d : D) : Ok (mElse b d L S) Qf = Ok (b L S) Qf := rfl
theorem ok_gCons2 (t : D → Lc → Sto → R Lc) (u : List D → Lc → Sto → R Lc) (d : D) (ds : List D) : Ok (gCons2 t u (d :: ds) L S) Qg = Ok (t d L S) fun L1 S1 => Ok (u ds L1 S1) Qg := by simp only [gCons2, Ok_bind]
theorem ok_gNil2 : Ok (gNil2 [] L S) Qg = Qg L S := Ok_ok _ _
theorem ok_sPar2 (i j : Nat) (a : Lc → Sto → R (List D)) : Ok (sPar i j a L S) Qf = Ok (a L S) fun ds S1 => match ds with | [v, w] => Qf (.nx ((L.set i (some v)).set j (some w))) S1 | _ => False := by
  simp only [sPar, Ok_bind]
  congr 1
  funext ds S1
  rcases ds with _ | ⟨a, _ | ⟨b, _ | ⟨c, ds⟩⟩⟩ <;> simp only [Ok_ok, Ok_bad]
end
/-- a loop by what holds ahead of each turn -/
theorem for_inv {ok : Sto → Bool} {t : D → Lc → Sto → R Lc} {fb : SF} {Q : Fl → Sto → Prop} (I : List D → Lc → Sto → Prop)
    (step : ∀ d ds L S, I (d :: ds) L S → ok S = true ∧ Ok (t d L S) fun L1 S1 => Ok (fb L1 S1) fun f S2 => match f with
      | .nx L2 => I ds L2 S2
      | .ct L2 => I ds L2 S2
      | .bk L2 => Q (.nx L2) S2
      | .rt v => Q (.rt v) S2)
    (fin : ∀ L S, I [] L S → ok S = true ∧ Q (.nx L) S) : ∀ (ds : List D) (L : Lc) (S : Sto), I ds L S → Ok (forL ok t fb ds L S) Q
  | [], L, S, h => by
    obtain ⟨h1, h2⟩ := fin L S h
    unfold forL
    rw [if_pos h1, Ok_ok]
    exact h2
  | d :: ds, L, S, h => by
    obtain ⟨h1, h2⟩ := step d ds L S h
    unfold forL
    rw [if_pos h1, Ok_bind]
    refine h2.mono fun L1 S1 h3 => ?_
    rw [Ok_bind]
    refine h3.mono fun f S2 h4 => ?_
    cases f with
    | nx L2 => exact for_inv I step fin ds L2 S2 h4
    | ct L2 => exact for_inv I step fin ds L2 S2 h4
    | bk L2 => simp only [Ok_ok]; exact h4
    | rt v => simp only [Ok_ok]; exact h4
/-- a list comprehension by what holds ahead of each turn: the items left, the new list so far -/
theorem lc_inv {ok : Sto → Bool} {t : D → Lc → Sto → R Lc} {tt : Lc → Sto → R Bool} {te : Lc → Sto → R D} {L : Lc} {Q : D → Sto → Prop} (I : List D → List D → Sto → Prop)
    (step : ∀ d ds acc S, I (d :: ds) acc S → ok S = true ∧ Ok (t d L S) fun L1 S1 => Ok (tt L1 S1) fun c S2 => if c = true then Ok (te L1 S2) fun y S3 => acc.length < sizeLine ∧ I ds (acc ++ [y]) S3 else I ds acc S2)
    (fin : ∀ acc S, I [] acc S → ok S = true ∧ Q (.lst acc) S) : ∀ (ds acc : List D) (S : Sto), I ds acc S → Ok (lcL ok t tt te L ds acc S) Q
  | [], acc, S, h => by
    obtain ⟨h1, h2⟩ := fin acc S h
    unfold lcL
    rw [if_pos h1, Ok_ok]
    exact h2
  | d :: ds, acc, S, h => by
    obtain ⟨h1, h2⟩ := step d ds acc S h
    unfold lcL
    rw [if_pos h1, Ok_bind, Ok_calm]
    refine h2.mono fun L1 S1 h3 => ?_
    rw [Ok_bind, Ok_calm]
    refine h3.mono fun c S2 h4 => ?_
    cases c with
    | false => exact lc_inv I step fin ds acc S2 h4
    | true =>
      simp only [if_true] at h4 ⊢
      rw [Ok_bind, Ok_calm]
      refine h4.mono fun y S3 h5 => ?_
      obtain ⟨hz, h6⟩ := h5
      rw [if_pos hz]
      exact lc_inv I step fin ds (acc ++ [y]) _ h6
/-- the map of a comprehension whose element changes nothing -/
theorem lc_map {ok : Sto → Bool} {t : D → Lc → Sto → R Lc} {te : Lc → Sto → R D} {L : Lc} {S : Sto} (f : D → D) (hok : ok S = true) : ∀ (ds acc : List D), acc.length + ds.length ≤ sizeLine →
    (∀ d ∈ ds, Ok (t d L S) fun L1 S1 => S1 = S ∧ te L1 S = .ok (f d) S) → lcL ok t tYesD te L ds acc S = .ok (.lst (acc ++ ds.map f)) S
  | [], acc, _, _ => by
    unfold lcL
    rw [if_pos hok]
    simp
  | d :: ds, acc, hl, h => by
    obtain ⟨L1, S1, e1, rfl, e2⟩ := (h d (by simp)).out
    unfold lcL
    rw [if_pos hok, e1]
    simp only [R.calm_ok, R.bind_ok, tYesD, if_true, e2]
    simp only [List.length_cons] at hl
    rw [if_pos (by omega), lc_map f hok ds (acc ++ [f d]) (by simp; omega) fun d' hd' => h d' (by simp [hd'])]
    simp
/-- .. of a bool, with all(..) -/
theorem lc_filter {ok : Sto → Bool} {t : D → Lc → Sto → R Lc} {tt : Lc → Sto → R Bool} {te : Lc → Sto → R D} {L : Lc} {S : Sto} (p : D → Bool) (f : D → D) (hok : ok S = true) : ∀ (ds acc : List D), acc.length + ds.length ≤ sizeLine →
    (∀ d ∈ ds, Ok (t d L S) fun L1 S1 => S1 = S ∧ tt L1 S = .ok (p d) S ∧ te L1 S = .ok (f d) S) → lcL ok t tt te L ds acc S = .ok (.lst (acc ++ (ds.filter p).map f)) S
  | [], acc, _, _ => by
    unfold lcL
    rw [if_pos hok]
    simp
  | d :: ds, acc, hl, h => by
    obtain ⟨L1, S1, e1, rfl, e2, e3⟩ := (h d (by simp)).out
    unfold lcL
    rw [if_pos hok, e1]
    simp only [R.calm_ok, R.bind_ok, e2]
    simp only [List.length_cons] at hl
    cases hp : p d with
    | true =>
      simp only [if_true, e3, R.calm_ok, R.bind_ok]
      rw [if_pos (by omega), lc_filter p f hok ds (acc ++ [f d]) (by simp; omega) fun d' hd' => h d' (by simp [hd'])]
      simp [hp]
    | false =>
      simp only [Bool.false_eq_true, if_false]
      rw [lc_filter p f hok ds acc (by omega) fun d' hd' => h d' (by simp [hd'])]
      simp [hp]
/-! stores that grow -/
def Grow (S S' : Sto) : Prop := ∃ t, S' = S ++ t
theorem Grow.refl (S : Sto) : Grow S S := ⟨[], by simp⟩
theorem Grow.trans {S S1 S2 : Sto} (a : Grow S S1) (b : Grow S1 S2) : Grow S S2 := by
  obtain ⟨t, rfl⟩ := a
  obtain ⟨u, rfl⟩ := b
  exact ⟨t ++ u, by simp⟩
theorem Grow.add (S : Sto) (t : Sto) : Grow S (S ++ t) := ⟨t, rfl⟩
theorem Grow.get {S S' : Sto} (h : Grow S S') {n : Nat} {o : Ob} (e : S[n]? = some o) : S'[n]? = some o := by
  obtain ⟨t, rfl⟩ := h
  rw [List.getElem?_append_left (List.getElem?_eq_some_iff.mp e).1]
  exact e
theorem Grow.len {S S' : Sto} (h : Grow S S') : S.length ≤ S'.length := by
  obtain ⟨t, rfl⟩ := h
  simp
/-! bits -/
theorem bits_le {x : Int} {n : Nat} (h : x.natAbs < 2 ^ n) : Builtin.Int.intBits x ≤ n := PyProof.Rows.intBits_le h
theorem lt_bits {x : Int} {n : Nat} (h : Builtin.Int.intBits x ≤ n) : x.natAbs < 2 ^ n := by
  unfold Builtin.Int.intBits at h
  by_cases h0 : x.natAbs = 0
  · rw [h0]
    exact Nat.pow_pos (by decide)
  · rw [if_neg (by intro e; exact h0 (Int.natAbs_eq_zero.mpr (beq_iff_eq.mp e)))] at h
    exact (Nat.log2_lt h0).mp (by omega)
theorem p64 : (2 : Nat) ^ 64 = 18446744073709551616 := by decide
theorem bits_64 {x : Int} (h0 : 0 ≤ x) (h : x < 18446744073709551616) : Builtin.Int.intBits x ≤ 64 := bits_le (n := 64) (by rw [p64]; omega)
section
variable {S : Sto} {Q : D → Sto → Prop} {x y : Int}
theorem ok_mul {m n : Nat} (hx : Builtin.Int.intBits x ≤ m) (hy : Builtin.Int.intBits y ≤ n) (hmn : m + n ≤ 134217728) : Ok (mul2D (.int x) (.int y) S) Q = Q (.int (x * y)) S := by
  unfold mul2D mulD
  simp only
  rw [if_pos (by omega), Ok_ok]
theorem ok_mul64 (h0 : 0 ≤ x) (h1 : x < 18446744073709551616) (h2 : 0 ≤ y) (h3 : y < 18446744073709551616) : Ok (mul2D (.int x) (.int y) S) Q = Q (.int (x * y)) S := ok_mul (bits_64 h0 h1) (bits_64 h2 h3) (by decide)
theorem ok_add_int : Ok (addD (.int x) (.int y) S) Q = Q (.int (x + y)) S := Ok_ok _ _
theorem ok_sub_int : Ok (subD (.int x) (.int y) S) Q = Q (.int (x - y)) S := Ok_ok _ _
theorem ok_mod_int (h : 0 < y) : Ok (modD (.int x) (.int y) S) Q = Q (.int (x % y)) S := by unfold modD; simp only; rw [if_pos h, Ok_ok]
theorem ok_div_int (h : 0 < y) (h2 : y < 18446744073709551616) : Ok (fdiv2D (.int x) (.int y) S) Q = Q (.int (x / y)) S := by
  have h3 : y.natAbs.log2 < 9000 := by
    have h0 : y.natAbs ≠ 0 := by omega
    have := (Nat.log2_lt (k := 64) h0).mpr (by rw [p64]; omega)
    omega
  unfold fdiv2D
  simp only
  rw [if_pos ⟨by omega, h3⟩, Ok_ok, Int.fdiv_eq_ediv_of_nonneg _ (by omega)]
theorem ok_ord_int {f : Int → Int → Bool} : Ok (ordD f (.int x) (.int y) S) Q = Q (.bl (f x y)) S := Ok_ok _ _
theorem ok_abs_int : Ok (absD [.int x] S) Q = Q (.int (if x < 0 then -x else x)) S := Ok_ok _ _
theorem ok_intD_bl {b : Bool} : Ok (intD [.bl b] S) Q = Q (.int (if b = true then 1 else 0)) S := Ok_ok _ _
theorem ok_intD_int : Ok (intD [.int x] S) Q = Q (.int x) S := Ok_ok _ _
theorem ok_neg_int : Ok (negD (.int x) S) Q = Q (.int (-x)) S := Ok_ok _ _
theorem ok_pow_int (h : 0 ≤ y ∧ y ≤ 1000000 ∧ x.natAbs < 2 ^ 64) : Ok (powD (.int x) (.int y) S) Q = Q (.int (x ^ y.toNat)) S := by unfold powD; simp only; rw [if_pos h, Ok_ok]
theorem ok_eq_int {neg : Bool} : Ok (eqD neg (.int x) (.int y) S) Q = Q (.bl (neg != decide (x = y))) S := Ok_ok _ _
theorem ok_eq_str {neg : Bool} {x y : Str} : Ok (eqD neg (.str x) (.str y) S) Q = Q (.bl (neg != decide (x = y))) S := Ok_ok _ _
theorem ok_eq_bl {neg : Bool} {x y : Bool} : Ok (eqD neg (.bl x) (.bl y) S) Q = Q (.bl (neg != decide (x = y))) S := Ok_ok _ _
theorem ok_isNon {neg : Bool} {x : D} : Ok (isD neg x .non S) Q = Q (.bl (neg != x.isNon)) S := Ok_ok _ _
theorem ok_isBl {neg a b : Bool} : Ok (isD neg (.bl a) (.bl b) S) Q = Q (.bl (neg != decide (a = b))) S := Ok_ok _ _
theorem ok_isi_tup {k : Ki} {x : List D} : Ok (isiD k (.tup x) S) Q = Q (.bl (isTg .tup k)) S := Ok_ok _ _
theorem ok_isi_lst {k : Ki} {x : List D} : Ok (isiD k (.lst x) S) Q = Q (.bl (isTg .lst k)) S := Ok_ok _ _
theorem ok_isi_int {k : Ki} {x : Int} : Ok (isiD k (.int x) S) Q = Q (.bl (isTg .int k)) S := Ok_ok _ _
theorem ok_isi_str {k : Ki} {x : Str} : Ok (isiD k (.str x) S) Q = Q (.bl (isTg .str k)) S := Ok_ok _ _
theorem ok_isi_bl {k : Ki} {x : Bool} : Ok (isiD k (.bl x) S) Q = Q (.bl (isTg .bl k)) S := Ok_ok _ _
theorem ok_isi_non {k : Ki} : Ok (isiD k .non S) Q = Q (.bl (isTg .non k)) S := Ok_ok _ _
theorem ok_isi_dic {k : Ki} {a : List Key} {b : List D} : Ok (isiD k (.dic a b) S) Q = Q (.bl (isTg .dic k)) S := Ok_ok _ _
end
/-! the pool -/
def PoolOk (S : Sto) (i : Nat) : Prop := ∃ a b : Int, S[i]? = some (.lst [.int a, .int b]) ∧ 0 ≤ a ∧ 0 ≤ b ∧ b < 2147483647
/-- all but the pool is as it was, new things behind -/
structure Stp (i : Nat) (S S' : Sto) : Prop where
  len : S.length ≤ S'.length
  same : ∀ j, j < S.length → j ≠ i → S'[j]? = S[j]?
  pool : PoolOk S' i
theorem PoolOk.lt {S : Sto} {i : Nat} (h : PoolOk S i) : i < S.length := by
  obtain ⟨a, b, e, _⟩ := h
  exact (List.getElem?_eq_some_iff.mp e).1
theorem Stp.refl {i : Nat} {S : Sto} (h : PoolOk S i) : Stp i S S := ⟨Nat.le_refl _, fun _ _ _ => rfl, h⟩
theorem Stp.trans {i : Nat} {S S1 S2 : Sto} (a : Stp i S S1) (b : Stp i S1 S2) : Stp i S S2 :=
  ⟨Nat.le_trans a.len b.len, fun j h1 h2 => (b.same j (Nat.lt_of_lt_of_le h1 a.len) h2).trans (a.same j h1 h2), b.pool⟩
theorem PoolOk.grow {S S' : Sto} {i : Nat} (h : PoolOk S i) (g : Grow S S') : PoolOk S' i := by
  obtain ⟨a, b, e, r⟩ := h
  exact ⟨a, b, g.get e, r⟩
theorem Stp.grow {i : Nat} {S S' : Sto} (h : PoolOk S i) (g : Grow S S') : Stp i S S' := by
  refine ⟨g.len, fun j h1 _ => ?_, h.grow g⟩
  obtain ⟨t, rfl⟩ := g
  rw [List.getElem?_append_left h1]
theorem Stp.get {i : Nat} {S S' : Sto} (h : Stp i S S') {j : Nat} {o : Ob} (hj : j ≠ i) (e : S[j]? = some o) : S'[j]? = some o := by
  rw [h.same j (List.getElem?_eq_some_iff.mp e).1 hj]
  exact e
theorem lst_at {S : Sto} {n : Nat} {ds : List D} (e : S[n]? = some (.lst ds)) : lstOf (.ref n) S = some ds := by simp [lstOf, e]
section
variable {S : Sto} {n : Nat} {ds : List D} {i : Int} {d : D} {Q : D → Sto → Prop}
theorem ok_ix_ref (e : S[n]? = some (.lst ds)) (h : atI ds i = some d) : Ok (ix3D (.ref n) (.int i) S) Q = Q d S := by
  simp [ix3D, dctOf, ix2D, dicOf, e, ixD, lst_at e, h, Ok_ok]
theorem ok_ix_tup (h : atI ds i = some d) : Ok (ix3D (.tup ds) (.int i) S) Q = Q d S := by
  simp [ix3D, dctOf, ix2D, dicOf, ixD, h, Ok_ok]
theorem ok_ix_lst (h : atI ds i = some d) : Ok (ix3D (.lst ds) (.int i) S) Q = Q d S := by
  simp [ix3D, dctOf, ix2D, dicOf, ixD, lstOf, h, Ok_ok]
theorem ok_set_ref {j : Nat} {Q : Unit → Sto → Prop} (e : S[n]? = some (.lst ds)) (h : ixN ds.length i = some j) : Ok (set3D (.ref n) (.int i) d S) Q = Q () (S.set n (.lst (ds.set j d))) := by
  simp [set3D, set2D, setD, e, h, Ok_ok]
end
def b_draw0 : SF :=
  (sSeq (sIf (tBl (eBin (ordD fun i j => decide (j < i)) (eBin ix3D (eVar 0) (eC (.int 0))) (eC (.int 0))))
    (sSeq (sSet 2 (eBin modD (eBin ix3D (eVar 0) (eC (.int 0))) (eVar 1)))
  (sSeq (sAsg (eBin fdiv2D (eBin ix3D (eVar 0) (eC (.int 0))) (eVar 1)) (gIx (eVar 0) (eC (.int 0)) set3D))
  (sRet (eVar 2))))
    sNx)
  (sSeq (sAsg (eBin modD (eBin addD (eBin mul2D (eBin ix3D (eVar 0) (eC (.int 1))) (eC (.int 48271))) (eC (.int 11))) (eC (.int 2147483647))) (gIx (eVar 0) (eC (.int 1)) set3D))
  (sRet (eBin modD (eBin fdiv2D (eBin modD (eBin mul2D (eBin ix3D (eVar 0) (eC (.int 1))) (eBin ix3D (eVar 0) (eC (.int 1)))) (eC (.int 2147483629))) (eC (.int 16))) (eVar 1)))))
/-- a draw changes the pool alone -/
theorem draw0 {S : Sto} {i : Nat} {m : Int} {Q : D → Sto → Prop} (hp : PoolOk S i) (h0 : 0 < m) (h1 : m < 18446744073709551616) (h : ∀ r o, 0 ≤ r → r < m → PoolOk (S.set i o) i → Q (.int r) (S.set i o)) : Ok (dDef 3 b_draw0 [.ref i, .int m] S) Q := by
  obtain ⟨a, b, e, ha, hb, hb2⟩ := hp
  have hi := (List.getElem?_eq_some_iff.mp e).1
  have at0 : atI [D.int a, D.int b] 0 = some (.int a) := rfl
  have at1 : atI [D.int a, D.int b] 1 = some (.int b) := rfl
  have stp : ∀ {x y : Int}, 0 ≤ x → 0 ≤ y → y < 2147483647 → PoolOk (S.set i (.lst [.int x, .int y])) i := fun {x y} hx hy hy2 =>
    ⟨x, y, by rw [List.getElem?_set_self hi], hx, hy, hy2⟩
  rw [ok_dDef]
  unfold b_draw0
  simp only [List.map_cons, List.map_nil, List.length_cons, List.length_nil, ok_sSeq, ok_sIf, ok_tBl, ok_eBin, ok_eVar, ok_eC, ok_sSet, ok_sAsg, ok_gIx, ok_sRet, List.cons_append, List.nil_append, List.getElem?_cons_zero, List.getElem?_cons_succ, ok_ix_ref e at0, ok_ord_int, List.set_cons_zero, List.set_cons_succ, ok_mod_int h0, ok_div_int h0 h1, List.replicate_succ, List.replicate_zero,
    show 3 - (0 + 1 + 1) = 1 from rfl]
  by_cases hpos : 0 < a
  · simp only [hpos, decide_true, if_true]
    have hset : ixN [D.int a, D.int b].length 0 = some 0 := rfl
    simp only [ok_ix_ref e at0, ok_mod_int h0, ok_div_int h0 h1, ok_set_ref e hset, List.set_cons_zero]
    exact h _ _ (Int.emod_nonneg _ (by omega)) (Int.emod_lt_of_pos _ h0) (stp (Int.ediv_nonneg ha (by omega)) hb hb2)
  · simp only [hpos, decide_false, Bool.false_eq_true, if_false, ok_sNx]
    have hset : ixN [D.int a, D.int b].length 1 = some 1 := rfl
    simp only [List.getElem?_cons_zero, List.getElem?_cons_succ]
    rw [ok_ix_ref e at1, ok_mul64 hb (by omega) (by decide) (by decide)]
    simp only [ok_add_int, ok_mod_int (show (0 : Int) < 2147483647 by decide), ok_set_ref e hset, List.set_cons_succ, List.set_cons_zero]
    have hb' : 0 ≤ (b * 48271 + 11) % 2147483647 := Int.emod_nonneg _ (by decide)
    have hb2' : (b * 48271 + 11) % 2147483647 < 2147483647 := Int.emod_lt_of_pos _ (by decide)
    generalize (b * 48271 + 11) % 2147483647 = c at hb' hb2'
    have e' : (S.set i (.lst [.int a, .int c]))[i]? = some (.lst [.int a, .int c]) := List.getElem?_set_self hi
    have at1' : atI [D.int a, D.int c] 1 = some (.int c) := rfl
    rw [ok_ix_ref e' at1', ok_ix_ref e' at1', ok_mul64 hb' (by omega) hb' (by omega)]
    simp only [ok_mod_int (show (0 : Int) < 2147483629 by decide), ok_div_int (show (0 : Int) < 16 by decide) (by decide), ok_mod_int h0]
    exact h _ _ (Int.emod_nonneg _ (by omega)) (Int.emod_lt_of_pos _ h0) (stp ha hb' hb2')
theorem PoolOk.stp {S : Sto} {i : Nat} {o : Ob} (h : PoolOk (S.set i o) i) : Stp i S (S.set i o) := ⟨by simp, fun j _ hne => List.getElem?_set_ne (Ne.symm hne), h⟩
def b_pool0 : SF :=
  (sSeq (sSet 2 (eBin addD (eBin mul2D (eC (.int 11)) (eCall (sum2D) (aCons (eSl (eVar 0) pNo (pSo (eC (.int 63)))) aNil))) (eVar 1)))
  (sSeq (sIf (tBl (eBin (ordD fun i j => decide (i < j)) (eVar 1) (eCall (len2D) (aCons (eVar 0) aNil))))
    (sSet 2 (eBin ix3D (eVar 0) (eVar 1)))
    sNx)
  (sSeq (sSet 3 (eCall (absD) (aCons (eVar 2) aNil)))
  (sSeq (sSet 4 (eBin modD (eBin mul2D (eBin addD (eBin addD (eBin addD (eBin modD (eVar 3) (eC (.int 2147483629))) (eBin mul2D (eBin mul2D (eC (.int 7919)) (eVar 1)) (eVar 1))) (eBin mul2D (eC (.int 31)) (eVar 1))) (eC (.int 17))) (eC (.int 48271))) (eC (.int 2147483647))))
  (sRet (eLstM (aCons (eBin mul2D (eVar 3) (eCall (intD) (aCons (eBin (ordD fun i j => decide (j ≤ i)) (eVar 3) (eBin powD (eC (.int 10)) (eC (.int 18)))) aNil))) (aCons (eBin modD (eBin mul2D (eVar 4) (eVar 4)) (eC (.int 2147483629))) aNil))))))))
theorem ints_map : ∀ ns : List Int, ints? (ns.map D.int) = some ns
  | [] => rfl
  | n :: ns => by simp [ints?, ints_map ns]
theorem sum_abs {B : Nat} : ∀ ns : List Int, (∀ z ∈ ns, z.natAbs < B) → ns.sum.natAbs ≤ ns.length * B
  | [], _ => by simp
  | n :: ns, h => by
    have h1 := h n (by simp)
    have h2 := sum_abs ns fun z hz => h z (by simp [hz])
    rw [List.sum_cons, List.length_cons, Nat.succ_mul]
    omega
theorem pool0 {ns : List Int} {S : Sto} {j : Int} {Q : D → Sto → Prop} (hn : ns.length ≤ 63) (hb : ∀ z ∈ ns, Builtin.Int.intBits z ≤ 1048576) (h0 : 0 ≤ j) (h1 : j < 1000) (h : ∀ o, PoolOk (S ++ [o]) S.length → Q (.ref S.length) (S ++ [o])) : Ok (dDef 5 b_pool0 [.scr ns, .int j] S) Q := by
  have big : ∀ z ∈ ns, z.natAbs < 2 ^ 1048576 := fun z hz => lt_bits (hb z hz)
  generalize hB : 1048576 = B at big
  have hB' : B = 1048576 := hB.symm
  have cut : cutD (ns.map D.int) none (some 63) = (ns.take 63).map D.int := by
    unfold cutD
    rw [HT.sIx_none, show HT.sIx (ns.map D.int).length (ns.map D.int).length (some 63) = min 63 (ns.map D.int).length from HT.sIx_nat _ _ 63]
    rw [List.drop_zero, Nat.sub_zero, List.length_map, List.map_take, Nat.min_eq_right hn, List.take_of_length_le (by simp), List.take_of_length_le (by simpa using hn)]
  have lk : ∀ S : Sto, lstOf (.scr ns) S = some (ns.map D.int) := fun _ => rfl
  have hsum : (ns.take 63).sum.natAbs < 2 ^ (B + 6) := by
    have := sum_abs (B := 2 ^ B) (ns.take 63) fun z hz => big z (List.mem_of_mem_take hz)
    have hl : (ns.take 63).length ≤ 63 := by simp; omega
    have h2 : (ns.take 63).length * 2 ^ B ≤ 63 * 2 ^ B := Nat.mul_le_mul_right _ hl
    have h3 : 2 ^ (B + 6) = 64 * 2 ^ B := by rw [Nat.pow_add]; omega
    have h4 : 0 < 2 ^ B := Nat.pow_pos (by decide)
    omega
  rw [ok_dDef]
  unfold b_pool0
  simp only [List.map_cons, List.map_nil, List.length_cons, List.length_nil, show 5 - (0 + 1 + 1) = 3 from rfl, List.replicate_succ, List.replicate_zero, List.cons_append, List.nil_append]
  rw [ok_sSeq]
  simp only [ok_sSet, ok_eBin, ok_eC, ok_eCall, ok_aCons, ok_aNil, ok_eSl, ok_pNo, ok_pSo, ok_eVar, List.getElem?_cons_zero, List.getElem?_cons_succ]
  have sl : ∀ {Q : D → Sto → Prop}, Ok (slD (.scr ns) none (some 63) S) Q = Q (.lst ((ns.take 63).map D.int)) S := by
    intro Q
    unfold slD
    simp only [lk, ok_newL, cut]
    have : ((ns.take 63).map D.int).length ≤ sizeLine := by
      rw [List.length_map, sizeLine_eq]
      simp
      omega
    exact propext ⟨fun q => q.2, fun q => ⟨this, q⟩⟩
  rw [sl]
  have sm : ∀ {Q : D → Sto → Prop}, Ok (sum2D [.lst ((ns.take 63).map D.int)] S) Q = Q (.int (ns.take 63).sum) S := by
    intro Q
    unfold sum2D sumD lstOf
    simp only [ints_map, Ok_ok]
  rw [sm, ok_mul (m := 64) (n := B + 6) (bits_64 (by decide) (by decide)) (bits_le hsum) (by omega)]
  simp only [ok_add_int, List.set_cons_zero, List.set_cons_succ]
  rw [ok_sSeq, ok_sIf]
  simp only [ok_tBl, ok_eBin, ok_eVar, List.getElem?_cons_zero, List.getElem?_cons_succ, ok_eCall, ok_aCons, ok_aNil]
  have ln : ∀ {Q : D → Sto → Prop}, Ok (len2D [.scr ns] S) Q = Q (.int (ns.map D.int).length) S := by
    intro Q
    simp [len2D, dicOf, lenD, lk, Ok_ok]
  rw [ln]
  simp only [ok_ord_int, List.length_map]
  have fin : ∀ c : Int, c.natAbs < 2 ^ (B + 11) → Ok (sSeq (sSet 3 (eCall (absD) (aCons (eVar 2) aNil)))
      (sSeq (sSet 4 (eBin modD (eBin mul2D (eBin addD (eBin addD (eBin addD (eBin modD (eVar 3) (eC (.int 2147483629))) (eBin mul2D (eBin mul2D (eC (.int 7919)) (eVar 1)) (eVar 1))) (eBin mul2D (eC (.int 31)) (eVar 1))) (eC (.int 17))) (eC (.int 48271))) (eC (.int 2147483647))))
      (sRet (eLstM (aCons (eBin mul2D (eVar 3) (eCall (intD) (aCons (eBin (ordD fun i j => decide (j ≤ i)) (eVar 3) (eBin powD (eC (.int 10)) (eC (.int 18)))) aNil))) (aCons (eBin modD (eBin mul2D (eVar 4) (eVar 4)) (eC (.int 2147483629))) aNil))))) [some (.scr ns), some (.int j), some (.int c), none, none] S) fun f S' => match f with | .rt d => Q d S' | .nx _ => Q .non S' | _ => False := by
    intro c hc
    rw [ok_sSeq]
    simp only [ok_sSet, ok_eCall, ok_aCons, ok_aNil, ok_eVar, List.getElem?_cons_zero, List.getElem?_cons_succ, ok_abs_int, List.set_cons_zero, List.set_cons_succ]
    rw [ok_sSeq]
    simp only [ok_sSet, ok_eVar, List.getElem?_cons_zero, List.getElem?_cons_succ, ok_eBin, ok_eC, ok_mod_int (show (0 : Int) < 2147483629 by decide)]
    have hg0 : 0 ≤ (if c < 0 then -c else c) := by split <;> omega
    have hg1 : (if c < 0 then -c else c).natAbs < 2 ^ (B + 11) := by split <;> omega
    generalize (if c < 0 then -c else c) = gr at hg0 hg1
    have hm0 : 0 ≤ gr % 2147483629 := Int.emod_nonneg _ (by decide)
    have hm1 : gr % 2147483629 < 2147483629 := Int.emod_lt_of_pos _ (by decide)
    have hjj : 0 ≤ 7919 * j * j ∧ 7919 * j * j < 7919000001 := by
      have h2 : 0 ≤ j * j := Int.mul_nonneg h0 h0
      have h3 : j * j ≤ 1000 * 1000 := Int.mul_le_mul (by omega) (by omega) h0 (by decide)
      rw [Int.mul_assoc]
      omega
    rw [ok_mul64 (by decide) (by decide) h0 (by omega), ok_mul64 (by omega) (by omega) h0 (by omega)]
    simp only [ok_add_int, ok_mul64 (show (0 : Int) ≤ 31 by decide) (by decide) h0 (show j < 18446744073709551616 by omega)]
    rw [ok_mul64 (by omega) (by omega) (by decide) (by decide), ok_mod_int (show (0 : Int) < 2147483647 by decide)]
    generalize hmx : (gr % 2147483629 + 7919 * j * j + 31 * j + 17) * 48271 % 2147483647 = mx
    have hx0 : 0 ≤ mx := by rw [← hmx]; exact Int.emod_nonneg _ (by decide)
    have hx1 : mx < 2147483647 := by rw [← hmx]; exact Int.emod_lt_of_pos _ (by decide)
    simp only [ok_sRet, ok_eLstM, ok_aCons, ok_aNil, ok_eBin, ok_eVar, List.set_cons_zero, List.set_cons_succ, List.getElem?_cons_zero, List.getElem?_cons_succ, ok_eCall, ok_eC, ok_pow_int (x := 10) (y := 18) ⟨by decide, by decide, by decide⟩, ok_ord_int, ok_intD_bl]
    rw [ok_mul (m := B + 11) (n := 64) (bits_le hg1) (bits_64 (by split <;> decide) (by split <;> decide)) (by omega)]
    rw [ok_mul64 hx0 (by omega) hx0 (by omega), ok_mod_int (show (0 : Int) < 2147483629 by decide)]
    have hq0 : 0 ≤ mx * mx % 2147483629 := Int.emod_nonneg _ (by decide)
    have hq1 : mx * mx % 2147483629 < 2147483629 := Int.emod_lt_of_pos _ (by decide)
    have ha0 : 0 ≤ gr * (if decide ((10 : Int) ^ (18 : Int).toNat ≤ gr) = true then 1 else 0) := by
      split
      · omega
      · omega
    generalize gr * (if decide ((10 : Int) ^ (18 : Int).toNat ≤ gr) = true then 1 else 0) = a0 at ha0
    generalize mx * mx % 2147483629 = b0 at hq0 hq1
    refine ⟨by rw [sizeLine_eq]; simp, ?_⟩
    have pk : PoolOk (S ++ [.lst [.int a0, .int b0]]) S.length := ⟨a0, b0, by simp, ha0, hq0, by omega⟩
    exact h _ pk
  have hj2 : (11 * (ns.take 63).sum + j).natAbs < 2 ^ (B + 11) := by
    have h3 : 2 ^ (B + 11) = 32 * 2 ^ (B + 6) := by rw [show B + 11 = (B + 6) + 5 from rfl, Nat.pow_add _ (B + 6) 5]; omega
    have h4 : 2 ^ (B + 6) = 64 * 2 ^ B := by rw [Nat.pow_add]; omega
    have h5 : 2 ^ 10 ≤ 2 ^ B := Nat.pow_le_pow_right (by decide) (by omega)
    have h6 : (2 : Nat) ^ 10 = 1024 := by decide
    omega
  by_cases hlt : j < (ns.length : Int)
  · simp only [hlt, decide_true, if_true, ok_sSet, ok_eBin, ok_eVar, List.getElem?_cons_zero, List.getElem?_cons_succ]
    obtain ⟨jn, rfl⟩ := Int.eq_ofNat_of_zero_le h0
    have hjn : jn < ns.length := by omega
    have ix : ∀ {Q : D → Sto → Prop}, Ok (ix3D (.scr ns) (.int jn) S) Q = Q (.int ns[jn]) S := by
      intro Q
      have at' : atI (ns.map D.int) (jn : Int) = some (.int ns[jn]) := atI_nat (by rw [List.getElem?_map, List.getElem?_eq_getElem hjn]; rfl)
      unfold ix3D dctOf ix2D dicOf ixD
      simp only [lk, at', Ok_ok]
    rw [ix]
    simp only [List.set_cons_zero, List.set_cons_succ]
    refine fin _ (Nat.lt_of_lt_of_le (big _ (List.getElem_mem hjn)) (Nat.pow_le_pow_right (by decide) (by omega)))
  · simp only [hlt, decide_false, Bool.false_eq_true, if_false, ok_sNx]
    exact fin _ hj2
end VL

/-! values as they are meant -/
namespace VL
open PySem PySem.Spec PyProof.Rows L2
theorem eq_of_ok {a : Type} {r : R a} {x : a} {S : Sto} (h : Ok r fun d S' => d = x ∧ S' = S) : r = .ok x S := by
  obtain ⟨y, S', e, rfl, rfl⟩ := h.out
  exact e
section
variable {L : Lc} {S : Sto} {Q : D → Sto → Prop}
theorem ok_eLcA (wk : DW) (ea : EF) (t : D → Lc → Sto → R Lc) (tt : Lc → Sto → R Bool) (te : EF) (vs : List Nat) : Ok (eLcA wk ea t tt te vs L S) Q = Ok (ea L S) fun d S1 => match isSD d S1 with
  | some p => Ok (lcL (fun _ => true) t tt te (wipeL L vs) (wk.ds p.2.1 p.2.2) [] (S1.set p.1 (.dlk p.2.1 p.2.2))) fun x S3 => Ok (unlk p.1 S3) fun _ S4 => Q x S4
  | none => Ok (wkA wk d S1) fun W S2 => Ok (lcL W.ok t tt te (wipeL L vs) W.ds [] S2) Q := by
  simp only [eLcA, Ok_bind]
  congr 1
  funext d S1
  generalize isSD d S1 = o
  cases o <;> simp only [Ok_bind, Ok_calm, Ok_ok]
theorem ok_eDcA (mu : Bool) (wk : DW) (ea : EF) (t : D → Lc → Sto → R Lc) (tt : Lc → Sto → R Bool) (tk tv : EF) (vs : List Nat) : Ok (eDcA mu wk ea t tt tk tv vs L S) Q = Ok (ea L S) fun d S1 => match isSD d S1 with
  | some p => Ok (dcL mu (fun _ => true) t tt tk tv (wipeL L vs) (wk.ds p.2.1 p.2.2) [] [] (S1.set p.1 (.dlk p.2.1 p.2.2))) fun x S3 => Ok (unlk p.1 S3) fun _ S4 => Q x S4
  | none => Ok (wkA wk d S1) fun W S2 => Ok (dcL mu W.ok t tt tk tv (wipeL L vs) W.ds [] [] S2) Q := by
  simp only [eDcA, Ok_bind]
  congr 1
  funext d S1
  generalize isSD d S1 = o
  cases o <;> simp only [Ok_bind, Ok_calm, Ok_ok]
theorem ok_eStar (f : List D → Sto → R D) (e : EF) : Ok (eStar f e L S) Q = Ok (e L S) fun d S1 => match d with
  | .tup ds => Ok (f ds S1) Q
  | d => match lstOf d S1 with
    | some ds => Ok (f ds S1) Q
    | none => False := by
  simp only [eStar, Ok_bind]
  congr 1
  funext d S1
  cases d with
  | tup ds => rfl
  | _ =>
    simp only
    generalize lstOf _ _ = o
    cases o <;> simp only [Ok_bad]
theorem ok_wRng1 {Q : Wk → Sto → Prop} (a : Lc → Sto → R (List D)) : Ok (wRng1 a L S) Q = Ok (a L S) fun ds S1 => match ds with
  | [.int j] => (-(2 ^ 62) ≤ j ∧ j < 2 ^ 62) ∧ Q ⟨rngL 0 j.toNat, fun _ => true⟩ S1
  | _ => False := by
  simp only [wRng1, Ok_bind]
  congr 1
  funext ds S1
  rcases ds with _ | ⟨d, _ | ⟨d', ds⟩⟩
  · simp only [Ok_bad]
  · cases d with
    | int j =>
      by_cases h : -(2 ^ 62) ≤ j ∧ j < 2 ^ 62
      · simp only [if_pos h, Ok_ok]; exact propext ⟨fun q => ⟨h, q⟩, fun q => q.2⟩
      · simp only [if_neg h, Ok_bad]; exact propext ⟨fun q => q.elim, fun q => h q.1⟩
    | _ => simp only [Ok_bad]
  · cases d <;> simp only [Ok_bad]
theorem ok_eM (ty : D → Sto → Bool) (f : D → List D → Sto → R D) (eo : EF) (a : Lc → Sto → R (List D)) : Ok (eM ty f eo a L S) Q = Ok (eo L S) fun x S1 => if ty x S1 = true then Ok (a L S1) fun ds S2 => Ok (f x ds S2) Q else False := by
  simp only [eM, Ok_bind, Ok_ite, Ok_bad]
theorem ok_eGet2 (eo ea eb : EF) : Ok (eGet2 eo ea eb L S) Q = Ok (eo L S) fun x S1 => if (dicOf x S1).isSome = true then Ok (ea L S1) fun y S2 => Ok (eb L S2) fun z S3 => Ok (getD2 x y z S3) Q else False := by
  simp only [eGet2, Ok_bind, Ok_ite, Ok_bad]
theorem ok_prsD_nil {Q : List (D × D) → Sto → Prop} : Ok (prsD [] L S) Q = Q [] S := Ok_ok _ _
theorem ok_prsD_cons {Q : List (D × D) → Sto → Prop} (a b : EF) (r : List (EF × EF)) : Ok (prsD ((a, b) :: r) L S) Q = Ok (a L S) fun x S1 => Ok (b L S1) fun y S2 => Ok (prsD r L S2) fun ps S3 => Q ((x, y) :: ps) S3 := by
  simp only [prsD, Ok_bind, Ok_ok]
theorem ok_eDisp (mu : Bool) (ps : List (EF × EF)) : Ok (eDisp mu ps L S) Q = Ok (prsD ps L S) fun kds S2 => match keysP kds with
  | some kps => if kps.length ≤ 15 then Ok (nwD mu (mergeD [] [] kps).1 (mergeD [] [] kps).2 S2) Q else False
  | none => False := by
  simp only [eDisp, Ok_bind, Ok_calm]
  congr 1
  funext kds S2
  generalize keysP kds = o
  cases o
  · rw [Ok_bad]
  · simp only [Ok_ite, Ok_bad]
theorem ok_nwD_f (ks : List Key) (vs : List D) : Ok (nwD false ks vs S) Q = Q (.dic ks vs) S := Ok_ok _ _
theorem ok_nwD_t (ks : List Key) (vs : List D) : Ok (nwD true ks vs S) Q = Q (.ref S.length) (S ++ [.dic ks vs]) := Ok_ok _ _
theorem ok_nwL_f (vs : List D) : Ok (nwL false vs S) Q = Q (.lst vs) S := Ok_ok _ _
theorem ok_nwL_t (vs : List D) : Ok (nwL true vs S) Q = Q (.ref S.length) (S ++ [.lst vs]) := Ok_ok _ _
theorem ok_gTp {Q : Lc → Sto → Prop} {n : Nat} {t : List D → Lc → Sto → R Lc} {ds : List D} (h : ds.length = n) : Ok (gTp n t (.tup ds) L S) Q = Ok (t ds L S) Q := by
  simp only [gTp, if_pos h]
theorem ok_gTp2 {Q : Lc → Sto → Prop} {n : Nat} {t : List D → Lc → Sto → R Lc} {ds : List D} (h : ds.length = n) : Ok (gTp2 n t (.tup ds) L S) Q = Ok (t ds L S) Q := by
  simp only [gTp2, if_pos h]
theorem ok_gTp2l {Q : Lc → Sto → Prop} {n : Nat} {t : List D → Lc → Sto → R Lc} {ds : List D} (h : ds.length = n) : Ok (gTp2 n t (.lst ds) L S) Q = Ok (t ds L S) Q := by
  simp only [gTp2, lstO, if_pos h]
theorem ok_gTp2r {Q : Lc → Sto → Prop} {n i : Nat} {t : List D → Lc → Sto → R Lc} {ds : List D} (e : S[i]? = some (.lst ds)) (h : ds.length = n) : Ok (gTp2 n t (.ref i) L S) Q = Ok (t ds L S) Q := by
  simp only [gTp2, lstO, e, if_pos h]
theorem ok_gSt {Q : Lc → Sto → Prop} {k : Nat} {t : List D → Lc → Sto → R Lc} {ds : List D} (h : k ≤ ds.length) : Ok (gSt k t (.tup ds) L S) Q = Ok (t (ds.take k ++ [.lst (ds.drop k)]) L S) Q := by
  simp only [gSt, if_pos h]
/-! lists of values -/
theorem bls_map : ∀ ns : List Bool, bls? (ns.map D.bl) = some ns
  | [] => rfl
  | n :: ns => by simp [bls?, bls_map ns]
theorem ok_all_map {a : Type} (xs : List a) (p : a → Bool) : Ok (allD [.lst (xs.map fun x => D.bl (p x))] S) Q = Q (.bl (xs.all p)) S := by
  have e : (xs.map fun x => D.bl (p x)) = (xs.map p).map D.bl := by rw [List.map_map]; rfl
  unfold allD lstOf
  simp only [e, bls_map, Ok_ok, List.all_map]
  rfl
theorem ok_sum_map {a : Type} (xs : List a) (p : a → Int) : Ok (sum2D [.lst (xs.map fun x => D.int (p x))] S) Q = Q (.int (xs.map p).sum) S := by
  have e : (xs.map fun x => D.int (p x)) = (xs.map p).map D.int := by rw [List.map_map]; rfl
  unfold sum2D sumD lstOf
  simp only [e, ints_map, Ok_ok]
theorem ok_len_str {z : Str} (h : z.length ≤ sizeLine) : Ok (len2D [.str z] S) Q = Q (.int z.length) S := by
  simp only [len2D, dicOf, lenD, if_pos h, Ok_ok]
theorem ok_len_tup {ds : List D} : Ok (len2D [.tup ds] S) Q = Q (.int ds.length) S := by
  simp only [len2D, dicOf, lenD, Ok_ok]
theorem ok_len_lst {ds : List D} : Ok (len2D [.lst ds] S) Q = Q (.int ds.length) S := by
  simp only [len2D, dicOf, lenD, lstOf, Ok_ok]
end
/-! values -/
def wordB (z sg : Str) (lo hi : Int) : Bool := decide (lo ≤ (z.length : Int)) && (decide ((z.length : Int) ≤ hi) && z.cps.toList.all fun c => decide (c ∈ sg.cps.toList))
def SG : Str := "abcdefghijklmnopqrstuvwxyz0123456789"
def LT : Str := "abcdefghijklmnopqrstuvwxyz"
def MXI : Int := 1000000000000000000000000000000000000000000000000000000000000
mutual
def wl : Nat → D → Bool
  | 0, .tup _ => false
  | l + 1, .tup ds => decide (ds.length ≤ 50) && wls l ds
  | _, .int i => decide (-MXI < i) && decide (i < MXI)
  | _, .str z => wordB z SG 0 60
  | _, _ => false
def wls : Nat → List D → Bool
  | _, [] => true
  | l, d :: ds => wl l d && wls l ds
end
mutual
def sz : D → Nat
  | .tup ds => szs ds
  | _ => 0
def szs : List D → Nat
  | [] => 0
  | d :: ds => 1 + sz d + szs ds
end
mutual
def dep : D → Nat
  | .tup ds => deps ds + 1
  | _ => 0
def deps : List D → Nat
  | [] => 0
  | d :: ds => max (dep d) (deps ds)
end
/-! things that the model of a walk can look at: no references, short texts and tuples -/
mutual
def Fit : D → Prop
  | .tup ds => ds.length ≤ 1000 ∧ Fits ds
  | .str z => z.length ≤ 1000
  | .int _ => True
  | .bl _ => True
  | .non => True
  | .lst _ => True
  | .dic _ _ => True
  | _ => False
def Fits : List D → Prop
  | [] => True
  | d :: ds => Fit d ∧ Fits ds
end
def isVal (d : D) : Bool := wl 5 d && decide (sz d ≤ 50)
theorem wls_all (l : Nat) : ∀ ds : List D, wls l ds = ds.all (wl l)
  | [] => by simp [wls]
  | d :: ds => by simp [wls, wls_all l ds]
theorem szs_sum : ∀ ds : List D, (szs ds : Int) = (ds.map fun d => (1 + (sz d : Int))).sum
  | [] => by simp [szs]
  | d :: ds => by
    have := szs_sum ds
    simp [szs]
    omega
theorem dep_mem : ∀ {ds : List D} {d : D}, d ∈ ds → dep d ≤ deps ds
  | a :: ds, d, h => by
    rw [deps]
    rcases List.mem_cons.mp h with rfl | h
    · omega
    · have := dep_mem h; omega
theorem Fits_mem : ∀ {ds : List D} {d : D}, Fits ds → d ∈ ds → Fit d
  | a :: ds, d, h, m => by
    rw [Fits] at h
    rcases List.mem_cons.mp m with rfl | m
    · exact h.1
    · exact Fits_mem h.2 m
theorem Fits_of : ∀ {ds : List D}, (∀ d ∈ ds, Fit d) → Fits ds
  | [], _ => by rw [Fits]; trivial
  | a :: ds, h => by rw [Fits]; exact ⟨h a (by simp), Fits_of fun d hd => h d (by simp [hd])⟩
theorem deps_le {n : Nat} : ∀ {ds : List D}, (∀ d ∈ ds, dep d ≤ n) → deps ds ≤ n
  | [], _ => by simp [deps]
  | a :: ds, h => by
    have h1 := h a (by simp)
    have h2 := deps_le (n := n) (ds := ds) fun d hd => h d (by simp [hd])
    rw [deps]; omega
theorem wl_int (l : Nat) (i : Int) : wl l (.int i) = (decide (-MXI < i) && decide (i < MXI)) := by cases l <;> simp [wl]
theorem wl_str (l : Nat) (z : Str) : wl l (.str z) = wordB z SG 0 60 := by cases l <;> simp [wl]
theorem wl_tup0 (ds : List D) : wl 0 (.tup ds) = false := by simp [wl]
theorem wl_tup (l : Nat) (ds : List D) : wl (l + 1) (.tup ds) = (decide (ds.length ≤ 50) && ds.all (wl l)) := by rw [wl, wls_all]
/-- ints, texts, tuples -/
def IST : D → Prop
  | .int _ => True
  | .str _ => True
  | .tup _ => True
  | _ => False
theorem wl_no {d : D} (h : ¬ IST d) (l : Nat) : wl l d = false := by
  cases d <;> first | exact absurd trivial h | (cases l <;> simp [wl])
theorem wl_dep : ∀ (l : Nat) (d : D), wl l d = true → dep d ≤ l := by
  intro l
  induction l with
  | zero =>
    intro d h
    cases d <;> first | (simp [wl] at h; done) | simp [dep]
  | succ l ih =>
    intro d h
    cases d with
    | tup ds =>
      rw [wl_tup] at h
      simp only [Bool.and_eq_true, List.all_eq_true] at h
      rw [dep]
      have := deps_le fun d hd => ih d (h.2 d hd)
      omega
    | _ => simp [dep]
end VL

namespace K29
open PySem PySem.Spec PyProof.Rows L2 VL
def kk_FORMS : List Str := ["let", "read", "write", "delete", "if", "each", "scan", "while", "define", "call", "try", "refuse", "return"]
def kd_FORMS : List D := [(.str "ne"), (.str "ne"), (.str "ee"), (.str "e"), (.str "ebb"), (.str "neb"), (.str "neb"), (.str "eb"), (.str "npb"), (.str "nnx"), (.str "bb"), (.str "e"), (.str "e")]
def kk_WORDS : List Str := ["if", "each", "scan", "while", "define", "try"]
def kd_WORDS : List D := [(.ctp [(.str "then"), (.str "else")]), (.ctp [(.str "each")]), (.ctp [(.str "scan")]), (.ctp [(.str "while")]), (.ctp [(.str "define")]), (.ctp [(.str "try"), (.str "other")])]
def k_MAX_STATEMENTS : D := (.int (100))
def k_MAX_BLOCKS : D := (.int (6))
def k_MAX_PARAMETERS : D := (.int (6))
def k_MAX_DEPTH : D := (.int (8))
def k_MAX_PARTS : D := (.int (10))
def k_PAIRS : D := (.ctp [(.str "add"), (.str "subtract"), (.str "multiply"), (.str "divide"), (.str "less"), (.str "equal"), (.str "join"), (.str "item")])
def k_LETTERS : D := (.str "abcdefghijklmnopqrstuvwxyz")
def k_MAX_NAME : D := (.int (12))
def k_ARGUMENT : D := (.str "argument")
def k_MAX_STEPS : D := (.int (1000))
def k_MAX_LEVELS : D := (.int (5))
def k_MAX_ITEMS : D := (.int (50))
def k_MAX_INTEGER : D := (.int (1000000000000000000000000000000000000000000000000000000000000))
def k_STORE : D := (.str "store")
def k_SIGNS : D := (.str "abcdefghijklmnopqrstuvwxyz0123456789")
def k_MAX_TEXT : D := (.int (60))
def b_Trace___init__ (k : Nat) : SF :=
  (sSeq (sFldD "Trace" "own_steps" (eVar 0) (eCall (tupleD) (aCons (eVar 1) aNil)))
  (sSeq (sFldD "Trace" "own_touches" (eVar 0) (eCall (tupleD) (aCons (eVar 2) aNil)))
  (sSeq (sFldD "Trace" "own_ending" (eVar 0) (eVar 3))
  (sSeq (sFldD "Trace" "own_effect" (eVar 0) (eCall (dictD false) (aCons (eVar 4) aNil)))
  (sFldD "Trace" "by_place" (eVar 0) (eDcT false (wAk .keys (eVar 1)) (gNm 5) tYesD (eBin ix3D (eVar 5) (eC (.int 0))) (eVar 5) [5]))))))
def f_Trace___init__ : Nat → List D → Sto → R D
  | 0 => fun _ _ => .bad
  | 1 => fun _ _ => .bad
  | k + 2 => dDef 6 (b_Trace___init__ k)
def b_Runner_assign (k : Nat) : SF :=
  (sSeq (sAsg (eVar 2) (gIx (eFld "Runner" "variables" (eVar 0)) (eVar 1) set3D))
  (sAsg (eVar 3) (gIx (eFld "Runner" "sources" (eVar 0)) (eVar 1) set3D)))
def f_Runner_assign : Nat → List D → Sto → R D
  | 0 => fun _ _ => .bad
  | 1 => fun _ _ => .bad
  | k + 2 => dDef 4 (b_Runner_assign k)
def b_blocks_of (k : Nat) : SF :=
  (sSeq (sAsg (eVar 0) (gSt 1 (gCons2 (gNm 1) (gCons2 (gNm 2) gNil2))))
  (sSeq (sSet 3 (eLc (wZ2 (aCons (eUn (kixD kk_FORMS kd_FORMS) (eVar 1)) (aCons (eVar 2) aNil))) (gTp 2 (gCons2 (gNm 4) (gCons2 (gNm 5) gNil2))) (tBl (eBin (eq4D false) (eVar 4) (eC (.str "b")))) (eVar 5) [4, 5]))
  (sRet (eLZ (aCons (eKget kk_WORDS kd_WORDS (eVar 1) (eTup aNil)) (aCons (eVar 3) aNil))))))
def f_blocks_of : Nat → List D → Sto → R D
  | 0 => fun _ _ => .bad
  | 1 => fun _ _ => .bad
  | k + 2 => dDef 6 (b_blocks_of k)
def b_Runner_write (k : Nat) : SF :=
  (sSeq (sAsg (eVar 2) (gIx (eFld "Runner" "writes" (eVar 0)) (eVar 1) set3D))
  (sAsg (eVar 3) (gIx (eFld "Runner" "writers" (eVar 0)) (eVar 1) set3D)))
def f_Runner_write : Nat → List D → Sto → R D
  | 0 => fun _ _ => .bad
  | 1 => fun _ _ => .bad
  | k + 2 => dDef 4 (b_Runner_write k)
def b_Runner_add_step (k : Nat) : SF :=
  (sSeq (sDrop (eM isLst appD (eFld "Runner" "done_steps" (eVar 0)) (aCons (eTup (aCons (eVar 1) (aCons (eVar 2) (aCons (eVar 4) aNil)))) aNil)))
  (sSeq (sDrop (eM isLst appD (eFld "Runner" "step_sources" (eVar 0)) (aCons (eVar 3) aNil)))
  (sSeq (sDrop (eM isLst appD (eFld "Runner" "touches" (eVar 0)) (aCons (eVar 5) aNil)))
  (sRet (eVar 4)))))
def f_Runner_add_step : Nat → List D → Sto → R D
  | 0 => fun _ _ => .bad
  | 1 => fun _ _ => .bad
  | k + 2 => dDef 6 (b_Runner_add_step k)
def b_is_integer (k : Nat) : SF :=
  (sRet (eAnd (eUn (isiD .int) (eVar 0)) (eNot (eUn (isiD .bool) (eVar 0)))))
def f_is_integer : Nat → List D → Sto → R D
  | 0 => fun _ _ => .bad
  | 1 => fun _ _ => .bad
  | k + 2 => dDef 1 (b_is_integer k)
def b_is_word (k : Nat) : SF :=
  (sRet (eAnd (eUn (isiD .str) (eVar 0)) (eAnd (eChain (ordD fun i j => decide (i ≤ j)) (ordD fun i j => decide (i ≤ j)) (eVar 2) (eCall (len2D) (aCons (eVar 0) aNil)) (eVar 3)) (eCall (allD) (aCons (eLcA .keys (eVar 0) (gNm 4) tYesD (eBin (in3D false) (eVar 4) (eVar 1)) [4]) aNil)))))
def f_is_word : Nat → List D → Sto → R D
  | 0 => fun _ _ => .bad
  | 1 => fun _ _ => .bad
  | k + 2 => dDef 5 (b_is_word k)
def b_is_key (k : Nat) : SF :=
  (sRet (eCall (ari 4 (f_is_word (k + 1))) (aCons (eVar 0) (aCons (eC k_SIGNS) (aCons (eC (.int 1)) (aCons (eC k_MAX_TEXT) aNil))))))
def f_is_key : Nat → List D → Sto → R D
  | 0 => fun _ _ => .bad
  | 1 => fun _ _ => .bad
  | k + 2 => dDef 1 (b_is_key k)
def b_is_text (k : Nat) : SF :=
  (sRet (eCall (ari 4 (f_is_word (k + 1))) (aCons (eVar 0) (aCons (eC k_SIGNS) (aCons (eC (.int 0)) (aCons (eC k_MAX_TEXT) aNil))))))
def f_is_text : Nat → List D → Sto → R D
  | 0 => fun _ _ => .bad
  | 1 => fun _ _ => .bad
  | k + 2 => dDef 1 (b_is_text k)
def b_outcome_of (k : Nat) : SF :=
  (sSeq (sSet 3 (eIf (tBl (eBin (eq4D true) (eVar 1) (eLst aNil))) (eBin ix3D (eVar 1) (eC (.int 0))) (eC .non)))
  (sMatch (eVar 0)
    (mCase 4 (tBl (eBin (eq4D false) (eVar 4) (eC (.str "call"))))
    (sRet (eTup (aCons (eC (.str "done")) (aCons (eCall (tupleD) (aCons (eVar 1) aNil)) aNil))))
    (mCase 4 (tBl (eBin (eq4D false) (eVar 4) (eC (.str "refuse"))))
    (sRet (eTup (aCons (eC (.str "refused")) (aCons (eVar 3) aNil))))
    (mCase 4 (tBl (eBin (eq4D false) (eVar 4) (eC (.str "read"))))
    (sRet (eIf (tTru (eCall (ari 1 (f_is_key (k + 1))) (aCons (eVar 3) aNil))) (eTup (aCons (eC (.str "done")) (aCons (eBin ix3D (eBin ix3D (eVar 2) (eUn negD (eC (.int 1)))) (eC (.int 1))) aNil))) (eTup (aCons (eC (.str "refused")) (aCons (eC (.str "kind")) aNil)))))
    (mCase 4 (tBl (eBin (eq4D false) (eVar 4) (eC (.str "scan"))))
    (sRet (eIf (tTru (eCall (ari 1 (f_is_text (k + 1))) (aCons (eVar 3) aNil))) (eTup (aCons (eC (.str "done")) (aCons (eBin ix3D (eBin ix3D (eVar 2) (eUn negD (eC (.int 1)))) (eC (.int 1))) aNil))) (eTup (aCons (eC (.str "refused")) (aCons (eC (.str "kind")) aNil)))))
    (mCase 4 (tBl (eBin (eq4D false) (eVar 4) (eC (.str "write"))))
    (sRet (eIf (tTru (eCall (ari 1 (f_is_key (k + 1))) (aCons (eVar 3) aNil))) (eTup (aCons (eC (.str "done")) (aCons (eTup (aCons (eVar 3) (aCons (eBin ix3D (eVar 1) (eC (.int 1))) aNil))) aNil))) (eTup (aCons (eC (.str "refused")) (aCons (eC (.str "kind")) aNil)))))
    (mCase 4 (tBl (eBin (eq4D false) (eVar 4) (eC (.str "delete"))))
    (sRet (eIf (tTru (eCall (ari 1 (f_is_key (k + 1))) (aCons (eVar 3) aNil))) (eTup (aCons (eC (.str "done")) (aCons (eVar 3) aNil))) (eTup (aCons (eC (.str "refused")) (aCons (eC (.str "kind")) aNil)))))
    (mCase 4 (tBl (eBin (in3D false) (eVar 4) (eTup (aCons (eC (.str "if")) (aCons (eC (.str "while")) aNil)))))
    (sRet (eIf (tTru (eCall (ari 1 (f_is_integer (k + 1))) (aCons (eVar 3) aNil))) (eTup (aCons (eC (.str "done")) (aCons (eCall (intD) (aCons (eBin (eq4D true) (eVar 3) (eC (.int 0))) aNil)) aNil))) (eTup (aCons (eC (.str "refused")) (aCons (eC (.str "kind")) aNil)))))
    (mCase 4 (tBl (eBin (eq4D false) (eVar 4) (eC (.str "each"))))
    (sRet (eIf (tTru (eUn (isiD .tuple) (eVar 3))) (eTup (aCons (eC (.str "done")) (aCons (eVar 3) aNil))) (eTup (aCons (eC (.str "refused")) (aCons (eC (.str "kind")) aNil)))))
    (mElse (sRet (eTup (aCons (eC (.str "done")) (aCons (eVar 3) aNil)))))))))))))))
def f_outcome_of : Nat → List D → Sto → R D
  | 0 => fun _ _ => .bad
  | 1 => fun _ _ => .bad
  | k + 2 => dDef 5 (b_outcome_of k)
def b_Runner_keys_with (k : Nat) : SF :=
  (sSeq (sSet 2 (eLcA .items (eFld "Runner" "writes" (eVar 0)) (gTp 2 (gCons2 (gNm 4) (gCons2 (gNm 5) gNil2))) (tBl (eBin (isD true) (eVar 5) (eC .non))) (eVar 4) [4, 5]))
  (sSeq (sSet 3 (eLcA .keys (eFld "Runner" "own_state" (eVar 0)) (gNm 4) (tBl (eBin (in3D true) (eVar 4) (eFld "Runner" "writes" (eVar 0)))) (eVar 4) [4]))
  (sRet (eCall (tupleD) (aCons (eCall (sortedD) (aCons (eLcA .keys (eBin addD (eVar 2) (eVar 3)) (gNm 4) (tTru (eM isStr stwD (eVar 4) (aCons (eVar 1) aNil))) (eVar 4) [4]) aNil)) aNil)))))
def f_Runner_keys_with : Nat → List D → Sto → R D
  | 0 => fun _ _ => .bad
  | 1 => fun _ _ => .bad
  | k + 2 => dDef 6 (b_Runner_keys_with k)
def b_Runner_value_under (k : Nat) : SF :=
  (sSeq (sSet 2 (eIf (tBl (eBin (in3D false) (eVar 1) (eFld "Runner" "writes" (eVar 0)))) (eBin ix3D (eFld "Runner" "writes" (eVar 0)) (eVar 1)) (eGetA1 (eFld "Runner" "own_state" (eVar 0)) (eVar 1))))
  (sRet (eIf (tBl (eBin (isD false) (eVar 2) (eC .non))) (eC (.str "")) (eVar 2))))
def f_Runner_value_under : Nat → List D → Sto → R D
  | 0 => fun _ _ => .bad
  | 1 => fun _ _ => .bad
  | k + 2 => dDef 3 (b_Runner_value_under k)
def b_Runner_perform (k : Nat) : SF :=
  (sSeq (sSet 6 (eIf (tBl (eBin (eq4D true) (eVar 3) (eLst aNil))) (eBin ix3D (eVar 3) (eC (.int 0))) (eC .non)))
  (sSeq (sIf (tAnd2 (tBl (eBin (eq4D false) (eVar 1) (eC (.str "read")))) (tTru (eCall (ari 1 (f_is_key (k + 1))) (aCons (eVar 6) aNil))))
    (sSeq (sSet 4 (eBin addD (eVar 4) (eTup (aCons (eTup (aCons (eTup (aCons (eC (.str "key")) (aCons (eVar 6) aNil))) (aCons (eMeth "Runner" "value_under" (ari 2 (f_Runner_value_under (k + 1))) (eVar 0) (aCons (eVar 6) aNil)) aNil))) aNil))))
  (sSet 5 (eBin addD (eVar 5) (eTup (aCons (eGetA2 (eFld "Runner" "writers" (eVar 0)) (eVar 6) (eC k_STORE)) aNil)))))
    sNx)
  (sSeq (sIf (tAnd2 (tBl (eBin (eq4D false) (eVar 1) (eC (.str "scan")))) (tTru (eCall (ari 1 (f_is_text (k + 1))) (aCons (eVar 6) aNil))))
    (sSeq (sSet 7 (eMeth "Runner" "keys_with" (ari 2 (f_Runner_keys_with (k + 1))) (eVar 0) (aCons (eVar 6) aNil)))
  (sSeq (sSet 4 (eBin addD (eVar 4) (eTup (aCons (eTup (aCons (eTup (aCons (eC (.str "prefix")) (aCons (eVar 6) aNil))) (aCons (eVar 7) aNil))) aNil))))
  (sSet 5 (eBin addD (eVar 5) (eTup (aCons (eCall (tupleD) (aCons (eLcA .keys (eVar 7) (gNm 10) tYesD (eGetA2 (eFld "Runner" "writers" (eVar 0)) (eVar 10) (eC k_STORE)) [10]) aNil)) aNil))))))
    sNx)
  (sSeq (sSet 8 (eCall (ari 3 (f_outcome_of (k + 1))) (aCons (eVar 1) (aCons (eVar 3) (aCons (eVar 4) aNil)))))
  (sSeq (sSet 9 (eIf (tAnd2 (tBl (eBin (in3D false) (eVar 1) (eTup (aCons (eC (.str "write")) (aCons (eC (.str "delete")) aNil))))) (tBl (eBin (eq4D false) (eBin ix3D (eVar 8) (eC (.int 0))) (eC (.str "done"))))) (eVar 6) (eC .non)))
  (sRet (eMeth "Runner" "add_step" (ari 6 (f_Runner_add_step (k + 1))) (eVar 0) (aCons (eVar 2) (aCons (eVar 4) (aCons (eVar 5) (aCons (eVar 8) (aCons (eVar 9) aNil))))))))))))
def f_Runner_perform : Nat → List D → Sto → R D
  | 0 => fun _ _ => .bad
  | 1 => fun _ _ => .bad
  | k + 2 => dDef 11 (b_Runner_perform k)
def b_expressions_of (k : Nat) : SF :=
  (sSeq (sAsg (eVar 0) (gSt 1 (gCons2 (gNm 1) (gCons2 (gNm 2) gNil2))))
  (sSeq (sIf (tBl (eBin (eq4D false) (eVar 1) (eC (.str "call"))))
    (sRet (eCall (listD false) (aCons (eBin ix3D (eVar 2) (eC (.int 2))) aNil)))
    sNx)
  (sRet (eLc (wZ2 (aCons (eUn (kixD kk_FORMS kd_FORMS) (eVar 1)) (aCons (eVar 2) aNil))) (gTp 2 (gCons2 (gNm 3) (gCons2 (gNm 4) gNil2))) (tBl (eBin (eq4D false) (eVar 3) (eC (.str "e")))) (eVar 4) [3, 4]))))
def f_expressions_of : Nat → List D → Sto → R D
  | 0 => fun _ _ => .bad
  | 1 => fun _ _ => .bad
  | k + 2 => dDef 5 (b_expressions_of k)
def b_is_within_levels (k : Nat) (sf : Nat → List D → Sto → R D) : SF :=
  (sSeq (sIf (tTru (eUn (isiD .tuple) (eVar 0)))
    (sSeq (sIf (tOr2 (tBl (eBin (eq4D false) (eVar 1) (eC (.int 0)))) (tBl (eBin (ordD fun i j => decide (j < i)) (eCall (len2D) (aCons (eVar 0) aNil)) (eC k_MAX_ITEMS))))
    (sRet (eC (.bl false)))
    sNx)
  (sRet (eCall (allD) (aCons (eLcA .keys (eVar 0) (gNm 2) tYesD (eCall (ari 2 (sf 0)) (aCons (eVar 2) (aCons (eBin subD (eVar 1) (eC (.int 1))) aNil))) [2]) aNil))))
    sNx)
  (sSeq (sIf (tTru (eCall (ari 1 (f_is_integer (k + 1))) (aCons (eVar 0) aNil)))
    (sRet (eChain (ordD fun i j => decide (i < j)) (ordD fun i j => decide (i < j)) (eUn negD (eC k_MAX_INTEGER)) (eVar 0) (eC k_MAX_INTEGER)))
    sNx)
  (sRet (eCall (ari 1 (f_is_text (k + 1))) (aCons (eVar 0) aNil)))))
def fs_is_within_levels : Nat → Nat → List D → Sto → R D
  | 0 => fun _ _ _ => .bad
  | 1 => fun _ _ _ => .bad
  | k + 2 => fun i => match i with
    | 0 => dDef 3 (b_is_within_levels k (fs_is_within_levels (k + 1)))
    | _ => fun _ _ => .bad
def f_is_within_levels (k : Nat) : List D → Sto → R D := fs_is_within_levels k 0
def b_size_within (k : Nat) (sf : Nat → List D → Sto → R D) : SF :=
  (sRet (eIf (tTru (eUn (isiD .tuple) (eVar 0))) (eCall (sum2D) (aCons (eLcA .keys (eVar 0) (gNm 1) tYesD (eBin addD (eC (.int 1)) (eCall (ari 1 (sf 0)) (aCons (eVar 1) aNil))) [1]) aNil)) (eC (.int 0))))
def fs_size_within : Nat → Nat → List D → Sto → R D
  | 0 => fun _ _ _ => .bad
  | 1 => fun _ _ _ => .bad
  | k + 2 => fun i => match i with
    | 0 => dDef 2 (b_size_within k (fs_size_within (k + 1)))
    | _ => fun _ _ => .bad
def f_size_within (k : Nat) : List D → Sto → R D := fs_size_within k 0
def b_is_value (k : Nat) : SF :=
  (sRet (eAnd (eCall (ari 2 (f_is_within_levels (k + 1))) (aCons (eVar 0) (aCons (eC k_MAX_LEVELS) aNil))) (eBin (ordD fun i j => decide (i ≤ j)) (eCall (ari 1 (f_size_within (k + 1))) (aCons (eVar 0) aNil)) (eC k_MAX_ITEMS))))
def f_is_value : Nat → List D → Sto → R D
  | 0 => fun _ _ => .bad
  | 1 => fun _ _ => .bad
  | k + 2 => dDef 1 (b_is_value k)
def b_failed (k : Nat) : SF :=
  (sRet (eTup (aCons (eC (.str "failed")) (aCons (eVar 0) aNil))))
def f_failed : Nat → List D → Sto → R D
  | 0 => fun _ _ => .bad
  | 1 => fun _ _ => .bad
  | k + 2 => dDef 1 (b_failed k)
def b_numeric_result (k : Nat) : SF :=
  (sSeq (sIf (tOr2 (tNot1 (tTru (eCall (ari 1 (f_is_integer (k + 1))) (aCons (eVar 1) aNil)))) (tNot1 (tTru (eCall (ari 1 (f_is_integer (k + 1))) (aCons (eVar 2) aNil)))))
    (sRet (eCall (ari 1 (f_failed (k + 1))) (aCons (eC (.str "kind")) aNil)))
    sNx)
  (sSeq (sIf (tAnd2 (tBl (eBin (eq4D false) (eVar 0) (eC (.str "divide")))) (tBl (eBin (eq4D false) (eVar 2) (eC (.int 0)))))
    (sRet (eCall (ari 1 (f_failed (k + 1))) (aCons (eC (.str "zero")) aNil)))
    sNx)
  (sMatch (eVar 0)
    (mCase 3 (tBl (eBin (eq4D false) (eVar 3) (eC (.str "add"))))
    (sRet (eTup (aCons (eC (.str "value")) (aCons (eBin addD (eVar 1) (eVar 2)) aNil))))
    (mCase 3 (tBl (eBin (eq4D false) (eVar 3) (eC (.str "subtract"))))
    (sRet (eTup (aCons (eC (.str "value")) (aCons (eBin subD (eVar 1) (eVar 2)) aNil))))
    (mCase 3 (tBl (eBin (eq4D false) (eVar 3) (eC (.str "multiply"))))
    (sRet (eTup (aCons (eC (.str "value")) (aCons (eBin mul2D (eVar 1) (eVar 2)) aNil))))
    (mCase 3 (tBl (eBin (eq4D false) (eVar 3) (eC (.str "divide"))))
    (sRet (eTup (aCons (eC (.str "value")) (aCons (eBin fdiv2D (eVar 1) (eVar 2)) aNil))))
    (mElse (sRet (eTup (aCons (eC (.str "value")) (aCons (eCall (intD) (aCons (eBin (ordD fun i j => decide (i < j)) (eVar 1) (eVar 2)) aNil)) aNil))))))))))))
def f_numeric_result : Nat → List D → Sto → R D
  | 0 => fun _ _ => .bad
  | 1 => fun _ _ => .bad
  | k + 2 => dDef 4 (b_numeric_result k)
def b_item_of (k : Nat) : SF :=
  (sSeq (sIf (tOr2 (tNot1 (tTru (eUn (isiD .tuple) (eVar 0)))) (tNot1 (tTru (eCall (ari 1 (f_is_integer (k + 1))) (aCons (eVar 1) aNil)))))
    (sRet (eCall (ari 1 (f_failed (k + 1))) (aCons (eC (.str "kind")) aNil)))
    sNx)
  (sSeq (sIf (tNot1 (tBl (eChain (ordD fun i j => decide (i ≤ j)) (ordD fun i j => decide (i < j)) (eC (.int 0)) (eVar 1) (eCall (len2D) (aCons (eVar 0) aNil)))))
    (sRet (eCall (ari 1 (f_failed (k + 1))) (aCons (eC (.str "range")) aNil)))
    sNx)
  (sRet (eTup (aCons (eC (.str "value")) (aCons (eBin ix3D (eVar 0) (eVar 1)) aNil))))))
def f_item_of : Nat → List D → Sto → R D
  | 0 => fun _ _ => .bad
  | 1 => fun _ _ => .bad
  | k + 2 => dDef 2 (b_item_of k)
def b_joined (k : Nat) : SF :=
  (sSeq (sSet 2 (eAnd (eCall (ari 1 (f_is_text (k + 1))) (aCons (eVar 0) aNil)) (eCall (ari 1 (f_is_text (k + 1))) (aCons (eVar 1) aNil))))
  (sSeq (sIf (tAnd2 (tNot1 (tTru (eVar 2))) (tNot1 (tAnd2 (tTru (eUn (isiD .tuple) (eVar 0))) (tTru (eUn (isiD .tuple) (eVar 1))))))
    (sRet (eCall (ari 1 (f_failed (k + 1))) (aCons (eC (.str "kind")) aNil)))
    sNx)
  (sRet (eTup (aCons (eC (.str "value")) (aCons (eBin addD (eVar 0) (eVar 1)) aNil))))))
def f_joined : Nat → List D → Sto → R D
  | 0 => fun _ _ => .bad
  | 1 => fun _ _ => .bad
  | k + 2 => dDef 3 (b_joined k)
def b_are_equal (k : Nat) (sf : Nat → List D → Sto → R D) : SF :=
  (sSeq (sIf (tAnd2 (tTru (eUn (isiD .tuple) (eVar 0))) (tTru (eUn (isiD .tuple) (eVar 1))))
    (sRet (eAnd (eBin (eq4D false) (eCall (len2D) (aCons (eVar 0) aNil)) (eCall (len2D) (aCons (eVar 1) aNil))) (eCall (allD) (aCons (eLc (wZip (aCons (eVar 0) (aCons (eVar 1) aNil))) (gNm 2) tYesD (eStar (ari 2 (sf 0)) (eVar 2)) [2]) aNil))))
    sNx)
  (sSeq (sIf (tOr2 (tTru (eUn (isiD .bool) (eVar 0))) (tTru (eUn (isiD .bool) (eVar 1))))
    (sRet (eAnd (eUn (isiD .bool) (eVar 0)) (eAnd (eUn (isiD .bool) (eVar 1)) (eBin (eq4D false) (eVar 0) (eVar 1)))))
    sNx)
  (sSeq (sIf (tOr2 (tAnd2 (tTru (eUn (isiD .int) (eVar 0))) (tTru (eUn (isiD .int) (eVar 1)))) (tAnd2 (tTru (eUn (isiD .str) (eVar 0))) (tTru (eUn (isiD .str) (eVar 1)))))
    (sRet (eBin (eq4D false) (eVar 0) (eVar 1)))
    sNx)
  (sRet (eAnd (eBin (isD false) (eVar 0) (eC .non)) (eBin (isD false) (eVar 1) (eC .non)))))))
def fs_are_equal : Nat → Nat → List D → Sto → R D
  | 0 => fun _ _ _ => .bad
  | 1 => fun _ _ _ => .bad
  | k + 2 => fun i => match i with
    | 0 => dDef 3 (b_are_equal k (fs_are_equal (k + 1)))
    | _ => fun _ _ => .bad
def f_are_equal (k : Nat) : List D → Sto → R D := fs_are_equal k 0
def b_combined (k : Nat) : SF :=
  (sSeq (sIf (tBl (eBin (eq4D false) (eVar 0) (eC (.str "list"))))
    (sRet (eTup (aCons (eC (.str "value")) (aCons (eCall (tupleD) (aCons (eVar 1) aNil)) aNil))))
    sNx)
  (sSeq (sIf (tBl (eBin (eq4D false) (eVar 0) (eC (.str "size"))))
    (sRet (eIf (tTru (eCall (ari 1 (f_is_integer (k + 1))) (aCons (eBin ix3D (eVar 1) (eC (.int 0))) aNil))) (eCall (ari 1 (f_failed (k + 1))) (aCons (eC (.str "kind")) aNil)) (eTup (aCons (eC (.str "value")) (aCons (eCall (len2D) (aCons (eBin ix3D (eVar 1) (eC (.int 0))) aNil)) aNil)))))
    sNx)
  (sSeq (sAsg (eVar 1) (gTp2 2 (gCons2 (gNm 2) (gCons2 (gNm 3) gNil2))))
  (sSeq (sIf (tBl (eBin (eq4D false) (eVar 0) (eC (.str "equal"))))
    (sRet (eTup (aCons (eC (.str "value")) (aCons (eCall (intD) (aCons (eCall (ari 2 (f_are_equal (k + 1))) (aCons (eVar 2) (aCons (eVar 3) aNil))) aNil)) aNil))))
    sNx)
  (sSeq (sIf (tBl (eBin (eq4D false) (eVar 0) (eC (.str "join"))))
    (sRet (eCall (ari 2 (f_joined (k + 1))) (aCons (eVar 2) (aCons (eVar 3) aNil))))
    sNx)
  (sSeq (sIf (tBl (eBin (eq4D false) (eVar 0) (eC (.str "item"))))
    (sRet (eCall (ari 2 (f_item_of (k + 1))) (aCons (eVar 2) (aCons (eVar 3) aNil))))
    sNx)
  (sRet (eCall (ari 3 (f_numeric_result (k + 1))) (aCons (eVar 0) (aCons (eVar 2) (aCons (eVar 3) aNil)))))))))))
def f_combined : Nat → List D → Sto → R D
  | 0 => fun _ _ => .bad
  | 1 => fun _ _ => .bad
  | k + 2 => dDef 4 (b_combined k)
def b_result_of_1 (k : Nat) (sf : Nat → List D → Sto → R D) : SF :=
  (sSeq (sSet 6 (eCall (ari 2 (sf 0)) (aCons (eVar 5) (aCons (eVar 1) aNil))))
  (sSeq (sIf (tBl (eBin (eq4D false) (eBin ix3D (eVar 6) (eC (.int 0))) (eC (.str "failed"))))
    (sRet (eVar 6))
    sNx)
  (sDrop (eM isLst appD (eVar 4) (aCons (eBin ix3D (eVar 6) (eC (.int 1))) aNil)))))
def b_result_of (k : Nat) (sf : Nat → List D → Sto → R D) : SF :=
  (sSeq (sAsg (eVar 0) (gSt 1 (gCons2 (gNm 2) (gCons2 (gNm 3) gNil2))))
  (sSeq (sIf (tBl (eBin (eq4D false) (eVar 2) (eC (.str "value"))))
    (sRet (eTup (aCons (eC (.str "value")) (aCons (eBin ix3D (eVar 3) (eC (.int 0))) aNil))))
    sNx)
  (sSeq (sIf (tBl (eBin (eq4D false) (eVar 2) (eC (.str "name"))))
    (sRet (eIf (tBl (eBin (in3D false) (eBin ix3D (eVar 3) (eC (.int 0))) (eVar 1))) (eTup (aCons (eC (.str "value")) (aCons (eBin ix3D (eVar 1) (eBin ix3D (eVar 3) (eC (.int 0)))) aNil))) (eCall (ari 1 (f_failed (k + 1))) (aCons (eC (.str "name")) aNil))))
    sNx)
  (sSeq (sSet 4 (eLstM aNil))
  (sSeq (sFor (wAk .keys (eVar 3)) (gNm 5)
    (b_result_of_1 k sf))
  (sSeq (sSet 6 (eCall (ari 2 (f_combined (k + 1))) (aCons (eVar 2) (aCons (eVar 4) aNil))))
  (sRet (eIf (tOr2 (tBl (eBin (eq4D false) (eBin ix3D (eVar 6) (eC (.int 0))) (eC (.str "failed")))) (tTru (eCall (ari 1 (f_is_value (k + 1))) (aCons (eBin ix3D (eVar 6) (eC (.int 1))) aNil)))) (eVar 6) (eCall (ari 1 (f_failed (k + 1))) (aCons (eC (.str "size")) aNil))))))))))
def fs_result_of : Nat → Nat → List D → Sto → R D
  | 0 => fun _ _ _ => .bad
  | 1 => fun _ _ _ => .bad
  | k + 2 => fun i => match i with
    | 0 => dDef 7 (b_result_of k (fs_result_of (k + 1)))
    | _ => fun _ _ => .bad
def f_result_of (k : Nat) : List D → Sto → R D := fs_result_of k 0
def b_unlike (k : Nat) : SF :=
  (sRet (eCall (listD false) (aCons (eDcA false .keys (eVar 0) (gNm 1) tYesD (eVar 1) (eC (.bl true)) [1]) aNil)))
def f_unlike : Nat → List D → Sto → R D
  | 0 => fun _ _ => .bad
  | 1 => fun _ _ => .bad
  | k + 2 => dDef 2 (b_unlike k)
def b_names_within (k : Nat) (sf : Nat → List D → Sto → R D) : SF :=
  (sSeq (sAsg (eVar 0) (gSt 1 (gCons2 (gNm 1) (gCons2 (gNm 2) gNil2))))
  (sSeq (sIf (tBl (eBin (eq4D false) (eVar 1) (eC (.str "value"))))
    (sRet (eLst aNil))
    sNx)
  (sSeq (sIf (tBl (eBin (eq4D false) (eVar 1) (eC (.str "name"))))
    (sRet (eVar 2))
    sNx)
  (sRet (eCall (sum2D) (aCons (eLcA .keys (eVar 2) (gNm 3) tYesD (eCall (ari 1 (sf 0)) (aCons (eVar 3) aNil)) [3]) (aCons (eLst aNil) aNil)))))))
def fs_names_within : Nat → Nat → List D → Sto → R D
  | 0 => fun _ _ _ => .bad
  | 1 => fun _ _ _ => .bad
  | k + 2 => fun i => match i with
    | 0 => dDef 4 (b_names_within k (fs_names_within (k + 1)))
    | _ => fun _ _ => .bad
def f_names_within (k : Nat) : List D → Sto → R D := fs_names_within k 0
def b_names_of (k : Nat) : SF :=
  (sRet (eCall (ari 1 (f_unlike (k + 1))) (aCons (eCall (sum2D) (aCons (eLcA .keys (eCall (ari 1 (f_expressions_of (k + 1))) (aCons (eVar 0) aNil)) (gNm 1) tYesD (eCall (ari 1 (f_names_within (k + 1))) (aCons (eVar 1) aNil)) [1]) (aCons (eLst aNil) aNil))) aNil)))
def f_names_of : Nat → List D → Sto → R D
  | 0 => fun _ _ => .bad
  | 1 => fun _ _ => .bad
  | k + 2 => dDef 2 (b_names_of k)
def b_Runner_do_step (k : Nat) : SF :=
  (sSeq (sIf (tBl (eBin (eq4D false) (eCall (len2D) (aCons (eFld "Runner" "done_steps" (eVar 0)) aNil)) (eC k_MAX_STEPS)))
    (sRet (eTup (aCons (eC (.str "limit")) (aCons (eC (.str "steps")) aNil))))
    sNx)
  (sSeq (sSet 3 (eCall (ari 1 (f_names_of (k + 1))) (aCons (eVar 1) aNil)))
  (sSeq (sSet 4 (eCall (tupleD) (aCons (eLcA .keys (eVar 3) (gNm 8) tYesD (eTup (aCons (eTup (aCons (eC (.str "name")) (aCons (eVar 8) aNil))) (aCons (eGetA1 (eFld "Runner" "variables" (eVar 0)) (eVar 8)) aNil))) [8]) aNil)))
  (sSeq (sSet 5 (eCall (tupleD) (aCons (eLcA .keys (eVar 3) (gNm 8) tYesD (eGetA1 (eFld "Runner" "sources" (eVar 0)) (eVar 8)) [8]) aNil)))
  (sSeq (sSet 6 (eLcA .keys (eCall (ari 1 (f_expressions_of (k + 1))) (aCons (eVar 1) aNil)) (gNm 9) tYesD (eCall (ari 2 (f_result_of (k + 1))) (aCons (eVar 9) (aCons (eFld "Runner" "variables" (eVar 0)) aNil))) [9]))
  (sSeq (sSet 7 (eLcA .keys (eVar 6) (gNm 10) (tBl (eBin (eq4D false) (eBin ix3D (eVar 10) (eC (.int 0))) (eC (.str "failed")))) (eVar 10) [10]))
  (sSeq (sIf (tBl (eBin (eq4D true) (eVar 7) (eLst aNil)))
    (sRet (eMeth "Runner" "add_step" (ari 6 (f_Runner_add_step (k + 1))) (eVar 0) (aCons (eVar 2) (aCons (eVar 4) (aCons (eVar 5) (aCons (eTup (aCons (eC (.str "refused")) (aCons (eBin ix3D (eBin ix3D (eVar 7) (eC (.int 0))) (eC (.int 1))) aNil))) (aCons (eC .non) aNil)))))))
    sNx)
  (sRet (eMeth "Runner" "perform" (ari 6 (f_Runner_perform (k + 1))) (eVar 0) (aCons (eBin ix3D (eVar 1) (eC (.int 0))) (aCons (eVar 2) (aCons (eLcA .keys (eVar 6) (gNm 10) tYesD (eBin ix3D (eVar 10) (eC (.int 1))) [10]) (aCons (eVar 4) (aCons (eVar 5) aNil))))))))))))))
def f_Runner_do_step : Nat → List D → Sto → R D
  | 0 => fun _ _ => .bad
  | 1 => fun _ _ => .bad
  | k + 2 => dDef 11 (b_Runner_do_step k)
def b_Runner_run_block_1 (k : Nat) (sf : Nat → List D → Sto → R D) : SF :=
  (sSeq (sSet 5 (eMeth "Runner" "run_statement" (ari 3 (sf 1)) (eVar 0) (aCons (eVar 4) (aCons (eBin addD (eVar 2) (eTup (aCons (eVar 3) aNil))) aNil))))
  (sIf (tBl (eBin (isD true) (eVar 5) (eC .non)))
    (sRet (eVar 5))
    sNx))
def b_Runner_run_block (k : Nat) (sf : Nat → List D → Sto → R D) : SF :=
  (sSeq (sFor (wEn (aCons (eVar 1) aNil)) (gTp 2 (gCons2 (gNm 3) (gCons2 (gNm 4) gNil2)))
    (b_Runner_run_block_1 k sf))
  (sRet (eC .non)))
def b_Runner_run_statement (k : Nat) (sf : Nat → List D → Sto → R D) : SF :=
  (sSeq (sMatch (eBin ix3D (eVar 1) (eC (.int 0)))
    (mCase 3 (tBl (eBin (eq4D false) (eVar 3) (eC (.str "try"))))
    (sRet (eMeth "Runner" "run_try" (ari 3 (sf 6)) (eVar 0) (aCons (eVar 1) (aCons (eVar 2) aNil))))
    (mCase 3 (tBl (eBin (eq4D false) (eVar 3) (eC (.str "while"))))
    (sRet (eMeth "Runner" "run_while" (ari 3 (sf 4)) (eVar 0) (aCons (eVar 1) (aCons (eVar 2) aNil))))
    (mCase 3 (tBl (eBin (eq4D false) (eVar 3) (eC (.str "define"))))
    (sSeq (sAsg (eTup (aCons (eBin ix3D (eVar 1) (eC (.int 2))) (aCons (eBin ix3D (eVar 1) (eC (.int 3))) aNil))) (gIx (eFld "Runner" "procedures" (eVar 0)) (eBin ix3D (eVar 1) (eC (.int 1))) set3D))
  (sRet (eC .non)))
    mNil))))
  (sSeq (sSet 4 (eMeth "Runner" "do_step" (ari 3 (f_Runner_do_step (k + 1))) (eVar 0) (aCons (eVar 1) (aCons (eVar 2) aNil))))
  (sRet (eIf (tBl (eBin (eq4D true) (eBin ix3D (eVar 4) (eC (.int 0))) (eC (.str "done")))) (eVar 4) (eMeth "Runner" "follow" (ari 4 (sf 2)) (eVar 0) (aCons (eVar 1) (aCons (eVar 2) (aCons (eBin ix3D (eVar 4) (eC (.int 1))) aNil))))))))
def b_Runner_follow (k : Nat) (sf : Nat → List D → Sto → R D) : SF :=
  (sSeq (sMatch (eBin ix3D (eVar 1) (eC (.int 0)))
    (mCase 4 (tBl (eBin (in3D false) (eVar 4) (eTup (aCons (eC (.str "let")) (aCons (eC (.str "read")) aNil)))))
    (sDrop (eMeth "Runner" "assign" (ari 4 (f_Runner_assign (k + 1))) (eVar 0) (aCons (eBin ix3D (eVar 1) (eC (.int 1))) (aCons (eVar 3) (aCons (eVar 2) aNil)))))
    (mCase 4 (tBl (eBin (eq4D false) (eVar 4) (eC (.str "write"))))
    (sDrop (eMeth "Runner" "write" (ari 4 (f_Runner_write (k + 1))) (eVar 0) (aCons (eBin ix3D (eVar 3) (eC (.int 0))) (aCons (eBin ix3D (eVar 3) (eC (.int 1))) (aCons (eVar 2) aNil)))))
    (mCase 4 (tBl (eBin (eq4D false) (eVar 4) (eC (.str "delete"))))
    (sDrop (eMeth "Runner" "write" (ari 4 (f_Runner_write (k + 1))) (eVar 0) (aCons (eVar 3) (aCons (eC .non) (aCons (eVar 2) aNil)))))
    (mCase 4 (tBl (eBin (eq4D false) (eVar 4) (eC (.str "return"))))
    (sSeq (sFldD "Runner" "result_place" (eVar 0) (eVar 2))
  (sRet (eTup (aCons (eC (.str "returned")) (aCons (eVar 3) aNil)))))
    (mCase 4 (tBl (eBin (eq4D false) (eVar 4) (eC (.str "if"))))
    (sSeq (sAsg (eBin ix3D (eCall (ari 1 (f_blocks_of (k + 1))) (aCons (eVar 1) aNil)) (eBin subD (eC (.int 1)) (eVar 3))) (gTp2 2 (gCons2 (gNm 5) (gCons2 (gNm 6) gNil2))))
  (sRet (eMeth "Runner" "run_block" (ari 3 (sf 0)) (eVar 0) (aCons (eVar 6) (aCons (eBin addD (eVar 2) (eTup (aCons (eVar 5) aNil))) aNil)))))
    (mCase 4 (tBl (eBin (eq4D false) (eVar 4) (eC (.str "call"))))
    (sRet (eMeth "Runner" "run_call" (ari 4 (sf 5)) (eVar 0) (aCons (eVar 1) (aCons (eVar 2) (aCons (eVar 3) aNil)))))
    (mElse (sRet (eMeth "Runner" "run_loop" (ari 4 (sf 3)) (eVar 0) (aCons (eVar 1) (aCons (eVar 2) (aCons (eVar 3) aNil)))))))))))))
  (sRet (eC .non)))
def b_Runner_run_loop_1 (k : Nat) (sf : Nat → List D → Sto → R D) : SF :=
  (sSeq (sDrop (eMeth "Runner" "assign" (ari 4 (f_Runner_assign (k + 1))) (eVar 0) (aCons (eBin ix3D (eVar 1) (eC (.int 1))) (aCons (eVar 7) (aCons (eVar 2) aNil)))))
  (sSeq (sSet 8 (eMeth "Runner" "run_block" (ari 3 (sf 0)) (eVar 0) (aCons (eVar 5) (aCons (eBin addD (eVar 2) (eTup (aCons (eVar 4) (aCons (eIf (tBl (eBin (eq4D false) (eVar 4) (eC (.str "scan")))) (eVar 7) (eVar 6)) aNil)))) aNil))))
  (sIf (tBl (eBin (isD true) (eVar 8) (eC .non)))
    (sRet (eVar 8))
    sNx)))
def b_Runner_run_loop (k : Nat) (sf : Nat → List D → Sto → R D) : SF :=
  (sSeq (sAsg (eBin ix3D (eCall (ari 1 (f_blocks_of (k + 1))) (aCons (eVar 1) aNil)) (eC (.int 0))) (gTp2 2 (gCons2 (gNm 4) (gCons2 (gNm 5) gNil2))))
  (sSeq (sFor (wEn (aCons (eVar 3) aNil)) (gTp 2 (gCons2 (gNm 6) (gCons2 (gNm 7) gNil2)))
    (b_Runner_run_loop_1 k sf))
  (sRet (eC .non))))
def b_Runner_run_while_1 (k : Nat) (sf : Nat → List D → Sto → R D) : SF :=
  (sSeq (sSet 4 (eBin addD (eVar 2) (eTup (aCons (eC (.str "while")) (aCons (eVar 3) aNil)))))
  (sSeq (sSet 5 (eMeth "Runner" "do_step" (ari 3 (f_Runner_do_step (k + 1))) (eVar 0) (aCons (eVar 1) (aCons (eVar 4) aNil))))
  (sSeq (sIf (tBl (eBin (eq4D true) (eBin ix3D (eVar 5) (eC (.int 0))) (eC (.str "done"))))
    (sRet (eVar 5))
    sNx)
  (sSeq (sSet 6 (eIf (tBl (eBin (eq4D false) (eBin ix3D (eVar 5) (eC (.int 1))) (eC (.int 1)))) (eMeth "Runner" "run_block" (ari 3 (sf 0)) (eVar 0) (aCons (eBin ix3D (eVar 1) (eC (.int 2))) (aCons (eVar 4) aNil))) (eC .non)))
  (sIf (tOr2 (tBl (eBin (isD true) (eVar 6) (eC .non))) (tBl (eBin (eq4D false) (eBin ix3D (eVar 5) (eC (.int 1))) (eC (.int 0)))))
    (sRet (eVar 6))
    sNx)))))
def b_Runner_run_while (k : Nat) (sf : Nat → List D → Sto → R D) : SF :=
  (sSeq (sFor (wRng1 (aCons (eBin addD (eC k_MAX_STEPS) (eC (.int 1))) aNil)) (gNm 3)
    (b_Runner_run_while_1 k sf))
  (sRet (eC .non)))
def b_Runner_run_call (k : Nat) (sf : Nat → List D → Sto → R D) : SF :=
  (sSeq (sAsg (eBin ix3D (eFld "Runner" "procedures" (eVar 0)) (eBin ix3D (eVar 1) (eC (.int 2)))) (gTp2 2 (gCons2 (gNm 4) (gCons2 (gNm 5) gNil2))))
  (sSeq (sSet 6 (eTup (aCons (eFld "Runner" "variables" (eVar 0)) (aCons (eFld "Runner" "sources" (eVar 0)) aNil))))
  (sSeq (sFldD "Runner" "variables" (eVar 0) (eDZ true (aCons (eVar 4) (aCons (eVar 3) aNil))))
  (sSeq (sFldD "Runner" "sources" (eVar 0) (eDcA true .keys (eVar 4) (gNm 8) tYesD (eVar 8) (eVar 2) [8]))
  (sSeq (sSet 7 (eMeth "Runner" "run_block" (ari 3 (sf 0)) (eVar 0) (aCons (eVar 5) (aCons (eBin addD (eVar 2) (eTup (aCons (eC (.str "call")) aNil))) aNil))))
  (sSeq (sAsg (eVar 6) (gTp2 2 (gCons2 (gFld "Runner" "variables" (eVar 0)) (gCons2 (gFld "Runner" "sources" (eVar 0)) gNil2))))
  (sSeq (sIf (tBl (eBin (isD false) (eVar 7) (eC .non)))
    (sDrop (eMeth "Runner" "assign" (ari 4 (f_Runner_assign (k + 1))) (eVar 0) (aCons (eBin ix3D (eVar 1) (eC (.int 1))) (aCons (eC (.str "")) (aCons (eVar 2) aNil)))))
    (sIf (tBl (eBin (eq4D false) (eBin ix3D (eVar 7) (eC (.int 0))) (eC (.str "returned"))))
    (sDrop (eMeth "Runner" "assign" (ari 4 (f_Runner_assign (k + 1))) (eVar 0) (aCons (eBin ix3D (eVar 1) (eC (.int 1))) (aCons (eBin ix3D (eVar 7) (eC (.int 1))) (aCons (eFld "Runner" "result_place" (eVar 0)) aNil)))))
    (sRet (eVar 7))))
  (sRet (eC .non)))))))))
def b_Runner_run_try (k : Nat) (sf : Nat → List D → Sto → R D) : SF :=
  (sSeq (sSet 3 (eLst (aCons (eCall (dictD true) (aCons (eFld "Runner" "variables" (eVar 0)) aNil)) (aCons (eCall (dictD true) (aCons (eFld "Runner" "sources" (eVar 0)) aNil)) (aCons (eCall (dictD true) (aCons (eFld "Runner" "writes" (eVar 0)) aNil)) (aCons (eCall (dictD true) (aCons (eFld "Runner" "writers" (eVar 0)) aNil)) aNil))))))
  (sSeq (sSet 4 (eMeth "Runner" "run_block" (ari 3 (sf 0)) (eVar 0) (aCons (eBin ix3D (eVar 1) (eC (.int 1))) (aCons (eBin addD (eVar 2) (eTup (aCons (eC (.str "try")) aNil))) aNil))))
  (sSeq (sIf (tOr2 (tBl (eBin (isD false) (eVar 4) (eC .non))) (tBl (eBin (eq4D true) (eBin ix3D (eVar 4) (eC (.int 0))) (eC (.str "refused")))))
    (sRet (eVar 4))
    sNx)
  (sSeq (sAsg (eVar 3) (gTp2 4 (gCons2 (gFld "Runner" "variables" (eVar 0)) (gCons2 (gFld "Runner" "sources" (eVar 0)) (gCons2 (gFld "Runner" "writes" (eVar 0)) (gCons2 (gFld "Runner" "writers" (eVar 0)) gNil2))))))
  (sRet (eMeth "Runner" "run_block" (ari 3 (sf 0)) (eVar 0) (aCons (eBin ix3D (eVar 1) (eC (.int 2))) (aCons (eBin addD (eVar 2) (eTup (aCons (eC (.str "other")) aNil))) aNil))))))))
def fs_Runner_run_block : Nat → Nat → List D → Sto → R D
  | 0 => fun _ _ _ => .bad
  | 1 => fun _ _ _ => .bad
  | k + 2 => fun i => match i with
    | 0 => dDef 6 (b_Runner_run_block k (fs_Runner_run_block (k + 1)))
    | 1 => dDef 5 (b_Runner_run_statement k (fs_Runner_run_block (k + 1)))
    | 2 => dDef 7 (b_Runner_follow k (fs_Runner_run_block (k + 1)))
    | 3 => dDef 9 (b_Runner_run_loop k (fs_Runner_run_block (k + 1)))
    | 4 => dDef 7 (b_Runner_run_while k (fs_Runner_run_block (k + 1)))
    | 5 => dDef 9 (b_Runner_run_call k (fs_Runner_run_block (k + 1)))
    | 6 => dDef 5 (b_Runner_run_try k (fs_Runner_run_block (k + 1)))
    | _ => fun _ _ => .bad
def f_Runner_run_block (k : Nat) : List D → Sto → R D := fs_Runner_run_block k 0
def f_Runner_run_statement (k : Nat) : List D → Sto → R D := fs_Runner_run_block k 1
def f_Runner_follow (k : Nat) : List D → Sto → R D := fs_Runner_run_block k 2
def f_Runner_run_loop (k : Nat) : List D → Sto → R D := fs_Runner_run_block k 3
def f_Runner_run_while (k : Nat) : List D → Sto → R D := fs_Runner_run_block k 4
def f_Runner_run_call (k : Nat) : List D → Sto → R D := fs_Runner_run_block k 5
def f_Runner_run_try (k : Nat) : List D → Sto → R D := fs_Runner_run_block k 6
def b_Runner_whole (k : Nat) : SF :=
  (sSeq (sSet 2 (eMeth "Runner" "run_block" (ari 3 (f_Runner_run_block (k + 1))) (eVar 0) (aCons (eVar 1) (aCons (eTup aNil) aNil))))
  (sSeq (sSet 3 (eIf (tBl (eBin (isD false) (eVar 2) (eC .non))) (eTup (aCons (eC (.str "returned")) (aCons (eC (.str "")) aNil))) (eVar 2)))
  (sSeq (sIf (tBl (eBin (eq4D false) (eBin ix3D (eVar 3) (eC (.int 0))) (eC (.str "limit"))))
    (sSet 3 (eTup (aCons (eC (.str "refused")) (aCons (eBin ix3D (eVar 3) (eC (.int 1))) aNil))))
    sNx)
  (sRet (eMake true "Trace" (ari 5 (f_Trace___init__ k)) (aCons (eFld "Runner" "done_steps" (eVar 0)) (aCons (eFld "Runner" "touches" (eVar 0)) (aCons (eVar 3) (aCons (eIf (tBl (eBin (eq4D false) (eBin ix3D (eVar 3) (eC (.int 0))) (eC (.str "returned")))) (eFld "Runner" "writes" (eVar 0)) eDict0) aNil)))))))))
def f_Runner_whole : Nat → List D → Sto → R D
  | 0 => fun _ _ => .bad
  | 1 => fun _ _ => .bad
  | k + 2 => dDef 4 (b_Runner_whole k)
def b_Runner___init__ (k : Nat) : SF :=
  (sSeq (sFldD "Runner" "own_state" (eVar 0) (eVar 1))
  (sSeq (sFldD "Runner" "variables" (eVar 0) (eCall (dictD true) (aCons (eVar 2) aNil)))
  (sSeq (sFldD "Runner" "sources" (eVar 0) (eDcA true .keys (eVar 2) (gNm 3) tYesD (eVar 3) (eC k_ARGUMENT) [3]))
  (sSeq (sFldD "Runner" "writes" (eVar 0) eDict0M)
  (sSeq (sFldD "Runner" "writers" (eVar 0) eDict0M)
  (sSeq (sFldD "Runner" "procedures" (eVar 0) eDict0M)
  (sSeq (sFldD "Runner" "result_place" (eVar 0) (eC .non))
  (sSeq (sFldD "Runner" "done_steps" (eVar 0) (eLstM aNil))
  (sSeq (sFldD "Runner" "step_sources" (eVar 0) (eLstM aNil))
  (sFldD "Runner" "touches" (eVar 0) (eLstM aNil)))))))))))
def f_Runner___init__ : Nat → List D → Sto → R D
  | 0 => fun _ _ => .bad
  | 1 => fun _ _ => .bad
  | k + 2 => dDef 4 (b_Runner___init__ k)
def b_is_state (k : Nat) : SF :=
  (sSeq (sIf (tNot1 (tTru (eUn (isiD .dict) (eVar 0))))
    (sRet (eC (.bl false)))
    sNx)
  (sRet (eCall (allD) (aCons (eLcA .items (eVar 0) (gTp 2 (gCons2 (gNm 1) (gCons2 (gNm 2) gNil2))) tYesD (eAnd (eCall (ari 1 (f_is_key (k + 1))) (aCons (eVar 1) aNil)) (eCall (ari 1 (f_is_value (k + 1))) (aCons (eVar 2) aNil))) [1, 2]) aNil))))
def f_is_state : Nat → List D → Sto → R D
  | 0 => fun _ _ => .bad
  | 1 => fun _ _ => .bad
  | k + 2 => dDef 3 (b_is_state k)
def b_is_name (k : Nat) : SF :=
  (sRet (eCall (ari 4 (f_is_word (k + 1))) (aCons (eVar 0) (aCons (eC k_LETTERS) (aCons (eC (.int 1)) (aCons (eC k_MAX_NAME) aNil))))))
def f_is_name : Nat → List D → Sto → R D
  | 0 => fun _ _ => .bad
  | 1 => fun _ _ => .bad
  | k + 2 => dDef 1 (b_is_name k)
def b_are_variables (k : Nat) : SF :=
  (sRet (eAnd (eCall (ari 1 (f_is_state (k + 1))) (aCons (eVar 0) aNil)) (eCall (allD) (aCons (eLcA .keys (eVar 0) (gNm 1) tYesD (eCall (ari 1 (f_is_name (k + 1))) (aCons (eVar 1) aNil)) [1]) aNil))))
def f_are_variables : Nat → List D → Sto → R D
  | 0 => fun _ _ => .bad
  | 1 => fun _ _ => .bad
  | k + 2 => dDef 2 (b_are_variables k)
def b_check_arguments (k : Nat) : SF :=
  (sIf (tAnd2 (tBl (eBin (isD true) (eVar 0) (eC .non))) (tNot1 (tTru (eCall (ari 1 (f_are_variables (k + 1))) (aCons (eVar 0) aNil)))))
    sBad
    sNx)
def f_check_arguments : Nat → List D → Sto → R D
  | 0 => fun _ _ => .bad
  | 1 => fun _ _ => .bad
  | k + 2 => dDef 1 (b_check_arguments k)
def b_check_state (k : Nat) : SF :=
  (sIf (tNot1 (tTru (eCall (ari 1 (f_is_state (k + 1))) (aCons (eVar 0) aNil))))
    sBad
    sNx)
def f_check_state : Nat → List D → Sto → R D
  | 0 => fun _ _ => .bad
  | 1 => fun _ _ => .bad
  | k + 2 => dDef 1 (b_check_state k)
def b_is_deep_expression (k : Nat) (sf : Nat → List D → Sto → R D) : SF :=
  (sSeq (sIf (tOr2 (tNot1 (tTru (eUn (isiD .tuple) (eVar 0)))) (tOr2 (tBl (eBin (eq4D false) (eVar 0) (eTup aNil))) (tOr2 (tNot1 (tTru (eUn (isiD .str) (eBin ix3D (eVar 0) (eC (.int 0)))))) (tBl (eBin (eq4D false) (eVar 1) (eC (.int 0)))))))
    (sRet (eC (.bl false)))
    sNx)
  (sSeq (sAsg (eVar 0) (gSt 1 (gCons2 (gNm 2) (gCons2 (gNm 3) gNil2))))
  (sSeq (sIf (tBl (eBin (eq4D false) (eVar 2) (eC (.str "value"))))
    (sRet (eAnd (eBin (eq4D false) (eCall (len2D) (aCons (eVar 3) aNil)) (eC (.int 1))) (eCall (ari 1 (f_is_value (k + 1))) (aCons (eBin ix3D (eVar 3) (eC (.int 0))) aNil))))
    sNx)
  (sSeq (sIf (tBl (eBin (eq4D false) (eVar 2) (eC (.str "name"))))
    (sRet (eAnd (eBin (eq4D false) (eCall (len2D) (aCons (eVar 3) aNil)) (eC (.int 1))) (eCall (ari 1 (f_is_name (k + 1))) (aCons (eBin ix3D (eVar 3) (eC (.int 0))) aNil))))
    sNx)
  (sSeq (sSet 4 (eDisp false [((eC (.str "list")), (eBin (ordD fun i j => decide (i ≤ j)) (eCall (len2D) (aCons (eVar 3) aNil)) (eC k_MAX_PARTS))), ((eC (.str "size")), (eBin (eq4D false) (eCall (len2D) (aCons (eVar 3) aNil)) (eC (.int 1))))]))
  (sSeq (sIf (tNot1 (tOr2 (tAnd2 (tBl (eBin (in3D false) (eVar 2) (eC k_PAIRS))) (tBl (eBin (eq4D false) (eCall (len2D) (aCons (eVar 3) aNil)) (eC (.int 2))))) (tTru (eGetA2 (eVar 4) (eVar 2) (eC (.bl false))))))
    (sRet (eC (.bl false)))
    sNx)
  (sRet (eCall (allD) (aCons (eLcA .keys (eVar 3) (gNm 5) tYesD (eCall (ari 2 (sf 0)) (aCons (eVar 5) (aCons (eBin subD (eVar 1) (eC (.int 1))) aNil))) [5]) aNil)))))))))
def fs_is_deep_expression : Nat → Nat → List D → Sto → R D
  | 0 => fun _ _ _ => .bad
  | 1 => fun _ _ _ => .bad
  | k + 2 => fun i => match i with
    | 0 => dDef 6 (b_is_deep_expression k (fs_is_deep_expression (k + 1)))
    | _ => fun _ _ => .bad
def f_is_deep_expression (k : Nat) : List D → Sto → R D := fs_is_deep_expression k 0
def b_is_expression (k : Nat) : SF :=
  (sRet (eCall (ari 2 (f_is_deep_expression (k + 1))) (aCons (eVar 0) (aCons (eC k_MAX_DEPTH) aNil))))
def f_is_expression : Nat → List D → Sto → R D
  | 0 => fun _ _ => .bad
  | 1 => fun _ _ => .bad
  | k + 2 => dDef 1 (b_is_expression k)
def b_are_expressions (k : Nat) : SF :=
  (sSeq (sIf (tOr2 (tNot1 (tTru (eUn (isiD .tuple) (eVar 0)))) (tBl (eBin (ordD fun i j => decide (j < i)) (eCall (len2D) (aCons (eVar 0) aNil)) (eC k_MAX_PARAMETERS))))
    (sRet (eC (.bl false)))
    sNx)
  (sRet (eCall (allD) (aCons (eLcA .keys (eVar 0) (gNm 1) tYesD (eCall (ari 1 (f_is_expression (k + 1))) (aCons (eVar 1) aNil)) [1]) aNil))))
def f_are_expressions : Nat → List D → Sto → R D
  | 0 => fun _ _ => .bad
  | 1 => fun _ _ => .bad
  | k + 2 => dDef 2 (b_are_expressions k)
def b_are_parameters (k : Nat) : SF :=
  (sSeq (sIf (tOr2 (tNot1 (tTru (eUn (isiD .tuple) (eVar 0)))) (tOr2 (tBl (eBin (ordD fun i j => decide (j < i)) (eCall (len2D) (aCons (eVar 0) aNil)) (eC k_MAX_PARAMETERS))) (tNot1 (tTru (eCall (allD) (aCons (eLcA .keys (eVar 0) (gNm 1) tYesD (eCall (ari 1 (f_is_name (k + 1))) (aCons (eVar 1) aNil)) [1]) aNil))))))
    (sRet (eC (.bl false)))
    sNx)
  (sRet (eBin (eq4D false) (eLenSet (eVar 0)) (eCall (len2D) (aCons (eVar 0) aNil)))))
def f_are_parameters : Nat → List D → Sto → R D
  | 0 => fun _ _ => .bad
  | 1 => fun _ _ => .bad
  | k + 2 => dDef 2 (b_are_parameters k)
def b_is_part (k : Nat) : SF :=
  (sMatch (eVar 0)
    (mCase 2 (tBl (eBin (eq4D false) (eVar 2) (eC (.str "n"))))
    (sRet (eCall (ari 1 (f_is_name (k + 1))) (aCons (eVar 1) aNil)))
    (mCase 2 (tBl (eBin (eq4D false) (eVar 2) (eC (.str "e"))))
    (sRet (eCall (ari 1 (f_is_expression (k + 1))) (aCons (eVar 1) aNil)))
    (mCase 2 (tBl (eBin (eq4D false) (eVar 2) (eC (.str "p"))))
    (sRet (eCall (ari 1 (f_are_parameters (k + 1))) (aCons (eVar 1) aNil)))
    (mCase 2 (tBl (eBin (eq4D false) (eVar 2) (eC (.str "x"))))
    (sRet (eCall (ari 1 (f_are_expressions (k + 1))) (aCons (eVar 1) aNil)))
    (mElse (sRet (eC (.bl true)))))))))
def f_is_part : Nat → List D → Sto → R D
  | 0 => fun _ _ => .bad
  | 1 => fun _ _ => .bad
  | k + 2 => dDef 3 (b_is_part k)
def b_is_headed (k : Nat) : SF :=
  (sSeq (sIf (tOr2 (tNot1 (tTru (eUn (isiD .tuple) (eVar 0)))) (tOr2 (tBl (eBin (eq4D false) (eVar 0) (eTup aNil))) (tOr2 (tNot1 (tTru (eUn (isiD .str) (eBin ix3D (eVar 0) (eC (.int 0)))))) (tBl (eUn (kinD true kk_FORMS kd_FORMS) (eBin ix3D (eVar 0) (eC (.int 0))))))))
    (sRet (eC (.bl false)))
    sNx)
  (sSeq (sAsg (eVar 0) (gSt 1 (gCons2 (gNm 1) (gCons2 (gNm 2) gNil2))))
  (sSeq (sIf (tBl (eBin (eq4D true) (eCall (len2D) (aCons (eVar 2) aNil)) (eCall (len2D) (aCons (eUn (kixD kk_FORMS kd_FORMS) (eVar 1)) aNil))))
    (sRet (eC (.bl false)))
    sNx)
  (sRet (eCall (allD) (aCons (eLc (wZ2 (aCons (eUn (kixD kk_FORMS kd_FORMS) (eVar 1)) (aCons (eVar 2) aNil))) (gTp 2 (gCons2 (gNm 3) (gCons2 (gNm 4) gNil2))) tYesD (eCall (ari 2 (f_is_part (k + 1))) (aCons (eVar 3) (aCons (eVar 4) aNil))) [3, 4]) aNil))))))
def f_is_headed : Nat → List D → Sto → R D
  | 0 => fun _ _ => .bad
  | 1 => fun _ _ => .bad
  | k + 2 => dDef 5 (b_is_headed k)
def b_Survey_is_allowed (k : Nat) : SF :=
  (sSeq (sIf (tBl (eBin (eq4D false) (eBin ix3D (eVar 1) (eC (.int 0))) (eC (.str "define"))))
    (sRet (eAnd (eBin (eq4D false) (eVar 2) (eC (.int 1))) (eBin (in3D true) (eBin ix3D (eVar 1) (eC (.int 1))) (eFld "Survey" "sizes" (eVar 0)))))
    sNx)
  (sRet (eOr (eBin (eq4D true) (eBin ix3D (eVar 1) (eC (.int 0))) (eC (.str "call"))) (eBin (eq4D false) (eGetA1 (eFld "Survey" "sizes" (eVar 0)) (eBin ix3D (eVar 1) (eC (.int 2)))) (eCall (len2D) (aCons (eBin ix3D (eVar 1) (eC (.int 3))) aNil))))))
def f_Survey_is_allowed : Nat → List D → Sto → R D
  | 0 => fun _ _ => .bad
  | 1 => fun _ _ => .bad
  | k + 2 => dDef 3 (b_Survey_is_allowed k)
def b_Survey_visit_1 (k : Nat) (sf : Nat → List D → Sto → R D) : SF :=
  (sDrop (eMeth "Survey" "visit" (ari 4 (sf 0)) (eVar 0) (aCons (eVar 9) (aCons (eBin addD (eVar 6) (eTup (aCons (eVar 8) aNil))) (aCons (eBin addD (eVar 3) (eC (.int 1))) aNil)))))
def b_Survey_visit_2 (k : Nat) (sf : Nat → List D → Sto → R D) : SF :=
  (sSeq (sSet 6 (eBin addD (eVar 2) (eTup (aCons (eVar 4) aNil))))
  (sSeq (sIf (tOr2 (tBl (eBin (eq4D false) (eCall (len2D) (aCons (eFld "Survey" "seen" (eVar 0)) aNil)) (eC k_MAX_STATEMENTS))) (tOr2 (tNot1 (tTru (eCall (ari 1 (f_is_headed (k + 1))) (aCons (eVar 5) aNil)))) (tNot1 (tTru (eMeth "Survey" "is_allowed" (ari 3 (f_Survey_is_allowed (k + 1))) (eVar 0) (aCons (eVar 5) (aCons (eVar 3) aNil)))))))
    sBad
    sNx)
  (sSeq (sDrop (eM isLst appD (eFld "Survey" "seen" (eVar 0)) (aCons (eVar 6) aNil)))
  (sSeq (sSet 7 (eCall (ari 1 (f_blocks_of (k + 1))) (aCons (eVar 5) aNil)))
  (sSeq (sIf (tOr2 (tNot1 (tTru (eCall (allD) (aCons (eLcA .keys (eVar 7) (gTp 2 (gCons2 (gNm 8) (gCons2 (gNm 9) gNil2))) tYesD (eUn (isiD .tuple) (eVar 9)) [8, 9]) aNil)))) (tAnd2 (tBl (eBin (eq4D true) (eVar 7) (eLst aNil))) (tBl (eBin (eq4D false) (eVar 3) (eC k_MAX_BLOCKS)))))
    sBad
    sNx)
  (sSeq (sFor (wAk .keys (eVar 7)) (gTp 2 (gCons2 (gNm 8) (gCons2 (gNm 9) gNil2)))
    (b_Survey_visit_1 k sf))
  (sIf (tBl (eBin (eq4D false) (eBin ix3D (eVar 5) (eC (.int 0))) (eC (.str "define"))))
    (sAsg (eCall (len2D) (aCons (eBin ix3D (eVar 5) (eC (.int 2))) aNil)) (gIx (eFld "Survey" "sizes" (eVar 0)) (eBin ix3D (eVar 5) (eC (.int 1))) set3D))
    sNx)))))))
def b_Survey_visit (k : Nat) (sf : Nat → List D → Sto → R D) : SF :=
  (sFor (wEn (aCons (eVar 1) aNil)) (gTp 2 (gCons2 (gNm 4) (gCons2 (gNm 5) gNil2)))
    (b_Survey_visit_2 k sf))
def fs_Survey_visit : Nat → Nat → List D → Sto → R D
  | 0 => fun _ _ _ => .bad
  | 1 => fun _ _ _ => .bad
  | k + 2 => fun i => match i with
    | 0 => dDef 10 (b_Survey_visit k (fs_Survey_visit (k + 1)))
    | _ => fun _ _ => .bad
def f_Survey_visit (k : Nat) : List D → Sto → R D := fs_Survey_visit k 0
def b_Survey___init__ (k : Nat) : SF :=
  (sSeq (sFldD "Survey" "seen" (eVar 0) (eLstM aNil))
  (sFldD "Survey" "sizes" (eVar 0) eDict0M))
def f_Survey___init__ : Nat → List D → Sto → R D
  | 0 => fun _ _ => .bad
  | 1 => fun _ _ => .bad
  | k + 2 => dDef 1 (b_Survey___init__ k)
def b_surveyed (k : Nat) : SF :=
  (sSeq (sIf (tNot1 (tTru (eUn (isiD .tuple) (eVar 0))))
    sBad
    sNx)
  (sSeq (sSet 1 (eMake true "Survey" (ari 1 (f_Survey___init__ k)) aNil))
  (sSeq (sDrop (eMeth "Survey" "visit" (ari 4 (f_Survey_visit (k + 1))) (eVar 1) (aCons (eVar 0) (aCons (eTup aNil) (aCons (eC (.int 1)) aNil)))))
  (sRet (eFld "Survey" "seen" (eVar 1))))))
def f_surveyed : Nat → List D → Sto → R D
  | 0 => fun _ _ => .bad
  | 1 => fun _ _ => .bad
  | k + 2 => dDef 2 (b_surveyed k)
def b_check_program (k : Nat) : SF :=
  (sDrop (eCall (ari 1 (f_surveyed (k + 1))) (aCons (eVar 0) aNil)))
def f_check_program : Nat → List D → Sto → R D
  | 0 => fun _ _ => .bad
  | 1 => fun _ _ => .bad
  | k + 2 => dDef 1 (b_check_program k)
def b_finished (k : Nat) : SF :=
  (sSeq (sDrop (eCall (ari 1 (f_check_program (k + 1))) (aCons (eVar 0) aNil)))
  (sSeq (sDrop (eCall (ari 1 (f_check_state (k + 1))) (aCons (eVar 1) aNil)))
  (sSeq (sDrop (eCall (ari 1 (f_check_arguments (k + 1))) (aCons (eVar 2) aNil)))
  (sSeq (sSet 3 (eMake false "Runner" (ari 3 (f_Runner___init__ k)) (aCons (eVar 1) (aCons (eIf (tBl (eBin (isD false) (eVar 2) (eC .non))) eDict0 (eVar 2)) aNil))))
  (sRet (eTup (aCons (eVar 3) (aCons (eMeth "Runner" "whole" (ari 2 (f_Runner_whole (k + 1))) (eVar 3) (aCons (eVar 0) aNil)) aNil))))))))
def f_finished : Nat → List D → Sto → R D
  | 0 => fun _ _ => .bad
  | 1 => fun _ _ => .bad
  | k + 2 => dDef 4 (b_finished k)
def b_run (k : Nat) : SF :=
  (sRet (eBin ix3D (eCall (ari 3 (f_finished (k + 1))) (aCons (eVar 0) (aCons (eVar 1) (aCons (eVar 2) aNil)))) (eC (.int 1))))
def f0_run : Nat → List D → Sto → R D
  | 0 => fun _ _ => .bad
  | 1 => fun _ _ => .bad
  | k + 2 => dDef 3 (b_run k)
def f_run (k : Nat) : List D → Sto → R D := closeF (f0_run k)
def b_Trace_ending (k : Nat) : SF :=
  (sRet (eFld "Trace" "own_ending" (eVar 0)))
def f_Trace_ending : Nat → List D → Sto → R D
  | 0 => fun _ _ => .bad
  | 1 => fun _ _ => .bad
  | k + 2 => dDef 1 (b_Trace_ending k)
def b_Trace_effect (k : Nat) : SF :=
  (sRet (eCall (dictD false) (aCons (eFld "Trace" "own_effect" (eVar 0)) aNil)))
def f_Trace_effect : Nat → List D → Sto → R D
  | 0 => fun _ _ => .bad
  | 1 => fun _ _ => .bad
  | k + 2 => dDef 1 (b_Trace_effect k)
def b_Trace_steps (k : Nat) : SF :=
  (sRet (eCall (listD false) (aCons (eFld "Trace" "own_steps" (eVar 0)) aNil)))
def f_Trace_steps : Nat → List D → Sto → R D
  | 0 => fun _ _ => .bad
  | 1 => fun _ _ => .bad
  | k + 2 => dDef 1 (b_Trace_steps k)
def b_holds (k : Nat) : SF :=
  (sSeq (sSet 3 (eTup (aCons (eC (.str "define")) (aCons (eC (.str "f")) (aCons (eTup (aCons (eC (.str "p")) (aCons (eC (.str "q")) aNil))) (aCons (eTup aNil) aNil))))))
  (sSeq (sSet 4 (eIf (tBl (eBin (eq4D false) (eBin ix3D (eVar 0) (eC (.int 0))) (eC (.str "while")))) (eTup (aCons (eC (.int 1)) (aCons (eC (.str "while")) (aCons (eC (.int 0)) aNil)))) (eTup (aCons (eC (.int 1)) aNil))))
  (sSeq (sSet 5 (eCallD (ari 3 (f_run (k + 1))) [.non] (aCons (eTup (aCons (eVar 3) (aCons (eVar 0) aNil))) (aCons (eVar 2) aNil))))
  (sSeq (sIf (tOr2 (tBl (eBin (eq4D true) (eProp "Trace" (ari 1 (f_Trace_ending k)) (eVar 5)) (eTup (aCons (eC (.str "refused")) (aCons (eVar 1) aNil))))) (tBl (eBin (eq4D true) (eLcA .keys (eProp "Trace" (ari 1 (f_Trace_steps k)) (eVar 5)) (gNm 7) tYesD (eBin ix3D (eVar 7) (eC (.int 0))) [7]) (eLst (aCons (eVar 4) aNil)))))
    (sRet (eC (.bl false)))
    sNx)
  (sSeq (sIf (tOr2 (tBl (eBin (eq4D true) (eBin ix3D (eBin ix3D (eProp "Trace" (ari 1 (f_Trace_steps k)) (eVar 5)) (eC (.int 0))) (eC (.int 2))) (eTup (aCons (eC (.str "refused")) (aCons (eVar 1) aNil))))) (tBl (eBin (eq4D true) (eProp "Trace" (ari 1 (f_Trace_effect k)) (eVar 5)) eDict0)))
    (sRet (eC (.bl false)))
    sNx)
  (sSeq (sIf (tBl (eBin (eq4D true) (eLcA .keys (eBin ix3D (eBin ix3D (eProp "Trace" (ari 1 (f_Trace_steps k)) (eVar 5)) (eC (.int 0))) (eC (.int 1))) (gTp 2 (gCons2 (gNm 8) (gCons2 (gNm 9) gNil2))) (tBl (eBin (eq4D true) (eBin ix3D (eVar 8) (eC (.int 0))) (eC (.str "name")))) (eVar 8) [8, 9]) (eLst aNil)))
    (sRet (eC (.bl false)))
    sNx)
  (sSeq (sSet 6 (eTup (aCons (eVar 3) (aCons (eTup (aCons (eC (.str "try")) (aCons (eTup (aCons (eVar 0) aNil)) (aCons (eTup (aCons (eTup (aCons (eC (.str "write")) (aCons (eTup (aCons (eC (.str "value")) (aCons (eC (.str "w")) aNil))) (aCons (eTup (aCons (eC (.str "value")) (aCons (eC (.int 1)) aNil))) aNil)))) aNil)) aNil)))) aNil))))
  (sRet (eBin (eq4D false) (eProp "Trace" (ari 1 (f_Trace_effect k)) (eCallD (ari 3 (f_run (k + 1))) [.non] (aCons (eVar 6) (aCons (eVar 2) aNil)))) (eDisp false [((eC (.str "w")), (eC (.int 1)))]))))))))))
def f0_holds : Nat → List D → Sto → R D
  | 0 => fun _ _ => .bad
  | 1 => fun _ _ => .bad
  | k + 2 => dDef 10 (b_holds k)
def f_holds (k : Nat) : List D → Sto → R D := closeF (f0_holds k)
def b_deeds (k : Nat) : SF :=
  (sSeq (sSet 2 (eLst (aCons (eTup (aCons (eC (.str "let")) (aCons (eC (.str "a")) (aCons (eVar 0) aNil)))) (aCons (eTup (aCons (eC (.str "read")) (aCons (eC (.str "a")) (aCons (eVar 0) aNil)))) (aCons (eTup (aCons (eC (.str "write")) (aCons (eVar 0) (aCons (eVar 1) aNil)))) (aCons (eTup (aCons (eC (.str "write")) (aCons (eTup (aCons (eC (.str "value")) (aCons (eC (.str "x")) aNil))) (aCons (eVar 0) aNil)))) aNil))))))
  (sSeq (sSet 2 (eBin addD (eVar 2) (eLst (aCons (eTup (aCons (eC (.str "write")) (aCons (eTup (aCons (eC (.str "value")) (aCons (eC (.int 5)) aNil))) (aCons (eVar 0) aNil)))) (aCons (eTup (aCons (eC (.str "delete")) (aCons (eVar 0) aNil))) (aCons (eTup (aCons (eC (.str "if")) (aCons (eVar 0) (aCons (eTup aNil) (aCons (eTup aNil) aNil))))) (aCons (eTup (aCons (eC (.str "each")) (aCons (eC (.str "a")) (aCons (eVar 0) (aCons (eTup aNil) aNil))))) aNil)))))))
  (sSeq (sSet 2 (eBin addD (eVar 2) (eLst (aCons (eTup (aCons (eC (.str "scan")) (aCons (eC (.str "a")) (aCons (eVar 0) (aCons (eTup aNil) aNil))))) (aCons (eTup (aCons (eC (.str "while")) (aCons (eVar 0) (aCons (eTup aNil) aNil)))) (aCons (eTup (aCons (eC (.str "call")) (aCons (eC (.str "a")) (aCons (eC (.str "f")) (aCons (eTup (aCons (eVar 1) (aCons (eVar 0) aNil))) aNil))))) (aCons (eTup (aCons (eC (.str "refuse")) (aCons (eVar 0) aNil))) aNil)))))))
  (sRet (eBin addD (eVar 2) (eLst (aCons (eTup (aCons (eC (.str "return")) (aCons (eVar 0) aNil))) (aCons (eTup (aCons (eC (.str "call")) (aCons (eC (.str "a")) (aCons (eC (.str "f")) (aCons (eTup (aCons (eVar 0) (aCons (eTup (aCons (eC (.str "name")) (aCons (eC (.str "none")) aNil))) aNil))) aNil))))) aNil))))))))
def f_deeds : Nat → List D → Sto → R D
  | 0 => fun _ _ => .bad
  | 1 => fun _ _ => .bad
  | k + 2 => dDef 3 (b_deeds k)
def b_draw (k : Nat) : SF :=
  (sSeq (sIf (tBl (eBin (ordD fun i j => decide (j < i)) (eBin ix3D (eVar 0) (eC (.int 0))) (eC (.int 0))))
    (sSeq (sSet 2 (eBin modD (eBin ix3D (eVar 0) (eC (.int 0))) (eVar 1)))
  (sSeq (sAsg (eBin fdiv2D (eBin ix3D (eVar 0) (eC (.int 0))) (eVar 1)) (gIx (eVar 0) (eC (.int 0)) set3D))
  (sRet (eVar 2))))
    sNx)
  (sSeq (sAsg (eBin modD (eBin addD (eBin mul2D (eBin ix3D (eVar 0) (eC (.int 1))) (eC (.int 48271))) (eC (.int 11))) (eC (.int 2147483647))) (gIx (eVar 0) (eC (.int 1)) set3D))
  (sRet (eBin modD (eBin fdiv2D (eBin modD (eBin mul2D (eBin ix3D (eVar 0) (eC (.int 1))) (eBin ix3D (eVar 0) (eC (.int 1)))) (eC (.int 2147483629))) (eC (.int 16))) (eVar 1)))))
def f_draw : Nat → List D → Sto → R D
  | 0 => fun _ _ => .bad
  | 1 => fun _ _ => .bad
  | k + 2 => dDef 3 (b_draw k)
def b_bad (k : Nat) : SF :=
  (sSeq (sSet 1 (eLst (aCons (eTup (aCons (eTup (aCons (eC (.str "name")) (aCons (eC (.str "none")) aNil))) (aCons (eC (.str "name")) aNil))) (aCons (eTup (aCons (eTup (aCons (eC (.str "divide")) (aCons (eTup (aCons (eC (.str "value")) (aCons (eC (.int 1)) aNil))) (aCons (eTup (aCons (eC (.str "value")) (aCons (eC (.int 0)) aNil))) aNil)))) (aCons (eC (.str "zero")) aNil))) aNil))))
  (sSeq (sSet 1 (eBin addD (eVar 1) (eLst (aCons (eTup (aCons (eTup (aCons (eC (.str "item")) (aCons (eTup (aCons (eC (.str "value")) (aCons (eTup aNil) aNil))) (aCons (eTup (aCons (eC (.str "value")) (aCons (eC (.int 0)) aNil))) aNil)))) (aCons (eC (.str "range")) aNil))) aNil))))
  (sSeq (sSet 1 (eBin addD (eVar 1) (eLst (aCons (eTup (aCons (eTup (aCons (eC (.str "add")) (aCons (eTup (aCons (eC (.str "value")) (aCons (eC (.str "a")) aNil))) (aCons (eTup (aCons (eC (.str "value")) (aCons (eC (.int 1)) aNil))) aNil)))) (aCons (eC (.str "kind")) aNil))) (aCons (eTup (aCons (eTup (aCons (eC (.str "size")) (aCons (eTup (aCons (eC (.str "value")) (aCons (eC (.int 5)) aNil))) aNil))) (aCons (eC (.str "kind")) aNil))) aNil)))))
  (sSeq (sSet 1 (eBin addD (eVar 1) (eLst (aCons (eTup (aCons (eTup (aCons (eC (.str "multiply")) (aCons (eTup (aCons (eC (.str "value")) (aCons (eBin powD (eC (.int 10)) (eC (.int 40))) aNil))) (aCons (eTup (aCons (eC (.str "value")) (aCons (eBin powD (eC (.int 10)) (eC (.int 40))) aNil))) aNil)))) (aCons (eC (.str "size")) aNil))) aNil))))
  (sRet (eBin ix3D (eVar 1) (eCall (ari 2 (f_draw (k + 1))) (aCons (eVar 0) (aCons (eC (.int 6)) aNil)))))))))
def f_bad : Nat → List D → Sto → R D
  | 0 => fun _ _ => .bad
  | 1 => fun _ _ => .bad
  | k + 2 => dDef 2 (b_bad k)
def b_pool (k : Nat) : SF :=
  (sSeq (sSet 2 (eBin addD (eBin mul2D (eC (.int 11)) (eCall (sum2D) (aCons (eSl (eVar 0) pNo (pSo (eC (.int 63)))) aNil))) (eVar 1)))
  (sSeq (sIf (tBl (eBin (ordD fun i j => decide (i < j)) (eVar 1) (eCall (len2D) (aCons (eVar 0) aNil))))
    (sSet 2 (eBin ix3D (eVar 0) (eVar 1)))
    sNx)
  (sSeq (sSet 3 (eCall (absD) (aCons (eVar 2) aNil)))
  (sSeq (sSet 4 (eBin modD (eBin mul2D (eBin addD (eBin addD (eBin addD (eBin modD (eVar 3) (eC (.int 2147483629))) (eBin mul2D (eBin mul2D (eC (.int 7919)) (eVar 1)) (eVar 1))) (eBin mul2D (eC (.int 31)) (eVar 1))) (eC (.int 17))) (eC (.int 48271))) (eC (.int 2147483647))))
  (sRet (eLstM (aCons (eBin mul2D (eVar 3) (eCall (intD) (aCons (eBin (ordD fun i j => decide (j ≤ i)) (eVar 3) (eBin powD (eC (.int 10)) (eC (.int 18)))) aNil))) (aCons (eBin modD (eBin mul2D (eVar 4) (eVar 4)) (eC (.int 2147483629))) aNil))))))))
def f_pool : Nat → List D → Sto → R D
  | 0 => fun _ _ => .bad
  | 1 => fun _ _ => .bad
  | k + 2 => dDef 5 (b_pool k)
def b_law_1 (k : Nat) : SF :=
  (sSeq (sIf (tBl (eBin (eq4D true) (eProp "Trace" (ari 1 (f_Trace_ending k)) (eCallD (ari 3 (f_run (k + 1))) [.non] (aCons (eTup (aCons (eTup (aCons (eC (.str "refuse")) (aCons (eTup (aCons (eC (.str "value")) (aCons (eVar 9) aNil))) aNil))) aNil)) (aCons (eVar 3) aNil)))) (eTup (aCons (eC (.str "refused")) (aCons (eVar 9) aNil)))))
    (sRet (eC (.bl false)))
    sNx)
  (sIf (tBl (eBin (eq4D true) (eProp "Trace" (ari 1 (f_Trace_ending k)) (eCallD (ari 3 (f_run (k + 1))) [.non] (aCons (eTup (aCons (eTup (aCons (eC (.str "return")) (aCons (eTup (aCons (eC (.str "value")) (aCons (eVar 9) aNil))) aNil))) (aCons (eTup (aCons (eC (.str "refuse")) (aCons (eVar 4) aNil))) aNil))) (aCons (eVar 3) aNil)))) (eTup (aCons (eC (.str "returned")) (aCons (eVar 9) aNil)))))
    (sRet (eC (.bl false)))
    sNx))
def b_law_2 (k : Nat) : SF :=
  (sIf (tNot1 (tTru (eCall (ari 3 (f_holds (k + 1))) (aCons (eVar 8) (aCons (eC (.str "kind")) (aCons (eVar 3) aNil))))))
    (sRet (eC (.bl false)))
    sNx)
def b_law_3 (k : Nat) : SF :=
  (sSeq (sSet 10 (eTup (aCons (eC (.str "value")) (aCons (eVar 9) aNil))))
  (sSeq (sSet 11 (eLst (aCons (eTup (aCons (eC (.str "read")) (aCons (eC (.str "a")) (aCons (eVar 10) aNil)))) (aCons (eTup (aCons (eC (.str "write")) (aCons (eVar 10) (aCons (eVar 4) aNil)))) (aCons (eTup (aCons (eC (.str "delete")) (aCons (eVar 10) aNil))) aNil)))))
  (sSeq (sSet 11 (eBin addD (eVar 11) (eSl (eLst (aCons (eTup (aCons (eC (.str "if")) (aCons (eVar 10) (aCons (eTup aNil) (aCons (eTup aNil) aNil))))) (aCons (eTup (aCons (eC (.str "while")) (aCons (eVar 10) (aCons (eTup aNil) aNil)))) aNil))) (pSo (eBin mul2D (eCall (intD) (aCons (eBin (eq4D false) (eVar 9) (eC (.int 5))) aNil)) (eC (.int 2)))) pNo)))
  (sSeq (sSet 11 (eBin addD (eVar 11) (eBin ix3D (eLst (aCons (eLst (aCons (eTup (aCons (eC (.str "each")) (aCons (eC (.str "a")) (aCons (eVar 10) (aCons (eTup aNil) aNil))))) aNil)) (aCons (eLst aNil) aNil))) (eCall (intD) (aCons (eUn (isiD .tuple) (eVar 9)) aNil)))))
  (sFor (wAk .keys (eBin addD (eVar 11) (eBin ix3D (eLst (aCons (eLst (aCons (eTup (aCons (eC (.str "scan")) (aCons (eC (.str "a")) (aCons (eVar 10) (aCons (eTup aNil) aNil))))) aNil)) (aCons (eLst aNil) aNil))) (eCall (intD) (aCons (eBin (eq4D false) (eVar 9) (eC (.str ""))) aNil))))) (gNm 8)
    (b_law_2 k))))))
def b_law_4 (k : Nat) : SF :=
  (sIf (tNot1 (tTru (eCall (ari 3 (f_holds (k + 1))) (aCons (eVar 8) (aCons (eVar 7) (aCons (eVar 3) aNil))))))
    (sRet (eC (.bl false)))
    sNx)
def b_law_5 (k : Nat) : SF :=
  (sSeq (sAsg (eCall (ari 1 (f_bad (k + 1))) (aCons (eVar 2) aNil)) (gTp2 2 (gCons2 (gNm 6) (gCons2 (gNm 7) gNil2))))
  (sFor (wAk .keys (eCall (ari 2 (f_deeds (k + 1))) (aCons (eVar 6) (aCons (eVar 4) aNil)))) (gNm 8)
    (b_law_4 k)))
def b_law_6 (k : Nat) : SF :=
  (sSeq (sSet 2 (eCall (ari 2 (f_pool (k + 1))) (aCons (eVar 0) (aCons (eVar 1) aNil))))
  (sSeq (sPar 3 4 (aCons (eDisp false [((eC (.str "x")), (eC (.int 1))), ((eC (.str "ua")), (eC (.int 2)))]) (aCons (eTup (aCons (eC (.str "value")) (aCons (eCall (ari 2 (f_draw (k + 1))) (aCons (eVar 2) (aCons (eC (.int 9)) aNil))) aNil))) aNil)))
  (sSeq (sFor (wRng1 (aCons (eC (.int 4)) aNil)) (gNm 5)
    (b_law_5 k))
  (sSeq (sFor (wAk .keys (eLst (aCons (eC (.int 5)) (aCons (eTup aNil) (aCons (eTup (aCons (eC (.int 1)) (aCons (eC (.str "x")) aNil))) (aCons (eC (.str "")) aNil)))))) (gNm 9)
    (b_law_3 k))
  (sFor (wAk .keys (eLst (aCons (eC (.int 5)) (aCons (eTup aNil) (aCons (eC (.str "")) (aCons (eC (.str "x")) aNil)))))) (gNm 9)
    (b_law_1 k))))))
def b_law (k : Nat) : SF :=
  (sSeq (sFor (wRng1 (aCons (eCall (max2D) (aCons (eC (.int 1)) (aCons (eCall (min2D) (aCons (eCall (len2D) (aCons (eVar 0) aNil)) (aCons (eC (.int 8)) aNil))) aNil))) aNil)) (gNm 1)
    (b_law_6 k))
  (sRet (eC (.bl true))))
def f_law : Nat → List D → Sto → R D
  | 0 => fun _ _ => .bad
  | 1 => fun _ _ => .bad
  | k + 2 => dDef 12 (b_law k)
end K29

namespace K29
open PySem PySem.Spec PyProof.Rows L2 VL
def topS (i : Nat) : Stmt := PySem.Challenge.pw_mendedruns_k29_reasons_of_refusals.main.body.getD i (.Pass ⟨0, 0, 0, 0⟩)
def clsS (i j : Nat) : Stmt := match topS i with
  | .ClassDef _ _ _ b _ _ _ _ _ _ _ => b.getD j (.Pass ⟨0, 0, 0, 0⟩)
  | x => x
abbrev s_Trace___init__ : Stmt := clsS 65 0
abbrev N_Trace___init__ : List Str := ["self", "steps", "touches", "ending", "effect", "step"]
theorem sc_Trace___init__ : FnScope N_Trace___init__ ["self", "steps", "touches", "ending", "effect"] (defScope s_Trace___init__) := ⟨rfl, rfl, rfl, by decide +kernel, rfl, by decide +kernel, by decide +kernel⟩
abbrev s_Runner_assign : Stmt := clsS 66 3
abbrev N_Runner_assign : List Str := ["self", "name", "value", "place"]
theorem sc_Runner_assign : FnScope N_Runner_assign ["self", "name", "value", "place"] (defScope s_Runner_assign) := ⟨rfl, rfl, rfl, by decide +kernel, rfl, by decide +kernel, by decide +kernel⟩
abbrev s_blocks_of : Stmt := topS 54
abbrev N_blocks_of : List Str := ["statement", "word", "parts", "blocks", "kind", "part"]
theorem sc_blocks_of : FnScope N_blocks_of ["statement"] (defScope s_blocks_of) := ⟨rfl, rfl, rfl, by decide +kernel, rfl, by decide +kernel, by decide +kernel⟩
abbrev s_Runner_write : Stmt := clsS 66 4
abbrev N_Runner_write : List Str := ["self", "key", "value", "place"]
theorem sc_Runner_write : FnScope N_Runner_write ["self", "key", "value", "place"] (defScope s_Runner_write) := ⟨rfl, rfl, rfl, by decide +kernel, rfl, by decide +kernel, by decide +kernel⟩
abbrev s_Runner_add_step : Stmt := clsS 66 5
abbrev N_Runner_add_step : List Str := ["self", "place", "inputs", "sources", "outcome", "touched"]
theorem sc_Runner_add_step : FnScope N_Runner_add_step ["self", "place", "inputs", "sources", "outcome", "touched"] (defScope s_Runner_add_step) := ⟨rfl, rfl, rfl, by decide +kernel, rfl, by decide +kernel, by decide +kernel⟩
abbrev s_is_integer : Stmt := topS 15
abbrev N_is_integer : List Str := ["value"]
theorem sc_is_integer : FnScope N_is_integer ["value"] (defScope s_is_integer) := ⟨rfl, rfl, rfl, by decide +kernel, rfl, by decide +kernel, by decide +kernel⟩
abbrev s_is_word : Stmt := topS 16
abbrev N_is_word : List Str := ["value", "signs", "least", "most", "sign"]
theorem sc_is_word : FnScope N_is_word ["value", "signs", "least", "most"] (defScope s_is_word) := ⟨rfl, rfl, rfl, by decide +kernel, rfl, by decide +kernel, by decide +kernel⟩
abbrev s_is_key : Stmt := topS 21
abbrev N_is_key : List Str := ["value"]
theorem sc_is_key : FnScope N_is_key ["value"] (defScope s_is_key) := ⟨rfl, rfl, rfl, by decide +kernel, rfl, by decide +kernel, by decide +kernel⟩
abbrev s_is_text : Stmt := topS 17
abbrev N_is_text : List Str := ["value"]
theorem sc_is_text : FnScope N_is_text ["value"] (defScope s_is_text) := ⟨rfl, rfl, rfl, by decide +kernel, rfl, by decide +kernel, by decide +kernel⟩
abbrev s_outcome_of : Stmt := topS 67
abbrev N_outcome_of : List Str := ["word", "values", "inputs", "first", "name"]
theorem sc_outcome_of : FnScope N_outcome_of ["word", "values", "inputs"] (defScope s_outcome_of) := ⟨rfl, rfl, rfl, by decide +kernel, rfl, by decide +kernel, by decide +kernel⟩
abbrev s_Runner_keys_with : Stmt := clsS 66 2
abbrev N_Runner_keys_with : List Str := ["self", "prefix", "own", "others", "key", "value"]
theorem sc_Runner_keys_with : FnScope N_Runner_keys_with ["self", "prefix"] (defScope s_Runner_keys_with) := ⟨rfl, rfl, rfl, by decide +kernel, rfl, by decide +kernel, by decide +kernel⟩
abbrev s_Runner_value_under : Stmt := clsS 66 1
abbrev N_Runner_value_under : List Str := ["self", "key", "value"]
theorem sc_Runner_value_under : FnScope N_Runner_value_under ["self", "key"] (defScope s_Runner_value_under) := ⟨rfl, rfl, rfl, by decide +kernel, rfl, by decide +kernel, by decide +kernel⟩
abbrev s_Runner_perform : Stmt := clsS 66 9
abbrev N_Runner_perform : List Str := ["self", "word", "place", "values", "inputs", "sources", "first", "keys", "outcome", "touched", "key"]
theorem sc_Runner_perform : FnScope N_Runner_perform ["self", "word", "place", "values", "inputs", "sources"] (defScope s_Runner_perform) := ⟨rfl, rfl, rfl, by decide +kernel, rfl, by decide +kernel, by decide +kernel⟩
abbrev s_expressions_of : Stmt := topS 55
abbrev N_expressions_of : List Str := ["statement", "word", "parts", "kind", "part"]
theorem sc_expressions_of : FnScope N_expressions_of ["statement"] (defScope s_expressions_of) := ⟨rfl, rfl, rfl, by decide +kernel, rfl, by decide +kernel, by decide +kernel⟩
abbrev s_is_within_levels : Stmt := topS 18
abbrev N_is_within_levels : List Str := ["value", "levels", "item"]
theorem sc_is_within_levels : FnScope N_is_within_levels ["value", "levels"] (defScope s_is_within_levels) := ⟨rfl, rfl, rfl, by decide +kernel, rfl, by decide +kernel, by decide +kernel⟩
abbrev s_size_within : Stmt := topS 19
abbrev N_size_within : List Str := ["value", "item"]
theorem sc_size_within : FnScope N_size_within ["value"] (defScope s_size_within) := ⟨rfl, rfl, rfl, by decide +kernel, rfl, by decide +kernel, by decide +kernel⟩
abbrev s_is_value : Stmt := topS 20
abbrev N_is_value : List Str := ["value"]
theorem sc_is_value : FnScope N_is_value ["value"] (defScope s_is_value) := ⟨rfl, rfl, rfl, by decide +kernel, rfl, by decide +kernel, by decide +kernel⟩
abbrev s_failed : Stmt := topS 38
abbrev N_failed : List Str := ["reason"]
theorem sc_failed : FnScope N_failed ["reason"] (defScope s_failed) := ⟨rfl, rfl, rfl, by decide +kernel, rfl, by decide +kernel, by decide +kernel⟩
abbrev s_numeric_result : Stmt := topS 39
abbrev N_numeric_result : List Str := ["word", "one", "other", "name"]
theorem sc_numeric_result : FnScope N_numeric_result ["word", "one", "other"] (defScope s_numeric_result) := ⟨rfl, rfl, rfl, by decide +kernel, rfl, by decide +kernel, by decide +kernel⟩
abbrev s_item_of : Stmt := topS 41
abbrev N_item_of : List Str := ["items", "index"]
theorem sc_item_of : FnScope N_item_of ["items", "index"] (defScope s_item_of) := ⟨rfl, rfl, rfl, by decide +kernel, rfl, by decide +kernel, by decide +kernel⟩
abbrev s_joined : Stmt := topS 40
abbrev N_joined : List Str := ["one", "other", "are_texts"]
theorem sc_joined : FnScope N_joined ["one", "other"] (defScope s_joined) := ⟨rfl, rfl, rfl, by decide +kernel, rfl, by decide +kernel, by decide +kernel⟩
abbrev s_are_equal : Stmt := topS 25
abbrev N_are_equal : List Str := ["one", "other", "pair"]
theorem sc_are_equal : FnScope N_are_equal ["one", "other"] (defScope s_are_equal) := ⟨rfl, rfl, rfl, by decide +kernel, rfl, by decide +kernel, by decide +kernel⟩
abbrev s_combined : Stmt := topS 42
abbrev N_combined : List Str := ["word", "values", "one", "other"]
theorem sc_combined : FnScope N_combined ["word", "values"] (defScope s_combined) := ⟨rfl, rfl, rfl, by decide +kernel, rfl, by decide +kernel, by decide +kernel⟩
abbrev s_result_of : Stmt := topS 43
abbrev N_result_of : List Str := ["expression", "variables", "word", "parts", "values", "part", "result"]
theorem sc_result_of : FnScope N_result_of ["expression", "variables"] (defScope s_result_of) := ⟨rfl, rfl, rfl, by decide +kernel, rfl, by decide +kernel, by decide +kernel⟩
abbrev s_unlike : Stmt := topS 37
abbrev N_unlike : List Str := ["names", "name"]
theorem sc_unlike : FnScope N_unlike ["names"] (defScope s_unlike) := ⟨rfl, rfl, rfl, by decide +kernel, rfl, by decide +kernel, by decide +kernel⟩
abbrev s_names_within : Stmt := topS 36
abbrev N_names_within : List Str := ["expression", "word", "parts", "part"]
theorem sc_names_within : FnScope N_names_within ["expression"] (defScope s_names_within) := ⟨rfl, rfl, rfl, by decide +kernel, rfl, by decide +kernel, by decide +kernel⟩
abbrev s_names_of : Stmt := topS 56
abbrev N_names_of : List Str := ["statement", "part"]
theorem sc_names_of : FnScope N_names_of ["statement"] (defScope s_names_of) := ⟨rfl, rfl, rfl, by decide +kernel, rfl, by decide +kernel, by decide +kernel⟩
abbrev s_Runner_do_step : Stmt := clsS 66 8
abbrev N_Runner_do_step : List Str := ["self", "statement", "place", "names", "inputs", "sources", "results", "failures", "name", "expression", "result"]
theorem sc_Runner_do_step : FnScope N_Runner_do_step ["self", "statement", "place"] (defScope s_Runner_do_step) := ⟨rfl, rfl, rfl, by decide +kernel, rfl, by decide +kernel, by decide +kernel⟩
abbrev s_Runner_run_block : Stmt := clsS 66 6
abbrev N_Runner_run_block : List Str := ["self", "block", "place", "index", "statement", "signal"]
theorem sc_Runner_run_block : FnScope N_Runner_run_block ["self", "block", "place"] (defScope s_Runner_run_block) := ⟨rfl, rfl, rfl, by decide +kernel, rfl, by decide +kernel, by decide +kernel⟩
abbrev s_Runner_run_statement : Stmt := clsS 66 7
abbrev N_Runner_run_statement : List Str := ["self", "statement", "place", "word", "outcome"]
theorem sc_Runner_run_statement : FnScope N_Runner_run_statement ["self", "statement", "place"] (defScope s_Runner_run_statement) := ⟨rfl, rfl, rfl, by decide +kernel, rfl, by decide +kernel, by decide +kernel⟩
abbrev s_Runner_follow : Stmt := clsS 66 10
abbrev N_Runner_follow : List Str := ["self", "statement", "place", "value", "word", "branch", "block"]
theorem sc_Runner_follow : FnScope N_Runner_follow ["self", "statement", "place", "value"] (defScope s_Runner_follow) := ⟨rfl, rfl, rfl, by decide +kernel, rfl, by decide +kernel, by decide +kernel⟩
abbrev s_Runner_run_loop : Stmt := clsS 66 11
abbrev N_Runner_run_loop : List Str := ["self", "statement", "place", "items", "word", "block", "index", "item", "signal"]
theorem sc_Runner_run_loop : FnScope N_Runner_run_loop ["self", "statement", "place", "items"] (defScope s_Runner_run_loop) := ⟨rfl, rfl, rfl, by decide +kernel, rfl, by decide +kernel, by decide +kernel⟩
abbrev s_Runner_run_while : Stmt := clsS 66 12
abbrev N_Runner_run_while : List Str := ["self", "statement", "place", "turn", "here", "outcome", "signal"]
theorem sc_Runner_run_while : FnScope N_Runner_run_while ["self", "statement", "place"] (defScope s_Runner_run_while) := ⟨rfl, rfl, rfl, by decide +kernel, rfl, by decide +kernel, by decide +kernel⟩
abbrev s_Runner_run_call : Stmt := clsS 66 13
abbrev N_Runner_run_call : List Str := ["self", "statement", "place", "values", "parameters", "block", "kept", "signal", "name"]
theorem sc_Runner_run_call : FnScope N_Runner_run_call ["self", "statement", "place", "values"] (defScope s_Runner_run_call) := ⟨rfl, rfl, rfl, by decide +kernel, rfl, by decide +kernel, by decide +kernel⟩
abbrev s_Runner_run_try : Stmt := clsS 66 14
abbrev N_Runner_run_try : List Str := ["self", "statement", "place", "kept", "signal"]
theorem sc_Runner_run_try : FnScope N_Runner_run_try ["self", "statement", "place"] (defScope s_Runner_run_try) := ⟨rfl, rfl, rfl, by decide +kernel, rfl, by decide +kernel, by decide +kernel⟩
abbrev s_Runner_whole : Stmt := clsS 66 15
abbrev N_Runner_whole : List Str := ["self", "program", "signal", "ending"]
theorem sc_Runner_whole : FnScope N_Runner_whole ["self", "program"] (defScope s_Runner_whole) := ⟨rfl, rfl, rfl, by decide +kernel, rfl, by decide +kernel, by decide +kernel⟩
abbrev s_Runner___init__ : Stmt := clsS 66 0
abbrev N_Runner___init__ : List Str := ["self", "state", "arguments", "name"]
theorem sc_Runner___init__ : FnScope N_Runner___init__ ["self", "state", "arguments"] (defScope s_Runner___init__) := ⟨rfl, rfl, rfl, by decide +kernel, rfl, by decide +kernel, by decide +kernel⟩
abbrev s_is_state : Stmt := topS 23
abbrev N_is_state : List Str := ["value", "key", "worth"]
theorem sc_is_state : FnScope N_is_state ["value"] (defScope s_is_state) := ⟨rfl, rfl, rfl, by decide +kernel, rfl, by decide +kernel, by decide +kernel⟩
abbrev s_is_name : Stmt := topS 22
abbrev N_is_name : List Str := ["value"]
theorem sc_is_name : FnScope N_is_name ["value"] (defScope s_is_name) := ⟨rfl, rfl, rfl, by decide +kernel, rfl, by decide +kernel, by decide +kernel⟩
abbrev s_are_variables : Stmt := topS 24
abbrev N_are_variables : List Str := ["value", "name"]
theorem sc_are_variables : FnScope N_are_variables ["value"] (defScope s_are_variables) := ⟨rfl, rfl, rfl, by decide +kernel, rfl, by decide +kernel, by decide +kernel⟩
abbrev s_check_arguments : Stmt := topS 27
abbrev N_check_arguments : List Str := ["value"]
theorem sc_check_arguments : FnScope N_check_arguments ["value"] (defScope s_check_arguments) := ⟨rfl, rfl, rfl, by decide +kernel, rfl, by decide +kernel, by decide +kernel⟩
abbrev s_check_state : Stmt := topS 26
abbrev N_check_state : List Str := ["value"]
theorem sc_check_state : FnScope N_check_state ["value"] (defScope s_check_state) := ⟨rfl, rfl, rfl, by decide +kernel, rfl, by decide +kernel, by decide +kernel⟩
abbrev s_is_deep_expression : Stmt := topS 34
abbrev N_is_deep_expression : List Str := ["value", "depth", "word", "parts", "sizes", "part"]
theorem sc_is_deep_expression : FnScope N_is_deep_expression ["value", "depth"] (defScope s_is_deep_expression) := ⟨rfl, rfl, rfl, by decide +kernel, rfl, by decide +kernel, by decide +kernel⟩
abbrev s_is_expression : Stmt := topS 35
abbrev N_is_expression : List Str := ["value"]
theorem sc_is_expression : FnScope N_is_expression ["value"] (defScope s_is_expression) := ⟨rfl, rfl, rfl, by decide +kernel, rfl, by decide +kernel, by decide +kernel⟩
abbrev s_are_expressions : Stmt := topS 51
abbrev N_are_expressions : List Str := ["value", "part"]
theorem sc_are_expressions : FnScope N_are_expressions ["value"] (defScope s_are_expressions) := ⟨rfl, rfl, rfl, by decide +kernel, rfl, by decide +kernel, by decide +kernel⟩
abbrev s_are_parameters : Stmt := topS 50
abbrev N_are_parameters : List Str := ["value", "name"]
theorem sc_are_parameters : FnScope N_are_parameters ["value"] (defScope s_are_parameters) := ⟨rfl, rfl, rfl, by decide +kernel, rfl, by decide +kernel, by decide +kernel⟩
abbrev s_is_part : Stmt := topS 52
abbrev N_is_part : List Str := ["kind", "value", "sign"]
theorem sc_is_part : FnScope N_is_part ["kind", "value"] (defScope s_is_part) := ⟨rfl, rfl, rfl, by decide +kernel, rfl, by decide +kernel, by decide +kernel⟩
abbrev s_is_headed : Stmt := topS 53
abbrev N_is_headed : List Str := ["value", "word", "parts", "kind", "part"]
theorem sc_is_headed : FnScope N_is_headed ["value"] (defScope s_is_headed) := ⟨rfl, rfl, rfl, by decide +kernel, rfl, by decide +kernel, by decide +kernel⟩
abbrev s_Survey_is_allowed : Stmt := clsS 57 1
abbrev N_Survey_is_allowed : List Str := ["self", "statement", "depth"]
theorem sc_Survey_is_allowed : FnScope N_Survey_is_allowed ["self", "statement", "depth"] (defScope s_Survey_is_allowed) := ⟨rfl, rfl, rfl, by decide +kernel, rfl, by decide +kernel, by decide +kernel⟩
abbrev s_Survey_visit : Stmt := clsS 57 2
abbrev N_Survey_visit : List Str := ["self", "block", "place", "depth", "index", "statement", "here", "blocks", "word", "inner"]
theorem sc_Survey_visit : FnScope N_Survey_visit ["self", "block", "place", "depth"] (defScope s_Survey_visit) := ⟨rfl, rfl, rfl, by decide +kernel, rfl, by decide +kernel, by decide +kernel⟩
abbrev s_Survey___init__ : Stmt := clsS 57 0
abbrev N_Survey___init__ : List Str := ["self"]
theorem sc_Survey___init__ : FnScope N_Survey___init__ ["self"] (defScope s_Survey___init__) := ⟨rfl, rfl, rfl, by decide +kernel, rfl, by decide +kernel, by decide +kernel⟩
abbrev s_surveyed : Stmt := topS 58
abbrev N_surveyed : List Str := ["program", "survey"]
theorem sc_surveyed : FnScope N_surveyed ["program"] (defScope s_surveyed) := ⟨rfl, rfl, rfl, by decide +kernel, rfl, by decide +kernel, by decide +kernel⟩
abbrev s_check_program : Stmt := topS 59
abbrev N_check_program : List Str := ["program"]
theorem sc_check_program : FnScope N_check_program ["program"] (defScope s_check_program) := ⟨rfl, rfl, rfl, by decide +kernel, rfl, by decide +kernel, by decide +kernel⟩
abbrev s_finished : Stmt := topS 68
abbrev N_finished : List Str := ["program", "state", "arguments", "runner"]
theorem sc_finished : FnScope N_finished ["program", "state", "arguments"] (defScope s_finished) := ⟨rfl, rfl, rfl, by decide +kernel, rfl, by decide +kernel, by decide +kernel⟩
abbrev s_run : Stmt := topS 69
abbrev N_run : List Str := ["program", "state", "arguments"]
theorem sc_run : FnScope N_run ["program", "state", "arguments"] (defScope s_run) := ⟨rfl, rfl, rfl, by decide +kernel, rfl, by decide +kernel, by decide +kernel⟩
abbrev s_Trace_ending : Stmt := clsS 65 2
abbrev N_Trace_ending : List Str := ["self"]
theorem sc_Trace_ending : FnScope N_Trace_ending ["self"] (defScope s_Trace_ending) := ⟨rfl, rfl, rfl, by decide +kernel, rfl, by decide +kernel, by decide +kernel⟩
abbrev s_Trace_effect : Stmt := clsS 65 3
abbrev N_Trace_effect : List Str := ["self"]
theorem sc_Trace_effect : FnScope N_Trace_effect ["self"] (defScope s_Trace_effect) := ⟨rfl, rfl, rfl, by decide +kernel, rfl, by decide +kernel, by decide +kernel⟩
abbrev s_Trace_steps : Stmt := clsS 65 1
abbrev N_Trace_steps : List Str := ["self"]
theorem sc_Trace_steps : FnScope N_Trace_steps ["self"] (defScope s_Trace_steps) := ⟨rfl, rfl, rfl, by decide +kernel, rfl, by decide +kernel, by decide +kernel⟩
abbrev s_holds : Stmt := topS 75
abbrev N_holds : List Str := ["_law_deed", "_law_reason", "_law_state", "_law_define", "_law_place", "_law_trace", "_law_program", "_law_step", "_law_what", "_law_worth"]
theorem sc_holds : FnScope N_holds ["_law_deed", "_law_reason", "_law_state"] (defScope s_holds) := ⟨rfl, rfl, rfl, by decide +kernel, rfl, by decide +kernel, by decide +kernel⟩
abbrev s_deeds : Stmt := topS 74
abbrev N_deeds : List Str := ["_law_bad_here", "_law_good", "_law_found"]
theorem sc_deeds : FnScope N_deeds ["_law_bad_here", "_law_good"] (defScope s_deeds) := ⟨rfl, rfl, rfl, by decide +kernel, rfl, by decide +kernel, by decide +kernel⟩
abbrev s_draw : Stmt := topS 72
abbrev N_draw : List Str := ["_law_pool_here", "_law_many", "_law_found"]
theorem sc_draw : FnScope N_draw ["_law_pool_here", "_law_many"] (defScope s_draw) := ⟨rfl, rfl, rfl, by decide +kernel, rfl, by decide +kernel, by decide +kernel⟩
abbrev s_bad : Stmt := topS 73
abbrev N_bad : List Str := ["_law_pool_here", "_law_some"]
theorem sc_bad : FnScope N_bad ["_law_pool_here"] (defScope s_bad) := ⟨rfl, rfl, rfl, by decide +kernel, rfl, by decide +kernel, by decide +kernel⟩
abbrev s_pool : Stmt := topS 71
abbrev N_pool : List Str := ["_law_script", "_law_k", "_law_cell", "_law_great", "_law_mixed"]
theorem sc_pool : FnScope N_pool ["_law_script", "_law_k"] (defScope s_pool) := ⟨rfl, rfl, rfl, by decide +kernel, rfl, by decide +kernel, by decide +kernel⟩
abbrev s_law : Stmt := topS 76
abbrev N_law : List Str := ["_law_script", "_law_k", "_law_pool_here", "_law_state", "_law_good", "_law_turn", "_law_bad_here", "_law_reason", "_law_deed", "_law_worth", "_law_term", "_law_some"]
theorem sc_law : FnScope N_law ["_law_script"] (defScope s_law) := ⟨rfl, rfl, rfl, by decide +kernel, rfl, by decide +kernel, by decide +kernel⟩
structure Tx (g : G) (w : World) (mg : Str → Option Value) where
  tj : ∀ m H, g.J m H
  c_Trace : CT g.K g.cl mg "Trace" "Trace" ["own_steps", "own_touches", "own_ending", "own_effect", "by_place"]
  c_Runner : CT g.K g.cl mg "Runner" "Runner" ["own_state", "variables", "sources", "writes", "writers", "procedures", "result_place", "done_steps", "step_sources", "touches"]
  c_Survey : CT g.K g.cl mg "Survey" "Survey" ["seen", "sizes"]
  Trace___init__ : IT g.K c_Trace.C "Trace.__init__" s_Trace___init__ ["self", "steps", "touches", "ending", "effect"]
  Runner_assign : MT g.K c_Runner.C "assign" "Runner.assign" s_Runner_assign ["self", "name", "value", "place"]
  blocks_of : FT g.K mg "blocks_of" s_blocks_of ["statement"]
  Runner_write : MT g.K c_Runner.C "write" "Runner.write" s_Runner_write ["self", "key", "value", "place"]
  Runner_add_step : MT g.K c_Runner.C "add_step" "Runner.add_step" s_Runner_add_step ["self", "place", "inputs", "sources", "outcome", "touched"]
  is_integer : FT g.K mg "is_integer" s_is_integer ["value"]
  is_word : FT g.K mg "is_word" s_is_word ["value", "signs", "least", "most"]
  is_key : FT g.K mg "is_key" s_is_key ["value"]
  is_text : FT g.K mg "is_text" s_is_text ["value"]
  outcome_of : FT g.K mg "outcome_of" s_outcome_of ["word", "values", "inputs"]
  Runner_keys_with : MT g.K c_Runner.C "keys_with" "Runner.keys_with" s_Runner_keys_with ["self", "prefix"]
  Runner_value_under : MT g.K c_Runner.C "value_under" "Runner.value_under" s_Runner_value_under ["self", "key"]
  Runner_perform : MT g.K c_Runner.C "perform" "Runner.perform" s_Runner_perform ["self", "word", "place", "values", "inputs", "sources"]
  expressions_of : FT g.K mg "expressions_of" s_expressions_of ["statement"]
  is_within_levels : FT g.K mg "is_within_levels" s_is_within_levels ["value", "levels"]
  size_within : FT g.K mg "size_within" s_size_within ["value"]
  is_value : FT g.K mg "is_value" s_is_value ["value"]
  failed : FT g.K mg "failed" s_failed ["reason"]
  numeric_result : FT g.K mg "numeric_result" s_numeric_result ["word", "one", "other"]
  item_of : FT g.K mg "item_of" s_item_of ["items", "index"]
  joined : FT g.K mg "joined" s_joined ["one", "other"]
  are_equal : FT g.K mg "are_equal" s_are_equal ["one", "other"]
  combined : FT g.K mg "combined" s_combined ["word", "values"]
  result_of : FT g.K mg "result_of" s_result_of ["expression", "variables"]
  unlike : FT g.K mg "unlike" s_unlike ["names"]
  names_within : FT g.K mg "names_within" s_names_within ["expression"]
  names_of : FT g.K mg "names_of" s_names_of ["statement"]
  Runner_do_step : MT g.K c_Runner.C "do_step" "Runner.do_step" s_Runner_do_step ["self", "statement", "place"]
  Runner_run_block : MT g.K c_Runner.C "run_block" "Runner.run_block" s_Runner_run_block ["self", "block", "place"]
  Runner_run_statement : MT g.K c_Runner.C "run_statement" "Runner.run_statement" s_Runner_run_statement ["self", "statement", "place"]
  Runner_follow : MT g.K c_Runner.C "follow" "Runner.follow" s_Runner_follow ["self", "statement", "place", "value"]
  Runner_run_loop : MT g.K c_Runner.C "run_loop" "Runner.run_loop" s_Runner_run_loop ["self", "statement", "place", "items"]
  Runner_run_while : MT g.K c_Runner.C "run_while" "Runner.run_while" s_Runner_run_while ["self", "statement", "place"]
  Runner_run_call : MT g.K c_Runner.C "run_call" "Runner.run_call" s_Runner_run_call ["self", "statement", "place", "values"]
  Runner_run_try : MT g.K c_Runner.C "run_try" "Runner.run_try" s_Runner_run_try ["self", "statement", "place"]
  Runner_whole : MT g.K c_Runner.C "whole" "Runner.whole" s_Runner_whole ["self", "program"]
  Runner___init__ : IT g.K c_Runner.C "Runner.__init__" s_Runner___init__ ["self", "state", "arguments"]
  is_state : FT g.K mg "is_state" s_is_state ["value"]
  is_name : FT g.K mg "is_name" s_is_name ["value"]
  are_variables : FT g.K mg "are_variables" s_are_variables ["value"]
  check_arguments : FT g.K mg "check_arguments" s_check_arguments ["value"]
  check_state : FT g.K mg "check_state" s_check_state ["value"]
  is_deep_expression : FT g.K mg "is_deep_expression" s_is_deep_expression ["value", "depth"]
  is_expression : FT g.K mg "is_expression" s_is_expression ["value"]
  are_expressions : FT g.K mg "are_expressions" s_are_expressions ["value"]
  are_parameters : FT g.K mg "are_parameters" s_are_parameters ["value"]
  is_part : FT g.K mg "is_part" s_is_part ["kind", "value"]
  is_headed : FT g.K mg "is_headed" s_is_headed ["value"]
  Survey_is_allowed : MT g.K c_Survey.C "is_allowed" "Survey.is_allowed" s_Survey_is_allowed ["self", "statement", "depth"]
  Survey_visit : MT g.K c_Survey.C "visit" "Survey.visit" s_Survey_visit ["self", "block", "place", "depth"]
  Survey___init__ : IT g.K c_Survey.C "Survey.__init__" s_Survey___init__ ["self"]
  surveyed : FT g.K mg "surveyed" s_surveyed ["program"]
  check_program : FT g.K mg "check_program" s_check_program ["program"]
  finished : FT g.K mg "finished" s_finished ["program", "state", "arguments"]
  run : FK g.K mg "run" s_run ["program", "state", "arguments"] 2 ["arguments"]
  Trace_ending : RT g.K c_Trace.C "ending" "Trace.ending" s_Trace_ending ["self"]
  Trace_effect : RT g.K c_Trace.C "effect" "Trace.effect" s_Trace_effect ["self"]
  Trace_steps : RT g.K c_Trace.C "steps" "Trace.steps" s_Trace_steps ["self"]
  holds : FT g.K mg "_law_holds" s_holds ["_law_deed", "_law_reason", "_law_state"]
  deeds : FT g.K mg "_law_deeds" s_deeds ["_law_bad_here", "_law_good"]
  draw : FT g.K mg "_law_draw" s_draw ["_law_pool_here", "_law_many"]
  bad : FT g.K mg "_law_bad" s_bad ["_law_pool_here"]
  pool : FT g.K mg "_law_pool" s_pool ["_law_script", "_law_k"]
  law : FT g.K mg "law" s_law ["_law_script"]
  c_MAX_TEXT : KD g.K mg "MAX_TEXT" k_MAX_TEXT
  c_SIGNS : KD g.K mg "SIGNS" k_SIGNS
  c_STORE : KD g.K mg "STORE" k_STORE
  c_MAX_INTEGER : KD g.K mg "MAX_INTEGER" k_MAX_INTEGER
  c_MAX_ITEMS : KD g.K mg "MAX_ITEMS" k_MAX_ITEMS
  c_MAX_LEVELS : KD g.K mg "MAX_LEVELS" k_MAX_LEVELS
  c_MAX_STEPS : KD g.K mg "MAX_STEPS" k_MAX_STEPS
  c_ARGUMENT : KD g.K mg "ARGUMENT" k_ARGUMENT
  c_MAX_NAME : KD g.K mg "MAX_NAME" k_MAX_NAME
  c_LETTERS : KD g.K mg "LETTERS" k_LETTERS
  c_PAIRS : KD g.K mg "PAIRS" k_PAIRS
  c_MAX_PARTS : KD g.K mg "MAX_PARTS" k_MAX_PARTS
  c_MAX_DEPTH : KD g.K mg "MAX_DEPTH" k_MAX_DEPTH
  c_MAX_PARAMETERS : KD g.K mg "MAX_PARAMETERS" k_MAX_PARAMETERS
  c_MAX_BLOCKS : KD g.K mg "MAX_BLOCKS" k_MAX_BLOCKS
  c_MAX_STATEMENTS : KD g.K mg "MAX_STATEMENTS" k_MAX_STATEMENTS
  d_WORDS : KDc g.K w mg "WORDS" kk_WORDS kd_WORDS
  d_FORMS : KDc g.K w mg "FORMS" kk_FORMS kd_FORMS
  m_dict : mg "dict" = none
  m_tuple : mg "tuple" = none
  m_list : mg "list" = none
  m_zip : mg "zip" = none
  m_isinstance : mg "isinstance" = none
  m_int : mg "int" = none
  m_bool : mg "bool" = none
  m_str : mg "str" = none
  m_len : mg "len" = none
  m_all : mg "all" = none
  m_sorted : mg "sorted" = none
  m_sum : mg "sum" = none
  m_enumerate : mg "enumerate" = none
  m_range : mg "range" = none
  m_set : mg "set" = none
  m_abs : mg "abs" = none
  m_min : mg "min" = none
  m_max : mg "max" = none
section
variable {P : Program} {w : World} {mg : Str → Option Value} {base : Heap} {g : G}
theorem st_Trace___init__ (T : Tx g w mg) (k : Nat) : FnOk P w g.K mg base (L2.CX P w) (k + 2) T.Trace___init__.f T.Trace___init__.fd ["self", "steps", "touches", "ending", "effect"] (spD g 5 (f_Trace___init__ (k + 2))) := by
    exact fn_ok (fb := b_Trace___init__ k) (nn := 6) T.Trace___init__.fn sc_Trace___init__ rfl rfl fun cdv A outer s H E X hX hr hx tk hp => by
      subst hX
      have hu := hr.units
      have hu2 := hr.units65
      exact (ds_cons (ds_fld T.c_Trace rfl (by decide) (de_var 0) (de_callTy (cd_tuple rfl) rfl T.m_tuple bt_tuple (da_cons (de_var 1) da_nil)))
    (ds_cons (ds_fld T.c_Trace rfl (by decide) (de_var 0) (de_callTy (cd_tuple rfl) rfl T.m_tuple bt_tuple (da_cons (de_var 2) da_nil)))
    (ds_cons (ds_fld T.c_Trace rfl (by decide) (de_var 0) (de_var 3))
    (ds_cons (ds_fld T.c_Trace rfl (by decide) (de_var 0) (de_callTy (cd_dict (mu := false) rfl rfl) rfl T.m_dict bt_dict (da_cons (de_var 4) da_nil)))
    (ds_one (ds_fld T.c_Trace rfl (by decide) (de_var 0) (de_dcT (own := [("step", 5)]) (mu := false) hu rfl sc_Trace___init__.nd rfl (PIA.v (dA_keys rfl (de_var 1))) (blkOk_by (N := N_Trace___init__) (sc := defScope s_Trace___init__) (by decide +kernel)) (fun _ _ _ _ _ => (dg_name (i := 5) sc_Trace___init__.nd rfl (by first | exact Or.inl rfl | exact Or.inr rfl) (wp_nm (by decide)))) (fun _ _ _ _ _ => dts_nil) (fun _ _ _ _ _ => (de_ix (xd_ix3 rfl hu) (de_var 5) de_int)) (fun _ _ _ _ _ => (de_var 5)))))))))
theorem ok_Trace___init__ (T : Tx g w mg) : ∀ k, FnOk P w g.K mg base (L2.CX P w) k T.Trace___init__.f T.Trace___init__.fd ["self", "steps", "touches", "ending", "effect"] (spD g 5 (f_Trace___init__ k))
  | 0 => fn_bad
  | 1 => fn_bad
  | k + 2 => st_Trace___init__ T k
theorem st_Runner_assign (T : Tx g w mg) (k : Nat) : FnOk P w g.K mg base (L2.CX P w) (k + 2) T.Runner_assign.f T.Runner_assign.fd ["self", "name", "value", "place"] (spD g 4 (f_Runner_assign (k + 2))) := by
    exact fn_ok (fb := b_Runner_assign k) (nn := 4) T.Runner_assign.fn sc_Runner_assign rfl rfl fun cdv A outer s H E X hX hr hx tk hp => by
      subst hX
      have hu := hr.units
      have hu2 := hr.units65
      exact (ds_cons (ds_asg (de_var 2) (dg_ix (fun _ => trivial) (de_fld T.c_Runner rfl (by decide) (de_var 0)) (de_var 1) (sd_set3 hu)))
    (ds_one (ds_asg (de_var 3) (dg_ix (fun _ => trivial) (de_fld T.c_Runner rfl (by decide) (de_var 0)) (de_var 1) (sd_set3 hu)))))
theorem ok_Runner_assign (T : Tx g w mg) : ∀ k, FnOk P w g.K mg base (L2.CX P w) k T.Runner_assign.f T.Runner_assign.fd ["self", "name", "value", "place"] (spD g 4 (f_Runner_assign k))
  | 0 => fn_bad
  | 1 => fn_bad
  | k + 2 => st_Runner_assign T k
theorem st_blocks_of (T : Tx g w mg) (k : Nat) : FnOk P w g.K mg base (L2.CX P w) (k + 2) T.blocks_of.f T.blocks_of.fd ["statement"] (spD g 1 (f_blocks_of (k + 2))) := by
    exact fn_ok (fb := b_blocks_of k) (nn := 6) T.blocks_of.fn sc_blocks_of rfl rfl fun cdv A outer s H E X hX hr hx tk hp => by
      subst hX
      have hu := hr.units
      have hu2 := hr.units65
      exact (ds_cons (ds_asg (de_var 0) (dg_star (es' := [_, _]) rfl rfl (dgs_cons (fun _ _ _ _ _ => trivial) (dg_name (i := 1) sc_blocks_of.nd rfl (by first | exact Or.inl rfl | exact Or.inr rfl) (fun _ _ => trivial)) (dgs_cons (fun _ _ _ _ _ => trivial) (dg_name (i := 2) sc_blocks_of.nd rfl (by first | exact Or.inl rfl | exact Or.inr rfl) (fun _ _ => trivial)) (dgs_nil (fun _ => trivial))))))
    (ds_cons (ds_setLc (own := [("kind", 4), ("part", 5)]) (i := 3) rfl sc_blocks_of.nd rfl rfl rfl (sw_true rfl rfl rfl (by decide +kernel)) (di_z2 rfl rfl T.m_zip (da_cons (de_kix T.d_FORMS rfl rfl (de_var 1)) (da_cons (de_var 2) da_nil))) (blkOk_by (N := N_blocks_of) (sc := defScope s_blocks_of) (by decide +kernel)) (fun _ _ _ _ _ => (dg_tup (n := 2) rfl rfl (dgs_cons (fun _ _ _ p q => Eq.trans q p) (dg_name (i := 4) sc_blocks_of.nd rfl (by first | exact Or.inl rfl | exact Or.inr rfl) (wp_nm (by decide))) (dgs_cons (fun _ _ _ p q => Eq.trans q p) (dg_name (i := 5) sc_blocks_of.nd rfl (by first | exact Or.inl rfl | exact Or.inr rfl) (wp_nm (by decide))) (dgs_nil (fun _ => rfl)))))) (fun _ _ _ _ _ => (dts_one (dt_cmp (od_eq4 rfl hu2) (de_var 4) de_str (nomark _)))) (fun _ _ _ _ _ => (de_var 5)))
    (ds_one (ds_ret (de_lz rfl rfl rfl T.m_list rfl T.m_zip (da_cons (de_kget T.d_WORDS rfl rfl (de_var 1) (de_tup da_nil) ⟨rfl, rfl, rfl, rfl⟩) (da_cons (de_var 3) da_nil)))))))
theorem ok_blocks_of (T : Tx g w mg) : ∀ k, FnOk P w g.K mg base (L2.CX P w) k T.blocks_of.f T.blocks_of.fd ["statement"] (spD g 1 (f_blocks_of k))
  | 0 => fn_bad
  | 1 => fn_bad
  | k + 2 => st_blocks_of T k
theorem st_Runner_write (T : Tx g w mg) (k : Nat) : FnOk P w g.K mg base (L2.CX P w) (k + 2) T.Runner_write.f T.Runner_write.fd ["self", "key", "value", "place"] (spD g 4 (f_Runner_write (k + 2))) := by
    exact fn_ok (fb := b_Runner_write k) (nn := 4) T.Runner_write.fn sc_Runner_write rfl rfl fun cdv A outer s H E X hX hr hx tk hp => by
      subst hX
      have hu := hr.units
      have hu2 := hr.units65
      exact (ds_cons (ds_asg (de_var 2) (dg_ix (fun _ => trivial) (de_fld T.c_Runner rfl (by decide) (de_var 0)) (de_var 1) (sd_set3 hu)))
    (ds_one (ds_asg (de_var 3) (dg_ix (fun _ => trivial) (de_fld T.c_Runner rfl (by decide) (de_var 0)) (de_var 1) (sd_set3 hu)))))
theorem ok_Runner_write (T : Tx g w mg) : ∀ k, FnOk P w g.K mg base (L2.CX P w) k T.Runner_write.f T.Runner_write.fd ["self", "key", "value", "place"] (spD g 4 (f_Runner_write k))
  | 0 => fn_bad
  | 1 => fn_bad
  | k + 2 => st_Runner_write T k
theorem st_Runner_add_step (T : Tx g w mg) (k : Nat) : FnOk P w g.K mg base (L2.CX P w) (k + 2) T.Runner_add_step.f T.Runner_add_step.fd ["self", "place", "inputs", "sources", "outcome", "touched"] (spD g 6 (f_Runner_add_step (k + 2))) := by
    exact fn_ok (fb := b_Runner_add_step k) (nn := 6) T.Runner_add_step.fn sc_Runner_add_step rfl rfl fun cdv A outer s H E X hX hr hx tk hp => by
      subst hX
      have hu := hr.units
      have hu2 := hr.units65
      exact (ds_cons (ds_expr (de_m ty_lst F.plainAttrs_list F.slot_list_append F.type_list_append md_append (de_fld T.c_Runner rfl (by decide) (de_var 0)) (da_cons (de_tup (da_cons (de_var 1) (da_cons (de_var 2) (da_cons (de_var 4) da_nil)))) da_nil)))
    (ds_cons (ds_expr (de_m ty_lst F.plainAttrs_list F.slot_list_append F.type_list_append md_append (de_fld T.c_Runner rfl (by decide) (de_var 0)) (da_cons (de_var 3) da_nil)))
    (ds_cons (ds_expr (de_m ty_lst F.plainAttrs_list F.slot_list_append F.type_list_append md_append (de_fld T.c_Runner rfl (by decide) (de_var 0)) (da_cons (de_var 5) da_nil)))
    (ds_one (ds_ret (de_var 4))))))
theorem ok_Runner_add_step (T : Tx g w mg) : ∀ k, FnOk P w g.K mg base (L2.CX P w) k T.Runner_add_step.f T.Runner_add_step.fd ["self", "place", "inputs", "sources", "outcome", "touched"] (spD g 6 (f_Runner_add_step k))
  | 0 => fn_bad
  | 1 => fn_bad
  | k + 2 => st_Runner_add_step T k
theorem st_is_integer (T : Tx g w mg) (k : Nat) : FnOk P w g.K mg base (L2.CX P w) (k + 2) T.is_integer.f T.is_integer.fd ["value"] (spD g 1 (f_is_integer (k + 2))) := by
    exact fn_ok (fb := b_is_integer k) (nn := 1) T.is_integer.fn sc_is_integer rfl rfl fun cdv A outer s H E X hX hr hx tk hp => by
      subst hX
      have hu := hr.units
      have hu2 := hr.units65
      exact (ds_one (ds_ret (de_and rfl (de_isi .int rfl rfl T.m_isinstance rfl T.m_int bt_int (de_var 0)) (pe_one (de_not rfl (de_isi .bool rfl rfl T.m_isinstance rfl T.m_bool bt_bool (de_var 0)))))))
theorem ok_is_integer (T : Tx g w mg) : ∀ k, FnOk P w g.K mg base (L2.CX P w) k T.is_integer.f T.is_integer.fd ["value"] (spD g 1 (f_is_integer k))
  | 0 => fn_bad
  | 1 => fn_bad
  | k + 2 => st_is_integer T k
theorem st_is_word (T : Tx g w mg) (k : Nat) : FnOk P w g.K mg base (L2.CX P w) (k + 2) T.is_word.f T.is_word.fd ["value", "signs", "least", "most"] (spD g 4 (f_is_word (k + 2))) := by
    exact fn_ok (fb := b_is_word k) (nn := 5) T.is_word.fn sc_is_word rfl rfl fun cdv A outer s H E X hX hr hx tk hp => by
      subst hX
      have hu := hr.units
      have hu2 := hr.units65
      exact (ds_one (ds_ret (de_and rfl (de_isi .str rfl rfl T.m_isinstance rfl T.m_str bt_str (de_var 0)) (de_and rfl (de_chain od_le od_le (de_var 2) (de_callB (cd_len2 rfl) rfl T.m_len bt_len (da_cons (de_var 0) da_nil)) (de_var 3)) (pe_one (de_callB (cd_all rfl rfl) rfl T.m_all bt_all (da_cons (de_lcA (own := [("sign", 4)]) rfl sc_is_word.nd rfl (dA_keys rfl (de_var 0)) (blkOk_by (N := N_is_word) (sc := defScope s_is_word) (by decide +kernel)) (fun _ _ _ _ _ => (dg_name (i := 4) sc_is_word.nd rfl (by first | exact Or.inl rfl | exact Or.inr rfl) (wp_nm (by decide)))) (fun _ _ _ _ _ => dts_nil) (fun _ _ _ _ _ => (de_cmp (od_in3 rfl hu2) (de_var 4) (de_var 1) (by rfl)))) da_nil)))))))
theorem ok_is_word (T : Tx g w mg) : ∀ k, FnOk P w g.K mg base (L2.CX P w) k T.is_word.f T.is_word.fd ["value", "signs", "least", "most"] (spD g 4 (f_is_word k))
  | 0 => fn_bad
  | 1 => fn_bad
  | k + 2 => st_is_word T k
theorem st_is_key (T : Tx g w mg) (k : Nat) : FnOk P w g.K mg base (L2.CX P w) (k + 2) T.is_key.f T.is_key.fd ["value"] (spD g 1 (f_is_key (k + 2))) := by
    exact fn_ok (fb := b_is_key k) (nn := 1) T.is_key.fn sc_is_key rfl rfl fun cdv A outer s H E X hX hr hx tk hp => by
      subst hX
      have hu := hr.units
      have hu2 := hr.units65
      exact (ds_one (ds_ret (de_call (ok_is_word T (k + 1)) hr rfl T.is_word.mgx T.is_word.fn.kp T.is_word.bn hx (da_cons (de_var 0) (da_cons (de_kd rfl rfl T.c_SIGNS) (da_cons de_int (da_cons (de_kd rfl rfl T.c_MAX_TEXT) da_nil)))))))
theorem ok_is_key (T : Tx g w mg) : ∀ k, FnOk P w g.K mg base (L2.CX P w) k T.is_key.f T.is_key.fd ["value"] (spD g 1 (f_is_key k))
  | 0 => fn_bad
  | 1 => fn_bad
  | k + 2 => st_is_key T k
theorem st_is_text (T : Tx g w mg) (k : Nat) : FnOk P w g.K mg base (L2.CX P w) (k + 2) T.is_text.f T.is_text.fd ["value"] (spD g 1 (f_is_text (k + 2))) := by
    exact fn_ok (fb := b_is_text k) (nn := 1) T.is_text.fn sc_is_text rfl rfl fun cdv A outer s H E X hX hr hx tk hp => by
      subst hX
      have hu := hr.units
      have hu2 := hr.units65
      exact (ds_one (ds_ret (de_call (ok_is_word T (k + 1)) hr rfl T.is_word.mgx T.is_word.fn.kp T.is_word.bn hx (da_cons (de_var 0) (da_cons (de_kd rfl rfl T.c_SIGNS) (da_cons de_int (da_cons (de_kd rfl rfl T.c_MAX_TEXT) da_nil)))))))
theorem ok_is_text (T : Tx g w mg) : ∀ k, FnOk P w g.K mg base (L2.CX P w) k T.is_text.f T.is_text.fd ["value"] (spD g 1 (f_is_text k))
  | 0 => fn_bad
  | 1 => fn_bad
  | k + 2 => st_is_text T k
theorem st_outcome_of (T : Tx g w mg) (k : Nat) : FnOk P w g.K mg base (L2.CX P w) (k + 2) T.outcome_of.f T.outcome_of.fd ["word", "values", "inputs"] (spD g 3 (f_outcome_of (k + 2))) := by
    exact fn_ok (fb := b_outcome_of k) (nn := 5) T.outcome_of.fn sc_outcome_of rfl rfl fun cdv A outer s H E X hX hr hx tk hp => by
      subst hX
      have hu := hr.units
      have hu2 := hr.units65
      exact (ds_cons (ds_set (i := 3) sc_outcome_of.nd rfl (by first | exact Or.inl rfl | exact Or.inr rfl) (de_if (dt_cmp (od_ne4 rfl hu2) (de_var 1) (de_lst da_nil) (nomark _)) (de_ix (xd_ix3 rfl hu) (de_var 1) de_int) de_non))
    (ds_one (ds_match (de_var 0)
      (dm_case (i := 4) sc_outcome_of.nd rfl (by first | exact Or.inl rfl | exact Or.inr rfl) (dt_cmp (od_eq4 rfl hu2) (de_var 4) de_str (nomark _))
      (ds_one (ds_ret (de_tup (da_cons de_str (da_cons (de_callTy (cd_tuple rfl) rfl T.m_tuple bt_tuple (da_cons (de_var 1) da_nil)) da_nil)))))
      (dm_case (i := 4) sc_outcome_of.nd rfl (by first | exact Or.inl rfl | exact Or.inr rfl) (dt_cmp (od_eq4 rfl hu2) (de_var 4) de_str (nomark _))
      (ds_one (ds_ret (de_tup (da_cons de_str (da_cons (de_var 3) da_nil)))))
      (dm_case (i := 4) sc_outcome_of.nd rfl (by first | exact Or.inl rfl | exact Or.inr rfl) (dt_cmp (od_eq4 rfl hu2) (de_var 4) de_str (nomark _))
      (ds_one (ds_ret (de_if (dt_tru rfl (de_call (ok_is_key T (k + 1)) hr rfl T.is_key.mgx T.is_key.fn.kp T.is_key.bn hx (da_cons (de_var 3) da_nil))) (de_tup (da_cons de_str (da_cons (de_ix (xd_ix3 rfl hu) (de_ix (xd_ix3 rfl hu) (de_var 2) (de_un ud_neg de_int)) de_int) da_nil))) (de_tup (da_cons de_str (da_cons de_str da_nil))))))
      (dm_case (i := 4) sc_outcome_of.nd rfl (by first | exact Or.inl rfl | exact Or.inr rfl) (dt_cmp (od_eq4 rfl hu2) (de_var 4) de_str (nomark _))
      (ds_one (ds_ret (de_if (dt_tru rfl (de_call (ok_is_text T (k + 1)) hr rfl T.is_text.mgx T.is_text.fn.kp T.is_text.bn hx (da_cons (de_var 3) da_nil))) (de_tup (da_cons de_str (da_cons (de_ix (xd_ix3 rfl hu) (de_ix (xd_ix3 rfl hu) (de_var 2) (de_un ud_neg de_int)) de_int) da_nil))) (de_tup (da_cons de_str (da_cons de_str da_nil))))))
      (dm_case (i := 4) sc_outcome_of.nd rfl (by first | exact Or.inl rfl | exact Or.inr rfl) (dt_cmp (od_eq4 rfl hu2) (de_var 4) de_str (nomark _))
      (ds_one (ds_ret (de_if (dt_tru rfl (de_call (ok_is_key T (k + 1)) hr rfl T.is_key.mgx T.is_key.fn.kp T.is_key.bn hx (da_cons (de_var 3) da_nil))) (de_tup (da_cons de_str (da_cons (de_tup (da_cons (de_var 3) (da_cons (de_ix (xd_ix3 rfl hu) (de_var 1) de_int) da_nil))) da_nil))) (de_tup (da_cons de_str (da_cons de_str da_nil))))))
      (dm_case (i := 4) sc_outcome_of.nd rfl (by first | exact Or.inl rfl | exact Or.inr rfl) (dt_cmp (od_eq4 rfl hu2) (de_var 4) de_str (nomark _))
      (ds_one (ds_ret (de_if (dt_tru rfl (de_call (ok_is_key T (k + 1)) hr rfl T.is_key.mgx T.is_key.fn.kp T.is_key.bn hx (da_cons (de_var 3) da_nil))) (de_tup (da_cons de_str (da_cons (de_var 3) da_nil))) (de_tup (da_cons de_str (da_cons de_str da_nil))))))
      (dm_case (i := 4) sc_outcome_of.nd rfl (by first | exact Or.inl rfl | exact Or.inr rfl) (dt_cmp (od_in3 rfl hu2) (de_var 4) (de_tup (da_cons de_str (da_cons de_str da_nil))) (by rfl))
      (ds_one (ds_ret (de_if (dt_tru rfl (de_call (ok_is_integer T (k + 1)) hr rfl T.is_integer.mgx T.is_integer.fn.kp T.is_integer.bn hx (da_cons (de_var 3) da_nil))) (de_tup (da_cons de_str (da_cons (de_callTy (cd_int) rfl T.m_int bt_int (da_cons (de_cmp (od_ne4 rfl hu2) (de_var 3) de_int (nomark _)) da_nil)) da_nil))) (de_tup (da_cons de_str (da_cons de_str da_nil))))))
      (dm_case (i := 4) sc_outcome_of.nd rfl (by first | exact Or.inl rfl | exact Or.inr rfl) (dt_cmp (od_eq4 rfl hu2) (de_var 4) de_str (nomark _))
      (ds_one (ds_ret (de_if (dt_tru rfl (de_isi .tuple rfl rfl T.m_isinstance rfl T.m_tuple bt_tuple (de_var 3))) (de_tup (da_cons de_str (da_cons (de_var 3) da_nil))) (de_tup (da_cons de_str (da_cons de_str da_nil))))))
      (dm_else (ds_one (ds_ret (de_tup (da_cons de_str (da_cons (de_var 3) da_nil)))))))))))))))))
theorem ok_outcome_of (T : Tx g w mg) : ∀ k, FnOk P w g.K mg base (L2.CX P w) k T.outcome_of.f T.outcome_of.fd ["word", "values", "inputs"] (spD g 3 (f_outcome_of k))
  | 0 => fn_bad
  | 1 => fn_bad
  | k + 2 => st_outcome_of T k
theorem st_Runner_keys_with (T : Tx g w mg) (k : Nat) : FnOk P w g.K mg base (L2.CX P w) (k + 2) T.Runner_keys_with.f T.Runner_keys_with.fd ["self", "prefix"] (spD g 2 (f_Runner_keys_with (k + 2))) := by
    exact fn_ok (fb := b_Runner_keys_with k) (nn := 6) T.Runner_keys_with.fn sc_Runner_keys_with rfl rfl fun cdv A outer s H E X hX hr hx tk hp => by
      subst hX
      have hu := hr.units
      have hu2 := hr.units65
      exact (ds_cons (ds_setLcA (own := [("key", 4), ("value", 5)]) (i := 2) rfl sc_Runner_keys_with.nd rfl rfl rfl (sw_true rfl rfl rfl (by decide +kernel)) (dA_items (de_fld T.c_Runner rfl (by decide) (de_var 0))) (blkOk_by (N := N_Runner_keys_with) (sc := defScope s_Runner_keys_with) (by decide +kernel)) (fun _ _ _ _ _ => (dg_tup (n := 2) rfl rfl (dgs_cons (fun _ _ _ p q => Eq.trans q p) (dg_name (i := 4) sc_Runner_keys_with.nd rfl (by first | exact Or.inl rfl | exact Or.inr rfl) (wp_nm (by decide))) (dgs_cons (fun _ _ _ p q => Eq.trans q p) (dg_name (i := 5) sc_Runner_keys_with.nd rfl (by first | exact Or.inl rfl | exact Or.inr rfl) (wp_nm (by decide))) (dgs_nil (fun _ => rfl)))))) (fun _ _ _ _ _ => (dts_one (dt_cmp od_isnot (de_var 5) de_non (nomark _)))) (fun _ _ _ _ _ => (de_var 4)))
    (ds_cons (ds_setLcA (own := [("key", 4)]) (i := 3) rfl sc_Runner_keys_with.nd rfl rfl rfl (sw_true rfl rfl rfl (by decide +kernel)) (dA_keys rfl (de_fld T.c_Runner rfl (by decide) (de_var 0))) (blkOk_by (N := N_Runner_keys_with) (sc := defScope s_Runner_keys_with) (by decide +kernel)) (fun _ _ _ _ _ => (dg_name (i := 4) sc_Runner_keys_with.nd rfl (by first | exact Or.inl rfl | exact Or.inr rfl) (wp_nm (by decide)))) (fun _ _ _ _ _ => (dts_one (dt_cmp (od_notin3 rfl hu2) (de_var 4) (de_fld T.c_Runner rfl (by decide) (de_var 0)) (by rfl)))) (fun _ _ _ _ _ => (de_var 4)))
    (ds_one (ds_ret (de_callTy (cd_tuple rfl) rfl T.m_tuple bt_tuple (da_cons (de_callB (cd_sorted rfl rfl) rfl T.m_sorted bt_sorted (da_cons (de_lcA (own := [("key", 4)]) rfl sc_Runner_keys_with.nd rfl (dA_keys rfl (de_op (od_add rfl) (de_var 2) (de_var 3))) (blkOk_by (N := N_Runner_keys_with) (sc := defScope s_Runner_keys_with) (by decide +kernel)) (fun _ _ _ _ _ => (dg_name (i := 4) sc_Runner_keys_with.nd rfl (by first | exact Or.inl rfl | exact Or.inr rfl) (wp_nm (by decide)))) (fun _ _ _ _ _ => (dts_one (dt_tru rfl (de_m ty_str F.plainAttrs_str F.slot_str_startswith F.type_str_startswith md_stw (de_var 4) (da_cons (de_var 1) da_nil))))) (fun _ _ _ _ _ => (de_var 4))) da_nil)) da_nil))))))
theorem ok_Runner_keys_with (T : Tx g w mg) : ∀ k, FnOk P w g.K mg base (L2.CX P w) k T.Runner_keys_with.f T.Runner_keys_with.fd ["self", "prefix"] (spD g 2 (f_Runner_keys_with k))
  | 0 => fn_bad
  | 1 => fn_bad
  | k + 2 => st_Runner_keys_with T k
theorem st_Runner_value_under (T : Tx g w mg) (k : Nat) : FnOk P w g.K mg base (L2.CX P w) (k + 2) T.Runner_value_under.f T.Runner_value_under.fd ["self", "key"] (spD g 2 (f_Runner_value_under (k + 2))) := by
    exact fn_ok (fb := b_Runner_value_under k) (nn := 3) T.Runner_value_under.fn sc_Runner_value_under rfl rfl fun cdv A outer s H E X hX hr hx tk hp => by
      subst hX
      have hu := hr.units
      have hu2 := hr.units65
      exact (ds_cons (ds_set (i := 2) sc_Runner_value_under.nd rfl (by first | exact Or.inl rfl | exact Or.inr rfl) (de_if (dt_cmp (od_in3 rfl hu2) (de_var 1) (de_fld T.c_Runner rfl (by decide) (de_var 0)) (by rfl)) (de_ix (xd_ix3 rfl hu) (de_fld T.c_Runner rfl (by decide) (de_var 0)) (de_var 1)) (de_getA1 hu (de_fld T.c_Runner rfl (by decide) (de_var 0)) (de_var 1) ⟨rfl, rfl, rfl, rfl⟩)))
    (ds_one (ds_ret (de_if (dt_cmp od_is (de_var 2) de_non (nomark _)) de_str (de_var 2)))))
theorem ok_Runner_value_under (T : Tx g w mg) : ∀ k, FnOk P w g.K mg base (L2.CX P w) k T.Runner_value_under.f T.Runner_value_under.fd ["self", "key"] (spD g 2 (f_Runner_value_under k))
  | 0 => fn_bad
  | 1 => fn_bad
  | k + 2 => st_Runner_value_under T k
theorem st_Runner_perform (T : Tx g w mg) (k : Nat) : FnOk P w g.K mg base (L2.CX P w) (k + 2) T.Runner_perform.f T.Runner_perform.fd ["self", "word", "place", "values", "inputs", "sources"] (spD g 6 (f_Runner_perform (k + 2))) := by
    exact fn_ok (fb := b_Runner_perform k) (nn := 11) T.Runner_perform.fn sc_Runner_perform rfl rfl fun cdv A outer s H E X hX hr hx tk hp => by
      subst hX
      have hu := hr.units
      have hu2 := hr.units65
      exact (ds_cons (ds_set (i := 6) sc_Runner_perform.nd rfl (by first | exact Or.inl rfl | exact Or.inr rfl) (de_if (dt_cmp (od_ne4 rfl hu2) (de_var 3) (de_lst da_nil) (nomark _)) (de_ix (xd_ix3 rfl hu) (de_var 3) de_int) de_non))
    (ds_cons (ds_if (PW.pt (dw_and (dt_cmp (od_eq4 rfl hu2) (de_var 1) de_str (nomark _)) (dw_and1 (dt_tru rfl (de_call (ok_is_key T (k + 1)) hr rfl T.is_key.mgx T.is_key.fn.kp T.is_key.bn hx (da_cons (de_var 6) da_nil))))))
      (ds_cons (ds_set (i := 4) sc_Runner_perform.nd rfl (by first | exact Or.inl rfl | exact Or.inr rfl) (de_op (od_add rfl) (de_var 4) (de_tup (da_cons (de_tup (da_cons (de_tup (da_cons de_str (da_cons (de_var 6) da_nil))) (da_cons (de_meth T.c_Runner T.Runner_value_under rfl (ok_Runner_value_under T (k + 1)) hr hx (de_var 0) (da_cons (de_var 6) da_nil)) da_nil))) da_nil))))
    (ds_one (ds_set (i := 5) sc_Runner_perform.nd rfl (by first | exact Or.inl rfl | exact Or.inr rfl) (de_op (od_add rfl) (de_var 5) (de_tup (da_cons (de_getA2 hu (de_fld T.c_Runner rfl (by decide) (de_var 0)) (de_var 6) (de_kd rfl rfl T.c_STORE) ⟨rfl, rfl, rfl, rfl⟩) da_nil))))))
      ds_nil)
    (ds_cons (ds_if (PW.pt (dw_and (dt_cmp (od_eq4 rfl hu2) (de_var 1) de_str (nomark _)) (dw_and1 (dt_tru rfl (de_call (ok_is_text T (k + 1)) hr rfl T.is_text.mgx T.is_text.fn.kp T.is_text.bn hx (da_cons (de_var 6) da_nil))))))
      (ds_cons (ds_set (i := 7) sc_Runner_perform.nd rfl (by first | exact Or.inl rfl | exact Or.inr rfl) (de_meth T.c_Runner T.Runner_keys_with rfl (ok_Runner_keys_with T (k + 1)) hr hx (de_var 0) (da_cons (de_var 6) da_nil)))
    (ds_cons (ds_set (i := 4) sc_Runner_perform.nd rfl (by first | exact Or.inl rfl | exact Or.inr rfl) (de_op (od_add rfl) (de_var 4) (de_tup (da_cons (de_tup (da_cons (de_tup (da_cons de_str (da_cons (de_var 6) da_nil))) (da_cons (de_var 7) da_nil))) da_nil))))
    (ds_one (ds_set (i := 5) sc_Runner_perform.nd rfl (by first | exact Or.inl rfl | exact Or.inr rfl) (de_op (od_add rfl) (de_var 5) (de_tup (da_cons (de_callTy (cd_tuple rfl) rfl T.m_tuple bt_tuple (da_cons (de_lcA (own := [("key", 10)]) rfl sc_Runner_perform.nd rfl (dA_keys rfl (de_var 7)) (blkOk_by (N := N_Runner_perform) (sc := defScope s_Runner_perform) (by decide +kernel)) (fun _ _ _ _ _ => (dg_name (i := 10) sc_Runner_perform.nd rfl (by first | exact Or.inl rfl | exact Or.inr rfl) (wp_nm (by decide)))) (fun _ _ _ _ _ => dts_nil) (fun _ _ _ _ _ => (de_getA2 hu (de_fld T.c_Runner rfl (by decide) (de_var 0)) (de_var 10) (de_kd rfl rfl T.c_STORE) ⟨rfl, rfl, rfl, rfl⟩))) da_nil)) da_nil)))))))
      ds_nil)
    (ds_cons (ds_set (i := 8) sc_Runner_perform.nd rfl (by first | exact Or.inl rfl | exact Or.inr rfl) (de_call (ok_outcome_of T (k + 1)) hr rfl T.outcome_of.mgx T.outcome_of.fn.kp T.outcome_of.bn hx (da_cons (de_var 1) (da_cons (de_var 3) (da_cons (de_var 4) da_nil)))))
    (ds_cons (ds_set (i := 9) sc_Runner_perform.nd rfl (by first | exact Or.inl rfl | exact Or.inr rfl) (de_if (PW.pt (dw_and (dt_cmp (od_in3 rfl hu2) (de_var 1) (de_tup (da_cons de_str (da_cons de_str da_nil))) (by rfl)) (dw_and1 (dt_cmp (od_eq4 rfl hu2) (de_ix (xd_ix3 rfl hu) (de_var 8) de_int) de_str (nomark _))))) (de_var 6) de_non))
    (ds_one (ds_ret (de_meth T.c_Runner T.Runner_add_step rfl (ok_Runner_add_step T (k + 1)) hr hx (de_var 0) (da_cons (de_var 2) (da_cons (de_var 4) (da_cons (de_var 5) (da_cons (de_var 8) (da_cons (de_var 9) da_nil)))))))))))))
theorem ok_Runner_perform (T : Tx g w mg) : ∀ k, FnOk P w g.K mg base (L2.CX P w) k T.Runner_perform.f T.Runner_perform.fd ["self", "word", "place", "values", "inputs", "sources"] (spD g 6 (f_Runner_perform k))
  | 0 => fn_bad
  | 1 => fn_bad
  | k + 2 => st_Runner_perform T k
theorem st_expressions_of (T : Tx g w mg) (k : Nat) : FnOk P w g.K mg base (L2.CX P w) (k + 2) T.expressions_of.f T.expressions_of.fd ["statement"] (spD g 1 (f_expressions_of (k + 2))) := by
    exact fn_ok (fb := b_expressions_of k) (nn := 5) T.expressions_of.fn sc_expressions_of rfl rfl fun cdv A outer s H E X hX hr hx tk hp => by
      subst hX
      have hu := hr.units
      have hu2 := hr.units65
      exact (ds_cons (ds_asg (de_var 0) (dg_star (es' := [_, _]) rfl rfl (dgs_cons (fun _ _ _ _ _ => trivial) (dg_name (i := 1) sc_expressions_of.nd rfl (by first | exact Or.inl rfl | exact Or.inr rfl) (fun _ _ => trivial)) (dgs_cons (fun _ _ _ _ _ => trivial) (dg_name (i := 2) sc_expressions_of.nd rfl (by first | exact Or.inl rfl | exact Or.inr rfl) (fun _ _ => trivial)) (dgs_nil (fun _ => trivial))))))
    (ds_cons (ds_if (dt_cmp (od_eq4 rfl hu2) (de_var 1) de_str (nomark _))
      (ds_one (ds_ret (de_callTy (cd_list (mu := false) rfl rfl) rfl T.m_list bt_list (da_cons (de_ix (xd_ix3 rfl hu) (de_var 2) de_int) da_nil))))
      ds_nil)
    (ds_one (ds_ret (de_lc (own := [("kind", 3), ("part", 4)]) rfl sc_expressions_of.nd rfl (di_z2 rfl rfl T.m_zip (da_cons (de_kix T.d_FORMS rfl rfl (de_var 1)) (da_cons (de_var 2) da_nil))) (blkOk_by (N := N_expressions_of) (sc := defScope s_expressions_of) (by decide +kernel)) (fun _ _ _ _ _ => (dg_tup (n := 2) rfl rfl (dgs_cons (fun _ _ _ p q => Eq.trans q p) (dg_name (i := 3) sc_expressions_of.nd rfl (by first | exact Or.inl rfl | exact Or.inr rfl) (wp_nm (by decide))) (dgs_cons (fun _ _ _ p q => Eq.trans q p) (dg_name (i := 4) sc_expressions_of.nd rfl (by first | exact Or.inl rfl | exact Or.inr rfl) (wp_nm (by decide))) (dgs_nil (fun _ => rfl)))))) (fun _ _ _ _ _ => (dts_one (dt_cmp (od_eq4 rfl hu2) (de_var 3) de_str (nomark _)))) (fun _ _ _ _ _ => (de_var 4)))))))
theorem ok_expressions_of (T : Tx g w mg) : ∀ k, FnOk P w g.K mg base (L2.CX P w) k T.expressions_of.f T.expressions_of.fd ["statement"] (spD g 1 (f_expressions_of k))
  | 0 => fn_bad
  | 1 => fn_bad
  | k + 2 => st_expressions_of T k
theorem st_is_within_levels (T : Tx g w mg) (k : Nat) (ih0 : FnOk P w g.K mg base (L2.CX P w) (k + 1) T.is_within_levels.f T.is_within_levels.fd ["value", "levels"] (spD g 2 (fs_is_within_levels (k + 1) 0))) : FnOk P w g.K mg base (L2.CX P w) (k + 2) T.is_within_levels.f T.is_within_levels.fd ["value", "levels"] (spD g 2 (fs_is_within_levels (k + 2) 0)) := by
    exact fn_ok (fb := b_is_within_levels k (fs_is_within_levels (k + 1))) (nn := 3) T.is_within_levels.fn sc_is_within_levels rfl rfl fun cdv A outer s H E X hX hr hx tk hp => by
      subst hX
      have hu := hr.units
      have hu2 := hr.units65
      exact (ds_cons (ds_if (dt_tru rfl (de_isi .tuple rfl rfl T.m_isinstance rfl T.m_tuple bt_tuple (de_var 0)))
      (ds_cons (ds_if (PW.pt (dw_or (dt_cmp (od_eq4 rfl hu2) (de_var 1) de_int (nomark _)) (dw_or1 (dt_cmp od_gt (de_callB (cd_len2 rfl) rfl T.m_len bt_len (da_cons (de_var 0) da_nil)) (de_kd rfl rfl T.c_MAX_ITEMS) (nomark _)))))
      (ds_one (ds_ret de_bl))
      ds_nil)
    (ds_one (ds_ret (de_callB (cd_all rfl rfl) rfl T.m_all bt_all (da_cons (de_lcA (own := [("item", 2)]) rfl sc_is_within_levels.nd rfl (dA_keys rfl (de_var 0)) (blkOk_by (N := N_is_within_levels) (sc := defScope s_is_within_levels) (by decide +kernel)) (fun _ _ _ _ _ => (dg_name (i := 2) sc_is_within_levels.nd rfl (by first | exact Or.inl rfl | exact Or.inr rfl) (wp_nm (by decide)))) (fun _ _ _ _ _ => dts_nil) (fun _ _ _ _ _ => (de_call ih0 hr rfl T.is_within_levels.mgx T.is_within_levels.fn.kp T.is_within_levels.bn px_no (da_cons (de_var 2) (da_cons (de_op (od_sub) (de_var 1) de_int) da_nil))))) da_nil)))))
      ds_nil)
    (ds_cons (ds_if (dt_tru rfl (de_call (ok_is_integer T (k + 1)) hr rfl T.is_integer.mgx T.is_integer.fn.kp T.is_integer.bn hx (da_cons (de_var 0) da_nil)))
      (ds_one (ds_ret (de_chain od_lt od_lt (de_un ud_neg (de_kd rfl rfl T.c_MAX_INTEGER)) (de_var 0) (de_kd rfl rfl T.c_MAX_INTEGER))))
      ds_nil)
    (ds_one (ds_ret (de_call (ok_is_text T (k + 1)) hr rfl T.is_text.mgx T.is_text.fn.kp T.is_text.bn hx (da_cons (de_var 0) da_nil))))))
theorem oks_is_within_levels (T : Tx g w mg) : ∀ k, FnOk P w g.K mg base (L2.CX P w) k T.is_within_levels.f T.is_within_levels.fd ["value", "levels"] (spD g 2 (fs_is_within_levels k 0))
  | 0 => (fn_bad)
  | 1 => (fn_bad)
  | k + 2 => by
    have ih := oks_is_within_levels T (k + 1)
    exact (st_is_within_levels T k ih)
theorem ok_is_within_levels (T : Tx g w mg) (k : Nat) : FnOk P w g.K mg base (L2.CX P w) k T.is_within_levels.f T.is_within_levels.fd ["value", "levels"] (spD g 2 (f_is_within_levels k)) := (oks_is_within_levels T k)
theorem st_size_within (T : Tx g w mg) (k : Nat) (ih0 : FnOk P w g.K mg base (L2.CX P w) (k + 1) T.size_within.f T.size_within.fd ["value"] (spD g 1 (fs_size_within (k + 1) 0))) : FnOk P w g.K mg base (L2.CX P w) (k + 2) T.size_within.f T.size_within.fd ["value"] (spD g 1 (fs_size_within (k + 2) 0)) := by
    exact fn_ok (fb := b_size_within k (fs_size_within (k + 1))) (nn := 2) T.size_within.fn sc_size_within rfl rfl fun cdv A outer s H E X hX hr hx tk hp => by
      subst hX
      have hu := hr.units
      have hu2 := hr.units65
      exact (ds_one (ds_ret (de_if (dt_tru rfl (de_isi .tuple rfl rfl T.m_isinstance rfl T.m_tuple bt_tuple (de_var 0))) (de_callB (cd_sum2 rfl rfl) rfl T.m_sum bt_sum (da_cons (de_lcA (own := [("item", 1)]) rfl sc_size_within.nd rfl (dA_keys rfl (de_var 0)) (blkOk_by (N := N_size_within) (sc := defScope s_size_within) (by decide +kernel)) (fun _ _ _ _ _ => (dg_name (i := 1) sc_size_within.nd rfl (by first | exact Or.inl rfl | exact Or.inr rfl) (wp_nm (by decide)))) (fun _ _ _ _ _ => dts_nil) (fun _ _ _ _ _ => (de_op (od_add rfl) de_int (de_call ih0 hr rfl T.size_within.mgx T.size_within.fn.kp T.size_within.bn px_no (da_cons (de_var 1) da_nil))))) da_nil)) de_int)))
theorem oks_size_within (T : Tx g w mg) : ∀ k, FnOk P w g.K mg base (L2.CX P w) k T.size_within.f T.size_within.fd ["value"] (spD g 1 (fs_size_within k 0))
  | 0 => (fn_bad)
  | 1 => (fn_bad)
  | k + 2 => by
    have ih := oks_size_within T (k + 1)
    exact (st_size_within T k ih)
theorem ok_size_within (T : Tx g w mg) (k : Nat) : FnOk P w g.K mg base (L2.CX P w) k T.size_within.f T.size_within.fd ["value"] (spD g 1 (f_size_within k)) := (oks_size_within T k)
theorem st_is_value (T : Tx g w mg) (k : Nat) : FnOk P w g.K mg base (L2.CX P w) (k + 2) T.is_value.f T.is_value.fd ["value"] (spD g 1 (f_is_value (k + 2))) := by
    exact fn_ok (fb := b_is_value k) (nn := 1) T.is_value.fn sc_is_value rfl rfl fun cdv A outer s H E X hX hr hx tk hp => by
      subst hX
      have hu := hr.units
      have hu2 := hr.units65
      exact (ds_one (ds_ret (de_and rfl (de_call (ok_is_within_levels T (k + 1)) hr rfl T.is_within_levels.mgx T.is_within_levels.fn.kp T.is_within_levels.bn hx (da_cons (de_var 0) (da_cons (de_kd rfl rfl T.c_MAX_LEVELS) da_nil))) (pe_one (de_cmp od_le (de_call (ok_size_within T (k + 1)) hr rfl T.size_within.mgx T.size_within.fn.kp T.size_within.bn hx (da_cons (de_var 0) da_nil)) (de_kd rfl rfl T.c_MAX_ITEMS) (nomark _))))))
theorem ok_is_value (T : Tx g w mg) : ∀ k, FnOk P w g.K mg base (L2.CX P w) k T.is_value.f T.is_value.fd ["value"] (spD g 1 (f_is_value k))
  | 0 => fn_bad
  | 1 => fn_bad
  | k + 2 => st_is_value T k
theorem st_failed (T : Tx g w mg) (k : Nat) : FnOk P w g.K mg base (L2.CX P w) (k + 2) T.failed.f T.failed.fd ["reason"] (spD g 1 (f_failed (k + 2))) := by
    exact fn_ok (fb := b_failed k) (nn := 1) T.failed.fn sc_failed rfl rfl fun cdv A outer s H E X hX hr hx tk hp => by
      subst hX
      have hu := hr.units
      have hu2 := hr.units65
      exact (ds_one (ds_ret (de_tup (da_cons de_str (da_cons (de_var 0) da_nil)))))
theorem ok_failed (T : Tx g w mg) : ∀ k, FnOk P w g.K mg base (L2.CX P w) k T.failed.f T.failed.fd ["reason"] (spD g 1 (f_failed k))
  | 0 => fn_bad
  | 1 => fn_bad
  | k + 2 => st_failed T k
theorem st_numeric_result (T : Tx g w mg) (k : Nat) : FnOk P w g.K mg base (L2.CX P w) (k + 2) T.numeric_result.f T.numeric_result.fd ["word", "one", "other"] (spD g 3 (f_numeric_result (k + 2))) := by
    exact fn_ok (fb := b_numeric_result k) (nn := 4) T.numeric_result.fn sc_numeric_result rfl rfl fun cdv A outer s H E X hX hr hx tk hp => by
      subst hX
      have hu := hr.units
      have hu2 := hr.units65
      exact (ds_cons (ds_if (PW.pt (dw_or (dt_not (dt_tru rfl (de_call (ok_is_integer T (k + 1)) hr rfl T.is_integer.mgx T.is_integer.fn.kp T.is_integer.bn hx (da_cons (de_var 1) da_nil)))) (dw_or1 (dt_not (dt_tru rfl (de_call (ok_is_integer T (k + 1)) hr rfl T.is_integer.mgx T.is_integer.fn.kp T.is_integer.bn hx (da_cons (de_var 2) da_nil)))))))
      (ds_one (ds_ret (de_call (ok_failed T (k + 1)) hr rfl T.failed.mgx T.failed.fn.kp T.failed.bn hx (da_cons de_str da_nil))))
      ds_nil)
    (ds_cons (ds_if (PW.pt (dw_and (dt_cmp (od_eq4 rfl hu2) (de_var 0) de_str (nomark _)) (dw_and1 (dt_cmp (od_eq4 rfl hu2) (de_var 2) de_int (nomark _)))))
      (ds_one (ds_ret (de_call (ok_failed T (k + 1)) hr rfl T.failed.mgx T.failed.fn.kp T.failed.bn hx (da_cons de_str da_nil))))
      ds_nil)
    (ds_one (ds_match (de_var 0)
      (dm_case (i := 3) sc_numeric_result.nd rfl (by first | exact Or.inl rfl | exact Or.inr rfl) (dt_cmp (od_eq4 rfl hu2) (de_var 3) de_str (nomark _))
      (ds_one (ds_ret (de_tup (da_cons de_str (da_cons (de_op (od_add rfl) (de_var 1) (de_var 2)) da_nil)))))
      (dm_case (i := 3) sc_numeric_result.nd rfl (by first | exact Or.inl rfl | exact Or.inr rfl) (dt_cmp (od_eq4 rfl hu2) (de_var 3) de_str (nomark _))
      (ds_one (ds_ret (de_tup (da_cons de_str (da_cons (de_op (od_sub) (de_var 1) (de_var 2)) da_nil)))))
      (dm_case (i := 3) sc_numeric_result.nd rfl (by first | exact Or.inl rfl | exact Or.inr rfl) (dt_cmp (od_eq4 rfl hu2) (de_var 3) de_str (nomark _))
      (ds_one (ds_ret (de_tup (da_cons de_str (da_cons (de_op (od_mul2 rfl) (de_var 1) (de_var 2)) da_nil)))))
      (dm_case (i := 3) sc_numeric_result.nd rfl (by first | exact Or.inl rfl | exact Or.inr rfl) (dt_cmp (od_eq4 rfl hu2) (de_var 3) de_str (nomark _))
      (ds_one (ds_ret (de_tup (da_cons de_str (da_cons (de_op (od_fdiv2) (de_var 1) (de_var 2)) da_nil)))))
      (dm_else (ds_one (ds_ret (de_tup (da_cons de_str (da_cons (de_callTy (cd_int) rfl T.m_int bt_int (da_cons (de_cmp od_lt (de_var 1) (de_var 2) (nomark _)) da_nil)) da_nil))))))))))))))
theorem ok_numeric_result (T : Tx g w mg) : ∀ k, FnOk P w g.K mg base (L2.CX P w) k T.numeric_result.f T.numeric_result.fd ["word", "one", "other"] (spD g 3 (f_numeric_result k))
  | 0 => fn_bad
  | 1 => fn_bad
  | k + 2 => st_numeric_result T k
theorem st_item_of (T : Tx g w mg) (k : Nat) : FnOk P w g.K mg base (L2.CX P w) (k + 2) T.item_of.f T.item_of.fd ["items", "index"] (spD g 2 (f_item_of (k + 2))) := by
    exact fn_ok (fb := b_item_of k) (nn := 2) T.item_of.fn sc_item_of rfl rfl fun cdv A outer s H E X hX hr hx tk hp => by
      subst hX
      have hu := hr.units
      have hu2 := hr.units65
      exact (ds_cons (ds_if (PW.pt (dw_or (dt_not (dt_tru rfl (de_isi .tuple rfl rfl T.m_isinstance rfl T.m_tuple bt_tuple (de_var 0)))) (dw_or1 (dt_not (dt_tru rfl (de_call (ok_is_integer T (k + 1)) hr rfl T.is_integer.mgx T.is_integer.fn.kp T.is_integer.bn hx (da_cons (de_var 1) da_nil)))))))
      (ds_one (ds_ret (de_call (ok_failed T (k + 1)) hr rfl T.failed.mgx T.failed.fn.kp T.failed.bn hx (da_cons de_str da_nil))))
      ds_nil)
    (ds_cons (ds_if (dt_not (dt_chain od_le od_lt de_int (de_var 1) (de_callB (cd_len2 rfl) rfl T.m_len bt_len (da_cons (de_var 0) da_nil))))
      (ds_one (ds_ret (de_call (ok_failed T (k + 1)) hr rfl T.failed.mgx T.failed.fn.kp T.failed.bn hx (da_cons de_str da_nil))))
      ds_nil)
    (ds_one (ds_ret (de_tup (da_cons de_str (da_cons (de_ix (xd_ix3 rfl hu) (de_var 0) (de_var 1)) da_nil)))))))
theorem ok_item_of (T : Tx g w mg) : ∀ k, FnOk P w g.K mg base (L2.CX P w) k T.item_of.f T.item_of.fd ["items", "index"] (spD g 2 (f_item_of k))
  | 0 => fn_bad
  | 1 => fn_bad
  | k + 2 => st_item_of T k
theorem st_joined (T : Tx g w mg) (k : Nat) : FnOk P w g.K mg base (L2.CX P w) (k + 2) T.joined.f T.joined.fd ["one", "other"] (spD g 2 (f_joined (k + 2))) := by
    exact fn_ok (fb := b_joined k) (nn := 3) T.joined.fn sc_joined rfl rfl fun cdv A outer s H E X hX hr hx tk hp => by
      subst hX
      have hu := hr.units
      have hu2 := hr.units65
      exact (ds_cons (ds_set (i := 2) sc_joined.nd rfl (by first | exact Or.inl rfl | exact Or.inr rfl) (de_and rfl (de_call (ok_is_text T (k + 1)) hr rfl T.is_text.mgx T.is_text.fn.kp T.is_text.bn hx (da_cons (de_var 0) da_nil)) (pe_one (de_call (ok_is_text T (k + 1)) hr rfl T.is_text.mgx T.is_text.fn.kp T.is_text.bn hx (da_cons (de_var 1) da_nil)))))
    (ds_cons (ds_if (PW.pt (dw_and (dt_not (dt_tru rfl (de_var 2))) (dw_and1 (dt_not (PW.pt (dw_and (dt_tru rfl (de_isi .tuple rfl rfl T.m_isinstance rfl T.m_tuple bt_tuple (de_var 0))) (dw_and1 (dt_tru rfl (de_isi .tuple rfl rfl T.m_isinstance rfl T.m_tuple bt_tuple (de_var 1))))))))))
      (ds_one (ds_ret (de_call (ok_failed T (k + 1)) hr rfl T.failed.mgx T.failed.fn.kp T.failed.bn hx (da_cons de_str da_nil))))
      ds_nil)
    (ds_one (ds_ret (de_tup (da_cons de_str (da_cons (de_op (od_add rfl) (de_var 0) (de_var 1)) da_nil)))))))
theorem ok_joined (T : Tx g w mg) : ∀ k, FnOk P w g.K mg base (L2.CX P w) k T.joined.f T.joined.fd ["one", "other"] (spD g 2 (f_joined k))
  | 0 => fn_bad
  | 1 => fn_bad
  | k + 2 => st_joined T k
theorem st_are_equal (T : Tx g w mg) (k : Nat) (ih0 : FnOk P w g.K mg base (L2.CX P w) (k + 1) T.are_equal.f T.are_equal.fd ["one", "other"] (spD g 2 (fs_are_equal (k + 1) 0))) : FnOk P w g.K mg base (L2.CX P w) (k + 2) T.are_equal.f T.are_equal.fd ["one", "other"] (spD g 2 (fs_are_equal (k + 2) 0)) := by
    exact fn_ok (fb := b_are_equal k (fs_are_equal (k + 1))) (nn := 3) T.are_equal.fn sc_are_equal rfl rfl fun cdv A outer s H E X hX hr hx tk hp => by
      subst hX
      have hu := hr.units
      have hu2 := hr.units65
      exact (ds_cons (ds_if (PW.pt (dw_and (dt_tru rfl (de_isi .tuple rfl rfl T.m_isinstance rfl T.m_tuple bt_tuple (de_var 0))) (dw_and1 (dt_tru rfl (de_isi .tuple rfl rfl T.m_isinstance rfl T.m_tuple bt_tuple (de_var 1))))))
      (ds_one (ds_ret (de_and rfl (de_cmp (od_eq4 rfl hu2) (de_callB (cd_len2 rfl) rfl T.m_len bt_len (da_cons (de_var 0) da_nil)) (de_callB (cd_len2 rfl) rfl T.m_len bt_len (da_cons (de_var 1) da_nil)) (nomark _)) (pe_one (de_callB (cd_all rfl rfl) rfl T.m_all bt_all (da_cons (de_lc (own := [("pair", 2)]) rfl sc_are_equal.nd rfl (di_zipN rfl rfl T.m_zip (da_cons (de_var 0) (da_cons (de_var 1) da_nil))) (blkOk_by (N := N_are_equal) (sc := defScope s_are_equal) (by decide +kernel)) (fun _ _ _ _ _ => (dg_name (i := 2) sc_are_equal.nd rfl (by first | exact Or.inl rfl | exact Or.inr rfl) (wp_nm (by decide)))) (fun _ _ _ _ _ => dts_nil) (fun _ _ _ _ _ => (de_callS1 rfl ih0 hr rfl T.are_equal.mgx T.are_equal.fn.kp T.are_equal.bn px_no (de_var 2)))) da_nil))))))
      ds_nil)
    (ds_cons (ds_if (PW.pt (dw_or (dt_tru rfl (de_isi .bool rfl rfl T.m_isinstance rfl T.m_bool bt_bool (de_var 0))) (dw_or1 (dt_tru rfl (de_isi .bool rfl rfl T.m_isinstance rfl T.m_bool bt_bool (de_var 1))))))
      (ds_one (ds_ret (de_and rfl (de_isi .bool rfl rfl T.m_isinstance rfl T.m_bool bt_bool (de_var 0)) (de_and rfl (de_isi .bool rfl rfl T.m_isinstance rfl T.m_bool bt_bool (de_var 1)) (pe_one (de_cmp (od_eq4 rfl hu2) (de_var 0) (de_var 1) (nomark _)))))))
      ds_nil)
    (ds_cons (ds_if (PW.pt (dw_or (PW.pt (dw_and (dt_tru rfl (de_isi .int rfl rfl T.m_isinstance rfl T.m_int bt_int (de_var 0))) (dw_and1 (dt_tru rfl (de_isi .int rfl rfl T.m_isinstance rfl T.m_int bt_int (de_var 1)))))) (dw_or1 (PW.pt (dw_and (dt_tru rfl (de_isi .str rfl rfl T.m_isinstance rfl T.m_str bt_str (de_var 0))) (dw_and1 (dt_tru rfl (de_isi .str rfl rfl T.m_isinstance rfl T.m_str bt_str (de_var 1)))))))))
      (ds_one (ds_ret (de_cmp (od_eq4 rfl hu2) (de_var 0) (de_var 1) (nomark _))))
      ds_nil)
    (ds_one (ds_ret (de_and rfl (de_cmp od_is (de_var 0) de_non (nomark _)) (pe_one (de_cmp od_is (de_var 1) de_non (nomark _)))))))))
theorem oks_are_equal (T : Tx g w mg) : ∀ k, FnOk P w g.K mg base (L2.CX P w) k T.are_equal.f T.are_equal.fd ["one", "other"] (spD g 2 (fs_are_equal k 0))
  | 0 => (fn_bad)
  | 1 => (fn_bad)
  | k + 2 => by
    have ih := oks_are_equal T (k + 1)
    exact (st_are_equal T k ih)
theorem ok_are_equal (T : Tx g w mg) (k : Nat) : FnOk P w g.K mg base (L2.CX P w) k T.are_equal.f T.are_equal.fd ["one", "other"] (spD g 2 (f_are_equal k)) := (oks_are_equal T k)
theorem st_combined (T : Tx g w mg) (k : Nat) : FnOk P w g.K mg base (L2.CX P w) (k + 2) T.combined.f T.combined.fd ["word", "values"] (spD g 2 (f_combined (k + 2))) := by
    exact fn_ok (fb := b_combined k) (nn := 4) T.combined.fn sc_combined rfl rfl fun cdv A outer s H E X hX hr hx tk hp => by
      subst hX
      have hu := hr.units
      have hu2 := hr.units65
      exact (ds_cons (ds_if (dt_cmp (od_eq4 rfl hu2) (de_var 0) de_str (nomark _))
      (ds_one (ds_ret (de_tup (da_cons de_str (da_cons (de_callTy (cd_tuple rfl) rfl T.m_tuple bt_tuple (da_cons (de_var 1) da_nil)) da_nil)))))
      ds_nil)
    (ds_cons (ds_if (dt_cmp (od_eq4 rfl hu2) (de_var 0) de_str (nomark _))
      (ds_one (ds_ret (de_if (dt_tru rfl (de_call (ok_is_integer T (k + 1)) hr rfl T.is_integer.mgx T.is_integer.fn.kp T.is_integer.bn hx (da_cons (de_ix (xd_ix3 rfl hu) (de_var 1) de_int) da_nil))) (de_call (ok_failed T (k + 1)) hr rfl T.failed.mgx T.failed.fn.kp T.failed.bn hx (da_cons de_str da_nil)) (de_tup (da_cons de_str (da_cons (de_callB (cd_len2 rfl) rfl T.m_len bt_len (da_cons (de_ix (xd_ix3 rfl hu) (de_var 1) de_int) da_nil)) da_nil))))))
      ds_nil)
    (ds_cons (ds_asg (de_var 1) (dg_tup2 (n := 2) rfl rfl (dgs_cons (fun _ _ _ _ _ => trivial) (dg_name (i := 2) sc_combined.nd rfl (by first | exact Or.inl rfl | exact Or.inr rfl) (fun _ _ => trivial)) (dgs_cons (fun _ _ _ _ _ => trivial) (dg_name (i := 3) sc_combined.nd rfl (by first | exact Or.inl rfl | exact Or.inr rfl) (fun _ _ => trivial)) (dgs_nil (fun _ => trivial))))))
    (ds_cons (ds_if (dt_cmp (od_eq4 rfl hu2) (de_var 0) de_str (nomark _))
      (ds_one (ds_ret (de_tup (da_cons de_str (da_cons (de_callTy (cd_int) rfl T.m_int bt_int (da_cons (de_call (ok_are_equal T (k + 1)) hr rfl T.are_equal.mgx T.are_equal.fn.kp T.are_equal.bn hx (da_cons (de_var 2) (da_cons (de_var 3) da_nil))) da_nil)) da_nil)))))
      ds_nil)
    (ds_cons (ds_if (dt_cmp (od_eq4 rfl hu2) (de_var 0) de_str (nomark _))
      (ds_one (ds_ret (de_call (ok_joined T (k + 1)) hr rfl T.joined.mgx T.joined.fn.kp T.joined.bn hx (da_cons (de_var 2) (da_cons (de_var 3) da_nil)))))
      ds_nil)
    (ds_cons (ds_if (dt_cmp (od_eq4 rfl hu2) (de_var 0) de_str (nomark _))
      (ds_one (ds_ret (de_call (ok_item_of T (k + 1)) hr rfl T.item_of.mgx T.item_of.fn.kp T.item_of.bn hx (da_cons (de_var 2) (da_cons (de_var 3) da_nil)))))
      ds_nil)
    (ds_one (ds_ret (de_call (ok_numeric_result T (k + 1)) hr rfl T.numeric_result.mgx T.numeric_result.fn.kp T.numeric_result.bn hx (da_cons (de_var 0) (da_cons (de_var 2) (da_cons (de_var 3) da_nil))))))))))))
theorem ok_combined (T : Tx g w mg) : ∀ k, FnOk P w g.K mg base (L2.CX P w) k T.combined.f T.combined.fd ["word", "values"] (spD g 2 (f_combined k))
  | 0 => fn_bad
  | 1 => fn_bad
  | k + 2 => st_combined T k
theorem st_result_of (T : Tx g w mg) (k : Nat) (ih0 : FnOk P w g.K mg base (L2.CX P w) (k + 1) T.result_of.f T.result_of.fd ["expression", "variables"] (spD g 2 (fs_result_of (k + 1) 0))) : FnOk P w g.K mg base (L2.CX P w) (k + 2) T.result_of.f T.result_of.fd ["expression", "variables"] (spD g 2 (fs_result_of (k + 2) 0)) := by
    exact fn_ok (fb := b_result_of k (fs_result_of (k + 1))) (nn := 7) T.result_of.fn sc_result_of rfl rfl fun cdv A outer s H E X hX hr hx tk hp => by
      subst hX
      have hu := hr.units
      have hu2 := hr.units65
      exact (ds_cons (ds_asg (de_var 0) (dg_star (es' := [_, _]) rfl rfl (dgs_cons (fun _ _ _ _ _ => trivial) (dg_name (i := 2) sc_result_of.nd rfl (by first | exact Or.inl rfl | exact Or.inr rfl) (fun _ _ => trivial)) (dgs_cons (fun _ _ _ _ _ => trivial) (dg_name (i := 3) sc_result_of.nd rfl (by first | exact Or.inl rfl | exact Or.inr rfl) (fun _ _ => trivial)) (dgs_nil (fun _ => trivial))))))
    (ds_cons (ds_if (dt_cmp (od_eq4 rfl hu2) (de_var 2) de_str (nomark _))
      (ds_one (ds_ret (de_tup (da_cons de_str (da_cons (de_ix (xd_ix3 rfl hu) (de_var 3) de_int) da_nil)))))
      ds_nil)
    (ds_cons (ds_if (dt_cmp (od_eq4 rfl hu2) (de_var 2) de_str (nomark _))
      (ds_one (ds_ret (de_if (dt_cmp (od_in3 rfl hu2) (de_ix (xd_ix3 rfl hu) (de_var 3) de_int) (de_var 1) (by rfl)) (de_tup (da_cons de_str (da_cons (de_ix (xd_ix3 rfl hu) (de_var 1) (de_ix (xd_ix3 rfl hu) (de_var 3) de_int)) da_nil))) (de_call (ok_failed T (k + 1)) hr rfl T.failed.mgx T.failed.fn.kp T.failed.bn hx (da_cons de_str da_nil)))))
      ds_nil)
    (ds_cons (ds_set (i := 4) sc_result_of.nd rfl (by first | exact Or.inl rfl | exact Or.inr rfl) (de_lstM da_nil))
    (ds_cons (ds_for hp rfl (PIA.v (dA_keys rfl (de_var 3))) (dg_name (i := 5) sc_result_of.nd rfl (by first | exact Or.inl rfl | exact Or.inr rfl) (fun _ _ => trivial))
      (ds_cons (ds_set (i := 6) sc_result_of.nd rfl (by first | exact Or.inl rfl | exact Or.inr rfl) (de_call ih0 hr rfl T.result_of.mgx T.result_of.fn.kp T.result_of.bn hx (da_cons (de_var 5) (da_cons (de_var 1) da_nil))))
    (ds_cons (ds_if (dt_cmp (od_eq4 rfl hu2) (de_ix (xd_ix3 rfl hu) (de_var 6) de_int) de_str (nomark _))
      (ds_one (ds_ret (de_var 6)))
      ds_nil)
    (ds_one (ds_expr (de_m ty_lst F.plainAttrs_list F.slot_list_append F.type_list_append md_append (de_var 4) (da_cons (de_ix (xd_ix3 rfl hu) (de_var 6) de_int) da_nil)))))))
    (ds_cons (ds_set (i := 6) sc_result_of.nd rfl (by first | exact Or.inl rfl | exact Or.inr rfl) (de_call (ok_combined T (k + 1)) hr rfl T.combined.mgx T.combined.fn.kp T.combined.bn hx (da_cons (de_var 2) (da_cons (de_var 4) da_nil))))
    (ds_one (ds_ret (de_if (PW.pt (dw_or (dt_cmp (od_eq4 rfl hu2) (de_ix (xd_ix3 rfl hu) (de_var 6) de_int) de_str (nomark _)) (dw_or1 (dt_tru rfl (de_call (ok_is_value T (k + 1)) hr rfl T.is_value.mgx T.is_value.fn.kp T.is_value.bn hx (da_cons (de_ix (xd_ix3 rfl hu) (de_var 6) de_int) da_nil)))))) (de_var 6) (de_call (ok_failed T (k + 1)) hr rfl T.failed.mgx T.failed.fn.kp T.failed.bn hx (da_cons de_str da_nil)))))))))))
theorem oks_result_of (T : Tx g w mg) : ∀ k, FnOk P w g.K mg base (L2.CX P w) k T.result_of.f T.result_of.fd ["expression", "variables"] (spD g 2 (fs_result_of k 0))
  | 0 => (fn_bad)
  | 1 => (fn_bad)
  | k + 2 => by
    have ih := oks_result_of T (k + 1)
    exact (st_result_of T k ih)
theorem ok_result_of (T : Tx g w mg) (k : Nat) : FnOk P w g.K mg base (L2.CX P w) k T.result_of.f T.result_of.fd ["expression", "variables"] (spD g 2 (f_result_of k)) := (oks_result_of T k)
theorem st_unlike (T : Tx g w mg) (k : Nat) : FnOk P w g.K mg base (L2.CX P w) (k + 2) T.unlike.f T.unlike.fd ["names"] (spD g 1 (f_unlike (k + 2))) := by
    exact fn_ok (fb := b_unlike k) (nn := 2) T.unlike.fn sc_unlike rfl rfl fun cdv A outer s H E X hX hr hx tk hp => by
      subst hX
      have hu := hr.units
      have hu2 := hr.units65
      exact (ds_one (ds_ret (de_callTy (cd_list (mu := false) rfl rfl) rfl T.m_list bt_list (da_cons (de_dcA (own := [("name", 1)]) (mu := false) rfl sc_unlike.nd rfl (dA_keys rfl (de_var 0)) (blkOk_by (N := N_unlike) (sc := defScope s_unlike) (by decide +kernel)) (fun _ _ _ _ _ => (dg_name (i := 1) sc_unlike.nd rfl (by first | exact Or.inl rfl | exact Or.inr rfl) (wp_nm (by decide)))) (fun _ _ _ _ _ => dts_nil) (fun _ _ _ _ _ => (de_var 1)) (fun _ _ _ _ _ => de_bl)) da_nil))))
theorem ok_unlike (T : Tx g w mg) : ∀ k, FnOk P w g.K mg base (L2.CX P w) k T.unlike.f T.unlike.fd ["names"] (spD g 1 (f_unlike k))
  | 0 => fn_bad
  | 1 => fn_bad
  | k + 2 => st_unlike T k
theorem st_names_within (T : Tx g w mg) (k : Nat) (ih0 : FnOk P w g.K mg base (L2.CX P w) (k + 1) T.names_within.f T.names_within.fd ["expression"] (spD g 1 (fs_names_within (k + 1) 0))) : FnOk P w g.K mg base (L2.CX P w) (k + 2) T.names_within.f T.names_within.fd ["expression"] (spD g 1 (fs_names_within (k + 2) 0)) := by
    exact fn_ok (fb := b_names_within k (fs_names_within (k + 1))) (nn := 4) T.names_within.fn sc_names_within rfl rfl fun cdv A outer s H E X hX hr hx tk hp => by
      subst hX
      have hu := hr.units
      have hu2 := hr.units65
      exact (ds_cons (ds_asg (de_var 0) (dg_star (es' := [_, _]) rfl rfl (dgs_cons (fun _ _ _ _ _ => trivial) (dg_name (i := 1) sc_names_within.nd rfl (by first | exact Or.inl rfl | exact Or.inr rfl) (fun _ _ => trivial)) (dgs_cons (fun _ _ _ _ _ => trivial) (dg_name (i := 2) sc_names_within.nd rfl (by first | exact Or.inl rfl | exact Or.inr rfl) (fun _ _ => trivial)) (dgs_nil (fun _ => trivial))))))
    (ds_cons (ds_if (dt_cmp (od_eq4 rfl hu2) (de_var 1) de_str (nomark _))
      (ds_one (ds_ret (de_lst da_nil)))
      ds_nil)
    (ds_cons (ds_if (dt_cmp (od_eq4 rfl hu2) (de_var 1) de_str (nomark _))
      (ds_one (ds_ret (de_var 2)))
      ds_nil)
    (ds_one (ds_ret (de_callB (cd_sum2 rfl rfl) rfl T.m_sum bt_sum (da_cons (de_lcA (own := [("part", 3)]) rfl sc_names_within.nd rfl (dA_keys rfl (de_var 2)) (blkOk_by (N := N_names_within) (sc := defScope s_names_within) (by decide +kernel)) (fun _ _ _ _ _ => (dg_name (i := 3) sc_names_within.nd rfl (by first | exact Or.inl rfl | exact Or.inr rfl) (wp_nm (by decide)))) (fun _ _ _ _ _ => dts_nil) (fun _ _ _ _ _ => (de_call ih0 hr rfl T.names_within.mgx T.names_within.fn.kp T.names_within.bn px_no (da_cons (de_var 3) da_nil)))) (da_cons (de_lst da_nil) da_nil))))))))
theorem oks_names_within (T : Tx g w mg) : ∀ k, FnOk P w g.K mg base (L2.CX P w) k T.names_within.f T.names_within.fd ["expression"] (spD g 1 (fs_names_within k 0))
  | 0 => (fn_bad)
  | 1 => (fn_bad)
  | k + 2 => by
    have ih := oks_names_within T (k + 1)
    exact (st_names_within T k ih)
theorem ok_names_within (T : Tx g w mg) (k : Nat) : FnOk P w g.K mg base (L2.CX P w) k T.names_within.f T.names_within.fd ["expression"] (spD g 1 (f_names_within k)) := (oks_names_within T k)
theorem st_names_of (T : Tx g w mg) (k : Nat) : FnOk P w g.K mg base (L2.CX P w) (k + 2) T.names_of.f T.names_of.fd ["statement"] (spD g 1 (f_names_of (k + 2))) := by
    exact fn_ok (fb := b_names_of k) (nn := 2) T.names_of.fn sc_names_of rfl rfl fun cdv A outer s H E X hX hr hx tk hp => by
      subst hX
      have hu := hr.units
      have hu2 := hr.units65
      exact (ds_one (ds_ret (de_call (ok_unlike T (k + 1)) hr rfl T.unlike.mgx T.unlike.fn.kp T.unlike.bn hx (da_cons (de_callB (cd_sum2 rfl rfl) rfl T.m_sum bt_sum (da_cons (de_lcA (own := [("part", 1)]) rfl sc_names_of.nd rfl (dA_keys rfl (de_call (ok_expressions_of T (k + 1)) hr rfl T.expressions_of.mgx T.expressions_of.fn.kp T.expressions_of.bn hx (da_cons (de_var 0) da_nil))) (blkOk_by (N := N_names_of) (sc := defScope s_names_of) (by decide +kernel)) (fun _ _ _ _ _ => (dg_name (i := 1) sc_names_of.nd rfl (by first | exact Or.inl rfl | exact Or.inr rfl) (wp_nm (by decide)))) (fun _ _ _ _ _ => dts_nil) (fun _ _ _ _ _ => (de_call (ok_names_within T (k + 1)) hr rfl T.names_within.mgx T.names_within.fn.kp T.names_within.bn px_no (da_cons (de_var 1) da_nil)))) (da_cons (de_lst da_nil) da_nil))) da_nil))))
theorem ok_names_of (T : Tx g w mg) : ∀ k, FnOk P w g.K mg base (L2.CX P w) k T.names_of.f T.names_of.fd ["statement"] (spD g 1 (f_names_of k))
  | 0 => fn_bad
  | 1 => fn_bad
  | k + 2 => st_names_of T k
theorem st_Runner_do_step (T : Tx g w mg) (k : Nat) : FnOk P w g.K mg base (L2.CX P w) (k + 2) T.Runner_do_step.f T.Runner_do_step.fd ["self", "statement", "place"] (spD g 3 (f_Runner_do_step (k + 2))) := by
    exact fn_ok (fb := b_Runner_do_step k) (nn := 11) T.Runner_do_step.fn sc_Runner_do_step rfl rfl fun cdv A outer s H E X hX hr hx tk hp => by
      subst hX
      have hu := hr.units
      have hu2 := hr.units65
      exact (ds_cons (ds_if (dt_cmp (od_eq4 rfl hu2) (de_callB (cd_len2 rfl) rfl T.m_len bt_len (da_cons (de_fld T.c_Runner rfl (by decide) (de_var 0)) da_nil)) (de_kd rfl rfl T.c_MAX_STEPS) (nomark _))
      (ds_one (ds_ret (de_tup (da_cons de_str (da_cons de_str da_nil)))))
      ds_nil)
    (ds_cons (ds_set (i := 3) sc_Runner_do_step.nd rfl (by first | exact Or.inl rfl | exact Or.inr rfl) (de_call (ok_names_of T (k + 1)) hr rfl T.names_of.mgx T.names_of.fn.kp T.names_of.bn hx (da_cons (de_var 1) da_nil)))
    (ds_cons (ds_set (i := 4) sc_Runner_do_step.nd rfl (by first | exact Or.inl rfl | exact Or.inr rfl) (de_callTy (cd_tuple rfl) rfl T.m_tuple bt_tuple (da_cons (de_lcA (own := [("name", 8)]) rfl sc_Runner_do_step.nd rfl (dA_keys rfl (de_var 3)) (blkOk_by (N := N_Runner_do_step) (sc := defScope s_Runner_do_step) (by decide +kernel)) (fun _ _ _ _ _ => (dg_name (i := 8) sc_Runner_do_step.nd rfl (by first | exact Or.inl rfl | exact Or.inr rfl) (wp_nm (by decide)))) (fun _ _ _ _ _ => dts_nil) (fun _ _ _ _ _ => (de_tup (da_cons (de_tup (da_cons de_str (da_cons (de_var 8) da_nil))) (da_cons (de_getA1 hu (de_fld T.c_Runner rfl (by decide) (de_var 0)) (de_var 8) ⟨rfl, rfl, rfl, rfl⟩) da_nil))))) da_nil)))
    (ds_cons (ds_set (i := 5) sc_Runner_do_step.nd rfl (by first | exact Or.inl rfl | exact Or.inr rfl) (de_callTy (cd_tuple rfl) rfl T.m_tuple bt_tuple (da_cons (de_lcA (own := [("name", 8)]) rfl sc_Runner_do_step.nd rfl (dA_keys rfl (de_var 3)) (blkOk_by (N := N_Runner_do_step) (sc := defScope s_Runner_do_step) (by decide +kernel)) (fun _ _ _ _ _ => (dg_name (i := 8) sc_Runner_do_step.nd rfl (by first | exact Or.inl rfl | exact Or.inr rfl) (wp_nm (by decide)))) (fun _ _ _ _ _ => dts_nil) (fun _ _ _ _ _ => (de_getA1 hu (de_fld T.c_Runner rfl (by decide) (de_var 0)) (de_var 8) ⟨rfl, rfl, rfl, rfl⟩))) da_nil)))
    (ds_cons (ds_setLcA (own := [("expression", 9)]) (i := 6) rfl sc_Runner_do_step.nd rfl rfl rfl (sw_true rfl rfl rfl (by decide +kernel)) (dA_keys rfl (de_call (ok_expressions_of T (k + 1)) hr rfl T.expressions_of.mgx T.expressions_of.fn.kp T.expressions_of.bn hx (da_cons (de_var 1) da_nil))) (blkOk_by (N := N_Runner_do_step) (sc := defScope s_Runner_do_step) (by decide +kernel)) (fun _ _ _ _ _ => (dg_name (i := 9) sc_Runner_do_step.nd rfl (by first | exact Or.inl rfl | exact Or.inr rfl) (wp_nm (by decide)))) (fun _ _ _ _ _ => dts_nil) (fun _ _ _ _ _ => (de_call (ok_result_of T (k + 1)) hr rfl T.result_of.mgx T.result_of.fn.kp T.result_of.bn px_no (da_cons (de_var 9) (da_cons (de_fld T.c_Runner rfl (by decide) (de_var 0)) da_nil)))))
    (ds_cons (ds_setLcA (own := [("result", 10)]) (i := 7) rfl sc_Runner_do_step.nd rfl rfl rfl (sw_true rfl rfl rfl (by decide +kernel)) (dA_keys rfl (de_var 6)) (blkOk_by (N := N_Runner_do_step) (sc := defScope s_Runner_do_step) (by decide +kernel)) (fun _ _ _ _ _ => (dg_name (i := 10) sc_Runner_do_step.nd rfl (by first | exact Or.inl rfl | exact Or.inr rfl) (wp_nm (by decide)))) (fun _ _ _ _ _ => (dts_one (dt_cmp (od_eq4 rfl hu2) (de_ix (xd_ix3 rfl hu) (de_var 10) de_int) de_str (nomark _)))) (fun _ _ _ _ _ => (de_var 10)))
    (ds_cons (ds_if (dt_cmp (od_ne4 rfl hu2) (de_var 7) (de_lst da_nil) (nomark _))
      (ds_one (ds_ret (de_meth T.c_Runner T.Runner_add_step rfl (ok_Runner_add_step T (k + 1)) hr hx (de_var 0) (da_cons (de_var 2) (da_cons (de_var 4) (da_cons (de_var 5) (da_cons (de_tup (da_cons de_str (da_cons (de_ix (xd_ix3 rfl hu) (de_ix (xd_ix3 rfl hu) (de_var 7) de_int) de_int) da_nil))) (da_cons de_non da_nil))))))))
      ds_nil)
    (ds_one (ds_ret (de_meth T.c_Runner T.Runner_perform rfl (ok_Runner_perform T (k + 1)) hr hx (de_var 0) (da_cons (de_ix (xd_ix3 rfl hu) (de_var 1) de_int) (da_cons (de_var 2) (da_cons (de_lcA (own := [("result", 10)]) rfl sc_Runner_do_step.nd rfl (dA_keys rfl (de_var 6)) (blkOk_by (N := N_Runner_do_step) (sc := defScope s_Runner_do_step) (by decide +kernel)) (fun _ _ _ _ _ => (dg_name (i := 10) sc_Runner_do_step.nd rfl (by first | exact Or.inl rfl | exact Or.inr rfl) (wp_nm (by decide)))) (fun _ _ _ _ _ => dts_nil) (fun _ _ _ _ _ => (de_ix (xd_ix3 rfl hu) (de_var 10) de_int))) (da_cons (de_var 4) (da_cons (de_var 5) da_nil)))))))))))))))
theorem ok_Runner_do_step (T : Tx g w mg) : ∀ k, FnOk P w g.K mg base (L2.CX P w) k T.Runner_do_step.f T.Runner_do_step.fd ["self", "statement", "place"] (spD g 3 (f_Runner_do_step k))
  | 0 => fn_bad
  | 1 => fn_bad
  | k + 2 => st_Runner_do_step T k
theorem st_Runner_run_block (T : Tx g w mg) (k : Nat) (ih0 : FnOk P w g.K mg base (L2.CX P w) (k + 1) T.Runner_run_block.f T.Runner_run_block.fd ["self", "block", "place"] (spD g 3 (fs_Runner_run_block (k + 1) 0))) (ih1 : FnOk P w g.K mg base (L2.CX P w) (k + 1) T.Runner_run_statement.f T.Runner_run_statement.fd ["self", "statement", "place"] (spD g 3 (fs_Runner_run_block (k + 1) 1))) (ih2 : FnOk P w g.K mg base (L2.CX P w) (k + 1) T.Runner_follow.f T.Runner_follow.fd ["self", "statement", "place", "value"] (spD g 4 (fs_Runner_run_block (k + 1) 2))) (ih3 : FnOk P w g.K mg base (L2.CX P w) (k + 1) T.Runner_run_loop.f T.Runner_run_loop.fd ["self", "statement", "place", "items"] (spD g 4 (fs_Runner_run_block (k + 1) 3))) (ih4 : FnOk P w g.K mg base (L2.CX P w) (k + 1) T.Runner_run_while.f T.Runner_run_while.fd ["self", "statement", "place"] (spD g 3 (fs_Runner_run_block (k + 1) 4))) (ih5 : FnOk P w g.K mg base (L2.CX P w) (k + 1) T.Runner_run_call.f T.Runner_run_call.fd ["self", "statement", "place", "values"] (spD g 4 (fs_Runner_run_block (k + 1) 5))) (ih6 : FnOk P w g.K mg base (L2.CX P w) (k + 1) T.Runner_run_try.f T.Runner_run_try.fd ["self", "statement", "place"] (spD g 3 (fs_Runner_run_block (k + 1) 6))) : FnOk P w g.K mg base (L2.CX P w) (k + 2) T.Runner_run_block.f T.Runner_run_block.fd ["self", "block", "place"] (spD g 3 (fs_Runner_run_block (k + 2) 0)) := by
    exact fn_ok (fb := b_Runner_run_block k (fs_Runner_run_block (k + 1))) (nn := 6) T.Runner_run_block.fn sc_Runner_run_block rfl rfl fun cdv A outer s H E X hX hr hx tk hp => by
      subst hX
      have hu := hr.units
      have hu2 := hr.units65
      exact (ds_cons (ds_for hp rfl (di_en rfl rfl T.m_enumerate (da_cons (de_var 1) da_nil)) (dg_tup (n := 2) rfl rfl (dgs_cons (fun _ _ _ _ _ => trivial) (dg_name (i := 3) sc_Runner_run_block.nd rfl (by first | exact Or.inl rfl | exact Or.inr rfl) (fun _ _ => trivial)) (dgs_cons (fun _ _ _ _ _ => trivial) (dg_name (i := 4) sc_Runner_run_block.nd rfl (by first | exact Or.inl rfl | exact Or.inr rfl) (fun _ _ => trivial)) (dgs_nil (fun _ => trivial)))))
      (ds_cons (ds_set (i := 5) sc_Runner_run_block.nd rfl (by first | exact Or.inl rfl | exact Or.inr rfl) (de_meth T.c_Runner T.Runner_run_statement rfl ih1 hr hx (de_var 0) (da_cons (de_var 4) (da_cons (de_op (od_add rfl) (de_var 2) (de_tup (da_cons (de_var 3) da_nil))) da_nil))))
    (ds_one (ds_if (dt_cmp od_isnot (de_var 5) de_non (nomark _))
      (ds_one (ds_ret (de_var 5)))
      ds_nil))))
    (ds_one (ds_ret de_non)))
theorem st_Runner_run_statement (T : Tx g w mg) (k : Nat) (ih0 : FnOk P w g.K mg base (L2.CX P w) (k + 1) T.Runner_run_block.f T.Runner_run_block.fd ["self", "block", "place"] (spD g 3 (fs_Runner_run_block (k + 1) 0))) (ih1 : FnOk P w g.K mg base (L2.CX P w) (k + 1) T.Runner_run_statement.f T.Runner_run_statement.fd ["self", "statement", "place"] (spD g 3 (fs_Runner_run_block (k + 1) 1))) (ih2 : FnOk P w g.K mg base (L2.CX P w) (k + 1) T.Runner_follow.f T.Runner_follow.fd ["self", "statement", "place", "value"] (spD g 4 (fs_Runner_run_block (k + 1) 2))) (ih3 : FnOk P w g.K mg base (L2.CX P w) (k + 1) T.Runner_run_loop.f T.Runner_run_loop.fd ["self", "statement", "place", "items"] (spD g 4 (fs_Runner_run_block (k + 1) 3))) (ih4 : FnOk P w g.K mg base (L2.CX P w) (k + 1) T.Runner_run_while.f T.Runner_run_while.fd ["self", "statement", "place"] (spD g 3 (fs_Runner_run_block (k + 1) 4))) (ih5 : FnOk P w g.K mg base (L2.CX P w) (k + 1) T.Runner_run_call.f T.Runner_run_call.fd ["self", "statement", "place", "values"] (spD g 4 (fs_Runner_run_block (k + 1) 5))) (ih6 : FnOk P w g.K mg base (L2.CX P w) (k + 1) T.Runner_run_try.f T.Runner_run_try.fd ["self", "statement", "place"] (spD g 3 (fs_Runner_run_block (k + 1) 6))) : FnOk P w g.K mg base (L2.CX P w) (k + 2) T.Runner_run_statement.f T.Runner_run_statement.fd ["self", "statement", "place"] (spD g 3 (fs_Runner_run_block (k + 2) 1)) := by
    exact fn_ok (fb := b_Runner_run_statement k (fs_Runner_run_block (k + 1))) (nn := 5) T.Runner_run_statement.fn sc_Runner_run_statement rfl rfl fun cdv A outer s H E X hX hr hx tk hp => by
      subst hX
      have hu := hr.units
      have hu2 := hr.units65
      exact (ds_cons (ds_match (de_ix (xd_ix3 rfl hu) (de_var 1) de_int)
      (dm_case (i := 3) sc_Runner_run_statement.nd rfl (by first | exact Or.inl rfl | exact Or.inr rfl) (dt_cmp (od_eq4 rfl hu2) (de_var 3) de_str (nomark _))
      (ds_one (ds_ret (de_meth T.c_Runner T.Runner_run_try rfl ih6 hr hx (de_var 0) (da_cons (de_var 1) (da_cons (de_var 2) da_nil)))))
      (dm_case (i := 3) sc_Runner_run_statement.nd rfl (by first | exact Or.inl rfl | exact Or.inr rfl) (dt_cmp (od_eq4 rfl hu2) (de_var 3) de_str (nomark _))
      (ds_one (ds_ret (de_meth T.c_Runner T.Runner_run_while rfl ih4 hr hx (de_var 0) (da_cons (de_var 1) (da_cons (de_var 2) da_nil)))))
      (dm_case (i := 3) sc_Runner_run_statement.nd rfl (by first | exact Or.inl rfl | exact Or.inr rfl) (dt_cmp (od_eq4 rfl hu2) (de_var 3) de_str (nomark _))
      (ds_cons (ds_asg (de_tup (da_cons (de_ix (xd_ix3 rfl hu) (de_var 1) de_int) (da_cons (de_ix (xd_ix3 rfl hu) (de_var 1) de_int) da_nil))) (dg_ix (fun _ => trivial) (de_fld T.c_Runner rfl (by decide) (de_var 0)) (de_ix (xd_ix3 rfl hu) (de_var 1) de_int) (sd_set3 hu)))
    (ds_one (ds_ret de_non)))
      dm_nil))))
    (ds_cons (ds_set (i := 4) sc_Runner_run_statement.nd rfl (by first | exact Or.inl rfl | exact Or.inr rfl) (de_meth T.c_Runner T.Runner_do_step rfl (ok_Runner_do_step T (k + 1)) hr hx (de_var 0) (da_cons (de_var 1) (da_cons (de_var 2) da_nil))))
    (ds_one (ds_ret (de_if (dt_cmp (od_ne4 rfl hu2) (de_ix (xd_ix3 rfl hu) (de_var 4) de_int) de_str (nomark _)) (de_var 4) (de_meth T.c_Runner T.Runner_follow rfl ih2 hr hx (de_var 0) (da_cons (de_var 1) (da_cons (de_var 2) (da_cons (de_ix (xd_ix3 rfl hu) (de_var 4) de_int) da_nil)))))))))
theorem st_Runner_follow (T : Tx g w mg) (k : Nat) (ih0 : FnOk P w g.K mg base (L2.CX P w) (k + 1) T.Runner_run_block.f T.Runner_run_block.fd ["self", "block", "place"] (spD g 3 (fs_Runner_run_block (k + 1) 0))) (ih1 : FnOk P w g.K mg base (L2.CX P w) (k + 1) T.Runner_run_statement.f T.Runner_run_statement.fd ["self", "statement", "place"] (spD g 3 (fs_Runner_run_block (k + 1) 1))) (ih2 : FnOk P w g.K mg base (L2.CX P w) (k + 1) T.Runner_follow.f T.Runner_follow.fd ["self", "statement", "place", "value"] (spD g 4 (fs_Runner_run_block (k + 1) 2))) (ih3 : FnOk P w g.K mg base (L2.CX P w) (k + 1) T.Runner_run_loop.f T.Runner_run_loop.fd ["self", "statement", "place", "items"] (spD g 4 (fs_Runner_run_block (k + 1) 3))) (ih4 : FnOk P w g.K mg base (L2.CX P w) (k + 1) T.Runner_run_while.f T.Runner_run_while.fd ["self", "statement", "place"] (spD g 3 (fs_Runner_run_block (k + 1) 4))) (ih5 : FnOk P w g.K mg base (L2.CX P w) (k + 1) T.Runner_run_call.f T.Runner_run_call.fd ["self", "statement", "place", "values"] (spD g 4 (fs_Runner_run_block (k + 1) 5))) (ih6 : FnOk P w g.K mg base (L2.CX P w) (k + 1) T.Runner_run_try.f T.Runner_run_try.fd ["self", "statement", "place"] (spD g 3 (fs_Runner_run_block (k + 1) 6))) : FnOk P w g.K mg base (L2.CX P w) (k + 2) T.Runner_follow.f T.Runner_follow.fd ["self", "statement", "place", "value"] (spD g 4 (fs_Runner_run_block (k + 2) 2)) := by
    exact fn_ok (fb := b_Runner_follow k (fs_Runner_run_block (k + 1))) (nn := 7) T.Runner_follow.fn sc_Runner_follow rfl rfl fun cdv A outer s H E X hX hr hx tk hp => by
      subst hX
      have hu := hr.units
      have hu2 := hr.units65
      exact (ds_cons (ds_match (de_ix (xd_ix3 rfl hu) (de_var 1) de_int)
      (dm_case (i := 4) sc_Runner_follow.nd rfl (by first | exact Or.inl rfl | exact Or.inr rfl) (dt_cmp (od_in3 rfl hu2) (de_var 4) (de_tup (da_cons de_str (da_cons de_str da_nil))) (by rfl))
      (ds_one (ds_expr (de_meth T.c_Runner T.Runner_assign rfl (ok_Runner_assign T (k + 1)) hr hx (de_var 0) (da_cons (de_ix (xd_ix3 rfl hu) (de_var 1) de_int) (da_cons (de_var 3) (da_cons (de_var 2) da_nil))))))
      (dm_case (i := 4) sc_Runner_follow.nd rfl (by first | exact Or.inl rfl | exact Or.inr rfl) (dt_cmp (od_eq4 rfl hu2) (de_var 4) de_str (nomark _))
      (ds_one (ds_expr (de_meth T.c_Runner T.Runner_write rfl (ok_Runner_write T (k + 1)) hr hx (de_var 0) (da_cons (de_ix (xd_ix3 rfl hu) (de_var 3) de_int) (da_cons (de_ix (xd_ix3 rfl hu) (de_var 3) de_int) (da_cons (de_var 2) da_nil))))))
      (dm_case (i := 4) sc_Runner_follow.nd rfl (by first | exact Or.inl rfl | exact Or.inr rfl) (dt_cmp (od_eq4 rfl hu2) (de_var 4) de_str (nomark _))
      (ds_one (ds_expr (de_meth T.c_Runner T.Runner_write rfl (ok_Runner_write T (k + 1)) hr hx (de_var 0) (da_cons (de_var 3) (da_cons de_non (da_cons (de_var 2) da_nil))))))
      (dm_case (i := 4) sc_Runner_follow.nd rfl (by first | exact Or.inl rfl | exact Or.inr rfl) (dt_cmp (od_eq4 rfl hu2) (de_var 4) de_str (nomark _))
      (ds_cons (ds_fld T.c_Runner rfl (by decide) (de_var 0) (de_var 2))
    (ds_one (ds_ret (de_tup (da_cons de_str (da_cons (de_var 3) da_nil))))))
      (dm_case (i := 4) sc_Runner_follow.nd rfl (by first | exact Or.inl rfl | exact Or.inr rfl) (dt_cmp (od_eq4 rfl hu2) (de_var 4) de_str (nomark _))
      (ds_cons (ds_asg (de_ix (xd_ix3 rfl hu) (de_call (ok_blocks_of T (k + 1)) hr rfl T.blocks_of.mgx T.blocks_of.fn.kp T.blocks_of.bn hx (da_cons (de_var 1) da_nil)) (de_op (od_sub) de_int (de_var 3))) (dg_tup2 (n := 2) rfl rfl (dgs_cons (fun _ _ _ _ _ => trivial) (dg_name (i := 5) sc_Runner_follow.nd rfl (by first | exact Or.inl rfl | exact Or.inr rfl) (fun _ _ => trivial)) (dgs_cons (fun _ _ _ _ _ => trivial) (dg_name (i := 6) sc_Runner_follow.nd rfl (by first | exact Or.inl rfl | exact Or.inr rfl) (fun _ _ => trivial)) (dgs_nil (fun _ => trivial))))))
    (ds_one (ds_ret (de_meth T.c_Runner T.Runner_run_block rfl ih0 hr hx (de_var 0) (da_cons (de_var 6) (da_cons (de_op (od_add rfl) (de_var 2) (de_tup (da_cons (de_var 5) da_nil))) da_nil))))))
      (dm_case (i := 4) sc_Runner_follow.nd rfl (by first | exact Or.inl rfl | exact Or.inr rfl) (dt_cmp (od_eq4 rfl hu2) (de_var 4) de_str (nomark _))
      (ds_one (ds_ret (de_meth T.c_Runner T.Runner_run_call rfl ih5 hr hx (de_var 0) (da_cons (de_var 1) (da_cons (de_var 2) (da_cons (de_var 3) da_nil))))))
      (dm_else (ds_one (ds_ret (de_meth T.c_Runner T.Runner_run_loop rfl ih3 hr hx (de_var 0) (da_cons (de_var 1) (da_cons (de_var 2) (da_cons (de_var 3) da_nil))))))))))))))
    (ds_one (ds_ret de_non)))
theorem st_Runner_run_loop (T : Tx g w mg) (k : Nat) (ih0 : FnOk P w g.K mg base (L2.CX P w) (k + 1) T.Runner_run_block.f T.Runner_run_block.fd ["self", "block", "place"] (spD g 3 (fs_Runner_run_block (k + 1) 0))) (ih1 : FnOk P w g.K mg base (L2.CX P w) (k + 1) T.Runner_run_statement.f T.Runner_run_statement.fd ["self", "statement", "place"] (spD g 3 (fs_Runner_run_block (k + 1) 1))) (ih2 : FnOk P w g.K mg base (L2.CX P w) (k + 1) T.Runner_follow.f T.Runner_follow.fd ["self", "statement", "place", "value"] (spD g 4 (fs_Runner_run_block (k + 1) 2))) (ih3 : FnOk P w g.K mg base (L2.CX P w) (k + 1) T.Runner_run_loop.f T.Runner_run_loop.fd ["self", "statement", "place", "items"] (spD g 4 (fs_Runner_run_block (k + 1) 3))) (ih4 : FnOk P w g.K mg base (L2.CX P w) (k + 1) T.Runner_run_while.f T.Runner_run_while.fd ["self", "statement", "place"] (spD g 3 (fs_Runner_run_block (k + 1) 4))) (ih5 : FnOk P w g.K mg base (L2.CX P w) (k + 1) T.Runner_run_call.f T.Runner_run_call.fd ["self", "statement", "place", "values"] (spD g 4 (fs_Runner_run_block (k + 1) 5))) (ih6 : FnOk P w g.K mg base (L2.CX P w) (k + 1) T.Runner_run_try.f T.Runner_run_try.fd ["self", "statement", "place"] (spD g 3 (fs_Runner_run_block (k + 1) 6))) : FnOk P w g.K mg base (L2.CX P w) (k + 2) T.Runner_run_loop.f T.Runner_run_loop.fd ["self", "statement", "place", "items"] (spD g 4 (fs_Runner_run_block (k + 2) 3)) := by
    exact fn_ok (fb := b_Runner_run_loop k (fs_Runner_run_block (k + 1))) (nn := 9) T.Runner_run_loop.fn sc_Runner_run_loop rfl rfl fun cdv A outer s H E X hX hr hx tk hp => by
      subst hX
      have hu := hr.units
      have hu2 := hr.units65
      exact (ds_cons (ds_asg (de_ix (xd_ix3 rfl hu) (de_call (ok_blocks_of T (k + 1)) hr rfl T.blocks_of.mgx T.blocks_of.fn.kp T.blocks_of.bn hx (da_cons (de_var 1) da_nil)) de_int) (dg_tup2 (n := 2) rfl rfl (dgs_cons (fun _ _ _ _ _ => trivial) (dg_name (i := 4) sc_Runner_run_loop.nd rfl (by first | exact Or.inl rfl | exact Or.inr rfl) (fun _ _ => trivial)) (dgs_cons (fun _ _ _ _ _ => trivial) (dg_name (i := 5) sc_Runner_run_loop.nd rfl (by first | exact Or.inl rfl | exact Or.inr rfl) (fun _ _ => trivial)) (dgs_nil (fun _ => trivial))))))
    (ds_cons (ds_for hp rfl (di_en rfl rfl T.m_enumerate (da_cons (de_var 3) da_nil)) (dg_tup (n := 2) rfl rfl (dgs_cons (fun _ _ _ _ _ => trivial) (dg_name (i := 6) sc_Runner_run_loop.nd rfl (by first | exact Or.inl rfl | exact Or.inr rfl) (fun _ _ => trivial)) (dgs_cons (fun _ _ _ _ _ => trivial) (dg_name (i := 7) sc_Runner_run_loop.nd rfl (by first | exact Or.inl rfl | exact Or.inr rfl) (fun _ _ => trivial)) (dgs_nil (fun _ => trivial)))))
      (ds_cons (ds_expr (de_meth T.c_Runner T.Runner_assign rfl (ok_Runner_assign T (k + 1)) hr hx (de_var 0) (da_cons (de_ix (xd_ix3 rfl hu) (de_var 1) de_int) (da_cons (de_var 7) (da_cons (de_var 2) da_nil)))))
    (ds_cons (ds_set (i := 8) sc_Runner_run_loop.nd rfl (by first | exact Or.inl rfl | exact Or.inr rfl) (de_meth T.c_Runner T.Runner_run_block rfl ih0 hr hx (de_var 0) (da_cons (de_var 5) (da_cons (de_op (od_add rfl) (de_var 2) (de_tup (da_cons (de_var 4) (da_cons (de_if (dt_cmp (od_eq4 rfl hu2) (de_var 4) de_str (nomark _)) (de_var 7) (de_var 6)) da_nil)))) da_nil))))
    (ds_one (ds_if (dt_cmp od_isnot (de_var 8) de_non (nomark _))
      (ds_one (ds_ret (de_var 8)))
      ds_nil)))))
    (ds_one (ds_ret de_non))))
theorem st_Runner_run_while (T : Tx g w mg) (k : Nat) (ih0 : FnOk P w g.K mg base (L2.CX P w) (k + 1) T.Runner_run_block.f T.Runner_run_block.fd ["self", "block", "place"] (spD g 3 (fs_Runner_run_block (k + 1) 0))) (ih1 : FnOk P w g.K mg base (L2.CX P w) (k + 1) T.Runner_run_statement.f T.Runner_run_statement.fd ["self", "statement", "place"] (spD g 3 (fs_Runner_run_block (k + 1) 1))) (ih2 : FnOk P w g.K mg base (L2.CX P w) (k + 1) T.Runner_follow.f T.Runner_follow.fd ["self", "statement", "place", "value"] (spD g 4 (fs_Runner_run_block (k + 1) 2))) (ih3 : FnOk P w g.K mg base (L2.CX P w) (k + 1) T.Runner_run_loop.f T.Runner_run_loop.fd ["self", "statement", "place", "items"] (spD g 4 (fs_Runner_run_block (k + 1) 3))) (ih4 : FnOk P w g.K mg base (L2.CX P w) (k + 1) T.Runner_run_while.f T.Runner_run_while.fd ["self", "statement", "place"] (spD g 3 (fs_Runner_run_block (k + 1) 4))) (ih5 : FnOk P w g.K mg base (L2.CX P w) (k + 1) T.Runner_run_call.f T.Runner_run_call.fd ["self", "statement", "place", "values"] (spD g 4 (fs_Runner_run_block (k + 1) 5))) (ih6 : FnOk P w g.K mg base (L2.CX P w) (k + 1) T.Runner_run_try.f T.Runner_run_try.fd ["self", "statement", "place"] (spD g 3 (fs_Runner_run_block (k + 1) 6))) : FnOk P w g.K mg base (L2.CX P w) (k + 2) T.Runner_run_while.f T.Runner_run_while.fd ["self", "statement", "place"] (spD g 3 (fs_Runner_run_block (k + 2) 4)) := by
    exact fn_ok (fb := b_Runner_run_while k (fs_Runner_run_block (k + 1))) (nn := 7) T.Runner_run_while.fn sc_Runner_run_while rfl rfl fun cdv A outer s H E X hX hr hx tk hp => by
      subst hX
      have hu := hr.units
      have hu2 := hr.units65
      exact (ds_cons (ds_for hp rfl (di_rng1 rfl T.m_range (da_cons (de_op (od_add rfl) (de_kd rfl rfl T.c_MAX_STEPS) de_int) da_nil)) (dg_name (i := 3) sc_Runner_run_while.nd rfl (by first | exact Or.inl rfl | exact Or.inr rfl) (fun _ _ => trivial))
      (ds_cons (ds_set (i := 4) sc_Runner_run_while.nd rfl (by first | exact Or.inl rfl | exact Or.inr rfl) (de_op (od_add rfl) (de_var 2) (de_tup (da_cons de_str (da_cons (de_var 3) da_nil)))))
    (ds_cons (ds_set (i := 5) sc_Runner_run_while.nd rfl (by first | exact Or.inl rfl | exact Or.inr rfl) (de_meth T.c_Runner T.Runner_do_step rfl (ok_Runner_do_step T (k + 1)) hr hx (de_var 0) (da_cons (de_var 1) (da_cons (de_var 4) da_nil))))
    (ds_cons (ds_if (dt_cmp (od_ne4 rfl hu2) (de_ix (xd_ix3 rfl hu) (de_var 5) de_int) de_str (nomark _))
      (ds_one (ds_ret (de_var 5)))
      ds_nil)
    (ds_cons (ds_set (i := 6) sc_Runner_run_while.nd rfl (by first | exact Or.inl rfl | exact Or.inr rfl) (de_if (dt_cmp (od_eq4 rfl hu2) (de_ix (xd_ix3 rfl hu) (de_var 5) de_int) de_int (nomark _)) (de_meth T.c_Runner T.Runner_run_block rfl ih0 hr hx (de_var 0) (da_cons (de_ix (xd_ix3 rfl hu) (de_var 1) de_int) (da_cons (de_var 4) da_nil))) de_non))
    (ds_one (ds_if (PW.pt (dw_or (dt_cmp od_isnot (de_var 6) de_non (nomark _)) (dw_or1 (dt_cmp (od_eq4 rfl hu2) (de_ix (xd_ix3 rfl hu) (de_var 5) de_int) de_int (nomark _)))))
      (ds_one (ds_ret (de_var 6)))
      ds_nil)))))))
    (ds_one (ds_ret de_non)))
theorem st_Runner_run_call (T : Tx g w mg) (k : Nat) (ih0 : FnOk P w g.K mg base (L2.CX P w) (k + 1) T.Runner_run_block.f T.Runner_run_block.fd ["self", "block", "place"] (spD g 3 (fs_Runner_run_block (k + 1) 0))) (ih1 : FnOk P w g.K mg base (L2.CX P w) (k + 1) T.Runner_run_statement.f T.Runner_run_statement.fd ["self", "statement", "place"] (spD g 3 (fs_Runner_run_block (k + 1) 1))) (ih2 : FnOk P w g.K mg base (L2.CX P w) (k + 1) T.Runner_follow.f T.Runner_follow.fd ["self", "statement", "place", "value"] (spD g 4 (fs_Runner_run_block (k + 1) 2))) (ih3 : FnOk P w g.K mg base (L2.CX P w) (k + 1) T.Runner_run_loop.f T.Runner_run_loop.fd ["self", "statement", "place", "items"] (spD g 4 (fs_Runner_run_block (k + 1) 3))) (ih4 : FnOk P w g.K mg base (L2.CX P w) (k + 1) T.Runner_run_while.f T.Runner_run_while.fd ["self", "statement", "place"] (spD g 3 (fs_Runner_run_block (k + 1) 4))) (ih5 : FnOk P w g.K mg base (L2.CX P w) (k + 1) T.Runner_run_call.f T.Runner_run_call.fd ["self", "statement", "place", "values"] (spD g 4 (fs_Runner_run_block (k + 1) 5))) (ih6 : FnOk P w g.K mg base (L2.CX P w) (k + 1) T.Runner_run_try.f T.Runner_run_try.fd ["self", "statement", "place"] (spD g 3 (fs_Runner_run_block (k + 1) 6))) : FnOk P w g.K mg base (L2.CX P w) (k + 2) T.Runner_run_call.f T.Runner_run_call.fd ["self", "statement", "place", "values"] (spD g 4 (fs_Runner_run_block (k + 2) 5)) := by
    exact fn_ok (fb := b_Runner_run_call k (fs_Runner_run_block (k + 1))) (nn := 9) T.Runner_run_call.fn sc_Runner_run_call rfl rfl fun cdv A outer s H E X hX hr hx tk hp => by
      subst hX
      have hu := hr.units
      have hu2 := hr.units65
      exact (ds_cons (ds_asg (de_ix (xd_ix3 rfl hu) (de_fld T.c_Runner rfl (by decide) (de_var 0)) (de_ix (xd_ix3 rfl hu) (de_var 1) de_int)) (dg_tup2 (n := 2) rfl rfl (dgs_cons (fun _ _ _ _ _ => trivial) (dg_name (i := 4) sc_Runner_run_call.nd rfl (by first | exact Or.inl rfl | exact Or.inr rfl) (fun _ _ => trivial)) (dgs_cons (fun _ _ _ _ _ => trivial) (dg_name (i := 5) sc_Runner_run_call.nd rfl (by first | exact Or.inl rfl | exact Or.inr rfl) (fun _ _ => trivial)) (dgs_nil (fun _ => trivial))))))
    (ds_cons (ds_set (i := 6) sc_Runner_run_call.nd rfl (by first | exact Or.inl rfl | exact Or.inr rfl) (de_tup (da_cons (de_fld T.c_Runner rfl (by decide) (de_var 0)) (da_cons (de_fld T.c_Runner rfl (by decide) (de_var 0)) da_nil))))
    (ds_cons (ds_fld T.c_Runner rfl (by decide) (de_var 0) (de_dz (mu := true) rfl rfl rfl T.m_dict rfl T.m_zip (da_cons (de_var 4) (da_cons (de_var 3) da_nil))))
    (ds_cons (ds_fld T.c_Runner rfl (by decide) (de_var 0) (de_dcA (own := [("name", 8)]) (mu := true) rfl sc_Runner_run_call.nd rfl (dA_keys rfl (de_var 4)) (blkOk_by (N := N_Runner_run_call) (sc := defScope s_Runner_run_call) (by decide +kernel)) (fun _ _ _ _ _ => (dg_name (i := 8) sc_Runner_run_call.nd rfl (by first | exact Or.inl rfl | exact Or.inr rfl) (wp_nm (by decide)))) (fun _ _ _ _ _ => dts_nil) (fun _ _ _ _ _ => (de_var 8)) (fun _ _ _ _ _ => (de_var 2))))
    (ds_cons (ds_set (i := 7) sc_Runner_run_call.nd rfl (by first | exact Or.inl rfl | exact Or.inr rfl) (de_meth T.c_Runner T.Runner_run_block rfl ih0 hr hx (de_var 0) (da_cons (de_var 5) (da_cons (de_op (od_add rfl) (de_var 2) (de_tup (da_cons de_str da_nil))) da_nil))))
    (ds_cons (ds_asg (de_var 6) (dg_tup2 (n := 2) rfl rfl (dgs_cons (fun _ _ _ _ _ => trivial) (dg_fld T.c_Runner rfl (fun _ => trivial) (by decide) (de_var 0)) (dgs_cons (fun _ _ _ _ _ => trivial) (dg_fld T.c_Runner rfl (fun _ => trivial) (by decide) (de_var 0)) (dgs_nil (fun _ => trivial))))))
    (ds_cons (ds_if (dt_cmp od_is (de_var 7) de_non (nomark _))
      (ds_one (ds_expr (de_meth T.c_Runner T.Runner_assign rfl (ok_Runner_assign T (k + 1)) hr hx (de_var 0) (da_cons (de_ix (xd_ix3 rfl hu) (de_var 1) de_int) (da_cons de_str (da_cons (de_var 2) da_nil))))))
      (ds_one (ds_if (dt_cmp (od_eq4 rfl hu2) (de_ix (xd_ix3 rfl hu) (de_var 7) de_int) de_str (nomark _))
      (ds_one (ds_expr (de_meth T.c_Runner T.Runner_assign rfl (ok_Runner_assign T (k + 1)) hr hx (de_var 0) (da_cons (de_ix (xd_ix3 rfl hu) (de_var 1) de_int) (da_cons (de_ix (xd_ix3 rfl hu) (de_var 7) de_int) (da_cons (de_fld T.c_Runner rfl (by decide) (de_var 0)) da_nil))))))
      (ds_one (ds_ret (de_var 7))))))
    (ds_one (ds_ret de_non)))))))))
theorem st_Runner_run_try (T : Tx g w mg) (k : Nat) (ih0 : FnOk P w g.K mg base (L2.CX P w) (k + 1) T.Runner_run_block.f T.Runner_run_block.fd ["self", "block", "place"] (spD g 3 (fs_Runner_run_block (k + 1) 0))) (ih1 : FnOk P w g.K mg base (L2.CX P w) (k + 1) T.Runner_run_statement.f T.Runner_run_statement.fd ["self", "statement", "place"] (spD g 3 (fs_Runner_run_block (k + 1) 1))) (ih2 : FnOk P w g.K mg base (L2.CX P w) (k + 1) T.Runner_follow.f T.Runner_follow.fd ["self", "statement", "place", "value"] (spD g 4 (fs_Runner_run_block (k + 1) 2))) (ih3 : FnOk P w g.K mg base (L2.CX P w) (k + 1) T.Runner_run_loop.f T.Runner_run_loop.fd ["self", "statement", "place", "items"] (spD g 4 (fs_Runner_run_block (k + 1) 3))) (ih4 : FnOk P w g.K mg base (L2.CX P w) (k + 1) T.Runner_run_while.f T.Runner_run_while.fd ["self", "statement", "place"] (spD g 3 (fs_Runner_run_block (k + 1) 4))) (ih5 : FnOk P w g.K mg base (L2.CX P w) (k + 1) T.Runner_run_call.f T.Runner_run_call.fd ["self", "statement", "place", "values"] (spD g 4 (fs_Runner_run_block (k + 1) 5))) (ih6 : FnOk P w g.K mg base (L2.CX P w) (k + 1) T.Runner_run_try.f T.Runner_run_try.fd ["self", "statement", "place"] (spD g 3 (fs_Runner_run_block (k + 1) 6))) : FnOk P w g.K mg base (L2.CX P w) (k + 2) T.Runner_run_try.f T.Runner_run_try.fd ["self", "statement", "place"] (spD g 3 (fs_Runner_run_block (k + 2) 6)) := by
    exact fn_ok (fb := b_Runner_run_try k (fs_Runner_run_block (k + 1))) (nn := 5) T.Runner_run_try.fn sc_Runner_run_try rfl rfl fun cdv A outer s H E X hX hr hx tk hp => by
      subst hX
      have hu := hr.units
      have hu2 := hr.units65
      exact (ds_cons (ds_set (i := 3) sc_Runner_run_try.nd rfl (by first | exact Or.inl rfl | exact Or.inr rfl) (de_lst (da_cons (de_callTy (cd_dict (mu := true) rfl rfl) rfl T.m_dict bt_dict (da_cons (de_fld T.c_Runner rfl (by decide) (de_var 0)) da_nil)) (da_cons (de_callTy (cd_dict (mu := true) rfl rfl) rfl T.m_dict bt_dict (da_cons (de_fld T.c_Runner rfl (by decide) (de_var 0)) da_nil)) (da_cons (de_callTy (cd_dict (mu := true) rfl rfl) rfl T.m_dict bt_dict (da_cons (de_fld T.c_Runner rfl (by decide) (de_var 0)) da_nil)) (da_cons (de_callTy (cd_dict (mu := true) rfl rfl) rfl T.m_dict bt_dict (da_cons (de_fld T.c_Runner rfl (by decide) (de_var 0)) da_nil)) da_nil))))))
    (ds_cons (ds_set (i := 4) sc_Runner_run_try.nd rfl (by first | exact Or.inl rfl | exact Or.inr rfl) (de_meth T.c_Runner T.Runner_run_block rfl ih0 hr hx (de_var 0) (da_cons (de_ix (xd_ix3 rfl hu) (de_var 1) de_int) (da_cons (de_op (od_add rfl) (de_var 2) (de_tup (da_cons de_str da_nil))) da_nil))))
    (ds_cons (ds_if (PW.pt (dw_or (dt_cmp od_is (de_var 4) de_non (nomark _)) (dw_or1 (dt_cmp (od_ne4 rfl hu2) (de_ix (xd_ix3 rfl hu) (de_var 4) de_int) de_str (nomark _)))))
      (ds_one (ds_ret (de_var 4)))
      ds_nil)
    (ds_cons (ds_asg (de_var 3) (dg_tup2 (n := 4) rfl rfl (dgs_cons (fun _ _ _ _ _ => trivial) (dg_fld T.c_Runner rfl (fun _ => trivial) (by decide) (de_var 0)) (dgs_cons (fun _ _ _ _ _ => trivial) (dg_fld T.c_Runner rfl (fun _ => trivial) (by decide) (de_var 0)) (dgs_cons (fun _ _ _ _ _ => trivial) (dg_fld T.c_Runner rfl (fun _ => trivial) (by decide) (de_var 0)) (dgs_cons (fun _ _ _ _ _ => trivial) (dg_fld T.c_Runner rfl (fun _ => trivial) (by decide) (de_var 0)) (dgs_nil (fun _ => trivial))))))))
    (ds_one (ds_ret (de_meth T.c_Runner T.Runner_run_block rfl ih0 hr hx (de_var 0) (da_cons (de_ix (xd_ix3 rfl hu) (de_var 1) de_int) (da_cons (de_op (od_add rfl) (de_var 2) (de_tup (da_cons de_str da_nil))) da_nil)))))))))
theorem oks_Runner_run_block (T : Tx g w mg) : ∀ k, FnOk P w g.K mg base (L2.CX P w) k T.Runner_run_block.f T.Runner_run_block.fd ["self", "block", "place"] (spD g 3 (fs_Runner_run_block k 0)) ∧ FnOk P w g.K mg base (L2.CX P w) k T.Runner_run_statement.f T.Runner_run_statement.fd ["self", "statement", "place"] (spD g 3 (fs_Runner_run_block k 1)) ∧ FnOk P w g.K mg base (L2.CX P w) k T.Runner_follow.f T.Runner_follow.fd ["self", "statement", "place", "value"] (spD g 4 (fs_Runner_run_block k 2)) ∧ FnOk P w g.K mg base (L2.CX P w) k T.Runner_run_loop.f T.Runner_run_loop.fd ["self", "statement", "place", "items"] (spD g 4 (fs_Runner_run_block k 3)) ∧ FnOk P w g.K mg base (L2.CX P w) k T.Runner_run_while.f T.Runner_run_while.fd ["self", "statement", "place"] (spD g 3 (fs_Runner_run_block k 4)) ∧ FnOk P w g.K mg base (L2.CX P w) k T.Runner_run_call.f T.Runner_run_call.fd ["self", "statement", "place", "values"] (spD g 4 (fs_Runner_run_block k 5)) ∧ FnOk P w g.K mg base (L2.CX P w) k T.Runner_run_try.f T.Runner_run_try.fd ["self", "statement", "place"] (spD g 3 (fs_Runner_run_block k 6))
  | 0 => ⟨fn_bad, fn_bad, fn_bad, fn_bad, fn_bad, fn_bad, fn_bad⟩
  | 1 => ⟨fn_bad, fn_bad, fn_bad, fn_bad, fn_bad, fn_bad, fn_bad⟩
  | k + 2 => by
    have ih := oks_Runner_run_block T (k + 1)
    exact ⟨st_Runner_run_block T k ih.1 ih.2.1 ih.2.2.1 ih.2.2.2.1 ih.2.2.2.2.1 ih.2.2.2.2.2.1 ih.2.2.2.2.2.2, st_Runner_run_statement T k ih.1 ih.2.1 ih.2.2.1 ih.2.2.2.1 ih.2.2.2.2.1 ih.2.2.2.2.2.1 ih.2.2.2.2.2.2, st_Runner_follow T k ih.1 ih.2.1 ih.2.2.1 ih.2.2.2.1 ih.2.2.2.2.1 ih.2.2.2.2.2.1 ih.2.2.2.2.2.2, st_Runner_run_loop T k ih.1 ih.2.1 ih.2.2.1 ih.2.2.2.1 ih.2.2.2.2.1 ih.2.2.2.2.2.1 ih.2.2.2.2.2.2, st_Runner_run_while T k ih.1 ih.2.1 ih.2.2.1 ih.2.2.2.1 ih.2.2.2.2.1 ih.2.2.2.2.2.1 ih.2.2.2.2.2.2, st_Runner_run_call T k ih.1 ih.2.1 ih.2.2.1 ih.2.2.2.1 ih.2.2.2.2.1 ih.2.2.2.2.2.1 ih.2.2.2.2.2.2, st_Runner_run_try T k ih.1 ih.2.1 ih.2.2.1 ih.2.2.2.1 ih.2.2.2.2.1 ih.2.2.2.2.2.1 ih.2.2.2.2.2.2⟩
theorem ok_Runner_run_block (T : Tx g w mg) (k : Nat) : FnOk P w g.K mg base (L2.CX P w) k T.Runner_run_block.f T.Runner_run_block.fd ["self", "block", "place"] (spD g 3 (f_Runner_run_block k)) := (oks_Runner_run_block T k).1
theorem ok_Runner_run_statement (T : Tx g w mg) (k : Nat) : FnOk P w g.K mg base (L2.CX P w) k T.Runner_run_statement.f T.Runner_run_statement.fd ["self", "statement", "place"] (spD g 3 (f_Runner_run_statement k)) := (oks_Runner_run_block T k).2.1
theorem ok_Runner_follow (T : Tx g w mg) (k : Nat) : FnOk P w g.K mg base (L2.CX P w) k T.Runner_follow.f T.Runner_follow.fd ["self", "statement", "place", "value"] (spD g 4 (f_Runner_follow k)) := (oks_Runner_run_block T k).2.2.1
theorem ok_Runner_run_loop (T : Tx g w mg) (k : Nat) : FnOk P w g.K mg base (L2.CX P w) k T.Runner_run_loop.f T.Runner_run_loop.fd ["self", "statement", "place", "items"] (spD g 4 (f_Runner_run_loop k)) := (oks_Runner_run_block T k).2.2.2.1
theorem ok_Runner_run_while (T : Tx g w mg) (k : Nat) : FnOk P w g.K mg base (L2.CX P w) k T.Runner_run_while.f T.Runner_run_while.fd ["self", "statement", "place"] (spD g 3 (f_Runner_run_while k)) := (oks_Runner_run_block T k).2.2.2.2.1
theorem ok_Runner_run_call (T : Tx g w mg) (k : Nat) : FnOk P w g.K mg base (L2.CX P w) k T.Runner_run_call.f T.Runner_run_call.fd ["self", "statement", "place", "values"] (spD g 4 (f_Runner_run_call k)) := (oks_Runner_run_block T k).2.2.2.2.2.1
theorem ok_Runner_run_try (T : Tx g w mg) (k : Nat) : FnOk P w g.K mg base (L2.CX P w) k T.Runner_run_try.f T.Runner_run_try.fd ["self", "statement", "place"] (spD g 3 (f_Runner_run_try k)) := (oks_Runner_run_block T k).2.2.2.2.2.2
theorem st_Runner_whole (T : Tx g w mg) (k : Nat) : FnOk P w g.K mg base (L2.CX P w) (k + 2) T.Runner_whole.f T.Runner_whole.fd ["self", "program"] (spD g 2 (f_Runner_whole (k + 2))) := by
    exact fn_ok (fb := b_Runner_whole k) (nn := 4) T.Runner_whole.fn sc_Runner_whole rfl rfl fun cdv A outer s H E X hX hr hx tk hp => by
      subst hX
      have hu := hr.units
      have hu2 := hr.units65
      exact (ds_cons (ds_set (i := 2) sc_Runner_whole.nd rfl (by first | exact Or.inl rfl | exact Or.inr rfl) (de_meth T.c_Runner T.Runner_run_block rfl (ok_Runner_run_block T (k + 1)) hr hx (de_var 0) (da_cons (de_var 1) (da_cons (de_tup da_nil) da_nil))))
    (ds_cons (ds_set (i := 3) sc_Runner_whole.nd rfl (by first | exact Or.inl rfl | exact Or.inr rfl) (de_if (dt_cmp od_is (de_var 2) de_non (nomark _)) (de_tup (da_cons de_str (da_cons de_str da_nil))) (de_var 2)))
    (ds_cons (ds_if (dt_cmp (od_eq4 rfl hu2) (de_ix (xd_ix3 rfl hu) (de_var 3) de_int) de_str (nomark _))
      (ds_one (ds_set (i := 3) sc_Runner_whole.nd rfl (by first | exact Or.inl rfl | exact Or.inr rfl) (de_tup (da_cons de_str (da_cons (de_ix (xd_ix3 rfl hu) (de_var 3) de_int) da_nil)))))
      ds_nil)
    (ds_one (ds_ret (de_make (fz := true) T.c_Trace T.Trace___init__ rfl rfl (ok_Trace___init__ T k) hr hx rfl (da_cons (de_fld T.c_Runner rfl (by decide) (de_var 0)) (da_cons (de_fld T.c_Runner rfl (by decide) (de_var 0)) (da_cons (de_var 3) (da_cons (de_if (dt_cmp (od_eq4 rfl hu2) (de_ix (xd_ix3 rfl hu) (de_var 3) de_int) de_str (nomark _)) (de_fld T.c_Runner rfl (by decide) (de_var 0)) de_dict0) da_nil))))))))))
theorem ok_Runner_whole (T : Tx g w mg) : ∀ k, FnOk P w g.K mg base (L2.CX P w) k T.Runner_whole.f T.Runner_whole.fd ["self", "program"] (spD g 2 (f_Runner_whole k))
  | 0 => fn_bad
  | 1 => fn_bad
  | k + 2 => st_Runner_whole T k
theorem st_Runner___init__ (T : Tx g w mg) (k : Nat) : FnOk P w g.K mg base (L2.CX P w) (k + 2) T.Runner___init__.f T.Runner___init__.fd ["self", "state", "arguments"] (spD g 3 (f_Runner___init__ (k + 2))) := by
    exact fn_ok (fb := b_Runner___init__ k) (nn := 4) T.Runner___init__.fn sc_Runner___init__ rfl rfl fun cdv A outer s H E X hX hr hx tk hp => by
      subst hX
      have hu := hr.units
      have hu2 := hr.units65
      exact (ds_cons (ds_fld T.c_Runner rfl (by decide) (de_var 0) (de_var 1))
    (ds_cons (ds_fld T.c_Runner rfl (by decide) (de_var 0) (de_callTy (cd_dict (mu := true) rfl rfl) rfl T.m_dict bt_dict (da_cons (de_var 2) da_nil)))
    (ds_cons (ds_fld T.c_Runner rfl (by decide) (de_var 0) (de_dcA (own := [("name", 3)]) (mu := true) rfl sc_Runner___init__.nd rfl (dA_keys rfl (de_var 2)) (blkOk_by (N := N_Runner___init__) (sc := defScope s_Runner___init__) (by decide +kernel)) (fun _ _ _ _ _ => (dg_name (i := 3) sc_Runner___init__.nd rfl (by first | exact Or.inl rfl | exact Or.inr rfl) (wp_nm (by decide)))) (fun _ _ _ _ _ => dts_nil) (fun _ _ _ _ _ => (de_var 3)) (fun _ _ _ _ _ => (de_kd rfl rfl T.c_ARGUMENT))))
    (ds_cons (ds_fld T.c_Runner rfl (by decide) (de_var 0) de_dict0M)
    (ds_cons (ds_fld T.c_Runner rfl (by decide) (de_var 0) de_dict0M)
    (ds_cons (ds_fld T.c_Runner rfl (by decide) (de_var 0) de_dict0M)
    (ds_cons (ds_fld T.c_Runner rfl (by decide) (de_var 0) de_non)
    (ds_cons (ds_fld T.c_Runner rfl (by decide) (de_var 0) (de_lstM da_nil))
    (ds_cons (ds_fld T.c_Runner rfl (by decide) (de_var 0) (de_lstM da_nil))
    (ds_one (ds_fld T.c_Runner rfl (by decide) (de_var 0) (de_lstM da_nil))))))))))))
theorem ok_Runner___init__ (T : Tx g w mg) : ∀ k, FnOk P w g.K mg base (L2.CX P w) k T.Runner___init__.f T.Runner___init__.fd ["self", "state", "arguments"] (spD g 3 (f_Runner___init__ k))
  | 0 => fn_bad
  | 1 => fn_bad
  | k + 2 => st_Runner___init__ T k
theorem st_is_state (T : Tx g w mg) (k : Nat) : FnOk P w g.K mg base (L2.CX P w) (k + 2) T.is_state.f T.is_state.fd ["value"] (spD g 1 (f_is_state (k + 2))) := by
    exact fn_ok (fb := b_is_state k) (nn := 3) T.is_state.fn sc_is_state rfl rfl fun cdv A outer s H E X hX hr hx tk hp => by
      subst hX
      have hu := hr.units
      have hu2 := hr.units65
      exact (ds_cons (ds_if (dt_not (dt_tru rfl (de_isi .dict rfl rfl T.m_isinstance rfl T.m_dict bt_dict (de_var 0))))
      (ds_one (ds_ret de_bl))
      ds_nil)
    (ds_one (ds_ret (de_callB (cd_all rfl rfl) rfl T.m_all bt_all (da_cons (de_lcA (own := [("key", 1), ("worth", 2)]) rfl sc_is_state.nd rfl (dA_items (de_var 0)) (blkOk_by (N := N_is_state) (sc := defScope s_is_state) (by decide +kernel)) (fun _ _ _ _ _ => (dg_tup (n := 2) rfl rfl (dgs_cons (fun _ _ _ p q => Eq.trans q p) (dg_name (i := 1) sc_is_state.nd rfl (by first | exact Or.inl rfl | exact Or.inr rfl) (wp_nm (by decide))) (dgs_cons (fun _ _ _ p q => Eq.trans q p) (dg_name (i := 2) sc_is_state.nd rfl (by first | exact Or.inl rfl | exact Or.inr rfl) (wp_nm (by decide))) (dgs_nil (fun _ => rfl)))))) (fun _ _ _ _ _ => dts_nil) (fun _ _ _ _ _ => (de_and rfl (de_call (ok_is_key T (k + 1)) hr rfl T.is_key.mgx T.is_key.fn.kp T.is_key.bn px_no (da_cons (de_var 1) da_nil)) (pe_one (de_call (ok_is_value T (k + 1)) hr rfl T.is_value.mgx T.is_value.fn.kp T.is_value.bn px_no (da_cons (de_var 2) da_nil)))))) da_nil)))))
theorem ok_is_state (T : Tx g w mg) : ∀ k, FnOk P w g.K mg base (L2.CX P w) k T.is_state.f T.is_state.fd ["value"] (spD g 1 (f_is_state k))
  | 0 => fn_bad
  | 1 => fn_bad
  | k + 2 => st_is_state T k
theorem st_is_name (T : Tx g w mg) (k : Nat) : FnOk P w g.K mg base (L2.CX P w) (k + 2) T.is_name.f T.is_name.fd ["value"] (spD g 1 (f_is_name (k + 2))) := by
    exact fn_ok (fb := b_is_name k) (nn := 1) T.is_name.fn sc_is_name rfl rfl fun cdv A outer s H E X hX hr hx tk hp => by
      subst hX
      have hu := hr.units
      have hu2 := hr.units65
      exact (ds_one (ds_ret (de_call (ok_is_word T (k + 1)) hr rfl T.is_word.mgx T.is_word.fn.kp T.is_word.bn hx (da_cons (de_var 0) (da_cons (de_kd rfl rfl T.c_LETTERS) (da_cons de_int (da_cons (de_kd rfl rfl T.c_MAX_NAME) da_nil)))))))
theorem ok_is_name (T : Tx g w mg) : ∀ k, FnOk P w g.K mg base (L2.CX P w) k T.is_name.f T.is_name.fd ["value"] (spD g 1 (f_is_name k))
  | 0 => fn_bad
  | 1 => fn_bad
  | k + 2 => st_is_name T k
theorem st_are_variables (T : Tx g w mg) (k : Nat) : FnOk P w g.K mg base (L2.CX P w) (k + 2) T.are_variables.f T.are_variables.fd ["value"] (spD g 1 (f_are_variables (k + 2))) := by
    exact fn_ok (fb := b_are_variables k) (nn := 2) T.are_variables.fn sc_are_variables rfl rfl fun cdv A outer s H E X hX hr hx tk hp => by
      subst hX
      have hu := hr.units
      have hu2 := hr.units65
      exact (ds_one (ds_ret (de_and rfl (de_call (ok_is_state T (k + 1)) hr rfl T.is_state.mgx T.is_state.fn.kp T.is_state.bn hx (da_cons (de_var 0) da_nil)) (pe_one (de_callB (cd_all rfl rfl) rfl T.m_all bt_all (da_cons (de_lcA (own := [("name", 1)]) rfl sc_are_variables.nd rfl (dA_keys rfl (de_var 0)) (blkOk_by (N := N_are_variables) (sc := defScope s_are_variables) (by decide +kernel)) (fun _ _ _ _ _ => (dg_name (i := 1) sc_are_variables.nd rfl (by first | exact Or.inl rfl | exact Or.inr rfl) (wp_nm (by decide)))) (fun _ _ _ _ _ => dts_nil) (fun _ _ _ _ _ => (de_call (ok_is_name T (k + 1)) hr rfl T.is_name.mgx T.is_name.fn.kp T.is_name.bn px_no (da_cons (de_var 1) da_nil)))) da_nil))))))
theorem ok_are_variables (T : Tx g w mg) : ∀ k, FnOk P w g.K mg base (L2.CX P w) k T.are_variables.f T.are_variables.fd ["value"] (spD g 1 (f_are_variables k))
  | 0 => fn_bad
  | 1 => fn_bad
  | k + 2 => st_are_variables T k
theorem st_check_arguments (T : Tx g w mg) (k : Nat) : FnOk P w g.K mg base (L2.CX P w) (k + 2) T.check_arguments.f T.check_arguments.fd ["value"] (spD g 1 (f_check_arguments (k + 2))) := by
    exact fn_ok (fb := b_check_arguments k) (nn := 1) T.check_arguments.fn sc_check_arguments rfl rfl fun cdv A outer s H E X hX hr hx tk hp => by
      subst hX
      have hu := hr.units
      have hu2 := hr.units65
      exact (ds_one (ds_if (PW.pt (dw_and (dt_cmp od_isnot (de_var 0) de_non (nomark _)) (dw_and1 (dt_not (dt_tru rfl (de_call (ok_are_variables T (k + 1)) hr rfl T.are_variables.mgx T.are_variables.fn.kp T.are_variables.bn hx (da_cons (de_var 0) da_nil)))))))
      (ds_one ds_bad)
      ds_nil))
theorem ok_check_arguments (T : Tx g w mg) : ∀ k, FnOk P w g.K mg base (L2.CX P w) k T.check_arguments.f T.check_arguments.fd ["value"] (spD g 1 (f_check_arguments k))
  | 0 => fn_bad
  | 1 => fn_bad
  | k + 2 => st_check_arguments T k
theorem st_check_state (T : Tx g w mg) (k : Nat) : FnOk P w g.K mg base (L2.CX P w) (k + 2) T.check_state.f T.check_state.fd ["value"] (spD g 1 (f_check_state (k + 2))) := by
    exact fn_ok (fb := b_check_state k) (nn := 1) T.check_state.fn sc_check_state rfl rfl fun cdv A outer s H E X hX hr hx tk hp => by
      subst hX
      have hu := hr.units
      have hu2 := hr.units65
      exact (ds_one (ds_if (dt_not (dt_tru rfl (de_call (ok_is_state T (k + 1)) hr rfl T.is_state.mgx T.is_state.fn.kp T.is_state.bn hx (da_cons (de_var 0) da_nil))))
      (ds_one ds_bad)
      ds_nil))
theorem ok_check_state (T : Tx g w mg) : ∀ k, FnOk P w g.K mg base (L2.CX P w) k T.check_state.f T.check_state.fd ["value"] (spD g 1 (f_check_state k))
  | 0 => fn_bad
  | 1 => fn_bad
  | k + 2 => st_check_state T k
theorem st_is_deep_expression (T : Tx g w mg) (k : Nat) (ih0 : FnOk P w g.K mg base (L2.CX P w) (k + 1) T.is_deep_expression.f T.is_deep_expression.fd ["value", "depth"] (spD g 2 (fs_is_deep_expression (k + 1) 0))) : FnOk P w g.K mg base (L2.CX P w) (k + 2) T.is_deep_expression.f T.is_deep_expression.fd ["value", "depth"] (spD g 2 (fs_is_deep_expression (k + 2) 0)) := by
    exact fn_ok (fb := b_is_deep_expression k (fs_is_deep_expression (k + 1))) (nn := 6) T.is_deep_expression.fn sc_is_deep_expression rfl rfl fun cdv A outer s H E X hX hr hx tk hp => by
      subst hX
      have hu := hr.units
      have hu2 := hr.units65
      exact (ds_cons (ds_if (PW.pt (dw_or (dt_not (dt_tru rfl (de_isi .tuple rfl rfl T.m_isinstance rfl T.m_tuple bt_tuple (de_var 0)))) (dw_or (dt_cmp (od_eq4 rfl hu2) (de_var 0) (de_tup da_nil) (nomark _)) (dw_or (dt_not (dt_tru rfl (de_isi .str rfl rfl T.m_isinstance rfl T.m_str bt_str (de_ix (xd_ix3 rfl hu) (de_var 0) de_int)))) (dw_or1 (dt_cmp (od_eq4 rfl hu2) (de_var 1) de_int (nomark _)))))))
      (ds_one (ds_ret de_bl))
      ds_nil)
    (ds_cons (ds_asg (de_var 0) (dg_star (es' := [_, _]) rfl rfl (dgs_cons (fun _ _ _ _ _ => trivial) (dg_name (i := 2) sc_is_deep_expression.nd rfl (by first | exact Or.inl rfl | exact Or.inr rfl) (fun _ _ => trivial)) (dgs_cons (fun _ _ _ _ _ => trivial) (dg_name (i := 3) sc_is_deep_expression.nd rfl (by first | exact Or.inl rfl | exact Or.inr rfl) (fun _ _ => trivial)) (dgs_nil (fun _ => trivial))))))
    (ds_cons (ds_if (dt_cmp (od_eq4 rfl hu2) (de_var 2) de_str (nomark _))
      (ds_one (ds_ret (de_and rfl (de_cmp (od_eq4 rfl hu2) (de_callB (cd_len2 rfl) rfl T.m_len bt_len (da_cons (de_var 3) da_nil)) de_int (nomark _)) (pe_one (de_call (ok_is_value T (k + 1)) hr rfl T.is_value.mgx T.is_value.fn.kp T.is_value.bn hx (da_cons (de_ix (xd_ix3 rfl hu) (de_var 3) de_int) da_nil))))))
      ds_nil)
    (ds_cons (ds_if (dt_cmp (od_eq4 rfl hu2) (de_var 2) de_str (nomark _))
      (ds_one (ds_ret (de_and rfl (de_cmp (od_eq4 rfl hu2) (de_callB (cd_len2 rfl) rfl T.m_len bt_len (da_cons (de_var 3) da_nil)) de_int (nomark _)) (pe_one (de_call (ok_is_name T (k + 1)) hr rfl T.is_name.mgx T.is_name.fn.kp T.is_name.bn hx (da_cons (de_ix (xd_ix3 rfl hu) (de_var 3) de_int) da_nil))))))
      ds_nil)
    (ds_cons (ds_set (i := 4) sc_is_deep_expression.nd rfl (by first | exact Or.inl rfl | exact Or.inr rfl) (de_disp (mu := false) (pps_cons de_str (de_cmp od_le (de_callB (cd_len2 rfl) rfl T.m_len bt_len (da_cons (de_var 3) da_nil)) (de_kd rfl rfl T.c_MAX_PARTS) (nomark _)) (pps_cons de_str (de_cmp (od_eq4 rfl hu2) (de_callB (cd_len2 rfl) rfl T.m_len bt_len (da_cons (de_var 3) da_nil)) de_int (nomark _)) pps_nil)) rfl rfl (by simp) (by decide)))
    (ds_cons (ds_if (dt_not (PW.pt (dw_or (PW.pt (dw_and (dt_cmp (od_in3 rfl hu2) (de_var 2) (de_kd rfl rfl T.c_PAIRS) (by rfl)) (dw_and1 (dt_cmp (od_eq4 rfl hu2) (de_callB (cd_len2 rfl) rfl T.m_len bt_len (da_cons (de_var 3) da_nil)) de_int (nomark _))))) (dw_or1 (dt_tru rfl (de_getA2 hu (de_var 4) (de_var 2) de_bl ⟨rfl, rfl, rfl, rfl⟩))))))
      (ds_one (ds_ret de_bl))
      ds_nil)
    (ds_one (ds_ret (de_callB (cd_all rfl rfl) rfl T.m_all bt_all (da_cons (de_lcA (own := [("part", 5)]) rfl sc_is_deep_expression.nd rfl (dA_keys rfl (de_var 3)) (blkOk_by (N := N_is_deep_expression) (sc := defScope s_is_deep_expression) (by decide +kernel)) (fun _ _ _ _ _ => (dg_name (i := 5) sc_is_deep_expression.nd rfl (by first | exact Or.inl rfl | exact Or.inr rfl) (wp_nm (by decide)))) (fun _ _ _ _ _ => dts_nil) (fun _ _ _ _ _ => (de_call ih0 hr rfl T.is_deep_expression.mgx T.is_deep_expression.fn.kp T.is_deep_expression.bn px_no (da_cons (de_var 5) (da_cons (de_op (od_sub) (de_var 1) de_int) da_nil))))) da_nil))))))))))
theorem oks_is_deep_expression (T : Tx g w mg) : ∀ k, FnOk P w g.K mg base (L2.CX P w) k T.is_deep_expression.f T.is_deep_expression.fd ["value", "depth"] (spD g 2 (fs_is_deep_expression k 0))
  | 0 => (fn_bad)
  | 1 => (fn_bad)
  | k + 2 => by
    have ih := oks_is_deep_expression T (k + 1)
    exact (st_is_deep_expression T k ih)
theorem ok_is_deep_expression (T : Tx g w mg) (k : Nat) : FnOk P w g.K mg base (L2.CX P w) k T.is_deep_expression.f T.is_deep_expression.fd ["value", "depth"] (spD g 2 (f_is_deep_expression k)) := (oks_is_deep_expression T k)
theorem st_is_expression (T : Tx g w mg) (k : Nat) : FnOk P w g.K mg base (L2.CX P w) (k + 2) T.is_expression.f T.is_expression.fd ["value"] (spD g 1 (f_is_expression (k + 2))) := by
    exact fn_ok (fb := b_is_expression k) (nn := 1) T.is_expression.fn sc_is_expression rfl rfl fun cdv A outer s H E X hX hr hx tk hp => by
      subst hX
      have hu := hr.units
      have hu2 := hr.units65
      exact (ds_one (ds_ret (de_call (ok_is_deep_expression T (k + 1)) hr rfl T.is_deep_expression.mgx T.is_deep_expression.fn.kp T.is_deep_expression.bn hx (da_cons (de_var 0) (da_cons (de_kd rfl rfl T.c_MAX_DEPTH) da_nil)))))
theorem ok_is_expression (T : Tx g w mg) : ∀ k, FnOk P w g.K mg base (L2.CX P w) k T.is_expression.f T.is_expression.fd ["value"] (spD g 1 (f_is_expression k))
  | 0 => fn_bad
  | 1 => fn_bad
  | k + 2 => st_is_expression T k
theorem st_are_expressions (T : Tx g w mg) (k : Nat) : FnOk P w g.K mg base (L2.CX P w) (k + 2) T.are_expressions.f T.are_expressions.fd ["value"] (spD g 1 (f_are_expressions (k + 2))) := by
    exact fn_ok (fb := b_are_expressions k) (nn := 2) T.are_expressions.fn sc_are_expressions rfl rfl fun cdv A outer s H E X hX hr hx tk hp => by
      subst hX
      have hu := hr.units
      have hu2 := hr.units65
      exact (ds_cons (ds_if (PW.pt (dw_or (dt_not (dt_tru rfl (de_isi .tuple rfl rfl T.m_isinstance rfl T.m_tuple bt_tuple (de_var 0)))) (dw_or1 (dt_cmp od_gt (de_callB (cd_len2 rfl) rfl T.m_len bt_len (da_cons (de_var 0) da_nil)) (de_kd rfl rfl T.c_MAX_PARAMETERS) (nomark _)))))
      (ds_one (ds_ret de_bl))
      ds_nil)
    (ds_one (ds_ret (de_callB (cd_all rfl rfl) rfl T.m_all bt_all (da_cons (de_lcA (own := [("part", 1)]) rfl sc_are_expressions.nd rfl (dA_keys rfl (de_var 0)) (blkOk_by (N := N_are_expressions) (sc := defScope s_are_expressions) (by decide +kernel)) (fun _ _ _ _ _ => (dg_name (i := 1) sc_are_expressions.nd rfl (by first | exact Or.inl rfl | exact Or.inr rfl) (wp_nm (by decide)))) (fun _ _ _ _ _ => dts_nil) (fun _ _ _ _ _ => (de_call (ok_is_expression T (k + 1)) hr rfl T.is_expression.mgx T.is_expression.fn.kp T.is_expression.bn px_no (da_cons (de_var 1) da_nil)))) da_nil)))))
theorem ok_are_expressions (T : Tx g w mg) : ∀ k, FnOk P w g.K mg base (L2.CX P w) k T.are_expressions.f T.are_expressions.fd ["value"] (spD g 1 (f_are_expressions k))
  | 0 => fn_bad
  | 1 => fn_bad
  | k + 2 => st_are_expressions T k
theorem st_are_parameters (T : Tx g w mg) (k : Nat) : FnOk P w g.K mg base (L2.CX P w) (k + 2) T.are_parameters.f T.are_parameters.fd ["value"] (spD g 1 (f_are_parameters (k + 2))) := by
    exact fn_ok (fb := b_are_parameters k) (nn := 2) T.are_parameters.fn sc_are_parameters rfl rfl fun cdv A outer s H E X hX hr hx tk hp => by
      subst hX
      have hu := hr.units
      have hu2 := hr.units65
      exact (ds_cons (ds_if (PW.pt (dw_or (dt_not (dt_tru rfl (de_isi .tuple rfl rfl T.m_isinstance rfl T.m_tuple bt_tuple (de_var 0)))) (dw_or (dt_cmp od_gt (de_callB (cd_len2 rfl) rfl T.m_len bt_len (da_cons (de_var 0) da_nil)) (de_kd rfl rfl T.c_MAX_PARAMETERS) (nomark _)) (dw_or1 (dt_not (dt_tru rfl (de_callB (cd_all rfl rfl) rfl T.m_all bt_all (da_cons (de_lcA (own := [("name", 1)]) rfl sc_are_parameters.nd rfl (dA_keys rfl (de_var 0)) (blkOk_by (N := N_are_parameters) (sc := defScope s_are_parameters) (by decide +kernel)) (fun _ _ _ _ _ => (dg_name (i := 1) sc_are_parameters.nd rfl (by first | exact Or.inl rfl | exact Or.inr rfl) (wp_nm (by decide)))) (fun _ _ _ _ _ => dts_nil) (fun _ _ _ _ _ => (de_call (ok_is_name T (k + 1)) hr rfl T.is_name.mgx T.is_name.fn.kp T.is_name.bn px_no (da_cons (de_var 1) da_nil)))) da_nil))))))))
      (ds_one (ds_ret de_bl))
      ds_nil)
    (ds_one (ds_ret (de_cmp (od_eq4 rfl hu2) (de_lenSet rfl rfl rfl T.m_len rfl T.m_set (de_var 0)) (de_callB (cd_len2 rfl) rfl T.m_len bt_len (da_cons (de_var 0) da_nil)) (nomark _)))))
theorem ok_are_parameters (T : Tx g w mg) : ∀ k, FnOk P w g.K mg base (L2.CX P w) k T.are_parameters.f T.are_parameters.fd ["value"] (spD g 1 (f_are_parameters k))
  | 0 => fn_bad
  | 1 => fn_bad
  | k + 2 => st_are_parameters T k
theorem st_is_part (T : Tx g w mg) (k : Nat) : FnOk P w g.K mg base (L2.CX P w) (k + 2) T.is_part.f T.is_part.fd ["kind", "value"] (spD g 2 (f_is_part (k + 2))) := by
    exact fn_ok (fb := b_is_part k) (nn := 3) T.is_part.fn sc_is_part rfl rfl fun cdv A outer s H E X hX hr hx tk hp => by
      subst hX
      have hu := hr.units
      have hu2 := hr.units65
      exact (ds_one (ds_match (de_var 0)
      (dm_case (i := 2) sc_is_part.nd rfl (by first | exact Or.inl rfl | exact Or.inr rfl) (dt_cmp (od_eq4 rfl hu2) (de_var 2) de_str (nomark _))
      (ds_one (ds_ret (de_call (ok_is_name T (k + 1)) hr rfl T.is_name.mgx T.is_name.fn.kp T.is_name.bn hx (da_cons (de_var 1) da_nil))))
      (dm_case (i := 2) sc_is_part.nd rfl (by first | exact Or.inl rfl | exact Or.inr rfl) (dt_cmp (od_eq4 rfl hu2) (de_var 2) de_str (nomark _))
      (ds_one (ds_ret (de_call (ok_is_expression T (k + 1)) hr rfl T.is_expression.mgx T.is_expression.fn.kp T.is_expression.bn hx (da_cons (de_var 1) da_nil))))
      (dm_case (i := 2) sc_is_part.nd rfl (by first | exact Or.inl rfl | exact Or.inr rfl) (dt_cmp (od_eq4 rfl hu2) (de_var 2) de_str (nomark _))
      (ds_one (ds_ret (de_call (ok_are_parameters T (k + 1)) hr rfl T.are_parameters.mgx T.are_parameters.fn.kp T.are_parameters.bn hx (da_cons (de_var 1) da_nil))))
      (dm_case (i := 2) sc_is_part.nd rfl (by first | exact Or.inl rfl | exact Or.inr rfl) (dt_cmp (od_eq4 rfl hu2) (de_var 2) de_str (nomark _))
      (ds_one (ds_ret (de_call (ok_are_expressions T (k + 1)) hr rfl T.are_expressions.mgx T.are_expressions.fn.kp T.are_expressions.bn hx (da_cons (de_var 1) da_nil))))
      (dm_else (ds_one (ds_ret de_bl)))))))))
theorem ok_is_part (T : Tx g w mg) : ∀ k, FnOk P w g.K mg base (L2.CX P w) k T.is_part.f T.is_part.fd ["kind", "value"] (spD g 2 (f_is_part k))
  | 0 => fn_bad
  | 1 => fn_bad
  | k + 2 => st_is_part T k
theorem st_is_headed (T : Tx g w mg) (k : Nat) : FnOk P w g.K mg base (L2.CX P w) (k + 2) T.is_headed.f T.is_headed.fd ["value"] (spD g 1 (f_is_headed (k + 2))) := by
    exact fn_ok (fb := b_is_headed k) (nn := 5) T.is_headed.fn sc_is_headed rfl rfl fun cdv A outer s H E X hX hr hx tk hp => by
      subst hX
      have hu := hr.units
      have hu2 := hr.units65
      exact (ds_cons (ds_if (PW.pt (dw_or (dt_not (dt_tru rfl (de_isi .tuple rfl rfl T.m_isinstance rfl T.m_tuple bt_tuple (de_var 0)))) (dw_or (dt_cmp (od_eq4 rfl hu2) (de_var 0) (de_tup da_nil) (nomark _)) (dw_or (dt_not (dt_tru rfl (de_isi .str rfl rfl T.m_isinstance rfl T.m_str bt_str (de_ix (xd_ix3 rfl hu) (de_var 0) de_int)))) (dw_or1 (dt_knotin T.d_FORMS rfl rfl (de_ix (xd_ix3 rfl hu) (de_var 0) de_int)))))))
      (ds_one (ds_ret de_bl))
      ds_nil)
    (ds_cons (ds_asg (de_var 0) (dg_star (es' := [_, _]) rfl rfl (dgs_cons (fun _ _ _ _ _ => trivial) (dg_name (i := 1) sc_is_headed.nd rfl (by first | exact Or.inl rfl | exact Or.inr rfl) (fun _ _ => trivial)) (dgs_cons (fun _ _ _ _ _ => trivial) (dg_name (i := 2) sc_is_headed.nd rfl (by first | exact Or.inl rfl | exact Or.inr rfl) (fun _ _ => trivial)) (dgs_nil (fun _ => trivial))))))
    (ds_cons (ds_if (dt_cmp (od_ne4 rfl hu2) (de_callB (cd_len2 rfl) rfl T.m_len bt_len (da_cons (de_var 2) da_nil)) (de_callB (cd_len2 rfl) rfl T.m_len bt_len (da_cons (de_kix T.d_FORMS rfl rfl (de_var 1)) da_nil)) (nomark _))
      (ds_one (ds_ret de_bl))
      ds_nil)
    (ds_one (ds_ret (de_callB (cd_all rfl rfl) rfl T.m_all bt_all (da_cons (de_lc (own := [("kind", 3), ("part", 4)]) rfl sc_is_headed.nd rfl (di_z2 rfl rfl T.m_zip (da_cons (de_kix T.d_FORMS rfl rfl (de_var 1)) (da_cons (de_var 2) da_nil))) (blkOk_by (N := N_is_headed) (sc := defScope s_is_headed) (by decide +kernel)) (fun _ _ _ _ _ => (dg_tup (n := 2) rfl rfl (dgs_cons (fun _ _ _ p q => Eq.trans q p) (dg_name (i := 3) sc_is_headed.nd rfl (by first | exact Or.inl rfl | exact Or.inr rfl) (wp_nm (by decide))) (dgs_cons (fun _ _ _ p q => Eq.trans q p) (dg_name (i := 4) sc_is_headed.nd rfl (by first | exact Or.inl rfl | exact Or.inr rfl) (wp_nm (by decide))) (dgs_nil (fun _ => rfl)))))) (fun _ _ _ _ _ => dts_nil) (fun _ _ _ _ _ => (de_call (ok_is_part T (k + 1)) hr rfl T.is_part.mgx T.is_part.fn.kp T.is_part.bn px_no (da_cons (de_var 3) (da_cons (de_var 4) da_nil))))) da_nil)))))))
theorem ok_is_headed (T : Tx g w mg) : ∀ k, FnOk P w g.K mg base (L2.CX P w) k T.is_headed.f T.is_headed.fd ["value"] (spD g 1 (f_is_headed k))
  | 0 => fn_bad
  | 1 => fn_bad
  | k + 2 => st_is_headed T k
theorem st_Survey_is_allowed (T : Tx g w mg) (k : Nat) : FnOk P w g.K mg base (L2.CX P w) (k + 2) T.Survey_is_allowed.f T.Survey_is_allowed.fd ["self", "statement", "depth"] (spD g 3 (f_Survey_is_allowed (k + 2))) := by
    exact fn_ok (fb := b_Survey_is_allowed k) (nn := 3) T.Survey_is_allowed.fn sc_Survey_is_allowed rfl rfl fun cdv A outer s H E X hX hr hx tk hp => by
      subst hX
      have hu := hr.units
      have hu2 := hr.units65
      exact (ds_cons (ds_if (dt_cmp (od_eq4 rfl hu2) (de_ix (xd_ix3 rfl hu) (de_var 1) de_int) de_str (nomark _))
      (ds_one (ds_ret (de_and rfl (de_cmp (od_eq4 rfl hu2) (de_var 2) de_int (nomark _)) (pe_one (de_cmp (od_notin3 rfl hu2) (de_ix (xd_ix3 rfl hu) (de_var 1) de_int) (de_fld T.c_Survey rfl (by decide) (de_var 0)) (by rfl))))))
      ds_nil)
    (ds_one (ds_ret (de_or rfl (de_cmp (od_ne4 rfl hu2) (de_ix (xd_ix3 rfl hu) (de_var 1) de_int) de_str (nomark _)) (pe_one (de_cmp (od_eq4 rfl hu2) (de_getA1 hu (de_fld T.c_Survey rfl (by decide) (de_var 0)) (de_ix (xd_ix3 rfl hu) (de_var 1) de_int) ⟨rfl, rfl, rfl, rfl⟩) (de_callB (cd_len2 rfl) rfl T.m_len bt_len (da_cons (de_ix (xd_ix3 rfl hu) (de_var 1) de_int) da_nil)) (nomark _)))))))
theorem ok_Survey_is_allowed (T : Tx g w mg) : ∀ k, FnOk P w g.K mg base (L2.CX P w) k T.Survey_is_allowed.f T.Survey_is_allowed.fd ["self", "statement", "depth"] (spD g 3 (f_Survey_is_allowed k))
  | 0 => fn_bad
  | 1 => fn_bad
  | k + 2 => st_Survey_is_allowed T k
theorem st_Survey_visit (T : Tx g w mg) (k : Nat) (ih0 : FnOk P w g.K mg base (L2.CX P w) (k + 1) T.Survey_visit.f T.Survey_visit.fd ["self", "block", "place", "depth"] (spD g 4 (fs_Survey_visit (k + 1) 0))) : FnOk P w g.K mg base (L2.CX P w) (k + 2) T.Survey_visit.f T.Survey_visit.fd ["self", "block", "place", "depth"] (spD g 4 (fs_Survey_visit (k + 2) 0)) := by
    exact fn_ok (fb := b_Survey_visit k (fs_Survey_visit (k + 1))) (nn := 10) T.Survey_visit.fn sc_Survey_visit rfl rfl fun cdv A outer s H E X hX hr hx tk hp => by
      subst hX
      have hu := hr.units
      have hu2 := hr.units65
      exact (ds_one (ds_for hp rfl (di_en rfl rfl T.m_enumerate (da_cons (de_var 1) da_nil)) (dg_tup (n := 2) rfl rfl (dgs_cons (fun _ _ _ _ _ => trivial) (dg_name (i := 4) sc_Survey_visit.nd rfl (by first | exact Or.inl rfl | exact Or.inr rfl) (fun _ _ => trivial)) (dgs_cons (fun _ _ _ _ _ => trivial) (dg_name (i := 5) sc_Survey_visit.nd rfl (by first | exact Or.inl rfl | exact Or.inr rfl) (fun _ _ => trivial)) (dgs_nil (fun _ => trivial)))))
      (ds_cons (ds_set (i := 6) sc_Survey_visit.nd rfl (by first | exact Or.inl rfl | exact Or.inr rfl) (de_op (od_add rfl) (de_var 2) (de_tup (da_cons (de_var 4) da_nil))))
    (ds_cons (ds_if (PW.pt (dw_or (dt_cmp (od_eq4 rfl hu2) (de_callB (cd_len2 rfl) rfl T.m_len bt_len (da_cons (de_fld T.c_Survey rfl (by decide) (de_var 0)) da_nil)) (de_kd rfl rfl T.c_MAX_STATEMENTS) (nomark _)) (dw_or (dt_not (dt_tru rfl (de_call (ok_is_headed T (k + 1)) hr rfl T.is_headed.mgx T.is_headed.fn.kp T.is_headed.bn hx (da_cons (de_var 5) da_nil)))) (dw_or1 (dt_not (dt_tru rfl (de_meth T.c_Survey T.Survey_is_allowed rfl (ok_Survey_is_allowed T (k + 1)) hr hx (de_var 0) (da_cons (de_var 5) (da_cons (de_var 3) da_nil)))))))))
      (ds_one ds_bad)
      ds_nil)
    (ds_cons (ds_expr (de_m ty_lst F.plainAttrs_list F.slot_list_append F.type_list_append md_append (de_fld T.c_Survey rfl (by decide) (de_var 0)) (da_cons (de_var 6) da_nil)))
    (ds_cons (ds_set (i := 7) sc_Survey_visit.nd rfl (by first | exact Or.inl rfl | exact Or.inr rfl) (de_call (ok_blocks_of T (k + 1)) hr rfl T.blocks_of.mgx T.blocks_of.fn.kp T.blocks_of.bn hx (da_cons (de_var 5) da_nil)))
    (ds_cons (ds_if (PW.pt (dw_or (dt_not (dt_tru rfl (de_callB (cd_all rfl rfl) rfl T.m_all bt_all (da_cons (de_lcA (own := [("word", 8), ("inner", 9)]) rfl sc_Survey_visit.nd rfl (dA_keys rfl (de_var 7)) (blkOk_by (N := N_Survey_visit) (sc := defScope s_Survey_visit) (by decide +kernel)) (fun _ _ _ _ _ => (dg_tup (n := 2) rfl rfl (dgs_cons (fun _ _ _ p q => Eq.trans q p) (dg_name (i := 8) sc_Survey_visit.nd rfl (by first | exact Or.inl rfl | exact Or.inr rfl) (wp_nm (by decide))) (dgs_cons (fun _ _ _ p q => Eq.trans q p) (dg_name (i := 9) sc_Survey_visit.nd rfl (by first | exact Or.inl rfl | exact Or.inr rfl) (wp_nm (by decide))) (dgs_nil (fun _ => rfl)))))) (fun _ _ _ _ _ => dts_nil) (fun _ _ _ _ _ => (de_isi .tuple rfl rfl T.m_isinstance rfl T.m_tuple bt_tuple (de_var 9)))) da_nil)))) (dw_or1 (PW.pt (dw_and (dt_cmp (od_ne4 rfl hu2) (de_var 7) (de_lst da_nil) (nomark _)) (dw_and1 (dt_cmp (od_eq4 rfl hu2) (de_var 3) (de_kd rfl rfl T.c_MAX_BLOCKS) (nomark _))))))))
      (ds_one ds_bad)
      ds_nil)
    (ds_cons (ds_for hp rfl (PIA.v (dA_keys rfl (de_var 7))) (dg_tup (n := 2) rfl rfl (dgs_cons (fun _ _ _ _ _ => trivial) (dg_name (i := 8) sc_Survey_visit.nd rfl (by first | exact Or.inl rfl | exact Or.inr rfl) (fun _ _ => trivial)) (dgs_cons (fun _ _ _ _ _ => trivial) (dg_name (i := 9) sc_Survey_visit.nd rfl (by first | exact Or.inl rfl | exact Or.inr rfl) (fun _ _ => trivial)) (dgs_nil (fun _ => trivial)))))
      (ds_one (ds_expr (de_meth T.c_Survey T.Survey_visit rfl ih0 hr hx (de_var 0) (da_cons (de_var 9) (da_cons (de_op (od_add rfl) (de_var 6) (de_tup (da_cons (de_var 8) da_nil))) (da_cons (de_op (od_add rfl) (de_var 3) de_int) da_nil)))))))
    (ds_one (ds_if (dt_cmp (od_eq4 rfl hu2) (de_ix (xd_ix3 rfl hu) (de_var 5) de_int) de_str (nomark _))
      (ds_one (ds_asg (de_callB (cd_len2 rfl) rfl T.m_len bt_len (da_cons (de_ix (xd_ix3 rfl hu) (de_var 5) de_int) da_nil)) (dg_ix (fun _ => trivial) (de_fld T.c_Survey rfl (by decide) (de_var 0)) (de_ix (xd_ix3 rfl hu) (de_var 5) de_int) (sd_set3 hu))))
      ds_nil))))))))))
theorem oks_Survey_visit (T : Tx g w mg) : ∀ k, FnOk P w g.K mg base (L2.CX P w) k T.Survey_visit.f T.Survey_visit.fd ["self", "block", "place", "depth"] (spD g 4 (fs_Survey_visit k 0))
  | 0 => (fn_bad)
  | 1 => (fn_bad)
  | k + 2 => by
    have ih := oks_Survey_visit T (k + 1)
    exact (st_Survey_visit T k ih)
theorem ok_Survey_visit (T : Tx g w mg) (k : Nat) : FnOk P w g.K mg base (L2.CX P w) k T.Survey_visit.f T.Survey_visit.fd ["self", "block", "place", "depth"] (spD g 4 (f_Survey_visit k)) := (oks_Survey_visit T k)
theorem st_Survey___init__ (T : Tx g w mg) (k : Nat) : FnOk P w g.K mg base (L2.CX P w) (k + 2) T.Survey___init__.f T.Survey___init__.fd ["self"] (spD g 1 (f_Survey___init__ (k + 2))) := by
    exact fn_ok (fb := b_Survey___init__ k) (nn := 1) T.Survey___init__.fn sc_Survey___init__ rfl rfl fun cdv A outer s H E X hX hr hx tk hp => by
      subst hX
      have hu := hr.units
      have hu2 := hr.units65
      exact (ds_cons (ds_fld T.c_Survey rfl (by decide) (de_var 0) (de_lstM da_nil))
    (ds_one (ds_fld T.c_Survey rfl (by decide) (de_var 0) de_dict0M)))
theorem ok_Survey___init__ (T : Tx g w mg) : ∀ k, FnOk P w g.K mg base (L2.CX P w) k T.Survey___init__.f T.Survey___init__.fd ["self"] (spD g 1 (f_Survey___init__ k))
  | 0 => fn_bad
  | 1 => fn_bad
  | k + 2 => st_Survey___init__ T k
theorem st_surveyed (T : Tx g w mg) (k : Nat) : FnOk P w g.K mg base (L2.CX P w) (k + 2) T.surveyed.f T.surveyed.fd ["program"] (spD g 1 (f_surveyed (k + 2))) := by
    exact fn_ok (fb := b_surveyed k) (nn := 2) T.surveyed.fn sc_surveyed rfl rfl fun cdv A outer s H E X hX hr hx tk hp => by
      subst hX
      have hu := hr.units
      have hu2 := hr.units65
      exact (ds_cons (ds_if (dt_not (dt_tru rfl (de_isi .tuple rfl rfl T.m_isinstance rfl T.m_tuple bt_tuple (de_var 0))))
      (ds_one ds_bad)
      ds_nil)
    (ds_cons (ds_set (i := 1) sc_surveyed.nd rfl (by first | exact Or.inl rfl | exact Or.inr rfl) (de_make0 (fz := true) T.c_Survey T.Survey___init__ rfl rfl (ok_Survey___init__ T k) hr hx rfl))
    (ds_cons (ds_expr (de_meth T.c_Survey T.Survey_visit rfl (ok_Survey_visit T (k + 1)) hr hx (de_var 1) (da_cons (de_var 0) (da_cons (de_tup da_nil) (da_cons de_int da_nil)))))
    (ds_one (ds_ret (de_fld T.c_Survey rfl (by decide) (de_var 1)))))))
theorem ok_surveyed (T : Tx g w mg) : ∀ k, FnOk P w g.K mg base (L2.CX P w) k T.surveyed.f T.surveyed.fd ["program"] (spD g 1 (f_surveyed k))
  | 0 => fn_bad
  | 1 => fn_bad
  | k + 2 => st_surveyed T k
theorem st_check_program (T : Tx g w mg) (k : Nat) : FnOk P w g.K mg base (L2.CX P w) (k + 2) T.check_program.f T.check_program.fd ["program"] (spD g 1 (f_check_program (k + 2))) := by
    exact fn_ok (fb := b_check_program k) (nn := 1) T.check_program.fn sc_check_program rfl rfl fun cdv A outer s H E X hX hr hx tk hp => by
      subst hX
      have hu := hr.units
      have hu2 := hr.units65
      exact (ds_one (ds_expr (de_call (ok_surveyed T (k + 1)) hr rfl T.surveyed.mgx T.surveyed.fn.kp T.surveyed.bn hx (da_cons (de_var 0) da_nil))))
theorem ok_check_program (T : Tx g w mg) : ∀ k, FnOk P w g.K mg base (L2.CX P w) k T.check_program.f T.check_program.fd ["program"] (spD g 1 (f_check_program k))
  | 0 => fn_bad
  | 1 => fn_bad
  | k + 2 => st_check_program T k
theorem st_finished (T : Tx g w mg) (k : Nat) : FnOk P w g.K mg base (L2.CX P w) (k + 2) T.finished.f T.finished.fd ["program", "state", "arguments"] (spD g 3 (f_finished (k + 2))) := by
    exact fn_ok (fb := b_finished k) (nn := 4) T.finished.fn sc_finished rfl rfl fun cdv A outer s H E X hX hr hx tk hp => by
      subst hX
      have hu := hr.units
      have hu2 := hr.units65
      exact (ds_cons (ds_expr (de_call (ok_check_program T (k + 1)) hr rfl T.check_program.mgx T.check_program.fn.kp T.check_program.bn hx (da_cons (de_var 0) da_nil)))
    (ds_cons (ds_expr (de_call (ok_check_state T (k + 1)) hr rfl T.check_state.mgx T.check_state.fn.kp T.check_state.bn hx (da_cons (de_var 1) da_nil)))
    (ds_cons (ds_expr (de_call (ok_check_arguments T (k + 1)) hr rfl T.check_arguments.mgx T.check_arguments.fn.kp T.check_arguments.bn hx (da_cons (de_var 2) da_nil)))
    (ds_cons (ds_set (i := 3) sc_finished.nd rfl (by first | exact Or.inl rfl | exact Or.inr rfl) (de_make (fz := false) T.c_Runner T.Runner___init__ rfl rfl (ok_Runner___init__ T k) hr hx rfl (da_cons (de_var 1) (da_cons (de_if (dt_cmp od_is (de_var 2) de_non (nomark _)) de_dict0 (de_var 2)) da_nil))))
    (ds_one (ds_ret (de_tup (da_cons (de_var 3) (da_cons (de_meth T.c_Runner T.Runner_whole rfl (ok_Runner_whole T (k + 1)) hr hx (de_var 3) (da_cons (de_var 0) da_nil)) da_nil)))))))))
theorem ok_finished (T : Tx g w mg) : ∀ k, FnOk P w g.K mg base (L2.CX P w) k T.finished.f T.finished.fd ["program", "state", "arguments"] (spD g 3 (f_finished k))
  | 0 => fn_bad
  | 1 => fn_bad
  | k + 2 => st_finished T k
theorem st_run (T : Tx g w mg) (k : Nat) : FnOk P w g.K mg base (L2.CX P w) (k + 2) T.run.f T.run.fd ["program", "state", "arguments"] (spD g 3 (f0_run (k + 2))) := by
    exact fn_ok (fb := b_run k) (nn := 3) T.run.fn sc_run rfl rfl fun cdv A outer s H E X hX hr hx tk hp => by
      subst hX
      have hu := hr.units
      have hu2 := hr.units65
      exact (ds_one (ds_ret (de_ix (xd_ix3 rfl hu) (de_call (ok_finished T (k + 1)) hr rfl T.finished.mgx T.finished.fn.kp T.finished.bn hx (da_cons (de_var 0) (da_cons (de_var 1) (da_cons (de_var 2) da_nil)))) de_int)))
theorem ok0_run (T : Tx g w mg) : ∀ k, FnOk P w g.K mg base (L2.CX P w) k T.run.f T.run.fd ["program", "state", "arguments"] (spD g 3 (f0_run k))
  | 0 => fn_bad
  | 1 => fn_bad
  | k + 2 => st_run T k
theorem ok_run (T : Tx g w mg) (k : Nat) : FnOk P w g.K mg base (L2.CX P w) k T.run.f T.run.fd ["program", "state", "arguments"] (spD g 3 (f_run k)) := fn_close T.tj (ok0_run T k)
theorem st_Trace_ending (T : Tx g w mg) (k : Nat) : FnOk P w g.K mg base (L2.CX P w) (k + 2) T.Trace_ending.f T.Trace_ending.fd ["self"] (spD g 1 (f_Trace_ending (k + 2))) := by
    exact fn_ok (fb := b_Trace_ending k) (nn := 1) T.Trace_ending.fn sc_Trace_ending rfl rfl fun cdv A outer s H E X hX hr hx tk hp => by
      subst hX
      have hu := hr.units
      have hu2 := hr.units65
      exact (ds_one (ds_ret (de_fld T.c_Trace rfl (by decide) (de_var 0))))
theorem ok_Trace_ending (T : Tx g w mg) : ∀ k, FnOk P w g.K mg base (L2.CX P w) k T.Trace_ending.f T.Trace_ending.fd ["self"] (spD g 1 (f_Trace_ending k))
  | 0 => fn_bad
  | 1 => fn_bad
  | k + 2 => st_Trace_ending T k
theorem st_Trace_effect (T : Tx g w mg) (k : Nat) : FnOk P w g.K mg base (L2.CX P w) (k + 2) T.Trace_effect.f T.Trace_effect.fd ["self"] (spD g 1 (f_Trace_effect (k + 2))) := by
    exact fn_ok (fb := b_Trace_effect k) (nn := 1) T.Trace_effect.fn sc_Trace_effect rfl rfl fun cdv A outer s H E X hX hr hx tk hp => by
      subst hX
      have hu := hr.units
      have hu2 := hr.units65
      exact (ds_one (ds_ret (de_callTy (cd_dict (mu := false) rfl rfl) rfl T.m_dict bt_dict (da_cons (de_fld T.c_Trace rfl (by decide) (de_var 0)) da_nil))))
theorem ok_Trace_effect (T : Tx g w mg) : ∀ k, FnOk P w g.K mg base (L2.CX P w) k T.Trace_effect.f T.Trace_effect.fd ["self"] (spD g 1 (f_Trace_effect k))
  | 0 => fn_bad
  | 1 => fn_bad
  | k + 2 => st_Trace_effect T k
theorem st_Trace_steps (T : Tx g w mg) (k : Nat) : FnOk P w g.K mg base (L2.CX P w) (k + 2) T.Trace_steps.f T.Trace_steps.fd ["self"] (spD g 1 (f_Trace_steps (k + 2))) := by
    exact fn_ok (fb := b_Trace_steps k) (nn := 1) T.Trace_steps.fn sc_Trace_steps rfl rfl fun cdv A outer s H E X hX hr hx tk hp => by
      subst hX
      have hu := hr.units
      have hu2 := hr.units65
      exact (ds_one (ds_ret (de_callTy (cd_list (mu := false) rfl rfl) rfl T.m_list bt_list (da_cons (de_fld T.c_Trace rfl (by decide) (de_var 0)) da_nil))))
theorem ok_Trace_steps (T : Tx g w mg) : ∀ k, FnOk P w g.K mg base (L2.CX P w) k T.Trace_steps.f T.Trace_steps.fd ["self"] (spD g 1 (f_Trace_steps k))
  | 0 => fn_bad
  | 1 => fn_bad
  | k + 2 => st_Trace_steps T k
theorem st_holds (T : Tx g w mg) (k : Nat) : FnOk P w g.K mg base (L2.CX P w) (k + 2) T.holds.f T.holds.fd ["_law_deed", "_law_reason", "_law_state"] (spD g 3 (f0_holds (k + 2))) := by
    exact fn_ok (fb := b_holds k) (nn := 10) T.holds.fn sc_holds rfl rfl fun cdv A outer s H E X hX hr hx tk hp => by
      subst hX
      have hu := hr.units
      have hu2 := hr.units65
      exact (ds_cons (ds_set (i := 3) sc_holds.nd rfl (by first | exact Or.inl rfl | exact Or.inr rfl) (de_tup (da_cons de_str (da_cons de_str (da_cons (de_tup (da_cons de_str (da_cons de_str da_nil))) (da_cons (de_tup da_nil) da_nil))))))
    (ds_cons (ds_set (i := 4) sc_holds.nd rfl (by first | exact Or.inl rfl | exact Or.inr rfl) (de_if (dt_cmp (od_eq4 rfl hu2) (de_ix (xd_ix3 rfl hu) (de_var 0) de_int) de_str (nomark _)) (de_tup (da_cons de_int (da_cons de_str (da_cons de_int da_nil)))) (de_tup (da_cons de_int da_nil))))
    (ds_cons (ds_set (i := 5) sc_holds.nd rfl (by first | exact Or.inl rfl | exact Or.inr rfl) (de_callD (dd := [.non]) (ok_run T (k + 1)) hr rfl T.run.mgx T.run.fn.kp T.run.bd T.run.bv (fun m H => rvs_nons ["arguments"]) hx (da_cons (de_tup (da_cons (de_var 3) (da_cons (de_var 0) da_nil))) (da_cons (de_var 2) da_nil))))
    (ds_cons (ds_if (PW.pt (dw_or (dt_cmp (od_ne4 rfl hu2) (de_prop T.c_Trace T.Trace_ending rfl (ok_Trace_ending T k) hr (de_var 5)) (de_tup (da_cons de_str (da_cons (de_var 1) da_nil))) (nomark _)) (dw_or1 (dt_cmp (od_ne4 rfl hu2) (de_lcA (own := [("_law_step", 7)]) rfl sc_holds.nd rfl (dA_keys rfl (de_prop T.c_Trace T.Trace_steps rfl (ok_Trace_steps T k) hr (de_var 5))) (blkOk_by (N := N_holds) (sc := defScope s_holds) (by decide +kernel)) (fun _ _ _ _ _ => (dg_name (i := 7) sc_holds.nd rfl (by first | exact Or.inl rfl | exact Or.inr rfl) (wp_nm (by decide)))) (fun _ _ _ _ _ => dts_nil) (fun _ _ _ _ _ => (de_ix (xd_ix3 rfl hu) (de_var 7) de_int))) (de_lst (da_cons (de_var 4) da_nil)) (nomark _)))))
      (ds_one (ds_ret de_bl))
      ds_nil)
    (ds_cons (ds_if (PW.pt (dw_or (dt_cmp (od_ne4 rfl hu2) (de_ix (xd_ix3 rfl hu) (de_ix (xd_ix3 rfl hu) (de_prop T.c_Trace T.Trace_steps rfl (ok_Trace_steps T k) hr (de_var 5)) de_int) de_int) (de_tup (da_cons de_str (da_cons (de_var 1) da_nil))) (nomark _)) (dw_or1 (dt_cmp (od_ne4 rfl hu2) (de_prop T.c_Trace T.Trace_effect rfl (ok_Trace_effect T k) hr (de_var 5)) de_dict0 (nomark _)))))
      (ds_one (ds_ret de_bl))
      ds_nil)
    (ds_cons (ds_if (dt_cmp (od_ne4 rfl hu2) (de_lcA (own := [("_law_what", 8), ("_law_worth", 9)]) rfl sc_holds.nd rfl (dA_keys rfl (de_ix (xd_ix3 rfl hu) (de_ix (xd_ix3 rfl hu) (de_prop T.c_Trace T.Trace_steps rfl (ok_Trace_steps T k) hr (de_var 5)) de_int) de_int)) (blkOk_by (N := N_holds) (sc := defScope s_holds) (by decide +kernel)) (fun _ _ _ _ _ => (dg_tup (n := 2) rfl rfl (dgs_cons (fun _ _ _ p q => Eq.trans q p) (dg_name (i := 8) sc_holds.nd rfl (by first | exact Or.inl rfl | exact Or.inr rfl) (wp_nm (by decide))) (dgs_cons (fun _ _ _ p q => Eq.trans q p) (dg_name (i := 9) sc_holds.nd rfl (by first | exact Or.inl rfl | exact Or.inr rfl) (wp_nm (by decide))) (dgs_nil (fun _ => rfl)))))) (fun _ _ _ _ _ => (dts_one (dt_cmp (od_ne4 rfl hu2) (de_ix (xd_ix3 rfl hu) (de_var 8) de_int) de_str (nomark _)))) (fun _ _ _ _ _ => (de_var 8))) (de_lst da_nil) (nomark _))
      (ds_one (ds_ret de_bl))
      ds_nil)
    (ds_cons (ds_set (i := 6) sc_holds.nd rfl (by first | exact Or.inl rfl | exact Or.inr rfl) (de_tup (da_cons (de_var 3) (da_cons (de_tup (da_cons de_str (da_cons (de_tup (da_cons (de_var 0) da_nil)) (da_cons (de_tup (da_cons (de_tup (da_cons de_str (da_cons (de_tup (da_cons de_str (da_cons de_str da_nil))) (da_cons (de_tup (da_cons de_str (da_cons de_int da_nil))) da_nil)))) da_nil)) da_nil)))) da_nil))))
    (ds_one (ds_ret (de_cmp (od_eq4 rfl hu2) (de_prop T.c_Trace T.Trace_effect rfl (ok_Trace_effect T k) hr (de_callD (dd := [.non]) (ok_run T (k + 1)) hr rfl T.run.mgx T.run.fn.kp T.run.bd T.run.bv (fun m H => rvs_nons ["arguments"]) hx (da_cons (de_var 6) (da_cons (de_var 2) da_nil)))) (de_disp (mu := false) (pps_cons de_str de_int pps_nil) rfl rfl (by simp) (by decide)) (nomark _)))))))))))
theorem ok0_holds (T : Tx g w mg) : ∀ k, FnOk P w g.K mg base (L2.CX P w) k T.holds.f T.holds.fd ["_law_deed", "_law_reason", "_law_state"] (spD g 3 (f0_holds k))
  | 0 => fn_bad
  | 1 => fn_bad
  | k + 2 => st_holds T k
theorem ok_holds (T : Tx g w mg) (k : Nat) : FnOk P w g.K mg base (L2.CX P w) k T.holds.f T.holds.fd ["_law_deed", "_law_reason", "_law_state"] (spD g 3 (f_holds k)) := fn_close T.tj (ok0_holds T k)
theorem st_deeds (T : Tx g w mg) (k : Nat) : FnOk P w g.K mg base (L2.CX P w) (k + 2) T.deeds.f T.deeds.fd ["_law_bad_here", "_law_good"] (spD g 2 (f_deeds (k + 2))) := by
    exact fn_ok (fb := b_deeds k) (nn := 3) T.deeds.fn sc_deeds rfl rfl fun cdv A outer s H E X hX hr hx tk hp => by
      subst hX
      have hu := hr.units
      have hu2 := hr.units65
      exact (ds_cons (ds_set (i := 2) sc_deeds.nd rfl (by first | exact Or.inl rfl | exact Or.inr rfl) (de_lst (da_cons (de_tup (da_cons de_str (da_cons de_str (da_cons (de_var 0) da_nil)))) (da_cons (de_tup (da_cons de_str (da_cons de_str (da_cons (de_var 0) da_nil)))) (da_cons (de_tup (da_cons de_str (da_cons (de_var 0) (da_cons (de_var 1) da_nil)))) (da_cons (de_tup (da_cons de_str (da_cons (de_tup (da_cons de_str (da_cons de_str da_nil))) (da_cons (de_var 0) da_nil)))) da_nil))))))
    (ds_cons (ds_set (i := 2) sc_deeds.nd rfl (by first | exact Or.inl rfl | exact Or.inr rfl) (de_op (od_add rfl) (de_var 2) (de_lst (da_cons (de_tup (da_cons de_str (da_cons (de_tup (da_cons de_str (da_cons de_int da_nil))) (da_cons (de_var 0) da_nil)))) (da_cons (de_tup (da_cons de_str (da_cons (de_var 0) da_nil))) (da_cons (de_tup (da_cons de_str (da_cons (de_var 0) (da_cons (de_tup da_nil) (da_cons (de_tup da_nil) da_nil))))) (da_cons (de_tup (da_cons de_str (da_cons de_str (da_cons (de_var 0) (da_cons (de_tup da_nil) da_nil))))) da_nil)))))))
    (ds_cons (ds_set (i := 2) sc_deeds.nd rfl (by first | exact Or.inl rfl | exact Or.inr rfl) (de_op (od_add rfl) (de_var 2) (de_lst (da_cons (de_tup (da_cons de_str (da_cons de_str (da_cons (de_var 0) (da_cons (de_tup da_nil) da_nil))))) (da_cons (de_tup (da_cons de_str (da_cons (de_var 0) (da_cons (de_tup da_nil) da_nil)))) (da_cons (de_tup (da_cons de_str (da_cons de_str (da_cons de_str (da_cons (de_tup (da_cons (de_var 1) (da_cons (de_var 0) da_nil))) da_nil))))) (da_cons (de_tup (da_cons de_str (da_cons (de_var 0) da_nil))) da_nil)))))))
    (ds_one (ds_ret (de_op (od_add rfl) (de_var 2) (de_lst (da_cons (de_tup (da_cons de_str (da_cons (de_var 0) da_nil))) (da_cons (de_tup (da_cons de_str (da_cons de_str (da_cons de_str (da_cons (de_tup (da_cons (de_var 0) (da_cons (de_tup (da_cons de_str (da_cons de_str da_nil))) da_nil))) da_nil))))) da_nil)))))))))
theorem ok_deeds (T : Tx g w mg) : ∀ k, FnOk P w g.K mg base (L2.CX P w) k T.deeds.f T.deeds.fd ["_law_bad_here", "_law_good"] (spD g 2 (f_deeds k))
  | 0 => fn_bad
  | 1 => fn_bad
  | k + 2 => st_deeds T k
theorem st_draw (T : Tx g w mg) (k : Nat) : FnOk P w g.K mg base (L2.CX P w) (k + 2) T.draw.f T.draw.fd ["_law_pool_here", "_law_many"] (spD g 2 (f_draw (k + 2))) := by
    exact fn_ok (fb := b_draw k) (nn := 3) T.draw.fn sc_draw rfl rfl fun cdv A outer s H E X hX hr hx tk hp => by
      subst hX
      have hu := hr.units
      have hu2 := hr.units65
      exact (ds_cons (ds_if (dt_cmp od_gt (de_ix (xd_ix3 rfl hu) (de_var 0) de_int) de_int (nomark _))
      (ds_cons (ds_set (i := 2) sc_draw.nd rfl (by first | exact Or.inl rfl | exact Or.inr rfl) (de_op (od_mod) (de_ix (xd_ix3 rfl hu) (de_var 0) de_int) (de_var 1)))
    (ds_cons (ds_asg (de_op (od_fdiv2) (de_ix (xd_ix3 rfl hu) (de_var 0) de_int) (de_var 1)) (dg_ix (fun _ => trivial) (de_var 0) de_int (sd_set3 hu)))
    (ds_one (ds_ret (de_var 2)))))
      ds_nil)
    (ds_cons (ds_asg (de_op (od_mod) (de_op (od_add rfl) (de_op (od_mul2 rfl) (de_ix (xd_ix3 rfl hu) (de_var 0) de_int) de_int) de_int) de_int) (dg_ix (fun _ => trivial) (de_var 0) de_int (sd_set3 hu)))
    (ds_one (ds_ret (de_op (od_mod) (de_op (od_fdiv2) (de_op (od_mod) (de_op (od_mul2 rfl) (de_ix (xd_ix3 rfl hu) (de_var 0) de_int) (de_ix (xd_ix3 rfl hu) (de_var 0) de_int)) de_int) de_int) (de_var 1))))))
theorem ok_draw (T : Tx g w mg) : ∀ k, FnOk P w g.K mg base (L2.CX P w) k T.draw.f T.draw.fd ["_law_pool_here", "_law_many"] (spD g 2 (f_draw k))
  | 0 => fn_bad
  | 1 => fn_bad
  | k + 2 => st_draw T k
theorem st_bad (T : Tx g w mg) (k : Nat) : FnOk P w g.K mg base (L2.CX P w) (k + 2) T.bad.f T.bad.fd ["_law_pool_here"] (spD g 1 (f_bad (k + 2))) := by
    exact fn_ok (fb := b_bad k) (nn := 2) T.bad.fn sc_bad rfl rfl fun cdv A outer s H E X hX hr hx tk hp => by
      subst hX
      have hu := hr.units
      have hu2 := hr.units65
      exact (ds_cons (ds_set (i := 1) sc_bad.nd rfl (by first | exact Or.inl rfl | exact Or.inr rfl) (de_lst (da_cons (de_tup (da_cons (de_tup (da_cons de_str (da_cons de_str da_nil))) (da_cons de_str da_nil))) (da_cons (de_tup (da_cons (de_tup (da_cons de_str (da_cons (de_tup (da_cons de_str (da_cons de_int da_nil))) (da_cons (de_tup (da_cons de_str (da_cons de_int da_nil))) da_nil)))) (da_cons de_str da_nil))) da_nil))))
    (ds_cons (ds_set (i := 1) sc_bad.nd rfl (by first | exact Or.inl rfl | exact Or.inr rfl) (de_op (od_add rfl) (de_var 1) (de_lst (da_cons (de_tup (da_cons (de_tup (da_cons de_str (da_cons (de_tup (da_cons de_str (da_cons (de_tup da_nil) da_nil))) (da_cons (de_tup (da_cons de_str (da_cons de_int da_nil))) da_nil)))) (da_cons de_str da_nil))) da_nil))))
    (ds_cons (ds_set (i := 1) sc_bad.nd rfl (by first | exact Or.inl rfl | exact Or.inr rfl) (de_op (od_add rfl) (de_var 1) (de_lst (da_cons (de_tup (da_cons (de_tup (da_cons de_str (da_cons (de_tup (da_cons de_str (da_cons de_str da_nil))) (da_cons (de_tup (da_cons de_str (da_cons de_int da_nil))) da_nil)))) (da_cons de_str da_nil))) (da_cons (de_tup (da_cons (de_tup (da_cons de_str (da_cons (de_tup (da_cons de_str (da_cons de_int da_nil))) da_nil))) (da_cons de_str da_nil))) da_nil)))))
    (ds_cons (ds_set (i := 1) sc_bad.nd rfl (by first | exact Or.inl rfl | exact Or.inr rfl) (de_op (od_add rfl) (de_var 1) (de_lst (da_cons (de_tup (da_cons (de_tup (da_cons de_str (da_cons (de_tup (da_cons de_str (da_cons (de_op (od_pow) de_int de_int) da_nil))) (da_cons (de_tup (da_cons de_str (da_cons (de_op (od_pow) de_int de_int) da_nil))) da_nil)))) (da_cons de_str da_nil))) da_nil))))
    (ds_one (ds_ret (de_ix (xd_ix3 rfl hu) (de_var 1) (de_call (ok_draw T (k + 1)) hr rfl T.draw.mgx T.draw.fn.kp T.draw.bn hx (da_cons (de_var 0) (da_cons de_int da_nil))))))))))
theorem ok_bad (T : Tx g w mg) : ∀ k, FnOk P w g.K mg base (L2.CX P w) k T.bad.f T.bad.fd ["_law_pool_here"] (spD g 1 (f_bad k))
  | 0 => fn_bad
  | 1 => fn_bad
  | k + 2 => st_bad T k
theorem st_pool (T : Tx g w mg) (k : Nat) : FnOk P w g.K mg base (L2.CX P w) (k + 2) T.pool.f T.pool.fd ["_law_script", "_law_k"] (spD g 2 (f_pool (k + 2))) := by
    exact fn_ok (fb := b_pool k) (nn := 5) T.pool.fn sc_pool rfl rfl fun cdv A outer s H E X hX hr hx tk hp => by
      subst hX
      have hu := hr.units
      have hu2 := hr.units65
      exact (ds_cons (ds_set (i := 2) sc_pool.nd rfl (by first | exact Or.inl rfl | exact Or.inr rfl) (de_op (od_add rfl) (de_op (od_mul2 rfl) de_int (de_callB (cd_sum2 rfl rfl) rfl T.m_sum bt_sum (da_cons (de_sl rfl (de_var 0) dp_none (dp_some de_int)) da_nil))) (de_var 1)))
    (ds_cons (ds_if (dt_cmp od_lt (de_var 1) (de_callB (cd_len2 rfl) rfl T.m_len bt_len (da_cons (de_var 0) da_nil)) (nomark _))
      (ds_one (ds_set (i := 2) sc_pool.nd rfl (by first | exact Or.inl rfl | exact Or.inr rfl) (de_ix (xd_ix3 rfl hu) (de_var 0) (de_var 1))))
      ds_nil)
    (ds_cons (ds_set (i := 3) sc_pool.nd rfl (by first | exact Or.inl rfl | exact Or.inr rfl) (de_callB (cd_abs) rfl T.m_abs bt_abs (da_cons (de_var 2) da_nil)))
    (ds_cons (ds_set (i := 4) sc_pool.nd rfl (by first | exact Or.inl rfl | exact Or.inr rfl) (de_op (od_mod) (de_op (od_mul2 rfl) (de_op (od_add rfl) (de_op (od_add rfl) (de_op (od_add rfl) (de_op (od_mod) (de_var 3) de_int) (de_op (od_mul2 rfl) (de_op (od_mul2 rfl) de_int (de_var 1)) (de_var 1))) (de_op (od_mul2 rfl) de_int (de_var 1))) de_int) de_int) de_int))
    (ds_one (ds_ret (de_lstM (da_cons (de_op (od_mul2 rfl) (de_var 3) (de_callTy (cd_int) rfl T.m_int bt_int (da_cons (de_cmp od_ge (de_var 3) (de_op (od_pow) de_int de_int) (nomark _)) da_nil))) (da_cons (de_op (od_mod) (de_op (od_mul2 rfl) (de_var 4) (de_var 4)) de_int) da_nil)))))))))
theorem ok_pool (T : Tx g w mg) : ∀ k, FnOk P w g.K mg base (L2.CX P w) k T.pool.f T.pool.fd ["_law_script", "_law_k"] (spD g 2 (f_pool k))
  | 0 => fn_bad
  | 1 => fn_bad
  | k + 2 => st_pool T k
theorem st_law (T : Tx g w mg) (k : Nat) : FnOk P w g.K mg base (L2.CX P w) (k + 2) T.law.f T.law.fd ["_law_script"] (spD g 1 (f_law (k + 2))) := by
    exact fn_ok (fb := b_law k) (nn := 12) T.law.fn sc_law rfl rfl fun cdv A outer s H E X hX hr hx tk hp => by
      subst hX
      have hu := hr.units
      have hu2 := hr.units65
      exact (ds_cons (ds_for hp rfl (di_rng1 rfl T.m_range (da_cons (de_callB (cd_max2 rfl) rfl T.m_max bt_max (da_cons de_int (da_cons (de_callB (cd_min2 rfl) rfl T.m_min bt_min (da_cons (de_callB (cd_len2 rfl) rfl T.m_len bt_len (da_cons (de_var 0) da_nil)) (da_cons de_int da_nil))) da_nil))) da_nil)) (dg_name (i := 1) sc_law.nd rfl (by first | exact Or.inl rfl | exact Or.inr rfl) (fun _ _ => trivial))
      (ds_cons (ds_set (i := 2) sc_law.nd rfl (by first | exact Or.inl rfl | exact Or.inr rfl) (de_call (ok_pool T (k + 1)) hr rfl T.pool.mgx T.pool.fn.kp T.pool.bn hx (da_cons (de_var 0) (da_cons (de_var 1) da_nil))))
    (ds_cons (ds_par (i := 3) (j := 4) rfl sc_law.nd rfl rfl (by decide) rfl rfl (da_cons (de_disp (mu := false) (pps_cons de_str de_int (pps_cons de_str de_int pps_nil)) rfl rfl (by simp) (by decide)) (da_cons (de_tup (da_cons de_str (da_cons (de_call (ok_draw T (k + 1)) hr rfl T.draw.mgx T.draw.fn.kp T.draw.bn hx (da_cons (de_var 2) (da_cons de_int da_nil))) da_nil))) da_nil)) rfl)
    (ds_cons (ds_for hp rfl (di_rng1 rfl T.m_range (da_cons de_int da_nil)) (dg_name (i := 5) sc_law.nd rfl (by first | exact Or.inl rfl | exact Or.inr rfl) (fun _ _ => trivial))
      (ds_cons (ds_asg (de_call (ok_bad T (k + 1)) hr rfl T.bad.mgx T.bad.fn.kp T.bad.bn hx (da_cons (de_var 2) da_nil)) (dg_tup2 (n := 2) rfl rfl (dgs_cons (fun _ _ _ _ _ => trivial) (dg_name (i := 6) sc_law.nd rfl (by first | exact Or.inl rfl | exact Or.inr rfl) (fun _ _ => trivial)) (dgs_cons (fun _ _ _ _ _ => trivial) (dg_name (i := 7) sc_law.nd rfl (by first | exact Or.inl rfl | exact Or.inr rfl) (fun _ _ => trivial)) (dgs_nil (fun _ => trivial))))))
    (ds_one (ds_for hp rfl (PIA.v (dA_keys rfl (de_call (ok_deeds T (k + 1)) hr rfl T.deeds.mgx T.deeds.fn.kp T.deeds.bn hx (da_cons (de_var 6) (da_cons (de_var 4) da_nil))))) (dg_name (i := 8) sc_law.nd rfl (by first | exact Or.inl rfl | exact Or.inr rfl) (fun _ _ => trivial))
      (ds_one (ds_if (dt_not (dt_tru rfl (de_call (ok_holds T (k + 1)) hr rfl T.holds.mgx T.holds.fn.kp T.holds.bn hx (da_cons (de_var 8) (da_cons (de_var 7) (da_cons (de_var 3) da_nil))))))
      (ds_one (ds_ret de_bl))
      ds_nil))))))
    (ds_cons (ds_for hp rfl (PIA.v (dA_keys rfl (de_lst (da_cons de_int (da_cons (de_tup da_nil) (da_cons (de_tup (da_cons de_int (da_cons de_str da_nil))) (da_cons de_str da_nil))))))) (dg_name (i := 9) sc_law.nd rfl (by first | exact Or.inl rfl | exact Or.inr rfl) (fun _ _ => trivial))
      (ds_cons (ds_set (i := 10) sc_law.nd rfl (by first | exact Or.inl rfl | exact Or.inr rfl) (de_tup (da_cons de_str (da_cons (de_var 9) da_nil))))
    (ds_cons (ds_set (i := 11) sc_law.nd rfl (by first | exact Or.inl rfl | exact Or.inr rfl) (de_lst (da_cons (de_tup (da_cons de_str (da_cons de_str (da_cons (de_var 10) da_nil)))) (da_cons (de_tup (da_cons de_str (da_cons (de_var 10) (da_cons (de_var 4) da_nil)))) (da_cons (de_tup (da_cons de_str (da_cons (de_var 10) da_nil))) da_nil)))))
    (ds_cons (ds_set (i := 11) sc_law.nd rfl (by first | exact Or.inl rfl | exact Or.inr rfl) (de_op (od_add rfl) (de_var 11) (de_sl rfl (de_lst (da_cons (de_tup (da_cons de_str (da_cons (de_var 10) (da_cons (de_tup da_nil) (da_cons (de_tup da_nil) da_nil))))) (da_cons (de_tup (da_cons de_str (da_cons (de_var 10) (da_cons (de_tup da_nil) da_nil)))) da_nil))) (dp_some (de_op (od_mul2 rfl) (de_callTy (cd_int) rfl T.m_int bt_int (da_cons (de_cmp (od_eq4 rfl hu2) (de_var 9) de_int (nomark _)) da_nil)) de_int)) dp_none)))
    (ds_cons (ds_set (i := 11) sc_law.nd rfl (by first | exact Or.inl rfl | exact Or.inr rfl) (de_op (od_add rfl) (de_var 11) (de_ix (xd_ix3 rfl hu) (de_lst (da_cons (de_lst (da_cons (de_tup (da_cons de_str (da_cons de_str (da_cons (de_var 10) (da_cons (de_tup da_nil) da_nil))))) da_nil)) (da_cons (de_lst da_nil) da_nil))) (de_callTy (cd_int) rfl T.m_int bt_int (da_cons (de_isi .tuple rfl rfl T.m_isinstance rfl T.m_tuple bt_tuple (de_var 9)) da_nil)))))
    (ds_one (ds_for hp rfl (PIA.v (dA_keys rfl (de_op (od_add rfl) (de_var 11) (de_ix (xd_ix3 rfl hu) (de_lst (da_cons (de_lst (da_cons (de_tup (da_cons de_str (da_cons de_str (da_cons (de_var 10) (da_cons (de_tup da_nil) da_nil))))) da_nil)) (da_cons (de_lst da_nil) da_nil))) (de_callTy (cd_int) rfl T.m_int bt_int (da_cons (de_cmp (od_eq4 rfl hu2) (de_var 9) de_str (nomark _)) da_nil)))))) (dg_name (i := 8) sc_law.nd rfl (by first | exact Or.inl rfl | exact Or.inr rfl) (fun _ _ => trivial))
      (ds_one (ds_if (dt_not (dt_tru rfl (de_call (ok_holds T (k + 1)) hr rfl T.holds.mgx T.holds.fn.kp T.holds.bn hx (da_cons (de_var 8) (da_cons de_str (da_cons (de_var 3) da_nil))))))
      (ds_one (ds_ret de_bl))
      ds_nil)))))))))
    (ds_one (ds_for hp rfl (PIA.v (dA_keys rfl (de_lst (da_cons de_int (da_cons (de_tup da_nil) (da_cons de_str (da_cons de_str da_nil))))))) (dg_name (i := 9) sc_law.nd rfl (by first | exact Or.inl rfl | exact Or.inr rfl) (fun _ _ => trivial))
      (ds_cons (ds_if (dt_cmp (od_ne4 rfl hu2) (de_prop T.c_Trace T.Trace_ending rfl (ok_Trace_ending T k) hr (de_callD (dd := [.non]) (ok_run T (k + 1)) hr rfl T.run.mgx T.run.fn.kp T.run.bd T.run.bv (fun m H => rvs_nons ["arguments"]) hx (da_cons (de_tup (da_cons (de_tup (da_cons de_str (da_cons (de_tup (da_cons de_str (da_cons (de_var 9) da_nil))) da_nil))) da_nil)) (da_cons (de_var 3) da_nil)))) (de_tup (da_cons de_str (da_cons (de_var 9) da_nil))) (nomark _))
      (ds_one (ds_ret de_bl))
      ds_nil)
    (ds_one (ds_if (dt_cmp (od_ne4 rfl hu2) (de_prop T.c_Trace T.Trace_ending rfl (ok_Trace_ending T k) hr (de_callD (dd := [.non]) (ok_run T (k + 1)) hr rfl T.run.mgx T.run.fn.kp T.run.bd T.run.bv (fun m H => rvs_nons ["arguments"]) hx (da_cons (de_tup (da_cons (de_tup (da_cons de_str (da_cons (de_tup (da_cons de_str (da_cons (de_var 9) da_nil))) da_nil))) (da_cons (de_tup (da_cons de_str (da_cons (de_var 4) da_nil))) da_nil))) (da_cons (de_var 3) da_nil)))) (de_tup (da_cons de_str (da_cons (de_var 9) da_nil))) (nomark _))
      (ds_one (ds_ret de_bl))
      ds_nil))))))))))
    (ds_one (ds_ret de_bl)))
theorem ok_law (T : Tx g w mg) : ∀ k, FnOk P w g.K mg base (L2.CX P w) k T.law.f T.law.fd ["_law_script"] (spD g 1 (f_law k))
  | 0 => fn_bad
  | 1 => fn_bad
  | k + 2 => st_law T k
end
end K29

namespace K29
open PySem PySem.Spec PyProof.Rows L2 VL
def isT (r : R D) : Bool := match r with
  | .ok (.bl true) _ => true
  | _ => false
def st0 : D := .dic [.inr "x", .inr "ua"] [.int 1, .int 2]
def v (d : D) : D := .tup [.str "value", d]
/-- the drawn failing expressions, with their reasons -/
def bads : List (D × D) := [(.tup [.str "name", .str "none"], .str "name"), (.tup [.str "divide", v (.int 1), v (.int 0)], .str "zero"), (.tup [.str "item", v (.tup []), v (.int 0)], .str "range"),
  (.tup [.str "add", v (.str "a"), v (.int 1)], .str "kind"), (.tup [.str "size", v (.int 5)], .str "kind"), (.tup [.str "multiply", v (.int (10 ^ 40)), v (.int (10 ^ 40))], .str "size")]
def tp (x : Str) (ds : List D) : D := .tup (.str x :: ds)
def e0 : D := .tup []
def dl1 (b : D) : List D := [tp "let" [.str "a", b], tp "read" [.str "a", b]]
def dlw (b g : D) : List D := [tp "write" [b, g]]
def dl2 (b : D) : List D := [tp "write" [v (.str "x"), b], tp "write" [v (.int 5), b], tp "delete" [b], tp "if" [b, e0, e0], tp "each" [.str "a", b, e0], tp "scan" [.str "a", b, e0], tp "while" [b, e0]]
def dlc (b g : D) : List D := [tp "call" [.str "a", .str "f", .tup [g, b]]]
def dl3 (b : D) : List D := [tp "refuse" [b], tp "return" [b], tp "call" [.str "a", .str "f", .tup [b, .tup [.str "name", .str "none"]]]]
def hB (r d : D) : Bool := clo d && clo r && isT (f0_holds 29 [d, r, st0] [])
theorem deeds_eq (b g : D) (S : Sto) : f_deeds 29 [b, g] S = .ok (.lst (dl1 b ++ dlw b g ++ dl2 b ++ dlc b g ++ dl3 b)) S := by kernel_rfl
theorem chk1 : bads.all (fun b => (dl1 b.1 ++ dl2 b.1 ++ dl3 b.1).all (hB b.2)) = true := by decide +kernel
theorem chk2 : (List.range 9).all (fun g => bads.all (fun b => (dlw b.1 (v (.int g)) ++ dlc b.1 (v (.int g))).all (hB b.2))) = true := by decide +kernel
end K29

namespace K29
open PySem PySem.Spec PyProof.Rows L2 VL
theorem hB_ok {r d : D} {S : Sto} (h : hB r d = true) : f_holds 29 [d, r, st0] S = .ok (.bl true) S := by
  unfold hB at h
  obtain ⟨h1, h2⟩ := He.ba h
  obtain ⟨h3, h4⟩ := He.ba h1
  have hc : clos [d, r, st0] = true := by simp only [clos, h3, h4]; rfl
  unfold f_holds closeF
  rw [if_pos hc]
  unfold isT at h2
  split at h2
  · rename_i e
    rw [e]
    rfl
  · cases h2
theorem o_draw {k : Nat} {S : Sto} {i : Nat} {m : Int} {Q : D → Sto → Prop} (hk : 2 ≤ k) (hp : PoolOk S i) (h0 : 0 < m) (h1 : m < 18446744073709551616) (h : ∀ r S', 0 ≤ r → r < m → PoolOk S' i → Q (.int r) S') : Ok (f_draw k [.ref i, .int m] S) Q := by
  obtain ⟨j, rfl⟩ : ∃ j, k = j + 2 := ⟨k - 2, by omega⟩
  exact draw0 hp h0 h1 fun r o r0 r1 hp' => h r _ r0 r1 hp'
theorem o_pool {k : Nat} {ns : List Int} {S : Sto} {j : Int} {Q : D → Sto → Prop} (hk : 2 ≤ k) (hn : ns.length ≤ 63) (hb : ∀ z ∈ ns, Builtin.Int.intBits z ≤ 1048576) (h0 : 0 ≤ j) (h1 : j < 1000) (h : ∀ S', PoolOk S' S.length → Q (.ref S.length) S') : Ok (f_pool k [.scr ns, .int j] S) Q := by
  obtain ⟨i, rfl⟩ : ∃ i, k = i + 2 := ⟨k - 2, by omega⟩
  exact pool0 hn hb h0 h1 fun o hp => h _ hp
/-! the failing expressions -/
def badL : List D := bads.map fun b => .tup [b.1, b.2]
theorem o_bad {S : Sto} {p : Nat} {Q : D → Sto → Prop} (hp : PoolOk S p) (h : ∀ b ∈ bads, ∀ S', PoolOk S' p → Q (.tup [b.1, b.2]) S') : Ok (f_bad 29 [.ref p] S) Q := by
  have e : f_bad 29 [.ref p] S = ((((f_draw 28 [.ref p, .int 6] S).bind fun y S2 => ix3D (.lst badL) y S2).bind fun d S1 => R.ok (Fl.rt d) S1).bind fun f S' => match f with
    | .rt d => R.ok d S'
    | .nx _ => R.ok .non S'
    | _ => R.bad) := by kernel_rfl
  rw [e, Ok_bind, Ok_bind, Ok_bind]
  refine o_draw (by omega) hp (by decide) (by decide) fun r S' r0 r1 hp' => ?_
  obtain ⟨n, rfl⟩ := Int.eq_ofNat_of_zero_le r0
  have hn : n < bads.length := by have : bads.length = 6 := rfl; omega
  have hl : badL[n]? = some (.tup [bads[n].1, bads[n].2]) := by
    unfold badL
    rw [List.getElem?_map, List.getElem?_eq_getElem hn]
    rfl
  rw [ok_ix_lst (atI_nat hl)]
  simp only [Ok_ok]
  exact h _ (List.getElem_mem _) S' hp'
/-! the loops -/
def LL (ns : List Int) (a b c d e f g h i j k : Option D) : Lc := [some (.scr ns), a, b, c, d, e, f, g, h, i, j, k]
theorem l4 {ns : List Int} {a b e f h i j k : Option D} {g r : D} {ds : List D} {S : Sto} (hh : ∀ d ∈ ds, hB r d = true) :
    Ok (forL (fun _ => true) (gNm 8) (b_law_4 28) ds (LL ns a b (some st0) (some g) e f (some r) h i j k) S) fun fl S' => (∃ h', fl = .nx (LL ns a b (some st0) (some g) e f (some r) h' i j k)) ∧ S' = S := by
  refine for_inv (I := fun ds L S' => (∀ d ∈ ds, hB r d = true) ∧ (∃ h', L = LL ns a b (some st0) (some g) e f (some r) h' i j k) ∧ S' = S) (fun d ds L S' hI => ?_) (fun L S' hI => ⟨rfl, by obtain ⟨_, ⟨h', rfl⟩, rfl⟩ := hI; exact ⟨⟨h', rfl⟩, rfl⟩⟩) _ _ _ ⟨hh, ⟨h, rfl⟩, rfl⟩
  obtain ⟨h1, ⟨h', rfl⟩, rfl⟩ := hI
  refine ⟨rfl, ?_⟩
  have e : f_holds 29 [d, r, st0] S' = .ok (.bl true) S' := hB_ok (h1 d List.mem_cons_self)
  simp only [LL, ok_gNm, List.set_cons_zero, List.set_cons_succ, b_law_4, ok_sIf, ok_tNot1, ok_tTru, ok_eCall, ok_aCons, ok_aNil, ok_eVar, List.getElem?_cons_zero, List.getElem?_cons_succ, ari3, e, Ok_ok, ok_truD_bl, Bool.not_true, Bool.false_eq_true, if_false, ok_sNx]
  exact ⟨fun d' hd => h1 d' (List.mem_cons_of_mem _ hd), ⟨_, rfl⟩, trivial⟩
theorem l5 {ns : List Int} {a c5 c6 c7 c8 i j k : Option D} {p g : Nat} {S : Sto} (hp : PoolOk S p) (hg : g < 9) :
    Ok (b_law_5 28 (LL ns a (some (.ref p)) (some st0) (some (v (.int g))) c5 c6 c7 c8 i j k) S) fun fl S' => (∃ c6' c7' c8', fl = .nx (LL ns a (some (.ref p)) (some st0) (some (v (.int g))) c5 c6' c7' c8' i j k)) ∧ PoolOk S' p := by
  unfold b_law_5
  rw [ok_sSeq, ok_sAsg]
  simp only [LL, ok_eCall, ok_aCons, ok_aNil, ok_eVar, List.getElem?_cons_zero, List.getElem?_cons_succ, ari1]
  refine o_bad hp fun b hb S1 hp1 => ?_
  have e2 : ∀ (Q : Lc → Sto → Prop) (L : Lc), Ok (gTp2 2 (gCons2 (gNm 6) (gCons2 (gNm 7) gNil2)) (.tup [b.1, b.2]) L S1) Q = Q ((L.set 6 (some b.1)).set 7 (some b.2)) S1 := fun Q L => Ok_ok _ _
  rw [e2]
  simp only [List.set_cons_zero, List.set_cons_succ, ok_sFor, ok_wAk, ok_eCall, ok_aCons, ok_aNil, ok_eVar, List.getElem?_cons_zero, List.getElem?_cons_succ, ari2]
  rw [show (28 + 1 : Nat) = 29 from rfl, deeds_eq, Ok_ok]
  have e3 : ∀ ds : List D, wkA .keys (.lst ds) S1 = .ok ⟨ds, fun _ => true⟩ S1 := fun ds => rfl
  rw [e3, Ok_ok]
  have h1 := List.all_eq_true.mp (List.all_eq_true.mp chk1 b hb)
  have h2 := List.all_eq_true.mp (List.all_eq_true.mp (List.all_eq_true.mp chk2 g (List.mem_range.mpr hg)) b hb)
  refine (l4 (ns := ns) (a := a) (b := some (.ref p)) (g := v (.int g)) (e := c5) (f := some b.1) (r := b.2) (h := c8) (i := i) (j := j) (k := k) (ds := dl1 b.1 ++ dlw b.1 (v (.int g)) ++ dl2 b.1 ++ dlc b.1 (v (.int g)) ++ dl3 b.1) (S := S1) fun d hd => ?_).mono fun fl S' hf => ?_
  · simp only [List.mem_append] at hd h1 h2
    rcases hd with (((hd | hd) | hd) | hd) | hd
    · exact h1 d (.inl (.inl hd))
    · exact h2 d (.inl hd)
    · exact h1 d (.inl (.inr hd))
    · exact h2 d (.inr hd)
    · exact h1 d (.inr hd)
  · obtain ⟨⟨h', rfl⟩, rfl⟩ := hf
    exact ⟨⟨_, _, _, rfl⟩, hp1⟩

def ws : List D := [.int 5, .tup [], .tup [.int 1, .str "x"], .str ""]
def lastL (g : D) : List D := [tp "read" [.str "a", v (.str "")], tp "write" [v (.str ""), g], tp "delete" [v (.str "")], tp "if" [v (.str ""), e0, e0], tp "while" [v (.str ""), e0], tp "each" [.str "a", v (.str ""), e0]]
abbrev P2 (g : Nat) : Prop := ∀ (ns : List Int) (a b e f r h i j k : Option D) (S : Sto), forL (fun _ => true) (gNm 9) (b_law_3 28) ws (LL ns a b (some st0) (some (v (.int g))) e f r h i j k) S =
    .ok (.nx (LL ns a b (some st0) (some (v (.int g))) e f r (some (tp "each" [.str "a", v (.str ""), e0])) (some (.str "")) (some (v (.str ""))) (some (.lst (lastL (v (.int g))))))) S
theorem p2_0 : P2 0 := by intro ns a b e f r h i j k S; kernel_rfl
theorem p2_1 : P2 1 := by intro ns a b e f r h i j k S; kernel_rfl
theorem p2_2 : P2 2 := by intro ns a b e f r h i j k S; kernel_rfl
theorem p2_3 : P2 3 := by intro ns a b e f r h i j k S; kernel_rfl
theorem p2_4 : P2 4 := by intro ns a b e f r h i j k S; kernel_rfl
theorem p2_5 : P2 5 := by intro ns a b e f r h i j k S; kernel_rfl
theorem p2_6 : P2 6 := by intro ns a b e f r h i j k S; kernel_rfl
theorem p2_7 : P2 7 := by intro ns a b e f r h i j k S; kernel_rfl
theorem p2_8 : P2 8 := by intro ns a b e f r h i j k S; kernel_rfl
theorem p2 : ∀ g, g < 9 → P2 g
  | 0, _ => p2_0
  | 1, _ => p2_1
  | 2, _ => p2_2
  | 3, _ => p2_3
  | 4, _ => p2_4
  | 5, _ => p2_5
  | 6, _ => p2_6
  | 7, _ => p2_7
  | 8, _ => p2_8
  | n + 9, h => absurd h (by omega)
def vs : List D := [.int 5, .tup [], .str "", .str "x"]
abbrev P1 (g : Nat) : Prop := ∀ (ns : List Int) (a b e f r h i j k : Option D) (S : Sto), forL (fun _ => true) (gNm 9) (b_law_1 28) vs (LL ns a b (some st0) (some (v (.int g))) e f r h i j k) S =
    .ok (.nx (LL ns a b (some st0) (some (v (.int g))) e f r h (some (.str "x")) j k)) S
theorem p1_0 : P1 0 := by intro ns a b e f r h i j k S; kernel_rfl
theorem p1_1 : P1 1 := by intro ns a b e f r h i j k S; kernel_rfl
theorem p1_2 : P1 2 := by intro ns a b e f r h i j k S; kernel_rfl
theorem p1_3 : P1 3 := by intro ns a b e f r h i j k S; kernel_rfl
theorem p1_4 : P1 4 := by intro ns a b e f r h i j k S; kernel_rfl
theorem p1_5 : P1 5 := by intro ns a b e f r h i j k S; kernel_rfl
theorem p1_6 : P1 6 := by intro ns a b e f r h i j k S; kernel_rfl
theorem p1_7 : P1 7 := by intro ns a b e f r h i j k S; kernel_rfl
theorem p1_8 : P1 8 := by intro ns a b e f r h i j k S; kernel_rfl
theorem p1 : ∀ g, g < 9 → P1 g
  | 0, _ => p1_0
  | 1, _ => p1_1
  | 2, _ => p1_2
  | 3, _ => p1_3
  | 4, _ => p1_4
  | 5, _ => p1_5
  | 6, _ => p1_6
  | 7, _ => p1_7
  | 8, _ => p1_8
  | n + 9, h => absurd h (by omega)
theorem l6 {ns : List Int} {j : Int} {b c d e f g h i k l : Option D} {S : Sto} (hn : ns.length ≤ 63) (hb : ∀ z ∈ ns, Builtin.Int.intBits z ≤ 1048576) (h0 : 0 ≤ j) (h1 : j < 1000) :
    Ok (b_law_6 28 (LL ns (some (.int j)) b c d e f g h i k l) S) fun fl S' => ∃ a' b' c' d' e' f' g' h' i' k' l', fl = .nx (LL ns a' b' c' d' e' f' g' h' i' k' l') := by
  unfold b_law_6
  rw [ok_sSeq]
  simp only [LL, ok_sSet, ok_eCall, ok_aCons, ok_aNil, ok_eVar, List.getElem?_cons_zero, List.getElem?_cons_succ, ari2, List.set_cons_zero, List.set_cons_succ]
  refine o_pool (by omega) hn hb h0 h1 fun S1 hp => ?_
  try simp only
  generalize S.length = p at hp ⊢
  rw [ok_sSeq, ok_sPar2]
  simp only [ok_aCons, ok_aNil, ok_eTup, ok_eC, ok_eCall, ok_eVar, List.getElem?_cons_zero, List.getElem?_cons_succ, ari2]
  rw [show ∀ L : Lc, eDisp false [((eC (.str "x")), (eC (.int 1))), ((eC (.str "ua")), (eC (.int 2)))] L S1 = .ok st0 S1 from fun L => rfl, Ok_ok]
  refine o_draw (by omega) hp (by decide) (by decide) fun r S2 r0 r1 hp2 => ?_
  obtain ⟨n, rfl⟩ := Int.eq_ofNat_of_zero_le r0
  have hn9 : n < 9 := by omega
  refine ⟨by rw [sizeLine_eq]; simp, ?_⟩
  simp only [List.set_cons_zero, List.set_cons_succ]
  rw [ok_sSeq, ok_sFor]
  simp only [ok_wRng1, ok_aCons, ok_eC, ok_aNil]
  refine ⟨⟨by decide, by decide⟩, ?_⟩
  refine (for_inv (Q := fun fl S' => ∃ e' f' g' h', fl = .nx (LL ns (some (.int j)) (some (.ref p)) (some st0) (some (v (.int n))) e' f' g' h' i k l)) (I := fun ds L S' => PoolOk S' p ∧ ∃ e' f' g' h', L = LL ns (some (.int j)) (some (.ref p)) (some st0) (some (v (.int n))) e' f' g' h' i k l) (fun d' ds' L' S' h' => ?_) (fun L' S' h' => ?_) _ _ _ ⟨hp2, e, f, g, h, rfl⟩).mono fun fl S3 hf => ?_
  · obtain ⟨hp', x5, x6, x7, x8, rfl⟩ := h'
    refine ⟨rfl, ?_⟩
    simp only [LL, ok_gNm, List.set_cons_zero, List.set_cons_succ]
    refine (l5 hp' hn9).mono fun fl S2 hf => ?_
    obtain ⟨⟨y6, y7, y8, rfl⟩, hp2⟩ := hf
    exact ⟨hp2, _, y6, y7, y8, rfl⟩
  · obtain ⟨hp', x5, x6, x7, x8, rfl⟩ := h'
    exact ⟨rfl, x5, x6, x7, x8, rfl⟩
  · obtain ⟨y5, y6, y7, y8, rfl⟩ := hf
    simp only
    rw [ok_sSeq, ok_sFor, ok_wAk]
    have e1 : ∀ L : Lc, eLst (aCons (eC (.int 5)) (aCons (eTup aNil) (aCons (eTup (aCons (eC (.int 1)) (aCons (eC (.str "x")) aNil))) (aCons (eC (.str "")) aNil)))) L S3 = .ok (.lst ws) S3 := fun L => rfl
    have e3 : ∀ ds : List D, wkA .keys (.lst ds) S3 = .ok ⟨ds, fun _ => true⟩ S3 := fun ds => rfl
    rw [e1, Ok_ok, e3, Ok_ok, p2 n hn9, Ok_ok]
    simp only
    rw [ok_sFor, ok_wAk]
    have e4 : ∀ L : Lc, eLst (aCons (eC (.int 5)) (aCons (eTup aNil) (aCons (eC (.str "")) (aCons (eC (.str "x")) aNil)))) L S3 = .ok (.lst vs) S3 := fun L => rfl
    rw [e4, Ok_ok, e3, Ok_ok, p1 n hn9, Ok_ok]
    exact ⟨_, _, _, _, _, _, _, _, _, _, _, rfl⟩
theorem rng_mem {n : Nat} {d : D} (h : d ∈ rngL 0 n) : ∃ j : Int, d = .int j ∧ 0 ≤ j ∧ j < n := by
  unfold rngL at h
  obtain ⟨i, hi, rfl⟩ := List.mem_map.mp h
  have := List.mem_range.mp hi
  exact ⟨_, rfl, by omega, by omega⟩
theorem law_ok (ns : List Int) (hn : ns.length ≤ 63) (hb : ∀ z ∈ ns, Builtin.Int.intBits z ≤ 1048576) : Ok (f_law 30 [.scr ns] []) fun d _ => d = .bl true := by
  show Ok (dDef 12 (b_law 28) [.scr ns] []) _
  rw [ok_dDef]
  unfold b_law
  simp only [List.map_cons, List.map_nil, List.length_cons, List.length_nil, Nat.reduceSub, Nat.reduceAdd, List.replicate_succ, List.replicate_zero, List.cons_append, List.nil_append]
  rw [ok_sSeq, ok_sFor]
  simp only [ok_wRng1, ok_aCons, ok_eCall, ok_eC, ok_aNil, ok_eVar, List.getElem?_cons_zero]
  rw [show len2D [.scr ns] [] = .ok (.int ns.length) [] by simp [len2D, dicOf, lenD, lstOf], Ok_ok]
  simp only [min2D, max2D, Ok_ok]
  generalize hc : (if (if (8 : Int) < ns.length then (8 : Int) else ns.length) > 1 then (if (8 : Int) < ns.length then (8 : Int) else ns.length) else 1) = c
  have hc1 : 1 ≤ c ∧ c ≤ 8 := by
    rw [← hc]
    split <;> split <;> omega
  refine ⟨⟨by omega, by omega⟩, ?_⟩
  refine (for_inv (Q := fun fl S' => ∃ L, fl = .nx L) (I := fun ds L S => (∀ d ∈ ds, ∃ j : Int, d = .int j ∧ 0 ≤ j ∧ j < 1000) ∧ ∃ a b c d e f g h i j k, L = LL ns a b c d e f g h i j k) (fun d ds L S h => ?_) (fun L S h => ⟨rfl, L, rfl⟩) _ _ _ ⟨fun d hd => ?_, none, none, none, none, none, none, none, none, none, none, none, rfl⟩).mono fun fl S' hf => ?_
  · obtain ⟨hd, x1, x2, x3, x4, x5, x6, x7, x8, x9, x10, x11, rfl⟩ := h
    obtain ⟨j, rfl, j0, j1⟩ := hd d (by simp)
    refine ⟨rfl, ?_⟩
    simp only [LL, ok_gNm, List.set_cons_zero, List.set_cons_succ]
    refine (l6 hn hb j0 j1).mono fun fl S2 hf => ?_
    obtain ⟨a', b', c', d', e', f', g', h', i', k', l', rfl⟩ := hf
    exact ⟨fun d hd' => hd d (by simp [hd']), _, _, _, _, _, _, _, _, _, _, _, rfl⟩
  · obtain ⟨j, rfl, j0, j1⟩ := rng_mem hd
    exact ⟨j, rfl, j0, by omega⟩
  · obtain ⟨L, rfl⟩ := hf
    simp only [ok_sRet, ok_eC]
end K29

namespace K29
open PySem PySem.Spec PyProof.Rows L2 VL
def d_0 : He.DefD := ⟨("law", none), "__init__", "Trace.__init__", defArgs s_Trace___init__, defBody s_Trace___init__, defScope s_Trace___init__, [], []⟩
def d_1 : He.DefD := ⟨("law", none), "assign", "Runner.assign", defArgs s_Runner_assign, defBody s_Runner_assign, defScope s_Runner_assign, [], []⟩
def d_2 : He.DefD := ⟨("law", none), "blocks_of", "blocks_of", defArgs s_blocks_of, defBody s_blocks_of, defScope s_blocks_of, [], []⟩
def d_3 : He.DefD := ⟨("law", none), "write", "Runner.write", defArgs s_Runner_write, defBody s_Runner_write, defScope s_Runner_write, [], []⟩
def d_4 : He.DefD := ⟨("law", none), "add_step", "Runner.add_step", defArgs s_Runner_add_step, defBody s_Runner_add_step, defScope s_Runner_add_step, [], []⟩
def d_5 : He.DefD := ⟨("law", none), "is_integer", "is_integer", defArgs s_is_integer, defBody s_is_integer, defScope s_is_integer, [], []⟩
def d_6 : He.DefD := ⟨("law", none), "is_word", "is_word", defArgs s_is_word, defBody s_is_word, defScope s_is_word, [], []⟩
def d_7 : He.DefD := ⟨("law", none), "is_key", "is_key", defArgs s_is_key, defBody s_is_key, defScope s_is_key, [], []⟩
def d_8 : He.DefD := ⟨("law", none), "is_text", "is_text", defArgs s_is_text, defBody s_is_text, defScope s_is_text, [], []⟩
def d_9 : He.DefD := ⟨("law", none), "outcome_of", "outcome_of", defArgs s_outcome_of, defBody s_outcome_of, defScope s_outcome_of, [], []⟩
def d_10 : He.DefD := ⟨("law", none), "keys_with", "Runner.keys_with", defArgs s_Runner_keys_with, defBody s_Runner_keys_with, defScope s_Runner_keys_with, [], []⟩
def d_11 : He.DefD := ⟨("law", none), "value_under", "Runner.value_under", defArgs s_Runner_value_under, defBody s_Runner_value_under, defScope s_Runner_value_under, [], []⟩
def d_12 : He.DefD := ⟨("law", none), "perform", "Runner.perform", defArgs s_Runner_perform, defBody s_Runner_perform, defScope s_Runner_perform, [], []⟩
def d_13 : He.DefD := ⟨("law", none), "expressions_of", "expressions_of", defArgs s_expressions_of, defBody s_expressions_of, defScope s_expressions_of, [], []⟩
def d_14 : He.DefD := ⟨("law", none), "is_within_levels", "is_within_levels", defArgs s_is_within_levels, defBody s_is_within_levels, defScope s_is_within_levels, [], []⟩
def d_15 : He.DefD := ⟨("law", none), "size_within", "size_within", defArgs s_size_within, defBody s_size_within, defScope s_size_within, [], []⟩
def d_16 : He.DefD := ⟨("law", none), "is_value", "is_value", defArgs s_is_value, defBody s_is_value, defScope s_is_value, [], []⟩
def d_17 : He.DefD := ⟨("law", none), "failed", "failed", defArgs s_failed, defBody s_failed, defScope s_failed, [], []⟩
def d_18 : He.DefD := ⟨("law", none), "numeric_result", "numeric_result", defArgs s_numeric_result, defBody s_numeric_result, defScope s_numeric_result, [], []⟩
def d_19 : He.DefD := ⟨("law", none), "item_of", "item_of", defArgs s_item_of, defBody s_item_of, defScope s_item_of, [], []⟩
def d_20 : He.DefD := ⟨("law", none), "joined", "joined", defArgs s_joined, defBody s_joined, defScope s_joined, [], []⟩
def d_21 : He.DefD := ⟨("law", none), "are_equal", "are_equal", defArgs s_are_equal, defBody s_are_equal, defScope s_are_equal, [], []⟩
def d_22 : He.DefD := ⟨("law", none), "combined", "combined", defArgs s_combined, defBody s_combined, defScope s_combined, [], []⟩
def d_23 : He.DefD := ⟨("law", none), "result_of", "result_of", defArgs s_result_of, defBody s_result_of, defScope s_result_of, [], []⟩
def d_24 : He.DefD := ⟨("law", none), "unlike", "unlike", defArgs s_unlike, defBody s_unlike, defScope s_unlike, [], []⟩
def d_25 : He.DefD := ⟨("law", none), "names_within", "names_within", defArgs s_names_within, defBody s_names_within, defScope s_names_within, [], []⟩
def d_26 : He.DefD := ⟨("law", none), "names_of", "names_of", defArgs s_names_of, defBody s_names_of, defScope s_names_of, [], []⟩
def d_27 : He.DefD := ⟨("law", none), "do_step", "Runner.do_step", defArgs s_Runner_do_step, defBody s_Runner_do_step, defScope s_Runner_do_step, [], []⟩
def d_28 : He.DefD := ⟨("law", none), "run_block", "Runner.run_block", defArgs s_Runner_run_block, defBody s_Runner_run_block, defScope s_Runner_run_block, [], []⟩
def d_29 : He.DefD := ⟨("law", none), "run_statement", "Runner.run_statement", defArgs s_Runner_run_statement, defBody s_Runner_run_statement, defScope s_Runner_run_statement, [], []⟩
def d_30 : He.DefD := ⟨("law", none), "follow", "Runner.follow", defArgs s_Runner_follow, defBody s_Runner_follow, defScope s_Runner_follow, [], []⟩
def d_31 : He.DefD := ⟨("law", none), "run_loop", "Runner.run_loop", defArgs s_Runner_run_loop, defBody s_Runner_run_loop, defScope s_Runner_run_loop, [], []⟩
def d_32 : He.DefD := ⟨("law", none), "run_while", "Runner.run_while", defArgs s_Runner_run_while, defBody s_Runner_run_while, defScope s_Runner_run_while, [], []⟩
def d_33 : He.DefD := ⟨("law", none), "run_call", "Runner.run_call", defArgs s_Runner_run_call, defBody s_Runner_run_call, defScope s_Runner_run_call, [], []⟩
def d_34 : He.DefD := ⟨("law", none), "run_try", "Runner.run_try", defArgs s_Runner_run_try, defBody s_Runner_run_try, defScope s_Runner_run_try, [], []⟩
def d_35 : He.DefD := ⟨("law", none), "whole", "Runner.whole", defArgs s_Runner_whole, defBody s_Runner_whole, defScope s_Runner_whole, [], []⟩
def d_36 : He.DefD := ⟨("law", none), "__init__", "Runner.__init__", defArgs s_Runner___init__, defBody s_Runner___init__, defScope s_Runner___init__, [], []⟩
def d_37 : He.DefD := ⟨("law", none), "is_state", "is_state", defArgs s_is_state, defBody s_is_state, defScope s_is_state, [], []⟩
def d_38 : He.DefD := ⟨("law", none), "is_name", "is_name", defArgs s_is_name, defBody s_is_name, defScope s_is_name, [], []⟩
def d_39 : He.DefD := ⟨("law", none), "are_variables", "are_variables", defArgs s_are_variables, defBody s_are_variables, defScope s_are_variables, [], []⟩
def d_40 : He.DefD := ⟨("law", none), "check_arguments", "check_arguments", defArgs s_check_arguments, defBody s_check_arguments, defScope s_check_arguments, [], []⟩
def d_41 : He.DefD := ⟨("law", none), "check_state", "check_state", defArgs s_check_state, defBody s_check_state, defScope s_check_state, [], []⟩
def d_42 : He.DefD := ⟨("law", none), "is_deep_expression", "is_deep_expression", defArgs s_is_deep_expression, defBody s_is_deep_expression, defScope s_is_deep_expression, [], []⟩
def d_43 : He.DefD := ⟨("law", none), "is_expression", "is_expression", defArgs s_is_expression, defBody s_is_expression, defScope s_is_expression, [], []⟩
def d_44 : He.DefD := ⟨("law", none), "are_expressions", "are_expressions", defArgs s_are_expressions, defBody s_are_expressions, defScope s_are_expressions, [], []⟩
def d_45 : He.DefD := ⟨("law", none), "are_parameters", "are_parameters", defArgs s_are_parameters, defBody s_are_parameters, defScope s_are_parameters, [], []⟩
def d_46 : He.DefD := ⟨("law", none), "is_part", "is_part", defArgs s_is_part, defBody s_is_part, defScope s_is_part, [], []⟩
def d_47 : He.DefD := ⟨("law", none), "is_headed", "is_headed", defArgs s_is_headed, defBody s_is_headed, defScope s_is_headed, [], []⟩
def d_48 : He.DefD := ⟨("law", none), "is_allowed", "Survey.is_allowed", defArgs s_Survey_is_allowed, defBody s_Survey_is_allowed, defScope s_Survey_is_allowed, [], []⟩
def d_49 : He.DefD := ⟨("law", none), "visit", "Survey.visit", defArgs s_Survey_visit, defBody s_Survey_visit, defScope s_Survey_visit, [], []⟩
def d_50 : He.DefD := ⟨("law", none), "__init__", "Survey.__init__", defArgs s_Survey___init__, defBody s_Survey___init__, defScope s_Survey___init__, [], []⟩
def d_51 : He.DefD := ⟨("law", none), "surveyed", "surveyed", defArgs s_surveyed, defBody s_surveyed, defScope s_surveyed, [], []⟩
def d_52 : He.DefD := ⟨("law", none), "check_program", "check_program", defArgs s_check_program, defBody s_check_program, defScope s_check_program, [], []⟩
def d_53 : He.DefD := ⟨("law", none), "finished", "finished", defArgs s_finished, defBody s_finished, defScope s_finished, [], []⟩
def d_54 : He.DefD := ⟨("law", none), "run", "run", defArgs s_run, defBody s_run, defScope s_run, [], [("arguments", .non)]⟩
def d_55 : He.DefD := ⟨("law", none), "ending", "Trace.ending", defArgs s_Trace_ending, defBody s_Trace_ending, defScope s_Trace_ending, [], []⟩
def d_56 : He.DefD := ⟨("law", none), "effect", "Trace.effect", defArgs s_Trace_effect, defBody s_Trace_effect, defScope s_Trace_effect, [], []⟩
def d_57 : He.DefD := ⟨("law", none), "steps", "Trace.steps", defArgs s_Trace_steps, defBody s_Trace_steps, defScope s_Trace_steps, [], []⟩
def d_58 : He.DefD := ⟨("law", none), "_law_holds", "_law_holds", defArgs s_holds, defBody s_holds, defScope s_holds, [], []⟩
def d_59 : He.DefD := ⟨("law", none), "_law_deeds", "_law_deeds", defArgs s_deeds, defBody s_deeds, defScope s_deeds, [], []⟩
def d_60 : He.DefD := ⟨("law", none), "_law_draw", "_law_draw", defArgs s_draw, defBody s_draw, defScope s_draw, [], []⟩
def d_61 : He.DefD := ⟨("law", none), "_law_bad", "_law_bad", defArgs s_bad, defBody s_bad, defScope s_bad, [], []⟩
def d_62 : He.DefD := ⟨("law", none), "_law_pool", "_law_pool", defArgs s_pool, defBody s_pool, defScope s_pool, [], []⟩
def d_63 : He.DefD := ⟨("law", none), "law", "law", defArgs s_law, defBody s_law, defScope s_law, [], []⟩
def fn : List AtD := [(mAd "Trace" "__init__", d_0), (mAd "Runner" "assign", d_1), (gAd "blocks_of", d_2), (mAd "Runner" "write", d_3), (mAd "Runner" "add_step", d_4), (gAd "is_integer", d_5), (gAd "is_word", d_6), (gAd "is_key", d_7), (gAd "is_text", d_8), (gAd "outcome_of", d_9), (mAd "Runner" "keys_with", d_10), (mAd "Runner" "value_under", d_11), (mAd "Runner" "perform", d_12), (gAd "expressions_of", d_13), (gAd "is_within_levels", d_14), (gAd "size_within", d_15), (gAd "is_value", d_16), (gAd "failed", d_17), (gAd "numeric_result", d_18), (gAd "item_of", d_19), (gAd "joined", d_20), (gAd "are_equal", d_21), (gAd "combined", d_22), (gAd "result_of", d_23), (gAd "unlike", d_24), (gAd "names_within", d_25), (gAd "names_of", d_26), (mAd "Runner" "do_step", d_27), (mAd "Runner" "run_block", d_28), (mAd "Runner" "run_statement", d_29), (mAd "Runner" "follow", d_30), (mAd "Runner" "run_loop", d_31), (mAd "Runner" "run_while", d_32), (mAd "Runner" "run_call", d_33), (mAd "Runner" "run_try", d_34), (mAd "Runner" "whole", d_35), (mAd "Runner" "__init__", d_36), (gAd "is_state", d_37), (gAd "is_name", d_38), (gAd "are_variables", d_39), (gAd "check_arguments", d_40), (gAd "check_state", d_41), (gAd "is_deep_expression", d_42), (gAd "is_expression", d_43), (gAd "are_expressions", d_44), (gAd "are_parameters", d_45), (gAd "is_part", d_46), (gAd "is_headed", d_47), (mAd "Survey" "is_allowed", d_48), (mAd "Survey" "visit", d_49), (mAd "Survey" "__init__", d_50), (gAd "surveyed", d_51), (gAd "check_program", d_52), (gAd "finished", d_53), (gAd "run", d_54), (pAd "Trace" "ending", d_55), (pAd "Trace" "effect", d_56), (pAd "Trace" "steps", d_57), (gAd "_law_holds", d_58), (gAd "_law_deeds", d_59), (gAd "_law_draw", d_60), (gAd "_law_bad", d_61), (gAd "_law_pool", d_62), (gAd "law", d_63)]
def fa : List He.Fa := [.mkr "Trace", .meth "Runner" "assign", .glo "blocks_of", .meth "Runner" "write", .meth "Runner" "add_step", .glo "is_integer", .glo "is_word", .glo "is_key", .glo "is_text", .glo "outcome_of", .meth "Runner" "keys_with", .meth "Runner" "value_under", .meth "Runner" "perform", .glo "expressions_of", .glo "is_within_levels", .glo "size_within", .glo "is_value", .glo "failed", .glo "numeric_result", .glo "item_of", .glo "joined", .glo "are_equal", .glo "combined", .glo "result_of", .glo "unlike", .glo "names_within", .glo "names_of", .meth "Runner" "do_step", .meth "Runner" "run_block", .meth "Runner" "run_statement", .meth "Runner" "follow", .meth "Runner" "run_loop", .meth "Runner" "run_while", .meth "Runner" "run_call", .meth "Runner" "run_try", .meth "Runner" "whole", .mkr "Runner", .glo "is_state", .glo "is_name", .glo "are_variables", .glo "check_arguments", .glo "check_state", .glo "is_deep_expression", .glo "is_expression", .glo "are_expressions", .glo "are_parameters", .glo "is_part", .glo "is_headed", .meth "Survey" "is_allowed", .meth "Survey" "visit", .mkr "Survey", .glo "surveyed", .glo "check_program", .glo "finished", .glo "run", .glo "_law_holds", .glo "_law_deeds", .glo "_law_draw", .glo "_law_bad", .glo "_law_pool", .glo "law", .int "MAX_TEXT" (60), .str "SIGNS" "abcdefghijklmnopqrstuvwxyz0123456789", .str "STORE" "store", .int "MAX_INTEGER" (1000000000000000000000000000000000000000000000000000000000000), .int "MAX_ITEMS" (50), .int "MAX_LEVELS" (5), .int "MAX_STEPS" (1000), .str "ARGUMENT" "argument", .int "MAX_NAME" (12), .str "LETTERS" "abcdefghijklmnopqrstuvwxyz", .glo "PAIRS", .int "MAX_PARTS" (10), .int "MAX_DEPTH" (8), .int "MAX_PARAMETERS" (6), .int "MAX_BLOCKS" (6), .int "MAX_STATEMENTS" (100), .glo "WORDS", .glo "FORMS", .free "dict", .free "tuple", .free "list", .free "zip", .free "isinstance", .free "int", .free "bool", .free "str", .free "len", .free "all", .free "sorted", .free "sum", .free "enumerate", .free "range", .free "set", .free "abs", .free "min", .free "max"]
def ts : List (Str × List Str) := [("WORDS", kk_WORDS), ("FORMS", kk_FORMS)]
def exs (K : PySem.W.Frag) : List Bool := [clsB K "Trace" ["own_steps", "own_touches", "own_ending", "own_effect", "by_place"], clsB K "Runner" ["own_state", "variables", "sources", "writes", "writers", "procedures", "result_place", "done_steps", "step_sources", "touches"], clsB K "Survey" ["seen", "sizes"], propB K "Trace" "ending", propB K "Trace" "effect", propB K "Trace" "steps", He.tupB K "PAIRS" (List.map He.Dv.str ["add", "subtract", "multiply", "divide", "less", "equal", "join", "item"]), tabB K "WORDS" kk_WORDS kd_WORDS, tabB K "FORMS" kk_FORMS kd_FORMS]
def ex (K : PySem.W.Frag) : Bool := (exs K).all id
def cs : List (String × Str) := [("Trace", "Trace"), ("Runner", "Runner"), ("Survey", "Survey")]
def names0 : List PySem.Str := ["_wall", "RunError", "InvalidProgram", "InvalidState", "InvalidArguments", "InvalidCount", "LETTERS", "SIGNS", "MAX_TEXT", "MAX_ITEMS", "MAX_LEVELS", "MAX_NAME", "MAX_INTEGER", "is_integer", "is_word", "is_text", "is_within_levels", "size_within", "is_value", "is_key", "is_name", "is_state", "are_variables", "are_equal", "check_state", "check_arguments", "check_count", "MAX_DEPTH", "MAX_PARTS", "NUMERIC"]
def names1 : List PySem.Str := ["PAIRS", "is_deep_expression", "is_expression", "names_within", "unlike", "failed", "numeric_result", "joined", "item_of", "combined", "result_of", "MAX_STATEMENTS", "MAX_BLOCKS", "MAX_PARAMETERS", "FORMS", "WORDS", "are_parameters", "are_expressions", "is_part", "is_headed", "blocks_of", "expressions_of", "names_of", "Survey", "surveyed", "check_program", "MAX_STEPS", "STORE", "ARGUMENT", "is_place"]
def names2 : List PySem.Str := ["Trace", "Runner", "outcome_of", "finished", "run", "_law_pool", "_law_draw", "_law_bad", "_law_deeds", "_law_holds"]
def names : List PySem.Str := names0 ++ names1 ++ names2
abbrev R : PySem.W.OpenRow := PySem.W.OpenLaw.row PySem.Challenge.rw_mendedruns_k29_reasons_of_refusals
abbrev qv : Program := PySem.W.view R.prog [76]
abbrev hk : PySem.W.Hook := hookH 5 fa fn ts ex
def ob (s : PySem.W.SharedT) : AlH := obsHG 5 fa fn ts ex (HandSHeadRun.getT s)
theorem ob_eq (s : PySem.W.SharedT) : ob s = hk.obs s.abs := obsHG_eq (HandSHeadRun.getT_eq s)
theorem run_false (w : World) : HandSHeadRun.RunEq R qv hk ob 20000 names (w.withFollow "special-get-raises" false) := by
  intro os
  kernel_rfl
theorem run_true (w : World) : HandSHeadRun.RunEq R qv hk ob 20000 names (w.withFollow "special-get-raises" true) := by
  intro os
  kernel_rfl
theorem run (w : World) : HandSHeadRun.RunEq R qv hk ob 20000 names w := PySem.W.byRow2 "special-get-raises" (P := fun w => HandSHeadRun.RunEq R qv hk ob 20000 names w) run_false run_true w
theorem facts {P : Program} {w : World} {K : PySem.W.Frag} {h : Heap} {mg : Str → Option Value} {f : Addr} (X : K.In h) (G : h.Ns mainGlobals mg) (hfa : mg ("law" : Str) = some (.ref f)) (c : SaysH fa fn ts ex w K) :
    ∃ fd : FuncData, (∀ (s : Shared) (v : Value), BindsTo s fd ⟨[v], []⟩ [("_law_script", v)]) ∧ ∀ base : Heap, K.In base → base.Ns mainGlobals mg → FnOk P w K mg base (L2.CX P w) 30 f fd ["_law_script"] (spD (gS K cs) 1 (f_law 30)) := by
  have cx : ∀ (i : Nat) (b : Bool), (exs K)[i]? = some b → b = true := fun i b e => List.all_eq_true.mp c.x b (List.mem_of_getElem? e)
  obtain ⟨tc_Trace, hc_Trace⟩ := CT.of (cl := (gS K cs).cl) (c := "Trace") (x := "Trace") (fl := ["own_steps", "own_touches", "own_ending", "own_effect", "by_place"]) X G rfl (cx 0 _ rfl)
  obtain ⟨tc_Runner, hc_Runner⟩ := CT.of (cl := (gS K cs).cl) (c := "Runner") (x := "Runner") (fl := ["own_state", "variables", "sources", "writes", "writers", "procedures", "result_place", "done_steps", "step_sources", "touches"]) X G rfl (cx 1 _ rfl)
  obtain ⟨tc_Survey, hc_Survey⟩ := CT.of (cl := (gS K cs).cl) (c := "Survey") (x := "Survey") (fl := ["seen", "sizes"]) X G rfl (cx 2 _ rfl)
  obtain ⟨fd0, F0⟩ := c.def_ 0 (p := (mAd "Trace" "__init__", d_0)) rfl
  obtain ⟨t0⟩ := IT.of (x := "Trace") (q := "Trace.__init__") (st := s_Trace___init__) (ps := ["self", "steps", "touches", "ending", "effect"]) hc_Trace F0 (fun _ _ _ _ _ _ us hl => match us, hl with | [_, _, _, _, _], _ => rfl) (c.fact 0 rfl)
  obtain ⟨fd1, F1⟩ := c.def_ 1 (p := (mAd "Runner" "assign", d_1)) rfl
  obtain ⟨t1⟩ := MT.of (x := "Runner") (m := "assign") (q := "Runner.assign") (st := s_Runner_assign) (ps := ["self", "name", "value", "place"]) hc_Runner F1 (fun _ _ _ _ _ _ us hl => match us, hl with | [_, _, _, _], _ => rfl) (c.fact 1 rfl)
  obtain ⟨fd2, F2⟩ := c.def_ 2 (p := (gAd "blocks_of", d_2)) rfl
  obtain ⟨t2⟩ := FT.ofH (mg := mg) (x := "blocks_of") (st := s_blocks_of) (ps := ["statement"]) X G F2 (fun _ _ _ _ _ _ us hl => match us, hl with | [_], _ => rfl) (c.fact 2 rfl)
  obtain ⟨fd3, F3⟩ := c.def_ 3 (p := (mAd "Runner" "write", d_3)) rfl
  obtain ⟨t3⟩ := MT.of (x := "Runner") (m := "write") (q := "Runner.write") (st := s_Runner_write) (ps := ["self", "key", "value", "place"]) hc_Runner F3 (fun _ _ _ _ _ _ us hl => match us, hl with | [_, _, _, _], _ => rfl) (c.fact 3 rfl)
  obtain ⟨fd4, F4⟩ := c.def_ 4 (p := (mAd "Runner" "add_step", d_4)) rfl
  obtain ⟨t4⟩ := MT.of (x := "Runner") (m := "add_step") (q := "Runner.add_step") (st := s_Runner_add_step) (ps := ["self", "place", "inputs", "sources", "outcome", "touched"]) hc_Runner F4 (fun _ _ _ _ _ _ us hl => match us, hl with | [_, _, _, _, _, _], _ => rfl) (c.fact 4 rfl)
  obtain ⟨fd5, F5⟩ := c.def_ 5 (p := (gAd "is_integer", d_5)) rfl
  obtain ⟨t5⟩ := FT.ofH (mg := mg) (x := "is_integer") (st := s_is_integer) (ps := ["value"]) X G F5 (fun _ _ _ _ _ _ us hl => match us, hl with | [_], _ => rfl) (c.fact 5 rfl)
  obtain ⟨fd6, F6⟩ := c.def_ 6 (p := (gAd "is_word", d_6)) rfl
  obtain ⟨t6⟩ := FT.ofH (mg := mg) (x := "is_word") (st := s_is_word) (ps := ["value", "signs", "least", "most"]) X G F6 (fun _ _ _ _ _ _ us hl => match us, hl with | [_, _, _, _], _ => rfl) (c.fact 6 rfl)
  obtain ⟨fd7, F7⟩ := c.def_ 7 (p := (gAd "is_key", d_7)) rfl
  obtain ⟨t7⟩ := FT.ofH (mg := mg) (x := "is_key") (st := s_is_key) (ps := ["value"]) X G F7 (fun _ _ _ _ _ _ us hl => match us, hl with | [_], _ => rfl) (c.fact 7 rfl)
  obtain ⟨fd8, F8⟩ := c.def_ 8 (p := (gAd "is_text", d_8)) rfl
  obtain ⟨t8⟩ := FT.ofH (mg := mg) (x := "is_text") (st := s_is_text) (ps := ["value"]) X G F8 (fun _ _ _ _ _ _ us hl => match us, hl with | [_], _ => rfl) (c.fact 8 rfl)
  obtain ⟨fd9, F9⟩ := c.def_ 9 (p := (gAd "outcome_of", d_9)) rfl
  obtain ⟨t9⟩ := FT.ofH (mg := mg) (x := "outcome_of") (st := s_outcome_of) (ps := ["word", "values", "inputs"]) X G F9 (fun _ _ _ _ _ _ us hl => match us, hl with | [_, _, _], _ => rfl) (c.fact 9 rfl)
  obtain ⟨fd10, F10⟩ := c.def_ 10 (p := (mAd "Runner" "keys_with", d_10)) rfl
  obtain ⟨t10⟩ := MT.of (x := "Runner") (m := "keys_with") (q := "Runner.keys_with") (st := s_Runner_keys_with) (ps := ["self", "prefix"]) hc_Runner F10 (fun _ _ _ _ _ _ us hl => match us, hl with | [_, _], _ => rfl) (c.fact 10 rfl)
  obtain ⟨fd11, F11⟩ := c.def_ 11 (p := (mAd "Runner" "value_under", d_11)) rfl
  obtain ⟨t11⟩ := MT.of (x := "Runner") (m := "value_under") (q := "Runner.value_under") (st := s_Runner_value_under) (ps := ["self", "key"]) hc_Runner F11 (fun _ _ _ _ _ _ us hl => match us, hl with | [_, _], _ => rfl) (c.fact 11 rfl)
  obtain ⟨fd12, F12⟩ := c.def_ 12 (p := (mAd "Runner" "perform", d_12)) rfl
  obtain ⟨t12⟩ := MT.of (x := "Runner") (m := "perform") (q := "Runner.perform") (st := s_Runner_perform) (ps := ["self", "word", "place", "values", "inputs", "sources"]) hc_Runner F12 (fun _ _ _ _ _ _ us hl => match us, hl with | [_, _, _, _, _, _], _ => rfl) (c.fact 12 rfl)
  obtain ⟨fd13, F13⟩ := c.def_ 13 (p := (gAd "expressions_of", d_13)) rfl
  obtain ⟨t13⟩ := FT.ofH (mg := mg) (x := "expressions_of") (st := s_expressions_of) (ps := ["statement"]) X G F13 (fun _ _ _ _ _ _ us hl => match us, hl with | [_], _ => rfl) (c.fact 13 rfl)
  obtain ⟨fd14, F14⟩ := c.def_ 14 (p := (gAd "is_within_levels", d_14)) rfl
  obtain ⟨t14⟩ := FT.ofH (mg := mg) (x := "is_within_levels") (st := s_is_within_levels) (ps := ["value", "levels"]) X G F14 (fun _ _ _ _ _ _ us hl => match us, hl with | [_, _], _ => rfl) (c.fact 14 rfl)
  obtain ⟨fd15, F15⟩ := c.def_ 15 (p := (gAd "size_within", d_15)) rfl
  obtain ⟨t15⟩ := FT.ofH (mg := mg) (x := "size_within") (st := s_size_within) (ps := ["value"]) X G F15 (fun _ _ _ _ _ _ us hl => match us, hl with | [_], _ => rfl) (c.fact 15 rfl)
  obtain ⟨fd16, F16⟩ := c.def_ 16 (p := (gAd "is_value", d_16)) rfl
  obtain ⟨t16⟩ := FT.ofH (mg := mg) (x := "is_value") (st := s_is_value) (ps := ["value"]) X G F16 (fun _ _ _ _ _ _ us hl => match us, hl with | [_], _ => rfl) (c.fact 16 rfl)
  obtain ⟨fd17, F17⟩ := c.def_ 17 (p := (gAd "failed", d_17)) rfl
  obtain ⟨t17⟩ := FT.ofH (mg := mg) (x := "failed") (st := s_failed) (ps := ["reason"]) X G F17 (fun _ _ _ _ _ _ us hl => match us, hl with | [_], _ => rfl) (c.fact 17 rfl)
  obtain ⟨fd18, F18⟩ := c.def_ 18 (p := (gAd "numeric_result", d_18)) rfl
  obtain ⟨t18⟩ := FT.ofH (mg := mg) (x := "numeric_result") (st := s_numeric_result) (ps := ["word", "one", "other"]) X G F18 (fun _ _ _ _ _ _ us hl => match us, hl with | [_, _, _], _ => rfl) (c.fact 18 rfl)
  obtain ⟨fd19, F19⟩ := c.def_ 19 (p := (gAd "item_of", d_19)) rfl
  obtain ⟨t19⟩ := FT.ofH (mg := mg) (x := "item_of") (st := s_item_of) (ps := ["items", "index"]) X G F19 (fun _ _ _ _ _ _ us hl => match us, hl with | [_, _], _ => rfl) (c.fact 19 rfl)
  obtain ⟨fd20, F20⟩ := c.def_ 20 (p := (gAd "joined", d_20)) rfl
  obtain ⟨t20⟩ := FT.ofH (mg := mg) (x := "joined") (st := s_joined) (ps := ["one", "other"]) X G F20 (fun _ _ _ _ _ _ us hl => match us, hl with | [_, _], _ => rfl) (c.fact 20 rfl)
  obtain ⟨fd21, F21⟩ := c.def_ 21 (p := (gAd "are_equal", d_21)) rfl
  obtain ⟨t21⟩ := FT.ofH (mg := mg) (x := "are_equal") (st := s_are_equal) (ps := ["one", "other"]) X G F21 (fun _ _ _ _ _ _ us hl => match us, hl with | [_, _], _ => rfl) (c.fact 21 rfl)
  obtain ⟨fd22, F22⟩ := c.def_ 22 (p := (gAd "combined", d_22)) rfl
  obtain ⟨t22⟩ := FT.ofH (mg := mg) (x := "combined") (st := s_combined) (ps := ["word", "values"]) X G F22 (fun _ _ _ _ _ _ us hl => match us, hl with | [_, _], _ => rfl) (c.fact 22 rfl)
  obtain ⟨fd23, F23⟩ := c.def_ 23 (p := (gAd "result_of", d_23)) rfl
  obtain ⟨t23⟩ := FT.ofH (mg := mg) (x := "result_of") (st := s_result_of) (ps := ["expression", "variables"]) X G F23 (fun _ _ _ _ _ _ us hl => match us, hl with | [_, _], _ => rfl) (c.fact 23 rfl)
  obtain ⟨fd24, F24⟩ := c.def_ 24 (p := (gAd "unlike", d_24)) rfl
  obtain ⟨t24⟩ := FT.ofH (mg := mg) (x := "unlike") (st := s_unlike) (ps := ["names"]) X G F24 (fun _ _ _ _ _ _ us hl => match us, hl with | [_], _ => rfl) (c.fact 24 rfl)
  obtain ⟨fd25, F25⟩ := c.def_ 25 (p := (gAd "names_within", d_25)) rfl
  obtain ⟨t25⟩ := FT.ofH (mg := mg) (x := "names_within") (st := s_names_within) (ps := ["expression"]) X G F25 (fun _ _ _ _ _ _ us hl => match us, hl with | [_], _ => rfl) (c.fact 25 rfl)
  obtain ⟨fd26, F26⟩ := c.def_ 26 (p := (gAd "names_of", d_26)) rfl
  obtain ⟨t26⟩ := FT.ofH (mg := mg) (x := "names_of") (st := s_names_of) (ps := ["statement"]) X G F26 (fun _ _ _ _ _ _ us hl => match us, hl with | [_], _ => rfl) (c.fact 26 rfl)
  obtain ⟨fd27, F27⟩ := c.def_ 27 (p := (mAd "Runner" "do_step", d_27)) rfl
  obtain ⟨t27⟩ := MT.of (x := "Runner") (m := "do_step") (q := "Runner.do_step") (st := s_Runner_do_step) (ps := ["self", "statement", "place"]) hc_Runner F27 (fun _ _ _ _ _ _ us hl => match us, hl with | [_, _, _], _ => rfl) (c.fact 27 rfl)
  obtain ⟨fd28, F28⟩ := c.def_ 28 (p := (mAd "Runner" "run_block", d_28)) rfl
  obtain ⟨t28⟩ := MT.of (x := "Runner") (m := "run_block") (q := "Runner.run_block") (st := s_Runner_run_block) (ps := ["self", "block", "place"]) hc_Runner F28 (fun _ _ _ _ _ _ us hl => match us, hl with | [_, _, _], _ => rfl) (c.fact 28 rfl)
  obtain ⟨fd29, F29⟩ := c.def_ 29 (p := (mAd "Runner" "run_statement", d_29)) rfl
  obtain ⟨t29⟩ := MT.of (x := "Runner") (m := "run_statement") (q := "Runner.run_statement") (st := s_Runner_run_statement) (ps := ["self", "statement", "place"]) hc_Runner F29 (fun _ _ _ _ _ _ us hl => match us, hl with | [_, _, _], _ => rfl) (c.fact 29 rfl)
  obtain ⟨fd30, F30⟩ := c.def_ 30 (p := (mAd "Runner" "follow", d_30)) rfl
  obtain ⟨t30⟩ := MT.of (x := "Runner") (m := "follow") (q := "Runner.follow") (st := s_Runner_follow) (ps := ["self", "statement", "place", "value"]) hc_Runner F30 (fun _ _ _ _ _ _ us hl => match us, hl with | [_, _, _, _], _ => rfl) (c.fact 30 rfl)
  obtain ⟨fd31, F31⟩ := c.def_ 31 (p := (mAd "Runner" "run_loop", d_31)) rfl
  obtain ⟨t31⟩ := MT.of (x := "Runner") (m := "run_loop") (q := "Runner.run_loop") (st := s_Runner_run_loop) (ps := ["self", "statement", "place", "items"]) hc_Runner F31 (fun _ _ _ _ _ _ us hl => match us, hl with | [_, _, _, _], _ => rfl) (c.fact 31 rfl)
  obtain ⟨fd32, F32⟩ := c.def_ 32 (p := (mAd "Runner" "run_while", d_32)) rfl
  obtain ⟨t32⟩ := MT.of (x := "Runner") (m := "run_while") (q := "Runner.run_while") (st := s_Runner_run_while) (ps := ["self", "statement", "place"]) hc_Runner F32 (fun _ _ _ _ _ _ us hl => match us, hl with | [_, _, _], _ => rfl) (c.fact 32 rfl)
  obtain ⟨fd33, F33⟩ := c.def_ 33 (p := (mAd "Runner" "run_call", d_33)) rfl
  obtain ⟨t33⟩ := MT.of (x := "Runner") (m := "run_call") (q := "Runner.run_call") (st := s_Runner_run_call) (ps := ["self", "statement", "place", "values"]) hc_Runner F33 (fun _ _ _ _ _ _ us hl => match us, hl with | [_, _, _, _], _ => rfl) (c.fact 33 rfl)
  obtain ⟨fd34, F34⟩ := c.def_ 34 (p := (mAd "Runner" "run_try", d_34)) rfl
  obtain ⟨t34⟩ := MT.of (x := "Runner") (m := "run_try") (q := "Runner.run_try") (st := s_Runner_run_try) (ps := ["self", "statement", "place"]) hc_Runner F34 (fun _ _ _ _ _ _ us hl => match us, hl with | [_, _, _], _ => rfl) (c.fact 34 rfl)
  obtain ⟨fd35, F35⟩ := c.def_ 35 (p := (mAd "Runner" "whole", d_35)) rfl
  obtain ⟨t35⟩ := MT.of (x := "Runner") (m := "whole") (q := "Runner.whole") (st := s_Runner_whole) (ps := ["self", "program"]) hc_Runner F35 (fun _ _ _ _ _ _ us hl => match us, hl with | [_, _], _ => rfl) (c.fact 35 rfl)
  obtain ⟨fd36, F36⟩ := c.def_ 36 (p := (mAd "Runner" "__init__", d_36)) rfl
  obtain ⟨t36⟩ := IT.of (x := "Runner") (q := "Runner.__init__") (st := s_Runner___init__) (ps := ["self", "state", "arguments"]) hc_Runner F36 (fun _ _ _ _ _ _ us hl => match us, hl with | [_, _, _], _ => rfl) (c.fact 36 rfl)
  obtain ⟨fd37, F37⟩ := c.def_ 37 (p := (gAd "is_state", d_37)) rfl
  obtain ⟨t37⟩ := FT.ofH (mg := mg) (x := "is_state") (st := s_is_state) (ps := ["value"]) X G F37 (fun _ _ _ _ _ _ us hl => match us, hl with | [_], _ => rfl) (c.fact 37 rfl)
  obtain ⟨fd38, F38⟩ := c.def_ 38 (p := (gAd "is_name", d_38)) rfl
  obtain ⟨t38⟩ := FT.ofH (mg := mg) (x := "is_name") (st := s_is_name) (ps := ["value"]) X G F38 (fun _ _ _ _ _ _ us hl => match us, hl with | [_], _ => rfl) (c.fact 38 rfl)
  obtain ⟨fd39, F39⟩ := c.def_ 39 (p := (gAd "are_variables", d_39)) rfl
  obtain ⟨t39⟩ := FT.ofH (mg := mg) (x := "are_variables") (st := s_are_variables) (ps := ["value"]) X G F39 (fun _ _ _ _ _ _ us hl => match us, hl with | [_], _ => rfl) (c.fact 39 rfl)
  obtain ⟨fd40, F40⟩ := c.def_ 40 (p := (gAd "check_arguments", d_40)) rfl
  obtain ⟨t40⟩ := FT.ofH (mg := mg) (x := "check_arguments") (st := s_check_arguments) (ps := ["value"]) X G F40 (fun _ _ _ _ _ _ us hl => match us, hl with | [_], _ => rfl) (c.fact 40 rfl)
  obtain ⟨fd41, F41⟩ := c.def_ 41 (p := (gAd "check_state", d_41)) rfl
  obtain ⟨t41⟩ := FT.ofH (mg := mg) (x := "check_state") (st := s_check_state) (ps := ["value"]) X G F41 (fun _ _ _ _ _ _ us hl => match us, hl with | [_], _ => rfl) (c.fact 41 rfl)
  obtain ⟨fd42, F42⟩ := c.def_ 42 (p := (gAd "is_deep_expression", d_42)) rfl
  obtain ⟨t42⟩ := FT.ofH (mg := mg) (x := "is_deep_expression") (st := s_is_deep_expression) (ps := ["value", "depth"]) X G F42 (fun _ _ _ _ _ _ us hl => match us, hl with | [_, _], _ => rfl) (c.fact 42 rfl)
  obtain ⟨fd43, F43⟩ := c.def_ 43 (p := (gAd "is_expression", d_43)) rfl
  obtain ⟨t43⟩ := FT.ofH (mg := mg) (x := "is_expression") (st := s_is_expression) (ps := ["value"]) X G F43 (fun _ _ _ _ _ _ us hl => match us, hl with | [_], _ => rfl) (c.fact 43 rfl)
  obtain ⟨fd44, F44⟩ := c.def_ 44 (p := (gAd "are_expressions", d_44)) rfl
  obtain ⟨t44⟩ := FT.ofH (mg := mg) (x := "are_expressions") (st := s_are_expressions) (ps := ["value"]) X G F44 (fun _ _ _ _ _ _ us hl => match us, hl with | [_], _ => rfl) (c.fact 44 rfl)
  obtain ⟨fd45, F45⟩ := c.def_ 45 (p := (gAd "are_parameters", d_45)) rfl
  obtain ⟨t45⟩ := FT.ofH (mg := mg) (x := "are_parameters") (st := s_are_parameters) (ps := ["value"]) X G F45 (fun _ _ _ _ _ _ us hl => match us, hl with | [_], _ => rfl) (c.fact 45 rfl)
  obtain ⟨fd46, F46⟩ := c.def_ 46 (p := (gAd "is_part", d_46)) rfl
  obtain ⟨t46⟩ := FT.ofH (mg := mg) (x := "is_part") (st := s_is_part) (ps := ["kind", "value"]) X G F46 (fun _ _ _ _ _ _ us hl => match us, hl with | [_, _], _ => rfl) (c.fact 46 rfl)
  obtain ⟨fd47, F47⟩ := c.def_ 47 (p := (gAd "is_headed", d_47)) rfl
  obtain ⟨t47⟩ := FT.ofH (mg := mg) (x := "is_headed") (st := s_is_headed) (ps := ["value"]) X G F47 (fun _ _ _ _ _ _ us hl => match us, hl with | [_], _ => rfl) (c.fact 47 rfl)
  obtain ⟨fd48, F48⟩ := c.def_ 48 (p := (mAd "Survey" "is_allowed", d_48)) rfl
  obtain ⟨t48⟩ := MT.of (x := "Survey") (m := "is_allowed") (q := "Survey.is_allowed") (st := s_Survey_is_allowed) (ps := ["self", "statement", "depth"]) hc_Survey F48 (fun _ _ _ _ _ _ us hl => match us, hl with | [_, _, _], _ => rfl) (c.fact 48 rfl)
  obtain ⟨fd49, F49⟩ := c.def_ 49 (p := (mAd "Survey" "visit", d_49)) rfl
  obtain ⟨t49⟩ := MT.of (x := "Survey") (m := "visit") (q := "Survey.visit") (st := s_Survey_visit) (ps := ["self", "block", "place", "depth"]) hc_Survey F49 (fun _ _ _ _ _ _ us hl => match us, hl with | [_, _, _, _], _ => rfl) (c.fact 49 rfl)
  obtain ⟨fd50, F50⟩ := c.def_ 50 (p := (mAd "Survey" "__init__", d_50)) rfl
  obtain ⟨t50⟩ := IT.of (x := "Survey") (q := "Survey.__init__") (st := s_Survey___init__) (ps := ["self"]) hc_Survey F50 (fun _ _ _ _ _ _ us hl => match us, hl with | [_], _ => rfl) (c.fact 50 rfl)
  obtain ⟨fd51, F51⟩ := c.def_ 51 (p := (gAd "surveyed", d_51)) rfl
  obtain ⟨t51⟩ := FT.ofH (mg := mg) (x := "surveyed") (st := s_surveyed) (ps := ["program"]) X G F51 (fun _ _ _ _ _ _ us hl => match us, hl with | [_], _ => rfl) (c.fact 51 rfl)
  obtain ⟨fd52, F52⟩ := c.def_ 52 (p := (gAd "check_program", d_52)) rfl
  obtain ⟨t52⟩ := FT.ofH (mg := mg) (x := "check_program") (st := s_check_program) (ps := ["program"]) X G F52 (fun _ _ _ _ _ _ us hl => match us, hl with | [_], _ => rfl) (c.fact 52 rfl)
  obtain ⟨fd53, F53⟩ := c.def_ 53 (p := (gAd "finished", d_53)) rfl
  obtain ⟨t53⟩ := FT.ofH (mg := mg) (x := "finished") (st := s_finished) (ps := ["program", "state", "arguments"]) X G F53 (fun _ _ _ _ _ _ us hl => match us, hl with | [_, _, _], _ => rfl) (c.fact 53 rfl)
  obtain ⟨fd54, F54⟩ := c.def_ 54 (p := (gAd "run", d_54)) rfl
  obtain ⟨t54⟩ := FK.ofH (mg := mg) (x := "run") (st := s_run) (ps := ["program", "state", "arguments"]) (n := 2) (ks := ["arguments"]) X G F54 (by decide) rfl (fun _ _ _ _ _ _ us zs hl hz => match us, zs, hl, hz with | [_, _], [_], _, _ => ⟨_, _, _, _, _, _, rfl, rfl, rfl⟩) (fun _ _ _ _ _ _ us zs hl hz => match us, zs, hl, hz with | [_, _], [_], _, _ => rfl) (c.fact 54 rfl)
  obtain ⟨fd55, F55⟩ := c.def_ 55 (p := (pAd "Trace" "ending", d_55)) rfl
  obtain ⟨t55⟩ := RT.of (x := "Trace") (m := "ending") (q := "Trace.ending") (st := s_Trace_ending) (ps := ["self"]) hc_Trace F55 (fun _ _ _ _ _ _ us hl => match us, hl with | [_], _ => rfl) (cx 3 _ rfl)
  obtain ⟨fd56, F56⟩ := c.def_ 56 (p := (pAd "Trace" "effect", d_56)) rfl
  obtain ⟨t56⟩ := RT.of (x := "Trace") (m := "effect") (q := "Trace.effect") (st := s_Trace_effect) (ps := ["self"]) hc_Trace F56 (fun _ _ _ _ _ _ us hl => match us, hl with | [_], _ => rfl) (cx 4 _ rfl)
  obtain ⟨fd57, F57⟩ := c.def_ 57 (p := (pAd "Trace" "steps", d_57)) rfl
  obtain ⟨t57⟩ := RT.of (x := "Trace") (m := "steps") (q := "Trace.steps") (st := s_Trace_steps) (ps := ["self"]) hc_Trace F57 (fun _ _ _ _ _ _ us hl => match us, hl with | [_], _ => rfl) (cx 5 _ rfl)
  obtain ⟨fd58, F58⟩ := c.def_ 58 (p := (gAd "_law_holds", d_58)) rfl
  obtain ⟨t58⟩ := FT.ofH (mg := mg) (x := "_law_holds") (st := s_holds) (ps := ["_law_deed", "_law_reason", "_law_state"]) X G F58 (fun _ _ _ _ _ _ us hl => match us, hl with | [_, _, _], _ => rfl) (c.fact 55 rfl)
  obtain ⟨fd59, F59⟩ := c.def_ 59 (p := (gAd "_law_deeds", d_59)) rfl
  obtain ⟨t59⟩ := FT.ofH (mg := mg) (x := "_law_deeds") (st := s_deeds) (ps := ["_law_bad_here", "_law_good"]) X G F59 (fun _ _ _ _ _ _ us hl => match us, hl with | [_, _], _ => rfl) (c.fact 56 rfl)
  obtain ⟨fd60, F60⟩ := c.def_ 60 (p := (gAd "_law_draw", d_60)) rfl
  obtain ⟨t60⟩ := FT.ofH (mg := mg) (x := "_law_draw") (st := s_draw) (ps := ["_law_pool_here", "_law_many"]) X G F60 (fun _ _ _ _ _ _ us hl => match us, hl with | [_, _], _ => rfl) (c.fact 57 rfl)
  obtain ⟨fd61, F61⟩ := c.def_ 61 (p := (gAd "_law_bad", d_61)) rfl
  obtain ⟨t61⟩ := FT.ofH (mg := mg) (x := "_law_bad") (st := s_bad) (ps := ["_law_pool_here"]) X G F61 (fun _ _ _ _ _ _ us hl => match us, hl with | [_], _ => rfl) (c.fact 58 rfl)
  obtain ⟨fd62, F62⟩ := c.def_ 62 (p := (gAd "_law_pool", d_62)) rfl
  obtain ⟨t62⟩ := FT.ofH (mg := mg) (x := "_law_pool") (st := s_pool) (ps := ["_law_script", "_law_k"]) X G F62 (fun _ _ _ _ _ _ us hl => match us, hl with | [_, _], _ => rfl) (c.fact 59 rfl)
  obtain ⟨fd63, F63⟩ := c.def_ 63 (p := (gAd "law", d_63)) rfl
  obtain ⟨t63⟩ := FT.ofH (mg := mg) (x := "law") (st := s_law) (ps := ["_law_script"]) X G F63 (fun _ _ _ _ _ _ us hl => match us, hl with | [_], _ => rfl) (c.fact 60 rfl)
  obtain ⟨td_WORDS⟩ := KDc.of (w := w) (x := "WORDS") (ks := kk_WORDS) (ds := kd_WORDS) X G (c.fact 77 rfl) (c.tab 0 (t := ("WORDS", kk_WORDS)) rfl) (cx 7 _ rfl)
  obtain ⟨td_FORMS⟩ := KDc.of (w := w) (x := "FORMS") (ks := kk_FORMS) (ds := kd_FORMS) X G (c.fact 78 rfl) (c.tab 1 (t := ("FORMS", kk_FORMS)) rfl) (cx 8 _ rfl)
  have T : Tx (gS K cs) w mg := ⟨fun _ _ => trivial, tc_Trace, tc_Runner, tc_Survey, t0, t1, t2, t3, t4, t5, t6, t7, t8, t9, t10, t11, t12, t13, t14, t15, t16, t17, t18, t19, t20, t21, t22, t23, t24, t25, t26, t27, t28, t29, t30, t31, t32, t33, t34, t35, t36, t37, t38, t39, t40, t41, t42, t43, t44, t45, t46, t47, t48, t49, t50, t51, t52, t53, t54, t55, t56, t57, t58, t59, t60, t61, t62, t63, KD.ofInt X G (c.fact 61 rfl), KD.ofStr X G (c.fact 62 rfl), KD.ofStr X G (c.fact 63 rfl), KD.ofInt X G (c.fact 64 rfl), KD.ofInt X G (c.fact 65 rfl), KD.ofInt X G (c.fact 66 rfl), KD.ofInt X G (c.fact 67 rfl), KD.ofStr X G (c.fact 68 rfl), KD.ofInt X G (c.fact 69 rfl), KD.ofStr X G (c.fact 70 rfl), KD.ofTupS (xs := ["add", "subtract", "multiply", "divide", "less", "equal", "join", "item"]) X G (c.fact 71 rfl) (cx 6 _ rfl), KD.ofInt X G (c.fact 72 rfl), KD.ofInt X G (c.fact 73 rfl), KD.ofInt X G (c.fact 74 rfl), KD.ofInt X G (c.fact 75 rfl), KD.ofInt X G (c.fact 76 rfl), td_WORDS, td_FORMS, He.free_ok X G (c.fact 79 rfl), He.free_ok X G (c.fact 80 rfl), He.free_ok X G (c.fact 81 rfl), He.free_ok X G (c.fact 82 rfl), He.free_ok X G (c.fact 83 rfl), He.free_ok X G (c.fact 84 rfl), He.free_ok X G (c.fact 85 rfl), He.free_ok X G (c.fact 86 rfl), He.free_ok X G (c.fact 87 rfl), He.free_ok X G (c.fact 88 rfl), He.free_ok X G (c.fact 89 rfl), He.free_ok X G (c.fact 90 rfl), He.free_ok X G (c.fact 91 rfl), He.free_ok X G (c.fact 92 rfl), He.free_ok X G (c.fact 93 rfl), He.free_ok X G (c.fact 94 rfl), He.free_ok X G (c.fact 95 rfl), He.free_ok X G (c.fact 96 rfl)⟩
  have e := hfa.symm.trans T.law.mgx
  cases e
  refine ⟨T.law.fd, fun s v => ?_, fun base _ _ => ok_law (g := gS K cs) T 30⟩
  exact FunD.bindsA (ps := ["_law_script"]) T.law.fn (fun _ _ _ _ _ _ us hl => match us, hl with | [_], _ => rfl) s [v] rfl
end K29
open PySem PySem.W PySem.Calls PyProof.Rows
set_option maxHeartbeats 0 in
theorem PySem.Challenge.cw_mendedruns_k29_reasons_of_refusals_holds : PySem.Challenge.rw_mendedruns_k29_reasons_of_refusals.Holds := by
  w_on; o_law
  refine HandSHeadRun.head_any (r := OpenLaw.row PySem.Challenge.rw_mendedruns_k29_reasons_of_refusals) (q := K29.qv) (H := K29.hk) (ob := K29.ob) (M := 20000) (loose := K29.names) (d := HandSHeadRun.topDef (OpenLaw.row PySem.Challenge.rw_mendedruns_k29_reasons_of_refusals).prog 76) (kwd := []) K29.ob_eq
    (by kernel_rfl) (fun s => by kernel_rfl) K29.run (by kernel_rfl) (by kernel_rfl) (by kernel_rfl) (by rfl) (by first | assumption | decide +kernel) (by decide +kernel) ⟨rfl, rfl, rfl, rfl, rfl, by decide +kernel⟩ ?hw ?hc
  case hw => w_witness2
  case hc =>
    refine VL.walk_ofEB (l := PySem.Challenge.rw_mendedruns_k29_reasons_of_refusals) (n := 63) (k := 30) (x := "_law_script") (CX := fun w => L2.CX (PySem.Challenge.rw_mendedruns_k29_reasons_of_refusals).prog w) rfl (by decide) (by kernel_rfl) ⟨rfl, by decide, by decide⟩ ?F (fun w H s e s' z => VL.noCX _ w H s e s' z)
    intro w mg fa h Y G hmg0
    obtain ⟨K, KX, c⟩ := Y
    have hmg : mg ("law" : PySem.Str) = some (.ref fa) := by
      have e : (HandSHeadRun.topDef (OpenLaw.row PySem.Challenge.rw_mendedruns_k29_reasons_of_refusals).prog 76).name = ("law" : PySem.Str) := by kernel_rfl
      rw [← e]
      exact hmg0
    obtain ⟨fd, hb, hF⟩ := K29.facts (P := (PySem.Challenge.rw_mendedruns_k29_reasons_of_refusals).prog) (w := w) KX G hmg c
    exact ⟨K, fd, _, KX, hb, fun H a ns hl hbb hO hS => VL.law_sp K29.law_ok K K29.cs H a ns hl hbb hO hS _, hF⟩
