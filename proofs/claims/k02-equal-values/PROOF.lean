import PyProof.Rows.All
import Wide.All
import OpenK.AllK
import Wide.FinOn
import HandS.ForMost
import HandS.Flow
import HandS.IsInst
import HandS.Wide
import HandS.WideBits
import HandS.TupAny
import HandS.Zip
import HandS.Style
import HandS.Star
import HandS.RaiseMore
import HandS.EndBits
import KE.KDictZip
import KE.KDictCopyH
import PySem.Challenge.RW_mendedruns_k02_equal_values
set_option Elab.async false
set_option linter.all false
set_option maxRecDepth 100000
set_option autoImplicit false
set_option maxHeartbeats 4000000
namespace DL
open PySem PySem.Spec PyProof.Rows L2

/-! data -/
inductive D where
  | non | bl (b : Bool) | int (i : Int) | str (x : Str) | ty (n : String) | tup (xs : List D) | ref (n : Nat) | kref (s : String)
inductive Ob where
  | lst (xs : List D)
  | dic (ks : List Key) (vs : List D)
  | dct (ks : List (List Key)) (vs : List D)
  | ins (c : String) (ns : List Str) (vs : List D)
abbrev Sto := List Ob
abbrev Lc := List (Option D)
inductive R (a : Type) where
  | ok (x : a) (S : Sto)
  | exc (c : String) (fs : List (Str × D)) (S : Sto)
  | bad
def R.bind {a b : Type} (r : R a) (k : a → Sto → R b) : R b := match r with
  | .ok x S => k x S
  | .exc c fs S => .exc c fs S
  | .bad => .bad
@[simp] theorem R.bind_ok {a b : Type} (x : a) (S : Sto) (k : a → Sto → R b) : (R.ok x S).bind k = k x S := rfl
@[simp] theorem R.bind_exc {a b : Type} (c : String) (fs : List (Str × D)) (S : Sto) (k : a → Sto → R b) : (R.exc c fs S : R a).bind k = .exc c fs S := rfl
@[simp] theorem R.bind_bad {a b : Type} (k : a → Sto → R b) : (R.bad : R a).bind k = .bad := rfl

structure G where
  K : PySem.W.Frag
  ka : String → Option Addr
  ko : String → Option Ob
  cl : String → Option Addr

mutual
def RV (g : G) (m : List Addr) (H : Hp) : D → V → Prop
  | .non, v => v = .non
  | .bl b, v => v = .bl b
  | .int i, v => v = .int i
  | .str x, v => v = .str x
  | .ty n, v => v = .ty n
  | .tup ds, v => ∃ a vs, v = .ref a ∧ SqT g.K H a vs ∧ RVs g m H ds vs
  | .ref n, v => ∃ a, v = .ref a ∧ m[n]? = some a
  | .kref s, v => ∃ a, v = .ref a ∧ g.ka s = some a
def RVs (g : G) (m : List Addr) (H : Hp) : List D → List V → Prop
  | [], vs => vs = []
  | d :: ds, vs => ∃ v r, vs = v :: r ∧ RV g m H d v ∧ RVs g m H ds r
end

structure Ext (g : G) (m : List Addr) (H : Hp) (m' : List Addr) (H' : Hp) : Prop where
  pre : ∃ t, m' = m ++ t
  tup : ∀ a xs, SqT g.K H a xs → SqT g.K H' a xs
  frz : ∀ a o u, H a = some (.frz o u) → H' a = some (.frz o u)
theorem Ext.refl {g : G} {m : List Addr} {H : Hp} : Ext g m H m H := ⟨⟨[], by simp⟩, fun _ _ h => h, fun _ _ _ h => h⟩
theorem Ext.trans {g : G} {m m1 m2 : List Addr} {H H1 H2 : Hp} (a : Ext g m H m1 H1) (b : Ext g m1 H1 m2 H2) : Ext g m H m2 H2 := by
  obtain ⟨t, rfl⟩ := a.pre
  obtain ⟨u, rfl⟩ := b.pre
  exact ⟨⟨t ++ u, by simp⟩, fun p xs h => b.tup p xs (a.tup p xs h), fun p o u h => b.frz p o u (a.frz p o u h)⟩
theorem Ext.get {g : G} {m m' : List Addr} {H H' : Hp} (e : Ext g m H m' H') {n : Nat} {a : Addr} (h : m[n]? = some a) : m'[n]? = some a := by
  obtain ⟨t, rfl⟩ := e.pre
  rw [List.getElem?_append_left (List.getElem?_eq_some_iff.mp h).1]
  exact h
mutual
theorem RV.ext {g : G} {m m' : List Addr} {H H' : Hp} (e : Ext g m H m' H') : ∀ {d : D} {v : V}, RV g m H d v → RV g m' H' d v
  | .non, _, h => by unfold RV at h ⊢; exact h
  | .bl b, _, h => by unfold RV at h ⊢; exact h
  | .int i, _, h => by unfold RV at h ⊢; exact h
  | .str x, _, h => by unfold RV at h ⊢; exact h
  | .ty n, _, h => by unfold RV at h ⊢; exact h
  | .tup ds, v, h => by
    unfold RV at h ⊢
    obtain ⟨a, vs, rfl, h1, h2⟩ := h
    exact ⟨a, vs, rfl, e.tup a vs h1, RVs.ext e h2⟩
  | .ref n, v, h => by
    unfold RV at h ⊢
    obtain ⟨a, rfl, h1⟩ := h
    exact ⟨a, rfl, e.get h1⟩
  | .kref s, v, h => by unfold RV at h ⊢; exact h
theorem RVs.ext {g : G} {m m' : List Addr} {H H' : Hp} (e : Ext g m H m' H') : ∀ {ds : List D} {vs : List V}, RVs g m H ds vs → RVs g m' H' ds vs
  | [], _, h => by unfold RVs at h ⊢; exact h
  | d :: ds, vs, h => by
    unfold RVs at h ⊢
    obtain ⟨v, r, rfl, h1, h2⟩ := h
    exact ⟨v, r, rfl, RV.ext e h1, RVs.ext e h2⟩
end
section
variable {g : G} {m : List Addr} {H : Hp}
theorem RVs.nil : RVs g m H [] [] := by unfold RVs; rfl
theorem RVs.cons {d : D} {v : V} {ds : List D} {vs : List V} (h : RV g m H d v) (t : RVs g m H ds vs) : RVs g m H (d :: ds) (v :: vs) := by unfold RVs; exact ⟨v, vs, rfl, h, t⟩
theorem RVs.nil_iff {vs : List V} (h : RVs g m H [] vs) : vs = [] := by unfold RVs at h; exact h
theorem RVs.cons_iff {d : D} {ds : List D} {vs : List V} (h : RVs g m H (d :: ds) vs) : ∃ v r, vs = v :: r ∧ RV g m H d v ∧ RVs g m H ds r := by unfold RVs at h; exact h
theorem RVs.length : ∀ {ds : List D} {vs : List V}, RVs g m H ds vs → vs.length = ds.length
  | [], _, h => by rw [h.nil_iff]; rfl
  | d :: ds, vs, h => by
    obtain ⟨v, r, rfl, _, t⟩ := h.cons_iff
    simp [RVs.length t]
theorem RVs.get : ∀ {ds : List D} {vs : List V}, RVs g m H ds vs → ∀ {i : Nat} {d : D}, ds[i]? = some d → ∃ v, vs[i]? = some v ∧ RV g m H d v
  | [], _, _, i, d, e => by simp at e
  | d0 :: ds, vs, h, 0, d, e => by
    obtain ⟨v, r, rfl, h1, _⟩ := h.cons_iff
    simp at e; subst e
    exact ⟨v, rfl, h1⟩
  | d0 :: ds, vs, h, i + 1, d, e => by
    obtain ⟨v, r, rfl, _, t⟩ := h.cons_iff
    simpa using RVs.get t (i := i) (by simpa using e)
theorem RVs.get' {ds : List D} {vs : List V} (h : RVs g m H ds vs) {i : Nat} {v : V} (e : vs[i]? = some v) : ∃ d, ds[i]? = some d ∧ RV g m H d v := by
  have hi : i < ds.length := by rw [← h.length]; exact (List.getElem?_eq_some_iff.mp e).1
  obtain ⟨v', e', r⟩ := h.get (i := i) (d := ds[i]) (List.getElem?_eq_getElem hi)
  rw [e] at e'; cases e'
  exact ⟨_, List.getElem?_eq_getElem hi, r⟩
theorem RVs.append : ∀ {ds es : List D} {vs us : List V}, RVs g m H ds vs → RVs g m H es us → RVs g m H (ds ++ es) (vs ++ us)
  | [], es, vs, us, h, k => by rw [h.nil_iff]; exact k
  | d :: ds, es, vs, us, h, k => by
    obtain ⟨v, r, rfl, h1, t⟩ := h.cons_iff
    exact .cons h1 (RVs.append t k)
theorem RVs.take : ∀ {ds : List D} {vs : List V} (n : Nat), RVs g m H ds vs → RVs g m H (ds.take n) (vs.take n)
  | _, _, 0, _ => by simpa using RVs.nil
  | [], vs, n + 1, h => by rw [h.nil_iff]; simpa using RVs.nil
  | d :: ds, vs, n + 1, h => by
    obtain ⟨v, r, rfl, h1, t⟩ := h.cons_iff
    simpa using RVs.cons h1 (RVs.take n t)
theorem RVs.drop : ∀ {ds : List D} {vs : List V} (n : Nat), RVs g m H ds vs → RVs g m H (ds.drop n) (vs.drop n)
  | _, _, 0, h => by simpa using h
  | [], vs, n + 1, h => by rw [h.nil_iff]; simpa using RVs.nil
  | d :: ds, vs, n + 1, h => by
    obtain ⟨v, r, rfl, h1, t⟩ := h.cons_iff
    simpa using RVs.drop n t
theorem RVs.set : ∀ {ds : List D} {vs : List V} (n : Nat) {d : D} {v : V}, RVs g m H ds vs → RV g m H d v → RVs g m H (ds.set n d) (vs.set n v)
  | [], vs, n, _, _, h, _ => by rw [h.nil_iff]; simpa using RVs.nil
  | d0 :: ds, vs, 0, d, v, h, k => by
    obtain ⟨v', r, rfl, h1, t⟩ := h.cons_iff
    simpa using RVs.cons k t
  | d0 :: ds, vs, n + 1, d, v, h, k => by
    obtain ⟨v', r, rfl, h1, t⟩ := h.cons_iff
    simpa using RVs.cons h1 (RVs.set n t k)
theorem RVs.rep {ds : List D} {vs : List V} (h : RVs g m H ds vs) : ∀ n : Nat, RVs g m H (List.replicate n ds).flatten (List.replicate n vs).flatten
  | 0 => by simpa using RVs.nil
  | n + 1 => by rw [List.replicate_succ, List.replicate_succ, List.flatten_cons, List.flatten_cons]; exact h.append (RVs.rep h n)
theorem rv_int {i : Int} : RV g m H (.int i) (.int i) := by unfold RV; rfl
theorem rv_str {i : Str} : RV g m H (.str i) (.str i) := by unfold RV; rfl
theorem rv_bl {i : Bool} : RV g m H (.bl i) (.bl i) := by unfold RV; rfl
theorem rv_non : RV g m H .non .non := by unfold RV; rfl
theorem rv_ty {i : String} : RV g m H (.ty i) (.ty i) := by unfold RV; rfl
theorem rv_tup {a : Addr} {vs : List V} {ds : List D} (h : SqT g.K H a vs) (r : RVs g m H ds vs) : RV g m H (.tup ds) (.ref a) := by unfold RV; exact ⟨a, vs, rfl, h, r⟩
theorem rv_ref {a : Addr} {n : Nat} (h : m[n]? = some a) : RV g m H (.ref n) (.ref a) := by unfold RV; exact ⟨a, rfl, h⟩
theorem rv_kref {a : Addr} {s : String} (h : g.ka s = some a) : RV g m H (.kref s) (.ref a) := by unfold RV; exact ⟨a, rfl, h⟩
theorem of_int {i : Int} {v : V} (h : RV g m H (.int i) v) : v = .int i := by unfold RV at h; exact h
theorem of_str {i : Str} {v : V} (h : RV g m H (.str i) v) : v = .str i := by unfold RV at h; exact h
theorem of_bl {i : Bool} {v : V} (h : RV g m H (.bl i) v) : v = .bl i := by unfold RV at h; exact h
theorem of_non {v : V} (h : RV g m H .non v) : v = .non := by unfold RV at h; exact h
theorem of_ty {i : String} {v : V} (h : RV g m H (.ty i) v) : v = .ty i := by unfold RV at h; exact h
theorem of_tup {v : V} {ds : List D} (h : RV g m H (.tup ds) v) : ∃ a vs, v = .ref a ∧ SqT g.K H a vs ∧ RVs g m H ds vs := by unfold RV at h; exact h
theorem of_ref {v : V} {n : Nat} (h : RV g m H (.ref n) v) : ∃ a, v = .ref a ∧ m[n]? = some a := by unfold RV at h; exact h
theorem of_kref {v : V} {s : String} (h : RV g m H (.kref s) v) : ∃ a, v = .ref a ∧ g.ka s = some a := by unfold RV at h; exact h
end

/-! objects -/
def OR (g : G) (m : List Addr) (H : Hp) : Ob → HO → Prop
  | .lst ds, o => ∃ vs, o = .lst vs ∧ RVs g m H ds vs
  | .dic ks ds, o => ∃ kvs : List (Key × V), o = .dK kvs ∧ kvs.map (·.1) = ks ∧ RVs g m H ds (kvs.map (·.2))
  | .dct ks ds, o => ∃ kvs : List (List Key × V), o = .dT kvs ∧ kvs.map (·.1) = ks ∧ RVs g m H ds (kvs.map (·.2))
  | .ins c ns ds, o => ∃ (C dx : Addr) (fs : List (Str × V)), g.cl c = some C ∧ o = .ins C dx fs ∧ fs.map (·.1) = ns ∧ RVs g m H ds (fs.map (·.2))
theorem OR.ext {g : G} {m m' : List Addr} {H H' : Hp} (e : Ext g m H m' H') : ∀ {ob : Ob} {o : HO}, OR g m H ob o → OR g m' H' ob o
  | .lst ds, o, ⟨vs, h1, h2⟩ => ⟨vs, h1, h2.ext e⟩
  | .dic ks ds, o, ⟨vs, h1, h2, h3⟩ => ⟨vs, h1, h2, h3.ext e⟩
  | .dct ks ds, o, ⟨vs, h1, h2, h3⟩ => ⟨vs, h1, h2, h3.ext e⟩
  | .ins c ns ds, o, ⟨C, dx, fs, h1, h2, h3, h4⟩ => ⟨C, dx, fs, h1, h2, h3, h4.ext e⟩
/-- no tuple, nothing locked -/
def Soft : HO → Prop
  | .tup _ => False
  | .frz _ _ => False
  | _ => True
theorem OR.soft {g : G} {m : List Addr} {H : Hp} : ∀ {ob : Ob} {o : HO}, OR g m H ob o → Soft o
  | .lst ds, o, ⟨vs, h1, h2⟩ => by subst h1; trivial
  | .dic ks ds, o, ⟨vs, h1, h2, h3⟩ => by subst h1; trivial
  | .dct ks ds, o, ⟨vs, h1, h2, h3⟩ => by subst h1; trivial
  | .ins c ns ds, o, ⟨C, dx, fs, h1, h2, h3, h4⟩ => by subst h2; trivial
/-- a list that is read only: locked, or of the written part -/
def SqLk (K : PySem.W.Frag) (H : Hp) (a : Addr) (xs : List V) : Prop :=
  (∃ o, H a = some (.frz o (.lst xs))) ∨ ∃ (o : Obj) (its : Array Value) (n : Nat), K.lookup a = some o ∧ o.cls = .type "list" ∧ o.dict = none ∧ o.data = .seq its n ∧ its.size ≤ sizeLine ∧ Vals xs its.toList
theorem SqLk.sq {K : PySem.W.Frag} {H : Hp} {a : Addr} {xs : List V} (h : SqLk K H a xs) : SqL K H a xs := by
  rcases h with ⟨o, h⟩ | h
  · exact .inl (.inr ⟨o, h⟩)
  · exact .inr h
def ROb (g : G) (H : Hp) (a : Addr) : Ob → Prop
  | .lst ds => ∃ vs, SqLk g.K H a vs ∧ RVs g [] H ds vs
  | _ => False
structure Rel (g : G) (m : List Addr) (S : Sto) (H : Hp) : Prop where
  len : m.length = S.length
  inj : ∀ (n k : Nat) (a : Addr), m[n]? = some a → m[k]? = some a → n = k
  ob : ∀ (n : Nat) (a : Addr) (ob : Ob), m[n]? = some a → S[n]? = some ob → ∃ o, H a = some o ∧ OR g m H ob o
  ro : ∀ s a ob, g.ka s = some a → g.ko s = some ob → ROb g H a ob
theorem ROb.ext {g : G} {H H' : Hp} (e : Ext g [] H [] H') {a : Addr} : ∀ {ob : Ob}, ROb g H a ob → ROb g H' a ob
  | .lst ds, ⟨vs, h1, h2⟩ => by
    refine ⟨vs, ?_, h2.ext e⟩
    rcases h1 with ⟨o, h⟩ | h
    · exact .inl ⟨o, e.frz _ _ _ h⟩
    · exact .inr h
theorem Ext.nil {g : G} {m m' : List Addr} {H H' : Hp} (e : Ext g m H m' H') : Ext g [] H [] H' := ⟨⟨[], rfl⟩, e.tup, e.frz⟩
/-- heaps that keep what is no soft thing -/
theorem ext_upd {g : G} {m : List Addr} {H : Hp} {a : Addr} {o' : HO} (h : ∀ o, H a = some o → Soft o) (t : List Addr) : Ext g m H (m ++ t) (upd H a o') := by
  refine ⟨⟨t, rfl⟩, fun b xs hb => ?_, fun b o u hb => ?_⟩
  · rcases hb with (hb | ⟨o, hb⟩) | hb
    · refine .inl (.inl ?_)
      rw [upd_ne]
      · exact hb
      · rintro rfl
        exact h _ hb
    · refine .inl (.inr ⟨o, ?_⟩)
      rw [upd_ne]
      · exact hb
      · rintro rfl
        exact h _ hb
    · exact .inr hb
  · rw [upd_ne]
    · exact hb
    · rintro rfl
      exact h _ hb
section
variable {g : G} {m : List Addr} {S : Sto} {H : Hp}
theorem ext_new {p : Addr} {o' : HO} (hp : H p = none) (t : List Addr) : Ext g m H (m ++ t) (upd H p o') := ext_upd (fun o e => by rw [hp] at e; cases e) t
theorem Rel.fresh (r : Rel g m S H) {p : Addr} (hp : H p = none) (n : Nat) : m[n]? ≠ some p := fun e => by
  have hn : n < S.length := by rw [← r.len]; exact (List.getElem?_eq_some_iff.mp e).1
  obtain ⟨o, e', _⟩ := r.ob n p S[n] e (List.getElem?_eq_getElem hn)
  rw [hp] at e'; cases e'
/-- a new object that is known by a number -/
theorem Rel.alloc (r : Rel g m S H) {p : Addr} {o : HO} {ob : Ob} (hp : H p = none) (h : OR g m H ob o) : Rel g (m ++ [p]) (S ++ [ob]) (upd H p o) := by
  have e : Ext g m H (m ++ [p]) (upd H p o) := ext_new hp [p]
  have hl := r.len
  refine ⟨by simp [hl], fun n k a h1 h2 => ?_, fun n a ob' h1 h2 => ?_, fun s a ob' h1 h2 => (r.ro s a ob' h1 h2).ext e.nil⟩
  · by_cases hn : n < m.length
    · rw [List.getElem?_append_left hn] at h1
      by_cases hk : k < m.length
      · rw [List.getElem?_append_left hk] at h2
        exact r.inj n k a h1 h2
      · rw [List.getElem?_append_right (by omega)] at h2
        have : a = p := by
          rw [List.getElem?_singleton] at h2
          split at h2
          · exact (Option.some.inj h2).symm
          · cases h2
        subst this
        exact absurd h1 (r.fresh hp n)
    · rw [List.getElem?_append_right (by omega)] at h1
      have hn' : n - m.length = 0 ∧ a = p := by
        rw [List.getElem?_singleton] at h1
        split at h1
        · exact ⟨by assumption, (Option.some.inj h1).symm⟩
        · cases h1
      obtain ⟨hn0, rfl⟩ := hn'
      by_cases hk : k < m.length
      · rw [List.getElem?_append_left hk] at h2
        exact absurd h2 (r.fresh hp k)
      · rw [List.getElem?_append_right (by omega)] at h2
        rw [List.getElem?_singleton] at h2
        split at h2
        · omega
        · cases h2
  · by_cases hn : n < m.length
    · rw [List.getElem?_append_left hn] at h1
      rw [List.getElem?_append_left (by omega)] at h2
      obtain ⟨o', e1, e2⟩ := r.ob n a ob' h1 h2
      refine ⟨o', ?_, e2.ext e⟩
      rw [upd_ne]
      · exact e1
      · rintro rfl
        exact r.fresh hp n h1
    · rw [List.getElem?_append_right (by omega)] at h1
      rw [List.getElem?_append_right (by omega)] at h2
      rw [List.getElem?_singleton] at h1 h2
      split at h1
      · cases h1
        rw [if_pos (by omega)] at h2
        cases h2
        exact ⟨o, upd_same, h.ext e⟩
      · cases h1
theorem Rel.last (r : Rel g m S H) {p : Addr} : (m ++ [p])[S.length]? = some p := by rw [← r.len]; simp
/-- a new object that is not known by a number (a tuple) -/
theorem Rel.lay (r : Rel g m S H) {p : Addr} {o : HO} (hp : H p = none) : Rel g m S (upd H p o) := by
  have e : Ext g m H (m ++ []) (upd H p o) := ext_new hp []
  rw [List.append_nil] at e
  refine ⟨r.len, r.inj, fun n a ob' h1 h2 => ?_, fun s a ob' h1 h2 => (r.ro s a ob' h1 h2).ext e.nil⟩
  obtain ⟨o', e1, e2⟩ := r.ob n a ob' h1 h2
  refine ⟨o', ?_, e2.ext e⟩
  rw [upd_ne]
  · exact e1
  · rintro rfl
    exact r.fresh hp n h1
theorem ext_lay {p : Addr} {o' : HO} (hp : H p = none) : Ext g m H m (upd H p o') := by
  have e : Ext g m H (m ++ []) (upd H p o') := ext_new hp []
  rwa [List.append_nil] at e
theorem ext_set {n : Nat} {a : Addr} {ob : Ob} {o' : HO} (r : Rel g m S H) (h1 : m[n]? = some a) (h2 : S[n]? = some ob) : Ext g m H m (upd H a o') := by
  obtain ⟨o, e1, e2⟩ := r.ob n a ob h1 h2
  have e : Ext g m H (m ++ []) (upd H a o') := ext_upd (fun u eu => by rw [e1] at eu; cases eu; exact e2.soft) []
  rwa [List.append_nil] at e
theorem Rel.set (r : Rel g m S H) {n : Nat} {a : Addr} {ob ob' : Ob} {o' : HO} (h1 : m[n]? = some a) (h2 : S[n]? = some ob) (h : OR g m H ob' o') : Rel g m (S.set n ob') (upd H a o') := by
  have e : Ext g m H m (upd H a o') := ext_set r h1 h2
  refine ⟨by simp [r.len], r.inj, fun k b ob2 h3 h4 => ?_, fun s b ob2 h3 h4 => (r.ro s b ob2 h3 h4).ext e.nil⟩
  by_cases hk : k = n
  · subst hk
    rw [h1] at h3; cases h3
    rw [List.getElem?_set_self (List.getElem?_eq_some_iff.mp h2).1] at h4
    cases h4
    exact ⟨o', upd_same, h.ext e⟩
  · rw [List.getElem?_set_ne (Ne.symm hk)] at h4
    obtain ⟨o2, e1, e2⟩ := r.ob k b ob2 h3 h4
    refine ⟨o2, ?_, e2.ext e⟩
    rw [upd_ne]
    · exact e1
    · rintro rfl
      exact hk (r.inj k n _ h3 h1)
end
end DL

namespace DL
open PySem PySem.Spec PyProof.Rows L2

abbrev St := L2.St
abbrev XD := String → List (Str × D) → List Addr → Sto → Hp → Prop
abbrev NoX : XD := fun _ _ _ _ _ => False
def R.post {a : Type} (r : R a) (Q : a → Sto → Prop) (E : String → List (Str × D) → Sto → Prop) : Prop := match r with
  | .ok x S => Q x S
  | .exc c fs S => E c fs S
  | .bad => False
/-- what is wanted behind a computation that begins at m, H -/
def Aft {a : Type} (g : G) (E : XD) (m : List Addr) (H : Hp) (r : R a) (Q : a → List Addr → Sto → Hp → Prop) : Prop :=
  r.post (fun x S' => ∀ m' H', Ext g m H m' H' → Rel g m' S' H' → Q x m' S' H') (fun c fs S' => ∀ m' H', Ext g m H m' H' → Rel g m' S' H' → E c fs m' S' H')
section
variable {a b : Type} {g : G} {E : XD} {m m1 : List Addr} {H H1 : Hp} {r : R a} {Q Q' : a → List Addr → Sto → Hp → Prop}
theorem Aft.later (h : Aft g E m H r Q) (e : Ext g m H m1 H1) : Aft g E m1 H1 r Q := by
  cases r with
  | ok x S => exact fun m' H' e' q => h m' H' (e.trans e') q
  | exc c fs S => exact fun m' H' e' q => h m' H' (e.trans e') q
  | bad => exact h
theorem Aft.bind {k : a → Sto → R b} {Q : b → List Addr → Sto → Hp → Prop} (h : Aft g E m H (r.bind k) Q) : Aft g E m H r fun x m1 S1 H1 => Aft g E m1 H1 (k x S1) Q := by
  cases r with
  | ok x S => exact fun m' H' e' q => Aft.later (r := k x S) h e'
  | exc c fs S => exact h
  | bad => exact h
theorem Aft.mono (h : Aft g E m H r Q) (k : ∀ x m' S' H', Ext g m H m' H' → Rel g m' S' H' → Q x m' S' H' → Q' x m' S' H') : Aft g E m H r Q' := by
  cases r with
  | ok x S => exact fun m' H' e' q => k x m' S H' e' q (h m' H' e' q)
  | exc c fs S => exact h
  | bad => exact h
theorem Aft.ok {x : a} {S : Sto} (h : Aft g E m H (.ok x S) Q) (r : Rel g m S H) : Q x m S H := h m H .refl r
theorem Aft.at {x : a} {S : Sto} (h : Aft g E m H (.ok x S) Q) (e : Ext g m H m1 H1) (r : Rel g m1 S H1) : Q x m1 S H1 := h m1 H1 e r
end

def RL (g : G) (m : List Addr) (H : Hp) (L : Lc) (σ : St) : Prop := L.length = σ.length ∧ ∀ (i : Nat) (d : D), L[i]? = some (some d) → ∃ v, σ[i]? = some (some v) ∧ RV g m H d v
theorem RL.ext {g : G} {m m' : List Addr} {H H' : Hp} {L : Lc} {σ : St} (h : RL g m H L σ) (e : Ext g m H m' H') : RL g m' H' L σ :=
  ⟨h.1, fun i d q => let ⟨v, h1, h2⟩ := h.2 i d q; ⟨v, h1, h2.ext e⟩⟩
theorem RL.set {g : G} {m : List Addr} {H : Hp} {L : Lc} {σ : St} (h : RL g m H L σ) {d : D} {v : V} (r : RV g m H d v) (i : Nat) : RL g m H (L.set i (some d)) (σ.set i (some v)) := by
  refine ⟨by simp [h.1], fun j d' e => ?_⟩
  by_cases hj : i = j
  · subst hj
    by_cases hi : i < L.length
    · rw [List.getElem?_set_self hi] at e
      cases e
      exact ⟨v, by rw [List.getElem?_set_self (by rw [← h.1]; exact hi)], r⟩
    · rw [List.getElem?_eq_none (by simpa using hi)] at e
      cases e
  · rw [List.getElem?_set_ne hj] at e ⊢
    exact h.2 j d' e
theorem RL.wipe1 {g : G} {m : List Addr} {H : Hp} {L : Lc} {σ : St} (h : RL g m H L σ) (i : Nat) : RL g m H (L.set i none) (σ.set i none) := by
  refine ⟨by simp [h.1], fun j d' e => ?_⟩
  by_cases hj : i = j
  · subst hj
    by_cases hi : i < L.length
    · rw [List.getElem?_set_self hi] at e
      cases e
    · rw [List.getElem?_eq_none (by simpa using hi)] at e
      cases e
  · rw [List.getElem?_set_ne hj] at e ⊢
    exact h.2 j d' e
def wipeL (L : Lc) : List Nat → Lc
  | [] => L
  | v :: vs => (wipeL L vs).set v none
theorem RL.wipe {g : G} {m : List Addr} {H : Hp} {L : Lc} {σ : St} (h : RL g m H L σ) : ∀ vs : List Nat, RL g m H (wipeL L vs) (wipe σ vs)
  | [] => h
  | v :: vs => (RL.wipe h vs).wipe1 v
theorem RL.begin {g : G} {m : List Addr} {H : Hp} {ds : List D} {vs : List V} (h : RVs g m H ds vs) (N : List Str) : RL g m H (ds.map some ++ List.replicate (N.length - ds.length) none) (L2.start N vs) := by
  have hl := h.length
  unfold L2.start
  refine ⟨by simp [hl], fun i d e => ?_⟩
  by_cases hi : i < ds.length
  · rw [List.getElem?_append_left (by simpa using hi), List.getElem?_map] at e
    rw [List.getElem?_append_left (by simpa [hl] using hi), List.getElem?_map]
    cases q : ds[i]? with
    | none => rw [q] at e; cases e
    | some d' =>
      rw [q] at e
      cases e
      obtain ⟨v, e1, r⟩ := h.get q
      exact ⟨v, by rw [e1]; rfl, r⟩
  · rw [List.getElem?_append_right (by simpa using hi), List.getElem?_replicate] at e
    split at e <;> cases e

def vQ (g : G) (Q : VK) : D → List Addr → Sto → Hp → Prop := fun d m' _ H' => ∀ v, RV g m' H' d v → Q v H'
def tD (g : G) (E : XD) (e : Lc → Sto → R D) : TE := fun σ H Q => ∃ m S L, Rel g m S H ∧ RL g m H L σ ∧ Aft g E m H (e L S) (vQ g Q)
def tT (g : G) (E : XD) (e : Lc → Sto → R Bool) : TT := fun σ H Q => ∃ m S L, Rel g m S H ∧ RL g m H L σ ∧ Aft g E m H (e L S) fun b _ _ H' => Q b H'
def tL (g : G) (E : XD) (e : Lc → Sto → R (List D)) : TA := fun σ H Q => ∃ m S L, Rel g m S H ∧ RL g m H L σ ∧ Aft g E m H (e L S) fun ds m' _ H' => ∀ vs, RVs g m' H' ds vs → Q vs H'
inductive Fl where
  | nx (L : Lc) | rt (d : D) | bk (L : Lc) | ct (L : Lc)
def fQ (g : G) (Dn : Ends) : Fl → List Addr → Sto → Hp → Prop := fun f m' _ H' => match f with
  | .nx L => ∀ σ, RL g m' H' L σ → Dn.nx σ H'
  | .rt d => ∀ v, RV g m' H' d v → Dn.rt v H'
  | .bk L => ∀ σ, RL g m' H' L σ → Dn.bk σ H'
  | .ct L => ∀ σ, RL g m' H' L σ → Dn.ct σ H'
def tF (g : G) (E : XD) (f : Lc → Sto → R Fl) : TS := fun Dn σ H => ∃ m S L, Rel g m S H ∧ RL g m H L σ ∧ Aft g E m H (f L S) (fQ g Dn)
/-- operations by values -/
def rD1 (g : G) (E : XD) (f : D → Sto → R D) : V → Hp → VK → Prop := fun x H Q => ∃ m S d, Rel g m S H ∧ RV g m H d x ∧ Aft g E m H (f d S) (vQ g Q)
def rD2 (g : G) (E : XD) (f : D → D → Sto → R D) : R2 := fun x y H Q => ∃ m S d d', Rel g m S H ∧ RV g m H d x ∧ RV g m H d' y ∧ Aft g E m H (f d d' S) (vQ g Q)
def rDs (g : G) (E : XD) (f : List D → Sto → R D) : List V → Hp → VK → Prop := fun xs H Q => ∃ m S ds, Rel g m S H ∧ RVs g m H ds xs ∧ Aft g E m H (f ds S) (vQ g Q)

theorem _root_.L2.PE.imp {X : Cx} {e : Expr} {t t' : TE} (h : PE X e t) (k : ∀ σ H Q, t' σ H Q → t σ H Q) : PE X e t' := ⟨fun pins s σ H Q I q => h.run pins s σ H Q I (k σ H Q q)⟩
theorem _root_.L2.PT.imp {X : Cx} {e : Expr} {t t' : TT} (h : PT X e t) (k : ∀ σ H Q, t' σ H Q → t σ H Q) : PT X e t' := ⟨fun pins s σ H Q I q => h.run pins s σ H Q I (k σ H Q q)⟩
theorem _root_.L2.PW.imp {X : Cx} {e : Expr} {t t' : TT} (h : PW X e t) (k : ∀ σ H Q, t' σ H Q → t σ H Q) : PW X e t' := ⟨fun wh pins s σ H Q I q => h.run wh pins s σ H Q I (k σ H Q q)⟩
theorem _root_.L2.PA.imp {X : Cx} {e : List Expr} {t t' : TA} (h : PA X e t) (k : ∀ σ H Q, t' σ H Q → t σ H Q) : PA X e t' := ⟨fun pos pins s σ H Q I q => h.run pos pins s σ H Q I (k σ H Q q)⟩
theorem _root_.L2.PS.imp {X : Cx} {e : Stmt} {t t' : TS} (h : PS X e t) (k : ∀ D σ H, t' D σ H → t D σ H) : PS X e t' := ⟨fun pins s σ H D I q => h.run pins s σ H D I (k D σ H q)⟩
theorem _root_.L2.PSs.imp {X : Cx} {e : List Stmt} {t t' : TS} (h : PSs X e t) (k : ∀ D σ H, t' D σ H → t D σ H) : PSs X e t' := ⟨fun pins s σ H D I q => h.run pins s σ H D I (k D σ H q)⟩

/-! expressions -/
def eVar (i : Nat) : Lc → Sto → R D := fun L S => match L[i]? with
  | some (some d) => .ok d S
  | _ => .bad
def eC (d : D) : Lc → Sto → R D := fun _ S => .ok d S
def eUn (f : D → Sto → R D) (a : Lc → Sto → R D) : Lc → Sto → R D := fun L S => (a L S).bind fun x S1 => f x S1
def eBin (f : D → D → Sto → R D) (a b : Lc → Sto → R D) : Lc → Sto → R D := fun L S => (a L S).bind fun x S1 => (b L S1).bind fun y S2 => f x y S2
def aNil : Lc → Sto → R (List D) := fun _ S => .ok [] S
def aCons (a : Lc → Sto → R D) (r : Lc → Sto → R (List D)) : Lc → Sto → R (List D) := fun L S => (a L S).bind fun x S1 => (r L S1).bind fun xs S2 => .ok (x :: xs) S2
def eCall (f : List D → Sto → R D) (a : Lc → Sto → R (List D)) : Lc → Sto → R D := fun L S => (a L S).bind fun xs S1 => f xs S1
def eTup (a : Lc → Sto → R (List D)) : Lc → Sto → R D := fun L S => (a L S).bind fun xs S1 => if xs.length ≤ sizeLine then .ok (.tup xs) S1 else .bad
def newL (xs : List D) (S : Sto) : R D := if xs.length ≤ sizeLine then .ok (.ref S.length) (S ++ [.lst xs]) else .bad
def eLst (a : Lc → Sto → R (List D)) : Lc → Sto → R D := fun L S => (a L S).bind fun xs S1 => newL xs S1
def truD (d : D) (S : Sto) : R Bool := match d with
  | .non => .ok false S
  | .bl b => .ok b S
  | .int i => .ok (i != 0) S
  | .str x => if x.length ≤ sizeLine then .ok ((x.length : Int) != 0) S else .bad
  | .tup ds => .ok (!ds.isEmpty) S
  | .ref n => match S[n]? with
    | some (.lst ds) => .ok (!ds.isEmpty) S
    | some (.dic ks _) => .ok (!ks.isEmpty) S
    | _ => .bad
  | _ => .bad
def eAnd (a b : Lc → Sto → R D) : Lc → Sto → R D := fun L S => (a L S).bind fun x S1 => (truD x S1).bind fun c S2 => if c = true then b L S2 else .ok x S2
def eOr (a b : Lc → Sto → R D) : Lc → Sto → R D := fun L S => (a L S).bind fun x S1 => (truD x S1).bind fun c S2 => if c = true then .ok x S2 else b L S2
def eNot (a : Lc → Sto → R D) : Lc → Sto → R D := fun L S => (a L S).bind fun x S1 => (truD x S1).bind fun c S2 => .ok (.bl (!c)) S2
def eIf (t : Lc → Sto → R Bool) (a b : Lc → Sto → R D) : Lc → Sto → R D := fun L S => (t L S).bind fun c S1 => if c = true then a L S1 else b L S1
def eChain (f f' : D → D → Sto → R D) (a b c : Lc → Sto → R D) : Lc → Sto → R D := fun L S => (a L S).bind fun x S1 => (b L S1).bind fun y S2 => (f x y S2).bind fun z S3 => match z with
  | .bl true => (c L S3).bind fun w S4 => f' y w S4
  | .bl false => .ok (.bl false) S3
  | _ => .bad
/-! tests -/
def tTru (a : Lc → Sto → R D) : Lc → Sto → R Bool := fun L S => (a L S).bind fun x S1 => truD x S1
def tBl (a : Lc → Sto → R D) : Lc → Sto → R Bool := fun L S => (a L S).bind fun x S1 => match x with
  | .bl b => .ok b S1
  | _ => .bad
def tAnd2 (a b : Lc → Sto → R Bool) : Lc → Sto → R Bool := fun L S => (a L S).bind fun c S1 => if c = true then b L S1 else .ok false S1
def tOr2 (a b : Lc → Sto → R Bool) : Lc → Sto → R Bool := fun L S => (a L S).bind fun c S1 => if c = true then .ok true S1 else b L S1
def tNot1 (a : Lc → Sto → R Bool) : Lc → Sto → R Bool := fun L S => (a L S).bind fun c S1 => .ok (!c) S1
/-! statements -/
abbrev SF := Lc → Sto → R Fl
def sNx : SF := fun L S => .ok (.nx L) S
def sSeq (a b : SF) : SF := fun L S => (a L S).bind fun f S1 => match f with
  | .nx L1 => b L1 S1
  | f => .ok f S1
def sSet (i : Nat) (e : Lc → Sto → R D) : SF := fun L S => (e L S).bind fun d S1 => .ok (.nx (L.set i (some d))) S1
def sRet (e : Lc → Sto → R D) : SF := fun L S => (e L S).bind fun d S1 => .ok (.rt d) S1
def sRetN : SF := fun _ S => .ok (.rt .non) S
def sDrop (e : Lc → Sto → R D) : SF := fun L S => (e L S).bind fun _ S1 => .ok (.nx L) S1
def sIf (t : Lc → Sto → R Bool) (a b : SF) : SF := fun L S => (t L S).bind fun c S1 => if c = true then a L S1 else b L S1
def sAsg (e : Lc → Sto → R D) (t : D → Lc → Sto → R Lc) : SF := fun L S => (e L S).bind fun d S1 => (t d L S1).bind fun L2 S2 => .ok (.nx L2) S2
def gNm (i : Nat) : D → Lc → Sto → R Lc := fun d L S => .ok (L.set i (some d)) S
def gCons2 (t : D → Lc → Sto → R Lc) (u : List D → Lc → Sto → R Lc) : List D → Lc → Sto → R Lc := fun ds L S => match ds with
  | d :: r => (t d L S).bind fun L1 S1 => u r L1 S1
  | [] => .bad
def gNil2 : List D → Lc → Sto → R Lc := fun ds L S => match ds with
  | [] => .ok L S
  | _ => .bad
def gTp (n : Nat) (t : List D → Lc → Sto → R Lc) : D → Lc → Sto → R Lc := fun d L S => match d with
  | .tup ds => if ds.length = n then t ds L S else .bad
  | _ => .bad
def gIx (o i : Lc → Sto → R D) (f : D → D → D → Sto → R Unit) : D → Lc → Sto → R Lc := fun d L S => (o L S).bind fun x S1 => (i L S1).bind fun y S2 => (f x y d S2).bind fun _ S3 => .ok L S3

section
variable {X : Cx} {g : G} {E : XD} {pos : Pos} {e c : Expr} {es rest : List Expr} {ea eb ec : Lc → Sto → R D} {a b : Expr}

theorem de_var (i : Nat) {x : Str} (hN : X.N[i]? = some x := by rfl) (hv : Vis X.env.scope x := by first | exact Or.inl rfl | exact Or.inr (Or.inl rfl) | exact Or.inr (Or.inr rfl)) (hd : (x == ("__debug__" : Str)) = false := by decide)
    (hcd : (x == ("__classdict__" : Str)) = false := by decide) : PE X (.Name x pos) (tD g E (eVar i)) := by
  refine (pe_var hN hv hd hcd).imp fun σ H Q h => ?_
  obtain ⟨m, S, L, r, l, q⟩ := h
  unfold eVar at q
  split at q
  · rename_i d e
    obtain ⟨v, e1, e2⟩ := l.2 i d e
    exact ⟨v, e1, q.ok r v e2⟩
  · exact q.elim
theorem de_c {v : V} (d : D) (h : PE X e (tC v)) (hd : ∀ m H, RV g m H d v) : PE X e (tD g E (eC d)) := by
  refine h.imp fun σ H Q h => ?_
  obtain ⟨m, S, L, r, l, q⟩ := h
  exact q.ok r v (hd m H)
theorem de_int {i : Int} {j : Nat} : PE X (.Constant (.int i) j pos) (tD g E (eC (.int i))) := de_c _ pe_int fun _ _ => rv_int
theorem de_bl {i : Bool} {j : Nat} : PE X (.Constant (.bool i) j pos) (tD g E (eC (.bl i))) := de_c _ pe_bl fun _ _ => rv_bl
theorem de_str {i : Str} {j : Nat} : PE X (.Constant (.str i) j pos) (tD g E (eC (.str i))) := de_c _ pe_str fun _ _ => rv_str
theorem de_non {j : Nat} : PE X (.Constant .none j pos) (tD g E (eC .non)) := de_c _ pe_non fun _ _ => rv_non
theorem de_un {op : UnaryOp} {f : D → Sto → R D} (ho : UnR X (unaryOp op) (rD1 g E f)) (ha : PE X a (tD g E ea)) : PE X (.UnaryOp op a pos) (tD g E (eUn f ea)) := by
  refine (pe_un ho ha).imp fun σ H Q h => ?_
  obtain ⟨m, S, L, r, l, q⟩ := h
  refine ⟨m, S, L, r, l, (Aft.bind q).mono fun d m1 S1 H1 e1 r1 q1 v rv => ?_⟩
  exact ⟨m1, S1, d, r1, rv, q1⟩
/-- two in a row -/
theorem bin2 {f : D → D → Sto → R D} {σ : St} {H : Hp} {Q : VK} (h : tD g E (eBin f ea eb) σ H Q) : tOp (rD2 g E f) (tD g E ea) (tD g E eb) σ H Q := by
  obtain ⟨m, S, L, r, l, q⟩ := h
  refine ⟨m, S, L, r, l, (Aft.bind q).mono fun d m1 S1 H1 e1 r1 q1 v rv => ?_⟩
  refine ⟨m1, S1, L, r1, l.ext e1, (Aft.bind q1).mono fun d' m2 S2 H2 e2 r2 q2 v' rv' => ?_⟩
  exact ⟨m2, S2, d, d', r2, rv.ext e2, rv', q2⟩
theorem de_op {op : Operator} {f : D → D → Sto → R D} (ho : OpR X (binaryOp op) (rD2 g E f)) (ha : PE X a (tD g E ea)) (hb : PE X b (tD g E eb)) : PE X (.BinOp a op b pos) (tD g E (eBin f ea eb)) :=
  (pe_op ho ha hb).imp fun σ H Q h => bin2 h
theorem de_cmp {op : CmpOp} {f : D → D → Sto → R D} (ho : OpR X (compareOp op) (rD2 g E f)) (ha : PE X a (tD g E ea)) (hb : PE X b (tD g E eb)) (hm : behindInMarks op b = false) : PE X (.Compare a [op] [b] pos) (tD g E (eBin f ea eb)) :=
  (pe_cmpR ho ha hb hm).imp fun σ H Q h => bin2 h
theorem tBl_test {σ : St} {H : Hp} {Q : Bool → Hp → Prop} {e : Lc → Sto → R D} (h : tT g E (tBl e) σ H Q) : tTest (tD g E e) σ H Q := by
  obtain ⟨m, S, L, r, l, q⟩ := h
  refine ⟨m, S, L, r, l, (Aft.bind q).mono fun d m1 S1 H1 e1 r1 q1 v rv => ?_⟩
  cases d with
  | bl b => exact ⟨b, of_bl rv, q1.ok r1⟩
  | _ => exact q1.elim
theorem tTest.imp {t t' : TE} (k : ∀ σ H Q, t' σ H Q → t σ H Q) {σ : St} {H : Hp} {Q : Bool → Hp → Prop} (h : tTest t' σ H Q) : tTest t σ H Q := k _ _ _ h
theorem dt_cmp {op : CmpOp} {f : D → D → Sto → R D} (ho : OpR X (compareOp op) (rD2 g E f)) (ha : PE X a (tD g E ea)) (hb : PE X b (tD g E eb)) (hm : behindInMarks op b = false) : PT X (.Compare a [op] [b] pos) (tT g E (tBl (eBin f ea eb))) :=
  (pt_cmpR ho ha hb hm).imp fun σ H Q h => tTest.imp (fun _ _ _ h => bin2 h) (tBl_test h)
theorem de_ix {f : D → D → Sto → R D} (ho : IxR X (rD2 g E f)) (ha : PE X a (tD g E ea)) (hb : PE X b (tD g E eb)) (hs : PlainIx b := by intro _ _; rfl) : PE X (.Subscript a b pos) (tD g E (eBin f ea eb)) :=
  (pe_ix ho ha hb hs).imp fun σ H Q h => bin2 h
theorem da_nil : PA X [] (tL g E aNil) := pa_nil.imp fun σ H Q h => by
  obtain ⟨m, S, L, r, l, q⟩ := h
  exact q.ok r _ .nil
theorem da_cons {ls : Lc → Sto → R (List D)} (ha : PE X e (tD g E ea)) (hr : PA X es (tL g E ls)) (hs : starEach (e :: es) X.env = (false, eval e X.env) :: starEach es X.env := by rfl) : PA X (e :: es) (tL g E (aCons ea ls)) := by
  refine (pa_cons ha hr hs).imp fun σ H Q h => ?_
  obtain ⟨m, S, L, r, l, q⟩ := h
  refine ⟨m, S, L, r, l, (Aft.bind q).mono fun d m1 S1 H1 e1 r1 q1 v rv => ?_⟩
  refine ⟨m1, S1, L, r1, l.ext e1, (Aft.bind q1).mono fun ds m2 S2 H2 e2 r2 q2 vs rvs => ?_⟩
  exact q2.ok r2 _ (.cons (rv.ext e2) rvs)
theorem calls {f : List D → Sto → R D} {ls : Lc → Sto → R (List D)} {σ : St} {H : Hp} {Q : VK} (h : tD g E (eCall f ls) σ H Q) : tCB (rDs g E f) (tL g E ls) σ H Q := by
  obtain ⟨m, S, L, r, l, q⟩ := h
  refine ⟨m, S, L, r, l, (Aft.bind q).mono fun ds m1 S1 H1 e1 r1 q1 vs rvs => ?_⟩
  exact ⟨m1, S1, ds, r1, rvs, q1⟩
theorem de_callB {f : List D → Sto → R D} {ls : Lc → Sto → R (List D)} {id : String} {x : Str} {p : Pos} (hc : CallR X (.builtin id) (rDs g E f)) (hg : Gl X x) (hm : X.mg x = none) (hv : bootBuiltins x = some (.builtin id)) (ha : PA X (e :: es) (tL g E ls)) (hn : x ≠ "__name__" := by decide) (hdb : (x == ("__debug__" : Str)) = false := by decide)
    (he : starEach (e :: es) X.env = (false, eval e X.env) :: starEach es X.env := by rfl) (hpl : (backTo pos (starEach es X.env)).any (·.1) = false := by rfl) : PE X (.Call (.Name x p) (e :: es) [] pos) (tD g E (eCall f ls)) :=
  (pe_callB hc hg hm hv ha hn hdb he hpl).imp fun σ H Q h => calls h
theorem de_callTy {f : List D → Sto → R D} {ls : Lc → Sto → R (List D)} {id : String} {x : Str} {p : Pos} (hc : CallR X (.type id) (rDs g E f)) (hg : Gl X x) (hm : X.mg x = none) (hv : bootBuiltins x = some (.type id)) (ha : PA X (e :: es) (tL g E ls)) (hn : x ≠ "__name__" := by decide) (hdb : (x == ("__debug__" : Str)) = false := by decide)
    (he : starEach (e :: es) X.env = (false, eval e X.env) :: starEach es X.env := by rfl) (hpl : (backTo pos (starEach es X.env)).any (·.1) = false := by rfl) : PE X (.Call (.Name x p) (e :: es) [] pos) (tD g E (eCall f ls)) :=
  (pe_callTy hc hg hm hv ha hn hdb he hpl).imp fun σ H Q h => calls h
theorem de_tup {ls : Lc → Sto → R (List D)} {k : Nat} (ha : PA X es (tL g E ls)) : PE X (.Tuple es k pos) (tD g E (eTup ls)) := by
  refine (pe_tup ha).imp fun σ H Q h => ?_
  obtain ⟨m, S, L, r, l, q⟩ := h
  refine ⟨m, S, L, r, l, (Aft.bind q).mono fun ds m1 S1 H1 e1 r1 q1 vs rvs => ?_⟩
  split at q1
  · rename_i hz
    refine ⟨by rw [rvs.length]; exact hz, fun p hp => ?_⟩
    exact q1.at (ext_lay hp) (r1.lay hp) _ (rv_tup (.inl (.inl upd_same)) (rvs.ext (ext_lay hp)))
  · exact q1.elim
theorem newL_run {xs : List D} {vs : List V} {m : List Addr} {S : Sto} {H : Hp} {Q : VK} (q : Aft g E m H (newL xs S) (vQ g Q)) (r : Rel g m S H) (rvs : RVs g m H xs vs) : vs.length ≤ sizeLine ∧ ∀ p, H p = none → Q (.ref p) (upd H p (.lst vs)) := by
  unfold newL at q
  split at q
  · rename_i hz
    refine ⟨by rw [rvs.length]; exact hz, fun p hp => ?_⟩
    exact q.at (ext_new hp [p]) (r.alloc hp ⟨vs, rfl, rvs⟩) _ (rv_ref r.last)
  · exact q.elim
theorem de_lst {ls : Lc → Sto → R (List D)} (ha : PA X es (tL g E ls)) : PE X (.List es pos) (tD g E (eLst ls)) := by
  refine (pe_lst ha).imp fun σ H Q h => ?_
  obtain ⟨m, S, L, r, l, q⟩ := h
  refine ⟨m, S, L, r, l, (Aft.bind q).mono fun ds m1 S1 H1 e1 r1 q1 vs rvs => ?_⟩
  exact newL_run q1 r1 rvs
/-- truth -/
theorem tru_run {m : List Addr} {S : Sto} {H : Hp} {d : D} {v : V} {Q : Bool → List Addr → Sto → Hp → Prop} (hK : X.K = g.K) (q : Aft g E m H (truD d S) Q) (r : Rel g m S H) (rv : RV g m H d v) : ∃ k, TruV X.K v H k ∧ truD d S = .ok k S := by
  rw [hK]
  unfold truD at q ⊢
  cases d with
  | non => rw [of_non rv]; exact ⟨false, rfl, rfl⟩
  | bl b => rw [of_bl rv]; exact ⟨b, rfl, rfl⟩
  | int i => rw [of_int rv]; exact ⟨_, rfl, rfl⟩
  | str x =>
    rw [of_str rv]
    simp only at q ⊢
    split at q
    · rename_i hz
      rw [if_pos hz]
      exact ⟨_, ⟨hz, rfl⟩, rfl⟩
    · exact q.elim
  | tup ds =>
    obtain ⟨a, vs, rfl, h1, h2⟩ := of_tup rv
    refine ⟨!ds.isEmpty, .inr (.inl ⟨vs, h1, ?_⟩), rfl⟩
    have := h2.length
    cases ds with
    | nil => rw [h2.nil_iff]; rfl
    | cons _ _ => obtain ⟨_, _, rfl, _⟩ := h2.cons_iff; rfl
  | ref n =>
    obtain ⟨a, rfl, ha⟩ := of_ref rv
    simp only at q ⊢
    split at q
    · rename_i ds e
      obtain ⟨o, h1, vs, rfl, h2⟩ := r.ob n a _ ha e
      refine ⟨!ds.isEmpty, .inl ⟨vs, .of h1, ?_⟩, rfl⟩
      cases ds with
      | nil => rw [h2.nil_iff]; rfl
      | cons _ _ => obtain ⟨_, _, rfl, _⟩ := h2.cons_iff; rfl
    · rename_i ks ds e
      obtain ⟨o, h1, kvs, rfl, h2, _⟩ := r.ob n a _ ha e
      refine ⟨!ks.isEmpty, .inr (.inr ⟨kvs, h1, ?_⟩), rfl⟩
      rw [← h2]
      cases kvs <;> rfl
    · exact q.elim
  | ty _ => exact q.elim
  | kref _ => exact q.elim
theorem dt_tru (hK : X.K = g.K) (ha : PE X a (tD g E ea)) (he : ∀ whole, isTrue a X.env whole = (do let v ← whole; standAt a.pos; holding [v] (truthy v)) := by intro _; rfl) : PT X a (tT g E (tTru ea)) := by
  refine (pt_truth ha he).imp fun σ H Q h => ?_
  obtain ⟨m, S, L, r, l, q⟩ := h
  refine ⟨m, S, L, r, l, (Aft.bind q).mono fun d m1 S1 H1 e1 r1 q1 v rv => ?_⟩
  obtain ⟨k, h1, h2⟩ := tru_run hK q1 r1 rv
  rw [h2] at q1
  exact ⟨k, h1, q1.ok r1⟩
theorem de_and (hK : X.K = g.K) (ha : PE X a (tD g E ea)) (hb : PE X (.BoolOp .And (b :: rest) pos) (tD g E eb)) : PE X (.BoolOp .And (a :: b :: rest) pos) (tD g E (eAnd ea eb)) := by
  refine (pe_andT ha hb).imp fun σ H Q h => ?_
  obtain ⟨m, S, L, r, l, q⟩ := h
  refine ⟨m, S, L, r, l, (Aft.bind q).mono fun d m1 S1 H1 e1 r1 q1 v rv => ?_⟩
  obtain ⟨k, h1, h2⟩ := tru_run hK (Aft.bind q1) r1 rv
  rw [h2] at q1
  refine ⟨k, h1, ?_⟩
  cases k with
  | true => exact ⟨m1, S1, L, r1, l.ext e1, q1⟩
  | false => exact q1.ok r1 _ rv
theorem de_or (hK : X.K = g.K) (ha : PE X a (tD g E ea)) (hb : PE X (.BoolOp .Or (b :: rest) pos) (tD g E eb)) : PE X (.BoolOp .Or (a :: b :: rest) pos) (tD g E (eOr ea eb)) := by
  refine (pe_orT ha hb).imp fun σ H Q h => ?_
  obtain ⟨m, S, L, r, l, q⟩ := h
  refine ⟨m, S, L, r, l, (Aft.bind q).mono fun d m1 S1 H1 e1 r1 q1 v rv => ?_⟩
  obtain ⟨k, h1, h2⟩ := tru_run hK (Aft.bind q1) r1 rv
  rw [h2] at q1
  refine ⟨k, h1, ?_⟩
  cases k with
  | false => exact ⟨m1, S1, L, r1, l.ext e1, q1⟩
  | true => exact q1.ok r1 _ rv
theorem de_not (hK : X.K = g.K) (ha : PE X a (tD g E ea)) : PE X (.UnaryOp .Not a pos) (tD g E (eNot ea)) := by
  refine (pe_notT ha).imp fun σ H Q h => ?_
  obtain ⟨m, S, L, r, l, q⟩ := h
  refine ⟨m, S, L, r, l, (Aft.bind q).mono fun d m1 S1 H1 e1 r1 q1 v rv => ?_⟩
  obtain ⟨k, h1, h2⟩ := tru_run hK (Aft.bind q1) r1 rv
  rw [h2] at q1
  exact ⟨k, h1, q1.ok r1 _ rv_bl⟩
variable {ta tb : Lc → Sto → R Bool}
theorem dw_and1 (ha : PT X a (tT g E ta)) : PW X (.BoolOp .And [a] pos) (tT g E ta) := pw_and1 ha
theorem dw_or1 (ha : PT X a (tT g E ta)) : PW X (.BoolOp .Or [a] pos) (tT g E ta) := pw_or1 ha
theorem dw_and (ha : PT X a (tT g E ta)) (hb : PW X (.BoolOp .And (b :: rest) pos) (tT g E tb)) : PW X (.BoolOp .And (a :: b :: rest) pos) (tT g E (tAnd2 ta tb)) := by
  refine (pw_and ha hb).imp fun σ H Q h => ?_
  obtain ⟨m, S, L, r, l, q⟩ := h
  refine ⟨m, S, L, r, l, (Aft.bind q).mono fun c m1 S1 H1 e1 r1 q1 => ?_⟩
  cases c with
  | true => exact ⟨m1, S1, L, r1, l.ext e1, q1⟩
  | false => exact q1.ok r1
theorem dw_or (ha : PT X a (tT g E ta)) (hb : PW X (.BoolOp .Or (b :: rest) pos) (tT g E tb)) : PW X (.BoolOp .Or (a :: b :: rest) pos) (tT g E (tOr2 ta tb)) := by
  refine (pw_or ha hb).imp fun σ H Q h => ?_
  obtain ⟨m, S, L, r, l, q⟩ := h
  refine ⟨m, S, L, r, l, (Aft.bind q).mono fun c m1 S1 H1 e1 r1 q1 => ?_⟩
  cases c with
  | false => exact ⟨m1, S1, L, r1, l.ext e1, q1⟩
  | true => exact q1.ok r1
theorem dt_not (ha : PT X a (tT g E ta)) : PT X (.UnaryOp .Not a pos) (tT g E (tNot1 ta)) := by
  refine (pt_not ha).imp fun σ H Q h => ?_
  obtain ⟨m, S, L, r, l, q⟩ := h
  refine ⟨m, S, L, r, l, (Aft.bind q).mono fun c m1 S1 H1 e1 r1 q1 => q1.ok r1⟩
theorem de_if (hc : PT X c (tT g E ta)) (ha : PE X a (tD g E ea)) (hb : PE X b (tD g E eb)) : PE X (.IfExp c a b pos) (tD g E (eIf ta ea eb)) := by
  refine (pe_ifExp hc ha hb).imp fun σ H Q h => ?_
  obtain ⟨m, S, L, r, l, q⟩ := h
  refine ⟨m, S, L, r, l, (Aft.bind q).mono fun k m1 S1 H1 e1 r1 q1 => ?_⟩
  cases k with
  | true => exact ⟨m1, S1, L, r1, l.ext e1, q1⟩
  | false => exact ⟨m1, S1, L, r1, l.ext e1, q1⟩
theorem chain2 {f f' : D → D → Sto → R D} {σ : St} {H : Hp} {Q : VK} (h : tD g E (eChain f f' ea eb ec) σ H Q) : tChain (rD2 g E f) (rD2 g E f') (tD g E ea) (tD g E eb) (tD g E ec) σ H Q := by
  obtain ⟨m, S, L, r, l, q⟩ := h
  refine ⟨m, S, L, r, l, (Aft.bind q).mono fun d m1 S1 H1 e1 r1 q1 v rv => ?_⟩
  refine ⟨m1, S1, L, r1, l.ext e1, (Aft.bind q1).mono fun d' m2 S2 H2 e2 r2 q2 v' rv' => ?_⟩
  refine ⟨m2, S2, d, d', r2, rv.ext e2, rv', (Aft.bind q2).mono fun z m3 S3 H3 e3 r3 q3 vz rz => ?_⟩
  cases z with
  | bl k =>
    refine ⟨k, of_bl rz, ?_⟩
    cases k with
    | true =>
      refine ⟨m3, S3, L, r3, (l.ext e1).ext (e2.trans e3), (Aft.bind q3).mono fun w m4 S4 H4 e4 r4 q4 vw rw' => ?_⟩
      exact ⟨m4, S4, d', w, r4, rv'.ext (e3.trans e4), rw', q4⟩
    | false => exact q3.ok r3 _ rv_bl
  | _ => exact q3.elim
theorem de_chain {op op' : CmpOp} {f f' : D → D → Sto → R D} (ho : OpR X (compareOp op) (rD2 g E f)) (ho' : OpR X (compareOp op') (rD2 g E f')) (ha : PE X a (tD g E ea)) (hb : PE X b (tD g E eb)) (hc : PE X c (tD g E ec))
    (hm : lastMarks [op, op'] [b, c] = false := by with_unfolding_all rfl) : PE X (.Compare a [op, op'] [b, c] pos) (tD g E (eChain f f' ea eb ec)) :=
  (pe_chain ho ho' ha hb hc hm).imp fun σ H Q h => chain2 h
theorem dt_chain {op op' : CmpOp} {f f' : D → D → Sto → R D} (ho : OpR X (compareOp op) (rD2 g E f)) (ho' : OpR X (compareOp op') (rD2 g E f')) (ha : PE X a (tD g E ea)) (hb : PE X b (tD g E eb)) (hc : PE X c (tD g E ec))
    (hm : lastMarks [op, op'] [b, c] = false := by with_unfolding_all rfl) : PT X (.Compare a [op, op'] [b, c] pos) (tT g E (tBl (eChain f f' ea eb ec))) :=
  (pt_chain ho ho' ha hb hc hm).imp fun σ H Q h => tTest.imp (fun _ _ _ h => chain2 h) (tBl_test h)
end

/-! statements -/
section
variable {X : Cx} {g : G} {E : XD} {pos : Pos} {e c : Expr} {ea eb : Lc → Sto → R D} {st : Stmt} {rest sa sb : List Stmt} {fa fb : SF} {ta : Lc → Sto → R Bool}
theorem ds_nil : PSs X [] (tF g E sNx) := pss_nil.imp fun D σ H h => by
  obtain ⟨m, S, L, r, l, q⟩ := h
  exact q.ok r σ l
theorem ds_cons (h1 : PS X st (tF g E fa)) (h2 : PSs X rest (tF g E fb)) : PSs X (st :: rest) (tF g E (sSeq fa fb)) := by
  refine (pss_cons h1 h2).imp fun D σ H h => ?_
  obtain ⟨m, S, L, r, l, q⟩ := h
  refine ⟨m, S, L, r, l, (Aft.bind q).mono fun f m1 S1 H1 e1 r1 q1 => ?_⟩
  cases f with
  | nx L1 => exact fun σ1 l1 => ⟨m1, S1, L1, r1, l1, q1⟩
  | rt d => exact fun v rv => q1.ok r1 v rv
  | bk L1 => exact fun σ1 l1 => q1.ok r1 σ1 l1
  | ct L1 => exact fun σ1 l1 => q1.ok r1 σ1 l1
theorem ds_one (h1 : PS X st (tF g E fa)) : PSs X [st] (tF g E fa) := pss_one h1
theorem ds_pass : PS X (.Pass pos) (tF g E sNx) := ps_pass.imp fun D σ H h => by
  obtain ⟨m, S, L, r, l, q⟩ := h
  exact q.ok r σ l
theorem ds_ret (he : PE X e (tD g E ea)) : PS X (.Return (some e) pos) (tF g E (sRet ea)) := by
  refine (ps_ret he).imp fun D σ H h => ?_
  obtain ⟨m, S, L, r, l, q⟩ := h
  exact ⟨m, S, L, r, l, (Aft.bind q).mono fun d m1 S1 H1 e1 r1 q1 v rv => q1.ok r1 v rv⟩
theorem ds_retN : PS X (.Return none pos) (tF g E sRetN) := ps_retN.imp fun D σ H h => by
  obtain ⟨m, S, L, r, l, q⟩ := h
  exact q.ok r _ rv_non
theorem ds_expr (he : PE X e (tD g E ea)) (hs : swapsWith e none pos.line X.env = pure false := by rfl) : PS X (.Expr e pos) (tF g E (sDrop ea)) := by
  refine (ps_expr he hs).imp fun D σ H h => ?_
  obtain ⟨m, S, L, r, l, q⟩ := h
  exact ⟨m, S, L, r, l, (Aft.bind q).mono fun d m1 S1 H1 e1 r1 q1 v rv => q1.ok r1 _ (l.ext e1)⟩
theorem ds_if (hc : PT X c (tT g E ta)) (ha : PSs X sa (tF g E fa)) (hb : PSs X sb (tF g E fb)) : PS X (.If c sa sb pos) (tF g E (sIf ta fa fb)) := by
  refine (ps_if hc ha hb).imp fun D σ H h => ?_
  obtain ⟨m, S, L, r, l, q⟩ := h
  refine ⟨m, S, L, r, l, (Aft.bind q).mono fun k m1 S1 H1 e1 r1 q1 => ?_⟩
  cases k with
  | true => exact ⟨m1, S1, L, r1, l.ext e1, q1⟩
  | false => exact ⟨m1, S1, L, r1, l.ext e1, q1⟩
theorem ds_set {i : Nat} {x : Str} {pos' : Pos} (hN : X.N.Nodup) (hi : X.N[i]? = some x) (hx : L2.Loc X.env.scope x) (he : PE X e (tD g E ea)) (hs : swapsWith e (some (.Name x pos')) pos.line X.env = pure false := by rfl) (hf : X.fn x = true ∨ X.env.scope.names.lookup x = some .local := by first | exact .inl rfl | exact .inr rfl | assumption) :
    PS X (.Assign [.Name x pos'] e pos) (tF g E (sSet i ea)) := by
  refine (ps_set hN hi hx he hs hf).imp fun D σ H h => ?_
  obtain ⟨m, S, L, r, l, q⟩ := h
  exact ⟨m, S, L, r, l, (Aft.bind q).mono fun d m1 S1 H1 e1 r1 q1 v rv => q1.ok r1 _ ((l.ext e1).set rv i)⟩
/-! targets; P: what is known of the slots behind -/
abbrev AnyP : St → St → Prop := fun _ _ => True
abbrev WpP (vs : List Nat) : St → St → Prop := fun σ σ2 => wipe σ2 vs = wipe σ vs
def gQ (g : G) (P : St → St → Prop) (σ0 : St) (Q : St → Hp → Prop) : Lc → List Addr → Sto → Hp → Prop := fun L m' _ H' => ∀ σ, RL g m' H' L σ → P σ0 σ → Q σ H'
def tG (g : G) (E : XD) (P : St → St → Prop) (t : D → Lc → Sto → R Lc) : TG := fun v σ H Q => ∃ m S L d, Rel g m S H ∧ RL g m H L σ ∧ RV g m H d v ∧ Aft g E m H (t d L S) (gQ g P σ Q)
def tGs (g : G) (E : XD) (P : St → St → Prop) (t : List D → Lc → Sto → R Lc) : TGs := fun vs σ H Q => ∃ m S L ds, Rel g m S H ∧ RL g m H L σ ∧ RVs g m H ds vs ∧ Aft g E m H (t ds L S) (gQ g P σ Q)
theorem _root_.L2.PG.imp {X : Cx} {e : Expr} {t t' : TG} (h : PG X e t) (k : ∀ v σ H Q, t' v σ H Q → t v σ H Q) : PG X e t' := ⟨fun pins s σ H v u Q I r q => h.run pins s σ H v u Q I r (k v σ H Q q)⟩
theorem _root_.L2.PGs.imp {X : Cx} {e : List Expr} {t t' : TGs} (h : PGs X e t) (k : ∀ v σ H Q, t' v σ H Q → t v σ H Q) : PGs X e t' := ⟨fun pins s σ H v u Q I r q => h.run pins s σ H v u Q I r (k v σ H Q q)⟩
theorem wipe_set {σ : St} {i : Nat} {x : Option V} : ∀ {vs : List Nat}, i ∈ vs → wipe (σ.set i x) vs = wipe σ vs
  | [], h => by cases h
  | v :: vs, h => by
    show (wipe (σ.set i x) vs).set v none = (wipe σ vs).set v none
    by_cases hi : i = v
    · subst hi
      have : ∀ vs : List Nat, (wipe (σ.set i x) vs).set i none = (wipe σ vs).set i none := by
        intro vs
        induction vs with
        | nil => show (σ.set i x).set i none = σ.set i none; rw [List.set_set]
        | cons w vs ih =>
          show ((wipe (σ.set i x) vs).set w none).set i none = ((wipe σ vs).set w none).set i none
          by_cases hw : w = i
          · subst hw; rw [List.set_set, List.set_set, ih]
          · rw [List.set_comm _ _ hw, ih, List.set_comm _ _ (Ne.symm hw)]
      exact this vs
    · rw [wipe_set (List.mem_of_ne_of_mem hi h)]
theorem wp_nm {vs : List Nat} {i : Nat} (h : i ∈ vs) (σ : St) (v : V) : WpP vs σ (σ.set i (some v)) := wipe_set h
variable {P : St → St → Prop}
theorem dg_name {i : Nat} {x : Str} (hN : X.N.Nodup) (hi : X.N[i]? = some x) (hx : L2.Loc X.env.scope x) (hP : ∀ (σ : St) (v : V), P σ (σ.set i (some v))) (hf : X.fn x = true ∨ X.env.scope.names.lookup x = some .local := by first | exact .inl rfl | exact .inr rfl | assumption) : PG X (.Name x pos) (tG g E P (gNm i)) := by
  refine (pg_name hN hi hx hf).imp fun v σ H Q h => ?_
  obtain ⟨m, S, L, d, r, l, rv, q⟩ := h
  exact q.ok r _ (l.set rv i) (hP σ v)
theorem dgs_nil (hP : ∀ σ, P σ σ) : PGs X [] (tGs g E P gNil2) := by
  refine pgs_nil.imp fun v σ H Q h => ?_
  obtain ⟨m, S, L, ds, r, l, rv, q⟩ := h
  cases ds with
  | nil => exact ⟨rv.nil_iff, q.ok r _ l (hP σ)⟩
  | cons _ _ => exact q.elim
theorem dgs_cons {es : List Expr} {t : D → Lc → Sto → R Lc} {u : List D → Lc → Sto → R Lc} (hP : ∀ a b c, P a b → P b c → P a c) (h1 : PG X e (tG g E P t)) (h2 : PGs X es (tGs g E P u)) (hs : (assignEach (e :: es) X.env).map (·.2) = assign e X.env :: (assignEach es X.env).map (·.2) := by rfl) : PGs X (e :: es) (tGs g E P (gCons2 t u)) := by
  refine (pgs_cons h1 h2 hs).imp fun v σ H Q h => ?_
  obtain ⟨m, S, L, ds, r, l, rv, q⟩ := h
  cases ds with
  | nil => exact q.elim
  | cons d ds =>
    obtain ⟨v1, r1, rfl, h1, h2⟩ := rv.cons_iff
    refine ⟨v1, r1, rfl, m, S, L, d, r, l, h1, (Aft.bind q).mono fun L1 m1 S1 H1 e1 r1 q1 σ1 l1 p1 => ?_⟩
    exact ⟨m1, S1, L1, ds, r1, l1, h2.ext e1, q1.mono fun L2 m2 S2 H2 e2 r2 q2 σ2 l2 p2 => q2 σ2 l2 (hP _ _ _ p1 p2)⟩
theorem dg_tup {es : List Expr} {k n : Nat} {t : List D → Lc → Sto → R Lc} (hK : X.K = g.K) (hc : X.calm = true) (h : PGs X es (tGs g E P t)) (hn : (assignEach es X.env).length = n := by rfl) (hst : (assignEach es X.env).findIdx? (·.1) = none := by rfl) :
    PG X (.Tuple es k pos) (tG g E P (gTp n t)) := by
  refine (pg_tup hc h hn hst).imp fun v σ H Q h => ?_
  obtain ⟨m, S, L, d, r, l, rv, q⟩ := h
  unfold gTp at q
  split at q
  · rename_i ds
    split at q
    · rename_i hz
      obtain ⟨a, vs, rfl, h1, h2⟩ := of_tup rv
      exact ⟨a, vs, rfl, by rw [hK]; exact h1, by rw [h2.length]; exact hz, m, S, L, ds, r, l, h2, q⟩
    · exact q.elim
  · exact q.elim
theorem ds_asg {tg : Expr} {t : D → Lc → Sto → R Lc} (he : PE X e (tD g E ea)) (hg : PG X tg (tG g E AnyP t)) (hs : swapsWithSole [tg] e pos.line X.env = pure false := by rfl) (hw : swappedStores [tg] e X.env = pure none := by rfl)
    (h1 : (assignEach [tg] X.env).map (·.2) = [assign tg X.env] := by rfl) : PS X (.Assign [tg] e pos) (tF g E (sAsg ea t)) := by
  refine (ps_asg he hg hs hw h1).imp fun D σ H h => ?_
  obtain ⟨m, S, L, r, l, q⟩ := h
  refine ⟨m, S, L, r, l, (Aft.bind q).mono fun d m1 S1 H1 e1 r1 q1 v rv => ?_⟩
  refine ⟨m1, S1, L, d, r1, l.ext e1, rv, (Aft.bind q1).mono fun L2 m2 S2 H2 e2 r2 q2 => ?_⟩
  exact fun σ2 l2 _ => q2.ok r2 σ2 l2
def rSet (g : G) (E : XD) (f : D → D → D → Sto → R Unit) : TSet := fun o i v H Q => ∃ m S d1 d2 d3, Rel g m S H ∧ RV g m H d1 o ∧ RV g m H d2 i ∧ RV g m H d3 v ∧ Aft g E m H (f d1 d2 d3 S) fun _ m' S' H' => Q H'
theorem dg_ix {o i : Expr} {f : D → D → D → Sto → R Unit} {eo ei : Lc → Sto → R D} (hP : ∀ σ, P σ σ) (ho : PE X o (tD g E eo)) (hi : PE X i (tD g E ei)) (hs : PSet X (rSet g E f))
    (ha : ∀ v, assign (.Subscript o i pos) X.env v = (do
      let ov ← holding [v] (eval o X.env)
      let iv ← holding [v, ov] (eval i X.env)
      standAt pos
      holding [v, ov, iv] (setItem ov iv v)
      release [v, ov, iv] []) := by intro _; rfl) : PG X (.Subscript o i pos) (tG g E P (gIx eo ei f)) := by
  refine (pg_sub ho hi hs ha).imp fun v σ H Q h => ?_
  obtain ⟨m, S, L, d, r, l, rv, q⟩ := h
  refine ⟨m, S, L, r, l, (Aft.bind q).mono fun d1 m1 S1 H1 e1 r1 q1 v1 rv1 => ?_⟩
  refine ⟨m1, S1, L, r1, l.ext e1, (Aft.bind q1).mono fun d2 m2 S2 H2 e2 r2 q2 v2 rv2 => ?_⟩
  refine ⟨m2, S2, d1, d2, d, r2, rv1.ext e2, rv2, rv.ext (e1.trans e2), (Aft.bind q2).mono fun _ m3 S3 H3 e3 r3 q3 => ?_⟩
  exact q3.ok r3 σ (l.ext (e1.trans (e2.trans e3))) (hP σ)
end
end DL

namespace DL
open PySem PySem.Spec PyProof.Rows L2

mutual
def D.beq : D → D → Bool
  | .non, .non => true
  | .bl a, .bl b => a == b
  | .int a, .int b => a == b
  | .str a, .str b => decide (a = b)
  | .ty a, .ty b => a == b
  | .tup a, .tup b => D.beqs a b
  | .ref a, .ref b => a == b
  | .kref a, .kref b => a == b
  | _, _ => false
def D.beqs : List D → List D → Bool
  | [], [] => true
  | a :: as, b :: bs => D.beq a b && D.beqs as bs
  | _, _ => false
end
mutual
theorem D.beq_eq : ∀ {a b : D}, D.beq a b = true → a = b
  | .non, b, h => by cases b <;> simp [D.beq] at h; rfl
  | .bl _, b, h => by cases b <;> simp [D.beq] at h; subst h; rfl
  | .int _, b, h => by cases b <;> simp [D.beq] at h; subst h; rfl
  | .str _, b, h => by cases b <;> simp [D.beq] at h; subst h; rfl
  | .ty _, b, h => by cases b <;> simp [D.beq] at h; subst h; rfl
  | .ref _, b, h => by cases b <;> simp [D.beq] at h; subst h; rfl
  | .kref _, b, h => by cases b <;> simp [D.beq] at h; subst h; rfl
  | .tup as, b, h => by
    cases b <;> simp [D.beq] at h
    rw [D.beqs_eq h]
theorem D.beqs_eq : ∀ {as bs : List D}, D.beqs as bs = true → as = bs
  | [], bs, h => by cases bs <;> simp [D.beqs] at h; rfl
  | a :: as, bs, h => by
    cases bs with
    | nil => simp [D.beqs] at h
    | cons b bs =>
      simp [D.beqs] at h
      rw [D.beq_eq h.1, D.beqs_eq h.2]
end
mutual
theorem D.beq_refl : ∀ a : D, D.beq a a = true
  | .non => rfl
  | .bl a => by simp [D.beq]
  | .int _ => by simp [D.beq]
  | .str _ => by simp [D.beq]
  | .ty _ => by simp [D.beq]
  | .ref _ => by simp [D.beq]
  | .kref _ => by simp [D.beq]
  | .tup as => by simp [D.beq, D.beqs_refl as]
theorem D.beqs_refl : ∀ as : List D, D.beqs as as = true
  | [] => rfl
  | a :: as => by simp [D.beqs, D.beq_refl a, D.beqs_refl as]
end
def R.calm {a : Type} (r : R a) : R a := match r with
  | .exc _ _ _ => .bad
  | r => r
@[simp] theorem R.calm_ok {a : Type} (x : a) (S : Sto) : (R.ok x S).calm = .ok x S := rfl
@[simp] theorem R.calm_bad {a : Type} : (R.bad : R a).calm = .bad := rfl
theorem Aft.calmB {a b : Type} {g : G} {E : XD} {m : List Addr} {H : Hp} {r : R a} {k : a → Sto → R b} {Q : b → List Addr → Sto → Hp → Prop} (h : Aft g E m H (r.calm.bind k) Q) : Aft g NoX m H r fun x m1 S1 H1 => Aft g E m1 H1 (k x S1) Q := by
  cases r with
  | ok x S => exact fun m' H' e' q => Aft.later (r := k x S) h e'
  | exc c fs S => exact (show False from h).elim
  | bad => exact h

/-! what is walked -/
structure Wk where
  ds : List D
  ok : Sto → Bool
def okL (n : Nat) (ds : List D) : Sto → Bool := fun S => match S[n]? with
  | some (.lst ds') => D.beqs ds ds'
  | _ => false
def JD (g : G) (J : It) (W : Wk) (m0 : List Addr) (H0 : Hp) : Prop :=
  ∀ (i : Nat) (m : List Addr) (S : Sto) (H : Hp), Ext g m0 H0 m H → Rel g m S H → W.ok S = true →
    (W.ds[i]? = none → J.stop i H) ∧ ∀ d, W.ds[i]? = some d → J.go i H ∧ ∀ x H', J.yld i H x H' → Ext g m H m H' ∧ Rel g m S H' ∧ RV g m H' d x
def tI (g : G) (E : XD) (w : Lc → Sto → R Wk) : TI := fun σ H Q => ∃ m S L, Rel g m S H ∧ RL g m H L σ ∧ Aft g E m H (w L S) fun W m' _ H' => ∀ J, JD g J W m' H' → Q J H'
theorem _root_.L2.PI.imp {X : Cx} {tg e : Expr} {t t' : TI} (h : PI X tg e t) (k : ∀ σ H Q, t' σ H Q → t σ H Q) : PI X tg e t' := ⟨fun pins s σ H Q I q => h.run pins s σ H Q I (k σ H Q q)⟩
def forL (ok : Sto → Bool) (t : D → Lc → Sto → R Lc) (fb : SF) : List D → SF
  | [] => fun L S => if ok S = true then .ok (.nx L) S else .bad
  | d :: ds => fun L S => if ok S = true then (t d L S).bind fun L1 S1 => (fb L1 S1).bind fun f S2 => match f with
      | .nx L2 => forL ok t fb ds L2 S2
      | .ct L2 => forL ok t fb ds L2 S2
      | .bk L2 => .ok (.nx L2) S2
      | .rt d => .ok (.rt d) S2
    else .bad
def sFor (w : Lc → Sto → R Wk) (t : D → Lc → Sto → R Lc) (fb : SF) : SF := fun L S => (w L S).bind fun W S1 => forL W.ok t fb W.ds L S1
theorem drop_cons {ds : List D} {i : Nat} {d : D} (h : ds[i]? = some d) : ds.drop i = d :: ds.drop (i + 1) := by
  obtain ⟨hi, rfl⟩ := List.getElem?_eq_some_iff.mp h
  exact List.drop_eq_getElem_cons hi
section
variable {X : Cx} {g : G} {E : XD} {pos : Pos} {tg iter : Expr} {body : List Stmt} {w : Lc → Sto → R Wk} {t : D → Lc → Sto → R Lc} {fb : SF}
theorem ds_for (hp : PassesOwn (model X.prog X.w) X.A X.env X.xe) (hc : X.calm = true) (hi : PI X tg iter (tI g E w)) (hg : PG X tg (tG g E AnyP t)) (hb : PSs X body (tF g E fb))
    (hs : ∀ x, foldedSetIterable iter X.env x = pure x := by intro _; rfl) : PS X (.For tg iter body [] pos) (tF g E (sFor w t fb)) := by
  refine (ps_for hp hc hi hg hb hs).imp fun Dn σ H h => ?_
  obtain ⟨m, S, L, r, l, q⟩ := h
  refine ⟨m, S, L, r, l, (Aft.bind q).mono fun W m1 S1 H1 e1 r1 q1 J hJ => ?_⟩
  refine ⟨fun i k σ' H' => ∃ m' S' L', Ext g m1 H1 m' H' ∧ Rel g m' S' H' ∧ RL g m' H' L' σ' ∧ k = W.ds.length - i ∧ i ≤ W.ds.length ∧ Aft g E m' H' (forL W.ok t fb (W.ds.drop i) L' S') (fQ g Dn),
    ⟨_, m1, S1, L, .refl, r1, l.ext e1, rfl, Nat.zero_le _, q1⟩, ?_⟩
  rintro i k σ' H' ⟨m', S', L', e', r', l', rfl, hle, q'⟩
  cases hd : W.ds[i]? with
  | none =>
    have hlen : W.ds.length ≤ i := List.getElem?_eq_none_iff.mp hd
    rw [List.drop_eq_nil_of_le hlen] at q'
    unfold forL at q'
    split at q'
    · rename_i hok
      exact .inl ⟨(hJ i m' S' H' e' r' hok).1 hd, q'.ok r' σ' l'⟩
    · exact q'.elim
  | some d =>
    have hlt : i < W.ds.length := (List.getElem?_eq_some_iff.mp hd).1
    rw [drop_cons hd] at q'
    unfold forL at q'
    split at q'
    · rename_i hok
      obtain ⟨hgo, hy⟩ := (hJ i m' S' H' e' r' hok).2 d hd
      refine .inr ⟨hgo, fun σ2 H2 => ∃ m2 S2 L2, Ext g m1 H1 m2 H2 ∧ Rel g m2 S2 H2 ∧ RL g m2 H2 L2 σ2 ∧ Aft g E m2 H2 (forL W.ok t fb (W.ds.drop (i + 1)) L2 S2) (fQ g Dn), ?_, fun x H3 y => ?_⟩
      · rintro σ2 H2 ⟨m2, S2, L2, e2, r2, l2, q2⟩
        exact ⟨_, by omega, m2, S2, L2, e2, r2, l2, rfl, hlt, q2⟩
      · obtain ⟨ex, rx, rv⟩ := hy x H3 y
        refine ⟨m', S', L', d, rx, l'.ext ex, rv, ((Aft.bind q').later ex).mono fun L1 m4 S4 H4 e4 r4 q4 σ4 l4 _ => ?_⟩
        refine ⟨m4, S4, L1, r4, l4, (Aft.bind q4).mono fun f m5 S5 H5 e5 r5 q5 => ?_⟩
        have e15 : Ext g m1 H1 m5 H5 := e'.trans (ex.trans (e4.trans e5))
        cases f with
        | nx L2 => exact fun σ5 l5 => ⟨m5, S5, L2, e15, r5, l5, q5⟩
        | ct L2 => exact fun σ5 l5 => ⟨m5, S5, L2, e15, r5, l5, q5⟩
        | bk L2 => exact fun σ5 l5 => q5.ok r5 σ5 l5
        | rt d => exact fun v rv => q5.ok r5 v rv
    · exact q'.elim
end

/-! while -/
def whL (c : Lc → Sto → R Bool) (fb : SF) : Nat → SF
  | 0 => fun _ _ => .bad
  | n + 1 => fun L S => (c L S).bind fun b S1 => if b = true then (fb L S1).bind fun f S2 => match f with
      | .nx L2 => whL c fb n L2 S2
      | .ct L2 => whL c fb n L2 S2
      | .bk L2 => .ok (.nx L2) S2
      | .rt d => .ok (.rt d) S2
    else .ok (.nx L) S1
theorem ds_while {X : Cx} {g : G} {E : XD} {pos : Pos} {c : Expr} {body : List Stmt} {tc : Lc → Sto → R Bool} {fb : SF} (n : Nat) (hp : PassesOwn (model X.prog X.w) X.A X.env X.xe) (hc : PT X c (tT g E tc)) (hb : PSs X body (tF g E fb)) : PS X (.While c body [] pos) (tF g E (whL tc fb n)) := by
  refine (ps_while hp hc hb).imp fun Dn σ H h => ?_
  refine ⟨fun k σ' H' => ∃ m' S' L', Rel g m' S' H' ∧ RL g m' H' L' σ' ∧ Aft g E m' H' (whL tc fb k L' S') (fQ g Dn), ⟨n, h⟩, ?_⟩
  rintro k σ' H' ⟨m', S', L', r', l', q'⟩
  cases k with
  | zero => exact q'.elim
  | succ k =>
    refine ⟨m', S', L', r', l', (Aft.bind q').mono fun b m1 S1 H1 e1 r1 q1 => ?_⟩
    cases b with
    | false => exact q1.ok r1 _ (l'.ext e1)
    | true =>
      refine ⟨fun σ2 H2 => ∃ m2 S2 L2, Rel g m2 S2 H2 ∧ RL g m2 H2 L2 σ2 ∧ Aft g E m2 H2 (whL tc fb k L2 S2) (fQ g Dn), fun σ2 H2 h2 => ⟨k, Nat.lt_succ_self k, h2⟩, ?_⟩
      refine ⟨m1, S1, L', r1, l'.ext e1, (Aft.bind q1).mono fun f m5 S5 H5 e5 r5 q5 => ?_⟩
      cases f with
      | nx L2 => exact fun σ5 l5 => ⟨m5, S5, L2, r5, l5, q5⟩
      | ct L2 => exact fun σ5 l5 => ⟨m5, S5, L2, r5, l5, q5⟩
      | bk L2 => exact fun σ5 l5 => q5.ok r5 σ5 l5
      | rt d => exact fun v rv => q5.ok r5 v rv

/-! list comprehensions -/
def lcL (ok : Sto → Bool) (n : Nat) (t : D → Lc → Sto → R Lc) (tt : Lc → Sto → R Bool) (te : Lc → Sto → R D) (L : Lc) : List D → Sto → R D
  | [] => fun S => if ok S = true then .ok (.ref n) S else .bad
  | d :: ds => fun S => if ok S = true then (t d L S).calm.bind fun L1 S1 => (tt L1 S1).calm.bind fun b S2 =>
      if b = true then (te L1 S2).calm.bind fun y S3 => match S3[n]? with
        | some (.lst acc) => if acc.length < sizeLine then lcL ok n t tt te L ds (S3.set n (.lst (acc ++ [y]))) else .bad
        | _ => .bad
      else lcL ok n t tt te L ds S2
    else .bad
def eLc (w : Lc → Sto → R Wk) (t : D → Lc → Sto → R Lc) (tt : Lc → Sto → R Bool) (te : Lc → Sto → R D) (vs : List Nat) : Lc → Sto → R D := fun L S => (w L S).bind fun W S1 => lcL W.ok S1.length t tt te (wipeL L vs) W.ds (S1 ++ [.lst []])
def tYesD : Lc → Sto → R Bool := fun _ S => .ok true S
section
variable {X : Cx} {g : G} {E : XD} {pos : Pos} {elt tg iter : Expr} {ifs : List Expr} {scope : Scope} {own : List (Str × Nat)} {w : Lc → Sto → R Wk} {t : D → Lc → Sto → R Lc} {tt : Lc → Sto → R Bool} {te : Lc → Sto → R D}
theorem _root_.L2.PTs.imp {X : Cx} {e : List Expr} {t t' : TT} (h : PTs X e t) (k : ∀ σ H Q, t' σ H Q → t σ H Q) : PTs X e t' := ⟨fun pins s σ H Q I q => h.run pins s σ H Q I (k σ H Q q)⟩
theorem dts_nil {E : XD} : PTs X [] (tT g E tYesD) := pts_nil.imp fun σ H Q h => by
  obtain ⟨m, S, L, r, l, q⟩ := h
  exact q.ok r
theorem dts_one {E : XD} {c : Expr} (h : PT X c (tT g E tt)) : PTs X [c] (tT g E tt) := pts_one h
theorem lc_run {σ : St} {H : Hp} {Q : VK} {vs : List Nat} (h : tD g E (eLc w t tt te vs) σ H Q) : tLc (tI g E w) (tG g NoX (WpP vs) t) (tT g NoX tt) (tD g NoX te) vs σ H Q := by
  obtain ⟨m, S, L, r, l, q⟩ := h
  refine ⟨m, S, L, r, l, (Aft.bind q).mono fun W m1 S1 H1 e1 r1 q1 J hJ => ?_⟩
  intro p hp
  have ra := r1.alloc (ob := .lst []) (o := .lst []) hp ⟨[], rfl, .nil⟩
  have ea : Ext g m1 H1 (m1 ++ [p]) (upd H1 p (.lst [])) := ext_new hp [p]
  refine ⟨fun i k H' => ∃ m' S', Ext g (m1 ++ [p]) (upd H1 p (.lst [])) m' H' ∧ Rel g m' S' H' ∧ k = W.ds.length - i ∧ i ≤ W.ds.length ∧ Aft g E m' H' (lcL W.ok S1.length t tt te (wipeL L vs) (W.ds.drop i) S') (vQ g Q),
    ⟨_, _, _, .refl, ra, rfl, Nat.zero_le _, q1.later ea⟩, ?_⟩
  rintro i k H' ⟨m', S', e', r', rfl, hle, q'⟩
  have hn : m'[S1.length]? = some p := e'.get r1.last
  cases hd : W.ds[i]? with
  | none =>
    have hlen : W.ds.length ≤ i := List.getElem?_eq_none_iff.mp hd
    rw [List.drop_eq_nil_of_le hlen] at q'
    unfold lcL at q'
    split at q'
    · rename_i hok
      exact .inl ⟨(hJ i m' S' H' (ea.trans e') r' hok).1 hd, q'.ok r' _ (rv_ref hn)⟩
    · exact q'.elim
  | some d =>
    have hlt : i < W.ds.length := (List.getElem?_eq_some_iff.mp hd).1
    rw [drop_cons hd] at q'
    unfold lcL at q'
    split at q'
    · rename_i hok
      obtain ⟨hgo, hy⟩ := (hJ i m' S' H' (ea.trans e') r' hok).2 d hd
      refine .inr ⟨hgo, fun H2 => ∃ m2 S2, Ext g (m1 ++ [p]) (upd H1 p (.lst [])) m2 H2 ∧ Rel g m2 S2 H2 ∧ Aft g E m2 H2 (lcL W.ok S1.length t tt te (wipeL L vs) (W.ds.drop (i + 1)) S2) (vQ g Q), ?_, fun x H3 y => ?_⟩
      · rintro H2 ⟨m2, S2, e2, r2, q2⟩
        exact ⟨_, by omega, m2, S2, e2, r2, rfl, hlt, q2⟩
      · obtain ⟨ex, rx, rv⟩ := hy x H3 y
        have lw : RL g m' H3 (wipeL L vs) (wipe σ vs) := (l.wipe vs).ext (e1.trans (ea.trans (e'.trans ex)))
        have ww : ∀ (σ : St) (vs : List Nat), wipe (wipe σ vs) vs = wipe σ vs := by
          intro σ vs
          apply List.ext_getElem?
          intro j
          cases hj : (wipe (wipe σ vs) vs)[j]? with
          | none =>
            have := List.getElem?_eq_none_iff.mp hj
            rw [wipe_length, wipe_length] at this
            rw [List.getElem?_eq_none (by rw [wipe_length]; exact this)]
          | some o =>
            have hl : j < σ.length := by have := (List.getElem?_eq_some_iff.mp hj).1; rwa [wipe_length, wipe_length] at this
            cases o with
            | some v => exact (wipe_some hj).1.symm
            | none =>
              have hl2 : j < (wipe σ vs).length := by rw [wipe_length]; exact hl
              cases hk : (wipe σ vs)[j]? with
              | none => rw [List.getElem?_eq_getElem hl2] at hk; cases hk
              | some o2 =>
                cases o2 with
                | none => rfl
                | some v2 =>
                  exfalso
                  have hnj := (wipe_some hk).2
                  have keep : ∀ (us : List Nat), j ∉ us → (wipe (wipe σ vs) us)[j]? = some (some v2) := by
                    intro us hu
                    induction us with
                    | nil => exact hk
                    | cons u us ih =>
                      show ((wipe (wipe σ vs) us).set u none)[j]? = some (some v2)
                      have h1 : u ≠ j := fun z => hu (by simp [z])
                      rw [List.getElem?_set_ne h1]
                      exact ih fun z => hu (List.mem_cons_of_mem _ z)
                  rw [keep vs hnj] at hj
                  cases hj
        refine ⟨m', S', wipeL L vs, d, rx, lw, rv, ((Aft.calmB q').later ex).mono fun L1 m4 S4 H4 e4 r4 q4 σ4 l4 w4 => ?_⟩
        refine ⟨by rw [w4, ww], m4, S4, L1, r4, l4, (Aft.calmB q4).mono fun b m5 S5 H5 e5 r5 q5 => ?_⟩
        have e15 : Ext g (m1 ++ [p]) (upd H1 p (.lst [])) m5 H5 := e'.trans (ex.trans (e4.trans e5))
        cases b with
        | false => exact ⟨m5, S5, e15, r5, q5⟩
        | true =>
          refine ⟨m5, S5, L1, r5, l4.ext e5, (Aft.calmB q5).mono fun y m6 S6 H6 e6 r6 q6 v rv6 => ?_⟩
          have hn6 : m6[S1.length]? = some p := (e15.trans e6).get r1.last
          split at q6
          · rename_i acc hacc
            split at q6
            · rename_i hz
              obtain ⟨o, ho, vs6, rfl, ra6⟩ := r6.ob _ _ _ hn6 hacc
              refine ⟨vs6, ho, by rw [ra6.length]; exact hz, m6, _, (e15.trans e6).trans (ext_set r6 hn6 hacc), r6.set (ob' := .lst (acc ++ [y])) hn6 hacc ⟨vs6 ++ [v], rfl, ra6.append (.cons rv6 .nil)⟩, q6.later (ext_set r6 hn6 hacc)⟩
            · exact q6.elim
          · exact q6.elim
    · exact q'.elim
theorem de_lc {vs : List Nat} (hc : X.calm = true) (hN : X.N.Nodup) (hvs : own.map (·.2) = vs) (hi : PI X tg iter (tI g E w)) (ok : BlkOk X.N X.env.scope scope own)
    (hg : ∀ (s : Shared) (H : Hp) (C : Addr) (cl : List (Str × Addr)) (fp : List Addr), PG (X.blk s H scope (compEnvC scope cl C X.env) fp) tg (tG g NoX (WpP vs) t)) (ht : ∀ (s : Shared) (H : Hp) (C : Addr) (cl : List (Str × Addr)) (fp : List Addr), PTs (X.blk s H scope (compEnvC scope cl C X.env) fp) ifs (tT g NoX tt))
    (he : ∀ (s : Shared) (H : Hp) (C : Addr) (cl : List (Str × Addr)) (fp : List Addr), PE (X.blk s H scope (compEnvC scope cl C X.env) fp) elt (tD g NoX te)) (hs : ∀ x, foldedSetIterable iter X.env x = pure x := by intro _; rfl) :
    PE X (.ListComp elt [⟨tg, iter, ifs, 0⟩] scope pos) (tD g E (eLc w t tt te vs)) := by
  subst hvs
  exact (pe_lc hc hN hi ok hg ht he hs).imp fun σ H Q h => lc_run h
theorem ds_setLc {vs : List Nat} {i : Nat} {y : Str} {py spos : Pos} (hc : X.calm = true) (hN : X.N.Nodup) (hvs : own.map (·.2) = vs) (hy : X.N[i]? = some y) (hyl : X.env.scope.names.lookup y = some .local)
    (hsw : swapsWith (.ListComp elt [⟨tg, iter, ifs, 0⟩] scope pos) (some (.Name y py)) spos.line X.env = pure true) (hi : PI X tg iter (tI g E w)) (ok : BlkOk X.N X.env.scope scope own)
    (hg : ∀ (s : Shared) (H : Hp) (C : Addr) (cl : List (Str × Addr)) (fp : List Addr), PG (X.blk s H scope (compEnvC scope cl C X.env) fp) tg (tG g NoX (WpP vs) t)) (ht : ∀ (s : Shared) (H : Hp) (C : Addr) (cl : List (Str × Addr)) (fp : List Addr), PTs (X.blk s H scope (compEnvC scope cl C X.env) fp) ifs (tT g NoX tt))
    (he : ∀ (s : Shared) (H : Hp) (C : Addr) (cl : List (Str × Addr)) (fp : List Addr), PE (X.blk s H scope (compEnvC scope cl C X.env) fp) elt (tD g NoX te)) (hs : ∀ x, foldedSetIterable iter X.env x = pure x := by intro _; rfl) :
    PS X (.Assign [.Name y py] (.ListComp elt [⟨tg, iter, ifs, 0⟩] scope pos) spos) (tF g E (sSet i (eLc w t tt te vs))) := by
  subst hvs
  refine (ps_setLc hc hN hy hyl hsw hi ok hg ht he hs).imp fun Dn σ H h => ?_
  obtain ⟨m, S, L, r, l, q⟩ := h
  refine lc_run (E := E) ⟨m, S, L, r, l, (Aft.bind q).mono fun d m1 S1 H1 e1 r1 q1 v rv => ?_⟩
  exact q1.ok r1 _ ((l.ext e1).set rv i)
end

/-! defs -/
def spD (g : G) (n : Nat) (F : List D → Sto → R D) : Sp := fun vs H Q _ => vs.length = n ∧ ∃ m S ds, Rel g m S H ∧ RVs g m H ds vs ∧ Aft g NoX m H (F ds S) (vQ g Q)
def dDef (n : Nat) (fb : SF) : List D → Sto → R D := fun ds S => (fb (ds.map some ++ List.replicate (n - ds.length) none) S).bind fun f S' => match f with
  | .rt d => .ok d S'
  | .nx _ => .ok .non S'
  | _ => .bad
def ari (n : Nat) (F : List D → Sto → R D) : List D → Sto → R D := fun ds S => if ds.length = n then F ds S else .bad
section
variable {P : Program} {w : World} {K : PySem.W.Frag} {mg : Str → Option Value} {base : Heap} {g : G}
theorem fn_bad {CX : CXT} {k n : Nat} {f : Addr} {fd : FuncData} {ps : List Str} : FnOk P w K mg base CX k f fd ps (spD g n fun _ _ => .bad) :=
  ⟨fun vs H Q E h => by obtain ⟨_, m, S, ds, _, _, q⟩ := h; exact q.elim, fun A outer s H args us vs Q E hr h0 hb hv h => by obtain ⟨_, m, S, ds, _, _, q⟩ := h; exact q.elim⟩
theorem fn_ok {x qual : Str} {st : Stmt} {f : Addr} {fd : FuncData} {N ps : List Str} {k n nn : Nat} {fb : SF} (F : Fun K x qual st f fd) (Sc : FnScope N ps (defScope st)) (hn : ps.length = n) (hN : N.length = nn)
    (hbody : ∀ (cdv : Value) (A : Around) (outer : List Env) (s : Shared) (H : Hp) (E : XK), Room k (A.deeper (envOfC qual (defScope st) s.heap.objs.size f cdv)) →
      PSs (cxOf CX0 P w K mg base N qual (defScope st) f cdv A outer s H E).nox (defBody st) (tF g NoX fb)) : FnOk P w K mg base CX0 (k + 1) f fd ps (spD g n (dDef nn fb)) := by
  refine F.ok Sc (fun vs H Q E h => h.1.trans hn.symm) fun cdv A outer s H vs Q E hr h => ?_
  obtain ⟨hl, m, S, ds, r, rv, q⟩ := h
  refine ⟨_, hbody cdv A outer s H E hr, m, S, _, r, RL.begin rv N, ?_⟩
  rw [hN]
  refine (Aft.bind q).mono fun fl m1 S1 H1 e1 r1 q1 => ?_
  cases fl with
  | rt d => exact fun v rv => q1.ok r1 v rv
  | nx L => exact fun σ _ => q1.ok r1 _ rv_non
  | bk L => exact q1.elim
  | ct L => exact q1.elim
end
theorem de_call {X : Cx} {g : G} {k n : Nat} {f : Addr} {fd : FuncData} {ps : List Str} {Fn : List D → Sto → R D} {x : Str} {p pos : Pos} {e : Expr} {es : List Expr} {ls : Lc → Sto → R (List D)} (F : FnOk X.prog X.w X.K X.mg X.base CX0 k f fd ps (spD g n Fn)) (hr : Room k X.A) (hg : Gl X x) (hm : X.mg x = some (.ref f)) (hk : PySem.W.keepIn X.K (.ref f) = true) (hb : Binds X.K fd ps [])
    (ha : PA X (e :: es) (tL g NoX ls)) (hdb : (x == ("__debug__" : Str)) = false := by decide) (he : starEach (e :: es) X.env = (false, eval e X.env) :: starEach es X.env := by rfl) (hpl : (backTo pos (starEach es X.env)).any (·.1) = false := by rfl) :
    PE X (.Call (.Name x p) (e :: es) [] pos) (tD g NoX (eCall (ari n Fn) ls)) := by
  refine (pe_call F hr hg hm hk hb .nil pass0 ha hdb he hpl).imp fun σ H Q h => ?_
  obtain ⟨m, S, L, r, l, q⟩ := h
  refine ⟨m, S, L, r, l, (Aft.bind q).mono fun ds m1 S1 H1 e1 r1 q1 vs rvs => ?_⟩
  unfold ari at q1
  split at q1
  · rename_i hz
    rw [List.append_nil]
    exact ⟨by rw [rvs.length]; exact hz, m1, S1, ds, r1, rvs, q1⟩
  · exact q1.elim
end DL

namespace DL
open PySem PySem.Spec PyProof.Rows L2

/-! reading a sequence -/
def lstOf (d : D) (S : Sto) (g : String → Option Ob) : Option (List D) := match d with
  | .ref n => match S[n]? with
    | some (.lst ds) => some ds
    | _ => none
  | .kref s => match g s with
    | some (.lst ds) => some ds
    | _ => none
  | _ => none
theorem lst_run {g : G} {m : List Addr} {S : Sto} {H : Hp} (r : Rel g m S H) {d : D} {v : V} (rv : RV g m H d v) {ds : List D} (h : lstOf d S g.ko = some ds) : ∃ a vs, v = .ref a ∧ SqL g.K H a vs ∧ RVs g m H ds vs := by
  unfold lstOf at h
  cases d with
  | ref n =>
    obtain ⟨a, rfl, ha⟩ := of_ref rv
    simp only at h
    split at h
    · rename_i ds' e
      cases h
      obtain ⟨o, h1, vs, rfl, h2⟩ := r.ob n a _ ha e
      exact ⟨a, vs, rfl, .of h1, h2⟩
    · cases h
  | kref s =>
    obtain ⟨a, rfl, ha⟩ := of_kref rv
    simp only at h
    split at h
    · rename_i ds' e
      cases h
      obtain ⟨vs, h1, h2⟩ := r.ro s a _ ha e
      refine ⟨a, vs, rfl, h1.sq, h2.ext ⟨⟨m, rfl⟩, fun _ _ q => q, fun _ _ _ q => q⟩⟩
    · cases h
  | _ => cases h
theorem lst_ref {g : G} {m : List Addr} {S : Sto} {H : Hp} (r : Rel g m S H) {n : Nat} {v : V} (rv : RV g m H (.ref n) v) {ds : List D} (h : S[n]? = some (.lst ds)) : ∃ a vs, v = .ref a ∧ m[n]? = some a ∧ H a = some (.lst vs) ∧ RVs g m H ds vs := by
  obtain ⟨a, rfl, ha⟩ := of_ref rv
  obtain ⟨o, h1, vs, rfl, h2⟩ := r.ob n a _ ha h
  exact ⟨a, vs, rfl, ha, h1, h2⟩

section
variable {X : Cx} {g : G} {E : XD}

/-! + -/
def addD (x y : D) (S : Sto) : R D := match x, y with
  | .int i, .int j => .ok (.int (i + j)) S
  | .str a, .str b => if a.length + b.length ≤ sizeLine then .ok (.str (a ++ b)) S else .bad
  | .tup a, .tup b => if a.length + b.length ≤ sizeLine then .ok (.tup (a ++ b)) S else .bad
  | .ref a, .ref b => match S[a]?, S[b]? with
    | some (.lst xs), some (.lst ys) => newL (xs ++ ys) S
    | _, _ => .bad
  | _, _ => .bad
theorem od_add (hK : X.K = g.K) : OpR X (binaryOp .Add) (rD2 g E addD) := by
  intro pins s σ H x y v u Q I rx ry h
  obtain ⟨m, S, d, d', r, h1, h2, q⟩ := h
  unfold addD at q
  split at q
  · exact op_add pins s σ H x y v u Q I rx ry ⟨_, _, of_int h1, of_int h2, q.ok r _ rv_int⟩
  · split at q
    · rename_i hz
      exact op_add_str pins s σ H x y v u Q I rx ry ⟨_, _, of_str h1, of_str h2, hz, q.ok r _ rv_str⟩
    · exact q.elim
  · split at q
    · rename_i ds es hz
      obtain ⟨a, vs, rfl, s1, v1⟩ := of_tup h1
      obtain ⟨b, us, rfl, s2, v2⟩ := of_tup h2
      refine op_catA pins s σ H _ _ v u Q I rx ry ⟨a, b, vs, us, rfl, rfl, by rw [hK]; exact s1, by rw [hK]; exact s2, by rw [v1.length, v2.length]; exact hz, fun e => ?_, fun _ e => ?_, fun _ _ p hp => ?_⟩
      · subst e
        have : ds = [] := by have := v1.length; cases ds; rfl; simp at this
        subst this
        exact q.ok r _ (rv_tup s2 v2)
      · subst e
        have : es = [] := by have := v2.length; cases es; rfl; simp at this
        subst this
        rw [List.append_nil] at q
        exact q.ok r _ (rv_tup s1 v1)
      · exact q.at (ext_lay hp) (r.lay hp) _ (rv_tup (.inl (.inl upd_same)) ((v1.append v2).ext (ext_lay hp)))
    · exact q.elim
  · split at q
    · rename_i xs ys e1 e2
      obtain ⟨a, vs, rfl, _, H1, v1⟩ := lst_ref r h1 e1
      obtain ⟨b, us, rfl, _, H2, v2⟩ := lst_ref r h2 e2
      obtain ⟨hz, q'⟩ := newL_run q r (v1.append v2)
      exact op_cat pins s σ H _ _ v u Q I rx ry ⟨a, b, vs, us, rfl, rfl, H1, H2, by rw [← List.length_append]; exact hz, q'⟩
    · exact q.elim
  · exact q.elim
def subD (x y : D) (S : Sto) : R D := match x, y with
  | .int i, .int j => .ok (.int (i - j)) S
  | _, _ => .bad
theorem od_sub : OpR X (binaryOp .Sub) (rD2 g E subD) := by
  intro pins s σ H x y v u Q I rx ry h
  obtain ⟨m, S, d, d', r, h1, h2, q⟩ := h
  unfold subD at q
  split at q
  · exact op_sub pins s σ H x y v u Q I rx ry ⟨_, _, of_int h1, of_int h2, q.ok r _ rv_int⟩
  · exact q.elim
def mulD (x y : D) (S : Sto) : R D := match x, y with
  | .int i, .int j => if Builtin.Int.intBits i + Builtin.Int.intBits j ≤ 134217728 then .ok (.int (i * j)) S else .bad
  | .ref a, .int k => match S[a]? with
    | some (.lst xs) => if -(2 ^ 63) ≤ k ∧ k < 2 ^ 63 then newL (List.replicate k.toNat xs).flatten S else .bad
    | _ => .bad
  | _, _ => .bad
theorem od_mul : OpR X (binaryOp .Mult) (rD2 g E mulD) := by
  intro pins s σ H x y v u Q I rx ry h
  obtain ⟨m, S, d, d', r, h1, h2, q⟩ := h
  unfold mulD at q
  split at q
  · split at q
    · rename_i hz
      exact op_mulX pins s σ H x y v u Q I rx ry ⟨_, _, of_int h1, of_int h2, by unfold CMulX; omega, q.ok r _ rv_int⟩
    · exact q.elim
  · split at q
    · rename_i xs e1
      split at q
      · rename_i hz
        obtain ⟨a, vs, rfl, _, H1, v1⟩ := lst_ref r h1 e1
        obtain ⟨hz', q'⟩ := newL_run q r (v1.rep _)
        refine op_rep pins s σ H _ _ v u Q I rx ry ⟨a, _, vs, rfl, of_int h2, H1, hz.1, hz.2, ?_, q'⟩
        simpa [List.length_flatten, Nat.mul_comm] using hz'
      · exact q.elim
    · exact q.elim
  · exact q.elim
def modD (x y : D) (S : Sto) : R D := match x, y with
  | .int i, .int j => if 0 < j then .ok (.int (i % j)) S else .bad
  | _, _ => .bad
theorem od_mod : OpR X (binaryOp .Mod) (rD2 g E modD) := by
  intro pins s σ H x y v u Q I rx ry h
  obtain ⟨m, S, d, d', r, h1, h2, q⟩ := h
  unfold modD at q
  split at q
  · split at q
    · rename_i hz
      exact op_mod pins s σ H x y v u Q I rx ry ⟨_, _, of_int h1, of_int h2, hz, q.ok r _ rv_int⟩
    · exact q.elim
  · exact q.elim
def fdivD (x y : D) (S : Sto) : R D := match x, y with
  | .int i, .int j => if 0 < j ∧ j.natAbs.log2 < 9000 then .ok (.int (i / j)) S else .bad
  | _, _ => .bad
theorem od_fdiv : OpR X (binaryOp .FloorDiv) (rD2 g E fdivD) := by
  intro pins s σ H x y v u Q I rx ry h
  obtain ⟨m, S, d, d', r, h1, h2, q⟩ := h
  unfold fdivD at q
  split at q
  · split at q
    · rename_i hz
      exact op_fdivW pins s σ H x y v u Q I rx ry ⟨_, _, of_int h1, of_int h2, hz, q.ok r _ rv_int⟩
    · exact q.elim
  · exact q.elim
def powD (x y : D) (S : Sto) : R D := match x, y with
  | .int i, .int j => if 0 ≤ j ∧ j ≤ 1000000 ∧ i.natAbs < 2 ^ 64 then .ok (.int (i ^ j.toNat)) S else .bad
  | _, _ => .bad
theorem od_pow : OpR X (binaryOp .Pow) (rD2 g E powD) := by
  intro pins s σ H x y v u Q I rx ry h
  obtain ⟨m, S, d, d', r, h1, h2, q⟩ := h
  unfold powD at q
  split at q
  · split at q
    · rename_i hz
      exact op_pow pins s σ H x y v u Q I rx ry ⟨_, _, of_int h1, of_int h2, hz, q.ok r _ rv_int⟩
    · exact q.elim
  · exact q.elim
def negD (x : D) (S : Sto) : R D := match x with
  | .int i => .ok (.int (-i)) S
  | _ => .bad
theorem ud_neg : UnR X (unaryOp .USub) (rD1 g E negD) := by
  intro pins s σ H x v Q I rx h
  obtain ⟨m, S, d, r, h1, q⟩ := h
  unfold negD at q
  split at q
  · exact un_neg pins s σ H x v Q I rx ⟨_, of_int h1, q.ok r _ rv_int⟩
  · exact q.elim

/-! comparisons -/
def ordD (fi : Int → Int → Bool) (x y : D) (S : Sto) : R D := match x, y with
  | .int i, .int j => .ok (.bl (fi i j)) S
  | _, _ => .bad
theorem od_lt : OpR X (compareOp .Lt) (rD2 g E (ordD fun i j => decide (i < j))) := by
  intro pins s σ H x y v u Q I rx ry h
  obtain ⟨m, S, d, d', r, h1, h2, q⟩ := h
  unfold ordD at q
  split at q
  · exact op_lt pins s σ H x y v u Q I rx ry ⟨_, _, of_int h1, of_int h2, q.ok r _ rv_bl⟩
  · exact q.elim
theorem od_le : OpR X (compareOp .LtE) (rD2 g E (ordD fun i j => decide (i ≤ j))) := by
  intro pins s σ H x y v u Q I rx ry h
  obtain ⟨m, S, d, d', r, h1, h2, q⟩ := h
  unfold ordD at q
  split at q
  · exact op_le pins s σ H x y v u Q I rx ry ⟨_, _, of_int h1, of_int h2, q.ok r _ rv_bl⟩
  · exact q.elim
theorem od_gt : OpR X (compareOp .Gt) (rD2 g E (ordD fun i j => decide (j < i))) := by
  intro pins s σ H x y v u Q I rx ry h
  obtain ⟨m, S, d, d', r, h1, h2, q⟩ := h
  unfold ordD at q
  split at q
  · exact op_gt pins s σ H x y v u Q I rx ry ⟨_, _, of_int h1, of_int h2, q.ok r _ rv_bl⟩
  · exact q.elim
theorem od_ge : OpR X (compareOp .GtE) (rD2 g E (ordD fun i j => decide (j ≤ i))) := by
  intro pins s σ H x y v u Q I rx ry h
  obtain ⟨m, S, d, d', r, h1, h2, q⟩ := h
  unfold ordD at q
  split at q
  · exact op_ge pins s σ H x y v u Q I rx ry ⟨_, _, of_int h1, of_int h2, q.ok r _ rv_bl⟩
  · exact q.elim
/-- is, of None and bools -/
def D.isNon : D → Bool
  | .non => true
  | _ => false
def isD (neg : Bool) (x y : D) (S : Sto) : R D := match y with
  | .non => .ok (.bl (neg != x.isNon)) S
  | .bl b => match x with
    | .bl a => .ok (.bl (neg != decide (a = b))) S
    | _ => .bad
  | _ => .bad
theorem isnon_run {m : List Addr} {H : Hp} {d : D} {x : V} (h : RV g m H d x) : decide (x = .non) = d.isNon := by
  cases d with
  | non => rw [of_non h]; rfl
  | bl b => rw [of_bl h]; rfl
  | int b => rw [of_int h]; rfl
  | str b => rw [of_str h]; rfl
  | ty b => rw [of_ty h]; rfl
  | tup ds => obtain ⟨a, vs, rfl, _⟩ := of_tup h; rfl
  | ref n => obtain ⟨a, rfl, _⟩ := of_ref h; rfl
  | kref n => obtain ⟨a, rfl, _⟩ := of_kref h; rfl
theorem od_is : OpR X (compareOp .Is) (rD2 g E (isD false)) := by
  intro pins s σ H x y v u Q I rx ry h
  obtain ⟨m, S, d, d', r, h1, h2, q⟩ := h
  unfold isD at q
  split at q
  · exact op_isN pins s σ H x y v u Q I rx ry ⟨of_non h2, by rw [isnon_run h1]; exact q.ok r _ (by simp [rv_bl])⟩
  · split at q
    · exact op_isBl pins s σ H x y v u Q I rx ry ⟨_, _, of_bl h1, of_bl h2, q.ok r _ (by simp [rv_bl])⟩
    · exact q.elim
  · exact q.elim
theorem od_isnot : OpR X (compareOp .IsNot) (rD2 g E (isD true)) := by
  intro pins s σ H x y v u Q I rx ry h
  obtain ⟨m, S, d, d', r, h1, h2, q⟩ := h
  unfold isD at q
  split at q
  · exact op_notN pins s σ H x y v u Q I rx ry ⟨of_non h2, by rw [isnon_run h1]; exact q.ok r _ (by simp [rv_bl])⟩
  · split at q
    · exact op_notBl pins s σ H x y v u Q I rx ry ⟨_, _, of_bl h1, of_bl h2, q.ok r _ (by simp [rv_bl])⟩
    · exact q.elim
  · exact q.elim

/-! == of data -/
mutual
def toP (ko : String → Option Ob) (S : Sto) : Nat → D → Option PyData
  | 0, _ => none
  | _ + 1, .non => some .none
  | _ + 1, .bl b => some (.bool b)
  | _ + 1, .int i => some (.int i)
  | _ + 1, .str x => some (.str x)
  | k + 1, .tup ds => (toPs ko S k ds).map .tuple
  | k + 1, .ref n => match S[n]? with
    | some (.lst ds) => (toPs ko S k ds).map .list
    | _ => none
  | k + 1, .kref n => match ko n with
    | some (.lst ds) => (toPs ko S k ds).map .list
    | _ => none
  | _ + 1, .ty _ => none
def toPs (ko : String → Option Ob) (S : Sto) : Nat → List D → Option (List PyData)
  | _, [] => some []
  | 0, _ :: _ => none
  | k + 1, d :: ds => match toP ko S (k + 1) d, toPs ko S (k + 1) ds with
    | some p, some ps => some (p :: ps)
    | _, _ => none
end
mutual
theorem toP_run {g : G} {m : List Addr} {S : Sto} {H : Hp} (r : Rel g m S H) : ∀ (k : Nat) {d : D} {v : V} {p : PyData}, RV g m H d v → toP g.ko S k d = some p → Dp g.K H v p
  | 0, d, v, p, _, e => by simp [toP] at e
  | k + 1, d, v, p, h, e => by
    cases d with
    | non => simp [toP] at e; subst e; rw [of_non h]; exact .non
    | bl b => simp [toP] at e; subst e; rw [of_bl h]; exact .bl b
    | int b => simp [toP] at e; subst e; rw [of_int h]; exact .int b
    | str b => simp [toP] at e; subst e; rw [of_str h]; exact .str b
    | ty b => simp [toP] at e
    | tup ds =>
      simp [toP] at e
      obtain ⟨ps, e1, rfl⟩ := e
      obtain ⟨a, vs, rfl, h1, h2⟩ := of_tup h
      exact .tup h1 (toPs_run r k h2 e1)
    | ref n =>
      simp only [toP] at e
      split at e
      · rename_i ds e0
        simp at e
        obtain ⟨ps, e1, rfl⟩ := e
        obtain ⟨a, vs, rfl, _, h1, h2⟩ := lst_ref r h e0
        exact .lst (.of h1) (toPs_run r k h2 e1)
      · cases e
    | kref n =>
      simp only [toP] at e
      split at e
      · rename_i ds e0
        simp at e
        obtain ⟨ps, e1, rfl⟩ := e
        obtain ⟨a, vs, rfl, h1, h2⟩ := lst_run r h (ds := ds) (by simp [lstOf, e0])
        exact .lst h1 (toPs_run r k h2 e1)
      · cases e
theorem toPs_run {g : G} {m : List Addr} {S : Sto} {H : Hp} (r : Rel g m S H) : ∀ (k : Nat) {ds : List D} {vs : List V} {ps : List PyData}, RVs g m H ds vs → toPs g.ko S k ds = some ps → DpAll g.K H vs ps
  | k, [], vs, ps, h, e => by rw [h.nil_iff]; cases k <;> (simp [toPs] at e; subst e; exact .nil)
  | 0, d :: ds, vs, ps, h, e => by simp [toPs] at e
  | k + 1, d :: ds, vs, ps, h, e => by
    obtain ⟨v, rr, rfl, h1, h2⟩ := h.cons_iff
    simp only [toPs] at e
    split at e
    · rename_i p ps' e1 e2
      cases e
      exact .cons (toP_run r (k + 1) h1 e1) (toPs_run r (k + 1) h2 e2)
    · cases e
end
def eqD (neg : Bool) (ko : String → Option Ob) (x y : D) (S : Sto) : R D := match x, y with
  | .int i, .int j => .ok (.bl (neg != decide (i = j))) S
  | .str i, .str j => .ok (.bl (neg != decide (i = j))) S
  | .bl i, .bl j => .ok (.bl (neg != decide (i = j))) S
  | x, y => match toP ko S 65 x, toP ko S 65 y with
    | some p, some q => if SeqAt.shaped p = true ∧ SeqAt.shaped q = true then .ok (.bl (neg != PyData.eqv p q)) S else .bad
    | _, _ => .bad
theorem od_eq (hK : X.K = g.K) (hu : X.A.units + 64 < cLine) : OpR X (compareOp .Eq) (rD2 g E (eqD false g.ko)) := by
  intro pins s σ H x y v u Q I rx ry h
  obtain ⟨m, S, d, d', r, h1, h2, q⟩ := h
  unfold eqD at q
  split at q
  · cases of_int h1
    cases of_int h2
    exact op_eq pins s σ H _ _ v u Q I rx ry ⟨rfl, q.ok r _ (by simp [RV])⟩
  · cases of_str h1
    cases of_str h2
    exact op_eq pins s σ H _ _ v u Q I rx ry ⟨rfl, q.ok r _ (by simp [RV])⟩
  · cases of_bl h1
    cases of_bl h2
    exact op_eq pins s σ H _ _ v u Q I rx ry ⟨rfl, q.ok r _ (by simp [RV])⟩
  · split at q
    · rename_i p p' e1 e2
      split at q
      · rename_i hs
        refine op_eqD hu pins s σ H _ _ v u Q I rx ry ⟨p, p', by rw [hK]; exact toP_run r _ h1 e1, by rw [hK]; exact toP_run r _ h2 e2, hs.1, hs.2, q.ok r _ (by simp [rv_bl])⟩
      · exact q.elim
    · exact q.elim
theorem od_ne (hK : X.K = g.K) (hu : X.A.units + 64 < cLine) : OpR X (compareOp .NotEq) (rD2 g E (eqD true g.ko)) := by
  intro pins s σ H x y v u Q I rx ry h
  obtain ⟨m, S, d, d', r, h1, h2, q⟩ := h
  unfold eqD at q
  split at q
  · cases of_int h1
    cases of_int h2
    exact op_ne pins s σ H _ _ v u Q I rx ry ⟨rfl, q.ok r _ (by simp [RV])⟩
  · cases of_str h1
    cases of_str h2
    exact op_ne pins s σ H _ _ v u Q I rx ry ⟨rfl, q.ok r _ (by simp [RV])⟩
  · cases of_bl h1
    cases of_bl h2
    exact op_ne pins s σ H _ _ v u Q I rx ry ⟨rfl, q.ok r _ (by simp [RV])⟩
  · split at q
    · rename_i p p' e1 e2
      split at q
      · rename_i hs
        refine op_neD hu pins s σ H _ _ v u Q I rx ry ⟨p, p', by rw [hK]; exact toP_run r _ h1 e1, by rw [hK]; exact toP_run r _ h2 e2, hs.1, hs.2, q.ok r _ (by simp [rv_bl])⟩
      · exact q.elim
    · exact q.elim

/-! subscripts -/
def ixD (ko : String → Option Ob) (x y : D) (S : Sto) : R D := match y with
  | .int i => match x with
    | .tup ds => match atI ds i with
      | some d => .ok d S
      | none => .bad
    | .str z => if z.length ≤ sizeLine then (match atI z.cps.toList i with
      | some c => .ok (.str ⟨#[c]⟩) S
      | none => .bad) else .bad
    | x => match lstOf x S ko with
      | some ds => match atI ds i with
        | some d => .ok d S
        | none => .bad
      | none => .bad
  | _ => .bad
theorem at_run {g : G} {m : List Addr} {H : Hp} {ds : List D} {vs : List V} (h : RVs g m H ds vs) {i : Int} {d : D} (e : atI ds i = some d) : ∃ v, atI vs i = some v ∧ RV g m H d v := by
  unfold atI at e ⊢
  rw [h.length]
  cases q : ixN ds.length i with
  | none => rw [q] at e; cases e
  | some j =>
    rw [q] at e
    exact h.get e
theorem xd_ix (hK : X.K = g.K) : IxR X (rD2 g E (ixD g.ko)) := by
  intro value slice pins s σ H x y v u Q I rx ry h hs
  obtain ⟨m, S, d, d', r, h1, h2, q⟩ := h
  unfold ixD at q
  split at q
  · rename_i i
    split at q
    · split at q
      · rename_i e
        obtain ⟨a, vs, rfl, s1, v1⟩ := of_tup h1
        obtain ⟨w, e1, e2⟩ := at_run v1 e
        exact ix_tup value slice pins s σ H _ _ v u Q I rx ry ⟨a, vs, _, w, rfl, of_int h2, by rw [hK]; exact s1, e1, q.ok r _ e2⟩ hs
      · exact q.elim
    · split at q
      · rename_i hz
        split at q
        · rename_i e
          exact ix_str value slice pins s σ H _ _ v u Q I rx ry ⟨_, _, _, of_str h1, of_int h2, hz, e, q.ok r _ rv_str⟩ hs
        · exact q.elim
      · exact q.elim
    · split at q
      · rename_i e0
        split at q
        · rename_i e
          obtain ⟨a, vs, rfl, s1, v1⟩ := lst_run r h1 e0
          obtain ⟨w, e1, e2⟩ := at_run v1 e
          exact ix_list value slice pins s σ H _ _ v u Q I rx ry ⟨a, vs, _, w, rfl, of_int h2, by rw [hK]; exact s1, e1, q.ok r _ e2⟩ hs
        · exact q.elim
      · exact q.elim
  · exact q.elim
def setD (x y z : D) (S : Sto) : R Unit := match x, y with
  | .ref n, .int k => match S[n]? with
    | some (.lst ds) => match ixN ds.length k with
      | some j => .ok () (S.set n (.lst (ds.set j z)))
      | none => .bad
    | _ => .bad
  | _, _ => .bad
theorem sd_set : PSet X (rSet g E setD) := by
  intro pins s σ H o i v ov iv u Q I ro ri rv h
  obtain ⟨m, S, d1, d2, d3, r, h1, h2, h3, q⟩ := h
  unfold setD at q
  split at q
  · split at q
    · rename_i ds e0
      split at q
      · rename_i j e1
        obtain ⟨a, vs, rfl, ha, H1, v1⟩ := lst_ref r h1 e0
        refine set_list pins s σ H _ _ v ov iv u Q I ro ri rv ⟨a, vs, _, j, rfl, of_int h2, H1, by rw [v1.length]; exact e1, ?_⟩
        exact q.at (ext_set r ha e0) (r.set ha e0 ⟨_, rfl, v1.set j h3⟩)
      · exact q.elim
    · exact q.elim
  · exact q.elim

/-! slices -/
def pNo : Lc → Sto → R (Option Int) := fun _ S => .ok none S
def pSo (e : Lc → Sto → R D) : Lc → Sto → R (Option Int) := fun L S => (e L S).bind fun d S1 => match d with
  | .int i => .ok (some i) S1
  | _ => .bad
def cutD (xs : List D) (lo hi : Option Int) : List D := (xs.drop (HT.sIx xs.length 0 lo)).take (HT.sIx xs.length xs.length hi - HT.sIx xs.length 0 lo)
theorem RVs.cut {g : G} {m : List Addr} {H : Hp} {ds : List D} {vs : List V} (h : RVs g m H ds vs) (lo hi : Option Int) : RVs g m H (cutD ds lo hi) (cutV vs lo hi) := by
  unfold cutD cutV
  rw [h.length]
  exact (h.drop _).take _
def slD (ko : String → Option Ob) (x : D) (lo hi : Option Int) (S : Sto) : R D := match x with
  | .tup ds => .ok (.tup (cutD ds lo hi)) S
  | .str z => if z.length ≤ sizeLine then .ok (.str (cutS z lo hi)) S else .bad
  | x => match lstOf x S ko with
    | some ds => newL (cutD ds lo hi) S
    | none => .bad
def eSl (ko : String → Option Ob) (e : Lc → Sto → R D) (lo hi : Lc → Sto → R (Option Int)) : Lc → Sto → R D := fun L S => (e L S).bind fun x S1 => (lo L S1).bind fun l S2 => (hi L S2).bind fun h S3 => slD ko x l h S3
def tP (g : G) (E : XD) (e : Lc → Sto → R (Option Int)) : TO := fun σ H Q => ∃ m S L, Rel g m S H ∧ RL g m H L σ ∧ Aft g E m H (e L S) fun o _ _ H' => Q o H'
theorem dp_none : PO X none (tP g E pNo) := by
  refine ⟨fun pins s σ H Q I h => ?_⟩
  obtain ⟨m, S, L, r, l, q⟩ := h
  exact po_none.run pins s σ H Q I (q.ok r)
theorem dp_some {e : Expr} {ea : Lc → Sto → R D} (he : PE X e (tD g E ea)) : PO X (some e) (tP g E (pSo ea)) := by
  refine ⟨fun pins s σ H Q I h => ?_⟩
  refine (po_some he).run pins s σ H Q I ?_
  obtain ⟨m, S, L, r, l, q⟩ := h
  refine ⟨m, S, L, r, l, (Aft.bind q).mono fun d m1 S1 H1 e1 r1 q1 v rv => ?_⟩
  split at q1
  · exact ⟨_, of_int rv, q1.ok r1⟩
  · exact q1.elim
def rSl (g : G) (E : XD) (f : D → Option Int → Option Int → Sto → R D) : V → Option Int → Option Int → Hp → VK → Prop := fun x lo hi H Q => ∃ m S d, Rel g m S H ∧ RV g m H d x ∧ Aft g E m H (f d lo hi S) (vQ g Q)
theorem sx_sl (hK : X.K = g.K) : SlR X (rSl g E (slD g.ko)) := by
  intro pins s σ H x v vl vu lo hi sl Q I rx hs pl pu h
  obtain ⟨m, S, d, r, h1, q⟩ := h
  unfold slD at q
  split at q
  · rename_i ds
    obtain ⟨a, vs, rfl, s1, v1⟩ := of_tup h1
    refine sl_tupA pins s σ H _ v vl vu lo hi sl Q I rx hs pl pu ⟨a, vs, rfl, by rw [hK]; exact s1, fun hw => ?_, fun _ p hp => ?_⟩
    · have : cutD ds lo hi = ds := by
        unfold cutD
        rw [v1.length] at hw
        rw [hw.1, hw.2]
        simp
      rw [this] at q
      exact q.ok r _ (rv_tup s1 v1)
    · exact q.at (ext_lay hp) (r.lay hp) _ (rv_tup (.inl (.inl upd_same)) ((v1.cut lo hi).ext (ext_lay hp)))
  · split at q
    · rename_i hz
      exact sl_str pins s σ H _ v vl vu lo hi sl Q I rx hs pl pu ⟨_, of_str h1, hz, q.ok r _ rv_str⟩
    · exact q.elim
  · split at q
    · rename_i ds e0
      obtain ⟨a, vs, rfl, s1, v1⟩ := lst_run r h1 e0
      obtain ⟨_, q'⟩ := newL_run q r (v1.cut lo hi)
      exact sl_list pins s σ H _ v vl vu lo hi sl Q I rx hs pl pu ⟨a, vs, rfl, by rw [hK]; exact s1, q'⟩
    · exact q.elim
theorem de_sl {e : Expr} {lo hi : Option Expr} {p2 pos : Pos} {ea : Lc → Sto → R D} {el eh : Lc → Sto → R (Option Int)} (hK : X.K = g.K) (he : PE X e (tD g E ea)) (hl : PO X lo (tP g E el)) (hu : PO X hi (tP g E eh)) : PE X (.Subscript e (.Slice lo hi none p2) pos) (tD g E (eSl g.ko ea el eh)) := by
  refine (pe_slice (sx_sl (E := E) hK) he hl hu).imp fun σ H Q h => ?_
  obtain ⟨m, S, L, r, l, q⟩ := h
  refine ⟨m, S, L, r, l, (Aft.bind q).mono fun d m1 S1 H1 e1 r1 q1 v rv => ?_⟩
  refine ⟨m1, S1, L, r1, l.ext e1, (Aft.bind q1).mono fun lo m2 S2 H2 e2 r2 q2 => ?_⟩
  refine ⟨m2, S2, L, r2, l.ext (e1.trans e2), (Aft.bind q2).mono fun hi m3 S3 H3 e3 r3 q3 => ?_⟩
  exact ⟨m3, S3, d, r3, rv.ext (e2.trans e3), q3⟩
end
end DL

namespace DL
open PySem PySem.Spec PyProof.Rows L2
section
variable {X : Cx} {g : G} {E : XD}
theorem rvs1 {m : List Addr} {H : Hp} {d : D} {vs : List V} (h : RVs g m H [d] vs) : ∃ v, vs = [v] ∧ RV g m H d v := by
  obtain ⟨v, r, rfl, h1, h2⟩ := h.cons_iff
  rw [h2.nil_iff]
  exact ⟨v, rfl, h1⟩
theorem rvs2 {m : List Addr} {H : Hp} {d d' : D} {vs : List V} (h : RVs g m H [d, d'] vs) : ∃ v v', vs = [v, v'] ∧ RV g m H d v ∧ RV g m H d' v' := by
  obtain ⟨v, r, rfl, h1, h2⟩ := h.cons_iff
  obtain ⟨v', rfl, h3⟩ := rvs1 h2
  exact ⟨v, v', rfl, h1, h3⟩
/-! len, abs, int, min, max, tuple, list, sum, all, any -/
def lenD (ko : String → Option Ob) (ds : List D) (S : Sto) : R D := match ds with
  | [.str z] => if z.length ≤ sizeLine then .ok (.int z.length) S else .bad
  | [.tup ds] => .ok (.int ds.length) S
  | [x] => match lstOf x S ko with
    | some ds => .ok (.int ds.length) S
    | none => .bad
  | _ => .bad
theorem cd_len (hK : X.K = g.K) : CallR X (.builtin "len") (rDs g E (lenD g.ko)) := by
  intro pins s σ H xs us Q I r h
  obtain ⟨m, S, ds, rl, h1, q⟩ := h
  unfold lenD at q
  split at q
  · split at q
    · rename_i hz
      obtain ⟨v, rfl, h2⟩ := rvs1 h1
      exact call_len_str pins s σ H _ us Q I r ⟨_, by rw [of_str h2], hz, q.ok rl _ rv_int⟩
    · exact q.elim
  · obtain ⟨v, rfl, h2⟩ := rvs1 h1
    obtain ⟨a, vs, rfl, s1, v1⟩ := of_tup h2
    exact call_len_seq pins s σ H _ us Q I r ⟨a, vs, rfl, .inr (by rw [hK]; exact s1), by rw [v1.length]; exact q.ok rl _ rv_int⟩
  · split at q
    · rename_i e
      obtain ⟨v, rfl, h2⟩ := rvs1 h1
      obtain ⟨a, vs, rfl, s1, v1⟩ := lst_run rl h2 e
      exact call_len_seq pins s σ H _ us Q I r ⟨a, vs, rfl, .inl (by rw [hK]; exact s1), by rw [v1.length]; exact q.ok rl _ rv_int⟩
    · exact q.elim
  · exact q.elim
def absD (ds : List D) (S : Sto) : R D := match ds with
  | [.int i] => .ok (.int (if i < 0 then -i else i)) S
  | _ => .bad
theorem cd_abs : CallR X (.builtin "abs") (rDs g E absD) := by
  intro pins s σ H xs us Q I r h
  obtain ⟨m, S, ds, rl, h1, q⟩ := h
  unfold absD at q
  split at q
  · obtain ⟨v, rfl, h2⟩ := rvs1 h1
    exact call_abs pins s σ H _ us Q I r ⟨_, by rw [of_int h2], q.ok rl _ rv_int⟩
  · exact q.elim
def intD (ds : List D) (S : Sto) : R D := match ds with
  | [.int i] => .ok (.int i) S
  | [.bl k] => .ok (.int (if k = true then 1 else 0)) S
  | _ => .bad
theorem cd_int : CallR X (.type "int") (rDs g E intD) := by
  intro pins s σ H xs us Q I r h
  obtain ⟨m, S, ds, rl, h1, q⟩ := h
  unfold intD at q
  split at q
  · obtain ⟨v, rfl, h2⟩ := rvs1 h1
    exact call_int1 pins s σ H _ us Q I r (.inl ⟨_, by rw [of_int h2], q.ok rl _ rv_int⟩)
  · obtain ⟨v, rfl, h2⟩ := rvs1 h1
    exact call_int1 pins s σ H _ us Q I r (.inr ⟨_, by rw [of_bl h2], q.ok rl _ rv_int⟩)
  · exact q.elim
def max2D (ds : List D) (S : Sto) : R D := match ds with
  | [.int i, .int j] => .ok (.int (if j > i then j else i)) S
  | _ => .bad
def min2D (ds : List D) (S : Sto) : R D := match ds with
  | [.int i, .int j] => .ok (.int (if j < i then j else i)) S
  | _ => .bad
theorem cd_max2 (hc : X.calm = true) : CallR X (.builtin "max") (rDs g E max2D) := by
  intro pins s σ H xs us Q I r h
  obtain ⟨m, S, ds, rl, h1, q⟩ := h
  unfold max2D at q
  split at q
  · obtain ⟨v, v', rfl, h2, h3⟩ := rvs2 h1
    exact call_max2 hc pins s σ H _ us Q I r ⟨_, _, by rw [of_int h2, of_int h3], q.ok rl _ rv_int⟩
  · exact q.elim
theorem cd_min2 (hc : X.calm = true) : CallR X (.builtin "min") (rDs g E min2D) := by
  intro pins s σ H xs us Q I r h
  obtain ⟨m, S, ds, rl, h1, q⟩ := h
  unfold min2D at q
  split at q
  · obtain ⟨v, v', rfl, h2, h3⟩ := rvs2 h1
    exact call_min2 hc pins s σ H _ us Q I r ⟨_, _, by rw [of_int h2, of_int h3], q.ok rl _ rv_int⟩
  · exact q.elim
def tupleD (ko : String → Option Ob) (ds : List D) (S : Sto) : R D := match ds with
  | [.tup ds] => .ok (.tup ds) S
  | [x] => match lstOf x S ko with
    | some ds => .ok (.tup ds) S
    | none => .bad
  | _ => .bad
theorem cd_tuple (hK : X.K = g.K) : CallR X (.type "tuple") (rDs g E (tupleD g.ko)) := by
  intro pins s σ H xs us Q I r h
  obtain ⟨m, S, ds, rl, h1, q⟩ := h
  unfold tupleD at q
  split at q
  · obtain ⟨v, rfl, h2⟩ := rvs1 h1
    obtain ⟨a, vs, rfl, s1, v1⟩ := of_tup h2
    exact call_tuple_of pins s σ H _ us Q I r ⟨a, vs, rfl, .inr ⟨by rw [hK]; exact s1, q.ok rl _ (rv_tup s1 v1)⟩⟩
  · split at q
    · rename_i e
      obtain ⟨v, rfl, h2⟩ := rvs1 h1
      obtain ⟨a, vs, rfl, s1, v1⟩ := lst_run rl h2 e
      exact call_tuple_of pins s σ H _ us Q I r ⟨a, vs, rfl, .inl ⟨by rw [hK]; exact s1, fun p hp => q.at (ext_lay hp) (rl.lay hp) _ (rv_tup (.inl (.inl upd_same)) (v1.ext (ext_lay hp)))⟩⟩
    · exact q.elim
  · exact q.elim
def ints? : List D → Option (List Int)
  | [] => some []
  | .int i :: ds => (ints? ds).map (i :: ·)
  | _ :: _ => none
theorem ints_run {m : List Addr} {H : Hp} : ∀ {ds : List D} {vs : List V} {ns : List Int}, RVs g m H ds vs → ints? ds = some ns → vs = ns.map V.int
  | [], vs, ns, h, e => by rw [h.nil_iff]; simp [ints?] at e; subst e; rfl
  | d :: ds, vs, ns, h, e => by
    obtain ⟨v, r, rfl, h1, h2⟩ := h.cons_iff
    cases d with
    | int i =>
      simp [ints?] at e
      obtain ⟨ns', e1, rfl⟩ := e
      rw [of_int h1, ints_run h2 e1]
      rfl
    | _ => simp [ints?] at e
def bls? : List D → Option (List Bool)
  | [] => some []
  | .bl i :: ds => (bls? ds).map (i :: ·)
  | _ :: _ => none
theorem bls_run {m : List Addr} {H : Hp} : ∀ {ds : List D} {vs : List V} {ns : List Bool}, RVs g m H ds vs → bls? ds = some ns → vs = ns.map V.bl
  | [], vs, ns, h, e => by rw [h.nil_iff]; simp [bls?] at e; subst e; rfl
  | d :: ds, vs, ns, h, e => by
    obtain ⟨v, r, rfl, h1, h2⟩ := h.cons_iff
    cases d with
    | bl i =>
      simp [bls?] at e
      obtain ⟨ns', e1, rfl⟩ := e
      rw [of_bl h1, bls_run h2 e1]
      rfl
    | _ => simp [bls?] at e
def sumD (ko : String → Option Ob) (ds : List D) (S : Sto) : R D := match ds with
  | [x] => match lstOf x S ko with
    | some ds => match ints? ds with
      | some ns => .ok (.int ns.sum) S
      | none => .bad
    | none => .bad
  | _ => .bad
theorem cd_sum (hK : X.K = g.K) (hc : X.calm = true) : CallR X (.builtin "sum") (rDs g E (sumD g.ko)) := by
  intro pins s σ H xs us Q I r h
  obtain ⟨m, S, ds, rl, h1, q⟩ := h
  unfold sumD at q
  split at q
  · split at q
    · rename_i e
      split at q
      · rename_i e2
        obtain ⟨v, rfl, h2⟩ := rvs1 h1
        obtain ⟨a, vs, rfl, s1, v1⟩ := lst_run rl h2 e
        exact cr_sum hc pins s σ H _ us Q I r ⟨a, _, rfl, by rw [hK, ← ints_run v1 e2]; exact s1, q.ok rl _ rv_int⟩
      · exact q.elim
    · exact q.elim
  · exact q.elim
def allD (ko : String → Option Ob) (ds : List D) (S : Sto) : R D := match ds with
  | [x] => match lstOf x S ko with
    | some ds => match bls? ds with
      | some ns => .ok (.bl (ns.all id)) S
      | none => .bad
    | none => .bad
  | _ => .bad
theorem cd_all (hK : X.K = g.K) (hc : X.calm = true) : CallR X (.builtin "all") (rDs g E (allD g.ko)) := by
  intro pins s σ H xs us Q I r h
  obtain ⟨m, S, ds, rl, h1, q⟩ := h
  unfold allD at q
  split at q
  · split at q
    · rename_i e
      split at q
      · rename_i e2
        obtain ⟨v, rfl, h2⟩ := rvs1 h1
        obtain ⟨a, vs, rfl, s1, v1⟩ := lst_run rl h2 e
        exact cr_all hc pins s σ H _ us Q I r ⟨a, _, rfl, by rw [hK, ← bls_run v1 e2]; exact s1, q.ok rl _ rv_bl⟩
      · exact q.elim
    · exact q.elim
  · exact q.elim
def anyD (ko : String → Option Ob) (ds : List D) (S : Sto) : R D := match ds with
  | [x] => match lstOf x S ko with
    | some ds => match bls? ds with
      | some ns => .ok (.bl (ns.any id)) S
      | none => .bad
    | none => .bad
  | _ => .bad
theorem cd_any (hK : X.K = g.K) (hc : X.calm = true) : CallR X (.builtin "any") (rDs g E (anyD g.ko)) := by
  intro pins s σ H xs us Q I r h
  obtain ⟨m, S, ds, rl, h1, q⟩ := h
  unfold anyD at q
  split at q
  · split at q
    · rename_i e
      split at q
      · rename_i e2
        obtain ⟨v, rfl, h2⟩ := rvs1 h1
        obtain ⟨a, vs, rfl, s1, v1⟩ := lst_run rl h2 e
        exact cr_any hc pins s σ H _ us Q I r ⟨a, _, rfl, by rw [hK, ← bls_run v1 e2]; exact s1, q.ok rl _ rv_bl⟩
      · exact q.elim
    · exact q.elim
  · exact q.elim
/-! isinstance of a built-in class -/
inductive Tg where
  | non | bl | int | str | lst | tup | dic
def Tg.nm : Tg → String
  | .non => "NoneType" | .bl => "bool" | .int => "int" | .str => "str" | .lst => "list" | .tup => "tuple" | .dic => "dict"
def tgD (d : D) (S : Sto) : Option Tg := match d with
  | .non => some .non
  | .bl _ => some .bl
  | .int _ => some .int
  | .str _ => some .str
  | .tup _ => some .tup
  | .ref n => match S[n]? with
    | some (.lst _) => some .lst
    | some (.dic _ _) => some .dic
    | some (.dct _ _) => some .dic
    | _ => none
  | _ => none
inductive Ki where
  | int | bool | str | tuple | list | dict
def Ki.nm : Ki → String
  | .int => "int" | .bool => "bool" | .str => "str" | .tuple => "tuple" | .list => "list" | .dict => "dict"
def isTg : Tg → Ki → Bool
  | .int, .int => true | .bl, .int => true | .bl, .bool => true | .str, .str => true | .tup, .tuple => true | .lst, .list => true | .dic, .dict => true
  | _, _ => false
theorem isTg_ok : ∀ (t : Tg) (k : Ki), kitB t.nm k.nm = some (isTg t k) := by
  intro t k
  cases t <;> cases k <;> decide +kernel
theorem tg_run {m : List Addr} {S : Sto} {H : Hp} (r : Rel g m S H) {d : D} {v : V} (rv : RV g m H d v) {t : Tg} (e : tgD d S = some t) : TyX g.K H v (.type t.nm) := by
  unfold tgD at e
  cases d with
  | non => cases e; rw [of_non rv]; exact .base .non
  | bl b => cases e; rw [of_bl rv]; exact .base (.bl b)
  | int b => cases e; rw [of_int rv]; exact .base (.int b)
  | str b => cases e; rw [of_str rv]; exact .base (.str b)
  | tup ds =>
    cases e
    obtain ⟨a, vs, rfl, s1, v1⟩ := of_tup rv
    rcases s1 with (h | ⟨o, h⟩) | ⟨o, its, n, h1, h2, _⟩
    · exact .base (.tup h)
    · exact .fTuple h
    · exact .kTuple h1 h2
  | ref n =>
    obtain ⟨a, rfl, ha⟩ := of_ref rv
    simp only at e
    split at e
    · cases e
      rename_i e0
      obtain ⟨o, h1, vs, rfl, h2⟩ := r.ob n a _ ha e0
      exact .base (.lst h1)
    · cases e
      rename_i e0
      obtain ⟨o, h1, vs, rfl, h2, _⟩ := r.ob n a _ ha e0
      exact .base (.dK h1)
    · cases e
      rename_i e0
      obtain ⟨o, h1, vs, rfl, h2, _⟩ := r.ob n a _ ha e0
      exact .base (.dT h1)
    · cases e
  | _ => cases e
def isiD (k : Ki) (x : D) (S : Sto) : R D := match tgD x S with
  | some t => .ok (.bl (isTg t k)) S
  | none => .bad
theorem de_isi {a : Expr} {ea : Lc → Sto → R D} {p p2 pos : Pos} {x : Str} (k : Ki) (hK : X.K = g.K) (hgi : Gl X "isinstance") (hmi : X.mg "isinstance" = none) (hg : Gl X x) (hm : X.mg x = none) (hv : bootBuiltins x = some (.type k.nm)) (ha : PE X a (tD g E ea))
    (hn : x ≠ "__name__" := by decide) (hdb : (x == ("__debug__" : Str)) = false := by decide) (he : starEach [a, .Name x p2] X.env = [(false, eval a X.env), (false, eval (.Name x p2) X.env)] := by rfl) (hs2 : starEach [Expr.Name x p2] X.env = [(false, eval (.Name x p2) X.env)] := by rfl) :
    PE X (.Call (.Name "isinstance" p) [a, .Name x p2] [] pos) (tD g E (eUn (isiD k) ea)) := by
  refine (pe_callB call_isi hgi hmi (by decide +kernel) (pa_cons ha (pa_cons (pe_bltn (v := .ty k.nm) hg hm hv rfl hn hdb) pa_nil hs2) (by rw [he, hs2])) (by decide) (by decide) (by rw [he, hs2]) (by rw [hs2]; rfl)).imp fun σ H Q h => ?_
  obtain ⟨m, S, L, r, l, q⟩ := h
  refine ⟨m, S, L, r, l, (Aft.bind q).mono fun d m1 S1 H1 e1 r1 q1 v rv => ?_⟩
  unfold isiD at q1
  split at q1
  · rename_i t e
    exact ⟨v, .ty k.nm, .type t.nm, .type k.nm, isTg t k, rfl, .ty _, by rw [hK]; exact tg_run r1 rv e, kit_ty (isTg_ok t k), q1.ok r1 _ rv_bl⟩
  · exact q1.elim

/-! what is walked -/
def wSeq (ko : String → Option Ob) (e : Lc → Sto → R D) : Lc → Sto → R Wk := fun L S => (e L S).bind fun d S1 => match d with
  | .ref n => match S1[n]? with
    | some (.lst ds) => .ok ⟨ds, okL n ds⟩ S1
    | _ => .bad
  | .kref s => match ko s with
    | some (.lst ds) => .ok ⟨ds, fun _ => true⟩ S1
    | _ => .bad
  | _ => .bad
def wTup (e : Lc → Sto → R D) : Lc → Sto → R Wk := fun L S => (e L S).bind fun d S1 => match d with
  | .tup ds => .ok ⟨ds, fun _ => true⟩ S1
  | _ => .bad
theorem SqL.inj {K : PySem.W.Frag} {H : Hp} {a : Addr} {xs ys : List V} (h : H a = some (.lst xs)) (hk : K.lookup a = none) (h' : SqL K H a ys) : xs = ys := by
  rcases h' with (h' | ⟨o, h'⟩) | ⟨o, its, n, h', _⟩
  · rw [h] at h'; cases h'; rfl
  · rw [h] at h'; cases h'
  · rw [hk] at h'; cases h'
def rngL (lo : Int) (n : Nat) : List D := (List.range n).map fun (i : Nat) => D.int (lo + (i : Int))
theorem rngL_get (lo : Int) (n i : Nat) : (rngL lo n)[i]? = if i < n then some (.int (lo + (i : Int))) else none := by
  unfold rngL
  rw [List.getElem?_map]
  by_cases h : i < n
  · rw [if_pos h, List.getElem?_range h]; rfl
  · rw [if_neg h, List.getElem?_eq_none (by simpa using h)]; rfl
def wRng1 (a : Lc → Sto → R (List D)) : Lc → Sto → R Wk := fun L S => (a L S).bind fun ds S1 => match ds with
  | [.int j] => if -(2 ^ 62) ≤ j ∧ j < 2 ^ 62 then .ok ⟨rngL 0 j.toNat, fun _ => true⟩ S1 else .bad
  | _ => .bad
def wRng2 (a : Lc → Sto → R (List D)) : Lc → Sto → R Wk := fun L S => (a L S).bind fun ds S1 => match ds with
  | [.int i, .int j] => if (-(2 ^ 62) ≤ i ∧ i < 2 ^ 62) ∧ (-(2 ^ 62) ≤ j ∧ j < 2 ^ 62) then .ok ⟨rngL i (j - i).toNat, fun _ => true⟩ S1 else .bad
  | _ => .bad
theorem jd_rng (lo : Int) (n : Nat) (m0 : List Addr) (H0 : Hp) : JD g (Itr lo n) ⟨rngL lo n, fun _ => true⟩ m0 H0 := by
  intro i m S H e r _
  have hg := rngL_get lo n i
  by_cases h : i < n
  · rw [if_pos h] at hg
    refine ⟨fun z => ?_, fun d hd => ⟨h, fun x H' y => ?_⟩⟩
    · have z' : (rngL lo n)[i]? = none := z
      rw [hg] at z'; cases z'
    · have z' : (rngL lo n)[i]? = some d := hd
      rw [hg] at z'
      cases z'
      obtain ⟨e1, e2⟩ := y
      subst e1 e2
      exact ⟨.refl, r, rv_int⟩
  · rw [if_neg h] at hg
    refine ⟨fun _ => Nat.le_of_not_lt h, fun d hd => ?_⟩
    have z' : (rngL lo n)[i]? = some d := hd
    rw [hg] at z'; cases z'
theorem di_rng1 {tg a : Expr} {p pos : Pos} {ls : Lc → Sto → R (List D)} (hg : Gl X "range") (hm : X.mg "range" = none) (ha : PA X [a] (tL g E ls)) (hs : starEach [a] X.env = [(false, eval a X.env)] := by rfl) : PI X tg (.Call (.Name "range" p) [a] [] pos) (tI g E (wRng1 ls)) := by
  refine (pi_range1 hg hm ha hs).imp fun σ H Q h => ?_
  obtain ⟨m, S, L, r, l, q⟩ := h
  refine ⟨m, S, L, r, l, (Aft.bind q).mono fun ds m1 S1 H1 e1 r1 q1 vs rvs => ?_⟩
  split at q1
  · split at q1
    · rename_i hz
      obtain ⟨v, rfl, h2⟩ := rvs1 rvs
      exact ⟨_, by rw [of_int h2], hz.1, hz.2, q1.ok r1 _ (jd_rng _ _ _ _)⟩
    · exact q1.elim
  · exact q1.elim
theorem di_rng2 {tg a b : Expr} {p pos : Pos} {ls : Lc → Sto → R (List D)} (hg : Gl X "range") (hm : X.mg "range" = none) (ha : PA X [a, b] (tL g E ls)) (hs : starEach [a, b] X.env = [(false, eval a X.env), (false, eval b X.env)] := by rfl) (hs2 : starEach [b] X.env = [(false, eval b X.env)] := by rfl) : PI X tg (.Call (.Name "range" p) [a, b] [] pos) (tI g E (wRng2 ls)) := by
  refine (pi_range2 hg hm ha hs hs2).imp fun σ H Q h => ?_
  obtain ⟨m, S, L, r, l, q⟩ := h
  refine ⟨m, S, L, r, l, (Aft.bind q).mono fun ds m1 S1 H1 e1 r1 q1 vs rvs => ?_⟩
  split at q1
  · split at q1
    · rename_i hz
      obtain ⟨v, v', rfl, h2, h3⟩ := rvs2 rvs
      exact ⟨_, _, by rw [of_int h2, of_int h3], ⟨hz.1.1, hz.1.2, hz.2.1, hz.2.2⟩, q1.ok r1 _ (jd_rng _ _ _ _)⟩
    · exact q1.elim
  · exact q1.elim
end
end DL

/-! zip of two tuples, its pairs given to one name -/
namespace DZ
open PySem PySem.Spec PyProof.Rows L2 RZ
abbrev ZG (h : Heap) (z TI TO : Addr) (f0 : Value) (f1 : Bool) : Prop :=
  h.get? z = some { cls := .type "zip", dict := none, data := .fields #[f0, .bool f1, .bool false, .ref TI, .ref TO], slots := #[] }
/-- what the zip keeps of its last pair -/
def Keeps (f0 : Value) (f1 : Bool) : Prop := (f0 = .none ∧ f1 = false) ∨ ∃ T : Nat, f0 = rawInt T
section
variable {prog : Program} {w : World} {A : Around} {E : Value → Shared → Prop} {s : Shared}
theorem dead {a : Addr} {Q : Option Obj → Shared → Prop} (ho : s.heap.get? a = none) (h : Q none s) : wpAny (model prog w) A (loadIfAlive a) Q E s := by
  have q : Q (s.heap.get? a) s := by rw [ho]; exact h
  exact fun _ _ _ => q
theorem free_of {z TI TO : Addr} {f0 : Value} {f1 : Bool} {Q : Bool → Shared → Prop} (hz : ZG s.heap z TI TO f0 f1) (k : Keeps f0 f1)
    (h1 : Q true s) (h2 : ∀ (h' : Heap) (T : Nat), ZG h' z TI TO (rawInt T) true → Heap.SameBut z s.heap h' → Q false { s with heap := h' }) : wpAny (model prog w) A (Builtin.SmallTypes.ownedTupleIsFree (.ref z)) Q E s := by
  rcases k with ⟨rfl, rfl⟩ | ⟨T, rfl⟩
  · unfold Builtin.SmallTypes.ownedTupleIsFree
    exact wpAny_bind (wpAny_field hz rfl (x := .none) rfl (wpAny_pure h1))
  · cases hT : s.heap.get? T with
    | none =>
      unfold Builtin.SmallTypes.ownedTupleIsFree
      refine wpAny_bind (wpAny_field hz rfl (x := rawInt T) rfl ?_)
      show wpAny _ _ (loadIfAlive ((T : Int).toNat) >>= _) _ _ _
      rw [Int.toNat_natCast]
      refine wpAny_bind (dead hT ?_)
      exact wpAny_pure h1
    | some oT => exact PySem.wpAny_tupleHeld_zip hz hT fun h' z' sb => h2 h' T z' sb
theorem next_item {z TI TO i1 i2 l1 l2 : Addr} {f0 : Value} {f1 : Bool} {k1 k2 : Nat} {xs ys : Array Value} {x y a b : Value} {Q : Value → Shared → Prop} (D : ZipApart z TI TO i1 i2 l1 l2)
    (hz : ZG s.heap z TI TO f0 f1) (k : Keeps f0 f1) (hTI : IsPair s.heap TI (.ref i1) (.ref i2)) (hTO : IsPair s.heap TO a b)
    (h1 : s.heap.IsTupleIter i1 l1 k1) (h2 : s.heap.IsTupleIter i2 l2 k2) (hl1 : s.heap.IsTuple l1 xs) (hl2 : s.heap.IsTuple l2 ys) (hx : xs[k1]? = some x) (hy : ys[k2]? = some y)
    (hQ : ∀ h' f0' f1', ZG h' z TI TO f0' f1' → Keeps f0' f1' → (∃ a b, IsPair h' TO a b) → h'.IsTupleIter i1 l1 (k1 + 1) → h'.IsTupleIter i2 l2 (k2 + 1) → IsPair h' s.heap.objs.size x y →
      (∀ c o, c ≠ z → c ≠ TO → c ≠ i1 → c ≠ i2 → s.heap.get? c = some o → h'.get? c = some o) → Q (.ref s.heap.objs.size) { s with heap := h' }) :
    wpAny (model prog w) A (Builtin.«zip.__next__» ⟨[.ref z], []⟩) (fun fin s' => ∃ v, fin = .done (.ret v) ∧ Q v s') E s := by
  show wpAny _ _ (field (.ref z) 2 >>= _) _ _ _
  refine wpAny_bind (wpAny_field hz rfl (x := .bool false) rfl ?_)
  show wpAny _ _ (field (.ref z) 3 >>= _) _ _ _
  refine wpAny_bind (wpAny_field hz rfl (x := .ref TI) rfl (wpAny_bind (wpAny_seqItems hTI rfl ?_)))
  show wpAny _ _ (Builtin.SmallTypes.ownedTupleIsFree (.ref z) >>= _) _ _ _
  refine wpAny_bind (free_of hz k ?_ fun g1 T z1 s1 => ?_)
  · simp only [if_true]
    refine wpAny_bind (wpAny_rule (wpAny_bind (wpAny_field hz rfl (x := .ref TO) rfl ?_)))
    refine wpAny_bind (wpAny_setField_rec hz (by simp) fun g1 z1 s1 => ?_)
    replace z1 : ZG g1 z TI TO .ellipsis f1 := z1
    refine wpAny_bind ?_
    simp only [List.zipIdx_cons, List.zipIdx_nil, List.forIn_cons, List.forIn_nil]
    refine wpAny_bind (wpAny_bind (wpAny_onRaise ?_))
    show wpAny _ _ (Builtin.SmallTypes.nextOf (.ref i1) >>= _) _ _ _
    refine wpAny_bind (nextOf_tuple_item (h1.extBut s1.extBut D.i1z) (hl1.extBut s1.extBut D.l1z) hx fun g2 a2 s2 => wpAny_pure ?_)
    have t2 : IsPair g2 TO a b := s2.extBut _ _ D.TOi1 (s1.extBut _ _ D.TOz hTO)
    refine wpAny_bind (wpAny_seqItems t2 rfl (wpAny_bind (wpAny_updateSeq_pair t2 fun g3 t3 s3 => ?_)))
    replace t3 : IsPair g3 TO x b := t3
    refine wpAny_bind (wpAny_letGo (wpAny_pure (wpAny_bind (wpAny_bind (wpAny_onRaise ?_)))))
    show wpAny _ _ (Builtin.SmallTypes.nextOf (.ref i2) >>= _) _ _ _
    refine wpAny_bind (nextOf_tuple_item (((h2.extBut s1.extBut D.i2z).extBut s2.extBut D.i12.symm).extBut s3.extBut D.TOi2.symm) (((hl2.extBut s1.extBut D.l2z).extBut s2.extBut D.l2i1).extBut s3.extBut D.l2TO) hy fun g4 b4 s4 => wpAny_pure ?_)
    have t4 : IsPair g4 TO x b := s4.extBut _ _ D.TOi2 t3
    refine wpAny_bind (wpAny_seqItems t4 rfl (wpAny_bind (wpAny_updateSeq_pair t4 fun g5 t5 s5 => ?_)))
    replace t5 : IsPair g5 TO x y := t5
    refine wpAny_bind (wpAny_letGo (wpAny_pure (wpAny_pure (wpAny_bind (wpAny_seqItems t5 rfl (wpAny_bind (wpAny_newTuple ?_)))))))
    have hsz : g5.objs.size = s.heap.objs.size := by rw [s5.1, s4.1, s3.1, s2.1, s1.1]
    have z5 : ZG g5 z TI TO .ellipsis f1 := s5.extBut _ _ D.TOz.symm (s4.extBut _ _ D.i2z.symm (s3.extBut _ _ D.TOz.symm (s2.extBut _ _ D.i1z.symm z1)))
    have k5 : ∀ c o, c ≠ z → c ≠ TO → c ≠ i1 → c ≠ i2 → s.heap.get? c = some o → g5.get? c = some o := fun c o c1 c2 c3 c4 e =>
      s5.extBut _ _ c2 (s4.extBut _ _ c4 (s3.extBut _ _ c2 (s2.extBut _ _ c3 (s1.extBut _ _ c1 e))))
    have a5 : g5.IsTupleIter i1 l1 (k1 + 1) := ((a2.extBut s3.extBut D.TOi1.symm).extBut s4.extBut D.i12).extBut s5.extBut D.TOi1.symm
    have b5 : g5.IsTupleIter i2 l2 (k2 + 1) := b4.extBut s5.extBut D.TOi2.symm
    have hzlt : z < g5.objs.size := Heap.lt_size z5
    show wpAny _ _ (Builtin.SmallTypes.ownedTupleHandOut (.ref z) (.ref g5.objs.size) >>= _) _ _ _
    refine wpAny_bind ?_
    unfold Builtin.SmallTypes.ownedTupleHandOut
    have z6 : ZG (g5.push { cls := .type "tuple", data := .seq #[x, y] }) z TI TO .ellipsis f1 := Heap.get?_push_of_some _ z5
    refine wpAny_bind (wpAny_setField_rec z6 (by simp) fun g7 z7 s7 => ?_)
    replace z7 : ZG g7 z TI TO (rawInt g5.objs.size) f1 := z7
    refine wpAny_setField_rec z7 (by simp) fun g8 z8 s8 => ?_
    replace z8 : ZG g8 z TI TO (rawInt g5.objs.size) false := z8
    have up : ∀ c o, c ≠ z → g5.get? c = some o → g8.get? c = some o := fun c o c1 e => s8.extBut _ _ c1 (s7.extBut _ _ c1 (Heap.get?_push_of_some _ e))
    have p8 : IsPair g8 g5.objs.size x y := s8.extBut _ _ (Nat.ne_of_gt hzlt) (s7.extBut _ _ (Nat.ne_of_gt hzlt) (Heap.get?_push_size _ rfl))
    refine wpAny_pure ⟨_, rfl, ?_⟩
    show Q (.ref g5.objs.size) _
    rw [hsz] at p8 ⊢
    exact hQ g8 _ _ z8 (.inr ⟨_, rfl⟩) ⟨x, y, up _ _ D.TOz t5⟩ (a5.at fun o e => up _ o D.i1z e) (b5.at fun o e => up _ o D.i2z e) p8 fun c o c1 c2 c3 c4 e => up c o c1 (k5 c o c1 c2 c3 c4 e)
  · simp only [Bool.false_eq_true, if_false]
    refine wpAny_bind ?_
    rw [← Array.forIn_toList]
    simp only [List.forIn_cons, List.forIn_nil]
    refine wpAny_bind (wpAny_bind (wpAny_holding ?_))
    show wpAny _ _ (Builtin.SmallTypes.nextOf (.ref i1) >>= _) _ _ _
    refine wpAny_bind (nextOf_tuple_item (s := { s with heap := g1 }) (h1.extBut s1.extBut D.i1z) (hl1.extBut s1.extBut D.l1z) hx fun g2 a2 s2 => wpAny_pure (wpAny_pure ?_))
    refine wpAny_bind (wpAny_bind (wpAny_holding ?_))
    show wpAny _ _ (Builtin.SmallTypes.nextOf (.ref i2) >>= _) _ _ _
    refine wpAny_bind (nextOf_tuple_item (s := { s with heap := g2 }) ((h2.extBut s1.extBut D.i2z).extBut s2.extBut D.i12.symm) ((hl2.extBut s1.extBut D.l2z).extBut s2.extBut D.l2i1) hy fun g3 b3 s3 => wpAny_pure (wpAny_pure (wpAny_pure ?_)))
    show wpAny _ _ (newTuple [x, y] >>= _) _ _ _
    refine wpAny_bind (wpAny_newTuple ?_)
    have hsz : g3.objs.size = s.heap.objs.size := by rw [s3.1, s2.1, s1.1]
    have z3 : ZG g3 z TI TO (rawInt T) true := s3.extBut _ _ D.i2z.symm (s2.extBut _ _ D.i1z.symm z1)
    have k3 : ∀ c o, c ≠ z → c ≠ i1 → c ≠ i2 → s.heap.get? c = some o → g3.get? c = some o := fun c o c1 c2 c3 e => s3.extBut _ _ c3 (s2.extBut _ _ c2 (s1.extBut _ _ c1 e))
    have a3 : g3.IsTupleIter i1 l1 (k1 + 1) := a2.extBut s3.extBut D.i12
    refine wpAny_pure ⟨_, rfl, ?_⟩
    show Q (.ref g3.objs.size) _
    have hp : IsPair (g3.push { cls := .type "tuple", data := .seq #[x, y] }) g3.objs.size x y := Heap.get?_push_size _ rfl
    rw [hsz] at hp ⊢
    exact hQ _ _ _ (Heap.get?_push_of_some _ z3) (.inr ⟨T, rfl⟩) ⟨a, b, Heap.get?_push_of_some _ (k3 _ _ D.TOz D.TOi1 D.TOi2 hTO)⟩ (a3.at fun o e => Heap.get?_push_of_some _ e) (b3.at fun o e => Heap.get?_push_of_some _ e) hp fun c o c1 _ c3 c4 e => Heap.get?_push_of_some _ (k3 c o c1 c3 c4 e)
theorem next_end {z TI TO i1 i2 l1 l2 : Addr} {f0 : Value} {f1 : Bool} {k1 k2 : Nat} {xs ys : Array Value} {a b : Value} {Q : Fin → Shared → Prop} (hh : A.handled = none) (D : ZipApart z TI TO i1 i2 l1 l2)
    (hz : ZG s.heap z TI TO f0 f1) (k : Keeps f0 f1) (hTI : IsPair s.heap TI (.ref i1) (.ref i2)) (hTO : IsPair s.heap TO a b)
    (h1 : s.heap.IsTupleIter i1 l1 k1) (h2 : s.heap.IsTupleIter i2 l2 k2) (hl1 : s.heap.IsTuple l1 xs) (hl2 : s.heap.IsTuple l2 ys) (hend : xs[k1]? = none ∨ ys[k2]? = none)
    (hE : ∀ h' e, (∀ c o, c ≠ z → c ≠ TO → c ≠ i1 → c ≠ i2 → s.heap.get? c = some o → h'.get? c = some o) → (∃ o, h'.get? e = some o ∧ o.cls = .type "StopIteration") → E (.ref e) { s with heap := h' }) :
    wpAny (model prog w) A (Builtin.«zip.__next__» ⟨[.ref z], []⟩) Q E s := by
  show wpAny _ _ (field (.ref z) 2 >>= _) _ _ _
  refine wpAny_bind (wpAny_field hz rfl (x := .bool false) rfl ?_)
  show wpAny _ _ (field (.ref z) 3 >>= _) _ _ _
  refine wpAny_bind (wpAny_field hz rfl (x := .ref TI) rfl (wpAny_bind (wpAny_seqItems hTI rfl ?_)))
  show wpAny _ _ (Builtin.SmallTypes.ownedTupleIsFree (.ref z) >>= _) _ _ _
  refine wpAny_bind (free_of hz k ?_ fun g1 T z1 s1 => ?_)
  · simp only [if_true]
    refine wpAny_bind (wpAny_rule (wpAny_bind (wpAny_field hz rfl (x := .ref TO) rfl ?_)))
    refine wpAny_bind (wpAny_setField_rec hz (by simp) fun g1 z1 s1 => ?_)
    replace z1 : ZG g1 z TI TO .ellipsis f1 := z1
    refine wpAny_bind ?_
    simp only [List.zipIdx_cons, List.zipIdx_nil, List.forIn_cons, List.forIn_nil]
    refine wpAny_bind (wpAny_bind (wpAny_onRaise ?_))
    show wpAny _ _ (Builtin.SmallTypes.nextOf (.ref i1) >>= _) _ _ _
    cases hx : xs[k1]? with
    | none =>
      refine wpAny_bind (nextOf_tuple_end hh (h1.extBut s1.extBut D.i1z) (hl1.extBut s1.extBut D.l1z) hx fun g2 e s2 he => ?_)
      obtain ⟨oe, hoe, hce⟩ := he
      have z2 : ZG g2 z TI TO .ellipsis f1 := s2 _ _ D.i1z.symm z1
      have hez : e ≠ z := fun q => by subst q; rw [z2] at hoe; cases hoe; simp at hce
      refine wpAny_setField_rec z2 (by simp) fun g3 _ s3 => hE g3 e (fun c o c1 _ c3 _ q => s3.extBut _ _ c1 (s2 _ _ c3 (s1.extBut _ _ c1 q))) ⟨oe, s3.extBut _ _ hez hoe, hce⟩
    | some x =>
      have hy : ys[k2]? = none := hend.resolve_left (by rw [hx]; exact fun q => nomatch q)
      refine wpAny_bind (nextOf_tuple_item (h1.extBut s1.extBut D.i1z) (hl1.extBut s1.extBut D.l1z) hx fun g2 a2 s2 => wpAny_pure ?_)
      have t2 : IsPair g2 TO a b := s2.extBut _ _ D.TOi1 (s1.extBut _ _ D.TOz hTO)
      refine wpAny_bind (wpAny_seqItems t2 rfl (wpAny_bind (wpAny_updateSeq_pair t2 fun g3 t3 s3 => ?_)))
      refine wpAny_bind (wpAny_letGo (wpAny_pure (wpAny_bind (wpAny_bind (wpAny_onRaise ?_)))))
      show wpAny _ _ (Builtin.SmallTypes.nextOf (.ref i2) >>= _) _ _ _
      refine wpAny_bind (nextOf_tuple_end hh (((h2.extBut s1.extBut D.i2z).extBut s2.extBut D.i12.symm).extBut s3.extBut D.TOi2.symm) (((hl2.extBut s1.extBut D.l2z).extBut s2.extBut D.l2i1).extBut s3.extBut D.l2TO) hy fun g4 e s4 he => ?_)
      obtain ⟨oe, hoe, hce⟩ := he
      have z4 : ZG g4 z TI TO .ellipsis f1 := s4 _ _ D.i2z.symm (s3.extBut _ _ D.TOz.symm (s2.extBut _ _ D.i1z.symm z1))
      have hez : e ≠ z := fun q => by subst q; rw [z4] at hoe; cases hoe; simp at hce
      refine wpAny_setField_rec z4 (by simp) fun g5 _ s5 => hE g5 e (fun c o c1 c2 c3 c4 q => s5.extBut _ _ c1 (s4 _ _ c4 (s3.extBut _ _ c2 (s2.extBut _ _ c3 (s1.extBut _ _ c1 q))))) ⟨oe, s5.extBut _ _ hez hoe, hce⟩
  · simp only [Bool.false_eq_true, if_false]
    refine wpAny_bind ?_
    rw [← Array.forIn_toList]
    simp only [List.forIn_cons, List.forIn_nil]
    refine wpAny_bind (wpAny_bind (wpAny_holding ?_))
    show wpAny _ _ (Builtin.SmallTypes.nextOf (.ref i1) >>= _) _ _ _
    cases hx : xs[k1]? with
    | none =>
      refine wpAny_bind (nextOf_tuple_end (s := { s with heap := g1 }) hh (h1.extBut s1.extBut D.i1z) (hl1.extBut s1.extBut D.l1z) hx fun g2 e s2 he => ?_)
      exact hE g2 e (fun c o c1 _ c3 _ q => s2 _ _ c3 (s1.extBut _ _ c1 q)) he
    | some x =>
      have hy : ys[k2]? = none := hend.resolve_left (by rw [hx]; exact fun q => nomatch q)
      refine wpAny_bind (nextOf_tuple_item (s := { s with heap := g1 }) (h1.extBut s1.extBut D.i1z) (hl1.extBut s1.extBut D.l1z) hx fun g2 a2 s2 => wpAny_pure (wpAny_pure ?_))
      refine wpAny_bind (wpAny_bind (wpAny_holding ?_))
      show wpAny _ _ (Builtin.SmallTypes.nextOf (.ref i2) >>= _) _ _ _
      refine wpAny_bind (nextOf_tuple_end (s := { s with heap := g2 }) hh ((h2.extBut s1.extBut D.i2z).extBut s2.extBut D.i12.symm) ((hl2.extBut s1.extBut D.l2z).extBut s2.extBut D.l2i1) hy fun g3 e s3 he => ?_)
      exact hE g3 e (fun c o c1 _ c3 c4 q => s3 _ _ c4 (s2.extBut _ _ c3 (s1.extBut _ _ c1 q))) he
theorem py_item {z TI TO i1 i2 l1 l2 : Addr} {f0 : Value} {f1 : Bool} {k1 k2 : Nat} {xs ys : Array Value} {x y a b : Value} {Q : Option Value → Shared → Prop} (D : ZipApart z TI TO i1 i2 l1 l2)
    (hz : ZG s.heap z TI TO f0 f1) (k : Keeps f0 f1) (hTI : IsPair s.heap TI (.ref i1) (.ref i2)) (hTO : IsPair s.heap TO a b)
    (h1 : s.heap.IsTupleIter i1 l1 k1) (h2 : s.heap.IsTupleIter i2 l2 k2) (hl1 : s.heap.IsTuple l1 xs) (hl2 : s.heap.IsTuple l2 ys) (hx : xs[k1]? = some x) (hy : ys[k2]? = some y)
    (hQ : ∀ h' f0' f1', ZG h' z TI TO f0' f1' → Keeps f0' f1' → (∃ a b, IsPair h' TO a b) → h'.IsTupleIter i1 l1 (k1 + 1) → h'.IsTupleIter i2 l2 (k2 + 1) → IsPair h' s.heap.objs.size x y →
      (∀ c o, c ≠ z → c ≠ TO → c ≠ i1 → c ≠ i2 → s.heap.get? c = some o → h'.get? c = some o) → Q (some (.ref s.heap.objs.size)) { s with heap := h' }) :
    wpAny (model prog w) A (pyNext (.ref z)) Q E s := by
  have hT : s.TypeIs (.ref z) "zip" := ⟨_, hz, rfl⟩
  unfold pyNext
  refine wpAny_bind (wpAny_attempt (wpAny_callSpecial?_slot (name := Str.ofString "__next__") hT F.slot_zip_next ?_))
  exact wpAny_call_entry F.slot_zip_next hT F.entry_zip_next (next_item D hz k hTI hTO h1 h2 hl1 hl2 hx hy fun h' f0' f1' b1 b2 b3 b4 b5 b6 b7 => wpAny_pure (hQ h' f0' f1' b1 b2 b3 b4 b5 b6 b7)) (F.args_zip_next_1 _)
theorem py_end {z TI TO i1 i2 l1 l2 : Addr} {f0 : Value} {f1 : Bool} {k1 k2 : Nat} {xs ys : Array Value} {a b : Value} {Q : Option Value → Shared → Prop} (hh : A.handled = none) (D : ZipApart z TI TO i1 i2 l1 l2)
    (hz : ZG s.heap z TI TO f0 f1) (k : Keeps f0 f1) (hTI : IsPair s.heap TI (.ref i1) (.ref i2)) (hTO : IsPair s.heap TO a b)
    (h1 : s.heap.IsTupleIter i1 l1 k1) (h2 : s.heap.IsTupleIter i2 l2 k2) (hl1 : s.heap.IsTuple l1 xs) (hl2 : s.heap.IsTuple l2 ys) (hend : xs[k1]? = none ∨ ys[k2]? = none)
    (hQ : ∀ h', (∀ c o, c ≠ z → c ≠ TO → c ≠ i1 → c ≠ i2 → s.heap.get? c = some o → h'.get? c = some o) → Q none { s with heap := h' }) : wpAny (model prog w) A (pyNext (.ref z)) Q E s := by
  have hT : s.TypeIs (.ref z) "zip" := ⟨_, hz, rfl⟩
  unfold pyNext
  refine wpAny_bind (wpAny_attempt (wpAny_callSpecial?_slot (name := Str.ofString "__next__") hT F.slot_zip_next ?_))
  refine wpAny_call_entry F.slot_zip_next hT F.entry_zip_next (next_end hh D hz k hTI hTO h1 h2 hl1 hl2 hend fun h' e hk he => ?_) (F.args_zip_next_1 _)
  obtain ⟨o, ho, hc⟩ := he
  exact wpAny_bind (wpAny_isInstance (T := "StopIteration") (b := true) ⟨o, ho, hc⟩ isSubtype_stop (wpAny_pure (hQ _ hk)))
theorem py_self {z TI TO : Addr} {f0 : Value} {f1 : Bool} {Q : Value → Shared → Prop} (hz : ZG s.heap z TI TO f0 f1) (h : Q (.ref z) s) : wpAny (model prog w) A (pyIter (.ref z)) Q E s := by
  have hT : s.TypeIs (.ref z) "zip" := ⟨_, hz, rfl⟩
  refine wpAny_pyIter_slot hT F.slot_zip_iter (wpAny_call_entry F.slot_zip_iter hT F.entry_zip_iter ?_ (F.args_zip_iter_1 _))
  exact wpAny_pure ⟨_, rfl, "zip", _, hT, F.slot_zip_next.lookup, h⟩
end
theorem turn_zipN {P : Program} {w : World} {K : PySem.W.Frag} {nm : Str} {np : Pos} {a b z TI TO i1 i2 : Addr} (D : ZipApart z TI TO i1 i2 a b) :
    Turn P w K (.Name nm np) (ItzT K a b) [z, TI, TO, i1, i2] z (fun i h => (∃ f0 f1, ZG h z TI TO f0 f1 ∧ Keeps f0 f1) ∧ IsPair h TI (.ref i1) (.ref i2) ∧ (∃ x y, IsPair h TO x y) ∧ h.IsTupleIter i1 a i ∧ h.IsTupleIter i2 b i) where
  mem := by simp
  obj := fun i h st c hc => by
    obtain ⟨⟨f0, f1, hz, _⟩, hTI, ⟨x, y, hTO⟩, ⟨o1, e1, _, d1⟩, ⟨o2, e2, _, d2⟩⟩ := st
    have e' : c = z ∨ c = TI ∨ c = TO ∨ c = i1 ∨ c = i2 := by simpa using hc
    rcases e' with q | q | q | q | q <;> rw [q]
    · exact ⟨_, hz, fun v q => nomatch q⟩
    · exact ⟨_, hTI, fun v q => nomatch q⟩
    · exact ⟨_, hTO, fun v q => nomatch q⟩
    · exact ⟨o1, e1, fun v q => by rw [d1] at q; cases q⟩
    · exact ⟨o2, e2, fun v q => by rw [d2] at q; cases q⟩
  keep := fun i h h' st k => by
    obtain ⟨⟨f0, f1, hz, kz⟩, hTI, ⟨x, y, hTO⟩, h1, h2⟩ := st
    exact ⟨⟨f0, f1, k z (by simp) _ hz, kz⟩, k TI (by simp) _ hTI, ⟨x, y, k TO (by simp) _ hTO⟩, h1.at fun o q => k i1 (by simp) o q, h2.at fun o q => k i2 (by simp) o q⟩
  item := by
    intro X hP hw hK hc i pins s σ H E I hf st hg
    subst hP hw hK
    obtain ⟨⟨f0, f1, hz, kz⟩, hTI, ⟨x0, y0, hTO⟩, h1, h2⟩ := st
    obtain ⟨xs, ys, x, y, hqx, hqy, hx, hy⟩ := hg
    obtain ⟨its, rv, p, _⟩ := I.tuple hqx
    obtain ⟨its2, rv2, p2, _⟩ := I.tuple hqy
    obtain ⟨u, hu, ru⟩ := rv.get hx
    obtain ⟨u2, hu2, ru2⟩ := rv2.get hy
    refine py_item D hz kz hTI hTO h1 h2 p p2 (x := u) (y := u2) (by simpa using hu) (by simpa using hu2) fun h' f0' f1' z' kz' TO' h1' h2' hT hk => ?_
    refine ⟨_, rfl, wpAny_pure ?_⟩
    have new : ObjOk X.prog X.w (upd H s.heap.objs.size (.tup [x, y])) h' s.heap.objs.size (.tup [x, y]) :=
      ⟨by show 2 ≤ sizeLine; decide, [u, u2], .cons ru (.cons ru2 .nil), ⟨_, hT, rfl, _, rfl⟩⟩
    have I1 : Inv X pins σ (upd H s.heap.objs.size (.tup [x, y])) { s with heap := h' } :=
      I.turnedNew (t' := s.toks) (ch := [z, TI, TO, i1, i2]) (fun c o hb q => hk c o (fun q' => hb (by simp [q'])) (fun q' => hb (by simp [q'])) (fun q' => hb (by simp [q'])) (fun q' => hb (by simp [q'])) q) hf (Nat.le_refl _) new
    refine ⟨.ref s.heap.objs.size, _, I1, rfl, ⟨_, x, y, rfl, I.hok.fresh (Nat.le_refl _), rfl, fun l hl => by rw [I.tuple_inj hl hqx]; exact hx, fun l hl => by rw [I.tuple_inj hl hqy]; exact hy⟩, ⟨⟨f0', f1', z', kz'⟩, ?_, TO', h1', h2'⟩, fun c hcm => ?_⟩
    · exact hk _ _ D.TIz D.TITO D.TIi1 D.TIi2 hTI
    · have hlt : c < s.heap.objs.size := by
        have e' : c = z ∨ c = TI ∨ c = TO ∨ c = i1 ∨ c = i2 := by simpa using hcm
        rcases e' with q | q | q | q | q <;> rw [q]
        · exact Heap.lt_size hz
        · exact Heap.lt_size hTI
        · exact Heap.lt_size hTO
        · obtain ⟨_, e1, _⟩ := h1; exact Heap.lt_size e1
        · obtain ⟨_, e2, _⟩ := h2; exact Heap.lt_size e2
      rw [upd_ne (Nat.ne_of_lt hlt)]
      exact (hf c hcm).1
  done := by
    intro X hP hw hK hc i pins s σ H E I hf st hg
    subst hP hw hK
    obtain ⟨⟨f0, f1, hz, kz⟩, hTI, ⟨x0, y0, hTO⟩, h1, h2⟩ := st
    obtain ⟨xs, ys, hqx, hqy, hend⟩ := hg
    obtain ⟨its, rv, p, _⟩ := I.tuple hqx
    obtain ⟨its2, rv2, p2, _⟩ := I.tuple hqy
    have l1 := rv.length
    have l2 := rv2.length
    have he : its.toArray[i]? = none ∨ its2.toArray[i]? = none := by
      rcases hend with q | q
      · left; simp; omega
      · right; simp; omega
    exact py_end (I.ok.hd hc) D hz kz hTI hTO h1 h2 p p2 he fun h' hk => ⟨rfl, I.turnedL (t' := s.toks) (ch := [z, TI, TO, i1, i2]) (fun c o hb q =>
      hk c o (fun q' => hb (by simp [q'])) (fun q' => hb (by simp [q'])) (fun q' => hb (by simp [q'])) (fun q' => hb (by simp [q'])) q) hf⟩
  self := fun A i s Q E st h => by
    obtain ⟨⟨f0, f1, hz, kz⟩, _⟩ := st
    exact py_self hz h
def iZipN (K : PySem.W.Frag) (ta : TA) : TI := fun σ H R => ta σ H fun vs H1 => ∃ a b xs ys, vs = [.ref a, .ref b] ∧ SqT K H1 a xs ∧ SqT K H1 b ys ∧ R (ItzT K a b) H1
theorem pi_zipN {X : Cx} {e e2 : Expr} {ta : TA} {p pos np : Pos} {nm : Str} (hg : Gl X "zip") (hm : X.mg "zip" = none) (ha : PA X [e, e2] ta)
    (hs : starEach [e, e2] X.env = (false, eval e X.env) :: starEach [e2] X.env := by rfl) (hpl : (backTo pos (starEach [e2] X.env)).any (·.1) = false := by rfl) :
    PI X (.Name nm np) (.Call (.Name "zip" p) [e, e2] [] pos) (iZipN X.K ta) := by
  refine ⟨fun pins s σ H R I h => ?_⟩
  refine Call_ (ld_blt I hg hm PyProof.Rows.boot_zip (PyProof.Rows.callWith_type1 (thn (ha.run pos pins s σ H _ I h) fun us s1 ⟨vs, H1, I1, r1, q1⟩ => ?_) hs hpl))
  obtain ⟨a, b, xs, ys, ex, hqx, hqy, q⟩ := q1
  subst ex
  cases r1 with
  | cons r rr =>
    cases rr with
    | cons r' rr =>
      cases rr
      cases r
      cases r'
      have fresh5 : ∀ c, c ∈ [s1.heap.objs.size + 4, s1.heap.objs.size + 2, s1.heap.objs.size + 3, s1.heap.objs.size, s1.heap.objs.size + 1] → FpOk X pins H1 c := fun c hcm => by
        have hle : s1.heap.objs.size ≤ c := by
          simp only [List.mem_cons, List.not_mem_nil, or_false] at hcm
          omega
        exact I1.fpOk hle (I1.hok.fresh hle)
      obtain ⟨its, rv, p1, _⟩ := I1.tuple hqx
      obtain ⟨its2, rv2, p2, _⟩ := I1.tuple hqy
      obtain ⟨o1, ho1, _⟩ := id p1
      obtain ⟨o2, ho2, _⟩ := id p2
      refine call_zipT (show s1.heap.IsTuple a its.toArray from p1) (show s1.heap.IsTuple b its2.toArray from p2) fun h' hz hTI hTO h1 h2 hsz hk => py_self (f1 := false) hz ?_
      have I2 : Inv X pins σ H1 { s1 with heap := h' } := I1.kept (t' := s1.toks) hk
      exact ⟨s1.heap.objs.size + 4, _, _, _, H1, rfl, I2, turn_zipN (PySem.W.ktu_apart s1.heap.objs.size a b (Heap.lt_size ho1) (Heap.lt_size ho2)), ⟨⟨_, _, hz, .inl ⟨rfl, rfl⟩⟩, hTI, ⟨_, _, hTO⟩, h1, h2⟩, fresh5, q⟩
end DZ
namespace DL
open PySem PySem.Spec PyProof.Rows L2
section
variable {X : Cx} {g : G} {E : XD}
def wZip (a : Lc → Sto → R (List D)) : Lc → Sto → R Wk := fun L S => (a L S).bind fun ds S1 => match ds with
  | [.tup xs, .tup ys] => .ok ⟨List.zipWith (fun x y => D.tup [x, y]) xs ys, fun _ => true⟩ S1
  | _ => .bad
theorem di_zipN {e e2 : Expr} {p pos np : Pos} {nm : Str} {ls : Lc → Sto → R (List D)} (hK : X.K = g.K) (hg : Gl X "zip") (hm : X.mg "zip" = none) (ha : PA X [e, e2] (tL g E ls))
    (hs : starEach [e, e2] X.env = (false, eval e X.env) :: starEach [e2] X.env := by rfl) (hpl : (backTo pos (starEach [e2] X.env)).any (·.1) = false := by rfl) :
    PI X (.Name nm np) (.Call (.Name "zip" p) [e, e2] [] pos) (tI g E (wZip ls)) := by
  refine (DZ.pi_zipN hg hm ha hs hpl).imp fun σ H Q h => ?_
  obtain ⟨m, S, L, r, l, q⟩ := h
  refine ⟨m, S, L, r, l, (Aft.bind q).mono fun ds m1 S1 H1 e1 r1 q1 vs rvs => ?_⟩
  split at q1
  · rename_i xs ys
    obtain ⟨v, v', rfl, h2, h3⟩ := rvs2 rvs
    obtain ⟨a, vs, rfl, s1, v1⟩ := of_tup h2
    obtain ⟨b, us, rfl, s2, v2⟩ := of_tup h3
    refine ⟨a, b, vs, us, rfl, by rw [hK]; exact s1, by rw [hK]; exact s2, q1.ok r1 _ ?_⟩
    rw [hK]
    intro i m' S' H' e' r' _
    have s1' := e'.tup _ _ s1
    have s2' := e'.tup _ _ s2
    refine ⟨fun z => ⟨vs, us, s1', s2', ?_⟩, fun d hd => ?_⟩
    · have z' : (List.zipWith (fun x y => D.tup [x, y]) xs ys)[i]? = none := z
      have := List.getElem?_eq_none_iff.mp z'
      rw [List.length_zipWith] at this
      rw [v1.length, v2.length]
      omega
    · have z' : (List.zipWith (fun x y => D.tup [x, y]) xs ys)[i]? = some d := hd
      rw [List.getElem?_zipWith] at z'
      cases hx : xs[i]? with
      | none => rw [hx] at z'; cases z'
      | some x =>
        cases hy : ys[i]? with
        | none => rw [hx, hy] at z'; cases z'
        | some y =>
          rw [hx, hy] at z'
          cases z'
          obtain ⟨vx, ex, rx⟩ := (v1.ext e').get hx
          obtain ⟨vy, ey, ry⟩ := (v2.ext e').get hy
          refine ⟨⟨vs, us, vx, vy, s1', s2', ex, ey⟩, fun x' H2 yd => ?_⟩
          obtain ⟨T, x1, x2, rfl, nT, rfl, f1, f2⟩ := yd
          have e1 : x1 = vx := Option.some.inj ((f1 _ s1').symm.trans ex)
          have e2 : x2 = vy := Option.some.inj ((f2 _ s2').symm.trans ey)
          subst e1 e2
          exact ⟨ext_lay nT, r'.lay nT, rv_tup (.inl (.inl upd_same)) (.cons (rx.ext (ext_lay nT)) (.cons (ry.ext (ext_lay nT)) .nil))⟩
  · exact q1.elim
/-- f( *y ) -/
def eStar (f : List D → Sto → R D) (ko : String → Option Ob) (e : Lc → Sto → R D) : Lc → Sto → R D := fun L S => (e L S).bind fun d S1 => match d with
  | .tup ds => f ds S1
  | d => match lstOf d S1 ko with
    | some ds => f ds S1
    | none => .bad
theorem de_callS1 {k n : Nat} {f : Addr} {fd : FuncData} {ps : List Str} {Fn : List D → Sto → R D} {x : Str} {p pos sp_ : Pos} {e : Expr} {ea : Lc → Sto → R D} (hK : X.K = g.K) (F : FnOk X.prog X.w X.K X.mg X.base CX0 k f fd ps (spD g n Fn)) (hr : Room k X.A) (hg : Gl X x) (hm : X.mg x = some (.ref f)) (hk : PySem.W.keepIn X.K (.ref f) = true) (hb : Binds X.K fd ps [])
    (he : PE X e (tD g NoX ea)) (hd : (x == ("__debug__" : Str)) = false := by decide) (hst : starEach [.Starred e sp_] X.env = [(true, eval e X.env)] := by rfl) :
    PE X (.Call (.Name x p) [.Starred e sp_] [] pos) (tD g NoX (eStar (ari n Fn) g.ko ea)) := by
  refine (StX.pe_callS1 (F.raw hb .nil) hr hk hg hm pass0 he hd hst).imp fun σ H Q h => ?_
  obtain ⟨m, S, L, r, l, q⟩ := h
  refine ⟨m, S, L, r, l, (Aft.bind q).mono fun d m1 S1 H1 e1 r1 q1 v rv => ?_⟩
  have fin : ∀ {ds : List D} {vs : List V}, RVs g m1 H1 ds vs → Aft g NoX m1 H1 (ari n Fn ds S1) (vQ g Q) → spD g n Fn (vs ++ []) H1 Q E0 := fun {ds vs} rvs q2 => by
    unfold ari at q2
    split at q2
    · rename_i hz
      rw [List.append_nil]
      exact ⟨by rw [rvs.length]; exact hz, m1, S1, ds, r1, rvs, q2⟩
    · exact q2.elim
  split at q1
  · obtain ⟨a, vs, rfl, s1, v1⟩ := of_tup rv
    exact ⟨a, vs, rfl, .inl (by rw [hK]; exact s1), fin v1 q1⟩
  · split at q1
    · rename_i e0
      obtain ⟨a, vs, rfl, s1, v1⟩ := lst_run r1 rv e0
      exact ⟨a, vs, rfl, .inr (by rw [hK]; exact s1), fin v1 q1⟩
    · exact q1.elim
end
end DL

namespace DL
open PySem PySem.Spec PyProof.Rows L2
section
variable {X : Cx} {g : G} {E : XD}
theorem okL_iff {n : Nat} {ds : List D} {S : Sto} (h : okL n ds S = true) : S[n]? = some (.lst ds) := by
  unfold okL at h
  split at h
  · rename_i ds' e
    rw [e, D.beqs_eq h]
  · cases h
@[simp] theorem okL_of {n : Nat} {ds : List D} {S : Sto} (h : S[n]? = some (.lst ds)) : okL n ds S = true := by
  unfold okL
  rw [h]
  exact D.beqs_refl ds
theorem jd_list {a : Addr} {W : Wk} {m0 : List Addr} {H0 : Hp} (h : ∀ m S H, Ext g m0 H0 m H → Rel g m S H → W.ok S = true → ∃ vs, SqL g.K H a vs ∧ RVs g m H W.ds vs) : JD g (Itl g.K a) W m0 H0 := by
  intro i m S H e r hok
  obtain ⟨vs, hs, hv⟩ := h m S H e r hok
  refine ⟨fun z => ⟨vs, hs, by rw [hv.length]; exact List.getElem?_eq_none_iff.mp z⟩, fun d hd => ?_⟩
  obtain ⟨v, ev, rv⟩ := hv.get hd
  refine ⟨⟨vs, v, hs, ev⟩, fun x H' y => ?_⟩
  obtain ⟨e1, e2⟩ := y
  subst e1
  have : x = v := Option.some.inj ((e2 vs hs).symm.trans ev)
  subst this
  exact ⟨.refl, r, rv⟩
theorem jd_tup {a : Addr} {ds : List D} {vs : List V} {m0 : List Addr} {H0 : Hp} (hs0 : SqT g.K H0 a vs) (hv0 : RVs g m0 H0 ds vs) : JD g (Itt g.K a) ⟨ds, fun _ => true⟩ m0 H0 := by
  intro i m S H e r hok
  have hs := e.tup _ _ hs0
  have hv := hv0.ext e
  refine ⟨fun z => ⟨vs, hs, by rw [hv.length]; exact List.getElem?_eq_none_iff.mp z⟩, fun d hd => ?_⟩
  obtain ⟨v, ev, rv⟩ := hv.get hd
  refine ⟨⟨vs, v, hs, ev⟩, fun x H' y => ?_⟩
  obtain ⟨e1, e2⟩ := y
  subst e1
  have : x = v := Option.some.inj ((e2 vs hs).symm.trans ev)
  subst this
  exact ⟨.refl, r, rv⟩
theorem di_lst {tg e : Expr} {ea : Lc → Sto → R D} (hK : X.K = g.K) (he : PE X e (tD g E ea)) : PI X tg e (tI g E (wSeq g.ko ea)) := by
  refine (pi_list he).imp fun σ H Q h => ?_
  obtain ⟨m, S, L, r, l, q⟩ := h
  refine ⟨m, S, L, r, l, (Aft.bind q).mono fun d m1 S1 H1 e1 r1 q1 v rv => ?_⟩
  split at q1
  · rename_i n
    split at q1
    · rename_i ds e0
      obtain ⟨a, vs, rfl, ha, h1, h2⟩ := lst_ref r1 rv e0
      refine ⟨a, rfl, ⟨vs, .of h1⟩, q1.ok r1 _ ?_⟩
      rw [hK]
      refine jd_list fun m' S' H' e' r' hok => ?_
      obtain ⟨o, h1', vs', rfl, h2'⟩ := r'.ob n a _ (e'.get ha) (okL_iff hok)
      exact ⟨vs', .of h1', h2'⟩
    · exact q1.elim
  · rename_i s
    split at q1
    · rename_i ds e0
      obtain ⟨a, rfl, ha⟩ := of_kref rv
      obtain ⟨vs, h1, h2⟩ := r1.ro s a _ ha e0
      refine ⟨a, rfl, ⟨vs, by rw [hK]; exact h1.sq⟩, q1.ok r1 _ ?_⟩
      rw [hK]
      refine jd_list fun m' S' H' e' r' hok => ?_
      obtain ⟨vs', h1', h2'⟩ := r'.ro s a _ ha e0
      exact ⟨vs', h1'.sq, h2'.ext ⟨⟨m', rfl⟩, fun _ _ q => q, fun _ _ _ q => q⟩⟩
    · exact q1.elim
  · exact q1.elim
theorem di_tup {tg e : Expr} {ea : Lc → Sto → R D} (hK : X.K = g.K) (he : PE X e (tD g E ea)) : PI X tg e (tI g E (wTup ea)) := by
  refine (pi_tup he).imp fun σ H Q h => ?_
  obtain ⟨m, S, L, r, l, q⟩ := h
  refine ⟨m, S, L, r, l, (Aft.bind q).mono fun d m1 S1 H1 e1 r1 q1 v rv => ?_⟩
  split at q1
  · obtain ⟨a, vs, rfl, s1, v1⟩ := of_tup rv
    refine ⟨a, rfl, ⟨vs, by rw [hK]; exact s1⟩, q1.ok r1 _ ?_⟩
    rw [hK]
    exact jd_tup s1 v1
  · exact q1.elim
/-! repr -/
def reprD (ds : List D) (S : Sto) : R D := match ds with
  | [.non] => .ok (.str "None") S
  | [.bl b] => .ok (.str (if b = true then "True" else "False")) S
  | [.int i] => if i.natAbs.log2 < 1920 then .ok (.str (toString i)) S else .bad
  | [.str x] => if (reprText x).length ≤ sizeLine then .ok (.str (reprText x)) S else .bad
  | _ => .bad
theorem cd_repr : CallR X (.builtin "repr") (rDs g E reprD) := by
  intro pins s σ H xs us Q I r h
  obtain ⟨m, S, ds, rl, h1, q⟩ := h
  unfold reprD at q
  split at q
  · obtain ⟨v, rfl, h2⟩ := rvs1 h1
    obtain ⟨u, rfl, ru⟩ := vals1 r
    rw [of_non h2] at ru
    cases ru
    exact PySem.P.repr_of_none ⟨.str _, H, I.tok _, ⟨_, rfl⟩, q.ok rl _ rv_str⟩
  · obtain ⟨v, rfl, h2⟩ := rvs1 h1
    obtain ⟨u, rfl, ru⟩ := vals1 r
    rw [of_bl h2] at ru
    cases ru
    exact PySem.P.repr_of_bool ⟨.str _, H, I.tok _, ⟨_, rfl⟩, q.ok rl _ rv_str⟩
  · split at q
    · rename_i hz
      obtain ⟨v, rfl, h2⟩ := rvs1 h1
      obtain ⟨u, rfl, ru⟩ := vals1 r
      rw [of_int h2] at ru
      obtain ⟨t, rfl⟩ := ru
      exact PySem.P.repr_of_int hz ⟨.str _, H, I.tok _, ⟨_, rfl⟩, q.ok rl _ rv_str⟩
    · exact q.elim
  · split at q
    · rename_i hz
      obtain ⟨v, rfl, h2⟩ := rvs1 h1
      obtain ⟨u, rfl, ru⟩ := vals1 r
      rw [of_str h2] at ru
      obtain ⟨t, rfl⟩ := ru
      exact PySem.P.repr_of_str ⟨.str _, H, I.tok _, ⟨_, rfl⟩, q.ok rl _ rv_str⟩ hz
    · exact q.elim
  · exact q.elim
end
end DL

/-! a written dict with the keys True and False, asked by a name -/
namespace DL
open PySem PySem.Spec PyProof.Rows L2
section
variable {X : Cx} {g : G} {E : XD}
def eBoolGet (i j : Nat) (a b : Int) : Lc → Sto → R D := fun L S => (eVar i L S).bind fun x S1 => (eVar j L S1).bind fun _ S2 => match x with
  | .bl c => .ok (.int (if c = true then a else b)) S2
  | _ => .bad
theorem eVar_ok {i : Nat} {L : Lc} {S S' : Sto} {d : D} (h : eVar i L S = .ok d S') : L[i]? = some (some d) ∧ S' = S := by
  unfold eVar at h
  split at h
  · rename_i e
    cases h
    exact ⟨e, rfl⟩
  · cases h
theorem de_boolGet {i j : Nat} {x y : Str} {a b : Int} {p1 p2 p3 p4 p5 p6 dpos apos cpos : Pos} {c1 c2 c3 c4 : Nat} (hx : PE X (.Name x p5) (tVar i)) (hy : PE X (.Name y p6) (tVar j))
    (m : M2 X (.Dict [some (.Constant (.bool true) c1 p1), some (.Constant (.bool false) c2 p2)] [.Constant (.int a) c3 p3, .Constant (.int b) c4 p4] dpos) "get" apos (.Name x p5) (.Name y p6) cpos) :
    PE X (.Call (.Attribute (.Dict [some (.Constant (.bool true) c1 p1), some (.Constant (.bool false) c2 p2)] [.Constant (.int a) c3 p3, .Constant (.int b) c4 p4] dpos) "get" apos) [.Name x p5, .Name y p6] [] cpos) (tD g E (eBoolGet i j a b)) := by
  refine ⟨fun pins s σ H Q I h => ?_⟩
  obtain ⟨mm, S, L, r, l, q⟩ := h
  unfold eBoolGet at q
  cases e1 : eVar i L S with
  | exc c fs S' => unfold eVar at e1; split at e1 <;> cases e1
  | bad => rw [e1] at q; exact q.elim
  | ok dx S1 =>
  rw [e1] at q
  obtain ⟨hi, rfl⟩ := eVar_ok e1
  cases e2 : eVar j L S1 with
  | exc c fs S' => unfold eVar at e2; split at e2 <;> cases e2
  | bad => rw [R.bind_ok, e2] at q; exact q.elim
  | ok dy S2 =>
  rw [R.bind_ok, e2, R.bind_ok] at q
  obtain ⟨hj, rfl⟩ := eVar_ok e2
  obtain ⟨vx, ex, rx⟩ := l.2 i dx hi
  obtain ⟨vy, ey, ry⟩ := l.2 j dy hj
  cases dx with
  | bl c =>
    have evx := of_bl rx
    subst evx
    have big : sysModules < s.heap.objs.size := I.big
    refine wpAny_Call_method m.base m.few m.line PySem.F.plainAttrs_dict PySem.F.slot_dict_get PySem.F.type_dict_get ?_
    have hn : H s.heap.objs.size = none := I.hok.fresh (Nat.le_refl _)
    have I1 : Inv X pins σ H { s with heap := s.heap.push { cls := .type "dict", data := .dict #[] } } := I.kept (t' := s.toks) fun _ _ q => Heap.get?_push_of_some _ q
    have fp : FpOk X pins H s.heap.objs.size := I.fpOk (Nat.le_refl _) hn
    have I1p : Inv X ((s.heap.objs.size, { cls := .type "dict", data := .dict #[] }) :: pins) σ H { s with heap := s.heap.push { cls := .type "dict", data := .dict #[] } } := by
      refine I1.pins_of fun p hp => ?_
      rcases List.mem_cons.mp hp with rfl | hp
      · exact ⟨Heap.get?_push_size _ rfl, hn, fp.2.1, fp.2.2.1, fun v q => nomatch q⟩
      · exact I1.pin p (List.mem_append_right _ hp)
    refine wpAny_Dict_walk (knd := leafKind X.prog X.w) rfl rfl (by simp) (by simp) ?_
    refine thn ((pps_cons pe_bl pe_int (pps_cons pe_bl pe_int pps_nil)).run _ _ σ H (fun ps H' => ps = [(.bl true, .int a), (.bl false, .int b)] ∧ H' = H) I1p ⟨rfl, rfl⟩) fun ws s2 hw => ?_
    obtain ⟨ps, H2, I2, rel, e, eH⟩ := hw
    subst e eH
    cases rel with
    | cons r1 rel =>
      cases rel with
      | cons r2 rel =>
        cases rel
        rename_i w1 w2
        obtain ⟨k1, t1⟩ := w1
        obtain ⟨k2, t2⟩ := w2
        obtain ⟨hk1, ha1⟩ := r1
        obtain ⟨hk2, ha2⟩ := r2
        cases (show k1 = Value.bool true from hk1)
        cases (show k2 = Value.bool false from hk2)
        obtain ⟨u1, eu1⟩ := (show ∃ t, t1 = Value.int a t from ha1)
        obtain ⟨u2, eu2⟩ := (show ∃ t, t2 = Value.int b t from ha2)
        subst eu1 eu2
        have hp2 := I2.pin (s.heap.objs.size, { cls := .type "dict", data := .dict #[] }) (List.mem_append_right _ List.mem_cons_self)
        have d0 : s2.heap.DictOf (leafKind X.prog X.w) s.heap.objs.size [] := by
          obtain ⟨o, es, ep, h1, h2, h3, h4⟩ := Heap.DictOf.new (knd := leafKind X.prog X.w) s.heap
          have : some o = some _ := h1.symm.trans (Heap.get?_push_size _ rfl)
          cases this
          exact ⟨_, es, ep, hp2.1, h2, h3, h4⟩
        refine ⟨[(.num 1, .int a u1), (.num 0, .int b u2)], ⟨rfl, rfl, rfl, rfl, trivial⟩, d0, fun h' dd sb => ?_⟩
        have hd : (s.heap.objs.size == sysModules) = false := beq_eq_false_iff_ne.mpr (Ne.symm (Nat.ne_of_lt big))
        have I2' : Inv X pins σ H2 s2 := I2.pins_of fun p hp => I2.pin p (List.mem_append_right _ (List.mem_cons_of_mem _ hp))
        have I3 : Inv X pins σ H2 { s2 with heap := h', toks := s2.toks + 2 } := I2'.turned (it := s.heap.objs.size) (fun b o hb e => (sb.2 b hb).trans e) hn fp.2.1 fp.2.2.2.1 fp.2.2.2.2.1 fp.2.2.2.2.2
        obtain ⟨o3, es3, ep3, g3, x3, y3, z3⟩ := id dd
        refine ⟨dd.typeIs (s := { s2 with heap := h', toks := s2.toks + 2 }), fun b q => by cases q; exact ⟨o3, g3, x3.2.1⟩, ?_⟩
        have I3p : Inv X ((s.heap.objs.size, o3) :: pins) σ H2 { s2 with heap := h', toks := s2.toks + 2 } := by
          refine I3.pins_of fun p hp => ?_
          rcases List.mem_cons.mp hp with rfl | hp
          · exact ⟨g3, hn, fp.2.1, fp.2.2.1, fun v q => by rw [y3] at q; cases q⟩
          · exact I3.pin p (List.mem_append_right _ hp)
        rw [m.trees]
        refine Calls.callWith_builtin rfl (Calls.evalArgs_plain (Calls.spliced_cons (thn (hx.run _ _ σ H2 (fun v H' => v = .bl c ∧ H' = H2) I3p ⟨_, ex, rfl, rfl⟩) fun iv s4 hv => ?_)))
        obtain ⟨v4, H4, I4, rv4, ev4, eH4⟩ := hv
        subst ev4 eH4
        refine Calls.spliced_cons (thn (hy.run _ _ σ H4 (fun v H' => v = vy ∧ H' = H4) I4 ⟨_, ey, rfl, rfl⟩) fun fv s5 hv => Calls.spliced_nil ?_)
        obtain ⟨v5, H5, I5, rv5, ev5, eH5⟩ := hv
        subst ev5 eH5
        cases (show iv = Value.bool c from rv4)
        have hp5 := I5.pin (s.heap.objs.size, o3) (List.mem_append_right _ List.mem_cons_self)
        have d5 : s5.heap.DictOf (leafKind X.prog X.w) s.heap.objs.size (merged [] [(.num 1, .int a u1), (.num 0, .int b u2)]) := ⟨o3, es3, ep3, hp5.1, x3, y3, z3⟩
        have I5' : Inv X pins σ H5 s5 := I5.pins_of fun p hp => I5.pin p (List.mem_append_right _ (List.mem_cons_of_mem _ hp))
        refine call_meetsIn PySem.F.slot_dict_get d5.typeIs PySem.F.entry_dict_get (PySem.F.args_dict_get_3 _ _ _) (meets_dict_get_default (leafKind X.prog X.w) s.heap.objs.size (k := .num (if c = true then 1 else 0)) (by show decide (_ = _) = true; simp) hd fv) ⟨_, d5.mapOf, ?_⟩
        have q' := q.ok r (.int (if c = true then a else b)) rv_int
        cases c with
        | true => exact ⟨.int a, H5, I5'.tok _, ⟨u1, rfl⟩, q'⟩
        | false => exact ⟨.int b, H5, I5'.tok _, ⟨u2, rfl⟩, q'⟩
  | _ => exact q.elim
end
end DL

namespace DL
open PySem PySem.Spec PyProof.Rows L2
section
variable {X : Cx} {g : G} {E : XD}
/-! a walk over a list, a tuple or a text -/
def chars (x : Str) : List D := x.cps.toList.map fun c => D.str ⟨#[c]⟩
def wkOf (ko : String → Option Ob) (d : D) (S : Sto) : R Wk := match d with
  | .tup ds => .ok ⟨ds, fun _ => true⟩ S
  | .str x => .ok ⟨chars x, fun _ => true⟩ S
  | .ref n => match S[n]? with
    | some (.lst ds) => .ok ⟨ds, okL n ds⟩ S
    | _ => .bad
  | .kref s => match ko s with
    | some (.lst ds) => .ok ⟨ds, fun _ => true⟩ S
    | _ => .bad
  | _ => .bad
def wAny (ko : String → Option Ob) (e : Lc → Sto → R D) : Lc → Sto → R Wk := fun L S => (e L S).bind fun d S1 => wkOf ko d S1
def eRet (r : R D) : Lc → Sto → R D := fun _ _ => r
/-- an expression whose value is known to be one thing -/
theorem jd_str {x : Str} {m0 : List Addr} {H0 : Hp} : JD g (Its x) ⟨chars x, fun _ => true⟩ m0 H0 := by
  intro i m S H e r _
  have hg : (chars x)[i]? = (x.cps[i]?).map fun c => D.str ⟨#[c]⟩ := by unfold chars; rw [List.getElem?_map, Array.getElem?_toList]
  refine ⟨fun z => ?_, fun d hd => ?_⟩
  · have z' : (chars x)[i]? = none := z
    rw [hg] at z'
    cases q : x.cps[i]? with
    | none => exact Array.getElem?_eq_none_iff.mp q
    | some c => rw [q] at z'; cases z'
  · have z' : (chars x)[i]? = some d := hd
    rw [hg] at z'
    cases q : x.cps[i]? with
    | none => rw [q] at z'; cases z'
    | some c =>
      rw [q] at z'
      cases z'
      refine ⟨(Array.getElem?_eq_some_iff.mp q).1, fun v H' y => ?_⟩
      obtain ⟨e1, c', e2, e3⟩ := y
      subst e1 e3
      rw [q] at e2
      cases e2
      exact ⟨.refl, r, rv_str⟩
theorem di_any {tg e : Expr} {ea : Lc → Sto → R D} (hK : X.K = g.K) (he : PE X e (tD g E ea)) : PI X tg e (tI g E (wAny g.ko ea)) := by
  refine ⟨fun pins s σ H Q I h => ?_⟩
  obtain ⟨m, S, L, r, l, q⟩ := h
  /- by the value's kind: three ways -/
  have hb := Aft.bind q
  cases hr : ea L S with
  | bad => rw [hr] at hb; exact hb.elim
  | exc c fs S' =>
    rw [hr] at hb
    have q2 : tI g E (wTup ea) σ H Q := ⟨m, S, L, r, l, by unfold wTup; rw [hr]; exact hb⟩
    exact (di_tup hK he).run pins s σ H Q I q2
  | ok d S' =>
    have q0 : Aft g E m H (wkOf g.ko d S') fun W m' _ H' => ∀ J, JD g J W m' H' → Q J H' := by
      have : Aft g E m H ((ea L S).bind fun d S1 => wkOf g.ko d S1) fun W m' _ H' => ∀ J, JD g J W m' H' → Q J H' := q
      rw [hr] at this
      exact this
    unfold wkOf at q0
    cases d with
    | tup ds =>
      refine (di_tup hK he).run pins s σ H Q I ⟨m, S, L, r, l, ?_⟩
      unfold wTup
      rw [hr]
      exact q0
    | str x =>
      refine (pi_str he).run pins s σ H Q I ⟨m, S, L, r, l, ?_⟩
      rw [hr]
      intro m' H' e' r' v rv
      exact ⟨x, of_str rv, q0.at e' r' _ jd_str⟩
    | ref n =>
      refine (di_lst hK he).run pins s σ H Q I ⟨m, S, L, r, l, ?_⟩
      unfold wSeq
      rw [hr]
      exact q0
    | kref n =>
      refine (di_lst hK he).run pins s σ H Q I ⟨m, S, L, r, l, ?_⟩
      unfold wSeq
      rw [hr]
      exact q0
    | _ => exact q0.elim
/-! {} -/
def eDict0 : Lc → Sto → R D := fun _ S => .ok (.ref S.length) (S ++ [.dic [] []])
theorem de_dict0 {pos : Pos} : PE X (.Dict [] [] pos) (tD g E eDict0) := by
  refine pe_dnewK.imp fun σ H Q h => ?_
  obtain ⟨m, S, L, r, l, q⟩ := h
  exact fun p hp => q.at (ext_new hp [p]) (r.alloc hp ⟨[], rfl, rfl, .nil⟩) _ (rv_ref r.last)
end
/-- a def of the text as it stands behind the top -/
structure FT (K : PySem.W.Frag) (mg : Str → Option Value) (x : Str) (st : Stmt) (ps : List Str) where
  f : Addr
  fd : FuncData
  fn : Fun K x x st f fd
  bn : Binds K fd ps []
  mgx : mg x = some (.ref f)
theorem bt_int : bootBuiltins "int" = some (.type "int") := by decide +kernel
theorem bt_bool : bootBuiltins "bool" = some (.type "bool") := by decide +kernel
theorem bt_str : bootBuiltins "str" = some (.type "str") := by decide +kernel
theorem bt_tuple : bootBuiltins "tuple" = some (.type "tuple") := by decide +kernel
theorem bt_list : bootBuiltins "list" = some (.type "list") := by decide +kernel
theorem bt_dict : bootBuiltins "dict" = some (.type "dict") := by decide +kernel
theorem bt_len : bootBuiltins "len" = some (.builtin "len") := by decide +kernel
theorem bt_abs : bootBuiltins "abs" = some (.builtin "abs") := by decide +kernel
theorem bt_sum : bootBuiltins "sum" = some (.builtin "sum") := by decide +kernel
theorem bt_all : bootBuiltins "all" = some (.builtin "all") := by decide +kernel
theorem bt_any : bootBuiltins "any" = some (.builtin "any") := by decide +kernel
theorem bt_max : bootBuiltins "max" = some (.builtin "max") := by decide +kernel
theorem bt_min : bootBuiltins "min" = some (.builtin "min") := by decide +kernel
theorem bt_repr : bootBuiltins "repr" = some (.builtin "repr") := by decide +kernel
end DL

/-! reckoning with mirrors: Ok r Q, the run r ends well and Q holds of its end -/
namespace DL
open PySem PySem.Spec PyProof.Rows L2
def Ok {a : Type} (r : R a) (Q : a → Sto → Prop) : Prop := match r with
  | .ok x S => Q x S
  | _ => False
section
variable {a b : Type} {Q Q' : a → Sto → Prop}
@[simp] theorem Ok_ok (x : a) (S : Sto) : Ok (.ok x S) Q = Q x S := rfl
@[simp] theorem Ok_bad : Ok (.bad : R a) Q = False := rfl
@[simp] theorem Ok_exc (c : String) (fs : List (Str × D)) (S : Sto) : Ok (.exc c fs S : R a) Q = False := rfl
@[simp] theorem Ok_bind (r : R b) (k : b → Sto → R a) : Ok (r.bind k) Q = Ok r fun x S => Ok (k x S) Q := by cases r <;> rfl
@[simp] theorem Ok_calm (r : R a) : Ok r.calm Q = Ok r Q := by cases r <;> rfl
theorem Ok_ite (c : Prop) [Decidable c] (x y : R a) : Ok (if c then x else y) Q = if c then Ok x Q else Ok y Q := by split <;> rfl
theorem Ok.mono {r : R a} (h : Ok r Q) (k : ∀ x S, Q x S → Q' x S) : Ok r Q' := by
  cases r with
  | ok x S => exact k x S h
  | _ => exact h.elim
theorem Ok.out {r : R a} (h : Ok r Q) : ∃ x S, r = .ok x S ∧ Q x S := by
  cases r with
  | ok x S => exact ⟨x, S, rfl, h⟩
  | _ => exact h.elim
end
section
variable {L : Lc} {S : Sto} {Q : D → Sto → Prop} {Qb : Bool → Sto → Prop} {Ql : List D → Sto → Prop} {Qf : Fl → Sto → Prop} {Qg : Lc → Sto → Prop} {Qw : Wk → Sto → Prop}
@[simp] theorem ok_eC (d : D) : Ok (eC d L S) Q = Q d S := rfl
@[simp] theorem ok_eUn (f : D → Sto → R D) (x : Lc → Sto → R D) : Ok (eUn f x L S) Q = Ok (x L S) fun d S1 => Ok (f d S1) Q := by simp [eUn]
@[simp] theorem ok_eBin (f : D → D → Sto → R D) (x y : Lc → Sto → R D) : Ok (eBin f x y L S) Q = Ok (x L S) fun d S1 => Ok (y L S1) fun d' S2 => Ok (f d d' S2) Q := by simp [eBin]
@[simp] theorem ok_aNil : Ok (aNil L S) Ql = Ql [] S := rfl
@[simp] theorem ok_aCons (x : Lc → Sto → R D) (y : Lc → Sto → R (List D)) : Ok (aCons x y L S) Ql = Ok (x L S) fun d S1 => Ok (y L S1) fun ds S2 => Ql (d :: ds) S2 := by simp [aCons]
@[simp] theorem ok_eCall (f : List D → Sto → R D) (x : Lc → Sto → R (List D)) : Ok (eCall f x L S) Q = Ok (x L S) fun d S1 => Ok (f d S1) Q := by simp [eCall]
theorem ok_newL {xs : List D} : Ok (newL xs S) Q = (xs.length ≤ sizeLine ∧ Q (.ref S.length) (S ++ [.lst xs])) := by
  unfold newL
  by_cases h : xs.length ≤ sizeLine
  · rw [if_pos h]; simp [h]
  · rw [if_neg h]; simp [h]
@[simp] theorem ok_eTup (x : Lc → Sto → R (List D)) : Ok (eTup x L S) Q = Ok (x L S) fun ds S1 => ds.length ≤ sizeLine ∧ Q (.tup ds) S1 := by
  simp only [eTup, Ok_bind, Ok_ite]
  congr 1
  funext ds S1
  by_cases h : ds.length ≤ sizeLine <;> simp [h]
@[simp] theorem ok_eLst (x : Lc → Sto → R (List D)) : Ok (eLst x L S) Q = Ok (x L S) fun ds S1 => ds.length ≤ sizeLine ∧ Q (.ref S1.length) (S1 ++ [.lst ds]) := by simp only [eLst, Ok_bind, ok_newL]
@[simp] theorem ok_eAnd (x y : Lc → Sto → R D) : Ok (eAnd x y L S) Q = Ok (x L S) fun d S1 => Ok (truD d S1) fun c S2 => if c = true then Ok (y L S2) Q else Q d S2 := by simp only [eAnd, Ok_bind, Ok_ite, Ok_ok]
@[simp] theorem ok_eOr (x y : Lc → Sto → R D) : Ok (eOr x y L S) Q = Ok (x L S) fun d S1 => Ok (truD d S1) fun c S2 => if c = true then Q d S2 else Ok (y L S2) Q := by simp only [eOr, Ok_bind, Ok_ite, Ok_ok]
@[simp] theorem ok_eNot (x : Lc → Sto → R D) : Ok (eNot x L S) Q = Ok (x L S) fun d S1 => Ok (truD d S1) fun c S2 => Q (.bl (!c)) S2 := by simp only [eNot, Ok_bind, Ok_ok]
@[simp] theorem ok_eIf (t : Lc → Sto → R Bool) (x y : Lc → Sto → R D) : Ok (eIf t x y L S) Q = Ok (t L S) fun c S1 => if c = true then Ok (x L S1) Q else Ok (y L S1) Q := by simp only [eIf, Ok_bind, Ok_ite]
@[simp] theorem ok_tTru (x : Lc → Sto → R D) : Ok (tTru x L S) Qb = Ok (x L S) fun d S1 => Ok (truD d S1) Qb := by simp only [tTru, Ok_bind]
@[simp] theorem ok_tBl (x : Lc → Sto → R D) : Ok (tBl x L S) Qb = Ok (x L S) fun d S1 => match d with | .bl b => Qb b S1 | _ => False := by
  simp only [tBl, Ok_bind]
  congr 1
  funext d S1
  cases d <;> rfl
@[simp] theorem ok_tAnd2 (x y : Lc → Sto → R Bool) : Ok (tAnd2 x y L S) Qb = Ok (x L S) fun c S1 => if c = true then Ok (y L S1) Qb else Qb false S1 := by simp only [tAnd2, Ok_bind, Ok_ite, Ok_ok]
@[simp] theorem ok_tOr2 (x y : Lc → Sto → R Bool) : Ok (tOr2 x y L S) Qb = Ok (x L S) fun c S1 => if c = true then Qb true S1 else Ok (y L S1) Qb := by simp only [tOr2, Ok_bind, Ok_ite, Ok_ok]
@[simp] theorem ok_tNot1 (x : Lc → Sto → R Bool) : Ok (tNot1 x L S) Qb = Ok (x L S) fun c S1 => Qb (!c) S1 := by simp only [tNot1, Ok_bind, Ok_ok]
@[simp] theorem ok_sNx : Ok (sNx L S) Qf = Qf (.nx L) S := rfl
@[simp] theorem ok_sSeq (x y : SF) : Ok (sSeq x y L S) Qf = Ok (x L S) fun f S1 => match f with | .nx L1 => Ok (y L1 S1) Qf | f => Qf f S1 := by
  simp only [sSeq, Ok_bind]
  congr 1
  funext f S1
  cases f <;> rfl
@[simp] theorem ok_sSet (i : Nat) (x : Lc → Sto → R D) : Ok (sSet i x L S) Qf = Ok (x L S) fun d S1 => Qf (.nx (L.set i (some d))) S1 := by simp only [sSet, Ok_bind, Ok_ok]
@[simp] theorem ok_sRet (x : Lc → Sto → R D) : Ok (sRet x L S) Qf = Ok (x L S) fun d S1 => Qf (.rt d) S1 := by simp only [sRet, Ok_bind, Ok_ok]
@[simp] theorem ok_sDrop (x : Lc → Sto → R D) : Ok (sDrop x L S) Qf = Ok (x L S) fun _ S1 => Qf (.nx L) S1 := by simp only [sDrop, Ok_bind, Ok_ok]
@[simp] theorem ok_sIf (t : Lc → Sto → R Bool) (x y : SF) : Ok (sIf t x y L S) Qf = Ok (t L S) fun c S1 => if c = true then Ok (x L S1) Qf else Ok (y L S1) Qf := by simp only [sIf, Ok_bind, Ok_ite]
@[simp] theorem ok_sAsg (x : Lc → Sto → R D) (t : D → Lc → Sto → R Lc) : Ok (sAsg x t L S) Qf = Ok (x L S) fun d S1 => Ok (t d L S1) fun L2 S2 => Qf (.nx L2) S2 := by simp only [sAsg, Ok_bind, Ok_ok]
@[simp] theorem ok_gNm (i : Nat) (d : D) : Ok (gNm i d L S) Qg = Qg (L.set i (some d)) S := rfl
@[simp] theorem ok_gIx (o i : Lc → Sto → R D) (f : D → D → D → Sto → R Unit) (d : D) : Ok (gIx o i f d L S) Qg = Ok (o L S) fun x S1 => Ok (i L S1) fun y S2 => Ok (f x y d S2) fun _ S3 => Qg L S3 := by simp only [gIx, Ok_bind, Ok_ok]
@[simp] theorem ok_tYesD : Ok (tYesD L S) Qb = Qb true S := rfl
@[simp] theorem ok_wAny (ko : String → Option Ob) (x : Lc → Sto → R D) : Ok (wAny ko x L S) Qw = Ok (x L S) fun d S1 => Ok (wkOf ko d S1) Qw := by simp only [wAny, Ok_bind]
@[simp] theorem ok_eSl (ko : String → Option Ob) (x : Lc → Sto → R D) (lo hi : Lc → Sto → R (Option Int)) : Ok (eSl ko x lo hi L S) Q = Ok (x L S) fun d S1 => Ok (lo L S1) fun l S2 => Ok (hi L S2) fun h S3 => Ok (slD ko d l h S3) Q := by simp only [eSl, Ok_bind]
theorem ok_eVar {i : Nat} {d : D} (h : L[i]? = some (some d)) : Ok (eVar i L S) Q = Q d S := by unfold eVar; rw [h]; rfl
@[simp] theorem ok_truD_bl (c : Bool) : Ok (truD (.bl c) S) Qb = Qb c S := rfl
@[simp] theorem ok_pNo {Qp : Option Int → Sto → Prop} : Ok (pNo L S) Qp = Qp none S := rfl
@[simp] theorem ok_pSo {Qp : Option Int → Sto → Prop} (x : Lc → Sto → R D) : Ok (pSo x L S) Qp = Ok (x L S) fun d S1 => match d with | .int i => Qp (some i) S1 | _ => False := by
  simp only [pSo, Ok_bind]
  congr 1
  funext d S1
  cases d <;> rfl
theorem ok_ari {n : Nat} {F : List D → Sto → R D} {ds : List D} (h : ds.length = n) : Ok (ari n F ds S) Q = Ok (F ds S) Q := by unfold ari; rw [if_pos h]
theorem ok_dDef {n : Nat} {fb : SF} {ds : List D} : Ok (dDef n fb ds S) Q = Ok (fb (ds.map some ++ List.replicate (n - ds.length) none) S) fun f S' => match f with | .rt d => Q d S' | .nx _ => Q .non S' | _ => False := by
  simp only [dDef, Ok_bind]
  congr 1
  funext f S1
  cases f <;> rfl
theorem ok_sFor {w : Lc → Sto → R Wk} {t : D → Lc → Sto → R Lc} {fb : SF} : Ok (sFor w t fb L S) Qf = Ok (w L S) fun W S1 => Ok (forL W.ok t fb W.ds L S1) Qf := by simp only [sFor, Ok_bind]
theorem ok_eLc {w : Lc → Sto → R Wk} {t : D → Lc → Sto → R Lc} {tt : Lc → Sto → R Bool} {te : Lc → Sto → R D} {vs : List Nat} : Ok (eLc w t tt te vs L S) Q = Ok (w L S) fun W S1 => Ok (lcL W.ok S1.length t tt te (wipeL L vs) W.ds (S1 ++ [.lst []])) Q := by simp only [eLc, Ok_bind]
end
/-- a loop by what holds ahead of each turn -/
theorem for_inv {ok : Sto → Bool} {t : D → Lc → Sto → R Lc} {fb : SF} {Q : Fl → Sto → Prop} (I : List D → Lc → Sto → Prop)
    (step : ∀ d ds L S, I (d :: ds) L S → ok S = true ∧ Ok (t d L S) fun L1 S1 => Ok (fb L1 S1) fun f S2 => match f with
      | .nx L2 => I ds L2 S2
      | .ct L2 => I ds L2 S2
      | .bk L2 => Q (.nx L2) S2
      | .rt v => Q (.rt v) S2)
    (fin : ∀ L S, I [] L S → ok S = true ∧ Q (.nx L) S) : ∀ (ds : List D) (L : Lc) (S : Sto), I ds L S → Ok (forL ok t fb ds L S) Q
  | [], L, S, h => by
    obtain ⟨h1, h2⟩ := fin L S h
    unfold forL
    rw [if_pos h1]
    exact h2
  | d :: ds, L, S, h => by
    obtain ⟨h1, h2⟩ := step d ds L S h
    unfold forL
    rw [if_pos h1, Ok_bind]
    refine h2.mono fun L1 S1 h3 => ?_
    rw [Ok_bind]
    refine h3.mono fun f S2 h4 => ?_
    cases f with
    | nx L2 => exact for_inv I step fin ds L2 S2 h4
    | ct L2 => exact for_inv I step fin ds L2 S2 h4
    | bk L2 => exact h4
    | rt v => exact h4
/-- a list comprehension by what holds ahead of each turn: the items left, the new list so far -/
theorem lc_inv {ok : Sto → Bool} {n : Nat} {t : D → Lc → Sto → R Lc} {tt : Lc → Sto → R Bool} {te : Lc → Sto → R D} {L : Lc} {Q : D → Sto → Prop} (I : List D → List D → Sto → Prop)
    (step : ∀ d ds acc S, I (d :: ds) acc S → ok S = true ∧ Ok (t d L S) fun L1 S1 => Ok (tt L1 S1) fun c S2 => if c = true then Ok (te L1 S2) fun y S3 => S3[n]? = some (.lst acc) ∧ acc.length < sizeLine ∧ I ds (acc ++ [y]) (S3.set n (.lst (acc ++ [y]))) else I ds acc S2)
    (fin : ∀ acc S, I [] acc S → ok S = true ∧ Q (.ref n) S) : ∀ (ds acc : List D) (S : Sto), I ds acc S → Ok (lcL ok n t tt te L ds S) Q
  | [], acc, S, h => by
    obtain ⟨h1, h2⟩ := fin acc S h
    unfold lcL
    rw [if_pos h1]
    exact h2
  | d :: ds, acc, S, h => by
    obtain ⟨h1, h2⟩ := step d ds acc S h
    unfold lcL
    rw [if_pos h1, Ok_bind, Ok_calm]
    refine h2.mono fun L1 S1 h3 => ?_
    rw [Ok_bind, Ok_calm]
    refine h3.mono fun c S2 h4 => ?_
    cases c with
    | false => exact lc_inv I step fin ds acc S2 h4
    | true =>
      simp only [if_true] at h4 ⊢
      rw [Ok_bind, Ok_calm]
      refine h4.mono fun y S3 h5 => ?_
      obtain ⟨e, hz, h6⟩ := h5
      rw [e]
      simp only
      rw [if_pos hz]
      exact lc_inv I step fin ds (acc ++ [y]) _ h6
/-! stores that grow -/
def Grow (S S' : Sto) : Prop := ∃ t, S' = S ++ t
theorem Grow.refl (S : Sto) : Grow S S := ⟨[], by simp⟩
theorem Grow.trans {S S1 S2 : Sto} (a : Grow S S1) (b : Grow S1 S2) : Grow S S2 := by
  obtain ⟨t, rfl⟩ := a
  obtain ⟨u, rfl⟩ := b
  exact ⟨t ++ u, by simp⟩
theorem Grow.add (S : Sto) (t : Sto) : Grow S (S ++ t) := ⟨t, rfl⟩
theorem Grow.get {S S' : Sto} (h : Grow S S') {n : Nat} {o : Ob} (e : S[n]? = some o) : S'[n]? = some o := by
  obtain ⟨t, rfl⟩ := h
  rw [List.getElem?_append_left (List.getElem?_eq_some_iff.mp e).1]
  exact e
theorem Grow.len {S S' : Sto} (h : Grow S S') : S.length ≤ S'.length := by
  obtain ⟨t, rfl⟩ := h
  simp
/-- the map of a comprehension whose element only makes the store grow -/
theorem lc_map {n : Nat} {t : D → Lc → Sto → R Lc} {te : Lc → Sto → R D} {L : Lc} {Q : D → Sto → Prop} {ok : Sto → Bool} {S : Sto} (f : D → D) (ds : List D) (hn : n = S.length) (hl : ds.length < sizeLine)
    (hok : ∀ S', Grow S S' → ok S' = true)
    (elt : ∀ d ∈ ds, ∀ S', Grow S S' → Ok (t d L S') fun L1 S1 => Ok (te L1 S1) fun y S2 => y = f d ∧ Grow S' S2)
    (fin : ∀ S', Grow (S ++ [.lst (ds.map f)]) S' → Q (.ref n) S') : Ok (lcL ok n t tYesD te L ds (S ++ [.lst []])) Q := by
  subst hn
  refine lc_inv (I := fun rest acc S' => (∃ pre, ds = pre ++ rest ∧ acc = pre.map f) ∧ Grow (S ++ [.lst acc]) S') (fun d rest acc S' h => ?_) (fun acc S' h => ?_) ds [] _ ⟨⟨[], rfl, rfl⟩, .refl _⟩
  · obtain ⟨⟨pre, e, ea⟩, g⟩ := h
    have g0 : Grow S S' := (Grow.add S _).trans g
    refine ⟨hok S' g0, (elt d (by rw [e]; simp) S' g0).mono fun L1 S1 h1 => ?_⟩
    rw [ok_tYesD, if_pos rfl]
    refine h1.mono fun y S2 h2 => ?_
    obtain ⟨rfl, g2⟩ := h2
    have g3 := g.trans g2
    refine ⟨g3.get (by simp), ?_, ⟨pre ++ [d], by rw [e]; simp, by rw [ea]; simp⟩, ?_⟩
    · have : pre.length < ds.length := by rw [e]; simp
      rw [ea, List.length_map]
      omega
    · obtain ⟨u, rfl⟩ := g3
      exact ⟨u, by simp [List.set_append]⟩
  · obtain ⟨⟨pre, e, ea⟩, g⟩ := h
    rw [List.append_nil] at e
    subst e
    rw [ea] at g
    exact ⟨hok S' ((Grow.add S _).trans g), fin S' g⟩
end DL

/-! the pool of a law and its draws -/
namespace DL
open PySem PySem.Spec PyProof.Rows L2
@[simp] theorem ok_eVar' {L : Lc} {S : Sto} {Q : D → Sto → Prop} (i : Nat) : Ok (eVar i L S) Q = match L[i]? with | some (some d) => Q d S | _ => False := by
  unfold eVar
  cases L[i]? with
  | none => rfl
  | some o => cases o <;> rfl
/-! bits -/
theorem bits_le {x : Int} {n : Nat} (h : x.natAbs < 2 ^ n) : Builtin.Int.intBits x ≤ n := PyProof.Rows.intBits_le h
theorem lt_bits {x : Int} {n : Nat} (h : Builtin.Int.intBits x ≤ n) : x.natAbs < 2 ^ n := by
  unfold Builtin.Int.intBits at h
  by_cases h0 : x.natAbs = 0
  · rw [h0]
    exact Nat.pow_pos (by decide)
  · rw [if_neg (by intro e; exact h0 (Int.natAbs_eq_zero.mpr (beq_iff_eq.mp e)))] at h
    exact (Nat.log2_lt h0).mp (by omega)
theorem p64 : (2 : Nat) ^ 64 = 18446744073709551616 := by decide
theorem bits_64 {x : Int} (h0 : 0 ≤ x) (h : x < 18446744073709551616) : Builtin.Int.intBits x ≤ 64 := bits_le (n := 64) (by rw [p64]; omega)
theorem ok_mul {x y : Int} {S : Sto} {Q : D → Sto → Prop} {m n : Nat} (hx : Builtin.Int.intBits x ≤ m) (hy : Builtin.Int.intBits y ≤ n) (hmn : m + n ≤ 134217728) : Ok (mulD (.int x) (.int y) S) Q = Q (.int (x * y)) S := by
  unfold mulD
  simp only
  rw [if_pos (by omega)]
  rfl
theorem ok_mul64 {x y : Int} {S : Sto} {Q : D → Sto → Prop} (h0 : 0 ≤ x) (h1 : x < 18446744073709551616) (h2 : 0 ≤ y) (h3 : y < 18446744073709551616) : Ok (mulD (.int x) (.int y) S) Q = Q (.int (x * y)) S := ok_mul (bits_64 h0 h1) (bits_64 h2 h3) (by decide)
@[simp] theorem ok_add_int {x y : Int} {S : Sto} {Q : D → Sto → Prop} : Ok (addD (.int x) (.int y) S) Q = Q (.int (x + y)) S := rfl
@[simp] theorem ok_sub_int {x y : Int} {S : Sto} {Q : D → Sto → Prop} : Ok (subD (.int x) (.int y) S) Q = Q (.int (x - y)) S := rfl
theorem ok_mod_int {x y : Int} {S : Sto} {Q : D → Sto → Prop} (h : 0 < y) : Ok (modD (.int x) (.int y) S) Q = Q (.int (x % y)) S := by unfold modD; simp only; rw [if_pos h]; rfl
theorem ok_div_int {x y : Int} {S : Sto} {Q : D → Sto → Prop} (h : 0 < y) (h2 : y < 18446744073709551616) : Ok (fdivD (.int x) (.int y) S) Q = Q (.int (x / y)) S := by
  have h3 : y.natAbs.log2 < 9000 := by
    have h0 : y.natAbs ≠ 0 := by omega
    have := (Nat.log2_lt (k := 64) h0).mpr (by rw [p64]; omega)
    omega
  unfold fdivD
  simp only
  rw [if_pos ⟨h, h3⟩]
  rfl
@[simp] theorem ok_ord_int {f : Int → Int → Bool} {x y : Int} {S : Sto} {Q : D → Sto → Prop} : Ok (ordD f (.int x) (.int y) S) Q = Q (.bl (f x y)) S := rfl
@[simp] theorem ok_abs_int {x : Int} {S : Sto} {Q : D → Sto → Prop} : Ok (absD [.int x] S) Q = Q (.int (if x < 0 then -x else x)) S := rfl
@[simp] theorem ok_intD_bl {b : Bool} {S : Sto} {Q : D → Sto → Prop} : Ok (intD [.bl b] S) Q = Q (.int (if b = true then 1 else 0)) S := rfl
@[simp] theorem ok_neg_int {x : Int} {S : Sto} {Q : D → Sto → Prop} : Ok (negD (.int x) S) Q = Q (.int (-x)) S := rfl
theorem ok_pow_int {x y : Int} {S : Sto} {Q : D → Sto → Prop} (h : 0 ≤ y ∧ y ≤ 1000000 ∧ x.natAbs < 2 ^ 64) : Ok (powD (.int x) (.int y) S) Q = Q (.int (x ^ y.toNat)) S := by unfold powD; simp only; rw [if_pos h]; rfl
@[simp] theorem ok_eq_int {neg : Bool} {ko : String → Option Ob} {x y : Int} {S : Sto} {Q : D → Sto → Prop} : Ok (eqD neg ko (.int x) (.int y) S) Q = Q (.bl (neg != decide (x = y))) S := rfl
@[simp] theorem ok_eq_str {neg : Bool} {ko : String → Option Ob} {x y : Str} {S : Sto} {Q : D → Sto → Prop} : Ok (eqD neg ko (.str x) (.str y) S) Q = Q (.bl (neg != decide (x = y))) S := rfl
@[simp] theorem ok_eq_bl {neg : Bool} {ko : String → Option Ob} {x y : Bool} {S : Sto} {Q : D → Sto → Prop} : Ok (eqD neg ko (.bl x) (.bl y) S) Q = Q (.bl (neg != decide (x = y))) S := rfl

/-! the pool -/
def PoolOk (S : Sto) (i : Nat) : Prop := ∃ a b : Int, S[i]? = some (.lst [.int a, .int b]) ∧ 0 ≤ a ∧ 0 ≤ b ∧ b < 2147483647
/-- all but the pool is as it was, new things behind -/
structure Stp (i : Nat) (S S' : Sto) : Prop where
  len : S.length ≤ S'.length
  same : ∀ j, j < S.length → j ≠ i → S'[j]? = S[j]?
  pool : PoolOk S' i
theorem PoolOk.lt {S : Sto} {i : Nat} (h : PoolOk S i) : i < S.length := by
  obtain ⟨a, b, e, _⟩ := h
  exact (List.getElem?_eq_some_iff.mp e).1
theorem Stp.refl {i : Nat} {S : Sto} (h : PoolOk S i) : Stp i S S := ⟨Nat.le_refl _, fun _ _ _ => rfl, h⟩
theorem Stp.trans {i : Nat} {S S1 S2 : Sto} (a : Stp i S S1) (b : Stp i S1 S2) : Stp i S S2 :=
  ⟨Nat.le_trans a.len b.len, fun j h1 h2 => (b.same j (Nat.lt_of_lt_of_le h1 a.len) h2).trans (a.same j h1 h2), b.pool⟩
theorem PoolOk.grow {S S' : Sto} {i : Nat} (h : PoolOk S i) (g : Grow S S') : PoolOk S' i := by
  obtain ⟨a, b, e, r⟩ := h
  exact ⟨a, b, g.get e, r⟩
theorem Stp.grow {i : Nat} {S S' : Sto} (h : PoolOk S i) (g : Grow S S') : Stp i S S' := by
  refine ⟨g.len, fun j h1 _ => ?_, h.grow g⟩
  obtain ⟨t, rfl⟩ := g
  rw [List.getElem?_append_left h1]
theorem Stp.get {i : Nat} {S S' : Sto} (h : Stp i S S') {j : Nat} {o : Ob} (hj : j ≠ i) (e : S[j]? = some o) : S'[j]? = some o := by
  rw [h.same j (List.getElem?_eq_some_iff.mp e).1 hj]
  exact e
theorem lst_at {S : Sto} {n : Nat} {ds : List D} {ko : String → Option Ob} (e : S[n]? = some (.lst ds)) : lstOf (.ref n) S ko = some ds := by simp [lstOf, e]
theorem ok_ix_ref {S : Sto} {n : Nat} {ds : List D} {ko : String → Option Ob} {i : Int} {d : D} {Q : D → Sto → Prop} (e : S[n]? = some (.lst ds)) (h : atI ds i = some d) : Ok (ixD ko (.ref n) (.int i) S) Q = Q d S := by
  simp [ixD, lst_at e, h]
theorem ok_ix_tup {S : Sto} {ds : List D} {ko : String → Option Ob} {i : Int} {d : D} {Q : D → Sto → Prop} (h : atI ds i = some d) : Ok (ixD ko (.tup ds) (.int i) S) Q = Q d S := by
  simp [ixD, h]
theorem ok_set_ref {S : Sto} {n j : Nat} {ds : List D} {i : Int} {d : D} {Q : Unit → Sto → Prop} (e : S[n]? = some (.lst ds)) (h : ixN ds.length i = some j) : Ok (setD (.ref n) (.int i) d S) Q = Q () (S.set n (.lst (ds.set j d))) := by
  simp [setD, e, h]
def b_draw0 (ko : String → Option Ob) : SF :=
  (sSeq (sIf (tBl (eBin (ordD fun i j => decide (j < i)) (eBin (ixD ko) (eVar 0) (eC (.int 0))) (eC (.int 0))))
    (sSeq (sSet 2 (eBin modD (eBin (ixD ko) (eVar 0) (eC (.int 0))) (eVar 1)))
  (sSeq (sAsg (eBin fdivD (eBin (ixD ko) (eVar 0) (eC (.int 0))) (eVar 1)) (gIx (eVar 0) (eC (.int 0)) setD))
  (sRet (eVar 2))))
    sNx)
  (sSeq (sAsg (eBin modD (eBin addD (eBin mulD (eBin (ixD ko) (eVar 0) (eC (.int 1))) (eC (.int 48271))) (eC (.int 11))) (eC (.int 2147483647))) (gIx (eVar 0) (eC (.int 1)) setD))
  (sRet (eBin modD (eBin fdivD (eBin modD (eBin mulD (eBin (ixD ko) (eVar 0) (eC (.int 1))) (eBin (ixD ko) (eVar 0) (eC (.int 1)))) (eC (.int 2147483629))) (eC (.int 16))) (eVar 1)))))
theorem draw0 {ko : String → Option Ob} {S : Sto} {i : Nat} {m : Int} {Q : D → Sto → Prop} (hp : PoolOk S i) (h0 : 0 < m) (h1 : m < 18446744073709551616) (h : ∀ r S', 0 ≤ r → r < m → Stp i S S' → Q (.int r) S') : Ok (dDef 3 (b_draw0 ko) [.ref i, .int m] S) Q := by
  obtain ⟨a, b, e, ha, hb, hb2⟩ := hp
  have hi := (List.getElem?_eq_some_iff.mp e).1
  have at0 : atI [D.int a, D.int b] 0 = some (.int a) := rfl
  have at1 : atI [D.int a, D.int b] 1 = some (.int b) := rfl
  have stp : ∀ {x y : Int}, 0 ≤ x → 0 ≤ y → y < 2147483647 → Stp i S (S.set i (.lst [.int x, .int y])) := fun {x y} hx hy hy2 =>
    ⟨by simp, fun j _ hne => List.getElem?_set_ne (Ne.symm hne), x, y, by rw [List.getElem?_set_self hi], hx, hy, hy2⟩
  rw [ok_dDef]
  unfold b_draw0
  simp only [List.map_cons, List.map_nil, List.length_cons, List.length_nil, ok_sSeq, ok_sIf, ok_tBl, ok_eBin, ok_eVar', ok_eC, ok_sSet, ok_sAsg, ok_gIx, ok_sRet, List.cons_append, List.nil_append, List.getElem?_cons_zero, List.getElem?_cons_succ, ok_ix_ref e at0, ok_ord_int, List.set_cons_zero, List.set_cons_succ, ok_mod_int h0, ok_div_int h0 h1, List.replicate_succ, List.replicate_zero,
    show 3 - (0 + 1 + 1) = 1 from rfl]
  by_cases hpos : 0 < a
  · simp only [hpos, decide_true, if_true]
    have hset : ixN [D.int a, D.int b].length 0 = some 0 := rfl
    simp only [ok_ix_ref e at0, ok_mod_int h0, ok_div_int h0 h1, ok_set_ref e hset, List.set_cons_zero]
    exact h _ _ (Int.emod_nonneg _ (by omega)) (Int.emod_lt_of_pos _ h0) (stp (Int.ediv_nonneg ha (by omega)) hb hb2)
  · simp only [hpos, decide_false, Bool.false_eq_true, if_false, ok_sNx]
    have hset : ixN [D.int a, D.int b].length 1 = some 1 := rfl
    simp only [List.getElem?_cons_zero, List.getElem?_cons_succ]
    rw [ok_ix_ref e at1, ok_mul64 hb (by omega) (by decide) (by decide)]
    simp only [ok_add_int, ok_mod_int (show (0 : Int) < 2147483647 by decide), ok_set_ref e hset, List.set_cons_succ, List.set_cons_zero]
    have hb' : 0 ≤ (b * 48271 + 11) % 2147483647 := Int.emod_nonneg _ (by decide)
    have hb2' : (b * 48271 + 11) % 2147483647 < 2147483647 := Int.emod_lt_of_pos _ (by decide)
    generalize (b * 48271 + 11) % 2147483647 = c at hb' hb2'
    have e' : (S.set i (.lst [.int a, .int c]))[i]? = some (.lst [.int a, .int c]) := List.getElem?_set_self hi
    have at1' : atI [D.int a, D.int c] 1 = some (.int c) := rfl
    rw [ok_ix_ref e' at1', ok_ix_ref e' at1', ok_mul64 hb' (by omega) hb' (by omega)]
    simp only [ok_mod_int (show (0 : Int) < 2147483629 by decide), ok_div_int (show (0 : Int) < 16 by decide) (by decide), ok_mod_int h0]
    exact h _ _ (Int.emod_nonneg _ (by omega)) (Int.emod_lt_of_pos _ h0) (stp ha hb' hb2')
def b_pool0 (ko : String → Option Ob) : SF :=
  (sSeq (sSet 2 (eBin addD (eBin mulD (eC (.int 11)) (eCall (sumD ko) (aCons (eSl ko (eVar 0) pNo (pSo (eC (.int 63)))) aNil))) (eVar 1)))
  (sSeq (sIf (tBl (eBin (ordD fun i j => decide (i < j)) (eVar 1) (eCall (lenD ko) (aCons (eVar 0) aNil))))
    (sSet 2 (eBin (ixD ko) (eVar 0) (eVar 1)))
    sNx)
  (sSeq (sSet 3 (eCall (absD) (aCons (eVar 2) aNil)))
  (sSeq (sSet 4 (eBin modD (eBin mulD (eBin addD (eBin addD (eBin addD (eBin modD (eVar 3) (eC (.int 2147483629))) (eBin mulD (eBin mulD (eC (.int 7919)) (eVar 1)) (eVar 1))) (eBin mulD (eC (.int 31)) (eVar 1))) (eC (.int 17))) (eC (.int 48271))) (eC (.int 2147483647))))
  (sRet (eLst (aCons (eBin mulD (eVar 3) (eCall (intD) (aCons (eBin (ordD fun i j => decide (j ≤ i)) (eVar 3) (eBin powD (eC (.int 10)) (eC (.int 18)))) aNil))) (aCons (eBin modD (eBin mulD (eVar 4) (eVar 4)) (eC (.int 2147483629))) aNil))))))))
theorem ints_map : ∀ ns : List Int, ints? (ns.map D.int) = some ns
  | [] => rfl
  | n :: ns => by simp [ints?, ints_map ns]
theorem sum_abs {B : Nat} : ∀ ns : List Int, (∀ z ∈ ns, z.natAbs < B) → ns.sum.natAbs ≤ ns.length * B
  | [], _ => by simp
  | n :: ns, h => by
    have h1 := h n (by simp)
    have h2 := sum_abs ns fun z hz => h z (by simp [hz])
    rw [List.sum_cons, List.length_cons, Nat.succ_mul]
    omega
/-- the script as it is given -/
def koS (ns : List Int) : String → Option Ob := fun s => if s = "script" then some (.lst (ns.map .int)) else none
theorem koS_s (ns : List Int) : koS ns "script" = some (.lst (ns.map .int)) := rfl
theorem pool0 {ns : List Int} {S : Sto} {j : Int} {Q : D → Sto → Prop} (hn : ns.length ≤ 63) (hb : ∀ z ∈ ns, Builtin.Int.intBits z ≤ 1048576) (h0 : 0 ≤ j) (h1 : j < 1000) (h : ∀ n S', Grow S S' → PoolOk S' n → S.length ≤ n → Q (.ref n) S') : Ok (dDef 5 (b_pool0 (koS ns)) [.kref "script", .int j] S) Q := by
  have big : ∀ z ∈ ns, z.natAbs < 2 ^ 1048576 := fun z hz => lt_bits (hb z hz)
  generalize hB : 1048576 = B at big
  have hB' : B = 1048576 := hB.symm
  have cut : cutD (ns.map D.int) none (some 63) = (ns.take 63).map D.int := by
    unfold cutD
    rw [HT.sIx_none, show HT.sIx (ns.map D.int).length (ns.map D.int).length (some 63) = min 63 (ns.map D.int).length from HT.sIx_nat _ _ 63]
    rw [List.drop_zero, Nat.sub_zero, List.length_map, List.map_take, Nat.min_eq_right hn, List.take_of_length_le (by simp), List.take_of_length_le (by simpa using hn)]
  have lk : lstOf (.kref "script") S (koS ns) = some (ns.map D.int) := by simp [lstOf, koS_s]
  have hsum : (ns.take 63).sum.natAbs < 2 ^ (B + 6) := by
    have := sum_abs (B := 2 ^ B) (ns.take 63) fun z hz => big z (List.mem_of_mem_take hz)
    have hl : (ns.take 63).length ≤ 63 := by simp; omega
    have h2 : (ns.take 63).length * 2 ^ B ≤ 63 * 2 ^ B := Nat.mul_le_mul_right _ hl
    have h3 : 2 ^ (B + 6) = 64 * 2 ^ B := by rw [Nat.pow_add]; omega
    have h4 : 0 < 2 ^ B := Nat.pow_pos (by decide)
    omega
  rw [ok_dDef]
  unfold b_pool0
  simp only [List.map_cons, List.map_nil, List.length_cons, List.length_nil, show 5 - (0 + 1 + 1) = 3 from rfl, List.replicate_succ, List.replicate_zero, List.cons_append, List.nil_append]
  rw [ok_sSeq]
  simp only [ok_sSet, ok_eBin, ok_eC, ok_eCall, ok_aCons, ok_aNil, ok_eSl, ok_pNo, ok_pSo, ok_eVar', List.getElem?_cons_zero, List.getElem?_cons_succ]
  have sl : ∀ {Q : D → Sto → Prop}, Ok (slD (koS ns) (.kref "script") none (some 63) S) Q = Q (.ref S.length) (S ++ [.lst ((ns.take 63).map D.int)]) := by
    intro Q
    unfold slD
    simp only [lk, ok_newL, cut]
    have : ((ns.take 63).map D.int).length ≤ sizeLine := by
      rw [List.length_map, sizeLine_eq]
      simp
      omega
    exact propext ⟨fun q => q.2, fun q => ⟨this, q⟩⟩
  rw [sl]
  have sm : ∀ {Q : D → Sto → Prop}, Ok (sumD (koS ns) [.ref S.length] (S ++ [.lst ((ns.take 63).map D.int)])) Q = Q (.int (ns.take 63).sum) (S ++ [.lst ((ns.take 63).map D.int)]) := by
    intro Q
    unfold sumD
    simp only [lst_at (S := S ++ [.lst ((ns.take 63).map D.int)]) (n := S.length) (ds := (ns.take 63).map D.int) (ko := koS ns) (by simp), ints_map, Ok_ok]
  rw [sm, ok_mul (m := 64) (n := B + 6) (bits_64 (by decide) (by decide)) (bits_le hsum) (by omega)]
  generalize hS1 : S ++ [Ob.lst ((ns.take 63).map D.int)] = S1
  have g1 : Grow S S1 := ⟨_, hS1.symm⟩
  have hl1 : S1.length = S.length + 1 := by rw [← hS1]; simp
  simp only [ok_add_int, List.set_cons_zero, List.set_cons_succ]
  rw [ok_sSeq, ok_sIf]
  simp only [ok_tBl, ok_eBin, ok_eVar', List.getElem?_cons_zero, List.getElem?_cons_succ, ok_eCall, ok_aCons, ok_aNil]
  have ln : ∀ {Q : D → Sto → Prop}, Ok (lenD (koS ns) [.kref "script"] S1) Q = Q (.int (ns.map D.int).length) S1 := by
    intro Q
    have lk : lstOf (.kref "script") S1 (koS ns) = some (ns.map D.int) := by simp [lstOf, koS_s]
    simp [lenD, lk]
  rw [ln]
  simp only [ok_ord_int, List.length_map]
  have fin : ∀ c : Int, c.natAbs < 2 ^ (B + 11) → Ok (sSeq (sSet 3 (eCall (absD) (aCons (eVar 2) aNil)))
      (sSeq (sSet 4 (eBin modD (eBin mulD (eBin addD (eBin addD (eBin addD (eBin modD (eVar 3) (eC (.int 2147483629))) (eBin mulD (eBin mulD (eC (.int 7919)) (eVar 1)) (eVar 1))) (eBin mulD (eC (.int 31)) (eVar 1))) (eC (.int 17))) (eC (.int 48271))) (eC (.int 2147483647))))
      (sRet (eLst (aCons (eBin mulD (eVar 3) (eCall (intD) (aCons (eBin (ordD fun i j => decide (j ≤ i)) (eVar 3) (eBin powD (eC (.int 10)) (eC (.int 18)))) aNil))) (aCons (eBin modD (eBin mulD (eVar 4) (eVar 4)) (eC (.int 2147483629))) aNil))))) [some (.kref "script"), some (.int j), some (.int c), none, none] S1) fun f S' => match f with | .rt d => Q d S' | .nx _ => Q .non S' | _ => False := by
    intro c hc
    rw [ok_sSeq]
    simp only [ok_sSet, ok_eCall, ok_aCons, ok_aNil, ok_eVar', List.getElem?_cons_zero, List.getElem?_cons_succ, ok_abs_int, List.set_cons_zero, List.set_cons_succ]
    rw [ok_sSeq]
    simp only [ok_sSet, ok_eVar', List.getElem?_cons_zero, List.getElem?_cons_succ, ok_eBin, ok_eC, ok_mod_int (show (0 : Int) < 2147483629 by decide)]
    have hg0 : 0 ≤ (if c < 0 then -c else c) := by split <;> omega
    have hg1 : (if c < 0 then -c else c).natAbs < 2 ^ (B + 11) := by split <;> omega
    generalize (if c < 0 then -c else c) = gr at hg0 hg1
    have hm0 : 0 ≤ gr % 2147483629 := Int.emod_nonneg _ (by decide)
    have hm1 : gr % 2147483629 < 2147483629 := Int.emod_lt_of_pos _ (by decide)
    have hjj : 0 ≤ 7919 * j * j ∧ 7919 * j * j < 7919000001 := by
      have h2 : 0 ≤ j * j := Int.mul_nonneg h0 h0
      have h3 : j * j ≤ 1000 * 1000 := Int.mul_le_mul (by omega) (by omega) h0 (by decide)
      rw [Int.mul_assoc]
      omega
    rw [ok_mul64 (by decide) (by decide) h0 (by omega), ok_mul64 (by omega) (by omega) h0 (by omega)]
    simp only [ok_add_int, ok_mul64 (show (0 : Int) ≤ 31 by decide) (by decide) h0 (show j < 18446744073709551616 by omega)]
    rw [ok_mul64 (by omega) (by omega) (by decide) (by decide), ok_mod_int (show (0 : Int) < 2147483647 by decide)]
    generalize hmx : (gr % 2147483629 + 7919 * j * j + 31 * j + 17) * 48271 % 2147483647 = mx
    have hx0 : 0 ≤ mx := by rw [← hmx]; exact Int.emod_nonneg _ (by decide)
    have hx1 : mx < 2147483647 := by rw [← hmx]; exact Int.emod_lt_of_pos _ (by decide)
    simp only [ok_sRet, ok_eLst, ok_aCons, ok_aNil, ok_eBin, ok_eVar', List.set_cons_zero, List.set_cons_succ, List.getElem?_cons_zero, List.getElem?_cons_succ, ok_eCall, ok_eC, ok_pow_int (x := 10) (y := 18) ⟨by decide, by decide, by decide⟩, ok_ord_int, ok_intD_bl]
    rw [ok_mul (m := B + 11) (n := 64) (bits_le hg1) (bits_64 (by split <;> decide) (by split <;> decide)) (by omega)]
    rw [ok_mul64 hx0 (by omega) hx0 (by omega), ok_mod_int (show (0 : Int) < 2147483629 by decide)]
    have hq0 : 0 ≤ mx * mx % 2147483629 := Int.emod_nonneg _ (by decide)
    have hq1 : mx * mx % 2147483629 < 2147483629 := Int.emod_lt_of_pos _ (by decide)
    have ha0 : 0 ≤ gr * (if decide ((10 : Int) ^ (18 : Int).toNat ≤ gr) = true then 1 else 0) := by
      split
      · omega
      · omega
    generalize gr * (if decide ((10 : Int) ^ (18 : Int).toNat ≤ gr) = true then 1 else 0) = a0 at ha0
    generalize mx * mx % 2147483629 = b0 at hq0 hq1
    refine ⟨by rw [sizeLine_eq]; simp, ?_⟩
    have pk : PoolOk (S1 ++ [.lst [.int a0, .int b0]]) S1.length := ⟨a0, b0, by simp, ha0, hq0, by omega⟩
    exact h _ _ (g1.trans (.add _ _)) pk (by omega)
  have hj2 : (11 * (ns.take 63).sum + j).natAbs < 2 ^ (B + 11) := by
    have h3 : 2 ^ (B + 11) = 32 * 2 ^ (B + 6) := by rw [show B + 11 = (B + 6) + 5 from rfl, Nat.pow_add _ (B + 6) 5]; omega
    have h4 : 2 ^ (B + 6) = 64 * 2 ^ B := by rw [Nat.pow_add]; omega
    have h5 : 2 ^ 10 ≤ 2 ^ B := Nat.pow_le_pow_right (by decide) (by omega)
    have h6 : (2 : Nat) ^ 10 = 1024 := by decide
    omega
  by_cases hlt : j < (ns.length : Int)
  · simp only [hlt, decide_true, if_true, ok_sSet, ok_eBin, ok_eVar', List.getElem?_cons_zero, List.getElem?_cons_succ]
    obtain ⟨jn, rfl⟩ := Int.eq_ofNat_of_zero_le h0
    have hjn : jn < ns.length := by omega
    have ix : ∀ {Q : D → Sto → Prop}, Ok (ixD (koS ns) (.kref "script") (.int jn) S1) Q = Q (.int ns[jn]) S1 := by
      intro Q
      have lk : lstOf (.kref "script") S1 (koS ns) = some (ns.map D.int) := by simp [lstOf, koS_s]
      have at' : atI (ns.map D.int) (jn : Int) = some (.int ns[jn]) := atI_nat (by rw [List.getElem?_map, List.getElem?_eq_getElem hjn]; rfl)
      unfold ixD
      simp only [lk, at', Ok_ok]
    rw [ix]
    simp only [List.set_cons_zero, List.set_cons_succ]
    refine fin _ (Nat.lt_of_lt_of_le (big _ (List.getElem_mem hjn)) (Nat.pow_le_pow_right (by decide) (by omega)))
  · simp only [hlt, decide_false, Bool.false_eq_true, if_false, ok_sNx]
    exact fin _ hj2
end DL

/-! the end of a law row over the data layer -/
namespace DL
open PySem PySem.Spec PyProof.Rows L2
def gS (K : PySem.W.Frag) (a : Addr) (ns : List Int) : G := ⟨K, fun s => if s = "script" then some a else none, koS ns, fun _ => none⟩
def spLaw (F : (String → Option Ob) → List D → Sto → R D) (K : PySem.W.Frag) : Sp := fun vs H Q E => ∃ p : Addr × List Int, spD (gS K p.1 p.2) 1 (F (koS p.2)) vs H Q E
theorem fn_ex {ix : Type} {P : Program} {w : World} {K : PySem.W.Frag} {mg : Str → Option Value} {base : Heap} {CX : CXT} {k : Nat} {f : Addr} {fd : FuncData} {ps : List Str} {sp : ix → Sp} (h : ∀ i, FnOk P w K mg base CX k f fd ps (sp i)) : FnOk P w K mg base CX k f fd ps (fun vs H Q E => ∃ i, sp i vs H Q E) :=
  ⟨fun vs H Q E ⟨i, q⟩ => (h i).len vs H Q E q, fun A outer s H args us vs Q E hr h0 hb hv ⟨i, q⟩ => (h i).run A outer s H args us vs Q E hr h0 hb hv q⟩
theorem rvs_ints {g : G} {m : List Addr} {H : Hp} : ∀ ns : List Int, RVs g m H (ns.map D.int) (ns.map V.int)
  | [] => .nil
  | n :: ns => .cons rv_int (rvs_ints ns)
theorem law_sp {F : (String → Option Ob) → List D → Sto → R D} (hF : ∀ ns : List Int, ns.length ≤ 63 → (∀ z ∈ ns, Builtin.Int.intBits z ≤ 1048576) → Ok (F (koS ns) [.kref "script"] []) fun d _ => d = .bl true)
    (K : PySem.W.Frag) (H : Hp) (a : Addr) (ns : List Int) (hl : ns.length ≤ 63) (hb : ∀ z ∈ ns, Builtin.Int.intBits z ≤ 1048576) (hO : Only H) (hS : SqL K H a (ns.map V.int)) (E : XK) : spLaw F K [.ref a] H (fun v _ => v = .bl true) E := by
  refine ⟨(a, ns), rfl, [], [], [.kref "script"], ⟨rfl, fun n k b h => by simp at h, fun n b ob h => by simp at h, fun s b ob h1 h2 => ?_⟩, .cons (rv_kref (by simp [gS])) .nil, ?_⟩
  · have hs : s = "script" := by
      by_cases e : s = "script"
      · exact e
      · simp [gS, e] at h1
    subst hs
    have e1 : a = b := by simpa [gS] using h1
    have e2 : Ob.lst (ns.map D.int) = ob := by simpa [gS, koS] using h2
    subst e1 e2
    refine ⟨ns.map V.int, ?_, rvs_ints ns⟩
    rcases hS with (h | ⟨o, h⟩) | h
    · rcases hO a with z | ⟨o, xs, z⟩
      · rw [z] at h; cases h
      · rw [z] at h; cases h
    · exact .inl ⟨o, h⟩
    · exact .inr h
  · obtain ⟨d, S', e, rfl⟩ := (hF ns hl hb).out
    show Aft _ _ _ _ (F (koS ns) [.kref "script"] []) _
    rw [e]
    exact fun m' H' _ _ v rv => of_bl rv
/-- a def that stands behind the top -/
def FT.of {K : PySem.W.Frag} {h : Heap} {mg : Str → Option Value} {x : Str} {st : Stmt} {ps : List Str} {f : Addr} {od an : Option Addr} {sl : Array (Option Value)} {oc kV dc pm cd ct : Value} (X : K.In h) (G : h.Ns mainGlobals mg)
    (hb : ∀ (kV doc pm : Value) (an : Option Addr) (cdv ct : Value) (us : List Value), us.length = ps.length → bindArgs (PySem.W.fnOf x x (defArgs st) (defBody st) (defScope st) .none kV doc pm an cdv ct) ⟨us, []⟩ = pure (ps.zip us))
    (a : PySem.W.nsIn K mainGlobals x = some (some (.ref f))) (l : K.lookup f = some ⟨oc, od, .func (PySem.W.fnOf x x (defArgs st) (defBody st) (defScope st) .none kV dc pm an cd ct), sl⟩) (c : PySem.W.codeIn K cd x = true) (k : PySem.W.keepIn K (.ref f) = true) : FT K mg x st ps :=
  ⟨f, _, fun_mk l c k, (fun_mk l c k).binds hb, PySem.W.mg_of X G a⟩
end DL

namespace K02
open PySem PySem.Spec PyProof.Rows L2 DL
def b_are_equal (ko : String → Option Ob) (k : Nat) (self : List D → Sto → R D) : SF :=
  (sSeq (sIf (tAnd2 (tTru (eUn (isiD .tuple) (eVar 0))) (tTru (eUn (isiD .tuple) (eVar 1))))
    (sRet (eAnd (eBin (eqD false ko) (eCall (lenD ko) (aCons (eVar 0) aNil)) (eCall (lenD ko) (aCons (eVar 1) aNil))) (eCall (allD ko) (aCons (eLc (wZip (aCons (eVar 0) (aCons (eVar 1) aNil))) (gNm 2) tYesD (eStar (ari 2 self) ko (eVar 2)) [2]) aNil))))
    sNx)
  (sSeq (sIf (tOr2 (tTru (eUn (isiD .bool) (eVar 0))) (tTru (eUn (isiD .bool) (eVar 1))))
    (sRet (eAnd (eUn (isiD .bool) (eVar 0)) (eAnd (eUn (isiD .bool) (eVar 1)) (eBin (eqD false ko) (eVar 0) (eVar 1)))))
    sNx)
  (sSeq (sIf (tOr2 (tAnd2 (tTru (eUn (isiD .int) (eVar 0))) (tTru (eUn (isiD .int) (eVar 1)))) (tAnd2 (tTru (eUn (isiD .str) (eVar 0))) (tTru (eUn (isiD .str) (eVar 1)))))
    (sRet (eBin (eqD false ko) (eVar 0) (eVar 1)))
    sNx)
  (sRet (eAnd (eBin (isD false) (eVar 0) (eC .non)) (eBin (isD false) (eVar 1) (eC .non)))))))
def f_are_equal (ko : String → Option Ob) : Nat → List D → Sto → R D
  | 0 => fun _ _ => .bad
  | k + 1 => dDef 3 (b_are_equal ko k (f_are_equal ko k))
def b_pool (ko : String → Option Ob) (k : Nat) (self : List D → Sto → R D) : SF :=
  (sSeq (sSet 2 (eBin addD (eBin mulD (eC (.int 11)) (eCall (sumD ko) (aCons (eSl ko (eVar 0) pNo (pSo (eC (.int 63)))) aNil))) (eVar 1)))
  (sSeq (sIf (tBl (eBin (ordD fun i j => decide (i < j)) (eVar 1) (eCall (lenD ko) (aCons (eVar 0) aNil))))
    (sSet 2 (eBin (ixD ko) (eVar 0) (eVar 1)))
    sNx)
  (sSeq (sSet 3 (eCall (absD) (aCons (eVar 2) aNil)))
  (sSeq (sSet 4 (eBin modD (eBin mulD (eBin addD (eBin addD (eBin addD (eBin modD (eVar 3) (eC (.int 2147483629))) (eBin mulD (eBin mulD (eC (.int 7919)) (eVar 1)) (eVar 1))) (eBin mulD (eC (.int 31)) (eVar 1))) (eC (.int 17))) (eC (.int 48271))) (eC (.int 2147483647))))
  (sRet (eLst (aCons (eBin mulD (eVar 3) (eCall (intD) (aCons (eBin (ordD fun i j => decide (j ≤ i)) (eVar 3) (eBin powD (eC (.int 10)) (eC (.int 18)))) aNil))) (aCons (eBin modD (eBin mulD (eVar 4) (eVar 4)) (eC (.int 2147483629))) aNil))))))))
def f_pool (ko : String → Option Ob) : Nat → List D → Sto → R D
  | 0 => fun _ _ => .bad
  | k + 1 => dDef 5 (b_pool ko k (fun _ _ => .bad))
def b_draw (ko : String → Option Ob) (k : Nat) (self : List D → Sto → R D) : SF :=
  (sSeq (sIf (tBl (eBin (ordD fun i j => decide (j < i)) (eBin (ixD ko) (eVar 0) (eC (.int 0))) (eC (.int 0))))
    (sSeq (sSet 2 (eBin modD (eBin (ixD ko) (eVar 0) (eC (.int 0))) (eVar 1)))
  (sSeq (sAsg (eBin fdivD (eBin (ixD ko) (eVar 0) (eC (.int 0))) (eVar 1)) (gIx (eVar 0) (eC (.int 0)) setD))
  (sRet (eVar 2))))
    sNx)
  (sSeq (sAsg (eBin modD (eBin addD (eBin mulD (eBin (ixD ko) (eVar 0) (eC (.int 1))) (eC (.int 48271))) (eC (.int 11))) (eC (.int 2147483647))) (gIx (eVar 0) (eC (.int 1)) setD))
  (sRet (eBin modD (eBin fdivD (eBin modD (eBin mulD (eBin (ixD ko) (eVar 0) (eC (.int 1))) (eBin (ixD ko) (eVar 0) (eC (.int 1)))) (eC (.int 2147483629))) (eC (.int 16))) (eVar 1)))))
def f_draw (ko : String → Option Ob) : Nat → List D → Sto → R D
  | 0 => fun _ _ => .bad
  | k + 1 => dDef 3 (b_draw ko k (fun _ _ => .bad))
def b_thing (ko : String → Option Ob) (k : Nat) (self : List D → Sto → R D) : SF :=
  (sSeq (sIf (tOr2 (tBl (eBin (eqD false ko) (eVar 1) (eC (.int 0)))) (tBl (eBin (eqD false ko) (eCall (ari 2 (f_draw ko k)) (aCons (eVar 0) (aCons (eC (.int 3)) aNil))) (eC (.int 0)))))
    (sRet (eBin (ixD ko) (eLst (aCons (eC (.int 0)) (aCons (eC (.int 1)) (aCons (eC (.int 2)) (aCons (eUn negD (eC (.int 1))) (aCons (eC (.str "")) (aCons (eC (.str "a")) (aCons (eC (.str "1")) (aCons (eC .non) (aCons (eC (.bl true)) (aCons (eC (.bl false)) (aCons (eBin powD (eC (.int 10)) (eC (.int 40))) (aCons (eTup aNil) aNil))))))))))))) (eCall (ari 2 (f_draw ko k)) (aCons (eVar 0) (aCons (eC (.int 12)) aNil)))))
    sNx)
  (sRet (eCall (tupleD ko) (aCons (eLc (wRng1 (aCons (eCall (ari 2 (f_draw ko k)) (aCons (eVar 0) (aCons (eC (.int 4)) aNil))) aNil)) (gNm 2) tYesD (eCall (ari 2 self) (aCons (eVar 0) (aCons (eBin subD (eVar 1) (eC (.int 1))) aNil))) [2]) aNil))))
def f_thing (ko : String → Option Ob) : Nat → List D → Sto → R D
  | 0 => fun _ _ => .bad
  | k + 1 => dDef 3 (b_thing ko k (f_thing ko k))
def b_shown (ko : String → Option Ob) (k : Nat) (self : List D → Sto → R D) : SF :=
  (sSeq (sIf (tTru (eUn (isiD .tuple) (eVar 0)))
    (sRet (eBin addD (eLst (aCons (eC (.str "tuple")) aNil)) (eLc (wAny ko (eVar 0)) (gNm 1) tYesD (eCall (ari 1 self) (aCons (eVar 1) aNil)) [1])))
    sNx)
  (sRet (eCall (reprD) (aCons (eVar 0) aNil))))
def f_shown (ko : String → Option Ob) : Nat → List D → Sto → R D
  | 0 => fun _ _ => .bad
  | k + 1 => dDef 2 (b_shown ko k (f_shown ko k))
def b_bent (ko : String → Option Ob) (k : Nat) (self : List D → Sto → R D) : SF :=
  (sSeq (sIf (tOr2 (tNot1 (tTru (eUn (isiD .tuple) (eVar 1)))) (tBl (eBin (eqD false ko) (eVar 1) (eTup aNil))))
    (sRet (eIf (tTru (eUn (isiD .bool) (eVar 1))) (eBoolGet 1 1 1 0) (eCall (ari 2 (f_thing ko k)) (aCons (eVar 0) (aCons (eC (.int 0)) aNil)))))
    sNx)
  (sSeq (sSet 2 (eCall (ari 2 (f_draw ko k)) (aCons (eVar 0) (aCons (eCall (lenD ko) (aCons (eVar 1) aNil)) aNil))))
  (sRet (eBin addD (eBin addD (eSl ko (eVar 1) pNo (pSo (eVar 2))) (eTup (aCons (eCall (ari 2 self) (aCons (eVar 0) (aCons (eBin (ixD ko) (eVar 1) (eVar 2)) aNil))) aNil))) (eSl ko (eVar 1) (pSo (eBin addD (eVar 2) (eC (.int 1)))) pNo)))))
def f_bent (ko : String → Option Ob) : Nat → List D → Sto → R D
  | 0 => fun _ _ => .bad
  | k + 1 => dDef 3 (b_bent ko k (f_bent ko k))
def b_law (ko : String → Option Ob) (k : Nat) (self : List D → Sto → R D) : SF :=
  (sSeq (sFor (wAny ko (eLst (aCons (eLst aNil) (aCons eDict0 (aCons (eLst (aCons (eC (.int 1)) aNil)) (aCons (eTup (aCons (eC (.int 1)) (aCons (eLst (aCons (eC (.int 2)) aNil)) aNil))) aNil)))))) (gNm 1)
    (sIf (tOr2 (tBl (eBin (isD true) (eCall (ari 2 (f_are_equal ko k)) (aCons (eVar 1) (aCons (eVar 1) aNil))) (eC (.bl false)))) (tBl (eBin (isD true) (eCall (ari 2 (f_are_equal ko k)) (aCons (eTup (aCons (eVar 1) aNil)) (aCons (eTup (aCons (eVar 1) aNil)) aNil))) (eC (.bl false)))))
    (sRet (eC (.bl false)))
    sNx))
  (sSeq (sFor (wRng1 (aCons (eCall (max2D) (aCons (eC (.int 1)) (aCons (eCall (min2D) (aCons (eCall (lenD ko) (aCons (eVar 0) aNil)) (aCons (eC (.int 8)) aNil))) aNil))) aNil)) (gNm 2)
    (sSeq (sSet 3 (eCall (ari 2 (f_pool ko k)) (aCons (eVar 0) (aCons (eVar 2) aNil))))
  (sFor (wRng1 (aCons (eC (.int 10)) aNil)) (gNm 4)
    (sSeq (sSet 5 (eCall (ari 2 (f_thing ko k)) (aCons (eVar 3) (aCons (eC (.int 3)) aNil))))
  (sFor (wAny ko (eLst (aCons (eVar 5) (aCons (eCall (ari 2 (f_bent ko k)) (aCons (eVar 3) (aCons (eVar 5) aNil))) (aCons (eCall (ari 2 (f_thing ko k)) (aCons (eVar 3) (aCons (eC (.int 2)) aNil))) (aCons (eCall (ari 2 (f_bent ko k)) (aCons (eVar 3) (aCons (eVar 5) aNil))) aNil)))))) (gNm 6)
    (sSeq (sSet 7 (eBin (eqD false ko) (eCall (ari 1 (f_shown ko k)) (aCons (eVar 5) aNil)) (eCall (ari 1 (f_shown ko k)) (aCons (eVar 6) aNil))))
  (sSeq (sIf (tBl (eBin (eqD true ko) (eLst (aCons (eCall (ari 2 (f_are_equal ko k)) (aCons (eVar 5) (aCons (eVar 6) aNil))) (aCons (eCall (ari 2 (f_are_equal ko k)) (aCons (eVar 6) (aCons (eVar 5) aNil))) aNil))) (eBin mulD (eLst (aCons (eVar 7) aNil)) (eC (.int 2)))))
    (sRet (eC (.bl false)))
    sNx)
  (sIf (tAnd2 (tBl (eBin (isD true) (eCall (ari 2 (f_are_equal ko k)) (aCons (eVar 5) (aCons (eVar 6) aNil))) (eC (.bl true)))) (tBl (eBin (isD true) (eCall (ari 2 (f_are_equal ko k)) (aCons (eVar 5) (aCons (eVar 6) aNil))) (eC (.bl false)))))
    (sRet (eC (.bl false)))
    sNx))))))))
  (sRet (eC (.bl true)))))
def f_law (ko : String → Option Ob) : Nat → List D → Sto → R D
  | 0 => fun _ _ => .bad
  | k + 1 => dDef 8 (b_law ko k (fun _ _ => .bad))
end K02

namespace K02
open PySem PySem.Spec PyProof.Rows L2 DL
@[simp] theorem ok_ari1 {F : List D → Sto → R D} {a : D} {S : Sto} {Q : D → Sto → Prop} : Ok (ari 1 F [a] S) Q = Ok (F [a] S) Q := rfl
@[simp] theorem ok_ari2 {F : List D → Sto → R D} {a b : D} {S : Sto} {Q : D → Sto → Prop} : Ok (ari 2 F [a, b] S) Q = Ok (F [a, b] S) Q := rfl
@[simp] theorem ok_isi_tup {k : Ki} {x : List D} {S : Sto} {Q : D → Sto → Prop} : Ok (isiD k (.tup x) S) Q = Q (.bl (isTg .tup k)) S := rfl
@[simp] theorem ok_isi_int {k : Ki} {x : Int} {S : Sto} {Q : D → Sto → Prop} : Ok (isiD k (.int x) S) Q = Q (.bl (isTg .int k)) S := rfl
@[simp] theorem ok_isi_str {k : Ki} {x : Str} {S : Sto} {Q : D → Sto → Prop} : Ok (isiD k (.str x) S) Q = Q (.bl (isTg .str k)) S := rfl
@[simp] theorem ok_isi_bl {k : Ki} {x : Bool} {S : Sto} {Q : D → Sto → Prop} : Ok (isiD k (.bl x) S) Q = Q (.bl (isTg .bl k)) S := rfl
@[simp] theorem ok_isi_non {k : Ki} {S : Sto} {Q : D → Sto → Prop} : Ok (isiD k .non S) Q = Q (.bl (isTg .non k)) S := rfl
@[simp] theorem ok_isNon {neg : Bool} {x : D} {S : Sto} {Q : D → Sto → Prop} : Ok (isD neg x .non S) Q = Q (.bl (neg != x.isNon)) S := rfl
@[simp] theorem ok_isBl {neg a b : Bool} {S : Sto} {Q : D → Sto → Prop} : Ok (isD neg (.bl a) (.bl b) S) Q = Q (.bl (neg != decide (a = b))) S := rfl
local macro_rules | `(tactic| walk_at "dx") => `(tactic| simp only [ok_sSet, ok_sRet, ok_sDrop, ok_sIf, ok_sNx, ok_sAsg, ok_eBin, ok_eUn, ok_eC, ok_eCall, ok_aCons, ok_aNil, ok_eTup, ok_eLst, ok_eAnd, ok_eOr, ok_eNot, ok_eIf, ok_tTru, ok_tBl, ok_tAnd2, ok_tOr2, ok_tNot1, ok_eSl, ok_pNo, ok_pSo, ok_eVar', ok_gNm, ok_gIx, ok_truD_bl, ok_tYesD, ok_wAny, ok_add_int, ok_sub_int, ok_ord_int, ok_neg_int, ok_eq_int, ok_eq_str, ok_eq_bl, List.map_cons, List.map_nil, List.length_cons, List.length_nil, List.replicate_succ, List.replicate_zero, List.cons_append, List.nil_append, List.getElem?_cons_zero, List.getElem?_cons_succ, List.set_cons_zero, List.set_cons_succ, if_true, Bool.false_eq_true, if_false, Bool.not_true, Bool.not_false, ok_isi_tup, ok_isi_int, ok_isi_str, ok_isi_bl, ok_isi_non, ok_isNon, ok_isBl, isTg, D.isNon, ok_ari1, ok_ari2])
local macro_rules | `(tactic| walk_at "dx*") => `(tactic| simp only [ok_sSet, ok_sRet, ok_sDrop, ok_sIf, ok_sNx, ok_sAsg, ok_eBin, ok_eUn, ok_eC, ok_eCall, ok_aCons, ok_aNil, ok_eTup, ok_eLst, ok_eAnd, ok_eOr, ok_eNot, ok_eIf, ok_tTru, ok_tBl, ok_tAnd2, ok_tOr2, ok_tNot1, ok_eSl, ok_pNo, ok_pSo, ok_eVar', ok_gNm, ok_gIx, ok_truD_bl, ok_tYesD, ok_wAny, ok_add_int, ok_sub_int, ok_ord_int, ok_neg_int, ok_eq_int, ok_eq_str, ok_eq_bl, List.map_cons, List.map_nil, List.length_cons, List.length_nil, List.replicate_succ, List.replicate_zero, List.cons_append, List.nil_append, List.getElem?_cons_zero, List.getElem?_cons_succ, List.set_cons_zero, List.set_cons_succ, if_true, Bool.false_eq_true, if_false, Bool.not_true, Bool.not_false, ok_isi_tup, ok_isi_int, ok_isi_str, ok_isi_bl, ok_isi_non, ok_isNon, ok_isBl, isTg, D.isNon, ok_ari1, ok_ari2, *])
mutual
def eqT : D → D → Bool
  | .tup as, .tup bs => eqTs as bs
  | .bl a, .bl b => decide (a = b)
  | .int a, .int b => decide (a = b)
  | .str a, .str b => decide (a = b)
  | .non, .non => true
  | _, _ => false
def eqTs : List D → List D → Bool
  | [], [] => true
  | a :: as, b :: bs => eqT a b && eqTs as bs
  | _, _ => false
end
mutual
def dep : D → Nat
  | .tup ds => deps ds + 1
  | _ => 0
def deps : List D → Nat
  | [] => 0
  | d :: ds => max (dep d) (deps ds)
end
theorem dep_mem : ∀ {ds : List D} {d : D}, d ∈ ds → dep d ≤ deps ds
  | a :: ds, d, h => by
    rw [deps]
    rcases List.mem_cons.mp h with rfl | h
    · omega
    · have := dep_mem h; omega
mutual
def Tagd (S : Sto) : D → Prop
  | .tup ds => ds.length ≤ 1000 ∧ Tagds S ds
  | d => (tgD d S).isSome = true
def Tagds (S : Sto) : List D → Prop
  | [] => True
  | d :: ds => Tagd S d ∧ Tagds S ds
end
theorem tagds_mem {S : Sto} : ∀ {ds : List D} {d : D}, Tagds S ds → d ∈ ds → Tagd S d
  | a :: ds, d, h, m => by
    rw [Tagds] at h
    rcases List.mem_cons.mp m with rfl | m
    · exact h.1
    · exact tagds_mem h.2 m
theorem tgD_grow {S S' : Sto} (g : Grow S S') {d : D} {t : Tg} (h : tgD d S = some t) : tgD d S' = some t := by
  cases d with
  | ref n =>
    simp only [tgD] at h ⊢
    split at h
    · rename_i e; rw [g.get e]; exact h
    · rename_i e; rw [g.get e]; exact h
    · rename_i e; rw [g.get e]; exact h
    · cases h
  | _ => exact h
mutual
theorem Tagd.grow {S S' : Sto} (g : Grow S S') : ∀ {d : D}, Tagd S d → Tagd S' d
  | .tup ds, h => by rw [Tagd] at h ⊢; exact ⟨h.1, Tagds.grow g h.2⟩
  | .ref n, h => by
    simp only [Tagd] at h ⊢
    obtain ⟨t, e⟩ := Option.isSome_iff_exists.mp h
    rw [tgD_grow g e]; rfl
  | .non, h => by simp only [Tagd] at h ⊢; exact h
  | .bl _, h => by simp only [Tagd] at h ⊢; exact h
  | .int _, h => by simp only [Tagd] at h ⊢; exact h
  | .str _, h => by simp only [Tagd] at h ⊢; exact h
  | .ty _, h => by simp only [Tagd] at h ⊢; exact h
  | .kref _, h => by simp only [Tagd] at h ⊢; exact h
theorem Tagds.grow {S S' : Sto} (g : Grow S S') : ∀ {ds : List D}, Tagds S ds → Tagds S' ds
  | [], h => by rw [Tagds]; trivial
  | d :: ds, h => by rw [Tagds] at h ⊢; exact ⟨Tagd.grow g h.1, Tagds.grow g h.2⟩
end
theorem Tagd.tg {S : Sto} : ∀ {d : D}, Tagd S d → ∃ t, tgD d S = some t
  | .tup ds, _ => ⟨.tup, rfl⟩
  | .ref n, h => by simp only [Tagd] at h; exact Option.isSome_iff_exists.mp h
  | .non, h => ⟨_, rfl⟩
  | .bl _, h => ⟨_, rfl⟩
  | .int _, h => ⟨_, rfl⟩
  | .str _, h => ⟨_, rfl⟩
  | .ty _, h => by simp only [Tagd] at h; exact Option.isSome_iff_exists.mp h
  | .kref _, h => by simp only [Tagd] at h; exact Option.isSome_iff_exists.mp h
def TgForm (x : D) : Tg → Prop
  | .non => x = .non
  | .bl => ∃ b, x = .bl b
  | .int => ∃ b, x = .int b
  | .str => ∃ b, x = .str b
  | .tup => ∃ b, x = .tup b
  | .lst => ∃ b, x = .ref b
  | .dic => ∃ b, x = .ref b
theorem tg_form {S : Sto} {x : D} {t : Tg} (h : tgD x S = some t) : TgForm x t := by
  cases x with
  | ref n =>
    simp only [tgD] at h
    split at h <;> cases h <;> exact ⟨n, rfl⟩
  | ty _ => cases h
  | kref _ => cases h
  | non => cases h; rfl
  | bl b => cases h; exact ⟨b, rfl⟩
  | int b => cases h; exact ⟨b, rfl⟩
  | str b => cases h; exact ⟨b, rfl⟩
  | tup b => cases h; exact ⟨b, rfl⟩
theorem ok_isi {k : Ki} {x : D} {S : Sto} {t : Tg} {Q : D → Sto → Prop} (h : tgD x S = some t) : Ok (isiD k x S) Q = Q (.bl (isTg t k)) S := by unfold isiD; rw [h]; rfl
theorem ok_is {neg : Bool} {x y : D} {S : Sto} {Q : D → Sto → Prop} (h : y = .non) : Ok (isD neg x y S) Q = Q (.bl (neg != x.isNon)) S := by subst h; rfl
theorem bls_map : ∀ ns : List Bool, bls? (ns.map D.bl) = some ns
  | [] => rfl
  | n :: ns => by simp [bls?, bls_map ns]
def pairEq : D → D
  | .tup [a, b] => .bl (eqT a b)
  | _ => .non
theorem zip_all : ∀ as bs : List D, as.length = bs.length → ∃ cs : List Bool, (List.zipWith (fun x y => D.tup [x, y]) as bs).map pairEq = cs.map D.bl ∧ cs.all id = eqTs as bs
  | [], [], _ => ⟨[], rfl, by simp [eqTs]⟩
  | a :: as, b :: bs, h => by
    obtain ⟨cs, e1, e2⟩ := zip_all as bs (by simpa using h)
    exact ⟨eqT a b :: cs, by simp [e1, pairEq], by simp [eqTs, e2]⟩
  | [], _ :: _, h => by simp at h
  | _ :: _, [], h => by simp at h
theorem eqTs_len : ∀ as bs : List D, as.length ≠ bs.length → eqTs as bs = false
  | [], [], h => absurd rfl h
  | a :: as, b :: bs, h => by rw [eqTs, eqTs_len as bs (by simpa using h)]; simp
  | [], _ :: _, _ => by simp [eqTs]
  | _ :: _, [], _ => by simp [eqTs]
theorem are_equal_ok {ko : String → Option Ob} : ∀ (k : Nat) (x y : D) (S : Sto) (Q : D → Sto → Prop), dep x < k → Tagd S x → Tagd S y → (∀ S', Grow S S' → Q (.bl (eqT x y)) S') → Ok (f_are_equal ko k [x, y] S) Q
  | 0, _, _, _, _, h, _, _, _ => absurd h (Nat.not_lt_zero _)
  | k + 1, x, y, S, Q, hd, hx, hy, h => by
    obtain ⟨tx, ex⟩ := hx.tg
    obtain ⟨ty, ey⟩ := hy.tg
    have fx := tg_form ex
    have fy := tg_form ey
    show Ok (dDef 3 (b_are_equal ko k (f_are_equal ko k)) [x, y] S) Q
    rw [ok_dDef]
    unfold b_are_equal
    simp only [List.map_cons, List.map_nil, List.length_cons, List.length_nil, show 3 - (0 + 1 + 1) = 1 from rfl, List.replicate_succ, List.replicate_zero, List.cons_append, List.nil_append]
    by_cases both : tx = .tup ∧ ty = .tup
    · obtain ⟨rfl, rfl⟩ := both
      obtain ⟨as, rfl⟩ := fx
      obtain ⟨bs, rfl⟩ := fy
      rw [ok_sSeq]
      try walk_at "dx"
      simp only [lenD, Ok_ok]
      try walk_at "dx"
      by_cases hl : as.length = bs.length
      · have hz : (false != decide ((as.length : Int) = bs.length)) = true := by simp [hl]
        rw [hz]
        try walk_at "dx"
        rw [ok_eLc]
        simp only [wZip]
        try walk_at "dx"
        simp only [Ok_bind]
        try walk_at "dx"
        simp only [Ok_ok]
        rw [Tagd] at hx hy
        refine lc_map pairEq _ rfl ?_ (fun _ _ => rfl) (fun p hp S' g => ?_) (fun S' g => ?_)
        · rw [List.length_zipWith, sizeLine_eq]; have := hx.1; omega
        · obtain ⟨i, a, b, ha, hb, rfl⟩ : ∃ (i : Nat) (a b : D), as[i]? = some a ∧ bs[i]? = some b ∧ p = .tup [a, b] := by
            obtain ⟨i, hi, e⟩ := List.mem_iff_getElem.mp hp
            rw [List.getElem_zipWith] at e
            rw [List.length_zipWith] at hi
            exact ⟨i, _, _, List.getElem?_eq_getElem (by omega), List.getElem?_eq_getElem (by omega), e.symm⟩
          try walk_at "dx"
          simp only [eStar, Ok_bind, wipeL]
          try walk_at "dx"
          try rw [ok_ari (n := 2) rfl]
          have ma := List.mem_of_getElem? ha
          have mb := List.mem_of_getElem? hb
          refine are_equal_ok k a b S' _ ?_ ((tagds_mem hx.2 ma).grow g) ((tagds_mem hy.2 mb).grow g) fun S2 g2 => ⟨rfl, g2⟩
          have := dep_mem ma
          rw [dep] at hd
          omega
        · obtain ⟨cs, e1, e2⟩ := zip_all as bs hl
          rw [e1] at g
          have e3 : S'[S.length]? = some (.lst (cs.map D.bl)) := g.get (by simp)
          simp only [allD, lst_at e3, bls_map, Ok_ok]
          have := h S' ((Grow.add S _).trans g)
          rw [show eqT (.tup as) (.tup bs) = cs.all id from by rw [eqT, e2]] at this
          exact this
      · have hz : (false != decide ((as.length : Int) = bs.length)) = false := by
          have : ¬ (as.length : Int) = bs.length := by omega
          simp [this]
        rw [hz]
        try walk_at "dx"
        have := h S (.refl S)
        rw [show eqT (.tup as) (.tup bs) = false from by rw [eqT, eqTs_len as bs hl]] at this
        exact this
    · have hfin := h S (.refl S)
      have Ix : ∀ (k : Ki) (Q : D → Sto → Prop), Ok (isiD k x S) Q = Q (.bl (isTg tx k)) S := fun _ _ => ok_isi ex
      have Iy : ∀ (k : Ki) (Q : D → Sto → Prop), Ok (isiD k y S) Q = Q (.bl (isTg ty k)) S := fun _ _ => ok_isi ey
      clear h hx hy hd
      cases tx <;> cases ty <;> first
        | exact absurd ⟨rfl, rfl⟩ both
        | (simp only [TgForm] at fx fy
           first | obtain ⟨a, rfl⟩ := fx | subst fx
           first | obtain ⟨b, rfl⟩ := fy | subst fy
           simp only [eqT] at hfin
           clear both ex ey
           rw [ok_sSeq]
           walk_at "dx*"
           rw [ok_sSeq]
           walk_at "dx*"
           first
             | done
             | (simpa using hfin)
             | (rw [ok_sSeq]
                walk_at "dx*"
                first
                  | done
                  | (simpa using hfin)))
end K02

namespace K02
open PySem PySem.Spec PyProof.Rows L2 DL
local macro_rules | `(tactic| walk_at "dx") => `(tactic| simp only [ok_sSet, ok_sRet, ok_sDrop, ok_sIf, ok_sNx, ok_sAsg, ok_eBin, ok_eUn, ok_eC, ok_eCall, ok_aCons, ok_aNil, ok_eTup, ok_eLst, ok_eAnd, ok_eOr, ok_eNot, ok_eIf, ok_tTru, ok_tBl, ok_tAnd2, ok_tOr2, ok_tNot1, ok_eSl, ok_pNo, ok_pSo, ok_eVar', ok_gNm, ok_gIx, ok_truD_bl, ok_tYesD, ok_wAny, ok_add_int, ok_sub_int, ok_ord_int, ok_neg_int, ok_eq_int, ok_eq_str, ok_eq_bl, List.map_cons, List.map_nil, List.length_cons, List.length_nil, List.replicate_succ, List.replicate_zero, List.cons_append, List.nil_append, List.getElem?_cons_zero, List.getElem?_cons_succ, List.set_cons_zero, List.set_cons_succ, if_true, Bool.false_eq_true, if_false, Bool.not_true, Bool.not_false, ok_isi_tup, ok_isi_int, ok_isi_str, ok_isi_bl, ok_isi_non, ok_isNon, ok_isBl, isTg, D.isNon, ok_ari1, ok_ari2])
local macro_rules | `(tactic| walk_at "dx*") => `(tactic| simp only [ok_sSet, ok_sRet, ok_sDrop, ok_sIf, ok_sNx, ok_sAsg, ok_eBin, ok_eUn, ok_eC, ok_eCall, ok_aCons, ok_aNil, ok_eTup, ok_eLst, ok_eAnd, ok_eOr, ok_eNot, ok_eIf, ok_tTru, ok_tBl, ok_tAnd2, ok_tOr2, ok_tNot1, ok_eSl, ok_pNo, ok_pSo, ok_eVar', ok_gNm, ok_gIx, ok_truD_bl, ok_tYesD, ok_wAny, ok_add_int, ok_sub_int, ok_ord_int, ok_neg_int, ok_eq_int, ok_eq_str, ok_eq_bl, List.map_cons, List.map_nil, List.length_cons, List.length_nil, List.replicate_succ, List.replicate_zero, List.cons_append, List.nil_append, List.getElem?_cons_zero, List.getElem?_cons_succ, List.set_cons_zero, List.set_cons_succ, if_true, Bool.false_eq_true, if_false, Bool.not_true, Bool.not_false, ok_isi_tup, ok_isi_int, ok_isi_str, ok_isi_bl, ok_isi_non, ok_isNon, ok_isBl, isTg, D.isNon, ok_ari1, ok_ari2, *])

theorem f_draw_eq (ko : String → Option Ob) (k : Nat) : f_draw ko (k + 1) = dDef 3 (b_draw0 ko) := rfl
theorem f_pool_eq (ko : String → Option Ob) (k : Nat) : f_pool ko (k + 1) = dDef 5 (b_pool0 ko) := rfl
theorem draw_ok {ko : String → Option Ob} {k : Nat} {S : Sto} {i : Nat} {m : Int} {Q : D → Sto → Prop} (hk : 0 < k) (hp : PoolOk S i) (h0 : 0 < m) (h1 : m < 18446744073709551616) (h : ∀ r S', 0 ≤ r → r < m → Stp i S S' → Q (.int r) S') : Ok (f_draw ko k [.ref i, .int m] S) Q := by
  obtain ⟨k, rfl⟩ : ∃ j, k = j + 1 := ⟨k - 1, by omega⟩
  rw [f_draw_eq]
  exact draw0 hp h0 h1 h
/-- a comprehension whose element may draw -/
theorem lc_each {i n : Nat} {t : D → Lc → Sto → R Lc} {te : Lc → Sto → R D} {L : Lc} {Q : D → Sto → Prop} {ok : Sto → Bool} {S : Sto} (P : D → Prop) (ds : List D) (hn : n = S.length) (hp : PoolOk S i) (hl : ds.length < sizeLine)
    (hok : ∀ S', Stp i S S' → ok S' = true)
    (elt : ∀ d ∈ ds, ∀ S', Stp i S S' → Ok (t d L S') fun L1 S1 => Ok (te L1 S1) fun y S2 => P y ∧ Stp i S' S2)
    (fin : ∀ ys S', ys.length = ds.length → (∀ y ∈ ys, P y) → Stp i S S' → S'[n]? = some (.lst ys) → Q (.ref n) S') : Ok (lcL ok n t tYesD te L ds (S ++ [.lst []])) Q := by
  subst hn
  have hi := hp.lt
  refine lc_inv (I := fun rest acc S' => acc.length + rest.length = ds.length ∧ (∀ x ∈ rest, x ∈ ds) ∧ (∀ y ∈ acc, P y) ∧ Stp i S S' ∧ S'[S.length]? = some (.lst acc)) (fun d rest acc S' h => ?_) (fun acc S' h => ?_) ds [] _ ⟨by simp, fun _ h => h, by simp, .grow hp (.add _ _), by simp⟩
  · obtain ⟨hlen, hm, ha, st, e⟩ := h
    refine ⟨hok S' st, (elt d (hm d (by simp)) S' st).mono fun L1 S1 h1 => ?_⟩
    rw [ok_tYesD, if_pos rfl]
    refine h1.mono fun y S2 h2 => ?_
    obtain ⟨py, st2⟩ := h2
    have e2 : S2[S.length]? = some (.lst acc) := st2.get (by omega) e
    have hlt := (List.getElem?_eq_some_iff.mp e2).1
    rw [List.length_cons] at hlen
    refine ⟨e2, by omega, by simp; omega, fun x hx => hm x (by simp [hx]), ?_, ?_, by rw [List.getElem?_set_self hlt]⟩
    · intro z hz
      rcases List.mem_append.mp hz with hz | hz
      · exact ha z hz
      · rw [List.mem_singleton.mp hz]; exact py
    · have st3 := st.trans st2
      refine ⟨by rw [List.length_set]; exact st3.len, fun j h1 h2 => ?_, ?_⟩
      · rw [List.getElem?_set_ne (by omega)]
        exact st3.same j h1 h2
      · obtain ⟨a, b, e4, r⟩ := st3.pool
        exact ⟨a, b, by rw [List.getElem?_set_ne (by omega)]; exact e4, r⟩
  · obtain ⟨hlen, _, ha, st, e⟩ := h
    exact ⟨hok S' st, fin acc S' (by simpa using hlen) ha st e⟩
def leafs : List D := [.int 0, .int 1, .int 2, .int (-1), .str "", .str "a", .str "1", .non, .bl true, .bl false, .int (10 ^ 40)]
inductive Thing : Nat → D → Prop
  | leaf {n : Nat} {d : D} : d ∈ leafs → Thing n d
  | nil {n : Nat} : Thing n (.tup [])
  | tup {n : Nat} {ds : List D} : (∀ x ∈ ds, Thing n x) → ds.length ≤ 3 → Thing (n + 1) (.tup ds)
theorem at_lt {ds : List D} {r : Int} (h0 : 0 ≤ r) (h1 : r < ds.length) : ∃ d, atI ds r = some d ∧ d ∈ ds := by
  obtain ⟨j, rfl⟩ := Int.eq_ofNat_of_zero_le h0
  have hj : j < ds.length := by omega
  exact ⟨ds[j], atI_nat (List.getElem?_eq_getElem hj), List.getElem_mem hj⟩
theorem thing_ok {ko : String → Option Ob} {i : Nat} : ∀ (k n : Nat) (S : Sto) (Q : D → Sto → Prop), n + 2 ≤ k → PoolOk S i → (∀ d S', Thing n d → Stp i S S' → Q d S') → Ok (f_thing ko k [.ref i, .int n] S) Q
  | 0, n, _, _, h, _, _ => by omega
  | k + 1, n, S, Q, hk, hp, h => by
    show Ok (dDef 3 (b_thing ko k (f_thing ko k)) [.ref i, .int n] S) Q
    rw [ok_dDef]
    unfold b_thing
    simp only [List.map_cons, List.map_nil, List.length_cons, List.length_nil, show 3 - (0 + 1 + 1) = 1 from rfl, List.replicate_succ, List.replicate_zero, List.cons_append, List.nil_append]
    have hk0 : 0 < k := by omega
    /- the leaf -/
    have leaf : ∀ (S1 : Sto), Stp i S S1 → Ok (powD (.int 10) (.int 40) S1) fun d S1 => 0 ≤ sizeLine ∧ 0 + 1 + 1 + 1 + 1 + 1 + 1 + 1 + 1 + 1 + 1 + 1 + 1 ≤ sizeLine ∧ Ok (f_draw ko k [D.ref i, D.int 12] (S1 ++ [Ob.lst [D.int 0, D.int 1, D.int 2, D.int (-1), D.str (Str.ofString ""), D.str (Str.ofString "a"), D.str (Str.ofString "1"), D.non, D.bl true, D.bl false, d, D.tup []]])) fun d' S2 => Ok (ixD ko (D.ref (List.length S1)) d' S2) fun d S1 => Q d S1 := by
      intro S1 st1
      rw [ok_pow_int (x := 10) (y := 40) ⟨by decide, by decide, by decide⟩]
      refine ⟨by decide, by decide, ?_⟩
      generalize hl : [D.int 0, D.int 1, D.int 2, D.int (-1), D.str (Str.ofString ""), D.str (Str.ofString "a"), D.str (Str.ofString "1"), D.non, D.bl true, D.bl false, D.int (10 ^ (40 : Int).toNat), D.tup []] = l12
      have hl12 : l12 = leafs ++ [.tup []] := hl.symm
      have hp2 : PoolOk (S1 ++ [.lst l12]) i := st1.pool.grow (.add _ _)
      refine draw_ok hk0 hp2 (by decide) (by decide) fun r S2 h0 h1 st2 => ?_
      have hne : S1.length ≠ i := by have := st1.pool.lt; omega
      have e2 : S2[S1.length]? = some (.lst l12) := st2.get hne (by simp)
      obtain ⟨d, ed, md⟩ := at_lt (ds := l12) (r := r) h0 (by rw [hl12]; exact h1)
      rw [ok_ix_ref e2 ed]
      refine h d S2 ?_ (st1.trans ((Stp.grow st1.pool (.add _ _)).trans st2))
      rw [hl12] at md
      rcases List.mem_append.mp md with md | md
      · exact .leaf md
      · rw [List.mem_singleton.mp md]; exact .nil
    rw [ok_sSeq]
    rw [ok_sIf, ok_tOr2]
    walk_at "dx"
    cases n with
    | zero =>
      simp only [show (false != decide (((0 : Nat) : Int) = 0)) = true from rfl, if_true]
      exact leaf S (.refl hp)
    | succ n =>
      have hz : (false != decide (((n + 1 : Nat) : Int) = 0)) = false := by
        rw [decide_eq_false (by omega)]
        rfl
      rw [hz]
      walk_at "dx"
      refine draw_ok hk0 hp (by decide) (by decide) fun r S1 h0 h1 st1 => ?_
      walk_at "dx"
      by_cases hr : r = 0
      · subst hr
        simp only [show (false != decide ((0 : Int) = 0)) = true from rfl, if_true]
        exact leaf S1 st1
      · have hz : (false != decide (r = 0)) = false := by simp [hr]
        rw [hz]
        walk_at "dx"
        rw [ok_eLc]
        simp only [wRng1, Ok_bind]
        walk_at "dx"
        refine draw_ok hk0 st1.pool (by decide) (by decide) fun r2 S2 h20 h21 st2 => ?_
        have hr2 : -(2 ^ 62 : Int) ≤ r2 ∧ r2 < 2 ^ 62 := ⟨by omega, by omega⟩
        simp only [if_pos hr2, Ok_ok]
        refine lc_each (i := i) (Thing n) _ rfl st2.pool ?_ (fun _ _ => rfl) (fun d _ S3 st3 => ?_) (fun ys S3 hy hP st3 e3 => ?_)
        · simp only [rngL, List.length_map, List.length_range, sizeLine_eq]; omega
        · simp only [wipeL]
          walk_at "dx"
          rw [show ((n + 1 : Nat) : Int) - 1 = (n : Int) from by omega]
          exact thing_ok k n S3 _ (by omega) st3.pool fun d S4 hd st4 => ⟨hd, st4⟩
        · simp only [tupleD, lst_at e3, Ok_ok]
          refine h _ S3 (.tup hP ?_) (st1.trans (st2.trans st3))
          rw [hy]
          simp only [rngL, List.length_map, List.length_range]
          omega
end K02

namespace K02
open PySem PySem.Spec PyProof.Rows L2 DL
local macro_rules | `(tactic| walk_at "dx") => `(tactic| simp only [ok_sSet, ok_sRet, ok_sDrop, ok_sIf, ok_sNx, ok_sAsg, ok_eBin, ok_eUn, ok_eC, ok_eCall, ok_aCons, ok_aNil, ok_eTup, ok_eLst, ok_eAnd, ok_eOr, ok_eNot, ok_eIf, ok_tTru, ok_tBl, ok_tAnd2, ok_tOr2, ok_tNot1, ok_eSl, ok_pNo, ok_pSo, ok_eVar', ok_gNm, ok_gIx, ok_truD_bl, ok_tYesD, ok_wAny, ok_add_int, ok_sub_int, ok_ord_int, ok_neg_int, ok_eq_int, ok_eq_str, ok_eq_bl, List.map_cons, List.map_nil, List.length_cons, List.length_nil, List.replicate_succ, List.replicate_zero, List.cons_append, List.nil_append, List.getElem?_cons_zero, List.getElem?_cons_succ, List.set_cons_zero, List.set_cons_succ, if_true, Bool.false_eq_true, if_false, Bool.not_true, Bool.not_false, ok_isi_tup, ok_isi_int, ok_isi_str, ok_isi_bl, ok_isi_non, ok_isNon, ok_isBl, isTg, D.isNon, ok_ari1, ok_ari2])
local macro_rules | `(tactic| walk_at "dx*") => `(tactic| simp only [ok_sSet, ok_sRet, ok_sDrop, ok_sIf, ok_sNx, ok_sAsg, ok_eBin, ok_eUn, ok_eC, ok_eCall, ok_aCons, ok_aNil, ok_eTup, ok_eLst, ok_eAnd, ok_eOr, ok_eNot, ok_eIf, ok_tTru, ok_tBl, ok_tAnd2, ok_tOr2, ok_tNot1, ok_eSl, ok_pNo, ok_pSo, ok_eVar', ok_gNm, ok_gIx, ok_truD_bl, ok_tYesD, ok_wAny, ok_add_int, ok_sub_int, ok_ord_int, ok_neg_int, ok_eq_int, ok_eq_str, ok_eq_bl, List.map_cons, List.map_nil, List.length_cons, List.length_nil, List.replicate_succ, List.replicate_zero, List.cons_append, List.nil_append, List.getElem?_cons_zero, List.getElem?_cons_succ, List.set_cons_zero, List.set_cons_succ, if_true, Bool.false_eq_true, if_false, Bool.not_true, Bool.not_false, ok_isi_tup, ok_isi_int, ok_isi_str, ok_isi_bl, ok_isi_non, ok_isNon, ok_isBl, isTg, D.isNon, ok_ari1, ok_ari2, *])

/-! reading data -/
mutual
theorem toP_mono {ko : String → Option Ob} {S : Sto} : ∀ {k k' : Nat} {d : D} {p : PyData}, toP ko S k d = some p → k ≤ k' → toP ko S k' d = some p
  | 0, _, d, p, h, _ => by simp [toP] at h
  | k + 1, 0, d, p, h, hk => by omega
  | k + 1, k' + 1, d, p, h, hk => by
    cases d with
    | tup ds =>
      simp only [toP, Option.map_eq_some_iff] at h ⊢
      obtain ⟨ps, e, r⟩ := h
      exact ⟨ps, toPs_mono e (by omega), r⟩
    | ref n =>
      simp only [toP] at h ⊢
      split at h
      · rename_i e
        simp only [Option.map_eq_some_iff] at h ⊢
        obtain ⟨ps, e2, r⟩ := h
        exact ⟨ps, toPs_mono e2 (by omega), r⟩
      · cases h
    | kref n =>
      simp only [toP] at h ⊢
      split at h
      · rename_i e
        simp only [Option.map_eq_some_iff] at h ⊢
        obtain ⟨ps, e2, r⟩ := h
        exact ⟨ps, toPs_mono e2 (by omega), r⟩
      · cases h
    | _ => simpa [toP] using h
theorem toPs_mono {ko : String → Option Ob} {S : Sto} : ∀ {k k' : Nat} {ds : List D} {ps : List PyData}, toPs ko S k ds = some ps → k ≤ k' → toPs ko S k' ds = some ps
  | k, k', [], ps, h, _ => by cases k <;> cases k' <;> simpa [toPs] using h
  | 0, _, d :: ds, ps, h, _ => by simp [toPs] at h
  | k + 1, 0, d :: ds, ps, h, hk => by omega
  | k + 1, k' + 1, d :: ds, ps, h, hk => by
    simp only [toPs] at h ⊢
    split at h
    · rename_i p ps' e1 e2
      rw [toP_mono e1 hk, toPs_mono e2 hk]
      exact h
    · cases h
end
mutual
theorem toP_grow {ko : String → Option Ob} {S S' : Sto} (g : Grow S S') : ∀ {k : Nat} {d : D} {p : PyData}, toP ko S k d = some p → toP ko S' k d = some p
  | 0, d, p, h => by simp [toP] at h
  | k + 1, d, p, h => by
    cases d with
    | tup ds =>
      simp only [toP, Option.map_eq_some_iff] at h ⊢
      obtain ⟨ps, e, r⟩ := h
      exact ⟨ps, toPs_grow g e, r⟩
    | ref n =>
      simp only [toP] at h ⊢
      split at h
      · rename_i e
        rw [g.get e]
        simp only [Option.map_eq_some_iff] at h ⊢
        obtain ⟨ps, e2, r⟩ := h
        exact ⟨ps, toPs_grow g e2, r⟩
      · cases h
    | kref n =>
      simp only [toP] at h ⊢
      split at h
      · rename_i e
        simp only [Option.map_eq_some_iff] at h ⊢
        obtain ⟨ps, e2, r⟩ := h
        exact ⟨ps, toPs_grow g e2, r⟩
      · cases h
    | _ => simpa [toP] using h
theorem toPs_grow {ko : String → Option Ob} {S S' : Sto} (g : Grow S S') : ∀ {k : Nat} {ds : List D} {ps : List PyData}, toPs ko S k ds = some ps → toPs ko S' k ds = some ps
  | k, [], ps, h => by cases k <;> simpa [toPs] using h
  | 0, d :: ds, ps, h => by simp [toPs] at h
  | k + 1, d :: ds, ps, h => by
    simp only [toPs] at h ⊢
    split at h
    · rename_i p ps' e1 e2
      rw [toP_grow g e1, toPs_grow g e2]
      exact h
    · cases h
end
theorem toPs_map {ko : String → Option Ob} {S : Sto} {k : Nat} (f : D → PyData) (v : D → D) : ∀ (ds : List D), (∀ d ∈ ds, toP ko S (k + 1) (v d) = some (f d)) → toPs ko S (k + 1) (ds.map v) = some (ds.map f)
  | [], _ => by simp [toPs]
  | d :: ds, h => by
    simp only [List.map_cons, toPs]
    rw [h d (by simp), toPs_map f v ds fun x hx => h x (by simp [hx])]
theorem ok_eq_by {ko : String → Option Ob} {neg : Bool} {x y : D} {S : Sto} {p q : PyData} {Q : D → Sto → Prop} (hx : toP ko S 65 x = some p) (hy : toP ko S 65 y = some q) (sp : SeqAt.shaped p = true) (sq : SeqAt.shaped q = true) : Ok (eqD neg ko x y S) Q = Q (.bl (neg != PyData.eqv p q)) S := by
  have gen : Ok (match toP ko S 65 x, toP ko S 65 y with
    | some p, some q => if SeqAt.shaped p = true ∧ SeqAt.shaped q = true then R.ok (.bl (neg != PyData.eqv p q)) S else .bad
    | _, _ => .bad) Q = Q (.bl (neg != PyData.eqv p q)) S := by
    rw [hx, hy]
    simp only [sp, sq, and_self, if_true, Ok_ok]
  unfold eqD
  split
  · simp [toP] at hx hy
    subst hx hy
    simp [PyData.eqv, Bool.beq_eq_decide_eq]
  · simp [toP] at hx hy
    subst hx hy
    simp [PyData.eqv, Bool.beq_eq_decide_eq]
  · simp [toP] at hx hy
    subst hx hy
    simp [PyData.eqv, Bool.beq_eq_decide_eq]
  · exact gen
mutual
def pd : D → PyData
  | .bl b => .bool b
  | .int i => .int i
  | .str x => .str x
  | .tup ds => .tuple (pds ds)
  | _ => .none
def pds : List D → List PyData
  | [] => []
  | d :: ds => pd d :: pds ds
end
theorem pds_map : ∀ ds : List D, pds ds = ds.map pd
  | [] => rfl
  | d :: ds => by rw [pds, pds_map ds]; rfl
def reprS : D → Str
  | .non => "None"
  | .bl b => if b = true then "True" else "False"
  | .int i => toString i
  | .str x => reprText x
  | _ => ""
mutual
def shP : D → PyData
  | .tup ds => .list (.str "tuple" :: shPs ds)
  | d => .str (reprS d)
def shPs : List D → List PyData
  | [] => []
  | d :: ds => shP d :: shPs ds
end
theorem shPs_map : ∀ ds : List D, shPs ds = ds.map shP
  | [] => rfl
  | d :: ds => by rw [shPs, shPs_map ds]; rfl
theorem leaf_repr : ∀ d ∈ leafs, ∀ S : Sto, reprD [d] S = .ok (.str (reprS d)) S := by
  intro d hd S
  simp only [leafs, List.mem_cons, List.not_mem_nil, or_false] at hd
  rcases hd with rfl | rfl | rfl | rfl | rfl | rfl | rfl | rfl | rfl | rfl | rfl
  all_goals first
    | rfl
    | (simp only [reprD]; rw [if_pos (by decide +kernel)]; rfl)
theorem leaf_eq : ∀ x ∈ leafs, ∀ y ∈ leafs, decide (reprS x = reprS y) = eqT x y := by decide +kernel
theorem leaf_strOk : ∀ x ∈ leafs, PyData.canLay0 (.str (reprS x)) = true ∧ PyData.canLay0 (pd x) = true := by decide +kernel
theorem leaf_shP : ∀ {x : D}, x ∈ leafs → shP x = .str (reprS x) := by
  intro d hd
  simp only [leafs, List.mem_cons, List.not_mem_nil, or_false] at hd
  rcases hd with rfl | rfl | rfl | rfl | rfl | rfl | rfl | rfl | rfl | rfl | rfl <;> rfl
theorem leaf_toP : ∀ {x : D}, x ∈ leafs → ∀ (ko : String → Option Ob) (S : Sto) (k : Nat), toP ko S (k + 1) x = some (pd x) := by
  intro d hd ko S k
  simp only [leafs, List.mem_cons, List.not_mem_nil, or_false] at hd
  rcases hd with rfl | rfl | rfl | rfl | rfl | rfl | rfl | rfl | rfl | rfl | rfl <;> simp [toP, pd]
theorem leaf_no : ∀ {x : D}, x ∈ leafs → (∀ ds, x ≠ .tup ds) ∧ dep x = 0 ∧ (∀ ds, eqT x (.tup ds) = false ∧ eqT (.tup ds) x = false) ∧ (∀ S, Tagd S x) ∧ PyData.depth (pd x) = 0 := by
  intro d hd
  simp only [leafs, List.mem_cons, List.not_mem_nil, or_false] at hd
  rcases hd with rfl | rfl | rfl | rfl | rfl | rfl | rfl | rfl | rfl | rfl | rfl <;> exact ⟨fun ds h => (nomatch h), rfl, fun ds => ⟨rfl, rfl⟩, fun S => rfl, rfl⟩
theorem Thing.up {n : Nat} {d : D} (h : Thing n d) : ∀ {m : Nat}, n ≤ m → Thing m d := by
  induction h with
  | leaf h => exact fun _ => .leaf h
  | nil => exact fun _ => .nil
  | tup h hl ih =>
    intro m hm
    obtain ⟨m, rfl⟩ : ∃ j, m = j + 1 := ⟨m - 1, by omega⟩
    exact .tup (fun x hx => ih x hx (by omega)) hl
theorem deps_le {n : Nat} : ∀ {ds : List D}, (∀ x ∈ ds, dep x ≤ n) → deps ds ≤ n
  | [], _ => by simp [deps]
  | d :: ds, h => by
    rw [deps]
    have h1 := h d (by simp)
    have h2 := deps_le (ds := ds) fun x hx => h x (by simp [hx])
    omega
theorem Thing.dep {n : Nat} {d : D} (h : Thing n d) : K02.dep d ≤ n + 1 := by
  induction h with
  | leaf h => rw [(leaf_no h).2.1]; omega
  | nil => simp [K02.dep, deps]
  | tup h hl ih => rw [K02.dep]; have := deps_le ih; omega
theorem tagds_of {S : Sto} : ∀ {ds : List D}, (∀ x ∈ ds, Tagd S x) → Tagds S ds
  | [], _ => by rw [Tagds]; trivial
  | d :: ds, h => by rw [Tagds]; exact ⟨h d (by simp), tagds_of fun x hx => h x (by simp [hx])⟩
theorem Thing.tagd {n : Nat} {d : D} (h : Thing n d) (S : Sto) : Tagd S d := by
  induction h with
  | leaf h => exact (leaf_no h).2.2.2.1 S
  | nil => rw [Tagd]; exact ⟨by simp, by rw [Tagds]; trivial⟩
  | tup h hl ih => rw [Tagd]; exact ⟨by omega, tagds_of ih⟩
theorem depthAll_le {n : Nat} : ∀ {ds : List PyData}, (∀ x ∈ ds, x.depth ≤ n) → PyData.depthAll ds ≤ n
  | [], _ => by simp [PyData.depthAll]
  | d :: ds, h => by
    rw [PyData.depthAll]
    have h1 := h d (by simp)
    have h2 := depthAll_le (ds := ds) fun x hx => h x (by simp [hx])
    omega
theorem canAll_of : ∀ {ds : List PyData}, (∀ x ∈ ds, x.canLay0 = true) → PyData.canLayAll0 ds = true
  | [], _ => by simp [PyData.canLayAll0]
  | d :: ds, h => by
    rw [PyData.canLayAll0, h d (by simp), canAll_of (ds := ds) fun x hx => h x (by simp [hx])]
    rfl
theorem Thing.pd {n : Nat} {d : D} (h : Thing n d) (ko : String → Option Ob) (S : Sto) : toP ko S (n + 1) d = some (K02.pd d) ∧ (K02.pd d).canLay0 = true ∧ (K02.pd d).depth ≤ n + 1 := by
  induction h with
  | leaf h => exact ⟨leaf_toP h ko S _, (leaf_strOk _ h).2, by rw [(leaf_no h).2.2.2.2]; omega⟩
  | @nil n => exact ⟨by cases n <;> simp [toP, toPs, K02.pd, pds], by simp [K02.pd, pds, PyData.canLay0, PyData.canLayAll0], by simp [K02.pd, pds, PyData.depth, PyData.depthAll]⟩
  | @tup n ds h hl ih =>
    refine ⟨?_, ?_, ?_⟩
    · rw [K02.pd, pds_map]
      simp only [toP]
      have := toPs_map (ko := ko) (S := S) (k := n) K02.pd id ds fun x hx => (ih x hx).1
      rw [List.map_id] at this
      rw [this]
      rfl
    · rw [K02.pd, pds_map, PyData.canLay0]
      exact canAll_of fun x hx => by obtain ⟨y, hy, rfl⟩ := List.mem_map.mp hx; exact (ih y hy).2.1
    · rw [K02.pd, pds_map, PyData.depth]
      have : PyData.depthAll (ds.map K02.pd) ≤ n + 1 := depthAll_le fun x hx => by obtain ⟨y, hy, rfl⟩ := List.mem_map.mp hx; exact (ih y hy).2.2
      omega
theorem Thing.sh {n : Nat} {d : D} (h : Thing n d) : (shP d).canLay0 = true ∧ (shP d).depth ≤ n + 1 := by
  induction h with
  | leaf h => rw [leaf_shP h]; exact ⟨(leaf_strOk _ h).1, by simp [PyData.depth]⟩
  | nil => simp [shP, shPs, PyData.canLay0, PyData.canLayAll0, PyData.depth, PyData.depthAll]; decide +kernel
  | @tup n ds h hl ih =>
    rw [shP, shPs_map, PyData.canLay0, PyData.depth]
    refine ⟨canAll_of fun x hx => ?_, ?_⟩
    · rcases List.mem_cons.mp hx with rfl | hx
      · decide +kernel
      · obtain ⟨y, hy, rfl⟩ := List.mem_map.mp hx
        exact (ih y hy).1
    · have : PyData.depthAll (.str "tuple" :: ds.map shP) ≤ n + 1 := depthAll_le fun x hx => by
        rcases List.mem_cons.mp hx with rfl | hx
        · simp [PyData.depth]
        · obtain ⟨y, hy, rfl⟩ := List.mem_map.mp hx
          exact (ih y hy).2
      omega
theorem shaped_of {p : PyData} {n : Nat} (h : p.canLay0 = true) (hd : p.depth ≤ n) (hn : n ≤ 64) : SeqAt.shaped p = true := by
  unfold SeqAt.shaped
  rw [h, decide_eq_true (by omega)]
  rfl
theorem eqv_sh {n : Nat} {x : D} (hx : Thing n x) : ∀ {m : Nat} {y : D}, Thing m y → PyData.eqv (shP x) (shP y) = eqT x y := by
  have lists : ∀ (as bs : List D), (∀ a ∈ as, ∀ b ∈ bs, PyData.eqv (shP a) (shP b) = eqT a b) → PyData.eqvAll (as.map shP) (bs.map shP) = eqTs as bs := by
    intro as
    induction as with
    | nil => intro bs _; cases bs <;> simp [PyData.eqvAll, eqTs]
    | cons a as ih =>
      intro bs h
      cases bs with
      | nil => simp [PyData.eqvAll, eqTs]
      | cons b bs =>
        rw [List.map_cons, List.map_cons, PyData.eqvAll, eqTs, h a (by simp) b (by simp), ih bs fun c hc d hd => h c (by simp [hc]) d (by simp [hd])]
  have tt : ∀ (as bs : List D), (∀ a ∈ as, ∀ b ∈ bs, PyData.eqv (shP a) (shP b) = eqT a b) → PyData.eqv (shP (.tup as)) (shP (.tup bs)) = eqT (.tup as) (.tup bs) := by
    intro as bs h
    rw [shP, shP, shPs_map, shPs_map, PyData.eqv, PyData.eqvAll, lists as bs h, eqT]
    simp [PyData.eqv]
  induction hx with
  | leaf h =>
    intro m y hy
    cases hy with
    | leaf h' =>
      rw [leaf_shP h, leaf_shP h', PyData.eqv, ← leaf_eq _ h _ h']
      exact Bool.beq_eq_decide_eq _ _
    | nil => rw [leaf_shP h, shP, ((leaf_no h).2.2.1 _).1]; rfl
    | tup _ _ => rw [leaf_shP h, shP, ((leaf_no h).2.2.1 _).1]; rfl
  | nil =>
    intro m y hy
    cases hy with
    | leaf h' => rw [leaf_shP h', shP, ((leaf_no h').2.2.1 _).2]; rfl
    | nil => exact tt [] [] (by simp)
    | tup _ _ => exact tt [] _ (by simp)
  | tup h hl ih =>
    intro m y hy
    cases hy with
    | leaf h' => rw [leaf_shP h', shP, ((leaf_no h').2.2.1 _).2]; rfl
    | nil => exact tt _ [] (by simp)
    | tup h' hl' => exact tt _ _ fun a ha b hb => ih a ha (h' b hb)
mutual
theorem eqT_comm : ∀ x y : D, eqT x y = eqT y x
  | .tup as, .tup bs => by rw [eqT, eqT, eqTs_comm as bs]
  | .bl a, .bl b => by simp only [eqT]; exact decide_eq_decide.mpr ⟨Eq.symm, Eq.symm⟩
  | .int a, .int b => by simp only [eqT]; exact decide_eq_decide.mpr ⟨Eq.symm, Eq.symm⟩
  | .str a, .str b => by simp only [eqT]; exact decide_eq_decide.mpr ⟨Eq.symm, Eq.symm⟩
  | .non, y => by cases y <;> rfl
  | .ref _, y => by cases y <;> rfl
  | .kref _, y => by cases y <;> rfl
  | .ty _, y => by cases y <;> rfl
  | .tup _, .non => rfl
  | .tup _, .bl _ => rfl
  | .tup _, .int _ => rfl
  | .tup _, .str _ => rfl
  | .tup _, .ref _ => rfl
  | .tup _, .kref _ => rfl
  | .tup _, .ty _ => rfl
  | .bl _, .non => rfl
  | .bl _, .tup _ => rfl
  | .bl _, .int _ => rfl
  | .bl _, .str _ => rfl
  | .bl _, .ref _ => rfl
  | .bl _, .kref _ => rfl
  | .bl _, .ty _ => rfl
  | .int _, .non => rfl
  | .int _, .tup _ => rfl
  | .int _, .bl _ => rfl
  | .int _, .str _ => rfl
  | .int _, .ref _ => rfl
  | .int _, .kref _ => rfl
  | .int _, .ty _ => rfl
  | .str _, .non => rfl
  | .str _, .tup _ => rfl
  | .str _, .bl _ => rfl
  | .str _, .int _ => rfl
  | .str _, .ref _ => rfl
  | .str _, .kref _ => rfl
  | .str _, .ty _ => rfl
theorem eqTs_comm : ∀ as bs : List D, eqTs as bs = eqTs bs as
  | [], [] => rfl
  | a :: as, b :: bs => by rw [eqTs, eqTs, eqT_comm a b, eqTs_comm as bs]
  | [], _ :: _ => rfl
  | _ :: _, [] => rfl
end
end K02

namespace K02
open PySem PySem.Spec PyProof.Rows L2 DL
local macro_rules | `(tactic| walk_at "dx") => `(tactic| simp only [ok_sSet, ok_sRet, ok_sDrop, ok_sIf, ok_sNx, ok_sAsg, ok_eBin, ok_eUn, ok_eC, ok_eCall, ok_aCons, ok_aNil, ok_eTup, ok_eLst, ok_eAnd, ok_eOr, ok_eNot, ok_eIf, ok_tTru, ok_tBl, ok_tAnd2, ok_tOr2, ok_tNot1, ok_eSl, ok_pNo, ok_pSo, ok_eVar', ok_gNm, ok_gIx, ok_truD_bl, ok_tYesD, ok_wAny, ok_add_int, ok_sub_int, ok_ord_int, ok_neg_int, ok_eq_int, ok_eq_str, ok_eq_bl, List.map_cons, List.map_nil, List.length_cons, List.length_nil, List.replicate_succ, List.replicate_zero, List.cons_append, List.nil_append, List.getElem?_cons_zero, List.getElem?_cons_succ, List.set_cons_zero, List.set_cons_succ, if_true, Bool.false_eq_true, if_false, Bool.not_true, Bool.not_false, ok_isi_tup, ok_isi_int, ok_isi_str, ok_isi_bl, ok_isi_non, ok_isNon, ok_isBl, isTg, D.isNon, ok_ari1, ok_ari2])
local macro_rules | `(tactic| walk_at "dx*") => `(tactic| simp only [ok_sSet, ok_sRet, ok_sDrop, ok_sIf, ok_sNx, ok_sAsg, ok_eBin, ok_eUn, ok_eC, ok_eCall, ok_aCons, ok_aNil, ok_eTup, ok_eLst, ok_eAnd, ok_eOr, ok_eNot, ok_eIf, ok_tTru, ok_tBl, ok_tAnd2, ok_tOr2, ok_tNot1, ok_eSl, ok_pNo, ok_pSo, ok_eVar', ok_gNm, ok_gIx, ok_truD_bl, ok_tYesD, ok_wAny, ok_add_int, ok_sub_int, ok_ord_int, ok_neg_int, ok_eq_int, ok_eq_str, ok_eq_bl, List.map_cons, List.map_nil, List.length_cons, List.length_nil, List.replicate_succ, List.replicate_zero, List.cons_append, List.nil_append, List.getElem?_cons_zero, List.getElem?_cons_succ, List.set_cons_zero, List.set_cons_succ, if_true, Bool.false_eq_true, if_false, Bool.not_true, Bool.not_false, ok_isi_tup, ok_isi_int, ok_isi_str, ok_isi_bl, ok_isi_non, ok_isNon, ok_isBl, isTg, D.isNon, ok_ari1, ok_ari2, *])

theorem cut_take {ds : List D} {r : Nat} : DL.cutD ds none (some (r : Int)) = ds.take r := by
  unfold DL.cutD
  rw [HT.sIx_none, HT.sIx_nat, List.drop_zero, Nat.sub_zero]
  by_cases h : r ≤ ds.length
  · rw [Nat.min_eq_left h]
  · rw [Nat.min_eq_right (by omega), List.take_of_length_le (by omega), List.take_of_length_le (by omega)]
theorem cut_drop {ds : List D} {r : Nat} : DL.cutD ds (some (r : Int)) none = ds.drop r := by
  unfold DL.cutD
  rw [HT.sIx_none, HT.sIx_nat]
  by_cases h : r ≤ ds.length
  · rw [Nat.min_eq_left h, List.take_of_length_le (by simp)]
  · rw [Nat.min_eq_right (by omega), List.drop_of_length_le (by omega), List.drop_of_length_le (by omega)]
    simp
theorem ok_add_tup {a b : List D} {S : Sto} {Q : D → Sto → Prop} (h : a.length + b.length ≤ 1000) : Ok (addD (.tup a) (.tup b) S) Q = Q (.tup (a ++ b)) S := by
  unfold addD
  simp only
  rw [if_pos (by rw [sizeLine_eq]; omega)]
  rfl
theorem bent_ok {ko : String → Option Ob} {i : Nat} : ∀ (k n : Nat) (d : D) (S : Sto) (Q : D → Sto → Prop), Thing n d → n + 4 ≤ k → n ≤ 50 → PoolOk S i → (∀ d' S', Thing n d' → Stp i S S' → Q d' S') → Ok (f_bent ko k [.ref i, d] S) Q
  | 0, n, _, _, _, _, h, _, _, _ => by omega
  | k + 1, n, d, S, Q, ht, hk, hn, hp, h => by
    show Ok (dDef 3 (b_bent ko k (f_bent ko k)) [.ref i, d] S) Q
    rw [ok_dDef]
    unfold b_bent
    simp only [List.map_cons, List.map_nil, List.length_cons, List.length_nil, show 3 - (0 + 1 + 1) = 1 from rfl, List.replicate_succ, List.replicate_zero, List.cons_append, List.nil_append]
    have new : ∀ {S1 : Sto}, Stp i S S1 → Ok (f_thing ko k [.ref i, .int 0] S1) fun d S1 => Q d S1 := fun {S1} st =>
      thing_ok k 0 S1 _ (by omega) st.pool fun d' S' hd st' => h d' S' (hd.up (Nat.zero_le _)) (st.trans st')
    rw [ok_sSeq, ok_sIf, ok_tOr2]
    have empty : ∀ {Q : D → Sto → Prop} (ds : List D), Thing n (.tup ds) → Ok (eqD false ko (.tup ds) (.tup []) S) Q = Q (.bl (decide (ds = []))) S := fun {Q} ds hd => by
      obtain ⟨e1, e2, e3⟩ := hd.pd ko S
      rw [ok_eq_by (toP_mono e1 (by omega)) (q := .tuple []) (by simp [toP, toPs]) (shaped_of e2 e3 (by omega)) (by decide)]
      rw [pd, pds_map]
      cases ds <;> simp [PyData.eqv, PyData.eqvAll]
    cases ht with
    | leaf hl =>
      simp only [leafs, List.mem_cons, List.not_mem_nil, or_false] at hl
      rcases hl with rfl | rfl | rfl | rfl | rfl | rfl | rfl | rfl | rfl | rfl | rfl
      all_goals walk_at "dx"
      all_goals first
        | exact new (.refl hp)
        | (simp only [eBoolGet, Ok_bind]
           walk_at "dx"
           simp only [Ok_ok]
           exact h _ S (.leaf (by simp [leafs])) (.refl hp))
    | nil =>
      walk_at "dx"
      refine ⟨by decide, ?_⟩
      rw [empty [] .nil]
      simp only [decide_true, if_true]
      exact new (.refl hp)
    | @tup n' ds hd hl =>
      walk_at "dx"
      refine ⟨by decide, ?_⟩
      rw [empty ds (.tup hd hl)]
      by_cases he : ds = []
      · subst he
        simp only [decide_true, if_true]
        exact new (.refl hp)
      · simp only [he, decide_false, Bool.false_eq_true, if_false]
        rw [ok_sSeq]
        walk_at "dx"
        simp only [lenD, Ok_ok]
        have hpos : 0 < ds.length := List.length_pos_iff.mpr he
        refine draw_ok (by omega) hp (by omega) (by omega) fun r S1 h0 h1 st1 => ?_
        walk_at "dx"
        obtain ⟨j, rfl⟩ := Int.eq_ofNat_of_zero_le h0
        have hj : j < ds.length := by omega
        have aj : atI ds (j : Int) = some ds[j] := atI_nat (List.getElem?_eq_getElem hj)
        simp only [slD, Ok_ok, ok_ix_tup aj, cut_take]
        refine bent_ok k n' ds[j] S1 _ (hd _ (List.getElem_mem hj)) (by omega) (by omega) st1.pool fun d' S2 hd' st2 => ⟨by decide, ?_⟩
        rw [ok_add_tup (by simp; omega)]
        simp only [show ((j : Int) + 1) = ((j + 1 : Nat) : Int) from rfl, cut_drop]
        rw [ok_add_tup (by simp; omega)]
        refine h _ S2 (.tup (fun x hx => ?_) (by simp; omega)) (st1.trans st2)
        simp only [List.mem_append, List.mem_cons, List.not_mem_nil, or_false] at hx
        rcases hx with (hx | rfl) | hx
        · exact hd x (List.mem_of_mem_take hx)
        · exact hd'
        · exact hd x (List.mem_of_mem_drop hx)
/-- shown: what is made is read alike whatever stood before -/
def Fresh (ko : String → Option Ob) (n k : Nat) (u : Sto) (v : D) (p : PyData) : Prop := ∀ T : Sto, T.length = n → toP ko (T ++ u) k v = some p
theorem Fresh.more {ko : String → Option Ob} {n k : Nat} {u : Sto} {v : D} {p : PyData} (h : Fresh ko n k u v p) (w : Sto) : Fresh ko n k (u ++ w) v p := fun T hT => by
  rw [← List.append_assoc]
  exact toP_grow (.add _ _) (h T hT)
theorem toPs_rel {ko : String → Option Ob} {S : Sto} {k : Nat} : ∀ {ds ys : List D}, Paired (fun d y => toP ko S (k + 1) y = some (shP d)) ds ys → toPs ko S (k + 1) ys = some (ds.map shP)
  | _, _, .nil => by simp [toPs]
  | _, _, .cons h1 h2 => by simp only [toPs, h1, toPs_rel h2, List.map_cons]
theorem paired_imp {a b : Type} {F F' : a → b → Prop} (h : ∀ x y, F x y → F' x y) : ∀ {xs : List a} {ys : List b}, Paired F xs ys → Paired F' xs ys
  | _, _, .nil => .nil
  | _, _, .cons h1 h2 => .cons (h _ _ h1) (paired_imp h h2)
theorem paired_add {a b : Type} {F : a → b → Prop} {x : a} {y : b} (h : F x y) : ∀ {xs : List a} {ys : List b}, Paired F xs ys → Paired F (xs ++ [x]) (ys ++ [y])
  | _, _, .nil => .cons h .nil
  | _, _, .cons h1 h2 => .cons h1 (paired_add h h2)
theorem paired_len {a b : Type} {F : a → b → Prop} : ∀ {xs : List a} {ys : List b}, Paired F xs ys → xs.length = ys.length
  | _, _, .nil => rfl
  | _, _, .cons h1 h2 => by simp [paired_len h2]
theorem shown_ok {ko : String → Option Ob} : ∀ (k n : Nat) (d : D) (S : Sto) (Q : D → Sto → Prop), Thing n d → n + 1 ≤ k → (∀ v u, Fresh ko S.length (n + 2) u v (shP d) → Q v (S ++ u)) → Ok (f_shown ko k [d] S) Q
  | 0, n, _, _, _, _, h, _ => by omega
  | k + 1, n, d, S, Q, ht, hk, h => by
    show Ok (dDef 2 (b_shown ko k (f_shown ko k)) [d] S) Q
    rw [ok_dDef]
    unfold b_shown
    simp only [List.map_cons, List.map_nil, List.length_cons, List.length_nil, show 2 - (0 + 1) = 1 from rfl, List.replicate_succ, List.replicate_zero, List.cons_append, List.nil_append]
    rw [ok_sSeq]
    have tup : ∀ (ds : List D), ds.length ≤ 3 → (∀ x ∈ ds, Thing (n - 1) x) → (ds ≠ [] → 1 ≤ n) → d = .tup ds → Ok (sIf (tTru (eUn (isiD .tuple) (eVar 0))) (sRet (eBin addD (eLst (aCons (eC (.str "tuple")) aNil)) (eLc (wAny ko (eVar 0)) (gNm 1) tYesD (eCall (ari 1 (f_shown ko k)) (aCons (eVar 1) aNil)) [1]))) sNx [some d, none] S) fun f S1 => match f with
        | .nx L1 => Ok (sRet (eCall (reprD) (aCons (eVar 0) aNil)) L1 S1) fun f S' => match f with | .rt d => Q d S' | .nx _ => Q .non S' | _ => False
        | f => match f with | .rt d => Q d S1 | .nx _ => Q .non S1 | _ => False := by
      rintro ds hl hd h1 rfl
      walk_at "dx"
      refine ⟨by decide, ?_⟩
      rw [ok_eLc]
      walk_at "dx"
      simp only [wkOf, Ok_ok]
      generalize hS1 : S ++ [Ob.lst [D.str (Str.ofString "tuple")]] = S1
      have len1 : S1.length = S.length + 1 := by rw [← hS1]; simp
      refine lc_inv (I := fun rest acc S' => ∃ pre u, ds = pre ++ rest ∧ S' = S1 ++ [.lst acc] ++ u ∧ Paired (fun d y => Fresh ko (S1.length + 1) (n - 1 + 2) u y (shP d)) pre acc) (fun x rest acc S' hI => ?_) (fun acc S' hI => ?_) ds [] _ ⟨[], [], rfl, by simp, .nil⟩
      · obtain ⟨pre, u, e, rfl, pr⟩ := hI
        refine ⟨rfl, ?_⟩
        have hx : Thing (n - 1) x := hd x (by rw [e]; simp)
        have hn : 1 ≤ n := h1 (by rw [e]; simp)
        simp only [wipeL]
        walk_at "dx"
        refine shown_ok k (n - 1) x _ _ hx (by omega) fun v w fr => ?_
        have la := paired_len pr
        have lp : pre.length < ds.length := by rw [e]; simp
        refine ⟨by simp, by rw [sizeLine_eq]; omega, pre ++ [x], u ++ w, by rw [e]; simp, by simp [List.set_append], paired_add ?_ (paired_imp (fun _ _ z => z.more w) pr)⟩
        intro T hT
        rw [← List.append_assoc]
        refine fr (T ++ u) ?_
        simp [hT]
        omega
      · obtain ⟨pre, u, e, rfl, pr⟩ := hI
        rw [List.append_nil] at e
        subst e
        refine ⟨rfl, ?_⟩
        have g0 : (S1 ++ [Ob.lst acc] ++ u)[S.length]? = some (.lst [.str "tuple"]) := by
          rw [← hS1]
          simp
        have g1 : (S1 ++ [Ob.lst acc] ++ u)[S1.length]? = some (.lst acc) := by simp
        have la := paired_len pr
        unfold addD
        simp only [g0, g1, ok_newL]
        refine ⟨by simp; rw [sizeLine_eq]; omega, ?_⟩
        have es : S1 ++ [Ob.lst acc] ++ u ++ [Ob.lst ([D.str (Str.ofString "tuple")] ++ acc)] = S ++ ([Ob.lst [D.str (Str.ofString "tuple")]] ++ [Ob.lst acc] ++ u ++ [Ob.lst ([D.str (Str.ofString "tuple")] ++ acc)]) := by
          rw [← hS1]
          simp
        rw [es]
        refine h _ _ fun T hT => ?_
        have el : (T ++ ([Ob.lst [D.str (Str.ofString "tuple")]] ++ [Ob.lst acc] ++ u ++ [Ob.lst ([D.str (Str.ofString "tuple")] ++ acc)]))[(S1 ++ [Ob.lst acc] ++ u).length]? = some (.lst ([D.str (Str.ofString "tuple")] ++ acc)) := by
          have : (S1 ++ [Ob.lst acc] ++ u).length = (T ++ [Ob.lst [D.str (Str.ofString "tuple")]] ++ [Ob.lst acc] ++ u).length := by simp [hT, len1]; omega
          rw [this]
          rw [show T ++ ([Ob.lst [D.str (Str.ofString "tuple")]] ++ [Ob.lst acc] ++ u ++ [Ob.lst ([D.str (Str.ofString "tuple")] ++ acc)]) = (T ++ [Ob.lst [D.str (Str.ofString "tuple")]] ++ [Ob.lst acc] ++ u) ++ [Ob.lst ([D.str (Str.ofString "tuple")] ++ acc)] by simp]
          simp
        simp only [toP, el]
        rw [shP, shPs_map]
        have hp2 : Paired (fun d y => toP ko (T ++ ([Ob.lst [D.str (Str.ofString "tuple")]] ++ [Ob.lst acc] ++ u ++ [Ob.lst ([D.str (Str.ofString "tuple")] ++ acc)])) (n + 1) y = some (shP d)) ds acc := by
          cases ds with
          | nil => cases acc with
            | nil => exact .nil
            | cons _ _ => simp at la
          | cons p0 pre0 =>
            have hn : 1 ≤ n := h1 (by simp)
            refine paired_imp (fun d y z => ?_) pr
            have z2 := z.more [Ob.lst ([D.str (Str.ofString "tuple")] ++ acc)] (T ++ [Ob.lst [D.str (Str.ofString "tuple")]] ++ [Ob.lst acc]) (by simp [hT, len1])
            rw [show n - 1 + 2 = n + 1 by omega] at z2
            rw [← z2]
            congr 1
            simp
        simp only [List.cons_append, List.nil_append, toPs, toP]
        simp only [List.cons_append, List.nil_append] at hp2
        rw [toPs_rel hp2]
        rfl
    cases ht with
    | leaf hl =>
      have hr := leaf_repr _ hl S
      have fr : Fresh ko S.length (n + 2) [] (.str (reprS d)) (shP d) := fun T _ => by rw [leaf_shP hl]; simp [toP]
      have hq := h _ _ fr
      rw [List.append_nil] at hq
      clear tup fr h
      simp only [leafs, List.mem_cons, List.not_mem_nil, or_false] at hl
      rcases hl with rfl | rfl | rfl | rfl | rfl | rfl | rfl | rfl | rfl | rfl | rfl
      all_goals walk_at "dx"
      all_goals rw [hr]
      all_goals exact hq
    | nil => exact tup [] (by simp) (by simp) (by simp) rfl
    | @tup n' ds hd hl => exact tup ds hl (by simpa using hd) (by omega) rfl
end K02

namespace K02
open PySem PySem.Spec PyProof.Rows L2 DL
local macro_rules | `(tactic| walk_at "dx") => `(tactic| simp only [ok_sSet, ok_sRet, ok_sDrop, ok_sIf, ok_sNx, ok_sAsg, ok_eBin, ok_eUn, ok_eC, ok_eCall, ok_aCons, ok_aNil, ok_eTup, ok_eLst, ok_eAnd, ok_eOr, ok_eNot, ok_eIf, ok_tTru, ok_tBl, ok_tAnd2, ok_tOr2, ok_tNot1, ok_eSl, ok_pNo, ok_pSo, ok_eVar', ok_gNm, ok_gIx, ok_truD_bl, ok_tYesD, ok_wAny, ok_add_int, ok_sub_int, ok_ord_int, ok_neg_int, ok_eq_int, ok_eq_str, ok_eq_bl, List.map_cons, List.map_nil, List.length_cons, List.length_nil, List.replicate_succ, List.replicate_zero, List.cons_append, List.nil_append, List.getElem?_cons_zero, List.getElem?_cons_succ, List.set_cons_zero, List.set_cons_succ, if_true, Bool.false_eq_true, if_false, Bool.not_true, Bool.not_false, ok_isi_tup, ok_isi_int, ok_isi_str, ok_isi_bl, ok_isi_non, ok_isNon, ok_isBl, isTg, D.isNon, ok_ari1, ok_ari2])
local macro_rules | `(tactic| walk_at "dx*") => `(tactic| simp only [ok_sSet, ok_sRet, ok_sDrop, ok_sIf, ok_sNx, ok_sAsg, ok_eBin, ok_eUn, ok_eC, ok_eCall, ok_aCons, ok_aNil, ok_eTup, ok_eLst, ok_eAnd, ok_eOr, ok_eNot, ok_eIf, ok_tTru, ok_tBl, ok_tAnd2, ok_tOr2, ok_tNot1, ok_eSl, ok_pNo, ok_pSo, ok_eVar', ok_gNm, ok_gIx, ok_truD_bl, ok_tYesD, ok_wAny, ok_add_int, ok_sub_int, ok_ord_int, ok_neg_int, ok_eq_int, ok_eq_str, ok_eq_bl, List.map_cons, List.map_nil, List.length_cons, List.length_nil, List.replicate_succ, List.replicate_zero, List.cons_append, List.nil_append, List.getElem?_cons_zero, List.getElem?_cons_succ, List.set_cons_zero, List.set_cons_succ, if_true, Bool.false_eq_true, if_false, Bool.not_true, Bool.not_false, ok_isi_tup, ok_isi_int, ok_isi_str, ok_isi_bl, ok_isi_non, ok_isNon, ok_isBl, isTg, D.isNon, ok_ari1, ok_ari2, *])

@[simp] theorem ok_eDict0 {L : Lc} {S : Sto} {Q : D → Sto → Prop} : Ok (eDict0 L S) Q = Q (.ref S.length) (S ++ [.dic [] []]) := rfl
theorem ok_wRng1 {a : Lc → Sto → R (List D)} {L : Lc} {S : Sto} {Q : Wk → Sto → Prop} {j : Int} (h0 : 0 ≤ j) (h1 : j < 1000000) (h : Ok (a L S) fun ds S1 => ds = [.int j] ∧ Q ⟨rngL 0 j.toNat, fun _ => true⟩ S1) : Ok (wRng1 a L S) Q := by
  simp only [wRng1, Ok_bind]
  refine h.mono fun ds S1 h2 => ?_
  obtain ⟨rfl, h3⟩ := h2
  simp only
  rw [if_pos ⟨by omega, by omega⟩]
  exact h3
theorem rng_mem {n : Nat} {x : D} (h : x ∈ rngL 0 n) : ∃ j : Int, x = .int j ∧ 0 ≤ j ∧ j < n := by
  simp only [rngL, List.mem_map, List.mem_range] at h
  obtain ⟨i, hi, rfl⟩ := h
  exact ⟨_, rfl, by omega, by omega⟩
theorem body4 {ko : String → Option Ob} {Q : Fl → Sto → Prop} {S : Sto} {one other : D} {a0 a1 a2 a3 a4 a7 : Option D} (h1 : Thing 3 one) (h2 : Thing 3 other) (h : ∀ a7 S', Grow S S' → Q (.nx [a0, a1, a2, a3, a4, some one, some other, a7]) S') :
    Ok (sSeq (sSet 7 (eBin (eqD false ko) (eCall (ari 1 (f_shown ko 19)) (aCons (eVar 5) aNil)) (eCall (ari 1 (f_shown ko 19)) (aCons (eVar 6) aNil))))
  (sSeq (sIf (tBl (eBin (eqD true ko) (eLst (aCons (eCall (ari 2 (f_are_equal ko 19)) (aCons (eVar 5) (aCons (eVar 6) aNil))) (aCons (eCall (ari 2 (f_are_equal ko 19)) (aCons (eVar 6) (aCons (eVar 5) aNil))) aNil))) (eBin mulD (eLst (aCons (eVar 7) aNil)) (eC (.int 2)))))
    (sRet (eC (.bl false)))
    sNx)
  (sIf (tAnd2 (tBl (eBin (isD true) (eCall (ari 2 (f_are_equal ko 19)) (aCons (eVar 5) (aCons (eVar 6) aNil))) (eC (.bl true)))) (tBl (eBin (isD true) (eCall (ari 2 (f_are_equal ko 19)) (aCons (eVar 5) (aCons (eVar 6) aNil))) (eC (.bl false)))))
    (sRet (eC (.bl false)))
    sNx)) [a0, a1, a2, a3, a4, some one, some other, a7] S) Q := by
  rw [ok_sSeq]
  try walk_at "dx"
  refine shown_ok 19 3 one S _ h1 (by omega) fun v1 u1 f1 => ?_
  refine shown_ok 19 3 other (S ++ u1) _ h2 (by omega) fun v2 u2 f2 => ?_
  have t1 : toP ko (S ++ u1 ++ u2) 65 v1 = some (shP one) := toP_mono (toP_grow (.add _ _) (f1 S rfl)) (by omega)
  have t2 : toP ko (S ++ u1 ++ u2) 65 v2 = some (shP other) := toP_mono (f2 (S ++ u1) rfl) (by omega)
  obtain ⟨c1, d1⟩ := h1.sh
  obtain ⟨c2, d2⟩ := h2.sh
  rw [ok_eq_by t1 t2 (shaped_of c1 d1 (by omega)) (shaped_of c2 d2 (by omega)), eqv_sh h1 h2]
  have g0 : Grow S (S ++ u1 ++ u2) := (Grow.add S u1).trans (.add _ _)
  generalize S ++ u1 ++ u2 = S1 at g0
  try walk_at "dx"
  rw [ok_sSeq]
  try walk_at "dx"
  have e1 : dep one < 19 := by have := h1.dep; omega
  have e2 : dep other < 19 := by have := h2.dep; omega
  refine are_equal_ok 19 one other S1 _ e1 (h1.tagd _) (h2.tagd _) fun S2 g2 => ?_
  refine are_equal_ok 19 other one S2 _ e2 (h2.tagd _) (h1.tagd _) fun S3 g3 => ⟨by decide, by decide, ?_⟩
  rw [eqT_comm other one]
  simp only [show (false != eqT one other) = eqT one other from by cases eqT one other <;> rfl]
  generalize hb : eqT one other = b
  have r1 : (S3 ++ [Ob.lst [D.bl b, D.bl b]] ++ [Ob.lst [D.bl b]])[(S3 ++ [Ob.lst [D.bl b, D.bl b]]).length]? = some (.lst [.bl b]) := by simp
  simp only [mulD, r1]
  rw [if_pos ⟨by decide, by decide⟩, ok_newL]
  refine ⟨by cases b <;> decide, ?_⟩
  have q1 : (S3 ++ [Ob.lst [D.bl b, D.bl b]] ++ [Ob.lst [D.bl b]] ++ [Ob.lst (List.replicate (2 : Int).toNat [D.bl b]).flatten])[S3.length]? = some (.lst [.bl b, .bl b]) := by simp
  have q2 : (S3 ++ [Ob.lst [D.bl b, D.bl b]] ++ [Ob.lst [D.bl b]] ++ [Ob.lst (List.replicate (2 : Int).toNat [D.bl b]).flatten])[(S3 ++ [Ob.lst [D.bl b, D.bl b]] ++ [Ob.lst [D.bl b]]).length]? = some (.lst [.bl b, .bl b]) := by
    rw [List.getElem?_append_right (by simp)]
    simp
  rw [ok_eq_by (p := .list [.bool b, .bool b]) (q := .list [.bool b, .bool b]) (by simp [toP, toPs, q1]) (by simp only [toP, q2]; simp [toPs, toP]) (by cases b <;> decide) (by cases b <;> decide)]
  simp only [show PyData.eqv (.list [.bool b, .bool b]) (.list [.bool b, .bool b]) = true from by cases b <;> rfl, show (true != true) = false from rfl]
  try walk_at "dx"
  have gA : Grow S (S3 ++ [Ob.lst [D.bl b, D.bl b]] ++ [Ob.lst [D.bl b]] ++ [Ob.lst (List.replicate (2 : Int).toNat [D.bl b]).flatten]) := g0.trans (g2.trans (g3.trans (((Grow.add _ _).trans (.add _ _)).trans (.add _ _))))
  generalize S3 ++ [Ob.lst [D.bl b, D.bl b]] ++ [Ob.lst [D.bl b]] ++ [Ob.lst (List.replicate (2 : Int).toNat [D.bl b]).flatten] = S4 at gA
  refine are_equal_ok 19 one other S4 _ e1 (h1.tagd _) (h2.tagd _) fun S5 g5 => ?_
  rw [hb]
  cases b with
  | true =>
    try walk_at "dx"
    rw [if_neg (by decide)]
    exact h _ S5 (gA.trans g5)
  | false =>
    try walk_at "dx"
    rw [if_pos (by decide)]
    refine are_equal_ok 19 one other S5 _ e1 (h1.tagd _) (h2.tagd _) fun S6 g6 => ?_
    rw [hb]
    try walk_at "dx"
    rw [if_neg (by decide)]
    exact h _ S6 (gA.trans (g5.trans g6))
theorem law_ok (ns : List Int) (hn : ns.length ≤ 63) (hb : ∀ z ∈ ns, Builtin.Int.intBits z ≤ 1048576) : Ok (f_law (koS ns) 20 [.kref "script"] []) fun d _ => d = .bl true := by
  show Ok (dDef 8 (b_law (koS ns) 19 (fun _ _ => .bad)) [.kref "script"] []) _
  rw [ok_dDef]
  unfold b_law
  simp only [List.map_cons, List.map_nil, List.length_cons, List.length_nil, show 8 - (0 + 1) = 7 from rfl, List.replicate_succ, List.replicate_zero, List.cons_append, List.nil_append]
  generalize hko : koS ns = ko
  rw [ok_sSeq, ok_sFor]
  walk_at "dx"
  simp only [ok_eDict0]
  walk_at "dx"
  refine ⟨by decide, by decide, by decide, by decide, by decide, ?_⟩
  simp only [wkOf, List.length_append, List.length_cons, List.length_nil, List.append_assoc, List.cons_append, List.nil_append, List.getElem?_cons_zero, List.getElem?_cons_succ, Ok_ok]
  generalize hS0 : [Ob.lst [], Ob.dic [] [], Ob.lst [D.int 1], Ob.lst [D.int 2], Ob.lst [D.ref 0, D.ref (0 + 1), D.ref (0 + 1 + 1), D.tup [D.int 1, D.ref (0 + 1 + 1 + 1)]]] = S0
  generalize hit : [D.ref 0, D.ref (0 + 1), D.ref (0 + 1 + 1), D.tup [D.int 1, D.ref (0 + 1 + 1 + 1)]] = items
  have h4 : S0[4]? = some (.lst items) := by rw [← hS0, ← hit]; rfl
  have hitems : ∀ x ∈ items, Tagd S0 x ∧ dep x ≤ 1 ∧ eqT x x = false := by
    intro x hx
    rw [← hit] at hx
    simp only [List.mem_cons, List.not_mem_nil, or_false] at hx
    rcases hx with rfl | rfl | rfl | rfl
    · exact ⟨by rw [← hS0]; rfl, by decide, rfl⟩
    · exact ⟨by rw [← hS0]; rfl, by decide, rfl⟩
    · exact ⟨by rw [← hS0]; rfl, by decide, rfl⟩
    · exact ⟨by rw [← hS0]; simp [Tagd, Tagds, tgD], by decide, by decide⟩
  refine for_inv (I := fun rest L S' => Grow S0 S' ∧ (∃ a1, L = [some (.kref "script"), a1, none, none, none, none, none, none]) ∧ ∀ x ∈ rest, x ∈ items) (fun x rest L S' hI => ?_) (fun L S' hI => ?_) items _ _ ⟨.refl _, ⟨none, rfl⟩, fun _ h => h⟩
  · obtain ⟨g, ⟨a1, rfl⟩, hm⟩ := hI
    obtain ⟨tx, dx, ex⟩ := hitems x (hm x (by simp))
    refine ⟨okL_of (g.get h4), ?_⟩
    first | walk_at "dx" | dsimp only | skip
    refine are_equal_ok 19 x x S' _ (by omega) (tx.grow g) (tx.grow g) fun S1 g1 => ?_
    rw [ex]
    first | walk_at "dx" | dsimp only | skip
    rw [if_neg (by decide)]
    refine ⟨by decide, by decide, ?_⟩
    have tt : Tagd S1 (.tup [x]) := by
      rw [Tagd, Tagds, Tagds]
      exact ⟨by simp, (tx.grow g).grow g1, trivial⟩
    refine are_equal_ok 19 (.tup [x]) (.tup [x]) S1 _ (by simp [dep, deps]; omega) tt tt fun S2 g2 => ?_
    rw [show eqT (.tup [x]) (.tup [x]) = false from by rw [eqT, eqTs, ex]; rfl]
    first | walk_at "dx" | dsimp only | skip
    rw [if_neg (by decide)]
    exact ⟨g.trans (g1.trans g2), ⟨_, rfl⟩, fun y hy => hm y (by simp [hy])⟩
  · obtain ⟨g, ⟨a1, rfl⟩, _⟩ := hI
    refine ⟨okL_of (g.get h4), ?_⟩
    clear hitems
    dsimp only
    rw [ok_sSeq, ok_sFor]
    have hlen : ∀ {Q : D → Sto → Prop} {S : Sto}, Ok (lenD ko [.kref "script"] S) Q = Q (.int ns.length) S := by
      intro Q S
      have lk : lstOf (.kref "script") S ko = some (ns.map D.int) := by rw [← hko]; simp [lstOf, koS_s]
      simp [lenD, lk]
    have hj : ∃ j : Int, (if (if (8 : Int) < (ns.length : Int) then 8 else (ns.length : Int)) > 1 then (if (8 : Int) < (ns.length : Int) then 8 else (ns.length : Int)) else 1) = j ∧ 1 ≤ j ∧ j ≤ 8 := ⟨_, rfl, by split <;> split <;> omega, by split <;> split <;> omega⟩
    obtain ⟨j, ej, hj1, hj8⟩ := hj
    refine ok_wRng1 (j := j) (by omega) (by omega) ?_
    first | walk_at "dx" | dsimp only | skip
    rw [hlen]
    simp only [min2D, max2D, Ok_ok]
    refine ⟨by rw [← ej], ?_⟩
    refine for_inv (I := fun rest L S => (∃ a1 a2 a3 a4 a5 a6 a7, L = [some (.kref "script"), a1, a2, a3, a4, a5, a6, a7]) ∧ ∀ x ∈ rest, ∃ j : Int, x = .int j ∧ 0 ≤ j ∧ j < 8) (fun x rest L S hI => ?_) (fun L S hI => ?_) _ _ _ ⟨⟨_, _, _, _, _, _, _, rfl⟩, fun x hx => ?_⟩
    · obtain ⟨⟨a1, a2, a3, a4, a5, a6, a7, rfl⟩, hm⟩ := hI
      obtain ⟨jj, rfl, hj0, hjj8⟩ := hm x (by simp)
      refine ⟨rfl, ?_⟩
      rw [ok_gNm]
      simp only [List.set_cons_succ, List.set_cons_zero]
      rw [ok_sSeq]
      first | walk_at "dx" | dsimp only | skip
      rw [show (19 : Nat) = 18 + 1 from rfl, f_pool_eq, ← hko]
      refine pool0 hn hb hj0 (by omega) fun n S1 g1 pk hle => ?_
      rw [hko]
      first | walk_at "dx" | dsimp only | skip
      rw [ok_sFor]
      refine ok_wRng1 (j := 10) (by decide) (by decide) ?_
      first | walk_at "dx" | dsimp only | skip
      refine ⟨by trivial, ?_⟩
      refine for_inv (I := fun _ L S => PoolOk S n ∧ ∃ a1 a2 a4 a5 a6 a7, L = [some (.kref "script"), a1, a2, some (.ref n), a4, a5, a6, a7]) (fun x rest3 L S hI => ?_) (fun L S hI => ?_) _ _ _ ⟨pk, _, _, _, _, _, _, rfl⟩
      · obtain ⟨pk3, a1, a2, a4, a5, a6, a7, rfl⟩ := hI
        refine ⟨rfl, ?_⟩
        rw [ok_gNm]
        simp only [List.set_cons_succ, List.set_cons_zero]
        rw [ok_sSeq]
        first | walk_at "dx" | dsimp only | skip
        refine thing_ok 19 3 S _ (by omega) pk3 fun one S2 ht1 st2 => ?_
        first | walk_at "dx" | dsimp only | skip
        rw [ok_sFor]
        first | walk_at "dx" | dsimp only | skip
        refine bent_ok 19 3 one S2 _ ht1 (by omega) (by omega) st2.pool fun o2 S3 ht2 st3 => ?_
        refine thing_ok 19 2 S3 _ (by omega) st3.pool fun o3 S4 ht3 st4 => ?_
        refine bent_ok 19 3 one S4 _ ht1 (by omega) (by omega) st4.pool fun o4 S5 ht4 st5 => ⟨by decide, ?_⟩
        have e5 : (S5 ++ [Ob.lst [one, o2, o3, o4]])[S5.length]? = some (.lst [one, o2, o3, o4]) := by simp
        simp only [wkOf, e5, Ok_ok]
        have hne : S5.length ≠ n := by have := st5.pool.lt; omega
        have pk6 : PoolOk (S5 ++ [Ob.lst [one, o2, o3, o4]]) n := st5.pool.grow (.add _ _)
        refine for_inv (I := fun rest L S => Stp n (S5 ++ [Ob.lst [one, o2, o3, o4]]) S ∧ (∃ a1 a2 a4 a6 a7, L = [some (.kref "script"), a1, a2, some (.ref n), a4, some one, a6, a7]) ∧ ∀ x ∈ rest, Thing 3 x) (fun x rest4 L S hI => ?_) (fun L S hI => ?_) _ _ _ ⟨.refl pk6, ⟨_, _, _, _, _, rfl⟩, ?_⟩
        · obtain ⟨st6, ⟨a1, a2, a4, a6, a7, rfl⟩, hm6⟩ := hI
          refine ⟨okL_of (st6.get hne e5), ?_⟩
          rw [ok_gNm]
          simp only [List.set_cons_succ, List.set_cons_zero]
          refine body4 ht1 (hm6 x (by simp)) fun a7 S' g' => ?_
          exact ⟨st6.trans (.grow st6.pool g'), ⟨_, _, _, _, _, rfl⟩, fun y hy => hm6 y (by simp [hy])⟩
        · obtain ⟨st6, ⟨a1, a2, a4, a6, a7, rfl⟩, _⟩ := hI
          exact ⟨okL_of (st6.get hne e5), st6.pool, _, _, _, _, _, _, rfl⟩
        · intro x hx
          simp only [List.mem_cons, List.not_mem_nil, or_false] at hx
          rcases hx with rfl | rfl | rfl | rfl
          · exact ht1
          · exact ht2
          · exact ht3.up (by omega)
          · exact ht4
      · obtain ⟨pk3, a1, a2, a4, a5, a6, a7, rfl⟩ := hI
        exact ⟨rfl, ⟨_, _, _, _, _, _, _, rfl⟩, fun y hy => hm y (by simp [hy])⟩
    · obtain ⟨⟨a1, a2, a3, a4, a5, a6, a7, rfl⟩, _⟩ := hI
      refine ⟨rfl, ?_⟩
      first | walk_at "dx" | dsimp only | skip
    · obtain ⟨i, e, h0, h1⟩ := rng_mem hx
      exact ⟨i, e, h0, by omega⟩
end K02

namespace K02
open PySem PySem.Spec PyProof.Rows L2 DL
def topS (i : Nat) : Stmt := PySem.Challenge.pw_mendedruns_k02_equal_values.main.body.getD i (.Pass ⟨0, 0, 0, 0⟩)
abbrev s_are_equal : Stmt := topS 1
abbrev N_are_equal : List Str := ["one", "other", "pair"]
theorem sc_are_equal : FnScope N_are_equal ["one", "other"] (defScope s_are_equal) := ⟨rfl, rfl, rfl, by decide +kernel, rfl, by decide +kernel, by decide +kernel⟩
abbrev s_pool : Stmt := topS 3
abbrev N_pool : List Str := ["_law_script", "_law_k", "_law_cell", "_law_great", "_law_mixed"]
theorem sc_pool : FnScope N_pool ["_law_script", "_law_k"] (defScope s_pool) := ⟨rfl, rfl, rfl, by decide +kernel, rfl, by decide +kernel, by decide +kernel⟩
abbrev s_draw : Stmt := topS 4
abbrev N_draw : List Str := ["_law_pool_here", "_law_many", "_law_found"]
theorem sc_draw : FnScope N_draw ["_law_pool_here", "_law_many"] (defScope s_draw) := ⟨rfl, rfl, rfl, by decide +kernel, rfl, by decide +kernel, by decide +kernel⟩
abbrev s_thing : Stmt := topS 5
abbrev N_thing : List Str := ["_law_pool_here", "_law_depth", "_law_turn"]
theorem sc_thing : FnScope N_thing ["_law_pool_here", "_law_depth"] (defScope s_thing) := ⟨rfl, rfl, rfl, by decide +kernel, rfl, by decide +kernel, by decide +kernel⟩
abbrev s_shown : Stmt := topS 6
abbrev N_shown : List Str := ["_law_thing_here", "_law_one"]
theorem sc_shown : FnScope N_shown ["_law_thing_here"] (defScope s_shown) := ⟨rfl, rfl, rfl, by decide +kernel, rfl, by decide +kernel, by decide +kernel⟩
abbrev s_bent : Stmt := topS 7
abbrev N_bent : List Str := ["_law_pool_here", "_law_thing_here", "_law_at"]
theorem sc_bent : FnScope N_bent ["_law_pool_here", "_law_thing_here"] (defScope s_bent) := ⟨rfl, rfl, rfl, by decide +kernel, rfl, by decide +kernel, by decide +kernel⟩
abbrev s_law : Stmt := topS 8
abbrev N_law : List Str := ["_law_script", "_law_thing_here", "_law_k", "_law_pool_here", "_law_turn", "_law_one", "_law_other", "_law_expected"]
theorem sc_law : FnScope N_law ["_law_script"] (defScope s_law) := ⟨rfl, rfl, rfl, by decide +kernel, rfl, by decide +kernel, by decide +kernel⟩
structure Tx (K : PySem.W.Frag) (mg : Str → Option Value) where
  are_equal : FT K mg "are_equal" s_are_equal ["one", "other"]
  pool : FT K mg "_law_pool" s_pool ["_law_script", "_law_k"]
  draw : FT K mg "_law_draw" s_draw ["_law_pool_here", "_law_many"]
  thing : FT K mg "_law_thing" s_thing ["_law_pool_here", "_law_depth"]
  shown : FT K mg "_law_shown" s_shown ["_law_thing_here"]
  bent : FT K mg "_law_bent" s_bent ["_law_pool_here", "_law_thing_here"]
  law : FT K mg "law" s_law ["_law_script"]
  m_isinstance : mg "isinstance" = none
  m_int : mg "int" = none
  m_str : mg "str" = none
  m_bool : mg "bool" = none
  m_tuple : mg "tuple" = none
  m_len : mg "len" = none
  m_zip : mg "zip" = none
  m_all : mg "all" = none
  m_abs : mg "abs" = none
  m_sum : mg "sum" = none
  m_range : mg "range" = none
  m_repr : mg "repr" = none
  m_min : mg "min" = none
  m_max : mg "max" = none
section
variable {P : Program} {w : World} {mg : Str → Option Value} {base : Heap} {g : G}
theorem ok_are_equal (T : Tx g.K mg) : ∀ k, FnOk P w g.K mg base CX0 k T.are_equal.f T.are_equal.fd ["one", "other"] (spD g 2 (f_are_equal g.ko k))
  | 0 => fn_bad
  | k + 1 => by
    have ih := ok_are_equal T k
    exact fn_ok (fb := b_are_equal g.ko k (f_are_equal g.ko k)) (nn := 3) T.are_equal.fn sc_are_equal rfl rfl fun cdv A outer s H E hr => by
      have hu := hr.units
      exact (ds_cons (ds_if (PW.pt (dw_and (dt_tru rfl (de_isi .tuple rfl rfl T.m_isinstance rfl T.m_tuple bt_tuple (de_var 0))) (dw_and1 (dt_tru rfl (de_isi .tuple rfl rfl T.m_isinstance rfl T.m_tuple bt_tuple (de_var 1))))))
      (ds_one (ds_ret (de_and rfl (de_cmp (od_eq rfl hu) (de_callB (cd_len rfl) rfl T.m_len bt_len (da_cons (de_var 0) da_nil)) (de_callB (cd_len rfl) rfl T.m_len bt_len (da_cons (de_var 1) da_nil)) (nomark _)) (pe_one (de_callB (cd_all rfl rfl) rfl T.m_all bt_all (da_cons (de_lc (own := [("pair", 2)]) rfl sc_are_equal.nd rfl (di_zipN rfl rfl T.m_zip (da_cons (de_var 0) (da_cons (de_var 1) da_nil))) (blkOk_by (N := N_are_equal) (sc := defScope s_are_equal) (by decide +kernel)) (fun _ _ _ _ _ => (dg_name (i := 2) sc_are_equal.nd rfl (by first | exact Or.inl rfl | exact Or.inr rfl) (wp_nm (by decide)))) (fun _ _ _ _ _ => dts_nil) (fun _ _ _ _ _ => (de_callS1 rfl ih hr rfl T.are_equal.mgx T.are_equal.fn.kp T.are_equal.bn (de_var 2)))) da_nil))))))
      ds_nil)
    (ds_cons (ds_if (PW.pt (dw_or (dt_tru rfl (de_isi .bool rfl rfl T.m_isinstance rfl T.m_bool bt_bool (de_var 0))) (dw_or1 (dt_tru rfl (de_isi .bool rfl rfl T.m_isinstance rfl T.m_bool bt_bool (de_var 1))))))
      (ds_one (ds_ret (de_and rfl (de_isi .bool rfl rfl T.m_isinstance rfl T.m_bool bt_bool (de_var 0)) (de_and rfl (de_isi .bool rfl rfl T.m_isinstance rfl T.m_bool bt_bool (de_var 1)) (pe_one (de_cmp (od_eq rfl hu) (de_var 0) (de_var 1) (nomark _)))))))
      ds_nil)
    (ds_cons (ds_if (PW.pt (dw_or (PW.pt (dw_and (dt_tru rfl (de_isi .int rfl rfl T.m_isinstance rfl T.m_int bt_int (de_var 0))) (dw_and1 (dt_tru rfl (de_isi .int rfl rfl T.m_isinstance rfl T.m_int bt_int (de_var 1)))))) (dw_or1 (PW.pt (dw_and (dt_tru rfl (de_isi .str rfl rfl T.m_isinstance rfl T.m_str bt_str (de_var 0))) (dw_and1 (dt_tru rfl (de_isi .str rfl rfl T.m_isinstance rfl T.m_str bt_str (de_var 1)))))))))
      (ds_one (ds_ret (de_cmp (od_eq rfl hu) (de_var 0) (de_var 1) (nomark _))))
      ds_nil)
    (ds_one (ds_ret (de_and rfl (de_cmp od_is (de_var 0) de_non (nomark _)) (pe_one (de_cmp od_is (de_var 1) de_non (nomark _)))))))))
theorem ok_pool (T : Tx g.K mg) : ∀ k, FnOk P w g.K mg base CX0 k T.pool.f T.pool.fd ["_law_script", "_law_k"] (spD g 2 (f_pool g.ko k))
  | 0 => fn_bad
  | k + 1 => by
    exact fn_ok (fb := b_pool g.ko k (fun _ _ => .bad)) (nn := 5) T.pool.fn sc_pool rfl rfl fun cdv A outer s H E hr => by
      have hu := hr.units
      exact (ds_cons (ds_set (i := 2) sc_pool.nd rfl (by first | exact Or.inl rfl | exact Or.inr rfl) (de_op (od_add rfl) (de_op (od_mul) de_int (de_callB (cd_sum rfl rfl) rfl T.m_sum bt_sum (da_cons (de_sl rfl (de_var 0) dp_none (dp_some de_int)) da_nil))) (de_var 1)))
    (ds_cons (ds_if (dt_cmp od_lt (de_var 1) (de_callB (cd_len rfl) rfl T.m_len bt_len (da_cons (de_var 0) da_nil)) (nomark _))
      (ds_one (ds_set (i := 2) sc_pool.nd rfl (by first | exact Or.inl rfl | exact Or.inr rfl) (de_ix (xd_ix rfl) (de_var 0) (de_var 1))))
      ds_nil)
    (ds_cons (ds_set (i := 3) sc_pool.nd rfl (by first | exact Or.inl rfl | exact Or.inr rfl) (de_callB (cd_abs) rfl T.m_abs bt_abs (da_cons (de_var 2) da_nil)))
    (ds_cons (ds_set (i := 4) sc_pool.nd rfl (by first | exact Or.inl rfl | exact Or.inr rfl) (de_op (od_mod) (de_op (od_mul) (de_op (od_add rfl) (de_op (od_add rfl) (de_op (od_add rfl) (de_op (od_mod) (de_var 3) de_int) (de_op (od_mul) (de_op (od_mul) de_int (de_var 1)) (de_var 1))) (de_op (od_mul) de_int (de_var 1))) de_int) de_int) de_int))
    (ds_one (ds_ret (de_lst (da_cons (de_op (od_mul) (de_var 3) (de_callTy (cd_int) rfl T.m_int bt_int (da_cons (de_cmp od_ge (de_var 3) (de_op (od_pow) de_int de_int) (nomark _)) da_nil))) (da_cons (de_op (od_mod) (de_op (od_mul) (de_var 4) (de_var 4)) de_int) da_nil)))))))))
theorem ok_draw (T : Tx g.K mg) : ∀ k, FnOk P w g.K mg base CX0 k T.draw.f T.draw.fd ["_law_pool_here", "_law_many"] (spD g 2 (f_draw g.ko k))
  | 0 => fn_bad
  | k + 1 => by
    exact fn_ok (fb := b_draw g.ko k (fun _ _ => .bad)) (nn := 3) T.draw.fn sc_draw rfl rfl fun cdv A outer s H E hr => by
      have hu := hr.units
      exact (ds_cons (ds_if (dt_cmp od_gt (de_ix (xd_ix rfl) (de_var 0) de_int) de_int (nomark _))
      (ds_cons (ds_set (i := 2) sc_draw.nd rfl (by first | exact Or.inl rfl | exact Or.inr rfl) (de_op (od_mod) (de_ix (xd_ix rfl) (de_var 0) de_int) (de_var 1)))
    (ds_cons (ds_asg (de_op (od_fdiv) (de_ix (xd_ix rfl) (de_var 0) de_int) (de_var 1)) (dg_ix (fun _ => trivial) (de_var 0) de_int sd_set))
    (ds_one (ds_ret (de_var 2)))))
      ds_nil)
    (ds_cons (ds_asg (de_op (od_mod) (de_op (od_add rfl) (de_op (od_mul) (de_ix (xd_ix rfl) (de_var 0) de_int) de_int) de_int) de_int) (dg_ix (fun _ => trivial) (de_var 0) de_int sd_set))
    (ds_one (ds_ret (de_op (od_mod) (de_op (od_fdiv) (de_op (od_mod) (de_op (od_mul) (de_ix (xd_ix rfl) (de_var 0) de_int) (de_ix (xd_ix rfl) (de_var 0) de_int)) de_int) de_int) (de_var 1))))))
theorem ok_thing (T : Tx g.K mg) : ∀ k, FnOk P w g.K mg base CX0 k T.thing.f T.thing.fd ["_law_pool_here", "_law_depth"] (spD g 2 (f_thing g.ko k))
  | 0 => fn_bad
  | k + 1 => by
    have ih := ok_thing T k
    exact fn_ok (fb := b_thing g.ko k (f_thing g.ko k)) (nn := 3) T.thing.fn sc_thing rfl rfl fun cdv A outer s H E hr => by
      have hu := hr.units
      exact (ds_cons (ds_if (PW.pt (dw_or (dt_cmp (od_eq rfl hu) (de_var 1) de_int (nomark _)) (dw_or1 (dt_cmp (od_eq rfl hu) (de_call (ok_draw T k) hr rfl T.draw.mgx T.draw.fn.kp T.draw.bn (da_cons (de_var 0) (da_cons de_int da_nil))) de_int (nomark _)))))
      (ds_one (ds_ret (de_ix (xd_ix rfl) (de_lst (da_cons de_int (da_cons de_int (da_cons de_int (da_cons (de_un ud_neg de_int) (da_cons de_str (da_cons de_str (da_cons de_str (da_cons de_non (da_cons de_bl (da_cons de_bl (da_cons (de_op (od_pow) de_int de_int) (da_cons (de_tup da_nil) da_nil))))))))))))) (de_call (ok_draw T k) hr rfl T.draw.mgx T.draw.fn.kp T.draw.bn (da_cons (de_var 0) (da_cons de_int da_nil))))))
      ds_nil)
    (ds_one (ds_ret (de_callTy (cd_tuple rfl) rfl T.m_tuple bt_tuple (da_cons (de_lc (own := [("_law_turn", 2)]) rfl sc_thing.nd rfl (di_rng1 rfl T.m_range (da_cons (de_call (ok_draw T k) hr rfl T.draw.mgx T.draw.fn.kp T.draw.bn (da_cons (de_var 0) (da_cons de_int da_nil))) da_nil)) (blkOk_by (N := N_thing) (sc := defScope s_thing) (by decide +kernel)) (fun _ _ _ _ _ => (dg_name (i := 2) sc_thing.nd rfl (by first | exact Or.inl rfl | exact Or.inr rfl) (wp_nm (by decide)))) (fun _ _ _ _ _ => dts_nil) (fun _ _ _ _ _ => (de_call ih hr rfl T.thing.mgx T.thing.fn.kp T.thing.bn (da_cons (de_var 0) (da_cons (de_op (od_sub) (de_var 1) de_int) da_nil))))) da_nil)))))
theorem ok_shown (T : Tx g.K mg) : ∀ k, FnOk P w g.K mg base CX0 k T.shown.f T.shown.fd ["_law_thing_here"] (spD g 1 (f_shown g.ko k))
  | 0 => fn_bad
  | k + 1 => by
    have ih := ok_shown T k
    exact fn_ok (fb := b_shown g.ko k (f_shown g.ko k)) (nn := 2) T.shown.fn sc_shown rfl rfl fun cdv A outer s H E hr => by
      have hu := hr.units
      exact (ds_cons (ds_if (dt_tru rfl (de_isi .tuple rfl rfl T.m_isinstance rfl T.m_tuple bt_tuple (de_var 0)))
      (ds_one (ds_ret (de_op (od_add rfl) (de_lst (da_cons de_str da_nil)) (de_lc (own := [("_law_one", 1)]) rfl sc_shown.nd rfl (di_any rfl (de_var 0)) (blkOk_by (N := N_shown) (sc := defScope s_shown) (by decide +kernel)) (fun _ _ _ _ _ => (dg_name (i := 1) sc_shown.nd rfl (by first | exact Or.inl rfl | exact Or.inr rfl) (wp_nm (by decide)))) (fun _ _ _ _ _ => dts_nil) (fun _ _ _ _ _ => (de_call ih hr rfl T.shown.mgx T.shown.fn.kp T.shown.bn (da_cons (de_var 1) da_nil)))))))
      ds_nil)
    (ds_one (ds_ret (de_callB (cd_repr) rfl T.m_repr bt_repr (da_cons (de_var 0) da_nil)))))
theorem ok_bent (T : Tx g.K mg) : ∀ k, FnOk P w g.K mg base CX0 k T.bent.f T.bent.fd ["_law_pool_here", "_law_thing_here"] (spD g 2 (f_bent g.ko k))
  | 0 => fn_bad
  | k + 1 => by
    have ih := ok_bent T k
    exact fn_ok (fb := b_bent g.ko k (f_bent g.ko k)) (nn := 3) T.bent.fn sc_bent rfl rfl fun cdv A outer s H E hr => by
      have hu := hr.units
      exact (ds_cons (ds_if (PW.pt (dw_or (dt_not (dt_tru rfl (de_isi .tuple rfl rfl T.m_isinstance rfl T.m_tuple bt_tuple (de_var 1)))) (dw_or1 (dt_cmp (od_eq rfl hu) (de_var 1) (de_tup da_nil) (nomark _)))))
      (ds_one (ds_ret (de_if (dt_tru rfl (de_isi .bool rfl rfl T.m_isinstance rfl T.m_bool bt_bool (de_var 1))) (de_boolGet (pv 1) (pv 1) ⟨rfl, rfl, rfl, rfl⟩) (de_call (ok_thing T k) hr rfl T.thing.mgx T.thing.fn.kp T.thing.bn (da_cons (de_var 0) (da_cons de_int da_nil))))))
      ds_nil)
    (ds_cons (ds_set (i := 2) sc_bent.nd rfl (by first | exact Or.inl rfl | exact Or.inr rfl) (de_call (ok_draw T k) hr rfl T.draw.mgx T.draw.fn.kp T.draw.bn (da_cons (de_var 0) (da_cons (de_callB (cd_len rfl) rfl T.m_len bt_len (da_cons (de_var 1) da_nil)) da_nil))))
    (ds_one (ds_ret (de_op (od_add rfl) (de_op (od_add rfl) (de_sl rfl (de_var 1) dp_none (dp_some (de_var 2))) (de_tup (da_cons (de_call ih hr rfl T.bent.mgx T.bent.fn.kp T.bent.bn (da_cons (de_var 0) (da_cons (de_ix (xd_ix rfl) (de_var 1) (de_var 2)) da_nil))) da_nil))) (de_sl rfl (de_var 1) (dp_some (de_op (od_add rfl) (de_var 2) de_int)) dp_none))))))
theorem ok_law (T : Tx g.K mg) : ∀ k, FnOk P w g.K mg base CX0 k T.law.f T.law.fd ["_law_script"] (spD g 1 (f_law g.ko k))
  | 0 => fn_bad
  | k + 1 => by
    exact fn_ok (fb := b_law g.ko k (fun _ _ => .bad)) (nn := 8) T.law.fn sc_law rfl rfl fun cdv A outer s H E hr => by
      have hu := hr.units
      exact (ds_cons (ds_for PassesOwn.never rfl (di_any rfl (de_lst (da_cons (de_lst da_nil) (da_cons de_dict0 (da_cons (de_lst (da_cons de_int da_nil)) (da_cons (de_tup (da_cons de_int (da_cons (de_lst (da_cons de_int da_nil)) da_nil))) da_nil)))))) (dg_name (i := 1) sc_law.nd rfl (by first | exact Or.inl rfl | exact Or.inr rfl) (fun _ _ => trivial))
      (ds_one (ds_if (PW.pt (dw_or (dt_cmp od_isnot (de_call (ok_are_equal T k) hr rfl T.are_equal.mgx T.are_equal.fn.kp T.are_equal.bn (da_cons (de_var 1) (da_cons (de_var 1) da_nil))) de_bl (nomark _)) (dw_or1 (dt_cmp od_isnot (de_call (ok_are_equal T k) hr rfl T.are_equal.mgx T.are_equal.fn.kp T.are_equal.bn (da_cons (de_tup (da_cons (de_var 1) da_nil)) (da_cons (de_tup (da_cons (de_var 1) da_nil)) da_nil))) de_bl (nomark _)))))
      (ds_one (ds_ret de_bl))
      ds_nil)))
    (ds_cons (ds_for PassesOwn.never rfl (di_rng1 rfl T.m_range (da_cons (de_callB (cd_max2 rfl) rfl T.m_max bt_max (da_cons de_int (da_cons (de_callB (cd_min2 rfl) rfl T.m_min bt_min (da_cons (de_callB (cd_len rfl) rfl T.m_len bt_len (da_cons (de_var 0) da_nil)) (da_cons de_int da_nil))) da_nil))) da_nil)) (dg_name (i := 2) sc_law.nd rfl (by first | exact Or.inl rfl | exact Or.inr rfl) (fun _ _ => trivial))
      (ds_cons (ds_set (i := 3) sc_law.nd rfl (by first | exact Or.inl rfl | exact Or.inr rfl) (de_call (ok_pool T k) hr rfl T.pool.mgx T.pool.fn.kp T.pool.bn (da_cons (de_var 0) (da_cons (de_var 2) da_nil))))
    (ds_one (ds_for PassesOwn.never rfl (di_rng1 rfl T.m_range (da_cons de_int da_nil)) (dg_name (i := 4) sc_law.nd rfl (by first | exact Or.inl rfl | exact Or.inr rfl) (fun _ _ => trivial))
      (ds_cons (ds_set (i := 5) sc_law.nd rfl (by first | exact Or.inl rfl | exact Or.inr rfl) (de_call (ok_thing T k) hr rfl T.thing.mgx T.thing.fn.kp T.thing.bn (da_cons (de_var 3) (da_cons de_int da_nil))))
    (ds_one (ds_for PassesOwn.never rfl (di_any rfl (de_lst (da_cons (de_var 5) (da_cons (de_call (ok_bent T k) hr rfl T.bent.mgx T.bent.fn.kp T.bent.bn (da_cons (de_var 3) (da_cons (de_var 5) da_nil))) (da_cons (de_call (ok_thing T k) hr rfl T.thing.mgx T.thing.fn.kp T.thing.bn (da_cons (de_var 3) (da_cons de_int da_nil))) (da_cons (de_call (ok_bent T k) hr rfl T.bent.mgx T.bent.fn.kp T.bent.bn (da_cons (de_var 3) (da_cons (de_var 5) da_nil))) da_nil)))))) (dg_name (i := 6) sc_law.nd rfl (by first | exact Or.inl rfl | exact Or.inr rfl) (fun _ _ => trivial))
      (ds_cons (ds_set (i := 7) sc_law.nd rfl (by first | exact Or.inl rfl | exact Or.inr rfl) (de_cmp (od_eq rfl hu) (de_call (ok_shown T k) hr rfl T.shown.mgx T.shown.fn.kp T.shown.bn (da_cons (de_var 5) da_nil)) (de_call (ok_shown T k) hr rfl T.shown.mgx T.shown.fn.kp T.shown.bn (da_cons (de_var 6) da_nil)) (nomark _)))
    (ds_cons (ds_if (dt_cmp (od_ne rfl hu) (de_lst (da_cons (de_call (ok_are_equal T k) hr rfl T.are_equal.mgx T.are_equal.fn.kp T.are_equal.bn (da_cons (de_var 5) (da_cons (de_var 6) da_nil))) (da_cons (de_call (ok_are_equal T k) hr rfl T.are_equal.mgx T.are_equal.fn.kp T.are_equal.bn (da_cons (de_var 6) (da_cons (de_var 5) da_nil))) da_nil))) (de_op (od_mul) (de_lst (da_cons (de_var 7) da_nil)) de_int) (nomark _))
      (ds_one (ds_ret de_bl))
      ds_nil)
    (ds_one (ds_if (PW.pt (dw_and (dt_cmp od_isnot (de_call (ok_are_equal T k) hr rfl T.are_equal.mgx T.are_equal.fn.kp T.are_equal.bn (da_cons (de_var 5) (da_cons (de_var 6) da_nil))) de_bl (nomark _)) (dw_and1 (dt_cmp od_isnot (de_call (ok_are_equal T k) hr rfl T.are_equal.mgx T.are_equal.fn.kp T.are_equal.bn (da_cons (de_var 5) (da_cons (de_var 6) da_nil))) de_bl (nomark _)))))
      (ds_one (ds_ret de_bl))
      ds_nil)))))))))))
    (ds_one (ds_ret de_bl))))
end
end K02

namespace K02
open PySem PySem.Spec PyProof.Rows L2 DL
def all_T {K : PySem.W.Frag} {h : Heap} {mg : Str → Option Value} (X : K.In h) (G : h.Ns mainGlobals mg)
    {f0 : Addr} {od0 an0 : Option Addr} {sl0 : Array (Option Value)} {oc0 kV0 dc0 pm0 cd0 ct0 : Value}
    {f1 : Addr} {od1 an1 : Option Addr} {sl1 : Array (Option Value)} {oc1 kV1 dc1 pm1 cd1 ct1 : Value}
    {f2 : Addr} {od2 an2 : Option Addr} {sl2 : Array (Option Value)} {oc2 kV2 dc2 pm2 cd2 ct2 : Value}
    {f3 : Addr} {od3 an3 : Option Addr} {sl3 : Array (Option Value)} {oc3 kV3 dc3 pm3 cd3 ct3 : Value}
    {f4 : Addr} {od4 an4 : Option Addr} {sl4 : Array (Option Value)} {oc4 kV4 dc4 pm4 cd4 ct4 : Value}
    {f5 : Addr} {od5 an5 : Option Addr} {sl5 : Array (Option Value)} {oc5 kV5 dc5 pm5 cd5 ct5 : Value}
    {f6 : Addr} {od6 an6 : Option Addr} {sl6 : Array (Option Value)} {oc6 kV6 dc6 pm6 cd6 ct6 : Value}
    (a0 : PySem.W.nsIn K mainGlobals "are_equal" = some (some (.ref f0))) (l0 : K.lookup f0 = some ⟨oc0, od0, .func (PySem.W.fnOf "are_equal" "are_equal" (defArgs s_are_equal) (defBody s_are_equal) (defScope s_are_equal) .none kV0 dc0 pm0 an0 cd0 ct0), sl0⟩) (c0 : PySem.W.codeIn K cd0 "are_equal" = true) (k0 : PySem.W.keepIn K (.ref f0) = true)
    (a1 : PySem.W.nsIn K mainGlobals "_law_pool" = some (some (.ref f1))) (l1 : K.lookup f1 = some ⟨oc1, od1, .func (PySem.W.fnOf "_law_pool" "_law_pool" (defArgs s_pool) (defBody s_pool) (defScope s_pool) .none kV1 dc1 pm1 an1 cd1 ct1), sl1⟩) (c1 : PySem.W.codeIn K cd1 "_law_pool" = true) (k1 : PySem.W.keepIn K (.ref f1) = true)
    (a2 : PySem.W.nsIn K mainGlobals "_law_draw" = some (some (.ref f2))) (l2 : K.lookup f2 = some ⟨oc2, od2, .func (PySem.W.fnOf "_law_draw" "_law_draw" (defArgs s_draw) (defBody s_draw) (defScope s_draw) .none kV2 dc2 pm2 an2 cd2 ct2), sl2⟩) (c2 : PySem.W.codeIn K cd2 "_law_draw" = true) (k2 : PySem.W.keepIn K (.ref f2) = true)
    (a3 : PySem.W.nsIn K mainGlobals "_law_thing" = some (some (.ref f3))) (l3 : K.lookup f3 = some ⟨oc3, od3, .func (PySem.W.fnOf "_law_thing" "_law_thing" (defArgs s_thing) (defBody s_thing) (defScope s_thing) .none kV3 dc3 pm3 an3 cd3 ct3), sl3⟩) (c3 : PySem.W.codeIn K cd3 "_law_thing" = true) (k3 : PySem.W.keepIn K (.ref f3) = true)
    (a4 : PySem.W.nsIn K mainGlobals "_law_shown" = some (some (.ref f4))) (l4 : K.lookup f4 = some ⟨oc4, od4, .func (PySem.W.fnOf "_law_shown" "_law_shown" (defArgs s_shown) (defBody s_shown) (defScope s_shown) .none kV4 dc4 pm4 an4 cd4 ct4), sl4⟩) (c4 : PySem.W.codeIn K cd4 "_law_shown" = true) (k4 : PySem.W.keepIn K (.ref f4) = true)
    (a5 : PySem.W.nsIn K mainGlobals "_law_bent" = some (some (.ref f5))) (l5 : K.lookup f5 = some ⟨oc5, od5, .func (PySem.W.fnOf "_law_bent" "_law_bent" (defArgs s_bent) (defBody s_bent) (defScope s_bent) .none kV5 dc5 pm5 an5 cd5 ct5), sl5⟩) (c5 : PySem.W.codeIn K cd5 "_law_bent" = true) (k5 : PySem.W.keepIn K (.ref f5) = true)
    (a6 : PySem.W.nsIn K mainGlobals "law" = some (some (.ref f6))) (l6 : K.lookup f6 = some ⟨oc6, od6, .func (PySem.W.fnOf "law" "law" (defArgs s_law) (defBody s_law) (defScope s_law) .none kV6 dc6 pm6 an6 cd6 ct6), sl6⟩) (c6 : PySem.W.codeIn K cd6 "law" = true) (k6 : PySem.W.keepIn K (.ref f6) = true)
    (z0 : PySem.W.nsIn K mainGlobals "isinstance" = some none)
    (z1 : PySem.W.nsIn K mainGlobals "int" = some none)
    (z2 : PySem.W.nsIn K mainGlobals "str" = some none)
    (z3 : PySem.W.nsIn K mainGlobals "bool" = some none)
    (z4 : PySem.W.nsIn K mainGlobals "tuple" = some none)
    (z5 : PySem.W.nsIn K mainGlobals "len" = some none)
    (z6 : PySem.W.nsIn K mainGlobals "zip" = some none)
    (z7 : PySem.W.nsIn K mainGlobals "all" = some none)
    (z8 : PySem.W.nsIn K mainGlobals "abs" = some none)
    (z9 : PySem.W.nsIn K mainGlobals "sum" = some none)
    (z10 : PySem.W.nsIn K mainGlobals "range" = some none)
    (z11 : PySem.W.nsIn K mainGlobals "repr" = some none)
    (z12 : PySem.W.nsIn K mainGlobals "min" = some none)
    (z13 : PySem.W.nsIn K mainGlobals "max" = some none)
    : Tx K mg := ⟨FT.of X G (fun _ _ _ _ _ _ us hl => match us, hl with | [_, _], _ => rfl) a0 l0 c0 k0,
      FT.of X G (fun _ _ _ _ _ _ us hl => match us, hl with | [_, _], _ => rfl) a1 l1 c1 k1,
      FT.of X G (fun _ _ _ _ _ _ us hl => match us, hl with | [_, _], _ => rfl) a2 l2 c2 k2,
      FT.of X G (fun _ _ _ _ _ _ us hl => match us, hl with | [_, _], _ => rfl) a3 l3 c3 k3,
      FT.of X G (fun _ _ _ _ _ _ us hl => match us, hl with | [_], _ => rfl) a4 l4 c4 k4,
      FT.of X G (fun _ _ _ _ _ _ us hl => match us, hl with | [_, _], _ => rfl) a5 l5 c5 k5,
      FT.of X G (fun _ _ _ _ _ _ us hl => match us, hl with | [_], _ => rfl) a6 l6 c6 k6,
      PySem.W.mg_none_of X G z0,
      PySem.W.mg_none_of X G z1,
      PySem.W.mg_none_of X G z2,
      PySem.W.mg_none_of X G z3,
      PySem.W.mg_none_of X G z4,
      PySem.W.mg_none_of X G z5,
      PySem.W.mg_none_of X G z6,
      PySem.W.mg_none_of X G z7,
      PySem.W.mg_none_of X G z8,
      PySem.W.mg_none_of X G z9,
      PySem.W.mg_none_of X G z10,
      PySem.W.mg_none_of X G z11,
      PySem.W.mg_none_of X G z12,
      PySem.W.mg_none_of X G z13⟩
theorem all_mk {l : PySem.W.OpenLaw} {w : World} {K : PySem.W.Frag} {h : Heap} {mg : Str → Option Value} {fa : Addr} (X : K.In h) (G : h.Ns mainGlobals mg) (hfa : mg "law" = some (.ref fa))
    {f0 : Addr} {od0 an0 : Option Addr} {sl0 : Array (Option Value)} {oc0 kV0 dc0 pm0 cd0 ct0 : Value}
    {f1 : Addr} {od1 an1 : Option Addr} {sl1 : Array (Option Value)} {oc1 kV1 dc1 pm1 cd1 ct1 : Value}
    {f2 : Addr} {od2 an2 : Option Addr} {sl2 : Array (Option Value)} {oc2 kV2 dc2 pm2 cd2 ct2 : Value}
    {f3 : Addr} {od3 an3 : Option Addr} {sl3 : Array (Option Value)} {oc3 kV3 dc3 pm3 cd3 ct3 : Value}
    {f4 : Addr} {od4 an4 : Option Addr} {sl4 : Array (Option Value)} {oc4 kV4 dc4 pm4 cd4 ct4 : Value}
    {f5 : Addr} {od5 an5 : Option Addr} {sl5 : Array (Option Value)} {oc5 kV5 dc5 pm5 cd5 ct5 : Value}
    {f6 : Addr} {od6 an6 : Option Addr} {sl6 : Array (Option Value)} {oc6 kV6 dc6 pm6 cd6 ct6 : Value}
    (a0 : PySem.W.nsIn K mainGlobals "are_equal" = some (some (.ref f0))) (l0 : K.lookup f0 = some ⟨oc0, od0, .func (PySem.W.fnOf "are_equal" "are_equal" (defArgs s_are_equal) (defBody s_are_equal) (defScope s_are_equal) .none kV0 dc0 pm0 an0 cd0 ct0), sl0⟩) (c0 : PySem.W.codeIn K cd0 "are_equal" = true) (k0 : PySem.W.keepIn K (.ref f0) = true)
    (a1 : PySem.W.nsIn K mainGlobals "_law_pool" = some (some (.ref f1))) (l1 : K.lookup f1 = some ⟨oc1, od1, .func (PySem.W.fnOf "_law_pool" "_law_pool" (defArgs s_pool) (defBody s_pool) (defScope s_pool) .none kV1 dc1 pm1 an1 cd1 ct1), sl1⟩) (c1 : PySem.W.codeIn K cd1 "_law_pool" = true) (k1 : PySem.W.keepIn K (.ref f1) = true)
    (a2 : PySem.W.nsIn K mainGlobals "_law_draw" = some (some (.ref f2))) (l2 : K.lookup f2 = some ⟨oc2, od2, .func (PySem.W.fnOf "_law_draw" "_law_draw" (defArgs s_draw) (defBody s_draw) (defScope s_draw) .none kV2 dc2 pm2 an2 cd2 ct2), sl2⟩) (c2 : PySem.W.codeIn K cd2 "_law_draw" = true) (k2 : PySem.W.keepIn K (.ref f2) = true)
    (a3 : PySem.W.nsIn K mainGlobals "_law_thing" = some (some (.ref f3))) (l3 : K.lookup f3 = some ⟨oc3, od3, .func (PySem.W.fnOf "_law_thing" "_law_thing" (defArgs s_thing) (defBody s_thing) (defScope s_thing) .none kV3 dc3 pm3 an3 cd3 ct3), sl3⟩) (c3 : PySem.W.codeIn K cd3 "_law_thing" = true) (k3 : PySem.W.keepIn K (.ref f3) = true)
    (a4 : PySem.W.nsIn K mainGlobals "_law_shown" = some (some (.ref f4))) (l4 : K.lookup f4 = some ⟨oc4, od4, .func (PySem.W.fnOf "_law_shown" "_law_shown" (defArgs s_shown) (defBody s_shown) (defScope s_shown) .none kV4 dc4 pm4 an4 cd4 ct4), sl4⟩) (c4 : PySem.W.codeIn K cd4 "_law_shown" = true) (k4 : PySem.W.keepIn K (.ref f4) = true)
    (a5 : PySem.W.nsIn K mainGlobals "_law_bent" = some (some (.ref f5))) (l5 : K.lookup f5 = some ⟨oc5, od5, .func (PySem.W.fnOf "_law_bent" "_law_bent" (defArgs s_bent) (defBody s_bent) (defScope s_bent) .none kV5 dc5 pm5 an5 cd5 ct5), sl5⟩) (c5 : PySem.W.codeIn K cd5 "_law_bent" = true) (k5 : PySem.W.keepIn K (.ref f5) = true)
    (a6 : PySem.W.nsIn K mainGlobals "law" = some (some (.ref f6))) (l6 : K.lookup f6 = some ⟨oc6, od6, .func (PySem.W.fnOf "law" "law" (defArgs s_law) (defBody s_law) (defScope s_law) .none kV6 dc6 pm6 an6 cd6 ct6), sl6⟩) (c6 : PySem.W.codeIn K cd6 "law" = true) (k6 : PySem.W.keepIn K (.ref f6) = true)
    (z0 : PySem.W.nsIn K mainGlobals "isinstance" = some none)
    (z1 : PySem.W.nsIn K mainGlobals "int" = some none)
    (z2 : PySem.W.nsIn K mainGlobals "str" = some none)
    (z3 : PySem.W.nsIn K mainGlobals "bool" = some none)
    (z4 : PySem.W.nsIn K mainGlobals "tuple" = some none)
    (z5 : PySem.W.nsIn K mainGlobals "len" = some none)
    (z6 : PySem.W.nsIn K mainGlobals "zip" = some none)
    (z7 : PySem.W.nsIn K mainGlobals "all" = some none)
    (z8 : PySem.W.nsIn K mainGlobals "abs" = some none)
    (z9 : PySem.W.nsIn K mainGlobals "sum" = some none)
    (z10 : PySem.W.nsIn K mainGlobals "range" = some none)
    (z11 : PySem.W.nsIn K mainGlobals "repr" = some none)
    (z12 : PySem.W.nsIn K mainGlobals "min" = some none)
    (z13 : PySem.W.nsIn K mainGlobals "max" = some none)
    : ∃ fd : FuncData, (∀ (s : Shared) (v : Value), BindsTo s fd ⟨[v], []⟩ [("_law_script", v)]) ∧ ∀ base : Heap, K.In base → base.Ns mainGlobals mg → FnOk l.prog w K mg base CX0 20 fa fd ["_law_script"] (spLaw (fun ko => f_law ko 20) K) := by
  have e := hfa.symm.trans (PySem.W.mg_of X G a6)
  cases e
  refine ⟨PySem.W.fnOf "law" "law" (defArgs s_law) (defBody s_law) (defScope s_law) .none kV6 dc6 pm6 an6 cd6 ct6, fun s v => .of_eq rfl, fun base _ _ => fn_ex fun q => ?_⟩
  exact ok_law (g := gS K q.1 q.2) (all_T X G a0 l0 c0 k0 a1 l1 c1 k1 a2 l2 c2 k2 a3 l3 c3 k3 a4 l4 c4 k4 a5 l5 c5 k5 a6 l6 c6 k6 z0 z1 z2 z3 z4 z5 z6 z7 z8 z9 z10 z11 z12 z13) 20
end K02
open PySem PySem.W PyProof.Rows
set_option maxHeartbeats 0 in
theorem PySem.Challenge.cw_mendedruns_k02_equal_values_holds : PySem.Challenge.rw_mendedruns_k02_equal_values.Holds := by
  w_on; o_law; k_head; (case hw => w_witness2)
  k_fill
  refine L2.walk_ofB (l := PySem.Challenge.rw_mendedruns_k02_equal_values) (n := 63) (k := 20) (x := "_law_script") (CX := fun _ => L2.CX0) (sp := fun w => DL.spLaw (fun ko => K02.f_law ko 20) _) rfl (by decide) rfl ⟨rfl, by decide, by decide⟩ (fun w h Y => PySem.W.kIn_of Y) ?F (fun w H a ns hl hb hO hS => DL.law_sp K02.law_ok _ H a ns hl hb hO hS _) (fun _ _ _ _ _ h => h)
  case F =>
    intro w mg fa h KX G hmg
    refine' K02.all_mk KX G hmg ?a0 ?l0 ?c0 ?k0 ?a1 ?l1 ?c1 ?k1 ?a2 ?l2 ?c2 ?k2 ?a3 ?l3 ?c3 ?k3 ?a4 ?l4 ?c4 ?k4 ?a5 ?l5 ?c5 ?k5 ?a6 ?l6 ?c6 ?k6 ?z0 ?z1 ?z2 ?z3 ?z4 ?z5 ?z6 ?z7 ?z8 ?z9 ?z10 ?z11 ?z12 ?z13
    (case a0 => k_is); (case l0 => k_is); (case c0 => k_is); (case k0 => k_is); (case a1 => k_is); (case l1 => k_is); (case c1 => k_is); (case k1 => k_is); (case a2 => k_is); (case l2 => k_is); (case c2 => k_is); (case k2 => k_is); (case a3 => k_is); (case l3 => k_is); (case c3 => k_is); (case k3 => k_is); (case a4 => k_is); (case l4 => k_is); (case c4 => k_is); (case k4 => k_is); (case a5 => k_is); (case l5 => k_is); (case c5 => k_is); (case k5 => k_is); (case a6 => k_is); (case l6 => k_is); (case c6 => k_is); (case k6 => k_is); (case z0 => k_is); (case z1 => k_is); (case z2 => k_is); (case z3 => k_is); (case z4 => k_is); (case z5 => k_is); (case z6 => k_is); (case z7 => k_is); (case z8 => k_is); (case z9 => k_is); (case z10 => k_is); (case z11 => k_is); (case z12 => k_is); (case z13 => k_is)
