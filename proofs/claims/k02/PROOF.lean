import PyProof.Rows.All
import Wide.All
import OpenK.AllK
import Wide.FinOn
import HandS.ForMost
import HandS.ForExc
import HandS.Flow
import HandS.IsInst
import HandS.Conv
import HandS.Zip
import HandS.Wide
import HandS.TupMul
import HandS.TupAny
import HandS.Deep
import HandS.Style
import HandS.Ends
import HandS.Words
import Lean
import KE.KStateDown
import HandS.Defaults
import HandS.Head0
import HandS.Head1
import HandS.Head2
import HandS.HeadEnd
import HandS.HeadHook1
import HandS.HeadHook2
import PySem.Challenge.RW_everwithin_k02_forms_and_names_of_any_va
set_option Elab.async false
set_option linter.all false
set_option maxRecDepth 100000
set_option maxHeartbeats 4000000
/-! Px1: data by value, mutable cells, and how they stand in the abstract heap. -/
namespace Px
open PySem PySem.Spec PyProof.Rows L2

inductive D where
  | non | bl (b : Bool) | int (i : Int) | str (x : Str)
  | tup (xs : List D) | lst (xs : List D) | dct (ks vs : List D) | obj (c : Str) (ns : List Str) (vs : List D)
  | cell (n : Nat) | ty (n : String)
  | lck (xs : List D)
inductive MO where
  | lst (xs : List D) | dct (ks vs : List D) | ins (c : Str) (ns : List Str) (vs : List D)
abbrev Store := List MO

/-- the written part, and where the own classes stand -/
structure Kc where
  K : PySem.W.Frag
  cm : Str → Option Addr
/-- what is frozen; where the cells stand -/
structure Rp where
  G : Hp
  m : List Addr

def kD : Key → D
  | .inl i => .int i
  | .inr x => .str x

mutual
def RV (C : Kc) (S : Rp) : D → V → Prop
  | .non, v => v = .non
  | .bl b, v => v = .bl b
  | .int i, v => v = .int i
  | .str x, v => v = .str x
  | .tup ds, v => ∃ a vs, v = .ref a ∧ SqT C.K S.G a vs ∧ RVs C S ds vs
  | .lst ds, v => ∃ a vs, v = .ref a ∧ S.G a = some (.lst vs) ∧ RVs C S ds vs
  | .lck ds, v => ∃ a vs, v = .ref a ∧ SqL C.K S.G a vs ∧ RVs C S ds vs
  | .dct ks us, v => ∃ (a : Addr) (kvs : List (Key × V)), v = .ref a ∧ S.G a = some (.dK kvs) ∧ ks = kvs.map (fun p => kD p.1) ∧ RVs C S us (kvs.map (·.2))
  | .obj c ns us, v => ∃ (a A dx : Addr) (fs : List (Str × V)), v = .ref a ∧ C.cm c = some A ∧ S.G a = some (.ins A dx fs) ∧ ns = fs.map (·.1) ∧ RVs C S us (fs.map (·.2))
  | .cell n, v => ∃ a, v = .ref a ∧ S.m[n]? = some a
  | .ty n, v => v = .ty n
def RVs (C : Kc) (S : Rp) : List D → List V → Prop
  | [], vs => vs = []
  | d :: ds, vs => ∃ v r, vs = v :: r ∧ RV C S d v ∧ RVs C S ds r
end

/-- a mutable object -/
def RO (C : Kc) (S : Rp) : MO → HO → Prop
  | .lst ds, o => ∃ vs, o = .lst vs ∧ RVs C S ds vs
  | .dct ks us, o => ∃ kvs : List (Key × V), o = .dK kvs ∧ ks = kvs.map (fun p => kD p.1) ∧ RVs C S us (kvs.map (·.2))
  | .ins c ns us, o => ∃ (A dx : Addr) (fs : List (Str × V)), o = .ins A dx fs ∧ C.cm c = some A ∧ ns = fs.map (·.1) ∧ RVs C S us (fs.map (·.2))

structure Rep (C : Kc) (S : Rp) (st : Store) (H : Hp) : Prop where
  fz : ∀ a o, S.G a = some o → H a = some o
  len : S.m.length = st.length
  nd : S.m.Nodup
  at_ : ∀ (n : Nat) (mo : MO), st[n]? = some mo → ∃ a o, S.m[n]? = some a ∧ S.G a = none ∧ H a = some o ∧ RO C S mo o

structure Ext (S S' : Rp) : Prop where
  g : ∀ a o, S.G a = some o → S'.G a = some o
  m : ∃ l, S'.m = S.m ++ l
theorem Ext.refl (S : Rp) : Ext S S := ⟨fun _ _ h => h, [], by simp⟩
theorem Ext.trans {S S1 S2 : Rp} (a : Ext S S1) (b : Ext S1 S2) : Ext S S2 :=
  ⟨fun x o h => b.g x o (a.g x o h), by
    obtain ⟨l, e⟩ := a.m
    obtain ⟨l', e'⟩ := b.m
    exact ⟨l ++ l', by rw [e', e, List.append_assoc]⟩⟩
theorem Ext.at_ {S S' : Rp} (e : Ext S S') {n : Nat} {a : Addr} (h : S.m[n]? = some a) : S'.m[n]? = some a := by
  obtain ⟨l, q⟩ := e.m
  rw [q, List.getElem?_append_left (List.getElem?_eq_some_iff.mp h).1]
  exact h

/-! only the frozen part and the cells' places matter -/
structure Ext' (S S' : Rp) : Prop where
  g : ∀ a o, S.G a = some o → S'.G a = some o
  m : ∀ (n : Nat) (a : Addr), S.m[n]? = some a → S'.m[n]? = some a
theorem Ext.w {S S' : Rp} (e : Ext S S') : Ext' S S' := ⟨e.g, fun _ _ h => e.at_ h⟩
section
variable {C : Kc} {S S' : Rp}
theorem rd_mono {G G' : Hp} (g : ∀ a o, G a = some o → G' a = some o) {a : Addr} {u : HO} (h : Rd G a u) : Rd G' a u := by
  rcases h with h | ⟨o, h⟩
  · exact .inl (g _ _ h)
  · exact .inr ⟨o, g _ _ h⟩
theorem sqL_mono {K : PySem.W.Frag} {G G' : Hp} (g : ∀ a o, G a = some o → G' a = some o) {a : Addr} {vs : List V} (h : SqL K G a vs) : SqL K G' a vs := by
  rcases h with h | h
  · exact .inl (rd_mono g h)
  · exact .inr h
theorem sqT_mono {K : PySem.W.Frag} {G G' : Hp} (g : ∀ a o, G a = some o → G' a = some o) {a : Addr} {vs : List V} (h : SqT K G a vs) : SqT K G' a vs := by
  rcases h with h | h
  · exact .inl (rd_mono g h)
  · exact .inr h
mutual
theorem RV.mono' (e : Ext' S S') : ∀ {d : D} {v : V}, RV C S d v → RV C S' d v
  | .non, v, h => by rw [RV] at h ⊢; exact h
  | .bl _, v, h => by rw [RV] at h ⊢; exact h
  | .int _, v, h => by rw [RV] at h ⊢; exact h
  | .str _, v, h => by rw [RV] at h ⊢; exact h
  | .ty _, v, h => by rw [RV] at h ⊢; exact h
  | .cell n, v, h => by
    rw [RV] at h ⊢
    obtain ⟨a, e1, e2⟩ := h
    exact ⟨a, e1, e.m _ _ e2⟩
  | .tup ds, v, h => by
    rw [RV] at h ⊢
    obtain ⟨a, vs, e1, e2, e3⟩ := h
    exact ⟨a, vs, e1, sqT_mono e.g e2, RVs.mono' e e3⟩
  | .lst ds, v, h => by
    rw [RV] at h ⊢
    obtain ⟨a, vs, e1, e2, e3⟩ := h
    exact ⟨a, vs, e1, e.g _ _ e2, RVs.mono' e e3⟩
  | .lck ds, v, h => by
    rw [RV] at h ⊢
    obtain ⟨a, vs, e1, e2, e3⟩ := h
    exact ⟨a, vs, e1, sqL_mono e.g e2, RVs.mono' e e3⟩
  | .dct ks us, v, h => by
    rw [RV] at h ⊢
    obtain ⟨a, kvs, e1, e2, e3, e4⟩ := h
    exact ⟨a, kvs, e1, e.g _ _ e2, e3, RVs.mono' e e4⟩
  | .obj c ns us, v, h => by
    rw [RV] at h ⊢
    obtain ⟨a, A, dx, fs, e1, e2, e3, e4, e5⟩ := h
    exact ⟨a, A, dx, fs, e1, e2, e.g _ _ e3, e4, RVs.mono' e e5⟩
theorem RVs.mono' (e : Ext' S S') : ∀ {ds : List D} {vs : List V}, RVs C S ds vs → RVs C S' ds vs
  | [], vs, h => by rw [RVs] at h ⊢; exact h
  | d :: ds, vs, h => by
    rw [RVs] at h ⊢
    obtain ⟨v, r, e1, e2, e3⟩ := h
    exact ⟨v, r, e1, RV.mono' e e2, RVs.mono' e e3⟩
end
theorem RV.mono (e : Ext S S') {d : D} {v : V} (h : RV C S d v) : RV C S' d v := h.mono' e.w
theorem RVs.mono (e : Ext S S') {d : List D} {v : List V} (h : RVs C S d v) : RVs C S' d v := h.mono' e.w
theorem RO.mono' (e : Ext' S S') : ∀ {mo : MO} {o : HO}, RO C S mo o → RO C S' mo o
  | .lst _, _, ⟨vs, e1, e2⟩ => ⟨vs, e1, e2.mono' e⟩
  | .dct _ _, _, ⟨kvs, e1, e2, e3⟩ => ⟨kvs, e1, e2, e3.mono' e⟩
  | .ins _ _ _, _, ⟨A, dx, fs, e1, e2, e3, e4⟩ => ⟨A, dx, fs, e1, e2, e3, e4.mono' e⟩
theorem RVs.length : ∀ {ds : List D} {vs : List V}, RVs C S ds vs → ds.length = vs.length
  | [], vs, h => by rw [RVs] at h; subst h; rfl
  | d :: ds, vs, h => by
    rw [RVs] at h
    obtain ⟨v, r, rfl, _, e3⟩ := h
    simp [RVs.length e3]
theorem RVs.get : ∀ {ds : List D} {vs : List V} {i : Nat} {d : D}, RVs C S ds vs → ds[i]? = some d → ∃ v, vs[i]? = some v ∧ RV C S d v
  | [], _, _, _, _, e => by simp at e
  | d :: ds, vs, 0, x, h, e => by
    rw [RVs] at h
    obtain ⟨v, r, rfl, e2, _⟩ := h
    simp at e; subst e
    exact ⟨v, rfl, e2⟩
  | d :: ds, vs, i + 1, x, h, e => by
    rw [RVs] at h
    obtain ⟨v, r, rfl, _, e3⟩ := h
    simp at e
    obtain ⟨w, h1, h2⟩ := RVs.get e3 e
    exact ⟨w, by simpa using h1, h2⟩
theorem RVs.back : ∀ {ds : List D} {vs : List V} {i : Nat} {v : V}, RVs C S ds vs → vs[i]? = some v → ∃ d, ds[i]? = some d ∧ RV C S d v
  | [], vs, i, v, h, e => by rw [RVs] at h; subst h; simp at e
  | d :: ds, vs, 0, x, h, e => by
    rw [RVs] at h
    obtain ⟨v, r, rfl, e2, _⟩ := h
    simp at e; subst e
    exact ⟨d, rfl, e2⟩
  | d :: ds, vs, i + 1, x, h, e => by
    rw [RVs] at h
    obtain ⟨v, r, rfl, _, e3⟩ := h
    simp at e
    obtain ⟨w, h1, h2⟩ := RVs.back e3 e
    exact ⟨w, by simpa using h1, h2⟩
theorem RVs.append : ∀ {ds es : List D} {vs us : List V}, RVs C S ds vs → RVs C S es us → RVs C S (ds ++ es) (vs ++ us)
  | [], es, vs, us, h, k => by rw [RVs] at h; subst h; exact k
  | d :: ds, es, vs, us, h, k => by
    rw [RVs] at h
    obtain ⟨v, r, rfl, e2, e3⟩ := h
    show RVs C S (d :: (ds ++ es)) (v :: (r ++ us))
    rw [RVs]
    exact ⟨v, _, rfl, e2, RVs.append e3 k⟩
theorem RVs.cons {d : D} {v : V} {ds : List D} {vs : List V} (h : RV C S d v) (k : RVs C S ds vs) : RVs C S (d :: ds) (v :: vs) := by
  rw [RVs]; exact ⟨v, vs, rfl, h, k⟩
theorem RVs.nil : RVs C S [] [] := by rw [RVs]
theorem RVs.one {d : D} {v : V} (h : RV C S d v) : RVs C S [d] [v] := .cons h .nil
theorem RVs.take : ∀ {ds : List D} {vs : List V} (n : Nat), RVs C S ds vs → RVs C S (ds.take n) (vs.take n)
  | [], vs, n, h => by rw [RVs] at h; subst h; simp; exact .nil
  | d :: ds, vs, 0, h => by simp; exact .nil
  | d :: ds, vs, n + 1, h => by
    rw [RVs] at h
    obtain ⟨v, r, rfl, e2, e3⟩ := h
    exact .cons e2 (RVs.take n e3)
theorem RVs.drop : ∀ {ds : List D} {vs : List V} (n : Nat), RVs C S ds vs → RVs C S (ds.drop n) (vs.drop n)
  | [], vs, n, h => by rw [RVs] at h; subst h; simp; exact .nil
  | d :: ds, vs, 0, h => by simpa using h
  | d :: ds, vs, n + 1, h => by
    rw [RVs] at h
    obtain ⟨v, r, rfl, e2, e3⟩ := h
    exact RVs.drop n e3
theorem RVs.reverse : ∀ {ds : List D} {vs : List V}, RVs C S ds vs → RVs C S ds.reverse vs.reverse
  | [], vs, h => by rw [RVs] at h; subst h; exact .nil
  | d :: ds, vs, h => by
    rw [RVs] at h
    obtain ⟨v, r, rfl, e2, e3⟩ := h
    rw [List.reverse_cons, List.reverse_cons]
    exact (RVs.reverse e3).append (.one e2)
theorem RVs.set : ∀ {ds : List D} {vs : List V} (i : Nat) {d : D} {v : V}, RVs C S ds vs → RV C S d v → RVs C S (ds.set i d) (vs.set i v)
  | [], vs, i, _, _, h, _ => by rw [RVs] at h; subst h; exact .nil
  | d :: ds, vs, 0, _, _, h, k => by
    rw [RVs] at h
    obtain ⟨v, r, rfl, _, e3⟩ := h
    exact .cons k e3
  | d :: ds, vs, i + 1, _, _, h, k => by
    rw [RVs] at h
    obtain ⟨v, r, rfl, e2, e3⟩ := h
    exact .cons e2 (RVs.set i e3 k)
theorem RVs.replicate {d : D} {v : V} (h : RV C S d v) : ∀ n : Nat, RVs C S (List.replicate n d) (List.replicate n v)
  | 0 => .nil
  | n + 1 => .cons h (RVs.replicate h n)
end

/-! ### allocation, change, freezing -/
section
variable {C : Kc} {S S' : Rp} {st : Store} {H H' : Hp}
/-- the heap grows -/
theorem Rep.same (r : Rep C S st H) (s : Same H H') : Rep C S st H' :=
  ⟨fun a o h => s _ _ (r.fz _ _ h), r.len, r.nd, fun n mo h => by
    obtain ⟨a, o, h1, h2, h3, h4⟩ := r.at_ n mo h
    exact ⟨a, o, h1, h2, s _ _ h3, h4⟩⟩
theorem Rep.free (r : Rep C S st H) {p : Addr} (h : H p = none) : S.G p = none := by
  cases e : S.G p with
  | none => rfl
  | some o => rw [r.fz _ _ e] at h; cases h
theorem Rep.notin (r : Rep C S st H) {p : Addr} (h : H p = none) : p ∉ S.m := fun hm => by
  obtain ⟨n, hn, e⟩ := List.getElem_of_mem hm
  have hn' : n < st.length := by rw [← r.len]; exact hn
  obtain ⟨a, o, h1, _, h3, _⟩ := r.at_ n st[n] (List.getElem?_eq_getElem hn')
  rw [List.getElem?_eq_getElem hn] at h1
  cases h1
  rw [e, h] at h3
  cases h3
def Rp.fz (S : Rp) (p : Addr) (o : HO) : Rp := ⟨upd S.G p o, S.m⟩
def Rp.cl (S : Rp) (p : Addr) : Rp := ⟨S.G, S.m ++ [p]⟩
theorem Ext.fz {S : Rp} {p : Addr} {o : HO} (h : S.G p = none) : Ext S (S.fz p o) :=
  ⟨fun a u e => by
    show upd S.G p o a = some u
    rw [upd_ne (ne_of_none e h)]; exact e, [], by simp [Rp.fz]⟩
theorem Ext.cl {S : Rp} {p : Addr} : Ext S (S.cl p) := ⟨fun _ _ h => h, [p], rfl⟩
/-- a new object that never changes -/
theorem Rep.newF (r : Rep C S st H) {p : Addr} {o : HO} (h : H p = none) : Rep C (S.fz p o) st (upd H p o) := by
  have hG := r.free h
  have hx := (Ext.fz (o := o) hG).w
  refine ⟨fun a u e => ?_, r.len, r.nd, fun n mo e => ?_⟩
  · by_cases q : a = p
    · subst q
      have e' : upd S.G a o a = some u := e
      rw [upd_same] at e' ⊢; exact e'
    · have e' : upd S.G p o a = some u := e
      rw [upd_ne q] at e' ⊢
      exact r.fz _ _ e'
  · obtain ⟨a, u, h1, h2, h3, h4⟩ := r.at_ n mo e
    have ne : a ≠ p := ne_of_none h3 h
    exact ⟨a, u, h1, by show upd S.G p o a = none; rw [upd_ne ne]; exact h2, by rw [upd_ne ne]; exact h3, h4.mono' hx⟩
/-- a new mutable object -/
theorem Rep.newC (r : Rep C S st H) {p : Addr} {o : HO} {mo : MO} (h : H p = none) (k : RO C S mo o) : Rep C (S.cl p) (st ++ [mo]) (upd H p o) := by
  have hx : Ext' S (S.cl p) := Ext.cl.w
  refine ⟨fun a u e => ?_, ?_, ?_, fun n mo' e => ?_⟩
  · rw [upd_ne (ne_of_none e (r.free h))]
    exact r.fz _ _ e
  · show (S.m ++ [p]).length = (st ++ [mo]).length
    simp [r.len]
  · show (S.m ++ [p]).Nodup
    rw [List.nodup_append]
    refine ⟨r.nd, by simp, fun a ha b hb => ?_⟩
    simp at hb; subst hb
    exact fun q => r.notin h (q ▸ ha)
  · by_cases hn : n < st.length
    · rw [List.getElem?_append_left hn] at e
      obtain ⟨a, u, h1, h2, h3, h4⟩ := r.at_ n mo' e
      refine ⟨a, u, hx.m _ _ h1, h2, ?_, h4.mono' hx⟩
      rw [upd_ne (ne_of_none h3 h)]; exact h3
    · have hn' : n = st.length := by
        have := (List.getElem?_eq_some_iff.mp e).1
        simp at this; omega
      subst hn'
      rw [List.getElem?_append_right (Nat.le_refl _)] at e
      simp at e; subst e
      refine ⟨p, o, ?_, r.free h, upd_same, k.mono' hx⟩
      show (S.m ++ [p])[st.length]? = some p
      rw [← r.len]; simp
theorem inj_at {l : List Addr} (nd : l.Nodup) {i j : Nat} {a : Addr} (h1 : l[i]? = some a) (h2 : l[j]? = some a) : i = j := by
  obtain ⟨hi, e1⟩ := List.getElem?_eq_some_iff.mp h1
  obtain ⟨hj, e2⟩ := List.getElem?_eq_some_iff.mp h2
  have P := List.pairwise_iff_getElem.mp nd
  rcases Nat.lt_trichotomy i j with h | h | h
  · exact absurd (e1.trans e2.symm) (P i j hi hj h)
  · exact h
  · exact absurd (e2.trans e1.symm) (P j i hj hi h)
/-- a mutable object is changed -/
theorem Rep.setC (r : Rep C S st H) {n : Nat} {p : Addr} {o : HO} {mo : MO} (hp : S.m[n]? = some p) (k : RO C S mo o) : Rep C S (st.set n mo) (upd H p o) := by
  have hn : n < st.length := by rw [← r.len]; exact (List.getElem?_eq_some_iff.mp hp).1
  obtain ⟨a0, u0, q1, q2, q3, q4⟩ := r.at_ n st[n] (List.getElem?_eq_getElem hn)
  rw [hp] at q1; cases q1
  refine ⟨fun a u e => ?_, by simp [r.len], r.nd, fun j mo' e => ?_⟩
  · rw [upd_ne (ne_of_none e q2)]
    exact r.fz _ _ e
  · by_cases q : j = n
    · subst q
      rw [List.getElem?_set_self hn] at e
      cases e
      exact ⟨p, o, hp, q2, upd_same, k⟩
    · rw [List.getElem?_set_ne (Ne.symm q)] at e
      obtain ⟨a, u, h1, h2, h3, h4⟩ := r.at_ j mo' e
      refine ⟨a, u, h1, h2, ?_, h4⟩
      rw [upd_ne (show a ≠ p from fun z => q (inj_at r.nd h1 (by rw [z]; exact hp)))]
      exact h3
end
end Px

/-! Px2: the evaluator over data by value and cells. -/
namespace Px
open PySem PySem.Spec PyProof.Rows L2

abbrev Env := List (Option D)
inductive R (α : Type) where
  | ok (a : α) (st : Store)
  | ex (c : Str) (ns : List Str) (vs : List D) (st : Store)
  | bad
def R.bind {α β : Type} (r : R α) (f : α → Store → R β) : R β := match r with
  | .ok a st => f a st
  | .ex c ns vs st => .ex c ns vs st
  | .bad => .bad
@[simp] theorem R.bind_ok {α β : Type} (a : α) (st : Store) (f : α → Store → R β) : (R.ok a st).bind f = f a st := rfl
@[simp] theorem R.bind_ex {α β : Type} (c : Str) (ns : List Str) (vs : List D) (st : Store) (f : α → Store → R β) : (R.ex c ns vs st : R α).bind f = .ex c ns vs st := rfl
@[simp] theorem R.bind_bad {α β : Type} (f : α → Store → R β) : (R.bad : R α).bind f = .bad := rfl
def ofO {α : Type} (o : Option α) (st : Store) : R α := match o with
  | some a => .ok a st
  | none => .bad
@[simp] theorem ofO_some {α : Type} (a : α) (st : Store) : ofO (some a) st = .ok a st := rfl
@[simp] theorem ofO_none {α : Type} (st : Store) : (ofO none st : R α) = .bad := rfl

def lim : Nat := 1000000

/-! ### data -/
mutual
def D.py : D → Option PyData
  | .non => some .none
  | .bl b => some (.bool b)
  | .int i => some (.int i)
  | .str x => some (.str x)
  | .tup xs => (pys xs).map .tuple
  | .lst xs => (pys xs).map .list
  | .dct ks vs => match pys ks, pys vs with
    | some a, some b => some (.dict (a.zip b))
    | _, _ => none
  | .obj _ _ _ => none
  | .cell _ => none
  | .ty _ => none
  | .lck _ => none
def pys : List D → Option (List PyData)
  | [] => some []
  | d :: ds => match d.py, pys ds with
    | some a, some b => some (a :: b)
    | _, _ => none
end
mutual
def noCell : D → Bool
  | .cell _ => false
  | .tup xs => noCells xs
  | .lst xs => noCells xs
  | .dct _ vs => noCells vs
  | .obj _ _ vs => noCells vs
  | .non => true
  | .bl _ => true
  | .int _ => true
  | .str _ => true
  | .ty _ => true
  | .lck xs => noCells xs
def noCells : List D → Bool
  | [] => true
  | d :: ds => noCell d && noCells ds
end
mutual
/-- cells resolved -/
def frz (f : Nat → Option D) : D → Option D
  | .cell n => f n
  | .tup xs => (frzs f xs).map .tup
  | .lst xs => (frzs f xs).map .lst
  | .dct ks vs => (frzs f vs).map (.dct ks)
  | .obj c ns vs => (frzs f vs).map (.obj c ns)
  | .non => some .non
  | .bl b => some (.bl b)
  | .int i => some (.int i)
  | .str x => some (.str x)
  | .ty n => some (.ty n)
  | .lck xs => if noCells xs then some (.lck xs) else none
def frzs (f : Nat → Option D) : List D → Option (List D)
  | [] => some []
  | d :: ds => match frz f d, frzs f ds with
    | some a, some b => some (a :: b)
    | _, _ => none
end
def moV (f : Nat → Option D) : MO → Option D
  | .lst xs => (frzs f xs).map .lst
  | .dct ks vs => (frzs f vs).map (.dct ks)
  | .ins c ns vs => (frzs f vs).map (.obj c ns)
/-- the value of a cell n0 or above, to a depth; below n0 it stays -/
def cellV (n0 : Nat) (st : Store) : Nat → Nat → Option D
  | 0, n => if n < n0 then some (.cell n) else none
  | k + 1, n => if n < n0 then some (.cell n) else match st[n]? with
    | some mo => moV (cellV n0 st k) mo
    | none => none
def view (st : Store) (d : D) : Option D := frz (cellV 0 st 8) d
mutual
theorem frz_id (f : Nat → Option D) : ∀ d : D, noCell d = true → frz f d = some d
  | .cell n, h => by simp [noCell] at h
  | .tup xs, h => by rw [frz, frzs_id f xs (by simpa [noCell] using h)]; rfl
  | .lst xs, h => by rw [frz, frzs_id f xs (by simpa [noCell] using h)]; rfl
  | .dct ks vs, h => by rw [frz, frzs_id f vs (by simpa [noCell] using h)]; rfl
  | .obj c ns vs, h => by rw [frz, frzs_id f vs (by simpa [noCell] using h)]; rfl
  | .non, _ => by rw [frz]
  | .bl _, _ => by rw [frz]
  | .int _, _ => by rw [frz]
  | .str _, _ => by rw [frz]
  | .ty _, _ => by rw [frz]
  | .lck xs, h => by rw [frz, if_pos (by simpa [noCell] using h)]
theorem frzs_id (f : Nat → Option D) : ∀ ds : List D, noCells ds = true → frzs f ds = some ds
  | [], _ => by rw [frzs]
  | d :: ds, h => by
    rw [noCells, Bool.and_eq_true] at h
    rw [frzs, frz_id f d h.1, frzs_id f ds h.2]
end

/-- one level: what a cell holds -/
def moD : MO → D
  | .lst xs => .lst xs
  | .dct ks vs => .dct ks vs
  | .ins c ns vs => .obj c ns vs
def look (st : Store) (d : D) : Option D := match d with
  | .cell n => (st[n]?).map moD
  | .lck xs => some (.lst xs)
  | d => some d
theorem look_cell (st : Store) (n : Nat) : look st (.cell n) = (st[n]?).map moD := rfl
/-- the items of a list or tuple -/
def seqOf (st : Store) (d : D) : Option (List D) := match look st d with
  | some (.lst xs) => some xs
  | some (.tup xs) => some xs
  | _ => none
def lstOf (st : Store) (d : D) : Option (List D) := match look st d with
  | some (.lst xs) => some xs
  | _ => none
/-- .. of a list that is tracked -/
def trkOf (st : Store) (d : D) : Option (List D) := match d with
  | .lck _ => none
  | d => lstOf st d
def truth (st : Store) (d : D) : Option Bool := match look st d with
  | some .non => some false
  | some (.bl b) => some b
  | some (.int i) => some (i != 0)
  | some (.str x) => if x.length ≤ lim then some ((x.length : Int) != 0) else none
  | some (.tup xs) => some (!xs.isEmpty)
  | some (.lst xs) => some (!xs.isEmpty)
  | some (.dct ks _) => some (!ks.isEmpty)
  | _ => none
def lenD (st : Store) (d : D) : Option Nat := match look st d with
  | some (.str x) => if x.length ≤ lim then some x.length else none
  | some (.tup xs) => some xs.length
  | some (.lst xs) => some xs.length
  | some (.dct ks _) => some ks.length
  | _ => none
def mkL (mu : Nat) (xs : List D) (st : Store) : R D := if xs.length ≤ lim then (if mu = 0 then .ok (.lst xs) st else .ok (.cell st.length) (st ++ [.lst xs])) else .bad
def mkT (xs : List D) (st : Store) : R D := if xs.length ≤ lim then .ok (.tup xs) st else .bad

/-- a bound of the length of what repr writes -/
def intW (i : Int) : Nat := i.natAbs.log2 + 4
mutual
def wt : D → Nat
  | .non => 4
  | .bl _ => 5
  | .int i => intW i
  | .str x => 10 * x.length + 2
  | .tup xs => wts xs + 3
  | .lst xs => wts xs + 2
  | .dct ks vs => wts ks + wts vs + 2
  | .obj _ _ _ => 0
  | .cell _ => 0
  | .ty _ => 0
  | .lck _ => 0
def wts : List D → Nat
  | [] => 0
  | d :: ds => wt d + 2 + wts ds
end

/-! ### operators -/
def intSmall (i : Int) : Bool := decide (i.natAbs < 2 ^ 64)
def mulOk (i j : Int) : Bool := intSmall i || intSmall j || decide (i.natAbs.log2 + j.natAbs.log2 ≤ 100000)
def keyOf : D → Option Key
  | .int i => some (.inl i)
  | .str x => some (.inr x)
  | _ => none
def binD (mu : Nat) (op : Operator) (a b : D) (st : Store) : R D :=
  match op, a, b with
  | .Add, .int i, .int j => .ok (.int (i + j)) st
  | .Add, .str x, .str y => if x.length + y.length ≤ lim then .ok (.str (x ++ y)) st else .bad
  | .Add, .tup xs, .tup ys => mkT (xs ++ ys) st
  | .Add, x, y => match trkOf st x, trkOf st y with
    | some xs, some ys => mkL mu (xs ++ ys) st
    | _, _ => .bad
  | .Sub, .int i, .int j => .ok (.int (i - j)) st
  | .Mult, .int i, .int j => if mulOk i j then .ok (.int (i * j)) st else .bad
  | .Mult, .tup xs, .int k => if xs.length ≤ 1000 && decide (2 ≤ k) && decide (k ≤ 1000) && !xs.isEmpty then .ok (.tup (List.replicate k.toNat xs).flatten) st else .bad
  | .Mult, x, .int k => match trkOf st x with
    | some xs => if xs.length * k.toNat ≤ lim && decide (-(2 ^ 63) ≤ k) && decide (k < 2 ^ 63) then mkL mu (List.replicate k.toNat xs).flatten st else .bad
    | none => .bad
  | .FloorDiv, .int i, .int j => if decide (0 < j) && decide (j < 1073741824) then .ok (.int (i / j)) st else .bad
  | .Mod, .int i, .int j => if 0 < j then .ok (.int (i % j)) st else .bad
  | .Pow, .int i, .int j => if decide (0 ≤ j) && decide ((i.natAbs.log2 + 1) * j.toNat ≤ 1000000) then .ok (.int (i ^ j.toNat)) st else .bad
  | _, _, _ => .bad

def flatD : D → Bool
  | .non => true
  | .bl _ => true
  | .int _ => true
  | .str _ => true
  | _ => false
def eqF : D → D → Bool
  | .non, .non => true
  | .bl a, .bl b => a == b
  | .bl a, .int b => (if a then 1 else 0) == b
  | .int a, .bl b => a == (if b then 1 else 0)
  | .int a, .int b => a == b
  | .str a, .str b => a == b
  | _, _ => false
/-- == of data -/
def eqD (st : Store) (a b : D) : Option Bool := match a, b with
  | .str x, .str y => some (x == y)
  | a, b => match view st a, view st b with
    | some x, some y => match x.py, y.py with
      | some p, some q => if SeqAt.shaped p && SeqAt.shaped q then some (PyData.eqv p q) else none
      | _, _ => none
    | _, _ => none
/-- one sign -/
def signOf (x : Str) : Option Nat := match x.cps.toList with
  | [c] => some c
  | _ => none
def inD (st : Store) (a b : D) : Option Bool := match a, look st b with
  | .str x, some (.str z) => some (!(Builtin.Str.occurrences z x 0 z.length 1).isEmpty)
  | a, some (.lst xs) => if flatD a && xs.all flatD then some (xs.any fun z => eqF z a) else none
  | a, some (.tup xs) => if flatD a && xs.all flatD then some (xs.any fun z => eqF z a) else none
  | _, _ => none
def cmpD (op : CmpOp) (a b : D) (st : Store) : R D :=
  match op, a, b with
  | .Lt, .int i, .int j => .ok (.bl (decide (i < j))) st
  | .LtE, .int i, .int j => .ok (.bl (decide (i ≤ j))) st
  | .Gt, .int i, .int j => .ok (.bl (decide (j < i))) st
  | .GtE, .int i, .int j => .ok (.bl (decide (j ≤ i))) st
  | .Is, x, .non => .ok (.bl (match x with | .non => true | _ => false)) st
  | .IsNot, x, .non => .ok (.bl (match x with | .non => false | _ => true)) st
  | .Eq, x, y => match eqD st x y with
    | some b => .ok (.bl b) st
    | none => .bad
  | .NotEq, x, y => match eqD st x y with
    | some b => .ok (.bl (!b)) st
    | none => .bad
  | .In, x, y => match inD st x y with
    | some b => .ok (.bl b) st
    | none => .bad
  | .NotIn, x, y => match inD st x y with
    | some b => .ok (.bl (!b)) st
    | none => .bad
  | _, _, _ => .bad

def lookK (k : Key) : List D → List D → Option D
  | .int i :: ks, v :: vs => if k = .inl i then some v else lookK k ks vs
  | .str x :: ks, v :: vs => if k = .inr x then some v else lookK k ks vs
  | _, _ => none
def putK (k : Key) (u : D) : List D → List D → List D
  | .int i :: ks, v :: vs => if k = .inl i then u :: vs else v :: putK k u ks vs
  | .str x :: ks, v :: vs => if k = .inr x then u :: vs else v :: putK k u ks vs
  | _, vs => vs
def ixD (a i : D) (st : Store) : R D := match look st a, i with
  | some (.tup xs), .int k => ofO (atI xs k) st
  | some (.lst xs), .int k => ofO (atI xs k) st
  | some (.str x), .int k => if x.length ≤ lim then ofO ((atI x.cps.toList k).map fun c => .str ⟨#[c]⟩) st else .bad
  | some (.dct ks vs), k => match keyOf k with
    | some q => ofO (lookK q ks vs) st
    | none => .bad
  | _, _ => .bad
def cutL {α : Type} (xs : List α) (lo hi : Option Int) : List α := (xs.drop (HT.sIx xs.length 0 lo)).take (HT.sIx xs.length xs.length hi - HT.sIx xs.length 0 lo)
def slcD (mu : Nat) (a : D) (l h : Option Int) (st : Store) : R D := match look st a with
  | some (.lst xs) => mkL mu (cutL xs l h) st
  | some (.tup xs) => .ok (.tup (cutL xs l h)) st
  | some (.str x) => if x.length ≤ lim then .ok (.str (cutS x l h)) st else .bad
  | _ => .bad
def partF (f : Env → Store → R D) : Env → Store → R (Option Int) := fun ρ st => (f ρ st).bind fun x st1 => match x with
  | .int i => .ok (some i) st1
  | _ => .bad
def revD (mu : Nat) (a : D) (st : Store) : R D := match look st a with
  | some (.lst xs) => mkL mu xs.reverse st
  | _ => .bad

inductive Prm where
  | len | abs | int | str | sum | tuple | list | all | any | repr | max2 | min2
  deriving DecidableEq
def intsOf : List D → Option (List Int)
  | [] => some []
  | .int i :: ds => (intsOf ds).map (i :: ·)
  | _ :: _ => none
def blsOf : List D → Option (List Bool)
  | [] => some []
  | .bl i :: ds => (blsOf ds).map (i :: ·)
  | _ :: _ => none
def primD (mu : Nat) (p : Prm) (as : List D) (st : Store) : R D :=
  match p, as with
  | .len, [a] => ofO ((lenD st a).map fun n => .int n) st
  | .abs, [.int i] => .ok (.int (if i < 0 then -i else i)) st
  | .int, [.int i] => .ok (.int i) st
  | .int, [.bl b] => .ok (.int (if b then 1 else 0)) st
  | .str, [.int i] => if i.natAbs.log2 < 1920 then .ok (.str (toString i)) st else .bad
  | .sum, [a] => match lstOf st a with
    | some xs => ofO ((intsOf xs).map fun ns => .int ns.sum) st
    | none => .bad
  | .tuple, [a] => match look st a with
    | some (.lst xs) => mkT xs st
    | some (.tup xs) => .ok (.tup xs) st
    | _ => .bad
  | .list, [a] => match seqOf st a with
    | some xs => mkL mu xs st
    | none => .bad
  | .all, [a] => match lstOf st a with
    | some xs => ofO ((blsOf xs).map fun bs => .bl (bs.all id)) st
    | none => .bad
  | .any, [a] => match lstOf st a with
    | some xs => ofO ((blsOf xs).map fun bs => .bl (bs.any id)) st
    | none => .bad
  | .repr, [a] => match view st a with
    | some d => match d.py with
      | some q => if PyData.showable q && decide (q.depth ≤ 64) && decide (q.shown.length ≤ lim) then .ok (.str q.shown) st else .bad
      | none => .bad
    | none => .bad
  | .max2, [.int i, .int j] => .ok (.int (if j > i then j else i)) st
  | .min2, [.int i, .int j] => .ok (.int (if j < i then j else i)) st
  | _, _ => .bad

/-- a type that isinstance asks for -/
inductive Ty where
  | b (n : String)
  | c (x : Str)
  deriving DecidableEq
def tyOf (st : Store) (d : D) : Option Ty := match look st d with
  | some .non => some (.b "NoneType")
  | some (.bl _) => some (.b "bool")
  | some (.int _) => some (.b "int")
  | some (.str _) => some (.b "str")
  | some (.tup _) => some (.b "tuple")
  | some (.lst _) => some (.b "list")
  | some (.dct _ _) => some (.b "dict")
  | some (.obj c _ _) => some (.c c)
  | _ => none

inductive Bm where
  | append | pop | popAt
  deriving DecidableEq
/-! ### the terms -/
inductive Tg where
  | name (i : Nat)
  | tup (ts : List Tg)
mutual
inductive E where
  | var (i : Nat) | con (d : D)
  | bin (mu : Nat) (op : Operator) (a b : E) | neg (a : E) | not (a : E)
  | cmp (op : CmpOp) (a b : E) | chain (o1 o2 : CmpOp) (a b c : E)
  | and (a b : E) | or (a b : E) | ite (t a b : E)
  | tup (es : List E) | lst (mu : Nat) (es : List E) | dct (mu : Nat) (ks : List D) (es : List E)
  | ix (a i : E) | slc (mu : Nat) (a : E) (lo hi : Option E) | rev (mu : Nat) (a : E)
  | call (f : Str) (es : List E) (ks : List Str) (kes : List E)
  | prim (mu : Nat) (p : Prm) (es : List E)
  | isin (a : E) (t : Ty)
  | bm (m : Bm) (o : E) (es : List E)
  | meth (m : Str) (o : E) (es : List E) (ks : List Str) (kes : List E)
  | attr (o : E) (f : Str)
  | mk (c : Str) (es : List E) (ks : List Str) (kes : List E)
  | comp (mu : Nat) (vs : List Nat) (tg : Tg) (it : It) (t : E) (el : E)
inductive It where
  | ex (e : E) | rng (es : List E) | zip (es : List E) | enum (es : List E)
end
inductive S where
  | asg (tg : Tg) (e : E) | par (i j : Nat) (a b : E) | aug (i : Nat) (op : Operator) (e : E)
  | setI (o i e : E) | augI (o i : E) (op : Operator) (e : E) | setF (o : E) (f : Str) (e : E)
  | exp (e : E) | ret (e : E) | ite (t : E) (a b : List S) | whl (t : E) (b : List S) | for_ (tg : Tg) (it : It) (b : List S)
  | brk | cnt | pas
  | rse (e : E)

structure Fn where
  ps : List Str
  df : List (Option D)
  sh : List (Nat × List Str)
  run : List D → Store → R D
structure Genv where
  fn : Str → Option Fn
  mt : Str → Str → Option Fn
  pr : Str → Str → Option Fn
  con : Str → Option (Bool × Fn)
  sup : Str → Ty → Option Bool
  fuel : Nat

/-- the arguments in the parameters' order -/
def fillKw {α : Type} (ks : List Str) (us : List α) (x : Str) : Option α := match ks, us with
  | k :: ks, u :: us => if k = x then some u else fillKw ks us x
  | _, _ => none
def pick {α : Type} (a b : Option α) : Option α := match a with
  | some u => some u
  | none => b
def fillIn {α : Type} (ks : List Str) (us : List α) : List Str → List (Option α) → Option (List α)
  | [], _ => some []
  | p :: ps, [] => match fillKw ks us p, fillIn ks us ps [] with
    | some u, some r => some (u :: r)
    | _, _ => none
  | p :: ps, d :: ds => match pick (fillKw ks us p) d, fillIn ks us ps ds with
    | some u, some r => some (u :: r)
    | _, _ => none
def bindG {α : Type} (ps : List Str) (df : List (Option α)) (as : List α) (ks : List Str) (us : List α) : Option (List α) := (fillIn ks us (ps.drop as.length) (df.drop as.length)).map (as ++ ·)
/-- only calls of a shape that is known -/
def Fn.bind (F : Fn) (as : List D) (ks : List Str) (us : List D) : Option (List D) :=
  if F.sh.any (fun s => s.1 == as.length && decide (s.2 = ks)) && us.length == ks.length then bindG F.ps F.df as ks us else none

mutual
def setT : Tg → D → Env → Option Env
  | .name i, d, ρ => some (ρ.set i (some d))
  | .tup ts, d, ρ => match d with
    | .tup ds => setTs ts ds ρ
    | _ => none
def setTs : List Tg → List D → Env → Option Env
  | [], [], ρ => some ρ
  | [], _ :: _, _ => none
  | _ :: _, [], _ => none
  | t :: ts, d :: ds, ρ => match setT t d ρ with
    | some ρ' => setTs ts ds ρ'
    | none => none
end
def wipeE (ρ : Env) : List Nat → Env
  | [] => ρ
  | v :: vs => (wipeE ρ vs).set v none

/-- what a loop walks: the items; the cell that must stay as it is -/
abbrev Walk := List D × Option (Nat × List D)
def guardOk (st : Store) : Option (Nat × List D) → Prop
  | none => True
  | some (n, xs) => st[n]? = some (.lst xs)
def bmeth (m : Bm) (o : D) (as : List D) (st : Store) : R D := match o with
  | .cell n => match st[n]? with
    | some (.lst xs) => match m, as with
      | .append, [a] => if xs.length < lim then .ok .non (st.set n (.lst (xs ++ [a]))) else .bad
      | .pop, [] => match xs[xs.length - 1]? with
        | some y => .ok y (st.set n (.lst xs.dropLast))
        | none => .bad
      | .popAt, [.int i] => match seqIndex? i xs.length with
        | some k => match xs[k]? with
          | some y => if decide (-(2 ^ 63) ≤ i) && decide (i < 2 ^ 63) then .ok y (st.set n (.lst (xs.eraseIdx k))) else .bad
          | none => .bad
        | none => .bad
      | _, _ => .bad
    | _ => .bad
  | _ => .bad
def callMeth (Γ : Genv) (m : Str) (o : D) (as : List D) (ks : List Str) (us : List D) (st : Store) : R D :=
  match look st o with
  | some (.obj c _ _) => match Γ.mt c m with
    | some F => match F.bind (o :: as) ks us with
      | some vs => F.run vs st
      | none => .bad
    | none => .bad
  | _ => .bad
def lookN (f : Str) : List Str → List D → Option D
  | n :: ns, v :: vs => if f = n then some v else lookN f ns vs
  | _, _ => none
def putN (f : Str) (u : D) : List Str → List D → List Str × List D
  | n :: ns, v :: vs => if f = n then (n :: ns, u :: vs) else let r := putN f u ns vs; (n :: r.1, v :: r.2)
  | _, _ => ([f], [u])
def attrD (Γ : Genv) (f : Str) (o : D) (st : Store) : R D := match look st o with
  | some (.obj c ns vs) => match lookN f ns vs with
    | some v => .ok v st
    | none => match Γ.pr c f with
      | some F => F.run [o] st
      | none => .bad
  | _ => .bad
mutual
def below (n0 : Nat) : D → Bool
  | .cell n => decide (n < n0)
  | .tup xs => belows n0 xs
  | .lst xs => belows n0 xs
  | .lck xs => belows n0 xs
  | .dct _ vs => belows n0 vs
  | .obj _ _ vs => belows n0 vs
  | .non => true
  | .bl _ => true
  | .int _ => true
  | .str _ => true
  | .ty _ => true
def belows (n0 : Nat) : List D → Bool
  | [] => true
  | d :: ds => below n0 d && belows n0 ds
end
def moBelow (n0 : Nat) : MO → Bool
  | .lst xs => belows n0 xs
  | .dct _ vs => belows n0 vs
  | .ins _ _ vs => belows n0 vs
def close (n0 : Nat) (d : D) (st : Store) : R D :=
  if st.length = n0 then .ok d st else
  match frz (cellV n0 st 8) d with
  | some d' => if (st.take n0).all (moBelow n0) then .ok d' (st.take n0) else .bad
  | none => .bad
def callMk (Γ : Genv) (c : Str) (as : List D) (ks : List Str) (us : List D) (st : Store) : R D := match Γ.con c with
  | some (fr, F) => match F.bind (.cell st.length :: as) ks us with
    | some vs => (F.run vs (st ++ [.ins c [] []])).bind fun _ st' => if fr then close st.length (.cell st.length) st' else .ok (.cell st.length) st'
    | none => .bad
  | none => .bad
def eqOwn (Γ : Genv) (op : CmpOp) (a b : D) (st : Store) : R D := match op, look st a with
  | .Eq, some (.obj c _ _) => match Γ.mt c "__eq__" with
    | some F => F.run [a, b] st
    | none => .bad
  | .NotEq, some (.obj c _ _) => match Γ.mt c "__eq__" with
    | some F => (F.run [a, b] st).bind fun d st' => match d with
      | .bl b => .ok (.bl (!b)) st'
      | _ => .bad
    | none => .bad
  | op, _ => cmpD op a b st
def binOwn (Γ : Genv) (mu : Nat) (op : Operator) (a b : D) (st : Store) : R D := match op, look st a with
  | .Mult, some (.obj c _ _) => match Γ.mt c "__mul__" with
    | some F => F.run [a, b] st
    | none => .bad
  | .Pow, some (.obj c _ _) => match Γ.mt c "__pow__" with
    | some F => F.run [a, b] st
    | none => .bad
  | .BitOr, some (.obj c _ _) => match Γ.mt c "__or__" with
    | some F => F.run [a, b] st
    | none => .bad
  | .BitAnd, some (.obj c _ _) => match Γ.mt c "__and__" with
    | some F => F.run [a, b] st
    | none => .bad
  | op, _ => binD mu op a b st
def walkOf (d : D) (st : Store) : Option Walk := match d with
  | .cell n => match st[n]? with
    | some (.lst xs) => some (xs, some (n, xs))
    | _ => none
  | .lst xs => some (xs, none)
  | .lck xs => some (xs, none)
  | .tup xs => some (xs, none)
  | .str x => some (x.cps.toList.map fun c => .str ⟨#[c]⟩, none)
  | _ => none
def rngOf (as : List D) : Option (List D) := match as with
  | [.int j] => if decide (-(2 ^ 62) ≤ j) && decide (j < 2 ^ 62) then some ((List.range j.toNat).map fun (k : Nat) => .int (k : Int)) else none
  | [.int i, .int j] => if decide (-(2 ^ 62) ≤ i) && decide (i < 2 ^ 62) && decide (-(2 ^ 62) ≤ j) && decide (j < 2 ^ 62) then some ((List.range (j - i).toNat).map fun (k : Nat) => .int (i + (k : Int))) else none
  | [.int i, .int j, .int (.negSucc 0)] => if decide (-(2 ^ 61) ≤ i) && decide (i < 2 ^ 61) && decide (-(2 ^ 61) ≤ j) && decide (j < 2 ^ 61) then some ((List.range (i - j).toNat).map fun (k : Nat) => .int (i - (k : Int))) else none
  | _ => none
def zipOf (as : List D) : Option Walk := match as with
  | [.lst xs, .lst ys] => some ((xs.zip ys).map fun p => .tup [p.1, p.2], none)
  | [.tup xs, .tup ys] => some ((xs.zip ys).map fun p => .tup [p.1, p.2], none)
  | _ => none
def enumOf (as : List D) : Option Walk := match as with
  | [.lst xs] => some (((List.range xs.length).zip xs).map fun p => .tup [.int (p.1 : Nat), p.2], none)
  | _ => none
def noEx {α : Type} (r : R α) : R α := match r with
  | .ex _ _ _ _ => .bad
  | r => r
mutual
def slotsT : Tg → List Nat
  | .name i => [i]
  | .tup ts => slotsTs ts
def slotsTs : List Tg → List Nat
  | [] => []
  | t :: ts => slotsT t ++ slotsTs ts
end
open Classical in
/-- a comprehension's turns -/
noncomputable def compLoop (tg : Tg) (t el : Env → Store → R D) (g : Option (Nat × List D)) (ρ : Env) : List D → List D → Store → R (List D)
  | [], acc, st => .ok acc st
  | x :: xs, acc, st => match setT tg x ρ with
    | none => .bad
    | some ρ' => (noEx (t ρ' st)).bind fun b st1 => match truth st1 b with
      | some true => (noEx (el ρ' st1)).bind fun d st2 => if guardOk st2 g then compLoop tg t el g ρ xs (acc ++ [d]) st2 else .bad
      | some false => if guardOk st1 g then compLoop tg t el g ρ xs acc st1 else .bad
      | none => .bad

def tyNames : List String := ["int", "bool", "str", "tuple", "list", "dict"]
def isTy (Γ : Genv) (a t : Ty) : Option Bool := match a, t with
  | .b n, .b m => if tyNames.contains m then some (n == m || (n == "bool" && m == "int")) else none
  | .b _, .c _ => some false
  | .c c, t => Γ.sup c t
/-- o[i] = v -/
def setD (o i v : D) (st : Store) : Option Store := match o with
  | .cell n => match st[n]? with
    | some (.lst xs) => match i with
      | .int k => (ixN xs.length k).map fun j => st.set n (.lst (xs.set j v))
      | _ => none
    | some (.dct ks vs) => match keyOf i with
      | some k => if ks.length < lim then (match lookK k ks vs with
        | some _ => some (st.set n (.dct ks (putK k v ks vs)))
        | none => some (st.set n (.dct (ks ++ [i]) (vs ++ [v])))) else none
      | none => none
    | _ => none
  | _ => none
mutual
noncomputable def evE (Γ : Genv) : E → Env → Store → R D
  | .var i, ρ, st => match ρ[i]? with
    | some (some d) => .ok d st
    | _ => .bad
  | .con d, _, st => .ok d st
  | .bin mu op a b, ρ, st => (evE Γ a ρ st).bind fun x st1 => (evE Γ b ρ st1).bind fun y st2 => binOwn Γ mu op x y st2
  | .neg a, ρ, st => (evE Γ a ρ st).bind fun x st1 => match x with
    | .int i => .ok (.int (-i)) st1
    | _ => .bad
  | .not a, ρ, st => (evE Γ a ρ st).bind fun x st1 => ofO ((truth st1 x).map fun b => .bl (!b)) st1
  | .cmp op a b, ρ, st => (evE Γ a ρ st).bind fun x st1 => (evE Γ b ρ st1).bind fun y st2 => eqOwn Γ op x y st2
  | .chain o1 o2 a b c, ρ, st => (evE Γ a ρ st).bind fun x st1 => (evE Γ b ρ st1).bind fun y st2 => (cmpD o1 x y st2).bind fun r st3 => match r with
    | .bl true => (evE Γ c ρ st3).bind fun z st4 => cmpD o2 y z st4
    | .bl false => .ok (.bl false) st3
    | _ => .bad
  | .and a b, ρ, st => (evE Γ a ρ st).bind fun x st1 => match truth st1 x with
    | some true => evE Γ b ρ st1
    | some false => .ok x st1
    | none => .bad
  | .or a b, ρ, st => (evE Γ a ρ st).bind fun x st1 => match truth st1 x with
    | some true => .ok x st1
    | some false => evE Γ b ρ st1
    | none => .bad
  | .ite t a b, ρ, st => (evE Γ t ρ st).bind fun x st1 => match truth st1 x with
    | some true => evE Γ a ρ st1
    | some false => evE Γ b ρ st1
    | none => .bad
  | .tup es, ρ, st => (evEs Γ es ρ st).bind fun xs st1 => mkT xs st1
  | .lst mu es, ρ, st => (evEs Γ es ρ st).bind fun xs st1 => mkL mu xs st1
  | .dct mu ks es, ρ, st => (evEs Γ es ρ st).bind fun xs st1 => if mu = 0 then .ok (.dct ks xs) st1 else .ok (.cell st1.length) (st1 ++ [.dct ks xs])
  | .ix a i, ρ, st => (evE Γ a ρ st).bind fun x st1 => (evE Γ i ρ st1).bind fun y st2 => ixD x y st2
  | .slc mu a lo hi, ρ, st => (evE Γ a ρ st).bind fun x st1 => (evO Γ lo ρ st1).bind fun l st2 => (evO Γ hi ρ st2).bind fun h st3 => slcD mu x l h st3
  | .rev mu a, ρ, st => (evE Γ a ρ st).bind fun x st1 => revD mu x st1
  | .call f es ks kes, ρ, st => match Γ.fn f with
    | some F => (evEs Γ es ρ st).bind fun xs st1 => (evEs Γ kes ρ st1).bind fun us st2 => match F.bind xs ks us with
      | some vs => F.run vs st2
      | none => .bad
    | none => .bad
  | .prim mu p es, ρ, st => (evEs Γ es ρ st).bind fun xs st1 => primD mu p xs st1
  | .isin a t, ρ, st => (evE Γ a ρ st).bind fun x st1 => match tyOf st1 x with
    | some y => ofO ((isTy Γ y t).map .bl) st1
    | none => .bad
  | .bm m o es, ρ, st => (evE Γ o ρ st).bind fun x st1 => match lstOf st1 x with
    | some _ => (evEs Γ es ρ st1).bind fun xs st2 => bmeth m x xs st2
    | none => .bad
  | .meth m o es ks kes, ρ, st => (evE Γ o ρ st).bind fun x st1 => (evEs Γ es ρ st1).bind fun xs st2 => (evEs Γ kes ρ st2).bind fun us st3 => callMeth Γ m x xs ks us st3
  | .attr o f, ρ, st => (evE Γ o ρ st).bind fun x st1 => attrD Γ f x st1
  | .mk c es ks kes, ρ, st => (evEs Γ es ρ st).bind fun xs st1 => (evEs Γ kes ρ st1).bind fun us st2 => callMk Γ c xs ks us st2
  | .comp mu vs tg it t el, ρ, st => (evIt Γ it ρ st).bind fun w st1 => if w.1.length ≤ lim then
      (compLoop tg (evE Γ t) (evE Γ el) w.2 (wipeE ρ vs) w.1 [] st1).bind fun acc st2 => mkL mu acc st2
    else .bad
noncomputable def evEs (Γ : Genv) : List E → Env → Store → R (List D)
  | [], _, st => .ok [] st
  | e :: es, ρ, st => (evE Γ e ρ st).bind fun x st1 => (evEs Γ es ρ st1).bind fun xs st2 => .ok (x :: xs) st2
noncomputable def evO (Γ : Genv) : Option E → Env → Store → R (Option Int)
  | none, _, st => .ok none st
  | some e, ρ, st => partF (evE Γ e) ρ st
noncomputable def evIt (Γ : Genv) : It → Env → Store → R Walk
  | .ex e, ρ, st => (evE Γ e ρ st).bind fun x st1 => ofO (walkOf x st1) st1
  | .rng es, ρ, st => (evEs Γ es ρ st).bind fun xs st1 => ofO ((rngOf xs).map fun l => (l, none)) st1
  | .zip es, ρ, st => (evEs Γ es ρ st).bind fun xs st1 => ofO (zipOf xs) st1
  | .enum es, ρ, st => (evEs Γ es ρ st).bind fun xs st1 => ofO (enumOf xs) st1
end
end Px

/-! Px3: readings by the evaluator; soundness of expressions. -/
namespace Px
open PySem PySem.Spec PyProof.Rows L2

structure Go (S : Rp) (H : Hp) (S' : Rp) (H' : Hp) : Prop where
  ext : Ext S S'
  frame : ∀ a o, H a = some o → a ∉ S.m → H' a = some o
  dom : ∀ a, H' a = none → H a = none
  newG : ∀ a o, S'.G a = some o → S.G a = some o ∨ H a = none
  newM : ∀ a, a ∈ S'.m → a ∈ S.m ∨ H a = none
theorem Go.refl (S : Rp) (H : Hp) : Go S H S H := ⟨.refl S, fun _ _ h _ => h, fun _ h => h, fun _ _ h => .inl h, fun _ h => .inl h⟩
theorem Go.trans {S S1 S2 : Rp} {H H1 H2 : Hp} (a : Go S H S1 H1) (b : Go S1 H1 S2 H2) : Go S H S2 H2 :=
  ⟨a.ext.trans b.ext, fun x o h hm => b.frame x o (a.frame x o h hm) (fun hx => by
      rcases a.newM x hx with q | q
      · exact hm q
      · rw [h] at q; cases q), fun x h => a.dom x (b.dom x h), fun x o h => by
      rcases b.newG x o h with q | q
      · exact a.newG x o q
      · exact .inr (a.dom x q), fun x h => by
      rcases b.newM x h with q | q
      · exact a.newM x q
      · exact .inr (a.dom x q)⟩
theorem Go.newF {S : Rp} {H : Hp} {p : Addr} {o : HO} (hG : S.G p = none) (h : H p = none) : Go S H (S.fz p o) (upd H p o) :=
  ⟨Ext.fz hG, fun a u e _ => by rw [upd_ne (ne_of_none e h)]; exact e, fun a e => by
    by_cases q : a = p
    · subst q; exact h
    · rw [upd_ne q] at e; exact e, fun a u e => by
    by_cases q : a = p
    · subst q; exact .inr h
    · have e' : upd S.G p o a = some u := e
      rw [upd_ne q] at e'; exact .inl e', fun a h => .inl h⟩
theorem Go.newC {S : Rp} {H : Hp} {p : Addr} {o : HO} (h : H p = none) : Go S H (S.cl p) (upd H p o) :=
  ⟨Ext.cl, fun a u e _ => by rw [upd_ne (ne_of_none e h)]; exact e, fun a e => by
    by_cases q : a = p
    · subst q; exact h
    · rw [upd_ne q] at e; exact e, fun a u e => .inl e, fun a hm => by
    have hm : a ∈ S.m ++ [p] := hm
    rw [List.mem_append] at hm
    rcases hm with q | q
    · exact .inl q
    · simp at q; subst q; exact .inr h⟩
/-- a new object that is forgotten -/
theorem Go.drop {S : Rp} {H : Hp} {p : Addr} {o : HO} (h : H p = none) : Go S H S (upd H p o) :=
  ⟨.refl S, fun a u e _ => by rw [upd_ne (ne_of_none e h)]; exact e, fun a e => by
    by_cases q : a = p
    · subst q; exact h
    · rw [upd_ne q] at e; exact e, fun a u e => .inl e, fun a h => .inl h⟩
theorem Go.setC {S : Rp} {H : Hp} {n : Nat} {p : Addr} {o u : HO} (hp : S.m[n]? = some p) (e : H p = some u) : Go S H S (upd H p o) :=
  ⟨.refl S, fun a v ea hm => by
    have : a ≠ p := fun q => hm (q ▸ List.mem_of_getElem? hp)
    rw [upd_ne this]; exact ea, fun a ea => by
    by_cases q : a = p
    · subst q; rw [upd_same] at ea; cases ea
    · rw [upd_ne q] at ea; exact ea, fun a u e => .inl e, fun a h => .inl h⟩
theorem Rep.drop {C : Kc} {S : Rp} {st : Store} {H : Hp} {p : Addr} {o : HO} (r : Rep C S st H) (h : H p = none) : Rep C S st (upd H p o) :=
  r.same fun b u e => by rw [upd_ne (ne_of_none e h)]; exact e

/-- how an exception stands -/
def XR (C : Kc) (S : Rp) (c : Str) (ns : List Str) (us : List D) (cls : Value) (dd : Option Addr) : Prop :=
  ∃ A, C.cm c = some A ∧ cls = .ref A ∧ ((∃ dx fs, dd = some dx ∧ S.G dx = some (.xd fs) ∧ ns = fs.map (·.1) ∧ RVs C S us (fs.map (·.2))) ∨ (dd = none ∧ ns = [] ∧ us = []))

abbrev Rel (α β : Type) := Rp → Store → α → β → Prop
def Post {α β : Type} (C : Kc) (rel : Rel α β) (S : Rp) (H : Hp) (r : R α) (Q : β → Hp → Prop) (E : XK) : Prop := match r with
  | .ok a st' => ∀ S' H' b, Go S H S' H' → Rep C S' st' H' → rel S' st' a b → Q b H'
  | .ex c ns us st' => ∀ S' H' cls dd, Go S H S' H' → Rep C S' st' H' → XR C S' c ns us cls dd → E cls dd H'
  | .bad => False
theorem Post.go {α β : Type} {C : Kc} {rel : Rel α β} {S S' : Rp} {H H' : Hp} {r : R α} {Q : β → Hp → Prop} {E : XK} (h : Post C rel S H r Q E) (g : Go S H S' H') : Post C rel S' H' r Q E := by
  cases r with
  | ok a st' => exact fun S2 H2 b g2 => h S2 H2 b (g.trans g2)
  | ex c ns us st' => exact fun S2 H2 b dd g2 => h S2 H2 b dd (g.trans g2)
  | bad => exact h
theorem Post.bind {α β γ δ : Type} {C : Kc} {rel : Rel α β} {rel2 : Rel γ δ} {S : Rp} {H : Hp} {r : R α} {g : α → Store → R γ} {Q : δ → Hp → Prop} {E : XK} {Q1 : β → Hp → Prop}
    (h : Post C rel2 S H (r.bind g) Q E) (k : ∀ a st' S' H' b, Go S H S' H' → Rep C S' st' H' → rel S' st' a b → Post C rel2 S' H' (g a st') Q E → Q1 b H') : Post C rel S H r Q1 E := by
  cases r with
  | ok a st' => exact fun S2 H2 b g2 rp rl => k a st' S2 H2 b g2 rp rl (Post.go (r := g a st') h g2)
  | ex c ns us st' => exact h
  | bad => exact h
/-- an end -/
theorem Post.end_ {α β : Type} {C : Kc} {rel : Rel α β} {S : Rp} {H : Hp} {a : α} {st : Store} {Q : β → Hp → Prop} {E : XK} (h : Post C rel S H (.ok a st) Q E) {S' : Rp} {H' : Hp} {b : β} (g : Go S H S' H') (rp : Rep C S' st H') (rl : rel S' st a b) : Q b H' :=
  h S' H' b g rp rl

def rV (C : Kc) : Rel D V := fun S _ d v => RV C S d v
def rVs (C : Kc) : Rel (List D) (List V) := fun S _ d v => RVs C S d v
def rB : Rel Bool Bool := fun _ _ a b => a = b

structure REnv (C : Kc) (S : Rp) (ρ : Env) (σ : L2.St) : Prop where
  len : σ.length = ρ.length
  at_ : ∀ (i : Nat) (d : D), ρ[i]? = some (some d) → ∃ v, σ[i]? = some (some v) ∧ RV C S d v
theorem REnv.mono {C : Kc} {S S' : Rp} {ρ : Env} {σ : L2.St} (r : REnv C S ρ σ) (e : Ext S S') : REnv C S' ρ σ :=
  ⟨r.len, fun i d h => by
    obtain ⟨v, h1, h2⟩ := r.at_ i d h
    exact ⟨v, h1, h2.mono e⟩⟩

abbrev Fx (α : Type) := Env → Store → R α
/-- a reading by a function of the environment and the store -/
def tF {α β : Type} (C : Kc) (rel : Rel α β) (E : L2.St → XK) (f : Fx α) : L2.St → Hp → (β → Hp → Prop) → Prop :=
  fun σ H Q => ∃ S ρ st, Rep C S st H ∧ REnv C S ρ σ ∧ Post C rel S H (f ρ st) Q (E σ)

/-- what stands of a context -/
structure XOk (X : Cx) (C : Kc) (k : Nat) (E : L2.St → XK) : Prop where
  K : X.K = C.K
  calm : X.calm = true
  nd : X.N.Nodup
  room : Room k X.A
  gd : X.A.guards = some []
  tk : Takes X fun cls d σ H => E σ cls d H
  sm : ∃ o, X.base.get? sysModules = some o

theorem PE.weak {X : Cx} {e : Expr} {t t' : TE} (h : PE X e t) (k : ∀ σ H Q, t' σ H Q → t σ H Q) : PE X e t' := ⟨fun pins s σ H Q I q => h.run pins s σ H Q I (k σ H Q q)⟩
theorem PA.weak {X : Cx} {e : List Expr} {t t' : TA} (h : PA X e t) (k : ∀ σ H Q, t' σ H Q → t σ H Q) : PA X e t' := ⟨fun pos pins s σ H Q I q => h.run pos pins s σ H Q I (k σ H Q q)⟩
theorem PT.weak {X : Cx} {e : Expr} {t t' : TT} (h : PT X e t) (k : ∀ σ H Q, t' σ H Q → t σ H Q) : PT X e t' := ⟨fun pins s σ H Q I q => h.run pins s σ H Q I (k σ H Q q)⟩

section
variable {X : Cx} {C : Kc} {E : L2.St → XK} {k : Nat}
abbrev SE (X : Cx) (C : Kc) (E : L2.St → XK) (f : Fx D) (e : Expr) : Prop := PE X e (tF C (rV C) E f)
abbrev SA (X : Cx) (C : Kc) (E : L2.St → XK) (f : Fx (List D)) (e : List Expr) : Prop := PA X e (tF C (rVs C) E f)
abbrev ST (X : Cx) (C : Kc) (E : L2.St → XK) (f : Fx Bool) (e : Expr) : Prop := PT X e (tF C rB E f)
/-- a value's truth -/
def tst (f : Fx D) : Fx Bool := fun ρ st => (f ρ st).bind fun d st1 => ofO (truth st1 d) st1

/-! ### names and constants -/
def varD (i : Nat) : Fx D := fun ρ st => match ρ[i]? with
  | some (some d) => .ok d st
  | _ => .bad
theorem se_var {i : Nat} {x : Str} {pos : Pos} (hN : X.N[i]? = some x) (hv : Vis X.env.scope x) (hd : (x == ("__debug__" : Str)) = false) (hcd : (x == ("__classdict__" : Str)) = false) :
    SE X C E (varD i) (.Name x pos) :=
  PE.weak (pe_var hN hv hd hcd) fun σ H Q h => by
    obtain ⟨S, ρ, st, rp, rn, h⟩ := h
    unfold varD at h
    cases e : ρ[i]? with
    | none => rw [e] at h; exact h.elim
    | some o =>
      cases o with
      | none => rw [e] at h; exact h.elim
      | some d =>
        rw [e] at h
        obtain ⟨v, h1, h2⟩ := rn.at_ i d e
        exact ⟨v, h1, h.end_ (.refl S H) rp h2⟩
theorem se_con {e : Expr} {v : V} {d : D} (h : PE X e (tC v)) (hv : ∀ S, RV C S d v) : SE X C E (fun _ st => .ok d st) e :=
  PE.weak h fun σ H Q h => by
    obtain ⟨S, ρ, st, rp, rn, h⟩ := h
    exact h.end_ (.refl S H) rp (hv S)

/-! ### two operands -/
/-- an operation on values that does what op says -/
def OpS (X : Cx) (C : Kc) (E : L2.St → XK) (f : Value → Value → Sem Value) (op : D → D → Store → R D) : Prop :=
  ∀ (pins : List (Addr × Obj)) (s : Shared) (σ : L2.St) (H : Hp) (x y : V) (v u : Value) (Q : VK) (S : Rp) (st : Store) (a b : D), Inv X pins σ H s → RelV x v → RelV y u →
    Rep C S st H → RV C S a x → RV C S b y → Post C (rV C) S H (op a b st) Q (E σ) → wpAny (model X.prog X.w) X.A (f v u) (EP X pins σ Q) X.xe s
theorem bin_read {fa fb : Fx D} {op : D → D → Store → R D} {σ : L2.St} {H : Hp} {Q : VK} {K : V → V → Hp → Prop}
    (h : tF C (rV C) E (fun ρ st => (fa ρ st).bind fun x st1 => (fb ρ st1).bind fun y st2 => op x y st2) σ H Q)
    (k : ∀ x y H2 S st a b, Rep C S st H2 → RV C S a x → RV C S b y → Post C (rV C) S H2 (op a b st) Q (E σ) → K x y H2) :
    tF C (rV C) E fa σ H fun x H1 => tF C (rV C) E fb σ H1 fun y H2 => K x y H2 := by
  obtain ⟨S, ρ, st, rp, rn, h⟩ := h
  refine ⟨S, ρ, st, rp, rn, h.bind fun a st1 S1 H1 x g1 rp1 rv1 h1 => ?_⟩
  refine ⟨S1, ρ, st1, rp1, rn.mono g1.ext, h1.bind fun b st2 S2 H2 y g2 rp2 rv2 h2 => ?_⟩
  exact k x y H2 S2 st2 a b rp2 (RV.mono g2.ext rv1) rv2 h2
theorem se_bin {a b : Expr} {fa fb : Fx D} {o : Operator} {op : D → D → Store → R D} {pos : Pos} (ha : SE X C E fa a) (hb : SE X C E fb b) (hf : OpS X C E (binaryOp o) op) :
    SE X C E (fun ρ st => (fa ρ st).bind fun x st1 => (fb ρ st1).bind fun y st2 => op x y st2) (.BinOp a o b pos) := by
  refine ⟨fun pins s σ H Q I h => ?_⟩
  refine wpAny_BinOp (bin (R := fun x y H2 => ∃ S st da db, Rep C S st H2 ∧ RV C S da x ∧ RV C S db y ∧ Post C (rV C) S H2 (op da db st) Q (E σ)) ha hb I (bin_read h fun x y H2 S st da db h1 h2 h3 h4 => ⟨S, st, da, db, h1, h2, h3, h4⟩) fun v u s2 x y H2 I2 rx ry q => ?_)
  obtain ⟨S, st, da, db, h1, h2, h3, h4⟩ := q
  exact hf pins s2 σ H2 x y v u Q S st da db I2 rx ry h1 h2 h3 h4
theorem se_cmp {a b : Expr} {fa fb : Fx D} {o : CmpOp} {op : D → D → Store → R D} {pos : Pos} (ha : SE X C E fa a) (hb : SE X C E fb b) (hf : OpS X C E (compareOp o) op) (hm : behindInMarks o b = false) :
    SE X C E (fun ρ st => (fa ρ st).bind fun x st1 => (fb ρ st1).bind fun y st2 => op x y st2) (.Compare a [o] [b] pos) := by
  refine ⟨fun pins s σ H Q I h => ?_⟩
  refine wpAny_Compare1 (bin (R := fun x y H2 => ∃ S st da db, Rep C S st H2 ∧ RV C S da x ∧ RV C S db y ∧ Post C (rV C) S H2 (op da db st) Q (E σ)) ha hb I (bin_read h fun x y H2 S st da db h1 h2 h3 h4 => ⟨S, st, da, db, h1, h2, h3, h4⟩) fun v u s2 x y H2 I2 rx ry q => ?_) hm
  obtain ⟨S, st, da, db, h1, h2, h3, h4⟩ := q
  exact hf pins s2 σ H2 x y v u Q S st da db I2 rx ry h1 h2 h3 h4

/-! ### what stands for a list -/
theorem Post.bad {α β : Type} {rel : Rel α β} {S : Rp} {H : Hp} {Q : β → Hp → Prop} {E : XK} {P : Prop} (h : Post C rel S H .bad Q E) : P := h.elim
theorem rv_non {S : Rp} {v : V} : RV C S .non v ↔ v = .non := by rw [RV]
theorem rv_bl {S : Rp} {v : V} {b : Bool} : RV C S (.bl b) v ↔ v = .bl b := by rw [RV]
theorem rv_int {S : Rp} {v : V} {b : Int} : RV C S (.int b) v ↔ v = .int b := by rw [RV]
theorem rv_str {S : Rp} {v : V} {b : Str} : RV C S (.str b) v ↔ v = .str b := by rw [RV]
theorem rv_tup {S : Rp} {v : V} {ds : List D} : RV C S (.tup ds) v ↔ ∃ a vs, v = .ref a ∧ SqT C.K S.G a vs ∧ RVs C S ds vs := by rw [RV]
theorem rv_lst {S : Rp} {v : V} {ds : List D} : RV C S (.lst ds) v ↔ ∃ a vs, v = .ref a ∧ S.G a = some (.lst vs) ∧ RVs C S ds vs := by rw [RV]
theorem rv_lck {S : Rp} {v : V} {ds : List D} : RV C S (.lck ds) v ↔ ∃ a vs, v = .ref a ∧ SqL C.K S.G a vs ∧ RVs C S ds vs := by rw [RV]
theorem rv_cell {S : Rp} {v : V} {n : Nat} : RV C S (.cell n) v ↔ ∃ a, v = .ref a ∧ S.m[n]? = some a := by rw [RV]
theorem rv_dct {S : Rp} {v : V} {ks us : List D} : RV C S (.dct ks us) v ↔ ∃ (a : Addr) (kvs : List (Key × V)), v = .ref a ∧ S.G a = some (.dK kvs) ∧ ks = kvs.map (fun p => kD p.1) ∧ RVs C S us (kvs.map (·.2)) := by rw [RV]
theorem rv_obj {S : Rp} {v : V} {c : Str} {ns : List Str} {us : List D} : RV C S (.obj c ns us) v ↔ ∃ (a A dx : Addr) (fs : List (Str × V)), v = .ref a ∧ C.cm c = some A ∧ S.G a = some (.ins A dx fs) ∧ ns = fs.map (·.1) ∧ RVs C S us (fs.map (·.2)) := by rw [RV]
/-- the representation, all of the heap frozen -/
def Rp.all (S : Rp) (H : Hp) : Rp := ⟨H, S.m⟩
theorem Rep.allE {S : Rp} {st : Store} {H : Hp} (r : Rep C S st H) : Ext' S (S.all H) := ⟨r.fz, fun _ _ h => h⟩
/-- the items too: one level down the items stand as they did -/
theorem trk_lst {S : Rp} {st : Store} {H : Hp} {d : D} {xs : List D} {v : V} (r : Rep C S st H) (h : RV C S d v) (e : trkOf st d = some xs) : ∃ a vs, v = .ref a ∧ H a = some (.lst vs) ∧ RVs C S xs vs := by
  cases d with
  | cell n =>
    have e : (match (st[n]?).map moD with | some (.lst xs) => some xs | _ => none) = some xs := e
    obtain ⟨a, rfl, ha⟩ := rv_cell.mp h
    cases q : st[n]? with
    | none => rw [q] at e; cases e
    | some mo =>
      rw [q] at e
      obtain ⟨a', o, h1, h2, h3, h4⟩ := r.at_ n mo q
      rw [ha] at h1; cases h1
      cases mo with
      | lst xs =>
        cases e
        obtain ⟨vs, rfl, h5⟩ := h4
        exact ⟨a, vs, rfl, h3, h5⟩
      | dct ks vs => cases e
      | ins c ns vs => cases e
  | lst ys =>
    cases e
    obtain ⟨a, vs, rfl, h1, h2⟩ := rv_lst.mp h
    exact ⟨a, vs, rfl, r.fz _ _ h1, h2⟩
  | non => cases e
  | bl _ => cases e
  | int _ => cases e
  | str _ => cases e
  | tup _ => cases e
  | dct _ _ => cases e
  | obj _ _ _ => cases e
  | ty _ => cases e
  | lck _ => cases e
theorem look_lst {S : Rp} {st : Store} {H : Hp} {d : D} {xs : List D} {v : V} (r : Rep C S st H) (h : RV C S d v) (e : look st d = some (.lst xs)) : ∃ a vs, v = .ref a ∧ SqL C.K H a vs ∧ RVs C S xs vs := by
  have key : trkOf st d = some xs → ∃ a vs, v = .ref a ∧ SqL C.K H a vs ∧ RVs C S xs vs := fun q => by
    obtain ⟨a, vs, h1, h2, h3⟩ := trk_lst r h q
    exact ⟨a, vs, h1, .inl (.inl h2), h3⟩
  cases d with
  | cell n =>
    refine key ?_
    show (match look st (.cell n) with | some (.lst xs) => some xs | _ => none) = some xs
    rw [e]
  | lst ys => cases e; exact key rfl
  | lck ys =>
    cases e
    obtain ⟨a, vs, rfl, h1, h2⟩ := rv_lck.mp h
    exact ⟨a, vs, rfl, sqL_mono r.fz h1, h2⟩
  | non => cases e
  | bl _ => cases e
  | int _ => cases e
  | str _ => cases e
  | tup _ => cases e
  | dct _ _ => cases e
  | obj _ _ _ => cases e
  | ty _ => cases e
theorem look_tup {S : Rp} {st : Store} {H : Hp} {d : D} {xs : List D} {v : V} (r : Rep C S st H) (h : RV C S d v) (e : look st d = some (.tup xs)) : ∃ a vs, v = .ref a ∧ SqT C.K S.G a vs ∧ RVs C S xs vs := by
  cases d with
  | cell n =>
    rw [look_cell] at e
    cases q : st[n]? with
    | none => rw [q] at e; cases e
    | some mo =>
      rw [q] at e
      cases mo <;> exact nomatch e
  | tup ys =>
    cases e
    exact rv_tup.mp h
  | non => cases e
  | bl _ => cases e
  | int _ => cases e
  | str _ => cases e
  | lst _ => cases e
  | dct _ _ => cases e
  | obj _ _ _ => cases e
  | ty _ => cases e
  | lck _ => cases e
theorem look_str {st : Store} {d : D} {x : Str} (e : look st d = some (.str x)) : d = .str x := by
  cases d with
  | cell n =>
    rw [look_cell] at e
    cases q : st[n]? with
    | none => rw [q] at e; cases e
    | some mo =>
      rw [q] at e
      cases mo <;> exact nomatch e
  | str y => cases e; rfl
  | non => cases e
  | bl _ => cases e
  | int _ => cases e
  | tup _ => cases e
  | lst _ => cases e
  | dct _ _ => cases e
  | obj _ _ _ => cases e
  | ty _ => cases e
  | lck _ => cases e
theorem lstOf_some {S : Rp} {st : Store} {H : Hp} {d : D} {xs : List D} {v : V} (r : Rep C S st H) (h : RV C S d v) (e : lstOf st d = some xs) : ∃ a vs, v = .ref a ∧ SqL C.K H a vs ∧ RVs C S xs vs := by
  unfold lstOf at e
  cases q : look st d with
  | none => rw [q] at e; cases e
  | some z =>
    rw [q] at e
    cases z with
    | lst ys =>
      cases e
      exact look_lst r h q
    | non => cases e
    | bl _ => cases e
    | int _ => cases e
    | str _ => cases e
    | tup _ => cases e
    | dct _ _ => cases e
    | obj _ _ _ => cases e
    | ty _ => cases e
    | cell _ => cases e
    | lck _ => cases e
theorem lim_line {n : Nat} (h : n ≤ lim) : n ≤ sizeLine := Nat.le_trans h (by decide)
theorem lim_lt {n : Nat} (h : n ≤ lim) : n < sizeLine := Nat.lt_of_le_of_lt h (by decide)
theorem mkL_len {mu : Nat} {xs : List D} {S : Rp} {st : Store} {H : Hp} {Q : VK} {E : XK} (h : Post C (rV C) S H (mkL mu xs st) Q E) : xs.length ≤ lim := by
  unfold mkL at h
  by_cases z : xs.length ≤ lim
  · exact z
  · rw [if_neg z] at h; exact h.bad
theorem mkL_post {mu : Nat} {xs : List D} {vs : List V} {S : Rp} {st : Store} {H : Hp} {Q : VK} {E : XK} (h : Post C (rV C) S H (mkL mu xs st) Q E) (r : Rep C S st H) (k : RVs C S xs vs) {p : Addr} (hp : H p = none) : Q (.ref p) (upd H p (.lst vs)) := by
  have hl := mkL_len h
  unfold mkL at h
  rw [if_pos hl] at h
  by_cases z : mu = 0
  · rw [if_pos z] at h
    refine h.end_ (Go.newF (r.free hp) hp) (r.newF hp) ?_
    exact rv_lst.mpr ⟨p, vs, rfl, upd_same, k.mono (Ext.fz (r.free hp))⟩
  · rw [if_neg z] at h
    refine h.end_ (Go.newC hp) (r.newC (mo := .lst xs) hp ⟨vs, rfl, k⟩) ?_
    refine rv_cell.mpr ⟨p, rfl, ?_⟩
    show (S.m ++ [p])[st.length]? = some p
    rw [← r.len]; simp
theorem mkT_len {xs : List D} {S : Rp} {st : Store} {H : Hp} {Q : VK} {E : XK} (h : Post C (rV C) S H (mkT xs st) Q E) : xs.length ≤ lim := by
  unfold mkT at h
  by_cases z : xs.length ≤ lim
  · exact z
  · rw [if_neg z] at h; exact h.bad
theorem tup_new {xs : List D} {vs : List V} {S : Rp} {st : Store} {H : Hp} {Q : VK} {E : XK} (h : Post C (rV C) S H (.ok (.tup xs) st) Q E) (r : Rep C S st H) (k : RVs C S xs vs) {p : Addr} (hp : H p = none) : Q (.ref p) (upd H p (.tup vs)) := by
  refine h.end_ (Go.newF (r.free hp) hp) (r.newF hp) ?_
  exact rv_tup.mpr ⟨p, vs, rfl, .inl (.inl upd_same), k.mono (Ext.fz (r.free hp))⟩
theorem mkT_ok {xs : List D} {S : Rp} {st : Store} {H : Hp} {Q : VK} {E : XK} (h : Post C (rV C) S H (mkT xs st) Q E) : Post C (rV C) S H (.ok (.tup xs) st) Q E := by
  have hl := mkT_len h
  unfold mkT at h
  rw [if_pos hl] at h
  exact h
end
end Px

/-! Px4: operators. -/
namespace Px
open PySem PySem.Spec PyProof.Rows L2
section
variable {X : Cx} {C : Kc} {E : L2.St → XK} {k : Nat}

theorem post_ite {α β : Type} {rel : Rel α β} {c : Prop} [Decidable c] {S : Rp} {H : Hp} {r : R α} {Q : β → Hp → Prop} {E : XK} (h : Post C rel S H (if c then r else .bad) Q E) : c ∧ Post C rel S H r Q E := by
  by_cases z : c
  · rw [if_pos z] at h; exact ⟨z, h⟩
  · rw [if_neg z] at h; exact h.bad
theorem post_same {S : Rp} {H : Hp} {d : D} {v : V} {st : Store} {Q : VK} {E : XK} (h : Post C (rV C) S H (.ok d st) Q E) (rp : Rep C S st H) (rv : RV C S d v) : Q v H := h.end_ (.refl S H) rp rv
theorem post_ofO {S : Rp} {H : Hp} {o : Option D} {st : Store} {Q : VK} {E : XK} (h : Post C (rV C) S H (ofO o st) Q E) : ∃ d, o = some d ∧ Post C (rV C) S H (.ok d st) Q E := by
  cases o with
  | none => exact h.bad
  | some d => exact ⟨d, rfl, h⟩

theorem mul_fit {i j : Int} (h : mulOk i j = true) : IntMulOk i j := by
  unfold mulOk intSmall at h
  simp only [Bool.or_eq_true, decide_eq_true_eq] at h
  rcases h with (h | h) | h
  · refine CMul.ok (.inl ⟨?_, ?_⟩) <;> omega
  · refine CMul.ok (.inr ⟨?_, ?_⟩) <;> omega
  · exact CMulW.ok (show i.natAbs.log2 + j.natAbs.log2 < 1000000 by omega)
theorem op_mulA : OpR X (binaryOp .Mult) (rI (fun i j => mulOk i j = true) fun i j => .int (i * j)) := opI fun _ _ _ _ _ _ _ hc q => mul_int q (mul_fit hc)

/-- + -/
theorem os_add {E' : L2.St → XK} (hX : XOk X C k E) (mu : Nat) : OpS X C E' (binaryOp .Add) (binD mu .Add) := by
  intro pins s σ H x y v u Q S st a b I rx ry rp ra rb h
  have lists : (match trkOf st a, trkOf st b with | some xs, some ys => mkL mu (xs ++ ys) st | _, _ => .bad) = binD mu .Add a b st → wpAny (model X.prog X.w) X.A (binaryOp .Add v u) (EP X pins σ Q) X.xe s := fun e => by
    rw [← e] at h
    cases e1 : trkOf st a with
    | none => rw [e1] at h; exact h.bad
    | some xs =>
      cases e2 : trkOf st b with
      | none => rw [e1, e2] at h; exact h.bad
      | some ys =>
        rw [e1, e2] at h
        obtain ⟨l, vs, rfl, h1, h2⟩ := trk_lst rp ra e1
        obtain ⟨l', us, rfl, h3, h4⟩ := trk_lst rp rb e2
        have hl := mkL_len h
        refine op_cat pins s σ H _ _ v u Q I rx ry ⟨l, l', vs, us, rfl, rfl, h1, h3, ?_, fun p hp => mkL_post h rp (h2.append h4) hp⟩
        rw [← h2.length, ← h4.length, ← List.length_append]
        exact lim_line hl
  cases a <;> first
    | (refine lists ?_; cases b <;> rfl)
    | skip
  case int i =>
    cases b <;> first
      | exact Post.bad (C := C) h
      | exact lists rfl
      | skip
    case int j =>
      exact op_add pins s σ H x y v u Q I rx ry ⟨i, j, rv_int.mp ra, rv_int.mp rb, post_same h rp (rv_int.mpr rfl)⟩
  case str i =>
    cases b <;> first
      | exact Post.bad (C := C) h
      | exact lists rfl
      | skip
    case str j =>
      obtain ⟨h0, h⟩ := post_ite h
      exact op_add_str pins s σ H x y v u Q I rx ry ⟨i, j, rv_str.mp ra, rv_str.mp rb, lim_line h0, post_same h rp (rv_str.mpr rfl)⟩
  case tup xs =>
    cases b <;> first
      | exact Post.bad (C := C) h
      | exact lists rfl
      | skip
    case tup ys =>
      have h : Post C (rV C) S H (mkT (xs ++ ys) st) Q (E' σ) := h
      have hl := mkT_len h
      have h := mkT_ok h
      obtain ⟨l, vs, rfl, h1, h2⟩ := rv_tup.mp ra
      obtain ⟨l', us, rfl, h3, h4⟩ := rv_tup.mp rb
      rw [← hX.K] at h1 h3
      refine op_catA pins s σ H _ _ v u Q I rx ry ⟨l, l', vs, us, rfl, rfl, sqT_mono rp.fz h1, sqT_mono rp.fz h3, ?_, fun e => ?_, fun e e' => ?_, fun e e' p hp => tup_new h rp (h2.append h4) hp⟩
      · rw [← h2.length, ← h4.length, ← List.length_append]
        exact lim_line hl
      · subst e
        have : xs = [] := by have := h2.length; simpa using this
        subst this
        exact post_same h rp rb
      · subst e'
        have : ys = [] := by have := h4.length; simpa using this
        subst this
        rw [List.append_nil] at h
        exact post_same h rp ra
theorem os_sub {E' : L2.St → XK} (hX : XOk X C k E) (mu : Nat) : OpS X C E' (binaryOp .Sub) (binD mu .Sub) := by
  intro pins s σ H x y v u Q S st a b I rx ry rp ra rb h
  cases a <;> first
    | (cases b <;> exact Post.bad (C := C) h)
    | skip
  case int i =>
    cases b <;> first
      | exact Post.bad (C := C) h
      | skip
    case int j =>
      exact op_sub pins s σ H x y v u Q I rx ry ⟨i, j, rv_int.mp ra, rv_int.mp rb, post_same h rp (rv_int.mpr rfl)⟩
theorem os_fdiv {E' : L2.St → XK} (hX : XOk X C k E) (mu : Nat) : OpS X C E' (binaryOp .FloorDiv) (binD mu .FloorDiv) := by
  intro pins s σ H x y v u Q S st a b I rx ry rp ra rb h
  cases a <;> first
    | (cases b <;> exact Post.bad (C := C) h)
    | skip
  case int i =>
    cases b <;> first
      | exact Post.bad (C := C) h
      | skip
    case int j =>
      obtain ⟨h0, h⟩ := post_ite h
      rw [Bool.and_eq_true, decide_eq_true_eq, decide_eq_true_eq] at h0
      exact op_fdiv pins s σ H x y v u Q I rx ry ⟨i, j, rv_int.mp ra, rv_int.mp rb, h0, post_same h rp (rv_int.mpr rfl)⟩
theorem os_mod {E' : L2.St → XK} (hX : XOk X C k E) (mu : Nat) : OpS X C E' (binaryOp .Mod) (binD mu .Mod) := by
  intro pins s σ H x y v u Q S st a b I rx ry rp ra rb h
  cases a <;> first
    | (cases b <;> exact Post.bad (C := C) h)
    | skip
  case int i =>
    cases b <;> first
      | exact Post.bad (C := C) h
      | skip
    case int j =>
      obtain ⟨h0, h⟩ := post_ite h
      exact op_mod pins s σ H x y v u Q I rx ry ⟨i, j, rv_int.mp ra, rv_int.mp rb, h0, post_same h rp (rv_int.mpr rfl)⟩
theorem os_pow {E' : L2.St → XK} (hX : XOk X C k E) (mu : Nat) : OpS X C E' (binaryOp .Pow) (binD mu .Pow) := by
  intro pins s σ H x y v u Q S st a b I rx ry rp ra rb h
  cases a <;> first
    | (cases b <;> exact Post.bad (C := C) h)
    | skip
  case int i =>
    cases b <;> first
      | exact Post.bad (C := C) h
      | skip
    case int j =>
      obtain ⟨h0, h⟩ := post_ite h
      simp only [Bool.and_eq_true, decide_eq_true_eq] at h0
      obtain ⟨h1, h2⟩ := h0
      rw [rv_int] at ra rb
      subst ra rb
      obtain ⟨t, rfl⟩ := rx
      obtain ⟨t', rfl⟩ := ry
      refine pow_int h1 ?_ ⟨.int _, H, I.tok _, ⟨_, rfl⟩, post_same h rp (rv_int.mpr rfl)⟩
      have b : Builtin.Int.intBits i ≤ i.natAbs.log2 + 1 := by
        unfold Builtin.Int.intBits
        split <;> omega
      have e : ((Builtin.Int.intBits i : Nat) : Int) * j = ((Builtin.Int.intBits i * j.toNat : Nat) : Int) := by
        rw [Int.natCast_mul, Int.toNat_of_nonneg h1]
      rw [e]
      have := Nat.mul_le_mul_right j.toNat b
      have h3 : Builtin.Int.intBits i * j.toNat ≤ 1000000 := Nat.le_trans this h2
      have h4 : ((Builtin.Int.intBits i * j.toNat : Nat) : Int) ≤ 1000000 := Int.ofNat_le.mpr h3
      exact Int.le_trans h4 (by decide)
theorem os_mul {E' : L2.St → XK} (hX : XOk X C k E) (mu : Nat) : OpS X C E' (binaryOp .Mult) (binD mu .Mult) := by
  intro pins s σ H x y v u Q S st a b I rx ry rp ra rb h
  have lists : ∀ k : Int, b = .int k → (match trkOf st a with | some xs => (if xs.length * k.toNat ≤ lim && decide (-(2 ^ 63) ≤ k) && decide (k < 2 ^ 63) then mkL mu (List.replicate k.toNat xs).flatten st else .bad) | none => .bad) = binD mu .Mult a b st → wpAny (model X.prog X.w) X.A (binaryOp .Mult v u) (EP X pins σ Q) X.xe s := fun k hk e => by
    rw [← e] at h
    cases e1 : trkOf st a with
    | none => rw [e1] at h; exact h.bad
    | some xs =>
      rw [e1] at h
      obtain ⟨h0, h⟩ := post_ite h
      simp only [Bool.and_eq_true, decide_eq_true_eq] at h0
      obtain ⟨l, vs, rfl, h1, h2⟩ := trk_lst rp ra e1
      subst hk
      refine op_rep pins s σ H _ _ v u Q I rx ry ⟨l, k, vs, rfl, rv_int.mp rb, h1, h0.1.2, h0.2, ?_, fun p hp => mkL_post h rp ?_ hp⟩
      · rw [← h2.length]; exact lim_line h0.1.1
      · clear h h0 e
        induction k.toNat with
        | zero => exact .nil
        | succ n ih =>
          rw [List.replicate_succ, List.replicate_succ, List.flatten_cons, List.flatten_cons]
          exact h2.append ih
  cases a <;> first
    | (cases b <;> first | exact Post.bad (C := C) h | exact lists _ rfl rfl)
    | skip
  case int i =>
    cases b <;> first
      | exact Post.bad (C := C) h
      | skip
    case int j =>
      obtain ⟨h0, h⟩ := post_ite h
      exact op_mulA pins s σ H x y v u Q I rx ry ⟨i, j, rv_int.mp ra, rv_int.mp rb, h0, post_same h rp (rv_int.mpr rfl)⟩
  case tup xs =>
    cases b <;> first
      | exact Post.bad (C := C) h
      | skip
    case int j =>
      obtain ⟨h0, h⟩ := post_ite h
      simp only [Bool.and_eq_true, decide_eq_true_eq, Bool.not_eq_true', List.isEmpty_eq_false_iff] at h0
      obtain ⟨⟨⟨z1, z2⟩, z3⟩, z4⟩ := h0
      obtain ⟨l, vs, rfl, h1, h2⟩ := rv_tup.mp ra
      rw [← hX.K] at h1
      have hl := h2.length
      refine op_repT pins s σ H _ _ v u Q I rx ry ⟨l, j, vs, rfl, rv_int.mp rb, sqT_mono rp.fz h1, ?_, z2, z3, by omega, fun p hp => tup_new h rp ?_ hp⟩
      · rintro rfl
        exact z4 (by simpa using hl)
      · clear h
        induction j.toNat with
        | zero => exact .nil
        | succ n ih =>
          rw [List.replicate_succ, List.replicate_succ, List.flatten_cons, List.flatten_cons]
          exact h2.append ih
end
end Px

/-! Px5: views; equality; repr; places and slices. -/
namespace Px
open PySem PySem.Spec PyProof.Rows L2
section
variable {X : Cx} {C : Kc} {E : L2.St → XK} {k : Nat}

/-! ### views -/
mutual
theorem RV.monoG {S S' : Rp} (g : ∀ a o, S.G a = some o → S'.G a = some o) : ∀ {d : D} {v : V}, noCell d = true → RV C S d v → RV C S' d v
  | .non, v, _, h => by rw [RV] at h ⊢; exact h
  | .bl _, v, _, h => by rw [RV] at h ⊢; exact h
  | .int _, v, _, h => by rw [RV] at h ⊢; exact h
  | .str _, v, _, h => by rw [RV] at h ⊢; exact h
  | .ty _, v, _, h => by rw [RV] at h ⊢; exact h
  | .cell n, v, c, h => by rw [noCell] at c; cases c
  | .tup ds, v, c, h => by
    rw [noCell] at c
    rw [RV] at h ⊢
    obtain ⟨a, vs, e1, e2, e3⟩ := h
    exact ⟨a, vs, e1, sqT_mono g e2, RVs.monoG g c e3⟩
  | .lst ds, v, c, h => by
    rw [noCell] at c
    rw [RV] at h ⊢
    obtain ⟨a, vs, e1, e2, e3⟩ := h
    exact ⟨a, vs, e1, g _ _ e2, RVs.monoG g c e3⟩
  | .lck ds, v, c, h => by
    rw [noCell] at c
    rw [RV] at h ⊢
    obtain ⟨a, vs, e1, e2, e3⟩ := h
    exact ⟨a, vs, e1, sqL_mono g e2, RVs.monoG g c e3⟩
  | .dct ks us, v, c, h => by
    rw [noCell] at c
    rw [RV] at h ⊢
    obtain ⟨a, kvs, e1, e2, e3, e4⟩ := h
    exact ⟨a, kvs, e1, g _ _ e2, e3, RVs.monoG g c e4⟩
  | .obj cc ns us, v, c, h => by
    rw [noCell] at c
    rw [RV] at h ⊢
    obtain ⟨a, A, dx, fs, e1, e2, e3, e4, e5⟩ := h
    exact ⟨a, A, dx, fs, e1, e2, g _ _ e3, e4, RVs.monoG g c e5⟩
theorem RVs.monoG {S S' : Rp} (g : ∀ a o, S.G a = some o → S'.G a = some o) : ∀ {ds : List D} {vs : List V}, noCells ds = true → RVs C S ds vs → RVs C S' ds vs
  | [], vs, _, h => by rw [RVs] at h ⊢; exact h
  | d :: ds, vs, c, h => by
    rw [noCells, Bool.and_eq_true] at c
    rw [RVs] at h ⊢
    obtain ⟨v, r, e1, e2, e3⟩ := h
    exact ⟨v, r, e1, RV.monoG g c.1 e2, RVs.monoG g c.2 e3⟩
end
mutual
theorem frz_rv {S S' : Rp} {f : Nat → Option D} (hf : ∀ n d a, f n = some d → S.m[n]? = some a → RV C S' d (.ref a)) (e : ∀ a o, S.G a = some o → S'.G a = some o) : ∀ {d d' : D} {v : V}, RV C S d v → frz f d = some d' → RV C S' d' v
  | .cell n, d', v, h, q => by
    obtain ⟨a, rfl, ha⟩ := rv_cell.mp h
    rw [frz] at q
    exact hf n d' a q ha
  | .tup xs, d', v, h, q => by
    rw [frz] at q
    cases z : frzs f xs with
    | none => rw [z] at q; cases q
    | some ys =>
      rw [z] at q; cases q
      obtain ⟨a, vs, rfl, h1, h2⟩ := rv_tup.mp h
      exact rv_tup.mpr ⟨a, vs, rfl, sqT_mono e h1, frzs_rv hf e h2 z⟩
  | .lst xs, d', v, h, q => by
    rw [frz] at q
    cases z : frzs f xs with
    | none => rw [z] at q; cases q
    | some ys =>
      rw [z] at q; cases q
      obtain ⟨a, vs, rfl, h1, h2⟩ := rv_lst.mp h
      exact rv_lst.mpr ⟨a, vs, rfl, e _ _ h1, frzs_rv hf e h2 z⟩
  | .dct ks us, d', v, h, q => by
    rw [frz] at q
    cases z : frzs f us with
    | none => rw [z] at q; cases q
    | some ys =>
      rw [z] at q; cases q
      obtain ⟨a, kvs, rfl, h1, h2, h3⟩ := rv_dct.mp h
      exact rv_dct.mpr ⟨a, kvs, rfl, e _ _ h1, h2, frzs_rv hf e h3 z⟩
  | .obj c ns us, d', v, h, q => by
    rw [frz] at q
    cases z : frzs f us with
    | none => rw [z] at q; cases q
    | some ys =>
      rw [z] at q; cases q
      obtain ⟨a, A, dx, fs, rfl, h1, h2, h3, h4⟩ := rv_obj.mp h
      exact rv_obj.mpr ⟨a, A, dx, fs, rfl, h1, e _ _ h2, h3, frzs_rv hf e h4 z⟩
  | .non, d', v, h, q => by rw [frz] at q; cases q; exact h.monoG e rfl
  | .bl _, d', v, h, q => by rw [frz] at q; cases q; exact h.monoG e rfl
  | .int _, d', v, h, q => by rw [frz] at q; cases q; exact h.monoG e rfl
  | .str _, d', v, h, q => by rw [frz] at q; cases q; exact h.monoG e rfl
  | .ty _, d', v, h, q => by rw [frz] at q; cases q; exact h.monoG e rfl
  | .lck xs, d', v, h, q => by
    rw [frz] at q
    split at q
    · rename_i c
      cases q
      exact h.monoG e (by rw [noCell]; exact c)
    · cases q
theorem frzs_rv {S S' : Rp} {f : Nat → Option D} (hf : ∀ n d a, f n = some d → S.m[n]? = some a → RV C S' d (.ref a)) (e : ∀ a o, S.G a = some o → S'.G a = some o) : ∀ {ds ds' : List D} {vs : List V}, RVs C S ds vs → frzs f ds = some ds' → RVs C S' ds' vs
  | [], ds', vs, h, q => by
    rw [frzs] at q; cases q
    rw [RVs] at h; subst h
    exact .nil
  | d :: ds, ds', vs, h, q => by
    rw [frzs] at q
    rw [RVs] at h
    obtain ⟨v, r, rfl, h1, h2⟩ := h
    cases z1 : frz f d with
    | none => rw [z1] at q; cases q
    | some y =>
      cases z2 : frzs f ds with
      | none => rw [z1, z2] at q; cases q
      | some ys =>
        rw [z1, z2] at q; cases q
        exact .cons (frz_rv hf e h1 z1) (frzs_rv hf e h2 z2)
end
theorem cellV_rv {S : Rp} {st : Store} {H : Hp} (r : Rep C S st H) : ∀ (k n : Nat) (d : D) (a : Addr), cellV 0 st k n = some d → S.m[n]? = some a → RV C (S.all H) d (.ref a)
  | 0, n, d, a, h, q => by
    rw [cellV, if_neg (Nat.not_lt_zero n)] at h
    cases h
  | k + 1, n, d, a, h, q => by
    rw [cellV, if_neg (Nat.not_lt_zero n)] at h
    have ih := cellV_rv r k
    cases z : st[n]? with
    | none => rw [z] at h; cases h
    | some mo =>
      rw [z] at h
      obtain ⟨a', o, h1, h2, h3, h4⟩ := r.at_ n mo z
      rw [q] at h1; cases h1
      cases mo with
      | lst xs =>
        have h : (frzs (cellV 0 st k) xs).map D.lst = some d := h
        obtain ⟨vs, rfl, h5⟩ := h4
        cases y : frzs (cellV 0 st k) xs with
        | none => rw [y] at h; cases h
        | some ys =>
          rw [y] at h; cases h
          exact rv_lst.mpr ⟨a, vs, rfl, h3, frzs_rv ih r.fz h5 y⟩
      | dct ks us =>
        have h : (frzs (cellV 0 st k) us).map (D.dct ks) = some d := h
        obtain ⟨kvs, rfl, h5, h6⟩ := h4
        cases y : frzs (cellV 0 st k) us with
        | none => rw [y] at h; cases h
        | some ys =>
          rw [y] at h; cases h
          exact rv_dct.mpr ⟨a, kvs, rfl, h3, h5, frzs_rv ih r.fz h6 y⟩
      | ins c ns us =>
        have h : (frzs (cellV 0 st k) us).map (D.obj c ns) = some d := h
        obtain ⟨A, dx, fs, rfl, h5, h6, h7⟩ := h4
        cases y : frzs (cellV 0 st k) us with
        | none => rw [y] at h; cases h
        | some ys =>
          rw [y] at h; cases h
          exact rv_obj.mpr ⟨a, A, dx, fs, rfl, h5, h3, h6, frzs_rv ih r.fz h7 y⟩
theorem view_rv {S : Rp} {st : Store} {H : Hp} {d d' : D} {v : V} (r : Rep C S st H) (h : RV C S d v) (e : view st d = some d') : RV C (S.all H) d' v :=
  frz_rv (cellV_rv r 8) r.fz h e

/-! ### data read -/
theorem vals_dict {P : Program} {w : World} : ∀ {kvs : List (Key × V)} {vs : List (Key × Value)} {es : List DictEntry}, KV kvs vs → Pairs (mixKind P w) es vs → Vals (kvs.map (·.2)) (es.map (·.val)) ∧ Vals (kvs.map fun p => kV p.1) (es.map (·.key))
  | _, _, _, .nil, .nil => ⟨.nil, .nil⟩
  | _, _, _, .cons ⟨e1, e2⟩ r, .cons k1 k2 k3 => by
    obtain ⟨i1, i2⟩ := vals_dict r k3
    refine ⟨.cons ?_ i1, .cons ?_ i2⟩
    · show RelV _ (DictEntry.val _)
      rw [k2]; exact e2
    · rename_i p q _ _ e _
      show RelV (kV p.1) e.key
      rw [e1]
      have k1 : keyIs q.1 e.key = true := k1
      rcases keyIs_shape k1 with ⟨i, t, q1, q2⟩ | ⟨x, t, q1, q2⟩
      · rw [q1, q2]; exact ⟨t, rfl⟩
      · rw [q1, q2]; exact ⟨t, rfl⟩
theorem kD_rv {S : Rp} : ∀ k : Key, RV C S (kD k) (kV k)
  | .inl _ => rv_int.mpr rfl
  | .inr _ => rv_str.mpr rfl
theorem kDs_rv {S : Rp} : ∀ kvs : List (Key × V), RVs C S (kvs.map fun p => kD p.1) (kvs.map fun p => kV p.1)
  | [] => .nil
  | p :: kvs => .cons (kD_rv p.1) (kDs_rv kvs)
theorem zip_fst {α β : Type} : ∀ {a : List α} {b : List β}, a.length = b.length → (a.zip b).map (·.1) = a
  | [], [], _ => rfl
  | x :: a, y :: b, h => by simp [zip_fst (a := a) (b := b) (by simpa using h)]
theorem zip_snd {α β : Type} : ∀ {a : List α} {b : List β}, a.length = b.length → (a.zip b).map (·.2) = b
  | [], [], _ => rfl
  | x :: a, y :: b, h => by simp [zip_snd (a := a) (b := b) (by simpa using h)]
theorem pys_length : ∀ {ds : List D} {ps : List PyData}, pys ds = some ps → ps.length = ds.length
  | [], ps, h => by rw [pys] at h; cases h; rfl
  | d :: ds, ps, h => by
    rw [pys] at h
    cases z1 : d.py with
    | none => rw [z1] at h; cases h
    | some p =>
      cases z2 : pys ds with
      | none => rw [z1, z2] at h; cases h
      | some q =>
        rw [z1, z2] at h; cases h
        simp [pys_length z2]
mutual
theorem reads_of {pins : List (Addr × Obj)} {σ : L2.St} {H : Hp} {s : Shared} {S : Rp} (I : Inv X pins σ H s) (hK : X.K = C.K) (hsm : H sysModules = none) (g : ∀ a o, S.G a = some o → H a = some o) :
    ∀ {d : D} {p : PyData} {v : V} {u : Value}, RV C S d v → d.py = some p → RelV v u → ∃ as, Reads s.heap u p as ∧ sysModules ∉ as
  | .non, p, v, u, h, q, r => by
    rw [D.py] at q; cases q
    rw [rv_non.mp h] at r; cases r
    exact ⟨_, .none, by simp⟩
  | .bl b, p, v, u, h, q, r => by
    rw [D.py] at q; cases q
    rw [rv_bl.mp h] at r; cases r
    exact ⟨_, .bool b, by simp⟩
  | .int i, p, v, u, h, q, r => by
    rw [D.py] at q; cases q
    rw [rv_int.mp h] at r
    obtain ⟨t, rfl⟩ := r
    exact ⟨_, .int i t, by simp⟩
  | .str x, p, v, u, h, q, r => by
    rw [D.py] at q; cases q
    rw [rv_str.mp h] at r
    obtain ⟨t, rfl⟩ := r
    exact ⟨_, .str x t, by simp⟩
  | .tup xs, p, v, u, h, q, r => by
    rw [D.py] at q
    cases z : pys xs with
    | none => rw [z] at q; cases q
    | some ps =>
      rw [z] at q; cases q
      obtain ⟨a, vs, rfl, h1, h2⟩ := rv_tup.mp h
      cases r
      rw [← hK] at h1
      obtain ⟨its, rv, ⟨o, ho, hc, n, hd⟩, _⟩ := I.tuple (sqT_mono g h1)
      obtain ⟨as, hr, hm⟩ := readsAll_of I hK hsm g h2 z rv
      exact ⟨_, Reads.tuple ho hc hd hr, hm⟩
  | .lst xs, p, v, u, h, q, r => by
    rw [D.py] at q
    cases z : pys xs with
    | none => rw [z] at q; cases q
    | some ps =>
      rw [z] at q; cases q
      obtain ⟨a, vs, rfl, h1, h2⟩ := rv_lst.mp h
      cases r
      obtain ⟨its, n, rv, ho, _⟩ := I.lst (g _ _ h1)
      obtain ⟨as, hr, hm⟩ := readsAll_of I hK hsm g h2 z rv
      refine ⟨_, Reads.list ho rfl rfl hr, ?_⟩
      rw [List.mem_cons]
      rintro (e | e)
      · rw [← e] at h1; rw [g _ _ h1] at hsm; cases hsm
      · exact hm e
  | .dct ks us, p, v, u, h, q, r => by
    rw [D.py] at q
    cases z1 : pys ks with
    | none => rw [z1] at q; cases q
    | some ps =>
      cases z2 : pys us with
      | none => rw [z1, z2] at q; cases q
      | some qs =>
        rw [z1, z2] at q; cases q
        obtain ⟨a, kvs, rfl, h1, h2, h3⟩ := rv_dct.mp h
        cases r
        obtain ⟨_, hne, vs, kv, o, es, ep, ho, hx, hd, _, hp, _⟩ := I.hok a _ (g _ _ h1)
        obtain ⟨v1, v2⟩ := vals_dict kv hp
        obtain ⟨bs, hr2, hm2⟩ := readsAll_of I hK hsm g h3 z2 v1
        have hk : RVs C S ks (kvs.map fun p => kV p.1) := by rw [h2]; exact kDs_rv kvs
        obtain ⟨as, hr1, hm1⟩ := readsAll_of I hK hsm g hk z1 v2
        have hl : ps.length = qs.length := by
          rw [pys_length z1, pys_length z2, h3.length, h2]; simp
        refine ⟨_, Reads.dict ho hx.1 hd (by rw [zip_fst hl]; exact hr1) (by rw [zip_snd hl]; exact hr2), ?_⟩
        rw [List.cons_append, List.mem_cons, List.mem_append]
        rintro (e | e | e)
        · rw [← e] at h1; rw [g _ _ h1] at hsm; cases hsm
        · exact hm1 e
        · exact hm2 e
  | .obj _ _ _, p, v, u, h, q, r => by rw [D.py] at q; cases q
  | .cell _, p, v, u, h, q, r => by rw [D.py] at q; cases q
  | .ty _, p, v, u, h, q, r => by rw [D.py] at q; cases q
  | .lck _, p, v, u, h, q, r => by rw [D.py] at q; cases q
theorem readsAll_of {pins : List (Addr × Obj)} {σ : L2.St} {H : Hp} {s : Shared} {S : Rp} (I : Inv X pins σ H s) (hK : X.K = C.K) (hsm : H sysModules = none) (g : ∀ a o, S.G a = some o → H a = some o) :
    ∀ {ds : List D} {ps : List PyData} {vs : List V} {us : List Value}, RVs C S ds vs → pys ds = some ps → Vals vs us → ∃ as, ReadsAll s.heap us ps as ∧ sysModules ∉ as
  | [], ps, vs, us, h, q, r => by
    rw [pys] at q; cases q
    rw [RVs] at h; subst h
    cases r
    exact ⟨_, .nil, by simp⟩
  | d :: ds, ps, vs, us, h, q, r => by
    rw [pys] at q
    rw [RVs] at h
    obtain ⟨v, vr, rfl, h1, h2⟩ := h
    cases z1 : d.py with
    | none => rw [z1] at q; cases q
    | some p =>
      cases z2 : pys ds with
      | none => rw [z1, z2] at q; cases q
      | some qs =>
        rw [z1, z2] at q; cases q
        cases r with
        | cons r1 r2 =>
          obtain ⟨as, a1, a2⟩ := reads_of I hK hsm g h1 z1 r1
          obtain ⟨bs, b1, b2⟩ := readsAll_of I hK hsm g h2 z2 r2
          exact ⟨_, .cons a1 b1, fun hm => (List.mem_append.mp hm).elim a2 b2⟩
end
theorem sm_free (hX : XOk X C k E) {pins : List (Addr × Obj)} {σ : L2.St} {H : Hp} {s : Shared} (I : Inv X pins σ H s) : H sysModules = none := by
  obtain ⟨o, ho⟩ := hX.sm
  exact (I.bs _ _ ho).2

/-! ### == -/
theorem os_eq {E' : L2.St → XK} (hX : XOk X C k E) : OpS X C E' (compareOp .Eq) (cmpD .Eq) := by
  intro pins s σ H x y v u Q S st a b I rx ry rp ra rb h
  have h : Post C (rV C) S H (match eqD st a b with | some b => .ok (.bl b) st | none => .bad) Q (E' σ) := by
    cases a <;> cases b <;> exact h
  cases e : eqD st a b with
  | none => rw [e] at h; exact h.bad
  | some c =>
    rw [e] at h
    unfold eqD at e
    split at e
    · cases e
      rw [rv_str] at ra rb
      subst ra rb
      exact op_eq pins s σ H _ _ v u Q I rx ry ⟨rfl, by rw [dec_str]; exact post_same h rp (rv_bl.mpr rfl)⟩
    · cases e1 : view st a with
      | none => rw [e1] at e; cases e
      | some a' =>
        cases e2 : view st b with
        | none => rw [e1, e2] at e; cases e
        | some b' =>
          rw [e1, e2] at e
          cases e3 : a'.py with
          | none => simp only [e3] at e; cases e
          | some p =>
            cases e4 : b'.py with
            | none => simp only [e3, e4] at e; cases e
            | some q =>
              simp only [e3, e4] at e
              split at e
              · rename_i hs
                rw [Bool.and_eq_true] at hs
                cases e
                obtain ⟨as, r1, _⟩ := reads_of I hX.K (sm_free hX I) (fun _ _ h => h) (view_rv rp ra e1) e3 rx
                obtain ⟨bs, r2, _⟩ := reads_of I hX.K (sm_free hX I) (fun _ _ h => h) (view_rv rp rb e2) e4 ry
                exact SeqAt.compareEq_shaped r1 r2 hs.1 hs.2 hX.room.units ⟨.bl _, H, I, rfl, post_same h rp (rv_bl.mpr rfl)⟩
              · cases e
theorem os_ne {E' : L2.St → XK} (hX : XOk X C k E) : OpS X C E' (compareOp .NotEq) (cmpD .NotEq) := by
  intro pins s σ H x y v u Q S st a b I rx ry rp ra rb h
  have h : Post C (rV C) S H (match eqD st a b with | some b => .ok (.bl (!b)) st | none => .bad) Q (E' σ) := by
    cases a <;> cases b <;> exact h
  cases e : eqD st a b with
  | none => rw [e] at h; exact h.bad
  | some c =>
    rw [e] at h
    unfold eqD at e
    split at e
    · cases e
      rw [rv_str] at ra rb
      subst ra rb
      exact op_ne pins s σ H _ _ v u Q I rx ry ⟨rfl, by rw [dec_str]; exact post_same h rp (rv_bl.mpr rfl)⟩
    · cases e1 : view st a with
      | none => rw [e1] at e; cases e
      | some a' =>
        cases e2 : view st b with
        | none => rw [e1, e2] at e; cases e
        | some b' =>
          rw [e1, e2] at e
          cases e3 : a'.py with
          | none => simp only [e3] at e; cases e
          | some p =>
            cases e4 : b'.py with
            | none => simp only [e3, e4] at e; cases e
            | some q =>
              simp only [e3, e4] at e
              split at e
              · rename_i hs
                rw [Bool.and_eq_true] at hs
                cases e
                obtain ⟨as, r1, _⟩ := reads_of I hX.K (sm_free hX I) (fun _ _ h => h) (view_rv rp ra e1) e3 rx
                obtain ⟨bs, r2, _⟩ := reads_of I hX.K (sm_free hX I) (fun _ _ h => h) (view_rv rp rb e2) e4 ry
                exact SeqAt.compareNe_shaped r1 r2 hs.1 hs.2 hX.room.units ⟨.bl _, H, I, rfl, post_same h rp (rv_bl.mpr rfl)⟩
              · cases e
theorem os_lt {E' : L2.St → XK} (hX : XOk X C k E) : OpS X C E' (compareOp .Lt) (cmpD .Lt) := by
  intro pins s σ H x y v u Q S st a b I rx ry rp ra rb h
  cases a <;> first | (cases b <;> exact Post.bad (C := C) h) | skip
  case int i =>
    cases b <;> first | exact Post.bad (C := C) h | skip
    case int j => exact op_lt pins s σ H x y v u Q I rx ry ⟨i, j, rv_int.mp ra, rv_int.mp rb, post_same h rp (rv_bl.mpr rfl)⟩
theorem os_le {E' : L2.St → XK} (hX : XOk X C k E) : OpS X C E' (compareOp .LtE) (cmpD .LtE) := by
  intro pins s σ H x y v u Q S st a b I rx ry rp ra rb h
  cases a <;> first | (cases b <;> exact Post.bad (C := C) h) | skip
  case int i =>
    cases b <;> first | exact Post.bad (C := C) h | skip
    case int j => exact op_le pins s σ H x y v u Q I rx ry ⟨i, j, rv_int.mp ra, rv_int.mp rb, post_same h rp (rv_bl.mpr rfl)⟩
theorem os_gt {E' : L2.St → XK} (hX : XOk X C k E) : OpS X C E' (compareOp .Gt) (cmpD .Gt) := by
  intro pins s σ H x y v u Q S st a b I rx ry rp ra rb h
  cases a <;> first | (cases b <;> exact Post.bad (C := C) h) | skip
  case int i =>
    cases b <;> first | exact Post.bad (C := C) h | skip
    case int j => exact op_gt pins s σ H x y v u Q I rx ry ⟨i, j, rv_int.mp ra, rv_int.mp rb, post_same h rp (rv_bl.mpr rfl)⟩
theorem os_ge {E' : L2.St → XK} (hX : XOk X C k E) : OpS X C E' (compareOp .GtE) (cmpD .GtE) := by
  intro pins s σ H x y v u Q S st a b I rx ry rp ra rb h
  cases a <;> first | (cases b <;> exact Post.bad (C := C) h) | skip
  case int i =>
    cases b <;> first | exact Post.bad (C := C) h | skip
    case int j => exact op_ge pins s σ H x y v u Q I rx ry ⟨i, j, rv_int.mp ra, rv_int.mp rb, post_same h rp (rv_bl.mpr rfl)⟩
def isNon : D → Bool
  | .non => true
  | _ => false
theorem isNon_rv {S : Rp} {a : D} {x : V} (h : RV C S a x) : decide (x = .non) = isNon a := by
  cases a <;> first
    | (rw [rv_non] at h; subst h; rfl)
    | (rw [rv_bl] at h; subst h; rfl)
    | (rw [rv_int] at h; subst h; rfl)
    | (rw [rv_str] at h; subst h; rfl)
    | (rw [RV] at h; subst h; rfl)
    | (rw [RV] at h; obtain ⟨a, _, _, _, rfl, _⟩ := h; rfl)
    | (rw [RV] at h; obtain ⟨a, _, rfl, _⟩ := h; rfl)
    | (rw [RV] at h; obtain ⟨a, rfl, _⟩ := h; rfl)
theorem os_is {E' : L2.St → XK} (hX : XOk X C k E) : OpS X C E' (compareOp .Is) (cmpD .Is) := by
  intro pins s σ H x y v u Q S st a b I rx ry rp ra rb h
  cases b <;> first | (cases a <;> exact Post.bad (C := C) h) | skip
  have h : Post C (rV C) S H (.ok (.bl (isNon a)) st) Q (E' σ) := by cases a <;> exact h
  exact op_isN pins s σ H x y v u Q I rx ry ⟨rv_non.mp rb, by rw [isNon_rv ra]; exact post_same h rp (rv_bl.mpr rfl)⟩
theorem os_isn {E' : L2.St → XK} (hX : XOk X C k E) : OpS X C E' (compareOp .IsNot) (cmpD .IsNot) := by
  intro pins s σ H x y v u Q S st a b I rx ry rp ra rb h
  cases b <;> first | (cases a <;> exact Post.bad (C := C) h) | skip
  have h : Post C (rV C) S H (.ok (.bl (!isNon a)) st) Q (E' σ) := by cases a <;> exact h
  exact op_notN pins s σ H x y v u Q I rx ry ⟨rv_non.mp rb, by rw [isNon_rv ra]; exact post_same h rp (rv_bl.mpr rfl)⟩
end
end Px

/-! Px6: in; truth; tests; displays; places; built-in calls. -/
namespace Px
open PySem PySem.Spec PyProof.Rows L2
section
variable {X : Cx} {C : Kc} {E E' : L2.St → XK} {k : Nat}

/-! ### in -/
theorem eqF_rv {S : Rp} {a b : D} {x y : V} (ha : flatD a = true) (hb : flatD b = true) (ra : RV C S a x) (rb : RV C S b y) : eqV x y = eqF a b := by
  cases a <;> first | exact absurd ha Bool.false_ne_true | skip
  all_goals (first | rw [rv_non] at ra | rw [rv_bl] at ra | rw [rv_int] at ra | rw [rv_str] at ra)
  all_goals subst ra
  all_goals (cases b <;> first | exact absurd hb Bool.false_ne_true | skip)
  all_goals (first | rw [rv_non] at rb | rw [rv_bl] at rb | rw [rv_int] at rb | rw [rv_str] at rb)
  all_goals subst rb
  all_goals rfl
theorem flat_rv {S : Rp} {a : D} {x : V} (ha : flatD a = true) (ra : RV C S a x) : flatV x = true := by
  cases a <;> first | exact absurd ha Bool.false_ne_true | skip
  all_goals (first | rw [rv_non] at ra | rw [rv_bl] at ra | rw [rv_int] at ra | rw [rv_str] at ra)
  all_goals subst ra
  all_goals rfl
theorem flats_rv {S : Rp} : ∀ {xs : List D} {vs : List V}, xs.all flatD = true → RVs C S xs vs → vs.all flatV = true
  | [], vs, _, h => by rw [RVs] at h; subst h; rfl
  | d :: ds, vs, ha, h => by
    rw [RVs] at h
    obtain ⟨v, r, rfl, h1, h2⟩ := h
    rw [List.all_cons, Bool.and_eq_true] at ha ⊢
    exact ⟨flat_rv ha.1 h1, flats_rv ha.2 h2⟩
theorem inV_rv {S : Rp} {a : D} {x : V} (ha : flatD a = true) (ra : RV C S a x) : ∀ {xs : List D} {vs : List V}, xs.all flatD = true → RVs C S xs vs → inV x vs = xs.any fun z => eqF z a
  | [], vs, _, h => by rw [RVs] at h; subst h; rfl
  | d :: ds, vs, hs, h => by
    rw [RVs] at h
    obtain ⟨v, r, rfl, h1, h2⟩ := h
    rw [List.all_cons, Bool.and_eq_true] at hs
    have ih := inV_rv ha ra hs.2 h2
    unfold inV at ih ⊢
    rw [List.any_cons, List.any_cons, ih, eqF_rv hs.1 ha h1 ra]
theorem inD_some {S : Rp} {st : Store} {H : Hp} {a b : D} {x y : V} {c : Bool} (rp : Rep C S st H) (ra : RV C S a x) (rb : RV C S b y) (e : inD st a b = some c) :
    (∃ i j, x = .str i ∧ y = .str j ∧ c = !(Builtin.Str.occurrences j i 0 j.length 1).isEmpty) ∨ ∃ p vs, y = .ref p ∧ (SqL C.K H p vs ∨ SqT C.K H p vs) ∧ flatV x = true ∧ vs.all flatV = true ∧ c = inV x vs := by
  have seqs : ∀ xs : List D, (if flatD a && xs.all flatD then some (xs.any fun z => eqF z a) else none) = some c → (∃ p vs, y = .ref p ∧ (SqL C.K H p vs ∨ SqT C.K H p vs) ∧ RVs C S xs vs) →
      ∃ p vs, y = .ref p ∧ (SqL C.K H p vs ∨ SqT C.K H p vs) ∧ flatV x = true ∧ vs.all flatV = true ∧ c = inV x vs := fun xs e ⟨p, vs, h1, h2, h3⟩ => by
    split at e
    · rename_i hf
      rw [Bool.and_eq_true] at hf
      cases e
      exact ⟨p, vs, h1, h2, flat_rv hf.1 ra, flats_rv hf.2 h3, (inV_rv hf.1 ra hf.2 h3).symm⟩
    · cases e
  unfold inD at e
  cases z : look st b with
  | none => rw [z] at e; cases a <;> cases e
  | some b' =>
    rw [z] at e
    cases b' with
    | lst xs =>
      obtain ⟨p, vs, h1, h2, h3⟩ := look_lst rp rb z
      exact .inr (seqs xs (by cases a <;> exact e) ⟨p, vs, h1, .inl h2, h3⟩)
    | tup xs =>
      obtain ⟨p, vs, h1, h2, h3⟩ := look_tup rp rb z
      exact .inr (seqs xs (by cases a <;> exact e) ⟨p, vs, h1, .inr (sqT_mono rp.fz h2), h3⟩)
    | str z' =>
      cases a with
      | str x' =>
        cases e
        rw [look_str z] at rb
        exact .inl ⟨x', z', rv_str.mp ra, rv_str.mp rb, rfl⟩
      | _ => cases e
    | _ => cases a <;> cases e
theorem os_in (hX : XOk X C k E) : OpS X C E' (compareOp .In) (cmpD .In) := by
  intro pins s σ H x y v u Q S st a b I rx ry rp ra rb h
  have h : Post C (rV C) S H (match inD st a b with | some b => .ok (.bl b) st | none => .bad) Q (E' σ) := by
    cases a <;> cases b <;> exact h
  cases e : inD st a b with
  | none => rw [e] at h; exact h.bad
  | some c =>
    rw [e] at h
    have q := post_same h rp (rv_bl.mpr rfl)
    rcases inD_some rp ra rb e with ⟨i, j, h1, h2, h3⟩ | ⟨p, vs, h1, h2, h3, h4, h5⟩
    · exact op_in_str pins s σ H x y v u Q I rx ry ⟨i, j, h1, h2, by rw [← h3]; exact q⟩
    · rw [← hX.K] at h2
      exact op_in_seq pins s σ H x y v u Q I rx ry ⟨p, vs, h1, h2, h3, h4, by rw [← h5]; exact q⟩
theorem os_notIn (hX : XOk X C k E) : OpS X C E' (compareOp .NotIn) (cmpD .NotIn) := by
  intro pins s σ H x y v u Q S st a b I rx ry rp ra rb h
  have h : Post C (rV C) S H (match inD st a b with | some b => .ok (.bl (!b)) st | none => .bad) Q (E' σ) := by
    cases a <;> cases b <;> exact h
  cases e : inD st a b with
  | none => rw [e] at h; exact h.bad
  | some c =>
    rw [e] at h
    have q := post_same h rp (rv_bl.mpr rfl)
    rcases inD_some rp ra rb e with ⟨i, j, h1, h2, h3⟩ | ⟨p, vs, h1, h2, h3, h4, h5⟩
    · exact op_notIn_str pins s σ H x y v u Q I rx ry ⟨i, j, h1, h2, by rw [← h3]; exact q⟩
    · rw [← hX.K] at h2
      exact op_notIn_seq pins s σ H x y v u Q I rx ry ⟨p, vs, h1, h2, h3, h4, by rw [← h5]; exact q⟩
theorem os_cmp (hX : XOk X C k E) (op : CmpOp) : OpS X C E' (compareOp op) (cmpD op) := by
  cases op
  · exact os_eq hX
  · exact os_ne hX
  · exact os_lt hX
  · exact os_le hX
  · exact os_gt hX
  · exact os_ge hX
  · exact os_is hX
  · exact os_isn hX
  · exact os_in hX
  · exact os_notIn hX
theorem os_bin (hX : XOk X C k E) (mu : Nat) (op : Operator) : OpS X C E' (binaryOp op) (binD mu op) := by
  have none_ : ∀ op, (∀ a b st, binD mu op a b st = .bad) → OpS X C E' (binaryOp op) (binD mu op) := fun op hb => by
    intro pins s σ H x y v u Q S st a b I rx ry rp ra rb h
    rw [hb] at h; exact h.bad
  cases op <;> first
    | exact os_add hX mu | exact os_sub hX mu | exact os_mul hX mu | exact os_fdiv hX mu | exact os_mod hX mu | exact os_pow hX mu
    | (refine none_ _ fun a b st => ?_; cases a <;> cases b <;> rfl)

/-! ### truth -/
theorem truth_rv {S : Rp} {st : Store} {H : Hp} {d : D} {v : V} {b : Bool} (hX : XOk X C k E) (r : Rep C S st H) (h : RV C S d v) (e : truth st d = some b) : TruV X.K v H b := by
  rw [hX.K]
  unfold truth at e
  have cellc : ∀ {n : Nat} {a : Addr} {mo : MO}, d = .cell n → v = .ref a → S.m[n]? = some a → st[n]? = some mo → ∃ o, H a = some o ∧ RO C S mo o := fun h1 h2 h3 h4 => by
    obtain ⟨a', o, q1, q2, q3, q4⟩ := r.at_ _ _ h4
    rw [h3] at q1; cases q1
    exact ⟨o, q3, q4⟩
  have emp : ∀ {xs : List D} {vs : List V}, RVs C S xs vs → (!xs.isEmpty) = !vs.isEmpty := fun {xs vs} q => by
    have := q.length
    cases xs <;> cases vs <;> simp at this ⊢
  cases d with
  | non => cases e; rw [rv_non] at h; subst h; rfl
  | bl c => cases e; rw [rv_bl] at h; subst h; rfl
  | int i => cases e; rw [rv_int] at h; subst h; rfl
  | str x =>
    rw [rv_str] at h; subst h
    have e : (if x.length ≤ lim then some ((x.length : Int) != 0) else none) = some b := e
    split at e
    · rename_i hl
      cases e
      exact ⟨lim_line hl, rfl⟩
    · cases e
  | tup xs =>
    cases e
    obtain ⟨a, vs, rfl, h1, h2⟩ := rv_tup.mp h
    exact .inr (.inl ⟨vs, sqT_mono r.fz h1, emp h2⟩)
  | lst xs =>
    cases e
    obtain ⟨a, vs, rfl, h1, h2⟩ := rv_lst.mp h
    exact .inl ⟨vs, .inl (.inl (r.fz _ _ h1)), emp h2⟩
  | lck xs =>
    cases e
    obtain ⟨a, vs, rfl, h1, h2⟩ := rv_lck.mp h
    exact .inl ⟨vs, sqL_mono r.fz h1, emp h2⟩
  | dct ks us =>
    cases e
    obtain ⟨a, kvs, rfl, h1, h2, h3⟩ := rv_dct.mp h
    refine .inr (.inr ⟨kvs, r.fz _ _ h1, ?_⟩)
    subst h2
    cases kvs <;> rfl
  | obj c ns us => cases e
  | ty _ => cases e
  | cell n =>
    obtain ⟨a, rfl, ha⟩ := rv_cell.mp h
    rw [look_cell] at e
    cases z : st[n]? with
    | none => rw [z] at e; cases e
    | some mo =>
      rw [z] at e
      obtain ⟨o, h1, h2⟩ := cellc rfl rfl ha z
      cases mo with
      | lst xs =>
        cases e
        obtain ⟨vs, rfl, h3⟩ := h2
        exact .inl ⟨vs, .inl (.inl h1), emp h3⟩
      | dct ks us =>
        cases e
        obtain ⟨kvs, rfl, h2, h3⟩ := h2
        refine .inr (.inr ⟨kvs, h1, ?_⟩)
        subst h2
        cases kvs <;> rfl
      | ins c ns us => cases e
theorem tst_read {f : Fx D} {σ : L2.St} {H : Hp} {Q : Bool → Hp → Prop} {Q1 : VK} (h : tF C rB E (tst f) σ H Q) (k : ∀ S st d v b H', Rep C S st H' → RV C S d v → truth st d = some b → Q b H' → Q1 v H') : tF C (rV C) E f σ H Q1 := by
  obtain ⟨S, ρ, st, rp, rn, q⟩ := h
  refine ⟨S, ρ, st, rp, rn, Post.bind (rel2 := rB) q fun d st1 S1 H1 v g rp1 rv1 h1 => ?_⟩
  cases t : truth st1 d with
  | none => rw [t] at h1; exact h1.bad
  | some b =>
    rw [t] at h1
    exact k S1 st1 d v b H1 rp1 rv1 t (Post.end_ (C := C) (rel := rB) h1 (.refl S1 H1) rp1 rfl)
theorem st_val {f : Fx D} {e : Expr} (hX : XOk X C k E) (h : SE X C E f e) (he : ∀ whole, isTrue e X.env whole = (do let v ← whole; standAt e.pos; holding [v] (truthy v))) : ST X C E (tst f) e :=
  PT.weak (pt_truth h he) fun σ H Q q => tst_read q fun S st d v b H' rp rv t q1 => ⟨b, truth_rv hX rp rv t, q1⟩
theorem se_not {f : Fx D} {e : Expr} {pos : Pos} (hX : XOk X C k E) (h : SE X C E f e) : SE X C E (fun ρ st => (f ρ st).bind fun x st1 => ofO ((truth st1 x).map fun b => .bl (!b)) st1) (.UnaryOp .Not e pos) :=
  PE.weak (pe_notT h) fun σ H Q q => by
    obtain ⟨S, ρ, st, rp, rn, q⟩ := q
    refine ⟨S, ρ, st, rp, rn, Post.bind (rel2 := rV C) q fun d st1 S1 H1 v g rp1 rv1 h1 => ?_⟩
    cases t : truth st1 d with
    | none => rw [t] at h1; exact h1.bad
    | some b =>
      rw [t] at h1
      exact ⟨b, truth_rv hX rp1 rv1 t, post_same h1 rp1 (rv_bl.mpr rfl)⟩
def andF (f g : Fx D) : Fx D := fun ρ st => (f ρ st).bind fun x st1 => match truth st1 x with
  | some true => g ρ st1
  | some false => .ok x st1
  | none => .bad
def orF (f g : Fx D) : Fx D := fun ρ st => (f ρ st).bind fun x st1 => match truth st1 x with
  | some true => .ok x st1
  | some false => g ρ st1
  | none => .bad
def iteF (t f g : Fx D) : Fx D := fun ρ st => (t ρ st).bind fun x st1 => match truth st1 x with
  | some true => f ρ st1
  | some false => g ρ st1
  | none => .bad
theorem se_and {f g : Fx D} {a b : Expr} {rest : List Expr} {pos : Pos} (hX : XOk X C k E) (ha : SE X C E f a) (hb : SE X C E g (.BoolOp .And (b :: rest) pos)) : SE X C E (andF f g) (.BoolOp .And (a :: b :: rest) pos) :=
  PE.weak (pe_andT ha hb) fun σ H Q q => by
    obtain ⟨S, ρ, st, rp, rn, q⟩ := q
    refine ⟨S, ρ, st, rp, rn, Post.bind (rel2 := rV C) q fun d st1 S1 H1 v g rp1 rv1 h1 => ?_⟩
    cases t : truth st1 d with
    | none => rw [t] at h1; exact h1.bad
    | some b =>
      rw [t] at h1
      refine ⟨b, truth_rv hX rp1 rv1 t, ?_⟩
      cases b with
      | true => rw [if_pos rfl]; exact ⟨S1, ρ, st1, rp1, rn.mono g.ext, h1⟩
      | false => rw [if_neg Bool.false_ne_true]; exact post_same h1 rp1 rv1
theorem se_or {f g : Fx D} {a b : Expr} {rest : List Expr} {pos : Pos} (hX : XOk X C k E) (ha : SE X C E f a) (hb : SE X C E g (.BoolOp .Or (b :: rest) pos)) : SE X C E (orF f g) (.BoolOp .Or (a :: b :: rest) pos) :=
  PE.weak (pe_orT ha hb) fun σ H Q q => by
    obtain ⟨S, ρ, st, rp, rn, q⟩ := q
    refine ⟨S, ρ, st, rp, rn, Post.bind (rel2 := rV C) q fun d st1 S1 H1 v g rp1 rv1 h1 => ?_⟩
    cases t : truth st1 d with
    | none => rw [t] at h1; exact h1.bad
    | some b =>
      rw [t] at h1
      refine ⟨b, truth_rv hX rp1 rv1 t, ?_⟩
      cases b with
      | true => rw [if_pos rfl]; exact post_same h1 rp1 rv1
      | false => rw [if_neg Bool.false_ne_true]; exact ⟨S1, ρ, st1, rp1, rn.mono g.ext, h1⟩
/-- tests -/
theorem st_and {f g : Fx D} {a b : Expr} {rest : List Expr} {pos : Pos} (ha : ST X C E (tst f) a) (hb : PW X (.BoolOp .And (b :: rest) pos) (tF C rB E (tst g))) : PW X (.BoolOp .And (a :: b :: rest) pos) (tF C rB E (tst (andF f g))) := by
  refine ⟨fun wh pins s σ H Q I q => (pw_and ha hb).run wh pins s σ H Q I ?_⟩
  obtain ⟨S, ρ, st, rp, rn, q⟩ := q
  refine ⟨S, ρ, st, rp, rn, ?_⟩
  unfold tst andF at q
  unfold tst
  cases e : f ρ st with
  | bad => rw [e] at q; exact q
  | ex c ns vs st' => rw [e] at q; exact q
  | ok d st' =>
    rw [e] at q
    simp only [R.bind_ok] at q ⊢
    cases t : truth st' d with
    | none => rw [t] at q; exact q
    | some b =>
      rw [t] at q
      intro S1 H1 c g1 rp1 hc
      cases hc
      cases b with
      | true =>
        rw [if_pos rfl]
        exact ⟨S1, ρ, st', rp1, rn.mono g1.ext, Post.go q g1⟩
      | false =>
        rw [if_neg Bool.false_ne_true]
        simp only [R.bind_ok, t] at q
        exact q S1 H1 false g1 rp1 rfl
theorem st_or {f g : Fx D} {a b : Expr} {rest : List Expr} {pos : Pos} (ha : ST X C E (tst f) a) (hb : PW X (.BoolOp .Or (b :: rest) pos) (tF C rB E (tst g))) : PW X (.BoolOp .Or (a :: b :: rest) pos) (tF C rB E (tst (orF f g))) := by
  refine ⟨fun wh pins s σ H Q I q => (pw_or ha hb).run wh pins s σ H Q I ?_⟩
  obtain ⟨S, ρ, st, rp, rn, q⟩ := q
  refine ⟨S, ρ, st, rp, rn, ?_⟩
  unfold tst orF at q
  unfold tst
  cases e : f ρ st with
  | bad => rw [e] at q; exact q
  | ex c ns vs st' => rw [e] at q; exact q
  | ok d st' =>
    rw [e] at q
    simp only [R.bind_ok] at q ⊢
    cases t : truth st' d with
    | none => rw [t] at q; exact q
    | some b =>
      rw [t] at q
      intro S1 H1 c g1 rp1 hc
      cases hc
      cases b with
      | false =>
        rw [if_neg Bool.false_ne_true]
        exact ⟨S1, ρ, st', rp1, rn.mono g1.ext, Post.go q g1⟩
      | true =>
        rw [if_pos rfl]
        simp only [R.bind_ok, t] at q
        exact q S1 H1 true g1 rp1 rfl
def notF (f : Fx D) : Fx D := fun ρ st => (f ρ st).bind fun x st1 => ofO ((truth st1 x).map fun b => .bl (!b)) st1
theorem st_not {f : Fx D} {a : Expr} {pos : Pos} (ha : ST X C E (tst f) a) : ST X C E (tst (notF f)) (.UnaryOp .Not a pos) :=
  PT.weak (pt_not ha) fun σ H Q q => by
    obtain ⟨S, ρ, st, rp, rn, q⟩ := q
    refine ⟨S, ρ, st, rp, rn, ?_⟩
    unfold tst notF at q
    unfold tst
    cases e : f ρ st with
    | bad => rw [e] at q; exact q
    | ex c ns vs st' => rw [e] at q; exact q
    | ok d st' =>
      rw [e] at q
      simp only [R.bind_ok] at q ⊢
      cases t : truth st' d with
      | none => rw [t] at q; exact q
      | some b =>
        rw [t] at q
        intro S1 H1 c g1 rp1 hc
        cases hc
        exact q S1 H1 (!b) g1 rp1 rfl
theorem se_ite {t f g : Fx D} {c a b : Expr} {pos : Pos} (hc : ST X C E (tst t) c) (ha : SE X C E f a) (hb : SE X C E g b) : SE X C E (iteF t f g) (.IfExp c a b pos) :=
  PE.weak (pe_ifExp hc ha hb) fun σ H Q q => by
    obtain ⟨S, ρ, st, rp, rn, q⟩ := q
    refine ⟨S, ρ, st, rp, rn, ?_⟩
    unfold iteF at q
    unfold tst
    cases e : t ρ st with
    | bad => rw [e] at q; exact q
    | ex c ns vs st' => rw [e] at q; exact q
    | ok d st' =>
      rw [e] at q
      simp only [R.bind_ok] at q ⊢
      cases t : truth st' d with
      | none => rw [t] at q; exact q
      | some b =>
        rw [t] at q
        intro S1 H1 c g1 rp1 hc
        cases hc
        cases b with
        | true => rw [if_pos rfl]; exact ⟨S1, ρ, st', rp1, rn.mono g1.ext, Post.go q g1⟩
        | false => rw [if_neg Bool.false_ne_true]; exact ⟨S1, ρ, st', rp1, rn.mono g1.ext, Post.go q g1⟩
theorem st_cmp {a b : Expr} {fa fb : Fx D} {o : CmpOp} {op : D → D → Store → R D} {pos : Pos} (hX : XOk X C k E) (ha : SE X C E fa a) (hb : SE X C E fb b) (hf : OpS X C E (compareOp o) op) (hm : behindInMarks o b = false) :
    ST X C E (tst fun ρ st => (fa ρ st).bind fun x st1 => (fb ρ st1).bind fun y st2 => op x y st2) (.Compare a [o] [b] pos) := by
  refine ⟨fun pins s σ H Q I h => ?_⟩
  have hX' := hX
  have h2 := tst_read (Q1 := fun v H' => ∃ b, TruV X.K v H' b ∧ Q b H') h fun S st d v b H' rp rv t q1 => ⟨b, truth_rv hX rp rv t, q1⟩
  refine wpAny_isTrue_Compare1 (bin (R := fun x y H2 => ∃ S st da db, Rep C S st H2 ∧ RV C S da x ∧ RV C S db y ∧ Post C (rV C) S H2 (op da db st) (fun v H' => ∃ b, TruV X.K v H' b ∧ Q b H') (E σ)) ha hb I (bin_read h2 fun x y H2 S st da db h1 h2 h3 h4 => ⟨S, st, da, db, h1, h2, h3, h4⟩) fun v u s2 x y H2 I2 rx ry q => ?_) hm
  obtain ⟨S, st, da, db, h1, h2, h3, h4⟩ := q
  refine thn (hf pins s2 σ H2 x y v u _ S st da db I2 rx ry h1 h2 h3 h4) fun c s3 ⟨z, H3, I3, r3, q3⟩ => ?_
  exact tru_ok pins s3 σ H3 z c Q I3 r3 q3
end
end Px

/-! Px7: chains, displays, places, slices, built-in calls. -/
namespace Px
open PySem PySem.Spec PyProof.Rows L2
section
variable {X : Cx} {C : Kc} {E E' : L2.St → XK} {k : Nat}

theorem se_neg {f : Fx D} {e : Expr} {pos : Pos} (h : SE X C E f e) : SE X C E (fun ρ st => (f ρ st).bind fun x st1 => match x with | .int i => .ok (.int (-i)) st1 | _ => .bad) (.UnaryOp .USub e pos) :=
  PE.weak (pe_un un_neg h) fun σ H Q q => by
    obtain ⟨S, ρ, st, rp, rn, q⟩ := q
    refine ⟨S, ρ, st, rp, rn, Post.bind (rel2 := rV C) q fun d st1 S1 H1 v g rp1 rv1 h1 => ?_⟩
    cases d <;> first | exact Post.bad (C := C) h1 | skip
    case int i => exact ⟨i, rv_int.mp rv1, post_same h1 rp1 (rv_int.mpr rfl)⟩

def chainF (o1 o2 : CmpOp) (fa fb fc : Fx D) : Fx D := fun ρ st => (fa ρ st).bind fun x st1 => (fb ρ st1).bind fun y st2 => (cmpD o1 x y st2).bind fun r st3 => match r with
    | .bl true => (fc ρ st3).bind fun z st4 => cmpD o2 y z st4
    | .bl false => .ok (.bl false) st3
    | _ => .bad
theorem R.bind_assoc {α β γ : Type} (r : R α) (f : α → Store → R β) (g : β → Store → R γ) : (r.bind f).bind g = r.bind fun a st => (f a st).bind g := by cases r <;> rfl
/-- an expression run, what it hands on -/
theorem se_step {f : Fx D} {e : Expr} (he : SE X C E f e) {γ δ : Type} {g : D → Store → R γ} {rel2 : Rel γ δ} {Q : δ → Hp → Prop} {pins : List (Addr × Obj)} {s : Shared} {σ : L2.St} {H : Hp} {S : Rp} {ρ : Env} {st : Store}
    (I : Inv X pins σ H s) (rp : Rep C S st H) (rn : REnv C S ρ σ) (q : Post C rel2 S H ((f ρ st).bind g) Q (E σ)) {P : Value → Shared → Prop}
    (kk : ∀ u s1 v H1 S1 st1 d, Inv X pins σ H1 s1 → RelV v u → Go S H S1 H1 → Rep C S1 st1 H1 → RV C S1 d v → Post C rel2 S1 H1 (g d st1) Q (E σ) → P u s1) : wpAny (model X.prog X.w) X.A (eval e X.env) P X.xe s := by
  refine thn (he.run pins s σ H (fun v H1 => ∃ S1 st1 d, Go S H S1 H1 ∧ Rep C S1 st1 H1 ∧ RV C S1 d v ∧ Post C rel2 S1 H1 (g d st1) Q (E σ)) I ⟨S, ρ, st, rp, rn, Post.bind (rel2 := rel2) q fun d st1 S1 H1 v g1 rp1 rv1 h1 => ⟨S1, st1, d, g1, rp1, rv1, h1⟩⟩) ?_
  rintro u s1 ⟨v, H1, I1, r1, S1, st1, d, g1, rp1, rv1, h1⟩
  exact kk u s1 v H1 S1 st1 d I1 r1 g1 rp1 rv1 h1
theorem os_step {f : Value → Value → Sem Value} {op : D → D → Store → R D} (ho : OpS X C E f op) {γ δ : Type} {g : D → Store → R γ} {rel2 : Rel γ δ} {Q : δ → Hp → Prop} {pins : List (Addr × Obj)} {s : Shared} {σ : L2.St} {H : Hp} {S : Rp} {st : Store} {a b : D} {x y : V} {v u : Value}
    (I : Inv X pins σ H s) (rx : RelV x v) (ry : RelV y u) (rp : Rep C S st H) (ra : RV C S a x) (rb : RV C S b y) (q : Post C rel2 S H ((op a b st).bind g) Q (E σ)) {P : Value → Shared → Prop}
    (kk : ∀ u s1 v H1 S1 st1 d, Inv X pins σ H1 s1 → RelV v u → Go S H S1 H1 → Rep C S1 st1 H1 → RV C S1 d v → Post C rel2 S1 H1 (g d st1) Q (E σ) → P u s1) : wpAny (model X.prog X.w) X.A (f v u) P X.xe s := by
  refine thn (ho pins s σ H x y v u (fun v H1 => ∃ S1 st1 d, Go S H S1 H1 ∧ Rep C S1 st1 H1 ∧ RV C S1 d v ∧ Post C rel2 S1 H1 (g d st1) Q (E σ)) S st a b I rx ry rp ra rb (Post.bind (rel2 := rel2) q fun d st1 S1 H1 v g1 rp1 rv1 h1 => ⟨S1, st1, d, g1, rp1, rv1, h1⟩)) ?_
  rintro u s1 ⟨v, H1, I1, r1, S1, st1, d, g1, rp1, rv1, h1⟩
  exact kk u s1 v H1 S1 st1 d I1 r1 g1 rp1 rv1 h1
theorem se_chain {a b c : Expr} {fa fb fc : Fx D} {o1 o2 : CmpOp} {pos : Pos} (hX : XOk X C k E) (ha : SE X C E fa a) (hb : SE X C E fb b) (hc : SE X C E fc c) (hm : lastMarks [o1, o2] [b, c] = false) :
    SE X C E (chainF o1 o2 fa fb fc) (.Compare a [o1, o2] [b, c] pos) := by
  refine ⟨fun pins s σ H Q I h => ?_⟩
  obtain ⟨S, ρ, st, rp, rn, h⟩ := h
  refine Compare_chain (se_step ha I rp rn (rel2 := rV C) h fun v s1 x H1 S1 st1 da I1 r1 g1 rp1 rv1 h1 => chain_link (se_step hb I1 rp1 (rn.mono g1.ext) h1 fun u s2 y H2 S2 st2 db I2 r2 g2 rp2 rv2 h2 =>
    os_step (os_cmp hX o1) I2 r1 r2 rp2 (RV.mono g2.ext rv1) rv2 h2 fun d s3 z H3 S3 st3 dr I3 r3 g3 rp3 rv3 h3 => ?_)) hm
  cases dr <;> first | exact Post.bad (C := C) h3 | skip
  case bl bb =>
    rw [rv_bl] at rv3; subst rv3
    cases r3
    refine wpAny_truthy_bool ?_
    cases bb with
    | false => exact ite_ff ⟨.bl false, H3, I3, rfl, post_same h3 rp3 (rv_bl.mpr rfl)⟩
    | true =>
      refine ite_tt (chain_last (se_step hc I3 rp3 (((rn.mono g1.ext).mono g2.ext).mono g3.ext) h3 fun w' s4 z' H4 S4 st4 dc I4 r4 g4 rp4 rv4 h4 => ?_))
      exact os_cmp hX o2 pins s4 σ H4 y z' u w' Q S4 st4 db dc I4 r2 r4 rp4 ((rv2.mono g3.ext).mono g4.ext) rv4 h4
theorem st_chain {a b c : Expr} {fa fb fc : Fx D} {o1 o2 : CmpOp} {pos : Pos} (hX : XOk X C k E) (ha : SE X C E fa a) (hb : SE X C E fb b) (hc : SE X C E fc c) (hm : lastMarks [o1, o2] [b, c] = false) :
    ST X C E (tst (chainF o1 o2 fa fb fc)) (.Compare a [o1, o2] [b, c] pos) := by
  refine ⟨fun pins s σ H Q I h => ?_⟩
  obtain ⟨S, ρ, st, rp, rn, h⟩ := h
  unfold tst chainF at h
  simp only [R.bind_assoc] at h
  refine isTrue_chain (se_step ha I rp rn (rel2 := rB) h fun v s1 x H1 S1 st1 da I1 r1 g1 rp1 rv1 h1 => test_link (se_step hb I1 rp1 (rn.mono g1.ext) h1 fun u s2 y H2 S2 st2 db I2 r2 g2 rp2 rv2 h2 =>
    os_step (os_cmp hX o1) I2 r1 r2 rp2 (RV.mono g2.ext rv1) rv2 h2 fun d s3 z H3 S3 st3 dr I3 r3 g3 rp3 rv3 h3 => ?_)) hm
  cases dr <;> first | exact Post.bad (C := C) h3 | skip
  case bl bb =>
    rw [rv_bl] at rv3; subst rv3
    cases r3
    refine wpAny_truthy_bool ?_
    cases bb with
    | false => exact ite_ff ⟨H3, I3, Post.end_ (C := C) (rel := rB) h3 (.refl S3 H3) rp3 rfl⟩
    | true =>
      simp only [R.bind_assoc] at h3
      refine ite_tt (test_last (se_step hc I3 rp3 (((rn.mono g1.ext).mono g2.ext).mono g3.ext) h3 fun w' s4 z' H4 S4 st4 dc I4 r4 g4 rp4 rv4 h4 => ?_))
      refine os_step (os_cmp hX o2) I4 r2 r4 rp4 ((rv2.mono g3.ext).mono g4.ext) rv4 h4 fun e s5 z5 H5 S5 st5 d5 I5 r5 g5 rp5 rv5 h5 => ?_
      cases t : truth st5 d5 with
      | none => rw [t] at h5; exact h5.bad
      | some b5 =>
        rw [t] at h5
        exact tru_ok pins s5 σ H5 z5 e Q I5 r5 ⟨b5, truth_rv hX rp5 rv5 t, Post.end_ (C := C) (rel := rB) h5 (.refl S5 H5) rp5 rfl⟩

/-! ### argument lists, displays -/
def nilF : Fx (List D) := fun _ st => .ok [] st
def consF (f : Fx D) (g : Fx (List D)) : Fx (List D) := fun ρ st => (f ρ st).bind fun x st1 => (g ρ st1).bind fun xs st2 => .ok (x :: xs) st2
theorem sa_nil : SA X C E nilF [] := PA.weak pa_nil fun σ H Q q => by
  obtain ⟨S, ρ, st, rp, rn, q⟩ := q
  exact Post.end_ (C := C) (rel := rVs C) q (.refl S H) rp .nil
theorem sa_cons {f : Fx D} {g : Fx (List D)} {e : Expr} {es : List Expr} (he : SE X C E f e) (hs : SA X C E g es) (hst : starEach (e :: es) X.env = (false, eval e X.env) :: starEach es X.env) : SA X C E (consF f g) (e :: es) :=
  PA.weak (pa_cons he hs hst) fun σ H Q q => by
    obtain ⟨S, ρ, st, rp, rn, q⟩ := q
    refine ⟨S, ρ, st, rp, rn, Post.bind (rel2 := rVs C) q fun d st1 S1 H1 v g1 rp1 rv1 h1 => ?_⟩
    refine ⟨S1, ρ, st1, rp1, rn.mono g1.ext, Post.bind (rel2 := rVs C) h1 fun ds st2 S2 H2 vs g2 rp2 rv2 h2 => ?_⟩
    exact Post.end_ (C := C) (rel := rVs C) h2 (.refl S2 H2) rp2 (.cons (RV.mono g2.ext rv1) rv2)
theorem se_tup {f : Fx (List D)} {es : List Expr} {x1 : Nat} {pos : Pos} (h : SA X C E f es) : SE X C E (fun ρ st => (f ρ st).bind fun xs st1 => mkT xs st1) (.Tuple es x1 pos) :=
  PE.weak (pe_tup h) fun σ H Q q => by
    obtain ⟨S, ρ, st, rp, rn, q⟩ := q
    refine ⟨S, ρ, st, rp, rn, Post.bind (rel2 := rV C) q fun ds st1 S1 H1 vs g1 rp1 rv1 h1 => ?_⟩
    have rv1 : RVs C S1 ds vs := rv1
    exact ⟨by rw [← rv1.length]; exact lim_line (mkT_len h1), fun p hp => tup_new (mkT_ok h1) rp1 rv1 hp⟩
theorem se_lst {f : Fx (List D)} {es : List Expr} {mu : Nat} {pos : Pos} (h : SA X C E f es) : SE X C E (fun ρ st => (f ρ st).bind fun xs st1 => mkL mu xs st1) (.List es pos) :=
  PE.weak (pe_lst h) fun σ H Q q => by
    obtain ⟨S, ρ, st, rp, rn, q⟩ := q
    refine ⟨S, ρ, st, rp, rn, Post.bind (rel2 := rV C) q fun ds st1 S1 H1 vs g1 rp1 rv1 h1 => ?_⟩
    have rv1 : RVs C S1 ds vs := rv1
    exact ⟨by rw [← rv1.length]; exact lim_line (mkL_len h1), fun p hp => mkL_post h1 rp1 rv1 hp⟩

/-! ### places -/
theorem atI_rv {S : Rp} {xs : List D} {vs : List V} {i : Int} {d : D} (h : RVs C S xs vs) (e : atI xs i = some d) : ∃ v, atI vs i = some v ∧ RV C S d v := by
  unfold atI at e ⊢
  rw [← h.length]
  cases z : ixN xs.length i with
  | none => rw [z] at e; cases e
  | some j =>
    rw [z] at e
    obtain ⟨v, h1, h2⟩ := h.get (i := j) e
    exact ⟨v, h1, h2⟩
def dctOf (st : Store) (d : D) : Bool := match look st d with
  | some (.dct _ _) => true
  | _ => false
theorem lookK_rv {S : Rp} {kk : Key} {d : D} : ∀ {kvs : List (Key × V)} {us : List D}, RVs C S us (kvs.map (·.2)) → lookK kk (kvs.map fun p => kD p.1) us = some d → ∃ v, valV kvs kk = some v ∧ RV C S d v
  | [], us, h, e => by cases us <;> cases e
  | p :: kvs, us, h, e => by
    obtain ⟨key, v0⟩ := p
    cases us with
    | nil => rw [RVs] at h; cases h
    | cons u us =>
      rw [List.map_cons, RVs] at h
      obtain ⟨v, r, h0, h1, h2⟩ := h
      injection h0 with h0 h0'
      subst h0 h0'
      have e' : (if kk = key then some u else lookK kk (kvs.map fun p => kD p.1) us) = some d := by
        cases key <;> exact e
      by_cases z : kk = key
      · rw [if_pos z] at e'
        cases e'
        exact ⟨v0, valV_pos z.symm, h1⟩
      · rw [if_neg z] at e'
        obtain ⟨v, q1, q2⟩ := lookK_rv h2 e'
        exact ⟨v, by rw [valV_neg (fun q => z q.symm)]; exact q1, q2⟩
theorem look_dct {S : Rp} {st : Store} {H : Hp} {d : D} {ks us : List D} {v : V} (r : Rep C S st H) (h : RV C S d v) (e : look st d = some (.dct ks us)) :
    ∃ (a : Addr) (kvs : List (Key × V)), v = .ref a ∧ H a = some (.dK kvs) ∧ ks = kvs.map (fun p => kD p.1) ∧ RVs C S us (kvs.map (·.2)) := by
  cases d with
  | cell n =>
    rw [look_cell] at e
    obtain ⟨a, rfl, ha⟩ := rv_cell.mp h
    cases q : st[n]? with
    | none => rw [q] at e; cases e
    | some mo =>
      rw [q] at e
      obtain ⟨a', o, h1, h2, h3, h4⟩ := r.at_ n mo q
      rw [ha] at h1; cases h1
      cases mo with
      | dct ks' us' =>
        cases e
        obtain ⟨kvs, rfl, h5, h6⟩ := h4
        exact ⟨a, kvs, rfl, h3, h5, h6⟩
      | lst xs => cases e
      | ins c ns vs => cases e
  | dct ks' us' =>
    cases e
    obtain ⟨a, kvs, rfl, h1, h2, h3⟩ := rv_dct.mp h
    exact ⟨a, kvs, rfl, r.fz _ _ h1, h2, h3⟩
  | _ => cases e
theorem keyOf_rv {S : Rp} {d : D} {kk : Key} {v : V} (h : RV C S d v) (e : keyOf d = some kk) : v = kV kk := by
  cases d with
  | int i => cases e; exact rv_int.mp h
  | str x => cases e; exact rv_str.mp h
  | _ => cases e
theorem se_ix {a i : Expr} {fa fi : Fx D} {pos : Pos} (hX : XOk X C k E) (ha : SE X C E fa a) (hi : SE X C E fi i) (hs : ∀ o j, subscripted i false o j = operate [o, j] (getItem o j)) :
    SE X C E (fun ρ st => (fa ρ st).bind fun x st1 => (fi ρ st1).bind fun y st2 => ixD x y st2) (.Subscript a i pos) := by
  refine ⟨fun pins s σ H Q I h => ?_⟩
  refine Subscript_ (binT ha hi I (bin_read (K := fun x y H2 => ∃ S st da di, Rep C S st H2 ∧ RV C S da x ∧ RV C S di y ∧ Post C (rV C) S H2 (ixD da di st) Q (E σ)) h fun x y H2 S st da db h1 h2 h3 h4 => ⟨S, st, da, db, h1, h2, h3, h4⟩) fun v u s2 x y H2 I2 rx ry q => ?_)
  obtain ⟨S, st, da, di, rp, ra, ri, q⟩ := q
  have seq : rIx X.K x y H2 Q → wpAny (model X.prog X.w) X.A (subscriptTail a i v u) (EP X pins σ Q) X.xe s2 := fun z => ix_seq a i pins s2 σ H2 x y v u Q I2 rx ry z (hs _ _)
  unfold ixD at q
  cases z : look st da with
  | none => rw [z] at q; cases di <;> exact q.bad
  | some da' =>
    rw [z] at q
    cases da' with
    | tup xs =>
      cases di <;> first | exact Post.bad (C := C) q | skip
      case int j =>
        obtain ⟨d, e, q⟩ := post_ofO q
        obtain ⟨p, vs, rfl, h1, h2⟩ := look_tup rp ra z
        obtain ⟨w, e1, e2⟩ := atI_rv h2 e
        rw [← hX.K] at h1
        exact seq (.inr (.inl ⟨p, vs, j, w, rfl, rv_int.mp ri, sqT_mono rp.fz h1, e1, post_same q rp e2⟩))
    | lst xs =>
      cases di <;> first | exact Post.bad (C := C) q | skip
      case int j =>
        obtain ⟨d, e, q⟩ := post_ofO q
        obtain ⟨p, vs, rfl, h1, h2⟩ := look_lst rp ra z
        obtain ⟨w, e1, e2⟩ := atI_rv h2 e
        rw [← hX.K] at h1
        exact seq (.inl ⟨p, vs, j, w, rfl, rv_int.mp ri, h1, e1, post_same q rp e2⟩)
    | str t =>
      cases di <;> first | exact Post.bad (C := C) q | skip
      case int j =>
        obtain ⟨hl, q⟩ := post_ite q
        obtain ⟨d, e, q⟩ := post_ofO q
        rw [look_str z] at ra
        cases e3 : atI t.cps.toList j with
        | none => rw [e3] at e; cases e
        | some c =>
          rw [e3] at e; cases e
          exact seq (.inr (.inr ⟨t, j, c, rv_str.mp ra, rv_int.mp ri, lim_line hl, e3, post_same q rp (rv_str.mpr rfl)⟩))
    | dct ks us =>
      have q : Post C (rV C) S H2 (match keyOf di with | some q => ofO (lookK q ks us) st | none => .bad) Q (E σ) := by cases di <;> exact q
      cases e1 : keyOf di with
      | none => rw [e1] at q; exact q.bad
      | some kk =>
        rw [e1] at q
        obtain ⟨d, e, q'⟩ := post_ofO q
        obtain ⟨p, kvs, rfl, h1, h2, h3⟩ := look_dct rp ra z
        subst h2
        obtain ⟨w, e2, e3⟩ := lookK_rv h3 e
        have ey := keyOf_rv ri e1
        subst ey
        have gg := DGet.k (k := kk) h1
        rw [e2] at gg
        obtain rfl : v = Value.ref p := rx
        exact tail_any (dict_typeIs I2 gg) PySem.F.slot_dict_getitem.lookup (d_getItem (hu_of hX.room) I2 gg ry fun w' s3 I3 rw' => ⟨w, H2, I3, rw', post_same q' rp e3⟩) (hs _ _)
    | _ => cases di <;> exact q.bad

/-! ### slices -/
theorem cut_rv {S : Rp} {xs : List D} {vs : List V} (lo hi : Option Int) (h : RVs C S xs vs) : RVs C S (cutL xs lo hi) (cutV vs lo hi) := by
  unfold cutL cutV
  rw [h.length]
  exact (h.drop _).take _
def rP : Rel (Option Int) (Option Int) := fun _ _ a b => a = b
abbrev SO (X : Cx) (C : Kc) (E : L2.St → XK) (f : Fx (Option Int)) (e : Option Expr) : Prop := PO X e (tF C rP E f)
theorem so_none : SO X C E (fun _ st => .ok none st) none := ⟨fun pins s σ H Q I q => po_none.run pins s σ H Q I (by
  obtain ⟨S, ρ, st, rp, rn, q⟩ := q
  exact Post.end_ (C := C) (rel := rP) q (.refl S H) rp rfl)⟩
theorem so_some {f : Fx D} {e : Expr} (h : SE X C E f e) : SO X C E (partF f) (some e) := ⟨fun pins s σ H Q I q => (po_some h).run pins s σ H Q I (by
  obtain ⟨S, ρ, st, rp, rn, q⟩ := q
  refine ⟨S, ρ, st, rp, rn, Post.bind (rel2 := rP) q fun d st1 S1 H1 v g rp1 rv1 h1 => ?_⟩
  cases d <;> first | exact Post.bad (C := C) h1 | skip
  case int i => exact ⟨i, rv_int.mp rv1, Post.end_ (C := C) (rel := rP) h1 (.refl S1 H1) rp1 rfl⟩)⟩
def slcF (mu : Nat) (fa : Fx D) (fl fh : Fx (Option Int)) : Fx D := fun ρ st => (fa ρ st).bind fun x st1 => (fl ρ st1).bind fun l st2 => (fh ρ st2).bind fun h st3 => slcD mu x l h st3
theorem se_slc {mu : Nat} {a : Expr} {lo hi : Option Expr} {fa : Fx D} {fl fh : Fx (Option Int)} {pos p2 : Pos} (hX : XOk X C k E) (ha : SE X C E fa a) (hl : SO X C E fl lo) (hh : SO X C E fh hi) :
    SE X C E (slcF mu fa fl fh) (.Subscript a (.Slice lo hi none p2) pos) :=
  PE.weak (pe_slice (sl_list.or (sl_tupA.or sl_str)) ha hl hh) fun σ H Q q => by
    obtain ⟨S, ρ, st, rp, rn, q⟩ := q
    refine ⟨S, ρ, st, rp, rn, Post.bind (rel2 := rV C) q fun d st1 S1 H1 v g1 rp1 rv1 h1 => ?_⟩
    refine ⟨S1, ρ, st1, rp1, rn.mono g1.ext, Post.bind (rel2 := rV C) h1 fun l st2 S2 H2 l' g2 rp2 e2 h2 => ?_⟩
    cases e2
    refine ⟨S2, ρ, st2, rp2, (rn.mono g1.ext).mono g2.ext, Post.bind (rel2 := rV C) h2 fun h st3 S3 H3 h' g3 rp3 e3 q => ?_⟩
    cases e3
    have rv3 : RV C S3 d v := (RV.mono g2.ext rv1).mono g3.ext
    unfold slcD at q
    cases z : look st3 d with
    | none => rw [z] at q; exact q.bad
    | some d' =>
      rw [z] at q
      cases d' with
      | lst xs =>
        obtain ⟨p, vs, rfl, h1, h2⟩ := look_lst rp3 rv3 z
        rw [← hX.K] at h1
        exact .inl ⟨p, vs, rfl, h1, fun p' hp => mkL_post q rp3 (cut_rv l h h2) hp⟩
      | tup xs =>
        obtain ⟨p, vs, rfl, h1, h2⟩ := look_tup rp3 rv3 z
        have h1' := h1
        rw [← hX.K] at h1'
        refine .inr (.inl ⟨p, vs, rfl, sqT_mono rp3.fz h1', fun hw => ?_, fun hw p' hp => tup_new q rp3 (cut_rv l h h2) hp⟩)
        have e : cutL xs l h = xs := by
          unfold cutL
          rw [h2.length, hw.1, hw.2, ← h2.length, Nat.sub_zero, List.drop_zero, List.take_length]
        have q : Post C (rV C) S3 H3 (.ok (.tup (cutL xs l h)) st3) Q (E σ) := q
        rw [e] at q
        exact post_same q rp3 (rv_tup.mpr ⟨p, vs, rfl, h1, h2⟩)
      | str x =>
        obtain ⟨hl, q⟩ := post_ite q
        rw [look_str z] at rv3
        exact .inr (.inr ⟨x, rv_str.mp rv3, lim_line hl, post_same q rp3 (rv_str.mpr rfl)⟩)
      | _ => exact q.bad
theorem se_rev {mu : Nat} {e : Expr} {f : Fx D} {kk : Nat} {p1 p2 p3 pos : Pos} (hX : XOk X C k E) (h : SE X C E f e) :
    SE X C E (fun ρ st => (f ρ st).bind fun x st1 => revD mu x st1) (.Subscript e (.Slice none none (some (.UnaryOp .USub (.Constant (.int 1) kk p1) p2)) p3) pos) :=
  PE.weak (pe_revL h) fun σ H Q q => by
    obtain ⟨S, ρ, st, rp, rn, q⟩ := q
    refine ⟨S, ρ, st, rp, rn, Post.bind (rel2 := rV C) q fun d st1 S1 H1 v g1 rp1 rv1 q => ?_⟩
    unfold revD at q
    cases z : look st1 d with
    | none => rw [z] at q; exact q.bad
    | some d' =>
      rw [z] at q
      cases d' with
      | lst xs =>
        obtain ⟨p, vs, rfl, h1, h2⟩ := look_lst rp1 rv1 z
        rw [← hX.K] at h1
        exact ⟨p, vs, rfl, h1, fun p' hp => mkL_post q rp1 h2.reverse hp⟩
      | _ => exact q.bad

/-! ### built-in calls by values -/
def CallS (X : Cx) (C : Kc) (E : L2.St → XK) (f : Value) (op : List D → Store → R D) : Prop :=
  ∀ (pins : List (Addr × Obj)) (s : Shared) (σ : L2.St) (H : Hp) (vs : List V) (us : List Value) (Q : VK) (S : Rp) (st : Store) (as : List D), Inv X pins σ H s → Vals vs us →
    Rep C S st H → RVs C S as vs → Post C (rV C) S H (op as st) Q (E σ) → wpAny (model X.prog X.w) X.A (call f us) (EP X pins σ Q) X.xe s
theorem rvs1 {S : Rp} {a : D} {vs : List V} (h : RVs C S [a] vs) : ∃ v, vs = [v] ∧ RV C S a v := by
  rw [RVs] at h
  obtain ⟨v, r, rfl, h1, h2⟩ := h
  rw [RVs] at h2; subst h2
  exact ⟨v, rfl, h1⟩
theorem rvs2 {S : Rp} {a b : D} {vs : List V} (h : RVs C S [a, b] vs) : ∃ v w, vs = [v, w] ∧ RV C S a v ∧ RV C S b w := by
  rw [RVs] at h
  obtain ⟨v, r, rfl, h1, h2⟩ := h
  obtain ⟨w, rfl, h3⟩ := rvs1 h2
  exact ⟨v, w, rfl, h1, h3⟩
/-- a call of a built-in by its name -/
theorem se_prim {f : Fx (List D)} {op : List D → Store → R D} {x : Str} {p pos : Pos} {id : Value} {e : Expr} {es : List Expr} (hc : CallS X C E id op) (hid : ∃ n, id = .builtin n ∨ id = .type n) (hg : Gl X x) (hm : X.mg x = none) (hv : bootBuiltins x = some id)
    (ha : SA X C E f (e :: es)) (hn : x ≠ "__name__") (hdb : (x == ("__debug__" : Str)) = false) (he : starEach (e :: es) X.env = (false, eval e X.env) :: starEach es X.env) (hpl : (backTo pos (starEach es X.env)).any (·.1) = false) :
    SE X C E (fun ρ st => (f ρ st).bind fun as st1 => op as st1) (.Call (.Name x p) (e :: es) [] pos) := by
  refine ⟨fun pins s σ H Q I q => ?_⟩
  obtain ⟨S, ρ, st, rp, rn, q⟩ := q
  have run : wpAny (model X.prog X.w) X.A (spliced (backTo pos (starEach (e :: es) X.env))) (fun us s1 => wpAny (model X.prog X.w) X.A (call id us) (EP X pins σ Q) X.xe s1) X.xe s := by
    refine thn (ha.run pos pins s σ H (fun vs H1 => ∃ S1 st1 as, Rep C S1 st1 H1 ∧ RVs C S1 as vs ∧ Post C (rV C) S1 H1 (op as st1) Q (E σ)) I ⟨S, ρ, st, rp, rn, Post.bind (rel2 := rV C) q fun as st1 S1 H1 vs g1 rp1 rv1 h1 => ⟨S1, st1, as, rp1, rv1, h1⟩⟩) ?_
    rintro us s1 ⟨vs, H1, I1, r1, S1, st1, as, rp1, rv1, h1⟩
    exact hc pins s1 σ H1 vs us Q S1 st1 as I1 r1 rp1 rv1 h1
  refine wpAny_Call_Name_kw (ld_blt I hg hm hv ?_ hn hdb)
  obtain ⟨n, rfl | rfl⟩ := hid
  · exact PyProof.Rows.callWith_builtin1 run he hpl
  · exact PyProof.Rows.callWith_type1 run he hpl
end
end Px

/-! Px8: the built-ins. -/
namespace Px
open PySem PySem.Spec PyProof.Rows L2
section
variable {X : Cx} {C : Kc} {E E' : L2.St → XK} {k : Nat}

theorem one_arg {α : Type} {p : Prm} {mu : Nat} {as : List D} {st : Store} {rel : Rel D V} {S : Rp} {H : Hp} {Q : VK} {E : XK} (hp : p ≠ .max2 ∧ p ≠ .min2) (h : Post C (rV C) S H (primD mu p as st) Q E) : ∃ a, as = [a] := by
  cases as with
  | nil => cases p <;> exact Post.bad (C := C) h
  | cons a r =>
    cases r with
    | nil => exact ⟨a, rfl⟩
    | cons b r =>
      cases p <;> first
        | exact Post.bad (C := C) h
        | exact absurd rfl hp.1
        | exact absurd rfl hp.2
        | exact Post.bad (C := C) (by cases a <;> exact h)

theorem ps_len (hX : XOk X C k E) (mu : Nat) : CallS X C E' (.builtin "len") (primD mu .len) := by
  intro pins s σ H vs us Q S st as I r rp rv h
  obtain ⟨a, rfl⟩ := one_arg (α := Nat) (rel := rV C) ⟨by decide, by decide⟩ h
  obtain ⟨v, rfl, rv'⟩ := rvs1 rv
  clear rv
  have rv := rv'
  clear rv'
  obtain ⟨d, e, h⟩ := post_ofO (show Post C (rV C) S H (ofO ((lenD st a).map fun n => .int n) st) Q (E' σ) from h)
  cases z : lenD st a with
  | none => rw [z] at e; cases e
  | some n =>
    rw [z] at e; cases e
    have q := post_same h rp (rv_int.mpr rfl)
    unfold lenD at z
    cases y : look st a with
    | none => rw [y] at z; cases z
    | some a' =>
      rw [y] at z
      cases a' with
      | str x =>
        rw [look_str y] at rv
        have z : (if x.length ≤ lim then some x.length else none) = some n := z
        split at z
        · rename_i hl
          cases z
          rw [rv_str] at rv; subst rv
          exact call_len pins s σ H _ us Q I r ⟨_, _, rfl, ⟨lim_line hl, rfl⟩, q⟩
        · cases z
      | tup xs =>
        cases z
        obtain ⟨p, ws, rfl, h1, h2⟩ := look_tup rp rv y
        rw [← hX.K] at h1
        exact call_len pins s σ H _ us Q I r ⟨_, _, rfl, .inr ⟨ws, sqT_mono rp.fz h1, h2.length⟩, q⟩
      | lst xs =>
        cases z
        obtain ⟨p, ws, rfl, h1, h2⟩ := look_lst rp rv y
        rw [← hX.K] at h1
        exact call_len pins s σ H _ us Q I r ⟨_, _, rfl, .inl ⟨ws, h1, h2.length⟩, q⟩
      | dct ks us' =>
        cases z
        obtain ⟨p, kvs, rfl, h1, h2, h3⟩ := look_dct rp rv y
        subst h2
        rw [List.length_map] at q
        exact call_lenD pins s σ H _ us Q I r ⟨p, kvs, rfl, h1, q⟩
      | _ => cases z
theorem ps_abs (mu : Nat) : CallS X C E' (.builtin "abs") (primD mu .abs) := by
  intro pins s σ H vs us Q S st as I r rp rv h
  obtain ⟨a, rfl⟩ := one_arg (α := Nat) (rel := rV C) ⟨by decide, by decide⟩ h
  obtain ⟨v, rfl, rv'⟩ := rvs1 rv
  clear rv
  have rv := rv'
  clear rv'
  cases a <;> first | exact Post.bad (C := C) h | skip
  case int i =>
    rw [rv_int] at rv; subst rv
    exact call_abs pins s σ H _ us Q I r ⟨i, rfl, post_same h rp (rv_int.mpr rfl)⟩
theorem ps_int (mu : Nat) : CallS X C E' (.type "int") (primD mu .int) := by
  intro pins s σ H vs us Q S st as I r rp rv h
  obtain ⟨a, rfl⟩ := one_arg (α := Nat) (rel := rV C) ⟨by decide, by decide⟩ h
  obtain ⟨v, rfl, rv'⟩ := rvs1 rv
  clear rv
  have rv := rv'
  clear rv'
  cases a <;> first | exact Post.bad (C := C) h | skip
  case int i =>
    rw [rv_int] at rv; subst rv
    exact call_int1 pins s σ H _ us Q I r (.inl ⟨i, rfl, post_same h rp (rv_int.mpr rfl)⟩)
  case bl i =>
    rw [rv_bl] at rv; subst rv
    exact call_int1 pins s σ H _ us Q I r (.inr ⟨i, rfl, post_same h rp (rv_int.mpr rfl)⟩)
theorem ps_str (mu : Nat) : CallS X C E' (.type "str") (primD mu .str) := by
  intro pins s σ H vs us Q S st as I r rp rv h
  obtain ⟨a, rfl⟩ := one_arg (α := Nat) (rel := rV C) ⟨by decide, by decide⟩ h
  obtain ⟨v, rfl, rv'⟩ := rvs1 rv
  clear rv
  have rv := rv'
  clear rv'
  cases a <;> first | exact Post.bad (C := C) h | skip
  case int i =>
    rw [rv_int] at rv; subst rv
    obtain ⟨hl, h⟩ := post_ite h
    exact call_str_int pins s σ H _ us Q I r ⟨i, rfl, hl, post_same h rp (rv_str.mpr rfl)⟩
theorem ints_rv {S : Rp} : ∀ {xs : List D} {vs : List V} {ns : List Int}, RVs C S xs vs → intsOf xs = some ns → vs = ns.map V.int
  | [], vs, ns, h, e => by cases e; rw [RVs] at h; exact h
  | d :: ds, vs, ns, h, e => by
    rw [RVs] at h
    obtain ⟨v, r, rfl, h1, h2⟩ := h
    cases d with
    | int i =>
      have e : (intsOf ds).map (i :: ·) = some ns := e
      cases z : intsOf ds with
      | none => rw [z] at e; cases e
      | some ms =>
        rw [z] at e; cases e
        rw [rv_int.mp h1, ints_rv h2 z]; rfl
    | _ => cases e
theorem bls_rv {S : Rp} : ∀ {xs : List D} {vs : List V} {ns : List Bool}, RVs C S xs vs → blsOf xs = some ns → vs = ns.map V.bl
  | [], vs, ns, h, e => by cases e; rw [RVs] at h; exact h
  | d :: ds, vs, ns, h, e => by
    rw [RVs] at h
    obtain ⟨v, r, rfl, h1, h2⟩ := h
    cases d with
    | bl i =>
      have e : (blsOf ds).map (i :: ·) = some ns := e
      cases z : blsOf ds with
      | none => rw [z] at e; cases e
      | some ms =>
        rw [z] at e; cases e
        rw [rv_bl.mp h1, bls_rv h2 z]; rfl
    | _ => cases e
theorem ps_sum (hX : XOk X C k E) (mu : Nat) : CallS X C E' (.builtin "sum") (primD mu .sum) := by
  intro pins s σ H vs us Q S st as I r rp rv h
  obtain ⟨a, rfl⟩ := one_arg (α := Nat) (rel := rV C) ⟨by decide, by decide⟩ h
  obtain ⟨v, rfl, rv'⟩ := rvs1 rv
  clear rv
  have rv := rv'
  clear rv'
  have h : Post C (rV C) S H (match lstOf st a with | some xs => ofO ((intsOf xs).map fun ns => .int ns.sum) st | none => .bad) Q (E' σ) := h
  cases z : lstOf st a with
  | none => rw [z] at h; exact h.bad
  | some xs =>
    rw [z] at h
    obtain ⟨d, e, h⟩ := post_ofO h
    cases y : intsOf xs with
    | none => rw [y] at e; cases e
    | some ns =>
      rw [y] at e; cases e
      obtain ⟨p, ws, rfl, h1, h2⟩ := lstOf_some rp rv z
      rw [ints_rv h2 y, ← hX.K] at h1
      exact cr_sum hX.calm pins s σ H _ us Q I r ⟨p, ns, rfl, h1, post_same h rp (rv_int.mpr rfl)⟩
theorem ps_all (hX : XOk X C k E) (mu : Nat) : CallS X C E' (.builtin "all") (primD mu .all) := by
  intro pins s σ H vs us Q S st as I r rp rv h
  obtain ⟨a, rfl⟩ := one_arg (α := Nat) (rel := rV C) ⟨by decide, by decide⟩ h
  obtain ⟨v, rfl, rv'⟩ := rvs1 rv
  clear rv
  have rv := rv'
  clear rv'
  have h : Post C (rV C) S H (match lstOf st a with | some xs => ofO ((blsOf xs).map fun bs => .bl (bs.all id)) st | none => .bad) Q (E' σ) := h
  cases z : lstOf st a with
  | none => rw [z] at h; exact h.bad
  | some xs =>
    rw [z] at h
    obtain ⟨d, e, h⟩ := post_ofO h
    cases y : blsOf xs with
    | none => rw [y] at e; cases e
    | some ns =>
      rw [y] at e; cases e
      obtain ⟨p, ws, rfl, h1, h2⟩ := lstOf_some rp rv z
      rw [bls_rv h2 y, ← hX.K] at h1
      exact cr_all hX.calm pins s σ H _ us Q I r ⟨p, ns, rfl, h1, post_same h rp (rv_bl.mpr rfl)⟩
theorem ps_any (hX : XOk X C k E) (mu : Nat) : CallS X C E' (.builtin "any") (primD mu .any) := by
  intro pins s σ H vs us Q S st as I r rp rv h
  obtain ⟨a, rfl⟩ := one_arg (α := Nat) (rel := rV C) ⟨by decide, by decide⟩ h
  obtain ⟨v, rfl, rv'⟩ := rvs1 rv
  clear rv
  have rv := rv'
  clear rv'
  have h : Post C (rV C) S H (match lstOf st a with | some xs => ofO ((blsOf xs).map fun bs => .bl (bs.any id)) st | none => .bad) Q (E' σ) := h
  cases z : lstOf st a with
  | none => rw [z] at h; exact h.bad
  | some xs =>
    rw [z] at h
    obtain ⟨d, e, h⟩ := post_ofO h
    cases y : blsOf xs with
    | none => rw [y] at e; cases e
    | some ns =>
      rw [y] at e; cases e
      obtain ⟨p, ws, rfl, h1, h2⟩ := lstOf_some rp rv z
      rw [bls_rv h2 y, ← hX.K] at h1
      exact cr_any hX.calm pins s σ H _ us Q I r ⟨p, ns, rfl, h1, post_same h rp (rv_bl.mpr rfl)⟩
theorem ps_tuple (hX : XOk X C k E) (mu : Nat) : CallS X C E' (.type "tuple") (primD mu .tuple) := by
  intro pins s σ H vs us Q S st as I r rp rv h
  obtain ⟨a, rfl⟩ := one_arg (α := Nat) (rel := rV C) ⟨by decide, by decide⟩ h
  obtain ⟨v, rfl, rv'⟩ := rvs1 rv
  clear rv
  have rv := rv'
  clear rv'
  have h : Post C (rV C) S H (match look st a with | some (.lst xs) => mkT xs st | some (.tup xs) => .ok (.tup xs) st | _ => .bad) Q (E' σ) := h
  cases z : look st a with
  | none => rw [z] at h; exact h.bad
  | some a' =>
    rw [z] at h
    cases a' with
    | lst xs =>
      obtain ⟨p, ws, rfl, h1, h2⟩ := look_lst rp rv z
      rw [← hX.K] at h1
      exact call_tuple_of pins s σ H _ us Q I r ⟨p, ws, rfl, .inl ⟨h1, fun l hl => tup_new (mkT_ok h) rp h2 hl⟩⟩
    | tup xs =>
      obtain ⟨p, ws, rfl, h1, h2⟩ := look_tup rp rv z
      have h1' := h1
      rw [← hX.K] at h1'
      exact call_tuple_of pins s σ H _ us Q I r ⟨p, ws, rfl, .inr ⟨sqT_mono rp.fz h1', post_same h rp (rv_tup.mpr ⟨p, ws, rfl, h1, h2⟩)⟩⟩
    | _ => exact h.bad
theorem ps_list (hX : XOk X C k E) (mu : Nat) : CallS X C E' (.type "list") (primD mu .list) := by
  intro pins s σ H vs us Q S st as I r rp rv h
  obtain ⟨a, rfl⟩ := one_arg (α := Nat) (rel := rV C) ⟨by decide, by decide⟩ h
  obtain ⟨v, rfl, rv'⟩ := rvs1 rv
  clear rv
  have rv := rv'
  clear rv'
  have h : Post C (rV C) S H (match seqOf st a with | some xs => mkL mu xs st | none => .bad) Q (E' σ) := h
  unfold seqOf at h
  cases z : look st a with
  | none => rw [z] at h; exact h.bad
  | some a' =>
    rw [z] at h
    cases a' with
    | lst xs =>
      obtain ⟨p, ws, rfl, h1, h2⟩ := look_lst rp rv z
      rw [← hX.K] at h1
      exact call_list_of pins s σ H _ us Q I r ⟨p, ws, rfl, .inl h1, fun l hl => mkL_post h rp h2 hl⟩
    | tup xs =>
      obtain ⟨p, ws, rfl, h1, h2⟩ := look_tup rp rv z
      rw [← hX.K] at h1
      exact call_list_of pins s σ H _ us Q I r ⟨p, ws, rfl, .inr (sqT_mono rp.fz h1), fun l hl => mkL_post h rp h2 hl⟩
    | _ => exact h.bad
theorem ps_max2 (hX : XOk X C k E) (mu : Nat) : CallS X C E' (.builtin "max") (primD mu .max2) := by
  intro pins s σ H vs us Q S st as I r rp rv h
  rcases as with _ | ⟨a, _ | ⟨b, _ | ⟨c, t⟩⟩⟩
  · exact Post.bad (C := C) h
  · exact Post.bad (C := C) (by cases a <;> exact h)
  · cases a <;> first | exact Post.bad (C := C) h | skip
    case int i =>
      cases b <;> first | exact Post.bad (C := C) h | skip
      case int j =>
        obtain ⟨v, w, rfl, r1, r2⟩ := rvs2 rv
        rw [rv_int] at r1 r2; subst r1 r2
        exact call_max2 hX.calm pins s σ H _ us Q I r ⟨i, j, rfl, post_same h rp (rv_int.mpr rfl)⟩
  · exact Post.bad (C := C) (by cases a <;> (try cases b) <;> exact h)
theorem ps_min2 (hX : XOk X C k E) (mu : Nat) : CallS X C E' (.builtin "min") (primD mu .min2) := by
  intro pins s σ H vs us Q S st as I r rp rv h
  rcases as with _ | ⟨a, _ | ⟨b, _ | ⟨c, t⟩⟩⟩
  · exact Post.bad (C := C) h
  · exact Post.bad (C := C) (by cases a <;> exact h)
  · cases a <;> first | exact Post.bad (C := C) h | skip
    case int i =>
      cases b <;> first | exact Post.bad (C := C) h | skip
      case int j =>
        obtain ⟨v, w, rfl, r1, r2⟩ := rvs2 rv
        rw [rv_int] at r1 r2; subst r1 r2
        exact call_min2 hX.calm pins s σ H _ us Q I r ⟨i, j, rfl, post_same h rp (rv_int.mpr rfl)⟩
  · exact Post.bad (C := C) (by cases a <;> (try cases b) <;> exact h)

/-! ### repr -/
theorem ps_repr (hX : XOk X C k E) (mu : Nat) : CallS X C E' (.builtin "repr") (primD mu .repr) := by
  intro pins s σ H vs us Q S st as I r rp rv h
  obtain ⟨a, rfl⟩ := one_arg (α := Nat) (rel := rV C) ⟨by decide, by decide⟩ h
  obtain ⟨v, rfl, rv'⟩ := rvs1 rv
  clear rv
  have rv := rv'
  clear rv'
  have h : Post C (rV C) S H (match view st a with
    | some d => match d.py with
      | some q => if PyData.showable q && decide (q.depth ≤ 64) && decide (q.shown.length ≤ lim) then .ok (.str q.shown) st else .bad
      | none => .bad
    | none => .bad) Q (E' σ) := h
  cases z : view st a with
  | none => rw [z] at h; exact h.bad
  | some d =>
    rw [z] at h
    cases y : d.py with
    | none => simp only [y] at h; exact h.bad
    | some q =>
      simp only [y] at h
      obtain ⟨hl, h⟩ := post_ite h
      simp only [Bool.and_eq_true, decide_eq_true_eq] at hl
      obtain ⟨⟨l1, l2⟩, l3⟩ := hl
      have fin := post_same h rp (rv_str.mpr rfl)
      cases r with
      | cons r1 r2 =>
        cases r2
        rename_i u
        obtain ⟨as, hr, hm⟩ := reads_of I hX.K (sm_free hX I) (fun _ _ h => h) (view_rv rp rv z) y r1
        have un := hX.room.un
        cases hr with
        | none => exact P.repr_of_none ⟨.str _, H, I.tok _, ⟨_, rfl⟩, fin⟩
        | bool b => exact P.repr_of_bool ⟨.str _, H, I.tok _, ⟨_, rfl⟩, fin⟩
        | int i t =>
          refine P.repr_of_int ?_ ⟨.str _, H, I.tok _, ⟨_, rfl⟩, fin⟩
          have l1 : decide (i.natAbs.log2 < 1920) = true := by rw [PyData.showable] at l1; exact l1
          exact of_decide_eq_true l1
        | str x t =>
          refine P.repr_of_str (x := x) ⟨.str _, H, I.tok _, ⟨_, rfl⟩, fin⟩ ?_
          have l3 : (reprText x).length ≤ lim := by rw [PyData.shown] at l3; exact l3
          exact lim_line l3
        | list a1 a2 a3 a4 =>
          exact repr_of_reads' (.list a1 a2 a3 a4) l1 (fun _ => hm) hX.gd (by omega) (fun _ _ e => e) (fun h' u tk hk => ⟨.str _, H, I.kept (t' := tk) hk, ⟨_, rfl⟩, fin⟩) (lim_line l3)
        | tuple a1 a2 a3 a4 =>
          exact repr_of_reads' (.tuple a1 a2 a3 a4) l1 (fun _ => hm) hX.gd (by omega) (fun _ _ e => e) (fun h' u tk hk => ⟨.str _, H, I.kept (t' := tk) hk, ⟨_, rfl⟩, fin⟩) (lim_line l3)
        | dict a1 a2 a3 a4 a5 =>
          exact repr_of_reads' (.dict a1 a2 a3 a4 a5) l1 (fun _ => hm) hX.gd (by omega) (fun _ _ e => e) (fun h' u tk hk => ⟨.str _, H, I.kept (t' := tk) hk, ⟨_, rfl⟩, fin⟩) (lim_line l3)
end
end Px

/-! Px9: targets, what is walked, comprehensions. -/
namespace Px
open PySem PySem.Spec PyProof.Rows L2
section
variable {X : Cx} {C : Kc} {E E' : L2.St → XK} {k : Nat}

/-! ### targets -/
theorem REnv.set {S : Rp} {ρ : Env} {σ : L2.St} {i : Nat} {d : D} {v : V} (r : REnv C S ρ σ) (h : RV C S d v) : REnv C S (ρ.set i (some d)) (σ.set i (some v)) :=
  ⟨by rw [List.length_set, List.length_set]; exact r.len, fun j d' e => by
    by_cases z : i = j
    · subst z
      have hl : i < ρ.length := by
        have := (List.getElem?_eq_some_iff.mp e).1
        rwa [List.length_set] at this
      rw [List.getElem?_set_self hl] at e
      cases e
      exact ⟨v, by rw [List.getElem?_set_self (by rw [r.len]; exact hl)], h⟩
    · rw [List.getElem?_set_ne z] at e
      obtain ⟨w, h1, h2⟩ := r.at_ j d' e
      exact ⟨w, by rw [List.getElem?_set_ne z]; exact h1, h2⟩⟩
theorem REnv.unset {S : Rp} {ρ : Env} {σ : L2.St} {i : Nat} (r : REnv C S ρ σ) : REnv C S (ρ.set i none) (σ.set i none) :=
  ⟨by rw [List.length_set, List.length_set]; exact r.len, fun j d' e => by
    by_cases z : i = j
    · subst z
      have hl : i < ρ.length := by
        have := (List.getElem?_eq_some_iff.mp e).1
        rwa [List.length_set] at this
      rw [List.getElem?_set_self hl] at e
      cases e
    · rw [List.getElem?_set_ne z] at e
      obtain ⟨w, h1, h2⟩ := r.at_ j d' e
      exact ⟨w, by rw [List.getElem?_set_ne z]; exact h1, h2⟩⟩
theorem REnv.wipe {S : Rp} {ρ : Env} {σ : L2.St} (r : REnv C S ρ σ) : ∀ vs : List Nat, REnv C S (wipeE ρ vs) (L2.wipe σ vs)
  | [] => r
  | v :: vs => (REnv.wipe r vs).unset
def tTg (C : Kc) (t : Tg) : TG := fun v σ H Q => ∃ S ρ st d ρ', Rep C S st H ∧ REnv C S ρ σ ∧ RV C S d v ∧ setT t d ρ = some ρ' ∧ ∀ σ', REnv C S ρ' σ' → (∀ i, i ∉ slotsT t → σ'[i]? = σ[i]?) → Q σ' H
def tTgs (C : Kc) (t : List Tg) : TGs := fun vs σ H Q => ∃ S ρ st ds ρ', Rep C S st H ∧ REnv C S ρ σ ∧ RVs C S ds vs ∧ setTs t ds ρ = some ρ' ∧ ∀ σ', REnv C S ρ' σ' → (∀ i, i ∉ slotsTs t → σ'[i]? = σ[i]?) → Q σ' H
theorem PG.weak {e : Expr} {t t' : TG} (h : PG X e t) (kk : ∀ v σ H Q, t' v σ H Q → t v σ H Q) : PG X e t' := ⟨fun pins s σ H v u Q I r q => h.run pins s σ H v u Q I r (kk v σ H Q q)⟩
theorem PGs.weak {e : List Expr} {t t' : TGs} (h : PGs X e t) (kk : ∀ v σ H Q, t' v σ H Q → t v σ H Q) : PGs X e t' := ⟨fun pins s σ H v u Q I r q => h.run pins s σ H v u Q I r (kk v σ H Q q)⟩
theorem sg_name {i : Nat} {x : Str} {pos : Pos} (hN : X.N.Nodup) (hi : X.N[i]? = some x) (hx : Loc X.env.scope x) (hf : X.fn x = true ∨ X.env.scope.names.lookup x = some .local) : PG X (.Name x pos) (tTg C (.name i)) :=
  PG.weak (pg_name hN hi hx hf) fun v σ H Q q => by
    obtain ⟨S, ρ, st, d, ρ', rp, rn, rv, e, q⟩ := q
    rw [setT] at e
    cases e
    exact q _ (rn.set rv) fun j hj => List.getElem?_set_ne (fun e => hj (by rw [slotsT, e]; exact List.mem_singleton_self _))
theorem sgs_nil : PGs X [] (tTgs C []) := PGs.weak pgs_nil fun v σ H Q q => by
  obtain ⟨S, ρ, st, ds, ρ', rp, rn, rv, e, q⟩ := q
  cases ds with
  | nil =>
    rw [setTs] at e; cases e
    rw [RVs] at rv
    exact ⟨rv, q σ rn fun _ _ => rfl⟩
  | cons d ds => rw [setTs] at e; cases e
theorem sgs_cons {e : Expr} {es : List Expr} {t : Tg} {ts : List Tg} (h1 : PG X e (tTg C t)) (h2 : PGs X es (tTgs C ts)) (hs : (assignEach (e :: es) X.env).map (·.2) = assign e X.env :: (assignEach es X.env).map (·.2)) : PGs X (e :: es) (tTgs C (t :: ts)) :=
  PGs.weak (pgs_cons h1 h2 hs) fun vs σ H Q q => by
    obtain ⟨S, ρ, st, ds, ρ', rp, rn, rv, e, q⟩ := q
    cases ds with
    | nil => rw [setTs] at e; cases e
    | cons d ds =>
      rw [setTs] at e
      rw [RVs] at rv
      obtain ⟨v, r, rfl, r1, r2⟩ := rv
      cases z : setT t d ρ with
      | none => rw [z] at e; cases e
      | some ρ1 =>
        rw [z] at e
        refine ⟨v, r, rfl, S, ρ, st, d, ρ1, rp, rn, r1, z, fun σ1 rn1 k1 => ⟨S, ρ1, st, ds, ρ', rp, rn1, r2, e, fun σ2 rn2 k2 => q σ2 rn2 fun i hi => ?_⟩⟩
        rw [slotsTs, List.mem_append] at hi
        rw [k2 i (fun h => hi (.inr h)), k1 i (fun h => hi (.inl h))]
theorem setTs_len : ∀ {ts : List Tg} {ds : List D} {ρ ρ' : Env}, setTs ts ds ρ = some ρ' → ts.length = ds.length
  | [], [], _, _, _ => rfl
  | t :: ts, [], _, _, e => by rw [setTs] at e; cases e
  | [], d :: ds, _, _, e => by rw [setTs] at e; cases e
  | t :: ts, d :: ds, ρ, ρ', e => by
    rw [setTs] at e
    cases z : setT t d ρ with
    | none => rw [z] at e; cases e
    | some ρ1 => rw [z] at e; simp [setTs_len e]
theorem sg_tup {es : List Expr} {kk : Nat} {ts : List Tg} {pos : Pos} (hX : XOk X C k E) (h : PGs X es (tTgs C ts)) (hn : (assignEach es X.env).length = ts.length) (hst : (assignEach es X.env).findIdx? (·.1) = none) : PG X (.Tuple es kk pos) (tTg C (.tup ts)) :=
  PG.weak (pg_tup hX.calm h hn hst) fun v σ H Q q => by
    obtain ⟨S, ρ, st, d, ρ', rp, rn, rv, e, q⟩ := q
    cases d with
    | tup ds =>
      rw [setT] at e
      obtain ⟨a, vs, rfl, h1, h2⟩ := rv_tup.mp rv
      rw [← hX.K] at h1
      exact ⟨a, vs, rfl, sqT_mono rp.fz h1, by rw [← h2.length, setTs_len e], S, ρ, st, ds, ρ', rp, rn, h2, e, fun σ' rn' k' => q σ' rn' fun i hi => k' i (by rw [slotsT] at hi; exact hi)⟩
    | _ => rw [setT] at e <;> first | exact nomatch e | (intro ds h; exact nomatch h)

/-! ### what is walked -/
def ItOk (C : Kc) (J : L2.It) (S : Rp) (items : List D) (g : Option (Nat × List D)) : Prop := ∀ S' st' H', Ext S S' → Rep C S' st' H' → guardOk st' g →
  (∀ i, i < items.length → J.go i H') ∧ (∀ i, items.length ≤ i → J.stop i H') ∧ ∀ i x H'' d, items[i]? = some d → J.yld i H' x H'' → ∃ S'', Go S' H' S'' H'' ∧ Rep C S'' st' H'' ∧ RV C S'' d x
def rI (C : Kc) : Rel Walk L2.It := fun S st w J => guardOk st w.2 ∧ ItOk C J S w.1 w.2
abbrev SI (X : Cx) (C : Kc) (E : L2.St → XK) (f : Fx Walk) (tg e : Expr) : Prop := PI X tg e (tF C (rI C) E f)
theorem PI.weak {tg e : Expr} {t t' : TI} (h : PI X tg e t) (kk : ∀ σ H Q, t' σ H Q → t σ H Q) : PI X tg e t' := ⟨fun pins s σ H R I q => h.run pins s σ H R I (kk σ H R q)⟩
theorem PI.or {tg e : Expr} {t t' : TI} (h : PI X tg e t) (h' : PI X tg e t') : PI X tg e (fun σ H R => t σ H R ∨ t' σ H R) := ⟨fun pins s σ H R I q => q.elim (h.run pins s σ H R I) (h'.run pins s σ H R I)⟩
theorem it_list {S : Rp} {a : Addr} {xs : List D} {g : Option (Nat × List D)} (hd : ∀ S' st' H', Ext S S' → Rep C S' st' H' → guardOk st' g → ∃ vs, SqL C.K H' a vs ∧ RVs C S' xs vs) : ItOk C (Itl C.K a) S xs g := by
  intro S' st' H' ex rp hg
  obtain ⟨vs, h1, h2⟩ := hd S' st' H' ex rp hg
  refine ⟨fun i hi => ?_, fun i hi => ⟨vs, h1, by rw [← h2.length]; exact hi⟩, fun i x H'' d e y => ?_⟩
  · have hi' : i < vs.length := by rw [← h2.length]; exact hi
    exact ⟨vs, vs[i], h1, List.getElem?_eq_getElem hi'⟩
  · obtain ⟨rfl, f⟩ := y
    obtain ⟨v, e1, e2⟩ := h2.get e
    have := f vs h1
    rw [e1] at this; cases this
    exact ⟨S', .refl _ _, rp, e2⟩
theorem it_tup {S : Rp} {a : Addr} {xs : List D} {vs : List V} (h1 : SqT C.K S.G a vs) (h2 : RVs C S xs vs) : ItOk C (Itt C.K a) S xs none := by
  intro S' st' H' ex rp hg
  have h1 : SqT C.K H' a vs := sqT_mono rp.fz (sqT_mono ex.g h1)
  have h2 := RVs.mono ex h2
  refine ⟨fun i hi => ?_, fun i hi => ⟨vs, h1, by rw [← h2.length]; exact hi⟩, fun i x H'' d e y => ?_⟩
  · have hi' : i < vs.length := by rw [← h2.length]; exact hi
    exact ⟨vs, vs[i], h1, List.getElem?_eq_getElem hi'⟩
  · obtain ⟨rfl, f⟩ := y
    obtain ⟨v, e1, e2⟩ := h2.get e
    have := f vs h1
    rw [e1] at this; cases this
    exact ⟨S', .refl _ _, rp, e2⟩
theorem it_rng {S : Rp} {lo : Int} {n : Nat} : ItOk C (Itr lo n) S ((List.range n).map fun (k : Nat) => .int (lo + (k : Int))) none := by
  intro S' st' H' ex rp hg
  refine ⟨fun i hi => (by simpa using hi : i < n), fun i hi => (by simpa using hi : n ≤ i), fun i x H'' d e y => ?_⟩
  obtain ⟨rfl, rfl⟩ := y
  rw [List.getElem?_map] at e
  cases z : (List.range n)[i]? with
  | none => rw [z] at e; cases e
  | some j =>
    rw [z] at e; cases e
    rw [List.getElem?_eq_some_iff] at z
    obtain ⟨_, z⟩ := z
    rw [List.getElem_range] at z
    subst z
    exact ⟨S', .refl _ _, rp, rv_int.mpr rfl⟩
theorem it_str {S : Rp} {x : Str} : ItOk C (Its x) S (x.cps.toList.map fun c => .str ⟨#[c]⟩) none := by
  intro S' st' H' ex rp hg
  refine ⟨fun i hi => (by simpa using hi : i < x.cps.size), fun i hi => (by simpa using hi : x.cps.size ≤ i), fun i v H'' d e y => ?_⟩
  obtain ⟨rfl, c, y, rfl⟩ := y
  rw [List.getElem?_map] at e
  have : x.cps.toList[i]? = some c := by simpa using y
  rw [this] at e; cases e
  exact ⟨S', .refl _ _, rp, rv_str.mpr rfl⟩
theorem se_walk {f : Fx D} {tg e : Expr} (hX : XOk X C k E) (h : SE X C E f e) : SI X C E (fun ρ st => (f ρ st).bind fun x st1 => ofO (walkOf x st1) st1) tg e :=
  PI.weak (PI.or (pi_list h) (PI.or (pi_tup h) (pi_str h))) fun σ H RR q => by
    obtain ⟨S, ρ, st, rp, rn, q⟩ := q
    cases z : f ρ st with
    | bad => simp only [z, R.bind_bad] at q; exact Post.bad (C := C) (rel := rI C) q
    | ex c ns us st' =>
      simp only [z, R.bind_ex] at q
      exact .inl ⟨S, ρ, st, rp, rn, by rw [z]; exact q⟩
    | ok d st1 =>
      simp only [z, R.bind_ok] at q
      cases w : walkOf d st1 with
      | none => rw [w] at q; exact Post.bad (C := C) (rel := rI C) q
      | some ww =>
        rw [w] at q
        have q : Post C (rI C) S H (.ok ww st1) RR (E σ) := q
        have lists : ∀ xs : List D, ww.1 = xs → look st1 d = some (.lst xs) → (∀ S1 H1 v, Rep C S1 st1 H1 → RV C S1 d v → ∃ a, v = .ref a ∧ guardOk st1 ww.2 ∧ ∀ S' st' H', Ext S1 S' → Rep C S' st' H' → guardOk st' ww.2 → ∃ vs, SqL C.K H' a vs ∧ RVs C S' xs vs) → iList X.K (tF C (rV C) E f) σ H RR := fun xs e0 e1 kk => by
          refine ⟨S, ρ, st, rp, rn, ?_⟩
          rw [z]
          intro S1 H1 v g1 rp1 rv1
          obtain ⟨a, rfl, hg, hh⟩ := kk S1 H1 v rp1 rv1
          obtain ⟨a', vs, e2, h1, h2⟩ := look_lst rp1 rv1 e1
          cases e2
          rw [hX.K]
          exact ⟨a, rfl, ⟨vs, h1⟩, q S1 H1 _ g1 rp1 ⟨hg, by rw [e0]; exact it_list hh⟩⟩
        cases d with
        | lst xs =>
          cases w
          refine .inl (lists xs rfl rfl fun S1 H1 v rp1 rv1 => ?_)
          obtain ⟨a, vs, rfl, h1, h2⟩ := rv_lst.mp rv1
          exact ⟨a, rfl, trivial, fun S' st' H' ex rp' _ => ⟨vs, .inl (.inl (rp'.fz _ _ (ex.g _ _ h1))), h2.mono ex⟩⟩
        | lck xs =>
          cases w
          refine .inl (lists xs rfl rfl fun S1 H1 v rp1 rv1 => ?_)
          obtain ⟨a, vs, rfl, h1, h2⟩ := rv_lck.mp rv1
          exact ⟨a, rfl, trivial, fun S' st' H' ex rp' _ => ⟨vs, sqL_mono rp'.fz (sqL_mono ex.g h1), h2.mono ex⟩⟩
        | cell n =>
          have w : (match st1[n]? with | some (.lst xs) => some (xs, some (n, xs)) | _ => none) = some ww := w
          cases y : st1[n]? with
          | none => rw [y] at w; cases w
          | some mo =>
            rw [y] at w
            cases mo with
            | lst xs =>
              cases w
              refine .inl (lists xs rfl (by rw [look_cell, y]; rfl) fun S1 H1 v rp1 rv1 => ?_)
              obtain ⟨a, rfl, ha⟩ := rv_cell.mp rv1
              refine ⟨a, rfl, y, fun S' st' H' ex rp' hg => ?_⟩
              obtain ⟨a', o, e1, e2, e3, e4⟩ := rp'.at_ n _ hg
              rw [ex.at_ ha] at e1; cases e1
              obtain ⟨vs, rfl, e5⟩ := e4
              exact ⟨vs, .inl (.inl e3), e5⟩
            | dct _ _ => cases w
            | ins _ _ _ => cases w
        | tup xs =>
          cases w
          refine .inr (.inl ⟨S, ρ, st, rp, rn, ?_⟩)
          rw [z]
          intro S1 H1 v g1 rp1 rv1
          obtain ⟨a, vs, rfl, h1, h2⟩ := rv_tup.mp rv1
          rw [hX.K]
          exact ⟨a, rfl, ⟨vs, sqT_mono rp1.fz h1⟩, q S1 H1 _ g1 rp1 ⟨trivial, it_tup h1 h2⟩⟩
        | str x =>
          cases w
          refine .inr (.inr ⟨S, ρ, st, rp, rn, ?_⟩)
          rw [z]
          intro S1 H1 v g1 rp1 rv1
          exact ⟨x, rv_str.mp rv1, q S1 H1 _ g1 rp1 ⟨trivial, it_str⟩⟩
        | _ => cases w

theorem ints1 {S : Rp} {as : List D} {vs : List V} {l : List D} (rv : RVs C S as vs) (e : rngOf as = some l) :
    (∃ j : Int, vs = [.int j] ∧ as = [.int j] ∧ -(2 ^ 62) ≤ j ∧ j < 2 ^ 62 ∧ l = (List.range j.toNat).map fun (k : Nat) => .int (k : Int)) ∨
    (∃ i j : Int, vs = [.int i, .int j] ∧ as = [.int i, .int j] ∧ (-(2 ^ 62) ≤ i ∧ i < 2 ^ 62 ∧ -(2 ^ 62) ≤ j ∧ j < 2 ^ 62) ∧ l = (List.range (j - i).toNat).map fun (k : Nat) => .int (i + (k : Int))) ∨
    (∃ i j : Int, vs = [.int i, .int j, .int (-1)] ∧ as = [.int i, .int j, .int (-1)] ∧ (-(2 ^ 61) ≤ i ∧ i < 2 ^ 61 ∧ -(2 ^ 61) ≤ j ∧ j < 2 ^ 61) ∧ l = (List.range (i - j).toNat).map fun (k : Nat) => .int (i - (k : Int))) := by
  unfold rngOf at e
  split at e
  · split at e
    · rename_i h
      cases e
      simp only [Bool.and_eq_true, decide_eq_true_eq] at h
      obtain ⟨v, rfl, r1⟩ := rvs1 rv
      exact .inl ⟨_, by rw [rv_int.mp r1], rfl, h.1, h.2, rfl⟩
    · cases e
  · split at e
    · rename_i h
      cases e
      simp only [Bool.and_eq_true, decide_eq_true_eq] at h
      obtain ⟨v, w, rfl, r1, r2⟩ := rvs2 rv
      exact .inr (.inl ⟨_, _, by rw [rv_int.mp r1, rv_int.mp r2], rfl, ⟨h.1.1.1, h.1.1.2, h.1.2, h.2⟩, rfl⟩)
    · cases e
  · split at e
    · rename_i h
      cases e
      simp only [Bool.and_eq_true, decide_eq_true_eq] at h
      rw [RVs] at rv
      obtain ⟨v, r, rfl, r1, r2⟩ := rv
      obtain ⟨w, x, rfl, r2, r3⟩ := rvs2 r2
      exact .inr (.inr ⟨_, _, by rw [rv_int.mp r1, rv_int.mp r2, rv_int.mp r3]; rfl, rfl, ⟨h.1.1.1, h.1.1.2, h.1.2, h.2⟩, rfl⟩)
    · cases e
  · cases e
def rngF (f : Fx (List D)) : Fx Walk := fun ρ st => (f ρ st).bind fun xs st1 => ofO ((rngOf xs).map fun l => (l, none)) st1
theorem post_ofW {S : Rp} {H : Hp} {o : Option Walk} {st : Store} {Q : L2.It → Hp → Prop} {E : XK} (h : Post C (rI C) S H (ofO o st) Q E) : ∃ d, o = some d ∧ Post C (rI C) S H (.ok d st) Q E := by
  cases o with
  | none => exact Post.bad (C := C) (rel := rI C) h
  | some d => exact ⟨d, rfl, h⟩
theorem rng_read {f : Fx (List D)} {σ : L2.St} {H : Hp} {RR : L2.It → Hp → Prop} {P : List V → Hp → Prop} (q : tF C (rI C) E (rngF f) σ H RR)
    (kk : ∀ vs H1 as l S st, RVs C S as vs → rngOf as = some l → Rep C S st H1 → Post C (rI C) S H1 (.ok (l, none) st) RR (E σ) → P vs H1) : tF C (rVs C) E f σ H P := by
  obtain ⟨S, ρ, st, rp, rn, q⟩ := q
  refine ⟨S, ρ, st, rp, rn, Post.bind (rel2 := rI C) q fun as st1 S1 H1 vs g1 rp1 rv1 h1 => ?_⟩
  obtain ⟨d, e, h1⟩ := post_ofW h1
  cases z : rngOf as with
  | none => rw [z] at e; cases e
  | some l =>
    rw [z] at e; cases e
    exact kk vs H1 as l S1 st1 rv1 z rp1 h1
theorem si_rng1 {f : Fx (List D)} {tg a : Expr} {p pos : Pos} (hg : Gl X "range") (hm : X.mg "range" = none) (ha : SA X C E f [a]) (hl : ∀ ρ st as st', f ρ st = .ok as st' → as.length = 1) (hs : starEach [a] X.env = [(false, eval a X.env)]) : SI X C E (rngF f) tg (.Call (.Name "range" p) [a] [] pos) :=
  PI.weak (pi_range1 hg hm ha hs) fun σ H RR q => by
    obtain ⟨S, ρ, st, rp, rn, q⟩ := q
    refine ⟨S, ρ, st, rp, rn, ?_⟩
    unfold rngF at q
    cases e : f ρ st with
    | bad => rw [e] at q; exact q
    | ex c ns us st' => rw [e] at q; exact q
    | ok as st1 =>
      rw [e] at q
      intro S1 H1 vs g1 rp1 rv1
      obtain ⟨d, e2, q⟩ := post_ofW (show Post C (rI C) S H (ofO ((rngOf as).map fun l => (l, none)) st1) RR (E σ) from q)
      cases z : rngOf as with
      | none => rw [z] at e2; cases e2
      | some l =>
        rw [z] at e2; cases e2
        have hlen := hl ρ st as st1 e
        rcases ints1 rv1 z with ⟨j, rfl, rfl, h1, h2, rfl⟩ | ⟨i, j, rfl, rfl, _, _⟩ | ⟨i, j, rfl, rfl, _, _⟩
        · refine ⟨j, rfl, h1, h2, q S1 H1 _ g1 rp1 ⟨trivial, ?_⟩⟩
          have := it_rng (C := C) (S := S1) (lo := 0) (n := j.toNat)
          simpa only [Int.zero_add] using this
        · cases hlen
        · cases hlen
theorem si_rng2 {f : Fx (List D)} {tg a b : Expr} {p pos : Pos} (hg : Gl X "range") (hm : X.mg "range" = none) (ha : SA X C E f [a, b]) (hl : ∀ ρ st as st', f ρ st = .ok as st' → as.length = 2) (hs : starEach [a, b] X.env = [(false, eval a X.env), (false, eval b X.env)]) (hs2 : starEach [b] X.env = [(false, eval b X.env)]) : SI X C E (rngF f) tg (.Call (.Name "range" p) [a, b] [] pos) :=
  PI.weak (pi_range2 hg hm ha hs hs2) fun σ H RR q => by
    obtain ⟨S, ρ, st, rp, rn, q⟩ := q
    refine ⟨S, ρ, st, rp, rn, ?_⟩
    unfold rngF at q
    cases e : f ρ st with
    | bad => rw [e] at q; exact q
    | ex c ns us st' => rw [e] at q; exact q
    | ok as st1 =>
      rw [e] at q
      intro S1 H1 vs g1 rp1 rv1
      obtain ⟨d, e2, q⟩ := post_ofW (show Post C (rI C) S H (ofO ((rngOf as).map fun l => (l, none)) st1) RR (E σ) from q)
      cases z : rngOf as with
      | none => rw [z] at e2; cases e2
      | some l =>
        rw [z] at e2; cases e2
        have hlen := hl ρ st as st1 e
        rcases ints1 rv1 z with ⟨j, rfl, rfl, h1, h2, rfl⟩ | ⟨i, j, rfl, rfl, h1, rfl⟩ | ⟨i, j, rfl, rfl, _, _⟩
        · cases hlen
        · exact ⟨i, j, rfl, h1, q S1 H1 _ g1 rp1 ⟨trivial, it_rng⟩⟩
        · cases hlen
theorem si_rng3 {f : Fx (List D)} {tg a b c : Expr} {p pos : Pos} (hg : Gl X "range") (hm : X.mg "range" = none) (ha : SA X C E f [a, b, c]) (hl : ∀ ρ st as st', f ρ st = .ok as st' → as.length = 3) (hs : starEach [a, b, c] X.env = (false, eval a X.env) :: starEach [b, c] X.env) (hpl : (backTo pos (starEach [b, c] X.env)).any (·.1) = false) : SI X C E (rngF f) tg (.Call (.Name "range" p) [a, b, c] [] pos) :=
  PI.weak (pi_range3 hg hm ha hs hpl) fun σ H RR q => by
    obtain ⟨S, ρ, st, rp, rn, q⟩ := q
    refine ⟨S, ρ, st, rp, rn, ?_⟩
    unfold rngF at q
    cases e : f ρ st with
    | bad => rw [e] at q; exact q
    | ex c ns us st' => rw [e] at q; exact q
    | ok as st1 =>
      rw [e] at q
      intro S1 H1 vs g1 rp1 rv1
      obtain ⟨d, e2, q⟩ := post_ofW (show Post C (rI C) S H (ofO ((rngOf as).map fun l => (l, none)) st1) RR (E σ) from q)
      cases z : rngOf as with
      | none => rw [z] at e2; cases e2
      | some l =>
        rw [z] at e2; cases e2
        have hlen := hl ρ st as st1 e
        rcases ints1 rv1 z with ⟨j, rfl, rfl, h1, h2, rfl⟩ | ⟨i, j, rfl, rfl, _, _⟩ | ⟨i, j, rfl, rfl, h1, rfl⟩
        · cases hlen
        · cases hlen
        · refine ⟨i, j, -1, (i - j).toNat, rfl, RgC.neg (by omega) (by omega) (by omega) (by omega), q S1 H1 _ g1 rp1 ⟨trivial, ?_⟩⟩
          intro S' st' H' ex rp' hg
          refine ⟨fun a ha => (by simpa using ha : a < (i - j).toNat), fun a ha => (by simpa using ha : (i - j).toNat ≤ a), fun a x H'' d e y => ?_⟩
          obtain ⟨rfl, rfl⟩ := y
          rw [List.getElem?_map] at e
          cases zz : (List.range (i - j).toNat)[a]? with
          | none => rw [zz] at e; cases e
          | some b =>
            rw [zz] at e; cases e
            rw [List.getElem?_eq_some_iff] at zz
            obtain ⟨_, zz⟩ := zz
            rw [List.getElem_range] at zz
            subst zz
            exact ⟨S', .refl _ _, rp', rv_int.mpr (congrArg V.int (by omega))⟩
theorem zip_get {α β : Type} {xs : List α} {ys : List β} {i : Nat} {p : α × β} (h : (xs.zip ys)[i]? = some p) : xs[i]? = some p.1 ∧ ys[i]? = some p.2 := by
  rw [List.getElem?_zip_eq_some] at h
  exact h
def zipF (f : Fx (List D)) : Fx Walk := fun ρ st => (f ρ st).bind fun xs st1 => ofO (zipOf xs) st1
theorem si_zip {f : Fx (List D)} {elts : List Expr} {kk : Nat} {a b : Expr} {p pos tpos : Pos} (hX : XOk X C k E) (hg : Gl X "zip") (hm : X.mg "zip" = none) (ha : SA X C E f [a, b]) (hs : starEach [a, b] X.env = (false, eval a X.env) :: starEach [b] X.env) (hpl : (backTo pos (starEach [b] X.env)).any (·.1) = false) :
    SI X C E (zipF f) (.Tuple elts kk tpos) (.Call (.Name "zip" p) [a, b] [] pos) :=
  PI.weak (RZ.pi_zipA hg hm ha hs hpl) fun σ H RR q => by
    obtain ⟨S, ρ, st, rp, rn, q⟩ := q
    refine ⟨S, ρ, st, rp, rn, Post.bind (rel2 := rI C) q fun as st1 S1 H1 vs g1 rp1 rv1 h1 => ?_⟩
    obtain ⟨d, e, h1⟩ := post_ofW h1
    unfold zipOf at e
    split at e
    · cases e
      obtain ⟨v, w, rfl, r1, r2⟩ := rvs2 rv1
      obtain ⟨l1, vs1, rfl, a1, a2⟩ := rv_lst.mp r1
      obtain ⟨l2, vs2, rfl, b1, b2⟩ := rv_lst.mp r2
      refine ⟨l1, l2, vs1, vs2, rfl, .inl ⟨.inl (.inl (rp1.fz _ _ a1)), .inl (.inl (rp1.fz _ _ b1)), h1.end_ (.refl _ _) rp1 ⟨trivial, ?_⟩⟩⟩
      intro S' st' H' ex rp' hgd
      have c1 : SqL X.K H' l1 vs1 := .inl (.inl (rp'.fz _ _ (ex.g _ _ a1)))
      have c2 : SqL X.K H' l2 vs2 := .inl (.inl (rp'.fz _ _ (ex.g _ _ b1)))
      have d1 := RVs.mono ex a2
      have d2 := RVs.mono ex b2
      refine ⟨fun i hi => ?_, fun i hi => ⟨vs1, vs2, c1, c2, ?_⟩, fun i x H'' d e y => ?_⟩
      · rw [List.length_map, List.length_zip, d1.length, d2.length] at hi
        exact ⟨vs1, vs2, vs1[i]'(by omega), vs2[i]'(by omega), c1, c2, List.getElem?_eq_getElem (by omega), List.getElem?_eq_getElem (by omega)⟩
      · rw [List.length_map, List.length_zip, d1.length, d2.length] at hi
        omega
      · obtain ⟨T, x1, x2, rfl, nT, rfl, f1, f2⟩ := y
        rw [List.getElem?_map] at e
        rename_i xs0 ys0 _
        cases zz : (List.zip xs0 ys0)[i]? with
        | none => rw [zz] at e; cases e
        | some pr =>
          rw [zz] at e; cases e
          obtain ⟨e1, e2⟩ := zip_get zz
          obtain ⟨y1, g1, g2⟩ := d1.get e1
          obtain ⟨y2, g3, g4⟩ := d2.get e2
          have q1 := f1 _ c1
          have q2 := f2 _ c2
          rw [g1] at q1; cases q1
          rw [g3] at q2; cases q2
          have hT := rp'.free nT
          refine ⟨S'.fz T (.tup [x1, x2]), Go.newF hT nT, rp'.newF nT, rv_tup.mpr ⟨T, _, rfl, .inl (.inl upd_same), ?_⟩⟩
          exact .cons (g2.mono (Ext.fz hT)) (.one (g4.mono (Ext.fz hT)))
    · cases e
      obtain ⟨v, w, rfl, r1, r2⟩ := rvs2 rv1
      obtain ⟨l1, vs1, rfl, a1, a2⟩ := rv_tup.mp r1
      obtain ⟨l2, vs2, rfl, b1, b2⟩ := rv_tup.mp r2
      rw [← hX.K] at a1 b1
      refine ⟨l1, l2, vs1, vs2, rfl, .inr ⟨sqT_mono rp1.fz a1, sqT_mono rp1.fz b1, h1.end_ (.refl _ _) rp1 ⟨trivial, ?_⟩⟩⟩
      intro S' st' H' ex rp' hgd
      have c1 : SqT X.K H' l1 vs1 := sqT_mono rp'.fz (sqT_mono ex.g a1)
      have c2 : SqT X.K H' l2 vs2 := sqT_mono rp'.fz (sqT_mono ex.g b1)
      have d1 := RVs.mono ex a2
      have d2 := RVs.mono ex b2
      refine ⟨fun i hi => ?_, fun i hi => ⟨vs1, vs2, c1, c2, ?_⟩, fun i x H'' d e y => ?_⟩
      · rw [List.length_map, List.length_zip, d1.length, d2.length] at hi
        exact ⟨vs1, vs2, vs1[i]'(by omega), vs2[i]'(by omega), c1, c2, List.getElem?_eq_getElem (by omega), List.getElem?_eq_getElem (by omega)⟩
      · rw [List.length_map, List.length_zip, d1.length, d2.length] at hi
        omega
      · obtain ⟨T, x1, x2, rfl, nT, rfl, f1, f2⟩ := y
        rw [List.getElem?_map] at e
        rename_i xs0 ys0 _
        cases zz : (List.zip xs0 ys0)[i]? with
        | none => rw [zz] at e; cases e
        | some pr =>
          rw [zz] at e; cases e
          obtain ⟨e1, e2⟩ := zip_get zz
          obtain ⟨y1, g1, g2⟩ := d1.get e1
          obtain ⟨y2, g3, g4⟩ := d2.get e2
          have q1 := f1 _ c1
          have q2 := f2 _ c2
          rw [g1] at q1; cases q1
          rw [g3] at q2; cases q2
          have hT := rp'.free nT
          refine ⟨S'.fz T (.tup [x1, x2]), Go.newF hT nT, rp'.newF nT, rv_tup.mpr ⟨T, _, rfl, .inl (.inl upd_same), ?_⟩⟩
          exact .cons (g2.mono (Ext.fz hT)) (.one (g4.mono (Ext.fz hT)))
    · cases e
end
end Px

/-! Px10: comprehensions. -/
namespace Px
open PySem PySem.Spec PyProof.Rows L2
section
variable {X : Cx} {C : Kc} {E E' : L2.St → XK} {k : Nat}

def EF : L2.St → XK := fun _ _ _ _ => False
theorem post_noEx {α β : Type} {rel : Rel α β} {S : Rp} {H : Hp} {r : R α} {Q : β → Hp → Prop} {E E' : XK} (h : Post C rel S H (noEx r) Q E) : Post C rel S H r Q E' := by
  cases r with
  | ok a st => exact h
  | ex c ns us st => exact h.bad
  | bad => exact h
/-- the same with what comes behind -/
theorem Post.bindN {α β γ δ : Type} {rel : Rel α β} {rel2 : Rel γ δ} {S : Rp} {H : Hp} {r : R α} {g : α → Store → R γ} {Q : δ → Hp → Prop} {E E' : XK} {Q1 : β → Hp → Prop}
    (h : Post C rel2 S H ((noEx r).bind g) Q E) (k : ∀ a st' S' H' b, Go S H S' H' → Rep C S' st' H' → rel S' st' a b → Post C rel2 S' H' (g a st') Q E → Q1 b H') : Post C rel S H r Q1 E' := by
  cases r with
  | ok a st' => exact fun S2 H2 b g2 rp rl => k a st' S2 H2 b g2 rp rl (Post.go (r := g a st') h g2)
  | ex c ns us st' => exact h.bad
  | bad => exact h
theorem xok_blk (hX : XOk X C k E) (s : Shared) (H : Hp) (scope : Scope) (cenv : PySem.Env) (fp : List Addr) : XOk (X.blk s H scope cenv fp) C k EF :=
  ⟨hX.K, hX.calm, hX.nd, hX.room, hX.gd, fun u s' h => by
    obtain ⟨a, B, sI, pins, σ, H, cls, d, _, _, _, _, _, _, _, _, w⟩ := h
    exact w.elim, hX.sm⟩
theorem wipe_off {σ σ' : L2.St} (hl : σ'.length = σ.length) : ∀ {vs : List Nat}, (∀ i, i ∉ vs → σ'[i]? = σ[i]?) → L2.wipe σ' vs = L2.wipe σ vs := by
  intro vs h
  have key : ∀ (σ : L2.St) (vs : List Nat) (i : Nat), (L2.wipe σ vs)[i]? = if i ∈ vs then (σ[i]?).map fun _ => none else σ[i]? := by
    intro σ vs
    induction vs with
    | nil => intro i; simp [L2.wipe]
    | cons v vs ih =>
      intro i
      unfold L2.wipe
      by_cases z : v = i
      · subst z
        rw [if_pos List.mem_cons_self]
        by_cases hv : v < σ.length
        · rw [List.getElem?_set_self (by rw [L2.wipe_length]; exact hv), List.getElem?_eq_getElem hv]; rfl
        · rw [List.getElem?_eq_none (by rw [List.length_set, L2.wipe_length]; omega), List.getElem?_eq_none (by omega)]; rfl
      · rw [List.getElem?_set_ne z, ih i]
        have : (i ∈ v :: vs) ↔ i ∈ vs := by simp [Ne.symm z]
        simp only [this]
  apply List.ext_getElem?
  intro i
  rw [key, key]
  by_cases z : i ∈ vs
  · rw [if_pos z, if_pos z]
    by_cases hi : i < σ.length
    · rw [List.getElem?_eq_getElem hi, List.getElem?_eq_getElem (by omega)]; rfl
    · rw [List.getElem?_eq_none (by omega), List.getElem?_eq_none (by omega)]
  · rw [if_neg z, if_neg z, h i z]
theorem wipe_wipe {σ : L2.St} (vs : List Nat) : L2.wipe (L2.wipe σ vs) vs = L2.wipe σ vs := by
  refine wipe_off (L2.wipe_length σ vs) fun i hi => ?_
  have : ∀ (vs : List Nat), i ∉ vs → (L2.wipe σ vs)[i]? = σ[i]? := by
    intro vs
    induction vs with
    | nil => intro _; rfl
    | cons v vs ih =>
      intro h
      unfold L2.wipe
      rw [List.getElem?_set_ne (fun e => h (by rw [e]; exact List.mem_cons_self))]
      exact ih fun q => h (List.mem_cons_of_mem _ q)
  exact this vs hi

/-- the list that is being made: known to nobody -/
structure Mine (S1 : Rp) (H1 : Hp) (S : Rp) (H : Hp) (L0 : Addr) (vs : List V) : Prop where
  go : Go S1 H1 S H
  at_ : H L0 = some (.lst vs)
  g : S.G L0 = none
  m : L0 ∉ S.m
theorem Mine.step {S1 S S' : Rp} {H1 H H' : Hp} {L0 : Addr} {vs : List V} (a : Mine S1 H1 S H L0 vs) (b : Go S H S' H') : Mine S1 H1 S' H' L0 vs :=
  ⟨a.go.trans b, b.frame _ _ a.at_ a.m, (by
    cases e : S'.G L0 with
    | none => rfl
    | some o =>
      rcases b.newG L0 o e with q | q
      · rw [a.g] at q; cases q
      · rw [a.at_] at q; cases q), fun hm => (by
      rcases b.newM L0 hm with q | q
      · exact a.m q
      · rw [a.at_] at q; cases q)⟩
theorem Mine.put {S1 S : Rp} {H1 H : Hp} {L0 : Addr} {vs ws : List V} (a : Mine S1 H1 S H L0 vs) (h1 : H1 L0 = none) : Mine S1 H1 S (upd H L0 (.lst ws)) L0 ws :=
  ⟨⟨a.go.ext, fun x o e hm => by rw [upd_ne (ne_of_none e h1)]; exact a.go.frame x o e hm, fun x e => by
      by_cases q : x = L0
      · subst q; exact h1
      · rw [upd_ne q] at e; exact a.go.dom x e, a.go.newG, a.go.newM⟩, upd_same, a.g, a.m⟩
theorem Rep.mine {S1 S : Rp} {st : Store} {H1 H : Hp} {L0 : Addr} {vs ws : List V} (r : Rep C S st H) (a : Mine S1 H1 S H L0 vs) : Rep C S st (upd H L0 (.lst ws)) :=
  ⟨fun x o e => by
    have : x ≠ L0 := fun q => by rw [q, a.g] at e; cases e
    rw [upd_ne this]; exact r.fz x o e, r.len, r.nd, fun n mo e => by
    obtain ⟨x, o, h1, h2, h3, h4⟩ := r.at_ n mo e
    have : x ≠ L0 := fun q => a.m (q ▸ List.mem_of_getElem? h1)
    exact ⟨x, o, h1, h2, by rw [upd_ne this]; exact h3, h4⟩⟩
theorem mine_end {S1 S : Rp} {st : Store} {H1 H : Hp} {L0 : Addr} {vs : List V} {acc : List D} {mu : Nat} {Q : VK} {E : XK} (r : Rep C S st H) (a : Mine S1 H1 S H L0 vs) (h1 : H1 L0 = none) (rv : RVs C S acc vs)
    (q : Post C (rV C) S1 H1 (mkL mu acc st) Q E) : Q (.ref L0) H := by
  have hl := mkL_len q
  unfold mkL at q
  rw [if_pos hl] at q
  by_cases z : mu = 0
  · rw [if_pos z] at q
    have ex : Ext S (S.fz L0 (.lst vs)) := Ext.fz a.g
    refine q (S.fz L0 (.lst vs)) H (.ref L0) ⟨a.go.ext.trans ex, a.go.frame, a.go.dom, fun x o e => ?_, a.go.newM⟩ ⟨fun x o e => ?_, r.len, r.nd, fun n mo e => ?_⟩ (rv_lst.mpr ⟨L0, vs, rfl, upd_same, rv.mono ex⟩)
    · by_cases y : x = L0
      · subst y; exact .inr h1
      · have e : upd S.G L0 (.lst vs) x = some o := e
        rw [upd_ne y] at e; exact a.go.newG x o e
    · by_cases y : x = L0
      · subst y
        have e : upd S.G x (.lst vs) x = some o := e
        rw [upd_same] at e; cases e; exact a.at_
      · have e : upd S.G L0 (.lst vs) x = some o := e
        rw [upd_ne y] at e; exact r.fz x o e
    · obtain ⟨x, o, q1, q2, q3, q4⟩ := r.at_ n mo e
      have : x ≠ L0 := fun y => a.m (y ▸ List.mem_of_getElem? q1)
      exact ⟨x, o, q1, by show upd S.G L0 (.lst vs) x = none; rw [upd_ne this]; exact q2, q3, q4.mono' ex.w⟩
  · rw [if_neg z] at q
    have ex : Ext S (S.cl L0) := Ext.cl
    refine q (S.cl L0) H (.ref L0) ⟨a.go.ext.trans ex, a.go.frame, a.go.dom, a.go.newG, fun x hm => ?_⟩ ⟨r.fz, ?_, ?_, fun n mo e => ?_⟩ (rv_cell.mpr ⟨L0, rfl, ?_⟩)
    · have hm : x ∈ S.m ++ [L0] := hm
      rw [List.mem_append] at hm
      rcases hm with y | y
      · exact a.go.newM x y
      · simp at y; subst y; exact .inr h1
    · show (S.m ++ [L0]).length = (st ++ [MO.lst acc]).length
      simp [r.len]
    · show (S.m ++ [L0]).Nodup
      rw [List.nodup_append]
      exact ⟨r.nd, by simp, fun x hx y hy => by simp at hy; subst hy; exact fun q => a.m (q ▸ hx)⟩
    · by_cases hn : n < st.length
      · rw [List.getElem?_append_left hn] at e
        obtain ⟨x, o, q1, q2, q3, q4⟩ := r.at_ n mo e
        exact ⟨x, o, ex.w.m _ _ q1, q2, q3, q4.mono' ex.w⟩
      · have hn' : n = st.length := by
          have := (List.getElem?_eq_some_iff.mp e).1
          simp at this; omega
        subst hn'
        rw [List.getElem?_append_right (Nat.le_refl _)] at e
        simp at e; subst e
        refine ⟨L0, _, ?_, a.g, a.at_, vs, rfl, rv.mono ex⟩
        show (S.m ++ [L0])[st.length]? = some L0
        rw [← r.len]; simp
    · show (S.m ++ [L0])[st.length]? = some L0
      rw [← r.len]; simp
noncomputable def compF (mu : Nat) (vs : List Nat) (tg : Tg) (it : Fx Walk) (t el : Fx D) : Fx D := fun ρ st => (it ρ st).bind fun w st1 => if w.1.length ≤ lim then
      (compLoop tg t el w.2 (wipeE ρ vs) w.1 [] st1).bind fun acc st2 => mkL mu acc st2
    else .bad
theorem comp_read {mu : Nat} {vs : List Nat} {tg : Tg} {it : Fx Walk} {t el : Fx D} (hv : ∀ i ∈ slotsT tg, i ∈ vs) {σ : L2.St} {H : Hp} {Q : VK} (q : tF C (rV C) E (compF mu vs tg it t el) σ H Q) :
    tLc (tF C (rI C) E it) (tTg C tg) (tF C rB EF (tst t)) (tF C (rV C) EF el) vs σ H Q := by
  obtain ⟨S, ρ, st, rp, rn, q⟩ := q
  refine ⟨S, ρ, st, rp, rn, Post.bind (rel2 := rV C) q fun w st1 S1 H1 J g1 rp1 hJ h1 => ?_⟩
  obtain ⟨hg, hJ⟩ := hJ
  obtain ⟨hlim, h1⟩ := post_ite h1
  intro L0 hL
  have rn1 : REnv C S1 (wipeE ρ vs) (L2.wipe σ vs) := (rn.mono g1.ext).wipe vs
  refine ⟨fun i m H' => ∃ S' st' acc av, m = w.1.length - i ∧ i ≤ w.1.length ∧ acc.length ≤ i ∧ guardOk st' w.2 ∧ Rep C S' st' H' ∧ Mine S1 H1 S' H' L0 av ∧ RVs C S' acc av ∧
    Post C (rV C) S1 H1 ((compLoop tg t el w.2 (wipeE ρ vs) (w.1.drop i) acc st').bind fun acc st2 => mkL mu acc st2) Q (E σ), ⟨_, S1, st1, [], [], rfl, Nat.zero_le _, Nat.le_refl _, hg, rp1.drop hL, ?_, .nil, by rw [List.drop_zero]; exact h1⟩, ?_⟩
  · exact ⟨Go.drop hL, upd_same, rp1.free hL, rp1.notin hL⟩
  rintro i m H' ⟨S', st', acc, av, rfl, hi, ha, hgd, rp', mi, ra, h'⟩
  obtain ⟨j1, j2, j3⟩ := hJ S' st' H' mi.go.ext rp' hgd
  by_cases hlt : i < w.1.length
  · refine .inr ⟨j1 i hlt, fun H2 => ∃ S' st' acc av, acc.length ≤ i + 1 ∧ guardOk st' w.2 ∧ Rep C S' st' H2 ∧ Mine S1 H1 S' H2 L0 av ∧ RVs C S' acc av ∧
        Post C (rV C) S1 H1 ((compLoop tg t el w.2 (wipeE ρ vs) (w.1.drop (i + 1)) acc st').bind fun acc st2 => mkL mu acc st2) Q (E σ),
      fun H2 ⟨S2, st2, acc2, av2, b1, b2, b3, b4, b5, b6⟩ => ⟨w.1.length - (i + 1), by omega, S2, st2, acc2, av2, rfl, by omega, b1, b2, b3, b4, b5, b6⟩, fun x H2 y => ?_⟩
    obtain ⟨S2, g2, rp2, rx⟩ := j3 i x H2 _ (List.getElem?_eq_getElem hlt) y
    rw [List.drop_eq_getElem_cons hlt] at h'
    unfold compLoop at h'
    cases es : setT tg w.1[i] (wipeE ρ vs) with
    | none => rw [es] at h'; exact h'.bad
    | some ρ' =>
      rw [es] at h'
      have rn2 := (rn1.mono mi.go.ext).mono g2.ext
      refine ⟨S2, wipeE ρ vs, st', _, ρ', rp2, rn2, rx, es, fun σ3 rn3 k3 => ⟨?_, ?_⟩⟩
      · have hl3 : σ3.length = (L2.wipe σ vs).length := by
          rw [rn2.len, rn3.len]
          have : ∀ (t : Tg) (d : D) (ρ ρ' : Env), setT t d ρ = some ρ' → ρ'.length = ρ.length := by
            intro t
            refine Tg.rec (motive_1 := fun t => ∀ (d : D) (ρ ρ' : Env), setT t d ρ = some ρ' → ρ'.length = ρ.length) (motive_2 := fun ts => ∀ (ds : List D) (ρ ρ' : Env), setTs ts ds ρ = some ρ' → ρ'.length = ρ.length) ?_ ?_ ?_ ?_ t
            · intro i d ρ ρ' e
              rw [setT] at e; cases e
              rw [List.length_set]
            · intro ts ih d ρ ρ' e
              cases d with
              | tup ds => rw [setT] at e; exact ih ds ρ ρ' e
              | _ => rw [setT] at e <;> first | exact nomatch e | (intro ds h; exact nomatch h)
            · intro ds ρ ρ' e
              cases ds with
              | nil => rw [setTs] at e; cases e; rfl
              | cons d ds => rw [setTs] at e; cases e
            · intro t ts iht ihts ds ρ ρ' e
              cases ds with
              | nil => rw [setTs] at e; cases e
              | cons d ds =>
                rw [setTs] at e
                cases z : setT t d ρ with
                | none => rw [z] at e; cases e
                | some ρ1 =>
                  rw [z] at e
                  rw [ihts ds ρ1 ρ' e, iht d ρ ρ1 z]
          exact this _ _ _ _ es
        rw [wipe_off hl3 fun j hj => k3 j fun q => hj (hv j q), wipe_wipe]
      · have mi2 := mi.step g2
        simp only [R.bind_assoc] at h'
        refine ⟨S2, ρ', st', rp2, rn3, ?_⟩
        unfold tst
        cases z : t ρ' st' with
        | bad => rw [z] at h'; exact h'.bad
        | ex c ns us st2 => rw [z] at h'; exact h'.bad
        | ok d st2 =>
          rw [z] at h'
          simp only [noEx, R.bind_ok] at h' ⊢
          cases zt : truth st2 d with
          | none => rw [zt] at h'; exact h'.bad
          | some b =>
            rw [zt] at h'
            intro S4 H4 b' g4 rp4 eb
            cases eb
            have mi4 := mi2.step g4
            cases b with
            | false =>
              rw [if_neg Bool.false_ne_true]
              by_cases gg : guardOk st2 w.2
              · simp only [if_pos gg] at h'
                exact ⟨S4, st2, acc, av, by omega, gg, rp4, mi4, (ra.mono g2.ext).mono g4.ext, h'⟩
              · simp only [if_neg gg] at h'; exact h'.bad
            | true =>
              rw [if_pos rfl]
              refine ⟨S4, ρ', st2, rp4, rn3.mono g4.ext, ?_⟩
              cases y : el ρ' st2 with
              | bad => rw [y] at h'; exact h'.bad
              | ex c ns us st2 => rw [y] at h'; exact h'.bad
              | ok d5 st5 =>
                rw [y] at h'
                simp only [noEx, R.bind_ok] at h'
                intro S5 H5 yv g5 rp5 ry
                have mi5 := mi4.step g5
                by_cases gg : guardOk st5 w.2
                · simp only [if_pos gg] at h'
                  have ra5 := ((ra.mono g2.ext).mono g4.ext).mono g5.ext
                  exact ⟨av, mi5.at_, by rw [← ra5.length]; exact lim_lt (by omega), S5, st5, acc ++ [d5], av ++ [yv], by rw [List.length_append]; show acc.length + 1 ≤ i + 1; omega, gg, rp5.mine mi5, mi5.put hL, ra5.append (.one ry), h'⟩
                · simp only [if_neg gg] at h'; exact h'.bad
  · have he : i = w.1.length := by omega
    refine .inl ⟨j2 i (by omega), ?_⟩
    rw [he, List.drop_length] at h'
    exact mine_end rp' mi hL ra h'
/-- a comprehension with one for; tests -/
theorem se_comp {mu : Nat} {own : List (Str × Nat)} {tg : Tg} {fi : Fx Walk} {ft fe : Fx D} {elt te iter : Expr} {ifs : List Expr} {scope : Scope} {pos : Pos} (hX : XOk X C k E) (hi : SI X C E fi te iter) (ok : BlkOk X.N X.env.scope scope own)
    (hg : ∀ (s : Shared) (H : Hp) (A : Addr) (cl : List (Str × Addr)) (fp : List Addr), PG (X.blk s H scope (compEnvC scope cl A X.env) fp) te (tTg C tg))
    (ht : ∀ (s : Shared) (H : Hp) (A : Addr) (cl : List (Str × Addr)) (fp : List Addr), PTs (X.blk s H scope (compEnvC scope cl A X.env) fp) ifs (tF C rB EF (tst ft)))
    (he : ∀ (s : Shared) (H : Hp) (A : Addr) (cl : List (Str × Addr)) (fp : List Addr), SE (X.blk s H scope (compEnvC scope cl A X.env) fp) C EF fe elt)
    (hv : ∀ i ∈ slotsT tg, i ∈ own.map (·.2)) (hs : ∀ x, foldedSetIterable iter X.env x = pure x) :
    SE X C E (compF mu (own.map (·.2)) tg fi ft fe) (.ListComp elt [⟨te, iter, ifs, 0⟩] scope pos) :=
  PE.weak (pe_lc hX.calm hX.nd hi ok hg ht he hs) fun σ H Q q => comp_read hv q
theorem pts_true {E : L2.St → XK} : PTs X [] (tF C rB E (tst fun _ st => .ok (.bl true) st)) :=
  ⟨fun pins s σ H Q I q => pts_nil.run pins s σ H Q I (by
    obtain ⟨S, ρ, st, rp, rn, q⟩ := q
    exact Post.end_ (C := C) (rel := rB) q (.refl S H) rp rfl)⟩
end
end Px

/-! Px11: statements. -/
namespace Px
open PySem PySem.Spec PyProof.Rows L2

/-- where a statement ends -/
inductive F where
  | nx (ρ : Env) | rt (d : D) | bk (ρ : Env) | ct (ρ : Env)
  | xc (c : Str) (ns : List Str) (us : List D) (ρ : Env)
abbrev FS := Env → Store → R F
/-- an expression's value within a statement -/
def runE {α : Type} (f : Fx α) (g : α → Env → Store → R F) : FS := fun ρ st => match f ρ st with
  | .ok a st1 => g a ρ st1
  | .ex c ns us st1 => .ok (.xc c ns us ρ) st1
  | .bad => .bad
def seqF (f g : FS) : FS := fun ρ st => (f ρ st).bind fun x st1 => match x with
  | .nx ρ1 => g ρ1 st1
  | x => .ok x st1
open Classical in
noncomputable def forLoop (tg : Tg) (body : FS) (g : Option (Nat × List D)) : List D → FS
  | [], ρ, st => .ok (.nx ρ) st
  | x :: xs, ρ, st => match setT tg x ρ with
    | none => .bad
    | some ρ' => (body ρ' st).bind fun fl st1 => match fl with
      | .nx ρ1 => if guardOk st1 g then forLoop tg body g xs ρ1 st1 else .bad
      | .ct ρ1 => if guardOk st1 g then forLoop tg body g xs ρ1 st1 else .bad
      | .bk ρ1 => .ok (.nx ρ1) st1
      | x => .ok x st1
def whileLoop (t : Fx D) (body : FS) : Nat → FS
  | 0, _, _ => .bad
  | n + 1, ρ, st => runE (tst t) (fun b ρ st => if b then (body ρ st).bind fun fl st1 => match fl with
      | .nx ρ1 => whileLoop t body n ρ1 st1
      | .ct ρ1 => whileLoop t body n ρ1 st1
      | .bk ρ1 => .ok (.nx ρ1) st1
      | x => .ok x st1
    else .ok (.nx ρ) st) ρ st
section
variable {X : Cx} {C : Kc} {E E' : L2.St → XK} {k : Nat}

def PostS (C : Kc) (E : L2.St → XK) (D : Ends) (S : Rp) (H : Hp) (r : R F) : Prop := match r with
  | .ok f st' => ∀ S' H', Go S H S' H' → Rep C S' st' H' → (match f with
    | .nx ρ' => ∀ σ', REnv C S' ρ' σ' → D.nx σ' H'
    | .rt d => ∀ v, RV C S' d v → D.rt v H'
    | .bk ρ' => ∀ σ', REnv C S' ρ' σ' → D.bk σ' H'
    | .ct ρ' => ∀ σ', REnv C S' ρ' σ' → D.ct σ' H'
    | .xc c ns us ρ' => ∀ σ' cls dd, REnv C S' ρ' σ' → XR C S' c ns us cls dd → E σ' cls dd H')
  | .ex _ _ _ _ => False
  | .bad => False
theorem PostS.go {D : Ends} {S S' : Rp} {H H' : Hp} {r : R F} (h : PostS C E D S H r) (g : Go S H S' H') : PostS C E D S' H' r := by
  cases r with
  | ok f st' => exact fun S2 H2 g2 => h S2 H2 (g.trans g2)
  | ex c ns us st' => exact h
  | bad => exact h
def tS (C : Kc) (E : L2.St → XK) (f : FS) : TS := fun D σ H => ∃ S ρ st, Rep C S st H ∧ REnv C S ρ σ ∧ PostS C E D S H (f ρ st)
theorem PS.weak {s : Stmt} {t t' : TS} (h : PS X s t) (kk : ∀ D σ H, t' D σ H → t D σ H) : PS X s t' := ⟨fun pins s σ H D I q => h.run pins s σ H D I (kk D σ H q)⟩
theorem PSs.weak {s : List Stmt} {t t' : TS} (h : PSs X s t) (kk : ∀ D σ H, t' D σ H → t D σ H) : PSs X s t' := ⟨fun pins s σ H D I q => h.run pins s σ H D I (kk D σ H q)⟩
abbrev SS (X : Cx) (C : Kc) (E : L2.St → XK) (f : FS) (s : Stmt) : Prop := PS X s (tS C E f)
abbrev SSs (X : Cx) (C : Kc) (E : L2.St → XK) (f : FS) (s : List Stmt) : Prop := PSs X s (tS C E f)

/-- an expression within a statement -/
theorem runE_post {α β : Type} {rel : Rel α β} {f : Fx α} {g : α → Env → Store → R F} {D : Ends} {S : Rp} {H : Hp} {ρ : Env} {st : Store} {σ : L2.St} {Q : β → Hp → Prop} (rn : REnv C S ρ σ) (h : PostS C E D S H (runE f g ρ st))
    (kk : ∀ a st' S' H' b, Go S H S' H' → Rep C S' st' H' → rel S' st' a b → PostS C E D S' H' (g a ρ st') → Q b H') : Post C rel S H (f ρ st) Q (E σ) := by
  unfold runE at h
  cases e : f ρ st with
  | bad => rw [e] at h; exact h
  | ex c ns us st' =>
    rw [e] at h
    exact fun S' H' cls dd g1 rp xr => h S' H' g1 rp σ cls dd (rn.mono g1.ext) xr
  | ok a st' =>
    rw [e] at h
    exact fun S' H' b g1 rp rl => kk a st' S' H' b g1 rp rl (PostS.go h g1)
theorem PostS.bind {D D' : Ends} {S : Rp} {H : Hp} {r : R F} {g : F → Store → R F} (h : PostS C E D S H (r.bind g))
    (kk : ∀ x st' S' H', Go S H S' H' → Rep C S' st' H' → PostS C E D S' H' (g x st') → (match x with
      | .nx ρ' => ∀ σ', REnv C S' ρ' σ' → D'.nx σ' H'
      | .rt d => ∀ v, RV C S' d v → D'.rt v H'
      | .bk ρ' => ∀ σ', REnv C S' ρ' σ' → D'.bk σ' H'
      | .ct ρ' => ∀ σ', REnv C S' ρ' σ' → D'.ct σ' H'
      | .xc c ns us ρ' => ∀ σ' cls dd, REnv C S' ρ' σ' → XR C S' c ns us cls dd → E σ' cls dd H')) : PostS C E D' S H r := by
  cases r with
  | ok x st' => exact fun S' H' g1 rp => kk x st' S' H' g1 rp (PostS.go (r := g x st') h g1)
  | ex c ns us st' => exact h
  | bad => exact h
theorem PostS.bad {D : Ends} {S : Rp} {H : Hp} {P : Prop} (h : PostS C E D S H .bad) : P := h.elim
theorem postS_nx {D : Ends} {S : Rp} {H : Hp} {ρ : Env} {st : Store} {σ : L2.St} (h : PostS C E D S H (.ok (.nx ρ) st)) (rp : Rep C S st H) (rn : REnv C S ρ σ) : D.nx σ H := h S H (.refl _ _) rp σ rn
theorem postS_rt {S : Rp} {H : Hp} {d : D} {st : Store} {v : V} {De : Ends} (h : PostS C E De S H (.ok (.rt d) st)) (rp : Rep C S st H) (rv : RV C S d v) : De.rt v H := h S H (.refl _ _) rp v rv

def nilS : FS := fun ρ st => .ok (.nx ρ) st
theorem ss_nil : SSs X C E nilS [] := PSs.weak pss_nil fun D σ H ⟨S, ρ, st, rp, rn, h⟩ => postS_nx h rp rn
theorem ss_cons {f g : FS} {s : Stmt} {r : List Stmt} (h1 : SS X C E f s) (h2 : SSs X C E g r) : SSs X C E (seqF f g) (s :: r) :=
  PSs.weak (pss_cons h1 h2) fun D σ H ⟨S, ρ, st, rp, rn, h⟩ => ⟨S, ρ, st, rp, rn, PostS.bind h fun x st' S' H' g1 rp' hx => by
    cases x with
    | nx ρ' => exact fun σ' rn' => ⟨S', ρ', st', rp', rn', hx⟩
    | rt d => exact hx S' H' (.refl _ _) rp'
    | bk ρ' => exact hx S' H' (.refl _ _) rp'
    | ct ρ' => exact hx S' H' (.refl _ _) rp'
    | xc c ns us ρ' => exact hx S' H' (.refl _ _) rp'⟩
theorem ss_pass {pos : Pos} : SS X C E nilS (.Pass pos) := PS.weak ps_pass fun D σ H ⟨S, ρ, st, rp, rn, h⟩ => postS_nx h rp rn
theorem ss_doc {x : Str} {j : Nat} {pos pos' : Pos} : SS X C E nilS (.Expr (.Constant (.str x) j pos) pos') := PS.weak ps_doc fun D σ H ⟨S, ρ, st, rp, rn, h⟩ => postS_nx h rp rn
theorem ss_brk {pos : Pos} : SS X C E (fun ρ st => .ok (.bk ρ) st) (.Break pos) := PS.weak ps_break fun D σ H ⟨S, ρ, st, rp, rn, h⟩ => h S H (.refl _ _) rp σ rn
theorem ss_cnt {pos : Pos} : SS X C E (fun ρ st => .ok (.ct ρ) st) (.Continue pos) := PS.weak ps_continue fun D σ H ⟨S, ρ, st, rp, rn, h⟩ => h S H (.refl _ _) rp σ rn
theorem ss_exp {f : Fx D} {e : Expr} {pos : Pos} (he : SE X C E f e) (hs : swapsWith e none pos.line X.env = pure false) : SS X C E (runE f fun _ ρ st => .ok (.nx ρ) st) (.Expr e pos) :=
  PS.weak (ps_expr he hs) fun D σ H ⟨S, ρ, st, rp, rn, h⟩ => ⟨S, ρ, st, rp, rn, runE_post rn h fun d st' S' H' v g1 rp' rv h' => postS_nx h' rp' (rn.mono g1.ext)⟩
theorem ss_ret {f : Fx D} {e : Expr} {pos : Pos} (he : SE X C E f e) : SS X C E (runE f fun d _ st => .ok (.rt d) st) (.Return (some e) pos) :=
  PS.weak (ps_ret he) fun D σ H ⟨S, ρ, st, rp, rn, h⟩ => ⟨S, ρ, st, rp, rn, runE_post rn h fun d st' S' H' v g1 rp' rv h' => postS_rt h' rp' rv⟩
theorem ss_retN {pos : Pos} : SS X C E (fun _ st => .ok (.rt .non) st) (.Return none pos) :=
  PS.weak ps_retN fun D σ H ⟨S, ρ, st, rp, rn, h⟩ => postS_rt h rp (rv_non.mpr rfl)
def ifS (t : Fx D) (a b : FS) : FS := runE (tst t) fun c ρ st => if c then a ρ st else b ρ st
theorem ss_if {t : Fx D} {fa fb : FS} {c : Expr} {a b : List Stmt} {pos : Pos} (hc : ST X C E (tst t) c) (ha : SSs X C E fa a) (hb : SSs X C E fb b) : SS X C E (ifS t fa fb) (.If c a b pos) :=
  PS.weak (ps_if hc ha hb) fun D σ H ⟨S, ρ, st, rp, rn, h⟩ => ⟨S, ρ, st, rp, rn, runE_post rn h fun c st' S' H' b g1 rp' e h' => by
    cases e
    cases c with
    | true => rw [if_pos rfl] at h' ⊢; exact ⟨S', ρ, st', rp', rn.mono g1.ext, h'⟩
    | false => rw [if_neg Bool.false_ne_true] at h' ⊢; exact ⟨S', ρ, st', rp', rn.mono g1.ext, h'⟩⟩
def asgF (t : Tg) (f : Fx D) : FS := runE f fun d ρ st => match setT t d ρ with
  | some ρ' => .ok (.nx ρ') st
  | none => .bad
theorem asg_read {t : Tg} {f : Fx D} {D : Ends} {σ : L2.St} {H : Hp} (h : tS C E (asgF t f) D σ H) : tF C (rV C) E f σ H fun v H' => tTg C t v σ H' D.nx := by
  obtain ⟨S, ρ, st, rp, rn, h⟩ := h
  refine ⟨S, ρ, st, rp, rn, runE_post rn h fun d st' S' H' v g1 rp' rv h' => ?_⟩
  cases e : setT t d ρ with
  | none => rw [e] at h'; exact h'.bad
  | some ρ' =>
    rw [e] at h'
    exact ⟨S', ρ, st', d, ρ', rp', rn.mono g1.ext, rv, e, fun σ' rn' _ => postS_nx h' rp' rn'⟩
theorem ss_asg {f : Fx D} {t : Tg} {tg e : Expr} {pos : Pos} (he : SE X C E f e) (hg : PG X tg (tTg C t)) (hs : swapsWithSole [tg] e pos.line X.env = pure false) (hw : swappedStores [tg] e X.env = pure none) (h1 : (assignEach [tg] X.env).map (·.2) = [assign tg X.env]) :
    SS X C E (asgF t f) (.Assign [tg] e pos) := PS.weak (ps_asg he hg hs hw h1) fun D σ H h => asg_read h
/-- x = [..] -/
theorem ss_asgLc {mu i : Nat} {y : Str} {py : Pos} {own : List (Str × Nat)} {tg : Tg} {fi : Fx Walk} {ft fe : Fx D} {elt te iter : Expr} {ifs : List Expr} {scope : Scope} {pos spos : Pos} (hX : XOk X C k E) (hy : X.N[i]? = some y) (hyl : X.env.scope.names.lookup y = some .local)
    (hsw : swapsWith (.ListComp elt [⟨te, iter, ifs, 0⟩] scope pos) (some (.Name y py)) spos.line X.env = pure true) (hi : SI X C E fi te iter) (ok : BlkOk X.N X.env.scope scope own)
    (hg : ∀ (s : Shared) (H : Hp) (A : Addr) (cl : List (Str × Addr)) (fp : List Addr), PG (X.blk s H scope (compEnvC scope cl A X.env) fp) te (tTg C tg))
    (ht : ∀ (s : Shared) (H : Hp) (A : Addr) (cl : List (Str × Addr)) (fp : List Addr), PTs (X.blk s H scope (compEnvC scope cl A X.env) fp) ifs (tF C rB EF (tst ft)))
    (he : ∀ (s : Shared) (H : Hp) (A : Addr) (cl : List (Str × Addr)) (fp : List Addr), SE (X.blk s H scope (compEnvC scope cl A X.env) fp) C EF fe elt)
    (hv : ∀ i ∈ slotsT tg, i ∈ own.map (·.2)) (hs : ∀ x, foldedSetIterable iter X.env x = pure x) :
    SS X C E (asgF (.name i) (compF mu (own.map (·.2)) tg fi ft fe)) (.Assign [.Name y py] (.ListComp elt [⟨te, iter, ifs, 0⟩] scope pos) spos) :=
  PS.weak (ps_setLc hX.calm hX.nd hy hyl hsw hi ok hg ht he hs) fun D σ H h => comp_read (Q := fun v H' => gName i v σ H' D.nx) hv (by
    have h := asg_read h
    obtain ⟨S, ρ, st, rp, rn, h⟩ := h
    refine ⟨S, ρ, st, rp, rn, ?_⟩
    cases e : compF mu (own.map (·.2)) tg fi ft fe ρ st with
    | bad => rw [e] at h; exact h
    | ex c ns us st' => rw [e] at h; exact h
    | ok d st' =>
      rw [e] at h
      intro S' H' v g1 rp1 rv1
      obtain ⟨S2, ρ2, st2, d2, ρ3, rp2, rn2, rv2, e2, q2⟩ := h S' H' v g1 rp1 rv1
      rw [setT] at e2; cases e2
      exact q2 _ (rn2.set rv2) fun j hj => List.getElem?_set_ne (fun e => hj (by rw [slotsT, e]; exact List.mem_singleton_self _)))
def parF (i j : Nat) (f : Fx (List D)) : FS := runE f fun ds ρ st => match ds with
  | [a, b] => .ok (.nx ((ρ.set i (some a)).set j (some b))) st
  | _ => .bad
theorem ss_par {i j : Nat} {x y : Str} {a b : Expr} {f : Fx (List D)} {px py pt pos pt2 : Pos} {kt k2 : Nat} (hX : XOk X C k E) (hi : X.N[i]? = some x) (hj : X.N[j]? = some y) (hij : i ≠ j)
    (hx : X.env.scope.names.lookup x = some .local) (hy : X.env.scope.names.lookup y = some .local) (ha : SA X C E f [a, b])
    (hw : swappedStores [.Tuple [.Name x px, .Name y py] kt pt] (.Tuple [a, b] k2 pt2) X.env = pure (some [x, y]))
    (hs : swapsWithSole [.Tuple [.Name x px, .Name y py] kt pt] (.Tuple [a, b] k2 pt2) pos.line X.env = pure false) :
    SS X C E (parF i j f) (.Assign [.Tuple [.Name x px, .Name y py] kt pt] (.Tuple [a, b] k2 pt2) pos) :=
  PS.weak (ps_par hX.calm hX.nd hi hj hij hx hy ha hw hs) fun D σ H ⟨S, ρ, st, rp, rn, h⟩ => ⟨S, ρ, st, rp, rn, runE_post rn h fun ds st' S' H' vs g1 rp' rv h' => by
    have rv : RVs C S' ds vs := rv
    rcases ds with _ | ⟨d1, _ | ⟨d2, _ | ⟨d3, t⟩⟩⟩ <;> first | exact PostS.bad h' | skip
    obtain ⟨v, w, rfl, r1, r2⟩ := rvs2 rv
    exact ⟨v, w, rfl, postS_nx h' rp' (((rn.mono g1.ext).set r1).set r2)⟩⟩

/-! ### loops -/
/-- the walk of a context that may loop -/
theorem ss_while {t : Fx D} {fb : FS} {c : Expr} {body : List Stmt} {pos : Pos} (n : Nat) (hp : PassesOwn (model X.prog X.w) X.A X.env X.xe) (hc : ST X C E (tst t) c) (hb : SSs X C E fb body) : SS X C E (whileLoop t fb n) (.While c body [] pos) :=
  PS.weak (ps_while hp hc hb) fun D σ H ⟨S, ρ, st, rp, rn, h⟩ => by
    refine ⟨fun m σ H => ∃ S ρ st, Rep C S st H ∧ REnv C S ρ σ ∧ PostS C E D S H (whileLoop t fb m ρ st), ⟨n, S, ρ, st, rp, rn, h⟩, ?_⟩
    rintro m σ H ⟨S, ρ, st, rp, rn, h⟩
    cases m with
    | zero => exact PostS.bad h
    | succ m =>
      unfold whileLoop at h
      refine ⟨S, ρ, st, rp, rn, runE_post rn h fun c st' S' H' b g1 rp' e h' => ?_⟩
      cases e
      cases c with
      | false => rw [if_neg Bool.false_ne_true] at h' ⊢; exact postS_nx h' rp' (rn.mono g1.ext)
      | true =>
        rw [if_pos rfl] at h' ⊢
        refine ⟨fun σ2 H2 => ∃ S ρ st, Rep C S st H2 ∧ REnv C S ρ σ2 ∧ PostS C E D S H2 (whileLoop t fb m ρ st), fun σ2 H2 q => ⟨m, Nat.lt_succ_self m, q⟩, S', ρ, st', rp', rn.mono g1.ext, PostS.bind h' fun x st2 S2 H2 g2 rp2 hx => ?_⟩
        cases x with
        | nx ρ' => exact fun σ2 rn2 => ⟨S2, ρ', st2, rp2, rn2, hx⟩
        | ct ρ' => exact fun σ2 rn2 => ⟨S2, ρ', st2, rp2, rn2, hx⟩
        | bk ρ' => exact fun σ2 rn2 => postS_nx hx rp2 rn2
        | rt d => exact hx S2 H2 (.refl _ _) rp2
        | xc c ns us ρ' => exact hx S2 H2 (.refl _ _) rp2
noncomputable def forF (tg : Tg) (it : Fx Walk) (body : FS) : FS := runE it fun w ρ st => forLoop tg body w.2 w.1 ρ st
open Classical in
theorem ss_for {tg : Tg} {fi : Fx Walk} {fb : FS} {te iter : Expr} {body : List Stmt} {pos : Pos} (hX : XOk X C k E) (hp : PassesOwn (model X.prog X.w) X.A X.env X.xe) (hi : SI X C E fi te iter) (hg : PG X te (tTg C tg)) (hb : SSs X C E fb body)
    (hs : ∀ x, foldedSetIterable iter X.env x = pure x) : SS X C E (forF tg fi fb) (.For te iter body [] pos) :=
  PS.weak (ps_for hp hX.calm hi hg hb hs) fun D σ H ⟨S, ρ, st, rp, rn, h⟩ => by
    refine ⟨S, ρ, st, rp, rn, runE_post rn h fun w st1 S1 H1 J g1 rp1 hJ h1 => ?_⟩
    obtain ⟨hgd, hJ⟩ := hJ
    refine ⟨fun i m σ H' => ∃ S' ρ' st', m = w.1.length - i ∧ i ≤ w.1.length ∧ guardOk st' w.2 ∧ Ext S1 S' ∧ Rep C S' st' H' ∧ REnv C S' ρ' σ ∧ PostS C E D S' H' (forLoop tg fb w.2 (w.1.drop i) ρ' st'), ⟨_, S1, ρ, st1, rfl, Nat.zero_le _, hgd, .refl _, rp1, rn.mono g1.ext, by rw [List.drop_zero]; exact h1⟩, ?_⟩
    rintro i m σ' H' ⟨S', ρ', st', rfl, hi, hgd, ex, rp', rn', h'⟩
    obtain ⟨j1, j2, j3⟩ := hJ S' st' H' ex rp' hgd
    by_cases hlt : i < w.1.length
    · refine .inr ⟨j1 i hlt, fun σ2 H2 => ∃ S' ρ' st', guardOk st' w.2 ∧ Ext S1 S' ∧ Rep C S' st' H2 ∧ REnv C S' ρ' σ2 ∧ PostS C E D S' H2 (forLoop tg fb w.2 (w.1.drop (i + 1)) ρ' st'),
        fun σ2 H2 ⟨S2, ρ2, st2, b1, b2, b3, b4, b5⟩ => ⟨w.1.length - (i + 1), by omega, S2, ρ2, st2, rfl, by omega, b1, b2, b3, b4, b5⟩, fun x H2 y => ?_⟩
      obtain ⟨S2, g2, rp2, rx⟩ := j3 i x H2 _ (List.getElem?_eq_getElem hlt) y
      rw [List.drop_eq_getElem_cons hlt] at h'
      unfold forLoop at h'
      cases es : setT tg w.1[i] ρ' with
      | none => rw [es] at h'; exact h'.bad
      | some ρ2 =>
        rw [es] at h'
        refine ⟨S2, ρ', st', _, ρ2, rp2, rn'.mono g2.ext, rx, es, fun σ3 rn3 k3 => ⟨S2, ρ2, st', rp2, rn3, PostS.bind (PostS.go h' g2) fun fl st3 S3 H3 g3 rp3 hx => ?_⟩⟩
        have step : ∀ ρ3, PostS C E D S3 H3 (if guardOk st3 w.2 then forLoop tg fb w.2 (w.1.drop (i + 1)) ρ3 st3 else .bad) → ∀ σ4, REnv C S3 ρ3 σ4 → ∃ S' ρ' st', guardOk st' w.2 ∧ Ext S1 S' ∧ Rep C S' st' H3 ∧ REnv C S' ρ' σ4 ∧ PostS C E D S' H3 (forLoop tg fb w.2 (w.1.drop (i + 1)) ρ' st') := fun ρ3 hx σ4 rn4 => by
          by_cases gg : guardOk st3 w.2
          · rw [if_pos gg] at hx
            exact ⟨S3, ρ3, st3, gg, (ex.trans g2.ext).trans g3.ext, rp3, rn4, hx⟩
          · rw [if_neg gg] at hx; exact hx.bad
        cases fl with
        | nx ρ3 => exact step ρ3 hx
        | ct ρ3 => exact step ρ3 hx
        | bk ρ3 => exact fun σ4 rn4 => postS_nx hx rp3 rn4
        | rt d => exact hx S3 H3 (.refl _ _) rp3
        | xc c ns us ρ3 => exact hx S3 H3 (.refl _ _) rp3
    · have he : i = w.1.length := by omega
      refine .inl ⟨j2 i (by omega), ?_⟩
      rw [he, List.drop_length] at h'
      exact postS_nx h' rp' rn'
end
end Px

/-! Px12: calls of the text's own defs. -/
namespace Px
open PySem PySem.Spec PyProof.Rows L2

/-! ### binding, by any relation -/
section
variable {α β : Type} {r : α → β → Prop}
inductive All2 (r : α → β → Prop) : List α → List β → Prop
  | nil : All2 r [] []
  | cons {a : α} {b : β} {as : List α} {bs : List β} : r a b → All2 r as bs → All2 r (a :: as) (b :: bs)
def OptR (r : α → β → Prop) : Option α → Option β → Prop
  | some a, some b => r a b
  | none, none => True
  | _, _ => False
theorem All2.length {as : List α} {bs : List β} (h : All2 r as bs) : as.length = bs.length := by
  induction h with
  | nil => rfl
  | cons _ _ ih => simp [ih]
theorem All2.append {as as' : List α} {bs bs' : List β} (h : All2 r as bs) (h' : All2 r as' bs') : All2 r (as ++ as') (bs ++ bs') := by
  induction h with
  | nil => exact h'
  | cons a _ ih => exact .cons a ih
theorem All2.drop {as : List α} {bs : List β} (h : All2 r as bs) (n : Nat) : All2 r (as.drop n) (bs.drop n) := by
  induction h generalizing n with
  | nil => simp; exact .nil
  | cons a b ih =>
    cases n with
    | zero => exact .cons a b
    | succ n => exact ih n
theorem fillKw_rel {as : List α} {bs : List β} (h : All2 r as bs) (x : Str) : ∀ ks : List Str, OptR r (fillKw ks as x) (fillKw ks bs x) := by
  induction h with
  | nil => intro ks; cases ks <;> exact True.intro
  | cons a b ih =>
    intro ks
    cases ks with
    | nil => exact True.intro
    | cons k ks =>
      unfold fillKw
      by_cases z : k = x
      · rw [if_pos z, if_pos z]; exact a
      · rw [if_neg z, if_neg z]; exact ih ks
theorem fillIn_rel {as : List α} {bs : List β} (h : All2 r as bs) (ks : List Str) : ∀ (ps : List Str) {da : List (Option α)} {db : List (Option β)}, All2 (OptR r) da db → ∀ {xs : List α}, fillIn ks as ps da = some xs → ∃ ys, fillIn ks bs ps db = some ys ∧ All2 r xs ys
  | [], da, db, hd, xs, e => by rw [fillIn] at e; cases e; exact ⟨[], by rw [fillIn], .nil⟩
  | p :: ps, _, _, .nil, xs, e => by
    rw [fillIn] at e
    have q := fillKw_rel h p ks
    cases z1 : fillKw ks as p with
    | none => rw [z1] at e; cases e
    | some u =>
      cases z2 : fillIn ks as ps [] with
      | none => rw [z1, z2] at e; cases e
      | some w =>
        rw [z1, z2] at e; cases e
        rw [z1] at q
        obtain ⟨ys, e3, a3⟩ := fillIn_rel h ks ps .nil z2
        cases z4 : fillKw ks bs p with
        | none => rw [z4] at q; exact q.elim
        | some v =>
          rw [z4] at q
          exact ⟨v :: ys, by rw [fillIn, z4, e3], .cons q a3⟩
  | p :: ps, _, _, .cons (a := d) (b := d') hd0 hd, xs, e => by
    rw [fillIn] at e
    have q := fillKw_rel h p ks
    have q2 : OptR r (pick (fillKw ks as p) d) (pick (fillKw ks bs p) d') := by
      cases z1 : fillKw ks as p with
      | none =>
        rw [z1] at q
        cases z2 : fillKw ks bs p with
        | none => exact hd0
        | some v => rw [z2] at q; exact q.elim
      | some u =>
        rw [z1] at q
        cases z2 : fillKw ks bs p with
        | none => rw [z2] at q; exact q.elim
        | some v => rw [z2] at q; exact q
    cases z1 : pick (fillKw ks as p) d with
    | none => rw [z1] at e; cases e
    | some u =>
      rename_i da db
      cases z2 : fillIn ks as ps da with
      | none => rw [z1, z2] at e; cases e
      | some w =>
        rw [z1, z2] at e; cases e
        rw [z1] at q2
        obtain ⟨ys, e3, a3⟩ := fillIn_rel h ks ps hd z2
        cases z4 : pick (fillKw ks bs p) d' with
        | none => rw [z4] at q2; exact q2.elim
        | some v =>
          rw [z4] at q2
          exact ⟨v :: ys, by rw [fillIn, z4, e3], .cons q2 a3⟩
theorem bindG_rel {ps : List Str} {da : List (Option α)} {db : List (Option β)} {as us : List α} {bs ws : List β} {ks : List Str} (hd : All2 (OptR r) da db) (ha : All2 r as bs) (hu : All2 r us ws) {xs : List α} (e : bindG ps da as ks us = some xs) :
    ∃ ys, bindG ps db bs ks ws = some ys ∧ All2 r xs ys := by
  unfold bindG at e
  cases z : fillIn ks us (ps.drop as.length) (da.drop as.length) with
  | none => rw [z] at e; cases e
  | some l =>
    rw [z] at e; cases e
    obtain ⟨ys, e2, a2⟩ := fillIn_rel hu ks _ (hd.drop as.length) z
    refine ⟨bs ++ ys, ?_, ha.append a2⟩
    unfold bindG
    rw [← ha.length, e2]; rfl
end

/-- a value of the data against the machine's -/
def RU (C : Kc) (S : Rp) (d : D) (u : Value) : Prop := ∃ v, RV C S d v ∧ RelV v u
theorem ru_all {C : Kc} {S : Rp} : ∀ {ds : List D} {vs : List V} {us : List Value}, RVs C S ds vs → Vals vs us → All2 (RU C S) ds us
  | [], vs, us, h, r => by rw [RVs] at h; subst h; cases r; exact .nil
  | d :: ds, vs, us, h, r => by
    rw [RVs] at h
    obtain ⟨v, w, rfl, h1, h2⟩ := h
    cases r with
    | cons r1 r2 => exact .cons ⟨v, h1, r1⟩ (ru_all h2 r2)
theorem ru_back {C : Kc} {S : Rp} {ds : List D} {us : List Value} (h : All2 (RU C S) ds us) : ∃ vs, RVs C S ds vs ∧ Vals vs us := by
  induction h with
  | nil => exact ⟨[], .nil, .nil⟩
  | cons a _ ih =>
    obtain ⟨v, h1, h2⟩ := a
    obtain ⟨vs, h3, h4⟩ := ih
    exact ⟨v :: vs, .cons h1 h3, .cons h2 h4⟩

/-- how the machine binds a call of this shape -/
def ShOk (K : PySem.W.Frag) (fd : FuncData) (ps : List Str) (dv : List (Option Value)) (n : Nat) (ks : List Str) : Prop :=
  ∀ (s : Shared) (us ws : List Value), K.In s.heap → us.length = n → ws.length = ks.length → ∀ zs, bindG ps dv us ks ws = some zs → BindsTo s fd ⟨us, ks.zip ws⟩ (ps.zip zs)
/-- a def of the text does what F says -/
structure FnD (P : Program) (w : World) (C : Kc) (mg : Str → Option Value) (base : Heap) (k : Nat) (f : Addr) (fd : FuncData) (F : Fn) : Prop where
  run : ∀ (A : Around) (outer : List PySem.Env) (s : Shared) (H : Hp) (args : Args) (us : List Value) (vs : List V) (Q : VK) (E : XK) (S : Rp) (st : Store) (ds : List D), Room k A → A.guards = some [] → Env0 P w C.K mg base A outer s H → BindsTo s fd args (F.ps.zip us) → Vals vs us →
    Rep C S st H → RVs C S ds vs → ds.length = F.ps.length → Post C (rV C) S H (F.run ds st) Q E → codeAny (model P w) A (.call (.ref f) args) (CR (L2.CX P w) outer P w H s Q E) s
  dv : ∃ dv : List (Option Value), (∀ S, All2 (OptR (RU C S)) F.df dv) ∧ ∀ sh ∈ F.sh, ShOk C.K fd F.ps dv sh.1 sh.2
  kp : PySem.W.keepIn C.K (.ref f) = true
  len : ∀ as ks us vs, F.bind as ks us = some vs → vs.length = F.ps.length

section
variable {X : Cx} {C : Kc} {E E' : L2.St → XK} {k : Nat} {f : Addr} {fd : FuncData} {Fu : Fn}
theorem FnD.mono {P : Program} {w : World} {mg : Str → Option Value} {base : Heap} {j k : Nat} (h : FnD P w C mg base j f fd Fu) (hk : j ≤ k) : FnD P w C mg base k f fd Fu :=
  ⟨fun A outer s H args us vs Q E S st ds hr => h.run A outer s H args us vs Q E S st ds (hr.mono hk), h.dv, h.kp, h.len⟩
/-- the callee runs -/
theorem run_d (hX : XOk X C k E) (FD : FnD X.prog X.w C X.mg X.base k f fd Fu) {pins : List (Addr × Obj)} {σ : L2.St} {H : Hp} {s : Shared} {Q : VK} {S : Rp} {st : Store} {as us zs : List D} {ks : List Str} {av uv : List V} {aw uw : List Value}
    (I : Inv X pins σ H s) (rp : Rep C S st H) (ra : RVs C S as av) (va : Vals av aw) (ru : RVs C S us uv) (vu : Vals uv uw) (hb : Fu.bind as ks us = some zs) (h : Post C (rV C) S H (Fu.run zs st) Q (E σ)) :
    wpAny (model X.prog X.w) X.A (call (.ref f) aw (ks.zip uw)) (EP X pins σ Q) X.xe s := by
  have hlen := FD.len as ks us zs hb
  unfold Fn.bind at hb
  split at hb
  · rename_i hsh
    rw [Bool.and_eq_true, List.any_eq_true, beq_iff_eq] at hsh
    obtain ⟨⟨sh, hm, hs⟩, hu⟩ := hsh
    rw [Bool.and_eq_true, beq_iff_eq, decide_eq_true_eq] at hs
    obtain ⟨dv, hdv, hok⟩ := FD.dv
    obtain ⟨zw, e2, a2⟩ := bindG_rel (hdv S) (ru_all ra va) (ru_all ru vu) hb
    obtain ⟨zv, r3, v3⟩ := ru_back a2
    have hal : aw.length = sh.1 := by rw [← (ru_all ra va).length, hs.1]
    have hul : uw.length = sh.2.length := by rw [← (ru_all ru vu).length, hu, hs.2]
    have hbt := hok sh hm s aw uw (by rw [← hX.K]; exact I.kIn) hal hul zw (by rw [hs.2]; exact e2)
    rw [hs.2] at hbt
    have e0 := I.env0
    rw [hX.K] at e0
    refine wpAny_call (codeAny_mono (FD.run X.A X.stack s H ⟨aw, ks.zip uw⟩ zw zv Q (E σ) S st zs hX.room hX.gd e0 hbt v3 rp r3 hlen h) fun r s' hq => ?_)
    cases r with
    | error e => exact passAt (W := fun cls d σ H => E σ cls d H) hX.tk σ pins H s e s' I hq
    | ok fl =>
      cases fl with
      | ret u => exact I.after hq
      | next => exact False.elim hq
      | brk => exact False.elim hq
      | cont => exact False.elim hq
  · cases hb
def callF (F : Fn) (fa : Fx (List D)) (ks : List Str) (fk : Fx (List D)) : Fx D := fun ρ st => (fa ρ st).bind fun xs st1 => (fk ρ st1).bind fun us st2 => match F.bind xs ks us with
  | some vs => F.run vs st2
  | none => .bad
/-- keywords' values -/
abbrev SK (X : Cx) (C : Kc) (E : L2.St → XK) (f : Fx (List D)) (kws : List Keyword) : Prop := PK X kws (tF C (rVs C) E f)
theorem sk_nil : SK X C E nilF [] := ⟨fun pos pins s σ H Q I q => pk_nil.run pos pins s σ H Q I (by
  obtain ⟨S, ρ, st, rp, rn, q⟩ := q
  exact Post.end_ (C := C) (rel := rVs C) q (.refl S H) rp .nil)⟩
theorem sk_cons {g : Fx D} {h : Fx (List D)} {nm : Option Str} {e : Expr} {kpos : Pos} {kws : List Keyword} (he : SE X C E g e) (hr : SK X C E h kws) : SK X C E (consF g h) (⟨nm, e, kpos⟩ :: kws) :=
  ⟨fun pos pins s σ H Q I q => (pk_cons he hr).run pos pins s σ H Q I (by
    obtain ⟨S, ρ, st, rp, rn, q⟩ := q
    refine ⟨S, ρ, st, rp, rn, Post.bind (rel2 := rVs C) q fun d st1 S1 H1 v g1 rp1 rv1 h1 => ?_⟩
    refine ⟨S1, ρ, st1, rp1, rn.mono g1.ext, Post.bind (rel2 := rVs C) h1 fun ds st2 S2 H2 vs g2 rp2 rv2 h2 => ?_⟩
    exact Post.end_ (C := C) (rel := rVs C) h2 (.refl S2 H2) rp2 (.cons (RV.mono g2.ext rv1) rv2))⟩
theorem sa_step {g : Fx (List D)} {es : List Expr} (he : SA X C E g es) {γ δ : Type} {h : List D → Store → R γ} {rel2 : Rel γ δ} {Q : δ → Hp → Prop} {pos : Pos} {pins : List (Addr × Obj)} {s : Shared} {σ : L2.St} {H : Hp} {S : Rp} {ρ : Env} {st : Store}
    (I : Inv X pins σ H s) (rp : Rep C S st H) (rn : REnv C S ρ σ) (q : Post C rel2 S H ((g ρ st).bind h) Q (E σ)) {P : List Value → Shared → Prop}
    (kk : ∀ us s1 vs H1 S1 st1 ds, Inv X pins σ H1 s1 → Vals vs us → Go S H S1 H1 → Rep C S1 st1 H1 → RVs C S1 ds vs → Post C rel2 S1 H1 (h ds st1) Q (E σ) → P us s1) : wpAny (model X.prog X.w) X.A (spliced (backTo pos (starEach es X.env))) P X.xe s := by
  refine thn (he.run pos pins s σ H (fun vs H1 => ∃ S1 st1 ds, Go S H S1 H1 ∧ Rep C S1 st1 H1 ∧ RVs C S1 ds vs ∧ Post C rel2 S1 H1 (h ds st1) Q (E σ)) I ⟨S, ρ, st, rp, rn, Post.bind (rel2 := rel2) q fun d st1 S1 H1 v g1 rp1 rv1 h1 => ⟨S1, st1, d, g1, rp1, rv1, h1⟩⟩) ?_
  rintro u s1 ⟨v, H1, I1, r1, S1, st1, d, g1, rp1, rv1, h1⟩
  exact kk u s1 v H1 S1 st1 d I1 r1 g1 rp1 rv1 h1
theorem sk_step {g : Fx (List D)} {kws : List Keyword} (he : SK X C E g kws) {γ δ : Type} {h : List D → Store → R γ} {rel2 : Rel γ δ} {Q : δ → Hp → Prop} {pos : Pos} {pins : List (Addr × Obj)} {s : Shared} {σ : L2.St} {H : Hp} {S : Rp} {ρ : Env} {st : Store}
    (I : Inv X pins σ H s) (rp : Rep C S st H) (rn : REnv C S ρ σ) (q : Post C rel2 S H ((g ρ st).bind h) Q (E σ)) {P : List Value → Shared → Prop}
    (kk : ∀ us s1 vs H1 S1 st1 ds, Inv X pins σ H1 s1 → Vals vs us → Go S H S1 H1 → Rep C S1 st1 H1 → RVs C S1 ds vs → Post C rel2 S1 H1 (h ds st1) Q (E σ) → P us s1) : wpAny (model X.prog X.w) X.A (evalAll ((backToKw pos (keywordEach kws X.env)).map (·.2))) P X.xe s := by
  refine thn (he.run pos pins s σ H (fun vs H1 => ∃ S1 st1 ds, Go S H S1 H1 ∧ Rep C S1 st1 H1 ∧ RVs C S1 ds vs ∧ Post C rel2 S1 H1 (h ds st1) Q (E σ)) I ⟨S, ρ, st, rp, rn, Post.bind (rel2 := rel2) q fun d st1 S1 H1 v g1 rp1 rv1 h1 => ⟨S1, st1, d, g1, rp1, rv1, h1⟩⟩) ?_
  rintro u s1 ⟨v, H1, I1, r1, S1, st1, d, g1, rp1, rv1, h1⟩
  exact kk u s1 v H1 S1 st1 d I1 r1 g1 rp1 rv1 h1
/-- what a call asks of its syntax -/
structure Plain (X : Cx) (es : List Expr) (kws : List Keyword) (ks : List Str) (pos : Pos) : Prop where
  he : ∀ e r, es = e :: r → starEach es X.env = (false, eval e X.env) :: starEach r X.env
  hp : ∀ e r, es = e :: r → (backTo pos (starEach r X.env)).any (·.1) = false
  hall : (backToKw pos (keywordEach kws X.env)).all (·.1.isSome) = true
  hks : (backToKw pos (keywordEach kws X.env)).filterMap (·.1) = ks
  hpl : ((backTo pos (starEach es X.env)).any (·.1) || (backToKw pos (keywordEach kws X.env)).any (·.1.isNone)) = false
theorem se_call {fa fk : Fx (List D)} {x : Str} {es : List Expr} {kws : List Keyword} {ks : List Str} {p pos : Pos} (hX : XOk X C k E) (FD : FnD X.prog X.w C X.mg X.base k f fd Fu) (hg : Gl X x) (hm : X.mg x = some (.ref f)) (ha : SA X C E fa es) (h0 : es = [] → fa = nilF) (hk : SK X C E fk kws) (hp : Plain X es kws ks pos)
    (hdb : (x == ("__debug__" : Str)) = false) : SE X C E (callF Fu fa ks fk) (.Call (.Name x p) es kws pos) := by
  refine ⟨fun pins s σ H Q I h => ?_⟩
  obtain ⟨S, ρ, st, rp, rn, h⟩ := h
  refine wpAny_Call_Name_kw (ld_glob I hg hm ?_ hdb)
  have kp := FD.kp
  rw [← hX.K] at kp
  have fin : ∀ aw av H1 S1 as uw s2 uv H2 S2 st2 us, RVs C S1 as av → Vals av aw → Go S1 H1 S2 H2 → Inv X pins σ H2 s2 → Vals uv uw → Rep C S2 st2 H2 → RVs C S2 us uv → Post C (rV C) S2 H2 (match Fu.bind as ks us with | some vs => Fu.run vs st2 | none => .bad) Q (E σ) →
      wpAny (model X.prog X.w) X.A (call (.ref f) aw (ks.zip uw)) (EP X pins σ Q) X.xe s2 := fun aw av H1 S1 as uw s2 uv H2 S2 st2 us ra va g2 I2 vu rp2 ru h2 => by
    cases z : Fu.bind as ks us with
    | none => rw [z] at h2; exact h2.bad
    | some vs =>
      rw [z] at h2
      exact run_d hX FD I2 rp2 (ra.mono g2.ext) va ru vu z h2
  cases es with
  | nil =>
    refine PySem.W.callWith_KW0 (h₀ := X.base) I.ok.mod.kin kp hp.hall ?_ hp.hpl
    rw [h0 rfl] at h
    refine sk_step hk I rp rn (rel2 := rV C) (Q := Q) h fun uw s2 uv H2 S2 st2 us I2 vu g2 rp2 ru h2 => ⟨I2.kIn, ?_⟩
    rw [hp.hks]
    exact fin [] [] H S [] uw s2 uv H2 S2 st2 us .nil .nil g2 I2 vu rp2 ru h2
  | cons e es =>
    refine PySem.W.callWith_KW (h₀ := X.base) I.ok.mod.kin kp hp.hall ?_ hp.hpl (hp.he e es rfl)
    refine sa_step ha I rp rn (rel2 := rV C) h fun aw s1 av H1 S1 st1 as I1 va g1 rp1 ra h1 => ?_
    refine sk_step hk I1 rp1 (rn.mono g1.ext) h1 fun uw s2 uv H2 S2 st2 us I2 vu g2 rp2 ru h2 => ⟨I2.kIn, ?_⟩
    rw [hp.hks]
    exact fin aw av H1 S1 as uw s2 uv H2 S2 st2 us ra va g2 I2 vu rp2 ru h2
end
end Px

/-! Px13: a def by its body. -/
namespace Px
open PySem PySem.Spec PyProof.Rows L2
section
variable {X : Cx} {C : Kc} {E E' : L2.St → XK} {k : Nat}
mutual
theorem RV.lower {S S' : Rp} {n0 : Nat} (g : ∀ a o, S.G a = some o → S'.G a = some o) (m : ∀ (n : Nat) (a : Addr), n < n0 → S.m[n]? = some a → S'.m[n]? = some a) : ∀ {d : D} {v : V}, below n0 d = true → RV C S d v → RV C S' d v
  | .non, v, _, h => by rw [RV] at h ⊢; exact h
  | .bl _, v, _, h => by rw [RV] at h ⊢; exact h
  | .int _, v, _, h => by rw [RV] at h ⊢; exact h
  | .str _, v, _, h => by rw [RV] at h ⊢; exact h
  | .ty _, v, _, h => by rw [RV] at h ⊢; exact h
  | .cell n, v, c, h => by
    rw [below, decide_eq_true_eq] at c
    rw [RV] at h ⊢
    obtain ⟨a, e1, e2⟩ := h
    exact ⟨a, e1, m _ _ c e2⟩
  | .tup ds, v, c, h => by
    rw [below] at c
    rw [RV] at h ⊢
    obtain ⟨a, vs, e1, e2, e3⟩ := h
    exact ⟨a, vs, e1, sqT_mono g e2, RVs.lower g m c e3⟩
  | .lst ds, v, c, h => by
    rw [below] at c
    rw [RV] at h ⊢
    obtain ⟨a, vs, e1, e2, e3⟩ := h
    exact ⟨a, vs, e1, g _ _ e2, RVs.lower g m c e3⟩
  | .lck ds, v, c, h => by
    rw [below] at c
    rw [RV] at h ⊢
    obtain ⟨a, vs, e1, e2, e3⟩ := h
    exact ⟨a, vs, e1, sqL_mono g e2, RVs.lower g m c e3⟩
  | .dct ks us, v, c, h => by
    rw [below] at c
    rw [RV] at h ⊢
    obtain ⟨a, kvs, e1, e2, e3, e4⟩ := h
    exact ⟨a, kvs, e1, g _ _ e2, e3, RVs.lower g m c e4⟩
  | .obj cc ns us, v, c, h => by
    rw [below] at c
    rw [RV] at h ⊢
    obtain ⟨a, A, dx, fs, e1, e2, e3, e4, e5⟩ := h
    exact ⟨a, A, dx, fs, e1, e2, g _ _ e3, e4, RVs.lower g m c e5⟩
theorem RVs.lower {S S' : Rp} {n0 : Nat} (g : ∀ a o, S.G a = some o → S'.G a = some o) (m : ∀ (n : Nat) (a : Addr), n < n0 → S.m[n]? = some a → S'.m[n]? = some a) : ∀ {ds : List D} {vs : List V}, belows n0 ds = true → RVs C S ds vs → RVs C S' ds vs
  | [], vs, _, h => by rw [RVs] at h ⊢; exact h
  | d :: ds, vs, c, h => by
    rw [belows, Bool.and_eq_true] at c
    rw [RVs] at h ⊢
    obtain ⟨v, r, e1, e2, e3⟩ := h
    exact ⟨v, r, e1, RV.lower g m c.1 e2, RVs.lower g m c.2 e3⟩
end
theorem RO.lower {S S' : Rp} {n0 : Nat} (g : ∀ a o, S.G a = some o → S'.G a = some o) (m : ∀ (n : Nat) (a : Addr), n < n0 → S.m[n]? = some a → S'.m[n]? = some a) : ∀ {mo : MO} {o : HO}, moBelow n0 mo = true → RO C S mo o → RO C S' mo o
  | .lst _, _, c, ⟨vs, e1, e2⟩ => ⟨vs, e1, e2.lower g m c⟩
  | .dct _ _, _, c, ⟨kvs, e1, e2, e3⟩ => ⟨kvs, e1, e2, e3.lower g m c⟩
  | .ins _ _ _, _, c, ⟨A, dx, fs, e1, e2, e3, e4⟩ => ⟨A, dx, fs, e1, e2, e3, e4.lower g m c⟩

/-- what stands when the cells from n0 on are frozen -/
noncomputable def Rp.shut (S' : Rp) (H H' : Hp) (n0 : Nat) : Rp :=
  ⟨fun a => if a ∈ S'.m.take n0 then none else match S'.G a with | some o => some o | none => if (H a).isSome then none else H' a, S'.m.take n0⟩
section
variable {S S' : Rp} {st st' : Store} {H H' : Hp}
theorem shut_g (rp : Rep C S' st' H') (n0 : Nat) : ∀ a o, S'.G a = some o → (S'.shut H H' n0).G a = some o := fun a o e => by
  have hn : a ∉ S'.m.take n0 := fun hm => by
    obtain ⟨n, hn, q⟩ := List.getElem_of_mem (List.mem_of_mem_take hm)
    have hn' : n < st'.length := by rw [← rp.len]; exact hn
    obtain ⟨a', o', h1, h2, _, _⟩ := rp.at_ n st'[n] (List.getElem?_eq_getElem hn')
    rw [List.getElem?_eq_getElem hn] at h1
    cases h1
    rw [q, e] at h2; cases h2
  show (if a ∈ S'.m.take n0 then none else _) = some o
  rw [if_neg hn, e]
theorem shut_m (n0 : Nat) : ∀ (n : Nat) (a : Addr), n < n0 → S'.m[n]? = some a → (S'.shut H H' n0).m[n]? = some a := fun n a hn e => by
  show (S'.m.take n0)[n]? = some a
  rw [List.getElem?_take_of_lt hn]; exact e
theorem shut_new (rp : Rep C S' st' H') (g : Go S H S' H') {n : Nat} {a : Addr} (hn : S.m.length ≤ n) (e : S'.m[n]? = some a) : (S'.shut H H' S.m.length).G a = H' a := by
  obtain ⟨l, hl⟩ := g.ext.m
  have hm : a ∉ S'.m.take S.m.length := fun hm => by
    obtain ⟨j, hj, q⟩ := List.getElem_of_mem hm
    have hj' : j < S.m.length := by rw [List.length_take] at hj; omega
    have e2 : S'.m[j]? = some a := by
      rw [← List.getElem?_take_of_lt hj', List.getElem?_eq_getElem hj, q]
    have := inj_at rp.nd e e2
    omega
  have hS : a ∉ S.m := fun q => by
    apply hm
    rw [hl, List.take_left']
    · exact q
    · rfl
  have hH : H a = none := by
    rcases g.newM a (List.mem_of_getElem? e) with q | q
    · exact absurd q hS
    · exact q
  have hG : S'.G a = none := by
    have hn' : n < st'.length := by rw [← rp.len]; exact (List.getElem?_eq_some_iff.mp e).1
    obtain ⟨a', o', h1, h2, _, _⟩ := rp.at_ n st'[n] (List.getElem?_eq_getElem hn')
    rw [e] at h1; cases h1; exact h2
  show (if a ∈ S'.m.take S.m.length then none else match S'.G a with | some o => some o | none => if (H a).isSome then none else H' a) = H' a
  rw [if_neg hm, hG, hH]; rfl
theorem shut_cell (rp : Rep C S' st' H') (g : Go S H S' H') : ∀ (k n : Nat) (d : D) (a : Addr), cellV S.m.length st' k n = some d → S'.m[n]? = some a → RV C (S'.shut H H' S.m.length) d (.ref a)
  | 0, n, d, a, h, q => by
    rw [cellV] at h
    split at h
    · rename_i hn
      cases h
      exact rv_cell.mpr ⟨a, rfl, shut_m _ n a hn q⟩
    · cases h
  | k + 1, n, d, a, h, q => by
    rw [cellV] at h
    split at h
    · rename_i hn
      cases h
      exact rv_cell.mpr ⟨a, rfl, shut_m _ n a hn q⟩
    · rename_i hn
      have ih := shut_cell rp g k
      cases z : st'[n]? with
      | none => rw [z] at h; cases h
      | some mo =>
        rw [z] at h
        obtain ⟨a', o, h1, h2, h3, h4⟩ := rp.at_ n mo z
        rw [q] at h1; cases h1
        have hg := shut_new rp g (Nat.le_of_not_lt hn) q
        rw [h3] at hg
        cases mo with
        | lst xs =>
          have h : (frzs (cellV S.m.length st' k) xs).map D.lst = some d := h
          obtain ⟨vs, rfl, h5⟩ := h4
          cases y : frzs (cellV S.m.length st' k) xs with
          | none => rw [y] at h; cases h
          | some ys =>
            rw [y] at h; cases h
            exact rv_lst.mpr ⟨a, vs, rfl, hg, frzs_rv ih (shut_g rp _) h5 y⟩
        | dct ks us =>
          have h : (frzs (cellV S.m.length st' k) us).map (D.dct ks) = some d := h
          obtain ⟨kvs, rfl, h5, h6⟩ := h4
          cases y : frzs (cellV S.m.length st' k) us with
          | none => rw [y] at h; cases h
          | some ys =>
            rw [y] at h; cases h
            exact rv_dct.mpr ⟨a, kvs, rfl, hg, h5, frzs_rv ih (shut_g rp _) h6 y⟩
        | ins c ns us =>
          have h : (frzs (cellV S.m.length st' k) us).map (D.obj c ns) = some d := h
          obtain ⟨A, dx, fs, rfl, h5, h6, h7⟩ := h4
          cases y : frzs (cellV S.m.length st' k) us with
          | none => rw [y] at h; cases h
          | some ys =>
            rw [y] at h; cases h
            exact rv_obj.mpr ⟨a, A, dx, fs, rfl, h5, hg, h6, frzs_rv ih (shut_g rp _) h7 y⟩
theorem shut_go (rp : Rep C S' st' H') (g : Go S H S' H') : Go S H (S'.shut H H' S.m.length) H' := by
  obtain ⟨l, hl⟩ := g.ext.m
  have hm : S'.m.take S.m.length = S.m := by rw [hl, List.take_left']; rfl
  refine ⟨⟨fun a o e => shut_g rp _ a o (g.ext.g a o e), [], by show S'.m.take S.m.length = S.m ++ []; rw [hm]; simp⟩, g.frame, g.dom, fun a o e => ?_, fun a ha => ?_⟩
  · have e : (if a ∈ S'.m.take S.m.length then none else match S'.G a with | some o => some o | none => if (H a).isSome then none else H' a) = some o := e
    split at e
    · cases e
    · split at e
      · rename_i q
        cases e
        exact g.newG a _ q
      · split at e
        · cases e
        · rename_i q
          right
          cases z : H a with
          | none => rfl
          | some u => rw [z] at q; exact absurd rfl q
  · have ha : a ∈ S'.m.take S.m.length := ha
    rw [hm] at ha; exact .inl ha
theorem shut_rep (rp : Rep C S' st' H') (g : Go S H S' H') (hb : (st'.take S.m.length).all (moBelow S.m.length) = true) : Rep C (S'.shut H H' S.m.length) (st'.take S.m.length) H' := by
  refine ⟨fun a o e => ?_, ?_, ?_, fun n mo e => ?_⟩
  · have e : (if a ∈ S'.m.take S.m.length then none else match S'.G a with | some o => some o | none => if (H a).isSome then none else H' a) = some o := e
    split at e
    · cases e
    · split at e
      · rename_i q
        cases e
        exact rp.fz a _ q
      · split at e
        · cases e
        · exact e
  · show (S'.m.take S.m.length).length = (st'.take S.m.length).length
    rw [List.length_take, List.length_take, rp.len]
  · exact rp.nd.sublist (List.take_sublist _ _)
  · have hn : n < S.m.length := by
      have := (List.getElem?_eq_some_iff.mp e).1
      rw [List.length_take] at this; omega
    have hmo : moBelow S.m.length mo = true := List.all_eq_true.mp hb mo (List.mem_of_getElem? e)
    rw [List.getElem?_take_of_lt hn] at e
    obtain ⟨a, o, h1, h2, h3, h4⟩ := rp.at_ n mo e
    refine ⟨a, o, shut_m _ n a hn h1, ?_, h3, h4.lower (shut_g rp _) (shut_m _) hmo⟩
    have hm : a ∈ S'.m.take S.m.length := by
      have : (S'.m.take S.m.length)[n]? = some a := by rw [List.getElem?_take_of_lt hn]; exact h1
      exact List.mem_of_getElem? this
    show (if a ∈ S'.m.take S.m.length then none else _) = none
    rw [if_pos hm]
end
/-- a def's end -/
theorem close_post {S S' : Rp} {st' : Store} {H H' : Hp} {d : D} {v : V} {Q : VK} {E : XK} (rp : Rep C S' st' H') (g : Go S H S' H') (rv : RV C S' d v) (h : Post C (rV C) S H (close S.m.length d st') Q E) : Q v H' := by
  unfold close at h
  split at h
  · exact h S' H' v g rp rv
  · split at h
    · rename_i d' e
      obtain ⟨hb, h⟩ := post_ite h
      exact h _ H' v (shut_go rp g) (shut_rep rp g hb) (frz_rv (shut_cell rp g 8) (shut_g rp _) rv e)
    · exact h.bad
def closes (n0 : Nat) (ds : List D) (st : Store) : R (List D) :=
  if st.length = n0 then .ok ds st else
  match frzs (cellV n0 st 8) ds with
  | some d' => if (st.take n0).all (moBelow n0) then .ok d' (st.take n0) else .bad
  | none => .bad
/-- a def run: its body from the bound arguments; kp: it hands on cells -/
def defRun (n : Nat) (kp : Bool) (body : FS) : List D → Store → R D := fun ds st =>
  match body (ds.map some ++ List.replicate (n - ds.length) none) st with
  | .ok (.nx _) st' => if kp then .ok .non st' else close st.length .non st'
  | .ok (.rt d) st' => if kp then .ok d st' else close st.length d st'
  | .ok (.xc c ns us _) st' => match closes st.length us st' with
    | .ok us' st'' => .ex c ns us' st''
    | _ => .bad
  | _ => .bad
theorem start_env {S : Rp} {N : List Str} {ds : List D} {vs : List V} (rv : RVs C S ds vs) : REnv C S (ds.map some ++ List.replicate (N.length - ds.length) none) (L2.start N vs) := by
  have hl := rv.length
  refine ⟨?_, fun i d e => ?_⟩
  · unfold L2.start
    rw [List.length_append, List.length_append, List.length_map, List.length_map, List.length_replicate, List.length_replicate, hl]
  · have hi : i < ds.length := by
      by_cases hi : i < ds.length
      · exact hi
      · rw [List.getElem?_append_right (by rw [List.length_map]; omega), List.getElem?_replicate] at e
        split at e <;> cases e
    rw [List.getElem?_append_left (by rw [List.length_map]; exact hi), List.getElem?_map] at e
    cases z : ds[i]? with
    | none => rw [z] at e; cases e
    | some d' =>
      rw [z] at e; cases e
      obtain ⟨v, h1, h2⟩ := rv.get z
      refine ⟨v, ?_, h2⟩
      unfold L2.start
      rw [List.getElem?_append_left (by rw [List.length_map]; omega), List.getElem?_map, h1]; rfl
/-- THE RULE: a def of the text by its body -/
theorem fnd_of {P : Program} {w : World} {mg : Str → Option Value} {base : Heap} {x qual : Str} {stm : Stmt} {f : Addr} {fd : FuncData} {N : List Str} {Fu : Fn} {body : FS} {kp : Bool} (FN : Fun C.K x qual stm f fd) (S : FnScope N Fu.ps (defScope stm))
    (hr : Fu.run = defRun N.length kp body) (hdv : ∃ dv : List (Option Value), (∀ S, All2 (OptR (RU C S)) Fu.df dv) ∧ ∀ sh ∈ Fu.sh, ShOk C.K fd Fu.ps dv sh.1 sh.2) (hln : ∀ as ks us vs, Fu.bind as ks us = some vs → vs.length = Fu.ps.length) (hsm : ∃ o, base.get? sysModules = some o)
    (hbody : ∀ (cdv : Value) (A : Around) (outer : List PySem.Env) (s : Shared) (H : Hp) (E : XK), Room k (A.deeper (envOfC qual (defScope stm) s.heap.objs.size f cdv)) →
      (XOk (cxOf (L2.CX P w) P w C.K mg base N qual (defScope stm) f cdv A outer s H E) C k fun _ => E) → PassesOwn (model P w) (A.deeper (envOfC qual (defScope stm) s.heap.objs.size f cdv)) (envOfC qual (defScope stm) s.heap.objs.size f cdv) (cxOf (L2.CX P w) P w C.K mg base N qual (defScope stm) f cdv A outer s H E).xe →
      SSs (cxOf (L2.CX P w) P w C.K mg base N qual (defScope stm) f cdv A outer s H E) C (fun _ => E) body (defBody stm)) : FnD P w C mg base (k + 1) f fd Fu := by
  obtain ⟨oc, od, kV, doc, pm, an, cdv, ct, osl, rfl, lk, hcd⟩ := FN.ex
  refine ⟨fun A outer s H args us vs Q E Sr st ds hroom hgd e0 hb r rp rv hlen hpost => ?_, hdv, FN.kp, hln⟩
  have hl : vs.length = Fu.ps.length := by rw [← rv.length]; exact hlen
  have KX : C.K.In s.heap := e0.mod.kin.keeps fun b o e => (e0.bs b o e).1
  have lim : s.heap.NoLimit := e0.mod.nolimit.keeps fun b o e => (e0.bs b o e).1
  have hkind : ∀ y ∈ Fu.ps.zip us, (defScope stm).names.lookup y.1 = some .local ∨ ((defScope stm).names.lookup y.1 = some .cell ∧ ((cellsFrom (s.heap.objs.size + 1) (defScope stm).names []).lookup y.1).isSome = true) := fun ⟨n, v⟩ hy => by
    rcases S.par n (List.of_mem_zip hy).1 with q | q
    · exact .inl q
    · exact .inr ⟨q, PySem.W.cellsFrom_some _ _ _ (.inl q)⟩
  refine codeAny_call_function hroom.depth (KX _ _ lk) rfl S.co S.gen rfl (PySem.W.codeRec_of KX hcd) (hb _ _ _ _ ?_)
  refine wpAny_newFunctionEnv_cells S.kind hkind fun env he s1 x => ?_
  subst he
  refine ⟨lim.keeps x.toInCall.keep, codeAny_func ?_⟩
  have hX : XOk (cxOf (L2.CX P w) P w C.K mg base N qual (defScope stm) f cdv A outer s H E) C k fun _ => E :=
    ⟨rfl, rfl, S.nd, hroom.deeper _, hgd, takes_of rfl rfl rfl rfl, hsm⟩
  have ht := hbody cdv A outer s H E (hroom.deeper _) hX (passes_of rfl)
  have I : Inv (cxOf (L2.CX P w) P w C.K mg base N qual (defScope stm) f cdv A outer s H E) [] (L2.start N vs) H s1 := inv_start S hroom.hd e0 hl r x
  have hn : Sr.m.length = st.length := rp.len
  have hD : tS C (fun _ => E) body { nx := fun _ H' => Q .non H', rt := Q } (L2.start N vs) H := by
    refine ⟨Sr, _, st, rp, start_env (N := N) rv, ?_⟩
    rw [hr] at hpost
    unfold defRun at hpost
    cases z : body (ds.map some ++ List.replicate (N.length - ds.length) none) st with
    | bad => rw [z] at hpost; exact hpost.bad
    | ex c ns us st' => rw [z] at hpost; exact hpost.bad
    | ok fl st' =>
      rw [z] at hpost
      intro S' H' g rp'
      cases fl with
      | nx ρ =>
        intro σ' _
        have hpost : Post C (rV C) Sr H (if kp then .ok .non st' else close st.length .non st') Q E := hpost
        split at hpost
        · exact hpost S' H' _ g rp' (rv_non.mpr rfl)
        · rw [← hn] at hpost
          exact close_post rp' g (rv_non.mpr rfl) hpost
      | rt d =>
        intro v rvd
        have hpost : Post C (rV C) Sr H (if kp then .ok d st' else close st.length d st') Q E := hpost
        split at hpost
        · exact hpost S' H' _ g rp' rvd
        · rw [← hn] at hpost
          exact close_post rp' g rvd hpost
      | bk ρ => exact hpost.bad
      | ct ρ => exact hpost.bad
      | xc c ns us ρ =>
        intro σ' cls dd _ xr
        have hpost : Post C (rV C) Sr H (match closes st.length us st' with | .ok us' st'' => .ex c ns us' st'' | _ => .bad) Q E := hpost
        obtain ⟨A0, hc, hcls, hx⟩ := xr
        unfold closes at hpost
        rw [← hn] at hpost
        split at hpost
        · rename_i us' st'' e
          split at e
          · cases e
            exact hpost S' H' cls dd g rp' ⟨A0, hc, hcls, hx⟩
          · split at e
            · rename_i d' e2
              split at e
              · rename_i hb2
                cases e
                refine hpost _ H' cls dd (shut_go rp' g) (shut_rep rp' g hb2) ⟨A0, hc, hcls, ?_⟩
                rcases hx with ⟨dx, fs, h1, h2, h3, h4⟩ | ⟨h1, h2, h3⟩
                · exact .inl ⟨dx, fs, h1, shut_g rp' _ _ _ h2, h3, frzs_rv (shut_cell rp' g 8) (shut_g rp' _) h4 e2⟩
                · subst h3
                  rw [frzs] at e2; cases e2
                  exact .inr ⟨h1, h2, rfl⟩
              · cases e
            · cases e
        · exact hpost.bad
  refine wpAny_mono (ht.run [] s1 (L2.start N vs) H _ I hD) (fun fl s' hs => ?_) fun e s' hs => hs
  have fin : ∀ {σ' : L2.St} {H' : Hp} {v : V} {u : Value}, Inv (cxOf (L2.CX P w) P w C.K mg base N qual (defScope stm) f cdv A outer s H E) [] σ' H' s' → RelV v u → Q v H' → CE outer P w H s Q u s' :=
    fun {σ' H' v u} J rv q => ⟨v, H', J.os, J.bare, J.base, J.hok, rv, q⟩
  cases fl with
  | ret u =>
    obtain ⟨v, σ', H', J, rv, q⟩ := hs
    exact fin J rv q
  | next =>
    obtain ⟨σ', H', J, q⟩ := hs
    exact fin (v := V.non) (u := Value.none) J rfl q
  | brk =>
    obtain ⟨_, _, _, q⟩ := hs
    exact False.elim q
  | cont =>
    obtain ⟨_, _, _, q⟩ := hs
    exact False.elim q
end
end Px

/-! Px14: methods of lists, isinstance of built-in types, dict displays, stores to places. -/
namespace Px
open PySem PySem.Spec PyProof.Rows L2
section
variable {X : Cx} {C : Kc} {E E' : L2.St → XK} {k : Nat}

theorem cell_lst {S : Rp} {st : Store} {H : Hp} {n : Nat} {v : V} {xs : List D} (rp : Rep C S st H) (h : RV C S (.cell n) v) (e : st[n]? = some (.lst xs)) : ∃ a vs, v = .ref a ∧ S.m[n]? = some a ∧ H a = some (.lst vs) ∧ RVs C S xs vs := by
  obtain ⟨a, rfl, ha⟩ := rv_cell.mp h
  obtain ⟨a', o, h1, h2, h3, h4⟩ := rp.at_ n _ e
  rw [ha] at h1; cases h1
  obtain ⟨vs, rfl, h5⟩ := h4
  exact ⟨a, vs, rfl, ha, h3, h5⟩
theorem seqIdx_len {S : Rp} {xs : List D} {vs : List V} (h : RVs C S xs vs) : xs.length = vs.length := h.length
theorem RVs.erase {S : Rp} : ∀ {ds : List D} {vs : List V} (i : Nat), RVs C S ds vs → RVs C S (ds.eraseIdx i) (vs.eraseIdx i)
  | [], vs, i, h => by rw [RVs] at h; subst h; exact .nil
  | d :: ds, vs, 0, h => by
    rw [RVs] at h
    obtain ⟨v, r, rfl, _, e3⟩ := h
    exact e3
  | d :: ds, vs, i + 1, h => by
    rw [RVs] at h
    obtain ⟨v, r, rfl, e2, e3⟩ := h
    exact .cons e2 (RVs.erase i e3)
theorem RVs.dropLast {S : Rp} {ds : List D} {vs : List V} (h : RVs C S ds vs) : RVs C S ds.dropLast vs.dropLast := by
  rw [List.dropLast_eq_take, List.dropLast_eq_take, h.length]
  exact h.take _
/-- the store of a cell changed -/
theorem set_post {S : Rp} {st : Store} {H : Hp} {n : Nat} {a : Addr} {o u : HO} {mo : MO} {d : D} {v : V} {Q : VK} {E : XK} (rp : Rep C S st H) (ha : S.m[n]? = some a) (hu : H a = some u) (ro : RO C S mo o) (rv : RV C S d v) (h : Post C (rV C) S H (.ok d (st.set n mo)) Q E) : Q v (upd H a o) :=
  h S _ v (Go.setC ha hu) (rp.setC ha ro) rv
def bmF (m : Bm) (fo : Fx D) (fa : Fx (List D)) : Fx D := fun ρ st => (fo ρ st).bind fun x st1 => match lstOf st1 x with
  | some _ => (fa ρ st1).bind fun xs st2 => bmeth m x xs st2
  | none => .bad
theorem tyV_lst {S : Rp} {st : Store} {H : Hp} {d : D} {xs : List D} {v : V} (hX : XOk X C k E) (rp : Rep C S st H) (rv : RV C S d v) (e : lstOf st d = some xs) : tyV X.K "list" v H := by
  obtain ⟨a, vs, rfl, h1, _⟩ := lstOf_some rp rv e
  rw [← hX.K] at h1
  exact .inl ⟨rfl, vs, h1⟩
theorem bmeth_lst {m : Bm} {d : D} {as : List D} {st : Store} {S : Rp} {H : Hp} {Q : VK} {E : XK} (h : Post C (rV C) S H (bmeth m d as st) Q E) : ∃ n xs, d = .cell n ∧ st[n]? = some (.lst xs) := by
  cases d <;> first | exact Post.bad (C := C) h | skip
  case cell n =>
    unfold bmeth at h
    cases z : st[n]? with
    | none => simp only [z] at h; exact h.bad
    | some mo =>
      simp only [z] at h
      cases mo with
      | lst xs => exact ⟨n, xs, rfl, z⟩
      | dct ks us => exact h.bad
      | ins c ns us => exact h.bad
theorem se_bm0 {fo : Fx D} {o : Expr} {name : Str} {apos cpos : Pos} (hX : XOk X C k E) (ho : SE X C E fo o) (hn : name = "pop") (hbase : attributeBase o name X.env (eval o X.env) = eval o X.env) (hline : (apos.endLine == cpos.line) = true) :
    SE X C E (bmF .pop fo nilF) (.Call (.Attribute o name apos) [] [] cpos) := by
  subst hn
  refine PE.weak (pe_bm0 PySem.F.plainAttrs_list PySem.F.slot_list_pop PySem.F.type_list_pop mt_pop ho hbase hline) fun σ H Q q => ?_
  obtain ⟨S, ρ, st, rp, rn, q⟩ := q
  refine ⟨S, ρ, st, rp, rn, Post.bind (rel2 := rV C) q fun d st1 S1 H1 v g1 rp1 rv1 h1 => ?_⟩
  cases w : lstOf st1 d with
  | none => rw [w] at h1; exact h1.bad
  | some ys =>
    rw [w] at h1
    have h1 : Post C (rV C) S1 H1 (bmeth .pop d [] st1) Q (E σ) := h1
    obtain ⟨n, xs, rfl, z⟩ := bmeth_lst h1
    unfold bmeth at h1
    simp only [z] at h1
    obtain ⟨a, vs, rfl, h2, h3, h4⟩ := cell_lst rp1 rv1 z
    cases y : xs[xs.length - 1]? with
    | none => simp only [y] at h1; exact h1.bad
    | some d =>
      simp only [y] at h1
      obtain ⟨w, e1, e2⟩ := h4.get y
      rw [h4.length] at e1
      exact ⟨.inl ⟨rfl, vs, .inl (.inl h3)⟩, a, vs, w, rfl, rfl, h3, e1, set_post rp1 h2 h3 (mo := .lst xs.dropLast) ⟨_, rfl, h4.dropLast⟩ e2 h1⟩
theorem se_bm1 {m : Bm} {fo : Fx D} {fa : Fx (List D)} {o e : Expr} {es : List Expr} {name : Str} {apos cpos : Pos} (hX : XOk X C k E) (ho : SE X C E fo o) (ha : SA X C E fa (e :: es)) (hn : (name = "append" ∧ m = .append) ∨ (name = "pop" ∧ m = .popAt)) (hbase : attributeBase o name X.env (eval o X.env) = eval o X.env)
    (hfew : ((backTo cpos (starEach (e :: es) X.env)).all (fun x => !x.1) && (backToKw cpos (keywordEach [] X.env)).all (fun x => x.1.isSome) && decide ((e :: es).length + ([] : List Keyword).length + (if ([] : List Keyword).isEmpty then 0 else 1) < 30)) = true)
    (hline : (apos.endLine == cpos.line) = true) (hs : starEach (e :: es) X.env = (false, eval e X.env) :: starEach es X.env) (hplain : (backTo cpos (starEach es X.env)).any (·.1) = false) :
    SE X C E (bmF m fo fa) (.Call (.Attribute o name apos) (e :: es) [] cpos) := by
  have fin : ∀ {r : V → List V → Hp → VK → Prop}, PE X (.Call (.Attribute o name apos) (e :: es) [] cpos) (tBM X.K "list" r (tF C (rV C) E fo) (tF C (rVs C) E fa)) →
      (∀ S st H n v xs as avs Q σ, Rep C S st H → RV C S (.cell n) v → st[n]? = some (.lst xs) → RVs C S as avs → Post C (rV C) S H (bmeth m (.cell n) as st) Q (E σ) → r v avs H Q) →
      SE X C E (bmF m fo fa) (.Call (.Attribute o name apos) (e :: es) [] cpos) := fun {r} h kk =>
    PE.weak h fun σ H Q q => by
      obtain ⟨S, ρ, st, rp, rn, q⟩ := q
      refine ⟨S, ρ, st, rp, rn, Post.bind (rel2 := rV C) q fun d st1 S1 H1 v g1 rp1 rv1 h1 => ?_⟩
      cases w : lstOf st1 d with
      | none => rw [w] at h1; exact h1.bad
      | some ys =>
        rw [w] at h1
        refine ⟨tyV_lst hX rp1 rv1 w, S1, ρ, st1, rp1, rn.mono g1.ext, Post.bind (rel2 := rV C) h1 fun as st2 S2 H2 avs g2 rp2 ra h2 => ?_⟩
        obtain ⟨n, xs, rfl, z⟩ := bmeth_lst h2
        exact kk S2 st2 H2 n v xs as avs Q σ rp2 (RV.mono g2.ext rv1) z ra h2
  rcases hn with ⟨rfl, rfl⟩ | ⟨rfl, rfl⟩
  · refine fin (pe_bm PySem.F.plainAttrs_list PySem.F.slot_list_append PySem.F.type_list_append mt_append ho ha hbase hfew hline hs hplain) fun S st H n v xs as avs Q σ rp rv z ra h => ?_
    obtain ⟨a, vs, rfl, h2, h3, h4⟩ := cell_lst rp rv z
    unfold bmeth at h
    simp only [z] at h
    rcases as with _ | ⟨a0, _ | ⟨a1, t⟩⟩ <;> first | exact Post.bad (C := C) h | skip
    obtain ⟨w, rfl, rw'⟩ := rvs1 ra
    obtain ⟨hl, h⟩ := post_ite h
    exact ⟨a, vs, w, rfl, rfl, h3, by rw [← h4.length]; exact lim_lt (Nat.le_of_lt hl), set_post rp h2 h3 (mo := .lst (xs ++ [a0])) ⟨_, rfl, h4.append (.one rw')⟩ (rv_non.mpr rfl) h⟩
  · refine fin (pe_bm PySem.F.plainAttrs_list PySem.F.slot_list_pop PySem.F.type_list_pop mt_popAt ho ha hbase hfew hline hs hplain) fun S st H n v xs as avs Q σ rp rv z ra h => ?_
    obtain ⟨a, vs, rfl, h2, h3, h4⟩ := cell_lst rp rv z
    unfold bmeth at h
    simp only [z] at h
    rcases as with _ | ⟨a0, _ | ⟨a1, t⟩⟩
    · exact h.bad
    · cases a0 <;> first | exact Post.bad (C := C) h | skip
      case int i =>
        obtain ⟨w, rfl, rw'⟩ := rvs1 ra
        rw [rv_int] at rw'; subst rw'
        simp only at h
        cases y1 : seqIndex? i xs.length with
        | none => simp only [y1] at h; exact h.bad
        | some kk =>
          simp only [y1] at h
          cases y2 : xs[kk]? with
          | none => simp only [y2] at h; exact h.bad
          | some d =>
            simp only [y2] at h
            obtain ⟨hl, h⟩ := post_ite h
            rw [Bool.and_eq_true, decide_eq_true_eq, decide_eq_true_eq] at hl
            obtain ⟨w, e1, e2⟩ := h4.get y2
            exact ⟨a, vs, i, kk, w, rfl, rfl, h3, hl.1, hl.2, by rw [← h4.length]; exact y1, e1, set_post rp h2 h3 (mo := .lst (xs.eraseIdx kk)) ⟨_, rfl, h4.erase kk⟩ e2 h⟩
    · cases a0 <;> exact h.bad

/-! ### isinstance -/
theorem kit_all {K : PySem.W.Frag} : ∀ a ∈ ["NoneType", "int", "bool", "str", "tuple", "list", "dict"], ∀ b ∈ tyNames, PySem.W.kitOne K (.type a) (.type b) = some (a == b || (a == "bool" && b == "int")) := by
  have h : ∀ a ∈ ["NoneType", "int", "bool", "str", "tuple", "list", "dict"], ∀ b ∈ tyNames, kitB a b = some (a == b || (a == "bool" && b == "int")) := by decide +kernel
  exact fun a ha b hb => kit_ty (h a ha b hb)
theorem ty_rv {S : Rp} {st : Store} {H : Hp} {d : D} {v : V} {n : String} (hX : XOk X C k E) (rp : Rep C S st H) (rv : RV C S d v) (e : tyOf st d = some (.b n)) : n ∈ ["NoneType", "int", "bool", "str", "tuple", "list", "dict"] ∧ TyX X.K H v (.type n) := by
  unfold tyOf at e
  cases z : look st d with
  | none => rw [z] at e; cases e
  | some d' =>
    rw [z] at e
    have same : ∀ d', look st d = some d' → (∀ xs, d' ≠ .lst xs) → (∀ k v, d' ≠ .dct k v) → (∀ c n v, d' ≠ .obj c n v) → d = d' := fun d' e h1 h2 h3 => by
      cases d with
      | cell n =>
        rw [look_cell] at e
        cases y : st[n]? with
        | none => rw [y] at e; cases e
        | some mo =>
          rw [y] at e
          cases mo with
          | lst xs => cases e; exact absurd rfl (h1 xs)
          | dct ks us => cases e; exact absurd rfl (h2 ks us)
          | ins c ns us => cases e; exact absurd rfl (h3 c ns us)
      | lck xs => cases e; exact absurd rfl (h1 xs)
      | _ => cases e; rfl
    cases d' with
    | non =>
      cases e
      have := same _ z (fun _ h => nomatch h) (fun _ _ h => nomatch h) (fun _ _ _ h => nomatch h)
      subst this
      rw [rv_non] at rv; subst rv
      exact ⟨by simp, .base .non⟩
    | bl b =>
      cases e
      have := same _ z (fun _ h => nomatch h) (fun _ _ h => nomatch h) (fun _ _ _ h => nomatch h)
      subst this
      rw [rv_bl] at rv; subst rv
      exact ⟨by simp, .base (.bl b)⟩
    | int i =>
      cases e
      have := same _ z (fun _ h => nomatch h) (fun _ _ h => nomatch h) (fun _ _ _ h => nomatch h)
      subst this
      rw [rv_int] at rv; subst rv
      exact ⟨by simp, .base (.int i)⟩
    | str x =>
      cases e
      have := same _ z (fun _ h => nomatch h) (fun _ _ h => nomatch h) (fun _ _ _ h => nomatch h)
      subst this
      rw [rv_str] at rv; subst rv
      exact ⟨by simp, .base (.str x)⟩
    | tup xs =>
      cases e
      obtain ⟨a, vs, rfl, h1, h2⟩ := look_tup rp rv z
      refine ⟨by simp, ?_⟩
      rw [hX.K]
      rcases h1 with (h1 | ⟨o, h1⟩) | ⟨o, its, n, h1, h2, _⟩
      · exact .base (.tup (rp.fz _ _ h1))
      · exact .fTuple (rp.fz _ _ h1)
      · exact .kTuple h1 h2
    | lst xs =>
      cases e
      obtain ⟨a, vs, rfl, h1, h2⟩ := look_lst rp rv z
      refine ⟨by simp, ?_⟩
      rw [hX.K]
      rcases h1 with (h1 | ⟨o, h1⟩) | ⟨o, its, n, h1, h2, _⟩
      · exact .base (.lst h1)
      · exact .base (.frz h1)
      · exact .kList h1 h2
    | dct ks us =>
      cases e
      obtain ⟨a, kvs, rfl, h1, h2, h3⟩ := look_dct rp rv z
      exact ⟨by simp, .base (.dK h1)⟩
    | obj c ns us => cases e
    | cell n => cases e
    | ty n => cases e
    | lck xs => cases e
def isinF (t : String) (f : Fx D) : Fx D := fun ρ st => (f ρ st).bind fun x st1 => match tyOf st1 x with
  | some (.b n) => if tyNames.contains t then .ok (.bl (n == t || (n == "bool" && t == "int"))) st1 else .bad
  | _ => .bad
theorem se_isin {t : String} {tn : Str} {f : Fx D} {e : Expr} {p p2 pos : Pos} (hX : XOk X C k E) (he : SE X C E f e) (hg : Gl X "isinstance") (hm : X.mg "isinstance" = none) (hg2 : Gl X tn) (hm2 : X.mg tn = none) (hb : bootBuiltins tn = some (.type t)) (hn : tn ≠ "__name__") (hd : (tn == ("__debug__" : Str)) = false)
    (hs : starEach [e, .Name tn p2] X.env = (false, eval e X.env) :: starEach [.Name tn p2] X.env) (hs2 : starEach [.Name tn p2] X.env = (false, eval (.Name tn p2) X.env) :: starEach [] X.env) (hpl : (backTo pos (starEach [.Name tn p2] X.env)).any (·.1) = false) :
    SE X C E (isinF t f) (.Call (.Name "isinstance" p) [e, .Name tn p2] [] pos) :=
  PE.weak (pe_callB call_isi hg hm (by decide +kernel) (pa_cons he (pa_cons (pe_bltn (v := .ty t) hg2 hm2 hb rfl hn hd) pa_nil hs2) hs) (by decide) (by decide) hs hpl) fun σ H Q q => by
    obtain ⟨S, ρ, st, rp, rn, q⟩ := q
    refine ⟨S, ρ, st, rp, rn, Post.bind (rel2 := rV C) q fun d st1 S1 H1 v g1 rp1 rv1 h1 => ?_⟩
    cases z : tyOf st1 d with
    | none => rw [z] at h1; exact h1.bad
    | some y =>
      rw [z] at h1
      cases y with
      | c x => exact h1.bad
      | b n =>
        obtain ⟨hc, h1⟩ := post_ite h1
        obtain ⟨hm, ty⟩ := ty_rv hX rp1 rv1 z
        exact ⟨v, .ty t, .type n, .type t, _, rfl, .ty t, ty, kit_all n hm t (by simpa using hc), post_same h1 rp1 (rv_bl.mpr rfl)⟩
end
end Px

/-! Px15: dict displays; stores to places. -/
namespace Px
open PySem PySem.Spec PyProof.Rows L2
section
variable {X : Cx} {C : Kc} {E E' : L2.St → XK} {k : Nat}

/-- an object that is being made: known to nobody -/
structure MineO (S1 : Rp) (H1 : Hp) (S : Rp) (H : Hp) (L0 : Addr) (o : HO) : Prop where
  go : Go S1 H1 S H
  at_ : H L0 = some o
  g : S.G L0 = none
  m : L0 ∉ S.m
theorem MineO.step {S1 S S' : Rp} {H1 H H' : Hp} {L0 : Addr} {o : HO} (a : MineO S1 H1 S H L0 o) (b : Go S H S' H') : MineO S1 H1 S' H' L0 o :=
  ⟨a.go.trans b, b.frame _ _ a.at_ a.m, (by
    cases e : S'.G L0 with
    | none => rfl
    | some o =>
      rcases b.newG L0 o e with q | q
      · rw [a.g] at q; cases q
      · rw [a.at_] at q; cases q), fun hm => (by
      rcases b.newM L0 hm with q | q
      · exact a.m q
      · rw [a.at_] at q; cases q)⟩
theorem MineO.put {S1 S : Rp} {H1 H : Hp} {L0 : Addr} {o o' : HO} (a : MineO S1 H1 S H L0 o) (h1 : H1 L0 = none) : MineO S1 H1 S (upd H L0 o') L0 o' :=
  ⟨⟨a.go.ext, fun x u e hm => by rw [upd_ne (ne_of_none e h1)]; exact a.go.frame x u e hm, fun x e => by
      by_cases q : x = L0
      · subst q; exact h1
      · rw [upd_ne q] at e; exact a.go.dom x e, a.go.newG, a.go.newM⟩, upd_same, a.g, a.m⟩
theorem Rep.mineO {S1 S : Rp} {st : Store} {H1 H : Hp} {L0 : Addr} {o o' : HO} (r : Rep C S st H) (a : MineO S1 H1 S H L0 o) : Rep C S st (upd H L0 o') :=
  ⟨fun x u e => by
    have : x ≠ L0 := fun q => by rw [q, a.g] at e; cases e
    rw [upd_ne this]; exact r.fz x u e, r.len, r.nd, fun n mo e => by
    obtain ⟨x, u, h1, h2, h3, h4⟩ := r.at_ n mo e
    have : x ≠ L0 := fun q => a.m (q ▸ List.mem_of_getElem? h1)
    exact ⟨x, u, h1, h2, by rw [upd_ne this]; exact h3, h4⟩⟩
/-- taken up: frozen -/
theorem mineO_fz {S1 S : Rp} {st : Store} {H1 H : Hp} {L0 : Addr} {o : HO} (r : Rep C S st H) (a : MineO S1 H1 S H L0 o) (h1 : H1 L0 = none) : Go S1 H1 (S.fz L0 o) H ∧ Rep C (S.fz L0 o) st H ∧ Ext S (S.fz L0 o) := by
  have ex : Ext S (S.fz L0 o) := Ext.fz a.g
  refine ⟨⟨a.go.ext.trans ex, a.go.frame, a.go.dom, fun x u e => ?_, a.go.newM⟩, ⟨fun x u e => ?_, r.len, r.nd, fun n mo e => ?_⟩, ex⟩
  · by_cases y : x = L0
    · subst y; exact .inr h1
    · have e : upd S.G L0 o x = some u := e
      rw [upd_ne y] at e; exact a.go.newG x u e
  · by_cases y : x = L0
    · subst y
      have e : upd S.G x o x = some u := e
      rw [upd_same] at e; cases e; exact a.at_
    · have e : upd S.G L0 o x = some u := e
      rw [upd_ne y] at e; exact r.fz x u e
  · obtain ⟨x, u, q1, q2, q3, q4⟩ := r.at_ n mo e
    have : x ≠ L0 := fun y => a.m (y ▸ List.mem_of_getElem? q1)
    exact ⟨x, u, q1, by show upd S.G L0 o x = none; rw [upd_ne this]; exact q2, q3, q4.mono' ex.w⟩
/-- taken up: a cell -/
theorem mineO_cl {S1 S : Rp} {st : Store} {H1 H : Hp} {L0 : Addr} {o : HO} {mo : MO} (r : Rep C S st H) (a : MineO S1 H1 S H L0 o) (h1 : H1 L0 = none) (ro : RO C S mo o) : Go S1 H1 (S.cl L0) H ∧ Rep C (S.cl L0) (st ++ [mo]) H ∧ RV C (S.cl L0) (.cell st.length) (.ref L0) := by
  have ex : Ext S (S.cl L0) := Ext.cl
  have hlast : (S.m ++ [L0])[st.length]? = some L0 := by rw [← r.len]; simp
  refine ⟨⟨a.go.ext.trans ex, a.go.frame, a.go.dom, a.go.newG, fun x hm => ?_⟩, ⟨r.fz, ?_, ?_, fun n mo' e => ?_⟩, rv_cell.mpr ⟨L0, rfl, hlast⟩⟩
  · have hm : x ∈ S.m ++ [L0] := hm
    rw [List.mem_append] at hm
    rcases hm with y | y
    · exact a.go.newM x y
    · simp at y; subst y; exact .inr h1
  · show (S.m ++ [L0]).length = (st ++ [mo]).length
    simp [r.len]
  · show (S.m ++ [L0]).Nodup
    rw [List.nodup_append]
    exact ⟨r.nd, by simp, fun x hx y hy => by simp at hy; subst hy; exact fun q => a.m (q ▸ hx)⟩
  · by_cases hn : n < st.length
    · rw [List.getElem?_append_left hn] at e
      obtain ⟨x, u, q1, q2, q3, q4⟩ := r.at_ n mo' e
      exact ⟨x, u, ex.w.m _ _ q1, q2, q3, q4.mono' ex.w⟩
    · have hn' : n = st.length := by
        have := (List.getElem?_eq_some_iff.mp e).1
        simp at this; omega
      subst hn'
      rw [List.getElem?_append_right (Nat.le_refl _)] at e
      simp at e; subst e
      exact ⟨L0, _, hlast, a.g, a.at_, ro.mono' ex.w⟩

/-! ### dict displays, the keys written -/
def kE : Expr → Option Key
  | .Constant (.int i) _ _ => some (.inl i)
  | .Constant (.str x) _ _ => some (.inr x)
  | _ => none
def dctF (mu : Nat) (ks : List Key) (f : Fx (List D)) : Fx D := fun ρ st => (f ρ st).bind fun xs st1 => if mu = 0 then .ok (.dct (ks.map kD) xs) st1 else .ok (.cell st1.length) (st1 ++ [.dct (ks.map kD) xs])
theorem pe_key {e : Expr} {kk : Key} (h : kE e = some kk) : PE X e (tC (kV kk)) := by
  unfold kE at h
  split at h
  · cases h; exact pe_int
  · cases h; exact pe_str
  · cases h
theorem merge_id : ∀ (kvs acc : List (Key × V)), ((acc ++ kvs).map (·.1)).Nodup → mergeK acc kvs = acc ++ kvs
  | [], acc, _ => by simp [mergeK]
  | p :: kvs, acc, h => by
    have hn : (acc.any fun kv => decide (kv.1 = p.1)) = false := by
      rw [Bool.eq_false_iff]
      intro hany
      rw [List.any_eq_true] at hany
      obtain ⟨q, hq, e⟩ := hany
      rw [decide_eq_true_eq] at e
      rw [List.map_append, List.map_cons, List.nodup_append] at h
      exact h.2.2 q.1 (List.mem_map_of_mem hq) p.1 List.mem_cons_self e
    show mergeK (L2.putK acc p.1 p.2) kvs = _
    have e : L2.putK acc p.1 p.2 = acc ++ [p] := by
      unfold L2.putK
      rw [hn]; rfl
    rw [e, merge_id kvs (acc ++ [p]) (by rw [List.append_assoc]; exact h), List.append_assoc]
    rfl
/-- pairs of written keys and values -/
structure SD (X : Cx) (C : Kc) (E : L2.St → XK) (pos : Pos) (keys : List (Option Expr)) (values : List Expr) (ks : List Key) (f : Fx (List D)) : Prop where
  run : ∃ trs, PPs X pos keys values trs ∧ ∀ (σ : L2.St) (S : Rp) (H : Hp) (ρ : Env) (st : Store) (Q : List (V × V) → Hp → Prop), Rep C S st H → REnv C S ρ σ →
    Post C (rVs C) S H (f ρ st) (fun vs H' => Q ((ks.map kV).zip vs) H') (E σ) → tPairs trs σ H Q
theorem sd_nil {pos : Pos} : SD X C E pos [] [] [] nilF := ⟨[], pps_nil, fun σ S H ρ st Q rp rn q => Post.end_ (C := C) (rel := rVs C) (b := []) q (.refl S H) rp .nil⟩
theorem sd_cons {pos : Pos} {ke v : Expr} {kk : Key} {keys : List (Option Expr)} {values : List Expr} {ks : List Key} {f : Fx D} {g : Fx (List D)} (hk : kE ke = some kk) (hv : SE X C E f v) (hr : SD X C E pos keys values ks g) :
    SD X C E pos (some ke :: keys) (v :: values) (kk :: ks) (consF f g) := by
  obtain ⟨trs, h1, h2⟩ := hr.run
  refine ⟨(tC (kV kk), tF C (rV C) E f) :: trs, pps_cons (pe_key hk) hv h1, fun σ S H ρ st Q rp rn q => ?_⟩
  refine ⟨S, ρ, st, rp, rn, Post.bind (rel2 := rVs C) q fun d st1 S1 H1 v g1 rp1 rv1 q1 => ?_⟩
  refine h2 σ S1 H1 ρ st1 _ rp1 (rn.mono g1.ext) (Post.bind (rel2 := rVs C) q1 fun ds st2 S2 H2 vs g2 rp2 rv2 q2 => ?_)
  exact Post.end_ (C := C) (rel := rVs C) (b := v :: vs) q2 (.refl S2 H2) rp2 (.cons (RV.mono g2.ext rv1) rv2)
theorem zip_kvs : ∀ {ks : List Key} {vs : List V}, ks.length = vs.length → (ks.map kV).zip vs = (ks.zip vs).map fun kv => (kV kv.1, kv.2)
  | [], [], _ => rfl
  | kk :: ks, v :: vs, h => by simp [zip_kvs (ks := ks) (vs := vs) (by simpa using h)]
theorem se_dct {mu : Nat} {pos : Pos} {keys : List (Option Expr)} {values : List Expr} {ks : List Key} {f : Fx (List D)} (h : SD X C E pos keys values ks f) (hall : keys.all (·.isSome) = true) (hl : keys.length = values.length) (h0 : keys ≠ []) (h15 : keys.length ≤ 15) (hks : ks.length = keys.length) (hnd : ks.Nodup)
    (hfl : ∀ ρ st xs st', f ρ st = .ok xs st' → xs.length = ks.length) : SE X C E (dctF mu ks f) (.Dict keys values pos) := by
  obtain ⟨trs, h1, h2⟩ := h.run
  refine PE.weak (pe_disp h1 hall hl h0 h15) fun σ H Q q => ?_
  obtain ⟨S, ρ, st, rp, rn, q⟩ := q
  intro p hp
  refine h2 σ S _ ρ st _ (rp.drop hp) rn ?_
  cases e : f ρ st with
  | bad => unfold dctF at q; rw [e] at q; exact q.bad
  | ex c ns us st' =>
    unfold dctF at q
    rw [e] at q
    have q : Post C (rV C) S H (.ex c ns us st') Q (E σ) := q
    exact fun S' H' cls dd g rp' xr => q S' H' cls dd ((Go.drop hp).trans g) rp' xr
  | ok xs st' =>
    have hx := hfl ρ st xs st' e
    unfold dctF at q
    rw [e] at q
    intro S' H' vs g rp' rvs
    have rvs : RVs C S' xs vs := rvs
    have mi : MineO S H S' H' p (.dK []) := MineO.step ⟨Go.drop hp, upd_same, rp.free hp, rp.notin hp⟩ g
    have hlv : ks.length = vs.length := by rw [← hx]; exact rvs.length
    have hz1 : (ks.zip vs).map (·.1) = ks := zip_fst hlv
    have hz2 : (ks.zip vs).map (·.2) = vs := zip_snd hlv
    refine ⟨mi.at_, ks.zip vs, zip_kvs hlv, by rw [List.length_zip]; omega, ?_⟩
    have hm : mergeK [] (ks.zip vs) = ks.zip vs := merge_id _ [] (by rw [List.nil_append, hz1]; exact hnd)
    rw [hm]
    have mi2 := mi.put (o' := .dK (ks.zip vs)) hp
    have rp2 := rp'.mineO (o' := .dK (ks.zip vs)) mi
    have q : Post C (rV C) S H (if mu = 0 then .ok (.dct (ks.map kD) xs) st' else .ok (.cell st'.length) (st' ++ [.dct (ks.map kD) xs])) Q (E σ) := q
    have hkd : ks.map kD = (ks.zip vs).map fun pp => kD pp.1 := by
      conv => lhs; rw [← hz1]
      rw [List.map_map]; rfl
    split at q
    · obtain ⟨a1, a2, a3⟩ := mineO_fz rp2 mi2 hp
      exact q _ _ _ a1 a2 (rv_dct.mpr ⟨p, _, rfl, upd_same, hkd, by rw [hz2]; exact rvs.mono a3⟩)
    · obtain ⟨a1, a2, a3⟩ := mineO_cl (mo := .dct (ks.map kD) xs) rp2 mi2 hp ⟨_, rfl, hkd, by rw [hz2]; exact rvs⟩
      exact q _ _ _ a1 a2 a3
theorem se_dct0 {mu : Nat} {pos : Pos} : SE X C E (fun _ st => if mu = 0 then .ok (.dct [] []) st else .ok (.cell st.length) (st ++ [.dct [] []])) (.Dict [] [] pos) :=
  PE.weak pe_dnewK fun σ H Q q => by
    obtain ⟨S, ρ, st, rp, rn, q⟩ := q
    intro p hp
    split at q
    · exact q _ _ _ (Go.newF (rp.free hp) hp) (rp.newF hp) (rv_dct.mpr ⟨p, [], rfl, upd_same, rfl, .nil⟩)
    · refine q _ _ _ (Go.newC hp) (rp.newC (mo := .dct [] []) hp ⟨[], rfl, rfl, .nil⟩) (rv_cell.mpr ⟨p, rfl, ?_⟩)
      show (S.m ++ [p])[st.length]? = some p
      rw [← rp.len]; simp

/-! ### o[i] = v -/
theorem putK_any {kk : Key} : ∀ {kvs : List (Key × V)} {us : List D}, us.length = kvs.length → (lookK kk (kvs.map fun p => kD p.1) us).isSome = kvs.any fun kv => decide (kv.1 = kk)
  | [], us, h => by cases us <;> rfl
  | p :: kvs, [], h => by simp at h
  | p :: kvs, u :: us, h => by
    obtain ⟨key, v0⟩ := p
    have e' : lookK kk (((key, v0) :: kvs).map fun p => kD p.1) (u :: us) = if kk = key then some u else lookK kk (kvs.map fun p => kD p.1) us := by cases key <;> rfl
    rw [e', List.any_cons]
    by_cases z : kk = key
    · rw [if_pos z]; simp [z]
    · rw [if_neg z, putK_any (kvs := kvs) (us := us) (by simpa using h)]
      simp [Ne.symm z]
theorem putK_map {S : Rp} {kk : Key} {u : D} {w : V} (hu : RV C S u w) : ∀ {kvs : List (Key × V)} {us : List D}, (kvs.map (·.1)).Nodup → RVs C S us (kvs.map (·.2)) → RVs C S (putK kk u (kvs.map fun p => kD p.1) us) ((kvs.map fun kv => if kv.1 = kk then (kv.1, w) else kv).map (·.2))
  | [], us, _, h => by rw [List.map_nil, RVs.eq_def] at h; cases us <;> first | exact .nil | (obtain ⟨_, _, e, _⟩ := h; cases e)
  | p :: kvs, us, nd, h => by
    obtain ⟨key, v0⟩ := p
    cases us with
    | nil => rw [RVs] at h; cases h
    | cons d us =>
      rw [List.map_cons, RVs] at h
      obtain ⟨v, r, h0, h1, h2⟩ := h
      injection h0 with h0 h0'
      subst h0 h0'
      have e' : putK kk u (((key, v0) :: kvs).map fun p => kD p.1) (d :: us) = if kk = key then u :: us else d :: putK kk u (kvs.map fun p => kD p.1) us := by cases key <;> rfl
      rw [e', List.map_cons, List.map_cons]
      by_cases z : kk = key
      · rw [if_pos z]
        subst z
        rw [if_pos rfl]
        refine .cons hu ?_
        have : (kvs.map fun kv => if kv.1 = kk then (kv.1, w) else kv) = kvs := by
          rw [List.map_cons, List.nodup_cons] at nd
          refine (List.map_congr_left fun kv hkv => ?_).trans (List.map_id _)
          have : kv.1 ≠ kk := fun q => nd.1 (List.mem_map.mpr ⟨kv, hkv, q⟩)
          rw [if_neg this]; rfl
        rw [this]; exact h2
      · rw [if_neg z, if_neg (fun q => z q.symm)]
        rw [List.map_cons, List.nodup_cons] at nd
        exact .cons h1 (putK_map hu nd.2 h2)
def setIF (fo fi fv : Fx D) : FS := runE fv fun v ρ st => runE fo (fun o ρ st => runE fi (fun i ρ st => match setD o i v st with
  | some st' => .ok (.nx ρ) st'
  | none => .bad) ρ st) ρ st
/-- an expression of a statement run, what it hands on -/
theorem es_step {f : Fx D} {e : Expr} (he : SE X C E f e) {g : D → Env → Store → R F} {De : Ends} {pins : List (Addr × Obj)} {s : Shared} {σ : L2.St} {H : Hp} {S : Rp} {ρ : Env} {st : Store}
    (I : Inv X pins σ H s) (rp : Rep C S st H) (rn : REnv C S ρ σ) (q : PostS C E De S H (runE f g ρ st)) {P : Value → Shared → Prop}
    (kk : ∀ u s1 v H1 S1 st1 d, Inv X pins σ H1 s1 → RelV v u → Go S H S1 H1 → Rep C S1 st1 H1 → RV C S1 d v → PostS C E De S1 H1 (g d ρ st1) → P u s1) : wpAny (model X.prog X.w) X.A (eval e X.env) P X.xe s := by
  refine thn (he.run pins s σ H (fun v H1 => ∃ S1 st1 d, Go S H S1 H1 ∧ Rep C S1 st1 H1 ∧ RV C S1 d v ∧ PostS C E De S1 H1 (g d ρ st1)) I ⟨S, ρ, st, rp, rn, runE_post rn q fun d st1 S1 H1 v g1 rp1 rv1 h1 => ⟨S1, st1, d, g1, rp1, rv1, h1⟩⟩) ?_
  rintro u s1 ⟨v, H1, I1, r1, S1, st1, d, g1, rp1, rv1, h1⟩
  exact kk u s1 v H1 S1 st1 d I1 r1 g1 rp1 rv1 h1
/-- in a list or in a dict -/
theorem ss_setI {fo fi fv : Fx D} {o i e : Expr} {pos' pos : Pos} (hX : XOk X C k E) (ho : SE X C E fo o) (hi : SE X C E fi i) (hv : SE X C E fv e) (hs : swapsWith e (some (.Subscript o i pos')) pos.line X.env = pure false) :
    SS X C E (setIF fo fi fv) (.Assign [.Subscript o i pos'] e pos) := by
  refine ⟨fun pins s σ H De I h => ?_⟩
  obtain ⟨S, ρ, st, rp, rn, h⟩ := h
  refine wpAny_Assign_Subscript (es_step hv I rp rn h fun r s1 v H1 S1 st1 d I1 rv g1 rp1 rd1 h1 =>
    es_step ho I1 rp1 (rn.mono g1.ext) h1 fun u s2 x H2 S2 st2 dx I2 rx g2 rp2 rx2 h2 =>
    es_step hi I2 rp2 ((rn.mono g1.ext).mono g2.ext) h2 fun iv s3 y H3 S3 st3 dy I3 ry g3 rp3 ry3 h3 => ?_) hs
  have rn3 := ((rn.mono g1.ext).mono g2.ext).mono g3.ext
  have rd3 : RV C S3 d v := (RV.mono g2.ext rd1).mono g3.ext
  have rx3 : RV C S3 dx x := RV.mono g3.ext rx2
  cases z : setD dx dy d st3 with
  | none => rw [z] at h3; exact h3.bad
  | some st4 =>
    rw [z] at h3
    unfold setD at z
    cases dx with
    | cell n =>
      simp only at z
      cases y1 : st3[n]? with
      | none => simp only [y1] at z; cases z
      | some mo =>
        simp only [y1] at z
        obtain ⟨a, rfl, hm⟩ := rv_cell.mp rx3
        obtain ⟨a', o', q1, q2, q3, q4⟩ := rp3.at_ n mo y1
        rw [hm] at q1; cases q1
        cases mo with
        | lst xs =>
          simp only at z
          cases dy with
          | int kk =>
            simp only at z
            cases y2 : ixN xs.length kk with
            | none => rw [y2] at z; cases z
            | some j =>
              rw [y2] at z; cases z
              obtain ⟨vs, rfl, q5⟩ := q4
              rw [rv_int] at ry3; subst ry3
              refine thn (set_list pins s3 σ H3 (.ref a) (.int kk) v u iv r (fun H4 => De.nx σ H4) I3 rx ry rv ⟨a, vs, kk, j, rfl, rfl, q3, by rw [← q5.length]; exact y2, ?_⟩) fun _ s4 ⟨H4, I4, q⟩ => ⟨σ, H4, I4, q⟩
              exact h3 S3 _ (Go.setC hm q3) (rp3.setC (mo := .lst (xs.set j d)) hm ⟨_, rfl, q5.set j rd3⟩) σ rn3
          | _ => cases z
        | dct ks us =>
          simp only at z
          cases y2 : keyOf dy with
          | none => simp only [y2] at z; cases z
          | some kk =>
            simp only [y2] at z
            split at z
            · rename_i hlim
              obtain ⟨kvs, rfl, q5, q6⟩ := q4
              have ey := keyOf_rv ry3 y2
              subst ey
              have hok : ObjOk X.prog X.w H3 s3.heap a (.dK kvs) := I3.hok a _ q3
              obtain ⟨_, _, vs2, kv, _, _, _, _, _, _, _, _, nd2⟩ := hok
              have nd : (kvs.map (·.1)).Nodup := by
                have : ∀ {a : List (Key × V)} {b : List (Key × Value)}, KV a b → a.map (·.1) = b.map (·.1) := by
                  intro a b h
                  induction h with
                  | nil => rfl
                  | cons e _ ih => simp [e.1, ih]
                rw [this kv]; exact nd2
              have hlen : kvs.length < sizeLine := by
                rw [q5, List.length_map] at hlim
                exact lim_lt (Nat.le_of_lt hlim)
              have hul : us.length = kvs.length := by rw [q6.length, List.length_map]
              cases rx
              refine d_setItem (hu_of hX.room) I3 (DPut.k (v := v) q3 hlen) ry rv fun s4 I4 => ⟨σ, upd H3 a (.dK (L2.putK kvs kk v)), I4, ?_⟩
              have hany := putK_any (kk := kk) hul
              rw [← q5] at hany
              cases y3 : lookK kk ks us with
              | some w0 =>
                rw [y3] at hany
                simp only [y3] at z
                cases z
                refine h3 S3 _ (Go.setC hm q3) (rp3.setC (mo := .dct ks (putK kk d ks us)) hm ⟨_, rfl, ?_, ?_⟩) σ rn3
                · unfold L2.putK
                  rw [← hany]
                  show ks = List.map _ (List.map _ kvs)
                  rw [List.map_map, q5]
                  refine List.map_congr_left fun kv _ => ?_
                  show kD kv.1 = kD (if kv.1 = kk then (kv.1, v) else kv).1
                  split <;> rfl
                · have := putK_map (kk := kk) rd3 nd q6
                  rw [← q5] at this
                  unfold L2.putK
                  rw [← hany]
                  exact this
              | none =>
                rw [y3] at hany
                simp only [y3] at z
                cases z
                refine h3 S3 _ (Go.setC hm q3) (rp3.setC (mo := .dct (ks ++ [dy]) (us ++ [d])) hm ⟨_, rfl, ?_, ?_⟩) σ rn3
                · unfold L2.putK
                  rw [← hany]
                  show ks ++ [dy] = List.map _ (kvs ++ [(kk, v)])
                  rw [List.map_append, q5]
                  congr 1
                  cases dy with
                  | int i => cases y2; rfl
                  | str x => cases y2; rfl
                  | _ => cases y2
                · unfold L2.putK
                  rw [← hany]
                  show RVs C S3 (us ++ [d]) (List.map _ (kvs ++ [(kk, v)]))
                  rw [List.map_append]
                  exact q6.append (.one rd3)
            · cases z
        | ins c ns us => cases z
    | _ => cases z
end
end Px

/-! Px16: the law's own end. -/
namespace Px
open PySem PySem.Spec PyProof.Rows L2
theorem rvs_ints {C : Kc} {S : Rp} : ∀ ns : List Int, RVs C S (ns.map .int) (ns.map V.int)
  | [] => .nil
  | n :: ns => .cons (rv_int.mpr rfl) (rvs_ints ns)
theorem law_callD {P : Program} {w : World} {C : Kc} {mg mb : Str → Option Value} {k : Nat} {fa a : Addr} {fd : FuncData} {Fu : Fn} {x : Str} {s₁ : Shared} {vs : List Value} {ns : List Int}
    (KX : C.K.In s₁.heap) (hns : s₁.heap.Ns mainGlobals mg) (hb : s₁.heap.Ns builtinsNs mb) (hbb : ∀ x : Str, x ≠ "__name__" → mb x = bootBuiltins x) (hlim : s₁.heap.NoLimit) (hsm : ∃ mm, s₁.heap.Ns sysModules mm) (hg : s₁.gens = #[])
    (ha : s₁.heap.get? a = some { cls := .type "list", data := .seq vs.toArray }) (hi : IntsAre vs ns) (hl : ns.length ≤ sizeLine) (hr : Room k callerA) (hps : Fu.ps = [x])
    (F : ∀ base : Heap, C.K.In base → base.Ns mainGlobals mg → (∃ o, base.get? sysModules = some o) → FnD P w C mg base k fa fd Fu) (hbind : ∀ (s : Shared) (u : Value), BindsTo s fd ⟨[u], []⟩ [(x, u)])
    (hsp : ∃ st', Fu.run [.lck (ns.map .int)] [] = .ok (.bl true) st') :
    codeAny (model P w) callerA (.call (.ref fa) ⟨[.ref a], []⟩) (fun r s' => r = .ok (.ret (.bool true)) ∧ OldK s₁.heap s'.heap ∧ s'.os = s₁.os ∧ AllBare s'.gens) s₁ := by
  have rv := vals_ints hi
  have lenV := hi.length
  obtain ⟨st', hrun⟩ := hsp
  have core : ∀ H : Hp, Only H → SqL C.K H a (ns.map V.int) → HOk P w H s₁.heap → (∀ b, H b ≠ none → b = a) → (H a ≠ none → C.K.lookup a = none) →
      codeAny (model P w) callerA (.call (.ref fa) ⟨[.ref a], []⟩) (fun r s' => r = .ok (.ret (.bool true)) ∧ OldK s₁.heap s'.heap ∧ s'.os = s₁.os ∧ AllBare s'.gens) s₁ := by
    intro H hO hS hok hA hK
    have base_of : ∀ {b : Addr} {o : Obj}, s₁.heap.get? b = some o → H b = none → (hidT s₁.heap H).get? b = some o := fun e n => hidT_get e n
    have noA : ∀ {b : Addr} {o : Obj} {es : Array DictEntry} {ep : Nat}, s₁.heap.get? b = some o → o.data = .dict es ep → H b = none := fun {b o es ep} e d => by
      cases q : H b with
      | none => rfl
      | some u =>
        have e' : b = a := hA b (by rw [q]; simp)
        subst e'
        rw [ha] at e; cases e
        have d' : Data.seq vs.toArray _ = Data.dict es ep := d
        cases d'
    have nsK : ∀ {b : Addr} {m : Str → Option Value}, s₁.heap.Ns b m → (hidT s₁.heap H).Ns b m := fun {b m} ⟨o, es, ep, e, d, r⟩ => ⟨o, es, ep, base_of e (noA e d), d, r⟩
    have hKb : C.K.In (hidT s₁.heap H) := fun b o e => base_of (KX b o e) (by
      cases q : H b with
      | none => rfl
      | some u =>
        have e' : b = a := hA b (by rw [q]; simp)
        subst e'
        rw [hK (by rw [q]; simp)] at e; cases e)
    have hM : Mod C.K mg (hidT s₁.heap H) := ⟨hKb, nsK hns, ⟨mb, nsK hb, hbb⟩, let ⟨mc, h1, h2⟩ := hlim; ⟨mc, nsK h1, h2⟩⟩
    have e0 : Env0 P w C.K mg (hidT s₁.heap H) callerA [] s₁ H := ⟨rfl, hM, fun b o e => of_hidT e, Nat.le_of_eq (hidT_size _ _), trivial, fun b hb => absurd (show b ∈ ([] : List Addr) from hb) (by simp), hok, .of_eq hg⟩
    have hsm' : ∃ o, (hidT s₁.heap H).get? sysModules = some o := by
      obtain ⟨mm, hm⟩ := hsm
      obtain ⟨o, es, ep, e, _⟩ := nsK hm
      exact ⟨o, e⟩
    let S : Rp := ⟨H, []⟩
    have rp : Rep C S [] H := ⟨fun _ _ e => e, rfl, List.nodup_nil, fun n mo e => by simp at e⟩
    have rvS : RV C S (.lck (ns.map .int)) (.ref a) := rv_lck.mpr ⟨a, _, rfl, hS, rvs_ints ns⟩
    refine codeAny_mono ((F _ hKb (nsK hns) hsm').run callerA [] s₁ H ⟨[.ref a], []⟩ [.ref a] [.ref a] (fun v _ => v = .bl true) (fun _ _ _ => False) S [] [.lck (ns.map .int)] hr rfl e0 (by rw [hps]; exact hbind s₁ (.ref a)) (.cons rfl .nil) rp (.cons rvS .nil) (by rw [hps]; rfl) ?_) fun r s' h => ?_
    · rw [hrun]
      exact fun S' H' b g rp' rl => rv_bl.mp rl
    cases r with
    | error e =>
      obtain ⟨cls, dd, H', h⟩ := h
      exact absurd h (by
        intro h
        first
          | exact h.elim
          | (obtain ⟨_, _, _, _, _, _, h⟩ := h; exact h.elim)
          | (simp at h))
    | ok fl =>
      cases fl with
      | next => exact False.elim h
      | brk => exact False.elim h
      | cont => exact False.elim h
      | ret u =>
        obtain ⟨v, H', os, bare, un, hok', r', q⟩ := h
        have q' : v = .bl true := q
        subst q'
        obtain rfl : u = Value.bool true := r'
        refine ⟨rfl, OldK.of_keep fun b o e => ?_, os, bare⟩
        cases q : H b with
        | none => exact un.keep b o e q (by intro z; exact absurd (show b ∈ ([] : List Addr) from z) (by simp)) (by simp)
        | some u =>
          rcases hO b with z | ⟨ob, xs, z⟩
          · rw [q] at z; cases z
          · have z2 := un.frzs b ob _ z
            obtain ⟨e1, _⟩ := hok b _ z
            obtain ⟨e2, _⟩ := hok' b _ z2
            rw [e] at e1; cases e1
            exact e2
  cases hk : C.K.lookup a with
  | some o =>
    have e := KX a o hk
    rw [ha] at e
    cases e
    refine core (fun _ => none) (fun _ => .inl rfl) (.inr ⟨_, vs.toArray, _, hk, rfl, rfl, rfl, by rw [List.size_toArray, lenV]; exact hl, by simpa using rv⟩) (fun b u z => by have z' : (none : Option HO) = some u := z; cases z') (fun b z => absurd rfl z) fun z => absurd rfl z
  | none =>
    refine core (fun b => if b = a then some (.frz { cls := .type "list", data := .seq vs.toArray } (.lst (ns.map V.int))) else none) (fun b => ?_) (.inl (.inr ⟨{ cls := .type "list", data := .seq vs.toArray }, if_pos rfl⟩)) (fun b u z => ?_) (fun b z => ?_) fun _ => hk
    · by_cases hb : b = a
      · exact .inr ⟨_, _, if_pos hb⟩
      · exact .inl (if_neg hb)
    · by_cases hb : b = a
      · have z' := (if_pos hb).symm.trans z
        cases z'
        subst hb
        exact ⟨ha, by rw [List.length_map]; exact hl, vs, _, rv, ha⟩
      · have z' := (if_neg hb).symm.trans z
        cases z'
    · by_cases hb : b = a
      · exact hb
      · exact absurd (if_neg hb) z

/-- the goal that k_head leaves, from the law's own def -/
theorem walk_ofD {l : PySem.W.OpenLaw} {n k : Nat} {q : Program} {loose : List Str} {XP : (Str → Option Value) → Heap → Prop} {YP : World → Heap → Prop} {d : DefRec} {x : Str} {Fu : Fn}
    (C : World → Kc) (hn : l.most = some n) (hn2 : n ≤ sizeLine) (hdf : d.params.defaults = []) (hr : Room k callerA) (hps : Fu.ps = [x]) (him : importsNone q = true)
    (hY : ∀ (w : World) (h : Heap), YP w h → (C w).K.In h)
    (F : ∀ (w : World) (mg : Str → Option Value) (fa : Addr) (h : Heap), (C w).K.In h → h.Ns mainGlobals mg → mg d.name = some (.ref fa) →
      ∃ fd : FuncData, (∀ (s : Shared) (u : Value), BindsTo s fd ⟨[u], []⟩ [(x, u)]) ∧
        ∀ base : Heap, (C w).K.In base → base.Ns mainGlobals mg → (∃ o, base.get? sysModules = some o) → FnD l.prog w (C w) mg base k fa fd Fu)
    (hsp : ∀ ns : List Int, ns.length ≤ n → ∃ st', Fu.run [.lck (ns.map .int)] [] = .ok (.bl true) st') :
    PySem.W.WalkO q loose XP YP l.row.toRowW d [] (fun f vs => PySem.call f vs) := by
  refine Att.attach_call hn hdf fun w s₀ s₁ mg mb fa o pm cd doc a vs ns G Y ho hd hcd hmg hobj hints hlen hg => ?_
  have KX := hY w _ Y
  obtain ⟨fd, hb, hF⟩ := F w mg fa _ KX G.T.g hmg
  exact law_callD KX G.T.g G.T.b G.T.builtins G.T.nolimit (let ⟨mm, h, _⟩ := (G.T.seer him).mods; ⟨mm, h⟩) hg hobj hints (Nat.le_trans hlen hn2) hr hps hF hb (hsp ns hlen)
end Px

/-! Px17: what stands at the top; rules in short. -/
namespace Px
open PySem PySem.Spec PyProof.Rows L2

/-! ### constants of the module -/
mutual
/-- a value of the written part, by value -/
def cvB (K : PySem.W.Frag) : D → Value → Bool
  | .non, .none => true
  | .bl b, .bool c => b == c
  | .int i, .int j _ => decide (i = j)
  | .str x, .str y _ => decide (x = y)
  | .tup ds, .ref a => (match K.lookup a with
    | some ⟨.type c, _, .seq its _, _⟩ => decide (c = "tuple") && (decide (its.size ≤ sizeLine) && cvBs K ds its.toList)
    | _ => false)
  | _, _ => false
def cvBs (K : PySem.W.Frag) : List D → List Value → Bool
  | [], [] => true
  | d :: ds, u :: us => cvB K d u && cvBs K ds us
  | _, _ => false
end
mutual
theorem cvB_ok {C : Kc} {S : Rp} : ∀ (d : D) (u : Value), cvB C.K d u = true → ∃ v, RelV v u ∧ ∀ S, RV C S d v
  | .non, u, h => by
    cases u with
    | none => exact ⟨.non, rfl, fun S => rv_non.mpr rfl⟩
    | _ => unfold cvB at h; cases h
  | .bl b, u, h => by
    cases u with
    | bool c =>
      unfold cvB at h
      have e : b = c := eq_of_beq h
      exact ⟨.bl b, by rw [e]; rfl, fun S => rv_bl.mpr rfl⟩
    | _ => unfold cvB at h; cases h
  | .int i, u, h => by
    cases u with
    | int j t =>
      unfold cvB at h
      have e : i = j := of_decide_eq_true h
      exact ⟨.int i, ⟨t, by rw [e]⟩, fun S => rv_int.mpr rfl⟩
    | _ => unfold cvB at h; cases h
  | .str i, u, h => by
    cases u with
    | str j t =>
      unfold cvB at h
      have e : i = j := of_decide_eq_true h
      exact ⟨.str i, ⟨t, by rw [e]⟩, fun S => rv_str.mpr rfl⟩
    | _ => unfold cvB at h; cases h
  | .tup ds, u, h => by
    cases u with
    | ref a =>
      unfold cvB at h
      cases q : C.K.lookup a with
      | none => rw [q] at h; cases h
      | some o =>
        obtain ⟨oc, od, dt, osl⟩ := o
        rw [q] at h
        cases oc with
        | type c =>
          cases dt with
          | seq its n =>
            have h : (decide (c = "tuple") && (decide (its.size ≤ sizeLine) && cvBs C.K ds its.toList)) = true := h
            rw [Bool.and_eq_true, Bool.and_eq_true, decide_eq_true_eq, decide_eq_true_eq] at h
            obtain ⟨h1, h2, h3⟩ := h
            obtain ⟨vs, h4, h5⟩ := cvBs_ok (C := C) (S := S) ds _ h3
            exact ⟨.ref a, rfl, fun S => rv_tup.mpr ⟨a, vs, rfl, .inr ⟨_, its, n, q, congrArg Value.type h1, rfl, h2, h4⟩, h5 S⟩⟩
          | _ => cases h
        | _ => cases dt <;> cases h
    | _ => unfold cvB at h; cases h
  | .lst _, u, h => by unfold cvB at h; cases h
  | .dct _ _, u, h => by unfold cvB at h; cases h
  | .obj _ _ _, u, h => by unfold cvB at h; cases h
  | .cell _, u, h => by unfold cvB at h; cases h
  | .ty _, u, h => by unfold cvB at h; cases h
  | .lck _, u, h => by unfold cvB at h; cases h
theorem cvBs_ok {C : Kc} {S : Rp} : ∀ (ds : List D) (us : List Value), cvBs C.K ds us = true → ∃ vs, Vals vs us ∧ ∀ S, RVs C S ds vs
  | [], us, h => by
    cases us with
    | nil => exact ⟨[], .nil, fun S => .nil⟩
    | cons u us => unfold cvBs at h; cases h
  | d :: ds, us, h => by
    cases us with
    | nil => unfold cvBs at h; cases h
    | cons u us =>
      unfold cvBs at h
      rw [Bool.and_eq_true] at h
      obtain ⟨v, h1, h2⟩ := cvB_ok (C := C) (S := S) d u h.1
      obtain ⟨vs, h3, h4⟩ := cvBs_ok (C := C) (S := S) ds us h.2
      exact ⟨v :: vs, .cons h1 h3, fun S => .cons (h2 S) (h4 S)⟩
end
def cstB (K : PySem.W.Frag) (x : Str) (d : D) : Bool := match PySem.W.nsIn K mainGlobals x with
  | some (some u) => cvB K d u
  | _ => false
theorem cst_ok {C : Kc} {h : Heap} {mg : Str → Option Value} (X : C.K.In h) (G : h.Ns mainGlobals mg) {x : Str} {d : D} (c : cstB C.K x d = true) : ∃ u v, mg x = some u ∧ RelV v u ∧ ∀ S, RV C S d v := by
  unfold cstB at c
  cases e : PySem.W.nsIn C.K mainGlobals x with
  | none => rw [e] at c; cases c
  | some r =>
    rw [e] at c
    cases r with
    | none => cases c
    | some u =>
      obtain ⟨v, h1, h2⟩ := cvB_ok (C := C) (S := ⟨fun _ => none, []⟩) d u c
      exact ⟨u, v, PySem.W.mg_of X G e, h1, h2⟩
/-! ### the Hook -/
abbrev AlP : Type := Bool × List He.FnW
def obsP (fa : List He.Fa) (fn : List He.DefD) (cs : List (Str × D)) (K : PySem.W.Frag) : AlP := ((fa.all fun f => f.ok K) && ((fn.all fun d => d.ok K) && cs.all fun c => cstB K c.1 c.2), fn.map fun d => He.fnW K d.at_)
def valP (fn : List He.DefD) : AlP := (true, fn.map He.DefD.val)
def SaysP (fa : List He.Fa) (fn : List He.DefD) (cs : List (Str × D)) (K : PySem.W.Frag) : Prop := obsP fa fn cs K = valP fn
def obsPG (n : Nat) (fa : List He.Fa) (fn : List He.DefD) (cs : List (Str × D)) (g : Addr → Option Obj) : AlP := obsP fa fn cs (He.frG g (He.asD g n))
def hookP (n : Nat) (fa : List He.Fa) (fn : List He.DefD) (cs : List (Str × D)) : PySem.W.Hook where
  α := AlP
  obs := fun s => obsPG n fa fn cs s.heap.get?
  val := fun _ => valP fn
  says := fun _ h => ∃ K : PySem.W.Frag, K.In h ∧ SaysP fa fn cs K
  of := fun _ _ e => ⟨_, He.frG_in, e⟩
  keeps := fun _ _ _ ⟨K, hK, c⟩ k => ⟨K, PySem.W.Frag.In.keeps hK k, c⟩
theorem obsPG_eq {n : Nat} {fa : List He.Fa} {fn : List He.DefD} {cs : List (Str × D)} {g : Addr → Option Obj} {s : Shared} (h : ∀ a, g a = s.heap.get? a) : obsPG n fa fn cs g = (hookP n fa fn cs).obs s := by
  have e : g = s.heap.get? := funext h
  rw [e] <;> rfl
/-- what stands behind the top -/
structure Tp (fa : List He.Fa) (fn : List He.DefD) (cs : List (Str × D)) (C : Kc) (mg : Str → Option Value) (base : Heap) : Prop where
  says : SaysP fa fn cs C.K
  kin : C.K.In base
  glob : base.Ns mainGlobals mg
  sm : ∃ o, base.get? sysModules = some o
def dOf (st : Stmt) (x : Str) : He.DefD := ⟨(x, none), x, x, defArgs st, defBody st, defScope st, [], []⟩
section
variable {fa : List He.Fa} {fn : List He.DefD} {cs : List (Str × D)} {C : Kc} {mg : Str → Option Value} {base : Heap}
theorem Tp.fact (T : Tp fa fn cs C mg base) (i : Nat) {f : He.Fa} (h : fa[i]? = some f) : f.ok C.K = true := by
  have c := congrArg (fun z : AlP => z.1) T.says
  have c : ((fa.all fun f => f.ok C.K) && ((fn.all fun d => d.ok C.K) && cs.all fun c => cstB C.K c.1 c.2)) = true := c
  rw [Bool.and_eq_true] at c
  exact List.all_eq_true.mp c.1 f (List.mem_of_getElem? h)
theorem Tp.free (T : Tp fa fn cs C mg base) (i : Nat) {x : Str} (h : fa[i]? = some (.free x) := by rfl) : mg x = none := He.free_ok T.kin T.glob (T.fact i h)
theorem Tp.glo (T : Tp fa fn cs C mg base) (i : Nat) {x : Str} (h : fa[i]? = some (.glo x) := by rfl) : mg x = some (.ref (He.ga C.K x)) := He.glo_ok T.kin T.glob (T.fact i h)
theorem Tp.cst (T : Tp fa fn cs C mg base) (i : Nat) {x : Str} {d : D} (h : cs[i]? = some (x, d) := by rfl) : ∃ u v, mg x = some u ∧ RelV v u ∧ ∀ S, RV C S d v := by
  have c := congrArg (fun z : AlP => z.1) T.says
  have c : ((fa.all fun f => f.ok C.K) && ((fn.all fun d => d.ok C.K) && cs.all fun c => cstB C.K c.1 c.2)) = true := c
  rw [Bool.and_eq_true, Bool.and_eq_true] at c
  exact cst_ok T.kin T.glob (List.all_eq_true.mp c.2.2 _ (List.mem_of_getElem? h))
theorem SaysP.def_ {K : PySem.W.Frag} (c0 : SaysP fa fn cs K) (i : Nat) {d : He.DefD} (h : fn[i]? = some d) : ∃ fd, FunD K d.name d.qual d.params d.body d.scope (d.dvs K) (d.kws K) (He.fAd K d.at_) fd := by
  have c := congrArg (fun z : AlP => z.1) c0
  have c : ((fa.all fun f => f.ok K) && ((fn.all fun d => d.ok K) && cs.all fun c => cstB K c.1 c.2)) = true := c
  rw [Bool.and_eq_true, Bool.and_eq_true] at c
  have e : fn.map (fun d => He.fnW K d.at_) = fn.map He.DefD.val := congrArg (fun z : AlP => z.2) c0
  have e2 : (fn.map fun d => He.fnW K d.at_)[i]? = (fn.map He.DefD.val)[i]? := by rw [e]
  rw [List.getElem?_map, List.getElem?_map, h] at e2
  exact He.DefD.funD (Option.some.inj e2) (List.all_eq_true.mp c.2.1 d (List.mem_of_getElem? h))
theorem SaysP.fun_ {K : PySem.W.Frag} (c : SaysP fa fn cs K) (i : Nat) {st : Stmt} {x : Str} (h : fn[i]? = some (dOf st x)) : ∃ fd, Fun K x x st (He.ga K x) fd := by
  obtain ⟨fd, F⟩ := c.def_ i h
  obtain ⟨oc, od, dV, kV, doc, pm, an, cdv, ct, osl, h1, h2, h3, h4, h5⟩ := F.ex
  have e : dV = .none := by
    rcases h4 with ⟨_, e⟩ | ⟨e, _⟩
    · exact e
    · exact absurd rfl e
  subst e
  exact ⟨fd, ⟨oc, od, kV, doc, pm, an, cdv, ct, osl, h1, h2, h3⟩, F.kp⟩
/-- the function that stands at an address -/
def Has (K : PySem.W.Frag) (f : Addr) (fd : FuncData) : Prop := ∃ oc od osl, K.lookup f = some ⟨oc, od, .func fd, osl⟩
theorem Has.eq {K : PySem.W.Frag} {f : Addr} {fd fd' : FuncData} (h : Has K f fd) (h' : Has K f fd') : fd = fd' := by
  obtain ⟨_, _, _, h⟩ := h
  obtain ⟨_, _, _, h'⟩ := h'
  rw [h] at h'; cases h'; rfl
theorem fun_has {K : PySem.W.Frag} {x q : Str} {st : Stmt} {f : Addr} {fd : FuncData} (F : Fun K x q st f fd) : Has K f fd := by
  obtain ⟨oc, od, kV, doc, pm, an, cdv, ct, osl, h1, h2, h3⟩ := F.ex
  exact ⟨oc, od, osl, h2⟩
end
/-! ### shapes of calls -/
theorem all2_none {C : Kc} {S : Rp} : ∀ n : Nat, All2 (OptR (RU C S)) (List.replicate n none) (List.replicate n none)
  | 0 => .nil
  | n + 1 => .cons True.intro (all2_none n)
theorem fill_len {α : Type} {ks : List Str} {us : List α} : ∀ {ps : List Str} {df : List (Option α)} {xs : List α}, fillIn ks us ps df = some xs → xs.length = ps.length
  | [], df, xs, h => by rw [fillIn] at h; cases h; rfl
  | p :: ps, [], xs, h => by
    rw [fillIn] at h
    cases z1 : fillKw ks us p with
    | none => rw [z1] at h; cases h
    | some u =>
      cases z2 : fillIn ks us ps [] with
      | none => rw [z1, z2] at h; cases h
      | some w =>
        rw [z1, z2] at h; cases h
        rw [List.length_cons, List.length_cons, fill_len z2]
  | p :: ps, d :: df, xs, h => by
    rw [fillIn] at h
    cases z1 : pick (fillKw ks us p) d with
    | none => rw [z1] at h; cases h
    | some u =>
      cases z2 : fillIn ks us ps df with
      | none => rw [z1, z2] at h; cases h
      | some w =>
        rw [z1, z2] at h; cases h
        rw [List.length_cons, List.length_cons, fill_len z2]
theorem bind_len {Fu : Fn} (h : (Fu.sh.all fun s => decide (s.1 ≤ Fu.ps.length)) = true) : ∀ as ks us vs, Fu.bind as ks us = some vs → vs.length = Fu.ps.length := by
  intro as ks us vs e
  unfold Fn.bind at e
  split at e
  · rename_i hsh
    rw [Bool.and_eq_true, List.any_eq_true] at hsh
    obtain ⟨⟨sh, hm, hs⟩, _⟩ := hsh
    rw [Bool.and_eq_true, beq_iff_eq, decide_eq_true_eq] at hs
    have hle := of_decide_eq_true (List.all_eq_true.mp h sh hm)
    unfold bindG at e
    cases z : fillIn ks us (Fu.ps.drop as.length) (Fu.df.drop as.length) with
    | none => rw [z] at e; cases e
    | some l =>
      rw [z] at e; cases e
      rw [List.length_append, fill_len z, List.length_drop]
      omega
  · cases e
/-- how one shape binds -/
def Sh1 (x : Str) (st : Stmt) (ps : List Str) (n : Nat) (ks : List Str) : Prop := ∀ (kV doc pm : Value) (an : Option Addr) (cdv ct : Value) (us ws : List Value), us.length = n → ws.length = ks.length →
  ∃ zs, bindG ps (List.replicate ps.length none) us ks ws = some zs ∧ bindArgs (PySem.W.fnOf x x (defArgs st) (defBody st) (defScope st) .none kV doc pm an cdv ct) ⟨us, ks.zip ws⟩ = pure (ps.zip zs)
theorem sh_of {K : PySem.W.Frag} {x : Str} {st : Stmt} {f : Addr} {fd : FuncData} {ps : List Str} {n : Nat} {ks : List Str} (FN : Fun K x x st f fd) (h : Sh1 x st ps n ks) : ShOk K fd ps (List.replicate ps.length none) n ks := by
  obtain ⟨oc, od, kV, doc, pm, an, cdv, ct, osl, rfl, lk, hcd⟩ := FN.ex
  intro s us ws _ hu hw zs hz
  obtain ⟨zs', h1, h2⟩ := h kV doc pm an cdv ct us ws hu hw
  rw [h1] at hz; cases hz
  exact .of_eq h2
def ShAll (x : Str) (st : Stmt) (ps : List Str) : List (Nat × List Str) → Prop
  | [] => True
  | s :: r => Sh1 x st ps s.1 s.2 ∧ ShAll x st ps r
theorem shall_mem {x : Str} {st : Stmt} {ps : List Str} : ∀ {l : List (Nat × List Str)}, ShAll x st ps l → ∀ s ∈ l, Sh1 x st ps s.1 s.2
  | [], _, s, h => by cases h
  | a :: l, h, s, hs => by
    rcases List.mem_cons.mp hs with e | hs
    · rw [e]; exact h.1
    · exact shall_mem h.2 s hs
/-- a def of the top by its body -/
theorem fnd_top {fa : List He.Fa} {fn : List He.DefD} {cs : List (Str × D)} {P : Program} {w : World} {C : Kc} {mg : Str → Option Value} {base : Heap} (T : Tp fa fn cs C mg base) (i : Nat) {st : Stmt} {x : Str} {N ps : List Str} {sh : List (Nat × List Str)} {body : FS} {kp : Bool} {k : Nat}
    (h : fn[i]? = some (dOf st x)) (S : FnScope N ps (defScope st)) (hsh : ShAll x st ps sh) (hl : (sh.all fun s => decide (s.1 ≤ ps.length)) = true)
    (hb2 : ∀ (f : Addr) (cdv : Value) (A : Around) (outer : List PySem.Env) (s : Shared) (H : Hp) (E : XK),
      (XOk (cxOf (L2.CX P w) P w C.K mg base N x (defScope st) f cdv A outer s H E) C k fun _ => E) → PassesOwn (model P w) (A.deeper (envOfC x (defScope st) s.heap.objs.size f cdv)) (envOfC x (defScope st) s.heap.objs.size f cdv) (cxOf (L2.CX P w) P w C.K mg base N x (defScope st) f cdv A outer s H E).xe →
      SSs (cxOf (L2.CX P w) P w C.K mg base N x (defScope st) f cdv A outer s H E) C (fun _ => E) body (defBody st)) :
    ∃ fd, Has C.K (He.ga C.K x) fd ∧ FnD P w C mg base (k + 1) (He.ga C.K x) fd ⟨ps, List.replicate ps.length none, sh, defRun N.length kp body⟩ := by
  obtain ⟨fd, F⟩ := T.says.fun_ i h
  refine ⟨fd, fun_has F, fnd_of F S rfl ⟨List.replicate ps.length none, fun S => all2_none _, fun s hs => sh_of F (shall_mem hsh s hs)⟩ (bind_len hl) T.sm fun cdv A outer s H E hr hX hp => hb2 _ cdv A outer s H E hX hp⟩
end Px

/-! Px18: the rules in short. -/
namespace Px
open PySem PySem.Spec PyProof.Rows L2
def conF (d : D) : Fx D := fun _ st => .ok d st
def binF (mu : Nat) (o : Operator) (fa fb : Fx D) : Fx D := fun ρ st => (fa ρ st).bind fun x st1 => (fb ρ st1).bind fun y st2 => binD mu o x y st2
def cmpF (o : CmpOp) (fa fb : Fx D) : Fx D := fun ρ st => (fa ρ st).bind fun x st1 => (fb ρ st1).bind fun y st2 => cmpD o x y st2
def negF (f : Fx D) : Fx D := fun ρ st => (f ρ st).bind fun x st1 => match x with | .int i => .ok (.int (-i)) st1 | _ => .bad
def tupF (f : Fx (List D)) : Fx D := fun ρ st => (f ρ st).bind fun xs st1 => mkT xs st1
def lstF (mu : Nat) (f : Fx (List D)) : Fx D := fun ρ st => (f ρ st).bind fun xs st1 => mkL mu xs st1
def ixF (fa fi : Fx D) : Fx D := fun ρ st => (fa ρ st).bind fun x st1 => (fi ρ st1).bind fun y st2 => ixD x y st2
def revF (mu : Nat) (f : Fx D) : Fx D := fun ρ st => (f ρ st).bind fun x st1 => revD mu x st1
def primF (mu : Nat) (p : Prm) (f : Fx (List D)) : Fx D := fun ρ st => (f ρ st).bind fun as st1 => primD mu p as st1
def walkF (f : Fx D) : Fx Walk := fun ρ st => (f ρ st).bind fun x st1 => ofO (walkOf x st1) st1
def dct0F (mu : Nat) : Fx D := fun _ st => if mu = 0 then .ok (.dct [] []) st else .ok (.cell st.length) (st ++ [.dct [] []])
def noF : Fx (Option Int) := fun _ st => .ok none st
def retF (f : Fx D) : FS := runE f fun d _ st => .ok (.rt d) st
def retNF : FS := fun _ st => .ok (.rt .non) st
def expF (f : Fx D) : FS := runE f fun _ ρ st => .ok (.nx ρ) st
def brkF : FS := fun ρ st => .ok (.bk ρ) st
def cntF : FS := fun ρ st => .ok (.ct ρ) st
section
variable {X : Cx} {C : Kc} {E E' : L2.St → XK} {k : Nat}
theorem q_var (i : Nat) {x : Str} {pos : Pos} (hN : X.N[i]? = some x := by rfl) (hv : Vis X.env.scope x := by first | exact Or.inl rfl | exact Or.inr (Or.inl rfl) | exact Or.inr (Or.inr rfl)) (hd : (x == ("__debug__" : Str)) = false := by decide)
    (hcd : (x == ("__classdict__" : Str)) = false := by decide) : SE X C E (varD i) (.Name x pos) := se_var hN hv hd hcd
theorem q_int {i : Int} {j : Nat} {pos : Pos} : SE X C E (conF (.int i)) (.Constant (.int i) j pos) := se_con pe_int fun _ => rv_int.mpr rfl
theorem q_str {i : Str} {j : Nat} {pos : Pos} : SE X C E (conF (.str i)) (.Constant (.str i) j pos) := se_con pe_str fun _ => rv_str.mpr rfl
theorem q_bl {i : Bool} {j : Nat} {pos : Pos} : SE X C E (conF (.bl i)) (.Constant (.bool i) j pos) := se_con pe_bl fun _ => rv_bl.mpr rfl
theorem q_non {j : Nat} {pos : Pos} : SE X C E (conF .non) (.Constant .none j pos) := se_con pe_non fun _ => rv_non.mpr rfl
theorem q_glob {x : Str} {pos : Pos} {d : D} (h : ∃ u v, X.mg x = some u ∧ RelV v u ∧ ∀ S, RV C S d v) (hg : Gl X x := by rfl) (hd : (x == ("__debug__" : Str)) = false := by decide) : SE X C E (conF d) (.Name x pos) := by
  obtain ⟨u, v, h1, h2, h3⟩ := h
  exact se_con (pe_glob hg h1 h2 hd) h3
theorem q_bin {mu : Nat} {o : Operator} {fa fb : Fx D} {a b : Expr} {pos : Pos} (hX : XOk X C k E) (ha : SE X C E fa a) (hb : SE X C E fb b) : SE X C E (binF mu o fa fb) (.BinOp a o b pos) := se_bin ha hb (os_bin hX mu o)
theorem q_cmp {o : CmpOp} {fa fb : Fx D} {a b : Expr} {pos : Pos} (hX : XOk X C k E) (ha : SE X C E fa a) (hb : SE X C E fb b) (hm : behindInMarks o b = false := by rfl) : SE X C E (cmpF o fa fb) (.Compare a [o] [b] pos) := se_cmp ha hb (os_cmp hX o) hm
theorem q_chn {o1 o2 : CmpOp} {fa fb fc : Fx D} {a b c : Expr} {pos : Pos} (hX : XOk X C k E) (ha : SE X C E fa a) (hb : SE X C E fb b) (hc : SE X C E fc c) (hm : lastMarks [o1, o2] [b, c] = false := by rfl) : SE X C E (chainF o1 o2 fa fb fc) (.Compare a [o1, o2] [b, c] pos) := se_chain hX ha hb hc hm
theorem q_not {f : Fx D} {e : Expr} {pos : Pos} (hX : XOk X C k E) (h : SE X C E f e) : SE X C E (notF f) (.UnaryOp .Not e pos) := se_not hX h
theorem q_neg {f : Fx D} {e : Expr} {pos : Pos} (h : SE X C E f e) : SE X C E (negF f) (.UnaryOp .USub e pos) := se_neg h
theorem q_and {f g : Fx D} {a b : Expr} {rest : List Expr} {pos : Pos} (hX : XOk X C k E) (ha : SE X C E f a) (hb : SE X C E g (.BoolOp .And (b :: rest) pos)) : SE X C E (andF f g) (.BoolOp .And (a :: b :: rest) pos) := se_and hX ha hb
theorem q_or {f g : Fx D} {a b : Expr} {rest : List Expr} {pos : Pos} (hX : XOk X C k E) (ha : SE X C E f a) (hb : SE X C E g (.BoolOp .Or (b :: rest) pos)) : SE X C E (orF f g) (.BoolOp .Or (a :: b :: rest) pos) := se_or hX ha hb
theorem q_and1 {f : Fx D} {a : Expr} {pos : Pos} (ha : SE X C E f a) : SE X C E f (.BoolOp .And [a] pos) := pe_one ha
theorem q_or1 {f : Fx D} {a : Expr} {pos : Pos} (ha : SE X C E f a) : SE X C E f (.BoolOp .Or [a] pos) := pe_one ha
theorem q_ite {t f g : Fx D} {c a b : Expr} {pos : Pos} (hc : ST X C E (tst t) c) (ha : SE X C E f a) (hb : SE X C E g b) : SE X C E (iteF t f g) (.IfExp c a b pos) := se_ite hc ha hb
-- tests
theorem t_val {f : Fx D} {e : Expr} (hX : XOk X C k E) (h : SE X C E f e) (he : ∀ whole, isTrue e X.env whole = (do let v ← whole; standAt e.pos; holding [v] (truthy v)) := by exact fun _ => rfl) : ST X C E (tst f) e := st_val hX h he
theorem t_cmp {o : CmpOp} {fa fb : Fx D} {a b : Expr} {pos : Pos} (hX : XOk X C k E) (ha : SE X C E fa a) (hb : SE X C E fb b) (hm : behindInMarks o b = false := by rfl) : ST X C E (tst (cmpF o fa fb)) (.Compare a [o] [b] pos) := st_cmp hX ha hb (os_cmp hX o) hm
theorem t_chn {o1 o2 : CmpOp} {fa fb fc : Fx D} {a b c : Expr} {pos : Pos} (hX : XOk X C k E) (ha : SE X C E fa a) (hb : SE X C E fb b) (hc : SE X C E fc c) (hm : lastMarks [o1, o2] [b, c] = false := by rfl) : ST X C E (tst (chainF o1 o2 fa fb fc)) (.Compare a [o1, o2] [b, c] pos) := st_chain hX ha hb hc hm
theorem t_not {f : Fx D} {a : Expr} {pos : Pos} (ha : ST X C E (tst f) a) : ST X C E (tst (notF f)) (.UnaryOp .Not a pos) := st_not ha
theorem w_and {f g : Fx D} {a b : Expr} {rest : List Expr} {pos : Pos} (ha : ST X C E (tst f) a) (hb : PW X (.BoolOp .And (b :: rest) pos) (tF C rB E (tst g))) : PW X (.BoolOp .And (a :: b :: rest) pos) (tF C rB E (tst (andF f g))) := st_and ha hb
theorem w_or {f g : Fx D} {a b : Expr} {rest : List Expr} {pos : Pos} (ha : ST X C E (tst f) a) (hb : PW X (.BoolOp .Or (b :: rest) pos) (tF C rB E (tst g))) : PW X (.BoolOp .Or (a :: b :: rest) pos) (tF C rB E (tst (orF f g))) := st_or ha hb
theorem w_and1 {f : Fx D} {a : Expr} {pos : Pos} (ha : ST X C E (tst f) a) : PW X (.BoolOp .And [a] pos) (tF C rB E (tst f)) := pw_and1 ha
theorem w_or1 {f : Fx D} {a : Expr} {pos : Pos} (ha : ST X C E (tst f) a) : PW X (.BoolOp .Or [a] pos) (tF C rB E (tst f)) := pw_or1 ha
theorem t_w {f : Fx D} {e : Expr} (h : PW X e (tF C rB E (tst f))) : ST X C E (tst f) e := h.pt
-- lists
theorem a_cons {f : Fx D} {g : Fx (List D)} {e : Expr} {es : List Expr} (he : SE X C E f e) (hs : SA X C E g es) (hst : starEach (e :: es) X.env = (false, eval e X.env) :: starEach es X.env := by rfl) : SA X C E (consF f g) (e :: es) := sa_cons he hs hst
theorem q_tup {f : Fx (List D)} {es : List Expr} {x1 : Nat} {pos : Pos} (h : SA X C E f es) : SE X C E (tupF f) (.Tuple es x1 pos) := se_tup h
theorem q_lst {f : Fx (List D)} {es : List Expr} {mu : Nat} {pos : Pos} (h : SA X C E f es) : SE X C E (lstF mu f) (.List es pos) := se_lst h
theorem q_ix {a i : Expr} {fa fi : Fx D} {pos : Pos} (hX : XOk X C k E) (ha : SE X C E fa a) (hi : SE X C E fi i) (hs : ∀ o j, subscripted i false o j = operate [o, j] (getItem o j) := by exact fun _ _ => rfl) : SE X C E (ixF fa fi) (.Subscript a i pos) := se_ix hX ha hi hs
theorem q_slc {mu : Nat} {a : Expr} {lo hi : Option Expr} {fa : Fx D} {fl fh : Fx (Option Int)} {pos p2 : Pos} (hX : XOk X C k E) (ha : SE X C E fa a) (hl : SO X C E fl lo) (hh : SO X C E fh hi) : SE X C E (slcF mu fa fl fh) (.Subscript a (.Slice lo hi none p2) pos) := se_slc hX ha hl hh
theorem o_none : SO X C E noF none := so_none
theorem o_some {f : Fx D} {e : Expr} (h : SE X C E f e) : SO X C E (partF f) (some e) := so_some h
theorem q_rev {mu : Nat} {e : Expr} {f : Fx D} {kk : Nat} {p1 p2 p3 pos : Pos} (hX : XOk X C k E) (h : SE X C E f e) : SE X C E (revF mu f) (.Subscript e (.Slice none none (some (.UnaryOp .USub (.Constant (.int 1) kk p1) p2)) p3) pos) := se_rev hX h
theorem q_prim {mu : Nat} {p : Prm} {f : Fx (List D)} {x : Str} {p0 pos : Pos} {id : Value} {e : Expr} {es : List Expr} (hc : CallS X C E id (primD mu p)) (hm : X.mg x = none) (ha : SA X C E f (e :: es)) (hid : ∃ n, id = .builtin n ∨ id = .type n := by first | exact ⟨_, Or.inl rfl⟩ | exact ⟨_, Or.inr rfl⟩) (hg : Gl X x := by rfl)
    (hv : bootBuiltins x = some id := by decide +kernel) (hn : x ≠ "__name__" := by decide) (hdb : (x == ("__debug__" : Str)) = false := by decide) (he : starEach (e :: es) X.env = (false, eval e X.env) :: starEach es X.env := by rfl) (hpl : (backTo pos (starEach es X.env)).any (·.1) = false := by rfl) :
    SE X C E (primF mu p f) (.Call (.Name x p0) (e :: es) [] pos) := se_prim hc hid hg hm hv ha hn hdb he hpl
theorem q_isin {t : String} {tn : Str} {f : Fx D} {e : Expr} {p p2 pos : Pos} (hX : XOk X C k E) (he : SE X C E f e) (hm : X.mg "isinstance" = none) (hm2 : X.mg tn = none) (hg : Gl X "isinstance" := by rfl) (hg2 : Gl X tn := by rfl) (hb : bootBuiltins tn = some (.type t) := by decide +kernel) (hn : tn ≠ "__name__" := by decide) (hd : (tn == ("__debug__" : Str)) = false := by decide)
    (hs : starEach [e, .Name tn p2] X.env = (false, eval e X.env) :: starEach [.Name tn p2] X.env := by rfl) (hs2 : starEach [.Name tn p2] X.env = (false, eval (.Name tn p2) X.env) :: starEach [] X.env := by rfl) (hpl : (backTo pos (starEach [.Name tn p2] X.env)).any (·.1) = false := by rfl) :
    SE X C E (isinF t f) (.Call (.Name "isinstance" p) [e, .Name tn p2] [] pos) := se_isin hX he hg hm hg2 hm2 hb hn hd hs hs2 hpl
theorem k_cons {g : Fx D} {h : Fx (List D)} {nm : Option Str} {e : Expr} {kpos : Pos} {kws : List Keyword} (he : SE X C E g e) (hr : SK X C E h kws) : SK X C E (consF g h) (⟨nm, e, kpos⟩ :: kws) := sk_cons he hr
theorem q_call {f : Addr} {fd : FuncData} {Fu : Fn} {fa fk : Fx (List D)} {x : Str} {es : List Expr} {kws : List Keyword} {ks : List Str} {p pos : Pos} (hX : XOk X C k E) (FD : FnD X.prog X.w C X.mg X.base k f fd Fu) (hm : X.mg x = some (.ref f)) (ha : SA X C E fa es) (hk : SK X C E fk kws) (h0 : es = [] → fa = nilF := by intro h; first | rfl | cases h) (hg : Gl X x := by rfl)
    (hp : Plain X es kws ks pos := by exact ⟨fun e r h => by cases h <;> rfl, fun e r h => by cases h <;> rfl, rfl, rfl, rfl⟩) (hdb : (x == ("__debug__" : Str)) = false := by decide) : SE X C E (callF Fu fa ks fk) (.Call (.Name x p) es kws pos) := se_call hX FD hg hm ha h0 hk hp hdb
theorem q_pop {fo : Fx D} {o : Expr} {name : Str} {apos cpos : Pos} (hX : XOk X C k E) (ho : SE X C E fo o) (hn : name = "pop" := by rfl) (hbase : attributeBase o name X.env (eval o X.env) = eval o X.env := by rfl) (hline : (apos.endLine == cpos.line) = true := by rfl) :
    SE X C E (bmF .pop fo nilF) (.Call (.Attribute o name apos) [] [] cpos) := se_bm0 hX ho hn hbase hline
theorem q_bm {m : Bm} {fo : Fx D} {fa : Fx (List D)} {o e : Expr} {es : List Expr} {name : Str} {apos cpos : Pos} (hX : XOk X C k E) (ho : SE X C E fo o) (ha : SA X C E fa (e :: es)) (hn : (name = "append" ∧ m = .append) ∨ (name = "pop" ∧ m = .popAt) := by first | exact Or.inl ⟨rfl, rfl⟩ | exact Or.inr ⟨rfl, rfl⟩) (hbase : attributeBase o name X.env (eval o X.env) = eval o X.env := by rfl)
    (hfew : ((backTo cpos (starEach (e :: es) X.env)).all (fun x => !x.1) && (backToKw cpos (keywordEach [] X.env)).all (fun x => x.1.isSome) && decide ((e :: es).length + ([] : List Keyword).length + (if ([] : List Keyword).isEmpty then 0 else 1) < 30)) = true := by rfl)
    (hline : (apos.endLine == cpos.line) = true := by rfl) (hs : starEach (e :: es) X.env = (false, eval e X.env) :: starEach es X.env := by rfl) (hplain : (backTo cpos (starEach es X.env)).any (·.1) = false := by rfl) :
    SE X C E (bmF m fo fa) (.Call (.Attribute o name apos) (e :: es) [] cpos) := se_bm1 hX ho ha hn hbase hfew hline hs hplain
theorem d_cons {pos : Pos} {ke v : Expr} {kk : Key} {keys : List (Option Expr)} {values : List Expr} {ks : List Key} {f : Fx D} {g : Fx (List D)} (hv : SE X C E f v) (hr : SD X C E pos keys values ks g) (hk : kE ke = some kk := by rfl) :
    SD X C E pos (some ke :: keys) (v :: values) (kk :: ks) (consF f g) := sd_cons hk hv hr
/-- how many items a list's reading has -/
inductive LenF : Fx (List D) → Nat → Prop
  | nil : LenF nilF 0
  | cons {f : Fx D} {g : Fx (List D)} {n : Nat} : LenF g n → LenF (consF f g) (n + 1)
theorem LenF.ok {f : Fx (List D)} {n : Nat} (h : LenF f n) : ∀ ρ st xs st', f ρ st = .ok xs st' → xs.length = n := by
  induction h with
  | nil => intro ρ st xs st' e; cases e; rfl
  | @cons f g n _ ih =>
    intro ρ st xs st' e
    unfold consF at e
    cases z : f ρ st with
    | bad => rw [z] at e; cases e
    | ex c ns us st1 => rw [z] at e; cases e
    | ok d st1 =>
      rw [z] at e
      simp only [R.bind_ok] at e
      cases z2 : g ρ st1 with
      | bad => rw [z2] at e; cases e
      | ex c ns us st2 => rw [z2] at e; cases e
      | ok ds st2 =>
        rw [z2] at e
        simp only [R.bind_ok] at e
        cases e
        rw [List.length_cons, ih _ _ _ _ z2]
theorem q_dct {mu : Nat} {pos : Pos} {keys : List (Option Expr)} {values : List Expr} {ks : List Key} {f : Fx (List D)} (h : SD X C E pos keys values ks f) (hlen : LenF f ks.length) (hall : keys.all (·.isSome) = true := by rfl) (hl : keys.length = values.length := by rfl) (h0 : keys ≠ [] := by exact (fun h => nomatch h)) (h15 : keys.length ≤ 15 := by decide) (hks : ks.length = keys.length := by rfl) (hnd : ks.Nodup := by decide) :
    SE X C E (dctF mu ks f) (.Dict keys values pos) := se_dct h hall hl h0 h15 hks hnd hlen.ok
theorem q_dct0 {mu : Nat} {pos : Pos} : SE X C E (dct0F mu) (.Dict [] [] pos) := se_dct0
-- what is walked
theorem i_walk {f : Fx D} {tg e : Expr} (hX : XOk X C k E) (h : SE X C E f e) : SI X C E (walkF f) tg e := se_walk hX h
theorem i_rng1 {f : Fx (List D)} {tg a : Expr} {p pos : Pos} (hm : X.mg "range" = none) (ha : SA X C E f [a]) (hl : LenF f 1) (hg : Gl X "range" := by rfl) (hs : starEach [a] X.env = [(false, eval a X.env)] := by rfl) : SI X C E (rngF f) tg (.Call (.Name "range" p) [a] [] pos) := si_rng1 hg hm ha hl.ok hs
theorem i_rng2 {f : Fx (List D)} {tg a b : Expr} {p pos : Pos} (hm : X.mg "range" = none) (ha : SA X C E f [a, b]) (hl : LenF f 2) (hg : Gl X "range" := by rfl) (hs : starEach [a, b] X.env = [(false, eval a X.env), (false, eval b X.env)] := by rfl) (hs2 : starEach [b] X.env = [(false, eval b X.env)] := by rfl) : SI X C E (rngF f) tg (.Call (.Name "range" p) [a, b] [] pos) := si_rng2 hg hm ha hl.ok hs hs2
theorem i_rng3 {f : Fx (List D)} {tg a b c : Expr} {p pos : Pos} (hm : X.mg "range" = none) (ha : SA X C E f [a, b, c]) (hl : LenF f 3) (hg : Gl X "range" := by rfl) (hs : starEach [a, b, c] X.env = (false, eval a X.env) :: starEach [b, c] X.env := by rfl) (hpl : (backTo pos (starEach [b, c] X.env)).any (·.1) = false := by rfl) : SI X C E (rngF f) tg (.Call (.Name "range" p) [a, b, c] [] pos) := si_rng3 hg hm ha hl.ok hs hpl
theorem i_zip {f : Fx (List D)} {elts : List Expr} {kk : Nat} {a b : Expr} {p pos tpos : Pos} (hX : XOk X C k E) (hm : X.mg "zip" = none) (ha : SA X C E f [a, b]) (hg : Gl X "zip" := by rfl) (hs : starEach [a, b] X.env = (false, eval a X.env) :: starEach [b] X.env := by rfl) (hpl : (backTo pos (starEach [b] X.env)).any (·.1) = false := by rfl) :
    SI X C E (zipF f) (.Tuple elts kk tpos) (.Call (.Name "zip" p) [a, b] [] pos) := si_zip hX hg hm ha hs hpl
-- targets
theorem g_name (i : Nat) {x : Str} {pos : Pos} (hX : XOk X C k E) (hi : X.N[i]? = some x := by rfl) (hx : Loc X.env.scope x := by first | exact Or.inl rfl | exact Or.inr rfl) (hf : X.fn x = true ∨ X.env.scope.names.lookup x = some .local := by first | exact Or.inr rfl | exact Or.inl rfl) : PG X (.Name x pos) (tTg C (.name i)) := sg_name hX.nd hi hx hf
theorem g_cons {e : Expr} {es : List Expr} {t : Tg} {ts : List Tg} (h1 : PG X e (tTg C t)) (h2 : PGs X es (tTgs C ts)) (hs : (assignEach (e :: es) X.env).map (·.2) = assign e X.env :: (assignEach es X.env).map (·.2) := by rfl) : PGs X (e :: es) (tTgs C (t :: ts)) := sgs_cons h1 h2 hs
theorem g_tup {es : List Expr} {kk : Nat} {ts : List Tg} {pos : Pos} (hX : XOk X C k E) (h : PGs X es (tTgs C ts)) (hn : (assignEach es X.env).length = ts.length := by rfl) (hst : (assignEach es X.env).findIdx? (·.1) = none := by rfl) : PG X (.Tuple es kk pos) (tTg C (.tup ts)) := sg_tup hX h hn hst
-- comprehensions
theorem ts_one {ft : Fx D} {c : Expr} (h : ST X C E (tst ft) c) : PTs X [c] (tF C rB E (tst ft)) := pts_one h
theorem q_comp {mu : Nat} {own : List (Str × Nat)} {tg : Tg} {fi : Fx Walk} {ft fe : Fx D} {elt te iter : Expr} {ifs : List Expr} {scope : Scope} {pos : Pos} (hX : XOk X C k E) (hi : SI X C E fi te iter)
    (hg : ∀ (s : Shared) (H : Hp) (A : Addr) (cl : List (Str × Addr)) (fp : List Addr), XOk (X.blk s H scope (compEnvC scope cl A X.env) fp) C k EF → PG (X.blk s H scope (compEnvC scope cl A X.env) fp) te (tTg C tg))
    (ht : ∀ (s : Shared) (H : Hp) (A : Addr) (cl : List (Str × Addr)) (fp : List Addr), XOk (X.blk s H scope (compEnvC scope cl A X.env) fp) C k EF → PTs (X.blk s H scope (compEnvC scope cl A X.env) fp) ifs (tF C rB EF (tst ft)))
    (he : ∀ (s : Shared) (H : Hp) (A : Addr) (cl : List (Str × Addr)) (fp : List Addr), XOk (X.blk s H scope (compEnvC scope cl A X.env) fp) C k EF → SE (X.blk s H scope (compEnvC scope cl A X.env) fp) C EF fe elt)
    (ok : blkC X.N X.env.scope scope own = true := by first | rfl | decide +kernel) (hv : ∀ i ∈ slotsT tg, i ∈ own.map (·.2) := by decide) (hs : ∀ x, foldedSetIterable iter X.env x = pure x := by exact fun _ => rfl) :
    SE X C E (compF mu (own.map (·.2)) tg fi ft fe) (.ListComp elt [⟨te, iter, ifs, 0⟩] scope pos) :=
  se_comp hX hi (blkOk_by ok) (fun s H A cl fp => hg s H A cl fp (xok_blk hX s H scope _ fp)) (fun s H A cl fp => ht s H A cl fp (xok_blk hX s H scope _ fp)) (fun s H A cl fp => he s H A cl fp (xok_blk hX s H scope _ fp)) hv hs
-- statements
theorem s_ret {f : Fx D} {e : Expr} {pos : Pos} (he : SE X C E f e) : SS X C E (retF f) (.Return (some e) pos) := ss_ret he
theorem s_exp {f : Fx D} {e : Expr} {pos : Pos} (he : SE X C E f e) (hs : swapsWith e none pos.line X.env = pure false := by rfl) : SS X C E (expF f) (.Expr e pos) := ss_exp he hs
theorem s_asg {f : Fx D} {t : Tg} {tg e : Expr} {pos : Pos} (he : SE X C E f e) (hg : PG X tg (tTg C t)) (hs : swapsWithSole [tg] e pos.line X.env = pure false := by rfl) (hw : swappedStores [tg] e X.env = pure none := by rfl) (h1 : (assignEach [tg] X.env).map (·.2) = [assign tg X.env] := by rfl) :
    SS X C E (asgF t f) (.Assign [tg] e pos) := ss_asg he hg hs hw h1
theorem s_lc {mu i : Nat} {y : Str} {py : Pos} {own : List (Str × Nat)} {tg : Tg} {fi : Fx Walk} {ft fe : Fx D} {elt te iter : Expr} {ifs : List Expr} {scope : Scope} {pos spos : Pos} (hX : XOk X C k E) (hi : SI X C E fi te iter)
    (hg : ∀ (s : Shared) (H : Hp) (A : Addr) (cl : List (Str × Addr)) (fp : List Addr), XOk (X.blk s H scope (compEnvC scope cl A X.env) fp) C k EF → PG (X.blk s H scope (compEnvC scope cl A X.env) fp) te (tTg C tg))
    (ht : ∀ (s : Shared) (H : Hp) (A : Addr) (cl : List (Str × Addr)) (fp : List Addr), XOk (X.blk s H scope (compEnvC scope cl A X.env) fp) C k EF → PTs (X.blk s H scope (compEnvC scope cl A X.env) fp) ifs (tF C rB EF (tst ft)))
    (he : ∀ (s : Shared) (H : Hp) (A : Addr) (cl : List (Str × Addr)) (fp : List Addr), XOk (X.blk s H scope (compEnvC scope cl A X.env) fp) C k EF → SE (X.blk s H scope (compEnvC scope cl A X.env) fp) C EF fe elt)
    (hy : X.N[i]? = some y := by rfl) (hyl : X.env.scope.names.lookup y = some .local := by rfl) (hsw : swapsWith (.ListComp elt [⟨te, iter, ifs, 0⟩] scope pos) (some (.Name y py)) spos.line X.env = pure true := by rfl)
    (ok : blkC X.N X.env.scope scope own = true := by first | rfl | decide +kernel) (hv : ∀ i ∈ slotsT tg, i ∈ own.map (·.2) := by decide) (hs : ∀ x, foldedSetIterable iter X.env x = pure x := by exact fun _ => rfl) :
    SS X C E (asgF (.name i) (compF mu (own.map (·.2)) tg fi ft fe)) (.Assign [.Name y py] (.ListComp elt [⟨te, iter, ifs, 0⟩] scope pos) spos) :=
  ss_asgLc hX hy hyl hsw hi (blkOk_by ok) (fun s H A cl fp => hg s H A cl fp (xok_blk hX s H scope _ fp)) (fun s H A cl fp => ht s H A cl fp (xok_blk hX s H scope _ fp)) (fun s H A cl fp => he s H A cl fp (xok_blk hX s H scope _ fp)) hv hs
theorem s_par {i j : Nat} {x y : Str} {a b : Expr} {f : Fx (List D)} {px py pt pos pt2 : Pos} {kt k2 : Nat} (hX : XOk X C k E) (ha : SA X C E f [a, b]) (hi : X.N[i]? = some x := by rfl) (hj : X.N[j]? = some y := by rfl) (hij : i ≠ j := by decide)
    (hx : X.env.scope.names.lookup x = some .local := by rfl) (hy : X.env.scope.names.lookup y = some .local := by rfl)
    (hw : swappedStores [.Tuple [.Name x px, .Name y py] kt pt] (.Tuple [a, b] k2 pt2) X.env = pure (some [x, y]) := by rfl)
    (hs : swapsWithSole [.Tuple [.Name x px, .Name y py] kt pt] (.Tuple [a, b] k2 pt2) pos.line X.env = pure false := by rfl) :
    SS X C E (parF i j f) (.Assign [.Tuple [.Name x px, .Name y py] kt pt] (.Tuple [a, b] k2 pt2) pos) := ss_par hX hi hj hij hx hy ha hw hs
theorem s_for {tg : Tg} {fi : Fx Walk} {fb : FS} {te iter : Expr} {body : List Stmt} {pos : Pos} (hX : XOk X C k E) (hp : PassesOwn (model X.prog X.w) X.A X.env X.xe) (hi : SI X C E fi te iter) (hg : PG X te (tTg C tg)) (hb : SSs X C E fb body)
    (hs : ∀ x, foldedSetIterable iter X.env x = pure x := by exact fun _ => rfl) : SS X C E (forF tg fi fb) (.For te iter body [] pos) := ss_for hX hp hi hg hb hs
theorem s_setI {fo fi fv : Fx D} {o i e : Expr} {pos' pos : Pos} (hX : XOk X C k E) (ho : SE X C E fo o) (hi : SE X C E fi i) (hv : SE X C E fv e) (hs : swapsWith e (some (.Subscript o i pos')) pos.line X.env = pure false := by rfl) :
    SS X C E (setIF fo fi fv) (.Assign [.Subscript o i pos'] e pos) := ss_setI hX ho hi hv hs
end
end Px

/-! Px19: the law's end, the written part found by the head. -/
namespace Px
open PySem PySem.Spec PyProof.Rows L2
theorem walk_ofE {l : PySem.W.OpenLaw} {n k : Nat} {q : Program} {loose : List Str} {XP : (Str → Option Value) → Heap → Prop} {YP : World → Heap → Prop} {d : DefRec} {x : Str} {Fu : Fn}
    (hn : l.most = some n) (hn2 : n ≤ sizeLine) (hdf : d.params.defaults = []) (hr : Room k callerA) (hps : Fu.ps = [x]) (him : importsNone q = true)
    (F : ∀ (w : World) (mg : Str → Option Value) (fa : Addr) (h : Heap), YP w h → h.Ns mainGlobals mg → mg d.name = some (.ref fa) →
      ∃ C : Kc, C.K.In h ∧ ∃ fd : FuncData, (∀ (s : Shared) (u : Value), BindsTo s fd ⟨[u], []⟩ [(x, u)]) ∧
        ∀ base : Heap, C.K.In base → base.Ns mainGlobals mg → (∃ o, base.get? sysModules = some o) → FnD l.prog w C mg base k fa fd Fu)
    (hsp : ∀ ns : List Int, ns.length ≤ n → ∃ st', Fu.run [.lck (ns.map .int)] [] = .ok (.bl true) st') :
    PySem.W.WalkO q loose XP YP l.row.toRowW d [] (fun f vs => PySem.call f vs) := by
  refine Att.attach_call hn hdf fun w s₀ s₁ mg mb fa o pm cd doc a vs ns G Y ho hd hcd hmg hobj hints hlen hg => ?_
  obtain ⟨C, KX, fd, hb, hF⟩ := F w mg fa _ Y G.T.g hmg
  exact law_callD KX G.T.g G.T.b G.T.builtins G.T.nolimit (let ⟨mm, h, _⟩ := (G.T.seer him).mods; ⟨mm, h⟩) hg hobj hints (Nat.le_trans hlen hn2) hr hps hF hb (hsp ns hlen)
/-- the law's own def, from its rule over every base -/
theorem law_fn {fa : List He.Fa} {dn : List He.DefD} {cs : List (Str × D)} {P : Program} {w : World} {C : Kc} {mg : Str → Option Value} {h : Heap} {f : Addr} {Fu : Fn} {k : Nat} {x : Str} {st : Stmt}
    (T0 : ∀ base : Heap, C.K.In base → base.Ns mainGlobals mg → (∃ o, base.get? sysModules = some o) → Tp fa dn cs C mg base) (KX : C.K.In h) (G : h.Ns mainGlobals mg) (hmg : mg "law" = some (.ref f)) (c : SaysP fa dn cs C.K) (gi li : Nat)
    (hgi : fa[gi]? = some (.glo "law")) (hli : dn[li]? = some (dOf st "law"))
    (hb : ∀ (u kV doc pm : Value) (an : Option Addr) (cdv ct : Value), bindArgs (PySem.W.fnOf "law" "law" (defArgs st) (defBody st) (defScope st) .none kV doc pm an cdv ct) ⟨[u], []⟩ = pure [(x, u)])
    (hF : ∀ base : Heap, Tp fa dn cs C mg base → ∃ fd, Has C.K (He.ga C.K "law") fd ∧ FnD P w C mg base k (He.ga C.K "law") fd Fu) :
    ∃ fd : FuncData, (∀ (s : Shared) (u : Value), BindsTo s fd ⟨[u], []⟩ [(x, u)]) ∧ ∀ base : Heap, C.K.In base → base.Ns mainGlobals mg → (∃ o, base.get? sysModules = some o) → FnD P w C mg base k f fd Fu := by
  obtain ⟨fd, F⟩ := c.fun_ li hli
  have e0 : mg "law" = some (.ref (He.ga C.K "law")) := by
    have c1 := congrArg (fun z : AlP => z.1) c
    have c1 : ((fa.all fun f => f.ok C.K) && ((dn.all fun d => d.ok C.K) && cs.all fun c => cstB C.K c.1 c.2)) = true := c1
    rw [Bool.and_eq_true] at c1
    exact He.glo_ok KX G (List.all_eq_true.mp c1.1 _ (List.mem_of_getElem? hgi))
  have e := hmg.symm.trans e0
  cases e
  have hh := fun_has F
  refine ⟨fd, fun s u => ?_, fun base h1 h2 h3 => ?_⟩
  · obtain ⟨oc, od, kV, doc, pm, an, cdv, ct, osl, rfl, _, _⟩ := F.ex
    exact .of_eq (hb u kV doc pm an cdv ct)
  · obtain ⟨fd', h4, h5⟩ := hF base (T0 base h1 h2 h3)
    cases hh.eq h4
    exact h5
end Px

/-! Px20: what a run gives: the plain side. -/
namespace Px
open PySem PySem.Spec PyProof.Rows L2
abbrev XQ := Str → List Str → List D → Store → Prop
def W {α : Type} (r : R α) (Q : α → Store → Prop) (X : XQ) : Prop := match r with
  | .ok a st => Q a st
  | .ex c ns us st => X c ns us st
  | .bad => False
abbrev noX : XQ := fun _ _ _ _ => False
section
variable {α β : Type} {X : XQ}
@[simp] theorem W_ok {a : α} {st : Store} {Q : α → Store → Prop} : W (.ok a st) Q X ↔ Q a st := Iff.rfl
@[simp] theorem W_ex {c : Str} {ns : List Str} {us : List D} {st : Store} {Q : α → Store → Prop} : W (.ex c ns us st) Q X ↔ X c ns us st := Iff.rfl
@[simp] theorem W_bad {Q : α → Store → Prop} : W (.bad) Q X ↔ False := Iff.rfl
@[simp] theorem W_bind {r : R α} {f : α → Store → R β} {Q : β → Store → Prop} : W (r.bind f) Q X ↔ W r (fun a st => W (f a st) Q X) X := by cases r <;> exact Iff.rfl
theorem W.mono {r : R α} {Q Q' : α → Store → Prop} {X X' : XQ} (h : W r Q X) (k : ∀ a st, Q a st → Q' a st) (kx : ∀ c ns us st, X c ns us st → X' c ns us st) : W r Q' X' := by
  cases r with
  | ok a st => exact k a st h
  | ex c ns us st => exact kx c ns us st h
  | bad => exact h
theorem W.go {r : R α} {Q Q' : α → Store → Prop} (h : W r Q noX) (k : ∀ a st, Q a st → Q' a st) : W r Q' X := h.mono k fun _ _ _ _ z => z.elim
theorem W.ok {r : R α} {Q : α → Store → Prop} (h : W r Q noX) : ∃ a st, r = .ok a st ∧ Q a st := by
  cases r with
  | ok a st => exact ⟨a, st, rfl, h⟩
  | ex c ns us st => exact h.elim
  | bad => exact h.elim
theorem W_iff_ok {r : R α} {a : α} {st : Store} {Q : α → Store → Prop} (e : r = .ok a st) : W r Q X ↔ Q a st := by rw [e]; exact Iff.rfl
@[simp] theorem W_ofO {o : Option α} {st : Store} {Q : α → Store → Prop} : W (ofO o st) Q X ↔ ∃ a, o = some a ∧ Q a st := by
  cases o with
  | none => simp [ofO]
  | some a => simp [ofO]
@[simp] theorem W_noEx {r : R α} {Q : α → Store → Prop} : W (noEx r) Q X ↔ W r Q noX := by cases r <;> exact Iff.rfl
/-! ### expressions -/
variable {ρ : Env} {st : Store} {Q : D → Store → Prop} {QL : List D → Store → Prop} {P : F → Store → Prop}
@[simp] theorem W_var {i : Nat} : W (varD i ρ st) Q X ↔ ∃ d, ρ[i]? = some (some d) ∧ Q d st := by
  unfold varD
  cases e : ρ[i]? with
  | none => simp
  | some o => cases o <;> simp
@[simp] theorem W_con {d : D} : W (conF d ρ st) Q X ↔ Q d st := Iff.rfl
@[simp] theorem W_nilF : W (nilF ρ st) QL X ↔ QL [] st := Iff.rfl
@[simp] theorem W_consF {f : Fx D} {g : Fx (List D)} : W (consF f g ρ st) QL X ↔ W (f ρ st) (fun x st1 => W (g ρ st1) (fun xs st2 => QL (x :: xs) st2) X) X := by unfold consF; simp
@[simp] theorem W_bin {mu : Nat} {o : Operator} {fa fb : Fx D} : W (binF mu o fa fb ρ st) Q X ↔ W (fa ρ st) (fun x st1 => W (fb ρ st1) (fun y st2 => W (binD mu o x y st2) Q X) X) X := by unfold binF; simp
@[simp] theorem W_cmp {o : CmpOp} {fa fb : Fx D} : W (cmpF o fa fb ρ st) Q X ↔ W (fa ρ st) (fun x st1 => W (fb ρ st1) (fun y st2 => W (cmpD o x y st2) Q X) X) X := by unfold cmpF; simp
@[simp] theorem W_neg {f : Fx D} : W (negF f ρ st) Q X ↔ W (f ρ st) (fun x st1 => ∃ i, x = .int i ∧ Q (.int (-i)) st1) X := by
  unfold negF; simp only [W_bind]
  cases f ρ st with
  | ok d st1 => simp only [W_ok]; cases d <;> simp
  | ex c ns us st => simp
  | bad => simp
@[simp] theorem W_tup {f : Fx (List D)} : W (tupF f ρ st) Q X ↔ W (f ρ st) (fun xs st1 => xs.length ≤ lim ∧ Q (.tup xs) st1) X := by
  unfold tupF mkT; simp only [W_bind]
  cases f ρ st with
  | ok d st1 =>
    simp only [W_ok]
    by_cases z : d.length ≤ lim
    · simp [z]
    · simp [z]
  | ex c ns us st => simp
  | bad => simp
theorem W_mkL {mu : Nat} {xs : List D} : W (mkL mu xs st) Q X ↔ xs.length ≤ lim ∧ if mu = 0 then Q (.lst xs) st else Q (.cell st.length) (st ++ [.lst xs]) := by
  unfold mkL
  by_cases z : xs.length ≤ lim
  · by_cases y : mu = 0
    · simp [z, y]
    · simp [z, y]
  · simp [z]
@[simp] theorem W_mkL0 {xs : List D} : W (mkL 0 xs st) Q X ↔ xs.length ≤ lim ∧ Q (.lst xs) st := by rw [W_mkL]; simp
@[simp] theorem W_mkL1 {xs : List D} : W (mkL 1 xs st) Q X ↔ xs.length ≤ lim ∧ Q (.cell st.length) (st ++ [.lst xs]) := by rw [W_mkL]; simp
@[simp] theorem W_mkT {xs : List D} : W (mkT xs st) Q X ↔ xs.length ≤ lim ∧ Q (.tup xs) st := by
  unfold mkT
  by_cases z : xs.length ≤ lim
  · simp [z]
  · simp [z]
@[simp] theorem W_lst {mu : Nat} {f : Fx (List D)} : W (lstF mu f ρ st) Q X ↔ W (f ρ st) (fun xs st1 => W (mkL mu xs st1) Q X) X := by unfold lstF; simp
@[simp] theorem W_ix {fa fi : Fx D} : W (ixF fa fi ρ st) Q X ↔ W (fa ρ st) (fun x st1 => W (fi ρ st1) (fun y st2 => W (ixD x y st2) Q X) X) X := by unfold ixF; simp
@[simp] theorem W_rev {mu : Nat} {f : Fx D} : W (revF mu f ρ st) Q X ↔ W (f ρ st) (fun x st1 => W (revD mu x st1) Q X) X := by unfold revF; simp
@[simp] theorem W_prim {mu : Nat} {p : Prm} {f : Fx (List D)} : W (primF mu p f ρ st) Q X ↔ W (f ρ st) (fun as st1 => W (primD mu p as st1) Q X) X := by unfold primF; simp
@[simp] theorem W_noF {Q : Option Int → Store → Prop} : W (noF ρ st) Q X ↔ Q none st := Iff.rfl
@[simp] theorem W_part {f : Fx D} {Q : Option Int → Store → Prop} : W (partF f ρ st) Q X ↔ W (f ρ st) (fun x st1 => ∃ i, x = .int i ∧ Q (some i) st1) X := by
  unfold partF; simp only [W_bind]
  cases f ρ st with
  | ok d st1 => simp only [W_ok]; cases d <;> simp
  | ex c ns us st => simp
  | bad => simp
@[simp] theorem W_slc {mu : Nat} {fa : Fx D} {fl fh : Fx (Option Int)} : W (slcF mu fa fl fh ρ st) Q X ↔ W (fa ρ st) (fun x st1 => W (fl ρ st1) (fun l st2 => W (fh ρ st2) (fun h st3 => W (slcD mu x l h st3) Q X) X) X) X := by unfold slcF; simp
theorem W_tr {f : Fx D} {g : Bool → D → Store → R β} {Q : β → Store → Prop} : W ((f ρ st).bind fun x st1 => match truth st1 x with | some b => g b x st1 | none => .bad) Q X ↔ W (f ρ st) (fun x st1 => ∃ b, truth st1 x = some b ∧ W (g b x st1) Q X) X := by
  simp only [W_bind]
  cases f ρ st with
  | ok d st1 => simp only [W_ok]; cases truth st1 d <;> simp
  | ex c ns us st => simp
  | bad => simp
@[simp] theorem W_and {f g : Fx D} : W (andF f g ρ st) Q X ↔ W (f ρ st) (fun x st1 => ∃ b, truth st1 x = some b ∧ if b then W (g ρ st1) Q X else Q x st1) X := by
  unfold andF; simp only [W_bind]
  cases f ρ st with
  | ok d st1 => simp only [W_ok]; cases truth st1 d with
    | none => simp
    | some b => cases b <;> simp
  | ex c ns us st => simp
  | bad => simp
@[simp] theorem W_or {f g : Fx D} : W (orF f g ρ st) Q X ↔ W (f ρ st) (fun x st1 => ∃ b, truth st1 x = some b ∧ if b then Q x st1 else W (g ρ st1) Q X) X := by
  unfold orF; simp only [W_bind]
  cases f ρ st with
  | ok d st1 => simp only [W_ok]; cases truth st1 d with
    | none => simp
    | some b => cases b <;> simp
  | ex c ns us st => simp
  | bad => simp
@[simp] theorem W_ite {t f g : Fx D} : W (iteF t f g ρ st) Q X ↔ W (t ρ st) (fun x st1 => ∃ b, truth st1 x = some b ∧ if b then W (f ρ st1) Q X else W (g ρ st1) Q X) X := by
  unfold iteF; simp only [W_bind]
  cases t ρ st with
  | ok d st1 => simp only [W_ok]; cases truth st1 d with
    | none => simp
    | some b => cases b <;> simp
  | ex c ns us st => simp
  | bad => simp
@[simp] theorem W_not {f : Fx D} : W (notF f ρ st) Q X ↔ W (f ρ st) (fun x st1 => ∃ b, truth st1 x = some b ∧ Q (.bl (!b)) st1) X := by
  unfold notF; simp only [W_bind]
  cases f ρ st with
  | ok d st1 => simp only [W_ok]; cases truth st1 d <;> simp [ofO]
  | ex c ns us st => simp
  | bad => simp
@[simp] theorem W_tst {f : Fx D} {Q : Bool → Store → Prop} : W (tst f ρ st) Q X ↔ W (f ρ st) (fun x st1 => ∃ b, truth st1 x = some b ∧ Q b st1) X := by unfold tst; simp
@[simp] theorem W_chn {o1 o2 : CmpOp} {fa fb fc : Fx D} : W (chainF o1 o2 fa fb fc ρ st) Q X ↔ W (fa ρ st) (fun x st1 => W (fb ρ st1) (fun y st2 => W (cmpD o1 x y st2) (fun r st3 => ∃ b, r = .bl b ∧ if b then W (fc ρ st3) (fun z st4 => W (cmpD o2 y z st4) Q X) X else Q (.bl false) st3) X) X) X := by
  unfold chainF
  cases fa ρ st with
  | ok x st1 =>
    simp only [R.bind_ok, W_ok]
    cases fb ρ st1 with
    | ok y st2 =>
      simp only [R.bind_ok, W_ok]
      cases cmpD o1 x y st2 with
      | ok d st1 => simp only [R.bind_ok, W_ok]; cases d with
        | bl b => cases b <;> simp
        | _ => simp
      | ex c ns us st => simp
      | bad => simp
    | ex c ns us st => simp
    | bad => simp
  | ex c ns us st => simp
  | bad => simp
@[simp] theorem W_isin {t : String} {f : Fx D} : W (isinF t f ρ st) Q X ↔ W (f ρ st) (fun x st1 => ∃ n, tyOf st1 x = some (.b n) ∧ tyNames.contains t = true ∧ Q (.bl (n == t || (n == "bool" && t == "int"))) st1) X := by
  unfold isinF; simp only [W_bind]
  cases f ρ st with
  | ok d st1 =>
    simp only [W_ok]
    cases tyOf st1 d with
    | none => simp
    | some ty => cases ty with
      | b n => by_cases z : tyNames.contains t = true <;> simp_all
      | c x => simp
  | ex c ns us st => simp
  | bad => simp
@[simp] theorem W_call {F : Fn} {fa fk : Fx (List D)} {ks : List Str} : W (callF F fa ks fk ρ st) Q X ↔ W (fa ρ st) (fun xs st1 => W (fk ρ st1) (fun us st2 => ∃ vs, F.bind xs ks us = some vs ∧ W (F.run vs st2) Q X) X) X := by
  unfold callF
  cases fa ρ st with
  | ok xs st1 =>
    simp only [R.bind_ok, W_ok]
    cases fk ρ st1 with
    | ok us st2 => simp only [R.bind_ok, W_ok]; cases F.bind xs ks us <;> simp
    | ex c ns us st => simp
    | bad => simp
  | ex c ns us st => simp
  | bad => simp
@[simp] theorem W_bm {m : Bm} {fo : Fx D} {fa : Fx (List D)} : W (bmF m fo fa ρ st) Q X ↔ W (fo ρ st) (fun x st1 => (lstOf st1 x).isSome = true ∧ W (fa ρ st1) (fun xs st2 => W (bmeth m x xs st2) Q X) X) X := by
  unfold bmF; simp only [W_bind]
  cases fo ρ st with
  | ok d st1 => simp only [W_ok]; cases lstOf st1 d <;> simp
  | ex c ns us st => simp
  | bad => simp
@[simp] theorem W_dct {mu : Nat} {ks : List Key} {f : Fx (List D)} : W (dctF mu ks f ρ st) Q X ↔ W (f ρ st) (fun xs st1 => if mu = 0 then Q (.dct (ks.map kD) xs) st1 else Q (.cell st1.length) (st1 ++ [.dct (ks.map kD) xs])) X := by
  unfold dctF; simp only [W_bind]
  cases f ρ st with
  | ok d st1 => simp only [W_ok]; split <;> simp
  | ex c ns us st => simp
  | bad => simp
@[simp] theorem W_dct0 {mu : Nat} : W (dct0F mu ρ st) Q X ↔ if mu = 0 then Q (.dct [] []) st else Q (.cell st.length) (st ++ [.dct [] []]) := by
  unfold dct0F; split <;> simp
/-! ### what is walked -/
variable {QW : Walk → Store → Prop}
@[simp] theorem W_walk {f : Fx D} : W (walkF f ρ st) QW X ↔ W (f ρ st) (fun x st1 => ∃ w, walkOf x st1 = some w ∧ QW w st1) X := by unfold walkF; simp
@[simp] theorem W_rng {f : Fx (List D)} : W (rngF f ρ st) QW X ↔ W (f ρ st) (fun xs st1 => ∃ l, rngOf xs = some l ∧ QW (l, none) st1) X := by
  unfold rngF; simp only [W_bind]
  cases f ρ st with
  | ok xs st1 => simp only [W_ok]; cases rngOf xs <;> simp [ofO]
  | ex c ns us st => simp
  | bad => simp
@[simp] theorem W_zip {f : Fx (List D)} : W (zipF f ρ st) QW X ↔ W (f ρ st) (fun xs st1 => ∃ l, zipOf xs = some l ∧ QW l st1) X := by
  unfold zipF; simp
open Classical in
theorem W_comp {mu : Nat} {vs : List Nat} {tg : Tg} {it : Fx Walk} {t el : Fx D} : W (compF mu vs tg it t el ρ st) Q X ↔ W (it ρ st) (fun w st1 => w.1.length ≤ lim ∧ W (compLoop tg t el w.2 (wipeE ρ vs) w.1 [] st1) (fun acc st2 => W (mkL mu acc st2) Q X) X) X := by
  unfold compF; simp only [W_bind]
  cases it ρ st with
  | ok w st1 =>
    simp only [W_ok]
    by_cases z : w.1.length ≤ lim
    · simp [z]
    · simp [z]
  | ex c ns us st => simp
  | bad => simp
open Classical in
/-- a comprehension without a test, item by item -/
theorem W_compAll {tg : Tg} {el : Fx D} {ρ' : Env} {g : Option (Nat × List D)} {Q : List D → Store → Prop} (I : List D → Store → Prop) : ∀ (xs acc : List D) (st : Store), I acc st → (∀ acc x st, x ∈ xs → I acc st → guardOk st g → ∃ ρ1, setT tg x ρ' = some ρ1 ∧ W (el ρ1 st) (fun d st2 => guardOk st2 g ∧ I (acc ++ [d]) st2) noX) → guardOk st g →
    (∀ acc' st', I acc' st' → guardOk st' g → acc'.length = acc.length + xs.length → Q acc' st') → W (compLoop tg (fun _ st => .ok (.bl true) st) el g ρ' xs acc st) Q X
  | [], acc, st, h, _, hg, k => by
    rw [compLoop]
    exact k acc st h hg rfl
  | x :: xs, acc, st, h, hs, hg, k => by
    obtain ⟨ρ1, e1, h1⟩ := hs acc x st List.mem_cons_self h hg
    rw [compLoop, e1]
    show W (R.bind (noEx (el ρ1 st)) _) Q X
    rw [W_bind, W_noEx]
    refine h1.go fun d st2 ⟨hg2, h2⟩ => ?_
    rw [if_pos hg2]
    exact W_compAll I xs (acc ++ [d]) st2 h2 (fun acc x st hx => hs acc x st (List.mem_cons_of_mem _ hx)) hg2 fun acc' st' h' g' hl => k acc' st' h' g' (by rw [hl]; simp; omega)
open Classical in
/-- a comprehension of pure tests and items -/
theorem W_compP {tg : Tg} {t el : Fx D} {ρ' : Env} {Q : List D → Store → Prop} (p : D → Bool) (f : D → D) : ∀ (xs acc : List D) (st : Store), (∀ x ∈ xs, ∃ ρ1, setT tg x ρ' = some ρ1 ∧ t ρ1 st = .ok (.bl (p x)) st ∧ (p x = true → el ρ1 st = .ok (f x) st)) → Q (acc ++ (xs.filter p).map f) st →
    W (compLoop tg t el none ρ' xs acc st) Q X
  | [], acc, st, _, k => by
    rw [compLoop]
    simpa using k
  | x :: xs, acc, st, hs, k => by
    obtain ⟨ρ1, e1, h1, h2⟩ := hs x List.mem_cons_self
    rw [compLoop, e1]
    show W (R.bind (noEx (t ρ1 st)) _) Q X
    rw [h1]
    show W (match truth st (.bl (p x)) with | some true => _ | some false => _ | none => _) Q X
    have ht : truth st (.bl (p x)) = some (p x) := rfl
    rw [ht]
    cases e : p x with
    | true =>
      show W (R.bind (noEx (el ρ1 st)) _) Q X
      rw [h2 e]
      show W (if guardOk st none then _ else _) Q X
      rw [if_pos (show guardOk st none from True.intro)]
      refine W_compP p f xs _ st (fun y hy => hs y (List.mem_cons_of_mem _ hy)) ?_
      rw [List.filter_cons, if_pos e] at k
      simpa using k
    | false =>
      show W (if guardOk st none then _ else _) Q X
      rw [if_pos (show guardOk st none from True.intro)]
      refine W_compP p f xs _ st (fun y hy => hs y (List.mem_cons_of_mem _ hy)) ?_
      rw [List.filter_cons, if_neg (by rw [e]; exact Bool.false_ne_true)] at k
      exact k
/-! ### statements -/
@[simp] theorem W_runE {f : Fx α} {g : α → Env → Store → R F} : W (runE f g ρ st) P X ↔ W (f ρ st) (fun a st1 => W (g a ρ st1) P X) (fun c ns us st1 => P (.xc c ns us ρ) st1) := by
  unfold runE
  cases f ρ st <;> simp
@[simp] theorem W_nilS : W (nilS ρ st) P X ↔ P (.nx ρ) st := Iff.rfl
def onNx (fl : F) (st : Store) (k : Env → Store → Prop) (P : F → Store → Prop) : Prop := match fl with
  | .nx ρ1 => k ρ1 st
  | x => P x st
@[simp] theorem onNx_nx {ρ : Env} {k : Env → Store → Prop} : onNx (.nx ρ) st k P ↔ k ρ st := Iff.rfl
@[simp] theorem onNx_rt {d : D} {k : Env → Store → Prop} : onNx (.rt d) st k P ↔ P (.rt d) st := Iff.rfl
@[simp] theorem onNx_bk {ρ : Env} {k : Env → Store → Prop} : onNx (.bk ρ) st k P ↔ P (.bk ρ) st := Iff.rfl
@[simp] theorem onNx_ct {ρ : Env} {k : Env → Store → Prop} : onNx (.ct ρ) st k P ↔ P (.ct ρ) st := Iff.rfl
@[simp] theorem onNx_xc {c : Str} {ns : List Str} {us : List D} {ρ : Env} {k : Env → Store → Prop} : onNx (.xc c ns us ρ) st k P ↔ P (.xc c ns us ρ) st := Iff.rfl
@[simp] theorem W_seq {f g : FS} : W (seqF f g ρ st) P X ↔ W (f ρ st) (fun fl st1 => onNx fl st1 (fun ρ1 st1 => W (g ρ1 st1) P X) P) X := by
  unfold seqF; simp only [W_bind]
  cases f ρ st with
  | ok fl st1 => simp only [W_ok]; cases fl <;> exact Iff.rfl
  | ex c ns us st => simp
  | bad => simp
@[simp] theorem W_ret {f : Fx D} : W (retF f ρ st) P X ↔ W (f ρ st) (fun d st1 => P (.rt d) st1) (fun c ns us st1 => P (.xc c ns us ρ) st1) := by unfold retF; simp
@[simp] theorem W_retN : W (retNF ρ st) P X ↔ P (.rt .non) st := Iff.rfl
@[simp] theorem W_exp {f : Fx D} : W (expF f ρ st) P X ↔ W (f ρ st) (fun d st1 => P (.nx ρ) st1) (fun c ns us st1 => P (.xc c ns us ρ) st1) := by unfold expF; simp
@[simp] theorem W_brk : W (brkF ρ st) P X ↔ P (.bk ρ) st := Iff.rfl
@[simp] theorem W_cnt : W (cntF ρ st) P X ↔ P (.ct ρ) st := Iff.rfl
@[simp] theorem W_ifS {t : Fx D} {a b : FS} : W (ifS t a b ρ st) P X ↔ W (t ρ st) (fun x st1 => ∃ c, truth st1 x = some c ∧ if c then W (a ρ st1) P X else W (b ρ st1) P X) (fun c ns us st1 => P (.xc c ns us ρ) st1) := by
  unfold ifS
  rw [W_runE, W_tst]
  have : ∀ (c : Bool) (st1 : Store), W (if c = true then a ρ st1 else b ρ st1) P X ↔ (if c = true then W (a ρ st1) P X else W (b ρ st1) P X) := by
    intro c st1
    cases c <;> exact Iff.rfl
  simp only [this]
@[simp] theorem W_asg {t : Tg} {f : Fx D} : W (asgF t f ρ st) P X ↔ W (f ρ st) (fun d st1 => ∃ ρ', setT t d ρ = some ρ' ∧ P (.nx ρ') st1) (fun c ns us st1 => P (.xc c ns us ρ) st1) := by
  unfold asgF; rw [W_runE]
  cases f ρ st with
  | ok d st1 => simp only [W_ok]; cases setT t d ρ <;> simp
  | ex c ns us st => simp
  | bad => simp
@[simp] theorem W_par {i j : Nat} {f : Fx (List D)} : W (parF i j f ρ st) P X ↔ W (f ρ st) (fun ds st1 => ∃ a b, ds = [a, b] ∧ P (.nx ((ρ.set i (some a)).set j (some b))) st1) (fun c ns us st1 => P (.xc c ns us ρ) st1) := by
  unfold parF; rw [W_runE]
  cases f ρ st with
  | ok ds st1 =>
    simp only [W_ok]
    match ds with
    | [] => simp
    | [a] => simp
    | [a, b] => exact ⟨fun h => ⟨a, b, rfl, h⟩, fun ⟨_, _, e, h⟩ => by cases e; exact h⟩
    | a :: b :: c :: r => simp
  | ex c ns us st => simp
  | bad => simp
@[simp] theorem W_setI {fo fi fv : Fx D} : W (setIF fo fi fv ρ st) P X ↔ W (fv ρ st) (fun v st1 => W (fo ρ st1) (fun o st2 => W (fi ρ st2) (fun i st3 => ∃ st', setD o i v st3 = some st' ∧ P (.nx ρ) st') (fun c ns us st1 => P (.xc c ns us ρ) st1)) (fun c ns us st1 => P (.xc c ns us ρ) st1)) (fun c ns us st1 => P (.xc c ns us ρ) st1) := by
  unfold setIF
  simp only [W_runE]
  cases fv ρ st with
  | ok v st1 =>
    simp only [W_ok]
    cases fo ρ st1 with
    | ok o st2 =>
      simp only [W_ok]
      cases fi ρ st2 with
      | ok i st3 => simp only [W_ok]; cases setD o i v st3 <;> simp
      | ex c ns us st => simp
      | bad => simp
    | ex c ns us st => simp
    | bad => simp
  | ex c ns us st => simp
  | bad => simp
@[simp] theorem setT_name {i : Nat} {d : D} {ρ : Env} : setT (.name i) d ρ = some (ρ.set i (some d)) := by rw [setT]
@[simp] theorem setT_tup {ts : List Tg} {ds : List D} {ρ : Env} : setT (.tup ts) (.tup ds) ρ = setTs ts ds ρ := by rw [setT]
@[simp] theorem setTs_nil {ρ : Env} : setTs [] [] ρ = some ρ := by rw [setTs]
@[simp] theorem setTs_cons {t : Tg} {ts : List Tg} {d : D} {ds : List D} {ρ : Env} : setTs (t :: ts) (d :: ds) ρ = (setT t d ρ).bind fun ρ' => setTs ts ds ρ' := by
  rw [setTs]; cases setT t d ρ <;> rfl
open Classical in
/-- a for over items: an invariant -/
theorem W_forL {tg : Tg} {body : FS} {g : Option (Nat × List D)} {P : F → Store → Prop} (I : List D → Env → Store → Prop) : ∀ (done xs : List D) (ρ : Env) (st : Store), I done ρ st →
    (∀ done x rest ρ st, done ++ x :: rest = done ++ x :: rest → I done ρ st → x ∈ xs → ∃ ρ1, setT tg x ρ = some ρ1 ∧ W (body ρ1 st) (fun fl st2 => match fl with
      | .nx ρ2 => guardOk st2 g ∧ I (done ++ [x]) ρ2 st2
      | .ct ρ2 => guardOk st2 g ∧ I (done ++ [x]) ρ2 st2
      | .bk ρ2 => P (.nx ρ2) st2
      | fl => P fl st2) X) → (∀ ρ st, I (done ++ xs) ρ st → P (.nx ρ) st) → W (forLoop tg body g xs ρ st) P X
  | done, [], ρ, st, h, _, k => by
    rw [forLoop]
    exact k ρ st (by simpa using h)
  | done, x :: xs, ρ, st, h, hs, k => by
    obtain ⟨ρ1, e1, h1⟩ := hs done x xs ρ st rfl h List.mem_cons_self
    rw [forLoop, e1]
    show W (R.bind (body ρ1 st) _) P X
    rw [W_bind]
    refine h1.mono (fun fl st2 h2 => ?_) fun _ _ _ _ z => z
    have go : ∀ ρ2, guardOk st2 g ∧ I (done ++ [x]) ρ2 st2 → W (if guardOk st2 g then forLoop tg body g xs ρ2 st2 else .bad) P X := fun ρ2 ⟨hg, hi⟩ => by
      rw [if_pos hg]
      refine W_forL I (done ++ [x]) xs ρ2 st2 hi (fun d y r ρ st _ h hy => hs d y r ρ st rfl h (List.mem_cons_of_mem _ hy)) fun ρ st h => k ρ st (by simpa using h)
    cases fl with
    | nx ρ2 => exact go ρ2 h2
    | ct ρ2 => exact go ρ2 h2
    | bk ρ2 => exact h2
    | rt d => exact h2
    | xc c ns us ρ2 => exact h2
@[simp] theorem W_for {tg : Tg} {it : Fx Walk} {body : FS} : W (forF tg it body ρ st) P X ↔ W (it ρ st) (fun w st1 => W (forLoop tg body w.2 w.1 ρ st1) P X) (fun c ns us st1 => P (.xc c ns us ρ) st1) := by
  unfold forF; rw [W_runE]
/-! ### a def -/
def endsD (n0 : Nat) (kp : Bool) (Q : D → Store → Prop) (X : XQ) (fl : F) (st' : Store) : Prop := match fl with
  | .nx _ => if kp then Q .non st' else W (close n0 .non st') Q X
  | .rt d => if kp then Q d st' else W (close n0 d st') Q X
  | .xc c ns us _ => W (closes n0 us st') (fun us' st'' => X c ns us' st'') noX
  | _ => False
theorem W_run {n : Nat} {kp : Bool} {body : FS} {ds : List D} {ρ0 : Env} (h0 : ds.map some ++ List.replicate (n - ds.length) none = ρ0) (h : W (body ρ0 st) (endsD st.length kp Q X) noX) : W (defRun n kp body ds st) Q X := by
  subst h0
  unfold defRun
  cases e : body (ds.map some ++ List.replicate (n - ds.length) none) st with
  | bad => rw [e] at h; exact h.elim
  | ex c ns us st' => rw [e] at h; exact h.elim
  | ok fl st' =>
    rw [e] at h
    have h : endsD st.length kp Q X fl st' := h
    cases fl with
    | nx ρ => cases kp <;> exact h
    | rt d => cases kp <;> exact h
    | bk ρ => exact h.elim
    | ct ρ => exact h.elim
    | xc c ns us ρ =>
      show W (match closes st.length us st' with | .ok us' st'' => .ex c ns us' st'' | _ => .bad) Q X
      have h : W (closes st.length us st') (fun us' st'' => X c ns us' st'') noX := h
      cases q : closes st.length us st' with
      | ok us' st'' => rw [q] at h; exact h
      | ex c ns us st' => rw [q] at h; exact h.elim
      | bad => rw [q] at h; exact h.elim
@[simp] theorem endsD_rt {n0 : Nat} {d : D} : endsD n0 false Q X (.rt d) st ↔ W (close n0 d st) Q X := Iff.rfl
@[simp] theorem endsD_rtk {n0 : Nat} {d : D} : endsD n0 true Q X (.rt d) st ↔ Q d st := Iff.rfl
@[simp] theorem endsD_nx {n0 : Nat} {ρ : Env} : endsD n0 false Q X (.nx ρ) st ↔ W (close n0 .non st) Q X := Iff.rfl
@[simp] theorem endsD_xc {n0 : Nat} {kp : Bool} {c : Str} {ns : List Str} {us : List D} {ρ : Env} : endsD n0 kp Q X (.xc c ns us ρ) st ↔ W (closes n0 us st) (fun us' st'' => X c ns us' st'') noX := Iff.rfl
theorem W_close {n0 : Nat} {d : D} (h : st.length = n0) : W (close n0 d st) Q X ↔ Q d st := by
  unfold close; rw [if_pos h]; exact Iff.rfl
@[simp] theorem W_close_self {d : D} : W (close st.length d st) Q X ↔ Q d st := W_close rfl
end
end Px

/-! Px21: values: what the operations give. -/
namespace Px
open PySem PySem.Spec PyProof.Rows L2
section
variable {X : XQ} {st : Store} {Q : D → Store → Prop} {mu : Nat}
@[simp] theorem lk_lck {xs : List D} : look st (.lck xs) = some (.lst xs) := rfl
@[simp] theorem lk_lst {xs : List D} : look st (.lst xs) = some (.lst xs) := rfl
@[simp] theorem lk_tup {xs : List D} : look st (.tup xs) = some (.tup xs) := rfl
@[simp] theorem lk_str {x : Str} : look st (.str x) = some (.str x) := rfl
@[simp] theorem lk_int {x : Int} : look st (.int x) = some (.int x) := rfl
@[simp] theorem lk_bl {x : Bool} : look st (.bl x) = some (.bl x) := rfl
@[simp] theorem lk_non : look st .non = some .non := rfl
@[simp] theorem lk_dct {ks vs : List D} : look st (.dct ks vs) = some (.dct ks vs) := rfl
theorem look_at {n : Nat} {mo : MO} (h : st[n]? = some mo) : look st (.cell n) = some (moD mo) := by rw [look_cell, h]; rfl
@[simp] theorem truth_bl {b : Bool} : truth st (.bl b) = some b := rfl
@[simp] theorem truth_non : truth st .non = some false := rfl
@[simp] theorem truth_int {i : Int} : truth st (.int i) = some (i != 0) := rfl
@[simp] theorem truth_lst {xs : List D} : truth st (.lst xs) = some (!xs.isEmpty) := rfl
@[simp] theorem truth_tup {xs : List D} : truth st (.tup xs) = some (!xs.isEmpty) := rfl
@[simp] theorem ty_bl {b : Bool} : tyOf st (.bl b) = some (.b "bool") := rfl
@[simp] theorem ty_non : tyOf st .non = some (.b "NoneType") := rfl
@[simp] theorem ty_int {i : Int} : tyOf st (.int i) = some (.b "int") := rfl
@[simp] theorem ty_str {x : Str} : tyOf st (.str x) = some (.b "str") := rfl
@[simp] theorem ty_tup {xs : List D} : tyOf st (.tup xs) = some (.b "tuple") := rfl
@[simp] theorem ty_lst {xs : List D} : tyOf st (.lst xs) = some (.b "list") := rfl
@[simp] theorem ty_dct {ks vs : List D} : tyOf st (.dct ks vs) = some (.b "dict") := rfl
@[simp] theorem len_tup {xs : List D} : lenD st (.tup xs) = some xs.length := rfl
@[simp] theorem len_lst {xs : List D} : lenD st (.lst xs) = some xs.length := rfl
@[simp] theorem len_dct {ks vs : List D} : lenD st (.dct ks vs) = some ks.length := rfl
theorem len_str {x : Str} (h : x.length ≤ lim) : lenD st (.str x) = some x.length := if_pos h
/-! operators -/
@[simp] theorem W_add {i j : Int} : W (binD mu .Add (.int i) (.int j) st) Q X ↔ Q (.int (i + j)) st := Iff.rfl
@[simp] theorem W_sub {i j : Int} : W (binD mu .Sub (.int i) (.int j) st) Q X ↔ Q (.int (i - j)) st := Iff.rfl
@[simp] theorem W_mul {i j : Int} : W (binD mu .Mult (.int i) (.int j) st) Q X ↔ mulOk i j = true ∧ Q (.int (i * j)) st := by
  show W (if mulOk i j = true then _ else _) Q X ↔ _
  split <;> simp_all
@[simp] theorem W_mod {i j : Int} : W (binD mu .Mod (.int i) (.int j) st) Q X ↔ 0 < j ∧ Q (.int (i % j)) st := by
  show W (if 0 < j then _ else _) Q X ↔ _
  by_cases h : 0 < j
  · simp [h]
  · simp [h]
@[simp] theorem W_fdiv {i j : Int} : W (binD mu .FloorDiv (.int i) (.int j) st) Q X ↔ (0 < j ∧ j < 1073741824) ∧ Q (.int (i / j)) st := by
  show W (if (decide (0 < j) && decide (j < 1073741824)) = true then _ else _) Q X ↔ _
  by_cases h : 0 < j
  · by_cases h2 : j < 1073741824
    · simp [h, h2]
    · simp [h, h2]
  · simp [h]
@[simp] theorem W_pow {i j : Int} : W (binD mu .Pow (.int i) (.int j) st) Q X ↔ (0 ≤ j ∧ (i.natAbs.log2 + 1) * j.toNat ≤ 1000000) ∧ Q (.int (i ^ j.toNat)) st := by
  show W (if (decide (0 ≤ j) && decide ((i.natAbs.log2 + 1) * j.toNat ≤ 1000000)) = true then _ else _) Q X ↔ _
  by_cases h : 0 ≤ j
  · by_cases h2 : (i.natAbs.log2 + 1) * j.toNat ≤ 1000000
    · simp [h, h2]
    · simp [h, h2]
  · simp [h]
@[simp] theorem W_addS {x y : Str} : W (binD mu .Add (.str x) (.str y) st) Q X ↔ x.length + y.length ≤ lim ∧ Q (.str (x ++ y)) st := by
  show W (if x.length + y.length ≤ lim then _ else _) Q X ↔ _
  by_cases h : x.length + y.length ≤ lim
  · simp [h]
  · simp [h]
@[simp] theorem W_addT {x y : List D} : W (binD mu .Add (.tup x) (.tup y) st) Q X ↔ (x ++ y).length ≤ lim ∧ Q (.tup (x ++ y)) st := by
  show W (mkT (x ++ y) st) Q X ↔ _
  rw [W_mkT]
@[simp] theorem W_addL {x y : List D} : W (binD mu .Add (.lst x) (.lst y) st) Q X ↔ W (mkL mu (x ++ y) st) Q X := Iff.rfl
theorem W_mulL {xs : List D} {k : Int} (h1 : 0 ≤ k) (h2 : xs.length * k.toNat ≤ lim) (h3 : k < 2 ^ 63) : W (binD mu .Mult (.lst xs) (.int k) st) Q X ↔ W (mkL mu (List.replicate k.toNat xs).flatten st) Q X := by
  show W (if (decide (xs.length * k.toNat ≤ lim) && decide (-(2 ^ 63) ≤ k) && decide (k < 2 ^ 63)) = true then _ else _) Q X ↔ _
  rw [if_pos]
  simp [h2, h3]; omega
theorem W_mulT {xs : List D} {k : Int} (h0 : xs ≠ []) (h1 : 2 ≤ k) (h2 : k ≤ 1000) (h3 : xs.length ≤ 1000) : W (binD mu .Mult (.tup xs) (.int k) st) Q X ↔ Q (.tup (List.replicate k.toNat xs).flatten) st := by
  show W (if (decide (xs.length ≤ 1000) && decide (2 ≤ k) && decide (k ≤ 1000) && !xs.isEmpty) = true then _ else _) Q X ↔ _
  rw [if_pos (by simp [h1, h2, h3]; exact h0)]
  exact Iff.rfl
theorem mulOk_l {i j : Int} (h : i.natAbs < 2 ^ 64) : mulOk i j = true := by unfold mulOk intSmall; simp [h]
theorem mulOk_r {i j : Int} (h : j.natAbs < 2 ^ 64) : mulOk i j = true := by unfold mulOk intSmall; simp [h]
@[simp] theorem W_lt {i j : Int} : W (cmpD .Lt (.int i) (.int j) st) Q X ↔ Q (.bl (decide (i < j))) st := Iff.rfl
@[simp] theorem W_le {i j : Int} : W (cmpD .LtE (.int i) (.int j) st) Q X ↔ Q (.bl (decide (i ≤ j))) st := Iff.rfl
@[simp] theorem W_gt {i j : Int} : W (cmpD .Gt (.int i) (.int j) st) Q X ↔ Q (.bl (decide (j < i))) st := Iff.rfl
@[simp] theorem W_ge {i j : Int} : W (cmpD .GtE (.int i) (.int j) st) Q X ↔ Q (.bl (decide (j ≤ i))) st := Iff.rfl
theorem W_eq {x y : D} : W (cmpD .Eq x y st) Q X ↔ ∃ b, eqD st x y = some b ∧ Q (.bl b) st := by
  have : cmpD .Eq x y st = match eqD st x y with | some b => .ok (.bl b) st | none => .bad := by cases x <;> cases y <;> rfl
  rw [this]; cases eqD st x y <;> simp
theorem W_ne {x y : D} : W (cmpD .NotEq x y st) Q X ↔ ∃ b, eqD st x y = some b ∧ Q (.bl (!b)) st := by
  have : cmpD .NotEq x y st = match eqD st x y with | some b => .ok (.bl (!b)) st | none => .bad := by cases x <;> cases y <;> rfl
  rw [this]; cases eqD st x y <;> simp
@[simp] theorem W_eqS {x y : Str} : W (cmpD .Eq (.str x) (.str y) st) Q X ↔ Q (.bl (x == y)) st := by rw [W_eq]; simp [eqD]
@[simp] theorem W_neS {x y : Str} : W (cmpD .NotEq (.str x) (.str y) st) Q X ↔ Q (.bl (!(x == y))) st := by rw [W_ne]; simp [eqD]
theorem eqD_int {i j : Int} : eqD st (.int i) (.int j) = some (i == j) := by
  show (match view st (.int i), view st (.int j) with
    | some x, some y => match x.py, y.py with
      | some p, some q => if SeqAt.shaped p && SeqAt.shaped q then some (PyData.eqv p q) else none
      | _, _ => none
    | _, _ => none) = _
  have e : ∀ i : Int, view st (.int i) = some (.int i) := fun i => by unfold view; rw [frz]
  rw [e, e]; rfl
@[simp] theorem W_eqI {x y : Int} : W (cmpD .Eq (.int x) (.int y) st) Q X ↔ Q (.bl (x == y)) st := by rw [W_eq]; simp [eqD_int]
@[simp] theorem W_neI {x y : Int} : W (cmpD .NotEq (.int x) (.int y) st) Q X ↔ Q (.bl (!(x == y))) st := by rw [W_ne]; simp [eqD_int]
theorem W_in {x y : D} : W (cmpD .In x y st) Q X ↔ ∃ b, inD st x y = some b ∧ Q (.bl b) st := by
  have : cmpD .In x y st = match inD st x y with | some b => .ok (.bl b) st | none => .bad := by cases x <;> cases y <;> rfl
  rw [this]; cases inD st x y <;> simp
theorem W_notIn {x y : D} : W (cmpD .NotIn x y st) Q X ↔ ∃ b, inD st x y = some b ∧ Q (.bl (!b)) st := by
  have : cmpD .NotIn x y st = match inD st x y with | some b => .ok (.bl (!b)) st | none => .bad := by cases x <;> cases y <;> rfl
  rw [this]; cases inD st x y <;> simp
/-! places -/
@[simp] theorem W_ixT {xs : List D} {k : Int} : W (ixD (.tup xs) (.int k) st) Q X ↔ ∃ d, atI xs k = some d ∧ Q d st := by
  show W (ofO (atI xs k) st) Q X ↔ _; simp
@[simp] theorem W_ixL {xs : List D} {k : Int} : W (ixD (.lst xs) (.int k) st) Q X ↔ ∃ d, atI xs k = some d ∧ Q d st := by
  show W (ofO (atI xs k) st) Q X ↔ _; simp
@[simp] theorem W_ixS {x : Str} {k : Int} : W (ixD (.str x) (.int k) st) Q X ↔ x.length ≤ lim ∧ ∃ c, atI x.cps.toList k = some c ∧ Q (.str ⟨#[c]⟩) st := by
  show W (if x.length ≤ lim then ofO ((atI x.cps.toList k).map fun c => .str ⟨#[c]⟩) st else .bad) Q X ↔ _
  by_cases h : x.length ≤ lim
  · rw [if_pos h]
    cases atI x.cps.toList k <;> simp [h, ofO]
  · simp [h]
@[simp] theorem W_slcT {xs : List D} {l h : Option Int} : W (slcD mu (.tup xs) l h st) Q X ↔ Q (.tup (cutL xs l h)) st := Iff.rfl
@[simp] theorem W_slcL {xs : List D} {l h : Option Int} : W (slcD mu (.lst xs) l h st) Q X ↔ W (mkL mu (cutL xs l h) st) Q X := Iff.rfl
@[simp] theorem W_slcK {xs : List D} {l h : Option Int} : W (slcD mu (.lck xs) l h st) Q X ↔ W (mkL mu (cutL xs l h) st) Q X := Iff.rfl
@[simp] theorem W_slcS {x : Str} {l h : Option Int} : W (slcD mu (.str x) l h st) Q X ↔ x.length ≤ lim ∧ Q (.str (cutS x l h)) st := by
  show W (if x.length ≤ lim then _ else _) Q X ↔ _
  by_cases z : x.length ≤ lim
  · simp [z]
  · simp [z]
@[simp] theorem W_revL {xs : List D} : W (revD mu (.lst xs) st) Q X ↔ W (mkL mu xs.reverse st) Q X := Iff.rfl
theorem atI_nn {α : Type} {xs : List α} {k : Nat} {a : α} (h : xs[k]? = some a) : atI xs (k : Int) = some a := atI_nat h
theorem atI_ok {α : Type} {xs : List α} {k : Int} (h0 : 0 ≤ k) (h1 : k < xs.length) : ∃ a, atI xs k = some a ∧ a ∈ xs := by
  obtain ⟨n, rfl⟩ := Int.eq_ofNat_of_zero_le h0
  have hn : n < xs.length := by omega
  exact ⟨xs[n], atI_nat (List.getElem?_eq_getElem hn), List.getElem_mem hn⟩
/-! built-in calls -/
@[simp] theorem W_len {a : D} : W (primD mu .len [a] st) Q X ↔ ∃ n, lenD st a = some n ∧ Q (.int n) st := by
  have : primD mu .len [a] st = ofO ((lenD st a).map fun n => .int n) st := by simp only [primD]; cases lenD st a <;> rfl
  rw [this]
  cases lenD st a <;> simp [ofO]
@[simp] theorem W_intI {i : Int} : W (primD mu .int [.int i] st) Q X ↔ Q (.int i) st := Iff.rfl
@[simp] theorem W_absI {i : Int} : W (primD mu .abs [.int i] st) Q X ↔ Q (.int (if i < 0 then -i else i)) st := Iff.rfl
@[simp] theorem W_tupleL {xs : List D} : W (primD mu .tuple [.lst xs] st) Q X ↔ W (mkT xs st) Q X := Iff.rfl
@[simp] theorem W_tupleT {xs : List D} : W (primD mu .tuple [.tup xs] st) Q X ↔ Q (.tup xs) st := Iff.rfl
@[simp] theorem W_listL {xs : List D} : W (primD mu .list [.lst xs] st) Q X ↔ W (mkL mu xs st) Q X := Iff.rfl
@[simp] theorem W_listT {xs : List D} : W (primD mu .list [.tup xs] st) Q X ↔ W (mkL mu xs st) Q X := Iff.rfl
@[simp] theorem blsOf_map {α : Type} {f : α → Bool} : ∀ {xs : List α}, blsOf (xs.map fun x => .bl (f x)) = some (xs.map f)
  | [] => rfl
  | x :: xs => by
    show (blsOf (xs.map fun x => .bl (f x))).map _ = _
    rw [blsOf_map]; rfl
@[simp] theorem intsOf_map {α : Type} {f : α → Int} : ∀ {xs : List α}, intsOf (xs.map fun x => .int (f x)) = some (xs.map f)
  | [] => rfl
  | x :: xs => by
    show (intsOf (xs.map fun x => .int (f x))).map _ = _
    rw [intsOf_map]; rfl
theorem W_all {α : Type} {f : α → Bool} {xs : List α} : W (primD mu .all [.lst (xs.map fun x => .bl (f x))] st) Q X ↔ Q (.bl (xs.all f)) st := by
  show W (ofO ((blsOf (xs.map fun x => .bl (f x))).map fun bs => .bl (bs.all id)) st) Q X ↔ _
  rw [blsOf_map]
  show Q (.bl ((xs.map f).all id)) st ↔ _
  rw [List.all_map]; rfl
theorem W_sum {α : Type} {f : α → Int} {xs : List α} : W (primD mu .sum [.lst (xs.map fun x => .int (f x))] st) Q X ↔ Q (.int (xs.map f).sum) st := by
  show W (ofO ((intsOf (xs.map fun x => .int (f x))).map fun bs => .int bs.sum) st) Q X ↔ _
  rw [intsOf_map]; exact Iff.rfl
/-! ### repr -/
mutual
theorem py_noCell : ∀ (d : D) {q : PyData}, d.py = some q → noCell d = true
  | .non, _, _ => rfl
  | .bl _, _, _ => rfl
  | .int _, _, _ => rfl
  | .str _, _, _ => rfl
  | .tup xs, q, h => by
    rw [D.py] at h
    rw [noCell]
    cases e : pys xs with
    | none => rw [e] at h; cases h
    | some l => exact pys_noCell xs e
  | .lst xs, q, h => by
    rw [D.py] at h
    rw [noCell]
    cases e : pys xs with
    | none => rw [e] at h; cases h
    | some l => exact pys_noCell xs e
  | .dct ks vs, q, h => by
    rw [D.py] at h
    rw [noCell]
    cases e : pys vs with
    | none =>
      rw [e] at h
      cases e2 : pys ks <;> rw [e2] at h <;> cases h
    | some l => exact pys_noCell vs e
  | .obj _ _ _, q, h => by rw [D.py] at h; cases h
  | .cell _, q, h => by rw [D.py] at h; cases h
  | .ty _, q, h => by rw [D.py] at h; cases h
  | .lck _, q, h => by rw [D.py] at h; cases h
theorem pys_noCell : ∀ (ds : List D) {q : List PyData}, pys ds = some q → noCells ds = true
  | [], _, _ => rfl
  | d :: ds, q, h => by
    rw [pys] at h
    rw [noCells, Bool.and_eq_true]
    cases e : d.py with
    | none => rw [e] at h; cases h
    | some a =>
      cases e2 : pys ds with
      | none => rw [e, e2] at h; cases h
      | some b => exact ⟨py_noCell d e, pys_noCell ds e2⟩
end
/-- data that can be shown: so long, so deep -/
def Gd (w k : Nat) (d : D) : Prop := ∃ q, d.py = some q ∧ q.showable = true ∧ q.depth ≤ k ∧ q.shown.length ≤ w
theorem Gd.mono {w w' k k' : Nat} {d : D} (h : Gd w k d) (h1 : w ≤ w') (h2 : k ≤ k') : Gd w' k' d := by
  obtain ⟨q, a, b, c, e⟩ := h
  exact ⟨q, a, b, Nat.le_trans c h2, Nat.le_trans e h1⟩
theorem view_py {d : D} {q : PyData} (h : d.py = some q) : view st d = some d := frz_id _ d (py_noCell d h)
/-- what repr writes -/
def shw (d : D) : Str := (d.py.map PyData.shown).getD ""
theorem W_repr {w k : Nat} {d : D} (h : Gd w k d) (hw : w ≤ 1000000 := by decide) (hk : k ≤ 64 := by decide) : W (primD mu .repr [d] st) Q X ↔ Q (.str (shw d)) st := by
  obtain ⟨q, a, b, c, e⟩ := h
  show W (match view st d with
    | some d => match d.py with
      | some q => if PyData.showable q && decide (q.depth ≤ 64) && decide (q.shown.length ≤ lim) then .ok (.str q.shown) st else .bad
      | none => .bad
    | none => .bad) Q X ↔ _
  have c' : q.depth ≤ 64 := Nat.le_trans c hk
  have e' : q.shown.length ≤ lim := Nat.le_trans e hw
  have hs : shw d = q.shown := by unfold shw; rw [a]; rfl
  rw [view_py a]
  simp only [a, b, c', e', hs, decide_true, Bool.and_self, if_true, W_ok]
theorem gd_non : Gd 4 0 .non := ⟨.none, rfl, rfl, Nat.le_refl _, Nat.le_refl _⟩
theorem gd_bl {b : Bool} : Gd 5 0 (.bl b) := ⟨.bool b, rfl, rfl, Nat.le_refl _, by cases b <;> decide⟩
theorem gd_int {i : Int} {k : Nat} (h : i.natAbs.log2 < k) (hk : k ≤ 1920) (h0 : 0 < k) : Gd (k + 1) 0 (.int i) := by
  refine ⟨.int i, rfl, ?_, Nat.le_refl _, ?_⟩
  · simp only [PyData.showable, decide_eq_true_eq]; omega
  · have := int_text_length_le h0 h
    simp only [PyData.shown]
    first
      | exact this
      | (show (Str.ofString (toString i)).length ≤ _; first | exact this | (rw [PySem.ofString_length]; exact this))
theorem gd_str {x : Str} {n : Nat} (h : x.length ≤ n) (hx : ∀ c ∈ x.cps.toList, c < 16 ^ 8) : Gd (10 * n + 2) 0 (.str x) := by
  refine ⟨.str x, rfl, rfl, Nat.le_refl _, ?_⟩
  have e := StrLaws.reprText_len x hx
  have e2 : x.length = x.cps.size := rfl
  simp only [PyData.shown]
  omega
theorem gds_pys {w k : Nat} : ∀ {xs : List D}, (∀ x ∈ xs, Gd w k x) → ∃ qs, pys xs = some qs ∧ PyData.showableAll qs = true ∧ PyData.depthAll qs ≤ k ∧ ((PyData.shownAll qs).map (·.length)).sum ≤ xs.length * w ∧ qs.length = xs.length
  | [], _ => ⟨[], rfl, rfl, Nat.zero_le _, by simp [PyData.shownAll], rfl⟩
  | x :: xs, h => by
    obtain ⟨q, a, b, c, e⟩ := h x List.mem_cons_self
    obtain ⟨qs, a2, b2, c2, e2, l2⟩ := gds_pys (xs := xs) fun y hy => h y (List.mem_cons_of_mem _ hy)
    refine ⟨q :: qs, by rw [pys, a, a2], by simp [PyData.showableAll, b, b2], by simp only [PyData.depthAll]; omega, ?_, by simp [l2]⟩
    simp only [PyData.shownAll, List.map_cons, List.sum_cons, List.length_cons, Nat.add_mul]
    omega
theorem gd_tup {w k : Nat} {xs : List D} (h : ∀ x ∈ xs, Gd w k x) : Gd (xs.length * (w + 2) + 3) (k + 1) (.tup xs) := by
  obtain ⟨qs, a, b, c, e, l⟩ := gds_pys h
  refine ⟨.tuple qs, by rw [D.py, a]; rfl, by simpa [PyData.showable] using b, by simp only [PyData.depth]; omega, ?_⟩
  have h2 := tupleText_len_le (PyData.shownAll qs)
  have h3 := PyData.shownAll_length qs
  have e4 : xs.length * (w + 2) = xs.length * w + 2 * xs.length := by rw [Nat.mul_add, Nat.mul_comm xs.length 2]
  simp only [PyData.shown]
  omega
theorem gd_lst {w k : Nat} {xs : List D} (h : ∀ x ∈ xs, Gd w k x) : Gd (xs.length * (w + 2) + 3) (k + 1) (.lst xs) := by
  obtain ⟨qs, a, b, c, e, l⟩ := gds_pys h
  refine ⟨.list qs, by rw [D.py, a]; rfl, by simpa [PyData.showable] using b, by simp only [PyData.depth]; omega, ?_⟩
  have h2 := listText_len_le (PyData.shownAll qs)
  have h3 := PyData.shownAll_length qs
  have e4 : xs.length * (w + 2) = xs.length * w + 2 * xs.length := by rw [Nat.mul_add, Nat.mul_comm xs.length 2]
  simp only [PyData.shown]
  omega
theorem gd_dct0 : Gd 2 1 (.dct [] []) := ⟨.dict [], rfl, rfl, Nat.le_refl _, by decide⟩
end
end Px

/-! Px22: the deck of the first laws: great cells, then a seed. -/
namespace Px
open PySem PySem.Spec PyProof.Rows L2
noncomputable def deckB (a m q c p t : Int) : FS :=
  seqF (asgF (.name 1) (conF (.int a)))
  (seqF (forF (.name 2) (walkF (slcF 0 (varD 0) noF (partF (conF (.int t)))))
    (seqF (asgF (.name 1) (binF 0 .Mod (primF 0 .int (consF (binF 0 .Add (binF 0 .Add (binF 0 .Mult (varD 1) (conF (.int m))) (binF 0 .Mod (primF 0 .int (consF (varD 2) nilF)) (conF (.int q)))) (conF (.int c))) nilF)) (conF (.int p)))) nilS))
  (seqF (retF (dctF 1 [.inr "great", .inr "seed"] (consF (revF 1 (compF 0 [2] (.name 2) (walkF (slcF 0 (varD 0) noF (partF (conF (.int t))))) (cmpF .GtE (varD 2) (binF 0 .Pow (conF (.int 10)) (conF (.int 18)))) (varD 2))) (consF (varD 1) nilF)))) nilS))
noncomputable def drawB (m c p m2 p2 : Int) : FS :=
  seqF (ifS (cmpF .NotEq (ixF (varD 0) (conF (.str "great"))) (lstF 0 nilF))
    (seqF (asgF (.name 2) (primF 0 .int (consF (bmF .pop (ixF (varD 0) (conF (.str "great"))) nilF) nilF)))
    (seqF (ifS (cmpF .GtE (varD 2) (varD 1)) (seqF (expF (bmF .append (ixF (varD 0) (conF (.str "great"))) (consF (binF 0 .FloorDiv (varD 2) (varD 1)) nilF))) nilS) nilS)
    (seqF (retF (binF 0 .Mod (varD 2) (varD 1))) nilS))) nilS)
  (seqF (asgF (.name 3) (binF 0 .Mod (primF 0 .int (consF (binF 0 .Add (binF 0 .Mult (ixF (varD 0) (conF (.str "seed"))) (conF (.int m))) (conF (.int c))) nilF)) (conF (.int p))))
  (seqF (setIF (varD 0) (conF (.str "seed")) (varD 3))
  (seqF (asgF (.name 4) (binF 0 .Mod (primF 0 .int (consF (binF 0 .Add (binF 0 .Add (binF 0 .Mult (varD 3) (varD 3)) (binF 0 .Mult (conF (.int m2)) (varD 3))) (conF (.int c))) nilF)) (conF (.int p2))))
  (seqF (retF (binF 0 .Mod (binF 0 .FloorDiv (varD 4) (conF (.int 64))) (varD 1))) nilS))))
def deckS (gs : List Int) (s : Int) (rest : Store) : Store := .lst (gs.map .int) :: .dct [.str "great", .str "seed"] [.cell 0, .int s] :: rest
/-- a store that begins with a deck -/
def Dk (n : Nat) (st : Store) : Prop := ∃ gs s rest, st = deckS gs s rest ∧ gs.length ≤ 63 ∧ rest.length + 2 = n
theorem Dk.len {n : Nat} {st : Store} (h : Dk n st) : st.length = n := by
  obtain ⟨gs, s, rest, rfl, _, h⟩ := h
  simp [deckS]; omega
section
variable {X : XQ}
theorem cut63 {ns : List Int} (h : ns.length ≤ 63) : cutL (ns.map D.int) none (some 63) = ns.map D.int := by
  unfold cutL
  have e1 : HT.sIx (ns.map D.int).length 0 none = 0 := rfl
  have e2 : HT.sIx (ns.map D.int).length (ns.map D.int).length (some 63) = (ns.map D.int).length := by
    have e : HT.sIx (ns.map D.int).length (ns.map D.int).length (some ((63 : Nat) : Int)) = min 63 (ns.map D.int).length := HT.sIx_nat _ _ _
    refine e.trans ?_
    rw [List.length_map]; omega
  rw [e1, e2, List.drop_zero, Nat.sub_zero, List.take_length]
theorem deck_W {a m q c p t : Int} {ns : List Int} (h : ns.length ≤ 63) (ht : t = 63) (hm : m.natAbs < 2 ^ 64) (hq : 0 < q) (hp : 0 < p) : W (defRun 3 true (deckB a m q c p t) [.lck (ns.map .int)] []) (fun d st' => d = .cell 1 ∧ Dk 2 st') X := by
  subst ht
  refine W_run (ρ0 := [some (.lck (ns.map .int)), none, none]) rfl ?_
  have hl : (ns.map D.int).length ≤ lim := by rw [List.length_map]; exact Nat.le_trans h (by decide)
  unfold deckB
  simp [cut63 h, hl, walkOf, and_assoc]
  refine ⟨by have : ns.length ≤ 63 := h; show ns.length ≤ 1000000; omega, ?_⟩
  refine W_forL (fun done ρ st => ∃ s d, ρ = [some (.lck (ns.map .int)), some (.int s), d] ∧ st = []) [] _ _ _ ⟨a, none, rfl, rfl⟩ ?_ ?_
  · rintro done x rest ρ st _ ⟨s, d, rfl, rfl⟩ hx
    obtain ⟨i, _, rfl⟩ := List.mem_map.mp hx
    refine ⟨_, setT_name, ?_⟩
    simp [mulOk_r hm, hq, hp, guardOk]
  · rintro ρ st ⟨s, d, rfl, rfl⟩
    simp [W_comp, cut63 h, walkOf, and_assoc]
    try refine ⟨by have : ns.length ≤ 63 := h; show ns.length ≤ 1000000; omega, ?_⟩
    refine W_compP (fun d => match d with | .int i => decide (10 ^ 18 ≤ i) | _ => false) (fun d => d) _ _ _ ?_ ?_
    · intro x hx
      obtain ⟨i, _, rfl⟩ := List.mem_map.mp hx
      refine ⟨_, setT_name, ?_, fun _ => rfl⟩
      have e : binF 0 .Pow (conF (.int 10)) (conF (.int 18)) [some (.lck (ns.map .int)), some (.int s), some (.int i)] [] = .ok (.int (10 ^ 18)) [] := rfl
      show cmpF .GtE (varD 2) (binF 0 .Pow (conF (.int 10)) (conF (.int 18))) [some (.lck (ns.map .int)), some (.int s), some (.int i)] [] = _
      unfold cmpF
      have ev : varD 2 [some (.lck (ns.map .int)), some (.int s), some (.int i)] [] = .ok (.int i) [] := rfl
      rw [ev, R.bind_ok, e, R.bind_ok]; rfl
    · have e : (((ns.map D.int).filter fun d => match d with | .int i => decide (10 ^ 18 ≤ i) | _ => false).map fun d => d) = (ns.filter fun i => decide (10 ^ 18 ≤ i)).map D.int := by
        rw [List.map_id', List.filter_map]; rfl
      have hf : (ns.filter fun i => decide ((10 : Int) ^ 18 ≤ i)).length ≤ 63 := Nat.le_trans (List.length_filter_le _ _) h
      rw [e]
      simp only [List.nil_append, List.length_map]
      refine ⟨Nat.le_trans hf (by decide), trivial, ?_⟩
      exact ⟨(ns.filter fun i => decide ((10 : Int) ^ 18 ≤ i)).reverse, s, [], by simp [deckS, kD], by simpa using hf, rfl⟩
theorem py_ints : ∀ gs : List Int, pys (gs.map D.int) = some (gs.map PyData.int)
  | [] => rfl
  | g :: gs => by rw [List.map_cons, pys, py_ints gs]; rfl
theorem noCells_ints : ∀ gs : List Int, noCells (gs.map D.int) = true
  | [] => rfl
  | g :: gs => by rw [List.map_cons, noCells, noCells_ints gs]; rfl
theorem lay_ints : ∀ gs : List Int, PyData.canLayAll0 (gs.map PyData.int) = true ∧ PyData.depthAll (gs.map PyData.int) = 0
  | [] => ⟨rfl, rfl⟩
  | g :: gs => by
    have ih := lay_ints gs
    exact ⟨by rw [List.map_cons, PyData.canLayAll0, ih.1]; rfl, by rw [List.map_cons, PyData.depthAll, ih.2]; rfl⟩
/-- a cell of ints beside the empty list -/
theorem eqD_nil {st : Store} {n : Nat} {gs : List Int} (h : st[n]? = some (.lst (gs.map .int))) : eqD st (.cell n) (.lst []) = some gs.isEmpty := by
  have e1 : view st (.cell n) = some (.lst (gs.map .int)) := by
    show frz (cellV 0 st 8) (.cell n) = _
    rw [frz, cellV, if_neg (Nat.not_lt_zero n), h]
    show (frzs (cellV 0 st 7) (gs.map .int)).map D.lst = _
    rw [frzs_id _ _ (noCells_ints gs)]; rfl
  have e2 : view st (.lst []) = some (.lst []) := rfl
  have e3 : (D.lst (gs.map .int)).py = some (.list (gs.map PyData.int)) := by rw [D.py, py_ints]; rfl
  have e4 : (D.lst []).py = some (.list []) := rfl
  show (match view st (.cell n), view st (.lst []) with
    | some x, some y => match x.py, y.py with
      | some p, some q => if SeqAt.shaped p && SeqAt.shaped q then some (PyData.eqv p q) else none
      | _, _ => none
    | _, _ => none) = _
  rw [e1, e2]
  simp only [e3, e4]
  have l := lay_ints gs
  have hs : SeqAt.shaped (.list (gs.map PyData.int)) = true := by
    unfold SeqAt.shaped
    rw [PyData.canLay0, PyData.depth, l.1, l.2]; rfl
  have hs2 : SeqAt.shaped (.list []) = true := rfl
  rw [hs, hs2]
  cases gs <;> rfl
theorem W_pop {st : Store} {Q : D → Store → Prop} {n : Nat} {xs : List D} {y : D} (h : st[n]? = some (.lst xs)) (hy : xs[xs.length - 1]? = some y) : W (bmeth .pop (.cell n) [] st) Q X ↔ Q y (st.set n (.lst xs.dropLast)) := by
  unfold bmeth
  simp only [h, hy]
  exact Iff.rfl
theorem W_append {st : Store} {Q : D → Store → Prop} {n : Nat} {xs : List D} {a : D} (h : st[n]? = some (.lst xs)) (hl : xs.length < lim) : W (bmeth .append (.cell n) [a] st) Q X ↔ Q .non (st.set n (.lst (xs ++ [a]))) := by
  unfold bmeth
  simp only [h, if_pos hl]
  exact Iff.rfl
theorem draw_W {m c p m2 p2 k : Int} {n : Nat} {st : Store} (hk : Dk n st) (h0 : 0 < k) (h1 : k < 1073741824) (hm : m.natAbs < 2 ^ 64) (hm2 : m2.natAbs < 2 ^ 64) (hp : 0 < p) (hp1 : p < 2 ^ 63) (hp2 : 0 < p2) :
    W (defRun 5 false (drawB m c p m2 p2) [.cell 1, .int k] st) (fun d st' => ∃ r, d = .int r ∧ 0 ≤ r ∧ r < k ∧ Dk n st') X := by
  obtain ⟨gs, s, rest, rfl, hg, hr⟩ := hk
  refine W_run (ρ0 := [some (.cell 1), some (.int k), none, none, none]) rfl ?_
  have ixg : ∀ {Q : D → Store → Prop} {X : XQ}, W (ixD (.cell 1) (.str "great") (deckS gs s rest)) Q X ↔ Q (.cell 0) (deckS gs s rest) := Iff.rfl
  have ixs : ∀ {Q : D → Store → Prop} {X : XQ}, W (ixD (.cell 1) (.str "seed") (deckS gs s rest)) Q X ↔ Q (.int s) (deckS gs s rest) := Iff.rfl
  have hz : (deckS gs s rest)[0]? = some (.lst (gs.map .int)) := rfl
  have fin : ∀ (gs' : List Int) (s' : Int) (r : Int), gs'.length ≤ 63 → 0 ≤ r → r < k → endsD (deckS gs s rest).length false (fun d st' => ∃ r, d = .int r ∧ 0 ≤ r ∧ r < k ∧ Dk n st') X (.rt (.int r)) (deckS gs' s' rest) := fun gs' s' r hl a b => by
    rw [endsD_rt, W_close (by simp [deckS])]
    exact ⟨r, rfl, a, b, gs', s', rest, rfl, hl, hr⟩
  have hb1 : ∀ x : Int, 0 ≤ x % k ∧ x % k < k := fun x => ⟨Int.emod_nonneg x (by omega), Int.emod_lt_of_pos x h0⟩
  unfold drawB
  cases gs with
  | nil =>
    have e0 := eqD_nil hz
    simp only [W_seq, W_ifS, W_cmp, W_ix, W_var, W_con, W_lst, W_nilF, W_mkL0, List.getElem?_cons_zero, Option.some.injEq, exists_eq_left', ixg]
    refine ⟨Nat.zero_le _, ?_⟩
    rw [W_ne]
    refine ⟨_, e0, _, rfl, ?_⟩
    simp only [List.isEmpty_nil, Bool.not_true, Bool.false_eq_true, if_false, W_nilS, onNx_nx]
    have sm : (((s * m + c) % p) * ((s * m + c) % p)) = (((s * m + c) % p) * ((s * m + c) % p)) := rfl
    have hs1 : ((s * m + c) % p).natAbs < 2 ^ 64 := by
      have := Int.emod_nonneg (s * m + c) (show p ≠ 0 by omega)
      have := Int.emod_lt_of_pos (s * m + c) hp
      omega
    have hset : setD (.cell 1) (.str "seed") (.int ((s * m + c) % p)) (deckS [] s rest) = some (deckS [] ((s * m + c) % p) rest) := rfl
    simp [ixs, mulOk_r hm, mulOk_l hm2, mulOk_l hs1, hp, hp2, h0, hset]
    exact fin [] _ _ (by decide) (hb1 _).1 (hb1 _).2
  | cons g gs =>
    have e0 := eqD_nil hz
    simp only [W_seq, W_ifS, W_cmp, W_ix, W_var, W_con, W_lst, W_nilF, W_mkL0, List.getElem?_cons_zero, Option.some.injEq, exists_eq_left', ixg]
    refine ⟨Nat.zero_le _, ?_⟩
    rw [W_ne]
    refine ⟨_, e0, _, rfl, ?_⟩
    simp only [List.isEmpty_cons, Bool.not_false, if_true]
    have hlast : ∃ y : Int, ((g :: gs).map D.int)[((g :: gs).map D.int).length - 1]? = some (.int y) := by
      refine ⟨(g :: gs).getLast (List.cons_ne_nil _ _), ?_⟩
      rw [List.length_map, List.getElem?_map, ← List.getLast?_eq_getElem?, List.getLast?_eq_getLast (List.cons_ne_nil _ _)]
      rfl
    obtain ⟨y, hy⟩ := hlast
    have hl1 : ((g :: gs).dropLast).length ≤ 62 := by rw [List.length_dropLast]; omega
    have hset : (deckS (g :: gs) s rest).set 0 (.lst ((g :: gs).map D.int).dropLast) = deckS (g :: gs).dropLast s rest := by
      show MO.lst ((g :: gs).map D.int).dropLast :: _ = _
      rw [← List.map_dropLast]; rfl
    have hlst : (lstOf (deckS (g :: gs) s rest) (.cell 0)).isSome = true := rfl
    have ixg2 : ∀ {Q : D → Store → Prop} {X : XQ}, W (ixD (.cell 1) (.str "great") (deckS (g :: gs).dropLast s rest)) Q X ↔ Q (.cell 0) (deckS (g :: gs).dropLast s rest) := Iff.rfl
    have hlst2 : (lstOf (deckS (g :: gs).dropLast s rest) (.cell 0)).isSome = true := rfl
    have hz2 : (deckS (g :: gs).dropLast s rest)[0]? = some (.lst ((g :: gs).dropLast.map .int)) := rfl
    simp only [W_seq, W_asg, W_prim, W_consF, W_bm, W_ix, W_var, W_con, W_nilF, List.getElem?_cons_zero, Option.some.injEq, exists_eq_left', ixg, hlst, true_and, W_pop hz hy, hset, W_intI, setT_name, onNx_nx, W_ifS, W_cmp, W_ge, truth_bl, W_exp]
    simp only [List.set_cons_succ, List.set_cons_zero, List.getElem?_cons_succ, List.getElem?_cons_zero, Option.some.injEq, exists_eq_left', W_ge, truth_bl, ixg2, hlst2, true_and, W_fdiv, h0, h1]
    by_cases hge : k ≤ y
    · rw [if_pos (by simpa using hge)]
      have hl3 : ((g :: gs).dropLast.map D.int).length < lim := by rw [List.length_map]; exact Nat.lt_of_le_of_lt hl1 (by decide)
      have hset2 : (deckS (g :: gs).dropLast s rest).set 0 (.lst ((g :: gs).dropLast.map D.int ++ [.int (y / k)])) = deckS ((g :: gs).dropLast ++ [y / k]) s rest := by
        show MO.lst ((g :: gs).dropLast.map D.int ++ [.int (y / k)]) :: _ = _
        simp [deckS]
      simp only [W_fdiv, h0, h1, and_self, true_and, W_append hz2 hl3, hset2, W_nilS, onNx_nx, W_ret, W_bin, W_var, List.getElem?_cons_succ, List.getElem?_cons_zero, Option.some.injEq, exists_eq_left', W_mod, h0, true_and, onNx_rt]
      exact fin ((g :: gs).dropLast ++ [y / k]) s _ (by rw [List.length_append]; exact Nat.succ_le_succ hl1) (hb1 _).1 (hb1 _).2
    · rw [if_neg (by simpa using hge)]
      simp only [W_nilS, onNx_nx, W_ret, W_bin, W_var, List.getElem?_cons_succ, List.getElem?_cons_zero, Option.some.injEq, exists_eq_left', W_mod, h0, true_and, onNx_rt, W_seq]
      exact fin (g :: gs).dropLast s _ (by omega) (hb1 _).1 (hb1 _).2
open Classical in
/-- a for over items: an invariant; how many are done -/
theorem W_forN {tg : Tg} {body : FS} {g : Option (Nat × List D)} {P : F → Store → Prop} (I : Nat → Px.Env → Store → Prop) (N : Nat) : ∀ (m : Nat) (xs : List D) (ρ : Px.Env) (st : Store), m + xs.length = N → I m ρ st →
    (∀ m x ρ st, m < N → I m ρ st → x ∈ xs → ∃ ρ1, setT tg x ρ = some ρ1 ∧ W (body ρ1 st) (fun fl st2 => match fl with
      | .nx ρ2 => guardOk st2 g ∧ I (m + 1) ρ2 st2
      | .ct ρ2 => guardOk st2 g ∧ I (m + 1) ρ2 st2
      | .bk ρ2 => P (.nx ρ2) st2
      | fl => P fl st2) X) → (∀ ρ st, I N ρ st → P (.nx ρ) st) → W (forLoop tg body g xs ρ st) P X
  | m, [], ρ, st, hm, h, _, k => by
    rw [forLoop]
    simp at hm; subst hm
    exact k ρ st h
  | m, x :: xs, ρ, st, hm, h, hs, k => by
    rw [List.length_cons] at hm
    obtain ⟨ρ1, e1, h1⟩ := hs m x ρ st (by omega) h List.mem_cons_self
    rw [forLoop, e1]
    show W (R.bind (body ρ1 st) _) P X
    rw [W_bind]
    refine h1.mono (fun fl st2 h2 => ?_) fun _ _ _ _ z => z
    have go : ∀ ρ2, guardOk st2 g ∧ I (m + 1) ρ2 st2 → W (if guardOk st2 g then forLoop tg body g xs ρ2 st2 else .bad) P X := fun ρ2 ⟨hg, hi⟩ => by
      rw [if_pos hg]
      exact W_forN I N (m + 1) xs ρ2 st2 (by omega) hi (fun m y ρ st hm h hy => hs m y ρ st hm h (List.mem_cons_of_mem _ hy)) k
    cases fl with
    | nx ρ2 => exact go ρ2 h2
    | ct ρ2 => exact go ρ2 h2
    | bk ρ2 => exact h2
    | rt d => exact h2
    | xc c ns us ρ2 => exact h2
end
end Px

namespace K02
open PySem PySem.Spec PyProof.Rows L2 Px
/-! what each def computes -/
noncomputable def b_law_deck : FS :=
(seqF (asgF (.name 1) (conF (.int 99020023)))
(seqF (forF (.name 2) (walkF (slcF 0 (varD 0) noF (partF (conF (.int 63)))))
(seqF (asgF (.name 1) (binF 0 .Mod (primF 0 .int (consF (binF 0 .Add (binF 0 .Add (binF 0 .Mult (varD 1) (conF (.int 40692))) (binF 0 .Mod (primF 0 .int (consF (varD 2) nilF)) (conF (.int 2147483629)))) (conF (.int 17))) nilF)) (conF (.int 2147483587))))
nilS))
(seqF (retF (dctF 1 [.inr "great", .inr "seed"] (consF (revF 1 (compF 0 [2] (.name 2) (walkF (slcF 0 (varD 0) noF (partF (conF (.int 63))))) (cmpF .GtE (varD 2) (binF 0 .Pow (conF (.int 10)) (conF (.int 18)))) (varD 2))) (consF (varD 1) nilF))))
nilS)))
noncomputable def F_law_deck : Fn := ⟨["_law_script"], List.replicate 1 none, [(1, [])], defRun 3 true b_law_deck⟩
noncomputable def b_law_draw : FS :=
(seqF (ifS (cmpF .NotEq (ixF (varD 0) (conF (.str "great"))) (lstF 0 nilF))
(seqF (asgF (.name 2) (primF 0 .int (consF (bmF .pop (ixF (varD 0) (conF (.str "great"))) nilF) nilF)))
(seqF (ifS (cmpF .GtE (varD 2) (varD 1))
(seqF (expF (bmF .append (ixF (varD 0) (conF (.str "great"))) (consF (binF 0 .FloorDiv (varD 2) (varD 1)) nilF)))
nilS)
nilS)
(seqF (retF (binF 0 .Mod (varD 2) (varD 1)))
nilS)))
nilS)
(seqF (asgF (.name 3) (binF 0 .Mod (primF 0 .int (consF (binF 0 .Add (binF 0 .Mult (ixF (varD 0) (conF (.str "seed"))) (conF (.int 69621))) (conF (.int 17))) nilF)) (conF (.int 2147483587))))
(seqF (setIF (varD 0) (conF (.str "seed")) (varD 3))
(seqF (asgF (.name 4) (binF 0 .Mod (primF 0 .int (consF (binF 0 .Add (binF 0 .Add (binF 0 .Mult (varD 3) (varD 3)) (binF 0 .Mult (conF (.int 40692)) (varD 3))) (conF (.int 17))) nilF)) (conF (.int 2147483563))))
(seqF (retF (binF 0 .Mod (binF 0 .FloorDiv (varD 4) (conF (.int 64))) (varD 1)))
nilS)))))
noncomputable def F_law_draw : Fn := ⟨["_law_deck_here", "_law_many"], List.replicate 2 none, [(2, [])], defRun 5 false b_law_draw⟩
noncomputable def b_law_pick : FS :=
(seqF (retF (ixF (varD 1) (callF F_law_draw (consF (varD 0) (consF (primF 0 .len (consF (varD 1) nilF)) nilF)) [] nilF)))
nilS)
noncomputable def F_law_pick : Fn := ⟨["_law_deck_here", "_law_some"], List.replicate 2 none, [(2, [])], defRun 2 false b_law_pick⟩
noncomputable def b_law_number : FS :=
(seqF (asgF (.name 1) (lstF 0 (consF (conF (.int 0)) (consF (conF (.int 1)) (consF (negF (conF (.int 1))) (consF (conF (.int 2)) (consF (negF (conF (.int 3))) (consF (conF (.int 9)) (consF (negF (conF (.int 9))) (consF (conF (.int 10)) (consF (conF (.int 100)) (consF (negF (conF (.int 100))) (consF (binF 0 .Pow (conF (.int 10)) (conF (.int 39))) (consF (binF 0 .Add (negF (binF 0 .Pow (conF (.int 10)) (conF (.int 40)))) (conF (.int 1))) (consF (binF 0 .Mult (conF (.int 7)) (binF 0 .Pow (conF (.int 10)) (conF (.int 20)))) nilF)))))))))))))))
(seqF (retF (callF F_law_pick (consF (varD 0) (consF (varD 1) nilF)) [] nilF))
nilS))
noncomputable def F_law_number : Fn := ⟨["_law_deck_here"], List.replicate 1 none, [(1, [])], defRun 2 false b_law_number⟩
noncomputable def b_law_made : FS :=
(seqF (retF (primF 0 .tuple (consF (compF 0 [2] (.name 2) (rngF (consF (binF 0 .Add (varD 1) (conF (.int 1))) nilF)) (fun _ st => .ok (.bl true) st) (callF F_law_number (consF (varD 0) nilF) [] nilF)) nilF)))
nilS)
noncomputable def F_law_made : Fn := ⟨["_law_deck_here", "_law_size"], List.replicate 2 none, [(2, [])], defRun 3 false b_law_made⟩
noncomputable def b_law_bent : FS :=
(seqF (parF 2 3 (consF (callF F_law_draw (consF (varD 0) (consF (primF 0 .len (consF (varD 1) nilF)) nilF)) [] nilF) (consF (callF F_law_draw (consF (varD 0) (consF (conF (.int 7)) nilF)) [] nilF) nilF)))
(seqF (ifS (cmpF .Eq (varD 3) (conF (.int 0)))
(seqF (retF (binF 0 .Add (slcF 0 (varD 1) noF (partF (varD 2))) (slcF 0 (varD 1) (partF (binF 0 .Add (varD 2) (conF (.int 1)))) noF)))
nilS)
nilS)
(seqF (ifS (cmpF .Eq (varD 3) (conF (.int 1)))
(seqF (retF (binF 0 .Add (binF 0 .Add (slcF 0 (varD 1) noF (partF (varD 2))) (tupF (consF (callF F_law_number (consF (varD 0) nilF) [] nilF) nilF))) (slcF 0 (varD 1) (partF (varD 2)) noF)))
nilS)
nilS)
(seqF (ifS (cmpF .Eq (varD 3) (conF (.int 2)))
(seqF (retF (primF 0 .list (consF (varD 1) nilF)))
nilS)
nilS)
(seqF (ifS (cmpF .Eq (varD 3) (conF (.int 3)))
(seqF (retF (callF F_law_pick (consF (varD 0) (consF (lstF 0 (consF (conF .non) (consF (conF (.int 5)) (consF (conF (.str "x")) (consF (conF (.str "0")) (consF (tupF nilF) (consF (lstF 0 nilF) (consF (dct0F 0) (consF (conF (.bl true)) (consF (tupF (consF (varD 1) nilF)) (consF (conF (.str "(0, 1)")) nilF))))))))))) nilF)) [] nilF))
nilS)
nilS)
(seqF (asgF (.name 4) (lstF 0 (consF (conF (.bl true)) (consF (conF (.bl false)) (consF (conF .non) (consF (conF (.str "1")) (consF (tupF (consF (conF (.int 1)) nilF)) (consF (lstF 0 (consF (conF (.int 2)) nilF)) (consF (dct0F 0) (consF (tupF nilF) (consF (varD 1) nilF)))))))))))
(seqF (retF (binF 0 .Add (binF 0 .Add (slcF 0 (varD 1) noF (partF (varD 2))) (tupF (consF (callF F_law_pick (consF (varD 0) (consF (varD 4) nilF)) [] nilF) nilF))) (slcF 0 (varD 1) (partF (binF 0 .Add (varD 2) (conF (.int 1)))) noF)))
nilS)))))))
noncomputable def F_law_bent : Fn := ⟨["_law_deck_here", "_law_item"], List.replicate 2 none, [(2, [])], defRun 5 false b_law_bent⟩
noncomputable def bis_integer : FS :=
(seqF (retF (andF (isinF "int" (varD 0)) (notF (isinF "bool" (varD 0)))))
nilS)
noncomputable def Fis_integer : Fn := ⟨["thing"], List.replicate 1 none, [(1, [])], defRun 1 false bis_integer⟩
noncomputable def bis_form : FS :=
(seqF (retF (andF (isinF "tuple" (varD 1)) (andF (cmpF .Eq (primF 0 .len (consF (varD 1) nilF)) (binF 0 .Add (varD 0) (conF (.int 1)))) (primF 0 .all (consF (compF 0 [2] (.name 2) (walkF (varD 1)) (fun _ st => .ok (.bl true) st) (callF Fis_integer (consF (varD 2) nilF) [] nilF)) nilF)))))
nilS)
noncomputable def Fis_form : Fn := ⟨["count", "thing"], List.replicate 2 none, [(0, ["thing", "count"]), (2, [])], defRun 3 false bis_form⟩
noncomputable def b_law_is_form : FS :=
(seqF (ifS (orF (notF (isinF "tuple" (varD 1))) (cmpF .NotEq (primF 0 .len (consF (varD 1) nilF)) (binF 0 .Add (varD 0) (conF (.int 1)))))
(seqF (retF (conF (.bl false)))
nilS)
nilS)
(seqF (retF (cmpF .Eq (compF 0 [2] (.name 2) (walkF (varD 1)) (orF (notF (isinF "int" (varD 2))) (isinF "bool" (varD 2))) (conF (.int 1))) (lstF 0 nilF)))
nilS))
noncomputable def F_law_is_form : Fn := ⟨["_law_size", "_law_item"], List.replicate 2 none, [(2, [])], defRun 3 false b_law_is_form⟩
noncomputable def b_law_sum : FS :=
(seqF (asgF (.name 2) (conF (.int 0)))
(seqF (forF (.name 3) (rngF (consF (binF 0 .Sub (primF 0 .len (consF (varD 1) nilF)) (conF (.int 1))) (consF (negF (conF (.int 1))) (consF (negF (conF (.int 1))) nilF))))
(seqF (asgF (.name 2) (binF 0 .Add (varD 2) (binF 0 .Mult (ixF (varD 1) (varD 3)) (ixF (varD 0) (binF 0 .Add (varD 3) (conF (.int 1)))))))
nilS))
(seqF (retF (binF 0 .Add (varD 2) (ixF (varD 0) (conF (.int 0)))))
nilS)))
noncomputable def F_law_sum : Fn := ⟨["_law_item", "_law_numbers"], List.replicate 2 none, [(2, [])], defRun 4 false b_law_sum⟩
noncomputable def bvalue_of : FS :=
(seqF (retF (binF 0 .Add (ixF (varD 0) (conF (.int 0))) (primF 0 .sum (consF (compF 0 [2, 3] (.tup [(.name 2), (.name 3)]) (zipF (consF (slcF 0 (varD 0) (partF (conF (.int 1))) noF) (consF (varD 1) nilF))) (fun _ st => .ok (.bl true) st) (binF 0 .Mult (varD 2) (varD 3))) nilF))))
nilS)
noncomputable def Fvalue_of : Fn := ⟨["form", "values"], List.replicate 2 none, [(0, ["values", "form"]), (2, [])], defRun 4 false bvalue_of⟩
noncomputable def b_law_forms_right : FS :=
(seqF (asgF (.name 2) (callF F_law_made (consF (varD 0) (consF (varD 1) nilF)) [] nilF))
(seqF (asgF (.name 3) (callF F_law_bent (consF (varD 0) (consF (varD 2) nilF)) [] nilF))
(seqF (forF (.name 4) (walkF (tupF (consF (varD 2) (consF (varD 3) (consF (callF F_law_bent (consF (varD 0) (consF (callF F_law_made (consF (varD 0) (consF (varD 1) nilF)) [] nilF) nilF)) [] nilF) nilF)))))
(seqF (asgF (.name 5) (primF 0 .repr (consF (varD 4) nilF)))
(seqF (forF (.name 6) (rngF (consF (conF (.int 1)) (consF (conF (.int 5)) nilF)))
(seqF (asgF (.name 7) (lstF 0 (consF (callF Fis_form (consF (varD 6) (consF (varD 4) nilF)) [] nilF) (consF (callF Fis_form nilF ["thing", "count"] (consF (varD 4) (consF (varD 6) nilF))) nilF))))
(seqF (ifS (orF (cmpF .NotEq (primF 0 .repr (consF (varD 7) nilF)) (primF 0 .repr (consF (binF 0 .Mult (lstF 0 (consF (callF F_law_is_form (consF (varD 6) (consF (varD 4) nilF)) [] nilF) nilF)) (conF (.int 2))) nilF))) (cmpF .NotEq (primF 0 .repr (consF (varD 4) nilF)) (varD 5)))
(seqF (retF (conF (.bl false)))
nilS)
nilS)
nilS)))
nilS)))
(seqF (asgF (.name 8) (primF 0 .tuple (consF (compF 0 [9] (.name 9) (rngF (consF (varD 1) nilF)) (fun _ st => .ok (.bl true) st) (callF F_law_number (consF (varD 0) nilF) [] nilF)) nilF)))
(seqF (asgF (.name 10) (callF F_law_sum (consF (varD 2) (consF (varD 8) nilF)) [] nilF))
(seqF (retF (cmpF .Eq (primF 0 .repr (consF (lstF 0 (consF (callF Fvalue_of (consF (varD 2) (consF (varD 8) nilF)) [] nilF) (consF (callF Fvalue_of nilF ["values", "form"] (consF (varD 8) (consF (varD 2) nilF))) nilF))) nilF)) (primF 0 .repr (consF (lstF 0 (consF (varD 10) (consF (varD 10) nilF))) nilF))))
nilS))))))
noncomputable def F_law_forms_right : Fn := ⟨["_law_deck_here", "_law_size"], List.replicate 2 none, [(2, [])], defRun 11 false b_law_forms_right⟩
noncomputable def b_law_word : FS :=
(seqF (parF 1 2 (consF (callF F_law_draw (consF (varD 0) (consF (conF (.int 6)) nilF)) [] nilF) (consF (conF (.str "abcmyz")) nilF)))
(seqF (ifS (cmpF .Eq (varD 1) (conF (.int 0)))
(seqF (retF (callF F_law_pick (consF (varD 0) (consF (lstF 0 (consF (conF (.str "any")) (consF (conF (.str "at")) (consF (conF (.str "look")) (consF (conF (.str "registers")) (consF (conF (.str "self")) (consF (conF (.str "start")) (consF (conF (.str "starts")) (consF (conF (.str "aa")) (consF (conF (.str "none")) (consF (conF (.str "program")) nilF))))))))))) nilF)) [] nilF))
nilS)
nilS)
(seqF (ifS (cmpF .Eq (varD 1) (conF (.int 1)))
(seqF (asgF (.name 3) (lstF 0 (consF (conF .non) (consF (conF (.int 3)) (consF (conF (.bl true)) (consF (tupF nilF) (consF (lstF 0 (consF (conF (.str "x")) nilF)) (consF (tupF (consF (conF (.str "x")) nilF)) (consF (dct0F 0) (consF (conF (.str "")) (consF (conF (.str " ")) (consF (conF (.str "x ")) (consF (conF (.str "\n")) (consF (conF (.str "x\n")) (consF (conF (.str "-")) nilF)))))))))))))))
(seqF (retF (callF F_law_pick (consF (varD 0) (consF (binF 0 .Add (varD 3) (lstF 0 (consF (conF (.str "abcdefgh")) (consF (conF (.str "abcdefghi")) (consF (conF (.str "a2345678")) (consF (conF (.str "a23456789")) nilF)))))) nilF)) [] nilF))
nilS))
nilS)
(seqF (asgF (.name 4) (callF F_law_pick (consF (varD 0) (consF (varD 2) nilF)) [] nilF))
(seqF (forF (.name 5) (rngF (consF (callF F_law_draw (consF (varD 0) (consF (conF (.int 9)) nilF)) [] nilF) nilF))
(seqF (asgF (.name 4) (binF 0 .Add (varD 4) (callF F_law_pick (consF (varD 0) (consF (binF 0 .Add (varD 2) (conF (.str "0189"))) nilF)) [] nilF)))
nilS))
(seqF (ifS (cmpF .Gt (varD 1) (conF (.int 3)))
(seqF (retF (varD 4))
nilS)
nilS)
(seqF (asgF (.name 6) (callF F_law_draw (consF (varD 0) (consF (binF 0 .Add (primF 0 .len (consF (varD 4) nilF)) (conF (.int 1))) nilF)) [] nilF))
(seqF (retF (binF 0 .Add (binF 0 .Add (slcF 0 (varD 4) noF (partF (varD 6))) (callF F_law_pick (consF (varD 0) (consF (conF (.str "0A_ -.x9Z'")) nilF)) [] nilF)) (slcF 0 (varD 4) (partF (binF 0 .Sub (binF 0 .Add (varD 6) (varD 1)) (conF (.int 2)))) noF)))
nilS))))))))
noncomputable def F_law_word : Fn := ⟨["_law_deck_here"], List.replicate 1 none, [(1, [])], defRun 7 false b_law_word⟩
noncomputable def b_law_is_name : FS :=
(seqF (ifS (orF (notF (isinF "str" (varD 0))) (orF (notF (chainF .Lt .Lt (conF (.int 0)) (primF 0 .len (consF (varD 0) nilF)) (conF (.int 9)))) (cmpF .In (ixF (varD 0) (conF (.int 0))) (conF (.str "0123456789")))))
(seqF (retF (conF (.bl false)))
nilS)
nilS)
(seqF (ifS (cmpF .In (varD 0) (tupF (consF (conF (.str "any")) (consF (conF (.str "at")) (consF (conF (.str "look")) (consF (conF (.str "registers")) (consF (conF (.str "self")) (consF (conF (.str "start")) nilF))))))))
(seqF (retF (conF (.bl false)))
nilS)
nilS)
(seqF (retF (cmpF .Eq (compF 0 [1] (.name 1) (walkF (varD 0)) (cmpF .NotIn (varD 1) (conF (.str "0123456789abcdefghijklmnopqrstuvwxyz"))) (conF (.int 1))) (lstF 0 nilF)))
nilS)))
noncomputable def F_law_is_name : Fn := ⟨["_law_item"], List.replicate 1 none, [(1, [])], defRun 2 false b_law_is_name⟩
noncomputable def bis_name : FS :=
(seqF (ifS (orF (notF (isinF "str" (varD 0))) (orF (notF (chainF .Lt .LtE (conF (.int 0)) (primF 0 .len (consF (varD 0) nilF)) (conF (.int (8))))) (cmpF .In (varD 0) (conF (.tup [(.str "any"), (.str "at"), (.str "look"), (.str "registers"), (.str "self"), (.str "start")])))))
(seqF (retF (conF (.bl false)))
nilS)
nilS)
(seqF (retF (andF (cmpF .In (ixF (varD 0) (conF (.int 0))) (conF (.str "abcdefghijklmnopqrstuvwxyz"))) (primF 0 .all (consF (compF 0 [1] (.name 1) (walkF (varD 0)) (fun _ st => .ok (.bl true) st) (cmpF .In (varD 1) (binF 0 .Add (conF (.str "abcdefghijklmnopqrstuvwxyz")) (conF (.str "0123456789"))))) nilF))))
nilS))
noncomputable def Fis_name : Fn := ⟨["thing"], List.replicate 1 none, [(1, []), (0, ["thing"])], defRun 2 false bis_name⟩
noncomputable def blaw : FS :=
(seqF (asgF (.name 1) (callF F_law_deck (consF (varD 0) nilF) [] nilF))
(seqF (forF (.name 2) (rngF (consF (conF (.int 5)) nilF))
(seqF (ifS (notF (callF F_law_forms_right (consF (varD 1) (consF (binF 0 .Add (conF (.int 1)) (callF F_law_draw (consF (varD 1) (consF (conF (.int 4)) nilF)) [] nilF)) nilF)) [] nilF))
(seqF (retF (conF (.bl false)))
nilS)
nilS)
nilS))
(seqF (forF (.name 2) (rngF (consF (conF (.int 12)) nilF))
(seqF (asgF (.name 3) (callF F_law_word (consF (varD 1) nilF) [] nilF))
(seqF (parF 4 5 (consF (callF F_law_is_name (consF (varD 3) nilF) [] nilF) (consF (primF 0 .repr (consF (varD 3) nilF)) nilF)))
(seqF (ifS (orF (cmpF .NotEq (primF 0 .repr (consF (lstF 0 (consF (callF Fis_name (consF (varD 3) nilF) [] nilF) (consF (callF Fis_name nilF ["thing"] (consF (varD 3) nilF)) nilF))) nilF)) (primF 0 .repr (consF (lstF 0 (consF (varD 4) (consF (varD 4) nilF))) nilF))) (cmpF .NotEq (primF 0 .repr (consF (varD 3) nilF)) (varD 5)))
(seqF (retF (conF (.bl false)))
nilS)
nilS)
nilS))))
(seqF (asgF (.name 6) (binF 0 .Pow (binF 0 .Pow (conF (.int 10)) (conF (.int 57))) (conF (.int 7))))
(seqF (asgF (.name 7) (lstF 0 (consF (callF Fis_form (consF (conF (.int 1)) (consF (tupF (consF (varD 6) (consF (binF 0 .Sub (conF (.int 0)) (varD 6)) nilF))) nilF)) [] nilF) (consF (callF Fis_form (consF (conF (.int 2)) (consF (tupF (consF (varD 6) (consF (binF 0 .Sub (conF (.int 0)) (varD 6)) nilF))) nilF)) [] nilF) (consF (callF Fis_form (consF (conF (.int 1)) (consF (tupF (consF (varD 6) (consF (conF (.bl true)) nilF))) nilF)) [] nilF) (consF (callF Fis_name (consF (varD 6) nilF) [] nilF) nilF))))))
(seqF (ifS (cmpF .NotEq (primF 0 .repr (consF (varD 7) nilF)) (primF 0 .repr (consF (lstF 0 (consF (conF (.bl true)) (consF (conF (.bl false)) (consF (conF (.bl false)) (consF (conF (.bl false)) nilF))))) nilF)))
(seqF (retF (conF (.bl false)))
nilS)
nilS)
(seqF (retF (cmpF .Eq (callF Fvalue_of (consF (binF 0 .Add (tupF (consF (conF (.int 5)) nilF)) (binF 0 .Mult (tupF (consF (conF (.int 0)) nilF)) (conF (.int 4)))) (consF (tupF (consF (conF (.int 1)) (consF (conF (.int 2)) (consF (conF (.int 3)) (consF (conF (.int 4)) nilF))))) nilF)) [] nilF) (conF (.int 5))))
nilS)))))))
noncomputable def Flaw : Fn := ⟨["_law_script"], List.replicate 1 none, [(1, [])], defRun 8 false blaw⟩
@[simp] theorem bd_law_deck_0 {u0 : D} : F_law_deck.bind [u0] [] [] = some [u0] := rfl
theorem rn_law_deck {ds : List D} {st : Store} : F_law_deck.run ds st = defRun 3 true b_law_deck ds st := rfl
@[simp] theorem bd_law_draw_0 {u0 u1 : D} : F_law_draw.bind [u0, u1] [] [] = some [u0, u1] := rfl
theorem rn_law_draw {ds : List D} {st : Store} : F_law_draw.run ds st = defRun 5 false b_law_draw ds st := rfl
@[simp] theorem bd_law_pick_0 {u0 u1 : D} : F_law_pick.bind [u0, u1] [] [] = some [u0, u1] := rfl
theorem rn_law_pick {ds : List D} {st : Store} : F_law_pick.run ds st = defRun 2 false b_law_pick ds st := rfl
@[simp] theorem bd_law_number_0 {u0 : D} : F_law_number.bind [u0] [] [] = some [u0] := rfl
theorem rn_law_number {ds : List D} {st : Store} : F_law_number.run ds st = defRun 2 false b_law_number ds st := rfl
@[simp] theorem bd_law_made_0 {u0 u1 : D} : F_law_made.bind [u0, u1] [] [] = some [u0, u1] := rfl
theorem rn_law_made {ds : List D} {st : Store} : F_law_made.run ds st = defRun 3 false b_law_made ds st := rfl
@[simp] theorem bd_law_bent_0 {u0 u1 : D} : F_law_bent.bind [u0, u1] [] [] = some [u0, u1] := rfl
theorem rn_law_bent {ds : List D} {st : Store} : F_law_bent.run ds st = defRun 5 false b_law_bent ds st := rfl
@[simp] theorem bdis_integer_0 {u0 : D} : Fis_integer.bind [u0] [] [] = some [u0] := rfl
theorem rnis_integer {ds : List D} {st : Store} : Fis_integer.run ds st = defRun 1 false bis_integer ds st := rfl
@[simp] theorem bdis_form_0 {w0 w1 : D} : Fis_form.bind [] ["thing", "count"] [w0, w1] = some [w1, w0] := rfl
@[simp] theorem bdis_form_1 {u0 u1 : D} : Fis_form.bind [u0, u1] [] [] = some [u0, u1] := rfl
theorem rnis_form {ds : List D} {st : Store} : Fis_form.run ds st = defRun 3 false bis_form ds st := rfl
@[simp] theorem bd_law_is_form_0 {u0 u1 : D} : F_law_is_form.bind [u0, u1] [] [] = some [u0, u1] := rfl
theorem rn_law_is_form {ds : List D} {st : Store} : F_law_is_form.run ds st = defRun 3 false b_law_is_form ds st := rfl
@[simp] theorem bd_law_sum_0 {u0 u1 : D} : F_law_sum.bind [u0, u1] [] [] = some [u0, u1] := rfl
theorem rn_law_sum {ds : List D} {st : Store} : F_law_sum.run ds st = defRun 4 false b_law_sum ds st := rfl
@[simp] theorem bdvalue_of_0 {w0 w1 : D} : Fvalue_of.bind [] ["values", "form"] [w0, w1] = some [w1, w0] := rfl
@[simp] theorem bdvalue_of_1 {u0 u1 : D} : Fvalue_of.bind [u0, u1] [] [] = some [u0, u1] := rfl
theorem rnvalue_of {ds : List D} {st : Store} : Fvalue_of.run ds st = defRun 4 false bvalue_of ds st := rfl
@[simp] theorem bd_law_forms_right_0 {u0 u1 : D} : F_law_forms_right.bind [u0, u1] [] [] = some [u0, u1] := rfl
theorem rn_law_forms_right {ds : List D} {st : Store} : F_law_forms_right.run ds st = defRun 11 false b_law_forms_right ds st := rfl
@[simp] theorem bd_law_word_0 {u0 : D} : F_law_word.bind [u0] [] [] = some [u0] := rfl
theorem rn_law_word {ds : List D} {st : Store} : F_law_word.run ds st = defRun 7 false b_law_word ds st := rfl
@[simp] theorem bd_law_is_name_0 {u0 : D} : F_law_is_name.bind [u0] [] [] = some [u0] := rfl
theorem rn_law_is_name {ds : List D} {st : Store} : F_law_is_name.run ds st = defRun 2 false b_law_is_name ds st := rfl
@[simp] theorem bdis_name_0 {u0 : D} : Fis_name.bind [u0] [] [] = some [u0] := rfl
@[simp] theorem bdis_name_1 {w0 : D} : Fis_name.bind [] ["thing"] [w0] = some [w0] := rfl
theorem rnis_name {ds : List D} {st : Store} : Fis_name.run ds st = defRun 2 false bis_name ds st := rfl
@[simp] theorem bdlaw_0 {u0 : D} : Flaw.bind [u0] [] [] = some [u0] := rfl
theorem rnlaw {ds : List D} {st : Store} : Flaw.run ds st = defRun 8 false blaw ds st := rfl
end K02

namespace K02
open PySem PySem.Spec PyProof.Rows L2 Px
section
variable {X : XQ} {n : Nat} {st : Store} {Q : D → Store → Prop}
theorem w_draw {k : Int} (hk : Dk n st) (h0 : 0 < k) (h1 : k < 1073741824) : W (F_law_draw.run [.cell 1, .int k] st) (fun d st' => ∃ r, d = .int r ∧ 0 ≤ r ∧ r < k ∧ Dk n st') noX :=
  draw_W hk h0 h1 (by decide) (by decide) (by decide) (by decide) (by decide)
theorem w_deck {ns : List Int} (h : ns.length ≤ 63) : W (F_law_deck.run [.lck (ns.map .int)] []) (fun d st' => d = .cell 1 ∧ Dk 2 st') noX :=
  deck_W h rfl (by decide) (by decide) (by decide)
theorem w_pickL {xs : List D} (hk : Dk n st) (h0 : xs ≠ []) (h1 : xs.length < 1000000) : W (F_law_pick.run [.cell 1, .lst xs] st) (fun d st' => d ∈ xs ∧ Dk n st') noX := by
  rw [rn_law_pick]
  refine W_run (ρ0 := [some (.cell 1), some (.lst xs)]) rfl ?_
  unfold b_law_pick
  simp
  refine (w_draw (k := (xs.length : Int)) hk (by have := List.length_pos_iff.mpr h0; omega) (by omega)).go ?_
  rintro _ st' ⟨r, rfl, r0, r1, hk'⟩
  obtain ⟨d, e, hm⟩ := atI_ok (xs := xs) r0 r1
  simp only [W_ixL]
  refine ⟨d, e, ?_⟩
  rw [W_close (by rw [hk'.len, hk.len])]
  exact ⟨hm, hk'⟩
theorem w_pickS {x : Str} (hk : Dk n st) (h0 : 0 < x.length) (h1 : x.length < 1000) : W (F_law_pick.run [.cell 1, .str x] st) (fun d st' => (∃ c ∈ x.cps.toList, d = .str ⟨#[c]⟩) ∧ Dk n st') noX := by
  rw [rn_law_pick]
  refine W_run (ρ0 := [some (.cell 1), some (.str x)]) rfl ?_
  unfold b_law_pick
  have hl : x.length ≤ lim := Nat.le_trans (Nat.le_of_lt h1) (by decide)
  simp [len_str hl]
  refine (w_draw (k := (x.length : Int)) hk (by omega) (by omega)).go ?_
  rintro _ st' ⟨r, rfl, r0, r1, hk'⟩
  have hl2 : x.length = x.cps.toList.length := by simp [Str.length]
  obtain ⟨c, e, hm⟩ := atI_ok (xs := x.cps.toList) r0 (by omega)
  simp only [W_ixS]
  refine ⟨hl, c, e, ?_⟩
  rw [W_close (by rw [hk'.len, hk.len])]
  exact ⟨⟨c, by simpa using hm, rfl⟩, hk'⟩
theorem limV : lim = 1000000 := rfl
theorem all_mem {α : Type} {p : α → Bool} {xs : List α} {d : α} (h : xs.all p = true) (hm : d ∈ xs) : p d = true := List.all_eq_true.mp h d hm
/-- a small number -/
def smI : D → Bool
  | .int i => decide (i.natAbs < 2 ^ 140)
  | _ => false
theorem smI_ok {d : D} (h : smI d = true) : ∃ i : Int, d = .int i ∧ i.natAbs < 2 ^ 140 := by
  cases d with
  | int i => exact ⟨i, rfl, of_decide_eq_true h⟩
  | _ => cases h
theorem w_number (hk : Dk n st) : W (F_law_number.run [.cell 1] st) (fun d st' => smI d = true ∧ Dk n st') noX := by
  rw [rn_law_number]
  refine W_run (ρ0 := [some (.cell 1), none]) rfl ?_
  unfold b_law_number
  simp
  refine ⟨by decide, by decide, by decide, by decide, by decide, ?_⟩
  refine (w_pickL hk (by simp) (by decide)).go ?_
  rintro d st' ⟨hm, hk'⟩
  rw [W_close (by rw [hk'.len, hk.len])]
  exact ⟨all_mem (p := smI) (by decide) hm, hk'⟩
/-- a tuple of small numbers -/
def smT (m : Nat) (d : D) : Prop := ∃ xs, d = .tup xs ∧ xs.length = m ∧ ∀ x ∈ xs, smI x = true
theorem w_numbers {k : Nat} {ρ' : Px.Env} {i : Nat} {f : Fx D} (hk : Dk n st) (hk1 : k < 1000) (hf : ∀ j st, f (ρ'.set i (some (.int j))) st = F_law_number.run [.cell 1] st) {Q : List D → Store → Prop} (q : ∀ acc st', acc.length = k → (∀ x ∈ acc, smI x = true) → Dk n st' → Q acc st') :
    W (compLoop (.name i) (fun _ st => .ok (.bl true) st) f none ρ' ((List.range k).map fun (k : Nat) => D.int (k : Int)) [] st) Q X := by
  refine W_compAll (fun acc st => (∀ x ∈ acc, smI x = true) ∧ Dk n st) _ _ _ ⟨fun x h => by simp at h, hk⟩ ?_ True.intro ?_
  · rintro acc x st hx ⟨h1, h2⟩ _
    obtain ⟨j, _, rfl⟩ := List.mem_map.mp hx
    refine ⟨_, setT_name, ?_⟩
    rw [hf]
    refine (w_number h2).go ?_
    rintro d st' ⟨hd, hk'⟩
    refine ⟨True.intro, fun y hy => ?_, hk'⟩
    rcases List.mem_append.mp hy with q | q
    · exact h1 y q
    · simp at q; subst q; exact hd
  · rintro acc' st' ⟨h1, h2⟩ _ hl
    exact q acc' st' (by simpa using hl) h1 h2
theorem w_made {m : Int} (hk : Dk n st) (h0 : 0 ≤ m) (h1 : m < 100) : W (F_law_made.run [.cell 1, .int m] st) (fun d st' => smT (m.toNat + 1) d ∧ Dk n st') noX := by
  rw [rn_law_made]
  refine W_run (ρ0 := [some (.cell 1), some (.int m), none]) rfl ?_
  unfold b_law_made
  have hr : rngOf [.int (m + 1)] = some ((List.range (m + 1).toNat).map fun (k : Nat) => D.int (k : Int)) := by
    show (if _ then _ else _) = _
    rw [if_pos (by simp; omega)]
  simp [W_comp, hr]
  refine ⟨by have := limV; omega, ?_⟩
  refine w_numbers hk (by omega) (fun j st => rfl) fun acc st' hl hs hk' => ?_
  have hl' : acc.length ≤ lim := by have := limV; omega
  refine ⟨hl', ?_⟩
  rw [W_close (by rw [hk'.len, hk.len])]
  exact ⟨⟨acc, rfl, by omega, hs⟩, hk'⟩
theorem cut_mem {α : Type} {xs : List α} {l h : Option Int} {x : α} (hm : x ∈ cutL xs l h) : x ∈ xs := List.mem_of_mem_drop (List.mem_of_mem_take hm)
theorem cut_len {α : Type} {xs : List α} {l h : Option Int} : (cutL xs l h).length ≤ xs.length := by
  unfold cutL
  rw [List.length_take, List.length_drop]; omega
theorem gd_sm {x : D} (h : smI x = true) : Gd 1000 2 x := by
  obtain ⟨i, rfl, h'⟩ := smI_ok h
  have : i.natAbs.log2 < 200 := by
    by_cases z : i.natAbs = 0
    · rw [z]; decide
    · exact (Nat.log2_lt z).mpr (Nat.lt_trans h' (show 2 ^ 140 < 2 ^ 200 by decide))
  exact (gd_int this (by decide) (by decide)).mono (by decide) (by decide)
/-- what is drawn to be a form or none -/
structure Itm (d : D) : Prop where
  gd : Gd 20000 4 d
  len : ∀ xs, d = .tup xs → xs.length ≤ 50
theorem itm_tup {xs : List D} (h : ∀ x ∈ xs, Gd 1000 2 x) (hl : xs.length ≤ 15) : Itm (.tup xs) :=
  ⟨(gd_tup h).mono (by have : xs.length * 1002 ≤ 15 * 1002 := Nat.mul_le_mul_right _ hl; omega) (by decide), fun ys e => by cases e; omega⟩
theorem itm_lst {xs : List D} (h : ∀ x ∈ xs, Gd 1000 2 x) (hl : xs.length ≤ 10) : Itm (.lst xs) :=
  ⟨(gd_lst h).mono (by have : xs.length * 1002 ≤ 10 * 1002 := Nat.mul_le_mul_right _ hl; omega) (by decide), fun ys e => by cases e⟩
theorem itm_smT {m : Nat} {d : D} (h : smT m d) (hm : m ≤ 10) : Itm d := by
  obtain ⟨xs, rfl, hl, hs⟩ := h
  exact itm_tup (fun x hx => gd_sm (hs x hx)) (by omega)
theorem gd_smT {m : Nat} {xs : List D} (hs : ∀ x ∈ xs, smI x = true) (hm : xs.length ≤ 5) : Gd 1000 2 (.tup xs) := by
  have g : ∀ x ∈ xs, Gd 150 0 x := fun x hx => by
    obtain ⟨i, rfl, h⟩ := smI_ok (hs x hx)
    have : i.natAbs.log2 < 140 := by
      by_cases z : i.natAbs = 0
      · rw [z]; decide
      · exact (Nat.log2_lt z).mpr h
    exact (gd_int this (by decide) (by decide)).mono (by decide) (by decide)
  exact (gd_tup g).mono (by have : xs.length * 152 ≤ 5 * 152 := Nat.mul_le_mul_right _ hm; omega) (by decide)
theorem w_bent {m : Nat} {it : D} (hk : Dk n st) (h : smT m it) (h1 : 1 ≤ m) (h2 : m ≤ 5) : W (F_law_bent.run [.cell 1, it] st) (fun d st' => Itm d ∧ Dk n st') noX := by
  obtain ⟨xs, rfl, hl, hs⟩ := h
  rw [rn_law_bent]
  refine W_run (ρ0 := [some (.cell 1), some (.tup xs), none, none, none]) rfl ?_
  unfold b_law_bent
  simp
  refine (w_draw (k := (xs.length : Int)) hk (by omega) (by omega)).go ?_
  rintro _ st1 ⟨r, rfl, r0, r1, hk1⟩
  refine (w_draw (k := 7) hk1 (by decide) (by decide)).go ?_
  rintro _ st2 ⟨r2, rfl, _, _, hk2⟩
  refine ⟨_, _, ⟨rfl, rfl⟩, ?_⟩
  have hc : ∀ {d : D} {st' : Store} {Q : D → Store → Prop} {X : XQ}, Dk n st' → (W (close (List.length st) d st') Q X ↔ Q d st') := fun h => W_close (by rw [h.len, hk.len])
  have c1 : ∀ (l h : Option Int), (cutL xs l h).length ≤ 5 := fun l h => Nat.le_trans cut_len (by omega)
  have hL := limV
  have gxs : ∀ x ∈ xs, Gd 1000 2 x := fun x hx => gd_sm (hs x hx)
  have gT : Gd 1000 2 (.tup xs) := gd_smT (m := m) hs (by omega)
  simp [hc hk2]
  by_cases z0 : r2 = 0
  · right
    refine ⟨z0, by have := c1 none (some r); have := c1 (some (r + 1)) none; omega, itm_tup (fun x hx => ?_) ?_, hk2⟩
    · rcases List.mem_append.mp hx with q | q
      · exact gxs x (cut_mem q)
      · exact gxs x (cut_mem q)
    · rw [List.length_append]; have := c1 none (some r); have := c1 (some (r + 1)) none; omega
  left
  refine ⟨z0, ?_⟩
  by_cases z1 : r2 = 1
  · right
    refine ⟨z1, (w_number hk2).go ?_⟩
    rintro d st3 ⟨hd, hk3⟩
    refine ⟨by omega, by have := c1 none (some r); omega, by have := c1 none (some r); have := c1 (some r) none; omega, ?_⟩
    rw [hc hk3]
    refine ⟨itm_tup (fun x hx => ?_) ?_, hk3⟩
    · rcases List.mem_append.mp hx with q | q
      · exact gxs x (cut_mem q)
      · rcases List.mem_cons.mp q with q | q
        · subst q; exact gd_sm hd
        · exact gxs x (cut_mem q)
    · rw [List.length_append, List.length_cons]; have := c1 none (some r); have := c1 (some r) none; omega
  left
  refine ⟨z1, ?_⟩
  by_cases z2 : r2 = 2
  · right
    exact ⟨z2, by omega, itm_lst gxs (by omega), hk2⟩
  left
  refine ⟨z2, ?_⟩
  by_cases z3 : r2 = 3
  · right
    refine ⟨z3, by omega, by omega, (w_pickL hk2 (by simp) (by simp)).go ?_⟩
    rintro d st3 ⟨hd, hk3⟩
    rw [hc hk3]
    refine ⟨?_, hk3⟩
    simp only [List.mem_cons, List.not_mem_nil, or_false] at hd
    rcases hd with h | h | h | h | h | h | h | h | h | h <;> subst h
    · exact ⟨gd_non.mono (by decide) (by decide), fun _ e => by cases e⟩
    · exact ⟨(gd_int (i := 5) (k := 10) (by decide) (by decide) (by decide)).mono (by decide) (by decide), fun _ e => by cases e⟩
    · exact ⟨(gd_str (n := 10) (by decide) (by decide)).mono (by decide) (by decide), fun _ e => by cases e⟩
    · exact ⟨(gd_str (n := 10) (by decide) (by decide)).mono (by decide) (by decide), fun _ e => by cases e⟩
    · exact itm_tup (fun _ h => by cases h) (by decide)
    · exact itm_lst (fun _ h => by cases h) (by decide)
    · exact ⟨gd_dct0.mono (by decide) (by decide), fun _ e => by cases e⟩
    · exact ⟨gd_bl.mono (by decide) (by decide), fun _ e => by cases e⟩
    · exact itm_tup (fun x h => by simp at h; subst h; exact gT) (by simp)
    · exact ⟨(gd_str (n := 10) (by decide) (by decide)).mono (by decide) (by decide), fun _ e => by cases e⟩
  left
  refine ⟨z3, by omega, by omega, (w_pickL hk2 (by simp) (by simp)).go ?_⟩
  rintro d st3 ⟨hd, hk3⟩
  refine ⟨by omega, by have := c1 none (some r); omega, by have := c1 none (some r); have := c1 (some (r + 1)) none; omega, ?_⟩
  rw [hc hk3]
  have gd : Gd 1000 2 d := by
    simp only [List.mem_cons, List.not_mem_nil, or_false] at hd
    rcases hd with h | h | h | h | h | h | h | h | h <;> subst h
    · exact gd_bl.mono (by decide) (by decide)
    · exact gd_bl.mono (by decide) (by decide)
    · exact gd_non.mono (by decide) (by decide)
    · exact (gd_str (n := 10) (by decide) (by decide)).mono (by decide) (by decide)
    · exact (gd_tup (w := 20) (k := 0) fun x h => by simp at h; subst h; exact (gd_int (k := 10) (by decide) (by decide) (by decide)).mono (by decide) (by decide)).mono (by decide) (by decide)
    · exact (gd_lst (w := 20) (k := 0) fun x h => by simp at h; subst h; exact (gd_int (k := 10) (by decide) (by decide) (by decide)).mono (by decide) (by decide)).mono (by decide) (by decide)
    · exact gd_dct0.mono (by decide) (by decide)
    · exact (gd_tup (w := 20) (k := 0) fun x h => by cases h).mono (by decide) (by decide)
    · exact gT
  refine ⟨itm_tup (fun x hx => ?_) ?_, hk3⟩
  · rcases List.mem_append.mp hx with q | q
    · exact gxs x (cut_mem q)
    · rcases List.mem_cons.mp q with q | q
      · subst q; exact gd
      · exact gxs x (cut_mem q)
  · rw [List.length_append, List.length_cons]; have := c1 none (some r); have := c1 (some (r + 1)) none; omega
/-! ### is_integer, is_form, the law's own looks -/
def isI : D → Bool
  | .int _ => true
  | _ => false
theorem W.eqn {α : Type} {r : R α} {a : α} {st : Store} (h : W r (fun x s => x = a ∧ s = st) noX) : r = .ok a st := by
  obtain ⟨x, s, e, rfl, rfl⟩ := h.ok
  exact e
theorem r_is_integer {w k : Nat} {d : D} (h : Gd w k d) : Fis_integer.run [d] st = .ok (.bl (isI d)) st := by
  obtain ⟨q, hq, _⟩ := h
  refine W.eqn ?_
  rw [rnis_integer]
  refine W_run (ρ0 := [some d]) rfl ?_
  unfold bis_integer
  cases d with
  | obj c ns vs => rw [D.py] at hq; cases hq
  | cell n => rw [D.py] at hq; cases hq
  | ty n => rw [D.py] at hq; cases hq
  | lck xs => rw [D.py] at hq; cases hq
  | _ => simp [isI, tyNames]
/-- a form of so many registers -/
def isF (c : Int) : D → Bool
  | .tup xs => decide ((xs.length : Int) = c + 1) && xs.all isI
  | _ => false
theorem py_gd {w k : Nat} {xs : List D} (h : Gd w k (.tup xs)) : ∀ x ∈ xs, ∃ q, x.py = some q := by
  obtain ⟨q, hq, _⟩ := h
  rw [D.py] at hq
  have : ∀ (xs : List D) {qs : List PyData}, pys xs = some qs → ∀ x ∈ xs, ∃ q, x.py = some q := by
    intro xs
    induction xs with
    | nil => intro qs _ x hx; cases hx
    | cons y ys ih =>
      intro qs e x hx
      rw [pys] at e
      cases e1 : y.py with
      | none => rw [e1] at e; cases e
      | some a =>
        cases e2 : pys ys with
        | none => rw [e1, e2] at e; cases e
        | some b =>
          rcases List.mem_cons.mp hx with z | z
          · subst z; exact ⟨a, e1⟩
          · exact ih e2 x z
  cases e : pys xs with
  | none => rw [e] at hq; cases hq
  | some qs => exact this xs e
theorem r_is_integer' {d : D} {q : PyData} (hq : d.py = some q) : Fis_integer.run [d] st = .ok (.bl (isI d)) st := by
  refine W.eqn ?_
  rw [rnis_integer]
  refine W_run (ρ0 := [some d]) rfl ?_
  unfold bis_integer
  cases d with
  | obj c ns vs => rw [D.py] at hq; cases hq
  | cell n => rw [D.py] at hq; cases hq
  | ty n => rw [D.py] at hq; cases hq
  | lck xs => rw [D.py] at hq; cases hq
  | _ => simp [isI, tyNames]
theorem filter_true {α : Type} : ∀ xs : List α, xs.filter (fun _ => true) = xs
  | [] => rfl
  | x :: xs => by rw [List.filter_cons, if_pos rfl, filter_true xs]
theorem r_is_form {c : Int} {d : D} (h : Itm d) : Fis_form.run [.int c, d] st = .ok (.bl (isF c d)) st := by
  refine W.eqn ?_
  rw [rnis_form]
  refine W_run (ρ0 := [some (.int c), some d, none]) rfl ?_
  obtain ⟨q, hq, _⟩ := h.gd
  have hL := limV
  unfold bis_form
  cases d with
  | obj c ns vs => rw [D.py] at hq; cases hq
  | cell n => rw [D.py] at hq; cases hq
  | ty n => rw [D.py] at hq; cases hq
  | lck xs => rw [D.py] at hq; cases hq
  | tup xs =>
    have hlen := h.len xs rfl
    have hp := py_gd h.gd
    simp [isF, tyNames]
    by_cases hc : (xs.length : Int) = c + 1
    · right
      refine ⟨hc, ?_⟩
      rw [W_comp]
      simp [walkOf, and_assoc]
      refine ⟨by omega, W_compP (fun _ => true) (fun x => .bl (isI x)) _ _ _ (fun x hx => ⟨_, setT_name, rfl, fun _ => W.eqn ?_⟩) ?_⟩
      · obtain ⟨q, e⟩ := hp x hx
        simp [wipeE, r_is_integer' e]
      · rw [filter_true]
        simp only [List.nil_append, W_all]
        refine ⟨by rw [List.length_map]; omega, ?_⟩
        simp [hc]
    · left
      refine ⟨hc, ?_⟩
      simp [hc]
  | _ => simp [isF, tyNames]
theorem eqD_lnil {k : Nat} : eqD st (.lst (List.replicate k (.int 1))) (.lst []) = some (k == 0) := by
  have e : List.replicate k (D.int 1) = (List.replicate k (1 : Int)).map .int := by rw [List.map_replicate]
  rw [e]
  generalize hgs : List.replicate k (1 : Int) = gs
  have hk : (k == 0) = gs.isEmpty := by subst hgs; cases k <;> rfl
  rw [hk]
  have e1 : view st (.lst (gs.map .int)) = some (.lst (gs.map .int)) := by
    show frz (cellV 0 st 8) _ = _
    rw [frz_id _ _ (by rw [noCell]; exact noCells_ints gs)]
  have e2 : view st (.lst []) = some (.lst []) := rfl
  have e3 : (D.lst (gs.map .int)).py = some (.list (gs.map PyData.int)) := by rw [D.py, py_ints]; rfl
  have e4 : (D.lst []).py = some (.list []) := rfl
  show (match view st (.lst (gs.map .int)), view st (.lst []) with
    | some x, some y => match x.py, y.py with
      | some p, some q => if SeqAt.shaped p && SeqAt.shaped q then some (PyData.eqv p q) else none
      | _, _ => none
    | _, _ => none) = _
  rw [e1, e2]
  simp only [e3, e4]
  have l := lay_ints gs
  have hs : SeqAt.shaped (.list (gs.map PyData.int)) = true := by
    unfold SeqAt.shaped
    rw [PyData.canLay0, PyData.depth, l.1, l.2]; rfl
  have hs2 : SeqAt.shaped (.list []) = true := rfl
  rw [hs, hs2]
  cases gs <;> rfl
theorem map_const {α : Type} {a : D} : ∀ xs : List α, xs.map (fun _ => a) = List.replicate xs.length a
  | [] => rfl
  | x :: xs => by rw [List.map_cons, map_const xs]; rfl
theorem r_law_is_form {c : Int} {d : D} (h : Itm d) : F_law_is_form.run [.int c, d] st = .ok (.bl (isF c d)) st := by
  refine W.eqn ?_
  rw [rn_law_is_form]
  refine W_run (ρ0 := [some (.int c), some d, none]) rfl ?_
  obtain ⟨q, hq, _⟩ := h.gd
  have hL := limV
  unfold b_law_is_form
  cases d with
  | obj c ns vs => rw [D.py] at hq; cases hq
  | cell n => rw [D.py] at hq; cases hq
  | ty n => rw [D.py] at hq; cases hq
  | lck xs => rw [D.py] at hq; cases hq
  | tup xs =>
    have hlen := h.len xs rfl
    have hp := py_gd h.gd
    simp [isF, tyNames]
    by_cases hc : (xs.length : Int) = c + 1
    · left
      refine ⟨hc, ?_⟩
      rw [W_comp]
      simp [walkOf, and_assoc]
      refine ⟨by omega, W_compP (fun x => !isI x) (fun x => .int 1) _ _ _ (fun x hx => ⟨_, setT_name, W.eqn ?_, fun _ => rfl⟩) ?_⟩
      · obtain ⟨q, e⟩ := hp x hx
        cases x with
        | obj c ns vs => rw [D.py] at e; cases e
        | cell n => rw [D.py] at e; cases e
        | ty n => rw [D.py] at e; cases e
        | lck xs => rw [D.py] at e; cases e
        | _ => simp [wipeE, isI, tyNames]
      · simp only [List.nil_append, map_const]
        refine ⟨by rw [List.length_replicate]; exact Nat.le_trans (List.length_filter_le _ _) (by omega), ?_⟩
        rw [W_eq]
        refine ⟨_, eqD_lnil, ?_⟩
        rw [W_close_self]
        refine ⟨congrArg D.bl ?_, rfl⟩
        rw [Bool.eq_iff_iff]
        simp [List.filter_eq_nil_iff]
        intro _; exact hc
    · right
      simp [hc]
  | _ => simp [isF, tyNames]
/-! ### sums -/
/-- a small number's value -/
def iv : D → Int
  | .int i => i
  | _ => 0
theorem iv_sm {d : D} (h : smI d = true) : d = .int (iv d) := by
  obtain ⟨i, rfl, _⟩ := smI_ok h
  rfl
def dot : List Int → List Int → Int
  | a :: as, b :: bs => a * b + dot as bs
  | _, _ => 0
theorem r_value_of {a : Int} {xs ys : List Int} (hl : xs.length = ys.length) (h5 : xs.length ≤ 5) (hm : ∀ x ∈ xs, x.natAbs < 2 ^ 140) (hm2 : ∀ x ∈ ys, x.natAbs < 2 ^ 140) : Fvalue_of.run [.tup ((a :: xs).map .int), .tup (ys.map .int)] st = .ok (.int (a + dot xs ys)) st := by
  refine W.eqn ?_
  rw [rnvalue_of]
  refine W_run (ρ0 := [some (.tup ((a :: xs).map .int)), some (.tup (ys.map .int)), none, none]) rfl ?_
  have hL := limV
  unfold bvalue_of
  have a0 : atI (((a :: xs).map D.int)) 0 = some (.int a) := atI_nat rfl
  simp [-List.map_cons, a0, and_assoc]
  rw [W_comp]
  have hcut : cutL ((a :: xs).map D.int) (some 1) none = xs.map D.int := by
    unfold cutL
    have e1 : HT.sIx ((a :: xs).map D.int).length 0 (some ((1 : Nat) : Int)) = min 1 ((a :: xs).map D.int).length := HT.sIx_nat _ _ _
    have e1' : HT.sIx ((a :: xs).map D.int).length 0 (some 1) = 1 := e1.trans (by simp)
    have e2 : HT.sIx ((a :: xs).map D.int).length ((a :: xs).map D.int).length none = ((a :: xs).map D.int).length := rfl
    rw [e1', e2]; simp
    rw [List.take_of_length_le (by simp)]
  simp [-List.map_cons, hcut, zipOf, and_assoc]
  have hz : ((xs.map D.int).zip (ys.map D.int)).map (fun p => D.tup [p.1, p.2]) = (xs.zip ys).map fun p => D.tup [.int p.1, .int p.2] := by
    rw [List.zip_map, List.map_map]; rfl
  rw [hz]
  refine ⟨by omega, ?_⟩
  refine W_compP (fun _ => true) (fun d => match d with | .tup [.int a, .int b] => .int (a * b) | _ => .non) _ _ _ (fun x hx => ?_) ?_
  · obtain ⟨⟨u, v⟩, hp, rfl⟩ := List.mem_map.mp hx
    have hu := hm u (List.of_mem_zip hp).1
    have hv := hm2 v (List.of_mem_zip hp).2
    have hmul : mulOk u v = true := by
      unfold mulOk
      have : u.natAbs.log2 < 200 := by
        by_cases z : u.natAbs = 0
        · rw [z]; decide
        · exact (Nat.log2_lt z).mpr (Nat.lt_trans hu (show 2 ^ 140 < 2 ^ 200 by decide))
      have : v.natAbs.log2 < 200 := by
        by_cases z : v.natAbs = 0
        · rw [z]; decide
        · exact (Nat.log2_lt z).mpr (Nat.lt_trans hv (show 2 ^ 140 < 2 ^ 200 by decide))
      simp; right; omega
    refine ⟨[some (.tup ((a :: xs).map .int)), some (.tup (ys.map .int)), some (.int u), some (.int v)], by simp [wipeE], rfl, fun _ => W.eqn ?_⟩
    simp [hmul]
  · rw [filter_true]
    have hmm : ((xs.zip ys).map fun p => D.tup [.int p.1, .int p.2]).map (fun d => match d with | .tup [.int a, .int b] => D.int (a * b) | _ => .non) = (xs.zip ys).map fun p => D.int (p.1 * p.2) := by
      rw [List.map_map]; rfl
    rw [hmm]
    simp only [List.nil_append, W_sum, W_add]
    refine ⟨by rw [List.length_map, List.length_zip]; omega, ?_⟩
    rw [W_close_self]
    refine ⟨?_, rfl⟩
    have hd : ∀ xs ys : List Int, ((xs.zip ys).map fun p => p.1 * p.2).sum = dot xs ys := by
      intro xs
      induction xs with
      | nil => intro ys; rfl
      | cons x xs ih =>
        intro ys
        cases ys with
        | nil => rfl
        | cons y ys => simp [dot, ih]
    rw [hd]
theorem sum_desc (h : Nat → Int) : ∀ n : Nat, ((List.range n).map fun k => h (n - 1 - k)).sum = ((List.range n).map h).sum
  | 0 => rfl
  | n + 1 => by
    have ih := sum_desc h n
    rw [List.range_succ_eq_map]
    have e : ((0 :: (List.range n).map Nat.succ).map fun k => h (n + 1 - 1 - k)).sum = h n + ((List.range n).map fun k => h (n - 1 - k)).sum := by
      rw [List.map_cons, List.sum_cons, List.map_map]
      congr 2
      refine List.map_congr_left fun k _ => ?_
      show h (n + 1 - 1 - (k + 1)) = h (n - 1 - k)
      congr 1; omega
    rw [e, ih, ← List.range_succ_eq_map, List.range_succ, List.map_append, List.sum_append]
    simp; omega
theorem dot_range : ∀ xs ys : List Int, xs.length = ys.length → ((List.range ys.length).map fun k => ys.getD k 0 * xs.getD k 0).sum = dot xs ys
  | [], [], _ => rfl
  | x :: xs, [], h => by simp at h
  | [], y :: ys, h => by simp at h
  | x :: xs, y :: ys, h => by
    have ih := dot_range xs ys (by simpa using h)
    rw [List.length_cons, List.range_succ_eq_map, List.map_cons, List.sum_cons, List.map_map]
    show y * x + _ = x * y + dot xs ys
    rw [← ih, Int.mul_comm y x]; rfl
theorem r_law_sum {a : Int} {xs ys : List Int} (hl : xs.length = ys.length) (h5 : xs.length ≤ 5) (hm : ∀ x ∈ xs, x.natAbs < 2 ^ 140) (hm2 : ∀ x ∈ ys, x.natAbs < 2 ^ 140) : F_law_sum.run [.tup ((a :: xs).map .int), .tup (ys.map .int)] st = .ok (.int (a + dot xs ys)) st := by
  refine W.eqn ?_
  rw [rn_law_sum]
  refine W_run (ρ0 := [some (.tup ((a :: xs).map .int)), some (.tup (ys.map .int)), none, none]) rfl ?_
  have hL := limV
  unfold b_law_sum
  have hr : rngOf [.int ((ys.length : Int) - 1), .int (-1), .int (-1)] = some ((List.range ys.length).map fun (k : Nat) => D.int ((ys.length : Int) - 1 - (k : Int))) := by
    show (if _ then _ else _) = _
    rw [if_pos (by simp; omega)]
    have : ((ys.length : Int) - 1 - -1).toNat = ys.length := by omega
    rw [this]
  simp [-List.map_cons, hr, and_assoc]
  let g : D → Int := fun d => match d with | .int j => ys.getD j.toNat 0 * xs.getD j.toNat 0 | _ => 0
  refine W_forL (fun done ρ st' => st' = st ∧ ∃ d, ρ = [some (.tup ((a :: xs).map .int)), some (.tup (ys.map .int)), some (.int (done.map g).sum), d]) [] _ _ _ ⟨rfl, none, rfl⟩ ?_ ?_
  · rintro done x rest ρ st' _ ⟨rfl, d, rfl⟩ hx
    obtain ⟨k, hk, rfl⟩ := List.mem_map.mp hx
    rw [List.mem_range] at hk
    refine ⟨_, setT_name, ?_⟩
    have ej : (ys.length : Int) - 1 - (k : Int) = ((ys.length - 1 - k : Nat) : Int) := by omega
    have hj : ys.length - 1 - k < ys.length := by omega
    rw [ej]
    generalize ys.length - 1 - k = j at hj
    have a1 : atI (ys.map D.int) (j : Int) = some (.int (ys.getD j 0)) := atI_nat (by rw [List.getElem?_map, List.getElem?_eq_getElem hj]; simp [List.getD, hj])
    have a2 : atI ((a :: xs).map D.int) ((j : Int) + 1) = some (.int (xs.getD j 0)) := atI_nat (j := j + 1) (by rw [List.map_cons, List.getElem?_cons_succ, List.getElem?_map, List.getElem?_eq_getElem (by omega)]; simp [List.getD, show j < xs.length by omega])
    have lg : ∀ u : Int, u.natAbs < 2 ^ 140 → u.natAbs.log2 < 200 := fun u hu => by
      by_cases z : u.natAbs = 0
      · rw [z]; decide
      · exact (Nat.log2_lt z).mpr (Nat.lt_trans hu (show 2 ^ 140 < 2 ^ 200 by decide))
    have hmul : mulOk (ys.getD j 0) (xs.getD j 0) = true := by
      have h1 := lg (ys.getD j 0) (hm2 _ (by simp [List.getD, hj]))
      have h2 := lg (xs.getD j 0) (hm _ (by simp [List.getD, show j < xs.length by omega]))
      unfold mulOk
      simp only [Bool.or_eq_true, decide_eq_true_eq]; right; omega
    simp [-List.map_cons, a1, a2, guardOk]
    exact ⟨by simpa using hmul, by simp [g]⟩
  · rintro ρ st' ⟨rfl, d, rfl⟩
    have a0 : atI (((a :: xs).map D.int)) 0 = some (.int a) := atI_nat rfl
    simp [-List.map_cons, a0]
    have e1 : ((List.range ys.length).map (g ∘ fun (k : Nat) => D.int ((ys.length : Int) - 1 - (k : Int)))).sum = dot xs ys := by
      rw [← dot_range xs ys hl, ← sum_desc (fun k => ys.getD k 0 * xs.getD k 0)]
      congr 1
      refine List.map_congr_left fun k hk => ?_
      rw [List.mem_range] at hk
      have ej : (ys.length : Int) - 1 - (k : Int) = ((ys.length - 1 - k : Nat) : Int) := by omega
      show g (D.int ((ys.length : Int) - 1 - (k : Int))) = _
      rw [ej]; simp [g]
    rw [e1]; omega
/-! ### the whole look at a form -/
theorem mulL2 {b : D} {mu : Nat} {Q : D → Store → Prop} {X : XQ} : W (binD mu .Mult (.lst [b]) (.int 2) st) Q X ↔ W (mkL mu [b, b] st) Q X := by
  rw [W_mulL (by decide) (by simp [limV]) (by decide)]; rfl
theorem gd_l2 {b c : Bool} : Gd 1000 2 (.lst [.bl b, .bl c]) := (gd_lst (w := 5) (k := 0) fun x h => by
  simp only [List.mem_cons, List.not_mem_nil, or_false] at h
  rcases h with h | h <;> subst h <;> exact gd_bl).mono (by simp) (by decide)
theorem smT_ints {k : Nat} {d : D} (h : smT k d) : ∃ is : List Int, d = .tup (is.map .int) ∧ is.length = k ∧ ∀ i ∈ is, i.natAbs < 2 ^ 140 := by
  obtain ⟨xs, rfl, hl, hs⟩ := h
  refine ⟨xs.map iv, ?_, by rw [List.length_map]; exact hl, fun i hi => ?_⟩
  · rw [List.map_map]
    congr 1
    exact ((List.map_congr_left fun x hx => (iv_sm (hs x hx)).symm).trans (List.map_id _)).symm
  · obtain ⟨x, hx, rfl⟩ := List.mem_map.mp hi
    obtain ⟨i, rfl, h⟩ := smI_ok (hs x hx)
    exact h
set_option exponentiation.threshold 400
theorem dot_le : ∀ xs ys : List Int, (∀ i ∈ xs, i.natAbs < 2 ^ 140) → (∀ i ∈ ys, i.natAbs < 2 ^ 140) → (dot xs ys).natAbs ≤ xs.length * 2 ^ 280
  | [], _, _, _ => by simp [dot]
  | _ :: _, [], _, _ => by simp [dot]
  | x :: xs, y :: ys, h1, h2 => by
    have ih := dot_le xs ys (fun i hi => h1 i (List.mem_cons_of_mem _ hi)) fun i hi => h2 i (List.mem_cons_of_mem _ hi)
    have hx := h1 x List.mem_cons_self
    have hy := h2 y List.mem_cons_self
    have hm : (x * y).natAbs ≤ 2 ^ 140 * 2 ^ 140 := by rw [Int.natAbs_mul]; exact Nat.mul_le_mul (Nat.le_of_lt hx) (Nat.le_of_lt hy)
    have ha : (x * y + dot xs ys).natAbs ≤ (x * y).natAbs + (dot xs ys).natAbs := Int.natAbs_add_le _ _
    have e : (2 : Nat) ^ 140 * 2 ^ 140 = 2 ^ 280 := by rw [← Nat.pow_add]
    show (x * y + dot xs ys).natAbs ≤ (xs.length + 1) * 2 ^ 280
    rw [Nat.add_mul, Nat.one_mul]
    omega
theorem gd_due {a : Int} {xs ys : List Int} (ha : a.natAbs < 2 ^ 140) (h5 : xs.length ≤ 5) (h1 : ∀ i ∈ xs, i.natAbs < 2 ^ 140) (h2 : ∀ i ∈ ys, i.natAbs < 2 ^ 140) : Gd 10000 2 (.lst [.int (a + dot xs ys), .int (a + dot xs ys)]) := by
  have h3 := dot_le xs ys h1 h2
  have h4 : xs.length * 2 ^ 280 ≤ 5 * 2 ^ 280 := Nat.mul_le_mul_right _ h5
  have h6 : (a + dot xs ys).natAbs ≤ a.natAbs + (dot xs ys).natAbs := Int.natAbs_add_le _ _
  have h7 : (a + dot xs ys).natAbs < 2 ^ 300 := by
    have e1 : 2 ^ 140 + 5 * 2 ^ 280 < 2 ^ 300 := by decide
    exact Nat.lt_of_le_of_lt (Nat.le_trans h6 (Nat.add_le_add (Nat.le_of_lt ha) (Nat.le_trans h3 h4))) e1
  have hl : (a + dot xs ys).natAbs.log2 < 300 := by
    by_cases z : (a + dot xs ys).natAbs = 0
    · rw [z]; decide
    · exact (Nat.log2_lt z).mpr h7
  exact (gd_lst (w := 301) (k := 0) fun x h => by
    simp only [List.mem_cons, List.not_mem_nil, or_false] at h
    rcases h with h | h <;> subst h <;> exact gd_int hl (by decide) (by decide)).mono (by simp) (by decide)
theorem w_forms_right {m : Int} (hk : Dk n st) (h1 : 1 ≤ m) (h4 : m ≤ 4) : W (F_law_forms_right.run [.cell 1, .int m] st) (fun d st' => d = .bl true ∧ Dk n st') noX := by
  rw [rn_law_forms_right]
  refine W_run (ρ0 := [some (.cell 1), some (.int m), none, none, none, none, none, none, none, none, none]) rfl ?_
  have hL := limV
  have hc : ∀ {d : D} {st' : Store} {Q : D → Store → Prop} {X : XQ}, Dk n st' → (W (close (List.length st) d st') Q X ↔ Q d st') := fun h => W_close (by rw [h.len, hk.len])
  unfold b_law_forms_right
  simp
  refine (w_made hk (by omega) (by omega)).go ?_
  rintro it st1 ⟨hT, hk1⟩
  refine (w_bent hk1 hT (by omega) (by omega)).go ?_
  rintro d2 st2 ⟨i2, hk2⟩
  refine (w_made hk2 (by omega) (by omega)).go ?_
  rintro d3 st3 ⟨hT3, hk3⟩
  refine (w_bent hk3 hT3 (by omega) (by omega)).go ?_
  rintro d4 st4 ⟨i4, hk4⟩
  refine ⟨by omega, [it, d2, d4], none, rfl, ?_⟩
  refine W_forL (fun done ρ st' => st' = st4 ∧ ∃ e4 e5 e6 e7, ρ = [some (.cell 1), some (.int m), some it, some d2, e4, e5, e6, e7, none, none, none]) [] _ _ _ ⟨rfl, none, none, none, none, rfl⟩ ?_ ?_
  · rintro done x rest ρ st' _ ⟨rfl, e4, e5, e6, e7, rfl⟩ hx
    have ix : Itm x := by
      simp only [List.mem_cons, List.not_mem_nil, or_false] at hx
      rcases hx with h | h | h <;> subst h
      · exact itm_smT hT (by omega)
      · exact i2
      · exact i4
    refine ⟨_, setT_name, ?_⟩
    have hR : ∀ {st : Store} {Q : D → Store → Prop} {X : XQ} {mu : Nat}, W (primD mu .repr [x] st) Q X ↔ Q (.str (shw x)) st := W_repr ix.gd
    have hB : ∀ {st : Store} {Q : D → Store → Prop} {X : XQ} {mu : Nat} {b c : Bool}, W (primD mu .repr [.lst [.bl b, .bl c]] st) Q X ↔ Q (.str (shw (.lst [.bl b, .bl c]))) st := W_repr gd_l2
    have hr : rngOf [.int 1, .int 5] = some [.int 1, .int 2, .int 3, .int 4] := rfl
    simp [hR, hr, and_assoc]
    refine W_forL (fun done ρ st'' => st'' = st' ∧ ∃ e6 e7, ρ = [some (.cell 1), some (.int m), some it, some d2, some x, some (.str (shw x)), e6, e7, none, none, none]) [] _ _ _ ⟨rfl, _, _, rfl⟩ ?_ ?_
    · rintro done y rest ρ st'' _ ⟨rfl, e6, e7, rfl⟩ hy
      obtain ⟨j, rfl⟩ : ∃ j : Int, y = .int j := by
        simp only [List.mem_cons, List.not_mem_nil, or_false] at hy
        rcases hy with h | h | h | h <;> exact ⟨_, h⟩
      refine ⟨_, setT_name, ?_⟩
      simp [r_is_form ix, r_law_is_form ix, mulL2, hR, hB, guardOk]
      try omega
    · rintro ρ st'' ⟨rfl, e6, e7, rfl⟩
      simp [guardOk]
  · rintro ρ st' ⟨rfl, e4, e5, e6, e7, rfl⟩
    simp [W_comp]
    have hr : rngOf [.int m] = some ((List.range m.toNat).map fun (k : Nat) => D.int (k : Int)) := by
      show (if _ then _ else _) = _
      rw [if_pos (by simp; omega)]
    refine ⟨_, hr, by rw [List.length_map, List.length_range]; omega, ?_⟩
    refine w_numbers hk4 (by omega) (fun j st => rfl) fun acc st5 hl hs hk5 => ?_
    obtain ⟨is, rfl, hil, his⟩ := smT_ints hT
    obtain ⟨js, e2, hjl, hjs⟩ := smT_ints (⟨acc, rfl, hl, hs⟩ : smT m.toNat (.tup acc))
    cases e2
    cases is with
    | nil => simp at hil
    | cons a as =>
      have hal : as.length = js.length := by simp at hil; omega
      have ha5 : as.length ≤ 5 := by omega
      have hda : ∀ i ∈ as, i.natAbs < 2 ^ 140 := fun i hi => his i (List.mem_cons_of_mem _ hi)
      have hD : ∀ {st : Store} {Q : D → Store → Prop} {X : XQ} {mu : Nat}, W (primD mu .repr [.lst [.int (a + dot as js), .int (a + dot as js)]] st) Q X ↔ Q (.str (shw (.lst [.int (a + dot as js), .int (a + dot as js)]))) st := W_repr (gd_due (his a List.mem_cons_self) ha5 hda hjs)
      refine ⟨by omega, ?_⟩
      rw [r_law_sum hal ha5 hda hjs, W_ok, r_value_of hal ha5 hda hjs, W_ok, r_value_of hal ha5 hda hjs, W_ok]
      refine ⟨by omega, ?_⟩
      rw [hD]
      refine ⟨by omega, ?_⟩
      rw [hD, W_eqS, hc hk5]
      exact ⟨by simp, hk5⟩
/-! ### words -/
def inS (z : Str) (c : Nat) : Bool := !(Builtin.Str.occurrences z ⟨#[c]⟩ 0 z.length 1).isEmpty
def sigma : List Nat := ("abcdefghijklmnopqrstuvwxyz0123456789A_ -.Z'\n" : Str).cps.toList
def isD (c : Nat) : Bool := decide (48 ≤ c) && decide (c ≤ 57)
def isL (c : Nat) : Bool := decide (97 ≤ c) && decide (c ≤ 122)
theorem sig1 : (sigma.all fun c => inS "abcdefghijklmnopqrstuvwxyz" c == isL c) = true := by decide +kernel
theorem sig2 : (sigma.all fun c => inS "0123456789" c == isD c) = true := by decide +kernel
theorem sig3 : (sigma.all fun c => inS ("abcdefghijklmnopqrstuvwxyz" ++ "0123456789" : Str) c == (isL c || isD c)) = true := by decide +kernel
theorem sig4 : (sigma.all fun c => inS "0123456789abcdefghijklmnopqrstuvwxyz" c == (isL c || isD c)) = true := by decide +kernel
def kept (x : Str) : Bool := [("any" : Str), "at", "look", "registers", "self", "start"].any fun z => z == x
def first (x : Str) : Bool := match x.cps.toList with
  | c :: _ => isL c
  | [] => false
def nm : D → Bool
  | .str x => decide (0 < x.length) && (decide (x.length ≤ 8) && (!kept x && (first x && x.cps.toList.all fun c => isL c || isD c)))
  | _ => false
structure Wd (d : D) : Prop where
  gd : Gd 2000 3 d
  sg : ∀ x, d = .str x → x.length ≤ 100 ∧ ∀ c ∈ x.cps.toList, c ∈ sigma
theorem in_kept {x : Str} : inD st (.str x) (.tup [.str "any", .str "at", .str "look", .str "registers", .str "self", .str "start"]) = some (kept x) := rfl
theorem in_str {c : Nat} {z : Str} : inD st (.str ⟨#[c]⟩) (.str z) = some (inS z c) := rfl
theorem sg_of {z : Str} {f : Nat → Bool} (h : (sigma.all fun c => inS z c == f c) = true) {c : Nat} (hc : c ∈ sigma) : inS z c = f c := by
  have := List.all_eq_true.mp h c hc
  exact eq_of_beq this
theorem r_is_name {d : D} (h : Wd d) : Fis_name.run [d] st = .ok (.bl (nm d)) st := by
  refine W.eqn ?_
  rw [rnis_name]
  refine W_run (ρ0 := [some d, none]) rfl ?_
  obtain ⟨q, hq, _⟩ := h.gd
  have hL := limV
  unfold bis_name
  cases d with
  | obj c ns vs => rw [D.py] at hq; cases hq
  | cell n => rw [D.py] at hq; cases hq
  | ty n => rw [D.py] at hq; cases hq
  | lck xs => rw [D.py] at hq; cases hq
  | str x =>
    obtain ⟨hl, hs⟩ := h.sg x rfl
    have hx : x.length ≤ lim := by omega
    generalize hN : nm (.str x) = N
    have hN : N = (decide (0 < x.length) && (decide (x.length ≤ 8) && (!kept x && (first x && x.cps.toList.all fun c => isL c || isD c)))) := hN.symm
    simp [tyNames, len_str hx, W_in, in_kept, in_str]
    by_cases z0 : x.length = 0
    · left; exact ⟨z0, by rw [hN]; simp [z0]⟩
    right
    refine ⟨by omega, ?_⟩
    by_cases z1 : 8 < x.length
    · left; exact ⟨by omega, by rw [hN]; simp only [show ¬ x.length ≤ 8 by omega, decide_false, Bool.false_and, Bool.and_false]⟩
    right
    refine ⟨by omega, ?_⟩
    by_cases z2 : kept x = true
    · right; exact ⟨z2, by rw [hN, z2]; simp⟩
    left
    refine ⟨by simpa using z2, hx, ?_⟩
    obtain ⟨c, cs, e⟩ : ∃ c cs, x.cps.toList = c :: cs := by
      cases e : x.cps.toList with
      | nil =>
        have : x.length = x.cps.toList.length := by simp [Str.length]
        rw [e] at this; exact absurd this z0
      | cons c cs => exact ⟨c, cs, rfl⟩
    refine ⟨c, by rw [e]; exact atI_nat rfl, ?_⟩
    rw [sg_of sig1 (hs c (by rw [e]; exact List.mem_cons_self))]
    have hf : first x = isL c := by unfold first; rw [e]
    have hN2 : N = (isL c && x.cps.toList.all fun c => isL c || isD c) := by
      rw [hN, hf, show kept x = false by simpa using z2]
      simp only [show 0 < x.length by omega, show x.length ≤ 8 by omega, decide_true, Bool.true_and, Bool.not_false]
    have hlen : x.cps.toList.length ≤ 100 := by
      have : x.length = x.cps.toList.length := by simp [Str.length]
      omega
    cases hc : isL c with
    | false => left; exact ⟨rfl, by rw [hN2, hc]; rfl⟩
    | true =>
      right
      refine ⟨rfl, ?_⟩
      rw [W_comp]
      simp only [W_walk, W_var, List.getElem?_cons_zero, Option.some.injEq, exists_eq_left']
      refine ⟨_, rfl, by simp only [List.length_map]; omega, W_compP (fun _ => true) (fun d => match d with | .str y => (match y.cps.toList with | [c] => .bl (isL c || isD c) | _ => .non) | _ => .non) _ _ _ (fun d hd => ?_) ?_⟩
      · obtain ⟨u, hu, rfl⟩ := List.mem_map.mp hd
        refine ⟨_, setT_name, rfl, fun _ => W.eqn ?_⟩
        have h3 := sg_of sig3 (hs u hu)
        simp [wipeE, W_in, in_str]
        refine ⟨by rw [hL]; decide, ?_⟩
        rw [h3]
        cases isL u <;> cases isD u <;> simp
      · rw [filter_true, List.map_map]
        have em : (x.cps.toList.map ((fun d => match d with | .str y => (match y.cps.toList with | [c] => D.bl (isL c || isD c) | _ => .non) | _ => .non) ∘ fun c => D.str ⟨#[c]⟩)) = x.cps.toList.map fun c => D.bl (isL c || isD c) := rfl
        rw [em]
        simp only [List.nil_append, W_mkL0, W_all]
        refine ⟨by rw [List.length_map]; omega, ?_⟩
        rw [W_close_self]
        exact ⟨by rw [hN2, hc]; rfl, rfl⟩
  | _ => simp [nm, tyNames]
theorem r_law_is_name {d : D} (h : Wd d) : F_law_is_name.run [d] st = .ok (.bl (nm d)) st := by
  refine W.eqn ?_
  rw [rn_law_is_name]
  refine W_run (ρ0 := [some d, none]) rfl ?_
  obtain ⟨q, hq, _⟩ := h.gd
  have hL := limV
  unfold b_law_is_name
  cases d with
  | obj c ns vs => rw [D.py] at hq; cases hq
  | cell n => rw [D.py] at hq; cases hq
  | ty n => rw [D.py] at hq; cases hq
  | lck xs => rw [D.py] at hq; cases hq
  | str x =>
    obtain ⟨hl, hs⟩ := h.sg x rfl
    have hx : x.length ≤ lim := by omega
    generalize hN : nm (.str x) = N
    have hN : N = (decide (0 < x.length) && (decide (x.length ≤ 8) && (!kept x && (first x && x.cps.toList.all fun c => isL c || isD c)))) := hN.symm
    simp [tyNames, len_str hx, W_in, in_kept, in_str]
    by_cases z0 : x.length = 0
    · have e : N = false := by rw [hN]; simp [z0]
      simp [z0, e]
    obtain ⟨c, cs, e⟩ : ∃ c cs, x.cps.toList = c :: cs := by
      cases e : x.cps.toList with
      | nil =>
        have : x.length = x.cps.toList.length := by simp [Str.length]
        rw [e] at this; exact absurd this z0
      | cons c cs => exact ⟨c, cs, rfl⟩
    have hf : first x = isL c := by unfold first; rw [e]
    have hlen : x.cps.toList.length ≤ 100 := by
      have : x.length = x.cps.toList.length := by simp [Str.length]
      omega
    have hat : atI x.cps.toList 0 = some c := by rw [e]; exact atI_nat rfl
    have h2 := sg_of sig2 (hs c (by rw [e]; exact List.mem_cons_self))
    have hld : isL c = true → isD c = false := by
      unfold isL isD
      simp; omega
    right
    refine ⟨by omega, ?_⟩
    by_cases z1 : 8 < x.length
    · left; exact ⟨by omega, by rw [hN]; simp only [show ¬ x.length ≤ 8 by omega, decide_false, Bool.false_and, Bool.and_false]⟩
    right
    refine ⟨by omega, hx, c, hat, ?_⟩
    rw [h2]
    have hN2 : N = (!kept x && (isL c && x.cps.toList.all fun c => isL c || isD c)) := by
      rw [hN, hf]
      simp only [show 0 < x.length by omega, show x.length ≤ 8 by omega, decide_true, Bool.true_and]
    cases hd : isD c with
    | true =>
      right
      refine ⟨rfl, ?_⟩
      have : isL c = false := by
        cases hc : isL c with
        | false => rfl
        | true => rw [hld hc] at hd; cases hd
      rw [hN2, this]; simp
    | false =>
      left
      refine ⟨rfl, by omega, ?_⟩
      cases z2 : kept x with
      | true => right; exact ⟨rfl, by rw [hN2, z2]; rfl⟩
      | false =>
        left
        refine ⟨rfl, ?_⟩
        rw [W_comp]
        simp only [W_walk, W_var, List.getElem?_cons_zero, Option.some.injEq, exists_eq_left']
        refine ⟨_, rfl, by simp only [List.length_map]; omega, W_compP (fun d => match d with | .str y => (match y.cps.toList with | [c] => !(isL c || isD c) | _ => false) | _ => false) (fun _ => .int 1) _ _ _ (fun d hd => ?_) ?_⟩
        · obtain ⟨u, hu, rfl⟩ := List.mem_map.mp hd
          refine ⟨_, setT_name, W.eqn ?_, fun _ => rfl⟩
          have h3 := sg_of sig4 (hs u hu)
          simp [wipeE, W_notIn, in_str]
          rw [h3]
          cases isL u <;> cases isD u <;> simp
        · simp only [List.nil_append, map_const, W_mkL0]
          refine ⟨by rw [List.length_replicate]; exact Nat.le_trans (List.length_filter_le _ _) (by rw [List.length_map]; omega), ?_⟩
          rw [W_eq]
          refine ⟨_, eqD_lnil, ?_⟩
          rw [W_close_self]
          refine ⟨congrArg D.bl ?_, rfl⟩
          rw [List.filter_map, List.length_map, hN2, z2]
          have ef : ((fun d => match d with | .str y => (match y.cps.toList with | [c] => !(isL c || isD c) | _ => false) | _ => false) ∘ fun c => D.str ⟨#[c]⟩) = fun c => !(isL c || isD c) := rfl
          rw [ef]
          have hall : (List.length (x.cps.toList.filter fun c => !(isL c || isD c)) == 0) = x.cps.toList.all fun c => isL c || isD c := by
            rw [Bool.eq_iff_iff, List.all_eq_true, beq_iff_eq, List.length_eq_zero_iff, List.filter_eq_nil_iff]
            exact ⟨fun h c hc => by have := h c hc; revert this; cases isL c <;> cases isD c <;> simp, fun h c hc => by have := h c hc; revert this; cases isL c <;> cases isD c <;> simp⟩
          rw [hall]
          cases hA : x.cps.toList.all fun c => isL c || isD c with
          | false => simp
          | true =>
            have := List.all_eq_true.mp hA c (by rw [e]; exact List.mem_cons_self)
            rw [hd] at this
            simp at this
            rw [this]; rfl
  | _ => simp [nm, tyNames]
/-- signs that are drawn -/
def wS (n : Nat) (x : Str) : Prop := x.length ≤ n ∧ ∀ c ∈ x.cps.toList, c ∈ sigma
theorem wS_app {a b : Nat} {x y : Str} (h : wS a x) (h' : wS b y) : wS (a + b) (x ++ y) := by
  have e : (x ++ y).cps.toList = x.cps.toList ++ y.cps.toList := by
    show (x.cps ++ y.cps).toList = _
    simp
  have el : (x ++ y).length = x.length + y.length := strLen_append x y
  refine ⟨by have := h.1; have := h'.1; omega, fun c hc => ?_⟩
  rw [e] at hc
  rcases List.mem_append.mp hc with q | q
  · exact h.2 c q
  · exact h'.2 c q
theorem wS_cut {a : Nat} {x : Str} {l h : Option Int} (hx : wS a x) : wS a (cutS x l h) := by
  have e : (cutS x l h).cps.toList = (x.cps.toList.drop (HT.sIx x.length 0 l)).take (HT.sIx x.length x.length h - HT.sIx x.length 0 l) := by
    unfold cutS; simp
  have el : ∀ z : Str, z.length = z.cps.toList.length := fun z => by simp [Str.length]
  refine ⟨?_, fun c hc => ?_⟩
  · rw [el, e, List.length_take, List.length_drop]
    have := hx.1
    rw [el] at this; omega
  · rw [e] at hc
    exact hx.2 c (List.mem_of_mem_drop (List.mem_of_mem_take hc))
theorem wS_mono {a b : Nat} {x : Str} (h : wS a x) (hab : a ≤ b) : wS b x := ⟨Nat.le_trans h.1 hab, h.2⟩
theorem wS_one {c : Nat} (h : c ∈ sigma) : wS 1 ⟨#[c]⟩ := ⟨Nat.le_refl _, fun d hd => by
  have : d ∈ [c] := hd
  rw [List.mem_singleton] at this
  subst this; exact h⟩
def wB (n : Nat) (x : Str) : Bool := decide (x.length ≤ n) && x.cps.toList.all fun c => sigma.contains c
theorem wS_of {n : Nat} {x : Str} (h : wB n x = true) : wS n x := by
  unfold wB at h
  rw [Bool.and_eq_true, decide_eq_true_eq, List.all_eq_true] at h
  exact ⟨h.1, fun c hc => by simpa using h.2 c hc⟩
theorem sig_small : ∀ c ∈ sigma, c < 16 ^ 8 := by
  have h : (sigma.all fun c => decide (c < 16 ^ 8)) = true := by decide +kernel
  intro c hc
  exact of_decide_eq_true (List.all_eq_true.mp h c hc)
theorem wd_str {x : Str} (h : wS 100 x) : Wd (.str x) :=
  ⟨(gd_str h.1 fun c hc => sig_small c (h.2 c hc)).mono (by decide) (by decide), fun y e => by cases e; exact h⟩
theorem wd_of {d : D} (h : Gd 2000 3 d) (hd : ∀ x, d ≠ .str x) : Wd d := ⟨h, fun x e => absurd e (hd x)⟩
/-- the drawn ones that are told -/
def wdB : D → Bool
  | .str x => wB 100 x
  | .non => true
  | .bl _ => true
  | .int i => decide (i.natAbs < 2 ^ 100)
  | .tup xs => xs.all fun y => match y with | .str z => wB 100 z | _ => false
  | .lst xs => xs.all fun y => match y with | .str z => wB 100 z | _ => false
  | .dct [] [] => true
  | _ => false
theorem wdB_ok {d : D} (h : wdB d = true) (hl : ∀ xs, d = .tup xs ∨ d = .lst xs → xs.length ≤ 1) : Wd d := by
  have gs : ∀ {xs : List D}, (xs.all fun y => match y with | .str z => wB 100 z | _ => false) = true → ∀ y ∈ xs, Gd 1100 0 y := fun {xs} hx y hy => by
    have := List.all_eq_true.mp hx y hy
    cases y with
    | str z =>
      have h := wS_of this
      exact (gd_str h.1 fun c hc => sig_small c (h.2 c hc)).mono (by decide) (by decide)
    | _ => cases this
  cases d with
  | str x => exact wd_str (wS_of h)
  | non => exact wd_of (gd_non.mono (by decide) (by decide)) (fun x => by simp)
  | bl b => exact wd_of (gd_bl.mono (by decide) (by decide)) (fun x => by simp)
  | int i =>
    have h : i.natAbs < 2 ^ 100 := of_decide_eq_true h
    have : i.natAbs.log2 < 100 := by
      by_cases z : i.natAbs = 0
      · rw [z]; decide
      · exact (Nat.log2_lt z).mpr h
    exact wd_of ((gd_int this (by decide) (by decide)).mono (by decide) (by decide)) (fun x => by simp)
  | tup xs =>
    have := hl xs (.inl rfl)
    have hm : xs.length * 1102 ≤ 1 * 1102 := Nat.mul_le_mul_right _ this
    exact wd_of ((gd_tup (gs h)).mono (by omega) (by decide)) (fun x => by simp)
  | lst xs =>
    have := hl xs (.inr rfl)
    have hm : xs.length * 1102 ≤ 1 * 1102 := Nat.mul_le_mul_right _ this
    exact wd_of ((gd_lst (gs h)).mono (by omega) (by decide)) (fun x => by simp)
  | dct ks vs =>
    cases ks with
    | nil =>
      cases vs with
      | nil => exact wd_of (gd_dct0.mono (by decide) (by decide)) (fun x => by simp)
      | cons v vs => cases h
    | cons k ks => cases vs <;> cases h
  | obj c ns vs => cases h
  | cell n => cases h
  | ty n => cases h
  | lck xs => cases h
def shB : D → Bool
  | .tup xs => decide (xs.length ≤ 1)
  | .lst xs => decide (xs.length ≤ 1)
  | _ => true
theorem wd_all {xs : List D} {d : D} (h : (xs.all fun d => wdB d && shB d) = true) (hd : d ∈ xs) : Wd d := by
  have := List.all_eq_true.mp h d hd
  rw [Bool.and_eq_true] at this
  refine wdB_ok this.1 fun ys e => ?_
  rcases e with e | e <;> subst e <;> exact of_decide_eq_true this.2
theorem sub_sig {x : Str} (h : (x.cps.toList.all fun c => sigma.contains c) = true) {c : Nat} (hc : c ∈ x.cps.toList) : c ∈ sigma := by
  have := List.all_eq_true.mp h c hc
  simpa using this
theorem w_word (hk : Dk n st) : W (F_law_word.run [.cell 1] st) (fun d st' => Wd d ∧ Dk n st') noX := by
  rw [rn_law_word]
  refine W_run (ρ0 := [some (.cell 1), none, none, none, none, none, none]) rfl ?_
  have hL := limV
  have hc : ∀ {d : D} {st' : Store} {Q : D → Store → Prop} {X : XQ}, Dk n st' → (W (close (List.length st) d st') Q X ↔ Q d st') := fun h => W_close (by rw [h.len, hk.len])
  unfold b_law_word
  simp
  refine (w_draw (k := 6) hk (by decide) (by decide)).go ?_
  rintro _ st1 ⟨r, rfl, r0, r1, hk1⟩
  refine ⟨_, _, ⟨rfl, rfl⟩, ?_⟩
  simp
  by_cases z0 : r = 0
  · right
    refine ⟨z0, by omega, (w_pickL hk1 (by simp) (by simp)).go ?_⟩
    rintro d st2 ⟨hd, hk2⟩
    rw [hc hk2]
    exact ⟨wd_all (by decide +kernel) hd, hk2⟩
  left
  refine ⟨z0, ?_⟩
  by_cases z1 : r = 1
  · right
    refine ⟨z1, ?_⟩
    refine ⟨by omega, by omega, by omega, by omega, (w_pickL hk1 (by simp) (by simp)).go ?_⟩
    rintro d st2 ⟨hd, hk2⟩
    rw [hc hk2]
    exact ⟨wd_all (by decide +kernel) hd, hk2⟩
  left
  refine ⟨z1, ?_⟩
  refine (w_pickS hk1 (by decide) (by decide)).go ?_
  rintro _ st2 ⟨⟨c, hc1, rfl⟩, hk2⟩
  have hcs : c ∈ sigma := sub_sig (x := "abcmyz") (by decide +kernel) hc1
  refine (w_draw (k := 9) hk2 (by decide) (by decide)).go ?_
  rintro _ st3 ⟨r3, rfl, r30, r31, hk3⟩
  have hr : rngOf [.int r3] = some ((List.range r3.toNat).map fun (k : Nat) => D.int (k : Int)) := by
    show (if _ then _ else _) = _
    rw [if_pos (by simp; omega)]
  refine ⟨_, hr, ?_⟩
  refine W_forN (fun m ρ st' => Dk n st' ∧ ∃ x d5, wS (1 + m) x ∧ ρ = [some (.cell 1), some (.int r), some (.str "abcmyz"), none, some (.str x), d5, none]) r3.toNat 0 _ _ _ (by simp) ⟨hk3, _, none, wS_one hcs, rfl⟩ ?_ ?_
  · rintro m y ρ st' hm ⟨hk', x, d5, hx, rfl⟩ hy
    refine ⟨_, setT_name, ?_⟩
    simp
    refine ⟨by rw [hL]; decide, (w_pickS hk' (by decide) (by decide)).go ?_⟩
    rintro _ st5 ⟨⟨c5, hc5, rfl⟩, hk5⟩
    have hs5 : c5 ∈ sigma := sub_sig (x := ("abcmyz" : Str) ++ ("0189" : Str)) (by decide +kernel) hc5
    have hx1 := hx.1
    simp [guardOk]
    refine ⟨by show x.length + 1 ≤ lim; omega, hk5, ?_⟩
    have := wS_app hx (wS_one hs5)
    exact wS_mono this (by omega)
  · rintro ρ st' ⟨hk', x, d5, hx, rfl⟩
    have hx1 := hx.1
    simp
    by_cases z3 : 3 < r
    · right
      refine ⟨z3, ?_⟩
      rw [hc hk']
      exact ⟨wd_str (wS_mono hx (by omega)), hk'⟩
    left
    refine ⟨by omega, x.length, len_str (by omega), (w_draw (k := (x.length : Int) + 1) hk' (by omega) (by omega)).go ?_⟩
    rintro _ st6 ⟨r6, rfl, r60, r61, hk6⟩
    refine ⟨r6, rfl, by omega, (w_pickS hk6 (by decide) (by decide)).go ?_⟩
    rintro _ st7 ⟨⟨c7, hc7, rfl⟩, hk7⟩
    have hs7 : c7 ∈ sigma := sub_sig (x := "0A_ -.x9Z'") (by decide +kernel) hc7
    have k1 : wS (1 + r3.toNat) (cutS x none (some r6)) := wS_cut hx
    have k2 := wS_app k1 (wS_one hs7)
    have k3 : wS (1 + r3.toNat) (cutS x (some (r6 + r - 2)) none) := wS_cut hx
    have k4 := wS_app k2 k3
    have k11 := k1.1
    have k21 := k2.1
    have k31 := k3.1
    rw [W_addS]
    refine ⟨by show (cutS x none (some r6)).length + 1 ≤ lim; omega, ?_⟩
    simp
    refine ⟨by omega, by omega, ?_⟩
    rw [hc hk7]
    exact ⟨wd_str (wS_mono k4 (by omega)), hk7⟩
theorem gd_l4 {a b c e : Bool} : Gd 1000 2 (.lst [.bl a, .bl b, .bl c, .bl e]) := (gd_lst (w := 5) (k := 0) fun x h => by
  simp only [List.mem_cons, List.not_mem_nil, or_false] at h
  rcases h with h | h | h | h <;> subst h <;> exact gd_bl).mono (by simp) (by decide)
theorem great_gd {i : Int} (h : i.natAbs.log2 < 1400) : Gd 1401 0 (.int i) := gd_int h (by decide) (by decide)
theorem W_closeB {b : Bool} {p : D → Prop} : W (close 0 (.bl b) st) (fun d _ => p d) X ↔ p (.bl b) := by
  unfold close
  split
  · exact Iff.rfl
  · have e : frz (cellV 0 st 8) (.bl b) = some (.bl b) := by rw [frz]
    rw [e]
    simp
theorem law_right0 {ns : List Int} (h : ns.length ≤ 63) : W (Flaw.run [.lck (ns.map .int)] []) (fun d _ => d = .bl true) noX := by
  rw [rnlaw]
  refine W_run (ρ0 := [some (.lck (ns.map .int)), none, none, none, none, none, none, none]) rfl ?_
  have hL := limV
  unfold blaw
  simp [-Int.reducePow, -Nat.reducePow]
  refine (w_deck h).go ?_
  rintro _ st1 ⟨rfl, hk1⟩
  have hr5 : rngOf [.int 5] = some [.int 0, .int 1, .int 2, .int 3, .int 4] := rfl
  have hr12 : rngOf [.int 12] = some [.int 0, .int 1, .int 2, .int 3, .int 4, .int 5, .int 6, .int 7, .int 8, .int 9, .int 10, .int 11] := rfl
  refine ⟨_, hr5, ?_⟩
  refine W_forN (fun m ρ st' => Dk 2 st' ∧ ∃ e2, ρ = [some (.lck (ns.map .int)), some (.cell 1), e2, none, none, none, none, none]) 5 0 _ _ _ rfl ⟨hk1, none, rfl⟩ ?_ ?_
  · rintro m y ρ st2 _ ⟨hk2, e2, rfl⟩ _
    refine ⟨_, setT_name, ?_⟩
    simp [guardOk]
    refine (w_draw (k := 4) hk2 (by decide) (by decide)).go ?_
    rintro _ st3 ⟨r, rfl, r0, r1, hk3⟩
    simp
    refine (w_forms_right (m := 1 + r) hk3 (by omega) (by omega)).go ?_
    rintro _ st4 ⟨rfl, hk4⟩
    simp
    exact hk4
  rintro ρ st2 ⟨hk2, e2, rfl⟩
  simp [-Int.reducePow, -Nat.reducePow]
  refine ⟨_, hr12, ?_⟩
  refine W_forN (fun m ρ st' => Dk 2 st' ∧ ∃ e2 e3 e4 e5, ρ = [some (.lck (ns.map .int)), some (.cell 1), e2, e3, e4, e5, none, none]) 12 0 _ _ _ rfl ⟨hk2, e2, none, none, none, rfl⟩ ?_ ?_
  · rintro m y ρ st3 _ ⟨hk3, e2, e3, e4, e5, rfl⟩ _
    refine ⟨_, setT_name, ?_⟩
    simp [guardOk]
    refine (w_word hk3).go ?_
    rintro d st4 ⟨hd, hk4⟩
    have hR : ∀ {st : Store} {Q : D → Store → Prop} {X : XQ} {mu : Nat}, W (primD mu .repr [d] st) Q X ↔ Q (.str (shw d)) st := W_repr hd.gd
    have hB : ∀ {st : Store} {Q : D → Store → Prop} {X : XQ} {mu : Nat} {b c : Bool}, W (primD mu .repr [.lst [.bl b, .bl c]] st) Q X ↔ Q (.str (shw (.lst [.bl b, .bl c]))) st := W_repr gd_l2
    simp [r_law_is_name hd, r_is_name hd, hR, hB, hL]
    refine ⟨_, _, ⟨rfl, rfl⟩, ?_⟩
    simp [hB]
    exact hk4
  rintro ρ st3 ⟨hk3, e2, e3, e4, e5, rfl⟩
  simp [-Int.reducePow, -Nat.reducePow]
  have g1 : Gd 1401 0 (.int ((10 ^ 57) ^ 7)) := great_gd (by decide +kernel)
  have g2 : Gd 1401 0 (.int (-(10 ^ 57) ^ 7)) := great_gd (by decide +kernel)
  have wg : Wd (.int ((10 ^ 57) ^ 7)) := wd_of (g1.mono (by decide) (by decide)) (fun x => by simp)
  generalize (((10 : Int) ^ 57) ^ 7) = g at g1 g2 wg ⊢
  have i1 : Itm (.tup [.int g, .int (-g)]) := ⟨(gd_tup (w := 1401) (k := 0) fun x hx => by
    simp only [List.mem_cons, List.not_mem_nil, or_false] at hx
    rcases hx with h | h <;> subst h
    · exact g1
    · exact g2).mono (by simp) (by decide), fun xs e => by cases e; simp⟩
  have i2 : Itm (.tup [.int g, .bl true]) := ⟨(gd_tup (w := 1401) (k := 0) fun x hx => by
    simp only [List.mem_cons, List.not_mem_nil, or_false] at hx
    rcases hx with h | h <;> subst h
    · exact g1
    · exact gd_bl.mono (by decide) (by decide)).mono (by simp) (by decide), fun xs e => by cases e; simp⟩
  have hB4 : ∀ {st : Store} {Q : D → Store → Prop} {X : XQ} {mu : Nat} {a b c e : Bool}, W (primD mu .repr [.lst [.bl a, .bl b, .bl c, .bl e]] st) Q X ↔ Q (.str (shw (.lst [.bl a, .bl b, .bl c, .bl e]))) st := W_repr gd_l4
  have f1 : isF 1 (.tup [.int g, .int (-g)]) = true := rfl
  have f2 : isF 2 (.tup [.int g, .int (-g)]) = false := rfl
  have f3 : isF 1 (.tup [.int g, .bl true]) = false := rfl
  have f4 : nm (.int g) = false := rfl
  have hv : ∀ st : Store, Fvalue_of.run [.tup [.int 5, .int 0, .int 0, .int 0, .int 0], .tup [.int 1, .int 2, .int 3, .int 4]] st = .ok (.int 5) st := fun st =>
    r_value_of (a := 5) (xs := [0, 0, 0, 0]) (ys := [1, 2, 3, 4]) rfl (by decide) (by decide) (by decide)
  have hm : ∀ {st : Store} {Q : D → Store → Prop} {X : XQ}, W (binD 0 .Mult (.tup [.int 0]) (.int 4) st) Q X ↔ Q (.tup [.int 0, .int 0, .int 0, .int 0]) st := W_mulT (by simp) (by decide) (by decide) (by decide)
  refine ⟨by decide +kernel, by decide +kernel, by omega, ?_⟩
  simp [r_is_form i1, r_is_form i2, r_is_name wg, f1, f2, f3, f4, hB4, hm, hv, hL, W_closeB]
theorem law_right : ∀ ns : List Int, ns.length ≤ 63 → ∃ st', Flaw.run [.lck (ns.map .int)] [] = .ok (.bl true) st' := fun ns h => by
  obtain ⟨d, st', e, rfl⟩ := (law_right0 h).ok
  exact ⟨st', e⟩
end
end K02

namespace K02
open PySem PySem.Spec PyProof.Rows L2 Px
def top (i : Nat) : Stmt := PySem.Challenge.pw_everwithin_k02_forms_and_names_of_any_va.main.body.getD i (.Pass ⟨0, 0, 0, 0⟩)
abbrev s_law_deck : Stmt := top 10
abbrev s_law_draw : Stmt := top 11
abbrev s_law_pick : Stmt := top 12
abbrev s_law_number : Stmt := top 13
abbrev s_law_made : Stmt := top 14
abbrev s_law_bent : Stmt := top 15
abbrev sis_integer : Stmt := top 5
abbrev sis_form : Stmt := top 7
abbrev s_law_is_form : Stmt := top 16
abbrev s_law_sum : Stmt := top 17
abbrev svalue_of : Stmt := top 8
abbrev s_law_forms_right : Stmt := top 20
abbrev s_law_word : Stmt := top 18
abbrev s_law_is_name : Stmt := top 19
abbrev sis_name : Stmt := top 6
abbrev slaw : Stmt := top 21
/-! what stands at the top -/
def fa : List He.Fa := [.free "int", .free "len", .free "range", .free "tuple", .free "list", .free "isinstance", .free "bool", .free "all", .free "zip", .free "sum", .free "repr", .free "str", .glo "_law_draw", .glo "_law_pick", .glo "_law_number", .glo "is_integer", .glo "value_of", .glo "_law_sum", .glo "_law_made", .glo "_law_bent", .glo "_law_is_form", .glo "is_form", .glo "is_name", .glo "_law_is_name", .glo "_law_word", .glo "_law_forms_right", .glo "_law_deck", .glo "law"]
def cs : List (Str × D) := [("LETTERS", (.str "abcdefghijklmnopqrstuvwxyz")), ("DIGITS", (.str "0123456789")), ("KEPT_WORDS", (.tup [(.str "any"), (.str "at"), (.str "look"), (.str "registers"), (.str "self"), (.str "start")])), ("LONGEST_NAME", (.int (8)))]
def dn : List He.DefD := [dOf s_law_deck "_law_deck", dOf s_law_draw "_law_draw", dOf s_law_pick "_law_pick", dOf s_law_number "_law_number", dOf s_law_made "_law_made", dOf s_law_bent "_law_bent", dOf sis_integer "is_integer", dOf sis_form "is_form", dOf s_law_is_form "_law_is_form", dOf s_law_sum "_law_sum", dOf svalue_of "value_of", dOf s_law_forms_right "_law_forms_right", dOf s_law_word "_law_word", dOf s_law_is_name "_law_is_name", dOf sis_name "is_name", dOf slaw "law"]
section
variable {P : Program} {w : World} {C : Kc} {mg : Str → Option Value} {base : Heap}
theorem sc_law_deck : FnScope ["_law_script", "_law_seed", "_law_cell"] ["_law_script"] (defScope s_law_deck) := ⟨rfl, rfl, rfl, by decide +kernel, rfl, by decide +kernel, by decide +kernel⟩
theorem ok_law_deck (T : Tp fa dn cs C mg base) : ∃ fd, Has C.K (He.ga C.K "_law_deck") fd ∧ FnD P w C mg base 1 (He.ga C.K "_law_deck") fd F_law_deck := by
  exact fnd_top T 0 rfl sc_law_deck (show ShAll _ _ _ _ from ⟨fun kV doc pm an cdv ct us ws hu hw => (match us, hu, ws, hw with | [u0], _, [], _ => ⟨[u0], rfl, rfl⟩), True.intro⟩) (by decide) fun f cdv A outer s H E hX hp => show SSs _ _ _ b_law_deck _ from
(ss_cons (s_asg q_int (g_name 1 hX))
(ss_cons (s_for hX hp (i_walk hX (q_slc hX (q_var 0) o_none (o_some q_int))) (g_name 2 hX)
(ss_cons (s_asg (q_bin hX (q_prim (ps_int 0) (T.free 0) (a_cons (q_bin hX (q_bin hX (q_bin hX (q_var 1) q_int) (q_bin hX (q_prim (ps_int 0) (T.free 0) (a_cons (q_var 2) sa_nil)) q_int)) q_int) sa_nil)) q_int) (g_name 1 hX))
ss_nil))
(ss_cons (s_ret (q_dct (d_cons (q_rev hX (q_comp (own := [("_law_cell", 2)]) hX (i_walk hX (q_slc hX (q_var 0) o_none (o_some q_int))) (fun s H A cl fp hX => (g_name 2 hX)) (fun s H A cl fp hX => (ts_one (t_cmp hX (q_var 2) (q_bin hX q_int q_int)))) (fun s H A cl fp hX => (q_var 2)))) (d_cons (q_var 1) sd_nil)) (.cons (.cons .nil))))
ss_nil)))
theorem sc_law_draw : FnScope ["_law_deck_here", "_law_many", "_law_cell", "_law_seed", "_law_mixed"] ["_law_deck_here", "_law_many"] (defScope s_law_draw) := ⟨rfl, rfl, rfl, by decide +kernel, rfl, by decide +kernel, by decide +kernel⟩
theorem ok_law_draw (T : Tp fa dn cs C mg base) : ∃ fd, Has C.K (He.ga C.K "_law_draw") fd ∧ FnD P w C mg base 1 (He.ga C.K "_law_draw") fd F_law_draw := by
  exact fnd_top T 1 rfl sc_law_draw (show ShAll _ _ _ _ from ⟨fun kV doc pm an cdv ct us ws hu hw => (match us, hu, ws, hw with | [u0, u1], _, [], _ => ⟨[u0, u1], rfl, rfl⟩), True.intro⟩) (by decide) fun f cdv A outer s H E hX hp => show SSs _ _ _ b_law_draw _ from
(ss_cons (ss_if (t_cmp hX (q_ix hX (q_var 0) q_str) (q_lst sa_nil))
(ss_cons (s_asg (q_prim (ps_int 0) (T.free 0) (a_cons (q_pop hX (q_ix hX (q_var 0) q_str)) sa_nil)) (g_name 2 hX))
(ss_cons (ss_if (t_cmp hX (q_var 2) (q_var 1))
(ss_cons (s_exp (q_bm hX (q_ix hX (q_var 0) q_str) (a_cons (q_bin hX (q_var 2) (q_var 1)) sa_nil)))
ss_nil)
ss_nil)
(ss_cons (s_ret (q_bin hX (q_var 2) (q_var 1)))
ss_nil)))
ss_nil)
(ss_cons (s_asg (q_bin hX (q_prim (ps_int 0) (T.free 0) (a_cons (q_bin hX (q_bin hX (q_ix hX (q_var 0) q_str) q_int) q_int) sa_nil)) q_int) (g_name 3 hX))
(ss_cons (s_setI hX (q_var 0) q_str (q_var 3))
(ss_cons (s_asg (q_bin hX (q_prim (ps_int 0) (T.free 0) (a_cons (q_bin hX (q_bin hX (q_bin hX (q_var 3) (q_var 3)) (q_bin hX q_int (q_var 3))) q_int) sa_nil)) q_int) (g_name 4 hX))
(ss_cons (s_ret (q_bin hX (q_bin hX (q_var 4) q_int) (q_var 1)))
ss_nil)))))
theorem sc_law_pick : FnScope ["_law_deck_here", "_law_some"] ["_law_deck_here", "_law_some"] (defScope s_law_pick) := ⟨rfl, rfl, rfl, by decide +kernel, rfl, by decide +kernel, by decide +kernel⟩
theorem ok_law_pick (T : Tp fa dn cs C mg base) : ∃ fd, Has C.K (He.ga C.K "_law_pick") fd ∧ FnD P w C mg base 2 (He.ga C.K "_law_pick") fd F_law_pick := by
  obtain ⟨_, _, c_law_draw⟩ := ok_law_draw (P := P) (w := w) T
  have c_law_draw := c_law_draw.mono (show 1 ≤ 1 by decide)
  exact fnd_top T 2 rfl sc_law_pick (show ShAll _ _ _ _ from ⟨fun kV doc pm an cdv ct us ws hu hw => (match us, hu, ws, hw with | [u0, u1], _, [], _ => ⟨[u0, u1], rfl, rfl⟩), True.intro⟩) (by decide) fun f cdv A outer s H E hX hp => show SSs _ _ _ b_law_pick _ from
(ss_cons (s_ret (q_ix hX (q_var 1) (q_call hX c_law_draw (T.glo 12) (a_cons (q_var 0) (a_cons (q_prim (ps_len hX 0) (T.free 1) (a_cons (q_var 1) sa_nil)) sa_nil)) sk_nil)))
ss_nil)
theorem sc_law_number : FnScope ["_law_deck_here", "_law_some"] ["_law_deck_here"] (defScope s_law_number) := ⟨rfl, rfl, rfl, by decide +kernel, rfl, by decide +kernel, by decide +kernel⟩
theorem ok_law_number (T : Tp fa dn cs C mg base) : ∃ fd, Has C.K (He.ga C.K "_law_number") fd ∧ FnD P w C mg base 3 (He.ga C.K "_law_number") fd F_law_number := by
  obtain ⟨_, _, c_law_pick⟩ := ok_law_pick (P := P) (w := w) T
  have c_law_pick := c_law_pick.mono (show 2 ≤ 2 by decide)
  exact fnd_top T 3 rfl sc_law_number (show ShAll _ _ _ _ from ⟨fun kV doc pm an cdv ct us ws hu hw => (match us, hu, ws, hw with | [u0], _, [], _ => ⟨[u0], rfl, rfl⟩), True.intro⟩) (by decide) fun f cdv A outer s H E hX hp => show SSs _ _ _ b_law_number _ from
(ss_cons (s_asg (q_lst (a_cons q_int (a_cons q_int (a_cons (q_neg q_int) (a_cons q_int (a_cons (q_neg q_int) (a_cons q_int (a_cons (q_neg q_int) (a_cons q_int (a_cons q_int (a_cons (q_neg q_int) (a_cons (q_bin hX q_int q_int) (a_cons (q_bin hX (q_neg (q_bin hX q_int q_int)) q_int) (a_cons (q_bin hX q_int (q_bin hX q_int q_int)) sa_nil)))))))))))))) (g_name 1 hX))
(ss_cons (s_ret (q_call hX c_law_pick (T.glo 13) (a_cons (q_var 0) (a_cons (q_var 1) sa_nil)) sk_nil))
ss_nil))
theorem sc_law_made : FnScope ["_law_deck_here", "_law_size", "_law_k"] ["_law_deck_here", "_law_size"] (defScope s_law_made) := ⟨rfl, rfl, rfl, by decide +kernel, rfl, by decide +kernel, by decide +kernel⟩
theorem ok_law_made (T : Tp fa dn cs C mg base) : ∃ fd, Has C.K (He.ga C.K "_law_made") fd ∧ FnD P w C mg base 4 (He.ga C.K "_law_made") fd F_law_made := by
  obtain ⟨_, _, c_law_number⟩ := ok_law_number (P := P) (w := w) T
  have c_law_number := c_law_number.mono (show 3 ≤ 3 by decide)
  exact fnd_top T 4 rfl sc_law_made (show ShAll _ _ _ _ from ⟨fun kV doc pm an cdv ct us ws hu hw => (match us, hu, ws, hw with | [u0, u1], _, [], _ => ⟨[u0, u1], rfl, rfl⟩), True.intro⟩) (by decide) fun f cdv A outer s H E hX hp => show SSs _ _ _ b_law_made _ from
(ss_cons (s_ret (q_prim (ps_tuple hX 0) (T.free 3) (a_cons (q_comp (own := [("_law_k", 2)]) hX (i_rng1 (T.free 2) (a_cons (q_bin hX (q_var 1) q_int) sa_nil) (.cons .nil)) (fun s H A cl fp hX => (g_name 2 hX)) (fun s H A cl fp hX => pts_true) (fun s H A cl fp hX => (q_call hX c_law_number (T.glo 14) (a_cons (q_var 0) sa_nil) sk_nil))) sa_nil)))
ss_nil)
theorem sc_law_bent : FnScope ["_law_deck_here", "_law_item", "_law_at", "_law_way", "_law_odd"] ["_law_deck_here", "_law_item"] (defScope s_law_bent) := ⟨rfl, rfl, rfl, by decide +kernel, rfl, by decide +kernel, by decide +kernel⟩
theorem ok_law_bent (T : Tp fa dn cs C mg base) : ∃ fd, Has C.K (He.ga C.K "_law_bent") fd ∧ FnD P w C mg base 4 (He.ga C.K "_law_bent") fd F_law_bent := by
  obtain ⟨_, _, c_law_draw⟩ := ok_law_draw (P := P) (w := w) T
  obtain ⟨_, _, c_law_number⟩ := ok_law_number (P := P) (w := w) T
  obtain ⟨_, _, c_law_pick⟩ := ok_law_pick (P := P) (w := w) T
  have c_law_draw := c_law_draw.mono (show 1 ≤ 3 by decide)
  have c_law_number := c_law_number.mono (show 3 ≤ 3 by decide)
  have c_law_pick := c_law_pick.mono (show 2 ≤ 3 by decide)
  exact fnd_top T 5 rfl sc_law_bent (show ShAll _ _ _ _ from ⟨fun kV doc pm an cdv ct us ws hu hw => (match us, hu, ws, hw with | [u0, u1], _, [], _ => ⟨[u0, u1], rfl, rfl⟩), True.intro⟩) (by decide) fun f cdv A outer s H E hX hp => show SSs _ _ _ b_law_bent _ from
(ss_cons (s_par (i := 2) (j := 3) hX (a_cons (q_call hX c_law_draw (T.glo 12) (a_cons (q_var 0) (a_cons (q_prim (ps_len hX 0) (T.free 1) (a_cons (q_var 1) sa_nil)) sa_nil)) sk_nil) (a_cons (q_call hX c_law_draw (T.glo 12) (a_cons (q_var 0) (a_cons q_int sa_nil)) sk_nil) sa_nil)))
(ss_cons (ss_if (t_cmp hX (q_var 3) q_int)
(ss_cons (s_ret (q_bin hX (q_slc hX (q_var 1) o_none (o_some (q_var 2))) (q_slc hX (q_var 1) (o_some (q_bin hX (q_var 2) q_int)) o_none)))
ss_nil)
ss_nil)
(ss_cons (ss_if (t_cmp hX (q_var 3) q_int)
(ss_cons (s_ret (q_bin hX (q_bin hX (q_slc hX (q_var 1) o_none (o_some (q_var 2))) (q_tup (a_cons (q_call hX c_law_number (T.glo 14) (a_cons (q_var 0) sa_nil) sk_nil) sa_nil))) (q_slc hX (q_var 1) (o_some (q_var 2)) o_none)))
ss_nil)
ss_nil)
(ss_cons (ss_if (t_cmp hX (q_var 3) q_int)
(ss_cons (s_ret (q_prim (ps_list hX 0) (T.free 4) (a_cons (q_var 1) sa_nil)))
ss_nil)
ss_nil)
(ss_cons (ss_if (t_cmp hX (q_var 3) q_int)
(ss_cons (s_ret (q_call hX c_law_pick (T.glo 13) (a_cons (q_var 0) (a_cons (q_lst (a_cons q_non (a_cons q_int (a_cons q_str (a_cons q_str (a_cons (q_tup sa_nil) (a_cons (q_lst sa_nil) (a_cons q_dct0 (a_cons q_bl (a_cons (q_tup (a_cons (q_var 1) sa_nil)) (a_cons q_str sa_nil))))))))))) sa_nil)) sk_nil))
ss_nil)
ss_nil)
(ss_cons (s_asg (q_lst (a_cons q_bl (a_cons q_bl (a_cons q_non (a_cons q_str (a_cons (q_tup (a_cons q_int sa_nil)) (a_cons (q_lst (a_cons q_int sa_nil)) (a_cons q_dct0 (a_cons (q_tup sa_nil) (a_cons (q_var 1) sa_nil)))))))))) (g_name 4 hX))
(ss_cons (s_ret (q_bin hX (q_bin hX (q_slc hX (q_var 1) o_none (o_some (q_var 2))) (q_tup (a_cons (q_call hX c_law_pick (T.glo 13) (a_cons (q_var 0) (a_cons (q_var 4) sa_nil)) sk_nil) sa_nil))) (q_slc hX (q_var 1) (o_some (q_bin hX (q_var 2) q_int)) o_none)))
ss_nil)))))))
theorem scis_integer : FnScope ["thing"] ["thing"] (defScope sis_integer) := ⟨rfl, rfl, rfl, by decide +kernel, rfl, by decide +kernel, by decide +kernel⟩
theorem okis_integer (T : Tp fa dn cs C mg base) : ∃ fd, Has C.K (He.ga C.K "is_integer") fd ∧ FnD P w C mg base 1 (He.ga C.K "is_integer") fd Fis_integer := by
  exact fnd_top T 6 rfl scis_integer (show ShAll _ _ _ _ from ⟨fun kV doc pm an cdv ct us ws hu hw => (match us, hu, ws, hw with | [u0], _, [], _ => ⟨[u0], rfl, rfl⟩), True.intro⟩) (by decide) fun f cdv A outer s H E hX hp => show SSs _ _ _ bis_integer _ from
(ss_cons (s_ret (q_and hX (q_isin hX (q_var 0) (T.free 5) (T.free 0)) (q_and1 (q_not hX (q_isin hX (q_var 0) (T.free 5) (T.free 6))))))
ss_nil)
theorem scis_form : FnScope ["count", "thing", "entry"] ["count", "thing"] (defScope sis_form) := ⟨rfl, rfl, rfl, by decide +kernel, rfl, by decide +kernel, by decide +kernel⟩
theorem okis_form (T : Tp fa dn cs C mg base) : ∃ fd, Has C.K (He.ga C.K "is_form") fd ∧ FnD P w C mg base 2 (He.ga C.K "is_form") fd Fis_form := by
  obtain ⟨_, _, cis_integer⟩ := okis_integer (P := P) (w := w) T
  have cis_integer := cis_integer.mono (show 1 ≤ 1 by decide)
  exact fnd_top T 7 rfl scis_form (show ShAll _ _ _ _ from ⟨fun kV doc pm an cdv ct us ws hu hw => (match us, hu, ws, hw with | [], _, [w0, w1], _ => ⟨[w1, w0], rfl, rfl⟩), ⟨fun kV doc pm an cdv ct us ws hu hw => (match us, hu, ws, hw with | [u0, u1], _, [], _ => ⟨[u0, u1], rfl, rfl⟩), True.intro⟩⟩) (by decide) fun f cdv A outer s H E hX hp => show SSs _ _ _ bis_form _ from
(ss_cons (s_ret (q_and hX (q_isin hX (q_var 1) (T.free 5) (T.free 3)) (q_and hX (q_cmp hX (q_prim (ps_len hX 0) (T.free 1) (a_cons (q_var 1) sa_nil)) (q_bin hX (q_var 0) q_int)) (q_and1 (q_prim (ps_all hX 0) (T.free 7) (a_cons (q_comp (own := [("entry", 2)]) hX (i_walk hX (q_var 1)) (fun s H A cl fp hX => (g_name 2 hX)) (fun s H A cl fp hX => pts_true) (fun s H A cl fp hX => (q_call hX cis_integer (T.glo 15) (a_cons (q_var 2) sa_nil) sk_nil))) sa_nil))))))
ss_nil)
theorem sc_law_is_form : FnScope ["_law_size", "_law_item", "_law_entry"] ["_law_size", "_law_item"] (defScope s_law_is_form) := ⟨rfl, rfl, rfl, by decide +kernel, rfl, by decide +kernel, by decide +kernel⟩
theorem ok_law_is_form (T : Tp fa dn cs C mg base) : ∃ fd, Has C.K (He.ga C.K "_law_is_form") fd ∧ FnD P w C mg base 1 (He.ga C.K "_law_is_form") fd F_law_is_form := by
  exact fnd_top T 8 rfl sc_law_is_form (show ShAll _ _ _ _ from ⟨fun kV doc pm an cdv ct us ws hu hw => (match us, hu, ws, hw with | [u0, u1], _, [], _ => ⟨[u0, u1], rfl, rfl⟩), True.intro⟩) (by decide) fun f cdv A outer s H E hX hp => show SSs _ _ _ b_law_is_form _ from
(ss_cons (ss_if (t_w (w_or (t_not (t_val hX (q_isin hX (q_var 1) (T.free 5) (T.free 3)))) (w_or1 (t_cmp hX (q_prim (ps_len hX 0) (T.free 1) (a_cons (q_var 1) sa_nil)) (q_bin hX (q_var 0) q_int)))))
(ss_cons (s_ret q_bl)
ss_nil)
ss_nil)
(ss_cons (s_ret (q_cmp hX (q_comp (own := [("_law_entry", 2)]) hX (i_walk hX (q_var 1)) (fun s H A cl fp hX => (g_name 2 hX)) (fun s H A cl fp hX => (ts_one (t_w (w_or (t_not (t_val hX (q_isin hX (q_var 2) (T.free 5) (T.free 0)))) (w_or1 (t_val hX (q_isin hX (q_var 2) (T.free 5) (T.free 6)))))))) (fun s H A cl fp hX => q_int)) (q_lst sa_nil)))
ss_nil))
theorem sc_law_sum : FnScope ["_law_item", "_law_numbers", "_law_found", "_law_k"] ["_law_item", "_law_numbers"] (defScope s_law_sum) := ⟨rfl, rfl, rfl, by decide +kernel, rfl, by decide +kernel, by decide +kernel⟩
theorem ok_law_sum (T : Tp fa dn cs C mg base) : ∃ fd, Has C.K (He.ga C.K "_law_sum") fd ∧ FnD P w C mg base 1 (He.ga C.K "_law_sum") fd F_law_sum := by
  exact fnd_top T 9 rfl sc_law_sum (show ShAll _ _ _ _ from ⟨fun kV doc pm an cdv ct us ws hu hw => (match us, hu, ws, hw with | [u0, u1], _, [], _ => ⟨[u0, u1], rfl, rfl⟩), True.intro⟩) (by decide) fun f cdv A outer s H E hX hp => show SSs _ _ _ b_law_sum _ from
(ss_cons (s_asg q_int (g_name 2 hX))
(ss_cons (s_for hX hp (i_rng3 (T.free 2) (a_cons (q_bin hX (q_prim (ps_len hX 0) (T.free 1) (a_cons (q_var 1) sa_nil)) q_int) (a_cons (q_neg q_int) (a_cons (q_neg q_int) sa_nil))) (.cons (.cons (.cons .nil)))) (g_name 3 hX)
(ss_cons (s_asg (q_bin hX (q_var 2) (q_bin hX (q_ix hX (q_var 1) (q_var 3)) (q_ix hX (q_var 0) (q_bin hX (q_var 3) q_int)))) (g_name 2 hX))
ss_nil))
(ss_cons (s_ret (q_bin hX (q_var 2) (q_ix hX (q_var 0) q_int)))
ss_nil)))
theorem scvalue_of : FnScope ["form", "values", "factor", "number"] ["form", "values"] (defScope svalue_of) := ⟨rfl, rfl, rfl, by decide +kernel, rfl, by decide +kernel, by decide +kernel⟩
theorem okvalue_of (T : Tp fa dn cs C mg base) : ∃ fd, Has C.K (He.ga C.K "value_of") fd ∧ FnD P w C mg base 1 (He.ga C.K "value_of") fd Fvalue_of := by
  exact fnd_top T 10 rfl scvalue_of (show ShAll _ _ _ _ from ⟨fun kV doc pm an cdv ct us ws hu hw => (match us, hu, ws, hw with | [], _, [w0, w1], _ => ⟨[w1, w0], rfl, rfl⟩), ⟨fun kV doc pm an cdv ct us ws hu hw => (match us, hu, ws, hw with | [u0, u1], _, [], _ => ⟨[u0, u1], rfl, rfl⟩), True.intro⟩⟩) (by decide) fun f cdv A outer s H E hX hp => show SSs _ _ _ bvalue_of _ from
(ss_cons (s_ret (q_bin hX (q_ix hX (q_var 0) q_int) (q_prim (ps_sum hX 0) (T.free 9) (a_cons (q_comp (own := [("factor", 2), ("number", 3)]) hX (i_zip hX (T.free 8) (a_cons (q_slc hX (q_var 0) (o_some q_int) o_none) (a_cons (q_var 1) sa_nil))) (fun s H A cl fp hX => (g_tup hX (g_cons (g_name 2 hX) (g_cons (g_name 3 hX) sgs_nil)))) (fun s H A cl fp hX => pts_true) (fun s H A cl fp hX => (q_bin hX (q_var 2) (q_var 3)))) sa_nil))))
ss_nil)
theorem sc_law_forms_right : FnScope ["_law_deck_here", "_law_size", "_law_made_here", "_law_bent_here", "_law_item", "_law_before", "_law_far", "_law_told", "_law_numbers", "_law_k", "_law_due"] ["_law_deck_here", "_law_size"] (defScope s_law_forms_right) := ⟨rfl, rfl, rfl, by decide +kernel, rfl, by decide +kernel, by decide +kernel⟩
theorem ok_law_forms_right (T : Tp fa dn cs C mg base) : ∃ fd, Has C.K (He.ga C.K "_law_forms_right") fd ∧ FnD P w C mg base 5 (He.ga C.K "_law_forms_right") fd F_law_forms_right := by
  obtain ⟨_, _, c_law_made⟩ := ok_law_made (P := P) (w := w) T
  obtain ⟨_, _, c_law_bent⟩ := ok_law_bent (P := P) (w := w) T
  obtain ⟨_, _, cis_form⟩ := okis_form (P := P) (w := w) T
  obtain ⟨_, _, c_law_is_form⟩ := ok_law_is_form (P := P) (w := w) T
  obtain ⟨_, _, c_law_number⟩ := ok_law_number (P := P) (w := w) T
  obtain ⟨_, _, c_law_sum⟩ := ok_law_sum (P := P) (w := w) T
  obtain ⟨_, _, cvalue_of⟩ := okvalue_of (P := P) (w := w) T
  have c_law_made := c_law_made.mono (show 4 ≤ 4 by decide)
  have c_law_bent := c_law_bent.mono (show 4 ≤ 4 by decide)
  have cis_form := cis_form.mono (show 2 ≤ 4 by decide)
  have c_law_is_form := c_law_is_form.mono (show 1 ≤ 4 by decide)
  have c_law_number := c_law_number.mono (show 3 ≤ 4 by decide)
  have c_law_sum := c_law_sum.mono (show 1 ≤ 4 by decide)
  have cvalue_of := cvalue_of.mono (show 1 ≤ 4 by decide)
  exact fnd_top T 11 rfl sc_law_forms_right (show ShAll _ _ _ _ from ⟨fun kV doc pm an cdv ct us ws hu hw => (match us, hu, ws, hw with | [u0, u1], _, [], _ => ⟨[u0, u1], rfl, rfl⟩), True.intro⟩) (by decide) fun f cdv A outer s H E hX hp => show SSs _ _ _ b_law_forms_right _ from
(ss_cons (s_asg (q_call hX c_law_made (T.glo 18) (a_cons (q_var 0) (a_cons (q_var 1) sa_nil)) sk_nil) (g_name 2 hX))
(ss_cons (s_asg (q_call hX c_law_bent (T.glo 19) (a_cons (q_var 0) (a_cons (q_var 2) sa_nil)) sk_nil) (g_name 3 hX))
(ss_cons (s_for hX hp (i_walk hX (q_tup (a_cons (q_var 2) (a_cons (q_var 3) (a_cons (q_call hX c_law_bent (T.glo 19) (a_cons (q_var 0) (a_cons (q_call hX c_law_made (T.glo 18) (a_cons (q_var 0) (a_cons (q_var 1) sa_nil)) sk_nil) sa_nil)) sk_nil) sa_nil))))) (g_name 4 hX)
(ss_cons (s_asg (q_prim (ps_repr hX 0) (T.free 10) (a_cons (q_var 4) sa_nil)) (g_name 5 hX))
(ss_cons (s_for hX hp (i_rng2 (T.free 2) (a_cons q_int (a_cons q_int sa_nil)) (.cons (.cons .nil))) (g_name 6 hX)
(ss_cons (s_asg (q_lst (a_cons (q_call hX cis_form (T.glo 21) (a_cons (q_var 6) (a_cons (q_var 4) sa_nil)) sk_nil) (a_cons (q_call hX cis_form (T.glo 21) sa_nil (k_cons (q_var 4) (k_cons (q_var 6) sk_nil))) sa_nil))) (g_name 7 hX))
(ss_cons (ss_if (t_w (w_or (t_cmp hX (q_prim (ps_repr hX 0) (T.free 10) (a_cons (q_var 7) sa_nil)) (q_prim (ps_repr hX 0) (T.free 10) (a_cons (q_bin hX (q_lst (a_cons (q_call hX c_law_is_form (T.glo 20) (a_cons (q_var 6) (a_cons (q_var 4) sa_nil)) sk_nil) sa_nil)) q_int) sa_nil))) (w_or1 (t_cmp hX (q_prim (ps_repr hX 0) (T.free 10) (a_cons (q_var 4) sa_nil)) (q_var 5)))))
(ss_cons (s_ret q_bl)
ss_nil)
ss_nil)
ss_nil)))
ss_nil)))
(ss_cons (s_asg (q_prim (ps_tuple hX 0) (T.free 3) (a_cons (q_comp (own := [("_law_k", 9)]) hX (i_rng1 (T.free 2) (a_cons (q_var 1) sa_nil) (.cons .nil)) (fun s H A cl fp hX => (g_name 9 hX)) (fun s H A cl fp hX => pts_true) (fun s H A cl fp hX => (q_call hX c_law_number (T.glo 14) (a_cons (q_var 0) sa_nil) sk_nil))) sa_nil)) (g_name 8 hX))
(ss_cons (s_asg (q_call hX c_law_sum (T.glo 17) (a_cons (q_var 2) (a_cons (q_var 8) sa_nil)) sk_nil) (g_name 10 hX))
(ss_cons (s_ret (q_cmp hX (q_prim (ps_repr hX 0) (T.free 10) (a_cons (q_lst (a_cons (q_call hX cvalue_of (T.glo 16) (a_cons (q_var 2) (a_cons (q_var 8) sa_nil)) sk_nil) (a_cons (q_call hX cvalue_of (T.glo 16) sa_nil (k_cons (q_var 8) (k_cons (q_var 2) sk_nil))) sa_nil))) sa_nil)) (q_prim (ps_repr hX 0) (T.free 10) (a_cons (q_lst (a_cons (q_var 10) (a_cons (q_var 10) sa_nil))) sa_nil))))
ss_nil))))))
theorem sc_law_word : FnScope ["_law_deck_here", "_law_way", "_law_letters", "_law_some", "_law_found", "_law_k", "_law_at"] ["_law_deck_here"] (defScope s_law_word) := ⟨rfl, rfl, rfl, by decide +kernel, rfl, by decide +kernel, by decide +kernel⟩
theorem ok_law_word (T : Tp fa dn cs C mg base) : ∃ fd, Has C.K (He.ga C.K "_law_word") fd ∧ FnD P w C mg base 3 (He.ga C.K "_law_word") fd F_law_word := by
  obtain ⟨_, _, c_law_draw⟩ := ok_law_draw (P := P) (w := w) T
  obtain ⟨_, _, c_law_pick⟩ := ok_law_pick (P := P) (w := w) T
  have c_law_draw := c_law_draw.mono (show 1 ≤ 2 by decide)
  have c_law_pick := c_law_pick.mono (show 2 ≤ 2 by decide)
  exact fnd_top T 12 rfl sc_law_word (show ShAll _ _ _ _ from ⟨fun kV doc pm an cdv ct us ws hu hw => (match us, hu, ws, hw with | [u0], _, [], _ => ⟨[u0], rfl, rfl⟩), True.intro⟩) (by decide) fun f cdv A outer s H E hX hp => show SSs _ _ _ b_law_word _ from
(ss_cons (s_par (i := 1) (j := 2) hX (a_cons (q_call hX c_law_draw (T.glo 12) (a_cons (q_var 0) (a_cons q_int sa_nil)) sk_nil) (a_cons q_str sa_nil)))
(ss_cons (ss_if (t_cmp hX (q_var 1) q_int)
(ss_cons (s_ret (q_call hX c_law_pick (T.glo 13) (a_cons (q_var 0) (a_cons (q_lst (a_cons q_str (a_cons q_str (a_cons q_str (a_cons q_str (a_cons q_str (a_cons q_str (a_cons q_str (a_cons q_str (a_cons q_str (a_cons q_str sa_nil))))))))))) sa_nil)) sk_nil))
ss_nil)
ss_nil)
(ss_cons (ss_if (t_cmp hX (q_var 1) q_int)
(ss_cons (s_asg (q_lst (a_cons q_non (a_cons q_int (a_cons q_bl (a_cons (q_tup sa_nil) (a_cons (q_lst (a_cons q_str sa_nil)) (a_cons (q_tup (a_cons q_str sa_nil)) (a_cons q_dct0 (a_cons q_str (a_cons q_str (a_cons q_str (a_cons q_str (a_cons q_str (a_cons q_str sa_nil)))))))))))))) (g_name 3 hX))
(ss_cons (s_ret (q_call hX c_law_pick (T.glo 13) (a_cons (q_var 0) (a_cons (q_bin hX (q_var 3) (q_lst (a_cons q_str (a_cons q_str (a_cons q_str (a_cons q_str sa_nil)))))) sa_nil)) sk_nil))
ss_nil))
ss_nil)
(ss_cons (s_asg (q_call hX c_law_pick (T.glo 13) (a_cons (q_var 0) (a_cons (q_var 2) sa_nil)) sk_nil) (g_name 4 hX))
(ss_cons (s_for hX hp (i_rng1 (T.free 2) (a_cons (q_call hX c_law_draw (T.glo 12) (a_cons (q_var 0) (a_cons q_int sa_nil)) sk_nil) sa_nil) (.cons .nil)) (g_name 5 hX)
(ss_cons (s_asg (q_bin hX (q_var 4) (q_call hX c_law_pick (T.glo 13) (a_cons (q_var 0) (a_cons (q_bin hX (q_var 2) q_str) sa_nil)) sk_nil)) (g_name 4 hX))
ss_nil))
(ss_cons (ss_if (t_cmp hX (q_var 1) q_int)
(ss_cons (s_ret (q_var 4))
ss_nil)
ss_nil)
(ss_cons (s_asg (q_call hX c_law_draw (T.glo 12) (a_cons (q_var 0) (a_cons (q_bin hX (q_prim (ps_len hX 0) (T.free 1) (a_cons (q_var 4) sa_nil)) q_int) sa_nil)) sk_nil) (g_name 6 hX))
(ss_cons (s_ret (q_bin hX (q_bin hX (q_slc hX (q_var 4) o_none (o_some (q_var 6))) (q_call hX c_law_pick (T.glo 13) (a_cons (q_var 0) (a_cons q_str sa_nil)) sk_nil)) (q_slc hX (q_var 4) (o_some (q_bin hX (q_bin hX (q_var 6) (q_var 1)) q_int)) o_none)))
ss_nil))))))))
theorem sc_law_is_name : FnScope ["_law_item", "_law_sign"] ["_law_item"] (defScope s_law_is_name) := ⟨rfl, rfl, rfl, by decide +kernel, rfl, by decide +kernel, by decide +kernel⟩
theorem ok_law_is_name (T : Tp fa dn cs C mg base) : ∃ fd, Has C.K (He.ga C.K "_law_is_name") fd ∧ FnD P w C mg base 1 (He.ga C.K "_law_is_name") fd F_law_is_name := by
  exact fnd_top T 13 rfl sc_law_is_name (show ShAll _ _ _ _ from ⟨fun kV doc pm an cdv ct us ws hu hw => (match us, hu, ws, hw with | [u0], _, [], _ => ⟨[u0], rfl, rfl⟩), True.intro⟩) (by decide) fun f cdv A outer s H E hX hp => show SSs _ _ _ b_law_is_name _ from
(ss_cons (ss_if (t_w (w_or (t_not (t_val hX (q_isin hX (q_var 0) (T.free 5) (T.free 11)))) (w_or (t_not (t_chn hX q_int (q_prim (ps_len hX 0) (T.free 1) (a_cons (q_var 0) sa_nil)) q_int)) (w_or1 (t_cmp hX (q_ix hX (q_var 0) q_int) q_str)))))
(ss_cons (s_ret q_bl)
ss_nil)
ss_nil)
(ss_cons (ss_if (t_cmp hX (q_var 0) (q_tup (a_cons q_str (a_cons q_str (a_cons q_str (a_cons q_str (a_cons q_str (a_cons q_str sa_nil))))))))
(ss_cons (s_ret q_bl)
ss_nil)
ss_nil)
(ss_cons (s_ret (q_cmp hX (q_comp (own := [("_law_sign", 1)]) hX (i_walk hX (q_var 0)) (fun s H A cl fp hX => (g_name 1 hX)) (fun s H A cl fp hX => (ts_one (t_cmp hX (q_var 1) q_str))) (fun s H A cl fp hX => q_int)) (q_lst sa_nil)))
ss_nil)))
theorem scis_name : FnScope ["thing", "sign"] ["thing"] (defScope sis_name) := ⟨rfl, rfl, rfl, by decide +kernel, rfl, by decide +kernel, by decide +kernel⟩
theorem okis_name (T : Tp fa dn cs C mg base) : ∃ fd, Has C.K (He.ga C.K "is_name") fd ∧ FnD P w C mg base 1 (He.ga C.K "is_name") fd Fis_name := by
  exact fnd_top T 14 rfl scis_name (show ShAll _ _ _ _ from ⟨fun kV doc pm an cdv ct us ws hu hw => (match us, hu, ws, hw with | [u0], _, [], _ => ⟨[u0], rfl, rfl⟩), ⟨fun kV doc pm an cdv ct us ws hu hw => (match us, hu, ws, hw with | [], _, [w0], _ => ⟨[w0], rfl, rfl⟩), True.intro⟩⟩) (by decide) fun f cdv A outer s H E hX hp => show SSs _ _ _ bis_name _ from
(ss_cons (ss_if (t_w (w_or (t_not (t_val hX (q_isin hX (q_var 0) (T.free 5) (T.free 11)))) (w_or (t_not (t_chn hX q_int (q_prim (ps_len hX 0) (T.free 1) (a_cons (q_var 0) sa_nil)) (q_glob (T.cst 3)))) (w_or1 (t_cmp hX (q_var 0) (q_glob (T.cst 2)))))))
(ss_cons (s_ret q_bl)
ss_nil)
ss_nil)
(ss_cons (s_ret (q_and hX (q_cmp hX (q_ix hX (q_var 0) q_int) (q_glob (T.cst 0))) (q_and1 (q_prim (ps_all hX 0) (T.free 7) (a_cons (q_comp (own := [("sign", 1)]) hX (i_walk hX (q_var 0)) (fun s H A cl fp hX => (g_name 1 hX)) (fun s H A cl fp hX => pts_true) (fun s H A cl fp hX => (q_cmp hX (q_var 1) (q_bin hX (q_glob (T.cst 0)) (q_glob (T.cst 1)))))) sa_nil)))))
ss_nil))
theorem sclaw : FnScope ["_law_script", "_law_deck_here", "_law_go", "_law_item", "_law_due", "_law_before", "_law_great", "_law_told"] ["_law_script"] (defScope slaw) := ⟨rfl, rfl, rfl, by decide +kernel, rfl, by decide +kernel, by decide +kernel⟩
theorem oklaw (T : Tp fa dn cs C mg base) : ∃ fd, Has C.K (He.ga C.K "law") fd ∧ FnD P w C mg base 6 (He.ga C.K "law") fd Flaw := by
  obtain ⟨_, _, c_law_deck⟩ := ok_law_deck (P := P) (w := w) T
  obtain ⟨_, _, c_law_forms_right⟩ := ok_law_forms_right (P := P) (w := w) T
  obtain ⟨_, _, c_law_draw⟩ := ok_law_draw (P := P) (w := w) T
  obtain ⟨_, _, c_law_word⟩ := ok_law_word (P := P) (w := w) T
  obtain ⟨_, _, c_law_is_name⟩ := ok_law_is_name (P := P) (w := w) T
  obtain ⟨_, _, cis_name⟩ := okis_name (P := P) (w := w) T
  obtain ⟨_, _, cis_form⟩ := okis_form (P := P) (w := w) T
  obtain ⟨_, _, cvalue_of⟩ := okvalue_of (P := P) (w := w) T
  have c_law_deck := c_law_deck.mono (show 1 ≤ 5 by decide)
  have c_law_forms_right := c_law_forms_right.mono (show 5 ≤ 5 by decide)
  have c_law_draw := c_law_draw.mono (show 1 ≤ 5 by decide)
  have c_law_word := c_law_word.mono (show 3 ≤ 5 by decide)
  have c_law_is_name := c_law_is_name.mono (show 1 ≤ 5 by decide)
  have cis_name := cis_name.mono (show 1 ≤ 5 by decide)
  have cis_form := cis_form.mono (show 2 ≤ 5 by decide)
  have cvalue_of := cvalue_of.mono (show 1 ≤ 5 by decide)
  exact fnd_top T 15 rfl sclaw (show ShAll _ _ _ _ from ⟨fun kV doc pm an cdv ct us ws hu hw => (match us, hu, ws, hw with | [u0], _, [], _ => ⟨[u0], rfl, rfl⟩), True.intro⟩) (by decide) fun f cdv A outer s H E hX hp => show SSs _ _ _ blaw _ from
(ss_cons (s_asg (q_call hX c_law_deck (T.glo 26) (a_cons (q_var 0) sa_nil) sk_nil) (g_name 1 hX))
(ss_cons (s_for hX hp (i_rng1 (T.free 2) (a_cons q_int sa_nil) (.cons .nil)) (g_name 2 hX)
(ss_cons (ss_if (t_not (t_val hX (q_call hX c_law_forms_right (T.glo 25) (a_cons (q_var 1) (a_cons (q_bin hX q_int (q_call hX c_law_draw (T.glo 12) (a_cons (q_var 1) (a_cons q_int sa_nil)) sk_nil)) sa_nil)) sk_nil)))
(ss_cons (s_ret q_bl)
ss_nil)
ss_nil)
ss_nil))
(ss_cons (s_for hX hp (i_rng1 (T.free 2) (a_cons q_int sa_nil) (.cons .nil)) (g_name 2 hX)
(ss_cons (s_asg (q_call hX c_law_word (T.glo 24) (a_cons (q_var 1) sa_nil) sk_nil) (g_name 3 hX))
(ss_cons (s_par (i := 4) (j := 5) hX (a_cons (q_call hX c_law_is_name (T.glo 23) (a_cons (q_var 3) sa_nil) sk_nil) (a_cons (q_prim (ps_repr hX 0) (T.free 10) (a_cons (q_var 3) sa_nil)) sa_nil)))
(ss_cons (ss_if (t_w (w_or (t_cmp hX (q_prim (ps_repr hX 0) (T.free 10) (a_cons (q_lst (a_cons (q_call hX cis_name (T.glo 22) (a_cons (q_var 3) sa_nil) sk_nil) (a_cons (q_call hX cis_name (T.glo 22) sa_nil (k_cons (q_var 3) sk_nil)) sa_nil))) sa_nil)) (q_prim (ps_repr hX 0) (T.free 10) (a_cons (q_lst (a_cons (q_var 4) (a_cons (q_var 4) sa_nil))) sa_nil))) (w_or1 (t_cmp hX (q_prim (ps_repr hX 0) (T.free 10) (a_cons (q_var 3) sa_nil)) (q_var 5)))))
(ss_cons (s_ret q_bl)
ss_nil)
ss_nil)
ss_nil))))
(ss_cons (s_asg (q_bin hX (q_bin hX q_int q_int) q_int) (g_name 6 hX))
(ss_cons (s_asg (q_lst (a_cons (q_call hX cis_form (T.glo 21) (a_cons q_int (a_cons (q_tup (a_cons (q_var 6) (a_cons (q_bin hX q_int (q_var 6)) sa_nil))) sa_nil)) sk_nil) (a_cons (q_call hX cis_form (T.glo 21) (a_cons q_int (a_cons (q_tup (a_cons (q_var 6) (a_cons (q_bin hX q_int (q_var 6)) sa_nil))) sa_nil)) sk_nil) (a_cons (q_call hX cis_form (T.glo 21) (a_cons q_int (a_cons (q_tup (a_cons (q_var 6) (a_cons q_bl sa_nil))) sa_nil)) sk_nil) (a_cons (q_call hX cis_name (T.glo 22) (a_cons (q_var 6) sa_nil) sk_nil) sa_nil))))) (g_name 7 hX))
(ss_cons (ss_if (t_cmp hX (q_prim (ps_repr hX 0) (T.free 10) (a_cons (q_var 7) sa_nil)) (q_prim (ps_repr hX 0) (T.free 10) (a_cons (q_lst (a_cons q_bl (a_cons q_bl (a_cons q_bl (a_cons q_bl sa_nil))))) sa_nil)))
(ss_cons (s_ret q_bl)
ss_nil)
ss_nil)
(ss_cons (s_ret (q_cmp hX (q_call hX cvalue_of (T.glo 16) (a_cons (q_bin hX (q_tup (a_cons q_int sa_nil)) (q_bin hX (q_tup (a_cons q_int sa_nil)) q_int)) (a_cons (q_tup (a_cons q_int (a_cons q_int (a_cons q_int (a_cons q_int sa_nil))))) sa_nil)) sk_nil) q_int))
ss_nil)))))))
end
end K02

namespace K02
open PySem PySem.Spec PyProof.Rows L2 Px
abbrev Rw : PySem.W.OpenRow := PySem.W.OpenLaw.row PySem.Challenge.rw_everwithin_k02_forms_and_names_of_any_va
abbrev hk : PySem.W.Hook := hookP 4 fa dn cs
def ob (s : PySem.W.SharedT) : AlP := obsPG 4 fa dn cs (HandSHeadRun.getT s)
theorem ob_eq (s : PySem.W.SharedT) : ob s = hk.obs s.abs := obsPG_eq (HandSHeadRun.getT_eq s)
def loose : List Str := (["LETTERS", "DIGITS", "LONGEST_NAME", "KEPT_WORDS", "is_integer", "is_name", "is_form", "value_of", "_law_deck", "_law_draw", "_law_pick", "_law_number", "_law_made", "_law_bent", "_law_is_form", "_law_sum", "_law_word", "_law_is_name", "_law_forms_right"] : List Str)
theorem run (w : World) : HandSHeadRun.RunEq Rw (PySem.W.view Rw.prog [21]) hk ob 6000 loose w := by
  intro os
  kernel_rfl
end K02
open PySem PySem.W PySem.Calls PyProof.Rows
theorem PySem.Challenge.cw_everwithin_k02_forms_and_names_of_any_va_holds : PySem.Challenge.rw_everwithin_k02_forms_and_names_of_any_va.Holds := by
  w_on; o_law
  refine HandSHeadRun.head_any (r := OpenLaw.row PySem.Challenge.rw_everwithin_k02_forms_and_names_of_any_va) (q := view (OpenLaw.row PySem.Challenge.rw_everwithin_k02_forms_and_names_of_any_va).prog [21]) (H := K02.hk) (ob := K02.ob) (M := 6000) (loose := K02.loose) (d := HandSHeadRun.topDef (OpenLaw.row PySem.Challenge.rw_everwithin_k02_forms_and_names_of_any_va).prog 21) (kwd := []) K02.ob_eq
    (by kernel_rfl) (fun s => by kernel_rfl) K02.run (by kernel_rfl) (by kernel_rfl) (by kernel_rfl) (by rfl) (by first | assumption | decide +kernel) (by decide +kernel) ⟨rfl, rfl, rfl, rfl, rfl, by decide +kernel⟩ ?hw ?hc
  case hw => w_witness2
  case hc =>
    refine Px.walk_ofE (l := PySem.Challenge.rw_everwithin_k02_forms_and_names_of_any_va) (n := 63) (k := 6) (x := "_law_script") (Fu := K02.Flaw) rfl (by decide) (by kernel_rfl) ⟨rfl, by decide, by decide⟩ rfl (by kernel_rfl) ?F K02.law_right
    intro w mg fa h Y G hmg0
    obtain ⟨K, KX, c⟩ := Y
    have hmg : mg ("law" : PySem.Str) = some (.ref fa) := by
      have e : (HandSHeadRun.topDef (OpenLaw.row PySem.Challenge.rw_everwithin_k02_forms_and_names_of_any_va).prog 21).name = ("law" : PySem.Str) := by kernel_rfl
      rw [← e]
      exact hmg0
    refine ⟨⟨K, fun _ => none⟩, KX, ?_⟩
    have T0 : ∀ base : Heap, K.In base → base.Ns mainGlobals mg → (∃ o, base.get? sysModules = some o) → Px.Tp K02.fa K02.dn K02.cs ⟨K, fun _ => none⟩ mg base := fun base h1 h2 h3 => ⟨c, h1, h2, h3⟩
    exact Px.law_fn T0 KX G hmg c 27 15 rfl rfl (fun u kV doc pm an cdv ct => rfl) fun base T => K02.oklaw T
