import PyProof.Rows.All
import Wide.All
import OpenK.AllK
import Wide.FinOn
import HandS.ForMost
import HandS.ForExc
import HandS.Flow
import HandS.IsInst
import HandS.Conv
import HandS.Zip
import HandS.Wide
import HandS.TupMul
import HandS.TupAny
import HandS.Deep
import HandS.Style
import HandS.TryOnly
import KE.KeyNested
import KE.KDictKeyed
import HandS.Ends
import HandS.Words
import Lean
import KE.KStateDown
import HandS.Defaults
import HandS.Head0
import HandS.Head1
import HandS.Head2
import HandS.HeadEnd
import HandS.HeadHook1
import HandS.HeadHook2
import HandS.ExcSuper
import HandS.ExcInit
import KE.KExcSuper
import HandS.ExcValue
import HandS.Property
import HandS.ClsMeth
import HandS.OwnEq
import HandS.ExcField
import HandS.ExcIs
import KE.KOpsOwn
import KE.KDictZip
import HandS.Zip0
import PyProof.ListNew
import HandS.TryMany
import PyProof.EnumMake
import PyProof.Draws
import HandS.Iter
import KE.DataMinMax
import PySem.Challenge.RW_everwithin_k08_courses_beside_powers
set_option Elab.async false
set_option linter.all false
set_option maxRecDepth 100000
set_option maxHeartbeats 4000000
/-! Px1: data by value, mutable cells, and how they stand in the abstract heap. -/
namespace Px
open PySem PySem.Spec PyProof.Rows L2

inductive D where
  | non | bl (b : Bool) | int (i : Int) | str (x : Str)
  | tup (xs : List D) | lst (xs : List D) | dct (ks vs : List D) | obj (c : Str) (ns : List Str) (vs : List D)
  | cell (n : Nat) | ty (c : Str)
  | lck (xs : List D)
inductive MO where
  | lst (xs : List D) | dct (ks vs : List D) | ins (c : Str) (ns : List Str) (vs : List D) | dn (ks vs : List D)
abbrev Store := List MO

/-- the written part, and where the own classes stand -/
structure Kc where
  K : PySem.W.Frag
  cm : Str → Option Addr
/-- what is frozen; where the cells stand -/
structure Rp where
  G : Hp
  m : List Addr

def kD : Key → D
  | .inl i => .int i
  | .inr x => .str x

mutual
def RV (C : Kc) (S : Rp) : D → V → Prop
  | .non, v => v = .non
  | .bl b, v => v = .bl b
  | .int i, v => v = .int i
  | .str x, v => v = .str x
  | .tup ds, v => ∃ a vs, v = .ref a ∧ SqT C.K S.G a vs ∧ RVs C S ds vs
  | .lst ds, v => ∃ a vs, v = .ref a ∧ S.G a = some (.lst vs) ∧ RVs C S ds vs
  | .lck ds, v => ∃ a vs, v = .ref a ∧ SqL C.K S.G a vs ∧ RVs C S ds vs
  | .dct ks us, v => ∃ (a : Addr) (kvs : List (Key × V)), v = .ref a ∧ S.G a = some (.dK kvs) ∧ ks = kvs.map (fun p => kD p.1) ∧ RVs C S us (kvs.map (·.2))
  | .obj c ns us, v => ∃ (a A dx : Addr) (fs : List (Str × V)), v = .ref a ∧ C.cm c = some A ∧ S.G a = some (.ins A dx fs) ∧ ns = fs.map (·.1) ∧ RVs C S us (fs.map (·.2))
  | .cell n, v => ∃ a, v = .ref a ∧ S.m[n]? = some a
  | .ty c, v => ∃ A, C.cm c = some A ∧ v = .ref A
def RVs (C : Kc) (S : Rp) : List D → List V → Prop
  | [], vs => vs = []
  | d :: ds, vs => ∃ v r, vs = v :: r ∧ RV C S d v ∧ RVs C S ds r
end

/-! ### dicts whose keys are tuples of numbers and of such tuples -/
mutual
def nkD : D → Option NestedKey
  | .int i => some (.num i)
  | .tup xs => (nkDs xs).map .tup
  | .non => none
  | .bl _ => none
  | .str _ => none
  | .lst _ => none
  | .dct _ _ => none
  | .obj _ _ _ => none
  | .cell _ => none
  | .ty _ => none
  | .lck _ => none
def nkDs : List D → Option (List NestedKey)
  | [] => some []
  | d :: ds => match nkD d, nkDs ds with
    | some a, some b => some (a :: b)
    | _, _ => none
end
def DNx (a : Addr) (es : List (NestedKey × Addr × V)) (h : Heap) : Prop :=
  (a == sysModules) = false ∧ es.length ≤ sizeLine ∧ ∃ (w : World) (xs : List (NestedKey × Addr × Value)) (o : Obj) (en : Array DictEntry) (ep : Nat),
    Paired (fun (p : NestedKey × Addr × V) (q : NestedKey × Addr × Value) => p.1 = q.1 ∧ p.2.1 = q.2.1 ∧ RelV p.2.2 q.2.2) es xs ∧ h.get? a = some o ∧ o.ExactDict ∧ o.data = .dict en ep ∧
    en.toList = xs.map (fun x => ⟨x.1.hash w, .ref x.2.1, x.2.2⟩) ∧ (xs.map (·.1)).Nodup
/-- a mutable object -/
def RO (C : Kc) (S : Rp) : MO → HO → Prop
  | .lst ds, o => ∃ vs, o = .lst vs ∧ RVs C S ds vs
  | .dct ks us, o => ∃ kvs : List (Key × V), o = .dK kvs ∧ ks = kvs.map (fun p => kD p.1) ∧ RVs C S us (kvs.map (·.2))
  | .ins c ns us, o => ∃ (A dx : Addr) (fs : List (Str × V)), o = .ins A dx fs ∧ C.cm c = some A ∧ ns = fs.map (·.1) ∧ RVs C S us (fs.map (·.2))
  | .dn ks us, o => ∃ (a : Addr) (es : List (NestedKey × Addr × V)), o = .ext (DNx a es) ∧ RVs C S ks (es.map fun x => V.ref x.2.1) ∧ nkDs ks = some (es.map (·.1)) ∧ (∀ x ∈ es, x.1.depth ≤ 8) ∧ RVs C S us (es.map (·.2.2))

structure Rep (C : Kc) (S : Rp) (st : Store) (H : Hp) : Prop where
  fz : ∀ a o, S.G a = some o → H a = some o
  len : S.m.length = st.length
  nd : S.m.Nodup
  at_ : ∀ (n : Nat) (mo : MO), st[n]? = some mo → ∃ a o, S.m[n]? = some a ∧ S.G a = none ∧ H a = some o ∧ RO C S mo o

structure Ext (S S' : Rp) : Prop where
  g : ∀ a o, S.G a = some o → S'.G a = some o
  m : ∃ l, S'.m = S.m ++ l
theorem Ext.refl (S : Rp) : Ext S S := ⟨fun _ _ h => h, [], by simp⟩
theorem Ext.trans {S S1 S2 : Rp} (a : Ext S S1) (b : Ext S1 S2) : Ext S S2 :=
  ⟨fun x o h => b.g x o (a.g x o h), by
    obtain ⟨l, e⟩ := a.m
    obtain ⟨l', e'⟩ := b.m
    exact ⟨l ++ l', by rw [e', e, List.append_assoc]⟩⟩
theorem Ext.at_ {S S' : Rp} (e : Ext S S') {n : Nat} {a : Addr} (h : S.m[n]? = some a) : S'.m[n]? = some a := by
  obtain ⟨l, q⟩ := e.m
  rw [q, List.getElem?_append_left (List.getElem?_eq_some_iff.mp h).1]
  exact h

/-! only the frozen part and the cells' places matter -/
structure Ext' (S S' : Rp) : Prop where
  g : ∀ a o, S.G a = some o → S'.G a = some o
  m : ∀ (n : Nat) (a : Addr), S.m[n]? = some a → S'.m[n]? = some a
theorem Ext.w {S S' : Rp} (e : Ext S S') : Ext' S S' := ⟨e.g, fun _ _ h => e.at_ h⟩
section
variable {C : Kc} {S S' : Rp}
theorem rd_mono {G G' : Hp} (g : ∀ a o, G a = some o → G' a = some o) {a : Addr} {u : HO} (h : Rd G a u) : Rd G' a u := by
  rcases h with h | ⟨o, h⟩
  · exact .inl (g _ _ h)
  · exact .inr ⟨o, g _ _ h⟩
theorem sqL_mono {K : PySem.W.Frag} {G G' : Hp} (g : ∀ a o, G a = some o → G' a = some o) {a : Addr} {vs : List V} (h : SqL K G a vs) : SqL K G' a vs := by
  rcases h with h | h
  · exact .inl (rd_mono g h)
  · exact .inr h
theorem sqT_mono {K : PySem.W.Frag} {G G' : Hp} (g : ∀ a o, G a = some o → G' a = some o) {a : Addr} {vs : List V} (h : SqT K G a vs) : SqT K G' a vs := by
  rcases h with h | h
  · exact .inl (rd_mono g h)
  · exact .inr h
mutual
theorem RV.mono' (e : Ext' S S') : ∀ {d : D} {v : V}, RV C S d v → RV C S' d v
  | .non, v, h => by rw [RV] at h ⊢; exact h
  | .bl _, v, h => by rw [RV] at h ⊢; exact h
  | .int _, v, h => by rw [RV] at h ⊢; exact h
  | .str _, v, h => by rw [RV] at h ⊢; exact h
  | .ty _, v, h => by rw [RV] at h ⊢; exact h
  | .cell n, v, h => by
    rw [RV] at h ⊢
    obtain ⟨a, e1, e2⟩ := h
    exact ⟨a, e1, e.m _ _ e2⟩
  | .tup ds, v, h => by
    rw [RV] at h ⊢
    obtain ⟨a, vs, e1, e2, e3⟩ := h
    exact ⟨a, vs, e1, sqT_mono e.g e2, RVs.mono' e e3⟩
  | .lst ds, v, h => by
    rw [RV] at h ⊢
    obtain ⟨a, vs, e1, e2, e3⟩ := h
    exact ⟨a, vs, e1, e.g _ _ e2, RVs.mono' e e3⟩
  | .lck ds, v, h => by
    rw [RV] at h ⊢
    obtain ⟨a, vs, e1, e2, e3⟩ := h
    exact ⟨a, vs, e1, sqL_mono e.g e2, RVs.mono' e e3⟩
  | .dct ks us, v, h => by
    rw [RV] at h ⊢
    obtain ⟨a, kvs, e1, e2, e3, e4⟩ := h
    exact ⟨a, kvs, e1, e.g _ _ e2, e3, RVs.mono' e e4⟩
  | .obj c ns us, v, h => by
    rw [RV] at h ⊢
    obtain ⟨a, A, dx, fs, e1, e2, e3, e4, e5⟩ := h
    exact ⟨a, A, dx, fs, e1, e2, e.g _ _ e3, e4, RVs.mono' e e5⟩
theorem RVs.mono' (e : Ext' S S') : ∀ {ds : List D} {vs : List V}, RVs C S ds vs → RVs C S' ds vs
  | [], vs, h => by rw [RVs] at h ⊢; exact h
  | d :: ds, vs, h => by
    rw [RVs] at h ⊢
    obtain ⟨v, r, e1, e2, e3⟩ := h
    exact ⟨v, r, e1, RV.mono' e e2, RVs.mono' e e3⟩
end
theorem RV.mono (e : Ext S S') {d : D} {v : V} (h : RV C S d v) : RV C S' d v := h.mono' e.w
theorem RVs.mono (e : Ext S S') {d : List D} {v : List V} (h : RVs C S d v) : RVs C S' d v := h.mono' e.w
theorem RO.mono' (e : Ext' S S') : ∀ {mo : MO} {o : HO}, RO C S mo o → RO C S' mo o
  | .lst _, _, ⟨vs, e1, e2⟩ => ⟨vs, e1, e2.mono' e⟩
  | .dct _ _, _, ⟨kvs, e1, e2, e3⟩ => ⟨kvs, e1, e2, e3.mono' e⟩
  | .ins _ _ _, _, ⟨A, dx, fs, e1, e2, e3, e4⟩ => ⟨A, dx, fs, e1, e2, e3, e4.mono' e⟩
  | .dn _ _, _, ⟨a, es, e1, e2, e3, e4, e5⟩ => ⟨a, es, e1, e2.mono' e, e3, e4, e5.mono' e⟩
theorem RVs.length : ∀ {ds : List D} {vs : List V}, RVs C S ds vs → ds.length = vs.length
  | [], vs, h => by rw [RVs] at h; subst h; rfl
  | d :: ds, vs, h => by
    rw [RVs] at h
    obtain ⟨v, r, rfl, _, e3⟩ := h
    simp [RVs.length e3]
theorem RVs.get : ∀ {ds : List D} {vs : List V} {i : Nat} {d : D}, RVs C S ds vs → ds[i]? = some d → ∃ v, vs[i]? = some v ∧ RV C S d v
  | [], _, _, _, _, e => by simp at e
  | d :: ds, vs, 0, x, h, e => by
    rw [RVs] at h
    obtain ⟨v, r, rfl, e2, _⟩ := h
    simp at e; subst e
    exact ⟨v, rfl, e2⟩
  | d :: ds, vs, i + 1, x, h, e => by
    rw [RVs] at h
    obtain ⟨v, r, rfl, _, e3⟩ := h
    simp at e
    obtain ⟨w, h1, h2⟩ := RVs.get e3 e
    exact ⟨w, by simpa using h1, h2⟩
theorem RVs.back : ∀ {ds : List D} {vs : List V} {i : Nat} {v : V}, RVs C S ds vs → vs[i]? = some v → ∃ d, ds[i]? = some d ∧ RV C S d v
  | [], vs, i, v, h, e => by rw [RVs] at h; subst h; simp at e
  | d :: ds, vs, 0, x, h, e => by
    rw [RVs] at h
    obtain ⟨v, r, rfl, e2, _⟩ := h
    simp at e; subst e
    exact ⟨d, rfl, e2⟩
  | d :: ds, vs, i + 1, x, h, e => by
    rw [RVs] at h
    obtain ⟨v, r, rfl, _, e3⟩ := h
    simp at e
    obtain ⟨w, h1, h2⟩ := RVs.back e3 e
    exact ⟨w, by simpa using h1, h2⟩
theorem RVs.append : ∀ {ds es : List D} {vs us : List V}, RVs C S ds vs → RVs C S es us → RVs C S (ds ++ es) (vs ++ us)
  | [], es, vs, us, h, k => by rw [RVs] at h; subst h; exact k
  | d :: ds, es, vs, us, h, k => by
    rw [RVs] at h
    obtain ⟨v, r, rfl, e2, e3⟩ := h
    show RVs C S (d :: (ds ++ es)) (v :: (r ++ us))
    rw [RVs]
    exact ⟨v, _, rfl, e2, RVs.append e3 k⟩
theorem RVs.cons {d : D} {v : V} {ds : List D} {vs : List V} (h : RV C S d v) (k : RVs C S ds vs) : RVs C S (d :: ds) (v :: vs) := by
  rw [RVs]; exact ⟨v, vs, rfl, h, k⟩
theorem RVs.nil : RVs C S [] [] := by rw [RVs]
theorem RVs.one {d : D} {v : V} (h : RV C S d v) : RVs C S [d] [v] := .cons h .nil
theorem RVs.take : ∀ {ds : List D} {vs : List V} (n : Nat), RVs C S ds vs → RVs C S (ds.take n) (vs.take n)
  | [], vs, n, h => by rw [RVs] at h; subst h; simp; exact .nil
  | d :: ds, vs, 0, h => by simp; exact .nil
  | d :: ds, vs, n + 1, h => by
    rw [RVs] at h
    obtain ⟨v, r, rfl, e2, e3⟩ := h
    exact .cons e2 (RVs.take n e3)
theorem RVs.drop : ∀ {ds : List D} {vs : List V} (n : Nat), RVs C S ds vs → RVs C S (ds.drop n) (vs.drop n)
  | [], vs, n, h => by rw [RVs] at h; subst h; simp; exact .nil
  | d :: ds, vs, 0, h => by simpa using h
  | d :: ds, vs, n + 1, h => by
    rw [RVs] at h
    obtain ⟨v, r, rfl, e2, e3⟩ := h
    exact RVs.drop n e3
theorem RVs.reverse : ∀ {ds : List D} {vs : List V}, RVs C S ds vs → RVs C S ds.reverse vs.reverse
  | [], vs, h => by rw [RVs] at h; subst h; exact .nil
  | d :: ds, vs, h => by
    rw [RVs] at h
    obtain ⟨v, r, rfl, e2, e3⟩ := h
    rw [List.reverse_cons, List.reverse_cons]
    exact (RVs.reverse e3).append (.one e2)
theorem RVs.set : ∀ {ds : List D} {vs : List V} (i : Nat) {d : D} {v : V}, RVs C S ds vs → RV C S d v → RVs C S (ds.set i d) (vs.set i v)
  | [], vs, i, _, _, h, _ => by rw [RVs] at h; subst h; exact .nil
  | d :: ds, vs, 0, _, _, h, k => by
    rw [RVs] at h
    obtain ⟨v, r, rfl, _, e3⟩ := h
    exact .cons k e3
  | d :: ds, vs, i + 1, _, _, h, k => by
    rw [RVs] at h
    obtain ⟨v, r, rfl, e2, e3⟩ := h
    exact .cons e2 (RVs.set i e3 k)
theorem RVs.replicate {d : D} {v : V} (h : RV C S d v) : ∀ n : Nat, RVs C S (List.replicate n d) (List.replicate n v)
  | 0 => .nil
  | n + 1 => .cons h (RVs.replicate h n)
end

/-! ### allocation, change, freezing -/
section
variable {C : Kc} {S S' : Rp} {st : Store} {H H' : Hp}
/-- the heap grows -/
theorem Rep.same (r : Rep C S st H) (s : Same H H') : Rep C S st H' :=
  ⟨fun a o h => s _ _ (r.fz _ _ h), r.len, r.nd, fun n mo h => by
    obtain ⟨a, o, h1, h2, h3, h4⟩ := r.at_ n mo h
    exact ⟨a, o, h1, h2, s _ _ h3, h4⟩⟩
theorem Rep.free (r : Rep C S st H) {p : Addr} (h : H p = none) : S.G p = none := by
  cases e : S.G p with
  | none => rfl
  | some o => rw [r.fz _ _ e] at h; cases h
theorem Rep.notin (r : Rep C S st H) {p : Addr} (h : H p = none) : p ∉ S.m := fun hm => by
  obtain ⟨n, hn, e⟩ := List.getElem_of_mem hm
  have hn' : n < st.length := by rw [← r.len]; exact hn
  obtain ⟨a, o, h1, _, h3, _⟩ := r.at_ n st[n] (List.getElem?_eq_getElem hn')
  rw [List.getElem?_eq_getElem hn] at h1
  cases h1
  rw [e, h] at h3
  cases h3
def Rp.fz (S : Rp) (p : Addr) (o : HO) : Rp := ⟨upd S.G p o, S.m⟩
def Rp.cl (S : Rp) (p : Addr) : Rp := ⟨S.G, S.m ++ [p]⟩
theorem Ext.fz {S : Rp} {p : Addr} {o : HO} (h : S.G p = none) : Ext S (S.fz p o) :=
  ⟨fun a u e => by
    show upd S.G p o a = some u
    rw [upd_ne (ne_of_none e h)]; exact e, [], by simp [Rp.fz]⟩
theorem Ext.cl {S : Rp} {p : Addr} : Ext S (S.cl p) := ⟨fun _ _ h => h, [p], rfl⟩
/-- a new object that never changes -/
theorem Rep.newF (r : Rep C S st H) {p : Addr} {o : HO} (h : H p = none) : Rep C (S.fz p o) st (upd H p o) := by
  have hG := r.free h
  have hx := (Ext.fz (o := o) hG).w
  refine ⟨fun a u e => ?_, r.len, r.nd, fun n mo e => ?_⟩
  · by_cases q : a = p
    · subst q
      have e' : upd S.G a o a = some u := e
      rw [upd_same] at e' ⊢; exact e'
    · have e' : upd S.G p o a = some u := e
      rw [upd_ne q] at e' ⊢
      exact r.fz _ _ e'
  · obtain ⟨a, u, h1, h2, h3, h4⟩ := r.at_ n mo e
    have ne : a ≠ p := ne_of_none h3 h
    exact ⟨a, u, h1, by show upd S.G p o a = none; rw [upd_ne ne]; exact h2, by rw [upd_ne ne]; exact h3, h4.mono' hx⟩
/-- a new mutable object -/
theorem Rep.newC (r : Rep C S st H) {p : Addr} {o : HO} {mo : MO} (h : H p = none) (k : RO C S mo o) : Rep C (S.cl p) (st ++ [mo]) (upd H p o) := by
  have hx : Ext' S (S.cl p) := Ext.cl.w
  refine ⟨fun a u e => ?_, ?_, ?_, fun n mo' e => ?_⟩
  · rw [upd_ne (ne_of_none e (r.free h))]
    exact r.fz _ _ e
  · show (S.m ++ [p]).length = (st ++ [mo]).length
    simp [r.len]
  · show (S.m ++ [p]).Nodup
    rw [List.nodup_append]
    refine ⟨r.nd, by simp, fun a ha b hb => ?_⟩
    simp at hb; subst hb
    exact fun q => r.notin h (q ▸ ha)
  · by_cases hn : n < st.length
    · rw [List.getElem?_append_left hn] at e
      obtain ⟨a, u, h1, h2, h3, h4⟩ := r.at_ n mo' e
      refine ⟨a, u, hx.m _ _ h1, h2, ?_, h4.mono' hx⟩
      rw [upd_ne (ne_of_none h3 h)]; exact h3
    · have hn' : n = st.length := by
        have := (List.getElem?_eq_some_iff.mp e).1
        simp at this; omega
      subst hn'
      rw [List.getElem?_append_right (Nat.le_refl _)] at e
      simp at e; subst e
      refine ⟨p, o, ?_, r.free h, upd_same, k.mono' hx⟩
      show (S.m ++ [p])[st.length]? = some p
      rw [← r.len]; simp
theorem inj_at {l : List Addr} (nd : l.Nodup) {i j : Nat} {a : Addr} (h1 : l[i]? = some a) (h2 : l[j]? = some a) : i = j := by
  obtain ⟨hi, e1⟩ := List.getElem?_eq_some_iff.mp h1
  obtain ⟨hj, e2⟩ := List.getElem?_eq_some_iff.mp h2
  have P := List.pairwise_iff_getElem.mp nd
  rcases Nat.lt_trichotomy i j with h | h | h
  · exact absurd (e1.trans e2.symm) (P i j hi hj h)
  · exact h
  · exact absurd (e2.trans e1.symm) (P j i hj hi h)
/-- a mutable object is changed -/
theorem Rep.setC (r : Rep C S st H) {n : Nat} {p : Addr} {o : HO} {mo : MO} (hp : S.m[n]? = some p) (k : RO C S mo o) : Rep C S (st.set n mo) (upd H p o) := by
  have hn : n < st.length := by rw [← r.len]; exact (List.getElem?_eq_some_iff.mp hp).1
  obtain ⟨a0, u0, q1, q2, q3, q4⟩ := r.at_ n st[n] (List.getElem?_eq_getElem hn)
  rw [hp] at q1; cases q1
  refine ⟨fun a u e => ?_, by simp [r.len], r.nd, fun j mo' e => ?_⟩
  · rw [upd_ne (ne_of_none e q2)]
    exact r.fz _ _ e
  · by_cases q : j = n
    · subst q
      rw [List.getElem?_set_self hn] at e
      cases e
      exact ⟨p, o, hp, q2, upd_same, k⟩
    · rw [List.getElem?_set_ne (Ne.symm q)] at e
      obtain ⟨a, u, h1, h2, h3, h4⟩ := r.at_ j mo' e
      refine ⟨a, u, h1, h2, ?_, h4⟩
      rw [upd_ne (show a ≠ p from fun z => q (inj_at r.nd h1 (by rw [z]; exact hp)))]
      exact h3
end
end Px

/-! Px2: the evaluator over data by value and cells. -/
namespace Px
open PySem PySem.Spec PyProof.Rows L2

abbrev Env := List (Option D)
inductive R (α : Type) where
  | ok (a : α) (st : Store)
  | ex (c : Str) (ns : List Str) (vs : List D) (st : Store)
  | bad
def R.bind {α β : Type} (r : R α) (f : α → Store → R β) : R β := match r with
  | .ok a st => f a st
  | .ex c ns vs st => .ex c ns vs st
  | .bad => .bad
@[simp] theorem R.bind_ok {α β : Type} (a : α) (st : Store) (f : α → Store → R β) : (R.ok a st).bind f = f a st := rfl
@[simp] theorem R.bind_ex {α β : Type} (c : Str) (ns : List Str) (vs : List D) (st : Store) (f : α → Store → R β) : (R.ex c ns vs st : R α).bind f = .ex c ns vs st := rfl
@[simp] theorem R.bind_bad {α β : Type} (f : α → Store → R β) : (R.bad : R α).bind f = .bad := rfl
def ofO {α : Type} (o : Option α) (st : Store) : R α := match o with
  | some a => .ok a st
  | none => .bad
@[simp] theorem ofO_some {α : Type} (a : α) (st : Store) : ofO (some a) st = .ok a st := rfl
@[simp] theorem ofO_none {α : Type} (st : Store) : (ofO none st : R α) = .bad := rfl

def lim : Nat := 1000000

/-! ### data -/
mutual
def D.py : D → Option PyData
  | .non => some .none
  | .bl b => some (.bool b)
  | .int i => some (.int i)
  | .str x => some (.str x)
  | .tup xs => (pys xs).map .tuple
  | .lst xs => (pys xs).map .list
  | .dct ks vs => match pys ks, pys vs with
    | some a, some b => some (.dict (a.zip b))
    | _, _ => none
  | .obj _ _ _ => none
  | .cell _ => none
  | .ty _ => none
  | .lck _ => none
def pys : List D → Option (List PyData)
  | [] => some []
  | d :: ds => match d.py, pys ds with
    | some a, some b => some (a :: b)
    | _, _ => none
end
mutual
def noCell : D → Bool
  | .cell _ => false
  | .tup xs => noCells xs
  | .lst xs => noCells xs
  | .dct _ vs => noCells vs
  | .obj _ _ vs => noCells vs
  | .non => true
  | .bl _ => true
  | .int _ => true
  | .str _ => true
  | .ty _ => true
  | .lck xs => noCells xs
def noCells : List D → Bool
  | [] => true
  | d :: ds => noCell d && noCells ds
end
mutual
/-- cells resolved -/
def frz (f : Nat → Option D) : D → Option D
  | .cell n => f n
  | .tup xs => (frzs f xs).map .tup
  | .lst xs => (frzs f xs).map .lst
  | .dct ks vs => (frzs f vs).map (.dct ks)
  | .obj c ns vs => (frzs f vs).map (.obj c ns)
  | .non => some .non
  | .bl b => some (.bl b)
  | .int i => some (.int i)
  | .str x => some (.str x)
  | .ty n => some (.ty n)
  | .lck xs => if noCells xs then some (.lck xs) else none
def frzs (f : Nat → Option D) : List D → Option (List D)
  | [] => some []
  | d :: ds => match frz f d, frzs f ds with
    | some a, some b => some (a :: b)
    | _, _ => none
end
def moV (f : Nat → Option D) : MO → Option D
  | .lst xs => (frzs f xs).map .lst
  | .dct ks vs => (frzs f vs).map (.dct ks)
  | .ins c ns vs => (frzs f vs).map (.obj c ns)
  | .dn _ _ => none
/-- the value of a cell n0 or above, to a depth; below n0 it stays -/
def cellV (n0 : Nat) (st : Store) : Nat → Nat → Option D
  | 0, n => if n < n0 then some (.cell n) else none
  | k + 1, n => if n < n0 then some (.cell n) else match st[n]? with
    | some mo => moV (cellV n0 st k) mo
    | none => none
def view (st : Store) (d : D) : Option D := frz (cellV 0 st 8) d
mutual
theorem frz_id (f : Nat → Option D) : ∀ d : D, noCell d = true → frz f d = some d
  | .cell n, h => by simp [noCell] at h
  | .tup xs, h => by rw [frz, frzs_id f xs (by simpa [noCell] using h)]; rfl
  | .lst xs, h => by rw [frz, frzs_id f xs (by simpa [noCell] using h)]; rfl
  | .dct ks vs, h => by rw [frz, frzs_id f vs (by simpa [noCell] using h)]; rfl
  | .obj c ns vs, h => by rw [frz, frzs_id f vs (by simpa [noCell] using h)]; rfl
  | .non, _ => by rw [frz]
  | .bl _, _ => by rw [frz]
  | .int _, _ => by rw [frz]
  | .str _, _ => by rw [frz]
  | .ty _, _ => by rw [frz]
  | .lck xs, h => by rw [frz, if_pos (by simpa [noCell] using h)]
theorem frzs_id (f : Nat → Option D) : ∀ ds : List D, noCells ds = true → frzs f ds = some ds
  | [], _ => by rw [frzs]
  | d :: ds, h => by
    rw [noCells, Bool.and_eq_true] at h
    rw [frzs, frz_id f d h.1, frzs_id f ds h.2]
end

/-- one level: what a cell holds -/
def moD : MO → Option D
  | .lst xs => some (.lst xs)
  | .dct ks vs => some (.dct ks vs)
  | .ins c ns vs => some (.obj c ns vs)
  | .dn _ _ => none
def look (st : Store) (d : D) : Option D := match d with
  | .cell n => (st[n]?).bind moD
  | .lck xs => some (.lst xs)
  | d => some d
theorem look_cell (st : Store) (n : Nat) : look st (.cell n) = (st[n]?).bind moD := rfl
/-- the items of a list or tuple -/
def seqOf (st : Store) (d : D) : Option (List D) := match look st d with
  | some (.lst xs) => some xs
  | some (.tup xs) => some xs
  | _ => none
def lstOf (st : Store) (d : D) : Option (List D) := match look st d with
  | some (.lst xs) => some xs
  | _ => none
/-- .. of a list that is tracked -/
def trkOf (st : Store) (d : D) : Option (List D) := match d with
  | .lck _ => none
  | d => lstOf st d
def truth (st : Store) (d : D) : Option Bool := match look st d with
  | some .non => some false
  | some (.bl b) => some b
  | some (.int i) => some (i != 0)
  | some (.str x) => if x.length ≤ lim then some ((x.length : Int) != 0) else none
  | some (.tup xs) => some (!xs.isEmpty)
  | some (.lst xs) => some (!xs.isEmpty)
  | some (.dct ks _) => some (!ks.isEmpty)
  | _ => none
def lenD (st : Store) (d : D) : Option Nat := match look st d with
  | some (.str x) => if x.length ≤ lim then some x.length else none
  | some (.tup xs) => some xs.length
  | some (.lst xs) => some xs.length
  | some (.dct ks _) => some ks.length
  | _ => none
def mkL (mu : Nat) (xs : List D) (st : Store) : R D := if xs.length ≤ lim then (if mu = 0 then .ok (.lst xs) st else .ok (.cell st.length) (st ++ [.lst xs])) else .bad
def mkT (xs : List D) (st : Store) : R D := if xs.length ≤ lim then .ok (.tup xs) st else .bad

/-- a bound of the length of what repr writes -/
def intW (i : Int) : Nat := i.natAbs.log2 + 4
mutual
def wt : D → Nat
  | .non => 4
  | .bl _ => 5
  | .int i => intW i
  | .str x => 10 * x.length + 2
  | .tup xs => wts xs + 3
  | .lst xs => wts xs + 2
  | .dct ks vs => wts ks + wts vs + 2
  | .obj _ _ _ => 0
  | .cell _ => 0
  | .ty _ => 0
  | .lck _ => 0
def wts : List D → Nat
  | [] => 0
  | d :: ds => wt d + 2 + wts ds
end

/-! ### operators -/
def intSmall (i : Int) : Bool := decide (i.natAbs < 2 ^ 64)
def mulOk (i j : Int) : Bool := intSmall i || intSmall j || decide (i.natAbs.log2 + j.natAbs.log2 ≤ 100000)
def keyOf : D → Option Key
  | .int i => some (.inl i)
  | .str x => some (.inr x)
  | _ => none
def binD (mu : Nat) (op : Operator) (a b : D) (st : Store) : R D :=
  match op, a, b with
  | .Add, .int i, .int j => .ok (.int (i + j)) st
  | .Add, .str x, .str y => if x.length + y.length ≤ lim then .ok (.str (x ++ y)) st else .bad
  | .Add, .tup xs, .tup ys => mkT (xs ++ ys) st
  | .Add, x, y => match trkOf st x, trkOf st y with
    | some xs, some ys => mkL mu (xs ++ ys) st
    | _, _ => .bad
  | .Sub, .int i, .int j => .ok (.int (i - j)) st
  | .Mult, .int i, .int j => if mulOk i j then .ok (.int (i * j)) st else .bad
  | .Mult, .tup xs, .int k => if xs.length ≤ 1000 && decide (-1000 ≤ k) && decide (k ≤ 1000) then .ok (.tup (List.replicate k.toNat xs).flatten) st else .bad
  | .Mult, x, .int k => match trkOf st x with
    | some xs => if xs.length * k.toNat ≤ lim && decide (-(2 ^ 63) ≤ k) && decide (k < 2 ^ 63) then mkL mu (List.replicate k.toNat xs).flatten st else .bad
    | none => .bad
  | .FloorDiv, .int i, .int j => if decide (0 < j) && decide (j < 1073741824) then .ok (.int (i / j)) st else .bad
  | .Mod, .int i, .int j => if 0 < j then .ok (.int (i % j)) st else .bad
  | .Pow, .int i, .int j => if decide (0 ≤ j) && decide ((i.natAbs.log2 + 1) * j.toNat ≤ 1000000) then .ok (.int (i ^ j.toNat)) st else .bad
  | _, _, _ => .bad

def flatD : D → Bool
  | .non => true
  | .bl _ => true
  | .int _ => true
  | .str _ => true
  | _ => false
def eqF : D → D → Bool
  | .non, .non => true
  | .bl a, .bl b => a == b
  | .bl a, .int b => (if a then 1 else 0) == b
  | .int a, .bl b => a == (if b then 1 else 0)
  | .int a, .int b => a == b
  | .str a, .str b => a == b
  | _, _ => false
/-- == of data -/
def eqD (st : Store) (a b : D) : Option Bool := match a, b with
  | .str x, .str y => some (x == y)
  | a, b => match view st a, view st b with
    | some x, some y => match x.py, y.py with
      | some p, some q => if SeqAt.shaped p && SeqAt.shaped q then some (PyData.eqv p q) else none
      | _, _ => none
    | _, _ => none
/-- one sign -/
def signOf (x : Str) : Option Nat := match x.cps.toList with
  | [c] => some c
  | _ => none
def inD (st : Store) (a b : D) : Option Bool := match a, look st b with
  | .str x, some (.str z) => some (!(Builtin.Str.occurrences z x 0 z.length 1).isEmpty)
  | a, some (.lst xs) => if flatD a && xs.all flatD then some (xs.any fun z => eqF z a) else none
  | a, some (.tup xs) => if flatD a && xs.all flatD then some (xs.any fun z => eqF z a) else none
  | _, _ => none
def cmpD (op : CmpOp) (a b : D) (st : Store) : R D :=
  match op, a, b with
  | .Lt, .int i, .int j => .ok (.bl (decide (i < j))) st
  | .LtE, .int i, .int j => .ok (.bl (decide (i ≤ j))) st
  | .Gt, .int i, .int j => .ok (.bl (decide (j < i))) st
  | .GtE, .int i, .int j => .ok (.bl (decide (j ≤ i))) st
  | .Is, x, .non => .ok (.bl (match x with | .non => true | _ => false)) st
  | .IsNot, x, .non => .ok (.bl (match x with | .non => false | _ => true)) st
  | .Eq, x, y => match eqD st x y with
    | some b => .ok (.bl b) st
    | none => .bad
  | .NotEq, x, y => match eqD st x y with
    | some b => .ok (.bl (!b)) st
    | none => .bad
  | .In, x, y => match inD st x y with
    | some b => .ok (.bl b) st
    | none => .bad
  | .NotIn, x, y => match inD st x y with
    | some b => .ok (.bl (!b)) st
    | none => .bad
  | _, _, _ => .bad

def lookK (k : Key) : List D → List D → Option D
  | .int i :: ks, v :: vs => if k = .inl i then some v else lookK k ks vs
  | .str x :: ks, v :: vs => if k = .inr x then some v else lookK k ks vs
  | _, _ => none
def putK (k : Key) (u : D) : List D → List D → List D
  | .int i :: ks, v :: vs => if k = .inl i then u :: vs else v :: putK k u ks vs
  | .str x :: ks, v :: vs => if k = .inr x then u :: vs else v :: putK k u ks vs
  | _, vs => vs
def ixD (a i : D) (st : Store) : R D := match look st a, i with
  | some (.tup xs), .int k => ofO (atI xs k) st
  | some (.lst xs), .int k => ofO (atI xs k) st
  | some (.str x), .int k => if x.length ≤ lim then ofO ((atI x.cps.toList k).map fun c => .str ⟨#[c]⟩) st else .bad
  | some (.dct ks vs), k => match keyOf k with
    | some q => ofO (lookK q ks vs) st
    | none => .bad
  | _, _ => .bad
def cutL {α : Type} (xs : List α) (lo hi : Option Int) : List α := (xs.drop (HT.sIx xs.length 0 lo)).take (HT.sIx xs.length xs.length hi - HT.sIx xs.length 0 lo)
def slcD (mu : Nat) (a : D) (l h : Option Int) (st : Store) : R D := match look st a with
  | some (.lst xs) => mkL mu (cutL xs l h) st
  | some (.tup xs) => .ok (.tup (cutL xs l h)) st
  | some (.str x) => if x.length ≤ lim then .ok (.str (cutS x l h)) st else .bad
  | _ => .bad
def partF (f : Env → Store → R D) : Env → Store → R (Option Int) := fun ρ st => (f ρ st).bind fun x st1 => match x with
  | .int i => .ok (some i) st1
  | _ => .bad
def revD (mu : Nat) (a : D) (st : Store) : R D := match look st a with
  | some (.lst xs) => mkL mu xs.reverse st
  | _ => .bad

inductive Prm where
  | len | abs | int | str | sum | tuple | list | all | any | repr | max2 | min2
  deriving DecidableEq
def intsOf : List D → Option (List Int)
  | [] => some []
  | .int i :: ds => (intsOf ds).map (i :: ·)
  | _ :: _ => none
def blsOf : List D → Option (List Bool)
  | [] => some []
  | .bl i :: ds => (blsOf ds).map (i :: ·)
  | _ :: _ => none
def primD (mu : Nat) (p : Prm) (as : List D) (st : Store) : R D :=
  match p, as with
  | .len, [a] => ofO ((lenD st a).map fun n => .int n) st
  | .abs, [.int i] => .ok (.int (if i < 0 then -i else i)) st
  | .int, [.int i] => .ok (.int i) st
  | .int, [.bl b] => .ok (.int (if b then 1 else 0)) st
  | .str, [.int i] => if i.natAbs.log2 < 1920 then .ok (.str (toString i)) st else .bad
  | .sum, [a] => match lstOf st a with
    | some xs => ofO ((intsOf xs).map fun ns => .int ns.sum) st
    | none => .bad
  | .tuple, [a] => match look st a with
    | some (.lst xs) => mkT xs st
    | some (.tup xs) => .ok (.tup xs) st
    | _ => .bad
  | .list, [a] => match seqOf st a with
    | some xs => mkL mu xs st
    | none => .bad
  | .all, [a] => match lstOf st a with
    | some xs => ofO ((blsOf xs).map fun bs => .bl (bs.all id)) st
    | none => .bad
  | .any, [a] => match lstOf st a with
    | some xs => ofO ((blsOf xs).map fun bs => .bl (bs.any id)) st
    | none => .bad
  | .repr, [a] => match view st a with
    | some d => match d.py with
      | some q => if PyData.showable q && decide (q.depth ≤ 64) && decide (q.shown.length ≤ lim) then .ok (.str q.shown) st else .bad
      | none => .bad
    | none => .bad
  | .max2, [.int i, .int j] => .ok (.int (if j > i then j else i)) st
  | .min2, [.int i, .int j] => .ok (.int (if j < i then j else i)) st
  | _, _ => .bad

/-- a type that isinstance asks for -/
inductive Ty where
  | b (n : String)
  | c (x : Str)
  deriving DecidableEq
def tyOf (st : Store) (d : D) : Option Ty := match look st d with
  | some .non => some (.b "NoneType")
  | some (.bl _) => some (.b "bool")
  | some (.int _) => some (.b "int")
  | some (.str _) => some (.b "str")
  | some (.tup _) => some (.b "tuple")
  | some (.lst _) => some (.b "list")
  | some (.dct _ _) => some (.b "dict")
  | some (.obj c _ _) => some (.c c)
  | _ => none

inductive Bm where
  | append | pop | popAt
  deriving DecidableEq
/-! ### the terms -/
inductive Tg where
  | name (i : Nat)
  | tup (ts : List Tg)
mutual
inductive E where
  | var (i : Nat) | con (d : D)
  | bin (mu : Nat) (op : Operator) (a b : E) | neg (a : E) | not (a : E)
  | cmp (op : CmpOp) (a b : E) | chain (o1 o2 : CmpOp) (a b c : E)
  | and (a b : E) | or (a b : E) | ite (t a b : E)
  | tup (es : List E) | lst (mu : Nat) (es : List E) | dct (mu : Nat) (ks : List D) (es : List E)
  | ix (a i : E) | slc (mu : Nat) (a : E) (lo hi : Option E) | rev (mu : Nat) (a : E)
  | call (f : Str) (es : List E) (ks : List Str) (kes : List E)
  | prim (mu : Nat) (p : Prm) (es : List E)
  | isin (a : E) (t : Ty)
  | bm (m : Bm) (o : E) (es : List E)
  | meth (m : Str) (o : E) (es : List E) (ks : List Str) (kes : List E)
  | attr (o : E) (f : Str)
  | mk (c : Str) (es : List E) (ks : List Str) (kes : List E)
  | comp (mu : Nat) (vs : List Nat) (tg : Tg) (it : It) (t : E) (el : E)
inductive It where
  | ex (e : E) | rng (es : List E) | zip (es : List E) | enum (es : List E)
end
inductive S where
  | asg (tg : Tg) (e : E) | par (i j : Nat) (a b : E) | aug (i : Nat) (op : Operator) (e : E)
  | setI (o i e : E) | augI (o i : E) (op : Operator) (e : E) | setF (o : E) (f : Str) (e : E)
  | exp (e : E) | ret (e : E) | ite (t : E) (a b : List S) | whl (t : E) (b : List S) | for_ (tg : Tg) (it : It) (b : List S)
  | brk | cnt | pas
  | rse (e : E)

structure Fn where
  ps : List Str
  df : List (Option D)
  sh : List (Nat × List Str)
  run : List D → Store → R D
structure Genv where
  fn : Str → Option Fn
  mt : Str → Str → Option Fn
  pr : Str → Str → Option Fn
  con : Str → Option (Bool × Fn)
  sup : Str → Ty → Option Bool
  fuel : Nat

/-- the arguments in the parameters' order -/
def fillKw {α : Type} (ks : List Str) (us : List α) (x : Str) : Option α := match ks, us with
  | k :: ks, u :: us => if k = x then some u else fillKw ks us x
  | _, _ => none
def pick {α : Type} (a b : Option α) : Option α := match a with
  | some u => some u
  | none => b
def fillIn {α : Type} (ks : List Str) (us : List α) : List Str → List (Option α) → Option (List α)
  | [], _ => some []
  | p :: ps, [] => match fillKw ks us p, fillIn ks us ps [] with
    | some u, some r => some (u :: r)
    | _, _ => none
  | p :: ps, d :: ds => match pick (fillKw ks us p) d, fillIn ks us ps ds with
    | some u, some r => some (u :: r)
    | _, _ => none
def bindG {α : Type} (ps : List Str) (df : List (Option α)) (as : List α) (ks : List Str) (us : List α) : Option (List α) := (fillIn ks us (ps.drop as.length) (df.drop as.length)).map (as ++ ·)
/-- only calls of a shape that is known -/
def Fn.bind (F : Fn) (as : List D) (ks : List Str) (us : List D) : Option (List D) :=
  if F.sh.any (fun s => s.1 == as.length && decide (s.2 = ks)) && us.length == ks.length then bindG F.ps F.df as ks us else none

mutual
def setT : Tg → D → Env → Option Env
  | .name i, d, ρ => some (ρ.set i (some d))
  | .tup ts, d, ρ => match d with
    | .tup ds => setTs ts ds ρ
    | .lst ds => setTs ts ds ρ
    | _ => none
def setTs : List Tg → List D → Env → Option Env
  | [], [], ρ => some ρ
  | [], _ :: _, _ => none
  | _ :: _, [], _ => none
  | t :: ts, d :: ds, ρ => match setT t d ρ with
    | some ρ' => setTs ts ds ρ'
    | none => none
end
def wipeE (ρ : Env) : List Nat → Env
  | [] => ρ
  | v :: vs => (wipeE ρ vs).set v none

/-- what a loop walks: the items; the cell that must stay as it is -/
abbrev Walk := List D × Option (Nat × List D)
def guardOk (st : Store) : Option (Nat × List D) → Prop
  | none => True
  | some (n, xs) => st[n]? = some (.lst xs)
def bmeth (m : Bm) (o : D) (as : List D) (st : Store) : R D := match o with
  | .cell n => match st[n]? with
    | some (.lst xs) => match m, as with
      | .append, [a] => if xs.length < lim then .ok .non (st.set n (.lst (xs ++ [a]))) else .bad
      | .pop, [] => match xs[xs.length - 1]? with
        | some y => .ok y (st.set n (.lst xs.dropLast))
        | none => .bad
      | .popAt, [.int i] => match seqIndex? i xs.length with
        | some k => match xs[k]? with
          | some y => if decide (-(2 ^ 63) ≤ i) && decide (i < 2 ^ 63) then .ok y (st.set n (.lst (xs.eraseIdx k))) else .bad
          | none => .bad
        | none => .bad
      | _, _ => .bad
    | _ => .bad
  | _ => .bad
def callMeth (Γ : Genv) (m : Str) (o : D) (as : List D) (ks : List Str) (us : List D) (st : Store) : R D :=
  match look st o with
  | some (.obj c _ _) => match Γ.mt c m with
    | some F => match F.bind (o :: as) ks us with
      | some vs => F.run vs st
      | none => .bad
    | none => .bad
  | _ => .bad
def lookN (f : Str) : List Str → List D → Option D
  | n :: ns, v :: vs => if f = n then some v else lookN f ns vs
  | _, _ => none
def putN (f : Str) (u : D) : List Str → List D → List Str × List D
  | n :: ns, v :: vs => if f = n then (n :: ns, u :: vs) else let r := putN f u ns vs; (n :: r.1, v :: r.2)
  | _, _ => ([f], [u])
def attrD (Γ : Genv) (f : Str) (o : D) (st : Store) : R D := match look st o with
  | some (.obj c ns vs) => match lookN f ns vs with
    | some v => .ok v st
    | none => match Γ.pr c f with
      | some F => F.run [o] st
      | none => .bad
  | _ => .bad
mutual
def below (n0 : Nat) : D → Bool
  | .cell n => decide (n < n0)
  | .tup xs => belows n0 xs
  | .lst xs => belows n0 xs
  | .lck xs => belows n0 xs
  | .dct _ vs => belows n0 vs
  | .obj _ _ vs => belows n0 vs
  | .non => true
  | .bl _ => true
  | .int _ => true
  | .str _ => true
  | .ty _ => true
def belows (n0 : Nat) : List D → Bool
  | [] => true
  | d :: ds => below n0 d && belows n0 ds
end
def moBelow (n0 : Nat) : MO → Bool
  | .lst xs => belows n0 xs
  | .dct _ vs => belows n0 vs
  | .ins _ _ vs => belows n0 vs
  | .dn ks vs => belows n0 ks && belows n0 vs
def close (n0 : Nat) (d : D) (st : Store) : R D :=
  if st.length = n0 then .ok d st else
  match frz (cellV n0 st 8) d with
  | some d' => if (st.take n0).all (moBelow n0) then .ok d' (st.take n0) else .bad
  | none => .bad
def callMk (Γ : Genv) (c : Str) (as : List D) (ks : List Str) (us : List D) (st : Store) : R D := match Γ.con c with
  | some (fr, F) => match F.bind (.cell st.length :: as) ks us with
    | some vs => (F.run vs (st ++ [.ins c [] []])).bind fun _ st' => if fr then close st.length (.cell st.length) st' else .ok (.cell st.length) st'
    | none => .bad
  | none => .bad
def eqOwn (Γ : Genv) (op : CmpOp) (a b : D) (st : Store) : R D := match op, look st a with
  | .Eq, some (.obj c _ _) => match Γ.mt c "__eq__" with
    | some F => F.run [a, b] st
    | none => .bad
  | .NotEq, some (.obj c _ _) => match Γ.mt c "__eq__" with
    | some F => (F.run [a, b] st).bind fun d st' => match d with
      | .bl b => .ok (.bl (!b)) st'
      | _ => .bad
    | none => .bad
  | op, _ => cmpD op a b st
def binOwn (Γ : Genv) (mu : Nat) (op : Operator) (a b : D) (st : Store) : R D := match op, look st a with
  | .Mult, some (.obj c _ _) => match Γ.mt c "__mul__" with
    | some F => F.run [a, b] st
    | none => .bad
  | .Pow, some (.obj c _ _) => match Γ.mt c "__pow__" with
    | some F => F.run [a, b] st
    | none => .bad
  | .BitOr, some (.obj c _ _) => match Γ.mt c "__or__" with
    | some F => F.run [a, b] st
    | none => .bad
  | .BitAnd, some (.obj c _ _) => match Γ.mt c "__and__" with
    | some F => F.run [a, b] st
    | none => .bad
  | op, _ => binD mu op a b st
def walkOf (d : D) (st : Store) : Option Walk := match d with
  | .cell n => match st[n]? with
    | some (.lst xs) => some (xs, some (n, xs))
    | _ => none
  | .lst xs => some (xs, none)
  | .lck xs => some (xs, none)
  | .tup xs => some (xs, none)
  | .str x => some (x.cps.toList.map fun c => .str ⟨#[c]⟩, none)
  | _ => none
def rngOf (as : List D) : Option (List D) := match as with
  | [.int j] => if decide (-(2 ^ 62) ≤ j) && decide (j < 2 ^ 62) then some ((List.range j.toNat).map fun (k : Nat) => .int (k : Int)) else none
  | [.int i, .int j] => if decide (-(2 ^ 62) ≤ i) && decide (i < 2 ^ 62) && decide (-(2 ^ 62) ≤ j) && decide (j < 2 ^ 62) then some ((List.range (j - i).toNat).map fun (k : Nat) => .int (i + (k : Int))) else none
  | [.int i, .int j, .int (.negSucc 0)] => if decide (-(2 ^ 61) ≤ i) && decide (i < 2 ^ 61) && decide (-(2 ^ 61) ≤ j) && decide (j < 2 ^ 61) then some ((List.range (i - j).toNat).map fun (k : Nat) => .int (i - (k : Int))) else none
  | _ => none
def zipOf (as : List D) : Option Walk := match as with
  | [.lst xs, .lst ys] => some ((xs.zip ys).map fun p => .tup [p.1, p.2], none)
  | [.tup xs, .tup ys] => some ((xs.zip ys).map fun p => .tup [p.1, p.2], none)
  | _ => none
def enumOf (as : List D) : Option Walk := match as with
  | [.lst xs] => some (((List.range xs.length).zip xs).map fun p => .tup [.int (p.1 : Nat), p.2], none)
  | _ => none
def noEx {α : Type} (r : R α) : R α := match r with
  | .ex _ _ _ _ => .bad
  | r => r
mutual
def slotsT : Tg → List Nat
  | .name i => [i]
  | .tup ts => slotsTs ts
def slotsTs : List Tg → List Nat
  | [] => []
  | t :: ts => slotsT t ++ slotsTs ts
end
open Classical in
/-- a comprehension's turns -/
noncomputable def compLoop (tg : Tg) (t el : Env → Store → R D) (g : Option (Nat × List D)) (ρ : Env) : List D → List D → Store → R (List D)
  | [], acc, st => .ok acc st
  | x :: xs, acc, st => match setT tg x ρ with
    | none => .bad
    | some ρ' => (noEx (t ρ' st)).bind fun b st1 => match truth st1 b with
      | some true => (noEx (el ρ' st1)).bind fun d st2 => if guardOk st2 g then compLoop tg t el g ρ xs (acc ++ [d]) st2 else .bad
      | some false => if guardOk st1 g then compLoop tg t el g ρ xs acc st1 else .bad
      | none => .bad

def tyNames : List String := ["int", "bool", "str", "tuple", "list", "dict"]
def isTy (Γ : Genv) (a t : Ty) : Option Bool := match a, t with
  | .b n, .b m => if tyNames.contains m then some (n == m || (n == "bool" && m == "int")) else none
  | .b _, .c _ => some false
  | .c c, t => Γ.sup c t
/-- o[i] = v -/
def setD (o i v : D) (st : Store) : Option Store := match o with
  | .cell n => match st[n]? with
    | some (.lst xs) => match i with
      | .int k => (ixN xs.length k).map fun j => st.set n (.lst (xs.set j v))
      | _ => none
    | some (.dct ks vs) => match keyOf i with
      | some k => if ks.length < lim then (match lookK k ks vs with
        | some _ => some (st.set n (.dct ks (putK k v ks vs)))
        | none => some (st.set n (.dct (ks ++ [i]) (vs ++ [v])))) else none
      | none => none
    | _ => none
  | _ => none
mutual
noncomputable def evE (Γ : Genv) : E → Env → Store → R D
  | .var i, ρ, st => match ρ[i]? with
    | some (some d) => .ok d st
    | _ => .bad
  | .con d, _, st => .ok d st
  | .bin mu op a b, ρ, st => (evE Γ a ρ st).bind fun x st1 => (evE Γ b ρ st1).bind fun y st2 => binOwn Γ mu op x y st2
  | .neg a, ρ, st => (evE Γ a ρ st).bind fun x st1 => match x with
    | .int i => .ok (.int (-i)) st1
    | _ => .bad
  | .not a, ρ, st => (evE Γ a ρ st).bind fun x st1 => ofO ((truth st1 x).map fun b => .bl (!b)) st1
  | .cmp op a b, ρ, st => (evE Γ a ρ st).bind fun x st1 => (evE Γ b ρ st1).bind fun y st2 => eqOwn Γ op x y st2
  | .chain o1 o2 a b c, ρ, st => (evE Γ a ρ st).bind fun x st1 => (evE Γ b ρ st1).bind fun y st2 => (cmpD o1 x y st2).bind fun r st3 => match r with
    | .bl true => (evE Γ c ρ st3).bind fun z st4 => cmpD o2 y z st4
    | .bl false => .ok (.bl false) st3
    | _ => .bad
  | .and a b, ρ, st => (evE Γ a ρ st).bind fun x st1 => match truth st1 x with
    | some true => evE Γ b ρ st1
    | some false => .ok x st1
    | none => .bad
  | .or a b, ρ, st => (evE Γ a ρ st).bind fun x st1 => match truth st1 x with
    | some true => .ok x st1
    | some false => evE Γ b ρ st1
    | none => .bad
  | .ite t a b, ρ, st => (evE Γ t ρ st).bind fun x st1 => match truth st1 x with
    | some true => evE Γ a ρ st1
    | some false => evE Γ b ρ st1
    | none => .bad
  | .tup es, ρ, st => (evEs Γ es ρ st).bind fun xs st1 => mkT xs st1
  | .lst mu es, ρ, st => (evEs Γ es ρ st).bind fun xs st1 => mkL mu xs st1
  | .dct mu ks es, ρ, st => (evEs Γ es ρ st).bind fun xs st1 => if mu = 0 then .ok (.dct ks xs) st1 else .ok (.cell st1.length) (st1 ++ [.dct ks xs])
  | .ix a i, ρ, st => (evE Γ a ρ st).bind fun x st1 => (evE Γ i ρ st1).bind fun y st2 => ixD x y st2
  | .slc mu a lo hi, ρ, st => (evE Γ a ρ st).bind fun x st1 => (evO Γ lo ρ st1).bind fun l st2 => (evO Γ hi ρ st2).bind fun h st3 => slcD mu x l h st3
  | .rev mu a, ρ, st => (evE Γ a ρ st).bind fun x st1 => revD mu x st1
  | .call f es ks kes, ρ, st => match Γ.fn f with
    | some F => (evEs Γ es ρ st).bind fun xs st1 => (evEs Γ kes ρ st1).bind fun us st2 => match F.bind xs ks us with
      | some vs => F.run vs st2
      | none => .bad
    | none => .bad
  | .prim mu p es, ρ, st => (evEs Γ es ρ st).bind fun xs st1 => primD mu p xs st1
  | .isin a t, ρ, st => (evE Γ a ρ st).bind fun x st1 => match tyOf st1 x with
    | some y => ofO ((isTy Γ y t).map .bl) st1
    | none => .bad
  | .bm m o es, ρ, st => (evE Γ o ρ st).bind fun x st1 => match lstOf st1 x with
    | some _ => (evEs Γ es ρ st1).bind fun xs st2 => bmeth m x xs st2
    | none => .bad
  | .meth m o es ks kes, ρ, st => (evE Γ o ρ st).bind fun x st1 => (evEs Γ es ρ st1).bind fun xs st2 => (evEs Γ kes ρ st2).bind fun us st3 => callMeth Γ m x xs ks us st3
  | .attr o f, ρ, st => (evE Γ o ρ st).bind fun x st1 => attrD Γ f x st1
  | .mk c es ks kes, ρ, st => (evEs Γ es ρ st).bind fun xs st1 => (evEs Γ kes ρ st1).bind fun us st2 => callMk Γ c xs ks us st2
  | .comp mu vs tg it t el, ρ, st => (evIt Γ it ρ st).bind fun w st1 => if w.1.length ≤ lim then
      (compLoop tg (evE Γ t) (evE Γ el) w.2 (wipeE ρ vs) w.1 [] st1).bind fun acc st2 => mkL mu acc st2
    else .bad
noncomputable def evEs (Γ : Genv) : List E → Env → Store → R (List D)
  | [], _, st => .ok [] st
  | e :: es, ρ, st => (evE Γ e ρ st).bind fun x st1 => (evEs Γ es ρ st1).bind fun xs st2 => .ok (x :: xs) st2
noncomputable def evO (Γ : Genv) : Option E → Env → Store → R (Option Int)
  | none, _, st => .ok none st
  | some e, ρ, st => partF (evE Γ e) ρ st
noncomputable def evIt (Γ : Genv) : It → Env → Store → R Walk
  | .ex e, ρ, st => (evE Γ e ρ st).bind fun x st1 => ofO (walkOf x st1) st1
  | .rng es, ρ, st => (evEs Γ es ρ st).bind fun xs st1 => ofO ((rngOf xs).map fun l => (l, none)) st1
  | .zip es, ρ, st => (evEs Γ es ρ st).bind fun xs st1 => ofO (zipOf xs) st1
  | .enum es, ρ, st => (evEs Γ es ρ st).bind fun xs st1 => ofO (enumOf xs) st1
end
end Px

/-! Px3: readings by the evaluator; soundness of expressions. -/
namespace Px
open PySem PySem.Spec PyProof.Rows L2

structure Go (S : Rp) (H : Hp) (S' : Rp) (H' : Hp) : Prop where
  ext : Ext S S'
  frame : ∀ a o, H a = some o → a ∉ S.m → H' a = some o
  dom : ∀ a, H' a = none → H a = none
  newG : ∀ a o, S'.G a = some o → S.G a = some o ∨ H a = none
  newM : ∀ a, a ∈ S'.m → a ∈ S.m ∨ H a = none
theorem Go.refl (S : Rp) (H : Hp) : Go S H S H := ⟨.refl S, fun _ _ h _ => h, fun _ h => h, fun _ _ h => .inl h, fun _ h => .inl h⟩
theorem Go.trans {S S1 S2 : Rp} {H H1 H2 : Hp} (a : Go S H S1 H1) (b : Go S1 H1 S2 H2) : Go S H S2 H2 :=
  ⟨a.ext.trans b.ext, fun x o h hm => b.frame x o (a.frame x o h hm) (fun hx => by
      rcases a.newM x hx with q | q
      · exact hm q
      · rw [h] at q; cases q), fun x h => a.dom x (b.dom x h), fun x o h => by
      rcases b.newG x o h with q | q
      · exact a.newG x o q
      · exact .inr (a.dom x q), fun x h => by
      rcases b.newM x h with q | q
      · exact a.newM x q
      · exact .inr (a.dom x q)⟩
theorem Go.newF {S : Rp} {H : Hp} {p : Addr} {o : HO} (hG : S.G p = none) (h : H p = none) : Go S H (S.fz p o) (upd H p o) :=
  ⟨Ext.fz hG, fun a u e _ => by rw [upd_ne (ne_of_none e h)]; exact e, fun a e => by
    by_cases q : a = p
    · subst q; exact h
    · rw [upd_ne q] at e; exact e, fun a u e => by
    by_cases q : a = p
    · subst q; exact .inr h
    · have e' : upd S.G p o a = some u := e
      rw [upd_ne q] at e'; exact .inl e', fun a h => .inl h⟩
theorem Go.newC {S : Rp} {H : Hp} {p : Addr} {o : HO} (h : H p = none) : Go S H (S.cl p) (upd H p o) :=
  ⟨Ext.cl, fun a u e _ => by rw [upd_ne (ne_of_none e h)]; exact e, fun a e => by
    by_cases q : a = p
    · subst q; exact h
    · rw [upd_ne q] at e; exact e, fun a u e => .inl e, fun a hm => by
    have hm : a ∈ S.m ++ [p] := hm
    rw [List.mem_append] at hm
    rcases hm with q | q
    · exact .inl q
    · simp at q; subst q; exact .inr h⟩
/-- a new object that is forgotten -/
theorem Go.drop {S : Rp} {H : Hp} {p : Addr} {o : HO} (h : H p = none) : Go S H S (upd H p o) :=
  ⟨.refl S, fun a u e _ => by rw [upd_ne (ne_of_none e h)]; exact e, fun a e => by
    by_cases q : a = p
    · subst q; exact h
    · rw [upd_ne q] at e; exact e, fun a u e => .inl e, fun a h => .inl h⟩
theorem Go.setC {S : Rp} {H : Hp} {n : Nat} {p : Addr} {o u : HO} (hp : S.m[n]? = some p) (e : H p = some u) : Go S H S (upd H p o) :=
  ⟨.refl S, fun a v ea hm => by
    have : a ≠ p := fun q => hm (q ▸ List.mem_of_getElem? hp)
    rw [upd_ne this]; exact ea, fun a ea => by
    by_cases q : a = p
    · subst q; rw [upd_same] at ea; cases ea
    · rw [upd_ne q] at ea; exact ea, fun a u e => .inl e, fun a h => .inl h⟩
theorem Rep.drop {C : Kc} {S : Rp} {st : Store} {H : Hp} {p : Addr} {o : HO} (r : Rep C S st H) (h : H p = none) : Rep C S st (upd H p o) :=
  r.same fun b u e => by rw [upd_ne (ne_of_none e h)]; exact e

/-- how an exception stands -/
def XR (C : Kc) (S : Rp) (c : Str) (ns : List Str) (us : List D) (cls : Value) (dd : Option Addr) : Prop :=
  ∃ A, C.cm c = some A ∧ cls = .ref A ∧ ((∃ dx fs, dd = some dx ∧ S.G dx = some (.xd fs) ∧ ns = fs.map (·.1) ∧ RVs C S us (fs.map (·.2))) ∨ (dd = none ∧ ns = [] ∧ us = []))

abbrev Rel (α β : Type) := Rp → Store → α → β → Prop
def Post {α β : Type} (C : Kc) (rel : Rel α β) (S : Rp) (H : Hp) (r : R α) (Q : β → Hp → Prop) (E : XK) : Prop := match r with
  | .ok a st' => ∀ S' H' b, Go S H S' H' → Rep C S' st' H' → rel S' st' a b → Q b H'
  | .ex c ns us st' => ∀ S' H' cls dd, Go S H S' H' → Rep C S' st' H' → XR C S' c ns us cls dd → E cls dd H'
  | .bad => False
theorem Post.go {α β : Type} {C : Kc} {rel : Rel α β} {S S' : Rp} {H H' : Hp} {r : R α} {Q : β → Hp → Prop} {E : XK} (h : Post C rel S H r Q E) (g : Go S H S' H') : Post C rel S' H' r Q E := by
  cases r with
  | ok a st' => exact fun S2 H2 b g2 => h S2 H2 b (g.trans g2)
  | ex c ns us st' => exact fun S2 H2 b dd g2 => h S2 H2 b dd (g.trans g2)
  | bad => exact h
theorem Post.bind {α β γ δ : Type} {C : Kc} {rel : Rel α β} {rel2 : Rel γ δ} {S : Rp} {H : Hp} {r : R α} {g : α → Store → R γ} {Q : δ → Hp → Prop} {E : XK} {Q1 : β → Hp → Prop}
    (h : Post C rel2 S H (r.bind g) Q E) (k : ∀ a st' S' H' b, Go S H S' H' → Rep C S' st' H' → rel S' st' a b → Post C rel2 S' H' (g a st') Q E → Q1 b H') : Post C rel S H r Q1 E := by
  cases r with
  | ok a st' => exact fun S2 H2 b g2 rp rl => k a st' S2 H2 b g2 rp rl (Post.go (r := g a st') h g2)
  | ex c ns us st' => exact h
  | bad => exact h
/-- an end -/
theorem Post.end_ {α β : Type} {C : Kc} {rel : Rel α β} {S : Rp} {H : Hp} {a : α} {st : Store} {Q : β → Hp → Prop} {E : XK} (h : Post C rel S H (.ok a st) Q E) {S' : Rp} {H' : Hp} {b : β} (g : Go S H S' H') (rp : Rep C S' st H') (rl : rel S' st a b) : Q b H' :=
  h S' H' b g rp rl

def rV (C : Kc) : Rel D V := fun S _ d v => RV C S d v
def rVs (C : Kc) : Rel (List D) (List V) := fun S _ d v => RVs C S d v
def rB : Rel Bool Bool := fun _ _ a b => a = b

structure REnv (C : Kc) (S : Rp) (ρ : Env) (σ : L2.St) : Prop where
  len : σ.length = ρ.length
  at_ : ∀ (i : Nat) (d : D), ρ[i]? = some (some d) → ∃ v, σ[i]? = some (some v) ∧ RV C S d v
theorem REnv.mono {C : Kc} {S S' : Rp} {ρ : Env} {σ : L2.St} (r : REnv C S ρ σ) (e : Ext S S') : REnv C S' ρ σ :=
  ⟨r.len, fun i d h => by
    obtain ⟨v, h1, h2⟩ := r.at_ i d h
    exact ⟨v, h1, h2.mono e⟩⟩

abbrev Fx (α : Type) := Env → Store → R α
/-- a reading by a function of the environment and the store -/
def tF {α β : Type} (C : Kc) (rel : Rel α β) (E : L2.St → XK) (f : Fx α) : L2.St → Hp → (β → Hp → Prop) → Prop :=
  fun σ H Q => ∃ S ρ st, Rep C S st H ∧ REnv C S ρ σ ∧ Post C rel S H (f ρ st) Q (E σ)

/-- what stands of a context -/
structure XOkS (X : Cx) (C : Kc) (k : Nat) (E : L2.St → XK) : Prop where
  K : X.K = C.K
  nd : X.N.Nodup
  room : Room k X.A
  gd : X.A.guards = some []
  tk : Takes X fun cls d σ H => E σ cls d H
  sm : ∃ o, X.base.get? sysModules = some o
/-- .. where no exception is being handled -/
structure XOk (X : Cx) (C : Kc) (k : Nat) (E : L2.St → XK) : Prop extends XOkS X C k E where
  calm : X.calm = true

theorem PE.weak {X : Cx} {e : Expr} {t t' : TE} (h : PE X e t) (k : ∀ σ H Q, t' σ H Q → t σ H Q) : PE X e t' := ⟨fun pins s σ H Q I q => h.run pins s σ H Q I (k σ H Q q)⟩
theorem PA.weak {X : Cx} {e : List Expr} {t t' : TA} (h : PA X e t) (k : ∀ σ H Q, t' σ H Q → t σ H Q) : PA X e t' := ⟨fun pos pins s σ H Q I q => h.run pos pins s σ H Q I (k σ H Q q)⟩
theorem PT.weak {X : Cx} {e : Expr} {t t' : TT} (h : PT X e t) (k : ∀ σ H Q, t' σ H Q → t σ H Q) : PT X e t' := ⟨fun pins s σ H Q I q => h.run pins s σ H Q I (k σ H Q q)⟩

section
variable {X : Cx} {C : Kc} {E : L2.St → XK} {k : Nat}
abbrev SE (X : Cx) (C : Kc) (E : L2.St → XK) (f : Fx D) (e : Expr) : Prop := PE X e (tF C (rV C) E f)
abbrev SA (X : Cx) (C : Kc) (E : L2.St → XK) (f : Fx (List D)) (e : List Expr) : Prop := PA X e (tF C (rVs C) E f)
abbrev ST (X : Cx) (C : Kc) (E : L2.St → XK) (f : Fx Bool) (e : Expr) : Prop := PT X e (tF C rB E f)
/-- a value's truth -/
def tst (f : Fx D) : Fx Bool := fun ρ st => (f ρ st).bind fun d st1 => ofO (truth st1 d) st1

/-! ### names and constants -/
def varD (i : Nat) : Fx D := fun ρ st => match ρ[i]? with
  | some (some d) => .ok d st
  | _ => .bad
theorem se_var {i : Nat} {x : Str} {pos : Pos} (hN : X.N[i]? = some x) (hv : Vis X.env.scope x) (hd : (x == ("__debug__" : Str)) = false) (hcd : (x == ("__classdict__" : Str)) = false) :
    SE X C E (varD i) (.Name x pos) :=
  PE.weak (pe_var hN hv hd hcd) fun σ H Q h => by
    obtain ⟨S, ρ, st, rp, rn, h⟩ := h
    unfold varD at h
    cases e : ρ[i]? with
    | none => rw [e] at h; exact h.elim
    | some o =>
      cases o with
      | none => rw [e] at h; exact h.elim
      | some d =>
        rw [e] at h
        obtain ⟨v, h1, h2⟩ := rn.at_ i d e
        exact ⟨v, h1, h.end_ (.refl S H) rp h2⟩
theorem se_con {e : Expr} {v : V} {d : D} (h : PE X e (tC v)) (hv : ∀ S, RV C S d v) : SE X C E (fun _ st => .ok d st) e :=
  PE.weak h fun σ H Q h => by
    obtain ⟨S, ρ, st, rp, rn, h⟩ := h
    exact h.end_ (.refl S H) rp (hv S)

/-! ### two operands -/
/-- an operation on values that does what op says -/
def OpS (X : Cx) (C : Kc) (E : L2.St → XK) (f : Value → Value → Sem Value) (op : D → D → Store → R D) : Prop :=
  ∀ (pins : List (Addr × Obj)) (s : Shared) (σ : L2.St) (H : Hp) (x y : V) (v u : Value) (Q : VK) (S : Rp) (st : Store) (a b : D), Inv X pins σ H s → RelV x v → RelV y u →
    Rep C S st H → RV C S a x → RV C S b y → Post C (rV C) S H (op a b st) Q (E σ) → wpAny (model X.prog X.w) X.A (f v u) (EP X pins σ Q) X.xe s
theorem bin_read {fa fb : Fx D} {op : D → D → Store → R D} {σ : L2.St} {H : Hp} {Q : VK} {K : V → V → Hp → Prop}
    (h : tF C (rV C) E (fun ρ st => (fa ρ st).bind fun x st1 => (fb ρ st1).bind fun y st2 => op x y st2) σ H Q)
    (k : ∀ x y H2 S st a b, Rep C S st H2 → RV C S a x → RV C S b y → Post C (rV C) S H2 (op a b st) Q (E σ) → K x y H2) :
    tF C (rV C) E fa σ H fun x H1 => tF C (rV C) E fb σ H1 fun y H2 => K x y H2 := by
  obtain ⟨S, ρ, st, rp, rn, h⟩ := h
  refine ⟨S, ρ, st, rp, rn, h.bind fun a st1 S1 H1 x g1 rp1 rv1 h1 => ?_⟩
  refine ⟨S1, ρ, st1, rp1, rn.mono g1.ext, h1.bind fun b st2 S2 H2 y g2 rp2 rv2 h2 => ?_⟩
  exact k x y H2 S2 st2 a b rp2 (RV.mono g2.ext rv1) rv2 h2
theorem se_bin {a b : Expr} {fa fb : Fx D} {o : Operator} {op : D → D → Store → R D} {pos : Pos} (ha : SE X C E fa a) (hb : SE X C E fb b) (hf : OpS X C E (binaryOp o) op) :
    SE X C E (fun ρ st => (fa ρ st).bind fun x st1 => (fb ρ st1).bind fun y st2 => op x y st2) (.BinOp a o b pos) := by
  refine ⟨fun pins s σ H Q I h => ?_⟩
  refine wpAny_BinOp (bin (R := fun x y H2 => ∃ S st da db, Rep C S st H2 ∧ RV C S da x ∧ RV C S db y ∧ Post C (rV C) S H2 (op da db st) Q (E σ)) ha hb I (bin_read h fun x y H2 S st da db h1 h2 h3 h4 => ⟨S, st, da, db, h1, h2, h3, h4⟩) fun v u s2 x y H2 I2 rx ry q => ?_)
  obtain ⟨S, st, da, db, h1, h2, h3, h4⟩ := q
  exact hf pins s2 σ H2 x y v u Q S st da db I2 rx ry h1 h2 h3 h4
theorem se_cmp {a b : Expr} {fa fb : Fx D} {o : CmpOp} {op : D → D → Store → R D} {pos : Pos} (ha : SE X C E fa a) (hb : SE X C E fb b) (hf : OpS X C E (compareOp o) op) (hm : behindInMarks o b = false) :
    SE X C E (fun ρ st => (fa ρ st).bind fun x st1 => (fb ρ st1).bind fun y st2 => op x y st2) (.Compare a [o] [b] pos) := by
  refine ⟨fun pins s σ H Q I h => ?_⟩
  refine wpAny_Compare1 (bin (R := fun x y H2 => ∃ S st da db, Rep C S st H2 ∧ RV C S da x ∧ RV C S db y ∧ Post C (rV C) S H2 (op da db st) Q (E σ)) ha hb I (bin_read h fun x y H2 S st da db h1 h2 h3 h4 => ⟨S, st, da, db, h1, h2, h3, h4⟩) fun v u s2 x y H2 I2 rx ry q => ?_) hm
  obtain ⟨S, st, da, db, h1, h2, h3, h4⟩ := q
  exact hf pins s2 σ H2 x y v u Q S st da db I2 rx ry h1 h2 h3 h4

/-! ### what stands for a list -/
theorem Post.bad {α β : Type} {rel : Rel α β} {S : Rp} {H : Hp} {Q : β → Hp → Prop} {E : XK} {P : Prop} (h : Post C rel S H .bad Q E) : P := h.elim
theorem rv_non {S : Rp} {v : V} : RV C S .non v ↔ v = .non := by rw [RV]
theorem rv_bl {S : Rp} {v : V} {b : Bool} : RV C S (.bl b) v ↔ v = .bl b := by rw [RV]
theorem rv_int {S : Rp} {v : V} {b : Int} : RV C S (.int b) v ↔ v = .int b := by rw [RV]
theorem rv_str {S : Rp} {v : V} {b : Str} : RV C S (.str b) v ↔ v = .str b := by rw [RV]
theorem rv_tup {S : Rp} {v : V} {ds : List D} : RV C S (.tup ds) v ↔ ∃ a vs, v = .ref a ∧ SqT C.K S.G a vs ∧ RVs C S ds vs := by rw [RV]
theorem rv_lst {S : Rp} {v : V} {ds : List D} : RV C S (.lst ds) v ↔ ∃ a vs, v = .ref a ∧ S.G a = some (.lst vs) ∧ RVs C S ds vs := by rw [RV]
theorem rv_lck {S : Rp} {v : V} {ds : List D} : RV C S (.lck ds) v ↔ ∃ a vs, v = .ref a ∧ SqL C.K S.G a vs ∧ RVs C S ds vs := by rw [RV]
theorem rv_cell {S : Rp} {v : V} {n : Nat} : RV C S (.cell n) v ↔ ∃ a, v = .ref a ∧ S.m[n]? = some a := by rw [RV]
theorem rv_dct {S : Rp} {v : V} {ks us : List D} : RV C S (.dct ks us) v ↔ ∃ (a : Addr) (kvs : List (Key × V)), v = .ref a ∧ S.G a = some (.dK kvs) ∧ ks = kvs.map (fun p => kD p.1) ∧ RVs C S us (kvs.map (·.2)) := by rw [RV]
theorem rv_obj {S : Rp} {v : V} {c : Str} {ns : List Str} {us : List D} : RV C S (.obj c ns us) v ↔ ∃ (a A dx : Addr) (fs : List (Str × V)), v = .ref a ∧ C.cm c = some A ∧ S.G a = some (.ins A dx fs) ∧ ns = fs.map (·.1) ∧ RVs C S us (fs.map (·.2)) := by rw [RV]
/-- the representation, all of the heap frozen -/
def Rp.all (S : Rp) (H : Hp) : Rp := ⟨H, S.m⟩
theorem Rep.allE {S : Rp} {st : Store} {H : Hp} (r : Rep C S st H) : Ext' S (S.all H) := ⟨r.fz, fun _ _ h => h⟩
/-- the items too: one level down the items stand as they did -/
theorem trk_lst {S : Rp} {st : Store} {H : Hp} {d : D} {xs : List D} {v : V} (r : Rep C S st H) (h : RV C S d v) (e : trkOf st d = some xs) : ∃ a vs, v = .ref a ∧ H a = some (.lst vs) ∧ RVs C S xs vs := by
  cases d with
  | cell n =>
    have e : (match (st[n]?).bind moD with | some (.lst xs) => some xs | _ => none) = some xs := e
    obtain ⟨a, rfl, ha⟩ := rv_cell.mp h
    cases q : st[n]? with
    | none => rw [q] at e; cases e
    | some mo =>
      rw [q] at e
      obtain ⟨a', o, h1, h2, h3, h4⟩ := r.at_ n mo q
      rw [ha] at h1; cases h1
      cases mo with
      | lst xs =>
        cases e
        obtain ⟨vs, rfl, h5⟩ := h4
        exact ⟨a, vs, rfl, h3, h5⟩
      | dct ks vs => cases e
      | ins c ns vs => cases e
      | dn ks vs => cases e
  | lst ys =>
    cases e
    obtain ⟨a, vs, rfl, h1, h2⟩ := rv_lst.mp h
    exact ⟨a, vs, rfl, r.fz _ _ h1, h2⟩
  | non => cases e
  | bl _ => cases e
  | int _ => cases e
  | str _ => cases e
  | tup _ => cases e
  | dct _ _ => cases e
  | obj _ _ _ => cases e
  | ty _ => cases e
  | lck _ => cases e
theorem look_lst {S : Rp} {st : Store} {H : Hp} {d : D} {xs : List D} {v : V} (r : Rep C S st H) (h : RV C S d v) (e : look st d = some (.lst xs)) : ∃ a vs, v = .ref a ∧ SqL C.K H a vs ∧ RVs C S xs vs := by
  have key : trkOf st d = some xs → ∃ a vs, v = .ref a ∧ SqL C.K H a vs ∧ RVs C S xs vs := fun q => by
    obtain ⟨a, vs, h1, h2, h3⟩ := trk_lst r h q
    exact ⟨a, vs, h1, .inl (.inl h2), h3⟩
  cases d with
  | cell n =>
    refine key ?_
    show (match look st (.cell n) with | some (.lst xs) => some xs | _ => none) = some xs
    rw [e]
  | lst ys => cases e; exact key rfl
  | lck ys =>
    cases e
    obtain ⟨a, vs, rfl, h1, h2⟩ := rv_lck.mp h
    exact ⟨a, vs, rfl, sqL_mono r.fz h1, h2⟩
  | non => cases e
  | bl _ => cases e
  | int _ => cases e
  | str _ => cases e
  | tup _ => cases e
  | dct _ _ => cases e
  | obj _ _ _ => cases e
  | ty _ => cases e
theorem look_tup {S : Rp} {st : Store} {H : Hp} {d : D} {xs : List D} {v : V} (r : Rep C S st H) (h : RV C S d v) (e : look st d = some (.tup xs)) : ∃ a vs, v = .ref a ∧ SqT C.K S.G a vs ∧ RVs C S xs vs := by
  cases d with
  | cell n =>
    rw [look_cell] at e
    cases q : st[n]? with
    | none => rw [q] at e; cases e
    | some mo =>
      rw [q] at e
      cases mo <;> exact nomatch e
  | tup ys =>
    cases e
    exact rv_tup.mp h
  | non => cases e
  | bl _ => cases e
  | int _ => cases e
  | str _ => cases e
  | lst _ => cases e
  | dct _ _ => cases e
  | obj _ _ _ => cases e
  | ty _ => cases e
  | lck _ => cases e
theorem look_str {st : Store} {d : D} {x : Str} (e : look st d = some (.str x)) : d = .str x := by
  cases d with
  | cell n =>
    rw [look_cell] at e
    cases q : st[n]? with
    | none => rw [q] at e; cases e
    | some mo =>
      rw [q] at e
      cases mo <;> exact nomatch e
  | str y => cases e; rfl
  | non => cases e
  | bl _ => cases e
  | int _ => cases e
  | tup _ => cases e
  | lst _ => cases e
  | dct _ _ => cases e
  | obj _ _ _ => cases e
  | ty _ => cases e
  | lck _ => cases e
theorem lstOf_some {S : Rp} {st : Store} {H : Hp} {d : D} {xs : List D} {v : V} (r : Rep C S st H) (h : RV C S d v) (e : lstOf st d = some xs) : ∃ a vs, v = .ref a ∧ SqL C.K H a vs ∧ RVs C S xs vs := by
  unfold lstOf at e
  cases q : look st d with
  | none => rw [q] at e; cases e
  | some z =>
    rw [q] at e
    cases z with
    | lst ys =>
      cases e
      exact look_lst r h q
    | non => cases e
    | bl _ => cases e
    | int _ => cases e
    | str _ => cases e
    | tup _ => cases e
    | dct _ _ => cases e
    | obj _ _ _ => cases e
    | ty _ => cases e
    | cell _ => cases e
    | lck _ => cases e
theorem lim_line {n : Nat} (h : n ≤ lim) : n ≤ sizeLine := Nat.le_trans h (by decide)
theorem lim_lt {n : Nat} (h : n ≤ lim) : n < sizeLine := Nat.lt_of_le_of_lt h (by decide)
theorem mkL_len {mu : Nat} {xs : List D} {S : Rp} {st : Store} {H : Hp} {Q : VK} {E : XK} (h : Post C (rV C) S H (mkL mu xs st) Q E) : xs.length ≤ lim := by
  unfold mkL at h
  by_cases z : xs.length ≤ lim
  · exact z
  · rw [if_neg z] at h; exact h.bad
theorem mkL_post {mu : Nat} {xs : List D} {vs : List V} {S : Rp} {st : Store} {H : Hp} {Q : VK} {E : XK} (h : Post C (rV C) S H (mkL mu xs st) Q E) (r : Rep C S st H) (k : RVs C S xs vs) {p : Addr} (hp : H p = none) : Q (.ref p) (upd H p (.lst vs)) := by
  have hl := mkL_len h
  unfold mkL at h
  rw [if_pos hl] at h
  by_cases z : mu = 0
  · rw [if_pos z] at h
    refine h.end_ (Go.newF (r.free hp) hp) (r.newF hp) ?_
    exact rv_lst.mpr ⟨p, vs, rfl, upd_same, k.mono (Ext.fz (r.free hp))⟩
  · rw [if_neg z] at h
    refine h.end_ (Go.newC hp) (r.newC (mo := .lst xs) hp ⟨vs, rfl, k⟩) ?_
    refine rv_cell.mpr ⟨p, rfl, ?_⟩
    show (S.m ++ [p])[st.length]? = some p
    rw [← r.len]; simp
theorem mkT_len {xs : List D} {S : Rp} {st : Store} {H : Hp} {Q : VK} {E : XK} (h : Post C (rV C) S H (mkT xs st) Q E) : xs.length ≤ lim := by
  unfold mkT at h
  by_cases z : xs.length ≤ lim
  · exact z
  · rw [if_neg z] at h; exact h.bad
theorem tup_new {xs : List D} {vs : List V} {S : Rp} {st : Store} {H : Hp} {Q : VK} {E : XK} (h : Post C (rV C) S H (.ok (.tup xs) st) Q E) (r : Rep C S st H) (k : RVs C S xs vs) {p : Addr} (hp : H p = none) : Q (.ref p) (upd H p (.tup vs)) := by
  refine h.end_ (Go.newF (r.free hp) hp) (r.newF hp) ?_
  exact rv_tup.mpr ⟨p, vs, rfl, .inl (.inl upd_same), k.mono (Ext.fz (r.free hp))⟩
theorem mkT_ok {xs : List D} {S : Rp} {st : Store} {H : Hp} {Q : VK} {E : XK} (h : Post C (rV C) S H (mkT xs st) Q E) : Post C (rV C) S H (.ok (.tup xs) st) Q E := by
  have hl := mkT_len h
  unfold mkT at h
  rw [if_pos hl] at h
  exact h
end
end Px

/-! Px4: operators. -/
namespace Px
open PySem PySem.Spec PyProof.Rows L2
section
variable {X : Cx} {C : Kc} {E : L2.St → XK} {k : Nat}

theorem post_ite {α β : Type} {rel : Rel α β} {c : Prop} [Decidable c] {S : Rp} {H : Hp} {r : R α} {Q : β → Hp → Prop} {E : XK} (h : Post C rel S H (if c then r else .bad) Q E) : c ∧ Post C rel S H r Q E := by
  by_cases z : c
  · rw [if_pos z] at h; exact ⟨z, h⟩
  · rw [if_neg z] at h; exact h.bad
theorem post_same {S : Rp} {H : Hp} {d : D} {v : V} {st : Store} {Q : VK} {E : XK} (h : Post C (rV C) S H (.ok d st) Q E) (rp : Rep C S st H) (rv : RV C S d v) : Q v H := h.end_ (.refl S H) rp rv
theorem post_ofO {S : Rp} {H : Hp} {o : Option D} {st : Store} {Q : VK} {E : XK} (h : Post C (rV C) S H (ofO o st) Q E) : ∃ d, o = some d ∧ Post C (rV C) S H (.ok d st) Q E := by
  cases o with
  | none => exact h.bad
  | some d => exact ⟨d, rfl, h⟩

theorem mul_fit {i j : Int} (h : mulOk i j = true) : IntMulOk i j := by
  unfold mulOk intSmall at h
  simp only [Bool.or_eq_true, decide_eq_true_eq] at h
  rcases h with (h | h) | h
  · refine CMul.ok (.inl ⟨?_, ?_⟩) <;> omega
  · refine CMul.ok (.inr ⟨?_, ?_⟩) <;> omega
  · exact CMulW.ok (show i.natAbs.log2 + j.natAbs.log2 < 1000000 by omega)
theorem op_mulA : OpR X (binaryOp .Mult) (rI (fun i j => mulOk i j = true) fun i j => .int (i * j)) := opI fun _ _ _ _ _ _ _ hc q => mul_int q (mul_fit hc)

/-- tuple * int: nothing is made -/
theorem tm_same (l : Addr) (items : Array Value) (n : Nat) (dd : Option Addr) (sl : Array (Option Value)) (x : Int) (u : Tok) (c0 : (decide (x < -(2 ^ 63)) || decide (x ≥ 2 ^ 63)) = false) (c1 : (items.isEmpty || x == 1) = true) :
    Meets (Builtin.«tuple.__mul__» ⟨[.ref l, .int x u], []⟩) (fun _ R s => s.heap.get? l = some { cls := .type "tuple", dict := dd, data := .seq items n, slots := sl } ∧ R (.ok (.ret (Value.ref l))) s) :=
  .of_wp fun prog w A R s h => by
    obtain ⟨hp, g, d, tk, os⟩ := s
    obtain ⟨hl, h⟩ := h
    have f1 := AutoSeq1.idx_int
    wp_walk using wpAny_loadPart' hl
    repeat (first
      | (refine wpAny_ite_false (decide_eq_false (by rw [c0]; exact Bool.false_ne_true)) ?_; wp_walk using wpAny_loadPart' hl)
      | (refine wpAny_ite_true (decide_eq_true c1) ?_; wp_walk using wpAny_loadPart' hl))
    first | exact ⟨_, rfl, h⟩ | exact h
/-- .. an empty one is made -/
theorem tm_nil (l : Addr) (items : Array Value) (n : Nat) (dd : Option Addr) (sl : Array (Option Value)) (x : Int) (u : Tok) (c0 : (decide (x < -(2 ^ 63)) || decide (x ≥ 2 ^ 63)) = false) (c1 : (items.isEmpty || x == 1) = false) (c2 : (decide (x ≤ 0) || items.isEmpty) = true) :
    Meets (Builtin.«tuple.__mul__» ⟨[.ref l, .int x u], []⟩) (fun _ R s => s.heap.get? l = some { cls := .type "tuple", dict := dd, data := .seq items n, slots := sl } ∧
      R (.ok (.ret (Value.ref s.heap.objs.size))) { s with heap := s.heap.push { cls := Value.type "tuple", data := Data.seq #[] }, toks := s.toks }) :=
  .of_wp fun prog w A R s h => by
    obtain ⟨hp, g, d, tk, os⟩ := s
    obtain ⟨hl, h⟩ := h
    have f1 := AutoSeq1.idx_int
    wp_walk using wpAny_loadPart' hl
    repeat (first
      | (refine wpAny_ite_false (decide_eq_false (by rw [c0]; exact Bool.false_ne_true)) ?_; wp_walk using wpAny_loadPart' hl)
      | (refine wpAny_ite_false (decide_eq_false (by rw [c1]; exact Bool.false_ne_true)) ?_; wp_walk using wpAny_loadPart' hl)
      | (refine wpAny_ite_true (decide_eq_true c2) ?_; wp_walk using wpAny_loadPart' hl))
    first | exact ⟨_, rfl, h⟩ | exact h
def rRep1 (K : PySem.W.Frag) : R2 := fun x y H Q => ∃ l k xs, x = .ref l ∧ y = .int k ∧ SqT K H l xs ∧ -1000 ≤ k ∧ k ≤ 1000 ∧ ((xs = [] ∨ k = 1) ∧ Q (.ref l) H ∨ (xs ≠ [] ∧ k ≤ 0) ∧ ∀ p, H p = none → Q (.ref p) (upd H p (.tup [])))
theorem op_rep1 : OpR X (binaryOp .Mult) (rRep1 X.K) := by
  intro pins s σ H x y v u Q I rx ry h
  obtain ⟨l, k, xs, rfl, rfl, hT, h1, h2, q⟩ := h
  cases rx
  obtain ⟨t, rfl⟩ := ry
  obtain ⟨its, r, ⟨⟨cls, dd, data, sl⟩, ho, hc, n, hd⟩, hs⟩ := I.tuple hT
  simp only at hc hd
  subst hc hd
  have hle : its.length = xs.length := r.length.symm
  have hem : its.toArray.isEmpty = xs.isEmpty := by
    cases its <;> cases xs <;> first | rfl | (simp at hle)
  have c0 : (decide (k < -(2 ^ 63)) || decide (k ≥ 2 ^ 63)) = false := by
    rw [decide_eq_false (by omega), decide_eq_false (by omega)]; rfl
  have go : ∀ {R : Value → Shared → Prop}, wpAny (model X.prog X.w) X.A (call (.builtin "tuple.__mul__") [.ref l, .int k t]) R X.xe s → wpAny (model X.prog X.w) X.A (binaryOp .Mult (.ref l) (.int k t)) R X.xe s := fun {R} hcall =>
    wpAny_binaryOp_repeat_ref (T := "tuple") (U := "int") (by decide) ⟨_, ho, rfl⟩ (fun s' => typeIs_int s' k t) noFill_tuple_mul F.fills_int_mul F.slot_int_rmul repeat_tuple F.slot_int_index.lookup
      (call_meets F.slot_int_rmul (typeIs_int s k t) F.entry_int_rmul (F.args_int_rmul_2 _ _) (int_rmul_tuple k t l its.toArray n dd sl) ⟨ho, rfl, ⟨_, ho, rfl⟩, hcall⟩)
  rcases q with ⟨h3, q⟩ | ⟨h3, q⟩
  · have c1 : (its.toArray.isEmpty || k == 1) = true := by
      rw [hem]
      rcases h3 with h3 | h3
      · rw [h3]; rfl
      · rw [h3]; simp
    exact go (call_meets F.slot_tuple_mul ⟨_, ho, rfl⟩ F.entry_tuple_mul (F.args_tuple_mul_2 _ _) (tm_same l its.toArray n dd sl k t c0 c1) ⟨ho, .ref l, H, I, rfl, q⟩)
  · have e : xs.isEmpty = false := by cases xs with | nil => exact absurd rfl h3.1 | cons a b => rfl
    have c1 : (its.toArray.isEmpty || k == 1) = false := by
      rw [hem, e, Bool.false_or]; exact beq_eq_false_iff_ne.mpr (by omega)
    have c2 : (decide (k ≤ 0) || its.toArray.isEmpty) = true := by rw [decide_eq_true h3.2]; rfl
    refine go (call_meets F.slot_tuple_mul ⟨_, ho, rfl⟩ F.entry_tuple_mul (F.args_tuple_mul_2 _ _) (tm_nil l its.toArray n dd sl k t c0 c1 c2) ⟨ho, .ref s.heap.objs.size, _, I.laid (t' := s.toks) (o := .tup []) (fun b ob q => Heap.get?_push_of_some _ q) (Nat.le_refl _) ?_, rfl, q _ (I.hok.fresh (Nat.le_refl _))⟩)
    exact ⟨Nat.zero_le _, [], .nil, IsTup.new _ _⟩
/-- + -/
theorem os_add {E' : L2.St → XK} (hX : XOk X C k E) (mu : Nat) : OpS X C E' (binaryOp .Add) (binD mu .Add) := by
  intro pins s σ H x y v u Q S st a b I rx ry rp ra rb h
  have lists : (match trkOf st a, trkOf st b with | some xs, some ys => mkL mu (xs ++ ys) st | _, _ => .bad) = binD mu .Add a b st → wpAny (model X.prog X.w) X.A (binaryOp .Add v u) (EP X pins σ Q) X.xe s := fun e => by
    rw [← e] at h
    cases e1 : trkOf st a with
    | none => rw [e1] at h; exact h.bad
    | some xs =>
      cases e2 : trkOf st b with
      | none => rw [e1, e2] at h; exact h.bad
      | some ys =>
        rw [e1, e2] at h
        obtain ⟨l, vs, rfl, h1, h2⟩ := trk_lst rp ra e1
        obtain ⟨l', us, rfl, h3, h4⟩ := trk_lst rp rb e2
        have hl := mkL_len h
        refine op_cat pins s σ H _ _ v u Q I rx ry ⟨l, l', vs, us, rfl, rfl, h1, h3, ?_, fun p hp => mkL_post h rp (h2.append h4) hp⟩
        rw [← h2.length, ← h4.length, ← List.length_append]
        exact lim_line hl
  cases a <;> first
    | (refine lists ?_; cases b <;> rfl)
    | skip
  case int i =>
    cases b <;> first
      | exact Post.bad (C := C) h
      | exact lists rfl
      | skip
    case int j =>
      exact op_add pins s σ H x y v u Q I rx ry ⟨i, j, rv_int.mp ra, rv_int.mp rb, post_same h rp (rv_int.mpr rfl)⟩
  case str i =>
    cases b <;> first
      | exact Post.bad (C := C) h
      | exact lists rfl
      | skip
    case str j =>
      obtain ⟨h0, h⟩ := post_ite h
      exact op_add_str pins s σ H x y v u Q I rx ry ⟨i, j, rv_str.mp ra, rv_str.mp rb, lim_line h0, post_same h rp (rv_str.mpr rfl)⟩
  case tup xs =>
    cases b <;> first
      | exact Post.bad (C := C) h
      | exact lists rfl
      | skip
    case tup ys =>
      have h : Post C (rV C) S H (mkT (xs ++ ys) st) Q (E' σ) := h
      have hl := mkT_len h
      have h := mkT_ok h
      obtain ⟨l, vs, rfl, h1, h2⟩ := rv_tup.mp ra
      obtain ⟨l', us, rfl, h3, h4⟩ := rv_tup.mp rb
      rw [← hX.K] at h1 h3
      refine op_catA pins s σ H _ _ v u Q I rx ry ⟨l, l', vs, us, rfl, rfl, sqT_mono rp.fz h1, sqT_mono rp.fz h3, ?_, fun e => ?_, fun e e' => ?_, fun e e' p hp => tup_new h rp (h2.append h4) hp⟩
      · rw [← h2.length, ← h4.length, ← List.length_append]
        exact lim_line hl
      · subst e
        have : xs = [] := by have := h2.length; simpa using this
        subst this
        exact post_same h rp rb
      · subst e'
        have : ys = [] := by have := h4.length; simpa using this
        subst this
        rw [List.append_nil] at h
        exact post_same h rp ra
theorem os_sub {E' : L2.St → XK} (hX : XOk X C k E) (mu : Nat) : OpS X C E' (binaryOp .Sub) (binD mu .Sub) := by
  intro pins s σ H x y v u Q S st a b I rx ry rp ra rb h
  cases a <;> first
    | (cases b <;> exact Post.bad (C := C) h)
    | skip
  case int i =>
    cases b <;> first
      | exact Post.bad (C := C) h
      | skip
    case int j =>
      exact op_sub pins s σ H x y v u Q I rx ry ⟨i, j, rv_int.mp ra, rv_int.mp rb, post_same h rp (rv_int.mpr rfl)⟩
theorem os_fdiv {E' : L2.St → XK} (hX : XOk X C k E) (mu : Nat) : OpS X C E' (binaryOp .FloorDiv) (binD mu .FloorDiv) := by
  intro pins s σ H x y v u Q S st a b I rx ry rp ra rb h
  cases a <;> first
    | (cases b <;> exact Post.bad (C := C) h)
    | skip
  case int i =>
    cases b <;> first
      | exact Post.bad (C := C) h
      | skip
    case int j =>
      obtain ⟨h0, h⟩ := post_ite h
      rw [Bool.and_eq_true, decide_eq_true_eq, decide_eq_true_eq] at h0
      exact op_fdiv pins s σ H x y v u Q I rx ry ⟨i, j, rv_int.mp ra, rv_int.mp rb, h0, post_same h rp (rv_int.mpr rfl)⟩
theorem os_mod {E' : L2.St → XK} (hX : XOk X C k E) (mu : Nat) : OpS X C E' (binaryOp .Mod) (binD mu .Mod) := by
  intro pins s σ H x y v u Q S st a b I rx ry rp ra rb h
  cases a <;> first
    | (cases b <;> exact Post.bad (C := C) h)
    | skip
  case int i =>
    cases b <;> first
      | exact Post.bad (C := C) h
      | skip
    case int j =>
      obtain ⟨h0, h⟩ := post_ite h
      exact op_mod pins s σ H x y v u Q I rx ry ⟨i, j, rv_int.mp ra, rv_int.mp rb, h0, post_same h rp (rv_int.mpr rfl)⟩
theorem os_pow {E' : L2.St → XK} (hX : XOk X C k E) (mu : Nat) : OpS X C E' (binaryOp .Pow) (binD mu .Pow) := by
  intro pins s σ H x y v u Q S st a b I rx ry rp ra rb h
  cases a <;> first
    | (cases b <;> exact Post.bad (C := C) h)
    | skip
  case int i =>
    cases b <;> first
      | exact Post.bad (C := C) h
      | skip
    case int j =>
      obtain ⟨h0, h⟩ := post_ite h
      simp only [Bool.and_eq_true, decide_eq_true_eq] at h0
      obtain ⟨h1, h2⟩ := h0
      rw [rv_int] at ra rb
      subst ra rb
      obtain ⟨t, rfl⟩ := rx
      obtain ⟨t', rfl⟩ := ry
      refine pow_int h1 ?_ ⟨.int _, H, I.tok _, ⟨_, rfl⟩, post_same h rp (rv_int.mpr rfl)⟩
      have b : Builtin.Int.intBits i ≤ i.natAbs.log2 + 1 := by
        unfold Builtin.Int.intBits
        split <;> omega
      have e : ((Builtin.Int.intBits i : Nat) : Int) * j = ((Builtin.Int.intBits i * j.toNat : Nat) : Int) := by
        rw [Int.natCast_mul, Int.toNat_of_nonneg h1]
      rw [e]
      have := Nat.mul_le_mul_right j.toNat b
      have h3 : Builtin.Int.intBits i * j.toNat ≤ 1000000 := Nat.le_trans this h2
      have h4 : ((Builtin.Int.intBits i * j.toNat : Nat) : Int) ≤ 1000000 := Int.ofNat_le.mpr h3
      exact Int.le_trans h4 (by decide)
theorem os_mul {E' : L2.St → XK} (hX : XOk X C k E) (mu : Nat) : OpS X C E' (binaryOp .Mult) (binD mu .Mult) := by
  intro pins s σ H x y v u Q S st a b I rx ry rp ra rb h
  have lists : ∀ k : Int, b = .int k → (match trkOf st a with | some xs => (if xs.length * k.toNat ≤ lim && decide (-(2 ^ 63) ≤ k) && decide (k < 2 ^ 63) then mkL mu (List.replicate k.toNat xs).flatten st else .bad) | none => .bad) = binD mu .Mult a b st → wpAny (model X.prog X.w) X.A (binaryOp .Mult v u) (EP X pins σ Q) X.xe s := fun k hk e => by
    rw [← e] at h
    cases e1 : trkOf st a with
    | none => rw [e1] at h; exact h.bad
    | some xs =>
      rw [e1] at h
      obtain ⟨h0, h⟩ := post_ite h
      simp only [Bool.and_eq_true, decide_eq_true_eq] at h0
      obtain ⟨l, vs, rfl, h1, h2⟩ := trk_lst rp ra e1
      subst hk
      refine op_rep pins s σ H _ _ v u Q I rx ry ⟨l, k, vs, rfl, rv_int.mp rb, h1, h0.1.2, h0.2, ?_, fun p hp => mkL_post h rp ?_ hp⟩
      · rw [← h2.length]; exact lim_line h0.1.1
      · clear h h0 e
        induction k.toNat with
        | zero => exact .nil
        | succ n ih =>
          rw [List.replicate_succ, List.replicate_succ, List.flatten_cons, List.flatten_cons]
          exact h2.append ih
  cases a <;> first
    | (cases b <;> first | exact Post.bad (C := C) h | exact lists _ rfl rfl)
    | skip
  case int i =>
    cases b <;> first
      | exact Post.bad (C := C) h
      | skip
    case int j =>
      obtain ⟨h0, h⟩ := post_ite h
      exact op_mulA pins s σ H x y v u Q I rx ry ⟨i, j, rv_int.mp ra, rv_int.mp rb, h0, post_same h rp (rv_int.mpr rfl)⟩
  case tup xs =>
    cases b <;> first
      | exact Post.bad (C := C) h
      | skip
    case int j =>
      obtain ⟨h0, h⟩ := post_ite h
      simp only [Bool.and_eq_true, decide_eq_true_eq] at h0
      obtain ⟨⟨z1, z2⟩, z3⟩ := h0
      obtain ⟨l, vs, rfl, h1, h2⟩ := rv_tup.mp ra
      rw [← hX.K] at h1
      have hl := h2.length
      by_cases y1 : vs = [] ∨ j = 1
      · refine op_rep1 pins s σ H _ _ v u Q I rx ry ⟨l, j, vs, rfl, rv_int.mp rb, sqT_mono rp.fz h1, z2, z3, .inl ⟨y1, ?_⟩⟩
        have e : (List.replicate j.toNat xs).flatten = xs := by
          rcases y1 with y | y
          · have : xs = [] := by rw [y] at hl; simpa using hl
            rw [this]
            exact List.flatten_eq_nil_iff.mpr fun l hl => (List.mem_replicate.mp hl).2
          · rw [y]; simp
        rw [e] at h
        exact post_same h rp ra
      by_cases y2 : j ≤ 0
      · refine op_rep1 pins s σ H _ _ v u Q I rx ry ⟨l, j, vs, rfl, rv_int.mp rb, sqT_mono rp.fz h1, z2, z3, .inr ⟨⟨fun y => y1 (.inl y), y2⟩, fun p hp => ?_⟩⟩
        have e : (List.replicate j.toNat xs).flatten = [] := by rw [Int.toNat_of_nonpos y2]; rfl
        rw [e] at h
        exact tup_new h rp .nil hp
      have z4 : vs ≠ [] := fun y => y1 (.inl y)
      have z2 : 2 ≤ j := by omega
      refine op_repT pins s σ H _ _ v u Q I rx ry ⟨l, j, vs, rfl, rv_int.mp rb, sqT_mono rp.fz h1, ?_, z2, z3, by omega, fun p hp => tup_new h rp ?_ hp⟩
      · exact z4
      · clear h
        induction j.toNat with
        | zero => exact .nil
        | succ n ih =>
          rw [List.replicate_succ, List.replicate_succ, List.flatten_cons, List.flatten_cons]
          exact h2.append ih
end
end Px

/-! Px5: views; equality; repr; places and slices. -/
namespace Px
open PySem PySem.Spec PyProof.Rows L2
section
variable {X : Cx} {C : Kc} {E : L2.St → XK} {k : Nat}

/-! ### views -/
mutual
theorem RV.monoG {S S' : Rp} (g : ∀ a o, S.G a = some o → S'.G a = some o) : ∀ {d : D} {v : V}, noCell d = true → RV C S d v → RV C S' d v
  | .non, v, _, h => by rw [RV] at h ⊢; exact h
  | .bl _, v, _, h => by rw [RV] at h ⊢; exact h
  | .int _, v, _, h => by rw [RV] at h ⊢; exact h
  | .str _, v, _, h => by rw [RV] at h ⊢; exact h
  | .ty _, v, _, h => by rw [RV] at h ⊢; exact h
  | .cell n, v, c, h => by rw [noCell] at c; cases c
  | .tup ds, v, c, h => by
    rw [noCell] at c
    rw [RV] at h ⊢
    obtain ⟨a, vs, e1, e2, e3⟩ := h
    exact ⟨a, vs, e1, sqT_mono g e2, RVs.monoG g c e3⟩
  | .lst ds, v, c, h => by
    rw [noCell] at c
    rw [RV] at h ⊢
    obtain ⟨a, vs, e1, e2, e3⟩ := h
    exact ⟨a, vs, e1, g _ _ e2, RVs.monoG g c e3⟩
  | .lck ds, v, c, h => by
    rw [noCell] at c
    rw [RV] at h ⊢
    obtain ⟨a, vs, e1, e2, e3⟩ := h
    exact ⟨a, vs, e1, sqL_mono g e2, RVs.monoG g c e3⟩
  | .dct ks us, v, c, h => by
    rw [noCell] at c
    rw [RV] at h ⊢
    obtain ⟨a, kvs, e1, e2, e3, e4⟩ := h
    exact ⟨a, kvs, e1, g _ _ e2, e3, RVs.monoG g c e4⟩
  | .obj cc ns us, v, c, h => by
    rw [noCell] at c
    rw [RV] at h ⊢
    obtain ⟨a, A, dx, fs, e1, e2, e3, e4, e5⟩ := h
    exact ⟨a, A, dx, fs, e1, e2, g _ _ e3, e4, RVs.monoG g c e5⟩
theorem RVs.monoG {S S' : Rp} (g : ∀ a o, S.G a = some o → S'.G a = some o) : ∀ {ds : List D} {vs : List V}, noCells ds = true → RVs C S ds vs → RVs C S' ds vs
  | [], vs, _, h => by rw [RVs] at h ⊢; exact h
  | d :: ds, vs, c, h => by
    rw [noCells, Bool.and_eq_true] at c
    rw [RVs] at h ⊢
    obtain ⟨v, r, e1, e2, e3⟩ := h
    exact ⟨v, r, e1, RV.monoG g c.1 e2, RVs.monoG g c.2 e3⟩
end
mutual
theorem frz_rv {S S' : Rp} {f : Nat → Option D} (hf : ∀ n d a, f n = some d → S.m[n]? = some a → RV C S' d (.ref a)) (e : ∀ a o, S.G a = some o → S'.G a = some o) : ∀ {d d' : D} {v : V}, RV C S d v → frz f d = some d' → RV C S' d' v
  | .cell n, d', v, h, q => by
    obtain ⟨a, rfl, ha⟩ := rv_cell.mp h
    rw [frz] at q
    exact hf n d' a q ha
  | .tup xs, d', v, h, q => by
    rw [frz] at q
    cases z : frzs f xs with
    | none => rw [z] at q; cases q
    | some ys =>
      rw [z] at q; cases q
      obtain ⟨a, vs, rfl, h1, h2⟩ := rv_tup.mp h
      exact rv_tup.mpr ⟨a, vs, rfl, sqT_mono e h1, frzs_rv hf e h2 z⟩
  | .lst xs, d', v, h, q => by
    rw [frz] at q
    cases z : frzs f xs with
    | none => rw [z] at q; cases q
    | some ys =>
      rw [z] at q; cases q
      obtain ⟨a, vs, rfl, h1, h2⟩ := rv_lst.mp h
      exact rv_lst.mpr ⟨a, vs, rfl, e _ _ h1, frzs_rv hf e h2 z⟩
  | .dct ks us, d', v, h, q => by
    rw [frz] at q
    cases z : frzs f us with
    | none => rw [z] at q; cases q
    | some ys =>
      rw [z] at q; cases q
      obtain ⟨a, kvs, rfl, h1, h2, h3⟩ := rv_dct.mp h
      exact rv_dct.mpr ⟨a, kvs, rfl, e _ _ h1, h2, frzs_rv hf e h3 z⟩
  | .obj c ns us, d', v, h, q => by
    rw [frz] at q
    cases z : frzs f us with
    | none => rw [z] at q; cases q
    | some ys =>
      rw [z] at q; cases q
      obtain ⟨a, A, dx, fs, rfl, h1, h2, h3, h4⟩ := rv_obj.mp h
      exact rv_obj.mpr ⟨a, A, dx, fs, rfl, h1, e _ _ h2, h3, frzs_rv hf e h4 z⟩
  | .non, d', v, h, q => by rw [frz] at q; cases q; exact h.monoG e rfl
  | .bl _, d', v, h, q => by rw [frz] at q; cases q; exact h.monoG e rfl
  | .int _, d', v, h, q => by rw [frz] at q; cases q; exact h.monoG e rfl
  | .str _, d', v, h, q => by rw [frz] at q; cases q; exact h.monoG e rfl
  | .ty _, d', v, h, q => by rw [frz] at q; cases q; exact h.monoG e rfl
  | .lck xs, d', v, h, q => by
    rw [frz] at q
    split at q
    · rename_i c
      cases q
      exact h.monoG e (by rw [noCell]; exact c)
    · cases q
theorem frzs_rv {S S' : Rp} {f : Nat → Option D} (hf : ∀ n d a, f n = some d → S.m[n]? = some a → RV C S' d (.ref a)) (e : ∀ a o, S.G a = some o → S'.G a = some o) : ∀ {ds ds' : List D} {vs : List V}, RVs C S ds vs → frzs f ds = some ds' → RVs C S' ds' vs
  | [], ds', vs, h, q => by
    rw [frzs] at q; cases q
    rw [RVs] at h; subst h
    exact .nil
  | d :: ds, ds', vs, h, q => by
    rw [frzs] at q
    rw [RVs] at h
    obtain ⟨v, r, rfl, h1, h2⟩ := h
    cases z1 : frz f d with
    | none => rw [z1] at q; cases q
    | some y =>
      cases z2 : frzs f ds with
      | none => rw [z1, z2] at q; cases q
      | some ys =>
        rw [z1, z2] at q; cases q
        exact .cons (frz_rv hf e h1 z1) (frzs_rv hf e h2 z2)
end
theorem cellV_rv {S : Rp} {st : Store} {H : Hp} (r : Rep C S st H) : ∀ (k n : Nat) (d : D) (a : Addr), cellV 0 st k n = some d → S.m[n]? = some a → RV C (S.all H) d (.ref a)
  | 0, n, d, a, h, q => by
    rw [cellV, if_neg (Nat.not_lt_zero n)] at h
    cases h
  | k + 1, n, d, a, h, q => by
    rw [cellV, if_neg (Nat.not_lt_zero n)] at h
    have ih := cellV_rv r k
    cases z : st[n]? with
    | none => rw [z] at h; cases h
    | some mo =>
      rw [z] at h
      obtain ⟨a', o, h1, h2, h3, h4⟩ := r.at_ n mo z
      rw [q] at h1; cases h1
      cases mo with
      | lst xs =>
        have h : (frzs (cellV 0 st k) xs).map D.lst = some d := h
        obtain ⟨vs, rfl, h5⟩ := h4
        cases y : frzs (cellV 0 st k) xs with
        | none => rw [y] at h; cases h
        | some ys =>
          rw [y] at h; cases h
          exact rv_lst.mpr ⟨a, vs, rfl, h3, frzs_rv ih r.fz h5 y⟩
      | dct ks us =>
        have h : (frzs (cellV 0 st k) us).map (D.dct ks) = some d := h
        obtain ⟨kvs, rfl, h5, h6⟩ := h4
        cases y : frzs (cellV 0 st k) us with
        | none => rw [y] at h; cases h
        | some ys =>
          rw [y] at h; cases h
          exact rv_dct.mpr ⟨a, kvs, rfl, h3, h5, frzs_rv ih r.fz h6 y⟩
      | ins c ns us =>
        have h : (frzs (cellV 0 st k) us).map (D.obj c ns) = some d := h
        obtain ⟨A, dx, fs, rfl, h5, h6, h7⟩ := h4
        cases y : frzs (cellV 0 st k) us with
        | none => rw [y] at h; cases h
        | some ys =>
          rw [y] at h; cases h
          exact rv_obj.mpr ⟨a, A, dx, fs, rfl, h5, h3, h6, frzs_rv ih r.fz h7 y⟩
      | dn _ _ => cases h
theorem view_rv {S : Rp} {st : Store} {H : Hp} {d d' : D} {v : V} (r : Rep C S st H) (h : RV C S d v) (e : view st d = some d') : RV C (S.all H) d' v :=
  frz_rv (cellV_rv r 8) r.fz h e

/-! ### data read -/
theorem vals_dict {P : Program} {w : World} : ∀ {kvs : List (Key × V)} {vs : List (Key × Value)} {es : List DictEntry}, KV kvs vs → Pairs (mixKind P w) es vs → Vals (kvs.map (·.2)) (es.map (·.val)) ∧ Vals (kvs.map fun p => kV p.1) (es.map (·.key))
  | _, _, _, .nil, .nil => ⟨.nil, .nil⟩
  | _, _, _, .cons ⟨e1, e2⟩ r, .cons k1 k2 k3 => by
    obtain ⟨i1, i2⟩ := vals_dict r k3
    refine ⟨.cons ?_ i1, .cons ?_ i2⟩
    · show RelV _ (DictEntry.val _)
      rw [k2]; exact e2
    · rename_i p q _ _ e _
      show RelV (kV p.1) e.key
      rw [e1]
      have k1 : keyIs q.1 e.key = true := k1
      rcases keyIs_shape k1 with ⟨i, t, q1, q2⟩ | ⟨x, t, q1, q2⟩
      · rw [q1, q2]; exact ⟨t, rfl⟩
      · rw [q1, q2]; exact ⟨t, rfl⟩
theorem kD_rv {S : Rp} : ∀ k : Key, RV C S (kD k) (kV k)
  | .inl _ => rv_int.mpr rfl
  | .inr _ => rv_str.mpr rfl
theorem kDs_rv {S : Rp} : ∀ kvs : List (Key × V), RVs C S (kvs.map fun p => kD p.1) (kvs.map fun p => kV p.1)
  | [] => .nil
  | p :: kvs => .cons (kD_rv p.1) (kDs_rv kvs)
theorem zip_fst {α β : Type} : ∀ {a : List α} {b : List β}, a.length = b.length → (a.zip b).map (·.1) = a
  | [], [], _ => rfl
  | x :: a, y :: b, h => by simp [zip_fst (a := a) (b := b) (by simpa using h)]
theorem zip_snd {α β : Type} : ∀ {a : List α} {b : List β}, a.length = b.length → (a.zip b).map (·.2) = b
  | [], [], _ => rfl
  | x :: a, y :: b, h => by simp [zip_snd (a := a) (b := b) (by simpa using h)]
theorem pys_length : ∀ {ds : List D} {ps : List PyData}, pys ds = some ps → ps.length = ds.length
  | [], ps, h => by rw [pys] at h; cases h; rfl
  | d :: ds, ps, h => by
    rw [pys] at h
    cases z1 : d.py with
    | none => rw [z1] at h; cases h
    | some p =>
      cases z2 : pys ds with
      | none => rw [z1, z2] at h; cases h
      | some q =>
        rw [z1, z2] at h; cases h
        simp [pys_length z2]
mutual
theorem reads_of {pins : List (Addr × Obj)} {σ : L2.St} {H : Hp} {s : Shared} {S : Rp} (I : Inv X pins σ H s) (hK : X.K = C.K) (hsm : H sysModules = none) (g : ∀ a o, S.G a = some o → H a = some o) :
    ∀ {d : D} {p : PyData} {v : V} {u : Value}, RV C S d v → d.py = some p → RelV v u → ∃ as, Reads s.heap u p as ∧ sysModules ∉ as
  | .non, p, v, u, h, q, r => by
    rw [D.py] at q; cases q
    rw [rv_non.mp h] at r; cases r
    exact ⟨_, .none, by simp⟩
  | .bl b, p, v, u, h, q, r => by
    rw [D.py] at q; cases q
    rw [rv_bl.mp h] at r; cases r
    exact ⟨_, .bool b, by simp⟩
  | .int i, p, v, u, h, q, r => by
    rw [D.py] at q; cases q
    rw [rv_int.mp h] at r
    obtain ⟨t, rfl⟩ := r
    exact ⟨_, .int i t, by simp⟩
  | .str x, p, v, u, h, q, r => by
    rw [D.py] at q; cases q
    rw [rv_str.mp h] at r
    obtain ⟨t, rfl⟩ := r
    exact ⟨_, .str x t, by simp⟩
  | .tup xs, p, v, u, h, q, r => by
    rw [D.py] at q
    cases z : pys xs with
    | none => rw [z] at q; cases q
    | some ps =>
      rw [z] at q; cases q
      obtain ⟨a, vs, rfl, h1, h2⟩ := rv_tup.mp h
      cases r
      rw [← hK] at h1
      obtain ⟨its, rv, ⟨o, ho, hc, n, hd⟩, _⟩ := I.tuple (sqT_mono g h1)
      obtain ⟨as, hr, hm⟩ := readsAll_of I hK hsm g h2 z rv
      exact ⟨_, Reads.tuple ho hc hd hr, hm⟩
  | .lst xs, p, v, u, h, q, r => by
    rw [D.py] at q
    cases z : pys xs with
    | none => rw [z] at q; cases q
    | some ps =>
      rw [z] at q; cases q
      obtain ⟨a, vs, rfl, h1, h2⟩ := rv_lst.mp h
      cases r
      obtain ⟨its, n, rv, ho, _⟩ := I.lst (g _ _ h1)
      obtain ⟨as, hr, hm⟩ := readsAll_of I hK hsm g h2 z rv
      refine ⟨_, Reads.list ho rfl rfl hr, ?_⟩
      rw [List.mem_cons]
      rintro (e | e)
      · rw [← e] at h1; rw [g _ _ h1] at hsm; cases hsm
      · exact hm e
  | .dct ks us, p, v, u, h, q, r => by
    rw [D.py] at q
    cases z1 : pys ks with
    | none => rw [z1] at q; cases q
    | some ps =>
      cases z2 : pys us with
      | none => rw [z1, z2] at q; cases q
      | some qs =>
        rw [z1, z2] at q; cases q
        obtain ⟨a, kvs, rfl, h1, h2, h3⟩ := rv_dct.mp h
        cases r
        obtain ⟨_, hne, vs, kv, o, es, ep, ho, hx, hd, _, hp, _⟩ := I.hok a _ (g _ _ h1)
        obtain ⟨v1, v2⟩ := vals_dict kv hp
        obtain ⟨bs, hr2, hm2⟩ := readsAll_of I hK hsm g h3 z2 v1
        have hk : RVs C S ks (kvs.map fun p => kV p.1) := by rw [h2]; exact kDs_rv kvs
        obtain ⟨as, hr1, hm1⟩ := readsAll_of I hK hsm g hk z1 v2
        have hl : ps.length = qs.length := by
          rw [pys_length z1, pys_length z2, h3.length, h2]; simp
        refine ⟨_, Reads.dict ho hx.1 hd (by rw [zip_fst hl]; exact hr1) (by rw [zip_snd hl]; exact hr2), ?_⟩
        rw [List.cons_append, List.mem_cons, List.mem_append]
        rintro (e | e | e)
        · rw [← e] at h1; rw [g _ _ h1] at hsm; cases hsm
        · exact hm1 e
        · exact hm2 e
  | .obj _ _ _, p, v, u, h, q, r => by rw [D.py] at q; cases q
  | .cell _, p, v, u, h, q, r => by rw [D.py] at q; cases q
  | .ty _, p, v, u, h, q, r => by rw [D.py] at q; cases q
  | .lck _, p, v, u, h, q, r => by rw [D.py] at q; cases q
theorem readsAll_of {pins : List (Addr × Obj)} {σ : L2.St} {H : Hp} {s : Shared} {S : Rp} (I : Inv X pins σ H s) (hK : X.K = C.K) (hsm : H sysModules = none) (g : ∀ a o, S.G a = some o → H a = some o) :
    ∀ {ds : List D} {ps : List PyData} {vs : List V} {us : List Value}, RVs C S ds vs → pys ds = some ps → Vals vs us → ∃ as, ReadsAll s.heap us ps as ∧ sysModules ∉ as
  | [], ps, vs, us, h, q, r => by
    rw [pys] at q; cases q
    rw [RVs] at h; subst h
    cases r
    exact ⟨_, .nil, by simp⟩
  | d :: ds, ps, vs, us, h, q, r => by
    rw [pys] at q
    rw [RVs] at h
    obtain ⟨v, vr, rfl, h1, h2⟩ := h
    cases z1 : d.py with
    | none => rw [z1] at q; cases q
    | some p =>
      cases z2 : pys ds with
      | none => rw [z1, z2] at q; cases q
      | some qs =>
        rw [z1, z2] at q; cases q
        cases r with
        | cons r1 r2 =>
          obtain ⟨as, a1, a2⟩ := reads_of I hK hsm g h1 z1 r1
          obtain ⟨bs, b1, b2⟩ := readsAll_of I hK hsm g h2 z2 r2
          exact ⟨_, .cons a1 b1, fun hm => (List.mem_append.mp hm).elim a2 b2⟩
end
theorem sm_free (hX : XOk X C k E) {pins : List (Addr × Obj)} {σ : L2.St} {H : Hp} {s : Shared} (I : Inv X pins σ H s) : H sysModules = none := by
  obtain ⟨o, ho⟩ := hX.sm
  exact (I.bs _ _ ho).2

/-! ### == -/
theorem os_eq {E' : L2.St → XK} (hX : XOk X C k E) : OpS X C E' (compareOp .Eq) (cmpD .Eq) := by
  intro pins s σ H x y v u Q S st a b I rx ry rp ra rb h
  have h : Post C (rV C) S H (match eqD st a b with | some b => .ok (.bl b) st | none => .bad) Q (E' σ) := by
    cases a <;> cases b <;> exact h
  cases e : eqD st a b with
  | none => rw [e] at h; exact h.bad
  | some c =>
    rw [e] at h
    unfold eqD at e
    split at e
    · cases e
      rw [rv_str] at ra rb
      subst ra rb
      exact op_eq pins s σ H _ _ v u Q I rx ry ⟨rfl, by rw [dec_str]; exact post_same h rp (rv_bl.mpr rfl)⟩
    · cases e1 : view st a with
      | none => rw [e1] at e; cases e
      | some a' =>
        cases e2 : view st b with
        | none => rw [e1, e2] at e; cases e
        | some b' =>
          rw [e1, e2] at e
          cases e3 : a'.py with
          | none => simp only [e3] at e; cases e
          | some p =>
            cases e4 : b'.py with
            | none => simp only [e3, e4] at e; cases e
            | some q =>
              simp only [e3, e4] at e
              split at e
              · rename_i hs
                rw [Bool.and_eq_true] at hs
                cases e
                obtain ⟨as, r1, _⟩ := reads_of I hX.K (sm_free hX I) (fun _ _ h => h) (view_rv rp ra e1) e3 rx
                obtain ⟨bs, r2, _⟩ := reads_of I hX.K (sm_free hX I) (fun _ _ h => h) (view_rv rp rb e2) e4 ry
                exact SeqAt.compareEq_shaped r1 r2 hs.1 hs.2 hX.room.units ⟨.bl _, H, I, rfl, post_same h rp (rv_bl.mpr rfl)⟩
              · cases e
theorem os_ne {E' : L2.St → XK} (hX : XOk X C k E) : OpS X C E' (compareOp .NotEq) (cmpD .NotEq) := by
  intro pins s σ H x y v u Q S st a b I rx ry rp ra rb h
  have h : Post C (rV C) S H (match eqD st a b with | some b => .ok (.bl (!b)) st | none => .bad) Q (E' σ) := by
    cases a <;> cases b <;> exact h
  cases e : eqD st a b with
  | none => rw [e] at h; exact h.bad
  | some c =>
    rw [e] at h
    unfold eqD at e
    split at e
    · cases e
      rw [rv_str] at ra rb
      subst ra rb
      exact op_ne pins s σ H _ _ v u Q I rx ry ⟨rfl, by rw [dec_str]; exact post_same h rp (rv_bl.mpr rfl)⟩
    · cases e1 : view st a with
      | none => rw [e1] at e; cases e
      | some a' =>
        cases e2 : view st b with
        | none => rw [e1, e2] at e; cases e
        | some b' =>
          rw [e1, e2] at e
          cases e3 : a'.py with
          | none => simp only [e3] at e; cases e
          | some p =>
            cases e4 : b'.py with
            | none => simp only [e3, e4] at e; cases e
            | some q =>
              simp only [e3, e4] at e
              split at e
              · rename_i hs
                rw [Bool.and_eq_true] at hs
                cases e
                obtain ⟨as, r1, _⟩ := reads_of I hX.K (sm_free hX I) (fun _ _ h => h) (view_rv rp ra e1) e3 rx
                obtain ⟨bs, r2, _⟩ := reads_of I hX.K (sm_free hX I) (fun _ _ h => h) (view_rv rp rb e2) e4 ry
                exact SeqAt.compareNe_shaped r1 r2 hs.1 hs.2 hX.room.units ⟨.bl _, H, I, rfl, post_same h rp (rv_bl.mpr rfl)⟩
              · cases e
theorem os_lt {E' : L2.St → XK} (hX : XOk X C k E) : OpS X C E' (compareOp .Lt) (cmpD .Lt) := by
  intro pins s σ H x y v u Q S st a b I rx ry rp ra rb h
  cases a <;> first | (cases b <;> exact Post.bad (C := C) h) | skip
  case int i =>
    cases b <;> first | exact Post.bad (C := C) h | skip
    case int j => exact op_lt pins s σ H x y v u Q I rx ry ⟨i, j, rv_int.mp ra, rv_int.mp rb, post_same h rp (rv_bl.mpr rfl)⟩
theorem os_le {E' : L2.St → XK} (hX : XOk X C k E) : OpS X C E' (compareOp .LtE) (cmpD .LtE) := by
  intro pins s σ H x y v u Q S st a b I rx ry rp ra rb h
  cases a <;> first | (cases b <;> exact Post.bad (C := C) h) | skip
  case int i =>
    cases b <;> first | exact Post.bad (C := C) h | skip
    case int j => exact op_le pins s σ H x y v u Q I rx ry ⟨i, j, rv_int.mp ra, rv_int.mp rb, post_same h rp (rv_bl.mpr rfl)⟩
theorem os_gt {E' : L2.St → XK} (hX : XOk X C k E) : OpS X C E' (compareOp .Gt) (cmpD .Gt) := by
  intro pins s σ H x y v u Q S st a b I rx ry rp ra rb h
  cases a <;> first | (cases b <;> exact Post.bad (C := C) h) | skip
  case int i =>
    cases b <;> first | exact Post.bad (C := C) h | skip
    case int j => exact op_gt pins s σ H x y v u Q I rx ry ⟨i, j, rv_int.mp ra, rv_int.mp rb, post_same h rp (rv_bl.mpr rfl)⟩
theorem os_ge {E' : L2.St → XK} (hX : XOk X C k E) : OpS X C E' (compareOp .GtE) (cmpD .GtE) := by
  intro pins s σ H x y v u Q S st a b I rx ry rp ra rb h
  cases a <;> first | (cases b <;> exact Post.bad (C := C) h) | skip
  case int i =>
    cases b <;> first | exact Post.bad (C := C) h | skip
    case int j => exact op_ge pins s σ H x y v u Q I rx ry ⟨i, j, rv_int.mp ra, rv_int.mp rb, post_same h rp (rv_bl.mpr rfl)⟩
def isNon : D → Bool
  | .non => true
  | _ => false
theorem isNon_rv {S : Rp} {a : D} {x : V} (h : RV C S a x) : decide (x = .non) = isNon a := by
  cases a <;> first
    | (rw [rv_non] at h; subst h; rfl)
    | (rw [rv_bl] at h; subst h; rfl)
    | (rw [rv_int] at h; subst h; rfl)
    | (rw [rv_str] at h; subst h; rfl)
    | (rw [RV] at h; subst h; rfl)
    | (rw [RV] at h; obtain ⟨a, _, rfl⟩ := h; rfl)
    | (rw [RV] at h; obtain ⟨a, _, _, _, rfl, _⟩ := h; rfl)
    | (rw [RV] at h; obtain ⟨a, _, rfl, _⟩ := h; rfl)
    | (rw [RV] at h; obtain ⟨a, rfl, _⟩ := h; rfl)
theorem os_is {E' : L2.St → XK} (hX : XOk X C k E) : OpS X C E' (compareOp .Is) (cmpD .Is) := by
  intro pins s σ H x y v u Q S st a b I rx ry rp ra rb h
  cases b <;> first | (cases a <;> exact Post.bad (C := C) h) | skip
  have h : Post C (rV C) S H (.ok (.bl (isNon a)) st) Q (E' σ) := by cases a <;> exact h
  exact op_isN pins s σ H x y v u Q I rx ry ⟨rv_non.mp rb, by rw [isNon_rv ra]; exact post_same h rp (rv_bl.mpr rfl)⟩
theorem os_isn {E' : L2.St → XK} (hX : XOk X C k E) : OpS X C E' (compareOp .IsNot) (cmpD .IsNot) := by
  intro pins s σ H x y v u Q S st a b I rx ry rp ra rb h
  cases b <;> first | (cases a <;> exact Post.bad (C := C) h) | skip
  have h : Post C (rV C) S H (.ok (.bl (!isNon a)) st) Q (E' σ) := by cases a <;> exact h
  exact op_notN pins s σ H x y v u Q I rx ry ⟨rv_non.mp rb, by rw [isNon_rv ra]; exact post_same h rp (rv_bl.mpr rfl)⟩
end
end Px

/-! Px6: in; truth; tests; displays; places; built-in calls. -/
namespace Px
open PySem PySem.Spec PyProof.Rows L2
section
variable {X : Cx} {C : Kc} {E E' : L2.St → XK} {k : Nat}

/-! ### in -/
theorem eqF_rv {S : Rp} {a b : D} {x y : V} (ha : flatD a = true) (hb : flatD b = true) (ra : RV C S a x) (rb : RV C S b y) : eqV x y = eqF a b := by
  cases a <;> first | exact absurd ha Bool.false_ne_true | skip
  all_goals (first | rw [rv_non] at ra | rw [rv_bl] at ra | rw [rv_int] at ra | rw [rv_str] at ra)
  all_goals subst ra
  all_goals (cases b <;> first | exact absurd hb Bool.false_ne_true | skip)
  all_goals (first | rw [rv_non] at rb | rw [rv_bl] at rb | rw [rv_int] at rb | rw [rv_str] at rb)
  all_goals subst rb
  all_goals rfl
theorem flat_rv {S : Rp} {a : D} {x : V} (ha : flatD a = true) (ra : RV C S a x) : flatV x = true := by
  cases a <;> first | exact absurd ha Bool.false_ne_true | skip
  all_goals (first | rw [rv_non] at ra | rw [rv_bl] at ra | rw [rv_int] at ra | rw [rv_str] at ra)
  all_goals subst ra
  all_goals rfl
theorem flats_rv {S : Rp} : ∀ {xs : List D} {vs : List V}, xs.all flatD = true → RVs C S xs vs → vs.all flatV = true
  | [], vs, _, h => by rw [RVs] at h; subst h; rfl
  | d :: ds, vs, ha, h => by
    rw [RVs] at h
    obtain ⟨v, r, rfl, h1, h2⟩ := h
    rw [List.all_cons, Bool.and_eq_true] at ha ⊢
    exact ⟨flat_rv ha.1 h1, flats_rv ha.2 h2⟩
theorem inV_rv {S : Rp} {a : D} {x : V} (ha : flatD a = true) (ra : RV C S a x) : ∀ {xs : List D} {vs : List V}, xs.all flatD = true → RVs C S xs vs → inV x vs = xs.any fun z => eqF z a
  | [], vs, _, h => by rw [RVs] at h; subst h; rfl
  | d :: ds, vs, hs, h => by
    rw [RVs] at h
    obtain ⟨v, r, rfl, h1, h2⟩ := h
    rw [List.all_cons, Bool.and_eq_true] at hs
    have ih := inV_rv ha ra hs.2 h2
    unfold inV at ih ⊢
    rw [List.any_cons, List.any_cons, ih, eqF_rv hs.1 ha h1 ra]
theorem inD_some {S : Rp} {st : Store} {H : Hp} {a b : D} {x y : V} {c : Bool} (rp : Rep C S st H) (ra : RV C S a x) (rb : RV C S b y) (e : inD st a b = some c) :
    (∃ i j, x = .str i ∧ y = .str j ∧ c = !(Builtin.Str.occurrences j i 0 j.length 1).isEmpty) ∨ ∃ p vs, y = .ref p ∧ (SqL C.K H p vs ∨ SqT C.K H p vs) ∧ flatV x = true ∧ vs.all flatV = true ∧ c = inV x vs := by
  have seqs : ∀ xs : List D, (if flatD a && xs.all flatD then some (xs.any fun z => eqF z a) else none) = some c → (∃ p vs, y = .ref p ∧ (SqL C.K H p vs ∨ SqT C.K H p vs) ∧ RVs C S xs vs) →
      ∃ p vs, y = .ref p ∧ (SqL C.K H p vs ∨ SqT C.K H p vs) ∧ flatV x = true ∧ vs.all flatV = true ∧ c = inV x vs := fun xs e ⟨p, vs, h1, h2, h3⟩ => by
    split at e
    · rename_i hf
      rw [Bool.and_eq_true] at hf
      cases e
      exact ⟨p, vs, h1, h2, flat_rv hf.1 ra, flats_rv hf.2 h3, (inV_rv hf.1 ra hf.2 h3).symm⟩
    · cases e
  unfold inD at e
  cases z : look st b with
  | none => rw [z] at e; cases a <;> cases e
  | some b' =>
    rw [z] at e
    cases b' with
    | lst xs =>
      obtain ⟨p, vs, h1, h2, h3⟩ := look_lst rp rb z
      exact .inr (seqs xs (by cases a <;> exact e) ⟨p, vs, h1, .inl h2, h3⟩)
    | tup xs =>
      obtain ⟨p, vs, h1, h2, h3⟩ := look_tup rp rb z
      exact .inr (seqs xs (by cases a <;> exact e) ⟨p, vs, h1, .inr (sqT_mono rp.fz h2), h3⟩)
    | str z' =>
      cases a with
      | str x' =>
        cases e
        rw [look_str z] at rb
        exact .inl ⟨x', z', rv_str.mp ra, rv_str.mp rb, rfl⟩
      | _ => cases e
    | _ => cases a <;> cases e
theorem os_in (hX : XOk X C k E) : OpS X C E' (compareOp .In) (cmpD .In) := by
  intro pins s σ H x y v u Q S st a b I rx ry rp ra rb h
  have h : Post C (rV C) S H (match inD st a b with | some b => .ok (.bl b) st | none => .bad) Q (E' σ) := by
    cases a <;> cases b <;> exact h
  cases e : inD st a b with
  | none => rw [e] at h; exact h.bad
  | some c =>
    rw [e] at h
    have q := post_same h rp (rv_bl.mpr rfl)
    rcases inD_some rp ra rb e with ⟨i, j, h1, h2, h3⟩ | ⟨p, vs, h1, h2, h3, h4, h5⟩
    · exact op_in_str pins s σ H x y v u Q I rx ry ⟨i, j, h1, h2, by rw [← h3]; exact q⟩
    · rw [← hX.K] at h2
      exact op_in_seq pins s σ H x y v u Q I rx ry ⟨p, vs, h1, h2, h3, h4, by rw [← h5]; exact q⟩
theorem os_notIn (hX : XOk X C k E) : OpS X C E' (compareOp .NotIn) (cmpD .NotIn) := by
  intro pins s σ H x y v u Q S st a b I rx ry rp ra rb h
  have h : Post C (rV C) S H (match inD st a b with | some b => .ok (.bl (!b)) st | none => .bad) Q (E' σ) := by
    cases a <;> cases b <;> exact h
  cases e : inD st a b with
  | none => rw [e] at h; exact h.bad
  | some c =>
    rw [e] at h
    have q := post_same h rp (rv_bl.mpr rfl)
    rcases inD_some rp ra rb e with ⟨i, j, h1, h2, h3⟩ | ⟨p, vs, h1, h2, h3, h4, h5⟩
    · exact op_notIn_str pins s σ H x y v u Q I rx ry ⟨i, j, h1, h2, by rw [← h3]; exact q⟩
    · rw [← hX.K] at h2
      exact op_notIn_seq pins s σ H x y v u Q I rx ry ⟨p, vs, h1, h2, h3, h4, by rw [← h5]; exact q⟩
theorem os_cmp (hX : XOk X C k E) (op : CmpOp) : OpS X C E' (compareOp op) (cmpD op) := by
  cases op
  · exact os_eq hX
  · exact os_ne hX
  · exact os_lt hX
  · exact os_le hX
  · exact os_gt hX
  · exact os_ge hX
  · exact os_is hX
  · exact os_isn hX
  · exact os_in hX
  · exact os_notIn hX
theorem os_bin (hX : XOk X C k E) (mu : Nat) (op : Operator) : OpS X C E' (binaryOp op) (binD mu op) := by
  have none_ : ∀ op, (∀ a b st, binD mu op a b st = .bad) → OpS X C E' (binaryOp op) (binD mu op) := fun op hb => by
    intro pins s σ H x y v u Q S st a b I rx ry rp ra rb h
    rw [hb] at h; exact h.bad
  cases op <;> first
    | exact os_add hX mu | exact os_sub hX mu | exact os_mul hX mu | exact os_fdiv hX mu | exact os_mod hX mu | exact os_pow hX mu
    | (refine none_ _ fun a b st => ?_; cases a <;> cases b <;> rfl)

/-! ### truth -/
theorem truth_rv {S : Rp} {st : Store} {H : Hp} {d : D} {v : V} {b : Bool} (hK : X.K = C.K) (r : Rep C S st H) (h : RV C S d v) (e : truth st d = some b) : TruV X.K v H b := by
  rw [hK]
  unfold truth at e
  have cellc : ∀ {n : Nat} {a : Addr} {mo : MO}, d = .cell n → v = .ref a → S.m[n]? = some a → st[n]? = some mo → ∃ o, H a = some o ∧ RO C S mo o := fun h1 h2 h3 h4 => by
    obtain ⟨a', o, q1, q2, q3, q4⟩ := r.at_ _ _ h4
    rw [h3] at q1; cases q1
    exact ⟨o, q3, q4⟩
  have emp : ∀ {xs : List D} {vs : List V}, RVs C S xs vs → (!xs.isEmpty) = !vs.isEmpty := fun {xs vs} q => by
    have := q.length
    cases xs <;> cases vs <;> simp at this ⊢
  cases d with
  | non => cases e; rw [rv_non] at h; subst h; rfl
  | bl c => cases e; rw [rv_bl] at h; subst h; rfl
  | int i => cases e; rw [rv_int] at h; subst h; rfl
  | str x =>
    rw [rv_str] at h; subst h
    have e : (if x.length ≤ lim then some ((x.length : Int) != 0) else none) = some b := e
    split at e
    · rename_i hl
      cases e
      exact ⟨lim_line hl, rfl⟩
    · cases e
  | tup xs =>
    cases e
    obtain ⟨a, vs, rfl, h1, h2⟩ := rv_tup.mp h
    exact .inr (.inl ⟨vs, sqT_mono r.fz h1, emp h2⟩)
  | lst xs =>
    cases e
    obtain ⟨a, vs, rfl, h1, h2⟩ := rv_lst.mp h
    exact .inl ⟨vs, .inl (.inl (r.fz _ _ h1)), emp h2⟩
  | lck xs =>
    cases e
    obtain ⟨a, vs, rfl, h1, h2⟩ := rv_lck.mp h
    exact .inl ⟨vs, sqL_mono r.fz h1, emp h2⟩
  | dct ks us =>
    cases e
    obtain ⟨a, kvs, rfl, h1, h2, h3⟩ := rv_dct.mp h
    refine .inr (.inr ⟨kvs, r.fz _ _ h1, ?_⟩)
    subst h2
    cases kvs <;> rfl
  | obj c ns us => cases e
  | ty _ => cases e
  | cell n =>
    obtain ⟨a, rfl, ha⟩ := rv_cell.mp h
    rw [look_cell] at e
    cases z : st[n]? with
    | none => rw [z] at e; cases e
    | some mo =>
      rw [z] at e
      obtain ⟨o, h1, h2⟩ := cellc rfl rfl ha z
      cases mo with
      | lst xs =>
        cases e
        obtain ⟨vs, rfl, h3⟩ := h2
        exact .inl ⟨vs, .inl (.inl h1), emp h3⟩
      | dct ks us =>
        cases e
        obtain ⟨kvs, rfl, h2, h3⟩ := h2
        refine .inr (.inr ⟨kvs, h1, ?_⟩)
        subst h2
        cases kvs <;> rfl
      | ins c ns us => cases e
      | dn _ _ => cases e
theorem tst_read {f : Fx D} {σ : L2.St} {H : Hp} {Q : Bool → Hp → Prop} {Q1 : VK} (h : tF C rB E (tst f) σ H Q) (k : ∀ S st d v b H', Rep C S st H' → RV C S d v → truth st d = some b → Q b H' → Q1 v H') : tF C (rV C) E f σ H Q1 := by
  obtain ⟨S, ρ, st, rp, rn, q⟩ := h
  refine ⟨S, ρ, st, rp, rn, Post.bind (rel2 := rB) q fun d st1 S1 H1 v g rp1 rv1 h1 => ?_⟩
  cases t : truth st1 d with
  | none => rw [t] at h1; exact h1.bad
  | some b =>
    rw [t] at h1
    exact k S1 st1 d v b H1 rp1 rv1 t (Post.end_ (C := C) (rel := rB) h1 (.refl S1 H1) rp1 rfl)
theorem st_val {f : Fx D} {e : Expr} (hX : XOk X C k E) (h : SE X C E f e) (he : ∀ whole, isTrue e X.env whole = (do let v ← whole; standAt e.pos; holding [v] (truthy v))) : ST X C E (tst f) e :=
  PT.weak (pt_truth h he) fun σ H Q q => tst_read q fun S st d v b H' rp rv t q1 => ⟨b, truth_rv hX.K rp rv t, q1⟩
theorem se_not {f : Fx D} {e : Expr} {pos : Pos} (hX : XOk X C k E) (h : SE X C E f e) : SE X C E (fun ρ st => (f ρ st).bind fun x st1 => ofO ((truth st1 x).map fun b => .bl (!b)) st1) (.UnaryOp .Not e pos) :=
  PE.weak (pe_notT h) fun σ H Q q => by
    obtain ⟨S, ρ, st, rp, rn, q⟩ := q
    refine ⟨S, ρ, st, rp, rn, Post.bind (rel2 := rV C) q fun d st1 S1 H1 v g rp1 rv1 h1 => ?_⟩
    cases t : truth st1 d with
    | none => rw [t] at h1; exact h1.bad
    | some b =>
      rw [t] at h1
      exact ⟨b, truth_rv hX.K rp1 rv1 t, post_same h1 rp1 (rv_bl.mpr rfl)⟩
def andF (f g : Fx D) : Fx D := fun ρ st => (f ρ st).bind fun x st1 => match truth st1 x with
  | some true => g ρ st1
  | some false => .ok x st1
  | none => .bad
def orF (f g : Fx D) : Fx D := fun ρ st => (f ρ st).bind fun x st1 => match truth st1 x with
  | some true => .ok x st1
  | some false => g ρ st1
  | none => .bad
def iteF (t f g : Fx D) : Fx D := fun ρ st => (t ρ st).bind fun x st1 => match truth st1 x with
  | some true => f ρ st1
  | some false => g ρ st1
  | none => .bad
theorem se_and {f g : Fx D} {a b : Expr} {rest : List Expr} {pos : Pos} (hX : XOk X C k E) (ha : SE X C E f a) (hb : SE X C E g (.BoolOp .And (b :: rest) pos)) : SE X C E (andF f g) (.BoolOp .And (a :: b :: rest) pos) :=
  PE.weak (pe_andT ha hb) fun σ H Q q => by
    obtain ⟨S, ρ, st, rp, rn, q⟩ := q
    refine ⟨S, ρ, st, rp, rn, Post.bind (rel2 := rV C) q fun d st1 S1 H1 v g rp1 rv1 h1 => ?_⟩
    cases t : truth st1 d with
    | none => rw [t] at h1; exact h1.bad
    | some b =>
      rw [t] at h1
      refine ⟨b, truth_rv hX.K rp1 rv1 t, ?_⟩
      cases b with
      | true => rw [if_pos rfl]; exact ⟨S1, ρ, st1, rp1, rn.mono g.ext, h1⟩
      | false => rw [if_neg Bool.false_ne_true]; exact post_same h1 rp1 rv1
theorem se_or {f g : Fx D} {a b : Expr} {rest : List Expr} {pos : Pos} (hX : XOk X C k E) (ha : SE X C E f a) (hb : SE X C E g (.BoolOp .Or (b :: rest) pos)) : SE X C E (orF f g) (.BoolOp .Or (a :: b :: rest) pos) :=
  PE.weak (pe_orT ha hb) fun σ H Q q => by
    obtain ⟨S, ρ, st, rp, rn, q⟩ := q
    refine ⟨S, ρ, st, rp, rn, Post.bind (rel2 := rV C) q fun d st1 S1 H1 v g rp1 rv1 h1 => ?_⟩
    cases t : truth st1 d with
    | none => rw [t] at h1; exact h1.bad
    | some b =>
      rw [t] at h1
      refine ⟨b, truth_rv hX.K rp1 rv1 t, ?_⟩
      cases b with
      | true => rw [if_pos rfl]; exact post_same h1 rp1 rv1
      | false => rw [if_neg Bool.false_ne_true]; exact ⟨S1, ρ, st1, rp1, rn.mono g.ext, h1⟩
/-- tests -/
theorem st_and {f g : Fx D} {a b : Expr} {rest : List Expr} {pos : Pos} (ha : ST X C E (tst f) a) (hb : PW X (.BoolOp .And (b :: rest) pos) (tF C rB E (tst g))) : PW X (.BoolOp .And (a :: b :: rest) pos) (tF C rB E (tst (andF f g))) := by
  refine ⟨fun wh pins s σ H Q I q => (pw_and ha hb).run wh pins s σ H Q I ?_⟩
  obtain ⟨S, ρ, st, rp, rn, q⟩ := q
  refine ⟨S, ρ, st, rp, rn, ?_⟩
  unfold tst andF at q
  unfold tst
  cases e : f ρ st with
  | bad => rw [e] at q; exact q
  | ex c ns vs st' => rw [e] at q; exact q
  | ok d st' =>
    rw [e] at q
    simp only [R.bind_ok] at q ⊢
    cases t : truth st' d with
    | none => rw [t] at q; exact q
    | some b =>
      rw [t] at q
      intro S1 H1 c g1 rp1 hc
      cases hc
      cases b with
      | true =>
        rw [if_pos rfl]
        exact ⟨S1, ρ, st', rp1, rn.mono g1.ext, Post.go q g1⟩
      | false =>
        rw [if_neg Bool.false_ne_true]
        simp only [R.bind_ok, t] at q
        exact q S1 H1 false g1 rp1 rfl
theorem st_or {f g : Fx D} {a b : Expr} {rest : List Expr} {pos : Pos} (ha : ST X C E (tst f) a) (hb : PW X (.BoolOp .Or (b :: rest) pos) (tF C rB E (tst g))) : PW X (.BoolOp .Or (a :: b :: rest) pos) (tF C rB E (tst (orF f g))) := by
  refine ⟨fun wh pins s σ H Q I q => (pw_or ha hb).run wh pins s σ H Q I ?_⟩
  obtain ⟨S, ρ, st, rp, rn, q⟩ := q
  refine ⟨S, ρ, st, rp, rn, ?_⟩
  unfold tst orF at q
  unfold tst
  cases e : f ρ st with
  | bad => rw [e] at q; exact q
  | ex c ns vs st' => rw [e] at q; exact q
  | ok d st' =>
    rw [e] at q
    simp only [R.bind_ok] at q ⊢
    cases t : truth st' d with
    | none => rw [t] at q; exact q
    | some b =>
      rw [t] at q
      intro S1 H1 c g1 rp1 hc
      cases hc
      cases b with
      | false =>
        rw [if_neg Bool.false_ne_true]
        exact ⟨S1, ρ, st', rp1, rn.mono g1.ext, Post.go q g1⟩
      | true =>
        rw [if_pos rfl]
        simp only [R.bind_ok, t] at q
        exact q S1 H1 true g1 rp1 rfl
def notF (f : Fx D) : Fx D := fun ρ st => (f ρ st).bind fun x st1 => ofO ((truth st1 x).map fun b => .bl (!b)) st1
theorem st_not {f : Fx D} {a : Expr} {pos : Pos} (ha : ST X C E (tst f) a) : ST X C E (tst (notF f)) (.UnaryOp .Not a pos) :=
  PT.weak (pt_not ha) fun σ H Q q => by
    obtain ⟨S, ρ, st, rp, rn, q⟩ := q
    refine ⟨S, ρ, st, rp, rn, ?_⟩
    unfold tst notF at q
    unfold tst
    cases e : f ρ st with
    | bad => rw [e] at q; exact q
    | ex c ns vs st' => rw [e] at q; exact q
    | ok d st' =>
      rw [e] at q
      simp only [R.bind_ok] at q ⊢
      cases t : truth st' d with
      | none => rw [t] at q; exact q
      | some b =>
        rw [t] at q
        intro S1 H1 c g1 rp1 hc
        cases hc
        exact q S1 H1 (!b) g1 rp1 rfl
theorem se_ite {t f g : Fx D} {c a b : Expr} {pos : Pos} (hc : ST X C E (tst t) c) (ha : SE X C E f a) (hb : SE X C E g b) : SE X C E (iteF t f g) (.IfExp c a b pos) :=
  PE.weak (pe_ifExp hc ha hb) fun σ H Q q => by
    obtain ⟨S, ρ, st, rp, rn, q⟩ := q
    refine ⟨S, ρ, st, rp, rn, ?_⟩
    unfold iteF at q
    unfold tst
    cases e : t ρ st with
    | bad => rw [e] at q; exact q
    | ex c ns vs st' => rw [e] at q; exact q
    | ok d st' =>
      rw [e] at q
      simp only [R.bind_ok] at q ⊢
      cases t : truth st' d with
      | none => rw [t] at q; exact q
      | some b =>
        rw [t] at q
        intro S1 H1 c g1 rp1 hc
        cases hc
        cases b with
        | true => rw [if_pos rfl]; exact ⟨S1, ρ, st', rp1, rn.mono g1.ext, Post.go q g1⟩
        | false => rw [if_neg Bool.false_ne_true]; exact ⟨S1, ρ, st', rp1, rn.mono g1.ext, Post.go q g1⟩
theorem st_cmp {a b : Expr} {fa fb : Fx D} {o : CmpOp} {op : D → D → Store → R D} {pos : Pos} (hX : XOk X C k E) (ha : SE X C E fa a) (hb : SE X C E fb b) (hf : OpS X C E (compareOp o) op) (hm : behindInMarks o b = false) :
    ST X C E (tst fun ρ st => (fa ρ st).bind fun x st1 => (fb ρ st1).bind fun y st2 => op x y st2) (.Compare a [o] [b] pos) := by
  refine ⟨fun pins s σ H Q I h => ?_⟩
  have hX' := hX
  have h2 := tst_read (Q1 := fun v H' => ∃ b, TruV X.K v H' b ∧ Q b H') h fun S st d v b H' rp rv t q1 => ⟨b, truth_rv hX.K rp rv t, q1⟩
  refine wpAny_isTrue_Compare1 (bin (R := fun x y H2 => ∃ S st da db, Rep C S st H2 ∧ RV C S da x ∧ RV C S db y ∧ Post C (rV C) S H2 (op da db st) (fun v H' => ∃ b, TruV X.K v H' b ∧ Q b H') (E σ)) ha hb I (bin_read h2 fun x y H2 S st da db h1 h2 h3 h4 => ⟨S, st, da, db, h1, h2, h3, h4⟩) fun v u s2 x y H2 I2 rx ry q => ?_) hm
  obtain ⟨S, st, da, db, h1, h2, h3, h4⟩ := q
  refine thn (hf pins s2 σ H2 x y v u _ S st da db I2 rx ry h1 h2 h3 h4) fun c s3 ⟨z, H3, I3, r3, q3⟩ => ?_
  exact tru_ok pins s3 σ H3 z c Q I3 r3 q3
end
end Px

/-! Px7: chains, displays, places, slices, built-in calls. -/
namespace Px
open PySem PySem.Spec PyProof.Rows L2
section
variable {X : Cx} {C : Kc} {E E' : L2.St → XK} {k : Nat}

theorem se_neg {f : Fx D} {e : Expr} {pos : Pos} (h : SE X C E f e) : SE X C E (fun ρ st => (f ρ st).bind fun x st1 => match x with | .int i => .ok (.int (-i)) st1 | _ => .bad) (.UnaryOp .USub e pos) :=
  PE.weak (pe_un un_neg h) fun σ H Q q => by
    obtain ⟨S, ρ, st, rp, rn, q⟩ := q
    refine ⟨S, ρ, st, rp, rn, Post.bind (rel2 := rV C) q fun d st1 S1 H1 v g rp1 rv1 h1 => ?_⟩
    cases d <;> first | exact Post.bad (C := C) h1 | skip
    case int i => exact ⟨i, rv_int.mp rv1, post_same h1 rp1 (rv_int.mpr rfl)⟩

def chainF (o1 o2 : CmpOp) (fa fb fc : Fx D) : Fx D := fun ρ st => (fa ρ st).bind fun x st1 => (fb ρ st1).bind fun y st2 => (cmpD o1 x y st2).bind fun r st3 => match r with
    | .bl true => (fc ρ st3).bind fun z st4 => cmpD o2 y z st4
    | .bl false => .ok (.bl false) st3
    | _ => .bad
theorem R.bind_assoc {α β γ : Type} (r : R α) (f : α → Store → R β) (g : β → Store → R γ) : (r.bind f).bind g = r.bind fun a st => (f a st).bind g := by cases r <;> rfl
/-- an expression run, what it hands on -/
theorem se_step {f : Fx D} {e : Expr} (he : SE X C E f e) {γ δ : Type} {g : D → Store → R γ} {rel2 : Rel γ δ} {Q : δ → Hp → Prop} {pins : List (Addr × Obj)} {s : Shared} {σ : L2.St} {H : Hp} {S : Rp} {ρ : Env} {st : Store}
    (I : Inv X pins σ H s) (rp : Rep C S st H) (rn : REnv C S ρ σ) (q : Post C rel2 S H ((f ρ st).bind g) Q (E σ)) {P : Value → Shared → Prop}
    (kk : ∀ u s1 v H1 S1 st1 d, Inv X pins σ H1 s1 → RelV v u → Go S H S1 H1 → Rep C S1 st1 H1 → RV C S1 d v → Post C rel2 S1 H1 (g d st1) Q (E σ) → P u s1) : wpAny (model X.prog X.w) X.A (eval e X.env) P X.xe s := by
  refine thn (he.run pins s σ H (fun v H1 => ∃ S1 st1 d, Go S H S1 H1 ∧ Rep C S1 st1 H1 ∧ RV C S1 d v ∧ Post C rel2 S1 H1 (g d st1) Q (E σ)) I ⟨S, ρ, st, rp, rn, Post.bind (rel2 := rel2) q fun d st1 S1 H1 v g1 rp1 rv1 h1 => ⟨S1, st1, d, g1, rp1, rv1, h1⟩⟩) ?_
  rintro u s1 ⟨v, H1, I1, r1, S1, st1, d, g1, rp1, rv1, h1⟩
  exact kk u s1 v H1 S1 st1 d I1 r1 g1 rp1 rv1 h1
theorem os_step {f : Value → Value → Sem Value} {op : D → D → Store → R D} (ho : OpS X C E f op) {γ δ : Type} {g : D → Store → R γ} {rel2 : Rel γ δ} {Q : δ → Hp → Prop} {pins : List (Addr × Obj)} {s : Shared} {σ : L2.St} {H : Hp} {S : Rp} {st : Store} {a b : D} {x y : V} {v u : Value}
    (I : Inv X pins σ H s) (rx : RelV x v) (ry : RelV y u) (rp : Rep C S st H) (ra : RV C S a x) (rb : RV C S b y) (q : Post C rel2 S H ((op a b st).bind g) Q (E σ)) {P : Value → Shared → Prop}
    (kk : ∀ u s1 v H1 S1 st1 d, Inv X pins σ H1 s1 → RelV v u → Go S H S1 H1 → Rep C S1 st1 H1 → RV C S1 d v → Post C rel2 S1 H1 (g d st1) Q (E σ) → P u s1) : wpAny (model X.prog X.w) X.A (f v u) P X.xe s := by
  refine thn (ho pins s σ H x y v u (fun v H1 => ∃ S1 st1 d, Go S H S1 H1 ∧ Rep C S1 st1 H1 ∧ RV C S1 d v ∧ Post C rel2 S1 H1 (g d st1) Q (E σ)) S st a b I rx ry rp ra rb (Post.bind (rel2 := rel2) q fun d st1 S1 H1 v g1 rp1 rv1 h1 => ⟨S1, st1, d, g1, rp1, rv1, h1⟩)) ?_
  rintro u s1 ⟨v, H1, I1, r1, S1, st1, d, g1, rp1, rv1, h1⟩
  exact kk u s1 v H1 S1 st1 d I1 r1 g1 rp1 rv1 h1
theorem se_chain {a b c : Expr} {fa fb fc : Fx D} {o1 o2 : CmpOp} {pos : Pos} (hX : XOk X C k E) (ha : SE X C E fa a) (hb : SE X C E fb b) (hc : SE X C E fc c) (hm : lastMarks [o1, o2] [b, c] = false) :
    SE X C E (chainF o1 o2 fa fb fc) (.Compare a [o1, o2] [b, c] pos) := by
  refine ⟨fun pins s σ H Q I h => ?_⟩
  obtain ⟨S, ρ, st, rp, rn, h⟩ := h
  refine Compare_chain (se_step ha I rp rn (rel2 := rV C) h fun v s1 x H1 S1 st1 da I1 r1 g1 rp1 rv1 h1 => chain_link (se_step hb I1 rp1 (rn.mono g1.ext) h1 fun u s2 y H2 S2 st2 db I2 r2 g2 rp2 rv2 h2 =>
    os_step (os_cmp hX o1) I2 r1 r2 rp2 (RV.mono g2.ext rv1) rv2 h2 fun d s3 z H3 S3 st3 dr I3 r3 g3 rp3 rv3 h3 => ?_)) hm
  cases dr <;> first | exact Post.bad (C := C) h3 | skip
  case bl bb =>
    rw [rv_bl] at rv3; subst rv3
    cases r3
    refine wpAny_truthy_bool ?_
    cases bb with
    | false => exact ite_ff ⟨.bl false, H3, I3, rfl, post_same h3 rp3 (rv_bl.mpr rfl)⟩
    | true =>
      refine ite_tt (chain_last (se_step hc I3 rp3 (((rn.mono g1.ext).mono g2.ext).mono g3.ext) h3 fun w' s4 z' H4 S4 st4 dc I4 r4 g4 rp4 rv4 h4 => ?_))
      exact os_cmp hX o2 pins s4 σ H4 y z' u w' Q S4 st4 db dc I4 r2 r4 rp4 ((rv2.mono g3.ext).mono g4.ext) rv4 h4
theorem st_chain {a b c : Expr} {fa fb fc : Fx D} {o1 o2 : CmpOp} {pos : Pos} (hX : XOk X C k E) (ha : SE X C E fa a) (hb : SE X C E fb b) (hc : SE X C E fc c) (hm : lastMarks [o1, o2] [b, c] = false) :
    ST X C E (tst (chainF o1 o2 fa fb fc)) (.Compare a [o1, o2] [b, c] pos) := by
  refine ⟨fun pins s σ H Q I h => ?_⟩
  obtain ⟨S, ρ, st, rp, rn, h⟩ := h
  unfold tst chainF at h
  simp only [R.bind_assoc] at h
  refine isTrue_chain (se_step ha I rp rn (rel2 := rB) h fun v s1 x H1 S1 st1 da I1 r1 g1 rp1 rv1 h1 => test_link (se_step hb I1 rp1 (rn.mono g1.ext) h1 fun u s2 y H2 S2 st2 db I2 r2 g2 rp2 rv2 h2 =>
    os_step (os_cmp hX o1) I2 r1 r2 rp2 (RV.mono g2.ext rv1) rv2 h2 fun d s3 z H3 S3 st3 dr I3 r3 g3 rp3 rv3 h3 => ?_)) hm
  cases dr <;> first | exact Post.bad (C := C) h3 | skip
  case bl bb =>
    rw [rv_bl] at rv3; subst rv3
    cases r3
    refine wpAny_truthy_bool ?_
    cases bb with
    | false => exact ite_ff ⟨H3, I3, Post.end_ (C := C) (rel := rB) h3 (.refl S3 H3) rp3 rfl⟩
    | true =>
      simp only [R.bind_assoc] at h3
      refine ite_tt (test_last (se_step hc I3 rp3 (((rn.mono g1.ext).mono g2.ext).mono g3.ext) h3 fun w' s4 z' H4 S4 st4 dc I4 r4 g4 rp4 rv4 h4 => ?_))
      refine os_step (os_cmp hX o2) I4 r2 r4 rp4 ((rv2.mono g3.ext).mono g4.ext) rv4 h4 fun e s5 z5 H5 S5 st5 d5 I5 r5 g5 rp5 rv5 h5 => ?_
      cases t : truth st5 d5 with
      | none => rw [t] at h5; exact h5.bad
      | some b5 =>
        rw [t] at h5
        exact tru_ok pins s5 σ H5 z5 e Q I5 r5 ⟨b5, truth_rv hX.K rp5 rv5 t, Post.end_ (C := C) (rel := rB) h5 (.refl S5 H5) rp5 rfl⟩

/-! ### argument lists, displays -/
def nilF : Fx (List D) := fun _ st => .ok [] st
def consF (f : Fx D) (g : Fx (List D)) : Fx (List D) := fun ρ st => (f ρ st).bind fun x st1 => (g ρ st1).bind fun xs st2 => .ok (x :: xs) st2
theorem sa_nil : SA X C E nilF [] := PA.weak pa_nil fun σ H Q q => by
  obtain ⟨S, ρ, st, rp, rn, q⟩ := q
  exact Post.end_ (C := C) (rel := rVs C) q (.refl S H) rp .nil
theorem sa_cons {f : Fx D} {g : Fx (List D)} {e : Expr} {es : List Expr} (he : SE X C E f e) (hs : SA X C E g es) (hst : starEach (e :: es) X.env = (false, eval e X.env) :: starEach es X.env) : SA X C E (consF f g) (e :: es) :=
  PA.weak (pa_cons he hs hst) fun σ H Q q => by
    obtain ⟨S, ρ, st, rp, rn, q⟩ := q
    refine ⟨S, ρ, st, rp, rn, Post.bind (rel2 := rVs C) q fun d st1 S1 H1 v g1 rp1 rv1 h1 => ?_⟩
    refine ⟨S1, ρ, st1, rp1, rn.mono g1.ext, Post.bind (rel2 := rVs C) h1 fun ds st2 S2 H2 vs g2 rp2 rv2 h2 => ?_⟩
    exact Post.end_ (C := C) (rel := rVs C) h2 (.refl S2 H2) rp2 (.cons (RV.mono g2.ext rv1) rv2)
theorem se_tup {f : Fx (List D)} {es : List Expr} {x1 : Nat} {pos : Pos} (h : SA X C E f es) : SE X C E (fun ρ st => (f ρ st).bind fun xs st1 => mkT xs st1) (.Tuple es x1 pos) :=
  PE.weak (pe_tup h) fun σ H Q q => by
    obtain ⟨S, ρ, st, rp, rn, q⟩ := q
    refine ⟨S, ρ, st, rp, rn, Post.bind (rel2 := rV C) q fun ds st1 S1 H1 vs g1 rp1 rv1 h1 => ?_⟩
    have rv1 : RVs C S1 ds vs := rv1
    exact ⟨by rw [← rv1.length]; exact lim_line (mkT_len h1), fun p hp => tup_new (mkT_ok h1) rp1 rv1 hp⟩
theorem se_lst {f : Fx (List D)} {es : List Expr} {mu : Nat} {pos : Pos} (h : SA X C E f es) : SE X C E (fun ρ st => (f ρ st).bind fun xs st1 => mkL mu xs st1) (.List es pos) :=
  PE.weak (pe_lst h) fun σ H Q q => by
    obtain ⟨S, ρ, st, rp, rn, q⟩ := q
    refine ⟨S, ρ, st, rp, rn, Post.bind (rel2 := rV C) q fun ds st1 S1 H1 vs g1 rp1 rv1 h1 => ?_⟩
    have rv1 : RVs C S1 ds vs := rv1
    exact ⟨by rw [← rv1.length]; exact lim_line (mkL_len h1), fun p hp => mkL_post h1 rp1 rv1 hp⟩

/-! ### places -/
theorem atI_rv {S : Rp} {xs : List D} {vs : List V} {i : Int} {d : D} (h : RVs C S xs vs) (e : atI xs i = some d) : ∃ v, atI vs i = some v ∧ RV C S d v := by
  unfold atI at e ⊢
  rw [← h.length]
  cases z : ixN xs.length i with
  | none => rw [z] at e; cases e
  | some j =>
    rw [z] at e
    obtain ⟨v, h1, h2⟩ := h.get (i := j) e
    exact ⟨v, h1, h2⟩
def dctOf (st : Store) (d : D) : Bool := match look st d with
  | some (.dct _ _) => true
  | _ => false
theorem lookK_rv {S : Rp} {kk : Key} {d : D} : ∀ {kvs : List (Key × V)} {us : List D}, RVs C S us (kvs.map (·.2)) → lookK kk (kvs.map fun p => kD p.1) us = some d → ∃ v, valV kvs kk = some v ∧ RV C S d v
  | [], us, h, e => by cases us <;> cases e
  | p :: kvs, us, h, e => by
    obtain ⟨key, v0⟩ := p
    cases us with
    | nil => rw [RVs] at h; cases h
    | cons u us =>
      rw [List.map_cons, RVs] at h
      obtain ⟨v, r, h0, h1, h2⟩ := h
      injection h0 with h0 h0'
      subst h0 h0'
      have e' : (if kk = key then some u else lookK kk (kvs.map fun p => kD p.1) us) = some d := by
        cases key <;> exact e
      by_cases z : kk = key
      · rw [if_pos z] at e'
        cases e'
        exact ⟨v0, valV_pos z.symm, h1⟩
      · rw [if_neg z] at e'
        obtain ⟨v, q1, q2⟩ := lookK_rv h2 e'
        exact ⟨v, by rw [valV_neg (fun q => z q.symm)]; exact q1, q2⟩
theorem look_dct {S : Rp} {st : Store} {H : Hp} {d : D} {ks us : List D} {v : V} (r : Rep C S st H) (h : RV C S d v) (e : look st d = some (.dct ks us)) :
    ∃ (a : Addr) (kvs : List (Key × V)), v = .ref a ∧ H a = some (.dK kvs) ∧ ks = kvs.map (fun p => kD p.1) ∧ RVs C S us (kvs.map (·.2)) := by
  cases d with
  | cell n =>
    rw [look_cell] at e
    obtain ⟨a, rfl, ha⟩ := rv_cell.mp h
    cases q : st[n]? with
    | none => rw [q] at e; cases e
    | some mo =>
      rw [q] at e
      obtain ⟨a', o, h1, h2, h3, h4⟩ := r.at_ n mo q
      rw [ha] at h1; cases h1
      cases mo with
      | dct ks' us' =>
        cases e
        obtain ⟨kvs, rfl, h5, h6⟩ := h4
        exact ⟨a, kvs, rfl, h3, h5, h6⟩
      | lst xs => cases e
      | ins c ns vs => cases e
      | dn _ _ => cases e
  | dct ks' us' =>
    cases e
    obtain ⟨a, kvs, rfl, h1, h2, h3⟩ := rv_dct.mp h
    exact ⟨a, kvs, rfl, r.fz _ _ h1, h2, h3⟩
  | _ => cases e
theorem keyOf_rv {S : Rp} {d : D} {kk : Key} {v : V} (h : RV C S d v) (e : keyOf d = some kk) : v = kV kk := by
  cases d with
  | int i => cases e; exact rv_int.mp h
  | str x => cases e; exact rv_str.mp h
  | _ => cases e
theorem se_ix {a i : Expr} {fa fi : Fx D} {pos : Pos} (hX : XOk X C k E) (ha : SE X C E fa a) (hi : SE X C E fi i) (hs : ∀ o j, subscripted i false o j = operate [o, j] (getItem o j)) :
    SE X C E (fun ρ st => (fa ρ st).bind fun x st1 => (fi ρ st1).bind fun y st2 => ixD x y st2) (.Subscript a i pos) := by
  refine ⟨fun pins s σ H Q I h => ?_⟩
  refine Subscript_ (binT ha hi I (bin_read (K := fun x y H2 => ∃ S st da di, Rep C S st H2 ∧ RV C S da x ∧ RV C S di y ∧ Post C (rV C) S H2 (ixD da di st) Q (E σ)) h fun x y H2 S st da db h1 h2 h3 h4 => ⟨S, st, da, db, h1, h2, h3, h4⟩) fun v u s2 x y H2 I2 rx ry q => ?_)
  obtain ⟨S, st, da, di, rp, ra, ri, q⟩ := q
  have seq : rIx X.K x y H2 Q → wpAny (model X.prog X.w) X.A (subscriptTail a i v u) (EP X pins σ Q) X.xe s2 := fun z => ix_seq a i pins s2 σ H2 x y v u Q I2 rx ry z (hs _ _)
  unfold ixD at q
  cases z : look st da with
  | none => rw [z] at q; cases di <;> exact q.bad
  | some da' =>
    rw [z] at q
    cases da' with
    | tup xs =>
      cases di <;> first | exact Post.bad (C := C) q | skip
      case int j =>
        obtain ⟨d, e, q⟩ := post_ofO q
        obtain ⟨p, vs, rfl, h1, h2⟩ := look_tup rp ra z
        obtain ⟨w, e1, e2⟩ := atI_rv h2 e
        rw [← hX.K] at h1
        exact seq (.inr (.inl ⟨p, vs, j, w, rfl, rv_int.mp ri, sqT_mono rp.fz h1, e1, post_same q rp e2⟩))
    | lst xs =>
      cases di <;> first | exact Post.bad (C := C) q | skip
      case int j =>
        obtain ⟨d, e, q⟩ := post_ofO q
        obtain ⟨p, vs, rfl, h1, h2⟩ := look_lst rp ra z
        obtain ⟨w, e1, e2⟩ := atI_rv h2 e
        rw [← hX.K] at h1
        exact seq (.inl ⟨p, vs, j, w, rfl, rv_int.mp ri, h1, e1, post_same q rp e2⟩)
    | str t =>
      cases di <;> first | exact Post.bad (C := C) q | skip
      case int j =>
        obtain ⟨hl, q⟩ := post_ite q
        obtain ⟨d, e, q⟩ := post_ofO q
        rw [look_str z] at ra
        cases e3 : atI t.cps.toList j with
        | none => rw [e3] at e; cases e
        | some c =>
          rw [e3] at e; cases e
          exact seq (.inr (.inr ⟨t, j, c, rv_str.mp ra, rv_int.mp ri, lim_line hl, e3, post_same q rp (rv_str.mpr rfl)⟩))
    | dct ks us =>
      have q : Post C (rV C) S H2 (match keyOf di with | some q => ofO (lookK q ks us) st | none => .bad) Q (E σ) := by cases di <;> exact q
      cases e1 : keyOf di with
      | none => rw [e1] at q; exact q.bad
      | some kk =>
        rw [e1] at q
        obtain ⟨d, e, q'⟩ := post_ofO q
        obtain ⟨p, kvs, rfl, h1, h2, h3⟩ := look_dct rp ra z
        subst h2
        obtain ⟨w, e2, e3⟩ := lookK_rv h3 e
        have ey := keyOf_rv ri e1
        subst ey
        have gg := DGet.k (k := kk) h1
        rw [e2] at gg
        obtain rfl : v = Value.ref p := rx
        exact tail_any (dict_typeIs I2 gg) PySem.F.slot_dict_getitem.lookup (d_getItem (hu_of hX.room) I2 gg ry fun w' s3 I3 rw' => ⟨w, H2, I3, rw', post_same q' rp e3⟩) (hs _ _)
    | _ => cases di <;> exact q.bad

/-! ### slices -/
theorem cut_rv {S : Rp} {xs : List D} {vs : List V} (lo hi : Option Int) (h : RVs C S xs vs) : RVs C S (cutL xs lo hi) (cutV vs lo hi) := by
  unfold cutL cutV
  rw [h.length]
  exact (h.drop _).take _
def rP : Rel (Option Int) (Option Int) := fun _ _ a b => a = b
abbrev SO (X : Cx) (C : Kc) (E : L2.St → XK) (f : Fx (Option Int)) (e : Option Expr) : Prop := PO X e (tF C rP E f)
theorem so_none : SO X C E (fun _ st => .ok none st) none := ⟨fun pins s σ H Q I q => po_none.run pins s σ H Q I (by
  obtain ⟨S, ρ, st, rp, rn, q⟩ := q
  exact Post.end_ (C := C) (rel := rP) q (.refl S H) rp rfl)⟩
theorem so_some {f : Fx D} {e : Expr} (h : SE X C E f e) : SO X C E (partF f) (some e) := ⟨fun pins s σ H Q I q => (po_some h).run pins s σ H Q I (by
  obtain ⟨S, ρ, st, rp, rn, q⟩ := q
  refine ⟨S, ρ, st, rp, rn, Post.bind (rel2 := rP) q fun d st1 S1 H1 v g rp1 rv1 h1 => ?_⟩
  cases d <;> first | exact Post.bad (C := C) h1 | skip
  case int i => exact ⟨i, rv_int.mp rv1, Post.end_ (C := C) (rel := rP) h1 (.refl S1 H1) rp1 rfl⟩)⟩
def slcF (mu : Nat) (fa : Fx D) (fl fh : Fx (Option Int)) : Fx D := fun ρ st => (fa ρ st).bind fun x st1 => (fl ρ st1).bind fun l st2 => (fh ρ st2).bind fun h st3 => slcD mu x l h st3
theorem se_slc {mu : Nat} {a : Expr} {lo hi : Option Expr} {fa : Fx D} {fl fh : Fx (Option Int)} {pos p2 : Pos} (hX : XOk X C k E) (ha : SE X C E fa a) (hl : SO X C E fl lo) (hh : SO X C E fh hi) :
    SE X C E (slcF mu fa fl fh) (.Subscript a (.Slice lo hi none p2) pos) :=
  PE.weak (pe_slice (sl_list.or (sl_tupA.or sl_str)) ha hl hh) fun σ H Q q => by
    obtain ⟨S, ρ, st, rp, rn, q⟩ := q
    refine ⟨S, ρ, st, rp, rn, Post.bind (rel2 := rV C) q fun d st1 S1 H1 v g1 rp1 rv1 h1 => ?_⟩
    refine ⟨S1, ρ, st1, rp1, rn.mono g1.ext, Post.bind (rel2 := rV C) h1 fun l st2 S2 H2 l' g2 rp2 e2 h2 => ?_⟩
    cases e2
    refine ⟨S2, ρ, st2, rp2, (rn.mono g1.ext).mono g2.ext, Post.bind (rel2 := rV C) h2 fun h st3 S3 H3 h' g3 rp3 e3 q => ?_⟩
    cases e3
    have rv3 : RV C S3 d v := (RV.mono g2.ext rv1).mono g3.ext
    unfold slcD at q
    cases z : look st3 d with
    | none => rw [z] at q; exact q.bad
    | some d' =>
      rw [z] at q
      cases d' with
      | lst xs =>
        obtain ⟨p, vs, rfl, h1, h2⟩ := look_lst rp3 rv3 z
        rw [← hX.K] at h1
        exact .inl ⟨p, vs, rfl, h1, fun p' hp => mkL_post q rp3 (cut_rv l h h2) hp⟩
      | tup xs =>
        obtain ⟨p, vs, rfl, h1, h2⟩ := look_tup rp3 rv3 z
        have h1' := h1
        rw [← hX.K] at h1'
        refine .inr (.inl ⟨p, vs, rfl, sqT_mono rp3.fz h1', fun hw => ?_, fun hw p' hp => tup_new q rp3 (cut_rv l h h2) hp⟩)
        have e : cutL xs l h = xs := by
          unfold cutL
          rw [h2.length, hw.1, hw.2, ← h2.length, Nat.sub_zero, List.drop_zero, List.take_length]
        have q : Post C (rV C) S3 H3 (.ok (.tup (cutL xs l h)) st3) Q (E σ) := q
        rw [e] at q
        exact post_same q rp3 (rv_tup.mpr ⟨p, vs, rfl, h1, h2⟩)
      | str x =>
        obtain ⟨hl, q⟩ := post_ite q
        rw [look_str z] at rv3
        exact .inr (.inr ⟨x, rv_str.mp rv3, lim_line hl, post_same q rp3 (rv_str.mpr rfl)⟩)
      | _ => exact q.bad
theorem se_rev {mu : Nat} {e : Expr} {f : Fx D} {kk : Nat} {p1 p2 p3 pos : Pos} (hX : XOk X C k E) (h : SE X C E f e) :
    SE X C E (fun ρ st => (f ρ st).bind fun x st1 => revD mu x st1) (.Subscript e (.Slice none none (some (.UnaryOp .USub (.Constant (.int 1) kk p1) p2)) p3) pos) :=
  PE.weak (pe_revL h) fun σ H Q q => by
    obtain ⟨S, ρ, st, rp, rn, q⟩ := q
    refine ⟨S, ρ, st, rp, rn, Post.bind (rel2 := rV C) q fun d st1 S1 H1 v g1 rp1 rv1 q => ?_⟩
    unfold revD at q
    cases z : look st1 d with
    | none => rw [z] at q; exact q.bad
    | some d' =>
      rw [z] at q
      cases d' with
      | lst xs =>
        obtain ⟨p, vs, rfl, h1, h2⟩ := look_lst rp1 rv1 z
        rw [← hX.K] at h1
        exact ⟨p, vs, rfl, h1, fun p' hp => mkL_post q rp1 h2.reverse hp⟩
      | _ => exact q.bad

/-! ### built-in calls by values -/
def CallS (X : Cx) (C : Kc) (E : L2.St → XK) (f : Value) (op : List D → Store → R D) : Prop :=
  ∀ (pins : List (Addr × Obj)) (s : Shared) (σ : L2.St) (H : Hp) (vs : List V) (us : List Value) (Q : VK) (S : Rp) (st : Store) (as : List D), Inv X pins σ H s → Vals vs us →
    Rep C S st H → RVs C S as vs → Post C (rV C) S H (op as st) Q (E σ) → wpAny (model X.prog X.w) X.A (call f us) (EP X pins σ Q) X.xe s
theorem rvs1 {S : Rp} {a : D} {vs : List V} (h : RVs C S [a] vs) : ∃ v, vs = [v] ∧ RV C S a v := by
  rw [RVs] at h
  obtain ⟨v, r, rfl, h1, h2⟩ := h
  rw [RVs] at h2; subst h2
  exact ⟨v, rfl, h1⟩
theorem rvs2 {S : Rp} {a b : D} {vs : List V} (h : RVs C S [a, b] vs) : ∃ v w, vs = [v, w] ∧ RV C S a v ∧ RV C S b w := by
  rw [RVs] at h
  obtain ⟨v, r, rfl, h1, h2⟩ := h
  obtain ⟨w, rfl, h3⟩ := rvs1 h2
  exact ⟨v, w, rfl, h1, h3⟩
/-- a call of a built-in by its name -/
theorem se_prim {f : Fx (List D)} {op : List D → Store → R D} {x : Str} {p pos : Pos} {id : Value} {e : Expr} {es : List Expr} (hc : CallS X C E id op) (hid : ∃ n, id = .builtin n ∨ id = .type n) (hg : Gl X x) (hm : X.mg x = none) (hv : bootBuiltins x = some id)
    (ha : SA X C E f (e :: es)) (hn : x ≠ "__name__") (hdb : (x == ("__debug__" : Str)) = false) (he : starEach (e :: es) X.env = (false, eval e X.env) :: starEach es X.env) (hpl : (backTo pos (starEach es X.env)).any (·.1) = false) :
    SE X C E (fun ρ st => (f ρ st).bind fun as st1 => op as st1) (.Call (.Name x p) (e :: es) [] pos) := by
  refine ⟨fun pins s σ H Q I q => ?_⟩
  obtain ⟨S, ρ, st, rp, rn, q⟩ := q
  have run : wpAny (model X.prog X.w) X.A (spliced (backTo pos (starEach (e :: es) X.env))) (fun us s1 => wpAny (model X.prog X.w) X.A (call id us) (EP X pins σ Q) X.xe s1) X.xe s := by
    refine thn (ha.run pos pins s σ H (fun vs H1 => ∃ S1 st1 as, Rep C S1 st1 H1 ∧ RVs C S1 as vs ∧ Post C (rV C) S1 H1 (op as st1) Q (E σ)) I ⟨S, ρ, st, rp, rn, Post.bind (rel2 := rV C) q fun as st1 S1 H1 vs g1 rp1 rv1 h1 => ⟨S1, st1, as, rp1, rv1, h1⟩⟩) ?_
    rintro us s1 ⟨vs, H1, I1, r1, S1, st1, as, rp1, rv1, h1⟩
    exact hc pins s1 σ H1 vs us Q S1 st1 as I1 r1 rp1 rv1 h1
  refine wpAny_Call_Name_kw (ld_blt I hg hm hv ?_ hn hdb)
  obtain ⟨n, rfl | rfl⟩ := hid
  · exact PyProof.Rows.callWith_builtin1 run he hpl
  · exact PyProof.Rows.callWith_type1 run he hpl
end
end Px

/-! Px8: the built-ins. -/
namespace Px
open PySem PySem.Spec PyProof.Rows L2
section
variable {X : Cx} {C : Kc} {E E' : L2.St → XK} {k : Nat}

theorem one_arg {α : Type} {p : Prm} {mu : Nat} {as : List D} {st : Store} {rel : Rel D V} {S : Rp} {H : Hp} {Q : VK} {E : XK} (hp : p ≠ .max2 ∧ p ≠ .min2) (h : Post C (rV C) S H (primD mu p as st) Q E) : ∃ a, as = [a] := by
  cases as with
  | nil => cases p <;> exact Post.bad (C := C) h
  | cons a r =>
    cases r with
    | nil => exact ⟨a, rfl⟩
    | cons b r =>
      cases p <;> first
        | exact Post.bad (C := C) h
        | exact absurd rfl hp.1
        | exact absurd rfl hp.2
        | exact Post.bad (C := C) (by cases a <;> exact h)

theorem ps_len (hX : XOk X C k E) (mu : Nat) : CallS X C E' (.builtin "len") (primD mu .len) := by
  intro pins s σ H vs us Q S st as I r rp rv h
  obtain ⟨a, rfl⟩ := one_arg (α := Nat) (rel := rV C) ⟨by decide, by decide⟩ h
  obtain ⟨v, rfl, rv'⟩ := rvs1 rv
  clear rv
  have rv := rv'
  clear rv'
  obtain ⟨d, e, h⟩ := post_ofO (show Post C (rV C) S H (ofO ((lenD st a).map fun n => .int n) st) Q (E' σ) from h)
  cases z : lenD st a with
  | none => rw [z] at e; cases e
  | some n =>
    rw [z] at e; cases e
    have q := post_same h rp (rv_int.mpr rfl)
    unfold lenD at z
    cases y : look st a with
    | none => rw [y] at z; cases z
    | some a' =>
      rw [y] at z
      cases a' with
      | str x =>
        rw [look_str y] at rv
        have z : (if x.length ≤ lim then some x.length else none) = some n := z
        split at z
        · rename_i hl
          cases z
          rw [rv_str] at rv; subst rv
          exact call_len pins s σ H _ us Q I r ⟨_, _, rfl, ⟨lim_line hl, rfl⟩, q⟩
        · cases z
      | tup xs =>
        cases z
        obtain ⟨p, ws, rfl, h1, h2⟩ := look_tup rp rv y
        rw [← hX.K] at h1
        exact call_len pins s σ H _ us Q I r ⟨_, _, rfl, .inr ⟨ws, sqT_mono rp.fz h1, h2.length⟩, q⟩
      | lst xs =>
        cases z
        obtain ⟨p, ws, rfl, h1, h2⟩ := look_lst rp rv y
        rw [← hX.K] at h1
        exact call_len pins s σ H _ us Q I r ⟨_, _, rfl, .inl ⟨ws, h1, h2.length⟩, q⟩
      | dct ks us' =>
        cases z
        obtain ⟨p, kvs, rfl, h1, h2, h3⟩ := look_dct rp rv y
        subst h2
        rw [List.length_map] at q
        exact call_lenD pins s σ H _ us Q I r ⟨p, kvs, rfl, h1, q⟩
      | _ => cases z
theorem ps_abs (mu : Nat) : CallS X C E' (.builtin "abs") (primD mu .abs) := by
  intro pins s σ H vs us Q S st as I r rp rv h
  obtain ⟨a, rfl⟩ := one_arg (α := Nat) (rel := rV C) ⟨by decide, by decide⟩ h
  obtain ⟨v, rfl, rv'⟩ := rvs1 rv
  clear rv
  have rv := rv'
  clear rv'
  cases a <;> first | exact Post.bad (C := C) h | skip
  case int i =>
    rw [rv_int] at rv; subst rv
    exact call_abs pins s σ H _ us Q I r ⟨i, rfl, post_same h rp (rv_int.mpr rfl)⟩
theorem ps_int (mu : Nat) : CallS X C E' (.type "int") (primD mu .int) := by
  intro pins s σ H vs us Q S st as I r rp rv h
  obtain ⟨a, rfl⟩ := one_arg (α := Nat) (rel := rV C) ⟨by decide, by decide⟩ h
  obtain ⟨v, rfl, rv'⟩ := rvs1 rv
  clear rv
  have rv := rv'
  clear rv'
  cases a <;> first | exact Post.bad (C := C) h | skip
  case int i =>
    rw [rv_int] at rv; subst rv
    exact call_int1 pins s σ H _ us Q I r (.inl ⟨i, rfl, post_same h rp (rv_int.mpr rfl)⟩)
  case bl i =>
    rw [rv_bl] at rv; subst rv
    exact call_int1 pins s σ H _ us Q I r (.inr ⟨i, rfl, post_same h rp (rv_int.mpr rfl)⟩)
theorem ps_str (mu : Nat) : CallS X C E' (.type "str") (primD mu .str) := by
  intro pins s σ H vs us Q S st as I r rp rv h
  obtain ⟨a, rfl⟩ := one_arg (α := Nat) (rel := rV C) ⟨by decide, by decide⟩ h
  obtain ⟨v, rfl, rv'⟩ := rvs1 rv
  clear rv
  have rv := rv'
  clear rv'
  cases a <;> first | exact Post.bad (C := C) h | skip
  case int i =>
    rw [rv_int] at rv; subst rv
    obtain ⟨hl, h⟩ := post_ite h
    exact call_str_int pins s σ H _ us Q I r ⟨i, rfl, hl, post_same h rp (rv_str.mpr rfl)⟩
theorem ints_rv {S : Rp} : ∀ {xs : List D} {vs : List V} {ns : List Int}, RVs C S xs vs → intsOf xs = some ns → vs = ns.map V.int
  | [], vs, ns, h, e => by cases e; rw [RVs] at h; exact h
  | d :: ds, vs, ns, h, e => by
    rw [RVs] at h
    obtain ⟨v, r, rfl, h1, h2⟩ := h
    cases d with
    | int i =>
      have e : (intsOf ds).map (i :: ·) = some ns := e
      cases z : intsOf ds with
      | none => rw [z] at e; cases e
      | some ms =>
        rw [z] at e; cases e
        rw [rv_int.mp h1, ints_rv h2 z]; rfl
    | _ => cases e
theorem bls_rv {S : Rp} : ∀ {xs : List D} {vs : List V} {ns : List Bool}, RVs C S xs vs → blsOf xs = some ns → vs = ns.map V.bl
  | [], vs, ns, h, e => by cases e; rw [RVs] at h; exact h
  | d :: ds, vs, ns, h, e => by
    rw [RVs] at h
    obtain ⟨v, r, rfl, h1, h2⟩ := h
    cases d with
    | bl i =>
      have e : (blsOf ds).map (i :: ·) = some ns := e
      cases z : blsOf ds with
      | none => rw [z] at e; cases e
      | some ms =>
        rw [z] at e; cases e
        rw [rv_bl.mp h1, bls_rv h2 z]; rfl
    | _ => cases e
theorem ps_sum (hX : XOk X C k E) (mu : Nat) : CallS X C E' (.builtin "sum") (primD mu .sum) := by
  intro pins s σ H vs us Q S st as I r rp rv h
  obtain ⟨a, rfl⟩ := one_arg (α := Nat) (rel := rV C) ⟨by decide, by decide⟩ h
  obtain ⟨v, rfl, rv'⟩ := rvs1 rv
  clear rv
  have rv := rv'
  clear rv'
  have h : Post C (rV C) S H (match lstOf st a with | some xs => ofO ((intsOf xs).map fun ns => .int ns.sum) st | none => .bad) Q (E' σ) := h
  cases z : lstOf st a with
  | none => rw [z] at h; exact h.bad
  | some xs =>
    rw [z] at h
    obtain ⟨d, e, h⟩ := post_ofO h
    cases y : intsOf xs with
    | none => rw [y] at e; cases e
    | some ns =>
      rw [y] at e; cases e
      obtain ⟨p, ws, rfl, h1, h2⟩ := lstOf_some rp rv z
      rw [ints_rv h2 y, ← hX.K] at h1
      exact cr_sum hX.calm pins s σ H _ us Q I r ⟨p, ns, rfl, h1, post_same h rp (rv_int.mpr rfl)⟩
theorem ps_all (hX : XOk X C k E) (mu : Nat) : CallS X C E' (.builtin "all") (primD mu .all) := by
  intro pins s σ H vs us Q S st as I r rp rv h
  obtain ⟨a, rfl⟩ := one_arg (α := Nat) (rel := rV C) ⟨by decide, by decide⟩ h
  obtain ⟨v, rfl, rv'⟩ := rvs1 rv
  clear rv
  have rv := rv'
  clear rv'
  have h : Post C (rV C) S H (match lstOf st a with | some xs => ofO ((blsOf xs).map fun bs => .bl (bs.all id)) st | none => .bad) Q (E' σ) := h
  cases z : lstOf st a with
  | none => rw [z] at h; exact h.bad
  | some xs =>
    rw [z] at h
    obtain ⟨d, e, h⟩ := post_ofO h
    cases y : blsOf xs with
    | none => rw [y] at e; cases e
    | some ns =>
      rw [y] at e; cases e
      obtain ⟨p, ws, rfl, h1, h2⟩ := lstOf_some rp rv z
      rw [bls_rv h2 y, ← hX.K] at h1
      exact cr_all hX.calm pins s σ H _ us Q I r ⟨p, ns, rfl, h1, post_same h rp (rv_bl.mpr rfl)⟩
theorem ps_any (hX : XOk X C k E) (mu : Nat) : CallS X C E' (.builtin "any") (primD mu .any) := by
  intro pins s σ H vs us Q S st as I r rp rv h
  obtain ⟨a, rfl⟩ := one_arg (α := Nat) (rel := rV C) ⟨by decide, by decide⟩ h
  obtain ⟨v, rfl, rv'⟩ := rvs1 rv
  clear rv
  have rv := rv'
  clear rv'
  have h : Post C (rV C) S H (match lstOf st a with | some xs => ofO ((blsOf xs).map fun bs => .bl (bs.any id)) st | none => .bad) Q (E' σ) := h
  cases z : lstOf st a with
  | none => rw [z] at h; exact h.bad
  | some xs =>
    rw [z] at h
    obtain ⟨d, e, h⟩ := post_ofO h
    cases y : blsOf xs with
    | none => rw [y] at e; cases e
    | some ns =>
      rw [y] at e; cases e
      obtain ⟨p, ws, rfl, h1, h2⟩ := lstOf_some rp rv z
      rw [bls_rv h2 y, ← hX.K] at h1
      exact cr_any hX.calm pins s σ H _ us Q I r ⟨p, ns, rfl, h1, post_same h rp (rv_bl.mpr rfl)⟩
theorem ps_tuple (hX : XOk X C k E) (mu : Nat) : CallS X C E' (.type "tuple") (primD mu .tuple) := by
  intro pins s σ H vs us Q S st as I r rp rv h
  obtain ⟨a, rfl⟩ := one_arg (α := Nat) (rel := rV C) ⟨by decide, by decide⟩ h
  obtain ⟨v, rfl, rv'⟩ := rvs1 rv
  clear rv
  have rv := rv'
  clear rv'
  have h : Post C (rV C) S H (match look st a with | some (.lst xs) => mkT xs st | some (.tup xs) => .ok (.tup xs) st | _ => .bad) Q (E' σ) := h
  cases z : look st a with
  | none => rw [z] at h; exact h.bad
  | some a' =>
    rw [z] at h
    cases a' with
    | lst xs =>
      obtain ⟨p, ws, rfl, h1, h2⟩ := look_lst rp rv z
      rw [← hX.K] at h1
      exact call_tuple_of pins s σ H _ us Q I r ⟨p, ws, rfl, .inl ⟨h1, fun l hl => tup_new (mkT_ok h) rp h2 hl⟩⟩
    | tup xs =>
      obtain ⟨p, ws, rfl, h1, h2⟩ := look_tup rp rv z
      have h1' := h1
      rw [← hX.K] at h1'
      exact call_tuple_of pins s σ H _ us Q I r ⟨p, ws, rfl, .inr ⟨sqT_mono rp.fz h1', post_same h rp (rv_tup.mpr ⟨p, ws, rfl, h1, h2⟩)⟩⟩
    | _ => exact h.bad
theorem ps_list (hX : XOk X C k E) (mu : Nat) : CallS X C E' (.type "list") (primD mu .list) := by
  intro pins s σ H vs us Q S st as I r rp rv h
  obtain ⟨a, rfl⟩ := one_arg (α := Nat) (rel := rV C) ⟨by decide, by decide⟩ h
  obtain ⟨v, rfl, rv'⟩ := rvs1 rv
  clear rv
  have rv := rv'
  clear rv'
  have h : Post C (rV C) S H (match seqOf st a with | some xs => mkL mu xs st | none => .bad) Q (E' σ) := h
  unfold seqOf at h
  cases z : look st a with
  | none => rw [z] at h; exact h.bad
  | some a' =>
    rw [z] at h
    cases a' with
    | lst xs =>
      obtain ⟨p, ws, rfl, h1, h2⟩ := look_lst rp rv z
      rw [← hX.K] at h1
      exact call_list_of pins s σ H _ us Q I r ⟨p, ws, rfl, .inl h1, fun l hl => mkL_post h rp h2 hl⟩
    | tup xs =>
      obtain ⟨p, ws, rfl, h1, h2⟩ := look_tup rp rv z
      rw [← hX.K] at h1
      exact call_list_of pins s σ H _ us Q I r ⟨p, ws, rfl, .inr (sqT_mono rp.fz h1), fun l hl => mkL_post h rp h2 hl⟩
    | _ => exact h.bad
theorem ps_max2 (hX : XOk X C k E) (mu : Nat) : CallS X C E' (.builtin "max") (primD mu .max2) := by
  intro pins s σ H vs us Q S st as I r rp rv h
  rcases as with _ | ⟨a, _ | ⟨b, _ | ⟨c, t⟩⟩⟩
  · exact Post.bad (C := C) h
  · exact Post.bad (C := C) (by cases a <;> exact h)
  · cases a <;> first | exact Post.bad (C := C) h | skip
    case int i =>
      cases b <;> first | exact Post.bad (C := C) h | skip
      case int j =>
        obtain ⟨v, w, rfl, r1, r2⟩ := rvs2 rv
        rw [rv_int] at r1 r2; subst r1 r2
        exact call_max2 hX.calm pins s σ H _ us Q I r ⟨i, j, rfl, post_same h rp (rv_int.mpr rfl)⟩
  · exact Post.bad (C := C) (by cases a <;> (try cases b) <;> exact h)
theorem ps_min2 (hX : XOk X C k E) (mu : Nat) : CallS X C E' (.builtin "min") (primD mu .min2) := by
  intro pins s σ H vs us Q S st as I r rp rv h
  rcases as with _ | ⟨a, _ | ⟨b, _ | ⟨c, t⟩⟩⟩
  · exact Post.bad (C := C) h
  · exact Post.bad (C := C) (by cases a <;> exact h)
  · cases a <;> first | exact Post.bad (C := C) h | skip
    case int i =>
      cases b <;> first | exact Post.bad (C := C) h | skip
      case int j =>
        obtain ⟨v, w, rfl, r1, r2⟩ := rvs2 rv
        rw [rv_int] at r1 r2; subst r1 r2
        exact call_min2 hX.calm pins s σ H _ us Q I r ⟨i, j, rfl, post_same h rp (rv_int.mpr rfl)⟩
  · exact Post.bad (C := C) (by cases a <;> (try cases b) <;> exact h)

/-! ### repr -/
theorem ps_repr (hX : XOk X C k E) (mu : Nat) : CallS X C E' (.builtin "repr") (primD mu .repr) := by
  intro pins s σ H vs us Q S st as I r rp rv h
  obtain ⟨a, rfl⟩ := one_arg (α := Nat) (rel := rV C) ⟨by decide, by decide⟩ h
  obtain ⟨v, rfl, rv'⟩ := rvs1 rv
  clear rv
  have rv := rv'
  clear rv'
  have h : Post C (rV C) S H (match view st a with
    | some d => match d.py with
      | some q => if PyData.showable q && decide (q.depth ≤ 64) && decide (q.shown.length ≤ lim) then .ok (.str q.shown) st else .bad
      | none => .bad
    | none => .bad) Q (E' σ) := h
  cases z : view st a with
  | none => rw [z] at h; exact h.bad
  | some d =>
    rw [z] at h
    cases y : d.py with
    | none => simp only [y] at h; exact h.bad
    | some q =>
      simp only [y] at h
      obtain ⟨hl, h⟩ := post_ite h
      simp only [Bool.and_eq_true, decide_eq_true_eq] at hl
      obtain ⟨⟨l1, l2⟩, l3⟩ := hl
      have fin := post_same h rp (rv_str.mpr rfl)
      cases r with
      | cons r1 r2 =>
        cases r2
        rename_i u
        obtain ⟨as, hr, hm⟩ := reads_of I hX.K (sm_free hX I) (fun _ _ h => h) (view_rv rp rv z) y r1
        have un := hX.room.un
        cases hr with
        | none => exact P.repr_of_none ⟨.str _, H, I.tok _, ⟨_, rfl⟩, fin⟩
        | bool b => exact P.repr_of_bool ⟨.str _, H, I.tok _, ⟨_, rfl⟩, fin⟩
        | int i t =>
          refine P.repr_of_int ?_ ⟨.str _, H, I.tok _, ⟨_, rfl⟩, fin⟩
          have l1 : decide (i.natAbs.log2 < 1920) = true := by rw [PyData.showable] at l1; exact l1
          exact of_decide_eq_true l1
        | str x t =>
          refine P.repr_of_str (x := x) ⟨.str _, H, I.tok _, ⟨_, rfl⟩, fin⟩ ?_
          have l3 : (reprText x).length ≤ lim := by rw [PyData.shown] at l3; exact l3
          exact lim_line l3
        | list a1 a2 a3 a4 =>
          exact repr_of_reads' (.list a1 a2 a3 a4) l1 (fun _ => hm) hX.gd (by omega) (fun _ _ e => e) (fun h' u tk hk => ⟨.str _, H, I.kept (t' := tk) hk, ⟨_, rfl⟩, fin⟩) (lim_line l3)
        | tuple a1 a2 a3 a4 =>
          exact repr_of_reads' (.tuple a1 a2 a3 a4) l1 (fun _ => hm) hX.gd (by omega) (fun _ _ e => e) (fun h' u tk hk => ⟨.str _, H, I.kept (t' := tk) hk, ⟨_, rfl⟩, fin⟩) (lim_line l3)
        | dict a1 a2 a3 a4 a5 =>
          exact repr_of_reads' (.dict a1 a2 a3 a4 a5) l1 (fun _ => hm) hX.gd (by omega) (fun _ _ e => e) (fun h' u tk hk => ⟨.str _, H, I.kept (t' := tk) hk, ⟨_, rfl⟩, fin⟩) (lim_line l3)
end
end Px

/-! Px9: targets, what is walked, comprehensions. -/
namespace Px
open PySem PySem.Spec PyProof.Rows L2
section
variable {X : Cx} {C : Kc} {E E' : L2.St → XK} {k : Nat}

/-! ### targets -/
theorem REnv.set {S : Rp} {ρ : Env} {σ : L2.St} {i : Nat} {d : D} {v : V} (r : REnv C S ρ σ) (h : RV C S d v) : REnv C S (ρ.set i (some d)) (σ.set i (some v)) :=
  ⟨by rw [List.length_set, List.length_set]; exact r.len, fun j d' e => by
    by_cases z : i = j
    · subst z
      have hl : i < ρ.length := by
        have := (List.getElem?_eq_some_iff.mp e).1
        rwa [List.length_set] at this
      rw [List.getElem?_set_self hl] at e
      cases e
      exact ⟨v, by rw [List.getElem?_set_self (by rw [r.len]; exact hl)], h⟩
    · rw [List.getElem?_set_ne z] at e
      obtain ⟨w, h1, h2⟩ := r.at_ j d' e
      exact ⟨w, by rw [List.getElem?_set_ne z]; exact h1, h2⟩⟩
theorem REnv.unset {S : Rp} {ρ : Env} {σ : L2.St} {i : Nat} (r : REnv C S ρ σ) : REnv C S (ρ.set i none) (σ.set i none) :=
  ⟨by rw [List.length_set, List.length_set]; exact r.len, fun j d' e => by
    by_cases z : i = j
    · subst z
      have hl : i < ρ.length := by
        have := (List.getElem?_eq_some_iff.mp e).1
        rwa [List.length_set] at this
      rw [List.getElem?_set_self hl] at e
      cases e
    · rw [List.getElem?_set_ne z] at e
      obtain ⟨w, h1, h2⟩ := r.at_ j d' e
      exact ⟨w, by rw [List.getElem?_set_ne z]; exact h1, h2⟩⟩
theorem REnv.wipe {S : Rp} {ρ : Env} {σ : L2.St} (r : REnv C S ρ σ) : ∀ vs : List Nat, REnv C S (wipeE ρ vs) (L2.wipe σ vs)
  | [] => r
  | v :: vs => (REnv.wipe r vs).unset
def tTg (C : Kc) (t : Tg) : TG := fun v σ H Q => ∃ S ρ st d ρ', Rep C S st H ∧ REnv C S ρ σ ∧ RV C S d v ∧ setT t d ρ = some ρ' ∧ ∀ σ', REnv C S ρ' σ' → (∀ i, i ∉ slotsT t → σ'[i]? = σ[i]?) → Q σ' H
def tTgs (C : Kc) (t : List Tg) : TGs := fun vs σ H Q => ∃ S ρ st ds ρ', Rep C S st H ∧ REnv C S ρ σ ∧ RVs C S ds vs ∧ setTs t ds ρ = some ρ' ∧ ∀ σ', REnv C S ρ' σ' → (∀ i, i ∉ slotsTs t → σ'[i]? = σ[i]?) → Q σ' H
theorem PG.weak {e : Expr} {t t' : TG} (h : PG X e t) (kk : ∀ v σ H Q, t' v σ H Q → t v σ H Q) : PG X e t' := ⟨fun pins s σ H v u Q I r q => h.run pins s σ H v u Q I r (kk v σ H Q q)⟩
theorem PGs.weak {e : List Expr} {t t' : TGs} (h : PGs X e t) (kk : ∀ v σ H Q, t' v σ H Q → t v σ H Q) : PGs X e t' := ⟨fun pins s σ H v u Q I r q => h.run pins s σ H v u Q I r (kk v σ H Q q)⟩
theorem sg_name {i : Nat} {x : Str} {pos : Pos} (hN : X.N.Nodup) (hi : X.N[i]? = some x) (hx : Loc X.env.scope x) (hf : X.fn x = true ∨ X.env.scope.names.lookup x = some .local) : PG X (.Name x pos) (tTg C (.name i)) :=
  PG.weak (pg_name hN hi hx hf) fun v σ H Q q => by
    obtain ⟨S, ρ, st, d, ρ', rp, rn, rv, e, q⟩ := q
    rw [setT] at e
    cases e
    exact q _ (rn.set rv) fun j hj => List.getElem?_set_ne (fun e => hj (by rw [slotsT, e]; exact List.mem_singleton_self _))
theorem sgs_nil : PGs X [] (tTgs C []) := PGs.weak pgs_nil fun v σ H Q q => by
  obtain ⟨S, ρ, st, ds, ρ', rp, rn, rv, e, q⟩ := q
  cases ds with
  | nil =>
    rw [setTs] at e; cases e
    rw [RVs] at rv
    exact ⟨rv, q σ rn fun _ _ => rfl⟩
  | cons d ds => rw [setTs] at e; cases e
theorem sgs_cons {e : Expr} {es : List Expr} {t : Tg} {ts : List Tg} (h1 : PG X e (tTg C t)) (h2 : PGs X es (tTgs C ts)) (hs : (assignEach (e :: es) X.env).map (·.2) = assign e X.env :: (assignEach es X.env).map (·.2)) : PGs X (e :: es) (tTgs C (t :: ts)) :=
  PGs.weak (pgs_cons h1 h2 hs) fun vs σ H Q q => by
    obtain ⟨S, ρ, st, ds, ρ', rp, rn, rv, e, q⟩ := q
    cases ds with
    | nil => rw [setTs] at e; cases e
    | cons d ds =>
      rw [setTs] at e
      rw [RVs] at rv
      obtain ⟨v, r, rfl, r1, r2⟩ := rv
      cases z : setT t d ρ with
      | none => rw [z] at e; cases e
      | some ρ1 =>
        rw [z] at e
        refine ⟨v, r, rfl, S, ρ, st, d, ρ1, rp, rn, r1, z, fun σ1 rn1 k1 => ⟨S, ρ1, st, ds, ρ', rp, rn1, r2, e, fun σ2 rn2 k2 => q σ2 rn2 fun i hi => ?_⟩⟩
        rw [slotsTs, List.mem_append] at hi
        rw [k2 i (fun h => hi (.inr h)), k1 i (fun h => hi (.inl h))]
theorem setTs_len : ∀ {ts : List Tg} {ds : List D} {ρ ρ' : Env}, setTs ts ds ρ = some ρ' → ts.length = ds.length
  | [], [], _, _, _ => rfl
  | t :: ts, [], _, _, e => by rw [setTs] at e; cases e
  | [], d :: ds, _, _, e => by rw [setTs] at e; cases e
  | t :: ts, d :: ds, ρ, ρ', e => by
    rw [setTs] at e
    cases z : setT t d ρ with
    | none => rw [z] at e; cases e
    | some ρ1 => rw [z] at e; simp [setTs_len e]
theorem PG.or {e : Expr} {t t' : TG} (h : PG X e t) (h' : PG X e t') : PG X e (fun v σ H Q => t v σ H Q ∨ t' v σ H Q) := ⟨fun pins s σ H v u Q I r q => q.elim (h.run pins s σ H v u Q I r) (h'.run pins s σ H v u Q I r)⟩
theorem sg_tup {es : List Expr} {kk : Nat} {ts : List Tg} {pos : Pos} (hX : XOk X C k E) (h : PGs X es (tTgs C ts)) (hn : (assignEach es X.env).length = ts.length) (hst : (assignEach es X.env).findIdx? (·.1) = none) : PG X (.Tuple es kk pos) (tTg C (.tup ts)) :=
  PG.weak (PG.or (pg_tup hX.calm h hn hst) (pg_lst hX.calm h hn hst)) fun v σ H Q q => by
    obtain ⟨S, ρ, st, d, ρ', rp, rn, rv, e, q⟩ := q
    cases d with
    | lst ds =>
      rw [setT] at e
      obtain ⟨a, vs, rfl, h1, h2⟩ := rv_lst.mp rv
      exact .inr ⟨a, vs, rfl, .inl (.inl (rp.fz _ _ h1)), by rw [← h2.length, setTs_len e], S, ρ, st, ds, ρ', rp, rn, h2, e, fun σ' rn' k' => q σ' rn' fun i hi => k' i (by rw [slotsT] at hi; exact hi)⟩
    | tup ds =>
      rw [setT] at e
      obtain ⟨a, vs, rfl, h1, h2⟩ := rv_tup.mp rv
      rw [← hX.K] at h1
      exact .inl ⟨a, vs, rfl, sqT_mono rp.fz h1, by rw [← h2.length, setTs_len e], S, ρ, st, ds, ρ', rp, rn, h2, e, fun σ' rn' k' => q σ' rn' fun i hi => k' i (by rw [slotsT] at hi; exact hi)⟩
    | _ => rw [setT] at e <;> first | exact nomatch e | (intro ds h; exact nomatch h)

/-! ### what is walked -/
def ItOk (C : Kc) (J : L2.It) (S : Rp) (items : List D) (g : Option (Nat × List D)) : Prop := ∀ S' st' H', Ext S S' → Rep C S' st' H' → guardOk st' g →
  (∀ i, i < items.length → J.go i H') ∧ (∀ i, items.length ≤ i → J.stop i H') ∧ ∀ i x H'' d, items[i]? = some d → J.yld i H' x H'' → ∃ S'', Go S' H' S'' H'' ∧ Rep C S'' st' H'' ∧ RV C S'' d x
def rI (C : Kc) : Rel Walk L2.It := fun S st w J => guardOk st w.2 ∧ ItOk C J S w.1 w.2
abbrev SI (X : Cx) (C : Kc) (E : L2.St → XK) (f : Fx Walk) (tg e : Expr) : Prop := PI X tg e (tF C (rI C) E f)
theorem PI.weak {tg e : Expr} {t t' : TI} (h : PI X tg e t) (kk : ∀ σ H Q, t' σ H Q → t σ H Q) : PI X tg e t' := ⟨fun pins s σ H R I q => h.run pins s σ H R I (kk σ H R q)⟩
theorem PI.or {tg e : Expr} {t t' : TI} (h : PI X tg e t) (h' : PI X tg e t') : PI X tg e (fun σ H R => t σ H R ∨ t' σ H R) := ⟨fun pins s σ H R I q => q.elim (h.run pins s σ H R I) (h'.run pins s σ H R I)⟩
theorem it_list {S : Rp} {a : Addr} {xs : List D} {g : Option (Nat × List D)} (hd : ∀ S' st' H', Ext S S' → Rep C S' st' H' → guardOk st' g → ∃ vs, SqL C.K H' a vs ∧ RVs C S' xs vs) : ItOk C (Itl C.K a) S xs g := by
  intro S' st' H' ex rp hg
  obtain ⟨vs, h1, h2⟩ := hd S' st' H' ex rp hg
  refine ⟨fun i hi => ?_, fun i hi => ⟨vs, h1, by rw [← h2.length]; exact hi⟩, fun i x H'' d e y => ?_⟩
  · have hi' : i < vs.length := by rw [← h2.length]; exact hi
    exact ⟨vs, vs[i], h1, List.getElem?_eq_getElem hi'⟩
  · obtain ⟨rfl, f⟩ := y
    obtain ⟨v, e1, e2⟩ := h2.get e
    have := f vs h1
    rw [e1] at this; cases this
    exact ⟨S', .refl _ _, rp, e2⟩
theorem it_tup {S : Rp} {a : Addr} {xs : List D} {vs : List V} (h1 : SqT C.K S.G a vs) (h2 : RVs C S xs vs) : ItOk C (Itt C.K a) S xs none := by
  intro S' st' H' ex rp hg
  have h1 : SqT C.K H' a vs := sqT_mono rp.fz (sqT_mono ex.g h1)
  have h2 := RVs.mono ex h2
  refine ⟨fun i hi => ?_, fun i hi => ⟨vs, h1, by rw [← h2.length]; exact hi⟩, fun i x H'' d e y => ?_⟩
  · have hi' : i < vs.length := by rw [← h2.length]; exact hi
    exact ⟨vs, vs[i], h1, List.getElem?_eq_getElem hi'⟩
  · obtain ⟨rfl, f⟩ := y
    obtain ⟨v, e1, e2⟩ := h2.get e
    have := f vs h1
    rw [e1] at this; cases this
    exact ⟨S', .refl _ _, rp, e2⟩
theorem it_rng {S : Rp} {lo : Int} {n : Nat} : ItOk C (Itr lo n) S ((List.range n).map fun (k : Nat) => .int (lo + (k : Int))) none := by
  intro S' st' H' ex rp hg
  refine ⟨fun i hi => (by simpa using hi : i < n), fun i hi => (by simpa using hi : n ≤ i), fun i x H'' d e y => ?_⟩
  obtain ⟨rfl, rfl⟩ := y
  rw [List.getElem?_map] at e
  cases z : (List.range n)[i]? with
  | none => rw [z] at e; cases e
  | some j =>
    rw [z] at e; cases e
    rw [List.getElem?_eq_some_iff] at z
    obtain ⟨_, z⟩ := z
    rw [List.getElem_range] at z
    subst z
    exact ⟨S', .refl _ _, rp, rv_int.mpr rfl⟩
theorem it_str {S : Rp} {x : Str} : ItOk C (Its x) S (x.cps.toList.map fun c => .str ⟨#[c]⟩) none := by
  intro S' st' H' ex rp hg
  refine ⟨fun i hi => (by simpa using hi : i < x.cps.size), fun i hi => (by simpa using hi : x.cps.size ≤ i), fun i v H'' d e y => ?_⟩
  obtain ⟨rfl, c, y, rfl⟩ := y
  rw [List.getElem?_map] at e
  have : x.cps.toList[i]? = some c := by simpa using y
  rw [this] at e; cases e
  exact ⟨S', .refl _ _, rp, rv_str.mpr rfl⟩
theorem se_walk {f : Fx D} {tg e : Expr} (hX : XOk X C k E) (h : SE X C E f e) : SI X C E (fun ρ st => (f ρ st).bind fun x st1 => ofO (walkOf x st1) st1) tg e :=
  PI.weak (PI.or (pi_list h) (PI.or (pi_tup h) (pi_str h))) fun σ H RR q => by
    obtain ⟨S, ρ, st, rp, rn, q⟩ := q
    cases z : f ρ st with
    | bad => simp only [z, R.bind_bad] at q; exact Post.bad (C := C) (rel := rI C) q
    | ex c ns us st' =>
      simp only [z, R.bind_ex] at q
      exact .inl ⟨S, ρ, st, rp, rn, by rw [z]; exact q⟩
    | ok d st1 =>
      simp only [z, R.bind_ok] at q
      cases w : walkOf d st1 with
      | none => rw [w] at q; exact Post.bad (C := C) (rel := rI C) q
      | some ww =>
        rw [w] at q
        have q : Post C (rI C) S H (.ok ww st1) RR (E σ) := q
        have lists : ∀ xs : List D, ww.1 = xs → look st1 d = some (.lst xs) → (∀ S1 H1 v, Rep C S1 st1 H1 → RV C S1 d v → ∃ a, v = .ref a ∧ guardOk st1 ww.2 ∧ ∀ S' st' H', Ext S1 S' → Rep C S' st' H' → guardOk st' ww.2 → ∃ vs, SqL C.K H' a vs ∧ RVs C S' xs vs) → iList X.K (tF C (rV C) E f) σ H RR := fun xs e0 e1 kk => by
          refine ⟨S, ρ, st, rp, rn, ?_⟩
          rw [z]
          intro S1 H1 v g1 rp1 rv1
          obtain ⟨a, rfl, hg, hh⟩ := kk S1 H1 v rp1 rv1
          obtain ⟨a', vs, e2, h1, h2⟩ := look_lst rp1 rv1 e1
          cases e2
          rw [hX.K]
          exact ⟨a, rfl, ⟨vs, h1⟩, q S1 H1 _ g1 rp1 ⟨hg, by rw [e0]; exact it_list hh⟩⟩
        cases d with
        | lst xs =>
          cases w
          refine .inl (lists xs rfl rfl fun S1 H1 v rp1 rv1 => ?_)
          obtain ⟨a, vs, rfl, h1, h2⟩ := rv_lst.mp rv1
          exact ⟨a, rfl, trivial, fun S' st' H' ex rp' _ => ⟨vs, .inl (.inl (rp'.fz _ _ (ex.g _ _ h1))), h2.mono ex⟩⟩
        | lck xs =>
          cases w
          refine .inl (lists xs rfl rfl fun S1 H1 v rp1 rv1 => ?_)
          obtain ⟨a, vs, rfl, h1, h2⟩ := rv_lck.mp rv1
          exact ⟨a, rfl, trivial, fun S' st' H' ex rp' _ => ⟨vs, sqL_mono rp'.fz (sqL_mono ex.g h1), h2.mono ex⟩⟩
        | cell n =>
          have w : (match st1[n]? with | some (.lst xs) => some (xs, some (n, xs)) | _ => none) = some ww := w
          cases y : st1[n]? with
          | none => rw [y] at w; cases w
          | some mo =>
            rw [y] at w
            cases mo with
            | lst xs =>
              cases w
              refine .inl (lists xs rfl (by rw [look_cell, y]; rfl) fun S1 H1 v rp1 rv1 => ?_)
              obtain ⟨a, rfl, ha⟩ := rv_cell.mp rv1
              refine ⟨a, rfl, y, fun S' st' H' ex rp' hg => ?_⟩
              obtain ⟨a', o, e1, e2, e3, e4⟩ := rp'.at_ n _ hg
              rw [ex.at_ ha] at e1; cases e1
              obtain ⟨vs, rfl, e5⟩ := e4
              exact ⟨vs, .inl (.inl e3), e5⟩
            | dct _ _ => cases w
            | ins _ _ _ => cases w
            | dn _ _ => cases w
        | tup xs =>
          cases w
          refine .inr (.inl ⟨S, ρ, st, rp, rn, ?_⟩)
          rw [z]
          intro S1 H1 v g1 rp1 rv1
          obtain ⟨a, vs, rfl, h1, h2⟩ := rv_tup.mp rv1
          rw [hX.K]
          exact ⟨a, rfl, ⟨vs, sqT_mono rp1.fz h1⟩, q S1 H1 _ g1 rp1 ⟨trivial, it_tup h1 h2⟩⟩
        | str x =>
          cases w
          refine .inr (.inr ⟨S, ρ, st, rp, rn, ?_⟩)
          rw [z]
          intro S1 H1 v g1 rp1 rv1
          exact ⟨x, rv_str.mp rv1, q S1 H1 _ g1 rp1 ⟨trivial, it_str⟩⟩
        | _ => cases w

theorem ints1 {S : Rp} {as : List D} {vs : List V} {l : List D} (rv : RVs C S as vs) (e : rngOf as = some l) :
    (∃ j : Int, vs = [.int j] ∧ as = [.int j] ∧ -(2 ^ 62) ≤ j ∧ j < 2 ^ 62 ∧ l = (List.range j.toNat).map fun (k : Nat) => .int (k : Int)) ∨
    (∃ i j : Int, vs = [.int i, .int j] ∧ as = [.int i, .int j] ∧ (-(2 ^ 62) ≤ i ∧ i < 2 ^ 62 ∧ -(2 ^ 62) ≤ j ∧ j < 2 ^ 62) ∧ l = (List.range (j - i).toNat).map fun (k : Nat) => .int (i + (k : Int))) ∨
    (∃ i j : Int, vs = [.int i, .int j, .int (-1)] ∧ as = [.int i, .int j, .int (-1)] ∧ (-(2 ^ 61) ≤ i ∧ i < 2 ^ 61 ∧ -(2 ^ 61) ≤ j ∧ j < 2 ^ 61) ∧ l = (List.range (i - j).toNat).map fun (k : Nat) => .int (i - (k : Int))) := by
  unfold rngOf at e
  split at e
  · split at e
    · rename_i h
      cases e
      simp only [Bool.and_eq_true, decide_eq_true_eq] at h
      obtain ⟨v, rfl, r1⟩ := rvs1 rv
      exact .inl ⟨_, by rw [rv_int.mp r1], rfl, h.1, h.2, rfl⟩
    · cases e
  · split at e
    · rename_i h
      cases e
      simp only [Bool.and_eq_true, decide_eq_true_eq] at h
      obtain ⟨v, w, rfl, r1, r2⟩ := rvs2 rv
      exact .inr (.inl ⟨_, _, by rw [rv_int.mp r1, rv_int.mp r2], rfl, ⟨h.1.1.1, h.1.1.2, h.1.2, h.2⟩, rfl⟩)
    · cases e
  · split at e
    · rename_i h
      cases e
      simp only [Bool.and_eq_true, decide_eq_true_eq] at h
      rw [RVs] at rv
      obtain ⟨v, r, rfl, r1, r2⟩ := rv
      obtain ⟨w, x, rfl, r2, r3⟩ := rvs2 r2
      exact .inr (.inr ⟨_, _, by rw [rv_int.mp r1, rv_int.mp r2, rv_int.mp r3]; rfl, rfl, ⟨h.1.1.1, h.1.1.2, h.1.2, h.2⟩, rfl⟩)
    · cases e
  · cases e
def rngF (f : Fx (List D)) : Fx Walk := fun ρ st => (f ρ st).bind fun xs st1 => ofO ((rngOf xs).map fun l => (l, none)) st1
theorem post_ofW {S : Rp} {H : Hp} {o : Option Walk} {st : Store} {Q : L2.It → Hp → Prop} {E : XK} (h : Post C (rI C) S H (ofO o st) Q E) : ∃ d, o = some d ∧ Post C (rI C) S H (.ok d st) Q E := by
  cases o with
  | none => exact Post.bad (C := C) (rel := rI C) h
  | some d => exact ⟨d, rfl, h⟩
theorem rng_read {f : Fx (List D)} {σ : L2.St} {H : Hp} {RR : L2.It → Hp → Prop} {P : List V → Hp → Prop} (q : tF C (rI C) E (rngF f) σ H RR)
    (kk : ∀ vs H1 as l S st, RVs C S as vs → rngOf as = some l → Rep C S st H1 → Post C (rI C) S H1 (.ok (l, none) st) RR (E σ) → P vs H1) : tF C (rVs C) E f σ H P := by
  obtain ⟨S, ρ, st, rp, rn, q⟩ := q
  refine ⟨S, ρ, st, rp, rn, Post.bind (rel2 := rI C) q fun as st1 S1 H1 vs g1 rp1 rv1 h1 => ?_⟩
  obtain ⟨d, e, h1⟩ := post_ofW h1
  cases z : rngOf as with
  | none => rw [z] at e; cases e
  | some l =>
    rw [z] at e; cases e
    exact kk vs H1 as l S1 st1 rv1 z rp1 h1
theorem si_rng1 {f : Fx (List D)} {tg a : Expr} {p pos : Pos} (hg : Gl X "range") (hm : X.mg "range" = none) (ha : SA X C E f [a]) (hl : ∀ ρ st as st', f ρ st = .ok as st' → as.length = 1) (hs : starEach [a] X.env = [(false, eval a X.env)]) : SI X C E (rngF f) tg (.Call (.Name "range" p) [a] [] pos) :=
  PI.weak (pi_range1 hg hm ha hs) fun σ H RR q => by
    obtain ⟨S, ρ, st, rp, rn, q⟩ := q
    refine ⟨S, ρ, st, rp, rn, ?_⟩
    unfold rngF at q
    cases e : f ρ st with
    | bad => rw [e] at q; exact q
    | ex c ns us st' => rw [e] at q; exact q
    | ok as st1 =>
      rw [e] at q
      intro S1 H1 vs g1 rp1 rv1
      obtain ⟨d, e2, q⟩ := post_ofW (show Post C (rI C) S H (ofO ((rngOf as).map fun l => (l, none)) st1) RR (E σ) from q)
      cases z : rngOf as with
      | none => rw [z] at e2; cases e2
      | some l =>
        rw [z] at e2; cases e2
        have hlen := hl ρ st as st1 e
        rcases ints1 rv1 z with ⟨j, rfl, rfl, h1, h2, rfl⟩ | ⟨i, j, rfl, rfl, _, _⟩ | ⟨i, j, rfl, rfl, _, _⟩
        · refine ⟨j, rfl, h1, h2, q S1 H1 _ g1 rp1 ⟨trivial, ?_⟩⟩
          have := it_rng (C := C) (S := S1) (lo := 0) (n := j.toNat)
          simpa only [Int.zero_add] using this
        · cases hlen
        · cases hlen
theorem si_rng2 {f : Fx (List D)} {tg a b : Expr} {p pos : Pos} (hg : Gl X "range") (hm : X.mg "range" = none) (ha : SA X C E f [a, b]) (hl : ∀ ρ st as st', f ρ st = .ok as st' → as.length = 2) (hs : starEach [a, b] X.env = [(false, eval a X.env), (false, eval b X.env)]) (hs2 : starEach [b] X.env = [(false, eval b X.env)]) : SI X C E (rngF f) tg (.Call (.Name "range" p) [a, b] [] pos) :=
  PI.weak (pi_range2 hg hm ha hs hs2) fun σ H RR q => by
    obtain ⟨S, ρ, st, rp, rn, q⟩ := q
    refine ⟨S, ρ, st, rp, rn, ?_⟩
    unfold rngF at q
    cases e : f ρ st with
    | bad => rw [e] at q; exact q
    | ex c ns us st' => rw [e] at q; exact q
    | ok as st1 =>
      rw [e] at q
      intro S1 H1 vs g1 rp1 rv1
      obtain ⟨d, e2, q⟩ := post_ofW (show Post C (rI C) S H (ofO ((rngOf as).map fun l => (l, none)) st1) RR (E σ) from q)
      cases z : rngOf as with
      | none => rw [z] at e2; cases e2
      | some l =>
        rw [z] at e2; cases e2
        have hlen := hl ρ st as st1 e
        rcases ints1 rv1 z with ⟨j, rfl, rfl, h1, h2, rfl⟩ | ⟨i, j, rfl, rfl, h1, rfl⟩ | ⟨i, j, rfl, rfl, _, _⟩
        · cases hlen
        · exact ⟨i, j, rfl, h1, q S1 H1 _ g1 rp1 ⟨trivial, it_rng⟩⟩
        · cases hlen
theorem si_rng3 {f : Fx (List D)} {tg a b c : Expr} {p pos : Pos} (hg : Gl X "range") (hm : X.mg "range" = none) (ha : SA X C E f [a, b, c]) (hl : ∀ ρ st as st', f ρ st = .ok as st' → as.length = 3) (hs : starEach [a, b, c] X.env = (false, eval a X.env) :: starEach [b, c] X.env) (hpl : (backTo pos (starEach [b, c] X.env)).any (·.1) = false) : SI X C E (rngF f) tg (.Call (.Name "range" p) [a, b, c] [] pos) :=
  PI.weak (pi_range3 hg hm ha hs hpl) fun σ H RR q => by
    obtain ⟨S, ρ, st, rp, rn, q⟩ := q
    refine ⟨S, ρ, st, rp, rn, ?_⟩
    unfold rngF at q
    cases e : f ρ st with
    | bad => rw [e] at q; exact q
    | ex c ns us st' => rw [e] at q; exact q
    | ok as st1 =>
      rw [e] at q
      intro S1 H1 vs g1 rp1 rv1
      obtain ⟨d, e2, q⟩ := post_ofW (show Post C (rI C) S H (ofO ((rngOf as).map fun l => (l, none)) st1) RR (E σ) from q)
      cases z : rngOf as with
      | none => rw [z] at e2; cases e2
      | some l =>
        rw [z] at e2; cases e2
        have hlen := hl ρ st as st1 e
        rcases ints1 rv1 z with ⟨j, rfl, rfl, h1, h2, rfl⟩ | ⟨i, j, rfl, rfl, _, _⟩ | ⟨i, j, rfl, rfl, h1, rfl⟩
        · cases hlen
        · cases hlen
        · refine ⟨i, j, -1, (i - j).toNat, rfl, RgC.neg (by omega) (by omega) (by omega) (by omega), q S1 H1 _ g1 rp1 ⟨trivial, ?_⟩⟩
          intro S' st' H' ex rp' hg
          refine ⟨fun a ha => (by simpa using ha : a < (i - j).toNat), fun a ha => (by simpa using ha : (i - j).toNat ≤ a), fun a x H'' d e y => ?_⟩
          obtain ⟨rfl, rfl⟩ := y
          rw [List.getElem?_map] at e
          cases zz : (List.range (i - j).toNat)[a]? with
          | none => rw [zz] at e; cases e
          | some b =>
            rw [zz] at e; cases e
            rw [List.getElem?_eq_some_iff] at zz
            obtain ⟨_, zz⟩ := zz
            rw [List.getElem_range] at zz
            subst zz
            exact ⟨S', .refl _ _, rp', rv_int.mpr (congrArg V.int (by omega))⟩
theorem zip_get {α β : Type} {xs : List α} {ys : List β} {i : Nat} {p : α × β} (h : (xs.zip ys)[i]? = some p) : xs[i]? = some p.1 ∧ ys[i]? = some p.2 := by
  rw [List.getElem?_zip_eq_some] at h
  exact h
def zipF (f : Fx (List D)) : Fx Walk := fun ρ st => (f ρ st).bind fun xs st1 => ofO (zipOf xs) st1
theorem si_zip {f : Fx (List D)} {elts : List Expr} {kk : Nat} {a b : Expr} {p pos tpos : Pos} (hX : XOk X C k E) (hg : Gl X "zip") (hm : X.mg "zip" = none) (ha : SA X C E f [a, b]) (hs : starEach [a, b] X.env = (false, eval a X.env) :: starEach [b] X.env) (hpl : (backTo pos (starEach [b] X.env)).any (·.1) = false) :
    SI X C E (zipF f) (.Tuple elts kk tpos) (.Call (.Name "zip" p) [a, b] [] pos) :=
  PI.weak (RZ.pi_zipA hg hm ha hs hpl) fun σ H RR q => by
    obtain ⟨S, ρ, st, rp, rn, q⟩ := q
    refine ⟨S, ρ, st, rp, rn, Post.bind (rel2 := rI C) q fun as st1 S1 H1 vs g1 rp1 rv1 h1 => ?_⟩
    obtain ⟨d, e, h1⟩ := post_ofW h1
    unfold zipOf at e
    split at e
    · cases e
      obtain ⟨v, w, rfl, r1, r2⟩ := rvs2 rv1
      obtain ⟨l1, vs1, rfl, a1, a2⟩ := rv_lst.mp r1
      obtain ⟨l2, vs2, rfl, b1, b2⟩ := rv_lst.mp r2
      refine ⟨l1, l2, vs1, vs2, rfl, .inl ⟨.inl (.inl (rp1.fz _ _ a1)), .inl (.inl (rp1.fz _ _ b1)), h1.end_ (.refl _ _) rp1 ⟨trivial, ?_⟩⟩⟩
      intro S' st' H' ex rp' hgd
      have c1 : SqL X.K H' l1 vs1 := .inl (.inl (rp'.fz _ _ (ex.g _ _ a1)))
      have c2 : SqL X.K H' l2 vs2 := .inl (.inl (rp'.fz _ _ (ex.g _ _ b1)))
      have d1 := RVs.mono ex a2
      have d2 := RVs.mono ex b2
      refine ⟨fun i hi => ?_, fun i hi => ⟨vs1, vs2, c1, c2, ?_⟩, fun i x H'' d e y => ?_⟩
      · rw [List.length_map, List.length_zip, d1.length, d2.length] at hi
        exact ⟨vs1, vs2, vs1[i]'(by omega), vs2[i]'(by omega), c1, c2, List.getElem?_eq_getElem (by omega), List.getElem?_eq_getElem (by omega)⟩
      · rw [List.length_map, List.length_zip, d1.length, d2.length] at hi
        omega
      · obtain ⟨T, x1, x2, rfl, nT, rfl, f1, f2⟩ := y
        rw [List.getElem?_map] at e
        rename_i xs0 ys0 _
        cases zz : (List.zip xs0 ys0)[i]? with
        | none => rw [zz] at e; cases e
        | some pr =>
          rw [zz] at e; cases e
          obtain ⟨e1, e2⟩ := zip_get zz
          obtain ⟨y1, g1, g2⟩ := d1.get e1
          obtain ⟨y2, g3, g4⟩ := d2.get e2
          have q1 := f1 _ c1
          have q2 := f2 _ c2
          rw [g1] at q1; cases q1
          rw [g3] at q2; cases q2
          have hT := rp'.free nT
          refine ⟨S'.fz T (.tup [x1, x2]), Go.newF hT nT, rp'.newF nT, rv_tup.mpr ⟨T, _, rfl, .inl (.inl upd_same), ?_⟩⟩
          exact .cons (g2.mono (Ext.fz hT)) (.one (g4.mono (Ext.fz hT)))
    · cases e
      obtain ⟨v, w, rfl, r1, r2⟩ := rvs2 rv1
      obtain ⟨l1, vs1, rfl, a1, a2⟩ := rv_tup.mp r1
      obtain ⟨l2, vs2, rfl, b1, b2⟩ := rv_tup.mp r2
      rw [← hX.K] at a1 b1
      refine ⟨l1, l2, vs1, vs2, rfl, .inr ⟨sqT_mono rp1.fz a1, sqT_mono rp1.fz b1, h1.end_ (.refl _ _) rp1 ⟨trivial, ?_⟩⟩⟩
      intro S' st' H' ex rp' hgd
      have c1 : SqT X.K H' l1 vs1 := sqT_mono rp'.fz (sqT_mono ex.g a1)
      have c2 : SqT X.K H' l2 vs2 := sqT_mono rp'.fz (sqT_mono ex.g b1)
      have d1 := RVs.mono ex a2
      have d2 := RVs.mono ex b2
      refine ⟨fun i hi => ?_, fun i hi => ⟨vs1, vs2, c1, c2, ?_⟩, fun i x H'' d e y => ?_⟩
      · rw [List.length_map, List.length_zip, d1.length, d2.length] at hi
        exact ⟨vs1, vs2, vs1[i]'(by omega), vs2[i]'(by omega), c1, c2, List.getElem?_eq_getElem (by omega), List.getElem?_eq_getElem (by omega)⟩
      · rw [List.length_map, List.length_zip, d1.length, d2.length] at hi
        omega
      · obtain ⟨T, x1, x2, rfl, nT, rfl, f1, f2⟩ := y
        rw [List.getElem?_map] at e
        rename_i xs0 ys0 _
        cases zz : (List.zip xs0 ys0)[i]? with
        | none => rw [zz] at e; cases e
        | some pr =>
          rw [zz] at e; cases e
          obtain ⟨e1, e2⟩ := zip_get zz
          obtain ⟨y1, g1, g2⟩ := d1.get e1
          obtain ⟨y2, g3, g4⟩ := d2.get e2
          have q1 := f1 _ c1
          have q2 := f2 _ c2
          rw [g1] at q1; cases q1
          rw [g3] at q2; cases q2
          have hT := rp'.free nT
          refine ⟨S'.fz T (.tup [x1, x2]), Go.newF hT nT, rp'.newF nT, rv_tup.mpr ⟨T, _, rfl, .inl (.inl upd_same), ?_⟩⟩
          exact .cons (g2.mono (Ext.fz hT)) (.one (g4.mono (Ext.fz hT)))
    · cases e
end
end Px

/-! Px10: comprehensions. -/
namespace Px
open PySem PySem.Spec PyProof.Rows L2
section
variable {X : Cx} {C : Kc} {E E' : L2.St → XK} {k : Nat}

def EF : L2.St → XK := fun _ _ _ _ => False
theorem post_noEx {α β : Type} {rel : Rel α β} {S : Rp} {H : Hp} {r : R α} {Q : β → Hp → Prop} {E E' : XK} (h : Post C rel S H (noEx r) Q E) : Post C rel S H r Q E' := by
  cases r with
  | ok a st => exact h
  | ex c ns us st => exact h.bad
  | bad => exact h
/-- the same with what comes behind -/
theorem Post.bindN {α β γ δ : Type} {rel : Rel α β} {rel2 : Rel γ δ} {S : Rp} {H : Hp} {r : R α} {g : α → Store → R γ} {Q : δ → Hp → Prop} {E E' : XK} {Q1 : β → Hp → Prop}
    (h : Post C rel2 S H ((noEx r).bind g) Q E) (k : ∀ a st' S' H' b, Go S H S' H' → Rep C S' st' H' → rel S' st' a b → Post C rel2 S' H' (g a st') Q E → Q1 b H') : Post C rel S H r Q1 E' := by
  cases r with
  | ok a st' => exact fun S2 H2 b g2 rp rl => k a st' S2 H2 b g2 rp rl (Post.go (r := g a st') h g2)
  | ex c ns us st' => exact h.bad
  | bad => exact h
theorem xok_blk (hX : XOk X C k E) (s : Shared) (H : Hp) (scope : Scope) (cenv : PySem.Env) (fp : List Addr) : XOk (X.blk s H scope cenv fp) C k EF :=
  ⟨⟨hX.K, hX.nd, hX.room, hX.gd, fun u s' h => by
    obtain ⟨a, B, sI, pins, σ, H, cls, d, _, _, _, _, _, _, _, _, w⟩ := h
    exact w.elim, hX.sm⟩, hX.calm⟩
theorem wipe_off {σ σ' : L2.St} (hl : σ'.length = σ.length) : ∀ {vs : List Nat}, (∀ i, i ∉ vs → σ'[i]? = σ[i]?) → L2.wipe σ' vs = L2.wipe σ vs := by
  intro vs h
  have key : ∀ (σ : L2.St) (vs : List Nat) (i : Nat), (L2.wipe σ vs)[i]? = if i ∈ vs then (σ[i]?).map fun _ => none else σ[i]? := by
    intro σ vs
    induction vs with
    | nil => intro i; simp [L2.wipe]
    | cons v vs ih =>
      intro i
      unfold L2.wipe
      by_cases z : v = i
      · subst z
        rw [if_pos List.mem_cons_self]
        by_cases hv : v < σ.length
        · rw [List.getElem?_set_self (by rw [L2.wipe_length]; exact hv), List.getElem?_eq_getElem hv]; rfl
        · rw [List.getElem?_eq_none (by rw [List.length_set, L2.wipe_length]; omega), List.getElem?_eq_none (by omega)]; rfl
      · rw [List.getElem?_set_ne z, ih i]
        have : (i ∈ v :: vs) ↔ i ∈ vs := by simp [Ne.symm z]
        simp only [this]
  apply List.ext_getElem?
  intro i
  rw [key, key]
  by_cases z : i ∈ vs
  · rw [if_pos z, if_pos z]
    by_cases hi : i < σ.length
    · rw [List.getElem?_eq_getElem hi, List.getElem?_eq_getElem (by omega)]; rfl
    · rw [List.getElem?_eq_none (by omega), List.getElem?_eq_none (by omega)]
  · rw [if_neg z, if_neg z, h i z]
theorem wipe_wipe {σ : L2.St} (vs : List Nat) : L2.wipe (L2.wipe σ vs) vs = L2.wipe σ vs := by
  refine wipe_off (L2.wipe_length σ vs) fun i hi => ?_
  have : ∀ (vs : List Nat), i ∉ vs → (L2.wipe σ vs)[i]? = σ[i]? := by
    intro vs
    induction vs with
    | nil => intro _; rfl
    | cons v vs ih =>
      intro h
      unfold L2.wipe
      rw [List.getElem?_set_ne (fun e => h (by rw [e]; exact List.mem_cons_self))]
      exact ih fun q => h (List.mem_cons_of_mem _ q)
  exact this vs hi

/-- the list that is being made: known to nobody -/
structure Mine (S1 : Rp) (H1 : Hp) (S : Rp) (H : Hp) (L0 : Addr) (vs : List V) : Prop where
  go : Go S1 H1 S H
  at_ : H L0 = some (.lst vs)
  g : S.G L0 = none
  m : L0 ∉ S.m
theorem Mine.step {S1 S S' : Rp} {H1 H H' : Hp} {L0 : Addr} {vs : List V} (a : Mine S1 H1 S H L0 vs) (b : Go S H S' H') : Mine S1 H1 S' H' L0 vs :=
  ⟨a.go.trans b, b.frame _ _ a.at_ a.m, (by
    cases e : S'.G L0 with
    | none => rfl
    | some o =>
      rcases b.newG L0 o e with q | q
      · rw [a.g] at q; cases q
      · rw [a.at_] at q; cases q), fun hm => (by
      rcases b.newM L0 hm with q | q
      · exact a.m q
      · rw [a.at_] at q; cases q)⟩
theorem Mine.put {S1 S : Rp} {H1 H : Hp} {L0 : Addr} {vs ws : List V} (a : Mine S1 H1 S H L0 vs) (h1 : H1 L0 = none) : Mine S1 H1 S (upd H L0 (.lst ws)) L0 ws :=
  ⟨⟨a.go.ext, fun x o e hm => by rw [upd_ne (ne_of_none e h1)]; exact a.go.frame x o e hm, fun x e => by
      by_cases q : x = L0
      · subst q; exact h1
      · rw [upd_ne q] at e; exact a.go.dom x e, a.go.newG, a.go.newM⟩, upd_same, a.g, a.m⟩
theorem Rep.mine {S1 S : Rp} {st : Store} {H1 H : Hp} {L0 : Addr} {vs ws : List V} (r : Rep C S st H) (a : Mine S1 H1 S H L0 vs) : Rep C S st (upd H L0 (.lst ws)) :=
  ⟨fun x o e => by
    have : x ≠ L0 := fun q => by rw [q, a.g] at e; cases e
    rw [upd_ne this]; exact r.fz x o e, r.len, r.nd, fun n mo e => by
    obtain ⟨x, o, h1, h2, h3, h4⟩ := r.at_ n mo e
    have : x ≠ L0 := fun q => a.m (q ▸ List.mem_of_getElem? h1)
    exact ⟨x, o, h1, h2, by rw [upd_ne this]; exact h3, h4⟩⟩
theorem mine_end {S1 S : Rp} {st : Store} {H1 H : Hp} {L0 : Addr} {vs : List V} {acc : List D} {mu : Nat} {Q : VK} {E : XK} (r : Rep C S st H) (a : Mine S1 H1 S H L0 vs) (h1 : H1 L0 = none) (rv : RVs C S acc vs)
    (q : Post C (rV C) S1 H1 (mkL mu acc st) Q E) : Q (.ref L0) H := by
  have hl := mkL_len q
  unfold mkL at q
  rw [if_pos hl] at q
  by_cases z : mu = 0
  · rw [if_pos z] at q
    have ex : Ext S (S.fz L0 (.lst vs)) := Ext.fz a.g
    refine q (S.fz L0 (.lst vs)) H (.ref L0) ⟨a.go.ext.trans ex, a.go.frame, a.go.dom, fun x o e => ?_, a.go.newM⟩ ⟨fun x o e => ?_, r.len, r.nd, fun n mo e => ?_⟩ (rv_lst.mpr ⟨L0, vs, rfl, upd_same, rv.mono ex⟩)
    · by_cases y : x = L0
      · subst y; exact .inr h1
      · have e : upd S.G L0 (.lst vs) x = some o := e
        rw [upd_ne y] at e; exact a.go.newG x o e
    · by_cases y : x = L0
      · subst y
        have e : upd S.G x (.lst vs) x = some o := e
        rw [upd_same] at e; cases e; exact a.at_
      · have e : upd S.G L0 (.lst vs) x = some o := e
        rw [upd_ne y] at e; exact r.fz x o e
    · obtain ⟨x, o, q1, q2, q3, q4⟩ := r.at_ n mo e
      have : x ≠ L0 := fun y => a.m (y ▸ List.mem_of_getElem? q1)
      exact ⟨x, o, q1, by show upd S.G L0 (.lst vs) x = none; rw [upd_ne this]; exact q2, q3, q4.mono' ex.w⟩
  · rw [if_neg z] at q
    have ex : Ext S (S.cl L0) := Ext.cl
    refine q (S.cl L0) H (.ref L0) ⟨a.go.ext.trans ex, a.go.frame, a.go.dom, a.go.newG, fun x hm => ?_⟩ ⟨r.fz, ?_, ?_, fun n mo e => ?_⟩ (rv_cell.mpr ⟨L0, rfl, ?_⟩)
    · have hm : x ∈ S.m ++ [L0] := hm
      rw [List.mem_append] at hm
      rcases hm with y | y
      · exact a.go.newM x y
      · simp at y; subst y; exact .inr h1
    · show (S.m ++ [L0]).length = (st ++ [MO.lst acc]).length
      simp [r.len]
    · show (S.m ++ [L0]).Nodup
      rw [List.nodup_append]
      exact ⟨r.nd, by simp, fun x hx y hy => by simp at hy; subst hy; exact fun q => a.m (q ▸ hx)⟩
    · by_cases hn : n < st.length
      · rw [List.getElem?_append_left hn] at e
        obtain ⟨x, o, q1, q2, q3, q4⟩ := r.at_ n mo e
        exact ⟨x, o, ex.w.m _ _ q1, q2, q3, q4.mono' ex.w⟩
      · have hn' : n = st.length := by
          have := (List.getElem?_eq_some_iff.mp e).1
          simp at this; omega
        subst hn'
        rw [List.getElem?_append_right (Nat.le_refl _)] at e
        simp at e; subst e
        refine ⟨L0, _, ?_, a.g, a.at_, vs, rfl, rv.mono ex⟩
        show (S.m ++ [L0])[st.length]? = some L0
        rw [← r.len]; simp
    · show (S.m ++ [L0])[st.length]? = some L0
      rw [← r.len]; simp
noncomputable def compF (mu : Nat) (vs : List Nat) (tg : Tg) (it : Fx Walk) (t el : Fx D) : Fx D := fun ρ st => (it ρ st).bind fun w st1 => if w.1.length ≤ lim then
      (compLoop tg t el w.2 (wipeE ρ vs) w.1 [] st1).bind fun acc st2 => mkL mu acc st2
    else .bad
theorem comp_read {mu : Nat} {vs : List Nat} {tg : Tg} {it : Fx Walk} {t el : Fx D} (hv : ∀ i ∈ slotsT tg, i ∈ vs) {σ : L2.St} {H : Hp} {Q : VK} (q : tF C (rV C) E (compF mu vs tg it t el) σ H Q) :
    tLc (tF C (rI C) E it) (tTg C tg) (tF C rB EF (tst t)) (tF C (rV C) EF el) vs σ H Q := by
  obtain ⟨S, ρ, st, rp, rn, q⟩ := q
  refine ⟨S, ρ, st, rp, rn, Post.bind (rel2 := rV C) q fun w st1 S1 H1 J g1 rp1 hJ h1 => ?_⟩
  obtain ⟨hg, hJ⟩ := hJ
  obtain ⟨hlim, h1⟩ := post_ite h1
  intro L0 hL
  have rn1 : REnv C S1 (wipeE ρ vs) (L2.wipe σ vs) := (rn.mono g1.ext).wipe vs
  refine ⟨fun i m H' => ∃ S' st' acc av, m = w.1.length - i ∧ i ≤ w.1.length ∧ acc.length ≤ i ∧ guardOk st' w.2 ∧ Rep C S' st' H' ∧ Mine S1 H1 S' H' L0 av ∧ RVs C S' acc av ∧
    Post C (rV C) S1 H1 ((compLoop tg t el w.2 (wipeE ρ vs) (w.1.drop i) acc st').bind fun acc st2 => mkL mu acc st2) Q (E σ), ⟨_, S1, st1, [], [], rfl, Nat.zero_le _, Nat.le_refl _, hg, rp1.drop hL, ?_, .nil, by rw [List.drop_zero]; exact h1⟩, ?_⟩
  · exact ⟨Go.drop hL, upd_same, rp1.free hL, rp1.notin hL⟩
  rintro i m H' ⟨S', st', acc, av, rfl, hi, ha, hgd, rp', mi, ra, h'⟩
  obtain ⟨j1, j2, j3⟩ := hJ S' st' H' mi.go.ext rp' hgd
  by_cases hlt : i < w.1.length
  · refine .inr ⟨j1 i hlt, fun H2 => ∃ S' st' acc av, acc.length ≤ i + 1 ∧ guardOk st' w.2 ∧ Rep C S' st' H2 ∧ Mine S1 H1 S' H2 L0 av ∧ RVs C S' acc av ∧
        Post C (rV C) S1 H1 ((compLoop tg t el w.2 (wipeE ρ vs) (w.1.drop (i + 1)) acc st').bind fun acc st2 => mkL mu acc st2) Q (E σ),
      fun H2 ⟨S2, st2, acc2, av2, b1, b2, b3, b4, b5, b6⟩ => ⟨w.1.length - (i + 1), by omega, S2, st2, acc2, av2, rfl, by omega, b1, b2, b3, b4, b5, b6⟩, fun x H2 y => ?_⟩
    obtain ⟨S2, g2, rp2, rx⟩ := j3 i x H2 _ (List.getElem?_eq_getElem hlt) y
    rw [List.drop_eq_getElem_cons hlt] at h'
    unfold compLoop at h'
    cases es : setT tg w.1[i] (wipeE ρ vs) with
    | none => rw [es] at h'; exact h'.bad
    | some ρ' =>
      rw [es] at h'
      have rn2 := (rn1.mono mi.go.ext).mono g2.ext
      refine ⟨S2, wipeE ρ vs, st', _, ρ', rp2, rn2, rx, es, fun σ3 rn3 k3 => ⟨?_, ?_⟩⟩
      · have hl3 : σ3.length = (L2.wipe σ vs).length := by
          rw [rn2.len, rn3.len]
          have : ∀ (t : Tg) (d : D) (ρ ρ' : Env), setT t d ρ = some ρ' → ρ'.length = ρ.length := by
            intro t
            refine Tg.rec (motive_1 := fun t => ∀ (d : D) (ρ ρ' : Env), setT t d ρ = some ρ' → ρ'.length = ρ.length) (motive_2 := fun ts => ∀ (ds : List D) (ρ ρ' : Env), setTs ts ds ρ = some ρ' → ρ'.length = ρ.length) ?_ ?_ ?_ ?_ t
            · intro i d ρ ρ' e
              rw [setT] at e; cases e
              rw [List.length_set]
            · intro ts ih d ρ ρ' e
              cases d with
              | tup ds => rw [setT] at e; exact ih ds ρ ρ' e
              | lst ds => rw [setT] at e; exact ih ds ρ ρ' e
              | _ => rw [setT] at e <;> first | exact nomatch e | (intro ds h; exact nomatch h)
            · intro ds ρ ρ' e
              cases ds with
              | nil => rw [setTs] at e; cases e; rfl
              | cons d ds => rw [setTs] at e; cases e
            · intro t ts iht ihts ds ρ ρ' e
              cases ds with
              | nil => rw [setTs] at e; cases e
              | cons d ds =>
                rw [setTs] at e
                cases z : setT t d ρ with
                | none => rw [z] at e; cases e
                | some ρ1 =>
                  rw [z] at e
                  rw [ihts ds ρ1 ρ' e, iht d ρ ρ1 z]
          exact this _ _ _ _ es
        rw [wipe_off hl3 fun j hj => k3 j fun q => hj (hv j q), wipe_wipe]
      · have mi2 := mi.step g2
        simp only [R.bind_assoc] at h'
        refine ⟨S2, ρ', st', rp2, rn3, ?_⟩
        unfold tst
        cases z : t ρ' st' with
        | bad => rw [z] at h'; exact h'.bad
        | ex c ns us st2 => rw [z] at h'; exact h'.bad
        | ok d st2 =>
          rw [z] at h'
          simp only [noEx, R.bind_ok] at h' ⊢
          cases zt : truth st2 d with
          | none => rw [zt] at h'; exact h'.bad
          | some b =>
            rw [zt] at h'
            intro S4 H4 b' g4 rp4 eb
            cases eb
            have mi4 := mi2.step g4
            cases b with
            | false =>
              rw [if_neg Bool.false_ne_true]
              by_cases gg : guardOk st2 w.2
              · simp only [if_pos gg] at h'
                exact ⟨S4, st2, acc, av, by omega, gg, rp4, mi4, (ra.mono g2.ext).mono g4.ext, h'⟩
              · simp only [if_neg gg] at h'; exact h'.bad
            | true =>
              rw [if_pos rfl]
              refine ⟨S4, ρ', st2, rp4, rn3.mono g4.ext, ?_⟩
              cases y : el ρ' st2 with
              | bad => rw [y] at h'; exact h'.bad
              | ex c ns us st2 => rw [y] at h'; exact h'.bad
              | ok d5 st5 =>
                rw [y] at h'
                simp only [noEx, R.bind_ok] at h'
                intro S5 H5 yv g5 rp5 ry
                have mi5 := mi4.step g5
                by_cases gg : guardOk st5 w.2
                · simp only [if_pos gg] at h'
                  have ra5 := ((ra.mono g2.ext).mono g4.ext).mono g5.ext
                  exact ⟨av, mi5.at_, by rw [← ra5.length]; exact lim_lt (by omega), S5, st5, acc ++ [d5], av ++ [yv], by rw [List.length_append]; show acc.length + 1 ≤ i + 1; omega, gg, rp5.mine mi5, mi5.put hL, ra5.append (.one ry), h'⟩
                · simp only [if_neg gg] at h'; exact h'.bad
  · have he : i = w.1.length := by omega
    refine .inl ⟨j2 i (by omega), ?_⟩
    rw [he, List.drop_length] at h'
    exact mine_end rp' mi hL ra h'
/-- a comprehension with one for; tests -/
theorem se_comp {mu : Nat} {own : List (Str × Nat)} {tg : Tg} {fi : Fx Walk} {ft fe : Fx D} {elt te iter : Expr} {ifs : List Expr} {scope : Scope} {pos : Pos} (hX : XOk X C k E) (hi : SI X C E fi te iter) (ok : BlkOk X.N X.env.scope scope own)
    (hg : ∀ (s : Shared) (H : Hp) (A : Addr) (cl : List (Str × Addr)) (fp : List Addr), PG (X.blk s H scope (compEnvC scope cl A X.env) fp) te (tTg C tg))
    (ht : ∀ (s : Shared) (H : Hp) (A : Addr) (cl : List (Str × Addr)) (fp : List Addr), PTs (X.blk s H scope (compEnvC scope cl A X.env) fp) ifs (tF C rB EF (tst ft)))
    (he : ∀ (s : Shared) (H : Hp) (A : Addr) (cl : List (Str × Addr)) (fp : List Addr), SE (X.blk s H scope (compEnvC scope cl A X.env) fp) C EF fe elt)
    (hv : ∀ i ∈ slotsT tg, i ∈ own.map (·.2)) (hs : ∀ x, foldedSetIterable iter X.env x = pure x) :
    SE X C E (compF mu (own.map (·.2)) tg fi ft fe) (.ListComp elt [⟨te, iter, ifs, 0⟩] scope pos) :=
  PE.weak (pe_lc hX.calm hX.nd hi ok hg ht he hs) fun σ H Q q => comp_read hv q
theorem pts_true {E : L2.St → XK} : PTs X [] (tF C rB E (tst fun _ st => .ok (.bl true) st)) :=
  ⟨fun pins s σ H Q I q => pts_nil.run pins s σ H Q I (by
    obtain ⟨S, ρ, st, rp, rn, q⟩ := q
    exact Post.end_ (C := C) (rel := rB) q (.refl S H) rp rfl)⟩
end
end Px

/-! Px11: statements. -/
namespace Px
open PySem PySem.Spec PyProof.Rows L2

/-- where a statement ends -/
inductive F where
  | nx (ρ : Env) | rt (d : D) | bk (ρ : Env) | ct (ρ : Env)
  | xc (c : Str) (ns : List Str) (us : List D) (ρ : Env)
abbrev FS := Env → Store → R F
/-- an expression's value within a statement -/
def runE {α : Type} (f : Fx α) (g : α → Env → Store → R F) : FS := fun ρ st => match f ρ st with
  | .ok a st1 => g a ρ st1
  | .ex c ns us st1 => .ok (.xc c ns us ρ) st1
  | .bad => .bad
def seqF (f g : FS) : FS := fun ρ st => (f ρ st).bind fun x st1 => match x with
  | .nx ρ1 => g ρ1 st1
  | x => .ok x st1
open Classical in
noncomputable def forLoop (tg : Tg) (body : FS) (g : Option (Nat × List D)) : List D → FS
  | [], ρ, st => .ok (.nx ρ) st
  | x :: xs, ρ, st => match setT tg x ρ with
    | none => .bad
    | some ρ' => (body ρ' st).bind fun fl st1 => match fl with
      | .nx ρ1 => if guardOk st1 g then forLoop tg body g xs ρ1 st1 else .bad
      | .ct ρ1 => if guardOk st1 g then forLoop tg body g xs ρ1 st1 else .bad
      | .bk ρ1 => .ok (.nx ρ1) st1
      | x => .ok x st1
def whileLoop (t : Fx D) (body : FS) : Nat → FS
  | 0, _, _ => .bad
  | n + 1, ρ, st => runE (tst t) (fun b ρ st => if b then (body ρ st).bind fun fl st1 => match fl with
      | .nx ρ1 => whileLoop t body n ρ1 st1
      | .ct ρ1 => whileLoop t body n ρ1 st1
      | .bk ρ1 => .ok (.nx ρ1) st1
      | x => .ok x st1
    else .ok (.nx ρ) st) ρ st
section
variable {X : Cx} {C : Kc} {E E' : L2.St → XK} {k : Nat}

def PostS (C : Kc) (E : L2.St → XK) (D : Ends) (S : Rp) (H : Hp) (r : R F) : Prop := match r with
  | .ok f st' => ∀ S' H', Go S H S' H' → Rep C S' st' H' → (match f with
    | .nx ρ' => ∀ σ', REnv C S' ρ' σ' → D.nx σ' H'
    | .rt d => ∀ v, RV C S' d v → D.rt v H'
    | .bk ρ' => ∀ σ', REnv C S' ρ' σ' → D.bk σ' H'
    | .ct ρ' => ∀ σ', REnv C S' ρ' σ' → D.ct σ' H'
    | .xc c ns us ρ' => ∀ σ' cls dd, REnv C S' ρ' σ' → XR C S' c ns us cls dd → E σ' cls dd H')
  | .ex _ _ _ _ => False
  | .bad => False
theorem PostS.go {D : Ends} {S S' : Rp} {H H' : Hp} {r : R F} (h : PostS C E D S H r) (g : Go S H S' H') : PostS C E D S' H' r := by
  cases r with
  | ok f st' => exact fun S2 H2 g2 => h S2 H2 (g.trans g2)
  | ex c ns us st' => exact h
  | bad => exact h
def tS (C : Kc) (E : L2.St → XK) (f : FS) : TS := fun D σ H => ∃ S ρ st, Rep C S st H ∧ REnv C S ρ σ ∧ PostS C E D S H (f ρ st)
theorem PS.weak {s : Stmt} {t t' : TS} (h : PS X s t) (kk : ∀ D σ H, t' D σ H → t D σ H) : PS X s t' := ⟨fun pins s σ H D I q => h.run pins s σ H D I (kk D σ H q)⟩
theorem PSs.weak {s : List Stmt} {t t' : TS} (h : PSs X s t) (kk : ∀ D σ H, t' D σ H → t D σ H) : PSs X s t' := ⟨fun pins s σ H D I q => h.run pins s σ H D I (kk D σ H q)⟩
abbrev SS (X : Cx) (C : Kc) (E : L2.St → XK) (f : FS) (s : Stmt) : Prop := PS X s (tS C E f)
abbrev SSs (X : Cx) (C : Kc) (E : L2.St → XK) (f : FS) (s : List Stmt) : Prop := PSs X s (tS C E f)

/-- an expression within a statement -/
theorem runE_post {α β : Type} {rel : Rel α β} {f : Fx α} {g : α → Env → Store → R F} {D : Ends} {S : Rp} {H : Hp} {ρ : Env} {st : Store} {σ : L2.St} {Q : β → Hp → Prop} (rn : REnv C S ρ σ) (h : PostS C E D S H (runE f g ρ st))
    (kk : ∀ a st' S' H' b, Go S H S' H' → Rep C S' st' H' → rel S' st' a b → PostS C E D S' H' (g a ρ st') → Q b H') : Post C rel S H (f ρ st) Q (E σ) := by
  unfold runE at h
  cases e : f ρ st with
  | bad => rw [e] at h; exact h
  | ex c ns us st' =>
    rw [e] at h
    exact fun S' H' cls dd g1 rp xr => h S' H' g1 rp σ cls dd (rn.mono g1.ext) xr
  | ok a st' =>
    rw [e] at h
    exact fun S' H' b g1 rp rl => kk a st' S' H' b g1 rp rl (PostS.go h g1)
theorem PostS.bind {D D' : Ends} {S : Rp} {H : Hp} {r : R F} {g : F → Store → R F} (h : PostS C E D S H (r.bind g))
    (kk : ∀ x st' S' H', Go S H S' H' → Rep C S' st' H' → PostS C E D S' H' (g x st') → (match x with
      | .nx ρ' => ∀ σ', REnv C S' ρ' σ' → D'.nx σ' H'
      | .rt d => ∀ v, RV C S' d v → D'.rt v H'
      | .bk ρ' => ∀ σ', REnv C S' ρ' σ' → D'.bk σ' H'
      | .ct ρ' => ∀ σ', REnv C S' ρ' σ' → D'.ct σ' H'
      | .xc c ns us ρ' => ∀ σ' cls dd, REnv C S' ρ' σ' → XR C S' c ns us cls dd → E σ' cls dd H')) : PostS C E D' S H r := by
  cases r with
  | ok x st' => exact fun S' H' g1 rp => kk x st' S' H' g1 rp (PostS.go (r := g x st') h g1)
  | ex c ns us st' => exact h
  | bad => exact h
theorem PostS.bad {D : Ends} {S : Rp} {H : Hp} {P : Prop} (h : PostS C E D S H .bad) : P := h.elim
theorem postS_nx {D : Ends} {S : Rp} {H : Hp} {ρ : Env} {st : Store} {σ : L2.St} (h : PostS C E D S H (.ok (.nx ρ) st)) (rp : Rep C S st H) (rn : REnv C S ρ σ) : D.nx σ H := h S H (.refl _ _) rp σ rn
theorem postS_rt {S : Rp} {H : Hp} {d : D} {st : Store} {v : V} {De : Ends} (h : PostS C E De S H (.ok (.rt d) st)) (rp : Rep C S st H) (rv : RV C S d v) : De.rt v H := h S H (.refl _ _) rp v rv

def nilS : FS := fun ρ st => .ok (.nx ρ) st
theorem ss_nil : SSs X C E nilS [] := PSs.weak pss_nil fun D σ H ⟨S, ρ, st, rp, rn, h⟩ => postS_nx h rp rn
theorem ss_cons {f g : FS} {s : Stmt} {r : List Stmt} (h1 : SS X C E f s) (h2 : SSs X C E g r) : SSs X C E (seqF f g) (s :: r) :=
  PSs.weak (pss_cons h1 h2) fun D σ H ⟨S, ρ, st, rp, rn, h⟩ => ⟨S, ρ, st, rp, rn, PostS.bind h fun x st' S' H' g1 rp' hx => by
    cases x with
    | nx ρ' => exact fun σ' rn' => ⟨S', ρ', st', rp', rn', hx⟩
    | rt d => exact hx S' H' (.refl _ _) rp'
    | bk ρ' => exact hx S' H' (.refl _ _) rp'
    | ct ρ' => exact hx S' H' (.refl _ _) rp'
    | xc c ns us ρ' => exact hx S' H' (.refl _ _) rp'⟩
theorem ss_pass {pos : Pos} : SS X C E nilS (.Pass pos) := PS.weak ps_pass fun D σ H ⟨S, ρ, st, rp, rn, h⟩ => postS_nx h rp rn
theorem ss_doc {x : Str} {j : Nat} {pos pos' : Pos} : SS X C E nilS (.Expr (.Constant (.str x) j pos) pos') := PS.weak ps_doc fun D σ H ⟨S, ρ, st, rp, rn, h⟩ => postS_nx h rp rn
theorem ss_brk {pos : Pos} : SS X C E (fun ρ st => .ok (.bk ρ) st) (.Break pos) := PS.weak ps_break fun D σ H ⟨S, ρ, st, rp, rn, h⟩ => h S H (.refl _ _) rp σ rn
theorem ss_cnt {pos : Pos} : SS X C E (fun ρ st => .ok (.ct ρ) st) (.Continue pos) := PS.weak ps_continue fun D σ H ⟨S, ρ, st, rp, rn, h⟩ => h S H (.refl _ _) rp σ rn
theorem ss_exp {f : Fx D} {e : Expr} {pos : Pos} (he : SE X C E f e) (hs : swapsWith e none pos.line X.env = pure false) : SS X C E (runE f fun _ ρ st => .ok (.nx ρ) st) (.Expr e pos) :=
  PS.weak (ps_expr he hs) fun D σ H ⟨S, ρ, st, rp, rn, h⟩ => ⟨S, ρ, st, rp, rn, runE_post rn h fun d st' S' H' v g1 rp' rv h' => postS_nx h' rp' (rn.mono g1.ext)⟩
theorem ss_ret {f : Fx D} {e : Expr} {pos : Pos} (he : SE X C E f e) : SS X C E (runE f fun d _ st => .ok (.rt d) st) (.Return (some e) pos) :=
  PS.weak (ps_ret he) fun D σ H ⟨S, ρ, st, rp, rn, h⟩ => ⟨S, ρ, st, rp, rn, runE_post rn h fun d st' S' H' v g1 rp' rv h' => postS_rt h' rp' rv⟩
theorem ss_retN {pos : Pos} : SS X C E (fun _ st => .ok (.rt .non) st) (.Return none pos) :=
  PS.weak ps_retN fun D σ H ⟨S, ρ, st, rp, rn, h⟩ => postS_rt h rp (rv_non.mpr rfl)
def ifS (t : Fx D) (a b : FS) : FS := runE (tst t) fun c ρ st => if c then a ρ st else b ρ st
theorem ss_if {t : Fx D} {fa fb : FS} {c : Expr} {a b : List Stmt} {pos : Pos} (hc : ST X C E (tst t) c) (ha : SSs X C E fa a) (hb : SSs X C E fb b) : SS X C E (ifS t fa fb) (.If c a b pos) :=
  PS.weak (ps_if hc ha hb) fun D σ H ⟨S, ρ, st, rp, rn, h⟩ => ⟨S, ρ, st, rp, rn, runE_post rn h fun c st' S' H' b g1 rp' e h' => by
    cases e
    cases c with
    | true => rw [if_pos rfl] at h' ⊢; exact ⟨S', ρ, st', rp', rn.mono g1.ext, h'⟩
    | false => rw [if_neg Bool.false_ne_true] at h' ⊢; exact ⟨S', ρ, st', rp', rn.mono g1.ext, h'⟩⟩
def asgF (t : Tg) (f : Fx D) : FS := runE f fun d ρ st => match setT t d ρ with
  | some ρ' => .ok (.nx ρ') st
  | none => .bad
theorem asg_read {t : Tg} {f : Fx D} {D : Ends} {σ : L2.St} {H : Hp} (h : tS C E (asgF t f) D σ H) : tF C (rV C) E f σ H fun v H' => tTg C t v σ H' D.nx := by
  obtain ⟨S, ρ, st, rp, rn, h⟩ := h
  refine ⟨S, ρ, st, rp, rn, runE_post rn h fun d st' S' H' v g1 rp' rv h' => ?_⟩
  cases e : setT t d ρ with
  | none => rw [e] at h'; exact h'.bad
  | some ρ' =>
    rw [e] at h'
    exact ⟨S', ρ, st', d, ρ', rp', rn.mono g1.ext, rv, e, fun σ' rn' _ => postS_nx h' rp' rn'⟩
theorem ss_asg {f : Fx D} {t : Tg} {tg e : Expr} {pos : Pos} (he : SE X C E f e) (hg : PG X tg (tTg C t)) (hs : swapsWithSole [tg] e pos.line X.env = pure false) (hw : swappedStores [tg] e X.env = pure none) (h1 : (assignEach [tg] X.env).map (·.2) = [assign tg X.env]) :
    SS X C E (asgF t f) (.Assign [tg] e pos) := PS.weak (ps_asg he hg hs hw h1) fun D σ H h => asg_read h
/-- x = [..] -/
theorem ss_asgLc {mu i : Nat} {y : Str} {py : Pos} {own : List (Str × Nat)} {tg : Tg} {fi : Fx Walk} {ft fe : Fx D} {elt te iter : Expr} {ifs : List Expr} {scope : Scope} {pos spos : Pos} (hX : XOk X C k E) (hy : X.N[i]? = some y) (hyl : X.env.scope.names.lookup y = some .local)
    (hsw : swapsWith (.ListComp elt [⟨te, iter, ifs, 0⟩] scope pos) (some (.Name y py)) spos.line X.env = pure true) (hi : SI X C E fi te iter) (ok : BlkOk X.N X.env.scope scope own)
    (hg : ∀ (s : Shared) (H : Hp) (A : Addr) (cl : List (Str × Addr)) (fp : List Addr), PG (X.blk s H scope (compEnvC scope cl A X.env) fp) te (tTg C tg))
    (ht : ∀ (s : Shared) (H : Hp) (A : Addr) (cl : List (Str × Addr)) (fp : List Addr), PTs (X.blk s H scope (compEnvC scope cl A X.env) fp) ifs (tF C rB EF (tst ft)))
    (he : ∀ (s : Shared) (H : Hp) (A : Addr) (cl : List (Str × Addr)) (fp : List Addr), SE (X.blk s H scope (compEnvC scope cl A X.env) fp) C EF fe elt)
    (hv : ∀ i ∈ slotsT tg, i ∈ own.map (·.2)) (hs : ∀ x, foldedSetIterable iter X.env x = pure x) :
    SS X C E (asgF (.name i) (compF mu (own.map (·.2)) tg fi ft fe)) (.Assign [.Name y py] (.ListComp elt [⟨te, iter, ifs, 0⟩] scope pos) spos) :=
  PS.weak (ps_setLc hX.calm hX.nd hy hyl hsw hi ok hg ht he hs) fun D σ H h => comp_read (Q := fun v H' => gName i v σ H' D.nx) hv (by
    have h := asg_read h
    obtain ⟨S, ρ, st, rp, rn, h⟩ := h
    refine ⟨S, ρ, st, rp, rn, ?_⟩
    cases e : compF mu (own.map (·.2)) tg fi ft fe ρ st with
    | bad => rw [e] at h; exact h
    | ex c ns us st' => rw [e] at h; exact h
    | ok d st' =>
      rw [e] at h
      intro S' H' v g1 rp1 rv1
      obtain ⟨S2, ρ2, st2, d2, ρ3, rp2, rn2, rv2, e2, q2⟩ := h S' H' v g1 rp1 rv1
      rw [setT] at e2; cases e2
      exact q2 _ (rn2.set rv2) fun j hj => List.getElem?_set_ne (fun e => hj (by rw [slotsT, e]; exact List.mem_singleton_self _)))
def parF (i j : Nat) (f : Fx (List D)) : FS := runE f fun ds ρ st => match ds with
  | [a, b] => .ok (.nx ((ρ.set i (some a)).set j (some b))) st
  | _ => .bad
theorem ss_par {i j : Nat} {x y : Str} {a b : Expr} {f : Fx (List D)} {px py pt pos pt2 : Pos} {kt k2 : Nat} (hX : XOk X C k E) (hi : X.N[i]? = some x) (hj : X.N[j]? = some y) (hij : i ≠ j)
    (hx : X.env.scope.names.lookup x = some .local) (hy : X.env.scope.names.lookup y = some .local) (ha : SA X C E f [a, b])
    (hw : swappedStores [.Tuple [.Name x px, .Name y py] kt pt] (.Tuple [a, b] k2 pt2) X.env = pure (some [x, y]))
    (hs : swapsWithSole [.Tuple [.Name x px, .Name y py] kt pt] (.Tuple [a, b] k2 pt2) pos.line X.env = pure false) :
    SS X C E (parF i j f) (.Assign [.Tuple [.Name x px, .Name y py] kt pt] (.Tuple [a, b] k2 pt2) pos) :=
  PS.weak (ps_par hX.calm hX.nd hi hj hij hx hy ha hw hs) fun D σ H ⟨S, ρ, st, rp, rn, h⟩ => ⟨S, ρ, st, rp, rn, runE_post rn h fun ds st' S' H' vs g1 rp' rv h' => by
    have rv : RVs C S' ds vs := rv
    rcases ds with _ | ⟨d1, _ | ⟨d2, _ | ⟨d3, t⟩⟩⟩ <;> first | exact PostS.bad h' | skip
    obtain ⟨v, w, rfl, r1, r2⟩ := rvs2 rv
    exact ⟨v, w, rfl, postS_nx h' rp' (((rn.mono g1.ext).set r1).set r2)⟩⟩

/-! ### loops -/
/-- the walk of a context that may loop -/
theorem ss_while {t : Fx D} {fb : FS} {c : Expr} {body : List Stmt} {pos : Pos} (n : Nat) (hp : PassesOwn (model X.prog X.w) X.A X.env X.xe) (hc : ST X C E (tst t) c) (hb : SSs X C E fb body) : SS X C E (whileLoop t fb n) (.While c body [] pos) :=
  PS.weak (ps_while hp hc hb) fun D σ H ⟨S, ρ, st, rp, rn, h⟩ => by
    refine ⟨fun m σ H => ∃ S ρ st, Rep C S st H ∧ REnv C S ρ σ ∧ PostS C E D S H (whileLoop t fb m ρ st), ⟨n, S, ρ, st, rp, rn, h⟩, ?_⟩
    rintro m σ H ⟨S, ρ, st, rp, rn, h⟩
    cases m with
    | zero => exact PostS.bad h
    | succ m =>
      unfold whileLoop at h
      refine ⟨S, ρ, st, rp, rn, runE_post rn h fun c st' S' H' b g1 rp' e h' => ?_⟩
      cases e
      cases c with
      | false => rw [if_neg Bool.false_ne_true] at h' ⊢; exact postS_nx h' rp' (rn.mono g1.ext)
      | true =>
        rw [if_pos rfl] at h' ⊢
        refine ⟨fun σ2 H2 => ∃ S ρ st, Rep C S st H2 ∧ REnv C S ρ σ2 ∧ PostS C E D S H2 (whileLoop t fb m ρ st), fun σ2 H2 q => ⟨m, Nat.lt_succ_self m, q⟩, S', ρ, st', rp', rn.mono g1.ext, PostS.bind h' fun x st2 S2 H2 g2 rp2 hx => ?_⟩
        cases x with
        | nx ρ' => exact fun σ2 rn2 => ⟨S2, ρ', st2, rp2, rn2, hx⟩
        | ct ρ' => exact fun σ2 rn2 => ⟨S2, ρ', st2, rp2, rn2, hx⟩
        | bk ρ' => exact fun σ2 rn2 => postS_nx hx rp2 rn2
        | rt d => exact hx S2 H2 (.refl _ _) rp2
        | xc c ns us ρ' => exact hx S2 H2 (.refl _ _) rp2
noncomputable def forF (tg : Tg) (it : Fx Walk) (body : FS) : FS := runE it fun w ρ st => forLoop tg body w.2 w.1 ρ st
open Classical in
theorem ss_for {tg : Tg} {fi : Fx Walk} {fb : FS} {te iter : Expr} {body : List Stmt} {pos : Pos} (hX : XOk X C k E) (hp : PassesOwn (model X.prog X.w) X.A X.env X.xe) (hi : SI X C E fi te iter) (hg : PG X te (tTg C tg)) (hb : SSs X C E fb body)
    (hs : ∀ x, foldedSetIterable iter X.env x = pure x) : SS X C E (forF tg fi fb) (.For te iter body [] pos) :=
  PS.weak (ps_for hp hX.calm hi hg hb hs) fun D σ H ⟨S, ρ, st, rp, rn, h⟩ => by
    refine ⟨S, ρ, st, rp, rn, runE_post rn h fun w st1 S1 H1 J g1 rp1 hJ h1 => ?_⟩
    obtain ⟨hgd, hJ⟩ := hJ
    refine ⟨fun i m σ H' => ∃ S' ρ' st', m = w.1.length - i ∧ i ≤ w.1.length ∧ guardOk st' w.2 ∧ Ext S1 S' ∧ Rep C S' st' H' ∧ REnv C S' ρ' σ ∧ PostS C E D S' H' (forLoop tg fb w.2 (w.1.drop i) ρ' st'), ⟨_, S1, ρ, st1, rfl, Nat.zero_le _, hgd, .refl _, rp1, rn.mono g1.ext, by rw [List.drop_zero]; exact h1⟩, ?_⟩
    rintro i m σ' H' ⟨S', ρ', st', rfl, hi, hgd, ex, rp', rn', h'⟩
    obtain ⟨j1, j2, j3⟩ := hJ S' st' H' ex rp' hgd
    by_cases hlt : i < w.1.length
    · refine .inr ⟨j1 i hlt, fun σ2 H2 => ∃ S' ρ' st', guardOk st' w.2 ∧ Ext S1 S' ∧ Rep C S' st' H2 ∧ REnv C S' ρ' σ2 ∧ PostS C E D S' H2 (forLoop tg fb w.2 (w.1.drop (i + 1)) ρ' st'),
        fun σ2 H2 ⟨S2, ρ2, st2, b1, b2, b3, b4, b5⟩ => ⟨w.1.length - (i + 1), by omega, S2, ρ2, st2, rfl, by omega, b1, b2, b3, b4, b5⟩, fun x H2 y => ?_⟩
      obtain ⟨S2, g2, rp2, rx⟩ := j3 i x H2 _ (List.getElem?_eq_getElem hlt) y
      rw [List.drop_eq_getElem_cons hlt] at h'
      unfold forLoop at h'
      cases es : setT tg w.1[i] ρ' with
      | none => rw [es] at h'; exact h'.bad
      | some ρ2 =>
        rw [es] at h'
        refine ⟨S2, ρ', st', _, ρ2, rp2, rn'.mono g2.ext, rx, es, fun σ3 rn3 k3 => ⟨S2, ρ2, st', rp2, rn3, PostS.bind (PostS.go h' g2) fun fl st3 S3 H3 g3 rp3 hx => ?_⟩⟩
        have step : ∀ ρ3, PostS C E D S3 H3 (if guardOk st3 w.2 then forLoop tg fb w.2 (w.1.drop (i + 1)) ρ3 st3 else .bad) → ∀ σ4, REnv C S3 ρ3 σ4 → ∃ S' ρ' st', guardOk st' w.2 ∧ Ext S1 S' ∧ Rep C S' st' H3 ∧ REnv C S' ρ' σ4 ∧ PostS C E D S' H3 (forLoop tg fb w.2 (w.1.drop (i + 1)) ρ' st') := fun ρ3 hx σ4 rn4 => by
          by_cases gg : guardOk st3 w.2
          · rw [if_pos gg] at hx
            exact ⟨S3, ρ3, st3, gg, (ex.trans g2.ext).trans g3.ext, rp3, rn4, hx⟩
          · rw [if_neg gg] at hx; exact hx.bad
        cases fl with
        | nx ρ3 => exact step ρ3 hx
        | ct ρ3 => exact step ρ3 hx
        | bk ρ3 => exact fun σ4 rn4 => postS_nx hx rp3 rn4
        | rt d => exact hx S3 H3 (.refl _ _) rp3
        | xc c ns us ρ3 => exact hx S3 H3 (.refl _ _) rp3
    · have he : i = w.1.length := by omega
      refine .inl ⟨j2 i (by omega), ?_⟩
      rw [he, List.drop_length] at h'
      exact postS_nx h' rp' rn'
end
end Px

/-! Px12: calls of the text's own defs. -/
namespace Px
open PySem PySem.Spec PyProof.Rows L2

/-! ### binding, by any relation -/
section
variable {α β : Type} {r : α → β → Prop}
inductive All2 (r : α → β → Prop) : List α → List β → Prop
  | nil : All2 r [] []
  | cons {a : α} {b : β} {as : List α} {bs : List β} : r a b → All2 r as bs → All2 r (a :: as) (b :: bs)
def OptR (r : α → β → Prop) : Option α → Option β → Prop
  | some a, some b => r a b
  | none, none => True
  | _, _ => False
theorem All2.length {as : List α} {bs : List β} (h : All2 r as bs) : as.length = bs.length := by
  induction h with
  | nil => rfl
  | cons _ _ ih => simp [ih]
theorem All2.append {as as' : List α} {bs bs' : List β} (h : All2 r as bs) (h' : All2 r as' bs') : All2 r (as ++ as') (bs ++ bs') := by
  induction h with
  | nil => exact h'
  | cons a _ ih => exact .cons a ih
theorem All2.drop {as : List α} {bs : List β} (h : All2 r as bs) (n : Nat) : All2 r (as.drop n) (bs.drop n) := by
  induction h generalizing n with
  | nil => simp; exact .nil
  | cons a b ih =>
    cases n with
    | zero => exact .cons a b
    | succ n => exact ih n
theorem fillKw_rel {as : List α} {bs : List β} (h : All2 r as bs) (x : Str) : ∀ ks : List Str, OptR r (fillKw ks as x) (fillKw ks bs x) := by
  induction h with
  | nil => intro ks; cases ks <;> exact True.intro
  | cons a b ih =>
    intro ks
    cases ks with
    | nil => exact True.intro
    | cons k ks =>
      unfold fillKw
      by_cases z : k = x
      · rw [if_pos z, if_pos z]; exact a
      · rw [if_neg z, if_neg z]; exact ih ks
theorem fillIn_rel {as : List α} {bs : List β} (h : All2 r as bs) (ks : List Str) : ∀ (ps : List Str) {da : List (Option α)} {db : List (Option β)}, All2 (OptR r) da db → ∀ {xs : List α}, fillIn ks as ps da = some xs → ∃ ys, fillIn ks bs ps db = some ys ∧ All2 r xs ys
  | [], da, db, hd, xs, e => by rw [fillIn] at e; cases e; exact ⟨[], by rw [fillIn], .nil⟩
  | p :: ps, _, _, .nil, xs, e => by
    rw [fillIn] at e
    have q := fillKw_rel h p ks
    cases z1 : fillKw ks as p with
    | none => rw [z1] at e; cases e
    | some u =>
      cases z2 : fillIn ks as ps [] with
      | none => rw [z1, z2] at e; cases e
      | some w =>
        rw [z1, z2] at e; cases e
        rw [z1] at q
        obtain ⟨ys, e3, a3⟩ := fillIn_rel h ks ps .nil z2
        cases z4 : fillKw ks bs p with
        | none => rw [z4] at q; exact q.elim
        | some v =>
          rw [z4] at q
          exact ⟨v :: ys, by rw [fillIn, z4, e3], .cons q a3⟩
  | p :: ps, _, _, .cons (a := d) (b := d') hd0 hd, xs, e => by
    rw [fillIn] at e
    have q := fillKw_rel h p ks
    have q2 : OptR r (pick (fillKw ks as p) d) (pick (fillKw ks bs p) d') := by
      cases z1 : fillKw ks as p with
      | none =>
        rw [z1] at q
        cases z2 : fillKw ks bs p with
        | none => exact hd0
        | some v => rw [z2] at q; exact q.elim
      | some u =>
        rw [z1] at q
        cases z2 : fillKw ks bs p with
        | none => rw [z2] at q; exact q.elim
        | some v => rw [z2] at q; exact q
    cases z1 : pick (fillKw ks as p) d with
    | none => rw [z1] at e; cases e
    | some u =>
      rename_i da db
      cases z2 : fillIn ks as ps da with
      | none => rw [z1, z2] at e; cases e
      | some w =>
        rw [z1, z2] at e; cases e
        rw [z1] at q2
        obtain ⟨ys, e3, a3⟩ := fillIn_rel h ks ps hd z2
        cases z4 : pick (fillKw ks bs p) d' with
        | none => rw [z4] at q2; exact q2.elim
        | some v =>
          rw [z4] at q2
          exact ⟨v :: ys, by rw [fillIn, z4, e3], .cons q2 a3⟩
theorem bindG_rel {ps : List Str} {da : List (Option α)} {db : List (Option β)} {as us : List α} {bs ws : List β} {ks : List Str} (hd : All2 (OptR r) da db) (ha : All2 r as bs) (hu : All2 r us ws) {xs : List α} (e : bindG ps da as ks us = some xs) :
    ∃ ys, bindG ps db bs ks ws = some ys ∧ All2 r xs ys := by
  unfold bindG at e
  cases z : fillIn ks us (ps.drop as.length) (da.drop as.length) with
  | none => rw [z] at e; cases e
  | some l =>
    rw [z] at e; cases e
    obtain ⟨ys, e2, a2⟩ := fillIn_rel hu ks _ (hd.drop as.length) z
    refine ⟨bs ++ ys, ?_, ha.append a2⟩
    unfold bindG
    rw [← ha.length, e2]; rfl
end

/-- a value of the data against the machine's -/
def RU (C : Kc) (S : Rp) (d : D) (u : Value) : Prop := ∃ v, RV C S d v ∧ RelV v u
theorem ru_all {C : Kc} {S : Rp} : ∀ {ds : List D} {vs : List V} {us : List Value}, RVs C S ds vs → Vals vs us → All2 (RU C S) ds us
  | [], vs, us, h, r => by rw [RVs] at h; subst h; cases r; exact .nil
  | d :: ds, vs, us, h, r => by
    rw [RVs] at h
    obtain ⟨v, w, rfl, h1, h2⟩ := h
    cases r with
    | cons r1 r2 => exact .cons ⟨v, h1, r1⟩ (ru_all h2 r2)
theorem ru_back {C : Kc} {S : Rp} {ds : List D} {us : List Value} (h : All2 (RU C S) ds us) : ∃ vs, RVs C S ds vs ∧ Vals vs us := by
  induction h with
  | nil => exact ⟨[], .nil, .nil⟩
  | cons a _ ih =>
    obtain ⟨v, h1, h2⟩ := a
    obtain ⟨vs, h3, h4⟩ := ih
    exact ⟨v :: vs, .cons h1 h3, .cons h2 h4⟩

/-- how the machine binds a call of this shape -/
def ShOk (K : PySem.W.Frag) (fd : FuncData) (ps : List Str) (dv : List (Option Value)) (n : Nat) (ks : List Str) : Prop :=
  ∀ (s : Shared) (us ws : List Value), K.In s.heap → us.length = n → ws.length = ks.length → ∀ zs, bindG ps dv us ks ws = some zs → BindsTo s fd ⟨us, ks.zip ws⟩ (ps.zip zs)
/-- a def of the text does what F says -/
structure FnD (P : Program) (w : World) (C : Kc) (mg : Str → Option Value) (base : Heap) (k : Nat) (f : Addr) (fd : FuncData) (F : Fn) : Prop where
  run : ∀ (A : Around) (outer : List PySem.Env) (s : Shared) (H : Hp) (args : Args) (us : List Value) (vs : List V) (Q : VK) (E : XK) (S : Rp) (st : Store) (ds : List D), Room k A → A.guards = some [] → Env0 P w C.K mg base A outer s H → BindsTo s fd args (F.ps.zip us) → Vals vs us →
    Rep C S st H → RVs C S ds vs → ds.length = F.ps.length → Post C (rV C) S H (F.run ds st) Q E → codeAny (model P w) A (.call (.ref f) args) (CR (L2.CX P w) outer P w H s Q E) s
  dv : ∃ dv : List (Option Value), (∀ S, All2 (OptR (RU C S)) F.df dv) ∧ ∀ sh ∈ F.sh, ShOk C.K fd F.ps dv sh.1 sh.2
  kp : PySem.W.keepIn C.K (.ref f) = true
  len : ∀ as ks us vs, F.bind as ks us = some vs → vs.length = F.ps.length

section
variable {X : Cx} {C : Kc} {E E' : L2.St → XK} {k : Nat} {f : Addr} {fd : FuncData} {Fu : Fn}
theorem FnD.mono {P : Program} {w : World} {mg : Str → Option Value} {base : Heap} {j k : Nat} (h : FnD P w C mg base j f fd Fu) (hk : j ≤ k) : FnD P w C mg base k f fd Fu :=
  ⟨fun A outer s H args us vs Q E S st ds hr => h.run A outer s H args us vs Q E S st ds (hr.mono hk), h.dv, h.kp, h.len⟩
/-- the callee runs -/
theorem run_d (hX : XOk X C k E) (FD : FnD X.prog X.w C X.mg X.base k f fd Fu) {pins : List (Addr × Obj)} {σ : L2.St} {H : Hp} {s : Shared} {Q : VK} {S : Rp} {st : Store} {as us zs : List D} {ks : List Str} {av uv : List V} {aw uw : List Value}
    (I : Inv X pins σ H s) (rp : Rep C S st H) (ra : RVs C S as av) (va : Vals av aw) (ru : RVs C S us uv) (vu : Vals uv uw) (hb : Fu.bind as ks us = some zs) (h : Post C (rV C) S H (Fu.run zs st) Q (E σ)) :
    wpAny (model X.prog X.w) X.A (call (.ref f) aw (ks.zip uw)) (EP X pins σ Q) X.xe s := by
  have hlen := FD.len as ks us zs hb
  unfold Fn.bind at hb
  split at hb
  · rename_i hsh
    rw [Bool.and_eq_true, List.any_eq_true, beq_iff_eq] at hsh
    obtain ⟨⟨sh, hm, hs⟩, hu⟩ := hsh
    rw [Bool.and_eq_true, beq_iff_eq, decide_eq_true_eq] at hs
    obtain ⟨dv, hdv, hok⟩ := FD.dv
    obtain ⟨zw, e2, a2⟩ := bindG_rel (hdv S) (ru_all ra va) (ru_all ru vu) hb
    obtain ⟨zv, r3, v3⟩ := ru_back a2
    have hal : aw.length = sh.1 := by rw [← (ru_all ra va).length, hs.1]
    have hul : uw.length = sh.2.length := by rw [← (ru_all ru vu).length, hu, hs.2]
    have hbt := hok sh hm s aw uw (by rw [← hX.K]; exact I.kIn) hal hul zw (by rw [hs.2]; exact e2)
    rw [hs.2] at hbt
    have e0 := I.env0
    rw [hX.K] at e0
    refine wpAny_call (codeAny_mono (FD.run X.A X.stack s H ⟨aw, ks.zip uw⟩ zw zv Q (E σ) S st zs hX.room hX.gd e0 hbt v3 rp r3 hlen h) fun r s' hq => ?_)
    cases r with
    | error e => exact passAt (W := fun cls d σ H => E σ cls d H) hX.tk σ pins H s e s' I hq
    | ok fl =>
      cases fl with
      | ret u => exact I.after hq
      | next => exact False.elim hq
      | brk => exact False.elim hq
      | cont => exact False.elim hq
  · cases hb
def callF (F : Fn) (fa : Fx (List D)) (ks : List Str) (fk : Fx (List D)) : Fx D := fun ρ st => (fa ρ st).bind fun xs st1 => (fk ρ st1).bind fun us st2 => match F.bind xs ks us with
  | some vs => F.run vs st2
  | none => .bad
/-- keywords' values -/
abbrev SK (X : Cx) (C : Kc) (E : L2.St → XK) (f : Fx (List D)) (kws : List Keyword) : Prop := PK X kws (tF C (rVs C) E f)
theorem sk_nil : SK X C E nilF [] := ⟨fun pos pins s σ H Q I q => pk_nil.run pos pins s σ H Q I (by
  obtain ⟨S, ρ, st, rp, rn, q⟩ := q
  exact Post.end_ (C := C) (rel := rVs C) q (.refl S H) rp .nil)⟩
theorem sk_cons {g : Fx D} {h : Fx (List D)} {nm : Option Str} {e : Expr} {kpos : Pos} {kws : List Keyword} (he : SE X C E g e) (hr : SK X C E h kws) : SK X C E (consF g h) (⟨nm, e, kpos⟩ :: kws) :=
  ⟨fun pos pins s σ H Q I q => (pk_cons he hr).run pos pins s σ H Q I (by
    obtain ⟨S, ρ, st, rp, rn, q⟩ := q
    refine ⟨S, ρ, st, rp, rn, Post.bind (rel2 := rVs C) q fun d st1 S1 H1 v g1 rp1 rv1 h1 => ?_⟩
    refine ⟨S1, ρ, st1, rp1, rn.mono g1.ext, Post.bind (rel2 := rVs C) h1 fun ds st2 S2 H2 vs g2 rp2 rv2 h2 => ?_⟩
    exact Post.end_ (C := C) (rel := rVs C) h2 (.refl S2 H2) rp2 (.cons (RV.mono g2.ext rv1) rv2))⟩
theorem sa_step {g : Fx (List D)} {es : List Expr} (he : SA X C E g es) {γ δ : Type} {h : List D → Store → R γ} {rel2 : Rel γ δ} {Q : δ → Hp → Prop} {pos : Pos} {pins : List (Addr × Obj)} {s : Shared} {σ : L2.St} {H : Hp} {S : Rp} {ρ : Env} {st : Store}
    (I : Inv X pins σ H s) (rp : Rep C S st H) (rn : REnv C S ρ σ) (q : Post C rel2 S H ((g ρ st).bind h) Q (E σ)) {P : List Value → Shared → Prop}
    (kk : ∀ us s1 vs H1 S1 st1 ds, Inv X pins σ H1 s1 → Vals vs us → Go S H S1 H1 → Rep C S1 st1 H1 → RVs C S1 ds vs → Post C rel2 S1 H1 (h ds st1) Q (E σ) → P us s1) : wpAny (model X.prog X.w) X.A (spliced (backTo pos (starEach es X.env))) P X.xe s := by
  refine thn (he.run pos pins s σ H (fun vs H1 => ∃ S1 st1 ds, Go S H S1 H1 ∧ Rep C S1 st1 H1 ∧ RVs C S1 ds vs ∧ Post C rel2 S1 H1 (h ds st1) Q (E σ)) I ⟨S, ρ, st, rp, rn, Post.bind (rel2 := rel2) q fun d st1 S1 H1 v g1 rp1 rv1 h1 => ⟨S1, st1, d, g1, rp1, rv1, h1⟩⟩) ?_
  rintro u s1 ⟨v, H1, I1, r1, S1, st1, d, g1, rp1, rv1, h1⟩
  exact kk u s1 v H1 S1 st1 d I1 r1 g1 rp1 rv1 h1
theorem sk_step {g : Fx (List D)} {kws : List Keyword} (he : SK X C E g kws) {γ δ : Type} {h : List D → Store → R γ} {rel2 : Rel γ δ} {Q : δ → Hp → Prop} {pos : Pos} {pins : List (Addr × Obj)} {s : Shared} {σ : L2.St} {H : Hp} {S : Rp} {ρ : Env} {st : Store}
    (I : Inv X pins σ H s) (rp : Rep C S st H) (rn : REnv C S ρ σ) (q : Post C rel2 S H ((g ρ st).bind h) Q (E σ)) {P : List Value → Shared → Prop}
    (kk : ∀ us s1 vs H1 S1 st1 ds, Inv X pins σ H1 s1 → Vals vs us → Go S H S1 H1 → Rep C S1 st1 H1 → RVs C S1 ds vs → Post C rel2 S1 H1 (h ds st1) Q (E σ) → P us s1) : wpAny (model X.prog X.w) X.A (evalAll ((backToKw pos (keywordEach kws X.env)).map (·.2))) P X.xe s := by
  refine thn (he.run pos pins s σ H (fun vs H1 => ∃ S1 st1 ds, Go S H S1 H1 ∧ Rep C S1 st1 H1 ∧ RVs C S1 ds vs ∧ Post C rel2 S1 H1 (h ds st1) Q (E σ)) I ⟨S, ρ, st, rp, rn, Post.bind (rel2 := rel2) q fun d st1 S1 H1 v g1 rp1 rv1 h1 => ⟨S1, st1, d, g1, rp1, rv1, h1⟩⟩) ?_
  rintro u s1 ⟨v, H1, I1, r1, S1, st1, d, g1, rp1, rv1, h1⟩
  exact kk u s1 v H1 S1 st1 d I1 r1 g1 rp1 rv1 h1
/-- what a call asks of its syntax -/
structure Plain (X : Cx) (es : List Expr) (kws : List Keyword) (ks : List Str) (pos : Pos) : Prop where
  he : ∀ e r, es = e :: r → starEach es X.env = (false, eval e X.env) :: starEach r X.env
  hp : ∀ e r, es = e :: r → (backTo pos (starEach r X.env)).any (·.1) = false
  hall : (backToKw pos (keywordEach kws X.env)).all (·.1.isSome) = true
  hks : (backToKw pos (keywordEach kws X.env)).filterMap (·.1) = ks
  hpl : ((backTo pos (starEach es X.env)).any (·.1) || (backToKw pos (keywordEach kws X.env)).any (·.1.isNone)) = false
theorem se_call {fa fk : Fx (List D)} {x : Str} {es : List Expr} {kws : List Keyword} {ks : List Str} {p pos : Pos} (hX : XOk X C k E) (FD : FnD X.prog X.w C X.mg X.base k f fd Fu) (hg : Gl X x) (hm : X.mg x = some (.ref f)) (ha : SA X C E fa es) (h0 : es = [] → fa = nilF) (hk : SK X C E fk kws) (hp : Plain X es kws ks pos)
    (hdb : (x == ("__debug__" : Str)) = false) : SE X C E (callF Fu fa ks fk) (.Call (.Name x p) es kws pos) := by
  refine ⟨fun pins s σ H Q I h => ?_⟩
  obtain ⟨S, ρ, st, rp, rn, h⟩ := h
  refine wpAny_Call_Name_kw (ld_glob I hg hm ?_ hdb)
  have kp := FD.kp
  rw [← hX.K] at kp
  have fin : ∀ aw av H1 S1 as uw s2 uv H2 S2 st2 us, RVs C S1 as av → Vals av aw → Go S1 H1 S2 H2 → Inv X pins σ H2 s2 → Vals uv uw → Rep C S2 st2 H2 → RVs C S2 us uv → Post C (rV C) S2 H2 (match Fu.bind as ks us with | some vs => Fu.run vs st2 | none => .bad) Q (E σ) →
      wpAny (model X.prog X.w) X.A (call (.ref f) aw (ks.zip uw)) (EP X pins σ Q) X.xe s2 := fun aw av H1 S1 as uw s2 uv H2 S2 st2 us ra va g2 I2 vu rp2 ru h2 => by
    cases z : Fu.bind as ks us with
    | none => rw [z] at h2; exact h2.bad
    | some vs =>
      rw [z] at h2
      exact run_d hX FD I2 rp2 (ra.mono g2.ext) va ru vu z h2
  cases es with
  | nil =>
    refine PySem.W.callWith_KW0 (h₀ := X.base) I.ok.mod.kin kp hp.hall ?_ hp.hpl
    rw [h0 rfl] at h
    refine sk_step hk I rp rn (rel2 := rV C) (Q := Q) h fun uw s2 uv H2 S2 st2 us I2 vu g2 rp2 ru h2 => ⟨I2.kIn, ?_⟩
    rw [hp.hks]
    exact fin [] [] H S [] uw s2 uv H2 S2 st2 us .nil .nil g2 I2 vu rp2 ru h2
  | cons e es =>
    refine PySem.W.callWith_KW (h₀ := X.base) I.ok.mod.kin kp hp.hall ?_ hp.hpl (hp.he e es rfl)
    refine sa_step ha I rp rn (rel2 := rV C) h fun aw s1 av H1 S1 st1 as I1 va g1 rp1 ra h1 => ?_
    refine sk_step hk I1 rp1 (rn.mono g1.ext) h1 fun uw s2 uv H2 S2 st2 us I2 vu g2 rp2 ru h2 => ⟨I2.kIn, ?_⟩
    rw [hp.hks]
    exact fin aw av H1 S1 as uw s2 uv H2 S2 st2 us ra va g2 I2 vu rp2 ru h2
end
end Px

/-! Px13: a def by its body. -/
namespace Px
open PySem PySem.Spec PyProof.Rows L2
section
variable {X : Cx} {C : Kc} {E E' : L2.St → XK} {k : Nat}
mutual
theorem RV.lower {S S' : Rp} {n0 : Nat} (g : ∀ a o, S.G a = some o → S'.G a = some o) (m : ∀ (n : Nat) (a : Addr), n < n0 → S.m[n]? = some a → S'.m[n]? = some a) : ∀ {d : D} {v : V}, below n0 d = true → RV C S d v → RV C S' d v
  | .non, v, _, h => by rw [RV] at h ⊢; exact h
  | .bl _, v, _, h => by rw [RV] at h ⊢; exact h
  | .int _, v, _, h => by rw [RV] at h ⊢; exact h
  | .str _, v, _, h => by rw [RV] at h ⊢; exact h
  | .ty _, v, _, h => by rw [RV] at h ⊢; exact h
  | .cell n, v, c, h => by
    rw [below, decide_eq_true_eq] at c
    rw [RV] at h ⊢
    obtain ⟨a, e1, e2⟩ := h
    exact ⟨a, e1, m _ _ c e2⟩
  | .tup ds, v, c, h => by
    rw [below] at c
    rw [RV] at h ⊢
    obtain ⟨a, vs, e1, e2, e3⟩ := h
    exact ⟨a, vs, e1, sqT_mono g e2, RVs.lower g m c e3⟩
  | .lst ds, v, c, h => by
    rw [below] at c
    rw [RV] at h ⊢
    obtain ⟨a, vs, e1, e2, e3⟩ := h
    exact ⟨a, vs, e1, g _ _ e2, RVs.lower g m c e3⟩
  | .lck ds, v, c, h => by
    rw [below] at c
    rw [RV] at h ⊢
    obtain ⟨a, vs, e1, e2, e3⟩ := h
    exact ⟨a, vs, e1, sqL_mono g e2, RVs.lower g m c e3⟩
  | .dct ks us, v, c, h => by
    rw [below] at c
    rw [RV] at h ⊢
    obtain ⟨a, kvs, e1, e2, e3, e4⟩ := h
    exact ⟨a, kvs, e1, g _ _ e2, e3, RVs.lower g m c e4⟩
  | .obj cc ns us, v, c, h => by
    rw [below] at c
    rw [RV] at h ⊢
    obtain ⟨a, A, dx, fs, e1, e2, e3, e4, e5⟩ := h
    exact ⟨a, A, dx, fs, e1, e2, g _ _ e3, e4, RVs.lower g m c e5⟩
theorem RVs.lower {S S' : Rp} {n0 : Nat} (g : ∀ a o, S.G a = some o → S'.G a = some o) (m : ∀ (n : Nat) (a : Addr), n < n0 → S.m[n]? = some a → S'.m[n]? = some a) : ∀ {ds : List D} {vs : List V}, belows n0 ds = true → RVs C S ds vs → RVs C S' ds vs
  | [], vs, _, h => by rw [RVs] at h ⊢; exact h
  | d :: ds, vs, c, h => by
    rw [belows, Bool.and_eq_true] at c
    rw [RVs] at h ⊢
    obtain ⟨v, r, e1, e2, e3⟩ := h
    exact ⟨v, r, e1, RV.lower g m c.1 e2, RVs.lower g m c.2 e3⟩
end
theorem RO.lower {S S' : Rp} {n0 : Nat} (g : ∀ a o, S.G a = some o → S'.G a = some o) (m : ∀ (n : Nat) (a : Addr), n < n0 → S.m[n]? = some a → S'.m[n]? = some a) : ∀ {mo : MO} {o : HO}, moBelow n0 mo = true → RO C S mo o → RO C S' mo o
  | .lst _, _, c, ⟨vs, e1, e2⟩ => ⟨vs, e1, e2.lower g m c⟩
  | .dct _ _, _, c, ⟨kvs, e1, e2, e3⟩ => ⟨kvs, e1, e2, e3.lower g m c⟩
  | .ins _ _ _, _, c, ⟨A, dx, fs, e1, e2, e3, e4⟩ => ⟨A, dx, fs, e1, e2, e3, e4.lower g m c⟩
  | .dn _ _, _, c, ⟨a, es, e1, e2, e3, e4, e5⟩ => ⟨a, es, e1, e2.lower g m (Bool.and_eq_true _ _ ▸ c).1, e3, e4, e5.lower g m (Bool.and_eq_true _ _ ▸ c).2⟩

/-- what stands when the cells from n0 on are frozen -/
noncomputable def Rp.shut (S' : Rp) (H H' : Hp) (n0 : Nat) : Rp :=
  ⟨fun a => if a ∈ S'.m.take n0 then none else match S'.G a with | some o => some o | none => if (H a).isSome then none else H' a, S'.m.take n0⟩
section
variable {S S' : Rp} {st st' : Store} {H H' : Hp}
theorem shut_g (rp : Rep C S' st' H') (n0 : Nat) : ∀ a o, S'.G a = some o → (S'.shut H H' n0).G a = some o := fun a o e => by
  have hn : a ∉ S'.m.take n0 := fun hm => by
    obtain ⟨n, hn, q⟩ := List.getElem_of_mem (List.mem_of_mem_take hm)
    have hn' : n < st'.length := by rw [← rp.len]; exact hn
    obtain ⟨a', o', h1, h2, _, _⟩ := rp.at_ n st'[n] (List.getElem?_eq_getElem hn')
    rw [List.getElem?_eq_getElem hn] at h1
    cases h1
    rw [q, e] at h2; cases h2
  show (if a ∈ S'.m.take n0 then none else _) = some o
  rw [if_neg hn, e]
theorem shut_m (n0 : Nat) : ∀ (n : Nat) (a : Addr), n < n0 → S'.m[n]? = some a → (S'.shut H H' n0).m[n]? = some a := fun n a hn e => by
  show (S'.m.take n0)[n]? = some a
  rw [List.getElem?_take_of_lt hn]; exact e
theorem shut_new (rp : Rep C S' st' H') (g : Go S H S' H') {n : Nat} {a : Addr} (hn : S.m.length ≤ n) (e : S'.m[n]? = some a) : (S'.shut H H' S.m.length).G a = H' a := by
  obtain ⟨l, hl⟩ := g.ext.m
  have hm : a ∉ S'.m.take S.m.length := fun hm => by
    obtain ⟨j, hj, q⟩ := List.getElem_of_mem hm
    have hj' : j < S.m.length := by rw [List.length_take] at hj; omega
    have e2 : S'.m[j]? = some a := by
      rw [← List.getElem?_take_of_lt hj', List.getElem?_eq_getElem hj, q]
    have := inj_at rp.nd e e2
    omega
  have hS : a ∉ S.m := fun q => by
    apply hm
    rw [hl, List.take_left']
    · exact q
    · rfl
  have hH : H a = none := by
    rcases g.newM a (List.mem_of_getElem? e) with q | q
    · exact absurd q hS
    · exact q
  have hG : S'.G a = none := by
    have hn' : n < st'.length := by rw [← rp.len]; exact (List.getElem?_eq_some_iff.mp e).1
    obtain ⟨a', o', h1, h2, _, _⟩ := rp.at_ n st'[n] (List.getElem?_eq_getElem hn')
    rw [e] at h1; cases h1; exact h2
  show (if a ∈ S'.m.take S.m.length then none else match S'.G a with | some o => some o | none => if (H a).isSome then none else H' a) = H' a
  rw [if_neg hm, hG, hH]; rfl
theorem shut_cell (rp : Rep C S' st' H') (g : Go S H S' H') : ∀ (k n : Nat) (d : D) (a : Addr), cellV S.m.length st' k n = some d → S'.m[n]? = some a → RV C (S'.shut H H' S.m.length) d (.ref a)
  | 0, n, d, a, h, q => by
    rw [cellV] at h
    split at h
    · rename_i hn
      cases h
      exact rv_cell.mpr ⟨a, rfl, shut_m _ n a hn q⟩
    · cases h
  | k + 1, n, d, a, h, q => by
    rw [cellV] at h
    split at h
    · rename_i hn
      cases h
      exact rv_cell.mpr ⟨a, rfl, shut_m _ n a hn q⟩
    · rename_i hn
      have ih := shut_cell rp g k
      cases z : st'[n]? with
      | none => rw [z] at h; cases h
      | some mo =>
        rw [z] at h
        obtain ⟨a', o, h1, h2, h3, h4⟩ := rp.at_ n mo z
        rw [q] at h1; cases h1
        have hg := shut_new rp g (Nat.le_of_not_lt hn) q
        rw [h3] at hg
        cases mo with
        | lst xs =>
          have h : (frzs (cellV S.m.length st' k) xs).map D.lst = some d := h
          obtain ⟨vs, rfl, h5⟩ := h4
          cases y : frzs (cellV S.m.length st' k) xs with
          | none => rw [y] at h; cases h
          | some ys =>
            rw [y] at h; cases h
            exact rv_lst.mpr ⟨a, vs, rfl, hg, frzs_rv ih (shut_g rp _) h5 y⟩
        | dct ks us =>
          have h : (frzs (cellV S.m.length st' k) us).map (D.dct ks) = some d := h
          obtain ⟨kvs, rfl, h5, h6⟩ := h4
          cases y : frzs (cellV S.m.length st' k) us with
          | none => rw [y] at h; cases h
          | some ys =>
            rw [y] at h; cases h
            exact rv_dct.mpr ⟨a, kvs, rfl, hg, h5, frzs_rv ih (shut_g rp _) h6 y⟩
        | ins c ns us =>
          have h : (frzs (cellV S.m.length st' k) us).map (D.obj c ns) = some d := h
          obtain ⟨A, dx, fs, rfl, h5, h6, h7⟩ := h4
          cases y : frzs (cellV S.m.length st' k) us with
          | none => rw [y] at h; cases h
          | some ys =>
            rw [y] at h; cases h
            exact rv_obj.mpr ⟨a, A, dx, fs, rfl, h5, hg, h6, frzs_rv ih (shut_g rp _) h7 y⟩
        | dn _ _ => cases h
theorem shut_go (rp : Rep C S' st' H') (g : Go S H S' H') : Go S H (S'.shut H H' S.m.length) H' := by
  obtain ⟨l, hl⟩ := g.ext.m
  have hm : S'.m.take S.m.length = S.m := by rw [hl, List.take_left']; rfl
  refine ⟨⟨fun a o e => shut_g rp _ a o (g.ext.g a o e), [], by show S'.m.take S.m.length = S.m ++ []; rw [hm]; simp⟩, g.frame, g.dom, fun a o e => ?_, fun a ha => ?_⟩
  · have e : (if a ∈ S'.m.take S.m.length then none else match S'.G a with | some o => some o | none => if (H a).isSome then none else H' a) = some o := e
    split at e
    · cases e
    · split at e
      · rename_i q
        cases e
        exact g.newG a _ q
      · split at e
        · cases e
        · rename_i q
          right
          cases z : H a with
          | none => rfl
          | some u => rw [z] at q; exact absurd rfl q
  · have ha : a ∈ S'.m.take S.m.length := ha
    rw [hm] at ha; exact .inl ha
theorem shut_rep (rp : Rep C S' st' H') (g : Go S H S' H') (hb : (st'.take S.m.length).all (moBelow S.m.length) = true) : Rep C (S'.shut H H' S.m.length) (st'.take S.m.length) H' := by
  refine ⟨fun a o e => ?_, ?_, ?_, fun n mo e => ?_⟩
  · have e : (if a ∈ S'.m.take S.m.length then none else match S'.G a with | some o => some o | none => if (H a).isSome then none else H' a) = some o := e
    split at e
    · cases e
    · split at e
      · rename_i q
        cases e
        exact rp.fz a _ q
      · split at e
        · cases e
        · exact e
  · show (S'.m.take S.m.length).length = (st'.take S.m.length).length
    rw [List.length_take, List.length_take, rp.len]
  · exact rp.nd.sublist (List.take_sublist _ _)
  · have hn : n < S.m.length := by
      have := (List.getElem?_eq_some_iff.mp e).1
      rw [List.length_take] at this; omega
    have hmo : moBelow S.m.length mo = true := List.all_eq_true.mp hb mo (List.mem_of_getElem? e)
    rw [List.getElem?_take_of_lt hn] at e
    obtain ⟨a, o, h1, h2, h3, h4⟩ := rp.at_ n mo e
    refine ⟨a, o, shut_m _ n a hn h1, ?_, h3, h4.lower (shut_g rp _) (shut_m _) hmo⟩
    have hm : a ∈ S'.m.take S.m.length := by
      have : (S'.m.take S.m.length)[n]? = some a := by rw [List.getElem?_take_of_lt hn]; exact h1
      exact List.mem_of_getElem? this
    show (if a ∈ S'.m.take S.m.length then none else _) = none
    rw [if_pos hm]
end
/-- a def's end -/
theorem close_post {S S' : Rp} {st' : Store} {H H' : Hp} {d : D} {v : V} {Q : VK} {E : XK} (rp : Rep C S' st' H') (g : Go S H S' H') (rv : RV C S' d v) (h : Post C (rV C) S H (close S.m.length d st') Q E) : Q v H' := by
  unfold close at h
  split at h
  · exact h S' H' v g rp rv
  · split at h
    · rename_i d' e
      obtain ⟨hb, h⟩ := post_ite h
      exact h _ H' v (shut_go rp g) (shut_rep rp g hb) (frz_rv (shut_cell rp g 8) (shut_g rp _) rv e)
    · exact h.bad
def closes (n0 : Nat) (ds : List D) (st : Store) : R (List D) :=
  if st.length = n0 then .ok ds st else
  match frzs (cellV n0 st 8) ds with
  | some d' => if (st.take n0).all (moBelow n0) then .ok d' (st.take n0) else .bad
  | none => .bad
/-- a def run: its body from the bound arguments; kp: it hands on cells -/
def defRun (n : Nat) (kp : Bool) (body : FS) : List D → Store → R D := fun ds st =>
  match body (ds.map some ++ List.replicate (n - ds.length) none) st with
  | .ok (.nx _) st' => if kp then .ok .non st' else close st.length .non st'
  | .ok (.rt d) st' => if kp then .ok d st' else close st.length d st'
  | .ok (.xc c ns us _) st' => match closes st.length us st' with
    | .ok us' st'' => .ex c ns us' st''
    | _ => .bad
  | _ => .bad
theorem start_env {S : Rp} {N : List Str} {ds : List D} {vs : List V} (rv : RVs C S ds vs) : REnv C S (ds.map some ++ List.replicate (N.length - ds.length) none) (L2.start N vs) := by
  have hl := rv.length
  refine ⟨?_, fun i d e => ?_⟩
  · unfold L2.start
    rw [List.length_append, List.length_append, List.length_map, List.length_map, List.length_replicate, List.length_replicate, hl]
  · have hi : i < ds.length := by
      by_cases hi : i < ds.length
      · exact hi
      · rw [List.getElem?_append_right (by rw [List.length_map]; omega), List.getElem?_replicate] at e
        split at e <;> cases e
    rw [List.getElem?_append_left (by rw [List.length_map]; exact hi), List.getElem?_map] at e
    cases z : ds[i]? with
    | none => rw [z] at e; cases e
    | some d' =>
      rw [z] at e; cases e
      obtain ⟨v, h1, h2⟩ := rv.get z
      refine ⟨v, ?_, h2⟩
      unfold L2.start
      rw [List.getElem?_append_left (by rw [List.length_map]; omega), List.getElem?_map, h1]; rfl
/-- THE RULE: a def of the text by its body -/
theorem fnd_of {P : Program} {w : World} {mg : Str → Option Value} {base : Heap} {x qual : Str} {stm : Stmt} {f : Addr} {fd : FuncData} {N : List Str} {Fu : Fn} {body : FS} {kp : Bool} (FN : Fun C.K x qual stm f fd) (S : FnScope N Fu.ps (defScope stm))
    (hr : Fu.run = defRun N.length kp body) (hdv : ∃ dv : List (Option Value), (∀ S, All2 (OptR (RU C S)) Fu.df dv) ∧ ∀ sh ∈ Fu.sh, ShOk C.K fd Fu.ps dv sh.1 sh.2) (hln : ∀ as ks us vs, Fu.bind as ks us = some vs → vs.length = Fu.ps.length) (hsm : ∃ o, base.get? sysModules = some o)
    (hbody : ∀ (cdv : Value) (A : Around) (outer : List PySem.Env) (s : Shared) (H : Hp) (E : XK), Room k (A.deeper (envOfC qual (defScope stm) s.heap.objs.size f cdv)) →
      (XOk (cxOf (L2.CX P w) P w C.K mg base N qual (defScope stm) f cdv A outer s H E) C k fun _ => E) → PassesOwn (model P w) (A.deeper (envOfC qual (defScope stm) s.heap.objs.size f cdv)) (envOfC qual (defScope stm) s.heap.objs.size f cdv) (cxOf (L2.CX P w) P w C.K mg base N qual (defScope stm) f cdv A outer s H E).xe →
      SSs (cxOf (L2.CX P w) P w C.K mg base N qual (defScope stm) f cdv A outer s H E) C (fun _ => E) body (defBody stm)) : FnD P w C mg base (k + 1) f fd Fu := by
  obtain ⟨oc, od, kV, doc, pm, an, cdv, ct, osl, rfl, lk, hcd⟩ := FN.ex
  refine ⟨fun A outer s H args us vs Q E Sr st ds hroom hgd e0 hb r rp rv hlen hpost => ?_, hdv, FN.kp, hln⟩
  have hl : vs.length = Fu.ps.length := by rw [← rv.length]; exact hlen
  have KX : C.K.In s.heap := e0.mod.kin.keeps fun b o e => (e0.bs b o e).1
  have lim : s.heap.NoLimit := e0.mod.nolimit.keeps fun b o e => (e0.bs b o e).1
  have hkind : ∀ y ∈ Fu.ps.zip us, (defScope stm).names.lookup y.1 = some .local ∨ ((defScope stm).names.lookup y.1 = some .cell ∧ ((cellsFrom (s.heap.objs.size + 1) (defScope stm).names []).lookup y.1).isSome = true) := fun ⟨n, v⟩ hy => by
    rcases S.par n (List.of_mem_zip hy).1 with q | q
    · exact .inl q
    · exact .inr ⟨q, PySem.W.cellsFrom_some _ _ _ (.inl q)⟩
  refine codeAny_call_function hroom.depth (KX _ _ lk) rfl S.co S.gen rfl (PySem.W.codeRec_of KX hcd) (hb _ _ _ _ ?_)
  refine wpAny_newFunctionEnv_cells S.kind hkind fun env he s1 x => ?_
  subst he
  refine ⟨lim.keeps x.toInCall.keep, codeAny_func ?_⟩
  have hX : XOk (cxOf (L2.CX P w) P w C.K mg base N qual (defScope stm) f cdv A outer s H E) C k fun _ => E :=
    ⟨⟨rfl, S.nd, hroom.deeper _, hgd, takes_of rfl rfl rfl rfl, hsm⟩, rfl⟩
  have ht := hbody cdv A outer s H E (hroom.deeper _) hX (passes_of rfl)
  have I : Inv (cxOf (L2.CX P w) P w C.K mg base N qual (defScope stm) f cdv A outer s H E) [] (L2.start N vs) H s1 := inv_start S hroom.hd e0 hl r x
  have hn : Sr.m.length = st.length := rp.len
  have hD : tS C (fun _ => E) body { nx := fun _ H' => Q .non H', rt := Q } (L2.start N vs) H := by
    refine ⟨Sr, _, st, rp, start_env (N := N) rv, ?_⟩
    rw [hr] at hpost
    unfold defRun at hpost
    cases z : body (ds.map some ++ List.replicate (N.length - ds.length) none) st with
    | bad => rw [z] at hpost; exact hpost.bad
    | ex c ns us st' => rw [z] at hpost; exact hpost.bad
    | ok fl st' =>
      rw [z] at hpost
      intro S' H' g rp'
      cases fl with
      | nx ρ =>
        intro σ' _
        have hpost : Post C (rV C) Sr H (if kp then .ok .non st' else close st.length .non st') Q E := hpost
        split at hpost
        · exact hpost S' H' _ g rp' (rv_non.mpr rfl)
        · rw [← hn] at hpost
          exact close_post rp' g (rv_non.mpr rfl) hpost
      | rt d =>
        intro v rvd
        have hpost : Post C (rV C) Sr H (if kp then .ok d st' else close st.length d st') Q E := hpost
        split at hpost
        · exact hpost S' H' _ g rp' rvd
        · rw [← hn] at hpost
          exact close_post rp' g rvd hpost
      | bk ρ => exact hpost.bad
      | ct ρ => exact hpost.bad
      | xc c ns us ρ =>
        intro σ' cls dd _ xr
        have hpost : Post C (rV C) Sr H (match closes st.length us st' with | .ok us' st'' => .ex c ns us' st'' | _ => .bad) Q E := hpost
        obtain ⟨A0, hc, hcls, hx⟩ := xr
        unfold closes at hpost
        rw [← hn] at hpost
        split at hpost
        · rename_i us' st'' e
          split at e
          · cases e
            exact hpost S' H' cls dd g rp' ⟨A0, hc, hcls, hx⟩
          · split at e
            · rename_i d' e2
              split at e
              · rename_i hb2
                cases e
                refine hpost _ H' cls dd (shut_go rp' g) (shut_rep rp' g hb2) ⟨A0, hc, hcls, ?_⟩
                rcases hx with ⟨dx, fs, h1, h2, h3, h4⟩ | ⟨h1, h2, h3⟩
                · exact .inl ⟨dx, fs, h1, shut_g rp' _ _ _ h2, h3, frzs_rv (shut_cell rp' g 8) (shut_g rp' _) h4 e2⟩
                · subst h3
                  rw [frzs] at e2; cases e2
                  exact .inr ⟨h1, h2, rfl⟩
              · cases e
            · cases e
        · exact hpost.bad
  refine wpAny_mono (ht.run [] s1 (L2.start N vs) H _ I hD) (fun fl s' hs => ?_) fun e s' hs => hs
  have fin : ∀ {σ' : L2.St} {H' : Hp} {v : V} {u : Value}, Inv (cxOf (L2.CX P w) P w C.K mg base N qual (defScope stm) f cdv A outer s H E) [] σ' H' s' → RelV v u → Q v H' → CE outer P w H s Q u s' :=
    fun {σ' H' v u} J rv q => ⟨v, H', J.os, J.bare, J.base, J.hok, rv, q⟩
  cases fl with
  | ret u =>
    obtain ⟨v, σ', H', J, rv, q⟩ := hs
    exact fin J rv q
  | next =>
    obtain ⟨σ', H', J, q⟩ := hs
    exact fin (v := V.non) (u := Value.none) J rfl q
  | brk =>
    obtain ⟨_, _, _, q⟩ := hs
    exact False.elim q
  | cont =>
    obtain ⟨_, _, _, q⟩ := hs
    exact False.elim q
end
end Px

/-! Px14: methods of lists, isinstance of built-in types, dict displays, stores to places. -/
namespace Px
open PySem PySem.Spec PyProof.Rows L2
section
variable {X : Cx} {C : Kc} {E E' : L2.St → XK} {k : Nat}

theorem cell_lst {S : Rp} {st : Store} {H : Hp} {n : Nat} {v : V} {xs : List D} (rp : Rep C S st H) (h : RV C S (.cell n) v) (e : st[n]? = some (.lst xs)) : ∃ a vs, v = .ref a ∧ S.m[n]? = some a ∧ H a = some (.lst vs) ∧ RVs C S xs vs := by
  obtain ⟨a, rfl, ha⟩ := rv_cell.mp h
  obtain ⟨a', o, h1, h2, h3, h4⟩ := rp.at_ n _ e
  rw [ha] at h1; cases h1
  obtain ⟨vs, rfl, h5⟩ := h4
  exact ⟨a, vs, rfl, ha, h3, h5⟩
theorem seqIdx_len {S : Rp} {xs : List D} {vs : List V} (h : RVs C S xs vs) : xs.length = vs.length := h.length
theorem RVs.erase {S : Rp} : ∀ {ds : List D} {vs : List V} (i : Nat), RVs C S ds vs → RVs C S (ds.eraseIdx i) (vs.eraseIdx i)
  | [], vs, i, h => by rw [RVs] at h; subst h; exact .nil
  | d :: ds, vs, 0, h => by
    rw [RVs] at h
    obtain ⟨v, r, rfl, _, e3⟩ := h
    exact e3
  | d :: ds, vs, i + 1, h => by
    rw [RVs] at h
    obtain ⟨v, r, rfl, e2, e3⟩ := h
    exact .cons e2 (RVs.erase i e3)
theorem RVs.dropLast {S : Rp} {ds : List D} {vs : List V} (h : RVs C S ds vs) : RVs C S ds.dropLast vs.dropLast := by
  rw [List.dropLast_eq_take, List.dropLast_eq_take, h.length]
  exact h.take _
/-- the store of a cell changed -/
theorem set_post {S : Rp} {st : Store} {H : Hp} {n : Nat} {a : Addr} {o u : HO} {mo : MO} {d : D} {v : V} {Q : VK} {E : XK} (rp : Rep C S st H) (ha : S.m[n]? = some a) (hu : H a = some u) (ro : RO C S mo o) (rv : RV C S d v) (h : Post C (rV C) S H (.ok d (st.set n mo)) Q E) : Q v (upd H a o) :=
  h S _ v (Go.setC ha hu) (rp.setC ha ro) rv
def bmF (m : Bm) (fo : Fx D) (fa : Fx (List D)) : Fx D := fun ρ st => (fo ρ st).bind fun x st1 => match lstOf st1 x with
  | some _ => (fa ρ st1).bind fun xs st2 => bmeth m x xs st2
  | none => .bad
theorem tyV_lst {S : Rp} {st : Store} {H : Hp} {d : D} {xs : List D} {v : V} (hK : X.K = C.K) (rp : Rep C S st H) (rv : RV C S d v) (e : lstOf st d = some xs) : tyV X.K "list" v H := by
  obtain ⟨a, vs, rfl, h1, _⟩ := lstOf_some rp rv e
  rw [← hK] at h1
  exact .inl ⟨rfl, vs, h1⟩
theorem bmeth_lst {m : Bm} {d : D} {as : List D} {st : Store} {S : Rp} {H : Hp} {Q : VK} {E : XK} (h : Post C (rV C) S H (bmeth m d as st) Q E) : ∃ n xs, d = .cell n ∧ st[n]? = some (.lst xs) := by
  cases d <;> first | exact Post.bad (C := C) h | skip
  case cell n =>
    unfold bmeth at h
    cases z : st[n]? with
    | none => simp only [z] at h; exact h.bad
    | some mo =>
      simp only [z] at h
      cases mo with
      | lst xs => exact ⟨n, xs, rfl, z⟩
      | dct ks us => exact h.bad
      | ins c ns us => exact h.bad
      | dn _ _ => exact h.bad
theorem se_bm0 {fo : Fx D} {o : Expr} {name : Str} {apos cpos : Pos} (hX : XOk X C k E) (ho : SE X C E fo o) (hn : name = "pop") (hbase : attributeBase o name X.env (eval o X.env) = eval o X.env) (hline : (apos.endLine == cpos.line) = true) :
    SE X C E (bmF .pop fo nilF) (.Call (.Attribute o name apos) [] [] cpos) := by
  subst hn
  refine PE.weak (pe_bm0 PySem.F.plainAttrs_list PySem.F.slot_list_pop PySem.F.type_list_pop mt_pop ho hbase hline) fun σ H Q q => ?_
  obtain ⟨S, ρ, st, rp, rn, q⟩ := q
  refine ⟨S, ρ, st, rp, rn, Post.bind (rel2 := rV C) q fun d st1 S1 H1 v g1 rp1 rv1 h1 => ?_⟩
  cases w : lstOf st1 d with
  | none => rw [w] at h1; exact h1.bad
  | some ys =>
    rw [w] at h1
    have h1 : Post C (rV C) S1 H1 (bmeth .pop d [] st1) Q (E σ) := h1
    obtain ⟨n, xs, rfl, z⟩ := bmeth_lst h1
    unfold bmeth at h1
    simp only [z] at h1
    obtain ⟨a, vs, rfl, h2, h3, h4⟩ := cell_lst rp1 rv1 z
    cases y : xs[xs.length - 1]? with
    | none => simp only [y] at h1; exact h1.bad
    | some d =>
      simp only [y] at h1
      obtain ⟨w, e1, e2⟩ := h4.get y
      rw [h4.length] at e1
      exact ⟨.inl ⟨rfl, vs, .inl (.inl h3)⟩, a, vs, w, rfl, rfl, h3, e1, set_post rp1 h2 h3 (mo := .lst xs.dropLast) ⟨_, rfl, h4.dropLast⟩ e2 h1⟩
theorem se_bm1 {m : Bm} {fo : Fx D} {fa : Fx (List D)} {o e : Expr} {es : List Expr} {name : Str} {apos cpos : Pos} (hX : XOkS X C k E) (ho : SE X C E fo o) (ha : SA X C E fa (e :: es)) (hn : (name = "append" ∧ m = .append) ∨ (name = "pop" ∧ m = .popAt)) (hbase : attributeBase o name X.env (eval o X.env) = eval o X.env)
    (hfew : ((backTo cpos (starEach (e :: es) X.env)).all (fun x => !x.1) && (backToKw cpos (keywordEach [] X.env)).all (fun x => x.1.isSome) && decide ((e :: es).length + ([] : List Keyword).length + (if ([] : List Keyword).isEmpty then 0 else 1) < 30)) = true)
    (hline : (apos.endLine == cpos.line) = true) (hs : starEach (e :: es) X.env = (false, eval e X.env) :: starEach es X.env) (hplain : (backTo cpos (starEach es X.env)).any (·.1) = false) :
    SE X C E (bmF m fo fa) (.Call (.Attribute o name apos) (e :: es) [] cpos) := by
  have fin : ∀ {r : V → List V → Hp → VK → Prop}, PE X (.Call (.Attribute o name apos) (e :: es) [] cpos) (tBM X.K "list" r (tF C (rV C) E fo) (tF C (rVs C) E fa)) →
      (∀ S st H n v xs as avs Q σ, Rep C S st H → RV C S (.cell n) v → st[n]? = some (.lst xs) → RVs C S as avs → Post C (rV C) S H (bmeth m (.cell n) as st) Q (E σ) → r v avs H Q) →
      SE X C E (bmF m fo fa) (.Call (.Attribute o name apos) (e :: es) [] cpos) := fun {r} h kk =>
    PE.weak h fun σ H Q q => by
      obtain ⟨S, ρ, st, rp, rn, q⟩ := q
      refine ⟨S, ρ, st, rp, rn, Post.bind (rel2 := rV C) q fun d st1 S1 H1 v g1 rp1 rv1 h1 => ?_⟩
      cases w : lstOf st1 d with
      | none => rw [w] at h1; exact h1.bad
      | some ys =>
        rw [w] at h1
        refine ⟨tyV_lst hX.K rp1 rv1 w, S1, ρ, st1, rp1, rn.mono g1.ext, Post.bind (rel2 := rV C) h1 fun as st2 S2 H2 avs g2 rp2 ra h2 => ?_⟩
        obtain ⟨n, xs, rfl, z⟩ := bmeth_lst h2
        exact kk S2 st2 H2 n v xs as avs Q σ rp2 (RV.mono g2.ext rv1) z ra h2
  rcases hn with ⟨rfl, rfl⟩ | ⟨rfl, rfl⟩
  · refine fin (pe_bm PySem.F.plainAttrs_list PySem.F.slot_list_append PySem.F.type_list_append mt_append ho ha hbase hfew hline hs hplain) fun S st H n v xs as avs Q σ rp rv z ra h => ?_
    obtain ⟨a, vs, rfl, h2, h3, h4⟩ := cell_lst rp rv z
    unfold bmeth at h
    simp only [z] at h
    rcases as with _ | ⟨a0, _ | ⟨a1, t⟩⟩ <;> first | exact Post.bad (C := C) h | skip
    obtain ⟨w, rfl, rw'⟩ := rvs1 ra
    obtain ⟨hl, h⟩ := post_ite h
    exact ⟨a, vs, w, rfl, rfl, h3, by rw [← h4.length]; exact lim_lt (Nat.le_of_lt hl), set_post rp h2 h3 (mo := .lst (xs ++ [a0])) ⟨_, rfl, h4.append (.one rw')⟩ (rv_non.mpr rfl) h⟩
  · refine fin (pe_bm PySem.F.plainAttrs_list PySem.F.slot_list_pop PySem.F.type_list_pop mt_popAt ho ha hbase hfew hline hs hplain) fun S st H n v xs as avs Q σ rp rv z ra h => ?_
    obtain ⟨a, vs, rfl, h2, h3, h4⟩ := cell_lst rp rv z
    unfold bmeth at h
    simp only [z] at h
    rcases as with _ | ⟨a0, _ | ⟨a1, t⟩⟩
    · exact h.bad
    · cases a0 <;> first | exact Post.bad (C := C) h | skip
      case int i =>
        obtain ⟨w, rfl, rw'⟩ := rvs1 ra
        rw [rv_int] at rw'; subst rw'
        simp only at h
        cases y1 : seqIndex? i xs.length with
        | none => simp only [y1] at h; exact h.bad
        | some kk =>
          simp only [y1] at h
          cases y2 : xs[kk]? with
          | none => simp only [y2] at h; exact h.bad
          | some d =>
            simp only [y2] at h
            obtain ⟨hl, h⟩ := post_ite h
            rw [Bool.and_eq_true, decide_eq_true_eq, decide_eq_true_eq] at hl
            obtain ⟨w, e1, e2⟩ := h4.get y2
            exact ⟨a, vs, i, kk, w, rfl, rfl, h3, hl.1, hl.2, by rw [← h4.length]; exact y1, e1, set_post rp h2 h3 (mo := .lst (xs.eraseIdx kk)) ⟨_, rfl, h4.erase kk⟩ e2 h⟩
    · cases a0 <;> exact h.bad

/-! ### isinstance -/
theorem kit_all {K : PySem.W.Frag} : ∀ a ∈ ["NoneType", "int", "bool", "str", "tuple", "list", "dict"], ∀ b ∈ tyNames, PySem.W.kitOne K (.type a) (.type b) = some (a == b || (a == "bool" && b == "int")) := by
  have h : ∀ a ∈ ["NoneType", "int", "bool", "str", "tuple", "list", "dict"], ∀ b ∈ tyNames, kitB a b = some (a == b || (a == "bool" && b == "int")) := by decide +kernel
  exact fun a ha b hb => kit_ty (h a ha b hb)
theorem ty_rv {S : Rp} {st : Store} {H : Hp} {d : D} {v : V} {n : String} (hX : XOk X C k E) (rp : Rep C S st H) (rv : RV C S d v) (e : tyOf st d = some (.b n)) : n ∈ ["NoneType", "int", "bool", "str", "tuple", "list", "dict"] ∧ TyX X.K H v (.type n) := by
  unfold tyOf at e
  cases z : look st d with
  | none => rw [z] at e; cases e
  | some d' =>
    rw [z] at e
    have same : ∀ d', look st d = some d' → (∀ xs, d' ≠ .lst xs) → (∀ k v, d' ≠ .dct k v) → (∀ c n v, d' ≠ .obj c n v) → d = d' := fun d' e h1 h2 h3 => by
      cases d with
      | cell n =>
        rw [look_cell] at e
        cases y : st[n]? with
        | none => rw [y] at e; cases e
        | some mo =>
          rw [y] at e
          cases mo with
          | lst xs => cases e; exact absurd rfl (h1 xs)
          | dct ks us => cases e; exact absurd rfl (h2 ks us)
          | ins c ns us => cases e; exact absurd rfl (h3 c ns us)
          | dn _ _ => cases e
      | lck xs => cases e; exact absurd rfl (h1 xs)
      | _ => cases e; rfl
    cases d' with
    | non =>
      cases e
      have := same _ z (fun _ h => nomatch h) (fun _ _ h => nomatch h) (fun _ _ _ h => nomatch h)
      subst this
      rw [rv_non] at rv; subst rv
      exact ⟨by simp, .base .non⟩
    | bl b =>
      cases e
      have := same _ z (fun _ h => nomatch h) (fun _ _ h => nomatch h) (fun _ _ _ h => nomatch h)
      subst this
      rw [rv_bl] at rv; subst rv
      exact ⟨by simp, .base (.bl b)⟩
    | int i =>
      cases e
      have := same _ z (fun _ h => nomatch h) (fun _ _ h => nomatch h) (fun _ _ _ h => nomatch h)
      subst this
      rw [rv_int] at rv; subst rv
      exact ⟨by simp, .base (.int i)⟩
    | str x =>
      cases e
      have := same _ z (fun _ h => nomatch h) (fun _ _ h => nomatch h) (fun _ _ _ h => nomatch h)
      subst this
      rw [rv_str] at rv; subst rv
      exact ⟨by simp, .base (.str x)⟩
    | tup xs =>
      cases e
      obtain ⟨a, vs, rfl, h1, h2⟩ := look_tup rp rv z
      refine ⟨by simp, ?_⟩
      rw [hX.K]
      rcases h1 with (h1 | ⟨o, h1⟩) | ⟨o, its, n, h1, h2, _⟩
      · exact .base (.tup (rp.fz _ _ h1))
      · exact .fTuple (rp.fz _ _ h1)
      · exact .kTuple h1 h2
    | lst xs =>
      cases e
      obtain ⟨a, vs, rfl, h1, h2⟩ := look_lst rp rv z
      refine ⟨by simp, ?_⟩
      rw [hX.K]
      rcases h1 with (h1 | ⟨o, h1⟩) | ⟨o, its, n, h1, h2, _⟩
      · exact .base (.lst h1)
      · exact .base (.frz h1)
      · exact .kList h1 h2
    | dct ks us =>
      cases e
      obtain ⟨a, kvs, rfl, h1, h2, h3⟩ := look_dct rp rv z
      exact ⟨by simp, .base (.dK h1)⟩
    | obj c ns us => cases e
    | cell n => cases e
    | ty n => cases e
    | lck xs => cases e
def isinF (t : String) (f : Fx D) : Fx D := fun ρ st => (f ρ st).bind fun x st1 => match tyOf st1 x with
  | some (.b n) => if tyNames.contains t then .ok (.bl (n == t || (n == "bool" && t == "int"))) st1 else .bad
  | _ => .bad
theorem se_isin {t : String} {tn : Str} {f : Fx D} {e : Expr} {p p2 pos : Pos} (hX : XOk X C k E) (he : SE X C E f e) (hg : Gl X "isinstance") (hm : X.mg "isinstance" = none) (hg2 : Gl X tn) (hm2 : X.mg tn = none) (hb : bootBuiltins tn = some (.type t)) (hn : tn ≠ "__name__") (hd : (tn == ("__debug__" : Str)) = false)
    (hs : starEach [e, .Name tn p2] X.env = (false, eval e X.env) :: starEach [.Name tn p2] X.env) (hs2 : starEach [.Name tn p2] X.env = (false, eval (.Name tn p2) X.env) :: starEach [] X.env) (hpl : (backTo pos (starEach [.Name tn p2] X.env)).any (·.1) = false) :
    SE X C E (isinF t f) (.Call (.Name "isinstance" p) [e, .Name tn p2] [] pos) :=
  PE.weak (pe_callB call_isi hg hm (by decide +kernel) (pa_cons he (pa_cons (pe_bltn (v := .ty t) hg2 hm2 hb rfl hn hd) pa_nil hs2) hs) (by decide) (by decide) hs hpl) fun σ H Q q => by
    obtain ⟨S, ρ, st, rp, rn, q⟩ := q
    refine ⟨S, ρ, st, rp, rn, Post.bind (rel2 := rV C) q fun d st1 S1 H1 v g1 rp1 rv1 h1 => ?_⟩
    cases z : tyOf st1 d with
    | none => rw [z] at h1; exact h1.bad
    | some y =>
      rw [z] at h1
      cases y with
      | c x => exact h1.bad
      | b n =>
        obtain ⟨hc, h1⟩ := post_ite h1
        obtain ⟨hm, ty⟩ := ty_rv hX rp1 rv1 z
        exact ⟨v, .ty t, .type n, .type t, _, rfl, .ty t, ty, kit_all n hm t (by simpa using hc), post_same h1 rp1 (rv_bl.mpr rfl)⟩
end
end Px

/-! Px15: dict displays; stores to places. -/
namespace Px
open PySem PySem.Spec PyProof.Rows L2
section
variable {X : Cx} {C : Kc} {E E' : L2.St → XK} {k : Nat}

/-- an object that is being made: known to nobody -/
structure MineO (S1 : Rp) (H1 : Hp) (S : Rp) (H : Hp) (L0 : Addr) (o : HO) : Prop where
  go : Go S1 H1 S H
  at_ : H L0 = some o
  g : S.G L0 = none
  m : L0 ∉ S.m
theorem MineO.step {S1 S S' : Rp} {H1 H H' : Hp} {L0 : Addr} {o : HO} (a : MineO S1 H1 S H L0 o) (b : Go S H S' H') : MineO S1 H1 S' H' L0 o :=
  ⟨a.go.trans b, b.frame _ _ a.at_ a.m, (by
    cases e : S'.G L0 with
    | none => rfl
    | some o =>
      rcases b.newG L0 o e with q | q
      · rw [a.g] at q; cases q
      · rw [a.at_] at q; cases q), fun hm => (by
      rcases b.newM L0 hm with q | q
      · exact a.m q
      · rw [a.at_] at q; cases q)⟩
theorem MineO.put {S1 S : Rp} {H1 H : Hp} {L0 : Addr} {o o' : HO} (a : MineO S1 H1 S H L0 o) (h1 : H1 L0 = none) : MineO S1 H1 S (upd H L0 o') L0 o' :=
  ⟨⟨a.go.ext, fun x u e hm => by rw [upd_ne (ne_of_none e h1)]; exact a.go.frame x u e hm, fun x e => by
      by_cases q : x = L0
      · subst q; exact h1
      · rw [upd_ne q] at e; exact a.go.dom x e, a.go.newG, a.go.newM⟩, upd_same, a.g, a.m⟩
theorem Rep.mineO {S1 S : Rp} {st : Store} {H1 H : Hp} {L0 : Addr} {o o' : HO} (r : Rep C S st H) (a : MineO S1 H1 S H L0 o) : Rep C S st (upd H L0 o') :=
  ⟨fun x u e => by
    have : x ≠ L0 := fun q => by rw [q, a.g] at e; cases e
    rw [upd_ne this]; exact r.fz x u e, r.len, r.nd, fun n mo e => by
    obtain ⟨x, u, h1, h2, h3, h4⟩ := r.at_ n mo e
    have : x ≠ L0 := fun q => a.m (q ▸ List.mem_of_getElem? h1)
    exact ⟨x, u, h1, h2, by rw [upd_ne this]; exact h3, h4⟩⟩
/-- taken up: frozen -/
theorem mineO_fz {S1 S : Rp} {st : Store} {H1 H : Hp} {L0 : Addr} {o : HO} (r : Rep C S st H) (a : MineO S1 H1 S H L0 o) (h1 : H1 L0 = none) : Go S1 H1 (S.fz L0 o) H ∧ Rep C (S.fz L0 o) st H ∧ Ext S (S.fz L0 o) := by
  have ex : Ext S (S.fz L0 o) := Ext.fz a.g
  refine ⟨⟨a.go.ext.trans ex, a.go.frame, a.go.dom, fun x u e => ?_, a.go.newM⟩, ⟨fun x u e => ?_, r.len, r.nd, fun n mo e => ?_⟩, ex⟩
  · by_cases y : x = L0
    · subst y; exact .inr h1
    · have e : upd S.G L0 o x = some u := e
      rw [upd_ne y] at e; exact a.go.newG x u e
  · by_cases y : x = L0
    · subst y
      have e : upd S.G x o x = some u := e
      rw [upd_same] at e; cases e; exact a.at_
    · have e : upd S.G L0 o x = some u := e
      rw [upd_ne y] at e; exact r.fz x u e
  · obtain ⟨x, u, q1, q2, q3, q4⟩ := r.at_ n mo e
    have : x ≠ L0 := fun y => a.m (y ▸ List.mem_of_getElem? q1)
    exact ⟨x, u, q1, by show upd S.G L0 o x = none; rw [upd_ne this]; exact q2, q3, q4.mono' ex.w⟩
/-- taken up: a cell -/
theorem mineO_cl {S1 S : Rp} {st : Store} {H1 H : Hp} {L0 : Addr} {o : HO} {mo : MO} (r : Rep C S st H) (a : MineO S1 H1 S H L0 o) (h1 : H1 L0 = none) (ro : RO C S mo o) : Go S1 H1 (S.cl L0) H ∧ Rep C (S.cl L0) (st ++ [mo]) H ∧ RV C (S.cl L0) (.cell st.length) (.ref L0) := by
  have ex : Ext S (S.cl L0) := Ext.cl
  have hlast : (S.m ++ [L0])[st.length]? = some L0 := by rw [← r.len]; simp
  refine ⟨⟨a.go.ext.trans ex, a.go.frame, a.go.dom, a.go.newG, fun x hm => ?_⟩, ⟨r.fz, ?_, ?_, fun n mo' e => ?_⟩, rv_cell.mpr ⟨L0, rfl, hlast⟩⟩
  · have hm : x ∈ S.m ++ [L0] := hm
    rw [List.mem_append] at hm
    rcases hm with y | y
    · exact a.go.newM x y
    · simp at y; subst y; exact .inr h1
  · show (S.m ++ [L0]).length = (st ++ [mo]).length
    simp [r.len]
  · show (S.m ++ [L0]).Nodup
    rw [List.nodup_append]
    exact ⟨r.nd, by simp, fun x hx y hy => by simp at hy; subst hy; exact fun q => a.m (q ▸ hx)⟩
  · by_cases hn : n < st.length
    · rw [List.getElem?_append_left hn] at e
      obtain ⟨x, u, q1, q2, q3, q4⟩ := r.at_ n mo' e
      exact ⟨x, u, ex.w.m _ _ q1, q2, q3, q4.mono' ex.w⟩
    · have hn' : n = st.length := by
        have := (List.getElem?_eq_some_iff.mp e).1
        simp at this; omega
      subst hn'
      rw [List.getElem?_append_right (Nat.le_refl _)] at e
      simp at e; subst e
      exact ⟨L0, _, hlast, a.g, a.at_, ro.mono' ex.w⟩

/-! ### dict displays, the keys written -/
def kE : Expr → Option Key
  | .Constant (.int i) _ _ => some (.inl i)
  | .Constant (.str x) _ _ => some (.inr x)
  | _ => none
def dctF (mu : Nat) (ks : List Key) (f : Fx (List D)) : Fx D := fun ρ st => (f ρ st).bind fun xs st1 => if mu = 0 then .ok (.dct (ks.map kD) xs) st1 else .ok (.cell st1.length) (st1 ++ [.dct (ks.map kD) xs])
theorem pe_key {e : Expr} {kk : Key} (h : kE e = some kk) : PE X e (tC (kV kk)) := by
  unfold kE at h
  split at h
  · cases h; exact pe_int
  · cases h; exact pe_str
  · cases h
theorem merge_id : ∀ (kvs acc : List (Key × V)), ((acc ++ kvs).map (·.1)).Nodup → mergeK acc kvs = acc ++ kvs
  | [], acc, _ => by simp [mergeK]
  | p :: kvs, acc, h => by
    have hn : (acc.any fun kv => decide (kv.1 = p.1)) = false := by
      rw [Bool.eq_false_iff]
      intro hany
      rw [List.any_eq_true] at hany
      obtain ⟨q, hq, e⟩ := hany
      rw [decide_eq_true_eq] at e
      rw [List.map_append, List.map_cons, List.nodup_append] at h
      exact h.2.2 q.1 (List.mem_map_of_mem hq) p.1 List.mem_cons_self e
    show mergeK (L2.putK acc p.1 p.2) kvs = _
    have e : L2.putK acc p.1 p.2 = acc ++ [p] := by
      unfold L2.putK
      rw [hn]; rfl
    rw [e, merge_id kvs (acc ++ [p]) (by rw [List.append_assoc]; exact h), List.append_assoc]
    rfl
/-- pairs of written keys and values -/
structure SD (X : Cx) (C : Kc) (E : L2.St → XK) (pos : Pos) (keys : List (Option Expr)) (values : List Expr) (ks : List Key) (f : Fx (List D)) : Prop where
  run : ∃ trs, PPs X pos keys values trs ∧ ∀ (σ : L2.St) (S : Rp) (H : Hp) (ρ : Env) (st : Store) (Q : List (V × V) → Hp → Prop), Rep C S st H → REnv C S ρ σ →
    Post C (rVs C) S H (f ρ st) (fun vs H' => Q ((ks.map kV).zip vs) H') (E σ) → tPairs trs σ H Q
theorem sd_nil {pos : Pos} : SD X C E pos [] [] [] nilF := ⟨[], pps_nil, fun σ S H ρ st Q rp rn q => Post.end_ (C := C) (rel := rVs C) (b := []) q (.refl S H) rp .nil⟩
theorem sd_cons {pos : Pos} {ke v : Expr} {kk : Key} {keys : List (Option Expr)} {values : List Expr} {ks : List Key} {f : Fx D} {g : Fx (List D)} (hk : kE ke = some kk) (hv : SE X C E f v) (hr : SD X C E pos keys values ks g) :
    SD X C E pos (some ke :: keys) (v :: values) (kk :: ks) (consF f g) := by
  obtain ⟨trs, h1, h2⟩ := hr.run
  refine ⟨(tC (kV kk), tF C (rV C) E f) :: trs, pps_cons (pe_key hk) hv h1, fun σ S H ρ st Q rp rn q => ?_⟩
  refine ⟨S, ρ, st, rp, rn, Post.bind (rel2 := rVs C) q fun d st1 S1 H1 v g1 rp1 rv1 q1 => ?_⟩
  refine h2 σ S1 H1 ρ st1 _ rp1 (rn.mono g1.ext) (Post.bind (rel2 := rVs C) q1 fun ds st2 S2 H2 vs g2 rp2 rv2 q2 => ?_)
  exact Post.end_ (C := C) (rel := rVs C) (b := v :: vs) q2 (.refl S2 H2) rp2 (.cons (RV.mono g2.ext rv1) rv2)
theorem zip_kvs : ∀ {ks : List Key} {vs : List V}, ks.length = vs.length → (ks.map kV).zip vs = (ks.zip vs).map fun kv => (kV kv.1, kv.2)
  | [], [], _ => rfl
  | kk :: ks, v :: vs, h => by simp [zip_kvs (ks := ks) (vs := vs) (by simpa using h)]
theorem se_dct {mu : Nat} {pos : Pos} {keys : List (Option Expr)} {values : List Expr} {ks : List Key} {f : Fx (List D)} (h : SD X C E pos keys values ks f) (hall : keys.all (·.isSome) = true) (hl : keys.length = values.length) (h0 : keys ≠ []) (h15 : keys.length ≤ 15) (hks : ks.length = keys.length) (hnd : ks.Nodup)
    (hfl : ∀ ρ st xs st', f ρ st = .ok xs st' → xs.length = ks.length) : SE X C E (dctF mu ks f) (.Dict keys values pos) := by
  obtain ⟨trs, h1, h2⟩ := h.run
  refine PE.weak (pe_disp h1 hall hl h0 h15) fun σ H Q q => ?_
  obtain ⟨S, ρ, st, rp, rn, q⟩ := q
  intro p hp
  refine h2 σ S _ ρ st _ (rp.drop hp) rn ?_
  cases e : f ρ st with
  | bad => unfold dctF at q; rw [e] at q; exact q.bad
  | ex c ns us st' =>
    unfold dctF at q
    rw [e] at q
    have q : Post C (rV C) S H (.ex c ns us st') Q (E σ) := q
    exact fun S' H' cls dd g rp' xr => q S' H' cls dd ((Go.drop hp).trans g) rp' xr
  | ok xs st' =>
    have hx := hfl ρ st xs st' e
    unfold dctF at q
    rw [e] at q
    intro S' H' vs g rp' rvs
    have rvs : RVs C S' xs vs := rvs
    have mi : MineO S H S' H' p (.dK []) := MineO.step ⟨Go.drop hp, upd_same, rp.free hp, rp.notin hp⟩ g
    have hlv : ks.length = vs.length := by rw [← hx]; exact rvs.length
    have hz1 : (ks.zip vs).map (·.1) = ks := zip_fst hlv
    have hz2 : (ks.zip vs).map (·.2) = vs := zip_snd hlv
    refine ⟨mi.at_, ks.zip vs, zip_kvs hlv, by rw [List.length_zip]; omega, ?_⟩
    have hm : mergeK [] (ks.zip vs) = ks.zip vs := merge_id _ [] (by rw [List.nil_append, hz1]; exact hnd)
    rw [hm]
    have mi2 := mi.put (o' := .dK (ks.zip vs)) hp
    have rp2 := rp'.mineO (o' := .dK (ks.zip vs)) mi
    have q : Post C (rV C) S H (if mu = 0 then .ok (.dct (ks.map kD) xs) st' else .ok (.cell st'.length) (st' ++ [.dct (ks.map kD) xs])) Q (E σ) := q
    have hkd : ks.map kD = (ks.zip vs).map fun pp => kD pp.1 := by
      conv => lhs; rw [← hz1]
      rw [List.map_map]; rfl
    split at q
    · obtain ⟨a1, a2, a3⟩ := mineO_fz rp2 mi2 hp
      exact q _ _ _ a1 a2 (rv_dct.mpr ⟨p, _, rfl, upd_same, hkd, by rw [hz2]; exact rvs.mono a3⟩)
    · obtain ⟨a1, a2, a3⟩ := mineO_cl (mo := .dct (ks.map kD) xs) rp2 mi2 hp ⟨_, rfl, hkd, by rw [hz2]; exact rvs⟩
      exact q _ _ _ a1 a2 a3
theorem se_dct0 {mu : Nat} {pos : Pos} : SE X C E (fun _ st => if mu = 0 then .ok (.dct [] []) st else .ok (.cell st.length) (st ++ [.dct [] []])) (.Dict [] [] pos) :=
  PE.weak pe_dnewK fun σ H Q q => by
    obtain ⟨S, ρ, st, rp, rn, q⟩ := q
    intro p hp
    split at q
    · exact q _ _ _ (Go.newF (rp.free hp) hp) (rp.newF hp) (rv_dct.mpr ⟨p, [], rfl, upd_same, rfl, .nil⟩)
    · refine q _ _ _ (Go.newC hp) (rp.newC (mo := .dct [] []) hp ⟨[], rfl, rfl, .nil⟩) (rv_cell.mpr ⟨p, rfl, ?_⟩)
      show (S.m ++ [p])[st.length]? = some p
      rw [← rp.len]; simp

/-! ### o[i] = v -/
theorem putK_any {kk : Key} : ∀ {kvs : List (Key × V)} {us : List D}, us.length = kvs.length → (lookK kk (kvs.map fun p => kD p.1) us).isSome = kvs.any fun kv => decide (kv.1 = kk)
  | [], us, h => by cases us <;> rfl
  | p :: kvs, [], h => by simp at h
  | p :: kvs, u :: us, h => by
    obtain ⟨key, v0⟩ := p
    have e' : lookK kk (((key, v0) :: kvs).map fun p => kD p.1) (u :: us) = if kk = key then some u else lookK kk (kvs.map fun p => kD p.1) us := by cases key <;> rfl
    rw [e', List.any_cons]
    by_cases z : kk = key
    · rw [if_pos z]; simp [z]
    · rw [if_neg z, putK_any (kvs := kvs) (us := us) (by simpa using h)]
      simp [Ne.symm z]
theorem putK_map {S : Rp} {kk : Key} {u : D} {w : V} (hu : RV C S u w) : ∀ {kvs : List (Key × V)} {us : List D}, (kvs.map (·.1)).Nodup → RVs C S us (kvs.map (·.2)) → RVs C S (putK kk u (kvs.map fun p => kD p.1) us) ((kvs.map fun kv => if kv.1 = kk then (kv.1, w) else kv).map (·.2))
  | [], us, _, h => by rw [List.map_nil, RVs.eq_def] at h; cases us <;> first | exact .nil | (obtain ⟨_, _, e, _⟩ := h; cases e)
  | p :: kvs, us, nd, h => by
    obtain ⟨key, v0⟩ := p
    cases us with
    | nil => rw [RVs] at h; cases h
    | cons d us =>
      rw [List.map_cons, RVs] at h
      obtain ⟨v, r, h0, h1, h2⟩ := h
      injection h0 with h0 h0'
      subst h0 h0'
      have e' : putK kk u (((key, v0) :: kvs).map fun p => kD p.1) (d :: us) = if kk = key then u :: us else d :: putK kk u (kvs.map fun p => kD p.1) us := by cases key <;> rfl
      rw [e', List.map_cons, List.map_cons]
      by_cases z : kk = key
      · rw [if_pos z]
        subst z
        rw [if_pos rfl]
        refine .cons hu ?_
        have : (kvs.map fun kv => if kv.1 = kk then (kv.1, w) else kv) = kvs := by
          rw [List.map_cons, List.nodup_cons] at nd
          refine (List.map_congr_left fun kv hkv => ?_).trans (List.map_id _)
          have : kv.1 ≠ kk := fun q => nd.1 (List.mem_map.mpr ⟨kv, hkv, q⟩)
          rw [if_neg this]; rfl
        rw [this]; exact h2
      · rw [if_neg z, if_neg (fun q => z q.symm)]
        rw [List.map_cons, List.nodup_cons] at nd
        exact .cons h1 (putK_map hu nd.2 h2)
def setIF (fo fi fv : Fx D) : FS := runE fv fun v ρ st => runE fo (fun o ρ st => runE fi (fun i ρ st => match setD o i v st with
  | some st' => .ok (.nx ρ) st'
  | none => .bad) ρ st) ρ st
/-- an expression of a statement run, what it hands on -/
theorem es_step {f : Fx D} {e : Expr} (he : SE X C E f e) {g : D → Env → Store → R F} {De : Ends} {pins : List (Addr × Obj)} {s : Shared} {σ : L2.St} {H : Hp} {S : Rp} {ρ : Env} {st : Store}
    (I : Inv X pins σ H s) (rp : Rep C S st H) (rn : REnv C S ρ σ) (q : PostS C E De S H (runE f g ρ st)) {P : Value → Shared → Prop}
    (kk : ∀ u s1 v H1 S1 st1 d, Inv X pins σ H1 s1 → RelV v u → Go S H S1 H1 → Rep C S1 st1 H1 → RV C S1 d v → PostS C E De S1 H1 (g d ρ st1) → P u s1) : wpAny (model X.prog X.w) X.A (eval e X.env) P X.xe s := by
  refine thn (he.run pins s σ H (fun v H1 => ∃ S1 st1 d, Go S H S1 H1 ∧ Rep C S1 st1 H1 ∧ RV C S1 d v ∧ PostS C E De S1 H1 (g d ρ st1)) I ⟨S, ρ, st, rp, rn, runE_post rn q fun d st1 S1 H1 v g1 rp1 rv1 h1 => ⟨S1, st1, d, g1, rp1, rv1, h1⟩⟩) ?_
  rintro u s1 ⟨v, H1, I1, r1, S1, st1, d, g1, rp1, rv1, h1⟩
  exact kk u s1 v H1 S1 st1 d I1 r1 g1 rp1 rv1 h1
/-- in a list or in a dict -/
theorem ss_setI {fo fi fv : Fx D} {o i e : Expr} {pos' pos : Pos} (hX : XOk X C k E) (ho : SE X C E fo o) (hi : SE X C E fi i) (hv : SE X C E fv e) (hs : swapsWith e (some (.Subscript o i pos')) pos.line X.env = pure false) :
    SS X C E (setIF fo fi fv) (.Assign [.Subscript o i pos'] e pos) := by
  refine ⟨fun pins s σ H De I h => ?_⟩
  obtain ⟨S, ρ, st, rp, rn, h⟩ := h
  refine wpAny_Assign_Subscript (es_step hv I rp rn h fun r s1 v H1 S1 st1 d I1 rv g1 rp1 rd1 h1 =>
    es_step ho I1 rp1 (rn.mono g1.ext) h1 fun u s2 x H2 S2 st2 dx I2 rx g2 rp2 rx2 h2 =>
    es_step hi I2 rp2 ((rn.mono g1.ext).mono g2.ext) h2 fun iv s3 y H3 S3 st3 dy I3 ry g3 rp3 ry3 h3 => ?_) hs
  have rn3 := ((rn.mono g1.ext).mono g2.ext).mono g3.ext
  have rd3 : RV C S3 d v := (RV.mono g2.ext rd1).mono g3.ext
  have rx3 : RV C S3 dx x := RV.mono g3.ext rx2
  cases z : setD dx dy d st3 with
  | none => rw [z] at h3; exact h3.bad
  | some st4 =>
    rw [z] at h3
    unfold setD at z
    cases dx with
    | cell n =>
      simp only at z
      cases y1 : st3[n]? with
      | none => simp only [y1] at z; cases z
      | some mo =>
        simp only [y1] at z
        obtain ⟨a, rfl, hm⟩ := rv_cell.mp rx3
        obtain ⟨a', o', q1, q2, q3, q4⟩ := rp3.at_ n mo y1
        rw [hm] at q1; cases q1
        cases mo with
        | lst xs =>
          simp only at z
          cases dy with
          | int kk =>
            simp only at z
            cases y2 : ixN xs.length kk with
            | none => rw [y2] at z; cases z
            | some j =>
              rw [y2] at z; cases z
              obtain ⟨vs, rfl, q5⟩ := q4
              rw [rv_int] at ry3; subst ry3
              refine thn (set_list pins s3 σ H3 (.ref a) (.int kk) v u iv r (fun H4 => De.nx σ H4) I3 rx ry rv ⟨a, vs, kk, j, rfl, rfl, q3, by rw [← q5.length]; exact y2, ?_⟩) fun _ s4 ⟨H4, I4, q⟩ => ⟨σ, H4, I4, q⟩
              exact h3 S3 _ (Go.setC hm q3) (rp3.setC (mo := .lst (xs.set j d)) hm ⟨_, rfl, q5.set j rd3⟩) σ rn3
          | _ => cases z
        | dct ks us =>
          simp only at z
          cases y2 : keyOf dy with
          | none => simp only [y2] at z; cases z
          | some kk =>
            simp only [y2] at z
            split at z
            · rename_i hlim
              obtain ⟨kvs, rfl, q5, q6⟩ := q4
              have ey := keyOf_rv ry3 y2
              subst ey
              have hok : ObjOk X.prog X.w H3 s3.heap a (.dK kvs) := I3.hok a _ q3
              obtain ⟨_, _, vs2, kv, _, _, _, _, _, _, _, _, nd2⟩ := hok
              have nd : (kvs.map (·.1)).Nodup := by
                have : ∀ {a : List (Key × V)} {b : List (Key × Value)}, KV a b → a.map (·.1) = b.map (·.1) := by
                  intro a b h
                  induction h with
                  | nil => rfl
                  | cons e _ ih => simp [e.1, ih]
                rw [this kv]; exact nd2
              have hlen : kvs.length < sizeLine := by
                rw [q5, List.length_map] at hlim
                exact lim_lt (Nat.le_of_lt hlim)
              have hul : us.length = kvs.length := by rw [q6.length, List.length_map]
              cases rx
              refine d_setItem (hu_of hX.room) I3 (DPut.k (v := v) q3 hlen) ry rv fun s4 I4 => ⟨σ, upd H3 a (.dK (L2.putK kvs kk v)), I4, ?_⟩
              have hany := putK_any (kk := kk) hul
              rw [← q5] at hany
              cases y3 : lookK kk ks us with
              | some w0 =>
                rw [y3] at hany
                simp only [y3] at z
                cases z
                refine h3 S3 _ (Go.setC hm q3) (rp3.setC (mo := .dct ks (putK kk d ks us)) hm ⟨_, rfl, ?_, ?_⟩) σ rn3
                · unfold L2.putK
                  rw [← hany]
                  show ks = List.map _ (List.map _ kvs)
                  rw [List.map_map, q5]
                  refine List.map_congr_left fun kv _ => ?_
                  show kD kv.1 = kD (if kv.1 = kk then (kv.1, v) else kv).1
                  split <;> rfl
                · have := putK_map (kk := kk) rd3 nd q6
                  rw [← q5] at this
                  unfold L2.putK
                  rw [← hany]
                  exact this
              | none =>
                rw [y3] at hany
                simp only [y3] at z
                cases z
                refine h3 S3 _ (Go.setC hm q3) (rp3.setC (mo := .dct (ks ++ [dy]) (us ++ [d])) hm ⟨_, rfl, ?_, ?_⟩) σ rn3
                · unfold L2.putK
                  rw [← hany]
                  show ks ++ [dy] = List.map _ (kvs ++ [(kk, v)])
                  rw [List.map_append, q5]
                  congr 1
                  cases dy with
                  | int i => cases y2; rfl
                  | str x => cases y2; rfl
                  | _ => cases y2
                · unfold L2.putK
                  rw [← hany]
                  show RVs C S3 (us ++ [d]) (List.map _ (kvs ++ [(kk, v)]))
                  rw [List.map_append]
                  exact q6.append (.one rd3)
            · cases z
        | ins c ns us => cases z
        | dn _ _ => cases z
    | _ => cases z
end
end Px

/-! Px16: the law's own end. -/
namespace Px
open PySem PySem.Spec PyProof.Rows L2
theorem rvs_ints {C : Kc} {S : Rp} : ∀ ns : List Int, RVs C S (ns.map .int) (ns.map V.int)
  | [] => .nil
  | n :: ns => .cons (rv_int.mpr rfl) (rvs_ints ns)
theorem law_callD {P : Program} {w : World} {C : Kc} {mg mb : Str → Option Value} {k : Nat} {fa a : Addr} {fd : FuncData} {Fu : Fn} {x : Str} {s₁ : Shared} {vs : List Value} {ns : List Int}
    (KX : C.K.In s₁.heap) (hns : s₁.heap.Ns mainGlobals mg) (hb : s₁.heap.Ns builtinsNs mb) (hbb : ∀ x : Str, x ≠ "__name__" → mb x = bootBuiltins x) (hlim : s₁.heap.NoLimit) (hsm : ∃ mm, s₁.heap.Ns sysModules mm) (hg : s₁.gens = #[])
    (ha : s₁.heap.get? a = some { cls := .type "list", data := .seq vs.toArray }) (hi : IntsAre vs ns) (hl : ns.length ≤ sizeLine) (hr : Room k callerA) (hps : Fu.ps = [x])
    (F : ∀ base : Heap, C.K.In base → base.Ns mainGlobals mg → (∃ o, base.get? sysModules = some o) → FnD P w C mg base k fa fd Fu) (hbind : ∀ (s : Shared) (u : Value), BindsTo s fd ⟨[u], []⟩ [(x, u)])
    (hsp : ∃ st', Fu.run [.lck (ns.map .int)] [] = .ok (.bl true) st') :
    codeAny (model P w) callerA (.call (.ref fa) ⟨[.ref a], []⟩) (fun r s' => r = .ok (.ret (.bool true)) ∧ OldK s₁.heap s'.heap ∧ s'.os = s₁.os ∧ AllBare s'.gens) s₁ := by
  have rv := vals_ints hi
  have lenV := hi.length
  obtain ⟨st', hrun⟩ := hsp
  have core : ∀ H : Hp, Only H → SqL C.K H a (ns.map V.int) → HOk P w H s₁.heap → (∀ b, H b ≠ none → b = a) → (H a ≠ none → C.K.lookup a = none) →
      codeAny (model P w) callerA (.call (.ref fa) ⟨[.ref a], []⟩) (fun r s' => r = .ok (.ret (.bool true)) ∧ OldK s₁.heap s'.heap ∧ s'.os = s₁.os ∧ AllBare s'.gens) s₁ := by
    intro H hO hS hok hA hK
    have base_of : ∀ {b : Addr} {o : Obj}, s₁.heap.get? b = some o → H b = none → (hidT s₁.heap H).get? b = some o := fun e n => hidT_get e n
    have noA : ∀ {b : Addr} {o : Obj} {es : Array DictEntry} {ep : Nat}, s₁.heap.get? b = some o → o.data = .dict es ep → H b = none := fun {b o es ep} e d => by
      cases q : H b with
      | none => rfl
      | some u =>
        have e' : b = a := hA b (by rw [q]; simp)
        subst e'
        rw [ha] at e; cases e
        have d' : Data.seq vs.toArray _ = Data.dict es ep := d
        cases d'
    have nsK : ∀ {b : Addr} {m : Str → Option Value}, s₁.heap.Ns b m → (hidT s₁.heap H).Ns b m := fun {b m} ⟨o, es, ep, e, d, r⟩ => ⟨o, es, ep, base_of e (noA e d), d, r⟩
    have hKb : C.K.In (hidT s₁.heap H) := fun b o e => base_of (KX b o e) (by
      cases q : H b with
      | none => rfl
      | some u =>
        have e' : b = a := hA b (by rw [q]; simp)
        subst e'
        rw [hK (by rw [q]; simp)] at e; cases e)
    have hM : Mod C.K mg (hidT s₁.heap H) := ⟨hKb, nsK hns, ⟨mb, nsK hb, hbb⟩, let ⟨mc, h1, h2⟩ := hlim; ⟨mc, nsK h1, h2⟩⟩
    have e0 : Env0 P w C.K mg (hidT s₁.heap H) callerA [] s₁ H := ⟨rfl, hM, fun b o e => of_hidT e, Nat.le_of_eq (hidT_size _ _), trivial, fun b hb => absurd (show b ∈ ([] : List Addr) from hb) (by simp), hok, .of_eq hg⟩
    have hsm' : ∃ o, (hidT s₁.heap H).get? sysModules = some o := by
      obtain ⟨mm, hm⟩ := hsm
      obtain ⟨o, es, ep, e, _⟩ := nsK hm
      exact ⟨o, e⟩
    let S : Rp := ⟨H, []⟩
    have rp : Rep C S [] H := ⟨fun _ _ e => e, rfl, List.nodup_nil, fun n mo e => by simp at e⟩
    have rvS : RV C S (.lck (ns.map .int)) (.ref a) := rv_lck.mpr ⟨a, _, rfl, hS, rvs_ints ns⟩
    refine codeAny_mono ((F _ hKb (nsK hns) hsm').run callerA [] s₁ H ⟨[.ref a], []⟩ [.ref a] [.ref a] (fun v _ => v = .bl true) (fun _ _ _ => False) S [] [.lck (ns.map .int)] hr rfl e0 (by rw [hps]; exact hbind s₁ (.ref a)) (.cons rfl .nil) rp (.cons rvS .nil) (by rw [hps]; rfl) ?_) fun r s' h => ?_
    · rw [hrun]
      exact fun S' H' b g rp' rl => rv_bl.mp rl
    cases r with
    | error e =>
      obtain ⟨cls, dd, H', h⟩ := h
      exact absurd h (by
        intro h
        first
          | exact h.elim
          | (obtain ⟨_, _, _, _, _, _, h⟩ := h; exact h.elim)
          | (simp at h))
    | ok fl =>
      cases fl with
      | next => exact False.elim h
      | brk => exact False.elim h
      | cont => exact False.elim h
      | ret u =>
        obtain ⟨v, H', os, bare, un, hok', r', q⟩ := h
        have q' : v = .bl true := q
        subst q'
        obtain rfl : u = Value.bool true := r'
        refine ⟨rfl, OldK.of_keep fun b o e => ?_, os, bare⟩
        cases q : H b with
        | none => exact un.keep b o e q (by intro z; exact absurd (show b ∈ ([] : List Addr) from z) (by simp)) (by simp)
        | some u =>
          rcases hO b with z | ⟨ob, xs, z⟩
          · rw [q] at z; cases z
          · have z2 := un.frzs b ob _ z
            obtain ⟨e1, _⟩ := hok b _ z
            obtain ⟨e2, _⟩ := hok' b _ z2
            rw [e] at e1; cases e1
            exact e2
  cases hk : C.K.lookup a with
  | some o =>
    have e := KX a o hk
    rw [ha] at e
    cases e
    refine core (fun _ => none) (fun _ => .inl rfl) (.inr ⟨_, vs.toArray, _, hk, rfl, rfl, rfl, by rw [List.size_toArray, lenV]; exact hl, by simpa using rv⟩) (fun b u z => by have z' : (none : Option HO) = some u := z; cases z') (fun b z => absurd rfl z) fun z => absurd rfl z
  | none =>
    refine core (fun b => if b = a then some (.frz { cls := .type "list", data := .seq vs.toArray } (.lst (ns.map V.int))) else none) (fun b => ?_) (.inl (.inr ⟨{ cls := .type "list", data := .seq vs.toArray }, if_pos rfl⟩)) (fun b u z => ?_) (fun b z => ?_) fun _ => hk
    · by_cases hb : b = a
      · exact .inr ⟨_, _, if_pos hb⟩
      · exact .inl (if_neg hb)
    · by_cases hb : b = a
      · have z' := (if_pos hb).symm.trans z
        cases z'
        subst hb
        exact ⟨ha, by rw [List.length_map]; exact hl, vs, _, rv, ha⟩
      · have z' := (if_neg hb).symm.trans z
        cases z'
    · by_cases hb : b = a
      · exact hb
      · exact absurd (if_neg hb) z

/-- the goal that k_head leaves, from the law's own def -/
theorem walk_ofD {l : PySem.W.OpenLaw} {n k : Nat} {q : Program} {loose : List Str} {XP : (Str → Option Value) → Heap → Prop} {YP : World → Heap → Prop} {d : DefRec} {x : Str} {Fu : Fn}
    (C : World → Kc) (hn : l.most = some n) (hn2 : n ≤ sizeLine) (hdf : d.params.defaults = []) (hr : Room k callerA) (hps : Fu.ps = [x]) (him : importsNone q = true)
    (hY : ∀ (w : World) (h : Heap), YP w h → (C w).K.In h)
    (F : ∀ (w : World) (mg : Str → Option Value) (fa : Addr) (h : Heap), (C w).K.In h → h.Ns mainGlobals mg → mg d.name = some (.ref fa) →
      ∃ fd : FuncData, (∀ (s : Shared) (u : Value), BindsTo s fd ⟨[u], []⟩ [(x, u)]) ∧
        ∀ base : Heap, (C w).K.In base → base.Ns mainGlobals mg → (∃ o, base.get? sysModules = some o) → FnD l.prog w (C w) mg base k fa fd Fu)
    (hsp : ∀ ns : List Int, ns.length ≤ n → ∃ st', Fu.run [.lck (ns.map .int)] [] = .ok (.bl true) st') :
    PySem.W.WalkO q loose XP YP l.row.toRowW d [] (fun f vs => PySem.call f vs) := by
  refine Att.attach_call hn hdf fun w s₀ s₁ mg mb fa o pm cd doc a vs ns G Y ho hd hcd hmg hobj hints hlen hg => ?_
  have KX := hY w _ Y
  obtain ⟨fd, hb, hF⟩ := F w mg fa _ KX G.T.g hmg
  exact law_callD KX G.T.g G.T.b G.T.builtins G.T.nolimit (let ⟨mm, h, _⟩ := (G.T.seer him).mods; ⟨mm, h⟩) hg hobj hints (Nat.le_trans hlen hn2) hr hps hF hb (hsp ns hlen)
end Px

/-! Px17: what stands at the top; rules in short. -/
namespace Px
open PySem PySem.Spec PyProof.Rows L2

/-! ### constants of the module -/
mutual
/-- a value of the written part, by value -/
def cvB (K : PySem.W.Frag) : D → Value → Bool
  | .non, .none => true
  | .bl b, .bool c => b == c
  | .int i, .int j _ => decide (i = j)
  | .str x, .str y _ => decide (x = y)
  | .tup ds, .ref a => (match K.lookup a with
    | some ⟨.type c, _, .seq its _, _⟩ => decide (c = "tuple") && (decide (its.size ≤ sizeLine) && cvBs K ds its.toList)
    | _ => false)
  | _, _ => false
def cvBs (K : PySem.W.Frag) : List D → List Value → Bool
  | [], [] => true
  | d :: ds, u :: us => cvB K d u && cvBs K ds us
  | _, _ => false
end
mutual
theorem cvB_ok {C : Kc} {S : Rp} : ∀ (d : D) (u : Value), cvB C.K d u = true → ∃ v, RelV v u ∧ ∀ S, RV C S d v
  | .non, u, h => by
    cases u with
    | none => exact ⟨.non, rfl, fun S => rv_non.mpr rfl⟩
    | _ => unfold cvB at h; cases h
  | .bl b, u, h => by
    cases u with
    | bool c =>
      unfold cvB at h
      have e : b = c := eq_of_beq h
      exact ⟨.bl b, by rw [e]; rfl, fun S => rv_bl.mpr rfl⟩
    | _ => unfold cvB at h; cases h
  | .int i, u, h => by
    cases u with
    | int j t =>
      unfold cvB at h
      have e : i = j := of_decide_eq_true h
      exact ⟨.int i, ⟨t, by rw [e]⟩, fun S => rv_int.mpr rfl⟩
    | _ => unfold cvB at h; cases h
  | .str i, u, h => by
    cases u with
    | str j t =>
      unfold cvB at h
      have e : i = j := of_decide_eq_true h
      exact ⟨.str i, ⟨t, by rw [e]⟩, fun S => rv_str.mpr rfl⟩
    | _ => unfold cvB at h; cases h
  | .tup ds, u, h => by
    cases u with
    | ref a =>
      unfold cvB at h
      cases q : C.K.lookup a with
      | none => rw [q] at h; cases h
      | some o =>
        obtain ⟨oc, od, dt, osl⟩ := o
        rw [q] at h
        cases oc with
        | type c =>
          cases dt with
          | seq its n =>
            have h : (decide (c = "tuple") && (decide (its.size ≤ sizeLine) && cvBs C.K ds its.toList)) = true := h
            rw [Bool.and_eq_true, Bool.and_eq_true, decide_eq_true_eq, decide_eq_true_eq] at h
            obtain ⟨h1, h2, h3⟩ := h
            obtain ⟨vs, h4, h5⟩ := cvBs_ok (C := C) (S := S) ds _ h3
            exact ⟨.ref a, rfl, fun S => rv_tup.mpr ⟨a, vs, rfl, .inr ⟨_, its, n, q, congrArg Value.type h1, rfl, h2, h4⟩, h5 S⟩⟩
          | _ => cases h
        | _ => cases dt <;> cases h
    | _ => unfold cvB at h; cases h
  | .lst _, u, h => by unfold cvB at h; cases h
  | .dct _ _, u, h => by unfold cvB at h; cases h
  | .obj _ _ _, u, h => by unfold cvB at h; cases h
  | .cell _, u, h => by unfold cvB at h; cases h
  | .ty _, u, h => by unfold cvB at h; cases h
  | .lck _, u, h => by unfold cvB at h; cases h
theorem cvBs_ok {C : Kc} {S : Rp} : ∀ (ds : List D) (us : List Value), cvBs C.K ds us = true → ∃ vs, Vals vs us ∧ ∀ S, RVs C S ds vs
  | [], us, h => by
    cases us with
    | nil => exact ⟨[], .nil, fun S => .nil⟩
    | cons u us => unfold cvBs at h; cases h
  | d :: ds, us, h => by
    cases us with
    | nil => unfold cvBs at h; cases h
    | cons u us =>
      unfold cvBs at h
      rw [Bool.and_eq_true] at h
      obtain ⟨v, h1, h2⟩ := cvB_ok (C := C) (S := S) d u h.1
      obtain ⟨vs, h3, h4⟩ := cvBs_ok (C := C) (S := S) ds us h.2
      exact ⟨v :: vs, .cons h1 h3, fun S => .cons (h2 S) (h4 S)⟩
end
def cstB (K : PySem.W.Frag) (x : Str) (d : D) : Bool := match PySem.W.nsIn K mainGlobals x with
  | some (some u) => cvB K d u
  | _ => false
theorem cst_ok {C : Kc} {h : Heap} {mg : Str → Option Value} (X : C.K.In h) (G : h.Ns mainGlobals mg) {x : Str} {d : D} (c : cstB C.K x d = true) : ∃ u v, mg x = some u ∧ RelV v u ∧ ∀ S, RV C S d v := by
  unfold cstB at c
  cases e : PySem.W.nsIn C.K mainGlobals x with
  | none => rw [e] at c; cases c
  | some r =>
    rw [e] at c
    cases r with
    | none => cases c
    | some u =>
      obtain ⟨v, h1, h2⟩ := cvB_ok (C := C) (S := ⟨fun _ => none, []⟩) d u c
      exact ⟨u, v, PySem.W.mg_of X G e, h1, h2⟩
/-! ### the Hook -/
abbrev AlP : Type := Bool × List He.FnW
def obsP (fa : List He.Fa) (fn : List He.DefD) (cs : List (Str × D)) (K : PySem.W.Frag) : AlP := ((fa.all fun f => f.ok K) && ((fn.all fun d => d.ok K) && cs.all fun c => cstB K c.1 c.2), fn.map fun d => He.fnW K d.at_)
def valP (fn : List He.DefD) : AlP := (true, fn.map He.DefD.val)
def SaysP (fa : List He.Fa) (fn : List He.DefD) (cs : List (Str × D)) (K : PySem.W.Frag) : Prop := obsP fa fn cs K = valP fn
def obsPG (n : Nat) (fa : List He.Fa) (fn : List He.DefD) (cs : List (Str × D)) (g : Addr → Option Obj) : AlP := obsP fa fn cs (He.frG g (He.asD g n))
def hookP (n : Nat) (fa : List He.Fa) (fn : List He.DefD) (cs : List (Str × D)) : PySem.W.Hook where
  α := AlP
  obs := fun s => obsPG n fa fn cs s.heap.get?
  val := fun _ => valP fn
  says := fun _ h => ∃ K : PySem.W.Frag, K.In h ∧ SaysP fa fn cs K
  of := fun _ _ e => ⟨_, He.frG_in, e⟩
  keeps := fun _ _ _ ⟨K, hK, c⟩ k => ⟨K, PySem.W.Frag.In.keeps hK k, c⟩
theorem obsPG_eq {n : Nat} {fa : List He.Fa} {fn : List He.DefD} {cs : List (Str × D)} {g : Addr → Option Obj} {s : Shared} (h : ∀ a, g a = s.heap.get? a) : obsPG n fa fn cs g = (hookP n fa fn cs).obs s := by
  have e : g = s.heap.get? := funext h
  rw [e] <;> rfl
/-- what stands behind the top -/
structure Tp (fa : List He.Fa) (fn : List He.DefD) (cs : List (Str × D)) (C : Kc) (mg : Str → Option Value) (base : Heap) : Prop where
  says : SaysP fa fn cs C.K
  kin : C.K.In base
  glob : base.Ns mainGlobals mg
  sm : ∃ o, base.get? sysModules = some o
def dOf (st : Stmt) (x : Str) : He.DefD := ⟨(x, none), x, x, defArgs st, defBody st, defScope st, [], []⟩
section
variable {fa : List He.Fa} {fn : List He.DefD} {cs : List (Str × D)} {C : Kc} {mg : Str → Option Value} {base : Heap}
theorem Tp.fact (T : Tp fa fn cs C mg base) (i : Nat) {f : He.Fa} (h : fa[i]? = some f) : f.ok C.K = true := by
  have c := congrArg (fun z : AlP => z.1) T.says
  have c : ((fa.all fun f => f.ok C.K) && ((fn.all fun d => d.ok C.K) && cs.all fun c => cstB C.K c.1 c.2)) = true := c
  rw [Bool.and_eq_true] at c
  exact List.all_eq_true.mp c.1 f (List.mem_of_getElem? h)
theorem Tp.free (T : Tp fa fn cs C mg base) (i : Nat) {x : Str} (h : fa[i]? = some (.free x) := by rfl) : mg x = none := He.free_ok T.kin T.glob (T.fact i h)
theorem Tp.glo (T : Tp fa fn cs C mg base) (i : Nat) {x : Str} (h : fa[i]? = some (.glo x) := by rfl) : mg x = some (.ref (He.ga C.K x)) := He.glo_ok T.kin T.glob (T.fact i h)
theorem Tp.cst (T : Tp fa fn cs C mg base) (i : Nat) {x : Str} {d : D} (h : cs[i]? = some (x, d) := by rfl) : ∃ u v, mg x = some u ∧ RelV v u ∧ ∀ S, RV C S d v := by
  have c := congrArg (fun z : AlP => z.1) T.says
  have c : ((fa.all fun f => f.ok C.K) && ((fn.all fun d => d.ok C.K) && cs.all fun c => cstB C.K c.1 c.2)) = true := c
  rw [Bool.and_eq_true, Bool.and_eq_true] at c
  exact cst_ok T.kin T.glob (List.all_eq_true.mp c.2.2 _ (List.mem_of_getElem? h))
theorem SaysP.def_ {K : PySem.W.Frag} (c0 : SaysP fa fn cs K) (i : Nat) {d : He.DefD} (h : fn[i]? = some d) : ∃ fd, FunD K d.name d.qual d.params d.body d.scope (d.dvs K) (d.kws K) (He.fAd K d.at_) fd := by
  have c := congrArg (fun z : AlP => z.1) c0
  have c : ((fa.all fun f => f.ok K) && ((fn.all fun d => d.ok K) && cs.all fun c => cstB K c.1 c.2)) = true := c
  rw [Bool.and_eq_true, Bool.and_eq_true] at c
  have e : fn.map (fun d => He.fnW K d.at_) = fn.map He.DefD.val := congrArg (fun z : AlP => z.2) c0
  have e2 : (fn.map fun d => He.fnW K d.at_)[i]? = (fn.map He.DefD.val)[i]? := by rw [e]
  rw [List.getElem?_map, List.getElem?_map, h] at e2
  exact He.DefD.funD (Option.some.inj e2) (List.all_eq_true.mp c.2.1 d (List.mem_of_getElem? h))
theorem SaysP.fun_ {K : PySem.W.Frag} (c : SaysP fa fn cs K) (i : Nat) {st : Stmt} {x : Str} (h : fn[i]? = some (dOf st x)) : ∃ fd, Fun K x x st (He.ga K x) fd := by
  obtain ⟨fd, F⟩ := c.def_ i h
  obtain ⟨oc, od, dV, kV, doc, pm, an, cdv, ct, osl, h1, h2, h3, h4, h5⟩ := F.ex
  have e : dV = .none := by
    rcases h4 with ⟨_, e⟩ | ⟨e, _⟩
    · exact e
    · exact absurd rfl e
  subst e
  exact ⟨fd, ⟨oc, od, kV, doc, pm, an, cdv, ct, osl, h1, h2, h3⟩, F.kp⟩
/-- the function that stands at an address -/
def Has (K : PySem.W.Frag) (f : Addr) (fd : FuncData) : Prop := ∃ oc od osl, K.lookup f = some ⟨oc, od, .func fd, osl⟩
theorem Has.eq {K : PySem.W.Frag} {f : Addr} {fd fd' : FuncData} (h : Has K f fd) (h' : Has K f fd') : fd = fd' := by
  obtain ⟨_, _, _, h⟩ := h
  obtain ⟨_, _, _, h'⟩ := h'
  rw [h] at h'; cases h'; rfl
theorem fun_has {K : PySem.W.Frag} {x q : Str} {st : Stmt} {f : Addr} {fd : FuncData} (F : Fun K x q st f fd) : Has K f fd := by
  obtain ⟨oc, od, kV, doc, pm, an, cdv, ct, osl, h1, h2, h3⟩ := F.ex
  exact ⟨oc, od, osl, h2⟩
end
/-! ### shapes of calls -/
theorem all2_none {C : Kc} {S : Rp} : ∀ n : Nat, All2 (OptR (RU C S)) (List.replicate n none) (List.replicate n none)
  | 0 => .nil
  | n + 1 => .cons True.intro (all2_none n)
theorem fill_len {α : Type} {ks : List Str} {us : List α} : ∀ {ps : List Str} {df : List (Option α)} {xs : List α}, fillIn ks us ps df = some xs → xs.length = ps.length
  | [], df, xs, h => by rw [fillIn] at h; cases h; rfl
  | p :: ps, [], xs, h => by
    rw [fillIn] at h
    cases z1 : fillKw ks us p with
    | none => rw [z1] at h; cases h
    | some u =>
      cases z2 : fillIn ks us ps [] with
      | none => rw [z1, z2] at h; cases h
      | some w =>
        rw [z1, z2] at h; cases h
        rw [List.length_cons, List.length_cons, fill_len z2]
  | p :: ps, d :: df, xs, h => by
    rw [fillIn] at h
    cases z1 : pick (fillKw ks us p) d with
    | none => rw [z1] at h; cases h
    | some u =>
      cases z2 : fillIn ks us ps df with
      | none => rw [z1, z2] at h; cases h
      | some w =>
        rw [z1, z2] at h; cases h
        rw [List.length_cons, List.length_cons, fill_len z2]
theorem bind_len {Fu : Fn} (h : (Fu.sh.all fun s => decide (s.1 ≤ Fu.ps.length)) = true) : ∀ as ks us vs, Fu.bind as ks us = some vs → vs.length = Fu.ps.length := by
  intro as ks us vs e
  unfold Fn.bind at e
  split at e
  · rename_i hsh
    rw [Bool.and_eq_true, List.any_eq_true] at hsh
    obtain ⟨⟨sh, hm, hs⟩, _⟩ := hsh
    rw [Bool.and_eq_true, beq_iff_eq, decide_eq_true_eq] at hs
    have hle := of_decide_eq_true (List.all_eq_true.mp h sh hm)
    unfold bindG at e
    cases z : fillIn ks us (Fu.ps.drop as.length) (Fu.df.drop as.length) with
    | none => rw [z] at e; cases e
    | some l =>
      rw [z] at e; cases e
      rw [List.length_append, fill_len z, List.length_drop]
      omega
  · cases e
/-- how one shape binds -/
def Sh1 (x : Str) (st : Stmt) (ps : List Str) (n : Nat) (ks : List Str) : Prop := ∀ (kV doc pm : Value) (an : Option Addr) (cdv ct : Value) (us ws : List Value), us.length = n → ws.length = ks.length →
  ∃ zs, bindG ps (List.replicate ps.length none) us ks ws = some zs ∧ bindArgs (PySem.W.fnOf x x (defArgs st) (defBody st) (defScope st) .none kV doc pm an cdv ct) ⟨us, ks.zip ws⟩ = pure (ps.zip zs)
theorem sh_of {K : PySem.W.Frag} {x : Str} {st : Stmt} {f : Addr} {fd : FuncData} {ps : List Str} {n : Nat} {ks : List Str} (FN : Fun K x x st f fd) (h : Sh1 x st ps n ks) : ShOk K fd ps (List.replicate ps.length none) n ks := by
  obtain ⟨oc, od, kV, doc, pm, an, cdv, ct, osl, rfl, lk, hcd⟩ := FN.ex
  intro s us ws _ hu hw zs hz
  obtain ⟨zs', h1, h2⟩ := h kV doc pm an cdv ct us ws hu hw
  rw [h1] at hz; cases hz
  exact .of_eq h2
def ShAll (x : Str) (st : Stmt) (ps : List Str) : List (Nat × List Str) → Prop
  | [] => True
  | s :: r => Sh1 x st ps s.1 s.2 ∧ ShAll x st ps r
theorem shall_mem {x : Str} {st : Stmt} {ps : List Str} : ∀ {l : List (Nat × List Str)}, ShAll x st ps l → ∀ s ∈ l, Sh1 x st ps s.1 s.2
  | [], _, s, h => by cases h
  | a :: l, h, s, hs => by
    rcases List.mem_cons.mp hs with e | hs
    · rw [e]; exact h.1
    · exact shall_mem h.2 s hs
/-- a def of the top by its body -/
theorem fnd_top {fa : List He.Fa} {fn : List He.DefD} {cs : List (Str × D)} {P : Program} {w : World} {C : Kc} {mg : Str → Option Value} {base : Heap} (T : Tp fa fn cs C mg base) (i : Nat) {st : Stmt} {x : Str} {N ps : List Str} {sh : List (Nat × List Str)} {body : FS} {kp : Bool} {k : Nat}
    (h : fn[i]? = some (dOf st x)) (S : FnScope N ps (defScope st)) (hsh : ShAll x st ps sh) (hl : (sh.all fun s => decide (s.1 ≤ ps.length)) = true)
    (hb2 : ∀ (f : Addr) (cdv : Value) (A : Around) (outer : List PySem.Env) (s : Shared) (H : Hp) (E : XK),
      (XOk (cxOf (L2.CX P w) P w C.K mg base N x (defScope st) f cdv A outer s H E) C k fun _ => E) → PassesOwn (model P w) (A.deeper (envOfC x (defScope st) s.heap.objs.size f cdv)) (envOfC x (defScope st) s.heap.objs.size f cdv) (cxOf (L2.CX P w) P w C.K mg base N x (defScope st) f cdv A outer s H E).xe →
      SSs (cxOf (L2.CX P w) P w C.K mg base N x (defScope st) f cdv A outer s H E) C (fun _ => E) body (defBody st)) :
    ∃ fd, Has C.K (He.ga C.K x) fd ∧ FnD P w C mg base (k + 1) (He.ga C.K x) fd ⟨ps, List.replicate ps.length none, sh, defRun N.length kp body⟩ := by
  obtain ⟨fd, F⟩ := T.says.fun_ i h
  refine ⟨fd, fun_has F, fnd_of F S rfl ⟨List.replicate ps.length none, fun S => all2_none _, fun s hs => sh_of F (shall_mem hsh s hs)⟩ (bind_len hl) T.sm fun cdv A outer s H E hr hX hp => hb2 _ cdv A outer s H E hX hp⟩
end Px

/-! Px18: the rules in short. -/
namespace Px
open PySem PySem.Spec PyProof.Rows L2
def conF (d : D) : Fx D := fun _ st => .ok d st
def binF (mu : Nat) (o : Operator) (fa fb : Fx D) : Fx D := fun ρ st => (fa ρ st).bind fun x st1 => (fb ρ st1).bind fun y st2 => binD mu o x y st2
def cmpF (o : CmpOp) (fa fb : Fx D) : Fx D := fun ρ st => (fa ρ st).bind fun x st1 => (fb ρ st1).bind fun y st2 => cmpD o x y st2
def negF (f : Fx D) : Fx D := fun ρ st => (f ρ st).bind fun x st1 => match x with | .int i => .ok (.int (-i)) st1 | _ => .bad
def tupF (f : Fx (List D)) : Fx D := fun ρ st => (f ρ st).bind fun xs st1 => mkT xs st1
def lstF (mu : Nat) (f : Fx (List D)) : Fx D := fun ρ st => (f ρ st).bind fun xs st1 => mkL mu xs st1
def ixF (fa fi : Fx D) : Fx D := fun ρ st => (fa ρ st).bind fun x st1 => (fi ρ st1).bind fun y st2 => ixD x y st2
def revF (mu : Nat) (f : Fx D) : Fx D := fun ρ st => (f ρ st).bind fun x st1 => revD mu x st1
def primF (mu : Nat) (p : Prm) (f : Fx (List D)) : Fx D := fun ρ st => (f ρ st).bind fun as st1 => primD mu p as st1
def walkF (f : Fx D) : Fx Walk := fun ρ st => (f ρ st).bind fun x st1 => ofO (walkOf x st1) st1
def dct0F (mu : Nat) : Fx D := fun _ st => if mu = 0 then .ok (.dct [] []) st else .ok (.cell st.length) (st ++ [.dct [] []])
def noF : Fx (Option Int) := fun _ st => .ok none st
def retF (f : Fx D) : FS := runE f fun d _ st => .ok (.rt d) st
def retNF : FS := fun _ st => .ok (.rt .non) st
def expF (f : Fx D) : FS := runE f fun _ ρ st => .ok (.nx ρ) st
def brkF : FS := fun ρ st => .ok (.bk ρ) st
def cntF : FS := fun ρ st => .ok (.ct ρ) st
section
variable {X : Cx} {C : Kc} {E E' : L2.St → XK} {k : Nat}
theorem q_var (i : Nat) {x : Str} {pos : Pos} (hN : X.N[i]? = some x := by rfl) (hv : Vis X.env.scope x := by first | exact Or.inl rfl | exact Or.inr (Or.inl rfl) | exact Or.inr (Or.inr rfl)) (hd : (x == ("__debug__" : Str)) = false := by decide)
    (hcd : (x == ("__classdict__" : Str)) = false := by decide) : SE X C E (varD i) (.Name x pos) := se_var hN hv hd hcd
theorem q_int {i : Int} {j : Nat} {pos : Pos} : SE X C E (conF (.int i)) (.Constant (.int i) j pos) := se_con pe_int fun _ => rv_int.mpr rfl
theorem q_str {i : Str} {j : Nat} {pos : Pos} : SE X C E (conF (.str i)) (.Constant (.str i) j pos) := se_con pe_str fun _ => rv_str.mpr rfl
theorem q_bl {i : Bool} {j : Nat} {pos : Pos} : SE X C E (conF (.bl i)) (.Constant (.bool i) j pos) := se_con pe_bl fun _ => rv_bl.mpr rfl
theorem q_non {j : Nat} {pos : Pos} : SE X C E (conF .non) (.Constant .none j pos) := se_con pe_non fun _ => rv_non.mpr rfl
theorem q_glob {x : Str} {pos : Pos} {d : D} (h : ∃ u v, X.mg x = some u ∧ RelV v u ∧ ∀ S, RV C S d v) (hg : Gl X x := by rfl) (hd : (x == ("__debug__" : Str)) = false := by decide) : SE X C E (conF d) (.Name x pos) := by
  obtain ⟨u, v, h1, h2, h3⟩ := h
  exact se_con (pe_glob hg h1 h2 hd) h3
theorem q_bin {mu : Nat} {o : Operator} {fa fb : Fx D} {a b : Expr} {pos : Pos} (hX : XOk X C k E) (ha : SE X C E fa a) (hb : SE X C E fb b) : SE X C E (binF mu o fa fb) (.BinOp a o b pos) := se_bin ha hb (os_bin hX mu o)
theorem q_cmp {o : CmpOp} {fa fb : Fx D} {a b : Expr} {pos : Pos} (hX : XOk X C k E) (ha : SE X C E fa a) (hb : SE X C E fb b) (hm : behindInMarks o b = false := by rfl) : SE X C E (cmpF o fa fb) (.Compare a [o] [b] pos) := se_cmp ha hb (os_cmp hX o) hm
theorem q_chn {o1 o2 : CmpOp} {fa fb fc : Fx D} {a b c : Expr} {pos : Pos} (hX : XOk X C k E) (ha : SE X C E fa a) (hb : SE X C E fb b) (hc : SE X C E fc c) (hm : lastMarks [o1, o2] [b, c] = false := by rfl) : SE X C E (chainF o1 o2 fa fb fc) (.Compare a [o1, o2] [b, c] pos) := se_chain hX ha hb hc hm
theorem q_not {f : Fx D} {e : Expr} {pos : Pos} (hX : XOk X C k E) (h : SE X C E f e) : SE X C E (notF f) (.UnaryOp .Not e pos) := se_not hX h
theorem q_neg {f : Fx D} {e : Expr} {pos : Pos} (h : SE X C E f e) : SE X C E (negF f) (.UnaryOp .USub e pos) := se_neg h
theorem q_and {f g : Fx D} {a b : Expr} {rest : List Expr} {pos : Pos} (hX : XOk X C k E) (ha : SE X C E f a) (hb : SE X C E g (.BoolOp .And (b :: rest) pos)) : SE X C E (andF f g) (.BoolOp .And (a :: b :: rest) pos) := se_and hX ha hb
theorem q_or {f g : Fx D} {a b : Expr} {rest : List Expr} {pos : Pos} (hX : XOk X C k E) (ha : SE X C E f a) (hb : SE X C E g (.BoolOp .Or (b :: rest) pos)) : SE X C E (orF f g) (.BoolOp .Or (a :: b :: rest) pos) := se_or hX ha hb
theorem q_and1 {f : Fx D} {a : Expr} {pos : Pos} (ha : SE X C E f a) : SE X C E f (.BoolOp .And [a] pos) := pe_one ha
theorem q_or1 {f : Fx D} {a : Expr} {pos : Pos} (ha : SE X C E f a) : SE X C E f (.BoolOp .Or [a] pos) := pe_one ha
theorem q_ite {t f g : Fx D} {c a b : Expr} {pos : Pos} (hc : ST X C E (tst t) c) (ha : SE X C E f a) (hb : SE X C E g b) : SE X C E (iteF t f g) (.IfExp c a b pos) := se_ite hc ha hb
-- tests
theorem t_val {f : Fx D} {e : Expr} (hX : XOk X C k E) (h : SE X C E f e) (he : ∀ whole, isTrue e X.env whole = (do let v ← whole; standAt e.pos; holding [v] (truthy v)) := by exact fun _ => rfl) : ST X C E (tst f) e := st_val hX h he
theorem t_cmp {o : CmpOp} {fa fb : Fx D} {a b : Expr} {pos : Pos} (hX : XOk X C k E) (ha : SE X C E fa a) (hb : SE X C E fb b) (hm : behindInMarks o b = false := by rfl) : ST X C E (tst (cmpF o fa fb)) (.Compare a [o] [b] pos) := st_cmp hX ha hb (os_cmp hX o) hm
theorem t_chn {o1 o2 : CmpOp} {fa fb fc : Fx D} {a b c : Expr} {pos : Pos} (hX : XOk X C k E) (ha : SE X C E fa a) (hb : SE X C E fb b) (hc : SE X C E fc c) (hm : lastMarks [o1, o2] [b, c] = false := by rfl) : ST X C E (tst (chainF o1 o2 fa fb fc)) (.Compare a [o1, o2] [b, c] pos) := st_chain hX ha hb hc hm
theorem t_not {f : Fx D} {a : Expr} {pos : Pos} (ha : ST X C E (tst f) a) : ST X C E (tst (notF f)) (.UnaryOp .Not a pos) := st_not ha
theorem w_and {f g : Fx D} {a b : Expr} {rest : List Expr} {pos : Pos} (ha : ST X C E (tst f) a) (hb : PW X (.BoolOp .And (b :: rest) pos) (tF C rB E (tst g))) : PW X (.BoolOp .And (a :: b :: rest) pos) (tF C rB E (tst (andF f g))) := st_and ha hb
theorem w_or {f g : Fx D} {a b : Expr} {rest : List Expr} {pos : Pos} (ha : ST X C E (tst f) a) (hb : PW X (.BoolOp .Or (b :: rest) pos) (tF C rB E (tst g))) : PW X (.BoolOp .Or (a :: b :: rest) pos) (tF C rB E (tst (orF f g))) := st_or ha hb
theorem w_and1 {f : Fx D} {a : Expr} {pos : Pos} (ha : ST X C E (tst f) a) : PW X (.BoolOp .And [a] pos) (tF C rB E (tst f)) := pw_and1 ha
theorem w_or1 {f : Fx D} {a : Expr} {pos : Pos} (ha : ST X C E (tst f) a) : PW X (.BoolOp .Or [a] pos) (tF C rB E (tst f)) := pw_or1 ha
theorem t_w {f : Fx D} {e : Expr} (h : PW X e (tF C rB E (tst f))) : ST X C E (tst f) e := h.pt
-- lists
theorem a_cons {f : Fx D} {g : Fx (List D)} {e : Expr} {es : List Expr} (he : SE X C E f e) (hs : SA X C E g es) (hst : starEach (e :: es) X.env = (false, eval e X.env) :: starEach es X.env := by rfl) : SA X C E (consF f g) (e :: es) := sa_cons he hs hst
theorem q_tup {f : Fx (List D)} {es : List Expr} {x1 : Nat} {pos : Pos} (h : SA X C E f es) : SE X C E (tupF f) (.Tuple es x1 pos) := se_tup h
theorem q_lst {f : Fx (List D)} {es : List Expr} {mu : Nat} {pos : Pos} (h : SA X C E f es) : SE X C E (lstF mu f) (.List es pos) := se_lst h
theorem q_ix {a i : Expr} {fa fi : Fx D} {pos : Pos} (hX : XOk X C k E) (ha : SE X C E fa a) (hi : SE X C E fi i) (hs : ∀ o j, subscripted i false o j = operate [o, j] (getItem o j) := by exact fun _ _ => rfl) : SE X C E (ixF fa fi) (.Subscript a i pos) := se_ix hX ha hi hs
theorem q_slc {mu : Nat} {a : Expr} {lo hi : Option Expr} {fa : Fx D} {fl fh : Fx (Option Int)} {pos p2 : Pos} (hX : XOk X C k E) (ha : SE X C E fa a) (hl : SO X C E fl lo) (hh : SO X C E fh hi) : SE X C E (slcF mu fa fl fh) (.Subscript a (.Slice lo hi none p2) pos) := se_slc hX ha hl hh
theorem o_none : SO X C E noF none := so_none
theorem o_some {f : Fx D} {e : Expr} (h : SE X C E f e) : SO X C E (partF f) (some e) := so_some h
theorem q_rev {mu : Nat} {e : Expr} {f : Fx D} {kk : Nat} {p1 p2 p3 pos : Pos} (hX : XOk X C k E) (h : SE X C E f e) : SE X C E (revF mu f) (.Subscript e (.Slice none none (some (.UnaryOp .USub (.Constant (.int 1) kk p1) p2)) p3) pos) := se_rev hX h
theorem q_prim {mu : Nat} {p : Prm} {f : Fx (List D)} {x : Str} {p0 pos : Pos} {id : Value} {e : Expr} {es : List Expr} (hc : CallS X C E id (primD mu p)) (hm : X.mg x = none) (ha : SA X C E f (e :: es)) (hid : ∃ n, id = .builtin n ∨ id = .type n := by first | exact ⟨_, Or.inl rfl⟩ | exact ⟨_, Or.inr rfl⟩) (hg : Gl X x := by rfl)
    (hv : bootBuiltins x = some id := by decide +kernel) (hn : x ≠ "__name__" := by decide) (hdb : (x == ("__debug__" : Str)) = false := by decide) (he : starEach (e :: es) X.env = (false, eval e X.env) :: starEach es X.env := by rfl) (hpl : (backTo pos (starEach es X.env)).any (·.1) = false := by rfl) :
    SE X C E (primF mu p f) (.Call (.Name x p0) (e :: es) [] pos) := se_prim hc hid hg hm hv ha hn hdb he hpl
theorem q_isin {t : String} {tn : Str} {f : Fx D} {e : Expr} {p p2 pos : Pos} (hX : XOk X C k E) (he : SE X C E f e) (hm : X.mg "isinstance" = none) (hm2 : X.mg tn = none) (hg : Gl X "isinstance" := by rfl) (hg2 : Gl X tn := by rfl) (hb : bootBuiltins tn = some (.type t) := by decide +kernel) (hn : tn ≠ "__name__" := by decide) (hd : (tn == ("__debug__" : Str)) = false := by decide)
    (hs : starEach [e, .Name tn p2] X.env = (false, eval e X.env) :: starEach [.Name tn p2] X.env := by rfl) (hs2 : starEach [.Name tn p2] X.env = (false, eval (.Name tn p2) X.env) :: starEach [] X.env := by rfl) (hpl : (backTo pos (starEach [.Name tn p2] X.env)).any (·.1) = false := by rfl) :
    SE X C E (isinF t f) (.Call (.Name "isinstance" p) [e, .Name tn p2] [] pos) := se_isin hX he hg hm hg2 hm2 hb hn hd hs hs2 hpl
theorem k_cons {g : Fx D} {h : Fx (List D)} {nm : Option Str} {e : Expr} {kpos : Pos} {kws : List Keyword} (he : SE X C E g e) (hr : SK X C E h kws) : SK X C E (consF g h) (⟨nm, e, kpos⟩ :: kws) := sk_cons he hr
theorem q_call {f : Addr} {fd : FuncData} {Fu : Fn} {fa fk : Fx (List D)} {x : Str} {es : List Expr} {kws : List Keyword} {ks : List Str} {p pos : Pos} (hX : XOk X C k E) (FD : FnD X.prog X.w C X.mg X.base k f fd Fu) (hm : X.mg x = some (.ref f)) (ha : SA X C E fa es) (hk : SK X C E fk kws) (h0 : es = [] → fa = nilF := by intro h; first | rfl | cases h) (hg : Gl X x := by rfl)
    (hp : Plain X es kws ks pos := by exact ⟨fun e r h => by cases h <;> rfl, fun e r h => by cases h <;> rfl, rfl, rfl, rfl⟩) (hdb : (x == ("__debug__" : Str)) = false := by decide) : SE X C E (callF Fu fa ks fk) (.Call (.Name x p) es kws pos) := se_call hX FD hg hm ha h0 hk hp hdb
theorem q_pop {fo : Fx D} {o : Expr} {name : Str} {apos cpos : Pos} (hX : XOk X C k E) (ho : SE X C E fo o) (hn : name = "pop" := by rfl) (hbase : attributeBase o name X.env (eval o X.env) = eval o X.env := by rfl) (hline : (apos.endLine == cpos.line) = true := by rfl) :
    SE X C E (bmF .pop fo nilF) (.Call (.Attribute o name apos) [] [] cpos) := se_bm0 hX ho hn hbase hline
theorem q_bm {m : Bm} {fo : Fx D} {fa : Fx (List D)} {o e : Expr} {es : List Expr} {name : Str} {apos cpos : Pos} (hX : XOk X C k E) (ho : SE X C E fo o) (ha : SA X C E fa (e :: es)) (hn : (name = "append" ∧ m = .append) ∨ (name = "pop" ∧ m = .popAt) := by first | exact Or.inl ⟨rfl, rfl⟩ | exact Or.inr ⟨rfl, rfl⟩) (hbase : attributeBase o name X.env (eval o X.env) = eval o X.env := by rfl)
    (hfew : ((backTo cpos (starEach (e :: es) X.env)).all (fun x => !x.1) && (backToKw cpos (keywordEach [] X.env)).all (fun x => x.1.isSome) && decide ((e :: es).length + ([] : List Keyword).length + (if ([] : List Keyword).isEmpty then 0 else 1) < 30)) = true := by rfl)
    (hline : (apos.endLine == cpos.line) = true := by rfl) (hs : starEach (e :: es) X.env = (false, eval e X.env) :: starEach es X.env := by rfl) (hplain : (backTo cpos (starEach es X.env)).any (·.1) = false := by rfl) :
    SE X C E (bmF m fo fa) (.Call (.Attribute o name apos) (e :: es) [] cpos) := se_bm1 hX.toXOkS ho ha hn hbase hfew hline hs hplain
theorem d_cons {pos : Pos} {ke v : Expr} {kk : Key} {keys : List (Option Expr)} {values : List Expr} {ks : List Key} {f : Fx D} {g : Fx (List D)} (hv : SE X C E f v) (hr : SD X C E pos keys values ks g) (hk : kE ke = some kk := by rfl) :
    SD X C E pos (some ke :: keys) (v :: values) (kk :: ks) (consF f g) := sd_cons hk hv hr
/-- how many items a list's reading has -/
inductive LenF : Fx (List D) → Nat → Prop
  | nil : LenF nilF 0
  | cons {f : Fx D} {g : Fx (List D)} {n : Nat} : LenF g n → LenF (consF f g) (n + 1)
theorem LenF.ok {f : Fx (List D)} {n : Nat} (h : LenF f n) : ∀ ρ st xs st', f ρ st = .ok xs st' → xs.length = n := by
  induction h with
  | nil => intro ρ st xs st' e; cases e; rfl
  | @cons f g n _ ih =>
    intro ρ st xs st' e
    unfold consF at e
    cases z : f ρ st with
    | bad => rw [z] at e; cases e
    | ex c ns us st1 => rw [z] at e; cases e
    | ok d st1 =>
      rw [z] at e
      simp only [R.bind_ok] at e
      cases z2 : g ρ st1 with
      | bad => rw [z2] at e; cases e
      | ex c ns us st2 => rw [z2] at e; cases e
      | ok ds st2 =>
        rw [z2] at e
        simp only [R.bind_ok] at e
        cases e
        rw [List.length_cons, ih _ _ _ _ z2]
theorem q_dct {mu : Nat} {pos : Pos} {keys : List (Option Expr)} {values : List Expr} {ks : List Key} {f : Fx (List D)} (h : SD X C E pos keys values ks f) (hlen : LenF f ks.length) (hall : keys.all (·.isSome) = true := by rfl) (hl : keys.length = values.length := by rfl) (h0 : keys ≠ [] := by exact (fun h => nomatch h)) (h15 : keys.length ≤ 15 := by decide) (hks : ks.length = keys.length := by rfl) (hnd : ks.Nodup := by decide) :
    SE X C E (dctF mu ks f) (.Dict keys values pos) := se_dct h hall hl h0 h15 hks hnd hlen.ok
theorem q_dct0 {mu : Nat} {pos : Pos} : SE X C E (dct0F mu) (.Dict [] [] pos) := se_dct0
-- what is walked
theorem i_walk {f : Fx D} {tg e : Expr} (hX : XOk X C k E) (h : SE X C E f e) : SI X C E (walkF f) tg e := se_walk hX h
theorem i_rng1 {f : Fx (List D)} {tg a : Expr} {p pos : Pos} (hm : X.mg "range" = none) (ha : SA X C E f [a]) (hl : LenF f 1) (hg : Gl X "range" := by rfl) (hs : starEach [a] X.env = [(false, eval a X.env)] := by rfl) : SI X C E (rngF f) tg (.Call (.Name "range" p) [a] [] pos) := si_rng1 hg hm ha hl.ok hs
theorem i_rng2 {f : Fx (List D)} {tg a b : Expr} {p pos : Pos} (hm : X.mg "range" = none) (ha : SA X C E f [a, b]) (hl : LenF f 2) (hg : Gl X "range" := by rfl) (hs : starEach [a, b] X.env = [(false, eval a X.env), (false, eval b X.env)] := by rfl) (hs2 : starEach [b] X.env = [(false, eval b X.env)] := by rfl) : SI X C E (rngF f) tg (.Call (.Name "range" p) [a, b] [] pos) := si_rng2 hg hm ha hl.ok hs hs2
theorem i_rng3 {f : Fx (List D)} {tg a b c : Expr} {p pos : Pos} (hm : X.mg "range" = none) (ha : SA X C E f [a, b, c]) (hl : LenF f 3) (hg : Gl X "range" := by rfl) (hs : starEach [a, b, c] X.env = (false, eval a X.env) :: starEach [b, c] X.env := by rfl) (hpl : (backTo pos (starEach [b, c] X.env)).any (·.1) = false := by rfl) : SI X C E (rngF f) tg (.Call (.Name "range" p) [a, b, c] [] pos) := si_rng3 hg hm ha hl.ok hs hpl
theorem i_zip {f : Fx (List D)} {elts : List Expr} {kk : Nat} {a b : Expr} {p pos tpos : Pos} (hX : XOk X C k E) (hm : X.mg "zip" = none) (ha : SA X C E f [a, b]) (hg : Gl X "zip" := by rfl) (hs : starEach [a, b] X.env = (false, eval a X.env) :: starEach [b] X.env := by rfl) (hpl : (backTo pos (starEach [b] X.env)).any (·.1) = false := by rfl) :
    SI X C E (zipF f) (.Tuple elts kk tpos) (.Call (.Name "zip" p) [a, b] [] pos) := si_zip hX hg hm ha hs hpl
-- targets
theorem g_name (i : Nat) {x : Str} {pos : Pos} (hX : XOk X C k E) (hi : X.N[i]? = some x := by rfl) (hx : Loc X.env.scope x := by first | exact Or.inl rfl | exact Or.inr rfl) (hf : X.fn x = true ∨ X.env.scope.names.lookup x = some .local := by first | exact Or.inr rfl | exact Or.inl rfl) : PG X (.Name x pos) (tTg C (.name i)) := sg_name hX.nd hi hx hf
theorem g_cons {e : Expr} {es : List Expr} {t : Tg} {ts : List Tg} (h1 : PG X e (tTg C t)) (h2 : PGs X es (tTgs C ts)) (hs : (assignEach (e :: es) X.env).map (·.2) = assign e X.env :: (assignEach es X.env).map (·.2) := by rfl) : PGs X (e :: es) (tTgs C (t :: ts)) := sgs_cons h1 h2 hs
theorem g_tup {es : List Expr} {kk : Nat} {ts : List Tg} {pos : Pos} (hX : XOk X C k E) (h : PGs X es (tTgs C ts)) (hn : (assignEach es X.env).length = ts.length := by rfl) (hst : (assignEach es X.env).findIdx? (·.1) = none := by rfl) : PG X (.Tuple es kk pos) (tTg C (.tup ts)) := sg_tup hX h hn hst
-- comprehensions
theorem ts_one {ft : Fx D} {c : Expr} (h : ST X C E (tst ft) c) : PTs X [c] (tF C rB E (tst ft)) := pts_one h
theorem q_comp {mu : Nat} {own : List (Str × Nat)} {tg : Tg} {fi : Fx Walk} {ft fe : Fx D} {elt te iter : Expr} {ifs : List Expr} {scope : Scope} {pos : Pos} (hX : XOk X C k E) (hi : SI X C E fi te iter)
    (hg : ∀ (s : Shared) (H : Hp) (A : Addr) (cl : List (Str × Addr)) (fp : List Addr), XOk (X.blk s H scope (compEnvC scope cl A X.env) fp) C k EF → PG (X.blk s H scope (compEnvC scope cl A X.env) fp) te (tTg C tg))
    (ht : ∀ (s : Shared) (H : Hp) (A : Addr) (cl : List (Str × Addr)) (fp : List Addr), XOk (X.blk s H scope (compEnvC scope cl A X.env) fp) C k EF → PTs (X.blk s H scope (compEnvC scope cl A X.env) fp) ifs (tF C rB EF (tst ft)))
    (he : ∀ (s : Shared) (H : Hp) (A : Addr) (cl : List (Str × Addr)) (fp : List Addr), XOk (X.blk s H scope (compEnvC scope cl A X.env) fp) C k EF → SE (X.blk s H scope (compEnvC scope cl A X.env) fp) C EF fe elt)
    (ok : blkC X.N X.env.scope scope own = true := by first | rfl | decide +kernel) (hv : ∀ i ∈ slotsT tg, i ∈ own.map (·.2) := by decide) (hs : ∀ x, foldedSetIterable iter X.env x = pure x := by exact fun _ => rfl) :
    SE X C E (compF mu (own.map (·.2)) tg fi ft fe) (.ListComp elt [⟨te, iter, ifs, 0⟩] scope pos) :=
  se_comp hX hi (blkOk_by ok) (fun s H A cl fp => hg s H A cl fp (xok_blk hX s H scope _ fp)) (fun s H A cl fp => ht s H A cl fp (xok_blk hX s H scope _ fp)) (fun s H A cl fp => he s H A cl fp (xok_blk hX s H scope _ fp)) hv hs
-- statements
theorem s_ret {f : Fx D} {e : Expr} {pos : Pos} (he : SE X C E f e) : SS X C E (retF f) (.Return (some e) pos) := ss_ret he
theorem s_exp {f : Fx D} {e : Expr} {pos : Pos} (he : SE X C E f e) (hs : swapsWith e none pos.line X.env = pure false := by rfl) : SS X C E (expF f) (.Expr e pos) := ss_exp he hs
theorem s_asg {f : Fx D} {t : Tg} {tg e : Expr} {pos : Pos} (he : SE X C E f e) (hg : PG X tg (tTg C t)) (hs : swapsWithSole [tg] e pos.line X.env = pure false := by rfl) (hw : swappedStores [tg] e X.env = pure none := by rfl) (h1 : (assignEach [tg] X.env).map (·.2) = [assign tg X.env] := by rfl) :
    SS X C E (asgF t f) (.Assign [tg] e pos) := ss_asg he hg hs hw h1
theorem s_lc {mu i : Nat} {y : Str} {py : Pos} {own : List (Str × Nat)} {tg : Tg} {fi : Fx Walk} {ft fe : Fx D} {elt te iter : Expr} {ifs : List Expr} {scope : Scope} {pos spos : Pos} (hX : XOk X C k E) (hi : SI X C E fi te iter)
    (hg : ∀ (s : Shared) (H : Hp) (A : Addr) (cl : List (Str × Addr)) (fp : List Addr), XOk (X.blk s H scope (compEnvC scope cl A X.env) fp) C k EF → PG (X.blk s H scope (compEnvC scope cl A X.env) fp) te (tTg C tg))
    (ht : ∀ (s : Shared) (H : Hp) (A : Addr) (cl : List (Str × Addr)) (fp : List Addr), XOk (X.blk s H scope (compEnvC scope cl A X.env) fp) C k EF → PTs (X.blk s H scope (compEnvC scope cl A X.env) fp) ifs (tF C rB EF (tst ft)))
    (he : ∀ (s : Shared) (H : Hp) (A : Addr) (cl : List (Str × Addr)) (fp : List Addr), XOk (X.blk s H scope (compEnvC scope cl A X.env) fp) C k EF → SE (X.blk s H scope (compEnvC scope cl A X.env) fp) C EF fe elt)
    (hy : X.N[i]? = some y := by rfl) (hyl : X.env.scope.names.lookup y = some .local := by rfl) (hsw : swapsWith (.ListComp elt [⟨te, iter, ifs, 0⟩] scope pos) (some (.Name y py)) spos.line X.env = pure true := by rfl)
    (ok : blkC X.N X.env.scope scope own = true := by first | rfl | decide +kernel) (hv : ∀ i ∈ slotsT tg, i ∈ own.map (·.2) := by decide) (hs : ∀ x, foldedSetIterable iter X.env x = pure x := by exact fun _ => rfl) :
    SS X C E (asgF (.name i) (compF mu (own.map (·.2)) tg fi ft fe)) (.Assign [.Name y py] (.ListComp elt [⟨te, iter, ifs, 0⟩] scope pos) spos) :=
  ss_asgLc hX hy hyl hsw hi (blkOk_by ok) (fun s H A cl fp => hg s H A cl fp (xok_blk hX s H scope _ fp)) (fun s H A cl fp => ht s H A cl fp (xok_blk hX s H scope _ fp)) (fun s H A cl fp => he s H A cl fp (xok_blk hX s H scope _ fp)) hv hs
theorem s_par {i j : Nat} {x y : Str} {a b : Expr} {f : Fx (List D)} {px py pt pos pt2 : Pos} {kt k2 : Nat} (hX : XOk X C k E) (ha : SA X C E f [a, b]) (hi : X.N[i]? = some x := by rfl) (hj : X.N[j]? = some y := by rfl) (hij : i ≠ j := by decide)
    (hx : X.env.scope.names.lookup x = some .local := by rfl) (hy : X.env.scope.names.lookup y = some .local := by rfl)
    (hw : swappedStores [.Tuple [.Name x px, .Name y py] kt pt] (.Tuple [a, b] k2 pt2) X.env = pure (some [x, y]) := by rfl)
    (hs : swapsWithSole [.Tuple [.Name x px, .Name y py] kt pt] (.Tuple [a, b] k2 pt2) pos.line X.env = pure false := by rfl) :
    SS X C E (parF i j f) (.Assign [.Tuple [.Name x px, .Name y py] kt pt] (.Tuple [a, b] k2 pt2) pos) := ss_par hX hi hj hij hx hy ha hw hs
theorem s_for {tg : Tg} {fi : Fx Walk} {fb : FS} {te iter : Expr} {body : List Stmt} {pos : Pos} (hX : XOk X C k E) (hp : PassesOwn (model X.prog X.w) X.A X.env X.xe) (hi : SI X C E fi te iter) (hg : PG X te (tTg C tg)) (hb : SSs X C E fb body)
    (hs : ∀ x, foldedSetIterable iter X.env x = pure x := by exact fun _ => rfl) : SS X C E (forF tg fi fb) (.For te iter body [] pos) := ss_for hX hp hi hg hb hs
theorem s_setI {fo fi fv : Fx D} {o i e : Expr} {pos' pos : Pos} (hX : XOk X C k E) (ho : SE X C E fo o) (hi : SE X C E fi i) (hv : SE X C E fv e) (hs : swapsWith e (some (.Subscript o i pos')) pos.line X.env = pure false := by rfl) :
    SS X C E (setIF fo fi fv) (.Assign [.Subscript o i pos'] e pos) := ss_setI hX ho hi hv hs
end
end Px

/-! Px19: the law's end, the written part found by the head. -/
namespace Px
open PySem PySem.Spec PyProof.Rows L2
theorem walk_ofE {l : PySem.W.OpenLaw} {n k : Nat} {q : Program} {loose : List Str} {XP : (Str → Option Value) → Heap → Prop} {YP : World → Heap → Prop} {d : DefRec} {x : Str} {Fu : Fn}
    (hn : l.most = some n) (hn2 : n ≤ sizeLine) (hdf : d.params.defaults = []) (hr : Room k callerA) (hps : Fu.ps = [x]) (him : importsNone q = true)
    (F : ∀ (w : World) (mg : Str → Option Value) (fa : Addr) (h : Heap), YP w h → h.Ns mainGlobals mg → mg d.name = some (.ref fa) →
      ∃ C : Kc, C.K.In h ∧ ∃ fd : FuncData, (∀ (s : Shared) (u : Value), BindsTo s fd ⟨[u], []⟩ [(x, u)]) ∧
        ∀ base : Heap, C.K.In base → base.Ns mainGlobals mg → (∃ o, base.get? sysModules = some o) → FnD l.prog w C mg base k fa fd Fu)
    (hsp : ∀ ns : List Int, ns.length ≤ n → ∃ st', Fu.run [.lck (ns.map .int)] [] = .ok (.bl true) st') :
    PySem.W.WalkO q loose XP YP l.row.toRowW d [] (fun f vs => PySem.call f vs) := by
  refine Att.attach_call hn hdf fun w s₀ s₁ mg mb fa o pm cd doc a vs ns G Y ho hd hcd hmg hobj hints hlen hg => ?_
  obtain ⟨C, KX, fd, hb, hF⟩ := F w mg fa _ Y G.T.g hmg
  exact law_callD KX G.T.g G.T.b G.T.builtins G.T.nolimit (let ⟨mm, h, _⟩ := (G.T.seer him).mods; ⟨mm, h⟩) hg hobj hints (Nat.le_trans hlen hn2) hr hps hF hb (hsp ns hlen)
/-- the law's own def, from its rule over every base -/
theorem law_fn {fa : List He.Fa} {dn : List He.DefD} {cs : List (Str × D)} {P : Program} {w : World} {C : Kc} {mg : Str → Option Value} {h : Heap} {f : Addr} {Fu : Fn} {k : Nat} {x : Str} {st : Stmt}
    (T0 : ∀ base : Heap, C.K.In base → base.Ns mainGlobals mg → (∃ o, base.get? sysModules = some o) → Tp fa dn cs C mg base) (KX : C.K.In h) (G : h.Ns mainGlobals mg) (hmg : mg "law" = some (.ref f)) (c : SaysP fa dn cs C.K) (gi li : Nat)
    (hgi : fa[gi]? = some (.glo "law")) (hli : dn[li]? = some (dOf st "law"))
    (hb : ∀ (u kV doc pm : Value) (an : Option Addr) (cdv ct : Value), bindArgs (PySem.W.fnOf "law" "law" (defArgs st) (defBody st) (defScope st) .none kV doc pm an cdv ct) ⟨[u], []⟩ = pure [(x, u)])
    (hF : ∀ base : Heap, Tp fa dn cs C mg base → ∃ fd, Has C.K (He.ga C.K "law") fd ∧ FnD P w C mg base k (He.ga C.K "law") fd Fu) :
    ∃ fd : FuncData, (∀ (s : Shared) (u : Value), BindsTo s fd ⟨[u], []⟩ [(x, u)]) ∧ ∀ base : Heap, C.K.In base → base.Ns mainGlobals mg → (∃ o, base.get? sysModules = some o) → FnD P w C mg base k f fd Fu := by
  obtain ⟨fd, F⟩ := c.fun_ li hli
  have e0 : mg "law" = some (.ref (He.ga C.K "law")) := by
    have c1 := congrArg (fun z : AlP => z.1) c
    have c1 : ((fa.all fun f => f.ok C.K) && ((dn.all fun d => d.ok C.K) && cs.all fun c => cstB C.K c.1 c.2)) = true := c1
    rw [Bool.and_eq_true] at c1
    exact He.glo_ok KX G (List.all_eq_true.mp c1.1 _ (List.mem_of_getElem? hgi))
  have e := hmg.symm.trans e0
  cases e
  have hh := fun_has F
  refine ⟨fd, fun s u => ?_, fun base h1 h2 h3 => ?_⟩
  · obtain ⟨oc, od, kV, doc, pm, an, cdv, ct, osl, rfl, _, _⟩ := F.ex
    exact .of_eq (hb u kV doc pm an cdv ct)
  · obtain ⟨fd', h4, h5⟩ := hF base (T0 base h1 h2 h3)
    cases hh.eq h4
    exact h5
end Px

/-! Px20: what a run gives: the plain side. -/
namespace Px
open PySem PySem.Spec PyProof.Rows L2
abbrev XQ := Str → List Str → List D → Store → Prop
def W {α : Type} (r : R α) (Q : α → Store → Prop) (X : XQ) : Prop := match r with
  | .ok a st => Q a st
  | .ex c ns us st => X c ns us st
  | .bad => False
abbrev noX : XQ := fun _ _ _ _ => False
section
variable {α β : Type} {X : XQ}
@[simp] theorem W_ok {a : α} {st : Store} {Q : α → Store → Prop} : W (.ok a st) Q X ↔ Q a st := Iff.rfl
@[simp] theorem W_ex {c : Str} {ns : List Str} {us : List D} {st : Store} {Q : α → Store → Prop} : W (.ex c ns us st) Q X ↔ X c ns us st := Iff.rfl
@[simp] theorem W_bad {Q : α → Store → Prop} : W (.bad) Q X ↔ False := Iff.rfl
@[simp] theorem W_bind {r : R α} {f : α → Store → R β} {Q : β → Store → Prop} : W (r.bind f) Q X ↔ W r (fun a st => W (f a st) Q X) X := by cases r <;> exact Iff.rfl
theorem W.mono {r : R α} {Q Q' : α → Store → Prop} {X X' : XQ} (h : W r Q X) (k : ∀ a st, Q a st → Q' a st) (kx : ∀ c ns us st, X c ns us st → X' c ns us st) : W r Q' X' := by
  cases r with
  | ok a st => exact k a st h
  | ex c ns us st => exact kx c ns us st h
  | bad => exact h
theorem W.go {r : R α} {Q Q' : α → Store → Prop} (h : W r Q noX) (k : ∀ a st, Q a st → Q' a st) : W r Q' X := h.mono k fun _ _ _ _ z => z.elim
theorem W.ok {r : R α} {Q : α → Store → Prop} (h : W r Q noX) : ∃ a st, r = .ok a st ∧ Q a st := by
  cases r with
  | ok a st => exact ⟨a, st, rfl, h⟩
  | ex c ns us st => exact h.elim
  | bad => exact h.elim
theorem W_iff_ok {r : R α} {a : α} {st : Store} {Q : α → Store → Prop} (e : r = .ok a st) : W r Q X ↔ Q a st := by rw [e]; exact Iff.rfl
@[simp] theorem W_ofO {o : Option α} {st : Store} {Q : α → Store → Prop} : W (ofO o st) Q X ↔ ∃ a, o = some a ∧ Q a st := by
  cases o with
  | none => simp [ofO]
  | some a => simp [ofO]
@[simp] theorem W_noEx {r : R α} {Q : α → Store → Prop} : W (noEx r) Q X ↔ W r Q noX := by cases r <;> exact Iff.rfl
/-! ### expressions -/
variable {ρ : Env} {st : Store} {Q : D → Store → Prop} {QL : List D → Store → Prop} {P : F → Store → Prop}
@[simp] theorem W_var {i : Nat} : W (varD i ρ st) Q X ↔ ∃ d, ρ[i]? = some (some d) ∧ Q d st := by
  unfold varD
  cases e : ρ[i]? with
  | none => simp
  | some o => cases o <;> simp
@[simp] theorem W_con {d : D} : W (conF d ρ st) Q X ↔ Q d st := Iff.rfl
@[simp] theorem W_nilF : W (nilF ρ st) QL X ↔ QL [] st := Iff.rfl
@[simp] theorem W_consF {f : Fx D} {g : Fx (List D)} : W (consF f g ρ st) QL X ↔ W (f ρ st) (fun x st1 => W (g ρ st1) (fun xs st2 => QL (x :: xs) st2) X) X := by unfold consF; simp
@[simp] theorem W_bin {mu : Nat} {o : Operator} {fa fb : Fx D} : W (binF mu o fa fb ρ st) Q X ↔ W (fa ρ st) (fun x st1 => W (fb ρ st1) (fun y st2 => W (binD mu o x y st2) Q X) X) X := by unfold binF; simp
@[simp] theorem W_cmp {o : CmpOp} {fa fb : Fx D} : W (cmpF o fa fb ρ st) Q X ↔ W (fa ρ st) (fun x st1 => W (fb ρ st1) (fun y st2 => W (cmpD o x y st2) Q X) X) X := by unfold cmpF; simp
@[simp] theorem W_neg {f : Fx D} : W (negF f ρ st) Q X ↔ W (f ρ st) (fun x st1 => ∃ i, x = .int i ∧ Q (.int (-i)) st1) X := by
  unfold negF; simp only [W_bind]
  cases f ρ st with
  | ok d st1 => simp only [W_ok]; cases d <;> simp
  | ex c ns us st => simp
  | bad => simp
@[simp] theorem W_tup {f : Fx (List D)} : W (tupF f ρ st) Q X ↔ W (f ρ st) (fun xs st1 => xs.length ≤ lim ∧ Q (.tup xs) st1) X := by
  unfold tupF mkT; simp only [W_bind]
  cases f ρ st with
  | ok d st1 =>
    simp only [W_ok]
    by_cases z : d.length ≤ lim
    · simp [z]
    · simp [z]
  | ex c ns us st => simp
  | bad => simp
theorem W_mkL {mu : Nat} {xs : List D} : W (mkL mu xs st) Q X ↔ xs.length ≤ lim ∧ if mu = 0 then Q (.lst xs) st else Q (.cell st.length) (st ++ [.lst xs]) := by
  unfold mkL
  by_cases z : xs.length ≤ lim
  · by_cases y : mu = 0
    · simp [z, y]
    · simp [z, y]
  · simp [z]
@[simp] theorem W_mkL0 {xs : List D} : W (mkL 0 xs st) Q X ↔ xs.length ≤ lim ∧ Q (.lst xs) st := by rw [W_mkL]; simp
@[simp] theorem W_mkL1 {xs : List D} : W (mkL 1 xs st) Q X ↔ xs.length ≤ lim ∧ Q (.cell st.length) (st ++ [.lst xs]) := by rw [W_mkL]; simp
@[simp] theorem W_mkT {xs : List D} : W (mkT xs st) Q X ↔ xs.length ≤ lim ∧ Q (.tup xs) st := by
  unfold mkT
  by_cases z : xs.length ≤ lim
  · simp [z]
  · simp [z]
@[simp] theorem W_lst {mu : Nat} {f : Fx (List D)} : W (lstF mu f ρ st) Q X ↔ W (f ρ st) (fun xs st1 => W (mkL mu xs st1) Q X) X := by unfold lstF; simp
@[simp] theorem W_ix {fa fi : Fx D} : W (ixF fa fi ρ st) Q X ↔ W (fa ρ st) (fun x st1 => W (fi ρ st1) (fun y st2 => W (ixD x y st2) Q X) X) X := by unfold ixF; simp
@[simp] theorem W_rev {mu : Nat} {f : Fx D} : W (revF mu f ρ st) Q X ↔ W (f ρ st) (fun x st1 => W (revD mu x st1) Q X) X := by unfold revF; simp
@[simp] theorem W_prim {mu : Nat} {p : Prm} {f : Fx (List D)} : W (primF mu p f ρ st) Q X ↔ W (f ρ st) (fun as st1 => W (primD mu p as st1) Q X) X := by unfold primF; simp
@[simp] theorem W_noF {Q : Option Int → Store → Prop} : W (noF ρ st) Q X ↔ Q none st := Iff.rfl
@[simp] theorem W_part {f : Fx D} {Q : Option Int → Store → Prop} : W (partF f ρ st) Q X ↔ W (f ρ st) (fun x st1 => ∃ i, x = .int i ∧ Q (some i) st1) X := by
  unfold partF; simp only [W_bind]
  cases f ρ st with
  | ok d st1 => simp only [W_ok]; cases d <;> simp
  | ex c ns us st => simp
  | bad => simp
@[simp] theorem W_slc {mu : Nat} {fa : Fx D} {fl fh : Fx (Option Int)} : W (slcF mu fa fl fh ρ st) Q X ↔ W (fa ρ st) (fun x st1 => W (fl ρ st1) (fun l st2 => W (fh ρ st2) (fun h st3 => W (slcD mu x l h st3) Q X) X) X) X := by unfold slcF; simp
theorem W_tr {f : Fx D} {g : Bool → D → Store → R β} {Q : β → Store → Prop} : W ((f ρ st).bind fun x st1 => match truth st1 x with | some b => g b x st1 | none => .bad) Q X ↔ W (f ρ st) (fun x st1 => ∃ b, truth st1 x = some b ∧ W (g b x st1) Q X) X := by
  simp only [W_bind]
  cases f ρ st with
  | ok d st1 => simp only [W_ok]; cases truth st1 d <;> simp
  | ex c ns us st => simp
  | bad => simp
@[simp] theorem W_and {f g : Fx D} : W (andF f g ρ st) Q X ↔ W (f ρ st) (fun x st1 => ∃ b, truth st1 x = some b ∧ if b then W (g ρ st1) Q X else Q x st1) X := by
  unfold andF; simp only [W_bind]
  cases f ρ st with
  | ok d st1 => simp only [W_ok]; cases truth st1 d with
    | none => simp
    | some b => cases b <;> simp
  | ex c ns us st => simp
  | bad => simp
@[simp] theorem W_or {f g : Fx D} : W (orF f g ρ st) Q X ↔ W (f ρ st) (fun x st1 => ∃ b, truth st1 x = some b ∧ if b then Q x st1 else W (g ρ st1) Q X) X := by
  unfold orF; simp only [W_bind]
  cases f ρ st with
  | ok d st1 => simp only [W_ok]; cases truth st1 d with
    | none => simp
    | some b => cases b <;> simp
  | ex c ns us st => simp
  | bad => simp
@[simp] theorem W_ite {t f g : Fx D} : W (iteF t f g ρ st) Q X ↔ W (t ρ st) (fun x st1 => ∃ b, truth st1 x = some b ∧ if b then W (f ρ st1) Q X else W (g ρ st1) Q X) X := by
  unfold iteF; simp only [W_bind]
  cases t ρ st with
  | ok d st1 => simp only [W_ok]; cases truth st1 d with
    | none => simp
    | some b => cases b <;> simp
  | ex c ns us st => simp
  | bad => simp
@[simp] theorem W_not {f : Fx D} : W (notF f ρ st) Q X ↔ W (f ρ st) (fun x st1 => ∃ b, truth st1 x = some b ∧ Q (.bl (!b)) st1) X := by
  unfold notF; simp only [W_bind]
  cases f ρ st with
  | ok d st1 => simp only [W_ok]; cases truth st1 d <;> simp [ofO]
  | ex c ns us st => simp
  | bad => simp
@[simp] theorem W_tst {f : Fx D} {Q : Bool → Store → Prop} : W (tst f ρ st) Q X ↔ W (f ρ st) (fun x st1 => ∃ b, truth st1 x = some b ∧ Q b st1) X := by unfold tst; simp
@[simp] theorem W_chn {o1 o2 : CmpOp} {fa fb fc : Fx D} : W (chainF o1 o2 fa fb fc ρ st) Q X ↔ W (fa ρ st) (fun x st1 => W (fb ρ st1) (fun y st2 => W (cmpD o1 x y st2) (fun r st3 => ∃ b, r = .bl b ∧ if b then W (fc ρ st3) (fun z st4 => W (cmpD o2 y z st4) Q X) X else Q (.bl false) st3) X) X) X := by
  unfold chainF
  cases fa ρ st with
  | ok x st1 =>
    simp only [R.bind_ok, W_ok]
    cases fb ρ st1 with
    | ok y st2 =>
      simp only [R.bind_ok, W_ok]
      cases cmpD o1 x y st2 with
      | ok d st1 => simp only [R.bind_ok, W_ok]; cases d with
        | bl b => cases b <;> simp
        | _ => simp
      | ex c ns us st => simp
      | bad => simp
    | ex c ns us st => simp
    | bad => simp
  | ex c ns us st => simp
  | bad => simp
@[simp] theorem W_isin {t : String} {f : Fx D} : W (isinF t f ρ st) Q X ↔ W (f ρ st) (fun x st1 => ∃ n, tyOf st1 x = some (.b n) ∧ tyNames.contains t = true ∧ Q (.bl (n == t || (n == "bool" && t == "int"))) st1) X := by
  unfold isinF; simp only [W_bind]
  cases f ρ st with
  | ok d st1 =>
    simp only [W_ok]
    cases tyOf st1 d with
    | none => simp
    | some ty => cases ty with
      | b n => by_cases z : tyNames.contains t = true <;> simp_all
      | c x => simp
  | ex c ns us st => simp
  | bad => simp
@[simp] theorem W_call {F : Fn} {fa fk : Fx (List D)} {ks : List Str} : W (callF F fa ks fk ρ st) Q X ↔ W (fa ρ st) (fun xs st1 => W (fk ρ st1) (fun us st2 => ∃ vs, F.bind xs ks us = some vs ∧ W (F.run vs st2) Q X) X) X := by
  unfold callF
  cases fa ρ st with
  | ok xs st1 =>
    simp only [R.bind_ok, W_ok]
    cases fk ρ st1 with
    | ok us st2 => simp only [R.bind_ok, W_ok]; cases F.bind xs ks us <;> simp
    | ex c ns us st => simp
    | bad => simp
  | ex c ns us st => simp
  | bad => simp
@[simp] theorem W_bm {m : Bm} {fo : Fx D} {fa : Fx (List D)} : W (bmF m fo fa ρ st) Q X ↔ W (fo ρ st) (fun x st1 => (lstOf st1 x).isSome = true ∧ W (fa ρ st1) (fun xs st2 => W (bmeth m x xs st2) Q X) X) X := by
  unfold bmF; simp only [W_bind]
  cases fo ρ st with
  | ok d st1 => simp only [W_ok]; cases lstOf st1 d <;> simp
  | ex c ns us st => simp
  | bad => simp
@[simp] theorem W_dct {mu : Nat} {ks : List Key} {f : Fx (List D)} : W (dctF mu ks f ρ st) Q X ↔ W (f ρ st) (fun xs st1 => if mu = 0 then Q (.dct (ks.map kD) xs) st1 else Q (.cell st1.length) (st1 ++ [.dct (ks.map kD) xs])) X := by
  unfold dctF; simp only [W_bind]
  cases f ρ st with
  | ok d st1 => simp only [W_ok]; split <;> simp
  | ex c ns us st => simp
  | bad => simp
@[simp] theorem W_dct0 {mu : Nat} : W (dct0F mu ρ st) Q X ↔ if mu = 0 then Q (.dct [] []) st else Q (.cell st.length) (st ++ [.dct [] []]) := by
  unfold dct0F; split <;> simp
/-! ### what is walked -/
variable {QW : Walk → Store → Prop}
@[simp] theorem W_walk {f : Fx D} : W (walkF f ρ st) QW X ↔ W (f ρ st) (fun x st1 => ∃ w, walkOf x st1 = some w ∧ QW w st1) X := by unfold walkF; simp
@[simp] theorem W_rng {f : Fx (List D)} : W (rngF f ρ st) QW X ↔ W (f ρ st) (fun xs st1 => ∃ l, rngOf xs = some l ∧ QW (l, none) st1) X := by
  unfold rngF; simp only [W_bind]
  cases f ρ st with
  | ok xs st1 => simp only [W_ok]; cases rngOf xs <;> simp [ofO]
  | ex c ns us st => simp
  | bad => simp
@[simp] theorem W_zip {f : Fx (List D)} : W (zipF f ρ st) QW X ↔ W (f ρ st) (fun xs st1 => ∃ l, zipOf xs = some l ∧ QW l st1) X := by
  unfold zipF; simp
open Classical in
theorem W_comp {mu : Nat} {vs : List Nat} {tg : Tg} {it : Fx Walk} {t el : Fx D} : W (compF mu vs tg it t el ρ st) Q X ↔ W (it ρ st) (fun w st1 => w.1.length ≤ lim ∧ W (compLoop tg t el w.2 (wipeE ρ vs) w.1 [] st1) (fun acc st2 => W (mkL mu acc st2) Q X) X) X := by
  unfold compF; simp only [W_bind]
  cases it ρ st with
  | ok w st1 =>
    simp only [W_ok]
    by_cases z : w.1.length ≤ lim
    · simp [z]
    · simp [z]
  | ex c ns us st => simp
  | bad => simp
open Classical in
/-- a comprehension without a test, item by item -/
theorem W_compAll {tg : Tg} {el : Fx D} {ρ' : Env} {g : Option (Nat × List D)} {Q : List D → Store → Prop} (I : List D → Store → Prop) : ∀ (xs acc : List D) (st : Store), I acc st → (∀ acc x st, x ∈ xs → I acc st → guardOk st g → ∃ ρ1, setT tg x ρ' = some ρ1 ∧ W (el ρ1 st) (fun d st2 => guardOk st2 g ∧ I (acc ++ [d]) st2) noX) → guardOk st g →
    (∀ acc' st', I acc' st' → guardOk st' g → acc'.length = acc.length + xs.length → Q acc' st') → W (compLoop tg (fun _ st => .ok (.bl true) st) el g ρ' xs acc st) Q X
  | [], acc, st, h, _, hg, k => by
    rw [compLoop]
    exact k acc st h hg rfl
  | x :: xs, acc, st, h, hs, hg, k => by
    obtain ⟨ρ1, e1, h1⟩ := hs acc x st List.mem_cons_self h hg
    rw [compLoop, e1]
    show W (R.bind (noEx (el ρ1 st)) _) Q X
    rw [W_bind, W_noEx]
    refine h1.go fun d st2 ⟨hg2, h2⟩ => ?_
    rw [if_pos hg2]
    exact W_compAll I xs (acc ++ [d]) st2 h2 (fun acc x st hx => hs acc x st (List.mem_cons_of_mem _ hx)) hg2 fun acc' st' h' g' hl => k acc' st' h' g' (by rw [hl]; simp; omega)
open Classical in
/-- a comprehension of pure tests and items -/
theorem W_compP {tg : Tg} {t el : Fx D} {ρ' : Env} {Q : List D → Store → Prop} (p : D → Bool) (f : D → D) : ∀ (xs acc : List D) (st : Store), (∀ x ∈ xs, ∃ ρ1, setT tg x ρ' = some ρ1 ∧ t ρ1 st = .ok (.bl (p x)) st ∧ (p x = true → el ρ1 st = .ok (f x) st)) → Q (acc ++ (xs.filter p).map f) st →
    W (compLoop tg t el none ρ' xs acc st) Q X
  | [], acc, st, _, k => by
    rw [compLoop]
    simpa using k
  | x :: xs, acc, st, hs, k => by
    obtain ⟨ρ1, e1, h1, h2⟩ := hs x List.mem_cons_self
    rw [compLoop, e1]
    show W (R.bind (noEx (t ρ1 st)) _) Q X
    rw [h1]
    show W (match truth st (.bl (p x)) with | some true => _ | some false => _ | none => _) Q X
    have ht : truth st (.bl (p x)) = some (p x) := rfl
    rw [ht]
    cases e : p x with
    | true =>
      show W (R.bind (noEx (el ρ1 st)) _) Q X
      rw [h2 e]
      show W (if guardOk st none then _ else _) Q X
      rw [if_pos (show guardOk st none from True.intro)]
      refine W_compP p f xs _ st (fun y hy => hs y (List.mem_cons_of_mem _ hy)) ?_
      rw [List.filter_cons, if_pos e] at k
      simpa using k
    | false =>
      show W (if guardOk st none then _ else _) Q X
      rw [if_pos (show guardOk st none from True.intro)]
      refine W_compP p f xs _ st (fun y hy => hs y (List.mem_cons_of_mem _ hy)) ?_
      rw [List.filter_cons, if_neg (by rw [e]; exact Bool.false_ne_true)] at k
      exact k
/-! ### statements -/
@[simp] theorem W_runE {f : Fx α} {g : α → Env → Store → R F} : W (runE f g ρ st) P X ↔ W (f ρ st) (fun a st1 => W (g a ρ st1) P X) (fun c ns us st1 => P (.xc c ns us ρ) st1) := by
  unfold runE
  cases f ρ st <;> simp
@[simp] theorem W_nilS : W (nilS ρ st) P X ↔ P (.nx ρ) st := Iff.rfl
def onNx (fl : F) (st : Store) (k : Env → Store → Prop) (P : F → Store → Prop) : Prop := match fl with
  | .nx ρ1 => k ρ1 st
  | x => P x st
@[simp] theorem onNx_nx {ρ : Env} {k : Env → Store → Prop} : onNx (.nx ρ) st k P ↔ k ρ st := Iff.rfl
@[simp] theorem onNx_rt {d : D} {k : Env → Store → Prop} : onNx (.rt d) st k P ↔ P (.rt d) st := Iff.rfl
@[simp] theorem onNx_bk {ρ : Env} {k : Env → Store → Prop} : onNx (.bk ρ) st k P ↔ P (.bk ρ) st := Iff.rfl
@[simp] theorem onNx_ct {ρ : Env} {k : Env → Store → Prop} : onNx (.ct ρ) st k P ↔ P (.ct ρ) st := Iff.rfl
@[simp] theorem onNx_xc {c : Str} {ns : List Str} {us : List D} {ρ : Env} {k : Env → Store → Prop} : onNx (.xc c ns us ρ) st k P ↔ P (.xc c ns us ρ) st := Iff.rfl
@[simp] theorem W_seq {f g : FS} : W (seqF f g ρ st) P X ↔ W (f ρ st) (fun fl st1 => onNx fl st1 (fun ρ1 st1 => W (g ρ1 st1) P X) P) X := by
  unfold seqF; simp only [W_bind]
  cases f ρ st with
  | ok fl st1 => simp only [W_ok]; cases fl <;> exact Iff.rfl
  | ex c ns us st => simp
  | bad => simp
@[simp] theorem W_ret {f : Fx D} : W (retF f ρ st) P X ↔ W (f ρ st) (fun d st1 => P (.rt d) st1) (fun c ns us st1 => P (.xc c ns us ρ) st1) := by unfold retF; simp
@[simp] theorem W_retN : W (retNF ρ st) P X ↔ P (.rt .non) st := Iff.rfl
@[simp] theorem W_exp {f : Fx D} : W (expF f ρ st) P X ↔ W (f ρ st) (fun d st1 => P (.nx ρ) st1) (fun c ns us st1 => P (.xc c ns us ρ) st1) := by unfold expF; simp
@[simp] theorem W_brk : W (brkF ρ st) P X ↔ P (.bk ρ) st := Iff.rfl
@[simp] theorem W_cnt : W (cntF ρ st) P X ↔ P (.ct ρ) st := Iff.rfl
@[simp] theorem W_ifS {t : Fx D} {a b : FS} : W (ifS t a b ρ st) P X ↔ W (t ρ st) (fun x st1 => ∃ c, truth st1 x = some c ∧ if c then W (a ρ st1) P X else W (b ρ st1) P X) (fun c ns us st1 => P (.xc c ns us ρ) st1) := by
  unfold ifS
  rw [W_runE, W_tst]
  have : ∀ (c : Bool) (st1 : Store), W (if c = true then a ρ st1 else b ρ st1) P X ↔ (if c = true then W (a ρ st1) P X else W (b ρ st1) P X) := by
    intro c st1
    cases c <;> exact Iff.rfl
  simp only [this]
@[simp] theorem W_asg {t : Tg} {f : Fx D} : W (asgF t f ρ st) P X ↔ W (f ρ st) (fun d st1 => ∃ ρ', setT t d ρ = some ρ' ∧ P (.nx ρ') st1) (fun c ns us st1 => P (.xc c ns us ρ) st1) := by
  unfold asgF; rw [W_runE]
  cases f ρ st with
  | ok d st1 => simp only [W_ok]; cases setT t d ρ <;> simp
  | ex c ns us st => simp
  | bad => simp
@[simp] theorem W_par {i j : Nat} {f : Fx (List D)} : W (parF i j f ρ st) P X ↔ W (f ρ st) (fun ds st1 => ∃ a b, ds = [a, b] ∧ P (.nx ((ρ.set i (some a)).set j (some b))) st1) (fun c ns us st1 => P (.xc c ns us ρ) st1) := by
  unfold parF; rw [W_runE]
  cases f ρ st with
  | ok ds st1 =>
    simp only [W_ok]
    match ds with
    | [] => simp
    | [a] => simp
    | [a, b] => exact ⟨fun h => ⟨a, b, rfl, h⟩, fun ⟨_, _, e, h⟩ => by cases e; exact h⟩
    | a :: b :: c :: r => simp
  | ex c ns us st => simp
  | bad => simp
@[simp] theorem W_setI {fo fi fv : Fx D} : W (setIF fo fi fv ρ st) P X ↔ W (fv ρ st) (fun v st1 => W (fo ρ st1) (fun o st2 => W (fi ρ st2) (fun i st3 => ∃ st', setD o i v st3 = some st' ∧ P (.nx ρ) st') (fun c ns us st1 => P (.xc c ns us ρ) st1)) (fun c ns us st1 => P (.xc c ns us ρ) st1)) (fun c ns us st1 => P (.xc c ns us ρ) st1) := by
  unfold setIF
  simp only [W_runE]
  cases fv ρ st with
  | ok v st1 =>
    simp only [W_ok]
    cases fo ρ st1 with
    | ok o st2 =>
      simp only [W_ok]
      cases fi ρ st2 with
      | ok i st3 => simp only [W_ok]; cases setD o i v st3 <;> simp
      | ex c ns us st => simp
      | bad => simp
    | ex c ns us st => simp
    | bad => simp
  | ex c ns us st => simp
  | bad => simp
@[simp] theorem setT_name {i : Nat} {d : D} {ρ : Env} : setT (.name i) d ρ = some (ρ.set i (some d)) := by rw [setT]
@[simp] theorem setT_tup {ts : List Tg} {ds : List D} {ρ : Env} : setT (.tup ts) (.tup ds) ρ = setTs ts ds ρ := by rw [setT]
@[simp] theorem setTs_nil {ρ : Env} : setTs [] [] ρ = some ρ := by rw [setTs]
@[simp] theorem setTs_cons {t : Tg} {ts : List Tg} {d : D} {ds : List D} {ρ : Env} : setTs (t :: ts) (d :: ds) ρ = (setT t d ρ).bind fun ρ' => setTs ts ds ρ' := by
  rw [setTs]; cases setT t d ρ <;> rfl
open Classical in
/-- a for over items: an invariant -/
theorem W_forL {tg : Tg} {body : FS} {g : Option (Nat × List D)} {P : F → Store → Prop} (I : List D → Env → Store → Prop) : ∀ (done xs : List D) (ρ : Env) (st : Store), I done ρ st →
    (∀ done x rest ρ st, done ++ x :: rest = done ++ x :: rest → I done ρ st → x ∈ xs → ∃ ρ1, setT tg x ρ = some ρ1 ∧ W (body ρ1 st) (fun fl st2 => match fl with
      | .nx ρ2 => guardOk st2 g ∧ I (done ++ [x]) ρ2 st2
      | .ct ρ2 => guardOk st2 g ∧ I (done ++ [x]) ρ2 st2
      | .bk ρ2 => P (.nx ρ2) st2
      | fl => P fl st2) X) → (∀ ρ st, I (done ++ xs) ρ st → P (.nx ρ) st) → W (forLoop tg body g xs ρ st) P X
  | done, [], ρ, st, h, _, k => by
    rw [forLoop]
    exact k ρ st (by simpa using h)
  | done, x :: xs, ρ, st, h, hs, k => by
    obtain ⟨ρ1, e1, h1⟩ := hs done x xs ρ st rfl h List.mem_cons_self
    rw [forLoop, e1]
    show W (R.bind (body ρ1 st) _) P X
    rw [W_bind]
    refine h1.mono (fun fl st2 h2 => ?_) fun _ _ _ _ z => z
    have go : ∀ ρ2, guardOk st2 g ∧ I (done ++ [x]) ρ2 st2 → W (if guardOk st2 g then forLoop tg body g xs ρ2 st2 else .bad) P X := fun ρ2 ⟨hg, hi⟩ => by
      rw [if_pos hg]
      refine W_forL I (done ++ [x]) xs ρ2 st2 hi (fun d y r ρ st _ h hy => hs d y r ρ st rfl h (List.mem_cons_of_mem _ hy)) fun ρ st h => k ρ st (by simpa using h)
    cases fl with
    | nx ρ2 => exact go ρ2 h2
    | ct ρ2 => exact go ρ2 h2
    | bk ρ2 => exact h2
    | rt d => exact h2
    | xc c ns us ρ2 => exact h2
@[simp] theorem W_for {tg : Tg} {it : Fx Walk} {body : FS} : W (forF tg it body ρ st) P X ↔ W (it ρ st) (fun w st1 => W (forLoop tg body w.2 w.1 ρ st1) P X) (fun c ns us st1 => P (.xc c ns us ρ) st1) := by
  unfold forF; rw [W_runE]
/-! ### a def -/
def endsD (n0 : Nat) (kp : Bool) (Q : D → Store → Prop) (X : XQ) (fl : F) (st' : Store) : Prop := match fl with
  | .nx _ => if kp then Q .non st' else W (close n0 .non st') Q X
  | .rt d => if kp then Q d st' else W (close n0 d st') Q X
  | .xc c ns us _ => W (closes n0 us st') (fun us' st'' => X c ns us' st'') noX
  | _ => False
theorem W_run {n : Nat} {kp : Bool} {body : FS} {ds : List D} {ρ0 : Env} (h0 : ds.map some ++ List.replicate (n - ds.length) none = ρ0) (h : W (body ρ0 st) (endsD st.length kp Q X) noX) : W (defRun n kp body ds st) Q X := by
  subst h0
  unfold defRun
  cases e : body (ds.map some ++ List.replicate (n - ds.length) none) st with
  | bad => rw [e] at h; exact h.elim
  | ex c ns us st' => rw [e] at h; exact h.elim
  | ok fl st' =>
    rw [e] at h
    have h : endsD st.length kp Q X fl st' := h
    cases fl with
    | nx ρ => cases kp <;> exact h
    | rt d => cases kp <;> exact h
    | bk ρ => exact h.elim
    | ct ρ => exact h.elim
    | xc c ns us ρ =>
      show W (match closes st.length us st' with | .ok us' st'' => .ex c ns us' st'' | _ => .bad) Q X
      have h : W (closes st.length us st') (fun us' st'' => X c ns us' st'') noX := h
      cases q : closes st.length us st' with
      | ok us' st'' => rw [q] at h; exact h
      | ex c ns us st' => rw [q] at h; exact h.elim
      | bad => rw [q] at h; exact h.elim
@[simp] theorem endsD_rt {n0 : Nat} {d : D} : endsD n0 false Q X (.rt d) st ↔ W (close n0 d st) Q X := Iff.rfl
@[simp] theorem endsD_rtk {n0 : Nat} {d : D} : endsD n0 true Q X (.rt d) st ↔ Q d st := Iff.rfl
@[simp] theorem endsD_nx {n0 : Nat} {ρ : Env} : endsD n0 false Q X (.nx ρ) st ↔ W (close n0 .non st) Q X := Iff.rfl
@[simp] theorem endsD_xc {n0 : Nat} {kp : Bool} {c : Str} {ns : List Str} {us : List D} {ρ : Env} : endsD n0 kp Q X (.xc c ns us ρ) st ↔ W (closes n0 us st) (fun us' st'' => X c ns us' st'') noX := Iff.rfl
theorem W_close {n0 : Nat} {d : D} (h : st.length = n0) : W (close n0 d st) Q X ↔ Q d st := by
  unfold close; rw [if_pos h]; exact Iff.rfl
@[simp] theorem W_close_self {d : D} : W (close st.length d st) Q X ↔ Q d st := W_close rfl
end
end Px

/-! Px21: values: what the operations give. -/
namespace Px
open PySem PySem.Spec PyProof.Rows L2
section
variable {X : XQ} {st : Store} {Q : D → Store → Prop} {mu : Nat}
@[simp] theorem lk_lck {xs : List D} : look st (.lck xs) = some (.lst xs) := rfl
@[simp] theorem lk_lst {xs : List D} : look st (.lst xs) = some (.lst xs) := rfl
@[simp] theorem lk_tup {xs : List D} : look st (.tup xs) = some (.tup xs) := rfl
@[simp] theorem lk_str {x : Str} : look st (.str x) = some (.str x) := rfl
@[simp] theorem lk_int {x : Int} : look st (.int x) = some (.int x) := rfl
@[simp] theorem lk_bl {x : Bool} : look st (.bl x) = some (.bl x) := rfl
@[simp] theorem lk_non : look st .non = some .non := rfl
@[simp] theorem lk_dct {ks vs : List D} : look st (.dct ks vs) = some (.dct ks vs) := rfl
theorem look_at {n : Nat} {mo : MO} (h : st[n]? = some mo) : look st (.cell n) = moD mo := by rw [look_cell, h]; rfl
@[simp] theorem truth_bl {b : Bool} : truth st (.bl b) = some b := rfl
@[simp] theorem truth_non : truth st .non = some false := rfl
@[simp] theorem truth_int {i : Int} : truth st (.int i) = some (i != 0) := rfl
@[simp] theorem truth_lst {xs : List D} : truth st (.lst xs) = some (!xs.isEmpty) := rfl
@[simp] theorem truth_tup {xs : List D} : truth st (.tup xs) = some (!xs.isEmpty) := rfl
@[simp] theorem ty_bl {b : Bool} : tyOf st (.bl b) = some (.b "bool") := rfl
@[simp] theorem ty_non : tyOf st .non = some (.b "NoneType") := rfl
@[simp] theorem ty_int {i : Int} : tyOf st (.int i) = some (.b "int") := rfl
@[simp] theorem ty_str {x : Str} : tyOf st (.str x) = some (.b "str") := rfl
@[simp] theorem ty_tup {xs : List D} : tyOf st (.tup xs) = some (.b "tuple") := rfl
@[simp] theorem ty_lst {xs : List D} : tyOf st (.lst xs) = some (.b "list") := rfl
@[simp] theorem ty_dct {ks vs : List D} : tyOf st (.dct ks vs) = some (.b "dict") := rfl
@[simp] theorem len_tup {xs : List D} : lenD st (.tup xs) = some xs.length := rfl
@[simp] theorem len_lst {xs : List D} : lenD st (.lst xs) = some xs.length := rfl
@[simp] theorem len_dct {ks vs : List D} : lenD st (.dct ks vs) = some ks.length := rfl
theorem len_str {x : Str} (h : x.length ≤ lim) : lenD st (.str x) = some x.length := if_pos h
/-! operators -/
@[simp] theorem W_add {i j : Int} : W (binD mu .Add (.int i) (.int j) st) Q X ↔ Q (.int (i + j)) st := Iff.rfl
@[simp] theorem W_sub {i j : Int} : W (binD mu .Sub (.int i) (.int j) st) Q X ↔ Q (.int (i - j)) st := Iff.rfl
@[simp] theorem W_mul {i j : Int} : W (binD mu .Mult (.int i) (.int j) st) Q X ↔ mulOk i j = true ∧ Q (.int (i * j)) st := by
  show W (if mulOk i j = true then _ else _) Q X ↔ _
  split <;> simp_all
@[simp] theorem W_mod {i j : Int} : W (binD mu .Mod (.int i) (.int j) st) Q X ↔ 0 < j ∧ Q (.int (i % j)) st := by
  show W (if 0 < j then _ else _) Q X ↔ _
  by_cases h : 0 < j
  · simp [h]
  · simp [h]
@[simp] theorem W_fdiv {i j : Int} : W (binD mu .FloorDiv (.int i) (.int j) st) Q X ↔ (0 < j ∧ j < 1073741824) ∧ Q (.int (i / j)) st := by
  show W (if (decide (0 < j) && decide (j < 1073741824)) = true then _ else _) Q X ↔ _
  by_cases h : 0 < j
  · by_cases h2 : j < 1073741824
    · simp [h, h2]
    · simp [h, h2]
  · simp [h]
@[simp] theorem W_pow {i j : Int} : W (binD mu .Pow (.int i) (.int j) st) Q X ↔ (0 ≤ j ∧ (i.natAbs.log2 + 1) * j.toNat ≤ 1000000) ∧ Q (.int (i ^ j.toNat)) st := by
  show W (if (decide (0 ≤ j) && decide ((i.natAbs.log2 + 1) * j.toNat ≤ 1000000)) = true then _ else _) Q X ↔ _
  by_cases h : 0 ≤ j
  · by_cases h2 : (i.natAbs.log2 + 1) * j.toNat ≤ 1000000
    · simp [h, h2]
    · simp [h, h2]
  · simp [h]
@[simp] theorem W_addS {x y : Str} : W (binD mu .Add (.str x) (.str y) st) Q X ↔ x.length + y.length ≤ lim ∧ Q (.str (x ++ y)) st := by
  show W (if x.length + y.length ≤ lim then _ else _) Q X ↔ _
  by_cases h : x.length + y.length ≤ lim
  · simp [h]
  · simp [h]
@[simp] theorem W_addT {x y : List D} : W (binD mu .Add (.tup x) (.tup y) st) Q X ↔ (x ++ y).length ≤ lim ∧ Q (.tup (x ++ y)) st := by
  show W (mkT (x ++ y) st) Q X ↔ _
  rw [W_mkT]
@[simp] theorem W_addL {x y : List D} : W (binD mu .Add (.lst x) (.lst y) st) Q X ↔ W (mkL mu (x ++ y) st) Q X := Iff.rfl
theorem W_mulL {xs : List D} {k : Int} (h1 : 0 ≤ k) (h2 : xs.length * k.toNat ≤ lim) (h3 : k < 2 ^ 63) : W (binD mu .Mult (.lst xs) (.int k) st) Q X ↔ W (mkL mu (List.replicate k.toNat xs).flatten st) Q X := by
  show W (if (decide (xs.length * k.toNat ≤ lim) && decide (-(2 ^ 63) ≤ k) && decide (k < 2 ^ 63)) = true then _ else _) Q X ↔ _
  rw [if_pos]
  simp [h2, h3]; omega
@[simp] theorem W_mulTk {xs : List D} {k : Int} : W (binD mu .Mult (.tup xs) (.int k) st) Q X ↔ ((xs.length ≤ 1000 ∧ -1000 ≤ k) ∧ k ≤ 1000) ∧ Q (.tup (List.replicate k.toNat xs).flatten) st := by
  show W (if (decide (xs.length ≤ 1000) && decide (-1000 ≤ k) && decide (k ≤ 1000)) = true then _ else _) Q X ↔ _
  by_cases h : (xs.length ≤ 1000 ∧ -1000 ≤ k) ∧ k ≤ 1000
  · rw [if_pos (by simp [h.1.1, h.1.2, h.2])]
    simp [h]
  · rw [if_neg (by simpa [and_assoc] using fun a b c => h ⟨⟨a, b⟩, c⟩)]
    simp [h]
theorem W_mulT {xs : List D} {k : Int} (h0 : xs ≠ []) (h1 : 2 ≤ k) (h2 : k ≤ 1000) (h3 : xs.length ≤ 1000) : W (binD mu .Mult (.tup xs) (.int k) st) Q X ↔ Q (.tup (List.replicate k.toNat xs).flatten) st := by
  rw [W_mulTk]
  exact ⟨fun h => h.2, fun h => ⟨⟨⟨h3, by omega⟩, h2⟩, h⟩⟩
theorem mulOk_l {i j : Int} (h : i.natAbs < 2 ^ 64) : mulOk i j = true := by unfold mulOk intSmall; simp [h]
theorem mulOk_r {i j : Int} (h : j.natAbs < 2 ^ 64) : mulOk i j = true := by unfold mulOk intSmall; simp [h]
@[simp] theorem W_lt {i j : Int} : W (cmpD .Lt (.int i) (.int j) st) Q X ↔ Q (.bl (decide (i < j))) st := Iff.rfl
@[simp] theorem W_le {i j : Int} : W (cmpD .LtE (.int i) (.int j) st) Q X ↔ Q (.bl (decide (i ≤ j))) st := Iff.rfl
@[simp] theorem W_gt {i j : Int} : W (cmpD .Gt (.int i) (.int j) st) Q X ↔ Q (.bl (decide (j < i))) st := Iff.rfl
@[simp] theorem W_ge {i j : Int} : W (cmpD .GtE (.int i) (.int j) st) Q X ↔ Q (.bl (decide (j ≤ i))) st := Iff.rfl
theorem W_eq {x y : D} : W (cmpD .Eq x y st) Q X ↔ ∃ b, eqD st x y = some b ∧ Q (.bl b) st := by
  have : cmpD .Eq x y st = match eqD st x y with | some b => .ok (.bl b) st | none => .bad := by cases x <;> cases y <;> rfl
  rw [this]; cases eqD st x y <;> simp
theorem W_ne {x y : D} : W (cmpD .NotEq x y st) Q X ↔ ∃ b, eqD st x y = some b ∧ Q (.bl (!b)) st := by
  have : cmpD .NotEq x y st = match eqD st x y with | some b => .ok (.bl (!b)) st | none => .bad := by cases x <;> cases y <;> rfl
  rw [this]; cases eqD st x y <;> simp
@[simp] theorem W_eqS {x y : Str} : W (cmpD .Eq (.str x) (.str y) st) Q X ↔ Q (.bl (x == y)) st := by rw [W_eq]; simp [eqD]
@[simp] theorem W_neS {x y : Str} : W (cmpD .NotEq (.str x) (.str y) st) Q X ↔ Q (.bl (!(x == y))) st := by rw [W_ne]; simp [eqD]
theorem eqD_int {i j : Int} : eqD st (.int i) (.int j) = some (i == j) := by
  show (match view st (.int i), view st (.int j) with
    | some x, some y => match x.py, y.py with
      | some p, some q => if SeqAt.shaped p && SeqAt.shaped q then some (PyData.eqv p q) else none
      | _, _ => none
    | _, _ => none) = _
  have e : ∀ i : Int, view st (.int i) = some (.int i) := fun i => by unfold view; rw [frz]
  rw [e, e]; rfl
@[simp] theorem W_eqI {x y : Int} : W (cmpD .Eq (.int x) (.int y) st) Q X ↔ Q (.bl (x == y)) st := by rw [W_eq]; simp [eqD_int]
@[simp] theorem W_neI {x y : Int} : W (cmpD .NotEq (.int x) (.int y) st) Q X ↔ Q (.bl (!(x == y))) st := by rw [W_ne]; simp [eqD_int]
theorem W_in {x y : D} : W (cmpD .In x y st) Q X ↔ ∃ b, inD st x y = some b ∧ Q (.bl b) st := by
  have : cmpD .In x y st = match inD st x y with | some b => .ok (.bl b) st | none => .bad := by cases x <;> cases y <;> rfl
  rw [this]; cases inD st x y <;> simp
theorem W_notIn {x y : D} : W (cmpD .NotIn x y st) Q X ↔ ∃ b, inD st x y = some b ∧ Q (.bl (!b)) st := by
  have : cmpD .NotIn x y st = match inD st x y with | some b => .ok (.bl (!b)) st | none => .bad := by cases x <;> cases y <;> rfl
  rw [this]; cases inD st x y <;> simp
/-! places -/
@[simp] theorem W_ixT {xs : List D} {k : Int} : W (ixD (.tup xs) (.int k) st) Q X ↔ ∃ d, atI xs k = some d ∧ Q d st := by
  show W (ofO (atI xs k) st) Q X ↔ _; simp
@[simp] theorem W_ixL {xs : List D} {k : Int} : W (ixD (.lst xs) (.int k) st) Q X ↔ ∃ d, atI xs k = some d ∧ Q d st := by
  show W (ofO (atI xs k) st) Q X ↔ _; simp
@[simp] theorem W_ixS {x : Str} {k : Int} : W (ixD (.str x) (.int k) st) Q X ↔ x.length ≤ lim ∧ ∃ c, atI x.cps.toList k = some c ∧ Q (.str ⟨#[c]⟩) st := by
  show W (if x.length ≤ lim then ofO ((atI x.cps.toList k).map fun c => .str ⟨#[c]⟩) st else .bad) Q X ↔ _
  by_cases h : x.length ≤ lim
  · rw [if_pos h]
    cases atI x.cps.toList k <;> simp [h, ofO]
  · simp [h]
@[simp] theorem W_slcT {xs : List D} {l h : Option Int} : W (slcD mu (.tup xs) l h st) Q X ↔ Q (.tup (cutL xs l h)) st := Iff.rfl
@[simp] theorem W_slcL {xs : List D} {l h : Option Int} : W (slcD mu (.lst xs) l h st) Q X ↔ W (mkL mu (cutL xs l h) st) Q X := Iff.rfl
@[simp] theorem W_slcK {xs : List D} {l h : Option Int} : W (slcD mu (.lck xs) l h st) Q X ↔ W (mkL mu (cutL xs l h) st) Q X := Iff.rfl
@[simp] theorem W_slcS {x : Str} {l h : Option Int} : W (slcD mu (.str x) l h st) Q X ↔ x.length ≤ lim ∧ Q (.str (cutS x l h)) st := by
  show W (if x.length ≤ lim then _ else _) Q X ↔ _
  by_cases z : x.length ≤ lim
  · simp [z]
  · simp [z]
@[simp] theorem W_revL {xs : List D} : W (revD mu (.lst xs) st) Q X ↔ W (mkL mu xs.reverse st) Q X := Iff.rfl
theorem atI_nn {α : Type} {xs : List α} {k : Nat} {a : α} (h : xs[k]? = some a) : atI xs (k : Int) = some a := atI_nat h
theorem atI_ok {α : Type} {xs : List α} {k : Int} (h0 : 0 ≤ k) (h1 : k < xs.length) : ∃ a, atI xs k = some a ∧ a ∈ xs := by
  obtain ⟨n, rfl⟩ := Int.eq_ofNat_of_zero_le h0
  have hn : n < xs.length := by omega
  exact ⟨xs[n], atI_nat (List.getElem?_eq_getElem hn), List.getElem_mem hn⟩
/-! built-in calls -/
@[simp] theorem W_len {a : D} : W (primD mu .len [a] st) Q X ↔ ∃ n, lenD st a = some n ∧ Q (.int n) st := by
  have : primD mu .len [a] st = ofO ((lenD st a).map fun n => .int n) st := by simp only [primD]; cases lenD st a <;> rfl
  rw [this]
  cases lenD st a <;> simp [ofO]
@[simp] theorem W_intI {i : Int} : W (primD mu .int [.int i] st) Q X ↔ Q (.int i) st := Iff.rfl
@[simp] theorem W_absI {i : Int} : W (primD mu .abs [.int i] st) Q X ↔ Q (.int (if i < 0 then -i else i)) st := Iff.rfl
@[simp] theorem W_tupleL {xs : List D} : W (primD mu .tuple [.lst xs] st) Q X ↔ W (mkT xs st) Q X := Iff.rfl
@[simp] theorem W_tupleT {xs : List D} : W (primD mu .tuple [.tup xs] st) Q X ↔ Q (.tup xs) st := Iff.rfl
@[simp] theorem W_listL {xs : List D} : W (primD mu .list [.lst xs] st) Q X ↔ W (mkL mu xs st) Q X := Iff.rfl
@[simp] theorem W_listT {xs : List D} : W (primD mu .list [.tup xs] st) Q X ↔ W (mkL mu xs st) Q X := Iff.rfl
@[simp] theorem blsOf_map {α : Type} {f : α → Bool} : ∀ {xs : List α}, blsOf (xs.map fun x => .bl (f x)) = some (xs.map f)
  | [] => rfl
  | x :: xs => by
    show (blsOf (xs.map fun x => .bl (f x))).map _ = _
    rw [blsOf_map]; rfl
@[simp] theorem intsOf_map {α : Type} {f : α → Int} : ∀ {xs : List α}, intsOf (xs.map fun x => .int (f x)) = some (xs.map f)
  | [] => rfl
  | x :: xs => by
    show (intsOf (xs.map fun x => .int (f x))).map _ = _
    rw [intsOf_map]; rfl
theorem W_all {α : Type} {f : α → Bool} {xs : List α} : W (primD mu .all [.lst (xs.map fun x => .bl (f x))] st) Q X ↔ Q (.bl (xs.all f)) st := by
  show W (ofO ((blsOf (xs.map fun x => .bl (f x))).map fun bs => .bl (bs.all id)) st) Q X ↔ _
  rw [blsOf_map]
  show Q (.bl ((xs.map f).all id)) st ↔ _
  rw [List.all_map]; rfl
theorem W_sum {α : Type} {f : α → Int} {xs : List α} : W (primD mu .sum [.lst (xs.map fun x => .int (f x))] st) Q X ↔ Q (.int (xs.map f).sum) st := by
  show W (ofO ((intsOf (xs.map fun x => .int (f x))).map fun bs => .int bs.sum) st) Q X ↔ _
  rw [intsOf_map]; exact Iff.rfl
/-! ### repr -/
mutual
theorem py_noCell : ∀ (d : D) {q : PyData}, d.py = some q → noCell d = true
  | .non, _, _ => rfl
  | .bl _, _, _ => rfl
  | .int _, _, _ => rfl
  | .str _, _, _ => rfl
  | .tup xs, q, h => by
    rw [D.py] at h
    rw [noCell]
    cases e : pys xs with
    | none => rw [e] at h; cases h
    | some l => exact pys_noCell xs e
  | .lst xs, q, h => by
    rw [D.py] at h
    rw [noCell]
    cases e : pys xs with
    | none => rw [e] at h; cases h
    | some l => exact pys_noCell xs e
  | .dct ks vs, q, h => by
    rw [D.py] at h
    rw [noCell]
    cases e : pys vs with
    | none =>
      rw [e] at h
      cases e2 : pys ks <;> rw [e2] at h <;> cases h
    | some l => exact pys_noCell vs e
  | .obj _ _ _, q, h => by rw [D.py] at h; cases h
  | .cell _, q, h => by rw [D.py] at h; cases h
  | .ty _, q, h => by rw [D.py] at h; cases h
  | .lck _, q, h => by rw [D.py] at h; cases h
theorem pys_noCell : ∀ (ds : List D) {q : List PyData}, pys ds = some q → noCells ds = true
  | [], _, _ => rfl
  | d :: ds, q, h => by
    rw [pys] at h
    rw [noCells, Bool.and_eq_true]
    cases e : d.py with
    | none => rw [e] at h; cases h
    | some a =>
      cases e2 : pys ds with
      | none => rw [e, e2] at h; cases h
      | some b => exact ⟨py_noCell d e, pys_noCell ds e2⟩
end
/-- data that can be shown: so long, so deep -/
def Gd (w k : Nat) (d : D) : Prop := ∃ q, d.py = some q ∧ q.showable = true ∧ q.depth ≤ k ∧ q.shown.length ≤ w
theorem Gd.mono {w w' k k' : Nat} {d : D} (h : Gd w k d) (h1 : w ≤ w') (h2 : k ≤ k') : Gd w' k' d := by
  obtain ⟨q, a, b, c, e⟩ := h
  exact ⟨q, a, b, Nat.le_trans c h2, Nat.le_trans e h1⟩
theorem view_py {d : D} {q : PyData} (h : d.py = some q) : view st d = some d := frz_id _ d (py_noCell d h)
/-- what repr writes -/
def shw (d : D) : Str := (d.py.map PyData.shown).getD ""
theorem W_repr {w k : Nat} {d : D} (h : Gd w k d) (hw : w ≤ 1000000 := by decide) (hk : k ≤ 64 := by decide) : W (primD mu .repr [d] st) Q X ↔ Q (.str (shw d)) st := by
  obtain ⟨q, a, b, c, e⟩ := h
  show W (match view st d with
    | some d => match d.py with
      | some q => if PyData.showable q && decide (q.depth ≤ 64) && decide (q.shown.length ≤ lim) then .ok (.str q.shown) st else .bad
      | none => .bad
    | none => .bad) Q X ↔ _
  have c' : q.depth ≤ 64 := Nat.le_trans c hk
  have e' : q.shown.length ≤ lim := Nat.le_trans e hw
  have hs : shw d = q.shown := by unfold shw; rw [a]; rfl
  rw [view_py a]
  simp only [a, b, c', e', hs, decide_true, Bool.and_self, if_true, W_ok]
theorem gd_non : Gd 4 0 .non := ⟨.none, rfl, rfl, Nat.le_refl _, Nat.le_refl _⟩
theorem gd_bl {b : Bool} : Gd 5 0 (.bl b) := ⟨.bool b, rfl, rfl, Nat.le_refl _, by cases b <;> decide⟩
theorem gd_int {i : Int} {k : Nat} (h : i.natAbs.log2 < k) (hk : k ≤ 1920) (h0 : 0 < k) : Gd (k + 1) 0 (.int i) := by
  refine ⟨.int i, rfl, ?_, Nat.le_refl _, ?_⟩
  · simp only [PyData.showable, decide_eq_true_eq]; omega
  · have := int_text_length_le h0 h
    simp only [PyData.shown]
    first
      | exact this
      | (show (Str.ofString (toString i)).length ≤ _; first | exact this | (rw [PySem.ofString_length]; exact this))
theorem gd_str {x : Str} {n : Nat} (h : x.length ≤ n) (hx : ∀ c ∈ x.cps.toList, c < 16 ^ 8) : Gd (10 * n + 2) 0 (.str x) := by
  refine ⟨.str x, rfl, rfl, Nat.le_refl _, ?_⟩
  have e := StrLaws.reprText_len x hx
  have e2 : x.length = x.cps.size := rfl
  simp only [PyData.shown]
  omega
theorem gds_pys {w k : Nat} : ∀ {xs : List D}, (∀ x ∈ xs, Gd w k x) → ∃ qs, pys xs = some qs ∧ PyData.showableAll qs = true ∧ PyData.depthAll qs ≤ k ∧ ((PyData.shownAll qs).map (·.length)).sum ≤ xs.length * w ∧ qs.length = xs.length
  | [], _ => ⟨[], rfl, rfl, Nat.zero_le _, by simp [PyData.shownAll], rfl⟩
  | x :: xs, h => by
    obtain ⟨q, a, b, c, e⟩ := h x List.mem_cons_self
    obtain ⟨qs, a2, b2, c2, e2, l2⟩ := gds_pys (xs := xs) fun y hy => h y (List.mem_cons_of_mem _ hy)
    refine ⟨q :: qs, by rw [pys, a, a2], by simp [PyData.showableAll, b, b2], by simp only [PyData.depthAll]; omega, ?_, by simp [l2]⟩
    simp only [PyData.shownAll, List.map_cons, List.sum_cons, List.length_cons, Nat.add_mul]
    omega
theorem gd_tup {w k : Nat} {xs : List D} (h : ∀ x ∈ xs, Gd w k x) : Gd (xs.length * (w + 2) + 3) (k + 1) (.tup xs) := by
  obtain ⟨qs, a, b, c, e, l⟩ := gds_pys h
  refine ⟨.tuple qs, by rw [D.py, a]; rfl, by simpa [PyData.showable] using b, by simp only [PyData.depth]; omega, ?_⟩
  have h2 := tupleText_len_le (PyData.shownAll qs)
  have h3 := PyData.shownAll_length qs
  have e4 : xs.length * (w + 2) = xs.length * w + 2 * xs.length := by rw [Nat.mul_add, Nat.mul_comm xs.length 2]
  simp only [PyData.shown]
  omega
theorem gd_lst {w k : Nat} {xs : List D} (h : ∀ x ∈ xs, Gd w k x) : Gd (xs.length * (w + 2) + 3) (k + 1) (.lst xs) := by
  obtain ⟨qs, a, b, c, e, l⟩ := gds_pys h
  refine ⟨.list qs, by rw [D.py, a]; rfl, by simpa [PyData.showable] using b, by simp only [PyData.depth]; omega, ?_⟩
  have h2 := listText_len_le (PyData.shownAll qs)
  have h3 := PyData.shownAll_length qs
  have e4 : xs.length * (w + 2) = xs.length * w + 2 * xs.length := by rw [Nat.mul_add, Nat.mul_comm xs.length 2]
  simp only [PyData.shown]
  omega
theorem gd_dct0 : Gd 2 1 (.dct [] []) := ⟨.dict [], rfl, rfl, Nat.le_refl _, by decide⟩
end
end Px

/-! Px22: the deck of the first laws: great cells, then a seed. -/
namespace Px
open PySem PySem.Spec PyProof.Rows L2
noncomputable def deckB (a m q c p t : Int) : FS :=
  seqF (asgF (.name 1) (conF (.int a)))
  (seqF (forF (.name 2) (walkF (slcF 0 (varD 0) noF (partF (conF (.int t)))))
    (seqF (asgF (.name 1) (binF 0 .Mod (primF 0 .int (consF (binF 0 .Add (binF 0 .Add (binF 0 .Mult (varD 1) (conF (.int m))) (binF 0 .Mod (primF 0 .int (consF (varD 2) nilF)) (conF (.int q)))) (conF (.int c))) nilF)) (conF (.int p)))) nilS))
  (seqF (retF (dctF 1 [.inr "great", .inr "seed"] (consF (revF 1 (compF 0 [2] (.name 2) (walkF (slcF 0 (varD 0) noF (partF (conF (.int t))))) (cmpF .GtE (varD 2) (binF 0 .Pow (conF (.int 10)) (conF (.int 18)))) (varD 2))) (consF (varD 1) nilF)))) nilS))
noncomputable def drawB (m c p m2 p2 : Int) : FS :=
  seqF (ifS (cmpF .NotEq (ixF (varD 0) (conF (.str "great"))) (lstF 0 nilF))
    (seqF (asgF (.name 2) (primF 0 .int (consF (bmF .pop (ixF (varD 0) (conF (.str "great"))) nilF) nilF)))
    (seqF (ifS (cmpF .GtE (varD 2) (varD 1)) (seqF (expF (bmF .append (ixF (varD 0) (conF (.str "great"))) (consF (binF 0 .FloorDiv (varD 2) (varD 1)) nilF))) nilS) nilS)
    (seqF (retF (binF 0 .Mod (varD 2) (varD 1))) nilS))) nilS)
  (seqF (asgF (.name 3) (binF 0 .Mod (primF 0 .int (consF (binF 0 .Add (binF 0 .Mult (ixF (varD 0) (conF (.str "seed"))) (conF (.int m))) (conF (.int c))) nilF)) (conF (.int p))))
  (seqF (setIF (varD 0) (conF (.str "seed")) (varD 3))
  (seqF (asgF (.name 4) (binF 0 .Mod (primF 0 .int (consF (binF 0 .Add (binF 0 .Add (binF 0 .Mult (varD 3) (varD 3)) (binF 0 .Mult (conF (.int m2)) (varD 3))) (conF (.int c))) nilF)) (conF (.int p2))))
  (seqF (retF (binF 0 .Mod (binF 0 .FloorDiv (varD 4) (conF (.int 64))) (varD 1))) nilS))))
def deckS (gs : List Int) (s : Int) (rest : Store) : Store := .lst (gs.map .int) :: .dct [.str "great", .str "seed"] [.cell 0, .int s] :: rest
/-- a store that begins with a deck -/
def Dk (n : Nat) (st : Store) : Prop := ∃ gs s rest, st = deckS gs s rest ∧ gs.length ≤ 63 ∧ rest.length + 2 = n
theorem Dk.len {n : Nat} {st : Store} (h : Dk n st) : st.length = n := by
  obtain ⟨gs, s, rest, rfl, _, h⟩ := h
  simp [deckS]; omega
section
variable {X : XQ}
theorem cut63 {ns : List Int} (h : ns.length ≤ 63) : cutL (ns.map D.int) none (some 63) = ns.map D.int := by
  unfold cutL
  have e1 : HT.sIx (ns.map D.int).length 0 none = 0 := rfl
  have e2 : HT.sIx (ns.map D.int).length (ns.map D.int).length (some 63) = (ns.map D.int).length := by
    have e : HT.sIx (ns.map D.int).length (ns.map D.int).length (some ((63 : Nat) : Int)) = min 63 (ns.map D.int).length := HT.sIx_nat _ _ _
    refine e.trans ?_
    rw [List.length_map]; omega
  rw [e1, e2, List.drop_zero, Nat.sub_zero, List.take_length]
theorem deck_W {a m q c p t : Int} {ns : List Int} (h : ns.length ≤ 63) (ht : t = 63) (hm : m.natAbs < 2 ^ 64) (hq : 0 < q) (hp : 0 < p) : W (defRun 3 true (deckB a m q c p t) [.lck (ns.map .int)] []) (fun d st' => d = .cell 1 ∧ Dk 2 st') X := by
  subst ht
  refine W_run (ρ0 := [some (.lck (ns.map .int)), none, none]) rfl ?_
  have hl : (ns.map D.int).length ≤ lim := by rw [List.length_map]; exact Nat.le_trans h (by decide)
  unfold deckB
  simp [cut63 h, hl, walkOf, and_assoc]
  refine ⟨by have : ns.length ≤ 63 := h; show ns.length ≤ 1000000; omega, ?_⟩
  refine W_forL (fun done ρ st => ∃ s d, ρ = [some (.lck (ns.map .int)), some (.int s), d] ∧ st = []) [] _ _ _ ⟨a, none, rfl, rfl⟩ ?_ ?_
  · rintro done x rest ρ st _ ⟨s, d, rfl, rfl⟩ hx
    obtain ⟨i, _, rfl⟩ := List.mem_map.mp hx
    refine ⟨_, setT_name, ?_⟩
    simp [mulOk_r hm, hq, hp, guardOk]
  · rintro ρ st ⟨s, d, rfl, rfl⟩
    simp [W_comp, cut63 h, walkOf, and_assoc]
    try refine ⟨by have : ns.length ≤ 63 := h; show ns.length ≤ 1000000; omega, ?_⟩
    refine W_compP (fun d => match d with | .int i => decide (10 ^ 18 ≤ i) | _ => false) (fun d => d) _ _ _ ?_ ?_
    · intro x hx
      obtain ⟨i, _, rfl⟩ := List.mem_map.mp hx
      refine ⟨_, setT_name, ?_, fun _ => rfl⟩
      have e : binF 0 .Pow (conF (.int 10)) (conF (.int 18)) [some (.lck (ns.map .int)), some (.int s), some (.int i)] [] = .ok (.int (10 ^ 18)) [] := rfl
      show cmpF .GtE (varD 2) (binF 0 .Pow (conF (.int 10)) (conF (.int 18))) [some (.lck (ns.map .int)), some (.int s), some (.int i)] [] = _
      unfold cmpF
      have ev : varD 2 [some (.lck (ns.map .int)), some (.int s), some (.int i)] [] = .ok (.int i) [] := rfl
      rw [ev, R.bind_ok, e, R.bind_ok]; rfl
    · have e : (((ns.map D.int).filter fun d => match d with | .int i => decide (10 ^ 18 ≤ i) | _ => false).map fun d => d) = (ns.filter fun i => decide (10 ^ 18 ≤ i)).map D.int := by
        rw [List.map_id', List.filter_map]; rfl
      have hf : (ns.filter fun i => decide ((10 : Int) ^ 18 ≤ i)).length ≤ 63 := Nat.le_trans (List.length_filter_le _ _) h
      rw [e]
      simp only [List.nil_append, List.length_map]
      refine ⟨Nat.le_trans hf (by decide), trivial, ?_⟩
      exact ⟨(ns.filter fun i => decide ((10 : Int) ^ 18 ≤ i)).reverse, s, [], by simp [deckS, kD], by simpa using hf, rfl⟩
theorem py_ints : ∀ gs : List Int, pys (gs.map D.int) = some (gs.map PyData.int)
  | [] => rfl
  | g :: gs => by rw [List.map_cons, pys, py_ints gs]; rfl
theorem noCells_ints : ∀ gs : List Int, noCells (gs.map D.int) = true
  | [] => rfl
  | g :: gs => by rw [List.map_cons, noCells, noCells_ints gs]; rfl
theorem lay_ints : ∀ gs : List Int, PyData.canLayAll0 (gs.map PyData.int) = true ∧ PyData.depthAll (gs.map PyData.int) = 0
  | [] => ⟨rfl, rfl⟩
  | g :: gs => by
    have ih := lay_ints gs
    exact ⟨by rw [List.map_cons, PyData.canLayAll0, ih.1]; rfl, by rw [List.map_cons, PyData.depthAll, ih.2]; rfl⟩
/-- a cell of ints beside the empty list -/
theorem eqD_nil {st : Store} {n : Nat} {gs : List Int} (h : st[n]? = some (.lst (gs.map .int))) : eqD st (.cell n) (.lst []) = some gs.isEmpty := by
  have e1 : view st (.cell n) = some (.lst (gs.map .int)) := by
    show frz (cellV 0 st 8) (.cell n) = _
    rw [frz, cellV, if_neg (Nat.not_lt_zero n), h]
    show (frzs (cellV 0 st 7) (gs.map .int)).map D.lst = _
    rw [frzs_id _ _ (noCells_ints gs)]; rfl
  have e2 : view st (.lst []) = some (.lst []) := rfl
  have e3 : (D.lst (gs.map .int)).py = some (.list (gs.map PyData.int)) := by rw [D.py, py_ints]; rfl
  have e4 : (D.lst []).py = some (.list []) := rfl
  show (match view st (.cell n), view st (.lst []) with
    | some x, some y => match x.py, y.py with
      | some p, some q => if SeqAt.shaped p && SeqAt.shaped q then some (PyData.eqv p q) else none
      | _, _ => none
    | _, _ => none) = _
  rw [e1, e2]
  simp only [e3, e4]
  have l := lay_ints gs
  have hs : SeqAt.shaped (.list (gs.map PyData.int)) = true := by
    unfold SeqAt.shaped
    rw [PyData.canLay0, PyData.depth, l.1, l.2]; rfl
  have hs2 : SeqAt.shaped (.list []) = true := rfl
  rw [hs, hs2]
  cases gs <;> rfl
theorem W_pop {st : Store} {Q : D → Store → Prop} {n : Nat} {xs : List D} {y : D} (h : st[n]? = some (.lst xs)) (hy : xs[xs.length - 1]? = some y) : W (bmeth .pop (.cell n) [] st) Q X ↔ Q y (st.set n (.lst xs.dropLast)) := by
  unfold bmeth
  simp only [h, hy]
  exact Iff.rfl
theorem W_append {st : Store} {Q : D → Store → Prop} {n : Nat} {xs : List D} {a : D} (h : st[n]? = some (.lst xs)) (hl : xs.length < lim) : W (bmeth .append (.cell n) [a] st) Q X ↔ Q .non (st.set n (.lst (xs ++ [a]))) := by
  unfold bmeth
  simp only [h, if_pos hl]
  exact Iff.rfl
theorem draw_W {m c p m2 p2 k : Int} {n : Nat} {st : Store} (hk : Dk n st) (h0 : 0 < k) (h1 : k < 1073741824) (hm : m.natAbs < 2 ^ 64) (hm2 : m2.natAbs < 2 ^ 64) (hp : 0 < p) (hp1 : p < 2 ^ 63) (hp2 : 0 < p2) :
    W (defRun 5 false (drawB m c p m2 p2) [.cell 1, .int k] st) (fun d st' => ∃ r, d = .int r ∧ 0 ≤ r ∧ r < k ∧ Dk n st') X := by
  obtain ⟨gs, s, rest, rfl, hg, hr⟩ := hk
  refine W_run (ρ0 := [some (.cell 1), some (.int k), none, none, none]) rfl ?_
  have ixg : ∀ {Q : D → Store → Prop} {X : XQ}, W (ixD (.cell 1) (.str "great") (deckS gs s rest)) Q X ↔ Q (.cell 0) (deckS gs s rest) := Iff.rfl
  have ixs : ∀ {Q : D → Store → Prop} {X : XQ}, W (ixD (.cell 1) (.str "seed") (deckS gs s rest)) Q X ↔ Q (.int s) (deckS gs s rest) := Iff.rfl
  have hz : (deckS gs s rest)[0]? = some (.lst (gs.map .int)) := rfl
  have fin : ∀ (gs' : List Int) (s' : Int) (r : Int), gs'.length ≤ 63 → 0 ≤ r → r < k → endsD (deckS gs s rest).length false (fun d st' => ∃ r, d = .int r ∧ 0 ≤ r ∧ r < k ∧ Dk n st') X (.rt (.int r)) (deckS gs' s' rest) := fun gs' s' r hl a b => by
    rw [endsD_rt, W_close (by simp [deckS])]
    exact ⟨r, rfl, a, b, gs', s', rest, rfl, hl, hr⟩
  have hb1 : ∀ x : Int, 0 ≤ x % k ∧ x % k < k := fun x => ⟨Int.emod_nonneg x (by omega), Int.emod_lt_of_pos x h0⟩
  unfold drawB
  cases gs with
  | nil =>
    have e0 := eqD_nil hz
    simp only [W_seq, W_ifS, W_cmp, W_ix, W_var, W_con, W_lst, W_nilF, W_mkL0, List.getElem?_cons_zero, Option.some.injEq, exists_eq_left', ixg]
    refine ⟨Nat.zero_le _, ?_⟩
    rw [W_ne]
    refine ⟨_, e0, _, rfl, ?_⟩
    simp only [List.isEmpty_nil, Bool.not_true, Bool.false_eq_true, if_false, W_nilS, onNx_nx]
    have sm : (((s * m + c) % p) * ((s * m + c) % p)) = (((s * m + c) % p) * ((s * m + c) % p)) := rfl
    have hs1 : ((s * m + c) % p).natAbs < 2 ^ 64 := by
      have := Int.emod_nonneg (s * m + c) (show p ≠ 0 by omega)
      have := Int.emod_lt_of_pos (s * m + c) hp
      omega
    have hset : setD (.cell 1) (.str "seed") (.int ((s * m + c) % p)) (deckS [] s rest) = some (deckS [] ((s * m + c) % p) rest) := rfl
    simp [ixs, mulOk_r hm, mulOk_l hm2, mulOk_l hs1, hp, hp2, h0, hset]
    exact fin [] _ _ (by decide) (hb1 _).1 (hb1 _).2
  | cons g gs =>
    have e0 := eqD_nil hz
    simp only [W_seq, W_ifS, W_cmp, W_ix, W_var, W_con, W_lst, W_nilF, W_mkL0, List.getElem?_cons_zero, Option.some.injEq, exists_eq_left', ixg]
    refine ⟨Nat.zero_le _, ?_⟩
    rw [W_ne]
    refine ⟨_, e0, _, rfl, ?_⟩
    simp only [List.isEmpty_cons, Bool.not_false, if_true]
    have hlast : ∃ y : Int, ((g :: gs).map D.int)[((g :: gs).map D.int).length - 1]? = some (.int y) := by
      refine ⟨(g :: gs).getLast (List.cons_ne_nil _ _), ?_⟩
      rw [List.length_map, List.getElem?_map, ← List.getLast?_eq_getElem?, List.getLast?_eq_getLast (List.cons_ne_nil _ _)]
      rfl
    obtain ⟨y, hy⟩ := hlast
    have hl1 : ((g :: gs).dropLast).length ≤ 62 := by rw [List.length_dropLast]; omega
    have hset : (deckS (g :: gs) s rest).set 0 (.lst ((g :: gs).map D.int).dropLast) = deckS (g :: gs).dropLast s rest := by
      show MO.lst ((g :: gs).map D.int).dropLast :: _ = _
      rw [← List.map_dropLast]; rfl
    have hlst : (lstOf (deckS (g :: gs) s rest) (.cell 0)).isSome = true := rfl
    have ixg2 : ∀ {Q : D → Store → Prop} {X : XQ}, W (ixD (.cell 1) (.str "great") (deckS (g :: gs).dropLast s rest)) Q X ↔ Q (.cell 0) (deckS (g :: gs).dropLast s rest) := Iff.rfl
    have hlst2 : (lstOf (deckS (g :: gs).dropLast s rest) (.cell 0)).isSome = true := rfl
    have hz2 : (deckS (g :: gs).dropLast s rest)[0]? = some (.lst ((g :: gs).dropLast.map .int)) := rfl
    simp only [W_seq, W_asg, W_prim, W_consF, W_bm, W_ix, W_var, W_con, W_nilF, List.getElem?_cons_zero, Option.some.injEq, exists_eq_left', ixg, hlst, true_and, W_pop hz hy, hset, W_intI, setT_name, onNx_nx, W_ifS, W_cmp, W_ge, truth_bl, W_exp]
    simp only [List.set_cons_succ, List.set_cons_zero, List.getElem?_cons_succ, List.getElem?_cons_zero, Option.some.injEq, exists_eq_left', W_ge, truth_bl, ixg2, hlst2, true_and, W_fdiv, h0, h1]
    by_cases hge : k ≤ y
    · rw [if_pos (by simpa using hge)]
      have hl3 : ((g :: gs).dropLast.map D.int).length < lim := by rw [List.length_map]; exact Nat.lt_of_le_of_lt hl1 (by decide)
      have hset2 : (deckS (g :: gs).dropLast s rest).set 0 (.lst ((g :: gs).dropLast.map D.int ++ [.int (y / k)])) = deckS ((g :: gs).dropLast ++ [y / k]) s rest := by
        show MO.lst ((g :: gs).dropLast.map D.int ++ [.int (y / k)]) :: _ = _
        simp [deckS]
      simp only [W_fdiv, h0, h1, and_self, true_and, W_append hz2 hl3, hset2, W_nilS, onNx_nx, W_ret, W_bin, W_var, List.getElem?_cons_succ, List.getElem?_cons_zero, Option.some.injEq, exists_eq_left', W_mod, h0, true_and, onNx_rt]
      exact fin ((g :: gs).dropLast ++ [y / k]) s _ (by rw [List.length_append]; exact Nat.succ_le_succ hl1) (hb1 _).1 (hb1 _).2
    · rw [if_neg (by simpa using hge)]
      simp only [W_nilS, onNx_nx, W_ret, W_bin, W_var, List.getElem?_cons_succ, List.getElem?_cons_zero, Option.some.injEq, exists_eq_left', W_mod, h0, true_and, onNx_rt, W_seq]
      exact fin (g :: gs).dropLast s _ (by omega) (hb1 _).1 (hb1 _).2
open Classical in
/-- a for over items: an invariant; how many are done -/
theorem W_forN {tg : Tg} {body : FS} {g : Option (Nat × List D)} {P : F → Store → Prop} (I : Nat → Px.Env → Store → Prop) (N : Nat) : ∀ (m : Nat) (xs : List D) (ρ : Px.Env) (st : Store), m + xs.length = N → I m ρ st →
    (∀ m x ρ st, m < N → I m ρ st → x ∈ xs → ∃ ρ1, setT tg x ρ = some ρ1 ∧ W (body ρ1 st) (fun fl st2 => match fl with
      | .nx ρ2 => guardOk st2 g ∧ I (m + 1) ρ2 st2
      | .ct ρ2 => guardOk st2 g ∧ I (m + 1) ρ2 st2
      | .bk ρ2 => P (.nx ρ2) st2
      | fl => P fl st2) X) → (∀ ρ st, I N ρ st → P (.nx ρ) st) → W (forLoop tg body g xs ρ st) P X
  | m, [], ρ, st, hm, h, _, k => by
    rw [forLoop]
    simp at hm; subst hm
    exact k ρ st h
  | m, x :: xs, ρ, st, hm, h, hs, k => by
    rw [List.length_cons] at hm
    obtain ⟨ρ1, e1, h1⟩ := hs m x ρ st (by omega) h List.mem_cons_self
    rw [forLoop, e1]
    show W (R.bind (body ρ1 st) _) P X
    rw [W_bind]
    refine h1.mono (fun fl st2 h2 => ?_) fun _ _ _ _ z => z
    have go : ∀ ρ2, guardOk st2 g ∧ I (m + 1) ρ2 st2 → W (if guardOk st2 g then forLoop tg body g xs ρ2 st2 else .bad) P X := fun ρ2 ⟨hg, hi⟩ => by
      rw [if_pos hg]
      exact W_forN I N (m + 1) xs ρ2 st2 (by omega) hi (fun m y ρ st hm h hy => hs m y ρ st hm h (List.mem_cons_of_mem _ hy)) k
    cases fl with
    | nx ρ2 => exact go ρ2 h2
    | ct ρ2 => exact go ρ2 h2
    | bk ρ2 => exact h2
    | rt d => exact h2
    | xc c ns us ρ2 => exact h2
end
end Px

/-! Px23: own exceptions: an __init__ that says super().__init__(a text) and keeps one value, or none. -/
namespace Px
open PySem PySem.W PySem.Calls PyProof.Rows

/-- what the written part says of such a class: D holds the __init__ (C itself or a base) -/
structure ErrK (prog : Program) (K : Frag) (C D fI cc : Addr) (qual : Str) (st : Stmt) (fd : FuncData) : Prop where
  cls : ∃ nm N qn bs bm sn sub ab col dd k0 k1 k2 k3 k5, K.lookup C = some (excClassObj nm qn C N bs bm true sn sub ab col dd k0 k1 k2 k3 k5 "Exception.__new__") ∧ excTail [.type "Exception", .type "BaseException", .type "object"] bm = true
  sup : ks_superIn K C D "__init__" = some (some (.builtin "Exception.__init__"))
  subE : subIn K (.ref C) (.type "Exception") = some true
  subD : mroIn K C (.ref D) = some true
  dcl : (clsIn K D).isSome = true
  ini : findIn K (.ref C) "__init__" = some (some (.ref fI))
  isf : isFn K (.ref fI) = true
  fn : ∃ oc od kV doc pm an cda ct osl vs ccl cdd ccs tf, fd = ksFn "__init__" qual (L2.defArgs st) (L2.defBody st) (L2.defScope st) .none kV doc pm an (.ref cda) ct cc ∧ K.lookup fI = some ⟨oc, od, .func fd, osl⟩ ∧ codeIn K (.ref cda) qual = true ∧
    K.lookup cda = some ⟨ccl, cdd, .fields vs, ccs⟩ ∧ vs[2]? = some (.str prog.main.file tf)
  cell : ∃ cl cld csl, K.lookup cc = some ⟨cl, cld, .cell (some (.ref D)), csl⟩
  any : nsIn K cStatics "thirdparty.any" = some none
  supn : nsIn K mainGlobals "super" = some none
  top : (prog.main.scope.names.lookup ("super" : Str)).isSome = false
  sa : findIn K (.ref C) "__setattr__" = some (some (.builtin "object.__setattr__"))
  ov : excOver K C [.type "Exception", .type "BaseException", .type "object"] = true
  hdd : hasDictIn K C = true
abbrev exT : List Value := [.type "Exception", .type "BaseException", .type "object"]
section
variable {prog : Program} {w : World} {A : Around} {E : Value → Shared → Prop} {K : Frag} {C D fI cc cda L e t0 : Addr} {qual : Str} {st : Stmt} {fd : FuncData} {h : Heap} {g : Array GenState} {d : Drawn} {t : Nat} {os : OsState} {mg mb m : Str → Option Value}
theorem err_super (X : K.In h) (er : ErrK prog K C D fI cc qual st fd) (hG : h.Ns mainGlobals mg) (hB : h.Ns builtinsNs mb) (hbb : mb "super" = some (.type "super")) (hmg : mg "super" = none)
    {scope : Scope} {ar : Arg} {vs : Array Value} {tf : Tok} {ccl : Value} {cdd : Option Addr} {ccs : Array (Option Value)} {oc : Value} {od : Option Addr} {osl : Array (Option Value)} {body : List Stmt}
    (lk : K.lookup fI = some ⟨oc, od, .func fd, osl⟩) (hcd : K.lookup cda = some ⟨ccl, cdd, .fields vs, ccs⟩) (hvs : vs[2]? = some (.str prog.main.file tf))
    (hp : (fd.params.posonlyargs ++ fd.params.args).head? = some ar) (hL : h.Ns L m) (hv : m ar.arg = some (.ref e))
    (hks : scope.names.lookup ("super" : Str) = some .globalImplicit) (hkc : scope.names.lookup ("__class__" : Str) = some .free) (hka : scope.names.lookup ar.arg = some .local) (hk : scope.kind = .function)
    (he : h.get? e = some (HandSPX.excO C t0)) {p0 p1 p2 p3 p4 pc : Pos} {j : Nat} {txt : Str} {Q : Flow → Shared → Prop} {pl : Sem Bool}
    (hev : eval (.Call (.Attribute (.Call (.Name "super" p0) [] [] p1) "__init__" p2) [.Constant (.str txt) j pc] [] p3) (ksEnv qual scope L fI (.ref cda) cc) = (do
      let ov ← attributeBase (.Call (.Name "super" p0) [] [] p1) "__init__" (ksEnv qual scope L fI (.ref cda) cc) (eval (.Call (.Name "super" p0) [] [] p1) (ksEnv qual scope L fI (.ref cda) cc))
      standAt p2.atName
      let (f, first) ← holding [ov] (getMethod ov "__init__" pl)
      callWith p3 f first (backTo p3 (starEach [.Constant (.str txt) j pc] (ksEnv qual scope L fI (.ref cda) cc))) []))
    (hq : ∀ h' t', (∃ t1, h'.get? e = some (HandSPX.excO C t1)) → (∀ b o, b ≠ e → h.get? b = some o → h'.get? b = some o) → Q .next ⟨h', g, d, t', os⟩) :
    _root_.PySem.wpAt (model prog w) A (.func body (ksEnv qual scope L fI (.ref cda) cc)) (exec (.Expr (.Call (.Attribute (.Call (.Name "super" p0) [] [] p1) "__init__" p2) [.Constant (.str txt) j pc] [] p3) p4) (ksEnv qual scope L fI (.ref cda) cc)) Q E ⟨h, g, d, t, os⟩ := by
  obtain ⟨kind, names, ig, ic, more⟩ := scope
  have hk : kind = .function := hk
  subst hk
  obtain ⟨nm, N, qn, bs, bm, sn, sub, ab, col, dd, k0, k1, k2, k3, k5, hC, hbm⟩ := er.cls
  obtain ⟨cl, cld, csl, hcell⟩ := er.cell
  obtain ⟨cdD, hD⟩ := Option.isSome_iff_exists.mp er.dcl
  obtain ⟨oD, hD1, hD2⟩ : ∃ oD, h.get? D = some oD ∧ oD.data = .cls cdD := by
    unfold clsIn at hD
    split at hD
    · rename_i c d cd' sl ho
      cases hD
      exact ⟨_, X _ _ ho, rfl⟩
    · cases hD
  refine ks_wpAt_Expr_any ?_
  refine ks_wpAt_MethodCall ?_ hev
  refine ks_wpAt_super_base hks hkc rfl rfl (X _ _ lk) rfl hp rfl (X _ _ hcd) rfl hvs (by simp) er.top ?_
  refine ks_loadName_global rfl hks (loadGlobal_builtin (env := ksEnv qual ⟨.function, names, ig, ic, more⟩ L fI (.ref cda) cc) hG hmg hB hbb ⟨rfl, ?_⟩)
  refine wpAny_loadName_free rfl hkc rfl ⟨_, X _ _ hcell, rfl⟩ ?_
  refine wpAny_loadName_local rfl hka hL hv ?_
  refine ks_wpAny_isType_cls hD1 hD2 ⟨rfl, ?_⟩
  refine ks_wpAny_call_super hD1 hD2 he rfl (fun c e => by cases e) (looks_mroIn X er.subD) (fun h1 hso k => ?_)
  have X1 : K.In h1 := fun b o q => k _ _ (X b o q)
  have he1 := k _ _ he
  have I1 : InstAt h1 e (HandSPX.excO C t0) C none := ⟨he1, rfl, rfl, trivial⟩
  have hI : Looks (model prog w) h1 (isInstance (.ref e) (.type "Exception")) true := I1.type.andThen (looks_subIn X1 er.subE)
  have hs := er.sup
  unfold ks_superIn at hs
  cases hc : clsIn K C with
  | none => rw [hc] at hs; cases hs
  | some cd =>
    rw [hc] at hs
    have hs : alongIn K "__init__" ((cd.mro.dropWhile (· != .ref D)).drop 1) = some (some (.builtin "Exception.__init__")) := hs
    refine kxs_getMethod kxs_Exception hso (looks_opaque X1 er.any) (l₀ := cd.mro) (fun A Q E s k q => wpAny_bind ((looks_clsIn X1 hc) A _ E s k (wpAny_pure q))) rfl X1 hs hI (ks_ne X1 I1 hc) rfl ?_
    have hu : (h1.push (kxs_mw "Exception.__init__" e)).get? h1.objs.size = some (kxs_mw "Exception.__init__" e) := Heap.get?_push_at rfl rfl
    have k2 : ∀ b o, h1.get? b = some o → (h1.push (kxs_mw "Exception.__init__" e)).get? b = some o := fun b o q => Heap.get?_push_of_some _ q
    refine PySem.ESX.callWith_bound (x := e) ?_
    refine spliced_more (Calls.Constant_str (spliced_none ⟨hu, ?_⟩))
    refine PySem.ESX.call_bw (k2 _ _ (X1 _ _ hC)) (k2 _ _ he1) hu (by show 1 ≤ sizeLine; decide) fun h' t1 k' e' => ?_
    exact hq h' _ ⟨t1, e'⟩ fun b o hb ho => k' b o hb (k2 _ _ (k _ _ ho))
open Builtin Builtin.ObjectAttr in
theorem err_attr {t1 : Addr} {attr : Str} {v : Value} {Q : Unit → Shared → Prop} (X : K.In h) (er : ErrK prog K C D fI cc qual st fd) (ht : takerIn K C attr = some none) (he : h.get? e = some (HandSPX.excO C t1))
    (hq : ∀ h' t', (∀ b o, b ≠ e → h.get? b = some o → h'.get? b = some o) → h'.get? e = some { cls := .ref C, dict := some h.objs.size, data := .fields #[.ref t1, .none, .none, .none, .bool false, .none] } →
      h'.Ns1 h.objs.size (fun y => if y = attr then some v else none) → Q () ⟨h', g, d, t', os⟩) :
    wpAny (model prog w) A (setAttr (.ref e) attr v) Q E ⟨h, g, d, t, os⟩ := by
  obtain ⟨cd, hc, hd'⟩ := any_some er.hdd
  have hxs : e ≠ h.objs.size := Nat.ne_of_lt (Heap.lt_size he)
  refine set_plain (od := none) X ⟨he, rfl, rfl, trivial⟩ er.sa ?_
  refine osa_openX (od := none) F.store_Exception X ⟨he, rfl, rfl, trivial⟩ er.ov ht fun b => ?_
  refine wpAny_bind (wpAny_pure (wpAny_bind (instanceDict_exc he (looks_clsIn X hc) hd' ?_)))
  show wpAny _ _ (storeInDict h.objs.size (.str attr _) attr v) _ _ _
  refine HandSPX.store_in_new ?_ ?_
  · exact ⟨_, #[], _, (Heap.get?_update_ne _ _ _ _ hxs.symm).trans (Heap.get?_push_at rfl rfl), rfl, fun e he => absurd he (by simp), fun _ => rfl⟩
  · intro h' tk' hn' hs
    have hx₁ : (h.push (dictOf [] 0)).get? e = some (HandSPX.excO C t1) := Heap.get?_push_of_some _ he
    refine hq h' _ (fun b o hb ho => ?_) ?_ hn'
    · exact (hs.2 b (Nat.ne_of_lt (Heap.lt_size ho))).trans ((Heap.get?_update_ne _ _ _ _ hb).trans (Heap.get?_push_of_some _ ho))
    · exact (hs.2 e hxs).trans (Heap.get?_update_self _ hx₁ rfl)
/-- the __init__ of an error that keeps nothing -/
def Init0 (st : Stmt) : Prop := ∃ (self : Str) (p0 p1 p2 p3 p4 pc pa : Pos) (j : Nat) (txt : Str) (an : Option Expr), L2.defBody st = [.Expr (.Call (.Attribute (.Call (.Name "super" p0) [] [] p1) "__init__" p2) [.Constant (.str txt) j pc] [] p3) p4] ∧
  L2.defArgs st = ⟨[], [⟨self, an, pa⟩], none, [], [], none, []⟩ ∧ (L2.defScope st).names.lookup self = some .local ∧ (∀ (qual : Str) (kV doc pm : Value) (an : Option Addr) (cdv ct u : Value) (cc : Addr), bindArgs (ksFn "__init__" qual (L2.defArgs st) (L2.defBody st) (L2.defScope st) .none kV doc pm an cdv ct cc) ⟨[u], []⟩ = pure [(self, u)]) ∧
  ∀ (qual : Str) (L fI cda cc : Addr), ∃ pl : Sem Bool, eval (.Call (.Attribute (.Call (.Name "super" p0) [] [] p1) "__init__" p2) [.Constant (.str txt) j pc] [] p3) (ksEnv qual (L2.defScope st) L fI (.ref cda) cc) = (do
      let ov ← attributeBase (.Call (.Name "super" p0) [] [] p1) "__init__" (ksEnv qual (L2.defScope st) L fI (.ref cda) cc) (eval (.Call (.Name "super" p0) [] [] p1) (ksEnv qual (L2.defScope st) L fI (.ref cda) cc))
      standAt p2.atName
      let (f, first) ← holding [ov] (getMethod ov "__init__" pl)
      callWith p3 f first (backTo p3 (starEach [.Constant (.str txt) j pc] (ksEnv qual (L2.defScope st) L fI (.ref cda) cc))) [])
/-- what its scope must say -/
structure InitSc (st : Stmt) : Prop where
  kind : (L2.defScope st).kind = .function
  co : (L2.defScope st).isCoroutine = false
  gen : (L2.defScope st).isGenerator = false
  sup : (L2.defScope st).names.lookup ("super" : Str) = some .globalImplicit
  cls : (L2.defScope st).names.lookup ("__class__" : Str) = some .free
  cell : ∀ x ∈ (L2.defScope st).names, x.2 ≠ .cell
theorem err_init0 {R : Result → Shared → Prop} (X : K.In h) (er : ErrK prog K C D fI cc qual st fd) (sc : InitSc st) (i0 : Init0 st) (hlim : h.NoLimit) (hroom : A.depth < recursionLimit) (hG : h.Ns mainGlobals mg) (hB : h.Ns builtinsNs mb) (hbb : mb "super" = some (.type "super")) (hmg : mg "super" = none)
    (he : h.get? e = some (HandSPX.excO C t0)) (hq : ∀ h' t', (∃ t1, h'.get? e = some (HandSPX.excO C t1)) → (∀ b o, b ≠ e → h.get? b = some o → h'.get? b = some o) → R (.ok (.ret .none)) ⟨h', g, d, t', os⟩) :
    codeAny (model prog w) A (.call (.ref fI) ⟨[.ref e], []⟩) R ⟨h, g, d, t, os⟩ := by
  obtain ⟨oc, od, kV, doc, pm, an, cda, ct, osl, vs, ccl, cdd, ccs, tf, rfl, lk, hcd, lcd, hvs⟩ := er.fn
  obtain ⟨self, p0, p1, p2, p3, p4, pc, pa, j, txt, ane, hb, ha, hs, hbd, hev⟩ := i0
  obtain ⟨pl, hev⟩ := hev qual h.objs.size fI cda cc
  have hne : h.objs.size ≠ e := Nat.ne_of_gt (Heap.lt_size he)
  refine ks_codeAny_call_defAt (binds := [(self, .ref e)]) hroom (X _ _ lk) rfl hlim (codeRec_of X hcd) rfl (.of_eq ?_) sc.cell (fun y hy => ?_) (fun h0 ns0 k0 => ?_) sc.co sc.gen sc.kind
  · exact hbd _ _ _ _ _ _ _ _ _
  · rw [List.mem_singleton] at hy; subst hy; exact hs
  · rw [hb]
    have X0 : K.In h0 := fun b o q => k0 _ _ (X b o q)
    refine ks_wpAt_execs_cons ?_
    refine err_super (e := e) (ar := ⟨self, ane, pa⟩) (L := h.objs.size) X0 er (Heap.Ns.keepsP hG k0) (Heap.Ns.keepsP hB k0) hbb hmg lk lcd hvs (by rw [ha]; rfl) ns0 (by simp) sc.sup sc.cls hs sc.kind (k0 _ _ he) hev (fun h' t' h1 h2 => ?_)
    refine wpAt_of_wpAny (wpAny_pure ?_)
    exact hq h' t' h1 fun b o hb' ho => h2 b o hb' (k0 _ _ ho)
/-- the __init__ of an error that keeps one value -/
def Init1 (st : Stmt) (attr : Str) : Prop := ∃ (self par : Str) (p0 p1 p2 p3 p4 pc pa pb q1 q2 q3 q4 : Pos) (j : Nat) (txt : Str) (an an2 : Option Expr), L2.defBody st = [.Expr (.Call (.Attribute (.Call (.Name "super" p0) [] [] p1) "__init__" p2) [.Constant (.str txt) j pc] [] p3) p4, .Assign [.Attribute (.Name self q1) attr q2] (.Name par q3) q4] ∧
  L2.defArgs st = ⟨[], [⟨self, an, pa⟩, ⟨par, an2, pb⟩], none, [], [], none, []⟩ ∧ (L2.defScope st).names.lookup self = some .local ∧ (L2.defScope st).names.lookup par = some .local ∧ self ≠ par ∧ (self == ("__debug__" : Str)) = false ∧ (par == ("__debug__" : Str)) = false ∧
  (∀ (qual : Str) (kV doc pm : Value) (an : Option Addr) (cdv ct u v : Value) (cc : Addr), bindArgs (ksFn "__init__" qual (L2.defArgs st) (L2.defBody st) (L2.defScope st) .none kV doc pm an cdv ct cc) ⟨[u, v], []⟩ = pure [(self, u), (par, v)]) ∧
  (∀ (qual : Str) (L fI cda cc : Addr), swapsWith (.Name par q3) (some (.Attribute (.Name self q1) attr q2)) q4.line (ksEnv qual (L2.defScope st) L fI (.ref cda) cc) = pure false) ∧
  ∀ (qual : Str) (L fI cda cc : Addr), ∃ pl : Sem Bool, eval (.Call (.Attribute (.Call (.Name "super" p0) [] [] p1) "__init__" p2) [.Constant (.str txt) j pc] [] p3) (ksEnv qual (L2.defScope st) L fI (.ref cda) cc) = (do
      let ov ← attributeBase (.Call (.Name "super" p0) [] [] p1) "__init__" (ksEnv qual (L2.defScope st) L fI (.ref cda) cc) (eval (.Call (.Name "super" p0) [] [] p1) (ksEnv qual (L2.defScope st) L fI (.ref cda) cc))
      standAt p2.atName
      let (f, first) ← holding [ov] (getMethod ov "__init__" pl)
      callWith p3 f first (backTo p3 (starEach [.Constant (.str txt) j pc] (ksEnv qual (L2.defScope st) L fI (.ref cda) cc))) [])
theorem ns_of {h h' : Heap} {L e : Addr} {m : Str → Option Value} (hn : h.Ns L m) (hne : L ≠ e) (k : ∀ b o, b ≠ e → h.get? b = some o → h'.get? b = some o) : h'.Ns L m :=
  let ⟨o, es, ep, q, r⟩ := hn; ⟨o, es, ep, k _ _ hne q, r⟩
theorem err_init1 {R : Result → Shared → Prop} {attr : Str} {v : Value} (X : K.In h) (er : ErrK prog K C D fI cc qual st fd) (sc : InitSc st) (i1 : Init1 st attr) (ht : takerIn K C attr = some none) (hlim : h.NoLimit) (hroom : A.depth < recursionLimit) (hG : h.Ns mainGlobals mg) (hB : h.Ns builtinsNs mb) (hbb : mb "super" = some (.type "super")) (hmg : mg "super" = none)
    (heC : K.lookup e = none) (he : h.get? e = some (HandSPX.excO C t0)) (hq : ∀ h' t' dx, (∃ t1, h'.get? e = some { cls := .ref C, dict := some dx, data := .fields #[.ref t1, .none, .none, .none, .bool false, .none] }) → h.objs.size ≤ dx → h'.Ns1 dx (fun y => if y = attr then some v else none) → (∀ b o, b ≠ e → h.get? b = some o → h'.get? b = some o) → R (.ok (.ret .none)) ⟨h', g, d, t', os⟩) :
    codeAny (model prog w) A (.call (.ref fI) ⟨[.ref e, v], []⟩) R ⟨h, g, d, t, os⟩ := by
  obtain ⟨oc, od, kV, doc, pm, an, cda, ct, osl, vs, ccl, cdd, ccs, tf, rfl, lk, hcd, lcd, hvs⟩ := er.fn
  obtain ⟨self, par, p0, p1, p2, p3, p4, pc, pa, pb, q1, q2, q3, q4, j, txt, ane, ane2, hb, ha, hs, hpar, hsp, hsd, hpd, hbd, hsw, hev⟩ := i1
  obtain ⟨pl, hev⟩ := hev qual h.objs.size fI cda cc
  have hne : h.objs.size ≠ e := Nat.ne_of_gt (Heap.lt_size he)
  refine ks_codeAny_call_defAt (binds := [(self, .ref e), (par, v)]) hroom (X _ _ lk) rfl hlim (codeRec_of X hcd) rfl (.of_eq (hbd _ _ _ _ _ _ _ _ _ _)) sc.cell (fun y hy => ?_) (fun h0 ns0 k0 => ?_) sc.co sc.gen sc.kind
  · simp only [List.mem_cons, List.not_mem_nil, or_false] at hy
    rcases hy with q | q <;> subst q
    · exact hs
    · exact hpar
  · rw [hb]
    have X0 : K.In h0 := fun b o q => k0 _ _ (X b o q)
    have mS : (fun x => (([(self, Value.ref e), (par, v)] : List (Str × Value)).reverse.lookup x)) self = some (.ref e) := by
      show ([(par, v), (self, Value.ref e)] : List (Str × Value)).lookup self = _
      simp [List.lookup, hsp]
      have : (self == par) = false := by simpa using hsp
      rw [this]
    have mP : (fun x => (([(self, Value.ref e), (par, v)] : List (Str × Value)).reverse.lookup x)) par = some v := by
      show ([(par, v), (self, Value.ref e)] : List (Str × Value)).lookup par = _
      simp [List.lookup]
    refine ks_wpAt_execs_cons ?_
    refine err_super (e := e) (ar := ⟨self, ane, pa⟩) (L := h.objs.size) X0 er (Heap.Ns.keepsP hG k0) (Heap.Ns.keepsP hB k0) hbb hmg lk lcd hvs (by rw [ha]; rfl) ns0 mS sc.sup sc.cls hs sc.kind (k0 _ _ he) hev (fun h1 t' he1 k1 => ?_)
    obtain ⟨t1, he1⟩ := he1
    have ns1 := ns_of ns0 hne k1
    have X1 : K.In h1 := fun b o q => k1 _ _ (fun z => by rw [z, heC] at q; cases q) (X0 b o q)
    refine ks_wpAt_execs_cons (ks_wpAt_Assign_Attr (wpAt_of_wpAny ?_) (hsw _ _ _ _ _))
    refine wpAny_Name (wpAny_loadName_local (m := fun x => ([(self, Value.ref e), (par, v)] : List (Str × Value)).reverse.lookup x) sc.kind hpar ns1 mP ?_) hpd
    refine wpAny_Name (wpAny_loadName_local (m := fun x => ([(self, Value.ref e), (par, v)] : List (Str × Value)).reverse.lookup x) sc.kind hs ns1 mS ?_) hsd
    refine err_attr X1 er ht he1 fun h2 t2 k2 he2 hn2 => ?_
    refine wpAt_of_wpAny (wpAny_pure ?_)
    have hsz : h.objs.size ≤ h1.objs.size := by
      obtain ⟨o, es, ep, q, _⟩ := ns1
      exact Nat.le_of_lt (Heap.lt_size q)
    exact hq h2 t2 _ ⟨t1, he2⟩ hsz hn2 fun b o hb' ho => k2 b o hb' (k1 b o hb' (k0 _ _ ho))
end
end Px

/-! Px24: raising an own exception: what it makes (HandS's PMk). -/
namespace Px
open PySem PySem.Spec PyProof.Rows L2
section
variable {X : Cx} {k : Nat} {C D fI cc : Addr} {qual : Str} {st : Stmt} {fd : FuncData} {x : Str} {p pos : Pos}
/-- the facts that a call of the class leans on -/
structure ErrX (X : Cx) (k : Nat) (C D fI cc : Addr) (qual : Str) (st : Stmt) (fd : FuncData) (x : Str) : Prop where
  er : ErrK X.prog X.K C D fI cc qual st fd
  sc : InitSc st
  room : Room (k + 1) X.A
  kC : PySem.W.keepIn X.K (.ref C) = true
  exC : PySem.W.subIn X.K (.ref C) (.type "BaseException") = some true
  tyC : PySem.W.typeIn X.K (.ref C) = some (.type "type")
  gl : Gl X x
  mg : X.mg x = some (.ref C)
  sup : X.mg "super" = none
/-- an exception object made, with its dict: the heap without it -/
theorem mk_err1 {pins : List (Addr × Obj)} {σ : L2.St} {H1 : Hp} {Q : XK} {hp h' : Heap} {g : Array GenState} {d : Drawn} {t t' : Nat} {os : OsState} {e dx t1 : Addr} {attr : Str} {y : V} {u : Value} (r : Raises X (.ref C)) (I1 : Inv X pins σ H1 ⟨hp, g, d, t, os⟩)
    (hne : hp.objs.size ≤ e) (he : h'.get? e = some { cls := .ref C, dict := some dx, data := .fields #[.ref t1, .none, .none, .none, .bool false, .none] }) (hdx : hp.objs.size ≤ dx) (hde : dx ≠ e) (hn : h'.Ns1 dx (fun z => if z = attr then some u else none))
    (kk : ∀ b o, hp.get? b = some o → h'.get? b = some o) (ry : RelV y u) (q : Q (.ref C) (some dx) (upd H1 dx (.xd [(attr, y)]))) : MkP X pins σ Q (.ref e) ⟨h', g, d, t', os⟩ := by
  obtain ⟨G, g1, g2⟩ := restrict h' fun b => decide (b ≠ e)
  have ge : G.get? e = none := g2 e (decide_eq_false fun z => z rfl)
  have gk : ∀ b, b ≠ e → G.get? b = h'.get? b := fun b hb => g1 b (decide_eq_true hb)
  have gs : ∀ b o, G.get? b = some o → h'.get? b = some o := fun b o q => by
    by_cases hb : b = e
    · rw [hb, ge] at q; cases q
    · rw [← gk b hb]; exact q
  have fresh : ∀ a, hp.objs.size ≤ a → hp.get? a = none := fun a ha => by
    cases z : hp.get? a with
    | none => rfl
    | some o => exact absurd (Heap.lt_size z) (Nat.not_lt.mpr ha)
  have kG : ∀ b o, hp.get? b = some o → G.get? b = some o := fun b o q => by
    have hb : b ≠ e := fun z => by rw [z, fresh e hne] at q; cases q
    rw [gk b hb]; exact kk b o q
  have hnG : G.Ns1 dx (fun z => if z = attr then some u else none) := by
    obtain ⟨o, es, ep, q, r⟩ := hn
    exact ⟨o, es, ep, by rw [gk dx hde]; exact q, r⟩
  have hH : H1 dx = none := I1.hok.fresh hdx
  have hHe : H1 e = none := I1.hok.fresh hne
  have J : Inv X pins σ (upd H1 dx (.xd [(attr, y)])) ⟨G, g, d, t', os⟩ := I1.laidN (t' := t') (a := dx) (o := .xd [(attr, y)]) kG (fresh dx hdx) hH ⟨_, hnG, fun f => by
    by_cases z : f = attr
    · simp [List.lookup, z]; exact ry
    · have : (f == attr) = false := by simpa using z
      simp only [List.lookup, this, if_neg z]; exact True.intro⟩
  exact ⟨e, _, _, ⟨G, g, d, t', os⟩, _, .ref C, some dx, rfl, J, gs, ge, he, ⟨rfl, rfl⟩, rfl, rfl, by rw [upd_ne (Ne.symm hde)]; exact hHe, rfl, I1.bare, r, q⟩
/-- C(e): one value kept as attr -/
def tErr1 (C : Addr) (attr : Str) (te : TA) : L2.St → Hp → XK → Prop := fun σ H Q => te σ H fun vs H1 => ∃ v, vs = [v] ∧ ∀ dx, H1 dx = none → Q (.ref C) (some dx) (upd H1 dx (.xd [(attr, v)]))
theorem pmk_err1 {attr : Str} {ea : Expr} {ta : TA} (ex : ErrX X k C D fI cc qual st fd x) (i1 : Init1 st attr) (ht : PySem.W.takerIn X.K C attr = some none) (ha : PA X [ea] ta) (hdb : (x == ("__debug__" : Str)) = false := by decide)
    (he : starEach [ea] X.env = (false, eval ea X.env) :: starEach [] X.env := by rfl) (hpl : (backTo pos (starEach [] X.env)).any (·.1) = false := by rfl) : PMk X (.Call (.Name x p) [ea] [] pos) (tErr1 C attr ta) := by
  intro pins s σ H Q I h
  have er := ex.er
  obtain ⟨nm, N, qn, bs, bm, sn, sub, ab, col, dd, k0, k1, k2, k3, k5, hC, hbm⟩ := er.cls
  refine wpAny_Call_Name_kw (ld_glob I ex.gl ex.mg ?_ hdb)
  refine PySem.W.callWith_K (h₀ := X.base) I.ok.mod.kin ex.kC (thn (ha.run pos pins s σ H _ I h) fun us s1 ⟨vs, H1, I1, r1, q1⟩ => ⟨I1.kIn, ?_⟩) he hpl
  show wpAny _ _ (call (.ref C) us) _ _ _
  obtain ⟨v, rfl, q1⟩ := q1
  cases r1 with
  | @cons _ u0 _ ur ru rr =>
    cases rr
    obtain ⟨hp, g, dr, tk, os⟩ := s1
    have kk : ∀ b o, hp.get? b = some o → ((hp.push (PySem.W.kdv_tup [u0])).push (PySem.HandSPX.excO C hp.objs.size)).get? b = some o := fun b o e => Heap.get?_push_of_some _ (Heap.get?_push_of_some _ e)
    have hget : ((hp.push (PySem.W.kdv_tup [u0])).push (PySem.HandSPX.excO C hp.objs.size)).get? (hp.objs.size + 1) = some (PySem.HandSPX.excO C hp.objs.size) := by heap_get
    have KX := I1.kIn
    have tI : PySem.W.typeIn X.K (.ref fI) = some (.type "function") := beq_iff_eq.mp er.isf
    obtain ⟨mb, hB, hbb⟩ := I1.mod.blt
    have keep : ∀ b o, X.base.get? b = some o → hp.get? b = some o := I1.bk
    refine wpAny_call (PySem.HandSPX.call_own F.excBase_Exception (fun Y => PySem.W.excTail_contains Y bm hbm) (KX _ _ hC) (PySem.W.looks_findIn KX er.ini) (fun self => PySem.W.bind_fn KX self tI) (by show 1 ≤ sizeLine; decide) ?_)
    refine err_init1 (mg := X.mg) (mb := mb) (fun b o e => kk _ _ (KX b o e)) er ex.sc i1 ht ((I1.mod.nolimit.keeps keep).keeps kk) (ex.room.make C [u0] []).depth (Heap.Ns.keepsP (Heap.Ns.keepsP I1.mod.glob keep) kk) (Heap.Ns.keepsP (Heap.Ns.keepsP hB keep) kk) ((hbb _ (by decide)).trans PyProof.Rows.Boot.«super») ex.sup ?_ hget ?_
    · cases z : X.K.lookup (hp.objs.size + 1) with
      | none => rfl
      | some o => exact absurd (Heap.lt_size (KX _ _ z)) (Nat.not_lt.mpr (Nat.le_succ _))
    · intro h' t' dx he' hdx hn k'
      obtain ⟨t1, he'⟩ := he'
      refine ⟨rfl, ?_⟩
      have hde : dx ≠ hp.objs.size + 1 := by
        intro z
        have : ((hp.push (PySem.W.kdv_tup [u0])).push (PySem.HandSPX.excO C hp.objs.size)).objs.size = hp.objs.size + 2 := by rw [Heap.size_push, Heap.size_push]
        omega
      have hdx' : hp.objs.size ≤ dx := by
        have : ((hp.push (PySem.W.kdv_tup [u0])).push (PySem.HandSPX.excO C hp.objs.size)).objs.size = hp.objs.size + 2 := by rw [Heap.size_push, Heap.size_push]
        omega
      exact mk_err1 (raises_own ex.exC ex.tyC) I1 (Nat.le_succ _) he' hdx' hde hn (fun b o q => k' b o (by
        intro z
        have := Heap.lt_size q
        rw [z] at this
        exact absurd this (Nat.not_lt.mpr (Nat.le_succ _))) (kk b o q)) ru (q1 dx (I1.hok.fresh hdx'))
/-- C(): nothing kept -/
theorem pmk_err0 (ex : ErrX X k C D fI cc qual st fd x) (i0 : Init0 st) (hdb : (x == ("__debug__" : Str)) = false := by decide) : PMk X (.Call (.Name x p) [] [] pos) (fun _ H Q => Q (.ref C) none H) := by
  intro pins s σ H Q I h
  have er := ex.er
  obtain ⟨nm, N, qn, bs, bm, sn, sub, ab, col, dd, k0, k1, k2, k3, k5, hC, hbm⟩ := er.cls
  have KX := I.kIn
  refine wpAny_Call_Name_kw (ld_glob I ex.gl ex.mg ?_ hdb)
  refine PySem.W.callWith_K0 KX ex.kC ?_
  show wpAny _ _ (call (.ref C) []) _ _ _
  obtain ⟨hp, g, dr, tk, os⟩ := s
  have kk : ∀ b o, hp.get? b = some o → ((hp.push (PySem.W.kdv_tup [])).push (PySem.HandSPX.excO C hp.objs.size)).get? b = some o := fun b o e => Heap.get?_push_of_some _ (Heap.get?_push_of_some _ e)
  have hget : ((hp.push (PySem.W.kdv_tup [])).push (PySem.HandSPX.excO C hp.objs.size)).get? (hp.objs.size + 1) = some (PySem.HandSPX.excO C hp.objs.size) := by heap_get
  have tI : PySem.W.typeIn X.K (.ref fI) = some (.type "function") := beq_iff_eq.mp er.isf
  obtain ⟨mb, hB, hbb⟩ := I.mod.blt
  have keep : ∀ b o, X.base.get? b = some o → hp.get? b = some o := I.bk
  have fresh : hp.get? (hp.objs.size + 1) = none := by
    cases z : hp.get? (hp.objs.size + 1) with
    | none => rfl
    | some o => exact absurd (Heap.lt_size z) (Nat.not_lt.mpr (Nat.le_succ _))
  refine wpAny_call (PySem.HandSPX.call_own F.excBase_Exception (fun Y => PySem.W.excTail_contains Y bm hbm) (KX _ _ hC) (PySem.W.looks_findIn KX er.ini) (fun self => PySem.W.bind_fn KX self tI) (by show 0 ≤ sizeLine; decide) ?_)
  refine err_init0 (mg := X.mg) (mb := mb) (fun b o e => kk _ _ (KX b o e)) er ex.sc i0 ((I.mod.nolimit.keeps keep).keeps kk) (ex.room.make C [] []).depth (Heap.Ns.keepsP (Heap.Ns.keepsP I.mod.glob keep) kk) (Heap.Ns.keepsP (Heap.Ns.keepsP hB keep) kk) ((hbb _ (by decide)).trans PyProof.Rows.Boot.«super») ex.sup hget ?_
  intro h' t' he' k'
  obtain ⟨t1, he'⟩ := he'
  refine ⟨rfl, ?_⟩
  exact ⟨hp.objs.size + 1, _, _, ⟨hp, g, dr, tk, os⟩, H, .ref C, none, rfl, I, fun b o q => k' b o (by
    intro z
    rw [z, fresh] at q; cases q) (kk b o q), fresh, he', ⟨rfl, rfl⟩, rfl, rfl, I.hok.fresh (Nat.le_succ _), rfl, I.bare, raises_own ex.exC ex.tyC, h⟩
end
end Px

/-! Px25: raise of an own exception. -/
namespace Px
open PySem PySem.Spec PyProof.Rows L2
def raise1F (c : Str) (attr : Str) (f : Fx D) : FS := runE f fun d ρ st => .ok (.xc c [attr] [d] ρ) st
def raise0F (c : Str) : FS := fun ρ st => .ok (.xc c [] [] ρ) st
section
variable {X : Cx} {C : Kc} {E : L2.St → XK} {k k' : Nat} {Ca Da fI cc : Addr} {qual : Str} {st : Stmt} {fd : FuncData} {x : Str} {p pos rpos : Pos}
theorem ss_raise0 (hX : XOk X C k' E) (ex : ErrX X k Ca Da fI cc qual st fd x) (i0 : Init0 st) (hc : C.cm x = some Ca) (hdb : (x == ("__debug__" : Str)) = false := by decide) : SS X C E (raise0F x) (.Raise (some (.Call (.Name x p) [] [] pos)) none rpos) :=
  PS.weak (ps_raise hX.calm hX.tk (pmk_err0 ex i0 hdb)) fun D σ H ⟨S, ρ, st, rp, rn, h⟩ => h S H (.refl S H) rp σ _ none rn ⟨Ca, hc, rfl, .inr ⟨rfl, rfl, rfl⟩⟩
theorem ss_raise1 {attr : Str} {f : Fx D} {e : Expr} (hX : XOk X C k' E) (ex : ErrX X k Ca Da fI cc qual st fd x) (i1 : Init1 st attr) (ht : PySem.W.takerIn X.K Ca attr = some none) (hc : C.cm x = some Ca) (he : SE X C E f e) (hdb : (x == ("__debug__" : Str)) = false := by decide)
    (hst : starEach [e] X.env = (false, eval e X.env) :: starEach [] X.env := by rfl) (hpl : (backTo pos (starEach [] X.env)).any (·.1) = false := by rfl) : SS X C E (raise1F x attr f) (.Raise (some (.Call (.Name x p) [e] [] pos)) none rpos) :=
  PS.weak (ps_raise hX.calm hX.tk (pmk_err1 ex i1 ht (sa_cons he sa_nil hst) hdb hst hpl)) fun De σ H ⟨S, ρ, st, rp, rn, h⟩ => by
    refine ⟨S, ρ, st, rp, rn, ?_⟩
    unfold raise1F runE at h
    unfold consF
    cases z : f ρ st with
    | bad => rw [z] at h; exact h.bad
    | ex c ns us st1 =>
      rw [z] at h
      exact fun S' H' cls dd g rp' xr => h S' H' g rp' σ cls dd (rn.mono g.ext) xr
    | ok d st1 =>
      rw [z] at h
      intro S1 H1 vs g1 rp1 rvs
      obtain ⟨v, rfl, rv⟩ := rvs1 (show RVs C S1 [d] vs from rvs)
      refine ⟨v, rfl, fun dx hdx => ?_⟩
      have hG : S1.G dx = none := rp1.free hdx
      have ex1 : Ext S1 (S1.fz dx (.xd [(attr, v)])) := Ext.fz hG
      exact h _ _ (g1.trans (Go.newF hG hdx)) (rp1.newF hdx) σ _ (some dx) ((rn.mono g1.ext).mono ex1) ⟨Ca, hc, rfl, .inl ⟨dx, [(attr, v)], rfl, upd_same, rfl, .cons (rv.mono ex1) .nil⟩⟩
end
end Px

/-! Px26: own classes: calls by any road; objects made; attributes; methods. -/
namespace Px
open PySem PySem.Spec PyProof.Rows L2

/-- what the written part says of an own class -/
structure ClsF (K : PySem.W.Frag) (A : Addr) : Prop where
  c : Cls K A
  ha : PySem.W.findIn K (.ref A) "__class__" = some (some (.builtin "object.__class__"))
  hn : PySem.W.specialIn K (.builtin "object.__class__") "__get__" = some (some (.builtin "getset_descriptor.__get__"))
  ht : PySem.W.takesIn K (.builtin "object.__class__") = some true
  hm : PySem.W.mroIn K A (.type "object") = some true
  nt : ∀ t ∈ tyNames, PySem.W.kitOne K (.ref A) (.type t) = some false
  tn : ∀ t ∈ ["NoneType", "int", "bool", "str", "tuple", "list", "dict"], PySem.W.kitOne K (.type t) (.ref A) = some false
  sf : PySem.W.selfFirst K A = true
/-- the classes in oc -/
structure Ocs (C : Kc) (oc : List Str) : Prop where
  at_ : ∀ c ∈ oc, ∃ A, C.cm c = some A ∧ ClsF C.K A
  two : ∀ c ∈ oc, ∀ d ∈ oc, ∀ A B, C.cm c = some A → C.cm d = some B → PySem.W.kitOne C.K (.ref A) (.ref B) = some (decide (c = d)) ∧ (c = d ∨ PySem.W.notFirst C.K A (.ref B) = true)

section
variable {X : Cx} {C : Kc} {E E' : L2.St → XK} {k : Nat} {f A : Addr} {fd : FuncData} {Fu : Fn}

/-! ### calls by any road -/
theorem callWith_any {M : Model} {A : Around} {E : Value → Shared → Prop} {Q : Value → Shared → Prop} {s : Shared} {f : Value} {first : List Value} {pos : Pos} {P : Heap → Prop} {args : List (Bool × Sem Value)} {keywords : List (Option Str × Sem Value)}
    (hplain : (args.any (·.1) || keywords.any (·.1.isNone)) = false) (hk : ∀ h, P h → ∃ k, PySem.W.Looks M h (keeperOf f) k)
    (h : wpAny M A (evalArgs f true args keywords) (fun a s₁ => P s₁.heap ∧ wpAny M A (call f (first ++ a.pos) a.kw) Q E s₁) E s) : wpAny M A (callWith pos f first args keywords) Q E s := by
  unfold callWith
  refine wpAny_bind (wpAny_holding (wpAny_mono h (fun a s₁ h₁ => wpAny_bind (wpAny_standAt ?_)) fun _ _ x => x))
  obtain ⟨k, L⟩ := hk _ h₁.1
  simp only [hplain]
  refine wpAny_bind (L.here ?_)
  have tl : ∀ {t : Sem Value}, wpAny M A t Q E s₁ → wpAny M A (t >>= fun r => holding [r] point >>= fun _ => pure r) Q E s₁ :=
    fun ht => wpAny_bind (wpAny_mono ht (fun r s₂ hr => wpAny_bind (wpAny_holding (wpAny_point (wpAny_pure hr)))) fun _ _ x => x)
  have mk (m : Value) : wpAny M A (callMarked m f (first ++ a.pos) a.kw) Q E s₁ := by unfold callMarked; exact Calls.wpAny_keep h₁.2
  cases k <;> dsimp only <;> first | exact tl h₁.2 | exact tl (wpAny_operating h₁.2) | (split <;> first | exact tl h₁.2 | exact tl (mk _))
/-- the arguments, then the call -/
theorem cw_run {fa fk : Fx (List D)} {es : List Expr} {kws : List Keyword} {ks : List Str} {pos : Pos} {fv : Value} {first : List Value} {P : Heap → Prop} (hP : ∀ h, P h → ∃ k, PySem.W.Looks (model X.prog X.w) h (keeperOf fv) k)
    (ha : SA X C E fa es) (h0 : es = [] → fa = nilF) (hk : SK X C E fk kws) (hp : Plain X es kws ks pos) {pins : List (Addr × Obj)} {s : Shared} {σ : L2.St} {H : Hp} {S : Rp} {ρ : Env} {st : Store} {g : List D → List D → Store → R D} {Q : VK} {R : Value → Shared → Prop}
    (I : Inv X pins σ H s) (rp : Rep C S st H) (rn : REnv C S ρ σ) (q : Post C (rV C) S H ((fa ρ st).bind fun xs st1 => (fk ρ st1).bind fun us st2 => g xs us st2) Q (E σ))
    (hq : ∀ H2 s2 S2, Inv X pins σ H2 s2 → Go S H S2 H2 → P s2.heap)
    (kk : ∀ aw av as uw uv us S2 H2 s2 st2, Inv X pins σ H2 s2 → Go S H S2 H2 → Rep C S2 st2 H2 → RVs C S2 as av → Vals av aw → RVs C S2 us uv → Vals uv uw → Post C (rV C) S2 H2 (g as us st2) Q (E σ) →
      wpAny (model X.prog X.w) X.A (call fv (first ++ aw) (ks.zip uw)) R X.xe s2) :
    wpAny (model X.prog X.w) X.A (callWith pos fv first (backTo pos (starEach es X.env)) (backToKw pos (keywordEach kws X.env))) R X.xe s := by
  refine callWith_any hp.hpl hP ?_
  cases es with
  | nil =>
    rw [h0 rfl] at q
    refine evalArgs_kw2_nil hp.hall ?_
    refine sk_step hk I rp rn (rel2 := rV C) (Q := Q) q fun uw s2 uv H2 S2 st2 us I2 vu g2 rp2 ru h2 => ⟨hq H2 s2 S2 I2 g2, ?_⟩
    rw [hp.hks]
    exact kk [] [] [] uw uv us S2 H2 s2 st2 I2 g2 rp2 .nil .nil ru vu h2
  | cons e es =>
    refine evalArgs_kw2 hp.hall ?_ (hp.he e es rfl)
    refine sa_step ha I rp rn (rel2 := rV C) q fun aw s1 av H1 S1 st1 as I1 va g1 rp1 ra h1 => ?_
    refine sk_step hk I1 rp1 (rn.mono g1.ext) h1 fun uw s2 uv H2 S2 st2 us I2 vu g2 rp2 ru h2 => ⟨hq H2 s2 S2 I2 (g1.trans g2), ?_⟩
    rw [hp.hks]
    exact kk aw av as uw uv us S2 H2 s2 st2 I2 (g1.trans g2) rp2 (ra.mono g2.ext) va ru vu h2
theorem keep_k {K : PySem.W.Frag} {M : Model} {f : Value} (hk : PySem.W.keepIn K f = true) : ∀ h : Heap, K.In h → ∃ k, PySem.W.Looks M h (keeperOf f) k := fun h X => by
  obtain ⟨k, _, b⟩ := PySem.W.keeps_K (M := M) hk h X
  exact ⟨k, b⟩

/-! ### a new object -/
theorem guards_make {A : Around} {a : Addr} {us : List Value} {kw : List (Str × Value)} (h : A.guards = some []) : (A.under (.builtin "type.__call__" ⟨.ref a :: us, kw⟩)).guards = some [] := by
  have e : (Code.builtin "type.__call__" ⟨.ref a :: us, kw⟩).isGuard = false := by
    show guardIds.contains "type.__call__" = false
    decide +kernel
  unfold Around.under
  simp only [h, Code.guards, e, pushGuards_eq, Bool.false_eq_true, if_false, Option.map_some, List.nil_append]
/-- c(..): a new object of the class c, then its __init__ (F); fr: it never changes behind that -/
def mkRun (c : Str) (fr : Bool) (F : Fn) (xs : List D) (ks : List Str) (us : List D) (st : Store) : R D := match F.bind (.cell st.length :: xs) ks us with
  | some vs => match F.run vs (st ++ [.ins c [] []]) with
    | .ok .non st' => if fr then close st.length (.cell st.length) st' else .ok (.cell st.length) st'
    | .ex c' ns us' st' => match closes st.length us' st' with
      | .ok us'' st'' => .ex c' ns us'' st''
      | _ => .bad
    | _ => .bad
  | none => .bad
theorem run_mk {c : Str} {fr : Bool} (hX : XOk X C (k + 1) E) (M : Mk X.K A f) (hA : C.cm c = some A) (FD : FnD X.prog X.w C X.mg X.base k f fd Fu) {pins : List (Addr × Obj)} {σ : L2.St} {H : Hp} {s : Shared} {Q : VK} {S : Rp} {st : Store} {as us : List D} {ks : List Str} {av uv : List V} {aw uw : List Value}
    (I : Inv X pins σ H s) (rp : Rep C S st H) (ra : RVs C S as av) (va : Vals av aw) (ru : RVs C S us uv) (vu : Vals uv uw) (h : Post C (rV C) S H (mkRun c fr Fu as ks us st) Q (E σ)) :
    wpAny (model X.prog X.w) X.A (call (.ref A) aw (ks.zip uw)) (EP X pins σ Q) X.xe s := by
  unfold mkRun at h
  cases hb : Fu.bind (.cell st.length :: as) ks us with
  | none => rw [hb] at h; exact h.bad
  | some zs =>
    rw [hb] at h
    dsimp only at h
    have hlen := FD.len _ ks us zs hb
    unfold Fn.bind at hb
    split at hb
    · rename_i hsh
      rw [Bool.and_eq_true, List.any_eq_true, beq_iff_eq] at hsh
      obtain ⟨⟨sh, hm, hs⟩, hu⟩ := hsh
      rw [Bool.and_eq_true, beq_iff_eq, decide_eq_true_eq] at hs
      obtain ⟨dv, hdv, hok⟩ := FD.dv
      have I2 := Inv.made (C := A) I
      have hx : H (s.heap.objs.size + 1) = none := I.hok.fresh (Nat.le_succ _)
      have hd : H s.heap.objs.size = none := I.hok.fresh (Nat.le_refl _)
      have hne : s.heap.objs.size + 1 ≠ s.heap.objs.size := Nat.succ_ne_self _
      have g0 : Go S H S (upd H s.heap.objs.size (.own (s.heap.objs.size + 1))) := Go.drop hd
      have rp0 : Rep C S st (upd H s.heap.objs.size (.own (s.heap.objs.size + 1))) := rp.drop hd
      have hx0 : (upd H s.heap.objs.size (.own (s.heap.objs.size + 1))) (s.heap.objs.size + 1) = none := by rw [upd_ne hne]; exact hx
      have rp1 := rp0.newC (mo := .ins c [] []) (o := .ins A s.heap.objs.size []) hx0 ⟨A, _, [], rfl, hA, rfl, .nil⟩
      have g1 := g0.trans (Go.newC (o := .ins A s.heap.objs.size []) hx0)
      have rc : RV C (S.cl (s.heap.objs.size + 1)) (.cell st.length) (.ref (s.heap.objs.size + 1)) := rv_cell.mpr ⟨_, rfl, by
        show (S.m ++ [s.heap.objs.size + 1])[st.length]? = _
        rw [← rp.len]; simp⟩
      have ra' : RVs C (S.cl (s.heap.objs.size + 1)) (.cell st.length :: as) (V.ref (s.heap.objs.size + 1) :: av) := .cons rc (ra.mono g1.ext)
      have va' : Vals (V.ref (s.heap.objs.size + 1) :: av) (Value.ref (s.heap.objs.size + 1) :: aw) := .cons rfl va
      have ru' := ru.mono g1.ext
      obtain ⟨zw, e2, a2⟩ := bindG_rel (hdv _) (ru_all ra' va') (ru_all ru' vu) hb
      obtain ⟨zv, r3, v3⟩ := ru_back a2
      have hal : (Value.ref (s.heap.objs.size + 1) :: aw).length = sh.1 := by rw [← (ru_all ra' va').length, hs.1]
      have hul : uw.length = sh.2.length := by rw [← (ru_all ru' vu).length, hu, hs.2]
      have hbt := hok sh hm _ (Value.ref (s.heap.objs.size + 1) :: aw) uw (by rw [← hX.K]; exact I2.kIn) hal hul zw (by rw [hs.2]; exact e2)
      rw [hs.2] at hbt
      have e0 := I2.env0.make A aw (ks.zip uw)
      rw [hX.K] at e0
      have hn : S.m.length = st.length := rp.len
      have fin : Post C (rV C) (S.cl (s.heap.objs.size + 1)) (upd (upd H s.heap.objs.size (.own (s.heap.objs.size + 1))) (s.heap.objs.size + 1) (.ins A s.heap.objs.size [])) (Fu.run zs (st ++ [.ins c [] []])) (fun v H2 => v = .non ∧ Q (.ref (s.heap.objs.size + 1)) H2) (E σ) := by
        cases z : Fu.run zs (st ++ [.ins c [] []]) with
        | bad => rw [z] at h; exact h.bad
        | ok d st' =>
          rw [z] at h
          cases d <;> first | exact Post.bad (C := C) h | skip
          intro S' H' v g rp' rv
          have hv : v = .non := rv_non.mp rv
          refine ⟨hv, ?_⟩
          have gg := g1.trans g
          have rc' := RV.mono g.ext rc
          have h : Post C (rV C) S H (if fr then close st.length (.cell st.length) st' else .ok (.cell st.length) st') Q (E σ) := h
          split at h
          · rw [← hn] at h rc'
            exact close_post rp' gg rc' h
          · exact h S' H' _ gg rp' rc'
        | ex c' ns us' st' =>
          rw [z] at h
          intro S' H' cls dd g rp' xr
          have gg := g1.trans g
          have h : Post C (rV C) S H (match closes st.length us' st' with | .ok us'' st'' => .ex c' ns us'' st'' | _ => .bad) Q (E σ) := h
          obtain ⟨A0, hc, hcls, hxx⟩ := xr
          unfold closes at h
          rw [← hn] at h
          split at h
          · rename_i us'' st'' e
            split at e
            · cases e
              exact h S' H' cls dd gg rp' ⟨A0, hc, hcls, hxx⟩
            · split at e
              · rename_i d' e2
                split at e
                · rename_i hb2
                  cases e
                  refine h _ H' cls dd (shut_go rp' gg) (shut_rep rp' gg hb2) ⟨A0, hc, hcls, ?_⟩
                  rcases hxx with ⟨dx, fs, h1, h2, h3, h4⟩ | ⟨h1, h2, h3⟩
                  · exact .inl ⟨dx, fs, h1, shut_g rp' _ _ _ h2, h3, frzs_rv (shut_cell rp' gg 8) (shut_g rp' _) h4 e2⟩
                  · subst h3
                    rw [frzs] at e2; cases e2
                    exact .inr ⟨h1, h2, rfl⟩
                · cases e
              · cases e
          · exact h.bad
      refine wpAny_call (make_map (f := f) I.kIn M.makes M.init (beq_iff_eq.mp M.fn) (codeAny_mono (FD.run _ X.stack _ _ ⟨Value.ref (s.heap.objs.size + 1) :: aw, ks.zip uw⟩ zw zv _ (E σ) _ _ zs (hX.room.make A aw (ks.zip uw)) (guards_make hX.gd) e0 hbt v3 rp1 r3 hlen fin) fun r s' hq' => ?_))
      cases r with
      | error e => exact passAt (W := fun cls d σ H => E σ cls d H) hX.tk σ pins _ _ e s' I2 hq'
      | ok fl =>
        cases fl with
        | ret u =>
          obtain ⟨v, H', I3, rv, ev, q3⟩ := I2.after hq'
          subst ev
          exact ⟨rv, ⟨V.ref (s.heap.objs.size + 1), H', I3, rfl, q3⟩⟩
        | next => exact False.elim hq'
        | brk => exact False.elim hq'
        | cont => exact False.elim hq'
    · cases hb
def mkF (c : Str) (fr : Bool) (F : Fn) (fa : Fx (List D)) (ks : List Str) (fk : Fx (List D)) : Fx D := fun ρ st => (fa ρ st).bind fun xs st1 => (fk ρ st1).bind fun us st2 => mkRun c fr F xs ks us st2
theorem se_mk {fr : Bool} {fa fk : Fx (List D)} {x : Str} {es : List Expr} {kws : List Keyword} {ks : List Str} {p pos : Pos} (hX : XOk X C (k + 1) E) (M : Mk X.K A f) (hA : C.cm x = some A) (FD : FnD X.prog X.w C X.mg X.base k f fd Fu) (hg : Gl X x) (hm : X.mg x = some (.ref A)) (ha : SA X C E fa es) (h0 : es = [] → fa = nilF) (hk : SK X C E fk kws) (hp : Plain X es kws ks pos)
    (hdb : (x == ("__debug__" : Str)) = false) : SE X C E (mkF x fr Fu fa ks fk) (.Call (.Name x p) es kws pos) := by
  refine ⟨fun pins s σ H Q I h => ?_⟩
  obtain ⟨S, ρ, st, rp, rn, h⟩ := h
  refine wpAny_Call_Name_kw (ld_glob I hg hm ?_ hdb)
  exact cw_run (first := []) (g := fun xs us st2 => mkRun x fr Fu xs ks us st2) (keep_k M.kp) ha h0 hk hp I rp rn h (fun H2 s2 S2 I2 _ => I2.kIn) fun aw av as uw uv us S2 H2 s2 st2 I2 g2 rp2 ra va ru vu h2 => run_mk hX M hA FD I2 rp2 ra va ru vu h2

/-! ### attributes -/
theorem lookN_rv {S : Rp} {n : Str} {d : D} : ∀ {fs : List (Str × V)} {us : List D}, RVs C S us (fs.map (·.2)) → lookN n (fs.map (·.1)) us = some d → ∃ v, fs.lookup n = some v ∧ RV C S d v
  | [], us, h, e => by cases us <;> cases e
  | (m, v) :: fs, [], h, e => by cases e
  | (m, v) :: fs, u :: us, h, e => by
    have e : (if n = m then some u else lookN n (fs.map (·.1)) us) = some d := e
    rw [List.map_cons, RVs] at h
    obtain ⟨w, r, e1, h1, h2⟩ := h
    cases e1
    by_cases z : n = m
    · rw [if_pos z] at e; cases e
      exact ⟨v, by simp [List.lookup, z], h1⟩
    · rw [if_neg z] at e
      obtain ⟨w, h3, h4⟩ := lookN_rv h2 e
      have : (n == m) = false := by simpa using z
      exact ⟨w, by simp [List.lookup, this, h3], h4⟩
theorem lookN_none : ∀ {n : Str} {fs : List (Str × V)} {us : List D}, us.length = fs.length → lookN n (fs.map (·.1)) us = none → fs.lookup n = none
  | n, [], us, _, _ => rfl
  | n, (m, v) :: fs, [], h, e => by simp at h
  | n, (m, v) :: fs, u :: us, h, e => by
    have e : (if n = m then some u else lookN n (fs.map (·.1)) us) = none := e
    by_cases z : n = m
    · rw [if_pos z] at e; cases e
    · rw [if_neg z] at e
      have : (n == m) = false := by simpa using z
      simp [List.lookup, this, lookN_none (by simpa using h) e]
/-- an object, in the heap -/
theorem look_obj {S : Rp} {st : Store} {H : Hp} {d : D} {c : Str} {ns : List Str} {us : List D} {v : V} (r : Rep C S st H) (h : RV C S d v) (e : look st d = some (.obj c ns us)) :
    ∃ (a A dx : Addr) (fs : List (Str × V)), v = .ref a ∧ C.cm c = some A ∧ H a = some (.ins A dx fs) ∧ ns = fs.map (·.1) ∧ RVs C S us (fs.map (·.2)) := by
  cases d with
  | cell n =>
    rw [look_cell] at e
    obtain ⟨a, rfl, ha⟩ := rv_cell.mp h
    cases q : st[n]? with
    | none => rw [q] at e; cases e
    | some mo =>
      rw [q] at e
      obtain ⟨a', o, h1, h2, h3, h4⟩ := r.at_ n mo q
      rw [ha] at h1; cases h1
      cases mo with
      | lst xs => exact nomatch e
      | dct ks vs => exact nomatch e
      | dn _ _ => exact nomatch e
      | ins c' ns' vs =>
        cases e
        obtain ⟨A, dx, fs, rfl, h5, h6, h7⟩ := h4
        exact ⟨a, A, dx, fs, rfl, h5, h3, h6, h7⟩
  | obj c' ns' us' =>
    cases e
    obtain ⟨a, A, dx, fs, h1, h2, h3, h4, h5⟩ := rv_obj.mp h
    exact ⟨a, A, dx, fs, h1, h2, r.fz _ _ h3, h4, h5⟩
  | lck _ => cases e
  | non => cases e
  | bl _ => cases e
  | int _ => cases e
  | str _ => cases e
  | tup _ => cases e
  | lst _ => cases e
  | dct _ _ => cases e
  | ty _ => cases e
def attrO (c n : Str) (x : D) (st : Store) : R D := match look st x with
  | some (.obj c' ns us) => if c' = c then ofO (lookN n ns us) st else .bad
  | _ => .bad
def attrF (c n : Str) (f : Fx D) : Fx D := fun ρ st => (f ρ st).bind fun x st1 => attrO c n x st1
theorem attrO_post {S : Rp} {H : Hp} {c n : Str} {x : D} {v : V} {st : Store} {Q : VK} {E : XK} (h : Post C (rV C) S H (attrO c n x st) Q E) (rp : Rep C S st H) (rv : RV C S x v) :
    ∃ (a A dx : Addr) (fs : List (Str × V)) (u : V), v = .ref a ∧ C.cm c = some A ∧ H a = some (.ins A dx fs) ∧ fs.lookup n = some u ∧ Q u H := by
  unfold attrO at h
  split at h
  · rename_i c' ns us e
    obtain ⟨hc, h'⟩ := post_ite h
    obtain ⟨d, e2, h''⟩ := post_ofO h'
    obtain ⟨a, A, dx, fs, h1, h2, h3, rfl, h5⟩ := look_obj rp rv e
    obtain ⟨u, h6, h7⟩ := lookN_rv h5 e2
    exact ⟨a, A, dx, fs, u, h1, by rw [← hc]; exact h2, h3, h6, post_same h'' rp h7⟩
  · exact h.bad
theorem se_attr {c n : Str} {f : Fx D} {e : Expr} {pos : Pos} (hX : XOk X C k E) (hA : C.cm c = some A) (cl : Cls X.K A) (na : NoAttr X.K A n) (he : SE X C E f e) (hb : attributeBase e n X.env (eval e X.env) = eval e X.env) : SE X C E (attrF c n f) (.Attribute e n pos) :=
  PE.weak (pe_fld he hb) fun σ H Q h => by
    obtain ⟨S, ρ, st, rp, rn, h⟩ := h
    refine ⟨S, ρ, st, rp, rn, Post.bind (rel2 := rV C) h fun d st1 S1 H1 v g1 rp1 rv1 h1 => ?_⟩
    obtain ⟨a, A', dx, fs, u, rfl, h2, h3, h4, h5⟩ := attrO_post h1 rp1 rv1
    rw [hA] at h2; cases h2
    exact ⟨a, A, dx, fs, u, rfl, h3, cl, na, h4, h5⟩

/-! ### self.n = e, in an __init__ -/
theorem putN_rv {S : Rp} {n : Str} {d : D} {w : V} (hd : RV C S d w) : ∀ {fs : List (Str × V)} {us : List D}, RVs C S us (fs.map (·.2)) → (putN n d (fs.map (·.1)) us).1 = (putF n w fs).map (·.1) ∧ RVs C S (putN n d (fs.map (·.1)) us).2 ((putF n w fs).map (·.2))
  | [], us, h => by
    rw [List.map_nil, RVs.eq_def] at h
    cases us with
    | nil => exact ⟨rfl, .one hd⟩
    | cons u us => obtain ⟨_, _, e, _⟩ := h; cases e
  | (m, v) :: fs, [], h => by rw [RVs] at h; cases h
  | (m, v) :: fs, u :: us, h => by
    rw [List.map_cons, RVs] at h
    obtain ⟨x, r, e1, h1, h2⟩ := h
    cases e1
    have ih := putN_rv (n := n) hd h2
    show (if n = m then _ else _ : List Str × List D).1 = (if m = n then _ else _ : List (Str × V)).map (·.1) ∧ RVs C S (if n = m then _ else _ : List Str × List D).2 ((if m = n then _ else _ : List (Str × V)).map (·.2))
    by_cases z : n = m
    · rw [if_pos z, if_pos z.symm]
      exact ⟨rfl, .cons hd h2⟩
    · rw [if_neg z, if_neg (Ne.symm z)]
      exact ⟨by rw [List.map_cons, ← ih.1], .cons h1 ih.2⟩
def setA (c n : Str) (o v : D) (st : Store) : Option Store := match o with
  | .cell i => match st[i]? with
    | some (.ins c' ns us) => if c' = c ∧ ns.length < 900 then some (st.set i (.ins c' (putN n v ns us).1 (putN n v ns us).2)) else none
    | _ => none
  | _ => none
def setAF (c n : Str) (fo fv : Fx D) : FS := runE fv fun v ρ st => runE fo (fun o ρ st => match setA c n o v st with
  | some st' => .ok (.nx ρ) st'
  | none => .bad) ρ st
theorem ss_setA {c n : Str} {fo fv : Fx D} {o e : Expr} {pos' pos : Pos} (hX : XOk X C k E) (hA : C.cm c = some A) (cl : Cls X.K A) (na : NoAttr X.K A n) (ho : SE X C E fo o) (hv : SE X C E fv e) (hs : swapsWith e (some (.Attribute o n pos')) pos.line X.env = pure false) :
    SS X C E (setAF c n fo fv) (.Assign [.Attribute o n pos'] e pos) :=
  PS.weak (ps_fld ho hv hs) fun De σ H ⟨S, ρ, st, rp, rn, h⟩ => ⟨S, ρ, st, rp, rn, runE_post rn h fun v st1 S1 H1 y g1 rp1 rv1 h1 => by
    have rn1 := rn.mono g1.ext
    refine ⟨S1, ρ, st1, rp1, rn1, runE_post rn1 h1 fun o st2 S2 H2 x g2 rp2 rv2 h2 => ?_⟩
    unfold setA at h2
    split at h2
    · rename_i st' e1
      split at e1
      · rename_i i
        split at e1
        · rename_i c' ns us e2
          split at e1
          · rename_i hcl
            cases e1
            obtain ⟨a, rfl, ha⟩ := rv_cell.mp rv2
            obtain ⟨a', o', q1, q2, q3, q4⟩ := rp2.at_ i _ e2
            rw [ha] at q1; cases q1
            obtain ⟨A', dx, fs, rfl, q5, rfl, q7⟩ := q4
            rw [hcl.1, hA] at q5; cases q5
            have hl := hcl.2
            rw [List.length_map] at hl
            refine ⟨a, A, dx, fs, rfl, q3, cl, na, by omega, ?_⟩
            have rvy := RV.mono g2.ext rv1
            obtain ⟨p1, p2⟩ := putN_rv rvy q7
            refine postS_nx (PostS.go h2 (Go.setC ha q3)) (rp2.setC ha (mo := .ins c' (putN n v (fs.map (·.1)) us).1 (putN n v (fs.map (·.1)) us).2) ⟨A, dx, putF n y fs, rfl, by rw [hcl.1]; exact hA, p1, p2⟩) (rn1.mono g2.ext)
          · cases e1
        · cases e1
      · cases e1
    · exact h2.bad⟩
end
end Px

/-! Px27: methods, properties, classmethods, calls of objects, operators of own classes, isinstance. -/
namespace Px
open PySem PySem.Spec PyProof.Rows L2
section
variable {X : Cx} {C : Kc} {E E' : L2.St → XK} {k : Nat} {f g p A : Addr} {fd : FuncData} {Fu : Fn} {mc : Value}

/-- the callee's code runs, in any room that is enough -/
theorem run_dc {A0 : Around} (hX : XOkS X C k E) (hr : Room k A0) (hgd : A0.guards = some []) (e0 : ∀ {pins σ H s}, Inv X pins σ H s → Env0 X.prog X.w X.K X.mg X.base A0 X.stack s H) (FD : FnD X.prog X.w C X.mg X.base k f fd Fu) {pins : List (Addr × Obj)} {σ : L2.St} {H : Hp} {s : Shared} {Q : VK} {EE : XK} {S : Rp} {st : Store} {as us zs : List D} {ks : List Str} {av uv : List V} {aw uw : List Value}
    (I : Inv X pins σ H s) (rp : Rep C S st H) (ra : RVs C S as av) (va : Vals av aw) (ru : RVs C S us uv) (vu : Vals uv uw) (hb : Fu.bind as ks us = some zs) (h : Post C (rV C) S H (Fu.run zs st) Q EE) :
    codeAny (model X.prog X.w) A0 (.call (.ref f) ⟨aw, ks.zip uw⟩) (CR (L2.CX X.prog X.w) X.stack X.prog X.w H s Q EE) s := by
  have hlen := FD.len as ks us zs hb
  unfold Fn.bind at hb
  split at hb
  · rename_i hsh
    rw [Bool.and_eq_true, List.any_eq_true, beq_iff_eq] at hsh
    obtain ⟨⟨sh, hm, hs⟩, hu⟩ := hsh
    rw [Bool.and_eq_true, beq_iff_eq, decide_eq_true_eq] at hs
    obtain ⟨dv, hdv, hok⟩ := FD.dv
    obtain ⟨zw, e2, a2⟩ := bindG_rel (hdv S) (ru_all ra va) (ru_all ru vu) hb
    obtain ⟨zv, r3, v3⟩ := ru_back a2
    have hal : aw.length = sh.1 := by rw [← (ru_all ra va).length, hs.1]
    have hul : uw.length = sh.2.length := by rw [← (ru_all ru vu).length, hu, hs.2]
    have hbt := hok sh hm s aw uw (by rw [← hX.K]; exact I.kIn) hal hul zw (by rw [hs.2]; exact e2)
    rw [hs.2] at hbt
    have e1 := e0 I
    rw [hX.K] at e1
    exact FD.run A0 X.stack s H ⟨aw, ks.zip uw⟩ zw zv Q EE S st zs hr hgd e1 hbt v3 rp r3 hlen h
  · cases hb
theorem run_d1 (hX : XOkS X C k E) (FD : FnD X.prog X.w C X.mg X.base k f fd Fu) {pins : List (Addr × Obj)} {σ : L2.St} {H : Hp} {s : Shared} {Q : VK} {S : Rp} {st : Store} {as us zs : List D} {ks : List Str} {av uv : List V} {aw uw : List Value}
    (I : Inv X pins σ H s) (rp : Rep C S st H) (ra : RVs C S as av) (va : Vals av aw) (ru : RVs C S us uv) (vu : Vals uv uw) (hb : Fu.bind as ks us = some zs) (h : Post C (rV C) S H (Fu.run zs st) Q (E σ)) :
    codeAny (model X.prog X.w) X.A (.call (.ref f) ⟨aw, ks.zip uw⟩) (fun r s' => match r with | .ok (.ret v) => EP X pins σ Q v s' | .ok _ => False | .error e => X.xe e s') s := by
  refine codeAny_mono (run_dc hX hX.room hX.gd (fun I => I.env0) FD I rp ra va ru vu hb h) fun r s' hq => ?_
  cases r with
  | error e => exact passAt (W := fun cls d σ H => E σ cls d H) hX.tk σ pins H s e s' I hq
  | ok fl =>
    cases fl with
    | ret u => exact I.after hq
    | next => exact False.elim hq
    | brk => exact False.elim hq
    | cont => exact False.elim hq
theorem run_d2 (hX : XOkS X C k E) (FD : FnD X.prog X.w C X.mg X.base k f fd Fu) {pins : List (Addr × Obj)} {σ : L2.St} {H : Hp} {s : Shared} {Q : VK} {S : Rp} {st : Store} {as us : List D} {ks : List Str} {av uv : List V} {aw uw : List Value}
    (I : Inv X pins σ H s) (rp : Rep C S st H) (ra : RVs C S as av) (va : Vals av aw) (ru : RVs C S us uv) (vu : Vals uv uw) (h : Post C (rV C) S H (match Fu.bind as ks us with | some vs => Fu.run vs st | none => .bad) Q (E σ)) :
    wpAny (model X.prog X.w) X.A (call (.ref f) aw (ks.zip uw)) (EP X pins σ Q) X.xe s := by
  cases z : Fu.bind as ks us with
  | none => rw [z] at h; exact h.bad
  | some vs =>
    rw [z] at h
    exact wpAny_call (run_d1 hX FD I rp ra va ru vu z h)

/-! ### methods -/
def methF (c m : Str) (F : Fn) (fo : Fx D) (fa : Fx (List D)) (ks : List Str) (fk : Fx (List D)) : Fx D := fun ρ st => (fo ρ st).bind fun x st1 => match look st1 x with
  | some (.obj c' ns us0) => if c' = c ∧ lookN m ns us0 = none then (fa ρ st1).bind fun xs st2 => (fk ρ st2).bind fun us st3 => match F.bind (x :: xs) ks us with
    | some vs => F.run vs st3
    | none => .bad
    else .bad
  | _ => .bad
theorem se_meth {c m : Str} {fo : Fx D} {fa fk : Fx (List D)} {o : Expr} {es : List Expr} {kws : List Keyword} {ks : List Str} {apos pos : Pos} {pl : Sem Bool} (hX : XOk X C k E) (hA : C.cm c = some A) (cl : Cls X.K A) (hm : Meth X.K A m f) (FD : FnD X.prog X.w C X.mg X.base k f fd Fu)
    (ho : SE X C E fo o) (ha : SA X C E fa es) (h0 : es = [] → fa = nilF) (hk : SK X C E fk kws) (hp : Plain X es kws ks pos)
    (ht : eval (.Call (.Attribute o m apos) es kws pos) X.env = (do
      let ov ← eval o X.env
      standAt apos.atName
      let (f, first) ← holding [ov] (getMethod ov m pl)
      callWith pos f first (backTo pos (starEach es X.env)) (backToKw pos (keywordEach kws X.env)))) : SE X C E (methF c m Fu fo fa ks fk) (.Call (.Attribute o m apos) es kws pos) := by
  refine ⟨fun pins s σ H Q I h => ?_⟩
  obtain ⟨S, ρ, st, rp, rn, h⟩ := h
  refine PySem.W.methodCall_KW (pl := pl) (se_step ho I rp rn (rel2 := rV C) h fun u s1 v H1 S1 st1 d I1 r1 g1 rp1 rv1 h1 => ?_) ht
  split at h1
  · rename_i c' ns us0 e
    obtain ⟨hc, h2⟩ := post_ite h1
    obtain ⟨a, A', dx, fs, rfl, h3, h4, rfl, h6⟩ := look_obj rp1 rv1 e
    rw [hc.1, hA] at h3; cases h3
    obtain rfl : u = Value.ref a := r1
    have hl : us0.length = fs.length := by have := h6.length; simpa using this
    refine getmeth_ok I1 h4 cl hm (lookN_none hl hc.2) ?_
    refine cw_run (first := [.ref a]) (g := fun xs us st3 => match Fu.bind (d :: xs) ks us with | some vs => Fu.run vs st3 | none => .bad) (keep_k hm.kp) ha h0 hk hp I1 rp1 (rn.mono g1.ext) h2 (fun H2 s2 S2 I2 _ => I2.kIn) fun aw av as uw uv us S2 H2 s2 st2 I2 g2 rp2 ra va ru vu hh => ?_
    exact run_d2 hX.toXOkS FD I2 rp2 (.cons (rv1.mono g2.ext) ra) (.cons rfl va) ru vu hh
  · exact h1.bad

/-! ### properties -/
def propF (c n : Str) (F : Fn) (fo : Fx D) : Fx D := fun ρ st => (fo ρ st).bind fun x st1 => match look st1 x with
  | some (.obj c' ns us0) => if c' = c then noEx (match F.bind [x] [] [] with
    | some vs => F.run vs st1
    | none => .bad) else .bad
  | _ => .bad
theorem se_prop {c n : Str} {fo : Fx D} {e : Expr} {pos : Pos} (hX : XOk X C (k + 1) E) (hA : C.cm c = some A) (cl : Cls X.K A) (hp : PropOf X.K A n p g) (FD : FnD X.prog X.w C X.mg X.base k g fd Fu) (he : SE X C E fo e)
    (hab : attributeBase e n X.env (eval e X.env) = eval e X.env) : SE X C E (propF c n Fu fo) (.Attribute e n pos) := by
  refine ⟨fun pins s σ H Q I h => ?_⟩
  obtain ⟨S, ρ, st, rp, rn, h⟩ := h
  refine attr_of hab (se_step he I rp rn (rel2 := rV C) h fun u s1 v H1 S1 st1 d I1 r1 g1 rp1 rv1 h1 => ?_)
  split at h1
  · rename_i c' ns us0 e
    obtain ⟨hc, h2⟩ := post_ite h1
    obtain ⟨a, A', dx, fs, rfl, h3, h4, rfl, h6⟩ := look_obj rp1 rv1 e
    rw [hc, hA] at h3; cases h3
    obtain rfl : u = Value.ref a := r1
    have h2 := post_noEx (E' := fun _ _ _ => False) h2
    cases z : Fu.bind [d] [] [] with
    | none => rw [z] at h2; exact h2.bad
    | some vs =>
      rw [z] at h2
      obtain ⟨mA, O, _, _, _, _⟩ := ins_get I1.hok h4
      obtain ⟨od, J, _⟩ := O.look
      obtain ⟨rest, hrec⟩ := hp.rec_
      have I2 := I1.tok (s1.toks + 1)
      have hcd : (PySem.W.clsIn X.K A).isSome = true := by
        obtain ⟨cd, hc, _⟩ := PySem.W.any_some cl.hd
        rw [hc]; rfl
      have hX' : XOkS X C k E := ⟨hX.K, hX.nd, hX.room.mono (Nat.le_succ _), hX.gd, hX.tk, hX.sm⟩
      refine PySem.W.get_bind I1.kIn J (PySem.W.plainGet_of (cl.get n)).1 (PySem.W.findObj_data hcd hp.at_ hp.get hp.tak) (PySem.W.plainGet_of (cl.get n)).2 (wpAny_call (PySem.W.prop_get (s := { s1 with toks := s1.toks + 1 }) I1.kIn hrec ?_))
      refine codeAny_mono (run_dc (A0 := X.A.in1) hX' hX.room.in1 hX.gd (fun I => I.env0.in1) FD I2 rp1 (.one rv1) (.cons rfl .nil) .nil .nil z h2) fun r s' hq => ?_
      cases r with
      | error er =>
        obtain ⟨_, _, _, _, _, _, _, _, _, _, _, _, _, _, _, w⟩ := hq
      | ok fl =>
        cases fl with
        | ret w =>
          obtain ⟨v, H', I3, rv, q3⟩ := I2.after hq
          show wpAny _ _ (handedOut w) _ _ _
          rw [PySem.W.handedOut_of (handed_of rv)]
          exact wpAny_pure ⟨v, H', I3, rv, q3⟩
        | next => exact False.elim hq
        | brk => exact False.elim hq
        | cont => exact False.elim hq
  · exact h1.bad

/-! ### classmethods -/
structure CMetF (K : PySem.W.Frag) (A : Addr) (mc : Value) (m : Str) (p g : Addr) : Prop where
  r : ClX.CRead K A mc
  c : ClX.CMet K A mc m p g
def cmF (c : Str) (F : Fn) (fa : Fx (List D)) (ks : List Str) (fk : Fx (List D)) : Fx D := fun ρ st => (fa ρ st).bind fun xs st2 => (fk ρ st2).bind fun us st3 => match F.bind (.ty c :: xs) ks us with
    | some vs => F.run vs st3
    | none => .bad
theorem se_cm {x m : Str} {fa fk : Fx (List D)} {es : List Expr} {kws : List Keyword} {ks : List Str} {np apos pos : Pos} {pl : Sem Bool} (hX : XOk X C k E) (hA : C.cm x = some A) (hc : CMetF X.K A mc m p g) (FD : FnD X.prog X.w C X.mg X.base k g fd Fu) (hg : Gl X x) (hm : X.mg x = some (.ref A))
    (ha : SA X C E fa es) (h0 : es = [] → fa = nilF) (hk : SK X C E fk kws) (hp : Plain X es kws ks pos) (hdb : (x == ("__debug__" : Str)) = false)
    (ht : eval (.Call (.Attribute (.Name x np) m apos) es kws pos) X.env = (do
      let ov ← eval (.Name x np) X.env
      standAt apos.atName
      let (f, first) ← holding [ov] (getMethod ov m pl)
      callWith pos f first (backTo pos (starEach es X.env)) (backToKw pos (keywordEach kws X.env)))) : SE X C E (cmF x Fu fa ks fk) (.Call (.Attribute (.Name x np) m apos) es kws pos) := by
  refine ⟨fun pins s σ H Q I h => ?_⟩
  obtain ⟨S, ρ, st, rp, rn, h⟩ := h
  refine PySem.W.methodCall_KW (pl := pl) (ld_glob I hg hm ?_ hdb) ht
  refine ClX.getmethcm_ok I hc.r hc.c fun s2 I2 => ?_
  have fin : wpAny (model X.prog X.w) X.A (callWith pos (.ref s.heap.objs.size) [] (backTo pos (starEach es X.env)) (backToKw pos (keywordEach kws X.env))) (EP X ((s.heap.objs.size, PySem.W.methodObj (.ref g) (.ref A)) :: pins) σ Q) X.xe s2 := by
    refine cw_run (first := []) (P := PySem.W.MethP X.K s.heap.objs.size g (.ref A)) (g := fun xs us st3 => match Fu.bind (.ty x :: xs) ks us with | some vs => Fu.run vs st3 | none => .bad) (fun h hh => by
      obtain ⟨kk, _, b⟩ := PySem.W.keeps_M (M := model X.prog X.w) hc.c.fi h hh
      exact ⟨kk, b⟩) ha h0 hk hp I2 rp rn h (fun H2 s3 S2 I3 _ => ⟨ClX.pin_at I3, I3.kIn⟩) fun aw av as uw uv us S2 H2 s3 st2 I3 g2 rp2 ra va ru vu hh => ?_
    cases z : Fu.bind (.ty x :: as) ks us with
    | none => rw [z] at hh; exact hh.bad
    | some vs =>
      rw [z] at hh
      have rt : RV C S2 (.ty x) (.ref A) := by rw [RV]; exact ⟨A, hA, rfl⟩
      exact wpAny_call (PySem.W.method_call (ClX.pin_at I3) (run_d1 hX.toXOkS FD I3 rp2 (.cons rt ra) (.cons rfl va) ru vu z hh))
  exact thn fin fun _ _ y => ClX.unpinE y

/-! ### calls of objects -/
theorem call_obj {P : Program} {w : World} {A0 : Around} {K : PySem.W.Frag} {s : Shared} {a A f : Addr} {ox : Obj} {od : Option Obj} {R : Result → Shared → Prop} {us : List Value} {kw : List (Str × Value)} (X : K.In s.heap) (J : PySem.W.InstAt s.heap a ox A od) (hd : ox.data = .plain)
    (hs : PySem.W.findIn K (.ref A) "__call__" = some (some (.ref f))) (hf : PySem.W.isFn K (.ref f) = true) (hfn : PySem.W.fnIn K f = true) (h : codeAny (model P w) A0 (.call (.ref f) ⟨.ref a :: us, kw⟩) R s) : codeAny (model P w) A0 (.call (.ref a) ⟨us, kw⟩) R s := by
  have ho := J.1
  have L1 := J.type (M := model P w)
  have L2 := PySem.W.looks_findIn (M := model P w) X hs
  have L3 := PySem.W.bind_fn (M := model P w) X (.ref a) (beq_iff_eq.mp hf)
  unfold PySem.W.fnIn at hfn
  split at hfn
  · rename_i c d fd sl e
    have he := X _ _ e
    obtain ⟨hh, g, dr, t, os⟩ := s
    obtain ⟨oc, odd, odt, osl⟩ := ox
    dsimp only at hd ho he
    subst hd
    refine codeAny_of_tree ?_
    show wpAny _ _ (callAny (.ref a) _) _ _ _
    dsimp only [callAny]
    refine wpAny_bind (wpAny_load ho ?_)
    dsimp only
    show wpAny _ _ (callAny.viaDunder (.ref a) ⟨us, kw⟩) _ _ _
    unfold callAny.viaDunder specialOf
    refine wpAny_bind (wpAny_bind (L1.at (L2.at ?_)))
    dsimp only
    refine wpAny_bind (L3.at ?_)
    dsimp only
    unfold callAny.plainCallee
    refine wpAny_bind (wpAny_bind (wpAny_load he ?_))
    dsimp only
    refine wpAny_pure ?_
    rw [if_pos rfl]
    exact wpAny_pure ⟨rfl, h⟩
  · cases hfn
end
end Px

/-! Px28: calls of objects; operators of own classes. -/
namespace PySem.W
open PySem PySem.Calls PyProof.Rows
section
variable {prog : Program} {w : World} {A : Around} {E : Value → Shared → Prop} {s : Shared} {K : Frag} {x C L f : Addr} {h₀ : Heap} {m : Str → Option Value} {ox : Obj} {od : Option Obj} {b tb : Value}
theorem px_ifBound {M : Model} {name : Str} {id : String} {args : List Value} {Q : Option Value → Shared → Prop} (X : K.In s.heap) (I : InstAt s.heap x ox C od) (hs : findIn K (.ref C) name = some (some (.builtin id))) (hb : ∀ self, bindSpecial (.builtin id) self = pure (.builtin id, [self]))
    (h : wpAny M A (call (.builtin id) (.ref x :: args)) (fun v => Q (some v)) E s) : wpAny M A (callSpecialIfBound? (.ref x) name args) Q E s := by
  simp only [callSpecialIfBound?, bindSpecialIfBound?]
  refine wpAny_holding (wpAny_bind (wpAny_bind (wpAny_bind (I.type.here ((looks_findIn X hs).here ?_)))))
  simp only [hb]
  refine wpAny_bind (wpAny_askSetting (wpAny_ite ?_))
  have fin : wpAny M A (call (.builtin id) ([.ref x] ++ args) >>= fun v => pure (some v)) Q E s := wpAny_bind (wpAny_mono h (fun v s' h' => wpAny_pure h') fun _ _ h' => h')
  split
  · exact wpAny_bind (wpAny_pure (wpAny_pure fin))
  · exact wpAny_tryCatch (wpAny_bind (wpAny_pure (wpAny_pure fin)))
theorem px_neEntry {Q : Fin → Shared → Prop} (hu : A.units < cLine) (X : K.In s.heap) (I : InstAt s.heap x ox C od) (hs : findIn K (.ref C) "__eq__" = some (some (.ref f))) (hf : isFn K (.ref f) = true)
    (h : wpAny (model prog w) A (call (.ref f) [.ref x, b]) (fun v s' => ∃ r, v = .bool r ∧ Q (.done (.ret (.bool (!r)))) s') E s) : wpAny (model prog w) A (Builtin.«object.__ne__» ⟨[.ref x, b], []⟩) Q E s := by
  unfold Builtin.«object.__ne__»
  have one : wpAny (model prog w) A (callSpecialIfBound? (.ref x) (Str.ofString "__eq__") [b]) (fun v s' => ∃ r, v = some (.bool r) ∧ Q (.done (.ret (.bool (!r)))) s') E s :=
    ifBound_K X I hs hf (wpAny_mono h (fun v s' ⟨r, hr, q⟩ => ⟨r, by rw [hr], q⟩) fun _ _ e => e)
  repeat (first
    | with_reducible refine wpAny_cRoomFor hu ?_
    | (refine wpAny_bind (m := callSpecialIfBound? (.ref x) (Str.ofString "__eq__") [b]) (wpAny_mono one (fun v s' hv => by
          obtain ⟨r, rfl, hq⟩ := hv
          repeat (first | exact hq | exact wpAny_pure hq | exact wpAny_truthy_bool hq | (refine wpAny_bind (m := truthy (.bool _)) (wpAny_truthy_bool ?_)) | wp_step)) fun _ _ e => e))
    | wp_step)
theorem px_ne {Q : Value → Shared → Prop} (hu : A.units + 1 < cLine) (X : K.In s.heap) (I : InstAt s.heap x ox C od) (hb : Looks (model prog w) s.heap (typeOf b) tb) (hn : notFirst K C tb = true)
    (hne : findIn K (.ref C) "__ne__" = some (some (.builtin "object.__ne__"))) (hob : subIn K (.ref C) (.type "object") = some true) (hs : findIn K (.ref C) "__eq__" = some (some (.ref f))) (hf : isFn K (.ref f) = true)
    (h : wpAny (model prog w) A.in1 (call (.ref f) [.ref x, b]) (fun v s' => ∃ r, v = .bool r ∧ Q (.bool (!r)) s') E s) : wpAny (model prog w) A (richCompare .NotEq (.ref x) b) Q E s := by
  have sub : Looks (model prog w) s.heap (isInstance (.ref x) (.type "object")) true := I.type.andThen (looks_subIn X hob)
  have one : wpAny (model prog w) A (tryCompare (.ref x) "__ne__" b) (fun r s' => ∃ v, r = some v ∧ Q v s') E s := by
    unfold tryCompare
    refine wpAny_bind (px_ifBound X I hne PySem.F.cmp_object.ne.bind (wpAny_call (codeAny_call_builtin PySem.F.cmp_object.ne.plain PySem.F.cmpEntry_ne ?_)))
    refine check_slot PySem.F.cmpKind_ne PySem.F.cmpSplit_ne sub (PySem.F.cmpArgs_ne _ _) ?_
    refine px_neEntry hu X I hs hf (wpAny_mono h (fun v s' ⟨r, hr, q⟩ => ⟨r, hr, ?_⟩) fun _ _ e => e)
    first
      | exact ⟨_, rfl, wpAny_pure ⟨_, rfl, q⟩⟩
      | exact wpAny_pure ⟨_, rfl, q⟩
      | exact ⟨_, rfl, q⟩
  unfold richCompare
  simp only [oneThing_ref]
  refine wpAny_holding (wpAny_bind (wpAny_cRoomFor (Nat.lt_of_succ_lt hu) ?_))
  refine wpAny_bind (I.type.here (wpAny_bind (hb.here ?_)))
  split
  · rename_i q
    have e : subIn K tb (.ref C) = some false := by
      rcases Bool.or_eq_true_iff.mp hn with e | e
      · rw [beq_iff_eq.mp e] at q; simp at q
      · exact beq_iff_eq.mp e
    refine wpAny_bind ((looks_subIn X e).here ?_)
    simp only [Bool.false_eq_true, if_false]
    refine wpAny_bind (wpAny_mono one (fun r s' z => ?_) fun _ _ e => e)
    obtain ⟨v, rfl, hq⟩ := z
    exact wpAny_pure hq
  · refine wpAny_bind (wpAny_pure ?_)
    simp only [Bool.false_eq_true, if_false]
    refine wpAny_bind (wpAny_mono one (fun r s' z => ?_) fun _ _ e => e)
    obtain ⟨v, rfl, hq⟩ := z
    exact wpAny_pure hq
end
end PySem.W

/-! Px29: calls of objects; operators of own classes; isinstance with own classes. -/
namespace Px
open PySem PySem.Spec PyProof.Rows L2
section
variable {X : Cx} {C : Kc} {E E' : L2.St → XK} {k : Nat} {f g p A : Addr} {fd : FuncData} {Fu : Fn} {mc : Value}

theorem fz_notin {S : Rp} {st : Store} {H : Hp} {a : Addr} {o : HO} (r : Rep C S st H) (h : S.G a = some o) : a ∉ S.m := fun hm => by
  obtain ⟨n, hn, e⟩ := List.getElem_of_mem hm
  have hn' : n < st.length := by rw [← r.len]; exact hn
  obtain ⟨a', o', h1, h2, _, _⟩ := r.at_ n st[n] (List.getElem?_eq_getElem hn')
  rw [List.getElem?_eq_getElem hn] at h1
  cases h1
  rw [e, h] at h2
  cases h2
theorem inst_at {pins : List (Addr × Obj)} {σ : L2.St} {H : Hp} {s : Shared} {a dx : Addr} {fs : List (Str × V)} (I : Inv X pins σ H s) (h : H a = some (.ins A dx fs)) : ∃ od, PySem.W.InstAt s.heap a (PySem.W.instObj A dx) A (some od) := by
  obtain ⟨mA, O, _, _, _, _⟩ := ins_get I.hok h
  obtain ⟨od, J, _⟩ := O.look
  exact ⟨od, J⟩
/-- special methods of an own class -/
structure SpF (K : PySem.W.Frag) (A : Addr) (m : Str) (f : Addr) : Prop where
  at_ : PySem.W.findIn K (.ref A) m = some (some (.ref f))
  fn : PySem.W.isFn K (.ref f) = true
  fi : PySem.W.fnIn K f = true

/-! ### o(..) -/
def callOF (c : Str) (F : Fn) (fe : Fx D) (fa : Fx (List D)) (ks : List Str) (fk : Fx (List D)) : Fx D := fun ρ st => (fe ρ st).bind fun x st1 => match x with
  | .obj c' ns us0 => if c' = c then (fa ρ st1).bind fun xs st2 => (fk ρ st2).bind fun us st3 => match F.bind (.obj c' ns us0 :: xs) ks us with
    | some vs => F.run vs st3
    | none => .bad
    else .bad
  | _ => .bad
theorem se_callO {c : Str} {fo : Fx D} {fa fk : Fx (List D)} {fe : Expr} {es : List Expr} {kws : List Keyword} {ks : List Str} {pos : Pos} (hX : XOk X C k E) (hA : C.cm c = some A) (hs : SpF X.K A "__call__" f) (FD : FnD X.prog X.w C X.mg X.base k f fd Fu)
    (ho : SE X C E fo fe) (ha : SA X C E fa es) (h0 : es = [] → fa = nilF) (hk : SK X C E fk kws) (hp : Plain X es kws ks pos)
    (ht : eval (.Call fe es kws pos) X.env = (do callWith pos (← eval fe X.env) [] (backTo pos (starEach es X.env)) (backToKw pos (keywordEach kws X.env)))) : SE X C E (callOF c Fu fo fa ks fk) (.Call fe es kws pos) := by
  refine ⟨fun pins s σ H Q I h => ?_⟩
  obtain ⟨S, ρ, st, rp, rn, h⟩ := h
  rw [ht]
  refine wpAny_bind (se_step ho I rp rn (rel2 := rV C) h fun u s1 v H1 S1 st1 d I1 r1 g1 rp1 rv1 h1 => ?_)
  cases d <;> first | exact Post.bad (C := C) h1 | skip
  case obj c' ns us0 =>
    obtain ⟨hc, h2⟩ := post_ite h1
    obtain ⟨a, A', dx, fs, rfl, h3, h4, rfl, h6⟩ := rv_obj.mp rv1
    rw [hc, hA] at h3; cases h3
    obtain rfl : u = Value.ref a := r1
    have hn := fz_notin rp1 h4
    have hH := rp1.fz _ _ h4
    refine cw_run (first := []) (P := fun h => ∃ o : Obj, h.get? a = some o ∧ o.data = .plain) (g := fun xs us st3 => match Fu.bind (.obj c' (fs.map (·.1)) us0 :: xs) ks us with | some vs => Fu.run vs st3 | none => .bad) (fun h hh => by
      obtain ⟨o, h7, h8⟩ := hh
      refine ⟨.caller, ?_⟩
      intro A0 Q0 E0 s0 k0 q0
      unfold keeperOf
      refine wpAny_bind (wpAny_load (k0 _ _ h7) ?_)
      rw [h8]
      exact wpAny_pure q0) ha h0 hk hp I1 rp1 (rn.mono g1.ext) h2 (fun H2 s2 S2 I2 g2 => by
        obtain ⟨od, J⟩ := inst_at I2 (g2.frame a _ hH hn)
        exact ⟨_, J.1, rfl⟩) fun aw av as uw uv us S2 H2 s2 st2 I2 g2 rp2 ra va ru vu hh => ?_
    cases z : Fu.bind (.obj c' (fs.map (·.1)) us0 :: as) ks us with
    | none => rw [z] at hh; exact hh.bad
    | some vs =>
      rw [z] at hh
      obtain ⟨od, J⟩ := inst_at I2 (g2.frame a _ hH hn)
      exact wpAny_call (call_obj I2.kIn J rfl hs.at_ hs.fn hs.fi (run_d1 hX.toXOkS FD I2 rp2 (.cons (rv1.mono g2.ext) ra) (.cons rfl va) ru vu z hh))

/-! ### a op b, a of an own class -/
theorem relV_ni {v : V} : ¬ RelV v .notImplemented := fun h => by
  cases v with
  | non => cases (show Value.notImplemented = Value.none from h)
  | bl b => cases (show Value.notImplemented = Value.bool b from h)
  | int i => obtain ⟨t, e⟩ := (show ∃ t, Value.notImplemented = Value.int i t from h); cases e
  | str x => obtain ⟨t, e⟩ := (show ∃ t, Value.notImplemented = Value.str x t from h); cases e
  | byt b => obtain ⟨t, e⟩ := (show ∃ t, Value.notImplemented = Value.bytes b t from h); cases e
  | flt b => obtain ⟨t, e⟩ := (show ∃ t, Value.notImplemented = Value.float b t from h); cases e
  | ref a => cases (show Value.notImplemented = Value.ref a from h)
  | ty n => cases (show Value.notImplemented = Value.type n from h)
theorem ep_back {pins : List (Addr × Obj)} {σ : L2.St} {Q : VK} {v : Value} {s : Shared} (h : EP X pins σ Q v s) : PySem.W.CmpBack (EP X pins σ Q) v s := by
  obtain ⟨w, H, I, r, q⟩ := h
  unfold PySem.W.CmpBack
  split
  · exact (relV_ni r).elim
  · exact ⟨w, H, I, r, q⟩
def opO (c : Str) (t : Ty) (F : Fn) (x y : D) (st : Store) : R D := match look st x with
  | some (.obj c' ns us0) => if c' = c ∧ tyOf st y = some t then (match F.bind [x, y] [] [] with
    | some vs => F.run vs st
    | none => .bad) else .bad
  | _ => .bad
theorem ty_obj {S : Rp} {st : Store} {H : Hp} {d : D} {v : V} {c : Str} (rp : Rep C S st H) (rv : RV C S d v) (e : tyOf st d = some (.c c)) : ∃ (a A dx : Addr) (fs : List (Str × V)), v = .ref a ∧ C.cm c = some A ∧ H a = some (.ins A dx fs) := by
  unfold tyOf at e
  cases z : look st d with
  | none => rw [z] at e; cases e
  | some y =>
    rw [z] at e
    cases y with
    | obj c' ns us =>
      cases e
      obtain ⟨a, A, dx, fs, h1, h2, h3, _⟩ := look_obj rp rv z
      exact ⟨a, A, dx, fs, h1, h2, h3⟩
    | _ => cases e
/-- two objects of the class c -/
theorem os_own {c : Str} {op : Operator} (hX : XOk X C k E') (hA : C.cm c = some A) (cf : ClsF X.K A) (hs : SpF X.K A (PySem.dunder op.info.2) f) (FD : FnD X.prog X.w C X.mg X.base k f fd Fu) : OpS X C E' (binaryOp op) (opO c (.c c) Fu) := by
  intro pins s σ H x y v u Q S st a b I rx ry rp ra rb h
  unfold opO at h
  split at h
  · rename_i c' ns us0 e
    obtain ⟨hc, h2⟩ := post_ite h
    obtain ⟨a0, A', dx, fs, rfl, h3, h4, rfl, h6⟩ := look_obj rp ra e
    rw [hc.1, hA] at h3; cases h3
    obtain ⟨b0, B', dy, gs, rfl, h7, h8⟩ := ty_obj rp rb hc.2
    rw [hA] at h7; cases h7
    cases rx
    cases ry
    obtain ⟨od, J⟩ := inst_at I h4
    obtain ⟨od', J'⟩ := inst_at I h8
    obtain ⟨m, hF⟩ := I.fr
    refine PySem.W.binop_K hF I.ok.mod.kin J J'.type cf.sf hs.at_ hs.fn ?_
    exact wpAny_mono (run_d2 (ks := []) (uw := []) hX.toXOkS FD I rp (.cons ra (.one rb)) (.cons rfl (.cons rfl .nil)) .nil .nil h2) (fun _ _ q => ep_back q) fun _ _ q => q
  · exact h.bad
/-- what ** with an int asks -/
structure PwF (K : PySem.W.Frag) (A : Addr) (nm : String) : Prop where
  r : PySem.W.findIn K (.ref A) (PySem.dunderR nm) = some none
  i1 : ∃ o, PySem.W.findIn K (.type "int") (PySem.dunder nm) = some o
  i2 : ∃ o, PySem.W.findIn K (.type "int") (PySem.dunderR nm) = some o
  sub : PySem.W.subIn K (.type "int") (.ref A) = some false
theorem os_ownI {c : Str} {op : Operator} (hX : XOk X C k E') (hA : C.cm c = some A) (cf : ClsF X.K A) (hs : SpF X.K A (PySem.dunder op.info.2) f) (pw : PwF X.K A op.info.2) (FD : FnD X.prog X.w C X.mg X.base k f fd Fu) : OpS X C E' (binaryOp op) (opO c (.b "int") Fu) := by
  intro pins s σ H x y v u Q S st a b I rx ry rp ra rb h
  unfold opO at h
  split at h
  · rename_i c' ns us0 e
    obtain ⟨hc, h2⟩ := post_ite h
    obtain ⟨a0, A', dx, fs, rfl, h3, h4, rfl, h6⟩ := look_obj rp ra e
    rw [hc.1, hA] at h3; cases h3
    have hi : ∃ i, b = .int i := by
      have e2 := hc.2
      unfold tyOf at e2
      cases b with
      | int i => exact ⟨i, rfl⟩
      | cell n =>
        rw [look_cell] at e2
        cases q : st[n]? with
        | none => rw [q] at e2; cases e2
        | some mo =>
          rw [q] at e2
          cases mo <;> exact absurd e2 (by simp [moD])
      | non => exact absurd e2 (by simp [look])
      | bl _ => exact absurd e2 (by simp [look])
      | str _ => exact absurd e2 (by simp [look])
      | tup _ => exact absurd e2 (by simp [look])
      | lst _ => exact absurd e2 (by simp [look])
      | dct _ _ => exact absurd e2 (by simp [look])
      | obj _ _ _ => exact absurd e2 (by simp [look])
      | ty _ => exact absurd e2 (by simp [look])
      | lck _ => exact absurd e2 (by simp [look])
    obtain ⟨i, rfl⟩ := hi
    have eb := rv_int.mp rb
    subst eb
    obtain ⟨t, rfl⟩ := ry
    cases rx
    obtain ⟨od, J⟩ := inst_at I h4
    obtain ⟨m, hF⟩ := I.fr
    obtain ⟨o1, w1⟩ := pw.i1
    obtain ⟨o2, w2⟩ := pw.i2
    refine PySem.W.ksp_binT (T := "int") hF I.ok.mod.kin J rfl cf.sf hs.at_ hs.fn pw.r (.inl rfl) w1 w2 pw.sub ?_
    exact wpAny_mono (run_d2 (ks := []) (uw := []) hX.toXOkS FD I rp (.cons ra (.one rb)) (.cons rfl (.cons ⟨t, rfl⟩ .nil)) .nil .nil h2) (fun _ _ q => ep_back q) fun _ _ q => q
  · exact h.bad

/-! ### a == b, a != b -/
/-- the type of anything, as the machine sees it -/
def okTy (oc : List Str) : Option Ty → Bool
  | some (.b _) => true
  | some (.c d) => oc.contains d
  | none => false
def eqO (oc : List Str) (c : Str) (neg : Bool) (F : Fn) (x y : D) (st : Store) : R D := match look st x with
  | some (.obj c' ns us0) => if c' = c ∧ okTy oc (tyOf st y) = true then (match F.bind [x, y] [] [] with
    | some vs => (F.run vs st).bind fun d st' => match d with
      | .bl b => .ok (.bl (neg.xor b)) st'
      | _ => .bad
    | none => .bad) else .bad
  | _ => .bad
theorem ty_looks {S : Rp} {st : Store} {H : Hp} {d : D} {v : V} {u : Value} {oc : List Str} {c : Str} {pins : List (Addr × Obj)} {σ : L2.St} {s : Shared} {kk : Nat} (hX : XOk X C kk E) (I : Inv X pins σ H s) (ho : Ocs C oc) (hc : c ∈ oc) (hA : C.cm c = some A) (hnf : ∀ t ∈ ["NoneType", "int", "bool", "str", "tuple", "list", "dict"], PySem.W.notFirst X.K A (.type t) = true) (rp : Rep C S st H) (rv : RV C S d v) (ru : RelV v u) (e : okTy oc (tyOf st d) = true) :
    ∃ tb, PySem.W.Looks (model X.prog X.w) s.heap (typeOf u) tb ∧ PySem.W.notFirst X.K A tb = true := by
  cases z : tyOf st d with
  | none => rw [z] at e; cases e
  | some t =>
    rw [z] at e
    cases t with
    | b n =>
      obtain ⟨hm, ty⟩ := ty_rv hX rp rv z
      obtain ⟨P, kx, hp, _⟩ := kit_of I ru ty
      exact ⟨.type n, kx.ty _ _ I.kIn hp, hnf n hm⟩
    | c d' =>
      have hd : d' ∈ oc := by simpa [okTy] using e
      obtain ⟨b0, B, dy, gs, rfl, h7, h8⟩ := ty_obj rp rv z
      cases ru
      obtain ⟨od', J'⟩ := inst_at I h8
      refine ⟨.ref B, J'.type, ?_⟩
      rcases (ho.two c hc d' hd A B hA h7).2 with e2 | e2
      · subst e2
        rw [hA] at h7; cases h7
        unfold PySem.W.notFirst
        simp
      · rw [hX.K]; exact e2
/-- what == of an own class asks -/
structure EqF (K : PySem.W.Frag) (A : Addr) (f : Addr) : Prop where
  s : SpF K A "__eq__" f
  ne : PySem.W.findIn K (.ref A) "__ne__" = some (some (.builtin "object.__ne__"))
  ob : PySem.W.subIn K (.ref A) (.type "object") = some true
  nf : ∀ t ∈ ["NoneType", "int", "bool", "str", "tuple", "list", "dict"], PySem.W.notFirst K A (.type t) = true
theorem os_eqO {c : Str} {oc : List Str} (hX : XOk X C (k + 1) E') (ho : Ocs C oc) (hc : c ∈ oc) (hA : C.cm c = some A) (ef : EqF X.K A f) (FD : FnD X.prog X.w C X.mg X.base k f fd Fu) : OpS X C E' (compareOp .Eq) (eqO oc c false Fu) := by
  intro pins s σ H x y v u Q S st a b I rx ry rp ra rb h
  unfold eqO at h
  split at h
  · rename_i c' ns us0 e
    obtain ⟨hcc, h2⟩ := post_ite h
    obtain ⟨a0, A', dx, fs, rfl, h3, h4, rfl, h6⟩ := look_obj rp ra e
    rw [hcc.1, hA] at h3; cases h3
    obtain ⟨tb, l1, l2⟩ := ty_looks hX I ho hc hA ef.nf rp rb ry hcc.2
    cases rx
    obtain ⟨od, J⟩ := inst_at I h4
    obtain ⟨m, hF⟩ := I.fr
    cases z : Fu.bind [a, b] [] [] with
    | none => rw [z] at h2; exact h2.bad
    | some vs =>
      rw [z] at h2
      have hX' : XOkS X C k E' := ⟨hX.K, hX.nd, hX.room.mono (Nat.le_succ _), hX.gd, hX.tk, hX.sm⟩
      refine PySem.W.cmp_ofEq (PySem.W.cmp_K (op := .Eq) (tb := tb) hX.room.units0 hF I.ok.mod.kin J l1 l2 ef.s.at_ ef.s.fn ?_)
      refine wpAny_mono (wpAny_call (run_d1 (ks := []) (uw := []) (Q := Q) hX' FD I rp (.cons ra (.one rb)) (.cons rfl (.cons ry .nil)) .nil .nil z (Post.bind (rel2 := rV C) h2 fun d st' S' H' w gg rp' rv' h5 => ?_))) (fun _ _ q => ep_back q) fun _ _ q => q
      cases d <;> first | exact Post.bad (C := C) h5 | skip
      case bl r =>
        have h5 : Post C (rV C) S' H' (.ok (.bl (false.xor r)) st') Q (E' σ) := h5
        have er : (false.xor r) = r := by cases r <;> rfl
        rw [er] at h5
        exact post_same h5 rp' rv'
  · exact h.bad
theorem os_neO {c : Str} {oc : List Str} (hX : XOk X C (k + 1) E') (ho : Ocs C oc) (hc : c ∈ oc) (hA : C.cm c = some A) (ef : EqF X.K A f) (FD : FnD X.prog X.w C X.mg X.base k f fd Fu) : OpS X C E' (compareOp .NotEq) (fun x y st => noEx (eqO oc c true Fu x y st)) := by
  intro pins s σ H x y v u Q S st a b I rx ry rp ra rb h
  have h := post_noEx (E' := fun _ _ _ => False) h
  unfold eqO at h
  split at h
  · rename_i c' ns us0 e
    obtain ⟨hcc, h2⟩ := post_ite h
    obtain ⟨a0, A', dx, fs, rfl, h3, h4, rfl, h6⟩ := look_obj rp ra e
    rw [hcc.1, hA] at h3; cases h3
    obtain ⟨tb, l1, l2⟩ := ty_looks hX I ho hc hA ef.nf rp rb ry hcc.2
    cases rx
    obtain ⟨od, J⟩ := inst_at I h4
    cases z : Fu.bind [a, b] [] [] with
    | none => rw [z] at h2; exact h2.bad
    | some vs =>
      rw [z] at h2
      have hX' : XOkS X C k E' := ⟨hX.K, hX.nd, hX.room.mono (Nat.le_succ _), hX.gd, hX.tk, hX.sm⟩
      have h3 : Post C (rV C) S H (Fu.run vs st) (fun w H' => ∃ r, w = V.bl r ∧ Q (.bl (!r)) H') (fun _ _ _ => False) := Post.bind (rel2 := rV C) h2 fun d st' S' H' w gg rp' rv' h5 => by
        cases d <;> first | exact Post.bad (C := C) h5 | skip
        case bl r =>
          have h5 : Post C (rV C) S' H' (.ok (.bl (true.xor r)) st') Q (fun _ _ _ => False) := h5
          have er : (true.xor r) = !r := by cases r <;> rfl
          rw [er] at h5
          exact ⟨r, rv_bl.mp rv', post_same h5 rp' (rv_bl.mpr rfl)⟩
      refine PySem.W.cmp_ofNotEq (PySem.W.px_ne (by have := hX.room.units; omega) I.kIn J l1 l2 ef.ne ef.ob ef.s.at_ ef.s.fn ?_)
      refine wpAny_call (codeAny_mono (run_dc (A0 := X.A.in1) (ks := []) (uw := []) hX' hX.room.in1 hX.gd (fun I => I.env0.in1) FD I rp (.cons ra (.one rb)) (.cons rfl (.cons ry .nil)) .nil .nil z h3) fun r s' hq => ?_)
      cases r with
      | error er =>
        obtain ⟨_, _, _, _, _, _, _, _, _, _, _, _, _, _, _, w⟩ := hq
      | ok fl =>
        cases fl with
        | ret w =>
          obtain ⟨w', H', I3, rv, r, rfl, q3⟩ := I.after hq
          obtain rfl : w = Value.bool r := rv
          exact ⟨r, rfl, .bl (!r), H', I3, rfl, q3⟩
        | next => exact False.elim hq
        | brk => exact False.elim hq
        | cont => exact False.elim hq
  · exact h.bad
end
end Px

/-! Px30: list(zip(a, b)), a and b tuples: a zip whose tuples stay out. -/
namespace PySem
open Sem (wp)
open PyProof.Rows
section
variable {prog : Program} {w : World} {A : Around} {E : Value → Shared → Prop} {s : Shared} {z TI TO T i1 i2 l1 l2 : Addr} {f : Bool} {oT : Obj} {k1 k2 : Nat} {xs ys : Array Value}
/-- a turn of such a zip: another item -/
theorem pz_item {x y : Value} {Q : Option Value → Shared → Prop} (D : ZipApart z TI TO i1 i2 l1 l2) (hz : IsZipHeld s.heap z TI TO T f) (hT : s.heap.get? T = some oT) (hTI : IsPair s.heap TI (.ref i1) (.ref i2))
    (h1 : s.heap.IsTupleIter i1 l1 k1) (h2 : s.heap.IsTupleIter i2 l2 k2) (hl1 : s.heap.IsTuple l1 xs) (hl2 : s.heap.IsTuple l2 ys) (hx : xs[k1]? = some x) (hy : ys[k2]? = some y)
    (hQ : ∀ h', IsZipHeld h' z TI TO T true → h'.IsTupleIter i1 l1 (k1 + 1) → h'.IsTupleIter i2 l2 (k2 + 1) → IsPair h' s.heap.objs.size x y →
      (∀ c o, c ≠ z → c ≠ i1 → c ≠ i2 → s.heap.get? c = some o → h'.get? c = some o) → Q (some (.ref s.heap.objs.size)) { s with heap := h' }) : wpAny (model prog w) A (pyNext (.ref z)) Q E s := by
  have hTy : s.TypeIs (.ref z) "zip" := ⟨_, hz, rfl⟩
  unfold pyNext
  refine wpAny_bind (wpAny_attempt (wpAny_callSpecial?_slot (name := Str.ofString "__next__") hTy F.slot_zip_next (wpAny_call_entry F.slot_zip_next hTy F.entry_zip_next ?_ (F.args_zip_next_1 _))))
  show wpAny _ _ (field (.ref z) 2 >>= _) _ _ _
  refine wpAny_bind (wpAny_field hz rfl (x := .bool false) rfl ?_)
  show wpAny _ _ (field (.ref z) 3 >>= _) _ _ _
  refine wpAny_bind (wpAny_field hz rfl (x := .ref TI) rfl (wpAny_bind (wpAny_seqItems hTI rfl ?_)))
  show wpAny _ _ (Builtin.SmallTypes.ownedTupleIsFree (.ref z) >>= _) _ _ _
  refine wpAny_bind (wpAny_tupleHeld_zip hz hT fun ha za ca => ?_)
  simp only [Bool.false_eq_true, if_false]
  refine wpAny_bind ?_
  rw [← Array.forIn_toList]
  simp only [List.forIn_cons, List.forIn_nil]
  refine wpAny_bind (wpAny_bind (wpAny_holding ?_))
  show wpAny _ _ (Builtin.SmallTypes.nextOf (.ref i1) >>= _) _ _ _
  refine wpAny_bind (RZ.nextOf_tuple_item (s := { s with heap := ha }) (h1.extBut ca.extBut D.i1z) (hl1.extBut ca.extBut D.l1z) hx fun hb ib cb => wpAny_pure (wpAny_pure ?_))
  refine wpAny_bind (wpAny_bind (wpAny_holding ?_))
  show wpAny _ _ (Builtin.SmallTypes.nextOf (.ref i2) >>= _) _ _ _
  refine wpAny_bind (RZ.nextOf_tuple_item (s := { s with heap := hb }) ((h2.extBut ca.extBut D.i2z).extBut cb.extBut D.i12.symm) ((hl2.extBut ca.extBut D.l2z).extBut cb.extBut D.l2i1) hy fun hc ic cc => wpAny_pure (wpAny_pure (wpAny_pure ?_)))
  show wpAny _ _ (newTuple [x, y] >>= _) _ _ _
  refine wpAny_bind (wpAny_newTuple ?_)
  have hsz : hc.objs.size = s.heap.objs.size := by rw [cc.1, cb.1, ca.1]
  have zc : IsZipHeld hc z TI TO T true := cc.extBut _ _ D.i2z.symm (cb.extBut _ _ D.i1z.symm za)
  have keep : ∀ c o, c ≠ z → c ≠ i1 → c ≠ i2 → s.heap.get? c = some o → hc.get? c = some o := fun c o e1 e2 e3 e => cc.extBut _ _ e3 (cb.extBut _ _ e2 (ca.extBut _ _ e1 e))
  have ib' := ib.extBut cc.extBut D.i12
  have pr : IsPair (hc.push { cls := .type "tuple", data := .seq #[x, y] }) hc.objs.size x y := Heap.get?_push_size _ rfl
  have fin := hQ (hc.push { cls := .type "tuple", data := .seq #[x, y] }) (Heap.get?_push_of_some _ zc) (ib'.at fun o e => Heap.get?_push_of_some _ e) (ic.at fun o e => Heap.get?_push_of_some _ e) (by rw [← hsz]; exact pr)
    fun c o e1 e2 e3 e => Heap.get?_push_of_some _ (keep c o e1 e2 e3 e)
  rw [← hsz] at fin
  exact wpAny_pure ⟨_, rfl, wpAny_pure fin⟩
/-- .. none is left -/
theorem pz_end {Q : Option Value → Shared → Prop} (hh : A.handled = none) (D : ZipApart z TI TO i1 i2 l1 l2) (hz : IsZipHeld s.heap z TI TO T f) (hT : s.heap.get? T = some oT) (hTI : IsPair s.heap TI (.ref i1) (.ref i2))
    (h1 : s.heap.IsTupleIter i1 l1 k1) (h2 : s.heap.IsTupleIter i2 l2 k2) (hl1 : s.heap.IsTuple l1 xs) (hl2 : s.heap.IsTuple l2 ys) (hend : xs[k1]? = none ∨ ys[k2]? = none)
    (hQ : ∀ h', (∀ c o, c ≠ z → c ≠ i1 → c ≠ i2 → s.heap.get? c = some o → h'.get? c = some o) → Q none { s with heap := h' }) : wpAny (model prog w) A (pyNext (.ref z)) Q E s := by
  have hTy : s.TypeIs (.ref z) "zip" := ⟨_, hz, rfl⟩
  have stop : ∀ {h' : Heap} {e : Addr}, (∀ c o, c ≠ z → c ≠ i1 → c ≠ i2 → s.heap.get? c = some o → h'.get? c = some o) → (∃ o, h'.get? e = some o ∧ o.cls = .type "StopIteration") →
      ∀ {E' : Value → Shared → Prop}, wpAny (model prog w) A (do if ← isInstance (.ref e) (.type "StopIteration") then pure none else throw (.ref e)) Q E' { s with heap := h' } := fun k ⟨o, ho, hc⟩ E' => by
    refine wpAny_bind (wpAny_isInstance (T := "StopIteration") (b := true) ⟨o, ho, hc⟩ isSubtype_stop ?_)
    exact wpAny_pure (hQ _ k)
  unfold pyNext
  refine wpAny_bind (wpAny_attempt (wpAny_callSpecial?_slot (name := Str.ofString "__next__") hTy F.slot_zip_next (wpAny_call_entry F.slot_zip_next hTy F.entry_zip_next ?_ (F.args_zip_next_1 _))))
  show wpAny _ _ (field (.ref z) 2 >>= _) _ _ _
  refine wpAny_bind (wpAny_field hz rfl (x := .bool false) rfl ?_)
  show wpAny _ _ (field (.ref z) 3 >>= _) _ _ _
  refine wpAny_bind (wpAny_field hz rfl (x := .ref TI) rfl (wpAny_bind (wpAny_seqItems hTI rfl ?_)))
  show wpAny _ _ (Builtin.SmallTypes.ownedTupleIsFree (.ref z) >>= _) _ _ _
  refine wpAny_bind (wpAny_tupleHeld_zip hz hT fun ha za ca => ?_)
  simp only [Bool.false_eq_true, if_false]
  refine wpAny_bind ?_
  rw [← Array.forIn_toList]
  simp only [List.forIn_cons, List.forIn_nil]
  refine wpAny_bind (wpAny_bind (wpAny_holding ?_))
  show wpAny _ _ (Builtin.SmallTypes.nextOf (.ref i1) >>= _) _ _ _
  cases hx : xs[k1]? with
  | none =>
    refine wpAny_bind (RZ.nextOf_tuple_end (s := { s with heap := ha }) (by first | exact hh | (show A.in1.handled = none; exact hh)) (h1.extBut ca.extBut D.i1z) (hl1.extBut ca.extBut D.l1z) hx fun hb e cb he => ?_)
    exact stop (fun c o e1 e2 _ x => cb _ _ e2 (ca.extBut _ _ e1 x)) he
  | some x =>
    have hy : ys[k2]? = none := hend.elim (fun h => by rw [hx] at h; cases h) fun h => h
    refine wpAny_bind (RZ.nextOf_tuple_item (s := { s with heap := ha }) (h1.extBut ca.extBut D.i1z) (hl1.extBut ca.extBut D.l1z) hx fun hb ib cb => wpAny_pure (wpAny_pure ?_))
    refine wpAny_bind (wpAny_bind (wpAny_holding ?_))
    show wpAny _ _ (Builtin.SmallTypes.nextOf (.ref i2) >>= _) _ _ _
    refine wpAny_bind (RZ.nextOf_tuple_end (s := { s with heap := hb }) (by first | exact hh | (show A.in1.handled = none; exact hh)) ((h2.extBut ca.extBut D.i2z).extBut cb.extBut D.i12.symm) ((hl2.extBut ca.extBut D.l2z).extBut cb.extBut D.l2i1) hy fun hc e cc he => ?_)
    exact stop (fun c o e1 e2 e3 x => cc _ _ e3 (cb.extBut _ _ e2 (ca.extBut _ _ e1 x))) he
end
end PySem
namespace PySem
theorem no_len_zip : typeLookup (.type "zip") "__len__" = pure none := by rw [typeLookup_type, builtinLookup_eq_fast]; kernel_rfl
theorem no_hint_zip : typeLookup (.type "zip") "__length_hint__" = pure none := by rw [typeLookup_type, builtinLookup_eq_fast]; kernel_rfl
end PySem
namespace Px
open PySem PySem.Spec PyProof.Rows L2
/-- the zip's state: i pairs were given -/
def ZS (z TI TO i1 i2 l1 l2 Sa : Addr) (h : Heap) (i : Nat) : Prop := IsPair h TI (.ref i1) (.ref i2) ∧ h.IsTupleIter i1 l1 i ∧ h.IsTupleIter i2 l2 i ∧ (∃ o, h.get? TO = some o) ∧
  ((IsZip h z TI TO .none ∧ ∃ a b, IsPair h TO a b) ∨ ∃ T f oT, IsZipHeld h z TI TO T f ∧ h.get? T = some oT ∧ T ≠ z ∧ T ≠ i1 ∧ T ≠ i2 ∧ T ≠ Sa)
section
variable {X : Cx} {C : Kc} {E : L2.St → XK} {k : Nat}
theorem ZS.at {z TI TO i1 i2 l1 l2 Sa : Addr} {h h' : Heap} {i : Nat} (a : ZS z TI TO i1 i2 l1 l2 Sa h i) (n : Sa ∉ [z, TI, TO, i1, i2]) (kk : ∀ b o, b ≠ Sa → h.get? b = some o → h'.get? b = some o) : ZS z TI TO i1 i2 l1 l2 Sa h' i := by
  simp only [List.mem_cons, List.not_mem_nil, or_false, not_or] at n
  obtain ⟨n1, n2, n3, n4, n5⟩ := n
  obtain ⟨a1, a2, a3, ⟨oO, aO⟩, a4⟩ := a
  refine ⟨kk _ _ (Ne.symm n2) a1, a2.at fun o e => kk _ o (Ne.symm n4) e, a3.at fun o e => kk _ o (Ne.symm n5) e, ⟨oO, kk _ _ (Ne.symm n3) aO⟩, ?_⟩
  rcases a4 with ⟨b1, x, y, b2⟩ | ⟨T, f, oT, b1, b2, b3, b4, b5, b6⟩
  · exact .inl ⟨kk _ _ (Ne.symm n1) b1, x, y, kk _ _ (Ne.symm n3) b2⟩
  · exact .inr ⟨T, f, oT, kk _ _ (Ne.symm n1) b1, kk _ _ b6 b2, b3, b4, b5, b6⟩
def pairD (p : D × D) : D := .tup [p.1, p.2]
theorem lz_loop {A1 : Around} {R : Result → Shared → Prop} {z TI TO i1 i2 l1 l2 Sa : Addr} {res : Value} {st : Store} {xs ys : List D} {vx vy : List V} {S1 : Rp} {H1 : Hp} {pins : List (Addr × Obj)} {σ : L2.St} (hh : A1.handled = none) (hK : X.K = C.K) (D : ZipApart z TI TO i1 i2 l1 l2) (hS : Sa ∉ [z, TI, TO, i1, i2])
    (h1 : H1 Sa = none) (tx : SqT C.K S1.G l1 vx) (rx : RVs C S1 xs vx) (ty : SqT C.K S1.G l2 vy) (ry : RVs C S1 ys vy) (hl : (xs.zip ys).length ≤ lim)
    (fin : ∀ s H S av, Inv X pins σ H s → Rep C S st H → Mine S1 H1 S H Sa av → RVs C S ((xs.zip ys).map pairD) av → R (.ok (.ret res)) s) :
    ∀ (m i : Nat) (s : Shared) (H : Hp) (S : Rp) (av : List V), (xs.zip ys).length - i = m → i ≤ (xs.zip ys).length → Inv X pins σ H s → (∀ b ∈ [z, TI, TO, i1, i2], FpOk X pins H b) → Rep C S st H → Mine S1 H1 S H Sa av → RVs C S (((xs.zip ys).take i).map pairD) av → ZS z TI TO i1 i2 l1 l2 Sa s.heap i →
    codeAny (model X.prog X.w) A1 (.builtin "list.extend.loop" ⟨[.ref Sa, .ref z, res], []⟩) R s := by
  intro m
  induction m with
  | zero =>
    intro i s H S av hm hi I fp rp mi ra zs
    have e : i = (xs.zip ys).length := by omega
    subst e
    rw [List.take_length] at ra
    refine codeAny_builtin F.entry_extend_loop ?_
    rw [Around.under_plainId F.plain_extend_loop _]
    show wpAny _ A1.in1 (pyNext (.ref z) >>= _) _ _ s
    have hh' : A1.in1.handled = none := hh
    obtain ⟨its, rvx, px, _⟩ := I.tuple (hK ▸ sqT_mono rp.fz (sqT_mono mi.go.ext.g tx))
    obtain ⟨its2, rvy, py, _⟩ := I.tuple (hK ▸ sqT_mono rp.fz (sqT_mono mi.go.ext.g ty))
    have lx : its.length = xs.length := by rw [← rvx.length, rx.length]
    have ly : its2.length = ys.length := by rw [← rvy.length, ry.length]
    have hend : its.toArray[(xs.zip ys).length]? = none ∨ its2.toArray[(xs.zip ys).length]? = none := by
      rw [List.length_zip]
      rcases Nat.le_total xs.length ys.length with h | h
      · exact .inl (by simp [lx, Nat.min_eq_left h])
      · exact .inr (by simp [ly, Nat.min_eq_right h])
    obtain ⟨a1, a2, a3, ⟨oO, aO⟩, a4⟩ := zs
    have go : ∀ h', (∀ c o, c ∉ [z, TI, TO, i1, i2] → s.heap.get? c = some o → h'.get? c = some o) → R (.ok (.ret res)) { s with heap := h' } := fun h' kk =>
      fin _ H S av (I.turnedL (t' := s.toks) kk fp) rp mi ra
    rcases a4 with ⟨b1, x, y, b2⟩ | ⟨T, f, oT, b1, b2, b3, b4, b5, b6⟩
    · refine wpAny_bind (RZ.pyNext_zipT_end hh' D b1 a1 b2 a2 a3 px py hend fun h' kk => wpAny_pure (go h' fun c o hc e => kk c o ?_ ?_ ?_ ?_ e)) <;> (rintro rfl; exact hc (by simp))
    · refine wpAny_bind (PySem.pz_end hh' D b1 b2 a1 a2 a3 px py hend fun h' kk => wpAny_pure (go h' fun c o hc e => kk c o ?_ ?_ ?_ e)) <;> (rintro rfl; exact hc (by simp))
  | succ m ih =>
    intro i s H S av hm hi I fp rp mi ra zs
    have hlt : i < (xs.zip ys).length := by omega
    refine codeAny_builtin F.entry_extend_loop ?_
    rw [Around.under_plainId F.plain_extend_loop _]
    show wpAny _ A1.in1 (pyNext (.ref z) >>= _) _ _ s
    have hz := hlt
    rw [List.length_zip] at hz
    have hix : i < xs.length := Nat.lt_of_lt_of_le hz (Nat.min_le_left _ _)
    have hiy : i < ys.length := Nat.lt_of_lt_of_le hz (Nat.min_le_right _ _)
    have rx' := rx.mono mi.go.ext
    have ry' := ry.mono mi.go.ext
    obtain ⟨v, ev, rv⟩ := rx'.get (List.getElem?_eq_getElem hix)
    obtain ⟨w, ew, rw'⟩ := ry'.get (List.getElem?_eq_getElem hiy)
    obtain ⟨its, rvx, px, _⟩ := I.tuple (hK ▸ sqT_mono rp.fz (sqT_mono mi.go.ext.g tx))
    obtain ⟨its2, rvy, py, _⟩ := I.tuple (hK ▸ sqT_mono rp.fz (sqT_mono mi.go.ext.g ty))
    obtain ⟨u1, hu1, ru1⟩ := rvx.get ev
    obtain ⟨u2, hu2, ru2⟩ := rvy.get ew
    obtain ⟨a1, a2, a3, ⟨oO, aO⟩, a4⟩ := zs
    -- what is done behind the turn
    have go : ∀ h', (∀ c o, c ∉ [z, TI, TO, i1, i2] → s.heap.get? c = some o → h'.get? c = some o) → IsPair h' s.heap.objs.size u1 u2 → IsPair h' TI (.ref i1) (.ref i2) → h'.IsTupleIter i1 l1 (i + 1) → h'.IsTupleIter i2 l2 (i + 1) → (∃ o, h'.get? TO = some o) →
        (∃ T f oT, IsZipHeld h' z TI TO T f ∧ h'.get? T = some oT ∧ T ≠ z ∧ T ≠ i1 ∧ T ≠ i2 ∧ T ≠ Sa) →
        wpAny (model X.prog X.w) A1.in1 (do updateSeq Sa (·.push (.ref s.heap.objs.size)); again (.builtin "list.extend.loop" ⟨[.ref Sa, .ref z, res], []⟩)) (fun fin s' => match fin with | .done f => R (.ok f) s' | .again c' => c'.quiet = true ∧ codeAny (model X.prog X.w) A1 c' R s') (fun e s' => R (.error e) s') { s with heap := h' } := by
      intro h' kk hp hTI hi1 hi2 hO hz'
      have hT : H s.heap.objs.size = none := I.hok.fresh (Nat.le_refl _)
      have new : ObjOk X.prog X.w (upd H s.heap.objs.size (.tup [v, w])) h' s.heap.objs.size (.tup [v, w]) := ⟨by show 2 ≤ sizeLine; decide, [u1, u2], .cons ru1 (.cons ru2 .nil), ⟨_, hp, rfl, _, rfl⟩⟩
      have I1 : Inv X pins σ (upd H s.heap.objs.size (.tup [v, w])) { s with heap := h' } := I.turnedNew (t' := s.toks) kk fp (Nat.le_refl _) new
      have g1 : Go S H (S.fz s.heap.objs.size (.tup [v, w])) (upd H s.heap.objs.size (.tup [v, w])) := Go.newF (rp.free hT) hT
      have rp1 := rp.newF (o := .tup [v, w]) hT
      have m1 := mi.step g1
      have hSo : ObjOk X.prog X.w (upd H s.heap.objs.size (.tup [v, w])) h' Sa (.lst av) := I1.hok Sa _ m1.at_
      obtain ⟨_, itS, cS, rS, hSa⟩ := hSo
      have hra : av.length = i := by rw [← ra.length, List.length_map, List.length_take]; omega
      have hlS : itS.length = i := by rw [← rS.length, hra]
      have hil : i < sizeLine := Nat.lt_of_lt_of_le (Nat.lt_of_lt_of_le hlt hl) (by decide)
      refine wpAny_bind (wpAny_updateSeq hSa rfl (wpAny_pure ⟨plainId_quiet F.plain_extend_loop _, ?_⟩) (by show itS.toArray.size ≤ sizeLine; rw [List.size_toArray, hlS]; omega) (by show (itS.toArray.push (.ref s.heap.objs.size)).size ≤ sizeLine + 1; rw [Array.size_push, List.size_toArray, hlS]; omega))
      have hS2 := Heap.get?_update_self (Obj.mapSeq (·.push (Value.ref s.heap.objs.size))) hSa rfl
      have oth : ∀ b o, b ≠ Sa → h'.get? b = some o → (h'.update Sa (Obj.mapSeq (·.push (Value.ref s.heap.objs.size)))).get? b = some o := fun b o hb e => (Heap.get?_update_other _ _ (Ne.symm hb)).trans e
      have rnew : RV C (S.fz s.heap.objs.size (.tup [v, w])) (pairD (xs[i], ys[i])) (.ref s.heap.objs.size) := rv_tup.mpr ⟨_, [v, w], rfl, .inl (.inl upd_same), (RVs.cons rv (.one rw')).mono g1.ext⟩
      have ra2 : RVs C (S.fz s.heap.objs.size (.tup [v, w])) (((xs.zip ys).take (i + 1)).map pairD) (av ++ [.ref s.heap.objs.size]) := by
        have e : (xs.zip ys).take (i + 1) = (xs.zip ys).take i ++ [(xs[i], ys[i])] := by rw [List.take_succ_eq_append_getElem hlt, List.getElem_zip]
        rw [e, List.map_append]
        exact (ra.mono g1.ext).append (.one rnew)
      have I2 : Inv X pins σ (upd (upd H s.heap.objs.size (.tup [v, w])) Sa (.lst (av ++ [.ref s.heap.objs.size]))) { s with heap := h'.update Sa (Obj.mapSeq (·.push (Value.ref s.heap.objs.size))), toks := s.toks } :=
        I1.write (x := Sa) (e := Sa) (t' := s.toks) (by rw [m1.at_]; exact True.intro) (.inl rfl) oth ⟨_, hS2⟩ ⟨by rw [List.length_append, List.length_singleton, hra]; omega, itS ++ [Value.ref s.heap.objs.size], _, rS.append (.cons (show RelV (V.ref s.heap.objs.size) (Value.ref s.heap.objs.size) from rfl) .nil), by rw [hS2]; simp [Obj.mapSeq]; exact rfl⟩
      have m2 := m1.put (ws := av ++ [.ref s.heap.objs.size]) h1
      have rp2 := rp1.mine (ws := av ++ [.ref s.heap.objs.size]) m1
      refine ih (i + 1) _ _ (S.fz s.heap.objs.size (.tup [v, w])) _ (by omega) hlt I2 (fun b hb => ?_) rp2 m2 ra2 (ZS.at (h := h') ⟨hTI, hi1, hi2, hO, .inr hz'⟩ hS oth)
      have fb := fp b hb
      refine ⟨?_, fb.2⟩
      have nb : b ≠ s.heap.objs.size := by
        have lt : ∀ {c o}, s.heap.get? c = some o → c ≠ s.heap.objs.size := fun e => Nat.ne_of_lt (Heap.lt_size e)
        simp only [List.mem_cons, List.not_mem_nil, or_false] at hb
        rcases hb with q | q | q | q | q <;> subst q
        · rcases a4 with ⟨b1, _⟩ | ⟨T, f, oT, b1, _⟩ <;> exact lt b1
        · exact lt a1
        · exact lt aO
        · obtain ⟨_, e, _⟩ := a2; exact lt e
        · obtain ⟨_, e, _⟩ := a3; exact lt e
      have nS : b ≠ Sa := fun q => hS (q ▸ hb)
      rw [upd_ne nS, upd_ne nb]; exact fb.1
    rcases a4 with ⟨b1, x, y, b2⟩ | ⟨T, f, oT, b1, b2, b3, b4, b5, b6⟩
    · refine wpAny_bind (RZ.pyNext_zipT_item D b1 a1 b2 a2 a3 px py (by simpa using hu1) (by simpa using hu2) fun h' c1 c2 c3 c4 c5 c6 kk => ?_)
      have lt : ∀ {c o}, s.heap.get? c = some o → s.heap.objs.size ≠ c := fun e => Nat.ne_of_gt (Heap.lt_size e)
      exact go h' (fun c o hc e => kk c o (fun q => hc (by simp [q])) (fun q => hc (by simp [q])) (fun q => hc (by simp [q])) (fun q => hc (by simp [q])) e) c5 (kk _ _ D.TIz D.TITO D.TIi1 D.TIi2 a1) c3 c4 ⟨_, c2⟩
        ⟨s.heap.objs.size, false, _, c1, c5, lt b1, (by obtain ⟨_, e, _⟩ := a2; exact lt e), (by obtain ⟨_, e, _⟩ := a3; exact lt e), (by obtain ⟨_, itS, cS, rS, hSa⟩ := (I.hok Sa _ mi.at_ : ObjOk X.prog X.w H s.heap Sa (.lst av)); exact lt hSa)⟩
    · refine wpAny_bind (PySem.pz_item D b1 b2 a1 a2 a3 px py (by simpa using hu1) (by simpa using hu2) fun h' c1 c3 c4 c5 kk => ?_)
      exact go h' (fun c o hc e => kk c o (fun q => hc (by simp [q])) (fun q => hc (by simp [q])) (fun q => hc (by simp [q])) e) c5 (kk _ _ D.TIz D.TIi1 D.TIi2 a1) c3 c4 ⟨_, kk _ _ D.TOz D.TOi1 D.TOi2 aO⟩
        ⟨T, true, oT, c1, kk _ _ b3 b4 b5 b2, b3, b4, b5, b6⟩
end
end Px

/-! Px31: list(zip(a, b)) as an expression. -/
namespace Px
open PySem PySem.Spec PyProof.Rows L2
section
variable {X : Cx} {C : Kc} {E : L2.St → XK} {k : Nat}
def lzF (mu : Nat) (f : Fx (List D)) : Fx D := fun ρ st => (f ρ st).bind fun as st1 => match as with
  | [.tup xs, .tup ys] => mkL mu ((xs.zip ys).map pairD) st1
  | _ => .bad
/-- list(z), z a zip that was just made over two tuples -/
theorem call_lz (hX : XOk X C k E) {mu : Nat} {pins : List (Addr × Obj)} {σ : L2.St} {H : Hp} {s : Shared} {Q : VK} {S : Rp} {st : Store} {z TI TO i1 i2 l1 l2 : Addr} {xs ys : List D} {vx vy : List V} {x0 y0 : Value} (I : Inv X pins σ H s) (rp : Rep C S st H) (D : ZipApart z TI TO i1 i2 l1 l2)
    (hz : IsZip s.heap z TI TO .none) (hTI : IsPair s.heap TI (.ref i1) (.ref i2)) (hTO : IsPair s.heap TO x0 y0) (hi1 : s.heap.IsTupleIter i1 l1 0) (hi2 : s.heap.IsTupleIter i2 l2 0) (fp : ∀ b ∈ [z, TI, TO, i1, i2], FpOk X pins H b)
    (tx : SqT C.K S.G l1 vx) (rx : RVs C S xs vx) (ty : SqT C.K S.G l2 vy) (ry : RVs C S ys vy) (h : Post C (rV C) S H (mkL mu ((xs.zip ys).map pairD) st) Q (E σ)) :
    wpAny (model X.prog X.w) X.A (call (.type "list") [.ref z]) (EP X pins σ Q) X.xe s := by
  have hl := mkL_len h
  rw [List.length_map] at hl
  have hhd := I.ok.hd hX.calm
  have fpl : ∀ b ∈ [z, TI, TO, i1, i2], b < s.heap.objs.size := fun b hb => by
    simp only [List.mem_cons, List.not_mem_nil, or_false] at hb
    rcases hb with q | q | q | q | q <;> subst q
    · exact Heap.lt_size hz
    · exact Heap.lt_size hTI
    · exact Heap.lt_size hTO
    · obtain ⟨_, e, _⟩ := hi1; exact Heap.lt_size e
    · obtain ⟨_, e, _⟩ := hi2; exact Heap.lt_size e
  have hSf : s.heap.objs.size ∉ [z, TI, TO, i1, i2] := fun hm => Nat.lt_irrefl _ (fpl _ hm)
  have hSz : s.heap.objs.size ≠ z := fun e => hSf (by rw [e]; simp)
  have hnew : H s.heap.objs.size = none := I.hok.fresh (Nat.le_refl _)
  refine callType_codes (Q₁ := fun obj s₁ => obj = .ref s.heap.objs.size ∧ s₁ = { s with heap := s.heap.push { cls := .type "list", data := .seq #[] } }) F.called_list (F.typeCall_list_1 _) F.entry_list_init
    (code_list_new _ ⟨rfl, rfl⟩) fun obj s₁ h₁ => ?_
  obtain ⟨rfl, rfl⟩ := h₁
  have hS : (s.heap.push { cls := .type "list", data := .seq #[] }).get? s.heap.objs.size = some { cls := .type "list", data := .seq #[] } := Heap.get?_push_size _ rfl
  refine ⟨⟨_, hS, rfl⟩, F.args_list_init_2 _ _, ?_⟩
  show wpAny _ _ (do let old ← Builtin.List.listItems (.ref s.heap.objs.size); Builtin.List.listUpdate (.ref s.heap.objs.size) (fun _ => #[]); letGo old.toList.reverse; Builtin.List.listExtendWith (.ref s.heap.objs.size) (.ref z) .none) _ _ _
  refine wpAny_bind ?_
  unfold Builtin.List.listItems
  refine wpAny_bind (wpAny_seqItems hS rfl (wpAny_pure ?_))
  show wpAny _ _ (updateSeq s.heap.objs.size (fun _ => #[]) >>= fun _ => letGo (#[] : Array Value).toList.reverse >>= fun _ => Builtin.List.listExtendWith (.ref s.heap.objs.size) (.ref z) .none) _ _ _
  refine wpAny_bind (wpAny_updateSeq hS rfl ?_)
  have hS₂ := Heap.get?_update_self (Obj.mapSeq (fun _ => (#[] : Array Value))) hS rfl
  refine wpAny_bind (wpAny_letGo ?_)
  have k2 : ∀ b o, s.heap.get? b = some o → ((s.heap.push { cls := .type "list", data := .seq #[] }).update s.heap.objs.size (Obj.mapSeq (fun _ => (#[] : Array Value)))).get? b = some o :=
    fun b o e => (Heap.get?_update_other _ _ (Ne.symm (Nat.ne_of_lt (Heap.lt_size e)))).trans (Heap.get?_push_of_some _ e)
  have hz2 := k2 _ _ hz
  have hT : (⟨(s.heap.push { cls := .type "list", data := .seq #[] }).update s.heap.objs.size (Obj.mapSeq (fun _ => (#[] : Array Value))), s.gens, s.drawn, s.toks, s.os⟩ : Shared).TypeIs (.ref z) "zip" := ⟨_, hz2, rfl⟩
  unfold Builtin.List.listExtendWith
  refine wpAny_bind (wpAny_typeOf hT ?_)
  have h1 : Builtin.List.listSameRef (.ref s.heap.objs.size) (.ref z) = false := by simp [Builtin.List.listSameRef, hSz]
  have h2 : (Value.type "zip" == Value.type "list") = false := by decide
  have h3 : (Value.type "zip" == Value.type "tuple") = false := by decide
  simp only [h1, h2, h3, Bool.or_false, Bool.false_eq_true, if_false]
  refine wpAny_bind (wpAny_pyIter_zip hz2 ?_)
  refine wpAny_bind (wpAny_holding ?_)
  unfold Builtin.List.listLengthHint
  refine wpAny_bind (wpAny_specialOf hT no_len_zip ?_)
  show wpAny _ _ (specialOf (Value.ref z) (Str.ofString "__length_hint__") >>= _) _ _ _
  refine wpAny_bind (wpAny_specialOf hT no_hint_zip (wpAny_pure ?_))
  show wpAny _ _ (rule "list.extend.makes-room" >>= fun _ => Builtin.List.listTouch (.ref s.heap.objs.size) >>= fun _ => again (.builtin "list.extend.loop" ⟨[.ref s.heap.objs.size, .ref z, .none], []⟩)) _ _ _
  refine wpAny_bind (wpAny_rule (wpAny_bind ?_))
  show wpAny _ _ (updateSeq s.heap.objs.size (·.push .none) >>= fun _ => updateSeq s.heap.objs.size (·.pop)) _ _ _
  refine wpAny_bind (wpAny_updateSeq hS₂ rfl ?_)
  have hS₃ := Heap.get?_update_self (Obj.mapSeq (·.push Value.none)) hS₂ rfl
  refine wpAny_updateSeq (hz := by seq_fits) hS₃ rfl ?_
  have hS₄ := Heap.get?_update_self (Obj.mapSeq (·.pop)) hS₃ rfl
  generalize hG : ((((s.heap.push { cls := .type "list", data := .seq #[] }).update s.heap.objs.size (Obj.mapSeq (fun _ => (#[] : Array Value)))).update s.heap.objs.size (Obj.mapSeq (·.push Value.none))).update s.heap.objs.size (Obj.mapSeq (·.pop))) = G at hS₄
  have k4 : ∀ b o, s.heap.get? b = some o → G.get? b = some o := fun b o e => by
    have nb := Ne.symm (Nat.ne_of_lt (Heap.lt_size e))
    rw [← hG]
    exact (Heap.get?_update_other _ _ nb).trans ((Heap.get?_update_other _ _ nb).trans (k2 b o e))
  have I1 : Inv X pins σ (upd H s.heap.objs.size (.lst [])) { s with heap := G } := I.laid (t' := s.toks) k4 (Nat.le_refl _) ⟨Nat.zero_le _, [], _, .nil, hS₄⟩
  have mi : Mine S H S (upd H s.heap.objs.size (.lst [])) s.heap.objs.size [] := ⟨Go.drop hnew, upd_same, rp.free hnew, rp.notin hnew⟩
  refine wpAny_pure ⟨plainId_quiet F.plain_extend_loop _, lz_loop (X := X) (C := C) (st := st) (xs := xs) (ys := ys) (vx := vx) (vy := vy) (S1 := S) (H1 := H) (pins := pins) (σ := σ) (A1 := X.A.in1) (show X.A.in1.handled = none from hhd) hX.K D hSf hnew tx rx ty ry hl (fun s' H' S' av I' rp' mi' ra' => ?_) _ 0 _ _ S [] rfl (Nat.zero_le _) I1 (fun b hb => ?_) (rp.drop hnew) mi (by rw [List.take_zero]; exact .nil) ⟨k4 _ _ hTI, hi1.at fun o e => k4 _ o e, hi2.at fun o e => k4 _ o e, ⟨_, k4 _ _ hTO⟩, .inl ⟨k4 _ _ hz, _, _, k4 _ _ hTO⟩⟩⟩
  · exact ⟨rfl, .ref s.heap.objs.size, H', I', rfl, mine_end rp' mi' hnew ra' h⟩
  · have fb := fp b hb
    have nb : b ≠ s.heap.objs.size := fun q => hSf (by rw [← q]; exact hb)
    exact ⟨by rw [upd_ne nb]; exact fb.1, fb.2⟩
theorem se_lz {mu : Nat} {f : Fx (List D)} {a b : Expr} {p p2 pos pos2 : Pos} (hX : XOk X C k E) (hg : Gl X "list") (hm : X.mg "list" = none) (hg2 : Gl X "zip") (hm2 : X.mg "zip" = none) (ha : SA X C E f [a, b])
    (hs : starEach [a, b] X.env = (false, eval a X.env) :: starEach [b] X.env) (hpl : (backTo pos2 (starEach [b] X.env)).any (·.1) = false)
    (na : starEach [.Call (.Name "zip" p2) [a, b] [] pos2] X.env = (false, eval (.Call (.Name "zip" p2) [a, b] [] pos2) X.env) :: starEach [] X.env) :
    SE X C E (lzF mu f) (.Call (.Name "list" p) [.Call (.Name "zip" p2) [a, b] [] pos2] [] pos) := by
  refine ⟨fun pins s σ H Q I h => ?_⟩
  obtain ⟨S, ρ, st, rp, rn, h⟩ := h
  refine Call_ (ld_blt I hg hm boot_list (PyProof.Rows.callWith_type1 (args_cons (Call_ (ld_blt I hg2 hm2 PyProof.Rows.boot_zip (PyProof.Rows.callWith_type1 (sa_step ha I rp rn (rel2 := rV C) h fun us s1 vs H1 S1 st1 ds I1 r1 g1 rp1 rv1 h1 => ?_) hs hpl))) na) na))
  rcases ds with _ | ⟨d1, _ | ⟨d2, _ | ⟨d3, t⟩⟩⟩ <;> first | exact Post.bad (C := C) h1 | skip
  · cases d1 <;> exact Post.bad (C := C) h1
  rotate_left
  · cases d1 <;> first | exact Post.bad (C := C) h1 | (cases d2 <;> exact Post.bad (C := C) h1)
  cases d1 <;> first | exact Post.bad (C := C) h1 | skip
  case tup xs =>
    cases d2 <;> first | exact Post.bad (C := C) h1 | skip
    case tup ys =>
      obtain ⟨v, w, rfl, rva, rvb⟩ := rvs2 rv1
      obtain ⟨l1, vx, rfl, tx, rx⟩ := rv_tup.mp rva
      obtain ⟨l2, vy, rfl, ty, ry⟩ := rv_tup.mp rvb
      cases r1 with
      | cons ra rr =>
        cases rr with
        | cons rb rr =>
          cases rr
          cases ra
          cases rb
          obtain ⟨its, rvx, p1, _⟩ := I1.tuple (hX.K ▸ sqT_mono rp1.fz tx)
          obtain ⟨its2, rvy, p2, _⟩ := I1.tuple (hX.K ▸ sqT_mono rp1.fz ty)
          obtain ⟨o1, ho1, _⟩ := id p1
          obtain ⟨o2, ho2, _⟩ := id p2
          refine RZ.call_zipT (show s1.heap.IsTuple l1 its.toArray from p1) (show s1.heap.IsTuple l2 its2.toArray from p2) fun h' hz hTI hTO h1' h2' hsz hk => args_nil ?_
          have I2 : Inv X pins σ H1 { s1 with heap := h' } := I1.kept (t' := s1.toks) hk
          refine call_lz hX (mu := mu) I2 rp1 (PySem.W.ktu_apart s1.heap.objs.size l1 l2 (Heap.lt_size ho1) (Heap.lt_size ho2)) hz hTI hTO h1' h2' (fun c hcm => ?_) tx rx ty ry h1
          have hle : s1.heap.objs.size ≤ c := by
            simp only [List.mem_cons, List.not_mem_nil, or_false] at hcm
            rcases hcm with q | q | q | q | q <;> rw [q] <;> first | exact Nat.le_add_right _ _ | exact Nat.le_refl _
          exact I1.fpOk hle (I1.hok.fresh hle)
end
end Px

/-! Px32: isinstance with own classes and of objects; three names at once; len of an object. -/
namespace Px
open PySem PySem.Spec PyProof.Rows L2
section
variable {X : Cx} {C : Kc} {E : L2.St → XK} {k : Nat} {A f : Addr} {fd : FuncData} {Fu : Fn}
/-- isinstance(x, t), t a built-in type, x anything -/
def isinQ (oc : List Str) (t : String) (f : Fx D) : Fx D := fun ρ st => (f ρ st).bind fun x st1 => match tyOf st1 x with
  | some (.b n) => if tyNames.contains t then .ok (.bl (n == t || (n == "bool" && t == "int"))) st1 else .bad
  | some (.c c) => if tyNames.contains t && oc.contains c then .ok (.bl false) st1 else .bad
  | none => .bad
theorem ty_ins {H : Hp} {a dx : Addr} {fs : List (Str × V)} (cf : ClsF X.K A) (h : H a = some (.ins A dx fs)) : TyX X.K H (.ref a) (.ref A) := .base (.ins h cf.c cf.ha cf.hn cf.ht cf.hm)
theorem se_isinQ {oc : List Str} {t : String} {tn : Str} {f : Fx D} {e : Expr} {p p2 pos : Pos} (hX : XOk X C k E) (ho : Ocs C oc) (he : SE X C E f e) (hg : Gl X "isinstance") (hm : X.mg "isinstance" = none) (hg2 : Gl X tn) (hm2 : X.mg tn = none) (hb : bootBuiltins tn = some (.type t)) (hn : tn ≠ "__name__") (hd : (tn == ("__debug__" : Str)) = false)
    (hs : starEach [e, .Name tn p2] X.env = (false, eval e X.env) :: starEach [.Name tn p2] X.env) (hs2 : starEach [.Name tn p2] X.env = (false, eval (.Name tn p2) X.env) :: starEach [] X.env) (hpl : (backTo pos (starEach [.Name tn p2] X.env)).any (·.1) = false) :
    SE X C E (isinQ oc t f) (.Call (.Name "isinstance" p) [e, .Name tn p2] [] pos) :=
  PE.weak (pe_callB call_isi hg hm (by decide +kernel) (pa_cons he (pa_cons (pe_bltn (v := .ty t) hg2 hm2 hb rfl hn hd) pa_nil hs2) hs) (by decide) (by decide) hs hpl) fun σ H Q q => by
    obtain ⟨S, ρ, st, rp, rn, q⟩ := q
    refine ⟨S, ρ, st, rp, rn, Post.bind (rel2 := rV C) q fun d st1 S1 H1 v g1 rp1 rv1 h1 => ?_⟩
    cases z : tyOf st1 d with
    | none => rw [z] at h1; exact h1.bad
    | some y =>
      rw [z] at h1
      cases y with
      | c x =>
        obtain ⟨hc, h1⟩ := post_ite h1
        rw [Bool.and_eq_true] at hc
        obtain ⟨a, A, dx, fs, rfl, h3, h4⟩ := ty_obj rp1 rv1 z
        obtain ⟨A', h5, cf⟩ := ho.at_ x (by simpa using hc.2)
        rw [h3] at h5; cases h5
        rw [← hX.K] at cf
        exact ⟨.ref a, .ty t, .ref A, .type t, _, rfl, .ty t, ty_ins cf h4, cf.nt t (by simpa using hc.1), post_same h1 rp1 (rv_bl.mpr rfl)⟩
      | b n =>
        obtain ⟨hc, h1⟩ := post_ite h1
        obtain ⟨hm, ty⟩ := ty_rv hX rp1 rv1 z
        exact ⟨v, .ty t, .type n, .type t, _, rfl, .ty t, ty, kit_all n hm t (by simpa using hc), post_same h1 rp1 (rv_bl.mpr rfl)⟩
/-- isinstance(x, c), c an own class -/
def isinC (oc : List Str) (c : Str) (f : Fx D) : Fx D := fun ρ st => (f ρ st).bind fun x st1 => match tyOf st1 x with
  | some (.b _) => .ok (.bl false) st1
  | some (.c d) => if oc.contains d then .ok (.bl (decide (d = c))) st1 else .bad
  | none => .bad
theorem se_isinC {oc : List Str} {c : Str} {f : Fx D} {e : Expr} {p p2 pos : Pos} (hX : XOk X C k E) (ho : Ocs C oc) (hc : c ∈ oc) (hA : C.cm c = some A) (he : SE X C E f e) (hg : Gl X "isinstance") (hm : X.mg "isinstance" = none) (hg2 : Gl X c) (hm2 : X.mg c = some (.ref A)) (hd : (c == ("__debug__" : Str)) = false)
    (hs : starEach [e, .Name c p2] X.env = (false, eval e X.env) :: starEach [.Name c p2] X.env) (hs2 : starEach [.Name c p2] X.env = (false, eval (.Name c p2) X.env) :: starEach [] X.env) (hpl : (backTo pos (starEach [.Name c p2] X.env)).any (·.1) = false) :
    SE X C E (isinC oc c f) (.Call (.Name "isinstance" p) [e, .Name c p2] [] pos) := by
  obtain ⟨A', h5, cf⟩ := ho.at_ c hc
  rw [hA] at h5; cases h5
  exact PE.weak (pe_callB call_isi hg hm (by decide +kernel) (pa_cons he (pa_cons (pe_glob (v := .ref A) hg2 hm2 rfl hd) pa_nil hs2) hs) (by decide) (by decide) hs hpl) fun σ H Q q => by
    obtain ⟨S, ρ, st, rp, rn, q⟩ := q
    refine ⟨S, ρ, st, rp, rn, Post.bind (rel2 := rV C) q fun d st1 S1 H1 v g1 rp1 rv1 h1 => ?_⟩
    cases z : tyOf st1 d with
    | none => rw [z] at h1; exact h1.bad
    | some y =>
      rw [z] at h1
      cases y with
      | c x =>
        obtain ⟨hx, h1⟩ := post_ite h1
        have hx : x ∈ oc := by simpa using hx
        obtain ⟨a, B, dx, fs, rfl, h3, h4⟩ := ty_obj rp1 rv1 z
        obtain ⟨B', h6, cf'⟩ := ho.at_ x hx
        rw [h3] at h6; cases h6
        rw [← hX.K] at cf'
        have e2 := (ho.two x hx c hc B A h3 hA).1
        rw [← hX.K] at e2
        exact ⟨.ref a, .ref A, .ref B, .ref A, _, rfl, .own A, ty_ins cf' h4, e2, post_same h1 rp1 (rv_bl.mpr rfl)⟩
      | b n =>
        obtain ⟨hm, ty⟩ := ty_rv hX rp1 rv1 z
        have e2 := cf.tn n hm
        rw [← hX.K] at e2
        exact ⟨v, .ref A, .type n, .ref A, _, rfl, .own A, ty, e2, post_same h1 rp1 (rv_bl.mpr rfl)⟩
/-- a, b, c = x, y, z: plain names -/
def par3F (i j l : Nat) (f : Fx (List D)) : FS := runE f fun ds ρ st => match ds with
  | [a, b, c] => .ok (.nx (((ρ.set i (some a)).set j (some b)).set l (some c))) st
  | _ => .bad
theorem rvs3 {S : Rp} {a b c : D} {vs : List V} (h : RVs C S [a, b, c] vs) : ∃ u v w, vs = [u, v, w] ∧ RV C S a u ∧ RV C S b v ∧ RV C S c w := by
  rw [RVs] at h
  obtain ⟨u, r, rfl, h1, h2⟩ := h
  obtain ⟨v, w, rfl, h3, h4⟩ := rvs2 h2
  exact ⟨u, v, w, rfl, h1, h3, h4⟩
theorem ss_par3 {i j l : Nat} {x y z : Str} {a b c : Expr} {f : Fx (List D)} {px py pz pt pos pt2 : Pos} {kt k2 : Nat} (hX : XOk X C k E) (hi : X.N[i]? = some x) (hj : X.N[j]? = some y) (hl : X.N[l]? = some z) (hij : i ≠ j) (hil : i ≠ l) (hjl : j ≠ l)
    (hx : X.env.scope.names.lookup x = some .local) (hy : X.env.scope.names.lookup y = some .local) (hz : X.env.scope.names.lookup z = some .local) (ha : SA X C E f [a, b, c])
    (hw : swappedStores [.Tuple [.Name x px, .Name y py, .Name z pz] kt pt] (.Tuple [a, b, c] k2 pt2) X.env = pure (some [x, y, z]))
    (hs : swapsWithSole [.Tuple [.Name x px, .Name y py, .Name z pz] kt pt] (.Tuple [a, b, c] k2 pt2) pos.line X.env = pure false) :
    SS X C E (par3F i j l f) (.Assign [.Tuple [.Name x px, .Name y py, .Name z pz] kt pt] (.Tuple [a, b, c] k2 pt2) pos) :=
  PS.weak (ps_par3 hX.calm hX.nd hi hj hl hij hil hjl hx hy hz ha hw hs) fun D σ H ⟨S, ρ, st, rp, rn, h⟩ => ⟨S, ρ, st, rp, rn, runE_post rn h fun ds st' S' H' vs g1 rp' rv h' => by
    rcases ds with _ | ⟨d1, _ | ⟨d2, _ | ⟨d3, _ | ⟨d4, t⟩⟩⟩⟩ <;> first | exact PostS.bad (C := C) h' | skip
    obtain ⟨u, v, w, rfl, h1, h2, h3⟩ := rvs3 rv
    exact ⟨u, v, w, rfl, postS_nx h' rp' (((((rn.mono g1.ext).set h1).set h2).set h3))⟩⟩
end
end Px

/-! Px33: what is caught: err.attr, isinstance(err, C); the suite's statements. -/
namespace PySem.W
open PySem PySem.Spec PySem.Calls PyProof.Rows
section
variable {prog : Program} {w : World} {A : Around} {E : Value → Shared → Prop} {s : Shared} {K : Frag} {x D : Addr} {ox : Obj} {od : Option Obj}
/-- err.__class__ of an own error that may have attributes -/
theorem px_excClass {Q : Option Value → Shared → Prop} (c : L2.ExcC K D) (X : K.In s.heap) (I : InstAt s.heap x ox D od) (hf : findObj K D od "__class__" = some (.bind (.builtin "getset_descriptor.__get__") (.builtin "object.__class__")))
    (h : Q (some (.ref D)) { s with toks := s.toks + 1 }) : wpAny (model prog w) A (getAttr? (.ref x) "__class__") Q E s := by
  obtain ⟨hp, g, d, t, os⟩ := s
  have L0 := I.type (M := model prog w)
  have La := looks_findIn (M := model prog w) X c.hg
  have Lb := looks_findIn (M := model prog w) X c.hk
  have Lc := looks_find (M := model prog w) X I hf
  have sub : Looks (model prog w) hp (isInstance (.ref x) (.type "BaseException")) true := L0.andThen (looks_subIn X c.hs)
  have n1 : (Value.builtin "BaseException.__getattribute__" == Value.builtin "object.__getattribute__") = false := by decide +kernel
  have n2 : (onTheHeap (Value.ref D) && Value.builtin "BaseException.__getattribute__" == Value.builtin "object.__getattribute__") = false := by rw [n1]; rfl
  have n0 : (false && onTheHeap (Value.builtin "BaseException.__getattribute__")) = false := rfl
  unfold getAttr? getAttrBy? getAttrBy
  refine wpAny_bind (wpAny_mkText (wpAny_bind (wpAny_attempt (wpAny_holding (wpAny_bind (L0.at (wpAny_bind (La.at ?_))))))))
  show wpAny _ _ (if (onTheHeap (Value.ref D) && Value.builtin "BaseException.__getattribute__" == Value.builtin "object.__getattribute__") = true then _ else _) _ _ _
  rw [n2, if_neg Bool.false_ne_true]
  unfold getAttrByItsOwn hookBefore
  refine wpAny_bind ?_
  rw [if_pos (show onTheHeap (Value.ref D) = true from rfl)]
  refine Lb.at (wpAny_bind (wpAny_attempt (wpAny_holding ?_)))
  unfold callGetattribute
  rw [n0, if_neg Bool.false_ne_true]
  unfold boundAndCalled
  rw [PySem.F.excAttr_ValueError.ga.bind (.ref x)]
  refine wpAny_bind (wpAny_pure ?_)
  show wpAny _ _ (call (.builtin "BaseException.__getattribute__") [.ref x, .str "__class__" t]) _ _ _
  refine wpAny_call (codeAny_call_builtin PySem.F.excAttr_ValueError.ga.plain PySem.F.entry_bexc_ga ?_)
  refine @check_slot (model prog w) _ _ ⟨hp, g, d, t + 1, os⟩ "BaseException.__getattribute__" "BaseException" "__getattribute__" (.ref x) [.str "__class__" t] [] _ (by decide +kernel) (by decide +kernel) sub (PySem.F.args_bexc_ga (.ref x) (.str "__class__" t)) ?_
  unfold Builtin.«object.__getattribute__»
  refine wpAny_bind (wpAny_of_eq (a := ((Value.ref x : Value), [Value.str "__class__" t])) (by first | rfl | (simp only [slotArgs]; rfl)) ?_)
  refine wpAny_bind (wpAny_pure (wpAny_bind (L0.at (wpAny_bind (Lc.at ?_)))))
  show wpAny _ _ (holding [Value.builtin "object.__class__"] (call (.builtin "getset_descriptor.__get__") [.builtin "object.__class__", .ref x, .ref D]) >>= ret) _ _ _
  refine wpAny_bind (wpAny_holding (wpAny_call (class_get (s := ⟨hp, g, d, t + 1, os⟩) (ox := ox) (od := od) X I c.hm (wpAny_pure ?_))))
  show wpAny _ _ (handedOut (.ref D)) _ _ _
  rw [handedOut_of (v := .ref D) rfl]
  first
    | exact wpAny_pure (wpAny_pure h)
    | exact wpAny_pure h
    | exact wpAny_pure (wpAny_bind (wpAny_pure (wpAny_pure h)))
theorem px_kitExc (c : L2.ExcC K D) (hf : findObj K D od "__class__" = some (.bind (.builtin "getset_descriptor.__get__") (.builtin "object.__class__"))) : KitX K (.ref x) (.ref D) (fun h => InstAt h x ox D od) where
  ty := fun _ _ _ I => I.type
  it := fun M h X I => by
    obtain ⟨cdD, hcD, _⟩ := any_some c.hd
    unfold clsIn at hcD
    split at hcD
    · rename_i c' d' cd' sl' ho
      intro A' Q' E' s' k q
      unfold isType loadHead
      exact wpAny_bind (wpAny_loadPart (k _ _ (X _ _ ho)) (wpAny_pure q))
    · cases hcD
  ne := (handS_kitx_exc (x := x) (ox := ox) c.hg c.hk c.hs c.hd c.ha c.hn c.ht c.hm).ne
  ca := fun X I k => px_excClass c X I hf k
end
end PySem.W
namespace Px
open PySem PySem.Spec PyProof.Rows L2
section
variable {X : Cx} {C : Kc} {E : L2.St → XK} {k : Nat}
/-- what is read in a suite: of what was caught (class, attributes' names and values) -/
abbrev Xx (α : Type) := Str → List Str → List D → Fx α
def tX {α β : Type} (C : Kc) (rel : Rel α β) (a : Addr) (cls : Value) (dd : Option Addr) (i : Nat) (f : Xx α) : L2.St → Hp → (β → Hp → Prop) → Prop :=
  fun σ H Q => ∃ S ρ st c ns us, Rep C S st H ∧ REnv C S ρ σ ∧ σ[i]? = some (some (.ref a)) ∧ XR C S c ns us cls dd ∧ Post C rel S H (f c ns us ρ st) Q (fun _ _ _ => False)
abbrev SX (X : Cx) (C : Kc) (a : Addr) (cls : Value) (dd : Option Addr) (i : Nat) (f : Xx D) (e : Expr) : Prop := PE X e (tX C (rV C) a cls dd i f)
abbrev SXs (X : Cx) (C : Kc) (a : Addr) (cls : Value) (dd : Option Addr) (i : Nat) (f : Xx (List D)) (e : List Expr) : Prop := PA X e (tX C (rVs C) a cls dd i f)
theorem XR.mono {S S' : Rp} (e : Ext S S') {c : Str} {ns : List Str} {us : List D} {cls : Value} {dd : Option Addr} (h : XR C S c ns us cls dd) : XR C S' c ns us cls dd := by
  obtain ⟨A, h1, h2, h3⟩ := h
  refine ⟨A, h1, h2, ?_⟩
  rcases h3 with ⟨dx, fs, q1, q2, q3, q4⟩ | q
  · exact .inl ⟨dx, fs, q1, e.g _ _ q2, q3, q4.mono e⟩
  · exact .inr q
variable {a : Addr} {cls : Value} {dd : Option Addr} {i : Nat}
/-- what does not look at it -/
theorem x_plain {f : Fx D} {e : Expr} (h : SE X C (fun _ => fun _ _ _ => False) f e) : SX X C a cls dd i (fun _ _ _ => f) e := PE.weak h fun σ H Q ⟨S, ρ, st, c, ns, us, rp, rn, _, _, q⟩ => ⟨S, ρ, st, rp, rn, q⟩
def xnilF : Xx (List D) := fun _ _ _ => nilF
def xconsF (f : Xx D) (g : Xx (List D)) : Xx (List D) := fun c ns us => consF (f c ns us) (g c ns us)
theorem xa_nil : SXs X C a cls dd i xnilF [] := PA.weak pa_nil fun σ H Q ⟨S, ρ, st, c, ns, us, rp, rn, _, _, q⟩ => Post.end_ (C := C) (rel := rVs C) q (.refl S H) rp .nil
theorem xa_cons {f : Xx D} {g : Xx (List D)} {e : Expr} {es : List Expr} (he : SX X C a cls dd i f e) (hs : SXs X C a cls dd i g es) (hst : starEach (e :: es) X.env = (false, eval e X.env) :: starEach es X.env) : SXs X C a cls dd i (xconsF f g) (e :: es) :=
  PA.weak (pa_cons he hs hst) fun σ H Q ⟨S, ρ, st, c, ns, us, rp, rn, hi, xr, q⟩ => by
    refine ⟨S, ρ, st, c, ns, us, rp, rn, hi, xr, Post.bind (rel2 := rVs C) q fun d st1 S1 H1 v g1 rp1 rv1 h1 => ?_⟩
    refine ⟨S1, ρ, st1, c, ns, us, rp1, rn.mono g1.ext, hi, xr.mono g1.ext, Post.bind (rel2 := rVs C) h1 fun ds st2 S2 H2 vs g2 rp2 rv2 h2 => ?_⟩
    exact Post.end_ (C := C) (rel := rVs C) h2 (.refl S2 H2) rp2 (.cons (RV.mono g2.ext rv1) rv2)
def xtupF (f : Xx (List D)) : Xx D := fun c ns us => tupF (f c ns us)
def xlstF (mu : Nat) (f : Xx (List D)) : Xx D := fun c ns us => lstF mu (f c ns us)
theorem x_tup {f : Xx (List D)} {es : List Expr} {x1 : Nat} {pos : Pos} (h : SXs X C a cls dd i f es) : SX X C a cls dd i (xtupF f) (.Tuple es x1 pos) :=
  PE.weak (pe_tup h) fun σ H Q ⟨S, ρ, st, c, ns, us, rp, rn, hi, xr, q⟩ => by
    refine ⟨S, ρ, st, c, ns, us, rp, rn, hi, xr, Post.bind (rel2 := rV C) q fun ds st1 S1 H1 vs g1 rp1 rv1 h1 => ?_⟩
    have hl := mkT_len h1
    exact ⟨by rw [← rv1.length]; exact lim_line hl, fun p hp => tup_new (mkT_ok h1) rp1 rv1 hp⟩
theorem x_lst {mu : Nat} {f : Xx (List D)} {es : List Expr} {pos : Pos} (h : SXs X C a cls dd i f es) : SX X C a cls dd i (xlstF mu f) (.List es pos) :=
  PE.weak (pe_lst h) fun σ H Q ⟨S, ρ, st, c, ns, us, rp, rn, hi, xr, q⟩ => by
    refine ⟨S, ρ, st, c, ns, us, rp, rn, hi, xr, Post.bind (rel2 := rV C) q fun ds st1 S1 H1 vs g1 rp1 rv1 h1 => ?_⟩
    have hl := mkL_len h1
    exact ⟨by rw [← rv1.length]; exact lim_line hl, fun p hp => mkL_post h1 rp1 rv1 hp⟩
def xiteF (t f g : Xx D) : Xx D := fun c ns us => iteF (t c ns us) (f c ns us) (g c ns us)
theorem x_ite {K : PySem.W.Frag} {t f g : Xx D} {ct ca cb : Expr} {pos : Pos} (hK : X.K = C.K) (hc : SX X C a cls dd i t ct) (ha : SX X C a cls dd i f ca) (hb : SX X C a cls dd i g cb)
    (he : ∀ whole, isTrue ct X.env whole = (do let v ← whole; standAt ct.pos; holding [v] (truthy v))) : SX X C a cls dd i (xiteF t f g) (.IfExp ct ca cb pos) :=
  PE.weak (pe_ifExp (pt_truth hc he) ha hb) fun σ H Q ⟨S, ρ, st, c, ns, us, rp, rn, hi, xr, q⟩ => by
    refine ⟨S, ρ, st, c, ns, us, rp, rn, hi, xr, Post.bind (rel2 := rV C) q fun d st1 S1 H1 v g1 rp1 rv1 h1 => ?_⟩
    cases z : truth st1 d with
    | none => simp only [z] at h1; exact h1.bad
    | some b =>
      simp only [z] at h1
      refine ⟨b, truth_rv hK rp1 rv1 z, ?_⟩
      cases b with
      | true => exact ⟨S1, ρ, st1, c, ns, us, rp1, rn.mono g1.ext, hi, xr.mono g1.ext, h1⟩
      | false => exact ⟨S1, ρ, st1, c, ns, us, rp1, rn.mono g1.ext, hi, xr.mono g1.ext, h1⟩
/-- err.n: what the attribute holds -/
def xattrF (cl n : Str) : Xx D := fun c ns us _ st => if c = cl then ofO (lookN n ns us) st else .bad
theorem x_attr {cl n x : Str} {Ca : Addr} {oe : Obj} {pn : List (Addr × Obj)} {pos p2 : Pos} (hA : C.cm cl = some Ca) (T : XfC X.K Ca) (hno : PySem.W.findIn X.K (.ref Ca) n = some none) (hz : Zc cls dd oe) (hf : ∃ vs, oe.data = .fields vs)
    (hN : X.N[i]? = some x) (hv : Vis X.env.scope x) (hd : (x == ("__debug__" : Str)) = false) (hcd : (x == ("__classdict__" : Str)) = false) (hb : attributeBase (.Name x p2) n X.env (eval (.Name x p2) X.env) = eval (.Name x p2) X.env) :
    SX (X.suite a ((a, oe) :: pn)) C a cls dd i (xattrF cl n) (.Attribute (.Name x p2) n pos) :=
  PE.weak (pe_xf T hno hz hf (pe_var (X := X.suite a ((a, oe) :: pn)) hN hv hd hcd) hb) fun σ H Q ⟨S, ρ, st, c, ns, us, rp, rn, hi, xr, q⟩ => by
    refine ⟨.ref a, hi, rfl, ?_⟩
    unfold xattrF at q
    obtain ⟨hc, qa⟩ := post_ite q
    obtain ⟨d, e, qb⟩ := post_ofO qa
    obtain ⟨A, h1, h2, h3⟩ := xr
    rw [hc, hA] at h1; cases h1
    rcases h3 with ⟨dx, fs, q1, q2, rfl, q4⟩ | ⟨q1, rfl, rfl⟩
    · obtain ⟨u, q5, q6⟩ := lookN_rv q4 e
      exact ⟨h2, dx, fs, u, q1, rp.fz _ _ q2, q5, post_same qb rp q6⟩
    · cases e
theorem call_isX {Dd : Addr} {oe : Obj} {pn : List (Addr × Obj)} (cE : ExcC X.K Dd) (hz : Zc (.ref Dd) dd oe) (hf : ∃ vs, oe.data = .fields vs) : CallR (X.suite a ((a, oe) :: pn)) (.builtin "isinstance")
    (fun xs H Q => ∃ (c : V) (cv : Value) (b : Bool), xs = [.ref a, c] ∧ (∀ u, RelV c u → u = cv) ∧ PySem.W.kitOne X.K (.ref Dd) cv = some b ∧ (dd = none ∨ ∃ dx fs, dd = some dx ∧ H dx = some (.xd fs)) ∧ Q (.bl b) H) := by
  intro pins s σ H xs us Q I r h
  obtain ⟨c, cv, b, rfl, hcv, e, hdd, q⟩ := h
  cases r with
  | cons rx rr =>
    cases rr with
    | cons rt rr =>
      cases rr
      cases rx
      have ec := hcv _ rt
      subst ec
      obtain ⟨hget, _⟩ := I.pin (a, oe) (List.mem_append.mpr (.inl List.mem_cons_self))
      obtain ⟨vs, hv⟩ := hf
      obtain ⟨oc, od, oda, osl⟩ := oe
      obtain ⟨h1, h2⟩ := hz
      dsimp only at h1 h2 hv
      subst h1 h2 hv
      obtain ⟨cdD, hcD, _⟩ := PySem.W.any_some cE.hd
      have hcls : (PySem.W.clsIn X.K Dd).isSome = true := by rw [hcD]; rfl
      rcases hdd with rfl | ⟨dx, fs, rfl, hx⟩
      · have J : PySem.W.InstAt s.heap a ⟨.ref Dd, none, .fields vs, osl⟩ Dd none := ⟨hget, rfl, rfl, trivial⟩
        exact PySem.W.kia_one (PySem.W.px_kitExc cE (PySem.W.findObj_dataN hcls cE.ha cE.hn cE.ht)) I.kIn J e (fun z => nomatch z) fun tk => ⟨.bl b, H, I.kept (t' := tk) fun _ _ z => z, rfl, q⟩
      · have hx2 : ObjOk X.prog X.w H s.heap dx (.xd fs) := I.hok dx _ hx
        obtain ⟨mA, hns, hr⟩ := hx2
        obtain ⟨oD, ho, hl⟩ := lookIn_ns hns
        have J : PySem.W.InstAt s.heap a ⟨.ref Dd, some dx, .fields vs, osl⟩ Dd (some oD) := ⟨hget, rfl, rfl, ho⟩
        exact PySem.W.kia_one (PySem.W.px_kitExc cE (PySem.W.findObj_data hcls cE.ha cE.hn cE.ht)) I.kIn J e (fun z => nomatch z) fun tk => ⟨.bl b, H, I.kept (t' := tk) fun _ _ z => z, rfl, q⟩
/-- isinstance(err, an own class of errors) -/
def xisinF (cl : Str) (b : Bool) : Xx D := fun c _ _ _ st => if c = cl then .ok (.bl b) st else .bad
theorem x_isin {cl x y : Str} {b : Bool} {Ca B : Addr} {oe : Obj} {pn : List (Addr × Obj)} {p p2 p3 pos : Pos} (hA : C.cm cl = some Ca) (cE : ExcC X.K Ca) (hk : PySem.W.kitOne X.K (.ref Ca) (.ref B) = some b) (hz : Zc cls dd oe) (hf : ∃ vs, oe.data = .fields vs)
    (hN : X.N[i]? = some x) (hv : Vis X.env.scope x) (hd : (x == ("__debug__" : Str)) = false) (hcd : (x == ("__classdict__" : Str)) = false)
    (hg : Gl X "isinstance") (hm : X.mg "isinstance" = none) (hg2 : Gl X y) (hm2 : X.mg y = some (.ref B)) (hd2 : (y == ("__debug__" : Str)) = false)
    (hs : starEach [.Name x p2, .Name y p3] X.env = (false, eval (.Name x p2) X.env) :: starEach [.Name y p3] X.env) (hs2 : starEach [.Name y p3] X.env = (false, eval (.Name y p3) X.env) :: starEach [] X.env) (hpl : (backTo pos (starEach [.Name y p3] X.env)).any (·.1) = false) :
    SX (X.suite a ((a, oe) :: pn)) C a cls dd i (xisinF cl b) (.Call (.Name "isinstance" p) [.Name x p2, .Name y p3] [] pos) := by
  by_cases hc : cls = .ref Ca
  · subst hc
    exact PE.weak (pe_callB (X := X.suite a ((a, oe) :: pn)) (call_isX cE hz hf) hg hm (by decide +kernel) (pa_cons (pe_var (X := X.suite a ((a, oe) :: pn)) hN hv hd hcd) (pa_cons (pe_glob (X := X.suite a ((a, oe) :: pn)) (v := .ref B) hg2 hm2 rfl hd2) pa_nil hs2) hs) (by decide) (by decide) hs hpl) fun σ H Q ⟨S, ρ, st, c, ns, us, rp, rn, hi, xr, q⟩ => by
      refine ⟨.ref a, hi, ?_⟩
      unfold xisinF at q
      obtain ⟨hc, q⟩ := post_ite q
      obtain ⟨A, h1, h2, h3⟩ := xr
      refine ⟨.ref B, .ref B, b, rfl, fun u r => r, hk, ?_, post_same q rp (rv_bl.mpr rfl)⟩
      rcases h3 with ⟨dx, fs, q1, q2, _, _⟩ | ⟨q1, _, _⟩
      · exact .inr ⟨dx, fs, q1, rp.fz _ _ q2⟩
      · exact .inl q1
  · refine ⟨fun pins s σ H Q I h => ?_⟩
    obtain ⟨S, ρ, st, c, ns, us, rp, rn, hi, xr, q⟩ := h
    unfold xisinF at q
    obtain ⟨hc2, q⟩ := post_ite q
    obtain ⟨A, h1, h2, h3⟩ := xr
    rw [hc2, hA] at h1; cases h1
    exact absurd h2 hc
end
end Px

/-! Px34: try: body, except C as err: one statement. -/
namespace Px
open PySem PySem.Spec PyProof.Rows L2
abbrev XS := Str → List Str → List D → FS
def EFs : L2.St → XK := fun _ _ _ _ => False
section
variable {X : Cx} {C : Kc} {E : L2.St → XK} {k : Nat} {a : Addr} {cls : Value} {dd : Option Addr} {i : Nat}
def tSU (C : Kc) (a : Addr) (cls : Value) (dd : Option Addr) (i : Nat) (f : XS) : TS := fun D σ H => ∃ S ρ st c ns us, Rep C S st H ∧ REnv C S ρ σ ∧ σ[i]? = some (some (.ref a)) ∧ XR C S c ns us cls dd ∧ PostS C EFs D S H (f c ns us ρ st)
abbrev SU (X : Cx) (C : Kc) (a : Addr) (cls : Value) (dd : Option Addr) (i : Nat) (f : XS) (s : Stmt) : Prop := PS X s (tSU C a cls dd i f)
/-- an expression of a suite within its statement -/
theorem x_runE {α β : Type} {rel : Rel α β} {f : Xx α} {g : α → Env → Store → R F} {De : Ends} {S : Rp} {H : Hp} {ρ : Env} {st : Store} {σ : L2.St} {c : Str} {ns : List Str} {us : List D} {Q : β → Hp → Prop} (hne : ∀ c' ns' us' st', f c ns us ρ st ≠ .ex c' ns' us' st') (rn : REnv C S ρ σ) (h : PostS C EFs De S H (runE (f c ns us) g ρ st))
    (kk : ∀ x st' S' H' b, Go S H S' H' → Rep C S' st' H' → rel S' st' x b → PostS C EFs De S' H' (g x ρ st') → Q b H') : Post C rel S H (f c ns us ρ st) Q (fun _ _ _ => False) := by
  unfold runE at h
  cases z : f c ns us ρ st with
  | bad => rw [z] at h; exact h.elim
  | ex c' ns' us' st' => exact absurd z (hne _ _ _ _)
  | ok x st' =>
    rw [z] at h
    exact fun S' H' b g1 rp rl => kk x st' S' H' b g1 rp rl (PostS.go h g1)
/-- no exception: else nothing is known -/
def calmX {α : Type} (f : Xx α) : Xx α := fun c ns us ρ st => noEx (f c ns us ρ st)
theorem noEx_ne {α : Type} {r : R α} {c : Str} {ns : List Str} {us : List D} {st : Store} : noEx r ≠ .ex c ns us st := by
  intro h
  cases r <;> cases h
theorem x_calm {α β : Type} {rel : Rel α β} {f : Xx α} {σ : L2.St} {H : Hp} {Q : β → Hp → Prop} (h : tX C rel a cls dd i (calmX f) σ H Q) : tX C rel a cls dd i f σ H Q := by
  obtain ⟨S, ρ, st, c, ns, us, rp, rn, hi, xr, q⟩ := h
  exact ⟨S, ρ, st, c, ns, us, rp, rn, hi, xr, post_noEx q⟩
/-- name = e -/
def xasgF (j : Nat) (f : Xx D) : XS := fun c ns us => asgF (.name j) (calmX f c ns us)
theorem xs_asg {j : Nat} {y : Str} {f : Xx D} {e : Expr} {py pos : Pos} (hNd : X.N.Nodup) (he : SX X C a cls dd i f e) (hj : X.N[j]? = some y) (hl : Loc X.env.scope y) (hf : X.fn y = true ∨ X.env.scope.names.lookup y = some .local)
    (hs : swapsWithSole [.Name y py] e pos.line X.env = pure false) (hw : swappedStores [.Name y py] e X.env = pure none) (h1 : (assignEach [.Name y py] X.env).map (·.2) = [assign (.Name y py) X.env]) : SU X C a cls dd i (xasgF j f) (.Assign [.Name y py] e pos) :=
  PS.weak (ps_asg he (pg_name hNd hj hl hf) hs hw h1) fun D σ H ⟨S, ρ, st, c, ns, us, rp, rn, hi, xr, q⟩ => by
    unfold xasgF asgF at q
    refine x_calm ⟨S, ρ, st, c, ns, us, rp, rn, hi, xr, x_runE (f := calmX f) (fun _ _ _ _ => noEx_ne) rn q fun d st' S' H' v g1 rp' rv q' => ?_⟩
    show D.nx (σ.set j (some v)) H'
    rw [setT] at q'
    exact postS_nx q' rp' ((rn.mono g1.ext).set rv)
/-- o.append(e) -/
def xappF (fo : Fx D) (f : Xx (List D)) : XS := fun c ns us => runE (fun ρ st => noEx ((fo ρ st).bind fun x st1 => match lstOf st1 x with
  | some _ => (f c ns us ρ st1).bind fun xs st2 => bmeth .append x xs st2
  | none => .bad)) fun _ ρ st => .ok (.nx ρ) st
theorem xs_app {fo : Fx D} {f : Xx (List D)} {o e : Expr} {apos cpos pos : Pos} (hK : X.K = C.K) (ho : SE X C (fun _ => fun _ _ _ => False) fo o) (ha : SXs X C a cls dd i f [e]) (hbase : attributeBase o "append" X.env (eval o X.env) = eval o X.env)
    (hfew : ((backTo cpos (starEach [e] X.env)).all (fun x => !x.1) && (backToKw cpos (keywordEach [] X.env)).all (fun x => x.1.isSome) && decide ([e].length + ([] : List Keyword).length + (if ([] : List Keyword).isEmpty then 0 else 1) < 30)) = true)
    (hline : (apos.endLine == cpos.line) = true) (hs : starEach [e] X.env = (false, eval e X.env) :: starEach [] X.env) (hplain : (backTo cpos (starEach [] X.env)).any (·.1) = false) (hsw : swapsWith (.Call (.Attribute o "append" apos) [e] [] cpos) none pos.line X.env = pure false) :
    SU X C a cls dd i (xappF fo f) (.Expr (.Call (.Attribute o "append" apos) [e] [] cpos) pos) :=
  PS.weak (ps_expr (pe_bm PySem.F.plainAttrs_list PySem.F.slot_list_append PySem.F.type_list_append mt_append ho ha hbase hfew hline hs hplain) hsw) fun D σ H ⟨S, ρ, st, c, ns, us, rp, rn, hi, xr, q⟩ => by
    have q := x_runE (rel := rV C) (Q := fun _ H' => D.nx σ H') (f := fun c ns us ρ st => noEx ((fo ρ st).bind fun x st1 => match lstOf st1 x with
      | some _ => (f c ns us ρ st1).bind fun xs st2 => bmeth .append x xs st2
      | none => .bad)) (fun _ _ _ _ => noEx_ne) rn q fun d st' S' H' v g1 rp' rv q' => postS_nx (show PostS C EFs D S' H' (.ok (.nx ρ) st') from q') rp' (rn.mono g1.ext)
    have q := post_noEx (E' := fun _ _ _ => False) q
    refine ⟨S, ρ, st, rp, rn, Post.bind (rel2 := rV C) q fun d st1 S1 H1 v g1 rp1 rv1 h1 => ?_⟩
    cases w : lstOf st1 d with
    | none => rw [w] at h1; exact h1.bad
    | some ys =>
      rw [w] at h1
      refine ⟨tyV_lst hK rp1 rv1 w, S1, ρ, st1, c, ns, us, rp1, rn.mono g1.ext, hi, xr.mono g1.ext, Post.bind (rel2 := rV C) h1 fun as st2 S2 H2 avs g2 rp2 ra h2 => ?_⟩
      obtain ⟨n, xs, rfl, z⟩ := bmeth_lst h2
      obtain ⟨b, vs, rfl, h3, h4, h5⟩ := cell_lst rp2 (RV.mono g2.ext rv1) z
      unfold bmeth at h2
      simp only [z] at h2
      rcases as with _ | ⟨a0, _ | ⟨a1, t⟩⟩ <;> first | exact Post.bad (C := C) h2 | skip
      obtain ⟨w, rfl, rw'⟩ := rvs1 ra
      obtain ⟨hl, h2⟩ := post_ite h2
      exact ⟨b, vs, w, rfl, rfl, h4, by rw [← h5.length]; exact lim_lt (Nat.le_of_lt hl), set_post rp2 h3 h4 (mo := .lst (xs ++ [a0])) ⟨_, rfl, h5.append (.one rw')⟩ (rv_non.mpr rfl) h2⟩
/-- try: body, except C as the i-th name: suite; tab: which errors are caught -/
def tryF (i : Nat) (tab : List (Str × Bool)) (body : FS) (suite : XS) : FS := fun ρ st => (body ρ st).bind fun fl st1 => match fl with
  | .xc c ns us ρ1 => match tab.lookup c with
    | some true => if i < ρ1.length then (suite c ns us (ρ1.set i none) st1).bind fun fl2 st2 => match fl2 with
      | .nx ρ2 => .ok (.nx (ρ2.set i none)) st2
      | .rt d => .ok (.rt d) st2
      | _ => .bad
      else .bad
    | some false => .ok (.xc c ns us ρ1) st1
    | none => .bad
  | fl => .ok fl st1
theorem REnv.over {S : Rp} {ρ : Env} {σ : L2.St} {i : Nat} {v : V} (r : REnv C S ρ σ) : REnv C S (ρ.set i none) (σ.set i (some v)) := by
  refine ⟨by rw [List.length_set, List.length_set]; exact r.len, fun j d e => ?_⟩
  by_cases q : j = i
  · subst q
    by_cases hl : j < ρ.length
    · rw [List.getElem?_set_self hl] at e; cases e
    · rw [List.getElem?_eq_none (by rw [List.length_set]; omega)] at e; cases e
  · rw [List.getElem?_set_ne (Ne.symm q)] at e ⊢
    exact r.at_ j d e
/-- the exceptions that a try's body may let out, by the clause's class c -/
def TabOk (K : PySem.W.Frag) (C : Kc) (cv : Value) (tab : List (Str × Bool)) : Prop := ∀ c b, tab.lookup c = some b → ∀ A, C.cm c = some A → PySem.W.exmOne K (.ref A) cv = some b
theorem ss_try {fb : FS} {fs : XS} {tab : List (Str × Bool)} {x n : Str} {cv : Value} {body : List Stmt} {s0 : Stmt} {np pos pos' : Pos} (hX : XOk X C k E) (hs : X.stack = X.env :: X.outer) (hf : X.env.frame = some X.env.locals) (hi : X.N[i]? = some n) (hln : X.env.kindOf n = some .local) (hc : Names X x cv) (ht : TabOk X.K C cv tab)
    (hb : ∀ (W : WX) (pn : List (Addr × Obj)) (xe : Value → Shared → Prop), XOk (X.tr pn xe) C k (fun σ => fun cls d H => W cls d σ H) → PassesOwn (model X.prog X.w) X.A X.env xe → SSs (X.tr pn xe) C (fun σ => fun cls d H => W cls d σ H) fb body)
    (hsu : ∀ (a : Addr) (oe : Obj) (cls : Value) (d : Option Addr) (pn : List (Addr × Obj)), Zc cls d oe → (∃ vs, oe.data = .fields vs) → SU (X.suite a ((a, oe) :: pn)) C a cls d i fs s0) :
    SS X C E (tryF i tab fb fs) (.Try body [.ExceptHandler (some (.Name x np)) (some n) [s0] pos'] [] [] pos) := by
  refine PS.weak (ps_try_as (Wout := fun cls d σ H => E σ cls d H) hs hf hX.nd hi hln hc hX.tk (tb := fun W => tS C (fun σ => fun cls d H => W cls d σ H) fb) (ts := fun a cls d => tSU C a cls d i fs) (fun W pn xe tk hp => hb W pn xe ⟨⟨hX.K, hX.nd, hX.room, hX.gd, tk, hX.sm⟩, hX.calm⟩ hp) (fun a oe cls d pn hz hv => pss_one (hsu a oe cls d pn hz hv))) fun D σ H ⟨S, ρ, st, rp, rn, h⟩ => ⟨S, ρ, st, rp, rn, ?_⟩
  · unfold tryF at h
    cases z : fb ρ st with
    | bad => rw [z] at h; exact h.elim
    | ex c ns us st' => rw [z] at h; exact h.elim
    | ok fl st1 =>
      rw [z] at h
      cases fl with
      | nx ρ1 => exact h
      | rt d => exact h
      | bk ρ1 => exact h
      | ct ρ1 => exact h
      | xc c ns us ρ1 =>
        intro S1 H1 g1 rp1 σ1 cls d rn1 xr
        have h : PostS C E D S H (match tab.lookup c with
          | some true => if i < ρ1.length then (fs c ns us (ρ1.set i none) st1).bind fun fl2 st2 => match fl2 with
            | .nx ρ2 => .ok (.nx (ρ2.set i none)) st2
            | .rt d => .ok (.rt d) st2
            | _ => .bad
            else .bad
          | some false => .ok (.xc c ns us ρ1) st1
          | none => .bad) := h
        obtain ⟨A, h1, rfl, h2⟩ := id xr
        cases y : tab.lookup c with
        | none => rw [y] at h; exact h.elim
        | some b =>
          rw [y] at h
          refine ⟨b, ht c b y A h1, fun hb a ha => ?_, fun hb => ?_⟩
          · subst hb
            have h : PostS C E D S H (if i < ρ1.length then (fs c ns us (ρ1.set i none) st1).bind fun fl2 st2 => match fl2 with
              | .nx ρ2 => .ok (.nx (ρ2.set i none)) st2
              | .rt d => .ok (.rt d) st2
              | _ => .bad
              else .bad) := h
            split at h
            · rename_i hi1
              have h := PostS.go h g1
              refine ⟨S1, ρ1.set i none, st1, c, ns, us, rp1, rn1.over, by rw [List.getElem?_set_self (by rw [rn1.len]; exact hi1)], xr, ?_⟩
              cases w : fs c ns us (ρ1.set i none) st1 with
              | bad => rw [w] at h; exact h.elim
              | ex c' ns' us' st' => rw [w] at h; exact h.elim
              | ok fl2 st2 =>
                rw [w] at h
                intro S2 H2 g2 rp2
                cases fl2 with
                | nx ρ2 =>
                  intro σ2 rn2
                  exact h S2 H2 g2 rp2 (σ2.set i none) rn2.unset
                | rt d => exact h S2 H2 g2 rp2
                | bk ρ2 => exact h.elim
                | ct ρ2 => exact h.elim
                | xc _ _ _ _ => exact h.elim
            · exact h.elim
          · subst hb
            exact h S1 H1 g1 rp1 σ1 _ d rn1 xr
end
end Px

/-! Px35: what stands behind the top, with classes: defs anywhere, facts of classes as checks. -/
namespace Px
open PySem PySem.Spec PyProof.Rows L2
abbrev FnQ : Type := Option (Str × Str × Arguments × FuncBody × Scope × Addr × List Str × Addr)
def fnQ (K : PySem.W.Frag) (a : Addr) : FnQ := match K.lookup a with
  | some ⟨_, _, .func fd, _⟩ => some (fd.name, fd.qualname, fd.params, fd.body, fd.scope, fd.globals, fd.closure.map (·.1), fd.builtins)
  | _ => none
/-- a def: where it stands, its names, its statement, the names that it closes over -/
structure DefQ where
  ad : PySem.W.Frag → Addr
  name : Str
  qual : Str
  st : Stmt
  dfl : List He.Dv := []
  kwd : List (Str × He.Dv) := []
  clo : List Str := []
def DefQ.val (d : DefQ) : FnQ := some (d.name, d.qual, defArgs d.st, .stmts (defBody d.st), defScope d.st, mainGlobals, d.clo, builtinsNs)
def DefQ.ok (K : PySem.W.Frag) (d : DefQ) : Bool := PySem.W.keepIn K (.ref (d.ad K)) && (match K.lookup (d.ad K) with
  | some ⟨_, _, .func fd, _⟩ => PySem.W.codeIn K fd.code d.qual && (He.dflB K fd.defaults (d.dfl.map (He.Dv.v K)) && He.kwdB K fd.kwdefaults (d.kwd.map fun q => (q.1, q.2.v K)))
  | _ => false)
theorem DefQ.fun_ {K : PySem.W.Frag} {d : DefQ} (e : fnQ K (d.ad K) = d.val) (c : d.ok K = true) (h0 : d.dfl = []) : ∃ (fd : FuncData) (oc : Value) (od : Option Addr) (osl : Array (Option Value)), K.lookup (d.ad K) = some ⟨oc, od, .func fd, osl⟩ ∧ PySem.W.keepIn K (.ref (d.ad K)) = true ∧ PySem.W.codeIn K fd.code d.qual = true ∧
    fd.name = d.name ∧ fd.qualname = d.qual ∧ fd.params = defArgs d.st ∧ fd.body = .stmts (defBody d.st) ∧ fd.scope = defScope d.st ∧ fd.globals = mainGlobals ∧ fd.closure.map (·.1) = d.clo ∧ fd.builtins = builtinsNs ∧ fd.defaults = .none ∧ He.kwdB K fd.kwdefaults (d.kwd.map fun q => (q.1, q.2.v K)) = true := by
  obtain ⟨kp, c2⟩ := Bool.and_eq_true_iff.mp c
  unfold fnQ at e
  cases q : K.lookup (d.ad K) with
  | none => rw [q] at c2; cases c2
  | some o =>
    obtain ⟨oc, od, dt, osl⟩ := o
    rw [q] at c2 e
    cases dt with
    | func fd =>
      have e2 : (some (fd.name, fd.qualname, fd.params, fd.body, fd.scope, fd.globals, fd.closure.map (·.1), fd.builtins) : FnQ) = some (d.name, d.qual, defArgs d.st, .stmts (defBody d.st), defScope d.st, mainGlobals, d.clo, builtinsNs) := e
      simp only [Option.some.injEq, Prod.mk.injEq] at e2
      obtain ⟨a1, a2, a3, a4, a5, a6, a7, a8⟩ := e2
      have c3 : (PySem.W.codeIn K fd.code d.qual && (He.dflB K fd.defaults (d.dfl.map (He.Dv.v K)) && He.kwdB K fd.kwdefaults (d.kwd.map fun q => (q.1, q.2.v K)))) = true := c2
      obtain ⟨k1, k2⟩ := Bool.and_eq_true_iff.mp c3
      obtain ⟨k3, k4⟩ := Bool.and_eq_true_iff.mp k2
      rw [h0] at k3
      have hd : fd.defaults = .none := by
        rcases He.dflB_ok k3 with ⟨_, z⟩ | ⟨z, _⟩
        · exact z
        · exact absurd rfl z
      exact ⟨fd, oc, od, osl, rfl, kp, k1, a1, a2, a3, a4, a5, a6, a7, a8, hd, k4⟩
    | _ => cases c2
abbrev AlQ : Type := Bool × List FnQ
def obsQ (fa : List He.Fa) (fn : List DefQ) (cs : List (Str × D)) (xs : List (PySem.W.Frag → Bool)) (K : PySem.W.Frag) : AlQ := ((fa.all fun f => f.ok K) && ((fn.all fun d => d.ok K) && ((cs.all fun c => cstB K c.1 c.2) && xs.all fun f => f K)), fn.map fun d => fnQ K (d.ad K))
def valQ (fn : List DefQ) : AlQ := (true, fn.map DefQ.val)
def SaysQ (fa : List He.Fa) (fn : List DefQ) (cs : List (Str × D)) (xs : List (PySem.W.Frag → Bool)) (K : PySem.W.Frag) : Prop := obsQ fa fn cs xs K = valQ fn
def asQ (g : Addr → Option Obj) : Nat → List Addr
  | 0 => [mainGlobals, cStatics]
  | n + 1 => He.growD g (asQ g n)
def obsQG (n : Nat) (fa : List He.Fa) (fn : List DefQ) (cs : List (Str × D)) (xs : List (PySem.W.Frag → Bool)) (g : Addr → Option Obj) : AlQ := obsQ fa fn cs xs (He.frG g (asQ g n))
def hookQ (n : Nat) (fa : List He.Fa) (fn : List DefQ) (cs : List (Str × D)) (xs : List (PySem.W.Frag → Bool)) : PySem.W.Hook where
  α := AlQ
  obs := fun s => obsQG n fa fn cs xs s.heap.get?
  val := fun _ => valQ fn
  says := fun _ h => ∃ K : PySem.W.Frag, K.In h ∧ SaysQ fa fn cs xs K
  of := fun _ _ e => ⟨_, He.frG_in, e⟩
  keeps := fun _ _ _ ⟨K, hK, c⟩ k => ⟨K, PySem.W.Frag.In.keeps hK k, c⟩
theorem obsQG_eq {n : Nat} {fa : List He.Fa} {fn : List DefQ} {cs : List (Str × D)} {xs : List (PySem.W.Frag → Bool)} {g : Addr → Option Obj} {s : Shared} (h : ∀ a, g a = s.heap.get? a) : obsQG n fa fn cs xs g = (hookQ n fa fn cs xs).obs s := by
  have e : g = s.heap.get? := funext h
  rw [e] <;> rfl
structure TpQ (fa : List He.Fa) (fn : List DefQ) (cs : List (Str × D)) (xs : List (PySem.W.Frag → Bool)) (C : Kc) (mg : Str → Option Value) (base : Heap) : Prop where
  says : SaysQ fa fn cs xs C.K
  kin : C.K.In base
  glob : base.Ns mainGlobals mg
  sm : ∃ o, base.get? sysModules = some o
def dG (st : Stmt) (x : Str) : DefQ := { ad := fun K => He.ga K x, name := x, qual := x, st := st }
section
variable {fa : List He.Fa} {fn : List DefQ} {cs : List (Str × D)} {xs : List (PySem.W.Frag → Bool)} {C : Kc} {mg : Str → Option Value} {base : Heap} {K : PySem.W.Frag}
theorem SaysQ.parts (c : SaysQ fa fn cs xs K) : (fa.all fun f => f.ok K) = true ∧ (fn.all fun d => d.ok K) = true ∧ (cs.all fun c => cstB K c.1 c.2) = true ∧ (xs.all fun f => f K) = true ∧ fn.map (fun d => fnQ K (d.ad K)) = fn.map DefQ.val := by
  have c1 := congrArg (fun z : AlQ => z.1) c
  have c1 : ((fa.all fun f => f.ok K) && ((fn.all fun d => d.ok K) && ((cs.all fun c => cstB K c.1 c.2) && xs.all fun f => f K))) = true := c1
  rw [Bool.and_eq_true, Bool.and_eq_true, Bool.and_eq_true] at c1
  exact ⟨c1.1, c1.2.1, c1.2.2.1, c1.2.2.2, congrArg (fun z : AlQ => z.2) c⟩
theorem TpQ.fact (T : TpQ fa fn cs xs C mg base) (i : Nat) {f : He.Fa} (h : fa[i]? = some f) : f.ok C.K = true := List.all_eq_true.mp T.says.parts.1 f (List.mem_of_getElem? h)
theorem TpQ.free (T : TpQ fa fn cs xs C mg base) (i : Nat) {x : Str} (h : fa[i]? = some (.free x) := by rfl) : mg x = none := He.free_ok T.kin T.glob (T.fact i h)
theorem TpQ.glo (T : TpQ fa fn cs xs C mg base) (i : Nat) {x : Str} (h : fa[i]? = some (.glo x) := by rfl) : mg x = some (.ref (He.ga C.K x)) := He.glo_ok T.kin T.glob (T.fact i h)
theorem TpQ.cst (T : TpQ fa fn cs xs C mg base) (i : Nat) {x : Str} {d : D} (h : cs[i]? = some (x, d) := by rfl) : ∃ u v, mg x = some u ∧ RelV v u ∧ ∀ S, RV C S d v := cst_ok T.kin T.glob (List.all_eq_true.mp T.says.parts.2.2.1 _ (List.mem_of_getElem? h))
theorem TpQ.chk (T : TpQ fa fn cs xs C mg base) (i : Nat) {f : PySem.W.Frag → Bool} (h : xs[i]? = some f := by rfl) : f C.K = true := List.all_eq_true.mp T.says.parts.2.2.2.1 f (List.mem_of_getElem? h)
theorem SaysQ.def_ (c : SaysQ fa fn cs xs K) (i : Nat) {d : DefQ} (h : fn[i]? = some d) : fnQ K (d.ad K) = d.val ∧ d.ok K = true := by
  obtain ⟨_, c2, _, _, e⟩ := c.parts
  have e2 : (fn.map fun d => fnQ K (d.ad K))[i]? = (fn.map DefQ.val)[i]? := by rw [e]
  rw [List.getElem?_map, List.getElem?_map, h] at e2
  exact ⟨Option.some.inj e2, List.all_eq_true.mp c2 d (List.mem_of_getElem? h)⟩
theorem SaysQ.fun_ (c : SaysQ fa fn cs xs K) (i : Nat) {d : DefQ} (h : fn[i]? = some d) (h0 : d.dfl = []) (h2 : d.clo = []) : ∃ fd, Fun K d.name d.qual d.st (d.ad K) fd := by
  obtain ⟨e, ok⟩ := c.def_ i h
  obtain ⟨fd, oc, od, osl, lk, kp, hc, a1, a2, a3, a4, a5, a6, a7, a8, a9, _⟩ := DefQ.fun_ e ok h0
  obtain ⟨n1, n2, n3, n4, n5, n6, n7, n8, n9, n10, n11, n12, n13, n14, n15⟩ := fd
  dsimp only at a1 a2 a3 a4 a5 a6 a7 a8 a9
  have a7 : n7 = [] := by rw [h2] at a7; exact List.map_eq_nil_iff.mp a7
  subst a1 a2 a3 a4 a5 a6 a7 a8 a9
  exact ⟨_, ⟨oc, od, _, _, _, _, _, _, osl, rfl, lk, hc⟩, kp⟩
/-- how one shape binds: any def -/
def Sh2 (x qual : Str) (st : Stmt) (ps : List Str) (n : Nat) (ks : List Str) : Prop := ∀ (kV doc pm : Value) (an : Option Addr) (cdv ct : Value) (us ws : List Value), us.length = n → ws.length = ks.length →
  ∃ zs, bindG ps (List.replicate ps.length none) us ks ws = some zs ∧ bindArgs (PySem.W.fnOf x qual (defArgs st) (defBody st) (defScope st) .none kV doc pm an cdv ct) ⟨us, ks.zip ws⟩ = pure (ps.zip zs)
theorem sh2_of {x qual : Str} {st : Stmt} {f : Addr} {fd : FuncData} {ps : List Str} {n : Nat} {ks : List Str} (FN : Fun K x qual st f fd) (h : Sh2 x qual st ps n ks) : ShOk K fd ps (List.replicate ps.length none) n ks := by
  obtain ⟨oc, od, kV, doc, pm, an, cdv, ct, osl, rfl, lk, hcd⟩ := FN.ex
  intro s us ws _ hu hw zs hz
  obtain ⟨zs', h1, h2⟩ := h kV doc pm an cdv ct us ws hu hw
  rw [h1] at hz; cases hz
  exact .of_eq h2
def ShAll2 (x qual : Str) (st : Stmt) (ps : List Str) : List (Nat × List Str) → Prop
  | [] => True
  | s :: r => Sh2 x qual st ps s.1 s.2 ∧ ShAll2 x qual st ps r
theorem shall2_mem {x qual : Str} {st : Stmt} {ps : List Str} : ∀ {l : List (Nat × List Str)}, ShAll2 x qual st ps l → ∀ s ∈ l, Sh2 x qual st ps s.1 s.2
  | [], _, s, h => by cases h
  | a :: l, h, s, hs => by
    rcases List.mem_cons.mp hs with e | hs
    · rw [e]; exact h.1
    · exact shall2_mem h.2 s hs
/-- a def, a method by its body -/
theorem fnd_q {P : Program} {w : World} (T : TpQ fa fn cs xs C mg base) (i : Nat) {d : DefQ} {N ps : List Str} {sh : List (Nat × List Str)} {body : FS} {kp : Bool} {k : Nat}
    (h : fn[i]? = some d) (h0 : d.dfl = [] := by rfl) (h2 : d.clo = [] := by rfl) (S : FnScope N ps (defScope d.st)) (hsh : ShAll2 d.name d.qual d.st ps sh) (hl : (sh.all fun s => decide (s.1 ≤ ps.length)) = true)
    (hb2 : ∀ (cdv : Value) (A : Around) (outer : List PySem.Env) (s : Shared) (H : Hp) (E : XK),
      (XOk (cxOf (L2.CX P w) P w C.K mg base N d.qual (defScope d.st) (d.ad C.K) cdv A outer s H E) C k fun _ => E) → PassesOwn (model P w) (A.deeper (envOfC d.qual (defScope d.st) s.heap.objs.size (d.ad C.K) cdv)) (envOfC d.qual (defScope d.st) s.heap.objs.size (d.ad C.K) cdv) (cxOf (L2.CX P w) P w C.K mg base N d.qual (defScope d.st) (d.ad C.K) cdv A outer s H E).xe →
      SSs (cxOf (L2.CX P w) P w C.K mg base N d.qual (defScope d.st) (d.ad C.K) cdv A outer s H E) C (fun _ => E) body (defBody d.st)) :
    ∃ fd, Has C.K (d.ad C.K) fd ∧ FnD P w C mg base (k + 1) (d.ad C.K) fd ⟨ps, List.replicate ps.length none, sh, defRun N.length kp body⟩ := by
  obtain ⟨fd, F⟩ := T.says.fun_ i h h0 h2
  refine ⟨fd, fun_has F, fnd_of F S rfl ⟨List.replicate ps.length none, fun S => all2_none _, fun s hs => sh2_of F (shall2_mem hsh s hs)⟩ (bind_len hl) T.sm fun cdv A outer s H E hr hX hp => hb2 cdv A outer s H E hX hp⟩
/-- the law's own def -/
theorem law_fq {P : Program} {w : World} {h : Heap} {f : Addr} {Fu : Fn} {k : Nat} {x : Str} {st : Stmt}
    (T0 : ∀ base : Heap, C.K.In base → base.Ns mainGlobals mg → (∃ o, base.get? sysModules = some o) → TpQ fa fn cs xs C mg base) (KX : C.K.In h) (G : h.Ns mainGlobals mg) (hmg : mg "law" = some (.ref f)) (c : SaysQ fa fn cs xs C.K) (gi li : Nat)
    (hgi : fa[gi]? = some (.glo "law")) (hli : fn[li]? = some (dG st "law"))
    (hb : ∀ (u kV doc pm : Value) (an : Option Addr) (cdv ct : Value), bindArgs (PySem.W.fnOf "law" "law" (defArgs st) (defBody st) (defScope st) .none kV doc pm an cdv ct) ⟨[u], []⟩ = pure [(x, u)])
    (hF : ∀ base : Heap, TpQ fa fn cs xs C mg base → ∃ fd, Has C.K (He.ga C.K "law") fd ∧ FnD P w C mg base k (He.ga C.K "law") fd Fu) :
    ∃ fd : FuncData, (∀ (s : Shared) (u : Value), BindsTo s fd ⟨[u], []⟩ [(x, u)]) ∧ ∀ base : Heap, C.K.In base → base.Ns mainGlobals mg → (∃ o, base.get? sysModules = some o) → FnD P w C mg base k f fd Fu := by
  obtain ⟨fd, F⟩ := c.fun_ li hli rfl rfl
  have e0 : mg "law" = some (.ref (He.ga C.K "law")) := He.glo_ok KX G (List.all_eq_true.mp c.parts.1 _ (List.mem_of_getElem? hgi))
  have e := hmg.symm.trans e0
  cases e
  have hh := fun_has F
  refine ⟨fd, fun s u => ?_, fun base h1 h2 h3 => ?_⟩
  · obtain ⟨oc, od, kV, doc, pm, an, cdv, ct, osl, rfl, _, _⟩ := F.ex
    exact .of_eq (hb u kV doc pm an cdv ct)
  · obtain ⟨fd', h4, h5⟩ := hF base (T0 base h1 h2 h3)
    cases hh.eq h4
    exact h5
end
end Px

/-! Px36: checks of classes. -/
namespace Px
open PySem PySem.Spec PyProof.Rows L2
def ty7 : List String := ["NoneType", "int", "bool", "str", "tuple", "list", "dict"]
def cmOf (ns : List Str) (K : PySem.W.Frag) : Str → Option Addr := fun x => if ns.contains x then some (He.ga K x) else none
theorem cmOf_at {ns : List Str} {K : PySem.W.Frag} {x : Str} (h : ns.contains x = true) : cmOf ns K x = some (He.ga K x) := if_pos h
def clsB (x : Str) (K : PySem.W.Frag) : Bool := (He.Fa.cls x).ok K && (He.eqO (PySem.W.findIn K (.ref (He.ga K x)) "__class__") (some (some (.builtin "object.__class__"))) && (He.eqO (PySem.W.specialIn K (.builtin "object.__class__") "__get__") (some (some (.builtin "getset_descriptor.__get__"))) &&
  (decide (PySem.W.takesIn K (.builtin "object.__class__") = some true) && (decide (PySem.W.mroIn K (He.ga K x) (.type "object") = some true) && ((tyNames.all fun t => decide (PySem.W.kitOne K (.ref (He.ga K x)) (.type t) = some false)) &&
  ((ty7.all fun t => decide (PySem.W.kitOne K (.type t) (.ref (He.ga K x)) = some false)) && PySem.W.selfFirst K (He.ga K x)))))))
theorem clsB_ok {x : Str} {K : PySem.W.Frag} (h : clsB x K = true) : ClsF K (He.ga K x) := by
  unfold clsB at h
  simp only [Bool.and_eq_true, decide_eq_true_eq, List.all_eq_true] at h
  obtain ⟨h1, h2, h3, h4, h5, h6, h7, h8⟩ := h
  exact ⟨He.cls_ok h1, He.eqO_ok h2, He.eqO_ok h3, h4, h5, h6, h7, h8⟩
def twoB (oc : List Str) (K : PySem.W.Frag) : Bool := oc.all fun c => oc.all fun d => decide (PySem.W.kitOne K (.ref (He.ga K c)) (.ref (He.ga K d)) = some (decide (c = d))) && (decide (c = d) || PySem.W.notFirst K (He.ga K c) (.ref (He.ga K d)))
theorem ocs_of {ns oc : List Str} {K : PySem.W.Frag} (h1 : (oc.all fun c => ns.contains c) = true) (h2 : (oc.all fun c => clsB c K) = true) (h3 : twoB oc K = true) : Ocs ⟨K, cmOf ns K⟩ oc := by
  rw [List.all_eq_true] at h1 h2
  have at_ : ∀ c ∈ oc, cmOf ns K c = some (He.ga K c) := fun c hc => cmOf_at (h1 c hc)
  refine ⟨fun c hc => ⟨_, at_ c hc, clsB_ok (h2 c hc)⟩, fun c hc d hd A B hA hB => ?_⟩
  have hA : cmOf ns K c = some A := hA
  have hB : cmOf ns K d = some B := hB
  rw [at_ c hc] at hA
  rw [at_ d hd] at hB
  cases hA
  cases hB
  unfold twoB at h3
  simp only [List.all_eq_true, Bool.and_eq_true, Bool.or_eq_true, decide_eq_true_eq] at h3
  exact h3 c hc d hd
def mkB (x : Str) (K : PySem.W.Frag) : Bool := (He.Fa.mkr x).ok K
def noB (x f : Str) (K : PySem.W.Frag) : Bool := (He.Fa.noat x f).ok K
def meB (x m : Str) (K : PySem.W.Frag) : Bool := (He.Fa.meth x m).ok K
def mA (x m : Str) (K : PySem.W.Frag) : Addr := He.ma K (He.ga K x) m
/-- what a record (property, classmethod) holds first -/
def rcA (K : PySem.W.Frag) (p : Addr) (T : String) : Addr := match PySem.W.recIn K p T with
  | some (.ref g :: _) => g
  | _ => 0
def rcB (K : PySem.W.Frag) (p : Addr) (T : String) : Bool := match PySem.W.recIn K p T with
  | some (.ref _ :: _) => true
  | _ => false
theorem rc_ok {K : PySem.W.Frag} {p : Addr} {T : String} (h : rcB K p T = true) : ∃ rest, PySem.W.recIn K p T = some (.ref (rcA K p T) :: rest) := by
  unfold rcB at h
  split at h
  · rename_i g r e
    exact ⟨r, by unfold rcA; rw [e]⟩
  · cases h
def pA (x m : Str) (K : PySem.W.Frag) : Addr := rcA K (mA x m K) "property"
def cA (x m : Str) (K : PySem.W.Frag) : Addr := rcA K (mA x m K) "classmethod"
def spB (x m : Str) (K : PySem.W.Frag) : Bool := He.eqO (PySem.W.findIn K (.ref (He.ga K x)) m) (some (some (.ref (mA x m K)))) && (PySem.W.isFn K (.ref (mA x m K)) && PySem.W.fnIn K (mA x m K))
theorem spB_ok {x m : Str} {K : PySem.W.Frag} (h : spB x m K = true) : SpF K (He.ga K x) m (mA x m K) := by
  unfold spB at h
  simp only [Bool.and_eq_true] at h
  exact ⟨He.eqO_ok h.1, h.2.1, h.2.2⟩
def prB (x m : Str) (K : PySem.W.Frag) : Bool := He.eqO (PySem.W.findIn K (.ref (He.ga K x)) m) (some (some (.ref (mA x m K)))) && (He.eqO (PySem.W.specialIn K (.ref (mA x m K)) "__get__") (some (some (.builtin "property.__get__"))) && (decide (PySem.W.takesIn K (.ref (mA x m K)) = some true) && rcB K (mA x m K) "property"))
theorem prB_ok {x m : Str} {K : PySem.W.Frag} (h : prB x m K = true) : PropOf K (He.ga K x) m (mA x m K) (pA x m K) := by
  unfold prB at h
  simp only [Bool.and_eq_true, decide_eq_true_eq] at h
  exact ⟨He.eqO_ok h.1, He.eqO_ok h.2.1, h.2.2.1, rc_ok h.2.2.2⟩
def cmB (x m : Str) (K : PySem.W.Frag) : Bool := PySem.W.readsIn K (He.ga K x) (.type "type") && (He.eqO (PySem.W.specialIn K (.ref (He.ga K x)) "__getattribute__") (some (some (.builtin "type.__getattribute__"))) &&
  ((match PySem.W.findCls K (.ref (He.ga K x)) (.type "type") m with
    | some (.get (.builtin n) (.ref p) .none (.ref A)) => decide (n = "classmethod.__get__") && (decide (p = mA x m K) && decide (A = He.ga K x))
    | _ => false) && (rcB K (mA x m K) "classmethod" && PySem.W.fnIn K (cA x m K))))
theorem cmB_ok {x m : Str} {K : PySem.W.Frag} (h : cmB x m K = true) : CMetF K (He.ga K x) (.type "type") m (mA x m K) (cA x m K) := by
  unfold cmB at h
  simp only [Bool.and_eq_true] at h
  obtain ⟨h1, h2, h3, h4, h5⟩ := h
  refine ⟨⟨h1, He.eqO_ok h2⟩, ?_, rc_ok h4, h5⟩
  split at h3
  · rename_i n p A e
    simp only [Bool.and_eq_true, decide_eq_true_eq] at h3
    obtain ⟨rfl, rfl, rfl⟩ := h3
    exact e
  · cases h3
def pwB (x : Str) (nm : String) (K : PySem.W.Frag) : Bool := He.eqO (PySem.W.findIn K (.ref (He.ga K x)) (PySem.dunderR nm)) (some none) && ((PySem.W.findIn K (.type "int") (PySem.dunder nm)).isSome && ((PySem.W.findIn K (.type "int") (PySem.dunderR nm)).isSome && decide (PySem.W.subIn K (.type "int") (.ref (He.ga K x)) = some false)))
theorem pwB_ok {x : Str} {nm : String} {K : PySem.W.Frag} (h : pwB x nm K = true) : PwF K (He.ga K x) nm := by
  unfold pwB at h
  simp only [Bool.and_eq_true, decide_eq_true_eq] at h
  exact ⟨He.eqO_ok h.1, Option.isSome_iff_exists.mp h.2.1, Option.isSome_iff_exists.mp h.2.2.1, h.2.2.2⟩
def eqB (x : Str) (K : PySem.W.Frag) : Bool := spB x "__eq__" K && (He.eqO (PySem.W.findIn K (.ref (He.ga K x)) "__ne__") (some (some (.builtin "object.__ne__"))) && (decide (PySem.W.subIn K (.ref (He.ga K x)) (.type "object") = some true) && ty7.all fun t => PySem.W.notFirst K (He.ga K x) (.type t)))
theorem eqB_ok {x : Str} {K : PySem.W.Frag} (h : eqB x K = true) : EqF K (He.ga K x) (mA x "__eq__" K) := by
  unfold eqB at h
  simp only [Bool.and_eq_true, decide_eq_true_eq, List.all_eq_true] at h
  exact ⟨spB_ok h.1, He.eqO_ok h.2.1, h.2.2.1, h.2.2.2⟩
/-! ### errors -/
/-- the cell that an error's __init__ closes over -/
def ccA (x : Str) (K : PySem.W.Frag) : Addr := match K.lookup (mA x "__init__" K) with
  | some ⟨_, _, .func fd, _⟩ => (match fd.closure with
    | [(_, c)] => c
    | _ => 0)
  | _ => 0
def exB (K : PySem.W.Frag) (C : Addr) : Bool := match K.lookup C with
  | some ⟨.type "type", _, .cls cd, sl⟩ => (match cd.mro, sl.toList with
    | .ref C' :: bm, [_, _, _, _, some (.builtin n), _] => C' == C && (n == "Exception.__new__" && (!cd.hasDel && (cd.hasDict && PySem.W.excTail exT bm)))
    | _, _ => false)
  | _ => false
theorem exB_ok {K : PySem.W.Frag} {C : Addr} (q : exB K C = true) : ∃ nm N qn bs bm sn sub ab col dd k0 k1 k2 k3 k5, K.lookup C = some (excClassObj nm qn C N bs bm true sn sub ab col dd k0 k1 k2 k3 k5 "Exception.__new__") ∧ PySem.W.excTail exT bm = true := by
  unfold exB at q
  split at q
  · rename_i dd cd sl ho
    split at q
    · rename_i C' bm k0 k1 k2 k3 n k5 hm hs
      simp only [Bool.and_eq_true, beq_iff_eq, Bool.not_eq_true'] at q
      obtain ⟨rfl, rfl, hdel, hdict, ht⟩ := q
      obtain ⟨nm, bs, mro, ns, qn, hd, sn, sub, ab, col, del⟩ := cd
      dsimp only at hm hdel hdict
      subst hm hdel hdict
      have hsl : sl = #[k0, k1, k2, k3, some (.builtin "Exception.__new__"), k5] := by
        obtain ⟨l⟩ := sl
        simp only at hs
        rw [hs]
      subst hsl
      exact ⟨nm, ns, qn, bs, bm, sn, sub, ab, col, dd, k0, k1, k2, k3, k5, ho, ht⟩
    · cases q
  · cases q
/-- the file's name in the code object of the def at f -/
def fileB (K : PySem.W.Frag) (f : Addr) (file : Str) : Bool := match K.lookup f with
  | some ⟨_, _, .func fd, _⟩ => (match fd.code with
    | .ref c => (match K.lookup c with
      | some ⟨_, _, .fields vs, _⟩ => (match (vs[2]? : Option Value) with
        | some (.str z _) => decide (z = file)
        | _ => false)
      | _ => false)
    | _ => false)
  | _ => false
def cellB (K : PySem.W.Frag) (cc D : Addr) : Bool := match K.lookup cc with
  | some ⟨_, _, .cell (some (.ref A)), _⟩ => decide (A = D)
  | _ => false
/-- an error class x with an __init__ of its own (qualified name q) -/
def erB (file : Str) (x : Str) (K : PySem.W.Frag) : Bool := exB K (He.ga K x) && (He.eqO (PySem.W.ks_superIn K (He.ga K x) (He.ga K x) "__init__") (some (some (.builtin "Exception.__init__"))) && (decide (PySem.W.subIn K (.ref (He.ga K x)) (.type "Exception") = some true) && (decide (PySem.W.mroIn K (He.ga K x) (.ref (He.ga K x)) = some true) &&
  ((PySem.W.clsIn K (He.ga K x)).isSome && (He.eqO (PySem.W.findIn K (.ref (He.ga K x)) "__init__") (some (some (.ref (mA x "__init__" K)))) && (PySem.W.isFn K (.ref (mA x "__init__" K)) && (fileB K (mA x "__init__" K) file && (cellB K (ccA x K) (He.ga K x) &&
  (He.eqO (PySem.W.nsIn K cStatics "thirdparty.any") (some none) && (He.eqO (PySem.W.nsIn K mainGlobals "super") (some none) && (He.eqO (PySem.W.findIn K (.ref (He.ga K x)) "__setattr__") (some (some (.builtin "object.__setattr__"))) && (PySem.W.excOver K (He.ga K x) exT && PySem.W.hasDictIn K (He.ga K x)))))))))))))
/-- .. to be raised and caught -/
def rsB (x : Str) (K : PySem.W.Frag) : Bool := PySem.W.keepIn K (.ref (He.ga K x)) && (decide (PySem.W.subIn K (.ref (He.ga K x)) (.type "BaseException") = some true) && decide (PySem.W.typeIn K (.ref (He.ga K x)) = some (.type "type")))
def tkB (x a : Str) (K : PySem.W.Frag) : Bool := He.eqO (PySem.W.takerIn K (He.ga K x) a) (some none)
def ecB (x : Str) (K : PySem.W.Frag) : Bool := He.eqO (PySem.W.findIn K (.ref (He.ga K x)) "__getattribute__") (some (some (.builtin "BaseException.__getattribute__"))) && (He.eqO (PySem.W.findIn K (.ref (He.ga K x)) "__getattr__") (some none) && (decide (PySem.W.subIn K (.ref (He.ga K x)) (.type "BaseException") = some true) && (PySem.W.hasDictIn K (He.ga K x) &&
  (He.eqO (PySem.W.findIn K (.ref (He.ga K x)) "__class__") (some (some (.builtin "object.__class__"))) && (He.eqO (PySem.W.specialIn K (.builtin "object.__class__") "__get__") (some (some (.builtin "getset_descriptor.__get__"))) && (decide (PySem.W.takesIn K (.builtin "object.__class__") = some true) && decide (PySem.W.mroIn K (He.ga K x) (.type "object") = some true)))))))
theorem ecB_ok {x : Str} {K : PySem.W.Frag} (h : ecB x K = true) : ExcC K (He.ga K x) ∧ XfC K (He.ga K x) := by
  unfold ecB at h
  simp only [Bool.and_eq_true, decide_eq_true_eq] at h
  obtain ⟨h1, h2, h3, h4, h5, h6, h7, h8⟩ := h
  exact ⟨⟨He.eqO_ok h1, He.eqO_ok h2, h3, h4, He.eqO_ok h5, He.eqO_ok h6, h7, h8⟩, ⟨He.eqO_ok h1, He.eqO_ok h2, h3, h4⟩⟩
def ktB (x y : Str) (b : Bool) (K : PySem.W.Frag) : Bool := decide (PySem.W.kitOne K (.ref (He.ga K x)) (.ref (He.ga K y)) = some b)
/-- what is caught by an except clause of class y -/
def tabB (y : Str) (tab : List (Str × Bool)) (K : PySem.W.Frag) : Bool := tab.all fun p => decide (PySem.W.exmOne K (.ref (He.ga K p.1)) (.ref (He.ga K y)) = some p.2)
theorem lookup_memD {α β : Type} [DecidableEq α] {x : α} {y : β} : ∀ {l : List (α × β)}, l.lookup x = some y → (x, y) ∈ l
  | [], h => by cases h
  | (a, b) :: r, h => by
    unfold List.lookup at h
    cases q : (x == a) with
    | true =>
      rw [q] at h
      have : b = y := Option.some.inj h
      rw [beq_iff_eq.mp q, this]
      exact List.mem_cons_self
    | false =>
      rw [q] at h
      exact List.mem_cons_of_mem _ (lookup_memD h)
theorem tabB_ok {ns : List Str} {y : Str} {tab : List (Str × Bool)} {K : PySem.W.Frag} (h : tabB y tab K = true) : TabOk K ⟨K, cmOf ns K⟩ (.ref (He.ga K y)) tab := fun c b e A hA => by
  have hA : cmOf ns K c = some A := hA
  unfold cmOf at hA
  split at hA
  · cases hA
    unfold tabB at h
    rw [List.all_eq_true] at h
    exact of_decide_eq_true (h (c, b) (lookup_memD e))
  · cases hA
def dM (x m q : Str) (st : Stmt) : DefQ := { ad := mA x m, name := m, qual := q, st := st }
def dP (x m q : Str) (st : Stmt) : DefQ := { ad := pA x m, name := m, qual := q, st := st }
def dC (x m q : Str) (st : Stmt) : DefQ := { ad := cA x m, name := m, qual := q, st := st }
def dE (x q : Str) (st : Stmt) : DefQ := { ad := mA x "__init__", name := "__init__", qual := q, st := st, clo := ["__class__"] }
theorem errK_of {fa : List He.Fa} {fn : List DefQ} {cs : List (Str × D)} {xs : List (PySem.W.Frag → Bool)} {K : PySem.W.Frag} {prog : Program} (c : SaysQ fa fn cs xs K) (i : Nat) {x q : Str} {st : Stmt} (h : fn[i]? = some (dE x q st)) (e : erB prog.main.file x K = true) (ht : (prog.main.scope.names.lookup ("super" : Str)).isSome = false) :
    ∃ fd, ErrK prog K (He.ga K x) (He.ga K x) (mA x "__init__" K) (ccA x K) q st fd := by
  obtain ⟨e1, ok⟩ := c.def_ i h
  obtain ⟨fd, oc, od, osl, lk, kp, hc, a1, a2, a3, a4, a5, a6, a7, a8, a9, _⟩ := DefQ.fun_ e1 ok rfl
  obtain ⟨n1, n2, n3, n4, n5, n6, n7, n8, n9, n10, n11, n12, n13, n14, n15⟩ := fd
  dsimp only at a1 a2 a3 a4 a5 a6 a7 a8 a9
  obtain ⟨p, hcl, hp⟩ : ∃ p, n7 = [p] ∧ p.1 = ("__class__" : Str) := by
    have a7 : n7.map (·.1) = [("__class__" : Str)] := a7
    rcases n7 with _ | ⟨p, _ | ⟨p', r⟩⟩
    · cases a7
    · exact ⟨p, rfl, (List.cons.inj a7).1⟩
    · cases (List.cons.inj a7).2
  obtain ⟨p1, p2⟩ := p
  dsimp only at hp
  subst hp hcl
  subst a1 a2 a3 a4 a5 a6 a8 a9
  have lk' : K.lookup (mA x "__init__" K) = _ := lk
  have hcc : ccA x K = p2 := by unfold ccA; rw [lk']
  unfold erB at e
  simp only [Bool.and_eq_true, decide_eq_true_eq] at e
  obtain ⟨g1, g2, g3, g4, g5, g6, g7, g8, g9, g10, g11, g12, g13, g14⟩ := e
  have hcell : ∃ cl cld csl, K.lookup (ccA x K) = some ⟨cl, cld, .cell (some (.ref (He.ga K x))), csl⟩ := by
    unfold cellB at g9
    split at g9
    · rename_i cl cld A csl e2
      cases of_decide_eq_true g9
      exact ⟨cl, cld, csl, e2⟩
    · cases g9
  unfold fileB at g8
  rw [lk'] at g8
  dsimp only at g8
  cases n13 with
  | ref cda =>
    dsimp only at g8
    split at g8
    · rename_i ccl cdd vs ccs e2
      split at g8
      · rename_i z tf e3
        have ez := of_decide_eq_true g8
        subst ez
        rw [← hcc] at lk'
        exact ⟨_, exB_ok g1, He.eqO_ok g2, g3, g4, g5, He.eqO_ok g6, g7, ⟨oc, od, n9, n10, n11, n12, cda, n14, osl, vs, ccl, cdd, ccs, tf, rfl, lk', hc, e2, e3⟩, hcell, He.eqO_ok g10, He.eqO_ok g11, ht, He.eqO_ok g12, g13, g14⟩
      · cases g8
    · cases g8
  | _ => cases g8
end Px

/-! Px37: the rules for classes and errors in short. -/
namespace Px
open PySem PySem.Spec PyProof.Rows L2
section
variable {X : Cx} {K : PySem.W.Frag} {ns : List Str} {E : L2.St → XK} {k : Nat} {fd : FuncData} {Fu : Fn}
theorem atK {p : PySem.W.Frag → Prop} (hX : XOk X (Kc.mk K (cmOf ns K)) k E) (h : p K) : p X.K := by
  have e : X.K = K := hX.K
  rw [e]; exact h
-- objects made
theorem q_mk {fr : Bool} {fa fk : Fx (List D)} {x : Str} {es : List Expr} {kws : List Keyword} {ks : List Str} {p pos : Pos} (hX : XOk X (Kc.mk K (cmOf ns K)) (k + 1) E) (h : mkB x K = true) (FD : FnD X.prog X.w (Kc.mk K (cmOf ns K)) X.mg X.base k (mA x "__init__" K) fd Fu) (hm : X.mg x = some (.ref (He.ga K x))) (ha : SA X (Kc.mk K (cmOf ns K)) E fa es) (hk : SK X (Kc.mk K (cmOf ns K)) E fk kws)
    (hin : ns.contains x = true := by decide) (h0 : es = [] → fa = nilF := by first | exact (fun _ => rfl) | exact (fun h => by cases h)) (hg : Gl X x := by rfl) (hp : Plain X es kws ks pos := by exact ⟨fun e r h => by cases h <;> rfl, fun e r h => by cases h <;> rfl, rfl, rfl, rfl⟩) (hdb : (x == ("__debug__" : Str)) = false := by decide) : SE X (Kc.mk K (cmOf ns K)) E (mkF x fr Fu fa ks fk) (.Call (.Name x p) es kws pos) :=
  se_mk hX (atK (p := fun K' => Mk K' (He.ga K x) (mA x "__init__" K)) hX (He.mkr_ok h)) (cmOf_at hin) FD hg hm ha h0 hk hp hdb
-- attributes
theorem q_attr {c n : Str} {f : Fx D} {e : Expr} {pos : Pos} (hX : XOk X (Kc.mk K (cmOf ns K)) k E) (h1 : clsB c K = true) (h2 : noB c n K = true) (he : SE X (Kc.mk K (cmOf ns K)) E f e) (hin : ns.contains c = true := by decide) (hb : attributeBase e n X.env (eval e X.env) = eval e X.env := by rfl) : SE X (Kc.mk K (cmOf ns K)) E (attrF c n f) (.Attribute e n pos) :=
  se_attr hX (cmOf_at hin) (atK (p := fun K' => Cls K' (He.ga K c)) hX (clsB_ok h1).c) (atK (p := fun K' => NoAttr K' (He.ga K c) n) hX (He.noat_ok h2)) he hb
theorem s_setA {c n : Str} {fo fv : Fx D} {o e : Expr} {pos' pos : Pos} (hX : XOk X (Kc.mk K (cmOf ns K)) k E) (h1 : clsB c K = true) (h2 : noB c n K = true) (ho : SE X (Kc.mk K (cmOf ns K)) E fo o) (hv : SE X (Kc.mk K (cmOf ns K)) E fv e) (hin : ns.contains c = true := by decide) (hs : swapsWith e (some (.Attribute o n pos')) pos.line X.env = pure false := by rfl) :
    SS X (Kc.mk K (cmOf ns K)) E (setAF c n fo fv) (.Assign [.Attribute o n pos'] e pos) :=
  ss_setA hX (cmOf_at hin) (atK (p := fun K' => Cls K' (He.ga K c)) hX (clsB_ok h1).c) (atK (p := fun K' => NoAttr K' (He.ga K c) n) hX (He.noat_ok h2)) ho hv hs
-- methods
theorem q_meth {c m : Str} {fo : Fx D} {fa fk : Fx (List D)} {o : Expr} {es : List Expr} {kws : List Keyword} {ks : List Str} {apos pos : Pos} (pl : Sem Bool) (hX : XOk X (Kc.mk K (cmOf ns K)) k E) (h1 : clsB c K = true) (h2 : meB c m K = true) (FD : FnD X.prog X.w (Kc.mk K (cmOf ns K)) X.mg X.base k (mA c m K) fd Fu)
    (ho : SE X (Kc.mk K (cmOf ns K)) E fo o) (ha : SA X (Kc.mk K (cmOf ns K)) E fa es) (hk : SK X (Kc.mk K (cmOf ns K)) E fk kws)
    (ht : eval (.Call (.Attribute o m apos) es kws pos) X.env = (do
      let ov ← eval o X.env
      standAt apos.atName
      let (f, first) ← holding [ov] (getMethod ov m pl)
      callWith pos f first (backTo pos (starEach es X.env)) (backToKw pos (keywordEach kws X.env))) := by rfl)
    (hin : ns.contains c = true := by decide) (h0 : es = [] → fa = nilF := by first | exact (fun _ => rfl) | exact (fun h => by cases h)) (hp : Plain X es kws ks pos := by exact ⟨fun e r h => by cases h <;> rfl, fun e r h => by cases h <;> rfl, rfl, rfl, rfl⟩) :
    SE X (Kc.mk K (cmOf ns K)) E (methF c m Fu fo fa ks fk) (.Call (.Attribute o m apos) es kws pos) :=
  se_meth hX (cmOf_at hin) (atK (p := fun K' => Cls K' (He.ga K c)) hX (clsB_ok h1).c) (atK (p := fun K' => Meth K' (He.ga K c) m (mA c m K)) hX (He.meth_ok h2)) FD ho ha h0 hk hp ht
theorem q_prop {c n : Str} {fo : Fx D} {e : Expr} {pos : Pos} (hX : XOk X (Kc.mk K (cmOf ns K)) (k + 1) E) (h1 : clsB c K = true) (h2 : prB c n K = true) (FD : FnD X.prog X.w (Kc.mk K (cmOf ns K)) X.mg X.base k (pA c n K) fd Fu) (he : SE X (Kc.mk K (cmOf ns K)) E fo e) (hin : ns.contains c = true := by decide)
    (hab : attributeBase e n X.env (eval e X.env) = eval e X.env := by rfl) : SE X (Kc.mk K (cmOf ns K)) E (propF c n Fu fo) (.Attribute e n pos) :=
  se_prop hX (cmOf_at hin) (atK (p := fun K' => Cls K' (He.ga K c)) hX (clsB_ok h1).c) (atK (p := fun K' => PropOf K' (He.ga K c) n (mA c n K) (pA c n K)) hX (prB_ok h2)) FD he hab
theorem q_cm {x m : Str} {fa fk : Fx (List D)} {es : List Expr} {kws : List Keyword} {ks : List Str} {np apos pos : Pos} (pl : Sem Bool) (hX : XOk X (Kc.mk K (cmOf ns K)) k E) (h2 : cmB x m K = true) (FD : FnD X.prog X.w (Kc.mk K (cmOf ns K)) X.mg X.base k (cA x m K) fd Fu) (hm : X.mg x = some (.ref (He.ga K x)))
    (ha : SA X (Kc.mk K (cmOf ns K)) E fa es) (hk : SK X (Kc.mk K (cmOf ns K)) E fk kws)
    (ht : eval (.Call (.Attribute (.Name x np) m apos) es kws pos) X.env = (do
      let ov ← eval (.Name x np) X.env
      standAt apos.atName
      let (f, first) ← holding [ov] (getMethod ov m pl)
      callWith pos f first (backTo pos (starEach es X.env)) (backToKw pos (keywordEach kws X.env))) := by rfl)
    (hin : ns.contains x = true := by decide) (h0 : es = [] → fa = nilF := by first | exact (fun _ => rfl) | exact (fun h => by cases h)) (hg : Gl X x := by rfl) (hp : Plain X es kws ks pos := by exact ⟨fun e r h => by cases h <;> rfl, fun e r h => by cases h <;> rfl, rfl, rfl, rfl⟩) (hdb : (x == ("__debug__" : Str)) = false := by decide) :
    SE X (Kc.mk K (cmOf ns K)) E (cmF x Fu fa ks fk) (.Call (.Attribute (.Name x np) m apos) es kws pos) :=
  se_cm hX (cmOf_at hin) (atK (p := fun K' => CMetF K' (He.ga K x) (.type "type") m (mA x m K) (cA x m K)) hX (cmB_ok h2)) FD hg hm ha h0 hk hp hdb ht
-- o(..)
theorem q_callO {c : Str} {fo : Fx D} {fa fk : Fx (List D)} {fe : Expr} {es : List Expr} {kws : List Keyword} {ks : List Str} {pos : Pos} (hX : XOk X (Kc.mk K (cmOf ns K)) k E) (h2 : spB c "__call__" K = true) (FD : FnD X.prog X.w (Kc.mk K (cmOf ns K)) X.mg X.base k (mA c "__call__" K) fd Fu)
    (ho : SE X (Kc.mk K (cmOf ns K)) E fo fe) (ha : SA X (Kc.mk K (cmOf ns K)) E fa es) (hk : SK X (Kc.mk K (cmOf ns K)) E fk kws)
    (ht : eval (.Call fe es kws pos) X.env = (do callWith pos (← eval fe X.env) [] (backTo pos (starEach es X.env)) (backToKw pos (keywordEach kws X.env))) := by rfl)
    (hin : ns.contains c = true := by decide) (h0 : es = [] → fa = nilF := by first | exact (fun _ => rfl) | exact (fun h => by cases h)) (hp : Plain X es kws ks pos := by exact ⟨fun e r h => by cases h <;> rfl, fun e r h => by cases h <;> rfl, rfl, rfl, rfl⟩) : SE X (Kc.mk K (cmOf ns K)) E (callOF c Fu fo fa ks fk) (.Call fe es kws pos) :=
  se_callO hX (cmOf_at hin) (atK (p := fun K' => SpF K' (He.ga K c) "__call__" (mA c "__call__" K)) hX (spB_ok h2)) FD ho ha h0 hk hp ht
-- operators
def opOF (c : Str) (t : Ty) (F : Fn) (fa fb : Fx D) : Fx D := fun ρ st => (fa ρ st).bind fun x st1 => (fb ρ st1).bind fun y st2 => opO c t F x y st2
theorem q_op {c : Str} {op : Operator} {a b : Expr} {fa fb : Fx D} {pos : Pos} (hX : XOk X (Kc.mk K (cmOf ns K)) k E) (h1 : clsB c K = true) (h2 : spB c (PySem.dunder op.info.2) K = true) (FD : FnD X.prog X.w (Kc.mk K (cmOf ns K)) X.mg X.base k (mA c (PySem.dunder op.info.2) K) fd Fu) (ha : SE X (Kc.mk K (cmOf ns K)) E fa a) (hb : SE X (Kc.mk K (cmOf ns K)) E fb b) (hin : ns.contains c = true := by decide) :
    SE X (Kc.mk K (cmOf ns K)) E (opOF c (.c c) Fu fa fb) (.BinOp a op b pos) :=
  se_bin ha hb (os_own hX (cmOf_at hin) (atK (p := fun K' => ClsF K' (He.ga K c)) hX (clsB_ok h1)) (atK (p := fun K' => SpF K' (He.ga K c) (PySem.dunder op.info.2) (mA c (PySem.dunder op.info.2) K)) hX (spB_ok h2)) FD)
theorem q_opI {c : Str} {op : Operator} {a b : Expr} {fa fb : Fx D} {pos : Pos} (hX : XOk X (Kc.mk K (cmOf ns K)) k E) (h1 : clsB c K = true) (h2 : spB c (PySem.dunder op.info.2) K = true) (h3 : pwB c op.info.2 K = true) (FD : FnD X.prog X.w (Kc.mk K (cmOf ns K)) X.mg X.base k (mA c (PySem.dunder op.info.2) K) fd Fu) (ha : SE X (Kc.mk K (cmOf ns K)) E fa a) (hb : SE X (Kc.mk K (cmOf ns K)) E fb b) (hin : ns.contains c = true := by decide) :
    SE X (Kc.mk K (cmOf ns K)) E (opOF c (.b "int") Fu fa fb) (.BinOp a op b pos) :=
  se_bin ha hb (os_ownI hX (cmOf_at hin) (atK (p := fun K' => ClsF K' (He.ga K c)) hX (clsB_ok h1)) (atK (p := fun K' => SpF K' (He.ga K c) (PySem.dunder op.info.2) (mA c (PySem.dunder op.info.2) K)) hX (spB_ok h2)) (atK (p := fun K' => PwF K' (He.ga K c) op.info.2) hX (pwB_ok h3)) FD)
def eqOF (oc : List Str) (c : Str) (F : Fn) (fa fb : Fx D) : Fx D := fun ρ st => (fa ρ st).bind fun x st1 => (fb ρ st1).bind fun y st2 => eqO oc c false F x y st2
def neOF (oc : List Str) (c : Str) (F : Fn) (fa fb : Fx D) : Fx D := fun ρ st => (fa ρ st).bind fun x st1 => (fb ρ st1).bind fun y st2 => noEx (eqO oc c true F x y st2)
theorem q_eqO {oc : List Str} {c : Str} {a b : Expr} {fa fb : Fx D} {pos : Pos} (hX : XOk X (Kc.mk K (cmOf ns K)) (k + 1) E) (ho : Ocs (Kc.mk K (cmOf ns K)) oc) (h2 : eqB c K = true) (FD : FnD X.prog X.w (Kc.mk K (cmOf ns K)) X.mg X.base k (mA c "__eq__" K) fd Fu) (ha : SE X (Kc.mk K (cmOf ns K)) E fa a) (hb : SE X (Kc.mk K (cmOf ns K)) E fb b) (hin : ns.contains c = true := by decide) (hc : c ∈ oc := by decide) (hm : behindInMarks .Eq b = false := by rfl) :
    SE X (Kc.mk K (cmOf ns K)) E (eqOF oc c Fu fa fb) (.Compare a [.Eq] [b] pos) :=
  se_cmp ha hb (os_eqO hX ho hc (cmOf_at hin) (atK (p := fun K' => EqF K' (He.ga K c) (mA c "__eq__" K)) hX (eqB_ok h2)) FD) hm
theorem q_neO {oc : List Str} {c : Str} {a b : Expr} {fa fb : Fx D} {pos : Pos} (hX : XOk X (Kc.mk K (cmOf ns K)) (k + 1) E) (ho : Ocs (Kc.mk K (cmOf ns K)) oc) (h2 : eqB c K = true) (FD : FnD X.prog X.w (Kc.mk K (cmOf ns K)) X.mg X.base k (mA c "__eq__" K) fd Fu) (ha : SE X (Kc.mk K (cmOf ns K)) E fa a) (hb : SE X (Kc.mk K (cmOf ns K)) E fb b) (hin : ns.contains c = true := by decide) (hc : c ∈ oc := by decide) (hm : behindInMarks .NotEq b = false := by rfl) :
    SE X (Kc.mk K (cmOf ns K)) E (neOF oc c Fu fa fb) (.Compare a [.NotEq] [b] pos) :=
  se_cmp ha hb (os_neO hX ho hc (cmOf_at hin) (atK (p := fun K' => EqF K' (He.ga K c) (mA c "__eq__" K)) hX (eqB_ok h2)) FD) hm
theorem t_eqO {oc : List Str} {c : Str} {a b : Expr} {fa fb : Fx D} {pos : Pos} (hX : XOk X (Kc.mk K (cmOf ns K)) (k + 1) E) (ho : Ocs (Kc.mk K (cmOf ns K)) oc) (h2 : eqB c K = true) (FD : FnD X.prog X.w (Kc.mk K (cmOf ns K)) X.mg X.base k (mA c "__eq__" K) fd Fu) (ha : SE X (Kc.mk K (cmOf ns K)) E fa a) (hb : SE X (Kc.mk K (cmOf ns K)) E fb b) (hin : ns.contains c = true := by decide) (hc : c ∈ oc := by decide) (hm : behindInMarks .Eq b = false := by rfl) :
    ST X (Kc.mk K (cmOf ns K)) E (tst (eqOF oc c Fu fa fb)) (.Compare a [.Eq] [b] pos) :=
  st_cmp hX ha hb (os_eqO hX ho hc (cmOf_at hin) (atK (p := fun K' => EqF K' (He.ga K c) (mA c "__eq__" K)) hX (eqB_ok h2)) FD) hm
theorem t_neO {oc : List Str} {c : Str} {a b : Expr} {fa fb : Fx D} {pos : Pos} (hX : XOk X (Kc.mk K (cmOf ns K)) (k + 1) E) (ho : Ocs (Kc.mk K (cmOf ns K)) oc) (h2 : eqB c K = true) (FD : FnD X.prog X.w (Kc.mk K (cmOf ns K)) X.mg X.base k (mA c "__eq__" K) fd Fu) (ha : SE X (Kc.mk K (cmOf ns K)) E fa a) (hb : SE X (Kc.mk K (cmOf ns K)) E fb b) (hin : ns.contains c = true := by decide) (hc : c ∈ oc := by decide) (hm : behindInMarks .NotEq b = false := by rfl) :
    ST X (Kc.mk K (cmOf ns K)) E (tst (neOF oc c Fu fa fb)) (.Compare a [.NotEq] [b] pos) :=
  st_cmp hX ha hb (os_neO hX ho hc (cmOf_at hin) (atK (p := fun K' => EqF K' (He.ga K c) (mA c "__eq__" K)) hX (eqB_ok h2)) FD) hm
end
end Px

/-! Px38: more rules in short: raise, try, isinstance. -/
namespace Px
open PySem PySem.Spec PyProof.Rows L2
def badS : FS := fun _ _ => .bad
def badF : Fx D := fun _ _ => .bad
section
variable {X : Cx} {C : Kc} {K : PySem.W.Frag} {ns : List Str} {E : L2.St → XK} {k : Nat} {fd : FuncData} {Fu : Fn}
theorem s_bad {s : Stmt} : SS X C E badS s := ⟨fun _ _ _ _ _ _ ⟨_, _, _, _, _, h⟩ => h.elim⟩
theorem q_bad {e : Expr} : SE X C E badF e := ⟨fun _ _ _ _ _ _ ⟨_, _, _, _, _, h⟩ => h.elim⟩
-- raise
theorem rsB_ok {x : Str} (h : rsB x K = true) : PySem.W.keepIn K (.ref (He.ga K x)) = true ∧ PySem.W.subIn K (.ref (He.ga K x)) (.type "BaseException") = some true ∧ PySem.W.typeIn K (.ref (He.ga K x)) = some (.type "type") := by
  unfold rsB at h
  simpa only [Bool.and_eq_true, decide_eq_true_eq] using h
theorem errX {x q : Str} {st : Stmt} (hX : XOk X (Kc.mk K (cmOf ns K)) (k + 1) E) (er : ErrK X.prog K (He.ga K x) (He.ga K x) (mA x "__init__" K) (ccA x K) q st fd) (sc : InitSc st) (hr : rsB x K = true) (hm : X.mg x = some (.ref (He.ga K x))) (hs : X.mg "super" = none) (hg : Gl X x) :
    ErrX X k (He.ga K x) (He.ga K x) (mA x "__init__" K) (ccA x K) q st fd x := by
  have e : X.K = K := hX.K
  obtain ⟨r1, r2, r3⟩ := rsB_ok hr
  exact ⟨by rw [e]; exact er, sc, hX.room, by rw [e]; exact r1, by rw [e]; exact r2, by rw [e]; exact r3, hg, hm, hs⟩
theorem s_raise0 {x q : Str} {st : Stmt} {p pos rpos : Pos} (hX : XOk X (Kc.mk K (cmOf ns K)) (k + 1) E) (er : ∃ fd, ErrK X.prog K (He.ga K x) (He.ga K x) (mA x "__init__" K) (ccA x K) q st fd) (sc : InitSc st) (i0 : Init0 st) (hr : rsB x K = true) (hm : X.mg x = some (.ref (He.ga K x))) (hs : X.mg "super" = none) (hin : ns.contains x = true := by decide) (hg : Gl X x := by rfl) (hdb : (x == ("__debug__" : Str)) = false := by decide) :
    SS X (Kc.mk K (cmOf ns K)) E (raise0F x) (.Raise (some (.Call (.Name x p) [] [] pos)) none rpos) := by
  obtain ⟨fd, er⟩ := er
  exact ss_raise0 hX (errX hX er sc hr hm hs hg) i0 (cmOf_at hin) hdb
theorem s_raise1 {x q attr : Str} {st : Stmt} {f : Fx D} {e : Expr} {p pos rpos : Pos} (hX : XOk X (Kc.mk K (cmOf ns K)) (k + 1) E) (er : ∃ fd, ErrK X.prog K (He.ga K x) (He.ga K x) (mA x "__init__" K) (ccA x K) q st fd) (sc : InitSc st) (i1 : Init1 st attr) (hr : rsB x K = true) (htk : tkB x attr K = true) (hm : X.mg x = some (.ref (He.ga K x))) (hs : X.mg "super" = none) (he : SE X (Kc.mk K (cmOf ns K)) E f e) (hin : ns.contains x = true := by decide) (hg : Gl X x := by rfl) (hdb : (x == ("__debug__" : Str)) = false := by decide)
    (hst : starEach [e] X.env = (false, eval e X.env) :: starEach [] X.env := by rfl) (hpl : (backTo pos (starEach [] X.env)).any (·.1) = false := by rfl) :
    SS X (Kc.mk K (cmOf ns K)) E (raise1F x attr f) (.Raise (some (.Call (.Name x p) [e] [] pos)) none rpos) := by
  obtain ⟨fd, er⟩ := er
  exact ss_raise1 hX (errX hX er sc hr hm hs hg) i1 (atK (p := fun K' => PySem.W.takerIn K' (He.ga K x) attr = some none) hX (He.eqO_ok htk)) (cmOf_at hin) he hdb hst hpl
-- try
theorem s_try {i : Nat} {fb : FS} {fs : XS} {tab : List (Str × Bool)} {x n : Str} {body : List Stmt} {s0 : Stmt} {np pos pos' : Pos} (hX : XOk X (Kc.mk K (cmOf ns K)) k E) (ht : tabB x tab K = true) (hm : X.mg x = some (.ref (He.ga K x)))
    (hb : ∀ (W : WX) (pn : List (Addr × Obj)) (xe : Value → Shared → Prop), XOk (X.tr pn xe) (Kc.mk K (cmOf ns K)) k (fun σ => fun cls d H => W cls d σ H) → PassesOwn (model X.prog X.w) X.A X.env xe → SSs (X.tr pn xe) (Kc.mk K (cmOf ns K)) (fun σ => fun cls d H => W cls d σ H) fb body)
    (hsu : ∀ (a : Addr) (oe : Obj) (cls : Value) (d : Option Addr) (pn : List (Addr × Obj)), Zc cls d oe → (∃ vs, oe.data = .fields vs) → SU (X.suite a ((a, oe) :: pn)) (Kc.mk K (cmOf ns K)) a cls d i fs s0)
    (hs : X.stack = X.env :: X.outer := by rfl) (hf : X.env.frame = some X.env.locals := by rfl) (hi : X.N[i]? = some n := by rfl) (hln : X.env.kindOf n = some .local := by rfl) (hg : Gl X x := by rfl) (hdb : (x == ("__debug__" : Str)) = false := by decide) :
    SS X (Kc.mk K (cmOf ns K)) E (tryF i tab fb fs) (.Try body [.ExceptHandler (some (.Name x np)) (some n) [s0] pos'] [] [] pos) :=
  ss_try (cv := .ref (He.ga K x)) hX hs hf hi hln ⟨hg, hdb, .inl hm⟩ (by
    have e : X.K = K := hX.K
    rw [e]; exact tabB_ok ht) hb hsu
-- three at once, list(zip())
theorem s_par3 {i j l : Nat} {x y z : Str} {a b c : Expr} {f : Fx (List D)} {px py pz pt pos pt2 : Pos} {kt k2 : Nat} (hX : XOk X C k E) (ha : SA X C E f [a, b, c]) (hi : X.N[i]? = some x := by rfl) (hj : X.N[j]? = some y := by rfl) (hl : X.N[l]? = some z := by rfl) (hij : i ≠ j := by decide) (hil : i ≠ l := by decide) (hjl : j ≠ l := by decide)
    (hx : X.env.scope.names.lookup x = some .local := by rfl) (hy : X.env.scope.names.lookup y = some .local := by rfl) (hz : X.env.scope.names.lookup z = some .local := by rfl)
    (hw : swappedStores [.Tuple [.Name x px, .Name y py, .Name z pz] kt pt] (.Tuple [a, b, c] k2 pt2) X.env = pure (some [x, y, z]) := by rfl)
    (hs : swapsWithSole [.Tuple [.Name x px, .Name y py, .Name z pz] kt pt] (.Tuple [a, b, c] k2 pt2) pos.line X.env = pure false := by rfl) :
    SS X C E (par3F i j l f) (.Assign [.Tuple [.Name x px, .Name y py, .Name z pz] kt pt] (.Tuple [a, b, c] k2 pt2) pos) := ss_par3 hX hi hj hl hij hil hjl hx hy hz ha hw hs
theorem q_lz {mu : Nat} {f : Fx (List D)} {a b : Expr} {p p2 pos pos2 : Pos} (hX : XOk X C k E) (hm : X.mg "list" = none) (hm2 : X.mg "zip" = none) (ha : SA X C E f [a, b]) (hg : Gl X "list" := by rfl) (hg2 : Gl X "zip" := by rfl)
    (hs : starEach [a, b] X.env = (false, eval a X.env) :: starEach [b] X.env := by rfl) (hpl : (backTo pos2 (starEach [b] X.env)).any (·.1) = false := by rfl)
    (na : starEach [.Call (.Name "zip" p2) [a, b] [] pos2] X.env = (false, eval (.Call (.Name "zip" p2) [a, b] [] pos2) X.env) :: starEach [] X.env := by rfl) :
    SE X C E (lzF mu f) (.Call (.Name "list" p) [.Call (.Name "zip" p2) [a, b] [] pos2] [] pos) := se_lz hX hg hm hg2 hm2 ha hs hpl na
-- isinstance
theorem q_isinQ {oc : List Str} {t : String} {tn : Str} {f : Fx D} {e : Expr} {p p2 pos : Pos} (hX : XOk X C k E) (ho : Ocs C oc) (he : SE X C E f e) (hm : X.mg "isinstance" = none) (hm2 : X.mg tn = none) (hg : Gl X "isinstance" := by rfl) (hg2 : Gl X tn := by rfl) (hb : bootBuiltins tn = some (.type t) := by decide +kernel) (hn : tn ≠ "__name__" := by decide) (hd : (tn == ("__debug__" : Str)) = false := by decide)
    (hs : starEach [e, .Name tn p2] X.env = (false, eval e X.env) :: starEach [.Name tn p2] X.env := by rfl) (hs2 : starEach [.Name tn p2] X.env = (false, eval (.Name tn p2) X.env) :: starEach [] X.env := by rfl) (hpl : (backTo pos (starEach [.Name tn p2] X.env)).any (·.1) = false := by rfl) :
    SE X C E (isinQ oc t f) (.Call (.Name "isinstance" p) [e, .Name tn p2] [] pos) := se_isinQ hX ho he hg hm hg2 hm2 hb hn hd hs hs2 hpl
theorem q_isinC {oc : List Str} {c : Str} {f : Fx D} {e : Expr} {p p2 pos : Pos} (hX : XOk X (Kc.mk K (cmOf ns K)) k E) (ho : Ocs (Kc.mk K (cmOf ns K)) oc) (he : SE X (Kc.mk K (cmOf ns K)) E f e) (hm : X.mg "isinstance" = none) (hm2 : X.mg c = some (.ref (He.ga K c))) (hc : c ∈ oc := by decide) (hin : ns.contains c = true := by decide) (hg : Gl X "isinstance" := by rfl) (hg2 : Gl X c := by rfl) (hd : (c == ("__debug__" : Str)) = false := by decide)
    (hs : starEach [e, .Name c p2] X.env = (false, eval e X.env) :: starEach [.Name c p2] X.env := by rfl) (hs2 : starEach [.Name c p2] X.env = (false, eval (.Name c p2) X.env) :: starEach [] X.env := by rfl) (hpl : (backTo pos (starEach [.Name c p2] X.env)).any (·.1) = false := by rfl) :
    SE X (Kc.mk K (cmOf ns K)) E (isinC oc c f) (.Call (.Name "isinstance" p) [e, .Name c p2] [] pos) := se_isinC hX ho hc (cmOf_at hin) he hg hm hg2 hm2 hd hs hs2 hpl
-- suites
variable {a : Addr} {cls : Value} {dd : Option Addr} {i : Nat} {oe : Obj} {pn : List (Addr × Obj)}
theorem xa_c {f : Xx D} {g : Xx (List D)} {e : Expr} {es : List Expr} (he : SX X C a cls dd i f e) (hs : SXs X C a cls dd i g es) (hst : starEach (e :: es) X.env = (false, eval e X.env) :: starEach es X.env := by rfl) : SXs X C a cls dd i (xconsF f g) (e :: es) := xa_cons he hs hst
theorem xq_attr {cl n x : Str} {pos p2 : Pos} (hK : X.K = K) (hec : ecB cl K = true) (hno : noB cl n K = true) (hz : Zc cls dd oe) (hf : ∃ vs, oe.data = .fields vs) (hin : ns.contains cl = true := by decide)
    (hN : X.N[i]? = some x := by rfl) (hv : Vis X.env.scope x := by first | exact Or.inl rfl | exact Or.inr (Or.inl rfl) | exact Or.inr (Or.inr rfl)) (hd : (x == ("__debug__" : Str)) = false := by decide) (hcd : (x == ("__classdict__" : Str)) = false := by decide) (hb : attributeBase (.Name x p2) n X.env (eval (.Name x p2) X.env) = eval (.Name x p2) X.env := by rfl) :
    SX (X.suite a ((a, oe) :: pn)) (Kc.mk K (cmOf ns K)) a cls dd i (xattrF cl n) (.Attribute (.Name x p2) n pos) :=
  x_attr (X := X) (cmOf_at hin) (by rw [hK]; exact (ecB_ok hec).2) (by rw [hK]; exact He.noat_ok hno) hz hf hN hv hd hcd hb
theorem xq_isin {cl x y : Str} {b : Bool} {p p2 p3 pos : Pos} (hK : X.K = K) (hec : ecB cl K = true) (hkt : ktB cl y b K = true) (hz : Zc cls dd oe) (hf : ∃ vs, oe.data = .fields vs) (hm : X.mg "isinstance" = none) (hm2 : X.mg y = some (.ref (He.ga K y))) (hin : ns.contains cl = true := by decide)
    (hN : X.N[i]? = some x := by rfl) (hv : Vis X.env.scope x := by first | exact Or.inl rfl | exact Or.inr (Or.inl rfl) | exact Or.inr (Or.inr rfl)) (hd : (x == ("__debug__" : Str)) = false := by decide) (hcd : (x == ("__classdict__" : Str)) = false := by decide)
    (hg : Gl X "isinstance" := by rfl) (hg2 : Gl X y := by rfl) (hd2 : (y == ("__debug__" : Str)) = false := by decide)
    (hs : starEach [.Name x p2, .Name y p3] X.env = (false, eval (.Name x p2) X.env) :: starEach [.Name y p3] X.env := by rfl) (hs2 : starEach [.Name y p3] X.env = (false, eval (.Name y p3) X.env) :: starEach [] X.env := by rfl) (hpl : (backTo pos (starEach [.Name y p3] X.env)).any (·.1) = false := by rfl) :
    SX (X.suite a ((a, oe) :: pn)) (Kc.mk K (cmOf ns K)) a cls dd i (xisinF cl b) (.Call (.Name "isinstance" p) [.Name x p2, .Name y p3] [] pos) :=
  x_isin (X := X) (cmOf_at hin) (by rw [hK]; exact (ecB_ok hec).1) (by rw [hK]; exact of_decide_eq_true hkt) hz hf hN hv hd hcd hg hm hg2 hm2 hd2 hs hs2 hpl
theorem xs_app' {fo : Fx D} {f : Xx (List D)} {o e : Expr} {apos cpos pos : Pos} (hK : X.K = C.K) (ho : SE X C (fun _ => fun _ _ _ => False) fo o) (ha : SXs X C a cls dd i f [e]) (hbase : attributeBase o "append" X.env (eval o X.env) = eval o X.env := by rfl)
    (hfew : ((backTo cpos (starEach [e] X.env)).all (fun x => !x.1) && (backToKw cpos (keywordEach [] X.env)).all (fun x => x.1.isSome) && decide ([e].length + ([] : List Keyword).length + (if ([] : List Keyword).isEmpty then 0 else 1) < 30)) = true := by rfl)
    (hline : (apos.endLine == cpos.line) = true := by rfl) (hs : starEach [e] X.env = (false, eval e X.env) :: starEach [] X.env := by rfl) (hplain : (backTo cpos (starEach [] X.env)).any (·.1) = false := by rfl) (hsw : swapsWith (.Call (.Attribute o "append" apos) [e] [] cpos) none pos.line X.env = pure false := by rfl) :
    SU X C a cls dd i (xappF fo f) (.Expr (.Call (.Attribute o "append" apos) [e] [] cpos) pos) := xs_app hK ho ha hbase hfew hline hs hplain hsw
theorem xs_asg' {j : Nat} {y : Str} {f : Xx D} {e : Expr} {py pos : Pos} (hNd : X.N.Nodup) (he : SX X C a cls dd i f e) (hj : X.N[j]? = some y := by rfl) (hl : Loc X.env.scope y := by first | exact Or.inl rfl | exact Or.inr rfl) (hf : X.fn y = true ∨ X.env.scope.names.lookup y = some .local := by first | exact Or.inr rfl | exact Or.inl rfl)
    (hs : swapsWithSole [.Name y py] e pos.line X.env = pure false := by rfl) (hw : swappedStores [.Name y py] e X.env = pure none := by rfl) (h1 : (assignEach [.Name y py] X.env).map (·.2) = [assign (.Name y py) X.env] := by rfl) : SU X C a cls dd i (xasgF j f) (.Assign [.Name y py] e pos) := xs_asg hNd he hj hl hf hs hw h1
end
end Px

/-! Px39: what a run gives: classes, errors, while. -/
namespace Px
open PySem PySem.Spec PyProof.Rows L2
section
variable {α β : Type} {X : XQ} {ρ : Env} {st : Store} {Q : D → Store → Prop} {QL : List D → Store → Prop} {P : F → Store → Prop}
@[simp] theorem lk_obj {c : Str} {ns : List Str} {us : List D} : look st (.obj c ns us) = some (.obj c ns us) := rfl
@[simp] theorem ty_obj' {c : Str} {ns : List Str} {us : List D} : tyOf st (.obj c ns us) = some (.c c) := rfl
@[simp] theorem W_bad1 {e : Env} : W (badS e st) P X ↔ False := Iff.rfl
@[simp] theorem W_bad2 {e : Env} : W (badF e st) Q X ↔ False := Iff.rfl
@[simp] theorem W_mk {c : Str} {fr : Bool} {F : Fn} {fa fk : Fx (List D)} {ks : List Str} : W (mkF c fr F fa ks fk ρ st) Q X ↔ W (fa ρ st) (fun xs st1 => W (fk ρ st1) (fun us st2 => W (mkRun c fr F xs ks us st2) Q X) X) X := by unfold mkF; simp
@[simp] theorem W_attr {c n : Str} {f : Fx D} : W (attrF c n f ρ st) Q X ↔ W (f ρ st) (fun x st1 => W (attrO c n x st1) Q X) X := by unfold attrF; simp
@[simp] theorem W_attrO {c n : Str} {ns : List Str} {us : List D} : W (attrO c n (.obj c ns us) st) Q X ↔ ∃ d, lookN n ns us = some d ∧ Q d st := by
  unfold attrO; simp
theorem W_attrOc {c n : Str} {ns : List Str} {us : List D} {i : Nat} (h : st[i]? = some (.ins c ns us)) : W (attrO c n (.cell i) st) Q X ↔ ∃ d, lookN n ns us = some d ∧ Q d st := by
  unfold attrO; rw [look_at h]; simp [moD]
@[simp] theorem W_setA {c n : Str} {fo fv : Fx D} : W (setAF c n fo fv ρ st) P X ↔ W (fv ρ st) (fun v st1 => W (fo ρ st1) (fun o st2 => ∃ st', setA c n o v st2 = some st' ∧ P (.nx ρ) st') (fun c ns us st1 => P (.xc c ns us ρ) st1)) (fun c ns us st1 => P (.xc c ns us ρ) st1) := by
  unfold setAF
  simp only [W_runE]
  cases fv ρ st with
  | ok v st1 =>
    simp only [W_ok]
    cases fo ρ st1 with
    | ok o st2 => simp only [W_ok]; cases setA c n o v st2 <;> simp
    | ex c ns us st => simp
    | bad => simp
  | ex c ns us st => simp
  | bad => simp
@[simp] theorem W_meth {c m : Str} {F : Fn} {fo : Fx D} {fa fk : Fx (List D)} {ks : List Str} : W (methF c m F fo fa ks fk ρ st) Q X ↔ W (fo ρ st) (fun x st1 => ∃ ns us0, look st1 x = some (.obj c ns us0) ∧ lookN m ns us0 = none ∧ W (fa ρ st1) (fun xs st2 => W (fk ρ st2) (fun us st3 => ∃ vs, F.bind (x :: xs) ks us = some vs ∧ W (F.run vs st3) Q X) X) X) X := by
  unfold methF; simp only [W_bind]
  cases fo ρ st with
  | ok x st1 =>
    simp only [W_ok]
    cases e : look st1 x with
    | none => simp
    | some y =>
      cases y with
      | obj c' ns us0 =>
        simp only [Option.some.injEq, D.obj.injEq]
        by_cases h : c' = c ∧ lookN m ns us0 = none
        · obtain ⟨rfl, h2⟩ := h
          rw [if_pos ⟨rfl, h2⟩]
          constructor
          · intro z
            refine ⟨ns, us0, ⟨rfl, rfl, rfl⟩, h2, ?_⟩
            simp only [W_bind] at z
            refine z.mono (fun xs st2 z => z.mono (fun us st3 z => ?_) fun _ _ _ _ z => z) fun _ _ _ _ z => z
            cases q : F.bind (x :: xs) ks us with
            | none => rw [q] at z; exact z.elim
            | some vs => rw [q] at z; exact ⟨vs, rfl, z⟩
          · rintro ⟨ns', us', ⟨_, rfl, rfl⟩, _, z⟩
            simp only [W_bind]
            refine z.mono (fun xs st2 z => z.mono (fun us st3 z => ?_) fun _ _ _ _ z => z) fun _ _ _ _ z => z
            obtain ⟨vs, q, z⟩ := z
            rw [q]; exact z
        · rw [if_neg h]
          constructor
          · intro z; exact z.elim
          · rintro ⟨ns', us', ⟨rfl, rfl, rfl⟩, h2, _⟩
            exact absurd ⟨rfl, h2⟩ h
      | _ => simp
  | ex c ns us st => simp
  | bad => simp
@[simp] theorem W_prop {c n : Str} {F : Fn} {fo : Fx D} : W (propF c n F fo ρ st) Q X ↔ W (fo ρ st) (fun x st1 => ∃ ns us0, look st1 x = some (.obj c ns us0) ∧ ∃ vs, F.bind [x] [] [] = some vs ∧ W (F.run vs st1) Q noX) X := by
  unfold propF; simp only [W_bind]
  cases fo ρ st with
  | ok x st1 =>
    simp only [W_ok]
    cases e : look st1 x with
    | none => simp
    | some y =>
      cases y with
      | obj c' ns us0 =>
        simp only [Option.some.injEq, D.obj.injEq]
        by_cases h : c' = c
        · subst h
          rw [if_pos rfl, W_noEx]
          cases q : F.bind [x] [] [] with
          | none => simp
          | some vs => simp
        · rw [if_neg h]; simp [h]
      | _ => simp
  | ex c ns us st => simp
  | bad => simp
@[simp] theorem W_cm {c : Str} {F : Fn} {fa fk : Fx (List D)} {ks : List Str} : W (cmF c F fa ks fk ρ st) Q X ↔ W (fa ρ st) (fun xs st1 => W (fk ρ st1) (fun us st2 => ∃ vs, F.bind (.ty c :: xs) ks us = some vs ∧ W (F.run vs st2) Q X) X) X := by
  unfold cmF
  cases fa ρ st with
  | ok xs st1 =>
    simp only [R.bind_ok, W_ok]
    cases fk ρ st1 with
    | ok us st2 => simp only [R.bind_ok, W_ok]; cases F.bind (.ty c :: xs) ks us <;> simp
    | ex c ns us st => simp
    | bad => simp
  | ex c ns us st => simp
  | bad => simp
@[simp] theorem W_callO {c : Str} {F : Fn} {fe : Fx D} {fa fk : Fx (List D)} {ks : List Str} : W (callOF c F fe fa ks fk ρ st) Q X ↔ W (fe ρ st) (fun x st1 => ∃ ns us0, x = .obj c ns us0 ∧ W (fa ρ st1) (fun xs st2 => W (fk ρ st2) (fun us st3 => ∃ vs, F.bind (x :: xs) ks us = some vs ∧ W (F.run vs st3) Q X) X) X) X := by
  unfold callOF; simp only [W_bind]
  cases fe ρ st with
  | ok x st1 =>
    simp only [W_ok]
    cases x with
    | obj c' ns us0 =>
      simp only [D.obj.injEq]
      by_cases h : c' = c
      · subst h
        rw [if_pos rfl]
        constructor
        · intro z
          refine ⟨ns, us0, ⟨rfl, rfl, rfl⟩, ?_⟩
          simp only [W_bind] at z
          refine z.mono (fun xs st2 z => z.mono (fun us st3 z => ?_) fun _ _ _ _ z => z) fun _ _ _ _ z => z
          cases q : F.bind (.obj c' ns us0 :: xs) ks us with
          | none => rw [q] at z; exact z.elim
          | some vs => rw [q] at z; exact ⟨vs, rfl, z⟩
        · rintro ⟨ns', us', ⟨_, rfl, rfl⟩, z⟩
          simp only [W_bind]
          refine z.mono (fun xs st2 z => z.mono (fun us st3 z => ?_) fun _ _ _ _ z => z) fun _ _ _ _ z => z
          obtain ⟨vs, q, z⟩ := z
          rw [q]; exact z
      · rw [if_neg h]
        constructor
        · intro z; exact z.elim
        · rintro ⟨ns', us', ⟨rfl, _, _⟩, _⟩
          exact absurd rfl h
    | _ => simp
  | ex c ns us st => simp
  | bad => simp
@[simp] theorem W_opOF {c : Str} {t : Ty} {F : Fn} {fa fb : Fx D} : W (opOF c t F fa fb ρ st) Q X ↔ W (fa ρ st) (fun x st1 => W (fb ρ st1) (fun y st2 => W (opO c t F x y st2) Q X) X) X := by unfold opOF; simp
theorem W_opO {c : Str} {t : Ty} {F : Fn} {ns : List Str} {us0 : List D} {y : D} (h : tyOf st y = some t) : W (opO c t F (.obj c ns us0) y st) Q X ↔ ∃ vs, F.bind [.obj c ns us0, y] [] [] = some vs ∧ W (F.run vs st) Q X := by
  unfold opO
  simp only [lk_obj, h, and_self, if_true]
  cases F.bind [.obj c ns us0, y] [] [] <;> simp
@[simp] theorem W_opOo {c : Str} {F : Fn} {ns ns' : List Str} {us0 us1 : List D} : W (opO c (.c c) F (.obj c ns us0) (.obj c ns' us1) st) Q X ↔ ∃ vs, F.bind [.obj c ns us0, .obj c ns' us1] [] [] = some vs ∧ W (F.run vs st) Q X := W_opO rfl
@[simp] theorem W_opOi {c : Str} {F : Fn} {ns : List Str} {us0 : List D} {i : Int} : W (opO c (.b "int") F (.obj c ns us0) (.int i) st) Q X ↔ ∃ vs, F.bind [.obj c ns us0, .int i] [] [] = some vs ∧ W (F.run vs st) Q X := W_opO rfl
@[simp] theorem W_eqOF {oc : List Str} {c : Str} {F : Fn} {fa fb : Fx D} : W (eqOF oc c F fa fb ρ st) Q X ↔ W (fa ρ st) (fun x st1 => W (fb ρ st1) (fun y st2 => W (eqO oc c false F x y st2) Q X) X) X := by unfold eqOF; simp
@[simp] theorem W_neOF {oc : List Str} {c : Str} {F : Fn} {fa fb : Fx D} : W (neOF oc c F fa fb ρ st) Q X ↔ W (fa ρ st) (fun x st1 => W (fb ρ st1) (fun y st2 => W (eqO oc c true F x y st2) Q noX) X) X := by unfold neOF; simp
theorem W_eqO {oc : List Str} {c : Str} {neg : Bool} {F : Fn} {ns : List Str} {us0 : List D} {y : D} (h : okTy oc (tyOf st y) = true) : W (eqO oc c neg F (.obj c ns us0) y st) Q X ↔ ∃ vs, F.bind [.obj c ns us0, y] [] [] = some vs ∧ W (F.run vs st) (fun d st' => ∃ b, d = .bl b ∧ Q (.bl (neg.xor b)) st') X := by
  unfold eqO
  simp only [lk_obj, h, and_self, if_true]
  cases F.bind [.obj c ns us0, y] [] [] with
  | none => simp
  | some vs =>
    simp only [W_bind, Option.some.injEq, exists_eq_left']
    cases F.run vs st with
    | ok d st' => simp only [W_ok]; cases d <;> simp
    | ex c ns us st => simp
    | bad => simp
@[simp] theorem W_isinC {oc : List Str} {c : Str} {f : Fx D} : W (isinC oc c f ρ st) Q X ↔ W (f ρ st) (fun x st1 => ∃ b, (match tyOf st1 x with | some (.b _) => some false | some (.c d) => if oc.contains d then some (decide (d = c)) else none | none => none) = some b ∧ Q (.bl b) st1) X := by
  unfold isinC; simp only [W_bind]
  cases f ρ st with
  | ok x st1 =>
    simp only [W_ok]
    cases tyOf st1 x with
    | none => simp
    | some t =>
      cases t with
      | b n => simp
      | c d => by_cases h : oc.contains d = true <;> simp_all
  | ex c ns us st => simp
  | bad => simp
@[simp] theorem W_isinQ {oc : List Str} {t : String} {f : Fx D} : W (isinQ oc t f ρ st) Q X ↔ W (f ρ st) (fun x st1 => ∃ b, (match tyOf st1 x with | some (.b n) => if tyNames.contains t then some (n == t || (n == "bool" && t == "int")) else none | some (.c d) => if tyNames.contains t && oc.contains d then some false else none | none => none) = some b ∧ Q (.bl b) st1) X := by
  unfold isinQ; simp only [W_bind]
  cases f ρ st with
  | ok x st1 =>
    simp only [W_ok]
    cases tyOf st1 x with
    | none => simp
    | some t' =>
      cases t' with
      | b n => by_cases h : tyNames.contains t = true <;> simp_all
      | c d =>
        by_cases h : (tyNames.contains t && oc.contains d) = true
        · simp only [if_pos h, W_ok, Option.some.injEq, exists_eq_left']
        · simp only [if_neg h, W_bad, reduceCtorEq, false_and, exists_false]
  | ex c ns us st => simp
  | bad => simp
@[simp] theorem W_par3 {i j l : Nat} {f : Fx (List D)} : W (par3F i j l f ρ st) P X ↔ W (f ρ st) (fun ds st1 => ∃ a b c, ds = [a, b, c] ∧ P (.nx (((ρ.set i (some a)).set j (some b)).set l (some c))) st1) (fun c ns us st1 => P (.xc c ns us ρ) st1) := by
  unfold par3F; rw [W_runE]
  cases f ρ st with
  | ok ds st1 =>
    simp only [W_ok]
    match ds with
    | [] => simp
    | [a] => simp
    | [a, b] => simp
    | [a, b, c] => exact ⟨fun h => ⟨a, b, c, rfl, h⟩, fun ⟨_, _, _, e, h⟩ => by cases e; exact h⟩
    | a :: b :: c :: d :: r => simp
  | ex c ns us st => simp
  | bad => simp
@[simp] theorem W_lz {mu : Nat} {f : Fx (List D)} : W (lzF mu f ρ st) Q X ↔ W (f ρ st) (fun as st1 => ∃ xs ys, as = [.tup xs, .tup ys] ∧ W (mkL mu ((xs.zip ys).map pairD) st1) Q X) X := by
  unfold lzF; simp only [W_bind]
  cases f ρ st with
  | ok as st1 =>
    simp only [W_ok]
    rcases as with _ | ⟨a, _ | ⟨b, _ | ⟨c, r⟩⟩⟩
    · simp
    · cases a <;> simp
    · cases a with
      | tup xs => cases b with
        | tup ys => exact ⟨fun h => ⟨xs, ys, rfl, h⟩, fun ⟨_, _, e, h⟩ => by cases e; exact h⟩
        | _ => simp
      | _ => simp
    · cases a <;> cases b <;> simp
  | ex c ns us st => simp
  | bad => simp
@[simp] theorem W_raise0 {c : Str} : W (raise0F c ρ st) P X ↔ P (.xc c [] [] ρ) st := Iff.rfl
@[simp] theorem W_raise1 {c a : Str} {f : Fx D} : W (raise1F c a f ρ st) P X ↔ W (f ρ st) (fun d st1 => P (.xc c [a] [d] ρ) st1) (fun c ns us st1 => P (.xc c ns us ρ) st1) := by unfold raise1F; simp
/-! try -/
def onTry (i : Nat) (tab : List (Str × Bool)) (suite : XS) (P : F → Store → Prop) (X : XQ) (fl : F) (st1 : Store) : Prop := match fl with
  | .xc c ns us ρ1 => match tab.lookup c with
    | some true => i < ρ1.length ∧ W (suite c ns us (ρ1.set i none) st1) (fun fl2 st2 => match fl2 with
      | .nx ρ2 => P (.nx (ρ2.set i none)) st2
      | .rt d => P (.rt d) st2
      | _ => False) X
    | some false => P (.xc c ns us ρ1) st1
    | none => False
  | fl => P fl st1
@[simp] theorem W_try {i : Nat} {tab : List (Str × Bool)} {body : FS} {suite : XS} : W (tryF i tab body suite ρ st) P X ↔ W (body ρ st) (onTry i tab suite P X) X := by
  unfold tryF; simp only [W_bind]
  cases body ρ st with
  | ok fl st1 =>
    simp only [W_ok]
    cases fl with
    | xc c ns us ρ1 =>
      unfold onTry
      dsimp only
      cases tab.lookup c with
      | none => exact Iff.rfl
      | some b =>
        cases b with
        | false => exact Iff.rfl
        | true =>
          dsimp only
          by_cases h : i < ρ1.length
          · rw [if_pos h, W_bind]
            simp only [h, true_and]
            cases suite c ns us (ρ1.set i none) st1 with
            | ok fl2 st2 => cases fl2 <;> exact Iff.rfl
            | ex c ns us st => exact Iff.rfl
            | bad => exact Iff.rfl
          · rw [if_neg h]; simp [h]
    | _ => exact Iff.rfl
  | ex c ns us st => simp
  | bad => simp
@[simp] theorem onTry_nx {i : Nat} {tab : List (Str × Bool)} {suite : XS} : onTry i tab suite P X (.nx ρ) st ↔ P (.nx ρ) st := Iff.rfl
@[simp] theorem onTry_rt {i : Nat} {tab : List (Str × Bool)} {suite : XS} {d : D} : onTry i tab suite P X (.rt d) st ↔ P (.rt d) st := Iff.rfl
theorem onTry_xc {i : Nat} {tab : List (Str × Bool)} {suite : XS} {c : Str} {ns : List Str} {us : List D} (h : tab.lookup c = some true) : onTry i tab suite P X (.xc c ns us ρ) st ↔ i < ρ.length ∧ W (suite c ns us (ρ.set i none) st) (fun fl2 st2 => match fl2 with
      | .nx ρ2 => P (.nx (ρ2.set i none)) st2
      | .rt d => P (.rt d) st2
      | _ => False) X := by
  unfold onTry; simp only [h]
variable {c : Str} {ns : List Str} {us : List D}
@[simp] theorem W_xnil : W (xnilF c ns us ρ st) QL X ↔ QL [] st := Iff.rfl
@[simp] theorem W_xcons {f : Xx D} {g : Xx (List D)} : W (xconsF f g c ns us ρ st) QL X ↔ W (f c ns us ρ st) (fun x st1 => W (g c ns us ρ st1) (fun xs st2 => QL (x :: xs) st2) X) X := by unfold xconsF; simp
@[simp] theorem W_xasg {j : Nat} {f : Xx D} : W (xasgF j f c ns us ρ st) P X ↔ W (f c ns us ρ st) (fun d st1 => P (.nx (ρ.set j (some d))) st1) noX := by
  unfold xasgF
  rw [W_asg]
  unfold calmX
  rw [show W (noEx (f c ns us ρ st)) (fun d st1 => ∃ ρ', setT (.name j) d ρ = some ρ' ∧ P (.nx ρ') st1) (fun c ns us st1 => P (.xc c ns us ρ) st1) ↔ _ from W_noEx]
  simp
@[simp] theorem W_xapp {fo : Fx D} {f : Xx (List D)} : W (xappF fo f c ns us ρ st) P X ↔ W (fo ρ st) (fun x st1 => (lstOf st1 x).isSome = true ∧ W (f c ns us ρ st1) (fun xs st2 => W (bmeth .append x xs st2) (fun _ st3 => P (.nx ρ) st3) noX) noX) noX := by
  unfold xappF
  rw [W_runE, W_noEx]
  simp only [W_bind]
  cases fo ρ st with
  | ok d st1 => simp only [W_ok]; cases lstOf st1 d <;> simp
  | ex c ns us st => simp
  | bad => simp
@[simp] theorem W_xattr {cl n : Str} : W (xattrF cl n c ns us ρ st) Q X ↔ c = cl ∧ ∃ d, lookN n ns us = some d ∧ Q d st := by
  unfold xattrF
  by_cases h : c = cl <;> simp [h]
@[simp] theorem W_xisin {cl : Str} {b : Bool} : W (xisinF cl b c ns us ρ st) Q X ↔ c = cl ∧ Q (.bl b) st := by
  unfold xisinF
  by_cases h : c = cl <;> simp [h]
@[simp] theorem W_xtup {f : Xx (List D)} : W (xtupF f c ns us ρ st) Q X ↔ W (f c ns us ρ st) (fun xs st1 => xs.length ≤ lim ∧ Q (.tup xs) st1) X := W_tup (f := f c ns us)
@[simp] theorem W_xlst {mu : Nat} {f : Xx (List D)} : W (xlstF mu f c ns us ρ st) Q X ↔ W (f c ns us ρ st) (fun xs st1 => W (mkL mu xs st1) Q X) X := W_lst (f := f c ns us)
@[simp] theorem W_xite {t f g : Xx D} : W (xiteF t f g c ns us ρ st) Q X ↔ W (t c ns us ρ st) (fun x st1 => ∃ b, truth st1 x = some b ∧ if b then W (f c ns us ρ st1) Q X else W (g c ns us ρ st1) Q X) X := W_ite (t := t c ns us)
/-! while -/
def onWh (fl : F) (st : Store) (k : Env → Store → Prop) (P : F → Store → Prop) : Prop := match fl with
  | .nx ρ1 => k ρ1 st
  | .ct ρ1 => k ρ1 st
  | .bk ρ1 => P (.nx ρ1) st
  | x => P x st
@[simp] theorem onWh_nx {k : Env → Store → Prop} : onWh (.nx ρ) st k P ↔ k ρ st := Iff.rfl
@[simp] theorem onWh_ct {k : Env → Store → Prop} : onWh (.ct ρ) st k P ↔ k ρ st := Iff.rfl
@[simp] theorem onWh_bk {k : Env → Store → Prop} : onWh (.bk ρ) st k P ↔ P (.nx ρ) st := Iff.rfl
@[simp] theorem onWh_rt {k : Env → Store → Prop} {d : D} : onWh (.rt d) st k P ↔ P (.rt d) st := Iff.rfl
@[simp] theorem onWh_xc {k : Env → Store → Prop} : onWh (.xc c ns us ρ) st k P ↔ P (.xc c ns us ρ) st := Iff.rfl
theorem W_while {t : Fx D} {body : FS} {n : Nat} : W (whileLoop t body (n + 1) ρ st) P X ↔ W (t ρ st) (fun x st1 => ∃ b, truth st1 x = some b ∧ if b then W (body ρ st1) (fun fl st2 => onWh fl st2 (fun ρ1 st => W (whileLoop t body n ρ1 st) P X) P) X else P (.nx ρ) st1) (fun c ns us st1 => P (.xc c ns us ρ) st1) := by
  rw [whileLoop, W_runE, W_tst]
  constructor
  · intro z
    refine z.mono (fun x st1 ⟨b, e, z⟩ => ⟨b, e, ?_⟩) fun _ _ _ _ z => z
    cases b with
    | false => exact z
    | true =>
      simp only [if_true, W_bind] at z ⊢
      exact z.mono (fun fl st2 z => by cases fl <;> exact z) fun _ _ _ _ z => z
  · intro z
    refine z.mono (fun x st1 ⟨b, e, z⟩ => ⟨b, e, ?_⟩) fun _ _ _ _ z => z
    cases b with
    | false => exact z
    | true =>
      simp only [if_true, W_bind] at z ⊢
      exact z.mono (fun fl st2 z => by cases fl <;> exact z) fun _ _ _ _ z => z
end
end Px

/-! Px40: sums, tables of numbers, and how they stand as data. -/
namespace Px
open PySem PySem.Spec PyProof.Rows L2
/-- a sum over the first n -/
def Sm : Nat → (Nat → Int) → Int
  | 0, _ => 0
  | n + 1, f => Sm n f + f n
theorem Sm_congr {n : Nat} {f g : Nat → Int} (h : ∀ i, i < n → f i = g i) : Sm n f = Sm n g := by
  induction n with
  | zero => rfl
  | succ n ih => rw [Sm, Sm, ih fun i hi => h i (by omega), h n (by omega)]
theorem Sm_add {n : Nat} {f g : Nat → Int} : Sm n (fun i => f i + g i) = Sm n f + Sm n g := by
  induction n with
  | zero => rfl
  | succ n ih => simp only [Sm]; rw [ih]; omega
theorem Sm_mulL {n : Nat} {a : Int} {f : Nat → Int} : Sm n (fun i => a * f i) = a * Sm n f := by
  induction n with
  | zero => simp [Sm]
  | succ n ih => simp only [Sm]; rw [ih, Int.mul_add]
theorem Sm_mulR {n : Nat} {a : Int} {f : Nat → Int} : Sm n (fun i => f i * a) = Sm n f * a := by
  induction n with
  | zero => simp [Sm]
  | succ n ih => simp only [Sm]; rw [ih, Int.add_mul]
theorem Sm_zero {n : Nat} : Sm n (fun _ => 0) = 0 := by
  induction n with
  | zero => rfl
  | succ n ih => simp only [Sm]; rw [ih]; rfl
theorem Sm_swap {n m : Nat} {f : Nat → Nat → Int} : Sm n (fun i => Sm m fun j => f i j) = Sm m fun j => Sm n fun i => f i j := by
  induction n with
  | zero => simp only [Sm]; rw [Sm_zero]
  | succ n ih => simp only [Sm]; rw [ih, ← Sm_add]
theorem Sm_one {n k : Nat} {f : Nat → Int} (h : k < n) : Sm n (fun i => if i = k then f i else 0) = f k := by
  induction n with
  | zero => omega
  | succ n ih =>
    simp only [Sm]
    by_cases e : n = k
    · subst e
      rw [if_pos rfl]
      have : Sm n (fun i => if i = n then f i else 0) = Sm n fun _ => 0 := Sm_congr fun i hi => if_neg (by omega)
      rw [this, Sm_zero]; omega
    · rw [if_neg e, ih (by omega)]; omega
theorem Sm_front {n : Nat} {f : Nat → Int} : Sm (n + 1) f = f 0 + Sm n fun i => f (i + 1) := by
  induction n with
  | zero => simp [Sm]
  | succ n ih => rw [Sm, ih, Sm]; omega
theorem Sm_list {n : Nat} {f : Nat → Int} : ((List.range n).map f).sum = Sm n f := by
  induction n with
  | zero => rfl
  | succ n ih => rw [List.range_succ, List.map_append, List.sum_append, ih, Sm]; simp
/-- a table of numbers -/
abbrev Tn := Nat → Nat → Int
def mulT (w : Nat) (A B : Tn) : Tn := fun i j => Sm w fun k => A i k * B k j
theorem mulT_assoc {w : Nat} {A B C : Tn} : mulT w (mulT w A B) C = mulT w A (mulT w B C) := by
  funext i j
  unfold mulT
  have e1 : (fun k => (Sm w fun l => A i l * B l k) * C k j) = fun k => Sm w fun l => A i l * B l k * C k j := by
    funext k; rw [← Sm_mulR]
  have e2 : (fun l => A i l * Sm w fun k => B l k * C k j) = fun l => Sm w fun k => A i l * B l k * C k j := by
    funext l; rw [← Sm_mulL]; exact congrArg _ (funext fun k => (Int.mul_assoc _ _ _).symm)
  rw [e1, e2, Sm_swap]
def oneT : Tn := fun i j => if i = j then 1 else 0
theorem mulT_oneL {w i j : Nat} {A : Tn} (h : i < w) : mulT w oneT A i j = A i j := by
  unfold mulT oneT
  rw [Sm_congr (g := fun k => if k = i then A k j else 0) (fun k _ => by
    by_cases e : i = k
    · subst e; simp
    · rw [if_neg e, if_neg (Ne.symm e)]; omega)]
  exact Sm_one (f := fun k => A k j) h
theorem mulT_oneR {w i j : Nat} {A : Tn} (h : j < w) : mulT w A oneT i j = A i j := by
  unfold mulT oneT
  rw [Sm_congr (g := fun k => if k = j then A i k else 0) (fun k _ => by
    by_cases e : k = j
    · subst e; simp
    · rw [if_neg e, if_neg e]; omega)]
  exact Sm_one (f := fun k => A i k) h
def powT (w : Nat) (A : Tn) : Nat → Tn
  | 0 => oneT
  | n + 1 => mulT w A (powT w A n)
/-- alike in the first rows and columns -/
def EqT (m n : Nat) (A B : Tn) : Prop := ∀ i, i < m → ∀ j, j < n → A i j = B i j
theorem EqT.rfl {m n : Nat} {A : Tn} : EqT m n A A := fun _ _ _ _ => Eq.refl _
theorem EqT.symm {m n : Nat} {A B : Tn} (h : EqT m n A B) : EqT m n B A := fun i hi j hj => (h i hi j hj).symm
theorem EqT.trans {m n : Nat} {A B C : Tn} (h : EqT m n A B) (h' : EqT m n B C) : EqT m n A C := fun i hi j hj => (h i hi j hj).trans (h' i hi j hj)
theorem EqT.of_eq {m n : Nat} {A B : Tn} (h : A = B) : EqT m n A B := by subst h; exact EqT.rfl
theorem EqT.mul {w : Nat} {A B C D : Tn} (h : EqT w w A B) (h' : EqT w w C D) : EqT w w (mulT w A C) (mulT w B D) := fun i hi j hj => Sm_congr fun k hk => by rw [h i hi k hk, h' k hk j hj]
theorem powT_add {w : Nat} {A : Tn} : ∀ {a b : Nat}, EqT w w (powT w A (a + b)) (mulT w (powT w A a) (powT w A b))
  | 0, b => by rw [Nat.zero_add]; exact fun i hi j _ => (mulT_oneL hi).symm
  | a + 1, b => by
    rw [Nat.add_right_comm]
    show EqT w w (mulT w A (powT w A (a + b))) (mulT w (mulT w A (powT w A a)) (powT w A b))
    rw [mulT_assoc]
    exact EqT.mul .rfl powT_add
theorem powT_one {w : Nat} {A : Tn} : EqT w w (powT w A 1) A := fun i _ j hj => mulT_oneR hj
theorem powT_succ' {w a : Nat} {A : Tn} : EqT w w (powT w A (a + 1)) (mulT w (powT w A a) A) := powT_add.trans (EqT.mul .rfl powT_one)
theorem powT_comm {w a b : Nat} {A : Tn} : EqT w w (mulT w (powT w A a) (powT w A b)) (mulT w (powT w A b) (powT w A a)) := by
  refine powT_add.symm.trans ?_
  rw [Nat.add_comm]
  exact powT_add
theorem powT_dbl {w : Nat} {A : Tn} : ∀ {a : Nat}, EqT w w (powT w (mulT w A A) a) (powT w A (2 * a))
  | 0 => .rfl
  | a + 1 => by
    show EqT w w (mulT w (mulT w A A) (powT w (mulT w A A) a)) (powT w A (2 * a + 1 + 1))
    refine (EqT.mul .rfl powT_dbl).trans ?_
    rw [mulT_assoc]
    exact .rfl
theorem powT_congr {w : Nat} {A B : Tn} (h : EqT w w A B) : ∀ {a : Nat}, EqT w w (powT w A a) (powT w B a)
  | 0 => .rfl
  | a + 1 => EqT.mul h (powT_congr h)
/-! how great they are -/
def bdT (b : Nat) (A : Tn) : Prop := ∀ i j, (A i j).natAbs < 2 ^ b
theorem bdT.mono {b c : Nat} {A : Tn} (h : bdT b A) (hc : b ≤ c) : bdT c A := fun i j => Nat.lt_of_lt_of_le (h i j) (Nat.pow_le_pow_right (by decide) hc)
theorem Sm_bd {n m : Nat} {f : Nat → Int} (h : ∀ i, (f i).natAbs < m) : (Sm n f).natAbs ≤ n * m := by
  induction n with
  | zero => simp [Sm]
  | succ n ih =>
    rw [Sm]
    have := h n
    have e := Int.natAbs_add_le (Sm n f) (f n)
    rw [Nat.succ_mul]; omega
theorem mul_bd {a b : Nat} {x y : Int} (h : x.natAbs < 2 ^ a) (h' : y.natAbs < 2 ^ b) : (x * y).natAbs < 2 ^ (a + b) := by
  rw [Int.natAbs_mul, Nat.pow_add]
  exact Nat.mul_lt_mul_of_lt_of_lt h h'
theorem bdT.mul {w a b : Nat} {A B : Tn} (h : bdT a A) (h' : bdT b B) (hw : w ≤ 7) : bdT (a + b + 3) (mulT w A B) := fun i j => by
  have e := Sm_bd (n := w) (f := fun k => A i k * B k j) fun k => mul_bd (h i k) (h' k j)
  have : w * 2 ^ (a + b) ≤ 7 * 2 ^ (a + b) := Nat.mul_le_mul_right _ hw
  have p : 0 < 2 ^ (a + b) := Nat.two_pow_pos _
  rw [Nat.pow_add]
  show (Sm w fun k => A i k * B k j).natAbs < _
  omega
theorem bd_one : bdT 1 oneT := fun i j => by unfold oneT; split <;> decide
theorem bdT.pow {w a : Nat} {A : Tn} (h : bdT a A) (hw : w ≤ 7) : ∀ n : Nat, bdT (n * (a + 3) + 1) (powT w A n)
  | 0 => bd_one.mono (by omega)
  | n + 1 => (h.mul (bdT.pow h hw n) hw).mono (by rw [Nat.succ_mul]; omega)
theorem mulOk_bd {a b : Nat} {x y : Int} (h : x.natAbs < 2 ^ a) (h' : y.natAbs < 2 ^ b) (hab : a + b ≤ 100000) : mulOk x y = true := by
  unfold mulOk
  have l : ∀ {z : Int} {c : Nat}, z.natAbs < 2 ^ c → z.natAbs.log2 ≤ c := fun {z c} hz => by
    by_cases e : z.natAbs = 0
    · rw [e]; exact Nat.zero_le _
    · exact Nat.le_of_lt ((Nat.log2_lt e).mpr hz)
  have := l h
  have := l h'
  rw [Bool.or_eq_true]
  exact .inr (decide_eq_true (by omega))
/-! as data -/
def rowD (w : Nat) (f : Nat → Int) : List D := (List.range w).map fun j => .int (f j)
def vecD (w : Nat) (f : Nat → Int) : D := .tup (rowD w f)
def tabD (m w : Nat) (f : Tn) : D := .tup ((List.range m).map fun i => vecD w (f i))
@[simp] theorem rowD_len {w : Nat} {f : Nat → Int} : (rowD w f).length = w := by simp [rowD]
theorem rowD_congr {w : Nat} {f g : Nat → Int} (h : ∀ j, j < w → f j = g j) : rowD w f = rowD w g := List.map_congr_left fun j hj => by rw [h j (List.mem_range.mp hj)]
theorem vecD_congr {w : Nat} {f g : Nat → Int} (h : ∀ j, j < w → f j = g j) : vecD w f = vecD w g := congrArg D.tup (rowD_congr h)
theorem tabD_congr {m w : Nat} {f g : Tn} (h : EqT m w f g) : tabD m w f = tabD m w g := congrArg D.tup (List.map_congr_left fun i hi => vecD_congr fun j hj => h i (List.mem_range.mp hi) j hj)
theorem rowD_at {w k : Nat} {f : Nat → Int} (h : k < w) : (rowD w f)[k]? = some (.int (f k)) := by simp [rowD, h]
theorem atI_row {w k : Nat} {f : Nat → Int} (h : k < w) : atI (rowD w f) (k : Int) = some (.int (f k)) := atI_nat (rowD_at h)
theorem rowD_succ {w : Nat} {f : Nat → Int} : rowD (w + 1) f = .int (f 0) :: rowD w fun j => f (j + 1) := by
  unfold rowD
  rw [List.range_succ_eq_map, List.map_cons, List.map_map]; rfl
theorem rowsD_succ {m w : Nat} {f : Tn} : ((List.range (m + 1)).map fun i => vecD w (f i)) = vecD w (f 0) :: (List.range m).map fun i => vecD w (f (i + 1)) := by
  rw [List.range_succ_eq_map, List.map_cons, List.map_map]; rfl
theorem cut1 {α : Type} {x : α} {xs : List α} : cutL (x :: xs) (some 1) none = xs := by
  unfold cutL
  have e1 : HT.sIx (x :: xs).length 0 (some ((1 : Nat) : Int)) = min 1 (x :: xs).length := HT.sIx_nat _ _ _
  have e1' : HT.sIx (x :: xs).length 0 (some 1) = 1 := e1.trans (by simp)
  have e2 : HT.sIx (x :: xs).length (x :: xs).length none = (x :: xs).length := rfl
  rw [e1', e2]; simp
/-! data that can be shown, compared -/
theorem log2_bd {z : Int} {c : Nat} (h0 : 0 < c) (hz : z.natAbs < 2 ^ c) : z.natAbs.log2 < c := by
  by_cases e : z.natAbs = 0
  · rw [e]; exact h0
  · exact (Nat.log2_lt e).mpr hz
theorem gd_row {w b : Nat} {f : Nat → Int} (h : ∀ j, (f j).natAbs < 2 ^ b) (h0 : 0 < b) (hb : b ≤ 1920) : ∀ x ∈ rowD w f, Gd (b + 1) 0 x := fun x hx => by
  obtain ⟨j, _, rfl⟩ := List.mem_map.mp hx
  exact gd_int (log2_bd h0 (h j)) hb h0
theorem gd_vec {w b : Nat} {f : Nat → Int} (h : ∀ j, (f j).natAbs < 2 ^ b) (h0 : 0 < b) (hb : b ≤ 1920) (hw : w ≤ 7) : Gd 14000 1 (vecD w f) :=
  (gd_tup (gd_row h h0 hb)).mono (by rw [rowD_len]; have : w * (b + 1 + 2) ≤ 7 * 1923 := Nat.mul_le_mul hw (by omega); omega) (by decide)
theorem gd_tab {m w b : Nat} {f : Tn} (h : bdT b f) (h0 : 0 < b) (hb : b ≤ 1920) (hw : w ≤ 7) (hm : m ≤ 7) : Gd 99000 2 (tabD m w f) := by
  refine (gd_tup (w := 14000) (k := 1) fun x hx => ?_).mono ?_ (by decide)
  · obtain ⟨i, _, rfl⟩ := List.mem_map.mp hx
    exact gd_vec (h i) h0 hb hw
  · have : ((List.range m).map fun i => vecD w (f i)).length = m := by simp
    rw [this]; have : m * (14000 + 2) ≤ 7 * 14002 := Nat.mul_le_mul hm (by omega); omega
/-- data of numbers: any size -/
def Ns (k : Nat) (d : D) : Prop := ∃ q, d.py = some q ∧ q.canLay0 = true ∧ q.depth ≤ k
theorem ns_int {i : Int} : Ns 0 (.int i) := ⟨.int i, rfl, rfl, Nat.le_refl _⟩
theorem nss_pys {k : Nat} : ∀ {xs : List D}, (∀ x ∈ xs, Ns k x) → ∃ qs, pys xs = some qs ∧ PyData.canLayAll0 qs = true ∧ PyData.depthAll qs ≤ k
  | [], _ => ⟨[], rfl, rfl, Nat.zero_le _⟩
  | x :: xs, h => by
    obtain ⟨q, a, b, c⟩ := h x List.mem_cons_self
    obtain ⟨qs, a2, b2, c2⟩ := nss_pys (xs := xs) fun y hy => h y (List.mem_cons_of_mem _ hy)
    exact ⟨q :: qs, by rw [pys, a, a2], by simp [PyData.canLayAll0, b, b2], by simp only [PyData.depthAll]; omega⟩
theorem ns_tup {k : Nat} {xs : List D} (h : ∀ x ∈ xs, Ns k x) : Ns (k + 1) (.tup xs) := by
  obtain ⟨qs, a, b, c⟩ := nss_pys h
  exact ⟨.tuple qs, by rw [D.py, a]; rfl, by simpa [PyData.canLay0] using b, by simp only [PyData.depth]; omega⟩
theorem ns_vec {w : Nat} {f : Nat → Int} : Ns 1 (vecD w f) := ns_tup fun x hx => by
  obtain ⟨j, _, rfl⟩ := List.mem_map.mp hx
  exact ns_int
theorem ns_tab {m w : Nat} {f : Tn} : Ns 2 (tabD m w f) := ns_tup fun x hx => by
  obtain ⟨j, _, rfl⟩ := List.mem_map.mp hx
  exact ns_vec
theorem eqD_ns {st : Store} {k : Nat} {d : D} (h : Ns k d) (hk : k ≤ 64) : eqD st d d = some true := by
  obtain ⟨q, a, b, c⟩ := h
  have hs : SeqAt.shaped q = true := by
    unfold SeqAt.shaped
    rw [b]; simp; omega
  have hr : PyData.eqv q q = true := SeqAt.eqv_refl q b
  have hv := view_py (st := st) a
  cases d with
  | str x => simp [eqD]
  | _ => simp [eqD, hv, a, hs, hr]
end Px

/-! Px41: loops by place, objects made. -/
namespace Px
open PySem PySem.Spec PyProof.Rows L2
theorem W.eqn' {α : Type} {r : R α} {a : α} {st : Store} (h : W r (fun x s => x = a ∧ s = st) noX) : r = .ok a st := by
  obtain ⟨x, s, e, rfl, rfl⟩ := h.ok
  exact e
theorem limV' : lim = 1000000 := rfl
section
variable {X : XQ}
open Classical in
/-- a for over items: an invariant by place -/
theorem W_forR {tg : Tg} {body : FS} {g : Option (Nat × List D)} {P : F → Store → Prop} (I : Nat → Px.Env → Store → Prop) : ∀ (xs : List D) (m : Nat) (ρ : Px.Env) (st : Store), I m ρ st →
    (∀ j x ρ st, xs[j]? = some x → I (m + j) ρ st → ∃ ρ1, setT tg x ρ = some ρ1 ∧ W (body ρ1 st) (fun fl st2 => match fl with
      | .nx ρ2 => guardOk st2 g ∧ I (m + j + 1) ρ2 st2
      | .ct ρ2 => guardOk st2 g ∧ I (m + j + 1) ρ2 st2
      | .bk ρ2 => P (.nx ρ2) st2
      | fl => P fl st2) X) → (∀ ρ st, I (m + xs.length) ρ st → P (.nx ρ) st) → W (forLoop tg body g xs ρ st) P X
  | [], m, ρ, st, h, _, k => by
    rw [forLoop]
    exact k ρ st h
  | x :: xs, m, ρ, st, h, hs, k => by
    obtain ⟨ρ1, e1, h1⟩ := hs 0 x ρ st rfl h
    rw [forLoop, e1]
    show W (R.bind (body ρ1 st) _) P X
    rw [W_bind]
    refine h1.mono (fun fl st2 h2 => ?_) fun _ _ _ _ z => z
    have go : ∀ ρ2, guardOk st2 g ∧ I (m + 0 + 1) ρ2 st2 → W (if guardOk st2 g then forLoop tg body g xs ρ2 st2 else .bad) P X := fun ρ2 ⟨hg, hi⟩ => by
      rw [if_pos hg]
      refine W_forR I xs (m + 1) ρ2 st2 hi (fun j y ρ st hy hI => ?_) fun ρ st h => k ρ st (by rw [List.length_cons]; rwa [show m + (xs.length + 1) = m + 1 + xs.length by omega])
      have := hs (j + 1) y ρ st (by simpa using hy) (by rwa [show m + (j + 1) = m + 1 + j by omega])
      rwa [show m + (j + 1) + 1 = m + 1 + j + 1 by omega] at this
    cases fl with
    | nx ρ2 => exact go ρ2 h2
    | ct ρ2 => exact go ρ2 h2
    | bk ρ2 => exact h2
    | rt d => exact h2
    | xc c ns us ρ2 => exact h2
/-- a for whose items are known by place, from the first -/
theorem W_forR0 {tg : Tg} {body : FS} {g : Option (Nat × List D)} {P : F → Store → Prop} (I : Nat → Px.Env → Store → Prop) {xs : List D} {ρ : Px.Env} {st : Store} (h : I 0 ρ st)
    (hs : ∀ j x ρ st, xs[j]? = some x → I j ρ st → ∃ ρ1, setT tg x ρ = some ρ1 ∧ W (body ρ1 st) (fun fl st2 => match fl with
      | .nx ρ2 => guardOk st2 g ∧ I (j + 1) ρ2 st2
      | .ct ρ2 => guardOk st2 g ∧ I (j + 1) ρ2 st2
      | .bk ρ2 => P (.nx ρ2) st2
      | fl => P fl st2) X) (k : ∀ ρ st, I xs.length ρ st → P (.nx ρ) st) : W (forLoop tg body g xs ρ st) P X :=
  W_forR I xs 0 ρ st h (fun j x ρ st hx hI => by
    have := hs j x ρ st hx (by rwa [Nat.zero_add] at hI)
    rwa [Nat.zero_add]) fun ρ st hI => k ρ st (by rwa [Nat.zero_add] at hI)
open Classical in
theorem W_compR' {tg : Tg} {el : Fx D} {ρ' : Px.Env} {Q : List D → Store → Prop} (f : Nat → D) : ∀ (xs : List D) (m : Nat) (acc : List D) (st : Store), (∀ j x, xs[j]? = some x → ∃ ρ1, setT tg x ρ' = some ρ1 ∧ W (el ρ1 st) (fun d st' => d = f (m + j) ∧ st' = st) noX) → Q (acc ++ (List.range xs.length).map fun j => f (m + j)) st →
    W (compLoop tg (fun _ st => .ok (.bl true) st) el none ρ' xs acc st) Q X
  | [], m, acc, st, _, k => by
    rw [compLoop]
    simpa using k
  | x :: xs, m, acc, st, hs, k => by
    obtain ⟨ρ1, e1, h1⟩ := hs 0 x rfl
    rw [compLoop, e1]
    show W (R.bind (noEx (el ρ1 st)) _) Q X
    rw [W_bind, W_noEx]
    refine h1.go fun d st2 ⟨hd, hst⟩ => ?_
    subst hd hst
    rw [if_pos (show guardOk st2 none from True.intro)]
    refine W_compR' f xs (m + 1) _ st2 (fun j y hy => ?_) ?_
    · have := hs (j + 1) y (by simpa using hy)
      rwa [show m + (j + 1) = m + 1 + j by omega] at this
    · rw [List.length_cons, List.range_succ_eq_map, List.map_cons, List.map_map] at k
      rw [List.append_assoc, List.singleton_append]
      have e : (fun j => f (m + 1 + j)) = (fun j => f (m + j)) ∘ Nat.succ := by
        funext j; show f (m + 1 + j) = f (m + (j + 1)); rw [show m + (j + 1) = m + 1 + j by omega]
      rw [e]; exact k
/-- a comprehension, pure, by place -/
theorem W_compR {tg : Tg} {el : Fx D} {ρ' : Px.Env} {Q : List D → Store → Prop} (f : Nat → D) {xs : List D} {st : Store} (hs : ∀ j x, xs[j]? = some x → ∃ ρ1, setT tg x ρ' = some ρ1 ∧ W (el ρ1 st) (fun d st' => d = f j ∧ st' = st) noX) (k : Q ((List.range xs.length).map f) st) :
    W (compLoop tg (fun _ st => .ok (.bl true) st) el none ρ' xs [] st) Q X :=
  W_compR' f xs 0 [] st (fun j x hx => by rw [Nat.zero_add]; exact hs j x hx) (by
    have e : (fun j => f (0 + j)) = f := by funext j; rw [Nat.zero_add]
    rw [e]; exact k)
end
theorem rng1 {n : Int} (h0 : 0 ≤ n) (h1 : n < 1000000) : rngOf [.int n] = some ((List.range n.toNat).map fun (k : Nat) => D.int (k : Int)) := by
  show (if _ then _ else _) = _
  rw [if_pos (by simp; omega)]
theorem rng1n {n : Nat} (h1 : n < 1000000) : rngOf [.int (n : Int)] = some ((List.range n).map fun (k : Nat) => D.int (k : Int)) := rng1 (by omega) (by omega)
@[simp] theorem rng_at {n j : Nat} {x : D} : ((List.range n).map fun (k : Nat) => D.int (k : Int))[j]? = some x ↔ j < n ∧ x = .int (j : Int) := by
  rw [List.getElem?_map]
  by_cases h : j < n
  · rw [List.getElem?_range h]; simp [h, eq_comm]
  · rw [List.getElem?_eq_none (by simpa using h)]; simp [h]
theorem map_at {α : Type} {n j : Nat} {f : Nat → α} {x : α} : ((List.range n).map f)[j]? = some x ↔ j < n ∧ x = f j := by
  rw [List.getElem?_map]
  by_cases h : j < n
  · rw [List.getElem?_range h]; simp [h, eq_comm]
  · rw [List.getElem?_eq_none (by simpa using h)]; simp [h]
theorem zip_rng {n : Nat} {f g : Nat → D} : (((List.range n).map f).zip ((List.range n).map g)).map pairD = (List.range n).map fun j => D.tup [f j, g j] := by
  rw [List.zip_map', List.map_map]; rfl
theorem sum_rng {n : Nat} {f : Nat → Int} {st : Store} {mu : Nat} {Q : D → Store → Prop} {X : XQ} : W (primD mu .sum [.lst ((List.range n).map fun j => .int (f j))] st) Q X ↔ Q (.int (Sm n f)) st := by
  rw [W_sum, Sm_list]
theorem set_last {α : Type} {l : List α} {a b : α} : (l ++ [a]).set l.length b = l ++ [b] := by
  rw [List.set_append_right _ _ (Nat.le_refl _)]; simp
theorem get_last {α : Type} {l : List α} {a : α} : (l ++ [a])[l.length]? = some a := by
  rw [List.getElem?_append_right (Nat.le_refl _)]; simp
/-! stores whose cells hold no later cells -/
mutual
theorem below_mono {n m : Nat} (h : n ≤ m) : ∀ d : D, below n d = true → below m d = true
  | .cell k, q => by rw [below] at q ⊢; have := of_decide_eq_true q; exact decide_eq_true (by omega)
  | .tup xs, q => by rw [below] at q ⊢; exact belows_mono h xs q
  | .lst xs, q => by rw [below] at q ⊢; exact belows_mono h xs q
  | .lck xs, q => by rw [below] at q ⊢; exact belows_mono h xs q
  | .dct _ vs, q => by rw [below] at q ⊢; exact belows_mono h vs q
  | .obj _ _ vs, q => by rw [below] at q ⊢; exact belows_mono h vs q
  | .non, _ => by rw [below]
  | .bl _, _ => by rw [below]
  | .int _, _ => by rw [below]
  | .str _, _ => by rw [below]
  | .ty _, _ => by rw [below]
theorem belows_mono {n m : Nat} (h : n ≤ m) : ∀ ds : List D, belows n ds = true → belows m ds = true
  | [], _ => by rw [belows]
  | d :: ds, q => by
    rw [belows, Bool.and_eq_true] at q ⊢
    exact ⟨below_mono h d q.1, belows_mono h ds q.2⟩
end
mutual
theorem below_no {n : Nat} : ∀ d : D, noCell d = true → below n d = true
  | .cell k, q => by rw [noCell] at q; cases q
  | .tup xs, q => by rw [below]; rw [noCell] at q; exact belows_no xs q
  | .lst xs, q => by rw [below]; rw [noCell] at q; exact belows_no xs q
  | .lck xs, q => by rw [below]; rw [noCell] at q; exact belows_no xs q
  | .dct _ vs, q => by rw [below]; rw [noCell] at q; exact belows_no vs q
  | .obj _ _ vs, q => by rw [below]; rw [noCell] at q; exact belows_no vs q
  | .non, _ => by rw [below]
  | .bl _, _ => by rw [below]
  | .int _, _ => by rw [below]
  | .str _, _ => by rw [below]
  | .ty _, _ => by rw [below]
theorem belows_no {n : Nat} : ∀ ds : List D, noCells ds = true → belows n ds = true
  | [], _ => by rw [belows]
  | d :: ds, q => by
    rw [noCells, Bool.and_eq_true] at q
    rw [belows, Bool.and_eq_true]
    exact ⟨below_no d q.1, belows_no ds q.2⟩
end
theorem moBelow_mono {n m : Nat} (h : n ≤ m) {mo : MO} (q : moBelow n mo = true) : moBelow m mo = true := by
  cases mo with
  | lst xs => exact belows_mono h xs q
  | dct ks vs => exact belows_mono h vs q
  | ins c ns vs => exact belows_mono h vs q
  | dn ks vs =>
    rw [moBelow, Bool.and_eq_true] at q ⊢
    exact ⟨belows_mono h ks q.1, belows_mono h vs q.2⟩
def Wf (st : Store) : Prop := st.all (moBelow st.length) = true
theorem Wf.nil : Wf [] := rfl
theorem Wf.snoc {st : Store} {mo : MO} (h : Wf st) (hm : moBelow (st.length + 1) mo = true) : Wf (st ++ [mo]) := by
  unfold Wf at h ⊢
  rw [List.all_append, Bool.and_eq_true, List.length_append]
  refine ⟨?_, by simpa using hm⟩
  rw [List.all_eq_true] at h ⊢
  exact fun x hx => moBelow_mono (by simp) (h x hx)
theorem Wf.lst {st : Store} {xs : List D} (h : Wf st) (hx : noCells xs = true) : Wf (st ++ [.lst xs]) := h.snoc (belows_no xs hx)
theorem Wf.ins {st : Store} {c : Str} {ns : List Str} {us : List D} (h : Wf st) (hx : noCells us = true) : Wf (st ++ [.ins c ns us]) := h.snoc (belows_no us hx)
theorem wf_dk {st : Store} (h : Dk 2 st) : Wf st := by
  obtain ⟨gs, s, rest, rfl, _, hr⟩ := h
  have : rest = [] := List.eq_nil_of_length_eq_zero (by omega)
  subst this
  show (moBelow 2 _ && (moBelow 2 _ && true)) = true
  have e : moBelow 2 (.lst (gs.map .int)) = true := belows_no _ (noCells_ints gs)
  rw [e]; rfl
section
variable {st : Store} {Q : D → Store → Prop} {X : XQ}
theorem W_closeW {d : D} {ext : List MO} (h : Wf st) (hd : noCell d = true) : W (close st.length d (st ++ ext)) Q X ↔ Q d st := by
  unfold close
  split
  · rename_i e
    have : ext = [] := List.eq_nil_of_length_eq_zero (by rw [List.length_append] at e; omega)
    subst this
    rw [List.append_nil]; exact Iff.rfl
  · rw [frz_id _ _ hd, List.take_left]
    show W (if st.all (moBelow st.length) = true then _ else _) Q X ↔ _
    rw [if_pos (show st.all (moBelow st.length) = true from h)]; exact Iff.rfl
theorem mk_close {c : Str} {ns : List Str} {us : List D} (h : Wf st) (hu : noCells us = true) : close st.length (.cell st.length) (st ++ [.ins c ns us]) = .ok (.obj c ns us) st := by
  unfold close
  rw [if_neg (by simp)]
  have e : frz (cellV st.length (st ++ [.ins c ns us]) 8) (.cell st.length) = some (.obj c ns us) := by
    rw [frz, cellV, if_neg (Nat.lt_irrefl _), get_last]
    show (frzs _ us).map (D.obj c ns) = _
    rw [frzs_id _ _ hu]; rfl
  rw [e, List.take_left]
  show (if st.all (moBelow st.length) = true then _ else _) = _
  rw [if_pos (show st.all (moBelow st.length) = true from h)]
theorem mkRun_ok {c : Str} {F : Fn} {xs us vs : List D} {ks ns : List Str} {as : List D} (hb : F.bind (.cell st.length :: xs) ks us = some vs) (hr : F.run vs (st ++ [.ins c [] []]) = .ok .non (st ++ [.ins c ns as])) (h : Wf st) (hu : noCells as = true) : mkRun c true F xs ks us st = .ok (.obj c ns as) st := by
  unfold mkRun
  rw [hb]
  dsimp only
  rw [hr]
  dsimp only
  rw [if_pos rfl]
  exact mk_close h hu
end
section
variable {st : Store} {Q : D → Store → Prop} {X : XQ} {mu : Nat}
theorem W_tupleC {n : Nat} {xs : List D} (h : st[n]? = some (.lst xs)) : W (primD mu .tuple [.cell n] st) Q X ↔ xs.length ≤ lim ∧ Q (.tup xs) st := by
  show W (match look st (.cell n) with | some (.lst xs) => mkT xs st | some (.tup xs) => .ok (.tup xs) st | _ => .bad) Q X ↔ _
  rw [look_at h]
  exact W_mkT
@[simp] theorem W_intB {b : Bool} : W (primD mu .int [.bl b] st) Q X ↔ Q (.int (if b then 1 else 0)) st := Iff.rfl
@[simp] theorem W_isN {d : D} : W (cmpD .Is d .non st) Q X ↔ Q (.bl (match d with | .non => true | _ => false)) st := by
  have e : cmpD .Is d .non st = .ok (.bl (match d with | .non => true | _ => false)) st := by cases d <;> rfl
  rw [e]; exact Iff.rfl
@[simp] theorem W_isNN {d : D} : W (cmpD .IsNot d .non st) Q X ↔ Q (.bl (match d with | .non => false | _ => true)) st := by
  have e : cmpD .IsNot d .non st = .ok (.bl (match d with | .non => false | _ => true)) st := by cases d <;> rfl
  rw [e]; exact Iff.rfl
end
theorem noCells_map {α : Type} {f : α → D} : ∀ {l : List α}, (∀ x ∈ l, noCell (f x) = true) → noCells (l.map f) = true
  | [], _ => rfl
  | x :: l, h => by
    rw [List.map_cons, noCells, Bool.and_eq_true]
    exact ⟨h x List.mem_cons_self, noCells_map fun y hy => h y (List.mem_cons_of_mem _ hy)⟩
theorem nc_vec {w : Nat} {f : Nat → Int} : noCell (vecD w f) = true := by
  unfold vecD rowD; rw [noCell]; exact noCells_map fun _ _ => rfl
theorem nc_tab {m w : Nat} {f : Tn} : noCell (tabD m w f) = true := by
  unfold tabD; rw [noCell]; exact noCells_map fun _ _ => nc_vec
end Px

/-! Px42: enumerate over a tuple. -/
namespace PySem
open Sem (wp)
open AutoSeq1 (wpAny_loadPart')
theorem px_enumNewT (l : Addr) (items : Array Value) (n : Nat) (dct : Option Addr) (sl : Array (Option Value)) :
    Meets (Builtin.«enumerate.__new__» ⟨[.type "enumerate", .ref l], []⟩) (fun _ R s => s.heap.get? l = some { cls := .type "tuple", dict := dct, data := .seq items n, slots := sl } ∧
      R (.ok (.ret (.ref (s.heap.push { cls := .type "tuple_iterator", data := .fields #[.ref l, .int 0 0] }).objs.size)))
        { s with heap := (s.heap.push { cls := .type "tuple_iterator", data := .fields #[.ref l, .int 0 0] }).push { cls := .type "enumerate", data := .fields #[.none, .bool false, .ref s.heap.objs.size, rawInt 0, .none, .none] } }) :=
  .of_wp fun prog w A R s h => by
    obtain ⟨hp, g, d, tk, os⟩ := s
    obtain ⟨hl, h⟩ := h
    have hsub := sub_enumerate
    have hL : Heap.IsTuple (Shared.heap ⟨hp, g, d, tk, os⟩) l items := ⟨_, hl, rfl, n, rfl⟩
    wp_walk using wpAny_loadPart' hl
    refine wpAny_stack_any fun st => wpAny_pure ?_
    split
    · rename_i c _ _ _ _ _
      cases (c == Value.type "enumerate")
      · wp_walk using wpAny_loadPart' hl, wpAny_pyIter_tuple hL
        exact ⟨_, rfl, h⟩
      · wp_walk using wpAny_loadPart' hl, wpAny_pyIter_tuple hL
        exact ⟨_, rfl, h⟩
    · wp_walk using wpAny_loadPart' hl, wpAny_pyIter_tuple hL
      exact ⟨_, rfl, h⟩
section
variable {prog : Program} {w : World} {A : Around} {E : Value → Shared → Prop} {s : Shared}
theorem px_callEnumT {l : Addr} {items : Array Value} {Q : Value → Shared → Prop} (hL : s.heap.IsTuple l items)
    (h : ∀ h', IsEnum h' (s.heap.objs.size + 1) s.heap.objs.size 0 .none → h'.IsTupleIter s.heap.objs.size l 0 → h'.objs.size = s.heap.objs.size + 2 →
      (∀ b o, s.heap.get? b = some o → h'.get? b = some o) → Q (.ref (s.heap.objs.size + 1)) { s with heap := h' }) :
    wpAny (model prog w) A (call (.type "enumerate") [.ref l]) Q E s := by
  obtain ⟨⟨c, dct, dt, sl⟩, hl, hc, n, hd⟩ := hL
  replace hc : c = .type "tuple" := hc
  replace hd : dt = .seq items n := hd
  subst hc hd
  refine callType_new F.called_enumerate (by decide) (F.typeCall_enumerate_1 _) (F.newCall_enumerate_1 _) (fun obj => F.args_object_init_2 obj _) F.entry_enumerate_new
    (px_enumNewT l items n dct sl) ⟨hl, ?_⟩
  have hz : (s.heap.push { cls := .type "tuple_iterator", data := .fields #[.ref l, .int 0 0] }).objs.size = s.heap.objs.size + 1 := Heap.size_push ..
  show _ ∧ _
  rw [hz]
  have he : IsEnum ((s.heap.push { cls := .type "tuple_iterator", data := .fields #[.ref l, .int 0 0] }).push
      { cls := .type "enumerate", data := .fields #[.none, .bool false, .ref s.heap.objs.size, rawInt 0, .none, .none] }) (s.heap.objs.size + 1) s.heap.objs.size 0 .none := by
    have := Heap.get?_push_size (s.heap.push { cls := .type "tuple_iterator", data := .fields #[.ref l, .int 0 0] })
      (o := { cls := .type "enumerate", data := .fields #[.none, .bool false, .ref s.heap.objs.size, rawInt 0, .none, .none] }) rfl
    rw [hz] at this; exact this
  refine ⟨⟨_, he, rfl⟩, h _ he ⟨_, Heap.get?_push_of_some _ (Heap.get?_push_size _ rfl), rfl, rfl⟩ (by rw [Heap.size_push, hz]) fun b o x => Heap.get?_push_of_some _ (Heap.get?_push_of_some _ x)⟩
theorem px_drawsT (hh : A.handled = none) (it l : Addr) (hne : l ≠ it) (items : Array Value) :
    Draws prog w A it [it, l] items.size (fun i v => items[i]? = some v) (fun i h => h.IsTupleIter it l i ∧ h.IsTuple l items) where
  live := fun _ _ st => let ⟨o, ho, _⟩ := st.1; ⟨o, ho⟩
  frame := fun _ _ _ st hk => ⟨st.1.at fun o e => hk it (by simp) o e, st.2.at fun o e => hk l (by simp) o e⟩
  item := fun i s Q E hi st hQ => by
    refine RZ.nextOf_tuple_item st.1 st.2 (x := items[i]) (by simp [hi]) fun h' hit' hs' => ?_
    exact hQ _ h' s.toks (by simp [hi]) ⟨hit', st.2.at fun o e => hs'.extBut l o hne e⟩ hs'
  done := fun s Q E st hE => RZ.nextOf_tuple_end hh st.1 st.2 (by simp) hE
theorem px_enumEndT {e it l : Addr} {i : Nat} {j : Int} {items : Array Value} {old : Value} {Q : Option Value → Shared → Prop} (hh : A.in1.handled = none) (he : IsEnum s.heap e it j old) (hit : s.heap.IsTupleIter it l i) (hl : s.heap.IsTuple l items) (hx : items[i]? = none)
    (hQ : ∀ h', Heap.ExtBut it s.heap h' → Q none { s with heap := h' }) : wpAny (model prog w) A (pyNext (.ref e)) Q E s := by
  have hT : s.TypeIs (.ref e) "enumerate" := ⟨_, he, rfl⟩
  unfold pyNext
  refine wpAny_bind (wpAny_attempt (wpAny_callSpecial?_slot (name := Str.ofString "__next__") hT F.slot_enumerate_next
    (wpAny_call_entry F.slot_enumerate_next hT F.entry_enumerate_next ?_ (F.args_enumerate_next_1 _))))
  show wpAny _ _ (field (.ref e) 2 >>= _) _ _ _
  refine wpAny_bind (wpAny_field he rfl (x := .ref it) rfl ?_)
  refine wpAny_bind (RZ.nextOf_tuple_end hh hit hl hx fun h' x he' hx' => ?_)
  obtain ⟨o, ho, hc⟩ := hx'
  refine wpAny_bind (wpAny_isInstance (T := "StopIteration") (b := true) ⟨o, ho, hc⟩ isSubtype_stop ?_)
  exact wpAny_pure (hQ _ he')
end
end PySem
namespace L2
open PySem PySem.Spec PyProof.Rows
/-- the tuple at a, each item in a new pair -/
def IteT (K : PySem.W.Frag) (a : Addr) : It :=
  ⟨fun i H => ∃ (xs : List V) (x : V), SqT K H a xs ∧ xs[i]? = some x, fun i H v H' => ∃ T x, v = .ref T ∧ H T = none ∧ H' = upd H T (.tup [.int (i : Nat), x]) ∧ ∀ xs, SqT K H a xs → xs[i]? = some x, fun i H => ∃ xs : List V, SqT K H a xs ∧ xs.length ≤ i⟩
theorem turn_enumT {P : Program} {w : World} {K : PySem.W.Frag} {elts : List Expr} {kk : Nat} {tpos : Pos} (a e it : Addr) (hal : a ≠ it) (hae : a ≠ e) :
    Turn P w K (.Tuple elts kk tpos) (IteT K a) [e, it] e (fun i h => (∃ old, IsEnum h e it ((i : Nat) : Int) old) ∧ h.IsTupleIter it a i ∧ e ≠ it) where
  mem := by simp
  obj := fun i h st b hb => by
    obtain ⟨⟨old, he⟩, ⟨o, ho, hc, hd⟩, _⟩ := st
    have e' : b = e ∨ b = it := by simpa using hb
    rcases e' with z | z
    · rw [z]; exact ⟨_, he, fun v q => nomatch q⟩
    · rw [z]; exact ⟨o, ho, fun v q => by rw [hd] at q; cases q⟩
  keep := fun i h h' st k => let ⟨⟨old, he⟩, hi, hne⟩ := st; ⟨⟨old, k e (by simp) _ he⟩, hi.at fun o q => k it (by simp) o q, hne⟩
  item := by
    intro X hP hw hK hc i pins s σ H E I hf st hg
    subst hP hw hK
    obtain ⟨⟨old, he⟩, hit, hne⟩ := st
    obtain ⟨xs, x, hq, hx⟩ := hg
    obtain ⟨its, rv, p, hz⟩ := I.tuple hq
    obtain ⟨u, hu, ru⟩ := rv.get hx
    have hel : e < s.heap.objs.size := Heap.lt_size he
    have hil : it < s.heap.objs.size := by obtain ⟨_, q, _⟩ := hit; exact Heap.lt_size q
    have pT : s.heap.IsTuple a its.toArray := p
    have hi : i < its.toArray.size := by
      have := List.getElem?_eq_some_iff.mp hu
      simpa using this.1
    have hh : X.A.in1.handled = none := I.ok.hd hc
    refine wpAny_pyNext_enum_itemD (px_drawsT hh it a hal its.toArray) he ⟨hit, pT⟩ hi hne (by simp [hne, Ne.symm hae]) fun v h' tk hP ho hst hT hsz hk => ?_
    have hv : v = u := by
      have e1 : its.toArray[i]? = some v := hP
      rw [List.getElem?_toArray, hu] at e1
      exact (Option.some.inj e1).symm
    subst hv
    obtain ⟨hit', _⟩ := hst
    refine ⟨_, rfl, wpAny_letOwnedTupleGo_enum (s := { s with heap := h', toks := tk + 1 }) ho fun h'' he' sb => ?_⟩
    have hT2 : h''.get? s.heap.objs.size = some { cls := .type "tuple", data := .seq #[.int i tk, v] } := (sb.2 _ (Nat.ne_of_gt hel)).trans hT
    have new : ObjOk X.prog X.w (upd H s.heap.objs.size (.tup [.int (i : Nat), x])) h'' s.heap.objs.size (.tup [.int (i : Nat), x]) :=
      ⟨by show 2 ≤ sizeLine; decide, [.int i tk, v], .cons ⟨_, rfl⟩ (.cons ru .nil), ⟨_, hT2, rfl, _, rfl⟩⟩
    have I1 : Inv X pins σ (upd H s.heap.objs.size (.tup [.int (i : Nat), x])) { s with heap := h'', toks := tk + 1 } :=
      I.turnedNew (ch := [e, it]) (fun b ob hb q => (sb.2 b (fun z => hb (by simp [z]))).trans (hk b ob (fun z => hb (by simp [z])) (fun z => hb (by simp [z])) q)) hf (Nat.le_refl _) new
    refine ⟨.ref s.heap.objs.size, _, I1, rfl, ⟨_, x, rfl, I.hok.fresh (Nat.le_refl _), rfl, fun ys hy => by rw [I.tuple_inj hy hq]; exact hx⟩, ⟨⟨v, ?_⟩, hit'.at fun o q => (sb.2 it (Ne.symm hne)).trans q, hne⟩, fun b hb => ?_⟩
    · have e1 : ((i + 1 : Nat) : Int) = (i : Int) + 1 := by omega
      rw [e1]; exact he'
    · have hb' : b < s.heap.objs.size := by
        have e' : b = e ∨ b = it := by simpa using hb
        rcases e' with z | z
        · rw [z]; exact hel
        · rw [z]; exact hil
      rw [upd_ne (Nat.ne_of_lt hb')]
      exact (hf b hb).1
  done := by
    intro X hP hw hK hc i pins s σ H E I hf st hg
    subst hP hw hK
    obtain ⟨⟨old, he⟩, hit, hne⟩ := st
    obtain ⟨xs, hq, hx⟩ := hg
    obtain ⟨its, rv, p, hz⟩ := I.tuple hq
    obtain ⟨f0, f1, f2, f3, f4, f5⟩ := hf it (by simp)
    have hl := rv.length
    have pT : s.heap.IsTuple a its.toArray := p
    have hh : X.A.in1.handled = none := I.ok.hd hc
    exact px_enumEndT hh he hit pT (by simp; omega) fun h' eb => ⟨rfl, I.turned (t' := s.toks) (fun b o hb q => eb b o hb q) f0 f1 f3 f4 f5⟩
  self := fun A i s Q E st h => let ⟨⟨_, he⟩, _⟩ := st; wpAny_pyIter_enum he h
def iEnumT (K : PySem.W.Frag) (ta : TA) : TI := fun σ H R => ta σ H fun vs H1 => ∃ a xs, vs = [.ref a] ∧ SqT K H1 a xs ∧ R (IteT K a) H1
theorem pi_enumT {X : Cx} {e : Expr} {ta : TA} {p pos tpos : Pos} {elts : List Expr} {kk : Nat} (hg : Gl X "enumerate") (hm : X.mg "enumerate" = none) (ha : PA X [e] ta) (hs : starEach [e] X.env = [(false, eval e X.env)] := by rfl) :
    PI X (.Tuple elts kk tpos) (.Call (.Name "enumerate" p) [e] [] pos) (iEnumT X.K ta) := by
  refine ⟨fun pins s σ H R I h => ?_⟩
  refine Call_ (ld_blt I hg hm boot_enumerate (PyProof.Rows.callWith_type1 (thn (ha.run pos pins s σ H _ I h) fun us s1 ⟨vs, H1, I1, r1, q1⟩ => ?_) hs rfl))
  obtain ⟨a, xs, ex, hq, q⟩ := q1
  subst ex
  cases r1 with
  | cons r rr =>
    cases rr
    cases r
    obtain ⟨its, rv, p', hz⟩ := I1.tuple hq
    have pT : s1.heap.IsTuple a its.toArray := p'
    have hlt : a < s1.heap.objs.size := by obtain ⟨_, q, _⟩ := pT; exact Heap.lt_size q
    refine px_callEnumT pT fun h' he hit hsz hk => wpAny_pyIter_enum he ?_
    have I2 : Inv X pins σ H1 { s1 with heap := h' } := I1.kept (t' := s1.toks) hk
    refine ⟨s1.heap.objs.size + 1, [s1.heap.objs.size + 1, s1.heap.objs.size], _, _, H1, rfl, I2, turn_enumT a (s1.heap.objs.size + 1) s1.heap.objs.size (Nat.ne_of_lt hlt) (Nat.ne_of_lt (Nat.lt_succ_of_lt hlt)), ⟨⟨.none, he⟩, hit, Nat.succ_ne_self _⟩, fun b hb => ?_, q⟩
    have e' : b = s1.heap.objs.size + 1 ∨ b = s1.heap.objs.size := by simpa using hb
    have hle : s1.heap.objs.size ≤ b := by
      rcases e' with z | z
      · rw [z]; exact Nat.le_add_right _ _
      · rw [z]; exact Nat.le_refl _
    exact I1.fpOk hle (I1.hok.fresh hle)
end L2
namespace Px
open PySem PySem.Spec PyProof.Rows L2
section
variable {X : Cx} {C : Kc} {E : L2.St → XK} {k : Nat}
/-- enumerate of a tuple -/
def enuF (f : Fx (List D)) : Fx Walk := fun ρ st => (f ρ st).bind fun as st1 => match as with
  | [.tup xs] => .ok (((List.range xs.length).zip xs).map (fun p => D.tup [.int (p.1 : Nat), p.2]), none) st1
  | _ => .bad
theorem si_enum {f : Fx (List D)} {elts : List Expr} {kk : Nat} {a : Expr} {p pos tpos : Pos} (hX : XOk X C k E) (hg : Gl X "enumerate") (hm : X.mg "enumerate" = none) (ha : SA X C E f [a]) (hs : starEach [a] X.env = [(false, eval a X.env)]) :
    SI X C E (enuF f) (.Tuple elts kk tpos) (.Call (.Name "enumerate" p) [a] [] pos) :=
  PI.weak (pi_enumT hg hm ha hs) fun σ H RR q => by
    obtain ⟨S, ρ, st, rp, rn, q⟩ := q
    refine ⟨S, ρ, st, rp, rn, Post.bind (rel2 := rI C) q fun as st1 S1 H1 vs g1 rp1 rv1 h1 => ?_⟩
    rcases as with _ | ⟨d, _ | ⟨d2, t⟩⟩
    · exact Post.bad (C := C) h1
    · cases d with
      | tup xs =>
        obtain ⟨v, rfl, r1⟩ := rvs1 rv1
        obtain ⟨l1, vs1, rfl, a1, a2⟩ := rv_tup.mp r1
        rw [← hX.K] at a1
        have h1 : Post C (rI C) S1 H1 (.ok (((List.range xs.length).zip xs).map (fun p => D.tup [.int (p.1 : Nat), p.2]), none) st1) RR (E σ) := h1
        refine ⟨l1, vs1, rfl, sqT_mono rp1.fz a1, h1.end_ (.refl _ _) rp1 ⟨trivial, ?_⟩⟩
        intro S' st' H' ex rp' hgd
        have c1 : SqT X.K H' l1 vs1 := sqT_mono rp'.fz (sqT_mono ex.g a1)
        have d1 := RVs.mono ex a2
        have hlen : (((List.range xs.length).zip xs).map fun p => D.tup [.int (p.1 : Nat), p.2]).length = xs.length := by simp
        refine ⟨fun i hi => ?_, fun i hi => ⟨vs1, c1, ?_⟩, fun i x H'' d e y => ?_⟩
        · rw [hlen, d1.length] at hi
          exact ⟨vs1, vs1[i]'(by omega), c1, List.getElem?_eq_getElem (by omega)⟩
        · rw [hlen, d1.length] at hi
          omega
        · obtain ⟨T, x1, rfl, nT, rfl, f1⟩ := y
          rw [List.getElem?_map] at e
          cases zz : (List.zip (List.range xs.length) xs)[i]? with
          | none => rw [zz] at e; cases e
          | some pr =>
            rw [zz] at e; cases e
            obtain ⟨e1, e2⟩ := zip_get zz
            obtain ⟨y1, g1', g2⟩ := d1.get e2
            have q1 := f1 _ c1
            rw [g1'] at q1; cases q1
            have hpi : pr.1 = i := by
              rw [List.getElem?_eq_some_iff] at e1
              obtain ⟨_, e1⟩ := e1
              rw [List.getElem_range] at e1
              exact e1.symm
            have hT := rp'.free nT
            refine ⟨S'.fz T (.tup [.int (i : Nat), x1]), Go.newF hT nT, rp'.newF nT, rv_tup.mpr ⟨T, _, rfl, .inl (.inl upd_same), ?_⟩⟩
            rw [hpi]
            exact .cons (rv_int.mpr rfl) (.one (g2.mono (Ext.fz hT)))
      | _ => exact Post.bad (C := C) h1
    · cases d <;> exact Post.bad (C := C) h1
theorem i_enum {f : Fx (List D)} {elts : List Expr} {kk : Nat} {a : Expr} {p pos tpos : Pos} (hX : XOk X C k E) (hm : X.mg "enumerate" = none) (ha : SA X C E f [a]) (hg : Gl X "enumerate" := by rfl) (hs : starEach [a] X.env = [(false, eval a X.env)] := by rfl) :
    SI X C E (enuF f) (.Tuple elts kk tpos) (.Call (.Name "enumerate" p) [a] [] pos) := si_enum hX hg hm ha hs
@[simp] theorem W_enu {f : Fx (List D)} {ρ : Env} {st : Store} {QW : Walk → Store → Prop} {X : XQ} : W (enuF f ρ st) QW X ↔ W (f ρ st) (fun as st1 => ∃ xs, as = [.tup xs] ∧ QW (((List.range xs.length).zip xs).map (fun p => D.tup [.int (p.1 : Nat), p.2]), none) st1) X := by
  unfold enuF; simp only [W_bind]
  cases f ρ st with
  | ok as st1 =>
    simp only [W_ok]
    rcases as with _ | ⟨d, _ | ⟨d2, t⟩⟩
    · simp
    · cases d <;> simp
    · cases d <;> simp
  | ex c ns us st => simp
  | bad => simp
end
end Px

/-! Px43: two items of lists set at once. -/
namespace Px
open PySem PySem.Spec PyProof.Rows L2
section
variable {X : Cx} {C : Kc} {E : L2.St → XK} {k : Nat}
def setL (o i v : D) (st : Store) : Option Store := match o with
  | .cell n => match st[n]? with
    | some (.lst xs) => match i with
      | .int k => (ixN xs.length k).map fun j => st.set n (.lst (xs.set j v))
      | _ => none
    | _ => none
  | _ => none
def setLF (fo fi : Fx D) (v : D) (nxt : FS) : FS := runE fo fun o ρ st => runE fi (fun i ρ st => match setL o i v st with
  | some st' => nxt ρ st'
  | none => .bad) ρ st
def swF (fo1 fi1 fo2 fi2 f : Fx D) : FS := runE f fun d ρ st => match d with
  | .tup [x, y] => setLF fo1 fi1 x (setLF fo2 fi2 y fun ρ st => .ok (.nx ρ) st) ρ st
  | _ => .bad
/-- o[i] = v, then what comes -/
theorem setL_step {fo fi : Fx D} {d : D} {v : V} {nxt : FS} {De : Ends} {σ : L2.St} {H : Hp} {S : Rp} {ρ : Env} {st : Store} {Q : L2.St → Hp → Prop} (rp : Rep C S st H) (rn : REnv C S ρ σ) (rd : RV C S d v) (h : PostS C E De S H (setLF fo fi d nxt ρ st))
    (kk : ∀ S' H' st', Ext S S' → Rep C S' st' H' → REnv C S' ρ σ → PostS C E De S' H' (nxt ρ st') → Q σ H') :
    gSub (tF C (rV C) E fo) (tF C (rV C) E fi) (fun o i v H Q => ∃ a vs k j, o = .ref a ∧ i = .int k ∧ H a = some (.lst vs) ∧ ixN vs.length k = some j ∧ Q (upd H a (.lst (vs.set j v)))) v σ H Q := by
  refine ⟨S, ρ, st, rp, rn, runE_post rn h fun o st1 S1 H1 ov g1 rp1 ro h1 => ?_⟩
  refine ⟨S1, ρ, st1, rp1, rn.mono g1.ext, runE_post (rn.mono g1.ext) h1 fun i st2 S2 H2 iv g2 rp2 ri h2 => ?_⟩
  have ro2 : RV C S2 o ov := RV.mono g2.ext ro
  have rd2 : RV C S2 d v := (RV.mono g1.ext rd).mono g2.ext
  cases z : setL o i d st2 with
  | none => rw [z] at h2; exact h2.bad
  | some st3 =>
    rw [z] at h2
    unfold setL at z
    split at z
    · rename_i n
      split at z
      · rename_i xs e1
        split at z
        · rename_i q
          obtain ⟨a, rfl, hm⟩ := rv_cell.mp ro2
          obtain ⟨a', o', q1, q2, q3, q4⟩ := rp2.at_ n _ e1
          rw [hm] at q1; cases q1
          obtain ⟨vs, rfl, q5⟩ := q4
          have ri : RV C S2 (.int q) iv := ri
          rw [rv_int] at ri; subst ri
          cases y2 : ixN xs.length q with
          | none => rw [y2] at z; cases z
          | some j =>
            rw [y2] at z; cases z
            refine ⟨a, vs, q, j, rfl, rfl, q3, by rw [← q5.length]; exact y2, ?_⟩
            have gg := Go.setC (S := S2) (H := H2) (o := .lst (vs.set j v)) hm q3
            refine kk S2 _ _ (g1.ext.trans g2.ext) (rp2.setC (mo := .lst (xs.set j d)) hm ⟨_, rfl, q5.set j rd2⟩) ((rn.mono g1.ext).mono g2.ext) (PostS.go h2 gg)
        · cases z
      · cases z
    · cases z
theorem ss_sw {fo1 fi1 fo2 fi2 f : Fx D} {o1 i1 o2 i2 e : Expr} {p1 p2 pt pos : Pos} {kt : Nat} (hX : XOk X C k E) (ho1 : SE X C E fo1 o1) (hi1 : SE X C E fi1 i1) (ho2 : SE X C E fo2 o2) (hi2 : SE X C E fi2 i2) (he : SE X C E f e)
    (ha1 : ∀ v, assign (.Subscript o1 i1 p1) X.env v = (do
      let ov ← holding [v] (eval o1 X.env)
      let iv ← holding [v, ov] (eval i1 X.env)
      standAt p1
      holding [v, ov, iv] (setItem ov iv v)
      release [v, ov, iv] []))
    (ha2 : ∀ v, assign (.Subscript o2 i2 p2) X.env v = (do
      let ov ← holding [v] (eval o2 X.env)
      let iv ← holding [v, ov] (eval i2 X.env)
      standAt p2
      holding [v, ov, iv] (setItem ov iv v)
      release [v, ov, iv] []))
    (hn : (assignEach [.Subscript o1 i1 p1, .Subscript o2 i2 p2] X.env).length = 2) (hst : (assignEach [.Subscript o1 i1 p1, .Subscript o2 i2 p2] X.env).findIdx? (·.1) = none)
    (hs1 : (assignEach [.Subscript o1 i1 p1, .Subscript o2 i2 p2] X.env).map (·.2) = assign (.Subscript o1 i1 p1) X.env :: (assignEach [.Subscript o2 i2 p2] X.env).map (·.2)) (hs2 : (assignEach [.Subscript o2 i2 p2] X.env).map (·.2) = assign (.Subscript o2 i2 p2) X.env :: (assignEach [] X.env).map (·.2))
    (hs : swapsWithSole [.Tuple [.Subscript o1 i1 p1, .Subscript o2 i2 p2] kt pt] e pos.line X.env = pure false) (hw : swappedStores [.Tuple [.Subscript o1 i1 p1, .Subscript o2 i2 p2] kt pt] e X.env = pure none)
    (h1 : (assignEach [.Tuple [.Subscript o1 i1 p1, .Subscript o2 i2 p2] kt pt] X.env).map (·.2) = [assign (.Tuple [.Subscript o1 i1 p1, .Subscript o2 i2 p2] kt pt) X.env]) :
    SS X C E (swF fo1 fi1 fo2 fi2 f) (.Assign [.Tuple [.Subscript o1 i1 p1, .Subscript o2 i2 p2] kt pt] e pos) :=
  PS.weak (ps_asg he (pg_tup hX.calm (pgs_cons (pg_sub ho1 hi1 set_list ha1) (pgs_cons (pg_sub ho2 hi2 set_list ha2) pgs_nil hs2) hs1) hn hst) hs hw h1) fun De σ H ⟨S, ρ, st, rp, rn, h⟩ => by
    refine ⟨S, ρ, st, rp, rn, runE_post rn h fun d st1 S1 H1 v g1 rp1 rv1 h1 => ?_⟩
    have rn1 := rn.mono g1.ext
    split at h1
    · rename_i x y
      have rv1 : RV C S1 (.tup [x, y]) v := rv1
      obtain ⟨l, vs, rfl, sq, r⟩ := rv_tup.mp rv1
      obtain ⟨vx, vy, rfl, rx, ry⟩ := rvs2 r
      refine ⟨l, _, rfl, by rw [hX.K]; exact sqT_mono rp1.fz sq, rfl, vx, [vy], rfl, setL_step rp1 rn1 rx h1 fun S2 H2 st2 e2 rp2 rn2 h2 => ?_⟩
      exact ⟨vy, [], rfl, setL_step rp2 rn2 (RV.mono e2 ry) h2 fun S3 H3 st3 e3 rp3 rn3 h3 => ⟨rfl, postS_nx h3 rp3 rn3⟩⟩
    · exact h1.bad
theorem s_sw {fo1 fi1 fo2 fi2 f : Fx D} {o1 i1 o2 i2 e : Expr} {p1 p2 pt pos : Pos} {kt : Nat} (hX : XOk X C k E) (ho1 : SE X C E fo1 o1) (hi1 : SE X C E fi1 i1) (ho2 : SE X C E fo2 o2) (hi2 : SE X C E fi2 i2) (he : SE X C E f e)
    (ha1 : ∀ v, assign (.Subscript o1 i1 p1) X.env v = (do
      let ov ← holding [v] (eval o1 X.env)
      let iv ← holding [v, ov] (eval i1 X.env)
      standAt p1
      holding [v, ov, iv] (setItem ov iv v)
      release [v, ov, iv] []) := by exact fun _ => rfl)
    (ha2 : ∀ v, assign (.Subscript o2 i2 p2) X.env v = (do
      let ov ← holding [v] (eval o2 X.env)
      let iv ← holding [v, ov] (eval i2 X.env)
      standAt p2
      holding [v, ov, iv] (setItem ov iv v)
      release [v, ov, iv] []) := by exact fun _ => rfl)
    (hn : (assignEach [.Subscript o1 i1 p1, .Subscript o2 i2 p2] X.env).length = 2 := by rfl) (hst : (assignEach [.Subscript o1 i1 p1, .Subscript o2 i2 p2] X.env).findIdx? (·.1) = none := by rfl)
    (hs1 : (assignEach [.Subscript o1 i1 p1, .Subscript o2 i2 p2] X.env).map (·.2) = assign (.Subscript o1 i1 p1) X.env :: (assignEach [.Subscript o2 i2 p2] X.env).map (·.2) := by rfl) (hs2 : (assignEach [.Subscript o2 i2 p2] X.env).map (·.2) = assign (.Subscript o2 i2 p2) X.env :: (assignEach [] X.env).map (·.2) := by rfl)
    (hs : swapsWithSole [.Tuple [.Subscript o1 i1 p1, .Subscript o2 i2 p2] kt pt] e pos.line X.env = pure false := by rfl) (hw : swappedStores [.Tuple [.Subscript o1 i1 p1, .Subscript o2 i2 p2] kt pt] e X.env = pure none := by rfl)
    (h1 : (assignEach [.Tuple [.Subscript o1 i1 p1, .Subscript o2 i2 p2] kt pt] X.env).map (·.2) = [assign (.Tuple [.Subscript o1 i1 p1, .Subscript o2 i2 p2] kt pt) X.env] := by rfl) :
    SS X C E (swF fo1 fi1 fo2 fi2 f) (.Assign [.Tuple [.Subscript o1 i1 p1, .Subscript o2 i2 p2] kt pt] e pos) := ss_sw hX ho1 hi1 ho2 hi2 he ha1 ha2 hn hst hs1 hs2 hs hw h1
end
section
variable {ρ : Env} {st : Store} {P : F → Store → Prop} {X : XQ}
theorem W_setLF {fo fi : Fx D} {d : D} {nxt : FS} : W (setLF fo fi d nxt ρ st) P X ↔ W (fo ρ st) (fun o st1 => W (fi ρ st1) (fun i st2 => ∃ st', setL o i d st2 = some st' ∧ W (nxt ρ st') P X) (fun c ns us st1 => P (.xc c ns us ρ) st1)) (fun c ns us st1 => P (.xc c ns us ρ) st1) := by
  unfold setLF
  simp only [W_runE]
  cases fo ρ st with
  | ok o st1 =>
    simp only [W_ok]
    cases fi ρ st1 with
    | ok i st2 => simp only [W_ok]; cases setL o i d st2 <;> simp
    | ex c ns us st => simp
    | bad => simp
  | ex c ns us st => simp
  | bad => simp
@[simp] theorem W_sw {fo1 fi1 fo2 fi2 f : Fx D} : W (swF fo1 fi1 fo2 fi2 f ρ st) P X ↔ W (f ρ st) (fun d st1 => ∃ x y, d = .tup [x, y] ∧ W (setLF fo1 fi1 x (setLF fo2 fi2 y fun ρ st => .ok (.nx ρ) st) ρ st1) P X) (fun c ns us st1 => P (.xc c ns us ρ) st1) := by
  unfold swF
  rw [W_runE]
  cases f ρ st with
  | ok d st1 =>
    simp only [W_ok]
    constructor
    · intro h
      split at h
      · rename_i x y
        exact ⟨x, y, rfl, h⟩
      · exact h.elim
    · rintro ⟨x, y, rfl, h⟩
      exact h
  | ex c ns us st => simp
  | bad => simp
end
end Px

/-! Px44: determinants of small tables. -/
namespace Px
def skipN (c j : Nat) : Nat := if j < c then j else j + 1
def minT (A : Tn) (r c : Nat) : Tn := fun i j => A (skipN r i) (skipN c j)
def sgN (k : Nat) : Int := 1 - ((k : Int) % 2) * 2
def detT : Nat → Tn → Int
  | 0, _ => 1
  | n + 1, A => Sm (n + 1) fun c => sgN (0 + c) * detT n (minT A 0 c) * A 0 c
def cofT (n : Nat) (A : Tn) (r c : Nat) : Int := sgN (r + c) * detT n (minT A r c)
theorem det_congr : ∀ {n : Nat} {A B : Tn}, EqT n n A B → detT n A = detT n B
  | 0, _, _, _ => rfl
  | n + 1, A, B, h => by
    unfold detT
    refine Sm_congr fun c hc => ?_
    rw [h 0 (by omega) c hc, det_congr (n := n) (A := minT A 0 c) (B := minT B 0 c) fun i hi j hj => h _ (by unfold skipN; split <;> omega) _ (by unfold skipN; split <;> omega)]
theorem det1 {A : Tn} : detT 1 A = A 0 0 := by simp [detT, Sm, sgN]
theorem det2 {A : Tn} : detT 2 A = A 0 0 * A 1 1 - A 0 1 * A 1 0 := by
  simp [detT, Sm, sgN, minT, skipN]; grind
theorem det3 {A : Tn} : detT 3 A = A 0 0 * (A 1 1 * A 2 2 - A 1 2 * A 2 1) - A 0 1 * (A 1 0 * A 2 2 - A 1 2 * A 2 0) + A 0 2 * (A 1 0 * A 2 1 - A 1 1 * A 2 0) := by
  unfold detT
  simp only [det2, Sm]
  simp [sgN, minT, skipN]; grind
theorem det4 {A : Tn} : detT 4 A = A 0 0 * detT 3 (minT A 0 0) - A 0 1 * detT 3 (minT A 0 1) + A 0 2 * detT 3 (minT A 0 2) - A 0 3 * detT 3 (minT A 0 3) := by
  rw [detT]
  simp only [Sm]
  simp [sgN]; grind
theorem det_mul1 {A B : Tn} : detT 1 (mulT 1 A B) = detT 1 A * detT 1 B := by simp [det1, mulT, Sm]
theorem det_mul2 {A B : Tn} : detT 2 (mulT 2 A B) = detT 2 A * detT 2 B := by
  simp [det2, mulT, Sm]; grind
theorem det_mul3 {A B : Tn} : detT 3 (mulT 3 A B) = detT 3 A * detT 3 B := by
  simp [det3, mulT, Sm]; grind
theorem det_mul4 {A B : Tn} : detT 4 (mulT 4 A B) = detT 4 A * detT 4 B := by
  simp [det4, det3, mulT, Sm, minT, skipN]; grind
theorem det_mul {n : Nat} {A B : Tn} (h1 : 1 ≤ n) (h4 : n ≤ 4) : detT n (mulT n A B) = detT n A * detT n B := by
  match n, h1, h4 with
  | 1, _, _ => exact det_mul1
  | 2, _, _ => exact det_mul2
  | 3, _, _ => exact det_mul3
  | 4, _, _ => exact det_mul4
end Px

/-! Px45: tables undone. -/
namespace Px
/-- the first row and column left out -/
def dnT2 (A : Tn) : Tn := fun i j => A (i + 1) (j + 1)
/-- the first row changes nothing -/
def Af (n : Nat) (A : Tn) : Prop := ∀ j, j < n + 1 → A 0 j = oneT 0 j
theorem detT_succ {n : Nat} {A : Tn} : detT (n + 1) A = Sm (n + 1) fun c => sgN (0 + c) * detT n (minT A 0 c) * A 0 c := rfl
theorem det_af {n : Nat} {A : Tn} (h : Af n A) : detT (n + 1) A = detT n (dnT2 A) := by
  rw [detT_succ, Sm_front]
  have e : (Sm n fun i => sgN (0 + (i + 1)) * detT n (minT A 0 (i + 1)) * A 0 (i + 1)) = Sm n fun _ => 0 := Sm_congr fun i hi => by
    rw [h (i + 1) (by omega)]
    simp [oneT]
  have e2 : detT n (minT A 0 0) = detT n (dnT2 A) := det_congr fun i _ j _ => by simp [minT, skipN, dnT2]
  rw [e, Sm_zero, h 0 (by omega), e2]
  simp [sgN, oneT]
theorem adj1 {A : Tn} (h : Af 1 A) {i j : Nat} (hi : i < 2) (hj : j < 2) : Sm 2 (fun k => cofT 1 A k i * A k j) = detT 2 A * oneT i j := by
  have h0 := h 0 (by omega)
  have h1 := h 1 (by omega)
  simp [oneT] at h0 h1
  match i, hi, j, hj with
  | 0, _, 0, _ => simp [cofT, det1, det2, Sm, minT, skipN, sgN, oneT, h0, h1]
  | 0, _, 1, _ => simp [cofT, det1, det2, Sm, minT, skipN, sgN, oneT, h0, h1]
  | 1, _, 0, _ => simp [cofT, det1, det2, Sm, minT, skipN, sgN, oneT, h0, h1] <;> grind
  | 1, _, 1, _ => simp [cofT, det1, det2, Sm, minT, skipN, sgN, oneT, h0, h1] <;> grind
theorem adj2 {A : Tn} (h : Af 2 A) {i j : Nat} (hi : i < 3) (hj : j < 3) : Sm 3 (fun k => cofT 2 A k i * A k j) = detT 3 A * oneT i j := by
  have h0 := h 0 (by omega)
  have h1 := h 1 (by omega)
  have h2 := h 2 (by omega)
  simp [oneT] at h0 h1 h2
  rw [det_af h]
  match i, hi, j, hj with
  | 0, _, 0, _ =>
    simp [cofT, det4, det3, det2, Sm, minT, skipN, sgN, oneT, dnT2, h0, h1, h2]
    try grind
  | 0, _, 1, _ =>
    simp [cofT, det4, det3, det2, Sm, minT, skipN, sgN, oneT, dnT2, h0, h1, h2]
    try grind
  | 0, _, 2, _ =>
    simp [cofT, det4, det3, det2, Sm, minT, skipN, sgN, oneT, dnT2, h0, h1, h2]
    try grind
  | 1, _, 0, _ =>
    simp [cofT, det4, det3, det2, Sm, minT, skipN, sgN, oneT, dnT2, h0, h1, h2]
    try grind
  | 1, _, 1, _ =>
    simp [cofT, det4, det3, det2, Sm, minT, skipN, sgN, oneT, dnT2, h0, h1, h2]
    try grind
  | 1, _, 2, _ =>
    simp [cofT, det4, det3, det2, Sm, minT, skipN, sgN, oneT, dnT2, h0, h1, h2]
    try grind
  | 2, _, 0, _ =>
    simp [cofT, det4, det3, det2, Sm, minT, skipN, sgN, oneT, dnT2, h0, h1, h2]
    try grind
  | 2, _, 1, _ =>
    simp [cofT, det4, det3, det2, Sm, minT, skipN, sgN, oneT, dnT2, h0, h1, h2]
    try grind
  | 2, _, 2, _ =>
    simp [cofT, det4, det3, det2, Sm, minT, skipN, sgN, oneT, dnT2, h0, h1, h2]
    try grind
theorem adj3 {A : Tn} (h : Af 3 A) {i j : Nat} (hi : i < 4) (hj : j < 4) : Sm 4 (fun k => cofT 3 A k i * A k j) = detT 4 A * oneT i j := by
  have h0 := h 0 (by omega)
  have h1 := h 1 (by omega)
  have h2 := h 2 (by omega)
  have h3 := h 3 (by omega)
  simp [oneT] at h0 h1 h2 h3
  rw [det_af h]
  match i, hi, j, hj with
  | 0, _, 0, _ =>
    simp [cofT, det4, det3, det2, Sm, minT, skipN, sgN, oneT, dnT2, h0, h1, h2, h3]
    try grind
  | 0, _, 1, _ =>
    simp [cofT, det4, det3, det2, Sm, minT, skipN, sgN, oneT, dnT2, h0, h1, h2, h3]
    try grind
  | 0, _, 2, _ =>
    simp [cofT, det4, det3, det2, Sm, minT, skipN, sgN, oneT, dnT2, h0, h1, h2, h3]
    try grind
  | 0, _, 3, _ =>
    simp [cofT, det4, det3, det2, Sm, minT, skipN, sgN, oneT, dnT2, h0, h1, h2, h3]
    try grind
  | 1, _, 0, _ =>
    simp [cofT, det4, det3, det2, Sm, minT, skipN, sgN, oneT, dnT2, h0, h1, h2, h3]
    try grind
  | 1, _, 1, _ =>
    simp [cofT, det4, det3, det2, Sm, minT, skipN, sgN, oneT, dnT2, h0, h1, h2, h3]
    try grind
  | 1, _, 2, _ =>
    simp [cofT, det4, det3, det2, Sm, minT, skipN, sgN, oneT, dnT2, h0, h1, h2, h3]
    try grind
  | 1, _, 3, _ =>
    simp [cofT, det4, det3, det2, Sm, minT, skipN, sgN, oneT, dnT2, h0, h1, h2, h3]
    try grind
  | 2, _, 0, _ =>
    simp [cofT, det4, det3, det2, Sm, minT, skipN, sgN, oneT, dnT2, h0, h1, h2, h3]
    try grind
  | 2, _, 1, _ =>
    simp [cofT, det4, det3, det2, Sm, minT, skipN, sgN, oneT, dnT2, h0, h1, h2, h3]
    try grind
  | 2, _, 2, _ =>
    simp [cofT, det4, det3, det2, Sm, minT, skipN, sgN, oneT, dnT2, h0, h1, h2, h3]
    try grind
  | 2, _, 3, _ =>
    simp [cofT, det4, det3, det2, Sm, minT, skipN, sgN, oneT, dnT2, h0, h1, h2, h3]
    try grind
  | 3, _, 0, _ =>
    simp [cofT, det4, det3, det2, Sm, minT, skipN, sgN, oneT, dnT2, h0, h1, h2, h3]
    try grind
  | 3, _, 1, _ =>
    simp [cofT, det4, det3, det2, Sm, minT, skipN, sgN, oneT, dnT2, h0, h1, h2, h3]
    try grind
  | 3, _, 2, _ =>
    simp [cofT, det4, det3, det2, Sm, minT, skipN, sgN, oneT, dnT2, h0, h1, h2, h3]
    try grind
  | 3, _, 3, _ =>
    simp [cofT, det4, det3, det2, Sm, minT, skipN, sgN, oneT, dnT2, h0, h1, h2, h3]
    try grind
theorem adj4 {A : Tn} (h : Af 4 A) {i j : Nat} (hi : i < 5) (hj : j < 5) : Sm 5 (fun k => cofT 4 A k i * A k j) = detT 5 A * oneT i j := by
  have h0 := h 0 (by omega)
  have h1 := h 1 (by omega)
  have h2 := h 2 (by omega)
  have h3 := h 3 (by omega)
  have h4 := h 4 (by omega)
  simp [oneT] at h0 h1 h2 h3 h4
  rw [det_af h]
  match i, hi, j, hj with
  | 0, _, 0, _ =>
    simp [cofT, det4, det3, det2, Sm, minT, skipN, sgN, oneT, dnT2, h0, h1, h2, h3, h4]
    try grind
  | 0, _, 1, _ =>
    simp [cofT, det4, det3, det2, Sm, minT, skipN, sgN, oneT, dnT2, h0, h1, h2, h3, h4]
    try grind
  | 0, _, 2, _ =>
    simp [cofT, det4, det3, det2, Sm, minT, skipN, sgN, oneT, dnT2, h0, h1, h2, h3, h4]
    try grind
  | 0, _, 3, _ =>
    simp [cofT, det4, det3, det2, Sm, minT, skipN, sgN, oneT, dnT2, h0, h1, h2, h3, h4]
    try grind
  | 0, _, 4, _ =>
    simp [cofT, det4, det3, det2, Sm, minT, skipN, sgN, oneT, dnT2, h0, h1, h2, h3, h4]
    try grind
  | 1, _, 0, _ =>
    simp [cofT, det4, det3, det2, Sm, minT, skipN, sgN, oneT, dnT2, h0, h1, h2, h3, h4]
    try grind
  | 1, _, 1, _ =>
    simp [cofT, det4, det3, det2, Sm, minT, skipN, sgN, oneT, dnT2, h0, h1, h2, h3, h4]
    try grind
  | 1, _, 2, _ =>
    simp [cofT, det4, det3, det2, Sm, minT, skipN, sgN, oneT, dnT2, h0, h1, h2, h3, h4]
    try grind
  | 1, _, 3, _ =>
    simp [cofT, det4, det3, det2, Sm, minT, skipN, sgN, oneT, dnT2, h0, h1, h2, h3, h4]
    try grind
  | 1, _, 4, _ =>
    simp [cofT, det4, det3, det2, Sm, minT, skipN, sgN, oneT, dnT2, h0, h1, h2, h3, h4]
    try grind
  | 2, _, 0, _ =>
    simp [cofT, det4, det3, det2, Sm, minT, skipN, sgN, oneT, dnT2, h0, h1, h2, h3, h4]
    try grind
  | 2, _, 1, _ =>
    simp [cofT, det4, det3, det2, Sm, minT, skipN, sgN, oneT, dnT2, h0, h1, h2, h3, h4]
    try grind
  | 2, _, 2, _ =>
    simp [cofT, det4, det3, det2, Sm, minT, skipN, sgN, oneT, dnT2, h0, h1, h2, h3, h4]
    try grind
  | 2, _, 3, _ =>
    simp [cofT, det4, det3, det2, Sm, minT, skipN, sgN, oneT, dnT2, h0, h1, h2, h3, h4]
    try grind
  | 2, _, 4, _ =>
    simp [cofT, det4, det3, det2, Sm, minT, skipN, sgN, oneT, dnT2, h0, h1, h2, h3, h4]
    try grind
  | 3, _, 0, _ =>
    simp [cofT, det4, det3, det2, Sm, minT, skipN, sgN, oneT, dnT2, h0, h1, h2, h3, h4]
    try grind
  | 3, _, 1, _ =>
    simp [cofT, det4, det3, det2, Sm, minT, skipN, sgN, oneT, dnT2, h0, h1, h2, h3, h4]
    try grind
  | 3, _, 2, _ =>
    simp [cofT, det4, det3, det2, Sm, minT, skipN, sgN, oneT, dnT2, h0, h1, h2, h3, h4]
    try grind
  | 3, _, 3, _ =>
    simp [cofT, det4, det3, det2, Sm, minT, skipN, sgN, oneT, dnT2, h0, h1, h2, h3, h4]
    try grind
  | 3, _, 4, _ =>
    simp [cofT, det4, det3, det2, Sm, minT, skipN, sgN, oneT, dnT2, h0, h1, h2, h3, h4]
    try grind
  | 4, _, 0, _ =>
    simp [cofT, det4, det3, det2, Sm, minT, skipN, sgN, oneT, dnT2, h0, h1, h2, h3, h4]
    try grind
  | 4, _, 1, _ =>
    simp [cofT, det4, det3, det2, Sm, minT, skipN, sgN, oneT, dnT2, h0, h1, h2, h3, h4]
    try grind
  | 4, _, 2, _ =>
    simp [cofT, det4, det3, det2, Sm, minT, skipN, sgN, oneT, dnT2, h0, h1, h2, h3, h4]
    try grind
  | 4, _, 3, _ =>
    simp [cofT, det4, det3, det2, Sm, minT, skipN, sgN, oneT, dnT2, h0, h1, h2, h3, h4]
    try grind
  | 4, _, 4, _ =>
    simp [cofT, det4, det3, det2, Sm, minT, skipN, sgN, oneT, dnT2, h0, h1, h2, h3, h4]
    try grind
end Px

/-! Px46: the inverse. -/
namespace Px
theorem adjA {n : Nat} {A : Tn} (h : Af n A) (h1 : 1 ≤ n) (h4 : n ≤ 4) {i j : Nat} (hi : i < n + 1) (hj : j < n + 1) : Sm (n + 1) (fun k => cofT n A k i * A k j) = detT (n + 1) A * oneT i j := by
  match n, h1, h4 with
  | 1, _, _ => exact adj1 h hi hj
  | 2, _, _ => exact adj2 h hi hj
  | 3, _, _ => exact adj3 h hi hj
  | 4, _, _ => exact adj4 h hi hj
def invT (n : Nat) (A : Tn) : Tn := fun i j => detT (n + 1) A * cofT n A j i
theorem inv_mul {n : Nat} {A : Tn} (h : Af n A) (h1 : 1 ≤ n) (h4 : n ≤ 4) (hd : detT (n + 1) A * detT (n + 1) A = 1) : EqT (n + 1) (n + 1) (mulT (n + 1) (invT n A) A) oneT := fun i hi j hj => by
  have e := adjA h h1 h4 hi hj
  unfold mulT invT
  have e2 : (fun k => detT (n + 1) A * cofT n A k i * A k j) = fun k => detT (n + 1) A * (cofT n A k i * A k j) := by funext k; rw [Int.mul_assoc]
  rw [e2, Sm_mulL, e, ← Int.mul_assoc, hd, Int.one_mul]
theorem inv_uniq {n : Nat} {A B : Tn} (h : Af n A) (h1 : 1 ≤ n) (h4 : n ≤ 4) (hd : detT (n + 1) A * detT (n + 1) A = 1) (hB : EqT (n + 1) (n + 1) (mulT (n + 1) A B) oneT) : EqT (n + 1) (n + 1) (invT n A) B := by
  have e1 : EqT (n + 1) (n + 1) (mulT (n + 1) (invT n A) oneT) (invT n A) := fun i _ j hj => mulT_oneR hj
  have e2 : EqT (n + 1) (n + 1) (mulT (n + 1) oneT B) B := fun i hi j _ => mulT_oneL hi
  refine e1.symm.trans ((EqT.mul .rfl hB.symm).trans ?_)
  rw [← mulT_assoc]
  exact (EqT.mul (inv_mul h h1 h4 hd) .rfl).trans e2
theorem af_mul {n : Nat} {A B : Tn} (hA : Af n A) (hB : Af n B) : Af n (mulT (n + 1) A B) := fun j hj => by
  have e : mulT (n + 1) A B 0 j = mulT (n + 1) oneT B 0 j := Sm_congr fun k hk => by rw [hA k hk]
  rw [e, mulT_oneL (by omega), hB j hj]
theorem dn2_mul {n : Nat} {A B : Tn} (hB : Af n B) : EqT n n (dnT2 (mulT (n + 1) A B)) (mulT n (dnT2 A) (dnT2 B)) := fun i _ j hj => by
  show Sm (n + 1) (fun k => A (i + 1) k * B k (j + 1)) = _
  rw [Sm_front, hB (j + 1) (by omega)]
  simp [oneT]; rfl
theorem det_mulA {n : Nat} {A B : Tn} (hA : Af n A) (hB : Af n B) (h1 : 1 ≤ n) (h4 : n ≤ 4) : detT (n + 1) (mulT (n + 1) A B) = detT (n + 1) A * detT (n + 1) B := by
  rw [det_af (af_mul hA hB), det_congr (dn2_mul hB), det_mul h1 h4, det_af hA, det_af hB]
theorem det_one {n : Nat} (h1 : 1 ≤ n) (h4 : n ≤ 4) : detT (n + 1) oneT = 1 := by
  rw [det_af (n := n) fun j _ => rfl]
  have e : dnT2 oneT = oneT := by funext i j; simp [dnT2, oneT]
  rw [e]
  match n, h1, h4 with
  | 1, _, _ => simp [det1, oneT]
  | 2, _, _ => simp [det2, oneT]
  | 3, _, _ => simp [det3, oneT]
  | 4, _, _ => simp [det4, det3, oneT, minT, skipN]
theorem pm_one {a b : Int} (h : a * b = 1) : a = 1 ∨ a = -1 := by
  have h2 : a.natAbs * b.natAbs = 1 := by rw [← Int.natAbs_mul, h]; rfl
  have h3 : a.natAbs = 1 := Nat.eq_one_of_mul_eq_one_right h2
  omega
theorem sq_one {a b : Int} (h : a * b = 1) : a * a = 1 := by
  rcases pm_one h with e | e <;> rw [e] <;> decide
theorem det_inv {n : Nat} {A B : Tn} (hA : Af n A) (hB : Af n B) (h1 : 1 ≤ n) (h4 : n ≤ 4) (h : EqT (n + 1) (n + 1) (mulT (n + 1) A B) oneT) : detT (n + 1) A * detT (n + 1) B = 1 := by
  rw [← det_mulA hA hB h1 h4, det_congr h, det_one h1 h4]
theorem af_up {n : Nat} {f : Nat → Nat → Int} {F : Tn} (h : ∀ j, F 0 j = oneT 0 j) : Af n F := fun j _ => h j
end Px

/-! Px47: comprehensions with a test by place; rows and columns left out. -/
namespace Px
open PySem PySem.Spec PyProof.Rows L2
section
variable {X : XQ}
open Classical in
theorem W_compRF' {tg : Tg} {t el : Fx D} {ρ' : Px.Env} {Q : List D → Store → Prop} (p : Nat → Bool) (f : Nat → D) : ∀ (xs : List D) (m : Nat) (acc : List D) (st : Store), (∀ j x, xs[j]? = some x → ∃ ρ1, setT tg x ρ' = some ρ1 ∧ W (t ρ1 st) (fun d st' => d = .bl (p (m + j)) ∧ st' = st) noX ∧ (p (m + j) = true → W (el ρ1 st) (fun d st' => d = f (m + j) ∧ st' = st) noX)) → Q (acc ++ ((List.range xs.length).filter fun j => p (m + j)).map fun j => f (m + j)) st →
    W (compLoop tg t el none ρ' xs acc st) Q X
  | [], m, acc, st, _, k => by
    rw [compLoop]
    simpa using k
  | x :: xs, m, acc, st, hs, k => by
    obtain ⟨ρ1, e1, h1, h2⟩ := hs 0 x rfl
    rw [compLoop, e1]
    show W (R.bind (noEx (t ρ1 st)) _) Q X
    rw [W_bind, W_noEx]
    refine h1.go fun d st2 ⟨hd, hst⟩ => ?_
    subst hd hst
    have ht : truth st2 (.bl (p (m + 0))) = some (p (m + 0)) := rfl
    rw [ht]
    have ec : (fun j => p (m + 1 + j)) = (fun j => p (m + j)) ∘ Nat.succ := by
      funext j; show p (m + 1 + j) = p (m + (j + 1)); rw [show m + (j + 1) = m + 1 + j by omega]
    have ef : (fun j => f (m + 1 + j)) = (fun j => f (m + j)) ∘ Nat.succ := by
      funext j; show f (m + 1 + j) = f (m + (j + 1)); rw [show m + (j + 1) = m + 1 + j by omega]
    have hr : ∀ j y, xs[j]? = some y → ∃ ρ1, setT tg y ρ' = some ρ1 ∧ W (t ρ1 st2) (fun d st' => d = .bl (p (m + 1 + j)) ∧ st' = st2) noX ∧ (p (m + 1 + j) = true → W (el ρ1 st2) (fun d st' => d = f (m + 1 + j) ∧ st' = st2) noX) := fun j y hy => by
      have := hs (j + 1) y (by simpa using hy)
      rwa [show m + (j + 1) = m + 1 + j by omega] at this
    rw [List.length_cons, List.range_succ_eq_map, List.filter_cons, List.filter_map] at k
    cases e : p (m + 0) with
    | true =>
      rw [if_pos e] at k
      show W (R.bind (noEx (el ρ1 st2)) _) Q X
      rw [W_bind, W_noEx]
      refine (h2 e).go fun d st3 ⟨hd, hst⟩ => ?_
      subst hd hst
      rw [if_pos (show guardOk st3 none from True.intro)]
      refine W_compRF' p f xs (m + 1) _ st3 hr ?_
      rw [ec, ef]
      rw [List.map_cons, List.map_map] at k
      rw [List.append_assoc, List.singleton_append]
      exact k
    | false =>
      rw [if_neg (by rw [e]; exact Bool.false_ne_true)] at k
      show W (if guardOk st2 none then _ else _) Q X
      rw [if_pos (show guardOk st2 none from True.intro)]
      refine W_compRF' p f xs (m + 1) _ st2 hr ?_
      rw [ec, ef]
      rw [List.map_map] at k
      exact k
theorem W_compRF {tg : Tg} {t el : Fx D} {ρ' : Px.Env} {Q : List D → Store → Prop} (p : Nat → Bool) (f : Nat → D) {xs : List D} {st : Store} (hs : ∀ j x, xs[j]? = some x → ∃ ρ1, setT tg x ρ' = some ρ1 ∧ W (t ρ1 st) (fun d st' => d = .bl (p j) ∧ st' = st) noX ∧ (p j = true → W (el ρ1 st) (fun d st' => d = f j ∧ st' = st) noX)) (k : Q (((List.range xs.length).filter p).map f) st) :
    W (compLoop tg t el none ρ' xs [] st) Q X :=
  W_compRF' p f xs 0 [] st (fun j x hx => by rw [Nat.zero_add]; exact hs j x hx) (by
    have e : (fun j => f (0 + j)) = f := by funext j; rw [Nat.zero_add]
    have e2 : (fun j => p (0 + j)) = p := by funext j; rw [Nat.zero_add]
    rw [e, e2]; exact k)
end
section
variable {X : XQ}
/-- .. into a name -/
theorem W_compRn {i : Nat} {el : Fx D} {ρ' : Px.Env} {Q : List D → Store → Prop} (f : Nat → D) {xs : List D} {st : Store} (hs : ∀ j x, xs[j]? = some x → W (el (ρ'.set i (some x)) st) (fun d st' => d = f j ∧ st' = st) noX) (k : Q ((List.range xs.length).map f) st) :
    W (compLoop (.name i) (fun _ st => .ok (.bl true) st) el none ρ' xs [] st) Q X := W_compR f (fun j x hx => ⟨_, setT_name, hs j x hx⟩) k
end
theorem skip_rows {n r : Nat} (hn : n ≤ 4) (hr : r ≤ n) : ((List.range (n + 1)).filter fun i => !(i == r)) = (List.range n).map (skipN r) := by
  have : ∀ n : Fin 5, ∀ r : Fin 5, r.val ≤ n.val → ((List.range (n.val + 1)).filter fun i => !(i == r.val)) = (List.range n.val).map (skipN r.val) := by decide
  exact this ⟨n, by omega⟩ ⟨r, by omega⟩ hr
theorem skip_cols {n c : Nat} (hn : n ≤ 4) (hc : c ≤ n) : (List.range (n + 1)).take c ++ (List.range (n + 1)).drop (c + 1) = (List.range n).map (skipN c) := by
  have : ∀ n : Fin 5, ∀ c : Fin 5, c.val ≤ n.val → (List.range (n.val + 1)).take c.val ++ (List.range (n.val + 1)).drop (c.val + 1) = (List.range n.val).map (skipN c.val) := by decide
  exact this ⟨n, by omega⟩ ⟨c, by omega⟩ hc
theorem cut_to {α : Type} {xs : List α} {c : Nat} (h : c ≤ xs.length) : cutL xs none (some (c : Int)) = xs.take c := by
  unfold cutL
  have e1 : HT.sIx xs.length 0 none = 0 := rfl
  have e2 : HT.sIx xs.length xs.length (some (c : Int)) = min c xs.length := HT.sIx_nat _ _ _
  rw [e1, e2, Nat.min_eq_left h]; simp
theorem cut_from {α : Type} {xs : List α} {c : Nat} (h : c ≤ xs.length) : cutL xs (some (c : Int)) none = xs.drop c := by
  unfold cutL
  have e1 : HT.sIx xs.length 0 (some (c : Int)) = min c xs.length := HT.sIx_nat _ _ _
  have e2 : HT.sIx xs.length xs.length none = xs.length := rfl
  rw [e1, e2, Nat.min_eq_left h, List.take_of_length_le (by simp)]
theorem row_skip {n c : Nat} {f : Nat → Int} (hn : n ≤ 4) (hc : c ≤ n) : cutL (rowD (n + 1) f) none (some (c : Int)) ++ cutL (rowD (n + 1) f) (some ((c + 1 : Nat) : Int)) none = rowD n fun j => f (skipN c j) := by
  rw [cut_to (by simp; omega), cut_from (by simp; omega)]
  unfold rowD
  rw [← List.map_take, ← List.map_drop, ← List.map_append, skip_cols hn hc, List.map_map]; rfl
theorem eqD_tab0 {n w : Nat} {A : Tn} {st : Store} : eqD st (tabD n w A) (.tup []) = some (n == 0) := by
  obtain ⟨q, a, b, c⟩ := ns_tab (m := n) (w := w) (f := A)
  have hv := view_py (st := st) a
  have hv2 : view st (.tup []) = some (.tup []) := rfl
  have hs : SeqAt.shaped q = true := by unfold SeqAt.shaped; rw [b]; simp; omega
  have hs2 : SeqAt.shaped (.tuple []) = true := rfl
  have h2 : (D.tup []).py = some (.tuple []) := rfl
  unfold tabD at a hv
  have e : eqD st (tabD n w A) (.tup []) = some (PyData.eqv q (.tuple [])) := by
    unfold tabD
    simp [eqD, hv, hv2, a, h2, hs, hs2]
  rw [e]
  cases n with
  | zero =>
    rw [D.py] at a
    simp [pys] at a
    subst a; rfl
  | succ n =>
    rw [rowsD_succ, D.py, pys] at a
    cases h3 : (vecD w (A 0)).py with
    | none => rw [h3] at a; cases a
    | some y =>
      cases h4 : pys ((List.range n).map fun i => vecD w (A (i + 1))) with
      | none => rw [h3, h4] at a; cases a
      | some ys => rw [h3, h4] at a; cases a; rfl
end Px

/-! Px48: powers with whole exponents. -/
namespace Px
/-- each undoes the other -/
structure Und (w : Nat) (F G : Tn) : Prop where
  fg : EqT w w (mulT w F G) oneT
  gf : EqT w w (mulT w G F) oneT
theorem Und.symm {w : Nat} {F G : Tn} (h : Und w F G) : Und w G F := ⟨h.gf, h.fg⟩
theorem mid_cancel {w : Nat} {A F G B : Tn} (h : EqT w w (mulT w F G) oneT) : EqT w w (mulT w (mulT w A F) (mulT w G B)) (mulT w A B) := by
  have e : mulT w (mulT w A F) (mulT w G B) = mulT w A (mulT w (mulT w F G) B) := by rw [mulT_assoc, mulT_assoc]
  rw [e]
  exact EqT.mul .rfl ((EqT.mul h .rfl).trans fun i hi j _ => mulT_oneL hi)
theorem pow_cancel {w a : Nat} {F G : Tn} (h : Und w F G) : ∀ c : Nat, EqT w w (mulT w (powT w F (a + c)) (powT w G c)) (powT w F a)
  | 0 => fun i _ j hj => mulT_oneR hj
  | c + 1 => by
    refine (EqT.mul powT_succ' .rfl).trans ?_
    exact (mid_cancel h.fg).trans (pow_cancel h c)
theorem pow_cancel' {w a : Nat} {F G : Tn} (h : Und w F G) : ∀ c : Nat, EqT w w (mulT w (powT w G c) (powT w F (a + c))) (powT w F a)
  | 0 => fun i hi j _ => mulT_oneL hi
  | c + 1 => by
    refine (EqT.mul powT_succ' .rfl).trans ?_
    exact (mid_cancel h.gf).trans (pow_cancel' h c)
def zP (w : Nat) (F G : Tn) (e : Int) : Tn := if 0 ≤ e then powT w F e.toNat else powT w G (-e).toNat
theorem zP_pos {w : Nat} {F G : Tn} {e : Nat} : zP w F G (e : Int) = powT w F e := by
  unfold zP; rw [if_pos (by omega)]; rfl
theorem zP_neg {w : Nat} {F G : Tn} {e : Nat} : zP w F G (-(e : Int)) = powT w G e := by
  unfold zP
  by_cases h : e = 0
  · subst h; rfl
  · rw [if_neg (by omega)]; congr 1; omega
theorem zP_swap {w : Nat} {F G : Tn} {e : Int} : zP w G F e = zP w F G (0 - e) := by
  unfold zP
  by_cases h : 0 ≤ e
  · by_cases h2 : e = 0
    · subst h2; rfl
    · rw [if_pos h, if_neg (by omega)]; congr 1; omega
  · rw [if_neg h, if_pos (by omega)]; congr 1; omega
theorem zP_mul {w : Nat} {F G : Tn} (h : Und w F G) (a b : Int) : EqT w w (mulT w (zP w F G a) (zP w F G b)) (zP w F G (a + b)) := by
  have hp : ∀ e : Int, 0 ≤ e → ∃ n : Nat, e = n := fun e he => Int.eq_ofNat_of_zero_le he
  by_cases ha : 0 ≤ a
  · obtain ⟨m, rfl⟩ := hp a ha
    by_cases hb : 0 ≤ b
    · obtain ⟨k, rfl⟩ := hp b hb
      rw [zP_pos, zP_pos, show (m : Int) + (k : Int) = ((m + k : Nat) : Int) by omega, zP_pos]
      exact powT_add.symm
    · obtain ⟨k, hk⟩ := hp (-b) (by omega)
      obtain rfl : b = -(k : Int) := by omega
      rw [zP_pos, zP_neg]
      by_cases hmk : k ≤ m
      · obtain ⟨c, rfl⟩ : ∃ c, m = c + k := ⟨m - k, by omega⟩
        rw [show ((c + k : Nat) : Int) + -(k : Int) = (c : Int) by omega, zP_pos]
        exact pow_cancel h k
      · obtain ⟨c, rfl⟩ : ∃ c, k = c + m := ⟨k - m, by omega⟩
        rw [show (m : Int) + -((c + m : Nat) : Int) = -(c : Int) by omega, zP_neg]
        exact pow_cancel' h.symm m
  · obtain ⟨m, hm⟩ := hp (-a) (by omega)
    obtain rfl : a = -(m : Int) := by omega
    by_cases hb : 0 ≤ b
    · obtain ⟨k, rfl⟩ := hp b hb
      rw [zP_pos, zP_neg]
      by_cases hmk : k ≤ m
      · obtain ⟨c, rfl⟩ : ∃ c, m = c + k := ⟨m - k, by omega⟩
        rw [show -((c + k : Nat) : Int) + (k : Int) = -(c : Int) by omega, zP_neg]
        exact pow_cancel h.symm k
      · obtain ⟨c, rfl⟩ : ∃ c, k = c + m := ⟨k - m, by omega⟩
        rw [show -(m : Int) + ((c + m : Nat) : Int) = (c : Int) by omega, zP_pos]
        exact pow_cancel' h m
    · obtain ⟨k, hk⟩ := hp (-b) (by omega)
      obtain rfl : b = -(k : Int) := by omega
      rw [zP_neg, zP_neg, show -(m : Int) + -(k : Int) = -((m + k : Nat) : Int) by omega, zP_neg]
      exact powT_add.symm
end Px

/-! Px49: small tables that undo each other, by trial. -/
namespace Px
theorem set_map {n p : Nat} {g : Nat → D} {x : D} : ((List.range n).map g).set p x = (List.range n).map fun i => if i = p then x else g i := by
  refine List.ext_getElem (by simp) fun i h1 h2 => ?_
  rw [List.getElem_set]
  simp only [List.getElem_map, List.getElem_range]
  by_cases e : p = i
  · subst e; simp
  · rw [if_neg e, if_neg (Ne.symm e)]
theorem put_row {n p : Nat} {g : Nat → D} {x : D} (hp : p < n) : cutL ((List.range n).map g) none (some (p : Int)) ++ x :: cutL ((List.range n).map g) (some ((p : Int) + 1)) none = (List.range n).map fun i => if i = p then x else g i := by
  have c1 := cut_to (xs := (List.range n).map g) (c := p) (by simp; omega)
  have c2 : cutL ((List.range n).map g) (some ((p : Int) + 1)) none = _ := cut_from (xs := (List.range n).map g) (c := p + 1) (by simp; omega)
  rw [c1, c2, ← set_map, List.set_eq_take_append_cons_drop, if_pos (by simpa using hp)]
theorem cut_len' {α : Type} {xs : List α} {l h : Option Int} : (cutL xs l h).length ≤ xs.length := by
  unfold cutL
  rw [List.length_take, List.length_drop]; omega
def upT' (f : Tn) : Tn := fun i j => match i with
  | 0 => oneT 0 j
  | i + 1 => f i j
def undB (w : Nat) (F G : Tn) : Bool := (List.range w).all fun i => (List.range w).all fun j => (mulT w F G i j == oneT i j) && (mulT w G F i j == oneT i j)
theorem undB_ok {w : Nat} {F G : Tn} (h : undB w F G = true) : Und w F G := by
  unfold undB at h
  simp only [List.all_eq_true, List.mem_range, Bool.and_eq_true, beq_iff_eq] at h
  exact ⟨fun i hi j hj => (h i hi j hj).1, fun i hi j hj => (h i hi j hj).2⟩
def entT (p q : Nat) (x y : Int) : Nat → Int := fun j => (if j = p + 1 then x else 0) + (if j = q then y else 0)
def rwT (p : Nat) (r : Nat → Int) : Tn := fun i => if i = p then r else fun j => oneT (i + 1) j
def swT (p q : Nat) : Tn := fun i j => if i = p then oneT (q + 1) j else if i = q then oneT (p + 1) j else oneT (i + 1) j
theorem und_add : ∀ n : Fin 5, ∀ p : Fin 4, ∀ q : Fin 5, ∀ y ∈ [(1 : Int), -1, 2, 5, -9], p.val < n.val → q.val ≤ n.val → q.val ≠ p.val + 1 → undB (n.val + 1) (upT' (rwT p.val (entT p.val q.val 1 y))) (upT' (rwT p.val (entT p.val q.val 1 (0 - y)))) = true := by decide +kernel
theorem und_neg : ∀ n : Fin 5, ∀ p : Fin 4, p.val < n.val → undB (n.val + 1) (upT' (rwT p.val (entT p.val 0 (-1) 0))) (upT' (rwT p.val (entT p.val 0 (-1) 0))) = true := by decide +kernel
theorem und_swp : ∀ n : Fin 5, ∀ p : Fin 4, ∀ q : Fin 4, p.val < n.val → q.val < n.val → p.val ≠ q.val → undB (n.val + 1) (upT' (swT p.val q.val)) (upT' (swT p.val q.val)) = true := by decide +kernel
theorem det_bad1 : ∀ n : Fin 5, ∀ p : Fin 4, ∀ x ∈ [(0 : Int), 2, -3, 9], ∀ y ∈ [(0 : Int), 1, -4], p.val < n.val → (detT (n.val + 1) (upT' (rwT p.val (entT p.val 0 x y))) == x) = true := by decide +kernel
theorem det_bad2 : ∀ n : Fin 5, ∀ p : Fin 4, ∀ q : Fin 4, p.val < n.val → q.val < n.val → q.val ≠ p.val → (detT (n.val + 1) (upT' (rwT p.val (entT p.val (q.val + 1) 0 1))) == 0) = true := by decide +kernel
theorem bd_ent {p q : Nat} {x y : Int} {b : Nat} (hx : x.natAbs < 2 ^ b) (hy : y.natAbs < 2 ^ b) : ∀ j, (entT p q x y j).natAbs < 2 ^ (b + 1) := fun j => by
  unfold entT
  have h0 : 0 < 2 ^ b := Nat.two_pow_pos _
  rw [Nat.pow_succ]
  split <;> split <;> omega
theorem bd_rwT {p b : Nat} {r : Nat → Int} (h1 : 1 ≤ b) (h : ∀ j, (r j).natAbs < 2 ^ b) : bdT b (rwT p r) := fun i j => by
  unfold rwT
  split
  · exact h j
  · exact (bd_one.mono h1) (i + 1) j
theorem bd_swT {p q : Nat} : bdT 1 (swT p q) := fun i j => by
  unfold swT
  split
  · exact bd_one _ _
  · split <;> exact bd_one _ _
end Px

/-! Px50: methods of texts: split, join. -/
namespace Px
open PySem PySem.Spec PyProof.Rows L2
def strsOf : List D → Option (List Str)
  | [] => some []
  | .str x :: ds => (strsOf ds).map (x :: ·)
  | _ => none
theorem strsOf_rvs {C : Kc} {S : Rp} : ∀ {ds : List D} {ys : List Str} {vs : List V}, strsOf ds = some ys → RVs C S ds vs → vs = ys.map V.str
  | [], ys, vs, h, r => by
    cases h
    rw [RVs] at r; exact r
  | d :: ds, ys, vs, h, r => by
    cases d with
    | str x =>
      rw [strsOf] at h
      cases e : strsOf ds with
      | none => rw [e] at h; cases h
      | some zs =>
        rw [e] at h; cases h
        rw [RVs] at r
        obtain ⟨v, r', rfl, h1, h2⟩ := r
        rw [rv_str] at h1
        rw [h1, strsOf_rvs e h2]; rfl
    | _ => cases h
theorem rvs_strs {C : Kc} {S : Rp} : ∀ ys : List Str, RVs C S (ys.map D.str) (ys.map V.str)
  | [] => .nil
  | y :: ys => .cons (rv_str.mpr rfl) (rvs_strs ys)
section
variable {X : Cx} {C : Kc} {E : L2.St → XK} {k : Nat}
/-- t.split(s) -/
def splitF (mu : Nat) (fo fe : Fx D) : Fx D := fun ρ st => (fo ρ st).bind fun x st1 => match x with
  | .str a => (fe ρ st1).bind fun y st2 => match y with
    | .str b => if (b.length == 0) = false ∧ a.length + 2 ≤ lim then mkL mu ((Txt.split a b).map .str) st2 else .bad
    | _ => .bad
  | _ => .bad
theorem se_split {mu : Nat} {fo fe : Fx D} {o e : Expr} {apos pos : Pos} (ho : SE X C E fo o) (he : SE X C E fe e) (hs : starEach [e] X.env = [(false, eval e X.env)]) (hbase : attributeBase o "split" X.env (eval o X.env) = eval o X.env) (hline : (apos.endLine == pos.line) = true) :
    SE X C E (splitF mu fo fe) (.Call (.Attribute o "split" apos) [e] [] pos) :=
  PE.weak (pe_split ho he hs hbase hline) fun σ H Q q => by
    obtain ⟨S, ρ, st, rp, rn, q⟩ := q
    refine ⟨S, ρ, st, rp, rn, Post.bind (rel2 := rV C) q fun d st1 S1 H1 v g1 rp1 rv1 h1 => ?_⟩
    cases d with
    | str a =>
      have rv1 : RV C S1 (.str a) v := rv1
      rw [rv_str] at rv1
      refine ⟨⟨a, rv1⟩, S1, ρ, st1, rp1, rn.mono g1.ext, Post.bind (rel2 := rV C) h1 fun y st2 S2 H2 w g2 rp2 rw2 h2 => ?_⟩
      cases y with
      | str b =>
        have rw2 : RV C S2 (.str b) w := rw2
        rw [rv_str] at rw2
        obtain ⟨⟨hb, hl⟩, h3⟩ := post_ite h2
        exact ⟨a, b, rv1, by rw [rw2], hb, lim_line hl, fun p hp => mkL_post h3 rp2 (rvs_strs _) hp⟩
      | _ => exact Post.bad (C := C) h2
    | _ => exact Post.bad (C := C) h1
/-- s.join(xs) -/
def joinF (fo fe : Fx D) : Fx D := fun ρ st => (fo ρ st).bind fun x st1 => match x with
  | .str a => (fe ρ st1).bind fun y st2 => match seqOf st2 y with
    | some xs => match strsOf xs with
      | some ys => if (ys.map (·.length)).sum + ys.length * a.length ≤ lim then .ok (.str (Txt.join a ys)) st2 else .bad
      | none => .bad
    | none => .bad
  | _ => .bad
theorem se_join {fo fe : Fx D} {o e : Expr} {apos pos : Pos} (hX : XOk X C k E) (ho : SE X C E fo o) (he : SE X C E fe e) (hs : starEach [e] X.env = [(false, eval e X.env)]) (hbase : attributeBase o "join" X.env (eval o X.env) = eval o X.env) (hline : (apos.endLine == pos.line) = true) :
    SE X C E (joinF fo fe) (.Call (.Attribute o "join" apos) [e] [] pos) :=
  PE.weak (pe_join ho he hs hbase hline) fun σ H Q q => by
    obtain ⟨S, ρ, st, rp, rn, q⟩ := q
    refine ⟨S, ρ, st, rp, rn, Post.bind (rel2 := rV C) q fun d st1 S1 H1 v g1 rp1 rv1 h1 => ?_⟩
    cases d with
    | str a =>
      have rv1 : RV C S1 (.str a) v := rv1
      rw [rv_str] at rv1
      refine ⟨⟨a, rv1⟩, S1, ρ, st1, rp1, rn.mono g1.ext, Post.bind (rel2 := rV C) h1 fun y st2 S2 H2 w g2 rp2 rw2 h2 => ?_⟩
      have h2 : Post C (rV C) S2 H2 (match seqOf st2 y with
        | some xs => match strsOf xs with
          | some ys => if (ys.map (·.length)).sum + ys.length * a.length ≤ lim then .ok (.str (Txt.join a ys)) st2 else .bad
          | none => .bad
        | none => .bad) Q (E σ) := h2
      unfold seqOf at h2
      have lm : lim ≤ 16777216 := by decide
      cases z : look st2 y with
      | none => rw [z] at h2; exact h2.bad
      | some a' =>
        rw [z] at h2
        cases a' with
        | lst xs =>
          obtain ⟨p, ws, rfl, q1, q2⟩ := look_lst rp2 rw2 z
          rw [← hX.K] at q1
          cases e1 : strsOf xs with
          | none => simp only [e1] at h2; exact h2.bad
          | some ys =>
            simp only [e1] at h2
            obtain ⟨hl, h3⟩ := post_ite h2
            rw [strsOf_rvs e1 q2] at q1
            exact ⟨a, p, ys, rv1, rfl, .inl q1, Nat.le_trans hl lm, post_same h3 rp2 (rv_str.mpr rfl)⟩
        | tup xs =>
          obtain ⟨p, ws, rfl, q1, q2⟩ := look_tup rp2 rw2 z
          rw [← hX.K] at q1
          cases e1 : strsOf xs with
          | none => simp only [e1] at h2; exact h2.bad
          | some ys =>
            simp only [e1] at h2
            obtain ⟨hl, h3⟩ := post_ite h2
            have q3 := sqT_mono rp2.fz q1
            rw [strsOf_rvs e1 q2] at q3
            exact ⟨a, p, ys, rv1, rfl, .inr q3, Nat.le_trans hl lm, post_same h3 rp2 (rv_str.mpr rfl)⟩
        | _ => exact h2.bad
    | _ => exact Post.bad (C := C) h1
theorem q_split {mu : Nat} {fo fe : Fx D} {o e : Expr} {apos pos : Pos} (ho : SE X C E fo o) (he : SE X C E fe e) (hs : starEach [e] X.env = [(false, eval e X.env)] := by rfl) (hbase : attributeBase o "split" X.env (eval o X.env) = eval o X.env := by rfl) (hline : (apos.endLine == pos.line) = true := by rfl) :
    SE X C E (splitF mu fo fe) (.Call (.Attribute o "split" apos) [e] [] pos) := se_split ho he hs hbase hline
theorem q_join {fo fe : Fx D} {o e : Expr} {apos pos : Pos} (hX : XOk X C k E) (ho : SE X C E fo o) (he : SE X C E fe e) (hs : starEach [e] X.env = [(false, eval e X.env)] := by rfl) (hbase : attributeBase o "join" X.env (eval o X.env) = eval o X.env := by rfl) (hline : (apos.endLine == pos.line) = true := by rfl) :
    SE X C E (joinF fo fe) (.Call (.Attribute o "join" apos) [e] [] pos) := se_join hX ho he hs hbase hline
end
section
variable {ρ : Env} {st : Store} {Q : D → Store → Prop} {X : XQ}
@[simp] theorem W_split {mu : Nat} {fo fe : Fx D} : W (splitF mu fo fe ρ st) Q X ↔ W (fo ρ st) (fun x st1 => ∃ a, x = .str a ∧ W (fe ρ st1) (fun y st2 => ∃ b, y = .str b ∧ ((b.length == 0) = false ∧ a.length + 2 ≤ lim) ∧ W (mkL mu ((Txt.split a b).map .str) st2) Q X) X) X := by
  unfold splitF
  rw [W_bind]
  cases fo ρ st with
  | ok x st1 =>
    simp only [W_ok]
    cases x with
    | str a =>
      simp only [W_bind, D.str.injEq, exists_eq_left']
      cases fe ρ st1 with
      | ok y st2 =>
        simp only [W_ok]
        cases y with
        | str b =>
          dsimp only
          by_cases h : (b.length == 0) = false ∧ a.length + 2 ≤ lim
          · rw [if_pos h]
            exact ⟨fun q => ⟨b, rfl, h, q⟩, fun ⟨_, e, _, q⟩ => by cases e; exact q⟩
          · rw [if_neg h]
            exact ⟨fun q => q.elim, fun ⟨_, e, q, _⟩ => by cases e; exact absurd q h⟩
        | _ => simp
      | ex c ns us st => simp
      | bad => simp
    | _ => simp
  | ex c ns us st => simp
  | bad => simp
theorem W_join {fo fe : Fx D} : W (joinF fo fe ρ st) Q X ↔ W (fo ρ st) (fun x st1 => ∃ a, x = .str a ∧ W (fe ρ st1) (fun y st2 => ∃ xs ys, seqOf st2 y = some xs ∧ strsOf xs = some ys ∧ (ys.map (·.length)).sum + ys.length * a.length ≤ lim ∧ Q (.str (Txt.join a ys)) st2) X) X := by
  unfold joinF
  rw [W_bind]
  cases fo ρ st with
  | ok x st1 =>
    simp only [W_ok]
    cases x with
    | str a =>
      simp only [W_bind, D.str.injEq, exists_eq_left']
      cases fe ρ st1 with
      | ok y st2 =>
        simp only [W_ok]
        cases e1 : seqOf st2 y with
        | none => simp
        | some xs =>
          cases e2 : strsOf xs with
          | none => simp [e2]
          | some ys =>
            by_cases h : (ys.map (·.length)).sum + ys.length * a.length ≤ lim
            · simp [e2, h]
            · simp [e2, h]
      | ex c ns us st => simp
      | bad => simp
    | _ => simp
  | ex c ns us st => simp
  | bad => simp
end
end Px

/-! Px51: name += e, name -= e for whole numbers. -/
namespace Px
open PySem PySem.Spec PyProof.Rows L2
section
variable {X : Cx} {C : Kc} {E : L2.St → XK} {k : Nat}
def augF (i : Nat) (sub : Bool) (f : Fx D) : FS := fun ρ st => match ρ[i]? with
  | some (some (.int a)) => runE f (fun d ρ st => match d with
    | .int b => .ok (.nx (ρ.set i (some (.int (if sub then a - b else a + b))))) st
    | _ => .bad) ρ st
  | _ => .bad
theorem aug_step {i : Nat} {sub : Bool} {f : Fx D} {De : Ends} {σ : L2.St} {H : Hp} {S : Rp} {ρ : Env} {st : Store} (rp : Rep C S st H) (rn : REnv C S ρ σ) (h : PostS C E De S H (augF i sub f ρ st)) :
    tAug i (tF C (rV C) E f) (ipI fun a b => if sub then a - b else a + b) De σ H := by
  unfold augF at h
  split at h
  · rename_i a e1
    obtain ⟨u, e2, ru⟩ := rn.at_ i _ e1
    rw [rv_int] at ru
    subst ru
    refine ⟨_, e2, S, ρ, st, rp, rn, runE_post rn h fun d st1 S1 H1 v g1 rp1 rv1 h1 => ?_⟩
    cases d with
    | int b =>
      have rv1 : RV C S1 (.int b) v := rv1
      rw [rv_int] at rv1
      subst rv1
      exact ⟨a, b, rfl, rfl, postS_nx h1 rp1 ((rn.mono g1.ext).set (rv_int.mpr rfl))⟩
    | _ => exact PostS.bad (C := C) h1
  · exact PostS.bad (C := C) h
theorem s_augA (i : Nat) {x : Str} {f : Fx D} {e : Expr} {pos' pos : Pos} (hX : XOk X C k E) (he : SE X C E f e) (hi : X.N[i]? = some x := by rfl) (hx : Loc X.env.scope x := by first | exact Or.inl rfl | exact Or.inr rfl) (hf : X.fn x = true ∨ X.env.scope.names.lookup x = some .local := by first | exact Or.inr rfl | exact Or.inl rfl) :
    SS X C E (augF i false f) (.AugAssign (.Name x pos') .Add e pos) :=
  PS.weak (ps_aug hX.nd hi hx he ip_add hf) fun D σ H ⟨S, ρ, st, rp, rn, h⟩ => aug_step (sub := false) rp rn h
theorem s_augS (i : Nat) {x : Str} {f : Fx D} {e : Expr} {pos' pos : Pos} (hX : XOk X C k E) (he : SE X C E f e) (hi : X.N[i]? = some x := by rfl) (hx : Loc X.env.scope x := by first | exact Or.inl rfl | exact Or.inr rfl) (hf : X.fn x = true ∨ X.env.scope.names.lookup x = some .local := by first | exact Or.inr rfl | exact Or.inl rfl) :
    SS X C E (augF i true f) (.AugAssign (.Name x pos') .Sub e pos) :=
  PS.weak (ps_aug hX.nd hi hx he ip_sub hf) fun D σ H ⟨S, ρ, st, rp, rn, h⟩ => aug_step (sub := true) rp rn h
end
section
variable {ρ : Env} {st : Store} {P : F → Store → Prop} {X : XQ}
theorem W_aug {i : Nat} {sub : Bool} {f : Fx D} {a : Int} (h : ρ[i]? = some (some (.int a))) : W (augF i sub f ρ st) P X ↔ W (f ρ st) (fun d st1 => ∃ b, d = .int b ∧ P (.nx (ρ.set i (some (.int (if sub then a - b else a + b))))) st1) (fun c ns us st1 => P (.xc c ns us ρ) st1) := by
  unfold augF
  simp only [h]
  rw [W_runE]
  cases f ρ st with
  | ok d st1 =>
    simp only [W_ok]
    cases d <;> simp
  | ex c ns us st => simp
  | bad => simp
end
end Px

/-! Px52: list(range(n)). -/
namespace Px
open PySem PySem.Spec PyProof.Rows L2
section
variable {X : Cx} {C : Kc} {E : L2.St → XK} {k : Nat}
def intsN (n : Nat) : List D := (List.range n).map fun (j : Nat) => D.int (j : Int)
def lrgF (mu : Nat) (f : Fx D) : Fx D := fun ρ st => (f ρ st).bind fun x st1 => match x with
  | .int b => if 0 ≤ b ∧ b ≤ 1000000 then mkL mu (intsN b.toNat) st1 else .bad
  | _ => .bad
theorem rvs_intsN {S : Rp} {b : Int} : RVs C S (intsN b.toNat) (rgV 0 b) := by
  have h : ∀ (l : List Nat), RVs C S (l.map fun (j : Nat) => D.int (j : Int)) (l.map fun (j : Nat) => V.int (0 + (j : Int))) := by
    intro l
    induction l with
    | nil => exact .nil
    | cons x l ih => exact .cons (rv_int.mpr (by show V.int (0 + (x : Int)) = V.int (x : Int); rw [Int.zero_add])) ih
  unfold intsN rgV
  rw [Int.sub_zero]
  exact h _
theorem se_lrg {mu : Nat} {f : Fx D} {e : Expr} {p p2 pos pos2 : Pos} (hX : XOk X C k E) (hg : Gl X "list") (hm : X.mg "list" = none) (hg2 : Gl X "range") (hm2 : X.mg "range" = none) (he : SE X C E f e) (na : starEach [e] X.env = (false, eval e X.env) :: starEach [] X.env)
    (na2 : starEach [.Call (.Name "range" p2) [e] [] pos2] X.env = (false, eval (.Call (.Name "range" p2) [e] [] pos2) X.env) :: starEach [] X.env) :
    SE X C E (lrgF mu f) (.Call (.Name "list" p) [.Call (.Name "range" p2) [e] [] pos2] [] pos) :=
  PE.weak (pe_listRg hX.calm hg hm (prg_1 hg2 hm2 he na) na2) fun σ H Q q => by
    obtain ⟨S, ρ, st, rp, rn, q⟩ := q
    refine ⟨S, ρ, st, rp, rn, Post.bind (rel2 := rV C) q fun d st1 S1 H1 v g1 rp1 rv1 h1 => ?_⟩
    cases d with
    | int b =>
      have rv1 : RV C S1 (.int b) v := rv1
      rw [rv_int] at rv1
      obtain ⟨⟨h0, hb⟩, h2⟩ := post_ite h1
      exact ⟨b, rv1, RgOk.of_le (Int.le_refl 0) (by omega) (by decide) h0, fun p hp => mkL_post h2 rp1 rvs_intsN hp⟩
    | _ => exact Post.bad (C := C) h1
theorem q_lrg {mu : Nat} {f : Fx D} {e : Expr} {p p2 pos pos2 : Pos} (hX : XOk X C k E) (hm : X.mg "list" = none) (hm2 : X.mg "range" = none) (he : SE X C E f e) (hg : Gl X "list" := by rfl) (hg2 : Gl X "range" := by rfl) (na : starEach [e] X.env = (false, eval e X.env) :: starEach [] X.env := by rfl)
    (na2 : starEach [.Call (.Name "range" p2) [e] [] pos2] X.env = (false, eval (.Call (.Name "range" p2) [e] [] pos2) X.env) :: starEach [] X.env := by rfl) :
    SE X C E (lrgF mu f) (.Call (.Name "list" p) [.Call (.Name "range" p2) [e] [] pos2] [] pos) := se_lrg hX hg hm hg2 hm2 he na na2
end
section
variable {ρ : Env} {st : Store} {Q : D → Store → Prop} {X : XQ}
@[simp] theorem W_lrg {mu : Nat} {f : Fx D} : W (lrgF mu f ρ st) Q X ↔ W (f ρ st) (fun x st1 => ∃ b, x = .int b ∧ (0 ≤ b ∧ b ≤ 1000000) ∧ W (mkL mu (intsN b.toNat) st1) Q X) X := by
  unfold lrgF
  rw [W_bind]
  cases f ρ st with
  | ok x st1 =>
    simp only [W_ok]
    cases x with
    | int b =>
      dsimp only
      by_cases h : 0 ≤ b ∧ b ≤ 1000000
      · rw [if_pos h]
        exact ⟨fun q => ⟨b, rfl, h, q⟩, fun ⟨_, e, _, q⟩ => by cases e; exact q⟩
      · rw [if_neg h]
        exact ⟨fun q => ((W_bad).mp q).elim, fun ⟨_, e, q, _⟩ => by cases e; exact absurd q h⟩
    | _ => simp
  | ex c ns us st => simp
  | bad => simp
end
end Px

/-! Px53: a small matrix satisfies its own equation; sequences of its powers. -/
namespace Px
def apT (n : Nat) (A : Tn) (x : Nat → Int) : Nat → Int := fun i => Sm n fun j => A i j * x j
def itA (n : Nat) (A : Tn) (x : Nat → Int) : Nat → Nat → Int
  | 0 => x
  | k + 1 => apT n A (itA n A x k)
def ch1_0 (A : Tn) : Int := (((A 0 0*(1))))
theorem ch1 {A : Tn} {x : Nat → Int} {i : Nat} (hi : i < 1) : itA 1 A x 1 i = ch1_0 A * itA 1 A x 0 i := by
  match i, hi with
  | 0, _ =>
    simp [itA, apT, Sm, ch1_0]
    try grind
def ch2_1 (A : Tn) : Int := (((A 0 0*(1))) + ((A 1 1*(1))))
def ch2_0 (A : Tn) : Int := -(((A 0 0*(((A 1 1*(1))))) + (-A 0 1*(((A 1 0*(1)))))))
theorem ch2 {A : Tn} {x : Nat → Int} {i : Nat} (hi : i < 2) : itA 2 A x 2 i = ch2_0 A * itA 2 A x 0 i + ch2_1 A * itA 2 A x 1 i := by
  match i, hi with
  | 0, _ =>
    simp [itA, apT, Sm, ch2_0, ch2_1]
    try grind
  | 1, _ =>
    simp [itA, apT, Sm, ch2_0, ch2_1]
    try grind
def ch3_2 (A : Tn) : Int := (((A 0 0*(1))) + ((A 1 1*(1))) + ((A 2 2*(1))))
def ch3_1 (A : Tn) : Int := -(((A 0 0*(((A 1 1*(1))))) + (-A 0 1*(((A 1 0*(1)))))) + ((A 0 0*(((A 2 2*(1))))) + (-A 0 2*(((A 2 0*(1)))))) + ((A 1 1*(((A 2 2*(1))))) + (-A 1 2*(((A 2 1*(1)))))))
def ch3_0 (A : Tn) : Int := (((A 0 0*(((A 1 1*(((A 2 2*(1))))) + (-A 1 2*(((A 2 1*(1)))))))) + (-A 0 1*(((A 1 0*(((A 2 2*(1))))) + (-A 1 2*(((A 2 0*(1)))))))) + (A 0 2*(((A 1 0*(((A 2 1*(1))))) + (-A 1 1*(((A 2 0*(1))))))))))
theorem ch3 {A : Tn} {x : Nat → Int} {i : Nat} (hi : i < 3) : itA 3 A x 3 i = ch3_0 A * itA 3 A x 0 i + ch3_1 A * itA 3 A x 1 i + ch3_2 A * itA 3 A x 2 i := by
  match i, hi with
  | 0, _ =>
    simp [itA, apT, Sm, ch3_0, ch3_1, ch3_2]
    try grind
  | 1, _ =>
    simp [itA, apT, Sm, ch3_0, ch3_1, ch3_2]
    try grind
  | 2, _ =>
    simp [itA, apT, Sm, ch3_0, ch3_1, ch3_2]
    try grind
def ch4_3 (A : Tn) : Int := (((A 0 0*(1))) + ((A 1 1*(1))) + ((A 2 2*(1))) + ((A 3 3*(1))))
def ch4_2 (A : Tn) : Int := -(((A 0 0*(((A 1 1*(1))))) + (-A 0 1*(((A 1 0*(1)))))) + ((A 0 0*(((A 2 2*(1))))) + (-A 0 2*(((A 2 0*(1)))))) + ((A 0 0*(((A 3 3*(1))))) + (-A 0 3*(((A 3 0*(1)))))) + ((A 1 1*(((A 2 2*(1))))) + (-A 1 2*(((A 2 1*(1)))))) + ((A 1 1*(((A 3 3*(1))))) + (-A 1 3*(((A 3 1*(1)))))) + ((A 2 2*(((A 3 3*(1))))) + (-A 2 3*(((A 3 2*(1)))))))
def ch4_1 (A : Tn) : Int := (((A 0 0*(((A 1 1*(((A 2 2*(1))))) + (-A 1 2*(((A 2 1*(1)))))))) + (-A 0 1*(((A 1 0*(((A 2 2*(1))))) + (-A 1 2*(((A 2 0*(1)))))))) + (A 0 2*(((A 1 0*(((A 2 1*(1))))) + (-A 1 1*(((A 2 0*(1))))))))) + ((A 0 0*(((A 1 1*(((A 3 3*(1))))) + (-A 1 3*(((A 3 1*(1)))))))) + (-A 0 1*(((A 1 0*(((A 3 3*(1))))) + (-A 1 3*(((A 3 0*(1)))))))) + (A 0 3*(((A 1 0*(((A 3 1*(1))))) + (-A 1 1*(((A 3 0*(1))))))))) + ((A 0 0*(((A 2 2*(((A 3 3*(1))))) + (-A 2 3*(((A 3 2*(1)))))))) + (-A 0 2*(((A 2 0*(((A 3 3*(1))))) + (-A 2 3*(((A 3 0*(1)))))))) + (A 0 3*(((A 2 0*(((A 3 2*(1))))) + (-A 2 2*(((A 3 0*(1))))))))) + ((A 1 1*(((A 2 2*(((A 3 3*(1))))) + (-A 2 3*(((A 3 2*(1)))))))) + (-A 1 2*(((A 2 1*(((A 3 3*(1))))) + (-A 2 3*(((A 3 1*(1)))))))) + (A 1 3*(((A 2 1*(((A 3 2*(1))))) + (-A 2 2*(((A 3 1*(1))))))))))
def ch4_0 (A : Tn) : Int := -(((A 0 0*(((A 1 1*(((A 2 2*(((A 3 3*(1))))) + (-A 2 3*(((A 3 2*(1)))))))) + (-A 1 2*(((A 2 1*(((A 3 3*(1))))) + (-A 2 3*(((A 3 1*(1)))))))) + (A 1 3*(((A 2 1*(((A 3 2*(1))))) + (-A 2 2*(((A 3 1*(1))))))))))) + (-A 0 1*(((A 1 0*(((A 2 2*(((A 3 3*(1))))) + (-A 2 3*(((A 3 2*(1)))))))) + (-A 1 2*(((A 2 0*(((A 3 3*(1))))) + (-A 2 3*(((A 3 0*(1)))))))) + (A 1 3*(((A 2 0*(((A 3 2*(1))))) + (-A 2 2*(((A 3 0*(1))))))))))) + (A 0 2*(((A 1 0*(((A 2 1*(((A 3 3*(1))))) + (-A 2 3*(((A 3 1*(1)))))))) + (-A 1 1*(((A 2 0*(((A 3 3*(1))))) + (-A 2 3*(((A 3 0*(1)))))))) + (A 1 3*(((A 2 0*(((A 3 1*(1))))) + (-A 2 1*(((A 3 0*(1))))))))))) + (-A 0 3*(((A 1 0*(((A 2 1*(((A 3 2*(1))))) + (-A 2 2*(((A 3 1*(1)))))))) + (-A 1 1*(((A 2 0*(((A 3 2*(1))))) + (-A 2 2*(((A 3 0*(1)))))))) + (A 1 2*(((A 2 0*(((A 3 1*(1))))) + (-A 2 1*(((A 3 0*(1)))))))))))))
theorem ch4 {A : Tn} {x : Nat → Int} {i : Nat} (hi : i < 4) : itA 4 A x 4 i = ch4_0 A * itA 4 A x 0 i + ch4_1 A * itA 4 A x 1 i + ch4_2 A * itA 4 A x 2 i + ch4_3 A * itA 4 A x 3 i := by
  match i, hi with
  | 0, _ =>
    simp [itA, apT, Sm, ch4_0, ch4_1, ch4_2, ch4_3]
    try grind
  | 1, _ =>
    simp [itA, apT, Sm, ch4_0, ch4_1, ch4_2, ch4_3]
    try grind
  | 2, _ =>
    simp [itA, apT, Sm, ch4_0, ch4_1, ch4_2, ch4_3]
    try grind
  | 3, _ =>
    simp [itA, apT, Sm, ch4_0, ch4_1, ch4_2, ch4_3]
    try grind
end Px

/-! Px54: sequences with a recurrence, backwards. -/
namespace Px
theorem itA_add {n : Nat} {A : Tn} {x : Nat → Int} {a : Nat} : ∀ k : Nat, itA n A x (a + k) = itA n A (itA n A x a) k
  | 0 => rfl
  | k + 1 => by
    show apT n A (itA n A x (a + k)) = apT n A (itA n A (itA n A x a) k)
    rw [itA_add k]
/-- a recurrence of order n -/
def Rec (n : Nat) (r b : Nat → Int) : Prop := ∀ k, b (k + n) = Sm n fun j => r j * b (k + j)
theorem cayley {n : Nat} (h1 : 1 ≤ n) (h4 : n ≤ 4) (A : Tn) : ∃ r : Nat → Int, ∀ x i, i < n → Rec n r fun k => itA n A x k i := by
  have sh : ∀ r : Nat → Int, (∀ x i, i < n → itA n A x n i = Sm n fun j => r j * itA n A x j i) → ∀ x i, i < n → Rec n r fun k => itA n A x k i := fun r h x i hi k => by
    show itA n A x (k + n) i = _
    rw [itA_add, h _ i hi]
    exact Sm_congr fun j _ => by show _ = r j * itA n A x (k + j) i; rw [itA_add]
  match n, h1, h4 with
  | 1, _, _ => exact ⟨fun _ => ch1_0 A, sh _ fun x i hi => by rw [ch1 hi]; simp [Sm]⟩
  | 2, _, _ => exact ⟨fun j => match j with | 0 => ch2_0 A | _ => ch2_1 A, sh _ fun x i hi => by rw [ch2 hi]; simp [Sm]⟩
  | 3, _, _ => exact ⟨fun j => match j with | 0 => ch3_0 A | 1 => ch3_1 A | _ => ch3_2 A, sh _ fun x i hi => by rw [ch3 hi]; simp [Sm]⟩
  | 4, _, _ => exact ⟨fun j => match j with | 0 => ch4_0 A | 1 => ch4_1 A | 2 => ch4_2 A | _ => ch4_3 A, sh _ fun x i hi => by rw [ch4 hi]; simp [Sm]⟩
theorem dvd_Sm {p : Int} {n : Nat} {f : Nat → Int} (h : ∀ i, i < n → p ∣ f i) : p ∣ Sm n f := by
  induction n with
  | zero => exact Int.dvd_zero p
  | succ n ih => exact Int.dvd_add (ih fun i hi => h i (by omega)) (h n (by omega))
/-- all but one of the terms are divided -/
theorem dvd_Sm_one {p : Int} {n m : Nat} {f : Nat → Int} (hm : m < n) (hs : p ∣ Sm n f) (h : ∀ i, i < n → i ≠ m → p ∣ f i) : p ∣ f m := by
  induction n with
  | zero => omega
  | succ n ih =>
    rw [Sm] at hs
    by_cases e : m = n
    · subst e
      have := dvd_Sm (n := m) (f := f) fun i hi => h i (by omega) (by omega)
      exact (Int.dvd_add_right this).mp hs
    · have hn := h n (by omega) (Ne.symm e)
      exact ih (by omega) ((Int.dvd_add_left hn).mp hs) fun i hi hne => h i (by omega) hne
/-- a recurrence mod p (p = 0: exactly); in the end nothing: nothing from n on -/
theorem back {p : Int} (hp : ∀ a b : Int, p ∣ a * b → p ∣ a ∨ p ∣ b) {n i0 : Nat} {r t : Nat → Int} (R : ∀ k, p ∣ t (k + n) - Sm n fun j => r j * t (k + j)) (hz : ∀ k, i0 ≤ k → p ∣ t k) : ∀ k, n ≤ k → p ∣ t k := by
  by_cases hall : ∀ j, j < n → p ∣ r j
  · intro k hk
    obtain ⟨m, rfl⟩ : ∃ m, k = m + n := ⟨k - n, by omega⟩
    have h1 : p ∣ Sm n fun j => r j * t (m + j) := dvd_Sm fun j hj => Int.dvd_mul_of_dvd_left (hall j hj)
    have h2 := Int.dvd_add (R m) h1
    rwa [Int.sub_add_cancel] at h2
  · have hex : ∃ m, m < n ∧ ¬ p ∣ r m ∧ ∀ j, j < m → p ∣ r j := by
      have : ∃ m, m < n ∧ ¬ p ∣ r m := by
        by_cases h : ∃ m, m < n ∧ ¬ p ∣ r m
        · exact h
        · exact absurd (fun j hj => Classical.byContradiction fun hn => h ⟨j, hj, hn⟩) hall
      obtain ⟨m, hm, hr⟩ := this
      induction m using Nat.strongRecOn with
      | _ m ih =>
        by_cases h : ∀ j, j < m → p ∣ r j
        · exact ⟨m, hm, hr, h⟩
        · have : ∃ j, j < m ∧ ¬ p ∣ r j := Classical.byContradiction fun hn => h fun j hj => Classical.byContradiction fun hd => hn ⟨j, hj, hd⟩
          obtain ⟨j, hj, hd⟩ := this
          exact ih j hj (by omega) hd
    obtain ⟨m, hm, hr, hl⟩ := hex
    have key : ∀ e k, i0 ≤ k + m + e → p ∣ t (k + m) := by
      intro e
      induction e with
      | zero => intro k hk; exact hz _ (by omega)
      | succ e ih =>
        intro k hk
        have later : ∀ j, m < j → p ∣ t (k + j) := fun j hj => by
          have := ih (k + (j - m)) (by omega)
          rwa [show k + (j - m) + m = k + j by omega] at this
        have hs : p ∣ Sm n fun j => r j * t (k + j) := by
          have h1 := R k
          have h2 := later n hm
          have h3 := Int.dvd_sub h2 h1
          have e3 : t (k + n) - (t (k + n) - Sm n fun j => r j * t (k + j)) = Sm n fun j => r j * t (k + j) := by omega
          rwa [e3] at h3
        have h4 := dvd_Sm_one (f := fun j => r j * t (k + j)) hm hs fun j hj hne => by
          by_cases hjm : j < m
          · exact Int.dvd_mul_of_dvd_left (hl j hjm)
          · exact Int.dvd_mul_of_dvd_right (later j (by omega))
        rcases hp _ _ h4 with h5 | h5
        · exact absurd h5 hr
        · exact h5
    intro k hk
    obtain ⟨q, rfl⟩ : ∃ q, k = q + m := ⟨k - m, by omega⟩
    exact key i0 q (by omega)
end Px

/-! Px55: polynomials in the difference, at work on sequences. -/
namespace Px
def Dl (b : Nat → Int) : Nat → Int := fun k => b (k + 1) - b k
/-- a polynomial in the difference, lowest first -/
def app : List Int → (Nat → Int) → Nat → Int
  | [], _ => fun _ => 0
  | c :: cs, b => fun k => c * b k + app cs (Dl b) k
def padd : List Int → List Int → List Int
  | [], q => q
  | p, [] => p
  | a :: p, b :: q => (a + b) :: padd p q
def pscale (c : Int) (p : List Int) : List Int := p.map fun x => c * x
def pmul : List Int → List Int → List Int
  | [], _ => []
  | a :: p, q => padd (pscale a q) (0 :: pmul p q)
def ppow (p : List Int) : Nat → List Int
  | 0 => [1]
  | n + 1 => pmul p (ppow p n)
theorem Dl_add {a b : Nat → Int} : Dl (fun k => a k + b k) = fun k => Dl a k + Dl b k := by funext k; simp [Dl]; omega
theorem Dl_scale {c : Int} {b : Nat → Int} : Dl (fun k => c * b k) = fun k => c * Dl b k := by funext k; simp [Dl, Int.mul_sub]
theorem app_nil {b : Nat → Int} {k : Nat} : app [] b k = 0 := rfl
theorem app_cons {c : Int} {cs : List Int} {b : Nat → Int} {k : Nat} : app (c :: cs) b k = c * b k + app cs (Dl b) k := rfl
theorem app_add : ∀ {p : List Int} {a b : Nat → Int}, app p (fun k => a k + b k) = fun k => app p a k + app p b k
  | [], a, b => by funext k; simp [app]
  | c :: p, a, b => by
    funext k
    rw [app_cons, Dl_add, app_add, app_cons, app_cons, Int.mul_add]
    show c * a k + c * b k + (app p (Dl a) k + app p (Dl b) k) = _
    omega
theorem app_scale : ∀ {p : List Int} {c : Int} {b : Nat → Int}, app p (fun k => c * b k) = fun k => c * app p b k
  | [], c, b => by funext k; simp [app]
  | d :: p, c, b => by
    funext k
    rw [app_cons, Dl_scale, app_scale, app_cons, Int.mul_add, Int.mul_left_comm]
theorem app_padd : ∀ {p q : List Int} {b : Nat → Int} {k : Nat}, app (padd p q) b k = app p b k + app q b k
  | [], q, b, k => by simp [padd, app_nil]
  | a :: p, [], b, k => by simp [padd, app_nil]
  | a :: p, c :: q, b, k => by
    show app ((a + c) :: padd p q) b k = _
    rw [app_cons, app_padd, app_cons, app_cons, Int.add_mul]; omega
theorem app_pscale : ∀ {p : List Int} {c : Int} {b : Nat → Int} {k : Nat}, app (pscale c p) b k = c * app p b k
  | [], c, b, k => by simp [pscale, app_nil]
  | a :: p, c, b, k => by
    show app ((c * a) :: pscale c p) b k = _
    rw [app_cons, app_pscale, app_cons, Int.mul_add, Int.mul_assoc]
theorem Dl_zero : Dl (fun _ => 0) = fun _ => 0 := by funext k; simp [Dl]
theorem app_Dl : ∀ {p : List Int} {b : Nat → Int}, Dl (app p b) = app p (Dl b)
  | [], b => Dl_zero
  | a :: p, b => by
    have e : app (a :: p) b = fun k => a * b k + app p (Dl b) k := rfl
    rw [e, Dl_add, Dl_scale, app_Dl]; rfl
theorem app_pmul : ∀ {p q : List Int} {b : Nat → Int} {k : Nat}, app (pmul p q) b k = app p (app q b) k
  | [], q, b, k => rfl
  | a :: p, q, b, k => by
    show app (padd (pscale a q) (0 :: pmul p q)) b k = _
    rw [app_padd, app_pscale, app_cons, app_pmul, app_cons, app_Dl]; omega
theorem app_one {b : Nat → Int} {k : Nat} : app [1] b k = b k := by rw [app_cons, app_nil]; omega
theorem app_shift1 {b : Nat → Int} {k : Nat} : app [1, 1] b k = b (k + 1) := by
  rw [app_cons, app_cons, app_nil]; simp [Dl]; omega
theorem app_shift : ∀ {m : Nat} {b : Nat → Int} {k : Nat}, app (ppow [1, 1] m) b k = b (k + m)
  | 0, b, k => app_one
  | m + 1, b, k => by
    show app (pmul [1, 1] (ppow [1, 1] m)) b k = _
    rw [app_pmul, app_shift1, app_shift, show k + 1 + m = k + (m + 1) by omega]
/-- what divides the sequence divides what comes of it -/
theorem dvd_app {d : Int} : ∀ {p : List Int} {b : Nat → Int}, (∀ k, d ∣ b k) → ∀ k, d ∣ app p b k
  | [], b, h, k => Int.dvd_zero d
  | a :: p, b, h, k => by
    rw [app_cons]
    exact Int.dvd_add (Int.dvd_mul_of_dvd_right (h k)) (dvd_app (fun j => Int.dvd_sub (h (j + 1)) (h j)) k)
/-- coefficients that are divided -/
theorem dvd_coef {d : Int} : ∀ {p : List Int} {b : Nat → Int}, (∀ c ∈ p, d ∣ c) → ∀ k, d ∣ app p b k
  | [], b, h, k => Int.dvd_zero d
  | a :: p, b, h, k => by
    rw [app_cons]
    exact Int.dvd_add (Int.dvd_mul_of_dvd_left (h a List.mem_cons_self)) (dvd_coef (fun c hc => h c (List.mem_cons_of_mem _ hc)) k)
end Px

/-! Px56: a recurrence in the difference; nilpotence mod p. -/
namespace Px
def Dn : Nat → (Nat → Int) → Nat → Int
  | 0, b => b
  | j + 1, b => Dn j (Dl b)
theorem Dn_add {b : Nat → Int} {j : Nat} : ∀ m : Nat, ∀ b : Nat → Int, Dn (m + j) b = Dn j (Dn m b)
  | 0, b => by rw [Nat.zero_add]; rfl
  | m + 1, b => by
    rw [show m + 1 + j = (m + j) + 1 by omega]
    exact Dn_add (b := b) m (Dl b)
theorem rec_Dl {n : Nat} {r b : Nat → Int} (h : Rec n r b) : Rec n r (Dl b) := fun k => by
  have e1 := h k
  have e2 := h (k + 1)
  have e : (Sm n fun j => r j * Dl b (k + j)) = (Sm n fun j => r j * b (k + 1 + j)) - Sm n fun j => r j * b (k + j) := by
    have e3 : (fun j => r j * b (k + 1 + j)) = fun j => r j * Dl b (k + j) + r j * b (k + j) := by
      funext j
      unfold Dl
      rw [show k + 1 + j = k + j + 1 by omega, Int.mul_sub]; omega
    rw [e3, Sm_add]; omega
  rw [e, ← e1, ← e2]
  unfold Dl
  rw [show k + n + 1 = k + 1 + n by omega]
theorem rec_Dn {n : Nat} {r : Nat → Int} : ∀ (m : Nat) {b : Nat → Int}, Rec n r b → Rec n r (Dn m b)
  | 0, b, h => h
  | m + 1, b, h => rec_Dn m (rec_Dl h)
theorem recD {n : Nat} (h1 : 1 ≤ n) (h4 : n ≤ 4) (r : Nat → Int) : ∃ r' : Nat → Int, ∀ b, Rec n r b → ∀ k, Dn n b k = Sm n fun j => r' j * Dn j b k := by
  match n, h1, h4 with
  | 1, _, _ =>
    refine ⟨fun _ => r 0 - 1, fun b h k => ?_⟩
    have e := h k
    simp [Sm, Dn, Dl] at e ⊢
    grind
  | 2, _, _ =>
    refine ⟨fun j => match j with | 0 => r 0 + r 1 - 1 | _ => r 1 - 2, fun b h k => ?_⟩
    have e := h k
    simp [Sm, Dn, Dl] at e ⊢
    grind
  | 3, _, _ =>
    refine ⟨fun j => match j with | 0 => r 0 + r 1 + r 2 - 1 | 1 => r 1 + 2 * r 2 - 3 | _ => r 2 - 3, fun b h k => ?_⟩
    have e := h k
    simp [Sm, Dn, Dl] at e ⊢
    grind
  | 4, _, _ =>
    refine ⟨fun j => match j with | 0 => r 0 + r 1 + r 2 + r 3 - 1 | 1 => r 1 + 2 * r 2 + 3 * r 3 - 4 | 2 => r 2 + 3 * r 3 - 6 | _ => r 3 - 4, fun b h k => ?_⟩
    have e := h k
    simp [Sm, Dn, Dl] at e ⊢
    grind
/-- nilpotent mod p: the n-th difference is divided already -/
theorem nilp {p : Int} (hp : ∀ a b : Int, p ∣ a * b → p ∣ a ∨ p ∣ b) {n q : Nat} (h1 : 1 ≤ n) (h4 : n ≤ 4) {r b : Nat → Int} (h : Rec n r b) (hq : ∀ k, p ∣ Dn q b k) : ∀ m, n ≤ m → ∀ k, p ∣ Dn m b k := by
  obtain ⟨r', hr⟩ := recD h1 h4 r
  intro m hm k
  refine back (r := r') (t := fun j => Dn j b k) (i0 := q) hp (fun j => ?_) (fun j hj => ?_) m hm
  · have e := hr (Dn j b) (rec_Dn j h) k
    show p ∣ Dn (j + n) b k - Sm n fun i => r' i * Dn (j + i) b k
    have e2 : (fun i => r' i * Dn (j + i) b k) = fun i => r' i * Dn i (Dn j b) k := by funext i; rw [Dn_add (b := b)]
    rw [Dn_add (b := b), e, e2, Int.sub_self]
    exact Int.dvd_zero p
  · obtain ⟨c, rfl⟩ : ∃ c, j = q + c := ⟨j - q, by omega⟩
    show p ∣ Dn (q + c) b k
    rw [Dn_add (b := b)]
    have : ∀ (c : Nat) (u : Nat → Int), (∀ k, p ∣ u k) → ∀ k, p ∣ Dn c u k := by
      intro c
      induction c with
      | zero => intro u hu k; exact hu k
      | succ c ih => intro u hu k; exact ih (Dl u) (fun k => Int.dvd_sub (hu (k + 1)) (hu k)) k
    exact this c _ hq k
end Px

/-! Px57: a period of a prime power that is too great for the order. -/
namespace Px
/-- the sum of the p shifts by s, in the difference -/
def phL (p s : Nat) : List Int := match p with
  | 0 => []
  | p + 1 => padd (phL p s) (ppow [1, 1] (p * s))
theorem app_phL {s : Nat} {b : Nat → Int} {k : Nat} : ∀ {p : Nat}, app (phL p s) b k = Sm p fun j => b (k + j * s)
  | 0 => rfl
  | p + 1 => by
    show app (padd (phL p s) (ppow [1, 1] (p * s))) b k = _
    rw [app_padd, app_phL, app_shift, Sm]
theorem app_top : ∀ {m : Nat} {b : Nat → Int} {k : Nat}, app (List.replicate m 0 ++ [1]) b k = Dn m b k
  | 0, b, k => app_one
  | m + 1, b, k => by
    show app (0 :: (List.replicate m 0 ++ [1])) b k = Dn m (Dl b) k
    rw [app_cons, app_top]; omega
theorem app_Dn {p : List Int} : ∀ {m : Nat} {b : Nat → Int}, Dn m (app p b) = app p (Dn m b)
  | 0, b => rfl
  | m + 1, b => by
    show Dn m (Dl (app p b)) = app p (Dn m (Dl b))
    rw [app_Dl, app_Dn]
/-- sequences with the recurrence r, the period q, killed by the list L -/
structure Cl (n : Nat) (r : Nat → Int) (q : Nat) (L : List Int) (x : Nat → Int) : Prop where
  rc : Rec n r x
  pe : ∀ k, x (k + q) = x k
  kl : ∀ k, app L x k = 0
section
variable {n q : Nat} {r : Nat → Int} {L : List Int}
theorem Rec.add {x y : Nat → Int} (h : Rec n r x) (g : Rec n r y) : Rec n r fun k => x k + y k := fun k => by
  show x (k + n) + y (k + n) = _
  rw [h k, g k, ← Sm_add]
  exact Sm_congr fun j _ => (Int.mul_add _ _ _).symm
theorem Rec.scale {x : Nat → Int} (h : Rec n r x) (c : Int) : Rec n r fun k => c * x k := fun k => by
  show c * x (k + n) = _
  rw [h k, ← Sm_mulL]
  exact Sm_congr fun j _ => Int.mul_left_comm _ _ _
theorem Cl.add {x y : Nat → Int} (h : Cl n r q L x) (g : Cl n r q L y) : Cl n r q L fun k => x k + y k :=
  ⟨h.rc.add g.rc, fun k => by show x _ + y _ = _; rw [h.pe, g.pe], fun k => by rw [app_add]; show app L x k + app L y k = 0; rw [h.kl, g.kl]; rfl⟩
theorem Cl.scale {x : Nat → Int} (h : Cl n r q L x) (c : Int) : Cl n r q L fun k => c * x k :=
  ⟨h.rc.scale c, fun k => by show c * x _ = _; rw [h.pe], fun k => by rw [app_scale]; show c * app L x k = 0; rw [h.kl]; exact Int.mul_zero c⟩
theorem Cl.dl {x : Nat → Int} (h : Cl n r q L x) : Cl n r q L (Dl x) :=
  ⟨rec_Dl h.rc, fun k => by unfold Dl; rw [show k + q + 1 = k + 1 + q by omega, h.pe, h.pe], fun k => by
    rw [← app_Dl]
    show app L x (k + 1) - app L x k = 0
    rw [h.kl, h.kl]; rfl⟩
theorem Cl.dn : ∀ (m : Nat) {x : Nat → Int}, Cl n r q L x → Cl n r q L (Dn m x)
  | 0, _, h => h
  | m + 1, _, h => Cl.dn m h.dl
theorem Cl.app_ : ∀ (p : List Int) {x : Nat → Int}, Cl n r q L x → Cl n r q L (app p x)
  | [], x, h => by
    have := h.scale 0
    have e : (fun k => 0 * x k) = app [] x := by funext k; simp [app]
    rwa [e] at this
  | a :: p, x, h => (h.scale a).add (Cl.app_ p h.dl)
/-- what p times it is in the class is in the class -/
theorem Cl.div {x : Nat → Int} {p : Int} (hp : p ≠ 0) (h : Cl n r q L fun k => p * x k) : Cl n r q L x := by
  refine ⟨fun k => ?_, fun k => ?_, fun k => ?_⟩
  · have e := h.rc k
    have e2 : (Sm n fun j => r j * (p * x (k + j))) = p * Sm n fun j => r j * x (k + j) := by
      rw [← Sm_mulL]; exact Sm_congr fun j _ => Int.mul_left_comm _ _ _
    exact Int.eq_of_mul_eq_mul_left hp (e.trans e2)
  · exact Int.eq_of_mul_eq_mul_left hp (h.pe k)
  · have e := h.kl k
    rw [app_scale] at e
    exact Int.eq_of_mul_eq_mul_left hp (e.trans (Int.mul_zero p).symm)
end
/-- what must hold of the lists -/
def okQ (p q m : Nat) (M : List Int) : Bool := (phL p (q / p) == (p : Int) :: padd (pscale p M) (List.replicate m 0 ++ [1])) && ((ppow [1, 1] q == 1 :: padd (pscale p ((ppow [1, 1] q).tail.dropLast.map fun c => c / p)) (List.replicate (q - 1) 0 ++ [1])) && (decide (0 < q) && decide (p * (q / p) = q)))
theorem lemZ {n p q m : Nat} {M : List Int} (hp : ∀ a b : Int, (p : Int) ∣ a * b → (p : Int) ∣ a ∨ (p : Int) ∣ b) (hp2 : 2 ≤ p) (h1 : 1 ≤ n) (h4 : n ≤ 4) (ok : okQ p q m M = true) (hm : n ≤ m) {r b : Nat → Int} (hr : Rec n r b) (hb : ∀ k, b (k + q) = b k) : ∀ k, b (k + q / p) = b k := by
  unfold okQ at ok
  simp only [Bool.and_eq_true, beq_iff_eq, decide_eq_true_eq] at ok
  obtain ⟨o1, o2, o3, o4⟩ := ok
  have hp0 : (p : Int) ≠ 0 := by omega
  -- D^q is divided
  have dq : ∀ x : Nat → Int, (∀ k, x (k + q) = x k) → ∀ k, (p : Int) ∣ Dn q x k := fun x hx k => by
    have e := app_shift (m := q) (b := x) (k := k)
    rw [o2, app_cons, app_padd, app_pscale, app_top, hx k] at e
    obtain ⟨q', rfl⟩ : ∃ q', q = q' + 1 := ⟨q - 1, by omega⟩
    rw [show q' + 1 - 1 = q' by omega] at e
    show (p : Int) ∣ Dn q' (Dl x) k
    refine ⟨-(app ((ppow [1, 1] (q' + 1)).tail.dropLast.map fun c => c / p) (Dl x) k), ?_⟩
    rw [Int.mul_neg]; omega
  have step : ∀ x, Cl n r q (phL p (q / p)) x → ∃ w, Cl n r q (phL p (q / p)) w ∧ ∀ k, x k = Dl w k := fun x hx => by
    have hn := nilp hp h1 h4 hx.rc (dq x hx.pe) n (Nat.le_refl n)
    have hz : Cl n r q (phL p (q / p)) fun k => (Dn n x k) / p := by
      refine Cl.div hp0 ?_
      have e : (fun k => (p : Int) * (Dn n x k / p)) = Dn n x := by funext k; exact Int.mul_ediv_cancel' (hn k)
      rw [e]; exact hx.dn n
    refine ⟨fun k => (-1) * (app M x k + Dn (m - n) (fun k => Dn n x k / p) k), ((hx.app_ M).add (hz.dn (m - n))).scale (-1), fun k => ?_⟩
    have e := hx.kl k
    rw [o1, app_cons, app_padd, app_pscale, app_top] at e
    have e2 : Dn m (Dl x) k = (p : Int) * Dl (Dn (m - n) fun k => Dn n x k / p) k := by
      have f1 : Dn m (Dl x) = Dn (m + 1) x := rfl
      have f2 : Dn (m + 1) x = Dn (m - n + 1) (Dn n x) := by rw [← Dn_add (b := x), show n + (m - n + 1) = m + 1 by omega]
      have f3 : Dn n x = fun k => (p : Int) * (Dn n x k / p) := by funext k; exact (Int.mul_ediv_cancel' (hn k)).symm
      have f4 : ∀ (c : Nat) (u : Nat → Int), Dn c (fun k => (p : Int) * u k) = fun k => (p : Int) * Dn c u k := by
        intro c
        induction c with
        | zero => intro u; rfl
        | succ c ih => intro u; show Dn c (Dl _) = _; rw [Dl_scale, ih]; rfl
      have f5 : ∀ (c : Nat) (u : Nat → Int), Dn (c + 1) u = Dl (Dn c u) := by
        intro c
        induction c with
        | zero => intro u; rfl
        | succ c ih => intro u; show Dn (c + 1) (Dl u) = Dl (Dn c (Dl u)); rw [ih]
      have g : Dn (m - n + 1) (Dn n x) = Dn (m - n + 1) fun k => (p : Int) * (Dn n x k / p) := congrArg _ f3
      rw [f1, f2, g, f4, f5]
    rw [e2, ← app_Dl] at e
    have e3 : (p : Int) * (x k + (Dl (app M x) k + Dl (Dn (m - n) fun k => Dn n x k / p) k)) = (p : Int) * 0 := by
      rw [Int.mul_add, Int.mul_add]; omega
    have e4 := Int.eq_of_mul_eq_mul_left hp0 e3
    rw [Dl_scale, Dl_add]
    show x k = -1 * (Dl (app M x) k + Dl (Dn (m - n) fun k => Dn n x k / p) k)
    omega
  have many : ∀ c x, Cl n r q (phL p (q / p)) x → ∃ w, Cl n r q (phL p (q / p)) w ∧ x = Dn c w := by
    intro c
    induction c with
    | zero => intro x hx; exact ⟨x, hx, rfl⟩
    | succ c ih =>
      intro x hx
      obtain ⟨w, hw, e⟩ := ih x hx
      obtain ⟨w2, hw2, e2⟩ := step w hw
      have : w = Dl w2 := funext e2
      exact ⟨w2, hw2, by rw [e, this]; rfl⟩
  have div1 : ∀ x, Cl n r q (phL p (q / p)) x → ∀ k, (p : Int) ∣ x k := fun x hx k => by
    obtain ⟨w, hw, rfl⟩ := many n x hx
    exact nilp hp h1 h4 hw.rc (dq w hw.pe) n (Nat.le_refl n) k
  have divs : ∀ c x, Cl n r q (phL p (q / p)) x → ∀ k, (p : Int) ^ c ∣ x k := by
    intro c
    induction c with
    | zero => intro x hx k; exact ⟨x k, by simp⟩
    | succ c ih =>
      intro x hx k
      have hd := div1 x hx
      have hz : Cl n r q (phL p (q / p)) fun k => x k / p := by
        refine Cl.div hp0 ?_
        have e : (fun k => (p : Int) * (x k / p)) = x := by funext k; exact Int.mul_ediv_cancel' (hd k)
        rw [e]; exact hx
      obtain ⟨y, hy⟩ := ih _ hz k
      refine ⟨y, ?_⟩
      rw [Int.pow_succ, Int.mul_comm ((p : Int) ^ c), Int.mul_assoc, ← hy]
      exact (Int.mul_ediv_cancel' (hd k)).symm
  obtain ⟨s, hs⟩ : ∃ s, s = q / p := ⟨_, rfl⟩
  have hx : Cl n r q (phL p (q / p)) fun k => b (k + s) + (-1) * b k := by
    have r1 : Rec n r fun k => b (k + s) := fun k => by
      show b (k + n + s) = _
      rw [show k + n + s = k + s + n by omega, hr (k + s)]
      exact Sm_congr fun j _ => by rw [show k + s + j = k + j + s by omega]
    refine ⟨r1.add (hr.scale (-1)), fun k => ?_, fun k => ?_⟩
    · show b (k + q + s) + -1 * b (k + q) = b (k + s) + -1 * b k
      rw [show k + q + s = k + s + q by omega, hb, hb]
    · rw [app_phL, ← hs]
      have tel : ∀ c : Nat, (Sm c fun j => b (k + j * s + s) + -1 * b (k + j * s)) = b (k + c * s) - b k := by
        intro c
        induction c with
        | zero => simp [Sm]
        | succ c ih =>
          rw [Sm, ih, show k + (c + 1) * s = k + c * s + s by rw [Nat.succ_mul]; omega]; omega
      rw [tel p, hs, o4, hb]; omega
  intro k
  have h0 : b (k + s) + (-1) * b k = 0 := by
    obtain ⟨v, hv⟩ : ∃ v, v = b (k + s) + (-1) * b k := ⟨_, rfl⟩
    obtain ⟨y, hy⟩ := divs v.natAbs _ hx k
    have hy : b (k + s) + (-1) * b k = (p : Int) ^ v.natAbs * y := hy
    rw [← hv] at hy ⊢
    by_cases h : y = 0
    · rw [hy, h]; simp
    · have e1 : v.natAbs = ((p : Int) ^ v.natAbs).natAbs * y.natAbs := by
        conv => lhs; rw [hy]
        rw [Int.natAbs_mul]
      have e2 : ((p : Int) ^ v.natAbs).natAbs = p ^ v.natAbs := by rw [Int.natAbs_pow]; rfl
      have e3 : 2 ^ v.natAbs ≤ p ^ v.natAbs := Nat.pow_le_pow_left hp2 _
      have e4 : v.natAbs < 2 ^ v.natAbs := Nat.lt_two_pow_self
      have e5 : p ^ v.natAbs * 1 ≤ p ^ v.natAbs * y.natAbs := Nat.mul_le_mul_left _ (by omega)
      rw [e2] at e1
      omega
  rw [← hs]
  omega
end Px

/-! Px58: the prime powers up to 125. -/
namespace Px
def qs : List (Nat × Nat) := [(2, 4), (2, 8), (2, 16), (2, 32), (2, 64), (3, 3), (3, 9), (3, 27), (3, 81), (5, 5), (5, 25), (5, 125), (7, 7), (7, 49), (11, 11), (11, 121), (13, 13), (17, 17), (19, 19), (23, 23), (29, 29), (31, 31), (37, 37), (41, 41), (43, 43), (47, 47), (53, 53), (59, 59), (61, 61), (67, 67), (71, 71), (73, 73), (79, 79), (83, 83), (89, 89), (97, 97), (101, 101), (103, 103), (107, 107), (109, 109), (113, 113)]
def okM (p q : Nat) : List Int := (phL p (q / p)).tail.dropLast.map fun c => c / p
theorem qs_ok : (qs.all fun z => okQ z.1 z.2 (z.2 - z.2 / z.1 - 1) (okM z.1 z.2)) = true := by decide +kernel
end Px

/-! Px59: periods of the powers of a small matrix on a vector. -/
namespace Px
def prmB (p : Nat) : Bool := decide (0 < p) && (List.range p).all fun x => (List.range p).all fun y => x * y % p != 0 || (x == 0 || y == 0)
theorem prmB_ok {p : Nat} (h : prmB p = true) (a b : Int) (hd : (p : Int) ∣ a * b) : (p : Int) ∣ a ∨ (p : Int) ∣ b := by
  unfold prmB at h
  simp only [Bool.and_eq_true, decide_eq_true_eq, List.all_eq_true, List.mem_range, Bool.or_eq_true, bne_iff_ne, beq_iff_eq, ne_eq] at h
  obtain ⟨h0, h1⟩ := h
  have hp : (0 : Int) < p := by omega
  obtain ⟨x, hx⟩ := Int.eq_ofNat_of_zero_le (Int.emod_nonneg a (show (p : Int) ≠ 0 by omega))
  obtain ⟨y, hy⟩ := Int.eq_ofNat_of_zero_le (Int.emod_nonneg b (show (p : Int) ≠ 0 by omega))
  have lx := Int.emod_lt_of_pos a hp
  have ly := Int.emod_lt_of_pos b hp
  have e : (a * b) % p = 0 := Int.emod_eq_zero_of_dvd hd
  rw [Int.mul_emod, hx, hy] at e
  have e2 : x * y % p = 0 := by exact_mod_cast e
  rcases h1 x (by omega) y (by omega) with h2 | h2 | h2
  · exact absurd e2 h2
  · exact .inl (Int.dvd_of_emod_eq_zero (by rw [hx, h2]; rfl))
  · exact .inr (Int.dvd_of_emod_eq_zero (by rw [hy, h2]; rfl))
theorem qs_pr : (qs.all fun z => prmB z.1 && decide (2 ≤ z.1)) = true := by decide +kernel
theorem apT_congr {n : Nat} {A : Tn} {x y : Nat → Int} (h : ∀ i, i < n → x i = y i) : apT n A x = apT n A y := by
  funext i
  exact Sm_congr fun j hj => by rw [h j hj]
theorem itA_mul {n : Nat} {A : Tn} {x : Nat → Int} : ∀ (e : Nat) {i : Nat}, i < n → itA n A x e i = apT n (powT n A e) x i
  | 0, i, hi => by
    show x i = Sm n fun j => oneT i j * x j
    have e : (fun j => oneT i j * x j) = fun j => if j = i then x j else 0 := by
      funext j
      unfold oneT
      by_cases h : i = j
      · subst h; simp
      · simp [h, Ne.symm h]
    rw [e]; exact (Sm_one (f := x) hi).symm
  | e + 1, i, hi => by
    show Sm n (fun j => A i j * itA n A x e j) = Sm n fun j => (Sm n fun k => A i k * powT n A e k j) * x j
    have e1 : (Sm n fun j => A i j * itA n A x e j) = Sm n fun j => A i j * Sm n fun k => powT n A e j k * x k := Sm_congr fun j hj => by rw [itA_mul e hj]; rfl
    have e2 : (fun j => A i j * Sm n fun k => powT n A e j k * x k) = fun j => Sm n fun k => A i j * powT n A e j k * x k := by
      funext j; rw [← Sm_mulL]; exact congrArg _ (funext fun k => (Int.mul_assoc _ _ _).symm)
    have e3 : (fun j => (Sm n fun k => A i k * powT n A e k j) * x j) = fun j => Sm n fun k => A i k * powT n A e k j * x j := by
      funext j; rw [← Sm_mulR]
    rw [e1, e2, e3, Sm_swap]
theorem itA_pow {n : Nat} {A : Tn} {x : Nat → Int} {e : Nat} : ∀ (k : Nat) {i : Nat}, i < n → itA n (powT n A e) x k i = itA n A x (e * k) i
  | 0, i, hi => rfl
  | k + 1, i, hi => by
    show apT n (powT n A e) (itA n (powT n A e) x k) i = _
    rw [apT_congr (fun j hj => itA_pow k hj), ← itA_mul e hi, ← itA_add, Nat.mul_succ]
/-- one step: a prime of the period left out -/
theorem per_step {n : Nat} (h1 : 1 ≤ n) (h4 : n ≤ 4) {A : Tn} {x : Nat → Int} {e p q : Nat} (hq : (p, q) ∈ qs) (hn : n ≤ q - q / p - 1) (hd : ∀ i, i < n → itA n A x (e * q) i = x i) : ∀ i, i < n → itA n A x (e * (q / p)) i = x i := fun i hi => by
  have o1 := List.all_eq_true.mp qs_ok (p, q) hq
  have o2 := List.all_eq_true.mp qs_pr (p, q) hq
  simp only [Bool.and_eq_true, decide_eq_true_eq] at o2
  obtain ⟨r, hr⟩ := cayley h1 h4 (powT n A e)
  have hb : ∀ k, itA n (powT n A e) x (k + q) i = itA n (powT n A e) x k i := fun k => by
    rw [itA_pow _ hi, itA_pow _ hi, Nat.mul_add, Nat.add_comm, itA_add]
    have : ∀ (k : Nat) (y z : Nat → Int), (∀ i, i < n → y i = z i) → ∀ i, i < n → itA n A y k i = itA n A z k i := by
      intro k
      induction k with
      | zero => intro y z h i hi; exact h i hi
      | succ k ih => intro y z h i hi; show apT n A _ i = apT n A _ i; rw [apT_congr (ih y z h)]
    exact this _ _ _ hd i hi
  have := lemZ (prmB_ok o2.1) o2.2 h1 h4 o1 hn (hr x i hi) hb 0
  rw [Nat.zero_add] at this
  rw [← itA_pow _ hi, this]; rfl
end Px

/-! Px60: every period divides the turn. -/
namespace Px
def redN (n : Nat) : Nat → Nat → Nat
  | 0, d => d
  | f + 1, d => match qs.find? (fun z => d % z.2 == 0 && decide (n ≤ z.2 - z.2 / z.1 - 1)) with
    | some z => redN n f (d / z.1)
    | none => d
def turnN (n : Nat) : Nat := match n with
  | 1 => 2
  | 2 => 12
  | 3 => 12
  | _ => 120
theorem red_turn : ([1, 2, 3, 4].all fun n => (List.range 126).all fun d => d == 0 || turnN n % redN n 20 d == 0) = true := by decide +kernel
theorem qs_mul : (qs.all fun z => decide (z.1 * (z.2 / z.1) = z.2) && decide (0 < z.1)) = true := by decide +kernel
theorem per_red {n : Nat} (h1 : 1 ≤ n) (h4 : n ≤ 4) {A : Tn} {x : Nat → Int} : ∀ (f d : Nat), (∀ i, i < n → itA n A x d i = x i) → ∀ i, i < n → itA n A x (redN n f d) i = x i
  | 0, d, h => h
  | f + 1, d, h => by
    unfold redN
    cases e : qs.find? (fun z => d % z.2 == 0 && decide (n ≤ z.2 - z.2 / z.1 - 1)) with
    | none => exact h
    | some z =>
      obtain ⟨p, q⟩ := z
      have hz : (p, q) ∈ qs := List.mem_of_find?_eq_some e
      have hc := List.find?_some e
      simp only [Bool.and_eq_true, beq_iff_eq, decide_eq_true_eq] at hc
      have hm := List.all_eq_true.mp qs_mul (p, q) hz
      simp only [Bool.and_eq_true, decide_eq_true_eq] at hm
      obtain ⟨c, hcd⟩ := Nat.dvd_of_mod_eq_zero hc.1
      have hd : d = c * q := by rw [hcd, Nat.mul_comm]
      have hs : d / p = c * (q / p) := by
        have e1 : d = p * (c * (q / p)) := by rw [hd, Nat.mul_left_comm, hm.1]
        conv => lhs; rw [e1]
        exact Nat.mul_div_cancel_left _ hm.2
      show ∀ i, i < n → itA n A x (redN n f (d / p)) i = x i
      refine per_red h1 h4 f (d / p) ?_
      rw [hs]
      exact per_step h1 h4 hz hc.2 (by rw [← hd]; exact h)
theorem itA_fix {n : Nat} {A : Tn} : ∀ (k : Nat) {y z : Nat → Int}, (∀ i, i < n → y i = z i) → ∀ i, i < n → itA n A y k i = itA n A z k i
  | 0, y, z, h, i, hi => h i hi
  | k + 1, y, z, h, i, hi => by
    show apT n A _ i = apT n A _ i
    rw [apT_congr (itA_fix k h)]
theorem per_mul {n m : Nat} {A : Tn} {x : Nat → Int} (h : ∀ i, i < n → itA n A x m i = x i) : ∀ (c : Nat) (i : Nat), i < n → itA n A x (m * c) i = x i
  | 0, i, _ => rfl
  | c + 1, i, hi => by
    rw [Nat.mul_succ, itA_add, itA_fix m (per_mul h c) i hi]
    exact h i hi
/-- what comes round within 125 comes round with the turn -/
theorem per_turn {n d : Nat} (h1 : 1 ≤ n) (h4 : n ≤ 4) {A : Tn} {x : Nat → Int} (hd0 : 1 ≤ d) (hd : d ≤ 125) (h : ∀ i, i < n → itA n A x d i = x i) : ∀ i, i < n → itA n A x (turnN n) i = x i := by
  have hr := per_red h1 h4 20 d h
  have ht := List.all_eq_true.mp red_turn n (by simp; omega)
  have ht2 := List.all_eq_true.mp ht d (by simp; omega)
  simp only [Bool.or_eq_true, beq_iff_eq] at ht2
  rcases ht2 with e | e
  · omega
  · obtain ⟨c, hc⟩ := Nat.dvd_of_mod_eq_zero e
    rw [hc]
    exact per_mul hr c
end Px

/-! Px61: powers of an affine table that come round. -/
namespace Px
/-- the step from one power to the next -/
theorem dif_it {n : Nat} {F : Tn} (hF : ∀ j, F 0 j = oneT 0 j) {j : Nat} : ∀ (k : Nat) {i : Nat}, i < n → powT (n + 1) F (k + 1) (i + 1) j - powT (n + 1) F k (i + 1) j = itA n (dnT2 F) (fun i => powT (n + 1) F 1 (i + 1) j - oneT (i + 1) j) k i
  | 0, i, hi => rfl
  | k + 1, i, hi => by
    have p0 : ∀ m, powT (n + 1) F m 0 j = oneT 0 j := by
      intro m
      induction m with
      | zero => rfl
      | succ m ih =>
        show Sm (n + 1) (fun l => F 0 l * powT (n + 1) F m l j) = _
        have e : (fun l => F 0 l * powT (n + 1) F m l j) = fun l => oneT 0 l * powT (n + 1) F m l j := by funext l; rw [hF]
        rw [e, ← ih]
        exact mulT_oneL (A := powT (n + 1) F m) (i := 0) (j := j) (by omega)
    show (Sm (n + 1) fun l => F (i + 1) l * powT (n + 1) F (k + 1) l j) - (Sm (n + 1) fun l => F (i + 1) l * powT (n + 1) F k l j) = apT n (dnT2 F) _ i
    rw [Sm_front, Sm_front, p0, p0]
    have e : (Sm n fun l => F (i + 1) (l + 1) * powT (n + 1) F (k + 1) (l + 1) j) - (Sm n fun l => F (i + 1) (l + 1) * powT (n + 1) F k (l + 1) j) = Sm n fun l => F (i + 1) (l + 1) * (powT (n + 1) F (k + 1) (l + 1) j - powT (n + 1) F k (l + 1) j) := by
      have e1 : (fun l => F (i + 1) (l + 1) * powT (n + 1) F (k + 1) (l + 1) j) = fun l => F (i + 1) (l + 1) * (powT (n + 1) F (k + 1) (l + 1) j - powT (n + 1) F k (l + 1) j) + F (i + 1) (l + 1) * powT (n + 1) F k (l + 1) j := by
        funext l; rw [Int.mul_sub]; omega
      rw [e1, Sm_add]; omega
    have e2 : apT n (dnT2 F) (itA n (dnT2 F) (fun i => powT (n + 1) F 1 (i + 1) j - oneT (i + 1) j) k) i = Sm n fun l => F (i + 1) (l + 1) * (powT (n + 1) F (k + 1) (l + 1) j - powT (n + 1) F k (l + 1) j) := Sm_congr fun l hl => by rw [dif_it hF k hl]; rfl
    rw [e2, ← e]; omega
/-- powers that come round do so with the turn, from the n-th on -/
theorem come_round {n i0 d : Nat} (h1 : 1 ≤ n) (h4 : n ≤ 4) {F : Tn} (hF : ∀ j, F 0 j = oneT 0 j) (hd0 : 1 ≤ d) (hd : d ≤ 125) (h : EqT (n + 1) (n + 1) (powT (n + 1) F i0) (powT (n + 1) F (i0 + d))) : ∀ k, n ≤ k → EqT (n + 1) (n + 1) (powT (n + 1) F (k + turnN n)) (powT (n + 1) F k) := by
  have hk : ∀ c, EqT (n + 1) (n + 1) (powT (n + 1) F (i0 + c)) (powT (n + 1) F (i0 + d + c)) := by
    intro c
    induction c with
    | zero => exact h
    | succ c ih => exact EqT.mul .rfl ih
  intro k hnk i hi j hj
  have p0 : ∀ m, powT (n + 1) F m 0 j = oneT 0 j := by
    intro m
    induction m with
    | zero => rfl
    | succ m ih =>
      show Sm (n + 1) (fun l => F 0 l * powT (n + 1) F m l j) = _
      have e : (fun l => F 0 l * powT (n + 1) F m l j) = fun l => oneT 0 l * powT (n + 1) F m l j := by funext l; rw [hF]
      rw [e, ← ih]
      exact mulT_oneL (A := powT (n + 1) F m) (i := 0) (j := j) (by omega)
  cases i with
  | zero => rw [p0, p0]
  | succ i =>
    have hin : i < n := by omega
    obtain ⟨y, hy⟩ : ∃ y : Nat → Int, y = fun i => powT (n + 1) F 1 (i + 1) j - oneT (i + 1) j := ⟨_, rfl⟩
    have df : ∀ m i, i < n → powT (n + 1) F (m + 1) (i + 1) j - powT (n + 1) F m (i + 1) j = itA n (dnT2 F) y m i := fun m i hi => by rw [hy]; exact dif_it hF m hi
    -- the differences come round from n on
    have per : ∀ i, i < n → itA n (dnT2 F) (itA n (dnT2 F) y n) d i = itA n (dnT2 F) y n i := fun i hi => by
      obtain ⟨r, hr⟩ := cayley h1 h4 (dnT2 F)
      have R := hr y i hi
      have z := back (p := 0) (fun a b hab => by
        have := Int.zero_dvd.mp hab
        rcases Int.mul_eq_zero.mp this with q | q
        · exact .inl (Int.zero_dvd.mpr q)
        · exact .inr (Int.zero_dvd.mpr q)) (n := n) (i0 := i0) (r := r) (t := fun m => itA n (dnT2 F) y (m + d) i - itA n (dnT2 F) y m i) (fun m => by
          have e1 := R (m + d)
          have e2 := R m
          have e3 : (Sm n fun l => r l * (itA n (dnT2 F) y (m + l + d) i - itA n (dnT2 F) y (m + l) i)) = (Sm n fun l => r l * itA n (dnT2 F) y (m + d + l) i) - Sm n fun l => r l * itA n (dnT2 F) y (m + l) i := by
            have e4 : (fun l => r l * itA n (dnT2 F) y (m + d + l) i) = fun l => r l * (itA n (dnT2 F) y (m + l + d) i - itA n (dnT2 F) y (m + l) i) + r l * itA n (dnT2 F) y (m + l) i := by
              funext l; rw [show m + d + l = m + l + d by omega, Int.mul_sub]; omega
            rw [e4, Sm_add]; omega
          show 0 ∣ (itA n (dnT2 F) y (m + n + d) i - itA n (dnT2 F) y (m + n) i) - Sm n fun l => r l * (itA n (dnT2 F) y (m + l + d) i - itA n (dnT2 F) y (m + l) i)
          rw [e3, show m + n + d = m + d + n by omega]
          have e1' : itA n (dnT2 F) y (m + d + n) i = Sm n fun l => r l * itA n (dnT2 F) y (m + d + l) i := e1
          have e2' : itA n (dnT2 F) y (m + n) i = Sm n fun l => r l * itA n (dnT2 F) y (m + l) i := e2
          exact Int.zero_dvd.mpr (by omega)) (fun m hm => by
          refine Int.zero_dvd.mpr ?_
          show itA n (dnT2 F) y (m + d) i - itA n (dnT2 F) y m i = 0
          rw [← df _ i hi, ← df _ i hi]
          obtain ⟨c, rfl⟩ : ∃ c, m = i0 + c := ⟨m - i0, by omega⟩
          have q1 := hk c (i + 1) (by omega) j hj
          have q2 := hk (c + 1) (i + 1) (by omega) j hj
          rw [show i0 + c + d = i0 + d + c by omega, show i0 + d + c + 1 = i0 + d + (c + 1) by omega, show i0 + c + 1 = i0 + (c + 1) by omega]
          omega) n (Nat.le_refl n)
      have z2 : itA n (dnT2 F) y (n + d) i - itA n (dnT2 F) y n i = 0 := Int.zero_dvd.mp z
      rw [← itA_add]; omega
    have pt := per_turn h1 h4 hd0 hd per
    have dT : ∀ m, itA n (dnT2 F) y (n + m + turnN n) i = itA n (dnT2 F) y (n + m) i := fun m => by
      rw [show n + m + turnN n = n + turnN n + m by omega, itA_add, itA_add m]
      refine itA_fix m (fun i hi => ?_) i hin
      rw [itA_add]; exact pt i hi
    -- so the powers differ by a constant
    obtain ⟨g, hg⟩ : ∃ g : Nat → Int, g = fun m => powT (n + 1) F m (i + 1) j := ⟨_, rfl⟩
    have cst : ∀ m, g (n + m + turnN n) - g (n + m) = g (n + turnN n) - g n := by
      intro m
      induction m with
      | zero => rfl
      | succ m ih =>
        have e1 := df (n + m + turnN n) i hin
        have e2 := df (n + m) i hin
        rw [dT m, ← e2] at e1
        rw [← ih, hg]
        show powT (n + 1) F (n + (m + 1) + turnN n) (i + 1) j - powT (n + 1) F (n + (m + 1)) (i + 1) j = powT (n + 1) F (n + m + turnN n) (i + 1) j - powT (n + 1) F (n + m) (i + 1) j
        rw [show n + (m + 1) + turnN n = n + m + turnN n + 1 by omega, show n + (m + 1) = n + m + 1 by omega]
        omega
    have many : ∀ c m, g (n + m + c * turnN n) = g (n + m) + c * (g (n + turnN n) - g n) := by
      intro c
      induction c with
      | zero => intro m; simp
      | succ c ih =>
        intro m
        have e1 := cst (m + c * turnN n)
        have e2 := ih m
        rw [show n + m + (c + 1) * turnN n = n + (m + c * turnN n) + turnN n by rw [Nat.succ_mul]; omega]
        rw [show n + (m + c * turnN n) = n + m + c * turnN n by omega] at e1
        rw [show n + (m + c * turnN n) = n + m + c * turnN n by omega]
        have e3 : ((c + 1 : Nat) : Int) * (g (n + turnN n) - g n) = c * (g (n + turnN n) - g n) + (g (n + turnN n) - g n) := by
          rw [Int.natCast_add, Int.add_mul]; omega
        rw [e3]; omega
    have gp : ∀ c m, i0 ≤ m → g (m + c * d) = g m := by
      intro c
      induction c with
      | zero => intro m _; simp
      | succ c ih =>
        intro m hm
        rw [show m + (c + 1) * d = m + d + c * d by rw [Nat.succ_mul]; omega, ih (m + d) (by omega), hg]
        obtain ⟨e, rfl⟩ : ∃ e, m = i0 + e := ⟨m - i0, by omega⟩
        have q := hk e (i + 1) (by omega) j hj
        show powT (n + 1) F (i0 + e + d) (i + 1) j = powT (n + 1) F (i0 + e) (i + 1) j
        rw [show i0 + e + d = i0 + d + e by omega]; exact q.symm
    have zero : g (n + turnN n) - g n = 0 := by
      have e1 := many d i0
      have e2 := gp (turnN n) (n + i0) (by omega)
      rw [Nat.mul_comm] at e2
      rw [e2] at e1
      have e3 : (d : Int) * (g (n + turnN n) - g n) = 0 := by omega
      rcases Int.mul_eq_zero.mp e3 with q | q
      · omega
      · exact q
    obtain ⟨m, rfl⟩ : ∃ m, k = n + m := ⟨k - n, by omega⟩
    have e := cst m
    rw [hg] at e zero
    have e' : powT (n + 1) F (n + m + turnN n) (i + 1) j - powT (n + 1) F (n + m) (i + 1) j = _ := e
    have z' : powT (n + 1) F (n + turnN n) (i + 1) j - powT (n + 1) F n (i + 1) j = 0 := zero
    have e'' : powT (n + 1) F (n + m + turnN n) (i + 1) j - powT (n + 1) F (n + m) (i + 1) j = 0 := e'.trans z'
    omega
end Px

/-! Px62: dicts whose keys are tuples of numbers and of such tuples; max of a list of numbers. -/
namespace Px
open PySem PySem.Spec PyProof.Rows L2

theorem ext_at {P : Program} {w : World} {H : Hp} {h : Heap} {b a : Addr} {es : List (NestedKey × Addr × V)} (x : ObjOk P w H h b (.ext (DNx a es))) : a = b := by
  obtain ⟨p, _, st⟩ := x
  refine Classical.byContradiction fun ne => ?_
  have q := st h (PySem.W.hideAll h [a]) p fun o e => PySem.W.hideAll_get _ e (by simp; exact fun e => ne e.symm)
  obtain ⟨_, _, w', xs, o, en, ep, _, e, _⟩ := q
  rw [PySem.W.hideAll_none [a] (by simp)] at e
  cases e
mutual
theorem nk_hash (w w' : World) : ∀ {d : D} {k : NestedKey}, nkD d = some k → k.hash w = k.hash w'
  | .int i, k, h => by rw [nkD] at h; cases h; rw [NestedKey.hash, NestedKey.hash]
  | .tup xs, k, h => by
    rw [nkD] at h
    cases z : nkDs xs with
    | none => rw [z] at h; cases h
    | some ks =>
      rw [z] at h; cases h
      rw [NestedKey.hash, NestedKey.hash, nks_hash w w' z]
  | .non, k, h => by rw [nkD] at h; cases h
  | .bl _, k, h => by rw [nkD] at h; cases h
  | .str _, k, h => by rw [nkD] at h; cases h
  | .lst _, k, h => by rw [nkD] at h; cases h
  | .dct _ _, k, h => by rw [nkD] at h; cases h
  | .obj _ _ _, k, h => by rw [nkD] at h; cases h
  | .cell _, k, h => by rw [nkD] at h; cases h
  | .ty _, k, h => by rw [nkD] at h; cases h
  | .lck _, k, h => by rw [nkD] at h; cases h
theorem nks_hash (w w' : World) : ∀ {ds : List D} {ks : List NestedKey}, nkDs ds = some ks → NestedKey.hashes w ks = NestedKey.hashes w' ks
  | [], ks, h => by rw [nkDs] at h; cases h; rw [NestedKey.hashes, NestedKey.hashes]
  | d :: ds, ks, h => by
    rw [nkDs] at h
    cases z1 : nkD d with
    | none => rw [z1] at h; cases h
    | some k =>
      cases z2 : nkDs ds with
      | none => rw [z1, z2] at h; cases h
      | some l =>
        rw [z1, z2] at h; cases h
        rw [NestedKey.hashes, NestedKey.hashes, nk_hash w w' z1, nks_hash w w' z2]
end
mutual
theorem nk_py : ∀ {d : D} {k : NestedKey}, nkD d = some k → ∃ p, d.py = some p
  | .int i, k, h => ⟨_, by rw [D.py]⟩
  | .tup xs, k, h => by
    rw [nkD] at h
    cases z : nkDs xs with
    | none => rw [z] at h; cases h
    | some ks =>
      obtain ⟨ps, e⟩ := nks_py z
      exact ⟨.tuple ps, by rw [D.py, e]; rfl⟩
  | .non, k, h => by rw [nkD] at h; cases h
  | .bl _, k, h => by rw [nkD] at h; cases h
  | .str _, k, h => by rw [nkD] at h; cases h
  | .lst _, k, h => by rw [nkD] at h; cases h
  | .dct _ _, k, h => by rw [nkD] at h; cases h
  | .obj _ _ _, k, h => by rw [nkD] at h; cases h
  | .cell _, k, h => by rw [nkD] at h; cases h
  | .ty _, k, h => by rw [nkD] at h; cases h
  | .lck _, k, h => by rw [nkD] at h; cases h
theorem nks_py : ∀ {ds : List D} {ks : List NestedKey}, nkDs ds = some ks → ∃ ps, pys ds = some ps
  | [], ks, h => ⟨[], by rw [pys]⟩
  | d :: ds, ks, h => by
    rw [nkDs] at h
    cases z1 : nkD d with
    | none => rw [z1] at h; cases h
    | some k =>
      cases z2 : nkDs ds with
      | none => rw [z1, z2] at h; cases h
      | some l =>
        obtain ⟨p, e1⟩ := nk_py z1
        obtain ⟨ps, e2⟩ := nks_py z2
        exact ⟨p :: ps, by rw [pys, e1, e2]⟩
end
mutual
theorem nk_is {h : Heap} : ∀ {d : D} {k : NestedKey} {p : PyData} {u : Value} {as : List Addr}, nkD d = some k → d.py = some p → Reads h u p as → NestedIs h k u
  | .int i, k, p, u, as, e, q, r => by
    rw [nkD] at e; cases e
    rw [D.py] at q; cases q
    cases r
    exact .int _ _
  | .tup xs, k, p, u, as, e, q, r => by
    rw [nkD] at e
    rw [D.py] at q
    cases z : nkDs xs with
    | none => rw [z] at e; cases e
    | some ks =>
      rw [z] at e; cases e
      cases z2 : pys xs with
      | none => rw [z2] at q; cases q
      | some ps =>
        rw [z2] at q; cases q
        cases r with
        | tuple ho hc hd hr => exact .tup ho hc hd (nks_is z z2 hr)
  | .non, _, _, _, _, h, _, _ => by rw [nkD] at h; cases h
  | .bl _, _, _, _, _, h, _, _ => by rw [nkD] at h; cases h
  | .str _, _, _, _, _, h, _, _ => by rw [nkD] at h; cases h
  | .lst _, _, _, _, _, h, _, _ => by rw [nkD] at h; cases h
  | .dct _ _, _, _, _, _, h, _, _ => by rw [nkD] at h; cases h
  | .obj _ _ _, _, _, _, _, h, _, _ => by rw [nkD] at h; cases h
  | .cell _, _, _, _, _, h, _, _ => by rw [nkD] at h; cases h
  | .ty _, _, _, _, _, h, _, _ => by rw [nkD] at h; cases h
  | .lck _, _, _, _, _, h, _, _ => by rw [nkD] at h; cases h
theorem nks_is {h : Heap} : ∀ {ds : List D} {ks : List NestedKey} {ps : List PyData} {us : List Value} {as : List Addr}, nkDs ds = some ks → pys ds = some ps → ReadsAll h us ps as → NestedAll h ks us
  | [], ks, ps, us, as, e, q, r => by
    rw [nkDs] at e; cases e
    rw [pys] at q; cases q
    cases r
    exact .nil
  | d :: ds, ks, ps, us, as, e, q, r => by
    rw [nkDs] at e
    rw [pys] at q
    cases z1 : nkD d with
    | none => rw [z1] at e; cases e
    | some k =>
      cases z2 : nkDs ds with
      | none => rw [z1, z2] at e; cases e
      | some l =>
        rw [z1, z2] at e; cases e
        cases y1 : d.py with
        | none => rw [y1] at q; cases q
        | some p =>
          cases y2 : pys ds with
          | none => rw [y1, y2] at q; cases q
          | some pl =>
            rw [y1, y2] at q; cases q
            cases r with
            | cons r1 r2 => exact .cons (nk_is z1 y1 r1) (nks_is z2 y2 r2)
end
theorem nkDs_cons {d : D} {ds : List D} {k : NestedKey} {l : List NestedKey} (h : nkDs (d :: ds) = some (k :: l)) : nkD d = some k ∧ nkDs ds = some l := by
  rw [nkDs] at h
  cases z1 : nkD d with
  | none => rw [z1] at h; cases h
  | some k' =>
    cases z2 : nkDs ds with
    | none => rw [z1, z2] at h; cases h
    | some l' => rw [z1, z2] at h; cases h; exact ⟨rfl, rfl⟩
theorem nkDs_nil {ds : List D} (h : nkDs ds = some []) : ds = [] := by
  cases ds with
  | nil => rfl
  | cons d ds =>
    rw [nkDs] at h
    cases z1 : nkD d with
    | none => rw [z1] at h; cases h
    | some k' =>
      cases z2 : nkDs ds with
      | none => rw [z1, z2] at h; cases h
      | some l' => rw [z1, z2] at h; cases h
theorem nkDs_snoc {d : D} {k : NestedKey} (h1 : nkD d = some k) : ∀ {ds : List D} {l : List NestedKey}, nkDs ds = some l → nkDs (ds ++ [d]) = some (l ++ [k])
  | [], l, h => by rw [nkDs] at h; cases h; show nkDs [d] = _; rw [nkDs, h1, nkDs]; rfl
  | x :: ds, l, h => by
    cases l with
    | nil => have := nkDs_nil h; cases this
    | cons k' l =>
      obtain ⟨e1, e2⟩ := nkDs_cons h
      show nkDs (x :: (ds ++ [d])) = _
      rw [nkDs, e1, nkDs_snoc h1 e2]; rfl
abbrev DP : List (NestedKey × Addr × V) → List (NestedKey × Addr × Value) → Prop := Paired fun p q => p.1 = q.1 ∧ p.2.1 = q.2.1 ∧ RelV p.2.2 q.2.2
theorem dp_keys : ∀ {es : List (NestedKey × Addr × V)} {xs : List (NestedKey × Addr × Value)}, DP es xs → es.map (·.1) = xs.map (·.1)
  | _, _, .nil => rfl
  | _, _, .cons h t => by rw [List.map_cons, List.map_cons, h.1, dp_keys t]
def findN (k : NestedKey) : List D → List D → Option D
  | d :: ds, u :: us => if nkD d = some k then some u else findN k ds us
  | _, _ => none
section
variable {X : Cx} {C : Kc} {E E' : L2.St → XK} {k : Nat}
theorem keys_is {pins : List (Addr × Obj)} {σ : L2.St} {H : Hp} {s : Shared} {S : Rp} (I : Inv X pins σ H s) (hK : X.K = C.K) (hsm : H sysModules = none) (g : ∀ a o, S.G a = some o → H a = some o) :
    ∀ {es : List (NestedKey × Addr × V)} {xs : List (NestedKey × Addr × Value)} {ks : List D}, DP es xs → RVs C S ks (es.map fun x => V.ref x.2.1) → nkDs ks = some (es.map (·.1)) → (∀ x ∈ es, x.1.depth ≤ 8) →
      ∀ x ∈ xs, (nestedKind X.prog X.w).is s.heap x.1 x.2.1
  | _, _, _, .nil, _, _, _, x, hx => by cases hx
  | e :: es, q :: xs, ks, .cons h t, r, nk, dp, x, hx => by
    rw [List.map_cons] at r nk
    cases ks with
    | nil => rw [nkDs] at nk; cases nk
    | cons d ks =>
      obtain ⟨n1, n2⟩ := nkDs_cons nk
      rw [RVs] at r
      obtain ⟨v, vr, e0, r1, r2⟩ := r
      injection e0 with e1 e2
      subst e1 e2
      rcases List.mem_cons.mp hx with rfl | hx
      · obtain ⟨p, hp⟩ := nk_py n1
        obtain ⟨as, ra, _⟩ := reads_of I hK hsm g r1 hp (u := .ref e.2.1) rfl
        have := nk_is n1 hp ra
        rw [h.1, h.2.1] at this
        exact ⟨this, by rw [← h.1]; exact dp e List.mem_cons_self⟩
      · exact keys_is I hK hsm g t r2 n2 (fun x hx => dp x (List.mem_cons_of_mem _ hx)) x hx
theorem dn_of {pins : List (Addr × Obj)} {σ : L2.St} {H : Hp} {s : Shared} {S : Rp} {st : Store} {a : Addr} {o : HO} {ks us : List D} (hX : XOk X C k E) (I : Inv X pins σ H s) (rp : Rep C S st H) (ha : H a = some o) (ro : RO C S (.dn ks us) o) :
    ∃ es xs, o = .ext (DNx a es) ∧ es.length ≤ sizeLine ∧ (a == sysModules) = false ∧ nkDs ks = some (es.map (·.1)) ∧ (∀ x ∈ es, x.1.depth ≤ 8) ∧ RVs C S ks (es.map fun x => V.ref x.2.1) ∧ RVs C S us (es.map (·.2.2)) ∧
      DP es xs ∧ s.heap.DictOfH (nestedKind X.prog X.w) a xs := by
  obtain ⟨a', es, rfl, r1, r2, r3, r4⟩ := ro
  have ok := I.hok a _ ha
  have e := ext_at ok
  subst e
  obtain ⟨⟨hs, hl, w', xs, ob, en, ep, pr, gg, ex, dt, et, nd⟩, _, _⟩ := ok
  refine ⟨es, xs, rfl, hl, hs, r2, r3, r1, r4, pr, ob, en, ep, gg, ex, dt, ?_, keys_is I hX.K (sm_free hX I) rp.fz pr r1 r2 r3, nd⟩
  rw [et]
  refine List.map_congr_left fun x hx => ?_
  have hk : x.1 ∈ es.map (·.1) := by rw [dp_keys pr]; exact List.mem_map_of_mem hx
  have : ∀ {ds : List D} {l : List NestedKey}, nkDs ds = some l → ∀ k ∈ l, k.hash w' = k.hash X.w := by
    intro ds
    induction ds with
    | nil => intro l h k hk; rw [nkDs] at h; cases h; cases hk
    | cons d ds ih =>
      intro l h k hk
      cases l with
      | nil => cases hk
      | cons k' l =>
        obtain ⟨e1, e2⟩ := nkDs_cons h
        rcases List.mem_cons.mp hk with rfl | hk
        · exact nk_hash _ _ e1
        · exact ih e2 k hk
  show (⟨x.1.hash w', .ref x.2.1, x.2.2⟩ : DictEntry) = ⟨x.1.hash X.w, .ref x.2.1, x.2.2⟩
  rw [this r2 _ hk]
theorem find_at {S : Rp} {kk : NestedKey} : ∀ {es : List (NestedKey × Addr × V)} {xs : List (NestedKey × Addr × Value)} {ks us : List D}, DP es xs → nkDs ks = some (es.map (·.1)) → RVs C S us (es.map (·.2.2)) →
    (∀ d, findN kk ks us = some d → ∃ p v, atKey xs kk = some p ∧ RelV v p.2 ∧ RV C S d v) ∧ (findN kk ks us = none → atKey xs kk = none)
  | _, _, ks, us, .nil, nk, r => by
    rw [List.map_nil] at nk
    have := nkDs_nil nk; subst this
    exact ⟨fun d h => by rw [findN] at h; cases h; simp, fun _ => rfl⟩
  | e :: es, q :: xs, ks, us, .cons h t, nk, r => by
    rw [List.map_cons] at r nk
    cases ks with
    | nil => rw [nkDs] at nk; cases nk
    | cons d ks =>
      obtain ⟨n1, n2⟩ := nkDs_cons nk
      cases us with
      | nil => rw [RVs] at r; cases r
      | cons u us =>
        rw [RVs] at r
        obtain ⟨v, vr, e0, r1, r2⟩ := r
        injection e0 with e1 e2
        subst e1 e2
        obtain ⟨i1, i2⟩ := find_at (kk := kk) t n2 r2
        by_cases z : q.1 = kk
        · have a1 : atKey (q :: xs) kk = some q.2 := by simp [atKey, List.find?_cons, z]
          have a2 : findN kk (d :: ks) (u :: us) = some u := by rw [findN, if_pos (by rw [n1, h.1, z])]
          rw [a1, a2]
          exact ⟨fun d' hd => by cases hd; exact ⟨q.2, _, rfl, h.2.2, r1⟩, fun hd => by cases hd⟩
        · have a1 : atKey (q :: xs) kk = atKey xs kk := by simp [atKey, List.find?_cons, z]
          have a2 : findN kk (d :: ks) (u :: us) = findN kk ks us := by rw [findN, if_neg (by rw [n1, h.1]; exact fun e => z (Option.some.inj e))]
          rw [a1, a2]
          exact ⟨i1, i2⟩

def dnOf (st : Store) (b : D) : Option (Nat × List D × List D) := match b with
  | .cell n => match st[n]? with
    | some (.dn ks us) => some (n, ks, us)
    | _ => none
  | _ => none
def kyOf (a : D) : Option NestedKey := match nkD a with
  | some k => if k.depth ≤ 8 ∧ 1 ≤ k.depth then some k else none
  | none => none
theorem ky_is {pins : List (Addr × Obj)} {σ : L2.St} {H : Hp} {s : Shared} {S : Rp} {st : Store} {d : D} {kk : NestedKey} {v : V} {u : Value} (hX : XOk X C k E) (I : Inv X pins σ H s) (rp : Rep C S st H) (h : kyOf d = some kk) (rv : RV C S d v) (ru : RelV v u) :
    nkD d = some kk ∧ kk.depth ≤ 8 ∧ ∃ b, v = .ref b ∧ u = .ref b ∧ (nestedKind X.prog X.w).is s.heap kk b := by
  unfold kyOf at h
  cases z : nkD d with
  | none => rw [z] at h; cases h
  | some k' =>
    rw [z] at h
    have h : (if k'.depth ≤ 8 ∧ 1 ≤ k'.depth then some k' else none) = some kk := h
    by_cases hd : k'.depth ≤ 8 ∧ 1 ≤ k'.depth
    · rw [if_pos hd] at h
      cases h
      refine ⟨rfl, hd.1, ?_⟩
      have hv : ∃ b, v = .ref b := by
        cases d with
        | int i => rw [nkD] at z; cases z; exact absurd hd.2 (by rw [NestedKey.depth]; omega)
        | tup xs => obtain ⟨a, vs, e, _⟩ := rv_tup.mp rv; exact ⟨a, e⟩
        | _ => rw [nkD] at z; cases z
      obtain ⟨b, rfl⟩ := hv
      obtain rfl : u = .ref b := ru
      obtain ⟨p, hp⟩ := nk_py z
      obtain ⟨as, ra, _⟩ := reads_of I hX.K (sm_free hX I) rp.fz rv hp (u := .ref b) rfl
      exact ⟨b, rfl, rfl, nk_is z hp ra, hd.1⟩
    · rw [if_neg hd] at h; cases h
theorem dnOf_some {S : Rp} {st : Store} {H : Hp} {d : D} {v : V} {n : Nat} {ks us : List D} (rp : Rep C S st H) (rv : RV C S d v) (e : dnOf st d = some (n, ks, us)) :
    ∃ a o, d = .cell n ∧ v = .ref a ∧ S.m[n]? = some a ∧ H a = some o ∧ RO C S (.dn ks us) o := by
  cases d with
  | cell m =>
    unfold dnOf at e
    simp only at e
    cases z : st[m]? with
    | none => rw [z] at e; cases e
    | some mo =>
      rw [z] at e
      cases mo with
      | dn ks' us' =>
        cases e
        obtain ⟨a, rfl, hm⟩ := rv_cell.mp rv
        obtain ⟨a', o, q1, q2, q3, q4⟩ := rp.at_ n _ z
        rw [hm] at q1; cases q1
        exact ⟨a, o, rfl, rfl, hm, q3, q4⟩
      | lst _ => cases e
      | dct _ _ => cases e
      | ins _ _ _ => cases e
  | _ => cases e
theorem room8 {A : Around} {k : Nat} (hr : Room k A) : A.units + 1 + 8 < cLine := Nat.lt_of_le_of_lt (by have := (by decide : 9 ≤ 64); omega) hr.units

/-! `{}` -/
def dn0F : Fx D := fun _ st => .ok (.cell st.length) (st ++ [.dn [] []])
theorem se_dn0 {pos : Pos} : SE X C E dn0F (.Dict [] [] pos) := ⟨fun pins s σ H Q I q => by
  obtain ⟨S, ρ, st, rp, rn, q⟩ := q
  have hp : H s.heap.objs.size = none := I.hok.fresh (Nat.le_refl _)
  have hd : ∀ (h : Heap), h = s.heap.push { cls := .type "dict", data := .dict #[] } → h.get? s.heap.objs.size = some { cls := .type "dict", data := .dict #[] } := fun h e => by rw [e]; exact Heap.get?_push_size _ rfl
  have hs : (s.heap.objs.size == sysModules) = false := beq_eq_false_iff_ne.mpr fun e => absurd I.big (by rw [e]; exact Nat.lt_irrefl _)
  have ro : RO C S (.dn [] []) (.ext (DNx s.heap.objs.size [])) := ⟨s.heap.objs.size, [], rfl, RVs.nil, by rw [nkDs]; rfl, fun x hx => (by cases hx), RVs.nil⟩
  have new : ∀ H' : Hp, ObjOk X.prog X.w H' (s.heap.push { cls := .type "dict", data := .dict #[] }) s.heap.objs.size (.ext (DNx s.heap.objs.size [])) := fun H' => by
    refine ⟨⟨hs, Nat.zero_le _, X.w, [], _, #[], 0, .nil, Heap.get?_push_size _ rfl, ⟨rfl, rfl, rfl⟩, rfl, rfl, List.nodup_nil⟩, ⟨_, Heap.get?_push_size _ rfl⟩, ?_⟩
    rintro h1 h2 ⟨a1, a2, w', xs, o, en, ep, a3, a4, a5⟩ kk
    exact ⟨a1, a2, w', xs, o, en, ep, a3, kk _ a4, a5⟩
  refine wpAny_Dict_empty ⟨.ref s.heap.objs.size, _, I.laid (a := s.heap.objs.size) (o := .ext (DNx s.heap.objs.size [])) (t' := s.toks) (fun _ _ q => Heap.get?_push_of_some _ q) (Nat.le_refl _) (new _), rfl, ?_⟩
  refine q _ _ _ (Go.newC hp) (rp.newC (mo := .dn [] []) hp ro) (rv_cell.mpr ⟨_, rfl, ?_⟩)
  show (S.m ++ [s.heap.objs.size])[st.length]? = some _
  rw [← rp.len]; simp⟩

/-! in -/
def dnIn (neg : Bool) (a b : D) (st : Store) : R D := match kyOf a, dnOf st b with
  | some k, some (_, ks, us) => .ok (.bl ((findN k ks us).isSome != neg)) st
  | _, _ => .bad
theorem os_dnIn (hX : XOk X C k E) : OpS X C E' (compareOp .In) (dnIn false) := by
  intro pins s σ H x y v u Q S st a b I rx ry rp ra rb h
  unfold dnIn at h
  cases z : kyOf a with
  | none => rw [z] at h; exact h.bad
  | some kk =>
    cases z2 : dnOf st b with
    | none => rw [z, z2] at h; exact h.bad
    | some t =>
      obtain ⟨n, ks, us⟩ := t
      rw [z, z2] at h
      have h : Post C (rV C) S H (.ok (.bl ((findN kk ks us).isSome != false)) st) Q (E' σ) := h
      have q := post_same h rp (rv_bl.mpr rfl)
      obtain ⟨_, _, b', rfl, rfl, hk⟩ := ky_is hX I rp z ra rx
      obtain ⟨p, o, rfl, rfl, hm, ho, ro⟩ := dnOf_some rp rb z2
      obtain ⟨es, xs, rfl, hl, hs, nk, dp, r1, r2, pr, dd⟩ := dn_of hX I rp ho ro
      obtain rfl : u = .ref p := ry
      refine wpAny_in_heap (knd := nestedKind X.prog X.w) (show X.A.units + 1 + 8 < cLine from room8 hX.room) hk hs dd ⟨_, _, I.tok _, ?_, q⟩
      obtain ⟨f1, f2⟩ := find_at (kk := kk) pr nk r2
      cases z3 : findN kk ks us with
      | none => rw [f2 z3]; rfl
      | some d =>
        obtain ⟨p', v', e1, _⟩ := f1 d z3
        rw [e1]; rfl
theorem wpAny_notIn_heap' {prog : Program} {w : World} {K : Type} [DecidableEq K] {knd : HeapKind prog w K} {A : Around} {E : Value → Shared → Prop} {s : Shared} {d a : Addr} {k : K} {xs : List (K × Addr × Value)} {Q : Value → Shared → Prop} (hu : knd.room A.in1) (hkey : knd.is s.heap k a) (hd : (d == sysModules) = false) (hm : s.heap.DictOfH knd d xs)
    (h : Q (.bool (!(atKey xs k).isSome)) { s with toks := s.toks + knd.draws k }) : wpAny (model prog w) A (compareOp .NotIn (.ref a) (.ref d)) Q E s :=
  notIn_keyed (kvs := pairsH xs) hu hkey hd ⟨xs, hm, rfl⟩ (by rw [valueAt_pairsH, Option.isSome_map]; exact h)
theorem os_dnNotIn (hX : XOk X C k E) : OpS X C E' (compareOp .NotIn) (dnIn true) := by
  intro pins s σ H x y v u Q S st a b I rx ry rp ra rb h
  unfold dnIn at h
  cases z : kyOf a with
  | none => rw [z] at h; exact h.bad
  | some kk =>
    cases z2 : dnOf st b with
    | none => rw [z, z2] at h; exact h.bad
    | some t =>
      obtain ⟨n, ks, us⟩ := t
      rw [z, z2] at h
      have h : Post C (rV C) S H (.ok (.bl ((findN kk ks us).isSome != true)) st) Q (E' σ) := h
      have q := post_same h rp (rv_bl.mpr rfl)
      obtain ⟨_, _, b', rfl, rfl, hk⟩ := ky_is hX I rp z ra rx
      obtain ⟨p, o, rfl, rfl, hm, ho, ro⟩ := dnOf_some rp rb z2
      obtain ⟨es, xs, rfl, hl, hs, nk, dp, r1, r2, pr, dd⟩ := dn_of hX I rp ho ro
      obtain rfl : u = .ref p := ry
      refine wpAny_notIn_heap' (knd := nestedKind X.prog X.w) (show X.A.units + 1 + 8 < cLine from room8 hX.room) hk hs dd ⟨_, _, I.tok _, ?_, q⟩
      obtain ⟨f1, f2⟩ := find_at (kk := kk) pr nk r2
      cases z3 : findN kk ks us with
      | none => rw [f2 z3]; rfl
      | some d =>
        obtain ⟨p', v', e1, _⟩ := f1 d z3
        rw [e1]; rfl
def dnInF (neg : Bool) (fa fb : Fx D) : Fx D := fun ρ st => (fa ρ st).bind fun x st1 => (fb ρ st1).bind fun y st2 => dnIn neg x y st2
theorem q_dnIn {fa fb : Fx D} {a b : Expr} {pos : Pos} (hX : XOk X C k E) (ha : SE X C E fa a) (hb : SE X C E fb b) (hm : behindInMarks .In b = false := by rfl) : SE X C E (dnInF false fa fb) (.Compare a [.In] [b] pos) := se_cmp ha hb (os_dnIn hX) hm
theorem q_dnNotIn {fa fb : Fx D} {a b : Expr} {pos : Pos} (hX : XOk X C k E) (ha : SE X C E fa a) (hb : SE X C E fb b) (hm : behindInMarks .NotIn b = false := by rfl) : SE X C E (dnInF true fa fb) (.Compare a [.NotIn] [b] pos) := se_cmp ha hb (os_dnNotIn hX) hm
theorem t_dnIn {fa fb : Fx D} {a b : Expr} {pos : Pos} (hX : XOk X C k E) (ha : SE X C E fa a) (hb : SE X C E fb b) (hm : behindInMarks .In b = false := by rfl) : ST X C E (tst (dnInF false fa fb)) (.Compare a [.In] [b] pos) := st_cmp hX ha hb (os_dnIn hX) hm
theorem t_dnNotIn {fa fb : Fx D} {a b : Expr} {pos : Pos} (hX : XOk X C k E) (ha : SE X C E fa a) (hb : SE X C E fb b) (hm : behindInMarks .NotIn b = false := by rfl) : ST X C E (tst (dnInF true fa fb)) (.Compare a [.NotIn] [b] pos) := st_cmp hX ha hb (os_dnNotIn hX) hm

/-! d[k] -/
def dnIx (a i : D) (st : Store) : R D := match kyOf i, dnOf st a with
  | some k, some (_, ks, us) => ofO (findN k ks us) st
  | _, _ => .bad
def dnIxF (fa fi : Fx D) : Fx D := fun ρ st => (fa ρ st).bind fun x st1 => (fi ρ st1).bind fun y st2 => dnIx x y st2
theorem q_dnIx {a i : Expr} {fa fi : Fx D} {pos : Pos} (hX : XOk X C k E) (ha : SE X C E fa a) (hi : SE X C E fi i) (hs : ∀ o j, subscripted i false o j = operate [o, j] (getItem o j) := by exact fun _ _ => rfl) :
    SE X C E (dnIxF fa fi) (.Subscript a i pos) := by
  refine ⟨fun pins s σ H Q I h => ?_⟩
  refine Subscript_ (binT ha hi I (bin_read (op := dnIx) (K := fun x y H2 => ∃ S st da di, Rep C S st H2 ∧ RV C S da x ∧ RV C S di y ∧ Post C (rV C) S H2 (dnIx da di st) Q (E σ)) h fun x y H2 S st da db h1 h2 h3 h4 => ⟨S, st, da, db, h1, h2, h3, h4⟩) fun v u s2 x y H2 I2 rx ry q => ?_)
  obtain ⟨S, st, da, di, rp, ra, ri, q⟩ := q
  unfold dnIx at q
  cases z : kyOf di with
  | none => rw [z] at q; exact q.bad
  | some kk =>
    cases z2 : dnOf st da with
    | none => rw [z, z2] at q; exact q.bad
    | some t =>
      obtain ⟨n, ks, us⟩ := t
      rw [z, z2] at q
      obtain ⟨d, e, q⟩ := post_ofO q
      obtain ⟨_, _, b', rfl, rfl, hk⟩ := ky_is hX I2 rp z ri ry
      obtain ⟨p, o, rfl, rfl, hm, ho, ro⟩ := dnOf_some rp ra z2
      obtain ⟨es, xs, rfl, hl, hs', nk, dp, r1, r2, pr, dd⟩ := dn_of hX I2 rp ho ro
      obtain rfl : v = .ref p := rx
      obtain ⟨p', v', e1, e2, e3⟩ := (find_at (kk := kk) pr nk r2).1 d e
      exact tail_any dd.typeIs PySem.F.slot_dict_getitem.lookup (wpAny_getItem_heap (knd := nestedKind X.prog X.w) (show X.A.units + 1 + 8 < cLine from room8 hX.room) hk dd e1 ⟨_, _, I2.tok _, e2, post_same q rp e3⟩) (hs _ _)

/-! d[k] = v, a new key -/
def dnSet (o i v : D) (st : Store) : Option Store := match kyOf i, dnOf st o with
  | some k, some (n, ks, us) => if ks.length < lim then (match findN k ks us with
    | none => some (st.set n (.dn (ks ++ [i]) (us ++ [v])))
    | some _ => none) else none
  | _, _ => none
def dnSetF (fo fi fv : Fx D) : FS := runE fv fun v ρ st => runE fo (fun o ρ st => runE fi (fun i ρ st => match dnSet o i v st with
  | some st' => .ok (.nx ρ) st'
  | none => .bad) ρ st) ρ st
theorem rvs_snoc {S : Rp} {ds : List D} {vs : List V} {d : D} {v : V} (h : RVs C S ds vs) (r : RV C S d v) : RVs C S (ds ++ [d]) (vs ++ [v]) := h.append (.one r)
theorem s_dnSet {fo fi fv : Fx D} {o i e : Expr} {pos' pos : Pos} (hX : XOk X C k E) (ho : SE X C E fo o) (hi : SE X C E fi i) (hv : SE X C E fv e) (hs : swapsWith e (some (.Subscript o i pos')) pos.line X.env = pure false := by rfl) :
    SS X C E (dnSetF fo fi fv) (.Assign [.Subscript o i pos'] e pos) := by
  refine ⟨fun pins s σ H De I h => ?_⟩
  obtain ⟨S, ρ, st, rp, rn, h⟩ := h
  refine wpAny_Assign_Subscript (es_step hv I rp rn h fun r s1 v H1 S1 st1 d I1 rv g1 rp1 rd1 h1 =>
    es_step ho I1 rp1 (rn.mono g1.ext) h1 fun u s2 x H2 S2 st2 dx I2 rx g2 rp2 rx2 h2 =>
    es_step hi I2 rp2 ((rn.mono g1.ext).mono g2.ext) h2 fun iv s3 y H3 S3 st3 dy I3 ry g3 rp3 ry3 h3 => ?_) hs
  have rn3 := ((rn.mono g1.ext).mono g2.ext).mono g3.ext
  have rd3 : RV C S3 d v := (RV.mono g2.ext rd1).mono g3.ext
  have rx3 : RV C S3 dx x := RV.mono g3.ext rx2
  cases z : dnSet dx dy d st3 with
  | none => rw [z] at h3; exact h3.bad
  | some st4 =>
    rw [z] at h3
    unfold dnSet at z
    cases z1 : kyOf dy with
    | none => rw [z1] at z; cases z
    | some kk =>
      cases z2 : dnOf st3 dx with
      | none => rw [z1, z2] at z; cases z
      | some t =>
        obtain ⟨n, ks, us⟩ := t
        rw [z1, z2] at z
        simp only at z
        split at z
        · rename_i hlim
          cases z3 : findN kk ks us with
          | some w => rw [z3] at z; cases z
          | none =>
            rw [z3] at z; cases z
            obtain ⟨hn, hdp, b', rfl, rfl, hk⟩ := ky_is hX I3 rp3 z1 ry3 ry
            obtain ⟨p, o, rfl, rfl, hm, ho', ro⟩ := dnOf_some rp3 rx3 z2
            obtain ⟨es, xs, rfl, hl, hsm, nk, dp, r1, r2, pr, dd⟩ := dn_of hX I3 rp3 ho' ro
            obtain rfl : u = .ref p := rx
            have hnone := (find_at (kk := kk) pr nk r2).2 z3
            have hle : es.length < sizeLine := by
              have : ks.length = es.length := by rw [r1.length, List.length_map]
              rw [this] at hlim
              exact lim_lt (Nat.le_of_lt hlim)
            have hxl : xs.length = es.length := (Paired.length pr).symm
            refine wpAny_setItem_heap (knd := nestedKind X.prog X.w) (hsz := by rw [hxl]; exact hl) (show X.A.units + 1 + 8 < cLine from room8 hX.room) hk dd fun h' dd' hs2 => ?_
            rw [storedH_new hnone] at dd'
            obtain ⟨ob, en, ep, q1, q2, q3, q4, q5, q6⟩ := dd'
            have new : ∀ H' : Hp, ObjOk X.prog X.w H' h' p (.ext (DNx p (es ++ [(kk, b', v)]))) := fun H' => by
              refine ⟨⟨hsm, by rw [List.length_append]; exact hle, X.w, _, ob, en, ep, Paired.snoc pr ⟨rfl, rfl, rv⟩, q1, q2, q3, q4, q6⟩, ⟨_, q1⟩, ?_⟩
              rintro h1 h2 ⟨a1, a2, w', xs, o, en, ep, a3, a4, a5⟩ kk
              exact ⟨a1, a2, w', xs, o, en, ep, a3, kk _ a4, a5⟩
            refine ⟨σ, upd H3 p (.ext (DNx p (es ++ [(kk, b', v)]))), d_write I3 (by rw [ho']; exact True.intro) hs2 ⟨_, q1⟩ (new _), ?_⟩
            refine h3 S3 _ (Go.setC hm ho') (rp3.setC (mo := .dn (ks ++ [dy]) (us ++ [d])) hm ⟨_, _, rfl, ?_, ?_, ?_, ?_⟩) σ rn3
            · rw [List.map_append]; exact rvs_snoc r1 ry3
            · rw [List.map_append]; exact nkDs_snoc hn nk
            · intro x hx
              rcases List.mem_append.mp hx with hx | hx
              · exact dp x hx
              · rw [List.mem_singleton.mp hx]; exact hdp
            · rw [List.map_append]; exact rvs_snoc r2 rd3
        · cases z

/-! max of a list of numbers -/
def maxL (as : List D) (st : Store) : R D := match as with
  | [a] => match lstOf st a with
    | some xs => match intsOf xs with
      | some (n :: ns) => .ok (.int (ns.foldl max n)) st
      | _ => .bad
    | none => .bad
  | _ => .bad
def maxLF (f : Fx (List D)) : Fx D := fun ρ st => (f ρ st).bind fun as st1 => maxL as st1
theorem reads_ints {h : Heap} : ∀ {ns : List Int} {us : List Value}, Vals (ns.map V.int) us → ∃ as, ReadsAll h us (ns.map .int) as
  | [], us, r => by cases r; exact ⟨_, .nil⟩
  | n :: ns, us, r => by
    rw [List.map_cons] at r
    cases r with
    | cons r1 r2 =>
      obtain ⟨t, rfl⟩ := r1
      obtain ⟨as, h⟩ := reads_ints r2
      exact ⟨_, .cons (.int n t) h⟩
theorem ps_maxL (hX : XOk X C k E) : CallS X C E' (.builtin "max") maxL := by
  intro pins s σ H vs us Q S st as I r rp rv h
  rcases as with _ | ⟨a, _ | ⟨b, t⟩⟩
  · exact Post.bad (C := C) h
  · obtain ⟨v, rfl, rv'⟩ := rvs1 rv
    have h : Post C (rV C) S H (match lstOf st a with | some xs => (match intsOf xs with | some (n :: ns) => .ok (.int (ns.foldl max n)) st | _ => .bad) | none => .bad) Q (E' σ) := h
    cases z : lstOf st a with
    | none => rw [z] at h; exact h.bad
    | some xs =>
      rw [z] at h
      cases y : intsOf xs with
      | none => simp only [y] at h; exact h.bad
      | some l =>
        cases l with
        | nil => simp only [y] at h; exact h.bad
        | cons n ns =>
          simp only [y] at h
          obtain ⟨p, ws, rfl, h1, h2⟩ := lstOf_some rp rv' z
          rw [ints_rv h2 y, ← hX.K] at h1
          obtain ⟨its, rit, ⟨ob, m, e1, e2, _, e3⟩, _⟩ := I.list h1
          cases r with
          | cons r1 r2 =>
            cases r2
            obtain rfl := (show _ = Value.ref p from r1)
            obtain ⟨bs, ra⟩ := reads_ints (h := s.heap) rit
            have dz : PyData.depthAll (.int n :: ns.map .int) = 0 := by
              have : ∀ l : List Int, PyData.depthAll (l.map .int) = 0 := fun l => by
                induction l with
                | nil => rfl
                | cons a l ih => rw [List.map_cons]; show max (PyData.depth (.int a)) (PyData.depthAll (l.map .int)) = 0; rw [ih]; rfl
              exact this (n :: ns)
            have al : PySem.W.AlikeAll (.int n :: ns.map .int) := by
              have : ∀ x ∈ (PyData.int n :: ns.map .int), ∃ i, x = .int i := fun x hx => by
                rcases List.mem_cons.mp hx with rfl | hx
                · exact ⟨_, rfl⟩
                · obtain ⟨i, _, rfl⟩ := List.mem_map.mp hx; exact ⟨i, rfl⟩
              refine ⟨fun x hx y hy => ?_, fun x hx => ?_⟩
              · obtain ⟨i, rfl⟩ := this x hx
                obtain ⟨j, rfl⟩ := this y hy
                rfl
              · obtain ⟨i, rfl⟩ := this x hx
                exact fun e => nomatch e
            refine PySem.W.max_list_data (I.ok.hd hX.calm) ⟨ob, e1, e2, m, e3⟩ (by simpa using ra) al (by rw [dz]; have := room8 hX.room; omega) fun i v h' tk bs hv hr kk => ?_
            rw [PySem.W.maxD_ints] at hr
            cases hr with
            | int _ t => exact ⟨.int (ns.foldl max n), _, I.kept kk, ⟨t, rfl⟩, post_same h rp (rv_int.mpr rfl)⟩
  · exact Post.bad (C := C) h
theorem q_maxL {f : Fx (List D)} {p0 pos : Pos} {e : Expr} {es : List Expr} (hX : XOk X C k E) (hm : X.mg "max" = none) (ha : SA X C E f (e :: es)) (hg : Gl X "max" := by rfl)
    (he : starEach (e :: es) X.env = (false, eval e X.env) :: starEach es X.env := by rfl) (hpl : (backTo pos (starEach es X.env)).any (·.1) = false := by rfl) : SE X C E (maxLF f) (.Call (.Name "max" p0) (e :: es) [] pos) :=
  se_prim (ps_maxL hX) ⟨_, .inl rfl⟩ hg hm (by decide +kernel) ha (by decide) (by decide) he hpl
end
end Px

/-! Px63: what a run gives: dicts with nested keys, max of a list; tables as keys. -/
namespace Px
open PySem PySem.Spec PyProof.Rows L2
section
variable {ρ : Env} {st : Store} {Q : D → Store → Prop} {QL : List D → Store → Prop} {P : F → Store → Prop} {X : XQ}
@[simp] theorem W_dn0 : W (dn0F ρ st) Q X ↔ Q (.cell st.length) (st ++ [.dn [] []]) := Iff.rfl
@[simp] theorem W_dnInF {neg : Bool} {fa fb : Fx D} : W (dnInF neg fa fb ρ st) Q X ↔ W (fa ρ st) (fun x st1 => W (fb ρ st1) (fun y st2 => W (dnIn neg x y st2) Q X) X) X := by unfold dnInF; simp
@[simp] theorem W_dnIxF {fa fb : Fx D} : W (dnIxF fa fb ρ st) Q X ↔ W (fa ρ st) (fun x st1 => W (fb ρ st1) (fun y st2 => W (dnIx x y st2) Q X) X) X := by unfold dnIxF; simp
@[simp] theorem W_maxLF {f : Fx (List D)} : W (maxLF f ρ st) Q X ↔ W (f ρ st) (fun as st1 => W (maxL as st1) Q X) X := by unfold maxLF; simp
@[simp] theorem W_dnSetF {fo fi fv : Fx D} : W (dnSetF fo fi fv ρ st) P X ↔ W (fv ρ st) (fun v st1 => W (fo ρ st1) (fun o st2 => W (fi ρ st2) (fun i st3 => ∃ st', dnSet o i v st3 = some st' ∧ P (.nx ρ) st') (fun c ns us st1 => P (.xc c ns us ρ) st1)) (fun c ns us st1 => P (.xc c ns us ρ) st1)) (fun c ns us st1 => P (.xc c ns us ρ) st1) := by
  unfold dnSetF
  simp only [W_runE]
  cases fv ρ st with
  | ok v st1 =>
    simp only [W_ok]
    cases fo ρ st1 with
    | ok o st2 =>
      simp only [W_ok]
      cases fi ρ st2 with
      | ok i st3 => simp only [W_ok]; cases dnSet o i v st3 <;> simp
      | ex c ns us st => simp
      | bad => simp
    | ex c ns us st => simp
    | bad => simp
  | ex c ns us st => simp
  | bad => simp
theorem dnOf_at {n : Nat} {ks us : List D} (h : st[n]? = some (.dn ks us)) : dnOf st (.cell n) = some (n, ks, us) := by
  unfold dnOf; simp only [h]
theorem W_dnIn {neg : Bool} {n : Nat} {a : D} {k : NestedKey} {ks us : List D} (h : st[n]? = some (.dn ks us)) (hk : kyOf a = some k) : W (dnIn neg a (.cell n) st) Q X ↔ Q (.bl ((findN k ks us).isSome != neg)) st := by
  unfold dnIn; rw [hk, dnOf_at h]; exact Iff.rfl
theorem W_dnIx {n : Nat} {a d : D} {k : NestedKey} {ks us : List D} (h : st[n]? = some (.dn ks us)) (hk : kyOf a = some k) (hf : findN k ks us = some d) : W (dnIx (.cell n) a st) Q X ↔ Q d st := by
  unfold dnIx; rw [hk, dnOf_at h]; simp only [hf, ofO]; exact Iff.rfl
theorem dnSet_at {n : Nat} {a v : D} {k : NestedKey} {ks us : List D} (h : st[n]? = some (.dn ks us)) (hk : kyOf a = some k) (hl : ks.length < lim) (hf : findN k ks us = none) : dnSet (.cell n) a v st = some (st.set n (.dn (ks ++ [a]) (us ++ [v]))) := by
  unfold dnSet; rw [hk, dnOf_at h]; simp only [hf]; rw [if_pos hl]
theorem find_map {key val : Nat → D} {k : NestedKey} : ∀ l : List Nat, findN k (l.map key) (l.map val) = (l.find? fun i => decide (nkD (key i) = some k)).map val
  | [] => rfl
  | a :: l => by
    rw [List.map_cons, List.map_cons, findN, List.find?_cons]
    by_cases h : nkD (key a) = some k
    · rw [if_pos h, decide_eq_true h]; rfl
    · rw [if_neg h, decide_eq_false h]; exact find_map l
theorem find_none {key val : Nat → D} {k : NestedKey} {t : Nat} (h : ∀ i, i < t → nkD (key i) ≠ some k) : findN k ((List.range t).map key) ((List.range t).map val) = none := by
  rw [find_map, List.find?_eq_none.mpr]
  · rfl
  · intro x hx
    simpa using h x (List.mem_range.mp hx)
theorem find_some {key val : Nat → D} {k : NestedKey} {t s : Nat} (hs : s < t) (e : nkD (key s) = some k) (h : ∀ i, i < s → nkD (key i) ≠ some k) : findN k ((List.range t).map key) ((List.range t).map val) = some (val s) := by
  have : (List.range t).find? (fun i => decide (nkD (key i) = some k)) = some s := by
    rw [List.find?_range_eq_some]
    exact ⟨by simpa using e, List.mem_range.mpr hs, fun j hj => by simpa using h j hj⟩
  rw [find_map, this]; rfl
/-! tables as keys -/
def nkRow (w : Nat) (r : Nat → Int) : NestedKey := .tup ((List.range w).map fun j => .num (r j))
def nkTab (m w : Nat) (f : Tn) : NestedKey := .tup ((List.range m).map fun i => nkRow w (f i))
theorem nkDs_map {α : Type} {g : α → D} {h : α → NestedKey} (e : ∀ a, nkD (g a) = some (h a)) : ∀ l : List α, nkDs (l.map g) = some (l.map h)
  | [] => by rw [List.map_nil, nkDs, List.map_nil]
  | a :: l => by rw [List.map_cons, nkDs, e a, nkDs_map e l]; rfl
theorem nk_vec {w : Nat} {r : Nat → Int} : nkD (vecD w r) = some (nkRow w r) := by
  unfold vecD rowD nkRow
  rw [nkD, nkDs_map (h := fun j => .num (r j)) fun j => by rw [nkD]]; rfl
theorem nk_tab {m w : Nat} {f : Tn} : nkD (tabD m w f) = some (nkTab m w f) := by
  unfold tabD nkTab
  rw [nkD, nkDs_map (h := fun i => nkRow w (f i)) fun i => nk_vec]; rfl
theorem nkTab_inj {m w : Nat} {f g : Tn} : nkTab m w f = nkTab m w g ↔ EqT m w f g := by
  constructor
  · intro e i hi j hj
    unfold nkTab at e
    injection e with e
    have e1 := (List.map_inj_left.mp e) i (List.mem_range.mpr hi)
    unfold nkRow at e1
    injection e1 with e1
    have e2 := (List.map_inj_left.mp e1) j (List.mem_range.mpr hj)
    injection e2
  · intro e
    unfold nkTab
    rw [List.map_congr_left fun i hi => ?_]
    unfold nkRow
    rw [List.map_congr_left fun j hj => ?_]
    rw [e i (List.mem_range.mp hi) j (List.mem_range.mp hj)]
theorem dep_map {α : Type} {g : α → NestedKey} {b : Nat} (h : ∀ a, (g a).depth ≤ b) : ∀ l : List α, NestedKey.depthAll (l.map g) ≤ b
  | [] => Nat.zero_le _
  | a :: l => by rw [List.map_cons, NestedKey.depthAll]; exact Nat.max_le.mpr ⟨h a, dep_map h l⟩
theorem dep_row {w : Nat} {r : Nat → Int} : (nkRow w r).depth ≤ 1 := by
  unfold nkRow; rw [NestedKey.depth]
  exact Nat.succ_le_succ (dep_map (fun j => by rw [NestedKey.depth]; exact Nat.le_refl _) _)
theorem dep_tab {m w : Nat} {f : Tn} : (nkTab m w f).depth ≤ 2 := by
  unfold nkTab; rw [NestedKey.depth]
  exact Nat.succ_le_succ (dep_map (fun j => dep_row) _)
theorem ky_tab {m w : Nat} {f : Tn} : kyOf (tabD m w f) = some (nkTab m w f) := by
  unfold kyOf
  rw [nk_tab]
  have h1 := dep_tab (m := m) (w := w) (f := f)
  have h2 : 1 ≤ (nkTab m w f).depth := by unfold nkTab; rw [NestedKey.depth]; omega
  exact if_pos ⟨by omega, h2⟩
theorem nk_eq {m w : Nat} {f g : Tn} : nkD (tabD m w f) = some (nkTab m w g) ↔ EqT m w f g := by
  rw [nk_tab, Option.some.injEq, nkTab_inj]
/-! == of two tables -/
theorem tab_inj {m w : Nat} {f g : Tn} : tabD m w f = tabD m w g ↔ EqT m w f g :=
  ⟨fun e => nk_eq.mp (by rw [e, nk_tab]), tabD_congr⟩
end
end Px

/-! Px64: == of tables; sequences that come round. -/
namespace Px
open PySem PySem.Spec PyProof.Rows L2
theorem pys_map {α : Type} {g : α → D} {h : α → PyData} (e : ∀ a, (g a).py = some (h a)) : ∀ l : List α, pys (l.map g) = some (l.map h)
  | [] => by rw [List.map_nil, pys, List.map_nil]
  | a :: l => by rw [List.map_cons, pys, e a, pys_map e l]; rfl
def pyRow (w : Nat) (r : Nat → Int) : PyData := .tuple ((List.range w).map fun j => .int (r j))
def pyTab (m w : Nat) (f : Tn) : PyData := .tuple ((List.range m).map fun i => pyRow w (f i))
theorem py_vec {w : Nat} {r : Nat → Int} : (vecD w r).py = some (pyRow w r) := by
  unfold vecD rowD pyRow
  rw [D.py, pys_map (h := fun j => .int (r j)) fun j => by rw [D.py]]; rfl
theorem py_tab {m w : Nat} {f : Tn} : (tabD m w f).py = some (pyTab m w f) := by
  unfold tabD pyTab
  rw [D.py, pys_map (h := fun i => pyRow w (f i)) fun i => py_vec]; rfl
theorem eqvAll_map {α : Type} {a b : α → PyData} : ∀ l : List α, PyData.eqvAll (l.map a) (l.map b) = l.all fun i => PyData.eqv (a i) (b i)
  | [] => rfl
  | x :: l => by rw [List.map_cons, List.map_cons, PyData.eqvAll, eqvAll_map l, List.all_cons]
theorem eqv_tab {m w : Nat} {f g : Tn} : PyData.eqv (pyTab m w f) (pyTab m w g) = true ↔ EqT m w f g := by
  unfold pyTab
  rw [PyData.eqv, eqvAll_map, List.all_eq_true]
  unfold EqT
  refine ⟨fun h i hi j hj => ?_, fun h i hi => ?_⟩
  · have := h i (List.mem_range.mpr hi)
    unfold pyRow at this
    rw [PyData.eqv, eqvAll_map, List.all_eq_true] at this
    have := this j (List.mem_range.mpr hj)
    rw [PyData.eqv] at this
    exact eq_of_beq this
  · unfold pyRow
    rw [PyData.eqv, eqvAll_map, List.all_eq_true]
    intro j hj
    rw [PyData.eqv, h i (List.mem_range.mp hi) j (List.mem_range.mp hj)]
    exact beq_self_eq_true _
theorem eqD_tab {m w : Nat} {f g : Tn} {st : Store} : eqD st (tabD m w f) (tabD m w g) = some (PyData.eqv (pyTab m w f) (pyTab m w g)) := by
  have sh : ∀ f : Tn, SeqAt.shaped (pyTab m w f) = true := fun f => by
    obtain ⟨q, a, b, c⟩ := ns_tab (m := m) (w := w) (f := f)
    rw [py_tab] at a
    cases a
    unfold SeqAt.shaped
    rw [b]; simp; omega
  have h1 := view_py (st := st) (py_tab (m := m) (w := w) (f := f))
  have h2 := view_py (st := st) (py_tab (m := m) (w := w) (f := g))
  have p1 := py_tab (m := m) (w := w) (f := f)
  have p2 := py_tab (m := m) (w := w) (f := g)
  have e : eqD st (tabD m w f) (tabD m w g) = (match view st (tabD m w f), view st (tabD m w g) with
    | some x, some y => match x.py, y.py with
      | some p, some q => if SeqAt.shaped p && SeqAt.shaped q then some (PyData.eqv p q) else none
      | _, _ => none
    | _, _ => none) := by unfold tabD; rfl
  rw [e, h1, h2]
  simp only [p1, p2, sh, Bool.and_self, if_true]

/-! a sequence that comes round -/
section
variable {α : Type} {x : Nat → α} {s t : Nat}
theorem rho_shift (hs : ∀ a b, x a = x b → x (a + 1) = x (b + 1)) {a b : Nat} (e : x a = x b) : ∀ c, x (a + c) = x (b + c)
  | 0 => e
  | c + 1 => hs _ _ (rho_shift hs e c)
theorem rho_red (hs : ∀ a b, x a = x b → x (a + 1) = x (b + 1)) (hst : s < t) (e : x s = x t) : ∀ (n k : Nat), k ≤ n → s ≤ k → x k = x (s + (k - s) % (t - s))
  | 0, k, hn, hk => by
    have h1 : k = 0 := by omega
    have h2 : s = 0 := by omega
    subst h1 h2; simp
  | n + 1, k, hn, hk => by
    by_cases h : k < t
    · rw [Nat.mod_eq_of_lt (by omega), show s + (k - s) = k by omega]
    · have h1 := rho_shift hs e (k - t)
      have h2 := rho_red hs hst e n (s + (k - t)) (by omega) (by omega)
      rw [show t + (k - t) = k by omega] at h1
      rw [← h1, h2]
      congr 2
      rw [show k - s = (s + (k - t) - s) + (t - s) by omega, Nat.add_mod_right]
theorem rho (hs : ∀ a b, x a = x b → x (a + 1) = x (b + 1)) (hst : s < t) (e : x s = x t) (hmin : ∀ i j, i < j → j < t → x i ≠ x j) {k m : Nat} (hm : 0 < m) : x (k + m) = x k ↔ s ≤ k ∧ (t - s) ∣ m := by
  have inj : ∀ i j, i < t → j < t → x i = x j → i = j := fun i j hi hj q => by
    rcases Nat.lt_trichotomy i j with h | h | h
    · exact absurd q (hmin i j h hj)
    · exact h
    · exact absurd q.symm (hmin j i h hi)
  have hd : 0 < t - s := by omega
  constructor
  · intro q
    by_cases hk : s ≤ k
    · refine ⟨hk, ?_⟩
      have r1 := rho_red hs hst e k k (Nat.le_refl _) hk
      have r2 := rho_red hs hst e (k + m) (k + m) (Nat.le_refl _) (by omega)
      rw [r1, r2] at q
      have l1 := Nat.mod_lt (k - s) hd
      have l2 := Nat.mod_lt (k + m - s) hd
      have := inj _ _ (by omega) (by omega) q
      have h3 : (k + m - s) % (t - s) = (k - s) % (t - s) := by omega
      rw [show k + m - s = (k - s) + m by omega] at h3
      have h4 : ((k - s) + m) % (t - s) = ((k - s) + 0) % (t - s) := h3
      have h5 := Nat.sub_mod_eq_zero_of_mod_eq h4
      rw [Nat.add_zero, Nat.add_sub_cancel_left] at h5
      exact Nat.dvd_of_mod_eq_zero h5
    · exfalso
      by_cases hkm : k + m < t
      · have := inj _ _ hkm (by omega) q; omega
      · have r2 := rho_red hs hst e (k + m) (k + m) (Nat.le_refl _) (by omega)
        rw [r2] at q
        have l2 := Nat.mod_lt (k + m - s) hd
        have := inj _ _ (by omega) (by omega) q; omega
  · rintro ⟨hk, c, rfl⟩
    have r1 := rho_red hs hst e k k (Nat.le_refl _) hk
    have r2 := rho_red hs hst e (k + (t - s) * c) (k + (t - s) * c) (Nat.le_refl _) (by omega)
    rw [r1, r2, show k + (t - s) * c - s = (k - s) + (t - s) * c by omega, Nat.add_mul_mod_self_left]
end
end Px

/-! Px65: the deck, with what stands behind it; lists in cells. -/
namespace Px
open PySem PySem.Spec PyProof.Rows L2
def DkR (rest st : Store) : Prop := ∃ gs s, st = deckS gs s rest ∧ gs.length ≤ 63
section
variable {X : XQ} {st rest : Store} {Q : D → Store → Prop} {mu : Nat}
theorem DkR.at {n : Nat} (h : DkR rest st) : st[n + 2]? = rest[n]? := by
  obtain ⟨gs, s, rfl, _⟩ := h
  simp [deckS]
theorem DkR.len (h : DkR rest st) : st.length = rest.length + 2 := by
  obtain ⟨gs, s, rfl, _⟩ := h
  simp [deckS]
theorem DkR.snoc {mo : MO} (h : DkR rest st) : DkR (rest ++ [mo]) (st ++ [mo]) := by
  obtain ⟨gs, s, rfl, hg⟩ := h
  exact ⟨gs, s, by simp [deckS], hg⟩
theorem DkR.set {n : Nat} {mo : MO} (h : DkR rest st) : DkR (rest.set n mo) (st.set (n + 2) mo) := by
  obtain ⟨gs, s, rfl, hg⟩ := h
  exact ⟨gs, s, by simp [deckS], hg⟩
theorem DkR.dk {n : Nat} (h : DkR rest st) (hn : rest.length + 2 = n) : Dk n st := by
  obtain ⟨gs, s, rfl, hg⟩ := h
  exact ⟨gs, s, rest, rfl, hg, hn⟩
theorem Dk.r {n : Nat} (h : Dk n st) : ∃ rest, DkR rest st ∧ rest.length + 2 = n := by
  obtain ⟨gs, s, rest, e, hg, hr⟩ := h
  exact ⟨rest, ⟨gs, s, e, hg⟩, hr⟩
theorem Dk.r2 (h : Dk 2 st) : DkR [] st := by
  obtain ⟨rest, h, e⟩ := h.r
  cases rest with
  | nil => exact h
  | cons _ _ => simp at e
theorem DkR.close {d : D} (h : DkR rest st) (hd : noCell d = true) (k : ∀ st', Dk 2 st' → Q d st') : W (Px.close 2 d st) Q X := by
  obtain ⟨gs, s, rfl, hg⟩ := h
  unfold Px.close
  have hb : belows 2 (gs.map D.int) = true := belows_no _ (noCells_map fun _ _ => rfl)
  split
  · exact k _ ⟨gs, s, rest, rfl, hg, by simp [deckS] at *; omega⟩
  · rw [frz_id _ _ hd]
    have e : (deckS gs s rest).take 2 = deckS gs s [] := by simp [deckS]
    show W (if ((deckS gs s rest).take 2).all (moBelow 2) = true then _ else _) Q X
    rw [e, if_pos]
    · exact k _ ⟨gs, s, [], rfl, hg, rfl⟩
    · show (belows 2 (gs.map D.int) && (belows 2 [.cell 0, .int s] && true)) = true
      rw [hb]; rfl
theorem draw_R {m c p m2 p2 k : Int} (hk : DkR rest st) (h0 : 0 < k) (h1 : k < 1073741824) (hm : m.natAbs < 2 ^ 64) (hm2 : m2.natAbs < 2 ^ 64) (hp : 0 < p) (hp1 : p < 2 ^ 63) (hp2 : 0 < p2) :
    W (defRun 5 false (drawB m c p m2 p2) [.cell 1, .int k] st) (fun d st' => ∃ r, d = .int r ∧ 0 ≤ r ∧ r < k ∧ DkR rest st') X := by
  obtain ⟨gs, s, rfl, hg⟩ := hk
  refine W_run (ρ0 := [some (.cell 1), some (.int k), none, none, none]) rfl ?_
  have ixg : ∀ {Q : D → Store → Prop} {X : XQ}, W (ixD (.cell 1) (.str "great") (deckS gs s rest)) Q X ↔ Q (.cell 0) (deckS gs s rest) := Iff.rfl
  have ixs : ∀ {Q : D → Store → Prop} {X : XQ}, W (ixD (.cell 1) (.str "seed") (deckS gs s rest)) Q X ↔ Q (.int s) (deckS gs s rest) := Iff.rfl
  have hz : (deckS gs s rest)[0]? = some (.lst (gs.map .int)) := rfl
  have fin : ∀ (gs' : List Int) (s' : Int) (r : Int), gs'.length ≤ 63 → 0 ≤ r → r < k → endsD (deckS gs s rest).length false (fun d st' => ∃ r, d = .int r ∧ 0 ≤ r ∧ r < k ∧ DkR rest st') X (.rt (.int r)) (deckS gs' s' rest) := fun gs' s' r hl a b => by
    rw [endsD_rt, W_close (by simp [deckS])]
    exact ⟨r, rfl, a, b, gs', s', rfl, hl⟩
  have hb1 : ∀ x : Int, 0 ≤ x % k ∧ x % k < k := fun x => ⟨Int.emod_nonneg x (by omega), Int.emod_lt_of_pos x h0⟩
  unfold drawB
  cases gs with
  | nil =>
    have e0 := eqD_nil hz
    simp only [W_seq, W_ifS, W_cmp, W_ix, W_var, W_con, W_lst, W_nilF, W_mkL0, List.getElem?_cons_zero, Option.some.injEq, exists_eq_left', ixg]
    refine ⟨Nat.zero_le _, ?_⟩
    rw [W_ne]
    refine ⟨_, e0, _, rfl, ?_⟩
    simp only [List.isEmpty_nil, Bool.not_true, Bool.false_eq_true, if_false, W_nilS, onNx_nx]
    have hs1 : ((s * m + c) % p).natAbs < 2 ^ 64 := by
      have := Int.emod_nonneg (s * m + c) (show p ≠ 0 by omega)
      have := Int.emod_lt_of_pos (s * m + c) hp
      omega
    have hset : setD (.cell 1) (.str "seed") (.int ((s * m + c) % p)) (deckS [] s rest) = some (deckS [] ((s * m + c) % p) rest) := rfl
    simp [ixs, mulOk_r hm, mulOk_l hm2, mulOk_l hs1, hp, hp2, h0, hset]
    exact fin [] _ _ (by decide) (hb1 _).1 (hb1 _).2
  | cons g gs =>
    have e0 := eqD_nil hz
    simp only [W_seq, W_ifS, W_cmp, W_ix, W_var, W_con, W_lst, W_nilF, W_mkL0, List.getElem?_cons_zero, Option.some.injEq, exists_eq_left', ixg]
    refine ⟨Nat.zero_le _, ?_⟩
    rw [W_ne]
    refine ⟨_, e0, _, rfl, ?_⟩
    simp only [List.isEmpty_cons, Bool.not_false, if_true]
    have hlast : ∃ y : Int, ((g :: gs).map D.int)[((g :: gs).map D.int).length - 1]? = some (.int y) := by
      refine ⟨(g :: gs).getLast (List.cons_ne_nil _ _), ?_⟩
      rw [List.length_map, List.getElem?_map, ← List.getLast?_eq_getElem?, List.getLast?_eq_getLast (List.cons_ne_nil _ _)]
      rfl
    obtain ⟨y, hy⟩ := hlast
    have hl1 : ((g :: gs).dropLast).length ≤ 62 := by rw [List.length_dropLast]; omega
    have hset : (deckS (g :: gs) s rest).set 0 (.lst ((g :: gs).map D.int).dropLast) = deckS (g :: gs).dropLast s rest := by
      show MO.lst ((g :: gs).map D.int).dropLast :: _ = _
      rw [← List.map_dropLast]; rfl
    have hlst : (lstOf (deckS (g :: gs) s rest) (.cell 0)).isSome = true := rfl
    have ixg2 : ∀ {Q : D → Store → Prop} {X : XQ}, W (ixD (.cell 1) (.str "great") (deckS (g :: gs).dropLast s rest)) Q X ↔ Q (.cell 0) (deckS (g :: gs).dropLast s rest) := Iff.rfl
    have hlst2 : (lstOf (deckS (g :: gs).dropLast s rest) (.cell 0)).isSome = true := rfl
    have hz2 : (deckS (g :: gs).dropLast s rest)[0]? = some (.lst ((g :: gs).dropLast.map .int)) := rfl
    simp only [W_seq, W_asg, W_prim, W_consF, W_bm, W_ix, W_var, W_con, W_nilF, List.getElem?_cons_zero, Option.some.injEq, exists_eq_left', ixg, hlst, true_and, W_pop hz hy, hset, W_intI, setT_name, onNx_nx, W_ifS, W_cmp, W_ge, truth_bl, W_exp]
    simp only [List.set_cons_succ, List.set_cons_zero, List.getElem?_cons_succ, List.getElem?_cons_zero, Option.some.injEq, exists_eq_left', W_ge, truth_bl, ixg2, hlst2, true_and, W_fdiv, h0, h1]
    by_cases hge : k ≤ y
    · rw [if_pos (by simpa using hge)]
      have hl3 : ((g :: gs).dropLast.map D.int).length < lim := by rw [List.length_map]; exact Nat.lt_of_le_of_lt hl1 (by decide)
      have hset2 : (deckS (g :: gs).dropLast s rest).set 0 (.lst ((g :: gs).dropLast.map D.int ++ [.int (y / k)])) = deckS ((g :: gs).dropLast ++ [y / k]) s rest := by
        show MO.lst ((g :: gs).dropLast.map D.int ++ [.int (y / k)]) :: _ = _
        simp [deckS]
      simp only [W_fdiv, h0, h1, and_self, true_and, W_append hz2 hl3, hset2, W_nilS, onNx_nx, W_ret, W_bin, W_var, List.getElem?_cons_succ, List.getElem?_cons_zero, Option.some.injEq, exists_eq_left', W_mod, h0, true_and, onNx_rt]
      exact fin ((g :: gs).dropLast ++ [y / k]) s _ (by rw [List.length_append]; exact Nat.succ_le_succ hl1) (hb1 _).1 (hb1 _).2
    · rw [if_neg (by simpa using hge)]
      simp only [W_nilS, onNx_nx, W_ret, W_bin, W_var, List.getElem?_cons_succ, List.getElem?_cons_zero, Option.some.injEq, exists_eq_left', W_mod, h0, true_and, onNx_rt, W_seq]
      exact fin (g :: gs).dropLast s _ (by omega) (hb1 _).1 (hb1 _).2
/-! lists in cells -/
theorem lstC {n : Nat} {xs : List D} (h : st[n]? = some (.lst xs)) : lstOf st (.cell n) = some xs := by
  unfold lstOf; rw [look_at h]; rfl
theorem lenC {n : Nat} {xs : List D} (h : st[n]? = some (.lst xs)) : lenD st (.cell n) = some xs.length := by
  unfold lenD; rw [look_at h]; rfl
theorem W_ixCell {m : Nat} {xs : List D} {k : Int} (h : st[m]? = some (.lst xs)) : W (ixD (.cell m) (.int k) st) Q X ↔ ∃ d, atI xs k = some d ∧ Q d st := by
  have e : ixD (.cell m) (.int k) st = ixD (.lst xs) (.int k) st := by
    unfold ixD
    rw [look_at h]; rfl
  rw [e, W_ixL]
theorem ixN_nat {m k : Nat} (h : k < m) : ixN m (k : Int) = some k := by
  unfold ixN
  simp
  first | omega | (constructor <;> omega) | simp_all
theorem setD_at {n k : Nat} {xs : List D} {v : D} (h : st[n]? = some (.lst xs)) (hk : k < xs.length) : setD (.cell n) (.int (k : Int)) v st = some (st.set n (.lst (xs.set k v))) := by
  unfold setD
  simp only [h]
  rw [ixN_nat hk]; rfl
theorem W_popAt {n k : Nat} {xs : List D} (h : st[n]? = some (.lst xs)) (hk : k < xs.length) (hk2 : k < 100000) : W (bmeth .popAt (.cell n) [.int (k : Int)] st) Q X ↔ Q xs[k] (st.set n (.lst (xs.eraseIdx k))) := by
  have e : seqIndex? (k : Int) xs.length = some k := by
    unfold seqIndex?
    simp; omega
  have e3 : (decide (-(2 ^ 63) ≤ (k : Int)) && decide ((k : Int) < 2 ^ 63)) = true := by
    rw [Bool.and_eq_true]; exact ⟨decide_eq_true (by omega), decide_eq_true (by omega)⟩
  have e2 : bmeth .popAt (.cell n) [.int (k : Int)] st = .ok xs[k] (st.set n (.lst (xs.eraseIdx k))) := by
    unfold bmeth
    simp only [h, e, List.getElem?_eq_getElem hk]
    rw [if_pos e3]
  rw [e2]; exact Iff.rfl
theorem W_tupleAt {n : Nat} {xs : List D} (h : st[n]? = some (.lst xs)) : W (primD mu .tuple [.cell n] st) Q X ↔ xs.length ≤ lim ∧ Q (.tup xs) st := W_tupleC h
/-! numbers so great -/
def isN (b : Nat) : D → Bool
  | .int i => decide (i.natAbs < 2 ^ b)
  | _ => false
theorem isN_ok {b : Nat} {d : D} (h : isN b d = true) : ∃ i : Int, d = .int i ∧ i.natAbs < 2 ^ b := by
  cases d with
  | int i => exact ⟨i, rfl, of_decide_eq_true h⟩
  | _ => cases h
theorem isN_int {b : Nat} {i : Int} (h : i.natAbs < 2 ^ b) : isN b (.int i) = true := decide_eq_true h
theorem isN_mono {b c : Nat} {d : D} (h : isN b d = true) (hc : b ≤ c) : isN c d = true := by
  obtain ⟨i, rfl, hi⟩ := isN_ok h
  exact isN_int (Nat.lt_of_lt_of_le hi (Nat.pow_le_pow_right (by decide) hc))
theorem row_of {b : Nat} : ∀ {xs : List D}, (∀ x ∈ xs, isN b x = true) → ∃ r : Nat → Int, (∀ j, (r j).natAbs < 2 ^ b) ∧ xs = rowD xs.length r
  | [], _ => ⟨fun _ => 0, fun _ => Nat.two_pow_pos _, rfl⟩
  | x :: xs, h => by
    obtain ⟨i, rfl, hi⟩ := isN_ok (h x List.mem_cons_self)
    obtain ⟨r, h1, h2⟩ := row_of (xs := xs) fun y hy => h y (List.mem_cons_of_mem _ hy)
    refine ⟨fun j => match j with | 0 => i | j + 1 => r j, fun j => ?_, ?_⟩
    · cases j with
      | zero => exact hi
      | succ j => exact h1 j
    · rw [List.length_cons, rowD_succ]
      exact congrArg _ h2
theorem tab_of {b w : Nat} : ∀ {xs : List D}, (∀ x ∈ xs, ∃ r : Nat → Int, (∀ j, (r j).natAbs < 2 ^ b) ∧ x = vecD w r) → ∃ f : Tn, bdT b f ∧ xs = (List.range xs.length).map fun i => vecD w (f i)
  | [], _ => ⟨fun _ _ => 0, fun _ _ => Nat.two_pow_pos _, rfl⟩
  | x :: xs, h => by
    obtain ⟨r, hr, rfl⟩ := h x List.mem_cons_self
    obtain ⟨f, h1, h2⟩ := tab_of (xs := xs) fun y hy => h y (List.mem_cons_of_mem _ hy)
    refine ⟨fun i => match i with | 0 => r | i + 1 => f i, fun i => ?_, ?_⟩
    · cases i with
      | zero => exact hr
      | succ i => exact h1 i
    · rw [List.length_cons, rowsD_succ]
      exact congrArg _ h2
/-- a row of small numbers -/
def RowN (b w : Nat) (d : D) : Prop := ∃ xs : List D, d = .tup xs ∧ xs.length = w ∧ ∀ x ∈ xs, isN b x = true
theorem rows_tab {b n w : Nat} {xs : List D} (hl : xs.length = n) (h : ∀ x ∈ xs, RowN b w x) : ∃ f : Tn, .tup xs = tabD n w f ∧ bdT b f := by
  obtain ⟨f, h1, h2⟩ := tab_of (b := b) (w := w) (xs := xs) fun x hx => by
    obtain ⟨ys, rfl, hl, hs⟩ := h x hx
    obtain ⟨r, hr, e⟩ := row_of hs
    exact ⟨r, hr, by rw [e, hl]; rfl⟩
  exact ⟨f, by rw [hl] at h2; rw [h2]; rfl, h1⟩
theorem set_isN {b k : Nat} {xs : List D} {v : D} (h : ∀ x ∈ xs, isN b x = true) (hv : isN b v = true) : ∀ x ∈ xs.set k v, isN b x = true := fun x hx => by
  rcases List.mem_or_eq_of_mem_set hx with q | q
  · exact h x q
  · rw [q]; exact hv
/-- [a] + [0] * n -/
theorem zeros {n : Nat} : (List.replicate n [D.int 0]).flatten = List.replicate n (D.int 0) := by simp
theorem row0 {b n : Nat} {a : Int} (ha : a.natAbs < 2 ^ b) : ∀ x ∈ [D.int a] ++ List.replicate n (D.int 0), isN b x = true := fun x hx => by
  rcases List.mem_append.mp hx with q | q
  · rw [List.mem_singleton.mp q]; exact isN_int ha
  · rw [List.eq_of_mem_replicate q]; exact isN_int (Nat.two_pow_pos _)
theorem W_row0 {n : Nat} (hn : n ≤ 1000) : W (binD 0 .Mult (.lst [.int 0]) (.int (n : Int)) st) Q X ↔ Q (.lst (List.replicate n (D.int 0))) st := by
  have hL := limV'
  rw [W_mulL (by omega) (by simp; omega) (by omega), W_mkL0]
  simp only [Int.toNat_natCast, zeros, List.length_replicate]
  exact ⟨fun h => h.2, fun h => ⟨by omega, h⟩⟩
end
end Px

namespace K08
open PySem PySem.Spec PyProof.Rows L2 Px
def top (i : Nat) : Stmt := PySem.Challenge.pw_everwithin_k08_courses_beside_powers.main.body.getD i (.Pass ⟨0, 0, 0, 0⟩)
def clsBody (s : Stmt) (j : Nat) : Stmt := match s with | .ClassDef _ _ _ b _ _ _ _ _ _ _ => b.getD j (.Pass ⟨0, 0, 0, 0⟩) | s => s
abbrev sturn_number : Stmt := top 21
abbrev s_law_shared : Stmt := top 35
abbrev s_law_turn : Stmt := top 36
abbrev s_law_draw : Stmt := top 27
abbrev s_law_pick : Stmt := top 28
abbrev s_law_chain : Stmt := top 33
abbrev s_law_companion : Stmt := top 32
abbrev s_law_signs : Stmt := top 31
abbrev s_law_made : Stmt := top 34
abbrev sproduct : Stmt := top 12
abbrev sstill_table : Stmt := top 11
abbrev spower_of : Stmt := top 13
abbrev sis_integer : Stmt := top 7
abbrev sis_form : Stmt := top 8
abbrev sStep_init : Stmt := clsBody (top 24) 0
abbrev stable_of : Stmt := top 22
abbrev sStep_power : Stmt := clsBody (top 24) 7
abbrev sStep_eq : Stmt := clsBody (top 24) 4
abbrev scourse_of : Stmt := top 23
abbrev sStep_course : Stmt := clsBody (top 24) 8
abbrev s_law_joined : Stmt := top 29
abbrev s_law_found : Stmt := top 30
abbrev s_law_right : Stmt := top 37
abbrev s_law_deck : Stmt := top 26
abbrev slaw : Stmt := top 38
abbrev ns : List Str := ["SumError", "BadStep", "NotBack", "Unlike", "Step"]
abbrev oc : List Str := ["Step"]
/-! what each def computes -/
noncomputable def bturn_number : FS :=
(seqF (retF (ixF (conF (.tup [(.int (1)), (.int (2)), (.int (12)), (.int (12)), (.int (120))])) (varD 0)))
nilS)
noncomputable def Fturn_number : Fn := ⟨["count"], List.replicate 1 none, [(0, ["count"]), (1, [])], defRun 1 false bturn_number⟩
noncomputable def b_law_shared : FS :=
(seqF (retF (maxLF (consF (compF 0 [2] (.name 2) (rngF (consF (conF (.int 1)) (consF (binF 0 .Add (primF 0 .max2 (consF (varD 0) (consF (varD 1) nilF))) (conF (.int 1))) nilF))) (andF (cmpF .Eq (binF 0 .Mod (varD 0) (varD 2)) (conF (.int 0))) (cmpF .Eq (binF 0 .Mod (varD 1) (varD 2)) (conF (.int 0)))) (varD 2)) nilF)))
nilS)
noncomputable def F_law_shared : Fn := ⟨["_law_one", "_law_two"], List.replicate 2 none, [(2, [])], defRun 3 false b_law_shared⟩
noncomputable def b_law_turn : FS :=
(seqF (asgF (.name 1) (conF (.int 1)))
(seqF (forF (.name 2) (rngF (consF (conF (.int 1)) (consF (conF (.int 31)) nilF)))
(seqF (asgF (.name 3) (primF 0 .len (consF (compF 0 [4] (.name 4) (rngF (consF (conF (.int 1)) (consF (binF 0 .Add (varD 2) (conF (.int 1))) nilF))) (cmpF .Eq (callF F_law_shared (consF (varD 4) (consF (varD 2) nilF)) [] nilF) (conF (.int 1))) (varD 4)) nilF)))
(seqF (ifS (cmpF .LtE (varD 3) (varD 0))
(seqF (asgF (.name 1) (binF 0 .FloorDiv (binF 0 .Mult (varD 1) (varD 2)) (callF F_law_shared (consF (varD 1) (consF (varD 2) nilF)) [] nilF)))
nilS)
nilS)
nilS)))
(seqF (retF (varD 1))
nilS)))
noncomputable def F_law_turn : Fn := ⟨["_law_size"], List.replicate 1 none, [(1, [])], defRun 5 false b_law_turn⟩
noncomputable def b_law_draw : FS :=
(seqF (ifS (cmpF .NotEq (ixF (varD 0) (conF (.str "great"))) (lstF 0 nilF))
(seqF (asgF (.name 2) (primF 0 .int (consF (bmF .pop (ixF (varD 0) (conF (.str "great"))) nilF) nilF)))
(seqF (ifS (cmpF .GtE (varD 2) (varD 1))
(seqF (expF (bmF .append (ixF (varD 0) (conF (.str "great"))) (consF (binF 0 .FloorDiv (varD 2) (varD 1)) nilF)))
nilS)
nilS)
(seqF (retF (binF 0 .Mod (varD 2) (varD 1)))
nilS)))
nilS)
(seqF (asgF (.name 3) (binF 0 .Mod (primF 0 .int (consF (binF 0 .Add (binF 0 .Mult (ixF (varD 0) (conF (.str "seed"))) (conF (.int 69621))) (conF (.int 41))) nilF)) (conF (.int 2147483587))))
(seqF (setIF (varD 0) (conF (.str "seed")) (varD 3))
(seqF (asgF (.name 4) (binF 0 .Mod (primF 0 .int (consF (binF 0 .Add (binF 0 .Add (binF 0 .Mult (varD 3) (varD 3)) (binF 0 .Mult (conF (.int 16807)) (varD 3))) (conF (.int 41))) nilF)) (conF (.int 2147483563))))
(seqF (retF (binF 0 .Mod (binF 0 .FloorDiv (varD 4) (conF (.int 64))) (varD 1)))
nilS)))))
noncomputable def F_law_draw : Fn := ⟨["_law_deck_here", "_law_many"], List.replicate 2 none, [(2, [])], defRun 5 false b_law_draw⟩
noncomputable def b_law_pick : FS :=
(seqF (retF (ixF (varD 1) (callF F_law_draw (consF (varD 0) (consF (primF 0 .len (consF (varD 1) nilF)) nilF)) [] nilF)))
nilS)
noncomputable def F_law_pick : Fn := ⟨["_law_deck_here", "_law_some"], List.replicate 2 none, [(2, [])], defRun 2 false b_law_pick⟩
noncomputable def b_law_chain : FS :=
(seqF (asgF (.name 2) (lstF 1 nilF))
(seqF (forF (.name 3) (rngF (consF (varD 1) nilF))
(seqF (asgF (.name 4) (binF 1 .Add (lstF 0 (consF (binF 0 .Sub (callF F_law_draw (consF (varD 0) (consF (conF (.int 5)) nilF)) [] nilF) (conF (.int 2))) nilF)) (binF 0 .Mult (lstF 0 (consF (conF (.int 0)) nilF)) (varD 1))))
(seqF (ifS (cmpF .Lt (varD 3) (binF 0 .Sub (varD 1) (conF (.int 1))))
(seqF (setIF (varD 4) (binF 0 .Add (varD 3) (conF (.int 2))) (callF F_law_pick (consF (varD 0) (consF (lstF 0 (consF (conF (.int 1)) (consF (conF (.int 1)) (consF (negF (conF (.int 1))) (consF (conF (.int 2)) (consF (conF (.int 0)) nilF)))))) nilF)) [] nilF))
nilS)
(seqF (setIF (varD 4) (binF 0 .Add (varD 3) (conF (.int 1))) (callF F_law_pick (consF (varD 0) (consF (lstF 0 (consF (conF (.int 0)) (consF (conF (.int 0)) (consF (negF (conF (.int 1))) nilF)))) nilF)) [] nilF))
nilS))
(seqF (expF (bmF .append (varD 2) (consF (primF 0 .tuple (consF (varD 4) nilF)) nilF)))
nilS))))
(seqF (retF (primF 0 .tuple (consF (varD 2) nilF)))
nilS)))
noncomputable def F_law_chain : Fn := ⟨["_law_deck_here", "_law_size"], List.replicate 2 none, [(2, [])], defRun 5 false b_law_chain⟩
noncomputable def b_law_companion : FS :=
(seqF (asgF (.name 1) (lstF 0 (consF (tupF (consF (negF (conF (.int 1))) (consF (negF (conF (.int 1))) nilF))) (consF (tupF (consF (negF (conF (.int 1))) (consF (conF (.int 0)) nilF))) (consF (tupF (consF (negF (conF (.int 1))) (consF (conF (.int 1)) nilF))) (consF (tupF (consF (negF (conF (.int 1))) (consF (negF (conF (.int 1))) (consF (negF (conF (.int 1))) (consF (negF (conF (.int 1))) nilF))))) (consF (tupF (consF (negF (conF (.int 1))) (consF (conF (.int 0)) (consF (conF (.int 0)) (consF (conF (.int 0)) nilF))))) (consF (tupF (consF (negF (conF (.int 1))) (consF (conF (.int 1)) (consF (negF (conF (.int 1))) (consF (conF (.int 1)) nilF))))) (consF (tupF (consF (negF (conF (.int 1))) (consF (conF (.int 0)) (consF (conF (.int 1)) (consF (conF (.int 0)) nilF))))) nilF)))))))))
(seqF (parF 2 3 (consF (callF F_law_pick (consF (varD 0) (consF (varD 1) nilF)) [] nilF) (consF (lstF 1 nilF) nilF)))
(seqF (asgF (.name 4) (binF 0 .Add (primF 0 .len (consF (varD 2) nilF)) (primF 0 .int (consF (andF (cmpF .Eq (primF 0 .len (consF (varD 2) nilF)) (conF (.int 2))) (cmpF .Eq (callF F_law_draw (consF (varD 0) (consF (conF (.int 2)) nilF)) [] nilF) (conF (.int 0)))) nilF))))
(seqF (forF (.name 5) (rngF (consF (primF 0 .len (consF (varD 2) nilF)) nilF))
(seqF (asgF (.name 6) (binF 1 .Add (lstF 0 (consF (binF 0 .Sub (callF F_law_draw (consF (varD 0) (consF (conF (.int 7)) nilF)) [] nilF) (conF (.int 3))) nilF)) (binF 0 .Mult (lstF 0 (consF (conF (.int 0)) nilF)) (varD 4))))
(seqF (ifS (cmpF .Gt (varD 5) (conF (.int 0)))
(seqF (setIF (varD 6) (varD 5) (conF (.int 1)))
nilS)
nilS)
(seqF (setIF (varD 6) (primF 0 .len (consF (varD 2) nilF)) (binF 0 .Add (ixF (varD 6) (primF 0 .len (consF (varD 2) nilF))) (ixF (varD 2) (varD 5))))
(seqF (expF (bmF .append (varD 3) (consF (primF 0 .tuple (consF (varD 6) nilF)) nilF)))
nilS)))))
(seqF (ifS (cmpF .Eq (varD 4) (conF (.int 3)))
(seqF (expF (bmF .append (varD 3) (consF (tupF (consF (callF F_law_draw (consF (varD 0) (consF (conF (.int 5)) nilF)) [] nilF) (consF (conF (.int 1)) (consF (callF F_law_draw (consF (varD 0) (consF (conF (.int 3)) nilF)) [] nilF) (consF (callF F_law_pick (consF (varD 0) (consF (lstF 0 (consF (conF (.int 0)) (consF (conF (.int 0)) (consF (negF (conF (.int 1))) (consF (conF (.int 1)) nilF))))) nilF)) [] nilF) nilF))))) nilF)))
nilS)
nilS)
(seqF (retF (primF 0 .tuple (consF (varD 3) nilF)))
nilS))))))
noncomputable def F_law_companion : Fn := ⟨["_law_deck_here"], List.replicate 1 none, [(1, [])], defRun 7 false b_law_companion⟩
noncomputable def b_law_signs : FS :=
(seqF (parF 2 3 (consF (lrgF 1 (varD 1)) (consF (lstF 1 nilF) nilF)))
(seqF (forF (.name 4) (rngF (consF (varD 1) nilF))
(seqF (asgF (.name 5) (binF 1 .Add (lstF 0 (consF (binF 0 .Sub (callF F_law_draw (consF (varD 0) (consF (conF (.int 9)) nilF)) [] nilF) (conF (.int 4))) nilF)) (binF 0 .Mult (lstF 0 (consF (conF (.int 0)) nilF)) (varD 1))))
(seqF (setIF (varD 5) (binF 0 .Add (conF (.int 1)) (bmF .popAt (varD 2) (consF (callF F_law_draw (consF (varD 0) (consF (primF 0 .len (consF (varD 2) nilF)) nilF)) [] nilF) nilF))) (callF F_law_pick (consF (varD 0) (consF (lstF 0 (consF (conF (.int 1)) (consF (negF (conF (.int 1))) nilF))) nilF)) [] nilF))
(seqF (expF (bmF .append (varD 3) (consF (primF 0 .tuple (consF (varD 5) nilF)) nilF)))
nilS))))
(seqF (retF (primF 0 .tuple (consF (varD 3) nilF)))
nilS)))
noncomputable def F_law_signs : Fn := ⟨["_law_deck_here", "_law_size"], List.replicate 2 none, [(2, [])], defRun 6 false b_law_signs⟩
noncomputable def b_law_made : FS :=
(seqF (parF 1 2 (consF (binF 0 .Add (conF (.int 1)) (callF F_law_draw (consF (varD 0) (consF (conF (.int 4)) nilF)) [] nilF)) (consF (callF F_law_draw (consF (varD 0) (consF (conF (.int 5)) nilF)) [] nilF) nilF)))
(seqF (ifS (cmpF .Eq (varD 2) (conF (.int 0)))
(seqF (retF (callF F_law_signs (consF (varD 0) (consF (varD 1) nilF)) [] nilF))
nilS)
nilS)
(seqF (ifS (cmpF .Eq (varD 2) (conF (.int 1)))
(seqF (retF (callF F_law_companion (consF (varD 0) nilF) [] nilF))
nilS)
nilS)
(seqF (ifS (cmpF .Eq (varD 2) (conF (.int 2)))
(seqF (retF (callF F_law_chain (consF (varD 0) (consF (varD 1) nilF)) [] nilF))
nilS)
nilS)
(seqF (asgF (.name 3) (lstF 1 nilF))
(seqF (forF (.name 4) (rngF (consF (varD 1) nilF))
(seqF (asgF (.name 5) (compF 0 [6] (.name 6) (rngF (consF (binF 0 .Add (varD 1) (conF (.int 1))) nilF)) (fun _ st => .ok (.bl true) st) (callF F_law_pick (consF (varD 0) (consF (lstF 0 (consF (conF (.int 0)) (consF (conF (.int 0)) (consF (conF (.int 1)) (consF (negF (conF (.int 1))) nilF))))) nilF)) [] nilF)))
(seqF (ifS (cmpF .Eq (varD 2) (conF (.int 3)))
(seqF (asgF (.name 5) (binF 0 .Add (binF 0 .Add (binF 0 .Add (slcF 0 (varD 5) noF (partF (conF (.int 1)))) (binF 0 .Mult (lstF 0 (consF (conF (.int 0)) nilF)) (varD 4))) (lstF 0 (consF (callF F_law_pick (consF (varD 0) (consF (lstF 0 (consF (conF (.int 1)) (consF (negF (conF (.int 1))) (consF (conF (.int 0)) nilF)))) nilF)) [] nilF) nilF))) (slcF 0 (varD 5) (partF (binF 0 .Add (varD 4) (conF (.int 2)))) noF)))
nilS)
nilS)
(seqF (expF (bmF .append (varD 3) (consF (primF 0 .tuple (consF (varD 5) nilF)) nilF)))
nilS))))
(seqF (retF (primF 0 .tuple (consF (varD 3) nilF)))
nilS)))))))
noncomputable def F_law_made : Fn := ⟨["_law_deck_here"], List.replicate 1 none, [(1, [])], defRun 7 false b_law_made⟩
noncomputable def bproduct : FS :=
(seqF (asgF (.name 3) (lstF 1 nilF))
(seqF (forF (.name 4) (walkF (varD 0))
(seqF (asgF (.name 5) (lzF 0 (consF (varD 4) (consF (varD 1) nilF))))
(seqF (expF (bmF .append (varD 3) (consF (primF 0 .tuple (consF (compF 0 [6] (.name 6) (rngF (consF (varD 2) nilF)) (fun _ st => .ok (.bl true) st) (primF 0 .sum (consF (compF 0 [7, 8] (.tup [(.name 7), (.name 8)]) (walkF (varD 5)) (fun _ st => .ok (.bl true) st) (binF 0 .Mult (varD 7) (ixF (varD 8) (varD 6)))) nilF))) nilF)) nilF)))
nilS)))
(seqF (retF (primF 0 .tuple (consF (varD 3) nilF)))
nilS)))
noncomputable def Fproduct : Fn := ⟨["later", "earlier", "width"], List.replicate 3 none, [(3, [])], defRun 9 false bproduct⟩
noncomputable def bstill_table : FS :=
(seqF (retF (primF 0 .tuple (consF (compF 0 [1] (.name 1) (rngF (consF (varD 0) nilF)) (fun _ st => .ok (.bl true) st) (primF 0 .tuple (consF (compF 0 [2] (.name 2) (rngF (consF (varD 0) nilF)) (fun _ st => .ok (.bl true) st) (primF 0 .int (consF (cmpF .Eq (varD 1) (varD 2)) nilF))) nilF))) nilF)))
nilS)
noncomputable def Fstill_table : Fn := ⟨["width"], List.replicate 1 none, [(1, [])], defRun 3 false bstill_table⟩
noncomputable def bpower_of : FS :=
(seqF (asgF (.name 2) (primF 0 .len (consF (varD 0) nilF)))
(seqF (par3F 3 4 5 (consF (callF Fstill_table (consF (varD 2) nilF) [] nilF) (consF (varD 0) (consF (varD 1) nilF))))
(seqF (whileLoop (cmpF .Gt (varD 5) (conF (.int 0))) (seqF (ifS (cmpF .Eq (binF 0 .Mod (varD 5) (conF (.int 2))) (conF (.int 1)))
(seqF (asgF (.name 3) (callF Fproduct (consF (varD 4) (consF (varD 3) (consF (varD 2) nilF))) [] nilF))
nilS)
nilS)
(seqF (parF 4 5 (consF (callF Fproduct (consF (varD 4) (consF (varD 4) (consF (varD 2) nilF))) [] nilF) (consF (binF 0 .FloorDiv (varD 5) (conF (.int 2))) nilF)))
nilS)) 300)
(seqF (retF (varD 3))
nilS))))
noncomputable def Fpower_of : Fn := ⟨["table", "exponent"], List.replicate 2 none, [(2, [])], defRun 6 false bpower_of⟩
noncomputable def bis_integer : FS :=
(seqF (retF (andF (isinF "int" (varD 0)) (notF (isinF "bool" (varD 0)))))
nilS)
noncomputable def Fis_integer : Fn := ⟨["thing"], List.replicate 1 none, [(1, [])], defRun 1 false bis_integer⟩
noncomputable def bis_form : FS :=
(seqF (retF (andF (isinF "tuple" (varD 1)) (andF (cmpF .Eq (primF 0 .len (consF (varD 1) nilF)) (binF 0 .Add (varD 0) (conF (.int 1)))) (primF 0 .all (consF (compF 0 [2] (.name 2) (walkF (varD 1)) (fun _ st => .ok (.bl true) st) (callF Fis_integer (consF (varD 2) nilF) [] nilF)) nilF)))))
nilS)
noncomputable def Fis_form : Fn := ⟨["count", "thing"], List.replicate 2 none, [(2, [])], defRun 3 false bis_form⟩
noncomputable def bStep_init : FS :=
(seqF (ifS (orF (notF (isinF "tuple" (varD 1))) (notF (chainF .Lt .LtE (conF (.int 0)) (primF 0 .len (consF (varD 1) nilF)) (conF (.int (4))))))
(seqF badS
nilS)
nilS)
(seqF (forF (.name 2) (walkF (varD 1))
(seqF (ifS (notF (callF Fis_form (consF (primF 0 .len (consF (varD 1) nilF)) (consF (varD 2) nilF)) [] nilF))
(seqF badS
nilS)
nilS)
nilS))
(seqF (setAF "Step" "forms" (varD 0) (varD 1))
nilS)))
noncomputable def FStep_init : Fn := ⟨["self", "forms"], List.replicate 2 none, [(2, [])], defRun 3 false bStep_init⟩
noncomputable def btable_of : FS :=
(seqF (retF (binF 0 .Add (tupF (consF (binF 0 .Add (tupF (consF (conF (.int 1)) nilF)) (binF 0 .Mult (tupF (consF (conF (.int 0)) nilF)) (primF 0 .len (consF (varD 0) nilF)))) nilF)) (varD 0)))
nilS)
noncomputable def Ftable_of : Fn := ⟨["forms"], List.replicate 1 none, [(1, [])], defRun 1 false btable_of⟩
noncomputable def bStep_power : FS :=
(seqF (asgF (.name 2) (callF Ftable_of (consF (attrF "Step" "forms" (varD 0)) nilF) [] nilF))
(seqF (ifS (cmpF .Lt (varD 1) (conF (.int 0)))
(seqF (asgF (.name 2) badF)
nilS)
nilS)
(seqF (ifS (cmpF .Is (varD 2) (conF .non))
(seqF badS
nilS)
nilS)
(seqF (retF (mkF "Step" true FStep_init (consF (slcF 0 (callF Fpower_of (consF (varD 2) (consF (primF 0 .abs (consF (varD 1) nilF)) nilF)) [] nilF) (partF (conF (.int 1))) noF) nilF) [] nilF))
nilS))))
noncomputable def FStep_power : Fn := ⟨["self", "exponent"], List.replicate 2 none, [(2, [])], defRun 3 false bStep_power⟩
noncomputable def bStep_eq : FS :=
(seqF (retF (andF (isinC oc "Step" (varD 1)) (cmpF .Eq (attrF "Step" "forms" (varD 0)) (attrF "Step" "forms" (varD 1)))))
nilS)
noncomputable def FStep_eq : Fn := ⟨["self", "other"], List.replicate 2 none, [(2, [])], defRun 2 false bStep_eq⟩
noncomputable def bcourse_of : FS :=
(seqF (asgF (.name 2) (conF (.int 0)))
(seqF (whileLoop (neOF oc "Step" FStep_eq (methF "Step" "power" FStep_power (varD 0) (consF (binF 0 .Add (varD 2) (varD 1)) nilF) [] nilF) (methF "Step" "power" FStep_power (varD 0) (consF (varD 2) nilF) [] nilF)) (seqF (augF 2 false (conF (.int 1)))
nilS) 300)
(seqF (asgF (.name 3) (conF (.int 1)))
(seqF (whileLoop (neOF oc "Step" FStep_eq (methF "Step" "power" FStep_power (varD 0) (consF (binF 0 .Add (varD 2) (varD 3)) nilF) [] nilF) (methF "Step" "power" FStep_power (varD 0) (consF (varD 2) nilF) [] nilF)) (seqF (augF 3 false (conF (.int 1)))
nilS) 300)
(seqF (retF (tupF (consF (varD 2) (consF (varD 3) nilF))))
nilS)))))
noncomputable def Fcourse_of : Fn := ⟨["step", "turn"], List.replicate 2 none, [(2, [])], defRun 4 false bcourse_of⟩
noncomputable def bStep_course : FS :=
(seqF (asgF (.name 1) (primF 0 .len (consF (attrF "Step" "forms" (varD 0)) nilF)))
(seqF (asgF (.name 2) (callF Fturn_number (consF (varD 1) nilF) [] nilF))
(seqF (ifS (neOF oc "Step" FStep_eq (methF "Step" "power" FStep_power (varD 0) (consF (binF 0 .Add (binF 0 .Add (varD 1) (conF (.int 1))) (varD 2)) nilF) [] nilF) (methF "Step" "power" FStep_power (varD 0) (consF (binF 0 .Add (varD 1) (conF (.int 1))) nilF) [] nilF))
(seqF (retF (conF .non))
nilS)
nilS)
(seqF (retF (callF Fcourse_of (consF (varD 0) (consF (varD 2) nilF)) [] nilF))
nilS))))
noncomputable def FStep_course : Fn := ⟨["self"], List.replicate 1 none, [(1, [])], defRun 3 false bStep_course⟩
noncomputable def b_law_joined : FS :=
(seqF (asgF (.name 2) (lstF 1 nilF))
(seqF (forF (.name 3) (walkF (varD 1))
(seqF (asgF (.name 4) (binF 0 .Add (lstF 0 (consF (ixF (varD 3) (conF (.int 0))) nilF)) (binF 0 .Mult (lstF 0 (consF (conF (.int 0)) nilF)) (primF 0 .len (consF (varD 0) nilF)))))
(seqF (forF (.name 5) (rngF (consF (primF 0 .len (consF (varD 0) nilF)) nilF))
(seqF (asgF (.name 4) (compF 0 [6] (.name 6) (rngF (consF (binF 0 .Add (primF 0 .len (consF (varD 0) nilF)) (conF (.int 1))) nilF)) (fun _ st => .ok (.bl true) st) (binF 0 .Add (ixF (varD 4) (varD 6)) (binF 0 .Mult (ixF (varD 3) (binF 0 .Add (varD 5) (conF (.int 1)))) (ixF (ixF (varD 0) (varD 5)) (varD 6))))))
nilS))
(seqF (expF (bmF .append (varD 2) (consF (primF 0 .tuple (consF (varD 4) nilF)) nilF)))
nilS))))
(seqF (retF (primF 0 .tuple (consF (varD 2) nilF)))
nilS)))
noncomputable def F_law_joined : Fn := ⟨["_law_first", "_law_second"], List.replicate 2 none, [(2, [])], defRun 7 false b_law_joined⟩
noncomputable def b_law_found : FS :=
(seqF (asgF (.name 1) (primF 0 .len (consF (varD 0) nilF)))
(seqF (parF 2 3 (consF (primF 0 .tuple (consF (compF 0 [4] (.name 4) (rngF (consF (varD 1) nilF)) (fun _ st => .ok (.bl true) st) (binF 0 .Add (binF 0 .Add (binF 0 .Mult (tupF (consF (conF (.int 0)) nilF)) (binF 0 .Add (varD 4) (conF (.int 1)))) (tupF (consF (conF (.int 1)) nilF))) (binF 0 .Mult (tupF (consF (conF (.int 0)) nilF)) (binF 0 .Sub (binF 0 .Sub (varD 1) (conF (.int 1))) (varD 4))))) nilF)) (consF dn0F nilF)))
(seqF (forF (.name 5) (rngF (consF (binF 0 .Add (binF 0 .Add (varD 1) (conF (.int 2))) (ixF (dctF 0 [.inl 1, .inl 2, .inl 3, .inl 4] (consF (conF (.int 2)) (consF (conF (.int 12)) (consF (conF (.int 12)) (consF (conF (.int 120)) nilF))))) (varD 1))) nilF))
(seqF (ifS (dnInF false (varD 2) (varD 3))
(seqF (retF (tupF (consF (dnIxF (varD 3) (varD 2)) (consF (binF 0 .Sub (varD 5) (dnIxF (varD 3) (varD 2))) nilF))))
nilS)
nilS)
(seqF (dnSetF (varD 3) (varD 2) (varD 5))
(seqF (asgF (.name 2) (callF F_law_joined (consF (varD 2) (consF (varD 0) nilF)) [] nilF))
nilS))))
(seqF (retF (conF .non))
nilS))))
noncomputable def F_law_found : Fn := ⟨["_law_made_here"], List.replicate 1 none, [(1, [])], defRun 6 false b_law_found⟩
noncomputable def b_law_right : FS :=
(seqF (par3F 1 2 3 (consF (mkF "Step" true FStep_init (consF (varD 0) nilF) [] nilF) (consF (callF F_law_found (consF (varD 0) nilF) [] nilF) (consF (primF 0 .len (consF (varD 0) nilF)) nilF))))
(seqF (ifS (orF (cmpF .NotEq (primF 0 .repr (consF (lstF 0 (consF (propF "Step" "course" FStep_course (varD 1)) (consF (propF "Step" "course" FStep_course (varD 1)) nilF))) nilF)) (primF 0 .repr (consF (lstF 0 (consF (varD 2) (consF (varD 2) nilF))) nilF))) (cmpF .NotEq (primF 0 .repr (consF (attrF "Step" "forms" (varD 1)) nilF)) (primF 0 .repr (consF (varD 0) nilF))))
(seqF (retF (conF (.bl false)))
nilS)
nilS)
(seqF (asgF (.name 4) (binF 0 .Add (binF 0 .Add (varD 3) (conF (.int 1))) (callF Fturn_number (consF (varD 3) nilF) [] nilF)))
(seqF (ifS (cmpF .NotEq (eqOF oc "Step" FStep_eq (methF "Step" "power" FStep_power (varD 1) (consF (varD 4) nilF) [] nilF) (methF "Step" "power" FStep_power (varD 1) (consF (binF 0 .Add (varD 3) (conF (.int 1))) nilF) [] nilF)) (cmpF .IsNot (varD 2) (conF .non)))
(seqF (retF (conF (.bl false)))
nilS)
nilS)
(seqF (retF (orF (cmpF .Is (varD 2) (conF .non)) (eqOF oc "Step" FStep_eq (methF "Step" "power" FStep_power (varD 1) (consF (binF 0 .Add (ixF (varD 2) (conF (.int 0))) (ixF (varD 2) (conF (.int 1)))) nilF) [] nilF) (methF "Step" "power" FStep_power (varD 1) (consF (ixF (varD 2) (conF (.int 0))) nilF) [] nilF))))
nilS)))))
noncomputable def F_law_right : Fn := ⟨["_law_made_here"], List.replicate 1 none, [(1, [])], defRun 5 false b_law_right⟩
noncomputable def b_law_deck : FS :=
(seqF (asgF (.name 1) (conF (.int 99080057)))
(seqF (forF (.name 2) (walkF (slcF 0 (varD 0) noF (partF (conF (.int 63)))))
(seqF (asgF (.name 1) (binF 0 .Mod (primF 0 .int (consF (binF 0 .Add (binF 0 .Add (binF 0 .Mult (varD 1) (conF (.int 16807))) (binF 0 .Mod (primF 0 .int (consF (varD 2) nilF)) (conF (.int 2147483629)))) (conF (.int 41))) nilF)) (conF (.int 2147483587))))
nilS))
(seqF (retF (dctF 1 [.inr "great", .inr "seed"] (consF (revF 1 (compF 0 [2] (.name 2) (walkF (slcF 0 (varD 0) noF (partF (conF (.int 63))))) (cmpF .GtE (varD 2) (binF 0 .Pow (conF (.int 10)) (conF (.int 18)))) (varD 2))) (consF (varD 1) nilF))))
nilS)))
noncomputable def F_law_deck : Fn := ⟨["_law_script"], List.replicate 1 none, [(1, [])], defRun 3 true b_law_deck⟩
noncomputable def blaw : FS :=
(seqF (asgF (.name 1) (callF F_law_deck (consF (varD 0) nilF) [] nilF))
(seqF (forF (.name 2) (rngF (consF (conF (.int 6)) nilF))
(seqF (ifS (notF (callF F_law_right (consF (callF F_law_made (consF (varD 1) nilF) [] nilF) nilF) [] nilF))
(seqF (retF (conF (.bl false)))
nilS)
nilS)
nilS))
(seqF (forF (.name 3) (rngF (consF (conF (.int 1)) (consF (conF (.int 5)) nilF)))
(seqF (ifS (cmpF .NotEq (primF 0 .repr (consF (lstF 0 (consF (callF Fturn_number (consF (varD 3) nilF) [] nilF) (consF (callF Fturn_number nilF ["count"] (consF (varD 3) nilF)) nilF))) nilF)) (primF 0 .repr (consF (binF 0 .Mult (lstF 0 (consF (callF F_law_turn (consF (varD 3) nilF) [] nilF) nilF)) (conF (.int 2))) nilF)))
(seqF (retF (conF (.bl false)))
nilS)
nilS)
nilS))
(seqF (retF (conF (.bl true)))
nilS))))
noncomputable def Flaw : Fn := ⟨["_law_script"], List.replicate 1 none, [(1, [])], defRun 4 false blaw⟩
@[simp] theorem bdturn_number_0 {w0 : D} : Fturn_number.bind [] ["count"] [w0] = some [w0] := rfl
@[simp] theorem bdturn_number_1 {u0 : D} : Fturn_number.bind [u0] [] [] = some [u0] := rfl
theorem rnturn_number {ds : List D} {st : Store} : Fturn_number.run ds st = defRun 1 false bturn_number ds st := rfl
@[simp] theorem bd_law_shared_0 {u0 u1 : D} : F_law_shared.bind [u0, u1] [] [] = some [u0, u1] := rfl
theorem rn_law_shared {ds : List D} {st : Store} : F_law_shared.run ds st = defRun 3 false b_law_shared ds st := rfl
@[simp] theorem bd_law_turn_0 {u0 : D} : F_law_turn.bind [u0] [] [] = some [u0] := rfl
theorem rn_law_turn {ds : List D} {st : Store} : F_law_turn.run ds st = defRun 5 false b_law_turn ds st := rfl
@[simp] theorem bd_law_draw_0 {u0 u1 : D} : F_law_draw.bind [u0, u1] [] [] = some [u0, u1] := rfl
theorem rn_law_draw {ds : List D} {st : Store} : F_law_draw.run ds st = defRun 5 false b_law_draw ds st := rfl
@[simp] theorem bd_law_pick_0 {u0 u1 : D} : F_law_pick.bind [u0, u1] [] [] = some [u0, u1] := rfl
theorem rn_law_pick {ds : List D} {st : Store} : F_law_pick.run ds st = defRun 2 false b_law_pick ds st := rfl
@[simp] theorem bd_law_chain_0 {u0 u1 : D} : F_law_chain.bind [u0, u1] [] [] = some [u0, u1] := rfl
theorem rn_law_chain {ds : List D} {st : Store} : F_law_chain.run ds st = defRun 5 false b_law_chain ds st := rfl
@[simp] theorem bd_law_companion_0 {u0 : D} : F_law_companion.bind [u0] [] [] = some [u0] := rfl
theorem rn_law_companion {ds : List D} {st : Store} : F_law_companion.run ds st = defRun 7 false b_law_companion ds st := rfl
@[simp] theorem bd_law_signs_0 {u0 u1 : D} : F_law_signs.bind [u0, u1] [] [] = some [u0, u1] := rfl
theorem rn_law_signs {ds : List D} {st : Store} : F_law_signs.run ds st = defRun 6 false b_law_signs ds st := rfl
@[simp] theorem bd_law_made_0 {u0 : D} : F_law_made.bind [u0] [] [] = some [u0] := rfl
theorem rn_law_made {ds : List D} {st : Store} : F_law_made.run ds st = defRun 7 false b_law_made ds st := rfl
@[simp] theorem bdproduct_0 {u0 u1 u2 : D} : Fproduct.bind [u0, u1, u2] [] [] = some [u0, u1, u2] := rfl
theorem rnproduct {ds : List D} {st : Store} : Fproduct.run ds st = defRun 9 false bproduct ds st := rfl
@[simp] theorem bdstill_table_0 {u0 : D} : Fstill_table.bind [u0] [] [] = some [u0] := rfl
theorem rnstill_table {ds : List D} {st : Store} : Fstill_table.run ds st = defRun 3 false bstill_table ds st := rfl
@[simp] theorem bdpower_of_0 {u0 u1 : D} : Fpower_of.bind [u0, u1] [] [] = some [u0, u1] := rfl
theorem rnpower_of {ds : List D} {st : Store} : Fpower_of.run ds st = defRun 6 false bpower_of ds st := rfl
@[simp] theorem bdis_integer_0 {u0 : D} : Fis_integer.bind [u0] [] [] = some [u0] := rfl
theorem rnis_integer {ds : List D} {st : Store} : Fis_integer.run ds st = defRun 1 false bis_integer ds st := rfl
@[simp] theorem bdis_form_0 {u0 u1 : D} : Fis_form.bind [u0, u1] [] [] = some [u0, u1] := rfl
theorem rnis_form {ds : List D} {st : Store} : Fis_form.run ds st = defRun 3 false bis_form ds st := rfl
@[simp] theorem bdStep_init_0 {u0 u1 : D} : FStep_init.bind [u0, u1] [] [] = some [u0, u1] := rfl
theorem rnStep_init {ds : List D} {st : Store} : FStep_init.run ds st = defRun 3 false bStep_init ds st := rfl
@[simp] theorem bdtable_of_0 {u0 : D} : Ftable_of.bind [u0] [] [] = some [u0] := rfl
theorem rntable_of {ds : List D} {st : Store} : Ftable_of.run ds st = defRun 1 false btable_of ds st := rfl
@[simp] theorem bdStep_power_0 {u0 u1 : D} : FStep_power.bind [u0, u1] [] [] = some [u0, u1] := rfl
theorem rnStep_power {ds : List D} {st : Store} : FStep_power.run ds st = defRun 3 false bStep_power ds st := rfl
@[simp] theorem bdStep_eq_0 {u0 u1 : D} : FStep_eq.bind [u0, u1] [] [] = some [u0, u1] := rfl
theorem rnStep_eq {ds : List D} {st : Store} : FStep_eq.run ds st = defRun 2 false bStep_eq ds st := rfl
@[simp] theorem bdcourse_of_0 {u0 u1 : D} : Fcourse_of.bind [u0, u1] [] [] = some [u0, u1] := rfl
theorem rncourse_of {ds : List D} {st : Store} : Fcourse_of.run ds st = defRun 4 false bcourse_of ds st := rfl
@[simp] theorem bdStep_course_0 {u0 : D} : FStep_course.bind [u0] [] [] = some [u0] := rfl
theorem rnStep_course {ds : List D} {st : Store} : FStep_course.run ds st = defRun 3 false bStep_course ds st := rfl
@[simp] theorem bd_law_joined_0 {u0 u1 : D} : F_law_joined.bind [u0, u1] [] [] = some [u0, u1] := rfl
theorem rn_law_joined {ds : List D} {st : Store} : F_law_joined.run ds st = defRun 7 false b_law_joined ds st := rfl
@[simp] theorem bd_law_found_0 {u0 : D} : F_law_found.bind [u0] [] [] = some [u0] := rfl
theorem rn_law_found {ds : List D} {st : Store} : F_law_found.run ds st = defRun 6 false b_law_found ds st := rfl
@[simp] theorem bd_law_right_0 {u0 : D} : F_law_right.bind [u0] [] [] = some [u0] := rfl
theorem rn_law_right {ds : List D} {st : Store} : F_law_right.run ds st = defRun 5 false b_law_right ds st := rfl
@[simp] theorem bd_law_deck_0 {u0 : D} : F_law_deck.bind [u0] [] [] = some [u0] := rfl
theorem rn_law_deck {ds : List D} {st : Store} : F_law_deck.run ds st = defRun 3 true b_law_deck ds st := rfl
@[simp] theorem bdlaw_0 {u0 : D} : Flaw.bind [u0] [] [] = some [u0] := rfl
theorem rnlaw {ds : List D} {st : Store} : Flaw.run ds st = defRun 4 false blaw ds st := rfl
/-! what stands at the top -/
def fa : List He.Fa := [.free "range", .free "repr", .free "len", .free "max", .free "tuple", .free "int", .free "list", .free "abs", .free "sum", .free "zip", .free "isinstance", .free "all", .free "bool", .glo "turn_number", .glo "_law_turn", .glo "_law_made", .glo "_law_right", .glo "_law_deck", .glo "_law_shared", .glo "_law_pick", .glo "_law_chain", .glo "_law_companion", .glo "_law_signs", .glo "_law_draw", .glo "_law_found", .glo "Step", .glo "power_of", .glo "table_of", .glo "product", .glo "still_table", .glo "is_form", .glo "is_integer", .glo "course_of", .glo "_law_joined", .glo "law"]
def cs : List (Str × D) := [("TURN_NUMBERS", (.tup [(.int (1)), (.int (2)), (.int (12)), (.int (12)), (.int (120))])), ("MOST_REGISTERS", (.int (4)))]
def dn : List DefQ := [dG sturn_number "turn_number", dG s_law_shared "_law_shared", dG s_law_turn "_law_turn", dG s_law_draw "_law_draw", dG s_law_pick "_law_pick", dG s_law_chain "_law_chain", dG s_law_companion "_law_companion", dG s_law_signs "_law_signs", dG s_law_made "_law_made", dG sproduct "product", dG sstill_table "still_table", dG spower_of "power_of", dG sis_integer "is_integer", dG sis_form "is_form", dM "Step" "__init__" "Step.__init__" sStep_init, dG stable_of "table_of", dM "Step" "power" "Step.power" sStep_power, dM "Step" "__eq__" "Step.__eq__" sStep_eq, dG scourse_of "course_of", dP "Step" "course" "Step.course" sStep_course, dG s_law_joined "_law_joined", dG s_law_found "_law_found", dG s_law_right "_law_right", dG s_law_deck "_law_deck", dG slaw "law"]
def xs : List (PySem.W.Frag → Bool) := [clsB "Step", meB "Step" "power", eqB "Step", noB "Step" "forms", prB "Step" "course", mkB "Step", fun K => oc.all fun c => clsB c K, twoB oc]
section
variable {P : Program} {w : World} {K : PySem.W.Frag} {mg : Str → Option Value} {base : Heap}
theorem ocs (T : TpQ fa dn cs xs (Kc.mk K (cmOf ns K)) mg base) : Ocs (Kc.mk K (cmOf ns K)) oc := ocs_of (by decide) (T.chk 6) (T.chk 7)
theorem scturn_number : FnScope ["count"] ["count"] (defScope sturn_number) := ⟨rfl, rfl, rfl, by decide +kernel, rfl, by decide +kernel, by decide +kernel⟩
abbrev adturn_number : PySem.W.Frag → Addr := (dG sturn_number "turn_number").ad
theorem okturn_number (hP1 : P.main.file = "/claim/cut.py") (hP2 : (P.main.scope.names.lookup ("super" : Str)).isSome = false) (T : TpQ fa dn cs xs (Kc.mk K (cmOf ns K)) mg base) : ∃ fd, Has K (adturn_number K) fd ∧ FnD P w (Kc.mk K (cmOf ns K)) mg base 1 (adturn_number K) fd Fturn_number := by
  exact fnd_q (C := (Kc.mk K (cmOf ns K))) (d := dG sturn_number "turn_number") T 0 rfl (S := scturn_number) (hsh := (show ShAll2 "turn_number" "turn_number" sturn_number _ _ from ⟨fun kV doc pm an cdv ct us ws hu hw => (match us, hu, ws, hw with | [], _, [w0], _ => ⟨[w0], rfl, rfl⟩), ⟨fun kV doc pm an cdv ct us ws hu hw => (match us, hu, ws, hw with | [u0], _, [], _ => ⟨[u0], rfl, rfl⟩), True.intro⟩⟩)) (hl := by decide) (hb2 := fun cdv A outer s H E hX hp => show SSs _ _ _ bturn_number _ from
(ss_cons (s_ret (q_ix hX (q_glob (T.cst 0)) (q_var 0)))
ss_nil))
theorem sc_law_shared : FnScope ["_law_one", "_law_two", "_law_k"] ["_law_one", "_law_two"] (defScope s_law_shared) := ⟨rfl, rfl, rfl, by decide +kernel, rfl, by decide +kernel, by decide +kernel⟩
abbrev ad_law_shared : PySem.W.Frag → Addr := (dG s_law_shared "_law_shared").ad
theorem ok_law_shared (hP1 : P.main.file = "/claim/cut.py") (hP2 : (P.main.scope.names.lookup ("super" : Str)).isSome = false) (T : TpQ fa dn cs xs (Kc.mk K (cmOf ns K)) mg base) : ∃ fd, Has K (ad_law_shared K) fd ∧ FnD P w (Kc.mk K (cmOf ns K)) mg base 1 (ad_law_shared K) fd F_law_shared := by
  exact fnd_q (C := (Kc.mk K (cmOf ns K))) (d := dG s_law_shared "_law_shared") T 1 rfl (S := sc_law_shared) (hsh := (show ShAll2 "_law_shared" "_law_shared" s_law_shared _ _ from ⟨fun kV doc pm an cdv ct us ws hu hw => (match us, hu, ws, hw with | [u0, u1], _, [], _ => ⟨[u0, u1], rfl, rfl⟩), True.intro⟩)) (hl := by decide) (hb2 := fun cdv A outer s H E hX hp => show SSs _ _ _ b_law_shared _ from
(ss_cons (s_ret (q_maxL hX (T.free 3) (a_cons (q_comp (own := [("_law_k", 2)]) hX (i_rng2 (T.free 0) (a_cons q_int (a_cons (q_bin hX (q_prim (ps_max2 hX 0) (T.free 3) (a_cons (q_var 0) (a_cons (q_var 1) sa_nil))) q_int) sa_nil)) (.cons (.cons .nil))) (fun s H A cl fp hX => (g_name 2 hX)) (fun s H A cl fp hX => (ts_one (t_w (w_and (t_cmp hX (q_bin hX (q_var 0) (q_var 2)) q_int) (w_and1 (t_cmp hX (q_bin hX (q_var 1) (q_var 2)) q_int)))))) (fun s H A cl fp hX => (q_var 2))) sa_nil)))
ss_nil))
theorem sc_law_turn : FnScope ["_law_size", "_law_found_here", "_law_order", "_law_needed", "_law_k"] ["_law_size"] (defScope s_law_turn) := ⟨rfl, rfl, rfl, by decide +kernel, rfl, by decide +kernel, by decide +kernel⟩
abbrev ad_law_turn : PySem.W.Frag → Addr := (dG s_law_turn "_law_turn").ad
theorem ok_law_turn (hP1 : P.main.file = "/claim/cut.py") (hP2 : (P.main.scope.names.lookup ("super" : Str)).isSome = false) (T : TpQ fa dn cs xs (Kc.mk K (cmOf ns K)) mg base) : ∃ fd, Has K (ad_law_turn K) fd ∧ FnD P w (Kc.mk K (cmOf ns K)) mg base 2 (ad_law_turn K) fd F_law_turn := by
  obtain ⟨_, _, c_law_shared⟩ := ok_law_shared (P := P) (w := w) hP1 hP2 T
  have c_law_shared := c_law_shared.mono (show 1 ≤ 1 by decide)
  exact fnd_q (C := (Kc.mk K (cmOf ns K))) (d := dG s_law_turn "_law_turn") T 2 rfl (S := sc_law_turn) (hsh := (show ShAll2 "_law_turn" "_law_turn" s_law_turn _ _ from ⟨fun kV doc pm an cdv ct us ws hu hw => (match us, hu, ws, hw with | [u0], _, [], _ => ⟨[u0], rfl, rfl⟩), True.intro⟩)) (hl := by decide) (hb2 := fun cdv A outer s H E hX hp => show SSs _ _ _ b_law_turn _ from
(ss_cons (s_asg q_int (g_name 1 hX))
(ss_cons (s_for hX hp (i_rng2 (T.free 0) (a_cons q_int (a_cons q_int sa_nil)) (.cons (.cons .nil))) (g_name 2 hX)
(ss_cons (s_asg (q_prim (ps_len hX 0) (T.free 2) (a_cons (q_comp (own := [("_law_k", 4)]) hX (i_rng2 (T.free 0) (a_cons q_int (a_cons (q_bin hX (q_var 2) q_int) sa_nil)) (.cons (.cons .nil))) (fun s H A cl fp hX => (g_name 4 hX)) (fun s H A cl fp hX => (ts_one (t_cmp hX (q_call hX c_law_shared (T.glo 18) (a_cons (q_var 4) (a_cons (q_var 2) sa_nil)) sk_nil) q_int))) (fun s H A cl fp hX => (q_var 4))) sa_nil)) (g_name 3 hX))
(ss_cons (ss_if (t_cmp hX (q_var 3) (q_var 0))
(ss_cons (s_asg (q_bin hX (q_bin hX (q_var 1) (q_var 2)) (q_call hX c_law_shared (T.glo 18) (a_cons (q_var 1) (a_cons (q_var 2) sa_nil)) sk_nil)) (g_name 1 hX))
ss_nil)
ss_nil)
ss_nil)))
(ss_cons (s_ret (q_var 1))
ss_nil))))
theorem sc_law_draw : FnScope ["_law_deck_here", "_law_many", "_law_cell", "_law_seed", "_law_mixed"] ["_law_deck_here", "_law_many"] (defScope s_law_draw) := ⟨rfl, rfl, rfl, by decide +kernel, rfl, by decide +kernel, by decide +kernel⟩
abbrev ad_law_draw : PySem.W.Frag → Addr := (dG s_law_draw "_law_draw").ad
theorem ok_law_draw (hP1 : P.main.file = "/claim/cut.py") (hP2 : (P.main.scope.names.lookup ("super" : Str)).isSome = false) (T : TpQ fa dn cs xs (Kc.mk K (cmOf ns K)) mg base) : ∃ fd, Has K (ad_law_draw K) fd ∧ FnD P w (Kc.mk K (cmOf ns K)) mg base 1 (ad_law_draw K) fd F_law_draw := by
  exact fnd_q (C := (Kc.mk K (cmOf ns K))) (d := dG s_law_draw "_law_draw") T 3 rfl (S := sc_law_draw) (hsh := (show ShAll2 "_law_draw" "_law_draw" s_law_draw _ _ from ⟨fun kV doc pm an cdv ct us ws hu hw => (match us, hu, ws, hw with | [u0, u1], _, [], _ => ⟨[u0, u1], rfl, rfl⟩), True.intro⟩)) (hl := by decide) (hb2 := fun cdv A outer s H E hX hp => show SSs _ _ _ b_law_draw _ from
(ss_cons (ss_if (t_cmp hX (q_ix hX (q_var 0) q_str) (q_lst sa_nil))
(ss_cons (s_asg (q_prim (ps_int 0) (T.free 5) (a_cons (q_pop hX (q_ix hX (q_var 0) q_str)) sa_nil)) (g_name 2 hX))
(ss_cons (ss_if (t_cmp hX (q_var 2) (q_var 1))
(ss_cons (s_exp (q_bm hX (q_ix hX (q_var 0) q_str) (a_cons (q_bin hX (q_var 2) (q_var 1)) sa_nil)))
ss_nil)
ss_nil)
(ss_cons (s_ret (q_bin hX (q_var 2) (q_var 1)))
ss_nil)))
ss_nil)
(ss_cons (s_asg (q_bin hX (q_prim (ps_int 0) (T.free 5) (a_cons (q_bin hX (q_bin hX (q_ix hX (q_var 0) q_str) q_int) q_int) sa_nil)) q_int) (g_name 3 hX))
(ss_cons (s_setI hX (q_var 0) q_str (q_var 3))
(ss_cons (s_asg (q_bin hX (q_prim (ps_int 0) (T.free 5) (a_cons (q_bin hX (q_bin hX (q_bin hX (q_var 3) (q_var 3)) (q_bin hX q_int (q_var 3))) q_int) sa_nil)) q_int) (g_name 4 hX))
(ss_cons (s_ret (q_bin hX (q_bin hX (q_var 4) q_int) (q_var 1)))
ss_nil))))))
theorem sc_law_pick : FnScope ["_law_deck_here", "_law_some"] ["_law_deck_here", "_law_some"] (defScope s_law_pick) := ⟨rfl, rfl, rfl, by decide +kernel, rfl, by decide +kernel, by decide +kernel⟩
abbrev ad_law_pick : PySem.W.Frag → Addr := (dG s_law_pick "_law_pick").ad
theorem ok_law_pick (hP1 : P.main.file = "/claim/cut.py") (hP2 : (P.main.scope.names.lookup ("super" : Str)).isSome = false) (T : TpQ fa dn cs xs (Kc.mk K (cmOf ns K)) mg base) : ∃ fd, Has K (ad_law_pick K) fd ∧ FnD P w (Kc.mk K (cmOf ns K)) mg base 2 (ad_law_pick K) fd F_law_pick := by
  obtain ⟨_, _, c_law_draw⟩ := ok_law_draw (P := P) (w := w) hP1 hP2 T
  have c_law_draw := c_law_draw.mono (show 1 ≤ 1 by decide)
  exact fnd_q (C := (Kc.mk K (cmOf ns K))) (d := dG s_law_pick "_law_pick") T 4 rfl (S := sc_law_pick) (hsh := (show ShAll2 "_law_pick" "_law_pick" s_law_pick _ _ from ⟨fun kV doc pm an cdv ct us ws hu hw => (match us, hu, ws, hw with | [u0, u1], _, [], _ => ⟨[u0, u1], rfl, rfl⟩), True.intro⟩)) (hl := by decide) (hb2 := fun cdv A outer s H E hX hp => show SSs _ _ _ b_law_pick _ from
(ss_cons (s_ret (q_ix hX (q_var 1) (q_call hX c_law_draw (T.glo 23) (a_cons (q_var 0) (a_cons (q_prim (ps_len hX 0) (T.free 2) (a_cons (q_var 1) sa_nil)) sa_nil)) sk_nil)))
ss_nil))
theorem sc_law_chain : FnScope ["_law_deck_here", "_law_size", "_law_found_here", "_law_k", "_law_row"] ["_law_deck_here", "_law_size"] (defScope s_law_chain) := ⟨rfl, rfl, rfl, by decide +kernel, rfl, by decide +kernel, by decide +kernel⟩
abbrev ad_law_chain : PySem.W.Frag → Addr := (dG s_law_chain "_law_chain").ad
theorem ok_law_chain (hP1 : P.main.file = "/claim/cut.py") (hP2 : (P.main.scope.names.lookup ("super" : Str)).isSome = false) (T : TpQ fa dn cs xs (Kc.mk K (cmOf ns K)) mg base) : ∃ fd, Has K (ad_law_chain K) fd ∧ FnD P w (Kc.mk K (cmOf ns K)) mg base 3 (ad_law_chain K) fd F_law_chain := by
  obtain ⟨_, _, c_law_pick⟩ := ok_law_pick (P := P) (w := w) hP1 hP2 T
  obtain ⟨_, _, c_law_draw⟩ := ok_law_draw (P := P) (w := w) hP1 hP2 T
  have c_law_pick := c_law_pick.mono (show 2 ≤ 2 by decide)
  have c_law_draw := c_law_draw.mono (show 1 ≤ 2 by decide)
  exact fnd_q (C := (Kc.mk K (cmOf ns K))) (d := dG s_law_chain "_law_chain") T 5 rfl (S := sc_law_chain) (hsh := (show ShAll2 "_law_chain" "_law_chain" s_law_chain _ _ from ⟨fun kV doc pm an cdv ct us ws hu hw => (match us, hu, ws, hw with | [u0, u1], _, [], _ => ⟨[u0, u1], rfl, rfl⟩), True.intro⟩)) (hl := by decide) (hb2 := fun cdv A outer s H E hX hp => show SSs _ _ _ b_law_chain _ from
(ss_cons (s_asg (q_lst sa_nil) (g_name 2 hX))
(ss_cons (s_for hX hp (i_rng1 (T.free 0) (a_cons (q_var 1) sa_nil) (.cons .nil)) (g_name 3 hX)
(ss_cons (s_asg (q_bin hX (q_lst (a_cons (q_bin hX (q_call hX c_law_draw (T.glo 23) (a_cons (q_var 0) (a_cons q_int sa_nil)) sk_nil) q_int) sa_nil)) (q_bin hX (q_lst (a_cons q_int sa_nil)) (q_var 1))) (g_name 4 hX))
(ss_cons (ss_if (t_cmp hX (q_var 3) (q_bin hX (q_var 1) q_int))
(ss_cons (s_setI hX (q_var 4) (q_bin hX (q_var 3) q_int) (q_call hX c_law_pick (T.glo 19) (a_cons (q_var 0) (a_cons (q_lst (a_cons q_int (a_cons q_int (a_cons (q_neg q_int) (a_cons q_int (a_cons q_int sa_nil)))))) sa_nil)) sk_nil))
ss_nil)
(ss_cons (s_setI hX (q_var 4) (q_bin hX (q_var 3) q_int) (q_call hX c_law_pick (T.glo 19) (a_cons (q_var 0) (a_cons (q_lst (a_cons q_int (a_cons q_int (a_cons (q_neg q_int) sa_nil)))) sa_nil)) sk_nil))
ss_nil))
(ss_cons (s_exp (q_bm hX (q_var 2) (a_cons (q_prim (ps_tuple hX 0) (T.free 4) (a_cons (q_var 4) sa_nil)) sa_nil)))
ss_nil))))
(ss_cons (s_ret (q_prim (ps_tuple hX 0) (T.free 4) (a_cons (q_var 2) sa_nil)))
ss_nil))))
theorem sc_law_companion : FnScope ["_law_deck_here", "_law_tails", "_law_tail", "_law_found_here", "_law_size", "_law_k", "_law_row"] ["_law_deck_here"] (defScope s_law_companion) := ⟨rfl, rfl, rfl, by decide +kernel, rfl, by decide +kernel, by decide +kernel⟩
abbrev ad_law_companion : PySem.W.Frag → Addr := (dG s_law_companion "_law_companion").ad
theorem ok_law_companion (hP1 : P.main.file = "/claim/cut.py") (hP2 : (P.main.scope.names.lookup ("super" : Str)).isSome = false) (T : TpQ fa dn cs xs (Kc.mk K (cmOf ns K)) mg base) : ∃ fd, Has K (ad_law_companion K) fd ∧ FnD P w (Kc.mk K (cmOf ns K)) mg base 3 (ad_law_companion K) fd F_law_companion := by
  obtain ⟨_, _, c_law_pick⟩ := ok_law_pick (P := P) (w := w) hP1 hP2 T
  obtain ⟨_, _, c_law_draw⟩ := ok_law_draw (P := P) (w := w) hP1 hP2 T
  have c_law_pick := c_law_pick.mono (show 2 ≤ 2 by decide)
  have c_law_draw := c_law_draw.mono (show 1 ≤ 2 by decide)
  exact fnd_q (C := (Kc.mk K (cmOf ns K))) (d := dG s_law_companion "_law_companion") T 6 rfl (S := sc_law_companion) (hsh := (show ShAll2 "_law_companion" "_law_companion" s_law_companion _ _ from ⟨fun kV doc pm an cdv ct us ws hu hw => (match us, hu, ws, hw with | [u0], _, [], _ => ⟨[u0], rfl, rfl⟩), True.intro⟩)) (hl := by decide) (hb2 := fun cdv A outer s H E hX hp => show SSs _ _ _ b_law_companion _ from
(ss_cons (s_asg (q_lst (a_cons (q_tup (a_cons (q_neg q_int) (a_cons (q_neg q_int) sa_nil))) (a_cons (q_tup (a_cons (q_neg q_int) (a_cons q_int sa_nil))) (a_cons (q_tup (a_cons (q_neg q_int) (a_cons q_int sa_nil))) (a_cons (q_tup (a_cons (q_neg q_int) (a_cons (q_neg q_int) (a_cons (q_neg q_int) (a_cons (q_neg q_int) sa_nil))))) (a_cons (q_tup (a_cons (q_neg q_int) (a_cons q_int (a_cons q_int (a_cons q_int sa_nil))))) (a_cons (q_tup (a_cons (q_neg q_int) (a_cons q_int (a_cons (q_neg q_int) (a_cons q_int sa_nil))))) (a_cons (q_tup (a_cons (q_neg q_int) (a_cons q_int (a_cons q_int (a_cons q_int sa_nil))))) sa_nil)))))))) (g_name 1 hX))
(ss_cons (s_par (i := 2) (j := 3) hX (a_cons (q_call hX c_law_pick (T.glo 19) (a_cons (q_var 0) (a_cons (q_var 1) sa_nil)) sk_nil) (a_cons (q_lst sa_nil) sa_nil)))
(ss_cons (s_asg (q_bin hX (q_prim (ps_len hX 0) (T.free 2) (a_cons (q_var 2) sa_nil)) (q_prim (ps_int 0) (T.free 5) (a_cons (q_and hX (q_cmp hX (q_prim (ps_len hX 0) (T.free 2) (a_cons (q_var 2) sa_nil)) q_int) (q_and1 (q_cmp hX (q_call hX c_law_draw (T.glo 23) (a_cons (q_var 0) (a_cons q_int sa_nil)) sk_nil) q_int))) sa_nil))) (g_name 4 hX))
(ss_cons (s_for hX hp (i_rng1 (T.free 0) (a_cons (q_prim (ps_len hX 0) (T.free 2) (a_cons (q_var 2) sa_nil)) sa_nil) (.cons .nil)) (g_name 5 hX)
(ss_cons (s_asg (q_bin hX (q_lst (a_cons (q_bin hX (q_call hX c_law_draw (T.glo 23) (a_cons (q_var 0) (a_cons q_int sa_nil)) sk_nil) q_int) sa_nil)) (q_bin hX (q_lst (a_cons q_int sa_nil)) (q_var 4))) (g_name 6 hX))
(ss_cons (ss_if (t_cmp hX (q_var 5) q_int)
(ss_cons (s_setI hX (q_var 6) (q_var 5) q_int)
ss_nil)
ss_nil)
(ss_cons (s_setI hX (q_var 6) (q_prim (ps_len hX 0) (T.free 2) (a_cons (q_var 2) sa_nil)) (q_bin hX (q_ix hX (q_var 6) (q_prim (ps_len hX 0) (T.free 2) (a_cons (q_var 2) sa_nil))) (q_ix hX (q_var 2) (q_var 5))))
(ss_cons (s_exp (q_bm hX (q_var 3) (a_cons (q_prim (ps_tuple hX 0) (T.free 4) (a_cons (q_var 6) sa_nil)) sa_nil)))
ss_nil)))))
(ss_cons (ss_if (t_cmp hX (q_var 4) q_int)
(ss_cons (s_exp (q_bm hX (q_var 3) (a_cons (q_tup (a_cons (q_call hX c_law_draw (T.glo 23) (a_cons (q_var 0) (a_cons q_int sa_nil)) sk_nil) (a_cons q_int (a_cons (q_call hX c_law_draw (T.glo 23) (a_cons (q_var 0) (a_cons q_int sa_nil)) sk_nil) (a_cons (q_call hX c_law_pick (T.glo 19) (a_cons (q_var 0) (a_cons (q_lst (a_cons q_int (a_cons q_int (a_cons (q_neg q_int) (a_cons q_int sa_nil))))) sa_nil)) sk_nil) sa_nil))))) sa_nil)))
ss_nil)
ss_nil)
(ss_cons (s_ret (q_prim (ps_tuple hX 0) (T.free 4) (a_cons (q_var 3) sa_nil)))
ss_nil)))))))
theorem sc_law_signs : FnScope ["_law_deck_here", "_law_size", "_law_left", "_law_found_here", "_law_k", "_law_row"] ["_law_deck_here", "_law_size"] (defScope s_law_signs) := ⟨rfl, rfl, rfl, by decide +kernel, rfl, by decide +kernel, by decide +kernel⟩
abbrev ad_law_signs : PySem.W.Frag → Addr := (dG s_law_signs "_law_signs").ad
theorem ok_law_signs (hP1 : P.main.file = "/claim/cut.py") (hP2 : (P.main.scope.names.lookup ("super" : Str)).isSome = false) (T : TpQ fa dn cs xs (Kc.mk K (cmOf ns K)) mg base) : ∃ fd, Has K (ad_law_signs K) fd ∧ FnD P w (Kc.mk K (cmOf ns K)) mg base 3 (ad_law_signs K) fd F_law_signs := by
  obtain ⟨_, _, c_law_draw⟩ := ok_law_draw (P := P) (w := w) hP1 hP2 T
  obtain ⟨_, _, c_law_pick⟩ := ok_law_pick (P := P) (w := w) hP1 hP2 T
  have c_law_draw := c_law_draw.mono (show 1 ≤ 2 by decide)
  have c_law_pick := c_law_pick.mono (show 2 ≤ 2 by decide)
  exact fnd_q (C := (Kc.mk K (cmOf ns K))) (d := dG s_law_signs "_law_signs") T 7 rfl (S := sc_law_signs) (hsh := (show ShAll2 "_law_signs" "_law_signs" s_law_signs _ _ from ⟨fun kV doc pm an cdv ct us ws hu hw => (match us, hu, ws, hw with | [u0, u1], _, [], _ => ⟨[u0, u1], rfl, rfl⟩), True.intro⟩)) (hl := by decide) (hb2 := fun cdv A outer s H E hX hp => show SSs _ _ _ b_law_signs _ from
(ss_cons (s_par (i := 2) (j := 3) hX (a_cons (q_lrg hX (T.free 6) (T.free 0) (q_var 1)) (a_cons (q_lst sa_nil) sa_nil)))
(ss_cons (s_for hX hp (i_rng1 (T.free 0) (a_cons (q_var 1) sa_nil) (.cons .nil)) (g_name 4 hX)
(ss_cons (s_asg (q_bin hX (q_lst (a_cons (q_bin hX (q_call hX c_law_draw (T.glo 23) (a_cons (q_var 0) (a_cons q_int sa_nil)) sk_nil) q_int) sa_nil)) (q_bin hX (q_lst (a_cons q_int sa_nil)) (q_var 1))) (g_name 5 hX))
(ss_cons (s_setI hX (q_var 5) (q_bin hX q_int (q_bm hX (q_var 2) (a_cons (q_call hX c_law_draw (T.glo 23) (a_cons (q_var 0) (a_cons (q_prim (ps_len hX 0) (T.free 2) (a_cons (q_var 2) sa_nil)) sa_nil)) sk_nil) sa_nil))) (q_call hX c_law_pick (T.glo 19) (a_cons (q_var 0) (a_cons (q_lst (a_cons q_int (a_cons (q_neg q_int) sa_nil))) sa_nil)) sk_nil))
(ss_cons (s_exp (q_bm hX (q_var 3) (a_cons (q_prim (ps_tuple hX 0) (T.free 4) (a_cons (q_var 5) sa_nil)) sa_nil)))
ss_nil))))
(ss_cons (s_ret (q_prim (ps_tuple hX 0) (T.free 4) (a_cons (q_var 3) sa_nil)))
ss_nil))))
theorem sc_law_made : FnScope ["_law_deck_here", "_law_size", "_law_way", "_law_found_here", "_law_k", "_law_row", "_law_j"] ["_law_deck_here"] (defScope s_law_made) := ⟨rfl, rfl, rfl, by decide +kernel, rfl, by decide +kernel, by decide +kernel⟩
abbrev ad_law_made : PySem.W.Frag → Addr := (dG s_law_made "_law_made").ad
theorem ok_law_made (hP1 : P.main.file = "/claim/cut.py") (hP2 : (P.main.scope.names.lookup ("super" : Str)).isSome = false) (T : TpQ fa dn cs xs (Kc.mk K (cmOf ns K)) mg base) : ∃ fd, Has K (ad_law_made K) fd ∧ FnD P w (Kc.mk K (cmOf ns K)) mg base 4 (ad_law_made K) fd F_law_made := by
  obtain ⟨_, _, c_law_pick⟩ := ok_law_pick (P := P) (w := w) hP1 hP2 T
  obtain ⟨_, _, c_law_chain⟩ := ok_law_chain (P := P) (w := w) hP1 hP2 T
  obtain ⟨_, _, c_law_companion⟩ := ok_law_companion (P := P) (w := w) hP1 hP2 T
  obtain ⟨_, _, c_law_signs⟩ := ok_law_signs (P := P) (w := w) hP1 hP2 T
  obtain ⟨_, _, c_law_draw⟩ := ok_law_draw (P := P) (w := w) hP1 hP2 T
  have c_law_pick := c_law_pick.mono (show 2 ≤ 3 by decide)
  have c_law_chain := c_law_chain.mono (show 3 ≤ 3 by decide)
  have c_law_companion := c_law_companion.mono (show 3 ≤ 3 by decide)
  have c_law_signs := c_law_signs.mono (show 3 ≤ 3 by decide)
  have c_law_draw := c_law_draw.mono (show 1 ≤ 3 by decide)
  exact fnd_q (C := (Kc.mk K (cmOf ns K))) (d := dG s_law_made "_law_made") T 8 rfl (S := sc_law_made) (hsh := (show ShAll2 "_law_made" "_law_made" s_law_made _ _ from ⟨fun kV doc pm an cdv ct us ws hu hw => (match us, hu, ws, hw with | [u0], _, [], _ => ⟨[u0], rfl, rfl⟩), True.intro⟩)) (hl := by decide) (hb2 := fun cdv A outer s H E hX hp => show SSs _ _ _ b_law_made _ from
(ss_cons (s_par (i := 1) (j := 2) hX (a_cons (q_bin hX q_int (q_call hX c_law_draw (T.glo 23) (a_cons (q_var 0) (a_cons q_int sa_nil)) sk_nil)) (a_cons (q_call hX c_law_draw (T.glo 23) (a_cons (q_var 0) (a_cons q_int sa_nil)) sk_nil) sa_nil)))
(ss_cons (ss_if (t_cmp hX (q_var 2) q_int)
(ss_cons (s_ret (q_call hX c_law_signs (T.glo 22) (a_cons (q_var 0) (a_cons (q_var 1) sa_nil)) sk_nil))
ss_nil)
ss_nil)
(ss_cons (ss_if (t_cmp hX (q_var 2) q_int)
(ss_cons (s_ret (q_call hX c_law_companion (T.glo 21) (a_cons (q_var 0) sa_nil) sk_nil))
ss_nil)
ss_nil)
(ss_cons (ss_if (t_cmp hX (q_var 2) q_int)
(ss_cons (s_ret (q_call hX c_law_chain (T.glo 20) (a_cons (q_var 0) (a_cons (q_var 1) sa_nil)) sk_nil))
ss_nil)
ss_nil)
(ss_cons (s_asg (q_lst sa_nil) (g_name 3 hX))
(ss_cons (s_for hX hp (i_rng1 (T.free 0) (a_cons (q_var 1) sa_nil) (.cons .nil)) (g_name 4 hX)
(ss_cons (s_lc (i := 5) (own := [("_law_j", 6)]) hX (i_rng1 (T.free 0) (a_cons (q_bin hX (q_var 1) q_int) sa_nil) (.cons .nil)) (fun s H A cl fp hX => (g_name 6 hX)) (fun s H A cl fp hX => pts_true) (fun s H A cl fp hX => (q_call hX c_law_pick (T.glo 19) (a_cons (q_var 0) (a_cons (q_lst (a_cons q_int (a_cons q_int (a_cons q_int (a_cons (q_neg q_int) sa_nil))))) sa_nil)) sk_nil)))
(ss_cons (ss_if (t_cmp hX (q_var 2) q_int)
(ss_cons (s_asg (q_bin hX (q_bin hX (q_bin hX (q_slc hX (q_var 5) o_none (o_some q_int)) (q_bin hX (q_lst (a_cons q_int sa_nil)) (q_var 4))) (q_lst (a_cons (q_call hX c_law_pick (T.glo 19) (a_cons (q_var 0) (a_cons (q_lst (a_cons q_int (a_cons (q_neg q_int) (a_cons q_int sa_nil)))) sa_nil)) sk_nil) sa_nil))) (q_slc hX (q_var 5) (o_some (q_bin hX (q_var 4) q_int)) o_none)) (g_name 5 hX))
ss_nil)
ss_nil)
(ss_cons (s_exp (q_bm hX (q_var 3) (a_cons (q_prim (ps_tuple hX 0) (T.free 4) (a_cons (q_var 5) sa_nil)) sa_nil)))
ss_nil))))
(ss_cons (s_ret (q_prim (ps_tuple hX 0) (T.free 4) (a_cons (q_var 3) sa_nil)))
ss_nil))))))))
theorem scproduct : FnScope ["later", "earlier", "width", "found", "row", "pairs", "column", "factor", "line"] ["later", "earlier", "width"] (defScope sproduct) := ⟨rfl, rfl, rfl, by decide +kernel, rfl, by decide +kernel, by decide +kernel⟩
abbrev adproduct : PySem.W.Frag → Addr := (dG sproduct "product").ad
theorem okproduct (hP1 : P.main.file = "/claim/cut.py") (hP2 : (P.main.scope.names.lookup ("super" : Str)).isSome = false) (T : TpQ fa dn cs xs (Kc.mk K (cmOf ns K)) mg base) : ∃ fd, Has K (adproduct K) fd ∧ FnD P w (Kc.mk K (cmOf ns K)) mg base 1 (adproduct K) fd Fproduct := by
  exact fnd_q (C := (Kc.mk K (cmOf ns K))) (d := dG sproduct "product") T 9 rfl (S := scproduct) (hsh := (show ShAll2 "product" "product" sproduct _ _ from ⟨fun kV doc pm an cdv ct us ws hu hw => (match us, hu, ws, hw with | [u0, u1, u2], _, [], _ => ⟨[u0, u1, u2], rfl, rfl⟩), True.intro⟩)) (hl := by decide) (hb2 := fun cdv A outer s H E hX hp => show SSs _ _ _ bproduct _ from
(ss_cons (s_asg (q_lst sa_nil) (g_name 3 hX))
(ss_cons (s_for hX hp (i_walk hX (q_var 0)) (g_name 4 hX)
(ss_cons (s_asg (q_lz hX (T.free 6) (T.free 9) (a_cons (q_var 4) (a_cons (q_var 1) sa_nil))) (g_name 5 hX))
(ss_cons (s_exp (q_bm hX (q_var 3) (a_cons (q_prim (ps_tuple hX 0) (T.free 4) (a_cons (q_comp (own := [("column", 6)]) hX (i_rng1 (T.free 0) (a_cons (q_var 2) sa_nil) (.cons .nil)) (fun s H A cl fp hX => (g_name 6 hX)) (fun s H A cl fp hX => pts_true) (fun s H A cl fp hX => (q_prim (ps_sum hX 0) (T.free 8) (a_cons (q_comp (own := [("factor", 7), ("line", 8)]) hX (i_walk hX (q_var 5)) (fun s H A cl fp hX => (g_tup hX (g_cons (g_name 7 hX) (g_cons (g_name 8 hX) sgs_nil)))) (fun s H A cl fp hX => pts_true) (fun s H A cl fp hX => (q_bin hX (q_var 7) (q_ix hX (q_var 8) (q_var 6))))) sa_nil)))) sa_nil)) sa_nil)))
ss_nil)))
(ss_cons (s_ret (q_prim (ps_tuple hX 0) (T.free 4) (a_cons (q_var 3) sa_nil)))
ss_nil))))
theorem scstill_table : FnScope ["width", "row", "column"] ["width"] (defScope sstill_table) := ⟨rfl, rfl, rfl, by decide +kernel, rfl, by decide +kernel, by decide +kernel⟩
abbrev adstill_table : PySem.W.Frag → Addr := (dG sstill_table "still_table").ad
theorem okstill_table (hP1 : P.main.file = "/claim/cut.py") (hP2 : (P.main.scope.names.lookup ("super" : Str)).isSome = false) (T : TpQ fa dn cs xs (Kc.mk K (cmOf ns K)) mg base) : ∃ fd, Has K (adstill_table K) fd ∧ FnD P w (Kc.mk K (cmOf ns K)) mg base 1 (adstill_table K) fd Fstill_table := by
  exact fnd_q (C := (Kc.mk K (cmOf ns K))) (d := dG sstill_table "still_table") T 10 rfl (S := scstill_table) (hsh := (show ShAll2 "still_table" "still_table" sstill_table _ _ from ⟨fun kV doc pm an cdv ct us ws hu hw => (match us, hu, ws, hw with | [u0], _, [], _ => ⟨[u0], rfl, rfl⟩), True.intro⟩)) (hl := by decide) (hb2 := fun cdv A outer s H E hX hp => show SSs _ _ _ bstill_table _ from
(ss_cons (s_ret (q_prim (ps_tuple hX 0) (T.free 4) (a_cons (q_comp (own := [("row", 1)]) hX (i_rng1 (T.free 0) (a_cons (q_var 0) sa_nil) (.cons .nil)) (fun s H A cl fp hX => (g_name 1 hX)) (fun s H A cl fp hX => pts_true) (fun s H A cl fp hX => (q_prim (ps_tuple hX 0) (T.free 4) (a_cons (q_comp (own := [("column", 2)]) hX (i_rng1 (T.free 0) (a_cons (q_var 0) sa_nil) (.cons .nil)) (fun s H A cl fp hX => (g_name 2 hX)) (fun s H A cl fp hX => pts_true) (fun s H A cl fp hX => (q_prim (ps_int 0) (T.free 5) (a_cons (q_cmp hX (q_var 1) (q_var 2)) sa_nil)))) sa_nil)))) sa_nil)))
ss_nil))
theorem scpower_of : FnScope ["table", "exponent", "width", "found", "base", "left"] ["table", "exponent"] (defScope spower_of) := ⟨rfl, rfl, rfl, by decide +kernel, rfl, by decide +kernel, by decide +kernel⟩
abbrev adpower_of : PySem.W.Frag → Addr := (dG spower_of "power_of").ad
theorem okpower_of (hP1 : P.main.file = "/claim/cut.py") (hP2 : (P.main.scope.names.lookup ("super" : Str)).isSome = false) (T : TpQ fa dn cs xs (Kc.mk K (cmOf ns K)) mg base) : ∃ fd, Has K (adpower_of K) fd ∧ FnD P w (Kc.mk K (cmOf ns K)) mg base 2 (adpower_of K) fd Fpower_of := by
  obtain ⟨_, _, cproduct⟩ := okproduct (P := P) (w := w) hP1 hP2 T
  obtain ⟨_, _, cstill_table⟩ := okstill_table (P := P) (w := w) hP1 hP2 T
  have cproduct := cproduct.mono (show 1 ≤ 1 by decide)
  have cstill_table := cstill_table.mono (show 1 ≤ 1 by decide)
  exact fnd_q (C := (Kc.mk K (cmOf ns K))) (d := dG spower_of "power_of") T 11 rfl (S := scpower_of) (hsh := (show ShAll2 "power_of" "power_of" spower_of _ _ from ⟨fun kV doc pm an cdv ct us ws hu hw => (match us, hu, ws, hw with | [u0, u1], _, [], _ => ⟨[u0, u1], rfl, rfl⟩), True.intro⟩)) (hl := by decide) (hb2 := fun cdv A outer s H E hX hp => show SSs _ _ _ bpower_of _ from
(ss_cons (s_asg (q_prim (ps_len hX 0) (T.free 2) (a_cons (q_var 0) sa_nil)) (g_name 2 hX))
(ss_cons (s_par3 (i := 3) (j := 4) (l := 5) hX (a_cons (q_call hX cstill_table (T.glo 29) (a_cons (q_var 2) sa_nil) sk_nil) (a_cons (q_var 0) (a_cons (q_var 1) sa_nil))))
(ss_cons (ss_while _ hp (t_cmp hX (q_var 5) q_int) (ss_cons (ss_if (t_cmp hX (q_bin hX (q_var 5) q_int) q_int)
(ss_cons (s_asg (q_call hX cproduct (T.glo 28) (a_cons (q_var 4) (a_cons (q_var 3) (a_cons (q_var 2) sa_nil))) sk_nil) (g_name 3 hX))
ss_nil)
ss_nil)
(ss_cons (s_par (i := 4) (j := 5) hX (a_cons (q_call hX cproduct (T.glo 28) (a_cons (q_var 4) (a_cons (q_var 4) (a_cons (q_var 2) sa_nil))) sk_nil) (a_cons (q_bin hX (q_var 5) q_int) sa_nil)))
ss_nil)))
(ss_cons (s_ret (q_var 3))
ss_nil)))))
theorem scis_integer : FnScope ["thing"] ["thing"] (defScope sis_integer) := ⟨rfl, rfl, rfl, by decide +kernel, rfl, by decide +kernel, by decide +kernel⟩
abbrev adis_integer : PySem.W.Frag → Addr := (dG sis_integer "is_integer").ad
theorem okis_integer (hP1 : P.main.file = "/claim/cut.py") (hP2 : (P.main.scope.names.lookup ("super" : Str)).isSome = false) (T : TpQ fa dn cs xs (Kc.mk K (cmOf ns K)) mg base) : ∃ fd, Has K (adis_integer K) fd ∧ FnD P w (Kc.mk K (cmOf ns K)) mg base 1 (adis_integer K) fd Fis_integer := by
  exact fnd_q (C := (Kc.mk K (cmOf ns K))) (d := dG sis_integer "is_integer") T 12 rfl (S := scis_integer) (hsh := (show ShAll2 "is_integer" "is_integer" sis_integer _ _ from ⟨fun kV doc pm an cdv ct us ws hu hw => (match us, hu, ws, hw with | [u0], _, [], _ => ⟨[u0], rfl, rfl⟩), True.intro⟩)) (hl := by decide) (hb2 := fun cdv A outer s H E hX hp => show SSs _ _ _ bis_integer _ from
(ss_cons (s_ret (q_and hX (q_isin hX (q_var 0) (T.free 10) (T.free 5)) (q_and1 (q_not hX (q_isin hX (q_var 0) (T.free 10) (T.free 12))))))
ss_nil))
theorem scis_form : FnScope ["count", "thing", "entry"] ["count", "thing"] (defScope sis_form) := ⟨rfl, rfl, rfl, by decide +kernel, rfl, by decide +kernel, by decide +kernel⟩
abbrev adis_form : PySem.W.Frag → Addr := (dG sis_form "is_form").ad
theorem okis_form (hP1 : P.main.file = "/claim/cut.py") (hP2 : (P.main.scope.names.lookup ("super" : Str)).isSome = false) (T : TpQ fa dn cs xs (Kc.mk K (cmOf ns K)) mg base) : ∃ fd, Has K (adis_form K) fd ∧ FnD P w (Kc.mk K (cmOf ns K)) mg base 2 (adis_form K) fd Fis_form := by
  obtain ⟨_, _, cis_integer⟩ := okis_integer (P := P) (w := w) hP1 hP2 T
  have cis_integer := cis_integer.mono (show 1 ≤ 1 by decide)
  exact fnd_q (C := (Kc.mk K (cmOf ns K))) (d := dG sis_form "is_form") T 13 rfl (S := scis_form) (hsh := (show ShAll2 "is_form" "is_form" sis_form _ _ from ⟨fun kV doc pm an cdv ct us ws hu hw => (match us, hu, ws, hw with | [u0, u1], _, [], _ => ⟨[u0, u1], rfl, rfl⟩), True.intro⟩)) (hl := by decide) (hb2 := fun cdv A outer s H E hX hp => show SSs _ _ _ bis_form _ from
(ss_cons (s_ret (q_and hX (q_isin hX (q_var 1) (T.free 10) (T.free 4)) (q_and hX (q_cmp hX (q_prim (ps_len hX 0) (T.free 2) (a_cons (q_var 1) sa_nil)) (q_bin hX (q_var 0) q_int)) (q_and1 (q_prim (ps_all hX 0) (T.free 11) (a_cons (q_comp (own := [("entry", 2)]) hX (i_walk hX (q_var 1)) (fun s H A cl fp hX => (g_name 2 hX)) (fun s H A cl fp hX => pts_true) (fun s H A cl fp hX => (q_call hX cis_integer (T.glo 31) (a_cons (q_var 2) sa_nil) sk_nil))) sa_nil))))))
ss_nil))
theorem scStep_init : FnScope ["self", "forms", "form"] ["self", "forms"] (defScope sStep_init) := ⟨rfl, rfl, rfl, by decide +kernel, rfl, by decide +kernel, by decide +kernel⟩
abbrev adStep_init : PySem.W.Frag → Addr := (dM "Step" "__init__" "Step.__init__" sStep_init).ad
theorem okStep_init (hP1 : P.main.file = "/claim/cut.py") (hP2 : (P.main.scope.names.lookup ("super" : Str)).isSome = false) (T : TpQ fa dn cs xs (Kc.mk K (cmOf ns K)) mg base) : ∃ fd, Has K (adStep_init K) fd ∧ FnD P w (Kc.mk K (cmOf ns K)) mg base 3 (adStep_init K) fd FStep_init := by
  obtain ⟨_, _, cis_form⟩ := okis_form (P := P) (w := w) hP1 hP2 T
  have cis_form := cis_form.mono (show 2 ≤ 2 by decide)
  exact fnd_q (C := (Kc.mk K (cmOf ns K))) (d := dM "Step" "__init__" "Step.__init__" sStep_init) T 14 rfl (S := scStep_init) (hsh := (show ShAll2 "__init__" "Step.__init__" sStep_init _ _ from ⟨fun kV doc pm an cdv ct us ws hu hw => (match us, hu, ws, hw with | [u0, u1], _, [], _ => ⟨[u0, u1], rfl, rfl⟩), True.intro⟩)) (hl := by decide) (hb2 := fun cdv A outer s H E hX hp => show SSs _ _ _ bStep_init _ from
(ss_cons (ss_if (t_w (w_or (t_not (t_val hX (q_isin hX (q_var 1) (T.free 10) (T.free 4)))) (w_or1 (t_not (t_chn hX q_int (q_prim (ps_len hX 0) (T.free 2) (a_cons (q_var 1) sa_nil)) (q_glob (T.cst 1)))))))
(ss_cons s_bad
ss_nil)
ss_nil)
(ss_cons (s_for hX hp (i_walk hX (q_var 1)) (g_name 2 hX)
(ss_cons (ss_if (t_not (t_val hX (q_call hX cis_form (T.glo 30) (a_cons (q_prim (ps_len hX 0) (T.free 2) (a_cons (q_var 1) sa_nil)) (a_cons (q_var 2) sa_nil)) sk_nil)))
(ss_cons s_bad
ss_nil)
ss_nil)
ss_nil))
(ss_cons (s_setA hX (T.chk 0) (T.chk 3) (q_var 0) (q_var 1))
ss_nil))))
theorem sctable_of : FnScope ["forms"] ["forms"] (defScope stable_of) := ⟨rfl, rfl, rfl, by decide +kernel, rfl, by decide +kernel, by decide +kernel⟩
abbrev adtable_of : PySem.W.Frag → Addr := (dG stable_of "table_of").ad
theorem oktable_of (hP1 : P.main.file = "/claim/cut.py") (hP2 : (P.main.scope.names.lookup ("super" : Str)).isSome = false) (T : TpQ fa dn cs xs (Kc.mk K (cmOf ns K)) mg base) : ∃ fd, Has K (adtable_of K) fd ∧ FnD P w (Kc.mk K (cmOf ns K)) mg base 1 (adtable_of K) fd Ftable_of := by
  exact fnd_q (C := (Kc.mk K (cmOf ns K))) (d := dG stable_of "table_of") T 15 rfl (S := sctable_of) (hsh := (show ShAll2 "table_of" "table_of" stable_of _ _ from ⟨fun kV doc pm an cdv ct us ws hu hw => (match us, hu, ws, hw with | [u0], _, [], _ => ⟨[u0], rfl, rfl⟩), True.intro⟩)) (hl := by decide) (hb2 := fun cdv A outer s H E hX hp => show SSs _ _ _ btable_of _ from
(ss_cons (s_ret (q_bin hX (q_tup (a_cons (q_bin hX (q_tup (a_cons q_int sa_nil)) (q_bin hX (q_tup (a_cons q_int sa_nil)) (q_prim (ps_len hX 0) (T.free 2) (a_cons (q_var 0) sa_nil)))) sa_nil)) (q_var 0)))
ss_nil))
theorem scStep_power : FnScope ["self", "exponent", "table"] ["self", "exponent"] (defScope sStep_power) := ⟨rfl, rfl, rfl, by decide +kernel, rfl, by decide +kernel, by decide +kernel⟩
abbrev adStep_power : PySem.W.Frag → Addr := (dM "Step" "power" "Step.power" sStep_power).ad
theorem okStep_power (hP1 : P.main.file = "/claim/cut.py") (hP2 : (P.main.scope.names.lookup ("super" : Str)).isSome = false) (T : TpQ fa dn cs xs (Kc.mk K (cmOf ns K)) mg base) : ∃ fd, Has K (adStep_power K) fd ∧ FnD P w (Kc.mk K (cmOf ns K)) mg base 5 (adStep_power K) fd FStep_power := by
  obtain ⟨_, _, cpower_of⟩ := okpower_of (P := P) (w := w) hP1 hP2 T
  obtain ⟨_, _, dStep_init⟩ := okStep_init (P := P) (w := w) hP1 hP2 T
  obtain ⟨_, _, ctable_of⟩ := oktable_of (P := P) (w := w) hP1 hP2 T
  have cpower_of := cpower_of.mono (show 2 ≤ 4 by decide)
  have dStep_init := dStep_init.mono (show 3 ≤ 3 by decide)
  have ctable_of := ctable_of.mono (show 1 ≤ 4 by decide)
  exact fnd_q (C := (Kc.mk K (cmOf ns K))) (d := dM "Step" "power" "Step.power" sStep_power) T 16 rfl (S := scStep_power) (hsh := (show ShAll2 "power" "Step.power" sStep_power _ _ from ⟨fun kV doc pm an cdv ct us ws hu hw => (match us, hu, ws, hw with | [u0, u1], _, [], _ => ⟨[u0, u1], rfl, rfl⟩), True.intro⟩)) (hl := by decide) (hb2 := fun cdv A outer s H E hX hp => show SSs _ _ _ bStep_power _ from
(ss_cons (s_asg (q_call hX ctable_of (T.glo 27) (a_cons (q_attr hX (T.chk 0) (T.chk 3) (q_var 0)) sa_nil) sk_nil) (g_name 2 hX))
(ss_cons (ss_if (t_cmp hX (q_var 1) q_int)
(ss_cons (s_asg q_bad (g_name 2 hX))
ss_nil)
ss_nil)
(ss_cons (ss_if (t_cmp hX (q_var 2) q_non)
(ss_cons s_bad
ss_nil)
ss_nil)
(ss_cons (s_ret (q_mk hX (T.chk 5) dStep_init (T.glo 25) (a_cons (q_slc hX (q_call hX cpower_of (T.glo 26) (a_cons (q_var 2) (a_cons (q_prim (ps_abs 0) (T.free 7) (a_cons (q_var 1) sa_nil)) sa_nil)) sk_nil) (o_some q_int) o_none) sa_nil) sk_nil))
ss_nil)))))
theorem scStep_eq : FnScope ["self", "other"] ["self", "other"] (defScope sStep_eq) := ⟨rfl, rfl, rfl, by decide +kernel, rfl, by decide +kernel, by decide +kernel⟩
abbrev adStep_eq : PySem.W.Frag → Addr := (dM "Step" "__eq__" "Step.__eq__" sStep_eq).ad
theorem okStep_eq (hP1 : P.main.file = "/claim/cut.py") (hP2 : (P.main.scope.names.lookup ("super" : Str)).isSome = false) (T : TpQ fa dn cs xs (Kc.mk K (cmOf ns K)) mg base) : ∃ fd, Has K (adStep_eq K) fd ∧ FnD P w (Kc.mk K (cmOf ns K)) mg base 1 (adStep_eq K) fd FStep_eq := by
  exact fnd_q (C := (Kc.mk K (cmOf ns K))) (d := dM "Step" "__eq__" "Step.__eq__" sStep_eq) T 17 rfl (S := scStep_eq) (hsh := (show ShAll2 "__eq__" "Step.__eq__" sStep_eq _ _ from ⟨fun kV doc pm an cdv ct us ws hu hw => (match us, hu, ws, hw with | [u0, u1], _, [], _ => ⟨[u0, u1], rfl, rfl⟩), True.intro⟩)) (hl := by decide) (hb2 := fun cdv A outer s H E hX hp => show SSs _ _ _ bStep_eq _ from
(ss_cons (s_ret (q_and hX (q_isinC hX (ocs T) (q_var 1) (T.free 10) (T.glo 25)) (q_and1 (q_cmp hX (q_attr hX (T.chk 0) (T.chk 3) (q_var 0)) (q_attr hX (T.chk 0) (T.chk 3) (q_var 1))))))
ss_nil))
theorem sccourse_of : FnScope ["step", "turn", "index", "period"] ["step", "turn"] (defScope scourse_of) := ⟨rfl, rfl, rfl, by decide +kernel, rfl, by decide +kernel, by decide +kernel⟩
abbrev adcourse_of : PySem.W.Frag → Addr := (dG scourse_of "course_of").ad
theorem okcourse_of (hP1 : P.main.file = "/claim/cut.py") (hP2 : (P.main.scope.names.lookup ("super" : Str)).isSome = false) (T : TpQ fa dn cs xs (Kc.mk K (cmOf ns K)) mg base) : ∃ fd, Has K (adcourse_of K) fd ∧ FnD P w (Kc.mk K (cmOf ns K)) mg base 6 (adcourse_of K) fd Fcourse_of := by
  obtain ⟨_, _, cStep_power⟩ := okStep_power (P := P) (w := w) hP1 hP2 T
  obtain ⟨_, _, dStep_eq⟩ := okStep_eq (P := P) (w := w) hP1 hP2 T
  have cStep_power := cStep_power.mono (show 5 ≤ 5 by decide)
  have dStep_eq := dStep_eq.mono (show 1 ≤ 4 by decide)
  exact fnd_q (C := (Kc.mk K (cmOf ns K))) (d := dG scourse_of "course_of") T 18 rfl (S := sccourse_of) (hsh := (show ShAll2 "course_of" "course_of" scourse_of _ _ from ⟨fun kV doc pm an cdv ct us ws hu hw => (match us, hu, ws, hw with | [u0, u1], _, [], _ => ⟨[u0, u1], rfl, rfl⟩), True.intro⟩)) (hl := by decide) (hb2 := fun cdv A outer s H E hX hp => show SSs _ _ _ bcourse_of _ from
(ss_cons (s_asg q_int (g_name 2 hX))
(ss_cons (ss_while _ hp (t_neO hX (ocs T) (T.chk 2) dStep_eq (q_meth _ hX (T.chk 0) (T.chk 1) cStep_power (q_var 0) (a_cons (q_bin hX (q_var 2) (q_var 1)) sa_nil) sk_nil) (q_meth _ hX (T.chk 0) (T.chk 1) cStep_power (q_var 0) (a_cons (q_var 2) sa_nil) sk_nil)) (ss_cons (s_augA 2 hX q_int)
ss_nil))
(ss_cons (s_asg q_int (g_name 3 hX))
(ss_cons (ss_while _ hp (t_neO hX (ocs T) (T.chk 2) dStep_eq (q_meth _ hX (T.chk 0) (T.chk 1) cStep_power (q_var 0) (a_cons (q_bin hX (q_var 2) (q_var 3)) sa_nil) sk_nil) (q_meth _ hX (T.chk 0) (T.chk 1) cStep_power (q_var 0) (a_cons (q_var 2) sa_nil) sk_nil)) (ss_cons (s_augA 3 hX q_int)
ss_nil))
(ss_cons (s_ret (q_tup (a_cons (q_var 2) (a_cons (q_var 3) sa_nil))))
ss_nil))))))
theorem scStep_course : FnScope ["self", "count", "turn"] ["self"] (defScope sStep_course) := ⟨rfl, rfl, rfl, by decide +kernel, rfl, by decide +kernel, by decide +kernel⟩
abbrev adStep_course : PySem.W.Frag → Addr := (dP "Step" "course" "Step.course" sStep_course).ad
theorem okStep_course (hP1 : P.main.file = "/claim/cut.py") (hP2 : (P.main.scope.names.lookup ("super" : Str)).isSome = false) (T : TpQ fa dn cs xs (Kc.mk K (cmOf ns K)) mg base) : ∃ fd, Has K (adStep_course K) fd ∧ FnD P w (Kc.mk K (cmOf ns K)) mg base 7 (adStep_course K) fd FStep_course := by
  obtain ⟨_, _, ccourse_of⟩ := okcourse_of (P := P) (w := w) hP1 hP2 T
  obtain ⟨_, _, cStep_power⟩ := okStep_power (P := P) (w := w) hP1 hP2 T
  obtain ⟨_, _, dStep_eq⟩ := okStep_eq (P := P) (w := w) hP1 hP2 T
  obtain ⟨_, _, cturn_number⟩ := okturn_number (P := P) (w := w) hP1 hP2 T
  have ccourse_of := ccourse_of.mono (show 6 ≤ 6 by decide)
  have cStep_power := cStep_power.mono (show 5 ≤ 6 by decide)
  have dStep_eq := dStep_eq.mono (show 1 ≤ 5 by decide)
  have cturn_number := cturn_number.mono (show 1 ≤ 6 by decide)
  exact fnd_q (C := (Kc.mk K (cmOf ns K))) (d := dP "Step" "course" "Step.course" sStep_course) T 19 rfl (S := scStep_course) (hsh := (show ShAll2 "course" "Step.course" sStep_course _ _ from ⟨fun kV doc pm an cdv ct us ws hu hw => (match us, hu, ws, hw with | [u0], _, [], _ => ⟨[u0], rfl, rfl⟩), True.intro⟩)) (hl := by decide) (hb2 := fun cdv A outer s H E hX hp => show SSs _ _ _ bStep_course _ from
(ss_cons (s_asg (q_prim (ps_len hX 0) (T.free 2) (a_cons (q_attr hX (T.chk 0) (T.chk 3) (q_var 0)) sa_nil)) (g_name 1 hX))
(ss_cons (s_asg (q_call hX cturn_number (T.glo 13) (a_cons (q_var 1) sa_nil) sk_nil) (g_name 2 hX))
(ss_cons (ss_if (t_neO hX (ocs T) (T.chk 2) dStep_eq (q_meth _ hX (T.chk 0) (T.chk 1) cStep_power (q_var 0) (a_cons (q_bin hX (q_bin hX (q_var 1) q_int) (q_var 2)) sa_nil) sk_nil) (q_meth _ hX (T.chk 0) (T.chk 1) cStep_power (q_var 0) (a_cons (q_bin hX (q_var 1) q_int) sa_nil) sk_nil))
(ss_cons (s_ret q_non)
ss_nil)
ss_nil)
(ss_cons (s_ret (q_call hX ccourse_of (T.glo 32) (a_cons (q_var 0) (a_cons (q_var 2) sa_nil)) sk_nil))
ss_nil)))))
theorem sc_law_joined : FnScope ["_law_first", "_law_second", "_law_found_here", "_law_item", "_law_whole", "_law_k", "_law_j"] ["_law_first", "_law_second"] (defScope s_law_joined) := ⟨rfl, rfl, rfl, by decide +kernel, rfl, by decide +kernel, by decide +kernel⟩
abbrev ad_law_joined : PySem.W.Frag → Addr := (dG s_law_joined "_law_joined").ad
theorem ok_law_joined (hP1 : P.main.file = "/claim/cut.py") (hP2 : (P.main.scope.names.lookup ("super" : Str)).isSome = false) (T : TpQ fa dn cs xs (Kc.mk K (cmOf ns K)) mg base) : ∃ fd, Has K (ad_law_joined K) fd ∧ FnD P w (Kc.mk K (cmOf ns K)) mg base 1 (ad_law_joined K) fd F_law_joined := by
  exact fnd_q (C := (Kc.mk K (cmOf ns K))) (d := dG s_law_joined "_law_joined") T 20 rfl (S := sc_law_joined) (hsh := (show ShAll2 "_law_joined" "_law_joined" s_law_joined _ _ from ⟨fun kV doc pm an cdv ct us ws hu hw => (match us, hu, ws, hw with | [u0, u1], _, [], _ => ⟨[u0, u1], rfl, rfl⟩), True.intro⟩)) (hl := by decide) (hb2 := fun cdv A outer s H E hX hp => show SSs _ _ _ b_law_joined _ from
(ss_cons (s_asg (q_lst sa_nil) (g_name 2 hX))
(ss_cons (s_for hX hp (i_walk hX (q_var 1)) (g_name 3 hX)
(ss_cons (s_asg (q_bin hX (q_lst (a_cons (q_ix hX (q_var 3) q_int) sa_nil)) (q_bin hX (q_lst (a_cons q_int sa_nil)) (q_prim (ps_len hX 0) (T.free 2) (a_cons (q_var 0) sa_nil)))) (g_name 4 hX))
(ss_cons (s_for hX hp (i_rng1 (T.free 0) (a_cons (q_prim (ps_len hX 0) (T.free 2) (a_cons (q_var 0) sa_nil)) sa_nil) (.cons .nil)) (g_name 5 hX)
(ss_cons (s_asg (q_comp (own := [("_law_j", 6)]) hX (i_rng1 (T.free 0) (a_cons (q_bin hX (q_prim (ps_len hX 0) (T.free 2) (a_cons (q_var 0) sa_nil)) q_int) sa_nil) (.cons .nil)) (fun s H A cl fp hX => (g_name 6 hX)) (fun s H A cl fp hX => pts_true) (fun s H A cl fp hX => (q_bin hX (q_ix hX (q_var 4) (q_var 6)) (q_bin hX (q_ix hX (q_var 3) (q_bin hX (q_var 5) q_int)) (q_ix hX (q_ix hX (q_var 0) (q_var 5)) (q_var 6)))))) (g_name 4 hX))
ss_nil))
(ss_cons (s_exp (q_bm hX (q_var 2) (a_cons (q_prim (ps_tuple hX 0) (T.free 4) (a_cons (q_var 4) sa_nil)) sa_nil)))
ss_nil))))
(ss_cons (s_ret (q_prim (ps_tuple hX 0) (T.free 4) (a_cons (q_var 2) sa_nil)))
ss_nil))))
theorem sc_law_found : FnScope ["_law_made_here", "_law_size", "_law_here", "_law_seen", "_law_k", "_law_turn_here"] ["_law_made_here"] (defScope s_law_found) := ⟨rfl, rfl, rfl, by decide +kernel, rfl, by decide +kernel, by decide +kernel⟩
abbrev ad_law_found : PySem.W.Frag → Addr := (dG s_law_found "_law_found").ad
theorem ok_law_found (hP1 : P.main.file = "/claim/cut.py") (hP2 : (P.main.scope.names.lookup ("super" : Str)).isSome = false) (T : TpQ fa dn cs xs (Kc.mk K (cmOf ns K)) mg base) : ∃ fd, Has K (ad_law_found K) fd ∧ FnD P w (Kc.mk K (cmOf ns K)) mg base 2 (ad_law_found K) fd F_law_found := by
  obtain ⟨_, _, c_law_joined⟩ := ok_law_joined (P := P) (w := w) hP1 hP2 T
  have c_law_joined := c_law_joined.mono (show 1 ≤ 1 by decide)
  exact fnd_q (C := (Kc.mk K (cmOf ns K))) (d := dG s_law_found "_law_found") T 21 rfl (S := sc_law_found) (hsh := (show ShAll2 "_law_found" "_law_found" s_law_found _ _ from ⟨fun kV doc pm an cdv ct us ws hu hw => (match us, hu, ws, hw with | [u0], _, [], _ => ⟨[u0], rfl, rfl⟩), True.intro⟩)) (hl := by decide) (hb2 := fun cdv A outer s H E hX hp => show SSs _ _ _ b_law_found _ from
(ss_cons (s_asg (q_prim (ps_len hX 0) (T.free 2) (a_cons (q_var 0) sa_nil)) (g_name 1 hX))
(ss_cons (s_par (i := 2) (j := 3) hX (a_cons (q_prim (ps_tuple hX 0) (T.free 4) (a_cons (q_comp (own := [("_law_k", 4)]) hX (i_rng1 (T.free 0) (a_cons (q_var 1) sa_nil) (.cons .nil)) (fun s H A cl fp hX => (g_name 4 hX)) (fun s H A cl fp hX => pts_true) (fun s H A cl fp hX => (q_bin hX (q_bin hX (q_bin hX (q_tup (a_cons q_int sa_nil)) (q_bin hX (q_var 4) q_int)) (q_tup (a_cons q_int sa_nil))) (q_bin hX (q_tup (a_cons q_int sa_nil)) (q_bin hX (q_bin hX (q_var 1) q_int) (q_var 4)))))) sa_nil)) (a_cons se_dn0 sa_nil)))
(ss_cons (s_for hX hp (i_rng1 (T.free 0) (a_cons (q_bin hX (q_bin hX (q_var 1) q_int) (q_ix hX (q_dct (d_cons q_int (d_cons q_int (d_cons q_int (d_cons q_int sd_nil)))) (.cons (.cons (.cons (.cons .nil))))) (q_var 1))) sa_nil) (.cons .nil)) (g_name 5 hX)
(ss_cons (ss_if (t_dnIn hX (q_var 2) (q_var 3))
(ss_cons (s_ret (q_tup (a_cons (q_dnIx hX (q_var 3) (q_var 2)) (a_cons (q_bin hX (q_var 5) (q_dnIx hX (q_var 3) (q_var 2))) sa_nil))))
ss_nil)
ss_nil)
(ss_cons (s_dnSet hX (q_var 3) (q_var 2) (q_var 5))
(ss_cons (s_asg (q_call hX c_law_joined (T.glo 33) (a_cons (q_var 2) (a_cons (q_var 0) sa_nil)) sk_nil) (g_name 2 hX))
ss_nil))))
(ss_cons (s_ret q_non)
ss_nil)))))
theorem sc_law_right : FnScope ["_law_made_here", "_law_one", "_law_due", "_law_size", "_law_far"] ["_law_made_here"] (defScope s_law_right) := ⟨rfl, rfl, rfl, by decide +kernel, rfl, by decide +kernel, by decide +kernel⟩
abbrev ad_law_right : PySem.W.Frag → Addr := (dG s_law_right "_law_right").ad
theorem ok_law_right (hP1 : P.main.file = "/claim/cut.py") (hP2 : (P.main.scope.names.lookup ("super" : Str)).isSome = false) (T : TpQ fa dn cs xs (Kc.mk K (cmOf ns K)) mg base) : ∃ fd, Has K (ad_law_right K) fd ∧ FnD P w (Kc.mk K (cmOf ns K)) mg base 9 (ad_law_right K) fd F_law_right := by
  obtain ⟨_, _, cStep_power⟩ := okStep_power (P := P) (w := w) hP1 hP2 T
  obtain ⟨_, _, dStep_eq⟩ := okStep_eq (P := P) (w := w) hP1 hP2 T
  obtain ⟨_, _, cturn_number⟩ := okturn_number (P := P) (w := w) hP1 hP2 T
  obtain ⟨_, _, dStep_course⟩ := okStep_course (P := P) (w := w) hP1 hP2 T
  obtain ⟨_, _, c_law_found⟩ := ok_law_found (P := P) (w := w) hP1 hP2 T
  obtain ⟨_, _, dStep_init⟩ := okStep_init (P := P) (w := w) hP1 hP2 T
  have cStep_power := cStep_power.mono (show 5 ≤ 8 by decide)
  have dStep_eq := dStep_eq.mono (show 1 ≤ 7 by decide)
  have cturn_number := cturn_number.mono (show 1 ≤ 8 by decide)
  have dStep_course := dStep_course.mono (show 7 ≤ 7 by decide)
  have c_law_found := c_law_found.mono (show 2 ≤ 8 by decide)
  have dStep_init := dStep_init.mono (show 3 ≤ 7 by decide)
  exact fnd_q (C := (Kc.mk K (cmOf ns K))) (d := dG s_law_right "_law_right") T 22 rfl (S := sc_law_right) (hsh := (show ShAll2 "_law_right" "_law_right" s_law_right _ _ from ⟨fun kV doc pm an cdv ct us ws hu hw => (match us, hu, ws, hw with | [u0], _, [], _ => ⟨[u0], rfl, rfl⟩), True.intro⟩)) (hl := by decide) (hb2 := fun cdv A outer s H E hX hp => show SSs _ _ _ b_law_right _ from
(ss_cons (s_par3 (i := 1) (j := 2) (l := 3) hX (a_cons (q_mk hX (T.chk 5) dStep_init (T.glo 25) (a_cons (q_var 0) sa_nil) sk_nil) (a_cons (q_call hX c_law_found (T.glo 24) (a_cons (q_var 0) sa_nil) sk_nil) (a_cons (q_prim (ps_len hX 0) (T.free 2) (a_cons (q_var 0) sa_nil)) sa_nil))))
(ss_cons (ss_if (t_w (w_or (t_cmp hX (q_prim (ps_repr hX 0) (T.free 1) (a_cons (q_lst (a_cons (q_prop hX (T.chk 0) (T.chk 4) dStep_course (q_var 1)) (a_cons (q_prop hX (T.chk 0) (T.chk 4) dStep_course (q_var 1)) sa_nil))) sa_nil)) (q_prim (ps_repr hX 0) (T.free 1) (a_cons (q_lst (a_cons (q_var 2) (a_cons (q_var 2) sa_nil))) sa_nil))) (w_or1 (t_cmp hX (q_prim (ps_repr hX 0) (T.free 1) (a_cons (q_attr hX (T.chk 0) (T.chk 3) (q_var 1)) sa_nil)) (q_prim (ps_repr hX 0) (T.free 1) (a_cons (q_var 0) sa_nil))))))
(ss_cons (s_ret q_bl)
ss_nil)
ss_nil)
(ss_cons (s_asg (q_bin hX (q_bin hX (q_var 3) q_int) (q_call hX cturn_number (T.glo 13) (a_cons (q_var 3) sa_nil) sk_nil)) (g_name 4 hX))
(ss_cons (ss_if (t_cmp hX (q_eqO hX (ocs T) (T.chk 2) dStep_eq (q_meth _ hX (T.chk 0) (T.chk 1) cStep_power (q_var 1) (a_cons (q_var 4) sa_nil) sk_nil) (q_meth _ hX (T.chk 0) (T.chk 1) cStep_power (q_var 1) (a_cons (q_bin hX (q_var 3) q_int) sa_nil) sk_nil)) (q_cmp hX (q_var 2) q_non))
(ss_cons (s_ret q_bl)
ss_nil)
ss_nil)
(ss_cons (s_ret (q_or hX (q_cmp hX (q_var 2) q_non) (q_or1 (q_eqO hX (ocs T) (T.chk 2) dStep_eq (q_meth _ hX (T.chk 0) (T.chk 1) cStep_power (q_var 1) (a_cons (q_bin hX (q_ix hX (q_var 2) q_int) (q_ix hX (q_var 2) q_int)) sa_nil) sk_nil) (q_meth _ hX (T.chk 0) (T.chk 1) cStep_power (q_var 1) (a_cons (q_ix hX (q_var 2) q_int) sa_nil) sk_nil)))))
ss_nil))))))
theorem sc_law_deck : FnScope ["_law_script", "_law_seed", "_law_cell"] ["_law_script"] (defScope s_law_deck) := ⟨rfl, rfl, rfl, by decide +kernel, rfl, by decide +kernel, by decide +kernel⟩
abbrev ad_law_deck : PySem.W.Frag → Addr := (dG s_law_deck "_law_deck").ad
theorem ok_law_deck (hP1 : P.main.file = "/claim/cut.py") (hP2 : (P.main.scope.names.lookup ("super" : Str)).isSome = false) (T : TpQ fa dn cs xs (Kc.mk K (cmOf ns K)) mg base) : ∃ fd, Has K (ad_law_deck K) fd ∧ FnD P w (Kc.mk K (cmOf ns K)) mg base 1 (ad_law_deck K) fd F_law_deck := by
  exact fnd_q (C := (Kc.mk K (cmOf ns K))) (d := dG s_law_deck "_law_deck") T 23 rfl (S := sc_law_deck) (hsh := (show ShAll2 "_law_deck" "_law_deck" s_law_deck _ _ from ⟨fun kV doc pm an cdv ct us ws hu hw => (match us, hu, ws, hw with | [u0], _, [], _ => ⟨[u0], rfl, rfl⟩), True.intro⟩)) (hl := by decide) (hb2 := fun cdv A outer s H E hX hp => show SSs _ _ _ b_law_deck _ from
(ss_cons (s_asg q_int (g_name 1 hX))
(ss_cons (s_for hX hp (i_walk hX (q_slc hX (q_var 0) o_none (o_some q_int))) (g_name 2 hX)
(ss_cons (s_asg (q_bin hX (q_prim (ps_int 0) (T.free 5) (a_cons (q_bin hX (q_bin hX (q_bin hX (q_var 1) q_int) (q_bin hX (q_prim (ps_int 0) (T.free 5) (a_cons (q_var 2) sa_nil)) q_int)) q_int) sa_nil)) q_int) (g_name 1 hX))
ss_nil))
(ss_cons (s_ret (q_dct (d_cons (q_rev hX (q_comp (own := [("_law_cell", 2)]) hX (i_walk hX (q_slc hX (q_var 0) o_none (o_some q_int))) (fun s H A cl fp hX => (g_name 2 hX)) (fun s H A cl fp hX => (ts_one (t_cmp hX (q_var 2) (q_bin hX q_int q_int)))) (fun s H A cl fp hX => (q_var 2)))) (d_cons (q_var 1) sd_nil)) (.cons (.cons .nil))))
ss_nil))))
theorem sclaw : FnScope ["_law_script", "_law_deck_here", "_law_go", "_law_size"] ["_law_script"] (defScope slaw) := ⟨rfl, rfl, rfl, by decide +kernel, rfl, by decide +kernel, by decide +kernel⟩
abbrev adlaw : PySem.W.Frag → Addr := (dG slaw "law").ad
theorem oklaw (hP1 : P.main.file = "/claim/cut.py") (hP2 : (P.main.scope.names.lookup ("super" : Str)).isSome = false) (T : TpQ fa dn cs xs (Kc.mk K (cmOf ns K)) mg base) : ∃ fd, Has K (adlaw K) fd ∧ FnD P w (Kc.mk K (cmOf ns K)) mg base 10 (adlaw K) fd Flaw := by
  obtain ⟨_, _, cturn_number⟩ := okturn_number (P := P) (w := w) hP1 hP2 T
  obtain ⟨_, _, c_law_turn⟩ := ok_law_turn (P := P) (w := w) hP1 hP2 T
  obtain ⟨_, _, c_law_made⟩ := ok_law_made (P := P) (w := w) hP1 hP2 T
  obtain ⟨_, _, c_law_right⟩ := ok_law_right (P := P) (w := w) hP1 hP2 T
  obtain ⟨_, _, c_law_deck⟩ := ok_law_deck (P := P) (w := w) hP1 hP2 T
  have cturn_number := cturn_number.mono (show 1 ≤ 9 by decide)
  have c_law_turn := c_law_turn.mono (show 2 ≤ 9 by decide)
  have c_law_made := c_law_made.mono (show 4 ≤ 9 by decide)
  have c_law_right := c_law_right.mono (show 9 ≤ 9 by decide)
  have c_law_deck := c_law_deck.mono (show 1 ≤ 9 by decide)
  exact fnd_q (C := (Kc.mk K (cmOf ns K))) (d := dG slaw "law") T 24 rfl (S := sclaw) (hsh := (show ShAll2 "law" "law" slaw _ _ from ⟨fun kV doc pm an cdv ct us ws hu hw => (match us, hu, ws, hw with | [u0], _, [], _ => ⟨[u0], rfl, rfl⟩), True.intro⟩)) (hl := by decide) (hb2 := fun cdv A outer s H E hX hp => show SSs _ _ _ blaw _ from
(ss_cons (s_asg (q_call hX c_law_deck (T.glo 17) (a_cons (q_var 0) sa_nil) sk_nil) (g_name 1 hX))
(ss_cons (s_for hX hp (i_rng1 (T.free 0) (a_cons q_int sa_nil) (.cons .nil)) (g_name 2 hX)
(ss_cons (ss_if (t_not (t_val hX (q_call hX c_law_right (T.glo 16) (a_cons (q_call hX c_law_made (T.glo 15) (a_cons (q_var 1) sa_nil) sk_nil) sa_nil) sk_nil)))
(ss_cons (s_ret q_bl)
ss_nil)
ss_nil)
ss_nil))
(ss_cons (s_for hX hp (i_rng2 (T.free 0) (a_cons q_int (a_cons q_int sa_nil)) (.cons (.cons .nil))) (g_name 3 hX)
(ss_cons (ss_if (t_cmp hX (q_prim (ps_repr hX 0) (T.free 1) (a_cons (q_lst (a_cons (q_call hX cturn_number (T.glo 13) (a_cons (q_var 3) sa_nil) sk_nil) (a_cons (q_call hX cturn_number (T.glo 13) sa_nil (k_cons (q_var 3) sk_nil)) sa_nil))) sa_nil)) (q_prim (ps_repr hX 0) (T.free 1) (a_cons (q_bin hX (q_lst (a_cons (q_call hX c_law_turn (T.glo 14) (a_cons (q_var 3) sa_nil) sk_nil) sa_nil)) q_int) sa_nil)))
(ss_cons (s_ret q_bl)
ss_nil)
ss_nil)
ss_nil))
(ss_cons (s_ret q_bl)
ss_nil)))))
end
end K08

namespace K08
open PySem PySem.Spec PyProof.Rows L2 Px
/-! ### steps: what the program's functions give -/
section
variable {X : XQ} {st : Store} {Q : D → Store → Prop}
theorem r_is_integer {i : Int} : Fis_integer.run [.int i] st = .ok (.bl true) st := by
  refine W.eqn' ?_
  rw [rnis_integer]
  refine W_run (ρ0 := [some (.int i)]) rfl ?_
  unfold bis_integer
  simp [tyNames]
theorem r_is_form {n : Nat} {f : Nat → Int} (hn : n ≤ 6) : Fis_form.run [.int n, vecD (n + 1) f] st = .ok (.bl true) st := by
  refine W.eqn' ?_
  rw [rnis_form]
  refine W_run (ρ0 := [some (.int n), some (vecD (n + 1) f), none]) rfl ?_
  have hL := limV'
  unfold bis_form vecD
  simp [tyNames, W_comp, walkOf, and_assoc]
  refine ⟨by omega, ?_⟩
  refine W_compR (fun _ => .bl true) (fun j x hx => ⟨_, setT_name, ?_⟩) ?_
  · obtain ⟨hj, rfl⟩ := map_at.mp hx
    simp [wipeE, r_is_integer]
  · refine ⟨by simp; omega, ?_⟩
    rw [W_all]
    simp
abbrev stepD (n : Nat) (f : Tn) : D := .obj "Step" ["forms"] [tabD n (n + 1) f]
theorem r_Step_init {n : Nat} {f : Tn} (h1 : 1 ≤ n) (h4 : n ≤ 4) : FStep_init.run [.cell st.length, tabD n (n + 1) f] (st ++ [.ins "Step" [] []]) = .ok .non (st ++ [.ins "Step" ["forms"] [tabD n (n + 1) f]]) := by
  refine W.eqn' ?_
  rw [rnStep_init]
  refine W_run (ρ0 := [some (.cell st.length), some (tabD n (n + 1) f), none]) rfl ?_
  have hL := limV'
  unfold bStep_init
  simp [tyNames, tabD, walkOf, and_assoc]
  refine ⟨by omega, by omega, ?_⟩
  refine W_forR0 (fun _ ρ st' => (∃ d, ρ = [some (.cell st.length), some (tabD n (n + 1) f), d]) ∧ st' = st ++ [.ins "Step" [] []]) ⟨⟨none, rfl⟩, rfl⟩ ?_ ?_
  · rintro j x ρ st' hx ⟨⟨d, rfl⟩, rfl⟩
    obtain ⟨hj, rfl⟩ := map_at.mp hx
    refine ⟨_, setT_name, ?_⟩
    simp [tabD, r_is_form (show n ≤ 6 by omega), guardOk]
  · rintro ρ st' ⟨⟨d, rfl⟩, rfl⟩
    have hs : setA "Step" "forms" (.cell st.length) (tabD n (n + 1) f) (st ++ [.ins "Step" [] []]) = some (st ++ [.ins "Step" ["forms"] [tabD n (n + 1) f]]) := by
      unfold setA
      simp only [get_last]
      rw [if_pos ⟨trivial, by decide⟩, set_last]; rfl
    simp only [onNx_nx, List.getElem?_cons_succ, List.getElem?_cons_zero, Option.some.injEq, exists_eq_left']
    refine ⟨_, hs, ?_⟩
    rw [W_close (by simp)]
    exact ⟨rfl, rfl⟩
/-- Step(..) -/
theorem mk_step {n : Nat} {f : Tn} (h1 : 1 ≤ n) (h4 : n ≤ 4) (hw : Wf st) : mkRun "Step" true FStep_init [tabD n (n + 1) f] [] [] st = .ok (stepD n f) st :=
  mkRun_ok rfl (r_Step_init h1 h4) hw (by rw [noCells, nc_tab]; rfl)
end
section
variable {X : XQ} {st : Store} {Q : D → Store → Prop}
/-- the table of forms -/
def upT (f : Tn) : Tn := fun i j => match i with
  | 0 => oneT 0 j
  | i + 1 => f i j
theorem up_at {f : Tn} {i j : Nat} : upT f (i + 1) j = f i j := rfl
theorem bd_up {b : Nat} {f : Tn} (h : bdT b f) (h1 : 1 ≤ b) : bdT b (upT f) := fun i j => by
  cases i with
  | zero => exact (bd_one.mono h1) 0 j
  | succ i => exact h i j
theorem r_table_of {n : Nat} {f : Tn} (hn : n ≤ 6) : Ftable_of.run [tabD n (n + 1) f] st = .ok (tabD (n + 1) (n + 1) (upT f)) st := by
  refine W.eqn' ?_
  rw [rntable_of]
  refine W_run (ρ0 := [some (tabD n (n + 1) f)]) rfl ?_
  have hL := limV'
  unfold btable_of
  simp [tabD]
  refine ⟨by omega, by omega, ?_⟩
  refine ⟨by omega, ?_⟩
  rw [List.range_succ_eq_map, List.map_cons, List.map_map]
  have e : vecD (n + 1) (upT f 0) = .tup (.int 1 :: List.replicate n (.int 0)) := by
    unfold vecD
    rw [rowD_succ]
    unfold rowD
    refine congrArg D.tup (congrArg (List.cons _) ?_)
    rw [List.eq_replicate_iff]
    refine ⟨by simp, fun x hx => ?_⟩
    obtain ⟨j, _, rfl⟩ := List.mem_map.mp hx
    rfl
  rw [e]
  exact ⟨by omega, by omega, rfl⟩
theorem r_product {w a b : Nat} {A B : Tn} (hA : bdT a A) (hB : bdT b B) (hab : a + b ≤ 100000) (hw : w ≤ 7) (wf : Wf st) : Fproduct.run [tabD w w A, tabD w w B, .int w] st = .ok (tabD w w (mulT w A B)) st := by
  refine W.eqn' ?_
  rw [rnproduct]
  refine W_run (ρ0 := [some (tabD w w A), some (tabD w w B), some (.int w), none, none, none, none, none, none]) rfl ?_
  have hL := limV'
  unfold bproduct
  simp [walkOf, tabD, and_assoc]
  refine W_forR0 (fun m ρ st' => (∃ r p, ρ = [some (tabD w w A), some (tabD w w B), some (.int w), some (.cell st.length), r, p, none, none, none]) ∧ st' = st ++ [.lst ((List.range m).map fun i => vecD w (mulT w A B i))]) ⟨⟨none, none, rfl⟩, by simp⟩ ?_ ?_
  · rintro m x ρ st' hx ⟨⟨r, p, rfl⟩, rfl⟩
    obtain ⟨hm, rfl⟩ := map_at.mp hx
    have hm' : m < w := hm
    have hz : ((rowD w (A m)).zip ((List.range w).map fun i => vecD w (B i))).map Px.pairD = (List.range w).map fun k => D.tup [.int (A m k), vecD w (B k)] := zip_rng
    have hlst : (lstOf (st ++ [.lst ((List.range m).map fun i => vecD w (mulT w A B i))]) (.cell st.length)).isSome = true := by
      unfold lstOf; rw [look_at get_last]; rfl
    refine ⟨_, setT_name, ?_⟩
    simp [tabD, vecD, and_assoc, W_comp, rng1n (show w < 1000000 by omega)]
    have hz' : ((rowD w (A m)).zip ((List.range w).map fun i => D.tup (rowD w (B i)))).map Px.pairD = (List.range w).map fun k => D.tup [.int (A m k), vecD w (B k)] := hz
    rw [hz']
    have hlst' : (lstOf (st ++ [.lst ((List.range m).map fun i => D.tup (rowD w (mulT w A B i)))]) (.cell st.length)).isSome = true := hlst
    refine ⟨by omega, hlst', by omega, ?_⟩
    refine W_compR (fun j => .int (mulT w A B m j)) (fun j x hx => ⟨_, setT_name, ?_⟩) ?_
    · obtain ⟨hj, rfl⟩ := rng_at.mp hx
      simp [wipeE, W_comp, walkOf, and_assoc]
      refine ⟨by omega, ?_⟩
      refine W_compR (fun k => .int (A m k * B k j)) (fun k x hx => ?_) ?_
      · obtain ⟨hk, rfl⟩ := map_at.mp hx
        refine ⟨_, by simp; rfl, ?_⟩
        simp [vecD, atI_row hj]
        exact mulOk_bd (hA m k) (hB k j) hab
      · simp only [List.length_map, List.length_range, W_mkL0, sum_rng]
        exact ⟨by omega, by first | trivial | rfl, by first | trivial | rfl⟩
    · simp only [List.length_map, List.length_range]
      refine ⟨by omega, ?_⟩
      rw [W_append get_last (by simp; try omega), set_last]
      simp [guardOk, List.range_succ, vecD, rowD, tabD]
  · rintro ρ st' ⟨⟨r, p, rfl⟩, rfl⟩
    simp only [onNx_nx, W_seq, W_ret, W_prim, W_consF, W_var, W_nilF, List.getElem?_cons_succ, List.getElem?_cons_zero, Option.some.injEq, exists_eq_left']
    rw [W_tupleC get_last]
    refine ⟨by simp; omega, ?_⟩
    simp only [List.length_map, List.length_range]
    exact (W_closeW (d := tabD w w (mulT w A B)) wf nc_tab).mpr ⟨rfl, rfl⟩
end
section
variable {X : XQ} {st : Store} {Q : D → Store → Prop}
theorem r_still_table {w : Nat} (hw : w ≤ 7) : Fstill_table.run [.int w] st = .ok (tabD w w oneT) st := by
  refine W.eqn' ?_
  rw [rnstill_table]
  have hL := limV'
  generalize hi : (w : Int) = i
  refine W_run (ρ0 := [some (.int i), none, none]) rfl ?_
  have hri : rngOf [.int i] = some ((List.range w).map fun (k : Nat) => D.int (k : Int)) := by rw [← hi]; exact rng1n (by omega)
  unfold bstill_table
  simp [W_comp, hri]
  refine ⟨by omega, ?_⟩
  refine W_compR (fun i => vecD w (oneT i)) (fun i x hx => ⟨_, setT_name, ?_⟩) ?_
  · obtain ⟨hi, rfl⟩ := rng_at.mp hx
    simp [wipeE, W_comp, hri]
    refine ⟨by omega, ?_⟩
    refine W_compR (fun j => .int (oneT i j)) (fun j x hx => ⟨_, setT_name, ?_⟩) ?_
    · obtain ⟨hj, rfl⟩ := rng_at.mp hx
      simp [wipeE, oneT]
      split <;> split <;> omega
    · simp only [List.length_map, List.length_range, W_tupleL, W_mkT]
      exact ⟨by omega, rfl, trivial⟩
  · simp only [List.length_map, List.length_range, W_tupleL, W_mkT]
    refine ⟨by omega, ?_⟩
    rw [W_close_self]
    exact ⟨rfl, rfl⟩
theorem r_power_of {w a : Nat} {A : Tn} {e : Nat} (hA : bdT a A) (he : e < 256) (ha : a ≤ 150) (hw : w ≤ 7) (wf : Wf st) : Fpower_of.run [tabD w w A, .int e] st = .ok (tabD w w (powT w A e)) st := by
  refine W.eqn' ?_
  rw [rnpower_of]
  have hL := limV'
  generalize hT : tabD w w A = T
  refine W_run (ρ0 := [some T, some (.int e), none, none, none, none]) rfl ?_
  unfold bpower_of
  subst hT
  have hlen : lenD st (tabD w w A) = some w := by unfold tabD; simp
  simp [hlen, r_still_table hw]
  -- base B, found F, left l, all bounded
  have key : ∀ (n : Nat) (l : Nat) (B G : Tn) (b g : Nat) (T : Option D) (Q : F → Store → Prop), l < 2 ^ n → bdT b B → bdT g G → g + 2 ^ (n + 1) * (b + 3) ≤ 90000 + (b + 3) → 
      (∀ G' B', EqT w w G' (mulT w (powT w B l) G) → Q (.nx [T, some (.int e), some (.int w), some (tabD w w G'), some (tabD w w B'), some (.int 0)]) st) →
      ∀ m, n < m → W (whileLoop (cmpF .Gt (varD 5) (conF (.int 0))) (seqF (ifS (cmpF .Eq (binF 0 .Mod (varD 5) (conF (.int 2))) (conF (.int 1)))
        (seqF (asgF (.name 3) (callF Fproduct (consF (varD 4) (consF (varD 3) (consF (varD 2) nilF))) [] nilF))
        nilS)
        nilS)
        (seqF (parF 4 5 (consF (callF Fproduct (consF (varD 4) (consF (varD 4) (consF (varD 2) nilF))) [] nilF) (consF (binF 0 .FloorDiv (varD 5) (conF (.int 2))) nilF)))
        nilS)) m [T, some (.int e), some (.int w), some (tabD w w G), some (tabD w w B), some (.int l)] st) Q noX := by
    intro n
    induction n with
    | zero =>
      intro l B G b g T Q hl hB hG hbg k m hm
      obtain ⟨m, rfl⟩ : ∃ m', m = m' + 1 := ⟨m - 1, by omega⟩
      have : l = 0 := by simpa using hl
      subst this
      rw [W_while]
      simp
      exact k G B fun i hi j _ => (mulT_oneL hi).symm
    | succ n ih =>
      intro l B G b g T Q hl hB hG hbg k m hm
      obtain ⟨m, rfl⟩ : ∃ m', m = m' + 1 := ⟨m - 1, by omega⟩
      rw [W_while]
      by_cases h0 : l = 0
      · subst h0
        simp
        exact k G B fun i hi j _ => (mulT_oneL hi).symm
      · have hp : 2 ^ (n + 1 + 1) * (b + 3) = 4 * (2 ^ n * (b + 3)) := by rw [show (2 : Nat) ^ (n + 1 + 1) = 4 * 2 ^ n by rw [Nat.pow_succ, Nat.pow_succ]; omega, Nat.mul_assoc]
        have hq : b + 3 ≤ 2 ^ n * (b + 3) := Nat.le_mul_of_pos_left _ (Nat.two_pow_pos n)
        have hB2 : bdT (b + b + 3) (mulT w B B) := hB.mul hB hw
        have hs : 2 ^ (n + 1) * (b + b + 3 + 3) = 4 * (2 ^ n * (b + 3)) := by rw [show b + b + 3 + 3 = 2 * (b + 3) by omega, ← hp, Nat.pow_succ 2 (n + 1), Nat.mul_assoc]
        have hd : l / 2 < 2 ^ n := by rw [Nat.pow_succ] at hl; omega
        have hpos : (0 : Int) < (l : Int) := by omega
        have hdi : ((l : Int) / 2) = ((l / 2 : Nat) : Int) := by omega
        have pB := r_product (st := st) hB hB (by omega) hw wf
        simp only [W_cmp, W_var, W_con, List.getElem?_cons_succ, List.getElem?_cons_zero, Option.some.injEq, exists_eq_left', W_gt, truth_bl, decide_eq_true hpos, if_true, W_seq, W_ifS, W_bin, W_mod, W_eqI]
        refine ⟨by decide, ?_⟩
        have fin : ∀ G' : Tn, bdT (g + (b + 3)) G' → EqT w w (mulT w (powT w (mulT w B B) (l / 2)) G') (mulT w (powT w B l) G) → W (whileLoop (cmpF .Gt (varD 5) (conF (.int 0))) (seqF (ifS (cmpF .Eq (binF 0 .Mod (varD 5) (conF (.int 2))) (conF (.int 1)))
            (seqF (asgF (.name 3) (callF Fproduct (consF (varD 4) (consF (varD 3) (consF (varD 2) nilF))) [] nilF))
            nilS)
            nilS)
            (seqF (parF 4 5 (consF (callF Fproduct (consF (varD 4) (consF (varD 4) (consF (varD 2) nilF))) [] nilF) (consF (binF 0 .FloorDiv (varD 5) (conF (.int 2))) nilF)))
            nilS)) m [T, some (.int e), some (.int w), some (tabD w w G'), some (tabD w w (mulT w B B)), some (.int ((l / 2 : Nat) : Int))] st) Q noX := fun G' hG' hE =>
          ih (l / 2) (mulT w B B) G' (b + b + 3) (g + (b + 3)) T Q hd hB2 hG' (by omega) (fun G'' B' h => k G'' B' (h.trans hE)) m (by omega)
        by_cases h1 : (l : Int) % 2 = 1
        · have pG := r_product (st := st) hB hG (by omega) hw wf
          simp only [h1, beq_self_eq_true, if_true]
          simp only [W_seq, W_asg, W_call, W_consF, W_var, W_nilF, List.getElem?_cons_succ, List.getElem?_cons_zero, Option.some.injEq, exists_eq_left', bdproduct_0, pB, pG, W_ok, setT_name, List.set_cons_succ, List.set_cons_zero, onNx_nx, W_nilS, W_par, W_bin, W_con, W_fdiv, onWh_nx, hdi]
          refine ⟨by decide, _, _, rfl, ?_⟩
          refine fin _ ((hB.mul hG hw).mono (by omega)) ?_
          have hl2 : l = 2 * (l / 2) + 1 := by omega
          rw [← mulT_assoc]
          refine EqT.mul ?_ .rfl
          refine (EqT.mul powT_dbl .rfl).trans ?_
          refine powT_succ'.symm.trans ?_
          rw [← hl2]; exact .rfl
        · rw [if_neg (by simpa using h1)]
          simp only [W_seq, W_asg, W_call, W_consF, W_var, W_nilF, List.getElem?_cons_succ, List.getElem?_cons_zero, Option.some.injEq, exists_eq_left', bdproduct_0, pB,  W_ok, setT_name, List.set_cons_succ, List.set_cons_zero, onNx_nx, W_nilS, W_par, W_bin, W_con, W_fdiv, onWh_nx, hdi]
          refine ⟨by decide, _, _, rfl, ?_⟩
          refine fin _ (hG.mono (by omega)) ?_
          have hl2 : l = 2 * (l / 2) := by omega
          refine EqT.mul (powT_dbl.trans ?_) .rfl
          rw [← hl2]; exact .rfl
  refine ⟨_, _, _, ⟨rfl, rfl, rfl⟩, key 8 e A oneT a 1 _ _ (by omega) hA bd_one (by omega) (fun G' B' h => ?_) 300 (by decide)⟩
  simp
  exact tabD_congr (h.trans fun i _ j hj => mulT_oneR hj)
end
section
variable {X : XQ} {st : Store} {Q : D → Store → Prop} {mu : Nat}
@[simp] theorem len_tab {m w : Nat} {f : Tn} : lenD st (tabD m w f) = some m := by unfold tabD; simp
@[simp] theorem len_vec {w : Nat} {f : Nat → Int} : lenD st (vecD w f) = some w := by unfold vecD; simp
theorem walk_tab {m w : Nat} {f : Tn} : walkOf (tabD m w f) st = some ((List.range m).map fun i => vecD w (f i), none) := rfl
theorem walk_vec {w : Nat} {f : Nat → Int} : walkOf (vecD w f) st = some (rowD w f, none) := rfl
/-- all rows but the first -/
def dnT (M : Tn) : Tn := fun i j => M (i + 1) j
theorem dn_up {f : Tn} : dnT (upT f) = f := rfl
@[simp] theorem slc_tab {n w : Nat} {M : Tn} : W (slcD mu (tabD (n + 1) w M) (some 1) none st) Q X ↔ Q (tabD n w (dnT M)) st := by
  unfold tabD
  rw [W_slcT, rowsD_succ, cut1]; exact Iff.rfl
@[simp] theorem slc_vec {w : Nat} {f : Nat → Int} : W (slcD mu (vecD (w + 1) f) (some 1) none st) Q X ↔ Q (vecD w fun j => f (j + 1)) st := by
  unfold vecD
  rw [W_slcT, rowD_succ, cut1]
theorem ix_vec {w k : Nat} {f : Nat → Int} (h : k < w) : W (ixD (vecD w f) (.int (k : Int)) st) Q X ↔ Q (.int (f k)) st := by
  unfold vecD
  rw [W_ixT, atI_row h]; simp
theorem ix_vec0 {w : Nat} {f : Nat → Int} : W (ixD (vecD (w + 1) f) (.int 0) st) Q X ↔ Q (.int (f 0)) st := ix_vec (k := 0) (by omega)
theorem ix_tab {m w k : Nat} {f : Tn} (h : k < m) : W (ixD (tabD m w f) (.int (k : Int)) st) Q X ↔ Q (vecD w (f k)) st := by
  unfold tabD
  rw [W_ixT, atI_nat (map_at.mpr ⟨h, rfl⟩)]; simp
@[simp] theorem lookN_forms {d : D} : lookN "forms" ["forms"] [d] = some d := rfl
theorem bd_dn {b : Nat} {M : Tn} (h : bdT b M) : bdT b (dnT M) := fun i j => h (i + 1) j
/-- the step done behind another -/
def joinT (n : Nat) (f g : Tn) : Tn := dnT (mulT (n + 1) (upT g) (upT f))
theorem r_Step_power {n a e : Nat} {f : Tn} (hf : bdT a f) (ha : 1 ≤ a) (ha2 : a ≤ 150) (he : e < 256) (h1 : 1 ≤ n) (h4 : n ≤ 4) (wf : Wf st) : FStep_power.run [stepD n f, .int e] st = .ok (stepD n (dnT (powT (n + 1) (upT f) e))) st := by
  refine W.eqn' ?_
  rw [rnStep_power]
  refine W_run (ρ0 := [some (stepD n f), some (.int (e : Int)), none]) rfl ?_
  have hp := r_power_of (st := st) (bd_up hf ha) he ha2 (show n + 1 ≤ 7 by omega) wf
  have hneg : ¬ ((e : Int) < 0) := by omega
  unfold bStep_power
  simp [r_table_of (show n ≤ 6 by omega), hneg]
  refine ⟨rfl, ?_⟩
  rw [hp]
  simp [mk_step h1 h4 wf]
theorem r_Step_eqB {n : Nat} {f g : Tn} : ∃ b, FStep_eq.run [stepD n f, stepD n g] st = .ok (.bl b) st ∧ (b = true ↔ EqT n (n + 1) f g) := by
  refine ⟨PyData.eqv (pyTab n (n + 1) f) (pyTab n (n + 1) g), W.eqn' ?_, eqv_tab⟩
  rw [rnStep_eq]
  refine W_run (ρ0 := [some (stepD n f), some (stepD n g)]) rfl ?_
  unfold bStep_eq
  have hc : oc.contains "Step" = true := by decide
  simp [W_eq, eqD_tab]
end
/-! ### the law's own -/
section
variable {X : XQ} {st : Store} {Q : D → Store → Prop} {mu : Nat}
theorem w_draw {n : Nat} {k : Int} (hk : Dk n st) (h0 : 0 < k) (h1 : k < 1073741824) : W (F_law_draw.run [.cell 1, .int k] st) (fun d st' => ∃ r, d = .int r ∧ 0 ≤ r ∧ r < k ∧ Dk n st') noX :=
  draw_W hk h0 h1 (by decide) (by decide) (by decide) (by decide) (by decide)
theorem w_deck {ns : List Int} (h : ns.length ≤ 63) : W (F_law_deck.run [.lck (ns.map .int)] []) (fun d st' => d = .cell 1 ∧ Dk 2 st') noX :=
  deck_W h rfl (by decide) (by decide) (by decide)
theorem w_pickL {n : Nat} {xs : List D} (hk : Dk n st) (h0 : xs ≠ []) (h1 : xs.length < 1000000) : W (F_law_pick.run [.cell 1, .lst xs] st) (fun d st' => d ∈ xs ∧ Dk n st') noX := by
  rw [rn_law_pick]
  refine W_run (ρ0 := [some (.cell 1), some (.lst xs)]) rfl ?_
  unfold b_law_pick
  simp
  refine (w_draw (k := (xs.length : Int)) hk (by have := List.length_pos_iff.mpr h0; omega) (by omega)).go ?_
  rintro _ st' ⟨r, rfl, r0, r1, hk'⟩
  obtain ⟨d, e, hm⟩ := atI_ok (xs := xs) r0 r1
  simp only [W_ixL]
  refine ⟨d, e, ?_⟩
  rw [W_close (by rw [hk'.len, hk.len])]
  exact ⟨hm, hk'⟩
theorem rng_down {n : Nat} (hn : n ≤ 1000) : rngOf [.int ((n : Int) - 1), .int (-1), .int (-1)] = some ((List.range n).map fun k => D.int (((n - 1 - k : Nat)) : Int)) := by
  show (if _ then some _ else none) = _
  rw [if_pos (by simp; omega)]
  have e : (((n : Int) - 1) - (-1)).toNat = n := by omega
  rw [e]
  refine congrArg some (List.map_congr_left fun k hk => ?_)
  have := List.mem_range.mp hk
  exact congrArg D.int (by omega)
theorem Sm_rev {n : Nat} {f : Nat → Int} : Sm n (fun k => f (n - 1 - k)) = Sm n f := by
  induction n with
  | zero => rfl
  | succ n ih =>
    rw [Sm_front, Sm]
    have e : (fun i => f (n + 1 - 1 - (i + 1))) = fun i => f (n - 1 - i) := by funext i; congr 1; omega
    rw [e, ih]
    simp; omega
theorem ix_vecS {w k : Nat} {f : Nat → Int} (h : k + 1 < w) : W (ixD (vecD w f) (.int ((k : Int) + 1)) st) Q X ↔ Q (.int (f (k + 1))) st := ix_vec (k := k + 1) h
theorem r_law_joined {n a b : Nat} {f g : Tn} (hf : bdT a f) (hg : bdT b g) (hab : a + b ≤ 90000) (hn : n ≤ 6) (wf : Wf st) : F_law_joined.run [tabD n (n + 1) f, tabD n (n + 1) g] st = .ok (tabD n (n + 1) (joinT n f g)) st := by
  refine W.eqn' ?_
  rw [rn_law_joined]
  refine W_run (ρ0 := [some (tabD n (n + 1) f), some (tabD n (n + 1) g), none, none, none, none, none]) rfl ?_
  have hL := limV'
  unfold b_law_joined
  simp [walk_tab, and_assoc]
  refine W_forR0 (fun m ρ st' => (∃ p q s, ρ = [some (tabD n (n + 1) f), some (tabD n (n + 1) g), some (.cell st.length), p, q, s, none]) ∧ st' = st ++ [.lst ((List.range m).map fun i => vecD (n + 1) (joinT n f g i))]) ⟨⟨none, none, none, rfl⟩, by simp⟩ ?_ ?_
  · rintro m x ρ st' hx ⟨⟨p, q, s, rfl⟩, rfl⟩
    obtain ⟨hm, rfl⟩ := map_at.mp hx
    refine ⟨_, setT_name, ?_⟩
    have hb : bdT (1 + a) (upT f) := bd_up (hf.mono (by omega)) (by omega)
    have hlst : (lstOf (st ++ [.lst ((List.range m).map fun i => vecD (n + 1) (joinT n f g i))]) (.cell st.length)).isSome = true := by
      unfold lstOf; rw [look_at get_last]; rfl
    simp [ix_vec0]
    refine ⟨by omega, ?_⟩
    rw [W_mulL (by omega) (by simp; omega) (by omega)]
    rw [W_mkL0]
    refine ⟨by simp; omega, ?_⟩
    rw [W_addL, W_mkL0]
    refine ⟨by simp; omega, ?_⟩
    refine ⟨_, rng1n (show n < 1000000 by omega), ?_⟩
    have e0 : [D.int (g m 0)] ++ (List.replicate (n : Int).toNat [D.int 0]).flatten = rowD (n + 1) fun j => g m 0 * oneT 0 j + Sm 0 fun l => g m (l + 1) * f l j := by
      rw [rowD_succ]
      have e1 : (List.replicate (n : Int).toNat [D.int 0]).flatten = List.replicate n (D.int 0) := by
        rw [Int.toNat_natCast]
        simp
      rw [e1]
      simp [oneT, Sm]
      symm
      rw [List.eq_replicate_iff]
      refine ⟨by simp, fun x hx => ?_⟩
      obtain ⟨j, _, rfl⟩ := List.mem_map.mp hx
      rfl
    rw [e0]
    refine W_forR0 (fun k ρ st' => (∃ s, ρ = [some (tabD n (n + 1) f), some (tabD n (n + 1) g), some (.cell st.length), some (vecD (n + 1) (g m)), some (.lst (rowD (n + 1) fun j => g m 0 * oneT 0 j + Sm k fun l => g m (l + 1) * f l j)), s, none]) ∧ st' = st ++ [.lst ((List.range m).map fun i => vecD (n + 1) (joinT n f g i))]) ⟨⟨s, rfl⟩, rfl⟩ ?_ ?_
    · rintro k d ρ st' hd ⟨⟨s', rfl⟩, rfl⟩
      obtain ⟨hk, rfl⟩ := rng_at.mp hd
      refine ⟨_, setT_name, ?_⟩
      have hr1 : rngOf [.int ((n : Int) + 1)] = some ((List.range (n + 1)).map fun (k : Nat) => D.int (k : Int)) := rng1n (n := n + 1) (by omega)
      simp [W_comp, hr1]
      refine ⟨by omega, ?_⟩
      refine W_compR (fun j => .int (g m 0 * oneT 0 j + Sm (k + 1) fun l => g m (l + 1) * f l j)) (fun j d hd => ⟨_, setT_name, ?_⟩) ?_
      · obtain ⟨hj, rfl⟩ := rng_at.mp hd
        simp [wipeE, ix_tab hk, ix_vec hj, ix_vecS (show k + 1 < n + 1 by omega), atI_row hj]
        refine ⟨mulOk_bd (hg m (k + 1)) (hf k j) (by omega), ?_⟩
        simp [Sm]; omega
      · simp only [List.length_map, List.length_range, W_mkL0]
        refine ⟨by omega, ?_⟩
        simp [guardOk, rowD]
    · rintro ρ st' ⟨⟨s', rfl⟩, rfl⟩
      simp [hlst]
      refine ⟨by omega, ?_⟩
      rw [W_append get_last (by simp; omega), set_last]
      have ej : D.tup (rowD (n + 1) fun j => g m 0 * oneT 0 j + Sm n fun l => g m (l + 1) * f l j) = vecD (n + 1) (joinT n f g m) := by
        refine congrArg D.tup (rowD_congr fun j _ => ?_)
        show _ = Sm (n + 1) fun k => g m k * upT f k j
        rw [Sm_front]; rfl
      rw [ej]
      simp [guardOk, List.range_succ]
  · rintro ρ st' ⟨⟨p, q, s, rfl⟩, rfl⟩
    simp
    rw [W_tupleC get_last]
    simp
    refine ⟨by omega, ?_⟩
    exact (W_closeW (d := tabD n (n + 1) (joinT n f g)) wf nc_tab).mpr ⟨rfl, rfl⟩
end
section
variable {X : XQ} {st : Store} {Q : D → Store → Prop} {mu : Nat}
theorem up_dn {n : Nat} {M : Tn} (h : ∀ j, j < n + 1 → M 0 j = oneT 0 j) : EqT (n + 1) (n + 1) (upT (dnT M)) M := fun i _ j hj => by
  cases i with
  | zero => exact (h j hj).symm
  | succ i => rfl
theorem dn_congr {n w : Nat} {A B : Tn} (h : EqT (n + 1) w A B) : EqT n w (dnT A) (dnT B) := fun i hi j hj => h (i + 1) (by omega) j hj
theorem up_congr {n : Nat} {f g : Tn} (h : EqT n (n + 1) f g) : EqT (n + 1) (n + 1) (upT f) (upT g) := fun i hi j hj => by
  cases i with
  | zero => rfl
  | succ i => exact h i (by omega) j hj
theorem mul0 {n j : Nat} {f : Tn} {B : Tn} (hB : B 0 j = oneT 0 j) : mulT (n + 1) (upT f) B 0 j = oneT 0 j := by
  rw [← hB]
  exact mulT_oneL (A := B) (i := 0) (by omega)
theorem pow0 {n : Nat} {f : Tn} {j : Nat} : ∀ m : Nat, powT (n + 1) (upT f) m 0 j = oneT 0 j
  | 0 => rfl
  | m + 1 => mul0 (pow0 m)
theorem up_one : upT (dnT oneT) = oneT := by
  funext i j
  cases i <;> rfl
theorem join_assoc {n : Nat} {f g h : Tn} : EqT n (n + 1) (joinT n (joinT n f g) h) (joinT n f (joinT n g h)) := by
  refine dn_congr (A := mulT (n + 1) (upT h) (upT (dnT (mulT (n + 1) (upT g) (upT f))))) (B := mulT (n + 1) (upT (dnT (mulT (n + 1) (upT h) (upT g)))) (upT f)) ?_
  refine (EqT.mul .rfl (up_dn fun j _ => mul0 (f := g) (B := upT f) rfl)).trans ?_
  refine EqT.trans ?_ (EqT.mul (up_dn fun j _ => mul0 (f := h) (B := upT g) rfl) .rfl).symm
  rw [mulT_assoc]; exact .rfl
theorem join_oneR {n : Nat} {f : Tn} : EqT n (n + 1) (joinT n f (dnT oneT)) f := by
  unfold joinT; rw [up_one]
  exact dn_congr fun i hi j _ => mulT_oneL hi
theorem join_oneL {n : Nat} {f : Tn} : EqT n (n + 1) (joinT n (dnT oneT) f) f := by
  unfold joinT; rw [up_one]
  exact dn_congr fun i _ j hj => mulT_oneR hj
theorem join_pow {n a b : Nat} {f : Tn} : EqT n (n + 1) (joinT n (dnT (powT (n + 1) (upT f) a)) (dnT (powT (n + 1) (upT f) b))) (dnT (powT (n + 1) (upT f) (a + b))) := by
  refine dn_congr ?_
  refine (EqT.mul (up_dn fun j _ => pow0 b) (up_dn fun j _ => pow0 a)).trans ?_
  rw [Nat.add_comm a b]
  exact powT_add.symm
theorem join_pow1 {n a : Nat} {f : Tn} : EqT n (n + 1) (joinT n (dnT (powT (n + 1) (upT f) a)) f) (dnT (powT (n + 1) (upT f) (a + 1))) := by
  refine dn_congr ?_
  exact EqT.mul .rfl (up_dn fun j _ => pow0 a)
theorem unit_row {w k : Nat} (h : k < w) : List.replicate k (D.int 0) ++ ([D.int 1] ++ List.replicate (w - 1 - k) (D.int 0)) = rowD w (oneT k) := by
  refine List.ext_getElem ?_ fun i h1 h2 => ?_
  · simp; omega
  · simp only [rowD, List.getElem_map, List.getElem_range, oneT]
    by_cases e : i < k
    · rw [List.getElem_append_left (by simpa using e)]
      simp; omega
    · rw [List.getElem_append_right (by simpa using e)]
      by_cases e2 : i = k
      · subst e2; simp
      · rw [List.getElem_append_right (by simp; omega)]
        simp; omega
end
end K08

namespace K08
open PySem PySem.Spec PyProof.Rows L2 Px
/-! ### courses -/
section
variable {X : XQ} {st : Store} {Q : D → Store → Prop} {mu : Nat}
@[simp] theorem W_eqS {F : Fn} {neg : Bool} {ns ns' : List Str} {us us' : List D} : W (eqO oc "Step" neg F (.obj "Step" ns us) (.obj "Step" ns' us') st) Q X ↔ ∃ vs, F.bind [.obj "Step" ns us, .obj "Step" ns' us'] [] [] = some vs ∧ W (F.run vs st) (fun d st' => ∃ b, d = .bl b ∧ Q (.bl (neg.xor b)) st') X := W_eqO rfl
@[simp] theorem lk_power {d : D} : lookN "power" ["forms"] [d] = none := rfl
theorem r_turn_number {n : Nat} (h1 : 1 ≤ n) (h4 : n ≤ 4) : Fturn_number.run [.int n] st = .ok (.int (turnN n)) st := by
  refine W.eqn' ?_
  rw [rnturn_number]
  generalize hi : (n : Int) = i
  refine W_run (ρ0 := [some (.int i)]) rfl ?_
  unfold bturn_number
  subst hi
  obtain rfl | rfl | rfl | rfl : n = 1 ∨ n = 2 ∨ n = 3 ∨ n = 4 := by omega
  all_goals
    simp only [W_seq, W_ret, W_ix, W_con, W_var, List.getElem?_cons_zero, Option.some.injEq, exists_eq_left']
    rw [W_ixT]
    refine ⟨_, rfl, ?_⟩
    simp [turnN]
def pwT (n : Nat) (f : Tn) (k : Nat) : Tn := dnT (powT (n + 1) (upT f) k)
def seqK (n : Nat) (f : Tn) (k : Nat) : NestedKey := nkTab n (n + 1) (pwT n f k)
theorem seq_eq {n s t : Nat} {f : Tn} : seqK n f s = seqK n f t ↔ EqT n (n + 1) (pwT n f s) (pwT n f t) := nkTab_inj
theorem seq_full {n s t : Nat} {f : Tn} (h : EqT n (n + 1) (pwT n f s) (pwT n f t)) : EqT (n + 1) (n + 1) (powT (n + 1) (upT f) s) (powT (n + 1) (upT f) t) := fun i hi j hj => by
  cases i with
  | zero => rw [pow0, pow0]
  | succ i => exact h i (by omega) j hj
theorem seq_step {n : Nat} {f : Tn} (s t : Nat) (h : seqK n f s = seqK n f t) : seqK n f (s + 1) = seqK n f (t + 1) := by
  rw [seq_eq] at h ⊢
  exact dn_congr (EqT.mul .rfl (seq_full h))
theorem seq_turn {n i0 d : Nat} {f : Tn} (h1 : 1 ≤ n) (h4 : n ≤ 4) (hd0 : 1 ≤ d) (hd : d ≤ 125) (h : seqK n f i0 = seqK n f (i0 + d)) {k : Nat} (hk : n ≤ k) : seqK n f (k + turnN n) = seqK n f k := by
  rw [seq_eq] at h ⊢
  exact dn_congr (come_round (F := upT f) h1 h4 (fun j => rfl) hd0 hd (seq_full h) k hk)
theorem r_pw {n a e : Nat} {f : Tn} (hf : bdT a f) (ha : 1 ≤ a) (ha2 : a ≤ 150) (he : e < 256) (h1 : 1 ≤ n) (h4 : n ≤ 4) (wf : Wf st) : FStep_power.run [stepD n f, .int e] st = .ok (stepD n (pwT n f e)) st := r_Step_power hf ha ha2 he h1 h4 wf
theorem r_eqS {n s t : Nat} {f : Tn} : FStep_eq.run [stepD n (pwT n f s), stepD n (pwT n f t)] st = .ok (.bl (decide (seqK n f s = seqK n f t))) st := by
  obtain ⟨b, e, h⟩ := r_Step_eqB (st := st) (n := n) (f := pwT n f s) (g := pwT n f t)
  rw [e]
  have : b = decide (seqK n f s = seqK n f t) := by
    rw [← seq_eq] at h
    cases b with
    | true => exact (decide_eq_true (h.mp rfl)).symm
    | false => exact (decide_eq_false fun q => nomatch h.mpr q).symm
  rw [this]
theorem r_course_of {n a s d T : Nat} {f : Tn} (hf : bdT a f) (ha : 1 ≤ a) (ha2 : a ≤ 150) (h1 : 1 ≤ n) (h4 : n ≤ 4) (wf : Wf st) (hd : 1 ≤ d) (hs : s ≤ 4) (hdT : d ≤ T) (hT : T ≤ 120)
    (hidx : ∀ k, seqK n f (k + T) = seqK n f k ↔ s ≤ k) (hper : ∀ m, 0 < m → (seqK n f (s + m) = seqK n f s ↔ d ∣ m)) : Fcourse_of.run [stepD n f, .int T] st = .ok (.tup [.int s, .int d]) st := by
  refine W.eqn' ?_
  rw [rncourse_of]
  have hL := limV'
  have pw : ∀ e : Nat, e < 256 → FStep_power.run [stepD n f, .int e] st = .ok (stepD n (pwT n f e)) st := fun e he => r_pw hf ha ha2 he h1 h4 wf
  generalize hTT : (T : Int) = Ti
  refine W_run (ρ0 := [some (stepD n f), some (.int Ti), none, none]) rfl ?_
  subst hTT
  unfold bcourse_of
  have loop1 : ∀ (j i : Nat) (z : Option D) (m : Nat) (P : F → Store → Prop), i + j = s → j < m → P (.nx [some (stepD n f), some (.int (T : Int)), some (.int (s : Int)), z]) st →
      W (whileLoop (neOF oc "Step" FStep_eq (methF "Step" "power" FStep_power (varD 0) (consF (binF 0 .Add (varD 2) (varD 1)) nilF) [] nilF) (methF "Step" "power" FStep_power (varD 0) (consF (varD 2) nilF) [] nilF)) (seqF (augF 2 false (conF (.int 1)))
        nilS) m [some (stepD n f), some (.int (T : Int)), some (.int (i : Int)), z] st) P noX := by
    intro j
    induction j with
    | zero =>
      intro i z m P hi hm k
      obtain ⟨m, rfl⟩ : ∃ m', m = m' + 1 := ⟨m - 1, by omega⟩
      have hi : i = s := by omega
      subst hi
      rw [W_while]
      have p1 := pw (i + T) (by omega)
      have p2 := pw i (by omega)
      rw [Int.natCast_add] at p1
      have q := (hidx i).mpr (Nat.le_refl _)
      simp [p1, p2, r_eqS, q]
      exact ⟨_, _, ⟨rfl, rfl⟩, rfl, _, _, ⟨rfl, rfl⟩, rfl, k⟩
    | succ j ih =>
      intro i z m P hi hm k
      obtain ⟨m, rfl⟩ : ∃ m', m = m' + 1 := ⟨m - 1, by omega⟩
      rw [W_while]
      have p1 := pw (i + T) (by omega)
      have p2 := pw i (by omega)
      rw [Int.natCast_add] at p1
      have q : ¬ seqK n f (i + T) = seqK n f i := fun e => by have := (hidx i).mp e; omega
      simp [p1, p2, r_eqS, q]
      rw [W_aug (a := (i : Int)) rfl]
      simp
      have := ih (i + 1) z m P (by omega) (by omega) k
      rw [Int.natCast_add] at this
      exact ⟨_, _, ⟨rfl, rfl⟩, rfl, _, _, ⟨rfl, rfl⟩, rfl, this⟩
  have loop2 : ∀ (j p : Nat) (m : Nat) (P : F → Store → Prop), 0 < p → p + j = d → j < m → P (.nx [some (stepD n f), some (.int (T : Int)), some (.int (s : Int)), some (.int (d : Int))]) st →
      W (whileLoop (neOF oc "Step" FStep_eq (methF "Step" "power" FStep_power (varD 0) (consF (binF 0 .Add (varD 2) (varD 3)) nilF) [] nilF) (methF "Step" "power" FStep_power (varD 0) (consF (varD 2) nilF) [] nilF)) (seqF (augF 3 false (conF (.int 1)))
        nilS) m [some (stepD n f), some (.int (T : Int)), some (.int (s : Int)), some (.int (p : Int))] st) P noX := by
    intro j
    induction j with
    | zero =>
      intro p m P hp hi hm k
      obtain ⟨m, rfl⟩ : ∃ m', m = m' + 1 := ⟨m - 1, by omega⟩
      have hi : p = d := by omega
      subst hi
      rw [W_while]
      have p1 := pw (s + p) (by omega)
      have p2 := pw s (by omega)
      rw [Int.natCast_add] at p1
      have q := (hper p hp).mpr (Nat.dvd_refl _)
      simp [p1, p2, r_eqS, q]
      exact ⟨_, _, ⟨rfl, rfl⟩, rfl, _, _, ⟨rfl, rfl⟩, rfl, k⟩
    | succ j ih =>
      intro p m P hp hi hm k
      obtain ⟨m, rfl⟩ : ∃ m', m = m' + 1 := ⟨m - 1, by omega⟩
      rw [W_while]
      have p1 := pw (s + p) (by omega)
      have p2 := pw s (by omega)
      rw [Int.natCast_add] at p1
      have q : ¬ seqK n f (s + p) = seqK n f s := fun e => by have := Nat.le_of_dvd hp ((hper p hp).mp e); omega
      simp [p1, p2, r_eqS, q]
      rw [W_aug (a := (p : Int)) rfl]
      simp
      have := ih (p + 1) m P (by omega) (by omega) (by omega) k
      rw [Int.natCast_add] at this
      exact ⟨_, _, ⟨rfl, rfl⟩, rfl, _, _, ⟨rfl, rfl⟩, rfl, this⟩
  simp
  refine loop1 s 0 _ 300 _ (by omega) (by omega) ?_
  simp
  refine loop2 (d - 1) 1 300 _ (by omega) (by omega) (by omega) ?_
  simp [hL]
/-- what the course of a step is -/
def CourseIs (n : Nat) (f : Tn) (c : Option (Nat × Nat)) : Prop := match c with
  | none => ∀ s t, s < t → t ≤ n + 1 + turnN n → seqK n f s ≠ seqK n f t
  | some (s, d) => 0 < d ∧ s + d ≤ n + 1 + turnN n ∧ seqK n f s = seqK n f (s + d) ∧ ∀ i j, i < j → j < s + d → seqK n f i ≠ seqK n f j
def crsD : Option (Nat × Nat) → D
  | none => .non
  | some (s, d) => .tup [.int s, .int d]
theorem turn_le {n : Nat} : 2 ≤ turnN n ∧ turnN n ≤ 120 := by
  unfold turnN
  split <;> omega
theorem crs_turn {n s d : Nat} {f : Tn} (h1 : 1 ≤ n) (h4 : n ≤ 4) (h : CourseIs n f (some (s, d))) : s ≤ n ∧ d ∣ turnN n ∧ (∀ k, seqK n f (k + turnN n) = seqK n f k ↔ s ≤ k) ∧ (∀ m, 0 < m → (seqK n f (s + m) = seqK n f s ↔ d ∣ m)) := by
  obtain ⟨hd, hle, e, hmin⟩ := h
  have ht := turn_le (n := n)
  have R : ∀ {k m : Nat}, 0 < m → (seqK n f (k + m) = seqK n f k ↔ s ≤ k ∧ (s + d - s) ∣ m) := fun hm => rho (x := seqK n f) seq_step (show s < s + d by omega) e hmin hm
  rw [show s + d - s = d by omega] at R
  have q := (R (k := n) (m := turnN n) (by omega)).mp (seq_turn h1 h4 hd (by omega) e (Nat.le_refl _))
  refine ⟨q.1, q.2, fun k => ?_, fun m hm => ?_⟩
  · rw [R (by omega)]; exact ⟨fun z => z.1, fun z => ⟨z, q.2⟩⟩
  · rw [R hm]; exact ⟨fun z => z.2, fun z => ⟨Nat.le_refl _, z⟩⟩
theorem crs_far {n : Nat} {f : Tn} {c : Option (Nat × Nat)} (h1 : 1 ≤ n) (h4 : n ≤ 4) (h : CourseIs n f c) : seqK n f (n + 1 + turnN n) = seqK n f (n + 1) ↔ c.isSome = true := by
  have ht := turn_le (n := n)
  cases c with
  | none =>
    refine ⟨fun e => absurd e.symm (h _ _ (by omega) (Nat.le_refl _)), fun e => nomatch e⟩
  | some p =>
    obtain ⟨s, d⟩ := p
    obtain ⟨a, _, b, _⟩ := crs_turn h1 h4 h
    exact ⟨fun _ => rfl, fun _ => (b _).mpr (by omega)⟩
theorem r_Step_course {n a : Nat} {f : Tn} {c : Option (Nat × Nat)} (hf : bdT a f) (ha : 1 ≤ a) (ha2 : a ≤ 150) (h1 : 1 ≤ n) (h4 : n ≤ 4) (wf : Wf st) (hc : CourseIs n f c) : FStep_course.run [stepD n f] st = .ok (crsD c) st := by
  refine W.eqn' ?_
  rw [rnStep_course]
  have hL := limV'
  have ht := turn_le (n := n)
  refine W_run (ρ0 := [some (stepD n f), none, none]) rfl ?_
  unfold bStep_course
  have p1 := r_pw (e := n + 1 + turnN n) hf ha ha2 (by omega) h1 h4 wf
  have p2 := r_pw (e := n + 1) hf ha ha2 (by omega) h1 h4 wf
  rw [Int.natCast_add, Int.natCast_add] at p1
  rw [Int.natCast_add] at p2
  have hfar := crs_far h1 h4 hc
  have htn := r_turn_number (st := st) h1 h4
  simp only [Int.cast_ofNat_Int] at p1 p2
  cases c with
  | none =>
    have q : ¬ seqK n f (n + 1 + turnN n) = seqK n f (n + 1) := fun e => nomatch hfar.mp e
    simp [htn, p1, p2, r_eqS, q, crsD]
    exact ⟨_, _, ⟨rfl, rfl⟩, rfl, _, _, ⟨rfl, rfl⟩, rfl⟩
  | some p =>
    obtain ⟨s, d⟩ := p
    have q := hfar.mpr rfl
    obtain ⟨c1, c2, c3, c4⟩ := crs_turn h1 h4 hc
    have hco := r_course_of (st := st) hf ha ha2 h1 h4 wf hc.1 (by omega) (Nat.le_of_dvd (by omega) c2) ht.2 c3 c4
    simp [htn, p1, p2, r_eqS, q, crsD, hco]
    exact ⟨_, _, ⟨rfl, rfl⟩, rfl, _, _, ⟨rfl, rfl⟩, rfl⟩
end
end K08

namespace K08
open PySem PySem.Spec PyProof.Rows L2 Px
/-! ### the law's own way: all powers, one by one -/
section
variable {X : XQ} {st : Store} {Q : D → Store → Prop} {mu : Nat}
theorem crs_ex {n : Nat} {f : Tn} : ∃ c, CourseIs n f c := by
  by_cases h : ∃ t, t ≤ n + 1 + turnN n ∧ ∃ s, s < t ∧ seqK n f s = seqK n f t
  · -- the first one
    have first : ∀ k t, t ≤ k → t ≤ n + 1 + turnN n → (∃ s, s < t ∧ seqK n f s = seqK n f t) → ∃ t', t' ≤ n + 1 + turnN n ∧ (∃ s, s < t' ∧ seqK n f s = seqK n f t') ∧ ∀ i j, i < j → j < t' → seqK n f i ≠ seqK n f j := by
      intro k
      induction k with
      | zero => intro t h1 _ h2; obtain ⟨s, h3, _⟩ := h2; omega
      | succ k ih =>
        intro t h1 h2 h3
        by_cases q : ∃ j, j < t ∧ ∃ i, i < j ∧ seqK n f i = seqK n f j
        · obtain ⟨j, q1, q2⟩ := q
          exact ih j (by omega) (by omega) q2
        · exact ⟨t, h2, h3, fun i j hij hj e => q ⟨j, hj, i, hij, e⟩⟩
    obtain ⟨t, h1, h2⟩ := h
    obtain ⟨t', a, ⟨s, b, c⟩, d⟩ := first t t (Nat.le_refl _) h1 h2
    refine ⟨some (s, t' - s), ?_⟩
    show 0 < t' - s ∧ s + (t' - s) ≤ _ ∧ seqK n f s = seqK n f (s + (t' - s)) ∧ _
    rw [show s + (t' - s) = t' by omega]
    exact ⟨by omega, a, c, d⟩
  · exact ⟨none, fun s t hst ht e => h ⟨t, ht, s, hst, e⟩⟩
theorem ix_turn {n : Nat} (h1 : 1 ≤ n) (h4 : n ≤ 4) : W (ixD (.dct [.int 1, .int 2, .int 3, .int 4] [.int 2, .int 12, .int 12, .int 120]) (.int (n : Int)) st) Q X ↔ Q (.int (turnN n)) st := by
  obtain rfl | rfl | rfl | rfl : n = 1 ∨ n = 2 ∨ n = 3 ∨ n = 4 := by omega
  all_goals exact Iff.rfl
def seenO (n : Nat) (f : Tn) (m : Nat) : MO := .dn ((List.range m).map fun i => tabD n (n + 1) (pwT n f i)) ((List.range m).map fun (i : Nat) => D.int (i : Int))
theorem wf_seen {n m : Nat} {f : Tn} (wf : Wf st) : Wf (st ++ [seenO n f m]) := wf.snoc (by
  show (belows _ _ && belows _ _) = true
  rw [belows_no _ (noCells_map fun i _ => nc_tab), belows_no _ (noCells_map fun i _ => rfl)]; rfl)
theorem r_law_found {n a : Nat} {f : Tn} {c : Option (Nat × Nat)} (hf : bdT a f) (ha : 1 ≤ a) (ha2 : a ≤ 150) (h1 : 1 ≤ n) (h4 : n ≤ 4) (wf : Wf st) (hc : CourseIs n f c) : F_law_found.run [tabD n (n + 1) f] st = .ok (crsD c) st := by
  refine W.eqn' ?_
  rw [rn_law_found]
  have hL := limV'
  have ht := turn_le (n := n)
  generalize hT : tabD n (n + 1) f = T
  refine W_run (ρ0 := [some T, none, none, none, none, none]) rfl ?_
  unfold b_law_found
  subst hT
  simp [W_comp, rng1n (show n < 1000000 by omega)]
  refine ⟨by omega, ?_⟩
  refine W_compR (fun k => vecD (n + 1) (oneT (k + 1))) (fun k d hd => ⟨_, setT_name, ?_⟩) ?_
  · obtain ⟨hk, rfl⟩ := rng_at.mp hd
    simp [wipeE]
    refine ⟨by omega, by omega, by omega, by omega, by omega, by omega, by omega, ?_⟩
    have e := unit_row (w := n + 1) (k := k + 1) (by omega)
    rw [show n + 1 - 1 - (k + 1) = n - 1 - k by omega] at e
    exact congrArg D.tup e
  · simp only [List.length_map, List.length_range, W_mkL0, W_tupleL, W_mkT]
    refine ⟨by omega, ?_⟩
    have hrng : rngOf [.int ((n : Int) + 2 + (turnN n : Int))] = some ((List.range (n + 2 + turnN n)).map fun (k : Nat) => D.int (k : Int)) := by
      have := rng1n (n := n + 2 + turnN n) (by omega)
      rw [Int.natCast_add, Int.natCast_add] at this
      exact this
    have e0 : (D.tup ((List.range n).map fun k => vecD (n + 1) (oneT (k + 1)))) = tabD n (n + 1) (pwT n f 0) := rfl
    rw [e0]
    simp [kD, ix_turn h1 h4]
    refine ⟨_, _, ⟨rfl, rfl⟩, _, hrng, ?_⟩
    -- the loop
    obtain ⟨L, hLL⟩ : ∃ L, L = (match c with | none => n + 2 + turnN n | some (s, d) => s + d) := ⟨_, rfl⟩
    have hLle : L ≤ n + 2 + turnN n := by
      cases c with
      | none => rw [hLL]; exact Nat.le_refl _
      | some p => obtain ⟨s, d⟩ := p; have := hc.2.1; rw [hLL]; show s + d ≤ _; omega
    have hdist : ∀ i j, i < j → j < L → seqK n f i ≠ seqK n f j := by
      cases c with
      | none => intro i j hij hj; rw [hLL] at hj; exact hc i j hij (by omega)
      | some p => obtain ⟨s, d⟩ := p; intro i j hij hj; rw [hLL] at hj; exact hc.2.2.2 i j hij hj
    refine W_forR0 (fun m ρ st' => m ≤ L ∧ (∃ z, ρ = [some (tabD n (n + 1) f), some (.int (n : Int)), some (tabD n (n + 1) (pwT n f m)), some (.cell st.length), none, z]) ∧ st' = st ++ [seenO n f m]) ⟨Nat.zero_le _, ⟨none, rfl⟩, rfl⟩ ?_ ?_
    · rintro m x ρ st' hx ⟨hm, ⟨z, rfl⟩, rfl⟩
      obtain ⟨hmn, rfl⟩ := rng_at.mp hx
      refine ⟨_, setT_name, ?_⟩
      have hat : (st ++ [seenO n f m])[st.length]? = some (.dn ((List.range m).map fun i => tabD n (n + 1) (pwT n f i)) ((List.range m).map fun (i : Nat) => D.int (i : Int))) := get_last
      have hky := ky_tab (m := n) (w := n + 1) (f := pwT n f m)
      by_cases hlast : m < L
      · have hnone : findN (nkTab n (n + 1) (pwT n f m)) ((List.range m).map fun i => tabD n (n + 1) (pwT n f i)) ((List.range m).map fun (i : Nat) => D.int (i : Int)) = none :=
          find_none fun i hi e => hdist i m hi hlast (seq_eq.mpr (nk_eq.mp e))
        have bk : bdT (m * (a + 3) + 1) (pwT n f m) := bd_dn ((bd_up hf ha).pow (by omega) m)
        have hkk : m * (a + 3) ≤ 130 * 153 := Nat.mul_le_mul (by omega) (by omega)
        have rj := r_law_joined (st := st ++ [seenO n f (m + 1)]) bk hf (by omega) (show n ≤ 6 by omega) (wf_seen wf)
        have ej : tabD n (n + 1) (joinT n (pwT n f m) f) = tabD n (n + 1) (pwT n f (m + 1)) := tabD_congr join_pow1
        rw [ej] at rj
        have hset := dnSet_at (v := .int (m : Int)) hat hky (by simp; omega) hnone
        have hst : (st ++ [seenO n f m]).set st.length (.dn (((List.range m).map fun i => tabD n (n + 1) (pwT n f i)) ++ [tabD n (n + 1) (pwT n f m)]) (((List.range m).map fun (i : Nat) => D.int (i : Int)) ++ [.int (m : Int)])) = st ++ [seenO n f (m + 1)] := by
          rw [set_last]
          unfold seenO
          rw [List.range_succ, List.map_append, List.map_append]; rfl
        rw [hst] at hset
        simp [W_dnIn hat hky, hnone, hset, rj, guardOk]
        omega
      · have hm' : m = L := by omega
        cases c with
        | none => exact absurd hmn (by rw [hm', hLL]; exact Nat.lt_irrefl _)
        | some p =>
          obtain ⟨s, d⟩ := p
          have hmsd : m = s + d := by rw [hm', hLL]
          have hsm : s < m := by have := hc.1; omega
          have es : nkD (tabD n (n + 1) (pwT n f s)) = some (nkTab n (n + 1) (pwT n f m)) := nk_eq.mpr (seq_eq.mp (by rw [hmsd]; exact hc.2.2.1))
          have hsome : findN (nkTab n (n + 1) (pwT n f m)) ((List.range m).map fun i => tabD n (n + 1) (pwT n f i)) ((List.range m).map fun (i : Nat) => D.int (i : Int)) = some (.int (s : Int)) :=
            find_some (val := fun (i : Nat) => D.int (i : Int)) hsm es fun i hi e => hc.2.2.2 i s hi (by omega) (seq_eq.mpr (by
              have e1 := nk_eq.mp e
              have e2 := nk_eq.mp es
              exact e1.trans e2.symm))
          have ed : ((m : Int) - (s : Int)) = (d : Int) := by omega
          simp [W_dnIn hat hky, hsome, W_dnIx hat hky hsome, ed, crsD]
          refine ⟨by omega, ?_⟩
          exact (W_closeW (d := .tup [.int (s : Int), .int (d : Int)]) wf rfl).mpr ⟨rfl, rfl⟩
    · rintro ρ st' ⟨hm, ⟨z, rfl⟩, rfl⟩
      simp at hm
      cases c with
      | none =>
        simp [crsD]
        exact (W_closeW (d := .non) wf rfl).mpr ⟨rfl, rfl⟩
      | some p =>
        obtain ⟨s, d⟩ := p
        have := hc.2.1
        exact absurd hm (by rw [hLL]; show ¬ _ ≤ s + d; omega)
end
end K08

namespace K08
open PySem PySem.Spec PyProof.Rows L2 Px
/-! ### the turn number, counted -/
section
variable {X : XQ} {st : Store} {Q : D → Store → Prop} {mu : Nat}
def divL (a b : Nat) : List Nat := ((List.range (max a b)).filter fun k => a % (k + 1) == 0 && b % (k + 1) == 0).map (· + 1)
def shN (a b : Nat) : Nat := match divL a b with
  | n :: ns => ns.foldl max n
  | [] => 0
theorem ints_cast : ∀ l : List Nat, intsOf (l.map fun k => D.int ((k : Nat) : Int)) = some (l.map fun (k : Nat) => (k : Int))
  | [] => rfl
  | a :: l => by rw [List.map_cons, intsOf, ints_cast l]; rfl
theorem max_cast : ∀ (l : List Nat) (n : Nat), (l.map fun (k : Nat) => (k : Int)).foldl max (n : Int) = ((l.foldl max n : Nat) : Int)
  | [], n => rfl
  | a :: l, n => by
    rw [List.map_cons, List.foldl_cons, List.foldl_cons, ← max_cast l]
    congr 1
    omega
theorem W_maxN {l : List Nat} {n : Nat} {ns : List Nat} (h : l = n :: ns) : W (maxL [.lst (l.map fun k => D.int ((k : Nat) : Int))] st) Q X ↔ Q (.int ((ns.foldl max n : Nat) : Int)) st := by
  have e : maxL [.lst (l.map fun k => D.int ((k : Nat) : Int))] st = .ok (.int ((ns.foldl max n : Nat) : Int)) st := by
    show (match intsOf (l.map fun k => D.int ((k : Nat) : Int)) with | some (n :: ns) => R.ok (D.int (ns.foldl max n)) st | _ => .bad) = _
    rw [ints_cast, h, List.map_cons]
    show R.ok (D.int ((ns.map fun (k : Nat) => (k : Int)).foldl max (n : Int))) st = _
    rw [max_cast]
  rw [e]; exact Iff.rfl
theorem rng_1 {m : Nat} (h : m ≤ 100000) : rngOf [.int 1, .int ((m : Int) + 1)] = some ((List.range m).map fun (k : Nat) => D.int ((k + 1 : Nat) : Int)) := by
  simp only [rngOf]
  rw [if_pos (by simp; omega)]
  have e : (((m : Int) + 1) - 1).toNat = m := by omega
  rw [e]
  refine congrArg some (List.map_congr_left fun k hk => ?_)
  exact congrArg D.int (by omega)
theorem W_max2n {a b : Nat} : W (primD mu .max2 [.int (a : Int), .int (b : Int)] st) Q X ↔ Q (.int ((max a b : Nat) : Int)) st := by
  have hm : (if (b : Int) > (a : Int) then (b : Int) else (a : Int)) = ((max a b : Nat) : Int) := by
    split <;> omega
  rw [← hm]; exact Iff.rfl
theorem r_law_shared {a b : Nat} (ha : 1 ≤ a) (hb : 1 ≤ b) (ha2 : a ≤ 10000) (hb2 : b ≤ 10000) : F_law_shared.run [.int a, .int b] st = .ok (.int (shN a b)) st := by
  refine W.eqn' ?_
  rw [rn_law_shared]
  have hL := limV'
  refine W_run (ρ0 := [some (.int (a : Int)), some (.int (b : Int)), none]) rfl ?_
  unfold b_law_shared
  have hr := rng_1 (m := max a b) (by omega)
  simp [W_comp]
  rw [W_max2n]
  simp [hr]
  refine ⟨by omega, ?_⟩
  refine W_compRF (fun k => a % (k + 1) == 0 && b % (k + 1) == 0) (fun k => .int ((k + 1 : Nat) : Int)) (fun k d hd => ⟨_, setT_name, ?_, fun _ => ?_⟩) ?_
  · obtain ⟨hk, rfl⟩ := map_at.mp hd
    have e1 : ((a : Int) % ((k : Int) + 1) == 0) = (a % (k + 1) == 0) := by
      rw [Bool.eq_iff_iff, beq_iff_eq, beq_iff_eq]
      have : ((a : Int) % ((k : Int) + 1)) = ((a % (k + 1) : Nat) : Int) := by rw [Int.natCast_emod]; rfl
      rw [this]; omega
    have e2 : ((b : Int) % ((k : Int) + 1) == 0) = (b % (k + 1) == 0) := by
      rw [Bool.eq_iff_iff, beq_iff_eq, beq_iff_eq]
      have : ((b : Int) % ((k : Int) + 1)) = ((b % (k + 1) : Nat) : Int) := by rw [Int.natCast_emod]; rfl
      rw [this]; omega
    simp [wipeE]
    have e3 : ((a : Int) % ((k : Int) + 1) = 0) ↔ (a % (k + 1) == 0) = true := by rw [← e1]; simp
    rw [e3, e1, e2]
    cases (a % (k + 1) == 0) <;> simp
  · obtain ⟨hk, rfl⟩ := map_at.mp hd
    simp [wipeE]
  · simp only [List.length_map, List.length_range]
    have hne : divL a b ≠ [] := by
      unfold divL
      rw [Ne, List.map_eq_nil_iff, List.filter_eq_nil_iff]
      intro h
      exact absurd (h 0 (List.mem_range.mpr (by omega))) (by simp [Nat.mod_one])
    obtain ⟨n, ns, hn⟩ := List.exists_cons_of_ne_nil hne
    have el : (((List.range (max a b)).filter fun k => a % (k + 1) == 0 && b % (k + 1) == 0).map fun k => D.int ((k + 1 : Nat) : Int)) = (divL a b).map fun k => D.int ((k : Nat) : Int) := by
      unfold divL; rw [List.map_map]; rfl
    rw [el, W_maxN hn]
    have hlen := List.length_filter_le (fun k => a % (k + 1) == 0 && b % (k + 1) == 0) (List.range (max a b))
    rw [List.length_range] at hlen
    refine ⟨by omega, ?_⟩
    rw [W_close_self]
    refine ⟨?_, rfl⟩
    unfold shN; rw [hn]
def turnS (s : Nat) : Nat → Nat
  | 0 => 1
  | m + 1 => if ((List.range (m + 1)).filter fun j => shN (j + 1) (m + 1) == 1).length ≤ s then turnS s m * (m + 1) / shN (turnS s m) (m + 1) else turnS s m
theorem turnS_bd : ([1, 2, 3, 4].all fun s => (List.range 31).all fun m => decide (1 ≤ turnS s m ∧ turnS s m ≤ 300) && decide (1 ≤ shN (turnS s m) (m + 1) ∧ shN (turnS s m) (m + 1) ≤ 300)) = true := by decide +kernel
theorem turnS_eq : ([1, 2, 3, 4].all fun s => turnS s 30 == turnN s) = true := by decide +kernel
theorem r_law_turn {n : Nat} (h1 : 1 ≤ n) (h4 : n ≤ 4) : F_law_turn.run [.int n] st = .ok (.int (turnN n)) st := by
  refine W.eqn' ?_
  rw [rn_law_turn]
  have hL := limV'
  have hmem : n ∈ [1, 2, 3, 4] := by simp; omega
  have hb : ∀ m, m < 31 → (1 ≤ turnS n m ∧ turnS n m ≤ 300) ∧ 1 ≤ shN (turnS n m) (m + 1) ∧ shN (turnS n m) (m + 1) ≤ 300 := fun m hm => by
    have := List.all_eq_true.mp (List.all_eq_true.mp turnS_bd n hmem) m (List.mem_range.mpr hm)
    simpa using this
  have he : turnS n 30 = turnN n := by
    have := List.all_eq_true.mp turnS_eq n hmem
    simpa using this
  generalize hi : (n : Int) = i
  refine W_run (ρ0 := [some (.int i), none, none, none, none]) rfl ?_
  unfold b_law_turn
  subst hi
  have hr30 : rngOf [.int 1, .int 31] = some ((List.range 30).map fun (k : Nat) => D.int ((k + 1 : Nat) : Int)) := rng_1 (m := 30) (by omega)
  simp
  refine ⟨_, hr30, ?_⟩
  refine W_forR0 (fun m ρ st' => (∃ y z, ρ = [some (.int (n : Int)), some (.int (turnS n m : Int)), y, z, none]) ∧ st' = st) ⟨⟨none, none, rfl⟩, rfl⟩ ?_ ?_
  · rintro m x ρ st' hx ⟨⟨y, z, rfl⟩, rfl⟩
    obtain ⟨hm, rfl⟩ := map_at.mp hx
    refine ⟨_, setT_name, ?_⟩
    have hr := rng_1 (m := m + 1) (by omega)
    have hbm := hb m (by omega)
    have hb1 := hbm.1.1
    have hb2 := hbm.1.2
    have hb3 := hbm.2.1
    have hb4 := hbm.2.2
    have hs := r_law_shared (st := st') (a := turnS n m) (b := m + 1) hb1 (by omega) (by omega) (by omega)
    simp [W_comp]
    refine ⟨_, hr, ?_⟩
    refine ⟨by simp; omega, W_compRF (fun j => shN (j + 1) (m + 1) == 1) (fun j => .int ((j + 1 : Nat) : Int)) (fun j d hd => ?_) ?_⟩
    · obtain ⟨hj, rfl⟩ := map_at.mp hd
      have hs2 : F_law_shared.run [.int ((j : Int) + 1), .int ((m : Int) + 1)] st' = .ok (.int (shN (j + 1) (m + 1))) st' := r_law_shared (a := j + 1) (b := m + 1) (by omega) (by omega) (by omega) (by omega)
      refine ⟨_, setT_name, ?_, fun _ => ?_⟩
      · simp [wipeE, hs2]
        rw [Bool.eq_iff_iff, beq_iff_eq, beq_iff_eq]; omega
      · simp [wipeE]
    · simp only [List.length_map, List.length_range]
      have hlen := List.length_filter_le (fun j => shN (j + 1) (m + 1) == 1) (List.range (m + 1))
      rw [List.length_range] at hlen
      refine ⟨by omega, ?_⟩
      have hs3 : F_law_shared.run [.int (turnS n m : Int), .int ((m : Int) + 1)] st' = .ok (.int (shN (turnS n m) (m + 1))) st' := hs
      by_cases hc : ((List.range (m + 1)).filter fun j => shN (j + 1) (m + 1) == 1).length ≤ n
      · right
        refine ⟨hc, mulOk_bd (a := 10) (b := 10) (by omega) (by omega) (by omega), ?_⟩
        rw [hs3]
        simp [guardOk]
        refine ⟨⟨by omega, by omega⟩, ?_⟩
        rw [turnS, if_pos hc, Int.natCast_ediv, Int.natCast_mul]; rfl
      · left
        refine ⟨by omega, True.intro, ?_, True.intro⟩
        rw [turnS, if_neg hc]
  · rintro ρ st' ⟨⟨y, z, rfl⟩, rfl⟩
    simp [he]
end
end K08

namespace K08
open PySem PySem.Spec PyProof.Rows L2 Px
/-! ### the drawn steps -/
section
variable {X : XQ} {st rest : Store} {Q : D → Store → Prop} {mu : Nat}
theorem w_drawR {k : Int} (hk : DkR rest st) (h0 : 0 < k) (h1 : k < 1073741824) : W (F_law_draw.run [.cell 1, .int k] st) (fun d st' => ∃ r, d = .int r ∧ 0 ≤ r ∧ r < k ∧ DkR rest st') noX :=
  draw_R hk h0 h1 (by decide) (by decide) (by decide) (by decide) (by decide)
theorem w_pickR {xs : List D} (hk : DkR rest st) (h0 : xs ≠ []) (h1 : xs.length < 1000000) : W (F_law_pick.run [.cell 1, .lst xs] st) (fun d st' => d ∈ xs ∧ DkR rest st') noX := by
  rw [rn_law_pick]
  refine W_run (ρ0 := [some (.cell 1), some (.lst xs)]) rfl ?_
  unfold b_law_pick
  simp
  refine (w_drawR (k := (xs.length : Int)) hk (by have := List.length_pos_iff.mpr h0; omega) (by omega)).go ?_
  rintro _ st' ⟨r, rfl, r0, r1, hk'⟩
  obtain ⟨d, e, hm⟩ := atI_ok (xs := xs) r0 r1
  simp only [W_ixL]
  refine ⟨d, e, ?_⟩
  rw [W_close (by rw [hk'.len, hk.len])]
  exact ⟨hm, hk'⟩
theorem made_end {n c : Nat} {found : List D} {X1 X2 : XQ} (hk : DkR rest st) (hc : st[c]? = some (.lst found)) (hl : found.length = n) (hn : n ≤ 4) (hr : ∀ x ∈ found, RowN 5 (n + 1) x) :
    W (primD 0 .tuple [.cell c] st) (fun d st1 => W (Px.close 2 d st1) (fun d st' => (∃ f, d = tabD n (n + 1) f ∧ bdT 5 f) ∧ Dk 2 st') X1) X2 := by
  have hL := limV'
  rw [W_tupleAt hc]
  obtain ⟨f, e, hf⟩ := rows_tab hl hr
  refine ⟨by omega, ?_⟩
  rw [e]
  exact hk.close nc_tab fun st' h => ⟨⟨f, rfl, hf⟩, h⟩
theorem row_app {c0 c1 : Nat} {found row : List D} {X1 X2 : XQ} (hk : DkR rest st) (h0 : rest[c0]? = some (.lst found)) (h1 : rest[c1]? = some (.lst row)) (hl : found.length < 1000) (hr : row.length ≤ 1000)
    (k : ∀ st', DkR (rest.set c0 (.lst (found ++ [.tup row]))) st' → Q .non st') : W (primD 0 .tuple [.cell (c1 + 2)] st) (fun x st1 => W (bmeth .append (.cell (c0 + 2)) [x] st1) Q X1) X2 := by
  have hL := limV'
  rw [W_tupleAt ((hk.at (n := c1)).trans h1)]
  refine ⟨by omega, ?_⟩
  rw [W_append ((hk.at (n := c0)).trans h0) (by omega)]
  exact k _ hk.set
theorem isSome_at {c : Nat} {xs : List D} (hk : DkR rest st) (h : rest[c]? = some (.lst xs)) : (lstOf st (.cell (c + 2))).isSome = true := by
  rw [lstC ((hk.at (n := c)).trans h)]; rfl
theorem w_signs {n : Nat} {i : Int} (hi : i = n) (hk : Dk 2 st) (h1 : 1 ≤ n) (h4 : n ≤ 4) : W (F_law_signs.run [.cell 1, .int i] st) (fun d st' => (∃ f, d = tabD n (n + 1) f ∧ bdT 5 f) ∧ Dk 2 st') noX := by
  rw [rn_law_signs]
  have hL := limV'
  have hri : rngOf [.int i] = some ((List.range n).map fun (k : Nat) => D.int (k : Int)) := by rw [hi]; exact rng1n (by omega)
  have hl2 : st.length = 2 := hk.len
  refine W_run (ρ0 := [some (.cell 1), some (.int i), none, none, none, none]) rfl ?_
  unfold b_law_signs
  simp [hri, hl2, intsN]
  refine ⟨by omega, by omega, _, _, ⟨rfl, rfl⟩, ?_⟩
  have hk0 : DkR [.lst ((List.range n).map fun (k : Nat) => D.int (k : Int)), .lst []] (st ++ [MO.lst (List.map (fun (k : Nat) => D.int (k : Int)) (List.range i.toNat)), MO.lst []]) := by
    have h := (hk.r2.snoc (mo := .lst ((List.range n).map fun (k : Nat) => D.int (k : Int)))).snoc (mo := .lst [])
    rw [hi, Int.toNat_natCast]
    simpa using h
  refine W_forR0 (fun m ρ st' => ∃ left found rows z z2, ρ = [some (.cell 1), some (.int i), some (.cell 2), some (.cell 3), z, z2] ∧ DkR (.lst left :: .lst found :: rows) st' ∧ left.length = n - m ∧ (∀ x ∈ left, ∃ v : Nat, x = .int v ∧ v < n) ∧ found.length = m ∧ (∀ x ∈ found, RowN 5 (n + 1) x))
    ⟨_, _, _, none, none, rfl, hk0, by simp, fun x hx => ?_, rfl, fun x hx => by cases hx⟩ ?_ ?_
  · obtain ⟨v, hv, rfl⟩ := List.mem_map.mp hx
    exact ⟨v, rfl, List.mem_range.mp hv⟩
  · rintro m x ρ st1 hx ⟨left, found, rows, z, z2, rfl, hk1, hl1, hl2, hf1, hf2⟩
    obtain ⟨hm, rfl⟩ := rng_at.mp hx
    refine ⟨_, setT_name, ?_⟩
    simp
    refine (w_drawR hk1 (by decide) (by decide)).go ?_
    rintro _ st2 ⟨r, rfl, r0, r1, hk2⟩
    simp
    refine ⟨by omega, ?_⟩
    subst hi
    rw [W_row0 (by omega)]
    simp
    refine ⟨by omega, by omega, ?_⟩
    have hk3 := hk2.snoc (mo := .lst (D.int (r - 4) :: List.replicate n (D.int 0)))
    refine (w_pickR hk3 (by simp) (by decide)).go ?_
    rintro v st3 ⟨hv, hk3'⟩
    have hv5 : isN 5 v = true := by
      have : ∀ x ∈ [D.int 1, D.int (-1)], isN 5 x = true := by decide
      exact this v hv
    have at2 : st3[2]? = some (.lst left) := hk3'.at (n := 0)
    refine ⟨by rw [lstC at2]; rfl, _, lenC at2, ?_⟩
    refine (w_drawR hk3' (by omega) (by omega)).go ?_
    rintro _ st4 ⟨r2, rfl, s0, s1, hk4⟩
    obtain ⟨k, rfl⟩ := Int.eq_ofNat_of_zero_le s0
    have hkl : k < left.length := by omega
    have at4 : st4[2]? = some (.lst left) := hk4.at (n := 0)
    rw [W_popAt at4 hkl (by omega)]
    obtain ⟨w, ew, hw⟩ := hl2 left[k] (List.getElem_mem hkl)
    rw [ew]
    have hk5 := hk4.set (n := 0) (mo := .lst (left.eraseIdx k))
    simp only [List.cons_append, List.set_cons_zero] at hk5
    have hlen : st2.length = (rows.length + 2) + 2 := hk2.len
    have at5 : (st4.set (0 + 2) (.lst (left.eraseIdx k)))[(rows.length + 2) + 2]? = some (.lst (D.int (r - 4) :: List.replicate n (D.int 0))) := by
      rw [hk5.at]; simp
    have hset := setD_at (v := v) (k := w + 1) at5 (by simp; omega)
    have hk6 := hk5.set (n := rows.length + 2) (mo := .lst ((D.int (r - 4) :: List.replicate n (D.int 0)).set (w + 1) v))
    have e6 : (MO.lst (left.eraseIdx k) :: MO.lst found :: (rows ++ [MO.lst (D.int (r - 4) :: List.replicate n (D.int 0))])).set (rows.length + 2) (.lst ((D.int (r - 4) :: List.replicate n (D.int 0)).set (w + 1) v)) = MO.lst (left.eraseIdx k) :: MO.lst found :: (rows ++ [.lst ((D.int (r - 4) :: List.replicate n (D.int 0)).set (w + 1) v)]) := by
      simp [List.set_append_right]
    rw [e6] at hk6
    have ew1 : (1 : Int) + (w : Int) = ((w + 1 : Nat) : Int) := by omega
    simp only [W_add, ew1, hlen]
    refine ⟨_, hset, isSome_at (c := 1) hk6 rfl, ?_⟩
    refine row_app (c0 := 1) (c1 := rows.length + 2) (row := (D.int (r - 4) :: List.replicate n (D.int 0)).set (w + 1) v) hk6 rfl (by simp) (by omega) (by simp; omega) fun st7 hk7 => ?_
    have hk7 : DkR (MO.lst (left.eraseIdx k) :: MO.lst (found ++ [.tup ((D.int (r - 4) :: List.replicate n (D.int 0)).set (w + 1) v)]) :: (rows ++ [.lst ((D.int (r - 4) :: List.replicate n (D.int 0)).set (w + 1) v)])) st7 := hk7
    refine ⟨True.intro, left.eraseIdx k, found ++ [.tup ((D.int (r - 4) :: List.replicate n (D.int 0)).set (w + 1) v)], ⟨_, hk7⟩, ?_, ?_, ?_, ?_⟩
    · rw [List.length_eraseIdx_of_lt hkl]; omega
    · exact fun x hx => hl2 x (List.mem_of_mem_eraseIdx hx)
    · simp [hf1]
    · intro x hx
      rcases List.mem_append.mp hx with q | q
      · exact hf2 x q
      · rw [List.mem_singleton.mp q]
        exact ⟨_, rfl, by simp, set_isN (row0 (a := r - 4) (n := n) (by omega)) hv5⟩
  · rintro ρ st1 ⟨left, found, rows, z, z2, rfl, hk1, hl1, hl2, hf1, hf2⟩
    simp at hf1 ⊢
    exact made_end hk1 (hk1.at (n := 1)) hf1 h4 hf2
theorem set_end {A x y : MO} {rows : Store} : (A :: (rows ++ [x])).set (rows.length + 1) y = A :: (rows ++ [y]) := by
  simp
theorem row_set {c1 j : Nat} {row : List D} {v : D} (hk : DkR rest st) (h1 : rest[c1]? = some (.lst row)) (hj : j < row.length) :
    setD (.cell (c1 + 2)) (.int (j : Int)) v st = some (st.set (c1 + 2) (.lst (row.set j v))) ∧ DkR (rest.set c1 (.lst (row.set j v))) (st.set (c1 + 2) (.lst (row.set j v))) :=
  ⟨setD_at ((hk.at (n := c1)).trans h1) hj, hk.set⟩
theorem w_chain {n : Nat} {i : Int} (hi : i = n) (hk : Dk 2 st) (h1 : 1 ≤ n) (h4 : n ≤ 4) : W (F_law_chain.run [.cell 1, .int i] st) (fun d st' => (∃ f, d = tabD n (n + 1) f ∧ bdT 5 f) ∧ Dk 2 st') noX := by
  rw [rn_law_chain]
  have hL := limV'
  have hri : rngOf [.int i] = some ((List.range n).map fun (k : Nat) => D.int (k : Int)) := by rw [hi]; exact rng1n (by omega)
  have hl2 : st.length = 2 := hk.len
  refine W_run (ρ0 := [some (.cell 1), some (.int i), none, none, none]) rfl ?_
  unfold b_law_chain
  simp [hri, hl2]
  have hk0 : DkR [.lst []] (st ++ [MO.lst []]) := hk.r2.snoc
  refine W_forR0 (fun m ρ st' => ∃ found rows z z2, ρ = [some (.cell 1), some (.int i), some (.cell 2), z, z2] ∧ DkR (.lst found :: rows) st' ∧ found.length = m ∧ (∀ x ∈ found, RowN 5 (n + 1) x))
    ⟨_, _, none, none, rfl, hk0, rfl, fun x hx => by cases hx⟩ ?_ ?_
  · rintro m x ρ st1 hx ⟨found, rows, z, z2, rfl, hk1, hf1, hf2⟩
    obtain ⟨hm, rfl⟩ := rng_at.mp hx
    refine ⟨_, setT_name, ?_⟩
    simp
    refine (w_drawR hk1 (by decide) (by decide)).go ?_
    rintro _ st2 ⟨r, rfl, r0, r1, hk2⟩
    simp
    refine ⟨by omega, ?_⟩
    subst hi
    rw [W_row0 (by omega)]
    have hlen : st2.length = (rows.length + 1) + 2 := hk2.len
    have hk3 := hk2.snoc (mo := .lst (D.int (r - 2) :: List.replicate n (D.int 0)))
    have hrow : ∀ x ∈ D.int (r - 2) :: List.replicate n (D.int 0), isN 5 x = true := row0 (a := r - 2) (n := n) (by omega)
    -- one entry put, the row put behind the others
    have fin : ∀ (j : Nat) (v : D) (st3 : Store), DkR (MO.lst found :: (rows ++ [MO.lst (D.int (r - 2) :: List.replicate n (D.int 0))])) st3 → isN 5 v = true → j < n + 1 → ∀ {X1 X2 : XQ},
        ∃ st', setD (.cell (rows.length + 1 + 2)) (.int (j : Int)) v st3 = some st' ∧ (lstOf st' (.cell 2)).isSome = true ∧ W (primD 0 .tuple [.cell (rows.length + 1 + 2)] st') (fun x st1 => W (bmeth .append (.cell 2) [x] st1) (fun _ st1 => guardOk st1 none ∧ ∃ x, (∃ rows, DkR (.lst x :: rows) st1) ∧ x.length = m + 1 ∧ ∀ y ∈ x, RowN 5 (n + 1) y) X1) X2 := by
      intro j v st3 hk hv hj X1 X2
      obtain ⟨e1, hk'⟩ := row_set (c1 := rows.length + 1) (row := D.int (r - 2) :: List.replicate n (D.int 0)) (j := j) (v := v) hk (by simp) (by simp; omega)
      rw [set_end] at hk'
      refine ⟨_, e1, isSome_at (c := 0) hk' rfl, ?_⟩
      refine row_app (c0 := 0) (c1 := rows.length + 1) (row := (D.int (r - 2) :: List.replicate n (D.int 0)).set j v) hk' rfl (by simp) (by omega) (by simp; omega) fun st7 hk7 => ?_
      refine ⟨True.intro, _, ⟨_, hk7⟩, by simp [hf1], fun y hy => ?_⟩
      rcases List.mem_append.mp hy with q | q
      · exact hf2 y q
      · rw [List.mem_singleton.mp q]
        exact ⟨_, rfl, by simp, set_isN hrow hv⟩
    simp [hlen]
    refine ⟨by omega, ?_⟩
    by_cases hmn : m < n - 1
    · right
      refine ⟨by omega, by omega, (w_pickR hk3 (by simp) (by decide)).go ?_⟩
      rintro v st3 ⟨hv, hk4⟩
      have hv5 : isN 5 v = true := by
        have : ∀ x ∈ [D.int 1, D.int 1, D.int (-1), D.int 2, D.int 0], isN 5 x = true := by decide
        exact this v hv
      exact fin (m + 2) v st3 hk4 hv5 (by omega)
    · left
      refine ⟨by omega, by omega, (w_pickR hk3 (by simp) (by decide)).go ?_⟩
      rintro v st3 ⟨hv, hk4⟩
      have hv5 : isN 5 v = true := by
        have : ∀ x ∈ [D.int 0, D.int 0, D.int (-1)], isN 5 x = true := by decide
        exact this v hv
      exact fin (m + 1) v st3 hk4 hv5 (by omega)
  · rintro ρ st1 ⟨found, rows, z, z2, rfl, hk1, hf1, hf2⟩
    simp at hf1 ⊢
    exact made_end hk1 (hk1.at (n := 0)) hf1 h4 hf2
theorem w_companion (hk : Dk 2 st) : W (F_law_companion.run [.cell 1] st) (fun d st' => (∃ n, 1 ≤ n ∧ n ≤ 4 ∧ ∃ f, d = tabD n (n + 1) f ∧ bdT 5 f) ∧ Dk 2 st') noX := by
  rw [rn_law_companion]
  have hL := limV'
  have hl2 : st.length = 2 := hk.len
  refine W_run (ρ0 := [some (.cell 1), none, none, none, none, none, none]) rfl ?_
  unfold b_law_companion
  simp [hl2]
  refine ⟨by omega, by omega, by omega, ?_⟩
  refine (w_pickR hk.r2 (by simp) (by decide)).go ?_
  rintro tl st1 ⟨htl, hk1⟩
  have ht : ∃ ts : List Int, tl = .tup (ts.map .int) ∧ (ts.length = 2 ∨ ts.length = 4) ∧ ∀ t ∈ ts, t.natAbs < 2 := by
    simp only [List.mem_cons, List.not_mem_nil, or_false] at htl
    rcases htl with h | h | h | h | h | h | h <;> subst h
    · exact ⟨[-1, -1], rfl, by simp, by decide⟩
    · exact ⟨[-1, 0], rfl, by simp, by decide⟩
    · exact ⟨[-1, 1], rfl, by simp, by decide⟩
    · exact ⟨[-1, -1, -1, -1], rfl, by simp, by decide⟩
    · exact ⟨[-1, 0, 0, 0], rfl, by simp, by decide⟩
    · exact ⟨[-1, 1, -1, 1], rfl, by simp, by decide⟩
    · exact ⟨[-1, 0, 1, 0], rfl, by simp, by decide⟩
  obtain ⟨ts, rfl, hts, htb⟩ := ht
  obtain ⟨L, hLe⟩ : ∃ L, L = ts.length := ⟨_, rfl⟩
  have hLm : (ts.map D.int).length = L := by rw [List.length_map, hLe]
  have hr0 : rngOf [.int (L : Int)] = some ((List.range L).map fun (k : Nat) => D.int (k : Int)) := rng1n (by omega)
  have loop : ∀ (N : Nat) (T1 : Option D) (st1 : Store) (P : F → Store → Prop), L ≤ N → N ≤ 4 → DkR [.lst []] st1 →
      (∀ found rows st' z z2, DkR (.lst found :: rows) st' → found.length = L → (∀ x ∈ found, RowN 5 (N + 1) x) → P (.nx [some (.cell 1), T1, some (.tup (ts.map .int)), some (.cell 2), some (.int (N : Int)), z, z2]) st') →
      W (forLoop (Tg.name 5)
                              (seqF
                                (asgF (Tg.name 6)
                                  (binF 1 Operator.Add
                                    (lstF 0
                                      (consF
                                        (binF 0 Operator.Sub
                                          (callF F_law_draw (consF (varD 0) (consF (conF (D.int 7)) nilF)) [] nilF)
                                          (conF (D.int 3)))
                                        nilF))
                                    (binF 0 Operator.Mult (lstF 0 (consF (conF (D.int 0)) nilF)) (varD 4))))
                                (seqF
                                  (ifS (cmpF CmpOp.Gt (varD 5) (conF (D.int 0)))
                                    (seqF (setIF (varD 6) (varD 5) (conF (D.int 1))) nilS) nilS)
                                  (seqF
                                    (setIF (varD 6) (primF 0 Prm.len (consF (varD 2) nilF))
                                      (binF 0 Operator.Add (ixF (varD 6) (primF 0 Prm.len (consF (varD 2) nilF)))
                                        (ixF (varD 2) (varD 5))))
                                    (seqF
                                      (expF
                                        (bmF Bm.append (varD 3) (consF (primF 0 Prm.tuple (consF (varD 6) nilF)) nilF)))
                                      nilS))))
                              none ((List.range L).map fun (k : Nat) => D.int (k : Int))
                              [some (.cell 1), T1, some (.tup (ts.map .int)), some (.cell 2), some (.int (N : Int)), none, none] st1) P noX := by
    intro N T1 st1 P hLN hN4 hk1 kP
    refine W_forR0 (fun m ρ st' => ∃ found rows z z2, ρ = [some (.cell 1), T1, some (.tup (ts.map .int)), some (.cell 2), some (.int (N : Int)), z, z2] ∧ DkR (.lst found :: rows) st' ∧ found.length = m ∧ (∀ x ∈ found, RowN 5 (N + 1) x))
      ⟨_, _, none, none, rfl, hk1, rfl, fun x hx => by cases hx⟩ ?_ ?_
    · rintro m x ρ st1 hx ⟨found, rows, z, z2, rfl, hk1, hf1, hf2⟩
      obtain ⟨hm, rfl⟩ := rng_at.mp hx
      refine ⟨_, setT_name, ?_⟩
      simp
      refine (w_drawR hk1 (by decide) (by decide)).go ?_
      rintro _ st2 ⟨r, rfl, r0, r1, hk2⟩
      simp
      refine ⟨by omega, ?_⟩
      rw [W_row0 (by omega)]
      have hlen : st2.length = (rows.length + 1) + 2 := hk2.len
      have hk3 := hk2.snoc (mo := .lst (D.int (r - 3) :: List.replicate N (D.int 0)))
      have hrow : ∀ x ∈ D.int (r - 3) :: List.replicate N (D.int 0), isN 3 x = true := row0 (a := r - 3) (n := N) (by omega)
      have fin : ∀ (row : List D) (st3 : Store), DkR (MO.lst found :: (rows ++ [MO.lst row])) st3 → (∀ x ∈ row, isN 3 x = true) → row.length = N + 1 → ∀ {X1 X2 X3 X4 X5 : XQ},
          W (ixD (.cell (rows.length + 1 + 2)) (.int (ts.length : Int)) st3) (fun x st1 => ∃ d, atI (ts.map D.int) (m : Int) = some d ∧ W (binD 0 .Add x d st1) (fun v st1 =>
            ∃ st', setD (.cell (rows.length + 1 + 2)) (.int (ts.length : Int)) v st1 = some st' ∧ (lstOf st' (.cell 2)).isSome = true ∧ W (primD 0 .tuple [.cell (rows.length + 1 + 2)] st') (fun x st1 => W (bmeth .append (.cell 2) [x] st1) (fun _ st1 => guardOk st1 none ∧ ∃ x, (∃ rows, DkR (.lst x :: rows) st1) ∧ x.length = m + 1 ∧ ∀ y ∈ x, RowN 5 (N + 1) y) X1) X2) X3) X5 := by
        intro row st3 hk hv hj X1 X2 X3 X4 X5
        simp only [← hLe]
        have hL' : L < row.length := by omega
        have hgi : isN 3 row[L] = true := hv _ (List.getElem_mem hL')
        obtain ⟨y, ey, hy⟩ := isN_ok hgi
        have hat : st3[rows.length + 1 + 2]? = some (.lst row) := by rw [hk.at]; simp
        have hmt : m < ts.length := by omega
        have eT : atI (ts.map D.int) (m : Int) = some (.int ts[m]) := atI_nat (by rw [List.getElem?_map, List.getElem?_eq_getElem hmt]; rfl)
        have htm := htb ts[m] (List.getElem_mem hmt)
        rw [W_ixCell hat]
        refine ⟨.int y, atI_nat (by rw [List.getElem?_eq_getElem hL', ey]), ?_⟩
        refine ⟨_, eT, ?_⟩
        rw [W_add]
        have hv5 : isN 5 (.int (y + ts[m])) = true := isN_int (by omega)
        obtain ⟨e1, hk'⟩ := row_set (c1 := rows.length + 1) (row := row) (j := L) (v := .int (y + ts[m])) hk (by simp) hL'
        rw [set_end] at hk'
        refine ⟨_, e1, isSome_at (c := 0) hk' rfl, ?_⟩
        refine row_app (c0 := 0) (c1 := rows.length + 1) (row := row.set L (.int (y + ts[m]))) hk' rfl (by simp) (by omega) (by simp; omega) fun st7 hk7 => ?_
        refine ⟨True.intro, _, ⟨_, hk7⟩, by simp [hf1], fun y hy => ?_⟩
        rcases List.mem_append.mp hy with q | q
        · exact hf2 y q
        · rw [List.mem_singleton.mp q]
          exact ⟨_, rfl, by simp [hj], set_isN (fun x hx => isN_mono (hv x hx) (by omega)) hv5⟩
      simp [hlen, hLm]
      refine ⟨by omega, ?_⟩
      by_cases hm0 : m = 0
      · left
        exact ⟨hm0, fin _ _ hk3 hrow (by simp) (X4 := noX)⟩
      · right
        obtain ⟨e1, hk4⟩ := row_set (c1 := rows.length + 1) (row := D.int (r - 3) :: List.replicate N (D.int 0)) (j := m) (v := .int 1) hk3 (by simp) (by simp; omega)
        rw [List.cons_append, set_end] at hk4
        refine ⟨by omega, _, e1, fin _ _ hk4 (set_isN hrow (by decide)) (by simp) (X4 := noX)⟩
    · rintro ρ st1 ⟨found, rows, z, z2, rfl, hk1, hf1, hf2⟩
      simp at hf1
      exact kP _ _ _ _ _ hk1 hf1 hf2
  have hk1' : DkR [.lst []] (st1 ++ [MO.lst []]) := hk1.snoc
  have hl1 : st1.length = 2 := hk1.len
  have hlenT : ∀ st : Store, lenD st (.tup (ts.map D.int)) = some L := fun st => by rw [len_tup, hLm]
  refine ⟨_, _, ⟨rfl, rfl⟩, L, hlenT _, L, hlenT _, ?_⟩
  simp only [hl1]
  rcases hts with h2 | h4
  · right
    refine ⟨by omega, (w_drawR hk1' (by decide) (by decide)).go ?_⟩
    rintro _ st3 ⟨r, rfl, r0, r1, hk3⟩
    clear htl
    simp [hlenT, hr0]
    by_cases hr : r = 0
    · have e3 : ((L : Int) + if r = 0 then 1 else 0) = ((3 : Nat) : Int) := by rw [if_pos hr]; omega
      rw [e3]
      refine loop 3 _ _ _ (by omega) (by omega) hk3 ?_
      intro found rows st4 z z2 hk' hf1 hf2
      simp
      refine ⟨isSome_at (c := 0) hk' rfl, (w_drawR hk' (by decide) (by decide)).go ?_⟩
      rintro _ st5 ⟨u1, rfl, u10, u11, hk5⟩
      refine (w_drawR hk5 (by decide) (by decide)).go ?_
      rintro _ st6 ⟨u2, rfl, u20, u21, hk6⟩
      refine ⟨by omega, (w_pickR hk6 (by simp) (by decide)).go ?_⟩
      rintro u3 st7 ⟨hu3, hk7⟩
      have hv5 : isN 5 u3 = true := by
        have : ∀ x ∈ [D.int 0, D.int 0, D.int (-1), D.int 1], isN 5 x = true := by decide
        exact this u3 hu3
      refine ⟨by omega, ?_⟩
      rw [W_append (hk7.at (n := 0)) (by omega)]
      have hk8 := hk7.set (n := 0) (mo := .lst (found ++ [.tup [.int u1, .int 1, .int u2, u3]]))
      refine (made_end (n := 3) hk8 (hk8.at (n := 0)) (by simp; omega) (by omega) fun x hx => ?_).mono (fun d st' q => q.mono (fun d st' q => ⟨⟨3, by omega, by omega, q.1⟩, q.2⟩) fun _ _ _ _ q => q) fun _ _ _ _ q => q
      rcases List.mem_append.mp hx with q | q
      · exact hf2 x q
      · rw [List.mem_singleton.mp q]
        refine ⟨_, rfl, rfl, fun x hx => ?_⟩
        simp only [List.mem_cons, List.not_mem_nil, or_false] at hx
        rcases hx with h | h | h | h <;> subst h
        · exact isN_int (by omega)
        · rfl
        · exact isN_int (by omega)
        · exact hv5
    · have e3 : ((L : Int) + if r = 0 then 1 else 0) = ((2 : Nat) : Int) := by rw [if_neg hr]; omega
      rw [e3]
      refine loop 2 _ _ _ (by omega) (by omega) hk3 ?_
      intro found rows st4 z z2 hk' hf1 hf2
      simp
      exact (made_end (n := 2) hk' (hk'.at (n := 0)) (by omega) (by omega) hf2).mono (fun d st' q => q.mono (fun d st' q => ⟨⟨2, by omega, by omega, q.1⟩, q.2⟩) fun _ _ _ _ q => q) fun _ _ _ _ q => q
  · left
    refine ⟨by omega, L, hlenT _, _, hr0, ?_⟩
    have e4 : ((L : Int) + if (L : Int) = 2 then 1 else 0) = ((4 : Nat) : Int) := by rw [if_neg (by omega)]; omega
    rw [e4]
    refine loop 4 _ _ _ (by omega) (by omega) hk1' ?_
    intro found rows st' z z2 hk' hf1 hf2
    simp
    exact (made_end (n := 4) hk' (hk'.at (n := 0)) (by omega) (by omega) hf2).mono (fun d st' q => q.mono (fun d st' q => ⟨⟨4, by omega, by omega, q.1⟩, q.2⟩) fun _ _ _ _ q => q) fun _ _ _ _ q => q
end
end K08

namespace K08
open PySem PySem.Spec PyProof.Rows L2 Px
/-! ### the whole law -/
section
variable {X : XQ} {st rest : Store} {Q : D → Store → Prop} {mu : Nat}
theorem w_picksR {b i : Nat} {xs ys : List D} {ρ' : Px.Env} {f : Fx D} (hk : DkR rest st) (hys : ∀ y ∈ ys, isN b y = true) (hf : ∀ d st Q X, W (f (ρ'.set i (some d)) st) Q X ↔ W (F_law_pick.run [.cell 1, .lst ys] st) Q X) (h0 : ys ≠ []) (h1 : ys.length < 1000000) {Q : List D → Store → Prop} (q : ∀ acc st', acc.length = xs.length → (∀ x ∈ acc, isN b x = true) → DkR rest st' → Q acc st') :
    W (compLoop (.name i) (fun _ st => .ok (.bl true) st) f none ρ' xs [] st) Q X := by
  refine W_compAll (fun acc st => (∀ x ∈ acc, isN b x = true) ∧ DkR rest st) _ _ _ ⟨fun x h => by simp at h, hk⟩ ?_ True.intro ?_
  · rintro acc x st hx ⟨h1', h2⟩ _
    refine ⟨_, setT_name, ?_⟩
    rw [hf]
    refine (w_pickR h2 h0 h1).go ?_
    rintro d st' ⟨hd, hk'⟩
    refine ⟨True.intro, fun y hy => ?_, hk'⟩
    rcases List.mem_append.mp hy with q | q
    · exact h1' y q
    · simp at q; subst q; exact hys _ hd
  · rintro acc' st' ⟨h1, h2⟩ _ hl
    exact q acc' st' (by simpa using hl) h1 h2
theorem w_made (hk : Dk 2 st) : W (F_law_made.run [.cell 1] st) (fun d st' => (∃ n, 1 ≤ n ∧ n ≤ 4 ∧ ∃ f, d = tabD n (n + 1) f ∧ bdT 5 f) ∧ Dk 2 st') noX := by
  rw [rn_law_made]
  have hL := limV'
  refine W_run (ρ0 := [some (.cell 1), none, none, none, none, none, none]) rfl ?_
  unfold b_law_made
  simp
  refine (w_drawR hk.r2 (by decide) (by decide)).go ?_
  rintro _ st1 ⟨r, rfl, r0, r1, hk1⟩
  obtain ⟨m, rfl⟩ := Int.eq_ofNat_of_zero_le r0
  obtain ⟨n, hn⟩ : ∃ n, n = m + 1 := ⟨_, rfl⟩
  have en : (1 : Int) + (m : Int) = (n : Int) := by omega
  have h1 : 1 ≤ n := by omega
  have h4 : n ≤ 4 := by omega
  simp [en]
  refine (w_drawR hk1 (by decide) (by decide)).go ?_
  rintro _ st2 ⟨w, rfl, w0, w1, hk2⟩
  have hd2 : Dk 2 st2 := hk2.dk rfl
  refine ⟨_, _, ⟨rfl, rfl⟩, ?_⟩
  obtain ⟨i, hi⟩ : ∃ i : Int, i = (n : Int) := ⟨_, rfl⟩
  rw [← hi]
  have hri : rngOf [.int i] = some ((List.range n).map fun (k : Nat) => D.int (k : Int)) := by rw [hi]; exact rng1n (by omega)
  have hri1 : rngOf [.int (i + 1)] = some ((List.range (n + 1)).map fun (k : Nat) => D.int (k : Int)) := by rw [hi]; exact rng1n (n := n + 1) (by omega)
  by_cases hw0 : w = 0
  · simp [hw0]
    refine (w_signs hi hd2 h1 h4).go ?_
    rintro d st3 ⟨hf, hk3⟩
    rw [W_close (by rw [hk3.len, hk.len])]
    exact ⟨⟨n, h1, h4, hf⟩, hk3⟩
  by_cases hw1 : w = 1
  · simp [hw0, hw1]
    refine (w_companion hd2).go ?_
    rintro d st3 ⟨hf, hk3⟩
    rw [W_close (by rw [hk3.len, hk.len])]
    exact ⟨hf, hk3⟩
  by_cases hw2 : w = 2
  · simp [hw0, hw1, hw2]
    refine (w_chain hi hd2 h1 h4).go ?_
    rintro d st3 ⟨hf, hk3⟩
    rw [W_close (by rw [hk3.len, hk.len])]
    exact ⟨⟨n, h1, h4, hf⟩, hk3⟩
  simp [hw0, hw1, hw2, hri]
  have hl2 : st2.length = 2 := hd2.len
  have hls : st.length = 2 := hk.len
  simp only [hl2, hls]
  have hk0 : DkR [.lst []] (st2 ++ [MO.lst []]) := hk2.snoc
  refine W_forR0 (fun m ρ st' => ∃ found z z2, ρ = [some (.cell 1), some (.int i), some (.int w), some (.cell 2), z, z2, none] ∧ DkR [.lst found] st' ∧ found.length = m ∧ (∀ x ∈ found, RowN 5 (n + 1) x))
    ⟨_, none, none, rfl, hk0, rfl, fun x hx => by cases hx⟩ ?_ ?_
  · rintro k x ρ st3 hx ⟨found, z, z2, rfl, hk3, hf1, hf2⟩
    obtain ⟨hkn, rfl⟩ := rng_at.mp hx
    refine ⟨_, setT_name, ?_⟩
    simp [W_comp, hri1]
    refine ⟨by omega, ?_⟩
    refine w_picksR (b := 5) (ys := [.int 0, .int 0, .int 1, .int (-1)]) hk3 (by decide) (fun d st Q X => ?_) (by simp) (by decide) fun row st4 hrl hrow hk4 => ?_
    · simp [wipeE]
      exact fun _ => by omega
    · simp at hrl
      have hto : cutL row none (some 1) = row.take 1 := cut_to (c := 1) (by omega)
      have hfrom : cutL row (some ((k : Int) + 2)) none = row.drop (k + 2) := cut_from (c := k + 2) (by omega)
      have fin : ∀ (row : List D) (st5 : Store), DkR [.lst found] st5 → (∀ x ∈ row, isN 5 x = true) → row.length = n + 1 → ∀ {X1 : XQ}, (lstOf st5 (.cell 2)).isSome = true ∧ row.length ≤ lim ∧ W (bmeth .append (.cell 2) [.tup row] st5) (fun _ st1 => guardOk st1 none ∧ ∃ x, DkR [.lst x] st1 ∧ x.length = k + 1 ∧ ∀ y ∈ x, RowN 5 (n + 1) y) X1 := by
        intro row st5 hk hv hj X1
        refine ⟨isSome_at (c := 0) hk rfl, by omega, ?_⟩
        rw [W_append (hk.at (n := 0)) (by omega)]
        refine ⟨True.intro, _, hk.set (n := 0), by simp [hf1], fun y hy => ?_⟩
        rcases List.mem_append.mp hy with q | q
        · exact hf2 y q
        · rw [List.mem_singleton.mp q]
          exact ⟨_, rfl, hj, hv⟩
      simp [hto, hfrom]
      refine ⟨by omega, ?_⟩
      by_cases hw3 : w = 3
      · right
        refine ⟨hw3, by omega, by omega, ?_⟩
        rw [W_row0 (by omega)]
        simp only [W_addL, W_mkL0]
        refine ⟨by simp; omega, by omega, (w_pickR hk4 (by simp) (by decide)).go ?_⟩
        rintro v st5 ⟨hv, hk5⟩
        have hv5 : isN 5 v = true := by
          have : ∀ x ∈ [D.int 1, D.int (-1), D.int 0], isN 5 x = true := by decide
          exact this v hv
        refine ⟨by omega, by simp; omega, by omega, by simp; omega, ?_⟩
        simp only [W_tupleL, W_mkT]
        refine fin _ st5 hk5 (fun x hx => ?_) (by simp; omega)
        simp only [List.mem_append, List.mem_singleton] at hx
        rcases hx with ((h | h) | h) | h
        · exact hrow x (List.mem_of_mem_take h)
        · rw [List.eq_of_mem_replicate h]; rfl
        · rw [h]; exact hv5
        · exact hrow x (List.mem_of_mem_drop h)
      · left
        exact ⟨hw3, fin row st4 hk4 hrow hrl⟩
  · rintro ρ st3 ⟨found, z, z2, rfl, hk3, hf1, hf2⟩
    simp at hf1 ⊢
    exact (made_end (n := n) hk3 (hk3.at (n := 0)) hf1 h4 hf2).mono (fun d st' q => q.mono (fun d st' q => ⟨⟨n, h1, h4, q.1⟩, q.2⟩) fun _ _ _ _ q => q) fun _ _ _ _ q => q
theorem gd_crs {n : Nat} {f : Tn} {c : Option (Nat × Nat)} (h : CourseIs n f c) (h4 : n ≤ 4) : Gd 300 1 (crsD c) := by
  have ht := turn_le (n := n)
  have small : ∀ i : Nat, i ≤ 130 → Gd 9 0 (.int (i : Int)) := fun i hi => gd_int (k := 8) (by
    have : (i : Int).natAbs = i := by omega
    rw [this]
    by_cases h0 : i = 0
    · subst h0; decide
    · rw [Nat.log2_lt h0]; omega) (by omega) (by omega)
  cases c with
  | none => exact gd_non.mono (by omega) (by omega)
  | some p =>
    obtain ⟨s, d⟩ := p
    have hle := h.2.1
    exact (gd_tup (w := 9) (k := 0) (xs := [.int (s : Int), .int (d : Int)]) fun x hx => by
      simp only [List.mem_cons, List.not_mem_nil, or_false] at hx
      rcases hx with h | h <;> subst h
      · exact small s (by omega)
      · exact small d (by omega)).mono (by simp) (by omega)
theorem r_law_right {n : Nat} {f : Tn} (hf : bdT 5 f) (h1 : 1 ≤ n) (h4 : n ≤ 4) (wf : Wf st) : F_law_right.run [tabD n (n + 1) f] st = .ok (.bl true) st := by
  obtain ⟨c, hc⟩ := crs_ex (n := n) (f := f)
  refine W.eqn' ?_
  rw [rn_law_right]
  have hL := limV'
  have ht := turn_le (n := n)
  have hfo := r_law_found (st := st) hf (by omega) (by omega) h1 h4 wf hc
  have hco := r_Step_course (st := st) hf (by omega) (by omega) h1 h4 wf hc
  have htn := r_turn_number (st := st) h1 h4
  have gc := gd_crs hc h4
  have gl : Gd 2000 2 (.lst [crsD c, crsD c]) := (gd_lst (w := 300) (k := 1) (xs := [crsD c, crsD c]) fun x hx => by
    simp only [List.mem_cons, List.not_mem_nil, or_false, or_self] at hx
    subst hx; exact gc).mono (by simp) (by omega)
  have gf : Gd 99000 2 (tabD n (n + 1) f) := gd_tab hf (by omega) (by omega) (by omega) (by omega)
  generalize hT : tabD n (n + 1) f = T
  refine W_run (ρ0 := [some T, none, none, none, none]) rfl ?_
  unfold b_law_right
  subst hT
  simp [mk_step h1 h4 wf, hfo]
  refine ⟨_, _, _, ⟨rfl, rfl, rfl⟩, ?_⟩
  simp [hco, W_repr gl, W_repr gf, htn]
  have p1 := r_pw (st := st) (e := n + 1 + turnN n) hf (by omega) (by omega) (by omega) h1 h4 wf
  have p2 := r_pw (st := st) (e := n + 1) hf (by omega) (by omega) (by omega) h1 h4 wf
  rw [Int.natCast_add, Int.natCast_add] at p1
  rw [Int.natCast_add] at p2
  simp only [Int.cast_ofNat_Int] at p1 p2
  have hfar := crs_far h1 h4 hc
  have ebl : ∀ (a b : Bool) (st : Store), eqD st (.bl a) (.bl b) = some (a == b) := fun a b st => by cases a <;> cases b <;> rfl
  refine ⟨by omega, _, _, ⟨rfl, rfl⟩, rfl, ?_⟩
  rw [p1, W_ok]
  refine ⟨_, _, ⟨rfl, rfl⟩, rfl, ?_⟩
  rw [p2, W_ok]
  cases c with
  | none =>
    have q : ¬ seqK n f (n + 1 + turnN n) = seqK n f (n + 1) := fun e => nomatch hfar.mp e
    simp [r_eqS, q, crsD, W_ne, ebl]
  | some p =>
    obtain ⟨s, d⟩ := p
    have q := hfar.mpr rfl
    have hle := hc.2.1
    have p3 := r_pw (st := st) (e := s + d) hf (by omega) (by omega) (by omega) h1 h4 wf
    have p4 := r_pw (st := st) (e := s) hf (by omega) (by omega) (by omega) h1 h4 wf
    rw [Int.natCast_add] at p3
    have q2 := hc.2.2.1.symm
    simp [r_eqS, q, crsD, W_ne, ebl]
    refine ⟨_, _, ⟨rfl, rfl⟩, rfl, .int (s : Int), rfl, .int (d : Int), rfl, ?_⟩
    rw [W_add, p3, W_ok]
    refine ⟨_, _, ⟨rfl, rfl⟩, rfl, .int (s : Int), rfl, ?_⟩
    rw [p4, W_ok]
    simp [r_eqS, q2]
theorem law_right (ns : List Int) (h : ns.length ≤ 63) : ∃ st', Flaw.run [.lck (ns.map .int)] [] = .ok (.bl true) st' := by
  suffices hw : W (Flaw.run [.lck (ns.map .int)] []) (fun d _ => d = .bl true) noX by
    obtain ⟨d, st', e, rfl⟩ := hw.ok
    exact ⟨st', e⟩
  rw [rnlaw]
  refine W_run (ρ0 := some (.lck (ns.map .int)) :: List.replicate 3 none) rfl ?_
  have hL := limV'
  unfold blaw
  simp only [W_seq, W_asg, W_call, W_consF, W_var, W_nilF, List.getElem?_cons_zero, Option.some.injEq, exists_eq_left', bd_law_deck_0]
  refine (w_deck h).go ?_
  rintro _ st0 ⟨rfl, hk0⟩
  have hr6 : rngOf [.int 6] = some ((List.range 6).map fun (k : Nat) => D.int (k : Int)) := rng1n (n := 6) (by omega)
  have hr4 : rngOf [.int 1, .int 5] = some ((List.range 4).map fun (k : Nat) => D.int ((k + 1 : Nat) : Int)) := rng_1 (m := 4) (by omega)
  simp [hr6]
  refine W_forR0 (fun _ ρ st' => (∃ a, ρ = [some (.lck (ns.map .int)), some (.cell 1), a, none]) ∧ Dk 2 st') ⟨⟨none, rfl⟩, hk0⟩ ?_ ?_
  · rintro jj x ρ st1 hx ⟨⟨a, rfl⟩, hk1⟩
    refine ⟨_, setT_name, ?_⟩
    simp
    refine (w_made hk1).go ?_
    rintro _ st2 ⟨⟨n, h1, h4, f, rfl, hf⟩, hk2⟩
    rw [r_law_right hf h1 h4 (wf_dk hk2)]
    simp [guardOk, hk2]
  · rintro ρ st1 ⟨⟨a, rfl⟩, hk1⟩
    simp
    refine ⟨_, hr4, ?_⟩
    refine W_forR0 (fun _ ρ st' => (∃ a b, ρ = [some (.lck (ns.map .int)), some (.cell 1), a, b]) ∧ Dk 2 st') ⟨⟨_, none, rfl⟩, hk1⟩ ?_ ?_
    · rintro jj x ρ st2 hx ⟨⟨a, b, rfl⟩, hk2⟩
      obtain ⟨hj, rfl⟩ := map_at.mp hx
      refine ⟨_, setT_name, ?_⟩
      have t1 := r_turn_number (st := st2) (n := jj + 1) (by omega) (by omega)
      have t2 := r_law_turn (st := st2) (n := jj + 1) (by omega) (by omega)
      have gl : Gd 2000 1 (.lst [.int (turnN (jj + 1) : Int), .int (turnN (jj + 1) : Int)]) := by
        obtain h | h | h | h : jj = 0 ∨ jj = 1 ∨ jj = 2 ∨ jj = 3 := by omega
        all_goals subst h; exact ⟨_, rfl, rfl, by decide, by decide +kernel⟩
      simp only [Int.natCast_add, Int.cast_ofNat_Int] at t1 t2
      simp [t1, t2, W_repr gl]
      refine ⟨by omega, by omega, ?_⟩
      rw [W_mulL (by omega) (by simp; omega) (by omega), W_mkL0]
      refine ⟨by simp; omega, ?_⟩
      have e2 : (List.replicate (2 : Int).toNat [D.int (turnN (jj + 1) : Int)]).flatten = [.int (turnN (jj + 1) : Int), .int (turnN (jj + 1) : Int)] := rfl
      rw [e2, W_repr gl]
      simp [guardOk, hk2]
    · rintro ρ st2 ⟨⟨a, b, rfl⟩, hk2⟩
      simp
      exact (W_closeW (st := []) (ext := st2) (d := .bl true) Wf.nil rfl).mpr rfl
end
end K08

namespace K08
open PySem PySem.Spec PyProof.Rows L2 Px
abbrev Rw : PySem.W.OpenRow := PySem.W.OpenLaw.row PySem.Challenge.rw_everwithin_k08_courses_beside_powers
abbrev hk : PySem.W.Hook := hookQ 6 fa dn cs xs
def ob (s : PySem.W.SharedT) : AlQ := obsQG 6 fa dn cs xs (HandSHeadRun.getT s)
theorem ob_eq (s : PySem.W.SharedT) : ob s = hk.obs s.abs := obsQG_eq (HandSHeadRun.getT_eq s)
def loose : List Str := (["_wall", "SumError", "BadStep", "NotBack", "Unlike", "is_integer", "is_form", "value_of", "still_table", "product", "power_of", "minor", "determinant", "cofactor", "inverse"] : List Str) ++ (["MOST_REGISTERS", "TURN_NUMBERS", "turn_number", "table_of", "course_of", "Step", "_law_deck", "_law_draw", "_law_pick", "_law_joined", "_law_found", "_law_signs", "_law_companion", "_law_chain", "_law_made"] : List Str) ++ (["_law_shared", "_law_turn", "_law_right"] : List Str)
theorem run (w : World) : HandSHeadRun.RunEq Rw (PySem.W.view Rw.prog [38]) hk ob 6000 loose w := by
  intro os
  kernel_rfl
end K08
open PySem PySem.W PySem.Calls PyProof.Rows
theorem PySem.Challenge.cw_everwithin_k08_courses_beside_powers_holds : PySem.Challenge.rw_everwithin_k08_courses_beside_powers.Holds := by
  w_on; o_law
  refine HandSHeadRun.head_any (r := OpenLaw.row PySem.Challenge.rw_everwithin_k08_courses_beside_powers) (q := view (OpenLaw.row PySem.Challenge.rw_everwithin_k08_courses_beside_powers).prog [38]) (H := K08.hk) (ob := K08.ob) (M := 6000) (loose := K08.loose) (d := HandSHeadRun.topDef (OpenLaw.row PySem.Challenge.rw_everwithin_k08_courses_beside_powers).prog 38) (kwd := []) K08.ob_eq
    (by kernel_rfl) (fun s => by kernel_rfl) K08.run (by kernel_rfl) (by kernel_rfl) (by kernel_rfl) (by rfl) (by first | assumption | decide +kernel) (by decide +kernel) ⟨rfl, rfl, rfl, rfl, rfl, by decide +kernel⟩ ?hw ?hc
  case hw => w_witness2
  case hc =>
    refine Px.walk_ofE (l := PySem.Challenge.rw_everwithin_k08_courses_beside_powers) (n := 63) (k := 10) (x := "_law_script") (Fu := K08.Flaw) rfl (by decide) (by kernel_rfl) ⟨rfl, by decide, by decide⟩ rfl (by kernel_rfl) ?F K08.law_right
    intro w mg fa h Y G hmg0
    obtain ⟨K, KX, c⟩ := Y
    have hmg : mg ("law" : PySem.Str) = some (.ref fa) := by
      have e : (HandSHeadRun.topDef (OpenLaw.row PySem.Challenge.rw_everwithin_k08_courses_beside_powers).prog 38).name = ("law" : PySem.Str) := by kernel_rfl
      rw [← e]
      exact hmg0
    refine ⟨⟨K, Px.cmOf K08.ns K⟩, KX, ?_⟩
    have T0 : ∀ base : Heap, K.In base → base.Ns mainGlobals mg → (∃ o, base.get? sysModules = some o) → Px.TpQ K08.fa K08.dn K08.cs K08.xs ⟨K, Px.cmOf K08.ns K⟩ mg base := fun base h1 h2 h3 => ⟨c, h1, h2, h3⟩
    exact Px.law_fq T0 KX G hmg c 34 24 rfl rfl (fun u kV doc pm an cdv ct => rfl) fun base T => K08.oklaw rfl (by decide +kernel) T
