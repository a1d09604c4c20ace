import PyProof.Rows.All
import Wide.All
import OpenK.AllK
import Wide.FinOn
import HandS.ForMost
import HandS.Codes
import HandS.TupAny
import HandS.IsInst
import PyProof.FactsAll.tuple_2
import HandS.TupMul
import HandS.Style
import HandS.SortInts
import KE.GoesEnum
import HandS.Walk
import HandS.ForExc
import HandS.SetFor
import HandS.TupSets
import PyProof.ReprRoads
import PyProof.ReprBulk
import PyProof.FitsInt
import HandS.Dict
import HandS.Small
import KE.KIndexWalk
import HandS.DictComp
import KE.DataMinMax
import HandS.Deep
import HandS.More
import HandS.Flow
import HandS.TryOnly
import HandS.RaiseMore
import PyProof.Rows.RegStrCode
import HandS.ExcIs
import HandS.Zip
import KE.SortData
import HandS.List
import HandS.Strs
import KE.DatumOrd
import HandS.Conv
import PySem.Challenge.RW_carfax_k40_cuttings
set_option Elab.async false
set_option linter.all false
set_option maxRecDepth 100000
/-! Data without addresses, a store of what may change, and what stands for them in the layer's heap. -/
namespace Z
open PySem L2

/-- data: what a program's value is, with tuples and lists written out; ref n is the n-th object of the store -/
inductive D where
  | non
  | bl (b : Bool)
  | int (i : Int)
  | str (x : Str)
  | tup (xs : List D)
  | lst (xs : List D)
  | scr (xs : List Int)
  | tpi (xs : List Int)
  | dcf (kvs : List (Int × List Int))
  | tpx (xs : List D)
  | ref (n : Nat)

/-- what may change -/
inductive MO where
  | lst (xs : List D)
  | dct (kvs : List (Key × D))
  | dtt (kvs : List (List Key × D))

abbrev Store := List MO
abbrev Env := List (Option D)

/-- a written list of the text's own -/
def KLst (K : PySem.W.Frag) (a : Addr) (vs : List V) : Prop := SqL K (fun _ => none) a vs
/-- the script: locked, or written -/
def CAt (K : PySem.W.Frag) (B : Addr → Prop) (al : List Addr) (H : Hp) (a : Addr) (vs : List V) : Prop :=
  (Rd H a (.lst vs) ∧ a ∉ al ∧ ¬ B a) ∨ KLst K a vs
/-- a list that nobody changes -/
def LAt (B : Addr → Prop) (al : List Addr) (H : Hp) (a : Addr) (vs : List V) : Prop := H a = some (.lst vs) ∧ a ∉ al ∧ ¬ B a
def TAt (al : List Addr) (H : Hp) (a : Addr) (vs : List V) : Prop := H a = some (.tup vs)

/-- a tuple of whole numbers, its object known -/
def XAt (B : Addr → Prop) (al : List Addr) (H : Hp) (a : Addr) (ns : List Int) : Prop := ∃ o : Obj, (H a = some (.frz o (.tup (ns.map V.int))) ∧ a ∉ al ∧ ¬ B a) ∧ o.dict = none

/-- a tuple whose object is known -/
def ZAt (B : Addr → Prop) (al : List Addr) (H : Hp) (a : Addr) (vs : List V) : Prop := ∃ o : Obj, (H a = some (.frz o (.tup vs)) ∧ a ∉ al ∧ ¬ B a) ∧ o.dict = none
/-- a dict that is locked for good -/
def YAt (B : Addr → Prop) (al : List Addr) (H : Hp) (a : Addr) (es : List (Key × V)) : Prop := ∃ o : Obj, (H a = some (.frz o (.dK es)) ∧ a ∉ al ∧ ¬ B a) ∧ True
def rowF (p : Int × List Int) : D := .tup (p.2.map .int)

mutual
/-- v stands for the data d -/
inductive RV (K : PySem.W.Frag) (B : Addr → Prop) (al : List Addr) (H : Hp) : D → V → Prop
  | non : RV K B al H .non .non
  | bl (b : Bool) : RV K B al H (.bl b) (.bl b)
  | int (i : Int) : RV K B al H (.int i) (.int i)
  | str (x : Str) : RV K B al H (.str x) (.str x)
  | tup (a : Addr) (ds : List D) (vs : List V) (h : TAt al H a vs) (r : RL K B al H ds vs) : RV K B al H (.tup ds) (.ref a)
  | lst (a : Addr) (ds : List D) (vs : List V) (h : LAt B al H a vs) (r : RL K B al H ds vs) : RV K B al H (.lst ds) (.ref a)
  | scr (a : Addr) (ns : List Int) (h : CAt K B al H a (ns.map V.int)) : RV K B al H (.scr ns) (.ref a)
  | tpi (a : Addr) (ns : List Int) (h : XAt B al H a ns) : RV K B al H (.tpi ns) (.ref a)
  | dcf (a : Addr) (kvs : List (Int × List Int)) (es : List (Key × V)) (h : YAt B al H a es) (k : es.map (·.1) = kvs.map fun p => .inl p.1) (r : RL K B al H (kvs.map rowF) (es.map (·.2))) : RV K B al H (.dcf kvs) (.ref a)
  | tpx (a : Addr) (ds : List D) (vs : List V) (h : ZAt B al H a vs) (r : RL K B al H ds vs) : RV K B al H (.tpx ds) (.ref a)
  | ref (n : Nat) (a : Addr) (h : al[n]? = some a) : RV K B al H (.ref n) (.ref a)
inductive RL (K : PySem.W.Frag) (B : Addr → Prop) (al : List Addr) (H : Hp) : List D → List V → Prop
  | nil : RL K B al H [] []
  | cons (d : D) (v : V) (ds : List D) (vs : List V) (h : RV K B al H d v) (r : RL K B al H ds vs) : RL K B al H (d :: ds) (v :: vs)
end

section
variable {K : PySem.W.Frag} {B : Addr → Prop} {al al' : List Addr} {H H' : Hp}
theorem RL.len {ds : List D} {vs : List V} (r : RL K B al H ds vs) : ds.length = vs.length := by
  induction ds generalizing vs with
  | nil => cases r; rfl
  | cons d ds ih => cases r with | cons _ _ _ _ _ r => simp [ih r]
theorem RL.get {ds : List D} {vs : List V} (r : RL K B al H ds vs) {i : Nat} {d : D} (e : ds[i]? = some d) : ∃ v, vs[i]? = some v ∧ RV K B al H d v := by
  induction ds generalizing vs i with
  | nil => simp at e
  | cons c ds ih =>
    cases r with
    | cons _ v _ vs h r =>
      cases i with
      | zero => simp at e; subst e; exact ⟨v, rfl, h⟩
      | succ i => simpa using ih r (i := i) (by simpa using e)
theorem RL.getV {ds : List D} {vs : List V} (r : RL K B al H ds vs) {i : Nat} {v : V} (e : vs[i]? = some v) : ∃ d, ds[i]? = some d ∧ RV K B al H d v := by
  induction ds generalizing vs i with
  | nil => cases r; simp at e
  | cons c ds ih =>
    cases r with
    | cons _ u _ vs h r =>
      cases i with
      | zero => simp at e; subst e; exact ⟨c, rfl, h⟩
      | succ i => simpa using ih r (i := i) (by simpa using e)
theorem RL.append {ds es : List D} {vs us : List V} (r : RL K B al H ds vs) (q : RL K B al H es us) : RL K B al H (ds ++ es) (vs ++ us) := by
  induction ds generalizing vs with
  | nil => cases r; exact q
  | cons c ds ih => cases r with | cons _ _ _ _ h r => exact .cons _ _ _ _ h (ih r)
theorem RL.take {ds : List D} {vs : List V} (r : RL K B al H ds vs) (n : Nat) : RL K B al H (ds.take n) (vs.take n) := by
  induction ds generalizing vs n with
  | nil => cases r; simp; exact .nil
  | cons c ds ih =>
    cases r with
    | cons _ _ _ _ h r =>
      cases n with
      | zero => exact .nil
      | succ n => exact .cons _ _ _ _ h (ih r n)
theorem RL.drop {ds : List D} {vs : List V} (r : RL K B al H ds vs) (n : Nat) : RL K B al H (ds.drop n) (vs.drop n) := by
  induction ds generalizing vs n with
  | nil => cases r; simp; exact .nil
  | cons c ds ih =>
    cases r with
    | cons _ _ _ _ h r =>
      cases n with
      | zero => exact .cons _ _ _ _ h r
      | succ n => exact ih r n
theorem RL.set {ds : List D} {vs : List V} (r : RL K B al H ds vs) {d : D} {v : V} (h : RV K B al H d v) (i : Nat) : RL K B al H (ds.set i d) (vs.set i v) := by
  induction ds generalizing vs i with
  | nil => cases r; exact .nil
  | cons c ds ih =>
    cases r with
    | cons _ _ _ _ g r =>
      cases i with
      | zero => exact .cons _ _ _ _ h r
      | succ i => exact .cons _ _ _ _ g (ih r i)
theorem RL.rev {ds : List D} {vs : List V} (r : RL K B al H ds vs) : RL K B al H ds.reverse vs.reverse := by
  induction ds generalizing vs with
  | nil => cases r; exact .nil
  | cons c ds ih => cases r with | cons _ _ _ _ h r => simp only [List.reverse_cons]; exact (ih r).append (.cons _ _ _ _ h .nil)
theorem RL.mem {ds : List D} {vs : List V} (r : RL K B al H ds vs) {v : V} (h : v ∈ vs) : ∃ d ∈ ds, RV K B al H d v := by
  obtain ⟨i, e⟩ := List.getElem?_of_mem h
  obtain ⟨d, e', q⟩ := r.getV e
  exact ⟨d, List.mem_of_getElem? e', q⟩

/-- one heap goes on from another: what the store does not name stays -/
structure Ex (al : List Addr) (H : Hp) (al' : List Addr) (H' : Hp) : Prop where
  pre : ∃ be, al' = al ++ be
  fr : ∀ a o, H a = some o → a ∉ al → H' a = some o ∧ a ∉ al'
theorem Ex.refl : Ex al H al H := ⟨⟨[], by simp⟩, fun _ _ h n => ⟨h, n⟩⟩
theorem Ex.trans {al2 : List Addr} {H2 : Hp} (x : Ex al H al' H') (y : Ex al' H' al2 H2) : Ex al H al2 H2 := by
  obtain ⟨⟨b1, e1⟩, f1⟩ := x
  obtain ⟨⟨b2, e2⟩, f2⟩ := y
  exact ⟨⟨b1 ++ b2, by rw [e2, e1, List.append_assoc]⟩, fun a o h n => let ⟨p, q⟩ := f1 a o h n; f2 a o p q⟩
theorem Ex.get (x : Ex al H al' H') {n : Nat} {a : Addr} (h : al[n]? = some a) : al'[n]? = some a := by
  obtain ⟨⟨b, rfl⟩, _⟩ := x
  rw [List.getElem?_append_left (List.getElem?_eq_some_iff.mp h).1]
  exact h

/-- an object of the store -/
def OAt (K : PySem.W.Frag) (B : Addr → Prop) (al : List Addr) (H : Hp) (a : Addr) : MO → Prop
  | .lst ds => ∃ vs, H a = some (.lst vs) ∧ RL K B al H ds vs
  | .dct kvs => ∃ es : List (Key × V), H a = some (.dK es) ∧ kvs.map (·.1) = es.map (·.1) ∧ RL K B al H (kvs.map (·.2)) (es.map (·.2))
  | .dtt kvs => ∃ es : List (List Key × V), H a = some (.dT es) ∧ kvs.map (·.1) = es.map (·.1) ∧ RL K B al H (kvs.map (·.2)) (es.map (·.2))

structure Rel (K : PySem.W.Frag) (B : Addr → Prop) (al : List Addr) (S : Store) (H : Hp) : Prop where
  len : al.length = S.length
  nd : al.Nodup
  bh : ∀ a, B a → a ∉ al ∧ ∃ o, H a = some o
  ob : ∀ (n : Nat) (a : Addr) (o : MO), al[n]? = some a → S[n]? = some o → OAt K B al H a o

theorem OAt.notup {a : Addr} {o : MO} (h : OAt K B al H a o) : (∃ u, H a = some u) ∧ ∀ vs, H a ≠ some (.tup vs) := by
  cases o with
  | lst ds => obtain ⟨vs, e, _⟩ := h; exact ⟨⟨_, e⟩, fun us q => by rw [e] at q; cases q⟩
  | dct kvs => obtain ⟨es, e, _⟩ := h; exact ⟨⟨_, e⟩, fun us q => by rw [e] at q; cases q⟩
  | dtt kvs => obtain ⟨es, e, _⟩ := h; exact ⟨⟨_, e⟩, fun us q => by rw [e] at q; cases q⟩
theorem Rel.there {S : Store} (r : Rel K B al S H) {a : Addr} (h : a ∈ al) : (∃ u, H a = some u) ∧ ∀ vs, H a ≠ some (.tup vs) := by
  obtain ⟨n, hn⟩ := List.getElem?_of_mem h
  have hl := (List.getElem?_eq_some_iff.mp hn).1
  have : n < S.length := by rw [← r.len]; exact hl
  exact (r.ob n a _ hn (List.getElem?_eq_getElem this)).notup
theorem Rel.fresh {S : Store} (r : Rel K B al S H) {p : Addr} (h : H p = none) : p ∉ al := fun hp => by
  obtain ⟨⟨u, e⟩, _⟩ := r.there hp
  rw [h] at e; cases e
theorem Rel.freshB {S : Store} (r : Rel K B al S H) {p : Addr} (h : H p = none) : ¬ B p := fun hp => by
  obtain ⟨_, u, e⟩ := r.bh p hp
  rw [h] at e; cases e
theorem Rel.notup {S : Store} (r : Rel K B al S H) {a : Addr} {vs : List V} (h : H a = some (.tup vs)) : a ∉ al := fun hp => (r.there hp).2 vs h

theorem Ex.ld (x : Ex al H al' H') {a : Addr} {vs : List V} (h : LAt B al H a vs) : LAt B al' H' a vs :=
  ⟨(x.fr _ _ h.1 h.2.1).1, (x.fr _ _ h.1 h.2.1).2, h.2.2⟩
theorem Ex.xd (x : Ex al H al' H') {a : Addr} {ns : List Int} (h : XAt B al H a ns) : XAt B al' H' a ns := by
  obtain ⟨o, ⟨h1, h2, h3⟩, h4⟩ := h
  exact ⟨o, ⟨(x.fr _ _ h1 h2).1, (x.fr _ _ h1 h2).2, h3⟩, h4⟩
theorem Ex.yd (x : Ex al H al' H') {a : Addr} {es : List (Key × V)} (h : YAt B al H a es) : YAt B al' H' a es := by
  obtain ⟨o, ⟨h1, h2, h3⟩, h4⟩ := h
  exact ⟨o, ⟨(x.fr _ _ h1 h2).1, (x.fr _ _ h1 h2).2, h3⟩, h4⟩
theorem Ex.zd (x : Ex al H al' H') {a : Addr} {vs : List V} (h : ZAt B al H a vs) : ZAt B al' H' a vs := by
  obtain ⟨o, ⟨h1, h2, h3⟩, h4⟩ := h
  exact ⟨o, ⟨(x.fr _ _ h1 h2).1, (x.fr _ _ h1 h2).2, h3⟩, h4⟩
theorem Ex.rd (x : Ex al H al' H') {a : Addr} {vs : List V} (h : CAt K B al H a vs) : CAt K B al' H' a vs := by
  rcases h with ⟨h, n, b⟩ | h
  · rcases h with h | ⟨o, h⟩
    · exact .inl ⟨.inl (x.fr _ _ h n).1, (x.fr _ _ h n).2, b⟩
    · exact .inl ⟨.inr ⟨o, (x.fr _ _ h n).1⟩, (x.fr _ _ h n).2, b⟩
  · exact .inr h

theorem rl_nums {C : Addr → Prop} {al2 : List Addr} {H2 : Hp} : ∀ {ns : List Int} {vs : List V}, RL K B al H (ns.map .int) vs → RL K C al2 H2 (ns.map .int) vs
  | [], _, r => by cases r; exact .nil
  | n :: ns, _, r => by
    cases r with
    | cons _ _ _ _ h r => cases h; exact .cons _ _ _ _ (.int n) (rl_nums r)
theorem rl_tups {C : Addr → Prop} {al2 : List Addr} {H2 : Hp} (hk : ∀ a vs, H a = some (.tup vs) → H2 a = some (.tup vs)) : ∀ {kvs : List (Int × List Int)} {vs : List V}, RL K B al H (kvs.map rowF) vs → RL K C al2 H2 (kvs.map rowF) vs
  | [], _, r => by cases r; exact .nil
  | p :: kvs, _, r => by
    cases r with
    | cons _ _ _ _ h r =>
      refine .cons _ _ _ _ ?_ (rl_tups hk r)
      unfold rowF at h ⊢
      cases h with
      | tup a ds vs h r => exact .tup a _ vs (hk _ _ h) (rl_nums r)
/-- no tuple is of the store -/
def NT (al : List Addr) (H : Hp) : Prop := ∀ a vs, H a = some (.tup vs) → a ∉ al
theorem Rel.nt {S : Store} (R : Rel K B al S H) : NT al H := fun _ _ h => R.notup h
mutual
theorem RV.monoN (R : NT al H) (x : Ex al H al' H') : ∀ {d : D} {v : V}, RV K B al H d v → RV K B al' H' d v
  | _, _, .non => .non
  | _, _, .bl b => .bl b
  | _, _, .int i => .int i
  | _, _, .str s => .str s
  | _, _, .tup a ds vs h r => .tup a ds vs (x.fr _ _ h (R _ _ h)).1 (RL.monoN R x r)
  | _, _, .lst a ds vs h r => .lst a ds vs (x.ld h) (RL.monoN R x r)
  | _, _, .scr a ns h => .scr a ns (x.rd h)
  | _, _, .tpi a ns h => .tpi a ns (x.xd h)
  | _, _, .dcf a kvs es h k r => .dcf a kvs es (x.yd h) k (rl_tups (fun a vs e => (x.fr _ _ e (R _ _ e)).1) r)
  | _, _, .tpx a ds vs h r => .tpx a ds vs (x.zd h) (RL.monoN R x r)
  | _, _, .ref n a h => .ref n a (x.get h)
theorem RL.monoN (R : NT al H) (x : Ex al H al' H') : ∀ {ds : List D} {vs : List V}, RL K B al H ds vs → RL K B al' H' ds vs
  | _, _, .nil => .nil
  | _, _, .cons d v ds vs h r => .cons d v ds vs (RV.monoN R x h) (RL.monoN R x r)
end
theorem RV.mono {S : Store} (R : Rel K B al S H) (x : Ex al H al' H') {d : D} {v : V} (r : RV K B al H d v) : RV K B al' H' d v := r.monoN R.nt x
theorem RL.mono {S : Store} (R : Rel K B al S H) (x : Ex al H al' H') {d : List D} {v : List V} (r : RL K B al H d v) : RL K B al' H' d v := r.monoN R.nt x

theorem OAt.keep {S : Store} (R : Rel K B al S H) (x : Ex al H al' H') {a : Addr} {o : MO} (q : OAt K B al H a o) (k : ∀ w, H a = some w → H' a = some w) : OAt K B al' H' a o := by
  cases o with
  | lst ds => obtain ⟨vs, e, r⟩ := q; exact ⟨vs, k _ e, r.mono R x⟩
  | dct kvs => obtain ⟨es, e, e2, r⟩ := q; exact ⟨es, k _ e, e2, r.mono R x⟩
  | dtt kvs => obtain ⟨es, e, e2, r⟩ := q; exact ⟨es, k _ e, e2, r.mono R x⟩
/-- a new object that the store does not name -/
theorem Rel.side {S : Store} (R : Rel K B al S H) {p : Addr} {o : HO} (h : H p = none) : Ex al H al (upd H p o) ∧ Rel K B al S (upd H p o) := by
  have x : Ex al H al (upd H p o) := ⟨⟨[], by simp⟩, fun a u e n => ⟨by rw [upd_ne (ne_of_none e h)]; exact e, n⟩⟩
  refine ⟨x, R.len, R.nd, fun a b => ?_, fun n a u e1 e2 => ?_⟩
  · obtain ⟨n, u, e⟩ := R.bh a b
    exact ⟨n, u, by rw [upd_ne (ne_of_none e h)]; exact e⟩
  · have q := R.ob n a u e1 e2
    exact q.keep R x fun w e => by rw [upd_ne (ne_of_none e h)]; exact e
/-- a new object of the store -/
theorem Rel.new {S : Store} (R : Rel K B al S H) {p : Addr} {o : HO} {u : MO} (h : H p = none) (q : Ex al H (al ++ [p]) (upd H p o) → OAt K B (al ++ [p]) (upd H p o) p u) :
    Ex al H (al ++ [p]) (upd H p o) ∧ Rel K B (al ++ [p]) (S ++ [u]) (upd H p o) := by
  have np := R.fresh h
  have x : Ex al H (al ++ [p]) (upd H p o) := ⟨⟨[p], rfl⟩, fun a u e n => ⟨by rw [upd_ne (ne_of_none e h)]; exact e, by simp only [List.mem_append, List.mem_singleton, not_or]; exact ⟨n, ne_of_none e h⟩⟩⟩
  refine ⟨x, by simp [R.len], ?_, fun a b => ?_, fun n a v e1 e2 => ?_⟩
  · rw [List.nodup_append]
    exact ⟨R.nd, by simp, fun a ha b hb => by simp at hb; subst hb; exact fun e => np (e ▸ ha)⟩
  · obtain ⟨n, u, e⟩ := R.bh a b
    exact ⟨by simp only [List.mem_append, List.mem_singleton, not_or]; exact ⟨n, ne_of_none e h⟩, u, by rw [upd_ne (ne_of_none e h)]; exact e⟩
  · by_cases hn : n < al.length
    · rw [List.getElem?_append_left hn] at e1
      rw [List.getElem?_append_left (by rw [← R.len]; exact hn)] at e2
      have q := R.ob n a v e1 e2
      exact q.keep R x fun w e => by rw [upd_ne (ne_of_none e h)]; exact e
    · have hl : n < (al ++ [p]).length := (List.getElem?_eq_some_iff.mp e1).1
      have : n = al.length := by simp at hl; omega
      subst this
      rw [List.getElem?_append_right (Nat.le_refl _)] at e1
      rw [R.len, List.getElem?_append_right (Nat.le_refl _)] at e2
      simp at e1 e2
      subst e1; subst e2
      exact q x
/-- the object of the store at n is changed -/
theorem Rel.put {S : Store} (R : Rel K B al S H) {n : Nat} {a : Addr} {o : HO} {u : MO} (ha : al[n]? = some a) (hn : ∀ vs, o ≠ .tup vs) (q : Ex al H al (upd H a o) → OAt K B al (upd H a o) a u) :
    Ex al H al (upd H a o) ∧ Rel K B al (S.set n u) (upd H a o) := by
  have hm : a ∈ al := List.mem_of_getElem? ha
  have x : Ex al H al (upd H a o) := ⟨⟨[], by simp⟩, fun b u e n => ⟨by rw [upd_ne (show _ ≠ a from fun z => n (by rw [z]; exact hm))]; exact e, n⟩⟩
  refine ⟨x, by simp [R.len], R.nd, fun b hb => ?_, fun m b v e1 e2 => ?_⟩
  · obtain ⟨n, u, e⟩ := R.bh b hb
    exact ⟨n, u, by rw [upd_ne (show _ ≠ a from fun z => n (by rw [z]; exact hm))]; exact e⟩
  · by_cases hmn : m = n
    · subst hmn
      rw [ha] at e1; cases e1
      have hl : m < S.length := by rw [← R.len]; exact (List.getElem?_eq_some_iff.mp ha).1
      rw [List.getElem?_set_self hl] at e2
      cases e2
      exact q x
    · rw [List.getElem?_set_ne (Ne.symm hmn)] at e2
      refine (R.ob m b v e1 e2).keep R x fun w e => ?_
      rw [upd_ne (fun z => ?_)]
      · exact e
      · subst z
        obtain ⟨h1, g1⟩ := List.getElem?_eq_some_iff.mp e1
        obtain ⟨h2, g2⟩ := List.getElem?_eq_some_iff.mp ha
        exact hmn ((List.getElem_inj R.nd).mp (g1.trans g2.symm))
theorem Rel.look {S : Store} (R : Rel K B al S H) {n : Nat} {a : Addr} {o : MO} (h : RV K B al H (.ref n) (.ref a)) (e : S[n]? = some o) : al[n]? = some a ∧ OAt K B al H a o := by
  cases h with
  | ref _ _ h => exact ⟨h, R.ob n a o h e⟩
end
end Z
set_option Elab.async false
set_option linter.all false
set_option maxRecDepth 100000
/-! What a piece of syntax computes, over data and store, and that the layer's readings follow it. -/
namespace Z
open PySem L2

abbrev M (α : Type) := Store → Option (α × Store)
def ret {α : Type} (a : α) : M α := fun S => some (a, S)
def fail {α : Type} : M α := fun _ => none
def bnd {α β : Type} (x : M α) (f : α → M β) : M β := fun S => match x S with
  | none => none
  | some (a, S') => f a S'
theorem bnd_some {α β : Type} {x : M α} {f : α → M β} {S S' : Store} {b : β} (h : bnd x f S = some (b, S')) : ∃ a S1, x S = some (a, S1) ∧ f a S1 = some (b, S') := by
  unfold bnd at h
  split at h
  · cases h
  · rename_i a S1 e
    exact ⟨a, S1, e, h⟩
theorem ret_some {α : Type} {a b : α} {S S' : Store} (h : ret a S = some (b, S')) : a = b ∧ S = S' := by
  unfold ret at h; cases h; exact ⟨rfl, rfl⟩

abbrev ME := Env → M D
abbrev MT := Env → M Bool
abbrev MA := Env → M (List D)

/-- the frame's slots -/
def ER (K : PySem.W.Frag) (B : Addr → Prop) (al : List Addr) (H : Hp) (ρ : Env) (σ : St) : Prop :=
  ρ.length = σ.length ∧ ∀ (i : Nat) (d : D), ρ[i]? = some (some d) → ∃ v, σ[i]? = some (some v) ∧ RV K B al H d v
theorem ER.mono {K : PySem.W.Frag} {B : Addr → Prop} {al al' : List Addr} {H H' : Hp} {S : Store} {ρ : Env} {σ : St} (e : ER K B al H ρ σ) (R : Rel K B al S H) (x : Ex al H al' H') : ER K B al' H' ρ σ :=
  ⟨e.1, fun i d h => let ⟨v, a, b⟩ := e.2 i d h; ⟨v, a, b.mono R x⟩⟩
theorem ER.set {K : PySem.W.Frag} {B : Addr → Prop} {al : List Addr} {H : Hp} {ρ : Env} {σ : St} (e : ER K B al H ρ σ) {d : D} {v : V} (r : RV K B al H d v) (i : Nat) : ER K B al H (ρ.set i (some d)) (σ.set i (some v)) := by
  refine ⟨by simp [e.1], fun j c h => ?_⟩
  by_cases hj : i = j
  · subst hj
    have hl : i < ρ.length := by
      have := (List.getElem?_eq_some_iff.mp h).1
      simpa using this
    rw [List.getElem?_set_self hl] at h
    cases h
    exact ⟨v, by rw [List.getElem?_set_self (by rw [← e.1]; exact hl)], r⟩
  · rw [List.getElem?_set_ne hj] at h
    obtain ⟨u, q, r'⟩ := e.2 j c h
    exact ⟨u, by rw [List.getElem?_set_ne hj]; exact q, r'⟩
def wipeD (ρ : Env) : List Nat → Env
  | [] => ρ
  | v :: vs => (wipeD ρ vs).set v none
theorem ER.none {K : PySem.W.Frag} {B : Addr → Prop} {al : List Addr} {H : Hp} {ρ : Env} {σ : St} (e : ER K B al H ρ σ) (i : Nat) : ER K B al H (ρ.set i none) (σ.set i none) := by
  refine ⟨by simp [e.1], fun j c h => ?_⟩
  by_cases hj : i = j
  · subst hj
    have hl : i < ρ.length := by
      have := (List.getElem?_eq_some_iff.mp h).1
      simpa using this
    rw [List.getElem?_set_self hl] at h
    cases h
  · rw [List.getElem?_set_ne hj] at h
    obtain ⟨u, q, r'⟩ := e.2 j c h
    exact ⟨u, by rw [List.getElem?_set_ne hj]; exact q, r'⟩
theorem ER.wipe {K : PySem.W.Frag} {B : Addr → Prop} {al : List Addr} {H : Hp} {ρ : Env} {σ : St} (e : ER K B al H ρ σ) : ∀ vs : List Nat, ER K B al H (wipeD ρ vs) (wipe σ vs)
  | [] => e
  | v :: vs => (e.wipe vs).none v

/-- the reading that a computation gives -/
def tG (K : PySem.W.Frag) {α β : Type} (rel : (Addr → Prop) → List Addr → Hp → α → β → Prop) (m : Env → M α) : St → Hp → (β → Hp → Prop) → Prop := fun σ H Q =>
  ∃ (B : Addr → Prop) (al : List Addr) (S : Store) (ρ : Env) (a : α) (S' : Store), Rel K B al S H ∧ ER K B al H ρ σ ∧ m ρ S = some (a, S') ∧
    ∀ (b : β) (al' : List Addr) (H' : Hp), Rel K B al' S' H' → Ex al H al' H' → rel B al' H' a b → Q b H'
def tE (K : PySem.W.Frag) (m : ME) : TE := tG K (fun B al H d v => RV K B al H d v) m
def tT (K : PySem.W.Frag) (m : MT) : TT := tG K (fun _ _ _ a b => a = b) m
def tA (K : PySem.W.Frag) (m : MA) : TA := tG K (fun B al H d v => RL K B al H d v) m
def tO (K : PySem.W.Frag) (m : Env → M (Option Int)) : TO := tG K (fun _ _ _ a b => a = b) m

/-- also without these -/
def Bp (B : Addr → Prop) (p : Addr) : Addr → Prop := fun b => B b ∨ b = p
/-- a list just made, which nobody knows -/
def tF (K : PySem.W.Frag) (m : MA) : TE := fun σ H Q =>
  ∃ (B : Addr → Prop) (al : List Addr) (S : Store) (ρ : Env) (ds : List D) (S' : Store), Rel K B al S H ∧ ER K B al H ρ σ ∧ m ρ S = some (ds, S') ∧
    ∀ (p : Addr) (vs : List V) (al' : List Addr) (H' : Hp), Rel K (Bp B p) al' S' H' → Ex al H al' H' → H p = none → H' p = some (.lst vs) → RL K (Bp B p) al' H' ds vs → Q (.ref p) H'

def Sn (X : Cx) (e : Expr) (m : ME) : Prop := PE X e (tE X.K m)
def SnF (X : Cx) (e : Expr) (m : MA) : Prop := PE X e (tF X.K m)
def Stt (X : Cx) (e : Expr) (m : MT) : Prop := PT X e (tT X.K m)
structure Sa (X : Cx) (es : List Expr) (m : MA) : Prop where
  run : PA X es (tA X.K m)
  len : ∀ ρ S ds S', m ρ S = some (ds, S') → ds.length = es.length

section
variable {X : Cx} {e : Expr}
theorem pe_imp {t t' : TE} (h : PE X e t) (q : ∀ σ H Q, t' σ H Q → t σ H Q) : PE X e t' := ⟨fun pins s σ H Q I w => h.run pins s σ H Q I (q _ _ _ w)⟩
theorem pt_imp {t t' : TT} (h : PT X e t) (q : ∀ σ H Q, t' σ H Q → t σ H Q) : PT X e t' := ⟨fun pins s σ H Q I w => h.run pins s σ H Q I (q _ _ _ w)⟩
theorem pa_imp {es : List Expr} {t t' : TA} (h : PA X es t) (q : ∀ σ H Q, t' σ H Q → t σ H Q) : PA X es t' := ⟨fun pos pins s σ H Q I w => h.run pos pins s σ H Q I (q _ _ _ w)⟩
end

/-! ### banned addresses -/
section
variable {K : PySem.W.Frag} {B C : Addr → Prop} {al : List Addr} {H : Hp}
theorem XAt.less (q : ∀ a, C a → B a) {a : Addr} {ns : List Int} (h : XAt B al H a ns) : XAt C al H a ns := by
  obtain ⟨o, ⟨h1, h2, h3⟩, h4⟩ := h
  exact ⟨o, ⟨h1, h2, fun z => h3 (q _ z)⟩, h4⟩
theorem ZAt.less (q : ∀ a, C a → B a) {a : Addr} {vs : List V} (h : ZAt B al H a vs) : ZAt C al H a vs := by
  obtain ⟨o, ⟨h1, h2, h3⟩, h4⟩ := h
  exact ⟨o, ⟨h1, h2, fun z => h3 (q _ z)⟩, h4⟩
theorem ZAt.ban {p : Addr} (h0 : H p = none) {a : Addr} {vs : List V} (h : ZAt B al H a vs) : ZAt (Bp B p) al H a vs := by
  obtain ⟨o, ⟨h1, h2, h3⟩, h4⟩ := h
  exact ⟨o, ⟨h1, h2, fun z => z.elim h3 fun e => by rw [e, h0] at h1; cases h1⟩, h4⟩
theorem ZAt.gain {p : Addr} {a : Addr} {vs : List V} (h : ZAt (Bp B p) al H a vs) : ZAt B (al ++ [p]) H a vs := by
  obtain ⟨o, ⟨h1, h2, h3⟩, h4⟩ := h
  exact ⟨o, ⟨h1, fun z => (List.mem_append.mp z).elim h2 fun y => h3 (.inr (List.mem_singleton.mp y)), fun z => h3 (.inl z)⟩, h4⟩
theorem YAt.less (q : ∀ a, C a → B a) {a : Addr} {es : List (Key × V)} (h : YAt B al H a es) : YAt C al H a es := by
  obtain ⟨o, ⟨h1, h2, h3⟩, h4⟩ := h
  exact ⟨o, ⟨h1, h2, fun z => h3 (q _ z)⟩, h4⟩
theorem YAt.ban {p : Addr} (h0 : H p = none) {a : Addr} {es : List (Key × V)} (h : YAt B al H a es) : YAt (Bp B p) al H a es := by
  obtain ⟨o, ⟨h1, h2, h3⟩, h4⟩ := h
  exact ⟨o, ⟨h1, h2, fun z => z.elim h3 fun e => by rw [e, h0] at h1; cases h1⟩, h4⟩
theorem YAt.gain {p : Addr} {a : Addr} {es : List (Key × V)} (h : YAt (Bp B p) al H a es) : YAt B (al ++ [p]) H a es := by
  obtain ⟨o, ⟨h1, h2, h3⟩, h4⟩ := h
  exact ⟨o, ⟨h1, fun z => (List.mem_append.mp z).elim h2 fun y => h3 (.inr (List.mem_singleton.mp y)), fun z => h3 (.inl z)⟩, h4⟩
theorem XAt.ban {p : Addr} (h0 : H p = none) {a : Addr} {ns : List Int} (h : XAt B al H a ns) : XAt (Bp B p) al H a ns := by
  obtain ⟨o, ⟨h1, h2, h3⟩, h4⟩ := h
  exact ⟨o, ⟨h1, h2, fun z => z.elim h3 fun e => by rw [e, h0] at h1; cases h1⟩, h4⟩
theorem XAt.gain {p : Addr} {a : Addr} {ns : List Int} (h : XAt (Bp B p) al H a ns) : XAt B (al ++ [p]) H a ns := by
  obtain ⟨o, ⟨h1, h2, h3⟩, h4⟩ := h
  exact ⟨o, ⟨h1, fun z => (List.mem_append.mp z).elim h2 fun y => h3 (.inr (List.mem_singleton.mp y)), fun z => h3 (.inl z)⟩, h4⟩
mutual
theorem RV.less (q : ∀ a, C a → B a) : ∀ {d : D} {v : V}, RV K B al H d v → RV K C al H d v
  | _, _, .non => .non
  | _, _, .bl b => .bl b
  | _, _, .int i => .int i
  | _, _, .str s => .str s
  | _, _, .tup a ds vs h r => .tup a ds vs h (RL.less q r)
  | _, _, .lst a ds vs h r => .lst a ds vs ⟨h.1, h.2.1, fun z => h.2.2 (q _ z)⟩ (RL.less q r)
  | _, _, .scr a ns h => .scr a ns (match h with | .inl ⟨x, y, z⟩ => .inl ⟨x, y, fun w => z (q _ w)⟩ | .inr x => .inr x)
  | _, _, .tpi a ns h => .tpi a ns (h.less q)
  | _, _, .dcf a kvs es h k r => .dcf a kvs es (h.less q) k (rl_tups (fun _ _ e => e) r)
  | _, _, .tpx a ds vs h r => .tpx a ds vs (h.less q) (RL.less q r)
  | _, _, .ref n a h => .ref n a h
theorem RL.less (q : ∀ a, C a → B a) : ∀ {ds : List D} {vs : List V}, RL K B al H ds vs → RL K C al H ds vs
  | _, _, .nil => .nil
  | _, _, .cons d v ds vs h r => .cons d v ds vs (RV.less q h) (RL.less q r)
end
theorem OAt.less (q : ∀ a, C a → B a) {a : Addr} {o : MO} (h : OAt K B al H a o) : OAt K C al H a o := by
  cases o with
  | lst ds => obtain ⟨vs, e, r⟩ := h; exact ⟨vs, e, r.less q⟩
  | dct kvs => obtain ⟨es, e, e2, r⟩ := h; exact ⟨es, e, e2, r.less q⟩
  | dtt kvs => obtain ⟨es, e, e2, r⟩ := h; exact ⟨es, e, e2, r.less q⟩
theorem Rel.less {S : Store} (R : Rel K B al S H) (q : ∀ a, C a → B a) : Rel K C al S H := ⟨R.len, R.nd, fun a h => R.bh a (q a h), fun n a o e1 e2 => (R.ob n a o e1 e2).less q⟩
theorem bp_less {p : Addr} : ∀ a, B a → Bp B p a := fun _ h => .inl h
mutual
theorem RV.ban {p : Addr} (h0 : H p = none) : ∀ {d : D} {v : V}, RV K B al H d v → RV K (Bp B p) al H d v
  | _, _, .non => .non
  | _, _, .bl b => .bl b
  | _, _, .int i => .int i
  | _, _, .str s => .str s
  | _, _, .tup a ds vs h r => .tup a ds vs h (RL.ban h0 r)
  | _, _, .lst a ds vs h r => .lst a ds vs ⟨h.1, h.2.1, fun z => z.elim h.2.2 fun e => by have h1 := h.1; rw [e, h0] at h1; cases h1⟩ (RL.ban h0 r)
  | _, _, .tpi a ns h => .tpi a ns (h.ban h0)
  | _, _, .dcf a kvs es h k r => .dcf a kvs es (h.ban h0) k (rl_tups (fun _ _ e => e) r)
  | _, _, .tpx a ds vs h r => .tpx a ds vs (h.ban h0) (RL.ban h0 r)
  | _, _, .scr a ns h => .scr a ns (match h with
    | .inl ⟨x, y, z⟩ => .inl ⟨x, y, fun w => w.elim z fun e => by
        rw [e] at x
        rcases x with x | ⟨o, x⟩ <;> rw [h0] at x <;> cases x⟩
    | .inr x => .inr x)
  | _, _, .ref n a h => .ref n a h
theorem RL.ban {p : Addr} (h0 : H p = none) : ∀ {ds : List D} {vs : List V}, RL K B al H ds vs → RL K (Bp B p) al H ds vs
  | _, _, .nil => .nil
  | _, _, .cons d v ds vs h r => .cons d v ds vs (RV.ban h0 h) (RL.ban h0 r)
end
theorem OAt.ban {p : Addr} (h0 : H p = none) {a : Addr} {o : MO} (h : OAt K B al H a o) : OAt K (Bp B p) al H a o := by
  cases o with
  | lst ds => obtain ⟨vs, e, r⟩ := h; exact ⟨vs, e, r.ban h0⟩
  | dct kvs => obtain ⟨es, e, e2, r⟩ := h; exact ⟨es, e, e2, r.ban h0⟩
  | dtt kvs => obtain ⟨es, e, e2, r⟩ := h; exact ⟨es, e, e2, r.ban h0⟩
/-- a new object that the store does not name and that nothing may lean on -/
theorem Rel.ban {S : Store} (R : Rel K B al S H) {p : Addr} {o : HO} (h : H p = none) : Ex al H al (upd H p o) ∧ Rel K (Bp B p) al S (upd H p o) := by
  obtain ⟨x, R1⟩ := R.side (o := o) h
  refine ⟨x, R.len, R.nd, fun a q => ?_, fun n a u e1 e2 => ?_⟩
  · rcases q with q | q
    · exact R1.bh a q
    · subst q; exact ⟨R.fresh h, _, upd_same⟩
  · have R0 : Rel K (Bp B p) al S H → True := fun _ => trivial
    have q := (R.ob n a u e1 e2)
    have k : ∀ w, H a = some w → upd H p o a = some w := fun w e => by rw [upd_ne (ne_of_none e h)]; exact e
    cases u with
    | lst ds => obtain ⟨vs, e, r⟩ := q; exact ⟨vs, k _ e, (r.ban h).monoN R.nt x⟩
    | dct kvs => obtain ⟨es, e, e2, r⟩ := q; exact ⟨es, k _ e, e2, (r.ban h).monoN R.nt x⟩
    | dtt kvs => obtain ⟨es, e, e2, r⟩ := q; exact ⟨es, k _ e, e2, (r.ban h).monoN R.nt x⟩

mutual
theorem RV.gain {p : Addr} : ∀ {d : D} {v : V}, RV K (Bp B p) al H d v → RV K B (al ++ [p]) H d v
  | _, _, .non => .non
  | _, _, .bl b => .bl b
  | _, _, .int i => .int i
  | _, _, .str s => .str s
  | _, _, .tup a ds vs h r => .tup a ds vs h (RL.gain r)
  | _, _, .lst a ds vs h r => .lst a ds vs ⟨h.1, fun z => (List.mem_append.mp z).elim h.2.1 fun y => h.2.2 (.inr (List.mem_singleton.mp y)), fun z => h.2.2 (.inl z)⟩ (RL.gain r)
  | _, _, .tpi a ns h => .tpi a ns h.gain
  | _, _, .dcf a kvs es h k r => .dcf a kvs es h.gain k (rl_tups (fun _ _ e => e) r)
  | _, _, .tpx a ds vs h r => .tpx a ds vs h.gain (RL.gain r)
  | _, _, .scr a ns h => .scr a ns (match h with
    | .inl ⟨x, y, z⟩ => .inl ⟨x, fun w => (List.mem_append.mp w).elim y fun u => z (.inr (List.mem_singleton.mp u)), fun w => z (.inl w)⟩
    | .inr x => .inr x)
  | _, _, .ref n a h => .ref n a (by rw [List.getElem?_append_left (List.getElem?_eq_some_iff.mp h).1]; exact h)
theorem RL.gain {p : Addr} : ∀ {ds : List D} {vs : List V}, RL K (Bp B p) al H ds vs → RL K B (al ++ [p]) H ds vs
  | _, _, .nil => .nil
  | _, _, .cons d v ds vs h r => .cons d v ds vs (RV.gain h) (RL.gain r)
end
theorem OAt.gain {p a : Addr} {o : MO} (h : OAt K (Bp B p) al H a o) : OAt K B (al ++ [p]) H a o := by
  cases o with
  | lst ds => obtain ⟨vs, e, r⟩ := h; exact ⟨vs, e, r.gain⟩
  | dct kvs => obtain ⟨es, e, e2, r⟩ := h; exact ⟨es, e, e2, r.gain⟩
  | dtt kvs => obtain ⟨es, e, e2, r⟩ := h; exact ⟨es, e, e2, r.gain⟩
/-- what nobody leans on is taken into the store -/
theorem Rel.gain {S : Store} {p : Addr} {u : MO} (R : Rel K (Bp B p) al S H) (q : OAt K (Bp B p) al H p u) (hb : ¬ B p) : Rel K B (al ++ [p]) (S ++ [u]) H := by
  have np := (R.bh p (.inr rfl)).1
  refine ⟨by simp [R.len], ?_, fun a b => ?_, fun n a v e1 e2 => ?_⟩
  · rw [List.nodup_append]
    exact ⟨R.nd, by simp, fun a ha b hb => by simp at hb; subst hb; exact fun e => np (e ▸ ha)⟩
  · obtain ⟨n, u⟩ := R.bh a (.inl b)
    exact ⟨by simp only [List.mem_append, List.mem_singleton, not_or]; exact ⟨n, fun e => hb (e ▸ b)⟩, u⟩
  · by_cases hn : n < al.length
    · rw [List.getElem?_append_left hn] at e1
      rw [List.getElem?_append_left (by rw [← R.len]; exact hn)] at e2
      exact (R.ob n a v e1 e2).gain
    · have hl : n < (al ++ [p]).length := (List.getElem?_eq_some_iff.mp e1).1
      have : n = al.length := by simp at hl; omega
      subst this
      rw [List.getElem?_append_right (Nat.le_refl _)] at e1
      rw [R.len, List.getElem?_append_right (Nat.le_refl _)] at e2
      simp at e1 e2
      subst e1; subst e2
      exact q.gain
end

theorem Ex.gain {al al' : List Addr} {H H' : Hp} {p : Addr} (x : Ex al H al' H') (h0 : H p = none) : Ex al H (al' ++ [p]) H' := by
  obtain ⟨⟨b, rfl⟩, f⟩ := x
  refine ⟨⟨b ++ [p], by simp⟩, fun a o e n => ⟨(f a o e n).1, ?_⟩⟩
  rw [List.mem_append, List.mem_singleton, not_or]
  exact ⟨(f a o e n).2, ne_of_none e h0⟩

/-- a list just made: as data that stays -/
def mFz (m : MA) : ME := fun ρ => bnd (m ρ) fun ds => ret (.lst ds)
/-- .. as an object of the store -/
def mAd (m : MA) : ME := fun ρ S => match m ρ S with
  | some (ds, S') => some (.ref S'.length, S' ++ [.lst ds])
  | none => none
section
variable {X : Cx} {e : Expr} {m : MA}
theorem sn_fz (h : SnF X e m) : Sn X e (mFz m) := pe_imp h fun σ H Q ⟨B, al, S, ρ, d, S', R, er, hm, q⟩ => by
  obtain ⟨ds, S1, h1, h2⟩ := bnd_some hm
  obtain ⟨rfl, rfl⟩ := ret_some h2
  refine ⟨B, al, S, ρ, ds, S1, R, er, h1, fun p vs al' H' R' x h0 hp r => q _ al' H' (R'.less bp_less) x ?_⟩
  exact .lst p ds vs ⟨hp, (R'.bh p (.inr rfl)).1, R.freshB h0⟩ (r.less bp_less)
theorem sn_ad (h : SnF X e m) : Sn X e (mAd m) := pe_imp h fun σ H Q ⟨B, al, S, ρ, d, S', R, er, hm, q⟩ => by
  unfold mAd at hm
  split at hm
  · rename_i ds S1 h1
    cases hm
    refine ⟨B, al, S, ρ, ds, S1, R, er, h1, fun p vs al' H' R' x h0 hp r => q _ (al' ++ [p]) H' ?_ ?_ ?_⟩
    · exact R'.gain ⟨vs, hp, r⟩ (R.freshB h0)
    · exact x.gain h0
    · refine .ref _ p ?_
      rw [← R'.len]
      simp
  · cases hm
end
end Z
set_option Elab.async false
set_option linter.all false
set_option maxRecDepth 100000
/-! Names, constants, arguments, displays, operators, tests. -/
namespace Z
open PySem L2

/-! ### names and constants -/
def mVar (i : Nat) : ME := fun ρ S => match ρ[i]? with
  | some (some d) => some (d, S)
  | _ => none
def mC (d : D) : ME := fun _ => ret d
/-- what a constant's data is as a value -/
def cV : D → Option V
  | .non => some .non
  | .bl b => some (.bl b)
  | .int i => some (.int i)
  | .str x => some (.str x)
  | _ => none
section
variable {X : Cx}
theorem sn_var {e : Expr} (i : Nat) (h : PE X e (tVar i)) : Sn X e (mVar i) := pe_imp h fun σ H Q ⟨B, al, S, ρ, d, S', R, er, hm, q⟩ => by
  unfold mVar at hm
  split at hm
  · rename_i d' h1
    cases hm
    obtain ⟨v, hv, r⟩ := er.2 i d h1
    exact ⟨v, hv, q v al H R .refl r⟩
  · cases hm
theorem sn_c {e : Expr} {d : D} {v : V} (h : PE X e (tC v)) (hc : cV d = some v) : Sn X e (mC d) := pe_imp h fun σ H Q ⟨B, al, S, ρ, d', S', R, er, hm, q⟩ => by
  obtain ⟨rfl, rfl⟩ := ret_some hm
  refine q v al H R .refl ?_
  cases d <;> simp [cV] at hc <;> subst hc
  · exact .non
  · exact .bl _
  · exact .int _
  · exact .str _
end

/-! ### argument lists -/
def mNil : MA := fun _ => ret []
def mCons (m : ME) (r : MA) : MA := fun ρ => bnd (m ρ) fun d => bnd (r ρ) fun ds => ret (d :: ds)
section
variable {X : Cx}
theorem sa_nil : Sa X [] mNil := ⟨pa_imp pa_nil fun σ H Q ⟨B, al, S, ρ, d', S', R, er, hm, q⟩ => by
  obtain ⟨rfl, rfl⟩ := ret_some hm
  exact q [] al H R .refl .nil, fun ρ S ds S' h => by obtain ⟨rfl, _⟩ := ret_some h; rfl⟩
theorem sa_cons {e : Expr} {es : List Expr} {m : ME} {r : MA} (he : Sn X e m) (hr : Sa X es r) (hs : starEach (e :: es) X.env = (false, eval e X.env) :: starEach es X.env := by rfl) : Sa X (e :: es) (mCons m r) :=
  ⟨pa_imp (pa_cons he hr.run hs) fun σ H Q ⟨B, al, S, ρ, d', S', R, er, hm, q⟩ => by
    obtain ⟨d, S1, h1, h2⟩ := bnd_some hm
    obtain ⟨ds, S2, h3, h4⟩ := bnd_some h2
    obtain ⟨rfl, rfl⟩ := ret_some h4
    refine ⟨B, al, S, ρ, d, S1, R, er, h1, fun v al1 H1 R1 x1 r1 => ⟨B, al1, S1, ρ, ds, S2, R1, er.mono R x1, h3, fun vs al2 H2 R2 x2 r2 => ?_⟩⟩
    exact q _ al2 H2 R2 (x1.trans x2) (.cons _ _ _ _ (r1.mono R1 x2) r2), fun ρ S ds S' h => by
    obtain ⟨d, S1, h1, h2⟩ := bnd_some h
    obtain ⟨ds, S2, h3, h4⟩ := bnd_some h2
    obtain ⟨rfl, _⟩ := ret_some h4
    simp [hr.len _ _ _ _ h3]⟩
end

/-! ### displays -/
def mTup (m : MA) : ME := fun ρ => bnd (m ρ) fun ds => ret (.tup ds)
section
variable {X : Cx}
theorem sn_tup {es : List Expr} {m : MA} {pos : Pos} {x1} (h : Sa X es m) (hl : es.length ≤ 1000 := by decide) : Sn X (.Tuple es x1 pos) (mTup m) := pe_imp (pe_tup h.run) fun σ H Q ⟨B, al, S, ρ, d', S', R, er, hm, q⟩ => by
  obtain ⟨ds, S1, h1, h2⟩ := bnd_some hm
  obtain ⟨rfl, rfl⟩ := ret_some h2
  refine ⟨B, al, S, ρ, ds, S1, R, er, h1, fun vs al1 H1 R1 x1 r1 => ⟨?_, fun p hp => ?_⟩⟩
  · rw [← r1.len, h.len _ _ _ _ h1]; exact Nat.le_trans hl (by decide)
  · obtain ⟨x2, R2⟩ := R1.side (o := .tup vs) hp
    exact q _ al1 _ R2 (x1.trans x2) (.tup p ds vs upd_same (r1.mono R1 x2))
theorem sn_lst {es : List Expr} {m : MA} {pos : Pos} (h : Sa X es m) (hl : es.length ≤ 1000 := by decide) : SnF X (.List es pos) m := pe_imp (pe_lst h.run) fun σ H Q ⟨B, al, S, ρ, ds, S1, R, er, h1, q⟩ => by
  refine ⟨B, al, S, ρ, ds, S1, R, er, h1, fun vs al1 H1 R1 x1 r1 => ⟨?_, fun p hp => ?_⟩⟩
  · rw [← r1.len, h.len _ _ _ _ h1]; exact Nat.le_trans hl (by decide)
  · obtain ⟨x2, R2⟩ := R1.ban (o := .lst vs) hp
    have h0 : H p = none := by
      cases hq : H p with
      | none => rfl
      | some o =>
        exfalso
        by_cases hpa : p ∈ al
        · obtain ⟨be, rfl⟩ := x1.pre
          exact R1.fresh hp (List.mem_append_left _ hpa)
        · rw [(x1.fr p o hq hpa).1] at hp; cases hp
    exact q p vs al1 _ R2 (x1.trans x2) h0 upd_same ((r1.ban hp).monoN R1.nt x2)
end

/-! ### operators -/
/-- a two-place operation by values follows one by data -/
def R2S (K : PySem.W.Frag) (r : R2) (f : D → D → M D) : Prop := ∀ (B : Addr → Prop) (al : List Addr) (S : Store) (H : Hp) (d e z : D) (v w : V) (S' : Store), Rel K B al S H → RV K B al H d v → RV K B al H e w → f d e S = some (z, S') →
  ∀ Q : VK, (∀ u al' H', Rel K B al' S' H' → Ex al H al' H' → RV K B al' H' z u → Q u H') → r v w H Q
def mOp (f : D → D → M D) (a b : ME) : ME := fun ρ => bnd (a ρ) fun x => bnd (b ρ) fun y => f x y
section
variable {X : Cx} {a b : Expr} {ma mb : ME} {pos : Pos} {f : D → D → M D} {r : R2}
theorem top_of (hr : R2S X.K r f) : ∀ σ H Q, tE X.K (mOp f ma mb) σ H Q → tOp r (tE X.K ma) (tE X.K mb) σ H Q := fun σ H Q ⟨B, al, S, ρ, z, S', R, er, hm, q⟩ => by
  obtain ⟨d, S1, h1, h2⟩ := bnd_some hm
  obtain ⟨e, S2, h3, h4⟩ := bnd_some h2
  refine ⟨B, al, S, ρ, d, S1, R, er, h1, fun v al1 H1 R1 x1 r1 => ⟨B, al1, S1, ρ, e, S2, R1, er.mono R x1, h3, fun w al2 H2 R2 x2 r2 => ?_⟩⟩
  exact hr B al2 S2 H2 d e z v w S' R2 (r1.mono R1 x2) r2 h4 Q fun u al3 H3 R3 x3 r3 => q u al3 H3 R3 ((x1.trans x2).trans x3) r3
theorem sn_bin {op : Operator} (ho : OpR X (binaryOp op) r) (hr : R2S X.K r f) (ha : Sn X a ma) (hb : Sn X b mb) : Sn X (.BinOp a op b pos) (mOp f ma mb) := pe_imp (pe_op ho ha hb) (top_of hr)
theorem sn_cmp {op : CmpOp} (ho : OpR X (compareOp op) r) (hr : R2S X.K r f) (ha : Sn X a ma) (hb : Sn X b mb) (hm : behindInMarks op b = false) : Sn X (.Compare a [op] [b] pos) (mOp f ma mb) := pe_imp (pe_cmpR ho ha hb hm) (top_of hr)
theorem sn_ix (ho : IxR X r) (hr : R2S X.K r f) (ha : Sn X a ma) (hb : Sn X b mb) (hs : PlainIx b) : Sn X (.Subscript a b pos) (mOp f ma mb) := pe_imp (pe_ix ho ha hb hs) (top_of hr)
/-- a value that is a truth value, as a test -/
def mB (m : ME) : MT := fun ρ => bnd (m ρ) fun d => match d with
  | .bl b => ret b
  | _ => fail
theorem mB_some {m : ME} {ρ : Env} {S S' : Store} {k : Bool} (h : mB m ρ S = some (k, S')) : m ρ S = some (.bl k, S') := by
  obtain ⟨d, S1, h1, h2⟩ := bnd_some h
  split at h2
  · obtain ⟨rfl, rfl⟩ := ret_some h2; exact h1
  · cases h2
theorem tb_of {m : ME} : ∀ σ H Q, tT X.K (mB m) σ H Q → tB (tE X.K m) σ H Q := fun σ H Q ⟨B, al, S, ρ, z, S', R, er, hm, q⟩ =>
  ⟨B, al, S, ρ, .bl z, S', R, er, mB_some hm, fun v al' H' R' x r => by cases r; exact ⟨z, rfl, q z al' H' R' x rfl⟩⟩
theorem ttest_of {m : ME} : ∀ σ H Q, tT X.K (mB m) σ H Q → tTest (tE X.K m) σ H Q := fun σ H Q ⟨B, al, S, ρ, z, S', R, er, hm, q⟩ =>
  ⟨B, al, S, ρ, .bl z, S', R, er, mB_some hm, fun v al' H' R' x r => by cases r; exact ⟨z, rfl, q z al' H' R' x rfl⟩⟩
theorem st_cmp {op : CmpOp} (ho : OpR X (compareOp op) r) (hr : R2S X.K r f) (ha : Sn X a ma) (hb : Sn X b mb) (hm : behindInMarks op b = false) : Stt X (.Compare a [op] [b] pos) (mB (mOp f ma mb)) :=
  pt_imp (pt_cmpR ho ha hb hm) fun σ H Q ⟨B, al, S, ρ, z, S', R, er, hm, q⟩ => top_of hr σ H _ ⟨B, al, S, ρ, .bl z, S', R, er, mB_some hm, fun v al' H' R' x r => by cases r; exact ⟨z, rfl, q z al' H' R' x rfl⟩⟩
theorem st_val {m : ME} (h : Sn X a m) (he : ∀ whole, isTrue a X.env whole = (do let v ← whole; standAt a.pos; holding [v] (truthy v)) := by intro _; rfl) : Stt X a (mB m) := pt_imp (pt_val h he) tb_of
end

/-! ### and, or, not, if -/
def mAnd (a b : MT) : MT := fun ρ => bnd (a ρ) fun x => if x = true then b ρ else ret false
def mOr (a b : MT) : MT := fun ρ => bnd (a ρ) fun x => if x = true then ret true else b ρ
def mNot (a : MT) : MT := fun ρ => bnd (a ρ) fun x => ret (!x)
def mIf (t : MT) (a b : ME) : ME := fun ρ => bnd (t ρ) fun x => if x = true then a ρ else b ρ
def mBl (a : MT) : ME := fun ρ => bnd (a ρ) fun x => ret (.bl x)
/-- a test whatever its whole is -/
def Sw (X : Cx) (e : Expr) (m : MT) : Prop := PW X e (tT X.K m)
section
variable {X : Cx} {a b : Expr} {ma mb : MT} {pos : Pos} {rest : List Expr}
theorem pw_imp {e : Expr} {t t' : TT} (h : PW X e t) (q : ∀ σ H Q, t' σ H Q → t σ H Q) : PW X e t' := ⟨fun wh pins s σ H Q I w => h.run wh pins s σ H Q I (q _ _ _ w)⟩
theorem sw_and1 (h : Stt X a ma) : Sw X (.BoolOp .And [a] pos) ma := pw_and1 h
theorem sw_or1 (h : Stt X a ma) : Sw X (.BoolOp .Or [a] pos) ma := pw_or1 h
theorem sw_and (h : Stt X a ma) (g : Sw X (.BoolOp .And (b :: rest) pos) mb) : Sw X (.BoolOp .And (a :: b :: rest) pos) (mAnd ma mb) := pw_imp (pw_and h g) fun σ H Q ⟨B, al, S, ρ, z, S', R, er, hm, q⟩ => by
  obtain ⟨x, S1, h1, h2⟩ := bnd_some hm
  refine ⟨B, al, S, ρ, x, S1, R, er, h1, fun k al1 H1 R1 x1 e1 => ?_⟩
  subst e1
  cases x with
  | true => exact ⟨B, al1, S1, ρ, z, S', R1, er.mono R x1, h2, fun k al2 H2 R2 x2 e2 => q k al2 H2 R2 (x1.trans x2) e2⟩
  | false => obtain ⟨rfl, rfl⟩ := ret_some h2; exact q false al1 H1 R1 x1 rfl
theorem sw_or (h : Stt X a ma) (g : Sw X (.BoolOp .Or (b :: rest) pos) mb) : Sw X (.BoolOp .Or (a :: b :: rest) pos) (mOr ma mb) := pw_imp (pw_or h g) fun σ H Q ⟨B, al, S, ρ, z, S', R, er, hm, q⟩ => by
  obtain ⟨x, S1, h1, h2⟩ := bnd_some hm
  refine ⟨B, al, S, ρ, x, S1, R, er, h1, fun k al1 H1 R1 x1 e1 => ?_⟩
  subst e1
  cases x with
  | true => obtain ⟨rfl, rfl⟩ := ret_some h2; exact q true al1 H1 R1 x1 rfl
  | false => exact ⟨B, al1, S1, ρ, z, S', R1, er.mono R x1, h2, fun k al2 H2 R2 x2 e2 => q k al2 H2 R2 (x1.trans x2) e2⟩
theorem st_w {e : Expr} {m : MT} (h : Sw X e m) : Stt X e m := h.pt
theorem st_not (h : Stt X a ma) : Stt X (.UnaryOp .Not a pos) (mNot ma) := pt_imp (pt_not h) fun σ H Q ⟨B, al, S, ρ, z, S', R, er, hm, q⟩ => by
  obtain ⟨x, S1, h1, h2⟩ := bnd_some hm
  obtain ⟨rfl, rfl⟩ := ret_some h2
  exact ⟨B, al, S, ρ, x, S1, R, er, h1, fun k al1 H1 R1 x1 e1 => by subst e1; exact q _ al1 H1 R1 x1 rfl⟩
theorem sn_if {c : Expr} {ea eb : Expr} {mc : MT} {na nb : ME} (hc : Stt X c mc) (ha : Sn X ea na) (hb : Sn X eb nb) : Sn X (.IfExp c ea eb pos) (mIf mc na nb) := pe_imp (pe_ifExp hc ha hb) fun σ H Q ⟨B, al, S, ρ, z, S', R, er, hm, q⟩ => by
  obtain ⟨x, S1, h1, h2⟩ := bnd_some hm
  refine ⟨B, al, S, ρ, x, S1, R, er, h1, fun k al1 H1 R1 x1 e1 => ?_⟩
  subst e1
  cases x with
  | true => exact ⟨B, al1, S1, ρ, z, S', R1, er.mono R x1, h2, fun k al2 H2 R2 x2 e2 => q k al2 H2 R2 (x1.trans x2) e2⟩
  | false => exact ⟨B, al1, S1, ρ, z, S', R1, er.mono R x1, h2, fun k al2 H2 R2 x2 e2 => q k al2 H2 R2 (x1.trans x2) e2⟩
/-- as values, truth values all -/
def mAndV (a b : ME) : ME := fun ρ => bnd (mB a ρ) fun x => if x = true then b ρ else ret (.bl false)
def mOrV (a b : ME) : ME := fun ρ => bnd (mB a ρ) fun x => if x = true then ret (.bl true) else b ρ
def mNotV (a : ME) : ME := fun ρ => bnd (mB a ρ) fun x => ret (.bl (!x))
theorem sn_one {op} {m : ME} (h : Sn X a m) : Sn X (.BoolOp op [a] pos) m := pe_one h
theorem sn_and {na nb : ME} (h : Sn X a na) (g : Sn X (.BoolOp .And (b :: rest) pos) nb) : Sn X (.BoolOp .And (a :: b :: rest) pos) (mAndV na nb) := pe_imp (pe_and h g) fun σ H Q ⟨B, al, S, ρ, z, S', R, er, hm, q⟩ => by
  obtain ⟨x, S1, h1, h2⟩ := bnd_some hm
  refine ⟨B, al, S, ρ, .bl x, S1, R, er, mB_some h1, fun v al1 H1 R1 x1 r1 => ?_⟩
  cases r1
  refine ⟨x, rfl, ?_⟩
  cases x with
  | true => exact ⟨B, al1, S1, ρ, z, S', R1, er.mono R x1, h2, fun k al2 H2 R2 x2 e2 => q k al2 H2 R2 (x1.trans x2) e2⟩
  | false => obtain ⟨rfl, rfl⟩ := ret_some h2; exact q _ al1 H1 R1 x1 (.bl _)
theorem sn_or {na nb : ME} (h : Sn X a na) (g : Sn X (.BoolOp .Or (b :: rest) pos) nb) : Sn X (.BoolOp .Or (a :: b :: rest) pos) (mOrV na nb) := pe_imp (pe_or h g) fun σ H Q ⟨B, al, S, ρ, z, S', R, er, hm, q⟩ => by
  obtain ⟨x, S1, h1, h2⟩ := bnd_some hm
  refine ⟨B, al, S, ρ, .bl x, S1, R, er, mB_some h1, fun v al1 H1 R1 x1 r1 => ?_⟩
  cases r1
  refine ⟨x, rfl, ?_⟩
  cases x with
  | true => obtain ⟨rfl, rfl⟩ := ret_some h2; exact q _ al1 H1 R1 x1 (.bl _)
  | false => exact ⟨B, al1, S1, ρ, z, S', R1, er.mono R x1, h2, fun k al2 H2 R2 x2 e2 => q k al2 H2 R2 (x1.trans x2) e2⟩
theorem sn_not {na : ME} (h : Sn X a na) : Sn X (.UnaryOp .Not a pos) (mNotV na) := pe_imp (pe_not h) fun σ H Q ⟨B, al, S, ρ, z, S', R, er, hm, q⟩ => by
  obtain ⟨x, S1, h1, h2⟩ := bnd_some hm
  obtain ⟨rfl, rfl⟩ := ret_some h2
  refine ⟨B, al, S, ρ, .bl x, S1, R, er, mB_some h1, fun v al1 H1 R1 x1 r1 => ?_⟩
  cases r1
  exact ⟨x, rfl, q _ al1 H1 R1 x1 (.bl _)⟩
end
end Z
set_option Elab.async false
set_option linter.all false
set_option maxRecDepth 100000
/-! Reading data: lists behind references, equality; operators over data. -/
namespace Z
open PySem L2

/-! ### no references; references replaced by what they hold -/
mutual
def nr : D → Bool
  | .tup xs => nrs xs
  | .tpx xs => nrs xs
  | .lst xs => nrs xs
  | .ref _ => false
  | .dcf _ => false
  | _ => true
def nrs : List D → Bool
  | [] => true
  | d :: ds => nr d && nrs ds
end
mutual
def rsF (g : Nat → D) : D → D
  | .tup xs => .tup (rsFs g xs)
  | .tpx xs => .tpx (rsFs g xs)
  | .lst xs => .lst (rsFs g xs)
  | .ref n => g n
  | d => d
def rsFs (g : Nat → D) : List D → List D
  | [] => []
  | d :: ds => rsF g d :: rsFs g ds
end
def rsG (S : Store) (h : D → D) (n : Nat) : D := match S[n]? with
  | some (.lst xs) => .lst (xs.map h)
  | _ => .ref n
def rs (S : Store) : Nat → D → D
  | 0 => fun d => d
  | k + 1 => rsF (rsG S (rs S k))
mutual
theorem rsF_nr (g : Nat → D) : ∀ d : D, nr d = true → rsF g d = d
  | .non, _ => rfl
  | .bl _, _ => rfl
  | .int _, _ => rfl
  | .str _, _ => rfl
  | .scr _, _ => rfl
  | .tpi _, _ => rfl
  | .dcf _, h => by simp [nr] at h
  | .tpx xs, h => by unfold rsF; rw [rsFs_nr g xs (by simpa [nr] using h)]
  | .tup xs, h => by unfold rsF; rw [rsFs_nr g xs (by simpa [nr] using h)]
  | .lst xs, h => by unfold rsF; rw [rsFs_nr g xs (by simpa [nr] using h)]
  | .ref _, h => by simp [nr] at h
theorem rsFs_nr (g : Nat → D) : ∀ ds : List D, nrs ds = true → rsFs g ds = ds
  | [], _ => rfl
  | d :: ds, h => by
    simp only [nrs, Bool.and_eq_true] at h
    unfold rsFs
    rw [rsF_nr g d h.1, rsFs_nr g ds h.2]
end
theorem rs_nr (S : Store) (k : Nat) {d : D} (h : nr d = true) : rs S k d = d := by
  cases k with
  | zero => rfl
  | succ k => exact rsF_nr _ d h
theorem nrs_mem {ds : List D} (h : nrs ds = true) : ∀ d ∈ ds, nr d = true := by
  induction ds with
  | nil => intro d hd; cases hd
  | cons c ds ih =>
    simp only [nrs, Bool.and_eq_true] at h
    intro d hd
    rcases List.mem_cons.mp hd with rfl | hd
    · exact h.1
    · exact ih h.2 d hd
theorem nrs_all {ds : List D} (h : ∀ d ∈ ds, nr d = true) : nrs ds = true := by
  induction ds with
  | nil => rfl
  | cons c ds ih => simp [nrs, h c List.mem_cons_self, ih fun d hd => h d (List.mem_cons_of_mem _ hd)]

abbrev B0 : Addr → Prop := fun _ => False
section
variable {K : PySem.W.Frag} {B : Addr → Prop} {al : List Addr} {H : Hp} {S : Store}
theorem rl_map {f : D → D} {C : Addr → Prop} {be : List Addr} : ∀ {ds : List D} {vs : List V}, RL K B al H ds vs → (∀ d v, d ∈ ds → RV K B al H d v → RV K C be H (f d) v) → RL K C be H (ds.map f) vs
  | _, _, .nil, _ => .nil
  | _, _, .cons d v ds vs h r, q => .cons _ _ _ _ (q d v List.mem_cons_self h) (rl_map r fun d v m => q d v (List.mem_cons_of_mem _ m))
mutual
theorem rsF_frz {g : Nat → D} (hg : ∀ (n : Nat) (a : Addr), RV K B al H (.ref n) (.ref a) → nr (g n) = true → RV K B0 [] H (g n) (.ref a)) : ∀ {d : D} {v : V}, RV K B al H d v → nr (rsF g d) = true → RV K B0 [] H (rsF g d) v
  | _, _, .non, _ => .non
  | _, _, .bl b, _ => .bl b
  | _, _, .int i, _ => .int i
  | _, _, .str s, _ => .str s
  | _, _, .tup a ds vs h r, e => .tup a _ vs h (rsFs_frz hg r (by simpa [rsF, nr] using e))
  | _, _, .lst a ds vs h r, e => .lst a _ vs ⟨h.1, by simp, fun z => z⟩ (rsFs_frz hg r (by simpa [rsF, nr] using e))
  | _, _, .scr a ns h, _ => .scr a ns (match h with | .inl ⟨x, y, z⟩ => .inl ⟨x, by simp, fun w => w⟩ | .inr x => .inr x)
  | _, _, .tpi a ns h, _ => .tpi a ns (match h with | ⟨o, ⟨h1, _, _⟩, h4⟩ => ⟨o, ⟨h1, by simp, fun w => w⟩, h4⟩)
  | _, _, .dcf a kvs es h k r, _ => .dcf a kvs es (match h with | ⟨o, ⟨h1, _, _⟩, h4⟩ => ⟨o, ⟨h1, by simp, fun w => w⟩, h4⟩) k (rl_tups (fun _ _ e => e) r)
  | _, _, .tpx a ds vs h r, e => .tpx a _ vs (match h with | ⟨o, ⟨h1, _, _⟩, h4⟩ => ⟨o, ⟨h1, by simp, fun w => w⟩, h4⟩) (rsFs_frz hg r (by simpa [rsF, nr] using e))
  | _, _, .ref n a h, e => hg n a (.ref n a h) (by simpa [rsF] using e)
theorem rsFs_frz {g : Nat → D} (hg : ∀ (n : Nat) (a : Addr), RV K B al H (.ref n) (.ref a) → nr (g n) = true → RV K B0 [] H (g n) (.ref a)) : ∀ {ds : List D} {vs : List V}, RL K B al H ds vs → nrs (rsFs g ds) = true → RL K B0 [] H (rsFs g ds) vs
  | _, _, .nil, _ => .nil
  | _, _, .cons d v ds vs h r, e => .cons _ v _ vs (rsF_frz hg h (by simp [rsFs, nrs] at e; exact e.1)) (rsFs_frz hg r (by simp [rsFs, nrs] at e; exact e.2))
end
/-- what is behind the references, as data that stays while nothing is changed -/
theorem rs_frz (R : Rel K B al S H) : ∀ (k : Nat) {d : D} {v : V}, RV K B al H d v → nr (rs S k d) = true → RV K B0 [] H (rs S k d) v
  | 0, d, v, r, e => by
    have q := rsF_frz (g := fun n => .ref n) (fun n a _ z => by simp [nr] at z) r (by rw [rsF_nr _ d e]; exact e)
    rw [rsF_nr _ d e] at q
    exact q
  | k + 1, d, v, r, e => rsF_frz (fun n a h z => by
    cases ho : S[n]? with
    | none => simp [rsG, ho, nr] at z
    | some o =>
      obtain ⟨ha, oa⟩ := R.look h ho
      cases o with
      | lst xs =>
        obtain ⟨vs, hv, rl⟩ := oa
        simp only [rsG, ho] at z ⊢
        refine .lst a _ vs ⟨hv, by simp, fun w => w⟩ (rl_map rl fun d v m r => rs_frz R k r (nrs_mem (by simpa [nr] using z) _ (List.mem_map_of_mem m)))
      | dct _ => simp [rsG, ho, nr] at z
      | dtt _ => simp [rsG, ho, nr] at z) r e

/-! ### lists and tuples that are read -/
def asL (S : Store) : D → Option (List D)
  | .lst xs => some xs
  | .ref n => match S[n]? with
    | some (.lst xs) => some xs
    | _ => none
  | _ => none
def asSq (S : Store) : D → Option (List D)
  | .tup xs => some xs
  | .scr ns => some (ns.map .int)
  | .tpi ns => some (ns.map .int)
  | .tpx xs => some xs
  | d => asL S d
theorem asL_rep (R : Rel K B al S H) {d : D} {v : V} (r : RV K B al H d v) {xs : List D} (e : asL S d = some xs) : ∃ a vs, v = .ref a ∧ H a = some (.lst vs) ∧ RL K B al H xs vs := by
  cases r with
  | lst a ds vs h r => simp [asL] at e; subst e; exact ⟨a, vs, rfl, h.1, r⟩
  | ref n a h =>
    simp only [asL] at e
    split at e
    · rename_i ys ho
      cases e
      obtain ⟨_, vs, hv, rl⟩ := R.look (.ref n a h) ho
      exact ⟨a, vs, rfl, hv, rl⟩
    · cases e
  | _ => simp [asL] at e
theorem rl_ints : ∀ ns : List Int, RL K B al H (ns.map .int) (ns.map V.int)
  | [] => .nil
  | n :: ns => .cons _ _ _ _ (.int n) (rl_ints ns)
theorem cat_sq {a : Addr} {vs : List V} (h : CAt K B al H a vs) : SqL K H a vs := by
  rcases h with ⟨h, _⟩ | h
  · exact .inl h
  · rcases h with (h | ⟨o, h⟩) | h
    · cases h
    · cases h
    · exact .inr h
theorem xat_sq {a : Addr} {ns : List Int} (h : XAt B al H a ns) : SqT K H a (ns.map V.int) := by
  obtain ⟨o, ⟨h, _⟩, _⟩ := h
  exact .inl (.inr ⟨o, h⟩)
theorem zat_sq {a : Addr} {vs : List V} (h : ZAt B al H a vs) : SqT K H a vs := by
  obtain ⟨o, ⟨h, _⟩, _⟩ := h
  exact .inl (.inr ⟨o, h⟩)
theorem asSq_rep (R : Rel K B al S H) {d : D} {v : V} (r : RV K B al H d v) {xs : List D} (e : asSq S d = some xs) : ∃ a vs, v = .ref a ∧ (SqL K H a vs ∨ SqT K H a vs) ∧ RL K B al H xs vs := by
  cases r with
  | tup a ds vs h r => simp [asSq] at e; subst e; exact ⟨a, vs, rfl, .inr (.of h), r⟩
  | scr a ns h => simp [asSq] at e; subst e; exact ⟨a, _, rfl, .inl (cat_sq h), rl_ints ns⟩
  | tpi a ns h => simp [asSq] at e; subst e; exact ⟨a, _, rfl, .inr (xat_sq h), rl_ints ns⟩
  | tpx a ds vs h r => simp [asSq] at e; subst e; exact ⟨a, vs, rfl, .inr (zat_sq h), r⟩
  | lst a ds vs h r =>
    obtain ⟨b, us, e1, e2, q⟩ := asL_rep R (.lst a ds vs h r) e
    exact ⟨b, us, e1, .inl (.of e2), q⟩
  | ref n a h =>
    obtain ⟨b, us, e1, e2, q⟩ := asL_rep R (.ref n a h) e
    exact ⟨b, us, e1, .inl (.of e2), q⟩
  | _ => simp [asSq, asL] at e
theorem RL.at {xs : List D} {vs : List V} (r : RL K B al H xs vs) {i : Int} {d : D} (h : atI xs i = some d) : ∃ v, atI vs i = some v ∧ RV K B al H d v := by
  unfold atI at h ⊢
  rw [r.len] at h
  cases hx : ixN vs.length i with
  | none => rw [hx] at h; cases h
  | some j => rw [hx] at h; exact r.get h

/-! ### equality, as Python has it -/
mutual
def toP : D → PyData
  | .non => .none
  | .bl b => .bool b
  | .int i => .int i
  | .str x => .str x
  | .tup xs => .tuple (toPs xs)
  | .lst xs => .list (toPs xs)
  | .scr ns => .list (ns.map .int)
  | .tpi ns => .tuple (ns.map .int)
  | .dcf _ => .none
  | .tpx xs => .tuple (toPs xs)
  | .ref _ => .none
def toPs : List D → List PyData
  | [] => []
  | d :: ds => toP d :: toPs ds
end
theorem dp_ints : ∀ ns : List Int, DpAll K H (ns.map V.int) (ns.map .int)
  | [] => .nil
  | n :: ns => .cons (.int n) (dp_ints ns)
mutual
theorem dp_of : ∀ {d : D} {v : V}, RV K B al H d v → nr d = true → Dp K H v (toP d)
  | _, _, .non, _ => .non
  | _, _, .bl b, _ => .bl b
  | _, _, .int i, _ => .int i
  | _, _, .str s, _ => .str s
  | _, _, .tup a ds vs h r, e => .tup (.of h) (dps_of r (by simpa [nr] using e))
  | _, _, .lst a ds vs h r, e => .lst (.of h.1) (dps_of r (by simpa [nr] using e))
  | _, _, .scr a ns h, _ => .lst (cat_sq h) (dp_ints ns)
  | _, _, .tpi a ns h, _ => .tup (xat_sq h) (dp_ints ns)
  | _, _, .dcf a kvs es h k r, e => by simp [nr] at e
  | _, _, .tpx a ds vs h r, e => .tup (zat_sq h) (dps_of r (by simpa [nr] using e))
  | _, _, .ref n a h, e => by simp [nr] at e
theorem dps_of : ∀ {ds : List D} {vs : List V}, RL K B al H ds vs → nrs ds = true → DpAll K H vs (toPs ds)
  | _, _, .nil, _ => .nil
  | _, _, .cons d v ds vs h r, e => .cons (dp_of h (by simp [nrs] at e; exact e.1)) (dps_of r (by simp [nrs] at e; exact e.2))
end
/-- the data that two things are compared as -/
def eqD (S : Store) (d e : D) : Option Bool :=
  let d' := rs S 4 d
  let e' := rs S 4 e
  if nr d' && nr e' && SeqAt.shaped (toP d') && SeqAt.shaped (toP e') then some (PyData.eqv (toP d') (toP e')) else none
def dEq (d e : D) : M D := fun S => (eqD S d e).map fun b => (.bl b, S)
def dNe (d e : D) : M D := fun S => (eqD S d e).map fun b => (.bl (!b), S)
theorem r_eq : R2S K (rEqD K) dEq := fun B al S H d e z v w S' R r1 r2 h Q q => by
  unfold dEq eqD at h
  simp only at h
  split at h
  · rename_i hc
    simp only [Option.map_some, Option.some.injEq, Prod.mk.injEq] at h
    obtain ⟨rfl, rfl⟩ := h
    simp only [Bool.and_eq_true] at hc
    obtain ⟨⟨⟨h1, h2⟩, h3⟩, h4⟩ := hc
    exact ⟨_, _, dp_of (rs_frz R 4 r1 h1) h1, dp_of (rs_frz R 4 r2 h2) h2, h3, h4, q _ al H R .refl (.bl _)⟩
  · cases h
theorem r_ne : R2S K (rNeD K) dNe := fun B al S H d e z v w S' R r1 r2 h Q q => by
  unfold dNe eqD at h
  simp only at h
  split at h
  · rename_i hc
    simp only [Option.map_some, Option.some.injEq, Prod.mk.injEq] at h
    obtain ⟨rfl, rfl⟩ := h
    simp only [Bool.and_eq_true] at hc
    obtain ⟨⟨⟨h1, h2⟩, h3⟩, h4⟩ := hc
    exact ⟨_, _, dp_of (rs_frz R 4 r1 h1) h1, dp_of (rs_frz R 4 r2 h2) h2, h3, h4, q _ al H R .refl (.bl _)⟩
  · cases h
end

/-! ### whole numbers -/
def dI (C : Int → Int → Bool) (g : Int → Int → D) (d e : D) : M D := match d, e with
  | .int i, .int j => if C i j then ret (g i j) else fail
  | _, _ => fail
section
variable {K : PySem.W.Frag}
theorem r_I {C : Int → Int → Prop} {c : Int → Int → Bool} {g : Int → Int → V} {k : Int → Int → D} (hc : ∀ i j, c i j = true → C i j) (hk : ∀ (i j : Int), cV (k i j) = some (g i j)) : R2S K (rI C g) (dI c k) := fun B al S H d e z v w S' R r1 r2 h Q q => by
  unfold dI at h
  split at h
  · rename_i i j
    split at h
    · rename_i h0
      obtain ⟨rfl, rfl⟩ := ret_some h
      cases r1; cases r2
      refine ⟨i, j, rfl, rfl, hc i j h0, q _ al H R .refl ?_⟩
      have := hk i j
      generalize k i j = u at this
      cases u <;> simp [cV] at this <;> rw [← this] <;> constructor
    · cases h
  · cases h
theorem r_I0 {g : Int → Int → V} {k : Int → Int → D} (hk : ∀ (i j : Int), cV (k i j) = some (g i j)) : R2S K (rI0 g) (dI (fun _ _ => true) k) := fun B al S H d e z v w S' R r1 r2 h Q q => by
  obtain ⟨i, j, h1, h2, _, h3⟩ := r_I (C := fun _ _ => True) (K := K) (fun _ _ _ => trivial) hk B al S H d e z v w S' R r1 r2 h Q q
  exact ⟨i, j, h1, h2, h3⟩
theorem R2S.or {r r' : R2} {f f' : D → D → M D} (h : R2S K r f) (h' : R2S K r' f') : R2S K (fun x y H Q => r x y H Q ∨ r' x y H Q) (fun d e S => (f d e S).orElse fun _ => f' d e S) := fun B al S H d e z v w S' R r1 r2 g Q q => by
  cases hf : f d e S with
  | some p =>
    simp only [hf, Option.orElse_some, Option.some.injEq] at g
    exact .inl (h B al S H d e z v w S' R r1 r2 (by rw [hf, g]) Q q)
  | none =>
    simp only [hf, Option.orElse_none] at g
    exact .inr (h' B al S H d e z v w S' R r1 r2 g Q q)
end
end Z
set_option Elab.async false
set_option linter.all false
set_option maxRecDepth 100000
/-! The operators of the text, over data. -/
namespace Z
open PySem L2

/-- the longest list that is made -/
def lim : Nat := 1000000
theorem lim_le {n : Nat} (h : n ≤ lim) : n ≤ sizeLine := Nat.le_trans h (by decide)
theorem lim_lt {n : Nat} (h : n < lim) : n < sizeLine := Nat.lt_of_lt_of_le h (by decide)

section
variable {X : Cx} {K : PySem.W.Frag}
/-! ### a tuple once -/
theorem mul_once (l : Addr) (its : Array Value) (n : Nat) (dd : Option Addr) (sl : Array (Option Value)) (u : Tok) :
    Meets (Builtin.«tuple.__mul__» ⟨[.ref l, .int 1 u], []⟩) (fun _ R s => s.heap.get? l = some { cls := .type "tuple", dict := dd, data := .seq its n, slots := sl } ∧ R (.ok (.ret (Value.ref l))) s) :=
  .of_wp fun prog w A R s h => by
    obtain ⟨hp, g, d, tk, os⟩ := s
    obtain ⟨hl, h⟩ := h
    have f1 := AutoSeq1.idx_int
    wp_walk using wpAny_loadPart' hl
    repeat (first
      | (refine wpAny_ite_false (decide_eq_false (by decide)) ?_; wp_walk using wpAny_loadPart' hl)
      | (refine wpAny_ite_true (decide_eq_true (by simp)) ?_; wp_walk using wpAny_loadPart' hl))
    exact ⟨_, rfl, h⟩
def rOnce (K : PySem.W.Frag) : R2 := fun x y H Q => ∃ l xs, x = .ref l ∧ y = .int 1 ∧ SqT K H l xs ∧ Q (.ref l) H
theorem op_once : OpR X (binaryOp .Mult) (rOnce X.K) := by
  intro pins s σ H x y v u Q I rx ry h
  obtain ⟨l, xs, rfl, rfl, hT, q⟩ := h
  cases rx
  obtain ⟨t, rfl⟩ := ry
  obtain ⟨its, r, ⟨⟨cls, dd, data, sl⟩, ho, hc, n, hd⟩, hs⟩ := I.tuple hT
  simp only at hc hd
  subst hc hd
  refine wpAny_binaryOp_repeat_ref (T := "tuple") (U := "int") (by decide) ⟨_, ho, rfl⟩ (fun s' => typeIs_int s' 1 t) noFill_tuple_mul F.fills_int_mul F.slot_int_rmul repeat_tuple F.slot_int_index.lookup
    (call_meets F.slot_int_rmul (typeIs_int s 1 t) F.entry_int_rmul (F.args_int_rmul_2 _ _) (int_rmul_tuple 1 t l its.toArray n dd sl)
      ⟨ho, rfl, ⟨_, ho, rfl⟩, call_meets F.slot_tuple_mul ⟨_, ho, rfl⟩ F.entry_tuple_mul (F.args_tuple_mul_2 _ _) (mul_once l its.toArray n dd sl t) ⟨ho, ?_⟩⟩)
  exact ⟨.ref l, H, I, rfl, q⟩

/-! ### + -/
def dCatT (d e : D) : M D := match d, e with
  | .tup xs, .tup ys => if xs.length + ys.length ≤ lim then ret (.tup (xs ++ ys)) else fail
  | _, _ => fail
theorem r_catT : R2S K (rCatA K) dCatT := fun B al S H d e z v w S' R r1 r2 h Q q => by
  unfold dCatT at h
  split at h
  · rename_i xs ys
    split at h
    · rename_i hz
      obtain ⟨rfl, rfl⟩ := ret_some h
      cases r1 with
      | tup a _ vs ha ra =>
        cases r2 with
        | tup b _ us hb rb =>
          refine ⟨a, b, vs, us, rfl, rfl, .of ha, .of hb, by rw [← ra.len, ← rb.len]; exact lim_le hz, fun e0 => ?_, fun _ e0 => ?_, fun _ _ p hp => ?_⟩
          · subst e0
            cases ra
            exact q _ al H R .refl (.tup b _ us hb rb)
          · subst e0
            cases rb
            rw [List.append_nil] at q
            exact q _ al H R .refl (.tup a _ vs ha ra)
          · obtain ⟨x, R1⟩ := R.side (o := .tup (vs ++ us)) hp
            exact q _ al _ R1 x (.tup p _ _ upd_same ((ra.append rb).mono R x))
    · cases h
  · cases h
def dCatL (d e : D) : M D := fun S => match asL S d, asL S e with
  | some xs, some ys => if xs.length + ys.length ≤ lim then some (.lst (xs ++ ys), S) else none
  | _, _ => none
theorem lst_side {B : Addr → Prop} {al : List Addr} {S : Store} {H : Hp} {p : Addr} {ds : List D} {vs : List V} (R : Rel K B al S H) (hp : H p = none) (r : RL K B al H ds vs) :
    Rel K B al S (upd H p (.lst vs)) ∧ Ex al H al (upd H p (.lst vs)) ∧ RV K B al (upd H p (.lst vs)) (.lst ds) (.ref p) := by
  obtain ⟨x, R1⟩ := R.side (o := .lst vs) hp
  exact ⟨R1, x, .lst p _ _ ⟨upd_same, R.fresh hp, R.freshB hp⟩ (r.mono R x)⟩
theorem r_catL : R2S K rCat dCatL := fun B al S H d e z v w S' R r1 r2 h Q q => by
  unfold dCatL at h
  split at h
  · rename_i xs ys h1 h2
    split at h
    · rename_i hz
      cases h
      obtain ⟨a, vs, rfl, ha, ra⟩ := asL_rep R r1 h1
      obtain ⟨b, us, rfl, hb, rb⟩ := asL_rep R r2 h2
      refine ⟨a, b, vs, us, rfl, rfl, ha, hb, by rw [← ra.len, ← rb.len]; exact lim_le hz, fun p hp => ?_⟩
      obtain ⟨R1, x, r⟩ := lst_side R hp (ra.append rb)
      exact q _ al _ R1 x r
    · cases h
  · cases h
abbrev dAddI : D → D → M D := dI (fun _ _ => true) fun i j => .int (i + j)
def dAdd (d e : D) : M D := fun S => (dAddI d e S).orElse fun _ => ((dCatT d e S).orElse fun _ => dCatL d e S)
theorem b_add : OpR X (binaryOp .Add) (fun x y H Q => rI0 (fun i j => .int (i + j)) x y H Q ∨ (rCatA X.K x y H Q ∨ rCat x y H Q)) := op_add.or (op_catA.or op_cat)
theorem r_add : R2S K (fun x y H Q => rI0 (fun i j => .int (i + j)) x y H Q ∨ (rCatA K x y H Q ∨ rCat x y H Q)) dAdd := (r_I0 fun _ _ => rfl).or (r_catT.or r_catL)
abbrev dSub : D → D → M D := dI (fun _ _ => true) fun i j => .int (i - j)
theorem r_sub : R2S K (rI0 fun i j => .int (i - j)) dSub := r_I0 fun _ _ => rfl

/-! ### times -/
def dRepT (d e : D) : M D := match d, e with
  | .tup xs, .int k => if k = 1 then ret (.tup xs) else if 2 ≤ k ∧ k ≤ 1000 ∧ xs ≠ [] ∧ xs.length ≤ 1000 then ret (.tup (List.replicate k.toNat xs).flatten) else fail
  | _, _ => fail
theorem RL.rep {B : Addr → Prop} {al : List Addr} {H : Hp} {ds : List D} {vs : List V} (r : RL K B al H ds vs) : ∀ k : Nat, RL K B al H (List.replicate k ds).flatten (List.replicate k vs).flatten
  | 0 => .nil
  | k + 1 => by simp only [List.replicate_succ, List.flatten_cons]; exact r.append (r.rep k)
theorem r_repT : R2S K (fun x y H Q => rOnce K x y H Q ∨ rRepT K x y H Q) dRepT := fun B al S H d e z v w S' R r1 r2 h Q q => by
  unfold dRepT at h
  split at h
  · rename_i xs k
    cases r2
    cases r1 with
    | tup a _ vs ha ra =>
      split at h
      · rename_i hk
        subst hk
        obtain ⟨rfl, rfl⟩ := ret_some h
        exact .inl ⟨a, vs, rfl, rfl, .of ha, q _ al H R .refl (.tup a _ vs ha ra)⟩
      · split at h
        · rename_i hk
          obtain ⟨rfl, rfl⟩ := ret_some h
          have hl := ra.len
          refine .inr ⟨a, k, vs, rfl, rfl, .of ha, fun e0 => hk.2.2.1 ?_, hk.1, hk.2.1, by rw [← hl]; exact hk.2.2.2, fun p hp => ?_⟩
          · subst e0; cases ra; rfl
          · obtain ⟨x, R1⟩ := R.side (o := .tup (List.replicate k.toNat vs).flatten) hp
            exact q _ al _ R1 x (.tup p _ _ upd_same ((ra.rep _).mono R x))
        · cases h
  · cases h
def dRepL (d e : D) : M D := fun S => match asL S d, e with
  | some xs, .int k => if -1000 ≤ k ∧ k ≤ 1000 ∧ xs.length * k.toNat ≤ lim then some (.lst (List.replicate k.toNat xs).flatten, S) else none
  | _, _ => none
theorem r_repL : R2S K rRep dRepL := fun B al S H d e z v w S' R r1 r2 h Q q => by
  unfold dRepL at h
  split at h
  · rename_i xs k h1
    split at h
    · rename_i hk
      cases h
      cases r2
      obtain ⟨a, vs, rfl, ha, ra⟩ := asL_rep R r1 h1
      refine ⟨a, k, vs, rfl, rfl, ha, by omega, by omega, by rw [← ra.len]; exact lim_le hk.2.2, fun p hp => ?_⟩
      obtain ⟨R1, x, r⟩ := lst_side R hp (ra.rep k.toNat)
      exact q _ al _ R1 x r
    · cases h
  · cases h
abbrev dMulI : D → D → M D := dI (fun i j => decide (-(2 ^ 64) < i ∧ i < 2 ^ 64) || decide (-(2 ^ 64) < j ∧ j < 2 ^ 64)) fun i j => .int (i * j)
def dMul (d e : D) : M D := fun S => (dMulI d e S).orElse fun _ => ((dRepT d e S).orElse fun _ => dRepL d e S)
theorem b_mul : OpR X (binaryOp .Mult) (fun x y H Q => rI CMul (fun i j => .int (i * j)) x y H Q ∨ ((rOnce X.K x y H Q ∨ rRepT X.K x y H Q) ∨ rRep x y H Q)) := op_mul.or ((op_once.or op_repT).or op_rep)
theorem r_mul : R2S K (fun x y H Q => rI CMul (fun i j => .int (i * j)) x y H Q ∨ ((rOnce K x y H Q ∨ rRepT K x y H Q) ∨ rRep x y H Q)) dMul :=
  (r_I (fun i j h => by simpa [CMul] using h) fun _ _ => rfl).or (r_repT.or r_repL)
abbrev dMod : D → D → M D := dI (fun _ j => decide (0 < j)) fun i j => .int (i % j)
theorem r_mod : R2S K (rI (fun _ j => 0 < j) fun i j => .int (i % j)) dMod := r_I (fun _ _ h => of_decide_eq_true h) fun _ _ => rfl
abbrev dDiv : D → D → M D := dI (fun _ j => decide (0 < j ∧ j < 1073741824)) fun i j => .int (i / j)
theorem r_div : R2S K (rI CDiv fun i j => .int (i / j)) dDiv := r_I (fun i j h => by simpa [CDiv] using h) fun _ _ => rfl
abbrev dPow : D → D → M D := dI (fun i j => decide (0 ≤ j ∧ j ≤ 1000000 ∧ i.natAbs < 2 ^ 64)) fun i j => .int (i ^ j.toNat)
theorem r_pow : R2S K (rI CPow fun i j => .int (i ^ j.toNat)) dPow := r_I (fun i j h => by simpa [CPow] using h) fun _ _ => rfl

/-! ### order, is -/
abbrev dLt : D → D → M D := dI (fun _ _ => true) fun i j => .bl (decide (i < j))
abbrev dLe : D → D → M D := dI (fun _ _ => true) fun i j => .bl (decide (i ≤ j))
abbrev dGt : D → D → M D := dI (fun _ _ => true) fun i j => .bl (decide (j < i))
abbrev dGe : D → D → M D := dI (fun _ _ => true) fun i j => .bl (decide (j ≤ i))
theorem r_lt : R2S K (rI0 fun i j => .bl (decide (i < j))) dLt := r_I0 fun _ _ => rfl
theorem r_le : R2S K (rI0 fun i j => .bl (decide (i ≤ j))) dLe := r_I0 fun _ _ => rfl
theorem r_gt : R2S K (rI0 fun i j => .bl (decide (j < i))) dGt := r_I0 fun _ _ => rfl
theorem r_ge : R2S K (rI0 fun i j => .bl (decide (j ≤ i))) dGe := r_I0 fun _ _ => rfl
def isN : D → Bool
  | .non => true
  | _ => false
theorem isN_eq {B : Addr → Prop} {al : List Addr} {H : Hp} {d : D} {v : V} (r : RV K B al H d v) : decide (v = .non) = isN d := by
  cases r <;> simp [isN]
def dIs (d e : D) : M D := if isN e then ret (.bl (isN d)) else fail
def dIsNot (d e : D) : M D := if isN e then ret (.bl (!isN d)) else fail
theorem r_is : R2S K (fun x y H Q => y = .non ∧ Q (.bl (decide (x = .non))) H) dIs := fun B al S H d e z v w S' R r1 r2 h Q q => by
  unfold dIs at h
  split at h
  · rename_i he
    obtain ⟨rfl, rfl⟩ := ret_some h
    refine ⟨of_decide_eq_true (by rw [isN_eq r2]; exact he), ?_⟩
    rw [isN_eq r1]
    exact q _ al H R .refl (.bl _)
  · cases h
theorem r_isNot : R2S K (fun x y H Q => y = .non ∧ Q (.bl (!decide (x = .non))) H) dIsNot := fun B al S H d e z v w S' R r1 r2 h Q q => by
  unfold dIsNot at h
  split at h
  · rename_i he
    obtain ⟨rfl, rfl⟩ := ret_some h
    refine ⟨of_decide_eq_true (by rw [isN_eq r2]; exact he), ?_⟩
    rw [isN_eq r1]
    exact q _ al H R .refl (.bl _)
  · cases h

/-! ### in -/
def vOf : D → V
  | .bl b => .bl b
  | .int i => .int i
  | .str x => .str x
  | _ => .non
def flatD : D → Bool
  | .non => true
  | .bl _ => true
  | .int _ => true
  | .str _ => true
  | _ => false
theorem flat_v {B : Addr → Prop} {al : List Addr} {H : Hp} {d : D} {v : V} (r : RV K B al H d v) (f : flatD d = true) : v = vOf d ∧ flatV v = true := by
  cases r <;> simp [flatD] at f <;> exact ⟨rfl, rfl⟩
theorem flat_vs {B : Addr → Prop} {al : List Addr} {H : Hp} : ∀ {ds : List D} {vs : List V}, RL K B al H ds vs → ds.all flatD = true → vs = ds.map vOf ∧ vs.all flatV = true
  | _, _, .nil, _ => ⟨rfl, rfl⟩
  | _, _, .cons d v ds vs h r, f => by
    simp only [List.all_cons, Bool.and_eq_true] at f
    obtain ⟨e1, f1⟩ := flat_v h f.1
    obtain ⟨e2, f2⟩ := flat_vs r f.2
    exact ⟨by rw [e1, e2]; rfl, by simp [f1, f2]⟩
def dInS (neg : Bool) (d e : D) : M D := fun S => match asSq S e with
  | some xs => if flatD d && xs.all flatD then some (.bl (if neg then !inV (vOf d) (xs.map vOf) else inV (vOf d) (xs.map vOf)), S) else none
  | none => none
theorem r_inS {neg : Bool} : R2S K (rIn K neg) (dInS neg) := fun B al S H d e z v w S' R r1 r2 h Q q => by
  unfold dInS at h
  split at h
  · rename_i xs h1
    split at h
    · rename_i hf
      cases h
      simp only [Bool.and_eq_true] at hf
      obtain ⟨a, vs, rfl, ha, ra⟩ := asSq_rep R r2 h1
      obtain ⟨e1, f1⟩ := flat_v r1 hf.1
      obtain ⟨e2, f2⟩ := flat_vs ra hf.2
      refine ⟨a, vs, rfl, ha, f1, f2, ?_⟩
      rw [e1, e2]
      exact q _ al H R .refl (.bl _)
    · cases h
  · cases h

/-! ### an item -/
def dIx (d e : D) : M D := fun S => match asSq S d, e with
  | some xs, .int i => (atI xs i).map fun x => (x, S)
  | _, _ => none
theorem r_ix : R2S K (fun x y H Q => rIxL K x y H Q ∨ rIxT K x y H Q) dIx := fun B al S H d e z v w S' R r1 r2 h Q q => by
  unfold dIx at h
  split at h
  · rename_i xs i h1
    cases hx : atI xs i with
    | none => rw [hx] at h; cases h
    | some x =>
      rw [hx] at h
      cases h
      obtain ⟨a, vs, rfl, ha, ra⟩ := asSq_rep R r1 h1
      obtain ⟨u, e1, ru⟩ := ra.at hx
      cases r2
      rcases ha with ha | ha
      · exact .inl ⟨a, vs, i, u, rfl, rfl, ha, e1, q _ al H R .refl ru⟩
      · exact .inr ⟨a, vs, i, u, rfl, rfl, ha, e1, q _ al H R .refl ru⟩
  · cases h
theorem b_ix : IxR X (fun x y H Q => rIxL X.K x y H Q ∨ rIxT X.K x y H Q) := ix_list.or ix_tup
end
end Z
set_option Elab.async false
set_option linter.all false
set_option maxRecDepth 100000
/-! Slices, chains, calls of built-ins. -/
namespace Z
open PySem L2

/-! ### a new list from values -/
theorem fresh_al {al al1 : List Addr} {H H1 : Hp} {p : Addr} (x : Ex al H al1 H1) (R : p ∉ al1) (hp : H1 p = none) : H p = none := by
  cases hq : H p with
  | none => rfl
  | some o =>
    exfalso
    by_cases hpa : p ∈ al
    · obtain ⟨be, rfl⟩ := x.pre
      exact R (List.mem_append_left _ hpa)
    · rw [(x.fr p o hq hpa).1] at hp; cases hp
section
variable {K : PySem.W.Frag} {B : Addr → Prop} {al al1 : List Addr} {S S1 : Store} {H H1 : Hp} {p : Addr}
/-- what SnF is asked: a new list laid -/
theorem new_F (R : Rel K B al1 S1 H1) (x : Ex al H al1 H1) (hp : H1 p = none) {ds : List D} {vs : List V} (r : RL K B al1 H1 ds vs) :
    Rel K (Bp B p) al1 S1 (upd H1 p (.lst vs)) ∧ Ex al H al1 (upd H1 p (.lst vs)) ∧ H p = none ∧ upd H1 p (.lst vs) p = some (.lst vs) ∧ RL K (Bp B p) al1 (upd H1 p (.lst vs)) ds vs := by
  obtain ⟨x2, R2⟩ := R.ban (o := .lst vs) hp
  exact ⟨R2, x.trans x2, fresh_al x (R.fresh hp) hp, upd_same, (r.ban hp).monoN R.nt x2⟩
end

/-! ### slices -/
structure So (X : Cx) (e : Option Expr) (m : Env → M (Option Int)) : Prop where
  run : PO X e (tO X.K m)
def mNoPart : Env → M (Option Int) := fun _ => ret none
def mPart (m : ME) : Env → M (Option Int) := fun ρ => bnd (m ρ) fun d => match d with
  | .int i => ret (some i)
  | _ => fail
def cutD (xs : List D) (lo hi : Option Int) : List D := (xs.drop (HT.sIx xs.length 0 lo)).take (HT.sIx xs.length xs.length hi - HT.sIx xs.length 0 lo)
def mSlT (m : ME) (lo hi : Env → M (Option Int)) : ME := fun ρ => bnd (m ρ) fun d => bnd (lo ρ) fun l => bnd (hi ρ) fun h => match d with
  | .tup xs => ret (.tup (cutD xs l h))
  | _ => fail
def mSlL (m : ME) (lo hi : Env → M (Option Int)) : MA := fun ρ => bnd (m ρ) fun d => bnd (lo ρ) fun l => bnd (hi ρ) fun h => fun S => match asL S d with
  | some xs => some (cutD xs l h, S)
  | none => none
section
variable {X : Cx}
theorem po_imp {e : Option Expr} {t t' : TO} (h : PO X e t) (q : ∀ σ H Q, t' σ H Q → t σ H Q) : PO X e t' := ⟨fun pins s σ H Q I w => h.run pins s σ H Q I (q _ _ _ w)⟩
theorem so_none : So X none mNoPart := ⟨po_imp po_none fun σ H Q ⟨B, al, S, ρ, d', S', R, er, hm, q⟩ => by
  obtain ⟨rfl, rfl⟩ := ret_some hm
  exact q none al H R .refl rfl⟩
theorem so_some {e : Expr} {m : ME} (h : Sn X e m) : So X (some e) (mPart m) := ⟨po_imp (po_some h) fun σ H Q ⟨B, al, S, ρ, d', S', R, er, hm, q⟩ => by
  obtain ⟨d, S1, h1, h2⟩ := bnd_some hm
  split at h2
  · rename_i i
    obtain ⟨rfl, rfl⟩ := ret_some h2
    exact ⟨B, al, S, ρ, _, S1, R, er, h1, fun v al1 H1 R1 x1 r1 => by cases r1; exact ⟨i, rfl, q _ al1 H1 R1 x1 rfl⟩⟩
  · cases h2⟩
theorem RL.cut {K : PySem.W.Frag} {B : Addr → Prop} {al : List Addr} {H : Hp} {ds : List D} {vs : List V} (r : RL K B al H ds vs) (lo hi : Option Int) : RL K B al H (cutD ds lo hi) (cutV vs lo hi) := by
  unfold cutD cutV
  rw [r.len]
  exact (r.drop _).take _
theorem sn_slT {e : Expr} {lo hi : Option Expr} {m : ME} {ml mh : Env → M (Option Int)} {p2 pos : Pos} (he : Sn X e m) (hl : So X lo ml) (hh : So X hi mh) : Sn X (.Subscript e (.Slice lo hi none p2) pos) (mSlT m ml mh) :=
  pe_imp (pe_slice sl_tupA he hl.run hh.run) fun σ H Q ⟨B, al, S, ρ, d', S', R, er, hm, q⟩ => by
    obtain ⟨d, S1, h1, h2⟩ := bnd_some hm
    obtain ⟨l, S2, h3, h4⟩ := bnd_some h2
    obtain ⟨u, S3, h5, h6⟩ := bnd_some h4
    split at h6
    · rename_i xs
      obtain ⟨rfl, rfl⟩ := ret_some h6
      refine ⟨B, al, S, ρ, _, S1, R, er, h1, fun v al1 H1 R1 x1 r1 => ⟨B, al1, S1, ρ, l, S2, R1, er.mono R x1, h3, fun l' al2 H2 R2 x2 e2 => ?_⟩⟩
      subst e2
      refine ⟨B, al2, S2, ρ, u, S3, R2, (er.mono R x1).mono R1 x2, h5, fun u' al3 H3 R3 x3 e3 => ?_⟩
      subst e3
      have r3 := (r1.mono R1 x2).mono R2 x3
      cases r3 with
      | tup a _ vs ha ra =>
        refine ⟨a, vs, rfl, .of ha, fun hw => ?_, fun _ p hp => ?_⟩
        · have e0 : cutD xs l u = xs := by
            unfold cutD
            rw [ra.len, hw.1, hw.2, List.drop_zero, Nat.sub_zero]
            exact List.take_of_length_le (by rw [ra.len]; exact Nat.le_refl _)
          rw [e0] at q
          exact q _ al3 H3 R3 ((x1.trans x2).trans x3) (.tup a _ vs ha ra)
        · obtain ⟨x4, R4⟩ := R3.side (o := .tup (cutV vs l u)) hp
          exact q _ al3 _ R4 (((x1.trans x2).trans x3).trans x4) (.tup p _ _ upd_same ((ra.cut l u).mono R3 x4))
    · cases h6
theorem sn_slL {e : Expr} {lo hi : Option Expr} {m : ME} {ml mh : Env → M (Option Int)} {p2 pos : Pos} (he : Sn X e m) (hl : So X lo ml) (hh : So X hi mh) : SnF X (.Subscript e (.Slice lo hi none p2) pos) (mSlL m ml mh) :=
  pe_imp (pe_slice sl_list he hl.run hh.run) fun σ H Q ⟨B, al, S, ρ, d', S', R, er, hm, q⟩ => by
    obtain ⟨d, S1, h1, h2⟩ := bnd_some hm
    obtain ⟨l, S2, h3, h4⟩ := bnd_some h2
    obtain ⟨u, S3, h5, h6⟩ := bnd_some h4
    split at h6
    · rename_i xs h7
      cases h6
      refine ⟨B, al, S, ρ, _, S1, R, er, h1, fun v al1 H1 R1 x1 r1 => ⟨B, al1, S1, ρ, l, S2, R1, er.mono R x1, h3, fun l' al2 H2 R2 x2 e2 => ?_⟩⟩
      subst e2
      refine ⟨B, al2, S2, ρ, u, _, R2, (er.mono R x1).mono R1 x2, h5, fun u' al3 H3 R3 x3 e3 => ?_⟩
      subst e3
      obtain ⟨a, vs, rfl, ha, ra⟩ := asL_rep R3 ((r1.mono R1 x2).mono R2 x3) h7
      refine ⟨a, vs, rfl, .of ha, fun p hp => ?_⟩
      obtain ⟨g1, g2, g3, g4, g5⟩ := new_F R3 ((x1.trans x2).trans x3) hp (ra.cut l u)
      exact q p _ al3 _ g1 g2 g3 g4 g5
    · cases h6
/-- xs[::-1] -/
def mRev (m : ME) : MA := fun ρ => bnd (m ρ) fun d => fun S => match asL S d with
  | some xs => some (xs.reverse, S)
  | none => none
theorem sn_rev {e : Expr} {m : ME} {p1 p2 p3 pos : Pos} {k} (he : Sn X e m) : SnF X (.Subscript e (.Slice none none (some (.UnaryOp .USub (.Constant (.int 1) k p1) p2)) p3) pos) (mRev m) :=
  pe_imp (pe_revL he) fun σ H Q ⟨B, al, S, ρ, d', S', R, er, hm, q⟩ => by
    obtain ⟨d, S1, h1, h2⟩ := bnd_some hm
    split at h2
    · rename_i xs h3
      cases h2
      refine ⟨B, al, S, ρ, _, _, R, er, h1, fun v al1 H1 R1 x1 r1 => ?_⟩
      obtain ⟨a, vs, rfl, ha, ra⟩ := asL_rep R1 r1 h3
      refine ⟨a, vs, rfl, .of ha, fun p hp => ?_⟩
      obtain ⟨g1, g2, g3, g4, g5⟩ := new_F R1 x1 hp ra.rev
      exact q p _ al1 _ g1 g2 g3 g4 g5
    · cases h2

/-! ### a < b < c -/
def mChain (f g : D → D → M D) (a b c : ME) : ME := fun ρ => bnd (a ρ) fun x => bnd (b ρ) fun y => bnd (f x y) fun z => match z with
  | .bl true => bnd (c ρ) fun w => g y w
  | .bl false => ret (.bl false)
  | _ => fail
theorem chain_of {r r' : R2} {f g : D → D → M D} {ma mb mc : ME} (hr : R2S X.K r f) (hr' : R2S X.K r' g) : ∀ σ H Q, tE X.K (mChain f g ma mb mc) σ H Q → tChain r r' (tE X.K ma) (tE X.K mb) (tE X.K mc) σ H Q := fun σ H Q ⟨B, al, S, ρ, z, S', R, er, hm, q⟩ => by
  obtain ⟨d, S1, h1, h2⟩ := bnd_some hm
  obtain ⟨e, S2, h3, h4⟩ := bnd_some h2
  obtain ⟨k, S3, h5, h6⟩ := bnd_some h4
  refine ⟨B, al, S, ρ, d, S1, R, er, h1, fun v al1 H1 R1 x1 r1 => ⟨B, al1, S1, ρ, e, S2, R1, er.mono R x1, h3, fun w al2 H2 R2 x2 r2 => ?_⟩⟩
  refine hr B al2 S2 H2 d e k v w S3 R2 (r1.mono R1 x2) r2 h5 _ fun u al3 H3 R3 x3 r3 => ?_
  split at h6
  · cases r3
    refine ⟨true, rfl, ?_⟩
    obtain ⟨c, S4, h7, h8⟩ := bnd_some h6
    refine ⟨B, al3, S3, ρ, c, S4, R3, ((er.mono R x1).mono R1 x2).mono R2 x3, h7, fun w4 al4 H4 R4 x4 r4 => ?_⟩
    refine hr' B al4 S4 H4 e c z w w4 S' R4 ((r2.mono R2 x3).mono R3 x4) r4 h8 _ fun u5 al5 H5 R5 x5 r5 => ?_
    exact q _ al5 H5 R5 ((((x1.trans x2).trans x3).trans x4).trans x5) r5
  · cases r3
    refine ⟨false, rfl, ?_⟩
    obtain ⟨rfl, rfl⟩ := ret_some h6
    exact q _ al3 H3 R3 ((x1.trans x2).trans x3) (.bl _)
  · cases h6
section
variable {op op' : CmpOp} {r r' : R2} {f g : D → D → M D} {a b c : Expr} {ma mb mc : ME} {pos : Pos}
theorem sn_chain (ho : OpR X (compareOp op) r) (ho' : OpR X (compareOp op') r') (hr : R2S X.K r f) (hr' : R2S X.K r' g) (ha : Sn X a ma) (hb : Sn X b mb) (hc : Sn X c mc)
    (hm : lastMarks [op, op'] [b, c] = false) : Sn X (.Compare a [op, op'] [b, c] pos) (mChain f g ma mb mc) := pe_imp (pe_chain ho ho' ha hb hc hm) (chain_of hr hr')
theorem st_chain (ho : OpR X (compareOp op) r) (ho' : OpR X (compareOp op') r') (hr : R2S X.K r f) (hr' : R2S X.K r' g) (ha : Sn X a ma) (hb : Sn X b mb) (hc : Sn X c mc)
    (hm : lastMarks [op, op'] [b, c] = false) : Stt X (.Compare a [op, op'] [b, c] pos) (mB (mChain f g ma mb mc)) :=
  pt_imp (pt_chain ho ho' ha hb hc hm) fun σ H Q ⟨B, al, S, ρ, z, S', R, er, hm, q⟩ => chain_of hr hr' σ H _ ⟨B, al, S, ρ, .bl z, S', R, er, mB_some hm, fun v al' H' R' x r => by cases r; exact ⟨z, rfl, q z al' H' R' x rfl⟩⟩
end

/-! ### truth of a value of any kind -/
def truD (S : Store) : D → Option Bool
  | .bl b => some b
  | .non => some false
  | .int i => some (i != 0)
  | .tup xs => some (!xs.isEmpty)
  | .tpx xs => some (!xs.isEmpty)
  | d => (asL S d).map fun xs => !xs.isEmpty
def mTru (m : ME) : MT := fun ρ => bnd (m ρ) fun d => fun S => (truD S d).map fun b => (b, S)
theorem RL.emp {K : PySem.W.Frag} {B : Addr → Prop} {al : List Addr} {H : Hp} {ds : List D} {vs : List V} (r : RL K B al H ds vs) : ds.isEmpty = vs.isEmpty := by cases r <;> rfl

theorem st_tru {a : Expr} {m : ME} (h : Sn X a m) (he : ∀ whole, isTrue a X.env whole = (do let v ← whole; standAt a.pos; holding [v] (truthy v)) := by intro _; rfl) : Stt X a (mTru m) :=
  pt_imp (pt_truth h he) fun σ H Q ⟨B, al, S, ρ, z, S', R, er, hm, q⟩ => by
    obtain ⟨d, S1, h1, h2⟩ := bnd_some hm
    refine ⟨B, al, S, ρ, d, S1, R, er, h1, fun v al1 H1 R1 x1 r1 => ⟨z, ?_, ?_⟩⟩
    · cases ht : truD S1 d with
      | none => rw [ht] at h2; cases h2
      | some b =>
        rw [ht] at h2
        simp only [Option.map_some, Option.some.injEq, Prod.mk.injEq] at h2
        obtain ⟨rfl, rfl⟩ := h2
        cases r1 with
        | non => cases ht; rfl
        | bl b => cases ht; rfl
        | int i => cases ht; rfl
        | str x => simp [truD, asL] at ht
        | tup a ds vs h r => cases ht; exact .inr (.inl ⟨vs, .of h, by rw [r.emp]⟩)
        | lst a ds vs h r => cases ht; exact .inl ⟨vs, .of h.1, by show (!ds.isEmpty) = _; rw [r.emp]⟩
        | scr a ns h => simp [truD, asL] at ht
        | tpi a ns h => simp [truD, asL] at ht
        | dcf a kvs es h k r => simp [truD, asL] at ht
        | tpx a ds vs h r => cases ht; exact .inr (.inl ⟨vs, zat_sq h, by rw [r.emp]⟩)
        | ref n a h =>
          simp only [truD] at ht
          cases hx : asL S1 (.ref n) with
          | none => rw [hx] at ht; cases ht
          | some xs =>
            rw [hx] at ht
            cases ht
            obtain ⟨b, vs, e, hb, rb⟩ := asL_rep R1 (.ref n a h) hx
            cases e
            exact .inl ⟨vs, .of hb, by show (!xs.isEmpty) = _; rw [rb.emp]⟩
    · cases ht : truD S1 d with
      | none => rw [ht] at h2; cases h2
      | some b =>
        rw [ht] at h2
        simp only [Option.map_some, Option.some.injEq, Prod.mk.injEq] at h2
        obtain ⟨rfl, rfl⟩ := h2
        exact q _ al1 H1 R1 x1 rfl

/-! ### calls of built-ins -/
def CRS (K : PySem.W.Frag) (r : List V → Hp → VK → Prop) (f : List D → M D) : Prop := ∀ (B : Addr → Prop) (al : List Addr) (S : Store) (H : Hp) (ds : List D) (z : D) (vs : List V) (S' : Store), Rel K B al S H → RL K B al H ds vs → f ds S = some (z, S') →
  ∀ Q : VK, (∀ u al' H', Rel K B al' S' H' → Ex al H al' H' → RV K B al' H' z u → Q u H') → r vs H Q
/-- .. that make a new list -/
def CRF (K : PySem.W.Frag) (r : List V → Hp → VK → Prop) (f : List D → M (List D)) : Prop := ∀ (B : Addr → Prop) (al : List Addr) (S : Store) (H : Hp) (ds : List D) (zs : List D) (vs : List V) (S' : Store), Rel K B al S H → RL K B al H ds vs → f ds S = some (zs, S') →
  ∀ Q : VK, (∀ p us al' H', Rel K (Bp B p) al' S' H' → Ex al H al' H' → H p = none → H' p = some (.lst us) → RL K (Bp B p) al' H' zs us → Q (.ref p) H') → r vs H Q
def mCB (f : List D → M D) (m : MA) : ME := fun ρ => bnd (m ρ) f
def mCF (f : List D → M (List D)) (m : MA) : MA := fun ρ => bnd (m ρ) f
theorem tcb_of {r : List V → Hp → VK → Prop} {f : List D → M D} {m : MA} (hr : CRS X.K r f) : ∀ σ H Q, tE X.K (mCB f m) σ H Q → tCB r (tA X.K m) σ H Q := fun σ H Q ⟨B, al, S, ρ, z, S', R, er, hm, q⟩ => by
  obtain ⟨ds, S1, h1, h2⟩ := bnd_some hm
  exact ⟨B, al, S, ρ, ds, S1, R, er, h1, fun vs al1 H1 R1 x1 r1 => hr B al1 S1 H1 ds z vs S' R1 r1 h2 Q fun u al2 H2 R2 x2 r2 => q u al2 H2 R2 (x1.trans x2) r2⟩
theorem tcf_of {r : List V → Hp → VK → Prop} {f : List D → M (List D)} {m : MA} (hr : CRF X.K r f) : ∀ σ H Q, tF X.K (mCF f m) σ H Q → tCB r (tA X.K m) σ H Q := fun σ H Q ⟨B, al, S, ρ, zs, S', R, er, hm, q⟩ => by
  obtain ⟨ds, S1, h1, h2⟩ := bnd_some hm
  refine ⟨B, al, S, ρ, ds, S1, R, er, h1, fun vs al1 H1 R1 x1 r1 => hr B al1 S1 H1 ds zs vs S' R1 r1 h2 Q fun p us al2 H2 R2 x2 h0 hp r2 => q p us al2 H2 R2 (x1.trans x2) ?_ hp r2⟩
  exact fresh_al x1 (R1.fresh h0) h0
section
variable {x : Str} {p pos : Pos} {e : Expr} {es : List Expr} {id : String} {r : List V → Hp → VK → Prop} {m : MA}
theorem sn_cB {f : List D → M D} (hc : CallR X (.builtin id) r) (hr : CRS X.K r f) (hg : Gl X x) (hm : X.mg x = none) (hv : bootBuiltins x = some (.builtin id)) (ha : Sa X (e :: es) m)
    (h : PE X (.Call (.Name x p) (e :: es) [] pos) (tCB r (tA X.K m))) : Sn X (.Call (.Name x p) (e :: es) [] pos) (mCB f m) := pe_imp h (tcb_of hr)
end
theorem sn_cb {E : Expr} {r : List V → Hp → VK → Prop} {m : MA} {f : List D → M D} (hr : CRS X.K r f) (h : PE X E (tCB r (tA X.K m))) : Sn X E (mCB f m) := pe_imp h (tcb_of hr)
theorem sn_cf {E : Expr} {r : List V → Hp → VK → Prop} {m : MA} {f : List D → M (List D)} (hr : CRF X.K r f) (h : PE X E (tCB r (tA X.K m))) : SnF X E (mCF f m) := pe_imp h (tcf_of hr)
end

section
variable {K : PySem.W.Frag}
theorem CRS.or {r r' : List V → Hp → VK → Prop} {f f' : List D → M D} (h : CRS K r f) (h' : CRS K r' f') : CRS K (fun xs H Q => r xs H Q ∨ r' xs H Q) (fun ds S => (f ds S).orElse fun _ => f' ds S) := fun B al S H ds z vs S' R r1 g Q q => by
  cases hf : f ds S with
  | some p =>
    simp only [hf, Option.orElse_some, Option.some.injEq] at g
    exact .inl (h B al S H ds z vs S' R r1 (by rw [hf, g]) Q q)
  | none =>
    simp only [hf, Option.orElse_none] at g
    exact .inr (h' B al S H ds z vs S' R r1 g Q q)
def cLen (ds : List D) : M D := fun S => match ds with
  | [d] => (asSq S d).map fun xs => (.int xs.length, S)
  | _ => none
theorem rl_one {B : Addr → Prop} {al : List Addr} {H : Hp} {d : D} {vs : List V} (r : RL K B al H [d] vs) : ∃ v, vs = [v] ∧ RV K B al H d v := by
  cases r with | cons _ v _ _ h r => cases r; exact ⟨v, rfl, h⟩
theorem rl_two {B : Addr → Prop} {al : List Addr} {H : Hp} {d e : D} {vs : List V} (r : RL K B al H [d, e] vs) : ∃ v w, vs = [v, w] ∧ RV K B al H d v ∧ RV K B al H e w := by
  cases r with | cons _ v _ _ h r => obtain ⟨w, rfl, g⟩ := rl_one r; exact ⟨v, w, rfl, h, g⟩
theorem c_len : CRS K (fun xs H Q => ∃ p ys, xs = [.ref p] ∧ (SqL K H p ys ∨ SqT K H p ys) ∧ Q (.int ys.length) H) cLen := fun B al S H ds z vs S' R r1 h Q q => by
  unfold cLen at h
  split at h
  · rename_i d
    cases hx : asSq S d with
    | none => rw [hx] at h; cases h
    | some xs =>
      rw [hx] at h
      cases h
      obtain ⟨v, rfl, rv⟩ := rl_one r1
      obtain ⟨a, us, rfl, ha, ra⟩ := asSq_rep R rv hx
      refine ⟨a, us, rfl, ha, ?_⟩
      rw [← ra.len]
      exact q _ al H R .refl (.int _)
  · cases h
def c1I (f : Int → Int) (ds : List D) : M D := match ds with
  | [.int i] => ret (.int (f i))
  | _ => fail
theorem c_1I {f : Int → Int} : CRS K (fun xs H Q => ∃ i, xs = [.int i] ∧ Q (.int (f i)) H) (c1I f) := fun B al S H ds z vs S' R r1 h Q q => by
  unfold c1I at h
  split at h
  · obtain ⟨rfl, rfl⟩ := ret_some h
    obtain ⟨v, rfl, rv⟩ := rl_one r1
    cases rv
    exact ⟨_, rfl, q _ al H R .refl (.int _)⟩
  · cases h
abbrev cAbs : List D → M D := c1I fun i => if i < 0 then -i else i
def c2I (f : Int → Int → Int) (ds : List D) : M D := match ds with
  | [.int i, .int j] => ret (.int (f i j))
  | _ => fail
theorem c_2I {f : Int → Int → Int} : CRS K (fun xs H Q => ∃ i j, xs = [.int i, .int j] ∧ Q (.int (f i j)) H) (c2I f) := fun B al S H ds z vs S' R r1 h Q q => by
  unfold c2I at h
  split at h
  · obtain ⟨rfl, rfl⟩ := ret_some h
    obtain ⟨v, w, rfl, rv, rw'⟩ := rl_two r1
    cases rv; cases rw'
    exact ⟨_, _, rfl, q _ al H R .refl (.int _)⟩
  · cases h
abbrev cMin2 : List D → M D := c2I fun i j => if j < i then j else i
abbrev cMax2 : List D → M D := c2I fun i j => if j > i then j else i
def cInt (ds : List D) : M D := match ds with
  | [.int i] => ret (.int i)
  | [.bl b] => ret (.int (if b then 1 else 0))
  | _ => fail
theorem c_int : CRS K (fun xs H Q => (∃ i, xs = [.int i] ∧ Q (.int i) H) ∨ ∃ k, xs = [.bl k] ∧ Q (.int (if k then 1 else 0)) H) cInt := fun B al S H ds z vs S' R r1 h Q q => by
  unfold cInt at h
  split at h
  · obtain ⟨rfl, rfl⟩ := ret_some h
    obtain ⟨v, rfl, rv⟩ := rl_one r1
    cases rv
    exact .inl ⟨_, rfl, q _ al H R .refl (.int _)⟩
  · obtain ⟨rfl, rfl⟩ := ret_some h
    obtain ⟨v, rfl, rv⟩ := rl_one r1
    cases rv
    exact .inr ⟨_, rfl, q _ al H R .refl (.int _)⟩
  · cases h
/-- list(x) -/
def cList (ds : List D) : M (List D) := fun S => match ds with
  | [d] => (asSq S d).map fun xs => (xs, S)
  | _ => none
theorem c_list : CRF K (fun xs H Q => ∃ p ys, xs = [.ref p] ∧ (SqL K H p ys ∨ SqT K H p ys) ∧ ∀ l, H l = none → Q (.ref l) (upd H l (.lst ys))) cList := fun B al S H ds z vs S' R r1 h Q q => by
  unfold cList at h
  split at h
  · rename_i d
    cases hx : asSq S d with
    | none => rw [hx] at h; cases h
    | some xs =>
      rw [hx] at h
      cases h
      obtain ⟨v, rfl, rv⟩ := rl_one r1
      obtain ⟨a, us, rfl, ha, ra⟩ := asSq_rep R rv hx
      refine ⟨a, us, rfl, ha, fun l hl => ?_⟩
      obtain ⟨g1, g2, g3, g4, g5⟩ := new_F R .refl hl ra
      exact q l _ al _ g1 g2 g3 g4 g5
  · cases h
/-- lists alone, the script among them -/
def asLC (S : Store) : D → Option (List D)
  | .scr ns => some (ns.map .int)
  | d => asL S d
theorem asLC_rep {B : Addr → Prop} {al : List Addr} {S : Store} {H : Hp} (R : Rel K B al S H) {d : D} {v : V} (r : RV K B al H d v) {xs : List D} (e : asLC S d = some xs) : ∃ a vs, v = .ref a ∧ SqL K H a vs ∧ RL K B al H xs vs := by
  cases r with
  | scr a ns h => simp [asLC] at e; subst e; exact ⟨a, _, rfl, cat_sq h, rl_ints ns⟩
  | lst a ds vs h r => obtain ⟨b, us, e1, e2, q⟩ := asL_rep R (.lst a ds vs h r) e; exact ⟨b, us, e1, .of e2, q⟩
  | ref n a h => obtain ⟨b, us, e1, e2, q⟩ := asL_rep R (.ref n a h) e; exact ⟨b, us, e1, .of e2, q⟩
  | _ => simp [asLC, asL] at e
/-- tuple(x) -/
def cTuple (ds : List D) : M D := fun S => match ds with
  | [.tup xs] => some (.tup xs, S)
  | [d] => (asLC S d).map fun xs => (.tup xs, S)
  | _ => none
theorem c_tuple : CRS K (fun xs H Q => ∃ p ys, xs = [.ref p] ∧ ((SqL K H p ys ∧ ∀ l, H l = none → Q (.ref l) (upd H l (.tup ys))) ∨ (SqT K H p ys ∧ Q (.ref p) H))) cTuple := fun B al S H ds z vs S' R r1 h Q q => by
  unfold cTuple at h
  split at h
  · cases h
    obtain ⟨v, rfl, rv⟩ := rl_one r1
    cases rv with
    | tup a _ us ha ra => exact ⟨a, us, rfl, .inr ⟨.of ha, q _ al H R .refl (.tup a _ us ha ra)⟩⟩
  · rename_i d hd
    cases hx : asLC S d with
    | none => rw [hx] at h; cases h
    | some xs =>
      rw [hx] at h
      cases h
      obtain ⟨v, rfl, rv⟩ := rl_one r1
      obtain ⟨a, us, rfl, ha, ra⟩ := asLC_rep R rv hx
      refine ⟨a, us, rfl, .inl ⟨ha, fun p hp => ?_⟩⟩
      obtain ⟨x, R1⟩ := R.side (o := .tup us) hp
      exact q _ al _ R1 x (.tup p _ _ upd_same (ra.mono R x))
  · cases h
/-- a list's whole numbers, truth values -/
def intsOf : List D → Option (List Int)
  | [] => some []
  | .int i :: ds => (intsOf ds).map (i :: ·)
  | _ => none
def blsOf : List D → Option (List Bool)
  | [] => some []
  | .bl b :: ds => (blsOf ds).map (b :: ·)
  | _ => none
theorem ints_rep {B : Addr → Prop} {al : List Addr} {H : Hp} : ∀ {ds : List D} {vs : List V} {ns : List Int}, RL K B al H ds vs → intsOf ds = some ns → vs = ns.map V.int ∧ ds = ns.map D.int
  | _, _, _, .nil, e => by cases e; exact ⟨rfl, rfl⟩
  | _, _, _, .cons d v ds vs h r, e => by
    cases h with
    | int i =>
      simp only [intsOf] at e
      cases hx : intsOf ds with
      | none => rw [hx] at e; cases e
      | some ms =>
        rw [hx] at e
        cases e
        obtain ⟨e1, e2⟩ := ints_rep r hx
        exact ⟨by rw [e1]; rfl, by rw [e2]; rfl⟩
    | _ => simp [intsOf] at e
theorem bls_rep {B : Addr → Prop} {al : List Addr} {H : Hp} : ∀ {ds : List D} {vs : List V} {ns : List Bool}, RL K B al H ds vs → blsOf ds = some ns → vs = ns.map V.bl ∧ ds = ns.map D.bl
  | _, _, _, .nil, e => by cases e; exact ⟨rfl, rfl⟩
  | _, _, _, .cons d v ds vs h r, e => by
    cases h with
    | bl i =>
      simp only [blsOf] at e
      cases hx : blsOf ds with
      | none => rw [hx] at e; cases e
      | some ms =>
        rw [hx] at e
        cases e
        obtain ⟨e1, e2⟩ := bls_rep r hx
        exact ⟨by rw [e1]; rfl, by rw [e2]; rfl⟩
    | _ => simp [blsOf] at e
theorem intsOf_map : ∀ ns : List Int, intsOf (ns.map D.int) = some ns
  | [] => rfl
  | n :: ns => by simp [intsOf, intsOf_map ns]
theorem blsOf_map : ∀ ns : List Bool, blsOf (ns.map D.bl) = some ns
  | [] => rfl
  | n :: ns => by simp [blsOf, blsOf_map ns]
/-- of a list's whole numbers -/
def cInts (f : List Int → Option Int) (ds : List D) : M D := fun S => match ds with
  | [d] => (asLC S d).bind fun xs => (intsOf xs).bind fun ns => (f ns).map fun i => (.int i, S)
  | _ => none
def cBls (f : List Bool → Bool) (ds : List D) : M D := fun S => match ds with
  | [d] => (asLC S d).bind fun xs => (blsOf xs).map fun ns => (.bl (f ns), S)
  | _ => none
theorem c_ints {B : Addr → Prop} {al : List Addr} {S S' : Store} {H : Hp} {f : List Int → Option Int} {ds : List D} {z : D} {vs : List V} (R : Rel K B al S H) (r1 : RL K B al H ds vs) (h : cInts f ds S = some (z, S')) :
    ∃ a ns i, vs = [.ref a] ∧ SqL K H a (ns.map V.int) ∧ f ns = some i ∧ z = .int i ∧ S' = S := by
  unfold cInts at h
  split at h
  · rename_i d
    cases hx : asLC S d with
    | none => rw [hx] at h; cases h
    | some xs =>
      rw [hx] at h
      simp only [Option.bind_some] at h
      cases hy : intsOf xs with
      | none => rw [hy] at h; cases h
      | some ns =>
        rw [hy] at h
        simp only [Option.bind_some] at h
        cases hz : f ns with
        | none => rw [hz] at h; cases h
        | some i =>
          rw [hz] at h
          cases h
          obtain ⟨v, rfl, rv⟩ := rl_one r1
          obtain ⟨a, us, rfl, ha, ra⟩ := asLC_rep R rv hx
          obtain ⟨e, _⟩ := ints_rep ra hy
          exact ⟨a, ns, i, rfl, by rw [← e]; exact ha, hz, rfl, rfl⟩
  · cases h
abbrev cSum : List D → M D := cInts fun ns => some ns.sum
theorem c_sum : CRS K (rSum K) cSum := fun B al S H ds z vs S' R r1 h Q q => by
  obtain ⟨a, ns, i, rfl, ha, e, rfl, rfl⟩ := c_ints R r1 h
  cases e
  exact ⟨a, ns, rfl, ha, q _ al H R .refl (.int _)⟩
theorem max_uniq {ns : List Int} {m k : Int} (h : m ∈ ns) (h1 : ∀ y, y ∈ ns → y ≤ m) (g : k ∈ ns) (g1 : ∀ y, y ∈ ns → y ≤ k) : m = k := Int.le_antisymm (g1 m h) (h1 k g)
theorem min_uniq {ns : List Int} {m k : Int} (h : m ∈ ns) (h1 : ∀ y, y ∈ ns → m ≤ y) (g : k ∈ ns) (g1 : ∀ y, y ∈ ns → k ≤ y) : m = k := Int.le_antisymm (h1 k g) (g1 m h)
def maxI : List Int → Option Int
  | [] => none
  | n :: ns => some (ns.foldl max n)
def minI : List Int → Option Int
  | [] => none
  | n :: ns => some (ns.foldl min n)
theorem fold_max : ∀ (ns : List Int) (a : Int), (ns.foldl max a = a ∨ ns.foldl max a ∈ ns) ∧ a ≤ ns.foldl max a ∧ ∀ y ∈ ns, y ≤ ns.foldl max a
  | [], a => ⟨.inl rfl, Int.le_refl _, fun _ h => nomatch h⟩
  | n :: ns, a => by
    obtain ⟨h1, h2, h3⟩ := fold_max ns (max a n)
    simp only [List.foldl_cons]
    refine ⟨?_, by omega, fun y hy => ?_⟩
    · rcases h1 with h1 | h1
      · rcases Int.le_total a n with h | h
        · right; rw [h1, Int.max_eq_right h]; exact List.mem_cons_self
        · left; rw [h1, Int.max_eq_left h]
      · right; exact List.mem_cons_of_mem _ h1
    · rcases List.mem_cons.mp hy with rfl | hy
      · omega
      · exact h3 y hy
theorem fold_min : ∀ (ns : List Int) (a : Int), (ns.foldl min a = a ∨ ns.foldl min a ∈ ns) ∧ ns.foldl min a ≤ a ∧ ∀ y ∈ ns, ns.foldl min a ≤ y
  | [], a => ⟨.inl rfl, Int.le_refl _, fun _ h => nomatch h⟩
  | n :: ns, a => by
    obtain ⟨h1, h2, h3⟩ := fold_min ns (min a n)
    simp only [List.foldl_cons]
    refine ⟨?_, by omega, fun y hy => ?_⟩
    · rcases h1 with h1 | h1
      · rcases Int.le_total a n with h | h
        · left; rw [h1, Int.min_eq_left h]
        · right; rw [h1, Int.min_eq_right h]; exact List.mem_cons_self
      · right; exact List.mem_cons_of_mem _ h1
    · rcases List.mem_cons.mp hy with rfl | hy
      · omega
      · exact h3 y hy
theorem maxI_spec {ns : List Int} {m : Int} (h : maxI ns = some m) : m ∈ ns ∧ (∀ y, y ∈ ns → y ≤ m) ∧ 0 < ns.length := by
  cases ns with
  | nil => cases h
  | cons n ns =>
    cases h
    obtain ⟨h1, h2, h3⟩ := fold_max ns n
    refine ⟨?_, fun y hy => ?_, by simp⟩
    · rcases h1 with h1 | h1
      · rw [h1]; exact List.mem_cons_self
      · exact List.mem_cons_of_mem _ h1
    · rcases List.mem_cons.mp hy with rfl | hy
      · exact h2
      · exact h3 y hy
theorem minI_spec {ns : List Int} {m : Int} (h : minI ns = some m) : m ∈ ns ∧ (∀ y, y ∈ ns → m ≤ y) ∧ 0 < ns.length := by
  cases ns with
  | nil => cases h
  | cons n ns =>
    cases h
    obtain ⟨h1, h2, h3⟩ := fold_min ns n
    refine ⟨?_, fun y hy => ?_, by simp⟩
    · rcases h1 with h1 | h1
      · rw [h1]; exact List.mem_cons_self
      · exact List.mem_cons_of_mem _ h1
    · rcases List.mem_cons.mp hy with rfl | hy
      · exact h2
      · exact h3 y hy
abbrev cMax : List D → M D := cInts maxI
abbrev cMin : List D → M D := cInts minI
theorem c_max : CRS K (rMax K) cMax := fun B al S H ds z vs S' R r1 h Q q => by
  obtain ⟨a, ns, i, rfl, ha, e, rfl, rfl⟩ := c_ints R r1 h
  obtain ⟨h1, h2, h3⟩ := maxI_spec e
  refine ⟨a, ns, rfl, ha, h3, fun m g1 g2 => ?_⟩
  rw [max_uniq g1 g2 h1 h2]
  exact q _ al H R .refl (.int _)
theorem c_min : CRS K (rMin K) cMin := fun B al S H ds z vs S' R r1 h Q q => by
  obtain ⟨a, ns, i, rfl, ha, e, rfl, rfl⟩ := c_ints R r1 h
  obtain ⟨h1, h2, h3⟩ := minI_spec e
  refine ⟨a, ns, rfl, ha, h3, fun m g1 g2 => ?_⟩
  rw [min_uniq g1 g2 h1 h2]
  exact q _ al H R .refl (.int _)
theorem c_bls {B : Addr → Prop} {al : List Addr} {S S' : Store} {H : Hp} {f : List Bool → Bool} {ds : List D} {z : D} {vs : List V} (R : Rel K B al S H) (r1 : RL K B al H ds vs) (h : cBls f ds S = some (z, S')) :
    ∃ a ns, vs = [.ref a] ∧ SqL K H a (ns.map V.bl) ∧ z = .bl (f ns) ∧ S' = S := by
  unfold cBls at h
  split at h
  · rename_i d
    cases hx : asLC S d with
    | none => rw [hx] at h; cases h
    | some xs =>
      rw [hx] at h
      simp only [Option.bind_some] at h
      cases hy : blsOf xs with
      | none => rw [hy] at h; cases h
      | some ns =>
        rw [hy] at h
        cases h
        obtain ⟨v, rfl, rv⟩ := rl_one r1
        obtain ⟨a, us, rfl, ha, ra⟩ := asLC_rep R rv hx
        obtain ⟨e, _⟩ := bls_rep ra hy
        exact ⟨a, ns, rfl, by rw [← e]; exact ha, rfl, rfl⟩
  · cases h
abbrev cAll : List D → M D := cBls fun bs => bs.all id
abbrev cAny : List D → M D := cBls fun bs => bs.any id
theorem c_all : CRS K (rAll K) cAll := fun B al S H ds z vs S' R r1 h Q q => by
  obtain ⟨a, ns, rfl, ha, rfl, rfl⟩ := c_bls R r1 h
  exact ⟨a, ns, rfl, ha, q _ al H R .refl (.bl _)⟩
theorem c_any : CRS K (rAny K) cAny := fun B al S H ds z vs S' R r1 h Q q => by
  obtain ⟨a, ns, rfl, ha, rfl, rfl⟩ := c_bls R r1 h
  exact ⟨a, ns, rfl, ha, q _ al H R .refl (.bl _)⟩
/-- sorted(ints) -/
def srtI (ns : List Int) : List Int := ns.mergeSort fun a b => decide (a ≤ b)
theorem srtI_perm (ns : List Int) : (srtI ns).Perm ns := List.mergeSort_perm ns _
theorem srtI_sorted (ns : List Int) : (srtI ns).Pairwise (· ≤ ·) := by
  have h := List.pairwise_mergeSort (le := fun a b : Int => decide (a ≤ b)) (fun a b c h1 h2 => by simp at *; omega) (fun a b => by simp; omega) ns
  exact h.imp fun h => by simpa using h
theorem srt_uniq : ∀ {as bs : List Int}, as.Perm bs → as.Pairwise (· ≤ ·) → bs.Pairwise (· ≤ ·) → as = bs := fun p h1 h2 => p.eq_of_pairwise (fun a b _ _ h h' => Int.le_antisymm h h') h1 h2
def cSortI (ds : List D) : M (List D) := fun S => match ds with
  | [d] => (asLC S d).bind fun xs => (intsOf xs).map fun ns => ((srtI ns).map .int, S)
  | _ => none
theorem c_sortI : CRF K (rSortedI K) cSortI := fun B al S H ds z vs S' R r1 h Q q => by
  unfold cSortI at h
  split at h
  · rename_i d
    cases hx : asLC S d with
    | none => rw [hx] at h; cases h
    | some xs =>
      rw [hx] at h
      simp only [Option.bind_some] at h
      cases hy : intsOf xs with
      | none => rw [hy] at h; cases h
      | some ns =>
        rw [hy] at h
        cases h
        obtain ⟨v, rfl, rv⟩ := rl_one r1
        obtain ⟨a, us, rfl, ha, ra⟩ := asLC_rep R rv hx
        obtain ⟨e, _⟩ := ints_rep ra hy
        refine ⟨a, ns, rfl, by rw [← e]; exact ha, fun ns' p hp hs h0 => ?_⟩
        have e2 : ns' = srtI ns := srt_uniq (hp.trans (srtI_perm ns).symm) hs (srtI_sorted ns)
        subst e2
        obtain ⟨g1, g2, g3, g4, g5⟩ := new_F R .refl h0 (rl_ints (K := K) (B := B) (al := al) (H := H) (srtI ns))
        exact q p _ al _ g1 g2 g3 g4 g5
  · cases h
end
end Z
set_option Elab.async false
set_option linter.all false
set_option maxRecDepth 100000
/-! Statements and loops. -/
namespace Z
open PySem L2

inductive Out where
  | nx (ρ : Env)
  | rt (d : D)
  | bk (ρ : Env)
  | ct (ρ : Env)
  | ex (c : Str)
abbrev MS := Env → Store → Option (Out × Store)
def Post (K : PySem.W.Frag) (W : Str → Hp → Prop) (B : Addr → Prop) (al : List Addr) (H : Hp) (D : Ends) (S' : Store) : Out → Prop
  | .nx ρ' => ∀ (σ' : St) (al' : List Addr) (H' : Hp), Rel K B al' S' H' → Ex al H al' H' → ER K B al' H' ρ' σ' → D.nx σ' H'
  | .rt d => ∀ (v : V) (al' : List Addr) (H' : Hp), Rel K B al' S' H' → Ex al H al' H' → RV K B al' H' d v → D.rt v H'
  | .bk ρ' => ∀ (σ' : St) (al' : List Addr) (H' : Hp), Rel K B al' S' H' → Ex al H al' H' → ER K B al' H' ρ' σ' → D.bk σ' H'
  | .ct ρ' => ∀ (σ' : St) (al' : List Addr) (H' : Hp), Rel K B al' S' H' → Ex al H al' H' → ER K B al' H' ρ' σ' → D.ct σ' H'
  | .ex c => ∀ (al' : List Addr) (H' : Hp), Rel K B al' S' H' → Ex al H al' H' → W c H'
theorem Post.step {K : PySem.W.Frag} {W : Str → Hp → Prop} {B : Addr → Prop} {al al1 : List Addr} {H H1 : Hp} {D : Ends} {S' : Store} {o : Out} (x : Ex al H al1 H1) (p : Post K W B al H D S' o) : Post K W B al1 H1 D S' o := by
  cases o with
  | nx ρ => exact fun σ' al' H' R y => p σ' al' H' R (x.trans y)
  | rt d => exact fun σ' al' H' R y => p σ' al' H' R (x.trans y)
  | bk ρ => exact fun σ' al' H' R y => p σ' al' H' R (x.trans y)
  | ct ρ => exact fun σ' al' H' R y => p σ' al' H' R (x.trans y)
  | ex c => exact fun al' H' R y => p al' H' R (x.trans y)
def tS (K : PySem.W.Frag) (W : Str → Hp → Prop) (m : MS) : TS := fun D σ H =>
  ∃ (B : Addr → Prop) (al : List Addr) (S : Store) (ρ : Env) (o : Out) (S' : Store), Rel K B al S H ∧ ER K B al H ρ σ ∧ m ρ S = some (o, S') ∧ Post K W B al H D S' o
def Ss (X : Cx) (W : Str → Hp → Prop) (st : Stmt) (m : MS) : Prop := PS X st (tS X.K W m)
def Sb (X : Cx) (W : Str → Hp → Prop) (st : List Stmt) (m : MS) : Prop := PSs X st (tS X.K W m)
theorem ps_imp {X : Cx} {st : Stmt} {t t' : TS} (h : PS X st t) (q : ∀ D σ H, t' D σ H → t D σ H) : PS X st t' := ⟨fun pins s σ H D I w => h.run pins s σ H D I (q _ _ _ w)⟩
theorem pss_imp {X : Cx} {st : List Stmt} {t t' : TS} (h : PSs X st t) (q : ∀ D σ H, t' D σ H → t D σ H) : PSs X st t' := ⟨fun pins s σ H D I w => h.run pins s σ H D I (q _ _ _ w)⟩

/-! ### blocks -/
def mNext : MS := fun ρ S => some (.nx ρ, S)
def mSeq (a b : MS) : MS := fun ρ S => match a ρ S with
  | some (.nx ρ', S') => b ρ' S'
  | r => r
section
variable {X : Cx} {W : Str → Hp → Prop} {st : Stmt} {rest : List Stmt} {a b : MS}
theorem sb_nil : Sb X W [] mNext := pss_imp pss_nil fun D σ H ⟨B, al, S, ρ, o, S', R, er, hm, p⟩ => by cases hm; exact p σ al H R .refl er
theorem sb_one (h : Ss X W st a) : Sb X W [st] a := pss_one h
theorem sb_cons (h : Ss X W st a) (g : Sb X W rest b) : Sb X W (st :: rest) (mSeq a b) := pss_imp (pss_cons h g) fun D σ H ⟨B, al, S, ρ, o, S', R, er, hm, p⟩ => by
  unfold mSeq at hm
  split at hm
  · rename_i ρ1 S1 h1
    exact ⟨B, al, S, ρ, .nx ρ1, _, R, er, h1, fun σ1 al1 H1 R1 x1 er1 => ⟨B, al1, S1, ρ1, o, S', R1, er1, hm, p.step x1⟩⟩
  · rename_i h1
    refine ⟨B, al, S, ρ, o, S', R, er, hm, ?_⟩
    cases o with
    | nx ρ' => exact (h1 _ _ hm).elim
    | rt d => exact p
    | bk ρ' => exact p
    | ct ρ' => exact p
    | ex c => exact p

/-! ### small statements -/
def mBrk : MS := fun ρ S => some (.bk ρ, S)
def mCnt : MS := fun ρ S => some (.ct ρ, S)
theorem ss_pass {pos : Pos} : Ss X W (.Pass pos) mNext := ps_imp ps_pass fun D σ H ⟨B, al, S, ρ, o, S', R, er, hm, p⟩ => by cases hm; exact p σ al H R .refl er
theorem ss_break {pos : Pos} : Ss X W (.Break pos) mBrk := ps_imp ps_break fun D σ H ⟨B, al, S, ρ, o, S', R, er, hm, p⟩ => by cases hm; exact p σ al H R .refl er
theorem ss_continue {pos : Pos} : Ss X W (.Continue pos) mCnt := ps_imp ps_continue fun D σ H ⟨B, al, S, ρ, o, S', R, er, hm, p⟩ => by cases hm; exact p σ al H R .refl er
theorem ss_doc {x : Str} {j pos pos'} : Ss X W (.Expr (.Constant (.str x) j pos) pos') mNext := ps_imp ps_doc fun D σ H ⟨B, al, S, ρ, o, S', R, er, hm, p⟩ => by cases hm; exact p σ al H R .refl er
def mDrop (m : ME) : MS := fun ρ S => match m ρ S with
  | some (_, S') => some (.nx ρ, S')
  | none => none
def mRet (m : ME) : MS := fun ρ S => match m ρ S with
  | some (d, S') => some (.rt d, S')
  | none => none
def mRetN : MS := fun _ S => some (.rt .non, S)
theorem ss_expr {e : Expr} {m : ME} {pos : Pos} (h : Sn X e m) (hs : swapsWith e none pos.line X.env = pure false := by rfl) : Ss X W (.Expr e pos) (mDrop m) := ps_imp (ps_expr h hs) fun D σ H ⟨B, al, S, ρ, o, S', R, er, hm, p⟩ => by
  unfold mDrop at hm
  split at hm
  · rename_i d S1 h1
    cases hm
    exact ⟨B, al, S, ρ, d, _, R, er, h1, fun v al1 H1 R1 x1 _ => p σ al1 H1 R1 x1 (er.mono R x1)⟩
  · cases hm
theorem ss_ret {e : Expr} {m : ME} {pos : Pos} (h : Sn X e m) : Ss X W (.Return (some e) pos) (mRet m) := ps_imp (ps_ret h) fun D σ H ⟨B, al, S, ρ, o, S', R, er, hm, p⟩ => by
  unfold mRet at hm
  split at hm
  · rename_i d S1 h1
    cases hm
    exact ⟨B, al, S, ρ, d, _, R, er, h1, fun v al1 H1 R1 x1 r => p v al1 H1 R1 x1 r⟩
  · cases hm
theorem ss_retN {pos : Pos} : Ss X W (.Return none pos) mRetN := ps_imp ps_retN fun D σ H ⟨B, al, S, ρ, o, S', R, er, hm, p⟩ => by cases hm; exact p .non al H R .refl .non
def mIfS (t : MT) (a b : MS) : MS := fun ρ S => match t ρ S with
  | some (true, S') => a ρ S'
  | some (false, S') => b ρ S'
  | none => none
theorem ss_if {c : Expr} {s1 s2 : List Stmt} {t : MT} {pos : Pos} (hc : Stt X c t) (ha : Sb X W s1 a) (hb : Sb X W s2 b) : Ss X W (.If c s1 s2 pos) (mIfS t a b) := ps_imp (ps_if hc ha hb) fun D σ H ⟨B, al, S, ρ, o, S', R, er, hm, p⟩ => by
  unfold mIfS at hm
  split at hm
  · rename_i S1 h1
    exact ⟨B, al, S, ρ, true, _, R, er, h1, fun k al1 H1 R1 x1 e => by subst e; exact ⟨B, al1, S1, ρ, o, S', R1, er.mono R x1, hm, p.step x1⟩⟩
  · rename_i S1 h1
    exact ⟨B, al, S, ρ, false, _, R, er, h1, fun k al1 H1 R1 x1 e => by subst e; exact ⟨B, al1, S1, ρ, o, S', R1, er.mono R x1, hm, p.step x1⟩⟩
  · cases hm

/-! ### stores -/
def mSet (i : Nat) (m : ME) : MS := fun ρ S => match m ρ S with
  | some (d, S') => some (.nx (ρ.set i (some d)), S')
  | none => none
theorem set_of {i : Nat} {m : ME} {te : TE} (q : ∀ σ H Q, tE X.K m σ H Q → te σ H Q) : ∀ D σ H, tS X.K W (mSet i m) D σ H → tAsg te (gName i) D σ H := fun D σ H ⟨B, al, S, ρ, o, S', R, er, hm, p⟩ => by
  unfold mSet at hm
  split at hm
  · rename_i d S1 h1
    cases hm
    exact q σ H _ ⟨B, al, S, ρ, d, _, R, er, h1, fun v al1 H1 R1 x1 r => p _ al1 H1 R1 x1 ((er.mono R x1).set r i)⟩
  · cases hm
theorem ss_set {e : Expr} {m : ME} {i : Nat} {x : Str} {pos pos' : Pos} (hN : X.N.Nodup) (hi : X.N[i]? = some x) (hx : Loc X.env.scope x) (h : Sn X e m) (hs : swapsWith e (some (.Name x pos')) pos.line X.env = pure false := by rfl)
    (hf : X.fn x = true ∨ X.env.scope.names.lookup x = some .local := by first | exact .inl rfl | exact .inr rfl | assumption) : Ss X W (.Assign [.Name x pos'] e pos) (mSet i m) := ps_imp (ps_set hN hi hx h hs hf) (set_of fun _ _ _ z => z)
/-- where a for or a comprehension puts its items -/
inductive Tg where
  | nm (i : Nat)
  | tp (is : List Nat)
def Tg.slots : Tg → List Nat
  | .nm i => [i]
  | .tp is => is
theorem wipe_set {i : Nat} {x : Option V} : ∀ {vs : List Nat} {σ : St}, i ∈ vs → wipe (σ.set i x) vs = wipe σ vs
  | v :: vs, σ, h => by
    unfold wipe
    by_cases e : i ∈ vs
    · rw [wipe_set e]
    · have : i = v := by
        rcases List.mem_cons.mp h with h | h
        · exact h
        · exact (e h).elim
      subst this
      have comm : ∀ (vs : List Nat) (σ : St) (x : Option V), i ∉ vs → wipe (σ.set i x) vs = (wipe σ vs).set i x := by
        intro vs
        induction vs with
        | nil => intro σ x _; rfl
        | cons w vs ih =>
          intro σ x hn
          unfold wipe
          rw [ih σ x (fun z => hn (List.mem_cons_of_mem _ z))]
          rw [List.set_comm]
          intro z
          exact hn (by rw [z]; exact List.mem_cons_self)
      rw [comm vs σ x e]
      simp
theorem wipe_wipe : ∀ {vs : List Nat} {σ : St}, wipe (wipe σ vs) vs = wipe σ vs := by
  have aux : ∀ (us vs : List Nat) (σ : St), (∀ u ∈ us, u ∈ vs) → wipe (wipe σ us) vs = wipe σ vs := by
    intro us
    induction us with
    | nil => intro vs σ _; rfl
    | cons u us ih =>
      intro vs σ h
      show wipe ((wipe σ us).set u none) vs = _
      rw [wipe_set (h u List.mem_cons_self)]
      exact ih vs σ fun w hw => h w (List.mem_cons_of_mem _ hw)
  intro vs σ
  exact aux vs vs σ fun _ h => h
def setAll : List Nat → List D → Env → Option Env
  | [], [], ρ => some ρ
  | i :: is, d :: ds, ρ => setAll is ds (ρ.set i (some d))
  | _, _, _ => none
def Tg.put : Tg → D → Env → Option Env
  | .nm i, d, ρ => some (ρ.set i (some d))
  | .tp is, .tup ds, ρ => setAll is ds ρ
  | .tp is, .tpx ds, ρ => setAll is ds ρ
  | _, _, _ => none
def tTg (K : PySem.W.Frag) (g : Tg) : TG := fun v σ H Q => ∃ (B : Addr → Prop) (al : List Addr) (S : Store) (ρ ρ' : Env) (d : D), Rel K B al S H ∧ ER K B al H ρ σ ∧ RV K B al H d v ∧ g.put d ρ = some ρ' ∧
  ∀ σ', ER K B al H ρ' σ' → (∀ vs : List Nat, (∀ i ∈ g.slots, i ∈ vs) → wipe σ' vs = wipe σ vs) → Q σ' H
def tTgs (K : PySem.W.Frag) (is : List Nat) : TGs := fun vs σ H Q => ∃ (B : Addr → Prop) (al : List Addr) (S : Store) (ρ ρ' : Env) (ds : List D), Rel K B al S H ∧ ER K B al H ρ σ ∧ RL K B al H ds vs ∧ setAll is ds ρ = some ρ' ∧
  ∀ σ', ER K B al H ρ' σ' → (∀ vs : List Nat, (∀ i ∈ is, i ∈ vs) → wipe σ' vs = wipe σ vs) → Q σ' H
def Sg (X : Cx) (e : Expr) (g : Tg) : Prop := PG X e (tTg X.K g)
def Sgs (X : Cx) (es : List Expr) (is : List Nat) : Prop := PGs X es (tTgs X.K is)
theorem pg_imp {e : Expr} {t t' : TG} (h : PG X e t) (q : ∀ v σ H Q, t' v σ H Q → t v σ H Q) : PG X e t' := ⟨fun pins s σ H v u Q I r w => h.run pins s σ H v u Q I r (q _ _ _ _ w)⟩
theorem pgs_imp {e : List Expr} {t t' : TGs} (h : PGs X e t) (q : ∀ v σ H Q, t' v σ H Q → t v σ H Q) : PGs X e t' := ⟨fun pins s σ H v u Q I r w => h.run pins s σ H v u Q I r (q _ _ _ _ w)⟩
theorem sg_name {i : Nat} {e : Expr} (h : PG X e (gName i)) : Sg X e (.nm i) := pg_imp h fun v σ H Q ⟨B, al, S, ρ, ρ', d, R, er, r, e, q⟩ => by
  cases e
  exact q _ (er.set r i) fun vs h => wipe_set (h i (by simp [Tg.slots]))
theorem sgs_nil : Sgs X [] [] := pgs_imp pgs_nil fun v σ H Q ⟨B, al, S, ρ, ρ', d, R, er, r, e, q⟩ => by
  cases r with
  | nil => cases e; exact ⟨rfl, q _ er fun _ _ => rfl⟩
  | cons => cases e
theorem sgs_cons {e : Expr} {es : List Expr} {i : Nat} {is : List Nat} (h1 : PG X e (gName i)) (h2 : Sgs X es is) (hs : (assignEach (e :: es) X.env).map (·.2) = assign e X.env :: (assignEach es X.env).map (·.2) := by rfl) : Sgs X (e :: es) (i :: is) :=
  pgs_imp (pgs_cons h1 h2 hs) fun v σ H Q ⟨B, al, S, ρ, ρ', d, R, er, r, e, q⟩ => by
    cases r with
    | nil => cases e
    | cons d v ds vs h r => exact ⟨v, vs, rfl, B, al, S, _, ρ', ds, R, er.set h i, r, e, fun σ' er' hw => q σ' er' fun us hu => (hw us fun j hj => hu j (List.mem_cons_of_mem _ hj)).trans (wipe_set (hu i List.mem_cons_self))⟩
theorem setAll_len : ∀ {is : List Nat} {ds : List D} {ρ ρ' : Env}, setAll is ds ρ = some ρ' → ds.length = is.length
  | [], [], _, _, _ => rfl
  | i :: is, d :: ds, ρ, ρ', h => by simp [setAll_len (is := is) (ds := ds) h]
  | [], _ :: _, _, _, h => by cases h
  | _ :: _, [], _, _, h => by cases h
theorem sg_tup {es : List Expr} {k : Nat} {is : List Nat} {pos : Pos} (hc : X.calm = true) (h : Sgs X es is) (hn : (assignEach es X.env).length = is.length := by rfl) (hst : (assignEach es X.env).findIdx? (·.1) = none := by rfl) :
    Sg X (.Tuple es k pos) (.tp is) := pg_imp (pg_tup hc h hn hst) fun v σ H Q ⟨B, al, S, ρ, ρ', d, R, er, r, e, q⟩ => by
  cases r with
  | tup a ds vs ha ra =>
    have hl := setAll_len (is := is) (ds := ds) e
    exact ⟨a, vs, rfl, .of ha, by rw [← ra.len]; exact hl, B, al, S, ρ, ρ', ds, R, er, ra, e, q⟩
  | tpx a ds vs ha ra =>
    have hl := setAll_len (is := is) (ds := ds) e
    exact ⟨a, vs, rfl, zat_sq ha, by rw [← ra.len]; exact hl, B, al, S, ρ, ρ', ds, R, er, ra, e, q⟩
  | _ => cases e
/-- target = value -/
def mAsg (g : Tg) (m : ME) : MS := fun ρ S => match m ρ S with
  | some (d, S') => (g.put d ρ).map fun ρ' => (.nx ρ', S')
  | none => none
theorem ss_asg {tg e : Expr} {m : ME} {g : Tg} {pos : Pos} (he : Sn X e m) (hg : Sg X tg g) (hs : swapsWithSole [tg] e pos.line X.env = pure false := by rfl) (hw : swappedStores [tg] e X.env = pure none := by rfl)
    (h1 : (assignEach [tg] X.env).map (·.2) = [assign tg X.env] := by rfl) : Ss X W (.Assign [tg] e pos) (mAsg g m) := ps_imp (ps_asg he hg hs hw h1) fun D σ H ⟨B, al, S, ρ, o, S', R, er, hm, p⟩ => by
  unfold mAsg at hm
  split at hm
  · rename_i d S1 h1
    cases hx : g.put d ρ with
    | none => rw [hx] at hm; cases hm
    | some ρ' =>
      rw [hx] at hm
      cases hm
      exact ⟨B, al, S, ρ, d, _, R, er, h1, fun v al1 H1 R1 x1 r => ⟨B, al1, _, ρ, ρ', d, R1, er.mono R x1, r, hx, fun σ' er' _ => p σ' al1 H1 R1 x1 er'⟩⟩
  · cases hm
/-- xs[i] = v, a list of the store -/
def mSetL (mo mi mv : ME) : MS := fun ρ S => match mv ρ S with
  | none => none
  | some (v, S1) => match mo ρ S1 with
    | some (.ref n, S2) => match mi ρ S2 with
      | some (.int i, S3) => match S3[n]? with
        | some (.lst xs) => (ixN xs.length i).map fun j => (.nx ρ, S3.set n (.lst (xs.set j v)))
        | _ => none
      | _ => none
    | _ => none
theorem ss_setL {o i e : Expr} {mo mi mv : ME} {pos p2 : Pos} (hv : Sn X e mv) (ho : Sn X o mo) (hi : Sn X i mi)
    (ha : ∀ v, assign (.Subscript o i p2) X.env v = (do
      let ov ← holding [v] (eval o X.env)
      let iv ← holding [v, ov] (eval i X.env)
      standAt p2
      holding [v, ov, iv] (setItem ov iv v)
      release [v, ov, iv] []) := by intro _; rfl)
    (hs : swapsWithSole [.Subscript o i p2] e pos.line X.env = pure false := by rfl) (hw : swappedStores [.Subscript o i p2] e X.env = pure none := by rfl)
    (h1 : (assignEach [.Subscript o i p2] X.env).map (·.2) = [assign (.Subscript o i p2) X.env] := by rfl) : Ss X W (.Assign [.Subscript o i p2] e pos) (mSetL mo mi mv) :=
  ps_imp (ps_asg hv (pg_sub ho hi set_list ha) hs hw h1) fun D σ H ⟨B, al, S, ρ, o, S', R, er, hm, p⟩ => by
    unfold mSetL at hm
    split at hm
    · cases hm
    · rename_i v S1 h1
      split at hm
      · rename_i n S2 h2
        split at hm
        · rename_i i S3 h3
          split at hm
          · rename_i xs h4
            cases hx : ixN xs.length i with
            | none => rw [hx] at hm; cases hm
            | some j =>
              rw [hx] at hm
              cases hm
              refine ⟨B, al, S, ρ, v, _, R, er, h1, fun vv al1 H1 R1 x1 r1 => ⟨B, al1, S1, ρ, .ref n, S2, R1, er.mono R x1, h2, fun vo al2 H2 R2 x2 r2 =>
                ⟨B, al2, S2, ρ, .int i, S3, R2, (er.mono R x1).mono R1 x2, h3, fun vi al3 H3 R3 x3 r3 => ?_⟩⟩⟩
              cases r3
              have r2' := r2.mono R2 x3
              cases r2' with
              | ref _ a hn =>
                obtain ⟨_, us, hu, ru⟩ := R3.look (.ref n a hn) h4
                refine ⟨a, us, i, j, rfl, rfl, hu, by rw [← ru.len]; exact hx, ?_⟩
                obtain ⟨x4, R4⟩ := R3.put (o := .lst (us.set j vv)) (u := .lst (xs.set j v)) hn (fun _ z => nomatch z) fun x4 => ⟨_, upd_same, ((ru.set ((r1.mono R1 x2).mono R2 x3) j)).mono R3 x4⟩
                exact p σ al3 _ R4 (((x1.trans x2).trans x3).trans x4) ((((er.mono R x1).mono R1 x2).mono R2 x3).mono R3 x4)
          · cases hm
        · cases hm
      · cases hm
/-- x += e, whole numbers -/
def mAug (i : Nat) (f : Int → Int → Int) (m : ME) : MS := fun ρ S => match ρ[i]? with
  | some (some (.int a)) => match m ρ S with
    | some (.int b, S') => some (.nx (ρ.set i (some (.int (f a b)))), S')
    | _ => none
  | _ => none
theorem ss_aug {st : Stmt} {i : Nat} {f : Int → Int → Int} {m : ME} (h : PS X st (tAug i (tE X.K m) (ipI f))) : Ss X W st (mAug i f m) := ps_imp h fun D σ H ⟨B, al, S, ρ, o, S', R, er, hm, p⟩ => by
  unfold mAug at hm
  split at hm
  · rename_i a ha
    split at hm
    · rename_i b S1 h1
      cases hm
      obtain ⟨v, hv, rv⟩ := er.2 i _ ha
      cases rv
      exact ⟨_, hv, B, al, S, ρ, .int b, _, R, er, h1, fun w al1 H1 R1 x1 r => by cases r; exact ⟨a, b, rfl, rfl, p _ al1 H1 R1 x1 ((er.mono R x1).set (.int _) i)⟩⟩
    · cases hm
  · cases hm
end
end Z
set_option Elab.async false
set_option linter.all false
set_option maxRecDepth 100000
/-! What loops walk over. -/
namespace L2
open PySem PySem.Spec PyProof.Rows
open AutoSeq1 (wpAny_loadPart')

/-! ### a list or a tuple -/
def iSq (K : PySem.W.Frag) (tl : TE) : TI := fun σ H R => tl σ H fun x H1 => ∃ a, x = .ref a ∧ (((∃ xs, SqL K H1 a xs) ∧ R (Itl K a) H1) ∨ ((∃ xs, SqT K H1 a xs) ∧ R (Itt K a) H1))
theorem pi_sq {X : Cx} {tg l : Expr} {tl : TE} (hl : PE X l tl) : PI X tg l (iSq X.K tl) := by
  refine ⟨fun pins s σ H R I h => thn (hl.run pins s σ H _ I h) fun v s1 ⟨x, H1, I1, r1, q1⟩ => ?_⟩
  obtain ⟨a, rfl, q⟩ := q1
  cases r1
  have fp (b : Addr) (hb : b ∈ [s1.heap.objs.size]) : FpOk X pins H1 b := by
    obtain rfl := List.mem_singleton.mp hb
    exact I1.fpOk (Nat.le_refl _) (I1.hok.fresh (Nat.le_refl _))
  rcases q with ⟨⟨xs, hq⟩, q⟩ | ⟨⟨xs, hq⟩, q⟩
  · obtain ⟨its, rv, p, hz⟩ := I1.list hq
    exact wpAny_pyIter_list p.isList ⟨_, [s1.heap.objs.size], _, _, H1, rfl, I1.kept (t' := s1.toks) fun b o e => Heap.get?_push_of_some _ e, turn_list a _, ⟨_, Heap.get?_push_size _ rfl, rfl, rfl⟩, fp, q⟩
  · obtain ⟨its, rv, p, hz⟩ := I1.tuple hq
    exact wpAny_pyIter_tuple (show s1.heap.IsTuple a its.toArray from p) ⟨_, [s1.heap.objs.size], _, _, H1, rfl, I1.kept (t' := s1.toks) fun b o e => Heap.get?_push_of_some _ e, turn_tuple a _, ⟨_, Heap.get?_push_size _ rfl, rfl, rfl⟩, fp, q⟩

/-! ### enumerate of a tuple -/
theorem enum_newT (v : Value) (o : Obj) (G : Heap → Prop) (B : Begins v o G) :
    Meets (Builtin.«enumerate.__new__» ⟨[.type "enumerate", v], []⟩) (fun _ R s => G s.heap ∧
      R (.ok (.ret (.ref (s.heap.push o).objs.size))) { s with heap := (s.heap.push o).push { cls := .type "enumerate", data := .fields #[.none, .bool false, .ref s.heap.objs.size, rawInt 0, .none, .none] } }) :=
  .of_wp fun prog w A R s h => by
    obtain ⟨hp, g, d, tk, os⟩ := s
    obtain ⟨h1, h⟩ := h
    have hsub := sub_enumerate
    have q1 : ∀ {A' : Around} {E : Value → Shared → Prop} {Q : Value → Shared → Prop}, Q (.ref hp.objs.size) ⟨hp.push o, g, d, tk, os⟩ → wpAny (model prog w) A' (pyIter v) Q E ⟨hp, g, d, tk, os⟩ :=
      fun {A' E Q} q => B.iter prog w A' E ⟨hp, g, d, tk, os⟩ Q h1 q
    wp_walk using q1
    refine wpAny_stack_any fun st => wpAny_pure ?_
    split
    · rename_i c _ _ _ _ _
      cases (c == Value.type "enumerate") <;> (wp_walk using q1; exact ⟨_, rfl, h⟩)
    · wp_walk using q1
      exact ⟨_, rfl, h⟩
section
variable {prog : Program} {w : World} {A : Around} {E : Value → Shared → Prop} {s : Shared}
theorem enum_callT {v : Value} {o : Obj} {G : Heap → Prop} {Q : Value → Shared → Prop} (B : Begins v o G) (hG : G s.heap)
    (h : ∀ h', IsEnum h' (s.heap.objs.size + 1) s.heap.objs.size 0 .none → h'.get? s.heap.objs.size = some o → (∀ b o, s.heap.get? b = some o → h'.get? b = some o) → Q (.ref (s.heap.objs.size + 1)) { s with heap := h' }) :
    wpAny (model prog w) A (call (.type "enumerate") [v]) Q E s := by
  refine callType_new F.called_enumerate (by decide) (F.typeCall_enumerate_1 _) (F.newCall_enumerate_1 _) (fun obj => F.args_object_init_2 obj _) F.entry_enumerate_new (enum_newT v o G B) ⟨hG, ?_⟩
  have hz : (s.heap.push o).objs.size = s.heap.objs.size + 1 := Heap.size_push ..
  have he := Heap.get?_push_size (s.heap.push o) (o := { cls := .type "enumerate", data := .fields #[.none, .bool false, .ref s.heap.objs.size, rawInt 0, .none, .none] }) rfl
  rw [hz] at he
  show _ ∧ _
  rw [hz]
  exact ⟨⟨_, he, rfl⟩, h _ he (Heap.get?_push_of_some _ (Heap.get?_push_size _ B.free)) fun b o x => Heap.get?_push_of_some _ (Heap.get?_push_of_some _ x)⟩
end
def IteT (K : PySem.W.Frag) (a : Addr) : It :=
  ⟨fun i H => ∃ (xs : List V) (x : V), SqT K H a xs ∧ xs[i]? = some x, fun i H v H' => ∃ T x, v = .ref T ∧ H T = none ∧ H' = upd H T (.tup [.int (i : Nat), x]) ∧ ∀ xs, SqT K H a xs → xs[i]? = some x,
   fun i H => ∃ xs : List V, SqT K H a xs ∧ xs.length = i⟩
theorem turn_enumT {P : Program} {w : World} {K : PySem.W.Frag} {elts : List Expr} {kk : Nat} {tpos : Pos} (a e it : Addr) (hne : e ≠ it) (hea : e ≠ a) (hia : a ≠ it) :
    Turn P w K (.Tuple elts kk tpos) (IteT K a) [e, it] e (fun i h => (∃ old, IsEnum h e it ((i : Nat) : Int) old) ∧ h.IsTupleIter it a i) where
  mem := by simp
  obj := fun i h st b hb => by
    obtain ⟨⟨old, he⟩, o, ho, hc, hd⟩ := st
    rcases (show b = e ∨ b = it by simpa using hb) with rfl | rfl
    · exact ⟨_, he, fun v q => nomatch q⟩
    · exact ⟨o, ho, fun v q => by rw [hd] at q; cases q⟩
  keep := fun i h h' st k => ⟨st.1.imp fun old he => k e (by simp) _ he, st.2.at fun o q => k it (by simp) o q⟩
  item := by
    intro X hP hw hK hc i pins s σ H E I hf st hg
    subst hP hw hK
    obtain ⟨⟨old, he⟩, hit⟩ := st
    obtain ⟨xs, x, hq, hx⟩ := hg
    obtain ⟨its, rv, p, hz⟩ := I.tuple hq
    obtain ⟨u, hu, ru⟩ := rv.get hx
    have hel : e < s.heap.objs.size := Heap.lt_size he
    have hil : it < s.heap.objs.size := by obtain ⟨_, q, _⟩ := hit; exact Heap.lt_size q
    have D := Draws.tuple (prog := X.prog) (w := X.w) (A := X.A.in1) (I.ok.hd hc) it a hia its.toArray
    have hi : i < its.toArray.size := by
      have := (List.getElem?_eq_some_iff.mp hu).1
      simpa using this
    refine wpAny_pyNext_enum_itemC D he ⟨hit, p⟩ hi hne (by simp [hne, hea]) fun y h' tk hy ho hit' hT hsz hk => ?_
    have ey : y = u := by
      have : its.toArray[i]? = some u := by simpa using hu
      rw [this] at hy
      exact (Option.some.inj hy).symm
    subst ey
    refine ⟨_, rfl, wpAny_letOwnedTupleGo_enum (s := { s with heap := h', toks := tk + 1 }) ho fun h'' he' sb => ?_⟩
    have hT2 : h''.get? s.heap.objs.size = some { cls := .type "tuple", data := .seq #[.int i tk, y] } := (sb.2 _ (Nat.ne_of_gt hel)).trans hT
    have I1 : Inv X pins σ (upd H s.heap.objs.size (.tup [.int (i : Nat), x])) { s with heap := h'', toks := tk + 1 } := by
      refine I.turnedNew (ch := [e, it]) (fun b ob hb q => ?_) hf (Nat.le_refl _) ⟨by show 2 ≤ sizeLine; decide, [.int i tk, y], .cons ⟨_, rfl⟩ (.cons ru .nil), ⟨_, hT2, rfl, _, rfl⟩⟩
      have hbe : b ≠ e := fun z => hb (by simp [z])
      have hbi : b ≠ it := fun z => hb (by simp [z])
      exact (sb.2 b hbe).trans (hk b ob hbe hbi q)
    refine ⟨.ref s.heap.objs.size, _, I1, rfl, ⟨_, x, rfl, I.hok.fresh (Nat.le_refl _), rfl, fun ys hy => by rw [I.tuple_inj hy hq]; exact hx⟩, ⟨⟨y, ?_⟩, hit'.1.at fun o q => (sb.2 it (Ne.symm hne)).trans q⟩, fun b hb => ?_⟩
    · have e1 : ((i + 1 : Nat) : Int) = (i : Int) + 1 := by omega
      rw [e1]; exact he'
    · have hb' : b < s.heap.objs.size := by
        rcases (show b = e ∨ b = it by simpa using hb) with rfl | rfl
        · exact hel
        · exact hil
      rw [upd_ne (Nat.ne_of_lt hb')]
      exact (hf b hb).1
  done := by
    intro X hP hw hK hc i pins s σ H E I hf st hg
    subst hP hw hK
    obtain ⟨⟨old, he⟩, hit⟩ := st
    obtain ⟨xs, hq, hx⟩ := hg
    obtain ⟨its, rv, p, hz⟩ := I.tuple hq
    obtain ⟨f0, f1, f2, f3, f4, f5⟩ := hf it (by simp)
    have D := Draws.tuple (prog := X.prog) (w := X.w) (A := X.A.in1) (I.ok.hd hc) it a hia its.toArray
    have en : its.toArray.size = i := by rw [List.size_toArray, ← rv.length]; exact hx
    refine wpAny_pyNext_enum_endD D he (by rw [en]; exact ⟨hit, p⟩) fun h' eb => ⟨rfl, I.turned (t' := s.toks) (fun b o hb q => eb b o hb q) f0 f1 f3 f4 f5⟩
  self := fun A i s Q E st h => let ⟨⟨_, he⟩, _⟩ := st; wpAny_pyIter_enum he h
def iEnA (K : PySem.W.Frag) (te : TE) : TI := fun σ H R => te σ H fun v H1 => ∃ a, [v] = [V.ref a] ∧ (((∃ xs, SqL K H1 a xs) ∧ R (Ite K a) H1) ∨ ((∃ xs, SqT K H1 a xs) ∧ R (IteT K a) H1))
theorem pi_enA {X : Cx} {e : Expr} {te : TE} {p pos tpos : Pos} {elts : List Expr} {kk : Nat} (hg : Gl X "enumerate") (hm : X.mg "enumerate" = none) (he : PE X e te) (hs : starEach [e] X.env = [(false, eval e X.env)] := by rfl)
    (hs2 : starEach (e :: []) X.env = (false, eval e X.env) :: starEach [] X.env := by rfl) : PI X (.Tuple elts kk tpos) (.Call (.Name "enumerate" p) [e] [] pos) (iEnA X.K te) := by
  refine ⟨fun pins s σ H R I h => ?_⟩
  refine Call_ (ld_blt I hg hm boot_enumerate (PyProof.Rows.callWith_type1 (thn ((pa_cons he pa_nil hs2).run pos pins s σ H (fun vs H1 => ∃ a, vs = [.ref a] ∧ (((∃ xs, SqL X.K H1 a xs) ∧ R (Ite X.K a) H1) ∨ ((∃ xs, SqT X.K H1 a xs) ∧ R (IteT X.K a) H1))) I ?_) fun us s1 ⟨vs, H1, I1, r1, q1⟩ => ?_) hs rfl))
  · exact h
  · obtain ⟨a, rfl, q⟩ := q1
    rw [Vals.ref1 r1]
    have fp (b : Addr) (hb : b ∈ [s1.heap.objs.size + 1, s1.heap.objs.size]) : FpOk X pins H1 b := by
      have hle : s1.heap.objs.size ≤ b := by
        rcases (show b = s1.heap.objs.size + 1 ∨ b = s1.heap.objs.size by simpa using hb) with z | z <;> rw [z]
        · exact Nat.le_add_right _ _
        · exact Nat.le_refl _
      exact I1.fpOk hle (I1.hok.fresh hle)
    rcases q with ⟨⟨xs, hq⟩, q⟩ | ⟨⟨xs, hq⟩, q⟩
    · obtain ⟨its, rv, p', hz⟩ := I1.list hq
      refine call_enumerate_list p'.isList fun h' he hit hsz hk => wpAny_pyIter_enum he ?_
      exact ⟨s1.heap.objs.size + 1, [s1.heap.objs.size + 1, s1.heap.objs.size], _, _, H1, rfl, I1.kept (t' := s1.toks) hk, turn_enum a (s1.heap.objs.size + 1) s1.heap.objs.size, ⟨⟨.none, he⟩, hit, Nat.succ_ne_self _⟩, fp, q⟩
    · obtain ⟨its, rv, p', hz⟩ := I1.tuple hq
      have al : a < s1.heap.objs.size := IsTup.lt p'
      refine enum_callT (begins_tuple a its.toArray) p' fun h' he hit hk => wpAny_pyIter_enum he ?_
      exact ⟨s1.heap.objs.size + 1, [s1.heap.objs.size + 1, s1.heap.objs.size], _, _, H1, rfl, I1.kept (t' := s1.toks) hk,
        turn_enumT a (s1.heap.objs.size + 1) s1.heap.objs.size (Nat.succ_ne_self _) (Nat.ne_of_gt (Nat.lt_succ_of_lt al)) (Nat.ne_of_lt al), ⟨⟨.none, he⟩, ⟨_, hit, rfl, rfl⟩⟩, fp, q⟩
end L2
set_option Elab.async false
set_option linter.all false
set_option maxRecDepth 100000
/-! for, while, comprehensions. -/
namespace Z
open PySem L2

/-- what is walked: its items, and whether the store still bears it -/
abbrev MI := Env → M (List D × (Store → Bool))
/-- what stays when the banned lists may change -/
structure ExB (B : Addr → Prop) (al : List Addr) (H : Hp) (al' : List Addr) (H' : Hp) : Prop where
  pre : ∃ be, al' = al ++ be
  fr : ∀ a o, H a = some o → a ∉ al → (¬ B a ∨ ∃ vs, o = .tup vs) → H' a = some o ∧ a ∉ al'
section
variable {K : PySem.W.Frag} {B : Addr → Prop} {al al' al2 : List Addr} {H H' H2 : Hp}
theorem Ex.toB (x : Ex al H al' H') : ExB B al H al' H' := ⟨x.pre, fun a o h n _ => x.fr a o h n⟩
theorem ExB.step (x : ExB B al H al' H') (y : Ex al' H' al2 H2) : ExB B al H al2 H2 := by
  obtain ⟨⟨b1, e1⟩, f1⟩ := x
  obtain ⟨⟨b2, e2⟩, f2⟩ := y
  exact ⟨⟨b1 ++ b2, by rw [e2, e1, List.append_assoc]⟩, fun a o h n k => let ⟨p, q⟩ := f1 a o h n k; f2 a o p q⟩
theorem ExB.poke (x : ExB B al H al' H') {p : Addr} (hp : B p) {us ws : List V} (h0 : H' p = some (.lst us)) : ExB B al H al' (upd H' p (.lst ws)) := by
  refine ⟨x.pre, fun a o h n k => ?_⟩
  obtain ⟨g1, g2⟩ := x.fr a o h n k
  by_cases e : a = p
  · subst e
    rcases k with k | ⟨vs, rfl⟩
    · exact (k hp).elim
    · rw [h0] at g1; cases g1
  · exact ⟨by rw [upd_ne e]; exact g1, g2⟩
theorem ExB.get (x : ExB B al H al' H') {n : Nat} {a : Addr} (h : al[n]? = some a) : al'[n]? = some a := by
  obtain ⟨⟨b, rfl⟩, _⟩ := x
  rw [List.getElem?_append_left (List.getElem?_eq_some_iff.mp h).1]
  exact h
theorem ExB.rd (x : ExB B al H al' H') {a : Addr} {vs : List V} (h : CAt K B al H a vs) : CAt K B al' H' a vs := by
  rcases h with ⟨h, n, b⟩ | h
  · rcases h with h | ⟨o, h⟩
    · exact .inl ⟨.inl (x.fr _ _ h n (.inl b)).1, (x.fr _ _ h n (.inl b)).2, b⟩
    · exact .inl ⟨.inr ⟨o, (x.fr _ _ h n (.inl b)).1⟩, (x.fr _ _ h n (.inl b)).2, b⟩
  · exact .inr h
theorem ExB.xd (x : ExB B al H al' H') {a : Addr} {ns : List Int} (h : XAt B al H a ns) : XAt B al' H' a ns := by
  obtain ⟨o, ⟨h1, h2, h3⟩, h4⟩ := h
  exact ⟨o, ⟨(x.fr _ _ h1 h2 (.inl h3)).1, (x.fr _ _ h1 h2 (.inl h3)).2, h3⟩, h4⟩
theorem ExB.yd (x : ExB B al H al' H') {a : Addr} {es : List (Key × V)} (h : YAt B al H a es) : YAt B al' H' a es := by
  obtain ⟨o, ⟨h1, h2, h3⟩, h4⟩ := h
  exact ⟨o, ⟨(x.fr _ _ h1 h2 (.inl h3)).1, (x.fr _ _ h1 h2 (.inl h3)).2, h3⟩, h4⟩
theorem ExB.zd (x : ExB B al H al' H') {a : Addr} {vs : List V} (h : ZAt B al H a vs) : ZAt B al' H' a vs := by
  obtain ⟨o, ⟨h1, h2, h3⟩, h4⟩ := h
  exact ⟨o, ⟨(x.fr _ _ h1 h2 (.inl h3)).1, (x.fr _ _ h1 h2 (.inl h3)).2, h3⟩, h4⟩
theorem ExB.ld (x : ExB B al H al' H') {a : Addr} {vs : List V} (h : LAt B al H a vs) : LAt B al' H' a vs :=
  ⟨(x.fr _ _ h.1 h.2.1 (.inl h.2.2)).1, (x.fr _ _ h.1 h.2.1 (.inl h.2.2)).2, h.2.2⟩
mutual
theorem RV.monoB (R : NT al H) (x : ExB B al H al' H') : ∀ {d : D} {v : V}, RV K B al H d v → RV K B al' H' d v
  | _, _, .non => .non
  | _, _, .bl b => .bl b
  | _, _, .int i => .int i
  | _, _, .str s => .str s
  | _, _, .tup a ds vs h r => .tup a ds vs (x.fr _ _ h (R a vs h) (.inr ⟨vs, rfl⟩)).1 (RL.monoB R x r)
  | _, _, .lst a ds vs h r => .lst a ds vs (x.ld h) (RL.monoB R x r)
  | _, _, .scr a ns h => .scr a ns (x.rd h)
  | _, _, .tpi a ns h => .tpi a ns (x.xd h)
  | _, _, .dcf a kvs es h k r => .dcf a kvs es (x.yd h) k (rl_tups (fun a vs e => (x.fr _ _ e (R a vs e) (.inr ⟨vs, rfl⟩)).1) r)
  | _, _, .tpx a ds vs h r => .tpx a ds vs (x.zd h) (RL.monoB R x r)
  | _, _, .ref n a h => .ref n a (x.get h)
theorem RL.monoB (R : NT al H) (x : ExB B al H al' H') : ∀ {ds : List D} {vs : List V}, RL K B al H ds vs → RL K B al' H' ds vs
  | _, _, .nil => .nil
  | _, _, .cons d v ds vs h r => .cons d v ds vs (RV.monoB R x h) (RL.monoB R x r)
end
theorem ER.monoB {ρ : Env} {σ : St} (e : ER K B al H ρ σ) (N : NT al H) (x : ExB B al H al' H') : ER K B al' H' ρ σ := ⟨e.1, fun i d q => let ⟨v, a, b⟩ := e.2 i d q; ⟨v, a, b.monoB N x⟩⟩
end
def IsW (K : PySem.W.Frag) (B : Addr → Prop) (it : List D) (ok : Store → Bool) (J : It) (al : List Addr) (H : Hp) : Prop :=
  ∃ (G : Hp → Prop) (Y : Nat → Hp → V → Hp → Prop), Walk J it.length G Y ∧ (∀ (C : Addr → Prop) al2 S2 H2, Rel K C al2 S2 H2 → ExB B al H al2 H2 → ok S2 = true → G H2) ∧
    ∀ (C : Addr → Prop) i al2 S2 H2 x H3 d, (∀ a, B a → C a) → Rel K C al2 S2 H2 → ExB B al H al2 H2 → (∀ d v, RV K B al H d v → RV K C al2 H2 d v) → it[i]? = some d → ok S2 = true → Y i H2 x H3 → Rel K C al2 S2 H3 ∧ Ex al2 H2 al2 H3 ∧ RV K C al2 H3 d x
def tW (K : PySem.W.Frag) (m : MI) : TI := fun σ H R => ∃ (B : Addr → Prop) (al : List Addr) (S : Store) (ρ : Env) (it : List D) (ok : Store → Bool) (S' : Store), Rel K B al S H ∧ ER K B al H ρ σ ∧ m ρ S = some ((it, ok), S') ∧
  ∀ J al' H', Rel K B al' S' H' → Ex al H al' H' → IsW K B it ok J al' H' → R J H'

/-! ### sameness of data -/
mutual
def deq : D → D → Bool
  | .non, .non => true
  | .bl a, .bl b => a == b
  | .int a, .int b => a == b
  | .str a, .str b => decide (a = b)
  | .tup a, .tup b => deqs a b
  | .lst a, .lst b => deqs a b
  | .scr a, .scr b => decide (a = b)
  | .tpi a, .tpi b => decide (a = b)
  | .dcf a, .dcf b => decide (a = b)
  | .tpx a, .tpx b => deqs a b
  | .ref a, .ref b => a == b
  | _, _ => false
def deqs : List D → List D → Bool
  | [], [] => true
  | a :: as, b :: bs => deq a b && deqs as bs
  | _, _ => false
end
mutual
theorem deq_eq : ∀ {a b : D}, deq a b = true → a = b
  | .non, b, h => by cases b <;> first | rfl | simp [deq] at h
  | .bl x, b, h => by cases b <;> simp_all [deq]
  | .int x, b, h => by cases b <;> simp_all [deq]
  | .str x, b, h => by cases b <;> simp_all [deq]
  | .scr x, b, h => by cases b <;> simp_all [deq]
  | .tpi x, b, h => by cases b <;> simp_all [deq]
  | .dcf x, b, h => by cases b <;> simp_all [deq]
  | .ref x, b, h => by cases b <;> simp_all [deq]
  | .tup x, b, h => by
    cases b with
    | tup y => rw [deqs_eq (a := x) (b := y) (by simpa [deq] using h)]
    | _ => simp [deq] at h
  | .tpx x, b, h => by
    cases b with
    | tpx y => rw [deqs_eq (a := x) (b := y) (by simpa [deq] using h)]
    | _ => simp [deq] at h
  | .lst x, b, h => by
    cases b with
    | lst y => rw [deqs_eq (a := x) (b := y) (by simpa [deq] using h)]
    | _ => simp [deq] at h
theorem deqs_eq : ∀ {a b : List D}, deqs a b = true → a = b
  | [], b, h => by cases b <;> first | rfl | simp [deqs] at h
  | x :: xs, b, h => by
    cases b with
    | nil => simp [deqs] at h
    | cons y ys =>
      simp only [deqs, Bool.and_eq_true] at h
      rw [deq_eq h.1, deqs_eq h.2]
end
mutual
theorem deq_refl : ∀ a : D, deq a a = true
  | .non => rfl
  | .bl x => by simp [deq]
  | .int x => by simp [deq]
  | .str x => by simp [deq]
  | .scr x => by simp [deq]
  | .tpi x => by simp [deq]
  | .dcf x => by simp [deq]
  | .tpx x => by simp [deq, deqs_refl x]
  | .ref x => by simp [deq]
  | .tup x => by simp [deq, deqs_refl x]
  | .lst x => by simp [deq, deqs_refl x]
theorem deqs_refl : ∀ a : List D, deqs a a = true
  | [] => rfl
  | x :: xs => by simp [deqs, deq_refl x, deqs_refl xs]
end

/-! ### lists, tuples -/
def okOf : D → List D → Store → Bool
  | .ref n, xs, S => match S[n]? with
    | some (.lst ys) => deqs ys xs
    | _ => false
  | _, _, _ => true
def mItS (m : ME) : MI := fun ρ S => match m ρ S with
  | none => none
  | some (d, S') => match asSq S' d with
    | none => none
    | some xs => some ((xs, okOf d xs), S')
section
variable {K : PySem.W.Frag} {B : Addr → Prop} {al : List Addr} {S : Store} {H : Hp}
/-- the list at a has n items, whatever they are -/
def GLn (K : PySem.W.Frag) (a : Addr) (n : Nat) (H : Hp) : Prop := ∃ us, SqL K H a us ∧ us.length = n
def GTn (K : PySem.W.Frag) (a : Addr) (n : Nat) (H : Hp) : Prop := ∃ us, SqT K H a us ∧ us.length = n
theorem walk_Ln {a : Addr} {n : Nat} : Walk (Itl K a) n (GLn K a n) (fun i H x H' => H' = H ∧ ∀ us, SqL K H a us → us[i]? = some x) :=
  ⟨fun i H hi ⟨us, q, e⟩ => ⟨us, us[i]'(by omega), q, by simp [e, hi]⟩, fun H ⟨us, q, e⟩ => ⟨us, q, Nat.le_of_eq e⟩, fun _ _ _ _ _ _ y => y⟩
theorem walk_Tn {a : Addr} {n : Nat} : Walk (Itt K a) n (GTn K a n) (fun i H x H' => H' = H ∧ ∀ us, SqT K H a us → us[i]? = some x) :=
  ⟨fun i H hi ⟨us, q, e⟩ => ⟨us, us[i]'(by omega), q, by simp [e, hi]⟩, fun H ⟨us, q, e⟩ => ⟨us, q, Nat.le_of_eq e⟩, fun _ _ _ _ _ _ y => y⟩
theorem walk_eLn {a : Addr} {n : Nat} : Walk (Ite K a) n (GLn K a n) (fun i H v H' => ∃ T x, v = .ref T ∧ H T = none ∧ H' = upd H T (.tup [.int (i : Nat), x]) ∧ ∀ us, SqL K H a us → us[i]? = some x) :=
  ⟨fun i H hi ⟨us, q, e⟩ => ⟨us, us[i]'(by omega), q, by simp [e, hi]⟩, fun H ⟨us, q, e⟩ => ⟨us, q, Nat.le_of_eq e⟩, fun _ _ _ _ _ _ y => y⟩
theorem walk_eTn {a : Addr} {n : Nat} : Walk (IteT K a) n (GTn K a n) (fun i H v H' => ∃ T x, v = .ref T ∧ H T = none ∧ H' = upd H T (.tup [.int (i : Nat), x]) ∧ ∀ us, SqT K H a us → us[i]? = some x) :=
  ⟨fun i H hi ⟨us, q, e⟩ => ⟨us, us[i]'(by omega), q, by simp [e, hi]⟩, fun H ⟨us, q, e⟩ => ⟨us, q, e⟩, fun _ _ _ _ _ _ y => y⟩
theorem walk_cast {J : It} {n m : Nat} {G : Hp → Prop} {Y : Nat → Hp → V → Hp → Prop} (e : n = m) (w : Walk J n G Y) : Walk J m G Y := e ▸ w
theorem Ex.cd (x : Ex al H al' H') {a : Addr} {vs : List V} (h : CAt K B al H a vs) : SqL K H' a vs := cat_sq (x.rd h)
/-- what a list or a tuple holds at a later time, while the store bears it -/
theorem later {R : Rel K B al S H} {d : D} {v : V} (r : RV K B al H d v) {xs : List D} (e : asSq S d = some xs) : ∃ a, v = .ref a ∧
    (((∃ us, SqL K H a us) ∧ ∀ (C : Addr → Prop) al2 S2 H2, Rel K C al2 S2 H2 → ExB B al H al2 H2 → okOf d xs S2 = true → ∃ us, SqL K H2 a us ∧ us.length = xs.length ∧
        ((∀ d v, RV K B al H d v → RV K C al2 H2 d v) → ∀ (i : Nat) d u, xs[i]? = some d → us[i]? = some u → RV K C al2 H2 d u)) ∨
     ((∃ us, SqT K H a us) ∧ ∀ (C : Addr → Prop) al2 S2 H2, Rel K C al2 S2 H2 → ExB B al H al2 H2 → okOf d xs S2 = true → ∃ us, SqT K H2 a us ∧ us.length = xs.length ∧
        ((∀ d v, RV K B al H d v → RV K C al2 H2 d v) → ∀ (i : Nat) d u, xs[i]? = some d → us[i]? = some u → RV K C al2 H2 d u))) := by
  have pick : ∀ {us : List V} (C : Addr → Prop) (al2 : List Addr) (H2 : Hp), RL K B al H xs us → (∀ d v, RV K B al H d v → RV K C al2 H2 d v) → ∀ (i : Nat) d u, xs[i]? = some d → us[i]? = some u → RV K C al2 H2 d u := fun C al2 H2 ra f i d u e1 e2 => by
    obtain ⟨w, h1, h2⟩ := ra.get e1
    rw [e2] at h1; cases h1
    exact f _ _ h2
  cases r with
  | tup a ds vs h r =>
    cases e
    exact ⟨a, rfl, .inr ⟨⟨vs, .of h⟩, fun C al2 S2 H2 R2 x _ => ⟨vs, .of (x.fr _ _ h (R.notup h) (.inr ⟨vs, rfl⟩)).1, r.len.symm, pick C al2 H2 r⟩⟩⟩
  | scr a ns h =>
    cases e
    exact ⟨a, rfl, .inl ⟨⟨_, cat_sq h⟩, fun C al2 S2 H2 R2 x _ => ⟨_, cat_sq (x.rd h), by simp, pick C al2 H2 (rl_ints ns)⟩⟩⟩
  | tpx a ds vs h r =>
    cases e
    exact ⟨a, rfl, .inr ⟨⟨vs, zat_sq h⟩, fun C al2 S2 H2 R2 x _ => ⟨vs, zat_sq (x.zd h), r.len.symm, pick C al2 H2 r⟩⟩⟩
  | tpi a ns h =>
    cases e
    exact ⟨a, rfl, .inr ⟨⟨_, xat_sq h⟩, fun C al2 S2 H2 R2 x _ => ⟨_, xat_sq (x.xd h), by simp, pick C al2 H2 (rl_ints ns)⟩⟩⟩
  | lst a ds vs h r =>
    cases e
    exact ⟨a, rfl, .inl ⟨⟨vs, .of h.1⟩, fun C al2 S2 H2 R2 x _ => ⟨vs, .of (x.ld h).1, r.len.symm, pick C al2 H2 r⟩⟩⟩
  | ref n a h =>
    refine ⟨a, rfl, .inl ⟨?_, fun C al2 S2 H2 R2 x hk => ?_⟩⟩
    · obtain ⟨b, us, e1, e2, _⟩ := asL_rep R (.ref n a h) e
      cases e1
      exact ⟨us, .of e2⟩
    · simp only [okOf] at hk
      split at hk
      · rename_i ys ho
        have := deqs_eq hk
        subst this
        obtain ⟨us, hu, ru⟩ := R2.ob n a _ (x.get h) ho
        refine ⟨us, .of hu, ru.len.symm, fun _ i d u e1 e2 => ?_⟩
        obtain ⟨w, h1, h2⟩ := ru.get e1
        rw [e2] at h1; cases h1
        exact h2
      · cases hk
  | _ => cases e
end
section
variable {X : Cx} {tg e : Expr}
theorem pi_imp {t t' : TI} (h : PI X tg e t) (q : ∀ σ H R, t' σ H R → t σ H R) : PI X tg e t' := ⟨fun pins s σ H R I w => h.run pins s σ H R I (q _ _ _ w)⟩
def Si (X : Cx) (tg e : Expr) (m : MI) : Prop := PI X tg e (tW X.K m)
theorem si_seq {m : ME} (h : Sn X e m) : Si X tg e (mItS m) := pi_imp (pi_sq h) fun σ H R ⟨B, al, S, ρ, it, ok, S', R0, er, hm, q⟩ => by
  unfold mItS at hm
  split at hm
  · cases hm
  · rename_i d S1 h1
    split at hm
    · cases hm
    · rename_i xs h2
      cases hm
      refine ⟨B, al, S, ρ, d, _, R0, er, h1, fun v al1 H1 R1 x1 r1 => ?_⟩
      obtain ⟨a, rfl, hh⟩ := later (R := R1) r1 h2
      refine ⟨a, rfl, ?_⟩
      rcases hh with ⟨hu, hh⟩ | ⟨hu, hh⟩
      · refine .inl ⟨hu, q _ al1 H1 R1 x1 ⟨_, _, walk_Ln, fun C al2 S2 H2 R2 x2 hk => ?_, fun C i al2 S2 H2 x H3 d hbc R2 x2 lift hd hk hy => ?_⟩⟩
        · obtain ⟨us, h3, h4, _⟩ := hh C al2 S2 H2 R2 x2 hk
          exact ⟨us, h3, h4⟩
        · obtain ⟨us, h3, h4, h5⟩ := hh C al2 S2 H2 R2 x2 hk
          obtain ⟨rfl, hy⟩ := hy
          exact ⟨R2, .refl, h5 lift i d x hd (hy us h3)⟩
      · refine .inr ⟨hu, q _ al1 H1 R1 x1 ⟨_, _, walk_Tn, fun C al2 S2 H2 R2 x2 hk => ?_, fun C i al2 S2 H2 x H3 d hbc R2 x2 lift hd hk hy => ?_⟩⟩
        · obtain ⟨us, h3, h4, _⟩ := hh C al2 S2 H2 R2 x2 hk
          exact ⟨us, h3, h4⟩
        · obtain ⟨us, h3, h4, h5⟩ := hh C al2 S2 H2 R2 x2 hk
          obtain ⟨rfl, hy⟩ := hy
          exact ⟨R2, .refl, h5 lift i d x hd (hy us h3)⟩
/-- enumerate(x) -/
def enumD (k : Nat) : List D → List D
  | [] => []
  | d :: ds => .tup [.int (k : Nat), d] :: enumD (k + 1) ds
theorem enumD_len : ∀ (k : Nat) (ds : List D), (enumD k ds).length = ds.length
  | _, [] => rfl
  | k, d :: ds => by simp [enumD, enumD_len (k + 1) ds]
theorem enumD_get : ∀ (k : Nat) (ds : List D) (i : Nat) (d : D), (enumD k ds)[i]? = some d → ∃ c, ds[i]? = some c ∧ d = .tup [.int ((k + i : Nat) : Int), c]
  | _, [], i, d, h => by simp [enumD] at h
  | k, c :: ds, 0, d, h => by simp [enumD] at h; exact ⟨c, rfl, h.symm⟩
  | k, c :: ds, i + 1, d, h => by
    simp only [enumD, List.getElem?_cons_succ] at h
    obtain ⟨c', h1, h2⟩ := enumD_get (k + 1) ds i d h
    exact ⟨c', by simpa using h1, by rw [h2]; congr 3; omega⟩
def mItE (m : ME) : MI := fun ρ S => match m ρ S with
  | none => none
  | some (d, S') => match asSq S' d with
    | none => none
    | some xs => some ((enumD 0 xs, okOf d xs), S')
theorem pair_up {K : PySem.W.Frag} {C : Addr → Prop} {al2 : List Addr} {S2 : Store} {H2 : Hp} {T : Addr} {i : Nat} {c : D} {x : V} (R2 : Rel K C al2 S2 H2) (hT : H2 T = none) (r : RV K C al2 H2 c x) :
    Rel K C al2 S2 (upd H2 T (.tup [.int (i : Nat), x])) ∧ Ex al2 H2 al2 (upd H2 T (.tup [.int (i : Nat), x])) ∧ RV K C al2 (upd H2 T (.tup [.int (i : Nat), x])) (.tup [.int ((0 + i : Nat) : Int), c]) (.ref T) := by
  obtain ⟨y, R3⟩ := R2.side (o := .tup [.int (i : Nat), x]) hT
  refine ⟨R3, y, .tup T _ _ upd_same ?_⟩
  rw [Nat.zero_add]
  exact .cons _ _ _ _ (.int _) (.cons _ _ _ _ (r.mono R2 y) .nil)
theorem si_enum {elts : List Expr} {kk : Nat} {tpos p pos : Pos} {m : ME} (hg : Gl X "enumerate") (hm : X.mg "enumerate" = none) (he : Sn X e m) (hs : starEach [e] X.env = [(false, eval e X.env)] := by rfl)
    (hs2 : starEach (e :: []) X.env = (false, eval e X.env) :: starEach [] X.env := by rfl) : Si X (.Tuple elts kk tpos) (.Call (.Name "enumerate" p) [e] [] pos) (mItE m) :=
  pi_imp (pi_enA hg hm he hs hs2) fun σ H R ⟨B, al, S, ρ, it, ok, S', R0, er, hm, q⟩ => by
    unfold mItE at hm
    split at hm
    · cases hm
    · rename_i d S1 h1
      split at hm
      · cases hm
      · rename_i xs h2
        cases hm
        refine ⟨B, al, S, ρ, d, _, R0, er, h1, fun v al1 H1 R1 x1 r1 => ?_⟩
        obtain ⟨a, rfl, hh⟩ := later (R := R1) r1 h2
        refine ⟨a, rfl, ?_⟩
        rcases hh with ⟨hu, hh⟩ | ⟨hu, hh⟩
        · refine .inl ⟨hu, q _ al1 H1 R1 x1 ⟨_, _, walk_cast (enumD_len 0 xs).symm walk_eLn, fun C al2 S2 H2 R2 x2 hk => ?_, fun C i al2 S2 H2 x H3 d hbc R2 x2 lift hd hk hy => ?_⟩⟩
          · obtain ⟨us, h3, h4, _⟩ := hh C al2 S2 H2 R2 x2 hk
            exact ⟨us, h3, h4⟩
          · obtain ⟨us, h3, h4, h5⟩ := hh C al2 S2 H2 R2 x2 hk
            obtain ⟨T, y, rfl, hT, rfl, hy⟩ := hy
            obtain ⟨c, hc, rfl⟩ := enumD_get 0 xs i d hd
            exact pair_up R2 hT (h5 lift i c y hc (hy us h3))
        · refine .inr ⟨hu, q _ al1 H1 R1 x1 ⟨_, _, walk_cast (enumD_len 0 xs).symm walk_eTn, fun C al2 S2 H2 R2 x2 hk => ?_, fun C i al2 S2 H2 x H3 d hbc R2 x2 lift hd hk hy => ?_⟩⟩
          · obtain ⟨us, h3, h4, _⟩ := hh C al2 S2 H2 R2 x2 hk
            exact ⟨us, h3, h4⟩
          · obtain ⟨us, h3, h4, h5⟩ := hh C al2 S2 H2 R2 x2 hk
            obtain ⟨T, y, rfl, hT, rfl, hy⟩ := hy
            obtain ⟨c, hc, rfl⟩ := enumD_get 0 xs i d hd
            exact pair_up R2 hT (h5 lift i c y hc (hy us h3))
/-! ### range -/
def rngD (lo : Int) (n : Nat) : List D := (List.range n).map fun i => .int (lo + (i : Nat))
theorem rng_isW {K : PySem.W.Frag} {B : Addr → Prop} {al : List Addr} {H : Hp} {lo : Int} {n : Nat} : IsW K B (rngD lo n) (fun _ => true) (Itr lo n) al H := by
  have e : (rngD lo n).length = n := by simp [rngD]
  refine ⟨fun _ => True, _, walk_cast e.symm (walk_range (lo := lo) (n := n)), fun _ _ _ _ _ _ _ => trivial, fun C i al2 S2 H2 x H3 d hbc R2 x2 lift hd hk hy => ?_⟩
  obtain ⟨rfl, rfl⟩ := hy
  have hi : i < n := by
    have := (List.getElem?_eq_some_iff.mp hd).1
    rw [e] at this; exact this
  have : d = .int (lo + (i : Nat)) := by
    simp [rngD, hi] at hd
    exact hd.symm
  subst this
  exact ⟨R2, .refl, .int _⟩
def okR (i : Int) : Bool := decide (-1000000 ≤ i ∧ i ≤ 1000000)
def mItR (m : MA) : MI := fun ρ S => match m ρ S with
  | some ([.int j], S') => if okR j then some ((rngD 0 j.toNat, fun _ => true), S') else none
  | some ([.int i, .int j], S') => if okR i && okR j then some ((rngD i (j - i).toNat, fun _ => true), S') else none
  | _ => none
theorem si_rng1 {p pos : Pos} {a : Expr} {m : MA} (hg : Gl X "range") (hm : X.mg "range" = none) (ha : Sa X [a] m) (h : PI X tg (.Call (.Name "range" p) [a] [] pos) (iRng1 (tA X.K m))) : Si X tg (.Call (.Name "range" p) [a] [] pos) (mItR m) :=
  pi_imp h fun σ H R ⟨B, al, S, ρ, it, ok, S', R0, er, hm, q⟩ => by
    unfold mItR at hm
    split at hm
    · rename_i j S1 h1
      split at hm
      · rename_i hk
        have hk := of_decide_eq_true hk
        cases hm
        refine ⟨B, al, S, ρ, _, _, R0, er, h1, fun vs al1 H1 R1 x1 r1 => ?_⟩
        obtain ⟨v, rfl, rv⟩ := rl_one r1
        cases rv
        exact ⟨j, rfl, by omega, by omega, q _ al1 H1 R1 x1 rng_isW⟩
      · cases hm
    · rename_i i j S1 h1
      have := ha.len _ _ _ _ h1
      simp at this
    · cases hm
theorem si_rng2 {p pos : Pos} {a b : Expr} {m : MA} (hg : Gl X "range") (hm : X.mg "range" = none) (ha : Sa X [a, b] m) (h : PI X tg (.Call (.Name "range" p) [a, b] [] pos) (iRng2 (tA X.K m))) : Si X tg (.Call (.Name "range" p) [a, b] [] pos) (mItR m) :=
  pi_imp h fun σ H R ⟨B, al, S, ρ, it, ok, S', R0, er, hm, q⟩ => by
    unfold mItR at hm
    split at hm
    · rename_i j S1 h1
      have := ha.len _ _ _ _ h1
      simp at this
    · rename_i i j S1 h1
      split at hm
      · rename_i hk
        simp only [Bool.and_eq_true] at hk
        have hk1 := of_decide_eq_true hk.1
        have hk2 := of_decide_eq_true hk.2
        cases hm
        refine ⟨B, al, S, ρ, _, _, R0, er, h1, fun vs al1 H1 R1 x1 r1 => ?_⟩
        obtain ⟨v, w, rfl, rv, rw'⟩ := rl_two r1
        cases rv; cases rw'
        exact ⟨i, j, rfl, ⟨by omega, by omega, by omega, by omega⟩, q _ al1 H1 R1 x1 rng_isW⟩
      · cases hm
    · cases hm
end
end Z
set_option Elab.async false
set_option linter.all false
set_option maxRecDepth 100000
/-! for, while, comprehensions. -/
namespace Z
open PySem L2

def mForL (g : Tg) (ok : Store → Bool) (body : MS) : List D → MS
  | [], ρ, S => if ok S then some (.nx ρ, S) else none
  | d :: ds, ρ, S => if ok S then match g.put d ρ with
      | none => none
      | some ρ1 => match body ρ1 S with
        | some (.nx ρ2, S2) => mForL g ok body ds ρ2 S2
        | some (.ct ρ2, S2) => mForL g ok body ds ρ2 S2
        | some (.bk ρ2, S2) => some (.nx ρ2, S2)
        | r => r
    else none
def mFor (g : Tg) (it : MI) (body : MS) : MS := fun ρ S => match it ρ S with
  | some ((xs, ok), S1) => mForL g ok body xs ρ S1
  | none => none
section
variable {X : Cx} {W : Str → Hp → Prop}
theorem ss_for {tg e : Expr} {body : List Stmt} {g : Tg} {it : MI} {b : MS} {pos : Pos} (hp : PassesOwn (model X.prog X.w) X.A X.env X.xe) (hc : X.calm = true) (hi : Si X tg e it) (hg : Sg X tg g) (hb : Sb X W body b) (hs : ∀ x, foldedSetIterable e X.env x = pure x := by intro _; rfl) :
    Ss X W (.For tg e body [] pos) (mFor g it b) := ps_imp (ps_for hp hc hi hg hb hs) fun D σ H ⟨B, al, S, ρ, o, S', R, er, hm, p⟩ => by
  unfold mFor at hm
  split at hm
  · rename_i xs ok S1 h1
    refine ⟨B, al, S, ρ, xs, ok, S1, R, er, h1, fun J al1 H1 R1 x1 ⟨G, Y, w, hG, hY⟩ => ?_⟩
    let Pv : Nat → St → Hp → Prop := fun i σ2 H2 => ∃ al2 S2 ρ2, Rel X.K B al2 S2 H2 ∧ Ex al1 H1 al2 H2 ∧ ER X.K B al2 H2 ρ2 σ2 ∧ mForL g ok b (xs.drop i) ρ2 S2 = some (o, S')
    refine for_it w Pv ⟨al1, S1, ρ, R1, .refl, er.mono R x1, hm⟩ ?_ ?_ ?_
    · rintro i σ2 H2 hi ⟨al2, S2, ρ2, R2, x2, er2, h2⟩
      refine hG B al2 S2 H2 R2 x2.toB ?_
      cases hd : xs.drop i <;> rw [hd] at h2 <;> unfold mForL at h2 <;> (split at h2; assumption; cases h2)
    · rintro i x σ2 H2 H3 hi ⟨al2, S2, ρ2, R2, x2, er2, h2⟩ hy
      rw [List.drop_eq_getElem_cons hi] at h2
      unfold mForL at h2
      split at h2
      · rename_i hk
        split at h2
        · cases h2
        · rename_i ρ3 h3
          obtain ⟨R3, x3, rv⟩ := hY B i al2 S2 H2 x H3 xs[i] (fun _ z => z) R2 x2.toB (fun d v r => r.mono R1 x2) (by simp [hi]) hk hy
          refine ⟨B, al2, S2, ρ2, ρ3, xs[i], R3, er2.mono R2 x3, rv, h3, fun σ3 er3 _ => ?_⟩
          have xx := (x2.trans x3)
          split at h2
          · rename_i ρ4 S4 h4
            exact ⟨B, al2, S2, ρ3, .nx ρ4, S4, R3, er3, h4, fun σ4 al4 H4 R4 x4 er4 => ⟨al4, S4, ρ4, R4, xx.trans x4, er4, h2⟩⟩
          · rename_i ρ4 S4 h4
            exact ⟨B, al2, S2, ρ3, .ct ρ4, S4, R3, er3, h4, fun σ4 al4 H4 R4 x4 er4 => ⟨al4, S4, ρ4, R4, xx.trans x4, er4, h2⟩⟩
          · rename_i ρ4 S4 h4
            cases h2
            exact ⟨B, al2, S2, ρ3, .bk ρ4, _, R3, er3, h4, fun σ4 al4 H4 R4 x4 er4 => p σ4 al4 H4 R4 ((x1.trans xx).trans x4) er4⟩
          · rename_i h4 h5 h6
            refine ⟨B, al2, S2, ρ3, o, S', R3, er3, h2, ?_⟩
            cases o with
            | nx ρ' => exact (h4 _ _ h2).elim
            | rt d => exact p.step (x1.trans xx)
            | bk ρ' => exact (h6 _ _ h2).elim
            | ct ρ' => exact (h5 _ _ h2).elim
            | ex c => exact p.step (x1.trans xx)
      · cases h2
    · rintro σ2 H2 ⟨al2, S2, ρ2, R2, x2, er2, h2⟩
      rw [List.drop_length] at h2
      unfold mForL at h2
      split at h2
      · cases h2
        exact p σ2 al2 H2 R2 (x1.trans x2) er2
      · cases h2
  · cases hm

/-! ### while, at most n turns -/
def mWhl (t : MT) (body : MS) : Nat → MS
  | 0, _, _ => none
  | n + 1, ρ, S => match t ρ S with
    | none => none
    | some (false, S1) => some (.nx ρ, S1)
    | some (true, S1) => match body ρ S1 with
      | some (.nx ρ2, S2) => mWhl t body n ρ2 S2
      | some (.ct ρ2, S2) => mWhl t body n ρ2 S2
      | some (.bk ρ2, S2) => some (.nx ρ2, S2)
      | r => r
theorem ss_while {c : Expr} {body : List Stmt} {t : MT} {b : MS} {pos : Pos} (n : Nat) (hp : PassesOwn (model X.prog X.w) X.A X.env X.xe) (hc : Stt X c t) (hb : Sb X W body b) :
    Ss X W (.While c body [] pos) (mWhl t b n) := ps_imp (ps_while hp hc hb) fun D σ H ⟨B, al, S, ρ, o, S', R, er, hm, p⟩ => by
  let Wm : Nat → St → Hp → Prop := fun m σ2 H2 => ∃ al2 S2 ρ2, Rel X.K B al2 S2 H2 ∧ Ex al H al2 H2 ∧ ER X.K B al2 H2 ρ2 σ2 ∧ mWhl t b m ρ2 S2 = some (o, S')
  refine ⟨Wm, ⟨n, al, S, ρ, R, .refl, er, hm⟩, ?_⟩
  rintro m σ2 H2 ⟨al2, S2, ρ2, R2, x2, er2, h2⟩
  cases m with
  | zero => unfold mWhl at h2; cases h2
  | succ m =>
    unfold mWhl at h2
    split at h2
    · cases h2
    · rename_i S3 h3
      cases h2
      refine ⟨B, al2, S2, ρ2, false, _, R2, er2, h3, fun k al3 H3 R3 x3 e => ?_⟩
      subst e
      exact p σ2 al3 H3 R3 (x2.trans x3) (er2.mono R2 x3)
    · rename_i S3 h3
      refine ⟨B, al2, S2, ρ2, true, S3, R2, er2, h3, fun k al3 H3 R3 x3 e => ?_⟩
      subst e
      rw [if_pos rfl]
      refine ⟨fun σ' H' => Wm m σ' H', fun σ' H' w => ⟨m, Nat.lt_succ_self m, w⟩, ?_⟩
      have er3 := er2.mono R2 x3
      have xx := x2.trans x3
      split at h2
      · rename_i ρ4 S4 h4
        exact ⟨B, al3, S3, ρ2, .nx ρ4, S4, R3, er3, h4, fun σ4 al4 H4 R4 x4 er4 => ⟨al4, S4, ρ4, R4, xx.trans x4, er4, h2⟩⟩
      · rename_i ρ4 S4 h4
        exact ⟨B, al3, S3, ρ2, .ct ρ4, S4, R3, er3, h4, fun σ4 al4 H4 R4 x4 er4 => ⟨al4, S4, ρ4, R4, xx.trans x4, er4, h2⟩⟩
      · rename_i ρ4 S4 h4
        cases h2
        exact ⟨B, al3, S3, ρ2, .bk ρ4, _, R3, er3, h4, fun σ4 al4 H4 R4 x4 er4 => p σ4 al4 H4 R4 (xx.trans x4) er4⟩
      · rename_i h4 h5 h6
        refine ⟨B, al3, S3, ρ2, o, S', R3, er3, h2, ?_⟩
        cases o with
        | nx ρ' => exact (h4 _ _ h2).elim
        | rt d => exact p.step xx
        | bk ρ' => exact (h6 _ _ h2).elim
        | ct ρ' => exact (h5 _ _ h2).elim
        | ex c => exact p.step xx
end

/-! ### comprehensions of one for -/
def mLcL (vs : List Nat) (g : Tg) (ok : Store → Bool) (t : MT) (e : ME) (ρ : Env) : List D → M (List D)
  | [], S => if ok S then some ([], S) else none
  | d :: ds, S => if ok S then match g.put d (wipeD ρ vs) with
      | none => none
      | some ρ1 => match t ρ1 S with
        | none => none
        | some (true, S1) => match e ρ1 S1 with
          | none => none
          | some (y, S2) => match mLcL vs g ok t e ρ ds S2 with
            | none => none
            | some (ys, S3) => some (y :: ys, S3)
        | some (false, S1) => mLcL vs g ok t e ρ ds S1
    else none
def mLc (vs : List Nat) (g : Tg) (it : MI) (t : MT) (e : ME) : MA := fun ρ S => match it ρ S with
  | some ((xs, ok), S1) => match mLcL vs g ok t e ρ xs S1 with
    | some (ys, S2) => if ys.length ≤ lim then some (ys, S2) else none
    | none => none
  | none => none
def mTrue : MT := fun _ => ret true
end Z
set_option Elab.async false
set_option linter.all false
set_option maxRecDepth 100000
/-! Comprehensions. -/
namespace Z
open PySem L2

section
variable {K : PySem.W.Frag} {B : Addr → Prop} {al : List Addr} {H : Hp} {p : Addr} {us vs0 : List V}
mutual
theorem RV.poke (hb : B p) (h0 : H p = some (.lst vs0)) : ∀ {d : D} {v : V}, RV K B al H d v → RV K B al (upd H p (.lst us)) d v
  | _, _, .non => .non
  | _, _, .bl b => .bl b
  | _, _, .int i => .int i
  | _, _, .str s => .str s
  | _, _, .tup a ds vs h r => .tup a ds vs (by
      show upd H p _ a = _
      rw [upd_ne (fun e => by rw [e] at h; have h' : H p = some (.tup vs) := h; rw [h0] at h'; cases h')]; exact h) (RL.poke hb h0 r)
  | _, _, .lst a ds vs h r => .lst a ds vs ⟨by rw [upd_ne (fun e => h.2.2 (by rw [e]; exact hb))]; exact h.1, h.2⟩ (RL.poke hb h0 r)
  | _, _, .scr a ns h => .scr a ns (match h with
    | .inl ⟨x, y, z⟩ => .inl ⟨(by
        have ne : a ≠ p := fun e => z (by rw [e]; exact hb)
        rcases x with x | ⟨o, x⟩
        · exact .inl (by rw [upd_ne ne]; exact x)
        · exact .inr ⟨o, by rw [upd_ne ne]; exact x⟩), y, z⟩
    | .inr x => .inr x)
  | _, _, .tpi a ns h => .tpi a ns (match h with
    | ⟨o, ⟨h1, h2, h3⟩, h4⟩ => ⟨o, ⟨by rw [upd_ne (fun e => h3 (by rw [e]; exact hb))]; exact h1, h2, h3⟩, h4⟩)
  | _, _, .tpx a ds vs h r => .tpx a ds vs (match h with
    | ⟨o, ⟨h1, h2, h3⟩, h4⟩ => ⟨o, ⟨by rw [upd_ne (fun e => h3 (by rw [e]; exact hb))]; exact h1, h2, h3⟩, h4⟩) (RL.poke hb h0 r)
  | _, _, .dcf a kvs es h k r => .dcf a kvs es (match h with
    | ⟨o, ⟨h1, h2, h3⟩, h4⟩ => ⟨o, ⟨by rw [upd_ne (fun e => h3 (by rw [e]; exact hb))]; exact h1, h2, h3⟩, h4⟩) k (rl_tups (fun a vs h => by rw [upd_ne (fun e => by rw [e, h0] at h; cases h)]; exact h) r)
  | _, _, .ref n a h => .ref n a h
theorem RL.poke (hb : B p) (h0 : H p = some (.lst vs0)) : ∀ {ds : List D} {vs : List V}, RL K B al H ds vs → RL K B al (upd H p (.lst us)) ds vs
  | _, _, .nil => .nil
  | _, _, .cons d v ds vs h r => .cons d v ds vs (RV.poke hb h0 h) (RL.poke hb h0 r)
end
/-- a list that nobody leans on is changed -/
theorem Rel.poke {S : Store} (R : Rel K B al S H) (hb : B p) (h0 : H p = some (.lst vs0)) : Rel K B al S (upd H p (.lst us)) := by
  have np := (R.bh p hb).1
  refine ⟨R.len, R.nd, fun a h => ⟨(R.bh a h).1, ?_⟩, fun n a o e1 e2 => ?_⟩
  · by_cases e : a = p
    · subst e; exact ⟨_, upd_same⟩
    · rw [upd_ne e]; exact (R.bh a h).2
  · have ne : a ≠ p := fun e => np (by rw [← e]; exact List.mem_of_getElem? e1)
    have k : ∀ w, H a = some w → upd H p (.lst us) a = some w := fun w e => by rw [upd_ne ne]; exact e
    have q := R.ob n a o e1 e2
    cases o with
    | lst ds => obtain ⟨vs, e, r⟩ := q; exact ⟨vs, k _ e, r.poke hb h0⟩
    | dct kvs => obtain ⟨es, e, e2, r⟩ := q; exact ⟨es, k _ e, e2, r.poke hb h0⟩
    | dtt kvs => obtain ⟨es, e, e2, r⟩ := q; exact ⟨es, k _ e, e2, r.poke hb h0⟩
theorem Ex.poke {al0 : List Addr} {H0 : Hp} {o : HO} (x : Ex al0 H0 al H) (h : H0 p = none) : Ex al0 H0 al (upd H p o) :=
  ⟨x.pre, fun a u e n => ⟨by rw [upd_ne (ne_of_none e h)]; exact (x.fr a u e n).1, (x.fr a u e n).2⟩⟩
theorem ER.ban {ρ : Env} {σ : St} (e : ER K B al H ρ σ) (h : H p = Option.none) : ER K (Bp B p) al H ρ σ := ⟨e.1, fun i d q => let ⟨v, a, b⟩ := e.2 i d q; ⟨v, a, b.ban h⟩⟩
theorem ER.monoN {al' : List Addr} {H' : Hp} {ρ : Env} {σ : St} (e : ER K B al H ρ σ) (N : NT al H) (x : Ex al H al' H') : ER K B al' H' ρ σ := ⟨e.1, fun i d q => let ⟨v, a, b⟩ := e.2 i d q; ⟨v, a, b.monoN N x⟩⟩
end

section
variable {X : Cx} {vs : List Nat} {g : Tg} {it : MI} {t : MT} {e : ME}
theorem lcL_ok {ok : Store → Bool} {ρ : Env} {ds : List D} {S : Store} {r} (h : mLcL vs g ok t e ρ ds S = some r) : ok S = true := by
  cases ds <;> unfold mLcL at h <;> (split at h; assumption; cases h)
theorem lc_of (hv : ∀ i ∈ g.slots, i ∈ vs) : ∀ σ H Q, tF X.K (mLc vs g it t e) σ H Q → tLc (tW X.K it) (tTg X.K g) (tT X.K t) (tE X.K e) vs σ H Q := fun σ H Q ⟨B, al, S, ρ, ys, S', R, er, hm, q⟩ => by
  unfold mLc at hm
  split at hm
  · rename_i xs ok S1 h1
    split at hm
    · rename_i zs S2 h2
      split at hm
      · rename_i hz
        cases hm
        refine ⟨B, al, S, ρ, xs, ok, S1, R, er, h1, fun J al1 H1 R1 x1 ⟨G, Y, w, hG, hY⟩ => fun Dl hD => ?_⟩
        have h0 : H Dl = none := fresh_al x1 (R1.fresh hD) hD
        obtain ⟨xb, Rb⟩ := R1.ban (o := .lst []) hD
        have er1 : ER X.K (Bp B Dl) al1 H1 ρ σ := (er.mono R x1).ban hD
        let Pv : Nat → Hp → Prop := fun i H2 => ∃ al2 S2 acc vacc rest, Rel X.K (Bp B Dl) al2 S2 H2 ∧ Ex al1 H1 al2 H2 ∧ H2 Dl = some (.lst vacc) ∧ RL X.K (Bp B Dl) al2 H2 acc vacc ∧ mLcL vs g ok t e ρ (xs.drop i) S2 = some (rest, S') ∧ acc ++ rest = ys
        refine lc_it w Pv ⟨al1, S1, [], [], ys, Rb, xb, upd_same, .nil, h2, rfl⟩ ?_ ?_ ?_
        · rintro i H2 hi ⟨al2, S2, acc, vacc, rest, R2, x2, hd2, ra, h3, h4⟩
          exact hG _ al2 S2 H2 R2 x2.toB (lcL_ok h3)
        · rintro i x H2 H3 hi ⟨al2, S2, acc, vacc, rest, R2, x2, hd2, ra, h3, h4⟩ hy
          rw [List.drop_eq_getElem_cons hi] at h3
          unfold mLcL at h3
          split at h3
          · rename_i hk
            split at h3
            · cases h3
            · rename_i ρ3 hp
              obtain ⟨R3, x3, rv⟩ := hY (Bp B Dl) i al2 S2 H2 x H3 xs[i] bp_less R2 x2.toB (fun d v r => (r.ban hD).monoN R1.nt x2) (by simp [hi]) hk hy
              have nd2 : Dl ∉ al2 := (R2.bh Dl (.inr rfl)).1
              refine ⟨Bp B Dl, al2, S2, wipeD ρ vs, ρ3, xs[i], R3, ((er1.monoN R1.nt x2).wipe vs).mono R2 x3, rv, hp, fun σ3 er3 hw => ⟨(hw vs hv).trans wipe_wipe, ?_⟩⟩
              have hd3 := (x3.fr Dl _ hd2 nd2).1
              have ra3 := ra.mono R2 x3
              have nd3 : Dl ∉ al2 := nd2
              split at h3
              · cases h3
              · rename_i S4 h5
                split at h3
                · cases h3
                · rename_i y S5 h6
                  split at h3
                  · cases h3
                  · rename_i zs S6 h7
                    cases h3
                    refine ⟨Bp B Dl, al2, S2, ρ3, true, S4, R3, er3, h5, fun k al4 H4 R4 x4 ek => ?_⟩
                    subst ek
                    rw [if_pos rfl]
                    refine ⟨Bp B Dl, al4, S4, ρ3, y, S5, R4, er3.mono R3 x4, h6, fun v al5 H5 R5 x5 r5 => ⟨vacc, ?_, ?_, ?_⟩⟩
                    · exact (x5.fr Dl _ (x4.fr Dl _ hd3 nd3).1 (x4.fr Dl _ hd3 nd3).2).1
                    · have e1 := ra.len
                      have e2 : ys.length = acc.length + (zs.length + 1) := by rw [← h4]; simp
                      exact lim_lt (by omega)
                    · have hd5 := (x5.fr Dl _ (x4.fr Dl _ hd3 nd3).1 (x4.fr Dl _ hd3 nd3).2).1
                      refine ⟨al5, S5, acc ++ [y], vacc ++ [v], zs, R5.poke (.inr rfl) hd5, ((((x2.trans x3).trans x4).trans x5)).poke hD, upd_same, ?_, h7, by rw [List.append_assoc]; exact h4⟩
                      exact (((ra3.mono R3 x4).mono R4 x5).append (.cons _ _ _ _ r5 .nil)).poke (.inr rfl) hd5
              · rename_i S4 h5
                refine ⟨Bp B Dl, al2, S2, ρ3, false, S4, R3, er3, h5, fun k al4 H4 R4 x4 ek => ?_⟩
                subst ek
                exact ⟨al4, S4, acc, vacc, rest, R4, (x2.trans x3).trans x4, (x4.fr Dl _ hd3 nd3).1, ra3.mono R3 x4, h3, h4⟩
          · cases h3
        · rintro H2 ⟨al2, S2, acc, vacc, rest, R2, x2, hd2, ra, h3, h4⟩
          rw [List.drop_length] at h3
          unfold mLcL at h3
          split at h3
          · cases h3
            rw [List.append_nil] at h4
            subst h4
            exact q Dl vacc al2 H2 R2 (x1.trans x2) h0 hd2 ra
          · cases h3
      · cases hm
    · cases hm
  · cases hm
theorem sn_lc {elt tg iter : Expr} {ifs : List Expr} {scope : Scope} {own : List (Str × Nat)} {pos : Pos} (hc : X.calm = true) (hN : X.N.Nodup) (hi : Si X tg iter it) (ok : BlkOk X.N X.env.scope scope own)
    (hg : ∀ (s : Shared) (H : Hp) (C : Addr) (cl : List (Str × Addr)) (fp : List Addr), Sg (X.blk s H scope (compEnvC scope cl C X.env) fp) tg g)
    (ht : ∀ (s : Shared) (H : Hp) (C : Addr) (cl : List (Str × Addr)) (fp : List Addr), PTs (X.blk s H scope (compEnvC scope cl C X.env) fp) ifs (tT X.K t))
    (he : ∀ (s : Shared) (H : Hp) (C : Addr) (cl : List (Str × Addr)) (fp : List Addr), Sn (X.blk s H scope (compEnvC scope cl C X.env) fp) elt e)
    (hv : ∀ i ∈ g.slots, i ∈ own.map (·.2)) (hs : ∀ x, foldedSetIterable iter X.env x = pure x := by intro _; rfl) : SnF X (.ListComp elt [⟨tg, iter, ifs, 0⟩] scope pos) (mLc (own.map (·.2)) g it t e) :=
  pe_imp (pe_lc (g := tTg X.K g) (tt := tT X.K t) (te := tE X.K e) hc hN hi ok hg ht he hs) (lc_of hv)
theorem pts_true : PTs X [] (tT X.K mTrue) := ⟨fun pins s σ H Q I h => pts_nil.run pins s σ H Q I (by
  obtain ⟨B, al, S, ρ, a, S', R, er, hm, q⟩ := h
  obtain ⟨rfl, rfl⟩ := ret_some hm
  exact q true al H R .refl rfl)⟩
theorem pts_test {c : Expr} {m : MT} (h : Stt X c m) : PTs X [c] (tT X.K m) := pts_one h
theorem fz_of {m : MA} {te : TE} (q : ∀ σ H Q, tF X.K m σ H Q → te σ H Q) : ∀ σ H Q, tE X.K (mFz m) σ H Q → te σ H Q := fun σ H Q ⟨B, al, S, ρ, d, S', R, er, hm, k⟩ => by
  obtain ⟨ds, S1, h1, h2⟩ := bnd_some hm
  obtain ⟨rfl, rfl⟩ := ret_some h2
  refine q σ H Q ⟨B, al, S, ρ, ds, S1, R, er, h1, fun p vs al' H' R' x h0 hp r => k _ al' H' (R'.less bp_less) x ?_⟩
  exact .lst p ds vs ⟨hp, (R'.bh p (.inr rfl)).1, R.freshB h0⟩ (r.less bp_less)
theorem ad_of {m : MA} {te : TE} (q : ∀ σ H Q, tF X.K m σ H Q → te σ H Q) : ∀ σ H Q, tE X.K (mAd m) σ H Q → te σ H Q := fun σ H Q ⟨B, al, S, ρ, d, S', R, er, hm, k⟩ => by
  unfold mAd at hm
  split at hm
  · rename_i ds S1 h1
    cases hm
    refine q σ H Q ⟨B, al, S, ρ, ds, _, R, er, h1, fun p vs al' H' R' x h0 hp r => k _ (al' ++ [p]) H' (R'.gain ⟨vs, hp, r⟩ (R.freshB h0)) (x.gain h0) (.ref _ p ?_)⟩
    rw [← R'.len]
    simp
  · cases hm
/-- name = [..] on one line -/
theorem ss_setLc {W : Str → Hp → Prop} {st : Stmt} {i : Nat} {m : ME} {te : TE} (h : PS X st (tAsg te (gName i))) (q : ∀ σ H Q, tE X.K m σ H Q → te σ H Q) : Ss X W st (mSet i m) := ps_imp h (set_of q)
end
end Z
set_option Elab.async false
set_option linter.all false
set_option maxRecDepth 100000
/-! Defs: what they promise, how they are called. -/
namespace Z
open PySem L2

/-! ### references below a place; lists behind later ones written out -/
mutual
def below (k : Nat) : D → Bool
  | .tup xs => belows k xs
  | .tpx xs => belows k xs
  | .lst xs => belows k xs
  | .ref n => decide (n < k)
  | _ => true
def belows (k : Nat) : List D → Bool
  | [] => true
  | d :: ds => below k d && belows k ds
end
def belowO (k : Nat) : MO → Bool
  | .lst xs => belows k xs
  | .dct kvs => belows k (kvs.map (·.2))
  | .dtt kvs => belows k (kvs.map (·.2))
/-! no lists, no references -/
mutual
def noL : D → Bool
  | .tup xs => noLs xs
  | .lst _ => false
  | .scr _ => false
  | .tpi _ => false
  | .dcf _ => false
  | .tpx _ => false
  | .ref _ => false
  | _ => true
def noLs : List D → Bool
  | [] => true
  | d :: ds => noL d && noLs ds
end
def rkG (k : Nat) (S : Store) (h : D → D) (n : Nat) : D := if n < k then .ref n else rsG S h n
def rk (k : Nat) (S : Store) : Nat → D → D
  | 0 => fun d => d
  | f + 1 => rsF (rkG k S (rk k S f))
mutual
theorem rsF_below (k : Nat) (g : Nat → D) (hg : ∀ n, n < k → g n = .ref n) : ∀ d : D, below k d = true → rsF g d = d
  | .non, _ => rfl
  | .bl _, _ => rfl
  | .int _, _ => rfl
  | .str _, _ => rfl
  | .scr _, _ => rfl
  | .tpi _, _ => rfl
  | .dcf _, _ => rfl
  | .tpx xs, h => by unfold rsF; rw [rsFs_below k g hg xs (by simpa [below] using h)]
  | .tup xs, h => by unfold rsF; rw [rsFs_below k g hg xs (by simpa [below] using h)]
  | .lst xs, h => by unfold rsF; rw [rsFs_below k g hg xs (by simpa [below] using h)]
  | .ref n, h => by unfold rsF; exact hg n (by simpa [below] using h)
theorem rsFs_below (k : Nat) (g : Nat → D) (hg : ∀ n, n < k → g n = .ref n) : ∀ ds : List D, belows k ds = true → rsFs g ds = ds
  | [], _ => rfl
  | d :: ds, h => by
    simp only [belows, Bool.and_eq_true] at h
    unfold rsFs
    rw [rsF_below k g hg d h.1, rsFs_below k g hg ds h.2]
end
theorem rk_below {k : Nat} (S : Store) (f : Nat) {d : D} (h : below k d = true) : rk k S f d = d := by
  cases f with
  | zero => rfl
  | succ f => exact rsF_below k _ (fun n hn => by simp [rkG, hn]) d h
mutual
theorem nr_below (k : Nat) : ∀ d : D, nr d = true → below k d = true
  | .non, _ => rfl
  | .bl _, _ => rfl
  | .int _, _ => rfl
  | .str _, _ => rfl
  | .scr _, _ => rfl
  | .tpi _, _ => rfl
  | .dcf _, h => by simp [nr] at h
  | .tpx xs, h => by unfold below; exact nrs_belows k xs (by simpa [nr] using h)
  | .tup xs, h => by unfold below; exact nrs_belows k xs (by simpa [nr] using h)
  | .lst xs, h => by unfold below; exact nrs_belows k xs (by simpa [nr] using h)
  | .ref _, h => by simp [nr] at h
theorem nrs_belows (k : Nat) : ∀ ds : List D, nrs ds = true → belows k ds = true
  | [], _ => rfl
  | d :: ds, h => by
    simp only [nrs, Bool.and_eq_true] at h
    simp [belows, nr_below k d h.1, nrs_belows k ds h.2]
end
theorem belows_mem {k : Nat} {ds : List D} (h : belows k ds = true) : ∀ d ∈ ds, below k d = true := by
  induction ds with
  | nil => intro d hd; cases hd
  | cons c ds ih =>
    simp only [belows, Bool.and_eq_true] at h
    intro d hd
    rcases List.mem_cons.mp hd with rfl | hd
    · exact h.1
    · exact ih h.2 d hd

section
variable {K : PySem.W.Frag} {B C : Addr → Prop} {al be : List Addr} {H : Hp} {S : Store}
mutual
theorem RV.shrink (hbc : ∀ a, C a → B a ∨ a ∈ be) : ∀ {d : D} {v : V}, RV K B (al ++ be) H d v → below al.length d = true → RV K C al H d v
  | _, _, .non, _ => .non
  | _, _, .bl b, _ => .bl b
  | _, _, .int i, _ => .int i
  | _, _, .str s, _ => .str s
  | _, _, .tup a ds vs h r, e => .tup a ds vs h (RL.shrink hbc r (by simpa [below] using e))
  | _, _, .lst a ds vs h r, e => .lst a ds vs ⟨h.1, fun z => h.2.1 (List.mem_append_left _ z), fun z => (hbc a z).elim h.2.2 fun z => h.2.1 (List.mem_append_right _ z)⟩ (RL.shrink hbc r (by simpa [below] using e))
  | _, _, .tpi a ns h, _ => .tpi a ns (match h with | ⟨o, ⟨x, y, z⟩, h4⟩ => ⟨o, ⟨x, fun w => y (List.mem_append_left _ w), fun w => (hbc a w).elim z fun w => y (List.mem_append_right _ w)⟩, h4⟩)
  | _, _, .dcf a kvs es h k r, _ => .dcf a kvs es (match h with | ⟨o, ⟨x, y, z⟩, h4⟩ => ⟨o, ⟨x, fun w => y (List.mem_append_left _ w), fun w => (hbc a w).elim z fun w => y (List.mem_append_right _ w)⟩, h4⟩) k (rl_tups (fun _ _ e => e) r)
  | _, _, .tpx a ds vs h r, e => .tpx a ds vs (match h with | ⟨o, ⟨x, y, z⟩, h4⟩ => ⟨o, ⟨x, fun w => y (List.mem_append_left _ w), fun w => (hbc a w).elim z fun w => y (List.mem_append_right _ w)⟩, h4⟩) (RL.shrink hbc r (by simpa [below] using e))
  | _, _, .scr a ns h, _ => .scr a ns (match h with
    | .inl ⟨x, y, z⟩ => .inl ⟨x, fun w => y (List.mem_append_left _ w), fun w => (hbc a w).elim z fun w => y (List.mem_append_right _ w)⟩
    | .inr x => .inr x)
  | _, _, .ref n a h, e => .ref n a (by
      have hn : n < al.length := by simpa [below] using e
      rw [List.getElem?_append_left hn] at h
      exact h)
theorem RL.shrink (hbc : ∀ a, C a → B a ∨ a ∈ be) : ∀ {ds : List D} {vs : List V}, RL K B (al ++ be) H ds vs → belows al.length ds = true → RL K C al H ds vs
  | _, _, .nil, _ => .nil
  | _, _, .cons d v ds vs h r, e => .cons d v ds vs (RV.shrink hbc h (by simp [belows] at e; exact e.1)) (RL.shrink hbc r (by simp [belows] at e; exact e.2))
end
theorem OAt.shrink (hbc : ∀ a, C a → B a ∨ a ∈ be) {a : Addr} {o : MO} (h : OAt K B (al ++ be) H a o) (e : belowO al.length o = true) : OAt K C al H a o := by
  cases o with
  | lst ds => obtain ⟨vs, e1, r⟩ := h; exact ⟨vs, e1, r.shrink hbc e⟩
  | dct kvs => obtain ⟨es, e1, e2, r⟩ := h; exact ⟨es, e1, e2, r.shrink hbc e⟩
  | dtt kvs => obtain ⟨es, e1, e2, r⟩ := h; exact ⟨es, e1, e2, r.shrink hbc e⟩
mutual
theorem RV.grow (hbc : ∀ a, B a ∨ a ∈ be → C a) : ∀ {d : D} {v : V}, RV K C al H d v → RV K B (al ++ be) H d v
  | _, _, .non => .non
  | _, _, .bl b => .bl b
  | _, _, .int i => .int i
  | _, _, .str s => .str s
  | _, _, .tup a ds vs h r => .tup a ds vs h (RL.grow hbc r)
  | _, _, .lst a ds vs h r => .lst a ds vs ⟨h.1, fun z => (List.mem_append.mp z).elim h.2.1 fun z => h.2.2 (hbc a (.inr z)), fun z => h.2.2 (hbc a (.inl z))⟩ (RL.grow hbc r)
  | _, _, .tpi a ns h => .tpi a ns (match h with | ⟨o, ⟨x, y, z⟩, h4⟩ => ⟨o, ⟨x, fun w => (List.mem_append.mp w).elim y fun w => z (hbc a (.inr w)), fun w => z (hbc a (.inl w))⟩, h4⟩)
  | _, _, .dcf a kvs es h k r => .dcf a kvs es (match h with | ⟨o, ⟨x, y, z⟩, h4⟩ => ⟨o, ⟨x, fun w => (List.mem_append.mp w).elim y fun w => z (hbc a (.inr w)), fun w => z (hbc a (.inl w))⟩, h4⟩) k (rl_tups (fun _ _ e => e) r)
  | _, _, .tpx a ds vs h r => .tpx a ds vs (match h with | ⟨o, ⟨x, y, z⟩, h4⟩ => ⟨o, ⟨x, fun w => (List.mem_append.mp w).elim y fun w => z (hbc a (.inr w)), fun w => z (hbc a (.inl w))⟩, h4⟩) (RL.grow hbc r)
  | _, _, .scr a ns h => .scr a ns (match h with
    | .inl ⟨x, y, z⟩ => .inl ⟨x, fun w => (List.mem_append.mp w).elim y fun w => z (hbc a (.inr w)), fun w => z (hbc a (.inl w))⟩
    | .inr x => .inr x)
  | _, _, .ref n a h => .ref n a (by rw [List.getElem?_append_left (List.getElem?_eq_some_iff.mp h).1]; exact h)
theorem RL.grow (hbc : ∀ a, B a ∨ a ∈ be → C a) : ∀ {ds : List D} {vs : List V}, RL K C al H ds vs → RL K B (al ++ be) H ds vs
  | _, _, .nil => .nil
  | _, _, .cons d v ds vs h r => .cons d v ds vs (RV.grow hbc h) (RL.grow hbc r)
end
theorem OAt.grow (hbc : ∀ a, B a ∨ a ∈ be → C a) {a : Addr} {o : MO} (h : OAt K C al H a o) : OAt K B (al ++ be) H a o := by
  cases o with
  | lst ds => obtain ⟨vs, e1, r⟩ := h; exact ⟨vs, e1, r.grow hbc⟩
  | dct kvs => obtain ⟨es, e1, e2, r⟩ := h; exact ⟨es, e1, e2, r.grow hbc⟩
  | dtt kvs => obtain ⟨es, e1, e2, r⟩ := h; exact ⟨es, e1, e2, r.grow hbc⟩
mutual
theorem RV.plain : ∀ {d : D} {v : V}, RV K C [] H d v → noL d = true → RV K B al H d v
  | _, _, .non, _ => .non
  | _, _, .bl b, _ => .bl b
  | _, _, .int i, _ => .int i
  | _, _, .str s, _ => .str s
  | _, _, .tup a ds vs h r, e => .tup a ds vs h (RL.plain r (by simpa [noL] using e))
  | _, _, .lst a ds vs h r, e => by simp [noL] at e
  | _, _, .scr a ns h, e => by simp [noL] at e
  | _, _, .tpi a ns h, e => by simp [noL] at e
  | _, _, .dcf a kvs es h k r, e => by simp [noL] at e
  | _, _, .tpx a ds vs h r, e => by simp [noL] at e
  | _, _, .ref n a h, e => by simp [noL] at e
theorem RL.plain : ∀ {ds : List D} {vs : List V}, RL K C [] H ds vs → noLs ds = true → RL K B al H ds vs
  | _, _, .nil, _ => .nil
  | _, _, .cons d v ds vs h r, e => .cons d v ds vs (RV.plain h (by simp [noLs] at e; exact e.1)) (RL.plain r (by simp [noLs] at e; exact e.2))
end
mutual
theorem rsF_rep {g : Nat → D} (hg : ∀ (n : Nat) (a : Addr), RV K B (al ++ be) H (.ref n) (.ref a) → below al.length (g n) = true → RV K B al H (g n) (.ref a)) : ∀ {d : D} {v : V}, RV K B (al ++ be) H d v → below al.length (rsF g d) = true → RV K B al H (rsF g d) v
  | _, _, .non, _ => .non
  | _, _, .bl b, _ => .bl b
  | _, _, .int i, _ => .int i
  | _, _, .str s, _ => .str s
  | _, _, .tup a ds vs h r, e => .tup a _ vs h (rsFs_rep hg r (by simpa [rsF, below] using e))
  | _, _, .lst a ds vs h r, e => .lst a _ vs ⟨h.1, fun z => h.2.1 (List.mem_append_left _ z), h.2.2⟩ (rsFs_rep hg r (by simpa [rsF, below] using e))
  | _, _, .scr a ns h, _ => .scr a ns (match h with | .inl ⟨x, y, z⟩ => .inl ⟨x, fun w => y (List.mem_append_left _ w), z⟩ | .inr x => .inr x)
  | _, _, .tpi a ns h, _ => .tpi a ns (match h with | ⟨o, ⟨x, y, z⟩, h4⟩ => ⟨o, ⟨x, fun w => y (List.mem_append_left _ w), z⟩, h4⟩)
  | _, _, .dcf a kvs es h k r, _ => .dcf a kvs es (match h with | ⟨o, ⟨x, y, z⟩, h4⟩ => ⟨o, ⟨x, fun w => y (List.mem_append_left _ w), z⟩, h4⟩) k (rl_tups (fun _ _ e => e) r)
  | _, _, .tpx a ds vs h r, e => .tpx a _ vs (match h with | ⟨o, ⟨x, y, z⟩, h4⟩ => ⟨o, ⟨x, fun w => y (List.mem_append_left _ w), z⟩, h4⟩) (rsFs_rep hg r (by simpa [rsF, below] using e))
  | _, _, .ref n a h, e => hg n a (.ref n a h) (by simpa [rsF] using e)
theorem rsFs_rep {g : Nat → D} (hg : ∀ (n : Nat) (a : Addr), RV K B (al ++ be) H (.ref n) (.ref a) → below al.length (g n) = true → RV K B al H (g n) (.ref a)) : ∀ {ds : List D} {vs : List V}, RL K B (al ++ be) H ds vs → belows al.length (rsFs g ds) = true → RL K B al H (rsFs g ds) vs
  | _, _, .nil, _ => .nil
  | _, _, .cons d v ds vs h r, e => .cons _ v _ vs (rsF_rep hg h (by simp [rsFs, belows] at e; exact e.1)) (rsFs_rep hg r (by simp [rsFs, belows] at e; exact e.2))
end
theorem rk_rep (R : Rel K B (al ++ be) S H) : ∀ (f : Nat) {d : D} {v : V}, RV K B (al ++ be) H d v → below al.length (rk al.length S f d) = true → RV K B al H (rk al.length S f d) v
  | 0, d, v, r, e => r.shrink (fun a z => .inl z) e
  | f + 1, d, v, r, e => rsF_rep (fun n a h z => by
    by_cases hn : n < al.length
    · have z0 : rkG al.length S (rk al.length S f) n = .ref n := by simp [rkG, hn]
      rw [z0] at z ⊢
      exact h.shrink (fun a z => .inl z) z
    · have z0 : rkG al.length S (rk al.length S f) n = rsG S (rk al.length S f) n := by simp [rkG, hn]
      rw [z0] at z ⊢
      cases ho : S[n]? with
      | none =>
        simp only [rsG, ho, below] at z
        exact absurd (of_decide_eq_true z) hn
      | some o =>
        obtain ⟨ha, oa⟩ := R.look h ho
        cases o with
        | lst xs =>
          obtain ⟨vs, hv, rl⟩ := oa
          simp only [rsG, ho] at z ⊢
          have na : a ∉ al := fun hm => by
            obtain ⟨j, hj⟩ := List.getElem?_of_mem hm
            have hjl := (List.getElem?_eq_some_iff.mp hj).1
            have hj2 : (al ++ be)[j]? = some a := by rw [List.getElem?_append_left hjl]; exact hj
            obtain ⟨h1, g1⟩ := List.getElem?_eq_some_iff.mp hj2
            obtain ⟨h2, g2⟩ := List.getElem?_eq_some_iff.mp ha
            have := (List.getElem_inj R.nd).mp (g1.trans g2.symm)
            omega
          have nb : ¬ B a := fun hb => (R.bh a hb).1 (List.mem_of_getElem? ha)
          refine .lst a _ vs ⟨hv, na, nb⟩ (rl_map rl fun d v m r => rk_rep R f r (belows_mem (by simpa [below] using z) _ (List.mem_map_of_mem m)))
        | dct _ => simp only [rsG, ho, below] at z; exact absurd (of_decide_eq_true z) hn
        | dtt _ => simp only [rsG, ho, below] at z; exact absurd (of_decide_eq_true z) hn) r e
end
end Z
set_option Elab.async false
set_option linter.all false
set_option maxRecDepth 100000
/-! Defs: promises, bodies, calls. -/
namespace Z
open PySem L2
open PyProof.Rows (envOfC)

/-- what a def hands back, its own objects written out or let go -/
def clo (k : Nat) (d : D) (S' : Store) : Option (D × Store) :=
  if below k (rk k S' 4 d) && (S'.take k).all (belowO k) then some (rk k S' 4 d, S'.take k) else none
def outD : Out → Option D
  | .rt d => some d
  | .nx _ => some .non
  | _ => none
def startD (N : Nat) (ds : List D) : Env := ds.map some ++ List.replicate (N - ds.length) none
def mBody (N : Nat) (m : MS) (ds : List D) : M D := fun S => match m (startD N ds) S with
  | some (o, S') => (outD o).bind fun d => clo S.length d S'
  | none => none
/-- .. as it lies -/
def mOpen (N : Nat) (m : MS) (ds : List D) : M D := fun S => match m (startD N ds) S with
  | some (o, S') => (outD o).map fun d => (d, S')
  | none => none
def spF (K : PySem.W.Frag) (n : Nat) (f : List D → M D) : Sp := fun vs H Q _ => ∃ (B : Addr → Prop) (al : List Addr) (S : Store) (ds : List D) (d : D) (S' : Store), Rel K B al S H ∧ ds.length = n ∧ RL K B al H ds vs ∧ f ds S = some (d, S') ∧
  ∀ (v : V) (H' : Hp), Rel K B al S' H' → Ex al H al H' → RV K B al H' d v → Q v H'
def spG (K : PySem.W.Frag) (n : Nat) (f : List D → M D) : Sp := fun vs H Q _ => ∃ (B : Addr → Prop) (al : List Addr) (S : Store) (ds : List D) (d : D) (S' : Store), Rel K B al S H ∧ ds.length = n ∧ RL K B al H ds vs ∧ f ds S = some (d, S') ∧
  ∀ (v : V) (al' : List Addr) (H' : Hp), Rel K B al' S' H' → Ex al H al' H' → RV K B al' H' d v → Q v H'
abbrev W0 : Str → Hp → Prop := fun _ _ => False
section
variable {K : PySem.W.Frag} {B : Addr → Prop} {al : List Addr} {H : Hp} {S : Store}
theorem er_start {N : List Str} {ds : List D} {vs : List V} (r : RL K B al H ds vs) : ER K B al H (startD N.length ds) (L2.start N vs) := by
  refine ⟨by simp [startD, L2.start, r.len], fun i d h => ?_⟩
  unfold startD at h
  unfold L2.start
  by_cases hi : i < ds.length
  · rw [List.getElem?_append_left (by simpa using hi)] at h
    simp only [List.getElem?_map] at h
    cases hx : ds[i]? with
    | none => rw [hx] at h; cases h
    | some c =>
      rw [hx] at h
      cases h
      obtain ⟨v, h1, h2⟩ := r.get hx
      refine ⟨v, ?_, h2⟩
      rw [List.getElem?_append_left (by rw [List.length_map, ← r.len]; exact hi)]
      simp [h1]
  · rw [List.getElem?_append_right (by simpa using hi)] at h
    simp only [List.getElem?_replicate] at h
    split at h <;> cases h
theorem clo_some {k : Nat} {d d' : D} {S1 S' : Store} (h : clo k d S1 = some (d', S')) : d' = rk k S1 4 d ∧ S' = S1.take k ∧ below k d' = true ∧ S'.all (belowO k) = true := by
  unfold clo at h
  split at h
  · rename_i hc
    cases h
    simp only [Bool.and_eq_true] at hc
    exact ⟨rfl, rfl, hc.1, hc.2⟩
  · cases h
/-- the first objects of the store alone -/
theorem Rel.first {be : List Addr} (R : Rel K B (al ++ be) S H) (hb : (S.take al.length).all (belowO al.length) = true) {C : Addr → Prop} (hc : ∀ a, C a → B a ∨ a ∈ be) : Rel K C al (S.take al.length) H := by
  have hl := R.len
  simp only [List.length_append] at hl
  have nd := R.nd
  rw [List.nodup_append] at nd
  refine ⟨by rw [List.length_take]; omega, nd.1, fun a h => ?_, fun n a o e1 e2 => ?_⟩
  · rcases hc a h with h | h
    · exact ⟨fun z => (R.bh a h).1 (List.mem_append_left _ z), (R.bh a h).2⟩
    · exact ⟨fun z => nd.2.2 a z a h rfl, (R.there (List.mem_append_right _ h)).1⟩
  · have hn := (List.getElem?_eq_some_iff.mp e1).1
    have e1' : (al ++ be)[n]? = some a := by rw [List.getElem?_append_left hn]; exact e1
    have e2' : S[n]? = some o := by rw [List.getElem?_take_of_lt hn] at e2; exact e2
    exact (R.ob n a o e1' e2').shrink hc (List.all_eq_true.mp hb o (List.mem_of_getElem? e2))
end
section
variable {P : Program} {w : World} {K : PySem.W.Frag} {mg : Str → Option Value} {base : Heap}
theorem fn_F {x qual : Str} {st : Stmt} {f : Addr} {fd : FuncData} {N ps : List Str} {k : Nat} {m : MS} (F : L2.Fun K x qual st f fd) (Sc : FnScope N ps (defScope st))
    (hb : ∀ (cdv : Value) (A : Around) (outer : List PySem.Env) (s : Shared) (H : Hp) (E : XK), Room k (A.deeper (envOfC qual (defScope st) s.heap.objs.size f cdv)) → Sb (cxOf CX0 P w K mg base N qual (defScope st) f cdv A outer s H E).nox W0 (defBody st) m) :
    FnOk P w K mg base CX0 (k + 1) f fd ps (spF K ps.length (mBody N.length m)) := by
  refine F.ok Sc (fun vs H Q E ⟨B, al, S, ds, d, S', R, hl, r, h, q⟩ => by rw [← r.len]; exact hl) (fun cdv A outer s H vs Q E hr ⟨B, al, S, ds, d, S', R, hl, r, h, q⟩ => ⟨_, hb cdv A outer s H E hr, ?_⟩)
  unfold mBody at h
  split at h
  · rename_i o S1 h1
    cases ho : outD o with
    | none => rw [ho] at h; cases h
    | some d1 =>
      rw [ho] at h
      simp only [Option.bind_some] at h
      obtain ⟨e1, e2, e3, e4⟩ := clo_some h
      have fin : ∀ (v : V) (al' : List Addr) (H' : Hp), Rel K B al' S1 H' → Ex al H al' H' → RV K B al' H' d1 v → Q v H' := fun v al' H' R' x' r' => by
        obtain ⟨be, rfl⟩ := x'.pre
        rw [← R.len] at e1 e2 e3 e4
        subst e1
        refine q v H' ?_ ⟨⟨[], by simp⟩, fun a u e n => ⟨(x'.fr a u e n).1, n⟩⟩ (rk_rep R' 4 r' e3)
        rw [e2]
        exact R'.first (by rw [← e2]; exact e4) fun a z => .inl z
      refine ⟨B, al, S, startD N.length ds, o, S1, R, er_start r, h1, ?_⟩
      cases o with
      | nx ρ => cases ho; exact fun σ' al' H' R' x' _ => fin .non al' H' R' x' .non
      | rt d2 => cases ho; exact fun v al' H' R' x' r' => fin v al' H' R' x' r'
      | bk ρ => cases ho
      | ct ρ => cases ho
      | ex c => cases ho
  · cases h
theorem fn_G {x qual : Str} {st : Stmt} {f : Addr} {fd : FuncData} {N ps : List Str} {k : Nat} {m : MS} (F : L2.Fun K x qual st f fd) (Sc : FnScope N ps (defScope st))
    (hb : ∀ (cdv : Value) (A : Around) (outer : List PySem.Env) (s : Shared) (H : Hp) (E : XK), Room k (A.deeper (envOfC qual (defScope st) s.heap.objs.size f cdv)) → Sb (cxOf CX0 P w K mg base N qual (defScope st) f cdv A outer s H E).nox W0 (defBody st) m) :
    FnOk P w K mg base CX0 (k + 1) f fd ps (spG K ps.length (mOpen N.length m)) := by
  refine F.ok Sc (fun vs H Q E ⟨B, al, S, ds, d, S', R, hl, r, h, q⟩ => by rw [← r.len]; exact hl) (fun cdv A outer s H vs Q E hr ⟨B, al, S, ds, d, S', R, hl, r, h, q⟩ => ⟨_, hb cdv A outer s H E hr, ?_⟩)
  unfold mOpen at h
  split at h
  · rename_i o S1 h1
    cases ho : outD o with
    | none => rw [ho] at h; cases h
    | some d1 =>
      rw [ho] at h
      cases h
      refine ⟨B, al, S, startD N.length ds, o, _, R, er_start r, h1, ?_⟩
      cases o with
      | nx ρ => cases ho; exact fun σ' al' H' R' x' _ => q .non al' H' R' x' .non
      | rt d2 => cases ho; exact fun v al' H' R' x' r' => q v al' H' R' x' r'
      | bk ρ => cases ho
      | ct ρ => cases ho
      | ex c => cases ho
  · cases h
end

/-! ### calls -/
/-- a def of the module -/
structure Cal (P : Program) (w : World) (K : PySem.W.Frag) (mg : Str → Option Value) (base : Heap) (k : Nat) (x : Str) (sp : Sp) : Prop where
  ex : ∃ (f : Addr) (fd : FuncData) (ps : List Str), FnOk P w K mg base CX0 k f fd ps sp ∧ mg x = some (.ref f) ∧ PySem.W.keepIn K (.ref f) = true ∧ Binds K fd ps []
theorem pe_cal {X : Cx} {kk j : Nat} {x : Str} {sp : Sp} {p pos : Pos} {e : Expr} {es : List Expr} {t : TA} (c : Cal X.prog X.w X.K X.mg X.base kk x sp) (hr : Room j X.A) (hk : kk ≤ j) (hg : Gl X x) (ha : PA X (e :: es) t)
    (hdb : (x == ("__debug__" : Str)) = false) (he : starEach (e :: es) X.env = (false, eval e X.env) :: starEach es X.env) (hpl : (backTo pos (starEach es X.env)).any (·.1) = false) :
    PE X (.Call (.Name x p) (e :: es) [] pos) (tCall sp [] E0 t) := by
  obtain ⟨f, fd, ps, F, hm, kp, b⟩ := c.ex
  exact pe_call F (hr.mono hk) hg hm kp b .nil pass0 ha hdb he hpl
/-- a call by the first k objects of the store; lists of the later ones may be lent to a def that hands back plain data -/
def callF (k : Nat) (f : List D → M D) (ds : List D) : M D := fun S =>
  if k ≤ S.length && (S.take k).all (belowO k) && (ds.map (rk k S 4)).all (below k) then
    match f (ds.map (rk k S 4)) (S.take k) with
    | some (d, S1) => if S1.length = k ∧ (belows k ds = true ∨ (k = 0 ∧ noL d = true)) then some (d, S1 ++ S.drop k) else none
    | none => none
  else none
def mCall (k : Nat) (f : List D → M D) (m : MA) : ME := fun ρ => bnd (m ρ) (callF k f)
def mCallG (f : List D → M D) (m : MA) : ME := fun ρ => bnd (m ρ) f
section
variable {K : PySem.W.Frag} {B : Addr → Prop} {al : List Addr} {H : Hp} {S : Store}
theorem rl_rk {be : List Addr} (R : Rel K B (al ++ be) S H) : ∀ {ds : List D} {vs : List V}, RL K B (al ++ be) H ds vs → (ds.map (rk al.length S 4)).all (below al.length) = true → RL K B al H (ds.map (rk al.length S 4)) vs
  | _, _, .nil, _ => .nil
  | _, _, .cons d v ds vs h r, e => by
    simp only [List.map_cons, List.all_cons, Bool.and_eq_true] at e
    exact .cons _ _ _ _ (rk_rep R 4 h e.1) (rl_rk R r e.2)
theorem map_rk {k : Nat} {ds : List D} (h : belows k ds = true) : ds.map (rk k S 4) = ds := by
  have : ∀ d ∈ ds, rk k S 4 d = d := fun d hd => rk_below S 4 (belows_mem h d hd)
  exact (List.map_congr_left this).trans (List.map_id' ds)
theorem Rel.join {be : List Addr} {S1 : Store} {H' : Hp} {C : Addr → Prop} (R : Rel K B (al ++ be) S H) (R1 : Rel K C al S1 H') (hl : S1.length = al.length) (x : Ex al H al H') (hc : ∀ a, B a ∨ a ∈ be → C a) :
    Rel K B (al ++ be) (S1 ++ S.drop al.length) H' ∧ Ex (al ++ be) H (al ++ be) H' := by
  have hlen := R.len
  simp only [List.length_append] at hlen
  have nd := R.nd
  rw [List.nodup_append] at nd
  have xx : Ex (al ++ be) H (al ++ be) H' := ⟨⟨[], by simp⟩, fun a o e n => ⟨(x.fr a o e fun z => n (List.mem_append_left _ z)).1, n⟩⟩
  refine ⟨⟨by simp only [List.length_append, List.length_drop]; omega, R.nd, fun a h => ?_, fun n a o e1 e2 => ?_⟩, xx⟩
  · obtain ⟨n, o, e⟩ := R.bh a h
    exact ⟨n, o, (x.fr a o e fun z => n (List.mem_append_left _ z)).1⟩
  · by_cases hn : n < al.length
    · rw [List.getElem?_append_left hn] at e1
      rw [List.getElem?_append_left (by omega)] at e2
      exact (R1.ob n a o e1 e2).grow hc
    · rw [List.getElem?_append_right (by omega), List.getElem?_drop, hl, Nat.add_sub_cancel' (by omega)] at e2
      have q := R.ob n a o e1 e2
      have hin : a ∈ be := by
        rw [List.getElem?_append_right (by omega)] at e1
        exact List.mem_of_getElem? e1
      exact q.keep R xx fun w e => (x.fr a w e fun z => nd.2.2 a z a hin rfl).1
end
section
variable {X : Cx} {k kk : Nat} {f : List D → M D} {m : MA} {x : Str} {E : Expr} {n : Nat}
theorem tcall_of (hn : ∀ ρ S ds S', m ρ S = some (ds, S') → ds.length = n) : ∀ σ H Q, tE X.K (mCall k f m) σ H Q → tCall (spF X.K n f) [] E0 (tA X.K m) σ H Q := fun σ H Q ⟨B, al, S, ρ, z, S', R, er, hm, q⟩ => by
  obtain ⟨ds, S1, h1, h2⟩ := bnd_some hm
  refine ⟨B, al, S, ρ, ds, S1, R, er, h1, fun vs al1 H1 R1 x1 r1 => ?_⟩
  show spF X.K n f (vs ++ []) H1 Q E0
  rw [List.append_nil]
  unfold callF at h2
  split at h2
  · rename_i hc
    simp only [Bool.and_eq_true, decide_eq_true_eq] at hc
    obtain ⟨⟨c1, c2⟩, c3⟩ := hc
    split at h2
    · rename_i d S2 h3
      split at h2
      · rename_i h4
        obtain ⟨g1, g2⟩ := h4
        cases h2
        obtain ⟨a1, be, rfl, ha⟩ : ∃ a1 be, al1 = a1 ++ be ∧ a1.length = k := ⟨al1.take k, al1.drop k, (List.take_append_drop k al1).symm, by rw [List.length_take, R1.len]; omega⟩
        subst ha
        have hlen : ∀ (es : List D), es = ds.map (rk a1.length S1 4) → es.length = n := fun es e => by rw [e, List.length_map]; exact hn _ _ _ _ h1
        rcases g2 with g2 | ⟨g2, g3⟩
        · let C : Addr → Prop := fun a => B a ∨ a ∈ be
          have R2 : Rel X.K C a1 (S1.take a1.length) H1 := R1.first c2 fun a z => z
          refine ⟨C, a1, S1.take a1.length, _, _, S2, R2, hlen _ rfl, ?_, h3, fun v H' R3 x3 r3 => ?_⟩
          · rw [map_rk g2]
            exact r1.shrink (fun a z => z) g2
          · obtain ⟨R4, x4⟩ := R1.join R3 g1 x3 fun a z => z
            exact q v (a1 ++ be) H' R4 (x1.trans x4) (r3.grow fun a z => z)
        · have ha0 : a1 = [] := List.eq_nil_of_length_eq_zero g2
          subst ha0
          have R2 : Rel X.K B [] (S1.take 0) H1 := R1.first c2 fun a z => .inl z
          refine ⟨B, [], _, _, _, S2, R2, hlen _ rfl, rl_rk R1 r1 c3, h3, fun v H' R3 x3 r3 => ?_⟩
          have e2 : S2 = [] := List.eq_nil_of_length_eq_zero g1
          subst e2
          have R5 : Rel X.K (fun a => B a ∨ a ∈ be) [] [] H' := ⟨rfl, List.nodup_nil, fun a z => ⟨by simp, (by
            rcases z with z | z
            · exact (R3.bh a z).2
            · obtain ⟨u, hu⟩ := (R1.there (a := a) (by simpa using z)).1
              exact ⟨u, (x3.fr a u hu (by simp)).1⟩)⟩, fun n a o e _ => by simp at e⟩
          obtain ⟨R4, x4⟩ := R1.join R5 rfl x3 fun a z => z
          exact q v ([] ++ be) H' R4 (x1.trans x4) (r3.plain g3)
      · cases h2
    · cases h2
  · cases h2
theorem tcallG_of (hn : ∀ ρ S ds S', m ρ S = some (ds, S') → ds.length = n) : ∀ σ H Q, tE X.K (mCallG f m) σ H Q → tCall (spG X.K n f) [] E0 (tA X.K m) σ H Q := fun σ H Q ⟨B, al, S, ρ, z, S', R, er, hm, q⟩ => by
  obtain ⟨ds, S1, h1, h2⟩ := bnd_some hm
  refine ⟨B, al, S, ρ, ds, S1, R, er, h1, fun vs al1 H1 R1 x1 r1 => ?_⟩
  show spG X.K n f (vs ++ []) H1 Q E0
  rw [List.append_nil]
  exact ⟨B, al1, S1, ds, z, S', R1, hn _ _ _ _ h1, r1, h2, fun v al' H' R' x' r' => q v al' H' R' (x1.trans x') r'⟩
theorem sn_call {p pos : Pos} {e : Expr} {es : List Expr} {j : Nat} (c : Cal X.prog X.w X.K X.mg X.base kk x (spF X.K (e :: es).length f)) (hr : Room j X.A) (hk : kk ≤ j) (hg : Gl X x) (ha : Sa X (e :: es) m) (k : Nat)
    (hdb : (x == ("__debug__" : Str)) = false := by decide) (he : starEach (e :: es) X.env = (false, eval e X.env) :: starEach es X.env := by rfl) (hpl : (backTo pos (starEach es X.env)).any (·.1) = false := by rfl) :
    Sn X (.Call (.Name x p) (e :: es) [] pos) (mCall k f m) := pe_imp (pe_cal c hr hk hg ha.run hdb he hpl) (tcall_of ha.len)
theorem sn_callG {p pos : Pos} {e : Expr} {es : List Expr} {j : Nat} (c : Cal X.prog X.w X.K X.mg X.base kk x (spG X.K (e :: es).length f)) (hr : Room j X.A) (hk : kk ≤ j) (hg : Gl X x) (ha : Sa X (e :: es) m)
    (hdb : (x == ("__debug__" : Str)) = false := by decide) (he : starEach (e :: es) X.env = (false, eval e X.env) :: starEach es X.env := by rfl) (hpl : (backTo pos (starEach es X.env)).any (·.1) = false := by rfl) :
    Sn X (.Call (.Name x p) (e :: es) [] pos) (mCallG f m) := pe_imp (pe_cal c hr hk hg ha.run hdb he hpl) (tcallG_of ha.len)
end
end Z
set_option Elab.async false
set_option linter.all false
set_option maxRecDepth 100000
/-! Methods of lists; isinstance. -/
namespace Z
open PySem L2

def MRS (K : PySem.W.Frag) (r : V → List V → Hp → VK → Prop) (f : D → List D → M D) : Prop := ∀ (B : Addr → Prop) (al : List Addr) (S : Store) (H : Hp) (o : D) (ds : List D) (z : D) (v : V) (vs : List V) (S' : Store), Rel K B al S H → RV K B al H o v → RL K B al H ds vs → f o ds S = some (z, S') →
  ∀ Q : VK, (∀ u al' H', Rel K B al' S' H' → Ex al H al' H' → RV K B al' H' z u → Q u H') → r v vs H Q
/-- a list's method: the list is looked at before the arguments are -/
def mMth (f : D → List D → M D) (mo : ME) (ma : MA) : ME := fun ρ => bnd (mo ρ) fun o => fun S => if (asLC S o).isSome then bnd (ma ρ) (fun ds => f o ds) S else none
def mMth0 (f : D → List D → M D) (mo : ME) : ME := fun ρ => bnd (mo ρ) fun o => fun S => if (asLC S o).isSome then f o [] S else none
section
variable {X : Cx} {f : D → List D → M D} {r : V → List V → Hp → VK → Prop} {mo : ME} {ma : MA}
theorem tyV_list {K : PySem.W.Frag} {B : Addr → Prop} {al : List Addr} {S : Store} {H : Hp} (R : Rel K B al S H) {o : D} {v : V} (h : RV K B al H o v) (e : (asLC S o).isSome = true) : tyV K "list" v H := by
  cases hx : asLC S o with
  | none => rw [hx] at e; cases e
  | some xs =>
    obtain ⟨a, vs, rfl, ha, _⟩ := asLC_rep R h hx
    exact .inl ⟨rfl, vs, ha⟩
theorem bm_of (hr : MRS X.K r f) : ∀ σ H Q, tE X.K (mMth f mo ma) σ H Q → tBM X.K "list" r (tE X.K mo) (tA X.K ma) σ H Q := fun σ H Q ⟨B, al, S, ρ, z, S', R, er, hm, q⟩ => by
  obtain ⟨o, S1, h1, h2⟩ := bnd_some hm
  split at h2
  · rename_i ht
    obtain ⟨ds, S2, h3, h4⟩ := bnd_some h2
    refine ⟨B, al, S, ρ, o, S1, R, er, h1, fun v al1 H1 R1 x1 r1 => ⟨tyV_list R1 r1 ht, B, al1, S1, ρ, ds, S2, R1, er.mono R x1, h3, fun vs al2 H2 R2 x2 r2 => ?_⟩⟩
    exact hr B al2 S2 H2 o ds z v vs S' R2 (r1.mono R1 x2) r2 h4 Q fun u al3 H3 R3 x3 r3 => q u al3 H3 R3 ((x1.trans x2).trans x3) r3
  · cases h2
theorem bm0_of (hr : MRS X.K r f) : ∀ σ H Q, tE X.K (mMth0 f mo) σ H Q → tBM0 X.K "list" r (tE X.K mo) σ H Q := fun σ H Q ⟨B, al, S, ρ, z, S', R, er, hm, q⟩ => by
  obtain ⟨o, S1, h1, h2⟩ := bnd_some hm
  split at h2
  · rename_i ht
    exact ⟨B, al, S, ρ, o, S1, R, er, h1, fun v al1 H1 R1 x1 r1 => ⟨tyV_list R1 r1 ht, hr B al1 S1 H1 o [] z v [] S' R1 r1 .nil h2 Q fun u al3 H3 R3 x3 r3 => q u al3 H3 R3 (x1.trans x3) r3⟩⟩
  · cases h2
theorem sn_mth {E : Expr} (hr : MRS X.K r f) (h : PE X E (tBM X.K "list" r (tE X.K mo) (tA X.K ma))) : Sn X E (mMth f mo ma) := pe_imp h (bm_of hr)
theorem sn_mth0 {E : Expr} (hr : MRS X.K r f) (h : PE X E (tBM0 X.K "list" r (tE X.K mo))) : Sn X E (mMth0 f mo) := pe_imp h (bm0_of hr)
end
section
variable {K : PySem.W.Frag}
def lApp (o : D) (ds : List D) : M D := fun S => match o, ds with
  | .ref n, [d] => match S[n]? with
    | some (.lst xs) => if xs.length < lim then some (.non, S.set n (.lst (xs ++ [d]))) else none
    | _ => none
  | _, _ => none
theorem l_app : MRS K rAppend lApp := fun B al S H o ds z v vs S' R ro rd h Q q => by
  unfold lApp at h
  split at h
  · rename_i n d
    split at h
    · rename_i xs hs
      split at h
      · rename_i hz
        cases h
        cases ro with
        | ref _ a hn =>
          obtain ⟨_, us, hu, ru⟩ := R.look (.ref n a hn) hs
          obtain ⟨y, rfl, ry⟩ := rl_one rd
          refine ⟨a, us, y, rfl, rfl, hu, by rw [← ru.len]; exact lim_lt hz, ?_⟩
          obtain ⟨x, R1⟩ := R.put (o := .lst (us ++ [y])) (u := .lst (xs ++ [d])) hn (fun _ z => nomatch z) fun x => ⟨_, upd_same, (ru.append rd).mono R x⟩
          exact q .non al _ R1 x .non
      · cases h
    · cases h
  · cases h
def lExt (o : D) (ds : List D) : M D := fun S => match o, ds with
  | .ref n, [d] => match S[n]?, asL S d with
    | some (.lst xs), some ys => if xs.length + ys.length ≤ lim then some (.non, S.set n (.lst (xs ++ ys))) else none
    | _, _ => none
  | _, _ => none
theorem l_ext : MRS K rExtend lExt := fun B al S H o ds z v vs S' R ro rd h Q q => by
  unfold lExt at h
  split at h
  · rename_i n d
    split at h
    · rename_i xs ys hs hd
      split at h
      · rename_i hz
        cases h
        cases ro with
        | ref _ a hn =>
          obtain ⟨_, us, hu, ru⟩ := R.look (.ref n a hn) hs
          obtain ⟨y, rfl, ry⟩ := rl_one rd
          obtain ⟨b, ws, rfl, hb, rb⟩ := asL_rep R ry hd
          refine ⟨a, b, us, ws, rfl, rfl, hu, hb, by rw [← ru.len, ← rb.len]; exact lim_le hz, ?_⟩
          obtain ⟨x, R1⟩ := R.put (o := .lst (us ++ ws)) (u := .lst (xs ++ ys)) hn (fun _ z => nomatch z) fun x => ⟨_, upd_same, (ru.append rb).mono R x⟩
          exact q .non al _ R1 x .non
      · cases h
    · cases h
  · cases h
/-- xs.pop(i) -/
def lPop (o : D) (ds : List D) : M D := fun S => match o, ds with
  | .ref n, [.int i] => match S[n]? with
    | some (.lst xs) => match ixN xs.length i with
      | some j => if xs.length ≤ lim then (xs[j]?).map fun y => (y, S.set n (.lst (xs.eraseIdx j))) else none
      | none => none
    | _ => none
  | _, _ => none
theorem RL.erase {B : Addr → Prop} {al : List Addr} {H : Hp} {ds : List D} {vs : List V} (r : RL K B al H ds vs) (i : Nat) : RL K B al H (ds.eraseIdx i) (vs.eraseIdx i) := by
  induction ds generalizing vs i with
  | nil => cases r; exact .nil
  | cons c ds ih =>
    cases r with
    | cons _ _ _ _ g r =>
      cases i with
      | zero => exact r
      | succ i => exact .cons _ _ _ _ g (ih r i)
theorem l_pop : MRS K rPopAt lPop := fun B al S H o ds z v vs S' R ro rd h Q q => by
  unfold lPop at h
  split at h
  · rename_i n i
    split at h
    · rename_i xs hs
      split at h
      · rename_i j hj
        split at h
        · rename_i hz
          cases hy : xs[j]? with
          | none => rw [hy] at h; cases h
          | some y =>
            rw [hy] at h
            cases h
            cases ro with
            | ref _ a hn =>
              obtain ⟨_, us, hu, ru⟩ := R.look (.ref n a hn) hs
              obtain ⟨w, rfl, rw'⟩ := rl_one rd
              cases rw'
              obtain ⟨g1, g2, g3, g4⟩ := ixN_seq hj
              obtain ⟨u, hu2, r2⟩ := ru.get hy
              unfold lim at hz
              refine ⟨a, us, i, j, u, rfl, rfl, hu, by omega, by omega, by rw [← ru.len]; exact g1, hu2, ?_⟩
              obtain ⟨x, R1⟩ := R.put (o := .lst (us.eraseIdx j)) (u := .lst (xs.eraseIdx j)) hn (fun _ z => nomatch z) fun x => ⟨_, upd_same, (ru.erase j).mono R x⟩
              exact q u al _ R1 x (r2.mono R x)
        · cases h
      · cases h
    · cases h
  · cases h
/-! ### isinstance -/
def tyD (S : Store) : D → Option String
  | .non => some "NoneType"
  | .bl _ => some "bool"
  | .int _ => some "int"
  | .str _ => some "str"
  | .tup _ => some "tuple"
  | .lst _ => some "list"
  | .scr _ => none
  | .tpi _ => none
  | .dcf _ => none
  | .tpx _ => some "tuple"
  | .ref n => match S[n]? with
    | some (.lst _) => some "list"
    | some (.dct _) => some "dict"
    | some (.dtt _) => some "dict"
    | none => none
def isiB (t T : String) : Bool := t == T || (t == "bool" && T == "int")
def tysL : List String := ["NoneType", "bool", "int", "str", "tuple", "list", "dict"]
theorem isi_kit {t T : String} (h1 : t ∈ tysL) (h2 : T ∈ ["bool", "int", "str", "tuple", "list", "dict"]) : kitB t T = some (isiB t T) := by
  have : ∀ t ∈ tysL, ∀ T ∈ ["bool", "int", "str", "tuple", "list", "dict"], kitB t T = some (isiB t T) := by decide +kernel
  exact this t h1 T h2
theorem tyD_rep {B : Addr → Prop} {al : List Addr} {S : Store} {H : Hp} (R : Rel K B al S H) {d : D} {v : V} (r : RV K B al H d v) {t : String} (e : tyD S d = some t) : TyX K H v (.type t) ∧ t ∈ tysL := by
  cases r with
  | non => cases e; exact ⟨.base .non, by decide⟩
  | bl b => cases e; exact ⟨.base (.bl b), by decide⟩
  | int i => cases e; exact ⟨.base (.int i), by decide⟩
  | str x => cases e; exact ⟨.base (.str x), by decide⟩
  | tup a ds vs h r => cases e; exact ⟨.base (.tup h), by decide⟩
  | lst a ds vs h r => cases e; exact ⟨.base (.lst h.1), by decide⟩
  | scr a ns h => cases e
  | tpi a ns h => cases e
  | dcf a kvs es h k r => cases e
  | tpx a ds vs h r => cases e; obtain ⟨o, ⟨g, _⟩, _⟩ := h; exact ⟨.fTuple g, by decide⟩
  | ref n a h =>
    simp only [tyD] at e
    cases ho : S[n]? with
    | none => rw [ho] at e; cases e
    | some o =>
      rw [ho] at e
      have q := R.ob n a o h ho
      cases o with
      | lst xs => cases e; obtain ⟨vs, hv, _⟩ := q; exact ⟨.base (.lst hv), by decide⟩
      | dct xs => cases e; obtain ⟨vs, hv, _⟩ := q; exact ⟨.base (.dK hv), by decide⟩
      | dtt xs => cases e; obtain ⟨vs, hv, _⟩ := q; exact ⟨.base (.dT hv), by decide⟩
def mIsi (T : String) (m : ME) : ME := fun ρ => bnd (m ρ) fun d => fun S => (tyD S d).map fun t => (.bl (isiB t T), S)
theorem sn_isi {X : Cx} {e : Expr} {m : ME} {T : String} {p p2 pos : Pos} {x : Str} (hT : T ∈ ["bool", "int", "str", "tuple", "list", "dict"]) (he : Sn X e m)
    (h : PE X (.Call (.Name "isinstance" p) [e, .Name x p2] [] pos) (tCB (rIsi X.K) (tCons (tE X.K m) (tCons (tC (.ty T)) tNil)))) : Sn X (.Call (.Name "isinstance" p) [e, .Name x p2] [] pos) (mIsi T m) := pe_imp h fun σ H Q ⟨B, al, S, ρ, z, S', R, er, hm, q⟩ => by
  obtain ⟨d, S1, h1, h2⟩ := bnd_some hm
  cases ht : tyD S1 d with
  | none => rw [ht] at h2; cases h2
  | some t =>
    rw [ht] at h2
    cases h2
    refine ⟨B, al, S, ρ, d, _, R, er, h1, fun v al1 H1 R1 x1 r1 => ?_⟩
    obtain ⟨g1, g2⟩ := tyD_rep R1 r1 ht
    exact ⟨v, .ty T, .type t, .type T, isiB t T, rfl, .ty T, g1, kit_ty (isi_kit g2 hT), q _ al1 H1 R1 x1 (.bl _)⟩
end

/-! ### a slice of a list or a tuple -/
def mSl (m : ME) (lo hi : Env → M (Option Int)) : ME := fun ρ => bnd (m ρ) fun d => bnd (lo ρ) fun l => bnd (hi ρ) fun h => fun S => match d with
  | .tup xs => some (.tup (cutD xs l h), S)
  | d => (asL S d).map fun xs => (.lst (cutD xs l h), S)
section
variable {X : Cx}
theorem sn_sl {e : Expr} {lo hi : Option Expr} {m : ME} {ml mh : Env → M (Option Int)} {p2 pos : Pos} (he : Sn X e m) (hl : So X lo ml) (hh : So X hi mh) : Sn X (.Subscript e (.Slice lo hi none p2) pos) (mSl m ml mh) :=
  pe_imp (pe_slice (sl_tupA.or sl_list) he hl.run hh.run) fun σ H Q ⟨B, al, S, ρ, d', S', R, er, hm, q⟩ => by
    obtain ⟨d, S1, h1, h2⟩ := bnd_some hm
    obtain ⟨l, S2, h3, h4⟩ := bnd_some h2
    obtain ⟨u, S3, h5, h6⟩ := bnd_some h4
    refine ⟨B, al, S, ρ, d, S1, R, er, h1, fun v al1 H1 R1 x1 r1 => ⟨B, al1, S1, ρ, l, S2, R1, er.mono R x1, h3, fun l' al2 H2 R2 x2 e2 => ?_⟩⟩
    subst e2
    refine ⟨B, al2, S2, ρ, u, S3, R2, (er.mono R x1).mono R1 x2, h5, fun u' al3 H3 R3 x3 e3 => ?_⟩
    subst e3
    have r3 := (r1.mono R1 x2).mono R2 x3
    have xx := (x1.trans x2).trans x3
    have lists : ∀ xs, asL S3 d = some xs → (some (D.lst (cutD xs l u), S3) = some (d', S')) → rSlL X.K v l u H3 Q := fun xs hx e => by
      cases e
      obtain ⟨a, vs, rfl, ha, ra⟩ := asL_rep R3 r3 hx
      refine ⟨a, vs, rfl, .of ha, fun p hp => ?_⟩
      obtain ⟨R4, x4, r4⟩ := lst_side R3 hp (ra.cut l u)
      exact q _ al3 _ R4 (xx.trans x4) r4
    cases r3 with
    | tup a xs vs ha ra =>
      cases h6
      refine .inl ⟨a, vs, rfl, .of ha, fun hw => ?_, fun _ p hp => ?_⟩
      · have e0 : cutD xs l u = xs := by
          unfold cutD
          rw [ra.len, hw.1, hw.2, List.drop_zero, Nat.sub_zero]
          exact List.take_of_length_le (by rw [ra.len]; exact Nat.le_refl _)
        rw [e0] at q
        exact q _ al3 H3 R3 xx (.tup a _ vs ha ra)
      · obtain ⟨x4, R4⟩ := R3.side (o := .tup (cutV vs l u)) hp
        exact q _ al3 _ R4 (xx.trans x4) (.tup p _ _ upd_same ((ra.cut l u).mono R3 x4))
    | lst a ds vs ha ra => exact .inr (lists ds rfl (by simpa [asL] using h6))
    | ref n a ha =>
      cases hx : asL S3 (.ref n) with
      | none => simp only [hx] at h6; cases h6
      | some xs => exact .inr (lists xs hx (by simpa [hx] using h6))
    | _ => simp [asL] at h6
/-! ### xs[i], ys[j] = v, w -/
def putL (o i v : D) (S : Store) : Option Store := match o, i with
  | .ref n, .int k => match S[n]? with
    | some (.lst xs) => (ixN xs.length k).map fun j => S.set n (.lst (xs.set j v))
    | _ => none
  | _, _ => none
def mSwap (o1 i1 o2 i2 mv : ME) : MS := fun ρ S => match mv ρ S with
  | some (.tup [v1, v2], S1) => match o1 ρ S1 with
    | none => none
    | some (a1, S2) => match i1 ρ S2 with
      | none => none
      | some (k1, S3) => match putL a1 k1 v1 S3 with
        | none => none
        | some S4 => match o2 ρ S4 with
          | none => none
          | some (a2, S5) => match i2 ρ S5 with
            | none => none
            | some (k2, S6) => (putL a2 k2 v2 S6).map fun S7 => (.nx ρ, S7)
  | _ => none
theorem putL_rep {K : PySem.W.Frag} {B : Addr → Prop} {al : List Addr} {S S' : Store} {H : Hp} {o i v : D} {vo vi vv : V} (R : Rel K B al S H) (ro : RV K B al H o vo) (ri : RV K B al H i vi) (rv : RV K B al H v vv) (h : putL o i v S = some S') {Q : Hp → Prop}
    (q : ∀ H', Rel K B al S' H' → Ex al H al H' → Q H') : rSetL vo vi vv H Q := by
  unfold putL at h
  split at h
  · rename_i n k
    split at h
    · rename_i xs hs
      cases hj : ixN xs.length k with
      | none => rw [hj] at h; cases h
      | some j =>
        rw [hj] at h
        cases h
        cases ri
        cases ro with
        | ref _ a hn =>
          obtain ⟨_, us, hu, ru⟩ := R.look (.ref n a hn) hs
          obtain ⟨x, R1⟩ := R.put (o := .lst (us.set j vv)) (u := .lst (xs.set j v)) hn (fun _ z => nomatch z) fun x => ⟨_, upd_same, (ru.set rv j).mono R x⟩
          exact ⟨a, us, k, j, rfl, rfl, hu, by rw [← ru.len]; exact hj, q _ R1 x⟩
    · cases h
  · cases h
theorem swap_of {W : Str → Hp → Prop} {o1 i1 o2 i2 mv : ME} : ∀ D σ H, tS X.K W (mSwap o1 i1 o2 i2 mv) D σ H → tAsg (tE X.K mv) (gTup X.K 2 (gCons (gSub (tE X.K o1) (tE X.K i1) rSetL) (gCons (gSub (tE X.K o2) (tE X.K i2) rSetL) gNil))) D σ H := fun D σ H ⟨B, al, S, ρ, o, S', R, er, hm, p⟩ => by
  unfold mSwap at hm
  split at hm
  · rename_i v1 v2 S1 h1
    split at hm
    · cases hm
    · rename_i a1 S2 h2
      split at hm
      · cases hm
      · rename_i k1 S3 h3
        split at hm
        · cases hm
        · rename_i S4 h4
          split at hm
          · cases hm
          · rename_i a2 S5 h5
            split at hm
            · cases hm
            · rename_i k2 S6 h6
              cases h7 : putL a2 k2 v2 S6 with
              | none => rw [h7] at hm; cases hm
              | some S7 =>
                rw [h7] at hm
                cases hm
                refine ⟨B, al, S, ρ, _, S1, R, er, h1, fun v al1 H1 R1 x1 r1 => ?_⟩
                cases r1 with
                | tup a _ vs ha ra =>
                  obtain ⟨u1, u2, rfl, ru1, ru2⟩ := rl_two ra
                  have er1 := er.mono R x1
                  refine ⟨a, [u1, u2], rfl, .of ha, rfl, u1, [u2], rfl, B, al1, S1, ρ, a1, S2, R1, er1, h2, fun w1 al2 H2 R2 x2 q1 => ⟨B, al2, S2, ρ, k1, S3, R2, er1.mono R1 x2, h3, fun w2 al3 H3 R3 x3 q2 => ?_⟩⟩
                  refine putL_rep R3 (q1.mono R2 x3) q2 ((ru1.mono R1 x2).mono R2 x3) h4 fun H4 R4 x4 => ?_
                  have er4 := ((er1.mono R1 x2).mono R2 x3).mono R3 x4
                  have ru2' := ((ru2.mono R1 x2).mono R2 x3).mono R3 x4
                  refine ⟨u2, [], rfl, B, al3, S4, ρ, a2, S5, R4, er4, h5, fun w3 al5 H5 R5 x5 q3 => ⟨B, al5, S5, ρ, k2, S6, R5, er4.mono R4 x5, h6, fun w4 al6 H6 R6 x6 q4 => ?_⟩⟩
                  refine putL_rep R6 (q3.mono R5 x6) q4 ((ru2'.mono R4 x5).mono R5 x6) h7 fun H7 R7 x7 => ?_
                  exact ⟨rfl, p σ al6 H7 R7 ((((((x1.trans x2).trans x3).trans x4).trans x5).trans x6).trans x7) (((er4.mono R4 x5).mono R5 x6).mono R6 x7)⟩
  · cases hm
end

def mNeg (m : ME) : ME := fun ρ => bnd (m ρ) fun d => match d with
  | .int i => ret (.int (-i))
  | _ => fail
theorem sn_neg {X : Cx} {e : Expr} {m : ME} {pos : Pos} (h : Sn X e m) : Sn X (.UnaryOp .USub e pos) (mNeg m) := pe_imp (pe_un un_neg h) fun σ H Q ⟨B, al, S, ρ, z, S', R, er, hm, q⟩ => by
  obtain ⟨d, S1, h1, h2⟩ := bnd_some hm
  split at h2
  · obtain ⟨rfl, rfl⟩ := ret_some h2
    exact ⟨B, al, S, ρ, _, S1, R, er, h1, fun v al1 H1 R1 x1 r1 => by cases r1; exact ⟨_, rfl, q _ al1 H1 R1 x1 (.int _)⟩⟩
  · cases h2
end Z
set_option Elab.async false
set_option linter.all false
set_option maxRecDepth 100000
/-! Comprehensions of two fors. -/
namespace Z
open PySem L2
theorem walk_gen {J : It} {n : Nat} {G : Hp → Prop} {Y : Nat → Hp → V → Hp → Prop} (w : Walk J n G Y) {Step : V → Hp → (Hp → Prop) → Prop} {H0 : Hp} {Qd : Hp → Prop} (Pv : Nat → Hp → Prop) (h0 : Pv 0 H0) (hG : ∀ i H, i ≤ n → Pv i H → G H)
    (hs : ∀ i x H H', i < n → Pv i H → Y i H x H' → Step x H' (Pv (i + 1))) (hd : ∀ H, Pv n H → Qd H) :
    ∃ W : Nat → Nat → Hp → Prop, (∃ m, W 0 m H0) ∧ ∀ i m H, W i m H → (J.stop i H ∧ Qd H) ∨ (J.go i H ∧ ∃ Nx : Hp → Prop, (∀ H', Nx H' → ∃ m', m' < m ∧ W (i + 1) m' H') ∧ ∀ x H', J.yld i H x H' → Step x H' Nx) := by
  refine ⟨fun i m H => m + i = n ∧ Pv i H, ⟨n, rfl, h0⟩, fun i m H ⟨e, p⟩ => ?_⟩
  have q := hG i H (by omega) p
  cases m with
  | zero =>
    obtain rfl : i = n := by omega
    exact .inl ⟨w.stops H q, hd H p⟩
  | succ m =>
    have hi : i < n := by omega
    exact .inr ⟨w.goes i H hi q, Pv (i + 1), fun H' p' => ⟨m, by omega, by omega, p'⟩, fun x H' y => hs i x H H' hi p (w.yields i H x H' hi q y)⟩
def mLcLL (vs : List Nat) (g : Tg) (ok : Store → Bool) (t : MT) (body : Env → M (List D)) (ρ : Env) : List D → M (List D)
  | [], S => if ok S then some ([], S) else none
  | d :: ds, S => if ok S then match g.put d (wipeD ρ vs) with
      | none => none
      | some ρ1 => match t ρ1 S with
        | none => none
        | some (true, S1) => match body ρ1 S1 with
          | none => none
          | some (ys, S2) => match mLcLL vs g ok t body ρ ds S2 with
            | none => none
            | some (zs, S3) => some (ys ++ zs, S3)
        | some (false, S1) => mLcLL vs g ok t body ρ ds S1
    else none
/-- the inner for -/
def mIn (vs1 : List Nat) (g1 : Tg) (it1 : MI) (t1 : MT) (e : ME) : Env → M (List D) := fun ρ S => match it1 ρ S with
  | some ((xs, ok), S1) => mLcL vs1 g1 ok t1 e ρ xs S1
  | none => none
def mLc2 (vs vs1 : List Nat) (g : Tg) (it : MI) (t : MT) (g1 : Tg) (it1 : MI) (t1 : MT) (e : ME) : MA := fun ρ S => match it ρ S with
  | some ((xs, ok), S1) => match mLcLL vs g ok t (mIn vs1 g1 it1 t1 e) ρ xs S1 with
    | some (ys, S2) => if ys.length ≤ lim then some (ys, S2) else none
    | none => none
  | none => none
section
variable {X : Cx} {vs vs1 : List Nat} {g g1 : Tg} {it it1 : MI} {t t1 : MT} {e : ME}
theorem lcLL_ok {ok : Store → Bool} {body : Env → M (List D)} {ρ : Env} {ds : List D} {S : Store} {r} (h : mLcLL vs g ok t body ρ ds S = some r) : ok S = true := by
  cases ds <;> unfold mLcLL at h <;> (split at h; assumption; cases h)
theorem lc2_of (hv : ∀ i ∈ g.slots, i ∈ vs) (hv1 : ∀ i ∈ g1.slots, i ∈ vs1) (hv2 : ∀ i ∈ vs1, i ∈ vs) : ∀ σ H Q, tF X.K (mLc2 vs vs1 g it t g1 it1 t1 e) σ H Q → tLc2 (tW X.K it) (tTg X.K g) (tT X.K t) (tW X.K it1) (tTg X.K g1) (tT X.K t1) (tE X.K e) vs vs1 σ H Q := fun σ H Q ⟨B, al, S, ρ, ys, S', R, er, hm, q⟩ => by
  unfold mLc2 at hm
  split at hm
  · rename_i xs ok S1 h1
    split at hm
    · rename_i zs S2 h2
      split at hm
      · rename_i hz
        cases hm
        refine ⟨B, al, S, ρ, xs, ok, S1, R, er, h1, fun J al1 H1 R1 x1 ⟨G, Y, w, hG, hY⟩ => fun Dl hD => ?_⟩
        have h0 : H Dl = none := fresh_al x1 (R1.fresh hD) hD
        obtain ⟨xb, Rb⟩ := R1.ban (o := .lst []) hD
        have er1 : ER X.K (Bp B Dl) al1 H1 ρ σ := (er.mono R x1).ban hD
        let Pv : Nat → Hp → Prop := fun i H2 => ∃ al2 S2 acc vacc rest, Rel X.K (Bp B Dl) al2 S2 H2 ∧ Ex al1 H1 al2 H2 ∧ H2 Dl = some (.lst vacc) ∧ RL X.K (Bp B Dl) al2 H2 acc vacc ∧ mLcLL vs g ok t (mIn vs1 g1 it1 t1 e) ρ (xs.drop i) S2 = some (rest, S') ∧ acc ++ rest = ys
        refine walk_gen w Pv ⟨al1, S1, [], [], ys, Rb, xb, upd_same, .nil, h2, rfl⟩ ?_ ?_ ?_
        · rintro i H2 hi ⟨al2, S2, acc, vacc, rest, R2, x2, hd2, ra, h3, h4⟩
          exact hG _ al2 S2 H2 R2 x2.toB (lcLL_ok h3)
        · rintro i x H2 H3 hi ⟨al2, S2, acc, vacc, rest, R2, x2, hd2, ra, h3, h4⟩ hy
          rw [List.drop_eq_getElem_cons hi] at h3
          unfold mLcLL at h3
          split at h3
          · rename_i hk
            split at h3
            · cases h3
            · rename_i ρ3 hp
              obtain ⟨R3, x3, rv⟩ := hY (Bp B Dl) i al2 S2 H2 x H3 xs[i] bp_less R2 x2.toB (fun d v r => (r.ban hD).monoN R1.nt x2) (by simp [hi]) hk hy
              have nd2 : Dl ∉ al2 := (R2.bh Dl (.inr rfl)).1
              refine ⟨Bp B Dl, al2, S2, wipeD ρ vs, ρ3, xs[i], R3, ((er1.monoN R1.nt x2).wipe vs).mono R2 x3, rv, hp, fun σ3 er3 hw => ⟨(hw vs hv).trans wipe_wipe, ?_⟩⟩
              have hd3 := (x3.fr Dl _ hd2 nd2).1
              have ra3 := ra.mono R2 x3
              split at h3
              · cases h3
              · rename_i S4 h5
                split at h3
                · cases h3
                · rename_i y1 S5 h6
                  split at h3
                  · cases h3
                  · rename_i zs S6 h7
                    cases h3
                    refine ⟨Bp B Dl, al2, S2, ρ3, true, S4, R3, er3, h5, fun k al4 H4 R4 x4 ek => ?_⟩
                    subst ek
                    rw [if_pos rfl]
                    unfold mIn at h6
                    split at h6
                    · rename_i xs1 ok1 S40 h60
                      refine ⟨Bp B Dl, al4, S4, ρ3, xs1, ok1, S40, R4, er3.mono R3 x4, h60, fun J1 al5 H5 R5 x5 ⟨G1, Y1, w1, hG1, hY1⟩ => ?_⟩
                      have hd4 := x4.fr Dl _ hd3 nd2
                      have hd5 := x5.fr Dl _ hd4.1 hd4.2
                      have ra5 := (ra3.mono R3 x4).mono R4 x5
                      have er5 := (er3.mono R3 x4).mono R4 x5
                      have x15 := ((x2.trans x3).trans x4).trans x5
                      let Pw : Nat → Hp → Prop := fun j H6 => ∃ al6 S6 acc6 vacc6 rest6, Rel X.K (Bp B Dl) al6 S6 H6 ∧ ExB (Bp B Dl) al5 H5 al6 H6 ∧ Ex al1 H1 al6 H6 ∧ H6 Dl = some (.lst vacc6) ∧ RL X.K (Bp B Dl) al6 H6 acc6 vacc6 ∧ mLcL vs1 g1 ok1 t1 e ρ3 (xs1.drop j) S6 = some (rest6, S5) ∧ acc6 ++ rest6 = acc ++ y1
                      refine walk_gen w1 Pw ⟨al5, S40, acc, vacc, y1, R5, Ex.refl.toB, x15, hd5.1, ra5, h6, rfl⟩ ?_ ?_ ?_
                      · rintro j H6 hj ⟨al6, S6, acc6, vacc6, rest6, R6, x6, x16, hd6, ra6, h8, h9⟩
                        exact hG1 _ al6 S6 H6 R6 x6 (lcL_ok h8)
                      · rintro j y H6 H7 hj ⟨al6, S6, acc6, vacc6, rest6, R6, x6, x16, hd6, ra6, h8, h9⟩ hy1
                        rw [List.drop_eq_getElem_cons hj] at h8
                        unfold mLcL at h8
                        split at h8
                        · rename_i hk1
                          split at h8
                          · cases h8
                          · rename_i ρ7 hp7
                            obtain ⟨R7, x7, rv7⟩ := hY1 (Bp B Dl) j al6 S6 H6 y H7 xs1[j] (fun _ z => z) R6 x6 (fun d v r => r.monoB R5.nt x6) (by simp [hj]) hk1 hy1
                            have nd6 : Dl ∉ al6 := (R6.bh Dl (.inr rfl)).1
                            have hd7 := x7.fr Dl _ hd6 nd6
                            refine ⟨Bp B Dl, al6, S6, wipeD ρ3 vs1, ρ7, xs1[j], R7, ((er5.monoB R5.nt x6).wipe vs1).mono R6 x7, rv7, hp7, fun σ8 er8 hw8 => ⟨(hw8 vs1 hv1).trans wipe_wipe, ?_⟩⟩
                            have ra7 := ra6.mono R6 x7
                            split at h8
                            · cases h8
                            · rename_i S8 g5
                              split at h8
                              · cases h8
                              · rename_i y8 S9 g6
                                split at h8
                                · cases h8
                                · rename_i zs8 S10 g7
                                  cases h8
                                  refine ⟨Bp B Dl, al6, S6, ρ7, true, S8, R7, er8, g5, fun k al8 H8 R8 x8 ek => ?_⟩
                                  subst ek
                                  rw [if_pos rfl]
                                  refine ⟨Bp B Dl, al8, S8, ρ7, y8, S9, R8, er8.mono R7 x8, g6, fun v al9 H9 R9 x9 r9 => ⟨vacc6, ?_, ?_, ?_⟩⟩
                                  · exact (x9.fr Dl _ (x8.fr Dl _ hd7.1 hd7.2).1 (x8.fr Dl _ hd7.1 hd7.2).2).1
                                  · have e1 := ra6.len
                                    have e2 : ys.length = acc.length + (y1.length + zs.length) := by rw [← h4]; simp
                                    have e3 : acc6.length + (zs8.length + 1) = acc.length + y1.length := by
                                      have := congrArg List.length h9
                                      simpa using this
                                    exact lim_lt (by omega)
                                  · have hd9 := (x9.fr Dl _ (x8.fr Dl _ hd7.1 hd7.2).1 (x8.fr Dl _ hd7.1 hd7.2).2).1
                                    refine ⟨al9, S9, acc6 ++ [y8], vacc6 ++ [v], zs8, R9.poke (.inr rfl) hd9, (((x6.step x7).step x8).step x9).poke (.inr rfl) hd9, ((((x16.trans x7).trans x8).trans x9)).poke hD, upd_same, ?_, g7, by rw [List.append_assoc]; exact h9⟩
                                    exact (((ra7.mono R7 x8).mono R8 x9).append (.cons _ _ _ _ r9 .nil)).poke (.inr rfl) hd9
                            · rename_i S8 g5
                              refine ⟨Bp B Dl, al6, S6, ρ7, false, S8, R7, er8, g5, fun k al8 H8 R8 x8 ek => ?_⟩
                              subst ek
                              exact ⟨al8, S8, acc6, vacc6, rest6, R8, (x6.step x7).step x8, (x16.trans x7).trans x8, (x8.fr Dl _ hd7.1 hd7.2).1, ra7.mono R7 x8, h8, h9⟩
                        · cases h8
                      · rintro H6 ⟨al6, S6, acc6, vacc6, rest6, R6, x6, x16, hd6, ra6, h8, h9⟩
                        rw [List.drop_length] at h8
                        unfold mLcL at h8
                        split at h8
                        · cases h8
                          rw [List.append_nil] at h9
                          subst h9
                          exact ⟨al6, _, acc ++ y1, vacc6, zs, R6, x16, hd6, ra6, h7, by rw [List.append_assoc]; exact h4⟩
                        · cases h8
                    · cases h6
              · rename_i S4 h5
                refine ⟨Bp B Dl, al2, S2, ρ3, false, S4, R3, er3, h5, fun k al4 H4 R4 x4 ek => ?_⟩
                subst ek
                exact ⟨al4, S4, acc, vacc, rest, R4, (x2.trans x3).trans x4, (x4.fr Dl _ hd3 nd2).1, ra3.mono R3 x4, h3, h4⟩
          · cases h3
        · rintro H2 ⟨al2, S2, acc, vacc, rest, R2, x2, hd2, ra, h3, h4⟩
          rw [List.drop_length] at h3
          unfold mLcLL at h3
          split at h3
          · cases h3
            rw [List.append_nil] at h4
            subst h4
            exact q Dl vacc al2 H2 R2 (x1.trans x2) h0 hd2 ra
          · cases h3
      · cases hm
    · cases hm
  · cases hm
theorem sn_lc2 {elt tg iter tg1 iter1 : Expr} {ifs ifs1 : List Expr} {scope : Scope} {own : List (Str × Nat)} {pos : Pos} (vs1 : List Nat) (hc : X.calm = true) (hN : X.N.Nodup) (hi : Si X tg iter it) (ok : BlkOk X.N X.env.scope scope own) (hw : ∀ i ∈ vs1, i ∈ own.map (·.2))
    (hg : ∀ (s : Shared) (H : Hp) (C : Addr) (cl : List (Str × Addr)) (fp : List Addr), Sg (X.blk s H scope (compEnvC scope cl C X.env) fp) tg g)
    (ht : ∀ (s : Shared) (H : Hp) (C : Addr) (cl : List (Str × Addr)) (fp : List Addr), PTs (X.blk s H scope (compEnvC scope cl C X.env) fp) ifs (tT X.K t))
    (hi1 : ∀ (s : Shared) (H : Hp) (C : Addr) (cl : List (Str × Addr)) (fp : List Addr), Si (X.blk s H scope (compEnvC scope cl C X.env) fp) tg1 iter1 it1)
    (hg1 : ∀ (s : Shared) (H : Hp) (C : Addr) (cl : List (Str × Addr)) (fp : List Addr), Sg (X.blk s H scope (compEnvC scope cl C X.env) fp) tg1 g1)
    (ht1 : ∀ (s : Shared) (H : Hp) (C : Addr) (cl : List (Str × Addr)) (fp : List Addr), PTs (X.blk s H scope (compEnvC scope cl C X.env) fp) ifs1 (tT X.K t1))
    (he : ∀ (s : Shared) (H : Hp) (C : Addr) (cl : List (Str × Addr)) (fp : List Addr), Sn (X.blk s H scope (compEnvC scope cl C X.env) fp) elt e)
    (hv : ∀ i ∈ g.slots, i ∈ own.map (·.2)) (hv1 : ∀ i ∈ g1.slots, i ∈ vs1) (hs : ∀ x, foldedSetIterable iter X.env x = pure x := by intro _; rfl) (hs1 : ∀ env x, foldedSetIterable iter1 env x = pure x := by intro _ _; rfl) :
    SnF X (.ListComp elt [⟨tg, iter, ifs, 0⟩, ⟨tg1, iter1, ifs1, 0⟩] scope pos) (mLc2 (own.map (·.2)) vs1 g it t g1 it1 t1 e) :=
  pe_imp (pe_lc2 (wi1 := tW X.K it1) (g := tTg X.K g) (tt := tT X.K t) (g1 := tTg X.K g1) (tt1 := tT X.K t1) (te := tE X.K e) (vs1 := vs1) hc hN hi ok hw hg ht hi1 hg1 ht1 he hs hs1) (lc2_of hv hv1 hw)
end
end Z
set_option Elab.async false
set_option linter.all false
set_option maxRecDepth 100000
/-! sorted of a tuple. -/
namespace SrtO
open PySem PyProof.Rows Srt
section
variable {prog : Program} {w : World} {A : Around} {E : Value → Shared → Prop} {s : Shared}
theorem tup_collect {t : Addr} {zs : List Value} {F : List Value → Shared → Prop} (ht : IsTup s.heap t zs.toArray) (hz : zs.length ≤ sizeLine)
    (q : F zs { s with heap := (s.heap.push (seqObj "list" #[] 0)).update s.heap.objs.size (Obj.mapSeq (· ++ zs.toArray)) }) : wpAny (model prog w) A (collect (.ref t)) F E s := by
  obtain ⟨ob, g1, g2, k, g3⟩ := id (show s.heap.IsTuple t zs.toArray from ht)
  have g4 : (s.heap.push (seqObj "list" #[] 0)).get? t = some ob := Heap.get?_push_of_some _ g1
  have new : (s.heap.push (seqObj "list" #[] 0)).get? s.heap.objs.size = some (seqObj "list" #[] 0) := Heap.get?_push_size _ rfl
  have room : (#[] ++ zs.toArray).size ≤ sizeLine + 1 := by
    rw [Array.size_append, List.size_toArray]
    exact Nat.le_trans (by simp) (Nat.le_succ_of_le hz)
  unfold collect
  refine wpAny_bind (wpAny_runValue (codeAny_builtin entry_proto_collect' (?_ : wpAny _ _ (do again (.builtin "list.__iadd__" ⟨[← newList [], .ref t], []⟩)) _ _ s)))
  refine wpAny_bind (wpAny_newList (wpAny_pure ⟨Code.quiet_builtin _ (by decide +kernel), codeAny_builtin entry_list_iadd' (?_ : wpAny _ _ (Builtin.List.listExtendWith (.ref s.heap.objs.size) (.ref t) (.ref s.heap.objs.size)) _ _ { s with heap := s.heap.push (seqObj "list" #[] 0) })⟩))
  unfold Builtin.List.listExtendWith
  refine wpAny_bind (wpAny_typeOf (T := "tuple") ⟨ob, g4, g2⟩ ?_)
  rw [if_pos (by rw [show (Value.type "tuple" == Value.type "tuple") = true by rfl, Bool.or_true])]
  refine wpAny_bind (listItems_at g4 g3 (wpAny_bind (listItems_at (xs := #[]) (n := 0) new rfl ?_)))
  rw [if_neg (by simp)]
  refine wpAny_bind (listUpdate_at (xs := #[]) (n := 0) new rfl (wpAny_pure ?_) (Nat.zero_le _) room)
  refine (wpAny_bind (wpAny_load (get?_update_seq new _) ?_) : wpAny (model prog w) A (do
      match (← load s.heap.objs.size).data with
      | .seq xs _ => pure xs.toList
      | _ => unsupported "internal:collect") F E { s with heap := (s.heap.push (seqObj "list" #[] 0)).update s.heap.objs.size (Obj.mapSeq (· ++ zs.toArray)) })
  refine wpAny_pure (?_ : F ((#[] : Array Value) ++ zs.toArray).toList _)
  have e : ((#[] : Array Value) ++ zs.toArray).toList = zs := by simp
  rw [e]
  exact q
/-- sorted of a tuple of whole numbers -/
theorem tup_sorted {t : Addr} {zs : List Value} {ns : List Int} {F : Value → Shared → Prop} (ht : IsTup s.heap t zs.toArray) (hz : zs.length ≤ sizeLine) (hi : IntsAre zs ns)
    (q : ∀ out : List Value, Srtd ltIv out → Stb ltIv out zs → F (.ref (s.heap.objs.size + 1)) { s with heap := sortedAll s.heap zs out.toArray }) : wpAny (model prog w) A (call (.builtin "sorted") [.ref t]) F E s := by
  refine Calls.call_function_entry kind_sorted plain_sorted entry_sorted (args_sorted1 _) ?_
  unfold Builtin.«sorted»
  let h1 : Heap := (s.heap.push (seqObj "list" #[] 0)).update s.heap.objs.size (Obj.mapSeq (· ++ zs.toArray))
  have n1 : h1.objs.size = s.heap.objs.size + 1 := (Heap.size_update _ _ _).trans (size_push' ..)
  have top : (h1.push (seqObj "list" zs.toArray 0)).get? (s.heap.objs.size + 1) = some (seqObj "list" zs.toArray 0) := n1 ▸ Heap.get?_push_size _ rfl
  refine wpAny_bind (m := checkCount "sorted" 1 1 _) (wpAny_pure (wpAny_bind (tup_collect ht hz (wpAny_bind (wpAny_newList (?_ : wpAny _ _ _ _ _ { s with heap := h1.push (seqObj "list" zs.toArray 0) }) hz)))))
  change wpAny _ _ _ _ _ _
  have e0 : ((s.heap.push (seqObj "list" #[] 0)).update s.heap.objs.size (Obj.mapSeq (· ++ zs.toArray))).objs.size = s.heap.objs.size + 1 := n1
  dsimp only
  rw [e0]
  refine wpAny_bind (wpAny_holding (wpAny_call_entry slot_list_sort ⟨_, top, rfl⟩ entry_list_sort (list_sort_ord swo_int top hz (fun h2 => ints_sortable hi h2) fun out a b => ⟨_, rfl, ?_⟩) (args_list_sort _)))
  exact wpAny_pure ⟨_, rfl, q out a b⟩
end
end SrtO
namespace L2
open PySem PySem.Spec PyProof.Rows
def rSortedTup (K : PySem.W.Frag) : List V → Hp → VK → Prop := fun vs H Q => ∃ (a : Addr) (ns : List Int), vs = [V.ref a] ∧ SqT K H a (ns.map V.int) ∧
  ∀ (ns' : List Int) (p : Addr), ns'.Perm ns → ns'.Pairwise (· ≤ ·) → H p = none → Q (.ref p) (upd H p (.lst (ns'.map V.int)))
theorem cr_sortedTup {X : Cx} : CallR X (.builtin "sorted") (rSortedTup X.K) := fun pins s σ H vs us Q I r ⟨a, ns, e, ht, q⟩ => by
  subst e
  obtain ⟨its, rv, hl, hz⟩ := I.tuple ht
  have hi := rv.ints
  have nz : (ns.map V.int).length = its.length := rv.length
  rw [Vals.ref1 r]
  refine SrtO.tup_sorted hl (by omega) hi fun out h1 h2 => ?_
  obtain ⟨k1, k2, k3⟩ := SrtO.ints_out hi h1 h2
  obtain ⟨ep, g⟩ := PyProof.Rows.sortedAll_at s.heap its out.toArray
  have hlen : ((out.map SrtO.iv).map V.int).length ≤ sizeLine := by
    have := k2.length_eq
    simp only [List.length_map] at hz this ⊢
    omega
  refine ⟨V.ref _, upd H (s.heap.objs.size + 1) (.lst ((out.map SrtO.iv).map V.int)), ?_, rfl, q _ _ k2 k3 (I.hok.fresh (Nat.le_succ _))⟩
  exact I.laid (t' := s.toks) (fun _ _ => PyProof.Rows.sortedAll_old) (Nat.le_succ _) ⟨hlen, out, ep, vals_of_ints k1, g⟩
/-- sorted of ints, in a list or in a tuple -/
def rSortedQ (K : PySem.W.Frag) : List V → Hp → VK → Prop := fun vs H Q => rSortedI K vs H Q ∨ rSortedTup K vs H Q
theorem cr_sortedQ {X : Cx} : CallR X (.builtin "sorted") (rSortedQ X.K) := cr_sortedI.or cr_sortedTup
end L2
namespace Z
open PySem L2
def cSortQ (ds : List D) : M (List D) := fun S => match ds with
  | [d] => ((asSq S d).bind intsOf).map fun ns => ((srtI ns).map .int, S)
  | _ => none
theorem c_sortQ {K : PySem.W.Frag} : CRF K (rSortedQ K) cSortQ := fun B al S H ds z vs S' R r1 h Q q => by
  unfold cSortQ at h
  split at h
  · rename_i d
    cases hx : asSq S d with
    | none => rw [hx] at h; cases h
    | some xs =>
      rw [hx, Option.bind_some] at h
      cases hy : intsOf xs with
      | none => rw [hy] at h; cases h
      | some ns =>
        rw [hy] at h
        cases h
        obtain ⟨v, rfl, rv⟩ := rl_one r1
        obtain ⟨a, us, rfl, ha, ra⟩ := asSq_rep R rv hx
        obtain ⟨e, _⟩ := ints_rep ra hy
        subst e
        have fin : ∀ (ns' : List Int) (p : Addr), ns'.Perm ns → ns'.Pairwise (· ≤ ·) → H p = none → Q (.ref p) (upd H p (.lst (ns'.map V.int))) := fun ns' p hp hs h0 => by
          obtain rfl : ns' = srtI ns := srt_uniq (hp.trans (srtI_perm ns).symm) hs (srtI_sorted ns)
          obtain ⟨g1, g2, g3, g4, g5⟩ := new_F R .refl h0 (rl_ints (K := K) (B := B) (al := al) (H := H) (srtI ns))
          exact q p _ al _ g1 g2 g3 g4 g5
        rcases ha with ha | ha
        · exact .inl ⟨a, ns, rfl, ha, fin⟩
        · exact .inr ⟨a, ns, rfl, ha, fin⟩
  · cases h
end Z
set_option Elab.async false
set_option linter.all false
set_option maxRecDepth 100000
/-! What a computation comes to. -/
namespace Z
open PySem L2

def wp {α : Type} (m : M α) (S : Store) (Q : α → Store → Prop) : Prop := ∃ a S', m S = some (a, S') ∧ Q a S'
def wps (m : MS) (ρ : Env) (S : Store) (Q : Out → Store → Prop) : Prop := ∃ o S', m ρ S = some (o, S') ∧ Q o S'
theorem wp_mono {α : Type} {m : M α} {S : Store} {Q Q' : α → Store → Prop} (h : wp m S Q) (q : ∀ a S', Q a S' → Q' a S') : wp m S Q' := let ⟨a, S', e, h⟩ := h; ⟨a, S', e, q a S' h⟩
theorem wps_mono {m : MS} {ρ : Env} {S : Store} {Q Q' : Out → Store → Prop} (h : wps m ρ S Q) (q : ∀ a S', Q a S' → Q' a S') : wps m ρ S Q' := let ⟨a, S', e, h⟩ := h; ⟨a, S', e, q a S' h⟩
theorem wp_get {α : Type} {m : M α} {S S' : Store} {a : α} (h : wp m S fun b T => b = a ∧ T = S') : m S = some (a, S') := by
  obtain ⟨b, T, e, rfl, rfl⟩ := h; exact e
theorem wp_of {α : Type} {m : M α} {S S' : Store} {a : α} {Q : α → Store → Prop} (h : m S = some (a, S')) (q : Q a S') : wp m S Q := ⟨a, S', h, q⟩
section
variable {α β : Type} {S : Store} {Q : α → Store → Prop} {ρ : Env}
@[simp] theorem wp_ret {a : α} : wp (ret a) S Q ↔ Q a S := ⟨fun ⟨b, S', e, q⟩ => by obtain ⟨rfl, rfl⟩ := ret_some e; exact q, fun q => ⟨a, S, rfl, q⟩⟩
@[simp] theorem wp_fail : wp (fail : M α) S Q ↔ False := ⟨fun ⟨b, S', e, q⟩ => (by cases e), fun q => q.elim⟩
@[simp] theorem wp_bnd {x : M β} {f : β → M α} : wp (bnd x f) S Q ↔ wp x S fun b S1 => wp (f b) S1 Q :=
  ⟨fun ⟨a, S', e, q⟩ => by obtain ⟨b, S1, h1, h2⟩ := bnd_some e; exact ⟨b, S1, h1, a, S', h2, q⟩, fun ⟨b, S1, h1, a, S', h2, q⟩ => ⟨a, S', by unfold bnd; rw [h1]; exact h2, q⟩⟩
theorem wp_ite {c : Prop} [Decidable c] {x y : M α} : wp (if c then x else y) S Q ↔ if c then wp x S Q else wp y S Q := by split <;> rfl
@[simp] theorem wp_some {a : α} {S' : Store} : wp (fun _ => some (a, S')) S Q ↔ Q a S' := ⟨fun ⟨b, T, e, q⟩ => by cases e; exact q, fun q => ⟨a, S', rfl, q⟩⟩
end
section
variable {S : Store} {ρ : Env}
@[simp] theorem wp_mVar {i : Nat} {Q} : wp (mVar i ρ) S Q ↔ ∃ d, ρ[i]? = some (some d) ∧ Q d S := by
  constructor
  · rintro ⟨d, S', e, q⟩
    unfold mVar at e
    split at e
    · rename_i d' h; cases e; exact ⟨d, h, q⟩
    · cases e
  · rintro ⟨d, h, q⟩
    exact ⟨d, S, by simp [mVar, h], q⟩
@[simp] theorem wp_mC {d : D} {Q} : wp (mC d ρ) S Q ↔ Q d S := by unfold mC; simp
@[simp] theorem wp_mNil {Q} : wp (mNil ρ) S Q ↔ Q [] S := by unfold mNil; simp
@[simp] theorem wp_mCons {m : ME} {r : MA} {Q} : wp (mCons m r ρ) S Q ↔ wp (m ρ) S fun d S1 => wp (r ρ) S1 fun ds S2 => Q (d :: ds) S2 := by unfold mCons; simp
@[simp] theorem wp_mTup {m : MA} {Q} : wp (mTup m ρ) S Q ↔ wp (m ρ) S fun ds S1 => Q (.tup ds) S1 := by unfold mTup; simp
@[simp] theorem wp_mFz {m : MA} {Q} : wp (mFz m ρ) S Q ↔ wp (m ρ) S fun ds S1 => Q (.lst ds) S1 := by unfold mFz; simp
@[simp] theorem wp_mAd {m : MA} {Q} : wp (mAd m ρ) S Q ↔ wp (m ρ) S fun ds S1 => Q (.ref S1.length) (S1 ++ [.lst ds]) := by
  constructor
  · rintro ⟨d, S', e, q⟩
    unfold mAd at e
    split at e
    · rename_i ds S1 h; cases e; exact ⟨ds, S1, h, q⟩
    · cases e
  · rintro ⟨ds, S1, h, q⟩
    exact ⟨_, _, by unfold mAd; rw [h], q⟩
@[simp] theorem wp_mOp {f : D → D → M D} {a b : ME} {Q} : wp (mOp f a b ρ) S Q ↔ wp (a ρ) S fun x S1 => wp (b ρ) S1 fun y S2 => wp (f x y) S2 Q := by unfold mOp; simp
@[simp] theorem wp_mB {m : ME} {Q} : wp (mB m ρ) S Q ↔ wp (m ρ) S fun d S1 => ∃ b, d = .bl b ∧ Q b S1 := by
  unfold mB
  rw [wp_bnd]
  constructor
  · rintro ⟨d, S1, h, q⟩
    refine ⟨d, S1, h, ?_⟩
    cases d <;> simp at q
    exact ⟨_, rfl, q⟩
  · rintro ⟨d, S1, h, b, rfl, q⟩
    exact ⟨_, S1, h, by simpa using q⟩
@[simp] theorem wp_mAnd {a b : MT} {Q} : wp (mAnd a b ρ) S Q ↔ wp (a ρ) S fun x S1 => if x = true then wp (b ρ) S1 Q else Q false S1 := by unfold mAnd; simp [wp_ite]
@[simp] theorem wp_mOr {a b : MT} {Q} : wp (mOr a b ρ) S Q ↔ wp (a ρ) S fun x S1 => if x = true then Q true S1 else wp (b ρ) S1 Q := by unfold mOr; simp [wp_ite]
@[simp] theorem wp_mNot {a : MT} {Q} : wp (mNot a ρ) S Q ↔ wp (a ρ) S fun x S1 => Q (!x) S1 := by unfold mNot; simp
@[simp] theorem wp_mIf {t : MT} {a b : ME} {Q} : wp (mIf t a b ρ) S Q ↔ wp (t ρ) S fun x S1 => if x = true then wp (a ρ) S1 Q else wp (b ρ) S1 Q := by unfold mIf; simp [wp_ite]
@[simp] theorem wp_mAndV {a b : ME} {Q} : wp (mAndV a b ρ) S Q ↔ wp (a ρ) S fun x S1 => ∃ k, x = .bl k ∧ if k = true then wp (b ρ) S1 Q else Q (.bl false) S1 := by unfold mAndV; simp [wp_ite]
@[simp] theorem wp_mOrV {a b : ME} {Q} : wp (mOrV a b ρ) S Q ↔ wp (a ρ) S fun x S1 => ∃ k, x = .bl k ∧ if k = true then Q (.bl true) S1 else wp (b ρ) S1 Q := by unfold mOrV; simp [wp_ite]
@[simp] theorem wp_mNotV {a : ME} {Q} : wp (mNotV a ρ) S Q ↔ wp (a ρ) S fun x S1 => ∃ k, x = .bl k ∧ Q (.bl (!k)) S1 := by unfold mNotV; simp
@[simp] theorem wp_mNeg {a : ME} {Q} : wp (mNeg a ρ) S Q ↔ wp (a ρ) S fun x S1 => ∃ i, x = .int i ∧ Q (.int (-i)) S1 := by
  unfold mNeg
  rw [wp_bnd]
  constructor
  · rintro ⟨d, S1, h, q⟩
    refine ⟨d, S1, h, ?_⟩
    cases d <;> simp at q
    exact ⟨_, rfl, q⟩
  · rintro ⟨d, S1, h, b, rfl, q⟩
    exact ⟨_, S1, h, by simpa using q⟩
@[simp] theorem wp_mChain {f g : D → D → M D} {a b c : ME} {Q} : wp (mChain f g a b c ρ) S Q ↔ wp (a ρ) S fun x S1 => wp (b ρ) S1 fun y S2 => wp (f x y) S2 fun z S3 => ∃ k, z = .bl k ∧ if k = true then wp (c ρ) S3 fun w S4 => wp (g y w) S4 Q else Q (.bl false) S3 := by
  unfold mChain
  simp only [wp_bnd]
  constructor
  · rintro ⟨x, S1, h1, y, S2, h2, z, S3, h3, q⟩
    refine ⟨x, S1, h1, y, S2, h2, z, S3, h3, ?_⟩
    split at q
    · exact ⟨true, rfl, by simpa using q⟩
    · exact ⟨false, rfl, by simpa using q⟩
    · simp at q
  · rintro ⟨x, S1, h1, y, S2, h2, z, S3, h3, k, rfl, q⟩
    refine ⟨x, S1, h1, y, S2, h2, _, S3, h3, ?_⟩
    cases k <;> simpa using q
theorem wp_opt {α : Type} {o : Option α} {f : α → Store → Option (D × Store)} {Q} : wp (fun S => o.bind fun a => f a S) S Q ↔ ∃ a, o = some a ∧ wp (f a) S Q := by
  constructor
  · rintro ⟨d, S', e, q⟩
    cases o with
    | none => cases e
    | some a => exact ⟨a, rfl, d, S', e, q⟩
  · rintro ⟨a, rfl, d, S', e, q⟩
    exact ⟨d, S', e, q⟩
@[simp] theorem wp_mTru {m : ME} {Q} : wp (mTru m ρ) S Q ↔ wp (m ρ) S fun d S1 => ∃ b, truD S1 d = some b ∧ Q b S1 := by
  unfold mTru
  rw [wp_bnd]
  constructor
  · rintro ⟨d, S1, h, b, S2, e, q⟩
    refine ⟨d, S1, h, ?_⟩
    cases ht : truD S1 d with
    | none => simp [ht] at e
    | some k =>
      simp only [ht, Option.map_some, Option.some.injEq, Prod.mk.injEq] at e
      obtain ⟨rfl, rfl⟩ := e
      exact ⟨k, ht, q⟩
  · rintro ⟨d, S1, h, b, e, q⟩
    exact ⟨d, S1, h, b, S1, by simp [e], q⟩
@[simp] theorem wp_mIsi {T : String} {m : ME} {Q} : wp (mIsi T m ρ) S Q ↔ wp (m ρ) S fun d S1 => ∃ t, tyD S1 d = some t ∧ Q (.bl (isiB t T)) S1 := by
  unfold mIsi
  rw [wp_bnd]
  constructor
  · rintro ⟨d, S1, h, b, S2, e, q⟩
    refine ⟨d, S1, h, ?_⟩
    cases ht : tyD S1 d with
    | none => simp [ht] at e
    | some k =>
      simp only [ht, Option.map_some, Option.some.injEq, Prod.mk.injEq] at e
      obtain ⟨rfl, rfl⟩ := e
      exact ⟨k, ht, q⟩
  · rintro ⟨d, S1, h, b, e, q⟩
    exact ⟨d, S1, h, _, S1, by simp only [e, Option.map_some], q⟩
@[simp] theorem wp_mCB {f : List D → M D} {m : MA} {Q} : wp (mCB f m ρ) S Q ↔ wp (m ρ) S fun ds S1 => wp (f ds) S1 Q := by unfold mCB; simp
@[simp] theorem wp_mCF {f : List D → M (List D)} {m : MA} {Q} : wp (mCF f m ρ) S Q ↔ wp (m ρ) S fun ds S1 => wp (f ds) S1 Q := by unfold mCF; simp
@[simp] theorem wp_mCall {k : Nat} {f : List D → M D} {m : MA} {Q} : wp (mCall k f m ρ) S Q ↔ wp (m ρ) S fun ds S1 => wp (callF k f ds) S1 Q := by unfold mCall; simp
@[simp] theorem wp_mCallG {f : List D → M D} {m : MA} {Q} : wp (mCallG f m ρ) S Q ↔ wp (m ρ) S fun ds S1 => wp (f ds) S1 Q := by unfold mCallG; simp
@[simp] theorem wp_mMth {f : D → List D → M D} {mo : ME} {ma : MA} {Q} : wp (mMth f mo ma ρ) S Q ↔ wp (mo ρ) S fun o S1 => (asLC S1 o).isSome = true ∧ wp (ma ρ) S1 fun ds S2 => wp (f o ds) S2 Q := by
  unfold mMth
  rw [wp_bnd]
  constructor
  · rintro ⟨d, S1, h, b, S2, e, q⟩
    dsimp only at e
    split at e
    · rename_i hc
      exact ⟨d, S1, h, hc, wp_bnd.mp ⟨b, S2, e, q⟩⟩
    · cases e
  · rintro ⟨d, S1, h, hc, q⟩
    obtain ⟨b, S2, e, q⟩ := wp_bnd.mpr q
    exact ⟨d, S1, h, b, S2, by dsimp only; rw [if_pos hc]; exact e, q⟩
@[simp] theorem wp_mSl {m : ME} {lo hi : Env → M (Option Int)} {Q} : wp (mSl m lo hi ρ) S Q ↔ wp (m ρ) S fun d S1 => wp (lo ρ) S1 fun l S2 => wp (hi ρ) S2 fun h S3 => (∃ xs, d = .tup xs ∧ Q (.tup (cutD xs l h)) S3) ∨ ∃ xs, asL S3 d = some xs ∧ Q (.lst (cutD xs l h)) S3 := by
  unfold mSl
  simp only [wp_bnd]
  constructor
  · rintro ⟨d, S1, h1, l, S2, h2, h, S3, h3, b, S4, e, q⟩
    refine ⟨d, S1, h1, l, S2, h2, h, S3, h3, ?_⟩
    split at e
    · cases e; exact .inl ⟨_, rfl, q⟩
    · rename_i d' hd
      cases ht : asL S3 d with
      | none => simp [ht] at e
      | some k =>
        simp only [ht, Option.map_some, Option.some.injEq, Prod.mk.injEq] at e
        obtain ⟨rfl, rfl⟩ := e
        exact .inr ⟨k, rfl, q⟩
  · rintro ⟨d, S1, h1, l, S2, h2, h, S3, h3, ⟨xs, rfl, q⟩ | ⟨xs, e, q⟩⟩
    · exact ⟨_, S1, h1, l, S2, h2, h, S3, h3, _, S3, rfl, q⟩
    · refine ⟨d, S1, h1, l, S2, h2, h, S3, h3, .lst (cutD xs l h), S3, ?_, q⟩
      cases d <;> simp_all [asL]
@[simp] theorem wp_mNoPart {Q} : wp (mNoPart ρ) S Q ↔ Q none S := by unfold mNoPart; simp
@[simp] theorem wp_mPart {m : ME} {Q} : wp (mPart m ρ) S Q ↔ wp (m ρ) S fun d S1 => ∃ i, d = .int i ∧ Q (some i) S1 := by
  unfold mPart
  rw [wp_bnd]
  constructor
  · rintro ⟨d, S1, h, q⟩
    refine ⟨d, S1, h, ?_⟩
    cases d <;> simp at q
    exact ⟨_, rfl, q⟩
  · rintro ⟨d, S1, h, b, rfl, q⟩
    exact ⟨_, S1, h, by simpa using q⟩
@[simp] theorem wp_mTrue {Q} : wp (mTrue ρ) S Q ↔ Q true S := by unfold mTrue; simp

/-! ### statements -/
@[simp] theorem wps_next {Q} : wps mNext ρ S Q ↔ Q (.nx ρ) S := ⟨fun ⟨o, S', e, q⟩ => by cases e; exact q, fun q => ⟨_, _, rfl, q⟩⟩
@[simp] theorem wps_brk {Q} : wps mBrk ρ S Q ↔ Q (.bk ρ) S := ⟨fun ⟨o, S', e, q⟩ => by cases e; exact q, fun q => ⟨_, _, rfl, q⟩⟩
@[simp] theorem wps_cnt {Q} : wps mCnt ρ S Q ↔ Q (.ct ρ) S := ⟨fun ⟨o, S', e, q⟩ => by cases e; exact q, fun q => ⟨_, _, rfl, q⟩⟩
@[simp] theorem wps_retN {Q} : wps mRetN ρ S Q ↔ Q (.rt .non) S := ⟨fun ⟨o, S', e, q⟩ => by cases e; exact q, fun q => ⟨_, _, rfl, q⟩⟩
/-- what follows a statement -/
def aft (b : MS) (Q : Out → Store → Prop) : Out → Store → Prop
  | .nx ρ, S => wps b ρ S Q
  | .rt d, S => Q (.rt d) S
  | .bk ρ, S => Q (.bk ρ) S
  | .ct ρ, S => Q (.ct ρ) S
  | .ex c, S => Q (.ex c) S
@[simp] theorem aft_nx {b : MS} {Q} : aft b Q (.nx ρ) S ↔ wps b ρ S Q := Iff.rfl
@[simp] theorem aft_rt {b : MS} {Q} {d : D} : aft b Q (.rt d) S ↔ Q (.rt d) S := Iff.rfl
@[simp] theorem aft_bk {b : MS} {Q} : aft b Q (.bk ρ) S ↔ Q (.bk ρ) S := Iff.rfl
@[simp] theorem aft_ct {b : MS} {Q} : aft b Q (.ct ρ) S ↔ Q (.ct ρ) S := Iff.rfl
@[simp] theorem aft_ex {b : MS} {Q} {c : Str} : aft b Q (.ex c) S ↔ Q (.ex c) S := Iff.rfl
@[simp] theorem wps_seq {a b : MS} {Q} : wps (mSeq a b) ρ S Q ↔ wps a ρ S (aft b Q) := by
  constructor
  · rintro ⟨o, S', e, q⟩
    unfold mSeq at e
    split at e
    · rename_i ρ1 S1 h; exact ⟨_, _, h, o, S', e, q⟩
    · rename_i hn
      refine ⟨o, S', e, ?_⟩
      cases o with
      | nx ρ1 => exact (hn _ _ e).elim
      | _ => exact q
  · rintro ⟨o, S', e, q⟩
    cases o with
    | nx ρ1 => obtain ⟨o2, S2, e2, q2⟩ := q; exact ⟨o2, S2, by simp [mSeq, e, e2], q2⟩
    | rt d => exact ⟨_, S', by simp [mSeq, e], q⟩
    | bk d => exact ⟨_, S', by simp [mSeq, e], q⟩
    | ct d => exact ⟨_, S', by simp [mSeq, e], q⟩
    | ex d => exact ⟨_, S', by simp [mSeq, e], q⟩
@[simp] theorem wps_drop {m : ME} {Q} : wps (mDrop m) ρ S Q ↔ wp (m ρ) S fun _ S1 => Q (.nx ρ) S1 := by
  constructor
  · rintro ⟨o, S', e, q⟩
    unfold mDrop at e
    split at e
    · rename_i d S1 h; cases e; exact ⟨d, _, h, q⟩
    · cases e
  · rintro ⟨d, S1, h, q⟩; exact ⟨_, _, by simp [mDrop, h], q⟩
@[simp] theorem wps_ret {m : ME} {Q} : wps (mRet m) ρ S Q ↔ wp (m ρ) S fun d S1 => Q (.rt d) S1 := by
  constructor
  · rintro ⟨o, S', e, q⟩
    unfold mRet at e
    split at e
    · rename_i d S1 h; cases e; exact ⟨d, _, h, q⟩
    · cases e
  · rintro ⟨d, S1, h, q⟩; exact ⟨_, _, by simp [mRet, h], q⟩
@[simp] theorem wps_set {i : Nat} {m : ME} {Q} : wps (mSet i m) ρ S Q ↔ wp (m ρ) S fun d S1 => Q (.nx (ρ.set i (some d))) S1 := by
  constructor
  · rintro ⟨o, S', e, q⟩
    unfold mSet at e
    split at e
    · rename_i d S1 h; cases e; exact ⟨d, _, h, q⟩
    · cases e
  · rintro ⟨d, S1, h, q⟩; exact ⟨_, _, by simp [mSet, h], q⟩
@[simp] theorem wps_if {t : MT} {a b : MS} {Q} : wps (mIfS t a b) ρ S Q ↔ wp (t ρ) S fun x S1 => if x = true then wps a ρ S1 Q else wps b ρ S1 Q := by
  constructor
  · rintro ⟨o, S', e, q⟩
    unfold mIfS at e
    split at e
    · rename_i S1 h; exact ⟨true, _, h, by simpa using ⟨o, S', e, q⟩⟩
    · rename_i S1 h; exact ⟨false, _, h, by simpa using ⟨o, S', e, q⟩⟩
    · cases e
  · rintro ⟨x, S1, h, q⟩
    cases x with
    | true => obtain ⟨o, S', e, q⟩ := (by simpa using q : wps a ρ S1 Q); exact ⟨o, S', by simp [mIfS, h, e], q⟩
    | false => obtain ⟨o, S', e, q⟩ := (by simpa using q : wps b ρ S1 Q); exact ⟨o, S', by simp [mIfS, h, e], q⟩
@[simp] theorem wps_asg {g : Tg} {m : ME} {Q} : wps (mAsg g m) ρ S Q ↔ wp (m ρ) S fun d S1 => ∃ ρ', g.put d ρ = some ρ' ∧ Q (.nx ρ') S1 := by
  constructor
  · rintro ⟨o, S', e, q⟩
    unfold mAsg at e
    split at e
    · rename_i d S1 h
      cases hp : g.put d ρ with
      | none => simp [hp] at e
      | some ρ' =>
        simp only [hp, Option.map_some, Option.some.injEq, Prod.mk.injEq] at e
        obtain ⟨rfl, rfl⟩ := e
        exact ⟨d, _, h, ρ', hp, q⟩
    · cases e
  · rintro ⟨d, S1, h, ρ', hp, q⟩; exact ⟨_, _, by simp [mAsg, h, hp], q⟩
@[simp] theorem wps_aug {i : Nat} {f : Int → Int → Int} {m : ME} {Q} : wps (mAug i f m) ρ S Q ↔ ∃ a, ρ[i]? = some (some (.int a)) ∧ wp (m ρ) S fun d S1 => ∃ b, d = .int b ∧ Q (.nx (ρ.set i (some (.int (f a b))))) S1 := by
  constructor
  · rintro ⟨o, S', e, q⟩
    unfold mAug at e
    split at e
    · rename_i a h
      split at e
      · rename_i b S1 h1; cases e; exact ⟨a, h, _, _, h1, b, rfl, q⟩
      · cases e
    · cases e
  · rintro ⟨a, h, d, S1, h1, b, rfl, q⟩; exact ⟨_, _, by simp only [mAug, h, h1], q⟩
@[simp] theorem wps_setL {mo mi mv : ME} {Q} : wps (mSetL mo mi mv) ρ S Q ↔ wp (mv ρ) S fun v S1 => wp (mo ρ) S1 fun o S2 => wp (mi ρ) S2 fun i S3 => ∃ n k xs j, o = .ref n ∧ i = .int k ∧ S3[n]? = some (.lst xs) ∧ ixN xs.length k = some j ∧ Q (.nx ρ) (S3.set n (.lst (xs.set j v))) := by
  constructor
  · rintro ⟨o, S', e, q⟩
    unfold mSetL at e
    split at e
    · cases e
    · rename_i v S1 h1
      split at e
      · rename_i n S2 h2
        split at e
        · rename_i i S3 h3
          split at e
          · rename_i xs h4
            cases hx : ixN xs.length i with
            | none => simp [hx] at e
            | some j =>
              simp only [hx, Option.map_some, Option.some.injEq, Prod.mk.injEq] at e
              obtain ⟨rfl, rfl⟩ := e
              exact ⟨v, S1, h1, _, S2, h2, _, S3, h3, n, i, xs, j, rfl, rfl, h4, hx, q⟩
          · cases e
        · cases e
      · cases e
  · rintro ⟨v, S1, h1, _, S2, h2, _, S3, h3, n, i, xs, j, rfl, rfl, h4, hx, q⟩
    exact ⟨_, _, by simp [mSetL, h1, h2, h3, h4, hx], q⟩
@[simp] theorem wps_for {g : Tg} {it : MI} {b : MS} {Q} : wps (mFor g it b) ρ S Q ↔ wp (it ρ) S fun p S1 => wps (mForL g p.2 b p.1) ρ S1 Q := by
  constructor
  · rintro ⟨o, S', e, q⟩
    unfold mFor at e
    split at e
    · rename_i xs ok S1 h; exact ⟨_, _, h, o, S', e, q⟩
    · cases e
  · rintro ⟨⟨xs, ok⟩, S1, h, o, S', e, q⟩; exact ⟨o, S', by simp only [mFor, h]; exact e, q⟩
@[simp] theorem wp_mItR1 {m : MA} {Q} : wp (mItR m ρ) S Q ↔ wp (m ρ) S fun ds S1 => (∃ j, ds = [.int j] ∧ okR j = true ∧ Q (rngD 0 j.toNat, fun _ => true) S1) ∨ ∃ i j, ds = [.int i, .int j] ∧ (okR i = true ∧ okR j = true) ∧ Q (rngD i (j - i).toNat, fun _ => true) S1 := by
  constructor
  · rintro ⟨o, S', e, q⟩
    unfold mItR at e
    split at e
    · rename_i j S1 h
      split at e
      · rename_i hk; cases e; exact ⟨_, _, h, .inl ⟨j, rfl, hk, q⟩⟩
      · cases e
    · rename_i i j S1 h
      split at e
      · rename_i hk; cases e; exact ⟨_, _, h, .inr ⟨i, j, rfl, by simpa using hk, q⟩⟩
      · cases e
    · cases e
  · rintro ⟨ds, S1, h, ⟨j, rfl, hk, q⟩ | ⟨i, j, rfl, hk, q⟩⟩
    · exact ⟨_, _, by simp [mItR, h, hk], q⟩
    · exact ⟨_, _, by simp [mItR, h, hk], q⟩
@[simp] theorem wp_mItS {m : ME} {Q} : wp (mItS m ρ) S Q ↔ wp (m ρ) S fun d S1 => ∃ xs, asSq S1 d = some xs ∧ Q (xs, okOf d xs) S1 := by
  constructor
  · rintro ⟨o, S', e, q⟩
    unfold mItS at e
    split at e
    · cases e
    · rename_i d S1 h
      split at e
      · cases e
      · rename_i xs h2; cases e; exact ⟨d, _, h, xs, h2, q⟩
  · rintro ⟨d, S1, h, xs, h2, q⟩; exact ⟨_, _, by simp [mItS, h, h2], q⟩
@[simp] theorem wp_mItE {m : ME} {Q} : wp (mItE m ρ) S Q ↔ wp (m ρ) S fun d S1 => ∃ xs, asSq S1 d = some xs ∧ Q (enumD 0 xs, okOf d xs) S1 := by
  constructor
  · rintro ⟨o, S', e, q⟩
    unfold mItE at e
    split at e
    · cases e
    · rename_i d S1 h
      split at e
      · cases e
      · rename_i xs h2; cases e; exact ⟨d, _, h, xs, h2, q⟩
  · rintro ⟨d, S1, h, xs, h2, q⟩; exact ⟨_, _, by simp [mItE, h, h2], q⟩
@[simp] theorem wp_mBody {N : Nat} {m : MS} {ds : List D} {Q} : wp (mBody N m ds) S Q ↔ wps m (startD N ds) S fun o S1 => ∃ d, outD o = some d ∧ ∃ d' S2, clo S.length d S1 = some (d', S2) ∧ Q d' S2 := by
  constructor
  · rintro ⟨o, S', e, q⟩
    unfold mBody at e
    split at e
    · rename_i o S1 h
      cases hd : outD o with
      | none => simp [hd] at e
      | some d => simp only [hd, Option.bind_some] at e; exact ⟨_, _, h, d, hd, _, _, e, q⟩
    · cases e
  · rintro ⟨o, S1, h, d, hd, d', S2, e, q⟩; exact ⟨_, _, by simp only [mBody, h, hd, Option.bind_some]; exact e, q⟩
@[simp] theorem wp_mOpen {N : Nat} {m : MS} {ds : List D} {Q} : wp (mOpen N m ds) S Q ↔ wps m (startD N ds) S fun o S1 => ∃ d, outD o = some d ∧ Q d S1 := by
  constructor
  · rintro ⟨o, S', e, q⟩
    unfold mOpen at e
    split at e
    · rename_i o S1 h
      cases hd : outD o with
      | none => simp [hd] at e
      | some d =>
        simp only [hd, Option.map_some, Option.some.injEq, Prod.mk.injEq] at e
        obtain ⟨rfl, rfl⟩ := e
        exact ⟨_, _, h, d, hd, q⟩
    · cases e
  · rintro ⟨o, S1, h, d, hd, q⟩; exact ⟨_, _, by simp only [mOpen, h, hd, Option.map_some], q⟩
@[simp] theorem wp_mLc {vs : List Nat} {g : Tg} {it : MI} {t : MT} {e : ME} {Q} : wp (mLc vs g it t e ρ) S Q ↔ wp (it ρ) S fun p S1 => wp (mLcL vs g p.2 t e ρ p.1) S1 fun ys S2 => ys.length ≤ lim ∧ Q ys S2 := by
  constructor
  · rintro ⟨o, S', h, q⟩
    unfold mLc at h
    split at h
    · rename_i xs ok S1 h1
      split at h
      · rename_i ys S2 h2
        split at h
        · rename_i hz; cases h; exact ⟨_, _, h1, _, _, h2, hz, q⟩
        · cases h
      · cases h
    · cases h
  · rintro ⟨⟨xs, ok⟩, S1, h1, ys, S2, h2, hz, q⟩
    exact ⟨ys, S2, by simp only [mLc, h1]; simp only at h2; rw [h2]; simp [hz], q⟩
end
end Z
set_option Elab.async false
set_option linter.all false
set_option maxRecDepth 100000
/-! Operators, built-ins, loops, calls: what they come to on plain data. -/
namespace Z
open PySem L2

section
variable {S : Store} {ρ : Env}
theorem wp_optS {α β : Type} {o : Option β} {f : β → α × Store} {Q : α → Store → Prop} {m : M α} (h : m S = o.map f) : wp m S Q ↔ ∃ b, o = some b ∧ Q (f b).1 (f b).2 := by
  constructor
  · rintro ⟨a, S', e, q⟩
    rw [h] at e
    cases o with
    | none => cases e
    | some b => have e : f b = (a, S') := by simpa using e
                exact ⟨b, rfl, by rw [e]; exact q⟩
  · rintro ⟨b, rfl, q⟩; exact ⟨_, _, by rw [h]; rfl, q⟩
theorem wp_guard {α : Type} {c : Prop} [Decidable c] {m : M α} {a : α} {Q : α → Store → Prop} (h : m S = if c then some (a, S) else none) : wp m S Q ↔ c ∧ Q a S := by
  constructor
  · rintro ⟨b, S', e, q⟩
    rw [h] at e
    split at e
    · rename_i hc; cases e; exact ⟨hc, q⟩
    · cases e
  · rintro ⟨hc, q⟩; exact ⟨_, _, by rw [h, if_pos hc], q⟩
@[simp] theorem wp_dI {C : Int → Int → Bool} {g : Int → Int → D} {i j : Int} {Q} : wp (dI C g (.int i) (.int j)) S Q ↔ C i j = true ∧ Q (g i j) S := by
  unfold dI
  rw [wp_ite]
  split <;> rename_i h <;> simp [h]
@[simp] theorem wp_dAddI {i j : Int} {Q} : wp (dAdd (.int i) (.int j)) S Q ↔ Q (.int (i + j)) S := ⟨fun ⟨a, S', e, q⟩ => by cases e; exact q, fun q => ⟨_, _, rfl, q⟩⟩
@[simp] theorem wp_dAddT {xs ys : List D} {Q} : wp (dAdd (.tup xs) (.tup ys)) S Q ↔ xs.length + ys.length ≤ lim ∧ Q (.tup (xs ++ ys)) S := by
  have h : dAdd (.tup xs) (.tup ys) S = if xs.length + ys.length ≤ lim then some (.tup (xs ++ ys), S) else none := by
    unfold dAdd dCatT
    by_cases hc : xs.length + ys.length ≤ lim <;> simp [dI, fail, hc, ret, dCatL, asL]
  exact wp_guard h
theorem wp_dAddL {d e : D} {xs ys : List D} (hd : asL S d = some xs) (he : asL S e = some ys) {Q} (hl : xs.length + ys.length ≤ lim) (q : Q (.lst (xs ++ ys)) S) : wp (dAdd d e) S Q := by
  refine ⟨_, _, ?_, q⟩
  unfold dAdd dCatT dCatL
  cases d <;> simp [asL] at hd <;> cases e <;> simp [asL] at he <;> simp_all [dI, fail, ret, asL]
@[simp] theorem wp_dMulI {i j : Int} {Q} : wp (dMul (.int i) (.int j)) S Q ↔ ((-(2 ^ 64) < i ∧ i < 2 ^ 64) ∨ (-(2 ^ 64) < j ∧ j < 2 ^ 64)) ∧ Q (.int (i * j)) S := by
  refine wp_guard ?_
  unfold dMul dMulI dRepT dRepL dI
  simp only [Bool.or_eq_true, decide_eq_true_eq]
  split <;> simp_all [fail, ret, asL]
theorem wp_dMulL {d : D} {k : Int} {xs : List D} (hd : asL S d = some xs) {Q} (hk : -1000 ≤ k ∧ k ≤ 1000) (hl : xs.length * k.toNat ≤ lim) (q : Q (.lst (List.replicate k.toNat xs).flatten) S) : wp (dMul d (.int k)) S Q := by
  refine ⟨_, _, ?_, q⟩
  unfold dMul dRepT dRepL
  cases d <;> simp [asL] at hd <;> simp_all [dI, fail, ret, asL]
@[simp] theorem wp_dIx {d : D} {i : Int} {Q} : wp (dIx d (.int i)) S Q ↔ ∃ xs, asSq S d = some xs ∧ ∃ x, atI xs i = some x ∧ Q x S := by
  constructor
  · rintro ⟨a, S', e, q⟩
    unfold dIx at e
    split at e
    · rename_i xs j h1 h2
      cases h2
      cases hx : atI xs i with
      | none => rw [hx] at e; cases e
      | some x => rw [hx] at e; cases e; exact ⟨xs, h1, _, hx, q⟩
    · cases e
  · rintro ⟨xs, h1, x, h2, q⟩; exact ⟨x, S, by simp [dIx, h1, h2], q⟩
@[simp] theorem asL_lst {xs ys : List D} : asL S (.lst xs) = some ys ↔ xs = ys := by simp [asL]
@[simp] theorem asL_ref {n : Nat} {ys : List D} : asL S (.ref n) = some ys ↔ S[n]? = some (.lst ys) := by
  unfold asL
  constructor
  · intro h
    dsimp only at h
    split at h
    · rename_i xs hs; cases h; exact hs
    · cases h
  · intro h; simp [h]
@[simp] theorem asSq_tup {xs ys : List D} : asSq S (.tup xs) = some ys ↔ xs = ys := by simp [asSq]
@[simp] theorem asSq_lst {xs ys : List D} : asSq S (.lst xs) = some ys ↔ xs = ys := by simp [asSq]
@[simp] theorem asSq_scr {xs : List Int} {ys : List D} : asSq S (.scr xs) = some ys ↔ xs.map .int = ys := by simp [asSq]
@[simp] theorem asSq_tpi {xs : List Int} {ys : List D} : asSq S (.tpi xs) = some ys ↔ xs.map .int = ys := by simp [asSq]
@[simp] theorem asSq_ref {n : Nat} {ys : List D} : asSq S (.ref n) = some ys ↔ S[n]? = some (.lst ys) := by
  show asL S (.ref n) = some ys ↔ _
  exact asL_ref
@[simp] theorem asLC_lst {xs ys : List D} : asLC S (.lst xs) = some ys ↔ xs = ys := by simp [asLC]
@[simp] theorem asLC_scr {xs : List Int} {ys : List D} : asLC S (.scr xs) = some ys ↔ xs.map .int = ys := by simp [asLC]
@[simp] theorem asLC_ref {n : Nat} {ys : List D} : asLC S (.ref n) = some ys ↔ S[n]? = some (.lst ys) := by
  show asL S (.ref n) = some ys ↔ _
  exact asL_ref
@[simp] theorem asLC_refS {n : Nat} : (asLC S (.ref n)).isSome = true ↔ ∃ ys, S[n]? = some (.lst ys) := by
  constructor
  · intro h
    obtain ⟨ys, hy⟩ := Option.isSome_iff_exists.mp h
    exact ⟨ys, asLC_ref.mp hy⟩
  · rintro ⟨ys, h⟩; rw [asLC_ref.mpr h]; rfl
@[simp] theorem okOf_ref {n : Nat} {xs : List D} : okOf (.ref n) xs S = true ↔ S[n]? = some (.lst xs) := by
  simp only [okOf]
  constructor
  · intro h
    split at h
    · rename_i ys hs
      rw [hs, deqs_eq h]
    · cases h
  · intro h
    rw [h]
    exact deqs_refl _
@[simp] theorem okOf_tup {xs ys : List D} : okOf (.tup ys) xs S = true := rfl
@[simp] theorem okOf_lst {xs ys : List D} : okOf (.lst ys) xs S = true := rfl
@[simp] theorem okOf_tpi {xs : List D} {ys : List Int} : okOf (.tpi ys) xs S = true := rfl
@[simp] theorem okOf_scr {xs : List D} {ys : List Int} : okOf (.scr ys) xs S = true := rfl
theorem atI_nat {α : Type} {xs : List α} {n : Nat} : atI xs (n : Int) = xs[n]? := by
  unfold atI ixN
  by_cases h : n < xs.length
  · simp [h]
  · simp [h]
theorem atI_nn {α : Type} {xs : List α} {i : Int} (h : 0 ≤ i) : atI xs i = xs[i.toNat]? := by
  obtain ⟨n, rfl⟩ := Int.eq_ofNat_of_zero_le h
  exact atI_nat
@[simp] theorem atI_0 {α : Type} {xs : List α} : atI xs 0 = xs[0]? := atI_nat (n := 0)
@[simp] theorem atI_1 {α : Type} {xs : List α} : atI xs 1 = xs[1]? := atI_nat (n := 1)
@[simp] theorem atI_2 {α : Type} {xs : List α} : atI xs 2 = xs[2]? := atI_nat (n := 2)
@[simp] theorem atI_3 {α : Type} {xs : List α} : atI xs 3 = xs[3]? := atI_nat (n := 3)
@[simp] theorem atI_4 {α : Type} {xs : List α} : atI xs 4 = xs[4]? := atI_nat (n := 4)
@[simp] theorem atI_5 {α : Type} {xs : List α} : atI xs 5 = xs[5]? := atI_nat (n := 5)
@[simp] theorem ixN_0 {n : Nat} : ixN (n + 1) 0 = some 0 := by unfold ixN; rw [if_pos (by omega), if_pos (by omega)]; rfl
@[simp] theorem ixN_1 {n : Nat} : ixN (n + 2) 1 = some 1 := by unfold ixN; rw [if_pos (by omega), if_pos (by omega)]; rfl
@[simp] theorem ixN_2 {n : Nat} : ixN (n + 3) 2 = some 2 := by unfold ixN; rw [if_pos (by omega), if_pos (by omega)]; rfl
@[simp] theorem ixN_3 {n : Nat} : ixN (n + 4) 3 = some 3 := by unfold ixN; rw [if_pos (by omega), if_pos (by omega)]; rfl
theorem ixN_nn {n : Nat} {i : Int} (h : 0 ≤ i) (h2 : i < n) : ixN n i = some i.toNat := by unfold ixN; rw [if_pos h, if_pos h2]
@[simp] theorem wp_cLen {d : D} {Q} : wp (cLen [d]) S Q ↔ ∃ xs, asSq S d = some xs ∧ Q (.int xs.length) S := wp_optS (f := fun xs : List D => (D.int xs.length, S)) rfl
@[simp] theorem wp_c1I {f : Int → Int} {i : Int} {Q} : wp (c1I f [.int i]) S Q ↔ Q (.int (f i)) S := by unfold c1I; simp
@[simp] theorem wp_c2I {f : Int → Int → Int} {i j : Int} {Q} : wp (c2I f [.int i, .int j]) S Q ↔ Q (.int (f i j)) S := by unfold c2I; simp
@[simp] theorem wp_cInt {i : Int} {Q} : wp (cInt [.int i]) S Q ↔ Q (.int i) S := by unfold cInt; simp
@[simp] theorem wp_cIntB {b : Bool} {Q} : wp (cInt [.bl b]) S Q ↔ Q (.int (if b then 1 else 0)) S := by unfold cInt; simp
@[simp] theorem wp_cList {d : D} {Q} : wp (cList [d]) S Q ↔ ∃ xs, asSq S d = some xs ∧ Q xs S := wp_optS (f := fun xs : List D => (xs, S)) rfl
@[simp] theorem wp_cTuple {xs : List D} {Q} : wp (cTuple [.lst xs]) S Q ↔ Q (.tup xs) S := ⟨fun ⟨a, S', e, q⟩ => by cases e; exact q, fun q => ⟨_, _, rfl, q⟩⟩
@[simp] theorem wp_cTupleR {n : Nat} {Q} : wp (cTuple [.ref n]) S Q ↔ ∃ xs, S[n]? = some (.lst xs) ∧ Q (.tup xs) S := by
  have : cTuple [.ref n] S = (asLC S (.ref n)).map fun xs => (.tup xs, S) := rfl
  rw [wp_optS this]
  simp
@[simp] theorem wp_cSum {d : D} {f : List Int → Option Int} {Q} : wp (cInts f [d]) S Q ↔ ∃ xs, asLC S d = some xs ∧ ∃ ns, intsOf xs = some ns ∧ ∃ i, f ns = some i ∧ Q (.int i) S := by
  have : cInts f [d] S = (((asLC S d).bind intsOf).bind f).map fun i => (.int i, S) := by
    unfold cInts
    dsimp only
    cases asLC S d with
    | none => rfl
    | some xs => cases h : intsOf xs <;> simp [h]
  rw [wp_optS this]
  simp [Option.bind_eq_some_iff]
  constructor
  · rintro ⟨i, ⟨a, ⟨xs, h1, h2⟩, h3⟩, q⟩; exact ⟨xs, h1, a, h2, i, h3, q⟩
  · rintro ⟨xs, h1, a, h2, i, h3, q⟩; exact ⟨i, ⟨a, ⟨xs, h1, h2⟩, h3⟩, q⟩
@[simp] theorem wp_cBls {d : D} {f : List Bool → Bool} {Q} : wp (cBls f [d]) S Q ↔ ∃ xs, asLC S d = some xs ∧ ∃ ns, blsOf xs = some ns ∧ Q (.bl (f ns)) S := by
  have : cBls f [d] S = ((asLC S d).bind blsOf).map fun i => (.bl (f i), S) := by
    unfold cBls
    dsimp only
    cases asLC S d with
    | none => rfl
    | some xs => cases h : blsOf xs <;> simp [h]
  rw [wp_optS this]
  simp [Option.bind_eq_some_iff]
  constructor
  · rintro ⟨i, ⟨xs, h1, h2⟩, q⟩; exact ⟨xs, h1, i, h2, q⟩
  · rintro ⟨xs, h1, i, h2, q⟩; exact ⟨i, ⟨xs, h1, h2⟩, q⟩
@[simp] theorem wp_cSortI {d : D} {Q} : wp (cSortI [d]) S Q ↔ ∃ xs, asLC S d = some xs ∧ ∃ ns, intsOf xs = some ns ∧ Q ((srtI ns).map .int) S := by
  have : cSortI [d] S = ((asLC S d).bind intsOf).map fun i => ((srtI i).map .int, S) := by
    unfold cSortI
    dsimp only
    cases asLC S d with
    | none => rfl
    | some xs => cases h : intsOf xs <;> simp [h]
  rw [wp_optS this]
  simp [Option.bind_eq_some_iff]
  constructor
  · rintro ⟨i, ⟨xs, h1, h2⟩, q⟩; exact ⟨xs, h1, i, h2, q⟩
  · rintro ⟨xs, h1, i, h2, q⟩; exact ⟨i, ⟨xs, h1, h2⟩, q⟩
@[simp] theorem wp_cSortQ {d : D} {Q} : wp (cSortQ [d]) S Q ↔ ∃ xs, asSq S d = some xs ∧ ∃ ns, intsOf xs = some ns ∧ Q ((srtI ns).map .int) S := by
  rw [wp_optS (o := (asSq S d).bind intsOf) (f := fun ns => ((srtI ns).map .int, S)) rfl]
  simp [Option.bind_eq_some_iff]
  constructor
  · rintro ⟨i, ⟨xs, h1, h2⟩, q⟩; exact ⟨xs, h1, i, h2, q⟩
  · rintro ⟨xs, h1, i, h2, q⟩; exact ⟨i, ⟨xs, h1, h2⟩, q⟩
@[simp] theorem intsOf_m {ns ms : List Int} : intsOf (ns.map .int) = some ms ↔ ns = ms := by rw [intsOf_map]; simp
@[simp] theorem intsOf_f {α : Type} {f : α → Int} {as : List α} {ms : List Int} : intsOf (as.map fun a => .int (f a)) = some ms ↔ as.map f = ms := by
  rw [show (as.map fun a => D.int (f a)) = (as.map f).map .int by simp, intsOf_m]
@[simp] theorem blsOf_f {α : Type} {f : α → Bool} {as : List α} {ms : List Bool} : blsOf (as.map fun a => .bl (f a)) = some ms ↔ as.map f = ms := by
  rw [show (as.map fun a => D.bl (f a)) = (as.map f).map .bl by simp, blsOf_map]; simp
@[simp] theorem blsOf_m {ns ms : List Bool} : blsOf (ns.map .bl) = some ms ↔ ns = ms := by rw [blsOf_map]; simp
@[simp] theorem wp_lApp {n : Nat} {d : D} {Q} : wp (lApp (.ref n) [d]) S Q ↔ ∃ xs, S[n]? = some (.lst xs) ∧ xs.length < lim ∧ Q .non (S.set n (.lst (xs ++ [d]))) := by
  constructor
  · rintro ⟨a, S', e, q⟩
    unfold lApp at e
    dsimp only at e
    split at e
    · rename_i xs hs
      split at e
      · rename_i hl; cases e; exact ⟨xs, hs, hl, q⟩
      · cases e
    · cases e
  · rintro ⟨xs, hs, hl, q⟩; exact ⟨_, _, by simp only [lApp, hs, if_pos hl], q⟩
end

/-! ### data that is compared -/
/-- plain data of depth at most k -/
def fit : Nat → D → Bool
  | 0, .tup _ | 0, .lst _ => false
  | _, .ref _ => false
  | _, .scr _ => false
  | _, .tpi _ => false
  | _, .dcf _ => false
  | _, .tpx _ => false
  | _, .str x => PyData.strOk x
  | k + 1, .tup xs => xs.all (fit k)
  | k + 1, .lst xs => xs.all (fit k)
  | _, _ => true
@[simp] theorem fit_int {k : Nat} {i : Int} : fit k (.int i) = true := by cases k <;> rfl
@[simp] theorem fit_bl {k : Nat} {i : Bool} : fit k (.bl i) = true := by cases k <;> rfl
@[simp] theorem fit_non {k : Nat} : fit k .non = true := by cases k <;> rfl
@[simp] theorem fit_str {k : Nat} {x : Str} : fit k (.str x) = PyData.strOk x := by cases k <;> rfl
@[simp] theorem fit_tup {k : Nat} {xs : List D} : fit (k + 1) (.tup xs) = xs.all (fit k) := by simp [fit]
@[simp] theorem fit_lst {k : Nat} {xs : List D} : fit (k + 1) (.lst xs) = xs.all (fit k) := by simp [fit]
@[simp] theorem fit_ref {k n : Nat} : fit k (.ref n) = false := by cases k <;> rfl
theorem toPs_map : ∀ xs : List D, toPs xs = xs.map toP
  | [] => rfl
  | x :: xs => by simp [toPs, toPs_map xs]
theorem fit_ok : ∀ (k : Nat) (d : D), fit k d = true → nr d = true ∧ (toP d).canLay0 = true ∧ (toP d).depth ≤ k
  | k, .non, _ => ⟨rfl, rfl, by simp [toP, PyData.depth]⟩
  | k, .bl _, _ => ⟨rfl, rfl, by simp [toP, PyData.depth]⟩
  | k, .int _, _ => ⟨rfl, rfl, by simp [toP, PyData.depth]⟩
  | k, .str _, h => ⟨rfl, by rw [fit_str] at h; simpa [toP, PyData.canLay0] using h, by simp [toP, PyData.depth]⟩
  | 0, .tup _, h => by simp [fit] at h
  | 0, .lst _, h => by simp [fit] at h
  | k, .ref _, h => by simp at h
  | k, .scr _, h => by cases k <;> simp [fit] at h
  | k, .tpi _, h => by cases k <;> simp [fit] at h
  | k, .dcf _, h => by cases k <;> simp [fit] at h
  | k, .tpx _, h => by cases k <;> simp [fit] at h
  | k + 1, .tup xs, h => by
    have := fits_ok k xs (by simpa using h)
    exact ⟨by simpa [nr] using this.1, by simpa [toP, PyData.canLay0] using this.2.1, by simp only [toP, PyData.depth]; omega⟩
  | k + 1, .lst xs, h => by
    have := fits_ok k xs (by simpa using h)
    exact ⟨by simpa [nr] using this.1, by simpa [toP, PyData.canLay0] using this.2.1, by simp only [toP, PyData.depth]; omega⟩
where
  fits_ok (k : Nat) : ∀ xs : List D, (∀ x ∈ xs, fit k x = true) → nrs xs = true ∧ PyData.canLayAll0 (toPs xs) = true ∧ PyData.depthAll (toPs xs) ≤ k
    | [], _ => ⟨rfl, rfl, by simp [toPs, PyData.depthAll]⟩
    | x :: xs, h => by
      have h1 := fit_ok k x (h x List.mem_cons_self)
      have h2 := fits_ok k xs fun y hy => h y (List.mem_cons_of_mem _ hy)
      refine ⟨by simp [nrs, h1.1, h2.1], by simp [toPs, PyData.canLayAll0, h1.2.1, h2.2.1], ?_⟩
      simp only [toPs, PyData.depthAll]
      omega
theorem eqv_refl : ∀ (k : Nat) (d : D), fit k d = true → PyData.eqv (toP d) (toP d) = true
  | k, .non, _ => rfl
  | k, .bl _, _ => by simp [toP, PyData.eqv]
  | k, .int _, _ => by simp [toP, PyData.eqv]
  | k, .str _, h => by simp [toP, PyData.eqv]
  | 0, .tup _, h => by simp [fit] at h
  | 0, .lst _, h => by simp [fit] at h
  | k, .ref _, h => by simp at h
  | k, .scr _, h => by cases k <;> simp [fit] at h
  | k, .tpi _, h => by cases k <;> simp [fit] at h
  | k, .dcf _, h => by cases k <;> simp [fit] at h
  | k, .tpx _, h => by cases k <;> simp [fit] at h
  | k + 1, .tup xs, h => by
    simp only [toP, PyData.eqv]
    exact eqvs_refl k xs (by simpa using h)
  | k + 1, .lst xs, h => by
    simp only [toP, PyData.eqv]
    exact eqvs_refl k xs (by simpa using h)
where
  eqvs_refl (k : Nat) : ∀ xs : List D, (∀ x ∈ xs, fit k x = true) → PyData.eqvAll (toPs xs) (toPs xs) = true
    | [], _ => rfl
    | x :: xs, h => by simp [toPs, PyData.eqvAll, eqv_refl k x (h x List.mem_cons_self), eqvs_refl k xs fun y hy => h y (List.mem_cons_of_mem _ hy)]
theorem nr_fit {k : Nat} {d : D} (h : fit k d = true) : nr d = true := (fit_ok k d h).1
theorem shaped_fit {d : D} (h : fit 60 d = true) : SeqAt.shaped (toP d) = true := by
  obtain ⟨_, h1, h2⟩ := fit_ok _ d h
  unfold SeqAt.shaped
  rw [h1]
  simp only [Bool.true_and, decide_eq_true_eq]
  omega
theorem fit_up : ∀ (k m : Nat) (d : D), k ≤ m → fit k d = true → fit m d = true
  | k, m, .non, _, _ => by simp
  | k, m, .bl _, _, _ => by simp
  | k, m, .int _, _, _ => by simp
  | k, m, .str _, _, h => by simpa using h
  | 0, m, .tup _, _, h => by simp [fit] at h
  | 0, m, .lst _, _, h => by simp [fit] at h
  | k, m, .ref _, _, h => by simp at h
  | k, m, .scr _, _, h => by cases k <;> simp [fit] at h
  | k, m, .tpi _, _, h => by cases k <;> simp [fit] at h
  | k, m, .dcf _, _, h => by cases k <;> simp [fit] at h
  | k, m, .tpx _, _, h => by cases k <;> simp [fit] at h
  | k + 1, 0, .tup xs, h0, h => by omega
  | k + 1, 0, .lst xs, h0, h => by omega
  | k + 1, m + 1, .tup xs, h0, h => by
    simp only [fit_tup, List.all_eq_true] at h ⊢
    exact fun x hx => fit_up k m x (by omega) (h x hx)
  | k + 1, m + 1, .lst xs, h0, h => by
    simp only [fit_lst, List.all_eq_true] at h ⊢
    exact fun x hx => fit_up k m x (by omega) (h x hx)
/-- what is to be seen of a thing, references looked through -/
def See (S : Store) (d v : D) : Prop := rs S 4 d = v
theorem eqD_see {S : Store} {d e v w : D} (h1 : rs S 4 d = v) (h2 : rs S 4 e = w) (f1 : fit 60 v = true) (f2 : fit 60 w = true) : eqD S d e = some (PyData.eqv (toP v) (toP w)) := by
  unfold eqD
  simp only [h1, h2, nr_fit f1, nr_fit f2, shaped_fit f1, shaped_fit f2, Bool.and_self, if_true]
theorem eqD_same {S : Store} {d e v : D} (h1 : rs S 4 d = v) (h2 : rs S 4 e = v) (f1 : fit 60 v = true) : eqD S d e = some true := by rw [eqD_see h1 h2 f1 f1, eqv_refl 60 v f1]
theorem rs_fit {S : Store} {k m : Nat} {d : D} (h : fit m d = true) : rs S k d = d := rs_nr S k (nr_fit h)
theorem rs_ref {S : Store} {k n : Nat} {xs : List D} (h : S[n]? = some (.lst xs)) : rs S (k + 1) (.ref n) = .lst (xs.map (rs S k)) := by
  show rsF (rsG S (rs S k)) (.ref n) = _
  simp [rsF, rsG, h]
theorem rs_tup {S : Store} {k : Nat} {xs : List D} : rs S k (.tup xs) = .tup (xs.map (rs S k)) := by
  cases k with
  | zero => simp [rs]
  | succ k =>
    show rsF (rsG S (rs S k)) (.tup xs) = _
    unfold rsF
    congr 1
    induction xs with
    | nil => rfl
    | cons x xs ih => simp [rsFs, ih]; rfl
theorem rs_lst {S : Store} {k : Nat} {xs : List D} : rs S k (.lst xs) = .lst (xs.map (rs S k)) := by
  cases k with
  | zero => simp [rs]
  | succ k =>
    show rsF (rsG S (rs S k)) (.lst xs) = _
    unfold rsF
    congr 1
    induction xs with
    | nil => rfl
    | cons x xs ih => simp [rsFs, ih]; rfl
section
variable {S : Store}
theorem wp_dEq {d e : D} {b : Bool} (h : eqD S d e = some b) {Q} (q : Q (.bl b) S) : wp (dEq d e) S Q := ⟨_, _, by unfold dEq; rw [h]; rfl, q⟩
theorem wp_dNe {d e : D} {b : Bool} (h : eqD S d e = some b) {Q} (q : Q (.bl (!b)) S) : wp (dNe d e) S Q := ⟨_, _, by unfold dNe; rw [h]; rfl, q⟩
theorem eqD_int {i j : Int} : eqD S (.int i) (.int j) = some (i == j) := by
  rw [eqD_see (rs_fit (m := 0) rfl) (rs_fit (m := 0) rfl) rfl rfl]
  simp [toP, PyData.eqv]
@[simp] theorem wp_dEqI {i j : Int} {Q} : wp (dEq (.int i) (.int j)) S Q ↔ Q (.bl (i == j)) S := by
  rw [wp_optS (o := eqD S (.int i) (.int j)) (f := fun b => (.bl b, S)) rfl]
  simp [eqD_int]
@[simp] theorem wp_dNeI {i j : Int} {Q} : wp (dNe (.int i) (.int j)) S Q ↔ Q (.bl (!(i == j))) S := by
  rw [wp_optS (o := eqD S (.int i) (.int j)) (f := fun b => (.bl (!b), S)) rfl]
  simp [eqD_int]
theorem eqD_str {i j : Str} (hi : PyData.strOk i = true) (hj : PyData.strOk j = true) : eqD S (.str i) (.str j) = some (i == j) := by
  rw [eqD_see (rs_fit (m := 0) (by simpa using hi)) (rs_fit (m := 0) (by simpa using hj)) (by simpa using hi) (by simpa using hj)]
  simp [toP, PyData.eqv]
theorem wp_dEqS {i j : Str} (hi : PyData.strOk i = true) (hj : PyData.strOk j = true) {Q} : wp (dEq (.str i) (.str j)) S Q ↔ Q (.bl (i == j)) S := by
  rw [wp_optS (o := eqD S (.str i) (.str j)) (f := fun b => (.bl b, S)) rfl]
  simp [eqD_str hi hj]
end

@[simp] theorem wipeD_nil {ρ : Env} : wipeD ρ [] = ρ := by simp [wipeD]
@[simp] theorem wipeD_cons {ρ : Env} {v : Nat} {vs : List Nat} : wipeD ρ (v :: vs) = (wipeD ρ vs).set v none := by simp [wipeD]
@[simp] theorem put_nm {i : Nat} {d : D} {ρ ρ' : Env} : (Tg.nm i).put d ρ = some ρ' ↔ ρ.set i (some d) = ρ' := by simp [Tg.put]
@[simp] theorem put_tp {is : List Nat} {ds : List D} {ρ : Env} : (Tg.tp is).put (.tup ds) ρ = setAll is ds ρ := by simp [Tg.put]
@[simp] theorem setAll_nil {ρ : Env} : setAll [] [] ρ = some ρ := by simp [setAll]
@[simp] theorem setAll_cons {ρ : Env} {i : Nat} {is : List Nat} {d : D} {ds : List D} : setAll (i :: is) (d :: ds) ρ = setAll is ds (ρ.set i (some d)) := by simp [setAll]
theorem startD_eq {N : Nat} {ds : List D} : startD N ds = ds.map some ++ List.replicate (N - ds.length) none := rfl
/-! ### loops -/
theorem forL_idx {g : Tg} {ok : Store → Bool} {b : MS} {Q : Out → Store → Prop} (I : Nat → Env → Store → Prop) {xs : List D} {ρ : Env} {S : Store} (h0 : I 0 ρ S)
    (hs : ∀ i d ρ S, xs[i]? = some d → I i ρ S → ok S = true ∧ ∃ ρ', g.put d ρ = some ρ' ∧ wps b ρ' S fun o S' => match o with
      | .nx ρ2 => I (i + 1) ρ2 S'
      | .ct ρ2 => I (i + 1) ρ2 S'
      | .bk ρ2 => Q (.nx ρ2) S'
      | .rt d => Q (.rt d) S'
      | .ex c => Q (.ex c) S')
    (hn : ∀ ρ S, I xs.length ρ S → ok S = true ∧ Q (.nx ρ) S) : wps (mForL g ok b xs) ρ S Q := by
  suffices h : ∀ (ys : List D) (i : Nat) (ρ : Env) (S : Store), ys = xs.drop i → i ≤ xs.length → I i ρ S → wps (mForL g ok b ys) ρ S Q from h xs 0 ρ S rfl (Nat.zero_le _) h0
  intro ys
  induction ys with
  | nil =>
    intro i ρ S he hl hI
    have : i = xs.length := by
      have := congrArg List.length he
      simp at this
      omega
    subst this
    obtain ⟨ho, q⟩ := hn ρ S hI
    exact ⟨_, _, by simp [mForL, ho], q⟩
  | cons y ys ih =>
    intro i ρ S he hl hI
    have hi : i < xs.length := by
      have := congrArg List.length he
      simp at this
      omega
    rw [List.drop_eq_getElem_cons hi] at he
    obtain ⟨rfl, he2⟩ := List.cons.inj he
    obtain ⟨ho, ρ', hp, o, S', hb, q⟩ := hs i xs[i] ρ S (by simp [hi]) hI
    cases o with
    | nx ρ2 => obtain ⟨o, S3, e, q⟩ := ih (i + 1) ρ2 S' he2 hi q; exact ⟨o, S3, by unfold mForL; simp only [ho, if_true, hp, hb]; exact e, q⟩
    | ct ρ2 => obtain ⟨o, S3, e, q⟩ := ih (i + 1) ρ2 S' he2 hi q; exact ⟨o, S3, by unfold mForL; simp only [ho, if_true, hp, hb]; exact e, q⟩
    | bk ρ2 => exact ⟨_, S', by unfold mForL; simp only [ho, if_true, hp, hb], q⟩
    | rt d => exact ⟨_, S', by unfold mForL; simp only [ho, if_true, hp, hb], q⟩
    | ex c => exact ⟨_, S', by unfold mForL; simp only [ho, if_true, hp, hb], q⟩
theorem lcL_idx {vs : List Nat} {g : Tg} {ok : Store → Bool} {t : MT} {e : ME} {ρ : Env} {Q : List D → Store → Prop} (I : Nat → List D → Store → Prop) {xs : List D} {S : Store} (h0 : I 0 [] S)
    (hs : ∀ i d ys S, xs[i]? = some d → I i ys S → ok S = true ∧ ∃ ρ', g.put d (wipeD ρ vs) = some ρ' ∧ wp (t ρ') S fun b S1 => if b = true then wp (e ρ') S1 fun y S2 => I (i + 1) (ys ++ [y]) S2 else I (i + 1) ys S1)
    (hn : ∀ ys S, I xs.length ys S → ok S = true ∧ Q ys S) : wp (mLcL vs g ok t e ρ xs) S Q := by
  suffices h : ∀ (zs : List D) (i : Nat) (pre : List D) (S : Store), zs = xs.drop i → i ≤ xs.length → I i pre S → wp (mLcL vs g ok t e ρ zs) S fun ys S' => Q (pre ++ ys) S' by
    have := h xs 0 [] S rfl (Nat.zero_le _) h0
    simpa using this
  intro zs
  induction zs with
  | nil =>
    intro i pre S he hl hI
    have : i = xs.length := by
      have := congrArg List.length he
      simp at this
      omega
    subst this
    obtain ⟨ho, q⟩ := hn pre S hI
    exact ⟨[], S, by simp [mLcL, ho], by simpa using q⟩
  | cons y zs ih =>
    intro i pre S he hl hI
    have hi : i < xs.length := by
      have := congrArg List.length he
      simp at this
      omega
    rw [List.drop_eq_getElem_cons hi] at he
    obtain ⟨rfl, he2⟩ := List.cons.inj he
    obtain ⟨ho, ρ', hp, b, S1, hb, q⟩ := hs i xs[i] pre S (by simp [hi]) hI
    cases b with
    | false =>
      obtain ⟨ys, S2, e2, q2⟩ := ih (i + 1) pre S1 he2 hi (by simpa using q)
      exact ⟨ys, S2, by unfold mLcL; simp [ho, hp, hb, e2], q2⟩
    | true =>
      obtain ⟨z, S2, e2, q2⟩ := (by simpa using q : wp (e ρ') S1 fun y S2 => I (i + 1) (pre ++ [y]) S2)
      obtain ⟨ys, S3, e3, q3⟩ := ih (i + 1) _ S2 he2 hi q2
      exact ⟨z :: ys, S3, by unfold mLcL; simp [ho, hp, hb, e2, e3], by simpa using q3⟩
theorem rngD0 (n : Nat) : rngD 0 n = (List.range n).map fun i => .int (i : Nat) := by simp [rngD]
theorem forL_map {α : Type} {g : Tg} {ok : Store → Bool} {b : MS} {Q : Out → Store → Prop} (I : Nat → Env → Store → Prop) (c : α → D) (as : List α) {ρ : Env} {S : Store} (h0 : I 0 ρ S)
    (hs : ∀ i a ρ S, as[i]? = some a → I i ρ S → ok S = true ∧ (∃ ρ', g.put (c a) ρ = some ρ' ∧ wps b ρ' S fun o S' => match o with
      | .nx ρ2 => I (i + 1) ρ2 S'
      | .ct ρ2 => I (i + 1) ρ2 S'
      | .bk ρ2 => Q (.nx ρ2) S'
      | .rt d => Q (.rt d) S'
      | .ex c => Q (.ex c) S'))
    (hn : ∀ ρ S, I as.length ρ S → ok S = true ∧ Q (.nx ρ) S) : wps (mForL g ok b (as.map c)) ρ S Q :=
  forL_idx I h0 (fun i d ρ S hd hI => by
    rw [List.getElem?_map] at hd
    obtain ⟨a, ha, rfl⟩ := Option.map_eq_some_iff.mp hd
    exact hs i a ρ S ha hI) (by simpa using hn)
theorem forL_rng {n : Nat} {g : Tg} {b : MS} {Q : Out → Store → Prop} (I : Nat → Env → Store → Prop) {ρ : Env} {S : Store} (h0 : I 0 ρ S)
    (hs : ∀ (i : Nat) ρ S, i < n → I i ρ S → (∃ ρ', g.put (.int (i : Nat)) ρ = some ρ' ∧ wps b ρ' S fun o S' => match o with
      | .nx ρ2 => I (i + 1) ρ2 S'
      | .ct ρ2 => I (i + 1) ρ2 S'
      | .bk ρ2 => Q (.nx ρ2) S'
      | .rt d => Q (.rt d) S'
      | .ex c => Q (.ex c) S'))
    (hn : ∀ ρ S, I n ρ S → Q (.nx ρ) S) : wps (mForL g (fun _ => true) b (rngD 0 n)) ρ S Q := by
  rw [rngD0]
  exact forL_map I _ _ h0 (fun i a ρ S ha hI => by
    obtain ⟨h1, h2⟩ := List.getElem?_eq_some_iff.mp ha
    simp at h1 h2
    subst h2
    exact ⟨rfl, hs i ρ S h1 hI⟩) (fun ρ S hI => ⟨rfl, hn ρ S (by simpa using hI)⟩)
theorem lcL_map {α : Type} {vs : List Nat} {g : Tg} {ok : Store → Bool} {t : MT} {e : ME} {ρ : Env} {Q : List D → Store → Prop} (I : Nat → List D → Store → Prop) (c : α → D) (as : List α) {S : Store} (h0 : I 0 [] S)
    (hs : ∀ i a ys S, as[i]? = some a → I i ys S → ok S = true ∧ ∃ ρ', g.put (c a) (wipeD ρ vs) = some ρ' ∧ wp (t ρ') S fun b S1 => if b = true then wp (e ρ') S1 fun y S2 => I (i + 1) (ys ++ [y]) S2 else I (i + 1) ys S1)
    (hn : ∀ ys S, I as.length ys S → ok S = true ∧ Q ys S) : wp (mLcL vs g ok t e ρ (as.map c)) S Q :=
  lcL_idx I h0 (fun i d ys S hd hI => by
    rw [List.getElem?_map] at hd
    obtain ⟨a, ha, rfl⟩ := Option.map_eq_some_iff.mp hd
    exact hs i a ys S ha hI) (by simpa using hn)
theorem lcL_rng {n : Nat} {vs : List Nat} {g : Tg} {t : MT} {e : ME} {ρ : Env} {Q : List D → Store → Prop} (I : Nat → List D → Store → Prop) {S : Store} (h0 : I 0 [] S)
    (hs : ∀ (i : Nat) ys S, i < n → I i ys S → ∃ ρ', g.put (.int (i : Nat)) (wipeD ρ vs) = some ρ' ∧ wp (t ρ') S fun b S1 => if b = true then wp (e ρ') S1 fun y S2 => I (i + 1) (ys ++ [y]) S2 else I (i + 1) ys S1)
    (hn : ∀ ys S, I n ys S → Q ys S) : wp (mLcL vs g (fun _ => true) t e ρ (rngD 0 n)) S Q := by
  rw [rngD0]
  exact lcL_map I _ _ h0 (fun i a ys S ha hI => by
    obtain ⟨h1, h2⟩ := List.getElem?_eq_some_iff.mp ha
    simp at h1 h2
    subst h2
    exact ⟨rfl, hs i ys S h1 hI⟩) (fun ys S hI => ⟨rfl, hn ys S (by simpa using hI)⟩)
/-- a comprehension that changes nothing -/
theorem lcL_pure {α : Type} {vs : List Nat} {g : Tg} {ok : Store → Bool} {t : MT} {e : ME} {ρ : Env} {Q : List D → Store → Prop} {S : Store} (c : α → D) (p : α → Bool) (f : α → D) (as : List α) (ho : ok S = true)
    (h : ∀ a ∈ as, ∃ ρ', g.put (c a) (wipeD ρ vs) = some ρ' ∧ (wp (t ρ') S fun b S' => b = p a ∧ S' = S) ∧ (p a = true → wp (e ρ') S fun d S' => d = f a ∧ S' = S)) (q : Q ((as.filter p).map f) S) : wp (mLcL vs g ok t e ρ (as.map c)) S Q := by
  refine ⟨_, _, ?_, q⟩
  clear q
  induction as with
  | nil => simp [mLcL, ho]
  | cons a as ih =>
    obtain ⟨ρ', hp, ht, he⟩ := h a List.mem_cons_self
    have ih := ih fun b hb => h b (List.mem_cons_of_mem _ hb)
    have ht := wp_get ht
    rw [List.map_cons]
    unfold mLcL
    simp only [ho, if_true, hp, ht]
    cases hpa : p a with
    | false => rw [List.filter_cons_of_neg (by simp [hpa])]; exact ih
    | true => rw [List.filter_cons_of_pos hpa]; simp [wp_get (he hpa), ih]
theorem lcL_all {α : Type} {vs : List Nat} {g : Tg} {ok : Store → Bool} {e : ME} {ρ : Env} {Q : List D → Store → Prop} {S : Store} (c : α → D) (f : α → D) (as : List α) (ho : ok S = true)
    (h : ∀ a ∈ as, ∃ ρ', g.put (c a) (wipeD ρ vs) = some ρ' ∧ (wp (e ρ') S fun d S' => d = f a ∧ S' = S)) (q : Q (as.map f) S) : wp (mLcL vs g ok mTrue e ρ (as.map c)) S Q :=
  lcL_pure c (fun _ => true) f as ho (fun a ha => let ⟨ρ', h1, h2⟩ := h a ha; ⟨ρ', h1, by simp, fun _ => h2⟩) (by rw [List.filter_eq_self.mpr fun _ _ => rfl]; exact q)

@[simp] theorem putL_ref {n : Nat} {k : Int} {v : D} {S S' : Store} : putL (.ref n) (.int k) v S = some S' ↔ ∃ xs j, S[n]? = some (.lst xs) ∧ ixN xs.length k = some j ∧ S' = S.set n (.lst (xs.set j v)) := by
  constructor
  · intro h
    unfold putL at h
    dsimp only at h
    split at h
    · rename_i xs hs
      cases hx : ixN xs.length k with
      | none => rw [hx] at h; cases h
      | some j => rw [hx] at h; cases h; exact ⟨xs, j, hs, hx, rfl⟩
    · cases h
  · rintro ⟨xs, j, h1, h2, rfl⟩; simp [putL, h1, h2]
@[simp] theorem wps_swap {o1 i1 o2 i2 mv : ME} {ρ : Env} {S : Store} {Q} : wps (mSwap o1 i1 o2 i2 mv) ρ S Q ↔ wp (mv ρ) S fun d S1 => ∃ v1 v2, d = .tup [v1, v2] ∧ wp (o1 ρ) S1 fun a1 S2 => wp (i1 ρ) S2 fun k1 S3 => ∃ S4, putL a1 k1 v1 S3 = some S4 ∧ wp (o2 ρ) S4 fun a2 S5 => wp (i2 ρ) S5 fun k2 S6 => ∃ S7, putL a2 k2 v2 S6 = some S7 ∧ Q (.nx ρ) S7 := by
  constructor
  · rintro ⟨o, S', e, q⟩
    unfold mSwap at e
    split at e
    · rename_i v1 v2 S1 h1
      split at e
      · cases e
      · rename_i a1 S2 h2
        split at e
        · cases e
        · rename_i k1 S3 h3
          split at e
          · cases e
          · rename_i S4 h4
            split at e
            · cases e
            · rename_i a2 S5 h5
              split at e
              · cases e
              · rename_i k2 S6 h6
                cases hx : putL a2 k2 v2 S6 with
                | none => rw [hx] at e; cases e
                | some S7 => rw [hx] at e; cases e; exact ⟨_, S1, h1, v1, v2, rfl, a1, S2, h2, k1, S3, h3, S4, h4, a2, S5, h5, k2, S6, h6, _, hx, q⟩
    · cases e
  · rintro ⟨_, S1, h1, v1, v2, rfl, a1, S2, h2, k1, S3, h3, S4, h4, a2, S5, h5, k2, S6, h6, S7, hx, q⟩
    exact ⟨_, S7, by simp only [mSwap, h1, h2, h3, h4, h5, h6, hx, Option.map_some], q⟩

/-! ### calls -/
theorem rk_fit {k m : Nat} {S : Store} {f : Nat} {d : D} (h : nr d = true) : rk k S f d = d := rk_below S f (nr_below k d h)
@[simp] theorem nr_int {i : Int} : nr (.int i) = true := by simp [nr]
@[simp] theorem nr_bl {i : Bool} : nr (.bl i) = true := by simp [nr]
@[simp] theorem nr_str {i : Str} : nr (.str i) = true := by simp [nr]
@[simp] theorem nr_non : nr .non = true := by simp [nr]
@[simp] theorem nr_ref {n : Nat} : nr (.ref n) = false := by simp [nr]
@[simp] theorem nr_tpi {n : List Int} : nr (.tpi n) = true := by simp [nr]
@[simp] theorem nr_scr {n : List Int} : nr (.scr n) = true := by simp [nr]
theorem nrs_eq : ∀ ds : List D, nrs ds = ds.all nr
  | [] => by simp [nrs]
  | d :: ds => by simp [nrs, nrs_eq ds]
theorem belows_eq (k : Nat) : ∀ ds : List D, belows k ds = ds.all (below k)
  | [] => by simp [belows]
  | d :: ds => by simp [belows, belows_eq k ds]
@[simp] theorem nr_tup {n : List D} : nr (.tup n) = n.all nr := by simp [nr, nrs_eq]
@[simp] theorem nr_lst {n : List D} : nr (.lst n) = n.all nr := by simp [nr, nrs_eq]
@[simp] theorem below_int {k : Nat} {i : Int} : below k (.int i) = true := by simp [below]
@[simp] theorem below_bl {k : Nat} {i : Bool} : below k (.bl i) = true := by simp [below]
@[simp] theorem below_str {k : Nat} {i : Str} : below k (.str i) = true := by simp [below]
@[simp] theorem below_non {k : Nat} : below k .non = true := by simp [below]
@[simp] theorem below_ref {k n : Nat} : below k (.ref n) = decide (n < k) := by simp [below]
@[simp] theorem below_tpi {k : Nat} {n : List Int} : below k (.tpi n) = true := by simp [below]
@[simp] theorem below_scr {k : Nat} {n : List Int} : below k (.scr n) = true := by simp [below]
@[simp] theorem below_tup {k : Nat} {n : List D} : below k (.tup n) = n.all (below k) := by simp [below, belows_eq]
@[simp] theorem below_lst {k : Nat} {n : List D} : below k (.lst n) = n.all (below k) := by simp [below, belows_eq]
@[simp] theorem belowO_lst {k : Nat} {n : List D} : belowO k (.lst n) = n.all (below k) := by simp [belowO, belows_eq]
@[simp] theorem outD_rt {d : D} : outD (.rt d) = some d := by simp [outD]
@[simp] theorem outD_nx {ρ : Env} : outD (.nx ρ) = some .non := by simp [outD]
theorem clo_nr {k : Nat} {d : D} {S : Store} {r : D × Store} (h : nr d = true) : clo k d S = some r ↔ (S.take k).all (belowO k) = true ∧ r = (d, S.take k) := by
  unfold clo
  rw [rk_fit (m := 0) h, nr_below k d h]
  simp only [Bool.true_and]
  split
  · rename_i h; simp [h, eq_comm]
  · rename_i h; simp [h]
@[simp] theorem clo_ex {k : Nat} {d : D} {S : Store} {Q : D → Store → Prop} (h : nr d = true) : (∃ d' S2, clo k d S = some (d', S2) ∧ Q d' S2) ↔ (S.take k).all (belowO k) = true ∧ Q d (S.take k) := by
  constructor
  · rintro ⟨d', S2, e, q⟩; obtain ⟨h1, h2⟩ := (clo_nr h).mp e; cases h2; exact ⟨h1, q⟩
  · rintro ⟨h1, q⟩; exact ⟨_, _, (clo_nr h).mpr ⟨h1, rfl⟩, q⟩
theorem wp_call {k : Nat} {f : List D → M D} {ds : List D} {S : Store} {Q : D → Store → Prop} (hk : k ≤ S.length) (hS : (S.take k).all (belowO k) = true) (hd : belows k ds = true) (h : wp (f ds) (S.take k) fun d S1 => S1.length = k ∧ Q d (S1 ++ S.drop k)) : wp (callF k f ds) S Q := by
  obtain ⟨d, S1, e, h1, q⟩ := h
  refine ⟨_, _, ?_, q⟩
  have e1 : ds.map (rk k S 4) = ds := by
    have : ∀ d ∈ ds, rk k S 4 d = d := fun d hd' => rk_below S 4 (belows_mem hd d hd')
    conv => rhs; rw [← List.map_id ds]
    exact List.map_congr_left this
  have e2 : ds.all (below k) = true := List.all_eq_true.mpr (belows_mem hd)
  unfold callF
  rw [e1, if_pos (by simp [hk, e2]; simpa using hS)]
  simp [e, h1, hd]
/-- a call by the two objects of a stream -/
theorem wp_call2 {f : List D → M D} {ds : List D} {x y : MO} {rest : Store} {Q : D → Store → Prop} {R : MO → MO → Prop} {P : D → Prop} (hx : belowO 2 x = true) (hy : belowO 2 y = true) (hd : nrs ds = true)
    (h : wp (f (.ref 1 :: ds)) [x, y] fun d S' => ∃ x' y', S' = [x', y'] ∧ R x' y' ∧ P d) (q : ∀ x' y' d, R x' y' → P d → Q d (x' :: y' :: rest)) : wp (callF 2 f (.ref 1 :: ds)) (x :: y :: rest) Q :=
  wp_call (by simp) (by simp [hx, hy]) (by simp [belows, below, nrs_belows 2 ds hd]) (wp_mono (show wp (f (.ref 1 :: ds)) [x, y] _ from h) fun d S1 hh => by obtain ⟨x', y', e, h1, h2⟩ := hh; subst e; exact ⟨rfl, by simpa using q x' y' d h1 h2⟩)
theorem wp_call0 {f : List D → M D} {ds : List D} {S : Store} {Q : D → Store → Prop} (hd : nrs ds = true) (h : wp (f ds) [] fun d S1 => S1 = [] ∧ Q d S) : wp (callF 0 f ds) S Q :=
  wp_call (Nat.zero_le _) rfl (nrs_belows 0 ds hd) (wp_mono h fun d S1 ⟨e, q⟩ => ⟨by rw [e]; rfl, by rw [e]; exact q⟩)

/-! ### kinds, slices, truth -/
@[simp] theorem truD_bl {S : Store} {b : Bool} : truD S (.bl b) = some b := by simp [truD]
@[simp] theorem truD_int {S : Store} {b : Int} : truD S (.int b) = some (b != 0) := by simp [truD]
@[simp] theorem truD_tup {S : Store} {b : List D} : truD S (.tup b) = some (!b.isEmpty) := by simp [truD]
theorem truD_lst {S : Store} {b : List D} : truD S (.lst b) = some (!b.isEmpty) := by simp [truD, asL]
theorem truD_ref {S : Store} {n : Nat} {b : List D} (h : S[n]? = some (.lst b)) : truD S (.ref n) = some (!b.isEmpty) := by simp [truD, asL, h]
theorem tyD_ref {S : Store} {n : Nat} {b : List D} (h : S[n]? = some (.lst b)) : tyD S (.ref n) = some "list" := by simp [tyD, h]
@[simp] theorem tyD_lst {S : Store} {b : List D} : tyD S (.lst b) = some "list" := by simp [tyD]
@[simp] theorem tyD_tup {S : Store} {b : List D} : tyD S (.tup b) = some "tuple" := by simp [tyD]
@[simp] theorem isiB_list : isiB "list" "list" = true := by decide
@[simp] theorem isiB_tuple : isiB "tuple" "tuple" = true := by decide
@[simp] theorem isiB_tl : isiB "tuple" "list" = false := by decide
@[simp] theorem isiB_lt : isiB "list" "tuple" = false := by decide
theorem cutD_last {xs : List D} {a : D} : cutD (xs ++ [a]) (some (-1)) none = [a] := by
  unfold cutD HT.sIx
  have h : (-1 + ((xs ++ [a]).length : Int)).toNat = xs.length := by simp; omega
  simp only [h]
  simp
end Z
set_option Elab.async false
set_option linter.all false
set_option maxRecDepth 100000
/-! What is known of the guards at the top: repr of plain data; sorted of tuples of whole numbers. -/
namespace L2
open PySem PySem.Spec PyProof.Rows
/-- a promise where no guard stands around -/
def GRun (P : Program) (w : World) (K : PySem.W.Frag) (mg : Str → Option Value) (base : Heap) (CX : CXT) (k : Nat) (f : Addr) (fd : FuncData) (ps : List Str) (sp : Sp) : Prop :=
  ∀ (A : Around) (outer : List Env) (s : Shared) (H : Hp) (args : Args) (us : List Value) (vs : List V) (Q : VK) (E : XK), A.guards = some [] → Room k A → Env0 P w K mg base A outer s H → BindsTo s fd args (ps.zip us) → Vals vs us → sp vs H Q E →
    codeAny (model P w) A (.call (.ref f) args) (CR CX outer P w H s Q E) s
section
variable {P : Program} {w : World} {K : PySem.W.Frag} {mg : Str → Option Value} {base : Heap}
theorem Fun.okG {x qual : Str} {st : Stmt} {f : Addr} {fd : FuncData} {N ps : List Str} {k : Nat} {sp : Sp} (F : Fun K x qual st f fd) (S : FnScope N ps (defScope st)) (len : ∀ vs H Q E, sp vs H Q E → vs.length = ps.length)
    (hb : ∀ (cdv : Value) (A : Around) (outer : List Env) (s : Shared) (H : Hp) (vs : List V) (Q : VK) (E : XK), A.guards = some [] → Room k (A.deeper (envOfC qual (defScope st) s.heap.objs.size f cdv)) → sp vs H Q E →
      ∃ t, PSs (cxOf CX0 P w K mg base N qual (defScope st) f cdv A outer s H E).nox (defBody st) t ∧ t { nx := fun _ H' => Q .non H', rt := Q } (start N vs) H) : GRun P w K mg base CX0 (k + 1) f fd ps sp := by
  obtain ⟨oc, od, kV, doc, pm, an, cdv, ct, osl, rfl, lk, hcd⟩ := F.ex
  intro A outer s H args us vs Q E hg hr e0 bind r hs
  obtain ⟨t, ht, hq⟩ := hb cdv A outer s H vs Q E hg (hr.deeper _) hs
  have ht := ht.nox
  have hl := len _ _ _ _ hs
  have kin : K.In s.heap := e0.mod.kin.keeps fun b o e => (e0.bs b o e).1
  have nol : s.heap.NoLimit := e0.mod.nolimit.keeps fun b o e => (e0.bs b o e).1
  have par : ∀ y ∈ ps.zip us, (defScope st).names.lookup y.1 = some .local ∨ ((defScope st).names.lookup y.1 = some .cell ∧ ((cellsFrom (s.heap.objs.size + 1) (defScope st).names []).lookup y.1).isSome = true) := by
    rintro ⟨n, v⟩ hy
    rcases S.par n (List.of_mem_zip hy).1 with q | q
    · exact .inl q
    · exact .inr ⟨q, PySem.W.cellsFrom_some _ _ _ (.inl q)⟩
  refine codeAny_call_function hr.depth (kin _ _ lk) rfl S.co S.gen rfl (PySem.W.codeRec_of kin hcd) (bind _ _ _ _ (wpAny_newFunctionEnv_cells S.kind par ?_))
  rintro env rfl s1 x
  have J := inv_start (CX := CX0) (E := E) (cd := cdv) S hr.hd e0 hl r x
  refine ⟨nol.keeps x.toInCall.keep, codeAny_func (wpAny_mono (ht.run [] s1 (start N vs) H _ J hq) ?_ fun _ _ z => z)⟩
  intro fl s' z
  cases fl with
  | next => obtain ⟨_, H', J, q⟩ := z; exact ⟨.non, H', J.os, J.bare, J.base, J.hok, rfl, q⟩
  | ret u => obtain ⟨v, _, H', J, rv, q⟩ := z; exact ⟨v, H', J.os, J.bare, J.base, J.hok, rv, q⟩
  | brk => obtain ⟨_, _, _, q⟩ := z; exact q.elim
  | cont => obtain ⟨_, _, _, q⟩ := z; exact q.elim
end
/-- the whole law, from the promise at the top -/
theorem top_call {P : Program} {w : World} {K : PySem.W.Frag} {mg mb : Str → Option Value} {k : Nat} {fa a : Addr} {fd : FuncData} {x : Str} {sp : Sp} {s : Shared} {vs : List Value} {ns : List Int}
    (KX : K.In s.heap) (hn : s.heap.Ns mainGlobals mg) (hb : s.heap.Ns builtinsNs mb) (hbb : ∀ x : Str, x ≠ "__name__" → mb x = bootBuiltins x) (hm : s.heap.NoLimit) (hg : s.gens = #[])
    (ha : s.heap.get? a = some { cls := .type "list", data := .seq vs.toArray }) (hi : IntsAre vs ns) (hl : ns.length ≤ sizeLine) (hr : Room k callerA)
    (F : ∀ base : Heap, K.In base → base.Ns mainGlobals mg → GRun P w K mg base CX0 k fa fd [x] sp) (hbind : ∀ (s : Shared) (u : Value), BindsTo s fd ⟨[u], []⟩ [(x, u)])
    (hsp : ∀ H : Hp, Only H → SqL K H a (ns.map V.int) → sp [.ref a] H (fun v _ => v = .bl true) fun _ _ _ => False) :
    codeAny (model P w) callerA (.call (.ref fa) ⟨[.ref a], []⟩) (fun r s' => r = .ok (.ret (.bool true)) ∧ OldK s.heap s'.heap ∧ s'.os = s.os ∧ AllBare s'.gens) s := by
  have rv := vals_ints hi
  have nv := hi.length
  -- what is tracked at the start: H, and nothing but the script in it
  suffices go : ∀ H : Hp, Only H → SqL K H a (ns.map V.int) → HOk P w H s.heap → (∀ b, H b ≠ none → b = a ∧ K.lookup a = none) →
      codeAny (model P w) callerA (.call (.ref fa) ⟨[.ref a], []⟩) (fun r s' => r = .ok (.ret (.bool true)) ∧ OldK s.heap s'.heap ∧ s'.os = s.os ∧ AllBare s'.gens) s by
    cases hk : K.lookup a with
    | some o =>
      have e := KX a o hk
      rw [ha] at e
      cases e
      refine go (fun _ => none) (fun _ => .inl rfl) (.inr ⟨_, vs.toArray, 0, hk, rfl, rfl, rfl, ?_, by simpa using rv⟩) (fun _ _ z => nomatch z) fun _ z => (z rfl).elim
      rw [List.size_toArray, nv]
      exact hl
    | none =>
      let o0 : Obj := { cls := .type "list", data := .seq vs.toArray }
      let H0 : Hp := fun b => if b = a then some (.frz o0 (.lst (ns.map V.int))) else none
      have at0 : H0 a = some (.frz o0 (.lst (ns.map V.int))) := if_pos rfl
      have off : ∀ {b}, b ≠ a → H0 b = none := fun h => if_neg h
      refine go H0 (fun b => ?_) (.inl (.inr ⟨o0, at0⟩)) (fun b u z => ?_) fun b z => ⟨Classical.byContradiction fun h => z (off h), hk⟩
      · rcases Classical.em (b = a) with rfl | h
        · exact .inr ⟨_, _, at0⟩
        · exact .inl (off h)
      · rcases Classical.em (b = a) with rfl | h
        · rw [at0] at z
          cases z
          exact ⟨ha, by rw [List.length_map]; exact hl, vs, 0, rv, ha⟩
        · rw [off h] at z
          cases z
  intro H only sq ok tr
  have none_of : ∀ {b : Addr}, (H b ≠ none → False) → H b = none := fun {b} h => Classical.byContradiction h
  have dicts : ∀ {b : Addr} {m : Str → Option Value}, s.heap.Ns b m → (hidT s.heap H).Ns b m := by
    rintro b m ⟨o, es, ep, e, d, r⟩
    refine ⟨o, es, ep, hidT_get e (none_of fun z => ?_), d, r⟩
    obtain ⟨rfl, _⟩ := tr b z
    rw [ha] at e
    cases e
    exact nomatch (show Data.seq vs.toArray _ = Data.dict es ep from d)
  have kin : K.In (hidT s.heap H) := fun b o e => hidT_get (KX b o e) (none_of fun z => by
    obtain ⟨rfl, h⟩ := tr b z
    rw [h] at e
    cases e)
  obtain ⟨mc, l1, l2⟩ := hm
  have e0 : Env0 P w K mg (hidT s.heap H) callerA [] s H := ⟨rfl, ⟨kin, dicts hn, ⟨mb, dicts hb, hbb⟩, ⟨mc, dicts l1, l2⟩⟩, fun _ _ e => of_hidT e, Nat.le_of_eq (hidT_size _ _), trivial, (fun _ z => nomatch z), ok, .of_eq hg⟩
  refine codeAny_mono (F _ kin (dicts hn) callerA [] s H ⟨[.ref a], []⟩ [.ref a] [.ref a] _ _ rfl hr e0 (hbind s (.ref a)) (.cons rfl .nil) (hsp H only sq)) ?_
  intro r s' z
  match r, z with
  | .error _, z => exact z.elim
  | .ok (.ret u), ⟨v, H', os, bare, un, ok', r', q⟩ =>
    have q : v = .bl true := q
    subst q
    cases (show u = Value.bool true from r')
    refine ⟨rfl, OldK.of_keep fun b o e => ?_, os, bare⟩
    cases hb : H b with
    | none => exact un.keep b o e hb (fun z => nomatch z) (by simp)
    | some u =>
      rcases only b with z | ⟨ob, xs, z⟩
      · rw [hb] at z
        cases z
      · have g1 := (ok b _ z).1
        have g2 := (ok' b _ (un.frzs b ob _ z)).1
        rw [e] at g1
        cases g1
        exact g2
  | .ok .next, z => exact z.elim
  | .ok .brk, z => exact z.elim
  | .ok .cont, z => exact z.elim
theorem walkG {l : PySem.W.OpenLaw} {n k : Nat} {q : Program} {loose : List Str} {XP : (Str → Option Value) → Heap → Prop} {YP : World → Heap → Prop} {d : DefRec} {K : Params → PySem.W.Frag} {sp : World → Sp} {x : Str}
    (hn : l.most = some n) (hz : n ≤ sizeLine) (hdf : d.params.defaults = []) (hr : Room k callerA) (hY : ∀ (w : World) (h : Heap), YP w h → (K w.params).In h)
    (F : ∀ (w : World) (mg : Str → Option Value) (fa : Addr) (h : Heap), (K w.params).In h → h.Ns mainGlobals mg → mg d.name = some (.ref fa) →
      ∃ fd : FuncData, (∀ (s : Shared) (u : Value), BindsTo s fd ⟨[u], []⟩ [(x, u)]) ∧ ∀ base : Heap, (K w.params).In base → base.Ns mainGlobals mg → GRun l.prog w (K w.params) mg base CX0 k fa fd [x] (sp w))
    (hs : ∀ (w : World) (H : Hp) (a : Addr) (ns : List Int), ns.length ≤ n → Only H → SqL (K w.params) H a (ns.map V.int) → sp w [.ref a] H (fun v _ => v = .bl true) fun _ _ _ => False) :
    PySem.W.WalkO q loose XP YP l.row.toRowW d [] (fun f vs => PySem.call f vs) :=
  Att.attach_call hn hdf fun w _ s1 mg _ fa _ _ _ _ a _ ns G Y _ _ _ hmg hobj hints hlen hg =>
    let ⟨_, hb, hF⟩ := F w mg fa _ (hY w _ Y) G.T.g hmg
    top_call (hY w _ Y) G.T.g G.T.b G.T.builtins G.T.nolimit hg hobj hints (Nat.le_trans hlen hz) hr hF hb fun H o h => hs w H a ns hlen o h
/-- repr of plain data that is behind a reference -/
def rRepr (K : PySem.W.Frag) : List V → Hp → VK → Prop := fun vs H Q => ∃ (a : Addr) (d : PyData), vs = [.ref a] ∧ Dp K H (.ref a) d ∧ d.showable = true ∧ d.hasDict = false ∧ d.depth ≤ 60 ∧ d.shown.length ≤ sizeLine ∧ Q (.str d.shown) H
theorem cr_repr {X : Cx} (hg : X.A.guards = some []) (hu : X.A.units + 64 < cLine) : CallR X (.builtin "repr") (rRepr X.K) := fun pins s σ H vs us Q I r ⟨a, d, e, hd, h1, h2, h3, h4, q⟩ => by
  subst e
  rw [Vals.ref1 r]
  obtain ⟨as, rd⟩ := Dp.reads I d (.ref a) (.ref a) hd rfl
  exact repr_of_reads' rd h1 (PyData.noDict_hsm h2) hg (by omega) (fun _ _ e => e) (fun h' u tk hk => ⟨.str d.shown, H, I.kept hk, ⟨u, rfl⟩, q⟩) h4
end L2
set_option Elab.async false
set_option linter.all false
set_option maxRecDepth 100000
/-! repr, equality of texts, sorted of tuples; the def at the top. -/
namespace Z
open PySem L2
open PyProof.Rows (envOfC)

/-! ### texts -/
def dEqS (d e : D) : M D := match d, e with
  | .str a, .str b => ret (.bl (decide (a = b)))
  | _, _ => fail
def dNeS (d e : D) : M D := match d, e with
  | .str a, .str b => ret (.bl (!decide (a = b)))
  | _, _ => fail
theorem r_eqS {K : PySem.W.Frag} : R2S K rEq dEqS := fun B al S H d e z v w S' R r1 r2 h Q q => by
  unfold dEqS at h
  split at h
  · obtain ⟨rfl, rfl⟩ := ret_some h
    cases r1; cases r2
    refine ⟨rfl, ?_⟩
    have := q _ al H R .refl (.bl _)
    rename_i a b
    rwa [show decide (V.str a = V.str b) = decide (a = b) by simp]
  · cases h
theorem r_neS {K : PySem.W.Frag} : R2S K rNe dNeS := fun B al S H d e z v w S' R r1 r2 h Q q => by
  unfold dNeS at h
  split at h
  · obtain ⟨rfl, rfl⟩ := ret_some h
    cases r1; cases r2
    refine ⟨rfl, ?_⟩
    have := q _ al H R .refl (.bl _)
    rename_i a b
    rwa [show decide (V.str a = V.str b) = decide (a = b) by simp]
  · cases h
@[simp] theorem wp_dEqS' {a b : Str} {S : Store} {Q} : wp (dEqS (.str a) (.str b)) S Q ↔ Q (.bl (decide (a = b))) S := by unfold dEqS; simp
@[simp] theorem wp_dNeS {a b : Str} {S : Store} {Q} : wp (dNeS (.str a) (.str b)) S Q ↔ Q (.bl (!decide (a = b))) S := by unfold dNeS; simp

/-! ### repr -/
def boxD : D → Bool
  | .tup _ => true
  | .tpx _ => true
  | .lst _ => true
  | _ => false
def showD (d : D) : Bool := boxD d && nr d && (toP d).showable && !(toP d).hasDict && decide ((toP d).depth ≤ 60) && decide ((toP d).shown.length ≤ sizeLine)
def cRepr (ds : List D) : M D := fun S => match ds with
  | [d] => if showD (rs S 4 d) then some (.str (toP (rs S 4 d)).shown, S) else none
  | _ => none
theorem c_repr {K : PySem.W.Frag} : CRS K (rRepr K) cRepr := fun B al S H ds z vs S' R r1 h Q q => by
  unfold cRepr at h
  split at h
  · rename_i d
    split at h
    · rename_i hc
      cases h
      obtain ⟨v, rfl, rv⟩ := rl_one r1
      simp only [showD, Bool.and_eq_true, Bool.not_eq_true', decide_eq_true_eq] at hc
      obtain ⟨⟨⟨⟨⟨h0, h1⟩, h2⟩, h3⟩, h4⟩, h5⟩ := hc
      have g := rs_frz R 4 rv h1
      have ha : ∃ a, v = .ref a := by
        generalize rs S 4 d = e at g h0
        cases g <;> first | exact ⟨_, rfl⟩ | cases h0
      obtain ⟨a, rfl⟩ := ha
      exact ⟨a, _, rfl, dp_of g h1, h2, h3, h4, h5, q _ al H R .refl (.str _)⟩
    · cases h
  · cases h
theorem wp_cRepr {d v : D} {S : Store} {Q} (h : rs S 4 d = v) (hs : showD v = true) (q : Q (.str (toP v).shown) S) : wp (cRepr [d]) S Q := ⟨_, _, by simp only [cRepr, h, hs, if_true], q⟩

/-! ### sorted, tuples of whole numbers -/
def tupI (ns : List Int) : D := .tup (ns.map .int)
def tupsOf : List D → Option (List (List Int))
  | [] => some []
  | .tup xs :: ds => (intsOf xs).bind fun ns => (tupsOf ds).map (ns :: ·)
  | _ => none
def okT (d : Nat) (B : Int) (ns : List Int) : Bool := decide (ns.length = d) && ns.all fun m => decide (0 ≤ m ∧ m < B)
def srtT (B : Int) (nss : List (List Int)) : List (List Int) := nss.mergeSort fun a b => decide (TS.code B a ≤ TS.code B b)
def cSortT (d : Nat) (B : Int) (ds : List D) : M (List D) := fun S => match ds with
  | [x] => ((asLC S x).bind tupsOf).bind fun nss => if nss.length < 64 ∧ nss.all (okT d B) = true then some ((srtT B nss).map tupI, S) else none
  | _ => none
theorem srtT_perm (B : Int) (nss : List (List Int)) : (srtT B nss).Perm nss := List.mergeSort_perm nss _
theorem srtT_sorted (B : Int) (nss : List (List Int)) : (srtT B nss).Pairwise fun a b => TS.code B a ≤ TS.code B b := by
  have h := List.pairwise_mergeSort (le := fun a b : List Int => decide (TS.code B a ≤ TS.code B b)) (fun a b c h1 h2 => by simp at *; omega) (fun a b => by simp; omega) nss
  exact h.imp fun h => by simpa using h
theorem okT_bd {d : Nat} {B : Int} {ns : List Int} (h : okT d B ns = true) : ns.length = d ∧ TS.Bd B ns := by
  simp only [okT, Bool.and_eq_true, decide_eq_true_eq, List.all_eq_true] at h
  exact ⟨h.1, fun m hm => h.2 m hm⟩
theorem code_inj {B : Int} : ∀ {a b : List Int}, a.length = b.length → TS.Bd B a → TS.Bd B b → TS.code B a ≤ TS.code B b → TS.code B b ≤ TS.code B a → a = b
  | [], [], _, _, _, _, _ => rfl
  | x :: a, y :: b, hl, ha, hb, h1, h2 => by
    have hl' : a.length = b.length := by simpa using hl
    rcases Int.lt_trichotomy x y with h | h | h
    · exact absurd (TS.code_lt hl' ha.tail hb.tail h) (by omega)
    · subst h
      have e1 := Int.not_lt.mp (fun z => absurd ((TS.code_same (B := B) (d := x) hl').mpr z) (by omega) : ¬ TS.code B a < TS.code B b)
      have e2 := Int.not_lt.mp (fun z => absurd ((TS.code_same (B := B) (d := x) hl'.symm).mpr z) (by omega) : ¬ TS.code B b < TS.code B a)
      rw [code_inj hl' ha.tail hb.tail e2 e1]
    · exact absurd (TS.code_lt hl'.symm hb.tail ha.tail h) (by omega)
section
variable {K : PySem.W.Frag} {B : Addr → Prop} {al : List Addr} {H : Hp}
theorem rl_perm {α : Type} {f : α → D} : ∀ {vs ys : List V}, vs.Perm ys → ∀ {as : List α}, RL K B al H (as.map f) vs → ∃ bs : List α, bs.Perm as ∧ RL K B al H (bs.map f) ys := by
  intro vs ys p
  induction p with
  | nil => intro as r; exact ⟨as, .refl _, r⟩
  | cons x p ih =>
    intro as r
    cases as with
    | nil => cases r
    | cons a as =>
      cases r with
      | cons _ _ _ _ h r => obtain ⟨bs, q, s⟩ := ih r; exact ⟨a :: bs, q.cons a, .cons _ _ _ _ h s⟩
  | swap x y l =>
    intro as r
    cases as with
    | nil => cases r
    | cons a as =>
      cases r with
      | cons _ _ _ _ h r =>
        cases as with
        | nil => cases r
        | cons b as => cases r with | cons _ _ _ _ h2 r => exact ⟨b :: a :: as, .swap _ _ _, .cons _ _ _ _ h2 (.cons _ _ _ _ h r)⟩
  | trans p q ih1 ih2 =>
    intro as r
    obtain ⟨bs, e1, r1⟩ := ih1 r
    obtain ⟨cs, e2, r2⟩ := ih2 r1
    exact ⟨cs, e2.trans e1, r2⟩
theorem rl_intsV : ∀ {ns : List Int} {vs : List V}, RL K B al H (ns.map .int) vs → vs = ns.map V.int
  | [], _, r => by cases r; rfl
  | n :: ns, _, r => by cases r with | cons _ _ _ _ h r => cases h; rw [rl_intsV r]; rfl
theorem rv_tupI {ns : List Int} {v : V} (r : RV K B al H (tupI ns) v) : TupI K H v ns := by
  cases r with
  | tup a ds vs h r => rw [rl_intsV r] at h; exact ⟨a, rfl, .of h⟩
theorem rl_pairT {C : Int} : ∀ {nss : List (List Int)} {ys : List V}, RL K B al H (nss.map tupI) ys → ys.Pairwise (fun x y => ∀ n m, TupI K H x n → TupI K H y m → TS.code C n ≤ TS.code C m) → nss.Pairwise fun a b => TS.code C a ≤ TS.code C b
  | [], _, _, _ => .nil
  | a :: nss, _, r, p => by
    cases r with
    | cons _ _ _ vs h r =>
      obtain ⟨p1, p2⟩ := List.pairwise_cons.mp p
      refine List.pairwise_cons.mpr ⟨fun b hb => ?_, rl_pairT r p2⟩
      obtain ⟨i, hi, rfl⟩ := List.getElem_of_mem hb
      obtain ⟨v, hv, rv⟩ := r.get (i := i) (d := tupI nss[i]) (by simp [hi])
      exact p1 v (List.mem_of_getElem? hv) _ _ (rv_tupI h) (rv_tupI rv)
theorem tupsOf_some : ∀ {ds : List D} {nss : List (List Int)}, tupsOf ds = some nss → ds = nss.map tupI
  | [], _, h => by cases h; rfl
  | .tup xs :: ds, nss, h => by
    simp only [tupsOf, Option.bind_eq_some_iff, Option.map_eq_some_iff] at h
    obtain ⟨ns, h1, m, h2, rfl⟩ := h
    rw [tupsOf_some h2]
    have : ∀ {xs : List D} {ns : List Int}, intsOf xs = some ns → xs = ns.map .int := by
      intro xs
      induction xs with
      | nil => intro ns h; cases h; rfl
      | cons x xs ih =>
        intro ns h
        cases x <;> simp [intsOf] at h
        obtain ⟨m, h1, rfl⟩ := h
        rw [ih h1]; rfl
    rw [this h1]
    rfl
  | .non :: _, _, h => by simp [tupsOf] at h
  | .bl _ :: _, _, h => by simp [tupsOf] at h
  | .int _ :: _, _, h => by simp [tupsOf] at h
  | .str _ :: _, _, h => by simp [tupsOf] at h
  | .lst _ :: _, _, h => by simp [tupsOf] at h
  | .scr _ :: _, _, h => by simp [tupsOf] at h
  | .tpi _ :: _, _, h => by simp [tupsOf] at h
  | .dcf _ :: _, _, h => by simp [tupsOf] at h
  | .tpx _ :: _, _, h => by simp [tupsOf] at h
  | .ref _ :: _, _, h => by simp [tupsOf] at h
theorem tupsOf_map : ∀ nss : List (List Int), tupsOf (nss.map tupI) = some nss
  | [] => rfl
  | ns :: nss => by simp [tupsOf, tupI, intsOf_map]; exact tupsOf_map nss
theorem c_sortT {d : Nat} {C : Int} : CRF K (rSortU K d C) (cSortT d C) := fun B al S H ds z vs S' R r1 h Q q => by
  unfold cSortT at h
  split at h
  · rename_i x
    cases hx : asLC S x with
    | none => rw [hx] at h; cases h
    | some xs =>
      rw [hx, Option.bind_some] at h
      cases hy : tupsOf xs with
      | none => rw [hy] at h; cases h
      | some nss =>
        rw [hy, Option.bind_some] at h
        split at h
        · rename_i hc
          cases h
          obtain ⟨h64, hall⟩ := hc
          obtain ⟨v, rfl, rv⟩ := rl_one r1
          obtain ⟨a, us, rfl, ha, ra⟩ := asLC_rep R rv hx
          rw [tupsOf_some hy] at ra
          have hin : ∀ ns ∈ nss, ns.length = d ∧ TS.Bd C ns := fun ns hn => okT_bd (List.all_eq_true.mp hall ns hn)
          refine ⟨a, us, rfl, ha, by rw [← ra.len, List.length_map]; exact h64, fun u hu => ?_, fun ys p hp hs h0 => ?_⟩
          · obtain ⟨i, hi, rfl⟩ := List.getElem_of_mem hu
            have hi2 : i < nss.length := by rw [← ra.len, List.length_map] at hi; exact hi
            obtain ⟨v, hv, rv⟩ := ra.get (i := i) (d := tupI nss[i]) (by simp [hi2])
            rw [List.getElem?_eq_getElem hi] at hv
            cases hv
            obtain ⟨e1, e2⟩ := hin nss[i] (List.getElem_mem hi2)
            exact ⟨_, rv_tupI rv, e1, e2⟩
          · obtain ⟨mss, hm, rm⟩ := rl_perm hp.symm ra
            have pm := rl_pairT rm hs
            have hm2 := hm.trans (srtT_perm C nss).symm
            obtain rfl : mss = srtT C nss := hm2.eq_of_pairwise (fun a b ha hb h1 h2 => by
              obtain ⟨a1, a2⟩ := hin a (hm.mem_iff.mp ha)
              obtain ⟨b1, b2⟩ := hin b ((srtT_perm C nss).mem_iff.mp hb)
              exact code_inj (a1.trans b1.symm) a2 b2 h1 h2) pm (srtT_sorted C nss)
            obtain ⟨g1, g2, g3, g4, g5⟩ := new_F R .refl h0 rm
            exact q p _ al _ g1 g2 g3 g4 g5
        · cases h
  · cases h
end
theorem wp_cSortT {d : Nat} {C : Int} {x : D} {S : Store} {nss : List (List Int)} {Q} (h : asLC S x = some (nss.map tupI)) (h64 : nss.length < 64) (hk : ∀ ns ∈ nss, okT d C ns = true) (q : Q ((srtT C nss).map tupI) S) : wp (cSortT d C [x]) S Q :=
  ⟨_, _, by simp only [cSortT, h, Option.bind_some, tupsOf_map]; rw [if_pos ⟨h64, List.all_eq_true.mpr hk⟩], q⟩

/-! ### the def at the top -/
section
variable {P : Program} {w : World} {K : PySem.W.Frag} {mg : Str → Option Value} {base : Heap}
theorem fn_T {x qual : Str} {st : Stmt} {f : Addr} {fd : FuncData} {N ps : List Str} {k : Nat} {m : MS} (F : L2.Fun K x qual st f fd) (Sc : FnScope N ps (defScope st))
    (hb : ∀ (cdv : Value) (A : Around) (outer : List PySem.Env) (s : Shared) (H : Hp) (E : XK), A.guards = some [] → Room k (A.deeper (envOfC qual (defScope st) s.heap.objs.size f cdv)) → Sb (cxOf CX0 P w K mg base N qual (defScope st) f cdv A outer s H E).nox W0 (defBody st) m) :
    GRun P w K mg base CX0 (k + 1) f fd ps (spG K ps.length (mOpen N.length m)) := by
  refine F.okG Sc (fun vs H Q E ⟨B, al, S, ds, d, S', R, hl, r, h, q⟩ => by rw [← r.len]; exact hl) (fun cdv A outer s H vs Q E hg hr ⟨B, al, S, ds, d, S', R, hl, r, h, q⟩ => ⟨_, hb cdv A outer s H E hg hr, ?_⟩)
  unfold mOpen at h
  split at h
  · rename_i o S1 h1
    cases ho : outD o with
    | none => rw [ho] at h; cases h
    | some d1 =>
      rw [ho] at h
      cases h
      refine ⟨B, al, S, startD N.length ds, o, _, R, er_start r, h1, ?_⟩
      cases o with
      | nx ρ => cases ho; exact fun σ' al' H' R' x' _ => q .non al' H' R' x' .non
      | rt d2 => cases ho; exact fun v al' H' R' x' r' => q v al' H' R' x' r'
      | bk ρ => cases ho
      | ct ρ => cases ho
      | ex c => cases ho
  · cases h
end
end Z
set_option Elab.async false
set_option linter.all false
set_option maxRecDepth 100000
/-! while; lists handed back. -/
namespace Z
open PySem L2
theorem wps_whl {t : MT} {b : MS} {Q : Out → Store → Prop} (I : Nat → Env → Store → Prop)
    (hs : ∀ k ρ S, I k ρ S → wp (t ρ) S fun c S1 => if c = true then wps b ρ S1 fun o S' => match o with
      | .nx ρ2 => ∃ j, j < k ∧ I j ρ2 S'
      | .ct ρ2 => ∃ j, j < k ∧ I j ρ2 S'
      | .bk ρ2 => Q (.nx ρ2) S'
      | .rt d => Q (.rt d) S'
      | .ex c => Q (.ex c) S' else Q (.nx ρ) S1) : ∀ (n m : Nat) (ρ : Env) (S : Store), m < n → I m ρ S → wps (mWhl t b n) ρ S Q := by
  intro n
  induction n with
  | zero => intro m ρ S h; omega
  | succ n ih =>
    intro m ρ S hm hI
    obtain ⟨c, S1, h1, q⟩ := hs m ρ S hI
    cases c with
    | false => exact ⟨_, S1, by unfold mWhl; rw [h1], by simpa using q⟩
    | true =>
      rw [if_pos rfl] at q
      obtain ⟨o, S2, h2, q⟩ := q
      cases o with
      | nx ρ2 =>
        obtain ⟨j, hj, q⟩ := q
        obtain ⟨o, S3, h3, q⟩ := ih j ρ2 S2 (by omega) q
        exact ⟨o, S3, by unfold mWhl; simp only [h1, h2]; exact h3, q⟩
      | ct ρ2 =>
        obtain ⟨j, hj, q⟩ := q
        obtain ⟨o, S3, h3, q⟩ := ih j ρ2 S2 (by omega) q
        exact ⟨o, S3, by unfold mWhl; simp only [h1, h2]; exact h3, q⟩
      | bk ρ2 => exact ⟨_, S2, by unfold mWhl; simp only [h1, h2], q⟩
      | rt d => exact ⟨_, S2, by unfold mWhl; simp only [h1, h2], q⟩
      | ex c => exact ⟨_, S2, by unfold mWhl; simp only [h1, h2], q⟩
theorem rk_map {k f : Nat} {S : Store} {xs : List D} (h : xs.all nr = true) : xs.map (rk k S f) = xs := by
  conv => rhs; rw [← List.map_id xs]
  exact List.map_congr_left fun d hd => rk_fit (m := 0) (List.all_eq_true.mp h d hd)
theorem clo_ref {k n : Nat} {S : Store} {xs : List D} {Q : D → Store → Prop} (h : S[n]? = some (.lst xs)) (hk : k ≤ n) (hx : xs.all nr = true) (hS : (S.take k).all (belowO k) = true) (q : Q (.lst xs) (S.take k)) : ∃ d' S2, clo k (.ref n) S = some (d', S2) ∧ Q d' S2 := by
  have e : rk k S 4 (.ref n) = .lst xs := by
    show rsF (rkG k S (rk k S 3)) (.ref n) = _
    have hn : ¬ n < k := by omega
    unfold rsF rkG rsG
    rw [if_neg hn, h]
    simp only
    rw [rk_map hx]
  refine ⟨.lst xs, S.take k, ?_, q⟩
  unfold clo
  rw [e, hS]
  have : below k (.lst xs) = true := nr_below k _ (by simp only [nr_lst]; exact hx)
  rw [this]
  rfl
theorem cut_take {xs : List D} {r : Int} (h0 : 0 ≤ r) : cutD xs none (some r) = xs.take r.toNat := by
  unfold cutD HT.sIx
  have : ¬ r < 0 := by omega
  simp only [this, if_false]
  simp
theorem cut_drop {xs : List D} {r : Int} (h0 : 0 ≤ r) : cutD xs (some r) none = xs.drop r.toNat := by
  unfold cutD HT.sIx
  have : ¬ r < 0 := by omega
  simp only [this, if_false]
  rcases Nat.le_total r.toNat xs.length with h | h
  · rw [Nat.min_eq_left h, List.take_of_length_le (by simp)]
  · rw [Nat.min_eq_right h]; simp [List.drop_of_length_le h]
theorem inV_int {c : Int} (xs : List Int) : inV (.int c) (xs.map V.int) = decide (c ∈ xs) := by
  induction xs with
  | nil => simp [inV]
  | cons x xs ih =>
    unfold inV at ih ⊢
    rw [List.map_cons, List.any_cons, ih]
    have : eqV (.int x) (.int c) = decide (c = x) := by
      simp only [eqV]
      by_cases h : c = x
      · simp [h]
      · have : ¬ x = c := fun z => h z.symm
        simp [h, this]
    rw [this]
    simp
theorem wp_dInS {neg : Bool} {c : Int} {e : D} {xs : List Int} {S : Store} {Q} (h : asSq S e = some (xs.map .int)) (q : Q (.bl (if neg then !decide (c ∈ xs) else decide (c ∈ xs))) S) : wp (dInS neg (.int c) e) S Q := by
  have hf : (xs.map D.int).all flatD = true := by simp [flatD]
  have hv : (xs.map D.int).map vOf = xs.map V.int := by simp [vOf]
  refine ⟨_, S, ?_, q⟩
  unfold dInS
  rw [h]
  simp only [hf, flatD, Bool.and_self, if_true, hv, vOf, inV_int]
end Z
set_option Elab.async false
set_option linter.all false
set_option maxRecDepth 100000
/-! Small data: its repr has room. -/
namespace Z
open PySem L2
structure Sm (k w : Nat) (d : D) : Prop where
  nr : nr d = true
  sh : (toP d).showable = true
  nd : (toP d).hasDict = false
  dp : (toP d).depth ≤ k
  lv : (toP d).leavesShort 13 = true
  bk : (toP d).bulk ≤ w
theorem Sm.up {k w k' w' : Nat} {d : D} (h : Sm k w d) (hk : k ≤ k') (hw : w ≤ w') : Sm k' w' d := ⟨h.nr, h.sh, h.nd, Nat.le_trans h.dp hk, h.lv, Nat.le_trans h.bk hw⟩
theorem Sm.int {k w : Nat} {i : Int} (h : i.natAbs < 10 ^ 12) : Sm k w (.int i) := by
  have h2 := int_text_length_le10 (by decide : 0 < 12) h
  refine ⟨by simp, ?_, by simp [toP, PyData.hasDict], by simp [toP, PyData.depth], ?_, by simp [toP, PyData.bulk]⟩
  · simp only [toP, PyData.showable, decide_eq_true_eq]
    rcases Nat.eq_zero_or_pos i.natAbs with z | z
    · rw [z]; decide
    · exact Nat.lt_trans ((Nat.log2_lt (k := 40) (by omega)).mpr (Nat.lt_trans h (by decide))) (by decide)
  · simp only [toP, PyData.leavesShort]
    refine decide_eq_true ?_
    show (Str.ofString (toString i)).length ≤ 13
    rw [ofString_length]
    exact h2
theorem Sm.all {k w m : Nat} : ∀ {xs : List D}, (∀ x ∈ xs, Sm k w x) → xs.length ≤ m → nrs xs = true ∧ PyData.showableAll (toPs xs) = true ∧ PyData.hasDictAll (toPs xs) = false ∧ PyData.depthAll (toPs xs) ≤ k ∧ PyData.leavesShortAll 13 (toPs xs) = true ∧ PyData.bulkAll (toPs xs) ≤ (w + 1) * m
  | [], _, _ => by simp [nrs, toPs, PyData.showableAll, PyData.hasDictAll, PyData.depthAll, PyData.leavesShortAll, PyData.bulkAll]
  | x :: xs, h, hm => by
    obtain ⟨m, rfl⟩ : ∃ j, m = j + 1 := ⟨m - 1, by simp at hm; omega⟩
    have hx := h x List.mem_cons_self
    obtain ⟨a1, a2, a3, a4, a5, a6⟩ := Sm.all (m := m) (fun y hy => h y (List.mem_cons_of_mem _ hy)) (by simpa using hm)
    have h4 := hx.dp
    have h6 := hx.bk
    refine ⟨by simp [nrs, hx.nr, a1], by simp [toPs, PyData.showableAll, hx.sh, a2], by simp [toPs, PyData.hasDictAll, hx.nd, a3], ?_, by simp [toPs, PyData.leavesShortAll, hx.lv, a5], ?_⟩
    · simp only [toPs, PyData.depthAll]; omega
    · simp only [toPs, PyData.bulkAll]
      rw [Nat.mul_succ]
      omega
theorem Sm.tup {k w m : Nat} {xs : List D} (h : ∀ x ∈ xs, Sm k w x) (hm : xs.length ≤ m) : Sm (k + 1) ((w + 1) * m) (.tup xs) := by
  obtain ⟨a1, a2, a3, a4, a5, a6⟩ := Sm.all h hm
  exact ⟨by simpa [Z.nr] using a1, by simpa [toP, PyData.showable] using a2, by simpa [toP, PyData.hasDict] using a3, by simp only [toP, PyData.depth]; omega, by simpa [toP, PyData.leavesShort] using a5, by simpa [toP, PyData.bulk] using a6⟩
theorem Sm.lst {k w m : Nat} {xs : List D} (h : ∀ x ∈ xs, Sm k w x) (hm : xs.length ≤ m) : Sm (k + 1) ((w + 1) * m) (.lst xs) := by
  obtain ⟨a1, a2, a3, a4, a5, a6⟩ := Sm.all h hm
  exact ⟨by simpa [Z.nr] using a1, by simpa [toP, PyData.showable] using a2, by simpa [toP, PyData.hasDict] using a3, by simp only [toP, PyData.depth]; omega, by simpa [toP, PyData.leavesShort] using a5, by simpa [toP, PyData.bulk] using a6⟩
theorem Sm.show {k w : Nat} {d : D} (h : Sm k w d) (hb : boxD d = true) (hk : k ≤ 60) (hw : w ≤ 1000000) : showD d = true := by
  have h1 := PyData.shown_le_bulk 13 (by decide) _ h.lv
  have h2 := h.bk
  have h3 := h.dp
  have h4 : (13 + 2) * (toP d).bulk ≤ 15 * w := Nat.mul_le_mul_left _ h2
  have h5 : sizeLine = 16777216 := by decide
  simp only [showD, hb, h.nr, h.sh, h.nd, Bool.and_self, Bool.not_false, Bool.true_and, Bool.and_eq_true, decide_eq_true_eq]
  omega
theorem wp_reprs {d : D} {S : Store} {Q} (h : showD d = true) (q : Q (.str (toP d).shown) S) : wp (cRepr [d]) S Q :=
  wp_cRepr (rs_nr S 4 (by simp only [showD, Bool.and_eq_true] at h; exact h.1.1.1.1.2)) h q
end Z
set_option Elab.async false
set_option linter.all false
set_option maxRecDepth 100000
/-! Dicts. -/
namespace Z
open PySem L2
def keyD : D → Option Key
  | .int i => some (.inl i)
  | .str x => some (.inr x)
  | _ => none
def keysD : List D → Option (List Key)
  | [] => some []
  | d :: ds => (keyD d).bind fun k => (keysD ds).map (k :: ·)
def valD {κ : Type} [DecidableEq κ] (kvs : List (κ × D)) (k : κ) : Option D := (kvs.find? fun kv => decide (kv.1 = k)).map (·.2)
def putD {κ : Type} [DecidableEq κ] (kvs : List (κ × D)) (k : κ) (v : D) : List (κ × D) :=
  if (kvs.any fun kv => decide (kv.1 = k)) = true then kvs.map (fun kv => if kv.1 = k then (kv.1, v) else kv) else kvs ++ [(k, v)]
def dGetO (S : Store) (o k : D) : Option (Option D) := match o with
  | .ref n => match S[n]?, k with
    | some (.dct kvs), k => (keyD k).map fun k => valD kvs k
    | some (.dtt kvs), .tup ks => (keysD ks).map fun ks => valD kvs ks
    | _, _ => none
  | _ => none
section
variable {K : PySem.W.Frag} {B : Addr → Prop} {al : List Addr} {S : Store} {H : Hp}
theorem keyD_rep {d : D} {v : V} {k : Key} (r : RV K B al H d v) (e : keyD d = some k) : v = kV k := by
  cases r <;> simp [keyD] at e <;> subst e <;> rfl
theorem keysD_rep : ∀ {ds : List D} {vs : List V} {ks : List Key}, RL K B al H ds vs → keysD ds = some ks → vs = ks.map kV
  | _, _, _, .nil, e => by cases e; rfl
  | _, _, _, .cons d v ds vs h r, e => by
    simp only [keysD, Option.bind_eq_some_iff, Option.map_eq_some_iff] at e
    obtain ⟨k, h1, ks, h2, rfl⟩ := e
    rw [keyD_rep h h1, keysD_rep r h2]
    rfl
theorem val_rep {κ : Type} [DecidableEq κ] {k : κ} : ∀ {kvs : List (κ × D)} {es : List (κ × V)}, kvs.map (·.1) = es.map (·.1) → RL K B al H (kvs.map (·.2)) (es.map (·.2)) →
    (∃ d v, valD kvs k = some d ∧ valV es k = some v ∧ RV K B al H d v) ∨ (valD kvs k = none ∧ valV es k = none)
  | [], [], _, _ => .inr ⟨rfl, rfl⟩
  | [], _ :: _, e, _ => by simp at e
  | _ :: _, [], e, _ => by simp at e
  | (a, d) :: kvs, (b, v) :: es, e, r => by
    simp only [List.map_cons, List.cons.injEq] at e
    obtain ⟨rfl, e⟩ := e
    cases r with
    | cons _ _ _ _ h r =>
      by_cases c : a = k
      · exact .inl ⟨d, v, by simp [valD, c], by simp [valV, c], h⟩
      · rcases val_rep (k := k) e r with ⟨d', v', h1, h2, h3⟩ | ⟨h1, h2⟩
        · exact .inl ⟨d', v', by simpa [valD, c] using h1, by simpa [valV, c] using h2, h3⟩
        · exact .inr ⟨by simpa [valD, c] using h1, by simpa [valV, c] using h2⟩
/-- what a dict holds at a key -/
theorem get_rep (R : Rel K B al S H) {o k : D} {vo vk : V} (ro : RV K B al H o vo) (rk : RV K B al H k vk) {r : Option D} (e : dGetO S o k = some r) :
    ∃ a w, vo = .ref a ∧ DGet H a vk w ∧ ((∃ d v, r = some d ∧ w = some v ∧ RV K B al H d v) ∨ (r = none ∧ w = none)) := by
  unfold dGetO at e
  split at e
  · rename_i n
    cases ro with
    | ref _ a hn =>
      split at e
      · rename_i kvs k hs
        obtain ⟨kk, hk, rfl⟩ := Option.map_eq_some_iff.mp e
        obtain ⟨_, es, he, hks, rl⟩ := R.look (.ref n a hn) hs
        rw [keyD_rep rk hk]
        refine ⟨a, _, rfl, DGet.k he, ?_⟩
        rcases val_rep (k := kk) hks rl with ⟨d, v, h1, h2, h3⟩ | ⟨h1, h2⟩
        · exact .inl ⟨d, v, h1, h2, h3⟩
        · exact .inr ⟨h1, h2⟩
      · rename_i kvs ks hs
        obtain ⟨kk, hk, rfl⟩ := Option.map_eq_some_iff.mp e
        obtain ⟨_, es, he, hks, rl⟩ := R.look (.ref n a hn) hs
        cases rk with
        | tup b _ vs hb r =>
          have hb2 : H b = some (.tup vs) := hb
          rw [keysD_rep r hk] at hb2
          refine ⟨a, _, rfl, DGet.t he hb2, ?_⟩
          rcases val_rep (k := kk) hks rl with ⟨d, v, h1, h2, h3⟩ | ⟨h1, h2⟩
          · exact .inl ⟨d, v, h1, h2, h3⟩
          · exact .inr ⟨h1, h2⟩
      · cases e
  · cases e
end
def mDGet (mo mk : ME) : ME := fun ρ => bnd (mo ρ) fun o => bnd (mk ρ) fun k => fun S => (dGetO S o k).bind fun r => r.map fun d => (d, S)
def mDIn (neg : Bool) (mk md : ME) : ME := fun ρ => bnd (mk ρ) fun k => bnd (md ρ) fun o => fun S => (dGetO S o k).map fun r => (.bl (if neg then !r.isSome else r.isSome), S)
section
variable {X : Cx}
theorem dget_of {mo mk : ME} : ∀ σ H Q, tE X.K (mDGet mo mk) σ H Q → tDGet (tE X.K mo) (tE X.K mk) σ H Q := fun σ H Q ⟨B, al, S, ρ, d, S', R, er, hm, q⟩ => by
  obtain ⟨o, S1, h1, hm⟩ := bnd_some hm
  obtain ⟨k, S2, h2, hm⟩ := bnd_some hm
  cases hg : dGetO S2 o k with
  | none => rw [hg] at hm; cases hm
  | some r =>
    rw [hg, Option.bind_some] at hm
    cases r with
    | none => cases hm
    | some d1 =>
      cases hm
      refine ⟨B, al, S, ρ, o, S1, R, er, h1, fun vo al1 H1 R1 x1 ro => ⟨B, al1, S1, ρ, k, _, R1, er.mono R x1, h2, fun vk al2 H2 R2 x2 rk => ?_⟩⟩
      obtain ⟨a, w, rfl, g, hh⟩ := get_rep R2 (ro.mono R1 x2) rk hg
      rcases hh with ⟨d2, v, e1, rfl, rv⟩ | ⟨e1, _⟩
      · cases e1
        exact ⟨a, v, rfl, g, q v al2 H2 R2 (x1.trans x2) rv⟩
      · cases e1
theorem din_of {neg : Bool} {mk md : ME} : ∀ σ H Q, tE X.K (mDIn neg mk md) σ H Q → (if neg then tDNotIn (tE X.K mk) (tE X.K md) else tDIn (tE X.K mk) (tE X.K md)) σ H Q := fun σ H Q ⟨B, al, S, ρ, d, S', R, er, hm, q⟩ => by
  obtain ⟨k, S1, h1, hm⟩ := bnd_some hm
  obtain ⟨o, S2, h2, hm⟩ := bnd_some hm
  cases hg : dGetO S2 o k with
  | none => rw [hg] at hm; cases hm
  | some r =>
    rw [hg, Option.map_some] at hm
    cases hm
    have key : ∀ (Q' : VK), (∀ (al2 : List Addr) (H2 : Hp), Rel X.K B al2 S' H2 → Ex al H al2 H2 → Q' (.bl (if neg then !r.isSome else r.isSome)) H2) →
        tE X.K mk σ H fun y H1 => tE X.K md σ H1 fun x H2 => ∃ a w, x = .ref a ∧ DGet H2 a y w ∧ Q' (.bl (if neg then !w.isSome else w.isSome)) H2 := fun Q' hq =>
      ⟨B, al, S, ρ, k, S1, R, er, h1, fun vk al1 H1 R1 x1 rk => ⟨B, al1, S1, ρ, o, _, R1, er.mono R x1, h2, fun vo al2 H2 R2 x2 ro => by
        obtain ⟨a, w, rfl, g, hh⟩ := get_rep R2 ro (rk.mono R1 x2) hg
        have e : w.isSome = r.isSome := by rcases hh with ⟨d2, v, e1, e2, _⟩ | ⟨e1, e2⟩ <;> rw [e1, e2] <;> rfl
        exact ⟨a, w, rfl, g, by rw [e]; exact hq al2 H2 R2 (x1.trans x2)⟩⟩⟩
    have fin := key Q fun al2 H2 R2 x2 => q _ al2 H2 R2 x2 (.bl _)
    cases neg
    · exact fin
    · exact fin
theorem sn_dget {o i : Expr} {mo mk : ME} {pos : Pos} (hu : X.A.units + 1 < cLine) (ho : Sn X o mo) (hi : Sn X i mk) (hs : NoSl i) : Sn X (.Subscript o i pos) (mDGet mo mk) := pe_imp (pe_dget hu ho hi hs) dget_of
theorem sn_din {a b : Expr} {ma mb : ME} {pos : Pos} (hu : X.A.units + 1 < cLine) (ha : Sn X a ma) (hb : Sn X b mb) (h1 : behindInMarks .In b = false) : Sn X (.Compare a [.In] [b] pos) (mDIn false ma mb) := pe_imp (pe_cmp (pc_din hu ha hb) h1) din_of
theorem sn_dnotin {a b : Expr} {ma mb : ME} {pos : Pos} (hu : X.A.units + 1 < cLine) (ha : Sn X a ma) (hb : Sn X b mb) (h1 : behindInMarks .NotIn b = false) : Sn X (.Compare a [.NotIn] [b] pos) (mDIn true ma mb) := pe_imp (pe_cmp (pc_dnotin hu ha hb) h1) din_of
/-- {} -/
def mNewK : ME := fun _ S => some (.ref S.length, S ++ [.dct []])
def mNewT : ME := fun _ S => some (.ref S.length, S ++ [.dtt []])
theorem sn_newK {pos : Pos} : Sn X (.Dict [] [] pos) mNewK := pe_imp pe_dnewK fun σ H Q ⟨B, al, S, ρ, d, S', R, er, hm, q⟩ => by
  cases hm
  intro p h0
  obtain ⟨x, R2⟩ := R.new (o := .dK []) (u := .dct []) h0 fun _ => ⟨[], upd_same, rfl, .nil⟩
  exact q (.ref p) _ _ R2 x (.ref _ p (by rw [← R.len]; simp))
theorem sn_newT {pos : Pos} : Sn X (.Dict [] [] pos) mNewT := pe_imp pe_dnewT fun σ H Q ⟨B, al, S, ρ, d, S', R, er, hm, q⟩ => by
  cases hm
  intro p h0
  obtain ⟨x, R2⟩ := R.new (o := .dT []) (u := .dtt []) h0 fun _ => ⟨[], upd_same, rfl, .nil⟩
  exact q (.ref p) _ _ R2 x (.ref _ p (by rw [← R.len]; simp))
end
section
variable {K : PySem.W.Frag} {B : Addr → Prop} {al : List Addr} {S : Store} {H : Hp}
theorem put_map {κ : Type} [DecidableEq κ] {k : κ} {d : D} {v : V} (rv : RV K B al H d v) : ∀ {kvs : List (κ × D)} {es : List (κ × V)}, kvs.map (·.1) = es.map (·.1) → RL K B al H (kvs.map (·.2)) (es.map (·.2)) →
    (kvs.map fun kv => if kv.1 = k then (kv.1, d) else kv).map (·.1) = (es.map fun kv => if kv.1 = k then (kv.1, v) else kv).map (·.1) ∧
    RL K B al H ((kvs.map fun kv => if kv.1 = k then (kv.1, d) else kv).map (·.2)) ((es.map fun kv => if kv.1 = k then (kv.1, v) else kv).map (·.2))
  | [], [], _, _ => ⟨rfl, .nil⟩
  | [], _ :: _, e, _ => by simp at e
  | _ :: _, [], e, _ => by simp at e
  | (a, c) :: kvs, (b, u) :: es, e, r => by
    simp only [List.map_cons, List.cons.injEq] at e
    obtain ⟨rfl, e⟩ := e
    cases r with
    | cons _ _ _ _ h r =>
      obtain ⟨h1, h2⟩ := put_map rv e r
      simp only [List.map_cons]
      by_cases ck : a = k
      · simp only [ck, if_true]
        exact ⟨by rw [h1], .cons _ _ _ _ rv h2⟩
      · simp only [ck, if_false]
        exact ⟨by rw [h1], .cons _ _ _ _ h h2⟩
theorem any_keys {κ : Type} [DecidableEq κ] {k : κ} {α β : Type} : ∀ {kvs : List (κ × α)} {es : List (κ × β)}, kvs.map (·.1) = es.map (·.1) → (kvs.any fun kv => decide (kv.1 = k)) = (es.any fun kv => decide (kv.1 = k))
  | [], [], _ => rfl
  | [], _ :: _, e => by simp at e
  | _ :: _, [], e => by simp at e
  | (a, c) :: kvs, (b, u) :: es, e => by
    simp only [List.map_cons, List.cons.injEq] at e
    obtain ⟨rfl, e⟩ := e
    simp only [List.any_cons, any_keys e]
theorem put_rl {κ : Type} [DecidableEq κ] {k : κ} {d : D} {v : V} (rv : RV K B al H d v) {kvs : List (κ × D)} {es : List (κ × V)} (e : kvs.map (·.1) = es.map (·.1)) (r : RL K B al H (kvs.map (·.2)) (es.map (·.2))) :
    (putD kvs k d).map (·.1) = (putK es k v).map (·.1) ∧ RL K B al H ((putD kvs k d).map (·.2)) ((putK es k v).map (·.2)) := by
  unfold putD putK
  rw [any_keys (k := k) e]
  split
  · exact put_map rv e r
  · simp only [List.map_append]
    exact ⟨by rw [e]; rfl, r.append (.cons _ _ _ _ rv .nil)⟩
end
def dPutS (S : Store) (o k v : D) : Option Store := match o with
  | .ref n => match S[n]?, k with
    | some (.dct kvs), k => (keyD k).bind fun k => if kvs.length < lim then some (S.set n (.dct (putD kvs k v))) else none
    | some (.dtt kvs), .tup ks => (keysD ks).bind fun ks => if kvs.length < lim then some (S.set n (.dtt (putD kvs ks v))) else none
    | _, _ => none
  | _ => none
def mSetD (mo mk mv : ME) : MS := fun ρ S => match mv ρ S with
  | none => none
  | some (v, S1) => match mo ρ S1 with
    | none => none
    | some (o, S2) => match mk ρ S2 with
      | none => none
      | some (k, S3) => (dPutS S3 o k v).map fun S4 => (.nx ρ, S4)
section
variable {K : PySem.W.Frag} {B : Addr → Prop} {al : List Addr} {S S' : Store} {H : Hp}
theorem put_rep (R : Rel K B al S H) {o k v : D} {vo vk vv : V} (ro : RV K B al H o vo) (rk : RV K B al H k vk) (rv : RV K B al H v vv) (e : dPutS S o k v = some S') :
    ∃ a H', vo = .ref a ∧ DPut H a vk vv H' ∧ Rel K B al S' H' ∧ Ex al H al H' := by
  unfold dPutS at e
  split at e
  · rename_i n
    cases ro with
    | ref _ a hn =>
      split at e
      · rename_i k kvs hs
        obtain ⟨kk, hk, e⟩ := Option.bind_eq_some_iff.mp e
        split at e
        · rename_i hl
          cases e
          obtain ⟨_, es, he, hks, rl⟩ := R.look (.ref n a hn) hs
          have hle : es.length = kvs.length := by have := congrArg List.length hks; simpa using this.symm
          rw [keyD_rep rk hk]
          obtain ⟨p1, p2⟩ := put_rl (k := kk) rv hks rl
          obtain ⟨x, R2⟩ := R.put (o := .dK (putK es kk vv)) (u := .dct (putD kvs kk v)) hn (fun _ z => nomatch z) fun x => ⟨_, upd_same, p1, p2.mono R x⟩
          exact ⟨a, _, rfl, DPut.k he (lim_lt (by omega)), R2, x⟩
        · cases e
      · rename_i kvs ks hs
        obtain ⟨kk, hk, e⟩ := Option.bind_eq_some_iff.mp e
        split at e
        · rename_i hl
          cases e
          obtain ⟨_, es, he, hks, rl⟩ := R.look (.ref n a hn) hs
          have hle : es.length = kvs.length := by have := congrArg List.length hks; simpa using this.symm
          cases rk with
          | tup b _ vs hb r =>
            have hb2 : H b = some (.tup vs) := hb
            rw [keysD_rep r hk] at hb2
            obtain ⟨p1, p2⟩ := put_rl (k := kk) rv hks rl
            obtain ⟨x, R2⟩ := R.put (o := .dT (putK es kk vv)) (u := .dtt (putD kvs kk v)) hn (fun _ z => nomatch z) fun x => ⟨_, upd_same, p1, p2.mono R x⟩
            exact ⟨a, _, rfl, DPut.t he hb2 (lim_lt (by omega)), R2, x⟩
        · cases e
      · cases e
  · cases e
end
section
variable {X : Cx} {W : Str → Hp → Prop}
theorem ss_setD {o i e : Expr} {mo mi mv : ME} {pos p2 : Pos} (hu : X.A.units + 1 < cLine) (hv : Sn X e mv) (ho : Sn X o mo) (hi : Sn X i mi) (hs : swapsWith e (some (.Subscript o i p2)) pos.line X.env = pure false := by rfl) : Ss X W (.Assign [.Subscript o i p2] e pos) (mSetD mo mi mv) :=
  ps_imp (ps_dput hu ho hi hv hs) fun D σ H ⟨B, al, S, ρ, oo, S', R, er, hm, p⟩ => by
    unfold mSetD at hm
    split at hm
    · cases hm
    · rename_i v S1 h1
      split at hm
      · cases hm
      · rename_i o S2 h2
        split at hm
        · cases hm
        · rename_i k S3 h3
          cases hg : dPutS S3 o k v with
          | none => rw [hg] at hm; cases hm
          | some S4 =>
            rw [hg] at hm
            cases hm
            refine ⟨B, al, S, ρ, v, _, R, er, h1, fun vv al1 H1 R1 x1 r1 => ⟨B, al1, S1, ρ, o, S2, R1, er.mono R x1, h2, fun vo al2 H2 R2 x2 r2 => ⟨B, al2, S2, ρ, k, S3, R2, (er.mono R x1).mono R1 x2, h3, fun vk al3 H3 R3 x3 r3 => ?_⟩⟩⟩
            obtain ⟨a, H4, rfl, g, R4, x4⟩ := put_rep R3 (r2.mono R2 x3) r3 ((r1.mono R1 x2).mono R2 x3) hg
            exact ⟨a, H4, rfl, g, p σ al3 H4 R4 (((x1.trans x2).trans x3).trans x4) ((((er.mono R x1).mono R1 x2).mono R2 x3).mono R3 x4)⟩
end
end Z
set_option Elab.async false
set_option linter.all false
set_option maxRecDepth 100000
/-! Tuples of whole numbers whose object is known; their method index. -/
namespace L2
open PySem PySem.Spec PyProof.Rows
/-- tuple(a list of whole numbers): the new object is known -/
def rTupX (K : PySem.W.Frag) : List V → Hp → VK → Prop := fun xs H Q => ∃ (p : Addr) (ns : List Int), xs = [.ref p] ∧ SqL K H p (ns.map V.int) ∧ ∀ (l : Addr) (o : Obj), H l = none → o.dict = none → Q (.ref l) (upd H l (.frz o (.tup (ns.map V.int))))
theorem call_tupX {X : Cx} : CallR X (.type "tuple") (rTupX X.K) := by
  intro pins s σ H xs us Q I r h
  obtain ⟨p, ns, rfl, hq, q⟩ := h
  cases r with
  | cons rx rt =>
  cases rt
  cases rx
  obtain ⟨its, r', pl, hz⟩ := I.list hq
  have hlen := r'.length
  refine call_tuple_list pl.isList (fun h' kp => ?_) (by simp only [List.size_toArray] <;> omega)
  have I1 : Inv X pins σ H { s with heap := h' } := I.kept (t' := s.toks) kp
  have I2 : Inv X pins σ (upd H h'.objs.size (.frz { cls := .type "tuple", data := .seq its.toArray } (.tup (ns.map V.int)))) { s with heap := h'.push { cls := .type "tuple", data := .seq its.toArray } } :=
    I1.laid (t' := s.toks) (fun b o e => Heap.get?_push_of_some _ e) (Nat.le_refl _) (show ObjOk X.prog X.w _ _ _ (.frz _ (.tup (ns.map V.int))) from ⟨Heap.get?_push_size _ rfl, hz, its, r', IsTup.new _ _⟩)
  exact ⟨.ref h'.objs.size, _, I2, rfl, q _ _ (I1.hok.fresh (Nat.le_refl _)) rfl⟩
/-- t.index(i), i there -/
def tyX (x : V) (H : Hp) : Prop := ∃ (a : Addr) (o : Obj) (ns : List Int), x = .ref a ∧ H a = some (.frz o (.tup (ns.map V.int))) ∧ o.dict = none
def rTix (K : PySem.W.Frag) : V → List V → Hp → VK → Prop := fun x xs H Q => ∃ (a : Addr) (o : Obj) (ns : List Int) (k : Int), x = .ref a ∧ xs = [.int k] ∧ H a = some (.frz o (.tup (ns.map V.int))) ∧ k ∈ ns ∧ Q (.int (ns.idxOf k : Nat)) H
theorem mt_tix {X : Cx} : MtR X "tuple.index" (rTix X.K) := by
  intro pins s σ H x xs v us Q I rx rxs h
  obtain ⟨a, o, ns, k, rfl, rfl, ha, hk, q⟩ := h
  cases rx
  cases rxs with
  | cons ry rt =>
    cases rt
    obtain ⟨t, rfl⟩ := ry
    obtain ⟨_, hz, its, rv, ht⟩ := I.hok a _ ha
    have hi := rv.ints
    have ht' : s.heap.IsTuple a its.toArray := ht
    exact PySem.SeqAt.tuple_index_ints ht' hi hk ⟨.int (ns.idxOf k : Nat), H, I.kept (t' := s.toks + 1) (fun _ _ e => e), ⟨_, rfl⟩, q⟩
def tBMX (r : V → List V → Hp → VK → Prop) (to : TE) (t : TA) : TE := fun σ H Q => to σ H fun x H1 => tyX x H1 ∧ t σ H1 fun xs H2 => r x xs H2 Q
theorem pe_bmX {X : Cx} {o e : Expr} {es : List Expr} {to : TE} {t : TA} {name : Str} {apos cpos : Pos} {id : String} {r : V → List V → Hp → VK → Prop}
    (pa : PlainAttrs "tuple") (slot : Slot "tuple" name id) (hty : typeOf (.builtin id) = pure (.type "method_descriptor")) (hm : MtR X id r) (ho : PE X o to) (ha : PA X (e :: es) t)
    (hbase : attributeBase o name X.env (eval o X.env) = eval o X.env := by rfl)
    (hfew : ((backTo cpos (starEach (e :: es) X.env)).all (fun x => !x.1) && (backToKw cpos (keywordEach [] X.env)).all (fun x => x.1.isSome)
      && decide ((e :: es).length + ([] : List Keyword).length + (if ([] : List Keyword).isEmpty then 0 else 1) < 30)) = true := by rfl)
    (hline : (apos.endLine == cpos.line) = true := by rfl) (hs : starEach (e :: es) X.env = (false, eval e X.env) :: starEach es X.env := by rfl) (hplain : (backTo cpos (starEach es X.env)).any (·.1) = false := by rfl) :
    PE X (.Call (.Attribute o name apos) (e :: es) [] cpos) (tBMX r to t) := by
  refine ⟨fun pins s σ H Q I h => ?_⟩
  refine wpAny_Call_method_late hbase hfew hline rfl (thn (ho.run pins s σ H _ I h) fun v s1 ⟨x, H1, I1, r1, ty, q1⟩ => ?_)
  have h12 : s1.TypeIs v "tuple" ∧ ∀ a, v = .ref a → ∃ ob, s1.heap.get? a = some ob ∧ ob.dict = none := by
    obtain ⟨a, ob, ns, rfl, hh, hd⟩ := ty
    cases r1
    obtain ⟨g1, hz, its, rv, o2, g2, g3, _⟩ := I1.hok a _ hh
    exact ⟨⟨o2, g2, g3⟩, fun b e => by cases e; exact ⟨ob, g1, hd⟩⟩
  obtain ⟨h1, h2⟩ := h12
  refine ⟨"tuple", id, pa, slot, hty, h1, h2, ?_⟩
  have hA := ha.run cpos pins s1 σ H1 _ I1 q1
  rw [hs] at hA ⊢
  refine Calls.callWith_builtin (by show (false || (backTo cpos (starEach es X.env)).any (·.1)) = false; rw [hplain] <;> rfl) (Calls.evalArgs_plain ?_)
  exact thn hA fun us s2 ⟨vs, H2, I2, r2, q2⟩ => hm pins s2 σ H2 x vs v us Q I2 r1 r2 q2
end L2
namespace Z
open PySem L2
def cTupX (ds : List D) : M D := fun S => match ds with
  | [d] => (asLC S d).bind fun xs => (intsOf xs).map fun ns => (.tpi ns, S)
  | _ => none
theorem c_tupX {K : PySem.W.Frag} : CRS K (rTupX K) cTupX := fun B al S H ds z vs S' R r1 h Q q => by
  unfold cTupX at h
  split at h
  · rename_i d
    cases hx : asLC S d with
    | none => rw [hx] at h; cases h
    | some xs =>
      rw [hx, Option.bind_some] at h
      cases hy : intsOf xs with
      | none => rw [hy] at h; cases h
      | some ns =>
        rw [hy] at h
        cases h
        obtain ⟨v, rfl, rv⟩ := rl_one r1
        obtain ⟨a, us, rfl, ha, ra⟩ := asLC_rep R rv hx
        obtain ⟨e, _⟩ := ints_rep ra hy
        subst e
        refine ⟨a, ns, rfl, ha, fun p o hp hd => ?_⟩
        obtain ⟨x, R1⟩ := R.side (o := .frz o (.tup (ns.map V.int))) hp
        exact q _ al _ R1 x (.tpi p _ ⟨o, ⟨upd_same, R.fresh hp, R.freshB hp⟩, hd⟩)
  · cases h
def mTix (mo mk : ME) : ME := fun ρ => bnd (mo ρ) fun o => match o with
  | .tpi ns => bnd (mk ρ) fun k => match k with
    | .int i => if i ∈ ns then ret (.int (ns.idxOf i : Nat)) else fail
    | _ => fail
  | _ => fail
section
variable {X : Cx} {o e : Expr} {mo mk : ME}
theorem tix_of : ∀ σ H Q, tE X.K (mTix mo mk) σ H Q → tBMX (rTix X.K) (tE X.K mo) (tA X.K (mCons mk mNil)) σ H Q := fun σ H Q ⟨B, al, S, ρ, d, S', R, er, hm, q⟩ => by
  obtain ⟨o, S1, h1, hm⟩ := bnd_some hm
  split at hm
  · rename_i ns
    obtain ⟨k, S2, h2, hm⟩ := bnd_some hm
    split at hm
    · rename_i i
      split at hm
      · rename_i hi
        obtain ⟨rfl, rfl⟩ := ret_some hm
        refine ⟨B, al, S, ρ, _, S1, R, er, h1, fun v al1 H1 R1 x1 r1 => ?_⟩
        cases r1 with
        | tpi a _ h =>
          have h0 := h
          obtain ⟨ob, ⟨g1, g2, g3⟩, g4⟩ := h
          refine ⟨⟨a, ob, ns, rfl, g1, g4⟩, B, al1, S1, ρ, [.int i], S2, R1, er.mono R x1, ?_, fun vs al2 H2 R2 x2 r2 => ?_⟩
          · show mCons mk mNil ρ S1 = _
            unfold mCons bnd mNil ret
            simp only [h2]
          · obtain ⟨w, rfl, rw'⟩ := rl_one r2
            cases rw'
            exact ⟨a, ob, ns, i, rfl, rfl, (x2.fr _ _ g1 g2).1, hi, q _ al2 H2 R2 (x1.trans x2) (.int _)⟩
      · cases hm
    · cases hm
  · cases hm
theorem sn_tix {apos cpos : Pos} (ho : Sn X o mo) (he : Sn X e mk)
    (h : PE X (.Call (.Attribute o (PySem.Str.ofString "index") apos) [e] [] cpos) (tBMX (rTix X.K) (tE X.K mo) (tA X.K (mCons mk mNil)))) : Sn X (.Call (.Attribute o (PySem.Str.ofString "index") apos) [e] [] cpos) (mTix mo mk) := pe_imp h tix_of
@[simp] theorem wp_mTix {ρ : Env} {S : Store} {Q} : wp (mTix mo mk ρ) S Q ↔ wp (mo ρ) S fun o S1 => ∃ ns, o = .tpi ns ∧ wp (mk ρ) S1 fun k S2 => ∃ i, k = .int i ∧ i ∈ ns ∧ Q (.int (ns.idxOf i : Nat)) S2 := by
  unfold mTix
  rw [wp_bnd]
  constructor
  · rintro ⟨d, S1, h, q⟩
    refine ⟨d, S1, h, ?_⟩
    split at q
    · rename_i ns
      rw [wp_bnd] at q
      refine ⟨ns, rfl, wp_mono q fun k S2 q => ?_⟩
      split at q
      · rename_i i
        split at q
        · rename_i hi; exact ⟨i, rfl, hi, wp_ret.mp q⟩
        · simp at q
      · simp at q
    · simp at q
  · rintro ⟨d, S1, h, ns, rfl, q⟩
    refine ⟨_, S1, h, ?_⟩
    simp only [wp_bnd]
    refine wp_mono q ?_
    rintro k S2 ⟨i, rfl, hi, q⟩
    simp only [hi, if_true]
    exact wp_ret.mpr q
theorem wp_cTupX {d : D} {S : Store} {ns : List Int} {Q} (h : asLC S d = some (ns.map .int)) (q : Q (.tpi ns) S) : wp (cTupX [d]) S Q := ⟨_, _, by simp only [cTupX, h, Option.bind_some, intsOf_map, Option.map_some], q⟩
@[simp] theorem wp_cTupX_l {S : Store} {ns : List Int} {Q} : wp (cTupX [.lst (ns.map .int)]) S Q ↔ Q (.tpi ns) S := ⟨fun ⟨d, S', e, q⟩ => by
  simp only [cTupX, asLC, asL, Option.bind_some, intsOf_map, Option.map_some, Option.some.injEq, Prod.mk.injEq] at e
  obtain ⟨rfl, rfl⟩ := e; exact q, fun q => wp_cTupX (asLC_lst.mpr rfl) q⟩
end
theorem st_din {X : Cx} {a b : Expr} {ma mb : ME} {pos : Pos} (hu : X.A.units + 1 < cLine) (ha : Sn X a ma) (hb : Sn X b mb) (h1 : behindInMarks .In b = false) : Stt X (.Compare a [.In] [b] pos) (mB (mDIn false ma mb)) :=
  pt_imp (pt_cmp (pc_din hu ha hb) h1) fun σ H Q ⟨B, al, S, ρ, z, S', R, er, hm, q⟩ => din_of (neg := false) σ H _ ⟨B, al, S, ρ, .bl z, S', R, er, mB_some hm, fun v al' H' R' x r => by cases r; exact ⟨z, rfl, q z al' H' R' x rfl⟩⟩
theorem st_dnotin {X : Cx} {a b : Expr} {ma mb : ME} {pos : Pos} (hu : X.A.units + 1 < cLine) (ha : Sn X a ma) (hb : Sn X b mb) (h1 : behindInMarks .NotIn b = false) : Stt X (.Compare a [.NotIn] [b] pos) (mB (mDIn true ma mb)) :=
  pt_imp (pt_cmp (pc_dnotin hu ha hb) h1) fun σ H Q ⟨B, al, S, ρ, z, S', R, er, hm, q⟩ => din_of (neg := true) σ H _ ⟨B, al, S, ρ, .bl z, S', R, er, mB_some hm, fun v al' H' R' x r => by cases r; exact ⟨z, rfl, q z al' H' R' x rfl⟩⟩
/-! ### dicts, what they come to -/
section
variable {S : Store} {ρ : Env}
@[simp] theorem wp_mNewK {Q} : wp (mNewK ρ) S Q ↔ Q (.ref S.length) (S ++ [.dct []]) := ⟨fun ⟨d, T, e, q⟩ => by cases e; exact q, fun q => ⟨_, _, rfl, q⟩⟩
@[simp] theorem wp_mNewT {Q} : wp (mNewT ρ) S Q ↔ Q (.ref S.length) (S ++ [.dtt []]) := ⟨fun ⟨d, T, e, q⟩ => by cases e; exact q, fun q => ⟨_, _, rfl, q⟩⟩
@[simp] theorem wp_mDGet {mo mk : ME} {Q} : wp (mDGet mo mk ρ) S Q ↔ wp (mo ρ) S fun o S1 => wp (mk ρ) S1 fun k S2 => ∃ d, dGetO S2 o k = some (some d) ∧ Q d S2 := by
  unfold mDGet
  simp only [wp_bnd]
  constructor
  · rintro ⟨o, S1, h1, k, S2, h2, d, S3, e, q⟩
    refine ⟨o, S1, h1, k, S2, h2, ?_⟩
    dsimp only at e
    cases hg : dGetO S2 o k with
    | none => rw [hg] at e; cases e
    | some r =>
      rw [hg, Option.bind_some] at e
      cases r with
      | none => cases e
      | some d1 => cases e; exact ⟨_, hg, q⟩
  · rintro ⟨o, S1, h1, k, S2, h2, d, e, q⟩
    exact ⟨o, S1, h1, k, S2, h2, d, S2, by simp only [e, Option.bind_some, Option.map_some], q⟩
@[simp] theorem wp_mDIn {neg : Bool} {mo mk : ME} {Q} : wp (mDIn neg mk mo ρ) S Q ↔ wp (mk ρ) S fun k S1 => wp (mo ρ) S1 fun o S2 => ∃ r, dGetO S2 o k = some r ∧ Q (.bl (if neg then !r.isSome else r.isSome)) S2 := by
  unfold mDIn
  simp only [wp_bnd]
  constructor
  · rintro ⟨o, S1, h1, k, S2, h2, d, S3, e, q⟩
    refine ⟨o, S1, h1, k, S2, h2, ?_⟩
    dsimp only at e
    cases hg : dGetO S2 k o with
    | none => rw [hg] at e; cases e
    | some r =>
      rw [hg, Option.map_some] at e
      cases e
      exact ⟨r, hg, q⟩
  · rintro ⟨o, S1, h1, k, S2, h2, d, e, q⟩
    exact ⟨o, S1, h1, k, S2, h2, _, S2, by simp only [e, Option.map_some], q⟩
@[simp] theorem wps_setD {mo mk mv : ME} {Q} : wps (mSetD mo mk mv) ρ S Q ↔ wp (mv ρ) S fun v S1 => wp (mo ρ) S1 fun o S2 => wp (mk ρ) S2 fun k S3 => ∃ S4, dPutS S3 o k v = some S4 ∧ Q (.nx ρ) S4 := by
  constructor
  · rintro ⟨o, S', e, q⟩
    unfold mSetD at e
    split at e
    · cases e
    · rename_i v S1 h1
      split at e
      · cases e
      · rename_i o S2 h2
        split at e
        · cases e
        · rename_i k S3 h3
          cases hg : dPutS S3 o k v with
          | none => rw [hg] at e; cases e
          | some S4 => rw [hg] at e; cases e; exact ⟨v, S1, h1, o, S2, h2, k, S3, h3, _, hg, q⟩
  · rintro ⟨v, S1, h1, o, S2, h2, k, S3, h3, S4, hg, q⟩
    exact ⟨_, _, by simp only [mSetD, h1, h2, h3, hg, Option.map_some], q⟩
end
end Z
set_option Elab.async false
set_option linter.all false
set_option maxRecDepth 100000
/-! List comprehensions of three fors: a clause's loop, whatever its body does. -/
namespace L2
open PySem PySem.Spec PyProof.Rows

abbrev TBd := L2.St → Hp → (Hp → Prop) → Prop
section
variable {P : Program} {w : World} {A : Around} {R : Result → Shared → Prop}
abbrev Nt (P : Program) (w : World) (A : Around) (env : Env) (R : Result → Shared → Prop) : Value → Shared → Prop := notedBy (model P w) A env fun x t => R (.error x) t
/-- a clause's loop at depth d: each turn takes an item, stores it, asks the tests, does the body -/
theorem clause_loop {s : Shared} {eL : Expr} {gs : List Comprehension} {scope : Scope} {pos : Pos} {d : Nat} {it acc : Value} {env : Env} {tg ix : Expr} {ifs : List Expr} {body : Sem Fin → Sem Fin}
    (heq : compTurn (.ListComp eL gs scope pos) d it acc env = (do
      standAt ix.pos
      match ← pyNext it with
      | none => pure (.done .next)
      | some v =>
        letOwnedTupleGo tg it v
        assign tg env v
        let mut ok := true
        for c in ifs do
          if ok then ok ← isTrue c env (eval c env)
        if ok then body (again (.compLoop (.ListComp eL gs scope pos) d it acc env)) else again (.compLoop (.ListComp eL gs scope pos) d it acc env)))
    (J : Nat → Shared → Prop)
    (turn : ∀ k t, J k t → wpAny (model P w) A (pyNext it) (fun r t1 => match r with
      | none => R (.ok .next) t1
      | some v => wpAny (model P w) A (letOwnedTupleGo tg it v) (fun _ t2 => wpAny (model P w) A (assign tg env v) (fun _ t3 =>
          wpAny (model P w) A (forIn ifs true fun c r => if r = true then do let ok ← isTrue c env (eval c env); pure (ForInStep.yield ok) else pure (ForInStep.yield r)) (fun ok t4 =>
            if ok = true then wpAny (model P w) A (body (again (.compLoop (.ListComp eL gs scope pos) d it acc env))) (fun fin t5 => match fin with | .done f => R (.ok f) t5 | .again c => c = .compLoop (.ListComp eL gs scope pos) d it acc env ∧ ∃ m, m < k ∧ J m t5) (Nt P w A env R) t4
            else ∃ m, m < k ∧ J m t4) (Nt P w A env R) t3) (Nt P w A env R) t2) (Nt P w A env R) t1) (Nt P w A env R) t)
    (k : Nat) (hk : J k s) : codeAny (model P w) A (.compLoop (.ListComp eL gs scope pos) d it acc env) R s := by
  refine codeAny_loop rfl J (fun k t hJ => ?_) k hk
  show wpAny _ A ((compTurn (.ListComp eL gs scope pos) d it acc env).onRaise (fun x => do noteFrame x env; theTreesLotGoes x)) _ _ t
  refine wpAny_noted ?_
  rw [heq]
  refine wpAny_bind (wpAny_standAt (wpAny_bind (wpAny_mono (turn k t hJ) (fun r t1 g1 => ?_) fun _ _ z => z)))
  cases r with
  | none => exact wpAny_pure g1
  | some v =>
    refine wpAny_bind (wpAny_mono g1 (fun _ t2 g2 => ?_) fun _ _ z => z)
    refine wpAny_bind (wpAny_mono g2 (fun _ t3 g3 => wpAny_bind (wpAny_mono g3 (fun ok t4 g4 => ?_) fun _ _ z => z)) fun _ _ z => z)
    cases ok with
    | false => exact wpAny_pure ⟨rfl, g4⟩
    | true => exact g4
/-- the start of a later clause -/
theorem clause_start {s : Shared} {eL : Expr} {gs : List Comprehension} {scope : Scope} {pos : Pos} {d : Nat} {it acc : Value} {env : Env} {tg ix : Expr} {ifs : List Expr} (hcl : (clausesOf (.ListComp eL gs scope pos))[d]? = some ⟨tg, ix, ifs, 0⟩)
    (h0 : codeAny (model P w) A (.compLoop (.ListComp eL gs scope pos) d it acc env) R s)
    (h : wpAny (model P w) A (pyIter it) (fun jt t => codeAny (model P w) A (.compLoop (.ListComp eL gs scope pos) d jt acc env) R t) (Nt P w A env R) s) :
    codeAny (model P w) A (.compStart (.ListComp eL gs scope pos) d it acc env) R s := by
  refine codeAny_of_tree ?_
  show wpAny _ _ ((compStart (.ListComp eL gs scope pos) d it acc env).onRaise (fun x => do noteFrame x env; standAt theWindowsPlace)) _ _ s
  refine wpAny_notedAt ?_
  unfold compStart
  rw [hcl]
  show wpAny _ _ (ask >>= _) _ _ s
  refine wpAny_bind (wpAny_askSetting (wpAny_ite ?_))
  split
  · first
      | exact wpAny_pure ⟨rfl, h0⟩
      | exact wpAny_bind (wpAny_pure (wpAny_pure ⟨rfl, h0⟩))
  · refine wpAny_bind (wpAny_rule ?_)
    show wpAny _ _ (standAt ix.pos >>= _) _ _ s
    exact wpAny_bind (wpAny_standAt (wpAny_bind (wpAny_mono h (fun jt t g => wpAny_pure ⟨rfl, g⟩) fun _ _ z => z)))
end

/-- what a body of a clause does: Y the block's context; its own names are forgotten behind it -/
def PB (Y : Cx) (body : Sem Fin → Sem Fin) (tb : TBd) (V : List Nat) : Prop := ∀ (pins : List (Addr × Obj)) (s : Shared) (σ : L2.St) (H : Hp) (N : Hp → Prop) (k : Sem Fin) (Q : Fin → Shared → Prop) (E : Value → Shared → Prop), Inv Y pins σ H s → tb σ H N →
  (∀ t H', Inv Y pins (wipe σ V) H' t → N H' → wpAny (model Y.prog Y.w) Y.A k Q E t) → wpAny (model Y.prog Y.w) Y.A (body k) Q E s
/-- a clause's loop, read -/
def tLv (J : It) (g : TG) (tt : TT) (tb : TBd) (V : List Nat) : TBd := fun σ H N => ∃ W : Nat → Nat → Hp → Prop, (∃ m, W 0 m H) ∧ ∀ i m H, W i m H →
  (J.stop i H ∧ N H) ∨ (J.go i H ∧ ∃ M : Hp → Prop, (∀ H', M H' → ∃ m', m' < m ∧ W (i + 1) m' H') ∧
    ∀ x H', J.yld i H x H' → g x (wipe σ V) H' fun σ2 H2 => wipe σ2 V = wipe σ V ∧ tt σ2 H2 fun b H3 => if b = true then tb σ2 H3 M else M H3)
section
variable {Y : Cx}
theorem clause_run (hc : Y.calm = true) (hx : ∀ e s, ¬ Y.xe e s) {R : Result → Shared → Prop} {eL : Expr} {gs : List Comprehension} {scope : Scope} {pos : Pos} {d : Nat} {it : Addr} {acc : Value} {tg ix : Expr} {ifs : List Expr} {body : Sem Fin → Sem Fin}
    (heq : compTurn (.ListComp eL gs scope pos) d (.ref it) acc Y.env = (do
      standAt ix.pos
      match ← pyNext (.ref it) with
      | none => pure (.done .next)
      | some v =>
        letOwnedTupleGo tg (.ref it) v
        assign tg Y.env v
        let mut ok := true
        for c in ifs do
          if ok then ok ← isTrue c Y.env (eval c Y.env)
        if ok then body (again (.compLoop (.ListComp eL gs scope pos) d (.ref it) acc Y.env)) else again (.compLoop (.ListComp eL gs scope pos) d (.ref it) acc Y.env)))
    {g : TG} {tt : TT} {tb : TBd} {V U : List Nat} (pg : PG Y tg g) (pt : PTs Y ifs tt) (pb : PB Y body tb U) (hU : ∀ i ∈ U, i ∈ V)
    {pins : List (Addr × Obj)} {σ : L2.St} {H : Hp} {s : Shared} {fp : List Addr} {tn : Nat → Heap → Prop} {J : It} {N : Hp → Prop} (I : Inv Y pins σ H s) (T : Turn Y.prog Y.w Y.K tg J fp it tn) (st : tn 0 s.heap)
    (f : ∀ b ∈ fp, FpOk Y pins H b) (h : tLv J g tt tb V σ H N) (hR : ∀ t H', Inv Y pins (wipe σ V) H' t → N H' → R (.ok .next) t) :
    codeAny (model Y.prog Y.w) Y.A (.compLoop (.ListComp eL gs scope pos) d (.ref it) acc Y.env) R s := by
  obtain ⟨W, ⟨m0, w0⟩, turn⟩ := h
  have fpk : ∀ {H' : Hp}, (∀ b ∈ fp, H' b = none) → ∀ b ∈ fp, FpOk Y pins H' b := fun hn b hb => ⟨hn b hb, (f b hb).2⟩
  refine clause_loop heq (fun k t => ∃ i H', Inv Y pins (wipe σ V) H' t ∧ tn i t.heap ∧ (∀ b ∈ fp, H' b = none) ∧ W i k H') ?_ m0 ⟨0, H, I.weak (wipe_length _ _) (fun j v q => (wipe_some q).1), st, fun b hb => (f b hb).1, w0⟩
  rintro k t ⟨i, Ha, Ia, sa, na, wa⟩
  rcases turn i k Ha wa with ⟨stop, nx⟩ | ⟨go, M, hM, step⟩
  · exact thnF (T.done Y rfl rfl rfl hc i pins t (wipe σ V) Ha (fun _ _ => False) Ia (fpk na) sa stop) fun r t1 ⟨hr, I1⟩ => by subst hr; exact hR t1 Ha I1 nx
  · refine thnF (T.item Y rfl rfl rfl hc i pins t (wipe σ V) Ha (fun _ _ => False) Ia (fpk na) sa go) fun r t1 ⟨u, hr, q1⟩ => ?_
    subst hr
    refine thnF q1 fun _ t2 ⟨x, Hb, Ib, rb, yb, sb, nb⟩ => ?_
    have Ip := Ib.pinned (fpk nb) (T.obj _ _ sb)
    have thX : ∀ {α : Type} {m : Sem α} {Q Q' : α → Shared → Prop} {E : Value → Shared → Prop} {t : Shared}, wpAny (model Y.prog Y.w) Y.A m Q Y.xe t → (∀ a t, Q a t → Q' a t) → wpAny (model Y.prog Y.w) Y.A m Q' E t :=
      fun a b => wpAny_mono a b fun e s z => (hx e s z).elim
    refine thX (pg.run _ t2 _ Hb x u _ Ip rb (step x Hb yb)) fun _ t3 ⟨σc, Hc, Ic, wc, qc⟩ => ?_
    refine thX (pt.run _ t3 σc Hc _ Ic qc) fun b t4 ⟨Hd, Id, qd⟩ => ?_
    have back : ∀ {τ : L2.St} {t5 : Shared} {He : Hp}, Inv Y (pins ++ pinsAt fp t2.heap) τ He t5 → τ.length = σc.length → (∀ (j : Nat) v, (wipe σc V)[j]? = some (some v) → τ[j]? = some (some v)) → M He →
        ∃ m, m < k ∧ ∃ i H', Inv Y pins (wipe σ V) H' t5 ∧ tn i t5.heap ∧ (∀ b ∈ fp, H' b = none) ∧ W i m H' := fun {τ t5 He} Ie hl hk nx => by
      obtain ⟨m', hm, w'⟩ := hM He nx
      have held : ∀ b ∈ fp, ∀ o, t2.heap.get? b = some o → t5.heap.get? b = some o ∧ He b = none := fun b hb o q =>
        have z := Ie.pin (b, o) (List.mem_append_right _ (List.mem_append_right _ (mem_pinsAt hb q)))
        ⟨z.1, z.2.1⟩
      refine ⟨m', hm, i + 1, He, Ie.unpinned.weak (by rw [hl, ← wipe_length σc V, wc]) (fun j v q => hk j v (by rw [wc]; exact q)), T.keep _ _ _ sb fun b hb o q => (held b hb o q).1, fun b hb => ?_, w'⟩
      obtain ⟨o, q, _⟩ := T.obj _ _ sb b hb
      exact (held b hb o q).2
    cases b with
    | false =>
      rw [if_neg (by decide)] at qd ⊢
      exact back Id rfl (fun j v q => (wipe_some q).1) qd
    | true =>
      rw [if_pos rfl] at qd ⊢
      refine pb _ t4 σc Hd M _ _ _ Id qd fun t5 He Ie nx => wpAny_pure ⟨rfl, ?_⟩
      refine back Ie (wipe_length _ _) (fun j v q => ?_) nx
      obtain ⟨q1, q2⟩ := wipe_some q
      rw [wipe_out fun z => q2 (hU j z)]
      exact q1
/-- a later clause as a body -/
theorem pb_clause (hc : Y.calm = true) (hx : ∀ e s, ¬ Y.xe e s) {eL : Expr} {gs : List Comprehension} {scope : Scope} {pos : Pos} {d : Nat} {acc : Value} {tg ix : Expr} {ifs : List Expr} {body : Sem Fin → Sem Fin} (hcl : (clausesOf (.ListComp eL gs scope pos))[d]? = some ⟨tg, ix, ifs, 0⟩)
    (heq : ∀ it, compTurn (.ListComp eL gs scope pos) d it acc Y.env = (do
      standAt ix.pos
      match ← pyNext it with
      | none => pure (.done .next)
      | some v =>
        letOwnedTupleGo tg it v
        assign tg Y.env v
        let mut ok := true
        for c in ifs do
          if ok then ok ← isTrue c Y.env (eval c Y.env)
        if ok then body (again (.compLoop (.ListComp eL gs scope pos) d it acc Y.env)) else again (.compLoop (.ListComp eL gs scope pos) d it acc Y.env)))
    {wi : TI} {g : TG} {tt : TT} {tb : TBd} {V U : List Nat} (pi : PI Y tg ix wi) (pg : PG Y tg g) (pt : PTs Y ifs tt) (pb : PB Y body tb U) (hU : ∀ i ∈ U, i ∈ V) (hs : ∀ x, foldedSetIterable ix Y.env x = pure x) :
    PB Y (fun k => do
      let x ← eval ix Y.env
      standAt ix.pos
      let x ← foldedSetIterable ix Y.env x
      let _ ← runOwn (.compStart (.ListComp eL gs scope pos) d (← holding [x] (pyIter x)) acc Y.env) Y.env
      k) (fun σ H N => wi σ H fun J H1 => tLv J g tt tb V σ H1 N) V := by
  intro pins s σ H N k Q E I h hk
  have thX : ∀ {α : Type} {m : Sem α} {Q Q' : α → Shared → Prop} {E : Value → Shared → Prop} {t : Shared}, wpAny (model Y.prog Y.w) Y.A m Q Y.xe t → (∀ a t, Q a t → Q' a t) → wpAny (model Y.prog Y.w) Y.A m Q' E t :=
    fun a b => wpAny_mono a b fun e s z => (hx e s z).elim
  refine wpAny_bind (thX (pi.run pins s σ H _ I h) fun xv t1 g1 => ?_)
  refine wpAny_bind (wpAny_standAt (wpAny_bind (wpAny_of_eq (hs xv) (wpAny_bind (wpAny_holding (thX g1 fun jt t2 g2 => ?_))))))
  obtain ⟨it, fp, tn, J, H2, rfl, I2, T, st, f, q⟩ := g2
  have loop : codeAny (model Y.prog Y.w) Y.A (.compLoop (.ListComp eL gs scope pos) d (.ref it) acc Y.env) (fun r t => match r with
      | .ok _ => ∃ H', Inv Y pins (wipe σ V) H' t ∧ N H'
      | .error _ => False) t2 := clause_run hc hx (heq _) pg pt pb hU I2 T st f q fun t H' I' n' => ⟨H', I', n'⟩
  refine wpAny_bind (wpAny_runOwn ?_)
  rw [Around.mark_none]
  refine codeAny_mono (clause_start hcl loop (T.self Y.A 0 _ _ _ st loop)) fun r t g3 => ?_
  cases r with
  | ok fl => obtain ⟨H', I', n'⟩ := g3; first | exact hk t H' I' n' | exact wpAny_pure (hk t H' I' n') | exact wpAny_bind (wpAny_pure (hk t H' I' n'))
  | error x => exact g3.elim
/-- the element, put behind the list at D -/
theorem pb_elt (hx : ∀ e s, ¬ Y.xe e s) {elt : Expr} {te : TE} {D : Addr} (pe : PE Y elt te) : PB Y (fun k => do
      (do let _ ← call (.builtin "list.append") [.ref D, ← eval elt Y.env])
      k) (fun σ H N => te σ H fun y H1 => ∃ acc, H1 D = some (.lst acc) ∧ acc.length < sizeLine ∧ N (upd H1 D (.lst (acc ++ [y])))) [] := by
  intro pins s σ H N k Q E I h hk
  refine wpAny_bind (wpAny_bind (wpAny_mono (pe.run pins s σ H _ I h) (fun v t1 ⟨y, H1, I1, r1, acc, h1, h2, n⟩ => ?_) fun e s z => (hx e s z).elim))
  exact wpAny_bind (app_ok I1 h1 h2 r1 fun t2 I2 => wpAny_pure (hk t2 _ I2 n))
end
end L2
namespace L2
open PySem PySem.Spec PyProof.Rows
/-- a whole list comprehension, read: V the block's names, D the new list -/
def tLn (wi : TI) (g : TG) (tt : TT) (tb : Addr → TBd) (V : List Nat) : TE := fun σ H Q => wi σ H fun J H1 => ∀ D, H1 D = none → tLv J g tt (tb D) V σ (upd H1 D (.lst [])) (Q (.ref D))
section
variable {X : Cx}
theorem pe_lcn {eL tg ix : Expr} {ifs : List Expr} {rest : List Comprehension} {scope : Scope} {pos : Pos} {own : List (Str × Nat)} {wi : TI} {g : TG} {tt : TT} {tb : Addr → TBd} {U : List Nat} (body : Value → Env → Sem Fin → Sem Fin)
    (heq : ∀ (it acc : Value) (env : Env), compTurn (.ListComp eL (⟨tg, ix, ifs, 0⟩ :: rest) scope pos) 0 it acc env = (do
      standAt ix.pos
      match ← pyNext it with
      | none => pure (.done .next)
      | some v =>
        letOwnedTupleGo tg it v
        assign tg env v
        let mut ok := true
        for c in ifs do
          if ok then ok ← isTrue c env (eval c env)
        if ok then body acc env (again (.compLoop (.ListComp eL (⟨tg, ix, ifs, 0⟩ :: rest) scope pos) 0 it acc env)) else again (.compLoop (.ListComp eL (⟨tg, ix, ifs, 0⟩ :: rest) scope pos) 0 it acc env)))
    (hc : X.calm = true) (hN : X.N.Nodup) (hi : PI X tg ix wi) (ok : BlkOk X.N X.env.scope scope own)
    (hg : ∀ (s : Shared) (H : Hp) (C : Addr) (cl : List (Str × Addr)) (fp : List Addr), PG (X.blk s H scope (compEnvC scope cl C X.env) fp) tg g)
    (ht : ∀ (s : Shared) (H : Hp) (C : Addr) (cl : List (Str × Addr)) (fp : List Addr), PTs (X.blk s H scope (compEnvC scope cl C X.env) fp) ifs tt)
    (hb : ∀ (s : Shared) (H : Hp) (C : Addr) (cl : List (Str × Addr)) (fp : List Addr) (D : Addr), PB (X.blk s H scope (compEnvC scope cl C X.env) fp) (body (.ref D) (compEnvC scope cl C X.env)) (tb D) U)
    (hU : ∀ i ∈ U, i ∈ own.map (·.2)) (hs : ∀ x, foldedSetIterable ix X.env x = pure x) :
    PE X (.ListComp eL (⟨tg, ix, ifs, 0⟩ :: rest) scope pos) (tLn wi g tt tb (own.map (·.2))) := by
  refine ⟨fun pins s σ H Q I h => ?_⟩
  rw [eval_ListComp]
  have fr : ∀ z ∈ scope.names, z.2 = .free → ∃ c, X.env.cells.lookup z.1 = some c := fun z hz q => (ok.free z hz q).elim (fun k => I.ok.has _ (.inl k)) (fun k => I.ok.has _ (.inr k))
  refine wpAny_comprehension_free (use := none) (g := ⟨tg, ix, ifs, 0⟩) (gs := rest) rfl hs (closure_ok fr) ok.kind (fun z hz q => by rw [ok.uniq z hz, q]) (thn (hi.run pins s σ H _ I h) fun xv t1 g1 => thn g1 fun jt t2 g2 => ?_)
  obtain ⟨it, fp, tn, J, H2, rfl, I2, T, st2, f2, q⟩ := g2
  refine wpAny_newObj_type (newEnv_comp ?_) (Nat.zero_le _)
  obtain ⟨D, hD⟩ : ∃ D, t2.heap.objs.size = D := ⟨_, rfl⟩
  have h0 : H2 D = none := I2.hok.fresh (by rw [hD]; exact Nat.le_refl _)
  have lv := q D h0
  obtain ⟨t3, ht3⟩ : ∃ t3 : Shared, { t2 with heap := t2.heap.push { cls := .type "list", data := .seq ([] : List Value).toArray } } = t3 := ⟨_, rfl⟩
  have hp3 : t3.heap = t2.heap.push { cls := .type "list", data := .seq ([] : List Value).toArray } := by rw [← ht3]
  have I3 : Inv X pins σ (upd H2 D (.lst [])) t3 := by
    have top : (t2.heap.push { cls := .type "list", data := .seq ([] : List Value).toArray }).get? D = some { cls := .type "list", data := .seq ([] : List Value).toArray } := by rw [← hD]; exact Heap.get?_push_size _ rfl
    rw [← ht3]
    exact I2.laid (t' := t2.toks) (fun b o z => Heap.get?_push_of_some _ z) (by rw [hD]; exact Nat.le_refl _) ⟨Nat.zero_le _, [], 0, .nil, top⟩
  have old : ∀ b ∈ fp, b < t2.heap.objs.size := fun b hb => let ⟨_, z, _⟩ := T.obj _ _ st2 b hb; Heap.lt_size z
  have f3 : ∀ b ∈ fp, FpOk X pins (upd H2 D (.lst [])) b ∧ b < t3.heap.objs.size := fun b hb => by
    have hlt := old b hb
    have nd : b ≠ D := by rw [← hD]; exact Nat.ne_of_lt hlt
    exact ⟨⟨(upd_ne nd).trans (f2 b hb).1, (f2 b hb).2⟩, by rw [hp3, Heap.size_push]; exact Nat.lt_succ_of_lt hlt⟩
  have st3 : tn 0 t3.heap := T.keep _ _ _ st2 fun b _ o z => by rw [hp3]; exact Heap.get?_push_of_some _ z
  have I4 := block_start I3 ok hN f3
  generalize hcl : cellsFrom (t3.heap.objs.size + 1) scope.names (cloFrom X.env.cells scope.names []) = cl at I4
  have pg := hg t3 (upd H2 D (.lst [])) t3.heap.objs.size cl fp
  have pt := ht t3 (upd H2 D (.lst [])) t3.heap.objs.size cl fp
  have pb := hb t3 (upd H2 D (.lst [])) t3.heap.objs.size cl fp D
  have st4 : tn 0 (pushCells (t3.heap.push { cls := .type "dict", data := .dict #[] }) scope.names) := T.keep _ _ _ st3 fun b _ o z => pushCells_keeps _ _ _ _ (Heap.get?_push_of_some _ z)
  have fb : ∀ b ∈ fp, FpOk (X.blk t3 (upd H2 D (.lst [])) scope (compEnvC scope cl t3.heap.objs.size X.env) fp) [] (upd H2 D (.lst [])) b := fun b hb =>
    ⟨(f3 b hb).1.1, (I4.ok.exf b hb).1, I4.ok.exfs b hb, .inl hb, fun x c z => (I4.ok.exf b hb).2 x c z, fun p hp => (by cases hp)⟩
  have Tl : tLv J g tt (tb D) (own.map (·.2)) (wipe σ (own.map (·.2))) (upd H2 D (.lst [])) (Q (.ref D)) := by
    unfold tLv at lv ⊢
    rw [Z.wipe_wipe]
    exact lv
  have cC : (compEnvC scope cl t3.heap.objs.size X.env).locals = t3.heap.objs.size := rfl
  have loop : codeAny (model X.prog X.w) X.A (.compLoop (.ListComp eL (⟨tg, ix, ifs, 0⟩ :: rest) scope pos) 0 (.ref it) (.ref D) (compEnvC scope cl t3.heap.objs.size X.env))
      (compPost (model X.prog X.w) X.A X.xe none (EP X pins σ Q) (.ref D) t3.heap.objs.size) { t3 with heap := pushCells (t3.heap.push { cls := .type "dict", data := .dict #[] }) scope.names } := by
    refine clause_run (Y := X.blk t3 (upd H2 D (.lst [])) scope (compEnvC scope cl t3.heap.objs.size X.env) fp) hc (fun _ _ z => z) (heq _ _ _) pg pt pb hU I4 T st4 fb Tl fun t H' I' qq => ?_
    have Iz : Inv X pins σ H' t := I3.call' (ch := fp) I'.os I'.base I'.hok I'.bare fun b hb => ⟨(f3 b hb).1.2.2.2.1, (f3 b hb).1.2.1, (f3 b hb).1.2.2.2.2.1, (f3 b hb).1.2.2.2.2.2⟩
    have free : H' t3.heap.objs.size = none := I'.free
    obtain ⟨m, hn, _⟩ := I'.loc
    obtain ⟨k0, k1, k2, k3, k4, k5⟩ := I3.fpOk (Nat.le_refl _) free
    exact ⟨m, hn, fun h2 sb => ⟨.ref D, H', Iz.turned (t' := t.toks) (fun b o hb z => (sb.2 b hb).trans z) k0 k1 k3 k4 k5, rfl, qq⟩⟩
  subst hcl
  subst ht3
  subst hD
  exact codeAny_compStart_list loop (T.self X.A 0 _ _ _ st4 loop)
end
end L2
namespace Z
open PySem L2
/-- what stays while the list at p grows -/
structure ExD (p : Addr) (al : List Addr) (H : Hp) (al' : List Addr) (H' : Hp) : Prop where
  pre : ∃ be, al' = al ++ be
  fr : ∀ a o, H a = some o → a ∉ al → a ≠ p → H' a = some o ∧ a ∉ al'
section
variable {K : PySem.W.Frag} {B : Addr → Prop} {al al' al2 : List Addr} {H H' H2 : Hp} {p : Addr}
theorem ExD.refl : ExD p al H al H := ⟨⟨[], by simp⟩, fun _ _ h n _ => ⟨h, n⟩⟩
theorem ExD.step (x : ExD p al H al' H') (y : Ex al' H' al2 H2) : ExD p al H al2 H2 := by
  obtain ⟨⟨b1, e1⟩, f1⟩ := x
  obtain ⟨⟨b2, e2⟩, f2⟩ := y
  exact ⟨⟨b1 ++ b2, by rw [e2, e1, List.append_assoc]⟩, fun a o h n k => let ⟨u, v⟩ := f1 a o h n k; f2 a o u v⟩
theorem ExD.trans (x : ExD p al H al' H') (y : ExD p al' H' al2 H2) : ExD p al H al2 H2 := by
  obtain ⟨⟨b1, e1⟩, f1⟩ := x
  obtain ⟨⟨b2, e2⟩, f2⟩ := y
  exact ⟨⟨b1 ++ b2, by rw [e2, e1, List.append_assoc]⟩, fun a o h n k => let ⟨u, v⟩ := f1 a o h n k; f2 a o u v k⟩
theorem ExD.poke (x : ExD p al H al' H') {o : HO} : ExD p al H al' (upd H' p o) := ⟨x.pre, fun a u e n k => ⟨by rw [upd_ne k]; exact (x.fr a u e n k).1, (x.fr a u e n k).2⟩⟩
theorem Ex.toD (x : Ex al H al' H') : ExD p al H al' H' := ⟨x.pre, fun a o h n _ => x.fr a o h n⟩
theorem ExD.toB (x : ExD p al H al' H') (hb : B p) {vs : List V} (h : H p = some (.lst vs)) : ExB B al H al' H' := ⟨x.pre, fun a o e n k => x.fr a o e n fun z => by
  subst z
  rcases k with k | ⟨us, rfl⟩
  · exact k hb
  · rw [h] at e; cases e⟩
theorem ExB.transD {B0 : Addr → Prop} (x : ExB B0 al H al' H') (y : ExD p al' H' al2 H2) (hp : B0 p ∨ H p = none) (h : ∀ vs, H p ≠ some (.tup vs)) : ExB B0 al H al2 H2 := by
  obtain ⟨⟨b1, e1⟩, f1⟩ := x
  obtain ⟨⟨b2, e2⟩, f2⟩ := y
  refine ⟨⟨b1 ++ b2, by rw [e2, e1, List.append_assoc]⟩, fun a o g n k => ?_⟩
  obtain ⟨u, v⟩ := f1 a o g n k
  refine f2 a o u v fun z => ?_
  subst z
  rcases hp with hp | hp
  · rcases k with k | ⟨us, rfl⟩
    · exact k hp
    · exact h _ g
  · rw [hp] at g; cases g
theorem Ex.transD {al0 : List Addr} {H0 : Hp} (x : Ex al0 H0 al H) (y : ExD p al H al' H') (hp : H0 p = none) : Ex al0 H0 al' H' := by
  obtain ⟨⟨b1, e1⟩, f1⟩ := x
  obtain ⟨⟨b2, e2⟩, f2⟩ := y
  exact ⟨⟨b1 ++ b2, by rw [e2, e1, List.append_assoc]⟩, fun a o g n => let ⟨u, v⟩ := f1 a o g n; f2 a o u v (ne_of_none g hp)⟩
end
/-- a body that puts things behind the list at p -/
def tBZ (K : PySem.W.Frag) (p : Addr) (mb : Env → M (List D)) : TBd := fun σ H N => ∃ (B : Addr → Prop) (al : List Addr) (S : Store) (ρ : Env) (ys : List D) (S' : Store) (acc : List D) (us : List V),
  Rel K B al S H ∧ B p ∧ ER K B al H ρ σ ∧ H p = some (.lst us) ∧ RL K B al H acc us ∧ mb ρ S = some (ys, S') ∧ us.length + ys.length ≤ lim ∧
    ∀ (al' : List Addr) (H' : Hp) (us' : List V), Rel K B al' S' H' → ExD p al H al' H' → H' p = some (.lst us') → RL K B al' H' (acc ++ ys) us' → N H'
def mOne (e : ME) : Env → M (List D) := fun ρ => bnd (e ρ) fun d => ret [d]
def mLv (V : List Nat) (g : Tg) (it : MI) (t : MT) (mb : Env → M (List D)) : Env → M (List D) := fun ρ S => match it ρ S with
  | some ((xs, ok), S1) => mLcLL V g ok t mb ρ xs S1
  | none => none
def mLcN (V : List Nat) (g : Tg) (it : MI) (t : MT) (mb : Env → M (List D)) : MA := fun ρ S => match mLv V g it t mb ρ S with
  | some (ys, S2) => if ys.length ≤ lim then some (ys, S2) else none
  | none => none
section
variable {K : PySem.W.Frag} {p : Addr}
theorem tbz_elt {e : ME} : ∀ σ H N, tBZ K p (mOne e) σ H N → tE K e σ H fun y H1 => ∃ acc, H1 p = some (.lst acc) ∧ acc.length < sizeLine ∧ N (upd H1 p (.lst (acc ++ [y]))) := fun σ H N ⟨B, al, S, ρ, ys, S', acc, us, R, hb, er, hp, ra, hm, hl, q⟩ => by
  obtain ⟨d, S1, h1, h2⟩ := bnd_some hm
  obtain ⟨rfl, rfl⟩ := ret_some h2
  have np := (R.bh p hb).1
  refine ⟨B, al, S, ρ, d, S1, R, er, h1, fun v al1 H1 R1 x1 r1 => ?_⟩
  have hp1 := (x1.fr p _ hp np).1
  refine ⟨us, hp1, lim_lt (Nat.lt_of_succ_le (by simpa using hl)), ?_⟩
  exact q al1 _ (us ++ [v]) (R1.poke hb hp1) (x1.toD.poke) upd_same (((ra.mono R x1).append (.cons _ _ _ _ r1 .nil)).poke hb hp1)
theorem lv_of {Vs : List Nat} {g : Tg} {t : MT} {mb : Env → M (List D)} {ok : Store → Bool} {xs : List D} {J : It} (hv : ∀ i ∈ g.slots, i ∈ Vs) {B0 B : Addr → Prop} {al0 al : List Addr} {H0 H : Hp} {S S' : Store} {ρ : Env} {ys acc : List D} {us : List V} {σ : L2.St} {N : Hp → Prop}
    (w : IsW K B0 xs ok J al0 H0) (hBB : ∀ a, B0 a → B a) (x0 : ExB B0 al0 H0 al H) (hp0 : B0 p ∨ H0 p = none) (hpt : ∀ vs, H0 p ≠ some (.tup vs)) (hrv : ∀ d v, RV K B0 al0 H0 d v → RV K B al H d v)
    (R : Rel K B al S H) (hb : B p) (er : ER K B al H ρ σ) (hp : H p = some (.lst us)) (ra : RL K B al H acc us) (hm : mLcLL Vs g ok t mb ρ xs S = some (ys, S')) (hl : us.length + ys.length ≤ lim)
    (q : ∀ (al' : List Addr) (H' : Hp) (us' : List V), Rel K B al' S' H' → ExD p al H al' H' → H' p = some (.lst us') → RL K B al' H' (acc ++ ys) us' → N H') :
    tLv J (tTg K g) (tT K t) (tBZ K p mb) Vs σ H N := by
  obtain ⟨G, Y, wk, hG, hY⟩ := w
  let Pv : Nat → Hp → Prop := fun i H2 => ∃ al2 S2 ac2 us2 rest, Rel K B al2 S2 H2 ∧ ExD p al H al2 H2 ∧ H2 p = some (.lst us2) ∧ RL K B al2 H2 ac2 us2 ∧ mLcLL Vs g ok t mb ρ (xs.drop i) S2 = some (rest, S') ∧ ac2 ++ rest = acc ++ ys
  refine walk_gen (Step := fun x H' M => tTg K g x (wipe σ Vs) H' fun σ2 H2 => wipe σ2 Vs = wipe σ Vs ∧ tT K t σ2 H2 fun b H3 => if b = true then tBZ K p mb σ2 H3 M else M H3) wk Pv ⟨al, S, acc, us, ys, R, .refl, hp, ra, hm, rfl⟩ ?_ ?_ ?_
  · rintro i H2 hi ⟨al2, S2, ac2, us2, rest, R2, x2, hp2, ra2, h3, h4⟩
    exact hG _ al2 S2 H2 R2 (x0.transD x2 hp0 hpt) (lcLL_ok h3)
  · rintro i x H2 H3 hi ⟨al2, S2, ac2, us2, rest, R2, x2, hp2, ra2, h3, h4⟩ hy
    rw [List.drop_eq_getElem_cons hi] at h3
    unfold mLcLL at h3
    split at h3
    · rename_i hk
      split at h3
      · cases h3
      · rename_i ρ3 hput
        have xb := x2.toB (B := B) hb hp
        obtain ⟨R3, x3, rv⟩ := hY B i al2 S2 H2 x H3 xs[i] hBB R2 (x0.transD x2 hp0 hpt) (fun d v r => (hrv d v r).monoB R.nt xb) (by simp [hi]) hk hy
        have n2 : p ∉ al2 := (R2.bh p hb).1
        refine ⟨B, al2, S2, wipeD ρ Vs, ρ3, xs[i], R3, ((er.monoB R.nt xb).wipe Vs).mono R2 x3, rv, hput, fun σ3 er3 hw => ⟨(hw Vs hv).trans wipe_wipe, ?_⟩⟩
        have hp3 := x3.fr p _ hp2 n2
        have ra3 := ra2.mono R2 x3
        split at h3
        · cases h3
        · rename_i S4 h5
          split at h3
          · cases h3
          · rename_i y1 S5 h6
            split at h3
            · cases h3
            · rename_i zs S6 h7
              cases h3
              refine ⟨B, al2, S2, ρ3, true, S4, R3, er3, h5, fun k al4 H4 R4 x4 ek => ?_⟩
              subst ek
              rw [if_pos rfl]
              have hp4 := x4.fr p _ hp3.1 hp3.2
              have hlen := ra2.len
              have htot := congrArg List.length h4
              have hacc := ra.len
              simp only [List.length_append] at htot
              refine ⟨B, al4, S4, ρ3, y1, S5, ac2, us2, R4, hb, er3.mono R3 x4, hp4.1, ra3.mono R3 x4, h6, by omega, fun al5 H5 us5 R5 x5 hp5 ra5 => ?_⟩
              exact ⟨al5, S5, ac2 ++ y1, us5, zs, R5, ((x2.step x3).step x4).trans x5, hp5, ra5, h7, by rw [List.append_assoc]; exact h4⟩
        · rename_i S4 h5
          refine ⟨B, al2, S2, ρ3, false, S4, R3, er3, h5, fun k al4 H4 R4 x4 ek => ?_⟩
          subst ek
          exact ⟨al4, S4, ac2, us2, rest, R4, (x2.step x3).step x4, (x4.fr p _ hp3.1 hp3.2).1, ra3.mono R3 x4, h3, h4⟩
    · cases h3
  · rintro H2 ⟨al2, S2, ac2, us2, rest, R2, x2, hp2, ra2, h3, h4⟩
    rw [List.drop_length] at h3
    unfold mLcLL at h3
    split at h3
    · cases h3
      rw [List.append_nil] at h4
      exact q al2 H2 us2 R2 x2 hp2 (h4 ▸ ra2)
    · cases h3
theorem tbz_lv {V : List Nat} {g : Tg} {it : MI} {t : MT} {mb : Env → M (List D)} (hv : ∀ i ∈ g.slots, i ∈ V) : ∀ σ H N, tBZ K p (mLv V g it t mb) σ H N → tW K it σ H fun J H1 => tLv J (tTg K g) (tT K t) (tBZ K p mb) V σ H1 N := fun σ H N ⟨B, al, S, ρ, ys, S', acc, us, R, hb, er, hp, ra, hm, hl, q⟩ => by
  unfold mLv at hm
  split at hm
  · rename_i xs ok S1 h1
    refine ⟨B, al, S, ρ, xs, ok, S1, R, er, h1, fun J al1 H1 R1 x1 w => ?_⟩
    have np := (R.bh p hb).1
    have hp1 := (x1.fr p _ hp np).1
    exact lv_of hv w (fun _ z => z) Ex.refl.toB (.inl hb) (fun vs z => by rw [hp1] at z; cases z) (fun _ _ z => z) R1 hb (er.mono R x1) hp1 (ra.mono R x1) hm hl fun al' H' us' R' x' h' r' => q al' H' us' R' ((x1.toD (p := p)).trans x') h' r'
  · cases hm
theorem lcn_of {V : List Nat} {g : Tg} {it : MI} {t : MT} {mb : Env → M (List D)} (hv : ∀ i ∈ g.slots, i ∈ V) : ∀ σ H Q, tF K (mLcN V g it t mb) σ H Q → tLn (tW K it) (tTg K g) (tT K t) (fun D => tBZ K D mb) V σ H Q := fun σ H Q ⟨B, al, S, ρ, ys, S', R, er, hm, q⟩ => by
  unfold mLcN at hm
  split at hm
  · rename_i zs S2 h2
    split at hm
    · rename_i hz
      cases hm
      unfold mLv at h2
      split at h2
      · rename_i xs ok S1 h1
        refine ⟨B, al, S, ρ, xs, ok, S1, R, er, h1, fun J al1 H1 R1 x1 w => fun Dl hD => ?_⟩
        have h0 : H Dl = none := fresh_al x1 (R1.fresh hD) hD
        obtain ⟨xb, Rb⟩ := R1.ban (o := .lst []) hD
        refine lv_of hv w bp_less xb.toB (.inr hD) (fun vs z => by rw [hD] at z; cases z) (fun d v r => (r.ban hD).monoN R1.nt xb) Rb (.inr rfl) (((er.mono R x1).ban hD).monoN R1.nt xb) upd_same .nil h2 (by simpa using hz) fun al' H' us' R' x' h' r' => ?_
        exact q Dl us' al' H' R' (x1.trans (xb.transD x' hD)) h0 h' (by simpa using r')
      · cases h2
    · cases hm
  · cases hm
end
section
variable {X : Cx}
theorem pb_imp {Y : Cx} {body : Sem Fin → Sem Fin} {tb tb' : TBd} {V : List Nat} (h : PB Y body tb V) (q : ∀ σ H N, tb' σ H N → tb σ H N) : PB Y body tb' V := fun pins s σ H N k Q E I w => h pins s σ H N k Q E I (q _ _ _ w)
theorem sn_lc3 {elt tg iter tg1 iter1 tg2 iter2 : Expr} {ifs ifs1 ifs2 : List Expr} {scope : Scope} {own : List (Str × Nat)} {pos : Pos} {g g1 g2 : Tg} {it it1 it2 : MI} {t t1 t2 : MT} {e : ME} (V1 V2 : List Nat) (hc : X.calm = true) (hN : X.N.Nodup) (hi : Si X tg iter it) (ok : BlkOk X.N X.env.scope scope own)
    (hw : ∀ i ∈ V1, i ∈ own.map (·.2)) (hw2 : ∀ i ∈ V2, i ∈ V1)
    (hg : ∀ (s : Shared) (H : Hp) (C : Addr) (cl : List (Str × Addr)) (fp : List Addr), Sg (X.blk s H scope (compEnvC scope cl C X.env) fp) tg g)
    (ht : ∀ (s : Shared) (H : Hp) (C : Addr) (cl : List (Str × Addr)) (fp : List Addr), PTs (X.blk s H scope (compEnvC scope cl C X.env) fp) ifs (tT X.K t))
    (hi1 : ∀ (s : Shared) (H : Hp) (C : Addr) (cl : List (Str × Addr)) (fp : List Addr), Si (X.blk s H scope (compEnvC scope cl C X.env) fp) tg1 iter1 it1)
    (hg1 : ∀ (s : Shared) (H : Hp) (C : Addr) (cl : List (Str × Addr)) (fp : List Addr), Sg (X.blk s H scope (compEnvC scope cl C X.env) fp) tg1 g1)
    (ht1 : ∀ (s : Shared) (H : Hp) (C : Addr) (cl : List (Str × Addr)) (fp : List Addr), PTs (X.blk s H scope (compEnvC scope cl C X.env) fp) ifs1 (tT X.K t1))
    (hi2 : ∀ (s : Shared) (H : Hp) (C : Addr) (cl : List (Str × Addr)) (fp : List Addr), Si (X.blk s H scope (compEnvC scope cl C X.env) fp) tg2 iter2 it2)
    (hg2 : ∀ (s : Shared) (H : Hp) (C : Addr) (cl : List (Str × Addr)) (fp : List Addr), Sg (X.blk s H scope (compEnvC scope cl C X.env) fp) tg2 g2)
    (ht2 : ∀ (s : Shared) (H : Hp) (C : Addr) (cl : List (Str × Addr)) (fp : List Addr), PTs (X.blk s H scope (compEnvC scope cl C X.env) fp) ifs2 (tT X.K t2))
    (he : ∀ (s : Shared) (H : Hp) (C : Addr) (cl : List (Str × Addr)) (fp : List Addr), Sn (X.blk s H scope (compEnvC scope cl C X.env) fp) elt e)
    (hv : ∀ i ∈ g.slots, i ∈ own.map (·.2)) (hv1 : ∀ i ∈ g1.slots, i ∈ V1) (hv2 : ∀ i ∈ g2.slots, i ∈ V2)
    (hs : ∀ x, foldedSetIterable iter X.env x = pure x := by intro _; rfl) (hs1 : ∀ env x, foldedSetIterable iter1 env x = pure x := by intro _ _; rfl) (hs2 : ∀ env x, foldedSetIterable iter2 env x = pure x := by intro _ _; rfl) :
    SnF X (.ListComp elt [⟨tg, iter, ifs, 0⟩, ⟨tg1, iter1, ifs1, 0⟩, ⟨tg2, iter2, ifs2, 0⟩] scope pos) (mLcN (own.map (·.2)) g it t (mLv V1 g1 it1 t1 (mLv V2 g2 it2 t2 (mOne e)))) := by
  have inner : ∀ (s : Shared) (H : Hp) (C : Addr) (cl : List (Str × Addr)) (fp : List Addr) (D : Addr), PB (X.blk s H scope (compEnvC scope cl C X.env) fp) (fun k => do
      (do let _ ← call (.builtin "list.append") [.ref D, ← eval elt (compEnvC scope cl C X.env)])
      k) (tBZ X.K D (mOne e)) [] := fun s H C cl fp D =>
    pb_imp (pb_elt (Y := X.blk s H scope (compEnvC scope cl C X.env) fp) (fun _ _ z => z) (he s H C cl fp)) tbz_elt
  have mid := fun (s : Shared) (H : Hp) (C : Addr) (cl : List (Str × Addr)) (fp : List Addr) (D : Addr) => pb_imp (pb_clause (Y := X.blk s H scope (compEnvC scope cl C X.env) fp) (eL := elt) (gs := [⟨tg, iter, ifs, 0⟩, ⟨tg1, iter1, ifs1, 0⟩, ⟨tg2, iter2, ifs2, 0⟩]) (scope := scope) (pos := pos) (d := 2) (acc := .ref D) (V := V2) hc (fun _ _ z => z) rfl (by intro _; rfl) (hi2 s H C cl fp) (hg2 s H C cl fp) (ht2 s H C cl fp) (inner s H C cl fp D) (fun i z => by cases z) (hs2 _)) (tbz_lv (it := it2) hv2)
  have outer := fun (s : Shared) (H : Hp) (C : Addr) (cl : List (Str × Addr)) (fp : List Addr) (D : Addr) => pb_imp (pb_clause (Y := X.blk s H scope (compEnvC scope cl C X.env) fp) (eL := elt) (gs := [⟨tg, iter, ifs, 0⟩, ⟨tg1, iter1, ifs1, 0⟩, ⟨tg2, iter2, ifs2, 0⟩]) (scope := scope) (pos := pos) (d := 1) (acc := .ref D) (V := V1) hc (fun _ _ z => z) rfl (by intro _; rfl) (hi1 s H C cl fp) (hg1 s H C cl fp) (ht1 s H C cl fp) (mid s H C cl fp D) hw2 (hs1 _)) (tbz_lv (it := it1) hv1)
  exact pe_imp (pe_lcn (eL := elt) (rest := [⟨tg1, iter1, ifs1, 0⟩, ⟨tg2, iter2, ifs2, 0⟩]) (g := tTg X.K g) (tt := tT X.K t) (tb := fun D => tBZ X.K D (mLv V1 g1 it1 t1 (mLv V2 g2 it2 t2 (mOne e)))) (fun acc env k => do
      let x ← eval iter1 env
      standAt iter1.pos
      let x ← foldedSetIterable iter1 env x
      let _ ← runOwn (.compStart (.ListComp elt [⟨tg, iter, ifs, 0⟩, ⟨tg1, iter1, ifs1, 0⟩, ⟨tg2, iter2, ifs2, 0⟩] scope pos) 1 (← holding [x] (pyIter x)) acc env) env
      k) (by intro _ _ _; rfl) hc hN hi ok hg ht outer hw hs) (lcn_of hv)
end
end Z
set_option Elab.async false
set_option linter.all false
set_option maxRecDepth 100000
/-! min of pairs of whole numbers; dict comprehensions. -/
namespace Z
def ltP (x y : List Int) : Bool := match x, y with
  | [a, b], [c, d] => decide (a < c) || (!decide (c < a) && decide (b < d))
  | _, _ => false
def minP (x : List Int) (xs : List (List Int)) : List Int := xs.foldl (fun a y => if ltP y a then y else a) x
end Z
namespace L2
open PySem PySem.Spec PyProof.Rows
def pdI (ns : List Int) : PyData := .tuple (ns.map .int)
theorem pdI_inj {a b : List Int} (h : pdI a = pdI b) : a = b := by
  simp only [pdI, PyData.tuple.injEq] at h
  induction a generalizing b with
  | nil => cases b <;> simp_all
  | cons x a ih =>
    cases b with
    | nil => simp at h
    | cons y b => simp only [List.map_cons, List.cons.injEq, PyData.int.injEq] at h; rw [h.1, ih h.2]
theorem lexc (x y : Int ⊕ List Nat) (r t : List (Int ⊕ List Nat)) : PyProof.Rows.lexLt PyProof.Rows.itemOrd (x :: r) (y :: t) = (PyProof.Rows.itemLt x y || (!PyProof.Rows.itemLt y x && PyProof.Rows.lexLt PyProof.Rows.itemOrd r t)) := by first | rfl | exact PyProof.Rows.lex_cons (O := PyProof.Rows.itemOrd) x y r t
theorem lexn : PyProof.Rows.lexLt PyProof.Rows.itemOrd [] [] = false := by first | rfl | simp [PyProof.Rows.lexLt]
theorem lt_pair (a b c d : Int) : PySem.W.dataLt (pdI [a, b]) (pdI [c, d]) = Z.ltP [a, b] [c, d] := by
  show PyProof.Rows.lexLt PyProof.Rows.itemOrd [.inl 1, .inl a, .inl 1, .inl b, .inl 0] [.inl 1, .inl c, .inl 1, .inl d, .inl 0] = _
  erw [lexc, lexc, lexc, lexc, lexc, lexn]
  simp [Z.ltP, PyProof.Rows.itemLt]
theorem len2 {ns : List Int} (h : ns.length = 2) : ∃ a b, ns = [a, b] := by
  match ns, h with
  | [a, b], _ => exact ⟨a, b, rfl⟩
theorem minP_mem : ∀ (xs : List (List Int)) (x : List Int), Z.minP x xs ∈ x :: xs
  | [], x => List.mem_cons_self
  | y :: ys, x => by
    have h := minP_mem ys (if Z.ltP y x then y else x)
    show Z.minP (if Z.ltP y x then y else x) ys ∈ _
    rcases List.mem_cons.mp h with h | h
    · rw [h]; split <;> simp
    · exact List.mem_cons_of_mem _ (List.mem_cons_of_mem _ h)
theorem minD_pairs : ∀ (xs : List (List Int)) (x : List Int), x.length = 2 → (∀ y ∈ xs, y.length = 2) → PySem.W.minD (pdI x) (xs.map pdI) = pdI (Z.minP x xs)
  | [], x, _, _ => rfl
  | y :: ys, x, hx, h => by
    obtain ⟨a, b, rfl⟩ := len2 hx
    obtain ⟨c, d, rfl⟩ := len2 (h y List.mem_cons_self)
    have ih := minD_pairs ys (if Z.ltP [c, d] [a, b] then [c, d] else [a, b]) (by split <;> rfl) fun z hz => h z (List.mem_cons_of_mem _ hz)
    show PySem.W.minD (if PySem.W.dataLt (pdI [c, d]) (pdI [a, b]) then pdI [c, d] else pdI [a, b]) (ys.map pdI) = _
    rw [lt_pair, ← apply_ite pdI, ih]
    rfl
/-- min of a list of pairs of whole numbers -/
def rMinT (K : PySem.W.Frag) : List V → Hp → VK → Prop := fun vs H Q => ∃ (a : Addr) (us : List V) (x : List Int) (xs : List (List Int)), vs = [V.ref a] ∧ SqL K H a us ∧ us.length = (x :: xs).length ∧ (∀ y ∈ x :: xs, y.length = 2) ∧
  (∀ (i : Nat) (u : V) (ns : List Int), us[i]? = some u → (x :: xs)[i]? = some ns → TupI K H u ns) ∧ ∀ (i : Nat) (u : V), us[i]? = some u → (x :: xs)[i]? = some (Z.minP x xs) → Q u H
theorem dp_tupI {K : PySem.W.Frag} {H : Hp} {u : V} {ns : List Int} (h : TupI K H u ns) : Dp K H u (pdI ns) := by
  obtain ⟨a, rfl, h⟩ := h
  exact .tup h (Z.dp_ints ns)
theorem dpAll_of {K : PySem.W.Frag} {H : Hp} : ∀ {us : List V} {nss : List (List Int)}, us.length = nss.length → (∀ (i : Nat) (u : V) (ns : List Int), us[i]? = some u → nss[i]? = some ns → TupI K H u ns) → DpAll K H us (nss.map pdI)
  | [], [], _, _ => .nil
  | [], _ :: _, h, _ => by simp at h
  | _ :: _, [], h, _ => by simp at h
  | u :: us, ns :: nss, hl, h => .cons (dp_tupI (h 0 u ns rfl rfl)) (dpAll_of (by simpa using hl) fun i v m h1 h2 => h (i + 1) v m (by simpa using h1) (by simpa using h2))
theorem cr_minT {X : Cx} (hc : X.calm = true) (hu : X.A.units + 64 < cLine) : CallR X (.builtin "min") (rMinT X.K) := by
  intro pins s σ H vs ws Q I r h
  obtain ⟨a, us, x, xs, rfl, hs, hl, h2, ht, q⟩ := h
  obtain ⟨its, rv, pl, _⟩ := I.list hs
  rw [Vals.ref1 r]
  obtain ⟨as, hr⟩ := Dp.readsAll I _ us its (dpAll_of hl ht) rv
  have hdep : ∀ ys : List (List Int), PyData.depthAll (ys.map pdI) ≤ 1 := by
    intro ys
    induction ys with
    | nil => simp [PyData.depthAll]
    | cons y ys ih =>
      have : (pdI y).depth ≤ 1 := by
        have : ∀ ns : List Int, PyData.depthAll (ns.map PyData.int) = 0 := by
          intro ns
          induction ns with
          | nil => rfl
          | cons n ns ih => simp [PyData.depthAll, PyData.depth, ih]
        simp [pdI, PyData.depth, this]
      simp only [List.map_cons, PyData.depthAll]
      omega
  have hal : PySem.W.AlikeAll ((x :: xs).map pdI) := by
    refine ⟨fun y hy z hz => ?_, fun y hy => ?_⟩
    · obtain ⟨y1, hy1, rfl⟩ := List.mem_map.mp hy
      obtain ⟨z1, hz1, rfl⟩ := List.mem_map.mp hz
      obtain ⟨a, b, rfl⟩ := len2 (h2 y1 hy1)
      obtain ⟨c, d, rfl⟩ := len2 (h2 z1 hz1)
      simp [pdI, PySem.W.alike, PySem.W.alikeAll]
    · obtain ⟨y, hy, rfl⟩ := List.mem_map.mp hy
      simp [pdI]
  refine PySem.W.min_list_data (x := pdI x) (xs := xs.map pdI) (I.ok.hd hc) pl.isList (by simpa using hr) hal (by have := hdep (x :: xs); simp only [List.map_cons] at this; omega) fun i v h' tk bs hi hv hk => ?_
  have hi2 : its[i]? = some v := by simpa using hi
  obtain ⟨hil, hie⟩ := List.getElem?_eq_some_iff.mp hi2
  have hul : i < us.length := by rw [rv.length]; exact hil
  have hxl : i < (x :: xs).length := by rw [← hl]; exact hul
  obtain ⟨w, hw, rw'⟩ := rv.get (x := us[i]) (i := i) (by simp [hul])
  rw [hi2] at hw
  cases hw
  have hns := ht i us[i] (x :: xs)[i] (by simp [hul]) (by simp [hxl])
  obtain ⟨cs, hr2⟩ := Dp.reads I _ _ v (dp_tupI hns) rw'
  have hr3 := PyProof.Rows.Reads.keeps hk hr2
  rw [minD_pairs xs x (h2 x List.mem_cons_self) fun y hy => h2 y (List.mem_cons_of_mem _ hy)] at hv
  have heq := pdI_inj (Reads.unique hr3 _ _ hv).1
  exact ⟨us[i], H, I.kept (t' := tk) hk, rw', q i us[i] (by simp [hul]) (by rw [← heq]; simp [hxl])⟩
end L2
namespace Z
open PySem L2
def cMinT (ds : List D) : M D := fun S => match ds with
  | [d] => match (asLC S d).bind tupsOf with
    | some (x :: xs) => if (x :: xs).all (fun y => decide (y.length = 2)) = true then some (tupI (minP x xs), S) else none
    | _ => none
  | _ => none
theorem c_minT {K : PySem.W.Frag} : CRS K (rMinT K) cMinT := fun B al S H ds z vs S' R r1 h Q q => by
  unfold cMinT at h
  split at h
  · rename_i d
    split at h
    · rename_i x xs hx
      split at h
      · rename_i hall
        cases h
        obtain ⟨ys, h1, h2⟩ := Option.bind_eq_some_iff.mp hx
        obtain ⟨v, rfl, rv⟩ := rl_one r1
        obtain ⟨a, us, rfl, ha, ra⟩ := asLC_rep R rv h1
        rw [tupsOf_some h2] at ra
        have hlen := ra.len
        refine ⟨a, us, x, xs, rfl, ha, by simpa using hlen.symm, fun y hy => by simpa using List.all_eq_true.mp hall y hy, fun i u ns e1 e2 => ?_, fun i u e1 e2 => ?_⟩
        · obtain ⟨w, e3, rw'⟩ := ra.get (i := i) (d := tupI ns) (by rw [List.getElem?_map, e2]; rfl)
          rw [e1] at e3; cases e3
          exact rv_tupI rw'
        · obtain ⟨w, e3, rw'⟩ := ra.get (i := i) (d := tupI (minP x xs)) (by rw [List.getElem?_map, e2]; rfl)
          rw [e1] at e3; cases e3
          exact q _ al H R .refl rw'
      · cases h
    · cases h
  · cases h
theorem wp_cMinT {d : D} {S : Store} {x : List Int} {xs : List (List Int)} {Q} (h : asLC S d = some ((x :: xs).map tupI)) (h2 : ∀ y ∈ x :: xs, y.length = 2) (q : Q (tupI (minP x xs)) S) : wp (cMinT [d]) S Q := by
  refine ⟨_, _, ?_, q⟩
  have e : (asLC S d).bind tupsOf = some (x :: xs) := by rw [h]; exact tupsOf_map (x :: xs)
  simp only [cMinT, e]
  rw [if_pos (List.all_eq_true.mpr fun y hy => by simpa using h2 y hy)]
end Z
namespace Z
open PySem L2
section
variable {K : PySem.W.Frag} {B : Addr → Prop} {al : List Addr} {H : Hp} {p : Addr} {o : HO}
mutual
theorem RV.pokeG (hb : B p) (h0 : ∀ vs, H p ≠ some (.tup vs)) : ∀ {d : D} {v : V}, RV K B al H d v → RV K B al (upd H p o) d v
  | _, _, .non => .non
  | _, _, .bl b => .bl b
  | _, _, .int i => .int i
  | _, _, .str s => .str s
  | _, _, .tup a ds vs h r => .tup a ds vs (by
      show upd H p _ a = _
      rw [upd_ne (fun e => by rw [e] at h; exact h0 _ h)]; exact h) (RL.pokeG hb h0 r)
  | _, _, .lst a ds vs h r => .lst a ds vs ⟨by rw [upd_ne (fun e => h.2.2 (by rw [e]; exact hb))]; exact h.1, h.2⟩ (RL.pokeG hb h0 r)
  | _, _, .scr a ns h => .scr a ns (match h with
    | .inl ⟨x, y, z⟩ => .inl ⟨(by
        have ne : a ≠ p := fun e => z (by rw [e]; exact hb)
        rcases x with x | ⟨o, x⟩
        · exact .inl (by rw [upd_ne ne]; exact x)
        · exact .inr ⟨o, by rw [upd_ne ne]; exact x⟩), y, z⟩
    | .inr x => .inr x)
  | _, _, .tpi a ns h => .tpi a ns (match h with
    | ⟨o, ⟨h1, h2, h3⟩, h4⟩ => ⟨o, ⟨by rw [upd_ne (fun e => h3 (by rw [e]; exact hb))]; exact h1, h2, h3⟩, h4⟩)
  | _, _, .tpx a ds vs h r => .tpx a ds vs (match h with
    | ⟨o, ⟨h1, h2, h3⟩, h4⟩ => ⟨o, ⟨by rw [upd_ne (fun e => h3 (by rw [e]; exact hb))]; exact h1, h2, h3⟩, h4⟩) (RL.pokeG hb h0 r)
  | _, _, .dcf a kvs es h k r => .dcf a kvs es (match h with
    | ⟨o, ⟨h1, h2, h3⟩, h4⟩ => ⟨o, ⟨by rw [upd_ne (fun e => h3 (by rw [e]; exact hb))]; exact h1, h2, h3⟩, h4⟩) k (rl_tups (fun a vs h => by rw [upd_ne (fun e => by rw [e] at h; exact h0 _ h)]; exact h) r)
  | _, _, .ref n a h => .ref n a h
theorem RL.pokeG (hb : B p) (h0 : ∀ vs, H p ≠ some (.tup vs)) : ∀ {ds : List D} {vs : List V}, RL K B al H ds vs → RL K B al (upd H p o) ds vs
  | _, _, .nil => .nil
  | _, _, .cons d v ds vs h r => .cons d v ds vs (RV.pokeG hb h0 h) (RL.pokeG hb h0 r)
end
theorem Rel.pokeG {S : Store} (R : Rel K B al S H) (hb : B p) (h0 : ∀ vs, H p ≠ some (.tup vs)) : Rel K B al S (upd H p o) := by
  have np := (R.bh p hb).1
  refine ⟨R.len, R.nd, fun a h => ⟨(R.bh a h).1, ?_⟩, fun n a u e1 e2 => ?_⟩
  · by_cases e : a = p
    · subst e; exact ⟨_, upd_same⟩
    · rw [upd_ne e]; exact (R.bh a h).2
  · have ne : a ≠ p := fun e => np (by rw [← e]; exact List.mem_of_getElem? e1)
    have k : ∀ w, H a = some w → upd H p o a = some w := fun w e => by rw [upd_ne ne]; exact e
    have q := R.ob n a u e1 e2
    cases u with
    | lst ds => obtain ⟨vs, e, r⟩ := q; exact ⟨vs, k _ e, r.pokeG hb h0⟩
    | dct kvs => obtain ⟨es, e, e2, r⟩ := q; exact ⟨es, k _ e, e2, r.pokeG hb h0⟩
    | dtt kvs => obtain ⟨es, e, e2, r⟩ := q; exact ⟨es, k _ e, e2, r.pokeG hb h0⟩
end
/-- {k: e for g in ..} -/
def mDcL (Vs : List Nat) (g : Tg) (ok : Store → Bool) (t : MT) (k e : ME) (ρ : Env) : List D → List (Key × D) → Store → Option (List (Key × D) × Store)
  | [], acc, S => if ok S then some (acc, S) else none
  | d :: ds, acc, S => if ok S then match g.put d (wipeD ρ Vs) with
      | none => none
      | some ρ1 => match t ρ1 S with
        | none => none
        | some (true, S1) => match k ρ1 S1 with
          | none => none
          | some (kd, S2) => match e ρ1 S2 with
            | none => none
            | some (v, S3) => match keyD kd with
              | none => none
              | some kk => if acc.length < lim then mDcL Vs g ok t k e ρ ds (putD acc kk v) S3 else none
        | some (false, S1) => mDcL Vs g ok t k e ρ ds acc S1
    else none
def mDc (Vs : List Nat) (g : Tg) (it : MI) (t : MT) (k e : ME) : ME := fun ρ S => match it ρ S with
  | some ((xs, ok), S1) => match mDcL Vs g ok t k e ρ xs [] S1 with
    | some (kvs, S2) => some (.ref S2.length, S2 ++ [.dct kvs])
    | none => none
  | none => none
section
variable {X : Cx} {Vs : List Nat} {g : Tg} {it : MI} {t : MT} {k e : ME}
theorem dcL_ok {ok : Store → Bool} {ρ : Env} {ds : List D} {acc : List (Key × D)} {S : Store} {r} (h : mDcL Vs g ok t k e ρ ds acc S = some r) : ok S = true := by
  cases ds <;> unfold mDcL at h <;> (split at h; assumption; cases h)
theorem dc_of (hv : ∀ i ∈ g.slots, i ∈ Vs) : ∀ σ H Q, tE X.K (mDc Vs g it t k e) σ H Q → tDc (tW X.K it) (tTg X.K g) (tT X.K t) (tE X.K k) (tE X.K e) Vs σ H Q := fun σ H Q ⟨B, al, S, ρ, ys, S', R, er, hm, q⟩ => by
  unfold mDc at hm
  split at hm
  · rename_i xs ok S1 h1
    split at hm
    · rename_i kvs S2 h2
      cases hm
      refine ⟨B, al, S, ρ, xs, ok, S1, R, er, h1, fun J al1 H1 R1 x1 ⟨G, Y, w, hG, hY⟩ => fun Dl hD => ?_⟩
      have h0 : H Dl = none := fresh_al x1 (R1.fresh hD) hD
      obtain ⟨xb, Rb⟩ := R1.ban (o := .dK []) hD
      have er1 : ER X.K (Bp B Dl) al1 H1 ρ σ := (er.mono R x1).ban hD
      let Pv : Nat → Hp → Prop := fun i H2 => ∃ al2 S3 acc es, Rel X.K (Bp B Dl) al2 S3 H2 ∧ Ex al1 H1 al2 H2 ∧ H2 Dl = some (.dK es) ∧ acc.map (·.1) = es.map (·.1) ∧ RL X.K (Bp B Dl) al2 H2 (acc.map (·.2)) (es.map (·.2)) ∧ mDcL Vs g ok t k e ρ (xs.drop i) acc S3 = some (kvs, S2)
      refine walk_gen (Step := fun x H' M => tTg X.K g x (wipe σ Vs) H' fun σ2 H2 => wipe σ2 Vs = wipe σ Vs ∧ tT X.K t σ2 H2 fun b H3 => if b = true then tE X.K k σ2 H3 fun y H4 => tE X.K e σ2 H4 fun z H5 => ∃ kvs kk, y = kV kk ∧ H5 Dl = some (.dK kvs) ∧ kvs.length < sizeLine ∧ M (upd H5 Dl (.dK (putK kvs kk z))) else M H3) w Pv ⟨al1, S1, [], [], Rb, xb, upd_same, rfl, .nil, h2⟩ ?_ ?_ ?_
      · rintro i H2 hi ⟨al2, S3, acc, es, R2, x2, hd2, hks, ra, h3⟩
        exact hG _ al2 S3 H2 R2 x2.toB (dcL_ok h3)
      · rintro i x H2 H3 hi ⟨al2, S3, acc, es, R2, x2, hd2, hks, ra, h3⟩ hy
        rw [List.drop_eq_getElem_cons hi] at h3
        unfold mDcL at h3
        split at h3
        · rename_i hk
          split at h3
          · cases h3
          · rename_i ρ3 hp
            obtain ⟨R3, x3, rv⟩ := hY (Bp B Dl) i al2 S3 H2 x H3 xs[i] bp_less R2 x2.toB (fun d v r => (r.ban hD).monoN R1.nt x2) (by simp [hi]) hk hy
            have nd2 : Dl ∉ al2 := (R2.bh Dl (.inr rfl)).1
            refine ⟨Bp B Dl, al2, S3, wipeD ρ Vs, ρ3, xs[i], R3, ((er1.monoN R1.nt x2).wipe Vs).mono R2 x3, rv, hp, fun σ3 er3 hw => ⟨(hw Vs hv).trans wipe_wipe, ?_⟩⟩
            have hd3 := (x3.fr Dl _ hd2 nd2).1
            have ra3 := ra.mono R2 x3
            split at h3
            · cases h3
            · rename_i S4 h5
              split at h3
              · cases h3
              · rename_i kd S5 h6
                split at h3
                · cases h3
                · rename_i v S6 h7
                  split at h3
                  · cases h3
                  · rename_i kk hkk
                    split at h3
                    · rename_i hl
                      refine ⟨Bp B Dl, al2, S3, ρ3, true, S4, R3, er3, h5, fun bb al4 H4 R4 x4 ek => ?_⟩
                      subst ek
                      rw [if_pos rfl]
                      refine ⟨Bp B Dl, al4, S4, ρ3, kd, S5, R4, er3.mono R3 x4, h6, fun yv al5 H5 R5 x5 r5 => ⟨Bp B Dl, al5, S5, ρ3, v, S6, R5, (er3.mono R3 x4).mono R4 x5, h7, fun zv al6 H6 R6 x6 r6 => ⟨es, kk, keyD_rep r5 hkk, ?_, ?_, ?_⟩⟩⟩
                      · exact (x6.fr Dl _ (x5.fr Dl _ (x4.fr Dl _ hd3 nd2).1 (x4.fr Dl _ hd3 nd2).2).1 (x5.fr Dl _ (x4.fr Dl _ hd3 nd2).1 (x4.fr Dl _ hd3 nd2).2).2).1
                      · have e1 := congrArg List.length hks
                        simp only [List.length_map] at e1
                        exact lim_lt (by omega)
                      · have hd6 := (x6.fr Dl _ (x5.fr Dl _ (x4.fr Dl _ hd3 nd2).1 (x4.fr Dl _ hd3 nd2).2).1 (x5.fr Dl _ (x4.fr Dl _ hd3 nd2).1 (x4.fr Dl _ hd3 nd2).2).2).1
                        have nt : ∀ vs, H6 Dl ≠ some (.tup vs) := fun vs z => by rw [hd6] at z; cases z
                        obtain ⟨p1, p2⟩ := put_rl (k := kk) r6 hks (((ra3.mono R3 x4).mono R4 x5).mono R5 x6)
                        exact ⟨al6, S6, putD acc kk v, putK es kk zv, R6.pokeG (.inr rfl) nt, ((((x2.trans x3).trans x4).trans x5).trans x6).poke hD, upd_same, p1, p2.pokeG (.inr rfl) nt, h3⟩
                    · cases h3
            · rename_i S4 h5
              refine ⟨Bp B Dl, al2, S3, ρ3, false, S4, R3, er3, h5, fun bb al4 H4 R4 x4 ek => ?_⟩
              subst ek
              exact ⟨al4, S4, acc, es, R4, (x2.trans x3).trans x4, (x4.fr Dl _ hd3 nd2).1, hks, ra3.mono R3 x4, h3⟩
        · cases h3
      · rintro H2 ⟨al2, S3, acc, es, R2, x2, hd2, hks, ra, h3⟩
        rw [List.drop_length] at h3
        unfold mDcL at h3
        split at h3
        · cases h3
          refine q (.ref Dl) (al2 ++ [Dl]) H2 (R2.gain ⟨es, hd2, hks, ra⟩ (R1.freshB hD)) ((x1.trans x2).gain h0) (.ref _ Dl ?_)
          rw [← R2.len]
          simp
        · cases h3
    · cases hm
  · cases hm
theorem sn_dc {kx vx tg iter : Expr} {ifs : List Expr} {scope : Scope} {own : List (Str × Nat)} {pos : Pos} (hc : X.calm = true) (hN : X.N.Nodup) (hi : Si X tg iter it) (ok : BlkOk X.N X.env.scope scope own)
    (hg : ∀ (s : Shared) (H : Hp) (C : Addr) (cl : List (Str × Addr)) (fp : List Addr), Sg (X.blk s H scope (compEnvC scope cl C X.env) fp) tg g)
    (ht : ∀ (s : Shared) (H : Hp) (C : Addr) (cl : List (Str × Addr)) (fp : List Addr), PTs (X.blk s H scope (compEnvC scope cl C X.env) fp) ifs (tT X.K t))
    (hk : ∀ (s : Shared) (H : Hp) (C : Addr) (cl : List (Str × Addr)) (fp : List Addr), Sn (X.blk s H scope (compEnvC scope cl C X.env) fp) kx k)
    (he : ∀ (s : Shared) (H : Hp) (C : Addr) (cl : List (Str × Addr)) (fp : List Addr), Sn (X.blk s H scope (compEnvC scope cl C X.env) fp) vx e)
    (hv : ∀ i ∈ g.slots, i ∈ own.map (·.2)) (hs : ∀ x, foldedSetIterable iter X.env x = pure x := by intro _; rfl) : Sn X (.DictComp kx vx [⟨tg, iter, ifs, 0⟩] scope pos) (mDc (own.map (·.2)) g it t k e) :=
  pe_imp (pe_dc (g := tTg X.K g) (tt := tT X.K t) (tk := tE X.K k) (tv := tE X.K e) hc hN hi ok hg ht hk he hs) (dc_of hv)
end
/-- over things that are read alone, nothing changed -/
theorem dcL_all {α : Type} {Vs : List Nat} {g : Tg} {ok : Store → Bool} {k e : ME} {ρ : Env} {S : Store} (c : α → D) (f : α → Key) (v : α → D) (as : List α) (ho : ok S = true)
    (h : ∀ a ∈ as, ∃ ρ', g.put (c a) (wipeD ρ Vs) = some ρ' ∧ (∃ kd, k ρ' S = some (kd, S) ∧ keyD kd = some (f a)) ∧ e ρ' S = some (v a, S)) (acc : List (Key × D)) (hl : acc.length + as.length ≤ lim) :
    mDcL Vs g ok mTrue k e ρ (as.map c) acc S = some (as.foldl (fun acc a => putD acc (f a) (v a)) acc, S) := by
  induction as generalizing acc with
  | nil => simp [mDcL, ho]
  | cons a as ih =>
    obtain ⟨ρ', hp, ⟨kd, hk1, hk2⟩, he⟩ := h a List.mem_cons_self
    have ht : mTrue ρ' S = some (true, S) := rfl
    have hl1 : acc.length < lim := by simp at hl; omega
    have hput : (putD acc (f a) (v a)).length ≤ acc.length + 1 := by
      unfold putD
      split <;> simp
    rw [List.map_cons]
    unfold mDcL
    simp only [ho, if_true, hp, ht, hk1, he, hk2, if_pos hl1]
    exact ih (fun b hb => h b (List.mem_cons_of_mem _ hb)) _ (by simp at hl; omega)
@[simp] theorem wp_mDc {Vs : List Nat} {g : Tg} {it : MI} {t : MT} {k e : ME} {ρ : Env} {S : Store} {Q} : wp (mDc Vs g it t k e ρ) S Q ↔ wp (it ρ) S fun p S1 => ∃ kvs S2, mDcL Vs g p.2 t k e ρ p.1 [] S1 = some (kvs, S2) ∧ Q (.ref S2.length) (S2 ++ [.dct kvs]) := by
  constructor
  · rintro ⟨o, S', h, q⟩
    unfold mDc at h
    split at h
    · rename_i xs ok S1 h1
      split at h
      · rename_i kvs S2 h2; cases h; exact ⟨_, _, h1, _, _, h2, q⟩
      · cases h
    · cases h
  · rintro ⟨⟨xs, ok⟩, S1, h1, kvs, S2, h2, q⟩
    exact ⟨_, _, by simp only [mDc, h1]; simp only at h2; rw [h2], q⟩
@[simp] theorem wp_mOne {e : ME} {ρ : Env} {S : Store} {Q} : wp (mOne e ρ) S Q ↔ wp (e ρ) S fun d S1 => Q [d] S1 := by unfold mOne; simp
@[simp] theorem wp_mLv {Vs : List Nat} {g : Tg} {it : MI} {t : MT} {mb : Env → M (List D)} {ρ : Env} {S : Store} {Q} : wp (mLv Vs g it t mb ρ) S Q ↔ wp (it ρ) S fun p S1 => wp (mLcLL Vs g p.2 t mb ρ p.1) S1 Q := by
  constructor
  · rintro ⟨o, S', h, q⟩
    unfold mLv at h
    split at h
    · rename_i xs ok S1 h1; exact ⟨_, _, h1, o, S', h, q⟩
    · cases h
  · rintro ⟨⟨xs, ok⟩, S1, h1, o, S', h2, q⟩
    exact ⟨o, S', by simp only [mLv, h1]; exact h2, q⟩
@[simp] theorem wp_mLcN {Vs : List Nat} {g : Tg} {it : MI} {t : MT} {mb : Env → M (List D)} {ρ : Env} {S : Store} {Q} : wp (mLcN Vs g it t mb ρ) S Q ↔ wp (it ρ) S fun p S1 => wp (mLcLL Vs g p.2 t mb ρ p.1) S1 fun ys S2 => ys.length ≤ lim ∧ Q ys S2 := by
  constructor
  · rintro ⟨o, S', h, q⟩
    unfold mLcN at h
    split at h
    · rename_i ys S2 h2
      split at h
      · rename_i hz
        cases h
        obtain ⟨d, S3, h3, o3, S5, h5, rfl, rfl⟩ := (wp_mLv (Q := fun a b => a = o ∧ b = S')).mp ⟨o, S', h2, rfl, rfl⟩
        exact ⟨d, S3, h3, _, _, h5, hz, q⟩
      · cases h
    · cases h
  · rintro ⟨p, S1, h1, ys, S2, h2, hz, q⟩
    refine ⟨ys, S2, ?_, q⟩
    unfold mLcN mLv
    obtain ⟨xs, ok⟩ := p
    simp only [h1]
    simp only at h2
    rw [h2]
    simp [hz]
end Z
set_option Elab.async false
set_option linter.all false
set_option maxRecDepth 100000
/-! name = {k: v for ..} on one line. -/
namespace L2
open PySem PySem.Spec PyProof.Rows
section
variable {X : Cx}
theorem swD_true {kx vx : Expr} {gs : List Comprehension} {scope : Scope} {pos py : Pos} {y : Str} {l : Nat} {env : Env} (h1 : env.scope.kind = .function) (h2 : env.scope.names.lookup y = some .local) (h3 : (py.line == pos.line) = true)
    (h4 : (scope.names.any fun (n, k) => n == y && (k == .local || k == .cell)) = false) : swapsWith (.DictComp kx vx gs scope pos) (some (.Name y py)) l env = pure true := by
  have a1 : env.blockKind = .function := by
    unfold Env.blockKind
    rw [h1]
    rfl
  have a2 : env.kindOf y = some .local := h2
  unfold swapsWith
  simp only [a1, a2, h4, h3, Expr.pos]
  rfl
theorem ps_putDc {i : Nat} {y : Str} {py : Pos} {kx vx tg ix : Expr} {ifs : List Expr} {scope : Scope} {own : List (Str × Nat)} {pos spos : Pos} {wi : TI} {g : TG} {tt : TT} {tk tv : TE} (hc : X.calm = true) (hN : X.N.Nodup) (hy : X.N[i]? = some y) (hyl : X.env.scope.names.lookup y = some .local)
    (hsw : swapsWith (.DictComp kx vx [⟨tg, ix, ifs, 0⟩] scope pos) (some (.Name y py)) spos.line X.env = pure true) (hi : PI X tg ix wi) (ok : BlkOk X.N X.env.scope scope own)
    (hg : ∀ (s : Shared) (H : Hp) (C : Addr) (cl : List (Str × Addr)) (fp : List Addr), PG (X.blk s H scope (compEnvC scope cl C X.env) fp) tg g)
    (ht : ∀ (s : Shared) (H : Hp) (C : Addr) (cl : List (Str × Addr)) (fp : List Addr), PTs (X.blk s H scope (compEnvC scope cl C X.env) fp) ifs tt)
    (hk : ∀ (s : Shared) (H : Hp) (C : Addr) (cl : List (Str × Addr)) (fp : List Addr), PE (X.blk s H scope (compEnvC scope cl C X.env) fp) kx tk)
    (he : ∀ (s : Shared) (H : Hp) (C : Addr) (cl : List (Str × Addr)) (fp : List Addr), PE (X.blk s H scope (compEnvC scope cl C X.env) fp) vx tv) (hs : ∀ x, foldedSetIterable ix X.env x = pure x := by intro _; rfl) :
    PS X (.Assign [.Name y py] (.DictComp kx vx [⟨tg, ix, ifs, 0⟩] scope pos) spos) (tAsg (tDc wi g tt tk tv (own.map (·.2))) (gName i)) := by
  refine ⟨fun pins s σ H E I h => ?_⟩
  rw [exec_Assign_Name_used _ _ _ _ hsw]
  refine wpAny_bind (wpAny_standAt (wpAny_bind ?_))
  show wpAny _ X.A (do let _ ← comprehension (.DictComp kx vx [⟨tg, ix, ifs, 0⟩] scope pos) scope X.env (firstIterPos [⟨tg, ix, ifs, 0⟩] pos) newDict false (eval ix X.env) (some (assign (.Name y py) X.env))) _ _ s
  have h' : tDc wi g tt tk tv (own.map (·.2)) σ H (fun x H1 => gName i x σ H1 E.nx) := h
  refine wpAny_bind (thn (dc_core (Qf := fun _ t => SP X pins E .next t) hc hN I hi ok hg ht hk he hs h' fun L C t m H' I' q hn f => ?_) fun _ t hq => wpAny_pure (wpAny_pure hq))
  show wpAny _ _ (assign (.Name y py) X.env (.ref L)) _ _ _
  refine wpAny_assign_Name (store_ok2 (v := V.ref L) I' hN hy (.inl hyl) rfl (fun t2 I2 ⟨a, sb, ha⟩ => ?_) (.inr hyl))
  obtain ⟨k0, k1, k2, k3, k4, k5⟩ := f
  have ne : C ≠ a := ha.elim (fun z => z ▸ k1) (fun z e => k4 y a z e.symm)
  exact ⟨m, hn.sameBut sb ne, fun h3 sb3 => ⟨_, H', I2.turned (t' := t2.toks) (fun b o hb e => (sb3.2 b hb).trans e) k0 k1 k3 k4 k5, q⟩⟩
end
end L2
set_option Elab.async false
set_option linter.all false
set_option maxRecDepth 100000
/-! A statement that is never reached; len(set(xs)) of whole numbers that differ; xs.count(i). -/
namespace Z
open PySem L2
section
variable {X : Cx}
def mNever : MS := fun _ _ => none
theorem ss_never {W : Str → Hp → Prop} {st : Stmt} : Ss X W st mNever := ⟨fun pins s σ H D I ⟨B, al, S, ρ, o, S', R, er, hm, p⟩ => by cases hm⟩
@[simp] theorem wps_never {ρ : Env} {S : Store} {Q} : wps mNever ρ S Q ↔ False := ⟨fun ⟨o, S', e, q⟩ => (by cases e), False.elim⟩
def mLenSet (m : ME) : ME := fun ρ => bnd (m ρ) fun d S => (asLC S d).bind fun xs => (intsOf xs).bind fun ns => if ns.length < 64 ∧ ns.Nodup then some (.int (ns.length : Nat), S) else none
theorem sn_lenset {a : Expr} {m : ME} {p p2 q pos : Pos} (hc : X.calm = true) (hg : Gl X "len") (hm : X.mg "len" = none) (hg2 : Gl X "set") (hm2 : X.mg "set" = none) (ha : Sn X a m)
    (na : starEach [a] X.env = (false, eval a X.env) :: starEach [] X.env := by rfl) : Sn X (.Call (.Name "len" p) [.Call (.Name "set" p2) [a] [] q] [] pos) (mLenSet m) :=
  pe_imp (pe_lenSetI hc hg hm hg2 hm2 ha na) fun σ H Q ⟨B, al, S, ρ, z, S', R, er, hm, q⟩ => by
    obtain ⟨d, S1, h1, h2⟩ := bnd_some hm
    refine ⟨B, al, S, ρ, d, S1, R, er, h1, fun v al1 H1 R1 x1 r1 => ?_⟩
    cases hx : asLC S1 d with
    | none => rw [hx] at h2; cases h2
    | some xs =>
      rw [hx] at h2
      simp only [Option.bind_some] at h2
      cases hy : intsOf xs with
      | none => rw [hy] at h2; cases h2
      | some ns =>
        rw [hy] at h2
        simp only [Option.bind_some] at h2
        split at h2
        · rename_i hk
          cases h2
          obtain ⟨b, us, rfl, hb, rb⟩ := asLC_rep R1 r1 hx
          obtain ⟨e, _⟩ := ints_rep rb hy
          exact ⟨b, ns, rfl, by rw [← e]; exact hb, hk.1, hk.2, q _ al1 H1 R1 x1 (.int _)⟩
        · cases h2
@[simp] theorem wp_mLenSet {m : ME} {ρ : Env} {S : Store} {Q} : wp (mLenSet m ρ) S Q ↔ wp (m ρ) S fun d S1 => ∃ xs, asLC S1 d = some xs ∧ ∃ ns, intsOf xs = some ns ∧ (ns.length < 64 ∧ ns.Nodup) ∧ Q (.int (ns.length : Nat)) S1 := by
  unfold mLenSet
  rw [wp_bnd]
  constructor
  · rintro ⟨d, S1, h, z, S2, e, q⟩
    refine ⟨d, S1, h, ?_⟩
    dsimp only at e
    cases hx : asLC S1 d with
    | none => rw [hx] at e; cases e
    | some xs =>
      rw [hx] at e
      simp only [Option.bind_some] at e
      cases hy : intsOf xs with
      | none => rw [hy] at e; cases e
      | some ns =>
        rw [hy] at e
        simp only [Option.bind_some] at e
        split at e
        · rename_i hk; cases e; exact ⟨xs, hx, ns, hy, hk, q⟩
        · cases e
  · rintro ⟨d, S1, h, xs, hx, ns, hy, hk, q⟩
    refine ⟨d, S1, h, _, S1, ?_, q⟩
    dsimp only
    rw [hx]
    simp only [Option.bind_some, hy]
    rw [if_pos hk]
end
section
variable {K : PySem.W.Frag}
def lCnt (o : D) (ds : List D) : M D := fun S => match ds with
  | [.int k] => (asLC S o).bind fun xs => (intsOf xs).map fun ns => (.int (ns.count k : Nat), S)
  | _ => none
theorem l_cnt : MRS K (rCntI K) lCnt := fun B al S H o ds z v vs S' R ro rd h Q q => by
  unfold lCnt at h
  split at h
  · rename_i k
    cases hx : asLC S o with
    | none => rw [hx] at h; cases h
    | some xs =>
      rw [hx] at h
      simp only [Option.bind_some] at h
      cases hy : intsOf xs with
      | none => rw [hy] at h; cases h
      | some ns =>
        rw [hy] at h
        cases h
        obtain ⟨w, rfl, rw'⟩ := rl_one rd
        cases rw'
        obtain ⟨b, us, rfl, hb, rb⟩ := asLC_rep R ro hx
        obtain ⟨e, _⟩ := ints_rep rb hy
        exact ⟨b, ns, k, rfl, rfl, by rw [← e]; exact hb, q _ al H R .refl (.int _)⟩
  · cases h
@[simp] theorem wp_lCnt {o : D} {k : Int} {S : Store} {Q} : wp (lCnt o [.int k]) S Q ↔ ∃ xs, asLC S o = some xs ∧ ∃ ns, intsOf xs = some ns ∧ Q (.int (ns.count k : Nat)) S := by
  unfold lCnt
  constructor
  · rintro ⟨z, S1, e, q⟩
    dsimp only at e
    cases hx : asLC S o with
    | none => rw [hx] at e; cases e
    | some xs =>
      rw [hx] at e
      simp only [Option.bind_some] at e
      cases hy : intsOf xs with
      | none => rw [hy] at e; cases e
      | some ns => rw [hy] at e; cases e; exact ⟨xs, rfl, ns, hy, q⟩
  · rintro ⟨xs, hx, ns, hy, q⟩
    refine ⟨_, S, ?_, q⟩
    dsimp only
    rw [hx]
    simp only [Option.bind_some, hy, Option.map_some]
end
end Z
set_option Elab.async false
set_option linter.all false
set_option maxRecDepth 100000
/-! x in xs, data of any depth. -/
namespace Z
open PySem L2
section
variable {K : PySem.W.Frag}
def inD (S : Store) (d e : D) : Option Bool := match rs S 4 e with
  | .lst xs => if nr (rs S 4 d) && nr (.lst xs) && SeqAt.shaped (toP (rs S 4 d)) && SeqAt.shaped (toP (.lst xs)) then some ((toPs xs).any fun z => PyData.eqv z (toP (rs S 4 d))) else none
  | _ => none
def dInD (d e : D) : M D := fun S => (inD S d e).map fun b => (.bl b, S)
def dNotInD (d e : D) : M D := fun S => (inD S d e).map fun b => (.bl (!b), S)
theorem inD_dp {B : Addr → Prop} {al : List Addr} {S : Store} {H : Hp} {d e : D} {v w : V} {b : Bool} (R : Rel K B al S H) (r1 : RV K B al H d v) (r2 : RV K B al H e w) (h : inD S d e = some b) :
    ∃ p ps, Dp K H v p ∧ Dp K H w (.list ps) ∧ SeqAt.shaped p = true ∧ SeqAt.shaped (.list ps) = true ∧ (ps.any fun z => PyData.eqv z p) = b := by
  unfold inD at h
  split at h
  · rename_i xs hx
    split at h
    · rename_i hc
      cases h
      simp only [Bool.and_eq_true] at hc
      obtain ⟨⟨⟨h1, h2⟩, h3⟩, h4⟩ := hc
      have h2' : nr (rs S 4 e) = true := by rw [hx]; exact h2
      have g := dp_of (rs_frz R 4 r2 h2') h2'
      rw [hx] at g
      exact ⟨_, toPs xs, dp_of (rs_frz R 4 r1 h1) h1, g, h3, h4, rfl⟩
    · cases h
  · cases h
theorem r_inD : R2S K (rInD K) dInD := fun B al S H d e z v w S' R r1 r2 h Q q => by
  unfold dInD at h
  cases hb : inD S d e with
  | none => rw [hb] at h; cases h
  | some b =>
    rw [hb] at h
    cases h
    obtain ⟨p, ps, h1, h2, h3, h4, rfl⟩ := inD_dp R r1 r2 hb
    exact ⟨p, ps, h1, h2, h3, h4, q _ al H R .refl (.bl _)⟩
theorem r_notInD : R2S K (rNotInD K) dNotInD := fun B al S H d e z v w S' R r1 r2 h Q q => by
  unfold dNotInD at h
  cases hb : inD S d e with
  | none => rw [hb] at h; cases h
  | some b =>
    rw [hb] at h
    cases h
    obtain ⟨p, ps, h1, h2, h3, h4, rfl⟩ := inD_dp R r1 r2 hb
    exact ⟨p, ps, h1, h2, h3, h4, q _ al H R .refl (.bl _)⟩
end
theorem hu65 {A : Around} {k : Nat} (hr : Room k A) : A.units + 65 < cLine := by have := hr.un; omega
theorem inD_see {S : Store} {d e v : D} {xs : List D} (h1 : rs S 4 d = v) (h2 : rs S 4 e = .lst xs) (f1 : fit 60 v = true) (f2 : fit 60 (.lst xs) = true) : inD S d e = some ((toPs xs).any fun z => PyData.eqv z (toP v)) := by
  unfold inD
  rw [h2]
  simp only [h1, nr_fit f1, nr_fit f2, shaped_fit f1, shaped_fit f2, Bool.and_self, if_true]
theorem wp_dInD {S : Store} {d e : D} {b : Bool} (h : inD S d e = some b) {Q : D → Store → Prop} (q : Q (.bl b) S) : wp (dInD d e) S Q := ⟨_, _, by unfold dInD; rw [h]; rfl, q⟩
theorem wp_dNotInD {S : Store} {d e : D} {b : Bool} (h : inD S d e = some b) {Q : D → Store → Prop} (q : Q (.bl (!b)) S) : wp (dNotInD d e) S Q := ⟨_, _, by unfold dNotInD; rw [h]; rfl, q⟩
end Z
set_option Elab.async false
set_option linter.all false
set_option maxRecDepth 100000
/-! d.get(k); dict(pairs). -/
namespace Z
open PySem L2 PyProof PyProof.Rows
def isDct (S : Store) (o : D) : Bool := match o with
  | .ref n => match S[n]? with
    | some (.dct _) => true
    | some (.dtt _) => true
    | _ => false
  | _ => false
def mDGet1 (mo mk : ME) : ME := fun ρ => bnd (mo ρ) fun o S => if isDct S o = true then (bnd (mk ρ) fun k S => (dGetO S o k).map fun r => (r.getD .non, S)) S else none
section
variable {X : Cx}
theorem isDct_rep {K : PySem.W.Frag} {B : Addr → Prop} {al : List Addr} {S : Store} {H : Hp} {o : D} {vo : V} (R : Rel K B al S H) (ro : RV K B al H o vo) (e : isDct S o = true) : ∃ a, vo = .ref a ∧ IsD H a := by
  unfold isDct at e
  split at e
  · rename_i n
    cases ro with
    | ref _ a hn =>
      split at e
      · rename_i kvs hs
        obtain ⟨_, es, he, _⟩ := R.look (.ref n a hn) hs
        exact ⟨a, rfl, .inl ⟨es, .inl he⟩⟩
      · rename_i kvs hs
        obtain ⟨_, es, he, _⟩ := R.look (.ref n a hn) hs
        exact ⟨a, rfl, .inr ⟨es, .inl he⟩⟩
      · cases e
  · cases e
theorem sn_dget1 {o i : Expr} {mo mk : ME} {apos cpos : Pos} (hu : X.A.units + 1 < cLine) (ho : Sn X o mo) (hi : Sn X i mk) (m : M1 X o (PySem.Str.ofString "get") apos i cpos) : Sn X (.Call (.Attribute o (PySem.Str.ofString "get") apos) [i] [] cpos) (mDGet1 mo mk) :=
  pe_imp (pe_dget1 hu ho hi m) fun σ H Q ⟨B, al, S, ρ, d, S', R, er, hm, q⟩ => by
    obtain ⟨o, S1, h1, hm⟩ := bnd_some hm
    split at hm
    · rename_i hd
      obtain ⟨k, S2, h2, hm⟩ := bnd_some hm
      cases hg : dGetO S2 o k with
      | none => rw [hg] at hm; cases hm
      | some r =>
        rw [hg] at hm
        cases hm
        refine ⟨B, al, S, ρ, o, S1, R, er, h1, fun vo al1 H1 R1 x1 ro => ?_⟩
        obtain ⟨a, rfl, hisd⟩ := isDct_rep R1 ro hd
        refine ⟨a, rfl, hisd, B, al1, S1, ρ, k, _, R1, er.mono R x1, h2, fun vk al2 H2 R2 x2 rk => ?_⟩
        obtain ⟨a2, w, e2, g, hh⟩ := get_rep R2 (ro.mono R1 x2) rk hg
        cases e2
        rcases hh with ⟨d2, v, rfl, rfl, rv⟩ | ⟨rfl, rfl⟩
        · exact ⟨_, g, q v al2 H2 R2 (x1.trans x2) rv⟩
        · exact ⟨_, g, q .non al2 H2 R2 (x1.trans x2) .non⟩
    · cases hm
theorem wp_mDGet1 {mo mk : ME} {ρ : Env} {S : Store} {Q : D → Store → Prop} (h : wp (mo ρ) S fun o S1 => isDct S1 o = true ∧ wp (mk ρ) S1 fun k S2 => ∃ r, dGetO S2 o k = some r ∧ Q (r.getD .non) S2) : wp (mDGet1 mo mk ρ) S Q := by
  obtain ⟨o, S1, e1, hd, k, S2, e2, r, hr, q⟩ := h
  refine ⟨r.getD .non, S2, ?_, q⟩
  unfold mDGet1 bnd
  simp only [e1]
  rw [if_pos hd]
  simp only [e2, hr, Option.map_some]
end
/-! ### dict(pairs) -/
def pairsD : List D → Option (List (Key × D))
  | [] => some []
  | .tup [k, v] :: ds => match keyD k, pairsD ds with
    | some k, some kvs => some ((k, v) :: kvs)
    | _, _ => none
  | _ => none
def cDictP (ds : List D) : M D := fun S => match ds with
  | [d] => (asL S d).bind fun xs => (pairsD xs).bind fun kvs => if (kvs.map (·.1)).Nodup then some (.ref S.length, S ++ [.dct kvs]) else none
  | _ => none
def rDictP (K : PySem.W.Frag) : List V → Hp → VK → Prop := fun xs H Q => ∃ (a : Addr) (ps : List Addr) (kvs : List (Key × V)), xs = [.ref a] ∧ SqL K H a (ps.map V.ref) ∧ Paired (fun p kv => SqT K H p [kV kv.1, kv.2]) ps kvs ∧
    ∀ p, H p = none → Q (.ref p) (upd H p (.dK (mergeK [] kvs)))
theorem cr_dictP {X : Cx} (hcalm : X.calm = true) : CallR X (.type "dict") (rDictP X.K) := call_dictP hcalm
theorem any_key {κ α β : Type} [DecidableEq κ] {kvs : List (κ × α)} {es : List (κ × β)} (e : kvs.map (·.1) = es.map (·.1)) (k : κ) : k ∈ kvs.map (·.1) ↔ (es.any fun kv => decide (kv.1 = k)) = true := by
  rw [e]
  simp
theorem merge_nodup : ∀ (es acc : List (Key × V)), (acc.map (·.1) ++ es.map (·.1)).Nodup → mergeK acc es = acc ++ es
  | [], acc, _ => by simp [mergeK]
  | e :: es, acc, h => by
    have h2 : putK acc e.1 e.2 = acc ++ [e] := by
      unfold putK
      rw [if_neg]
      intro ha
      obtain ⟨kv, hk, hd⟩ := List.any_eq_true.mp ha
      have hd : kv.1 = e.1 := by simpa using hd
      have := (List.nodup_append.mp h).2.2 kv.1 (List.mem_map.mpr ⟨kv, hk, rfl⟩) e.1 (by simp)
      exact this hd
    show mergeK (putK acc e.1 e.2) es = _
    rw [h2, merge_nodup es (acc ++ [e]) (by simpa using h)]
    simp
section
variable {K : PySem.W.Frag} {B : Addr → Prop} {al : List Addr} {H : Hp}
theorem pairs_rep : ∀ {ds : List D} {vs : List V} {kvs : List (Key × D)}, RL K B al H ds vs → pairsD ds = some kvs → ∃ (ps : List Addr) (es : List (Key × V)), vs = ps.map V.ref ∧ Paired (fun p kv => SqT K H p [kV kv.1, kv.2]) ps es ∧ kvs.map (·.1) = es.map (·.1) ∧ RL K B al H (kvs.map (·.2)) (es.map (·.2))
  | _, _, _, .nil, e => by cases e; exact ⟨[], [], rfl, .nil, rfl, .nil⟩
  | _, _, kvs0, .cons d v ds vs h r, e => by
    unfold pairsD at e
    split at e
    · rename_i heq; cases heq
    · rename_i k w ds' heq
      cases heq
      split at e
      · rename_i kk kvs hk hkvs
        cases e
        obtain ⟨ps, es, rfl, hp, he, rl⟩ := pairs_rep r hkvs
        cases h with
        | tup b _ us hb ru =>
          cases ru with
          | cons _ vk _ us2 rk ru2 =>
            cases ru2 with
            | cons _ vw _ us3 rw' ru3 =>
              cases ru3
              have := keyD_rep rk hk
              subst this
              exact ⟨b :: ps, (kk, vw) :: es, rfl, .cons (.inl (.inl hb)) hp, by simp [he], .cons _ _ _ _ rw' rl⟩
      · cases e
    · cases e
theorem c_dictP : CRS K (rDictP K) cDictP := fun B al S H ds z vs S' R r1 h Q q => by
  unfold cDictP at h
  split at h
  · rename_i d
    cases hx : asL S d with
    | none => rw [hx] at h; cases h
    | some xs =>
      rw [hx] at h
      simp only [Option.bind_some] at h
      cases hy : pairsD xs with
      | none => rw [hy] at h; cases h
      | some kvs =>
        rw [hy] at h
        simp only [Option.bind_some] at h
        split at h
        · rename_i hnd
          cases h
          obtain ⟨v, rfl, rv⟩ := rl_one r1
          obtain ⟨a, us, rfl, ha, ra⟩ := asL_rep R rv hx
          obtain ⟨ps, es, rfl, hp, he, rl⟩ := pairs_rep ra hy
          refine ⟨a, ps, es, rfl, .inl (.inl ha), hp, fun p h0 => ?_⟩
          rw [merge_nodup es [] (by rw [← he]; simpa using hnd), List.nil_append]
          obtain ⟨x, R2⟩ := R.new (o := .dK es) (u := .dct kvs) h0 fun x => ⟨es, upd_same, he, rl.mono R x⟩
          exact q (.ref p) _ _ R2 x (.ref _ p (by rw [← R.len]; simp))
        · cases h
  · cases h
theorem wp_cDictP {d : D} {S : Store} {Q : D → Store → Prop} {xs : List D} {kvs : List (Key × D)} (h1 : asL S d = some xs) (h2 : pairsD xs = some kvs) (h3 : (kvs.map (·.1)).Nodup) (q : Q (.ref S.length) (S ++ [.dct kvs])) : wp (cDictP [d]) S Q := by
  refine ⟨_, _, ?_, q⟩
  simp only [cDictP, h1, Option.bind_some, h2]
  rw [if_pos h3]
end
/-! ### repr, also of None -/
def rReprN (K : PySem.W.Frag) : List V → Hp → VK → Prop := fun vs H Q => rRepr K vs H Q ∨ (vs = [.non] ∧ Q (.str (PySem.Str.ofString "None")) H)
theorem cr_reprN {X : Cx} (hg : X.A.guards = some []) (hu : X.A.units + 64 < cLine) : CallR X (.builtin "repr") (rReprN X.K) := fun pins s σ H vs us Q I r h => by
  rcases h with h | ⟨e, q⟩
  · exact cr_repr hg hu pins s σ H vs us Q I r h
  · subst e
    cases r with
    | cons rx rt =>
      cases rt
      cases rx
      exact PySem.P.repr_of_none ⟨.str (PySem.Str.ofString "None"), H, I.tok _, ⟨_, rfl⟩, q⟩
def cReprN (ds : List D) : M D := fun S => match ds with
  | [.non] => some (.str (PySem.Str.ofString "None"), S)
  | ds => cRepr ds S
theorem c_reprN {K : PySem.W.Frag} : CRS K (rReprN K) cReprN := fun B al S H ds z vs S' R r1 h Q q => by
  unfold cReprN at h
  split at h
  · cases h
    obtain ⟨v, rfl, rv⟩ := rl_one r1
    cases rv
    exact .inr ⟨rfl, q _ al H R .refl (.str _)⟩
  · exact .inl (c_repr B al S H _ z vs S' R r1 h Q q)
theorem wp_reprN {S : Store} {Q : D → Store → Prop} (q : Q (.str (PySem.Str.ofString "None")) S) : wp (cReprN [.non]) S Q := ⟨_, _, rfl, q⟩
theorem wp_reprB {d : D} {S : Store} {Q : D → Store → Prop} (h : showD d = true) (q : Q (.str (toP d).shown) S) : wp (cReprN [d]) S Q := by
  have e : cReprN [d] = cRepr [d] := by
    funext T
    unfold cReprN
    split
    · rename_i heq
      cases heq
      simp [showD, boxD] at h
    · rfl
  rw [e]
  exact wp_reprs h q
end Z
set_option Elab.async false
set_option linter.all false
set_option maxRecDepth 100000
/-! d.get(k, x); sorted(dict), len(dict). -/
namespace Z
open PySem L2 PyProof PyProof.Rows
def mDGet2 (mo mk mx : ME) : ME := fun ρ => bnd (mo ρ) fun o S => if isDct S o = true then (bnd (mk ρ) fun k => bnd (mx ρ) fun x S => (dGetO S o k).map fun r => (r.getD x, S)) S else none
section
variable {X : Cx}
theorem sn_dget2 {o i f : Expr} {mo mk mx : ME} {apos cpos : Pos} (hu : X.A.units + 1 < cLine) (ho : Sn X o mo) (hi : Sn X i mk) (hf : Sn X f mx) (m : M2 X o (PySem.Str.ofString "get") apos i f cpos) : Sn X (.Call (.Attribute o (PySem.Str.ofString "get") apos) [i, f] [] cpos) (mDGet2 mo mk mx) :=
  pe_imp (pe_dget2 hu ho hi hf m) fun σ H Q ⟨B, al, S, ρ, d, S', R, er, hm, q⟩ => by
    obtain ⟨o, S1, h1, hm⟩ := bnd_some hm
    split at hm
    · rename_i hd
      obtain ⟨k, S2, h2, hm⟩ := bnd_some hm
      obtain ⟨y, S3, h3, hm⟩ := bnd_some hm
      cases hg : dGetO S3 o k with
      | none => rw [hg] at hm; cases hm
      | some r =>
        rw [hg] at hm
        cases hm
        refine ⟨B, al, S, ρ, o, S1, R, er, h1, fun vo al1 H1 R1 x1 ro => ?_⟩
        obtain ⟨a, rfl, hisd⟩ := isDct_rep R1 ro hd
        refine ⟨a, rfl, hisd, B, al1, S1, ρ, k, S2, R1, er.mono R x1, h2, fun vk al2 H2 R2 x2 rk => ⟨B, al2, S2, ρ, y, _, R2, er.mono R (x1.trans x2), h3, fun vy al3 H3 R3 x3 ry => ?_⟩⟩
        obtain ⟨a2, w, e2, g, hh⟩ := get_rep R3 (ro.mono R1 (x2.trans x3)) (rk.mono R2 x3) hg
        cases e2
        rcases hh with ⟨d2, v, rfl, rfl, rv⟩ | ⟨rfl, rfl⟩
        · exact ⟨_, g, q v al3 H3 R3 ((x1.trans x2).trans x3) rv⟩
        · exact ⟨_, g, q vy al3 H3 R3 ((x1.trans x2).trans x3) ry⟩
    · cases hm
theorem wp_mDGet2 {mo mk mx : ME} {ρ : Env} {S : Store} {Q : D → Store → Prop} (h : wp (mo ρ) S fun o S1 => isDct S1 o = true ∧ wp (mk ρ) S1 fun k S2 => wp (mx ρ) S2 fun x S3 => ∃ r, dGetO S3 o k = some r ∧ Q (r.getD x) S3) : wp (mDGet2 mo mk mx ρ) S Q := by
  obtain ⟨o, S1, e1, hd, k, S2, e2, x, S3, e3, r, hr, q⟩ := h
  refine ⟨r.getD x, S3, ?_, q⟩
  unfold mDGet2 bnd
  simp only [e1]
  rw [if_pos hd]
  simp only [e2, e3, hr, Option.map_some]
end
/-! ### sorted(d), len(d), keys whole numbers -/
def keysI : List Key → Option (List Int)
  | [] => some []
  | .inl i :: ks => (keysI ks).map (i :: ·)
  | _ => none
theorem keysI_eq : ∀ {ks : List Key} {ns : List Int}, keysI ks = some ns → ks = ns.map Sum.inl
  | [], ns, h => by cases h; rfl
  | .inl i :: ks, ns, h => by
    unfold keysI at h
    cases hx : keysI ks with
    | none => rw [hx] at h; cases h
    | some ms => rw [hx] at h; cases h; rw [keysI_eq hx]; rfl
  | .inr _ :: ks, ns, h => by simp [keysI] at h
theorem keysI_map : ∀ ns : List Int, keysI (ns.map Sum.inl) = some ns
  | [] => rfl
  | n :: ns => by simp [keysI, keysI_map ns]
def dctO (S : Store) (d : D) : Option (List (Key × D)) := match d with
  | .ref n => match S[n]? with
    | some (.dct kvs) => some kvs
    | _ => none
  | _ => none
theorem dctO_rep {K : PySem.W.Frag} {B : Addr → Prop} {al : List Addr} {S : Store} {H : Hp} {o : D} {vo : V} {kvs : List (Key × D)} (R : Rel K B al S H) (ro : RV K B al H o vo) (e : dctO S o = some kvs) : ∃ (a : Addr) (es : List (Key × V)), vo = .ref a ∧ H a = some (.dK es) ∧ kvs.map (·.1) = es.map (·.1) := by
  unfold dctO at e
  split at e
  · rename_i n
    cases ro with
    | ref _ a hn =>
      split at e
      · rename_i kvs' hs
        cases e
        obtain ⟨_, es, he, hk, _⟩ := R.look (.ref n a hn) hs
        exact ⟨a, es, rfl, he, hk⟩
      · cases e
  · cases e
def cSortD (ds : List D) : M (List D) := fun S => match ds with
  | [d] => (dctO S d).bind fun kvs => (keysI (kvs.map (·.1))).bind fun ns => if ns.length < 64 then some ((srtI ns).map .int, S) else none
  | _ => none
def rSortD (K : PySem.W.Frag) : List V → Hp → VK → Prop := fun xs H Q => ∃ (a : Addr) (kvs : List (Key × V)) (ks : List Int), xs = [.ref a] ∧ Rd H a (.dK kvs) ∧ kvs.map (·.1) = ks.map Sum.inl ∧ ks.length < 64 ∧
    ∀ (ys : List Int) (p : Addr), ys.Perm ks → ys.Pairwise (· ≤ ·) → H p = none → Q (.ref p) (upd H p (.lst (ys.map V.int)))
theorem cr_sortD {X : Cx} (hc : X.calm = true) : CallR X (.builtin "sorted") (rSortD X.K) := call_sortedDI hc
theorem c_sortD {K : PySem.W.Frag} : CRF K (rSortD K) cSortD := fun B al S H ds z vs S' R r1 h Q q => by
  unfold cSortD at h
  split at h
  · rename_i d
    cases hx : dctO S d with
    | none => rw [hx] at h; cases h
    | some kvs =>
      rw [hx, Option.bind_some] at h
      cases hy : keysI (kvs.map (·.1)) with
      | none => rw [hy] at h; cases h
      | some ns =>
        rw [hy, Option.bind_some] at h
        split at h
        · rename_i hl
          cases h
          obtain ⟨v, rfl, rv⟩ := rl_one r1
          obtain ⟨a, es, rfl, ha, hk⟩ := dctO_rep R rv hx
          refine ⟨a, es, ns, rfl, .inl ha, by rw [← hk]; exact keysI_eq hy, hl, fun ns' p hp hs h0 => ?_⟩
          obtain rfl : ns' = srtI ns := srt_uniq (hp.trans (srtI_perm ns).symm) hs (srtI_sorted ns)
          obtain ⟨g1, g2, g3, g4, g5⟩ := new_F R .refl h0 (rl_ints (K := K) (B := B) (al := al) (H := H) (srtI ns))
          exact q p _ al _ g1 g2 g3 g4 g5
        · cases h
  · cases h
theorem wp_cSortD {d : D} {S : Store} {Q : List D → Store → Prop} {kvs : List (Key × D)} {ns : List Int} (h1 : dctO S d = some kvs) (h2 : keysI (kvs.map (·.1)) = some ns) (h3 : ns.length < 64) (q : Q ((srtI ns).map .int) S) : wp (cSortD [d]) S Q := by
  refine ⟨_, _, ?_, q⟩
  simp only [cSortD, h1, Option.bind_some, h2]
  rw [if_pos h3]
def cLenD (ds : List D) : M D := fun S => match ds with
  | [d] => (dctO S d).map fun kvs => (.int (kvs.length : Nat), S)
  | _ => none
def rLenD : List V → Hp → VK → Prop := fun xs H Q => ∃ (a : Addr) (kvs : List (Key × V)), xs = [.ref a] ∧ Rd H a (.dK kvs) ∧ Q (.int kvs.length) H
theorem cr_lenD {X : Cx} : CallR X (.builtin "len") rLenD := fun pins s σ H vs us Q I r ⟨a, kvs, e, hd, q⟩ => by
  subst e
  rw [Vals.ref1 r]
  exact d_len I hd fun t s' I' => ⟨.int kvs.length, H, I', ⟨_, rfl⟩, q⟩
theorem c_lenD {K : PySem.W.Frag} : CRS K rLenD cLenD := fun B al S H ds z vs S' R r1 h Q q => by
  unfold cLenD at h
  split at h
  · rename_i d
    cases hx : dctO S d with
    | none => rw [hx] at h; cases h
    | some kvs =>
      rw [hx] at h
      cases h
      obtain ⟨v, rfl, rv⟩ := rl_one r1
      obtain ⟨a, es, rfl, ha, hk⟩ := dctO_rep R rv hx
      have hl : kvs.length = es.length := by have := congrArg List.length hk; simpa using this
      refine ⟨a, es, rfl, .inl ha, ?_⟩
      rw [← hl]
      exact q _ al H R .refl (.int _)
  · cases h
theorem wp_cLenD {d : D} {S : Store} {Q : D → Store → Prop} {kvs : List (Key × D)} (h : dctO S d = some kvs) (q : Q (.int (kvs.length : Nat)) S) : wp (cLenD [d]) S Q := ⟨_, _, by simp only [cLenD, h, Option.map_some], q⟩
end Z
set_option Elab.async false
set_option linter.all false
set_option maxRecDepth 100000
/-! not x as a value, by truth. -/
namespace Z
open PySem L2
theorem truD_rep {K : PySem.W.Frag} {B : Addr → Prop} {al : List Addr} {S : Store} {H : Hp} {d : D} {v : V} {b : Bool} (R : Rel K B al S H) (r : RV K B al H d v) (ht : truD S d = some b) : TruV K v H b := by
  cases r with
  | non => cases ht; rfl
  | bl b => cases ht; rfl
  | int i => cases ht; rfl
  | str x => simp [truD, asL] at ht
  | tup a ds vs h r => cases ht; exact .inr (.inl ⟨vs, .of h, by rw [r.emp]⟩)
  | lst a ds vs h r => cases ht; exact .inl ⟨vs, .of h.1, by show (!ds.isEmpty) = _; rw [r.emp]⟩
  | scr a ns h => simp [truD, asL] at ht
  | tpi a ns h => simp [truD, asL] at ht
  | dcf a kvs es h k r => simp [truD, asL] at ht
  | tpx a ds vs h r => cases ht; exact .inr (.inl ⟨vs, zat_sq h, by rw [r.emp]⟩)
  | ref n a h =>
    simp only [truD] at ht
    cases hx : asL S (.ref n) with
    | none => rw [hx] at ht; cases ht
    | some xs =>
      rw [hx] at ht
      cases ht
      obtain ⟨b, vs, e, hb, rb⟩ := asL_rep R (.ref n a h) hx
      cases e
      exact .inl ⟨vs, .of hb, by show (!xs.isEmpty) = _; rw [rb.emp]⟩
def mNotT (m : ME) : ME := fun ρ => bnd (m ρ) fun d => fun S => (truD S d).map fun b => (.bl (!b), S)
section
variable {X : Cx} {a : Expr} {m : ME} {pos : Pos}
theorem sn_notT (h : Sn X a m) : Sn X (.UnaryOp .Not a pos) (mNotT m) := pe_imp (pe_notT h) fun σ H Q ⟨B, al, S, ρ, z, S', R, er, hm, q⟩ => by
  obtain ⟨d, S1, h1, h2⟩ := bnd_some hm
  refine ⟨B, al, S, ρ, d, S1, R, er, h1, fun v al1 H1 R1 x1 r1 => ?_⟩
  cases ht : truD S1 d with
  | none => rw [ht] at h2; cases h2
  | some b =>
    rw [ht] at h2
    simp only [Option.map_some, Option.some.injEq, Prod.mk.injEq] at h2
    obtain ⟨rfl, rfl⟩ := h2
    exact ⟨b, truD_rep R1 r1 ht, q _ al1 H1 R1 x1 (.bl _)⟩
end
section
variable {S : Store} {ρ : Env}
@[simp] theorem wp_mNotT {m : ME} {Q} : wp (mNotT m ρ) S Q ↔ wp (m ρ) S fun d S1 => ∃ b, truD S1 d = some b ∧ Q (.bl (!b)) S1 := by
  unfold mNotT
  rw [wp_bnd]
  constructor
  · rintro ⟨d, S1, h, b, S2, e, q⟩
    refine ⟨d, S1, h, ?_⟩
    cases ht : truD S1 d with
    | none => simp only [ht] at e; cases e
    | some x =>
      simp only [ht, Option.map_some, Option.some.injEq, Prod.mk.injEq] at e
      obtain ⟨rfl, rfl⟩ := e
      exact ⟨x, ht, q⟩
  · rintro ⟨d, S1, h, b, ht, q⟩
    exact ⟨d, S1, h, _, _, by simp only [ht, Option.map_some], q⟩
end
end Z
set_option Elab.async false
set_option linter.all false
set_option maxRecDepth 100000
/-! isinstance with two classes; equality of truths. -/
namespace Z
open PySem L2
def mIsi2 (T1 T2 : String) (m : ME) : ME := fun ρ => bnd (m ρ) fun d => fun S => (tyD S d).map fun t => (.bl (isiB t T1 || isiB t T2), S)
theorem kit_any2 {K : PySem.W.Frag} {t T1 T2 : String} {a b : Bool} (h1 : PySem.W.kitOne K (.type t) (.type T1) = some a) (h2 : PySem.W.kitOne K (.type t) (.type T2) = some b) : PySem.W.kitAny K (.type t) [.type T1, .type T2] = some (a || b) := by
  cases a <;> cases b <;> simp [PySem.W.kitAny, h1, h2]
theorem sn_isi2 {X : Cx} {e : Expr} {m : ME} {T1 T2 : String} {p p1 p2 tpos pos : Pos} {k} {y z : Str} (hT1 : T1 ∈ ["bool", "int", "str", "tuple", "list", "dict"]) (hT2 : T2 ∈ ["bool", "int", "str", "tuple", "list", "dict"]) (he : Sn X e m)
    (h : PE X (.Call (.Name "isinstance" p) [e, .Tuple [.Name y p1, .Name z p2] k tpos] [] pos) (tCB (rIsiT X.K) (tCons (tE X.K m) (tCons (tTup (tCons (tC (.ty T1)) (tCons (tC (.ty T2)) tNil))) tNil)))) : Sn X (.Call (.Name "isinstance" p) [e, .Tuple [.Name y p1, .Name z p2] k tpos] [] pos) (mIsi2 T1 T2 m) := pe_imp h fun σ H Q ⟨B, al, S, ρ, w, S', R, er, hm, q⟩ => by
  obtain ⟨d, S1, h1, h2⟩ := bnd_some hm
  cases ht : tyD S1 d with
  | none => rw [ht] at h2; cases h2
  | some t =>
    rw [ht] at h2
    cases h2
    refine ⟨B, al, S, ρ, d, _, R, er, h1, fun v al1 H1 R1 x1 r1 => ?_⟩
    refine ⟨by show 2 ≤ sizeLine; decide, fun p hp => ?_⟩
    obtain ⟨x2, R2⟩ := R1.side (o := .tup [.ty T1, .ty T2]) hp
    obtain ⟨g1, g2⟩ := tyD_rep R2 (r1.mono R1 x2) ht
    exact ⟨v, p, [.ty T1, .ty T2], .type t, [.type T1, .type T2], _, rfl, upd_same, .cons (.ty T1) (.cons (.ty T2) .nil), g1, kit_any2 (kit_ty (isi_kit g2 hT1)) (kit_ty (isi_kit g2 hT2)), q _ al1 _ R2 (x1.trans x2) (.bl _)⟩
section
variable {S : Store} {ρ : Env}
@[simp] theorem wp_mIsi2 {T1 T2 : String} {m : ME} {Q} : wp (mIsi2 T1 T2 m ρ) S Q ↔ wp (m ρ) S fun d S1 => ∃ t, tyD S1 d = some t ∧ Q (.bl (isiB t T1 || isiB t T2)) S1 := by
  unfold mIsi2
  rw [wp_bnd]
  constructor
  · rintro ⟨d, S1, h, b, S2, e, q⟩
    refine ⟨d, S1, h, ?_⟩
    cases ht : tyD S1 d with
    | none => simp only [ht] at e; cases e
    | some x =>
      simp only [ht, Option.map_some, Option.some.injEq, Prod.mk.injEq] at e
      obtain ⟨rfl, rfl⟩ := e
      exact ⟨x, ht, q⟩
  · rintro ⟨d, S1, h, b, ht, q⟩
    exact ⟨d, S1, h, _, _, by simp only [ht, Option.map_some], q⟩
theorem eqD_bl {a b : Bool} : eqD S (.bl a) (.bl b) = some (a == b) := by cases a <;> cases b <;> rfl
theorem wp_dNeB {a b : Bool} {Q} (q : Q (.bl (!(a == b))) S) : wp (dNe (.bl a) (.bl b)) S Q := wp_dNe eqD_bl q
theorem wp_dEqB {a b : Bool} {Q} (q : Q (.bl (a == b)) S) : wp (dEq (.bl a) (.bl b)) S Q := wp_dEq eqD_bl q
end
end Z
set_option Elab.async false
set_option linter.all false
set_option maxRecDepth 100000
/-! Defs that may raise; try. -/
namespace Z
open PySem L2
open PyProof.Rows (envOfC)
def mRaise (c : Str) : MS := fun _ S => some (.ex c, S)
section
variable {X : Cx} {W : Str → Hp → Prop}
theorem ss_raise {e : Expr} {pos : Pos} {c : Str} {C : Addr} {W' : WX} (hc : X.calm = true) (tk : Takes X W') (pm : PMk X e (fun _ H Q => Q (.ref C) none H)) (hW : ∀ σ H, W c H → W' (.ref C) none σ H) : Ss X W (.Raise (some e) none pos) (mRaise c) :=
  ps_imp (ps_raise hc tk pm) fun D σ H ⟨B, al, S, ρ, o, S', R, er, hm, p⟩ => by cases hm; exact hW σ H (p al H R .refl)
end
abbrev FX := List D → Store → Option ((D ⊕ Str) × Store)
def PostX (K : PySem.W.Frag) (mg : Str → Option Value) (B : Addr → Prop) (al : List Addr) (H : Hp) (Q : VK) (E : XK) (S' : Store) : D ⊕ Str → Prop
  | .inl d => ∀ (v : V) (al' : List Addr) (H' : Hp), Rel K B al' S' H' → Ex al H al' H' → RV K B al' H' d v → Q v H'
  | .inr c => ∀ (al' : List Addr) (H' : Hp), Rel K B al' S' H' → Ex al H al' H' → ∀ C, mg c = some (.ref C) → E (.ref C) none H'
def spX (K : PySem.W.Frag) (mg : Str → Option Value) (n : Nat) (f : FX) : Sp := fun vs H Q E => ∃ (B : Addr → Prop) (al : List Addr) (S : Store) (ds : List D) (r : D ⊕ Str) (S' : Store), Rel K B al S H ∧ ds.length = n ∧ RL K B al H ds vs ∧ f ds S = some (r, S') ∧ PostX K mg B al H Q E S' r
def mBodyX (N : Nat) (m : MS) : FX := fun ds S => match m (startD N ds) S with
  | some (.rt d, S') => some (.inl d, S')
  | some (.nx _, S') => some (.inl .non, S')
  | some (.ex c, S') => some (.inr c, S')
  | _ => none
section
variable {P : Program} {w : World} {K : PySem.W.Frag} {mg : Str → Option Value} {base : Heap}
theorem fn_X {x qual : Str} {st : Stmt} {f : Addr} {fd : FuncData} {N ps : List Str} {k : Nat} {m : MS} (F : L2.Fun K x qual st f fd) (Sc : FnScope N ps (defScope st))
    (hb : ∀ (cdv : Value) (A : Around) (outer : List PySem.Env) (s : Shared) (H : Hp) (E : XK), Room k (A.deeper (envOfC qual (defScope st) s.heap.objs.size f cdv)) → Sb (cxOf (CX P w) P w K mg base N qual (defScope st) f cdv A outer s H E) (fun c H' => ∀ C, mg c = some (.ref C) → E (.ref C) none H') (defBody st) m) :
    FnOk P w K mg base (CX P w) (k + 1) f fd ps (spX K mg ps.length (mBodyX N.length m)) := by
  refine F.okX Sc (fun vs H Q E ⟨B, al, S, ds, r, S', R, hl, rl, h, q⟩ => by rw [← rl.len]; exact hl) (fun cdv A outer s H vs Q E hr ⟨B, al, S, ds, r, S', R, hl, rl, h, q⟩ => ⟨_, hb cdv A outer s H E hr, ?_⟩)
  unfold mBodyX at h
  split at h
  · rename_i d S1 h1
    cases h
    exact ⟨B, al, S, startD N.length ds, _, _, R, er_start rl, h1, fun v al' H' R' x' r' => q v al' H' R' x' r'⟩
  · rename_i ρ S1 h1
    cases h
    exact ⟨B, al, S, startD N.length ds, _, _, R, er_start rl, h1, fun σ' al' H' R' x' _ => q .non al' H' R' x' .non⟩
  · rename_i c S1 h1
    cases h
    exact ⟨B, al, S, startD N.length ds, _, _, R, er_start rl, h1, fun al' H' R' x' => q al' H' R' x'⟩
  · cases h
/-- a def that may raise -/
structure CalX (P : Program) (w : World) (K : PySem.W.Frag) (mg : Str → Option Value) (base : Heap) (k : Nat) (x : Str) (sp : Sp) : Prop where
  ex : ∃ (f : Addr) (fd : FuncData) (ps : List Str), FnOk P w K mg base (CX P w) k f fd ps sp ∧ mg x = some (.ref f) ∧ PySem.W.keepIn K (.ref f) = true ∧ Binds K fd ps []
/-- an own class of exceptions -/
structure ExcN (K : PySem.W.Frag) (mg : Str → Option Value) (c : Str) (C : Addr) : Prop where
  g : mg c = some (.ref C)
  x : PySem.W.excIn K C [.type "ValueError", .type "Exception", .type "BaseException", .type "object"] "ValueError.__new__" = true
  k : PySem.W.keepIn K (.ref C) = true
  b : PySem.W.subIn K (.ref C) (.type "BaseException") = some true
  t : PySem.W.typeIn K (.ref C) = some (.type "type")
  e : PySem.W.exmOne K (.ref C) (.ref C) = some true
end
/-- a call of a plain def, from what it hands back -/
theorem spF_call {K : PySem.W.Frag} {B : Addr → Prop} {al1 : List Addr} {S1 S' : Store} {H1 : Hp} {ds : List D} {vs : List V} {z : D} {k n : Nat} {f : List D → M D} {Q : VK} {E : XK} (R1 : Rel K B al1 S1 H1) (r1 : RL K B al1 H1 ds vs) (hl : ds.length = n) (h2 : callF k f ds S1 = some (z, S'))
    (q : ∀ (v : V) (al' : List Addr) (H' : Hp), Rel K B al' S' H' → Ex al1 H1 al' H' → RV K B al' H' z v → Q v H') : spF K n f vs H1 Q E := by
  unfold callF at h2
  split at h2
  · rename_i hc
    simp only [Bool.and_eq_true, decide_eq_true_eq] at hc
    obtain ⟨⟨c1, c2⟩, c3⟩ := hc
    split at h2
    · rename_i d S2 h3
      split at h2
      · rename_i h4
        obtain ⟨g1, g2⟩ := h4
        cases h2
        obtain ⟨a1, be, rfl, ha⟩ : ∃ a1 be, al1 = a1 ++ be ∧ a1.length = k := ⟨al1.take k, al1.drop k, (List.take_append_drop k al1).symm, by rw [List.length_take, R1.len]; omega⟩
        subst ha
        have hlen : ∀ (es : List D), es = ds.map (rk a1.length S1 4) → es.length = n := fun es e => by rw [e, List.length_map]; exact hl
        rcases g2 with g2 | ⟨g2, g3⟩
        · let C : Addr → Prop := fun a => B a ∨ a ∈ be
          have R2 : Rel K C a1 (S1.take a1.length) H1 := R1.first c2 fun a z => z
          refine ⟨C, a1, S1.take a1.length, _, _, S2, R2, hlen _ rfl, ?_, h3, fun v H' R3 x3 r3 => ?_⟩
          · rw [map_rk g2]
            exact r1.shrink (fun a z => z) g2
          · obtain ⟨R4, x4⟩ := R1.join R3 g1 x3 fun a z => z
            exact q v (a1 ++ be) H' R4 x4 (r3.grow fun a z => z)
        · have ha0 : a1 = [] := List.eq_nil_of_length_eq_zero g2
          subst ha0
          have R2 : Rel K B [] (S1.take 0) H1 := R1.first c2 fun a z => .inl z
          refine ⟨B, [], _, _, _, S2, R2, hlen _ rfl, rl_rk R1 r1 c3, h3, fun v H' R3 x3 r3 => ?_⟩
          have e2 : S2 = [] := List.eq_nil_of_length_eq_zero g1
          subst e2
          have R5 : Rel K (fun a => B a ∨ a ∈ be) [] [] H' := ⟨rfl, List.nodup_nil, fun a z => ⟨by simp, (by
            rcases z with z | z
            · exact (R3.bh a z).2
            · obtain ⟨u, hu⟩ := (R1.there (a := a) (by simpa using z)).1
              exact ⟨u, (x3.fr a u hu (by simp)).1⟩)⟩, fun n a o e _ => by simp at e⟩
          obtain ⟨R4, x4⟩ := R1.join R5 rfl x3 fun a z => z
          exact q v ([] ++ be) H' R4 x4 (r3.plain g3)
      · cases h2
    · cases h2
  · cases h2
def mTryRet (g : List D → M D) (f : FX) (m : MA) (xc : Str) (ms : MS) : MS := fun ρ S => match m ρ S with
  | none => none
  | some (ds, S1) => match f ds S1 with
    | none => none
    | some (.inl d, S2) => match callF 0 g [d] S2 with
      | none => none
      | some (d', S3) => some (.rt d', S3)
    | some (.inr c, S2) => if c = xc then ms ρ S2 else none
theorem ss_tryRet {X : Cx} {W : Str → Hp → Prop} {kf kg j : Nat} {xf xg xc : Str} {C : Addr} {f : FX} {g : List D → M D} {m : MA} {ms : MS} {e : Expr} {es : List Expr} {b₀ : Stmt} {suite : List Stmt} {p1 p2 p3 p4 p5 np pos pos' : Pos}
    (cf : CalX X.prog X.w X.K X.mg X.base kf xf (spX X.K X.mg (e :: es).length f)) (cg : Cal X.prog X.w X.K X.mg X.base kg xg (spF X.K 1 g)) (hr : Room j X.A) (hkf : kf ≤ j) (hkg : kg ≤ j) (xC : ExcN X.K X.mg xc C)
    (hs : X.stack = X.env :: X.outer) (hf : X.env.frame = some X.env.locals) (hgc : Gl X xc) (hdc : (xc == PySem.Str.ofString "__debug__") = false) (hgf : Gl X xf) (hgg : Gl X xg)
    (hdf : (xf == PySem.Str.ofString "__debug__") = false) (hdg : (xg == PySem.Str.ofString "__debug__") = false)
    (ha : ∀ pn xe, Sa (X.tr pn xe) (e :: es) m)
    (hef : starEach (e :: es) X.env = (false, eval e X.env) :: starEach es X.env) (hpf : ((backTo p2 (starEach es X.env)).any fun x => x.fst) = false)
    (heg : starEach [.Call (.Name xf p1) (e :: es) [] p2] X.env = (false, eval (.Call (.Name xf p1) (e :: es) [] p2) X.env) :: starEach [] X.env)
    (hpg : ((backTo p4 (starEach [] X.env)).any fun x => x.fst) = false)
    (hsu : ∀ a oe pn, Sb (X.suite a ((a, oe) :: pn)) W (b₀ :: suite) ms) :
    Ss X W (.Try [.Return (some (.Call (.Name xg p3) [.Call (.Name xf p1) (e :: es) [] p2] [] p4)) p5] [.ExceptHandler (some (.Name xc np)) none (b₀ :: suite) pos'] [] [] pos) (mTryRet g f m xc ms) := by
  obtain ⟨ff, fd, ps, F, hm, kp, b⟩ := cf.ex
  refine ps_imp (ps_try_only (c := .ref C) (tb := fun W' => tRet (tCall (spF X.K 1 g) [] E0 (tCons (tCallS (spX X.K X.mg (e :: es).length f) (WE W') (tA X.K m)) tNil))) (ts := fun _ _ _ => tS X.K W ms) (Wout := fun _ _ _ _ => False) hs hf ⟨hgc, hdc, .inl xC.g⟩ takes0
    (fun W' pn xe tk _ => pss_one (ps_ret (pe_cal (X := X.tr pn xe) cg hr hkg hgg (pa_cons (pe_callS (X := X.tr pn xe) F (hr.mono hkf) hgf hm kp b (fun σ => passAt tk σ) (ha pn xe).run hdf hef hpf) pa_nil heg) hdg heg hpg)))
    (fun a oe cls d pn _ _ => hsu a oe pn)) ?_
  intro D σ H ⟨B, al, S, ρ, o, S', R, er, hmm, p⟩
  unfold mTryRet at hmm
  cases h1 : m ρ S with
  | none => rw [h1] at hmm; cases hmm
  | some y =>
    obtain ⟨ds, S1⟩ := y
    rw [h1] at hmm
    simp only at hmm
    refine ⟨B, al, S, ρ, ds, S1, R, er, h1, fun vs al1 H1 R1 x1 r1 => ?_⟩
    have hlen : ds.length = (e :: es).length := (ha [] X.xe).len _ _ _ _ h1
    cases h2 : f ds S1 with
    | none => rw [h2] at hmm; cases hmm
    | some y2 =>
      obtain ⟨r, S2⟩ := y2
      rw [h2] at hmm
      refine ⟨B, al1, S1, ds, r, S2, R1, hlen, r1, h2, ?_⟩
      cases r with
      | inl d =>
        simp only at hmm
        intro v al2 H2 R2 x2 r2
        cases h3 : callF 0 g [d] S2 with
        | none => rw [h3] at hmm; cases hmm
        | some y3 =>
          obtain ⟨d', S3⟩ := y3
          rw [h3] at hmm
          cases hmm
          exact spF_call (E := E0) R2 (.cons _ _ _ _ r2 .nil) rfl h3 fun v' al' H' R' x' r' => p v' al' H' R' ((x1.trans x2).trans x') r'
      | inr c =>
        simp only at hmm
        split at hmm
        · rename_i hc
          subst hc
          intro al2 H2 R2 x2 C' hC'
          have : C' = C := by
            have := xC.g.symm.trans hC'
            cases this
            rfl
          subst this
          exact ⟨true, xC.e, fun _ a _ => ⟨B, al2, S2, ρ, o, S', R2, er.mono R (x1.trans x2), hmm, p.step (x1.trans x2)⟩, fun z => by cases z⟩
        · cases hmm
/-- an own class of exceptions meets its own name -/
theorem exm_self {K : PySem.W.Frag} {C : Addr} (h1 : PySem.W.subIn K (.ref C) (.type "BaseException") = some true) (h2 : PySem.W.isClsIn K C = true) (h3 : PySem.W.typeIn K (.ref C) = some (.type "type")) (h4 : PySem.W.subIn K (.ref C) (.ref C) = some true) : PySem.W.exmOne K (.ref C) (.ref C) = some true := by
  have h5 : (PySem.W.clsIn K C).isSome = true := h2
  have e1 : (PySem.W.subIn K (.ref C) (.type "BaseException") == some true) = true := by rw [h1]; rfl
  have e2 : ((PySem.W.clsIn K C).isSome && PySem.W.typeIn K (.ref C) == some (.type "type")) = true := by rw [h5, h3]; rfl
  unfold PySem.W.exmOne
  rw [if_pos e1]
  exact (if_pos e2).trans h4
end Z
set_option Elab.async false
set_option linter.all false
set_option maxRecDepth 100000
set_option maxHeartbeats 4000000
/-! A tuple no times. -/
namespace Z
open PySem L2 PyProof.Rows
theorem mul_zero (l : Addr) (its : Array Value) (n : Nat) (dd : Option Addr) (sl : Array (Option Value)) (u : Tok) (hne : its.isEmpty = false) :
    Meets (Builtin.«tuple.__mul__» ⟨[.ref l, .int 0 u], []⟩) (fun _ R s => s.heap.get? l = some { cls := .type "tuple", dict := dd, data := .seq its n, slots := sl } ∧
      R (.ok (.ret (Value.ref s.heap.objs.size))) { s with heap := s.heap.push { cls := Value.type "tuple", data := Data.seq #[] }, toks := s.toks }) :=
  .of_wp fun prog w A R s h => by
    obtain ⟨hp, g, d, tk, os⟩ := s
    obtain ⟨hl, h⟩ := h
    have f1 := AutoSeq1.idx_int
    have c1 : (its.isEmpty || (0 : Int) == 1) = false := by rw [hne]; rfl
    wp_walk using wpAny_loadPart' hl
    repeat (first
      | (refine wpAny_ite_false (decide_eq_false (by decide)) ?_; wp_walk using wpAny_loadPart' hl)
      | (refine wpAny_ite_false (decide_eq_false (by rw [c1]; exact Bool.false_ne_true)) ?_; wp_walk using wpAny_loadPart' hl)
      | (refine wpAny_ite_true (decide_eq_true (by simp)) ?_; wp_walk using wpAny_loadPart' hl))
    exact ⟨_, rfl, h⟩
def rRep0 (K : PySem.W.Frag) : R2 := fun x y H Q => ∃ l xs, x = .ref l ∧ y = .int 0 ∧ SqT K H l xs ∧ xs ≠ [] ∧ ∀ p, H p = none → Q (.ref p) (upd H p (.tup []))
theorem op_rep0 {X : Cx} : OpR X (binaryOp .Mult) (rRep0 X.K) := by
  intro pins s σ H x y v u Q I rx ry h
  obtain ⟨l, xs, rfl, rfl, hT, hne, q⟩ := h
  cases rx
  obtain ⟨t, rfl⟩ := ry
  obtain ⟨its, r, ⟨⟨cls, dd, data, sl⟩, ho, hc, n, hd⟩, hs⟩ := I.tuple hT
  simp only at hc hd
  subst hc hd
  have hle : its.length = xs.length := r.length.symm
  have hn : its ≠ [] := fun e => hne (by
    rw [e] at hle
    exact List.eq_nil_of_length_eq_zero hle.symm)
  have hi : its.toArray.isEmpty = false := by
    cases its with
    | nil => exact absurd rfl hn
    | cons a b => rfl
  refine wpAny_binaryOp_repeat_ref (T := "tuple") (U := "int") (by decide) ⟨_, ho, rfl⟩ (fun s' => typeIs_int s' 0 t) noFill_tuple_mul F.fills_int_mul F.slot_int_rmul repeat_tuple F.slot_int_index.lookup
    (call_meets F.slot_int_rmul (typeIs_int s 0 t) F.entry_int_rmul (F.args_int_rmul_2 _ _) (int_rmul_tuple 0 t l its.toArray n dd sl)
      ⟨ho, rfl, ⟨_, ho, rfl⟩, call_meets F.slot_tuple_mul ⟨_, ho, rfl⟩ F.entry_tuple_mul (F.args_tuple_mul_2 _ _) (mul_zero l its.toArray n dd sl t hi) ⟨ho, ?_⟩⟩)
  refine ⟨.ref s.heap.objs.size, _, I.laid (t' := s.toks) (o := .tup []) (fun b ob q => Heap.get?_push_of_some _ q) (Nat.le_refl _) ?_, rfl, q _ (I.hok.fresh (Nat.le_refl _))⟩
  exact ⟨by decide, _, .nil, IsTup.new _ _⟩
def dRep0 (d e : D) : M D := match d, e with
  | .tup (_ :: _), .int k => if k = 0 then ret (.tup []) else fail
  | _, _ => fail
theorem r_rep0 {K : PySem.W.Frag} : R2S K (rRep0 K) dRep0 := fun B al S H d e z v w S' R r1 r2 h Q q => by
  unfold dRep0 at h
  split at h
  · rename_i y ys k
    split at h
    · rename_i hk
      subst hk
      cases r2
      obtain ⟨rfl, rfl⟩ := ret_some h
      cases r1 with
      | tup a _ vs ha ra =>
        refine ⟨a, vs, rfl, rfl, .of ha, (fun e0 => by subst e0; cases ra), fun p hp => ?_⟩
        obtain ⟨x, R1⟩ := R.side (o := .tup []) hp
        exact q _ al _ R1 x (.tup p _ _ upd_same .nil)
    · cases h
  · cases h
def dMul0 (d e : D) : M D := fun S => (dRep0 d e S).orElse fun _ => dMul d e S
theorem b_mul0 {X : Cx} : OpR X (binaryOp .Mult) (fun x y H Q => rRep0 X.K x y H Q ∨ (rI CMul (fun i j => .int (i * j)) x y H Q ∨ ((rOnce X.K x y H Q ∨ rRepT X.K x y H Q) ∨ rRep x y H Q))) := op_rep0.or b_mul
theorem r_mul0 {K : PySem.W.Frag} : R2S K (fun x y H Q => rRep0 K x y H Q ∨ (rI CMul (fun i j => .int (i * j)) x y H Q ∨ ((rOnce K x y H Q ∨ rRepT K x y H Q) ∨ rRep x y H Q))) dMul0 := r_rep0.or r_mul
theorem wp_dMul0 {xs : List D} {x : D} {S : Store} {Q : D → Store → Prop} (q : Q (.tup []) S) : wp (dMul0 (.tup (x :: xs)) (.int 0)) S Q := ⟨_, S, rfl, q⟩
theorem wp_dMulN {d : D} {k : Int} {S : Store} {Q : D → Store → Prop} (hk : k ≠ 0) (h : wp (dMul d (.int k)) S Q) : wp (dMul0 d (.int k)) S Q := by
  obtain ⟨e, S', h1, q⟩ := h
  refine ⟨e, S', ?_, q⟩
  have : dRep0 d (.int k) S = none := by
    cases d with
    | tup xs =>
      cases xs with
      | nil => rfl
      | cons x xs => simp only [dRep0, if_neg hk]; rfl
    | _ => rfl
  unfold dMul0
  rw [this]
  exact h1
end Z
set_option Elab.async false
set_option linter.all false
set_option maxRecDepth 100000
/-! str of plain data. -/
namespace Z
open PySem L2
def boolT (b : Bool) : Str := if b then PySem.Str.ofString "True" else PySem.Str.ofString "False"
def rStr (K : PySem.W.Frag) : List V → Hp → VK → Prop := fun vs H Q => rRepr K vs H Q ∨ (vs = [.non] ∧ Q (.str (PySem.Str.ofString "None")) H) ∨ (∃ b, vs = [.bl b] ∧ Q (.str (boolT b)) H) ∨
  (∃ i : Int, vs = [.int i] ∧ i.natAbs.log2 < 1920 ∧ Q (.str (PySem.Str.ofString (toString i))) H) ∨ ∃ a, vs = [.str a] ∧ Q (.str a) H
theorem cr_str {X : Cx} (hg : X.A.guards = some []) (hu : X.A.units + 66 < cLine) : CallR X (.type "str") (rStr X.K) := fun pins s σ H vs us Q I r h => by
  rcases h with ⟨a, d, e, hd, h1, h2, h3, h4, q⟩ | ⟨e, q⟩ | ⟨b, e, q⟩ | h | h
  · subst e
    rw [Vals.ref1 r]
    obtain ⟨as, rd⟩ := Dp.reads I d (.ref a) (.ref a) hd rfl
    exact str_of_reads rd h1 (PyData.noDict_hsm h2) hg (by omega) (fun _ _ e => e) (fun h' u tk hk => ⟨.str d.shown, H, I.kept hk, ⟨u, rfl⟩, q⟩) h4
  · subst e
    cases r with
    | cons rx rt =>
      cases rt
      cases rx
      exact PySem.P.str_of_none ⟨.str (PySem.Str.ofString "None"), H, I.tok _, ⟨_, rfl⟩, q⟩
  · subst e
    cases r with
    | cons rx rt =>
      cases rt
      cases rx
      cases b with
      | true => exact PySem.P.str_of_bool ⟨.str (boolT true), H, I.tok _, ⟨_, rfl⟩, q⟩
      | false => exact PySem.P.str_of_bool ⟨.str (boolT false), H, I.tok _, ⟨_, rfl⟩, q⟩
  · exact call_str_int pins s σ H vs us Q I r h
  · exact SkE.call_str_str pins s σ H vs us Q I r h
def strD (d : D) : Option Str := match d with
  | .non => some (PySem.Str.ofString "None")
  | .bl b => some (boolT b)
  | .int i => if i.natAbs.log2 < 1920 then some (PySem.Str.ofString (toString i)) else none
  | .str a => some a
  | d => if showD d then some (toP d).shown else none
def cStr (ds : List D) : M D := fun S => match ds with
  | [d] => (strD d).map fun t => (.str t, S)
  | _ => none
theorem c_str {K : PySem.W.Frag} : CRS K (rStr K) cStr := fun B al S H ds z vs S' R r1 h Q q => by
  unfold cStr at h
  split at h
  · rename_i d
    cases hd : strD d with
    | none => rw [hd] at h; cases h
    | some t =>
      rw [hd] at h
      cases h
      unfold strD at hd
      split at hd
      · cases hd
        obtain ⟨v, rfl, rv⟩ := rl_one r1
        cases rv
        exact .inr (.inl ⟨rfl, q _ al H R .refl (.str _)⟩)
      · cases hd
        obtain ⟨v, rfl, rv⟩ := rl_one r1
        cases rv
        exact .inr (.inr (.inl ⟨_, rfl, q _ al H R .refl (.str _)⟩))
      · split at hd
        · rename_i hl
          cases hd
          obtain ⟨v, rfl, rv⟩ := rl_one r1
          cases rv
          exact .inr (.inr (.inr (.inl ⟨_, rfl, hl, q _ al H R .refl (.str _)⟩)))
        · cases hd
      · cases hd
        obtain ⟨v, rfl, rv⟩ := rl_one r1
        cases rv
        exact .inr (.inr (.inr (.inr ⟨_, rfl, q _ al H R .refl (.str _)⟩)))
      · split at hd
        · rename_i hs
          cases hd
          refine .inl (c_repr B al S H [d] (.str (toP d).shown) vs S R r1 ?_ Q q)
          have hn : nr d = true := by simp only [showD, Bool.and_eq_true] at hs; exact hs.1.1.1.1.2
          simp only [cRepr, rs_nr S 4 hn, hs, if_true]
        · cases hd
  · cases h
theorem hu68 {A : Around} {k : Nat} (hr : Room k A) : A.units + 66 < cLine := by have := hr.un; omega
theorem wp_cStr {d : D} {t : Str} {S : Store} {Q : D → Store → Prop} (h : strD d = some t) (q : Q (.str t) S) : wp (cStr [d]) S Q := ⟨_, _, by simp only [cStr, h, Option.map_some], q⟩
end Z
set_option Elab.async false
set_option linter.all false
set_option maxRecDepth 100000
/-! try .. except C as e: if isinstance(e, A) and isinstance(e, B): return .. -/
namespace Z
open PySem L2
open PyProof.Rows (envOfC)
def mTryAs (i : Nat) (g : List D → M D) (f : FX) (m : MA) (xc : Str) (m2 : ME) : MS := fun ρ S => if i < ρ.length then mTryRet g f m xc (fun ρ S => mRet m2 (ρ.set i none) S) ρ S else none
theorem er_drop {K : PySem.W.Frag} {B : Addr → Prop} {al : List Addr} {H : Hp} {ρ : Env} {σ : St} (er : ER K B al H ρ σ) (i : Nat) (v : Option V) : ER K B al H (ρ.set i none) (σ.set i v) := by
  refine ⟨by simpa using er.1, fun j d h => ?_⟩
  by_cases e : j = i
  · subst e
    rw [List.getElem?_set] at h
    split at h
    · split at h <;> cases h
    · rename_i hh; exact (hh rfl).elim
  · rw [List.getElem?_set_ne (fun z => e z.symm)] at h ⊢
    exact er.2 j d h
theorem ss_tryAs {X : Cx} {W : Str → Hp → Prop} {kf kg j i : Nat} {xf xg xc nm : Str} {C : Addr} {f : FX} {g : List D → M D} {m : MA} {m2 : ME} {e e1 e2 er : Expr} {es : List Expr} {p1 p2 p3 p4 p5 p6 p7 p8 np pos pos' : Pos} {v1 v2 : V} {c1 c2 : Value}
    (cf : CalX X.prog X.w X.K X.mg X.base kf xf (spX X.K X.mg (e :: es).length f)) (cg : Cal X.prog X.w X.K X.mg X.base kg xg (spF X.K 1 g)) (hr : Room j X.A) (hkf : kf ≤ j) (hkg : kg ≤ j) (xC : ExcN X.K X.mg xc C)
    (hs : X.stack = X.env :: X.outer) (hf : X.env.frame = some X.env.locals) (hN : X.N.Nodup) (hi : X.N[i]? = some nm) (hln : X.env.kindOf nm = some .local) (hgc : Gl X xc) (hdc : (xc == PySem.Str.ofString "__debug__") = false) (hgf : Gl X xf) (hgg : Gl X xg)
    (hdf : (xf == PySem.Str.ofString "__debug__") = false) (hdg : (xg == PySem.Str.ofString "__debug__") = false)
    (ha : ∀ pn xe, Sa (X.tr pn xe) (e :: es) m)
    (hef : starEach (e :: es) X.env = (false, eval e X.env) :: starEach es X.env) (hpf : ((backTo p2 (starEach es X.env)).any fun x => x.fst) = false)
    (heg : starEach [.Call (.Name xf p1) (e :: es) [] p2] X.env = (false, eval (.Call (.Name xf p1) (e :: es) [] p2) X.env) :: starEach [] X.env)
    (hpg : ((backTo p4 (starEach [] X.env)).any fun x => x.fst) = false)
    (h1 : ∀ a oe pn, Zc (.ref C) none oe → (∃ vs, oe.data = .fields vs) → PE (X.suite a ((a, oe) :: pn)) e1 (tCB (rIsE X.K C a) (tCons (tVar i) (tCons (tC v1) tNil))))
    (h2 : ∀ a oe pn, Zc (.ref C) none oe → (∃ vs, oe.data = .fields vs) → PE (X.suite a ((a, oe) :: pn)) e2 (tCB (rIsE X.K C a) (tCons (tVar i) (tCons (tC v2) tNil))))
    (t1 : ∀ whole, isTrue e1 X.env whole = (do let v ← whole; standAt e1.pos; holding [v] (truthy v))) (t2 : ∀ whole, isTrue e2 X.env whole = (do let v ← whole; standAt e2.pos; holding [v] (truthy v)))
    (k1 : ∀ u, RelV v1 u → u = c1) (q1 : PySem.W.kitOne X.K (.ref C) c1 = some true) (k2 : ∀ u, RelV v2 u → u = c2) (q2 : PySem.W.kitOne X.K (.ref C) c2 = some true)
    (hsu : ∀ a oe pn, Sn (X.suite a ((a, oe) :: pn)) er m2) :
    Ss X W (.Try [.Return (some (.Call (.Name xg p3) [.Call (.Name xf p1) (e :: es) [] p2] [] p4)) p5] [.ExceptHandler (some (.Name xc np)) (some nm) [.If (.BoolOp .And [e1, e2] p6) [.Return (some er) p7] [] p8] pos'] [] [] pos) (mTryAs i g f m xc m2) := by
  obtain ⟨ff, fd, ps, F, hm, kp, b⟩ := cf.ex
  refine ps_imp (ps_try_as (i := i) (c := .ref C) (tb := fun W' => tRet (tCall (spF X.K 1 g) [] E0 (tCons (tCallS (spX X.K X.mg (e :: es).length f) (WE W') (tA X.K m)) tNil)))
    (ts := fun a cls d D σ H => cls = .ref C ∧ d = none ∧ σ[i]? = some (some (.ref a)) ∧ tRet (tE X.K m2) D σ H) (Wout := fun _ _ _ _ => False) hs hf hN hi hln ⟨hgc, hdc, .inl xC.g⟩ takes0
    (fun W' pn xe tk _ => pss_one (ps_ret (pe_cal (X := X.tr pn xe) cg hr hkg hgg (pa_cons (pe_callS (X := X.tr pn xe) F (hr.mono hkf) hgf hm kp b (fun σ => passAt tk σ) (ha pn xe).run hdf hef hpf) pa_nil heg) hdg heg hpg)))
    (fun a oe cls d pn hz hfl => ⟨fun pins s σ H D I w => by
      obtain ⟨rfl, rfl, hsi, w⟩ := w
      refine (pss_one (ps_if (X := X.suite a ((a, oe) :: pn)) (pw_and (pt_truth (h1 a oe pn hz hfl) t1) (pw_and1 (pt_truth (h2 a oe pn hz hfl) t2))).pt (pss_one (ps_ret (hsu a oe pn))) pss_nil)).run pins s σ H D I ?_
      refine ⟨_, hsi, _, c1, true, rfl, k1, q1, true, rfl, ?_⟩
      refine ⟨_, hsi, _, c2, true, rfl, k2, q2, true, rfl, ?_⟩
      exact w⟩)) ?_
  intro D σ H ⟨B, al, S, ρ, o, S', R, er0, hmm, p⟩
  unfold mTryAs at hmm
  split at hmm
  · rename_i hlen
    unfold mTryRet at hmm
    cases h1 : m ρ S with
    | none => rw [h1] at hmm; cases hmm
    | some y =>
      obtain ⟨ds, S1⟩ := y
      rw [h1] at hmm
      simp only at hmm
      refine ⟨B, al, S, ρ, ds, S1, R, er0, h1, fun vs al1 H1 R1 x1 r1 => ?_⟩
      have hlen2 : ds.length = (e :: es).length := (ha [] X.xe).len _ _ _ _ h1
      cases h2 : f ds S1 with
      | none => rw [h2] at hmm; cases hmm
      | some y2 =>
        obtain ⟨r, S2⟩ := y2
        rw [h2] at hmm
        refine ⟨B, al1, S1, ds, r, S2, R1, hlen2, r1, h2, ?_⟩
        cases r with
        | inl d =>
          simp only at hmm
          intro v al2 H2 R2 x2 r2
          cases h3 : callF 0 g [d] S2 with
          | none => rw [h3] at hmm; cases hmm
          | some y3 =>
            obtain ⟨d', S3⟩ := y3
            rw [h3] at hmm
            cases hmm
            exact spF_call (E := E0) R2 (.cons _ _ _ _ r2 .nil) rfl h3 fun v' al' H' R' x' r' => p v' al' H' R' ((x1.trans x2).trans x') r'
        | inr c =>
          simp only at hmm
          split at hmm
          · rename_i hc
            subst hc
            intro al2 H2 R2 x2 C' hC'
            have : C' = C := by
              have := xC.g.symm.trans hC'
              cases this
              rfl
            subst this
            unfold mRet at hmm
            split at hmm
            · rename_i d3 S3 h3
              cases hmm
              have hil : i < σ.length := by have := er0.1; omega
              refine ⟨true, xC.e, fun _ a _ => ⟨rfl, rfl, by rw [List.getElem?_set_self hil], ?_⟩, fun z => by cases z⟩
              exact ⟨B, al2, S2, ρ.set i none, d3, _, R2, er_drop (er0.mono R (x1.trans x2)) i _, h3, fun v al' H' R' x' r' => p v al' H' R' ((x1.trans x2).trans x') r'⟩
            · cases hmm
          · cases hmm
  · cases hmm
end Z
set_option Elab.async false
set_option linter.all false
set_option maxRecDepth 100000
/-! t[::-1], len(set(xs)) for any ints -/
namespace HT
open PySem PySem.Spec PyProof.Rows
section
variable {prog : Program} {w : World} {A : Around} {E : Value → Shared → Prop} {s : Shared}
theorem adjust_rev (n : Nat) : Builtin.Slice.sliceAdjust none none (-1) (n : Int) = ((n : Int) - 1, -1) := rfl
theorem places_rev (n : Nat) : Builtin.Slice.slicePlaces ((n : Int) - 1) (-1) (-1) = n := by
  unfold Builtin.Slice.slicePlaces
  have h1 : ¬ ((-1 : Int) > 0) := by omega
  have e : (- -1 : Int) = 1 := rfl
  simp only [h1, if_false, e, Int.ediv_one]
  split <;> omega
theorem sliceApplied_rev {sl : Addr} {vs : Value} {n : Nat} {Q : Int × Int × Nat → Shared → Prop} (hs : s.heap.IsSliceOf sl .none .none vs) (ps : IsPart vs (some (-1)))
    (h : Q ((n : Int) - 1, -1, n) s) : wpAny (model prog w) A (Builtin.Slice.sliceApplied (.ref sl) (pure (n : Int))) Q E s := by
  obtain ⟨os, hos, hcs, hds⟩ := id hs
  unfold Builtin.Slice.sliceApplied Builtin.Slice.sliceFields
  refine wpAny_bind (wpAny_bind (wpAny_field hos hds (x := .none) rfl (wpAny_bind (wpAny_field hos hds (x := .none) rfl (wpAny_bind (wpAny_field hos hds (x := vs) rfl (wpAny_pure ?_)))))))
  refine wpAny_bind (slicePart_ ps ?_)
  show wpAny _ _ (if ((-1 : Int) == 0) = true then _ else _) _ _ s
  rw [if_neg (by decide)]
  refine wpAny_bind (slicePart_none (wpAny_bind (slicePart_none (wpAny_bind (wpAny_pure ?_)))))
  show wpAny _ _ (match Builtin.Slice.sliceAdjust none none (-1) (n : Int) with | (lo, hi) => pure (lo, (-1 : Int), Builtin.Slice.slicePlaces lo hi (-1))) _ _ s
  rw [adjust_rev]
  show wpAny _ _ (pure ((n : Int) - 1, (-1 : Int), Builtin.Slice.slicePlaces ((n : Int) - 1) (-1) (-1))) _ _ s
  rw [places_rev]
  exact wpAny_pure h
theorem filterMap_cong {α β : Type} {f g : α → Option β} : ∀ {l : List α}, (∀ x ∈ l, f x = g x) → l.filterMap f = l.filterMap g
  | [], _ => rfl
  | x :: l, h => by
    rw [List.filterMap_cons, List.filterMap_cons, h x List.mem_cons_self, filterMap_cong fun y hy => h y (List.mem_cons_of_mem _ hy)]
theorem pick_rev (xs : Array Value) : ((List.range xs.size).filterMap fun (m : Nat) => xs[((xs.size : Int) - 1 + (m : Int) * (-1)).toNat]?).toArray = xs.toList.reverse.toArray := by
  rw [← PySem.W.krv_pick]
  unfold slicePick
  rw [PySem.W.krv_bounds]
  show _ = ((sliceRange ((xs.size : Int) - 1) (-1) (-1)).filterMap (xs[·]?)).toArray
  rw [PySem.W.krv_sliceRange, List.filterMap_map]
  congr 1
  have : ∀ m ∈ List.range xs.size, xs[((xs.size : Int) - 1 + (m : Int) * (-1)).toNat]? = ((fun x => xs[x]?) ∘ fun k => xs.size - 1 - k) m := fun m hm => by
    have := List.mem_range.mp hm
    have e : ((xs.size : Int) - 1 + (m : Int) * (-1)).toNat = xs.size - 1 - m := by omega
    rw [e]
    rfl
  exact filterMap_cong this
theorem getItem_tuple_rev {t sl : Addr} {items : Array Value} {vs : Value} {Q : Value → Shared → Prop} (ht : IsTup s.heap t items) (hs : s.heap.IsSliceOf sl .none .none vs) (ps : IsPart vs (some (-1)))
    (h : Q (.ref s.heap.objs.size) { s with heap := s.heap.push { cls := .type "tuple", data := .seq items.toList.reverse.toArray } })
    (hsz : items.size ≤ sizeLine) : wpAny (model prog w) A (getItem (.ref t) (.ref sl)) Q E s := by
  have htake : sizeOk (.seq items.toList.reverse.toArray) := by
    show items.toList.reverse.toArray.size ≤ sizeLine
    rw [List.size_toArray, List.length_reverse, Array.length_toList]
    omega
  obtain ⟨os, hos, hcs, hds⟩ := id hs
  have hTs : s.TypeIs (.ref sl) "slice" := ⟨os, hos, hcs⟩
  unfold getItem
  try with_reducible refine wpAny_holding ?_
  first | refine wpAny_bind (wpAny_pure ?_) | skip
  refine wpAny_bind (wpAny_sequenceKey ht.typeIs (by decide) ?_)
  refine wpAny_bind (wpAny_callSpecial?_slot (name := Str.ofString "__getitem__") ht.typeIs PyProof.Rows.slot_tuple_getitem
    (wpAny_call_entry PyProof.Rows.slot_tuple_getitem ht.typeIs entry_tuple_getitem ?_ (args_tuple_getitem _ _)))
  show wpAny _ _ (Builtin.Tuple.tupleItemsOf (.ref t) >>= _) _ _ s
  refine wpAny_bind (tupleItemsOf_ ht ?_)
  refine wpAny_bind (wpAny_typeOf hTs ?_)
  rw [if_pos (by decide)]
  refine wpAny_bind (sliceApplied_rev hs ps ?_)
  have hno : ¬ (((items.size : Int) - 1 == 0 && (-1 : Int) == 1 && items.size == items.size) = true) := by
    rw [show ((-1 : Int) == 1) = false from rfl]
    simp
  show wpAny _ _ (if ((items.size : Int) - 1 == 0 && (-1 : Int) == 1 && items.size == items.size) = true then _ else _) _ _ s
  rw [if_neg hno, pick_rev]
  first
    | exact wpAny_bind (m := Builtin.Tuple.tupleExact _) (wpAny_newObj_type (wpAny_pure ⟨_, rfl, wpAny_pure h⟩) htake)
    | exact wpAny_bind (m := Builtin.Tuple.tupleExact _) (wpAny_newObj_type (wpAny_bind (wpAny_pure (wpAny_pure ⟨_, rfl, wpAny_pure h⟩))) htake)
    | exact wpAny_bind (wpAny_bind (m := Builtin.Tuple.tupleExact _) (wpAny_newObj_type (wpAny_pure (wpAny_pure ⟨_, rfl, wpAny_pure h⟩)) htake))
    | exact wpAny_bind (wpAny_bind (m := Builtin.Tuple.tupleExact _) (wpAny_newObj_type (wpAny_pure ⟨_, rfl, wpAny_pure h⟩) htake))
end
end HT
namespace L2
open PySem PySem.Spec PyProof.Rows
section
variable {X : Cx}
def tRevT (K : PySem.W.Frag) (te : TE) : TE := fun σ H Q => te σ H fun x H1 => ∃ a xs, x = .ref a ∧ SqT K H1 a xs ∧ ∀ p, H1 p = none → Q (.ref p) (upd H1 p (.tup xs.reverse))
theorem pe_revT {e : Expr} {te : TE} {k : Nat} {p1 p2 p3 pos : Pos} (he : PE X e te) : PE X (.Subscript e (.Slice none none (some (.UnaryOp .USub (.Constant (.int 1) k p1) p2)) p3) pos) (tRevT X.K te) := by
  refine ⟨fun pins s σ H Q I h => ?_⟩
  refine Subscript_ (thn (he.run pins s σ H _ I h) fun v s1 ⟨x, H1, I1, r1, q1⟩ => ?_)
  obtain ⟨a, xs, ex, hx, q⟩ := q1
  subst ex
  cases r1
  have hst : PO X (some (.UnaryOp .USub (.Constant (.int 1) k p1) p2)) (tPart (tUn (rU fun i => .int (-i)) (tC (.int 1)))) := po_some (pe_un un_neg pe_int)
  refine wpAny_Slice (thn (po_none.run pins s1 σ H1 (fun o H2 => o = none ∧ H2 = H1) I1 ⟨rfl, rfl⟩) fun vl s2 ⟨l, H2, I2, pl, el, e2⟩ => ?_)
  subst el e2
  refine thn (po_none.run pins s2 σ H2 (fun o H3 => o = none ∧ H3 = H2) I2 ⟨rfl, rfl⟩) fun vu s3 ⟨u, H3, I3, pu, eu, e3⟩ => ?_
  subst eu e3
  refine thn (hst.run pins s3 σ H3 (fun o H4 => o = some (-1) ∧ H4 = H3) I3 ⟨1, rfl, -1, rfl, rfl, rfl⟩) fun vs s4 ⟨o, H4, I4, ps, eo, e4⟩ => ?_
  subst eo e4
  cases pl
  cases pu
  have I5 : Inv X pins σ H4 { s4 with heap := s4.heap.push { cls := .type "slice", data := .fields #[.none, .none, vs] } } := I4.kept (t' := s4.toks) fun b ob q => Heap.get?_push_of_some _ q
  obtain ⟨its, r, ht, hz⟩ := I5.tuple hx
  have hlen := r.length
  show wpAny (model X.prog X.w) X.A (subscriptTail e (.Slice none none (some (.UnaryOp .USub (.Constant (.int 1) k p1) p2)) p3) (.ref a) (.ref s4.heap.objs.size)) (EP X pins σ Q) X.xe { s4 with heap := s4.heap.push { cls := .type "slice", data := .fields #[.none, .none, vs] } }
  refine tail_any (ops := [.ref a, .ref s4.heap.objs.size]) ht.typeIs (PyProof.Rows.slot_tuple_getitem.lookup) ?_ (by with_unfolding_all rfl)
  refine HT.getItem_tuple_rev ht (Heap.IsSliceOf.new _ .none .none vs) ps ?_ (by rw [List.size_toArray]; omega)
  refine ⟨.ref _, _, I5.laid (t' := s4.toks) (o := .tup xs.reverse) (fun b ob q => Heap.get?_push_of_some _ q) (Nat.le_refl _) ?_, rfl, q _ (I5.hok.fresh (Nat.le_refl _))⟩
  exact ⟨by rw [List.length_reverse]; exact hz, _, r.reverse, IsTup.new _ _⟩
/-- how many different ints -/
def dist (ns : List Int) : Nat := (PyProof.Rows.firstMet (fun i => ns.getD i 0) ns.length).length
def tLenSetJ (K : PySem.W.Frag) (ta : TE) : TE := fun σ H Q => ta σ H fun x H1 => ∃ (l : Addr) (ns : List Int), x = .ref l ∧ SqL K H1 l (ns.map V.int) ∧ ns.length ≤ 4000 ∧ Q (.int (dist ns : Nat)) H1
theorem pe_lenSetJ {a : Expr} {ta : TE} {p p2 q pos : Pos} (hc : X.calm = true) (hg : Gl X "len") (hm : X.mg "len" = none) (hg2 : Gl X "set") (hm2 : X.mg "set" = none) (ha : PE X a ta)
    (na : starEach [a] X.env = (false, eval a X.env) :: starEach [] X.env := by rfl) : PE X (.Call (.Name "len" p) [.Call (.Name "set" p2) [a] [] q] [] pos) (tLenSetJ X.K ta) := by
  refine ⟨fun pins s σ H Q I h => ?_⟩
  refine Call_ (ld_blt I hg hm PySem.boot_len ?_)
  refine PyProof.Rows.callWith_builtin1 (PyProof.Rows.args_cons ?_ rfl) rfl rfl
  refine Call_ (ld_blt I hg2 hm2 PyProof.Rows.boot_set ?_)
  refine PyProof.Rows.callWith_type1 (PyProof.Rows.args_cons (thn (ha.run pins s σ H _ I h) fun v s1 ⟨x, H1, I1, r1, q1⟩ => PyProof.Rows.args_nil ?_) na) na rfl
  obtain ⟨l, ns, rfl, hq, hl, q1⟩ := q1
  cases r1
  obtain ⟨its, r, pl, hz⟩ := I1.list hq
  have hlen : its.toArray.size = ns.length := by rw [List.size_toArray, ← r.length, List.length_map]
  refine call_set_list (I1.ok.hd hc) pl.isList (ns := ns) (by simpa using r.ints) (by rw [hlen]; unfold scanBound; omega) fun h' tk hS hk => ?_
  refine PyProof.Rows.args_nil ?_
  rw [hlen] at hS
  have hd0 := PyProof.Rows.firstMet_length_le (fun i => ns.getD i 0) ns.length
  obtain ⟨o, es, ep, t, ho, hex, hd, _, _, _, hf, hn⟩ := hS
  have I2 : Inv X pins σ H1 { s1 with heap := h', toks := tk } := I1.kept fun b o e => hk b o (Heap.lt_size e) e
  exact call_len_set ho hex hd hf (by rw [hn]; omega) ⟨.int (dist ns : Nat), H1, I2.tok _, ⟨_, by rw [hn]; rfl⟩, q1⟩
end
end L2
namespace Z
open PySem L2
def mRevT (m : ME) : ME := fun ρ => bnd (m ρ) fun d S => match d with
  | .tup xs => some (.tup xs.reverse, S)
  | _ => none
def mLenSetJ (m : ME) : ME := fun ρ => bnd (m ρ) fun d S => (asLC S d).bind fun xs => (intsOf xs).bind fun ns => if ns.length ≤ 4000 then some (.int (dist ns : Nat), S) else none
section
variable {X : Cx}
theorem sn_revT {e : Expr} {m : ME} {k : Nat} {p1 p2 p3 pos : Pos} (he : Sn X e m) : Sn X (.Subscript e (.Slice none none (some (.UnaryOp .USub (.Constant (.int 1) k p1) p2)) p3) pos) (mRevT m) :=
  pe_imp (pe_revT he) fun σ H Q ⟨B, al, S, ρ, d', S', R, er, hm, q⟩ => by
    obtain ⟨d, S1, h1, h2⟩ := bnd_some hm
    refine ⟨B, al, S, ρ, d, S1, R, er, h1, fun v al1 H1 R1 x1 r1 => ?_⟩
    cases r1 with
    | tup a xs vs ha ra =>
      cases h2
      refine ⟨a, vs, rfl, .of ha, fun p hp => ?_⟩
      obtain ⟨x4, R4⟩ := R1.side (o := .tup vs.reverse) hp
      exact q _ al1 _ R4 (x1.trans x4) (.tup p _ _ upd_same (ra.rev.mono R1 x4))
    | _ => cases h2
theorem sn_lensetJ {a : Expr} {m : ME} {p p2 q pos : Pos} (hc : X.calm = true) (hg : Gl X "len") (hm : X.mg "len" = none) (hg2 : Gl X "set") (hm2 : X.mg "set" = none) (ha : Sn X a m)
    (na : starEach [a] X.env = (false, eval a X.env) :: starEach [] X.env := by rfl) : Sn X (.Call (.Name "len" p) [.Call (.Name "set" p2) [a] [] q] [] pos) (mLenSetJ m) :=
  pe_imp (pe_lenSetJ hc hg hm hg2 hm2 ha na) fun σ H Q ⟨B, al, S, ρ, z, S', R, er, hm, q⟩ => by
    obtain ⟨d, S1, h1, h2⟩ := bnd_some hm
    refine ⟨B, al, S, ρ, d, S1, R, er, h1, fun v al1 H1 R1 x1 r1 => ?_⟩
    cases hx : asLC S1 d with
    | none => rw [hx] at h2; cases h2
    | some xs =>
      rw [hx] at h2
      simp only [Option.bind_some] at h2
      cases hy : intsOf xs with
      | none => rw [hy] at h2; cases h2
      | some ns =>
        rw [hy] at h2
        simp only [Option.bind_some] at h2
        split at h2
        · rename_i hk
          cases h2
          obtain ⟨b, us, rfl, hb, rb⟩ := asLC_rep R1 r1 hx
          obtain ⟨e, _⟩ := ints_rep rb hy
          exact ⟨b, ns, rfl, by rw [← e]; exact hb, hk, q _ al1 H1 R1 x1 (.int _)⟩
        · cases h2
theorem wp_mLenSetJ {m : ME} {ρ : Env} {S : Store} {Q : D → Store → Prop} (h : wp (m ρ) S fun d S1 => ∃ xs, asLC S1 d = some xs ∧ ∃ ns, intsOf xs = some ns ∧ ns.length ≤ 4000 ∧ Q (.int (dist ns : Nat)) S1) : wp (mLenSetJ m ρ) S Q := by
  unfold mLenSetJ
  rw [wp_bnd]
  obtain ⟨d, S1, h, xs, hx, ns, hy, hk, q⟩ := h
  refine ⟨d, S1, h, _, S1, ?_, q⟩
  dsimp only
  rw [hx]
  simp only [Option.bind_some, hy]
  rw [if_pos hk]
theorem wp_mRevT {m : ME} {ρ : Env} {S : Store} {Q : D → Store → Prop} (h : wp (m ρ) S fun d S1 => ∃ xs, d = .tup xs ∧ Q (.tup xs.reverse) S1) : wp (mRevT m ρ) S Q := by
  unfold mRevT
  rw [wp_bnd]
  obtain ⟨d, S1, h, xs, rfl, q⟩ := h
  exact ⟨_, S1, h, _, S1, rfl, q⟩
end
/-- fewer different ones exactly where one is there twice -/
theorem step_len {l : List Int} {x : Int} : (PyProof.Rows.step_dedup l x).length = if x ∈ l then l.length else l.length + 1 := by
  unfold PyProof.Rows.step_dedup
  by_cases h : x ∈ l
  · have : l.any (· == x) = true := List.any_eq_true.mpr ⟨x, h, by simp⟩
    rw [if_pos this, if_pos h]
  · have : ¬ l.any (· == x) = true := fun e => by
      obtain ⟨y, hy, e2⟩ := List.any_eq_true.mp e
      rw [beq_iff_eq] at e2
      rw [e2] at hy
      exact h hy
    rw [if_neg this, if_neg h]
    simp
theorem fm_mem (val : Nat → Int) (i : Nat) (x : Int) : x ∈ PyProof.Rows.firstMet val i ↔ x ∈ (List.range i).map val := by
  have h := PyProof.Rows.firstMet_any val i x
  have e : ∀ l : List Int, l.any (· == x) = true ↔ x ∈ l := fun l => by
    rw [List.any_eq_true]
    constructor
    · rintro ⟨y, hy, e2⟩
      rw [beq_iff_eq] at e2
      rwa [e2] at hy
    · exact fun hx => ⟨x, hx, by simp⟩
  rw [← e, ← e, h]
theorem fm_full (val : Nat → Int) : ∀ n, (PyProof.Rows.firstMet val n).length = n ↔ ((List.range n).map val).Nodup
  | 0 => by simp [PyProof.Rows.firstMet_zero]
  | n + 1 => by
    have ih := fm_full val n
    have hle := PyProof.Rows.firstMet_length_le val n
    have hm := fm_mem val n (val n)
    rw [PyProof.Rows.firstMet_succ, step_len, List.range_succ, List.map_append, List.nodup_append]
    by_cases h : val n ∈ PyProof.Rows.firstMet val n
    · rw [if_pos h]
      constructor
      · intro e; omega
      · rintro ⟨_, _, h3⟩
        exact (h3 _ (hm.mp h) (val n) (by simp) rfl).elim
    · rw [if_neg h]
      constructor
      · intro e
        refine ⟨ih.mp (by omega), by simp, fun a ha b hb => ?_⟩
        simp at hb
        subst hb
        intro e2
        subst e2
        exact h (hm.mpr ha)
      · rintro ⟨h1, _, _⟩
        have := ih.mpr h1
        omega
theorem dist_full {ns : List Int} : dist ns = ns.length ↔ ns.Nodup := by
  have := fm_full (fun i => ns.getD i 0) ns.length
  have e : (List.range ns.length).map (fun i => ns.getD i 0) = ns := by
    refine List.ext_getElem (by simp) fun i h1 h2 => ?_
    simp
    rw [List.getElem?_eq_getElem h2]
    rfl
  rw [e] at this
  exact this
theorem dist_le {ns : List Int} : dist ns ≤ ns.length := PyProof.Rows.firstMet_length_le _ _
end Z
set_option Elab.async false
set_option linter.all false
set_option maxRecDepth 100000
/-! sorted of a list of any data that are alike, of any length. -/
namespace L2
open PySem PySem.Spec PyProof.Rows
/-- sorted(xs), data that are alike -/
def rSortedG (K : PySem.W.Frag) : List V → Hp → VK → Prop := fun vs H Q => ∃ (a : Addr) (β : Type) (zs : List β) (fv : β → V) (enc : β → PyData), vs = [V.ref a] ∧ SqL K H a (zs.map fv) ∧ (∀ z ∈ zs, Dp K H (fv z) (enc z)) ∧
  PySem.W.AllAlike (zs.map enc) ∧ PySem.W.Sortable (zs.map enc) ∧ (∀ z ∈ zs, (enc z).depth ≤ 60) ∧
  ∀ p : Addr, H p = none → Q (.ref p) (upd H p (.lst ((zs.mergeSort (PySem.W.dataLe false enc)).map fv)))
theorem each_of {K : PySem.W.Frag} {β : Type} {fv : β → V} : ∀ {zs : List β} {its : List Value}, Vals (zs.map fv) its → PySem.W.EachIs (fun v (b : β) => RelV (fv b) v) its zs
  | [], _, r => by cases r; exact .nil
  | z :: zs, _, r => by cases r with | cons h r => exact .cons h (each_of (K := K) r)
theorem each_to {β : Type} {fv : β → V} : ∀ {zs : List β} {its : List Value}, PySem.W.EachIs (fun v (b : β) => RelV (fv b) v) its zs → Vals (zs.map fv) its
  | _, _, .nil => .nil
  | _, _, .cons h r => .cons h (each_to r)
theorem cr_sortedG {X : Cx} (hu : X.A.units + 64 < cLine) : CallR X (.builtin "sorted") (rSortedG X.K) := by
  intro pins s σ H vs us Q I r h
  obtain ⟨a, β, zs, fv, enc, rfl, hs, hd, hal, hk, hdep, q⟩ := h
  obtain ⟨its, rv, hl, hz⟩ := I.list hs
  rw [Vals.ref1 r]
  have e := each_of (K := X.K) rv
  have er : PySem.W.EachIs (fun v (b : β) => ∃ as, Reads s.heap v (enc b) as) its zs := by
    refine PySem.W.EachIs.of_zip e.length fun p hp => ?_
    have h1 := e.zip p hp
    exact Dp.reads I _ _ _ (hd p.2 (List.of_mem_zip hp).2) h1
  have hlen : zs.length ≤ sizeLine := by simpa using hz
  refine PySem.W.sorted_data (vs := its) (bs := zs) (enc := enc) hl.isList e er hal hk hlen (fun b hb => by have := hdep b hb; omega) fun out ho eo => ?_
  obtain ⟨ep, he'⟩ := PyProof.Rows.sortedAll_at s.heap its out.toArray
  have rv2 := each_to eo
  have hl2 : ((zs.mergeSort (PySem.W.dataLe false enc)).map fv).length ≤ sizeLine := by
    rw [List.length_map, List.length_mergeSort]; exact hlen
  exact ⟨.ref _, upd H (s.heap.objs.size + 1) (.lst ((zs.mergeSort (PySem.W.dataLe false enc)).map fv)), I.laid (t' := s.toks) (fun _ _ => PyProof.Rows.sortedAll_old) (Nat.le_succ _) ⟨hl2, out, ep, rv2, he'⟩, rfl, q _ (I.hok.fresh (Nat.le_succ _))⟩
end L2
namespace Z
open PySem L2
def tupN : PyData → Bool
  | .tuple (_ :: _) => true
  | _ => false
def plN : PyData → Bool
  | .none => false
  | .tuple _ => false
  | _ => true
def sortOk (ds : List D) : Bool := ds.all (fun d => nr d && decide ((toP d).depth ≤ 60)) && (ds.all (fun x => ds.all fun y => PySem.W.alike (toP x) (toP y)) && (ds.all (fun d => tupN (toP d)) || ds.all fun d => plN (toP d)))
def srtG (ds : List D) : List D := ds.mergeSort (PySem.W.dataLe false toP)
def cSortG (ds : List D) : M (List D) := fun S => match ds with
  | [x] => (asLC S x).bind fun xs => if sortOk xs = true then some (srtG xs, S) else none
  | _ => none
theorem rl_zip {K : PySem.W.Frag} {B : Addr → Prop} {al : List Addr} {H : Hp} : ∀ {ds : List D} {vs : List V}, RL K B al H ds vs → ∀ p ∈ ds.zip vs, RV K B al H p.1 p.2
  | _, _, .nil, _, h => by simp at h
  | _, _, .cons d v ds vs h r, p, hp => by
    rw [List.zip_cons_cons] at hp
    rcases List.mem_cons.mp hp with rfl | hp
    · exact h
    · exact rl_zip r p hp
theorem rl_of_zip {K : PySem.W.Frag} {B : Addr → Prop} {al : List Addr} {H : Hp} : ∀ {zs : List (D × V)}, (∀ p ∈ zs, RV K B al H p.1 p.2) → RL K B al H (zs.map (·.1)) (zs.map (·.2))
  | [], _ => .nil
  | z :: zs, h => .cons _ _ _ _ (h z List.mem_cons_self) (rl_of_zip fun p hp => h p (List.mem_cons_of_mem _ hp))
theorem c_sortG {K : PySem.W.Frag} : CRF K (rSortedG K) cSortG := fun B al S H ds zs vs S' R r1 h Q q => by
  unfold cSortG at h
  split at h
  · rename_i x
    cases hx : asLC S x with
    | none => rw [hx] at h; cases h
    | some xs =>
      rw [hx] at h
      simp only [Option.bind_some] at h
      split at h
      · rename_i hok
        cases h
        obtain ⟨v, rfl, rv⟩ := rl_one r1
        obtain ⟨a, us, rfl, hsq, ru⟩ := asLC_rep R rv hx
        simp only [sortOk, Bool.and_eq_true, List.all_eq_true, decide_eq_true_eq, Bool.or_eq_true] at hok
        obtain ⟨h1, h2, h3⟩ := hok
        have hl := ru.len
        have e1 : (xs.zip us).map (·.1) = xs := List.map_fst_zip (by omega)
        have e2 : (xs.zip us).map (·.2) = us := List.map_snd_zip (by omega)
        have hz := rl_zip ru
        have mem1 : ∀ p ∈ xs.zip us, p.1 ∈ xs := fun p hp => (List.of_mem_zip hp).1
        have e3 : (((xs.zip us).mergeSort (PySem.W.dataLe false fun p : D × V => toP p.1)).map (·.1)) = srtG xs := by
          have e4 := PySem.W.sort_maps (r := PySem.W.dataLe false fun p : D × V => toP p.1) (s := PySem.W.dataLe false toP) (fun p : D × V => p.1) (l := xs.zip us) (fun _ _ _ _ => rfl)
          rw [e1] at e4
          exact e4
        refine ⟨a, D × V, xs.zip us, (·.2), fun p => toP p.1, rfl, by rw [e2]; exact hsq, fun p hp => dp_of (hz p hp) (h1 _ (mem1 p hp)).1, ?_, ?_, fun p hp => (h1 _ (mem1 p hp)).2, fun p hp => ?_⟩
        · intro d hd d' hd'
          obtain ⟨z, hz1, rfl⟩ := List.mem_map.mp hd
          obtain ⟨z', hz2, rfl⟩ := List.mem_map.mp hd'
          exact h2 _ (mem1 z hz1) _ (mem1 z' hz2)
        · rcases h3 with h3 | h3
          · refine .inl fun d hd => ?_
            obtain ⟨z, hz1, rfl⟩ := List.mem_map.mp hd
            have := h3 _ (mem1 z hz1)
            unfold tupN at this
            split at this
            · rename_i x r e
              exact ⟨_, _, e⟩
            · cases this
          · refine .inr fun d hd => ?_
            obtain ⟨z, hz1, rfl⟩ := List.mem_map.mp hd
            have := h3 _ (mem1 z hz1)
            unfold plN at this
            split at this
            · cases this
            · cases this
            · rename_i n1 n2
              exact ⟨n1, fun xs e => n2 xs e⟩
        · obtain ⟨x, R1⟩ := R.ban (o := .lst (((xs.zip us).mergeSort (PySem.W.dataLe false fun p : D × V => toP p.1)).map (·.2))) hp
          refine q p _ al _ R1 x hp upd_same ?_
          rw [← e3]
          refine ((rl_of_zip fun z hz2 => ?_).ban hp).monoN R.nt x
          exact hz z ((List.mergeSort_perm _ _).mem_iff.mp hz2)
      · cases h
  · cases h
theorem wp_cSortG {d : D} {xs : List D} {S : Store} {Q : List D → Store → Prop} (h : asLC S d = some xs) (h2 : sortOk xs = true) (q : Q (srtG xs) S) : wp (cSortG [d]) S Q := ⟨_, _, by simp only [cSortG, h, Option.bind_some, h2, if_true], q⟩
end Z
set_option Elab.async false
set_option linter.all false
set_option maxRecDepth 100000
set_option maxHeartbeats 4000000
/-! sorted(set(list or tuple of whole numbers)). -/
namespace L2
open PySem PySem.Spec PyProof.Rows
abbrev set0 (w : World) : Obj := { cls := .type "set", dict := none, data := .set #[] 0 (.fresh 0 0 (!w.params.followText "set-order")) }
section
variable {P : Program} {w : World} {A : Around} {E : Value → Shared → Prop} {s : Shared}
/-- the set's own filling from a list -/
theorem set_fill {l : Addr} {xs : Array Value} {ns : List Int} (hh : A.handled = none) (hl : s.heap.IsList l xs) (hi : IntsAre xs.toList ns) (hb : ns.length + 1 < scanBound) :
    let h1 := s.heap.push (set0 w)
    codeAny (model P w) A (.call (.builtin "set.__init__") ⟨[.ref s.heap.objs.size, .ref l], []⟩) (wants (fun r s2 => r = .none ∧ ∃ h' tk c, s2 = { s with heap := h', toks := tk } ∧ SetR w h' s.heap.objs.size (fun j => decide (j ∈ ns)) c ∧ c ≤ ns.length ∧ ∀ b o, s.heap.get? b = some o → h'.get? b = some o) E) { s with heap := h1 } := by
  intro h1
  have e0 : h1.get? s.heap.objs.size = some (set0 w) := Heap.get?_push_size _ rfl
  have ty : Shared.TypeIs { s with heap := h1 } (.ref s.heap.objs.size) "set" := ⟨_, e0, rfl⟩
  have hsz : xs.size = ns.length := by have q := IntsAre.length hi; rwa [Array.length_toList] at q
  have hlt : l < s.heap.objs.size := by obtain ⟨o, ho, _⟩ := hl; exact Heap.lt_size ho
  have hl1 : h1.IsList l xs := hl.push _
  have z1 : h1.objs.size = s.heap.objs.size + 1 := Heap.size_push ..
  refine codeAny_call_builtin F.called_set.init.plain F.entry_set_init (check_set_init_1 ty ?_)
  obtain ⟨⟨ocls, od, odat, osl⟩, ho, hc, n, hd⟩ := hl1
  simp only at hc hd
  subst hc; subst hd
  have s1 := F.sub_list_set
  have s2 := F.sub_list_frozenset
  have s3 : (Value.type "list" == Value.type "dict") = false := by decide
  have hl1 : h1.IsList l xs := ⟨_, ho, rfl, n, rfl⟩
  unfold Builtin.«set.__init__» noKeywords Builtin.Frozenset.updateFrom
  generalize hPI : pyIter = PI
  wp_walk
  subst hPI
  refine wpAny_pyIter_list hl1 (wpAny_bind (wpAny_runValue ?_))
  refine set_update_ints ((Walks.list (by simp [hh]) _ l (by rw [z1]; exact Nat.ne_of_lt (Nat.lt_succ_of_lt hlt)) xs).toS) s.heap.objs.size (by rw [z1]; simp only [List.mem_cons, List.not_mem_nil, or_false, not_or]; exact ⟨Nat.ne_of_lt (Nat.lt_succ_self _), Nat.ne_of_gt hlt⟩) ns hsz hb (fun i v hv => ?_) (xs.size - 0) 0 _ (by omega) (Nat.zero_le _)
    ⟨⟨_, Heap.get?_push_size _ rfl, rfl, rfl⟩, hl1.push _⟩ ⟨0, Nat.le_refl 0, setR_new_at (Heap.get?_push_of_some _ e0)⟩ fun s' c hm hcl hS => ?_
  · have hin : i < ns.length := by rw [← hsz]; exact (Array.getElem?_eq_some_iff.mp hv).1
    obtain ⟨t, e⟩ := PyProof.Rows.IntsAre.int_at hi i v (by rw [Array.getElem?_toList]; exact hv)
    exact ⟨ns[i], t, List.getElem?_eq_getElem hin, by rw [e, List.getD_eq_getElem?_getD, List.getElem?_eq_getElem hin] <;> rfl⟩
  · obtain ⟨h2, g2, d2, t2, o2⟩ := s'
    cases (show g2 = s.gens from hm.gens)
    cases (show d2 = s.drawn from hm.drawn)
    cases (show o2 = s.os from hm.os)
    refine wpAny_pure ?_
    rw [hsz] at hcl
    refine wpAny_pure ⟨rfl, h2, t2, c, rfl, hS, hcl, fun b o e => ?_⟩
    have hb0 := Heap.lt_size e
    refine hm.heap b o ?_ (Heap.get?_push_of_some _ (Heap.get?_push_of_some _ e))
    rw [z1]
    simp only [List.mem_cons, List.not_mem_nil, or_false, not_or]
    exact ⟨Nat.ne_of_lt hb0, Nat.ne_of_lt (Nat.lt_succ_of_lt hb0)⟩
/-- set(list of ints) -/
theorem set_ofList {l : Addr} {xs : Array Value} {ns : List Int} {Q : Value → Shared → Prop} (hh : A.handled = none) (hl : s.heap.IsList l xs) (hi : IntsAre xs.toList ns) (hb : ns.length + 1 < scanBound)
    (h : ∀ (h' : Heap) (tk c : Nat), SetR w h' s.heap.objs.size (fun j => decide (j ∈ ns)) c → c ≤ ns.length → (∀ b o, s.heap.get? b = some o → h'.get? b = some o) → Q (.ref s.heap.objs.size) { s with heap := h', toks := tk }) :
    wpAny (model P w) A (call (.type "set") [.ref l]) Q E s := by
  obtain ⟨c0, tl, g1⟩ := F.called_set.mro
  have g2 := F.called_set.made
  have g3 := F.called_set.sub
  have g4 := F.called_set.notType
  have g5 := F.called_set.canCreate
  have g6 := F.typeCall_set_1 (.ref l)
  refine wpAny_call (codeAny_of_tree ?_)
  show wpAny _ _ (callAny (.type "set") _) _ _ _
  refine wpAny_pure ⟨Code.quiet_builtin _ (by decide +kernel), codeAny_builtin F.entry_type_call ?_⟩
  rw [Around.under_plain (weight_type_call_type "set" [.ref l] []) rfl]
  repeat (any_goals (first | assumption | wp_step))
  refine codeAny_mono (code_set_led1 (.ref l) (E := E) (Q₁ := fun y t => y = .ref s.heap.objs.size ∧ t = { s with heap := s.heap.push (set0 w) }) ⟨rfl, rfl⟩) fun r t hr => ?_
  cases r with
  | error e => exact hr
  | ok fl =>
    cases fl with
    | ret y =>
      obtain ⟨rfl, rfl⟩ := hr
      have e0 : (s.heap.push (set0 w)).get? s.heap.objs.size = some (set0 w) := Heap.get?_push_size _ rfl
      have ty : Shared.TypeIs { s with heap := s.heap.push (set0 w) } (.ref s.heap.objs.size) "set" := ⟨_, e0, rfl⟩
      have g7 := F.called_set.init.lookup
      have g8 := F.called_set.init.bind (.ref s.heap.objs.size)
      repeat (any_goals (first | assumption | wp_step))
      refine codeAny_mono (set_fill (E := E) (by simp [hh]) hl hi hb) fun r2 t2 hr2 => ?_
      cases r2 with
      | error e => exact hr2
      | ok fl2 =>
        cases fl2 with
        | ret r =>
          obtain ⟨rfl, h', tk, c, rfl, q1, q2, q3⟩ := hr2
          repeat (any_goals (first | assumption | wp_step))
          exact h _ _ _ q1 q2 q3
        | _ => exact hr2.elim
    | _ => exact hr.elim
end
/-- sorted(set(a)), a a list or a tuple of whole numbers -/
def tSortSet (K : PySem.W.Frag) (ta : TE) : TE := fun σ H Q => ta σ H fun x H1 => ∃ (l : Addr) (ns : List Int), x = .ref l ∧ (SqL K H1 l (ns.map V.int) ∨ SqT K H1 l (ns.map V.int)) ∧ ns.length < 64 ∧
  ∀ (ms : List Int) (p : Addr), ms.Pairwise (· < ·) → (∀ k : Int, k ∈ ms ↔ k ∈ ns) → H1 p = none → Q (.ref p) (upd H1 p (.lst (ms.map V.int)))
theorem pe_sortSet {X : Cx} {a : Expr} {ta : TE} {p p2 q pos : Pos} (hc : X.calm = true) (hg : Gl X "sorted") (hm : X.mg "sorted" = none) (hg2 : Gl X "set") (hm2 : X.mg "set" = none) (ha : PE X a ta)
    (na : starEach [a] X.env = (false, eval a X.env) :: starEach [] X.env := by rfl) : PE X (.Call (.Name "sorted" p) [.Call (.Name "set" p2) [a] [] q] [] pos) (tSortSet X.K ta) := by
  refine ⟨fun pins s σ H Q I h => ?_⟩
  refine Call_ (ld_blt I hg hm (show bootBuiltins "sorted" = some (.builtin "sorted") by decide +kernel) ?_)
  refine PyProof.Rows.callWith_builtin1 (PyProof.Rows.args_cons ?_ rfl) rfl rfl
  refine Call_ (ld_blt I hg2 hm2 PyProof.Rows.boot_set ?_)
  refine PyProof.Rows.callWith_type1 (PyProof.Rows.args_cons (thn (ha.run pins s σ H _ I h) fun v s1 ⟨x, H1, I1, r1, q1⟩ => PyProof.Rows.args_nil ?_) na) na rfl
  obtain ⟨l, ns, rfl, hq, hl, q1⟩ := q1
  cases r1
  have fin : ∀ (h' : Heap) (tk c : Nat), SetR X.w h' s1.heap.objs.size (fun j => decide (j ∈ ns)) c → c ≤ ns.length → (∀ b o, s1.heap.get? b = some o → h'.get? b = some o) →
      wpAny (model X.prog X.w) X.A (call (.builtin "sorted") [.ref s1.heap.objs.size]) (fun v s2 => ∃ x H2, Inv X pins σ H2 s2 ∧ RelV x v ∧ Q x H2) X.xe { s1 with heap := h', toks := tk } := by
    intro h' tk c R hcl hk
    have I2 : Inv X pins σ H1 { s1 with heap := h', toks := tk } := I1.kept fun b o e => hk b o e
    refine sorted_set R (I.ok.hd hc) (by omega) fun s' p out c2 ms k g o hp hgp hi hs hmem hlen => ?_
    have hlen2 : (ms.map V.int).length ≤ sizeLine := by rw [List.length_map, hlen, sizeLine_eq]; omega
    have hn : H1 p = none := I2.hok.fresh hp
    have J : Inv X pins σ (upd H1 p (.lst (ms.map V.int))) { { s1 with heap := h', toks := tk } with heap := s'.heap, gens := s'.gens, drawn := s'.drawn, toks := s'.toks } :=
      I2.call (ch := []) (Un.laid k hp hn) (I2.hok.laid k hp ⟨hlen2, out.toList, c2, vals_of_ints hi, hgp⟩) (by rw [g]; exact I2.bare) (fun _ z => nomatch z)
    have e : s' = { { s1 with heap := h', toks := tk } with heap := s'.heap, gens := s'.gens, drawn := s'.drawn, toks := s'.toks } := by
      cases s'; cases o; rfl
    rw [e]
    exact ⟨.ref p, _, J, rfl, q1 ms p hs (fun k => by rw [hmem k]; simp) hn⟩
  rcases hq with hq | hq
  · obtain ⟨its, r, pl, hz⟩ := I1.list hq
    refine set_ofList (I1.ok.hd hc) pl.isList (ns := ns) (by simpa using r.ints) (by unfold scanBound; omega) fun h' tk c R hcl hk => ?_
    exact PyProof.Rows.args_nil (fin h' tk c R hcl hk)
  · obtain ⟨its, r, pl, hz⟩ := I1.tuple hq
    refine call_set_tupI ns (I1.ok.hd hc) pl (by simpa using r.ints) (by unfold scanBound; omega) fun h' tk c R hcl hk => ?_
    exact PyProof.Rows.args_nil (fin h' tk c R hcl hk)
end L2
namespace Z
open PySem L2
/-- the different ones, ascending -/
def insU (x : Int) : List Int → List Int
  | [] => [x]
  | y :: l => if x < y then x :: y :: l else if x = y then y :: l else y :: insU x l
def srtU : List Int → List Int
  | [] => []
  | x :: l => insU x (srtU l)
theorem insU_mem {x k : Int} : ∀ {l : List Int}, k ∈ insU x l ↔ k = x ∨ k ∈ l
  | [] => by simp [insU]
  | y :: l => by
    unfold insU
    split
    · simp
    · split
      · rename_i h1 h2; subst h2; simp
      · simp only [List.mem_cons, insU_mem (l := l)]
        constructor
        · rintro (h | h | h)
          · exact .inr (.inl h)
          · exact .inl h
          · exact .inr (.inr h)
        · rintro (h | h | h)
          · exact .inr (.inl h)
          · exact .inl h
          · exact .inr (.inr h)
theorem insU_asc {x : Int} : ∀ {l : List Int}, l.Pairwise (· < ·) → (insU x l).Pairwise (· < ·)
  | [], _ => by simp [insU]
  | y :: l, h => by
    have h1 := List.pairwise_cons.mp h
    unfold insU
    split
    · rename_i hx
      refine List.pairwise_cons.mpr ⟨fun z hz => ?_, h⟩
      rcases List.mem_cons.mp hz with rfl | hz
      · exact hx
      · have := h1.1 z hz; omega
    · split
      · exact h
      · refine List.pairwise_cons.mpr ⟨fun z hz => ?_, insU_asc h1.2⟩
        rcases insU_mem.mp hz with rfl | hz
        · omega
        · exact h1.1 z hz
theorem srtU_mem {k : Int} : ∀ {l : List Int}, k ∈ srtU l ↔ k ∈ l
  | [] => by simp [srtU]
  | x :: l => by simp [srtU, insU_mem, srtU_mem (l := l)]
theorem srtU_asc : ∀ {l : List Int}, (srtU l).Pairwise (· < ·)
  | [] => by simp [srtU]
  | x :: l => insU_asc srtU_asc
theorem asc_uniq : ∀ {as bs : List Int}, as.Pairwise (· < ·) → bs.Pairwise (· < ·) → (∀ k, k ∈ as ↔ k ∈ bs) → as = bs
  | [], [], _, _, _ => rfl
  | [], b :: bs, _, _, h => by have := (h b).mpr (by simp); simp at this
  | a :: as, [], _, _, h => by have := (h a).mp (by simp); simp at this
  | a :: as, b :: bs, ha, hb, h => by
    have a1 := List.pairwise_cons.mp ha
    have b1 := List.pairwise_cons.mp hb
    have e : a = b := by
      rcases List.mem_cons.mp ((h a).mp List.mem_cons_self) with e | m
      · exact e
      · rcases List.mem_cons.mp ((h b).mpr List.mem_cons_self) with e | m2
        · exact e.symm
        · have := b1.1 a m
          have := a1.1 b m2
          omega
    subst e
    rw [asc_uniq a1.2 b1.2 fun k => ?_]
    constructor
    · intro hk
      rcases List.mem_cons.mp ((h k).mp (List.mem_cons_of_mem _ hk)) with e | m
      · have := a1.1 k hk; omega
      · exact m
    · intro hk
      rcases List.mem_cons.mp ((h k).mpr (List.mem_cons_of_mem _ hk)) with e | m
      · have := b1.1 k hk; omega
      · exact m
def mSortSet (m : ME) : MA := fun ρ => bnd (m ρ) fun d S => (asSq S d).bind fun xs => (intsOf xs).bind fun ns => if ns.length < 64 then some ((srtU ns).map .int, S) else none
theorem sn_sortSet {X : Cx} {a : Expr} {m : ME} {p p2 q pos : Pos} (hc : X.calm = true) (hg : Gl X "sorted") (hm : X.mg "sorted" = none) (hg2 : Gl X "set") (hm2 : X.mg "set" = none) (ha : Sn X a m)
    (na : starEach [a] X.env = (false, eval a X.env) :: starEach [] X.env := by rfl) : SnF X (.Call (.Name "sorted" p) [.Call (.Name "set" p2) [a] [] q] [] pos) (mSortSet m) :=
  pe_imp (pe_sortSet hc hg hm hg2 hm2 ha na) fun σ H Q ⟨B, al, S, ρ, ds, S', R, er, hm, q⟩ => by
    obtain ⟨d, S1, h1, h2⟩ := bnd_some hm
    refine ⟨B, al, S, ρ, d, S1, R, er, h1, fun v al1 H1 R1 x1 r1 => ?_⟩
    cases hx : asSq S1 d with
    | none => rw [hx] at h2; cases h2
    | some xs =>
      rw [hx] at h2
      simp only [Option.bind_some] at h2
      cases hy : intsOf xs with
      | none => rw [hy] at h2; cases h2
      | some ns =>
        rw [hy] at h2
        simp only [Option.bind_some] at h2
        split at h2
        · rename_i hk
          cases h2
          obtain ⟨b, us, rfl, hb, rb⟩ := asSq_rep R1 r1 hx
          obtain ⟨e, _⟩ := ints_rep rb hy
          subst e
          refine ⟨b, ns, rfl, hb, hk, fun ms p hp1 hp2 hn => ?_⟩
          obtain rfl := asc_uniq hp1 srtU_asc fun k => by rw [hp2, srtU_mem]
          obtain ⟨x2, R2⟩ := R1.ban (o := .lst ((srtU ns).map V.int)) hn
          exact q p _ al1 _ R2 (x1.trans x2) (by
            cases h0 : H p with
            | none => rfl
            | some o =>
              by_cases ha : p ∈ al
              · have := R1.there (x1.pre.elim fun be e => by rw [e]; exact List.mem_append_left _ ha)
                obtain ⟨⟨u, e⟩, _⟩ := this
                rw [hn] at e; cases e
              · have := (x1.fr p o h0 ha).1
                rw [hn] at this; cases this) upd_same (rl_ints _)
        · cases h2
@[simp] theorem wp_mSortSet {m : ME} {ρ : Env} {S : Store} {Q} : wp (mSortSet m ρ) S Q ↔ wp (m ρ) S fun d S1 => ∃ xs, asSq S1 d = some xs ∧ ∃ ns, intsOf xs = some ns ∧ ns.length < 64 ∧ Q ((srtU ns).map .int) S1 := by
  unfold mSortSet
  rw [wp_bnd]
  constructor <;> intro h <;> refine wp_mono h fun d S1 h => ?_
  · obtain ⟨zs, S', e, q⟩ := h
    change ((asSq S1 d).bind fun xs => (intsOf xs).bind fun ns => if ns.length < 64 then some ((srtU ns).map D.int, S1) else none) = some (zs, S') at e
    cases hx : asSq S1 d with
    | none => rw [hx] at e; cases e
    | some xs =>
      rw [hx] at e
      simp only [Option.bind_some] at e
      cases hy : intsOf xs with
      | none => rw [hy] at e; cases e
      | some ns =>
        rw [hy] at e
        simp only [Option.bind_some] at e
        split at e
        · rename_i hk; cases e; exact ⟨xs, rfl, ns, hy, hk, q⟩
        · cases e
  · obtain ⟨xs, h1, ns, h2, h3, q⟩ := h
    exact ⟨_, S1, by simp only [h1, h2, h3, Option.bind_some, if_true], q⟩
end Z
set_option Elab.async false
set_option linter.all false
set_option maxRecDepth 100000
/-! try: if f(..) is not None: return False -- except C as e: return isinstance(e, A) -/
namespace Z
open PySem L2
open PyProof.Rows (envOfC)
/-- xc: the class that f raises, which the handler's class takes -/
def mTryIf (i : Nat) (f : FX) (m : MA) (xc : Str) : MS := fun ρ S => if i < ρ.length then match m ρ S with
  | none => none
  | some (ds, S1) => match f ds S1 with
    | none => none
    | some (.inl d, S2) => if isN d = true then some (.nx ρ, S2) else some (.rt (.bl false), S2)
    | some (.inr c, S2) => if c = xc then some (.rt (.bl true), S2) else none
  else none
theorem ss_tryIf {X : Cx} {W : Str → Hp → Prop} {kf j i : Nat} {xf xc xh nm : Str} {C Ch : Addr} {f : FX} {m : MA} {e er : Expr} {es : List Expr} {p1 p2 p3 p4 p5 p6 p7 p8 np pos pos' : Pos} {k1 k2 : _} {v1 : V} {c1 : Value}
    (cf : CalX X.prog X.w X.K X.mg X.base kf xf (spX X.K X.mg (e :: es).length f)) (hr : Room j X.A) (hkf : kf ≤ j) (xC : ExcN X.K X.mg xc C) (hgh : X.mg xh = some (.ref Ch)) (hex : PySem.W.exmOne X.K (.ref C) (.ref Ch) = some true)
    (hs : X.stack = X.env :: X.outer) (hf : X.env.frame = some X.env.locals) (hN : X.N.Nodup) (hi : X.N[i]? = some nm) (hln : X.env.kindOf nm = some .local) (hgc : Gl X xh) (hdc : (xh == PySem.Str.ofString "__debug__") = false) (hgf : Gl X xf)
    (hdf : (xf == PySem.Str.ofString "__debug__") = false)
    (ha : ∀ pn xe, Sa (X.tr pn xe) (e :: es) m)
    (hef : starEach (e :: es) X.env = (false, eval e X.env) :: starEach es X.env) (hpf : ((backTo p2 (starEach es X.env)).any fun x => x.fst) = false)
    (h1 : ∀ a oe pn, Zc (.ref C) none oe → (∃ vs, oe.data = .fields vs) → PE (X.suite a ((a, oe) :: pn)) er (tCB (rIsE X.K C a) (tCons (tVar i) (tCons (tC v1) tNil))))
    (q1 : ∀ u, RelV v1 u → u = c1) (q2 : PySem.W.kitOne X.K (.ref C) c1 = some true) :
    Ss X W (.Try [.If (.Compare (.Call (.Name xf p1) (e :: es) [] p2) [.IsNot] [.Constant .none k1 p3] p4) [.Return (some (.Constant (.bool false) k2 p5)) p6] [] p7] [.ExceptHandler (some (.Name xh np)) (some nm) [.Return (some er) p8] pos'] [] [] pos) (mTryIf i f m xc) := by
  obtain ⟨ff, fd, ps, F, hm, kp, b⟩ := cf.ex
  refine ps_imp (ps_try_as (i := i) (c := .ref Ch) (tb := fun W' => tIfS (tB (tOp (fun x y H Q => y = .non ∧ Q (.bl (!decide (x = .non))) H) (tCallS (spX X.K X.mg (e :: es).length f) (WE W') (tA X.K m)) (tC .non))) (tRet (tC (.bl false))) tNext)
    (ts := fun a cls d D σ H => cls = .ref C ∧ d = none ∧ σ[i]? = some (some (.ref a)) ∧ D.rt (.bl true) H) (Wout := fun _ _ _ _ => False) hs hf hN hi hln ⟨hgc, hdc, .inl hgh⟩ takes0
    (fun W' pn xe tk _ => pss_one (ps_if (X := X.tr pn xe) (pt_cmpR (X := X.tr pn xe) op_notN (pe_callS (X := X.tr pn xe) F (hr.mono hkf) hgf hm kp b (fun σ => passAt tk σ) (ha pn xe).run hdf hef hpf) pe_non (nomark _)) (pss_one (ps_ret pe_bl)) pss_nil))
    (fun a oe cls d pn hz hfl => ⟨fun pins s σ H D I w => by
      obtain ⟨rfl, rfl, hsi, w⟩ := w
      refine (pss_one (ps_ret (X := X.suite a ((a, oe) :: pn)) (h1 a oe pn hz hfl))).run pins s σ H D I ?_
      exact ⟨_, hsi, _, c1, true, rfl, q1, q2, w⟩⟩)) ?_
  intro D σ H ⟨B, al, S, ρ, o, S', R, er0, hmm, p⟩
  unfold mTryIf at hmm
  split at hmm
  · rename_i hlen
    cases h1 : m ρ S with
    | none => rw [h1] at hmm; cases hmm
    | some y =>
      obtain ⟨ds, S1⟩ := y
      rw [h1] at hmm
      simp only at hmm
      refine ⟨B, al, S, ρ, ds, S1, R, er0, h1, fun vs al1 H1 R1 x1 r1 => ?_⟩
      have hlen2 : ds.length = (e :: es).length := (ha [] X.xe).len _ _ _ _ h1
      cases h2 : f ds S1 with
      | none => rw [h2] at hmm; cases hmm
      | some y2 =>
        obtain ⟨r, S2⟩ := y2
        rw [h2] at hmm
        refine ⟨B, al1, S1, ds, r, S2, R1, hlen2, r1, h2, ?_⟩
        cases r with
        | inl d =>
          simp only at hmm
          intro v al2 H2 R2 x2 r2
          refine ⟨rfl, _, rfl, ?_⟩
          have en := isN_eq r2
          rw [en]
          split at hmm
          · rename_i hd
            cases hmm
            rw [hd]
            exact p σ al2 H2 R2 (x1.trans x2) (er0.mono R (x1.trans x2))
          · rename_i hd
            cases hmm
            have hd' : isN d = false := by simpa using hd
            rw [hd']
            exact p _ al2 H2 R2 (x1.trans x2) (.bl false)
        | inr c =>
          simp only at hmm
          split at hmm
          · rename_i hc
            subst hc
            cases hmm
            intro al2 H2 R2 x2 C' hC'
            have : C' = C := by
              have := xC.g.symm.trans hC'
              cases this
              rfl
            subst this
            have hil : i < σ.length := by have := er0.1; omega
            refine ⟨true, hex, fun _ a _ => ⟨rfl, rfl, by rw [List.getElem?_set_self hil], ?_⟩, fun z => by cases z⟩
            exact p _ al2 H2 R2 (x1.trans x2) (.bl true)
          · cases hmm
  · cases hmm
end Z
set_option Elab.async false
set_option linter.all false
set_option maxRecDepth 100000
/-! list.index of a whole number -/
namespace Z
open PySem L2
section
variable {K : PySem.W.Frag}
def lIdx (o : D) (ds : List D) : M D := fun S => match ds with
  | [.int k] => (asLC S o).bind fun xs => (intsOf xs).bind fun ns => if k ∈ ns then some (.int (ns.idxOf k : Nat), S) else none
  | _ => none
theorem idx_first {k : Int} : ∀ {ns : List Int}, k ∈ ns → ns[ns.idxOf k]? = some k ∧ ∀ m y, m < ns.idxOf k → ns[m]? = some y → y ≠ k
  | n :: ns, h => by
    by_cases e : n = k
    · subst e
      simp
    · have h2 : k ∈ ns := by
        rcases List.mem_cons.mp h with h | h
        · exact (e h.symm).elim
        · exact h
      obtain ⟨i1, i2⟩ := idx_first h2
      have e2 : (n :: ns).idxOf k = ns.idxOf k + 1 := by
        rw [List.idxOf_cons]
        have : (n == k) = false := by simpa using e
        rw [this]
        rfl
      rw [e2]
      refine ⟨by simpa using i1, fun m y hm hy => ?_⟩
      cases m with
      | zero => simp at hy; subst hy; exact e
      | succ m => exact i2 m y (by omega) (by simpa using hy)
theorem l_idx : MRS K (rIndex K) lIdx := fun B al S H o ds z v vs S' R ro rd h Q q => by
  unfold lIdx at h
  split at h
  · rename_i k
    cases hx : asLC S o with
    | none => rw [hx] at h; cases h
    | some xs =>
      rw [hx] at h
      simp only [Option.bind_some] at h
      cases hy : intsOf xs with
      | none => rw [hy] at h; cases h
      | some ns =>
        rw [hy] at h
        simp only [Option.bind_some] at h
        split at h
        · rename_i hk
          cases h
          obtain ⟨w, rfl, rw'⟩ := rl_one rd
          cases rw'
          obtain ⟨b, us, rfl, hb, rb⟩ := asLC_rep R ro hx
          obtain ⟨e, _⟩ := ints_rep rb hy
          subst e
          obtain ⟨i1, i2⟩ := idx_first hk
          refine ⟨b, ns.map V.int, .int k, ns.idxOf k, .int k, rfl, rfl, hb, rfl, ?_, by rw [List.getElem?_map, i1]; rfl, by simp [eqV], fun m z' hm hz => ?_, q _ al H R .refl (.int _)⟩
          · rw [List.all_eq_true]
            intro x hx
            obtain ⟨n, _, rfl⟩ := List.mem_map.mp hx
            rfl
          · rw [List.getElem?_map] at hz
            obtain ⟨y, hy, rfl⟩ := Option.map_eq_some_iff.mp hz
            have := i2 m y hm hy
            simpa [eqV] using this
        · cases h
  · cases h
theorem wp_lIdx {o : D} {k : Int} {S : Store} {Q : D → Store → Prop} {xs : List D} {ns : List Int} (h1 : asLC S o = some xs) (h2 : intsOf xs = some ns) (h3 : k ∈ ns) (q : Q (.int (ns.idxOf k : Nat)) S) : wp (lIdx o [.int k]) S Q :=
  ⟨_, S, by simp only [lIdx, h1, h2, h3, Option.bind_some, if_true], q⟩
end
end Z
set_option Elab.async false
set_option linter.all false
set_option maxRecDepth 100000
/-! max of a tuple of whole numbers; repr of a whole number. -/
namespace L2
open PySem PySem.Spec PyProof.Rows
theorem maxOf_int : ∀ (ns : List Int) (n : Int), PySem.W.maxOf n ns = ns.foldl max n
  | [], n => rfl
  | m :: ns, n => by
    show PySem.W.maxOf (if decide (n < m) = true then m else n) ns = ns.foldl max (max n m)
    rw [maxOf_int ns]
    congr 1
    rw [Int.max_def]
    simp only [decide_eq_true_eq]
    split <;> split <;> omega
def rMaxTup (K : PySem.W.Frag) : List V → Hp → VK → Prop := fun vs H Q => ∃ (a : Addr) (n : Int) (ns : List Int), vs = [V.ref a] ∧ SqT K H a ((n :: ns).map V.int) ∧ Q (.int (ns.foldl max n)) H
theorem cr_maxTup {X : Cx} (hc : X.calm = true) (hu : X.A.units + 64 < cLine) : CallR X (.builtin "max") (rMaxTup X.K) := by
  intro pins s σ H vs us Q I r h
  obtain ⟨a, n, ns, rfl, hs, q⟩ := h
  obtain ⟨its, rv, ht, hz⟩ := I.tuple hs
  rw [Vals.ref1 r]
  obtain ⟨as, hr⟩ := Dp.readsAll I _ _ its (Z.dp_ints (K := X.K) (H := H) (n :: ns)) rv
  refine PySem.W.max_tuple_datum (x := n) (xs := ns) (I.ok.hd hc) ht ⟨as, by show ReadsAll s.heap its.toArray.toList ((n :: ns).map PyData.int) as; simpa using hr⟩ (by show X.A.units + 1 + 0 < cLine; omega) fun i v h' tk hi hv hk => ?_
  rw [maxOf_int] at hv
  obtain ⟨bs, hv⟩ := hv
  have hm : v ∈ its := by
    have : its[i]? = some v := by simpa using hi
    exact List.mem_of_getElem? this
  obtain ⟨j, hj⟩ := List.getElem?_of_mem hm
  have hi2 := rv.ints
  obtain ⟨t, e⟩ := PyProof.Rows.IntsAre.int_at hi2 j v hj
  subst e
  have hu2 := (Reads.unique (Reads.int _ t) _ _ hv).1
  have e3 : (n :: ns).getD j 0 = ns.foldl max n := by injection hu2
  exact ⟨.int (ns.foldl max n), H, I.kept (t' := tk) hk, ⟨t, by rw [← e3]⟩, q⟩
def rMaxQ (K : PySem.W.Frag) : List V → Hp → VK → Prop := fun vs H Q => rMax K vs H Q ∨ rMaxTup K vs H Q
theorem cr_maxQ {X : Cx} (hc : X.calm = true) (hu : X.A.units + 64 < cLine) : CallR X (.builtin "max") (rMaxQ X.K) := (cr_max hc).or (cr_maxTup hc hu)
def rReprI : List V → Hp → VK → Prop := fun xs H Q => ∃ i, xs = [.int i] ∧ i.natAbs.log2 < 1920 ∧ Q (.str (PySem.Str.ofString (toString i))) H
end L2
namespace Z
open PySem L2
def cMaxQ (ds : List D) : M D := fun S => match ds with
  | [d] => (asSq S d).bind fun xs => (intsOf xs).bind fun ns => (maxI ns).map fun i => (.int i, S)
  | _ => none
theorem c_maxQ {K : PySem.W.Frag} : CRS K (rMaxQ K) cMaxQ := fun B al S H ds z vs S' R r1 h Q q => by
  unfold cMaxQ at h
  split at h
  · rename_i d
    cases hx : asSq S d with
    | none => rw [hx] at h; cases h
    | some xs =>
      rw [hx] at h
      simp only [Option.bind_some] at h
      cases hy : intsOf xs with
      | none => rw [hy] at h; cases h
      | some ns =>
        rw [hy] at h
        simp only [Option.bind_some] at h
        cases ns with
        | nil => cases h
        | cons n ns =>
          cases h
          obtain ⟨v, rfl, rv⟩ := rl_one r1
          obtain ⟨a, us, rfl, ha, ra⟩ := asSq_rep R rv hx
          obtain ⟨e, _⟩ := ints_rep ra hy
          subst e
          have q' := q (.int (ns.foldl max n)) al H R .refl (.int _)
          rcases ha with ha | ha
          · obtain ⟨h1, h2, h3⟩ := maxI_spec (ns := n :: ns) rfl
            exact .inl ⟨a, n :: ns, rfl, ha, h3, fun m g1 g2 => by rw [max_uniq g1 g2 h1 h2]; exact q'⟩
          · exact .inr ⟨a, n, ns, rfl, ha, q'⟩
  · cases h
theorem wp_cMaxQ {d : D} {S : Store} {Q : D → Store → Prop} {xs : List D} {ns : List Int} {m : Int} (h1 : asSq S d = some xs) (h2 : intsOf xs = some ns) (h3 : maxI ns = some m) (q : Q (.int m) S) : wp (cMaxQ [d]) S Q :=
  ⟨_, S, by simp only [cMaxQ, h1, h2, h3, Option.bind_some, Option.map_some], q⟩
def cReprI (ds : List D) : M D := fun S => match ds with
  | [.int i] => if i.natAbs.log2 < 1920 then some (.str (PySem.Str.ofString (toString i)), S) else none
  | _ => none
theorem c_reprI {K : PySem.W.Frag} : CRS K rReprI cReprI := fun B al S H ds z vs S' R r1 h Q q => by
  unfold cReprI at h
  split at h
  · split at h
    · rename_i i hl
      cases h
      obtain ⟨v, rfl, rv⟩ := rl_one r1
      cases rv
      exact ⟨i, rfl, hl, q _ al H R .refl (.str _)⟩
    · cases h
  · cases h
theorem wp_cReprI {i : Int} {S : Store} {Q : D → Store → Prop} (h : i.natAbs.log2 < 1920) (q : Q (.str (PySem.Str.ofString (toString i))) S) : wp (cReprI [.int i]) S Q := ⟨_, S, by simp only [cReprI, h, if_true], q⟩
theorem hu64 {A : Around} {k : Nat} (hr : Room k A) : A.units + 64 < cLine := by have := hr.un; omega
end Z
set_option Elab.async false
set_option linter.all false
set_option maxRecDepth 100000
/-! is, is not of None and truths; list(range(n)). -/
namespace L2
open PySem PySem.Spec PyProof.Rows
def flagV : V → Bool
  | .non => true
  | .bl _ => true
  | _ => false
def rIsF (neg : Bool) : R2 := fun x y H Q => ∃ b : Bool, y = .bl b ∧ flagV x = true ∧ Q (.bl (if neg then !decide (x = .bl b) else decide (x = .bl b))) H
theorem op_isF {X : Cx} : OpR X (compareOp .Is) (rIsF false) := by
  intro pins s σ H x y v u Q I rx ry ⟨b, e, f, q⟩
  subst e
  cases (show u = Value.bool b from ry)
  cases x with
  | non =>
    cases (show v = Value.none from rx)
    exact wpAny_is_other rfl (fun z => by cases z) ⟨.bl false, H, I, rfl, by simpa using q⟩
  | bl a =>
    refine op_isBl pins s σ H (.bl a) (.bl b) v (.bool b) Q I rx rfl ⟨a, b, rfl, rfl, ?_⟩
    have : decide (V.bl a = V.bl b) = decide (a = b) := by simp
    rw [← this]; simpa using q
  | _ => cases f
theorem op_notF {X : Cx} : OpR X (compareOp .IsNot) (rIsF true) := by
  intro pins s σ H x y v u Q I rx ry ⟨b, e, f, q⟩
  subst e
  cases (show u = Value.bool b from ry)
  cases x with
  | non =>
    cases (show v = Value.none from rx)
    exact wpAny_isNot_other rfl (fun z => by cases z) ⟨.bl true, H, I, rfl, by simpa using q⟩
  | bl a =>
    refine op_notBl pins s σ H (.bl a) (.bl b) v (.bool b) Q I rx rfl ⟨a, b, rfl, rfl, ?_⟩
    have : decide (V.bl a = V.bl b) = decide (a = b) := by simp
    rw [← this]; simpa using q
  | _ => cases f
end L2
namespace Z
open PySem L2
def dIsF (neg : Bool) (d e : D) : M D := match e, d with
  | .bl _, .non => ret (.bl neg)
  | .bl b, .bl a => ret (.bl (if neg then !decide (a = b) else decide (a = b)))
  | _, _ => fail
theorem r_isF {K : PySem.W.Frag} {neg : Bool} : R2S K (rIsF neg) (dIsF neg) := fun B al S H d e z v w S' R r1 r2 h Q q => by
  unfold dIsF at h
  split at h
  · obtain ⟨rfl, rfl⟩ := ret_some h
    cases r1; cases r2
    refine ⟨_, rfl, rfl, ?_⟩
    have := q _ al H R .refl (.bl _)
    cases neg <;> simpa using this
  · obtain ⟨rfl, rfl⟩ := ret_some h
    cases r1; cases r2
    refine ⟨_, rfl, rfl, ?_⟩
    have := q _ al H R .refl (.bl _)
    cases neg <;> simpa using this
  · cases h
@[simp] theorem wp_dIsFN {neg b : Bool} {S : Store} {Q} : wp (dIsF neg .non (.bl b)) S Q ↔ Q (.bl neg) S := by unfold dIsF; simp
@[simp] theorem wp_dIsFB {neg a b : Bool} {S : Store} {Q} : wp (dIsF neg (.bl a) (.bl b)) S Q ↔ Q (.bl (if neg then !decide (a = b) else decide (a = b))) S := by unfold dIsF; simp
def mListRg (m : ME) : MA := fun ρ => bnd (m ρ) fun d S => match d with
  | .int n => if 0 ≤ n ∧ n ≤ 1000000 then some (rngD 0 n.toNat, S) else none
  | _ => none
theorem rgV_eq {n : Int} (h : 0 ≤ n) : rgV 0 n = ((List.range n.toNat).map fun i : Nat => (i : Int)).map V.int := by
  unfold rgV
  simp
theorem sn_listRg {X : Cx} {a : Expr} {m : ME} {p p2 q pos : Pos} (hc : X.calm = true) (hg : Gl X "list") (hm : X.mg "list" = none) (hg2 : Gl X "range") (hm2 : X.mg "range" = none) (ha : Sn X a m)
    (na : starEach [a] X.env = (false, eval a X.env) :: starEach [] X.env := by rfl) (na2 : starEach [.Call (.Name "range" p2) [a] [] q] X.env = (false, eval (.Call (.Name "range" p2) [a] [] q) X.env) :: starEach [] X.env := by rfl) :
    SnF X (.Call (.Name "list" p) [.Call (.Name "range" p2) [a] [] q] [] pos) (mListRg m) :=
  pe_imp (pe_listRg hc hg hm (prg_1 hg2 hm2 ha na) na2) fun σ H Q ⟨B, al, S, ρ, ds, S', R, er, hm, q⟩ => by
    obtain ⟨d, S1, h1, h2⟩ := bnd_some hm
    refine ⟨B, al, S, ρ, d, S1, R, er, h1, fun v al1 H1 R1 x1 r1 => ?_⟩
    split at h2
    · rename_i n
      split at h2
      · rename_i hk
        cases h2
        cases r1
        refine ⟨n, rfl, RgOk.of_le (by omega) (by omega) (by omega) (by omega), fun p hn => ?_⟩
        obtain ⟨x2, R2⟩ := R1.ban (o := .lst (rgV 0 n)) hn
        refine q p _ al1 _ R2 (x1.trans x2) ?_ upd_same ?_
        · cases h0 : H p with
          | none => rfl
          | some o =>
            by_cases ha : p ∈ al
            · obtain ⟨⟨u, e⟩, _⟩ := R1.there (x1.pre.elim fun be e => by rw [e]; exact List.mem_append_left _ ha)
              rw [hn] at e; cases e
            · have := (x1.fr p o h0 ha).1
              rw [hn] at this; cases this
        · rw [rgV_eq hk.1]
          have := rl_ints (K := X.K) (B := Bp B p) (al := al1) (H := upd H1 p (.lst (((List.range n.toNat).map fun i : Nat => (i : Int)).map V.int))) ((List.range n.toNat).map fun i : Nat => (i : Int))
          have e : rngD 0 n.toNat = ((List.range n.toNat).map fun i : Nat => (i : Int)).map D.int := by simp [rngD, Function.comp_def]
          rw [e]
          exact this
      · cases h2
    · cases h2
@[simp] theorem wp_mListRg {m : ME} {ρ : Env} {S : Store} {Q} : wp (mListRg m ρ) S Q ↔ wp (m ρ) S fun d S1 => ∃ n, d = .int n ∧ (0 ≤ n ∧ n ≤ 1000000) ∧ Q (rngD 0 n.toNat) S1 := by
  unfold mListRg
  rw [wp_bnd]
  constructor <;> intro h <;> refine wp_mono h fun d S1 h => ?_
  · obtain ⟨zs, S', e, q⟩ := h
    dsimp only at e
    split at e
    · split at e
      · rename_i hk; cases e; exact ⟨_, rfl, hk, q⟩
      · cases e
    · cases e
  · obtain ⟨n, rfl, hk, q⟩ := h
    exact ⟨_, S1, by simp only [hk, and_self, if_true], q⟩
end Z
set_option Elab.async false
set_option linter.all false
set_option maxRecDepth 100000
/-! A call of a def that may raise, where it does not; classes of exceptions by their base. -/
namespace Z
open PySem L2
def mCallX (f : FX) (m : MA) : ME := fun ρ => bnd (m ρ) fun ds S1 => match f ds S1 with
  | some (.inl d, S2) => some (d, S2)
  | _ => none
theorem sn_callX {X : Cx} {kk j : Nat} {x : Str} {f : FX} {m : MA} {p pos : Pos} {e : Expr} {es : List Expr} (c : CalX X.prog X.w X.K X.mg X.base kk x (spX X.K X.mg (e :: es).length f)) (hr : Room j X.A) (hk : kk ≤ j) (hg : Gl X x) (ha : Sa X (e :: es) m)
    (hdb : (x == ("__debug__" : Str)) = false := by decide) (he : starEach (e :: es) X.env = (false, eval e X.env) :: starEach es X.env := by rfl) (hpl : (backTo pos (starEach es X.env)).any (·.1) = false := by rfl) :
    Sn X (.Call (.Name x p) (e :: es) [] pos) (mCallX f m) := by
  obtain ⟨ff, fd, ps, F, hm, kp, b⟩ := c.ex
  refine pe_imp (pe_call (E := E0) F (hr.mono hk) hg hm kp b .nil (fun _ _ _ _ _ _ _ h => by obtain ⟨_, _, _, _, _, _, _, _, _, _, _, _, h⟩ := h; exact h.elim) ha.run hdb he hpl) fun σ H Q ⟨B, al, S, ρ, z, S', R, er, hmm, q⟩ => ?_
  obtain ⟨ds, S1, h1, h2⟩ := bnd_some hmm
  refine ⟨B, al, S, ρ, ds, S1, R, er, h1, fun vs al1 H1 R1 x1 r1 => ?_⟩
  show spX X.K X.mg (e :: es).length f (vs ++ []) H1 Q E0
  rw [List.append_nil]
  split at h2
  · rename_i d S2 h3
    cases h2
    exact ⟨B, al1, S1, ds, .inl _, _, R1, ha.len _ _ _ _ h1, r1, h3, fun v al' H' R' x' r' => q v al' H' R' (x1.trans x') r'⟩
  · cases h2
theorem wp_mCallX {f : FX} {m : MA} {ρ : Env} {S : Store} {Q : D → Store → Prop} : wp (mCallX f m ρ) S Q ↔ wp (m ρ) S fun ds S1 => ∃ d S2, f ds S1 = some (.inl d, S2) ∧ Q d S2 := by
  unfold mCallX
  rw [wp_bnd]
  constructor <;> intro h <;> refine wp_mono h fun ds S1 h => ?_
  · obtain ⟨zs, S', e, q⟩ := h
    dsimp only at e
    split at e
    · rename_i d S2 h3; cases e; exact ⟨_, _, h3, q⟩
    · cases e
  · obtain ⟨d, S2, h3, q⟩ := h
    exact ⟨d, S2, by simp only [h3], q⟩
/-- a class of exceptions is taken by a class above it -/
theorem exm_sub {K : PySem.W.Frag} {C A : Addr} (h1 : PySem.W.subIn K (.ref A) (.type "BaseException") = some true) (h2 : PySem.W.isClsIn K A = true) (h3 : PySem.W.typeIn K (.ref A) = some (.type "type")) (h4 : PySem.W.subIn K (.ref C) (.ref A) = some true) : PySem.W.exmOne K (.ref C) (.ref A) = some true := by
  have h5 : (PySem.W.clsIn K A).isSome = true := h2
  have e1 : (PySem.W.subIn K (.ref A) (.type "BaseException") == some true) = true := by rw [h1]; rfl
  have e2 : ((PySem.W.clsIn K A).isSome && PySem.W.typeIn K (.ref A) == some (.type "type")) = true := by rw [h5, h3]; rfl
  unfold PySem.W.exmOne
  rw [if_pos e1]
  exact (if_pos e2).trans h4
end Z
set_option Elab.async false
set_option linter.all false
set_option maxRecDepth 100000
set_option maxHeartbeats 4000000
namespace C
open PySem L2 Z

def top (i : Nat) : Stmt := PySem.Challenge.pw_carfax_k40_cuttings.main.body.getD i (.Pass ⟨0, 0, 0, 0⟩)
/-! is_list -/
abbrev s_is_list : Stmt := top 14
abbrev n_is_list : List Str := ["value", "most"]
theorem sc_is_list : FnScope n_is_list ["value", "most"] (defScope s_is_list) := ⟨rfl, rfl, rfl, by decide +kernel, rfl, by decide +kernel, by decide +kernel⟩
def b_is_list : MS := (mRet (mAndV (mIsi "tuple" (mVar 0)) (mOp dLe (mCB cLen (mCons (mVar 0) mNil)) (mVar 1))))
def f_is_list : List D → M D := mBody 2 b_is_list
/-! is_whole -/
abbrev s_is_whole : Stmt := top 13
abbrev n_is_whole : List Str := ["value", "least", "most"]
theorem sc_is_whole : FnScope n_is_whole ["value", "least", "most"] (defScope s_is_whole) := ⟨rfl, rfl, rfl, by decide +kernel, rfl, by decide +kernel, by decide +kernel⟩
def b_is_whole : MS := (mRet (mAndV (mIsi "int" (mVar 0)) (mAndV (mNotV (mIsi "bool" (mVar 0))) (mChain dLe dLe (mVar 1) (mVar 0) (mVar 2)))))
def f_is_whole : List D → M D := mBody 3 b_is_whole
/-! is_rising -/
abbrev s_is_rising : Stmt := top 15
abbrev n_is_rising : List Str := ["value", "most", "count", "at", "part"]
theorem sc_is_rising : FnScope n_is_rising ["value", "most", "count"] (defScope s_is_rising) := ⟨rfl, rfl, rfl, by decide +kernel, rfl, by decide +kernel, by decide +kernel⟩
def b_is_rising : MS := (mSeq (mIfS (mOr (mNot (mTru (mCall 0 f_is_list (mCons (mVar 0) (mCons (mVar 1) mNil))))) (mNot (mTru (mCB cAll (mCons (mFz (mLc [4] (.nm 4) (mItS (mVar 0)) mTrue (mCall 0 f_is_whole (mCons (mVar 4) (mCons (mC (.int 0)) (mCons (mOp dSub (mVar 2) (mC (.int 1))) mNil)))))) mNil))))) (mRet (mC (.bl false))) mNext)
 (mRet (mCB cAll (mCons (mFz (mLc [3] (.nm 3) (mItR (mCons (mOp dSub (mCB cLen (mCons (mVar 0) mNil)) (mC (.int 1))) mNil)) mTrue (mOp dLt (mOp dIx (mVar 0) (mVar 3)) (mOp dIx (mVar 0) (mOp dAdd (mVar 3) (mC (.int 1))))))) mNil))))
def f_is_rising : List D → M D := mBody 5 b_is_rising
/-! is_road -/
abbrev s_is_road : Stmt := top 16
abbrev n_is_road : List Str := ["value", "crossings", "lanes", "cells", "limit", "crossing"]
theorem sc_is_road : FnScope n_is_road ["value", "crossings"] (defScope s_is_road) := ⟨rfl, rfl, rfl, by decide +kernel, rfl, by decide +kernel, by decide +kernel⟩
def b_is_road : MS := (mSeq (mIfS (mOr (mNot (mTru (mCall 0 f_is_list (mCons (mVar 0) (mCons (mC (.int 4)) mNil))))) (mB (mOp dNe (mCB cLen (mCons (mVar 0) mNil)) (mC (.int 4))))) (mRet (mC (.bl false))) mNext)
 (mSeq (mAsg (.tp [2, 3, 4, 5]) (mVar 0))
 (mSeq (mIfS (mOr (mNot (mTru (mCall 0 f_is_whole (mCons (mVar 2) (mCons (mC (.int 1)) (mCons (mC (.int 3)) mNil)))))) (mNot (mTru (mCall 0 f_is_whole (mCons (mVar 3) (mCons (mC (.int 2)) (mCons (mC (.int 20)) mNil))))))) (mRet (mC (.bl false))) mNext)
 (mRet (mAndV (mCall 0 f_is_whole (mCons (mVar 4) (mCons (mC (.int 1)) (mCons (mC (.int 5)) mNil)))) (mCall 0 f_is_whole (mCons (mVar 5) (mCons (mNeg (mC (.int 1))) (mCons (mOp dSub (mVar 1) (mC (.int 1))) mNil)))))))))
def f_is_road : List D → M D := mBody 6 b_is_road
/-! road_ends -/
abbrev s_road_ends : Stmt := top 17
abbrev n_road_ends : List Str := ["roads", "crossing", "at", "road"]
theorem sc_road_ends : FnScope n_road_ends ["roads", "crossing"] (defScope s_road_ends) := ⟨rfl, rfl, rfl, by decide +kernel, rfl, by decide +kernel, by decide +kernel⟩
def b_road_ends : MS := (mRet (mFz (mLc [2, 3] (.tp [2, 3]) (mItE (mVar 0)) (mB (mOp dEq (mOp dIx (mVar 3) (mC (.int 3))) (mVar 1))) (mVar 2))))
def f_road_ends : List D → M D := mBody 4 b_road_ends
/-! is_phase -/
abbrev s_is_phase : Stmt := top 18
abbrev n_is_phase : List Str := ["value", "ends", "count", "road"]
theorem sc_is_phase : FnScope n_is_phase ["value", "ends", "count"] (defScope s_is_phase) := ⟨rfl, rfl, rfl, by decide +kernel, rfl, by decide +kernel, by decide +kernel⟩
def b_is_phase : MS := (mSeq (mIfS (mOr (mNot (mTru (mCall 0 f_is_list (mCons (mVar 0) (mCons (mC (.int 2)) mNil))))) (mOr (mB (mOp dNe (mCB cLen (mCons (mVar 0) mNil)) (mC (.int 2)))) (mNot (mTru (mCall 0 f_is_whole (mCons (mOp dIx (mVar 0) (mC (.int 0))) (mCons (mC (.int 1)) (mCons (mC (.int 9)) mNil)))))))) (mRet (mC (.bl false))) mNext)
 (mRet (mAndV (mCall 0 f_is_rising (mCons (mOp dIx (mVar 0) (mC (.int 1))) (mCons (mVar 2) (mCons (mVar 2) mNil)))) (mCB cAll (mCons (mFz (mLc [3] (.nm 3) (mItS (mOp dIx (mVar 0) (mC (.int 1)))) mTrue (mOp (dInS false) (mVar 3) (mVar 1)))) mNil)))))
def f_is_phase : List D → M D := mBody 4 b_is_phase
/-! is_rule -/
abbrev s_is_rule : Stmt := top 19
abbrev n_is_rule : List Str := ["value", "ends", "count", "part"]
theorem sc_is_rule : FnScope n_is_rule ["value", "ends", "count"] (defScope s_is_rule) := ⟨rfl, rfl, rfl, by decide +kernel, rfl, by decide +kernel, by decide +kernel⟩
def b_is_rule : MS := (mSeq (mIfS (mOr (mNot (mTru (mCall 0 f_is_list (mCons (mVar 0) (mCons (mC (.int 2)) mNil))))) (mOr (mB (mOp dNe (mCB cLen (mCons (mVar 0) mNil)) (mC (.int 2)))) (mOr (mNot (mTru (mIsi "str" (mOp dIx (mVar 0) (mC (.int 0)))))) (mNot (mTru (mIsi "tuple" (mOp dIx (mVar 0) (mC (.int 1))))))))) (mRet (mC (.bl false))) mNext)
 (mSeq (mIfS (mB (mOp dEq (mOp dIx (mVar 0) (mC (.int 0))) (mC (.str (PySem.Str.ofString "lights"))))) (mRet (mAndV (mChain dLe dLe (mC (.int 1)) (mCB cLen (mCons (mOp dIx (mVar 0) (mC (.int 1))) mNil)) (mC (.int 4))) (mCB cAll (mCons (mFz (mLc [3] (.nm 3) (mItS (mOp dIx (mVar 0) (mC (.int 1)))) mTrue (mCall 0 f_is_phase (mCons (mVar 3) (mCons (mVar 1) (mCons (mVar 2) mNil)))))) mNil)))) mNext)
 (mSeq (mIfS (mOr (mB (mOp dNe (mOp dIx (mVar 0) (mC (.int 0))) (mC (.str (PySem.Str.ofString "order"))))) (mNot (mTru (mCB cAll (mCons (mFz (mLc [3] (.nm 3) (mItS (mOp dIx (mVar 0) (mC (.int 1)))) mTrue (mCall 0 f_is_whole (mCons (mVar 3) (mCons (mC (.int 0)) (mCons (mOp dSub (mVar 2) (mC (.int 1))) mNil)))))) mNil))))) (mRet (mC (.bl false))) mNext)
 (mRet (mOp dEq (mFz (mCF cSortQ (mCons (mOp dIx (mVar 0) (mC (.int 1))) mNil))) (mVar 1))))))
def f_is_rule : List D → M D := mBody 4 b_is_rule
/-! check_net -/
abbrev s_check_net : Stmt := top 20
abbrev n_check_net : List Str := ["value", "begun", "roads", "crossings", "at", "row", "road"]
theorem sc_check_net : FnScope n_check_net ["value"] (defScope s_check_net) := ⟨rfl, rfl, rfl, by decide +kernel, rfl, by decide +kernel, by decide +kernel⟩
def b_check_net : MS := (mSeq (mIfS (mOr (mNot (mTru (mCall 0 f_is_list (mCons (mVar 0) (mCons (mC (.int 2)) mNil))))) (mB (mOp dNe (mCB cLen (mCons (mVar 0) mNil)) (mC (.int 2))))) (mRaise (PySem.Str.ofString "BadNet")) mNext)
 (mSeq (mAsg (.tp [2, 3]) (mVar 0))
 (mSeq (mIfS (mOr (mNot (mTru (mCall 0 f_is_list (mCons (mVar 2) (mCons (mC (.int 12)) mNil))))) (mOr (mNot (mTru (mVar 2))) (mNot (mTru (mCall 0 f_is_list (mCons (mVar 3) (mCons (mC (.int 8)) mNil))))))) (mRaise (PySem.Str.ofString "BadNet")) mNext)
 (mSeq (mIfS (mNot (mTru (mCB cAll (mCons (mFz (mLc [6] (.nm 6) (mItS (mVar 2)) mTrue (mCall 0 f_is_road (mCons (mVar 6) (mCons (mCB cLen (mCons (mVar 3) mNil)) mNil))))) mNil)))) (mRaise (PySem.Str.ofString "BadNet")) mNext)
 (mSeq (mSet 1 mNewK)
 (mFor (.tp [4, 5]) (mItE (mVar 3)) (mSeq (mIfS (mOr (mNot (mTru (mCall 0 f_is_list (mCons (mVar 5) (mCons (mC (.int 2)) mNil))))) (mOr (mB (mOp dNe (mCB cLen (mCons (mVar 5) mNil)) (mC (.int 2)))) (mNot (mTru (mCall 0 f_is_rule (mCons (mOp dIx (mVar 5) (mC (.int 0))) (mCons (mCall 0 f_road_ends (mCons (mVar 2) (mCons (mVar 4) mNil))) (mCons (mCB cLen (mCons (mVar 2) mNil)) mNil)))))))) (mRaise (PySem.Str.ofString "BadNet")) mNext)
 (mSeq (mIfS (mNot (mTru (mCall 0 f_is_rising (mCons (mOp dIx (mVar 5) (mC (.int 1))) (mCons (mC (.int 4)) (mCons (mCB cLen (mCons (mVar 2) mNil)) mNil)))))) (mRaise (PySem.Str.ofString "BadNet")) mNext)
 (mFor (.nm 6) (mItS (mOp dIx (mVar 5) (mC (.int 1)))) (mSeq (mIfS (mB (mDIn false (mVar 6) (mVar 1))) (mRaise (PySem.Str.ofString "BadNet")) mNext)
 (mSetD (mVar 1) (mVar 6) (mC (.bl true)))))))))))))
def f_check_net : FX := mBodyX 7 b_check_net
/-! ends -/
abbrev s_ends : Stmt := top 21
abbrev n_ends : List Str := ["net", "at"]
theorem sc_ends : FnScope n_ends ["net"] (defScope s_ends) := ⟨rfl, rfl, rfl, by decide +kernel, rfl, by decide +kernel, by decide +kernel⟩
def b_ends : MS := (mRet (mFz (mLc [1] (.nm 1) (mItR (mCons (mCB cLen (mCons (mOp dIx (mVar 0) (mC (.int 1))) mNil)) mNil)) mTrue (mCall 0 f_road_ends (mCons (mOp dIx (mVar 0) (mC (.int 0))) (mCons (mVar 1) mNil))))))
def f_ends : List D → M D := mBody 2 b_ends
/-! owner -/
abbrev s_owner : Stmt := top 25
abbrev n_owner : List Str := ["net", "cutting", "crossing", "rows"]
theorem sc_owner : FnScope n_owner ["net", "cutting", "crossing"] (defScope s_owner) := ⟨rfl, rfl, rfl, by decide +kernel, rfl, by decide +kernel, by decide +kernel⟩
def b_owner : MS := (mSeq (mSet 3 (mOp dIx (mCall 0 f_ends (mCons (mVar 0) mNil)) (mVar 2)))
 (mSeq (mIfS (mNot (mTru (mVar 3))) (mRet (mNeg (mC (.int 1)))) mNext)
 (mRet (mOp dIx (mVar 1) (mOp dIx (mVar 3) (mC (.int 0)))))))
def f_owner : List D → M D := mBody 4 b_owner
/-! links -/
abbrev s_links : Stmt := top 26
abbrev n_links : List Str := ["net", "cutting", "found", "crossing", "row", "at", "road", "link"]
theorem sc_links : FnScope n_links ["net", "cutting"] (defScope s_links) := ⟨rfl, rfl, rfl, by decide +kernel, rfl, by decide +kernel, by decide +kernel⟩
def b_links : MS := (mSeq (mSet 2 (mAd mNil))
 (mSeq (mFor (.tp [3, 4]) (mItE (mOp dIx (mVar 0) (mC (.int 1)))) (mSeq (mSet 5 (mCall 0 f_owner (mCons (mVar 0) (mCons (mVar 1) (mCons (mVar 3) mNil)))))
 (mSeq (mIfS (mB (mOp dEq (mVar 5) (mNeg (mC (.int 1))))) mCnt mNext)
 (mSeq (mFor (.nm 6) (mItS (mOp dIx (mCall 0 f_ends (mCons (mVar 0) mNil)) (mVar 3))) (mDrop (mMth lExt (mVar 2) (mCons (mFz (mCons (mTup (mCons (mOp dIx (mVar 1) (mVar 6)) (mCons (mVar 5) (mCons (mC (.str (PySem.Str.ofString "ask"))) (mCons (mVar 6) mNil))))) (mCons (mTup (mCons (mVar 5) (mCons (mOp dIx (mVar 1) (mVar 6)) (mCons (mC (.str (PySem.Str.ofString "let"))) (mCons (mVar 6) mNil))))) mNil))) mNil))))
 (mFor (.nm 6) (mItS (mOp dIx (mVar 4) (mC (.int 1)))) (mDrop (mMth lExt (mVar 2) (mCons (mFz (mCons (mTup (mCons (mOp dIx (mVar 1) (mVar 6)) (mCons (mVar 5) (mCons (mC (.str (PySem.Str.ofString "heads"))) (mCons (mVar 6) mNil))))) (mCons (mTup (mCons (mVar 5) (mCons (mOp dIx (mVar 1) (mVar 6)) (mCons (mC (.str (PySem.Str.ofString "come"))) (mCons (mVar 6) mNil))))) mNil))) mNil))))))))
 (mRet (mFz (mLc [7] (.nm 7) (mItS (mVar 2)) (mB (mOp dNe (mOp dIx (mVar 7) (mC (.int 0))) (mOp dIx (mVar 7) (mC (.int 1))))) (mVar 7))))))
def f_links : List D → M D := mBody 8 b_links
/-! letters_to -/
abbrev s_letters_to : Stmt := top 27
abbrev n_letters_to : List Str := ["net", "cutting", "worker", "link"]
theorem sc_letters_to : FnScope n_letters_to ["net", "cutting", "worker"] (defScope s_letters_to) := ⟨rfl, rfl, rfl, by decide +kernel, rfl, by decide +kernel, by decide +kernel⟩
def b_letters_to : MS := (mRet (mFz (mCF cSortG (mCons (mFz (mLc [3] (.nm 3) (mItS (mCall 0 f_links (mCons (mVar 0) (mCons (mVar 1) mNil)))) (mB (mOp dEq (mOp dIx (mVar 3) (mC (.int 1))) (mVar 2))) (mSl (mVar 3) (mPart (mC (.int 2))) mNoPart))) mNil))))
def f_letters_to : List D → M D := mBody 4 b_letters_to
/-! letters_from -/
abbrev s_letters_from : Stmt := top 28
abbrev n_letters_from : List Str := ["net", "cutting", "worker", "link"]
theorem sc_letters_from : FnScope n_letters_from ["net", "cutting", "worker"] (defScope s_letters_from) := ⟨rfl, rfl, rfl, by decide +kernel, rfl, by decide +kernel, by decide +kernel⟩
def b_letters_from : MS := (mRet (mFz (mCF cSortG (mCons (mFz (mLc [3] (.nm 3) (mItS (mCall 0 f_links (mCons (mVar 0) (mCons (mVar 1) mNil)))) (mB (mOp dEq (mOp dIx (mVar 3) (mC (.int 0))) (mVar 2))) (mSl (mVar 3) (mPart (mC (.int 2))) mNoPart))) mNil))))
def f_letters_from : List D → M D := mBody 4 b_letters_from
/-! _law_stream -/
abbrev s__law_stream : Stmt := top 30
abbrev n__law_stream : List Str := ["_law_script", "_law_mixed", "_law_cell"]
theorem sc__law_stream : FnScope n__law_stream ["_law_script"] (defScope s__law_stream) := ⟨rfl, rfl, rfl, by decide +kernel, rfl, by decide +kernel, by decide +kernel⟩
def b__law_stream : MS := (mSeq (mSet 1 (mC (.int 17)))
 (mSeq (mFor (.nm 2) (mItS (mVar 0)) (mSet 1 (mOp dMod (mCB cInt (mCons (mOp dAdd (mOp dAdd (mOp dMul (mVar 1) (mC (.int 48271))) (mOp dMod (mCB cInt (mCons (mVar 2) mNil)) (mC (.int 65521)))) (mC (.int 1))) mNil)) (mC (.int 2147483647)))))
 (mRet (mAd (mCons (mAd (mCF cList (mCons (mVar 0) mNil))) (mCons (mC (.int 0)) (mCons (mC (.int 0)) (mCons (mVar 1) mNil))))))))
def f__law_stream : List D → M D := mOpen 3 b__law_stream
/-! _law_draw -/
abbrev s__law_draw : Stmt := top 31
abbrev n__law_draw : List Str := ["_law_stream_here", "_law_many", "_law_value"]
theorem sc__law_draw : FnScope n__law_draw ["_law_stream_here", "_law_many"] (defScope s__law_draw) := ⟨rfl, rfl, rfl, by decide +kernel, rfl, by decide +kernel, by decide +kernel⟩
def b__law_draw : MS := (mSeq (mIfS (mAnd (mB (mOp dEq (mOp dIx (mVar 0) (mC (.int 1))) (mC (.int 0)))) (mB (mOp dLt (mOp dIx (mVar 0) (mC (.int 2))) (mCB cLen (mCons (mOp dIx (mVar 0) (mC (.int 0))) mNil))))) (mSeq (mSetL (mVar 0) (mC (.int 1)) (mCB cAbs (mCons (mCB cInt (mCons (mOp dIx (mOp dIx (mVar 0) (mC (.int 0))) (mOp dIx (mVar 0) (mC (.int 2)))) mNil)) mNil)))
 (mSetL (mVar 0) (mC (.int 2)) (mOp dAdd (mOp dIx (mVar 0) (mC (.int 2))) (mC (.int 1))))) mNext)
 (mSeq (mIfS (mB (mOp dEq (mOp dIx (mVar 0) (mC (.int 1))) (mC (.int 0)))) (mSeq (mSetL (mVar 0) (mC (.int 3)) (mOp dMod (mCB cInt (mCons (mOp dAdd (mOp dMul (mOp dIx (mVar 0) (mC (.int 3))) (mC (.int 48271))) (mC (.int 11))) mNil)) (mC (.int 2147483647))))
 (mRet (mOp dMod (mCB cInt (mCons (mOp dDiv (mOp dIx (mVar 0) (mC (.int 3))) (mC (.int 97))) mNil)) (mVar 1)))) mNext)
 (mSeq (mSet 2 (mOp dMod (mCB cInt (mCons (mOp dIx (mVar 0) (mC (.int 1))) mNil)) (mVar 1)))
 (mSeq (mSetL (mVar 0) (mC (.int 1)) (mOp dDiv (mOp dIx (mVar 0) (mC (.int 1))) (mVar 1)))
 (mRet (mVar 2))))))
def f__law_draw : List D → M D := mBody 3 b__law_draw
/-! _law_rule -/
abbrev s__law_rule : Stmt := top 33
abbrev n__law_rule : List Str := ["_law_stream_here", "_law_inside", "_law_left", "_law_order", "_law_phases", "_law_k", "_law_green", "_law_road"]
theorem sc__law_rule : FnScope n__law_rule ["_law_stream_here", "_law_inside"] (defScope s__law_rule) := ⟨rfl, rfl, rfl, by decide +kernel, rfl, by decide +kernel, by decide +kernel⟩
def b__law_rule : MS := (mSeq (mIfS (mB (mOp dEq (mCall 2 f__law_draw (mCons (mVar 0) (mCons (mC (.int 2)) mNil))) (mC (.int 0)))) (mSeq (mSet 4 (mAd mNil))
 (mSeq (mFor (.nm 5) (mItR (mCons (mOp dAdd (mC (.int 1)) (mCall 2 f__law_draw (mCons (mVar 0) (mCons (mC (.int 3)) mNil)))) mNil)) (mSeq (mSet 6 (mCB cTuple (mCons (mFz (mLc [7] (.nm 7) (mItS (mVar 1)) (mB (mOp dGt (mCall 2 f__law_draw (mCons (mVar 0) (mCons (mC (.int 3)) mNil))) (mC (.int 0)))) (mVar 7))) mNil)))
 (mDrop (mMth lApp (mVar 4) (mCons (mTup (mCons (mOp dAdd (mC (.int 1)) (mCall 2 f__law_draw (mCons (mVar 0) (mCons (mC (.int 4)) mNil)))) (mCons (mVar 6) mNil))) mNil)))))
 (mRet (mTup (mCons (mC (.str (PySem.Str.ofString "lights"))) (mCons (mCB cTuple (mCons (mVar 4) mNil)) mNil)))))) mNext)
 (mSeq (mSet 2 (mAd (mCF cList (mCons (mVar 1) mNil))))
 (mSeq (mSet 3 (mAd mNil))
 (mSeq (mWhl (mTru (mVar 2)) (mDrop (mMth lApp (mVar 3) (mCons (mMth lPop (mVar 2) (mCons (mCall 2 f__law_draw (mCons (mVar 0) (mCons (mCB cLen (mCons (mVar 2) mNil)) mNil))) mNil)) mNil))) 1000)
 (mRet (mTup (mCons (mC (.str (PySem.Str.ofString "order"))) (mCons (mCB cTuple (mCons (mVar 3) mNil)) mNil))))))))
def f__law_rule : List D → M D := mBody 8 b__law_rule
/-! _law_net -/
abbrev s__law_net : Stmt := top 32
abbrev n__law_net : List Str := ["_law_stream_here", "_law_many", "_law_count", "_law_ends", "_law_begins", "_law_roads", "_law_k", "_law_crossings", "_law_at", "_law_inside", "_law_outs"]
theorem sc__law_net : FnScope n__law_net ["_law_stream_here"] (defScope s__law_net) := ⟨rfl, rfl, rfl, by decide +kernel, rfl, by decide +kernel, by decide +kernel⟩
def b__law_net : MS := (mSeq (mSet 1 (mOp dAdd (mC (.int 3)) (mCall 2 f__law_draw (mCons (mVar 0) (mCons (mC (.int 5)) mNil)))))
 (mSeq (mSet 2 (mOp dAdd (mC (.int 1)) (mCall 2 f__law_draw (mCons (mVar 0) (mCons (mC (.int 3)) mNil)))))
 (mSeq (mSet 3 (mFz (mLc [6] (.nm 6) (mItR (mCons (mVar 1) mNil)) mTrue (mOp dSub (mCall 2 f__law_draw (mCons (mVar 0) (mCons (mOp dAdd (mVar 2) (mC (.int 1))) mNil))) (mC (.int 1))))))
 (mSeq (mSet 4 (mFz (mLc [6] (.nm 6) (mItR (mCons (mVar 1) mNil)) mTrue (mOp dSub (mCall 2 f__law_draw (mCons (mVar 0) (mCons (mOp dAdd (mVar 2) (mC (.int 1))) mNil))) (mC (.int 1))))))
 (mSeq (mSet 5 (mAd mNil))
 (mSeq (mFor (.nm 6) (mItR (mCons (mVar 1) mNil)) (mDrop (mMth lApp (mVar 5) (mCons (mTup (mCons (mOp dAdd (mC (.int 1)) (mCall 2 f__law_draw (mCons (mVar 0) (mCons (mC (.int 3)) mNil)))) (mCons (mOp dAdd (mC (.int 2)) (mCall 2 f__law_draw (mCons (mVar 0) (mCons (mC (.int 7)) mNil)))) (mCons (mOp dAdd (mC (.int 1)) (mCall 2 f__law_draw (mCons (mVar 0) (mCons (mC (.int 4)) mNil)))) (mCons (mOp dIx (mVar 3) (mVar 6)) mNil))))) mNil))))
 (mSeq (mSet 7 (mAd mNil))
 (mSeq (mFor (.nm 8) (mItR (mCons (mVar 2) mNil)) (mSeq (mSet 9 (mFz (mLc [6] (.nm 6) (mItR (mCons (mVar 1) mNil)) (mB (mOp dEq (mOp dIx (mVar 3) (mVar 6)) (mVar 8))) (mVar 6))))
 (mSeq (mSet 10 (mCB cTuple (mCons (mSl (mFz (mLc [6] (.nm 6) (mItR (mCons (mVar 1) mNil)) (mB (mOp dEq (mOp dIx (mVar 4) (mVar 6)) (mVar 8))) (mVar 6))) mNoPart (mPart (mC (.int 4)))) mNil)))
 (mDrop (mMth lApp (mVar 7) (mCons (mTup (mCons (mCall 2 f__law_rule (mCons (mVar 0) (mCons (mVar 9) mNil))) (mCons (mVar 10) mNil))) mNil))))))
 (mRet (mTup (mCons (mCB cTuple (mCons (mVar 5) mNil)) (mCons (mCB cTuple (mCons (mVar 7) mNil)) mNil))))))))))))
def f__law_net : List D → M D := mBody 11 b__law_net
/-! _law_cutting -/
abbrev s__law_cutting : Stmt := top 35
abbrev n__law_cutting : List Str := ["_law_stream_here", "_law_net_here", "_law_many", "_law_rows", "_law_names", "_law_road", "_law_row"]
theorem sc__law_cutting : FnScope n__law_cutting ["_law_stream_here", "_law_net_here"] (defScope s__law_cutting) := ⟨rfl, rfl, rfl, by decide +kernel, rfl, by decide +kernel, by decide +kernel⟩
def b__law_cutting : MS := (mSeq (mSet 2 (mOp dAdd (mC (.int 1)) (mCall 2 f__law_draw (mCons (mVar 0) (mCons (mCB cMin2 (mCons (mC (.int 4)) (mCons (mCB cLen (mCons (mOp dIx (mVar 1) (mC (.int 0))) mNil)) mNil))) mNil)))))
 (mSeq (mSet 3 (mFz (mLc [5] (.nm 5) (mItS (mOp dIx (mVar 1) (mC (.int 0)))) mTrue (mCall 2 f__law_draw (mCons (mVar 0) (mCons (mVar 2) mNil))))))
 (mSeq (mSet 4 (mFz (mSortSet (mVar 3))))
 (mRet (mCB cTuple (mCons (mFz (mLc [6] (.nm 6) (mItS (mVar 3)) mTrue (mMth lIdx (mVar 4) (mCons (mVar 6) mNil)))) mNil))))))
def f__law_cutting : List D → M D := mBody 7 b__law_cutting
/-! _law_owner -/
abbrev s__law_owner : Stmt := top 36
abbrev n__law_owner : List Str := ["_law_net_here", "_law_cutting_here", "_law_crossing", "_law_roads", "_law_road"]
theorem sc__law_owner : FnScope n__law_owner ["_law_net_here", "_law_cutting_here", "_law_crossing"] (defScope s__law_owner) := ⟨rfl, rfl, rfl, by decide +kernel, rfl, by decide +kernel, by decide +kernel⟩
def b__law_owner : MS := (mSeq (mSet 3 (mFz (mLc [4] (.nm 4) (mItR (mCons (mCB cLen (mCons (mOp dIx (mVar 0) (mC (.int 0))) mNil)) mNil)) (mB (mOp dEq (mOp dIx (mOp dIx (mOp dIx (mVar 0) (mC (.int 0))) (mVar 4)) (mC (.int 3))) (mVar 2))) (mVar 4))))
 (mSeq (mIfS (mNot (mTru (mVar 3))) (mRet (mNeg (mC (.int 1)))) mNext)
 (mRet (mOp dIx (mVar 1) (mOp dIx (mVar 3) (mC (.int 0)))))))
def f__law_owner : List D → M D := mBody 5 b__law_owner
/-! _law_links -/
abbrev s__law_links : Stmt := top 37
abbrev n__law_links : List Str := ["_law_net_here", "_law_cutting_here", "_law_found", "_law_crossing", "_law_at", "_law_road"]
theorem sc__law_links : FnScope n__law_links ["_law_net_here", "_law_cutting_here"] (defScope s__law_links) := ⟨rfl, rfl, rfl, by decide +kernel, rfl, by decide +kernel, by decide +kernel⟩
def b__law_links : MS := (mSeq (mSet 2 (mFz mNil))
 (mSeq (mFor (.nm 3) (mItR (mCons (mCB cLen (mCons (mOp dIx (mVar 0) (mC (.int 1))) mNil)) mNil)) (mSeq (mSet 4 (mCall 0 f__law_owner (mCons (mVar 0) (mCons (mVar 1) (mCons (mVar 3) mNil)))))
 (mFor (.nm 5) (mItR (mCons (mCB cLen (mCons (mOp dIx (mVar 0) (mC (.int 0))) mNil)) mNil)) (mIfS (mAnd (mB (mOp dGe (mVar 4) (mC (.int 0)))) (mB (mOp dNe (mOp dIx (mVar 1) (mVar 5)) (mVar 4)))) (mSeq (mIfS (mB (mOp dEq (mOp dIx (mOp dIx (mOp dIx (mVar 0) (mC (.int 0))) (mVar 5)) (mC (.int 3))) (mVar 3))) (mSet 2 (mOp dAdd (mVar 2) (mFz (mCons (mTup (mCons (mOp dIx (mVar 1) (mVar 5)) (mCons (mVar 4) (mCons (mC (.str (PySem.Str.ofString "ask"))) (mCons (mVar 5) mNil))))) (mCons (mTup (mCons (mVar 4) (mCons (mOp dIx (mVar 1) (mVar 5)) (mCons (mC (.str (PySem.Str.ofString "let"))) (mCons (mVar 5) mNil))))) mNil))))) mNext)
 (mIfS (mB (mOp (dInS false) (mVar 5) (mOp dIx (mOp dIx (mOp dIx (mVar 0) (mC (.int 1))) (mVar 3)) (mC (.int 1))))) (mSet 2 (mOp dAdd (mVar 2) (mFz (mCons (mTup (mCons (mOp dIx (mVar 1) (mVar 5)) (mCons (mVar 4) (mCons (mC (.str (PySem.Str.ofString "heads"))) (mCons (mVar 5) mNil))))) (mCons (mTup (mCons (mVar 4) (mCons (mOp dIx (mVar 1) (mVar 5)) (mCons (mC (.str (PySem.Str.ofString "come"))) (mCons (mVar 5) mNil))))) mNil))))) mNext)) mNext))))
 (mRet (mVar 2))))
def f__law_links : List D → M D := mBody 6 b__law_links
/-! check_cutting -/
abbrev s_check_cutting : Stmt := top 24
abbrev n_check_cutting : List Str := ["net", "value", "worker"]
theorem sc_check_cutting : FnScope n_check_cutting ["net", "value"] (defScope s_check_cutting) := ⟨rfl, rfl, rfl, by decide +kernel, rfl, by decide +kernel, by decide +kernel⟩
def b_check_cutting : MS := (mSeq (mIfS (mOr (mNot (mTru (mCall 0 f_is_list (mCons (mVar 1) (mCons (mCB cLen (mCons (mOp dIx (mVar 0) (mC (.int 0))) mNil)) mNil))))) (mB (mOp dNe (mCB cLen (mCons (mVar 1) mNil)) (mCB cLen (mCons (mOp dIx (mVar 0) (mC (.int 0))) mNil))))) (mRaise (PySem.Str.ofString "BadCutting")) mNext)
 (mSeq (mIfS (mNot (mTru (mCB cAll (mCons (mFz (mLc [2] (.nm 2) (mItS (mVar 1)) mTrue (mCall 0 f_is_whole (mCons (mVar 2) (mCons (mC (.int 0)) (mCons (mOp dSub (mC (.int 4)) (mC (.int 1))) mNil)))))) mNil)))) (mRaise (PySem.Str.ofString "BadCutting")) mNext)
 (mIfS (mB (mOp dNe (mFz (mSortSet (mVar 1))) (mFz (mListRg (mOp dAdd (mCB cMaxQ (mCons (mVar 1) mNil)) (mC (.int 1))))))) (mRaise (PySem.Str.ofString "BadCutting")) mNext)))
def f_check_cutting : FX := mBodyX 3 b_check_cutting
/-! _law_told -/
abbrev s__law_told : Stmt := top 38
abbrev n__law_told : List Str := ["_law_net_here", "_law_value", "e"]
theorem sc__law_told : FnScope n__law_told ["_law_net_here", "_law_value"] (defScope s__law_told) := ⟨rfl, rfl, rfl, by decide +kernel, rfl, by decide +kernel, by decide +kernel⟩
def b__law_told : MS := (mSeq (mTryIf 2 f_check_cutting (mCons (mVar 0) (mCons (mVar 1) mNil)) (PySem.Str.ofString "BadCutting"))
 (mRet (mC .non)))
def f__law_told : List D → M D := mBody 3 b__law_told
/-! _law_hurt -/
abbrev s__law_hurt : Stmt := top 39
abbrev n__law_hurt : List Str := ["_law_stream_here", "_law_cutting_here", "_law_at", "_law_rows", "_law_values"]
theorem sc__law_hurt : FnScope n__law_hurt ["_law_stream_here", "_law_cutting_here"] (defScope s__law_hurt) := ⟨rfl, rfl, rfl, by decide +kernel, rfl, by decide +kernel, by decide +kernel⟩
def b__law_hurt : MS := (mSeq (mSet 2 (mCall 2 f__law_draw (mCons (mVar 0) (mCons (mCB cLen (mCons (mVar 1) mNil)) mNil))))
 (mSeq (mSet 3 (mFz (mCons (mOp dIx (mFz (mCons (mNeg (mC (.int 1))) (mCons (mC (.int 4)) (mCons (mC (.bl true)) (mCons (mC .non) (mCons (mC (.str (PySem.Str.ofString "0"))) (mCons (mOp dAdd (mCB cMaxQ (mCons (mVar 1) mNil)) (mC (.int 2))) (mCons (mFz (mCons (mC (.int 0)) mNil)) (mCons (mTup (mCons (mC (.int 0)) mNil)) (mCons (mFz mNil) (mCons (mOp dPow (mC (.int 10)) (mC (.int 9))) mNil))))))))))) (mCall 2 f__law_draw (mCons (mVar 0) (mCons (mC (.int 10)) mNil)))) mNil)))
 (mSeq (mIfS (mAnd (mB (mOp dGt (mMth lCnt (mFz (mCF cSortQ (mCons (mVar 1) mNil))) (mCons (mOp dIx (mVar 1) (mVar 2)) mNil)) (mC (.int 1)))) (mB (mOp dEq (mCall 2 f__law_draw (mCons (mVar 0) (mCons (mC (.int 2)) mNil))) (mC (.int 0))))) (mSet 3 (mFz (mCons (mOp dAdd (mCB cMaxQ (mCons (mVar 1) mNil)) (mC (.int 2))) mNil))) mNext)
 (mSeq (mSet 4 (mFz (mCons (mSl (mVar 1) mNoPart (mPart (mNeg (mC (.int 1))))) (mCons (mOp dAdd (mVar 1) (mTup (mCons (mC (.int 0)) mNil))) (mCons (mFz (mCF cList (mCons (mVar 1) mNil))) (mCons (mC .non) (mCons (mTup mNil) (mCons (mOp dAdd (mOp dAdd (mSl (mVar 1) mNoPart (mPart (mVar 2))) (mCB cTuple (mCons (mVar 3) mNil))) (mSl (mVar 1) (mPart (mOp dAdd (mVar 2) (mC (.int 1)))) mNoPart)) mNil))))))))
 (mRet (mOp dIx (mVar 4) (mCall 2 f__law_draw (mCons (mVar 0) (mCons (mC (.int 6)) mNil)))))))))
def f__law_hurt : List D → M D := mBody 5 b__law_hurt
/-! law -/
abbrev s_law : Stmt := top 40
abbrev n_law : List Str := ["_law_script", "_law_stream_here", "_law_net_here", "_law_cutting_here", "_law_crossing", "_law_links_here", "_law_worker", "_law_to", "_law_out", "_law_actual", "_law_link"]
theorem sc_law : FnScope n_law ["_law_script"] (defScope s_law) := ⟨rfl, rfl, rfl, by decide +kernel, rfl, by decide +kernel, by decide +kernel⟩
def b_law : MS := (mSeq (mSet 1 (mCallG f__law_stream (mCons (mVar 0) mNil)))
 (mSeq (mSet 2 (mCall 2 f__law_net (mCons (mVar 1) mNil)))
 (mSeq (mDrop (mCallX f_check_net (mCons (mVar 2) mNil)))
 (mSeq (mSet 3 (mCall 2 f__law_cutting (mCons (mVar 1) (mCons (mVar 2) mNil))))
 (mSeq (mIfS (mOr (mB (mOp dIsNot (mCall 0 f__law_told (mCons (mVar 2) (mCons (mVar 3) mNil))) (mC .non))) (mB (mOp (dIsF true) (mCall 0 f__law_told (mCons (mVar 2) (mCons (mCall 2 f__law_hurt (mCons (mVar 1) (mCons (mVar 3) mNil))) mNil))) (mC (.bl true))))) (mRet (mC (.bl false))) mNext)
 (mSeq (mFor (.nm 4) (mItR (mCons (mCB cLen (mCons (mOp dIx (mVar 2) (mC (.int 1))) mNil)) mNil)) (mIfS (mB (mOp dNeS (mCB cReprI (mCons (mCall 0 f_owner (mCons (mVar 2) (mCons (mVar 3) (mCons (mVar 4) mNil)))) mNil)) (mCB cReprI (mCons (mCall 0 f__law_owner (mCons (mVar 2) (mCons (mVar 3) (mCons (mVar 4) mNil)))) mNil)))) (mRet (mC (.bl false))) mNext))
 (mSeq (mSet 5 (mCall 0 f__law_links (mCons (mVar 2) (mCons (mVar 3) mNil))))
 (mSeq (mFor (.nm 6) (mItR (mCons (mOp dAdd (mCB cMaxQ (mCons (mVar 3) mNil)) (mC (.int 1))) mNil)) (mSeq (mSet 7 (mFz (mCF cSortG (mCons (mFz (mLc [10] (.nm 10) (mItS (mVar 5)) (mB (mOp dEq (mOp dIx (mVar 10) (mC (.int 1))) (mVar 6))) (mSl (mVar 10) (mPart (mC (.int 2))) mNoPart))) mNil))))
 (mSeq (mSet 8 (mFz (mCF cSortG (mCons (mFz (mLc [10] (.nm 10) (mItS (mVar 5)) (mB (mOp dEq (mOp dIx (mVar 10) (mC (.int 0))) (mVar 6))) (mSl (mVar 10) (mPart (mC (.int 2))) mNoPart))) mNil))))
 (mSeq (mSet 9 (mFz (mCons (mCall 0 f_letters_to (mCons (mVar 2) (mCons (mVar 3) (mCons (mVar 6) mNil)))) (mCons (mCall 0 f_letters_from (mCons (mVar 2) (mCons (mVar 3) (mCons (mVar 6) mNil)))) mNil))))
 (mIfS (mOr (mB (mOp dNe (mVar 9) (mFz (mCons (mVar 7) (mCons (mVar 8) mNil))))) (mNot (mTru (mIsi "list" (mOp dIx (mVar 9) (mC (.int 0))))))) (mRet (mC (.bl false))) mNext)))))
 (mRet (mC (.bl true)))))))))))
def f_law : List D → M D := mOpen 11 b_law
structure Txt (mg : Str → Option Value) : Prop where
  n_abs : mg "abs" = none
  n_all : mg "all" = none
  n_bool : mg "bool" = none
  n_enumerate : mg "enumerate" = none
  n_int : mg "int" = none
  n_isinstance : mg "isinstance" = none
  n_len : mg "len" = none
  n_list : mg "list" = none
  n_max : mg "max" = none
  n_min : mg "min" = none
  n_range : mg "range" = none
  n_repr : mg "repr" = none
  n_set : mg "set" = none
  n_sorted : mg "sorted" = none
  n_str : mg "str" = none
  n_tuple : mg "tuple" = none
  c_MOST_CELLS : ∃ t, mg "MOST_CELLS" = some (.int 20 t)
  c_MOST_CROSSINGS : ∃ t, mg "MOST_CROSSINGS" = some (.int 8 t)
  c_MOST_DURATION : ∃ t, mg "MOST_DURATION" = some (.int 9 t)
  c_MOST_LANES : ∃ t, mg "MOST_LANES" = some (.int 3 t)
  c_MOST_LIMIT : ∃ t, mg "MOST_LIMIT" = some (.int 5 t)
  c_MOST_OUTS : ∃ t, mg "MOST_OUTS" = some (.int 4 t)
  c_MOST_PHASES : ∃ t, mg "MOST_PHASES" = some (.int 4 t)
  c_MOST_ROADS : ∃ t, mg "MOST_ROADS" = some (.int 12 t)
  c_MOST_WORKERS : ∃ t, mg "MOST_WORKERS" = some (.int 4 t)
section
variable {P : Program} {w : World} {K : PySem.W.Frag} {mg : Str → Option Value} {base : Heap}
theorem ok_is_list {f : Addr} {fd : FuncData} (F : L2.Fun K "is_list" "is_list" s_is_list f fd) (T : Txt mg) : FnOk P w K mg base CX0 1 f fd ["value", "most"] (spF K 2 f_is_list) :=
  fn_F F sc_is_list (fun cdv A outer s H E hr =>
 (sb_one (ss_ret (sn_and (sn_isi (T := "tuple") (by decide) (sn_var 0 (pv 0)) (pe_callB call_isi (by rfl) T.n_isinstance (by decide +kernel) (pa_cons (sn_var 0 (pv 0)) (pa_cons (pe_bltn (by rfl) T.n_tuple (by decide +kernel) rfl) pa_nil)))) (sn_one (sn_cmp op_le r_le (sn_cb c_len (pe_callB call_len_seq (by rfl) T.n_len (by decide +kernel) (sa_cons (sn_var 0 (pv 0)) sa_nil).run)) (sn_var 1 (pv 1)) (nomark _)))))))
theorem ok_is_whole {f : Addr} {fd : FuncData} (F : L2.Fun K "is_whole" "is_whole" s_is_whole f fd) (T : Txt mg) : FnOk P w K mg base CX0 1 f fd ["value", "least", "most"] (spF K 3 f_is_whole) :=
  fn_F F sc_is_whole (fun cdv A outer s H E hr =>
 (sb_one (ss_ret (sn_and (sn_isi (T := "int") (by decide) (sn_var 0 (pv 0)) (pe_callB call_isi (by rfl) T.n_isinstance (by decide +kernel) (pa_cons (sn_var 0 (pv 0)) (pa_cons (pe_bltn (by rfl) T.n_int (by decide +kernel) rfl) pa_nil)))) (sn_and (sn_not (sn_isi (T := "bool") (by decide) (sn_var 0 (pv 0)) (pe_callB call_isi (by rfl) T.n_isinstance (by decide +kernel) (pa_cons (sn_var 0 (pv 0)) (pa_cons (pe_bltn (by rfl) T.n_bool (by decide +kernel) rfl) pa_nil))))) (sn_one (sn_chain op_le op_le r_le r_le (sn_var 1 (pv 1)) (sn_var 0 (pv 0)) (sn_var 2 (pv 2)) rfl)))))))
theorem ok_is_rising {f : Addr} {fd : FuncData} (F : L2.Fun K "is_rising" "is_rising" s_is_rising f fd) (T : Txt mg) (c_is_whole : Cal P w K mg base 1 "is_whole" (spF K 3 f_is_whole)) (c_is_list : Cal P w K mg base 1 "is_list" (spF K 2 f_is_list)) : FnOk P w K mg base CX0 2 f fd ["value", "most", "count"] (spF K 3 f_is_rising) :=
  fn_F F sc_is_rising (fun cdv A outer s H E hr =>
 (sb_cons (ss_if (st_w (sw_or (st_not (st_tru (sn_call c_is_list hr (by decide) (by rfl) (sa_cons (sn_var 0 (pv 0)) (sa_cons (sn_var 1 (pv 1)) sa_nil)) 0))) (sw_or1 (st_not (st_tru (sn_cb c_all (pe_callB (cr_all rfl) (by rfl) T.n_all (by decide +kernel) (sa_cons (sn_fz (sn_lc (own := [("part", 4)]) rfl sc_is_rising.nd (si_seq (sn_var 0 (pv 0))) (blkOk_by (own := [("part", 4)]) (N := n_is_rising) (sc := defScope s_is_rising) (by decide +kernel)) (fun _ _ _ _ _ => (sg_name (pg_name (i := 4) sc_is_rising.nd rfl (by first | exact Or.inl rfl | exact Or.inr rfl)))) (fun _ _ _ _ _ => pts_true) (fun _ _ _ _ _ => (sn_call c_is_whole hr (by decide) (by rfl) (sa_cons (sn_var 4 (pv 4)) (sa_cons (sn_c pe_int rfl) (sa_cons (sn_bin op_sub r_sub (sn_var 2 (pv 2)) (sn_c pe_int rfl)) sa_nil))) 0)) (by decide))) sa_nil).run))))))) (sb_one (ss_ret (sn_c pe_bl rfl))) sb_nil)
 (sb_one (ss_ret (sn_cb c_all (pe_callB (cr_all rfl) (by rfl) T.n_all (by decide +kernel) (sa_cons (sn_fz (sn_lc (own := [("at", 3)]) rfl sc_is_rising.nd (si_rng1 (by rfl) T.n_range (sa_cons (sn_bin op_sub r_sub (sn_cb c_len (pe_callB call_len_seq (by rfl) T.n_len (by decide +kernel) (sa_cons (sn_var 0 (pv 0)) sa_nil).run)) (sn_c pe_int rfl)) sa_nil) (pi_range1 (by rfl) T.n_range (sa_cons (sn_bin op_sub r_sub (sn_cb c_len (pe_callB call_len_seq (by rfl) T.n_len (by decide +kernel) (sa_cons (sn_var 0 (pv 0)) sa_nil).run)) (sn_c pe_int rfl)) sa_nil).run)) (blkOk_by (own := [("at", 3)]) (N := n_is_rising) (sc := defScope s_is_rising) (by decide +kernel)) (fun _ _ _ _ _ => (sg_name (pg_name (i := 3) sc_is_rising.nd rfl (by first | exact Or.inl rfl | exact Or.inr rfl)))) (fun _ _ _ _ _ => pts_true) (fun _ _ _ _ _ => (sn_cmp op_lt r_lt (sn_ix b_ix r_ix (sn_var 0 (pv 0)) (sn_var 3 (pv 3)) (fun _ _ => rfl)) (sn_ix b_ix r_ix (sn_var 0 (pv 0)) (sn_bin b_add r_add (sn_var 3 (pv 3)) (sn_c pe_int rfl)) (fun _ _ => rfl)) (nomark _))) (by decide))) sa_nil).run))))))
theorem ok_is_road {f : Addr} {fd : FuncData} (F : L2.Fun K "is_road" "is_road" s_is_road f fd) (T : Txt mg) (c_is_whole : Cal P w K mg base 1 "is_whole" (spF K 3 f_is_whole)) (c_is_list : Cal P w K mg base 1 "is_list" (spF K 2 f_is_list)) : FnOk P w K mg base CX0 2 f fd ["value", "crossings"] (spF K 2 f_is_road) :=
  fn_F F sc_is_road (fun cdv A outer s H E hr =>
 (sb_cons (ss_if (st_w (sw_or (st_not (st_tru (sn_call c_is_list hr (by decide) (by rfl) (sa_cons (sn_var 0 (pv 0)) (sa_cons (sn_c pe_int rfl) sa_nil)) 0))) (sw_or1 (st_cmp (op_neD hr.units) r_ne (sn_cb c_len (pe_callB call_len_seq (by rfl) T.n_len (by decide +kernel) (sa_cons (sn_var 0 (pv 0)) sa_nil).run)) (sn_c pe_int rfl) (nomark _))))) (sb_one (ss_ret (sn_c pe_bl rfl))) sb_nil)
 (sb_cons (ss_asg (sn_var 0 (pv 0)) (sg_tup rfl (sgs_cons (pg_name (i := 2) sc_is_road.nd rfl (by first | exact Or.inl rfl | exact Or.inr rfl)) (sgs_cons (pg_name (i := 3) sc_is_road.nd rfl (by first | exact Or.inl rfl | exact Or.inr rfl)) (sgs_cons (pg_name (i := 4) sc_is_road.nd rfl (by first | exact Or.inl rfl | exact Or.inr rfl)) (sgs_cons (pg_name (i := 5) sc_is_road.nd rfl (by first | exact Or.inl rfl | exact Or.inr rfl)) sgs_nil))))))
 (sb_cons (ss_if (st_w (sw_or (st_not (st_tru (sn_call c_is_whole hr (by decide) (by rfl) (sa_cons (sn_var 2 (pv 2)) (sa_cons (sn_c pe_int rfl) (sa_cons (sn_c (pe_glob (v := V.int 3) (by rfl) (T.c_MOST_LANES).choose_spec ⟨_, rfl⟩) rfl) sa_nil))) 0))) (sw_or1 (st_not (st_tru (sn_call c_is_whole hr (by decide) (by rfl) (sa_cons (sn_var 3 (pv 3)) (sa_cons (sn_c pe_int rfl) (sa_cons (sn_c (pe_glob (v := V.int 20) (by rfl) (T.c_MOST_CELLS).choose_spec ⟨_, rfl⟩) rfl) sa_nil))) 0)))))) (sb_one (ss_ret (sn_c pe_bl rfl))) sb_nil)
 (sb_one (ss_ret (sn_and (sn_call c_is_whole hr (by decide) (by rfl) (sa_cons (sn_var 4 (pv 4)) (sa_cons (sn_c pe_int rfl) (sa_cons (sn_c (pe_glob (v := V.int 5) (by rfl) (T.c_MOST_LIMIT).choose_spec ⟨_, rfl⟩) rfl) sa_nil))) 0) (sn_one (sn_call c_is_whole hr (by decide) (by rfl) (sa_cons (sn_var 5 (pv 5)) (sa_cons (sn_neg (sn_c pe_int rfl)) (sa_cons (sn_bin op_sub r_sub (sn_var 1 (pv 1)) (sn_c pe_int rfl)) sa_nil))) 0)))))))))
theorem ok_road_ends {f : Addr} {fd : FuncData} (F : L2.Fun K "road_ends" "road_ends" s_road_ends f fd) (T : Txt mg) : FnOk P w K mg base CX0 1 f fd ["roads", "crossing"] (spF K 2 f_road_ends) :=
  fn_F F sc_road_ends (fun cdv A outer s H E hr =>
 (sb_one (ss_ret (sn_fz (sn_lc (own := [("at", 2), ("road", 3)]) rfl sc_road_ends.nd (si_enum (by rfl) T.n_enumerate (sn_var 0 (pv 0))) (blkOk_by (own := [("at", 2), ("road", 3)]) (N := n_road_ends) (sc := defScope s_road_ends) (by decide +kernel)) (fun _ _ _ _ _ => (sg_tup rfl (sgs_cons (pg_name (i := 2) sc_road_ends.nd rfl (by first | exact Or.inl rfl | exact Or.inr rfl)) (sgs_cons (pg_name (i := 3) sc_road_ends.nd rfl (by first | exact Or.inl rfl | exact Or.inr rfl)) sgs_nil)))) (fun _ _ _ _ _ => (pts_test (st_cmp (op_eqD hr.units) r_eq (sn_ix b_ix r_ix (sn_var 3 (pv 3)) (sn_c pe_int rfl) (fun _ _ => rfl)) (sn_var 1 (pv 1)) (nomark _)))) (fun _ _ _ _ _ => (sn_var 2 (pv 2))) (by decide))))))
theorem ok_is_phase {f : Addr} {fd : FuncData} (F : L2.Fun K "is_phase" "is_phase" s_is_phase f fd) (T : Txt mg) (c_is_whole : Cal P w K mg base 1 "is_whole" (spF K 3 f_is_whole)) (c_is_list : Cal P w K mg base 1 "is_list" (spF K 2 f_is_list)) (c_is_rising : Cal P w K mg base 2 "is_rising" (spF K 3 f_is_rising)) : FnOk P w K mg base CX0 3 f fd ["value", "ends", "count"] (spF K 3 f_is_phase) :=
  fn_F F sc_is_phase (fun cdv A outer s H E hr =>
 (sb_cons (ss_if (st_w (sw_or (st_not (st_tru (sn_call c_is_list hr (by decide) (by rfl) (sa_cons (sn_var 0 (pv 0)) (sa_cons (sn_c pe_int rfl) sa_nil)) 0))) (sw_or (st_cmp (op_neD hr.units) r_ne (sn_cb c_len (pe_callB call_len_seq (by rfl) T.n_len (by decide +kernel) (sa_cons (sn_var 0 (pv 0)) sa_nil).run)) (sn_c pe_int rfl) (nomark _)) (sw_or1 (st_not (st_tru (sn_call c_is_whole hr (by decide) (by rfl) (sa_cons (sn_ix b_ix r_ix (sn_var 0 (pv 0)) (sn_c pe_int rfl) (fun _ _ => rfl)) (sa_cons (sn_c pe_int rfl) (sa_cons (sn_c (pe_glob (v := V.int 9) (by rfl) (T.c_MOST_DURATION).choose_spec ⟨_, rfl⟩) rfl) sa_nil))) 0))))))) (sb_one (ss_ret (sn_c pe_bl rfl))) sb_nil)
 (sb_one (ss_ret (sn_and (sn_call c_is_rising hr (by decide) (by rfl) (sa_cons (sn_ix b_ix r_ix (sn_var 0 (pv 0)) (sn_c pe_int rfl) (fun _ _ => rfl)) (sa_cons (sn_var 2 (pv 2)) (sa_cons (sn_var 2 (pv 2)) sa_nil))) 0) (sn_one (sn_cb c_all (pe_callB (cr_all rfl) (by rfl) T.n_all (by decide +kernel) (sa_cons (sn_fz (sn_lc (own := [("road", 3)]) rfl sc_is_phase.nd (si_seq (sn_ix b_ix r_ix (sn_var 0 (pv 0)) (sn_c pe_int rfl) (fun _ _ => rfl))) (blkOk_by (own := [("road", 3)]) (N := n_is_phase) (sc := defScope s_is_phase) (by decide +kernel)) (fun _ _ _ _ _ => (sg_name (pg_name (i := 3) sc_is_phase.nd rfl (by first | exact Or.inl rfl | exact Or.inr rfl)))) (fun _ _ _ _ _ => pts_true) (fun _ _ _ _ _ => (sn_cmp op_in_seq (r_inS (neg := false)) (sn_var 3 (pv 3)) (sn_var 1 (pv 1)) rfl)) (by decide))) sa_nil).run))))))))
theorem ok_is_rule {f : Addr} {fd : FuncData} (F : L2.Fun K "is_rule" "is_rule" s_is_rule f fd) (T : Txt mg) (c_is_whole : Cal P w K mg base 1 "is_whole" (spF K 3 f_is_whole)) (c_is_list : Cal P w K mg base 1 "is_list" (spF K 2 f_is_list)) (c_is_phase : Cal P w K mg base 3 "is_phase" (spF K 3 f_is_phase)) : FnOk P w K mg base CX0 4 f fd ["value", "ends", "count"] (spF K 3 f_is_rule) :=
  fn_F F sc_is_rule (fun cdv A outer s H E hr =>
 (sb_cons (ss_if (st_w (sw_or (st_not (st_tru (sn_call c_is_list hr (by decide) (by rfl) (sa_cons (sn_var 0 (pv 0)) (sa_cons (sn_c pe_int rfl) sa_nil)) 0))) (sw_or (st_cmp (op_neD hr.units) r_ne (sn_cb c_len (pe_callB call_len_seq (by rfl) T.n_len (by decide +kernel) (sa_cons (sn_var 0 (pv 0)) sa_nil).run)) (sn_c pe_int rfl) (nomark _)) (sw_or (st_not (st_tru (sn_isi (T := "str") (by decide) (sn_ix b_ix r_ix (sn_var 0 (pv 0)) (sn_c pe_int rfl) (fun _ _ => rfl)) (pe_callB call_isi (by rfl) T.n_isinstance (by decide +kernel) (pa_cons (sn_ix b_ix r_ix (sn_var 0 (pv 0)) (sn_c pe_int rfl) (fun _ _ => rfl)) (pa_cons (pe_bltn (by rfl) T.n_str (by decide +kernel) rfl) pa_nil)))))) (sw_or1 (st_not (st_tru (sn_isi (T := "tuple") (by decide) (sn_ix b_ix r_ix (sn_var 0 (pv 0)) (sn_c pe_int rfl) (fun _ _ => rfl)) (pe_callB call_isi (by rfl) T.n_isinstance (by decide +kernel) (pa_cons (sn_ix b_ix r_ix (sn_var 0 (pv 0)) (sn_c pe_int rfl) (fun _ _ => rfl)) (pa_cons (pe_bltn (by rfl) T.n_tuple (by decide +kernel) rfl) pa_nil))))))))))) (sb_one (ss_ret (sn_c pe_bl rfl))) sb_nil)
 (sb_cons (ss_if (st_cmp (op_eqD hr.units) r_eq (sn_ix b_ix r_ix (sn_var 0 (pv 0)) (sn_c pe_int rfl) (fun _ _ => rfl)) (sn_c pe_str rfl) (nomark _)) (sb_one (ss_ret (sn_and (sn_chain op_le op_le r_le r_le (sn_c pe_int rfl) (sn_cb c_len (pe_callB call_len_seq (by rfl) T.n_len (by decide +kernel) (sa_cons (sn_ix b_ix r_ix (sn_var 0 (pv 0)) (sn_c pe_int rfl) (fun _ _ => rfl)) sa_nil).run)) (sn_c (pe_glob (v := V.int 4) (by rfl) (T.c_MOST_PHASES).choose_spec ⟨_, rfl⟩) rfl) rfl) (sn_one (sn_cb c_all (pe_callB (cr_all rfl) (by rfl) T.n_all (by decide +kernel) (sa_cons (sn_fz (sn_lc (own := [("part", 3)]) rfl sc_is_rule.nd (si_seq (sn_ix b_ix r_ix (sn_var 0 (pv 0)) (sn_c pe_int rfl) (fun _ _ => rfl))) (blkOk_by (own := [("part", 3)]) (N := n_is_rule) (sc := defScope s_is_rule) (by decide +kernel)) (fun _ _ _ _ _ => (sg_name (pg_name (i := 3) sc_is_rule.nd rfl (by first | exact Or.inl rfl | exact Or.inr rfl)))) (fun _ _ _ _ _ => pts_true) (fun _ _ _ _ _ => (sn_call c_is_phase hr (by decide) (by rfl) (sa_cons (sn_var 3 (pv 3)) (sa_cons (sn_var 1 (pv 1)) (sa_cons (sn_var 2 (pv 2)) sa_nil))) 0)) (by decide))) sa_nil).run)))))) sb_nil)
 (sb_cons (ss_if (st_w (sw_or (st_cmp (op_neD hr.units) r_ne (sn_ix b_ix r_ix (sn_var 0 (pv 0)) (sn_c pe_int rfl) (fun _ _ => rfl)) (sn_c pe_str rfl) (nomark _)) (sw_or1 (st_not (st_tru (sn_cb c_all (pe_callB (cr_all rfl) (by rfl) T.n_all (by decide +kernel) (sa_cons (sn_fz (sn_lc (own := [("part", 3)]) rfl sc_is_rule.nd (si_seq (sn_ix b_ix r_ix (sn_var 0 (pv 0)) (sn_c pe_int rfl) (fun _ _ => rfl))) (blkOk_by (own := [("part", 3)]) (N := n_is_rule) (sc := defScope s_is_rule) (by decide +kernel)) (fun _ _ _ _ _ => (sg_name (pg_name (i := 3) sc_is_rule.nd rfl (by first | exact Or.inl rfl | exact Or.inr rfl)))) (fun _ _ _ _ _ => pts_true) (fun _ _ _ _ _ => (sn_call c_is_whole hr (by decide) (by rfl) (sa_cons (sn_var 3 (pv 3)) (sa_cons (sn_c pe_int rfl) (sa_cons (sn_bin op_sub r_sub (sn_var 2 (pv 2)) (sn_c pe_int rfl)) sa_nil))) 0)) (by decide))) sa_nil).run))))))) (sb_one (ss_ret (sn_c pe_bl rfl))) sb_nil)
 (sb_one (ss_ret (sn_cmp (op_eqD hr.units) r_eq (sn_fz (sn_cf c_sortQ (pe_callB cr_sortedQ (by rfl) T.n_sorted (by decide +kernel) (sa_cons (sn_ix b_ix r_ix (sn_var 0 (pv 0)) (sn_c pe_int rfl) (fun _ _ => rfl)) sa_nil).run))) (sn_var 1 (pv 1)) (nomark _))))))))
theorem ok_check_net {f : Addr} {fd : FuncData} (F : L2.Fun K "check_net" "check_net" s_check_net f fd) (T : Txt mg) (c_is_list : Cal P w K mg base 1 "is_list" (spF K 2 f_is_list)) (c_is_rising : Cal P w K mg base 2 "is_rising" (spF K 3 f_is_rising)) (c_is_road : Cal P w K mg base 2 "is_road" (spF K 2 f_is_road)) (c_road_ends : Cal P w K mg base 1 "road_ends" (spF K 2 f_road_ends)) (c_is_rule : Cal P w K mg base 4 "is_rule" (spF K 3 f_is_rule)) {C_BadNet : Addr} (x_BadNet : ExcN K mg "BadNet" C_BadNet) : FnOk P w K mg base (CX P w) 5 f fd ["value"] (spX K mg 1 f_check_net) :=
  fn_X F sc_check_net (fun cdv A outer s H E hr =>
 (sb_cons (ss_if (st_w (sw_or (st_not (st_tru (sn_call c_is_list hr (by decide) (by rfl) (sa_cons (sn_var 0 (pv 0)) (sa_cons (sn_c pe_int rfl) sa_nil)) 0))) (sw_or1 (st_cmp (op_neD hr.units) r_ne (sn_cb c_len (pe_callB call_len_seq (by rfl) T.n_len (by decide +kernel) (sa_cons (sn_var 0 (pv 0)) sa_nil).run)) (sn_c pe_int rfl) (nomark _))))) (sb_one (ss_raise rfl (takes_of rfl rfl rfl rfl) (pmk_own PySem.F.excBase_ValueError x_BadNet.x x_BadNet.g x_BadNet.k (raises_own x_BadNet.b x_BadNet.t) (by rfl)) (fun _ _ h => h _ x_BadNet.g))) sb_nil)
 (sb_cons (ss_asg (sn_var 0 (pv 0)) (sg_tup rfl (sgs_cons (pg_name (i := 2) sc_check_net.nd rfl (by first | exact Or.inl rfl | exact Or.inr rfl)) (sgs_cons (pg_name (i := 3) sc_check_net.nd rfl (by first | exact Or.inl rfl | exact Or.inr rfl)) sgs_nil))))
 (sb_cons (ss_if (st_w (sw_or (st_not (st_tru (sn_call c_is_list hr (by decide) (by rfl) (sa_cons (sn_var 2 (pv 2)) (sa_cons (sn_c (pe_glob (v := V.int 12) (by rfl) (T.c_MOST_ROADS).choose_spec ⟨_, rfl⟩) rfl) sa_nil)) 0))) (sw_or (st_not (st_tru (sn_var 2 (pv 2)))) (sw_or1 (st_not (st_tru (sn_call c_is_list hr (by decide) (by rfl) (sa_cons (sn_var 3 (pv 3)) (sa_cons (sn_c (pe_glob (v := V.int 8) (by rfl) (T.c_MOST_CROSSINGS).choose_spec ⟨_, rfl⟩) rfl) sa_nil)) 0))))))) (sb_one (ss_raise rfl (takes_of rfl rfl rfl rfl) (pmk_own PySem.F.excBase_ValueError x_BadNet.x x_BadNet.g x_BadNet.k (raises_own x_BadNet.b x_BadNet.t) (by rfl)) (fun _ _ h => h _ x_BadNet.g))) sb_nil)
 (sb_cons (ss_if (st_not (st_tru (sn_cb c_all (pe_callB (cr_all rfl) (by rfl) T.n_all (by decide +kernel) (sa_cons (sn_fz (sn_lc (own := [("road", 6)]) rfl sc_check_net.nd (si_seq (sn_var 2 (pv 2))) (blkOk_by (own := [("road", 6)]) (N := n_check_net) (sc := defScope s_check_net) (by decide +kernel)) (fun _ _ _ _ _ => (sg_name (pg_name (i := 6) sc_check_net.nd rfl (by first | exact Or.inl rfl | exact Or.inr rfl)))) (fun _ _ _ _ _ => pts_true) (fun _ _ _ _ _ => (sn_call c_is_road hr (by decide) (by rfl) (sa_cons (sn_var 6 (pv 6)) (sa_cons (sn_cb c_len (pe_callB call_len_seq (by rfl) T.n_len (by decide +kernel) (sa_cons (sn_var 3 (pv 3)) sa_nil).run)) sa_nil)) 0)) (by decide))) sa_nil).run)))) (sb_one (ss_raise rfl (takes_of rfl rfl rfl rfl) (pmk_own PySem.F.excBase_ValueError x_BadNet.x x_BadNet.g x_BadNet.k (raises_own x_BadNet.b x_BadNet.t) (by rfl)) (fun _ _ h => h _ x_BadNet.g))) sb_nil)
 (sb_cons (ss_set (i := 1) sc_check_net.nd rfl (by first | exact Or.inl rfl | exact Or.inr rfl) sn_newK)
 (sb_one (ss_for PassesOwn.leaving rfl (si_enum (by rfl) T.n_enumerate (sn_var 3 (pv 3))) (sg_tup rfl (sgs_cons (pg_name (i := 4) sc_check_net.nd rfl (by first | exact Or.inl rfl | exact Or.inr rfl)) (sgs_cons (pg_name (i := 5) sc_check_net.nd rfl (by first | exact Or.inl rfl | exact Or.inr rfl)) sgs_nil))) (sb_cons (ss_if (st_w (sw_or (st_not (st_tru (sn_call c_is_list hr (by decide) (by rfl) (sa_cons (sn_var 5 (pv 5)) (sa_cons (sn_c pe_int rfl) sa_nil)) 0))) (sw_or (st_cmp (op_neD hr.units) r_ne (sn_cb c_len (pe_callB call_len_seq (by rfl) T.n_len (by decide +kernel) (sa_cons (sn_var 5 (pv 5)) sa_nil).run)) (sn_c pe_int rfl) (nomark _)) (sw_or1 (st_not (st_tru (sn_call c_is_rule hr (by decide) (by rfl) (sa_cons (sn_ix b_ix r_ix (sn_var 5 (pv 5)) (sn_c pe_int rfl) (fun _ _ => rfl)) (sa_cons (sn_call c_road_ends hr (by decide) (by rfl) (sa_cons (sn_var 2 (pv 2)) (sa_cons (sn_var 4 (pv 4)) sa_nil)) 0) (sa_cons (sn_cb c_len (pe_callB call_len_seq (by rfl) T.n_len (by decide +kernel) (sa_cons (sn_var 2 (pv 2)) sa_nil).run)) sa_nil))) 0))))))) (sb_one (ss_raise rfl (takes_of rfl rfl rfl rfl) (pmk_own PySem.F.excBase_ValueError x_BadNet.x x_BadNet.g x_BadNet.k (raises_own x_BadNet.b x_BadNet.t) (by rfl)) (fun _ _ h => h _ x_BadNet.g))) sb_nil)
 (sb_cons (ss_if (st_not (st_tru (sn_call c_is_rising hr (by decide) (by rfl) (sa_cons (sn_ix b_ix r_ix (sn_var 5 (pv 5)) (sn_c pe_int rfl) (fun _ _ => rfl)) (sa_cons (sn_c (pe_glob (v := V.int 4) (by rfl) (T.c_MOST_OUTS).choose_spec ⟨_, rfl⟩) rfl) (sa_cons (sn_cb c_len (pe_callB call_len_seq (by rfl) T.n_len (by decide +kernel) (sa_cons (sn_var 2 (pv 2)) sa_nil).run)) sa_nil))) 0))) (sb_one (ss_raise rfl (takes_of rfl rfl rfl rfl) (pmk_own PySem.F.excBase_ValueError x_BadNet.x x_BadNet.g x_BadNet.k (raises_own x_BadNet.b x_BadNet.t) (by rfl)) (fun _ _ h => h _ x_BadNet.g))) sb_nil)
 (sb_one (ss_for PassesOwn.leaving rfl (si_seq (sn_ix b_ix r_ix (sn_var 5 (pv 5)) (sn_c pe_int rfl) (fun _ _ => rfl))) (sg_name (pg_name (i := 6) sc_check_net.nd rfl (by first | exact Or.inl rfl | exact Or.inr rfl))) (sb_cons (ss_if (st_din (hu_of hr) (sn_var 6 (pv 6)) (sn_var 1 (pv 1)) rfl) (sb_one (ss_raise rfl (takes_of rfl rfl rfl rfl) (pmk_own PySem.F.excBase_ValueError x_BadNet.x x_BadNet.g x_BadNet.k (raises_own x_BadNet.b x_BadNet.t) (by rfl)) (fun _ _ h => h _ x_BadNet.g))) sb_nil)
 (sb_one (ss_setD (hu_of hr) (sn_c pe_bl rfl) (sn_var 1 (pv 1)) (sn_var 6 (pv 6)))))))))))))))))
theorem ok_ends {f : Addr} {fd : FuncData} (F : L2.Fun K "ends" "ends" s_ends f fd) (T : Txt mg) (c_road_ends : Cal P w K mg base 1 "road_ends" (spF K 2 f_road_ends)) : FnOk P w K mg base CX0 2 f fd ["net"] (spF K 1 f_ends) :=
  fn_F F sc_ends (fun cdv A outer s H E hr =>
 (sb_one (ss_ret (sn_fz (sn_lc (own := [("at", 1)]) rfl sc_ends.nd (si_rng1 (by rfl) T.n_range (sa_cons (sn_cb c_len (pe_callB call_len_seq (by rfl) T.n_len (by decide +kernel) (sa_cons (sn_ix b_ix r_ix (sn_var 0 (pv 0)) (sn_c pe_int rfl) (fun _ _ => rfl)) sa_nil).run)) sa_nil) (pi_range1 (by rfl) T.n_range (sa_cons (sn_cb c_len (pe_callB call_len_seq (by rfl) T.n_len (by decide +kernel) (sa_cons (sn_ix b_ix r_ix (sn_var 0 (pv 0)) (sn_c pe_int rfl) (fun _ _ => rfl)) sa_nil).run)) sa_nil).run)) (blkOk_by (own := [("at", 1)]) (N := n_ends) (sc := defScope s_ends) (by decide +kernel)) (fun _ _ _ _ _ => (sg_name (pg_name (i := 1) sc_ends.nd rfl (by first | exact Or.inl rfl | exact Or.inr rfl)))) (fun _ _ _ _ _ => pts_true) (fun _ _ _ _ _ => (sn_call c_road_ends hr (by decide) (by rfl) (sa_cons (sn_ix b_ix r_ix (sn_var 0 (pv 0)) (sn_c pe_int rfl) (fun _ _ => rfl)) (sa_cons (sn_var 1 (pv 1)) sa_nil)) 0)) (by decide))))))
theorem ok_owner {f : Addr} {fd : FuncData} (F : L2.Fun K "owner" "owner" s_owner f fd) (T : Txt mg) (c_ends : Cal P w K mg base 2 "ends" (spF K 1 f_ends)) : FnOk P w K mg base CX0 3 f fd ["net", "cutting", "crossing"] (spF K 3 f_owner) :=
  fn_F F sc_owner (fun cdv A outer s H E hr =>
 (sb_cons (ss_set (i := 3) sc_owner.nd rfl (by first | exact Or.inl rfl | exact Or.inr rfl) (sn_ix b_ix r_ix (sn_call c_ends hr (by decide) (by rfl) (sa_cons (sn_var 0 (pv 0)) sa_nil) 0) (sn_var 2 (pv 2)) (fun _ _ => rfl)))
 (sb_cons (ss_if (st_not (st_tru (sn_var 3 (pv 3)))) (sb_one (ss_ret (sn_neg (sn_c pe_int rfl)))) sb_nil)
 (sb_one (ss_ret (sn_ix b_ix r_ix (sn_var 1 (pv 1)) (sn_ix b_ix r_ix (sn_var 3 (pv 3)) (sn_c pe_int rfl) (fun _ _ => rfl)) (fun _ _ => rfl)))))))
theorem ok_links {f : Addr} {fd : FuncData} (F : L2.Fun K "links" "links" s_links f fd) (T : Txt mg) (c_ends : Cal P w K mg base 2 "ends" (spF K 1 f_ends)) (c_owner : Cal P w K mg base 3 "owner" (spF K 3 f_owner)) : FnOk P w K mg base CX0 4 f fd ["net", "cutting"] (spF K 2 f_links) :=
  fn_F F sc_links (fun cdv A outer s H E hr =>
 (sb_cons (ss_set (i := 2) sc_links.nd rfl (by first | exact Or.inl rfl | exact Or.inr rfl) (sn_ad (sn_lst sa_nil)))
 (sb_cons (ss_for PassesOwn.never rfl (si_enum (by rfl) T.n_enumerate (sn_ix b_ix r_ix (sn_var 0 (pv 0)) (sn_c pe_int rfl) (fun _ _ => rfl))) (sg_tup rfl (sgs_cons (pg_name (i := 3) sc_links.nd rfl (by first | exact Or.inl rfl | exact Or.inr rfl)) (sgs_cons (pg_name (i := 4) sc_links.nd rfl (by first | exact Or.inl rfl | exact Or.inr rfl)) sgs_nil))) (sb_cons (ss_set (i := 5) sc_links.nd rfl (by first | exact Or.inl rfl | exact Or.inr rfl) (sn_call c_owner hr (by decide) (by rfl) (sa_cons (sn_var 0 (pv 0)) (sa_cons (sn_var 1 (pv 1)) (sa_cons (sn_var 3 (pv 3)) sa_nil))) 0))
 (sb_cons (ss_if (st_cmp (op_eqD hr.units) r_eq (sn_var 5 (pv 5)) (sn_neg (sn_c pe_int rfl)) (nomark _)) (sb_one ss_continue) sb_nil)
 (sb_cons (ss_for PassesOwn.never rfl (si_seq (sn_ix b_ix r_ix (sn_call c_ends hr (by decide) (by rfl) (sa_cons (sn_var 0 (pv 0)) sa_nil) 0) (sn_var 3 (pv 3)) (fun _ _ => rfl))) (sg_name (pg_name (i := 6) sc_links.nd rfl (by first | exact Or.inl rfl | exact Or.inr rfl))) (sb_one (ss_expr (sn_mth l_ext (pe_bm PySem.F.plainAttrs_list PySem.F.slot_list_extend PySem.F.type_list_extend mt_extend (sn_var 2 (pv 2)) (sa_cons (sn_fz (sn_lst (sa_cons (sn_tup (sa_cons (sn_ix b_ix r_ix (sn_var 1 (pv 1)) (sn_var 6 (pv 6)) (fun _ _ => rfl)) (sa_cons (sn_var 5 (pv 5)) (sa_cons (sn_c pe_str rfl) (sa_cons (sn_var 6 (pv 6)) sa_nil))))) (sa_cons (sn_tup (sa_cons (sn_var 5 (pv 5)) (sa_cons (sn_ix b_ix r_ix (sn_var 1 (pv 1)) (sn_var 6 (pv 6)) (fun _ _ => rfl)) (sa_cons (sn_c pe_str rfl) (sa_cons (sn_var 6 (pv 6)) sa_nil))))) sa_nil)))) sa_nil).run)))))
 (sb_one (ss_for PassesOwn.never rfl (si_seq (sn_ix b_ix r_ix (sn_var 4 (pv 4)) (sn_c pe_int rfl) (fun _ _ => rfl))) (sg_name (pg_name (i := 6) sc_links.nd rfl (by first | exact Or.inl rfl | exact Or.inr rfl))) (sb_one (ss_expr (sn_mth l_ext (pe_bm PySem.F.plainAttrs_list PySem.F.slot_list_extend PySem.F.type_list_extend mt_extend (sn_var 2 (pv 2)) (sa_cons (sn_fz (sn_lst (sa_cons (sn_tup (sa_cons (sn_ix b_ix r_ix (sn_var 1 (pv 1)) (sn_var 6 (pv 6)) (fun _ _ => rfl)) (sa_cons (sn_var 5 (pv 5)) (sa_cons (sn_c pe_str rfl) (sa_cons (sn_var 6 (pv 6)) sa_nil))))) (sa_cons (sn_tup (sa_cons (sn_var 5 (pv 5)) (sa_cons (sn_ix b_ix r_ix (sn_var 1 (pv 1)) (sn_var 6 (pv 6)) (fun _ _ => rfl)) (sa_cons (sn_c pe_str rfl) (sa_cons (sn_var 6 (pv 6)) sa_nil))))) sa_nil)))) sa_nil).run))))))))))
 (sb_one (ss_ret (sn_fz (sn_lc (own := [("link", 7)]) rfl sc_links.nd (si_seq (sn_var 2 (pv 2))) (blkOk_by (own := [("link", 7)]) (N := n_links) (sc := defScope s_links) (by decide +kernel)) (fun _ _ _ _ _ => (sg_name (pg_name (i := 7) sc_links.nd rfl (by first | exact Or.inl rfl | exact Or.inr rfl)))) (fun _ _ _ _ _ => (pts_test (st_cmp (op_neD hr.units) r_ne (sn_ix b_ix r_ix (sn_var 7 (pv 7)) (sn_c pe_int rfl) (fun _ _ => rfl)) (sn_ix b_ix r_ix (sn_var 7 (pv 7)) (sn_c pe_int rfl) (fun _ _ => rfl)) (nomark _)))) (fun _ _ _ _ _ => (sn_var 7 (pv 7))) (by decide))))))))
theorem ok_letters_to {f : Addr} {fd : FuncData} (F : L2.Fun K "letters_to" "letters_to" s_letters_to f fd) (T : Txt mg) (c_links : Cal P w K mg base 4 "links" (spF K 2 f_links)) : FnOk P w K mg base CX0 5 f fd ["net", "cutting", "worker"] (spF K 3 f_letters_to) :=
  fn_F F sc_letters_to (fun cdv A outer s H E hr =>
 (sb_one (ss_ret (sn_fz (sn_cf c_sortG (pe_callB (cr_sortedG (hu64 hr)) (by rfl) T.n_sorted (by decide +kernel) (sa_cons (sn_fz (sn_lc (own := [("link", 3)]) rfl sc_letters_to.nd (si_seq (sn_call c_links hr (by decide) (by rfl) (sa_cons (sn_var 0 (pv 0)) (sa_cons (sn_var 1 (pv 1)) sa_nil)) 0)) (blkOk_by (own := [("link", 3)]) (N := n_letters_to) (sc := defScope s_letters_to) (by decide +kernel)) (fun _ _ _ _ _ => (sg_name (pg_name (i := 3) sc_letters_to.nd rfl (by first | exact Or.inl rfl | exact Or.inr rfl)))) (fun _ _ _ _ _ => (pts_test (st_cmp (op_eqD hr.units) r_eq (sn_ix b_ix r_ix (sn_var 3 (pv 3)) (sn_c pe_int rfl) (fun _ _ => rfl)) (sn_var 2 (pv 2)) (nomark _)))) (fun _ _ _ _ _ => (sn_sl (sn_var 3 (pv 3)) (so_some (sn_c pe_int rfl)) so_none)) (by decide))) sa_nil).run))))))
theorem ok_letters_from {f : Addr} {fd : FuncData} (F : L2.Fun K "letters_from" "letters_from" s_letters_from f fd) (T : Txt mg) (c_links : Cal P w K mg base 4 "links" (spF K 2 f_links)) : FnOk P w K mg base CX0 5 f fd ["net", "cutting", "worker"] (spF K 3 f_letters_from) :=
  fn_F F sc_letters_from (fun cdv A outer s H E hr =>
 (sb_one (ss_ret (sn_fz (sn_cf c_sortG (pe_callB (cr_sortedG (hu64 hr)) (by rfl) T.n_sorted (by decide +kernel) (sa_cons (sn_fz (sn_lc (own := [("link", 3)]) rfl sc_letters_from.nd (si_seq (sn_call c_links hr (by decide) (by rfl) (sa_cons (sn_var 0 (pv 0)) (sa_cons (sn_var 1 (pv 1)) sa_nil)) 0)) (blkOk_by (own := [("link", 3)]) (N := n_letters_from) (sc := defScope s_letters_from) (by decide +kernel)) (fun _ _ _ _ _ => (sg_name (pg_name (i := 3) sc_letters_from.nd rfl (by first | exact Or.inl rfl | exact Or.inr rfl)))) (fun _ _ _ _ _ => (pts_test (st_cmp (op_eqD hr.units) r_eq (sn_ix b_ix r_ix (sn_var 3 (pv 3)) (sn_c pe_int rfl) (fun _ _ => rfl)) (sn_var 2 (pv 2)) (nomark _)))) (fun _ _ _ _ _ => (sn_sl (sn_var 3 (pv 3)) (so_some (sn_c pe_int rfl)) so_none)) (by decide))) sa_nil).run))))))
theorem ok__law_stream {f : Addr} {fd : FuncData} (F : L2.Fun K "_law_stream" "_law_stream" s__law_stream f fd) (T : Txt mg) : FnOk P w K mg base CX0 1 f fd ["_law_script"] (spG K 1 f__law_stream) :=
  fn_G F sc__law_stream (fun cdv A outer s H E hr =>
 (sb_cons (ss_set (i := 1) sc__law_stream.nd rfl (by first | exact Or.inl rfl | exact Or.inr rfl) (sn_c pe_int rfl))
 (sb_cons (ss_for PassesOwn.never rfl (si_seq (sn_var 0 (pv 0))) (sg_name (pg_name (i := 2) sc__law_stream.nd rfl (by first | exact Or.inl rfl | exact Or.inr rfl))) (sb_one (ss_set (i := 1) sc__law_stream.nd rfl (by first | exact Or.inl rfl | exact Or.inr rfl) (sn_bin op_mod r_mod (sn_cb c_int (pe_callTy call_int1 (by rfl) T.n_int (by decide +kernel) (sa_cons (sn_bin b_add r_add (sn_bin b_add r_add (sn_bin b_mul r_mul (sn_var 1 (pv 1)) (sn_c pe_int rfl)) (sn_bin op_mod r_mod (sn_cb c_int (pe_callTy call_int1 (by rfl) T.n_int (by decide +kernel) (sa_cons (sn_var 2 (pv 2)) sa_nil).run)) (sn_c pe_int rfl))) (sn_c pe_int rfl)) sa_nil).run)) (sn_c pe_int rfl)))))
 (sb_one (ss_ret (sn_ad (sn_lst (sa_cons (sn_ad (sn_cf c_list (pe_callTy call_list_of (by rfl) T.n_list (by decide +kernel) (sa_cons (sn_var 0 (pv 0)) sa_nil).run))) (sa_cons (sn_c pe_int rfl) (sa_cons (sn_c pe_int rfl) (sa_cons (sn_var 1 (pv 1)) sa_nil)))))))))))
theorem ok__law_draw {f : Addr} {fd : FuncData} (F : L2.Fun K "_law_draw" "_law_draw" s__law_draw f fd) (T : Txt mg) : FnOk P w K mg base CX0 1 f fd ["_law_stream_here", "_law_many"] (spF K 2 f__law_draw) :=
  fn_F F sc__law_draw (fun cdv A outer s H E hr =>
 (sb_cons (ss_if (st_w (sw_and (st_cmp (op_eqD hr.units) r_eq (sn_ix b_ix r_ix (sn_var 0 (pv 0)) (sn_c pe_int rfl) (fun _ _ => rfl)) (sn_c pe_int rfl) (nomark _)) (sw_and1 (st_cmp op_lt r_lt (sn_ix b_ix r_ix (sn_var 0 (pv 0)) (sn_c pe_int rfl) (fun _ _ => rfl)) (sn_cb c_len (pe_callB call_len_seq (by rfl) T.n_len (by decide +kernel) (sa_cons (sn_ix b_ix r_ix (sn_var 0 (pv 0)) (sn_c pe_int rfl) (fun _ _ => rfl)) sa_nil).run)) (nomark _))))) (sb_cons (ss_setL (sn_cb c_1I (pe_callB call_abs (by rfl) T.n_abs (by decide +kernel) (sa_cons (sn_cb c_int (pe_callTy call_int1 (by rfl) T.n_int (by decide +kernel) (sa_cons (sn_ix b_ix r_ix (sn_ix b_ix r_ix (sn_var 0 (pv 0)) (sn_c pe_int rfl) (fun _ _ => rfl)) (sn_ix b_ix r_ix (sn_var 0 (pv 0)) (sn_c pe_int rfl) (fun _ _ => rfl)) (fun _ _ => rfl)) sa_nil).run)) sa_nil).run)) (sn_var 0 (pv 0)) (sn_c pe_int rfl))
 (sb_one (ss_setL (sn_bin b_add r_add (sn_ix b_ix r_ix (sn_var 0 (pv 0)) (sn_c pe_int rfl) (fun _ _ => rfl)) (sn_c pe_int rfl)) (sn_var 0 (pv 0)) (sn_c pe_int rfl)))) sb_nil)
 (sb_cons (ss_if (st_cmp (op_eqD hr.units) r_eq (sn_ix b_ix r_ix (sn_var 0 (pv 0)) (sn_c pe_int rfl) (fun _ _ => rfl)) (sn_c pe_int rfl) (nomark _)) (sb_cons (ss_setL (sn_bin op_mod r_mod (sn_cb c_int (pe_callTy call_int1 (by rfl) T.n_int (by decide +kernel) (sa_cons (sn_bin b_add r_add (sn_bin b_mul r_mul (sn_ix b_ix r_ix (sn_var 0 (pv 0)) (sn_c pe_int rfl) (fun _ _ => rfl)) (sn_c pe_int rfl)) (sn_c pe_int rfl)) sa_nil).run)) (sn_c pe_int rfl)) (sn_var 0 (pv 0)) (sn_c pe_int rfl))
 (sb_one (ss_ret (sn_bin op_mod r_mod (sn_cb c_int (pe_callTy call_int1 (by rfl) T.n_int (by decide +kernel) (sa_cons (sn_bin op_fdiv r_div (sn_ix b_ix r_ix (sn_var 0 (pv 0)) (sn_c pe_int rfl) (fun _ _ => rfl)) (sn_c pe_int rfl)) sa_nil).run)) (sn_var 1 (pv 1)))))) sb_nil)
 (sb_cons (ss_set (i := 2) sc__law_draw.nd rfl (by first | exact Or.inl rfl | exact Or.inr rfl) (sn_bin op_mod r_mod (sn_cb c_int (pe_callTy call_int1 (by rfl) T.n_int (by decide +kernel) (sa_cons (sn_ix b_ix r_ix (sn_var 0 (pv 0)) (sn_c pe_int rfl) (fun _ _ => rfl)) sa_nil).run)) (sn_var 1 (pv 1))))
 (sb_cons (ss_setL (sn_bin op_fdiv r_div (sn_ix b_ix r_ix (sn_var 0 (pv 0)) (sn_c pe_int rfl) (fun _ _ => rfl)) (sn_var 1 (pv 1))) (sn_var 0 (pv 0)) (sn_c pe_int rfl))
 (sb_one (ss_ret (sn_var 2 (pv 2)))))))))
theorem ok__law_rule {f : Addr} {fd : FuncData} (F : L2.Fun K "_law_rule" "_law_rule" s__law_rule f fd) (T : Txt mg) (c__law_draw : Cal P w K mg base 1 "_law_draw" (spF K 2 f__law_draw)) : FnOk P w K mg base CX0 2 f fd ["_law_stream_here", "_law_inside"] (spF K 2 f__law_rule) :=
  fn_F F sc__law_rule (fun cdv A outer s H E hr =>
 (sb_cons (ss_if (st_cmp (op_eqD hr.units) r_eq (sn_call c__law_draw hr (by decide) (by rfl) (sa_cons (sn_var 0 (pv 0)) (sa_cons (sn_c pe_int rfl) sa_nil)) 2) (sn_c pe_int rfl) (nomark _)) (sb_cons (ss_set (i := 4) sc__law_rule.nd rfl (by first | exact Or.inl rfl | exact Or.inr rfl) (sn_ad (sn_lst sa_nil)))
 (sb_cons (ss_for PassesOwn.never rfl (si_rng1 (by rfl) T.n_range (sa_cons (sn_bin b_add r_add (sn_c pe_int rfl) (sn_call c__law_draw hr (by decide) (by rfl) (sa_cons (sn_var 0 (pv 0)) (sa_cons (sn_c pe_int rfl) sa_nil)) 2)) sa_nil) (pi_range1 (by rfl) T.n_range (sa_cons (sn_bin b_add r_add (sn_c pe_int rfl) (sn_call c__law_draw hr (by decide) (by rfl) (sa_cons (sn_var 0 (pv 0)) (sa_cons (sn_c pe_int rfl) sa_nil)) 2)) sa_nil).run)) (sg_name (pg_name (i := 5) sc__law_rule.nd rfl (by first | exact Or.inl rfl | exact Or.inr rfl))) (sb_cons (ss_set (i := 6) sc__law_rule.nd rfl (by first | exact Or.inl rfl | exact Or.inr rfl) (sn_cb c_tuple (pe_callTy call_tuple_of (by rfl) T.n_tuple (by decide +kernel) (sa_cons (sn_fz (sn_lc (own := [("_law_road", 7)]) rfl sc__law_rule.nd (si_seq (sn_var 1 (pv 1))) (blkOk_by (own := [("_law_road", 7)]) (N := n__law_rule) (sc := defScope s__law_rule) (by decide +kernel)) (fun _ _ _ _ _ => (sg_name (pg_name (i := 7) sc__law_rule.nd rfl (by first | exact Or.inl rfl | exact Or.inr rfl)))) (fun _ _ _ _ _ => (pts_test (st_cmp op_gt r_gt (sn_call c__law_draw hr (by decide) (by rfl) (sa_cons (sn_var 0 (pv 0)) (sa_cons (sn_c pe_int rfl) sa_nil)) 2) (sn_c pe_int rfl) (nomark _)))) (fun _ _ _ _ _ => (sn_var 7 (pv 7))) (by decide))) sa_nil).run)))
 (sb_one (ss_expr (sn_mth l_app (pe_bm PySem.F.plainAttrs_list PySem.F.slot_list_append PySem.F.type_list_append mt_append (sn_var 4 (pv 4)) (sa_cons (sn_tup (sa_cons (sn_bin b_add r_add (sn_c pe_int rfl) (sn_call c__law_draw hr (by decide) (by rfl) (sa_cons (sn_var 0 (pv 0)) (sa_cons (sn_c pe_int rfl) sa_nil)) 2)) (sa_cons (sn_var 6 (pv 6)) sa_nil))) sa_nil).run))))))
 (sb_one (ss_ret (sn_tup (sa_cons (sn_c pe_str rfl) (sa_cons (sn_cb c_tuple (pe_callTy call_tuple_of (by rfl) T.n_tuple (by decide +kernel) (sa_cons (sn_var 4 (pv 4)) sa_nil).run)) sa_nil))))))) sb_nil)
 (sb_cons (ss_set (i := 2) sc__law_rule.nd rfl (by first | exact Or.inl rfl | exact Or.inr rfl) (sn_ad (sn_cf c_list (pe_callTy call_list_of (by rfl) T.n_list (by decide +kernel) (sa_cons (sn_var 1 (pv 1)) sa_nil).run))))
 (sb_cons (ss_set (i := 3) sc__law_rule.nd rfl (by first | exact Or.inl rfl | exact Or.inr rfl) (sn_ad (sn_lst sa_nil)))
 (sb_cons (ss_while 1000 PassesOwn.never (st_tru (sn_var 2 (pv 2))) (sb_one (ss_expr (sn_mth l_app (pe_bm PySem.F.plainAttrs_list PySem.F.slot_list_append PySem.F.type_list_append mt_append (sn_var 3 (pv 3)) (sa_cons (sn_mth l_pop (pe_bm PySem.F.plainAttrs_list PySem.F.slot_list_pop PySem.F.type_list_pop mt_popAt (sn_var 2 (pv 2)) (sa_cons (sn_call c__law_draw hr (by decide) (by rfl) (sa_cons (sn_var 0 (pv 0)) (sa_cons (sn_cb c_len (pe_callB call_len_seq (by rfl) T.n_len (by decide +kernel) (sa_cons (sn_var 2 (pv 2)) sa_nil).run)) sa_nil)) 2) sa_nil).run)) sa_nil).run)))))
 (sb_one (ss_ret (sn_tup (sa_cons (sn_c pe_str rfl) (sa_cons (sn_cb c_tuple (pe_callTy call_tuple_of (by rfl) T.n_tuple (by decide +kernel) (sa_cons (sn_var 3 (pv 3)) sa_nil).run)) sa_nil))))))))))
theorem ok__law_net {f : Addr} {fd : FuncData} (F : L2.Fun K "_law_net" "_law_net" s__law_net f fd) (T : Txt mg) (c__law_draw : Cal P w K mg base 1 "_law_draw" (spF K 2 f__law_draw)) (c__law_rule : Cal P w K mg base 2 "_law_rule" (spF K 2 f__law_rule)) : FnOk P w K mg base CX0 3 f fd ["_law_stream_here"] (spF K 1 f__law_net) :=
  fn_F F sc__law_net (fun cdv A outer s H E hr =>
 (sb_cons (ss_set (i := 1) sc__law_net.nd rfl (by first | exact Or.inl rfl | exact Or.inr rfl) (sn_bin b_add r_add (sn_c pe_int rfl) (sn_call c__law_draw hr (by decide) (by rfl) (sa_cons (sn_var 0 (pv 0)) (sa_cons (sn_c pe_int rfl) sa_nil)) 2)))
 (sb_cons (ss_set (i := 2) sc__law_net.nd rfl (by first | exact Or.inl rfl | exact Or.inr rfl) (sn_bin b_add r_add (sn_c pe_int rfl) (sn_call c__law_draw hr (by decide) (by rfl) (sa_cons (sn_var 0 (pv 0)) (sa_cons (sn_c pe_int rfl) sa_nil)) 2)))
 (sb_cons (ss_set (i := 3) sc__law_net.nd rfl (by first | exact Or.inl rfl | exact Or.inr rfl) (sn_fz (sn_lc (own := [("_law_k", 6)]) rfl sc__law_net.nd (si_rng1 (by rfl) T.n_range (sa_cons (sn_var 1 (pv 1)) sa_nil) (pi_range1 (by rfl) T.n_range (sa_cons (sn_var 1 (pv 1)) sa_nil).run)) (blkOk_by (own := [("_law_k", 6)]) (N := n__law_net) (sc := defScope s__law_net) (by decide +kernel)) (fun _ _ _ _ _ => (sg_name (pg_name (i := 6) sc__law_net.nd rfl (by first | exact Or.inl rfl | exact Or.inr rfl)))) (fun _ _ _ _ _ => pts_true) (fun _ _ _ _ _ => (sn_bin op_sub r_sub (sn_call c__law_draw hr (by decide) (by rfl) (sa_cons (sn_var 0 (pv 0)) (sa_cons (sn_bin b_add r_add (sn_var 2 (pv 2)) (sn_c pe_int rfl)) sa_nil)) 2) (sn_c pe_int rfl))) (by decide))))
 (sb_cons (ss_set (i := 4) sc__law_net.nd rfl (by first | exact Or.inl rfl | exact Or.inr rfl) (sn_fz (sn_lc (own := [("_law_k", 6)]) rfl sc__law_net.nd (si_rng1 (by rfl) T.n_range (sa_cons (sn_var 1 (pv 1)) sa_nil) (pi_range1 (by rfl) T.n_range (sa_cons (sn_var 1 (pv 1)) sa_nil).run)) (blkOk_by (own := [("_law_k", 6)]) (N := n__law_net) (sc := defScope s__law_net) (by decide +kernel)) (fun _ _ _ _ _ => (sg_name (pg_name (i := 6) sc__law_net.nd rfl (by first | exact Or.inl rfl | exact Or.inr rfl)))) (fun _ _ _ _ _ => pts_true) (fun _ _ _ _ _ => (sn_bin op_sub r_sub (sn_call c__law_draw hr (by decide) (by rfl) (sa_cons (sn_var 0 (pv 0)) (sa_cons (sn_bin b_add r_add (sn_var 2 (pv 2)) (sn_c pe_int rfl)) sa_nil)) 2) (sn_c pe_int rfl))) (by decide))))
 (sb_cons (ss_set (i := 5) sc__law_net.nd rfl (by first | exact Or.inl rfl | exact Or.inr rfl) (sn_ad (sn_lst sa_nil)))
 (sb_cons (ss_for PassesOwn.never rfl (si_rng1 (by rfl) T.n_range (sa_cons (sn_var 1 (pv 1)) sa_nil) (pi_range1 (by rfl) T.n_range (sa_cons (sn_var 1 (pv 1)) sa_nil).run)) (sg_name (pg_name (i := 6) sc__law_net.nd rfl (by first | exact Or.inl rfl | exact Or.inr rfl))) (sb_one (ss_expr (sn_mth l_app (pe_bm PySem.F.plainAttrs_list PySem.F.slot_list_append PySem.F.type_list_append mt_append (sn_var 5 (pv 5)) (sa_cons (sn_tup (sa_cons (sn_bin b_add r_add (sn_c pe_int rfl) (sn_call c__law_draw hr (by decide) (by rfl) (sa_cons (sn_var 0 (pv 0)) (sa_cons (sn_c pe_int rfl) sa_nil)) 2)) (sa_cons (sn_bin b_add r_add (sn_c pe_int rfl) (sn_call c__law_draw hr (by decide) (by rfl) (sa_cons (sn_var 0 (pv 0)) (sa_cons (sn_c pe_int rfl) sa_nil)) 2)) (sa_cons (sn_bin b_add r_add (sn_c pe_int rfl) (sn_call c__law_draw hr (by decide) (by rfl) (sa_cons (sn_var 0 (pv 0)) (sa_cons (sn_c pe_int rfl) sa_nil)) 2)) (sa_cons (sn_ix b_ix r_ix (sn_var 3 (pv 3)) (sn_var 6 (pv 6)) (fun _ _ => rfl)) sa_nil))))) sa_nil).run)))))
 (sb_cons (ss_set (i := 7) sc__law_net.nd rfl (by first | exact Or.inl rfl | exact Or.inr rfl) (sn_ad (sn_lst sa_nil)))
 (sb_cons (ss_for PassesOwn.never rfl (si_rng1 (by rfl) T.n_range (sa_cons (sn_var 2 (pv 2)) sa_nil) (pi_range1 (by rfl) T.n_range (sa_cons (sn_var 2 (pv 2)) sa_nil).run)) (sg_name (pg_name (i := 8) sc__law_net.nd rfl (by first | exact Or.inl rfl | exact Or.inr rfl))) (sb_cons (ss_setLc (ps_setLc (i := 9) (own := [("_law_k", 6)]) (g := tTg _ (.nm 6)) (tt := tT _ (mB (mOp dEq (mOp dIx (mVar 3) (mVar 6)) (mVar 8)))) (te := tE _ (mVar 6)) rfl sc__law_net.nd rfl rfl (sw_true rfl rfl rfl (by decide +kernel)) (si_rng1 (by rfl) T.n_range (sa_cons (sn_var 1 (pv 1)) sa_nil) (pi_range1 (by rfl) T.n_range (sa_cons (sn_var 1 (pv 1)) sa_nil).run)) (blkOk_by (own := [("_law_k", 6)]) (N := n__law_net) (sc := defScope s__law_net) (by decide +kernel)) (fun _ _ _ _ _ => (sg_name (pg_name (i := 6) sc__law_net.nd rfl (by first | exact Or.inl rfl | exact Or.inr rfl)))) (fun _ _ _ _ _ => (pts_test (st_cmp (op_eqD hr.units) r_eq (sn_ix b_ix r_ix (sn_var 3 (pv 3)) (sn_var 6 (pv 6)) (fun _ _ => rfl)) (sn_var 8 (pv 8)) (nomark _)))) (fun _ _ _ _ _ => (sn_var 6 (pv 6)))) (fz_of (lc_of (by decide))))
 (sb_cons (ss_set (i := 10) sc__law_net.nd rfl (by first | exact Or.inl rfl | exact Or.inr rfl) (sn_cb c_tuple (pe_callTy call_tuple_of (by rfl) T.n_tuple (by decide +kernel) (sa_cons (sn_sl (sn_fz (sn_lc (own := [("_law_k", 6)]) rfl sc__law_net.nd (si_rng1 (by rfl) T.n_range (sa_cons (sn_var 1 (pv 1)) sa_nil) (pi_range1 (by rfl) T.n_range (sa_cons (sn_var 1 (pv 1)) sa_nil).run)) (blkOk_by (own := [("_law_k", 6)]) (N := n__law_net) (sc := defScope s__law_net) (by decide +kernel)) (fun _ _ _ _ _ => (sg_name (pg_name (i := 6) sc__law_net.nd rfl (by first | exact Or.inl rfl | exact Or.inr rfl)))) (fun _ _ _ _ _ => (pts_test (st_cmp (op_eqD hr.units) r_eq (sn_ix b_ix r_ix (sn_var 4 (pv 4)) (sn_var 6 (pv 6)) (fun _ _ => rfl)) (sn_var 8 (pv 8)) (nomark _)))) (fun _ _ _ _ _ => (sn_var 6 (pv 6))) (by decide))) so_none (so_some (sn_c pe_int rfl))) sa_nil).run)))
 (sb_one (ss_expr (sn_mth l_app (pe_bm PySem.F.plainAttrs_list PySem.F.slot_list_append PySem.F.type_list_append mt_append (sn_var 7 (pv 7)) (sa_cons (sn_tup (sa_cons (sn_call c__law_rule hr (by decide) (by rfl) (sa_cons (sn_var 0 (pv 0)) (sa_cons (sn_var 9 (pv 9)) sa_nil)) 2) (sa_cons (sn_var 10 (pv 10)) sa_nil))) sa_nil).run)))))))
 (sb_one (ss_ret (sn_tup (sa_cons (sn_cb c_tuple (pe_callTy call_tuple_of (by rfl) T.n_tuple (by decide +kernel) (sa_cons (sn_var 5 (pv 5)) sa_nil).run)) (sa_cons (sn_cb c_tuple (pe_callTy call_tuple_of (by rfl) T.n_tuple (by decide +kernel) (sa_cons (sn_var 7 (pv 7)) sa_nil).run)) sa_nil))))))))))))))
theorem ok__law_cutting {f : Addr} {fd : FuncData} (F : L2.Fun K "_law_cutting" "_law_cutting" s__law_cutting f fd) (T : Txt mg) (c__law_draw : Cal P w K mg base 1 "_law_draw" (spF K 2 f__law_draw)) : FnOk P w K mg base CX0 2 f fd ["_law_stream_here", "_law_net_here"] (spF K 2 f__law_cutting) :=
  fn_F F sc__law_cutting (fun cdv A outer s H E hr =>
 (sb_cons (ss_set (i := 2) sc__law_cutting.nd rfl (by first | exact Or.inl rfl | exact Or.inr rfl) (sn_bin b_add r_add (sn_c pe_int rfl) (sn_call c__law_draw hr (by decide) (by rfl) (sa_cons (sn_var 0 (pv 0)) (sa_cons (sn_cb c_2I (pe_callB (call_min2 rfl) (by rfl) T.n_min (by decide +kernel) (sa_cons (sn_c pe_int rfl) (sa_cons (sn_cb c_len (pe_callB call_len_seq (by rfl) T.n_len (by decide +kernel) (sa_cons (sn_ix b_ix r_ix (sn_var 1 (pv 1)) (sn_c pe_int rfl) (fun _ _ => rfl)) sa_nil).run)) sa_nil)).run)) sa_nil)) 2)))
 (sb_cons (ss_setLc (ps_setLc (i := 3) (own := [("_law_road", 5)]) (g := tTg _ (.nm 5)) (tt := tT _ mTrue) (te := tE _ (mCall 2 f__law_draw (mCons (mVar 0) (mCons (mVar 2) mNil)))) rfl sc__law_cutting.nd rfl rfl (sw_true rfl rfl rfl (by decide +kernel)) (si_seq (sn_ix b_ix r_ix (sn_var 1 (pv 1)) (sn_c pe_int rfl) (fun _ _ => rfl))) (blkOk_by (own := [("_law_road", 5)]) (N := n__law_cutting) (sc := defScope s__law_cutting) (by decide +kernel)) (fun _ _ _ _ _ => (sg_name (pg_name (i := 5) sc__law_cutting.nd rfl (by first | exact Or.inl rfl | exact Or.inr rfl)))) (fun _ _ _ _ _ => pts_true) (fun _ _ _ _ _ => (sn_call c__law_draw hr (by decide) (by rfl) (sa_cons (sn_var 0 (pv 0)) (sa_cons (sn_var 2 (pv 2)) sa_nil)) 2))) (fz_of (lc_of (by decide))))
 (sb_cons (ss_set (i := 4) sc__law_cutting.nd rfl (by first | exact Or.inl rfl | exact Or.inr rfl) (sn_fz (sn_sortSet rfl (by rfl) T.n_sorted (by rfl) T.n_set (sn_var 3 (pv 3)))))
 (sb_one (ss_ret (sn_cb c_tuple (pe_callTy call_tuple_of (by rfl) T.n_tuple (by decide +kernel) (sa_cons (sn_fz (sn_lc (own := [("_law_row", 6)]) rfl sc__law_cutting.nd (si_seq (sn_var 3 (pv 3))) (blkOk_by (own := [("_law_row", 6)]) (N := n__law_cutting) (sc := defScope s__law_cutting) (by decide +kernel)) (fun _ _ _ _ _ => (sg_name (pg_name (i := 6) sc__law_cutting.nd rfl (by first | exact Or.inl rfl | exact Or.inr rfl)))) (fun _ _ _ _ _ => pts_true) (fun _ _ _ _ _ => (sn_mth l_idx (pe_bm PySem.F.plainAttrs_list PySem.F.slot_list_index PySem.F.type_list_index mt_index (sn_var 4 (pv 4)) (sa_cons (sn_var 6 (pv 6)) sa_nil).run))) (by decide))) sa_nil).run))))))))
theorem ok__law_owner {f : Addr} {fd : FuncData} (F : L2.Fun K "_law_owner" "_law_owner" s__law_owner f fd) (T : Txt mg) : FnOk P w K mg base CX0 1 f fd ["_law_net_here", "_law_cutting_here", "_law_crossing"] (spF K 3 f__law_owner) :=
  fn_F F sc__law_owner (fun cdv A outer s H E hr =>
 (sb_cons (ss_setLc (ps_setLc (i := 3) (own := [("_law_road", 4)]) (g := tTg _ (.nm 4)) (tt := tT _ (mB (mOp dEq (mOp dIx (mOp dIx (mOp dIx (mVar 0) (mC (.int 0))) (mVar 4)) (mC (.int 3))) (mVar 2)))) (te := tE _ (mVar 4)) rfl sc__law_owner.nd rfl rfl (sw_true rfl rfl rfl (by decide +kernel)) (si_rng1 (by rfl) T.n_range (sa_cons (sn_cb c_len (pe_callB call_len_seq (by rfl) T.n_len (by decide +kernel) (sa_cons (sn_ix b_ix r_ix (sn_var 0 (pv 0)) (sn_c pe_int rfl) (fun _ _ => rfl)) sa_nil).run)) sa_nil) (pi_range1 (by rfl) T.n_range (sa_cons (sn_cb c_len (pe_callB call_len_seq (by rfl) T.n_len (by decide +kernel) (sa_cons (sn_ix b_ix r_ix (sn_var 0 (pv 0)) (sn_c pe_int rfl) (fun _ _ => rfl)) sa_nil).run)) sa_nil).run)) (blkOk_by (own := [("_law_road", 4)]) (N := n__law_owner) (sc := defScope s__law_owner) (by decide +kernel)) (fun _ _ _ _ _ => (sg_name (pg_name (i := 4) sc__law_owner.nd rfl (by first | exact Or.inl rfl | exact Or.inr rfl)))) (fun _ _ _ _ _ => (pts_test (st_cmp (op_eqD hr.units) r_eq (sn_ix b_ix r_ix (sn_ix b_ix r_ix (sn_ix b_ix r_ix (sn_var 0 (pv 0)) (sn_c pe_int rfl) (fun _ _ => rfl)) (sn_var 4 (pv 4)) (fun _ _ => rfl)) (sn_c pe_int rfl) (fun _ _ => rfl)) (sn_var 2 (pv 2)) (nomark _)))) (fun _ _ _ _ _ => (sn_var 4 (pv 4)))) (fz_of (lc_of (by decide))))
 (sb_cons (ss_if (st_not (st_tru (sn_var 3 (pv 3)))) (sb_one (ss_ret (sn_neg (sn_c pe_int rfl)))) sb_nil)
 (sb_one (ss_ret (sn_ix b_ix r_ix (sn_var 1 (pv 1)) (sn_ix b_ix r_ix (sn_var 3 (pv 3)) (sn_c pe_int rfl) (fun _ _ => rfl)) (fun _ _ => rfl)))))))
theorem ok__law_links {f : Addr} {fd : FuncData} (F : L2.Fun K "_law_links" "_law_links" s__law_links f fd) (T : Txt mg) (c__law_owner : Cal P w K mg base 1 "_law_owner" (spF K 3 f__law_owner)) : FnOk P w K mg base CX0 2 f fd ["_law_net_here", "_law_cutting_here"] (spF K 2 f__law_links) :=
  fn_F F sc__law_links (fun cdv A outer s H E hr =>
 (sb_cons (ss_set (i := 2) sc__law_links.nd rfl (by first | exact Or.inl rfl | exact Or.inr rfl) (sn_fz (sn_lst sa_nil)))
 (sb_cons (ss_for PassesOwn.never rfl (si_rng1 (by rfl) T.n_range (sa_cons (sn_cb c_len (pe_callB call_len_seq (by rfl) T.n_len (by decide +kernel) (sa_cons (sn_ix b_ix r_ix (sn_var 0 (pv 0)) (sn_c pe_int rfl) (fun _ _ => rfl)) sa_nil).run)) sa_nil) (pi_range1 (by rfl) T.n_range (sa_cons (sn_cb c_len (pe_callB call_len_seq (by rfl) T.n_len (by decide +kernel) (sa_cons (sn_ix b_ix r_ix (sn_var 0 (pv 0)) (sn_c pe_int rfl) (fun _ _ => rfl)) sa_nil).run)) sa_nil).run)) (sg_name (pg_name (i := 3) sc__law_links.nd rfl (by first | exact Or.inl rfl | exact Or.inr rfl))) (sb_cons (ss_set (i := 4) sc__law_links.nd rfl (by first | exact Or.inl rfl | exact Or.inr rfl) (sn_call c__law_owner hr (by decide) (by rfl) (sa_cons (sn_var 0 (pv 0)) (sa_cons (sn_var 1 (pv 1)) (sa_cons (sn_var 3 (pv 3)) sa_nil))) 0))
 (sb_one (ss_for PassesOwn.never rfl (si_rng1 (by rfl) T.n_range (sa_cons (sn_cb c_len (pe_callB call_len_seq (by rfl) T.n_len (by decide +kernel) (sa_cons (sn_ix b_ix r_ix (sn_var 0 (pv 0)) (sn_c pe_int rfl) (fun _ _ => rfl)) sa_nil).run)) sa_nil) (pi_range1 (by rfl) T.n_range (sa_cons (sn_cb c_len (pe_callB call_len_seq (by rfl) T.n_len (by decide +kernel) (sa_cons (sn_ix b_ix r_ix (sn_var 0 (pv 0)) (sn_c pe_int rfl) (fun _ _ => rfl)) sa_nil).run)) sa_nil).run)) (sg_name (pg_name (i := 5) sc__law_links.nd rfl (by first | exact Or.inl rfl | exact Or.inr rfl))) (sb_one (ss_if (st_w (sw_and (st_cmp op_ge r_ge (sn_var 4 (pv 4)) (sn_c pe_int rfl) (nomark _)) (sw_and1 (st_cmp (op_neD hr.units) r_ne (sn_ix b_ix r_ix (sn_var 1 (pv 1)) (sn_var 5 (pv 5)) (fun _ _ => rfl)) (sn_var 4 (pv 4)) (nomark _))))) (sb_cons (ss_if (st_cmp (op_eqD hr.units) r_eq (sn_ix b_ix r_ix (sn_ix b_ix r_ix (sn_ix b_ix r_ix (sn_var 0 (pv 0)) (sn_c pe_int rfl) (fun _ _ => rfl)) (sn_var 5 (pv 5)) (fun _ _ => rfl)) (sn_c pe_int rfl) (fun _ _ => rfl)) (sn_var 3 (pv 3)) (nomark _)) (sb_one (ss_set (i := 2) sc__law_links.nd rfl (by first | exact Or.inl rfl | exact Or.inr rfl) (sn_bin b_add r_add (sn_var 2 (pv 2)) (sn_fz (sn_lst (sa_cons (sn_tup (sa_cons (sn_ix b_ix r_ix (sn_var 1 (pv 1)) (sn_var 5 (pv 5)) (fun _ _ => rfl)) (sa_cons (sn_var 4 (pv 4)) (sa_cons (sn_c pe_str rfl) (sa_cons (sn_var 5 (pv 5)) sa_nil))))) (sa_cons (sn_tup (sa_cons (sn_var 4 (pv 4)) (sa_cons (sn_ix b_ix r_ix (sn_var 1 (pv 1)) (sn_var 5 (pv 5)) (fun _ _ => rfl)) (sa_cons (sn_c pe_str rfl) (sa_cons (sn_var 5 (pv 5)) sa_nil))))) sa_nil))))))) sb_nil)
 (sb_one (ss_if (st_cmp op_in_seq (r_inS (neg := false)) (sn_var 5 (pv 5)) (sn_ix b_ix r_ix (sn_ix b_ix r_ix (sn_ix b_ix r_ix (sn_var 0 (pv 0)) (sn_c pe_int rfl) (fun _ _ => rfl)) (sn_var 3 (pv 3)) (fun _ _ => rfl)) (sn_c pe_int rfl) (fun _ _ => rfl)) rfl) (sb_one (ss_set (i := 2) sc__law_links.nd rfl (by first | exact Or.inl rfl | exact Or.inr rfl) (sn_bin b_add r_add (sn_var 2 (pv 2)) (sn_fz (sn_lst (sa_cons (sn_tup (sa_cons (sn_ix b_ix r_ix (sn_var 1 (pv 1)) (sn_var 5 (pv 5)) (fun _ _ => rfl)) (sa_cons (sn_var 4 (pv 4)) (sa_cons (sn_c pe_str rfl) (sa_cons (sn_var 5 (pv 5)) sa_nil))))) (sa_cons (sn_tup (sa_cons (sn_var 4 (pv 4)) (sa_cons (sn_ix b_ix r_ix (sn_var 1 (pv 1)) (sn_var 5 (pv 5)) (fun _ _ => rfl)) (sa_cons (sn_c pe_str rfl) (sa_cons (sn_var 5 (pv 5)) sa_nil))))) sa_nil))))))) sb_nil))) sb_nil))))))
 (sb_one (ss_ret (sn_var 2 (pv 2)))))))
theorem ok_check_cutting {f : Addr} {fd : FuncData} (F : L2.Fun K "check_cutting" "check_cutting" s_check_cutting f fd) (T : Txt mg) (c_is_whole : Cal P w K mg base 1 "is_whole" (spF K 3 f_is_whole)) (c_is_list : Cal P w K mg base 1 "is_list" (spF K 2 f_is_list)) {C_BadCutting : Addr} (x_BadCutting : ExcN K mg "BadCutting" C_BadCutting) : FnOk P w K mg base (CX P w) 2 f fd ["net", "value"] (spX K mg 2 f_check_cutting) :=
  fn_X F sc_check_cutting (fun cdv A outer s H E hr =>
 (sb_cons (ss_if (st_w (sw_or (st_not (st_tru (sn_call c_is_list hr (by decide) (by rfl) (sa_cons (sn_var 1 (pv 1)) (sa_cons (sn_cb c_len (pe_callB call_len_seq (by rfl) T.n_len (by decide +kernel) (sa_cons (sn_ix b_ix r_ix (sn_var 0 (pv 0)) (sn_c pe_int rfl) (fun _ _ => rfl)) sa_nil).run)) sa_nil)) 0))) (sw_or1 (st_cmp (op_neD hr.units) r_ne (sn_cb c_len (pe_callB call_len_seq (by rfl) T.n_len (by decide +kernel) (sa_cons (sn_var 1 (pv 1)) sa_nil).run)) (sn_cb c_len (pe_callB call_len_seq (by rfl) T.n_len (by decide +kernel) (sa_cons (sn_ix b_ix r_ix (sn_var 0 (pv 0)) (sn_c pe_int rfl) (fun _ _ => rfl)) sa_nil).run)) (nomark _))))) (sb_one (ss_raise rfl (takes_of rfl rfl rfl rfl) (pmk_own PySem.F.excBase_ValueError x_BadCutting.x x_BadCutting.g x_BadCutting.k (raises_own x_BadCutting.b x_BadCutting.t) (by rfl)) (fun _ _ h => h _ x_BadCutting.g))) sb_nil)
 (sb_cons (ss_if (st_not (st_tru (sn_cb c_all (pe_callB (cr_all rfl) (by rfl) T.n_all (by decide +kernel) (sa_cons (sn_fz (sn_lc (own := [("worker", 2)]) rfl sc_check_cutting.nd (si_seq (sn_var 1 (pv 1))) (blkOk_by (own := [("worker", 2)]) (N := n_check_cutting) (sc := defScope s_check_cutting) (by decide +kernel)) (fun _ _ _ _ _ => (sg_name (pg_name (i := 2) sc_check_cutting.nd rfl (by first | exact Or.inl rfl | exact Or.inr rfl)))) (fun _ _ _ _ _ => pts_true) (fun _ _ _ _ _ => (sn_call c_is_whole hr (by decide) (by rfl) (sa_cons (sn_var 2 (pv 2)) (sa_cons (sn_c pe_int rfl) (sa_cons (sn_bin op_sub r_sub (sn_c (pe_glob (v := V.int 4) (by rfl) (T.c_MOST_WORKERS).choose_spec ⟨_, rfl⟩) rfl) (sn_c pe_int rfl)) sa_nil))) 0)) (by decide))) sa_nil).run)))) (sb_one (ss_raise rfl (takes_of rfl rfl rfl rfl) (pmk_own PySem.F.excBase_ValueError x_BadCutting.x x_BadCutting.g x_BadCutting.k (raises_own x_BadCutting.b x_BadCutting.t) (by rfl)) (fun _ _ h => h _ x_BadCutting.g))) sb_nil)
 (sb_one (ss_if (st_cmp (op_neD hr.units) r_ne (sn_fz (sn_sortSet rfl (by rfl) T.n_sorted (by rfl) T.n_set (sn_var 1 (pv 1)))) (sn_fz (sn_listRg rfl (by rfl) T.n_list (by rfl) T.n_range (sn_bin b_add r_add (sn_cb c_maxQ (pe_callB (cr_maxQ rfl (hu64 hr)) (by rfl) T.n_max (by decide +kernel) (sa_cons (sn_var 1 (pv 1)) sa_nil).run)) (sn_c pe_int rfl)))) (nomark _)) (sb_one (ss_raise rfl (takes_of rfl rfl rfl rfl) (pmk_own PySem.F.excBase_ValueError x_BadCutting.x x_BadCutting.g x_BadCutting.k (raises_own x_BadCutting.b x_BadCutting.t) (by rfl)) (fun _ _ h => h _ x_BadCutting.g))) sb_nil)))))
theorem ok__law_told {f : Addr} {fd : FuncData} (F : L2.Fun K "_law_told" "_law_told" s__law_told f fd) (T : Txt mg) (c_check_cutting : CalX P w K mg base 2 "check_cutting" (spX K mg 2 f_check_cutting)) {C_BadCutting : Addr} (x_BadCutting : ExcN K mg "BadCutting" C_BadCutting) (y_BadCutting : ExcC K C_BadCutting) {C_CarfaxError : Addr} (g_CarfaxError : mg "CarfaxError" = some (.ref C_CarfaxError)) (m_BadCutting_CarfaxError : PySem.W.exmOne K (.ref C_BadCutting) (.ref C_CarfaxError) = some true) (q_BadCutting_BadCutting : PySem.W.kitOne K (.ref C_BadCutting) (.ref C_BadCutting) = some true) : FnOk P w K mg base CX0 3 f fd ["_law_net_here", "_law_value"] (spF K 2 f__law_told) :=
  fn_F F sc__law_told (fun cdv A outer s H E hr =>
 (sb_cons (ss_tryIf (i := 2) (xh := "CarfaxError") c_check_cutting hr (by decide) x_BadCutting g_CarfaxError m_BadCutting_CarfaxError rfl rfl sc__law_told.nd rfl rfl (by rfl) (by decide) (by rfl) (by decide) (fun _ _ => (sa_cons (sn_var 0 (pv 0)) (sa_cons (sn_var 1 (pv 1)) sa_nil))) (by rfl) (by rfl) (fun _ _ _ hz hf => pe_callB (call_isE y_BadCutting hz hf) (by rfl) T.n_isinstance (by decide +kernel) (pa_cons (pv 2) (pa_cons (pe_glob (v := V.ref C_BadCutting) (by rfl) x_BadCutting.g rfl) pa_nil))) (fun _ h => h) q_BadCutting_BadCutting)
 (sb_one (ss_ret (sn_c pe_non rfl)))))
theorem ok__law_hurt {f : Addr} {fd : FuncData} (F : L2.Fun K "_law_hurt" "_law_hurt" s__law_hurt f fd) (T : Txt mg) (c__law_draw : Cal P w K mg base 1 "_law_draw" (spF K 2 f__law_draw)) : FnOk P w K mg base CX0 2 f fd ["_law_stream_here", "_law_cutting_here"] (spF K 2 f__law_hurt) :=
  fn_F F sc__law_hurt (fun cdv A outer s H E hr =>
 (sb_cons (ss_set (i := 2) sc__law_hurt.nd rfl (by first | exact Or.inl rfl | exact Or.inr rfl) (sn_call c__law_draw hr (by decide) (by rfl) (sa_cons (sn_var 0 (pv 0)) (sa_cons (sn_cb c_len (pe_callB call_len_seq (by rfl) T.n_len (by decide +kernel) (sa_cons (sn_var 1 (pv 1)) sa_nil).run)) sa_nil)) 2))
 (sb_cons (ss_set (i := 3) sc__law_hurt.nd rfl (by first | exact Or.inl rfl | exact Or.inr rfl) (sn_fz (sn_lst (sa_cons (sn_ix b_ix r_ix (sn_fz (sn_lst (sa_cons (sn_neg (sn_c pe_int rfl)) (sa_cons (sn_c pe_int rfl) (sa_cons (sn_c pe_bl rfl) (sa_cons (sn_c pe_non rfl) (sa_cons (sn_c pe_str rfl) (sa_cons (sn_bin b_add r_add (sn_cb c_maxQ (pe_callB (cr_maxQ rfl (hu64 hr)) (by rfl) T.n_max (by decide +kernel) (sa_cons (sn_var 1 (pv 1)) sa_nil).run)) (sn_c pe_int rfl)) (sa_cons (sn_fz (sn_lst (sa_cons (sn_c pe_int rfl) sa_nil))) (sa_cons (sn_tup (sa_cons (sn_c pe_int rfl) sa_nil)) (sa_cons (sn_fz (sn_lst sa_nil)) (sa_cons (sn_bin op_pow r_pow (sn_c pe_int rfl) (sn_c pe_int rfl)) sa_nil)))))))))))) (sn_call c__law_draw hr (by decide) (by rfl) (sa_cons (sn_var 0 (pv 0)) (sa_cons (sn_c pe_int rfl) sa_nil)) 2) (fun _ _ => rfl)) sa_nil))))
 (sb_cons (ss_if (st_w (sw_and (st_cmp op_gt r_gt (sn_mth l_cnt (pe_bm PySem.F.plainAttrs_list PySem.F.slot_list_count PySem.F.type_list_count mt_lcount (sn_fz (sn_cf c_sortQ (pe_callB cr_sortedQ (by rfl) T.n_sorted (by decide +kernel) (sa_cons (sn_var 1 (pv 1)) sa_nil).run))) (sa_cons (sn_ix b_ix r_ix (sn_var 1 (pv 1)) (sn_var 2 (pv 2)) (fun _ _ => rfl)) sa_nil).run)) (sn_c pe_int rfl) (nomark _)) (sw_and1 (st_cmp (op_eqD hr.units) r_eq (sn_call c__law_draw hr (by decide) (by rfl) (sa_cons (sn_var 0 (pv 0)) (sa_cons (sn_c pe_int rfl) sa_nil)) 2) (sn_c pe_int rfl) (nomark _))))) (sb_one (ss_set (i := 3) sc__law_hurt.nd rfl (by first | exact Or.inl rfl | exact Or.inr rfl) (sn_fz (sn_lst (sa_cons (sn_bin b_add r_add (sn_cb c_maxQ (pe_callB (cr_maxQ rfl (hu64 hr)) (by rfl) T.n_max (by decide +kernel) (sa_cons (sn_var 1 (pv 1)) sa_nil).run)) (sn_c pe_int rfl)) sa_nil))))) sb_nil)
 (sb_cons (ss_set (i := 4) sc__law_hurt.nd rfl (by first | exact Or.inl rfl | exact Or.inr rfl) (sn_fz (sn_lst (sa_cons (sn_sl (sn_var 1 (pv 1)) so_none (so_some (sn_neg (sn_c pe_int rfl)))) (sa_cons (sn_bin b_add r_add (sn_var 1 (pv 1)) (sn_tup (sa_cons (sn_c pe_int rfl) sa_nil))) (sa_cons (sn_fz (sn_cf c_list (pe_callTy call_list_of (by rfl) T.n_list (by decide +kernel) (sa_cons (sn_var 1 (pv 1)) sa_nil).run))) (sa_cons (sn_c pe_non rfl) (sa_cons (sn_tup sa_nil) (sa_cons (sn_bin b_add r_add (sn_bin b_add r_add (sn_sl (sn_var 1 (pv 1)) so_none (so_some (sn_var 2 (pv 2)))) (sn_cb c_tuple (pe_callTy call_tuple_of (by rfl) T.n_tuple (by decide +kernel) (sa_cons (sn_var 3 (pv 3)) sa_nil).run))) (sn_sl (sn_var 1 (pv 1)) (so_some (sn_bin b_add r_add (sn_var 2 (pv 2)) (sn_c pe_int rfl))) so_none)) sa_nil)))))))))
 (sb_one (ss_ret (sn_ix b_ix r_ix (sn_var 4 (pv 4)) (sn_call c__law_draw hr (by decide) (by rfl) (sa_cons (sn_var 0 (pv 0)) (sa_cons (sn_c pe_int rfl) sa_nil)) 2) (fun _ _ => rfl)))))))))
theorem ok_law {f : Addr} {fd : FuncData} (F : L2.Fun K "law" "law" s_law f fd) (T : Txt mg) (c_check_net : CalX P w K mg base 5 "check_net" (spX K mg 1 f_check_net)) (c_owner : Cal P w K mg base 3 "owner" (spF K 3 f_owner)) (c_letters_to : Cal P w K mg base 5 "letters_to" (spF K 3 f_letters_to)) (c_letters_from : Cal P w K mg base 5 "letters_from" (spF K 3 f_letters_from)) (c__law_stream : Cal P w K mg base 1 "_law_stream" (spG K 1 f__law_stream)) (c__law_net : Cal P w K mg base 3 "_law_net" (spF K 1 f__law_net)) (c__law_cutting : Cal P w K mg base 2 "_law_cutting" (spF K 2 f__law_cutting)) (c__law_owner : Cal P w K mg base 1 "_law_owner" (spF K 3 f__law_owner)) (c__law_links : Cal P w K mg base 2 "_law_links" (spF K 2 f__law_links)) (c__law_told : Cal P w K mg base 3 "_law_told" (spF K 2 f__law_told)) (c__law_hurt : Cal P w K mg base 2 "_law_hurt" (spF K 2 f__law_hurt)) : GRun P w K mg base CX0 6 f fd ["_law_script"] (spG K 1 f_law) :=
  fn_T F sc_law (fun cdv A outer s H E hg hr =>
 (sb_cons (ss_set (i := 1) sc_law.nd rfl (by first | exact Or.inl rfl | exact Or.inr rfl) (sn_callG c__law_stream hr (by decide) (by rfl) (sa_cons (sn_var 0 (pv 0)) sa_nil)))
 (sb_cons (ss_set (i := 2) sc_law.nd rfl (by first | exact Or.inl rfl | exact Or.inr rfl) (sn_call c__law_net hr (by decide) (by rfl) (sa_cons (sn_var 1 (pv 1)) sa_nil) 2))
 (sb_cons (ss_expr (sn_callX c_check_net hr (by decide) (by rfl) (sa_cons (sn_var 2 (pv 2)) sa_nil)))
 (sb_cons (ss_set (i := 3) sc_law.nd rfl (by first | exact Or.inl rfl | exact Or.inr rfl) (sn_call c__law_cutting hr (by decide) (by rfl) (sa_cons (sn_var 1 (pv 1)) (sa_cons (sn_var 2 (pv 2)) sa_nil)) 2))
 (sb_cons (ss_if (st_w (sw_or (st_cmp op_notN r_isNot (sn_call c__law_told hr (by decide) (by rfl) (sa_cons (sn_var 2 (pv 2)) (sa_cons (sn_var 3 (pv 3)) sa_nil)) 0) (sn_c pe_non rfl) (nomark _)) (sw_or1 (st_cmp op_notF (r_isF (neg := true)) (sn_call c__law_told hr (by decide) (by rfl) (sa_cons (sn_var 2 (pv 2)) (sa_cons (sn_call c__law_hurt hr (by decide) (by rfl) (sa_cons (sn_var 1 (pv 1)) (sa_cons (sn_var 3 (pv 3)) sa_nil)) 2) sa_nil)) 0) (sn_c pe_bl rfl) (nomark _))))) (sb_one (ss_ret (sn_c pe_bl rfl))) sb_nil)
 (sb_cons (ss_for PassesOwn.never rfl (si_rng1 (by rfl) T.n_range (sa_cons (sn_cb c_len (pe_callB call_len_seq (by rfl) T.n_len (by decide +kernel) (sa_cons (sn_ix b_ix r_ix (sn_var 2 (pv 2)) (sn_c pe_int rfl) (fun _ _ => rfl)) sa_nil).run)) sa_nil) (pi_range1 (by rfl) T.n_range (sa_cons (sn_cb c_len (pe_callB call_len_seq (by rfl) T.n_len (by decide +kernel) (sa_cons (sn_ix b_ix r_ix (sn_var 2 (pv 2)) (sn_c pe_int rfl) (fun _ _ => rfl)) sa_nil).run)) sa_nil).run)) (sg_name (pg_name (i := 4) sc_law.nd rfl (by first | exact Or.inl rfl | exact Or.inr rfl))) (sb_one (ss_if (st_cmp op_ne r_neS (sn_cb c_reprI (pe_callB SkE.call_repr_int (by rfl) T.n_repr (by decide +kernel) (sa_cons (sn_call c_owner hr (by decide) (by rfl) (sa_cons (sn_var 2 (pv 2)) (sa_cons (sn_var 3 (pv 3)) (sa_cons (sn_var 4 (pv 4)) sa_nil))) 0) sa_nil).run)) (sn_cb c_reprI (pe_callB SkE.call_repr_int (by rfl) T.n_repr (by decide +kernel) (sa_cons (sn_call c__law_owner hr (by decide) (by rfl) (sa_cons (sn_var 2 (pv 2)) (sa_cons (sn_var 3 (pv 3)) (sa_cons (sn_var 4 (pv 4)) sa_nil))) 0) sa_nil).run)) (nomark _)) (sb_one (ss_ret (sn_c pe_bl rfl))) sb_nil)))
 (sb_cons (ss_set (i := 5) sc_law.nd rfl (by first | exact Or.inl rfl | exact Or.inr rfl) (sn_call c__law_links hr (by decide) (by rfl) (sa_cons (sn_var 2 (pv 2)) (sa_cons (sn_var 3 (pv 3)) sa_nil)) 0))
 (sb_cons (ss_for PassesOwn.never rfl (si_rng1 (by rfl) T.n_range (sa_cons (sn_bin b_add r_add (sn_cb c_maxQ (pe_callB (cr_maxQ rfl (hu64 hr)) (by rfl) T.n_max (by decide +kernel) (sa_cons (sn_var 3 (pv 3)) sa_nil).run)) (sn_c pe_int rfl)) sa_nil) (pi_range1 (by rfl) T.n_range (sa_cons (sn_bin b_add r_add (sn_cb c_maxQ (pe_callB (cr_maxQ rfl (hu64 hr)) (by rfl) T.n_max (by decide +kernel) (sa_cons (sn_var 3 (pv 3)) sa_nil).run)) (sn_c pe_int rfl)) sa_nil).run)) (sg_name (pg_name (i := 6) sc_law.nd rfl (by first | exact Or.inl rfl | exact Or.inr rfl))) (sb_cons (ss_set (i := 7) sc_law.nd rfl (by first | exact Or.inl rfl | exact Or.inr rfl) (sn_fz (sn_cf c_sortG (pe_callB (cr_sortedG (hu64 hr)) (by rfl) T.n_sorted (by decide +kernel) (sa_cons (sn_fz (sn_lc (own := [("_law_link", 10)]) rfl sc_law.nd (si_seq (sn_var 5 (pv 5))) (blkOk_by (own := [("_law_link", 10)]) (N := n_law) (sc := defScope s_law) (by decide +kernel)) (fun _ _ _ _ _ => (sg_name (pg_name (i := 10) sc_law.nd rfl (by first | exact Or.inl rfl | exact Or.inr rfl)))) (fun _ _ _ _ _ => (pts_test (st_cmp (op_eqD hr.units) r_eq (sn_ix b_ix r_ix (sn_var 10 (pv 10)) (sn_c pe_int rfl) (fun _ _ => rfl)) (sn_var 6 (pv 6)) (nomark _)))) (fun _ _ _ _ _ => (sn_sl (sn_var 10 (pv 10)) (so_some (sn_c pe_int rfl)) so_none)) (by decide))) sa_nil).run))))
 (sb_cons (ss_set (i := 8) sc_law.nd rfl (by first | exact Or.inl rfl | exact Or.inr rfl) (sn_fz (sn_cf c_sortG (pe_callB (cr_sortedG (hu64 hr)) (by rfl) T.n_sorted (by decide +kernel) (sa_cons (sn_fz (sn_lc (own := [("_law_link", 10)]) rfl sc_law.nd (si_seq (sn_var 5 (pv 5))) (blkOk_by (own := [("_law_link", 10)]) (N := n_law) (sc := defScope s_law) (by decide +kernel)) (fun _ _ _ _ _ => (sg_name (pg_name (i := 10) sc_law.nd rfl (by first | exact Or.inl rfl | exact Or.inr rfl)))) (fun _ _ _ _ _ => (pts_test (st_cmp (op_eqD hr.units) r_eq (sn_ix b_ix r_ix (sn_var 10 (pv 10)) (sn_c pe_int rfl) (fun _ _ => rfl)) (sn_var 6 (pv 6)) (nomark _)))) (fun _ _ _ _ _ => (sn_sl (sn_var 10 (pv 10)) (so_some (sn_c pe_int rfl)) so_none)) (by decide))) sa_nil).run))))
 (sb_cons (ss_set (i := 9) sc_law.nd rfl (by first | exact Or.inl rfl | exact Or.inr rfl) (sn_fz (sn_lst (sa_cons (sn_call c_letters_to hr (by decide) (by rfl) (sa_cons (sn_var 2 (pv 2)) (sa_cons (sn_var 3 (pv 3)) (sa_cons (sn_var 6 (pv 6)) sa_nil))) 0) (sa_cons (sn_call c_letters_from hr (by decide) (by rfl) (sa_cons (sn_var 2 (pv 2)) (sa_cons (sn_var 3 (pv 3)) (sa_cons (sn_var 6 (pv 6)) sa_nil))) 0) sa_nil)))))
 (sb_one (ss_if (st_w (sw_or (st_cmp (op_neD hr.units) r_ne (sn_var 9 (pv 9)) (sn_fz (sn_lst (sa_cons (sn_var 7 (pv 7)) (sa_cons (sn_var 8 (pv 8)) sa_nil)))) (nomark _)) (sw_or1 (st_not (st_tru (sn_isi (T := "list") (by decide) (sn_ix b_ix r_ix (sn_var 9 (pv 9)) (sn_c pe_int rfl) (fun _ _ => rfl)) (pe_callB call_isi (by rfl) T.n_isinstance (by decide +kernel) (pa_cons (sn_ix b_ix r_ix (sn_var 9 (pv 9)) (sn_c pe_int rfl) (fun _ _ => rfl)) (pa_cons (pe_bltn (by rfl) T.n_list (by decide +kernel) rfl) pa_nil))))))))) (sb_one (ss_ret (sn_c pe_bl rfl))) sb_nil))))))
 (sb_one (ss_ret (sn_c pe_bl rfl))))))))))))
end
end C
set_option Elab.async false
set_option linter.all false
set_option maxRecDepth 100000
namespace C
open PySem L2 Z
/-! ### the stream -/
/-- the two objects of a stream -/
def SP (x y : MO) : Prop := ∃ (cp : List Int) (a b m : Int), (x = .lst (cp.map .int) ∧ y = .lst [.ref 0, .int a, .int b, .int m]) ∧ 0 ≤ a ∧ 0 ≤ b ∧ 0 ≤ m
theorem SP.bel {x y : MO} (h : SP x y) : belowO 2 x = true ∧ belowO 2 y = true := by
  obtain ⟨cp, a, b, m, ⟨rfl, rfl⟩, ha, hb, hm⟩ := h
  simp
theorem draw_ok {x y : MO} (h : SP x y) {n : Int} (h0 : 0 < n) (h1 : n < 1073741824) : wp (f__law_draw [.ref 1, .int n]) [x, y] fun d S' => ∃ x' y', S' = [x', y'] ∧ SP x' y' ∧ ∃ r, d = .int r ∧ 0 ≤ r ∧ r < n := by
  obtain ⟨cp, a, b, m, ⟨rfl, rfl⟩, ha, hb, hm⟩ := h
  unfold f__law_draw b__law_draw
  have hl : (List.map D.int cp).length = cp.length := by simp
  by_cases h2 : a = 0
  · subst h2
    by_cases h3 : b < cp.length
    · have h4 : atI (List.map D.int cp) b = some (.int cp[b.toNat]!) := by
        rw [atI_nn hb, List.getElem?_map]
        have : b.toNat < cp.length := by omega
        simp [this]
      generalize cp[b.toNat]! = c at h4
      have hc : 0 ≤ (if c < 0 then -c else c) := by split <;> omega
      by_cases h5 : (if c < 0 then -c else c) = 0
      · simp [startD_eq, h3, h4, h5]
        refine ⟨h0, _, _, ⟨rfl, rfl⟩, ⟨_, _, _, _, ⟨rfl, rfl⟩, by omega, by omega, by omega⟩, Int.emod_nonneg _ (by omega), Int.emod_lt_of_pos _ h0⟩
      · simp [startD_eq, h3, h4, h5]
        refine ⟨h0, ⟨h0, h1⟩, _, _, ⟨rfl, rfl⟩, ⟨_, _, _, _, ⟨rfl, rfl⟩, Int.ediv_nonneg hc (by omega), by omega, by omega⟩, Int.emod_nonneg _ (by omega), Int.emod_lt_of_pos _ h0⟩
    · simp [startD_eq, h3]
      refine ⟨h0, _, _, ⟨rfl, rfl⟩, ⟨_, _, _, _, ⟨rfl, rfl⟩, by omega, by omega, by omega⟩, Int.emod_nonneg _ (by omega), Int.emod_lt_of_pos _ h0⟩
  · simp [startD_eq, h2]
    refine ⟨h0, ⟨h0, h1⟩, _, _, ⟨rfl, rfl⟩, ⟨_, _, _, _, ⟨rfl, rfl⟩, Int.ediv_nonneg ha (by omega), by omega, by omega⟩, Int.emod_nonneg _ (by omega), Int.emod_lt_of_pos _ h0⟩
theorem draw_c {x y : MO} (h : SP x y) {n : Int} (h0 : 0 < n) (h1 : n < 1073741824) {rest : Store} {Q : D → Store → Prop} (q : ∀ x' y' r, SP x' y' → 0 ≤ r → r < n → Q (.int r) (x' :: y' :: rest)) : wp (callF 2 f__law_draw [.ref 1, .int n]) (x :: y :: rest) Q :=
  wp_call2 h.bel.1 h.bel.2 (by simp [nrs]) (draw_ok h h0 h1) fun x' y' d hs ⟨r, e, h0, h1⟩ => by subst e; exact q x' y' r hs h0 h1
theorem stream_ok (ns : List Int) : wp (f__law_stream [.scr ns]) [] fun d S => d = .ref 1 ∧ ∃ x y, S = [x, y] ∧ SP x y := by
  unfold f__law_stream b__law_stream
  simp [startD_eq]
  refine forL_map (fun i ρ S => S = [] ∧ ∃ c m, ρ = [some (.scr ns), some (.int m), c] ∧ 0 ≤ m) _ _ ⟨rfl, _, _, rfl, by omega⟩ ?_ ?_
  · rintro i a ρ S ha ⟨rfl, c, m, rfl, hm⟩
    simp
    exact ⟨_, _, ⟨rfl, rfl⟩, by omega⟩
  · rintro ρ S ⟨rfl, c, m, rfl, hm⟩
    simp
    exact ⟨_, _, ⟨rfl, rfl⟩, ns, 0, 0, m, ⟨rfl, rfl⟩, by omega, by omega, hm⟩
theorem pick3 {a b c r : Int} (h0 : 0 ≤ r) (h1 : r < 3) : ∃ m : Int, atI [D.int a, D.int b, D.int c] r = some (.int m) ∧ (m = a ∨ m = b ∨ m = c) := by
  have : r = 0 ∨ r = 1 ∨ r = 2 := by omega
  rcases this with rfl | rfl | rfl
  · exact ⟨a, rfl, .inl rfl⟩
  · exact ⟨b, rfl, .inr (.inl rfl)⟩
  · exact ⟨c, rfl, .inr (.inr rfl)⟩
theorem pick4 {a b c d r : Int} (h0 : 0 ≤ r) (h1 : r < 4) : ∃ m : Int, atI [D.int a, D.int b, D.int c, D.int d] r = some (.int m) ∧ (m = a ∨ m = b ∨ m = c ∨ m = d) := by
  have : r = 0 ∨ r = 1 ∨ r = 2 ∨ r = 3 := by omega
  rcases this with rfl | rfl | rfl | rfl
  · exact ⟨a, rfl, .inl rfl⟩
  · exact ⟨b, rfl, .inr (.inl rfl)⟩
  · exact ⟨c, rfl, .inr (.inr (.inl rfl))⟩
  · exact ⟨d, rfl, .inr (.inr (.inr rfl))⟩
theorem pick2 {a b r : Int} (h0 : 0 ≤ r) (h1 : r < 2) : ∃ m : Int, atI [D.int a, D.int b] r = some (.int m) ∧ (m = a ∨ m = b) := by
  have : r = 0 ∨ r = 1 := by omega
  rcases this with rfl | rfl
  · exact ⟨a, rfl, .inl rfl⟩
  · exact ⟨b, rfl, .inr rfl⟩
/-! ### nets -/
def eIs (xs : List Int) : D := .tup (xs.map .int)
inductive Rule where
  | ord (xs : List Int)
  | lig (ps : List (Int × List Int))
def ePh (p : Int × List Int) : D := .tup [.int p.1, eIs p.2]
def eRule : Rule → D
  | .ord xs => .tup [.str (PySem.Str.ofString "order"), .tup (xs.map .int)]
  | .lig ps => .tup [.str (PySem.Str.ofString "lights"), .tup (ps.map ePh)]
def Rule.ok (cl : List Int) : Rule → Prop
  | .ord xs => xs.Perm cl
  | .lig ps => ps ≠ [] ∧ ps.length ≤ 4 ∧ (∀ p ∈ ps, 1 ≤ p.1 ∧ p.1 ≤ 9) ∧ ∀ p ∈ ps, p.2.Sublist cl
@[simp] theorem nr_eIs {xs : List Int} : nr (eIs xs) = true := by simp [eIs]
@[simp] theorem nr_ePh {p : Int × List Int} : nr (ePh p) = true := by simp [ePh]
@[simp] theorem nr_eRule {r : Rule} : nr (eRule r) = true := by cases r <;> simp [eRule]
end C
set_option Elab.async false
set_option linter.all false
set_option maxRecDepth 100000
namespace C
open PySem L2 Z
end C
set_option Elab.async false
set_option linter.all false
set_option maxRecDepth 100000
namespace C
open PySem L2 Z
abbrev Road := Int × Int × Int × Int
def eRoad (r : Road) : D := .tup [.int r.1, .int r.2.1, .int r.2.2.1, .int r.2.2.2]
structure Net where
  roads : List Road
  cross : List (Rule × List Int)
def eCr (c : Rule × List Int) : D := .tup [eRule c.1, eIs c.2]
def eNet (n : Net) : D := .tup [.tup (n.roads.map eRoad), .tup (n.cross.map eCr)]
/-- the roads that end at a crossing -/
def closing (rs : List Road) (k : Int) : List Int := ((List.range rs.length).filter fun i => ((rs[i]?.map fun r : Road => r.2.2.2 == k).getD false)).map fun i : Nat => (i : Int)
def Road.ok (nc : Nat) (r : Road) : Prop := 1 ≤ r.1 ∧ r.1 ≤ 3 ∧ 2 ≤ r.2.1 ∧ r.2.1 ≤ 20 ∧ 1 ≤ r.2.2.1 ∧ r.2.2.1 ≤ 5 ∧ -1 ≤ r.2.2.2 ∧ r.2.2.2 < nc
structure Net.ok (n : Net) : Prop where
  many : 1 ≤ n.roads.length
  few : n.roads.length ≤ 12
  cfew : n.cross.length ≤ 8
  road : ∀ r ∈ n.roads, r.ok n.cross.length
  rule : ∀ (k : Nat) c, n.cross[k]? = some c → c.1.ok (closing n.roads k)
  outs : ∀ c ∈ n.cross, c.2.length ≤ 4 ∧ ∀ o ∈ c.2, 0 ≤ o ∧ o < n.roads.length
  disj : ∀ (k1 k2 : Nat) c1 c2, n.cross[k1]? = some c1 → n.cross[k2]? = some c2 → ∀ o, o ∈ c1.2 → o ∈ c2.2 → k1 = k2
/-- each road below i is in one list at most -/
def DJ (i : Nat) (os : List (List Int)) : Prop := (∀ c ∈ os, ∀ o ∈ c, o < (i : Int)) ∧ ∀ (b1 b2 : Nat) o1 o2, os[b1]? = some o1 → os[b2]? = some o2 → ∀ z, z ∈ o1 → z ∈ o2 → b1 = b2
theorem DJ.zero {k : Nat} : DJ 0 (List.replicate k []) := by
  refine ⟨fun c hc o ho => ?_, fun b1 b2 o1 o2 h1 _ z hz => ?_⟩
  · rw [List.eq_of_mem_replicate hc] at ho; cases ho
  · rw [List.eq_of_mem_replicate (List.mem_of_getElem? h1)] at hz; cases hz
theorem DJ.keep {i : Nat} {os : List (List Int)} (h : DJ i os) : DJ (i + 1) os := ⟨fun c hc o ho => by have := h.1 c hc o ho; omega, h.2⟩
theorem DJ.put {i b : Nat} {os : List (List Int)} {o : List Int} (h : DJ i os) (hb : os[b]? = some o) : DJ (i + 1) (os.set b (o ++ [(i : Int)])) := by
  have hbl := (List.getElem?_eq_some_iff.mp hb).1
  have old : ∀ c ∈ os, ∀ z ∈ c, z < (i : Int) := h.1
  have get : ∀ (j : Nat) c, (os.set b (o ++ [(i : Int)]))[j]? = some c → (j = b ∧ c = o ++ [(i : Int)]) ∨ (j ≠ b ∧ os[j]? = some c) := fun j c hc => by
    by_cases e : j = b
    · subst e
      rw [List.getElem?_set_self hbl] at hc
      cases hc; exact .inl ⟨rfl, rfl⟩
    · rw [List.getElem?_set_ne (Ne.symm e)] at hc
      exact .inr ⟨e, hc⟩
  refine ⟨fun c hc z hz => ?_, fun b1 b2 o1 o2 h1 h2 z z1 z2 => ?_⟩
  · rcases List.mem_or_eq_of_mem_set hc with hc | rfl
    · have := old c hc z hz; omega
    · rcases List.mem_append.mp hz with hz | hz
      · have := old o (List.mem_of_getElem? hb) z hz; omega
      · rw [List.mem_singleton] at hz; omega
  · rcases get b1 o1 h1 with ⟨e1, rfl⟩ | ⟨e1, g1⟩
    · rcases get b2 o2 h2 with ⟨e2, rfl⟩ | ⟨e2, g2⟩
      · rw [e1, e2]
      · rcases List.mem_append.mp z1 with z1 | z1
        · rw [e1]; exact h.2 b b2 o o2 hb g2 z z1 z2
        · rw [List.mem_singleton] at z1
          have := old o2 (List.mem_of_getElem? g2) z z2; omega
    · rcases get b2 o2 h2 with ⟨e2, rfl⟩ | ⟨e2, g2⟩
      · rcases List.mem_append.mp z2 with z2 | z2
        · rw [e2]; exact h.2 b1 b o1 o g1 hb z z1 z2
        · rw [List.mem_singleton] at z2
          have := old o1 (List.mem_of_getElem? g1) z z1; omega
      · exact h.2 b1 b2 o1 o2 g1 g2 z z1 z2
def Outs (cr : List (Rule × List Int)) (os : List (List Int)) : Prop := ∀ (k : Nat) c, cr[k]? = some c → os[k]? = some c.2
theorem Outs.nil {os : List (List Int)} : Outs [] os := fun k c h => by simp at h
theorem Outs.put {cr : List (Rule × List Int)} {os : List (List Int)} {r : Rule} {o : List Int} (h : Outs cr os) (ho : os[cr.length]? = some o) : Outs (cr ++ [(r, o)]) os := fun k c hk => by
  rcases Nat.lt_or_ge k cr.length with hlt | hge
  · rw [List.getElem?_append_left hlt] at hk; exact h k c hk
  · rw [List.getElem?_append_right hge] at hk
    rcases Nat.lt_or_ge (k - cr.length) 1 with h1 | h1
    · have : k = cr.length := by omega
      subst this
      simp at hk
      subst hk
      exact ho
    · rw [List.getElem?_eq_none (by simpa using h1)] at hk; cases hk
@[simp] theorem nr_eRoad {r : Road} : nr (eRoad r) = true := by simp [eRoad]
@[simp] theorem nr_eCr {r : Rule × List Int} : nr (eCr r) = true := by simp [eCr]
@[simp] theorem nr_eNet {r : Net} : nr (eNet r) = true := by simp [eNet]
/-- the store while a net is made -/
def OS (x y : MO) (rd : List D) (os : List (List Int)) (rest : Store) : Store := x :: y :: .lst rd :: (os.map (fun o => MO.lst (o.map .int)) ++ .lst ((List.range os.length).map fun i => .ref (3 + i)) :: rest)
section
variable {x y : MO} {rd : List D} {os : List (List Int)} {rest : Store}
@[simp] theorem OS_2 : (OS x y rd os rest)[2]? = some (.lst rd) := rfl
@[simp] theorem OS_n : (OS x y rd os rest)[3 + os.length]? = some (.lst ((List.range os.length).map fun i => .ref (3 + i))) := by
  unfold OS
  rw [show 3 + os.length = os.length + 1 + 1 + 1 by omega]
  simp
theorem OS_i {i : Nat} {o : List Int} (h : os[i]? = some o) : (OS x y rd os rest)[3 + i]? = some (.lst (o.map .int)) := by
  unfold OS
  have hi : i < os.length := (List.getElem?_eq_some_iff.mp h).1
  rw [show 3 + i = i + 1 + 1 + 1 by omega]
  simp only [List.getElem?_cons_succ]
  rw [List.getElem?_append_left (by simpa using hi), List.getElem?_map, h]
  rfl
theorem OS_set2 {v : List D} : (OS x y rd os rest).set 2 (.lst v) = OS x y v os rest := rfl
theorem OS_seti {i : Nat} {o : List Int} (h : i < os.length) : (OS x y rd os rest).set (3 + i) (.lst (o.map .int)) = OS x y rd (os.set i o) rest := by
  unfold OS
  rw [show 3 + i = i + 1 + 1 + 1 by omega]
  simp only [List.set_cons_succ]
  rw [List.set_append_left _ _ (by simpa using h)]
  simp [List.map_set]
@[simp] theorem OS_r {v : MO} {more : Store} : (OS x y rd os (v :: more))[4 + os.length]? = some v := by
  unfold OS
  rw [show 4 + os.length = os.length + 1 + 1 + 1 + 1 by omega]
  simp only [List.getElem?_cons_succ]
  rw [List.getElem?_append_right (by simp)]
  simp
@[simp] theorem OS_len : (OS x y rd os rest).length = 4 + os.length + rest.length := by simp [OS]; omega
@[simp] theorem OS_app {more : Store} : OS x y rd os rest ++ more = OS x y rd os (rest ++ more) := by simp [OS]
@[simp] theorem OS_take : (OS x y rd os rest).take 2 = [x, y] := rfl
theorem OS_setr {v w : MO} {more : Store} : (OS x y rd os (v :: more)).set (4 + os.length) w = OS x y rd os (w :: more) := by
  unfold OS
  rw [show 4 + os.length = os.length + 1 + 1 + 1 + 1 by omega]
  simp only [List.set_cons_succ]
  rw [List.set_append_right _ _ (by simp)]
  simp
end
theorem draw_o {x y : MO} (h : SP x y) {n : Int} (h0 : 0 < n) (h1 : n < 1073741824) {rd : List D} {os : List (List Int)} {rest : Store} {Q : D → Store → Prop} (q : ∀ x' y' r, SP x' y' → 0 ≤ r → r < n → Q (.int r) (OS x' y' rd os rest)) : wp (callF 2 f__law_draw [.ref 1, .int n]) (OS x y rd os rest) Q := draw_c h h0 h1 q
theorem closing_len (rs : List Road) (k : Int) : (closing rs k).length ≤ rs.length := by
  unfold closing
  rw [List.length_map]
  exact Nat.le_trans (List.length_filter_le _ _) (by simp)
theorem pickb {a b : Int} {p : Prop} [Decidable p] : ∃ m : Int, atI [D.int a, D.int b] (if p then 1 else 0) = some (.int m) ∧ (m = a ∨ m = b) := by
  by_cases h : p
  · rw [if_pos h]; exact ⟨b, rfl, .inr rfl⟩
  · rw [if_neg h]; exact ⟨a, rfl, .inl rfl⟩
end C
set_option Elab.async false
set_option linter.all false
set_option maxRecDepth 100000
/-! Plain data of any kind, not deep. -/
namespace Z
open PySem L2
def sm : Nat → D → Bool
  | 0, .tup _ | 0, .lst _ => false
  | _, .ref _ => false
  | _, .scr _ => false
  | _, .tpi _ => false
  | _, .tpx _ => false
  | _, .dcf _ => false
  | _, .str x => PyData.strOk x && x.cps.toList.all (fun c => decide (c < 4294967296))
  | _, .int i => decide (i.natAbs < 1000000000000)
  | k + 1, .tup xs => xs.all (sm k)
  | k + 1, .lst xs => xs.all (sm k)
  | _, _ => true
@[simp] theorem sm_int {k : Nat} {i : Int} : sm k (.int i) = decide (i.natAbs < 1000000000000) := by cases k <;> rfl
@[simp] theorem sm_bl {k : Nat} {b : Bool} : sm k (.bl b) = true := by cases k <;> rfl
@[simp] theorem sm_non {k : Nat} : sm k .non = true := by cases k <;> rfl
@[simp] theorem sm_str {k : Nat} {x : Str} : sm k (.str x) = (PyData.strOk x && x.cps.toList.all (fun c => decide (c < 4294967296))) := by cases k <;> rfl
@[simp] theorem sm_tup {k : Nat} {xs : List D} : sm (k + 1) (.tup xs) = xs.all (sm k) := by simp [sm]
@[simp] theorem sm_lst {k : Nat} {xs : List D} : sm (k + 1) (.lst xs) = xs.all (sm k) := by simp [sm]
@[simp] theorem sm_ref {k n : Nat} : sm k (.ref n) = false := by cases k <;> rfl
@[simp] theorem sm_scr {k : Nat} {x : List Int} : sm k (.scr x) = false := by cases k <;> rfl
@[simp] theorem sm_tpx {k : Nat} {x : List D} : sm k (.tpx x) = false := by cases k <;> rfl
@[simp] theorem sm_dcf {k : Nat} {x} : sm k (.dcf x) = false := by cases k <;> rfl
@[simp] theorem sm_tpi {k : Nat} {x : List Int} : sm k (.tpi x) = false := by cases k <;> rfl
def bk (d : D) : Nat := (toP d).bulk
def bks (xs : List D) : Nat := PyData.bulkAll (toPs xs)
@[simp] theorem bks_nil : bks [] = 0 := rfl
@[simp] theorem bks_cons {x : D} {xs : List D} : bks (x :: xs) = bk x + 1 + bks xs := rfl
@[simp] theorem bk_tup {xs : List D} : bk (.tup xs) = bks xs := rfl
@[simp] theorem bk_lst {xs : List D} : bk (.lst xs) = bks xs := rfl
@[simp] theorem bk_int {i : Int} : bk (.int i) = 0 := rfl
@[simp] theorem bk_bl {b : Bool} : bk (.bl b) = 0 := rfl
@[simp] theorem bk_non : bk .non = 0 := rfl
@[simp] theorem bks_append : ∀ {xs ys : List D}, bks (xs ++ ys) = bks xs + bks ys
  | [], ys => by simp
  | x :: xs, ys => by simp [bks_append (xs := xs) (ys := ys)]; omega
theorem bks_len : ∀ xs : List D, xs.length ≤ bks xs
  | [] => by simp
  | x :: xs => by have := bks_len xs; simp; omega
theorem bks_split {xs : List D} (i : Nat) : bks xs = bks (xs.take i) + bks (xs.drop i) := by
  rw [← bks_append, List.take_append_drop]
theorem bks_get {xs : List D} {i : Nat} {x : D} (h : xs[i]? = some x) : bks xs = bks (xs.take i) + (bk x + 1 + bks (xs.drop (i + 1))) := by
  rw [bks_split i]
  congr 1
  obtain ⟨h1, h2⟩ := List.getElem?_eq_some_iff.mp h
  rw [List.drop_eq_getElem_cons h1, h2]
  rfl
theorem sm_mono : ∀ {k k' : Nat} {d : D}, k ≤ k' → sm k d = true → sm k' d = true := by
  intro k
  induction k with
  | zero =>
    intro k' d hk h
    cases d <;> first | (simpa using h) | (simp [sm] at h)
  | succ k ih =>
    intro k' d hk h
    obtain ⟨k', rfl⟩ : ∃ j, k' = j + 1 := ⟨k' - 1, by omega⟩
    cases d with
    | tup xs =>
      simp only [sm_tup, List.all_eq_true] at h ⊢
      exact fun x hx => ih (by omega) (h x hx)
    | lst xs =>
      simp only [sm_lst, List.all_eq_true] at h ⊢
      exact fun x hx => ih (by omega) (h x hx)
    | _ => simpa using h
theorem sm_Sm : ∀ (k : Nat) {d : D}, sm k d = true → nr d = true ∧ (toP d).showable = true ∧ (toP d).hasDict = false ∧ (toP d).depth ≤ k ∧ (toP d).leavesShort 13 = true := by
  have int : ∀ (k : Nat) (i : Int), i.natAbs < 1000000000000 → nr (.int i) = true ∧ (toP (.int i)).showable = true ∧ (toP (.int i)).hasDict = false ∧ (toP (.int i)).depth ≤ k ∧ (toP (.int i)).leavesShort 13 = true := fun k i h => by
    have h1 := Sm.int (k := k) (w := 0) (i := i) h
    exact ⟨h1.nr, h1.sh, h1.nd, h1.dp, h1.lv⟩
  have str : ∀ (k : Nat) (x : Str), (PyData.strOk x && x.cps.toList.all (fun c => decide (c < 4294967296))) = true → nr (.str x) = true ∧ (toP (.str x)).showable = true ∧ (toP (.str x)).hasDict = false ∧ (toP (.str x)).depth ≤ k ∧ (toP (.str x)).leavesShort 13 = true := fun k x h => by
    rw [Bool.and_eq_true] at h
    refine ⟨rfl, rfl, rfl, Nat.zero_le _, ?_⟩
    simpa [toP, PyData.leavesShort] using h.2
  have all : ∀ (k : Nat) (xs : List D), (∀ x ∈ xs, nr x = true ∧ (toP x).showable = true ∧ (toP x).hasDict = false ∧ (toP x).depth ≤ k ∧ (toP x).leavesShort 13 = true) →
      nrs xs = true ∧ PyData.showableAll (toPs xs) = true ∧ PyData.hasDictAll (toPs xs) = false ∧ PyData.depthAll (toPs xs) ≤ k ∧ PyData.leavesShortAll 13 (toPs xs) = true := by
    intro k xs
    induction xs with
    | nil => intro _; simp [nrs, toPs, PyData.showableAll, PyData.hasDictAll, PyData.depthAll, PyData.leavesShortAll]
    | cons x xs ih =>
      intro h
      obtain ⟨a1, a2, a3, a4, a5⟩ := h x List.mem_cons_self
      obtain ⟨b1, b2, b3, b4, b5⟩ := ih fun y hy => h y (List.mem_cons_of_mem _ hy)
      refine ⟨by simp [nrs, a1, b1], by simp [toPs, PyData.showableAll, a2, b2], by simp [toPs, PyData.hasDictAll, a3, b3], ?_, by simp [toPs, PyData.leavesShortAll, a5, b5]⟩
      simp only [toPs, PyData.depthAll]
      omega
  intro k
  induction k with
  | zero =>
    intro d h
    cases d with
    | int i => exact int 0 i (by simpa using h)
    | str x => exact str 0 x (by simpa using h)
    | bl b => exact ⟨rfl, rfl, rfl, Nat.le_refl _, rfl⟩
    | non => exact ⟨rfl, rfl, rfl, Nat.le_refl _, rfl⟩
    | tup xs => cases h
    | tpx xs => cases h
    | dcf xs => cases h
    | lst xs => cases h
    | ref n => cases h
    | scr x => cases h
    | tpi x => cases h
  | succ k ih =>
    intro d h
    cases d with
    | int i => exact int _ i (by simpa using h)
    | str x => exact str _ x (by simpa using h)
    | bl b => exact ⟨rfl, rfl, rfl, Nat.zero_le _, rfl⟩
    | non => exact ⟨rfl, rfl, rfl, Nat.zero_le _, rfl⟩
    | tup xs =>
      simp only [sm_tup, List.all_eq_true] at h
      obtain ⟨a1, a2, a3, a4, a5⟩ := all k xs fun x hx => ih (h x hx)
      exact ⟨by simpa [Z.nr] using a1, by simpa [toP, PyData.showable] using a2, by simpa [toP, PyData.hasDict] using a3, by simp only [toP, PyData.depth]; omega, by simpa [toP, PyData.leavesShort] using a5⟩
    | lst xs =>
      simp only [sm_lst, List.all_eq_true] at h
      obtain ⟨a1, a2, a3, a4, a5⟩ := all k xs fun x hx => ih (h x hx)
      exact ⟨by simpa [Z.nr] using a1, by simpa [toP, PyData.showable] using a2, by simpa [toP, PyData.hasDict] using a3, by simp only [toP, PyData.depth]; omega, by simpa [toP, PyData.leavesShort] using a5⟩
    | ref n => cases h
    | scr x => cases h
    | tpi x => cases h
    | tpx x => cases h
    | dcf x => cases h
structure Gd (k b : Nat) (d : D) : Prop where
  sm : sm k d = true
  bk : bk d ≤ b
theorem Gd.up {k b k' b' : Nat} {d : D} (h : Gd k b d) (hk : k ≤ k') (hb : b ≤ b') : Gd k' b' d := ⟨sm_mono hk h.sm, Nat.le_trans h.bk hb⟩
theorem Gd.nr {k b : Nat} {d : D} (h : Gd k b d) : nr d = true := (sm_Sm k h.sm).1
theorem Gd.strD {k b : Nat} {d : D} (h : Gd k b d) (hk : k ≤ 60) (hb : b ≤ 1000000) : ∃ t, strD d = some t := by
  obtain ⟨a1, a2, a3, a4, a5⟩ := sm_Sm k h.sm
  have hS : Sm k b d := ⟨a1, a2, a3, a4, a5, h.bk⟩
  cases d with
  | non => exact ⟨_, rfl⟩
  | bl b => exact ⟨_, rfl⟩
  | str x => exact ⟨_, rfl⟩
  | int i =>
    have : i.natAbs.log2 < 1920 := by simpa [toP, PyData.showable] using a2
    exact ⟨Str.ofString (toString i), by simp only [Z.strD, this, if_true]⟩
  | tup xs => exact ⟨(toP (.tup xs)).shown, by simp only [Z.strD, hS.show rfl hk hb, if_true]⟩
  | lst xs => exact ⟨(toP (.lst xs)).shown, by simp only [Z.strD, hS.show rfl hk hb, if_true]⟩
  | ref n => have := h.sm; simp at this
  | scr x => have := h.sm; simp at this
  | tpi x => have := h.sm; simp at this
  | tpx x => have := h.sm; simp at this
  | dcf x => have := h.sm; simp at this
end Z
set_option Elab.async false
set_option linter.all false
set_option maxRecDepth 100000
/-! Readings of any data. -/
namespace C
open PySem L2 Z
abbrev G (d : D) : Prop := ∃ k, Gd k 100000 d
def numB (d : D) (a b : Int) : Bool := match d with
  | .int i => decide (a ≤ i) && decide (i ≤ b)
  | _ => false
def tupB (d : D) (m : Int) : Bool := match d with
  | .tup xs => decide ((xs.length : Int) ≤ m)
  | _ => false
def isT (d : D) : Bool := match d with
  | .tup _ => true
  | _ => false
def isS (d : D) : Bool := match d with
  | .str _ => true
  | _ => false
def items (d : D) : List D := match d with
  | .tup xs => xs
  | _ => []
def ivD (d : D) : Int := match d with
  | .int i => i
  | _ => 0
@[simp] theorem ivD_int {i : Int} : ivD (.int i) = i := rfl
@[simp] theorem items_tup {xs : List D} : items (.tup xs) = xs := rfl
@[simp] theorem isT_tup {xs : List D} : isT (.tup xs) = true := rfl
@[simp] theorem isS_str {x : Str} : isS (.str x) = true := rfl
theorem isT_ex {d : D} (h : isT d = true) : ∃ xs, d = .tup xs := by
  cases d with
  | tup xs => exact ⟨xs, rfl⟩
  | _ => cases h
theorem isS_ex {d : D} (h : isS d = true) : ∃ xs, d = .str xs := by
  cases d with
  | str xs => exact ⟨xs, rfl⟩
  | _ => cases h
theorem bk_in : ∀ {xs : List D} {x : D}, x ∈ xs → bk x ≤ bks xs
  | y :: ys, x, h => by
    rcases List.mem_cons.mp h with rfl | h
    · simp; omega
    · have := bk_in h; simp; omega
theorem G.nr {d : D} (h : G d) : nr d = true := let ⟨_, h⟩ := h; h.nr
theorem G.kid {xs : List D} (h : G (.tup xs)) {x : D} (hx : x ∈ xs) : G x := by
  obtain ⟨k, h⟩ := h
  cases k with
  | zero => have := h.sm; cases this
  | succ k =>
    have h1 := h.sm
    simp only [sm_tup, List.all_eq_true] at h1
    exact ⟨k, h1 x hx, Nat.le_trans (bk_in hx) h.bk⟩
theorem G.len {xs : List D} (h : G (.tup xs)) : xs.length ≤ 100000 := let ⟨_, h⟩ := h; Nat.le_trans (bks_len xs) h.bk
theorem G.str {x : Str} (h : G (.str x)) : PyData.strOk x = true := by
  obtain ⟨k, h⟩ := h
  have := h.sm
  simp only [sm_str, Bool.and_eq_true] at this
  exact this.1
theorem G.ty {d : D} (h : G d) {S : Store} : ∃ t, tyD S d = some t ∧ isiB t "tuple" = isT d ∧ isiB t "str" = isS d := by
  obtain ⟨k, h⟩ := h
  have hs := h.sm
  cases d with
  | ref n => simp at hs
  | scr n => simp at hs
  | tpi n => simp at hs
  | tpx n => simp at hs
  | dcf n => simp at hs
  | tup xs => exact ⟨_, rfl, by simp [isiB], by simp [isiB, isS]⟩
  | non => exact ⟨_, rfl, by simp [isiB, isT], by simp [isiB, isS]⟩
  | bl b => exact ⟨_, rfl, by simp [isiB, isT], by simp [isiB, isS]⟩
  | int b => exact ⟨_, rfl, by simp [isiB, isT], by simp [isiB, isS]⟩
  | str b => exact ⟨_, rfl, by simp [isiB, isT], by simp [isiB]⟩
  | lst b => exact ⟨_, rfl, by simp [isiB, isT], by simp [isiB, isS]⟩
theorem isi_T : isiB "tuple" "tuple" = true := by simp [isiB]
theorem isi_S : isiB "str" "str" = true := by simp [isiB]
theorem tupB_no {d : D} (h : isT d = false) {m : Int} : tupB d m = false := by
  unfold tupB
  cases d with
  | tup xs => cases h
  | _ => rfl
theorem is_whole_d {d : D} (h : G d) {a b : Int} {S : Store} {Q : D → Store → Prop} (q : Q (.bl (numB d a b)) S) : wp (callF 0 f_is_whole [d, .int a, .int b]) S Q := by
  refine wp_call0 (by simp [nrs, h.nr]) ?_
  obtain ⟨k, h⟩ := h
  have h := h.sm
  unfold f_is_whole b_is_whole
  cases d with
  | int i =>
    by_cases h : a ≤ i
    · simp [startD_eq, tyD, isiB, h, numB] at q ⊢
      exact q
    · simp [startD_eq, tyD, isiB, h, numB] at q ⊢
      exact q
  | ref n => simp at h
  | scr x => simp at h
  | tpi x => simp at h
  | tpx x => simp at h
  | dcf x => simp at h
  | _ => simpa [startD_eq, tyD, isiB, numB] using q
theorem is_list_d {d : D} (h : G d) {m : Int} {S : Store} {Q : D → Store → Prop} (q : Q (.bl (tupB d m)) S) : wp (callF 0 f_is_list [d, .int m]) S Q := by
  refine wp_call0 (by simp [nrs, h.nr]) ?_
  obtain ⟨k, h⟩ := h
  have h := h.sm
  unfold f_is_list b_is_list
  cases d with
  | tup xs => simpa [startD_eq, tyD, isiB, tupB] using q
  | ref n => simp at h
  | scr x => simp at h
  | tpi x => simp at h
  | tpx x => simp at h
  | dcf x => simp at h
  | _ => simpa [startD_eq, tyD, isiB, tupB] using q
theorem all_c {vs : List Nat} {g : Tg} {ok : Store → Bool} {e : ME} {ρ : Z.Env} {Q : List D → Store → Prop} {S : Store} (f : D → D) (as : List D) (ho : ok S = true)
    (h : ∀ a ∈ as, ∃ ρ', g.put a (wipeD ρ vs) = some ρ' ∧ (wp (e ρ') S fun d S' => d = f a ∧ S' = S)) (q : Q (as.map f) S) : wp (mLcL vs g ok mTrue e ρ as) S Q := by
  have := lcL_all (vs := vs) (g := g) (e := e) (ρ := ρ) (Q := Q) (fun d : D => d) f as ho h q
  simpa using this
theorem blsOf_f {xs : List D} {f : D → Bool} : blsOf (xs.map fun d => D.bl (f d)) = some (xs.map f) := by
  rw [show (xs.map fun d => D.bl (f d)) = (xs.map f).map .bl by simp, blsOf_map]
theorem mem_f {xs : List D} {f : D → Bool} : false ∈ xs.map f ↔ xs.all f = false := by
  rw [← Bool.not_eq_true, List.all_eq_true, List.mem_map]
  constructor
  · rintro ⟨a, h1, h2⟩ h
    have := h a h1
    rw [h2] at this
    cases this
  · intro h
    by_cases hh : ∃ a, a ∈ xs ∧ f a = false
    · exact hh
    · exact (h fun x hx => by
        cases hf : f x with
        | true => rfl
        | false => exact (hh ⟨x, hx, hf⟩).elim).elim
@[simp] theorem wps_raise {c : Str} {ρ : Z.Env} {S : Store} {Q} : wps (mRaise c) ρ S Q ↔ Q (.ex c) S := ⟨fun ⟨o, S', e, q⟩ => by cases e; exact q, fun q => ⟨_, _, rfl, q⟩⟩
theorem numB_ex {d : D} {a b : Int} (h : numB d a b = true) : d = .int (ivD d) ∧ a ≤ ivD d ∧ ivD d ≤ b := by
  cases d with
  | int i =>
    simp [numB] at h
    exact ⟨rfl, h⟩
  | _ => simp [numB] at h
theorem ints_of {a b : Int} : ∀ {xs : List D}, xs.all (fun x => numB x a b) = true → xs = (xs.map ivD).map .int
  | [], _ => rfl
  | x :: xs, h => by
    rw [List.all_cons, Bool.and_eq_true] at h
    rw [List.map_cons, List.map_cons, ← (numB_ex h.1).1, ← ints_of h.2]
theorem ints_bd {a b : Int} {xs : List D} (h : xs.all (fun x => numB x a b) = true) : ∀ n ∈ xs.map ivD, a ≤ n ∧ n ≤ b := fun n hn => by
  obtain ⟨x, hx, rfl⟩ := List.mem_map.mp hn
  exact (numB_ex (List.all_eq_true.mp h x hx)).2
theorem eqvs_ints : ∀ {ns ms : List Int}, PyData.eqvAll (toPs (ns.map .int)) (toPs (ms.map .int)) = decide (ns = ms)
  | [], [] => rfl
  | [], m :: ms => rfl
  | n :: ns, [] => rfl
  | n :: ns, m :: ms => by
    have := eqvs_ints (ns := ns) (ms := ms)
    by_cases h : n = m <;> simp [toPs, toP, PyData.eqvAll, PyData.eqv, this, h]
theorem fit_ints {ns : List Int} {k : Nat} : fit (k + 1) (.lst (ns.map .int)) = true := by simp
theorem eqD_ints {ns ms : List Int} {S : Store} : eqD S (.lst (ns.map .int)) (.lst (ms.map .int)) = some (decide (ns = ms)) := by
  rw [eqD_see (rs_fit (m := 1) fit_ints) (rs_fit (m := 1) fit_ints) fit_ints fit_ints]
  simp only [toP, PyData.eqv, eqvs_ints]
end C
set_option Elab.async false
set_option linter.all false
set_option maxRecDepth 100000
/-! Rising rows. -/
namespace C
open PySem L2 Z
def ascB (xs : List Int) : Bool := (List.range (xs.length - 1)).all fun i => decide (xs.getD i 0 < xs.getD (i + 1) 0)
theorem asc_pw {ns : List Int} (h : ascB ns = true) : ns.Pairwise (· < ·) := by
  unfold ascB at h
  rw [List.all_eq_true] at h
  have step : ∀ i, i + 1 < ns.length → ns.getD i 0 < ns.getD (i + 1) 0 := fun i hi => of_decide_eq_true (h i (List.mem_range.mpr (by omega)))
  have far : ∀ d i, i + d + 1 < ns.length → ns.getD i 0 < ns.getD (i + d + 1) 0 := by
    intro d
    induction d with
    | zero => intro i hi; exact step i hi
    | succ d ih =>
      intro i hi
      have h1 := ih i (by omega)
      have h2 := step (i + d + 1) (by omega)
      have e : i + (d + 1) + 1 = i + d + 1 + 1 := by omega
      rw [e]
      omega
  rw [List.pairwise_iff_getElem]
  intro i j hi hj hij
  have := far (j - i - 1) i (by omega)
  have e : i + (j - i - 1) + 1 = j := by omega
  rw [e] at this
  simpa [List.getD_eq_getElem?_getD, List.getElem?_eq_getElem hi, List.getElem?_eq_getElem hj] using this
theorem asc_of {ns : List Int} (h : ns.Pairwise (· < ·)) : ascB ns = true := by
  unfold ascB
  rw [List.all_eq_true]
  intro i hi
  have hi := List.mem_range.mp hi
  have h1 : i < ns.length := by omega
  have h2 : i + 1 < ns.length := by omega
  have := List.pairwise_iff_getElem.mp h i (i + 1) h1 h2 (by omega)
  simpa [List.getD_eq_getElem?_getD, List.getElem?_eq_getElem h1, List.getElem?_eq_getElem h2] using this
theorem asc_nd {ns : List Int} (h : ascB ns = true) : ns.Nodup := (asc_pw h).imp fun h e => by omega
theorem ascB_all {xs : List Int} : ((List.range (xs.length - 1)).map fun i => decide (xs.getD i 0 < xs.getD (i + 1) 0)).all id = ascB xs := by
  unfold ascB
  rw [List.all_map]
  rfl
theorem count_nd {ns : List Int} : (ns.map fun k => decide (1 < ns.count k)).any id = !decide ns.Nodup := by
  by_cases h : ns.Nodup
  · rw [decide_eq_true h]
    rw [Bool.not_true, List.any_eq_false]
    intro x hx
    obtain ⟨k, hk, rfl⟩ := List.mem_map.mp hx
    have := List.nodup_iff_count.mp h k
    simp
    omega
  · rw [decide_eq_false h]
    rw [Bool.not_false, List.any_eq_true]
    by_cases hh : ∃ k, 1 < ns.count k
    · obtain ⟨k, hk⟩ := hh
      exact ⟨true, List.mem_map.mpr ⟨k, List.count_pos_iff.mp (by omega), by simp [hk]⟩, rfl⟩
    · exact (h (List.nodup_iff_count.mpr fun k => by
        by_cases h1 : 1 < ns.count k
        · exact (hh ⟨k, h1⟩).elim
        · omega)).elim

theorem srt_asc {ns : List Int} : (decide (ns = srtI ns) && !(ns.map fun k => decide (1 < ns.count k)).any id) = ascB ns := by
  rw [count_nd, Bool.not_not]
  cases h : ascB ns with
  | true =>
    have h1 := asc_pw h
    have h2 : ns = srtI ns := (srt_uniq (srtI_perm ns) (srtI_sorted ns) (h1.imp fun h => by omega)).symm
    rw [decide_eq_true h2, decide_eq_true (asc_nd h)]
    rfl
  | false =>
    by_cases h1 : ns = srtI ns
    · by_cases h2 : ns.Nodup
      · have h3 : ns.Pairwise (· ≤ ·) := by rw [h1]; exact srtI_sorted ns
        have : ascB ns = true := asc_of (List.Pairwise.imp₂ (fun a b h h' => by omega) h3 h2)
        rw [h] at this
        cases this
      · rw [decide_eq_false h2, Bool.and_false]
    · rw [decide_eq_false h1, Bool.false_and]
def risB (m cnt : Int) (d : D) : Bool := match d with
  | .tup xs => (decide ((xs.length : Int) ≤ m) && xs.all (fun x => numB x 0 (cnt - 1))) && ascB (xs.map ivD)
  | _ => false
theorem risB_no {d : D} (h : isT d = false) {m cnt : Int} : risB m cnt d = false := by
  unfold risB
  cases d with
  | tup xs => cases h
  | _ => rfl
theorem risB_in {d : D} {m cnt : Int} (h : risB m cnt d = true) : ∃ ns, d = .tup (ns.map .int) ∧ (ns.length : Int) ≤ m ∧ (∀ n ∈ ns, 0 ≤ n ∧ n ≤ cnt - 1) ∧ ns.Pairwise (· < ·) ∧ (items d).map ivD = ns := by
  unfold risB at h
  split at h
  · rename_i xs
    simp only [Bool.and_eq_true, decide_eq_true_eq] at h
    obtain ⟨⟨h1, h2⟩, h3⟩ := h
    exact ⟨xs.map ivD, by rw [← ints_of h2], by simpa using h1, ints_bd h2, asc_pw h3, rfl⟩
  · cases h
theorem is_rising_d {d : D} (h : G d) {m cnt : Int} {S : Store} {Q : D → Store → Prop} (q : Q (.bl (risB m cnt d)) S) : wp (callF 0 f_is_rising [d, .int m, .int cnt]) S Q := by
  refine wp_call0 (by simp [nrs, h.nr]) ?_
  unfold f_is_rising b_is_rising
  simp [-aft_nx, startD_eq]
  refine is_list_d h ?_
  cases hT : isT d with
  | false =>
    rw [risB_no hT] at q
    simpa [-aft_nx, tupB_no hT] using q
  | true =>
    obtain ⟨xs, rfl⟩ := isT_ex hT
    have hlen := h.len
    by_cases h6 : (xs.length : Int) ≤ m
    · simp [-aft_nx, tupB, h6]
      refine all_c (fun d => .bl (numB d 0 (cnt - 1))) xs rfl (fun a ha => ⟨_, rfl, ?_⟩) ?_
      · simp [-aft_nx]
        exact is_whole_d (h.kid ha) ⟨rfl, rfl⟩
      · refine ⟨by simp [lim]; omega, ?_⟩
        simp only [blsOf_f]
        refine ⟨_, rfl, ?_⟩
        rw [mem_f]
        cases hall : xs.all (fun x => numB x 0 (cnt - 1)) with
        | false =>
          simp [-aft_nx, risB, hall] at q ⊢
          exact q
        | true =>
          have e := ints_of hall
          have hr : risB m cnt (.tup xs) = ascB (xs.map ivD) := by simp [risB, hall, h6]
          rw [hr] at q
          generalize xs.map ivD = ns at e q
          subst e
          simp only [List.length_map] at hlen
          simp [-aft_nx]
          rw [aft_nx]
          simp
          refine ⟨by simp [okR]; omega, ?_⟩
          rw [rngD0]
          refine lcL_all _ (fun i : Nat => .bl (decide (ns.getD i 0 < ns.getD (i + 1) 0))) _ rfl (fun i hi => ⟨_, rfl, ?_⟩) ?_
          · have hi := List.mem_range.mp hi
            have h1 : i < ns.length := by omega
            have h2 : i + 1 < ns.length := by omega
            have x2 : atI (ns.map D.int) ((i : Int) + 1) = some (.int ns[i + 1]) := by
              have : ((i : Int) + 1) = ((i + 1 : Nat) : Int) := by omega
              rw [this, Z.atI_nat]; simp [List.getElem?_eq_getElem h2]
            simp [wipeD, Z.atI_nat, List.getElem?_eq_getElem h1, List.getElem?_eq_getElem h2, x2]
          · have e : (List.range (ns.length - 1)).map (fun i => D.bl (decide (ns.getD i 0 < ns.getD (i + 1) 0))) = ((List.range (ns.length - 1)).map fun i => decide (ns.getD i 0 < ns.getD (i + 1) 0)).map .bl := by simp
            rw [e]
            refine ⟨by simp [lim]; omega, _, blsOf_map _, ?_⟩
            rw [ascB_all]
            exact q
    · simp [-aft_nx, tupB, h6, risB] at q ⊢
      exact q
end C
set_option Elab.async false
set_option linter.all false
set_option maxRecDepth 100000
/-! Phases and rules. -/
namespace C
open PySem L2 Z
theorem Q_cong {Q : D → Store → Prop} {S : Store} {a b : Bool} (h : a = b) (q : Q (.bl a) S) : Q (.bl b) S := h ▸ q
def phB (es : List Int) (cnt : Int) (d : D) : Bool := match d with
  | .tup [a, b] => numB a 1 9 && (risB cnt cnt b && (items b).all fun x => decide (ivD x ∈ es))
  | _ => false
abbrev strL : Str := PySem.Str.ofString "lights"
abbrev strO : Str := PySem.Str.ofString "order"
def ruleB (es : List Int) (cnt : Int) (d : D) : Bool := match d with
  | .tup [.str s, .tup xs] => if s = strL then (decide (1 ≤ (xs.length : Int)) && decide ((xs.length : Int) ≤ 4)) && xs.all (phB es cnt)
    else if s = strO then xs.all (fun x => numB x 0 (cnt - 1)) && decide (srtI (xs.map ivD) = es) else false
  | _ => false
/-- a thing of two parts -/
theorem two {d : D} (h : G d) : isT d = false ∨ (∃ ys, d = .tup ys ∧ ys.length ≠ 2) ∨ ∃ a b, d = .tup [a, b] ∧ G a ∧ G b := by
  cases hT : isT d with
  | false => exact Or.inl rfl
  | true =>
    obtain ⟨ys, rfl⟩ := isT_ex hT
    right
    by_cases h2 : ys.length = 2
    · right
      match ys, h2 with
      | [a, b], _ => exact ⟨a, b, rfl, h.kid (by simp), h.kid (by simp)⟩
    · exact Or.inl ⟨ys, rfl, h2⟩
theorem phB_no {es : List Int} {cnt : Int} {d : D} (h : isT d = false ∨ ∃ ys, d = .tup ys ∧ ys.length ≠ 2) : phB es cnt d = false := by
  unfold phB
  rcases h with h | ⟨ys, rfl, h⟩
  · split
    · cases h
    · rfl
  · split
    · rename_i e
      cases e
      exact (h rfl).elim
    · rfl
theorem is_phase_d {d : D} (h : G d) {es : List Int} {cnt : Int} (hc : cnt ≤ 1000) {S : Store} {Q : D → Store → Prop} (q : Q (.bl (phB es cnt d)) S) : wp (callF 0 f_is_phase [d, .lst (es.map .int), .int cnt]) S Q := by
  refine wp_call0 (by simp [nrs, h.nr]) ?_
  unfold f_is_phase b_is_phase
  simp [-aft_nx, startD_eq]
  refine is_list_d h ?_
  rcases two h with hT | ⟨ys, rfl, h2⟩ | ⟨a, b, rfl, ha, hb⟩
  · rw [phB_no (Or.inl hT)] at q
    simpa [-aft_nx, tupB_no hT] using q
  · rw [phB_no (Or.inr ⟨ys, rfl, h2⟩)] at q
    have h2' : ¬ (ys.length : Int) = 2 := by omega
    by_cases h3 : (ys.length : Int) ≤ 2
    · simpa [-aft_nx, tupB, h3, h2'] using q
    · simpa [-aft_nx, tupB, h3] using q
  · simp [-aft_nx, tupB]
    refine is_whole_d ha ?_
    cases h1 : numB a 1 9 with
    | false => simpa [-aft_nx, phB, h1] using q
    | true =>
      simp [-aft_nx]
      rw [aft_nx]
      simp
      refine is_rising_d hb ?_
      cases hr : risB cnt cnt b with
      | false => simpa [phB, h1, hr] using q
      | true =>
        obtain ⟨ns, rfl, hl, _, _, _⟩ := risB_in hr
        simp [phB, h1, hr] at q
        simp
        refine lcL_all D.int (fun k : Int => .bl (decide (k ∈ es))) _ rfl (fun i hi => ⟨_, rfl, ?_⟩) ?_
        · simp
          refine wp_dInS (xs := es) (by simp) ?_
          simp
        · refine ⟨by simp [lim]; omega, ?_⟩
          rw [show (ns.map fun k => D.bl (decide (k ∈ es))) = (ns.map fun k => decide (k ∈ es)).map .bl by simp]
          refine ⟨_, blsOf_map _, ?_⟩
          refine Q_cong ?_ q
          rw [Bool.eq_iff_iff, List.all_eq_true, List.all_eq_true]
          constructor
          · intro h b hb
            obtain ⟨k, hk, rfl⟩ := List.mem_map.mp hb
            exact decide_eq_true (of_decide_eq_true (h k hk))
          · intro h x hx
            have := h _ (List.mem_map_of_mem hx)
            exact decide_eq_true (of_decide_eq_true this)
theorem ruleB_no {es : List Int} {cnt : Int} {d : D} (h : isT d = false ∨ ∃ ys, d = .tup ys ∧ ys.length ≠ 2) : ruleB es cnt d = false := by
  unfold ruleB
  rcases h with h | ⟨ys, rfl, h⟩
  · split
    · cases h
    · rfl
  · split
    · rename_i e
      cases e
      exact (h rfl).elim
    · rfl
theorem ruleB_s {es : List Int} {cnt : Int} {a b : D} (h : isS a = false ∨ isT b = false) : ruleB es cnt (.tup [a, b]) = false := by
  unfold ruleB
  split
  · rename_i e
    cases e
    rcases h with h | h <;> cases h
  · rfl
theorem ok_L : PyData.strOk strL = true := by decide +kernel
theorem ok_O : PyData.strOk strO = true := by decide +kernel
theorem is_rule_d {d : D} (h : G d) {es : List Int} {cnt : Int} (hc : cnt ≤ 1000) {S : Store} {Q : D → Store → Prop} (q : Q (.bl (ruleB es cnt d)) S) : wp (callF 0 f_is_rule [d, .lst (es.map .int), .int cnt]) S Q := by
  refine wp_call0 (by simp [nrs, h.nr]) ?_
  unfold f_is_rule b_is_rule
  simp [-aft_nx, startD_eq]
  refine is_list_d h ?_
  rcases two h with hT | ⟨ys, rfl, h2⟩ | ⟨a, b, rfl, ha, hb⟩
  · rw [ruleB_no (Or.inl hT)] at q
    simpa [-aft_nx, tupB_no hT] using q
  · rw [ruleB_no (Or.inr ⟨ys, rfl, h2⟩)] at q
    have h2' : ¬ (ys.length : Int) = 2 := by omega
    by_cases h3 : (ys.length : Int) ≤ 2
    · simpa [-aft_nx, tupB, h3, h2'] using q
    · simpa [-aft_nx, tupB, h3] using q
  · obtain ⟨ta, a1, a2, a3⟩ := ha.ty (S := [])
    obtain ⟨tb, b1, b2, b3⟩ := hb.ty (S := [])
    simp [-aft_nx, tupB, a1, a3, b1, b2]
    cases hs : isS a with
    | false =>
      rw [ruleB_s (Or.inl hs)] at q
      simpa [-aft_nx] using q
    | true =>
      cases ht : isT b with
      | false =>
        rw [ruleB_s (Or.inr ht)] at q
        simpa [-aft_nx] using q
      | true =>
        obtain ⟨s, rfl⟩ := isS_ex hs
        obtain ⟨xs, rfl⟩ := isT_ex ht
        have hlen := hb.len
        simp [-aft_nx]
        rw [aft_nx]
        simp [-aft_nx, wp_dEqS ha.str ok_L]
        by_cases hL : s = strL
        · have q' : Q (.bl ((decide (1 ≤ (xs.length : Int)) && decide ((xs.length : Int) ≤ 4)) && xs.all (phB es cnt))) S := by simpa [ruleB, hL] using q
          simp [-aft_nx, hL]
          by_cases l1 : 1 ≤ (xs.length : Int)
          · have l1' : ¬ (xs.length : Int) < 1 := by omega
            by_cases l2 : (xs.length : Int) ≤ 4
            · have l2' : ¬ 4 < (xs.length : Int) := by omega
              simp [-aft_nx, l1, l2, l1', l2'] at q' ⊢
              refine all_c (fun d => .bl (phB es cnt d)) xs rfl (fun a ha => ⟨_, rfl, ?_⟩) ?_
              · simp [-aft_nx]
                exact is_phase_d (hb.kid ha) hc ⟨rfl, rfl⟩
              · refine ⟨by simp [lim]; omega, _, blsOf_f, ?_⟩
                simpa [List.all_map, Function.comp_def] using q'
            · have l2' : 4 < (xs.length : Int) := by omega
              simpa [-aft_nx, l1, l2, l1', l2'] using q'
          · have l1' : (xs.length : Int) < 1 := by omega
            simpa [-aft_nx, l1, l1'] using q'
        · simp [-aft_nx, hL]
          rw [aft_nx]
          simp [-aft_nx]
          refine wp_dNe (eqD_str ha.str ok_O) ?_
          by_cases hO : s = strO
          · have q' : Q (.bl (xs.all (fun x => numB x 0 (cnt - 1)) && decide (srtI (xs.map ivD) = es))) S := by
              have : ¬ strO = strL := by decide +kernel
              simpa [ruleB, hO, this] using q
            simp [-aft_nx, hO]
            refine all_c (fun d => .bl (numB d 0 (cnt - 1))) xs rfl (fun a ha => ⟨_, rfl, ?_⟩) ?_
            · simp [-aft_nx]
              exact is_whole_d (hb.kid ha) ⟨rfl, rfl⟩
            · refine ⟨by simp [lim]; omega, ?_⟩
              simp only [blsOf_f]
              refine ⟨_, rfl, ?_⟩
              rw [mem_f]
              cases hall : xs.all (fun x => numB x 0 (cnt - 1)) with
              | false => simpa [-aft_nx, hall] using q'
              | true =>
                rw [hall, Bool.true_and] at q'
                have e := ints_of hall
                generalize xs.map ivD = ns at e q'
                subst e
                simp [-aft_nx]
                rw [aft_nx]
                simp [intsOf_map]
                refine wp_dEq eqD_ints ?_
                simp
                exact q'
          · have q' : Q (.bl false) S := by simpa [ruleB, hL, hO] using q
            have hO' : (s == strO) = false := by simpa using hO
            simpa [-aft_nx, hO, hO'] using q'
end C
set_option Elab.async false
set_option linter.all false
set_option maxRecDepth 100000
/-! Roads; check_net. -/
namespace C
open PySem L2 Z
theorem enum_map {α : Type} (c : α → D) : ∀ (k : Nat) (as : List α), enumD k (as.map c) = (as.zipIdx k).map fun p => .tup [.int (p.2 : Nat), c p.1]
  | _, [] => rfl
  | k, a :: as => by simp [enumD, enum_map c (k + 1) as]
theorem zip_range {α : Type} (as : List α) (d : α) : as.zipIdx = (List.range as.length).map fun i => (as[i]?.getD d, i) := by
  apply List.ext_getElem
  · simp
  · intro i h1 h2
    simp at h1 h2 ⊢
    simp [h1]
theorem closing_zip (rs : List Road) (k : Int) : closing rs k = ((rs.zipIdx).filter fun p => p.1.2.2.2 == k).map fun p => ((p.2 : Nat) : Int) := by
  rw [zip_range rs (0, 0, 0, 0), List.filter_map, List.map_map]
  unfold closing
  congr 1
  apply List.filter_congr
  intro i hi
  simp at hi
  simp [hi]
theorem closing_mem {rs : List Road} {k x : Int} (h : x ∈ closing rs k) : 0 ≤ x ∧ x < rs.length := by
  unfold closing at h
  obtain ⟨i, hi, rfl⟩ := List.mem_map.mp h
  have := (List.mem_filter.mp hi).1
  simp at this
  omega
theorem road_ends_w {rs : List Road} {k : Int} {S : Store} {Q : D → Store → Prop} (hl : rs.length ≤ 1000) (q : Q (.lst ((closing rs k).map .int)) S) : wp (callF 0 f_road_ends [.tup (rs.map eRoad), .int k]) S Q := by
  refine wp_call0 (by simp [nrs]) ?_
  unfold f_road_ends b_road_ends
  simp [startD_eq]
  rw [enum_map]
  refine lcL_pure _ (fun p : Road × Nat => p.1.2.2.2 == k) (fun p => .int (p.2 : Nat)) _ rfl ?_ ?_
  · intro p hp
    simp [eRoad]
    omega
  · have e : (rs.zipIdx.filter fun p => p.1.2.2.2 == k).map (fun p => D.int (p.2 : Nat)) = (closing rs k).map .int := by rw [closing_zip]; simp
    rw [e]
    have := closing_len rs k
    refine ⟨by simp [lim]; omega, ?_⟩
    simp
    exact q

def roadB (nc : Int) (d : D) : Bool := match d with
  | .tup [a, b, c, e] => (numB a 1 3 && numB b 2 20) && (numB c 1 5 && numB e (-1) (nc - 1))
  | _ => false
theorem four {d : D} (h : G d) : isT d = false ∨ (∃ ys, d = .tup ys ∧ ys.length ≠ 4) ∨ ∃ a b c e, d = .tup [a, b, c, e] ∧ G a ∧ G b ∧ G c ∧ G e := by
  cases hT : isT d with
  | false => exact Or.inl rfl
  | true =>
    obtain ⟨ys, rfl⟩ := isT_ex hT
    right
    by_cases h2 : ys.length = 4
    · right
      match ys, h2 with
      | [a, b, c, e], _ => exact ⟨a, b, c, e, rfl, h.kid (by simp), h.kid (by simp), h.kid (by simp), h.kid (by simp)⟩
    · exact Or.inl ⟨ys, rfl, h2⟩
theorem roadB_no {nc : Int} {d : D} (h : isT d = false ∨ ∃ ys, d = .tup ys ∧ ys.length ≠ 4) : roadB nc d = false := by
  unfold roadB
  rcases h with h | ⟨ys, rfl, h⟩
  · split
    · cases h
    · rfl
  · split
    · rename_i e
      cases e
      exact (h rfl).elim
    · rfl
theorem is_road_d {d : D} (h : G d) {nc : Int} {S : Store} {Q : D → Store → Prop} (q : Q (.bl (roadB nc d)) S) : wp (callF 0 f_is_road [d, .int nc]) S Q := by
  refine wp_call0 (by simp [nrs, h.nr]) ?_
  unfold f_is_road b_is_road
  simp [-aft_nx, startD_eq]
  refine is_list_d h ?_
  rcases four h with hT | ⟨ys, rfl, h2⟩ | ⟨a, b, c, e, rfl, ha, hb, hc, he⟩
  · rw [roadB_no (Or.inl hT)] at q
    simpa [-aft_nx, tupB_no hT] using q
  · rw [roadB_no (Or.inr ⟨ys, rfl, h2⟩)] at q
    have h2' : ¬ (ys.length : Int) = 4 := by omega
    by_cases h3 : (ys.length : Int) ≤ 4
    · simpa [-aft_nx, tupB, h3, h2'] using q
    · simpa [-aft_nx, tupB, h3] using q
  · simp [-aft_nx, tupB]
    rw [aft_nx]
    simp only [wps_seq]
    simp [-aft_nx]
    rw [aft_nx]
    simp only [wps_seq]
    simp [-aft_nx]
    refine is_whole_d ha ?_
    cases h1 : numB a 1 3 with
    | false => simpa [-aft_nx, roadB, h1] using q
    | true =>
      simp [-aft_nx]
      refine is_whole_d hb ?_
      cases h2 : numB b 2 20 with
      | false => simpa [-aft_nx, roadB, h1, h2] using q
      | true =>
        simp [-aft_nx]
        rw [aft_nx]
        simp
        refine is_whole_d hc ?_
        cases h3 : numB c 1 5 with
        | false => simpa [roadB, h1, h2, h3] using q
        | true =>
          simp
          refine is_whole_d he ?_
          simpa [roadB, h1, h2, h3] using q
theorem roadB_in {nc : Int} {d : D} (h : roadB nc d = true) : ∃ r : Road, d = eRoad r ∧ r.2.2.2 ≤ nc - 1 := by
  unfold roadB at h
  split at h
  · rename_i a b c e
    simp only [Bool.and_eq_true] at h
    obtain ⟨⟨h1, h2⟩, h3, h4⟩ := h
    obtain ⟨e1, _⟩ := numB_ex h1
    obtain ⟨e2, _⟩ := numB_ex h2
    obtain ⟨e3, _⟩ := numB_ex h3
    obtain ⟨e4, _, e5⟩ := numB_ex h4
    exact ⟨(ivD a, ivD b, ivD c, ivD e), by unfold eRoad; rw [← e1, ← e2, ← e3, ← e4], e5⟩
  · cases h
theorem roads_in {nc : Int} : ∀ {ds : List D}, ds.all (roadB nc) = true → ∃ rs : List Road, ds = rs.map eRoad
  | [], _ => ⟨[], rfl⟩
  | d :: ds, h => by
    rw [List.all_cons, Bool.and_eq_true] at h
    obtain ⟨r, rfl, _⟩ := roadB_in h.1
    obtain ⟨rs, rfl⟩ := roads_in h.2
    exact ⟨r :: rs, rfl⟩
def rowB (rs : List Road) (at_ : Int) (d : D) : Bool := match d with
  | .tup [r, o] => ruleB (closing rs at_) rs.length r && risB 4 rs.length o
  | _ => false
def outs (d : D) : List Int := match d with
  | .tup [_, o] => (items o).map ivD
  | _ => []
/-- the crossings from one on, with the roads that have begun -/
def crB (rs : List Road) : Nat → List Int → List D → Bool
  | _, _, [] => true
  | i, bg, d :: ds => rowB rs i d && (!(outs d).any (fun o => decide (o ∈ bg)) && crB rs (i + 1) (bg ++ outs d) ds)
def rdI (d : D) : Road := match d with
  | .tup [a, b, c, e] => (ivD a, ivD b, ivD c, ivD e)
  | _ => (0, 0, 0, 0)
theorem rdI_e {rs : List Road} : (rs.map eRoad).map rdI = rs := by
  rw [List.map_map]
  exact List.map_id'' (fun r => rfl) rs
def netB (d : D) : Bool := match d with
  | .tup [.tup rs, .tup cs] => ((decide ((rs.length : Int) ≤ 12) && !rs.isEmpty) && decide ((cs.length : Int) ≤ 8)) && (rs.all (roadB cs.length) && crB (rs.map rdI) 0 [] cs)
  | _ => false
theorem rowB_no {rs : List Road} {i : Int} {d : D} (h : isT d = false ∨ ∃ ys, d = .tup ys ∧ ys.length ≠ 2) : rowB rs i d = false := by
  unfold rowB
  rcases h with h | ⟨ys, rfl, h⟩
  · split
    · cases h
    · rfl
  · split
    · rename_i e
      cases e
      exact (h rfl).elim
    · rfl
theorem netB_no {d : D} (h : isT d = false ∨ ∃ ys, d = .tup ys ∧ ys.length ≠ 2) : netB d = false := by
  unfold netB
  rcases h with h | ⟨ys, rfl, h⟩
  · split
    · cases h
    · rfl
  · split
    · rename_i e
      cases e
      exact (h rfl).elim
    · rfl
theorem netB_s {a b : D} (h : isT a = false ∨ isT b = false) : netB (.tup [a, b]) = false := by
  unfold netB
  split
  · rename_i e
    cases e
    rcases h with h | h <;> cases h
  · rfl
end C
set_option Elab.async false
set_option linter.all false
set_option maxRecDepth 100000
/-! check_net. -/
namespace C
open PySem L2 Z
abbrev badN : Str := PySem.Str.ofString "BadNet"
theorem enumD_at {xs : List D} {i : Nat} {d : D} (h : (enumD 0 xs)[i]? = some d) : ∃ c, xs[i]? = some c ∧ d = .tup [.int (i : Nat), c] := by
  obtain ⟨c, h1, h2⟩ := enumD_get 0 xs i d h
  rw [Nat.zero_add] at h2
  exact ⟨c, h1, h2⟩
/-- the roads that have begun, as a dict -/
def bgD (bg : List Int) : List (Key × D) := bg.map fun o => (Sum.inl o, D.bl true)
theorem bg_val {x : Int} : ∀ {bg : List Int}, (valD (bgD bg) (.inl x)).isSome = decide (x ∈ bg)
  | [] => by simp [bgD, valD]
  | o :: bg => by
    have ih := bg_val (x := x) (bg := bg)
    unfold bgD valD at ih ⊢
    by_cases h : o = x
    · subst h; simp
    · have h' : ¬ x = o := fun e => h e.symm
      simpa [h, h'] using ih
theorem bg_put {x : Int} {bg : List Int} (h : x ∉ bg) : putD (bgD bg) (.inl x) (.bl true) = bgD (bg ++ [x]) := by
  have : ((bgD bg).any fun kv => decide (kv.1 = Sum.inl x)) = false := by
    rw [List.any_eq_false]
    rintro ⟨k, v⟩ hm
    obtain ⟨o, ho, e⟩ := List.mem_map.mp hm
    cases e
    simp
    intro e
    exact h (e ▸ ho)
  unfold putD
  rw [if_neg (by rw [this]; simp)]
  simp [bgD]
theorem bg_len {bg : List Int} : (bgD bg).length = bg.length := by simp [bgD]
theorem crB_cons {rs : List Road} {i : Nat} {bg : List Int} {d : D} {ds : List D} : crB rs i bg (d :: ds) = (rowB rs i d && (!(outs d).any (fun o => decide (o ∈ bg)) && crB rs (i + 1) (bg ++ outs d) ds)) := rfl
theorem check_net_d {S0 : Store} {d : D} (h : G d) : wps b_check_net (startD 7 [d]) S0 fun o S' => if netB d = true then (∃ ρ, o = .nx ρ) ∧ ∃ rest, S' = S0 ++ rest else o = .ex badN := by
  unfold b_check_net
  simp only [wps_seq, wps_if, wp_mNot, wp_mTru, wp_mCall, wp_mCons, wp_mVar, startD_eq]
  simp [-aft_nx]
  refine is_list_d h ?_
  rcases two h with hT | ⟨ys, rfl, h2⟩ | ⟨a, b, rfl, ha, hb⟩
  · rw [tupB_no hT]
    simp [-aft_nx, netB_no (Or.inl hT)]
  · have h2' : ¬ (ys.length : Int) = 2 := by omega
    have hno := netB_no (Or.inr ⟨ys, rfl, h2⟩)
    by_cases h3 : (ys.length : Int) ≤ 2
    · simp [-aft_nx, tupB, h3, h2', hno]
    · simp [-aft_nx, tupB, h3, hno]
  · simp [-aft_nx, tupB]
    rw [aft_nx]
    simp only [wps_seq]
    simp [-aft_nx]
    rw [aft_nx]
    simp only [wps_seq]
    simp [-aft_nx]
    refine is_list_d ha ?_
    cases hTa : isT a with
    | false => simp [-aft_nx, tupB_no hTa, netB_s (Or.inl hTa)]
    | true =>
      obtain ⟨rs, rfl⟩ := isT_ex hTa
      by_cases l1 : (rs.length : Int) ≤ 12
      · cases hem : rs.isEmpty with
        | true =>
          have hno : netB (.tup [.tup rs, b]) = false := by
            cases hTb : isT b with
            | false => exact netB_s (Or.inr hTb)
            | true => obtain ⟨cs, rfl⟩ := isT_ex hTb; simp [netB, hem]
          simp [-aft_nx, tupB, l1, hem, hno]
        | false =>
          simp [-aft_nx, tupB, l1, hem]
          refine is_list_d hb ?_
          cases hTb : isT b with
          | false => simp [-aft_nx, tupB_no hTb, netB_s (Or.inr hTb)]
          | true =>
            obtain ⟨cs, rfl⟩ := isT_ex hTb
            by_cases l2 : (cs.length : Int) ≤ 8
            · have hnet : netB (.tup [.tup rs, .tup cs]) = (rs.all (roadB cs.length) && crB (rs.map rdI) 0 [] cs) := by simp [netB, l1, l2, hem]
              simp [-aft_nx, tupB, l2]
              rw [aft_nx]
              simp only [wps_seq]
              simp [-aft_nx]
              refine all_c (fun d => .bl (roadB cs.length d)) rs rfl (fun a ha2 => ⟨_, rfl, ?_⟩) ?_
              · simp [-aft_nx]
                exact is_road_d (ha.kid ha2) ⟨rfl, rfl⟩
              · refine ⟨by simp [lim]; omega, _, blsOf_f, ?_⟩
                rw [mem_f, hnet]
                cases hall : rs.all (roadB cs.length) with
                | false => simp [-aft_nx, hall]
                | true =>
                  obtain ⟨rds, rfl⟩ := roads_in hall
                  simp only [rdI_e, Bool.true_and]
                  simp only [List.length_map] at l1
                  simp [-aft_nx]
                  rw [aft_nx]
                  simp only [wps_seq]
                  simp [-aft_nx]
                  rw [aft_nx]
                  simp [-aft_nx]
                  have hin : ∀ (x : Store), asSq x (D.tup (rds.map eRoad)) = some (rds.map eRoad) := fun x => by simp
                  refine forL_idx (fun i ρ T => ∃ bg z1 z2 z3, T = S0 ++ [.dct (bgD bg)] ∧ bg.length ≤ 4 * i ∧ crB rds 0 [] cs = crB rds i bg (cs.drop i) ∧ ρ = [some (D.tup [.tup (rds.map eRoad), .tup cs]), some (.ref S0.length), some (.tup (rds.map eRoad)), some (.tup cs), z1, z2, z3]) ⟨[], _, _, _, rfl, by simp, rfl, rfl⟩ ?_ ?_
                  · rintro i ed ρ T hi ⟨bg, z1, z2, z3, rfl, hbl, hcr, rfl⟩
                    obtain ⟨c, hi2, rfl⟩ := enumD_at hi
                    refine ⟨rfl, _, rfl, ?_⟩
                    have hil := (List.getElem?_eq_some_iff.mp hi2).1
                    have hcd : cs.drop i = c :: cs.drop (i + 1) := by
                      rw [List.drop_eq_getElem_cons hil, (List.getElem?_eq_some_iff.mp hi2).2]
                    rw [hcd, crB_cons] at hcr
                    have hc := hb.kid (List.mem_of_getElem? hi2)
                    rw [hcr]
                    simp [-aft_nx]
                    refine is_list_d hc ?_
                    rcases two hc with hT | ⟨ys, rfl, h2⟩ | ⟨r, o, rfl, hr, ho⟩
                    · simp [-aft_nx, tupB_no hT, rowB_no (Or.inl hT)]
                    · have h2' : ¬ (ys.length : Int) = 2 := by omega
                      have hno := rowB_no (rs := rds) (i := i) (Or.inr ⟨ys, rfl, h2⟩)
                      by_cases h3 : (ys.length : Int) ≤ 2
                      · simp [-aft_nx, tupB, h3, h2', hno]
                      · simp [-aft_nx, tupB, h3, hno]
                    · simp [-aft_nx, tupB]
                      refine road_ends_w (by omega) ?_
                      refine is_rule_d hr (by omega) ?_
                      cases hru : ruleB (closing rds i) rds.length r with
                      | false => simp [-aft_nx, rowB, hru]
                      | true =>
                        simp [-aft_nx]
                        rw [aft_nx]
                        simp only [wps_seq]
                        simp [-aft_nx]
                        refine is_rising_d ho ?_
                        cases hri : risB 4 rds.length o with
                        | false => simp [-aft_nx, rowB, hru, hri]
                        | true =>
                          obtain ⟨ns, rfl, hnl, hnb, hpw, hit⟩ := risB_in hri
                          have e1 : rowB rds i (.tup [r, .tup (ns.map .int)]) = true := by simp [rowB, hru, hri]
                          have e2 : outs (.tup [r, .tup (ns.map .int)]) = ns := hit
                          rw [e1, e2] at hcr ⊢
                          simp only [Bool.true_and] at hcr ⊢
                          simp [-aft_nx]
                          rw [aft_nx]
                          simp [-aft_nx]
                          refine forL_map (fun j ρ T => ∃ z3, T = S0 ++ [.dct (bgD (bg ++ ns.take j))] ∧ (∀ x ∈ ns.take j, x ∉ bg) ∧ ρ = [some (D.tup [.tup (rds.map eRoad), .tup cs]), some (.ref S0.length), some (.tup (rds.map eRoad)), some (.tup cs), some (.int (i : Nat)), some (D.tup [r, .tup (ns.map .int)]), z3]) D.int ns ⟨_, by simp, by simp, rfl⟩ ?_ ?_
                          · rintro j x ρ T hx ⟨z3, rfl, hjb, rfl⟩
                            refine ⟨rfl, _, rfl, ?_⟩
                            have hjl := (List.getElem?_eq_some_iff.mp hx).1
                            have hxe := (List.getElem?_eq_some_iff.mp hx).2
                            have hxt : x ∉ ns.take j := fun hm => by
                              obtain ⟨m, hm1, hm2⟩ := List.getElem_of_mem hm
                              rw [List.length_take] at hm1
                              have := List.pairwise_iff_getElem.mp hpw m j (by omega) hjl (by omega)
                              rw [List.getElem_take] at hm2
                              omega
                            have htk : ns.take (j + 1) = ns.take j ++ [x] := by rw [List.take_add_one, hx]; rfl
                            by_cases hxb : x ∈ bg
                            · have e3 : (ns.any fun o => decide (o ∈ bg)) = true := List.any_eq_true.mpr ⟨x, List.mem_of_getElem? hx, decide_eq_true hxb⟩
                              have e7 : (valD (bgD (bg ++ ns.take j)) (.inl x)).isSome = true := by rw [bg_val]; exact decide_eq_true (List.mem_append_left _ hxb)
                              obtain ⟨w, hw⟩ := Option.isSome_iff_exists.mp e7
                              rw [e3]
                              simp [-aft_nx, dGetO, keyD, hw]
                              exact fun h => (h x (List.mem_of_getElem? hx) hxb).elim
                            · have e7 : (valD (bgD (bg ++ ns.take j)) (.inl x)).isSome = false := by rw [bg_val]; exact decide_eq_false fun hm => (List.mem_append.mp hm).elim hxb hxt
                              have hw : valD (bgD (bg ++ ns.take j)) (.inl x) = none := by
                                cases hv : valD (bgD (bg ++ ns.take j)) (.inl x) with
                                | none => rfl
                                | some w => rw [hv] at e7; cases e7
                              simp [-aft_nx, dGetO, keyD, hw]
                              rw [aft_nx]
                              have hxx : x ∉ bg ++ ns.take j := fun hm => (List.mem_append.mp hm).elim hxb hxt
                              have hlen : (bg ++ ns.take j).length < lim := by simp [lim]; omega
                              have e4 : dPutS (S0 ++ [.dct (bgD (bg ++ ns.take j))]) (.ref S0.length) (.int x) (.bl true) = some (S0 ++ [.dct (bgD (bg ++ ns.take (j + 1)))]) := by
                                simp only [dPutS, keyD, List.getElem?_concat_length, Option.bind_some, bg_len, hlen, if_true, bg_put hxx]
                                rw [htk, List.append_assoc]
                                simp
                              simp [e4]
                              rw [htk]
                              intro y hy
                              rcases List.mem_append.mp hy with hy | hy
                              · exact hjb y hy
                              · rw [List.mem_singleton] at hy; subst hy; exact hxb
                          · rintro ρ T ⟨z3, rfl, hjb, rfl⟩
                            rw [List.take_length] at hjb
                            have e3 : (ns.any fun o => decide (o ∈ bg)) = false := by
                              rw [List.any_eq_false]
                              intro x hx
                              simpa using hjb x hx
                            rw [e3] at hcr
                            refine ⟨rfl, bg ++ ns, ?_, ?_, ?_, _, _, _, rfl⟩
                            · rw [List.take_length]
                            · simp only [List.length_append]; omega
                            · rw [e3]; simp
                  · rintro ρ T ⟨bg, z1, z2, z3, rfl, hbl, hcr, rfl⟩
                    have e5 : cs.drop (enumD 0 cs).length = [] := by rw [enumD_len]; exact List.drop_length
                    rw [e5] at hcr
                    have e6 : crB rds 0 [] cs = true := hcr
                    rw [e6]
                    simp
            · have hno : netB (.tup [.tup rs, .tup cs]) = false := by simp [netB, l2]
              simp [-aft_nx, tupB, l2, hno]
      · have hno : netB (.tup [.tup rs, b]) = false := by
          cases hTb : isT b with
          | false => exact netB_s (Or.inr hTb)
          | true => obtain ⟨cs, rfl⟩ := isT_ex hTb; simp [netB, l1]
        simp [-aft_nx, tupB, l1, hno]
end C
set_option Elab.async false
set_option linter.all false
set_option maxRecDepth 100000
/-! told; the net that the law draws is a net. -/
namespace C
open PySem L2 Z
def Net.asc (n : Net) : Prop := ∀ c ∈ n.cross, c.2.Pairwise (· < ·)
theorem Gd.tup {k b : Nat} {xs : List D} (h1 : ∀ x ∈ xs, sm k x = true) (h2 : bks xs ≤ b) : Gd (k + 1) b (.tup xs) := ⟨by simpa using h1, by simpa using h2⟩
theorem numB_int {i a b : Int} : numB (.int i) a b = (decide (a ≤ i) && decide (i ≤ b)) := rfl
theorem numB_of {i a b : Int} (h1 : a ≤ i) (h2 : i ≤ b) : numB (.int i) a b = true := by rw [numB_int, decide_eq_true h1, decide_eq_true h2]; rfl
theorem all_num {ns : List Int} {a b : Int} (h : ∀ n ∈ ns, a ≤ n ∧ n ≤ b) : (ns.map D.int).all (fun x => numB x a b) = true := by
  rw [List.all_eq_true]
  intro d hd
  obtain ⟨n, hn, rfl⟩ := List.mem_map.mp hd
  exact numB_of (h n hn).1 (h n hn).2
theorem iv_map {ns : List Int} : (ns.map D.int).map ivD = ns := by
  rw [List.map_map]
  exact List.map_id'' (fun r => rfl) ns
theorem closing_asc (rs : List Road) (k : Int) : (closing rs k).Pairwise (· < ·) := by
  unfold closing
  refine List.pairwise_map.mpr ?_
  have := (List.pairwise_lt_range (n := rs.length)).filter fun i => ((rs[i]?.map fun r : Road => r.2.2.2 == k).getD false)
  exact this.imp fun h => by omega
theorem ris_good {ns : List Int} {m cnt : Int} (h1 : (ns.length : Int) ≤ m) (h2 : ∀ n ∈ ns, 0 ≤ n ∧ n ≤ cnt - 1) (h3 : ns.Pairwise (· < ·)) : risB m cnt (eIs ns) = true := by
  unfold risB eIs
  simp only
  rw [all_num h2, iv_map, asc_of h3, decide_eq_true (by simpa using h1)]
  rfl
theorem rule_good {rs : List Road} {k : Int} {r : Rule} (h : r.ok (closing rs k)) : ruleB (closing rs k) rs.length (eRule r) = true := by
  cases r with
  | ord xs =>
    have hp : xs.Perm (closing rs k) := h
    have h1 : srtI xs = closing rs k := srt_uniq ((srtI_perm xs).trans hp) (srtI_sorted xs) ((closing_asc rs k).imp fun h => by omega)
    have h2 : ¬ strO = strL := by decide +kernel
    have h3 : ∀ n ∈ xs, (0 : Int) ≤ n ∧ n ≤ (rs.length : Int) - 1 := fun n hn => by
      have := closing_mem (hp.mem_iff.mp hn)
      omega
    unfold ruleB eRule
    simp only [h2, if_false, if_true]
    rw [all_num h3, iv_map, decide_eq_true h1]
    rfl
  | lig ps =>
    obtain ⟨a1, a2, a3, a4⟩ := h
    have hl : 1 ≤ ps.length := by
      cases ps with
      | nil => exact (a1 rfl).elim
      | cons p ps => simp
    have h1 : (ps.map ePh).all (phB (closing rs k) rs.length) = true := by
      rw [List.all_eq_true]
      intro d hd
      obtain ⟨p, hp, rfl⟩ := List.mem_map.mp hd
      have b1 := a3 p hp
      have b2 := a4 p hp
      have b3 : ∀ n ∈ p.2, n ∈ closing rs k := fun n hn => b2.subset hn
      have b4 := b2.length_le
      have b5 := closing_len rs k
      unfold phB ePh
      simp only
      rw [numB_of b1.1 b1.2, ris_good (by omega) (fun n hn => by have := closing_mem (b3 n hn); omega) ((closing_asc rs k).sublist b2)]
      simp only [Bool.true_and, List.all_eq_true]
      intro x hx
      obtain ⟨n, hn, rfl⟩ := List.mem_map.mp (show x ∈ p.2.map D.int from hx)
      exact decide_eq_true (b3 n hn)
    unfold ruleB eRule
    simp only [if_true]
    rw [h1]
    simp
    omega
theorem cr_good {n : Net} (hn : n.ok) (ha : n.asc) : ∀ m i : Nat, i + m = n.cross.length → crB n.roads i ((n.cross.take i).flatMap (·.2)) ((n.cross.drop i).map eCr) = true := by
  intro m
  induction m with
  | zero =>
    intro i hi
    rw [List.drop_eq_nil_of_le (by omega)]
    rfl
  | succ m ih =>
    intro i hi
    have hil : i < n.cross.length := by omega
    have hg : n.cross[i]? = some n.cross[i] := List.getElem?_eq_getElem hil
    rw [List.drop_eq_getElem_cons hil, List.map_cons, crB_cons]
    have hm := List.getElem_mem hil
    have ho := hn.outs _ hm
    have e1 : outs (eCr n.cross[i]) = n.cross[i].2 := by
      unfold outs eCr eIs
      simp only [items_tup]
      exact iv_map
    have e2 : rowB n.roads i (eCr n.cross[i]) = true := by
      unfold rowB eCr
      simp only
      rw [rule_good (hn.rule i _ hg), ris_good (by have := ho.1; omega) (fun z hz => by have := ho.2 z hz; omega) (ha _ hm)]
      rfl
    have e3 : (n.cross[i].2.any fun o => decide (o ∈ (n.cross.take i).flatMap (·.2))) = false := by
      rw [List.any_eq_false]
      intro o ho hc
      obtain ⟨c, hc1, hc2⟩ := List.mem_flatMap.mp (of_decide_eq_true hc)
      obtain ⟨j, hj, e⟩ := List.getElem_of_mem hc1
      rw [List.length_take] at hj
      rw [List.getElem_take] at e
      have := hn.disj j i c n.cross[i] (by rw [List.getElem?_eq_getElem (by omega), e]) hg o hc2 ho
      omega
    have e4 : (n.cross.take i).flatMap (·.2) ++ n.cross[i].2 = (n.cross.take (i + 1)).flatMap (·.2) := by
      rw [List.take_add_one, hg, Option.toList_some, List.flatMap_append]
      simp only [List.flatMap_cons, List.flatMap_nil, List.append_nil]
    rw [e1, e2, e3, e4, ih (i + 1) (by omega)]
    rfl
theorem net_good {n : Net} (hn : n.ok) (ha : n.asc) : netB (eNet n) = true := by
  unfold netB eNet
  simp only
  have h1 : (n.roads.map eRoad).all (roadB (n.cross.map eCr).length) = true := by
    rw [List.all_eq_true]
    intro d hd
    obtain ⟨r, hr, rfl⟩ := List.mem_map.mp hd
    have := hn.road r hr
    unfold Road.ok at this
    unfold roadB eRoad
    simp only [List.length_map]
    rw [numB_of (by omega) (by omega), numB_of (by omega) (by omega), numB_of (by omega) (by omega), numB_of (by omega) (by omega)]
    rfl
  have h2 := cr_good hn ha n.cross.length 0 (by omega)
  simp only [List.take_zero, List.flatMap_nil, List.drop_zero] at h2
  rw [h1, rdI_e, h2]
  have h3 := hn.many
  have h4 := hn.few
  have h5 := hn.cfew
  have h6 : (n.roads.map eRoad).isEmpty = false := by
    cases hr : n.roads with
    | nil => rw [hr] at h3; simp at h3
    | cons x xs => rfl
  rw [h6]
  simp
  omega
theorem bks_le {xs : List D} {c : Nat} (h : ∀ x ∈ xs, bk x ≤ c) : bks xs ≤ xs.length * (c + 1) := by
  induction xs with
  | nil => simp
  | cons x xs ih =>
    have h1 := h x List.mem_cons_self
    have h2 := ih fun y hy => h y (List.mem_cons_of_mem _ hy)
    simp [Nat.add_mul]
    omega
theorem ints_gd {ns : List Int} {k m : Nat} (h1 : ns.length ≤ m) (h2 : ∀ n ∈ ns, 0 ≤ n ∧ n ≤ 1000) : Gd (k + 1) m (eIs ns) := by
  refine Gd.tup (fun x hx => ?_) ?_
  · obtain ⟨n, hn, rfl⟩ := List.mem_map.mp hx
    have := h2 n hn
    simp
    omega
  · have := bks_le (xs := ns.map D.int) (c := 0) fun x hx => by obtain ⟨n, _, rfl⟩ := List.mem_map.mp hx; simp
    simp at this
    omega
theorem strL_gd {k : Nat} : Gd k 20 (.str strL) := ⟨by rw [sm_str]; decide +kernel, by decide +kernel⟩
theorem strO_gd {k : Nat} : Gd k 20 (.str strO) := ⟨by rw [sm_str]; decide +kernel, by decide +kernel⟩
theorem rule_gd {rs : List Road} {k : Int} {r : Rule} (hf : rs.length ≤ 12) (h : r.ok (closing rs k)) : Gd 9 82 (eRule r) := by
  have b5 := closing_len rs k
  cases r with
  | ord xs =>
    have hp : xs.Perm (closing rs k) := h
    have hl := hp.length_eq
    have g := ints_gd (k := 7) (m := 12) (ns := xs) (by omega) fun n hn => by
      have := closing_mem (hp.mem_iff.mp hn)
      omega
    have g1 := g.bk
    have g2 : bk (.str (PySem.Str.ofString "order")) ≤ 20 := (strO_gd (k := 8)).bk
    unfold eIs at g g1
    refine Gd.tup (k := 8) (fun x hx => ?_) ?_
    · simp only [List.mem_cons, List.not_mem_nil, or_false] at hx
      rcases hx with rfl | rfl
      · exact strO_gd.sm
      · exact g.sm
    · rw [bks_cons, bks_cons, bks_nil]
      omega
  | lig ps =>
    obtain ⟨a1, a2, a3, a4⟩ := h
    have hp : ∀ p ∈ ps, Gd 7 14 (ePh p) := fun p hp => by
      have b1 := a3 p hp
      have b2 := a4 p hp
      have b4 := b2.length_le
      have g := ints_gd (k := 5) (m := 12) (ns := p.2) (by omega) fun n hn => by
        have := closing_mem (b2.subset hn)
        omega
      have g1 := g.bk
      refine Gd.tup (k := 6) (fun x hx => ?_) ?_
      · simp only [List.mem_cons, List.not_mem_nil, or_false] at hx
        rcases hx with rfl | rfl
        · simp; omega
        · exact g.sm
      · rw [bks_cons, bks_cons, bks_nil, bk_int]
        omega
    have g1 := bks_le (xs := ps.map ePh) (c := 14) fun x hx => by obtain ⟨p, h, rfl⟩ := List.mem_map.mp hx; exact (hp p h).bk
    have g2 : bk (.str (PySem.Str.ofString "lights")) ≤ 20 := (strL_gd (k := 8)).bk
    rw [List.length_map] at g1
    refine Gd.tup (k := 8) (fun x hx => ?_) ?_
    · simp only [List.mem_cons, List.not_mem_nil, or_false] at hx
      rcases hx with rfl | rfl
      · exact strL_gd.sm
      · rw [sm_tup, List.all_eq_true]
        intro y hy
        obtain ⟨p, h, rfl⟩ := List.mem_map.mp hy
        exact (hp p h).sm
    · rw [bks_cons, bks_cons, bks_nil, bk_tup]
      omega
theorem net_gd {n : Net} (hn : n.ok) : Gd 12 1000 (eNet n) := by
  have h1 := hn.few
  have h2 := hn.cfew
  have hr : ∀ r ∈ n.roads, Gd 10 4 (eRoad r) := fun r hr => by
    have := hn.road r hr
    unfold Road.ok at this
    refine Gd.tup (k := 9) (fun x hx => ?_) (by simp)
    simp only [List.mem_cons, List.not_mem_nil, or_false] at hx
    rcases hx with rfl | rfl | rfl | rfl <;> simp <;> omega
  have hc : ∀ c ∈ n.cross, Gd 10 88 (eCr c) := fun c hc => by
    obtain ⟨i, hi, e⟩ := List.getElem_of_mem hc
    have g := rule_gd h1 (hn.rule i c (by rw [List.getElem?_eq_getElem hi, e]))
    have ho := hn.outs c hc
    have g2 := ints_gd (k := 8) (m := 4) (ns := c.2) ho.1 fun z hz => by have := ho.2 z hz; omega
    have g3 := g.bk
    have g4 := g2.bk
    refine Gd.tup (k := 9) (fun x hx => ?_) ?_
    · simp only [List.mem_cons, List.not_mem_nil, or_false] at hx
      rcases hx with rfl | rfl
      · exact g.sm
      · exact g2.sm
    · rw [bks_cons, bks_cons, bks_nil]
      omega
  have g1 := bks_le (xs := n.roads.map eRoad) (c := 4) fun x hx => by obtain ⟨p, h, rfl⟩ := List.mem_map.mp hx; exact (hr p h).bk
  have g2 := bks_le (xs := n.cross.map eCr) (c := 88) fun x hx => by obtain ⟨p, h, rfl⟩ := List.mem_map.mp hx; exact (hc p h).bk
  rw [List.length_map] at g1 g2
  refine Gd.tup (k := 11) (fun x hx => ?_) ?_
  · simp only [List.mem_cons, List.not_mem_nil, or_false] at hx
    rcases hx with rfl | rfl
    · rw [sm_tup, List.all_eq_true]
      intro y hy
      obtain ⟨p, h, rfl⟩ := List.mem_map.mp hy
      exact (hr p h).sm
    · rw [sm_tup, List.all_eq_true]
      intro y hy
      obtain ⟨p, h, rfl⟩ := List.mem_map.mp hy
      exact (hc p h).sm
  · rw [bks_cons, bks_cons, bks_nil, bk_tup, bk_tup]
    omega
end C
set_option Elab.async false
set_option linter.all false
set_option maxRecDepth 100000
/-! rule, net (cluster T). -/
namespace C
open PySem L2 Z
theorem wp_lPop {n : Nat} {i : Int} {S : Store} {Q : D → Store → Prop} {xs : List D} {y : D} (h : S[n]? = some (.lst xs)) (h0 : 0 ≤ i) (hy : xs[i.toNat]? = some y) (hl : xs.length ≤ lim) (q : Q y (S.set n (.lst (xs.eraseIdx i.toNat)))) : wp (lPop (.ref n) [.int i]) S Q := by
  have hi := (List.getElem?_eq_some_iff.mp hy).1
  exact ⟨_, _, by simp only [lPop, h, ixN_nn h0 (show i < (xs.length : Int) by omega), hl, if_true, hy, Option.map_some], q⟩
theorem erase_perm {α : Type} {xs : List α} {i : Nat} {y : α} (h : xs[i]? = some y) : (y :: xs.eraseIdx i).Perm xs := by
  obtain ⟨hi, rfl⟩ := List.getElem?_eq_some_iff.mp h
  rw [List.eraseIdx_eq_take_drop_succ]
  have := List.take_append_drop i xs
  conv => rhs; rw [← this, List.drop_eq_getElem_cons hi]
  exact List.perm_middle.symm
theorem rule_ok {x y : MO} (h : SP x y) {rows : List Int} (hl : rows.length ≤ 500) : wp (f__law_rule [.ref 1, .lst (rows.map .int)]) [x, y] fun d S' => ∃ x' y', S' = [x', y'] ∧ SP x' y' ∧ ∃ r : Rule, d = eRule r ∧ r.ok rows := by
  unfold f__law_rule b__law_rule
  simp [-aft_nx, startD_eq]
  refine draw_c h (by omega) (by omega) fun x y r h h0 h1 => ?_
  by_cases hr : r = 0
  · simp [hr, -aft_nx]
    rw [aft_nx]
    simp only [wps_seq]
    simp [-aft_nx]
    refine draw_c h (by omega) (by omega) fun x y r h h0 h1 => ?_
    simp [-aft_nx, okR]
    refine ⟨by omega, ?_⟩
    refine forL_rng (fun i ρ S => ∃ x y ps v w, ρ = [some (.ref 1), some (.lst (rows.map .int)), none, none, some (.ref 2), v, w, none] ∧ S = [x, y, .lst (ps.map ePh)] ∧ SP x y ∧ ps.length = i ∧ (∀ p ∈ ps, 1 ≤ p.1 ∧ p.1 ≤ 9) ∧ ∀ p ∈ ps, p.2.Sublist rows) ⟨x, y, [], _, _, rfl, rfl, h, rfl, by simp, by simp⟩ ?_ ?_
    · rintro i ρ S hi ⟨x, y, ps, v, w, rfl, rfl, h, hp, ha, hb⟩
      simp [-aft_nx]
      refine lcL_map (fun i ys S => ∃ x y out, S = [x, y, .lst (ps.map ePh)] ∧ SP x y ∧ ys = out.map .int ∧ out.Sublist (rows.take i)) D.int rows ⟨x, y, [], rfl, h, rfl, by simp⟩ ?_ ?_
      · rintro i a ys S hd ⟨x, y, out, rfl, hs, rfl, hi⟩
        simp
        refine draw_c hs (by omega) (by omega) fun x' y' r hs h0 h1 => ?_
        simp
        have ht : rows.take (i + 1) = rows.take i ++ [a] := by rw [List.take_add_one, hd]; rfl
        rw [ht]
        by_cases hr : 0 < r
        · have : ¬ r ≤ 0 := by omega
          simp [hr, this]
          exact ⟨_, _, ⟨rfl, rfl⟩, hs, out ++ [a], by simp, hi.append (List.Sublist.refl _)⟩
        · simp [hr]
          exact ⟨by omega, _, _, ⟨rfl, rfl⟩, hs, out, rfl, hi.trans (List.sublist_append_left _ _)⟩
      · rintro ys S ⟨x, y, out, rfl, hs, rfl, hi⟩
        rw [List.take_length] at hi
        have := hi.length_le
        simp [lim, -aft_nx]
        refine ⟨by omega, ?_⟩
        rw [aft_nx]
        simp [-aft_nx]
        refine draw_c hs (by omega) (by omega) fun x y du hs hd0 hd1 => ?_
        simp
        refine ⟨by simp [lim]; omega, x, y, ps ++ [(1 + du, out)], ⟨rfl, rfl, by simp [ePh, eIs]⟩, hs, by simp [hp], ?_, ?_⟩
        · intro a b hm
          rcases List.mem_append.mp hm with hm | hm
          · exact ha _ hm
          · simp at hm; obtain ⟨rfl, rfl⟩ := hm; omega
        · intro a b hm
          rcases List.mem_append.mp hm with hm | hm
          · exact hb _ hm
          · simp at hm; obtain ⟨rfl, rfl⟩ := hm; exact hi
    · rintro ρ S ⟨x, y, ps, v, w, rfl, rfl, h, hp, ha, hb⟩
      rw [aft_nx]
      simp
      refine ⟨h.bel, x, y, ⟨rfl, rfl⟩, h, .lig ps, rfl, ?_, by omega, ha, hb⟩
      intro e; subst e; simp at hp; omega
  · simp [hr, -aft_nx]
    rw [aft_nx]
    simp only [wps_seq]
    simp [-aft_nx]
    rw [aft_nx]
    simp only [wps_seq]
    simp [-aft_nx]
    rw [aft_nx]
    simp only [wps_seq]
    refine wps_whl (fun m ρ S => ∃ x y rs out, ρ = [some (.ref 1), some (.lst (rows.map .int)), some (.ref 2), some (.ref 3), none, none, none, none] ∧ S = [x, y, .lst (rs.map .int), .lst (out.map .int)] ∧ SP x y ∧ rs.length = m ∧ (out ++ rs).Perm rows) ?_ 1000 rows.length _ _ (by omega) ⟨x, y, rows, [], rfl, rfl, h, rfl, by simp⟩
    rintro k ρ S ⟨x, y, rs, out, rfl, rfl, h, hk, hp⟩
    have hl2 := hp.length_eq
    simp at hl2
    simp [-aft_nx]
    by_cases hr : rs = []
    · subst hr
      refine Or.inl ⟨by rw [truD_ref (b := []) rfl]; rfl, ?_⟩
      rw [aft_nx]
      simp
      rw [List.append_nil] at hp
      exact ⟨h.bel, x, y, ⟨rfl, rfl⟩, h, .ord out, by simp [eRule], hp⟩
    · have hr0 : 0 < rs.length := List.length_pos_iff.mpr hr
      have he : (rs.map D.int).isEmpty = false := by
        cases rs with
        | nil => exact (hr rfl).elim
        | cons a l => rfl
      refine Or.inr ⟨by rw [truD_ref (b := rs.map D.int) rfl, he]; rfl, ?_⟩
      refine draw_c h (by omega) (by omega) fun x y r h h0 h1 => ?_
      have hr2 : r.toNat < rs.length := by omega
      refine wp_lPop (xs := rs.map .int) (y := .int rs[r.toNat]) rfl h0 (by simp [hr2]) (by simp [lim]; omega) ?_
      simp
      refine ⟨by simp [lim]; omega, _, ?_, x, y, rs.eraseIdx r.toNat, out ++ [rs[r.toNat]], ⟨rfl, rfl, ?_, by simp⟩, h, rfl, ?_⟩
      · rw [List.length_eraseIdx]; simp [hr2]; omega
      · rw [List.eraseIdx_eq_take_drop_succ, List.eraseIdx_eq_take_drop_succ]; simp
      · refine List.Perm.trans ?_ hp
        rw [List.append_assoc]
        exact List.Perm.append_left _ (erase_perm (by simp [hr2]))
theorem rule_c {x y : MO} (h : SP x y) {rows : List Int} (hl : rows.length ≤ 500) {rest : Store} {Q : D → Store → Prop} (q : ∀ x' y' (r : Rule), SP x' y' → r.ok rows → Q (eRule r) (x' :: y' :: rest)) : wp (callF 2 f__law_rule [.ref 1, .lst (rows.map .int)]) (x :: y :: rest) Q :=
  wp_call2 h.bel.1 h.bel.2 (by simp [nrs]) (rule_ok h hl) fun x' y' d hs ⟨r, e, hr⟩ => by subst e; exact q x' y' r hs hr
end C
set_option Elab.async false
set_option linter.all false
set_option maxRecDepth 100000
/-! net (cluster T). -/
namespace C
open PySem L2 Z
/-- a list of draws less one -/
def EndsOk (cnt : Int) (es : List Int) : Prop := ∀ e ∈ es, -1 ≤ e ∧ e < cnt
theorem ends_lc {x y : MO} (h : SP x y) {m : Nat} {cnt : Int} (hc : 0 ≤ cnt ∧ cnt ≤ 1000) {ρ : Z.Env} {vs : List Nat} {i : Nat} {me : ME} {Q : List D → Store → Prop} (hp : ∀ j : Nat, ∃ ρ', (Tg.nm i).put (.int (j : Nat)) (wipeD ρ vs) = some ρ' ∧ ∀ S (Q' : D → Store → Prop), wp (callF 2 f__law_draw [.ref 1, .int (cnt + 1)]) S (fun d T => ∃ r, d = .int r ∧ Q' (.int (r - 1)) T) → wp (me ρ') S Q')
    (q : ∀ x' y' es, SP x' y' → es.length = m → EndsOk cnt es → Q (es.map .int) [x', y']) : wp (mLcL vs (.nm i) (fun _ => true) mTrue me ρ (rngD 0 m)) [x, y] Q := by
  refine lcL_rng (fun i ys S => ∃ x y es, S = [x, y] ∧ SP x y ∧ ys = es.map D.int ∧ es.length = i ∧ EndsOk cnt es) ⟨x, y, [], rfl, h, rfl, rfl, by simp [EndsOk]⟩ ?_ ?_
  · rintro j ys S hj ⟨x, y, es, rfl, h, rfl, hl, he⟩
    obtain ⟨ρ', e, k⟩ := hp j
    refine ⟨ρ', e, ?_⟩
    simp
    refine k _ _ ?_
    refine draw_c h (by omega) (by omega) fun x' y' r hs h0 h1 => ⟨r, rfl, x', y', rfl, hs, es ++ [r - 1], by simp, by simp [hl], fun e he' => ?_⟩
    rcases List.mem_append.mp he' with hm | hm
    · exact he e hm
    · rw [List.mem_singleton] at hm; omega
  · rintro ys S ⟨x, y, es, rfl, hs, rfl, hl, he⟩
    exact q x y es hs hl he
/-- the places of a number -/
def placesOf (es : List Int) (k : Int) : List Int := ((List.range es.length).filter fun i => es.getD i (-9) == k).map fun i : Nat => (i : Int)
theorem places_mem {es : List Int} {k z : Int} (h : z ∈ placesOf es k) : 0 ≤ z ∧ z < es.length ∧ es.getD z.toNat (-9) = k := by
  unfold placesOf at h
  obtain ⟨i, hi, rfl⟩ := List.mem_map.mp h
  have := List.mem_filter.mp hi
  have h1 := List.mem_range.mp this.1
  refine ⟨by omega, by omega, ?_⟩
  simpa using this.2
theorem places_asc (es : List Int) (k : Int) : (placesOf es k).Pairwise (· < ·) := by
  unfold placesOf
  refine List.pairwise_map.mpr ?_
  exact ((List.pairwise_lt_range (n := es.length)).filter _).imp fun h => by omega
theorem places_len (es : List Int) (k : Int) : (placesOf es k).length ≤ es.length := by
  unfold placesOf
  rw [List.length_map]
  exact Nat.le_trans (List.length_filter_le _ _) (by simp)
/-- the law's own walk for the places -/
theorem places_lc {es : List Int} {k : Int} {S : Store} {ρ : Z.Env} {vs : List Nat} {i : Nat} {mt : MT} {me : ME} {Q : List D → Store → Prop}
    (h : ∀ (j : Nat) (e : Int), es[j]? = some e → ∃ ρ', (Tg.nm i).put (.int (j : Nat)) (wipeD ρ vs) = some ρ' ∧ (wp (mt ρ') S fun b S' => b = (e == k) ∧ S' = S) ∧ (wp (me ρ') S fun d S' => d = .int (j : Nat) ∧ S' = S)) (q : Q ((placesOf es k).map .int) S) :
    wp (mLcL vs (.nm i) (fun _ => true) mt me ρ (rngD 0 es.length)) S Q := by
  rw [rngD0]
  refine lcL_pure _ (fun j : Nat => es.getD j (-9) == k) (fun j => .int (j : Nat)) _ rfl ?_ ?_
  · intro j hj
    have hj := List.mem_range.mp hj
    have e1 : es[j]? = some es[j] := List.getElem?_eq_getElem hj
    obtain ⟨ρ', h1, h2, h3⟩ := h j _ e1
    refine ⟨ρ', h1, ?_, fun _ => h3⟩
    have : es.getD j (-9) = es[j] := by simp [List.getD_eq_getElem?_getD, e1]
    rw [this]
    exact h2
  · have e : List.map (fun j : Nat => D.int (j : Nat)) (List.filter (fun j : Nat => es.getD j (-9) == k) (List.range es.length)) = (placesOf es k).map .int := by simp [placesOf]
    rw [e]
    exact q
theorem closing_places {rs : List Road} {es : List Int} (h : rs.map (fun r => r.2.2.2) = es) (k : Int) : closing rs k = placesOf es k := by
  subst h
  unfold closing placesOf
  rw [List.length_map]
  congr 1
  apply List.filter_congr
  intro i hi
  have hi := List.mem_range.mp hi
  simp [List.getD_eq_getElem?_getD, hi]
theorem net_ok {x y : MO} (h : SP x y) : wp (f__law_net [.ref 1]) [x, y] fun d S' => ∃ x' y', S' = [x', y'] ∧ SP x' y' ∧ ∃ n : Net, d = eNet n ∧ n.ok ∧ n.asc ∧ 3 ≤ n.roads.length ∧ n.roads.length ≤ 7 ∧ n.cross.length ≤ 3 := by
  unfold f__law_net b__law_net
  simp [-aft_nx, startD_eq]
  refine draw_c h (by omega) (by omega) fun x y mm h hm0 hm1 => ?_
  simp [-aft_nx]
  rw [aft_nx]
  simp only [wps_seq]
  simp [-aft_nx]
  refine draw_c h (by omega) (by omega) fun x y cc h hc0 hc1 => ?_
  obtain ⟨many, hmn⟩ : ∃ k : Nat, 3 + mm = k := ⟨(3 + mm).toNat, by omega⟩
  obtain ⟨cnt, hcn⟩ : ∃ k : Nat, 1 + cc = k := ⟨(1 + cc).toNat, by omega⟩
  simp [-aft_nx]
  rw [hmn, hcn, aft_nx]
  simp only [wps_seq]
  simp [-aft_nx, okR]
  refine ⟨by omega, ?_⟩
  refine ends_lc h (cnt := cnt) (by omega) (fun j => ⟨_, rfl, fun S Q' hq => by simp; exact wp_mono hq fun d T ⟨r, e, z⟩ => by subst e; simpa using z⟩) fun x y es h hel hes => ?_
  simp [-aft_nx, lim]
  refine ⟨by omega, ?_⟩
  rw [aft_nx]
  simp only [wps_seq]
  simp [-aft_nx, okR]
  refine ⟨by omega, ?_⟩
  refine ends_lc h (cnt := cnt) (by omega) (fun j => ⟨_, rfl, fun S Q' hq => by simp; exact wp_mono hq fun d T ⟨r, e, z⟩ => by subst e; simpa using z⟩) fun x y bs h hbl hbs => ?_
  simp [-aft_nx, lim]
  refine ⟨by omega, ?_⟩
  rw [aft_nx]
  simp only [wps_seq]
  simp [-aft_nx, okR]
  rw [aft_nx]
  simp only [wps_seq]
  simp [-aft_nx, okR]
  refine ⟨by omega, ?_⟩
  refine forL_rng (fun i ρ S => ∃ x y roads v6, ρ = [some (.ref 1), some (.int many), some (.int cnt), some (.lst (es.map .int)), some (.lst (bs.map .int)), some (.ref 2), v6, none, none, none, none] ∧ S = [x, y, .lst (roads.map eRoad)] ∧ SP x y ∧ roads.map (fun r => r.2.2.2) = es.take i ∧ (∀ r ∈ roads, Road.ok cnt r)) ⟨x, y, [], _, rfl, rfl, h, rfl, by simp⟩ ?_ ?_
  · rintro i ρ S hi ⟨x, y, roads, v6, rfl, rfl, h, hr, hro⟩
    simp [-aft_nx]
    refine draw_c h (by omega) (by omega) fun x y sp h hsp0 hsp1 => ?_
    simp [-aft_nx]
    refine draw_c h (by omega) (by omega) fun x y cl h hcl0 hcl1 => ?_
    simp [-aft_nx]
    refine draw_c h (by omega) (by omega) fun x y li h hli0 hli1 => ?_
    have hie : i < es.length := by omega
    have e1 : es[i]? = some es[i] := List.getElem?_eq_getElem hie
    have hb := hes _ (List.getElem_mem hie)
    have hrl : roads.length = i := by have := congrArg List.length hr; simp at this; omega
    simp [-aft_nx, Z.atI_nat, e1]
    refine ⟨by simp [lim]; omega, x, y, roads ++ [(1 + sp, 2 + cl, 1 + li, es[i])], ⟨rfl, rfl, by simp [eRoad]⟩, h, ?_, ?_⟩
    · rw [List.map_append, hr, List.take_add_one, e1]
      rfl
    · intro a b c d hm
      rcases List.mem_append.mp hm with hm | hm
      · exact hro _ hm
      · simp at hm
        obtain ⟨rfl, rfl, rfl, rfl⟩ := hm
        simp only [Road.ok]
        omega
  · rintro ρ S ⟨x, y, roads, v6, rfl, rfl, h, hr, hro⟩
    rw [← hel, List.take_length] at hr
    have hrl : roads.length = many := by have := congrArg List.length hr; simp at this; omega
    rw [aft_nx]
    simp only [wps_seq]
    simp [-aft_nx]
    rw [aft_nx]
    simp only [wps_seq]
    simp [-aft_nx, okR]
    refine ⟨by omega, ?_⟩
    refine forL_rng (fun i ρ S => ∃ x y cr v6 v8 v9 v10, ρ = [some (.ref 1), some (.int many), some (.int cnt), some (.lst (es.map .int)), some (.lst (bs.map .int)), some (.ref 2), v6, some (.ref 3), v8, v9, v10] ∧ S = [x, y, .lst (roads.map eRoad), .lst (cr.map eCr)] ∧ SP x y ∧ cr.length = i ∧ (∀ (k : Nat) c, cr[k]? = some c → c.1.ok (closing roads k)) ∧ ∀ (k : Nat) c, cr[k]? = some c → c.2 = (placesOf bs k).take 4) ⟨x, y, [], _, _, _, _, rfl, rfl, h, rfl, by simp, by simp⟩ ?_ ?_
    · rintro i ρ S hi ⟨x, y, cr, v6, v8, v9, v10, rfl, rfl, h, hc, hk, hcc⟩
      simp [-aft_nx, okR]
      refine ⟨by omega, ?_⟩
      rw [← hel]
      refine places_lc (es := es) (k := (i : Nat)) (fun j e he => ⟨_, rfl, ?_, ?_⟩) ?_
      · simp [Z.atI_nat, he]
        omega
      · simp
      rw [← closing_places hr]
      have hcl := closing_len roads i
      simp [-aft_nx]
      refine ⟨by simp [lim]; omega, ?_⟩
      rw [aft_nx]
      simp only [wps_seq]
      simp [-aft_nx, okR]
      refine ⟨by omega, ?_⟩
      rw [hel, ← hbl]
      refine places_lc (es := bs) (k := (i : Nat)) (fun j e he => ⟨_, rfl, ?_, ?_⟩) ?_
      · simp [Z.atI_nat, he]
        omega
      · simp
      have hpl := places_len bs i
      simp [-aft_nx]
      refine ⟨by simp [lim]; omega, ?_⟩
      have ct : cutD ((placesOf bs i).map D.int) none (some 4) = ((placesOf bs i).map D.int).take 4 := by rw [cut_take (by omega)]; rfl
      rw [ct, aft_nx]
      simp [-aft_nx]
      refine rule_c h (by omega) fun x y r h hro2 => ?_
      simp
      refine ⟨by simp [lim]; omega, x, y, cr ++ [(r, (placesOf bs i).take 4)], ?_, h, by simp [hc], ?_, ?_⟩
      · simp [eCr, eIs]
      · intro k a b hkc
        rcases Nat.lt_or_ge k cr.length with hlt | hge
        · rw [List.getElem?_append_left hlt] at hkc; exact hk k _ hkc
        · rw [List.getElem?_append_right hge] at hkc
          rcases Nat.lt_or_ge (k - cr.length) 1 with h1 | h1
          · have : k = cr.length := by omega
            subst this
            simp at hkc
            obtain ⟨rfl, rfl⟩ := hkc
            rw [hc]
            exact hro2
          · rw [List.getElem?_eq_none (by simpa using h1)] at hkc; cases hkc
      · intro k a b hkc
        rcases Nat.lt_or_ge k cr.length with hlt | hge
        · rw [List.getElem?_append_left hlt] at hkc; exact hcc k _ hkc
        · rw [List.getElem?_append_right hge] at hkc
          rcases Nat.lt_or_ge (k - cr.length) 1 with h1 | h1
          · have : k = cr.length := by omega
            subst this
            simp at hkc
            obtain ⟨rfl, rfl⟩ := hkc
            rw [hc]
          · rw [List.getElem?_eq_none (by simpa using h1)] at hkc; cases hkc
    · rintro ρ S ⟨x, y, cr, v6, v8, v9, v10, rfl, rfl, h, hc, hk, hcc⟩
      rw [aft_nx]
      simp
      have hcm : ∀ c ∈ cr, ∃ k : Nat, c.2 = (placesOf bs k).take 4 := fun c hcm => by
        obtain ⟨k, hk2⟩ := List.getElem?_of_mem hcm
        exact ⟨k, hcc k c hk2⟩
      refine ⟨h.bel, x, y, ⟨rfl, rfl⟩, h, ⟨roads, cr⟩, rfl, ?_, ?_, by simp; omega, by simp; omega, by simp; omega⟩
      · refine ⟨by simp; omega, by simp; omega, by simp; omega, by simp only [hc]; exact hro, hk, fun c hm => ?_, fun k1 k2 c1 c2 h1 h2 o o1 o2 => ?_⟩
        · obtain ⟨k, e⟩ := hcm c hm
          rw [e]
          refine ⟨by rw [List.length_take]; omega, fun o ho => ?_⟩
          have := places_mem (List.mem_of_mem_take ho)
          simp only
          omega
        · rw [hcc k1 c1 h1] at o1
          rw [hcc k2 c2 h2] at o2
          have a1 := (places_mem (List.mem_of_mem_take o1)).2.2
          have a2 := (places_mem (List.mem_of_mem_take o2)).2.2
          omega
      · intro c hm
        obtain ⟨k, e⟩ := hcm c hm
        rw [e]
        exact (places_asc bs k).sublist (List.take_sublist _ _)
theorem net_c {x y : MO} (h : SP x y) {rest : Store} {Q : D → Store → Prop} (q : ∀ x' y' (n : Net), SP x' y' → n.ok → n.asc → 3 ≤ n.roads.length → n.roads.length ≤ 7 → n.cross.length ≤ 3 → Q (eNet n) (x' :: y' :: rest)) : wp (callF 2 f__law_net [.ref 1]) (x :: y :: rest) Q :=
  wp_call2 h.bel.1 h.bel.2 (by simp [nrs]) (net_ok h) fun x' y' d hs ⟨r, e, h1, h2, h3, h4, h5⟩ => by subst e; exact q x' y' r hs h1 h2 h3 h4 h5
end C
set_option Elab.async false
set_option linter.all false
set_option maxRecDepth 100000
/-! cutting. -/
namespace C
open PySem L2 Z
theorem nodup_len : ∀ (k : Nat) {l : List Int}, l.Nodup → (∀ x ∈ l, 0 ≤ x ∧ x < k) → l.length ≤ k
  | 0, l, _, h => by
    cases l with
    | nil => simp
    | cons a l => have := h a List.mem_cons_self; omega
  | k + 1, l, hn, h => by
    by_cases hk : (k : Int) ∈ l
    · have h1 := nodup_len k (hn.erase (k : Int)) fun x hx => by
        have h2 := (hn.mem_erase_iff).mp hx
        have := h x h2.2
        have := h2.1
        omega
      have := List.length_erase_of_mem hk
      have := List.length_pos_of_mem hk
      omega
    · have := nodup_len k hn fun x hx => by
        have := h x hx
        have : x ≠ (k : Int) := fun e => hk (e ▸ hx)
        omega
      omega

structure CutOk (n : Net) (c : List Int) (m : Nat) : Prop where
  len : c.length = n.roads.length
  few : m ≤ 4
  bd : ∀ w ∈ c, 0 ≤ w ∧ w < (m : Int)
  all : ∀ j : Nat, j < m → (j : Int) ∈ c
theorem idx_nd {ns : List Int} (h : ns.Nodup) {j : Nat} (hj : j < ns.length) : ns.idxOf ns[j] = j := by
  have h1 := idx_first (List.getElem_mem hj)
  have h2 := (List.getElem?_eq_some_iff.mp h1.1)
  exact (List.getElem_inj h).mp h2.2
theorem cutting_ok {n : Net} (hn : n.ok) {x y : MO} (h : SP x y) : wp (f__law_cutting [.ref 1, eNet n]) [x, y] fun d S' => ∃ x' y', S' = [x', y'] ∧ SP x' y' ∧ ∃ c m, d = eIs c ∧ CutOk n c m := by
  unfold f__law_cutting b__law_cutting
  have h1 := hn.many
  have h2 := hn.few
  have eN : ∀ S : Store, asSq S (eNet n) = some [.tup (n.roads.map eRoad), .tup (n.cross.map eCr)] := fun S => by simp [eNet]
  simp [-aft_nx, startD_eq, eN]
  have hd : (0 : Int) < (if (n.roads.length : Int) < 4 then (n.roads.length : Int) else 4) ∧ (if (n.roads.length : Int) < 4 then (n.roads.length : Int) else 4) ≤ 4 := by split <;> omega
  refine draw_c h hd.1 (by omega) fun x y r h h0 h1 => ?_
  simp [-aft_nx]
  rw [aft_nx]
  simp only [wps_seq]
  simp [-aft_nx, eN]
  refine lcL_map (fun i ys S => ∃ x y out, S = [x, y] ∧ SP x y ∧ ys = out.map D.int ∧ out.length = i ∧ ∀ w ∈ out, 0 ≤ w ∧ w < 1 + r) eRoad n.roads ⟨x, y, [], rfl, h, rfl, rfl, by simp⟩ ?_ ?_
  · rintro i rd ys S hi ⟨x, y, out, rfl, h, rfl, hl, hb⟩
    refine ⟨by simp, _, rfl, ?_⟩
    simp
    refine draw_c h (by omega) (by omega) fun x y w h w0 w1 => ⟨x, y, rfl, h, out ++ [w], by simp, by simp [hl], fun z hz => ?_⟩
    rcases List.mem_append.mp hz with hz | hz
    · exact hb z hz
    · rw [List.mem_singleton] at hz; omega
  · rintro ys S ⟨x, y, rows, rfl, h, rfl, hl, hb⟩
    refine ⟨by simp, ?_⟩
    simp [-aft_nx]
    refine ⟨by simp [lim]; omega, ?_⟩
    rw [aft_nx]
    simp only [wps_seq]
    simp [-aft_nx, intsOf_map]
    refine ⟨by omega, ?_⟩
    rw [aft_nx]
    simp
    have hnd : (srtU rows).Nodup := (srtU_asc (l := rows)).imp fun h e => by omega
    refine lcL_all D.int (fun w => .int ((srtU rows).idxOf w : Nat)) _ rfl (fun w hw => ⟨_, rfl, ?_⟩) ?_
    · simp
      refine ⟨rfl, ?_⟩
      refine wp_lIdx (xs := (srtU rows).map D.int) (asLC_lst.mpr rfl) (intsOf_map _) (srtU_mem.mpr hw) ?_
      simp
    · have hlen : (srtU rows).length ≤ 4 := by
        have := nodup_len (1 + r).toNat hnd fun w hw => by have := hb w (srtU_mem.mp hw); omega
        omega
      refine ⟨by simp [lim]; omega, (clo_ex (by simp)).mpr ⟨by simp [h.bel], x, y, rfl, h, rows.map fun w => ((srtU rows).idxOf w : Nat), by simp [eIs], (srtU rows).length, ?_⟩⟩
      refine ⟨by simp [hl], hlen, fun w hw => ?_, fun j hj => ?_⟩
      · obtain ⟨z, hz, rfl⟩ := List.mem_map.mp hw
        have h1 := (idx_first (srtU_mem.mpr hz)).1
        have := (List.getElem?_eq_some_iff.mp h1).1
        omega
      · refine List.mem_map.mpr ⟨(srtU rows)[j], srtU_mem.mp (List.getElem_mem hj), ?_⟩
        rw [idx_nd hnd hj]
theorem cutting_c {n : Net} (hn : n.ok) {x y : MO} (h : SP x y) {rest : Store} {Q : D → Store → Prop} (q : ∀ x' y' c m, SP x' y' → CutOk n c m → Q (eIs c) (x' :: y' :: rest)) : wp (callF 2 f__law_cutting [.ref 1, eNet n]) (x :: y :: rest) Q :=
  wp_call2 h.bel.1 h.bel.2 (by simp [nrs]) (cutting_ok hn h) fun x' y' d hs ⟨c, m, e, hr⟩ => by subst e; exact q x' y' c m hs hr
/-- what is a cutting -/
def maxG (ns : List Int) : Int := (maxI ns).getD 0
def upTo (m : Int) : List Int := (List.range (m + 1).toNat).map fun i : Nat => (i : Int)
def cutB (n : Nat) (d : D) : Bool := match d with
  | .tup xs => (decide (xs.length = n) && xs.all (fun x => numB x 0 3)) && decide (srtU (xs.map ivD) = upTo (maxG (xs.map ivD)))
  | _ => false
theorem cutB_no {n : Nat} {d : D} (h : isT d = false) : cutB n d = false := by
  unfold cutB
  cases d with
  | tup xs => cases h
  | _ => rfl
abbrev badC : Str := PySem.Str.ofString "BadCutting"
theorem rng_up {m : Int} : rngD 0 (m + 1).toNat = (upTo m).map D.int := by
  unfold rngD upTo
  simp [Function.comp_def]
theorem maxI_some {ns : List Int} (h : ns ≠ []) : maxI ns = some (maxG ns) := by
  cases ns with
  | nil => exact (h rfl).elim
  | cons a l => rfl
theorem max_in {ns : List Int} (h : ns ≠ []) : maxG ns ∈ ns ∧ ∀ y ∈ ns, y ≤ maxG ns := by
  obtain ⟨h1, h2, _⟩ := maxI_spec (maxI_some h)
  exact ⟨h1, h2⟩
theorem check_cut_d {n : Net} (hn : n.ok) {d : D} (h : G d) {S : Store} : wps b_check_cutting (startD 3 [eNet n, d]) S fun o S' => if cutB n.roads.length d = true then ∃ ρ, o = .nx ρ else o = .ex badC := by
  unfold b_check_cutting
  have h1 := hn.many
  have h2 := hn.few
  have eN : ∀ S : Store, asSq S (eNet n) = some [.tup (n.roads.map eRoad), .tup (n.cross.map eCr)] := fun S => by simp [eNet]
  simp only [wps_seq, wps_if, wp_mNot, wp_mTru, wp_mCall, wp_mCons, wp_mVar, startD_eq]
  simp [-aft_nx, eN]
  refine is_list_d h ?_
  cases hT : isT d with
  | false =>
    rw [tupB_no hT, cutB_no hT]
    simp [-aft_nx]
  | true =>
    obtain ⟨xs, rfl⟩ := isT_ex hT
    by_cases hl : xs.length = n.roads.length
    · have hl' : (xs.length : Int) ≤ (n.roads.length : Int) := by omega
      simp [-aft_nx, tupB, hl', hl, eN]
      rw [aft_nx]
      simp only [wps_seq]
      simp [-aft_nx]
      refine all_c (fun d => .bl (numB d 0 3)) xs rfl (fun a ha => ⟨_, rfl, ?_⟩) ?_
      · simp [-aft_nx]
        exact is_whole_d (h.kid ha) ⟨rfl, rfl⟩
      · refine ⟨by simp [lim]; omega, _, blsOf_f, ?_⟩
        rw [mem_f]
        cases hall : xs.all (fun x => numB x 0 3) with
        | false => simp [-aft_nx, cutB, hall]
        | true =>
          have e := ints_of hall
          have hr : cutB n.roads.length (.tup xs) = decide (srtU (xs.map ivD) = upTo (maxG (xs.map ivD))) := by simp [cutB, hall, hl]
          have hb := ints_bd hall
          rw [hr]
          generalize xs.map ivD = ns at e hb
          subst e
          simp only [List.length_map] at hl
          have hne : ns ≠ [] := by intro e; subst e; simp at hl; omega
          have hmx := hb _ (max_in hne).1
          simp [-aft_nx]
          rw [aft_nx]
          simp [-aft_nx, intsOf_map]
          refine ⟨by omega, ?_⟩
          refine wp_cMaxQ (by simp) (intsOf_map _) (maxI_some hne) ?_
          simp [-aft_nx]
          refine ⟨by omega, ?_⟩
          rw [rng_up]
          refine wp_dNe eqD_ints ?_
          by_cases hh : srtU ns = upTo (maxG ns) <;> simp [hh]
    · have hl' : ¬ (xs.length : Int) = (n.roads.length : Int) := by omega
      have hno : cutB n.roads.length (.tup xs) = false := by simp [cutB, hl]
      by_cases h3 : (xs.length : Int) ≤ (n.roads.length : Int)
      · simp [-aft_nx, tupB, h3, hl', hl, hno, eN]
      · simp [-aft_nx, tupB, h3, hno]
def toldC (b : Bool) : D := if b then .non else .bl true
theorem told_w {n : Net} (hn : n.ok) {d : D} (h : G d) {S : Store} {Q : D → Store → Prop} (q : Q (toldC (cutB n.roads.length d)) S) : wp (callF 0 f__law_told [eNet n, d]) S Q := by
  refine wp_call0 (by simp [nrs, h.nr]) ?_
  unfold f__law_told b__law_told
  obtain ⟨o, S', e1, e3⟩ := check_cut_d hn h (S := [])
  have ha : mCons (mVar 0) (mCons (mVar 1) mNil) (startD 3 [eNet n, d]) [] = some ([eNet n, d], []) := rfl
  rw [wp_mBody, wps_seq]
  have hclo : ∀ S' : Store, clo 0 (toldC (cutB n.roads.length d)) S' = some (toldC (cutB n.roads.length d), []) := fun S' => (clo_nr (by cases cutB n.roads.length d <;> rfl)).mpr ⟨rfl, rfl⟩
  cases hg : cutB n.roads.length d with
  | true =>
    rw [hg] at e3 q hclo
    obtain ⟨ρ, rfl⟩ : ∃ ρ, o = .nx ρ := by simpa using e3
    have hf : f_check_cutting [eNet n, d] [] = some (.inl .non, S') := by
      unfold f_check_cutting mBodyX
      rw [e1]
    refine ⟨.nx (startD 3 [eNet n, d]), S', ?_, ?_⟩
    · unfold mTryIf
      simp only [ha, hf]
      rfl
    · rw [aft_nx]
      simp
      exact q
  | false =>
    rw [hg] at e3 q hclo
    have e3' : o = .ex badC := by simpa using e3
    subst e3'
    have hf : f_check_cutting [eNet n, d] [] = some (.inr badC, S') := by
      unfold f_check_cutting mBodyX
      rw [e1]
    refine ⟨.rt (.bl true), S', ?_, ?_⟩
    · unfold mTryIf
      simp only [ha, hf, if_true]
      rfl
    · rw [aft_rt]
      exact ⟨_, rfl, _, _, hclo S', rfl, q⟩
/-- a drawn cutting is a cutting -/
theorem cut_max {n : Net} {c : List Int} {m : Nat} (h : CutOk n c m) (hn : 1 ≤ n.roads.length) : 1 ≤ m ∧ c ≠ [] ∧ maxG c = (m : Int) - 1 := by
  have hl := h.len
  have hne : c ≠ [] := by intro e; subst e; simp at hl; omega
  obtain ⟨h1, h2⟩ := max_in hne
  have h3 := h.bd _ h1
  have h4 := h2 _ (h.all (m - 1) (by omega))
  exact ⟨by omega, hne, by omega⟩
theorem srt_up {c : List Int} {m : Nat} (h1 : ∀ w ∈ c, 0 ≤ w ∧ w < (m : Int)) (h2 : ∀ j : Nat, j < m → (j : Int) ∈ c) : srtU c = upTo ((m : Int) - 1) := by
  refine asc_uniq srtU_asc ?_ fun k => ?_
  · unfold upTo
    exact List.pairwise_map.mpr ((List.pairwise_lt_range (n := _)).imp fun h => by omega)
  · rw [srtU_mem]
    unfold upTo
    simp only [List.mem_map, List.mem_range]
    constructor
    · intro hk
      have := h1 k hk
      exact ⟨k.toNat, by omega, by omega⟩
    · rintro ⟨i, hi, rfl⟩
      exact h2 i (by omega)
theorem cut_good {n : Net} {c : List Int} {m : Nat} (h : CutOk n c m) (hn : 1 ≤ n.roads.length) : cutB n.roads.length (eIs c) = true := by
  obtain ⟨h1, h2, h3⟩ := cut_max h hn
  have h4 := h.few
  unfold cutB eIs
  simp only
  rw [all_num (fun w hw => by have := h.bd w hw; omega), iv_map, h3, srt_up h.bd h.all]
  simp [h.len]
theorem cut_G {n : Net} {c : List Int} {m : Nat} (h : CutOk n c m) (hn : n.roads.length ≤ 12) : Gd 1 12 (eIs c) := by
  have h4 := h.few
  exact ints_gd (k := 0) (by rw [h.len]; exact hn) fun w hw => by have := h.bd w hw; omega
end C
set_option Elab.async false
set_option linter.all false
set_option maxRecDepth 100000
/-! hurt cuttings. -/
namespace C
open PySem L2 Z
theorem Gd.int {k b : Nat} {i : Int} (h : i.natAbs < 1000000000000) : Gd k b (.int i) := ⟨by simp [h], by simp⟩
theorem toG {b : Nat} {d : D} {k : Nat} (h : Gd k b d) (hb : b ≤ 100000) : G d := ⟨k, h.up (Nat.le_refl _) hb⟩
theorem cut_butlast {xs : List D} : cutD xs none (some (-1)) = xs.take (xs.length - 1) := by
  unfold cutD HT.sIx
  simp
  congr 1
  omega
/-- an odd worker -/
def OddW (c : List Int) (o : D) : Prop := Gd 2 10 o ∧ (numB o 0 3 = false ∨ o = .int (maxG c + 2))
theorem G_ints {ns : List Int} (h1 : ns.length ≤ 100) (h2 : ∀ n ∈ ns, 0 ≤ n ∧ n ≤ 1000) : G (.tup (ns.map .int)) := toG (ints_gd (k := 1) h1 h2) (by omega)
theorem mix_G {c : List Int} {o : D} {i : Nat} (h1 : c.length ≤ 12) (h2 : ∀ n ∈ c, 0 ≤ n ∧ n ≤ 1000) (ho : OddW c o) : G (.tup ((c.map D.int).take i ++ [o] ++ (c.map D.int).drop (i + 1))) := by
  have hb := ho.1.bk
  have ht := bks_le (xs := (c.map D.int).take i) (c := 0) fun x hx => by obtain ⟨n, _, rfl⟩ := List.mem_map.mp (List.mem_of_mem_take hx); simp
  have hd := bks_le (xs := (c.map D.int).drop (i + 1)) (c := 0) fun x hx => by obtain ⟨n, _, rfl⟩ := List.mem_map.mp (List.mem_of_mem_drop hx); simp
  have l1 : ((c.map D.int).take i).length ≤ 12 := by rw [List.length_take]; simp; omega
  have l2 : ((c.map D.int).drop (i + 1)).length ≤ 12 := by rw [List.length_drop]; simp; omega
  refine toG (k := 3) (b := 50) (Gd.tup (fun x hx => ?_) ?_) (by omega)
  · have hn : ∀ n ∈ c, sm 2 (.int n) = true := fun n hn => by have := h2 n hn; simp; omega
    rcases List.mem_append.mp hx with hx | hx
    · rcases List.mem_append.mp hx with hx | hx
      · obtain ⟨n, hm, rfl⟩ := List.mem_map.mp (List.mem_of_mem_take hx); exact hn n hm
      · rw [List.mem_singleton] at hx; subst hx; exact ho.1.sm
    · obtain ⟨n, hm, rfl⟩ := List.mem_map.mp (List.mem_of_mem_drop hx); exact hn n hm
  · simp only [bks_append, bks_cons, bks_nil]
    omega
theorem cutB_len {n : Nat} {xs : List D} (h : xs.length ≠ n) : cutB n (.tup xs) = false := by simp [cutB, h]
theorem mix_bad {n : Net} {c : List Int} {m : Nat} (h : CutOk n c m) (hn : 1 ≤ n.roads.length) {o : D} {i : Nat} (ho : OddW c o) : cutB n.roads.length (.tup ((c.map D.int).take i ++ [o] ++ (c.map D.int).drop (i + 1))) = false := by
  obtain ⟨m1, hne, hmx⟩ := cut_max h hn
  unfold cutB
  simp only
  cases hno : numB o 0 3 with
  | false => simp [hno]
  | true =>
    have e : o = .int (maxG c + 2) := by
      rcases ho.2 with h2 | h2
      · rw [hno] at h2; cases h2
      · exact h2
    subst e
    have em : ((c.map D.int).take i ++ [D.int (maxG c + 2)] ++ (c.map D.int).drop (i + 1)).map ivD = c.take i ++ [(m : Int) + 1] ++ c.drop (i + 1) := by
      rw [List.map_append, List.map_append, List.map_take, List.map_drop, iv_map, hmx]
      simp
      omega
    rw [em]
    have hmem : ∀ w ∈ c.take i ++ [(m : Int) + 1] ++ c.drop (i + 1), w < (m : Int) ∨ w = m + 1 := fun w hw => by
      rcases List.mem_append.mp hw with hw | hw
      · rcases List.mem_append.mp hw with hw | hw
        · exact .inl (h.bd w (List.mem_of_mem_take hw)).2
        · rw [List.mem_singleton] at hw; exact .inr hw
      · exact .inl (h.bd w (List.mem_of_mem_drop hw)).2
    have hin : (m : Int) + 1 ∈ c.take i ++ [(m : Int) + 1] ++ c.drop (i + 1) := by simp
    have hne2 : c.take i ++ [(m : Int) + 1] ++ c.drop (i + 1) ≠ [] := by simp
    obtain ⟨g1, g2⟩ := max_in hne2
    have hmax : maxG (c.take i ++ [(m : Int) + 1] ++ c.drop (i + 1)) = m + 1 := by
      have a1 := g2 _ hin
      have a2 := hmem _ g1
      omega
    rw [hmax]
    have hno2 : ¬ srtU (c.take i ++ [(m : Int) + 1] ++ c.drop (i + 1)) = upTo ((m : Int) + 1) := fun e => by
      have h1 : (m : Int) ∈ upTo ((m : Int) + 1) := by
        unfold upTo
        exact List.mem_map.mpr ⟨m, List.mem_range.mpr (by omega), rfl⟩
      rw [← e, srtU_mem] at h1
      have := hmem _ h1
      omega
    rw [decide_eq_false hno2, Bool.and_false]
theorem zero_ok : Gd 2 10 (.str (PySem.Str.ofString "0")) := ⟨by rw [sm_str]; decide +kernel, by decide +kernel⟩
theorem hurt_ok {n : Net} (hn : n.ok) {c : List Int} {m : Nat} (hc : CutOk n c m) {x y : MO} (h : SP x y) : wp (f__law_hurt [.ref 1, eIs c]) [x, y] fun d S' => ∃ x' y', S' = [x', y'] ∧ SP x' y' ∧ G d ∧ cutB n.roads.length d = false := by
  have h1 := hn.many
  have h2 := hn.few
  have hl := hc.len
  obtain ⟨m1, hne, hmx⟩ := cut_max hc h1
  have hfew := hc.few
  unfold f__law_hurt b__law_hurt
  have eI : ∀ S : Store, asSq S (eIs c) = some (c.map .int) := fun S => by simp [eIs]
  have mx : ∀ (S : Store) (Q : D → Store → Prop), Q (.int (maxG c)) S → wp (cMaxQ [eIs c]) S Q := fun S Q q => wp_cMaxQ (eI S) (intsOf_map _) (maxI_some hne) q
  simp [-aft_nx, startD_eq, eI]
  refine draw_c h (by omega) (by omega) fun x y at1 h a0 a1 => ?_
  obtain ⟨i, rfl⟩ : ∃ i : Nat, at1 = (i : Int) := ⟨at1.toNat, by omega⟩
  have hil : i < c.length := by omega
  have he : c[i]? = some c[i] := List.getElem?_eq_getElem hil
  rw [aft_nx]
  simp only [wps_seq]
  simp [-aft_nx]
  refine mx _ _ ?_
  simp [-aft_nx]
  refine draw_c h (by omega) (by omega) fun x y r h r0 r1 => ?_
  obtain ⟨k, rfl⟩ : ∃ k : Nat, r = (k : Int) := ⟨r.toNat, by omega⟩
  have hodd : ∃ o, [D.int (-1), .int 4, .bl true, .non, .str (PySem.Str.ofString "0"), .int (maxG c + 2), .lst [.int 0], .tup [.int 0], .lst [], .int 1000000000][k]? = some o ∧ OddW c o := by
    have hk : k = 0 ∨ k = 1 ∨ k = 2 ∨ k = 3 ∨ k = 4 ∨ k = 5 ∨ k = 6 ∨ k = 7 ∨ k = 8 ∨ k = 9 := by omega
    rcases hk with rfl | rfl | rfl | rfl | rfl | rfl | rfl | rfl | rfl | rfl
    · exact ⟨_, rfl, Gd.int (by decide), .inl (by decide)⟩
    · exact ⟨_, rfl, Gd.int (by decide), .inl (by decide)⟩
    · exact ⟨_, rfl, ⟨by simp, by simp⟩, .inl rfl⟩
    · exact ⟨_, rfl, ⟨by simp, by simp⟩, .inl rfl⟩
    · exact ⟨_, rfl, zero_ok, .inl rfl⟩
    · exact ⟨_, rfl, Gd.int (by omega), .inr rfl⟩
    · exact ⟨_, rfl, ⟨by simp, by simp⟩, .inl rfl⟩
    · exact ⟨_, rfl, ⟨by simp, by simp⟩, .inl rfl⟩
    · exact ⟨_, rfl, ⟨by simp, by simp⟩, .inl rfl⟩
    · exact ⟨_, rfl, Gd.int (by decide), .inl (by decide)⟩
  obtain ⟨o, ho1, ho2⟩ := hodd
  rw [wp_dIx]
  refine ⟨_, rfl, o, by rw [Z.atI_nat]; exact ho1, ?_⟩
  rw [aft_nx]
  simp only [wps_seq]
  -- the rows may be changed
  have last : ∀ (x y : MO) (o : D), SP x y → OddW c o → wps (mSeq (mSet 4 (mFz (mCons (mSl (mVar 1) mNoPart (mPart (mNeg (mC (.int 1))))) (mCons (mOp dAdd (mVar 1) (mTup (mCons (mC (.int 0)) mNil))) (mCons (mFz (mCF cList (mCons (mVar 1) mNil))) (mCons (mC .non) (mCons (mTup mNil) (mCons (mOp dAdd (mOp dAdd (mSl (mVar 1) mNoPart (mPart (mVar 2))) (mCB cTuple (mCons (mVar 3) mNil))) (mSl (mVar 1) (mPart (mOp dAdd (mVar 2) (mC (.int 1)))) mNoPart)) mNil))))))))
      (mRet (mOp dIx (mVar 4) (mCall 2 f__law_draw (mCons (mVar 0) (mCons (mC (.int 6)) mNil)))))) [some (.ref 1), some (eIs c), some (.int (i : Nat)), some (.lst [o]), none] [x, y]
      (fun o S1 => ∃ d, outD o = some d ∧ ∃ d' S2, clo 2 d S1 = some (d', S2) ∧ ∃ x' y', S2 = [x', y'] ∧ SP x' y' ∧ G d' ∧ cutB n.roads.length d' = false) := by
    intro x y o h ho
    have ct : cutD (c.map D.int) none (some (i : Int)) = (c.map D.int).take i := by rw [cut_take (by omega)]; simp
    have cd : cutD (c.map D.int) (some ((i : Int) + 1)) none = (c.map D.int).drop (i + 1) := by rw [cut_drop (by omega)]; congr 1
    simp only [wps_seq]
    have nt : ∀ (S : Store) (xs : List D), asL S (D.tup xs) = none := fun _ _ => rfl
    simp [-aft_nx, eIs, cut_butlast, ct, cd, nt]
    refine ⟨by simp [lim]; omega, by simp [lim]; omega, by simp [lim]; omega, ?_⟩
    rw [aft_nx]
    simp only [wps_ret, wp_mOp, wp_mVar, wp_mCall, wp_mCons, wp_mC, wp_mNil]
    refine ⟨_, rfl, _, rfl, ?_⟩
    refine draw_c h (by omega) (by omega) fun x y r h r0 r1 => ?_
    obtain ⟨k, rfl⟩ : ∃ k : Nat, r = (k : Int) := ⟨r.toNat, by omega⟩
    rw [wp_dIx]
    have fin : ∀ d : D, G d → cutB n.roads.length d = false → ∃ d1, outD (.rt d) = some d1 ∧ ∃ d' S2, clo 2 d1 [x, y] = some (d', S2) ∧ ∃ x' y', S2 = [x', y'] ∧ SP x' y' ∧ G d' ∧ cutB n.roads.length d' = false := fun d g1 g2 =>
      ⟨d, rfl, (clo_ex g1.nr).mpr ⟨by simp [h.bel], x, y, rfl, h, g1, g2⟩⟩
    have hcb : ∀ w ∈ c, 0 ≤ w ∧ w ≤ 1000 := fun w hw => by have := hc.bd w hw; omega
    refine ⟨_, rfl, ?_⟩
    rw [Z.atI_nat]
    have hk : k = 0 ∨ k = 1 ∨ k = 2 ∨ k = 3 ∨ k = 4 ∨ k = 5 := by omega
    rcases hk with rfl | rfl | rfl | rfl | rfl | rfl
    · refine ⟨_, rfl, fin _ ?_ (cutB_len (by simp; omega))⟩
      have := G_ints (ns := c.take (c.length - 1)) (by rw [List.length_take]; omega) fun w hw => hcb w (List.mem_of_mem_take hw)
      simpa [List.map_take] using this
    · refine ⟨_, rfl, fin _ ?_ (cutB_len (by simp; omega))⟩
      have := G_ints (ns := c ++ [0]) (by simp; omega) fun w hw => by
        rcases List.mem_append.mp hw with hw | hw
        · exact hcb w hw
        · rw [List.mem_singleton] at hw; omega
      simpa using this
    · refine ⟨_, rfl, fin _ ?_ rfl⟩
      obtain ⟨k, g⟩ := G_ints (ns := c) (by omega) hcb
      refine ⟨k, ?_, g.bk⟩
      cases k with
      | zero => have := g.sm; cases this
      | succ k => have := g.sm; simp only [sm_tup, sm_lst] at this ⊢; exact this
    · exact ⟨_, rfl, fin _ ⟨0, by simp, by simp⟩ rfl⟩
    · exact ⟨_, rfl, fin _ ⟨1, by simp, by simp⟩ (cutB_len (by simp; omega))⟩
    · refine ⟨_, rfl, fin _ ?_ ?_⟩
      · have := mix_G (c := c) (o := o) (i := i) (by omega) hcb ho
        simpa using this
      · have := mix_bad hc h1 (o := o) (i := i) ho
        simpa using this
  simp [-aft_nx, eI, intsOf_map, Z.atI_nat, he]
  refine ⟨rfl, ?_⟩
  by_cases hcnt : 1 < (List.count c[i] (srtI c) : Int)
  · refine Or.inr ⟨hcnt, ?_⟩
    refine draw_c h (by omega) (by omega) fun x y r h r0 r1 => ?_
    rw [wp_dEqI]
    by_cases hr : r = 0
    · subst hr
      refine Or.inr ⟨rfl, ?_⟩
      refine mx _ _ ?_
      simp [-aft_nx]
      rw [aft_nx]
      exact last x y _ h ⟨Gd.int (by omega), .inr rfl⟩
    · refine Or.inl ⟨by simp [hr], ?_⟩
      rw [aft_nx]
      exact last x y o h ho2
  · refine Or.inl ⟨by omega, ?_⟩
    rw [aft_nx]
    exact last x y o h ho2
theorem hurt_c {n : Net} (hn : n.ok) {c : List Int} {m : Nat} (hc : CutOk n c m) {x y : MO} (h : SP x y) {rest : Store} {Q : D → Store → Prop} (q : ∀ x' y' d, SP x' y' → G d → cutB n.roads.length d = false → Q d (x' :: y' :: rest)) : wp (callF 2 f__law_hurt [.ref 1, eIs c]) (x :: y :: rest) Q :=
  wp_call2 (P := fun d => G d ∧ cutB n.roads.length d = false) h.bel.1 h.bel.2 (by simp [nrs]) (hurt_ok hn hc h) fun x' y' d hs ⟨h1, h2⟩ => q x' y' d hs h1 h2
end C
set_option Elab.async false
set_option linter.all false
set_option maxRecDepth 100000
/-! owners, links. -/
namespace C
open PySem L2 Z
theorem ends_w {n : Net} (hn : n.ok) {S : Store} {Q : D → Store → Prop} (q : Q (.lst ((List.range n.cross.length).map fun i => .lst ((closing n.roads (i : Nat)).map .int))) S) : wp (callF 0 f_ends [eNet n]) S Q := by
  have h1 := hn.few
  have h2 := hn.cfew
  refine wp_call0 (by simp [nrs]) ?_
  unfold f_ends b_ends
  simp [startD_eq, eNet, okR]
  refine ⟨by omega, ?_⟩
  rw [rngD0]
  refine lcL_all _ (fun i : Nat => .lst ((closing n.roads (i : Nat)).map .int)) _ rfl (fun i hi => ?_) ?_
  · simp
    exact road_ends_w (by omega) ⟨rfl, rfl⟩
  · simp [lim]
    exact ⟨by omega, q⟩

theorem eN_sq {n : Net} {S : Store} : asSq S (eNet n) = some [.tup (n.roads.map eRoad), .tup (n.cross.map eCr)] := by simp [eNet]
theorem eI_sq {c : List Int} {S : Store} : asSq S (eIs c) = some (c.map .int) := by simp [eIs]
theorem c_at {n : Net} {c : List Int} {m : Nat} (hc : CutOk n c m) {r : Int} (h0 : 0 ≤ r) (h1 : r < n.roads.length) : atI (c.map D.int) r = some (.int (c.getD r.toNat 0)) := by
  obtain ⟨i, rfl⟩ : ∃ i : Nat, r = (i : Int) := ⟨r.toNat, by omega⟩
  have hl := hc.len
  have hi : i < c.length := by omega
  rw [Z.atI_nat]
  simp [hi]
def ownerV (n : Net) (c : List Int) (k : Nat) : Int := match closing n.roads k with
  | [] => -1
  | r :: _ => c.getD r.toNat 0
theorem owner_bd {n : Net} {c : List Int} {m : Nat} (hc : CutOk n c m) (k : Nat) : ownerV n c k = -1 ∨ (0 ≤ ownerV n c k ∧ ownerV n c k < 4) := by
  unfold ownerV
  split
  · exact .inl rfl
  · rename_i r l e
    have hm := closing_mem (rs := n.roads) (k := k) (x := r) (by rw [e]; exact List.mem_cons_self)
    have hl := hc.len
    have hr : r.toNat < c.length := by omega
    have := hc.bd _ (List.getElem_mem hr)
    have hf := hc.few
    rw [List.getD_eq_getElem?_getD, List.getElem?_eq_getElem hr]
    simp only [Option.getD_some]
    omega
theorem owner_w {n : Net} (hn : n.ok) {c : List Int} {m : Nat} (hc : CutOk n c m) {k : Nat} (hk : k < n.cross.length) {S : Store} {Q : D → Store → Prop} (q : Q (.int (ownerV n c k)) S) : wp (callF 0 f_owner [eNet n, eIs c, .int k]) S Q := by
  refine wp_call0 (by simp [nrs]) ?_
  unfold f_owner b_owner
  simp [-aft_nx, startD_eq]
  refine ends_w hn ?_
  simp [-aft_nx, Z.atI_nat, hk]
  rw [aft_nx]
  simp only [wps_seq]
  simp [-aft_nx, truD_lst]
  unfold ownerV at q
  cases hcl : closing n.roads k with
  | nil =>
    rw [hcl] at q
    refine Or.inl ⟨rfl, ?_⟩
    exact q
  | cons r l =>
    rw [hcl] at q
    have hm := closing_mem (rs := n.roads) (k := k) (x := r) (by rw [hcl]; exact List.mem_cons_self)
    refine Or.inr ⟨by simp, ?_⟩
    rw [aft_nx]
    simp [eI_sq, c_at hc hm.1 hm.2]
    simpa using q
theorem law_owner_w {n : Net} (hn : n.ok) {c : List Int} {m : Nat} (hc : CutOk n c m) {k : Nat} (hk : k < n.cross.length) {S : Store} {Q : D → Store → Prop} (q : Q (.int (ownerV n c k)) S) : wp (callF 0 f__law_owner [eNet n, eIs c, .int k]) S Q := by
  have h1 := hn.few
  refine wp_call0 (by simp [nrs]) ?_
  unfold f__law_owner b__law_owner
  simp [-aft_nx, startD_eq, eN_sq, okR]
  refine ⟨by omega, ?_⟩
  rw [rngD0]
  refine lcL_pure _ (fun j : Nat => ((n.roads[j]?.map fun r : Road => r.2.2.2 == (k : Int)).getD false)) (fun j => .int (j : Nat)) _ rfl ?_ ?_
  · intro j hj
    simp at hj
    obtain ⟨rd, hrd⟩ : ∃ rd, n.roads[j]? = some rd := ⟨n.roads[j]'(by omega), by simp⟩
    simp [Z.atI_nat, hrd, eRoad, eN_sq]
    omega
  · have hcE : List.map (fun j : Nat => D.int (j : Nat)) (List.filter (fun j : Nat => ((n.roads[j]?.map fun r : Road => r.2.2.2 == (k : Int)).getD false)) (List.range n.roads.length)) = (closing n.roads k).map .int := by simp [closing]
    rw [hcE]
    have hcl := closing_len n.roads k
    simp [-aft_nx]
    refine ⟨by simp [lim]; omega, ?_⟩
    rw [aft_nx]
    simp only [wps_seq]
    simp [-aft_nx, truD_lst]
    unfold ownerV at q
    cases hcl : closing n.roads k with
    | nil =>
      rw [hcl] at q
      refine Or.inl ⟨rfl, ?_⟩
      exact q
    | cons r l =>
      rw [hcl] at q
      have hm := closing_mem (rs := n.roads) (k := k) (x := r) (by rw [hcl]; exact List.mem_cons_self)
      refine Or.inr ⟨by simp, ?_⟩
      rw [aft_nx]
      simp [eI_sq, c_at hc hm.1 hm.2]
      simpa using q
/-! ### links -/
abbrev Link := Int × Int × Str × Int
def eLink (l : Link) : D := .tup [.int l.1, .int l.2.1, .str l.2.2.1, .int l.2.2.2]
abbrev kA : Str := PySem.Str.ofString "ask"
abbrev kL : Str := PySem.Str.ofString "let"
abbrev kH : Str := PySem.Str.ofString "heads"
abbrev kC : Str := PySem.Str.ofString "come"
def lk1 (c : List Int) (at_ : Int) (r : Int) : List Link := [(c.getD r.toNat 0, at_, kA, r), (at_, c.getD r.toNat 0, kL, r)]
def lk2 (c : List Int) (at_ : Int) (r : Int) : List Link := [(c.getD r.toNat 0, at_, kH, r), (at_, c.getD r.toNat 0, kC, r)]
def outsOf (n : Net) (k : Nat) : List Int := ((n.cross[k]?).map (·.2)).getD []
def allAt (n : Net) (c : List Int) (k : Nat) : List Link := if ownerV n c k = -1 then [] else (closing n.roads k).flatMap (lk1 c (ownerV n c k)) ++ (outsOf n k).flatMap (lk2 c (ownerV n c k))
def allL (n : Net) (c : List Int) (k : Nat) : List Link := (List.range k).flatMap (allAt n c)
def linksP (n : Net) (c : List Int) : List Link := (allL n c n.cross.length).filter fun l => !(l.1 == l.2.1)
@[simp] theorem nr_eLink {l : Link} : nr (eLink l) = true := by simp [eLink]
theorem wp_lExt {n : Nat} {S : Store} {Q : D → Store → Prop} {xs ys : List D} {d : D} (h : S[n]? = some (.lst xs)) (h2 : asL S d = some ys) (hl : xs.length + ys.length ≤ lim) (q : Q .non (S.set n (.lst (xs ++ ys)))) : wp (lExt (.ref n) [d]) S Q :=
  ⟨_, _, by simp only [lExt, h, h2, hl, if_true], q⟩
theorem flat_succ {α : Type} {f : Nat → List α} {k : Nat} : (List.range (k + 1)).flatMap f = (List.range k).flatMap f ++ f k := by
  rw [List.range_succ, List.flatMap_append]
  simp
theorem allAt_len (n : Net) (hn : n.ok) (c : List Int) (k : Nat) : (allAt n c k).length ≤ 40 := by
  have h1 := closing_len n.roads k
  have h2 := hn.few
  have h3 : (outsOf n k).length ≤ 4 := by
    unfold outsOf
    cases h : n.cross[k]? with
    | none => simp
    | some cr => simpa using (hn.outs cr (List.mem_of_getElem? h)).1
  have g1 : ∀ l : List Int, (l.flatMap (lk1 c (ownerV n c k))).length = 2 * l.length := fun l => by
    induction l with
    | nil => rfl
    | cons a l ih => simp [List.flatMap_cons, ih, lk1]; omega
  have g2 : ∀ l : List Int, (l.flatMap (lk2 c (ownerV n c k))).length = 2 * l.length := fun l => by
    induction l with
    | nil => rfl
    | cons a l ih => simp [List.flatMap_cons, ih, lk2]; omega
  unfold allAt
  split
  · simp
  · rw [List.length_append, g1, g2]; omega
theorem allL_len (n : Net) (hn : n.ok) (c : List Int) : ∀ k, (allL n c k).length ≤ 40 * k
  | 0 => by simp [allL]
  | k + 1 => by
    have := allL_len n hn c k
    have := allAt_len n hn c k
    unfold allL at *
    rw [flat_succ, List.length_append]
    omega
/-- a loop that adds two links for each road -/
theorem ext_loop {lk : Int → List Link} {rs : List Int} {pre : List Link} {b : MS} {Q : Out → Store → Prop} {z0 : Option D} {mk : Option D → Z.Env} {ok : Store → Bool}
    (hok : ∀ S, ok S = true) (h2 : ∀ r, (lk r).length = 2) (hl : pre.length + 2 * rs.length ≤ 100000) (hp : ∀ (r : Int) z, (Tg.nm 6).put (.int r) (mk z) = some (mk (some (.int r))))
    (hb : ∀ (r : Int) (ls : List Link) (Q' : Out → Store → Prop), r ∈ rs → ls.length ≤ 100000 → Q' (.nx (mk (some (.int r)))) [.lst ((ls ++ lk r).map eLink)] → wps b (mk (some (.int r))) [.lst (ls.map eLink)] Q')
    (q : ∀ z, Q (.nx (mk z)) [.lst ((pre ++ rs.flatMap lk).map eLink)]) : wps (mForL (.nm 6) ok b (rs.map .int)) (mk z0) [.lst (pre.map eLink)] Q := by
  refine forL_map (fun i ρ S => ∃ z, ρ = mk z ∧ S = [.lst ((pre ++ (rs.take i).flatMap lk).map eLink)]) D.int rs ⟨z0, rfl, by simp⟩ ?_ ?_
  · rintro i r ρ S hi ⟨z, rfl, rfl⟩
    refine ⟨hok _, _, hp r z, ?_⟩
    have hil := (List.getElem?_eq_some_iff.mp hi).1
    have hlen : ((rs.take i).flatMap lk).length ≤ 2 * rs.length := by
      have : ∀ l : List Int, (l.flatMap lk).length = 2 * l.length := fun l => by
        induction l with
        | nil => rfl
        | cons a l ih => simp [List.flatMap_cons, ih, h2]; omega
      rw [this, List.length_take]
      omega
    refine hb r _ _ (List.mem_of_getElem? hi) (by rw [List.length_append]; omega) ?_
    refine ⟨some (.int r), rfl, ?_⟩
    rw [List.take_add_one, hi, Option.toList_some, List.flatMap_append, List.append_assoc]
    simp only [List.flatMap_cons, List.flatMap_nil, List.append_nil]
  · rintro ρ S ⟨z, rfl, rfl⟩
    rw [List.take_length]
    exact ⟨hok _, q z⟩
theorem links_w {n : Net} (hn : n.ok) {c : List Int} {m : Nat} (hc : CutOk n c m) {S : Store} {Q : D → Store → Prop} (q : Q (.lst ((linksP n c).map eLink)) S) : wp (callF 0 f_links [eNet n, eIs c]) S Q := by
  have h1 := hn.few
  have h2 := hn.cfew
  refine wp_call0 (by simp [nrs]) ?_
  unfold f_links b_links
  simp [-aft_nx, startD_eq]
  rw [aft_nx]
  simp only [wps_seq]
  simp [-aft_nx, eN_sq]
  refine forL_idx (fun i ρ T => ∃ z3 z4 z5 z6, T = [.lst ((allL n c i).map eLink)] ∧ ρ = [some (eNet n), some (eIs c), some (.ref 0), z3, z4, z5, z6, none]) ⟨_, _, _, _, rfl, rfl⟩ ?_ ?_
  · rintro k ed ρ T hk ⟨z3, z4, z5, z6, rfl, rfl⟩
    obtain ⟨d, hk2, rfl⟩ := enumD_at hk
    rw [List.getElem?_map] at hk2
    obtain ⟨cr, hcr, rfl⟩ := Option.map_eq_some_iff.mp hk2
    have hkl := (List.getElem?_eq_some_iff.mp hcr).1
    have ho : outsOf n k = cr.2 := by unfold outsOf; rw [hcr]; rfl
    have hos := hn.outs cr (List.mem_of_getElem? hcr)
    refine ⟨rfl, _, rfl, ?_⟩
    have hal := allL_len n hn c k
    simp [-aft_nx]
    refine owner_w hn hc hkl ?_
    rw [aft_nx]
    simp only [wps_seq]
    simp [-aft_nx]
    have hsucc : allL n c (k + 1) = allL n c k ++ allAt n c k := flat_succ
    by_cases hat : ownerV n c k = -1
    · have e : allAt n c k = [] := by unfold allAt; rw [if_pos hat]
      refine Or.inr ⟨hat, ?_⟩
      simp [hsucc, e]
    · refine Or.inl ⟨hat, ?_⟩
      rw [aft_nx]
      simp only [wps_seq]
      simp [-aft_nx]
      refine ends_w hn ?_
      simp [-aft_nx, Z.atI_nat, hkl]
      have hcl := closing_len n.roads k
      refine ext_loop (lk := lk1 c (ownerV n c k)) (mk := fun z => [some (eNet n), some (eIs c), some (.ref 0), some (.int (k : Nat)), some (eCr cr), some (.int (ownerV n c k)), z, none]) (fun _ => rfl) (fun _ => rfl) (by omega) (fun _ _ => rfl) ?_ ?_
      · intro r ls Q' hr hls q'
        have hm := closing_mem hr
        have e1 := c_at hc hm.1 hm.2
        simp [eI_sq, e1]
        refine wp_lExt (xs := ls.map eLink) rfl (asL_lst.mpr rfl) (by simp [lim]; omega) ?_
        simpa [lk1, eLink] using q'
      · intro z
        rw [aft_nx]
        simp [-aft_nx, eCr, eI_sq, eIs]
        rw [← List.map_append]
        refine ext_loop (ok := okOf (D.tup (List.map D.int cr.snd)) (List.map D.int cr.snd)) (lk := lk2 c (ownerV n c k)) (mk := fun z => [some (eNet n), some (.tup (c.map .int)), some (.ref 0), some (.int (k : Nat)), some (.tup [eRule cr.1, .tup (cr.2.map .int)]), some (.int (ownerV n c k)), z, none]) (fun _ => rfl) (fun _ => rfl) ?_ (fun _ _ => rfl) ?_ ?_
        · have g1 : ((closing n.roads k).flatMap (lk1 c (ownerV n c k))).length ≤ 40 := by
            have := allAt_len n hn c k
            unfold allAt at this
            rw [if_neg hat, List.length_append] at this
            omega
          rw [List.length_append]
          omega
        · intro r ls Q' hr hls q'
          have hm := hos.2 r hr
          have e1 := c_at hc hm.1 hm.2
          simp [e1]
          refine wp_lExt (xs := ls.map eLink) rfl (asL_lst.mpr rfl) (by simp [lim]; omega) ?_
          simpa [lk2, eLink] using q'
        · intro z
          refine ⟨?_, _, _, _, _, rfl⟩
          rw [hsucc]
          unfold allAt
          rw [if_neg hat, ho, List.append_assoc]
  · rintro ρ T ⟨z3, z4, z5, z6, rfl, rfl⟩
    refine ⟨rfl, ?_⟩
    rw [aft_nx, enumD_len, List.length_map]
    have hal := allL_len n hn c n.cross.length
    simp
    refine lcL_pure eLink (fun l => !(l.1 == l.2.1)) eLink _ (by simp) (fun l hl => ⟨_, rfl, ?_, fun _ => by simp⟩) ?_
    · simp [eLink]
      exact Decidable.em _
    · rw [show (List.filter (fun l : Link => !(l.1 == l.2.1)) (allL n c n.cross.length)) = linksP n c from rfl]
      have hll : (linksP n c).length ≤ 40 * n.cross.length := Nat.le_trans (List.length_filter_le _ _) hal
      refine ⟨by simp [lim]; omega, ?_⟩
      exact (clo_ex (by simp)).mpr ⟨by simp, rfl, q⟩
end C
set_option Elab.async false
set_option linter.all false
set_option maxRecDepth 100000
/-! the law's links; letters. -/
namespace C
open PySem L2 Z
def endsAt (n : Net) (k r : Nat) : Bool := ((n.roads[r]?.map fun rd : Road => rd.2.2.2 == (k : Int)).getD false)
def lawAt (n : Net) (c : List Int) (k r : Nat) : List Link := if 0 ≤ ownerV n c k ∧ c.getD r 0 ≠ ownerV n c k then
  (if endsAt n k r = true then lk1 c (ownerV n c k) r else []) ++ (if (r : Int) ∈ outsOf n k then lk2 c (ownerV n c k) r else []) else []
def lawC (n : Net) (c : List Int) (k : Nat) : List Link := (List.range n.roads.length).flatMap (lawAt n c k)
def linksL (n : Net) (c : List Int) : List Link := (List.range n.cross.length).flatMap (lawC n c)
theorem lawAt_len (n : Net) (c : List Int) (k r : Nat) : (lawAt n c k r).length ≤ 4 := by
  unfold lawAt
  split
  · rw [List.length_append]
    have h1 : ∀ (p : Prop) [Decidable p], (if p then lk1 c (ownerV n c k) r else []).length ≤ 2 := fun p _ => by split <;> simp [lk1]
    have h2 : ∀ (p : Prop) [Decidable p], (if p then lk2 c (ownerV n c k) r else []).length ≤ 2 := fun p _ => by split <;> simp [lk2]
    have := h1 (endsAt n k r = true)
    have := h2 ((r : Int) ∈ outsOf n k)
    omega
  · simp
theorem flat_len {α : Type} {f : Nat → List α} {b : Nat} (h : ∀ i, (f i).length ≤ b) : ∀ k, ((List.range k).flatMap f).length ≤ b * k
  | 0 => by simp
  | k + 1 => by
    have := flat_len h k
    have := h k
    rw [flat_succ, List.length_append, Nat.mul_succ]
    omega
def eLs (ls : List Link) : List D := ls.map eLink
theorem eLs_len {ls : List Link} : (eLs ls).length = ls.length := by simp [eLs]
theorem law_links_w {n : Net} (hn : n.ok) {c : List Int} {m : Nat} (hc : CutOk n c m) {S : Store} {Q : D → Store → Prop} (q : Q (.lst ((linksL n c).map eLink)) S) : wp (callF 0 f__law_links [eNet n, eIs c]) S Q := by
  have h1 := hn.few
  have h2 := hn.cfew
  have hl := hc.len
  refine wp_call0 (by simp [nrs]) ?_
  unfold f__law_links b__law_links
  simp [-aft_nx, startD_eq]
  rw [aft_nx]
  simp only [wps_seq]
  simp [-aft_nx, eN_sq, okR]
  refine ⟨by omega, ?_⟩
  refine forL_rng (fun k ρ T => ∃ z3 z4 z5, T = [] ∧ ρ = [some (eNet n), some (eIs c), some (.lst (eLs ((List.range k).flatMap (lawC n c)))), z3, z4, z5]) ⟨_, _, _, rfl, rfl⟩ ?_ ?_
  · rintro k ρ T hk ⟨z3, z4, z5, rfl, rfl⟩
    refine ⟨_, rfl, ?_⟩
    have hlc : ∀ i, (lawC n c i).length ≤ 4 * 12 := fun i => by
      have := flat_len (lawAt_len n c i) n.roads.length
      unfold lawC
      omega
    have hal := flat_len hlc k
    obtain ⟨cr, hcr⟩ : ∃ cr, n.cross[k]? = some cr := ⟨n.cross[k], List.getElem?_eq_getElem hk⟩
    have ho : outsOf n k = cr.2 := by unfold outsOf; rw [hcr]; rfl
    simp [-aft_nx]
    refine law_owner_w hn hc hk ?_
    rw [aft_nx]
    simp [-aft_nx, eN_sq, okR]
    refine ⟨by omega, ?_⟩
    refine forL_rng (fun r ρ T => ∃ z5, T = [] ∧ ρ = [some (eNet n), some (eIs c), some (.lst (eLs ((List.range k).flatMap (lawC n c) ++ (List.range r).flatMap (lawAt n c k)))), some (.int (k : Nat)), some (.int (ownerV n c k)), z5]) ⟨z5, rfl, by simp⟩ ?_ ?_
    · rintro r ρ T hr ⟨z5, rfl, rfl⟩
      refine ⟨_, rfl, ?_⟩
      have har := flat_len (lawAt_len n c k) r
      obtain ⟨w, hcm⟩ : ∃ w, c[r]? = some w := ⟨c[r]'(by omega), by simp⟩
      have hgd : c.getD r 0 = w := by rw [List.getD_eq_getElem?_getD, hcm]; rfl
      obtain ⟨rd, hrd⟩ : ∃ rd, n.roads[r]? = some rd := ⟨n.roads[r], List.getElem?_eq_getElem hr⟩
      have hsucc : (List.range (r + 1)).flatMap (lawAt n c k) = (List.range r).flatMap (lawAt n c k) ++ lawAt n c k r := flat_succ
      have he : endsAt n k r = decide (rd.2.2.2 = (k : Int)) := by unfold endsAt; rw [hrd]; simp [BEq.beq]
      generalize hP : (List.range k).flatMap (lawC n c) ++ (List.range r).flatMap (lawAt n c k) = pre at *
      have hpl : pre.length ≤ 2000 := by rw [← hP, List.length_append]; omega
      have goal : ∀ ls : List Link, ls = lawAt n c k r → ((List.range k).flatMap (lawC n c) ++ (List.range (r + 1)).flatMap (lawAt n c k)) = pre ++ ls := fun ls e => by
        rw [hsucc, ← List.append_assoc, hP, e]
      simp [-aft_nx, eI_sq, Z.atI_nat, hcm]
      by_cases g1 : 0 ≤ ownerV n c k
      · have g1' : ¬ ownerV n c k < 0 := by omega
        by_cases g2 : w = ownerV n c k
        · have e := goal [] (by unfold lawAt; rw [hgd, if_neg (fun z => z.2 g2)])
          simp [g1, g1', g2, e]
        · simp [-aft_nx, g1, g1', g2, eN_sq, Z.atI_nat, hrd, eRoad]
          have e3 : (if 0 ≤ ownerV n c k ∧ c.getD r 0 ≠ ownerV n c k then (if endsAt n k r = true then lk1 c (ownerV n c k) r else []) ++ (if (r : Int) ∈ outsOf n k then lk2 c (ownerV n c k) r else []) else []) = lawAt n c k r := rfl
          rw [hgd, if_pos ⟨g1, g2⟩] at e3
          have second : ∀ (ls : List Link), ls.length ≤ 4000 → ls ++ (if (r : Int) ∈ outsOf n k then lk2 c (ownerV n c k) r else []) = pre ++ lawAt n c k r →
              wps (mIfS (mB (mOp (dInS false) (mVar 5) (mOp dIx (mOp dIx (mOp dIx (mVar 0) (mC (.int 1))) (mVar 3)) (mC (.int 1))))) (mSet 2 (mOp dAdd (mVar 2) (mFz (mCons (mTup (mCons (mOp dIx (mVar 1) (mVar 5)) (mCons (mVar 4) (mCons (mC (.str (PySem.Str.ofString "heads"))) (mCons (mVar 5) mNil))))) (mCons (mTup (mCons (mVar 4) (mCons (mOp dIx (mVar 1) (mVar 5)) (mCons (mC (.str (PySem.Str.ofString "come"))) (mCons (mVar 5) mNil))))) mNil))))) mNext)
                [some (eNet n), some (eIs c), some (.lst (eLs ls)), some (.int (k : Nat)), some (.int (ownerV n c k)), some (.int (r : Nat))] [] fun o S' => o = .nx [some (eNet n), some (eIs c), some (.lst (eLs (pre ++ lawAt n c k r))), some (.int (k : Nat)), some (.int (ownerV n c k)), some (.int (r : Nat))] ∧ S' = [] := by
            intro ls hls hee
            rw [← hee]
            simp [eN_sq, Z.atI_nat, hcr, eCr]
            refine wp_dInS (xs := cr.2) (by simp [eIs]) ?_
            rw [ho]
            by_cases g4 : (r : Int) ∈ cr.2
            · simp [g4, eI_sq, Z.atI_nat, hcm]
              refine wp_dAddL (asL_lst.mpr rfl) (asL_lst.mpr rfl) (by simp [lim, eLs_len]; omega) ?_
              simp [eLs, lk2, eLink, hcm]
            · simp [g4]
          by_cases g3 : rd.2.2.2 = (k : Int)
          · refine Or.inr ⟨g3, ?_⟩
            refine wp_dAddL (asL_lst.mpr rfl) (asL_lst.mpr rfl) (by simp [lim, eLs_len]; omega) ?_
            rw [aft_nx]
            have e4 : eLs pre ++ [D.tup [.int w, .int (ownerV n c k), .str (PySem.Str.ofString "ask"), .int (r : Nat)], .tup [.int (ownerV n c k), .int w, .str (PySem.Str.ofString "let"), .int (r : Nat)]] = eLs (pre ++ lk1 c (ownerV n c k) r) := by simp [eLs, lk1, eLink, hcm]
            have s2 := second (pre ++ lk1 c (ownerV n c k) r) (by simp [lk1]; omega) (by rw [List.append_assoc, ← e3, he, g3]; simp)
            rw [← e4] at s2
            refine wps_mono s2 ?_
            rintro o S' ⟨rfl, rfl⟩
            exact ⟨rfl, _, by rw [goal _ rfl]⟩
          · refine Or.inl ⟨g3, ?_⟩
            rw [aft_nx]
            have s2 := second pre (by omega) (by rw [← e3, he]; simp [g3])
            refine wps_mono s2 ?_
            rintro o S' ⟨rfl, rfl⟩
            exact ⟨rfl, _, by rw [goal _ rfl]⟩
      · have e := goal [] (by unfold lawAt; rw [if_neg (fun z => g1 z.1)])
        have g1' : ownerV n c k < 0 := by omega
        simp [g1, g1', e]
    · rintro ρ T ⟨z5, rfl, rfl⟩
      exact ⟨rfl, _, _, _, by rw [flat_succ]; rfl⟩
  · rintro ρ T ⟨z3, z4, z5, rfl, rfl⟩
    rw [aft_nx]
    simp only [wps_ret, wp_mVar]
    refine ⟨_, rfl, _, rfl, ?_⟩
    exact (clo_ex (by simp [eLs])).mpr ⟨by simp, rfl, q⟩
end C
set_option Elab.async false
set_option linter.all false
set_option maxRecDepth 100000
/-! the two lists of links are one but for the order; letters. -/
namespace C
open PySem L2 Z
theorem flat_app_perm {α β : Type} (f g : α → List β) : ∀ l : List α, (l.flatMap fun x => f x ++ g x).Perm (l.flatMap f ++ l.flatMap g)
  | [] => by simp
  | a :: l => by
    simp only [List.flatMap_cons]
    have ih := flat_app_perm f g l
    refine (List.Perm.append_left _ ih).trans ?_
    rw [List.append_assoc, List.append_assoc]
    refine List.Perm.append_left _ ?_
    rw [← List.append_assoc, ← List.append_assoc]
    exact List.Perm.append_right _ List.perm_append_comm
theorem flat_perm {α β : Type} {f g : α → List β} : ∀ {l : List α}, (∀ a ∈ l, (f a).Perm (g a)) → (l.flatMap f).Perm (l.flatMap g)
  | [], _ => by simp
  | a :: l, h => by
    simp only [List.flatMap_cons]
    exact (h a List.mem_cons_self).append (flat_perm fun b hb => h b (List.mem_cons_of_mem _ hb))
theorem filter_flat {α β : Type} (p : α → Bool) (f : α → List β) : ∀ l : List α, (l.filter p).flatMap f = l.flatMap fun x => if p x = true then f x else []
  | [] => by simp
  | a :: l => by
    rw [List.filter_cons]
    split <;> simp [List.flatMap_cons, filter_flat p f l, *]
theorem outs_range {n : Net} (hn : n.ok) (ha : n.asc) (k : Nat) : outsOf n k = ((List.range n.roads.length).filter fun r : Nat => decide ((r : Int) ∈ outsOf n k)).map fun i : Nat => (i : Int) := by
  have hb : ∀ o ∈ outsOf n k, 0 ≤ o ∧ o < (n.roads.length : Int) := fun o ho => by
    unfold outsOf at ho
    cases h : n.cross[k]? with
    | none => rw [h] at ho; simp at ho
    | some cr => rw [h] at ho; exact (hn.outs cr (List.mem_of_getElem? h)).2 o (by simpa using ho)
  have hs : (outsOf n k).Pairwise (· < ·) := by
    unfold outsOf
    cases h : n.cross[k]? with
    | none => simp
    | some cr => simpa using ha cr (List.mem_of_getElem? h)
  refine asc_uniq hs (List.pairwise_map.mpr ((List.pairwise_lt_range.filter _).imp fun h => by omega)) fun z => ?_
  simp only [List.mem_map, List.mem_filter, List.mem_range, decide_eq_true_eq]
  constructor
  · intro hz
    have := hb z hz
    exact ⟨z.toNat, ⟨by omega, by rw [show ((z.toNat : Nat) : Int) = z by omega]; exact hz⟩, by omega⟩
  · rintro ⟨i, ⟨_, h⟩, rfl⟩
    exact h
theorem filt_lk1 {c : List Int} {at_ : Int} {r : Nat} : (lk1 c at_ r).filter (fun l => !(l.1 == l.2.1)) = if c.getD r 0 = at_ then [] else lk1 c at_ r := by
  unfold lk1
  simp only [Int.toNat_natCast]
  generalize c.getD r 0 = w
  by_cases h : w = at_
  · subst h; simp
  · have h' : ¬ at_ = w := fun e => h e.symm
    simp [h, h']
theorem filt_lk2 {c : List Int} {at_ : Int} {r : Nat} : (lk2 c at_ r).filter (fun l => !(l.1 == l.2.1)) = if c.getD r 0 = at_ then [] else lk2 c at_ r := by
  unfold lk2
  simp only [Int.toNat_natCast]
  generalize c.getD r 0 = w
  by_cases h : w = at_
  · subst h; simp
  · have h' : ¬ at_ = w := fun e => h e.symm
    simp [h, h']
theorem at_perm {n : Net} (hn : n.ok) (ha : n.asc) {c : List Int} {m : Nat} (hc : CutOk n c m) (k : Nat) : ((allAt n c k).filter fun l => !(l.1 == l.2.1)).Perm (lawC n c k) := by
  unfold allAt lawC
  rcases owner_bd hc k with ho | ho
  · rw [if_pos ho]
    have : (List.range n.roads.length).flatMap (lawAt n c k) = [] := by
      rw [List.flatMap_eq_nil_iff]
      intro r _
      unfold lawAt
      rw [if_neg (fun z => by omega)]
    rw [this]
    exact .refl _
  · rw [if_neg (by omega)]
    generalize hat : ownerV n c k = at_ at *
    have e1 : closing n.roads k = ((List.range n.roads.length).filter fun r => endsAt n k r).map fun i : Nat => (i : Int) := rfl
    rw [outs_range hn ha k, e1, List.flatMap_map, List.flatMap_map, filter_flat, filter_flat]
    refine List.Perm.trans ?_ (l₂ := (List.range n.roads.length).flatMap fun r => (if endsAt n k r = true then (if c.getD r 0 = at_ then [] else lk1 c at_ r) else []) ++ (if decide ((r : Int) ∈ outsOf n k) = true then (if c.getD r 0 = at_ then [] else lk2 c at_ r) else [])) ?_
    · refine List.Perm.trans ?_ (flat_app_perm _ _ _).symm
      rw [List.filter_append, List.filter_flatMap, List.filter_flatMap]
      refine List.Perm.append (flat_perm fun r hr => ?_) (flat_perm fun r hr => ?_)
      · split
        · rw [filt_lk1]
        · exact .refl _
      · split
        · rw [filt_lk2]
        · exact .refl _
    · refine flat_perm fun r hr => ?_
      unfold lawAt
      rw [hat]
      generalize c.getD r 0 = w
      by_cases hw : w = at_
      · subst hw
        simp
      · have hw' : ¬ at_ = w := fun e => hw e.symm
        simp [hw, hw', ho.1]
theorem links_perm {n : Net} (hn : n.ok) (ha : n.asc) {c : List Int} {m : Nat} (hc : CutOk n c m) : (linksP n c).Perm (linksL n c) := by
  unfold linksP linksL allL
  rw [List.filter_flatMap]
  exact flat_perm fun k _ => at_perm hn ha hc k
/-! ### letters -/
def Kind (s : Str) : Prop := s = kA ∨ s = kL ∨ s = kH ∨ s = kC
def eKR (l : Link) : D := .tup [.str l.2.2.1, .int l.2.2.2]
theorem kind_ok {s : Str} (h : Kind s) : PyData.strOk s = true := by
  rcases h with rfl | rfl | rfl | rfl <;> decide +kernel
theorem link_kind {n : Net} {c : List Int} {l : Link} (h : l ∈ linksL n c) : Kind l.2.2.1 := by
  unfold linksL at h
  obtain ⟨k, _, h⟩ := List.mem_flatMap.mp h
  unfold lawC at h
  obtain ⟨r, _, h⟩ := List.mem_flatMap.mp h
  unfold lawAt at h
  split at h
  · rcases List.mem_append.mp h with h | h
    · split at h
      · simp only [lk1, List.mem_cons, List.not_mem_nil, or_false] at h
        rcases h with rfl | rfl
        · exact .inl rfl
        · exact .inr (.inl rfl)
      · cases h
    · split at h
      · simp only [lk2, List.mem_cons, List.not_mem_nil, or_false] at h
        rcases h with rfl | rfl
        · exact .inr (.inr (.inl rfl))
        · exact .inr (.inr (.inr rfl))
      · cases h
  · cases h
theorem sortOk_kr {ls : List Link} : sortOk (ls.map eKR) = true := by
  unfold sortOk
  simp only [Bool.and_eq_true, List.all_eq_true, decide_eq_true_eq, Bool.or_eq_true]
  refine ⟨fun d hd => ?_, fun x hx y hy => ?_, .inl fun d hd => ?_⟩
  · obtain ⟨l, _, rfl⟩ := List.mem_map.mp hd
    exact ⟨by simp [eKR], by simp [eKR, toP, toPs, PyData.depth, PyData.depthAll]⟩
  · obtain ⟨l, _, rfl⟩ := List.mem_map.mp hx
    obtain ⟨l', _, rfl⟩ := List.mem_map.mp hy
    simp [eKR, toP, toPs, PySem.W.alike, PySem.W.alikeAll]
  · obtain ⟨l, _, rfl⟩ := List.mem_map.mp hd
    rfl
theorem srtG_perm {l m : List D} (h : l.Perm m) (hi : ∀ a ∈ l, ∀ b ∈ l, PySem.W.keyToks (toP a) = PySem.W.keyToks (toP b) → a = b) : srtG l = srtG m := by
  have tot := PySem.W.sortLe_total (PyProof.Rows.listOrd PyProof.Rows.itemOrd) false (fun d : D => PySem.W.keyToks (toP d))
  have p : (srtG l).Perm (srtG m) := (List.mergeSort_perm _ _).trans (h.trans (List.mergeSort_perm _ _).symm)
  refine p.eq_of_pairwise (le := fun a b => PySem.W.dataLe false toP a b = true) (fun a b ha hb h1 h2 => ?_) (PySem.W.sort_pairwise tot l) (PySem.W.sort_pairwise tot m)
  have ma : a ∈ l := (List.mergeSort_perm _ _).mem_iff.mp ha
  have mb : b ∈ l := h.mem_iff.mpr ((List.mergeSort_perm _ _).mem_iff.mp hb)
  refine hi a ma b mb ?_
  refine (PyProof.Rows.listOrd PyProof.Rows.itemOrd).total _ _ ?_ ?_
  · simpa [PySem.W.dataLe, PySem.W.sortLe] using h2
  · simpa [PySem.W.dataLe, PySem.W.sortLe] using h1
theorem kr_inj {a b : Link} (h : PySem.W.keyToks (toP (eKR a)) = PySem.W.keyToks (toP (eKR b))) : eKR a = eKR b := by
  simp only [eKR, toP, toPs, PySem.W.keyToks, PySem.W.keyToksAll, List.cons_append, List.nil_append, List.cons.injEq, Sum.inr.injEq, Sum.inl.injEq, true_and, and_true] at h
  obtain ⟨h1, h2⟩ := h
  have h3 : a.2.2.1 = b.2.2.1 := by
    cases ha : a.2.2.1 with
    | mk x => cases hb : b.2.2.1 with
      | mk y =>
        rw [ha, hb] at h1
        have : x = y := Array.toList_inj.mp h1
        rw [this]
  unfold eKR
  rw [h2, h3]
def lettersTo (ls : List Link) (w : Int) : List D := srtG ((ls.filter fun l => l.2.1 == w).map eKR)
def lettersFrom (ls : List Link) (w : Int) : List D := srtG ((ls.filter fun l => l.1 == w).map eKR)
theorem letters_eq {l m : List Link} (h : l.Perm m) (p : Link → Bool) : srtG ((l.filter p).map eKR) = srtG ((m.filter p).map eKR) := by
  refine srtG_perm ((h.filter p).map eKR) fun a ha b hb e => ?_
  obtain ⟨x, _, rfl⟩ := List.mem_map.mp ha
  obtain ⟨y, _, rfl⟩ := List.mem_map.mp hb
  exact kr_inj e
theorem cut_kr {l : Link} : cutD [D.int l.1, .int l.2.1, .str l.2.2.1, .int l.2.2.2] (some 2) none = [.str l.2.2.1, .int l.2.2.2] := by
  rw [cut_drop (by omega)]
  rfl
theorem linksP_len {n : Net} (hn : n.ok) (c : List Int) : (linksP n c).length ≤ 400 := by
  have h1 := allL_len n hn c n.cross.length
  have h2 := hn.cfew
  have : (linksP n c).length ≤ (allL n c n.cross.length).length := List.length_filter_le _ _
  omega
theorem srtG_nr {l : List D} (h : ∀ d ∈ l, nr d = true) : nr (.lst (srtG l)) = true := by
  simp only [nr_lst, List.all_eq_true]
  exact fun d hd => h d ((List.mergeSort_perm _ _).mem_iff.mp hd)
theorem letters_to_w {n : Net} (hn : n.ok) {c : List Int} {m : Nat} (hc : CutOk n c m) {w : Int} {S : Store} {Q : D → Store → Prop} (q : Q (.lst (lettersTo (linksP n c) w)) S) : wp (callF 0 f_letters_to [eNet n, eIs c, .int w]) S Q := by
  have hl := linksP_len hn c
  refine wp_call0 (by simp [nrs]) ?_
  unfold f_letters_to b_letters_to
  simp [startD_eq]
  refine links_w hn hc ?_
  simp
  refine lcL_pure eLink (fun l => l.2.1 == w) eKR _ rfl (fun l hl => ⟨_, rfl, ?_, fun _ => ?_⟩) ?_
  · simp [eLink]
    exact (Decidable.em _).symm
  · simp [eLink, eKR, cut_kr]
  · have h2 : ((linksP n c).filter fun l => l.2.1 == w).length ≤ 400 := Nat.le_trans (List.length_filter_le _ _) hl
    refine ⟨by simp [lim]; omega, ?_⟩
    refine wp_cSortG (asLC_lst.mpr rfl) sortOk_kr ?_
    exact (clo_ex (srtG_nr fun d hd => by obtain ⟨l, _, rfl⟩ := List.mem_map.mp hd; simp [eKR])).mpr ⟨by simp, rfl, q⟩
theorem letters_from_w {n : Net} (hn : n.ok) {c : List Int} {m : Nat} (hc : CutOk n c m) {w : Int} {S : Store} {Q : D → Store → Prop} (q : Q (.lst (lettersFrom (linksP n c) w)) S) : wp (callF 0 f_letters_from [eNet n, eIs c, .int w]) S Q := by
  have hl := linksP_len hn c
  refine wp_call0 (by simp [nrs]) ?_
  unfold f_letters_from b_letters_from
  simp [startD_eq]
  refine links_w hn hc ?_
  simp
  refine lcL_pure eLink (fun l => l.1 == w) eKR _ rfl (fun l hl => ⟨_, rfl, ?_, fun _ => ?_⟩) ?_
  · simp [eLink]
    exact (Decidable.em _).symm
  · simp [eLink, eKR, cut_kr]
  · have h2 : ((linksP n c).filter fun l => l.1 == w).length ≤ 400 := Nat.le_trans (List.length_filter_le _ _) hl
    refine ⟨by simp [lim]; omega, ?_⟩
    refine wp_cSortG (asLC_lst.mpr rfl) sortOk_kr ?_
    exact (clo_ex (srtG_nr fun d hd => by obtain ⟨l, _, rfl⟩ := List.mem_map.mp hd; simp [eKR])).mpr ⟨by simp, rfl, q⟩
end C
set_option Elab.async false
set_option linter.all false
set_option maxRecDepth 100000
/-! The law. -/
namespace C
open PySem L2 Z
theorem isN_told {b : Bool} : isN (toldC b) = b := by cases b <;> rfl
theorem wp_dIsNot {d : D} {S : Store} {Q : D → Store → Prop} (q : Q (.bl (!isN d)) S) : wp (dIsNot d .non) S Q := ⟨_, _, rfl, q⟩
theorem fit_letters {ls : List Link} (h : ∀ l ∈ ls, Kind l.2.2.1) (p : Link → Bool) : ∀ d ∈ srtG ((ls.filter p).map eKR), fit 5 d = true := fun d hd => by
  have hd := (List.mergeSort_perm _ _).mem_iff.mp hd
  obtain ⟨l, hl, rfl⟩ := List.mem_map.mp hd
  have := kind_ok (h l ((List.mem_filter.mp hl).1))
  simp [eKR, this]
theorem owner_log {i : Int} (h : i = -1 ∨ (0 ≤ i ∧ i < 4)) : i.natAbs.log2 < 1920 := by
  have h2 : i.natAbs < 2 ^ 2 := by omega
  rcases Nat.eq_zero_or_pos i.natAbs with z | z
  · rw [z]; decide
  · exact Nat.lt_trans ((Nat.log2_lt (k := 2) (by omega)).mpr h2) (by decide)
theorem law_wp (ns : List Int) : wp (f_law [.scr ns]) [] fun d _ => d = .bl true := by
  unfold f_law b_law
  simp [-aft_nx, startD_eq]
  refine wp_mono (stream_ok ns) ?_
  rintro d S ⟨rfl, x, y, rfl, h⟩
  rw [aft_nx]
  simp only [wps_seq]
  simp [-aft_nx]
  refine net_c h fun x y n h hn ha hn3 hn7 hc3 => ?_
  rw [aft_nx]
  simp only [wps_seq]
  simp [-aft_nx, wp_mCallX]
  have hG : G (eNet n) := toG (net_gd hn) (by omega)
  obtain ⟨o, S', e1, e2⟩ := check_net_d (S0 := [x, y]) hG
  rw [net_good hn ha, if_pos rfl] at e2
  obtain ⟨⟨ρ1, rfl⟩, rest, rfl⟩ := e2
  have hf : f_check_net [eNet n] [x, y] = some (.inl .non, [x, y] ++ rest) := by
    unfold f_check_net mBodyX
    rw [e1]
  refine ⟨.non, _, hf, ?_⟩
  rw [aft_nx]
  simp only [wps_seq]
  simp [-aft_nx]
  refine cutting_c hn h fun x y c m h hc => ?_
  have h12 := hn.few
  have hcG : G (eIs c) := toG (cut_G hc h12) (by omega)
  obtain ⟨m1, hne, hmx⟩ := cut_max hc hn.many
  rw [aft_nx]
  simp only [wps_seq]
  simp [-aft_nx]
  refine told_w hn hcG ?_
  rw [cut_good hc hn.many]
  refine wp_dIsNot ?_
  rw [isN_told]
  simp [-aft_nx]
  refine hurt_c hn hc h fun x y d h hdG hdb => ?_
  refine told_w hn hdG ?_
  rw [hdb]
  simp [-aft_nx, toldC]
  rw [aft_nx]
  simp only [wps_seq]
  simp [-aft_nx, eN_sq, okR]
  have hc8 := hn.cfew
  refine ⟨by omega, ?_⟩
  refine forL_rng (fun k ρ T => ∃ z4, T = x :: y :: rest ∧ ρ = [some (.scr ns), some (.ref 1), some (eNet n), some (eIs c), z4, none, none, none, none, none, none]) ⟨_, rfl, rfl⟩ ?_ ?_
  · rintro k ρ T hk ⟨z4, rfl, rfl⟩
    refine ⟨_, rfl, ?_⟩
    have hlog := owner_log (owner_bd hc k)
    simp [-aft_nx]
    refine owner_w hn hc hk ?_
    refine wp_cReprI hlog ?_
    refine law_owner_w hn hc hk ?_
    refine wp_cReprI hlog ?_
    simp
  · rintro ρ T ⟨z4, rfl, rfl⟩
    rw [aft_nx]
    simp only [wps_seq]
    simp [-aft_nx]
    refine law_links_w hn hc ?_
    rw [aft_nx]
    simp only [wps_seq]
    have hp := links_perm hn ha hc
    have hll : (linksL n c).length ≤ 400 := by rw [← hp.length_eq]; exact linksP_len hn c
    simp [-aft_nx]
    refine wp_cMaxQ eI_sq (intsOf_map _) (maxI_some hne) ?_
    rw [hmx]
    have hm4 := hc.few
    simp [-aft_nx, okR]
    refine ⟨by omega, ?_⟩
    refine forL_rng (n := m) (fun w ρ T => ∃ z6 z7 z8 z9, T = x :: y :: rest ∧ ρ = [some (.scr ns), some (.ref 1), some (eNet n), some (eIs c), z4, some (.lst ((linksL n c).map eLink)), z6, z7, z8, z9, none]) ⟨_, _, _, _, rfl, rfl⟩ ?_ ?_
    · rintro w ρ T hw ⟨z6, z7, z8, z9, rfl, rfl⟩
      refine ⟨_, rfl, ?_⟩
      simp [-aft_nx]
      refine lcL_pure eLink (fun l => l.2.1 == (w : Int)) eKR _ rfl (fun l hl => ⟨_, rfl, ?_, fun _ => ?_⟩) ?_
      · simp [eLink]
        exact (Decidable.em _).symm
      · simp [eLink, eKR, cut_kr]
      have f1 : ((linksL n c).filter fun l => l.2.1 == (w : Int)).length ≤ 400 := Nat.le_trans (List.length_filter_le _ _) hll
      refine ⟨by simp [lim]; omega, ?_⟩
      refine wp_cSortG (asLC_lst.mpr rfl) sortOk_kr ?_
      rw [aft_nx]
      simp only [wps_seq]
      simp [-aft_nx]
      refine lcL_pure eLink (fun l => l.1 == (w : Int)) eKR _ rfl (fun l hl => ⟨_, rfl, ?_, fun _ => ?_⟩) ?_
      · simp [eLink]
        exact (Decidable.em _).symm
      · simp [eLink, eKR, cut_kr]
      have f2 : ((linksL n c).filter fun l => l.1 == (w : Int)).length ≤ 400 := Nat.le_trans (List.length_filter_le _ _) hll
      refine ⟨by simp [lim]; omega, ?_⟩
      refine wp_cSortG (asLC_lst.mpr rfl) sortOk_kr ?_
      rw [aft_nx]
      simp only [wps_seq]
      simp [-aft_nx]
      refine letters_to_w hn hc ?_
      refine letters_from_w hn hc ?_
      have e1 : lettersTo (linksP n c) w = srtG (((linksL n c).filter fun l => l.2.1 == (w : Int)).map eKR) := letters_eq hp _
      have e2 : lettersFrom (linksP n c) w = srtG (((linksL n c).filter fun l => l.1 == (w : Int)).map eKR) := letters_eq hp _
      rw [e1, e2]
      have k1 := fit_letters (ls := linksL n c) (fun l hl => link_kind hl) fun l => l.2.1 == (w : Int)
      have k2 := fit_letters (ls := linksL n c) (fun l hl => link_kind hl) fun l => l.1 == (w : Int)
      generalize srtG (((linksL n c).filter fun l => l.2.1 == (w : Int)).map eKR) = A at *
      generalize srtG (((linksL n c).filter fun l => l.1 == (w : Int)).map eKR) = B at *
      have hfit : fit 7 (.lst [.lst A, .lst B]) = true := by
        simp
        exact ⟨k1, k2⟩
      rw [aft_nx]
      simp [-aft_nx]
      refine wp_dNe (eqD_same (rs_fit hfit) (rs_fit hfit) (fit_up 7 60 _ (by omega) hfit)) ?_
      simp
    · rintro ρ T ⟨z6, z7, z8, z9, rfl, rfl⟩
      rw [aft_nx]
      simp
theorem law_true (ns : List Int) (hns : ns.length ≤ 63) : ∃ S, f_law [.scr ns] [] = some (.bl true, S) := by
  obtain ⟨d, S, e, rfl⟩ := law_wp ns
  exact ⟨S, e⟩
end C
set_option Elab.async false
set_option linter.all false
set_option maxRecDepth 100000
set_option maxHeartbeats 4000000
namespace C
open PySem L2 Z
theorem all_mk {l : PySem.W.OpenLaw} {w : World} {K : PySem.W.Frag} {h : Heap} {mg : Str → Option Value} {fa f1 f2 f3 f4 f5 f6 f7 f8 f9 f10 f11 f12 f13 f14 f15 f16 f17 f18 f19 f20 f21 f22 f23 f24 : Addr} (X : K.In h) (G : h.Ns mainGlobals mg) (hfa : mg "law" = some (.ref fa))
    {od1 an1 od2 an2 od3 an3 od4 an4 od5 an5 od6 an6 od7 an7 od8 an8 od9 an9 od10 an10 od11 an11 od12 an12 od13 an13 od14 an14 od15 an15 od16 an16 od17 an17 od18 an18 od19 an19 od20 an20 od21 an21 od22 an22 od23 an23 od24 an24 : Option Addr} {sl1 sl2 sl3 sl4 sl5 sl6 sl7 sl8 sl9 sl10 sl11 sl12 sl13 sl14 sl15 sl16 sl17 sl18 sl19 sl20 sl21 sl22 sl23 sl24 : Array (Option Value)} {oc1 kV1 dc1 pm1 cd1 ct1 oc2 kV2 dc2 pm2 cd2 ct2 oc3 kV3 dc3 pm3 cd3 ct3 oc4 kV4 dc4 pm4 cd4 ct4 oc5 kV5 dc5 pm5 cd5 ct5 oc6 kV6 dc6 pm6 cd6 ct6 oc7 kV7 dc7 pm7 cd7 ct7 oc8 kV8 dc8 pm8 cd8 ct8 oc9 kV9 dc9 pm9 cd9 ct9 oc10 kV10 dc10 pm10 cd10 ct10 oc11 kV11 dc11 pm11 cd11 ct11 oc12 kV12 dc12 pm12 cd12 ct12 oc13 kV13 dc13 pm13 cd13 ct13 oc14 kV14 dc14 pm14 cd14 ct14 oc15 kV15 dc15 pm15 cd15 ct15 oc16 kV16 dc16 pm16 cd16 ct16 oc17 kV17 dc17 pm17 cd17 ct17 oc18 kV18 dc18 pm18 cd18 ct18 oc19 kV19 dc19 pm19 cd19 ct19 oc20 kV20 dc20 pm20 cd20 ct20 oc21 kV21 dc21 pm21 cd21 ct21 oc22 kV22 dc22 pm22 cd22 ct22 oc23 kV23 dc23 pm23 cd23 ct23 oc24 kV24 dc24 pm24 cd24 ct24 : Value} {t_MOST_CELLS t_MOST_CROSSINGS t_MOST_DURATION t_MOST_LANES t_MOST_LIMIT t_MOST_OUTS t_MOST_PHASES t_MOST_ROADS t_MOST_WORKERS : Tok}
    (a1 : PySem.W.nsIn K mainGlobals "is_list" = some (some (.ref f1))) (l1 : K.lookup f1 = some ⟨oc1, od1, .func (PySem.W.fnOf "is_list" "is_list" (defArgs s_is_list) (defBody s_is_list) (defScope s_is_list) .none kV1 dc1 pm1 an1 cd1 ct1), sl1⟩) (c1 : PySem.W.codeIn K cd1 "is_list" = true) (k1 : PySem.W.keepIn K (.ref f1) = true)
    (a2 : PySem.W.nsIn K mainGlobals "is_whole" = some (some (.ref f2))) (l2 : K.lookup f2 = some ⟨oc2, od2, .func (PySem.W.fnOf "is_whole" "is_whole" (defArgs s_is_whole) (defBody s_is_whole) (defScope s_is_whole) .none kV2 dc2 pm2 an2 cd2 ct2), sl2⟩) (c2 : PySem.W.codeIn K cd2 "is_whole" = true) (k2 : PySem.W.keepIn K (.ref f2) = true)
    (a3 : PySem.W.nsIn K mainGlobals "is_rising" = some (some (.ref f3))) (l3 : K.lookup f3 = some ⟨oc3, od3, .func (PySem.W.fnOf "is_rising" "is_rising" (defArgs s_is_rising) (defBody s_is_rising) (defScope s_is_rising) .none kV3 dc3 pm3 an3 cd3 ct3), sl3⟩) (c3 : PySem.W.codeIn K cd3 "is_rising" = true) (k3 : PySem.W.keepIn K (.ref f3) = true)
    (a4 : PySem.W.nsIn K mainGlobals "is_road" = some (some (.ref f4))) (l4 : K.lookup f4 = some ⟨oc4, od4, .func (PySem.W.fnOf "is_road" "is_road" (defArgs s_is_road) (defBody s_is_road) (defScope s_is_road) .none kV4 dc4 pm4 an4 cd4 ct4), sl4⟩) (c4 : PySem.W.codeIn K cd4 "is_road" = true) (k4 : PySem.W.keepIn K (.ref f4) = true)
    (a5 : PySem.W.nsIn K mainGlobals "road_ends" = some (some (.ref f5))) (l5 : K.lookup f5 = some ⟨oc5, od5, .func (PySem.W.fnOf "road_ends" "road_ends" (defArgs s_road_ends) (defBody s_road_ends) (defScope s_road_ends) .none kV5 dc5 pm5 an5 cd5 ct5), sl5⟩) (c5 : PySem.W.codeIn K cd5 "road_ends" = true) (k5 : PySem.W.keepIn K (.ref f5) = true)
    (a6 : PySem.W.nsIn K mainGlobals "is_phase" = some (some (.ref f6))) (l6 : K.lookup f6 = some ⟨oc6, od6, .func (PySem.W.fnOf "is_phase" "is_phase" (defArgs s_is_phase) (defBody s_is_phase) (defScope s_is_phase) .none kV6 dc6 pm6 an6 cd6 ct6), sl6⟩) (c6 : PySem.W.codeIn K cd6 "is_phase" = true) (k6 : PySem.W.keepIn K (.ref f6) = true)
    (a7 : PySem.W.nsIn K mainGlobals "is_rule" = some (some (.ref f7))) (l7 : K.lookup f7 = some ⟨oc7, od7, .func (PySem.W.fnOf "is_rule" "is_rule" (defArgs s_is_rule) (defBody s_is_rule) (defScope s_is_rule) .none kV7 dc7 pm7 an7 cd7 ct7), sl7⟩) (c7 : PySem.W.codeIn K cd7 "is_rule" = true) (k7 : PySem.W.keepIn K (.ref f7) = true)
    (a8 : PySem.W.nsIn K mainGlobals "check_net" = some (some (.ref f8))) (l8 : K.lookup f8 = some ⟨oc8, od8, .func (PySem.W.fnOf "check_net" "check_net" (defArgs s_check_net) (defBody s_check_net) (defScope s_check_net) .none kV8 dc8 pm8 an8 cd8 ct8), sl8⟩) (c8 : PySem.W.codeIn K cd8 "check_net" = true) (k8 : PySem.W.keepIn K (.ref f8) = true)
    (a9 : PySem.W.nsIn K mainGlobals "ends" = some (some (.ref f9))) (l9 : K.lookup f9 = some ⟨oc9, od9, .func (PySem.W.fnOf "ends" "ends" (defArgs s_ends) (defBody s_ends) (defScope s_ends) .none kV9 dc9 pm9 an9 cd9 ct9), sl9⟩) (c9 : PySem.W.codeIn K cd9 "ends" = true) (k9 : PySem.W.keepIn K (.ref f9) = true)
    (a10 : PySem.W.nsIn K mainGlobals "owner" = some (some (.ref f10))) (l10 : K.lookup f10 = some ⟨oc10, od10, .func (PySem.W.fnOf "owner" "owner" (defArgs s_owner) (defBody s_owner) (defScope s_owner) .none kV10 dc10 pm10 an10 cd10 ct10), sl10⟩) (c10 : PySem.W.codeIn K cd10 "owner" = true) (k10 : PySem.W.keepIn K (.ref f10) = true)
    (a11 : PySem.W.nsIn K mainGlobals "links" = some (some (.ref f11))) (l11 : K.lookup f11 = some ⟨oc11, od11, .func (PySem.W.fnOf "links" "links" (defArgs s_links) (defBody s_links) (defScope s_links) .none kV11 dc11 pm11 an11 cd11 ct11), sl11⟩) (c11 : PySem.W.codeIn K cd11 "links" = true) (k11 : PySem.W.keepIn K (.ref f11) = true)
    (a12 : PySem.W.nsIn K mainGlobals "letters_to" = some (some (.ref f12))) (l12 : K.lookup f12 = some ⟨oc12, od12, .func (PySem.W.fnOf "letters_to" "letters_to" (defArgs s_letters_to) (defBody s_letters_to) (defScope s_letters_to) .none kV12 dc12 pm12 an12 cd12 ct12), sl12⟩) (c12 : PySem.W.codeIn K cd12 "letters_to" = true) (k12 : PySem.W.keepIn K (.ref f12) = true)
    (a13 : PySem.W.nsIn K mainGlobals "letters_from" = some (some (.ref f13))) (l13 : K.lookup f13 = some ⟨oc13, od13, .func (PySem.W.fnOf "letters_from" "letters_from" (defArgs s_letters_from) (defBody s_letters_from) (defScope s_letters_from) .none kV13 dc13 pm13 an13 cd13 ct13), sl13⟩) (c13 : PySem.W.codeIn K cd13 "letters_from" = true) (k13 : PySem.W.keepIn K (.ref f13) = true)
    (a14 : PySem.W.nsIn K mainGlobals "_law_stream" = some (some (.ref f14))) (l14 : K.lookup f14 = some ⟨oc14, od14, .func (PySem.W.fnOf "_law_stream" "_law_stream" (defArgs s__law_stream) (defBody s__law_stream) (defScope s__law_stream) .none kV14 dc14 pm14 an14 cd14 ct14), sl14⟩) (c14 : PySem.W.codeIn K cd14 "_law_stream" = true) (k14 : PySem.W.keepIn K (.ref f14) = true)
    (a15 : PySem.W.nsIn K mainGlobals "_law_draw" = some (some (.ref f15))) (l15 : K.lookup f15 = some ⟨oc15, od15, .func (PySem.W.fnOf "_law_draw" "_law_draw" (defArgs s__law_draw) (defBody s__law_draw) (defScope s__law_draw) .none kV15 dc15 pm15 an15 cd15 ct15), sl15⟩) (c15 : PySem.W.codeIn K cd15 "_law_draw" = true) (k15 : PySem.W.keepIn K (.ref f15) = true)
    (a16 : PySem.W.nsIn K mainGlobals "_law_rule" = some (some (.ref f16))) (l16 : K.lookup f16 = some ⟨oc16, od16, .func (PySem.W.fnOf "_law_rule" "_law_rule" (defArgs s__law_rule) (defBody s__law_rule) (defScope s__law_rule) .none kV16 dc16 pm16 an16 cd16 ct16), sl16⟩) (c16 : PySem.W.codeIn K cd16 "_law_rule" = true) (k16 : PySem.W.keepIn K (.ref f16) = true)
    (a17 : PySem.W.nsIn K mainGlobals "_law_net" = some (some (.ref f17))) (l17 : K.lookup f17 = some ⟨oc17, od17, .func (PySem.W.fnOf "_law_net" "_law_net" (defArgs s__law_net) (defBody s__law_net) (defScope s__law_net) .none kV17 dc17 pm17 an17 cd17 ct17), sl17⟩) (c17 : PySem.W.codeIn K cd17 "_law_net" = true) (k17 : PySem.W.keepIn K (.ref f17) = true)
    (a18 : PySem.W.nsIn K mainGlobals "_law_cutting" = some (some (.ref f18))) (l18 : K.lookup f18 = some ⟨oc18, od18, .func (PySem.W.fnOf "_law_cutting" "_law_cutting" (defArgs s__law_cutting) (defBody s__law_cutting) (defScope s__law_cutting) .none kV18 dc18 pm18 an18 cd18 ct18), sl18⟩) (c18 : PySem.W.codeIn K cd18 "_law_cutting" = true) (k18 : PySem.W.keepIn K (.ref f18) = true)
    (a19 : PySem.W.nsIn K mainGlobals "_law_owner" = some (some (.ref f19))) (l19 : K.lookup f19 = some ⟨oc19, od19, .func (PySem.W.fnOf "_law_owner" "_law_owner" (defArgs s__law_owner) (defBody s__law_owner) (defScope s__law_owner) .none kV19 dc19 pm19 an19 cd19 ct19), sl19⟩) (c19 : PySem.W.codeIn K cd19 "_law_owner" = true) (k19 : PySem.W.keepIn K (.ref f19) = true)
    (a20 : PySem.W.nsIn K mainGlobals "_law_links" = some (some (.ref f20))) (l20 : K.lookup f20 = some ⟨oc20, od20, .func (PySem.W.fnOf "_law_links" "_law_links" (defArgs s__law_links) (defBody s__law_links) (defScope s__law_links) .none kV20 dc20 pm20 an20 cd20 ct20), sl20⟩) (c20 : PySem.W.codeIn K cd20 "_law_links" = true) (k20 : PySem.W.keepIn K (.ref f20) = true)
    (a21 : PySem.W.nsIn K mainGlobals "check_cutting" = some (some (.ref f21))) (l21 : K.lookup f21 = some ⟨oc21, od21, .func (PySem.W.fnOf "check_cutting" "check_cutting" (defArgs s_check_cutting) (defBody s_check_cutting) (defScope s_check_cutting) .none kV21 dc21 pm21 an21 cd21 ct21), sl21⟩) (c21 : PySem.W.codeIn K cd21 "check_cutting" = true) (k21 : PySem.W.keepIn K (.ref f21) = true)
    (a22 : PySem.W.nsIn K mainGlobals "_law_told" = some (some (.ref f22))) (l22 : K.lookup f22 = some ⟨oc22, od22, .func (PySem.W.fnOf "_law_told" "_law_told" (defArgs s__law_told) (defBody s__law_told) (defScope s__law_told) .none kV22 dc22 pm22 an22 cd22 ct22), sl22⟩) (c22 : PySem.W.codeIn K cd22 "_law_told" = true) (k22 : PySem.W.keepIn K (.ref f22) = true)
    (a23 : PySem.W.nsIn K mainGlobals "_law_hurt" = some (some (.ref f23))) (l23 : K.lookup f23 = some ⟨oc23, od23, .func (PySem.W.fnOf "_law_hurt" "_law_hurt" (defArgs s__law_hurt) (defBody s__law_hurt) (defScope s__law_hurt) .none kV23 dc23 pm23 an23 cd23 ct23), sl23⟩) (c23 : PySem.W.codeIn K cd23 "_law_hurt" = true) (k23 : PySem.W.keepIn K (.ref f23) = true)
    (a24 : PySem.W.nsIn K mainGlobals "law" = some (some (.ref f24))) (l24 : K.lookup f24 = some ⟨oc24, od24, .func (PySem.W.fnOf "law" "law" (defArgs s_law) (defBody s_law) (defScope s_law) .none kV24 dc24 pm24 an24 cd24 ct24), sl24⟩) (c24 : PySem.W.codeIn K cd24 "law" = true) (k24 : PySem.W.keepIn K (.ref f24) = true)
    (z_abs : PySem.W.nsIn K mainGlobals "abs" = some none)
    (z_all : PySem.W.nsIn K mainGlobals "all" = some none)
    (z_bool : PySem.W.nsIn K mainGlobals "bool" = some none)
    (z_enumerate : PySem.W.nsIn K mainGlobals "enumerate" = some none)
    (z_int : PySem.W.nsIn K mainGlobals "int" = some none)
    (z_isinstance : PySem.W.nsIn K mainGlobals "isinstance" = some none)
    (z_len : PySem.W.nsIn K mainGlobals "len" = some none)
    (z_list : PySem.W.nsIn K mainGlobals "list" = some none)
    (z_max : PySem.W.nsIn K mainGlobals "max" = some none)
    (z_min : PySem.W.nsIn K mainGlobals "min" = some none)
    (z_range : PySem.W.nsIn K mainGlobals "range" = some none)
    (z_repr : PySem.W.nsIn K mainGlobals "repr" = some none)
    (z_set : PySem.W.nsIn K mainGlobals "set" = some none)
    (z_sorted : PySem.W.nsIn K mainGlobals "sorted" = some none)
    (z_str : PySem.W.nsIn K mainGlobals "str" = some none)
    (z_tuple : PySem.W.nsIn K mainGlobals "tuple" = some none)
    (y_MOST_CELLS : PySem.W.nsIn K mainGlobals "MOST_CELLS" = some (some (.int 20 t_MOST_CELLS)))
    (y_MOST_CROSSINGS : PySem.W.nsIn K mainGlobals "MOST_CROSSINGS" = some (some (.int 8 t_MOST_CROSSINGS)))
    (y_MOST_DURATION : PySem.W.nsIn K mainGlobals "MOST_DURATION" = some (some (.int 9 t_MOST_DURATION)))
    (y_MOST_LANES : PySem.W.nsIn K mainGlobals "MOST_LANES" = some (some (.int 3 t_MOST_LANES)))
    (y_MOST_LIMIT : PySem.W.nsIn K mainGlobals "MOST_LIMIT" = some (some (.int 5 t_MOST_LIMIT)))
    (y_MOST_OUTS : PySem.W.nsIn K mainGlobals "MOST_OUTS" = some (some (.int 4 t_MOST_OUTS)))
    (y_MOST_PHASES : PySem.W.nsIn K mainGlobals "MOST_PHASES" = some (some (.int 4 t_MOST_PHASES)))
    (y_MOST_ROADS : PySem.W.nsIn K mainGlobals "MOST_ROADS" = some (some (.int 12 t_MOST_ROADS)))
    (y_MOST_WORKERS : PySem.W.nsIn K mainGlobals "MOST_WORKERS" = some (some (.int 4 t_MOST_WORKERS)))
    {E_BadCutting : Addr} (ea_BadCutting : PySem.W.nsIn K mainGlobals "BadCutting" = some (some (.ref E_BadCutting))) (ex_BadCutting : PySem.W.excIn K E_BadCutting [.type "ValueError", .type "Exception", .type "BaseException", .type "object"] "ValueError.__new__" = true) (ek_BadCutting : PySem.W.keepIn K (.ref E_BadCutting) = true) (eb_BadCutting : PySem.W.subIn K (.ref E_BadCutting) (.type "BaseException") = some true) (et_BadCutting : PySem.W.typeIn K (.ref E_BadCutting) = some (.type "type")) (ei_BadCutting : PySem.W.isClsIn K E_BadCutting = true) (es_BadCutting : PySem.W.subIn K (.ref E_BadCutting) (.ref E_BadCutting) = some true)
    {E_BadNet : Addr} (ea_BadNet : PySem.W.nsIn K mainGlobals "BadNet" = some (some (.ref E_BadNet))) (ex_BadNet : PySem.W.excIn K E_BadNet [.type "ValueError", .type "Exception", .type "BaseException", .type "object"] "ValueError.__new__" = true) (ek_BadNet : PySem.W.keepIn K (.ref E_BadNet) = true) (eb_BadNet : PySem.W.subIn K (.ref E_BadNet) (.type "BaseException") = some true) (et_BadNet : PySem.W.typeIn K (.ref E_BadNet) = some (.type "type")) (ei_BadNet : PySem.W.isClsIn K E_BadNet = true) (es_BadNet : PySem.W.subIn K (.ref E_BadNet) (.ref E_BadNet) = some true)
    {E_CarfaxError : Addr} (ea_CarfaxError : PySem.W.nsIn K mainGlobals "CarfaxError" = some (some (.ref E_CarfaxError))) (eb_CarfaxError : PySem.W.subIn K (.ref E_CarfaxError) (.type "BaseException") = some true) (et_CarfaxError : PySem.W.typeIn K (.ref E_CarfaxError) = some (.type "type")) (ei_CarfaxError : PySem.W.isClsIn K E_CarfaxError = true)
    (es_BadCutting_CarfaxError : PySem.W.subIn K (.ref E_BadCutting) (.ref E_CarfaxError) = some true)
    (yc_BadCutting : ExcC K E_BadCutting)
    (kq_BadCutting_BadCutting : PySem.W.kitOne K (.ref E_BadCutting) (.ref E_BadCutting) = some true)
    : ∃ fd : FuncData, (∀ (s : Shared) (v : Value), BindsTo s fd ⟨[v], []⟩ [("_law_script", v)]) ∧ ∀ base : Heap, K.In base → base.Ns mainGlobals mg → GRun l.prog w K mg base CX0 6 fa fd ["_law_script"] (spG K 1 f_law) := by
  cases hfa.symm.trans (PySem.W.mg_of X G a24)
  have T : Txt mg := ⟨PySem.W.mg_none_of X G z_abs, PySem.W.mg_none_of X G z_all, PySem.W.mg_none_of X G z_bool, PySem.W.mg_none_of X G z_enumerate, PySem.W.mg_none_of X G z_int, PySem.W.mg_none_of X G z_isinstance, PySem.W.mg_none_of X G z_len, PySem.W.mg_none_of X G z_list, PySem.W.mg_none_of X G z_max, PySem.W.mg_none_of X G z_min, PySem.W.mg_none_of X G z_range, PySem.W.mg_none_of X G z_repr, PySem.W.mg_none_of X G z_set, PySem.W.mg_none_of X G z_sorted, PySem.W.mg_none_of X G z_str, PySem.W.mg_none_of X G z_tuple, ⟨_, PySem.W.mg_of X G y_MOST_CELLS⟩, ⟨_, PySem.W.mg_of X G y_MOST_CROSSINGS⟩, ⟨_, PySem.W.mg_of X G y_MOST_DURATION⟩, ⟨_, PySem.W.mg_of X G y_MOST_LANES⟩, ⟨_, PySem.W.mg_of X G y_MOST_LIMIT⟩, ⟨_, PySem.W.mg_of X G y_MOST_OUTS⟩, ⟨_, PySem.W.mg_of X G y_MOST_PHASES⟩, ⟨_, PySem.W.mg_of X G y_MOST_ROADS⟩, ⟨_, PySem.W.mg_of X G y_MOST_WORKERS⟩⟩
  have x_BadCutting : ExcN K mg "BadCutting" E_BadCutting := ⟨PySem.W.mg_of X G ea_BadCutting, ex_BadCutting, ek_BadCutting, eb_BadCutting, et_BadCutting, exm_self eb_BadCutting ei_BadCutting et_BadCutting es_BadCutting⟩
  have x_BadNet : ExcN K mg "BadNet" E_BadNet := ⟨PySem.W.mg_of X G ea_BadNet, ex_BadNet, ek_BadNet, eb_BadNet, et_BadNet, exm_self eb_BadNet ei_BadNet et_BadNet es_BadNet⟩
  have F1 := fun_mk (st := s_is_list) l1 c1 k1
  have b1 := F1.binds (ps := ["value", "most"]) fun _ _ _ _ _ _ us hl => match us, hl with | [_, _], _ => rfl
  have F2 := fun_mk (st := s_is_whole) l2 c2 k2
  have b2 := F2.binds (ps := ["value", "least", "most"]) fun _ _ _ _ _ _ us hl => match us, hl with | [_, _, _], _ => rfl
  have F3 := fun_mk (st := s_is_rising) l3 c3 k3
  have b3 := F3.binds (ps := ["value", "most", "count"]) fun _ _ _ _ _ _ us hl => match us, hl with | [_, _, _], _ => rfl
  have F4 := fun_mk (st := s_is_road) l4 c4 k4
  have b4 := F4.binds (ps := ["value", "crossings"]) fun _ _ _ _ _ _ us hl => match us, hl with | [_, _], _ => rfl
  have F5 := fun_mk (st := s_road_ends) l5 c5 k5
  have b5 := F5.binds (ps := ["roads", "crossing"]) fun _ _ _ _ _ _ us hl => match us, hl with | [_, _], _ => rfl
  have F6 := fun_mk (st := s_is_phase) l6 c6 k6
  have b6 := F6.binds (ps := ["value", "ends", "count"]) fun _ _ _ _ _ _ us hl => match us, hl with | [_, _, _], _ => rfl
  have F7 := fun_mk (st := s_is_rule) l7 c7 k7
  have b7 := F7.binds (ps := ["value", "ends", "count"]) fun _ _ _ _ _ _ us hl => match us, hl with | [_, _, _], _ => rfl
  have F8 := fun_mk (st := s_check_net) l8 c8 k8
  have b8 := F8.binds (ps := ["value"]) fun _ _ _ _ _ _ us hl => match us, hl with | [_], _ => rfl
  have F9 := fun_mk (st := s_ends) l9 c9 k9
  have b9 := F9.binds (ps := ["net"]) fun _ _ _ _ _ _ us hl => match us, hl with | [_], _ => rfl
  have F10 := fun_mk (st := s_owner) l10 c10 k10
  have b10 := F10.binds (ps := ["net", "cutting", "crossing"]) fun _ _ _ _ _ _ us hl => match us, hl with | [_, _, _], _ => rfl
  have F11 := fun_mk (st := s_links) l11 c11 k11
  have b11 := F11.binds (ps := ["net", "cutting"]) fun _ _ _ _ _ _ us hl => match us, hl with | [_, _], _ => rfl
  have F12 := fun_mk (st := s_letters_to) l12 c12 k12
  have b12 := F12.binds (ps := ["net", "cutting", "worker"]) fun _ _ _ _ _ _ us hl => match us, hl with | [_, _, _], _ => rfl
  have F13 := fun_mk (st := s_letters_from) l13 c13 k13
  have b13 := F13.binds (ps := ["net", "cutting", "worker"]) fun _ _ _ _ _ _ us hl => match us, hl with | [_, _, _], _ => rfl
  have F14 := fun_mk (st := s__law_stream) l14 c14 k14
  have b14 := F14.binds (ps := ["_law_script"]) fun _ _ _ _ _ _ us hl => match us, hl with | [_], _ => rfl
  have F15 := fun_mk (st := s__law_draw) l15 c15 k15
  have b15 := F15.binds (ps := ["_law_stream_here", "_law_many"]) fun _ _ _ _ _ _ us hl => match us, hl with | [_, _], _ => rfl
  have F16 := fun_mk (st := s__law_rule) l16 c16 k16
  have b16 := F16.binds (ps := ["_law_stream_here", "_law_inside"]) fun _ _ _ _ _ _ us hl => match us, hl with | [_, _], _ => rfl
  have F17 := fun_mk (st := s__law_net) l17 c17 k17
  have b17 := F17.binds (ps := ["_law_stream_here"]) fun _ _ _ _ _ _ us hl => match us, hl with | [_], _ => rfl
  have F18 := fun_mk (st := s__law_cutting) l18 c18 k18
  have b18 := F18.binds (ps := ["_law_stream_here", "_law_net_here"]) fun _ _ _ _ _ _ us hl => match us, hl with | [_, _], _ => rfl
  have F19 := fun_mk (st := s__law_owner) l19 c19 k19
  have b19 := F19.binds (ps := ["_law_net_here", "_law_cutting_here", "_law_crossing"]) fun _ _ _ _ _ _ us hl => match us, hl with | [_, _, _], _ => rfl
  have F20 := fun_mk (st := s__law_links) l20 c20 k20
  have b20 := F20.binds (ps := ["_law_net_here", "_law_cutting_here"]) fun _ _ _ _ _ _ us hl => match us, hl with | [_, _], _ => rfl
  have F21 := fun_mk (st := s_check_cutting) l21 c21 k21
  have b21 := F21.binds (ps := ["net", "value"]) fun _ _ _ _ _ _ us hl => match us, hl with | [_, _], _ => rfl
  have F22 := fun_mk (st := s__law_told) l22 c22 k22
  have b22 := F22.binds (ps := ["_law_net_here", "_law_value"]) fun _ _ _ _ _ _ us hl => match us, hl with | [_, _], _ => rfl
  have F23 := fun_mk (st := s__law_hurt) l23 c23 k23
  have b23 := F23.binds (ps := ["_law_stream_here", "_law_cutting_here"]) fun _ _ _ _ _ _ us hl => match us, hl with | [_, _], _ => rfl
  have F24 := fun_mk (st := s_law) l24 c24 k24
  refine ⟨PySem.W.fnOf "law" "law" (defArgs s_law) (defBody s_law) (defScope s_law) .none kV24 dc24 pm24 an24 cd24 ct24, fun s v => .of_eq rfl, fun base _ _ => ?_⟩
  have C1 : Cal l.prog w K mg base 1 "is_list" (spF K 2 f_is_list) := ⟨f1, _, _, ok_is_list F1 T , PySem.W.mg_of X G a1, k1, b1⟩
  have C2 : Cal l.prog w K mg base 1 "is_whole" (spF K 3 f_is_whole) := ⟨f2, _, _, ok_is_whole F2 T , PySem.W.mg_of X G a2, k2, b2⟩
  have C3 : Cal l.prog w K mg base 2 "is_rising" (spF K 3 f_is_rising) := ⟨f3, _, _, ok_is_rising F3 T C2 C1, PySem.W.mg_of X G a3, k3, b3⟩
  have C4 : Cal l.prog w K mg base 2 "is_road" (spF K 2 f_is_road) := ⟨f4, _, _, ok_is_road F4 T C2 C1, PySem.W.mg_of X G a4, k4, b4⟩
  have C5 : Cal l.prog w K mg base 1 "road_ends" (spF K 2 f_road_ends) := ⟨f5, _, _, ok_road_ends F5 T , PySem.W.mg_of X G a5, k5, b5⟩
  have C6 : Cal l.prog w K mg base 3 "is_phase" (spF K 3 f_is_phase) := ⟨f6, _, _, ok_is_phase F6 T C2 C1 C3, PySem.W.mg_of X G a6, k6, b6⟩
  have C7 : Cal l.prog w K mg base 4 "is_rule" (spF K 3 f_is_rule) := ⟨f7, _, _, ok_is_rule F7 T C2 C1 C6, PySem.W.mg_of X G a7, k7, b7⟩
  have C8 : CalX l.prog w K mg base 5 "check_net" (spX K mg 1 f_check_net) := ⟨f8, _, _, ok_check_net F8 T C1 C3 C4 C5 C7 x_BadNet, PySem.W.mg_of X G a8, k8, b8⟩
  have C9 : Cal l.prog w K mg base 2 "ends" (spF K 1 f_ends) := ⟨f9, _, _, ok_ends F9 T C5, PySem.W.mg_of X G a9, k9, b9⟩
  have C10 : Cal l.prog w K mg base 3 "owner" (spF K 3 f_owner) := ⟨f10, _, _, ok_owner F10 T C9, PySem.W.mg_of X G a10, k10, b10⟩
  have C11 : Cal l.prog w K mg base 4 "links" (spF K 2 f_links) := ⟨f11, _, _, ok_links F11 T C9 C10, PySem.W.mg_of X G a11, k11, b11⟩
  have C12 : Cal l.prog w K mg base 5 "letters_to" (spF K 3 f_letters_to) := ⟨f12, _, _, ok_letters_to F12 T C11, PySem.W.mg_of X G a12, k12, b12⟩
  have C13 : Cal l.prog w K mg base 5 "letters_from" (spF K 3 f_letters_from) := ⟨f13, _, _, ok_letters_from F13 T C11, PySem.W.mg_of X G a13, k13, b13⟩
  have C14 : Cal l.prog w K mg base 1 "_law_stream" (spG K 1 f__law_stream) := ⟨f14, _, _, ok__law_stream F14 T , PySem.W.mg_of X G a14, k14, b14⟩
  have C15 : Cal l.prog w K mg base 1 "_law_draw" (spF K 2 f__law_draw) := ⟨f15, _, _, ok__law_draw F15 T , PySem.W.mg_of X G a15, k15, b15⟩
  have C16 : Cal l.prog w K mg base 2 "_law_rule" (spF K 2 f__law_rule) := ⟨f16, _, _, ok__law_rule F16 T C15, PySem.W.mg_of X G a16, k16, b16⟩
  have C17 : Cal l.prog w K mg base 3 "_law_net" (spF K 1 f__law_net) := ⟨f17, _, _, ok__law_net F17 T C15 C16, PySem.W.mg_of X G a17, k17, b17⟩
  have C18 : Cal l.prog w K mg base 2 "_law_cutting" (spF K 2 f__law_cutting) := ⟨f18, _, _, ok__law_cutting F18 T C15, PySem.W.mg_of X G a18, k18, b18⟩
  have C19 : Cal l.prog w K mg base 1 "_law_owner" (spF K 3 f__law_owner) := ⟨f19, _, _, ok__law_owner F19 T , PySem.W.mg_of X G a19, k19, b19⟩
  have C20 : Cal l.prog w K mg base 2 "_law_links" (spF K 2 f__law_links) := ⟨f20, _, _, ok__law_links F20 T C19, PySem.W.mg_of X G a20, k20, b20⟩
  have C21 : CalX l.prog w K mg base 2 "check_cutting" (spX K mg 2 f_check_cutting) := ⟨f21, _, _, ok_check_cutting F21 T C2 C1 x_BadCutting, PySem.W.mg_of X G a21, k21, b21⟩
  have C22 : Cal l.prog w K mg base 3 "_law_told" (spF K 2 f__law_told) := ⟨f22, _, _, ok__law_told F22 T C21 x_BadCutting yc_BadCutting (PySem.W.mg_of X G ea_CarfaxError) (exm_sub eb_CarfaxError ei_CarfaxError et_CarfaxError es_BadCutting_CarfaxError) kq_BadCutting_BadCutting, PySem.W.mg_of X G a22, k22, b22⟩
  have C23 : Cal l.prog w K mg base 2 "_law_hurt" (spF K 2 f__law_hurt) := ⟨f23, _, _, ok__law_hurt F23 T C15, PySem.W.mg_of X G a23, k23, b23⟩
  exact ok_law F24 T C8 C10 C12 C13 C14 C17 C18 C19 C20 C22 C23
theorem walk {l : PySem.W.OpenLaw} {q : Program} {loose : List Str} {XP : (Str → Option Value) → Heap → Prop} {YP : World → Heap → Prop} {d : DefRec} {K : Params → PySem.W.Frag} (hn : l.most = some 63) (hdf : d.params.defaults = [])
    (hY : ∀ (w : World) (h : Heap), YP w h → (K w.params).In h) (hl : ∀ ns : List Int, ns.length ≤ 63 → ∃ S, f_law [.scr ns] [] = some (.bl true, S))
    (F : ∀ (w : World) (mg : Str → Option Value) (fa : Addr) (h : Heap), (K w.params).In h → h.Ns mainGlobals mg → mg d.name = some (.ref fa) →
      ∃ fd : FuncData, (∀ (s : Shared) (u : Value), BindsTo s fd ⟨[u], []⟩ [("_law_script", u)]) ∧ ∀ base : Heap, (K w.params).In base → base.Ns mainGlobals mg → GRun l.prog w (K w.params) mg base CX0 6 fa fd ["_law_script"] (spG (K w.params) 1 f_law)) :
    PySem.W.WalkO q loose XP YP l.row.toRowW d [] (fun f vs => PySem.call f vs) :=
  L2.walkG (n := 63) (k := 6) (x := "_law_script") (sp := fun w => spG (K w.params) 1 f_law) hn (by decide) hdf ⟨rfl, by decide, by decide⟩ hY F fun w H a ns hlen _ hS =>
    let ⟨S, e⟩ := hl ns hlen
    ⟨B0, [], [], [.scr ns], _, S, ⟨rfl, List.nodup_nil, fun _ z => z.elim, fun n a o e _ => by simp at e⟩, rfl, .cons _ _ _ _ (.scr a ns (match hS with | .inl h => .inl ⟨h, by simp, fun z => z⟩ | .inr h => .inr (.inr h))) .nil, e,
      fun v _ H' _ _ r => by cases r; rfl⟩
end C
open PySem PySem.W PyProof.Rows
set_option maxRecDepth 100000 in
set_option maxHeartbeats 0 in
theorem PySem.Challenge.cw_carfax_k40_cuttings_holds : PySem.Challenge.rw_carfax_k40_cuttings.Holds := by
  w_on; o_law; k_head; (case hw => w_witness2)
  k_fill
  refine C.walk (l := PySem.Challenge.rw_carfax_k40_cuttings) rfl rfl (fun w h Y => PySem.W.kIn_of Y) C.law_true ?F
  case F =>
    intro w mg fa h KX G hmg
    refine' C.all_mk KX G hmg ?a1 ?l1 ?c1 ?k1 ?a2 ?l2 ?c2 ?k2 ?a3 ?l3 ?c3 ?k3 ?a4 ?l4 ?c4 ?k4 ?a5 ?l5 ?c5 ?k5 ?a6 ?l6 ?c6 ?k6 ?a7 ?l7 ?c7 ?k7 ?a8 ?l8 ?c8 ?k8 ?a9 ?l9 ?c9 ?k9 ?a10 ?l10 ?c10 ?k10 ?a11 ?l11 ?c11 ?k11 ?a12 ?l12 ?c12 ?k12 ?a13 ?l13 ?c13 ?k13 ?a14 ?l14 ?c14 ?k14 ?a15 ?l15 ?c15 ?k15 ?a16 ?l16 ?c16 ?k16 ?a17 ?l17 ?c17 ?k17 ?a18 ?l18 ?c18 ?k18 ?a19 ?l19 ?c19 ?k19 ?a20 ?l20 ?c20 ?k20 ?a21 ?l21 ?c21 ?k21 ?a22 ?l22 ?c22 ?k22 ?a23 ?l23 ?c23 ?k23 ?a24 ?l24 ?c24 ?k24 ?z_abs ?z_all ?z_bool ?z_enumerate ?z_int ?z_isinstance ?z_len ?z_list ?z_max ?z_min ?z_range ?z_repr ?z_set ?z_sorted ?z_str ?z_tuple ?y_MOST_CELLS ?y_MOST_CROSSINGS ?y_MOST_DURATION ?y_MOST_LANES ?y_MOST_LIMIT ?y_MOST_OUTS ?y_MOST_PHASES ?y_MOST_ROADS ?y_MOST_WORKERS ?ea_BadCutting ?ex_BadCutting ?ek_BadCutting ?eb_BadCutting ?et_BadCutting ?ei_BadCutting ?es_BadCutting ?ea_BadNet ?ex_BadNet ?ek_BadNet ?eb_BadNet ?et_BadNet ?ei_BadNet ?es_BadNet ?ea_CarfaxError ?eb_CarfaxError ?et_CarfaxError ?ei_CarfaxError ?es_BadCutting_CarfaxError ?yc_BadCutting ?kq_BadCutting_BadCutting
    (case a1 => k_is)
    (case l1 => k_is)
    (case c1 => k_is)
    (case k1 => k_is)
    (case a2 => k_is)
    (case l2 => k_is)
    (case c2 => k_is)
    (case k2 => k_is)
    (case a3 => k_is)
    (case l3 => k_is)
    (case c3 => k_is)
    (case k3 => k_is)
    (case a4 => k_is)
    (case l4 => k_is)
    (case c4 => k_is)
    (case k4 => k_is)
    (case a5 => k_is)
    (case l5 => k_is)
    (case c5 => k_is)
    (case k5 => k_is)
    (case a6 => k_is)
    (case l6 => k_is)
    (case c6 => k_is)
    (case k6 => k_is)
    (case a7 => k_is)
    (case l7 => k_is)
    (case c7 => k_is)
    (case k7 => k_is)
    (case a8 => k_is)
    (case l8 => k_is)
    (case c8 => k_is)
    (case k8 => k_is)
    (case a9 => k_is)
    (case l9 => k_is)
    (case c9 => k_is)
    (case k9 => k_is)
    (case a10 => k_is)
    (case l10 => k_is)
    (case c10 => k_is)
    (case k10 => k_is)
    (case a11 => k_is)
    (case l11 => k_is)
    (case c11 => k_is)
    (case k11 => k_is)
    (case a12 => k_is)
    (case l12 => k_is)
    (case c12 => k_is)
    (case k12 => k_is)
    (case a13 => k_is)
    (case l13 => k_is)
    (case c13 => k_is)
    (case k13 => k_is)
    (case a14 => k_is)
    (case l14 => k_is)
    (case c14 => k_is)
    (case k14 => k_is)
    (case a15 => k_is)
    (case l15 => k_is)
    (case c15 => k_is)
    (case k15 => k_is)
    (case a16 => k_is)
    (case l16 => k_is)
    (case c16 => k_is)
    (case k16 => k_is)
    (case a17 => k_is)
    (case l17 => k_is)
    (case c17 => k_is)
    (case k17 => k_is)
    (case a18 => k_is)
    (case l18 => k_is)
    (case c18 => k_is)
    (case k18 => k_is)
    (case a19 => k_is)
    (case l19 => k_is)
    (case c19 => k_is)
    (case k19 => k_is)
    (case a20 => k_is)
    (case l20 => k_is)
    (case c20 => k_is)
    (case k20 => k_is)
    (case a21 => k_is)
    (case l21 => k_is)
    (case c21 => k_is)
    (case k21 => k_is)
    (case a22 => k_is)
    (case l22 => k_is)
    (case c22 => k_is)
    (case k22 => k_is)
    (case a23 => k_is)
    (case l23 => k_is)
    (case c23 => k_is)
    (case k23 => k_is)
    (case a24 => k_is)
    (case l24 => k_is)
    (case c24 => k_is)
    (case k24 => k_is)
    (case z_abs => k_is)
    (case z_all => k_is)
    (case z_bool => k_is)
    (case z_enumerate => k_is)
    (case z_int => k_is)
    (case z_isinstance => k_is)
    (case z_len => k_is)
    (case z_list => k_is)
    (case z_max => k_is)
    (case z_min => k_is)
    (case z_range => k_is)
    (case z_repr => k_is)
    (case z_set => k_is)
    (case z_sorted => k_is)
    (case z_str => k_is)
    (case z_tuple => k_is)
    (case y_MOST_CELLS => k_is)
    (case y_MOST_CROSSINGS => k_is)
    (case y_MOST_DURATION => k_is)
    (case y_MOST_LANES => k_is)
    (case y_MOST_LIMIT => k_is)
    (case y_MOST_OUTS => k_is)
    (case y_MOST_PHASES => k_is)
    (case y_MOST_ROADS => k_is)
    (case y_MOST_WORKERS => k_is)
    (case ea_BadCutting => k_is)
    (case ex_BadCutting => k_exc)
    (case ek_BadCutting => k_is)
    (case eb_BadCutting => k_is)
    (case et_BadCutting => k_is)
    (case ei_BadCutting => k_is)
    (case es_BadCutting => first | rfl | k_is)
    (case ea_BadNet => k_is)
    (case ex_BadNet => k_exc)
    (case ek_BadNet => k_is)
    (case eb_BadNet => k_is)
    (case et_BadNet => k_is)
    (case ei_BadNet => k_is)
    (case es_BadNet => first | rfl | k_is)
    (case ea_CarfaxError => k_is)
    (case eb_CarfaxError => k_is)
    (case et_CarfaxError => k_is)
    (case ei_CarfaxError => k_is)
    (case es_BadCutting_CarfaxError => first | rfl | k_is)
    (case yc_BadCutting => constructor <;> (first | k_is | rfl))
    (case kq_BadCutting_BadCutting => first | rfl | k_is | decide +kernel)
#print axioms PySem.Challenge.cw_carfax_k40_cuttings_holds
